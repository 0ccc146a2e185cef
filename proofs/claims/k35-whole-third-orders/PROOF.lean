import PyProof.Rows.All
import Wide.All
import OpenK.AllK
import Wide.FinOn
import HandS.ForMost
import HandS.IsInst
import HandS.Conv
import HandS.Deep
import HandS.TupAny
import HandS.TupSets
import HandS.Strs
import HandS.SetFor
import HandS.TupLe
import HandS.Walk
import HandS.Evl
import KE.GoesEnum
import HandS.Iter
import PySem.Challenge.RW_countdoors_k35_whole_third_orders
/-! M1: the sum over the doors that can be opened next (ratios). -/
namespace Cd
def prodR (f : Nat → Rat) : List Nat → Rat
  | [] => 1
  | a :: l => f a * prodR f l
def sumR (f : Nat → Rat) : List Nat → Rat
  | [] => 0
  | a :: l => f a + sumR f l
theorem prodR_congr {f g : Nat → Rat} : ∀ {l : List Nat}, (∀ a ∈ l, f a = g a) → prodR f l = prodR g l
  | [], _ => rfl
  | a :: l, h => by
    have h1 := h a (by simp)
    have h2 := prodR_congr (l := l) fun b hb => h b (by simp [hb])
    simp only [prodR, h1, h2]
theorem sumR_congr {f g : Nat → Rat} : ∀ {l : List Nat}, (∀ a ∈ l, f a = g a) → sumR f l = sumR g l
  | [], _ => rfl
  | a :: l, h => by
    have h1 := h a (by simp)
    have h2 := sumR_congr (l := l) fun b hb => h b (by simp [hb])
    simp only [sumR, h1, h2]
theorem sumR_mul {f : Nat → Rat} {c : Rat} : ∀ {l : List Nat}, sumR (fun a => c * f a) l = c * sumR f l
  | [] => by simp only [sumR]; grind
  | a :: l => by
    have h := sumR_mul (f := f) (c := c) (l := l)
    simp only [sumR, h]
    grind
theorem sumR_add {f g : Nat → Rat} : ∀ {l : List Nat}, sumR (fun a => f a + g a) l = sumR f l + sumR g l
  | [] => by simp only [sumR]; grind
  | a :: l => by
    have h := sumR_add (f := f) (g := g) (l := l)
    simp only [sumR, h]
    grind
/-- 1 or 0 -/
def bR (b : Bool) : Rat := if b then 1 else 0
theorem sum_bR (J : Nat → Bool) : ∀ l : List Nat, sumR (fun a => bR (J a)) l = ((l.countP J : Nat) : Rat)
  | [] => by simp [sumR]
  | a :: l => by
    have h := sum_bR J l
    simp only [sumR, h, List.countP_cons]
    cases J a <;> simp [bR] <;> grind

section
variable (ins : Nat → Nat → Bool) (c r s : Nat → Rat)
/-- the factor of a once k has been opened -/
def fk (k a : Nat) : Rat := if ins a k = true then (c a - r a) / (s a - 1) else c a / s a
def tk (D : List Nat) (k : Nat) : Rat := prodR (fun a => if a = k then 1 else fk ins c r s k a) D
/-- the doors of D: greatest first; each one's size told -/
inductive Good : List Nat → Prop
  | nil : Good []
  | cons {v : Nat} {D : List Nat} : (∀ a ∈ D, a < v) → s v = 1 + ((D.countP fun k => ins v k : Nat) : Rat) → (s v = 1 → c v = r v) → Good D → Good (v :: D)
theorem main_sum (lt : ∀ a k, ins a k = true → k < a) (tr : ∀ a b k, ins a b = true → ins b k = true → ins a k = true) (lam : ∀ a b k, ins a k = true → ins b k = true → a = b ∨ ins a b = true ∨ ins b a = true) :
    ∀ {D : List Nat}, Good ins c r s D → ∀ J : Nat → Bool, (∀ a ∈ D, ∀ k ∈ D, ins a k = true → J a = J k) →
      sumR (fun k => bR (J k) * (r k * tk ins c r s D k)) D = ((D.countP J : Nat) : Rat) * prodR (fun a => c a / s a) D := by
  intro D G
  induction G with
  | nil => intro J _; simp [sumR, prodR] 
  | @cons v D' hv hs h1 G ih =>
    intro J hJ
    have iv : ∀ a ∈ D', ins a v = false := fun a ha => by
      cases h : ins a v with
      | false => rfl
      | true => have := lt _ _ h; have := hv a ha; omega
    have nv : ∀ a ∈ D', a ≠ v := fun a ha e => by have := hv a ha; omega
    have tv : tk ins c r s (v :: D') v = prodR (fun a => c a / s a) D' := by
      have e : prodR (fun a => if a = v then 1 else fk ins c r s v a) D' = prodR (fun a => c a / s a) D' := prodR_congr fun a ha => by
        rw [if_neg (nv a ha)]
        unfold fk
        rw [iv a ha]
        simp
      unfold tk
      simp only [prodR]
      rw [e]
      simp only [if_true]
      grind
    have tkk : ∀ k ∈ D', tk ins c r s (v :: D') k = fk ins c r s k v * tk ins c r s D' k := fun k hk => by
      unfold tk
      simp only [prodR]
      rw [if_neg (fun e => nv k hk e.symm)]
    have ih1 := ih (fun k => ins v k) (fun a ha k hk h => by
      cases h1 : ins v a with
      | true => exact (tr _ _ _ h1 h).symm
      | false =>
        cases h2 : ins v k with
        | false => rfl
        | true =>
          rcases lam _ _ _ h h2 with e | e | e
          · exact absurd e (nv a ha)
          · rw [iv a ha] at e; cases e
          · rw [h1] at e; cases e)
    simp only [sumR, prodR, List.countP_cons]
    rw [tv]
    generalize hP : prodR (fun a => c a / s a) D' = P at *
    generalize hi : (D'.countP fun k => ins v k) = i at *
    cases hJv : J v with
    | false =>
      have e : sumR (fun k => bR (J k) * (r k * tk ins c r s (v :: D') k)) D' = sumR (fun k => (c v / s v) * (bR (J k) * (r k * tk ins c r s D' k))) D' := sumR_congr fun k hk => by
        rw [tkk k hk]
        cases hk2 : J k with
        | false => simp only [bR]; grind
        | true =>
          have hf : ins v k = false := by
            cases h : ins v k with
            | false => rfl
            | true =>
              have := hJ v (by simp) k (by simp [hk]) h
              rw [hJv, hk2] at this
              cases this
          unfold fk
          rw [hf]
          simp only [bR]
          grind
      rw [e, sumR_mul, ih J (fun a ha k hk => hJ a (by simp [ha]) k (by simp [hk]))]
      simp only [bR]
      grind
    | true =>
      have e : sumR (fun k => bR (J k) * (r k * tk ins c r s (v :: D') k)) D' =
          sumR (fun k => ((c v - r v) / (s v - 1)) * (bR (ins v k) * (r k * tk ins c r s D' k)) + (c v / s v) * (bR (J k && !ins v k) * (r k * tk ins c r s D' k))) D' := sumR_congr fun k hk => by
        rw [tkk k hk]
        unfold fk
        cases hk2 : ins v k with
        | false => cases J k <;> simp [bR] <;> grind
        | true =>
          have := hJ v (by simp) k (by simp [hk]) hk2
          rw [← this, hJv]
          simp [bR]
          grind
      have ih2 := ih (fun k => J k && !ins v k) (fun a ha k hk h => by
        have e1 := hJ a (by simp [ha]) k (by simp [hk]) h
        have e2 : ins v a = ins v k := by
          cases h1 : ins v a with
          | true => exact (tr _ _ _ h1 h).symm
          | false =>
            cases h2 : ins v k with
            | false => rfl
            | true =>
              rcases lam _ _ _ h h2 with e | e | e
              · exact absurd e (nv a ha)
              · rw [iv a ha] at e; cases e
              · rw [h1] at e; cases e
        show (J a && !ins v a) = (J k && !ins v k)
        rw [e1, e2])
      rw [e, sumR_add, sumR_mul, sumR_mul, ih1, ih2]
      have cnt : D'.countP J = i + D'.countP fun k => J k && !ins v k := by
        rw [← hi]
        have : ∀ l : List Nat, (∀ k ∈ l, k ∈ D') → l.countP J = l.countP (fun k => ins v k) + l.countP fun k => J k && !ins v k := by
          intro l
          induction l with
          | nil => intro _; rfl
          | cons a l ih =>
            intro h
            have h1 := ih fun k hk => h k (by simp [hk])
            simp only [List.countP_cons]
            rw [h1]
            have : ins v a = true → J a = true := fun q => by
              rw [← hJ v (by simp) a (by simp [h a (by simp)]) q, hJv]
            cases h2 : ins v a <;> cases h3 : J a <;> simp_all <;> omega
        exact this D' fun _ h => h
      rw [cnt]
      generalize (D'.countP fun k => J k && !ins v k) = j
      have es : s v = 1 + (i : Rat) := hs
      by_cases h0 : i = 0
      · subst h0
        have e1 : s v = 1 := by rw [es]; grind
        have := h1 e1
        rw [this, e1]
        simp [bR]
        grind
      · have hi0 : (i : Rat) ≠ 0 := by
          intro q
          exact h0 (by exact_mod_cast q)
        have hs0 : s v ≠ 0 := by
          rw [es]
          intro q
          have : ((1 + i : Nat) : Rat) = 0 := by rw [Rat.natCast_add]; exact q
          have : 1 + i = 0 := by exact_mod_cast this
          omega
        simp only [bR, if_true, Rat.natCast_add]
        rw [es] at hs0 ⊢
        grind
end
end Cd

set_option linter.all false
/-! M2: nests, what lies inside, the orders one by one, their count by the product. -/
namespace Cd
abbrev NestL := List (Option Nat)
structure NOk (ns : NestL) : Prop where
  lo : 1 ≤ ns.length
  hi : ns.length ≤ 6
  up : ∀ k j, ns.getD k none = some j → k < j ∧ j < ns.length
/-- the doors around k, the nearest first -/
def aro (ns : NestL) : Nat → Nat → List Nat
  | 0, _ => []
  | f + 1, k => match ns.getD k none with
    | none => []
    | some j => j :: aro ns f j
def insB (ns : NestL) (a k : Nat) : Bool := (aro ns ns.length k).contains a
def inside (ns : NestL) (d : Nat) : List Nat := (List.range d).filter fun k => insB ns d k
inductive Anc (ns : NestL) : Nat → Nat → Prop
  | one {k a} : ns.getD k none = some a → Anc ns k a
  | more {k j a} : ns.getD k none = some j → Anc ns j a → Anc ns k a
theorem anc_of_mem {ns : NestL} : ∀ {f k a : Nat}, a ∈ aro ns f k → Anc ns k a
  | 0, _, _, h => by simp [aro] at h
  | f + 1, k, a, h => by
    unfold aro at h
    split at h
    · simp at h
    · rename_i j e
      rcases List.mem_cons.mp h with h | h
      · subst h; exact .one e
      · exact .more e (anc_of_mem h)
theorem Anc.lt {ns : NestL} (ok : NOk ns) {k a : Nat} (h : Anc ns k a) : k < a ∧ a < ns.length := by
  induction h with
  | one e => exact ok.up _ _ e
  | more e _ ih => have := ok.up _ _ e; omega
theorem Anc.mem {ns : NestL} (ok : NOk ns) {k a : Nat} (h : Anc ns k a) : ∀ f, a - k ≤ f → a ∈ aro ns f k := by
  induction h with
  | @one k a e =>
    intro f hf
    have := ok.up _ _ e
    cases f with
    | zero => omega
    | succ f => unfold aro; rw [e]; simp
  | @more k j a e h ih =>
    intro f hf
    have := ok.up _ _ e
    have := h.lt ok
    cases f with
    | zero => omega
    | succ f => unfold aro; rw [e]; simp [ih f (by omega)]
theorem Anc.trans {ns : NestL} {k b a : Nat} (h : Anc ns k b) (h2 : Anc ns b a) : Anc ns k a := by
  induction h with
  | one e => exact .more e h2
  | more e _ ih => exact .more e (ih h2)
theorem Anc.lam {ns : NestL} {k b a : Nat} (h : Anc ns k a) (h2 : Anc ns k b) : a = b ∨ Anc ns b a ∨ Anc ns a b := by
  induction h with
  | @one k a e =>
    cases h2 with
    | one e2 => rw [e] at e2; exact .inl (Option.some.inj e2)
    | more e2 h2 => rw [e] at e2; cases e2; exact .inr (.inr h2)
  | @more k j a e h ih =>
    cases h2 with
    | one e2 => rw [e] at e2; cases e2; exact .inr (.inl h)
    | more e2 h2 => rw [e] at e2; cases e2; exact ih h2
theorem insB_iff {ns : NestL} (ok : NOk ns) {a k : Nat} : insB ns a k = true ↔ Anc ns k a := by
  unfold insB
  rw [List.contains_iff_mem]
  exact ⟨anc_of_mem, fun h => h.mem ok _ (by have := h.lt ok; omega)⟩
theorem ins_lt {ns : NestL} (ok : NOk ns) : ∀ a k, insB ns a k = true → k < a := fun a k h => ((insB_iff ok).mp h).lt ok |>.1
theorem ins_tr {ns : NestL} (ok : NOk ns) : ∀ a b k, insB ns a b = true → insB ns b k = true → insB ns a k = true := fun a b k h h2 =>
  (insB_iff ok).mpr (((insB_iff ok).mp h2).trans ((insB_iff ok).mp h))
theorem ins_lam {ns : NestL} (ok : NOk ns) : ∀ a b k, insB ns a k = true → insB ns b k = true → a = b ∨ insB ns a b = true ∨ insB ns b a = true := fun a b k h h2 => by
  rcases ((insB_iff ok).mp h).lam ((insB_iff ok).mp h2) with e | e | e
  · exact .inl e
  · exact .inr (.inl ((insB_iff ok).mpr e))
  · exact .inr (.inr ((insB_iff ok).mpr e))
theorem mem_inside {ns : NestL} (ok : NOk ns) {a k : Nat} : k ∈ inside ns a ↔ insB ns a k = true := by
  unfold inside
  rw [List.mem_filter, List.mem_range]
  exact ⟨fun h => h.2, fun h => ⟨ins_lt ok _ _ h, h⟩⟩
theorem inside_nodup {ns : NestL} {a : Nat} : (inside ns a).Nodup := List.Pairwise.filter _ List.nodup_range

/-! ### states, orders -/
abbrev NumsL := List (List Nat)
def cnt (ns : NestL) (S : List Nat) (k : Nat) : Nat := ((inside ns k).filter fun x => S.contains x).length
def ready (ns : NestL) (nums : NumsL) (S : List Nat) : List Nat := (List.range ns.length).filter fun k => !S.contains k && (nums.getD k []).contains (cnt ns S k)
/-- all allowed orders that begin with S, m doors to come -/
def enum (ns : NestL) (nums : NumsL) : Nat → List Nat → List (List Nat)
  | 0, S => [S]
  | m + 1, S => (ready ns nums S).flatMap fun k => enum ns nums m (S ++ [k])
def fresh (ns : NestL) (S : List Nat) : List Nat := (List.range ns.length).filter fun k => !S.contains k
def sizeS (ns : NestL) (S : List Nat) (k : Nat) : Nat := 1 + ((inside ns k).filter fun x => (fresh ns S).contains x).length
def winS (ns : NestL) (nums : NumsL) (S : List Nat) (k : Nat) : Nat := ((nums.getD k []).filter fun x => decide (cnt ns S k ≤ x) && decide (x < cnt ns S k + sizeS ns S k)).length
def prodN : List Nat → Nat
  | [] => 1
  | a :: l => a * prodN l
def factN : Nat → Nat
  | 0 => 1
  | n + 1 => (n + 1) * factN n
def ways (ns : NestL) (nums : NumsL) (S : List Nat) : Nat :=
  (factN (fresh ns S).length * prodN ((fresh ns S).map (winS ns nums S))) / prodN ((fresh ns S).map (sizeS ns S))

structure SOk (ns : NestL) (S : List Nat) : Prop where
  nd : S.Nodup
  lt : ∀ k ∈ S, k < ns.length
def NumsOk (nums : NumsL) : Prop := ∀ k, (nums.getD k []).Nodup

theorem mem_fresh {ns : NestL} {S : List Nat} {k : Nat} : k ∈ fresh ns S ↔ k < ns.length ∧ k ∉ S := by
  unfold fresh
  rw [List.mem_filter, List.mem_range]
  simp
theorem fresh_nodup {ns : NestL} {S : List Nat} : (fresh ns S).Nodup := List.Pairwise.filter _ List.nodup_range
theorem sizeS_eq {ns : NestL} (ok : NOk ns) {S : List Nat} {k : Nat} (hk : k < ns.length) : sizeS ns S k = 1 + (inside ns k).countP fun x => !S.contains x := by
  unfold sizeS
  rw [← List.countP_eq_length_filter]
  congr 1
  refine List.countP_congr fun x hx => ?_
  have hx := ins_lt ok _ _ ((mem_inside ok).mp hx)
  rw [List.contains_iff_mem, mem_fresh]
  simp
  omega
theorem cnt_size {ns : NestL} (ok : NOk ns) {S : List Nat} {k : Nat} (hk : k < ns.length) : cnt ns S k + sizeS ns S k = 1 + (inside ns k).length := by
  rw [sizeS_eq ok hk]
  unfold cnt
  rw [← List.countP_eq_length_filter]
  have := List.length_eq_countP_add_countP (fun x => S.contains x) (l := inside ns k)
  simp at this ⊢
  omega
theorem countP_or_eq {S : List Nat} {k : Nat} (hk : k ∉ S) : ∀ {l : List Nat}, l.Nodup → l.countP (fun x => (S ++ [k]).contains x) = l.countP (fun x => S.contains x) + if k ∈ l then 1 else 0
  | [], _ => by simp
  | a :: l, h => by
    have ih := countP_or_eq hk (List.nodup_cons.mp h).2
    have ha := (List.nodup_cons.mp h).1
    simp only [List.countP_cons, ih]
    by_cases e : a = k
    · subst e
      simp [ha, hk]
    · have e' : k ≠ a := fun q => e q.symm
      simp [e, e']
      by_cases h1 : a ∈ S <;> by_cases h2 : k ∈ l <;> simp [h1, h2] <;> omega
theorem cnt_add {ns : NestL} (ok : NOk ns) {S : List Nat} {k a : Nat} (hk : k ∉ S) : cnt ns (S ++ [k]) a = cnt ns S a + if insB ns a k = true then 1 else 0 := by
  unfold cnt
  rw [← List.countP_eq_length_filter, ← List.countP_eq_length_filter, countP_or_eq hk inside_nodup]
  simp only [mem_inside ok]
theorem fresh_add {ns : NestL} {S : List Nat} {k : Nat} : fresh ns (S ++ [k]) = (fresh ns S).filter fun a => a != k := by
  unfold fresh
  rw [List.filter_filter]
  refine List.filter_congr fun a _ => ?_
  simp only [List.contains_eq_mem, List.mem_append, List.mem_singleton]
  by_cases h1 : a ∈ S <;> by_cases h2 : a = k <;> simp [h1, h2]
theorem countP_ge {l : List Nat} (b : Nat) (t : Nat) : ∀ (_ : l.Nodup), b ≤ t → l.countP (fun x => decide (b ≤ x) && decide (x < t + 1)) = l.countP (fun x => decide (b + 1 ≤ x) && decide (x < t + 1)) + if l.contains b = true then 1 else 0 := by
  induction l with
  | nil => intro _ _; simp
  | cons a l ih =>
    intro h hb
    have ih := ih (List.nodup_cons.mp h).2 hb
    have ha := (List.nodup_cons.mp h).1
    simp only [List.countP_cons, ih]
    by_cases e : a = b
    · subst e
      have e1 : (decide (a ≤ a) && decide (a < t + 1)) = true := by simp; omega
      have e2 : (decide (a + 1 ≤ a) && decide (a < t + 1)) = false := by simp; omega
      have e3 : (List.contains (a :: l) a) = true := by simp
      have e4 : (List.contains l a) = false := by simpa using ha
      rw [e1, e2, e3, e4]
    · have e' : b ≠ a := fun q => e q.symm
      have : (List.contains (a :: l) b) = List.contains l b := by simp [e']
      rw [this]
      by_cases h1 : b ≤ a
      · have h2 : b + 1 ≤ a := by omega
        simp [h1, h2]
        omega
      · have h2 : ¬ b + 1 ≤ a := by omega
        simp [h1, h2]
theorem winS_eq {ns : NestL} (ok : NOk ns) {nums : NumsL} {S : List Nat} {k : Nat} (hk : k < ns.length) : winS ns nums S k = (nums.getD k []).countP fun x => decide (cnt ns S k ≤ x) && decide (x < (inside ns k).length + 1) := by
  unfold winS
  rw [← List.countP_eq_length_filter, cnt_size ok hk, Nat.add_comm]
theorem cnt_le {ns : NestL} {S : List Nat} {k : Nat} : cnt ns S k ≤ (inside ns k).length := by unfold cnt; exact List.length_filter_le _ _

section
variable (ns : NestL) (nums : NumsL) (S : List Nat)
def cR (a : Nat) : Rat := ((winS ns nums S a : Nat) : Rat)
def rR (a : Nat) : Rat := bR ((nums.getD a []).contains (cnt ns S a))
def sR (a : Nat) : Rat := ((sizeS ns S a : Nat) : Rat)
end
theorem good_upto {ns : NestL} (ok : NOk ns) {nums : NumsL} (nk : NumsOk nums) {S : List Nat} : ∀ j, j ≤ ns.length → Good (insB ns) (cR ns nums S) (rR ns nums S) (sR ns S) ((List.range j).filter fun k => !S.contains k).reverse
  | 0, _ => .nil
  | j + 1, h => by
    have ih := good_upto ok nk (S := S) j (by omega)
    rw [List.range_succ, List.filter_append, List.reverse_append]
    by_cases hj : S.contains j = true
    · rw [show [j].filter (fun k => !S.contains k) = [] by rw [List.filter_cons, hj]; rfl]
      simpa using ih
    · have hj' : S.contains j = false := by simpa using hj
      simp only [List.filter_cons, hj', Bool.not_false, if_true, List.filter_nil, List.reverse_singleton, List.singleton_append]
      refine .cons (fun a ha => ?_) ?_ (fun h1 => ?_) ih
      · simp at ha; omega
      · unfold sR
        rw [sizeS_eq ok (by omega), Rat.natCast_add]
        congr 1
        unfold inside
        rw [List.countP_filter, List.countP_reverse, List.countP_filter]
        norm_cast
        refine List.countP_congr fun x _ => ?_
        simp [Bool.and_comm]
      · have h2 : sizeS ns S j = 1 := by
          have : ((sizeS ns S j : Nat) : Rat) = ((1 : Nat) : Rat) := h1
          exact_mod_cast this
        have h3 := cnt_size ok (S := S) (k := j) (by omega)
        have h4 : cnt ns S j = (inside ns j).length := by omega
        unfold cR rR
        rw [winS_eq ok (by omega), h4, countP_ge _ _ (nk j) (Nat.le_refl _)]
        have : (nums.getD j []).countP (fun x => decide ((inside ns j).length + 1 ≤ x) && decide (x < (inside ns j).length + 1)) = 0 := by
          rw [List.countP_eq_zero]
          intro x _
          simp
        rw [this]
        cases (nums.getD j []).contains (inside ns j).length <;> simp [bR]
/-- the product of the chances -/
def PR (ns : NestL) (nums : NumsL) (S : List Nat) : Rat := prodR (fun a => cR ns nums S a / sR ns S a) (fresh ns S).reverse
theorem prodR_filter {g : Nat → Rat} {k : Nat} : ∀ {l : List Nat}, prodR g (l.filter fun a => a != k) = prodR (fun a => if a = k then 1 else g a) l
  | [] => rfl
  | a :: l => by
    have ih := prodR_filter (g := g) (k := k) (l := l)
    rw [List.filter_cons]
    by_cases e : a = k
    · subst e
      simp only [bne_self_eq_false, Bool.false_eq_true, if_false, prodR, ih, if_true]
      grind
    · have : (a != k) = true := by simpa using e
      simp only [this, if_true, prodR, ih, if_neg e]
theorem PR_add {ns : NestL} (ok : NOk ns) {nums : NumsL} (nk : NumsOk nums) {S : List Nat} {k : Nat} (hk : k ∉ S) : PR ns nums (S ++ [k]) = tk (insB ns) (cR ns nums S) (rR ns nums S) (sR ns S) (fresh ns S).reverse k := by
  unfold PR tk
  rw [fresh_add, ← List.filter_reverse, prodR_filter]
  refine prodR_congr fun a ha => ?_
  by_cases e : a = k
  · rw [if_pos e, if_pos e]
  · rw [if_neg e, if_neg e]
    have ha' : a < ns.length := (mem_fresh.mp (List.mem_reverse.mp ha)).1
    have hc := cnt_size ok (S := S) ha'
    have hc2 := cnt_size ok (S := S ++ [k]) ha'
    have hca := cnt_add ok (a := a) hk
    unfold fk
    cases hi : insB ns a k with
    | false =>
      rw [hi] at hca
      simp at hca
      have hs : sizeS ns (S ++ [k]) a = sizeS ns S a := by omega
      simp only [cR, sR, Bool.false_eq_true, if_false]
      rw [winS_eq ok ha', winS_eq ok ha', hs, hca]
    | true =>
      rw [hi] at hca
      simp at hca
      have hs : sizeS ns S a = sizeS ns (S ++ [k]) a + 1 := by omega
      have hle : cnt ns S a ≤ (inside ns a).length := cnt_le
      simp only [cR, sR, rR, if_true]
      rw [winS_eq ok ha', winS_eq ok ha', hs, hca, countP_ge _ _ (nk a) hle]
      generalize (nums.getD a []).countP _ = c
      generalize sizeS ns (S ++ [k]) a = s
      cases (nums.getD a []).contains (cnt ns S a) with
      | false =>
        simp only [Bool.false_eq_true, if_false, bR, Rat.natCast_add]
        grind
      | true =>
        simp only [if_true, bR, Rat.natCast_add]
        grind
theorem SOk.add {ns : NestL} {S : List Nat} (h : SOk ns S) {k : Nat} (hk : k ∈ fresh ns S) : SOk ns (S ++ [k]) := by
  have := mem_fresh.mp hk
  refine ⟨?_, fun x hx => ?_⟩
  · rw [List.nodup_append]
    refine ⟨h.nd, by simp, ?_⟩
    intro a ha b hb
    simp at hb
    subst hb
    exact fun e => this.2 (e ▸ ha)
  · rcases List.mem_append.mp hx with hx | hx
    · exact h.lt x hx
    · simp at hx; omega
theorem fresh_length {ns : NestL} {S : List Nat} (h : SOk ns S) : (fresh ns S).length + S.length = ns.length := by
  have h1 := List.length_eq_countP_add_countP (fun x => S.contains x) (l := List.range ns.length)
  unfold fresh
  rw [← List.countP_eq_length_filter]
  have h2 : (List.range ns.length).countP (fun x => S.contains x) = S.length := by
    rw [List.countP_eq_length_filter]
    refine List.Perm.length_eq ?_
    refine (List.perm_ext_iff_of_nodup (List.Pairwise.filter _ List.nodup_range) h.nd).mpr fun a => ?_
    simp
    exact h.lt a
  rw [h2, List.length_range] at h1
  simp at h1 ⊢
  omega
theorem length_flatMap_sum {α β : Type} (f : α → List β) : ∀ l : List α, (l.flatMap f).length = (l.map fun a => (f a).length).sum
  | [] => rfl
  | a :: l => by simp [length_flatMap_sum f l]
theorem sum_ready {ns : NestL} {nums : NumsL} {S : List Nat} (f : Nat → Nat) : ∀ l : List Nat, ((((l.filter fun k => !S.contains k && (nums.getD k []).contains (cnt ns S k)).map f).sum : Nat) : Rat) = sumR (fun k => rR ns nums S k * (f k : Rat)) (l.filter fun k => !S.contains k)
  | [] => by simp [sumR]
  | a :: l => by
    have ih := sum_ready (ns := ns) (nums := nums) (S := S) f l
    simp only [List.filter_cons]
    cases h1 : S.contains a with
    | true => simpa using ih
    | false =>
      cases h2 : (nums.getD a []).contains (cnt ns S a) with
      | true =>
        simp only [Bool.not_false, Bool.and_self, if_true, List.map_cons, List.sum_cons, sumR, Rat.natCast_add, ih, rR, h2, bR]
        grind
      | false =>
        simp only [Bool.not_false, Bool.and_false, Bool.false_eq_true, if_false, if_true, sumR, ih, rR, h2, bR]
        grind
theorem sumR_rev {f : Nat → Rat} : ∀ {l : List Nat}, sumR f l.reverse = sumR f l := by
  have app : ∀ (l m : List Nat), sumR f (l ++ m) = sumR f l + sumR f m := by
    intro l
    induction l with
    | nil => intro m; simp only [List.nil_append, sumR]; grind
    | cons a l ih => intro m; simp only [List.cons_append, sumR, ih]; grind
  intro l
  induction l with
  | nil => rfl
  | cons a l ih => simp only [List.reverse_cons, app, ih, sumR]; grind
theorem enum_count {ns : NestL} (ok : NOk ns) {nums : NumsL} (nk : NumsOk nums) : ∀ (m : Nat) (S : List Nat), SOk ns S → m + S.length = ns.length → (((enum ns nums m S).length : Nat) : Rat) = ((factN m : Nat) : Rat) * PR ns nums S
  | 0, S, h, hm => by
    have := fresh_length h
    have h0 : fresh ns S = [] := List.length_eq_zero_iff.mp (by omega)
    simp [enum, factN, PR, h0, prodR]
  | m + 1, S, h, hm => by
    have hf := fresh_length h
    have hlen : (fresh ns S).length = m + 1 := by omega
    unfold enum
    rw [length_flatMap_sum]
    unfold ready
    rw [sum_ready]
    show sumR _ (fresh ns S) = _
    have e : sumR (fun k => rR ns nums S k * (((enum ns nums m (S ++ [k])).length : Nat) : Rat)) (fresh ns S) = sumR (fun k => ((factN m : Nat) : Rat) * (bR true * (rR ns nums S k * tk (insB ns) (cR ns nums S) (rR ns nums S) (sR ns S) (fresh ns S).reverse k))) (fresh ns S) := sumR_congr fun k hk => by
      rw [enum_count ok nk m (S ++ [k]) (h.add hk) (by simp; omega), PR_add ok nk (mem_fresh.mp hk).2]
      simp only [bR, if_true]
      grind
    rw [e, sumR_mul, ← sumR_rev, main_sum (insB ns) (cR ns nums S) (rR ns nums S) (sR ns S) (ins_lt ok) (ins_tr ok) (ins_lam ok) (show Good (insB ns) (cR ns nums S) (rR ns nums S) (sR ns S) (fresh ns S).reverse from good_upto ok nk ns.length (Nat.le_refl _)) (fun _ => true) (fun _ _ _ _ _ => rfl)]
    show _ * (_ * PR ns nums S) = _
    rw [show List.countP (fun _ => true) (fresh ns S).reverse = m + 1 by simp [hlen]]
    simp only [factN]
    rw [Rat.natCast_mul]
    grind
theorem prodR_div {f g : Nat → Nat} : ∀ {l : List Nat}, (∀ a ∈ l, g a ≠ 0) → prodR (fun a => (f a : Rat) / (g a : Rat)) l * ((prodN (l.map g) : Nat) : Rat) = ((prodN (l.map f) : Nat) : Rat)
  | [], _ => by simp [prodR, prodN]
  | a :: l, h => by
    have ih := prodR_div (f := f) (g := g) (l := l) fun b hb => h b (by simp [hb])
    have h0 : (g a : Rat) ≠ 0 := fun q => h a (by simp) (by exact_mod_cast q)
    simp only [prodR, List.map_cons, prodN, Rat.natCast_mul]
    rw [← ih]
    grind
theorem prodN_pos : ∀ {l : List Nat}, (∀ a ∈ l, 0 < a) → 0 < prodN l
  | [], _ => Nat.one_pos
  | a :: l, h => Nat.mul_pos (h a (by simp)) (prodN_pos fun b hb => h b (by simp [hb]))
theorem prodN_app : ∀ l m : List Nat, prodN (l ++ m) = prodN l * prodN m
  | [], m => by simp [prodN]
  | a :: l, m => by simp [prodN, prodN_app l m, Nat.mul_assoc]
theorem prodN_rev : ∀ l : List Nat, prodN l.reverse = prodN l
  | [] => rfl
  | a :: l => by simp [prodN_app, prodN_rev l, prodN, Nat.mul_comm]
theorem enum_mul {ns : NestL} (ok : NOk ns) {nums : NumsL} (nk : NumsOk nums) {S : List Nat} (h : SOk ns S) {m : Nat} (hm : m + S.length = ns.length) :
    (enum ns nums m S).length * prodN ((fresh ns S).map (sizeS ns S)) = factN m * prodN ((fresh ns S).map (winS ns nums S)) := by
  have e := enum_count ok nk m S h hm
  have d := prodR_div (f := winS ns nums S) (g := sizeS ns S) (l := (fresh ns S).reverse) (fun a _ => by unfold sizeS; omega)
  rw [List.map_reverse, List.map_reverse, prodN_rev, prodN_rev] at d
  have : (((enum ns nums m S).length * prodN ((fresh ns S).map (sizeS ns S)) : Nat) : Rat) = ((factN m * prodN ((fresh ns S).map (winS ns nums S)) : Nat) : Rat) := by
    rw [Rat.natCast_mul, Rat.natCast_mul, e, ← d]
    unfold PR cR sR
    grind
  exact_mod_cast this
theorem ways_eq {ns : NestL} (ok : NOk ns) {nums : NumsL} (nk : NumsOk nums) {S : List Nat} (h : SOk ns S) {m : Nat} (hm : m + S.length = ns.length) : ways ns nums S = (enum ns nums m S).length := by
  have hf := fresh_length h
  have e := enum_mul ok nk h hm
  unfold ways
  rw [show (fresh ns S).length = m by omega, ← e]
  exact Nat.mul_div_cancel _ (prodN_pos fun a ha => by
    obtain ⟨k, _, rfl⟩ := List.mem_map.mp ha
    unfold sizeS
    omega)
end Cd

set_option linter.all false
/-! M3: orders, ranks, least numbers, the order with a number, the third order. -/
namespace Cd
/-! ### sorted lists -/
theorem sorted_unique : ∀ {l m : List Nat}, l.Perm m → l.Pairwise (· ≤ ·) → m.Pairwise (· ≤ ·) → l = m
  | [], m, p, _, _ => (List.nil_perm.mp p).symm
  | a :: l, [], p, _, _ => absurd p.length_eq (by simp)
  | a :: l, b :: m, p, hl, hm => by
    have h1 := List.pairwise_cons.mp hl
    have h2 := List.pairwise_cons.mp hm
    have e : a = b := by
      rcases List.mem_cons.mp (p.mem_iff.mp (List.mem_cons_self (a := a) (l := l))) with e | e
      · exact e
      · rcases List.mem_cons.mp (p.mem_iff.mpr (List.mem_cons_self (a := b) (l := m))) with e' | e'
        · exact e'.symm
        · have := h1.1 b e'
          have := h2.1 a e
          omega
    subst e
    rw [sorted_unique ((List.perm_cons a).mp p) h1.2 h2.2]
/-- an order of n doors -/
structure OOk (n : Nat) (o : List Nat) : Prop where
  nd : o.Nodup
  len : o.length = n
  lt : ∀ x ∈ o, x < n
theorem OOk.perm {n : Nat} {o : List Nat} (h : OOk n o) : o.Perm (List.range n) := by
  refine (List.perm_ext_iff_of_nodup h.nd List.nodup_range).mpr fun a => ?_
  rw [List.mem_range]
  refine ⟨h.lt a, fun ha => ?_⟩
  -- the pigeonhole
  have key : ∀ (m : Nat) (l : List Nat), l.Nodup → (∀ x ∈ l, x < m) → m ≤ l.length → ∀ a, a < m → a ∈ l := by
    intro m
    induction m with
    | zero => intro l _ _ _ a ha; omega
    | succ m ih =>
      intro l nd hl hlen a ha
      by_cases hm : m ∈ l
      · by_cases e : a = m
        · exact e ▸ hm
        · have h1 := ih (l.erase m) (nd.erase m) (fun x hx => by
            have := (List.Nodup.mem_erase_iff nd).mp hx
            have := hl x this.2
            omega) (by rw [List.length_erase_of_mem hm]; omega) a (by omega)
          exact List.mem_of_mem_erase h1
      · have lt : ∀ x ∈ l, x < m := fun x hx => by
          have := hl x hx
          have : x ≠ m := fun e => hm (e ▸ hx)
          omega
        exfalso
        have cnt : ∀ (m : Nat) (l : List Nat), l.Nodup → (∀ x ∈ l, x < m) → l.length ≤ m := by
          intro m
          induction m with
          | zero =>
            intro l _ hl
            cases l with
            | nil => exact Nat.le_refl _
            | cons a l => have := hl a (by simp); omega
          | succ m ih =>
            intro l nd hl
            by_cases hm : m ∈ l
            · have h1 := ih (l.erase m) (nd.erase m) (fun x hx => by
                have := (List.Nodup.mem_erase_iff nd).mp hx
                have := hl x this.2
                omega)
              rw [List.length_erase_of_mem hm] at h1
              omega
            · have := ih l nd fun x hx => by
                have := hl x hx
                have : x ≠ m := fun e => hm (e ▸ hx)
                omega
              omega
        have := cnt m l nd lt
        omega
  exact key n o h.nd h.lt (by rw [h.len]; exact Nat.le_refl _) a ha
theorem OOk.of_perm {n : Nat} {o : List Nat} (h : o.Perm (List.range n)) : OOk n o := ⟨h.nodup_iff.mpr List.nodup_range, by rw [h.length_eq, List.length_range], fun x hx => List.mem_range.mp (h.mem_iff.mp hx)⟩
theorem OOk.has {n : Nat} {o : List Nat} (h : OOk n o) {k : Nat} (hk : k < n) : k ∈ o := h.perm.mem_iff.mpr (List.mem_range.mpr hk)
/-! ### ranks -/
def rankN (ns : NestL) (o : List Nat) (d : Nat) : Nat := ((o.take (o.idxOf d)).filter fun x => (inside ns d).contains x).length
def ranksN (ns : NestL) (o : List Nat) : List Nat := (List.range ns.length).map (rankN ns o)
def allowsN (ns : NestL) (nums : NumsL) (o : List Nat) : Bool := decide ((List.range ns.length).filter (fun k => !(nums.getD k []).contains (rankN ns o k)) = [])
theorem allowsN_iff {ns : NestL} {nums : NumsL} {o : List Nat} : allowsN ns nums o = true ↔ ∀ k, k < ns.length → rankN ns o k ∈ nums.getD k [] := by
  unfold allowsN
  rw [decide_eq_true_iff, List.filter_eq_nil_iff]
  simp
theorem rank_cnt {ns : NestL} {o : List Nat} {d : Nat} (nd : o.Nodup) : rankN ns o d = cnt ns (o.take (o.idxOf d)) d := by
  unfold rankN cnt
  refine List.Perm.length_eq ((List.perm_ext_iff_of_nodup (List.Pairwise.filter _ (List.Pairwise.sublist (List.take_sublist _ _) nd)) (List.Pairwise.filter _ inside_nodup)).mpr fun a => ?_)
  simp [and_comm]
theorem cnt_perm {ns : NestL} {S T : List Nat} {k : Nat} (h : ∀ a, a ∈ S ↔ a ∈ T) : cnt ns S k = cnt ns T k := by
  unfold cnt
  congr 1
  refine List.filter_congr fun x _ => ?_
  rw [List.contains_eq_mem, List.contains_eq_mem]
  simp [h x]
theorem ready_perm {ns : NestL} {nums : NumsL} {S T : List Nat} (h : ∀ a, a ∈ S ↔ a ∈ T) : ready ns nums S = ready ns nums T := by
  unfold ready
  refine List.filter_congr fun x _ => ?_
  rw [cnt_perm h, List.contains_eq_mem, List.contains_eq_mem]
  simp [h x]
theorem fresh_perm {ns : NestL} {S T : List Nat} (h : ∀ a, a ∈ S ↔ a ∈ T) : fresh ns S = fresh ns T := by
  unfold fresh
  refine List.filter_congr fun x _ => ?_
  rw [List.contains_eq_mem, List.contains_eq_mem]
  simp [h x]
theorem ways_perm {ns : NestL} {nums : NumsL} {S T : List Nat} (h : ∀ a, a ∈ S ↔ a ∈ T) : ways ns nums S = ways ns nums T := by
  have e1 : sizeS ns S = sizeS ns T := by
    funext k
    unfold sizeS
    rw [fresh_perm h]
  have e2 : winS ns nums S = winS ns nums T := by
    funext k
    unfold winS
    rw [cnt_perm h, e1]
  unfold ways
  rw [fresh_perm h, e1, e2]
/-! ### all orders: which they are -/
theorem mem_ready {ns : NestL} {nums : NumsL} {S : List Nat} {k : Nat} : k ∈ ready ns nums S ↔ k < ns.length ∧ k ∉ S ∧ cnt ns S k ∈ nums.getD k [] := by
  unfold ready
  rw [List.mem_filter, List.mem_range]
  simp
theorem mem_enum {ns : NestL} {nums : NumsL} : ∀ (m : Nat) (S o : List Nat), o ∈ enum ns nums m S ↔ ∃ t, o = S ++ t ∧ t.length = m ∧ ∀ i (h : i < t.length), t[i] ∈ ready ns nums (S ++ t.take i)
  | 0, S, o => by
    unfold enum
    rw [List.mem_singleton]
    constructor
    · rintro rfl
      exact ⟨[], by simp, rfl, fun i h => absurd h (by simp)⟩
    · rintro ⟨t, rfl, e, _⟩
      rw [List.length_eq_zero_iff.mp e, List.append_nil]
  | m + 1, S, o => by
    unfold enum
    rw [List.mem_flatMap]
    constructor
    · rintro ⟨k, hk, ho⟩
      obtain ⟨t, rfl, e, h⟩ := (mem_enum m (S ++ [k]) o).mp ho
      refine ⟨k :: t, by simp, by simp [e], fun i hi => ?_⟩
      cases i with
      | zero => simpa using hk
      | succ i =>
        have := h i (by simpa using hi)
        simpa using this
    · rintro ⟨t, rfl, e, h⟩
      cases t with
      | nil => simp at e
      | cons k t =>
        refine ⟨k, by
        have := h 0 (Nat.zero_lt_succ _)
        rw [List.take_zero, List.append_nil] at this
        exact this, (mem_enum m (S ++ [k]) _).mpr ⟨t, by simp, by simpa using e, fun i hi => ?_⟩⟩
        have := h (i + 1) (by simpa using hi)
        simpa using this
theorem take_nodup_idx {o : List Nat} (nd : o.Nodup) {i : Nat} (h : i < o.length) : o.idxOf o[i] = i := nd.idxOf_getElem i h
theorem enum_iff {ns : NestL} {nums : NumsL} {o : List Nat} : o ∈ enum ns nums ns.length [] ↔ OOk ns.length o ∧ allowsN ns nums o = true := by
  rw [mem_enum, allowsN_iff]
  constructor
  · rintro ⟨t, e, len, h⟩
    rw [List.nil_append] at e
    subst e
    have nd : o.Nodup := by
      refine List.pairwise_iff_getElem.mpr fun i j hi hj hij e => ?_
      have hr := h j hj
      rw [List.nil_append] at hr
      have := (mem_ready.mp hr).2.1
      apply this
      rw [← e]
      exact List.mem_iff_getElem.mpr ⟨i, by rw [List.length_take]; omega, by rw [List.getElem_take]⟩
    have ok : OOk ns.length o := ⟨nd, len, fun x hx => by
      obtain ⟨i, hi, rfl⟩ := List.mem_iff_getElem.mp hx
      exact (mem_ready.mp (h i hi)).1⟩
    refine ⟨ok, fun k hk => ?_⟩
    obtain ⟨i, hi, e⟩ := List.mem_iff_getElem.mp (ok.has hk)
    have hr := h i hi
    rw [List.nil_append] at hr
    have h3 := (mem_ready.mp hr).2.2
    rw [e] at h3
    rw [rank_cnt nd, ← e, take_nodup_idx nd hi, e]
    exact h3
  · rintro ⟨ok, h⟩
    refine ⟨o, by simp, ok.len, fun i hi => ?_⟩
    rw [List.nil_append, mem_ready]
    have lt := ok.lt _ (List.getElem_mem hi)
    refine ⟨lt, fun hm => ?_, ?_⟩
    · obtain ⟨j, hj, e⟩ := List.mem_iff_getElem.mp hm
      rw [List.length_take] at hj
      rw [List.getElem_take] at e
      have := (List.getElem_inj ok.nd).mp e
      omega
    · have := h _ lt
      rw [rank_cnt ok.nd, take_nodup_idx ok.nd hi] at this
      exact this
theorem enum_pref {ns : NestL} {nums : NumsL} {m : Nat} {S o : List Nat} (h : o ∈ enum ns nums m S) : S <+: o := by
  obtain ⟨t, rfl, _⟩ := (mem_enum m S o).mp h
  exact List.prefix_append _ _
theorem nodup_flat {α : Type} {f : Nat → List α} : ∀ {l : List Nat}, l.Nodup → (∀ k ∈ l, (f k).Nodup) → (∀ k j x, k ∈ l → j ∈ l → x ∈ f k → x ∈ f j → k = j) → (l.flatMap f).Nodup
  | [], _, _, _ => by simp
  | a :: l, nd, h1, h2 => by
    rw [List.flatMap_cons, List.nodup_append]
    have nd' := List.nodup_cons.mp nd
    refine ⟨h1 a (by simp), nodup_flat nd'.2 (fun k hk => h1 k (by simp [hk])) (fun k j x hk hj => h2 k j x (by simp [hk]) (by simp [hj])), fun x hx y hy e => ?_⟩
    subst e
    obtain ⟨k, hk, hy⟩ := List.mem_flatMap.mp hy
    have := h2 a k x (by simp) (by simp [hk]) hx hy
    exact nd'.1 (this ▸ hk)
theorem enum_nodup {ns : NestL} {nums : NumsL} : ∀ (m : Nat) (S : List Nat), (enum ns nums m S).Nodup
  | 0, S => by simp [enum]
  | m + 1, S => by
    unfold enum
    refine nodup_flat (List.Pairwise.filter _ List.nodup_range) (fun k _ => enum_nodup m _) fun k j x _ _ h1 h2 => ?_
    have p1 := List.prefix_iff_eq_take.mp (enum_pref h1)
    have p2 := List.prefix_iff_eq_take.mp (enum_pref h2)
    rw [List.length_append] at p1 p2
    have e : S ++ [k] = S ++ [j] := by rw [p1, p2]; rfl
    simpa using e
/-! ### the order with a number -/
/-- the way down: what choices tells, one door at a time -/
def pickN (ns : NestL) (nums : NumsL) (S : List Nat) : List Nat → Nat → Option (Nat × Nat)
  | [], _ => none
  | k :: l, i => if i < ways ns nums (S ++ [k]) then some (k, i) else pickN ns nums S l (i - ways ns nums (S ++ [k]))
theorem pick_enum {ns : NestL} (ok : NOk ns) {nums : NumsL} (nk : NumsOk nums) {m : Nat} {S : List Nat} (hS : SOk ns S) (hm : m + 1 + S.length = ns.length) : ∀ (l : List Nat) (i : Nat), (∀ k ∈ l, k ∈ fresh ns S) → i < (l.flatMap fun k => enum ns nums m (S ++ [k])).length →
    ∃ k j, pickN ns nums S l i = some (k, j) ∧ k ∈ l ∧ j < (enum ns nums m (S ++ [k])).length ∧ (l.flatMap fun k => enum ns nums m (S ++ [k]))[i]? = (enum ns nums m (S ++ [k]))[j]?
  | [], i, _, h => by simp at h
  | k :: l, i, hl, h => by
    have hw : ways ns nums (S ++ [k]) = (enum ns nums m (S ++ [k])).length := ways_eq ok nk (hS.add (hl k (by simp))) (by simp; omega)
    unfold pickN
    rw [hw]
    rw [List.flatMap_cons, List.length_append] at h
    by_cases c : i < (enum ns nums m (S ++ [k])).length
    · rw [if_pos c]
      exact ⟨k, i, rfl, by simp, c, by rw [List.flatMap_cons, List.getElem?_append_left c]⟩
    · rw [if_neg c]
      obtain ⟨k', j, e1, e2, e3, e4⟩ := pick_enum ok nk hS hm l (i - (enum ns nums m (S ++ [k])).length) (fun a ha => hl a (by simp [ha])) (by omega)
      exact ⟨k', j, e1, by simp [e2], e3, by rw [List.flatMap_cons, List.getElem?_append_right (by omega), e4]⟩
end Cd

set_option linter.all false
set_option maxRecDepth 100000
/-! M4: sizes, counts, the third order. -/
namespace Cd
/-! ### the sizes, as the program adds them up -/
def sizesGo (ns : NestL) : Nat → List Nat
  | 0 => List.replicate ns.length 1
  | k + 1 => match ns.getD k none with
    | none => sizesGo ns k
    | some j => (sizesGo ns k).set j ((sizesGo ns k).getD j 0 + (sizesGo ns k).getD k 0)
def sizesL (ns : NestL) : List Nat := sizesGo ns ns.length
theorem sizesGo_len (ns : NestL) : ∀ k, (sizesGo ns k).length = ns.length
  | 0 => by simp [sizesGo]
  | k + 1 => by
    unfold sizesGo
    split
    · exact sizesGo_len ns k
    · rw [List.length_set]; exact sizesGo_len ns k
def opts (n k : Nat) : List (Option Nat) := none :: ((List.range n).filter fun j => decide (k < j)).map some
def gens (n : Nat) : Nat → List NestL
  | 0 => [[]]
  | k + 1 => (gens n k).flatMap fun l => (opts n k).map fun o => l ++ [o]
theorem mem_gens {ns : NestL} (ok : NOk ns) : ∀ k, k ≤ ns.length → ns.take k ∈ gens ns.length k
  | 0, _ => by simp [gens]
  | k + 1, h => by
    unfold gens
    rw [List.mem_flatMap]
    refine ⟨ns.take k, mem_gens ok k (by omega), ?_⟩
    rw [List.mem_map]
    have e : ns[k]? = some (ns.getD k none) := by rw [List.getD_eq_getElem?_getD, List.getElem?_eq_getElem (by omega)] <;> rfl
    refine ⟨ns.getD k none, ?_, by rw [List.take_add_one, e] <;> rfl⟩
    unfold opts
    cases q : ns.getD k none with
    | none => simp
    | some j =>
      have := ok.up k j q
      simp
      omega
def sizesI (ns : NestL) : List Nat := (List.range ns.length).map fun k => 1 + (inside ns k).length
theorem sizes_all : ∀ n ∈ [1, 2, 3, 4, 5, 6], ∀ ns ∈ gens n n, sizesL ns = sizesI ns := by decide +kernel
theorem sizes_eq {ns : NestL} (ok : NOk ns) : sizesL ns = sizesI ns := by
  have h := mem_gens ok ns.length (Nat.le_refl _)
  rw [List.take_length] at h
  have hlo := ok.lo
  have hhi := ok.hi
  exact sizes_all ns.length (by simp; omega) ns h
theorem inside_len {ns : NestL} {k : Nat} : (inside ns k).length ≤ k := by
  unfold inside
  exact Nat.le_trans (List.length_filter_le _ _) (by rw [List.length_range]; exact Nat.le_refl _)
theorem prodN_le {b : Nat} : ∀ {l : List Nat}, (∀ a ∈ l, a ≤ b) → prodN l ≤ b ^ l.length
  | [], _ => Nat.le_refl _
  | a :: l, h => by
    rw [List.length_cons, Nat.pow_succ, Nat.mul_comm]
    exact Nat.mul_le_mul (h a (by simp)) (prodN_le fun c hc => h c (by simp [hc]))
/-! ### least numbers, counts -/
def leastN (ns : NestL) (srt : List Nat → List Nat) (told : List (List Nat)) : NumsL := (List.range ns.length).map fun k => srt (told.map fun o => rankN ns o k)
/-- what srt is to do: the members, once each -/
structure Srt (srt : List Nat → List Nat) : Prop where
  mem : ∀ l k, k ∈ srt l ↔ k ∈ l
  nd : ∀ l, (srt l).Nodup
section
variable {srt : List Nat → List Nat} (hs : Srt srt)
include hs
theorem least_get {ns : NestL} {told : List (List Nat)} {k : Nat} (hk : k < ns.length) : (leastN ns srt told).getD k [] = srt (told.map fun o => rankN ns o k) := by
  unfold leastN
  rw [List.getD_eq_getElem?_getD, List.getElem?_map, List.getElem?_range hk] <;> rfl
theorem least_ok {ns : NestL} {told : List (List Nat)} : NumsOk (leastN ns srt told) := fun k => by
  by_cases hk : k < ns.length
  · rw [least_get hs hk]; exact hs.nd _
  · rw [List.getD_eq_getElem?_getD, List.getElem?_eq_none (by simp [leastN]; omega)]
    exact List.nodup_nil
theorem rank_le {ns : NestL} {o : List Nat} {k : Nat} (nd : o.Nodup) : rankN ns o k ≤ (inside ns k).length := by
  rw [rank_cnt nd]
  exact cnt_le
theorem least_lt {ns : NestL} {told : List (List Nat)} (ht : ∀ o ∈ told, OOk ns.length o) {k x : Nat} (hk : k < ns.length) (hx : x ∈ (leastN ns srt told).getD k []) : x < 1 + (inside ns k).length := by
  rw [least_get hs hk, hs.mem, List.mem_map] at hx
  obtain ⟨o, ho, rfl⟩ := hx
  have := rank_le hs (k := k) (ns := ns) (ht o ho).nd
  omega
end
theorem cnt_nil {ns : NestL} {k : Nat} : cnt ns [] k = 0 := by
  unfold cnt
  rw [List.length_eq_zero_iff, List.filter_eq_nil_iff]
  simp
theorem fresh_nil {ns : NestL} : fresh ns [] = List.range ns.length := by
  unfold fresh
  exact List.filter_eq_self.mpr fun a _ => rfl
theorem sok_nil {ns : NestL} : SOk ns [] := ⟨List.nodup_nil, fun k h => nomatch h⟩
theorem size_nil {ns : NestL} (ok : NOk ns) {k : Nat} (hk : k < ns.length) : sizeS ns [] k = 1 + (inside ns k).length := by
  have := cnt_size ok (S := []) hk
  rw [cnt_nil, Nat.zero_add] at this
  exact this
theorem win_nil {ns : NestL} (ok : NOk ns) {nums : NumsL} {k : Nat} (hk : k < ns.length) (h : ∀ x ∈ nums.getD k [], x < 1 + (inside ns k).length) : winS ns nums [] k = (nums.getD k []).length := by
  rw [winS_eq ok hk, cnt_nil, List.countP_eq_length]
  intro x hx
  have := h x hx
  simp
  omega
theorem sizes_prod {ns : NestL} (ok : NOk ns) : prodN ((fresh ns []).map (sizeS ns [])) = prodN (sizesL ns) := by
  rw [sizes_eq ok, fresh_nil]
  unfold sizesI
  congr 1
  refine List.map_congr_left fun k hk => size_nil ok (List.mem_range.mp hk)
def mixN (ns : NestL) : Nat := factN ns.length / prodN (sizesL ns)
theorem prodN_ones : ∀ {l : List Nat}, (∀ a ∈ l, a = 1) → prodN l = 1
  | [], _ => rfl
  | a :: l, h => by
    unfold prodN
    rw [h a (by simp), prodN_ones fun b hb => h b (by simp [hb])]
theorem mix_mul {ns : NestL} (ok : NOk ns) : mixN ns * prodN (sizesL ns) = factN ns.length := by
  let nums0 : NumsL := List.replicate ns.length [0]
  have g : ∀ k, k < ns.length → nums0.getD k [] = [0] := fun k hk => by
    rw [List.getD_eq_getElem?_getD, List.getElem?_replicate, if_pos hk] <;> rfl
  have nk : NumsOk nums0 := fun k => by
    by_cases hk : k < ns.length
    · rw [g k hk]; simp
    · rw [List.getD_eq_getElem?_getD, List.getElem?_eq_none (by simp [nums0]; omega)]
      exact List.nodup_nil
  have e := enum_mul ok nk sok_nil (m := ns.length) (by simp)
  rw [sizes_prod ok] at e
  have ones : prodN ((fresh ns []).map (winS ns nums0 [])) = 1 := prodN_ones fun a ha => by
    obtain ⟨k, hk, rfl⟩ := List.mem_map.mp ha
    rw [fresh_nil, List.mem_range] at hk
    rw [win_nil ok hk (fun x hx => by rw [g k hk] at hx; simp at hx; omega), g k hk] <;> rfl
  rw [ones, Nat.mul_one] at e
  unfold mixN
  rw [← e]
  have pos : 0 < prodN (sizesL ns) := prodN_pos fun a ha => by
    rw [sizes_eq ok] at ha
    obtain ⟨k, _, rfl⟩ := List.mem_map.mp ha
    omega
  rw [Nat.mul_div_cancel _ pos]
def countN (ns : NestL) (srt : List Nat → List Nat) (told : List (List Nat)) : Nat := mixN ns * prodN ((leastN ns srt told).map List.length)
theorem count_enum {ns : NestL} (ok : NOk ns) {srt : List Nat → List Nat} (hs : Srt srt) {told : List (List Nat)} (ht : ∀ o ∈ told, OOk ns.length o) : countN ns srt told = (enum ns (leastN ns srt told) ns.length []).length := by
  have e := enum_mul ok (least_ok hs (ns := ns) (told := told)) sok_nil (m := ns.length) (by simp)
  rw [sizes_prod ok, ← mix_mul ok] at e
  have pos : 0 < prodN (sizesL ns) := prodN_pos fun a ha => by
    rw [sizes_eq ok] at ha
    obtain ⟨k, _, rfl⟩ := List.mem_map.mp ha
    omega
  have w : (fresh ns []).map (winS ns (leastN ns srt told) []) = (leastN ns srt told).map List.length := by
    rw [fresh_nil]
    have : leastN ns srt told = (List.range ns.length).map fun k => (leastN ns srt told).getD k [] := by
      refine List.ext_getElem? fun k => ?_
      by_cases hk : k < ns.length
      · rw [List.getElem?_map, List.getElem?_range hk]
        have hl : k < (leastN ns srt told).length := by simp [leastN]; exact hk
        rw [List.getElem?_eq_getElem hl, Option.map_some, List.getD_eq_getElem?_getD, List.getElem?_eq_getElem hl] <;> rfl
      · rw [List.getElem?_eq_none (by simp [leastN]; omega), List.getElem?_eq_none (by simp; omega)]
    conv => rhs; rw [this]
    rw [List.map_map]
    exact List.map_congr_left fun k hk => win_nil ok (List.mem_range.mp hk) fun x hx => least_lt hs ht (List.mem_range.mp hk) hx
  rw [w] at e
  unfold countN
  have e2 : (enum ns (leastN ns srt told) ns.length []).length * prodN (sizesL ns) = (mixN ns * prodN ((leastN ns srt told).map List.length)) * prodN (sizesL ns) := by
    rw [e, Nat.mul_assoc, Nat.mul_comm (prodN (sizesL ns)), ← Nat.mul_assoc]
  exact (Nat.eq_of_mul_eq_mul_right pos e2).symm
theorem told_sub {ns : NestL} {srt : List Nat → List Nat} (hs : Srt srt) {told : List (List Nat)} (ht : ∀ o ∈ told, OOk ns.length o) {o : List Nat} (ho : o ∈ told) : o ∈ enum ns (leastN ns srt told) ns.length [] :=
  enum_iff.mpr ⟨ht o ho, allowsN_iff.mpr fun k hk => by rw [least_get hs hk, hs.mem]; exact List.mem_map_of_mem ho⟩
/-! ### the order with a number -/
def orderAt (ns : NestL) (nums : NumsL) : Nat → List Nat → Nat → List Nat
  | 0, S, _ => S
  | m + 1, S, i => match pickN ns nums S (ready ns nums S) i with
    | some (k, j) => orderAt ns nums m (S ++ [k]) j
    | none => S
theorem ready_fresh {ns : NestL} {nums : NumsL} {S : List Nat} {k : Nat} (h : k ∈ ready ns nums S) : k ∈ fresh ns S := mem_fresh.mpr ⟨(mem_ready.mp h).1, (mem_ready.mp h).2.1⟩
theorem orderAt_enum {ns : NestL} (ok : NOk ns) {nums : NumsL} (nk : NumsOk nums) : ∀ (m : Nat) (S : List Nat) (i : Nat), SOk ns S → m + S.length = ns.length → i < (enum ns nums m S).length → (enum ns nums m S)[i]? = some (orderAt ns nums m S i)
  | 0, S, i, _, _, h => by
    unfold enum at h ⊢
    simp at h
    subst h
    rfl
  | m + 1, S, i, hS, hm, h => by
    unfold enum at h ⊢
    obtain ⟨k, j, e1, e2, e3, e4⟩ := pick_enum ok nk hS hm (ready ns nums S) i (fun k hk => ready_fresh hk) h
    rw [e4]
    unfold orderAt
    rw [e1]
    exact orderAt_enum ok nk m (S ++ [k]) j (hS.add (ready_fresh e2)) (by simp; omega) e3
/-! ### the third order -/
def thirdN (ns : NestL) (srt : List Nat → List Nat) (told : List (List Nat)) : Option (List Nat) := ((enum ns (leastN ns srt told) ns.length []).take (told.length + 1)).find? fun o => !told.contains o
theorem pigeon {α : Type} [DecidableEq α] : ∀ {l m : List α}, l.Nodup → (∀ a ∈ l, a ∈ m) → l.length ≤ m.length
  | [], _, _, _ => Nat.zero_le _
  | a :: l, m, nd, h => by
    have nd' := List.nodup_cons.mp nd
    have hm : a ∈ m := h a (by simp)
    have := pigeon (l := l) (m := m.erase a) nd'.2 fun b hb => by
      have : b ≠ a := fun e => nd'.1 (e ▸ hb)
      exact (List.mem_erase_of_ne this).mpr (h b (by simp [hb]))
    rw [List.length_erase_of_mem hm] at this
    have := List.length_pos_of_mem hm
    rw [List.length_cons]
    omega
theorem third_none {ns : NestL} {srt : List Nat → List Nat} {told : List (List Nat)} (h : thirdN ns srt told = none) : ∀ o ∈ enum ns (leastN ns srt told) ns.length [], o ∈ told := fun o ho => by
  unfold thirdN at h
  rw [List.find?_eq_none] at h
  have all : ∀ a ∈ (enum ns (leastN ns srt told) ns.length []).take (told.length + 1), a ∈ told := fun a ha => by simpa using h a ha
  have len := pigeon (List.Pairwise.sublist (List.take_sublist _ _) (enum_nodup _ _)) all
  rw [List.length_take] at len
  have short : (enum ns (leastN ns srt told) ns.length []).length ≤ told.length + 1 := by omega
  rw [List.take_of_length_le short] at all
  exact all o ho
theorem third_some {ns : NestL} {srt : List Nat → List Nat} {told : List (List Nat)} {o : List Nat} (h : thirdN ns srt told = some o) : o ∈ enum ns (leastN ns srt told) ns.length [] ∧ o ∉ told := by
  unfold thirdN at h
  have h1 := List.mem_of_find?_eq_some h
  have h2 := List.find?_some h
  exact ⟨List.mem_of_mem_take h1, by simpa using h2⟩
/-- all told: as many as there are -/
theorem count_told {ns : NestL} (ok : NOk ns) {srt : List Nat → List Nat} (hs : Srt srt) {told : List (List Nat)} (ht : ∀ o ∈ told, OOk ns.length o) (nd : told.Nodup) : countN ns srt told = told.length ↔ ∀ o ∈ enum ns (leastN ns srt told) ns.length [], o ∈ told := by
  rw [count_enum ok hs ht]
  have sub : ∀ o ∈ told, o ∈ enum ns (leastN ns srt told) ns.length [] := fun o ho => told_sub hs ht ho
  constructor
  · intro e o ho
    refine Classical.byContradiction fun hn => ?_
    have := pigeon (l := o :: told) (m := enum ns (leastN ns srt told) ns.length []) (List.nodup_cons.mpr ⟨hn, nd⟩) fun a ha => by
      rcases List.mem_cons.mp ha with rfl | ha
      · exact ho
      · exact sub a ha
    rw [List.length_cons] at this
    omega
  · intro h
    exact Nat.le_antisymm (pigeon (enum_nodup _ _) h) (pigeon nd sub)
end Cd

set_option Elab.async false
set_option linter.all false
set_option maxRecDepth 100000
set_option maxHeartbeats 4000000
/-! K1: rules that the layer lacks. -/
namespace Cd
open PySem PySem.Spec PyProof.Rows L2
section
variable {X : Cx}
/-- xs[i] of a list, 0 ≤ i, as the old value of an augmented store -/
theorem pg_lst : PGet X (rIxL X.K) := by
  intro pins s σ H o i ov iv Q I ro ri hh
  obtain ⟨p, xs, k, z, rfl, rfl, hq, ha, q⟩ := hh
  cases ro
  obtain ⟨tk, rfl⟩ := ri
  obtain ⟨its, rv, pl, hz⟩ := I.list hq
  obtain ⟨j, j1, j2, j3, j4, j5⟩ := atI_get ha
  obtain ⟨u, eu, ru⟩ := rv.get j2
  have hlen := rv.length
  have big := line63
  by_cases neg : 0 ≤ k
  · have ek : k.toNat = j := Option.some.inj ((seqIndex_of neg j5).symm.trans j1)
    exact wpAny_getItem_list pl.isList neg (by omega) (by rw [ek]; simpa using eu) ⟨z, H, I, ru, q⟩
  · have ek : (k + (its.toArray.size : Int)).toNat = j := by
      have := Option.some.inj ((seqIndex_neg (by omega) j4).symm.trans j1)
      rw [List.size_toArray, ← hlen]
      exact this
    exact wpAny_getItem_list_neg pl.isList (by omega) (by rw [List.size_toArray] <;> omega) (by omega) (by rw [ek]; simpa using eu) ⟨z, H, I, ru, q⟩
theorem ip_mulI : PIp X .Mult (rI CMul fun i j => .int (i * j)) := fun pins s σ H x y v u Q I r1 r2 h => iop_mul pins s σ H x y v u Q I r1 r2 h
/-- d in ds, ds a tuple of data -/
def rInDT (K : PySem.W.Frag) (neg : Bool) : R2 := fun x y H Q => ∃ d ds, Dp K H x d ∧ Dp K H y (.tuple ds) ∧ SeqAt.shaped d = true ∧ SeqAt.shaped (.tuple ds) = true ∧ Q (.bl (if neg then !(ds.any fun z => PyData.eqv z d) else ds.any fun z => PyData.eqv z d)) H
theorem op_inDT (hu : X.A.units + 65 < cLine) : OpR X (compareOp .In) (rInDT X.K false) := fun pins s σ H x y v u Q I rx ry hh => by
  obtain ⟨d, ds, dx, dy, sx, sy, q⟩ := hh
  obtain ⟨_, k1⟩ := Dp.reads I d x v dx rx
  obtain ⟨_, k2⟩ := Dp.reads I (.tuple ds) y u dy ry
  exact SeqAt.in_tuple_reads k2 k1 (SeqAt.canLay_of_shaped sy) (SeqAt.canLay_of_shaped sx) (room_in_shaped sx hu) ⟨.bl _, H, I, rfl, q⟩
theorem op_niDT (hu : X.A.units + 65 < cLine) : OpR X (compareOp .NotIn) (rInDT X.K true) := fun pins s σ H x y v u Q I rx ry hh => by
  obtain ⟨d, ds, dx, dy, sx, sy, q⟩ := hh
  obtain ⟨_, k1⟩ := Dp.reads I d x v dx rx
  obtain ⟨_, k2⟩ := Dp.reads I (.tuple ds) y u dy ry
  exact SeqAt.notIn_tuple_reads k2 k1 (SeqAt.canLay_of_shaped sy) (SeqAt.canLay_of_shaped sx) (room_in_shaped sx hu) ⟨.bl _, H, I, rfl, q⟩
/-- the place of an int in a tuple of unlike ints -/
def rTupIx (K : PySem.W.Frag) : V → List V → Hp → VK → Prop := fun x xs H Q => ∃ (p : Addr) (ys : List Int) (z : Int) (j : Nat), x = .ref p ∧ xs = [.int z] ∧ SqT K H p (ys.map V.int) ∧ ys[j]? = some z ∧ (∀ m, m < j → ys[m]? ≠ some z) ∧ Q (.int (j : Nat)) H
theorem flat_ints (ys : List Int) : (ys.map V.int).all flatV = true := by
  rw [List.all_map, List.all_eq_true]
  intro _ _
  rfl
theorem mt_tupIx : MtR X "tuple.index" (rTupIx X.K) := by
  intro pins s σ H x xs v us Q I rx rs hh
  obtain ⟨p, ys, z, j, rfl, rfl, sq, hz, first, q⟩ := hh
  cases rx
  obtain ⟨_, rfl, tz, rfl⟩ := vals1 rs
  obtain ⟨its, rv, ⟨⟨cl, di, da, slo⟩, hp, ec, n, ed⟩, _⟩ := I.tuple sq
  simp only at ec ed
  subst ec ed
  have len : its.toArray.size = ys.length := by
    have := rv.length
    rw [List.length_map] at this
    rw [List.size_toArray, this]
  have item : ∀ (m : Nat) (hm : m < its.toArray.size), ∃ y t', ys[m]? = some y ∧ its.toArray[m] = Value.int y t' := fun m hm => by
    have hm' : m < ys.length := len ▸ hm
    obtain ⟨w, ew, t', rfl⟩ := rv.get (i := m) (x := .int ys[m]) (by rw [List.getElem?_map, List.getElem?_eq_getElem hm'] <;> rfl)
    exact ⟨ys[m], t', List.getElem?_eq_getElem hm', by simpa using (List.getElem?_eq_some_iff.mp ew).2⟩
  have jlt : j < its.toArray.size := by rw [len]; exact (List.getElem?_eq_some_iff.mp hz).1
  have yes : eqU (.int z) (its.toArray[j]) = true := by
    obtain ⟨y, t', e1, e2⟩ := item j jlt
    rw [hz] at e1
    rw [e2, ← Option.some.inj e1]
    show (z == z) = true
    exact beq_self_eq_true z
  have no : ∀ (m : Nat) (hm : m < its.toArray.size), m < j → eqU (.int z) (its.toArray[m]) = false := fun m hm lt => by
    obtain ⟨y, t', e1, e2⟩ := item m hm
    rw [e2]
    show (y == z) = false
    exact beq_eq_false_iff_ne.mpr fun e => first m lt (e ▸ e1)
  exact call_meets PySem.F.slot_tuple_index ⟨_, hp, rfl⟩ PySem.F.entry_tuple_index (PySem.F.args_tuple_index_2 _ _) (TI.tuple_indexAt p its.toArray n di slo (.int z tz) (eqU (.int z)) j jlt yes no)
    ⟨hp, fun w hw => mem_eqAt (x := .int z) ⟨tz, rfl⟩ rfl rv (flat_ints ys) w (by simpa using hw), ⟨.int (j : Nat), H, I.tok _, ⟨_, rfl⟩, q⟩⟩
end
end Cd

set_option Elab.async false
set_option linter.all false
set_option maxRecDepth 100000
set_option maxHeartbeats 4000000
/-! K2: enumerate(t) of a tuple. -/
namespace Cd
open PySem PySem.Spec PyProof.Rows L2
section
variable {prog : Program} {w : World} {A : Around} {E : Value → Shared → Prop} {s : Shared}
abbrev tupIt (t : Addr) : Obj := { cls := .type "tuple_iterator", data := .fields #[.ref t, .int 0 0] }
abbrev enumOb (it : Addr) : Obj := { cls := .type "enumerate", data := .fields #[.none, .bool false, .ref it, rawInt 0, .none, .none] }
theorem meets_enumT (t : Addr) (items : Array Value) : Meets (Builtin.«enumerate.__new__» ⟨[.type "enumerate", .ref t], []⟩) (fun _ R s => s.heap.IsTuple t items ∧
    R (.ok (.ret (.ref (s.heap.push (tupIt t)).objs.size))) { s with heap := (s.heap.push (tupIt t)).push (enumOb s.heap.objs.size) }) := by
  refine .of_wp fun prog w A R s hh => ?_
  obtain ⟨hp, g, d, tk, os⟩ := s
  obtain ⟨isT, hR⟩ := hh
  have sub1 := sub_enumerate
  have start : ∀ {A' : Around} {E : Value → Shared → Prop} {Q : Value → Shared → Prop}, Q (.ref hp.objs.size) ⟨hp.push (tupIt t), g, d, tk, os⟩ → wpAny (model prog w) A' (pyIter (.ref t)) Q E ⟨hp, g, d, tk, os⟩ := fun q =>
    (begins_tuple t items).iter _ _ _ _ ⟨hp, g, d, tk, os⟩ _ isT q
  wp_walk using start
  refine wpAny_stack_any fun _ => wpAny_pure ?_
  split
  · rename_i c _ _ _ _ _
    cases c == Value.type "enumerate" <;> (wp_walk using start; exact ⟨_, rfl, hR⟩)
  · wp_walk using start
    exact ⟨_, rfl, hR⟩
theorem call_enumT {t : Addr} {items : Array Value} {Q : Value → Shared → Prop} (isT : s.heap.IsTuple t items)
    (next : ∀ h', IsEnum h' (s.heap.objs.size + 1) s.heap.objs.size 0 .none → h'.IsTupleIter s.heap.objs.size t 0 → (∀ b o, s.heap.get? b = some o → h'.get? b = some o) → Q (.ref (s.heap.objs.size + 1)) { s with heap := h' }) :
    wpAny (model prog w) A (call (.type "enumerate") [.ref t]) Q E s := by
  refine callType_new F.called_enumerate (by decide) (F.typeCall_enumerate_1 _) (F.newCall_enumerate_1 _) (fun obj => F.args_object_init_2 obj _) F.entry_enumerate_new (meets_enumT t items) ⟨isT, ?_⟩
  have one : (s.heap.push (tupIt t)).objs.size = s.heap.objs.size + 1 := Heap.size_push ..
  have two : IsEnum ((s.heap.push (tupIt t)).push (enumOb s.heap.objs.size)) (s.heap.objs.size + 1) s.heap.objs.size 0 .none := by
    have := Heap.get?_push_size (s.heap.push (tupIt t)) (o := enumOb s.heap.objs.size) rfl
    rw [one] at this
    exact this
  show _ ∧ _
  rw [one]
  exact ⟨⟨_, two, rfl⟩, next _ two ⟨_, Heap.get?_push_of_some _ (Heap.get?_push_size _ rfl), rfl, rfl⟩ fun b o x => Heap.get?_push_of_some _ (Heap.get?_push_of_some _ x)⟩
end
/-- the items of the tuple at a, each in a new pair -/
def IteT (K : PySem.W.Frag) (a : Addr) : It where
  go := fun i H => ∃ (xs : List V) (x : V), SqT K H a xs ∧ xs[i]? = some x
  yld := fun i H v H' => ∃ T x, v = .ref T ∧ H T = none ∧ H' = upd H T (.tup [.int (i : Nat), x]) ∧ ∀ xs, SqT K H a xs → xs[i]? = some x
  stop := fun i H => ∃ xs : List V, SqT K H a xs ∧ xs.length = i
theorem turn_enumT {P : Program} {w : World} {K : PySem.W.Frag} {elts : List Expr} {kk : Nat} {tpos : Pos} (a e it : Addr) :
    Turn P w K (.Tuple elts kk tpos) (IteT K a) [e, it] e (fun i h => (∃ old, IsEnum h e it ((i : Nat) : Int) old) ∧ h.IsTupleIter it a i ∧ e ≠ it) where
  mem := List.mem_cons_self
  obj := by
    intro i h st b hb
    obtain ⟨⟨old, he⟩, ⟨o, ho, _, hd⟩, _⟩ := st
    rcases (show b = e ∨ b = it by simpa using hb) with rfl | rfl
    · exact ⟨_, he, fun v q => nomatch q⟩
    · exact ⟨o, ho, fun v q => by rw [hd] at q; cases q⟩
  keep := by
    intro i h h' st k
    obtain ⟨⟨old, he⟩, hi, ne⟩ := st
    exact ⟨⟨old, k e (by simp) _ he⟩, hi.at fun o q => k it (by simp) o q, ne⟩
  item := by
    intro X hP hw hK hc i pins s σ H E I hf st hg
    subst hP hw hK
    obtain ⟨⟨old, he⟩, hit, ne⟩ := st
    obtain ⟨xs, x, hq, hx⟩ := hg
    obtain ⟨its, rv, p, _⟩ := I.tuple hq
    obtain ⟨u, hu, ru⟩ := rv.get hx
    have le : e < s.heap.objs.size := Heap.lt_size he
    have li : it < s.heap.objs.size := by obtain ⟨_, q, _⟩ := hit; exact Heap.lt_size q
    have nea : ∀ b ∈ [e, it], b ≠ a := fun b hb z => by
      have f0 := (hf b hb).1
      rw [z] at f0
      obtain ⟨ob, hob, hcl, _⟩ := p
      obtain ⟨ob2, hob2, hne2⟩ : ∃ o, s.heap.get? b = some o ∧ o.cls ≠ .type "tuple" := by
        rcases (show b = e ∨ b = it by simpa using hb) with rfl | rfl
        · exact ⟨_, he, by intro q; injection q with q; exact absurd q (by decide)⟩
        · obtain ⟨o, ho, hc2, _⟩ := hit
          exact ⟨o, ho, by rw [hc2]; intro q; injection q with q; exact absurd q (by decide)⟩
      rw [z, hob] at hob2
      cases hob2
      exact hne2 hcl
    have nl : a ≠ it := fun z => nea it (by simp) z.symm
    have D := Draws.tuple (prog := X.prog) (w := X.w) (A := X.A.in1) (by show X.A.handled = none; exact I.ok.hd hc) it a nl its.toArray
    have lt : i < its.toArray.size := by rw [List.size_toArray]; exact (List.getElem?_eq_some_iff.mp hu).1
    have ef : e ∉ [it, a] := by simp only [List.mem_cons, List.not_mem_nil, or_false, not_or]; exact ⟨ne, nea e (by simp)⟩
    refine wpAny_pyNext_enum_itemD D he ⟨hit, p⟩ lt ne ef fun y h' tk hy ho hst' hT hsz hk => ?_
    have ey : y = u := by
      have : its.toArray[i]? = some u := by simpa using hu
      rw [this] at hy
      exact (Option.some.inj hy).symm
    subst ey
    refine ⟨_, rfl, wpAny_letOwnedTupleGo_enum (s := { s with heap := h', toks := tk + 1 }) ho fun h2 he2 sb => ?_⟩
    have T2 : h2.get? s.heap.objs.size = some { cls := .type "tuple", data := .seq #[.int i tk, y] } := (sb.2 _ (Nat.ne_of_gt le)).trans hT
    have made : ObjOk X.prog X.w (upd H s.heap.objs.size (.tup [.int (i : Nat), x])) h2 s.heap.objs.size (.tup [.int (i : Nat), x]) :=
      ⟨by show 2 ≤ sizeLine; decide, [.int i tk, y], .cons ⟨_, rfl⟩ (.cons ru .nil), ⟨_, T2, rfl, _, rfl⟩⟩
    have I1 : Inv X pins σ (upd H s.heap.objs.size (.tup [.int (i : Nat), x])) { s with heap := h2, toks := tk + 1 } := by
      refine I.turnedNew (ch := [e, it]) (fun b ob hb q => ?_) hf (Nat.le_refl _) made
      have b1 : b ≠ e := fun z => hb (by simp [z])
      have b2 : b ≠ it := fun z => hb (by simp [z])
      exact (sb.2 b b1).trans (hk b ob b1 b2 q)
    refine ⟨.ref s.heap.objs.size, _, I1, rfl, ⟨_, x, rfl, I.hok.fresh (Nat.le_refl _), rfl, fun ys hy => by rw [I.tuple_inj hy hq]; exact hx⟩, ⟨⟨y, ?_⟩, hst'.1.at fun o q => (sb.2 it (Ne.symm ne)).trans q, ne⟩, fun b hb => ?_⟩
    · rw [show ((i + 1 : Nat) : Int) = (i : Int) + 1 by omega]
      exact he2
    · have lb : b < s.heap.objs.size := by
        rcases (show b = e ∨ b = it by simpa using hb) with rfl | rfl
        · exact le
        · exact li
      rw [upd_ne (Nat.ne_of_lt lb)]
      exact (hf b hb).1
  done := by
    intro X hP hw hK hc i pins s σ H E I hf st hg
    subst hP hw hK
    obtain ⟨⟨old, he⟩, hit, ne⟩ := st
    obtain ⟨xs, hq, hx⟩ := hg
    obtain ⟨its, rv, p, _⟩ := I.tuple hq
    have nl : a ≠ it := fun z => by
      obtain ⟨ob, hob, hcl, _⟩ := p
      obtain ⟨o, ho, hc2, _⟩ := hit
      rw [z, ho] at hob
      cases hob
      rw [hc2] at hcl
      injection hcl with hcl
      exact absurd hcl (by decide)
    have D := Draws.tuple (prog := X.prog) (w := X.w) (A := X.A.in1) (by show X.A.handled = none; exact I.ok.hd hc) it a nl its.toArray
    have sz : its.toArray.size = i := by rw [List.size_toArray, ← rv.length, hx]
    obtain ⟨f0, f1, f2, f3, f4, f5⟩ := hf it (by simp)
    refine wpAny_pyNext_enum_endD D he ⟨by rw [sz]; exact hit, p⟩ fun h' eb => ⟨rfl, I.turned (t' := s.toks) (fun b o hb q => eb b o hb q) f0 f1 f3 f4 f5⟩
  self := fun A i s Q E st hh => by
    obtain ⟨⟨_, he⟩, _⟩ := st
    exact wpAny_pyIter_enum he hh
def iEnumT (K : PySem.W.Frag) (ta : TA) : TI := fun σ H R => ta σ H fun vs H1 => ∃ a xs, vs = [.ref a] ∧ SqT K H1 a xs ∧ R (IteT K a) H1
theorem pi_enumT {X : Cx} {e : Expr} {ta : TA} {p pos tpos : Pos} {elts : List Expr} {kk : Nat} (hg : Gl X "enumerate") (hm : X.mg "enumerate" = none) (ha : PA X [e] ta) (hs : starEach [e] X.env = [(false, eval e X.env)] := by rfl) :
    PI X (.Tuple elts kk tpos) (.Call (.Name "enumerate" p) [e] [] pos) (iEnumT X.K ta) := ⟨fun pins s σ H R I hh => by
  refine Call_ (ld_blt I hg hm boot_enumerate (PyProof.Rows.callWith_type1 (thn (ha.run pos pins s σ H _ I hh) fun us s1 k => ?_) hs rfl))
  obtain ⟨vs, H1, I1, r1, a, xs, rfl, hq, q⟩ := k
  rw [Vals.ref1 r1]
  obtain ⟨its, rv, p', _⟩ := I1.tuple hq
  refine call_enumT (show s1.heap.IsTuple a its.toArray from p') fun h' he hit hk => wpAny_pyIter_enum he ?_
  have up : ∀ b ∈ [s1.heap.objs.size + 1, s1.heap.objs.size], s1.heap.objs.size ≤ b := fun b hb => by
    rcases (show b = s1.heap.objs.size + 1 ∨ b = s1.heap.objs.size by simpa using hb) with rfl | rfl
    · exact Nat.le_succ _
    · exact Nat.le_refl _
  exact ⟨s1.heap.objs.size + 1, [s1.heap.objs.size + 1, s1.heap.objs.size], _, _, H1, rfl, I1.kept (t' := s1.toks) hk, turn_enumT a (s1.heap.objs.size + 1) s1.heap.objs.size, ⟨⟨.none, he⟩, hit, Nat.succ_ne_self _⟩,
    fun b hb => I1.fpOk (up b hb) (I1.hok.fresh (up b hb)), q⟩⟩
theorem walk_enumT {K : PySem.W.Frag} {a : Addr} {xs : List V} : Walk (IteT K a) xs.length (fun H => SqT K H a xs) (YPair (fun i => some (.int (i : Nat))) (fun i => xs[i]?)) := by
  refine ⟨fun i _ hi q => ⟨xs, xs[i], q, List.getElem?_eq_getElem hi⟩, fun _ q => ⟨xs, q, rfl⟩, fun i H v H' _ q y => ?_⟩
  obtain ⟨T, x, e1, e2, e3, e4⟩ := y
  exact ⟨T, .int (i : Nat), x, e1, e2, e3, rfl, e4 xs q⟩
end Cd

set_option Elab.async false
set_option linter.all false
set_option maxRecDepth 100000
set_option maxHeartbeats 4000000
/-! K3: sorted(t) of a tuple of theInts. -/
namespace Cd
open PySem PySem.Spec PyProof.Rows L2
section
variable {prog : Program} {w : World} {A : Around} {E : Value → Shared → Prop} {s : Shared}
abbrev gone (h : Heap) (vs : List Value) : Heap := (h.push (seqObj "list" #[] 0)).update h.objs.size (Obj.mapSeq (· ++ vs.toArray))
theorem collectT {l : Addr} {vs : List Value} {Q : List Value → Shared → Prop} (isT : s.heap.IsTuple l vs.toArray) (few : vs.length ≤ sizeLine) (next : Q vs { s with heap := gone s.heap vs }) : wpAny (model prog w) A (collect (.ref l)) Q E s := by
  obtain ⟨o, ho, hc, n, hd⟩ := id isT
  have ho' : (s.heap.push (seqObj "list" #[] 0)).get? l = some o := Heap.get?_push_of_some _ ho
  have new : (s.heap.push (seqObj "list" #[] 0)).get? s.heap.objs.size = some (seqObj "list" #[] 0) := Heap.get?_push_size _ rfl
  unfold collect
  refine wpAny_bind (wpAny_runValue (codeAny_builtin entry_proto_collect' ?_))
  show wpAny _ _ (do
    again (.builtin "list.__iadd__" ⟨[← newList [], .ref l], []⟩)) _ _ s
  refine wpAny_bind (wpAny_newList (wpAny_pure ⟨Code.quiet_builtin _ (by decide +kernel), codeAny_builtin entry_list_iadd' ?_⟩))
  show wpAny _ _ (Builtin.List.listExtendWith (.ref s.heap.objs.size) (.ref l)
    (.ref s.heap.objs.size)) _ _ { s with heap := s.heap.push (seqObj "list" #[] 0) }
  unfold Builtin.List.listExtendWith
  refine wpAny_bind (wpAny_typeOf (T := "tuple") ⟨o, ho', hc⟩ ?_)
  have yes : (Value.type "tuple" == Value.type "tuple") = true := rfl
  rw [if_pos (by simp [yes])]
  refine wpAny_bind (listItems_at ho' hd (wpAny_bind (listItems_at (xs := #[]) (n := 0) new rfl ?_)))
  rw [if_neg (by simp)]
  refine wpAny_bind (listUpdate_at (xs := #[]) (n := 0) new rfl ?_ (Nat.zero_le _) (by show (#[] ++ vs.toArray).size ≤ sizeLine + 1; simp; omega))
  refine wpAny_pure ?_
  show wpAny (model prog w) A (do
    let o ← load s.heap.objs.size
    match o.data with
    | .seq xs _ => pure xs.toList
    | _ => unsupported "internal:collect") Q E { s with heap := gone s.heap vs }
  refine wpAny_bind (wpAny_load (get?_update_seq new _) ?_)
  show wpAny _ _ (pure ((#[] : Array Value) ++ vs.toArray).toList) Q E _
  rw [show ((#[] : Array Value) ++ vs.toArray).toList = vs by simp]
  exact wpAny_pure next
theorem sortedT {l : Addr} {vs : List Value} {ns : List Int} {Q : Value → Shared → Prop} (isT : s.heap.IsTuple l vs.toArray) (theInts : IntsAre vs ns) (few : vs.length < 64)
    (next : ∀ (out : Array Value) (ns' : List Int), IntsAre out.toList ns' → ns'.Perm ns → ns'.Pairwise (· ≤ ·) → Q (.ref (s.heap.objs.size + 1)) { s with heap := sortedAll s.heap vs out }) :
    wpAny (model prog w) A (call (.builtin "sorted") [.ref l]) Q E s := by
  refine Calls.call_function_entry kind_sorted plain_sorted entry_sorted (args_sorted1 _) ?_
  unfold Builtin.«sorted»
  refine wpAny_bind (m := checkCount "sorted" 1 1 _) (wpAny_pure (wpAny_bind (collectT isT (by rw [sizeLine_eq]; omega) (wpAny_bind (wpAny_newList ?_)))))
  have size1 : (gone s.heap vs).objs.size = s.heap.objs.size + 1 := by rw [Heap.size_update, size_push']
  have there : ((gone s.heap vs).push (seqObj "list" vs.toArray 0)).get? (s.heap.objs.size + 1) = some (seqObj "list" vs.toArray 0) := by
    rw [← size1]
    exact Heap.get?_push_size _ rfl
  show wpAny _ _ _ _ _ { s with heap := (gone s.heap vs).push (seqObj "list" vs.toArray 0) }
  rw [size1]
  refine wpAny_bind (wpAny_holding (wpAny_call_entry slot_list_sort ⟨_, there, rfl⟩ entry_list_sort (list_sort_tree there theInts few fun out ns' a1 a2 a3 => ⟨_, rfl, ?_⟩) (args_list_sort _)))
  exact wpAny_pure ⟨_, rfl, next out ns' a1 a2 a3⟩
end
section
variable {X : Cx}
def rSortTI (K : PySem.W.Frag) : List V → Hp → VK → Prop := fun vs H Q => ∃ (a : Addr) (ns : List Int), vs = [V.ref a] ∧ SqT K H a (ns.map V.int) ∧ ns.length < 64 ∧
  ∀ (ns' : List Int) (p : Addr), ns'.Perm ns → ns'.Pairwise (· ≤ ·) → H p = none → Q (.ref p) (upd H p (.lst (ns'.map V.int)))
theorem cr_sortTI : CallR X (.builtin "sorted") (rSortTI X.K) := fun pins s σ H vs us Q I r hh => by
  obtain ⟨a, ns, rfl, hs, few, q⟩ := hh
  obtain ⟨its, rv, isT, _⟩ := I.tuple hs
  rw [Vals.ref1 r]
  have theInts := rv.ints
  refine sortedT (show s.heap.IsTuple a its.toArray from isT) theInts (by rw [theInts.length]; exact few) fun out ns' e1 e2 e3 => ?_
  obtain ⟨c, hc⟩ := sortedAll_at s.heap its out
  have len : (ns'.map V.int).length ≤ sizeLine := by rw [List.length_map, e2.length_eq]; exact small64 few
  have J := I.laid (a := s.heap.objs.size + 1) (o := .lst (ns'.map V.int)) (t' := s.toks) (fun _ _ => sortedAll_old) (Nat.le_succ _) ⟨len, out.toList, c, vals_of_ints e1, hc⟩
  exact ⟨.ref _, _, J, rfl, q ns' _ e2 e3 (I.hok.fresh (Nat.le_succ _))⟩
end
end Cd

set_option Elab.async false
set_option linter.all false
set_option maxRecDepth 100000
set_option maxHeartbeats 4000000
/-! K4: set(x) of a list or a tuple, by what its loop does. -/
namespace Cd
open PySem PySem.Spec PyProof.Rows L2
section
variable {P : Program} {w : World} {A : Around} {E : Value → Shared → Prop} {s : Shared}
/-- the new set ahead of its filling -/
abbrev set0 (w : World) : Obj := { cls := .type "set", dict := none, data := .set #[] 0 (.fresh 0 0 (!w.params.followText "set-order")) }
abbrev hSet (w : World) (h : Heap) (it : Obj) : Heap := (h.push (set0 w)).push it
theorem set_gen {T : String} {l : Addr} {od : Option Addr} {da : Data} {slo : Array (Option Value)} {it : Obj} {G : Heap → Nat → Prop} {Q : Value → Shared → Prop}
    (ho : s.heap.get? l = some { cls := .type T, dict := od, data := da, slots := slo }) (s1 : isSubtype (.type T) (.type "set") = pure false) (s2 : isSubtype (.type T) (.type "frozenset") = pure false)
    (s3 : (Value.type T == Value.type "dict") = false) (free : it.isFreed = false)
    (iter : ∀ (A' : Around) (E' : Value → Shared → Prop) (s' : Shared) (Q' : Value → Shared → Prop), s'.heap = s.heap.push (set0 w) → Q' (.ref s'.heap.objs.size) { s' with heap := s'.heap.push it } → wpAny (model P w) A' (pyIter (.ref l)) Q' E' s')
    (loop : ∀ (s' : Shared) (R : Result → Shared → Prop), s' = { s with heap := hSet w s.heap it } →
      (∀ h' tk, G h' tk → R (.ok (.ret .none)) { s with heap := h', toks := tk }) → codeAny (model P w) A.in1.in1 (.builtin "set.update.loop" ⟨[.ref s.heap.objs.size, .ref (s.heap.objs.size + 1)], []⟩) R s')
    (next : ∀ h' tk, G h' tk → Q (.ref s.heap.objs.size) { s with heap := h', toks := tk }) : wpAny (model P w) A (call (.type "set") [.ref l]) Q E s := by
  obtain ⟨_, _, mro⟩ := F.called_set.mro
  have t1 := F.called_set.made
  have t2 := F.called_set.sub
  have t3 := F.called_set.notType
  have t4 := F.called_set.canCreate
  have t5 := F.typeCall_set_1 (.ref l)
  refine wpAny_call (codeAny_of_tree (show wpAny _ _ (callAny (.type "set") _) _ _ _ from ?_))
  refine wpAny_pure ⟨Code.quiet_builtin _ (by decide +kernel), codeAny_builtin F.entry_type_call ?_⟩
  rw [Around.under_plain (weight_type_call_type "set" [.ref l] []) rfl]
  repeat (any_goals (first | assumption | wp_step))
  refine codeAny_mono (code_set_led1 (.ref l) (E := E) (Q₁ := fun obj z => obj = .ref s.heap.objs.size ∧ z = { s with heap := s.heap.push (set0 w) }) ⟨rfl, rfl⟩) fun r z hr => ?_
  rcases r with e | fl
  · exact hr
  · cases fl with
    | ret obj =>
      obtain ⟨rfl, rfl⟩ := hr
      have hS : (s.heap.push (set0 w)).get? s.heap.objs.size = some (set0 w) := Heap.get?_push_size _ rfl
      have hT : Shared.TypeIs { s with heap := s.heap.push (set0 w) } (.ref s.heap.objs.size) "set" := ⟨_, hS, rfl⟩
      have t6 := F.called_set.init.lookup
      have t7 := F.called_set.init.bind (.ref s.heap.objs.size)
      repeat (any_goals (first | assumption | wp_step))
      refine codeAny_mono (codeAny_call_builtin (R := wants (fun r z => r = .none ∧ ∃ h' tk, z = { s with heap := h', toks := tk } ∧ G h' tk) E) F.called_set.init.plain F.entry_set_init (check_set_init_1 hT ?_)) fun r2 z2 hr2 => ?_
      · have ho' : (s.heap.push (set0 w)).get? l = some { cls := .type T, dict := od, data := da, slots := slo } := Heap.get?_push_of_some _ ho
        unfold Builtin.«set.__init__» noKeywords Builtin.Frozenset.updateFrom
        generalize hPI : pyIter = PI
        wp_walk
        subst hPI
        refine iter _ _ _ _ rfl ?_
        refine wpAny_bind (wpAny_runValue ?_)
        have sz : (s.heap.push (set0 w)).objs.size = s.heap.objs.size + 1 := Heap.size_push ..
        show codeAny _ _ (.builtin "set.update.loop" ⟨[.ref s.heap.objs.size, .ref (s.heap.push (set0 w)).objs.size], []⟩) _ _
        rw [sz]
        refine loop _ _ rfl fun h' tk g => ?_
        show wpAny _ _ _ _ _ _
        refine wpAny_pure (show wpAny _ _ (ret Value.none) _ _ _ from wpAny_pure ⟨rfl, h', tk, rfl, g⟩)
      · rcases r2 with e2 | fl2
        · exact hr2
        · cases fl2 with
          | ret r =>
            obtain ⟨rfl, h', tk, rfl, g⟩ := hr2
            repeat (any_goals (first | assumption | wp_step))
            exact next _ _ g
          | _ => exact hr2.elim
    | _ => exact hr.elim
end
end Cd

set_option Elab.async false
set_option linter.all false
set_option maxRecDepth 100000
set_option maxHeartbeats 4000000
/-! K5: set(xs) of a list of ints; set(t) of a tuple of tuples of ints. -/
namespace Cd
open PySem PySem.Spec PyProof.Rows L2
section
variable {P : Program} {w : World} {A : Around} {E : Value → Shared → Prop} {s : Shared}
theorem set_kept {S : Addr} {it : Obj} {s' : Shared} {Gr : Array GenState → Array GenState → Prop} (hS : S = s.heap.objs.size) (m : Moved [S, s.heap.objs.size + 1] Gr { s with heap := hSet w s.heap it } s') :
    ∀ b o, s.heap.get? b = some o → s'.heap.get? b = some o := fun b o e => by
  have lt : b < s.heap.objs.size := Heap.lt_size e
  refine m.heap b o (fun hm => ?_) (Heap.get?_push_of_some _ (Heap.get?_push_of_some _ e))
  rcases (show b = S ∨ b = s.heap.objs.size + 1 by simpa using hm) with z | z
  · rw [z, hS] at lt; exact absurd lt (Nat.lt_irrefl _)
  · rw [z] at lt; exact absurd lt (Nat.not_lt_of_le (Nat.le_succ _))
theorem setL_ints {l : Addr} {items : Array Value} {ns : List Int} {Q : Value → Shared → Prop} (hh : A.handled = none) (isL : s.heap.IsList l items) (theInts : IntsAre items.toList ns) (few : ns.length + 1 < scanBound)
    (next : ∀ h' tk c, SetR w h' s.heap.objs.size (fun j => decide (j ∈ ns)) c → c ≤ ns.length → (∀ b o, s.heap.get? b = some o → h'.get? b = some o) → Q (.ref s.heap.objs.size) { s with heap := h', toks := tk }) :
    wpAny (model P w) A (call (.type "set") [.ref l]) Q E s := by
  obtain ⟨⟨cl, od, da, slo⟩, ho, hc, n, hd⟩ := isL
  simp only at hc hd
  subst hc hd
  have lt : l < s.heap.objs.size := Heap.lt_size ho
  have sz : items.size = ns.length := by rw [← Array.length_toList]; exact theInts.length
  refine set_gen (it := { cls := .type "list_iterator", data := .fields #[.ref l, .int 0 0] }) (G := fun h' _ => ∃ c, SetR w h' s.heap.objs.size (fun j => decide (j ∈ ns)) c ∧ c ≤ ns.length ∧ ∀ b o, s.heap.get? b = some o → h'.get? b = some o)
    ho F.sub_list_set F.sub_list_frozenset (by decide) rfl (fun A' E' s' Q' e q => ?_) (fun s' R e k => ?_) fun h' tk ⟨c, g1, g2, g3⟩ => next h' tk c g1 g2 g3
  · exact wpAny_pyIter_list (items := items) ⟨_, by rw [e]; exact Heap.get?_push_of_some _ ho, rfl, n, rfl⟩ q
  · subst e
    have h3 : A.in1.in1.in1.handled = none := by simp [hh]
    have ne : l ≠ s.heap.objs.size + 1 := Nat.ne_of_lt (Nat.lt_succ_of_lt lt)
    have out : s.heap.objs.size ∉ [s.heap.objs.size + 1, l] := by
      simp only [List.mem_cons, List.not_mem_nil, or_false, not_or]
      exact ⟨Nat.ne_of_lt (Nat.lt_succ_self _), Nat.ne_of_gt lt⟩
    have val : ∀ (i : Nat) (v : Value), items[i]? = some v → ∃ k t, ns[i]? = some k ∧ v = .int k t := fun i v hv => by
      have hi : i < ns.length := sz ▸ (Array.getElem?_eq_some_iff.mp hv).1
      obtain ⟨t, et⟩ := theInts.int_at i v (by rw [Array.getElem?_toList]; exact hv)
      refine ⟨ns[i], t, List.getElem?_eq_getElem hi, ?_⟩
      rw [et, List.getD_eq_getElem?_getD, List.getElem?_eq_getElem hi] <;> rfl
    have two : (s.heap.push (set0 w)).objs.size = s.heap.objs.size + 1 := Heap.size_push ..
    refine set_update_ints ((Walks.list h3 (s.heap.objs.size + 1) l ne items).toS) s.heap.objs.size out ns sz few val (items.size - 0) 0 _ (by omega) (Nat.zero_le _)
      ⟨⟨_, by rw [← two]; exact Heap.get?_push_size _ rfl, rfl, rfl⟩, ⟨_, Heap.get?_push_of_some _ (Heap.get?_push_of_some _ ho), rfl, n, rfl⟩⟩
      ⟨0, Nat.le_refl 0, setR_new_at (Heap.get?_push_of_some _ (Heap.get?_push_size _ rfl))⟩ fun s2 c m hc2 hS2 => ?_
    have kept := set_kept (w := w) rfl m
    obtain ⟨h2, g2, d2, tk2, os2⟩ := s2
    have eg : g2 = s.gens := m.gens
    have ed : d2 = s.drawn := m.drawn
    have eo : os2 = s.os := m.os
    subst eg ed eo
    exact k h2 tk2 ⟨c, hS2, sz ▸ hc2, kept⟩
theorem setT_tups {l : Addr} {items : Array Value} (ks : List (Addr × List Int)) {Q : Value → Shared → Prop} (hh : A.handled = none) (isT : s.heap.IsTuple l items) (hit : items.toList = ks.map fun p => Value.ref p.1)
    (hk : ∀ p ∈ ks, IsT P w s.heap p.2 p.1) (few : ks.length < 64) (hu : A.units + 3 < cLine)
    (next : ∀ h' tk L es ep t, SetTR P w h' s.heap.objs.size L es ep t → Got ks ks.length L → (∀ b o, s.heap.get? b = some o → h'.get? b = some o) → Q (.ref s.heap.objs.size) { s with heap := h', toks := tk }) :
    wpAny (model P w) A (call (.type "set") [.ref l]) Q E s := by
  obtain ⟨⟨cl, od, da, slo⟩, ho, hc, n, hd⟩ := isT
  simp only at hc hd
  subst hc hd
  have lt : l < s.heap.objs.size := Heap.lt_size ho
  have sz : items.size = ks.length := by rw [← Array.length_toList, hit, List.length_map]
  refine set_gen (it := tupIt l) (G := fun h' _ => ∃ L es ep t, SetTR P w h' s.heap.objs.size L es ep t ∧ Got ks ks.length L ∧ ∀ b o, s.heap.get? b = some o → h'.get? b = some o)
    ho F.sub_tuple_set F.sub_tuple_frozenset (by decide) rfl (fun A' E' s' Q' e q => ?_) (fun s' R e k => ?_) fun h' tk ⟨L, es, ep, t, g1, g2, g3⟩ => next h' tk L es ep t g1 g2 g3
  · exact wpAny_pyIter_tuple (items := items) ⟨_, by rw [e]; exact Heap.get?_push_of_some _ ho, rfl, n, rfl⟩ q
  · subst e
    have h3 : A.in1.in1.in1.handled = none := by simp [hh]
    have ne : l ≠ s.heap.objs.size + 1 := Nat.ne_of_lt (Nat.lt_succ_of_lt lt)
    have out : s.heap.objs.size ∉ [s.heap.objs.size + 1, l] := by
      simp only [List.mem_cons, List.not_mem_nil, or_false, not_or]
      exact ⟨Nat.ne_of_lt (Nat.lt_succ_self _), Nat.ne_of_gt lt⟩
    have val : ∀ (i : Nat) (v : Value), items[i]? = some v → ∃ p, ks[i]? = some p ∧ v = .ref p.1 := fun i v hv => by
      have hv' : items.toList[i]? = some v := by rw [Array.getElem?_toList]; exact hv
      rw [hit, List.getElem?_map] at hv'
      cases hq : ks[i]? with
      | none => rw [hq] at hv'; cases hv'
      | some p => rw [hq] at hv'; exact ⟨p, rfl, (Option.some.inj hv').symm⟩
    have two : (s.heap.push (set0 w)).objs.size = s.heap.objs.size + 1 := Heap.size_push ..
    have empty : ∀ b, s.heap.objs.size ≤ b → s.heap.get? b = none := fun b hb => Heap.get?_none_of_le hb
    refine set_update_tups ((Walks.tuple h3 (s.heap.objs.size + 1) l ne items).toS) s.heap.objs.size out ks sz few val s.heap hk (empty _ (Nat.le_refl _))
      (fun b hb => empty b (by rw [List.mem_singleton.mp hb]; exact Nat.le_succ _)) (by show A.units + 3 < cLine; exact hu) (items.size - 0) 0 _ (by omega) (Nat.zero_le _)
      ⟨⟨_, by rw [← two]; exact Heap.get?_push_size _ rfl, rfl, rfl⟩, ⟨_, Heap.get?_push_of_some _ (Heap.get?_push_of_some _ ho), rfl, n, rfl⟩⟩
      (fun b o e => Heap.get?_push_of_some _ (Heap.get?_push_of_some _ e)) ⟨[], #[], 0, _, setTR_fresh (Heap.get?_push_of_some _ (Heap.get?_push_size _ rfl)), Got.zero ks⟩ fun s2 L es ep t m hS2 g2 kept => ?_
    obtain ⟨h2, gg2, d2, tk2, os2⟩ := s2
    have eg : gg2 = s.gens := m.gens
    have ed : d2 = s.drawn := m.drawn
    have eo : os2 = s.os := m.os
    subst eg ed eo
    exact k h2 tk2 ⟨L, es, ep, t, hS2, sz ▸ g2, kept⟩
end
section
variable {X : Cx}
/-- set(xs), xs a list of ints -/
def rSetLI (K : PySem.W.Frag) (w : World) : List V → Hp → VK → Prop := fun xs H Q => ∃ (l : Addr) (ns : List Int), xs = [V.ref l] ∧ SqL K H l (ns.map V.int) ∧ ns.length < 64 ∧
  ∀ a c, H a = none → c ≤ ns.length → Q (.ref a) (upd H a (SetO w a (fun j => decide (j ∈ ns)) c))
theorem cr_setLI (hc : X.calm = true) : CallR X (.type "set") (rSetLI X.K X.w) := fun pins s σ H xs us Q I r hh => by
  obtain ⟨l, ns, rfl, hl, few, q⟩ := hh
  rw [Vals.ref1 r]
  obtain ⟨its, rv, pl, _⟩ := I.list hl
  refine setL_ints (I.ok.hd hc) pl.isList (by simpa using rv.ints) (by unfold scanBound; omega) fun h' tk c R hle k => ?_
  exact ⟨.ref s.heap.objs.size, _, I.laid (t' := tk) k (Nat.le_refl _) (setO_new R), rfl, q _ c (I.hok.fresh (Nat.le_refl _)) hle⟩
/-- set(t), t a tuple of tuples of ints -/
def rSetTT (K : PySem.W.Frag) (P : Program) (w : World) : List V → Hp → VK → Prop := fun xs H Q => ∃ (l : Addr) (ks : List (Addr × List Int)), xs = [V.ref l] ∧ SqT K H l (ks.map fun p => V.ref p.1) ∧ (∀ p ∈ ks, SqT K H p.1 (p.2.map V.int)) ∧
  ks.length < 64 ∧ ∀ a L, H a = none → (∀ p ∈ L, p ∈ ks) → (∀ p ∈ ks, p.2 ∈ L.map (·.2)) → Q (.ref a) (upd H a (SetTO P w a L))
theorem cr_setTT (hc : X.calm = true) (hu : X.A.units + 64 < cLine) : CallR X (.type "set") (rSetTT X.K X.prog X.w) := fun pins s σ H xs us Q I r hh => by
  obtain ⟨l, ks, rfl, hl, hk, few, q⟩ := hh
  rw [Vals.ref1 r]
  obtain ⟨its, rv, pl, _⟩ := I.tuple hl
  refine setT_tups (P := X.prog) (w := X.w) ks (I.ok.hd hc) (show s.heap.IsTuple l its.toArray from pl) (by simpa using refs_of_vals rv) (fun p hp => I.isT (hk p hp)) few (by omega) fun h' tk L es ep t R g k => ?_
  exact ⟨.ref s.heap.objs.size, _, I.laid (t' := tk) k (Nat.le_refl _) (setTO_new R.t0), rfl, q _ L (I.hok.fresh (Nat.le_refl _)) (fun p hp => List.mem_of_mem_take (g.sub p hp)) fun p hp => g.all p (by rw [List.take_length]; exact hp)⟩
end
end Cd

set_option Elab.async false
set_option linter.all false
set_option maxRecDepth 100000
set_option maxHeartbeats 4000000
/-! K6: tuples whose object is known (no dict of its own): made, cut, joined; t.index(k). -/
namespace Cd
open PySem PySem.Spec PyProof.Rows L2
/-- a tuple without a dict of its own -/
def PT (H : Hp) (a : Addr) (xs : List V) : Prop := ∃ o : Obj, o.dict = none ∧ H a = some (.frz o (.tup xs))
theorem PT.sq {K : PySem.W.Frag} {H : Hp} {a : Addr} {xs : List V} (h : PT H a xs) : SqT K H a xs := by
  obtain ⟨o, _, e⟩ := h
  exact .inl (.inr ⟨o, e⟩)
theorem PT.ex {H H' : Hp} {a : Addr} {xs : List V} (e : Evl.Ex H H') (h : PT H a xs) : PT H' a xs := by
  obtain ⟨o, d, q⟩ := h
  exact ⟨o, d, e a _ q⟩
/-- what follows a new such tuple -/
def NewT (xs : List V) (H : Hp) (Q : VK) : Prop := ∀ p H', H p = none → Evl.Ex H H' → PT H' p xs → Q (.ref p) H'
section
variable {X : Cx} {pins : List (Addr × Obj)} {σ : L2.St} {H : Hp} {s : Shared}
theorem newT_fin {xs : List V} {its : List Value} {h' : Heap} {tk : Nat} {Q : VK} (I : L2.Inv X pins σ H { s with heap := h', toks := tk }) (len : xs.length ≤ sizeLine) (rv : Vals xs its) (q : NewT xs H Q) :
    EP X pins σ Q (.ref h'.objs.size) { s with heap := h'.push { cls := .type "tuple", data := .seq its.toArray }, toks := tk } := by
  have free : H h'.objs.size = none := I.hok.fresh (Nat.le_refl _)
  have at' : (h'.push { cls := .type "tuple", data := .seq its.toArray }).get? h'.objs.size = some { cls := .type "tuple", data := .seq its.toArray } := Heap.get?_push_size _ rfl
  refine ⟨.ref h'.objs.size, upd H h'.objs.size (.frz { cls := .type "tuple", data := .seq its.toArray } (.tup xs)), ?_, rfl, q _ _ free (Evl.Ex.new free) ⟨_, rfl, upd_same⟩⟩
  exact I.laid (t' := tk) (fun b ob e => Heap.get?_push_of_some _ e) (Nat.le_refl _) ⟨at', len, its, rv, IsTup.new _ _⟩
/-- (a, b, ..) -/
def tTupP (t : TA) : TE := fun σ H Q => t σ H fun xs H1 => xs.length ≤ sizeLine ∧ NewT xs H1 Q
theorem pe_tupP {es : List Expr} {t : TA} {k : Nat} {pos : Pos} (ha : PA X es t) : PE X (.Tuple es k pos) (tTupP t) := ⟨fun pins s σ H Q I hq => by
  refine wpAny_Tuple_spliced (thn (ha.run pos pins s σ H _ I hq) fun us s1 k => ?_)
  obtain ⟨xs, H1, I1, r, z, q⟩ := k
  exact ⟨r.length ▸ z, newT_fin (tk := s1.toks) I1 z r q⟩⟩
/-- tuple(x) -/
def rTupP (K : PySem.W.Frag) : List V → Hp → VK → Prop := fun vs H Q => ∃ p ys, vs = [.ref p] ∧ ((SqL K H p ys ∧ NewT ys H Q) ∨ (PT H p ys ∧ Q (.ref p) H))
theorem cr_tupP : CallR X (.type "tuple") (rTupP X.K) := fun pins s σ H vs us Q I r hh => by
  obtain ⟨p, ys, rfl, hh⟩ := hh
  rw [Vals.ref1 r]
  rcases hh with ⟨hq, q⟩ | ⟨hq, q⟩
  · obtain ⟨its, rv, pl, z⟩ := I.list hq
    refine call_tuple_list pl.isList (fun h' k => ?_) (by rw [List.size_toArray, ← rv.length]; exact z)
    exact newT_fin (tk := s.toks) (I.kept (t' := s.toks) k) z rv q
  · obtain ⟨its, rv, pl, _⟩ := I.tuple (hq.sq (K := X.K))
    exact call_tuple_same pl ⟨.ref p, H, I, rfl, q⟩
/-- tuple(range(..)) -/
def tTupRgP (te : L2.St → Hp → (Int → Int → Hp → Prop) → Prop) : TE := fun σ H Q => te σ H fun a b H1 => RgOk a b ∧ NewT (rgV a b) H1 Q
theorem pe_tupRgP {e : Expr} {te : L2.St → Hp → (Int → Int → Hp → Prop) → Prop} {p pos : Pos} (hc : X.calm = true) (hg : Gl X "tuple") (hm : X.mg "tuple" = none) (he : PRg X e te) (na : starEach [e] X.env = (false, eval e X.env) :: starEach [] X.env := by rfl) :
    PE X (.Call (.Name "tuple" p) [e] [] pos) (tTupRgP te) := ⟨fun pins s σ H Q I hq => by
  refine Call_ (ld_blt I hg hm boot_tuple (PyProof.Rows.callWith_type1 (args_cons (thn (he pins s σ H _ I hq) fun x s1 k => args_nil ?_) na) na))
  obtain ⟨r, a, b, t, u, v, H1, rfl, isR, I1, ok, q⟩ := k
  obtain ⟨b1, b2, b3, b4, b5⟩ := ok
  refine call_tuple_range (n := (b - a).toNat) (I1.ok.hd hc) isR (small_one b1 b2 b3 b4) (rangeSize_nat a b) b5 fun h' tk acc k hi => ?_
  have z : (rgV a b).length ≤ sizeLine := by rw [rgV_length, sizeLine_eq]; omega
  have fin := newT_fin (tk := tk) (its := acc.toList) (I1.kept (t' := tk) k) z (vals_rg hi) q
  rw [Array.toArray_toList] at fin
  exact fin⟩
/-- t + u -/
def rCatP : R2 := fun x y H Q => ∃ a b xs ys, x = .ref a ∧ y = .ref b ∧ PT H a xs ∧ PT H b ys ∧ xs.length + ys.length ≤ sizeLine ∧ (xs = [] → Q (.ref b) H) ∧ (xs ≠ [] → ys = [] → Q (.ref a) H) ∧ (xs ≠ [] → ys ≠ [] → NewT (xs ++ ys) H Q)
theorem op_catP : OpR X (binaryOp .Add) rCatP := fun pins s σ H x y v u Q I rx ry hh => by
  obtain ⟨a, b, xs, ys, rfl, rfl, ha, hb, z, q0, q1, q2⟩ := hh
  cases rx
  cases ry
  obtain ⟨its, r1, p1, _⟩ := I.tuple (ha.sq (K := X.K))
  obtain ⟨its2, r2, p2, _⟩ := I.tuple (hb.sq (K := X.K))
  by_cases hx : xs = []
  · subst hx
    cases r1
    exact cat_tup0 p1 p2 ⟨.ref b, H, I, rfl, q0 rfl⟩
  · refine HT.cat_tup p1 p2 (fun e => hx (r1.nil_iff.mp e)) (fun e => ⟨.ref a, H, I, rfl, q1 hx (r2.nil_iff.mp e)⟩) (fun e => ?_) (by rw [← r1.length, ← r2.length]; exact z)
    exact newT_fin (tk := s.toks) I (by rw [List.length_append]; exact z) (r1.append r2) (q2 hx fun w => e (r2.nil_iff.mpr w))
/-- t[lo:hi] -/
def rSlP : V → Option Int → Option Int → Hp → VK → Prop := fun x lo hi H Q => ∃ a xs, x = .ref a ∧ PT H a xs ∧
  (HT.sIx xs.length 0 lo = 0 ∧ HT.sIx xs.length xs.length hi = xs.length → Q (.ref a) H) ∧ (¬ (HT.sIx xs.length 0 lo = 0 ∧ HT.sIx xs.length xs.length hi = xs.length) → NewT (cutV xs lo hi) H Q)
theorem sl_tupP : SlR X rSlP := fun pins s σ H x v vl vu lo hi sl Q I rx hs pl pu hh => by
  obtain ⟨a, xs, rfl, hx, q1, q2⟩ := hh
  cases rx
  obtain ⟨its, rv, pt, z⟩ := I.tuple (hx.sq (K := X.K))
  have len : its.toArray.size = xs.length := by rw [List.size_toArray, rv.length]
  refine ⟨"tuple", _, PyProof.Rows.slot_tuple_getitem.lookup, pt.typeIs, ?_⟩
  by_cases hw : HT.sIx xs.length 0 lo = 0 ∧ HT.sIx xs.length xs.length hi = xs.length
  · exact getItem_tuple_whole pt hs pl pu (by rw [len]; exact hw) ⟨.ref a, H, I, rfl, q1 hw⟩
  · refine HT.getItem_tuple_cut pt hs pl pu (by rw [len]; exact hw) ?_ (by rw [len]; exact z)
    have fin := newT_fin (tk := s.toks) I (Nat.le_trans (cutV_length xs lo hi) z) ((rv.drop (HT.sIx xs.length 0 lo)).take (HT.sIx xs.length xs.length hi - HT.sIx xs.length 0 lo)) (q2 hw)
    rw [len]
    exact fin
/-- t.index(k) -/
def tIxm (K : PySem.W.Frag) (to : TE) (t : TA) : TE := fun σ H Q => to σ H fun x H1 => (∃ a xs, x = .ref a ∧ PT H1 a xs) ∧ t σ H1 fun ys H2 => rTupIx K x ys H2 Q
theorem pe_ixm {o e : Expr} {es : List Expr} {to : TE} {t : TA} {apos cpos : Pos} (ho : PE X o to) (ha : PA X (e :: es) t)
    (hbase : attributeBase o "index" X.env (eval o X.env) = eval o X.env := by rfl)
    (hfew : ((backTo cpos (starEach (e :: es) X.env)).all (fun x => !x.1) && (backToKw cpos (keywordEach [] X.env)).all (fun x => x.1.isSome)
      && decide ((e :: es).length + ([] : List Keyword).length + (if ([] : List Keyword).isEmpty then 0 else 1) < 30)) = true := by rfl)
    (hline : (apos.endLine == cpos.line) = true := by rfl) (hs : starEach (e :: es) X.env = (false, eval e X.env) :: starEach es X.env := by rfl) (hplain : (backTo cpos (starEach es X.env)).any (·.1) = false := by rfl) :
    PE X (.Call (.Attribute o "index" apos) (e :: es) [] cpos) (tIxm X.K to t) := ⟨fun pins s σ H Q I hq => by
  refine wpAny_Call_method_late hbase hfew hline rfl (thn (ho.run pins s σ H _ I hq) fun v s1 k => ?_)
  obtain ⟨x, H1, I1, r1, ⟨a, xs, rfl, ob, dn, hp⟩, q1⟩ := k
  cases r1
  have hob : s1.heap.get? a = some ob ∧ ObjOk X.prog X.w H1 s1.heap a (.tup xs) := I1.hok a _ hp
  have ty : s1.TypeIs (.ref a) "tuple" := by
    obtain ⟨_, _, _, pt⟩ := hob.2
    exact pt.typeIs
  have nd : ∀ b, Value.ref a = .ref b → ∃ o', s1.heap.get? b = some o' ∧ o'.dict = none := fun b e => by
    cases e
    exact ⟨ob, hob.1, dn⟩
  refine ⟨"tuple", "tuple.index", PySem.F.plainAttrs_tuple, PySem.F.slot_tuple_index, PySem.F.type_tuple_index, ty, nd, ?_⟩
  have hA := ha.run cpos pins s1 σ H1 _ I1 q1
  rw [hs] at hA ⊢
  refine Calls.callWith_builtin (by show (false || (backTo cpos (starEach es X.env)).any (·.1)) = false; rw [hplain] <;> rfl) (Calls.evalArgs_plain (thn hA fun us s2 k => ?_))
  obtain ⟨vs, H2, I2, r2, q2⟩ := k
  exact mt_tupIx pins s2 σ H2 (.ref a) vs (.ref a) us Q I2 rfl r2 q2⟩
end
end Cd

set_option Elab.async false
set_option linter.all false
set_option maxRecDepth 100000
set_option maxHeartbeats 4000000
/-! E1: what a reading evaluates to, told by data; the slots told by data. -/
namespace Cd
open PySem PySem.Spec PyProof.Rows L2
open Evl (Ex EvT)
/-! ### data -/
/-- data without lists within: it can't change -/
inductive NL : PyData → Prop
  | non : NL .none
  | bl (b : Bool) : NL (.bool b)
  | int (i : Int) : NL (.int i)
  | str (x : Str) : NL (.str x)
  | tup {ds : List PyData} : (∀ d ∈ ds, NL d) → NL (.tuple ds)
mutual
/-- v is this data; its tuples bear no dict of their own -/
inductive Dt (K : PySem.W.Frag) (H : Hp) : V → PyData → Prop
  | non : Dt K H .non .none
  | bl (b : Bool) : Dt K H (.bl b) (.bool b)
  | int (i : Int) : Dt K H (.int i) (.int i)
  | str (x : Str) : Dt K H (.str x) (.str x)
  | lst {a : Addr} {xs : List V} {ds : List PyData} : SqL K H a xs → DtAll K H xs ds → Dt K H (.ref a) (.list ds)
  | tup {a : Addr} {xs : List V} {ds : List PyData} : PT H a xs → DtAll K H xs ds → Dt K H (.ref a) (.tuple ds)
inductive DtAll (K : PySem.W.Frag) (H : Hp) : List V → List PyData → Prop
  | nil : DtAll K H [] []
  | cons {v : V} {vs : List V} {d : PyData} {ds : List PyData} : Dt K H v d → DtAll K H vs ds → DtAll K H (v :: vs) (d :: ds)
end
mutual
theorem dt_dp {K : PySem.W.Frag} {H : Hp} : ∀ {v : V} {d : PyData}, Dt K H v d → Dp K H v d
  | _, _, .non => .non
  | _, _, .bl b => .bl b
  | _, _, .int i => .int i
  | _, _, .str x => .str x
  | _, _, .lst s a => .lst s (da_dp a)
  | _, _, .tup s a => .tup s.sq (da_dp a)
theorem da_dp {K : PySem.W.Frag} {H : Hp} : ∀ {vs : List V} {ds : List PyData}, DtAll K H vs ds → DpAll K H vs ds
  | _, _, .nil => .nil
  | _, _, .cons h t => .cons (dt_dp h) (da_dp t)
end
theorem sq_rd {K : PySem.W.Frag} {H H' : Hp} {a : Addr} {xs : List V} (k : ∀ u, Rd H a u → (∃ xs, u = .lst xs) → Rd H' a u) (h : SqL K H a xs) : SqL K H' a xs := h.imp (fun r => k _ r ⟨_, rfl⟩) id
mutual
theorem dp_ex {K : PySem.W.Frag} {H H' : Hp} (e : Ex H H') : ∀ {v : V} {d : PyData}, Dt K H v d → Dt K H' v d
  | _, _, .non => .non
  | _, _, .bl b => .bl b
  | _, _, .int i => .int i
  | _, _, .str x => .str x
  | _, _, .lst s a => .lst (Evl.ex_l e s) (da_ex e a)
  | _, _, .tup s a => .tup (s.ex e) (da_ex e a)
theorem da_ex {K : PySem.W.Frag} {H H' : Hp} (e : Ex H H') : ∀ {vs : List V} {ds : List PyData}, DtAll K H vs ds → DtAll K H' vs ds
  | _, _, .nil => .nil
  | _, _, .cons h t => .cons (dp_ex e h) (da_ex e t)
end
theorem da_len {K : PySem.W.Frag} {H : Hp} : ∀ {vs : List V} {ds : List PyData}, DtAll K H vs ds → vs.length = ds.length
  | _, _, .nil => rfl
  | _, _, .cons _ t => congrArg (· + 1) (da_len t)
theorem da_get {K : PySem.W.Frag} {H : Hp} : ∀ {vs : List V} {ds : List PyData} {i : Nat} {d : PyData}, DtAll K H vs ds → ds[i]? = some d → ∃ v, vs[i]? = some v ∧ Dt K H v d
  | _, _, _, _, .nil, e => by simp at e
  | _, _, 0, _, .cons h _, e => by
    have e := Option.some.inj e
    subst e
    exact ⟨_, rfl, h⟩
  | _, _, i + 1, _, .cons _ t, e => da_get (i := i) t e
theorem da_get' {K : PySem.W.Frag} {H : Hp} : ∀ {vs : List V} {ds : List PyData} {i : Nat} {v : V}, DtAll K H vs ds → vs[i]? = some v → ∃ d, ds[i]? = some d ∧ Dt K H v d
  | _, _, _, _, .nil, e => by simp at e
  | _, _, 0, _, .cons h _, e => by
    have e := Option.some.inj e
    subst e
    exact ⟨_, rfl, h⟩
  | _, _, i + 1, _, .cons _ t, e => da_get' (i := i) t e
theorem da_app {K : PySem.W.Frag} {H : Hp} : ∀ {vs us : List V} {ds es : List PyData}, DtAll K H vs ds → DtAll K H us es → DtAll K H (vs ++ us) (ds ++ es)
  | _, _, _, _, .nil, b => b
  | _, _, _, _, .cons h t, b => .cons h (da_app t b)
theorem da_set {K : PySem.W.Frag} {H : Hp} : ∀ {vs : List V} {ds : List PyData} (i : Nat) {v : V} {d : PyData}, DtAll K H vs ds → Dt K H v d → DtAll K H (vs.set i v) (ds.set i d)
  | _, _, _, _, _, .nil, _ => .nil
  | _, _, 0, _, _, .cons _ t, h => .cons h t
  | _, _, i + 1, _, _, .cons h t, k => .cons h (da_set i t k)
theorem da_drop {K : PySem.W.Frag} {H : Hp} : ∀ {vs : List V} {ds : List PyData} (n : Nat), DtAll K H vs ds → DtAll K H (vs.drop n) (ds.drop n)
  | _, _, 0, h => h
  | _, _, n + 1, .nil => .nil
  | _, _, n + 1, .cons _ t => da_drop n t
theorem da_take {K : PySem.W.Frag} {H : Hp} : ∀ {vs : List V} {ds : List PyData} (n : Nat), DtAll K H vs ds → DtAll K H (vs.take n) (ds.take n)
  | _, _, 0, _ => .nil
  | _, _, n + 1, .nil => .nil
  | _, _, n + 1, .cons h t => .cons h (da_take n t)
/-- data that can't change doesn't lean on the lists -/
theorem dp_nl {K : PySem.W.Frag} {H H' : Hp} (k : ∀ a xs, PT H a xs → PT H' a xs) {d : PyData} (n : NL d) : ∀ {v : V}, Dt K H v d → Dt K H' v d := by
  induction n with
  | non => intro v h; cases h; exact .non
  | bl b => intro v h; cases h; exact .bl b
  | int i => intro v h; cases h; exact .int i
  | str x => intro v h; cases h; exact .str x
  | @tup ds _ ih =>
    intro v h
    cases h with
    | @tup a xs _ s al =>
      have all : ∀ (ds : List PyData) (xs : List V), (∀ d ∈ ds, ∀ {v : V}, Dt K H v d → Dt K H' v d) → DtAll K H xs ds → DtAll K H' xs ds := by
        intro ds
        induction ds with
        | nil => intro xs _ h; cases h; exact .nil
        | cons d ds ih2 =>
          intro xs f h
          cases h with
          | cons h t => exact .cons (f d (by simp) h) (ih2 _ (fun d hd => f d (by simp [hd])) t)
      exact .tup (k a _ s) (all ds xs ih al)
theorem da_nl {K : PySem.W.Frag} {H H' : Hp} (k : ∀ a xs, PT H a xs → PT H' a xs) : ∀ {vs : List V} {ds : List PyData}, (∀ d ∈ ds, NL d) → DtAll K H vs ds → DtAll K H' vs ds
  | _, _, _, .nil => .nil
  | _, _, n, .cons h t => .cons (dp_nl k (n _ (by simp)) h) (da_nl k (fun d hd => n d (by simp [hd])) t)
theorem dp_int {K : PySem.W.Frag} {H : Hp} {v : V} {i : Int} (h : Dt K H v (.int i)) : v = .int i := by cases h; rfl
theorem dp_bool {K : PySem.W.Frag} {H : Hp} {v : V} {b : Bool} (h : Dt K H v (.bool b)) : v = .bl b := by cases h; rfl
theorem dp_none {K : PySem.W.Frag} {H : Hp} {v : V} (h : Dt K H v .none) : v = .non := by cases h; rfl
theorem da_ints {K : PySem.W.Frag} {H : Hp} : ∀ {vs : List V} {ns : List Int}, DtAll K H vs (ns.map PyData.int) → vs = ns.map V.int
  | _, [], .nil => rfl
  | _, n :: ns, .cons h t => by rw [dp_int h, da_ints t] <;> rfl
theorem ints_da {K : PySem.W.Frag} {H : Hp} : ∀ ns : List Int, DtAll K H (ns.map V.int) (ns.map PyData.int)
  | [] => .nil
  | n :: ns => .cons (.int n) (ints_da ns)

/-! ### the heap without the lists that change -/
def mask (M : List Addr) (H : Hp) : Hp := fun a => if a ∈ M then none else H a
theorem mask_in {M : List Addr} {H : Hp} {a : Addr} (h : a ∈ M) : mask M H a = none := if_pos h
theorem mask_out {M : List Addr} {H : Hp} {a : Addr} (h : a ∉ M) : mask M H a = H a := if_neg h
theorem mask_nil (H : Hp) : mask [] H = H := by
  funext a
  exact mask_out (by simp)
theorem mask_le {M : List Addr} {H : Hp} : Ex (mask M H) H := fun a o h => by
  by_cases m : a ∈ M
  · rw [mask_in m] at h; cases h
  · rw [mask_out m] at h; exact h
theorem mask_mono {M M' : List Addr} {H H' : Hp} (e : Ex H H') (s : ∀ a o, H a = some o → a ∈ M' → a ∈ M) : Ex (mask M H) (mask M' H') := fun a o h => by
  by_cases m : a ∈ M
  · rw [mask_in m] at h; cases h
  · rw [mask_out m] at h
    rw [mask_out fun q => m (s a o h q)]
    exact e a o h
theorem mask_upd {M : List Addr} {H : Hp} {p : Addr} {o : HO} (h : p ∈ M) : mask M (upd H p o) = mask M H := by
  funext a
  by_cases m : a ∈ M
  · rw [mask_in m, mask_in m]
  · rw [mask_out m, mask_out m, upd_ne (by rintro rfl; exact m h)]
/-- tuples stay visible -/
theorem mask_rd {M : List Addr} {H : Hp} (ml : ∀ p ∈ M, ∃ xs, H p = some (.lst xs)) : ∀ a xs, PT H a xs → PT (mask M H) a xs := fun a xs r => by
  obtain ⟨o, d, r⟩ := r
  have out : a ∉ M := fun m => by
    obtain ⟨ys, hy⟩ := ml a m
    rw [hy] at r
    cases r
  exact ⟨o, d, by rw [mask_out out]; exact r⟩

/-! ### the slots -/
inductive G where
  | no | d (x : PyData) | m (p : Addr) (ds : List PyData) | v (u : V) | r (p : Addr) (vs : List V)
/-- the list that a slot owns -/
def own : G → Option Addr
  | .m p _ => some p
  | .r p _ => some p
  | _ => none
def ms (Γ : List G) : List Addr := Γ.filterMap own
theorem mem_ms {Γ : List G} {p : Addr} : p ∈ ms Γ ↔ ∃ (i : Nat) (g : G), Γ[i]? = some g ∧ own g = some p := by
  unfold ms
  rw [List.mem_filterMap]
  constructor
  · rintro ⟨g, hg, e⟩
    obtain ⟨i, hi⟩ := List.mem_iff_getElem?.mp hg
    exact ⟨i, g, hi, e⟩
  · rintro ⟨i, g, h, e⟩
    exact ⟨g, List.mem_of_getElem? h, e⟩
/-- what the slot i holds, as data -/
def view (Γ : List G) (i : Nat) : Option PyData := match Γ[i]? with
  | some (.d x) => some x
  | some (.m _ ds) => some (.list ds)
  | _ => none
def Va (K : PySem.W.Frag) (H : Hp) (σ : L2.St) (Γ : List G) : Prop := σ.length = Γ.length ∧ ∀ i x, view Γ i = some x → ∃ v, σ[i]? = some (some v) ∧ Dt K H v x
structure En (K : PySem.W.Frag) (H0 H : Hp) (σ : L2.St) (Γ : List G) (X : List (V × PyData)) : Prop where
  len : σ.length = Γ.length
  ex : Ex H0 (mask (ms Γ) H)
  dat : ∀ (i : Nat) (x : PyData), Γ[i]? = some (G.d x) → ∃ v, σ[i]? = some (some v) ∧ Dt K (mask (ms Γ) H) v x
  lst : ∀ (i : Nat) (p : Addr) (ds : List PyData), Γ[i]? = some (G.m p ds) → σ[i]? = some (some (V.ref p)) ∧ ∃ vs, H p = some (.lst vs) ∧ DtAll K (mask (ms Γ) H) vs ds
  raw : ∀ (i : Nat) (p : Addr) (vs : List V), Γ[i]? = some (G.r p vs) → σ[i]? = some (some (V.ref p)) ∧ H p = some (.lst vs)
  val : ∀ (i : Nat) (u : V), Γ[i]? = some (G.v u) → σ[i]? = some (some u)
  one : ∀ (i j : Nat) (g h : G) (p : Addr), Γ[i]? = some g → Γ[j]? = some h → own g = some p → own h = some p → i = j
  gho : ∀ q ∈ X, Dt K (mask (ms Γ) H) q.1 q.2
section
variable {K : PySem.W.Frag} {H0 H H1 : Hp} {σ : L2.St} {Γ : List G} {X : List (V × PyData)}
theorem En.ml (E : En K H0 H σ Γ X) : ∀ p ∈ ms Γ, ∃ xs, H p = some (.lst xs) := fun p hp => by
  obtain ⟨i, g, h, e⟩ := mem_ms.mp hp
  cases g with
  | m q ds =>
    cases e
    obtain ⟨_, vs, e, _⟩ := E.lst i p ds h
    exact ⟨vs, e⟩
  | r q vs =>
    cases e
    exact ⟨vs, (E.raw i p vs h).2⟩
  | _ => cases e
theorem En.va (E : En K H0 H σ Γ X) : Va K H σ Γ := ⟨E.len, fun i x h => by
  unfold view at h
  split at h
  · rename_i y e
    cases h
    obtain ⟨v, e1, e2⟩ := E.dat i _ e
    exact ⟨v, e1, dp_ex mask_le e2⟩
  · rename_i p ds e
    cases h
    obtain ⟨e1, vs, e2, e3⟩ := E.lst i p ds e
    exact ⟨_, e1, .lst (Evl.sq_of e2) (da_ex mask_le e3)⟩
  · cases h⟩
/-- facts carried to a later heap -/
theorem En.mono (E : En K H0 H σ Γ X) (e : Ex H H1) : En K H0 H1 σ Γ X := by
  have m : Ex (mask (ms Γ) H) (mask (ms Γ) H1) := mask_mono e fun _ _ _ h => h
  refine ⟨E.len, E.ex.trans m, fun i x h => ?_, fun i p ds h => ?_, fun i p vs h => ?_, E.val, E.one, fun q hq => dp_ex m (E.gho q hq)⟩
  · obtain ⟨v, e1, e2⟩ := E.dat i x h
    exact ⟨v, e1, dp_ex m e2⟩
  · obtain ⟨e1, vs, e2, e3⟩ := E.lst i p ds h
    exact ⟨e1, vs, e _ _ e2, da_ex m e3⟩
  · obtain ⟨e1, e2⟩ := E.raw i p vs h
    exact ⟨e1, e _ _ e2⟩
/-- data that can't change, or a new list, stand in the masked heap -/
theorem En.nl (E : En K H0 H σ Γ X) {v : V} {d : PyData} (n : NL d) (h : Dt K H v d) : Dt K (mask (ms Γ) H) v d := dp_nl (mask_rd E.ml) n h
theorem En.nls (E : En K H0 H σ Γ X) {vs : List V} {ds : List PyData} (n : ∀ d ∈ ds, NL d) (h : DtAll K H vs ds) : DtAll K (mask (ms Γ) H) vs ds := da_nl (mask_rd E.ml) n h
theorem En.ghost (E : En K H0 H σ Γ X) {v : V} {d : PyData} (h : Dt K (mask (ms Γ) H) v d) : En K H0 H σ Γ ((v, d) :: X) :=
  ⟨E.len, E.ex, E.dat, E.lst, E.raw, E.val, E.one, fun q hq => by
    rcases List.mem_cons.mp hq with rfl | hq
    · exact h
    · exact E.gho q hq⟩
theorem En.unghost {q : V × PyData} (E : En K H0 H σ Γ (q :: X)) : En K H0 H σ Γ X := ⟨E.len, E.ex, E.dat, E.lst, E.raw, E.val, E.one, fun r hr => E.gho r (List.mem_cons_of_mem _ hr)⟩
theorem get_set {α : Type} {l : List α} {i j : Nat} {x y : α} (h : (l.set i x)[j]? = some y) : (j = i ∧ y = x) ∨ (j ≠ i ∧ l[j]? = some y) := by
  by_cases e : j = i
  · subst e
    by_cases lt : j < l.length
    · rw [List.getElem?_set_self lt] at h
      exact .inl ⟨rfl, (Option.some.inj h).symm⟩
    · rw [List.getElem?_eq_none (by rw [List.length_set]; omega)] at h
      cases h
  · rw [List.getElem?_set_ne (Ne.symm e)] at h
    exact .inr ⟨e, h⟩
/-- a slot gets another word; lists named before may be forgotten -/
theorem En.put (E : En K H0 H σ Γ X) {i : Nat} {v : V} {g : G} (hg : match g with
    | .no => True
    | .d x => Dt K (mask (ms Γ) H) v x
    | .v u => u = v
    | .m _ _ => False
    | .r _ _ => False) : En K H0 H (σ.set i (some v)) (Γ.set i g) X := by
  have og : own g = none := by
    cases g with
    | m _ _ => exact hg.elim
    | r _ _ => exact hg.elim
    | _ => rfl
  have sub : ∀ a, a ∈ ms (Γ.set i g) → a ∈ ms Γ := fun a ha => by
    obtain ⟨j, h', h, e⟩ := mem_ms.mp ha
    rcases get_set h with ⟨_, e'⟩ | ⟨_, e'⟩
    · rw [e', og] at e
      cases e
    · exact mem_ms.mpr ⟨j, h', e', e⟩
  have m : Ex (mask (ms Γ) H) (mask (ms (Γ.set i g)) H) := mask_mono (fun _ _ h => h) fun a _ _ h => sub a h
  have at_i : ∀ {j : Nat} {y : G}, (Γ.set i g)[j]? = some y → j = i → (σ.set i (some v))[j]? = some (some v) := fun {j y} h e => by
    subst e
    have lt : j < σ.length := by
      rw [E.len]
      have := (List.getElem?_eq_some_iff.mp h).1
      rwa [List.length_set] at this
    exact List.getElem?_set_self lt
  have off : ∀ {j : Nat}, j ≠ i → (σ.set i (some v))[j]? = σ[j]? := fun {j} e => List.getElem?_set_ne (Ne.symm e)
  refine ⟨by rw [List.length_set, List.length_set]; exact E.len, E.ex.trans m, fun j x h => ?_, fun j p ds h => ?_, fun j p vs h => ?_, fun j u h => ?_, fun j k g1 g2 p h1 h2 o1 o2 => ?_, fun q hq => dp_ex m (E.gho q hq)⟩
  · rcases get_set h with ⟨e, eg⟩ | ⟨e, eg⟩
    · subst eg
      exact ⟨v, at_i h e, dp_ex m hg⟩
    · obtain ⟨u, e1, e2⟩ := E.dat j x eg
      exact ⟨u, (off e).trans e1, dp_ex m e2⟩
  · rcases get_set h with ⟨e, eg⟩ | ⟨e, eg⟩
    · subst eg
      exact hg.elim
    · obtain ⟨e1, vs, e2, e3⟩ := E.lst j p ds eg
      exact ⟨(off e).trans e1, vs, e2, da_ex m e3⟩
  · rcases get_set h with ⟨e, eg⟩ | ⟨e, eg⟩
    · subst eg
      exact hg.elim
    · obtain ⟨e1, e2⟩ := E.raw j p vs eg
      exact ⟨(off e).trans e1, e2⟩
  · rcases get_set h with ⟨e, eg⟩ | ⟨e, eg⟩
    · subst eg
      have hg : u = v := hg
      rw [hg]
      exact at_i h e
    · exact (off e).trans (E.val j u eg)
  · rcases get_set h1 with ⟨e, eg⟩ | ⟨e, eg⟩
    · rw [eg, og] at o1
      cases o1
    · rcases get_set h2 with ⟨e', eg'⟩ | ⟨e', eg'⟩
      · rw [eg', og] at o2
        cases o2
      · exact E.one j k g1 g2 p eg eg' o1 o2
/-- .. a new list that is to change: told by data, or raw -/
theorem En.putG (E : En K H0 H σ Γ X) {i : Nat} {p : Addr} {vs : List V} {g : G} (og : own g = some p) (e : Ex H H1) (np : H p = none) (hp : H1 p = some (.lst vs)) (hd : match g with
    | .m _ ds => DtAll K H1 vs ds ∧ ∀ d ∈ ds, NL d
    | .r _ us => us = vs
    | _ => False) : En K H0 H1 (σ.set i (some (.ref p))) (Γ.set i g) X := by
  have pn : p ∉ ms Γ := fun h => by
    obtain ⟨xs, hx⟩ := E.ml p h
    rw [np] at hx
    cases hx
  have E1 := E.mono e
  have sub : ∀ a, a ∈ ms (Γ.set i g) → a = p ∨ a ∈ ms Γ := fun a ha => by
    obtain ⟨j, h', h, e⟩ := mem_ms.mp ha
    rcases get_set h with ⟨_, e'⟩ | ⟨_, e'⟩
    · rw [e', og] at e
      cases e
      exact .inl rfl
    · exact .inr (mem_ms.mpr ⟨j, h', e', e⟩)
  have m : Ex (mask (ms Γ) H) (mask (ms (Γ.set i g)) H1) := mask_mono e fun a o h q => by
    rcases sub a q with z | z
    · rw [z, np] at h
      cases h
    · exact z
  have ml1 : ∀ q ∈ ms (Γ.set i g), ∃ xs, H1 q = some (.lst xs) := fun q hq => by
    rcases sub q hq with z | z
    · exact ⟨vs, z ▸ hp⟩
    · exact E1.ml q z
  have at_i : ∀ {j : Nat} {y : G}, (Γ.set i g)[j]? = some y → j = i → (σ.set i (some (.ref p)))[j]? = some (some (V.ref p)) := fun {j y} h e => by
    subst e
    have lt : j < σ.length := by
      rw [E.len]
      have := (List.getElem?_eq_some_iff.mp h).1
      rwa [List.length_set] at this
    exact List.getElem?_set_self lt
  have off : ∀ {j : Nat}, j ≠ i → (σ.set i (some (V.ref p)))[j]? = σ[j]? := fun {j} e => List.getElem?_set_ne (Ne.symm e)
  refine ⟨by rw [List.length_set, List.length_set]; exact E.len, E.ex.trans m, fun j x h => ?_, fun j q es h => ?_, fun j q us h => ?_, fun j u h => ?_, fun j k g1 g2 q h1 h2 o1 o2 => ?_, fun q hq => dp_ex m (E.gho q hq)⟩
  · rcases get_set h with ⟨_, eg⟩ | ⟨ne, eg⟩
    · rw [← eg] at og
      cases og
    · obtain ⟨u, e1, e2⟩ := E.dat j x eg
      exact ⟨u, (off ne).trans e1, dp_ex m e2⟩
  · rcases get_set h with ⟨ej, eg⟩ | ⟨ne, eg⟩
    · subst eg
      cases og
      exact ⟨at_i h ej, vs, hp, da_nl (mask_rd ml1) hd.2 hd.1⟩
    · obtain ⟨e1, us, e2, e3⟩ := E.lst j q es eg
      exact ⟨(off ne).trans e1, us, e _ _ e2, da_ex m e3⟩
  · rcases get_set h with ⟨ej, eg⟩ | ⟨ne, eg⟩
    · subst eg
      cases og
      have hd : us = vs := hd
      exact ⟨at_i h ej, hd ▸ hp⟩
    · obtain ⟨e1, e2⟩ := E.raw j q us eg
      exact ⟨(off ne).trans e1, e _ _ e2⟩
  · rcases get_set h with ⟨_, eg⟩ | ⟨ne, eg⟩
    · rw [← eg] at og
      cases og
    · exact (off ne).trans (E.val j u eg)
  · rcases get_set h1 with ⟨ej, eg⟩ | ⟨ne, eg⟩
    · rcases get_set h2 with ⟨ek, _⟩ | ⟨_, eg'⟩
      · rw [ej, ek]
      · rw [eg, og] at o1
        cases o1
        exact absurd (mem_ms.mpr ⟨k, g2, eg', o2⟩) pn
    · rcases get_set h2 with ⟨_, eg'⟩ | ⟨_, eg'⟩
      · rw [eg', og] at o2
        cases o2
        exact absurd (mem_ms.mpr ⟨j, g1, eg, o1⟩) pn
      · exact E.one j k g1 g2 q eg eg' o1 o2
theorem En.putM (E : En K H0 H σ Γ X) {i : Nat} {p : Addr} {vs : List V} {ds : List PyData} (e : Ex H H1) (np : H p = none) (hp : H1 p = some (.lst vs)) (hd : DtAll K H1 vs ds) (n : ∀ d ∈ ds, NL d) : En K H0 H1 (σ.set i (some (.ref p))) (Γ.set i (.m p ds)) X := E.putG (g := .m p ds) rfl e np hp ⟨hd, n⟩
theorem En.putR (E : En K H0 H σ Γ X) {i : Nat} {p : Addr} {vs : List V} (e : Ex H H1) (np : H p = none) (hp : H1 p = some (.lst vs)) : En K H0 H1 (σ.set i (some (.ref p))) (Γ.set i (.r p vs)) X := E.putG (g := .r p vs) rfl e np hp rfl
/-- the list that slot i owns changes -/
theorem En.updG (E : En K H0 H σ Γ X) {i : Nat} {p : Addr} {g g' : G} {us : List V} {H1 : Hp} (hi : Γ[i]? = some g) (og : own g = some p) (og' : own g' = some p) (e : Ex (mask [p] H) (mask [p] H1)) (hp : H1 p = some (.lst us)) (hd : match g' with
    | .m _ es => DtAll K (mask (ms Γ) H) us es
    | .r _ vs => vs = us
    | _ => False) : En K H0 H1 σ (Γ.set i g') X := by
  have pm : p ∈ ms Γ := mem_ms.mpr ⟨i, g, hi, og⟩
  have lt : i < Γ.length := (List.getElem?_eq_some_iff.mp hi).1
  have out : ∀ {a o}, a ≠ p → H a = some o → H1 a = some o := fun {a o} ne h => by
    have := e a o (by rw [mask_out (by simpa using ne)]; exact h)
    rwa [mask_out (by simpa using ne)] at this
  have sub : ∀ a, a ∈ ms (Γ.set i g') → a ∈ ms Γ := fun a ha => by
    obtain ⟨j, h', h, e⟩ := mem_ms.mp ha
    rcases get_set h with ⟨_, e'⟩ | ⟨_, e'⟩
    · rw [e', og'] at e
      cases e
      exact pm
    · exact mem_ms.mpr ⟨j, h', e', e⟩
  have m : Ex (mask (ms Γ) H) (mask (ms (Γ.set i g')) H1) := fun a o h => by
    by_cases q : a ∈ ms Γ
    · rw [mask_in q] at h; cases h
    · rw [mask_out q] at h
      rw [mask_out fun z => q (sub a z)]
      exact out (by rintro rfl; exact q pm) h
  have slot : ∀ {j : Nat} {v : V}, Γ[j]? = some g → σ[i]? = some (some v) → j = i → σ[j]? = some (some v) := fun _ h e => e ▸ h
  have ref : σ[i]? = some (some (V.ref p)) := by
    cases g with
    | m q ds => cases og; exact (E.lst i p ds hi).1
    | r q vs => cases og; exact (E.raw i p vs hi).1
    | _ => cases og
  refine ⟨by rw [List.length_set]; exact E.len, E.ex.trans m, fun j x h => ?_, fun j q fs h => ?_, fun j q ws h => ?_, fun j u h => ?_, fun j k g1 g2 q h1 h2 o1 o2 => ?_, fun q hq => dp_ex m (E.gho q hq)⟩
  · rcases get_set h with ⟨_, eg⟩ | ⟨_, eg⟩
    · rw [← eg] at og'
      cases og'
    · obtain ⟨v, e1, e2⟩ := E.dat j x eg
      exact ⟨v, e1, dp_ex m e2⟩
  · rcases get_set h with ⟨ej, eg⟩ | ⟨ne, eg⟩
    · subst eg
      cases og'
      subst ej
      exact ⟨ref, us, hp, da_ex m hd⟩
    · obtain ⟨e1, ws, e2, e3⟩ := E.lst j q fs eg
      have nq : q ≠ p := fun z => ne (E.one j i _ _ q eg hi rfl (z ▸ og))
      exact ⟨e1, ws, out nq e2, da_ex m e3⟩
  · rcases get_set h with ⟨ej, eg⟩ | ⟨ne, eg⟩
    · subst eg
      cases og'
      subst ej
      have hd : ws = us := hd
      exact ⟨ref, hd ▸ hp⟩
    · obtain ⟨e1, e2⟩ := E.raw j q ws eg
      have nq : q ≠ p := fun z => ne (E.one j i _ _ q eg hi rfl (z ▸ og))
      exact ⟨e1, out nq e2⟩
  · rcases get_set h with ⟨_, eg⟩ | ⟨_, eg⟩
    · rw [← eg] at og'
      cases og'
    · exact E.val j u eg
  · rcases get_set h1 with ⟨ej, eg⟩ | ⟨_, eg⟩ <;> rcases get_set h2 with ⟨ek, eg'⟩ | ⟨_, eg'⟩
    · rw [ej, ek]
    · rw [eg, og'] at o1
      cases o1
      rw [ej]
      exact E.one i k g g2 _ hi eg' og o2
    · rw [eg', og'] at o2
      cases o2
      rw [ek]
      exact E.one j i g1 g _ eg hi o1 og
    · exact E.one j k g1 g2 q eg eg' o1 o2
theorem ex_upd {p : Addr} {o : HO} : Ex (mask [p] H) (mask [p] (upd H p o)) := fun a x h => by rw [mask_upd (by simp)]; exact h
/-- the list in slot i changes -/
theorem En.upd (E : En K H0 H σ Γ X) {i : Nat} {p : Addr} {ds es : List PyData} {us : List V} (hi : Γ[i]? = some (.m p ds)) (hd : DtAll K (mask (ms Γ) H) us es) : En K H0 (upd H p (.lst us)) σ (Γ.set i (.m p es)) X := E.updG (g' := .m p es) hi rfl rfl ex_upd upd_same hd
theorem En.updR (E : En K H0 H σ Γ X) {i : Nat} {p : Addr} {vs us : List V} (hi : Γ[i]? = some (.r p vs)) (e : Ex (mask [p] H) (mask [p] H1)) (hp : H1 p = some (.lst us)) : En K H0 H1 σ (Γ.set i (.r p us)) X := E.updG (g' := .r p us) hi rfl rfl e hp rfl
/-- the start of a def's body -/
theorem env_start {N : List Str} {vs : List V} {ds : List PyData} (h : DtAll K H vs ds) (lt : vs.length ≤ N.length) : En K H H (L2.start N vs) (ds.map G.d ++ List.replicate (N.length - ds.length) G.no) [] := by
  have hl := da_len h
  have none_m : ∀ (i : Nat) (g : G), (ds.map G.d ++ List.replicate (N.length - ds.length) G.no)[i]? = some g → own g = none := fun i g q => by
    have := List.mem_of_getElem? q
    rcases List.mem_append.mp this with h | h
    · obtain ⟨x, _, rfl⟩ := List.mem_map.mp h
      rfl
    · rw [List.eq_of_mem_replicate h] <;> rfl
  have nom : ms (ds.map G.d ++ List.replicate (N.length - ds.length) G.no) = [] := by
    rw [List.eq_nil_iff_forall_not_mem]
    intro a ha
    obtain ⟨i, g, q, e⟩ := mem_ms.mp ha
    rw [none_m i g q] at e
    cases e
  have mk : mask (ms (ds.map G.d ++ List.replicate (N.length - ds.length) G.no)) H = H := by rw [nom, mask_nil]
  refine ⟨by simp [L2.start]; omega, by rw [mk]; exact Ex.refl H, fun i x q => ?_, fun i p es q => absurd (none_m i _ q) (by simp [own]), fun i p es q => absurd (none_m i _ q) (by simp [own]), fun i u q => ?_, fun i j g h p q _ o _ => absurd (none_m i g q) (by rw [o]; simp), fun q hq => nomatch hq⟩
  · rw [mk]
    have lti : i < (ds.map G.d).length := by
      refine Nat.lt_of_not_le fun z => ?_
      rw [List.getElem?_append_right z] at q
      have := List.mem_of_getElem? q
      simp at this
    rw [List.getElem?_append_left lti, List.getElem?_map] at q
    cases e : ds[i]? with
    | none => rw [e] at q; cases q
    | some y =>
      rw [e] at q
      have q : y = x := G.d.inj (Option.some.inj q)
      subst q
      obtain ⟨v, e1, e2⟩ := da_get h e
      refine ⟨v, ?_, e2⟩
      unfold L2.start
      rw [List.getElem?_append_left (by simp at lti ⊢; omega), List.getElem?_map, e1] <;> rfl
  · have := List.mem_of_getElem? q
    simp at this
end
end Cd

set_option Elab.async false
set_option linter.all false
set_option maxRecDepth 100000
set_option maxHeartbeats 4000000
/-! E2: what expressions evaluate to, as data. -/
namespace Cd
open PySem PySem.Spec PyProof.Rows L2
open Evl (Ex EvT)
abbrev iD (n : Nat) : PyData := .int (n : Int)
def tD (l : List Nat) : PyData := .tuple (l.map iD)
def lD (l : List Nat) : PyData := .list (l.map iD)
def optD : Option Nat → PyData
  | none => .none
  | some j => iD j
def nestD (ns : List (Option Nat)) : PyData := .tuple (ns.map optD)
def numsD (nums : List (List Nat)) : PyData := .tuple (nums.map tD)
def toldD (told : List (List Nat)) : PyData := .tuple (told.map tD)
theorem nl_i (n : Nat) : NL (iD n) := .int _
theorem nl_is (l : List Nat) : ∀ d ∈ l.map iD, NL d := fun d hd => by
  obtain ⟨n, _, rfl⟩ := List.mem_map.mp hd
  exact nl_i n
theorem nl_t (l : List Nat) : NL (tD l) := .tup (nl_is l)
theorem nl_ts (l : List (List Nat)) : ∀ d ∈ l.map tD, NL d := fun d hd => by
  obtain ⟨n, _, rfl⟩ := List.mem_map.mp hd
  exact nl_t n
theorem nl_told (l : List (List Nat)) : NL (toldD l) := .tup (nl_ts l)
theorem nl_nums (l : List (List Nat)) : NL (numsD l) := .tup (nl_ts l)
theorem nl_opt : ∀ o : Option Nat, NL (optD o)
  | none => .non
  | some j => nl_i j
theorem nl_nest (ns : List (Option Nat)) : NL (nestD ns) := .tup fun d hd => by
  obtain ⟨n, _, rfl⟩ := List.mem_map.mp hd
  exact nl_opt n

/-- te gives the data d; a new list of the data ds; arguments -/
def EvD (K : PySem.W.Frag) (te : TE) (σ : L2.St) (H : Hp) (d : PyData) : Prop := ∀ H1, Ex H H1 → ∀ Q : VK, (∀ v H2, Ex H1 H2 → Dt K H2 v d → Q v H2) → te σ H1 Q
def EvN (K : PySem.W.Frag) (te : TE) (σ : L2.St) (H : Hp) (ds : List PyData) : Prop := ∀ H1, Ex H H1 → ∀ Q : VK, (∀ p vs H2, H1 p = none → Ex H1 H2 → H2 p = some (.lst vs) → DtAll K H2 vs ds → Q (.ref p) H2) → te σ H1 Q
def EvA (K : PySem.W.Frag) (ta : TA) (σ : L2.St) (H : Hp) (ds : List PyData) : Prop := ∀ H1, Ex H H1 → ∀ Q : List V → Hp → Prop, (∀ vs H2, Ex H1 H2 → DtAll K H2 vs ds → Q vs H2) → ta σ H1 Q
/-- what follows a def's answer: data, a new list -/
def RetD (K : PySem.W.Frag) (d : PyData) (H : Hp) (Q : VK) : Prop := ∀ v H', Ex H H' → Dt K H' v d → Q v H'
def RetN (K : PySem.W.Frag) (ds : List PyData) (H : Hp) (Q : VK) : Prop := ∀ p vs H', H p = none → Ex H H' → H' p = some (.lst vs) → DtAll K H' vs ds → Q (.ref p) H'
section
variable {K : PySem.W.Frag} {σ : L2.St} {H H' : Hp} {ta tb te : TE} {t u : TT} {x y z d : PyData} {ds es : List PyData} {Γ : List G}
theorem EvD.mono (e : Ex H H') (h : EvD K te σ H d) : EvD K te σ H' d := fun H1 a Q q => h H1 (e.trans a) Q q
theorem EvN.mono (e : Ex H H') (h : EvN K te σ H ds) : EvN K te σ H' ds := fun H1 a Q q => h H1 (e.trans a) Q q
theorem EvN.toD (h : EvN K te σ H ds) : EvD K te σ H (.list ds) := fun H1 e Q q => h H1 e Q fun p vs H2 _ e2 hp hd => q _ H2 e2 (.lst (Evl.sq_of hp) hd)
theorem EvD.is (h : EvD K te σ H d) (e : d = x) : EvD K te σ H x := e ▸ h
theorem EvN.is (h : EvN K te σ H ds) (e : ds = es) : EvN K te σ H es := e ▸ h
theorem EvD.int {i j : Int} (h : EvD K te σ H (.int i)) (e : i = j) : EvD K te σ H (.int j) := e ▸ h
theorem Va.mono (e : Ex H H') (h : Va K H σ Γ) : Va K H' σ Γ := ⟨h.1, fun i x hx => by
  obtain ⟨v, e1, e2⟩ := h.2 i x hx
  exact ⟨v, e1, dp_ex e e2⟩⟩
theorem Va.set {v : V} (h : Va K H σ Γ) (j : Nat) (hd : Dt K H v d) : Va K H (σ.set j (some v)) (Γ.set j (.d d)) := ⟨by rw [List.length_set, List.length_set]; exact h.1, fun i x hx => by
  unfold view at hx
  by_cases e : i = j
  · subst e
    by_cases lt : i < Γ.length
    · rw [List.getElem?_set_self lt] at hx
      cases hx
      exact ⟨v, List.getElem?_set_self (h.1 ▸ lt), hd⟩
    · rw [List.getElem?_eq_none (by rw [List.length_set]; omega)] at hx
      cases hx
  · rw [List.getElem?_set_ne (Ne.symm e)] at hx
    obtain ⟨u, e1, e2⟩ := h.2 i x hx
    exact ⟨u, (List.getElem?_set_ne (Ne.symm e)).trans e1, e2⟩⟩
theorem Va.skip {v : V} (h : Va K H σ Γ) (j : Nat) : Va K H (σ.set j (some v)) (Γ.set j .no) := ⟨by rw [List.length_set, List.length_set]; exact h.1, fun i x hx => by
  unfold view at hx
  by_cases e : i = j
  · subst e
    by_cases lt : i < Γ.length
    · rw [List.getElem?_set_self lt] at hx
      cases hx
    · rw [List.getElem?_eq_none (by rw [List.length_set]; omega)] at hx
      cases hx
  · rw [List.getElem?_set_ne (Ne.symm e)] at hx
    obtain ⟨u, e1, e2⟩ := h.2 i x hx
    exact ⟨u, (List.getElem?_set_ne (Ne.symm e)).trans e1, e2⟩⟩
theorem ev_var (h : Va K H σ Γ) {i : Nat} (e : view Γ i = some d) : EvD K (tVar i) σ H d := fun H1 e1 Q q => by
  obtain ⟨v, e2, e3⟩ := h.2 i d e
  exact ⟨v, e2, q v H1 (Ex.refl H1) (dp_ex e1 e3)⟩
theorem ev_c {v : V} (h : ∀ H, Dt K H v d) : EvD K (tC v) σ H d := fun H1 _ Q q => q v H1 (Ex.refl H1) (h H1)
theorem ev_i {i : Int} : EvD K (tC (.int i)) σ H (.int i) := ev_c fun _ => .int i
theorem ev_none : EvD K (tC .non) σ H .none := ev_c fun _ => .non
theorem ev_b {b : Bool} : EvD K (tC (.bl b)) σ H (.bool b) := ev_c fun _ => .bl b
/-- a two-place operation by its data -/
theorem ev_op {r : R2} (ha : EvD K ta σ H x) (hb : EvD K tb σ H y) (hr : ∀ (u v : V) H1, Ex H H1 → Dt K H1 u x → Dt K H1 v y → ∀ Q : VK, (∀ w H2, Ex H1 H2 → Dt K H2 w z → Q w H2) → r u v H1 Q) : EvD K (tOp r ta tb) σ H z := fun H1 e Q q =>
  ha H1 e _ fun u H2 e2 h2 => hb H2 (e.trans e2) _ fun v H3 e3 h3 => hr u v H3 ((e.trans e2).trans e3) (dp_ex e3 h2) h3 Q fun w H4 e4 h4 => q w H4 ((e2.trans e3).trans e4) h4
theorem ev_opN {r : R2} (ha : EvD K ta σ H x) (hb : EvD K tb σ H y) (hr : ∀ (u v : V) H1, Ex H H1 → Dt K H1 u x → Dt K H1 v y → ∀ Q : VK, (∀ p vs H2, H1 p = none → Ex H1 H2 → H2 p = some (.lst vs) → DtAll K H2 vs ds → Q (.ref p) H2) → r u v H1 Q) : EvN K (tOp r ta tb) σ H ds := fun H1 e Q q =>
  ha H1 e _ fun u H2 e2 h2 => hb H2 (e.trans e2) _ fun v H3 e3 h3 => hr u v H3 ((e.trans e2).trans e3) (dp_ex e3 h2) h3 Q fun p vs H4 np e4 h4 h5 => q p vs H4 (Evl.fresh_back (e2.trans e3) np) ((e2.trans e3).trans e4) h4 h5
theorem ev_iC {C : Int → Int → Prop} {g : Int → Int → V} {i j : Int} (ha : EvD K ta σ H (.int i)) (hb : EvD K tb σ H (.int j)) (hc : C i j) (hz : ∀ H, Dt K H (g i j) z) : EvD K (tOp (rI C g) ta tb) σ H z :=
  ev_op ha hb fun u v H1 _ hu hv Q q => ⟨i, j, dp_int hu, dp_int hv, hc, q _ H1 (Ex.refl H1) (hz H1)⟩
theorem ev_i0 {g : Int → Int → V} {i j : Int} (ha : EvD K ta σ H (.int i)) (hb : EvD K tb σ H (.int j)) (hz : ∀ H, Dt K H (g i j) z) : EvD K (tOp (rI0 g) ta tb) σ H z :=
  ev_op ha hb fun u v H1 _ hu hv Q q => ⟨i, j, dp_int hu, dp_int hv, q _ H1 (Ex.refl H1) (hz H1)⟩
theorem ev_add {i j : Int} (ha : EvD K ta σ H (.int i)) (hb : EvD K tb σ H (.int j)) : EvD K (tOp (rI0 fun i j => .int (i + j)) ta tb) σ H (.int (i + j)) := ev_i0 ha hb fun _ => .int _
theorem ev_sub {i j : Int} (ha : EvD K ta σ H (.int i)) (hb : EvD K tb σ H (.int j)) : EvD K (tOp (rI0 fun i j => .int (i - j)) ta tb) σ H (.int (i - j)) := ev_i0 ha hb fun _ => .int _
theorem ev_mul {i j : Int} (ha : EvD K ta σ H (.int i)) (hb : EvD K tb σ H (.int j)) (hc : CMul i j) : EvD K (tOp (rI CMul fun i j => .int (i * j)) ta tb) σ H (.int (i * j)) := ev_iC ha hb hc fun _ => .int _
theorem ev_mod {i j : Int} (ha : EvD K ta σ H (.int i)) (hb : EvD K tb σ H (.int j)) (hc : 0 < j) : EvD K (tOp (rI (fun _ j => 0 < j) fun i j => .int (i % j)) ta tb) σ H (.int (i % j)) := ev_iC ha hb hc fun _ => .int _
theorem ev_div {i j : Int} (ha : EvD K ta σ H (.int i)) (hb : EvD K tb σ H (.int j)) (hc : CDiv i j) : EvD K (tOp (rI CDiv fun i j => .int (i / j)) ta tb) σ H (.int (i / j)) := ev_iC ha hb hc fun _ => .int _
theorem ev_lt {i j : Int} (ha : EvD K ta σ H (.int i)) (hb : EvD K tb σ H (.int j)) : EvD K (tOp (rI0 fun i j => .bl (decide (i < j))) ta tb) σ H (.bool (decide (i < j))) := ev_i0 ha hb fun _ => .bl _
theorem ev_le {i j : Int} (ha : EvD K ta σ H (.int i)) (hb : EvD K tb σ H (.int j)) : EvD K (tOp (rI0 fun i j => .bl (decide (i ≤ j))) ta tb) σ H (.bool (decide (i ≤ j))) := ev_i0 ha hb fun _ => .bl _
theorem ev_gt {i j : Int} (ha : EvD K ta σ H (.int i)) (hb : EvD K tb σ H (.int j)) : EvD K (tOp (rI0 fun i j => .bl (decide (j < i))) ta tb) σ H (.bool (decide (j < i))) := ev_i0 ha hb fun _ => .bl _
theorem ev_ge {i j : Int} (ha : EvD K ta σ H (.int i)) (hb : EvD K tb σ H (.int j)) : EvD K (tOp (rI0 fun i j => .bl (decide (j ≤ i))) ta tb) σ H (.bool (decide (j ≤ i))) := ev_i0 ha hb fun _ => .bl _
theorem ev_eqI {i j : Int} (ha : EvD K ta σ H (.int i)) (hb : EvD K tb σ H (.int j)) : EvD K (tOp rEq ta tb) σ H (.bool (decide (i = j))) :=
  ev_op ha hb fun u v H1 _ hu hv Q q => by
    rw [dp_int hu, dp_int hv]
    refine ⟨rfl, ?_⟩
    rw [dec_int, Bool.beq_eq_decide_eq]
    exact q _ H1 (Ex.refl H1) (.bl _)
theorem ev_eqB {i j : Bool} (ha : EvD K ta σ H (.bool i)) (hb : EvD K tb σ H (.bool j)) : EvD K (tOp rEq ta tb) σ H (.bool (i == j)) :=
  ev_op ha hb fun u v H1 _ hu hv Q q => by
    rw [dp_bool hu, dp_bool hv]
    refine ⟨rfl, ?_⟩
    rw [dec_bl]
    exact q _ H1 (Ex.refl H1) (.bl _)
theorem ev_neB {i j : Bool} (ha : EvD K ta σ H (.bool i)) (hb : EvD K tb σ H (.bool j)) : EvD K (tOp rNe ta tb) σ H (.bool (i != j)) :=
  ev_op ha hb fun u v H1 _ hu hv Q q => by
    rw [dp_bool hu, dp_bool hv]
    refine ⟨rfl, ?_⟩
    rw [dec_bl]
    exact q _ H1 (Ex.refl H1) (.bl _)
/-- x is None, x is not None -/
def isN : PyData → Bool
  | .none => true
  | _ => false
theorem isN_dt {v : V} (h : Dt K H v d) : decide (v = .non) = isN d := by cases h <;> rfl
theorem ev_isN (ha : EvD K ta σ H x) : EvD K (tOp (fun x y H Q => y = .non ∧ Q (.bl (decide (x = .non))) H) ta (tC .non)) σ H (.bool (isN x)) :=
  ev_op ha ev_none fun u v H1 _ hu hv Q q => ⟨dp_none hv, by rw [isN_dt hu]; exact q _ H1 (Ex.refl H1) (.bl _)⟩
theorem ev_notN (ha : EvD K ta σ H x) : EvD K (tOp (fun x y H Q => y = .non ∧ Q (.bl (!decide (x = .non))) H) ta (tC .non)) σ H (.bool (!isN x)) :=
  ev_op ha ev_none fun u v H1 _ hu hv Q q => ⟨dp_none hv, by rw [isN_dt hu]; exact q _ H1 (Ex.refl H1) (.bl _)⟩
/-! ### items -/
theorem da_at {vs : List V} {i : Int} (h : DtAll K H vs ds) (e : atI ds i = some d) : ∃ v, atI vs i = some v ∧ Dt K H v d := by
  unfold atI at e ⊢
  rw [da_len h]
  cases q : ixN ds.length i with
  | none => rw [q] at e; cases e
  | some j =>
    rw [q] at e
    exact da_get h e
theorem dt_tup {v : V} (h : Dt K H v (.tuple ds)) : ∃ a vs, v = .ref a ∧ PT H a vs ∧ DtAll K H vs ds := by
  cases h with
  | tup s a => exact ⟨_, _, rfl, s, a⟩
theorem dt_lst {v : V} (h : Dt K H v (.list ds)) : ∃ a vs, v = .ref a ∧ SqL K H a vs ∧ DtAll K H vs ds := by
  cases h with
  | lst s a => exact ⟨_, _, rfl, s, a⟩
theorem ev_ixT {i : Int} (ha : EvD K ta σ H (.tuple ds)) (hb : EvD K tb σ H (.int i)) (e : atI ds i = some d) : EvD K (tOp (rIxT K) ta tb) σ H d :=
  ev_op ha hb fun u v H1 _ hu hv Q q => by
    obtain ⟨a, vs, rfl, s, al⟩ := dt_tup hu
    obtain ⟨w, e1, e2⟩ := da_at al e
    exact ⟨a, vs, i, w, rfl, dp_int hv, s.sq, e1, q w H1 (Ex.refl H1) e2⟩
theorem ev_ixL {i : Int} (ha : EvD K ta σ H (.list ds)) (hb : EvD K tb σ H (.int i)) (e : atI ds i = some d) : EvD K (tOp (rIxL K) ta tb) σ H d :=
  ev_op ha hb fun u v H1 _ hu hv Q q => by
    obtain ⟨a, vs, rfl, s, al⟩ := dt_lst hu
    obtain ⟨w, e1, e2⟩ := da_at al e
    exact ⟨a, vs, i, w, rfl, dp_int hv, s, e1, q w H1 (Ex.refl H1) e2⟩
/-! ### in -/
def flatD : PyData → Bool
  | .none => true
  | .bool _ => true
  | .int _ => true
  | .str _ => true
  | _ => false
theorem flat_dt {v : V} (h : Dt K H v d) (f : flatD d = true) : flatV v = true := by cases h <;> first | rfl | exact f
theorem flats_dt : ∀ {vs : List V} {ds : List PyData}, DtAll K H vs ds → ds.all flatD = true → vs.all flatV = true
  | _, _, .nil, _ => rfl
  | _, _, .cons h t, f => by
    rw [List.all_cons, Bool.and_eq_true] at f ⊢
    exact ⟨flat_dt h f.1, flats_dt t f.2⟩
theorem eqV_dt {v w : V} (h : Dt K H v x) (k : Dt K H w y) (f : flatD x = true) (g : flatD y = true) : eqV v w = PyData.eqv x y := by
  cases h <;> cases k <;> first | exact absurd f Bool.false_ne_true | exact absurd g Bool.false_ne_true | rfl | (simp only [eqV, PyData.eqv])
theorem inV_dt {v : V} (h : Dt K H v x) (f : flatD x = true) : ∀ {vs : List V} {ds : List PyData}, DtAll K H vs ds → ds.all flatD = true → inV v vs = ds.any fun e => PyData.eqv e x
  | _, _, .nil, _ => rfl
  | _, _, .cons k t, g => by
    rw [List.all_cons, Bool.and_eq_true] at g
    have ih := inV_dt h f t g.2
    unfold inV at ih ⊢
    rw [List.any_cons, List.any_cons, ih, eqV_dt k h g.1 f]
theorem ev_inL {neg : Bool} (ha : EvD K ta σ H x) (hb : EvD K tb σ H (.list ds)) (f : flatD x = true) (g : ds.all flatD = true) : EvD K (tOp (rIn K neg) ta tb) σ H (.bool (if neg then !(ds.any fun e => PyData.eqv e x) else ds.any fun e => PyData.eqv e x)) :=
  ev_op ha hb fun u v H1 _ hu hv Q q => by
    obtain ⟨a, vs, rfl, s, al⟩ := dt_lst hv
    refine ⟨a, vs, rfl, .inl s, flat_dt hu f, flats_dt al g, ?_⟩
    rw [inV_dt hu f al g]
    exact q _ H1 (Ex.refl H1) (.bl _)
theorem ev_inT {neg : Bool} (ha : EvD K ta σ H x) (hb : EvD K tb σ H (.tuple ds)) (f : flatD x = true) (g : ds.all flatD = true) : EvD K (tOp (rIn K neg) ta tb) σ H (.bool (if neg then !(ds.any fun e => PyData.eqv e x) else ds.any fun e => PyData.eqv e x)) :=
  ev_op ha hb fun u v H1 _ hu hv Q q => by
    obtain ⟨a, vs, rfl, s, al⟩ := dt_tup hv
    refine ⟨a, vs, rfl, .inr s.sq, flat_dt hu f, flats_dt al g, ?_⟩
    rw [inV_dt hu f al g]
    exact q _ H1 (Ex.refl H1) (.bl _)
theorem eqv_i (a b : Nat) : PyData.eqv (iD a) (iD b) = (a == b) := by
  show ((a : Int) == (b : Int)) = (a == b)
  rw [Bool.eq_iff_iff, beq_iff_eq, beq_iff_eq]
  omega
theorem any_i (l : List Nat) (a : Nat) : ((l.map iD).any fun e => PyData.eqv e (iD a)) = l.contains a := by
  induction l with
  | nil => rfl
  | cons b l ih =>
    rw [List.map_cons, List.any_cons, ih, eqv_i, List.contains_cons]
    congr 1
    rw [Bool.eq_iff_iff]
    rw [beq_iff_eq, beq_iff_eq]
    exact eq_comm
theorem any_none (l : List Nat) : ((l.map iD).any fun e => PyData.eqv e .none) = false := by
  induction l with
  | nil => rfl
  | cons b l ih => rw [List.map_cons, List.any_cons, ih]; rfl
theorem flat_is (l : List Nat) : (l.map iD).all flatD = true := by
  rw [List.all_map, List.all_eq_true]
  intro _ _
  rfl
/-- a number in a list, a tuple of numbers -/
theorem ev_inNL {a : Nat} {l : List Nat} (ha : EvD K ta σ H (iD a)) (hb : EvD K tb σ H (lD l)) : EvD K (tOp (rIn K false) ta tb) σ H (.bool (l.contains a)) := (ev_inL ha hb rfl (flat_is l)).is (by rw [any_i]; rfl)
theorem ev_niNL {a : Nat} {l : List Nat} (ha : EvD K ta σ H (iD a)) (hb : EvD K tb σ H (lD l)) : EvD K (tOp (rIn K true) ta tb) σ H (.bool (!l.contains a)) := (ev_inL ha hb rfl (flat_is l)).is (by rw [any_i]; rfl)
theorem ev_inNT {a : Nat} {l : List Nat} (ha : EvD K ta σ H (iD a)) (hb : EvD K tb σ H (tD l)) : EvD K (tOp (rIn K false) ta tb) σ H (.bool (l.contains a)) := (ev_inT ha hb rfl (flat_is l)).is (by rw [any_i]; rfl)
theorem ev_niNT {a : Nat} {l : List Nat} (ha : EvD K ta σ H (iD a)) (hb : EvD K tb σ H (tD l)) : EvD K (tOp (rIn K true) ta tb) σ H (.bool (!l.contains a)) := (ev_inT ha hb rfl (flat_is l)).is (by rw [any_i]; rfl)
/-! ### deep equality -/
theorem eqv_is : ∀ l m : List Nat, PyData.eqvAll (l.map iD) (m.map iD) = decide (l = m)
  | [], [] => rfl
  | [], _ :: _ => rfl
  | _ :: _, [] => rfl
  | a :: l, b :: m => by
    rw [List.map_cons, List.map_cons]
    simp only [PyData.eqvAll]
    rw [eqv_i, eqv_is l m]
    by_cases h : a = b <;> by_cases k : l = m <;> simp [h, k]
theorem eqv_t (l m : List Nat) : PyData.eqv (tD l) (tD m) = decide (l = m) := by
  unfold tD
  simp only [PyData.eqv]
  exact eqv_is l m
theorem eqv_ts : ∀ l m : List (List Nat), PyData.eqvAll (l.map tD) (m.map tD) = decide (l = m)
  | [], [] => rfl
  | [], _ :: _ => rfl
  | _ :: _, [] => rfl
  | a :: l, b :: m => by
    rw [List.map_cons, List.map_cons]
    simp only [PyData.eqvAll]
    rw [eqv_t, eqv_ts l m]
    by_cases h : a = b <;> by_cases k : l = m <;> simp [h, k]
theorem any_t (l : List (List Nat)) (a : List Nat) : ((l.map tD).any fun e => PyData.eqv e (tD a)) = l.contains a := by
  induction l with
  | nil => rfl
  | cons b l ih =>
    rw [List.map_cons, List.any_cons, ih, eqv_t, List.contains_cons]
    congr 1
    rw [Bool.eq_iff_iff]
    rw [decide_eq_true_iff, beq_iff_eq]
    exact eq_comm
theorem lay_is : ∀ l : List Nat, PyData.canLayAll0 (l.map iD) = true
  | [] => rfl
  | a :: l => by rw [List.map_cons]; simp [PyData.canLayAll0, PyData.canLay0, lay_is l]
theorem depth_is : ∀ l : List Nat, PyData.depthAll (l.map iD) ≤ 1
  | [] => by simp [PyData.depthAll]
  | a :: l => by
    have := depth_is l
    rw [List.map_cons]
    simp only [PyData.depthAll, PyData.depth]
    omega
theorem lay_ts : ∀ l : List (List Nat), PyData.canLayAll0 (l.map tD) = true
  | [] => rfl
  | a :: l => by
    rw [List.map_cons]
    simp only [PyData.canLayAll0, tD, PyData.canLay0, lay_is, Bool.true_and]
    exact lay_ts l
theorem depth_ts : ∀ l : List (List Nat), PyData.depthAll (l.map tD) ≤ 2
  | [] => by simp [PyData.depthAll]
  | a :: l => by
    have h1 := depth_ts l
    have h2 := depth_is a
    rw [List.map_cons]
    have e : PyData.depth (tD a) = 1 + PyData.depthAll (a.map iD) := by unfold tD; simp only [PyData.depth]; omega
    simp only [PyData.depthAll]
    omega
theorem sh_of {d : PyData} (h : d.canLay0 = true) (k : d.depth ≤ 64) : SeqAt.shaped d = true := by
  unfold SeqAt.shaped
  rw [h, decide_eq_true k]
  rfl
theorem sh_l (l : List Nat) : SeqAt.shaped (lD l) = true := sh_of (by unfold lD; simp only [PyData.canLay0]; exact lay_is l) (by unfold lD; simp only [PyData.depth]; have := depth_is l; omega)
theorem sh_t (l : List Nat) : SeqAt.shaped (tD l) = true := sh_of (by unfold tD; simp only [PyData.canLay0]; exact lay_is l) (by unfold tD; simp only [PyData.depth]; have := depth_is l; omega)
theorem sh_told (l : List (List Nat)) : SeqAt.shaped (toldD l) = true := sh_of (by unfold toldD; simp only [PyData.canLay0]; exact lay_ts l) (by unfold toldD; simp only [PyData.depth]; have := depth_ts l; omega)
theorem sh_lt (l : List (List Nat)) : SeqAt.shaped (.list (l.map tD)) = true := sh_of (by simp only [PyData.canLay0]; exact lay_ts l) (by simp only [PyData.depth]; have := depth_ts l; omega)
theorem ev_eqD (ha : EvD K ta σ H x) (hb : EvD K tb σ H y) (sx : SeqAt.shaped x = true) (sy : SeqAt.shaped y = true) : EvD K (tOp (rEqD K) ta tb) σ H (.bool (PyData.eqv x y)) :=
  ev_op ha hb fun u v H1 _ hu hv Q q => ⟨x, y, dt_dp hu, dt_dp hv, sx, sy, q _ H1 (Ex.refl H1) (.bl _)⟩
theorem ev_neD (ha : EvD K ta σ H x) (hb : EvD K tb σ H y) (sx : SeqAt.shaped x = true) (sy : SeqAt.shaped y = true) : EvD K (tOp (rNeD K) ta tb) σ H (.bool (!PyData.eqv x y)) :=
  ev_op ha hb fun u v H1 _ hu hv Q q => ⟨x, y, dt_dp hu, dt_dp hv, sx, sy, q _ H1 (Ex.refl H1) (.bl _)⟩
theorem ev_eqL {l m : List Nat} (ha : EvD K ta σ H (lD l)) (hb : EvD K tb σ H (lD m)) : EvD K (tOp (rEqD K) ta tb) σ H (.bool (decide (l = m))) :=
  (ev_eqD ha hb (sh_l l) (sh_l m)).is (by unfold lD; simp only [PyData.eqv]; rw [eqv_is])
theorem ev_neL {l m : List Nat} (ha : EvD K ta σ H (lD l)) (hb : EvD K tb σ H (lD m)) : EvD K (tOp (rNeD K) ta tb) σ H (.bool (!decide (l = m))) :=
  (ev_neD ha hb (sh_l l) (sh_l m)).is (by unfold lD; simp only [PyData.eqv]; rw [eqv_is])
theorem ev_eqLT {l m : List (List Nat)} (ha : EvD K ta σ H (.list (l.map tD))) (hb : EvD K tb σ H (.list (m.map tD))) : EvD K (tOp (rEqD K) ta tb) σ H (.bool (decide (l = m))) :=
  (ev_eqD ha hb (sh_lt l) (sh_lt m)).is (by simp only [PyData.eqv]; rw [eqv_ts])
theorem ev_neLT {l m : List (List Nat)} (ha : EvD K ta σ H (.list (l.map tD))) (hb : EvD K tb σ H (.list (m.map tD))) : EvD K (tOp (rNeD K) ta tb) σ H (.bool (!decide (l = m))) :=
  (ev_neD ha hb (sh_lt l) (sh_lt m)).is (by simp only [PyData.eqv]; rw [eqv_ts])
/-- an order in told orders (a tuple); in a list of orders -/
theorem ev_inTT {neg : Bool} {a : List Nat} {l : List (List Nat)} (ha : EvD K ta σ H (tD a)) (hb : EvD K tb σ H (toldD l)) : EvD K (tOp (rInDT K neg) ta tb) σ H (.bool (if neg then !l.contains a else l.contains a)) :=
  ev_op ha hb fun u v H1 _ hu hv Q q => ⟨tD a, l.map tD, dt_dp hu, dt_dp hv, sh_t a, sh_told l, by rw [any_t]; exact q _ H1 (Ex.refl H1) (.bl _)⟩
theorem ev_inLT {a : List Nat} {l : List (List Nat)} (ha : EvD K ta σ H (tD a)) (hb : EvD K tb σ H (.list (l.map tD))) : EvD K (tOp (rInD K) ta tb) σ H (.bool (l.contains a)) :=
  ev_op ha hb fun u v H1 _ hu hv Q q => ⟨tD a, l.map tD, dt_dp hu, dt_dp hv, sh_t a, sh_lt l, by rw [any_t]; exact q _ H1 (Ex.refl H1) (.bl _)⟩
theorem ev_niLT {a : List Nat} {l : List (List Nat)} (ha : EvD K ta σ H (tD a)) (hb : EvD K tb σ H (.list (l.map tD))) : EvD K (tOp (rNotInD K) ta tb) σ H (.bool (!l.contains a)) :=
  ev_op ha hb fun u v H1 _ hu hv Q q => ⟨tD a, l.map tD, dt_dp hu, dt_dp hv, sh_t a, sh_lt l, by rw [any_t]; exact q _ H1 (Ex.refl H1) (.bl _)⟩
/-! ### tests, and, or, not, if -/
theorem et_test {b : Bool} (h : EvD K te σ H (.bool b)) : EvT (tTest te) σ H b := fun H1 e Q q => h H1 e _ fun v H2 e2 h2 => ⟨b, dp_bool h2, q H2 e2⟩
theorem et_B {b : Bool} (h : EvD K te σ H (.bool b)) : EvT (tB te) σ H b := fun H1 e Q q => h H1 e _ fun v H2 e2 h2 => ⟨b, dp_bool h2, q H2 e2⟩
theorem ev_and {a b : Bool} (h1 : EvD K ta σ H (.bool a)) (h2 : a = true → EvD K tb σ H (.bool b)) : EvD K (tAndV ta tb) σ H (.bool (a && b)) := fun H1 e Q q => h1 H1 e _ fun v H2 e2 hv => ⟨a, dp_bool hv, by
  cases a with
  | true =>
    show tb σ H2 Q
    exact h2 rfl H2 (e.trans e2) Q fun w H3 e3 hw => q w H3 (e2.trans e3) hw
  | false =>
    show Q (.bl false) H2
    exact q _ H2 e2 (.bl _)⟩
theorem ev_or {a b : Bool} (h1 : EvD K ta σ H (.bool a)) (h2 : a = false → EvD K tb σ H (.bool b)) : EvD K (tOrV ta tb) σ H (.bool (a || b)) := fun H1 e Q q => h1 H1 e _ fun v H2 e2 hv => ⟨a, dp_bool hv, by
  cases a with
  | true =>
    show Q (.bl true) H2
    exact q _ H2 e2 (.bl _)
  | false =>
    show tb σ H2 Q
    exact h2 rfl H2 (e.trans e2) Q fun w H3 e3 hw => q w H3 (e2.trans e3) hw⟩
theorem ev_not {a : Bool} (h : EvD K ta σ H (.bool a)) : EvD K (tNotV ta) σ H (.bool (!a)) := fun H1 e Q q => h H1 e _ fun v H2 e2 hv => ⟨a, dp_bool hv, q _ H2 e2 (.bl _)⟩
theorem ev_if {b : Bool} (h : EvT t σ H b) (h1 : b = true → EvD K ta σ H d) (h2 : b = false → EvD K tb σ H d) : EvD K (tIf t ta tb) σ H d := fun H1 e Q q => h H1 e _ fun H2 e2 => by
  cases b with
  | true =>
    show ta σ H2 Q
    exact h1 rfl H2 (e.trans e2) Q fun w H3 e3 hw => q w H3 (e2.trans e3) hw
  | false =>
    show tb σ H2 Q
    exact h2 rfl H2 (e.trans e2) Q fun w H3 e3 hw => q w H3 (e2.trans e3) hw
theorem ev_chain {r r' : R2} {tc : TE} {b : Bool} {c : PyData} (ha : EvD K ta σ H x) (hb : EvD K tb σ H y) (hc : b = true → EvD K tc σ H c)
    (h1 : ∀ (u v : V) H1, Dt K H1 u x → Dt K H1 v y → ∀ Q : VK, Q (.bl b) H1 → r u v H1 Q) (h2 : b = true → ∀ (u v : V) H1, Dt K H1 u y → Dt K H1 v c → ∀ Q : VK, Q (.bl k) H1 → r' u v H1 Q) : EvD K (tChain r r' ta tb tc) σ H (.bool (b && k)) := fun H1 e Q q =>
  ha H1 e _ fun u H2 e2 hu => hb H2 (e.trans e2) _ fun v H3 e3 hv => h1 u v H3 (dp_ex e3 hu) hv _ ⟨b, rfl, by
    cases b with
    | true =>
      rw [if_pos rfl]
      exact hc rfl H3 ((e.trans e2).trans e3) _ fun w H4 e4 hw => h2 rfl v w H4 (dp_ex e4 hv) hw Q (q _ H4 ((e2.trans e3).trans e4) (.bl _))
    | false =>
      rw [if_neg Bool.false_ne_true]
      exact q _ H3 (e2.trans e3) (.bl _)⟩
/-- i <= j <= k, i <= j < k, of ints -/
theorem ev_lele {tc : TE} {i j k : Int} (ha : EvD K ta σ H (.int i)) (hb : EvD K tb σ H (.int j)) (hc : EvD K tc σ H (.int k)) :
    EvD K (tChain (rI0 fun i j => .bl (decide (i ≤ j))) (rI0 fun i j => .bl (decide (i ≤ j))) ta tb tc) σ H (.bool (decide (i ≤ j) && decide (j ≤ k))) :=
  ev_chain ha hb (fun _ => hc) (fun u v H1 hu hv Q q => ⟨i, j, dp_int hu, dp_int hv, q⟩) fun _ u v H1 hu hv Q q => ⟨j, k, dp_int hu, dp_int hv, q⟩
theorem ev_lelt {tc : TE} {i j k : Int} (ha : EvD K ta σ H (.int i)) (hb : EvD K tb σ H (.int j)) (hc : EvD K tc σ H (.int k)) :
    EvD K (tChain (rI0 fun i j => .bl (decide (i ≤ j))) (rI0 fun i j => .bl (decide (i < j))) ta tb tc) σ H (.bool (decide (i ≤ j) && decide (j < k))) :=
  ev_chain ha hb (fun _ => hc) (fun u v H1 hu hv Q q => ⟨i, j, dp_int hu, dp_int hv, q⟩) fun _ u v H1 hu hv Q q => ⟨j, k, dp_int hu, dp_int hv, q⟩
/-! ### arguments, calls -/
theorem ea_nil : EvA K tNil σ H [] := fun H1 _ Q q => q [] H1 (Ex.refl H1) .nil
theorem ea_cons {tr : TA} (h : EvD K ta σ H x) (hr : EvA K tr σ H ds) : EvA K (tCons ta tr) σ H (x :: ds) := fun H1 e Q q =>
  h H1 e _ fun v H2 e2 hv => hr H2 (e.trans e2) _ fun vs H3 e3 hvs => q _ H3 (e2.trans e3) (.cons (dp_ex e3 hv) hvs)
theorem ev_call {sp : Sp} {E : XK} {tr : TA} (h : EvA K tr σ H ds) (hs : ∀ vs H1 (Q : VK), Ex H H1 → DtAll K H1 vs ds → RetD K d H1 Q → sp vs H1 Q E) : EvD K (tCall sp [] E tr) σ H d := fun H1 e Q q =>
  h H1 e _ fun vs H2 e2 hvs => by
    rw [List.append_nil]
    exact hs vs H2 Q (e.trans e2) hvs fun w H3 e3 hw => q w H3 (e2.trans e3) hw
theorem ev_callN {sp : Sp} {E : XK} {tr : TA} (h : EvA K tr σ H ds) (hs : ∀ vs H1 (Q : VK), Ex H H1 → DtAll K H1 vs ds → RetN K es H1 Q → sp vs H1 Q E) : EvN K (tCall sp [] E tr) σ H es := fun H1 e Q q =>
  h H1 e _ fun vs H2 e2 hvs => by
    rw [List.append_nil]
    exact hs vs H2 Q (e.trans e2) hvs fun p ws H3 np e3 h3 h4 => q p ws H3 (Evl.fresh_back e2 np) (e2.trans e3) h3 h4
/-- a call of a builtin on one value -/
theorem ev_cb {r : List V → Hp → VK → Prop} (h : EvD K ta σ H x) (hr : ∀ v H1, Ex H H1 → Dt K H1 v x → ∀ Q : VK, (∀ w H2, Ex H1 H2 → Dt K H2 w d → Q w H2) → r [v] H1 Q) : EvD K (tCB r (tCons ta tNil)) σ H d := fun H1 e Q q =>
  h H1 e _ fun v H2 e2 hv => hr v H2 (e.trans e2) hv Q fun w H3 e3 hw => q w H3 (e2.trans e3) hw
theorem ev_cbN {r : List V → Hp → VK → Prop} (h : EvD K ta σ H x) (hr : ∀ v H1, Ex H H1 → Dt K H1 v x → ∀ Q : VK, (∀ p vs H2, H1 p = none → Ex H1 H2 → H2 p = some (.lst vs) → DtAll K H2 vs ds → Q (.ref p) H2) → r [v] H1 Q) : EvN K (tCB r (tCons ta tNil)) σ H ds := fun H1 e Q q =>
  h H1 e _ fun v H2 e2 hv => hr v H2 (e.trans e2) hv Q fun p vs H3 np e3 h3 h4 => q p vs H3 (Evl.fresh_back e2 np) (e2.trans e3) h3 h4
/-- len -/
abbrev rLen (K : PySem.W.Frag) : List V → Hp → VK → Prop := fun xs H Q => ∃ p ys, xs = [.ref p] ∧ (SqL K H p ys ∨ SqT K H p ys) ∧ Q (.int ys.length) H
theorem ev_lenL (h : EvD K ta σ H (.list ds)) : EvD K (tCB (rLen K) (tCons ta tNil)) σ H (iD ds.length) := ev_cb h fun v H1 _ hv Q q => by
  obtain ⟨a, vs, rfl, s, al⟩ := dt_lst hv
  exact ⟨a, vs, rfl, .inl s, by rw [da_len al]; exact q _ H1 (Ex.refl H1) (.int _)⟩
theorem ev_lenT (h : EvD K ta σ H (.tuple ds)) : EvD K (tCB (rLen K) (tCons ta tNil)) σ H (iD ds.length) := ev_cb h fun v H1 _ hv Q q => by
  obtain ⟨a, vs, rfl, s, al⟩ := dt_tup hv
  exact ⟨a, vs, rfl, .inr s.sq, by rw [da_len al]; exact q _ H1 (Ex.refl H1) (.int _)⟩
/-- list(x), tuple(x) -/
abbrev rList (K : PySem.W.Frag) : List V → Hp → VK → Prop := fun xs H Q => ∃ p ys, xs = [.ref p] ∧ (SqL K H p ys ∨ SqT K H p ys) ∧ ∀ l, H l = none → Q (.ref l) (upd H l (.lst ys))
theorem ev_listT (h : EvD K ta σ H (.tuple ds)) : EvN K (tCB (rList K) (tCons ta tNil)) σ H ds := ev_cbN h fun v H1 _ hv Q q => by
  obtain ⟨a, vs, rfl, s, al⟩ := dt_tup hv
  exact ⟨a, vs, rfl, .inr s.sq, fun l nl => q l vs _ nl (Ex.new nl) upd_same (da_ex (Ex.new nl) al)⟩
theorem newT_dt {vs : List V} {Q : VK} (al : DtAll K H vs ds) (q : ∀ w H2, Ex H H2 → Dt K H2 w (.tuple ds) → Q w H2) : NewT vs H Q := fun p H' _ e pt => q _ H' e (.tup pt (da_ex e al))
theorem ev_tupL (h : EvD K ta σ H (.list ds)) : EvD K (tCB (rTupP K) (tCons ta tNil)) σ H (.tuple ds) := ev_cb h fun v H1 _ hv Q q => by
  obtain ⟨a, vs, rfl, s, al⟩ := dt_lst hv
  exact ⟨a, vs, rfl, .inl ⟨s, newT_dt al q⟩⟩
theorem ev_tup {tr : TA} (h : EvA K tr σ H ds) (few : ds.length ≤ 1000) : EvD K (tTupP tr) σ H (.tuple ds) := fun H1 e Q q =>
  h H1 e _ fun vs H2 e2 al => ⟨by rw [da_len al]; exact Evl.sz_of (by omega), newT_dt al fun w H3 e3 hw => q w H3 (e2.trans e3) hw⟩
theorem ev_lst {tr : TA} (h : EvA K tr σ H ds) (few : ds.length ≤ 1000) : EvN K (tLst tr) σ H ds := fun H1 e Q q =>
  h H1 e _ fun vs H2 e2 al => ⟨by rw [da_len al]; exact Evl.sz_of (by omega), fun p np => q p vs _ (Evl.fresh_back e2 np) (e2.trans (Ex.new np)) upd_same (da_ex (Ex.new np) al)⟩
end
end Cd

set_option Elab.async false
set_option linter.all false
set_option maxRecDepth 100000
set_option maxHeartbeats 4000000
/-! E3: comprehensions, statements, loops, as data. -/
namespace Cd
open PySem PySem.Spec PyProof.Rows L2
open Evl (Ex EvT)
section
variable {K : PySem.W.Frag} {σ : L2.St} {H H' : Hp} {ta tb te tl : TE} {t u tt : TT} {x y z d : PyData} {ds es : List PyData} {Γ : List G}
/-! ### comprehensions -/
/-- the new list so far -/
def Lcw (K : PySem.W.Frag) (H1 : Hp) (L : Addr) (es : List PyData) (H' : Hp) : Prop := H1 L = none ∧ Ex H1 H' ∧ ∃ vs, H' L = some (.lst vs) ∧ DtAll K H' vs es
theorem lcw0 {L : Addr} (h : H L = none) : Lcw K H L [] (upd H L (.lst [])) := ⟨h, Ex.new h, [], upd_same, .nil⟩
theorem pt_upd {a p : Addr} {xs vs us : List V} (hp : H p = some (.lst vs)) (h : PT H a xs) : PT (upd H p (.lst us)) a xs := by
  obtain ⟨o, d, e⟩ := h
  refine ⟨o, d, ?_⟩
  rw [upd_ne (by rintro rfl; rw [hp] at e; cases e)]
  exact e
theorem lcw_push {L : Addr} {v : V} (n : ∀ d ∈ es, NL d) (nd : NL d) (few : es.length < 50000) {H1 H3 : Hp} (h : Lcw K H1 L es H') (e : Ex H' H3) (hv : Dt K H3 v d) :
    ∃ acc, H3 L = some (.lst acc) ∧ acc.length < sizeLine ∧ Lcw K H1 L (es ++ [d]) (upd H3 L (.lst (acc ++ [v]))) := by
  obtain ⟨a, b, vs, c, al⟩ := h
  have at3 := e _ _ c
  refine ⟨vs, at3, Evl.sz_lt (by rw [da_len al]; omega), a, Ex.mut (b.trans e) a, vs ++ [v], upd_same, da_app (da_nl (fun _ _ => pt_upd at3) n (da_ex e al)) (.cons (dp_nl (fun _ _ => pt_upd at3) nd hv) .nil)⟩
theorem lcw_turn {L : Addr} {b : Bool} {H1 : Hp} {σ2 : L2.St} (n : ∀ d ∈ es, NL d) (nd : b = true → NL d) (few : es.length < 50000) (h : Lcw K H1 L es H') (ht : EvT tt σ2 H1 b) (he : b = true → EvD K te σ2 H1 d) :
    tt σ2 H' fun b' H3 => if b' = true then te σ2 H3 fun w H4 => ∃ acc, H4 L = some (.lst acc) ∧ acc.length < sizeLine ∧ Lcw K H1 L (if b = true then es ++ [d] else es) (upd H4 L (.lst (acc ++ [w]))) else Lcw K H1 L (if b = true then es ++ [d] else es) H3 := by
  refine ht H' h.2.1 _ fun H3 e3 => ?_
  cases b with
  | true =>
    rw [if_pos rfl]
    refine he rfl H3 (h.2.1.trans e3) _ fun w H4 e4 hw => ?_
    simp only [if_true]
    exact lcw_push n (nd rfl) few h (e3.trans e4) hw
  | false =>
    rw [if_neg Bool.false_ne_true]
    obtain ⟨a, b, vs, c, al⟩ := h
    simp only [Bool.false_eq_true, if_false]
    exact ⟨a, b.trans e3, vs, e3 _ _ c, da_ex e3 al⟩
theorem wipe1 (σ : L2.St) (j : Nat) (v : V) : (wipe σ [j]).set j (some v) = σ.set j (some v) := by
  simp [wipe, List.set_set]
theorem wipe1' (σ : L2.St) (j : Nat) (v : V) : wipe (σ.set j (some v)) [j] = wipe σ [j] := by
  simp [wipe, List.set_set]
section
variable {α : Type} (l : List α) (f : α → Bool) (e : α → PyData)
theorem take_if {i : Nat} {a : α} (h : l[i]? = some a) : ((l.take (i + 1)).filter f).map e = if f a = true then ((l.take i).filter f).map e ++ [e a] else ((l.take i).filter f).map e := by
  rw [List.take_add_one, h, List.filter_append, List.map_append]
  cases q : f a with
  | true => simp [List.filter_cons, q]
  | false => simp [List.filter_cons, q]
theorem nl_take {i : Nat} (h : ∀ a ∈ l, f a = true → NL (e a)) : ∀ d ∈ ((l.take i).filter f).map e, NL d := fun d hd => by
  obtain ⟨a, ha, rfl⟩ := List.mem_map.mp hd
  obtain ⟨h1, h2⟩ := List.mem_filter.mp ha
  exact h a (List.mem_of_mem_take h1) h2
theorem len_take {i : Nat} : (((l.take i).filter f).map e).length ≤ l.length := by
  rw [List.length_map]
  exact Nat.le_trans (List.length_filter_le _ _) (by rw [List.length_take]; exact Nat.min_le_right _ _)
end
/-- over range(n) -/
theorem ev_lcR {n : Nat} {f : Nat → Bool} {e : Nat → PyData} {j : Nat} (hV : Va K H σ Γ) (hn : EvD K ta σ H (iD n)) (few : n ≤ 40000)
    (ht : ∀ (i : Nat) H1, i < n → Ex H H1 → Va K H1 (σ.set j (some (.int (i : Int)))) (Γ.set j (.d (iD i))) → EvT tt (σ.set j (some (.int (i : Int)))) H1 (f i))
    (he : ∀ (i : Nat) H1, i < n → f i = true → Ex H H1 → Va K H1 (σ.set j (some (.int (i : Int)))) (Γ.set j (.d (iD i))) → EvD K te (σ.set j (some (.int (i : Int)))) H1 (e i)) (nl : ∀ i, i < n → f i = true → NL (e i)) :
    EvN K (tLc (iRng1 (tCons ta tNil)) (gName j) tt te [j]) σ H (((List.range n).filter f).map e) := fun H0 e0 Q q => hn H0 e0 _ fun v H1 e1 hv => by
  have nl' : ∀ a ∈ List.range n, f a = true → NL (e a) := fun a ha => nl a (List.mem_range.mp ha)
  refine ⟨(n : Int), by rw [dp_int hv], by omega, by omega, fun L hL => ?_⟩
  refine lc_range (lo := 0) (n := (n : Int).toNat) (fun i H' => Lcw K H1 L ((((List.range n).take i).filter f).map e) H') (lcw0 hL) (fun i H' hi p => ?_) fun H' p => ?_
  · have lt : i < n := by omega
    have e2 : (0 : Int) + (i : Int) = (i : Int) := Int.zero_add _
    have gi : (List.range n)[i]? = some i := by rw [List.getElem?_range lt]
    have V1 : Va K H1 (σ.set j (some (.int (i : Int)))) (Γ.set j (.d (iD i))) := (hV.mono (e0.trans e1)).set j (.int _)
    show wipe ((wipe σ [j]).set j (some (.int ((0 : Int) + (i : Int))))) [j] = wipe σ [j] ∧ tt ((wipe σ [j]).set j (some (.int ((0 : Int) + (i : Int))))) H' _
    rw [e2, wipe1, wipe1']
    refine ⟨rfl, ?_⟩
    have turn := lcw_turn (tt := tt) (te := te) (b := f i) (d := e i) (nl_take _ f e nl') (fun q => nl i lt q) (Nat.lt_of_le_of_lt (len_take _ f e) (by rw [List.length_range]; omega)) p (ht i H1 lt (e0.trans e1) V1) (fun q => he i H1 lt q (e0.trans e1) V1)
    rw [← take_if _ f e gi] at turn
    exact turn
  · obtain ⟨p1, p2, vs, p3, p4⟩ := p
    rw [List.take_of_length_le (by rw [List.length_range]; omega)] at p4
    exact q L vs H' (Evl.fresh_back e1 p1) (e1.trans p2) p3 p4
/-- over a list, a tuple -/
theorem ev_lcS {α : Type} {l : List α} {c : α → PyData} {f : α → Bool} {e : α → PyData} {j : Nat} {wi : TI} {J : Addr → It} {Gd : Addr → List V → Hp → Prop} (hV : Va K H σ Γ)
    (src : ∀ H1, Ex H H1 → ∀ R : It → Hp → Prop, (∀ a vs H2, Ex H1 H2 → Gd a vs H2 → DtAll K H2 vs (l.map c) → R (J a) H2) → wi σ H1 R)
    (walk : ∀ a vs, Walk (J a) vs.length (Gd a vs) (YAt vs)) (keep : ∀ a vs H1 H2, Ex H1 H2 → Gd a vs H1 → Gd a vs H2) (few : l.length ≤ 40000)
    (ht : ∀ a v H1, a ∈ l → Ex H H1 → Dt K H1 v (c a) → Va K H1 (σ.set j (some v)) (Γ.set j (.d (c a))) → EvT tt (σ.set j (some v)) H1 (f a))
    (he : ∀ a v H1, a ∈ l → f a = true → Ex H H1 → Dt K H1 v (c a) → Va K H1 (σ.set j (some v)) (Γ.set j (.d (c a))) → EvD K te (σ.set j (some v)) H1 (e a)) (nl : ∀ a ∈ l, f a = true → NL (e a)) :
    EvN K (tLc wi (gName j) tt te [j]) σ H ((l.filter f).map e) := fun H0 e0 Q q => src H0 e0 _ fun a vs H1 e1 hG al => by
  intro L hL
  have len : vs.length = l.length := by rw [da_len al, List.length_map]
  refine lc_it (walk a vs) (fun i H' => Lcw K H1 L (((l.take i).filter f).map e) H') (lcw0 hL) (fun i H' _ p => keep a vs H1 H' p.2.1 hG) (fun i v H' H'' hi p y => ?_) fun H' p => ?_
  · obtain ⟨rfl, hv⟩ := y
    obtain ⟨d, e2, hd⟩ := da_get' al hv
    rw [List.getElem?_map] at e2
    cases gi : l[i]? with
    | none => rw [gi] at e2; cases e2
    | some b =>
      rw [gi] at e2
      have e2 : c b = d := Option.some.inj e2
      subst e2
      have mem := List.mem_of_getElem? gi
      have V1 : Va K H1 (σ.set j (some v)) (Γ.set j (.d (c b))) := (hV.mono (e0.trans e1)).set j hd
      show wipe ((wipe σ [j]).set j (some v)) [j] = wipe σ [j] ∧ tt ((wipe σ [j]).set j (some v)) H'' _
      rw [wipe1, wipe1']
      refine ⟨rfl, ?_⟩
      have turn := lcw_turn (tt := tt) (te := te) (b := f b) (d := e b) (nl_take _ f e nl) (fun q => nl b mem q) (Nat.lt_of_le_of_lt (len_take _ f e) (by omega)) p (ht b v H1 mem (e0.trans e1) hd V1) (fun q => he b v H1 mem q (e0.trans e1) hd V1)
      rw [← take_if _ f e gi] at turn
      exact turn
  · obtain ⟨p1, p2, ws, p3, p4⟩ := p
    rw [List.take_of_length_le (by omega)] at p4
    exact q L ws H' (Evl.fresh_back e1 p1) (e1.trans p2) p3 p4
theorem ev_lcL {α : Type} {l : List α} {c : α → PyData} {f : α → Bool} {e : α → PyData} {j : Nat} (hV : Va K H σ Γ) (src : EvD K tl σ H (.list (l.map c))) (few : l.length ≤ 40000)
    (ht : ∀ a v H1, a ∈ l → Ex H H1 → Dt K H1 v (c a) → Va K H1 (σ.set j (some v)) (Γ.set j (.d (c a))) → EvT tt (σ.set j (some v)) H1 (f a))
    (he : ∀ a v H1, a ∈ l → f a = true → Ex H H1 → Dt K H1 v (c a) → Va K H1 (σ.set j (some v)) (Γ.set j (.d (c a))) → EvD K te (σ.set j (some v)) H1 (e a)) (nl : ∀ a ∈ l, f a = true → NL (e a)) :
    EvN K (tLc (iList K tl) (gName j) tt te [j]) σ H ((l.filter f).map e) :=
  ev_lcS (J := Itl K) (Gd := fun a vs H => SqL K H a vs) hV (fun H1 e1 R r => src H1 e1 _ fun v H2 e2 hv => by
    obtain ⟨a, vs, rfl, s, al⟩ := dt_lst hv
    exact ⟨a, rfl, ⟨vs, s⟩, r a vs H2 e2 s al⟩) (fun _ _ => walk_list) (fun _ _ _ _ e h => Evl.ex_l e h) few ht he nl
theorem ev_lcT {α : Type} {l : List α} {c : α → PyData} {f : α → Bool} {e : α → PyData} {j : Nat} (hV : Va K H σ Γ) (src : EvD K tl σ H (.tuple (l.map c))) (few : l.length ≤ 40000)
    (ht : ∀ a v H1, a ∈ l → Ex H H1 → Dt K H1 v (c a) → Va K H1 (σ.set j (some v)) (Γ.set j (.d (c a))) → EvT tt (σ.set j (some v)) H1 (f a))
    (he : ∀ a v H1, a ∈ l → f a = true → Ex H H1 → Dt K H1 v (c a) → Va K H1 (σ.set j (some v)) (Γ.set j (.d (c a))) → EvD K te (σ.set j (some v)) H1 (e a)) (nl : ∀ a ∈ l, f a = true → NL (e a)) :
    EvN K (tLc (iTup K tl) (gName j) tt te [j]) σ H ((l.filter f).map e) :=
  ev_lcS (J := Itt K) (Gd := fun a vs H => SqT K H a vs) hV (fun H1 e1 R r => src H1 e1 _ fun v H2 e2 hv => by
    obtain ⟨a, vs, rfl, s, al⟩ := dt_tup hv
    exact ⟨a, rfl, ⟨vs, s.sq⟩, r a vs H2 e2 s.sq al⟩) (fun _ _ => walk_tup) (fun _ _ _ _ e h => Evl.ex_t e h) few ht he nl
/-- without a test: the map -/
theorem filter_yes {α : Type} (l : List α) : l.filter (fun _ => true) = l := List.filter_eq_self.mpr fun _ _ => rfl
theorem et_yes : EvT tYes σ H true := fun H1 _ Q q => q H1 (Ex.refl H1)
/-- for i, x in enumerate(t), of which i is kept -/
theorem ev_lcE {n : Nat} {c : Nat → PyData} {f : Nat → Bool} {e : Nat → PyData} {i j : Nat} (hij : i ≠ j) (hV : Va K H σ Γ) (src : EvD K tl σ H (.tuple ((List.range n).map c))) (few : n ≤ 40000)
    (ht : ∀ (k : Nat) v H1, k < n → Ex H H1 → Va K H1 ((σ.set i (some (.int (k : Int)))).set j (some v)) ((Γ.set i (.d (iD k))).set j (.d (c k))) → EvT tt ((σ.set i (some (.int (k : Int)))).set j (some v)) H1 (f k))
    (he : ∀ (k : Nat) v H1, k < n → f k = true → Ex H H1 → Va K H1 ((σ.set i (some (.int (k : Int)))).set j (some v)) ((Γ.set i (.d (iD k))).set j (.d (c k))) → EvD K te ((σ.set i (some (.int (k : Int)))).set j (some v)) H1 (e k)) (nl : ∀ k, k < n → f k = true → NL (e k)) :
    EvN K (tLc (iEnumT K (tCons tl tNil)) (gTup K 2 (gCons (gName i) (gCons (gName j) gNil))) tt te [i, j]) σ H (((List.range n).filter f).map e) := fun H0 e0 Q q => src H0 e0 _ fun w H1 e1 hw => by
  obtain ⟨a, vs, rfl, pt, al⟩ := dt_tup hw
  have nl' : ∀ a ∈ List.range n, f a = true → NL (e a) := fun a ha => nl a (List.mem_range.mp ha)
  have len : vs.length = n := by rw [da_len al, List.length_map, List.length_range]
  refine ⟨a, vs, rfl, pt.sq, fun L hL => ?_⟩
  refine lc_it walk_enumT (fun k H' => Lcw K H1 L ((((List.range n).take k).filter f).map e) H') (lcw0 hL) (fun k H' _ p => Evl.ex_t p.2.1 pt.sq) (fun k v H' H'' hk p y => ?_) fun H' p => ?_
  · have lt : k < n := len ▸ hk
    obtain ⟨T, x, y, rfl, hT, rfl, ex, ey⟩ := y
    have ex : V.int (k : Int) = x := Option.some.inj ex
    subst ex
    obtain ⟨d, e2, hd⟩ := da_get' al ey
    have gk : (List.range n)[k]? = some k := by rw [List.getElem?_range lt]
    rw [List.getElem?_map, gk] at e2
    have e2 : c k = d := Option.some.inj e2
    subst e2
    have p' : Lcw K H1 L ((((List.range n).take k).filter f).map e) (upd H' T (.tup [.int (k : Int), y])) := by
      obtain ⟨p1, p2, ws, p3, p4⟩ := p
      have ne : L ≠ T := by rintro rfl; rw [hT] at p3; cases p3
      exact ⟨p1, p2.trans (Ex.new hT), ws, by rw [upd_ne ne]; exact p3, da_ex (Ex.new hT) p4⟩
    have V1 : Va K H1 ((σ.set i (some (.int (k : Int)))).set j (some y)) ((Γ.set i (.d (iD k))).set j (.d (c k))) := ((hV.mono (e0.trans e1)).set i (.int _)).set j hd
    have s1 : ((wipe σ [i, j]).set i (some (.int (k : Int)))).set j (some y) = (σ.set i (some (.int (k : Int)))).set j (some y) := by
      simp only [wipe]
      rw [List.set_set, List.set_comm _ _ (Ne.symm hij), List.set_set]
    have s2 : wipe ((σ.set i (some (.int (k : Int)))).set j (some y)) [i, j] = wipe σ [i, j] := by
      simp only [wipe]
      rw [List.set_set, List.set_comm _ _ (Ne.symm hij), List.set_set, List.set_comm _ _ hij]
    refine ⟨T, [.int (k : Int), y], rfl, .inl (.inl upd_same), rfl, .int (k : Int), [y], rfl, y, [], rfl, rfl, ?_⟩
    show wipe (((wipe σ [i, j]).set i (some (.int (k : Int)))).set j (some y)) [i, j] = wipe σ [i, j] ∧ tt (((wipe σ [i, j]).set i (some (.int (k : Int)))).set j (some y)) _ _
    rw [s1, s2]
    refine ⟨rfl, ?_⟩
    have turn := lcw_turn (tt := tt) (te := te) (b := f k) (d := e k) (nl_take _ f e nl') (fun q => nl k lt q) (Nat.lt_of_le_of_lt (len_take _ f e) (by rw [List.length_range]; omega)) p' (ht k y H1 lt (e0.trans e1) V1) (fun q => he k y H1 lt q (e0.trans e1) V1)
    rw [← take_if _ f e gk] at turn
    exact turn
  · obtain ⟨p1, p2, ws, p3, p4⟩ := p
    rw [List.take_of_length_le (by rw [List.length_range]; omega)] at p4
    exact q L ws H' (Evl.fresh_back e1 p1) (e1.trans p2) p3 p4
end
end Cd

set_option Elab.async false
set_option linter.all false
set_option maxRecDepth 100000
set_option maxHeartbeats 4000000
/-! E4: statements and loops, as data. -/
namespace Cd
open PySem PySem.Spec PyProof.Rows L2
open Evl (Ex EvT)
section
variable {K : PySem.W.Frag} {H0 H H' : Hp} {σ : L2.St} {ta tb te tl tn : TE} {t u tt : TT} {x y z d : PyData} {ds es : List PyData} {Γ : List G} {X : List (V × PyData)} {D : Ends} {tu tw tz : TS}
theorem s_asg {i : Nat} (E : En K H0 H σ Γ X) (h : EvD K te σ H d) (n : NL d) (k : ∀ v H1, Ex H H1 → En K H0 H1 (σ.set i (some v)) (Γ.set i (.d d)) X → D.nx (σ.set i (some v)) H1) : tAsg te (gName i) D σ H :=
  h H (Ex.refl H) _ fun v H1 e hv => k v H1 e ((E.mono e).put (g := .d d) ((E.mono e).nl n hv))
/-- a new list that stays as it is -/
theorem En.fresh {p : Addr} {vs : List V} {H1 : Hp} (E : En K H0 H σ Γ X) (n : ∀ d ∈ ds, NL d) (np : H p = none) (e : Ex H H1) (hp : H1 p = some (.lst vs)) (al : DtAll K H1 vs ds) : Dt K (mask (ms Γ) H1) (.ref p) (.list ds) := by
  have E1 := E.mono e
  have out : p ∉ ms Γ := fun m => by
    obtain ⟨xs, hx⟩ := E.ml p m
    rw [np] at hx
    cases hx
  exact .lst (Evl.sq_of (by rw [mask_out out]; exact hp)) (E1.nls n al)
theorem s_asgL {i : Nat} (E : En K H0 H σ Γ X) (h : EvN K te σ H ds) (n : ∀ d ∈ ds, NL d) (k : ∀ v H1, Ex H H1 → En K H0 H1 (σ.set i (some v)) (Γ.set i (.d (.list ds))) X → D.nx (σ.set i (some v)) H1) : tAsg te (gName i) D σ H :=
  h H (Ex.refl H) _ fun p vs H1 np e hp al => k _ H1 e ((E.mono e).put (g := .d (.list ds)) (E.fresh n np e hp al))
/-- a new list that is to change -/
theorem s_asgM {i : Nat} (E : En K H0 H σ Γ X) (h : EvN K te σ H ds) (n : ∀ d ∈ ds, NL d) (k : ∀ p H1, H p = none → Ex H H1 → En K H0 H1 (σ.set i (some (.ref p))) (Γ.set i (.m p ds)) X → D.nx (σ.set i (some (.ref p))) H1) : tAsg te (gName i) D σ H :=
  h H (Ex.refl H) _ fun p vs H1 np e hp al => k p H1 np e (E.putM e np hp al n)
theorem s_ret (E : En K H0 H σ Γ X) (h : EvD K te σ H d) (k : RetD K d H0 D.rt) : tRet te D σ H := h H (Ex.refl H) _ fun v H1 e hv => k v H1 ((E.ex.trans mask_le).trans e) hv
theorem s_retN (E : En K H0 H σ Γ X) (h : EvN K te σ H ds) (k : RetN K ds H0 D.rt) : tRet te D σ H := h H (Ex.refl H) _ fun p vs H1 np e hp al => k p vs H1 (Evl.fresh_back (E.ex.trans mask_le) np) ((E.ex.trans mask_le).trans e) hp al
theorem s_retM {i : Nat} {p : Addr} (E : En K H0 H σ Γ X) (hi : Γ[i]? = some (.m p ds)) (k : RetN K ds H0 D.rt) : tRet (tVar i) D σ H := by
  obtain ⟨e1, vs, e2, e3⟩ := E.lst i p ds hi
  refine ⟨.ref p, e1, k p vs H ?_ (E.ex.trans mask_le) e2 (da_ex mask_le e3)⟩
  cases q : H0 p with
  | none => rfl
  | some o =>
    have := E.ex p o q
    rw [mask_in (mem_ms.mpr ⟨i, _, hi, rfl⟩)] at this
    cases this
theorem s_if {b : Bool} (E : En K H0 H σ Γ X) (h : EvT t σ H b) (h1 : b = true → ∀ H1, Ex H H1 → En K H0 H1 σ Γ X → tu D σ H1) (h2 : b = false → ∀ H1, Ex H H1 → En K H0 H1 σ Γ X → tw D σ H1) : tIfS t tu tw D σ H := h H (Ex.refl H) _ fun H1 e => by
  cases b with
  | true =>
    show tu D σ H1
    exact h1 rfl H1 e (E.mono e)
  | false =>
    show tw D σ H1
    exact h2 rfl H1 e (E.mono e)
theorem s_when {b : Bool} (E : En K H0 H σ Γ X) (h : EvT t σ H b) (h1 : b = true → ∀ H1, Ex H H1 → En K H0 H1 σ Γ X → tu D σ H1) (h2 : b = false → ∀ H1, Ex H H1 → En K H0 H1 σ Γ X → D.nx σ H1) : tIfS t tu tNext D σ H := s_if E h h1 h2
/-- l.append(e) -/
theorem s_app {i : Nat} {p : Addr} (E : En K H0 H σ Γ X) (hi : Γ[i]? = some (.m p ds)) (h : EvD K te σ H d) (n : NL d) (few : ds.length < 100000) (k : ∀ H1, En K H0 H1 σ (Γ.set i (.m p (ds ++ [d]))) X → D.nx σ H1) : tDrop (tBM K "list" rAppend (tVar i) (tCons te tNil)) D σ H := by
  obtain ⟨e1, vs, e2, e3⟩ := E.lst i p ds hi
  refine ⟨.ref p, e1, Or.inl ⟨rfl, vs, Evl.sq_of e2⟩, h H (Ex.refl H) _ fun v H1 e hv => ?_⟩
  have E1 := E.mono e
  obtain ⟨_, us, e4, e5⟩ := E1.lst i p ds hi
  exact ⟨p, us, v, rfl, rfl, e4, Evl.sz_lt (by rw [da_len e5]; exact few), k _ (E1.upd hi (da_app e5 (.cons (E1.nl n hv) .nil)))⟩
/-- l[k] = e, k a number in bounds -/
theorem s_setM {i j : Nat} {p : Addr} (E : En K H0 H σ Γ X) (hi : Γ[i]? = some (.m p ds)) (h : EvD K te σ H d) (n : NL d) (hk : ∀ H1, Ex H H1 → EvD K tb σ H1 (iD j)) (lt : j < ds.length) (k : ∀ H1, En K H0 H1 σ (Γ.set i (.m p (ds.set j d))) X → D.nx σ H1) : tAsg te (gSub (tVar i) tb rSetL) D σ H := by
  obtain ⟨e1, _⟩ := E.lst i p ds hi
  refine h H (Ex.refl H) _ fun v H1 e hv => ⟨.ref p, e1, hk H1 e H1 (Ex.refl H1) _ fun w H2 e2 hw => ?_⟩
  have E2 := E.mono (e.trans e2)
  obtain ⟨_, us, e4, e5⟩ := E2.lst i p ds hi
  exact ⟨p, us, (j : Int), j, rfl, dp_int hw, e4, Evl.ixN_nat (by rw [da_len e5]; exact lt), k _ (E2.upd hi (da_set j e5 (E2.nl n (dp_ex e2 hv))))⟩
/-- x op= e of ints -/
theorem s_aug {i : Nat} {f : Int → Int → Int} {a b : Int} (E : En K H0 H σ Γ X) (hi : Γ[i]? = some (.d (.int a))) (h : EvD K te σ H (.int b)) (k : ∀ H1, Ex H H1 → En K H0 H1 (σ.set i (some (.int (f a b)))) (Γ.set i (.d (.int (f a b)))) X → D.nx (σ.set i (some (.int (f a b)))) H1) : tAug i te (ipI f) D σ H := by
  obtain ⟨v, e1, e2⟩ := E.dat i _ hi
  refine ⟨v, e1, h H (Ex.refl H) _ fun w H1 e hw => ⟨a, b, dp_int e2, dp_int hw, k H1 e ?_⟩⟩
  exact (E.mono e).put (g := .d (.int (f a b))) (.int _)
theorem s_augC {i : Nat} {C : Int → Int → Prop} {f : Int → Int → Int} {a b : Int} (E : En K H0 H σ Γ X) (hi : Γ[i]? = some (.d (.int a))) (h : EvD K te σ H (.int b)) (hc : C a b) (k : ∀ H1, Ex H H1 → En K H0 H1 (σ.set i (some (.int (f a b)))) (Γ.set i (.d (.int (f a b)))) X → D.nx (σ.set i (some (.int (f a b)))) H1) : tAug i te (rI C fun i j => .int (f i j)) D σ H := by
  obtain ⟨v, e1, e2⟩ := E.dat i _ hi
  refine ⟨v, e1, h H (Ex.refl H) _ fun w H1 e hw => ⟨a, b, dp_int e2, dp_int hw, hc, k H1 e ?_⟩⟩
  exact (E.mono e).put (g := .d (.int (f a b))) (.int _)
/-- l[k] += e of ints -/
theorem s_augM {i j : Nat} {p : Addr} {a b : Int} {f : Int → Int → Int} (E : En K H0 H σ Γ X) (hi : Γ[i]? = some (.m p ds)) (hk : EvD K tb σ H (iD j)) (hj : ds[j]? = some (.int a)) (h : ∀ H1, Ex H H1 → EvD K te σ H1 (.int b))
    (k : ∀ H1, En K H0 H1 σ (Γ.set i (.m p (ds.set j (.int (f a b))))) X → D.nx σ H1) : tAugS (tVar i) tb te (rIxL K) (ipI f) rSetL D σ H := by
  obtain ⟨e1, _⟩ := E.lst i p ds hi
  refine ⟨.ref p, e1, hk H (Ex.refl H) _ fun w H1 e hw => ?_⟩
  have E1 := E.mono e
  obtain ⟨_, us, e4, e5⟩ := E1.lst i p ds hi
  obtain ⟨v, e6, e7⟩ := da_get e5 hj
  refine ⟨p, us, (j : Int), v, rfl, dp_int hw, Evl.sq_of e4, atI_nat e6, h H1 e H1 (Ex.refl H1) _ fun u H2 e2 hu => ⟨a, b, dp_int e7, dp_int hu, ?_⟩⟩
  have E2 := E1.mono e2
  obtain ⟨_, us2, e8, e9⟩ := E2.lst i p ds hi
  have lt : j < us2.length := by rw [da_len e9]; exact (List.getElem?_eq_some_iff.mp hj).1
  exact ⟨p, us2, (j : Int), j, rfl, dp_int hw, e8, Evl.ixN_nat lt, k _ (E2.upd hi (da_set j e9 (.int _)))⟩
/-! ### loops: I tells the slots at the turn -/
/-- for j in range(n) -/
theorem s_forR1 {n j : Nat} (E : En K H0 H σ Γ X) (hn : EvD K tn σ H (iD n)) (few : n ≤ 100000) (I : Nat → List G → Prop) (h0 : I 0 Γ)
    (hs : ∀ (i : Nat) (σ' : L2.St) (H' : Hp) (Γ' : List G), i < n → I i Γ' → En K H0 H' (σ'.set j (some (.int (i : Int)))) (Γ'.set j (.d (iD i))) X →
      tu { D with nx := fun σ2 H2 => ∃ Γ2, I (i + 1) Γ2 ∧ En K H0 H2 σ2 Γ2 X, ct := fun σ2 H2 => ∃ Γ2, I (i + 1) Γ2 ∧ En K H0 H2 σ2 Γ2 X, bk := D.nx } (σ'.set j (some (.int (i : Int)))) H')
    (hd : ∀ (σ' : L2.St) (H' : Hp) (Γ' : List G), I n Γ' → En K H0 H' σ' Γ' X → D.nx σ' H') : tFor (iRng1 (tCons tn tNil)) (gName j) tu D σ H := hn H (Ex.refl H) _ fun v H1 e hv => by
  refine ⟨(n : Int), by rw [dp_int hv], by omega, by omega, ?_⟩
  refine for_range (lo := 0) (n := (n : Int).toNat) (fun i σ' H' => ∃ Γ', I i Γ' ∧ En K H0 H' σ' Γ' X) ⟨Γ, h0, E.mono e⟩ (fun i σ' H' hi p => ?_) fun σ' H' p => ?_
  · obtain ⟨Γ', p1, p2⟩ := p
    have e2 : (0 : Int) + (i : Int) = (i : Int) := Int.zero_add _
    show tu _ (σ'.set j (some (.int ((0 : Int) + (i : Int))))) H'
    rw [e2]
    exact hs i σ' H' Γ' (by omega) p1 (p2.put (g := .d (iD i)) (.int _))
  · obtain ⟨Γ', p1, p2⟩ := p
    exact hd σ' H' Γ' (by simpa using p1) p2
/-- for j in range(a, b), a ≤ b -/
theorem s_forS {α : Type} {l : List α} {c : α → PyData} {j : Nat} {wi : TI} {J : Addr → It} {Gd : Addr → List V → Hp → Prop} {sd : PyData} (E : En K H0 H σ Γ X)
    (src : ∀ R : It → Hp → Prop, (∀ a H1, Ex H H1 → Dt K (mask (ms Γ) H1) (.ref a) sd → R (J a) H1) → wi σ H R)
    (get : ∀ a H1, Dt K H1 (.ref a) sd → ∃ vs, Gd a vs H1 ∧ DtAll K H1 vs (l.map c)) (walk : ∀ a vs, Walk (J a) vs.length (Gd a vs) (YAt vs)) (nl : ∀ a ∈ l, NL (c a)) (I : Nat → List G → Prop) (h0 : I 0 Γ)
    (hs : ∀ (i : Nat) (b : α) (v : V) (q : V × PyData) (σ' : L2.St) (H' : Hp) (Γ' : List G), l[i]? = some b → I i Γ' → En K H0 H' (σ'.set j (some v)) (Γ'.set j (.d (c b))) (q :: X) →
      tu { D with nx := fun σ2 H2 => ∃ Γ2, I (i + 1) Γ2 ∧ En K H0 H2 σ2 Γ2 (q :: X), ct := fun σ2 H2 => ∃ Γ2, I (i + 1) Γ2 ∧ En K H0 H2 σ2 Γ2 (q :: X), bk := D.nx } (σ'.set j (some v)) H')
    (hd : ∀ (σ' : L2.St) (H' : Hp) (Γ' : List G), I l.length Γ' → En K H0 H' σ' Γ' X → D.nx σ' H') : tFor wi (gName j) tu D σ H := src _ fun a H1 e hsd => by
  obtain ⟨vs0, g0, al0⟩ := get a H1 (dp_ex mask_le hsd)
  have len0 : vs0.length = l.length := by rw [da_len al0, List.length_map]
  let P : Nat → L2.St → Hp → Prop := fun i σ' H' => ∃ Γ', I i Γ' ∧ En K H0 H' σ' Γ' ((.ref a, sd) :: X)
  have at' : ∀ i σ' H', P i σ' H' → ∃ vs, Gd a vs H' ∧ DtAll K H' vs (l.map c) := fun i σ' H' p => by
    obtain ⟨Γ', _, p2⟩ := p
    exact get a H' (dp_ex mask_le (p2.gho (.ref a, sd) (by simp)))
  refine ⟨fun i m σ' H' => m = l.length - i ∧ i ≤ l.length ∧ P i σ' H', ⟨l.length, by simp, Nat.zero_le _, Γ, h0, (E.mono e).ghost hsd⟩, ?_⟩
  rintro i m σ' H' ⟨rfl, hi, p⟩
  obtain ⟨vs, g, al⟩ := at' i σ' H' p
  have len : vs.length = l.length := by rw [da_len al, List.length_map]
  obtain ⟨Γ', p1, p2⟩ := p
  by_cases lt : i < l.length
  · refine .inr ⟨(walk a vs).goes i H' (by omega) g, P (i + 1), fun σ2 H2 p' => ⟨l.length - (i + 1), by omega, rfl, lt, p'⟩, fun v H2 y => ?_⟩
    obtain ⟨rfl, hv⟩ := (walk a vs).yields i H' v H2 (by omega) g y
    obtain ⟨d, e2, hdv⟩ := da_get' al hv
    rw [List.getElem?_map, List.getElem?_eq_getElem lt] at e2
    have e2 : c l[i] = d := Option.some.inj e2
    subst e2
    exact hs i l[i] v (.ref a, sd) σ' H2 Γ' (List.getElem?_eq_getElem lt) p1 (p2.put (g := .d (c l[i])) (p2.nl (nl _ (List.getElem_mem lt)) hdv))
  · have e3 : i = l.length := by omega
    subst e3
    exact .inl ⟨len ▸ (walk a vs).stops H' g, hd σ' H' Γ' p1 p2.unghost⟩
/-- what a loop walks: a slot, a new list, a tuple -/
def Src (K : PySem.W.Frag) (tl : TE) (σ : L2.St) (H : Hp) (Γ : List G) (sd : PyData) : Prop := ∀ R : VK, (∀ a H1, Ex H H1 → Dt K (mask (ms Γ) H1) (.ref a) sd → R (.ref a) H1) → tl σ H R
theorem src_var {i : Nat} (E : En K H0 H σ Γ X) (hi : Γ[i]? = some (.d d)) (r : ∀ v H1, Dt K H1 v d → ∃ a, v = .ref a) : Src K (tVar i) σ H Γ d := fun R k => by
  obtain ⟨v, e1, e2⟩ := E.dat i d hi
  obtain ⟨a, rfl⟩ := r v _ e2
  exact ⟨_, e1, k a H (Ex.refl H) e2⟩
theorem src_varL {i : Nat} (E : En K H0 H σ Γ X) (hi : Γ[i]? = some (.d (.list ds))) : Src K (tVar i) σ H Γ (.list ds) := src_var E hi fun v H1 h => by
  obtain ⟨a, _, e, _⟩ := dt_lst h
  exact ⟨a, e⟩
theorem src_new (E : En K H0 H σ Γ X) (h : EvN K tl σ H ds) (n : ∀ d ∈ ds, NL d) : Src K tl σ H Γ (.list ds) := fun R k => h H (Ex.refl H) _ fun p vs H1 np e hp al => k p H1 e (E.fresh n np e hp al)
theorem src_tup (E : En K H0 H σ Γ X) (h : EvD K tl σ H (.tuple ds)) (n : NL (.tuple ds)) : Src K tl σ H Γ (.tuple ds) := fun R k => h H (Ex.refl H) _ fun v H1 e hv => by
  obtain ⟨a, _, rfl, _⟩ := dt_tup hv
  exact k a H1 e ((E.mono e).nl n hv)
theorem s_forL {α : Type} {l : List α} {c : α → PyData} {j : Nat} (E : En K H0 H σ Γ X) (src : Src K tl σ H Γ (.list (l.map c))) (nl : ∀ a ∈ l, NL (c a)) (I : Nat → List G → Prop) (h0 : I 0 Γ)
    (hs : ∀ (i : Nat) (b : α) (v : V) (q : V × PyData) (σ' : L2.St) (H' : Hp) (Γ' : List G), l[i]? = some b → I i Γ' → En K H0 H' (σ'.set j (some v)) (Γ'.set j (.d (c b))) (q :: X) →
      tu { D with nx := fun σ2 H2 => ∃ Γ2, I (i + 1) Γ2 ∧ En K H0 H2 σ2 Γ2 (q :: X), ct := fun σ2 H2 => ∃ Γ2, I (i + 1) Γ2 ∧ En K H0 H2 σ2 Γ2 (q :: X), bk := D.nx } (σ'.set j (some v)) H')
    (hd : ∀ (σ' : L2.St) (H' : Hp) (Γ' : List G), I l.length Γ' → En K H0 H' σ' Γ' X → D.nx σ' H') : tFor (iList K tl) (gName j) tu D σ H :=
  s_forS (J := Itl K) (Gd := fun a vs H => SqL K H a vs) (sd := .list (l.map c)) E (fun R k => src _ fun a H1 e h => by
    obtain ⟨a', vs, e', s, _⟩ := dt_lst (dp_ex mask_le h)
    cases e'
    exact ⟨a, rfl, ⟨vs, s⟩, k a H1 e h⟩) (fun a H1 h => by
    obtain ⟨a', vs, e', s, al⟩ := dt_lst h
    cases e'
    exact ⟨vs, s, al⟩) (fun _ _ => walk_list) nl I h0 hs hd
theorem s_forT {α : Type} {l : List α} {c : α → PyData} {j : Nat} (E : En K H0 H σ Γ X) (src : Src K tl σ H Γ (.tuple (l.map c))) (nl : ∀ a ∈ l, NL (c a)) (I : Nat → List G → Prop) (h0 : I 0 Γ)
    (hs : ∀ (i : Nat) (b : α) (v : V) (q : V × PyData) (σ' : L2.St) (H' : Hp) (Γ' : List G), l[i]? = some b → I i Γ' → En K H0 H' (σ'.set j (some v)) (Γ'.set j (.d (c b))) (q :: X) →
      tu { D with nx := fun σ2 H2 => ∃ Γ2, I (i + 1) Γ2 ∧ En K H0 H2 σ2 Γ2 (q :: X), ct := fun σ2 H2 => ∃ Γ2, I (i + 1) Γ2 ∧ En K H0 H2 σ2 Γ2 (q :: X), bk := D.nx } (σ'.set j (some v)) H')
    (hd : ∀ (σ' : L2.St) (H' : Hp) (Γ' : List G), I l.length Γ' → En K H0 H' σ' Γ' X → D.nx σ' H') : tFor (iTup K tl) (gName j) tu D σ H :=
  s_forS (J := Itt K) (Gd := fun a vs H => SqT K H a vs) (sd := .tuple (l.map c)) E (fun R k => src _ fun a H1 e h => by
    obtain ⟨a', vs, e', s, _⟩ := dt_tup (dp_ex mask_le h)
    cases e'
    exact ⟨a, rfl, ⟨vs, s.sq⟩, k a H1 e h⟩) (fun a H1 h => by
    obtain ⟨a', vs, e', s, al⟩ := dt_tup h
    cases e'
    exact ⟨vs, s.sq, al⟩) (fun _ _ => walk_tup) nl I h0 hs hd
/-- for i, j in enumerate(t) -/
theorem s_forE {α : Type} {l : List α} {c : α → PyData} {i j : Nat} (E : En K H0 H σ Γ X) (src : Src K tl σ H Γ (.tuple (l.map c))) (nl : ∀ a ∈ l, NL (c a)) (I : Nat → List G → Prop) (h0 : I 0 Γ)
    (hs : ∀ (k : Nat) (b : α) (v : V) (q : V × PyData) (σ' : L2.St) (H' : Hp) (Γ' : List G), l[k]? = some b → I k Γ' → En K H0 H' ((σ'.set i (some (.int (k : Int)))).set j (some v)) ((Γ'.set i (.d (iD k))).set j (.d (c b))) (q :: X) →
      tu { D with nx := fun σ2 H2 => ∃ Γ2, I (k + 1) Γ2 ∧ En K H0 H2 σ2 Γ2 (q :: X), ct := fun σ2 H2 => ∃ Γ2, I (k + 1) Γ2 ∧ En K H0 H2 σ2 Γ2 (q :: X), bk := D.nx } ((σ'.set i (some (.int (k : Int)))).set j (some v)) H')
    (hd : ∀ (σ' : L2.St) (H' : Hp) (Γ' : List G), I l.length Γ' → En K H0 H' σ' Γ' X → D.nx σ' H') : tFor (iEnumT K (tCons tl tNil)) (gTup K 2 (gCons (gName i) (gCons (gName j) gNil))) tu D σ H := src _ fun a H1 e hsd => by
  obtain ⟨a', vs0, ea, s0, al0⟩ := dt_tup (dp_ex mask_le hsd)
  cases ea
  let P : Nat → L2.St → Hp → Prop := fun k σ' H' => ∃ Γ', I k Γ' ∧ En K H0 H' σ' Γ' ((.ref a, .tuple (l.map c)) :: X)
  have at' : ∀ k σ' H', P k σ' H' → ∃ vs, PT H' a vs ∧ DtAll K H' vs (l.map c) := fun k σ' H' p => by
    obtain ⟨Γ', _, p2⟩ := p
    obtain ⟨_, vs, ev, s, al⟩ := dt_tup (dp_ex mask_le (p2.gho (.ref a, .tuple (l.map c)) (by simp)))
    cases ev
    exact ⟨vs, s, al⟩
  refine ⟨a, vs0, rfl, s0.sq, fun k m σ' H' => m = l.length - k ∧ k ≤ l.length ∧ P k σ' H', ⟨l.length, by simp, Nat.zero_le _, Γ, h0, (E.mono e).ghost hsd⟩, ?_⟩
  rintro k m σ' H' ⟨rfl, hk, p⟩
  obtain ⟨vs, s, al⟩ := at' k σ' H' p
  have len : vs.length = l.length := by rw [da_len al, List.length_map]
  obtain ⟨Γ', p1, p2⟩ := p
  by_cases lt : k < l.length
  · refine .inr ⟨walk_enumT.goes k H' (len ▸ lt) s.sq, P (k + 1), fun σ2 H2 p' => ⟨l.length - (k + 1), by omega, rfl, lt, p'⟩, fun v H2 y => ?_⟩
    obtain ⟨T, x, y0, rfl, hT, rfl, ex, ey⟩ := walk_enumT.yields k H' v H2 (len ▸ lt) s.sq y
    have ex : V.int (k : Int) = x := Option.some.inj ex
    subst ex
    obtain ⟨d, e2, hdv⟩ := da_get' al ey
    rw [List.getElem?_map, List.getElem?_eq_getElem lt] at e2
    have e2 : c l[k] = d := Option.some.inj e2
    subst e2
    have p3 := (p2.mono (Ex.new (o := .tup [.int (k : Int), y0]) hT)).put (i := i) (v := .int (k : Int)) (g := .d (iD k)) (.int _)
    exact ⟨T, [.int (k : Int), y0], rfl, .inl (.inl upd_same), rfl, .int (k : Int), [y0], rfl, y0, [], rfl, rfl,
      hs k l[k] y0 (.ref a, .tuple (l.map c)) σ' _ Γ' (List.getElem?_eq_getElem lt) p1 (p3.put (g := .d (c l[k])) (p3.nl (nl _ (List.getElem_mem lt)) (dp_ex (Ex.new hT) hdv)))⟩
  · have e3 : k = l.length := by omega
    subst e3
    exact .inl ⟨len ▸ walk_enumT.stops H' s.sq, hd σ' H' Γ' p1 p2.unghost⟩
/-- while -/
theorem s_while (E : En K H0 H σ Γ X) (I : Nat → List G → Prop) (m0 : Nat) (h0 : I m0 Γ)
    (hs : ∀ (m : Nat) (σ' : L2.St) (H' : Hp) (Γ' : List G), I m Γ' → En K H0 H' σ' Γ' X → ∃ b, EvT t σ' H' b ∧ (b = true → ∀ H1, En K H0 H1 σ' Γ' X → tu { D with nx := fun σ2 H2 => ∃ m2 Γ2, m2 < m ∧ I m2 Γ2 ∧ En K H0 H2 σ2 Γ2 X, ct := fun σ2 H2 => ∃ m2 Γ2, m2 < m ∧ I m2 Γ2 ∧ En K H0 H2 σ2 Γ2 X, bk := D.nx } σ' H1) ∧ (b = false → ∀ H1, En K H0 H1 σ' Γ' X → D.nx σ' H1)) : tWhile t tu D σ H :=
  Evl.s_while (fun m σ' H' => ∃ Γ', I m Γ' ∧ En K H0 H' σ' Γ' X) m0 ⟨Γ, h0, E⟩ fun m σ' H' w => by
    obtain ⟨Γ', w1, w2⟩ := w
    obtain ⟨b, hb, k1, k2⟩ := hs m σ' H' Γ' w1 w2
    exact ⟨b, hb, fun e H1 e1 => ⟨_, fun σ2 H2 ⟨m2, Γ2, a1, a2, a3⟩ => ⟨m2, a1, Γ2, a2, a3⟩, k1 e H1 (w2.mono e1)⟩, fun e H1 e1 => k2 e H1 (w2.mono e1)⟩
/-- a, b = x, y -/
theorem s_par {i j : Nat} {x y : PyData} (E : En K H0 H σ Γ X) (hx : EvD K ta σ H x) (hy : EvD K tb σ H y) (nx : NL x) (ny : NL y) (k : ∀ v w H1, En K H0 H1 ((σ.set i (some v)).set j (some w)) ((Γ.set i (.d x)).set j (.d y)) X → D.nx ((σ.set i (some v)).set j (some w)) H1) : tPar i j (tCons ta (tCons tb tNil)) D σ H :=
  hx H (Ex.refl H) _ fun v H1 e1 hv => hy H1 e1 _ fun w H2 e2 hw => ⟨v, w, rfl, by
    have E2 := E.mono (e1.trans e2)
    have E3 := E2.put (i := i) (g := .d x) (E2.nl nx (dp_ex e2 hv))
    exact k v w H2 (E3.put (g := .d y) (E3.nl ny hw))⟩
end
end Cd

set_option Elab.async false
set_option linter.all false
set_option maxRecDepth 100000
set_option maxHeartbeats 4000000
/-! E5: isinstance, sorted, sets, ranges, slices, + of sequences, t.index. -/
namespace Cd
open PySem PySem.Spec PyProof.Rows L2
open Evl (Ex EvT)
/-! ### sorted lists of numbers without repeats -/
def Asc (l : List Nat) : Prop := l.Pairwise (· < ·)
/-- the members of l, ascending, each once -/
def sortU (l : List Nat) : List Nat := (List.range (l.foldr max 0 + 1)).filter fun k => l.contains k
theorem le_foldr {l : List Nat} {k : Nat} (h : k ∈ l) : k ≤ l.foldr max 0 := by
  induction l with
  | nil => cases h
  | cons a l ih =>
    rw [List.foldr_cons]
    rcases List.mem_cons.mp h with rfl | h
    · exact Nat.le_max_left _ _
    · exact Nat.le_trans (ih h) (Nat.le_max_right _ _)
theorem mem_sortU {l : List Nat} {k : Nat} : k ∈ sortU l ↔ k ∈ l := by
  unfold sortU
  rw [List.mem_filter, List.mem_range, List.contains_iff_mem]
  exact ⟨fun h => h.2, fun h => ⟨Nat.lt_succ_of_le (le_foldr h), h⟩⟩
theorem asc_sortU (l : List Nat) : Asc (sortU l) := List.Pairwise.filter _ List.pairwise_lt_range
theorem Asc.nodup {l : List Nat} (h : Asc l) : l.Nodup := List.Pairwise.imp (fun h => Nat.ne_of_lt h) h
theorem asc_ext : ∀ {l m : List Nat}, Asc l → Asc m → (∀ k, k ∈ l ↔ k ∈ m) → l = m
  | [], [], _, _, _ => rfl
  | [], b :: m, _, _, h => absurd ((h b).mpr (by simp)) (by simp)
  | a :: l, [], _, _, h => absurd ((h a).mp (by simp)) (by simp)
  | a :: l, b :: m, hl, hm, h => by
    have h1 := List.pairwise_cons.mp hl
    have h2 := List.pairwise_cons.mp hm
    have e : a = b := by
      rcases List.mem_cons.mp ((h a).mp (by simp)) with e | e
      · exact e
      · rcases List.mem_cons.mp ((h b).mpr (by simp)) with e' | e'
        · exact e'.symm
        · have := h1.1 b e'
          have := h2.1 a e
          omega
    subst e
    rw [asc_ext h1.2 h2.2 fun k => ?_]
    constructor
    · intro hk
      rcases List.mem_cons.mp ((h k).mp (List.mem_cons_of_mem _ hk)) with e | e
      · have := h1.1 k hk
        omega
      · exact e
    · intro hk
      rcases List.mem_cons.mp ((h k).mpr (List.mem_cons_of_mem _ hk)) with e | e
      · have := h2.1 k hk
        omega
      · exact e
theorem asc_range (n : Nat) : Asc (List.range n) := List.pairwise_lt_range
/-- ints that are all natural -/
theorem nat_list {ns : List Int} {l : List Nat} (h : ∀ k ∈ ns, ∃ n : Nat, k = (n : Int)) : ∃ m : List Nat, ns = m.map fun n : Nat => (n : Int) := by
  induction ns with
  | nil => exact ⟨[], rfl⟩
  | cons k ns ih =>
    obtain ⟨m, e⟩ := ih fun k hk => h k (by simp [hk])
    obtain ⟨n, e'⟩ := h k (by simp)
    exact ⟨n :: m, by rw [e, e', List.map_cons]⟩
theorem map_iD (l : List Nat) : (l.map fun n : Nat => (n : Int)).map PyData.int = l.map iD := by rw [List.map_map] <;> rfl
section
variable {K : PySem.W.Frag} {H0 H H' : Hp} {σ : L2.St} {ta tb te tl tn : TE} {t u tt : TT} {x y z d : PyData} {ds es : List PyData} {Γ : List G}
theorem da_nat {vs : List V} {l : List Nat} (h : DtAll K H vs (l.map iD)) : vs = (l.map fun n : Nat => (n : Int)).map V.int := da_ints (by rw [map_iD]; exact h)
theorem nat_da (l : List Nat) : DtAll K H ((l.map fun n : Nat => (n : Int)).map V.int) (l.map iD) := by
  have := ints_da (K := K) (H := H) (l.map fun n : Nat => (n : Int))
  rw [map_iD] at this
  exact this
/-! ### isinstance -/
def tyD : PyData → String
  | .none => "NoneType"
  | .bool _ => "bool"
  | .int _ => "int"
  | .str _ => "str"
  | .list _ => "list"
  | .tuple _ => "tuple"
  | .dict _ => "dict"
theorem tyX_dt {v : V} (h : Dt K H v d) : TyX K H v (.type (tyD d)) := by
  cases h with
  | non => exact .base .non
  | bl b => exact .base (.bl b)
  | int i => exact .base (.int i)
  | str s => exact .base (.str s)
  | lst s _ =>
    rcases s with (s | ⟨o, s⟩) | ⟨o, its, n, k, c, _⟩
    · exact .base (.lst s)
    · exact .base (.frz s)
    · exact .kList k c
  | tup s _ =>
    obtain ⟨o, _, e⟩ := s
    exact .fTuple e
theorem ev_isi {T : String} {b : Bool} (h : EvD K ta σ H x) (k : kitB (tyD x) T = some b) : EvD K (tCB (rIsi K) (tCons ta (tCons (tC (.ty T)) tNil))) σ H (.bool b) := fun H1 e Q q =>
  h H1 e _ fun v H2 e2 hv => ⟨v, .ty T, .type (tyD x), .type T, b, rfl, .ty T, tyX_dt hv, kit_ty k, q _ H2 e2 (.bl b)⟩
/-- of any value whose type is known -/
theorem ev_isiV {T ty : String} {b : Bool} {v : V} (hv : ∀ H1, Ex H H1 → ∀ Q : VK, Q v H1 → ta σ H1 Q) (hx : ∀ H1, Ex H H1 → TyX K H1 v (.type ty)) (k : kitB ty T = some b) : EvD K (tCB (rIsi K) (tCons ta (tCons (tC (.ty T)) tNil))) σ H (.bool b) := fun H1 e Q q =>
  hv H1 e _ ⟨v, .ty T, .type ty, .type T, b, rfl, .ty T, hx H1 e, kit_ty k, q _ H1 (Ex.refl H1) (.bl b)⟩
/-! ### sorted -/
theorem ints_nat {l : List Nat} {ns : List Int} (h : ns.Perm (l.map fun n : Nat => (n : Int))) : ∃ m : List Nat, ns = m.map (fun n : Nat => (n : Int)) ∧ m.Perm l := by
  obtain ⟨m, e⟩ := nat_list (l := l) (ns := ns) fun k hk => by
    obtain ⟨n, _, e⟩ := List.mem_map.mp (h.mem_iff.mp hk)
    exact ⟨n, e.symm⟩
  refine ⟨m, e, ?_⟩
  rw [e] at h
  have h2 := h.map Int.toNat
  rw [List.map_map, List.map_map] at h2
  have id' : (Int.toNat ∘ fun n : Nat => (n : Int)) = id := by funext n; simp
  rw [id', List.map_id, List.map_id] at h2
  exact h2
/-- sorted(t): the numbers of a tuple, rising -/
theorem ev_sortT {l m : List Nat} (h : EvD K ta σ H (tD l)) (few : l.length < 64) (hm : ∀ m' : List Nat, m'.Perm l → m'.Pairwise (· ≤ ·) → m' = m) : EvN K (tCB (rSortTI K) (tCons ta tNil)) σ H (m.map iD) := ev_cbN h fun v H1 _ hv Q q => by
  obtain ⟨a, vs, rfl, s, al⟩ := dt_tup hv
  have e := da_nat al
  subst e
  refine ⟨a, l.map fun n : Nat => (n : Int), rfl, s.sq, by simpa using few, fun ns' p pm pw np => ?_⟩
  obtain ⟨m', e, pm'⟩ := ints_nat pm
  subst e
  have pw' : m'.Pairwise (· ≤ ·) := (List.pairwise_map.mp pw).imp fun h => by omega
  have e := hm m' pm' pw'
  subst e
  exact q p _ _ np (Ex.new np) upd_same (nat_da m')
theorem ev_sortL {l m : List Nat} (h : EvD K ta σ H (lD l)) (few : l.length < 64) (hm : ∀ m' : List Nat, m'.Perm l → m'.Pairwise (· ≤ ·) → m' = m) : EvN K (tCB (rSorted K) (tCons ta tNil)) σ H (m.map iD) := ev_cbN h fun v H1 _ hv Q q => by
  obtain ⟨a, vs, rfl, s, al⟩ := dt_lst hv
  have e := da_nat al
  subst e
  refine ⟨a, l.map fun n : Nat => (n : Int), rfl, s, by simpa using few, fun ns' p pm pw np => ?_⟩
  obtain ⟨m', e, pm'⟩ := ints_nat pm
  subst e
  have pw' : m'.Pairwise (· ≤ ·) := (List.pairwise_map.mp pw).imp fun h => by omega
  have e := hm m' pm' pw'
  subst e
  exact q p _ _ np (Ex.new np) upd_same (nat_da m')
theorem asc_sorted {l m : List Nat} (n : l.Nodup) (p : m.Perm l) (w : m.Pairwise (· ≤ ·)) : m = sortU l := by
  refine asc_ext ?_ (asc_sortU l) fun k => by rw [mem_sortU]; exact p.mem_iff
  exact List.Pairwise.imp₂ (fun a b h1 h2 => Nat.lt_of_le_of_ne h1 h2) w (p.nodup_iff.mpr n)
/-- sorted(set(xs)) of numbers -/
theorem ev_sortSet {w : World} {l : List Nat} (h : EvD K ta σ H (lD l)) (few : l.length < 64) : EvN K (tCB (rSortedSet w) (tCons (tCB (rSetLI K w) (tCons ta tNil)) tNil)) σ H ((sortU l).map iD) := fun H1 e Q q =>
  h H1 e _ fun v H2 e2 hv => by
    obtain ⟨a, vs, rfl, s, al⟩ := dt_lst hv
    have ev := da_nat al
    subst ev
    refine ⟨a, l.map fun n : Nat => (n : Int), rfl, s, by simpa using few, fun b c nb hc => ?_⟩
    rw [List.length_map] at hc
    refine ⟨b, _, c, rfl, upd_same, by omega, fun ns p pw mem _ np => ?_⟩
    obtain ⟨m, em⟩ := nat_list (l := l) (ns := ns) fun k hk => by
      have := of_decide_eq_true ((mem k).mp hk)
      obtain ⟨n, _, e⟩ := List.mem_map.mp this
      exact ⟨n, e.symm⟩
    subst em
    have em : m = sortU l := asc_ext ((List.pairwise_map.mp pw).imp fun h => by omega) (asc_sortU l) fun k => by
      rw [mem_sortU]
      have := mem (k : Int)
      simp only [decide_eq_true_iff, List.mem_map] at this
      constructor
      · intro hk
        obtain ⟨n, hn, e⟩ := this.mp ⟨k, hk, rfl⟩
        have : n = k := by omega
        exact this ▸ hn
      · intro hk
        obtain ⟨n, hn, e⟩ := this.mpr ⟨k, hk, rfl⟩
        have : n = k := by omega
        exact this ▸ hn
    subst em
    have nb2 := Evl.fresh_back (Ex.new (o := SetO w b (fun j => decide (j ∈ l.map fun n : Nat => (n : Int))) c) nb) np
    exact q p _ _ (Evl.fresh_back e2 nb2) (e2.trans ((Ex.new nb).trans (Ex.new np))) upd_same (nat_da _)
/-! ### ranges -/
theorem rgV_nat (a b : Nat) (h : a ≤ b) : rgV (a : Int) (b : Int) = ((List.range' a (b - a)).map fun n : Nat => (n : Int)).map V.int := by
  unfold rgV
  have e : ((b : Int) - (a : Int)).toNat = b - a := by omega
  rw [e, List.range'_eq_map_range, List.map_map, List.map_map]
  refine List.map_congr_left fun i _ => ?_
  show V.int ((a : Int) + (i : Int)) = V.int ((a + i : Nat) : Int)
  rw [Int.natCast_add]
theorem ev_listR1 {n : Nat} (h : EvD K ta σ H (iD n)) (few : n ≤ 1000) : EvN K (tLstRg (tRg1 ta)) σ H ((List.range n).map iD) := fun H1 e Q q =>
  h H1 e _ fun v H2 e2 hv => ⟨(n : Int), dp_int hv, .of_le (by omega) (by omega) (by omega) (by omega), fun p np => by
    have := rgV_nat 0 n (Nat.zero_le _)
    rw [Nat.sub_zero, ← List.range_eq_range'] at this
    rw [show (0 : Int) = ((0 : Nat) : Int) from rfl, this]
    exact q p _ _ (Evl.fresh_back e2 np) (e2.trans (Ex.new np)) upd_same (nat_da _)⟩
theorem ev_listR2 {a b : Nat} (ha : EvD K ta σ H (iD a)) (hb : EvD K tb σ H (iD b)) (le : a ≤ b) (few : b ≤ 1000) : EvN K (tLstRg (tRg2 ta tb)) σ H ((List.range' a (b - a)).map iD) := fun H1 e Q q =>
  ha H1 e _ fun v H2 e2 hv => hb H2 (e.trans e2) _ fun w H3 e3 hw => ⟨(a : Int), (b : Int), dp_int hv, dp_int hw, .of_le (by omega) (by omega) (by omega) (by omega), fun p np => by
    rw [rgV_nat a b le]
    exact q p _ _ (Evl.fresh_back (e2.trans e3) np) ((e2.trans e3).trans (Ex.new np)) upd_same (nat_da _)⟩
theorem ev_tupR1 {n : Nat} (h : EvD K ta σ H (iD n)) (few : n ≤ 1000) : EvD K (tTupRgP (tRg1 ta)) σ H (tD (List.range n)) := fun H1 e Q q =>
  h H1 e _ fun v H2 e2 hv => ⟨(n : Int), dp_int hv, .of_le (by omega) (by omega) (by omega) (by omega), by
    have := rgV_nat 0 n (Nat.zero_le _)
    rw [Nat.sub_zero, ← List.range_eq_range'] at this
    rw [show (0 : Int) = ((0 : Nat) : Int) from rfl, this]
    exact newT_dt (nat_da _) fun w H3 e3 hw => q w H3 (e2.trans e3) hw⟩
/-! ### numbers -/
theorem ev_min2 {i j : Int} (ha : EvD K ta σ H (.int i)) (hb : EvD K tb σ H (.int j)) : EvD K (tCB (fun xs H Q => ∃ i j, xs = [.int i, .int j] ∧ Q (.int (if j < i then j else i)) H) (tCons ta (tCons tb tNil))) σ H (.int (if j < i then j else i)) := fun H1 e Q q =>
  ha H1 e _ fun v H2 e2 hv => hb H2 (e.trans e2) _ fun w H3 e3 hw => ⟨i, j, by rw [dp_int hv, dp_int hw], q _ H3 (e2.trans e3) (.int _)⟩
theorem ev_int1 {i : Int} (ha : EvD K ta σ H (.int i)) : EvD K (tCB (fun xs H Q => (∃ i, xs = [.int i] ∧ Q (.int i) H) ∨ ∃ k, xs = [.bl k] ∧ Q (.int (if k then 1 else 0)) H) (tCons ta tNil)) σ H (.int i) := ev_cb ha fun v H1 _ hv Q q => .inl ⟨i, by rw [dp_int hv], q _ H1 (Ex.refl H1) (.int i)⟩
/-! ### slices, sums of sequences -/
def cutD (ds : List PyData) (lo hi : Option Int) : List PyData := (ds.drop (HT.sIx ds.length 0 lo)).take (HT.sIx ds.length ds.length hi - HT.sIx ds.length 0 lo)
theorem da_cut {vs : List V} {lo hi : Option Int} (h : DtAll K H vs ds) : DtAll K H (cutV vs lo hi) (cutD ds lo hi) := by
  unfold cutV cutD
  rw [da_len h]
  exact da_take _ (da_drop _ h)
theorem whole_cut {lo hi : Option Int} (h : HT.sIx ds.length 0 lo = 0 ∧ HT.sIx ds.length ds.length hi = ds.length) : cutD ds lo hi = ds := by
  unfold cutD
  rw [h.1, h.2, List.drop_zero, Nat.sub_zero, List.take_length]
def EvO (to : TO) (σ : L2.St) (H : Hp) (o : Option Int) : Prop := ∀ H1, Ex H H1 → ∀ Q : Option Int → Hp → Prop, (∀ H2, Ex H1 H2 → Q o H2) → to σ H1 Q
theorem eo_none : EvO tNoPart σ H none := fun H1 _ _ q => q H1 (Ex.refl H1)
theorem eo_some {i : Int} (h : EvD K te σ H (.int i)) : EvO (tPart te) σ H (some i) := fun H1 e _ q => h H1 e _ fun v H2 e2 hv => ⟨i, dp_int hv, q H2 e2⟩
theorem ev_slT {lo hi : TO} {l h : Option Int} (ht : EvD K ta σ H (.tuple ds)) (hl : EvO lo σ H l) (hh : EvO hi σ H h) : EvD K (tSl rSlP ta lo hi) σ H (.tuple (cutD ds l h)) := fun H1 e Q q =>
  ht H1 e _ fun v H2 e2 hv => hl H2 (e.trans e2) _ fun H3 e3 => hh H3 ((e.trans e2).trans e3) _ fun H4 e4 => by
    have hv4 := dp_ex (e3.trans e4) hv
    obtain ⟨a, vs, rfl, s, al⟩ := dt_tup hv4
    have len := da_len al
    refine ⟨a, vs, rfl, s, fun w => ?_, fun _ => newT_dt (da_cut al) fun w H5 e5 hw => q w H5 (((e2.trans e3).trans e4).trans e5) hw⟩
    rw [len] at w
    have c := whole_cut w
    exact q _ H4 ((e2.trans e3).trans e4) (by rw [c]; exact hv4)
theorem ev_slL {lo hi : TO} {l h : Option Int} (ht : EvD K ta σ H (.list ds)) (hl : EvO lo σ H l) (hh : EvO hi σ H h) : EvN K (tSl (rSlL K) ta lo hi) σ H (cutD ds l h) := fun H1 e Q q =>
  ht H1 e _ fun v H2 e2 hv => hl H2 (e.trans e2) _ fun H3 e3 => hh H3 ((e.trans e2).trans e3) _ fun H4 e4 => by
    have hv4 := dp_ex (e3.trans e4) hv
    obtain ⟨a, vs, rfl, s, al⟩ := dt_lst hv4
    exact ⟨a, vs, rfl, s, fun p np => q p _ _ (Evl.fresh_back ((e2.trans e3).trans e4) np) (((e2.trans e3).trans e4).trans (Ex.new np)) upd_same (da_ex (Ex.new np) (da_cut al))⟩
theorem ev_catT (ha : EvD K ta σ H (.tuple ds)) (hb : EvD K tb σ H (.tuple es)) (few : ds.length + es.length ≤ 1000) : EvD K (tOp rCatP ta tb) σ H (.tuple (ds ++ es)) :=
  ev_op ha hb fun u v H1 _ hu hv Q q => by
    obtain ⟨a, vs, rfl, s, al⟩ := dt_tup hu
    obtain ⟨b, ws, rfl, s2, al2⟩ := dt_tup hv
    have l1 := da_len al
    have l2 := da_len al2
    refine ⟨a, b, vs, ws, rfl, rfl, s, s2, by rw [l1, l2]; exact Evl.sz_of (by omega), fun e => ?_, fun _ e => ?_, fun _ _ => newT_dt (da_app al al2) q⟩
    · have : ds = [] := List.length_eq_zero_iff.mp (by rw [← l1, e]; rfl)
      subst this
      exact q _ H1 (Ex.refl H1) hv
    · have : es = [] := List.length_eq_zero_iff.mp (by rw [← l2, e]; rfl)
      subst this
      exact q _ H1 (Ex.refl H1) (by rw [List.append_nil]; exact hu)
/-- xs + ys of lists that the text has made -/
theorem ev_catL (hx : ∀ H1, Ex H H1 → ∀ Q : VK, (∀ p vs H2, Ex H1 H2 → H2 p = some (.lst vs) → DtAll K H2 vs ds → Q (.ref p) H2) → ta σ H1 Q) (hb : EvN K tb σ H es) (few : ds.length + es.length ≤ 1000) : EvN K (tOp rCat ta tb) σ H (ds ++ es) := fun H1 e Q q =>
  hx H1 e _ fun p vs H2 e2 hp al => hb H2 (e.trans e2) _ fun r ws H3 nr e3 hr al2 => by
    have al3 := da_ex e3 al
    refine ⟨p, r, vs, ws, rfl, rfl, e3 _ _ hp, hr, by rw [da_len al3, da_len al2]; exact Evl.sz_of (by omega), fun l nl => ?_⟩
    exact q l _ _ (Evl.fresh_back (e2.trans e3) nl) ((e2.trans e3).trans (Ex.new nl)) upd_same (da_ex (Ex.new nl) (da_app al3 al2))
theorem ev_rep {n : Nat} (hx : EvN K ta σ H ds) (hb : EvD K tb σ H (iD n)) (few : ds.length * n ≤ 1000) (k : ∀ vs H1 l, DtAll K H1 vs ds → DtAll K (upd H1 l (.lst (List.replicate n vs).flatten)) (List.replicate n vs).flatten es) :
    ∀ r : R2, (∀ p m vs H1 (Q : VK), H1 p = some (.lst vs) → (vs.length * m ≤ 1000) → (∀ l, H1 l = none → Q (.ref l) (upd H1 l (.lst (List.replicate m vs).flatten))) → r (.ref p) (.int (m : Int)) H1 Q) → EvN K (tOp r ta tb) σ H es := fun r hr H1 e Q q =>
  hx H1 e _ fun p vs H2 np e2 hp al => hb H2 (e.trans e2) _ fun w H3 e3 hw => by
    rw [dp_int hw]
    exact hr p n vs H3 Q (e3 _ _ hp) (by rw [da_len al]; exact few) fun l nl => q l _ _ (Evl.fresh_back (e2.trans e3) nl) ((e2.trans e3).trans (Ex.new nl)) upd_same (k vs H3 l (da_ex e3 al))
/-- t.index(k) of unlike numbers -/
theorem ev_ixm {l : List Nat} {a j : Nat} (ht : EvD K ta σ H (tD l)) (hk : EvD K tb σ H (iD a)) (hj : l[j]? = some a) (first : ∀ m, m < j → l[m]? ≠ some a) : EvD K (tIxm K ta (tCons tb tNil)) σ H (iD j) := fun H1 e Q q =>
  ht H1 e _ fun v H2 e2 hv => by
    obtain ⟨b, vs, rfl, s, al⟩ := dt_tup hv
    refine ⟨⟨b, vs, rfl, s⟩, hk H2 (e.trans e2) _ fun w H3 e3 hw => ?_⟩
    have ev := da_nat al
    subst ev
    refine ⟨b, l.map fun n : Nat => (n : Int), (a : Int), j, rfl, by rw [dp_int hw], (s.ex e3).sq, by rw [List.getElem?_map, hj] <;> rfl, fun m lt h => ?_, q _ H3 (e2.trans e3) (.int _)⟩
    rw [List.getElem?_map] at h
    cases hm : l[m]? with
    | none => rw [hm] at h; cases h
    | some c =>
      rw [hm] at h
      have : (c : Int) = (a : Int) := Option.some.inj h
      have : c = a := by omega
      exact first m lt (by rw [hm, this])
end
end Cd

set_option Elab.async false
set_option linter.all false
set_option maxRecDepth 100000
set_option maxHeartbeats 4000000
/-! K7: the rules with the written part named (within a comprehension the context is bound). -/
namespace Cd
open PySem PySem.Spec PyProof.Rows L2
section
variable {X : Cx} {K : PySem.W.Frag} {P : Program} {w : World}
theorem pg_lst' (e : X.K = K) : PGet X (rIxL K) := e ▸ pg_lst
theorem ix_list' (e : X.K = K) : IxR X (rIxL K) := e ▸ ix_list
theorem ix_tup' (e : X.K = K) : IxR X (rIxT K) := e ▸ ix_tup
theorem op_in' (e : X.K = K) : OpR X (compareOp .In) (rIn K false) := e ▸ op_in_seq
theorem op_ni' (e : X.K = K) : OpR X (compareOp .NotIn) (rIn K true) := e ▸ op_notIn_seq
theorem op_inDT' (e : X.K = K) (hu : X.A.units + 65 < cLine) : OpR X (compareOp .In) (rInDT K false) := e ▸ op_inDT hu
theorem op_niDT' (e : X.K = K) (hu : X.A.units + 65 < cLine) : OpR X (compareOp .NotIn) (rInDT K true) := e ▸ op_niDT hu
theorem op_inD' (e : X.K = K) (hu : X.A.units + 65 < cLine) : OpR X (compareOp .In) (rInD K) := e ▸ op_inD hu
theorem op_niD' (e : X.K = K) (hu : X.A.units + 65 < cLine) : OpR X (compareOp .NotIn) (rNotInD K) := e ▸ op_notInD hu
theorem op_eqD' (e : X.K = K) (hu : X.A.units + 64 < cLine) : OpR X (compareOp .Eq) (rEqD K) := e ▸ op_eqD hu
theorem op_neD' (e : X.K = K) (hu : X.A.units + 64 < cLine) : OpR X (compareOp .NotEq) (rNeD K) := e ▸ op_neD hu
theorem c_len (e : X.K = K) : CallR X (.builtin "len") (rLen K) := e ▸ call_len_seq
theorem c_list (e : X.K = K) : CallR X (.type "list") (rList K) := e ▸ call_list_of
theorem c_tup (e : X.K = K) : CallR X (.type "tuple") (rTupP K) := e ▸ cr_tupP
theorem c_isi (e : X.K = K) : CallR X (.builtin "isinstance") (rIsi K) := e ▸ call_isi
theorem c_isiT (e : X.K = K) : CallR X (.builtin "isinstance") (rIsiT K) := e ▸ call_isiT
theorem c_sortTI (e : X.K = K) : CallR X (.builtin "sorted") (rSortTI K) := e ▸ cr_sortTI
theorem c_sortL (e : X.K = K) : CallR X (.builtin "sorted") (rSorted K) := e ▸ cr_sorted
theorem c_sortSet (e : X.w = w) (hc : X.calm = true) : CallR X (.builtin "sorted") (rSortedSet w) := e ▸ cr_sortedSet hc
theorem c_sortSetT (e : X.K = K) (e2 : X.prog = P) (e3 : X.w = w) (hc : X.calm = true) : CallR X (.builtin "sorted") (rSortedT K P w) := by
  subst e e2 e3
  exact cr_sortedT hc
theorem c_setL (e : X.K = K) (e3 : X.w = w) (hc : X.calm = true) : CallR X (.type "set") (rSetLI K w) := by
  subst e e3
  exact cr_setLI hc
theorem c_setTT (e : X.K = K) (e2 : X.prog = P) (e3 : X.w = w) (hc : X.calm = true) (hu : X.A.units + 64 < cLine) : CallR X (.type "set") (rSetTT K P w) := by
  subst e e2 e3
  exact cr_setTT hc hu
theorem c_setLT (e : X.K = K) (e2 : X.prog = P) (e3 : X.w = w) (hc : X.calm = true) (hu : X.A.units + 64 < cLine) : CallR X (.type "set") (rSetOfT K P w) := by
  subst e e2 e3
  exact cr_setOfT hc hu
theorem sl_list' (e : X.K = K) : SlR X (rSlL K) := e ▸ sl_list
theorem pi_list' {tg l : Expr} {tl : TE} (e : X.K = K) (hl : PE X l tl) : PI X tg l (iList K tl) := e ▸ pi_list hl
theorem pi_tup' {tg l : Expr} {tl : TE} (e : X.K = K) (hl : PE X l tl) : PI X tg l (iTup K tl) := e ▸ pi_tup hl
theorem pi_enumT' {e : Expr} {ta : TA} {p pos tpos : Pos} {elts : List Expr} {kk : Nat} (eK : X.K = K) (hg : Gl X "enumerate") (hm : X.mg "enumerate" = none) (ha : PA X [e] ta) (hs : starEach [e] X.env = [(false, eval e X.env)] := by rfl) :
    PI X (.Tuple elts kk tpos) (.Call (.Name "enumerate" p) [e] [] pos) (iEnumT K ta) := eK ▸ pi_enumT hg hm ha hs
theorem pg_tup' {es : List Expr} {k : Nat} {t : TGs} {n : Nat} {pos : Pos} (eK : X.K = K) (hc : X.calm = true) (h : PGs X es t) (hn : (assignEach es X.env).length = n := by rfl) (hst : (assignEach es X.env).findIdx? (·.1) = none := by rfl) :
    PG X (.Tuple es k pos) (gTup K n t) := eK ▸ pg_tup hc h hn hst
theorem pe_ixm' {o e : Expr} {es : List Expr} {to : TE} {t : TA} {apos cpos : Pos} (eK : X.K = K) (ho : PE X o to) (ha : PA X (e :: es) t)
    (hbase : attributeBase o "index" X.env (eval o X.env) = eval o X.env := by rfl)
    (hfew : ((backTo cpos (starEach (e :: es) X.env)).all (fun x => !x.1) && (backToKw cpos (keywordEach [] X.env)).all (fun x => x.1.isSome)
      && decide ((e :: es).length + ([] : List Keyword).length + (if ([] : List Keyword).isEmpty then 0 else 1) < 30)) = true := by rfl)
    (hline : (apos.endLine == cpos.line) = true := by rfl) (hs : starEach (e :: es) X.env = (false, eval e X.env) :: starEach es X.env := by rfl) (hplain : (backTo cpos (starEach es X.env)).any (·.1) = false := by rfl) :
    PE X (.Call (.Attribute o "index" apos) (e :: es) [] cpos) (tIxm K to t) := eK ▸ pe_ixm ho ha hbase hfew hline hs hplain
theorem pe_app {o e : Expr} {es : List Expr} {to : TE} {t : TA} {apos cpos : Pos} (eK : X.K = K) (ho : PE X o to) (ha : PA X (e :: es) t)
    (hbase : attributeBase o "append" X.env (eval o X.env) = eval o X.env := by rfl)
    (hfew : ((backTo cpos (starEach (e :: es) X.env)).all (fun x => !x.1) && (backToKw cpos (keywordEach [] X.env)).all (fun x => x.1.isSome)
      && decide ((e :: es).length + ([] : List Keyword).length + (if ([] : List Keyword).isEmpty then 0 else 1) < 30)) = true := by rfl)
    (hline : (apos.endLine == cpos.line) = true := by rfl) (hs : starEach (e :: es) X.env = (false, eval e X.env) :: starEach es X.env := by rfl) (hplain : (backTo cpos (starEach es X.env)).any (·.1) = false := by rfl) :
    PE X (.Call (.Attribute o "append" apos) (e :: es) [] cpos) (tBM K "list" rAppend to t) := eK ▸ pe_bm PySem.F.plainAttrs_list PySem.F.slot_list_append PySem.F.type_list_append mt_append ho ha hbase hfew hline hs hplain
end
end Cd

set_option Elab.async false
set_option linter.all false
set_option maxRecDepth 100000
set_option maxHeartbeats 4000000
/-! D0: the text's defs; a def with its promise, as its callers see it. -/
namespace Cd
open PySem PySem.Spec PyProof.Rows L2
open Evl (Ex EvT)
def topS (i : Nat) : Stmt := PySem.Challenge.pw_countdoors_k35_whole_third_orders.main.body.getD i (.Pass ⟨0, 0, 0, 0⟩)
/-- the built-ins that the text calls are the built-ins; the two constants -/
structure Bl (mg : Str → Option Value) : Prop where
  len : mg "len" = none
  range : mg "range" = none
  tuple : mg "tuple" = none
  list : mg "list" = none
  sorted : mg "sorted" = none
  set : mg "set" = none
  enumerate : mg "enumerate" = none
  isinstance : mg "isinstance" = none
  min : mg "min" = none
  int : mg "int" = none
  bool : mg "bool" = none
  str : mg "str" = none
  doors : ∃ t, mg "MOST_DOORS" = some (.int 9 t)
  told : ∃ t, mg "MOST_TOLD" = some (.int 12 t)
/-- the name x of the module holds a def that keeps the promise sp -/
def Kd (P : Program) (w : World) (K : PySem.W.Frag) (mg : Str → Option Value) (base : Heap) (x : Str) (k : Nat) (ps : List Str) (sp : Sp) : Prop :=
  ∃ (f : Addr) (fd : FuncData), FnOk P w K mg base CX0 k f fd ps sp ∧ mg x = some (.ref f) ∧ PySem.W.keepIn K (.ref f) = true ∧ Binds K fd ps []
theorem pe_kd {X : Cx} {k j : Nat} {ps : List Str} {sp : Sp} {x : Str} {p pos : Pos} {e : Expr} {es : List Expr} {t : TA} (D : Kd X.prog X.w X.K X.mg X.base x k ps sp) (hr : Room j X.A) (hk : k ≤ j) (hg : Gl X x) (ha : PA X (e :: es) t)
    (hdb : (x == ("__debug__" : Str)) = false := by decide) (he : starEach (e :: es) X.env = (false, eval e X.env) :: starEach es X.env := by rfl) (hpl : (backTo pos (starEach es X.env)).any (·.1) = false := by rfl) :
    PE X (.Call (.Name x p) (e :: es) [] pos) (tCall sp [] E0 t) := by
  obtain ⟨f, fd, F, m, kp, b⟩ := D
  exact pe_call F (hr.mono hk) hg m kp b .nil pass0 ha hdb he hpl
theorem hu65 {k : Nat} {A : Around} (r : Room k A) : A.units + 65 < cLine := by have := r.un; omega
/-- a data promise -/
def SpOf (K : PySem.W.Frag) (R : List PyData → PyData → Prop) : Sp := fun vs H Q _ => ∃ ds d, R ds d ∧ DtAll K H vs ds ∧ RetD K d H Q
def SpNew (K : PySem.W.Frag) (R : List PyData → List PyData → Prop) : Sp := fun vs H Q _ => ∃ ds es, R ds es ∧ DtAll K H vs ds ∧ RetN K es H Q
theorem pe_true {X : Cx} {a : Expr} {ta : TE} {j : Nat} {pos pos' : Pos} (ha : PE X a ta) : PE X (.Compare a [.Is] [.Constant (.bool true) j pos'] pos) (tOp (fun x y H Q => ∃ a b, x = .bl a ∧ y = .bl b ∧ Q (.bl (decide (a = b))) H) ta (tC (.bl true))) := pe_cmpR op_is_bl ha pe_bl (nomark _)
theorem env_go {K : PySem.W.Frag} {H : Hp} {N : List Str} {vs : List V} {ds : List PyData} (h : DtAll K H vs ds) (lt : Nat.ble ds.length N.length = true := by rfl) : En K H H (L2.start N vs) (ds.map G.d ++ List.replicate (N.length - ds.length) G.no) [] := env_start h (by rw [da_len h]; exact Nat.le_of_ble_eq_true lt)
theorem kit_ii : kitB "int" "int" = some true := by decide +kernel
theorem kit_ib : kitB "int" "bool" = some false := by decide +kernel
theorem kit_bi : kitB "bool" "int" = some true := by decide +kernel
theorem kit_bb : kitB "bool" "bool" = some true := by decide +kernel
theorem kit_tt : kitB "tuple" "tuple" = some true := by decide +kernel
theorem kit_it : kitB "int" "tuple" = some false := by decide +kernel
theorem kit_lt : kitB "list" "tuple" = some false := by decide +kernel
theorem kit_st : kitB "str" "tuple" = some false := by decide +kernel
theorem kit_dt : kitB "dict" "tuple" = some false := by decide +kernel
theorem kit_nt : kitB "NoneType" "tuple" = some false := by decide +kernel
theorem kit_bt : kitB "bool" "tuple" = some false := by decide +kernel
theorem kit_bl : kitB "bool" "list" = some false := by decide +kernel
theorem kit_bs : kitB "bool" "str" = some false := by decide +kernel
end Cd

set_option Elab.async false
set_option linter.all false
set_option maxRecDepth 100000
set_option maxHeartbeats 4000000
namespace Cd
open PySem PySem.Spec PyProof.Rows L2
open Evl (Ex EvT)
section
variable {P : Program} {w : World} {K : PySem.W.Frag} {mg : Str → Option Value} {base : Heap}
abbrev s_is_in : Stmt := topS 5
abbrev N_is_in : List Str := ["value", "least", "most"]
theorem sc_is_in : FnScope N_is_in ["value", "least", "most"] (defScope s_is_in) := ⟨rfl, rfl, rfl, by decide +kernel, rfl, by decide +kernel, by decide +kernel⟩
/-- whether data is an int in a range -/
def isInD (i j : Int) : PyData → Bool
  | .int z => decide (i ≤ z) && decide (z ≤ j)
  | _ => false
def spIsIn (K : PySem.W.Frag) : Sp := fun vs H Q _ => ∃ x i j, ((∃ z, x = .int z) ∨ ∃ b, x = .bool b) ∧ DtAll K H vs [x, .int i, .int j] ∧ RetD K (.bool (isInD i j x)) H Q
theorem ok_is_in {f : Addr} {fd : FuncData} (F : Fun K "is_in" "is_in" s_is_in f fd) (B : Bl mg) : FnOk P w K mg base CX0 1 f fd ["value", "least", "most"] (spIsIn K) := by
  refine F.ok sc_is_in (fun vs H Q E h => ?_) (fun cdv A outer s H vs Q E hr h => ?_)
  · obtain ⟨x, i, j, hx, al, q⟩ := h
    exact da_len al
  · obtain ⟨x, i, j, hx, al, q⟩ := h
    refine ⟨_, (pss_one (ps_ret (pe_and (pe_callB (c_isi (K := K) rfl) (by rfl) B.isinstance (by decide +kernel) (pa_cons (pv 0) (pa_cons (pe_bltn (v := .ty "int") (by rfl) B.int (by decide +kernel) rfl) pa_nil))) (pe_and (pe_not (pe_callB (c_isi (K := K) rfl) (by rfl) B.isinstance (by decide +kernel) (pa_cons (pv 0) (pa_cons (pe_bltn (v := .ty "bool") (by rfl) B.bool (by decide +kernel) rfl) pa_nil)))) (pe_one (pe_chain op_le op_le (pv 1) (pv 0) (pv 2))))))), ?_⟩
    have E0 := env_go (N := N_is_in) al
    rcases hx with ⟨z, rfl⟩ | ⟨b, rfl⟩
    · exact s_ret E0 ((ev_and (ev_isi (ev_var E0.va rfl) kit_ii) fun _ => ev_and (ev_not (ev_isi (ev_var E0.va rfl) kit_ib)) fun _ => ev_lele (ev_var E0.va rfl) (ev_var E0.va rfl) (ev_var E0.va rfl))) q
    · have v0 : EvD K (tVar 0) _ H (.bool b) := ev_var E0.va rfl
      exact s_ret E0 (ev_and (b := false) (ev_isi v0 kit_bi) fun _ => ev_and (a := false) (b := false) (ev_not (ev_isi v0 kit_bb)) fun h => absurd h Bool.false_ne_true) q
end
end Cd


set_option Elab.async false
set_option linter.all false
set_option maxRecDepth 100000
set_option maxHeartbeats 4000000
/-! E6: a, b = [], x; [x] * n; items of nests and numbers. -/
namespace Cd
open PySem PySem.Spec PyProof.Rows L2
open Evl (Ex EvT)
section
variable {K : PySem.W.Frag} {H0 H H' : Hp} {σ : L2.St} {ta tb te tl tn : TE} {t u tt : TT} {x y z d : PyData} {ds es : List PyData} {Γ : List G} {X : List (V × PyData)} {D : Ends}
theorem s_parM {i j : Nat} {y : PyData} (hij : i ≠ j) (E : En K H0 H σ Γ X) (hx : EvN K ta σ H ds) (n : ∀ d ∈ ds, NL d) (hy : EvD K tb σ H y) (ny : NL y) (k : ∀ p w H1, En K H0 H1 ((σ.set i (some (.ref p))).set j (some w)) ((Γ.set i (.m p ds)).set j (.d y)) X → D.nx ((σ.set i (some (.ref p))).set j (some w)) H1) : tPar i j (tCons ta (tCons tb tNil)) D σ H :=
  hx H (Ex.refl H) _ fun p vs H1 np e1 hp al => hy H1 e1 _ fun w H2 e2 hw => ⟨.ref p, w, rfl, by
    have E2 := E.putM (i := i) (e1.trans e2) np (e2 _ _ hp) (da_ex e2 al) n
    exact k p w H2 (E2.put (g := .d y) (E2.nl ny hw))⟩
theorem s_parL {i j : Nat} {y : PyData} (E : En K H0 H σ Γ X) (hx : EvN K ta σ H ds) (n : ∀ d ∈ ds, NL d) (hy : EvD K tb σ H y) (ny : NL y) (k : ∀ v w H1, En K H0 H1 ((σ.set i (some v)).set j (some w)) ((Γ.set i (.d (.list ds))).set j (.d y)) X → D.nx ((σ.set i (some v)).set j (some w)) H1) : tPar i j (tCons ta (tCons tb tNil)) D σ H :=
  hx H (Ex.refl H) _ fun p vs H1 np e1 hp al => hy H1 e1 _ fun w H2 e2 hw => ⟨.ref p, w, rfl, by
    have E2 := ((E.mono e1).put (i := i) (g := .d (.list ds)) (E.fresh n np e1 hp al)).mono e2
    exact k (.ref p) w H2 (E2.put (g := .d y) (E2.nl ny hw))⟩
theorem da_rep {v : V} : ∀ n : Nat, Dt K H v d → DtAll K H (List.replicate n v) (List.replicate n d)
  | 0, _ => .nil
  | n + 1, h => .cons h (da_rep n h)
/-- [a] * n -/
theorem ev_rep1 {n : Nat} {a : Int} (hx : EvN K ta σ H [.int a]) (hb : EvD K tb σ H (iD n)) (few : n ≤ 1000) : EvN K (tOp rRep ta tb) σ H (List.replicate n (.int a)) := fun H1 e Q q =>
  hx H1 e _ fun p vs H2 np e2 hp al => hb H2 (e.trans e2) _ fun w H3 e3 hw => by
    cases al with
    | cons h t =>
      cases t
      rename_i v
      have ev : v = .int a := dp_int h
      subst ev
      have el : ∀ m : Nat, (List.replicate m [V.int a]).flatten = List.replicate m (V.int a) := fun m => by
        induction m with
        | zero => rfl
        | succ m ih => rw [List.replicate_succ, List.flatten_cons, ih, List.replicate_succ]; rfl
      refine ⟨p, (n : Int), [.int a], rfl, dp_int hw, e3 _ _ hp, by omega, by omega, ?_, fun l nl => ?_⟩
      · rw [List.length_singleton, Int.toNat_natCast, Nat.one_mul]
        exact Evl.sz_of (by omega)
      · rw [Int.toNat_natCast, el]
        exact q l _ _ (Evl.fresh_back (e2.trans e3) nl) ((e2.trans e3).trans (Ex.new nl)) upd_same (da_rep n (.int a))
end
theorem at_map {α : Type} {l : List α} {c : α → PyData} {i : Nat} {a : α} (h : l[i]? = some a) : atI (l.map c) (i : Int) = some (c a) := atI_nat (by rw [List.getElem?_map, h] <;> rfl)
theorem at_nest {ns : NestL} {i : Nat} (h : i < ns.length) : atI (ns.map optD) (i : Int) = some (optD (ns.getD i none)) := at_map (by rw [List.getD_eq_getElem?_getD, List.getElem?_eq_getElem h] <;> rfl)
theorem at_is {l : List Nat} {i : Nat} (h : i < l.length) : atI (l.map iD) (i : Int) = some (iD (l.getD i 0)) := at_map (by rw [List.getD_eq_getElem?_getD, List.getElem?_eq_getElem h] <;> rfl)
theorem at_ts {l : List (List Nat)} {i : Nat} (h : i < l.length) : atI (l.map tD) (i : Int) = some (tD (l.getD i [])) := at_map (by rw [List.getD_eq_getElem?_getD, List.getElem?_eq_getElem h] <;> rfl)
end Cd

set_option Elab.async false
set_option linter.all false
set_option maxRecDepth 100000
set_option maxHeartbeats 4000000
namespace Cd
open PySem PySem.Spec PyProof.Rows L2
open Evl (Ex EvT)
section
variable {P : Program} {w : World} {K : PySem.W.Frag} {mg : Str → Option Value} {base : Heap}
abbrev s_need_nest : Stmt := topS 8
abbrev N_need_nest : List Str := ["nest", "index", "one"]
theorem sc_need_nest : FnScope N_need_nest ["nest"] (defScope s_need_nest) := ⟨rfl, rfl, rfl, by decide +kernel, rfl, by decide +kernel, by decide +kernel⟩
def spNest (K : PySem.W.Frag) : Sp := fun vs H Q _ => ∃ ns, NOk ns ∧ DtAll K H vs [nestD ns] ∧ RetD K .none H Q
theorem ok_need_nest {f : Addr} {fd : FuncData} (F : Fun K "need_nest" "need_nest" s_need_nest f fd) (B : Bl mg) (k_is_in : Kd P w K mg base "is_in" 1 ["value", "least", "most"] (spIsIn K)) : FnOk P w K mg base CX0 2 f fd ["nest"] (spNest K) := by
  refine F.ok sc_need_nest (fun vs H Q E h => ?_) (fun cdv A outer s H vs Q E hr h => ?_)
  · obtain ⟨ns, ok, al, q⟩ := h
    exact da_len al
  · obtain ⟨ns, ok, al, q⟩ := h
    have hlo := ok.lo
    have hhi := ok.hi
    refine ⟨_, (pss_cons (ps_if (PW.pt (pw_or (pt_not (pt_val (pe_callB (c_isi (K := K) rfl) (by rfl) B.isinstance (by decide +kernel) (pa_cons (pv 0) (pa_cons (pe_bltn (v := .ty "tuple") (by rfl) B.tuple (by decide +kernel) rfl) pa_nil))))) (pw_or1 (pt_not (pt_chain op_le op_le pe_int (pe_callB (c_len (K := K) rfl) (by rfl) B.len (by decide +kernel) (pa_cons (pv 0) pa_nil)) (pe_glob (v := .int 9) rfl B.doors.choose_spec ⟨_, rfl⟩))))))
      (pss_one ps_never) pss_nil)
    (pss_one (ps_for PassesOwn.never rfl (pi_enumT' (K := K) rfl (by rfl) B.enumerate (pa_cons (pv 0) pa_nil)) (pg_tup' (K := K) rfl rfl (pgs_cons (pg_name (i := 1) sc_need_nest.nd rfl (.inl rfl)) (pgs_cons (pg_name (i := 2) sc_need_nest.nd rfl (.inl rfl)) pgs_nil)))
      (pss_one (ps_if (PW.pt (pw_and (pt_cmpR op_notN (pv 2) pe_non (nomark _)) (pw_and1 (pt_not (pt_val (pe_kd k_is_in hr (by decide) (by rfl) (pa_cons (pv 2) (pa_cons (pe_op op_add (pv 1) pe_int) (pa_cons (pe_op op_sub (pe_callB (c_len (K := K) rfl) (by rfl) B.len (by decide +kernel) (pa_cons (pv 0) pa_nil)) pe_int) pa_nil)))))))))
        (pss_one ps_never) pss_nil))))), ?_⟩
    have E0 := env_go (N := N_need_nest) al
    have v0 : EvD K (tVar 0) _ H (nestD ns) := ev_var E0.va rfl
    have t0 := Evl.et_is (Evl.et_or (Evl.et_not (et_B (ev_isi v0 kit_tt))) fun _ => Evl.et_not (et_test (ev_lele (ev_i (i := 1)) (ev_lenT v0) (ev_i (i := 9))))) (b := false) (by
      rw [List.length_map]
      simp
      omega)
    refine s_when E0 t0 (fun h => absurd h Bool.false_ne_true) fun _ H1 e1 E1 => ?_
    refine s_forE (c := optD) (l := ns) E1 (src_tup E1 (v0.mono e1) (nl_nest ns)) (fun a _ => nl_opt a) (fun _ Γ => ∃ a b, Γ = [.d (nestD ns), a, b]) ⟨.no, .no, rfl⟩ (fun k one v g σ' H' Γ' hk hΓ E2 => ?_) fun σ' H' Γ' hΓ E2 => ?_
    · obtain ⟨a, b, rfl⟩ := hΓ
      have lt : k < ns.length := (List.getElem?_eq_some_iff.mp hk).1
      have go : (∃ Γ2, (∃ a b, Γ2 = [G.d (nestD ns), a, b]) ∧ En K H H' ((σ'.set 1 (some (.int (k : Int)))).set 2 (some v)) Γ2 (g :: [])) := ⟨_, ⟨_, _, rfl⟩, E2⟩
      cases one with
      | none =>
        have v2 : EvD K (tVar 2) _ H' .none := ev_var E2.va rfl
        refine s_when E2 (Evl.et_is (Evl.et_and (b := false) (et_test (ev_notN v2)) fun h => absurd h Bool.false_ne_true) (b := false) rfl) (fun h => absurd h Bool.false_ne_true) fun _ H2 e2 E3 => ⟨_, ⟨_, _, rfl⟩, E3⟩
      | some j =>
        have up := ok.up k j (by rw [List.getD_eq_getElem?_getD, hk] <;> rfl)
        have v2 : EvD K (tVar 2) _ H' (iD j) := ev_var E2.va rfl
        have v1 : EvD K (tVar 1) _ H' (iD k) := ev_var E2.va rfl
        have v0 : EvD K (tVar 0) _ H' (nestD ns) := ev_var E2.va rfl
        refine s_when E2 (Evl.et_is (Evl.et_and (et_test (ev_notN v2)) fun _ => Evl.et_not (et_B (ev_call (d := .bool true) (ea_cons v2 (ea_cons (ev_add v1 (ev_i (i := 1))) (ea_cons (ev_sub (ev_lenT v0) (ev_i (i := 1))) ea_nil))) fun vs H1 Q _ al q => ⟨iD j, _, _, .inl ⟨_, rfl⟩, al, ?_⟩))) (b := false) rfl) (fun h => absurd h Bool.false_ne_true) fun _ H2 e2 E3 => ⟨_, ⟨_, _, rfl⟩, E3⟩
        have : isInD ((k : Int) + 1) ((((ns.map optD).length : Nat) : Int) - 1) (iD j) = true := by
          rw [List.length_map]
          simp only [isInD, Bool.and_eq_true, decide_eq_true_eq]
          omega
        rw [this]
        exact q
    · exact q .non H' (E2.ex.trans mask_le) .non
end
end Cd


set_option Elab.async false
set_option linter.all false
set_option maxRecDepth 100000
set_option maxHeartbeats 4000000
namespace Cd
open PySem PySem.Spec PyProof.Rows L2
open Evl (Ex EvT)
section
variable {P : Program} {w : World} {K : PySem.W.Frag} {mg : Str → Option Value} {base : Heap}
/-- the way on from a door or none -/
def chain (ns : NestL) (f : Nat) : Option Nat → List Nat
  | none => []
  | some j => j :: aro ns f j
theorem aro_succ (ns : NestL) (f d : Nat) : aro ns (f + 1) d = chain ns f (ns.getD d none) := by
  unfold aro chain
  cases ns.getD d none <;> rfl
abbrev s_around_in : Stmt := topS 9
abbrev N_around_in : List Str := ["nest", "door", "found", "here"]
theorem sc_around_in : FnScope N_around_in ["nest", "door"] (defScope s_around_in) := ⟨rfl, rfl, rfl, by decide +kernel, rfl, by decide +kernel, by decide +kernel⟩
def spAround (K : PySem.W.Frag) : Sp := fun vs H Q _ => ∃ ns d, NOk ns ∧ d < ns.length ∧ DtAll K H vs [nestD ns, iD d] ∧ RetN K ((aro ns ns.length d).map iD) H Q
theorem ok_around_in {f : Addr} {fd : FuncData} (F : Fun K "around_in" "around_in" s_around_in f fd) : FnOk P w K mg base CX0 1 f fd ["nest", "door"] (spAround K) := by
  refine F.ok sc_around_in (fun vs H Q E h => ?_) (fun cdv A outer s H vs Q E hr h => ?_)
  · obtain ⟨ns, d, ok, lt, al, q⟩ := h
    exact da_len al
  · obtain ⟨ns, d, ok, lt, al, q⟩ := h
    have hlo := ok.lo
    have hhi := ok.hi
    refine ⟨_, (pss_cons (ps_par (i := 2) (j := 3) rfl sc_around_in.nd rfl rfl (by decide) rfl rfl (pa_cons (pe_lst pa_nil) (pa_cons (pe_ix (ix_tup' (K := K) rfl) (pv 0) (pv 1) (fun _ _ => rfl)) pa_nil)) (by rfl))
    (pss_cons (ps_while PassesOwn.never (pt_cmpR op_notN (pv 3) pe_non (nomark _))
      (pss_cons (ps_expr (pe_app (K := K) rfl (pv 2) (pa_cons (pv 3) pa_nil)))
      (pss_one (ps_set (i := 3) sc_around_in.nd rfl (.inl rfl) (pe_ix (ix_tup' (K := K) rfl) (pv 0) (pv 3) (fun _ _ => rfl))))))
    (pss_one (ps_ret (pv 2))))), ?_⟩
    have E0 := env_go (N := N_around_in) al
    have v0 : EvD K (tVar 0) _ H (nestD ns) := ev_var E0.va rfl
    have v1 : EvD K (tVar 1) _ H (iD d) := ev_var E0.va rfl
    refine s_parM (ds := []) (by decide) E0 (ev_lst ea_nil (by decide)) (fun _ h => nomatch h) (ev_ixT v0 v1 (at_nest lt)) (nl_opt _) fun p w0 H1 E1 => ?_
    obtain ⟨n, en⟩ : ∃ n, ns.length = n + 1 := ⟨ns.length - 1, by omega⟩
    refine s_while E1 (fun m Γ => ∃ (done : List Nat) (o : Option Nat), Γ = [.d (nestD ns), .d (iD d), .m p (done.map iD), .d (optD o)] ∧ done ++ chain ns m o = aro ns ns.length d ∧ done.length + m = n ∧ ∀ j, o = some j → j < ns.length ∧ ns.length ≤ m + j) n
      ⟨[], ns.getD d none, rfl, by rw [en, aro_succ]; rfl, by simp, fun j e => by have := ok.up d j e; omega⟩ (fun m σ' H' Γ' hI E2 => ?_)
    obtain ⟨done, o, rfl, e1, e2, e3⟩ := hI
    cases o with
    | none =>
      have v3 : EvD K (tVar 3) _ H' .none := ev_var E2.va rfl
      refine ⟨false, et_test (ev_notN v3), fun h => absurd h Bool.false_ne_true, fun _ H2 E3 => ?_⟩
      have e1 : done = aro ns ns.length d := by rw [← e1]; simp [chain]
      subst e1
      exact s_retM (i := 2) E3 rfl q
    | some j =>
      obtain ⟨h1, h2⟩ := e3 j rfl
      obtain ⟨m', rfl⟩ : ∃ m', m = m' + 1 := ⟨m - 1, by omega⟩
      have v3 : EvD K (tVar 3) _ H' (iD j) := ev_var E2.va rfl
      refine ⟨true, et_test (ev_notN v3), fun _ H2 E3 => ?_, fun h => absurd h (by decide)⟩
      have v3 : EvD K (tVar 3) _ H2 (iD j) := ev_var E3.va rfl
      refine s_app (i := 2) E3 rfl v3 (nl_i j) (by simp; omega) fun H3 E4 => ?_
      have v0 : EvD K (tVar 0) _ H3 (nestD ns) := ev_var E4.va rfl
      have v3 : EvD K (tVar 3) _ H3 (iD j) := ev_var E4.va rfl
      refine s_asg E4 (ev_ixT v0 v3 (at_nest h1)) (nl_opt _) fun v H4 _ E5 => ⟨m', _, Nat.lt_succ_self _, ⟨done ++ [j], ns.getD j none, ?_, ?_, by simp; omega, fun i ei => ?_⟩, E5⟩
      · rw [List.map_append] <;> rfl
      · rw [← e1, List.append_assoc]
        show done ++ ([j] ++ chain ns m' (ns.getD j none)) = done ++ (j :: aro ns (m' + 1) j)
        rw [aro_succ] <;> rfl
      · have := ok.up j i ei
        omega
abbrev s_inside_in : Stmt := topS 10
abbrev N_inside_in : List Str := ["nest", "door", "k"]
theorem sc_inside_in : FnScope N_inside_in ["nest", "door"] (defScope s_inside_in) := ⟨rfl, rfl, rfl, by decide +kernel, rfl, by decide +kernel, by decide +kernel⟩
def spInside (K : PySem.W.Frag) : Sp := fun vs H Q _ => ∃ ns d, NOk ns ∧ d < ns.length ∧ DtAll K H vs [nestD ns, iD d] ∧ RetN K ((inside ns d).map iD) H Q
theorem ok_inside_in {f : Addr} {fd : FuncData} (F : Fun K "inside_in" "inside_in" s_inside_in f fd) (B : Bl mg) (k_around_in : Kd P w K mg base "around_in" 1 ["nest", "door"] (spAround K)) : FnOk P w K mg base CX0 2 f fd ["nest", "door"] (spInside K) := by
  refine F.ok sc_inside_in (fun vs H Q E h => ?_) (fun cdv A outer s H vs Q E hr h => ?_)
  · obtain ⟨ns, d, ok, lt, al, q⟩ := h
    exact da_len al
  · obtain ⟨ns, d, ok, lt, al, q⟩ := h
    have hhi := ok.hi
    refine ⟨_, (pss_one (ps_ret (pe_lc (own := [("k", 2)]) (g := gName 2) rfl sc_inside_in.nd (pi_range1 (by rfl) B.range (pa_cons (pv 1) pa_nil)) (blkOk_by (own := [("k", 2)]) (N := N_inside_in) (by kernel_rfl)) (fun _ _ _ _ _ => (pg_name (i := 2) sc_inside_in.nd rfl (.inl rfl))) (fun _ _ _ _ _ => (pts_one (pt_cmpR (op_in' (K := K) rfl) (pv 1) (pe_kd k_around_in hr (by decide) (by rfl) (pa_cons (pv 0) (pa_cons (pv 2) pa_nil))) rfl))) (fun _ _ _ _ _ => (pv 2))))), ?_⟩
    have E0 := env_go (N := N_inside_in) al
    have v1 : EvD K (tVar 1) _ H (iD d) := ev_var E0.va rfl
    refine s_retN E0 (ev_lcR (f := fun k => insB ns d k) (e := iD) E0.va v1 (by omega) (fun k H1 hk e1 V => ?_) (fun k H1 hk _ e1 V => ev_var V rfl) fun k _ _ => nl_i k) q
    have v0 : EvD K (tVar 0) _ H1 (nestD ns) := ev_var V rfl
    have v1 : EvD K (tVar 1) _ H1 (iD d) := ev_var V rfl
    have v2 : EvD K (tVar 2) _ H1 (iD k) := ev_var V rfl
    exact et_test (ev_inNL v1 (ev_callN (ea_cons v0 (ea_cons v2 ea_nil)) fun vs H2 Q _ al q => ⟨ns, k, ok, by omega, al, q⟩).toD)
end
end Cd


set_option Elab.async false
set_option linter.all false
set_option maxRecDepth 100000
set_option maxHeartbeats 4000000
namespace Cd
open PySem PySem.Spec PyProof.Rows L2
open Evl (Ex EvT)
section
variable {P : Program} {w : World} {K : PySem.W.Frag} {mg : Str → Option Value} {base : Heap}
theorem prod_range' : ∀ n a, prodN (List.range' (a + 1) n) * factN a = factN (a + n)
  | 0, a => by simp [prodN]
  | n + 1, a => by
    rw [List.range'_succ, prodN, Nat.mul_comm (a + 1), Nat.mul_assoc]
    show prodN (List.range' (a + 1 + 1) n) * factN (a + 1) = _
    rw [prod_range' n (a + 1)]
    congr 1
    omega
theorem prod_fact (n : Nat) : prodN (List.range' 1 n) = factN n := by
  have := prod_range' n 0
  rw [Nat.zero_add, Nat.zero_add] at this
  rw [← this]
  show _ = _ * 1
  rw [Nat.mul_one]
theorem prod_take {l : List Nat} {i a : Nat} (h : l[i]? = some a) : prodN (l.take (i + 1)) = prodN (l.take i) * a := by
  rw [List.take_add_one, h, prodN_app]
  show _ * (a * 1) = _
  rw [Nat.mul_one]
theorem size_pos {ns : NestL} (ok : NOk ns) : 0 < prodN (sizesL ns) := prodN_pos fun a ha => by
  rw [sizes_eq ok] at ha
  obtain ⟨k, _, rfl⟩ := List.mem_map.mp ha
  omega
theorem size_le6 {ns : NestL} (ok : NOk ns) : ∀ a ∈ sizesL ns, a ≤ 6 := fun a ha => by
  have hhi := ok.hi
  rw [sizes_eq ok] at ha
  obtain ⟨k, hk, rfl⟩ := List.mem_map.mp ha
  have := List.mem_range.mp hk
  have := inside_len (ns := ns) (k := k)
  omega
theorem size_lt {ns : NestL} (ok : NOk ns) : prodN (sizesL ns) ≤ 46656 := by
  have h := prodN_le (size_le6 ok)
  have e : (sizesL ns).length = ns.length := sizesGo_len ns ns.length
  rw [e] at h
  exact Nat.le_trans h (Nat.le_trans (Nat.pow_le_pow_right (by omega) ok.hi) (by decide))
abbrev s_sizes_in : Stmt := topS 11
abbrev N_sizes_in : List Str := ["nest", "found", "k", "one"]
theorem sc_sizes_in : FnScope N_sizes_in ["nest"] (defScope s_sizes_in) := ⟨rfl, rfl, rfl, by decide +kernel, rfl, by decide +kernel, by decide +kernel⟩
def spSizes (K : PySem.W.Frag) : Sp := fun vs H Q _ => ∃ ns, NOk ns ∧ DtAll K H vs [nestD ns] ∧ RetN K ((sizesL ns).map iD) H Q
theorem ok_sizes_in {f : Addr} {fd : FuncData} (F : Fun K "sizes_in" "sizes_in" s_sizes_in f fd) (B : Bl mg) : FnOk P w K mg base CX0 1 f fd ["nest"] (spSizes K) := by
  refine F.ok sc_sizes_in (fun vs H Q E h => ?_) (fun cdv A outer s H vs Q E hr h => ?_)
  · obtain ⟨ns, ok, al, q⟩ := h
    exact da_len al
  · obtain ⟨ns, ok, al, q⟩ := h
    have hhi := ok.hi
    refine ⟨_, (pss_cons (ps_set (i := 1) sc_sizes_in.nd rfl (.inl rfl) (pe_op op_rep (pe_lst (pa_cons pe_int pa_nil)) (pe_callB (c_len (K := K) rfl) (by rfl) B.len (by decide +kernel) (pa_cons (pv 0) pa_nil))))
    (pss_cons (ps_for PassesOwn.never rfl (pi_enumT' (K := K) rfl (by rfl) B.enumerate (pa_cons (pv 0) pa_nil)) (pg_tup' (K := K) rfl rfl (pgs_cons (pg_name (i := 2) sc_sizes_in.nd rfl (.inl rfl)) (pgs_cons (pg_name (i := 3) sc_sizes_in.nd rfl (.inl rfl)) pgs_nil)))
      (pss_one (ps_if (pt_cmpR op_notN (pv 3) pe_non (nomark _))
        (pss_one (ps_augS (pv 1) (pv 3) (pg_lst' (K := K) rfl) (pe_ix (ix_list' (K := K) rfl) (pv 1) (pv 2) (fun _ _ => rfl)) ip_add set_list)) pss_nil)))
    (pss_one (ps_ret (pv 1))))), ?_⟩
    have E0 := env_go (N := N_sizes_in) al
    have v0 : EvD K (tVar 0) _ H (nestD ns) := ev_var E0.va rfl
    refine s_asgM (i := 1) (ds := (sizesGo ns 0).map iD) E0 ((ev_rep1 (a := 1) (ev_lst (ea_cons ev_i ea_nil) (by decide)) (ev_lenT v0) (by rw [List.length_map]; omega)).is (by rw [List.length_map]; simp [sizesGo])) (nl_is _) fun p H1 np e1 E1 => ?_
    refine s_forE (c := optD) (l := ns) E1 (src_tup E1 (v0.mono e1 |> fun h => ev_var E1.va rfl) (nl_nest ns)) (fun a _ => nl_opt a) (fun k Γ => ∃ a b, Γ = [.d (nestD ns), .m p ((sizesGo ns k).map iD), a, b]) ⟨.no, .no, rfl⟩ (fun k one v g σ' H' Γ' hk hΓ E2 => ?_) fun σ' H' Γ' hΓ E2 => ?_
    · obtain ⟨a, b, rfl⟩ := hΓ
      have lt : k < ns.length := (List.getElem?_eq_some_iff.mp hk).1
      have gk : ns.getD k none = one := by rw [List.getD_eq_getElem?_getD, hk] <;> rfl
      cases one with
      | none =>
        have v3 : EvD K (tVar 3) _ H' .none := ev_var E2.va rfl
        have es : sizesGo ns (k + 1) = sizesGo ns k := by rw [sizesGo, gk]
        refine s_when E2 (b := false) (et_test (ev_notN v3)) (fun h => absurd h Bool.false_ne_true) fun _ H2 e2 E3 => ⟨_, ⟨_, _, by rw [es] <;> rfl⟩, E3⟩
      | some j =>
        have up := ok.up k j gk
        have v3 : EvD K (tVar 3) _ H' (iD j) := ev_var E2.va rfl
        have es : sizesGo ns (k + 1) = (sizesGo ns k).set j ((sizesGo ns k).getD j 0 + (sizesGo ns k).getD k 0) := by rw [sizesGo, gk]
        have lj : j < (sizesGo ns k).length := by rw [sizesGo_len]; omega
        have lk : k < (sizesGo ns k).length := by rw [sizesGo_len]; omega
        refine s_when E2 (b := true) (et_test (ev_notN v3)) (fun _ H2 e2 E3 => ?_) fun h => absurd h (by decide)
        refine s_augM (i := 1) (a := (((sizesGo ns k).getD j 0 : Nat) : Int)) (b := (((sizesGo ns k).getD k 0 : Nat) : Int)) (f := fun i j => i + j) E3 rfl (ev_var E3.va rfl) ?_ (fun H3 e3 => ev_ixL (ds := (sizesGo ns k).map iD) ((ev_var E3.va rfl : EvD K (tVar 1) _ H2 _).mono e3) ((ev_var E3.va rfl : EvD K (tVar 2) _ H2 (iD k)).mono e3) (at_is lk)) fun H3 E4 => ⟨_, ⟨.d (iD k), .d (iD j), ?_⟩, E4⟩
        · rw [List.getElem?_map, List.getElem?_eq_getElem lj, List.getD_eq_getElem?_getD, List.getElem?_eq_getElem lj] <;> rfl
        · rw [es, List.map_set] <;> rfl
    · obtain ⟨a, b, rfl⟩ := hΓ
      exact s_retM (i := 1) E2 rfl q
abbrev s_product : Stmt := topS 12
abbrev N_product : List Str := ["values", "found", "one"]
theorem sc_product : FnScope N_product ["values"] (defScope s_product) := ⟨rfl, rfl, rfl, by decide +kernel, rfl, by decide +kernel, by decide +kernel⟩
def spProd (K : PySem.W.Frag) : Sp := fun vs H Q _ => ∃ l : List Nat, (∀ a ∈ l, a < 2 ^ 60) ∧ DtAll K H vs [lD l] ∧ RetD K (iD (prodN l)) H Q
theorem ok_product {f : Addr} {fd : FuncData} (F : Fun K "product" "product" s_product f fd) : FnOk P w K mg base CX0 1 f fd ["values"] (spProd K) := by
  refine F.ok sc_product (fun vs H Q E h => ?_) (fun cdv A outer s H vs Q E hr h => ?_)
  · obtain ⟨l, ok, al, q⟩ := h
    exact da_len al
  · obtain ⟨l, ok, al, q⟩ := h
    refine ⟨_, (pss_cons (ps_set (i := 1) sc_product.nd rfl (.inl rfl) pe_int)
    (pss_cons (ps_for PassesOwn.never rfl (pi_list' (K := K) rfl (pv 0)) (pg_name (i := 2) sc_product.nd rfl (.inl rfl))
      (pss_one (ps_aug (i := 1) sc_product.nd rfl (.inl rfl) (pv 2) iop_mul)))
    (pss_one (ps_ret (pv 1))))), ?_⟩
    have E0 := env_go (N := N_product) al
    refine s_asg (i := 1) E0 (ev_i (i := 1)) (.int _) fun v H1 e1 E1 => ?_
    refine s_forL (c := iD) (l := l) E1 (src_varL E1 rfl) (fun a _ => nl_i a) (fun k Γ => ∃ a, Γ = [.d (lD l), .d (iD (prodN (l.take k))), a]) ⟨.no, rfl⟩ (fun k one v g σ' H' Γ' hk hΓ E2 => ?_) fun σ' H' Γ' hΓ E2 => ?_
    · obtain ⟨a, rfl⟩ := hΓ
      have lt := ok one (List.mem_of_getElem? hk)
      refine s_augC (i := 1) (a := ((prodN (l.take k) : Nat) : Int)) (b := (one : Int)) (f := fun i j => i * j) E2 rfl (ev_var E2.va rfl) (.inr ⟨by omega, by omega⟩) fun H3 e3 E3 => ⟨_, ⟨.d (iD one), ?_⟩, E3⟩
      rw [prod_take hk]
      show _ = [G.d (lD l), G.d (.int _), _]
      rw [Int.natCast_mul] <;> rfl
    · obtain ⟨a, rfl⟩ := hΓ
      rw [List.take_length] at E2
      exact s_ret E2 (ev_var E2.va rfl) q
abbrev s_mixings_in : Stmt := topS 13
abbrev N_mixings_in : List Str := ["nest"]
theorem sc_mixings_in : FnScope N_mixings_in ["nest"] (defScope s_mixings_in) := ⟨rfl, rfl, rfl, by decide +kernel, rfl, by decide +kernel, by decide +kernel⟩
def spMix (K : PySem.W.Frag) : Sp := fun vs H Q _ => ∃ ns, NOk ns ∧ DtAll K H vs [nestD ns] ∧ RetD K (iD (mixN ns)) H Q
theorem ok_mixings_in {f : Addr} {fd : FuncData} (F : Fun K "mixings_in" "mixings_in" s_mixings_in f fd) (B : Bl mg) (k_product : Kd P w K mg base "product" 1 ["values"] (spProd K)) (k_sizes_in : Kd P w K mg base "sizes_in" 1 ["nest"] (spSizes K)) : FnOk P w K mg base CX0 2 f fd ["nest"] (spMix K) := by
  refine F.ok sc_mixings_in (fun vs H Q E h => ?_) (fun cdv A outer s H vs Q E hr h => ?_)
  · obtain ⟨ns, ok, al, q⟩ := h
    exact da_len al
  · obtain ⟨ns, ok, al, q⟩ := h
    have hhi := ok.hi
    refine ⟨_, (pss_one (ps_ret (pe_op op_fdiv (pe_kd k_product hr (by decide) (by rfl) (pa_cons (pe_listRg rfl (by rfl) B.list (prg_2 (by rfl) B.range pe_int (pe_op op_add (pe_callB (c_len (K := K) rfl) (by rfl) B.len (by decide +kernel) (pa_cons (pv 0) pa_nil)) pe_int))) pa_nil)) (pe_kd k_product hr (by decide) (by rfl) (pa_cons (pe_kd k_sizes_in hr (by decide) (by rfl) (pa_cons (pv 0) pa_nil)) pa_nil))))), ?_⟩
    have E0 := env_go (N := N_mixings_in) al
    have v0 : EvD K (tVar 0) _ H (nestD ns) := ev_var E0.va rfl
    have sp := size_pos ok
    have sl := size_lt ok
    refine s_ret E0 ((ev_div (i := ((factN ns.length : Nat) : Int)) (j := ((prodN (sizesL ns) : Nat) : Int)) ?_ ?_ ⟨by omega, by omega⟩).int (by unfold mixN; rw [Int.natCast_ediv])) q
    · refine ev_call (ea_cons ((ev_listR2 (a := 1) (b := ns.length + 1) ev_i ((ev_add (ev_lenT v0) (ev_i (i := 1))).int (by rw [List.length_map] <;> rfl)) (by omega) (by omega)).is (by rw [Nat.add_sub_cancel])).toD ea_nil) fun vs H1 Q _ al q => ⟨List.range' 1 ns.length, fun a ha => ?_, al, by rw [prod_fact]; exact q⟩
      have := (List.mem_range'_1.mp ha).2
      omega
    · refine ev_call (ea_cons (ev_callN (ea_cons v0 ea_nil) fun vs H2 Q _ al q => ⟨ns, ok, al, q⟩).toD ea_nil) fun vs H1 Q _ al q => ⟨sizesL ns, fun a ha => ?_, al, q⟩
      have := size_le6 ok a ha
      omega
end
end Cd


set_option Elab.async false
set_option linter.all false
set_option maxRecDepth 100000
set_option maxHeartbeats 4000000
namespace Cd
open PySem PySem.Spec PyProof.Rows L2
open Evl (Ex EvT)
section
variable {P : Program} {w : World} {K : PySem.W.Frag} {mg : Str → Option Value} {base : Heap}
/-! ### slices of numbers -/
theorem cut_take {ds : List PyData} {j : Nat} : cutD ds none (some (j : Int)) = ds.take j := by
  unfold cutD
  rw [HT.sIx_none, HT.sIx_nat, List.drop_zero, Nat.sub_zero]
  by_cases h : j ≤ ds.length
  · rw [Nat.min_eq_left h]
  · rw [Nat.min_eq_right (by omega), List.take_length, List.take_of_length_le (by omega)]
theorem cut_drop {ds : List PyData} {j : Nat} : cutD ds (some (j : Int)) none = ds.drop j := by
  unfold cutD
  rw [HT.sIx_none, HT.sIx_nat]
  by_cases h : j ≤ ds.length
  · rw [Nat.min_eq_left h, List.take_of_length_le (by rw [List.length_drop]; omega)]
  · rw [Nat.min_eq_right (by omega), List.drop_length, List.drop_of_length_le (by omega), List.take_nil]
/-! ### is it an order -/
def sortN (l : List Nat) : List Nat := l.mergeSort fun a b => decide (a ≤ b)
theorem sort_uni {l m : List Nat} (p : m.Perm l) (w : m.Pairwise (· ≤ ·)) : m = sortN l := by
  refine sorted_unique (p.trans (List.mergeSort_perm _ _).symm) w ?_
  have := List.pairwise_mergeSort (le := fun a b : Nat => decide (a ≤ b)) (fun a b c h1 h2 => by simp at h1 h2 ⊢; omega) (fun a b => by simp; omega) l
  exact this.imp fun h => of_decide_eq_true h
def ordB (n : Nat) (l : List Nat) : Bool := decide (sortN l = List.range n)
theorem ordB_iff {n : Nat} {l : List Nat} : ordB n l = true ↔ OOk n l := by
  unfold ordB
  rw [decide_eq_true_iff]
  constructor
  · intro h
    exact OOk.of_perm (by rw [← h]; exact (List.mergeSort_perm _ _).symm)
  · intro h
    exact (sort_uni (l := l) (m := List.range n) h.perm.symm (List.pairwise_lt_range.imp fun h => Nat.le_of_lt h)).symm
def intBool (d : PyData) : Prop := (∃ z, d = .int z) ∨ ∃ b, d = .bool b
theorem flat_lay : ∀ {ds : List PyData}, (∀ d ∈ ds, intBool d) → PyData.canLayAll0 ds = true ∧ PyData.depthAll ds ≤ 1
  | [], _ => ⟨rfl, by simp [PyData.depthAll]⟩
  | d :: ds, h => by
    obtain ⟨a, b⟩ := flat_lay (ds := ds) fun e he => h e (by simp [he])
    rcases h d (by simp) with ⟨z, rfl⟩ | ⟨z, rfl⟩ <;> (simp only [PyData.canLayAll0, PyData.canLay0, PyData.depthAll, PyData.depth, a, Bool.true_and, Bool.and_self]; exact ⟨trivial, by omega⟩)
theorem sh_flat {ds : List PyData} (h : ∀ d ∈ ds, intBool d) : SeqAt.shaped (.list ds) = true := by
  obtain ⟨a, b⟩ := flat_lay h
  exact sh_of (by simp only [PyData.canLay0]; exact a) (by simp only [PyData.depth]; omega)
theorem intBool.flat {d : PyData} (h : intBool d) : flatD d = true := by rcases h with ⟨z, rfl⟩ | ⟨b, rfl⟩ <;> rfl
theorem intBool.nl {d : PyData} (h : intBool d) : NL d := by
  rcases h with ⟨z, rfl⟩ | ⟨b, rfl⟩
  · exact .int z
  · exact .bl b
theorem isIn_lt {n a : Nat} : isInD 0 ((n : Int) - 1) (iD a) = decide (a < n) := by
  simp only [isInD]
  rw [Bool.eq_iff_iff, Bool.and_eq_true, decide_eq_true_iff, decide_eq_true_iff, decide_eq_true_iff]
  omega
abbrev s_is_order : Stmt := topS 15
abbrev N_is_order : List Str := ["nest", "value", "x"]
theorem sc_is_order : FnScope N_is_order ["nest", "value"] (defScope s_is_order) := ⟨rfl, rfl, rfl, by decide +kernel, rfl, by decide +kernel, by decide +kernel⟩
def spOrd (K : PySem.W.Frag) : Sp := fun vs H Q _ => ∃ ns, NOk ns ∧ (
  (∃ v0 v ty, vs = [v0, v] ∧ Dt K H v0 (nestD ns) ∧ (∀ H1, Ex H H1 → TyX K H1 v (.type ty)) ∧ kitB ty "tuple" = some false ∧ RetD K (.bool false) H Q) ∨
  (∃ ds, DtAll K H vs [nestD ns, .tuple ds] ∧ (∀ d ∈ ds, intBool d) ∧ (∃ d ∈ ds, isInD 0 ((ns.length : Int) - 1) d = false) ∧ ds.length ≤ 40 ∧ RetD K (.bool false) H Q) ∨
  (∃ l : List Nat, DtAll K H vs [nestD ns, tD l] ∧ l.length ≤ 40 ∧ RetD K (.bool (ordB ns.length l)) H Q))
theorem ok_is_order {f : Addr} {fd : FuncData} (F : Fun K "is_order" "is_order" s_is_order f fd) (B : Bl mg) (k_is_in : Kd P w K mg base "is_in" 1 ["value", "least", "most"] (spIsIn K)) : FnOk P w K mg base CX0 2 f fd ["nest", "value"] (spOrd K) := by
  refine F.ok sc_is_order (fun vs H Q E h => ?_) (fun cdv A outer s H vs Q E hr h => ?_)
  · obtain ⟨ns, ok, ⟨v0, v, ty, rfl, _⟩ | ⟨ds, al, _⟩ | ⟨l, al, _⟩⟩ := h
    · rfl
    · exact da_len al
    · exact da_len al
  · obtain ⟨ns, ok, h⟩ := h
    have hhi := ok.hi
    refine ⟨_, (pss_cons (ps_if (PW.pt (pw_or (pt_not (pt_val (pe_callB (c_isi (K := K) rfl) (by rfl) B.isinstance (by decide +kernel) (pa_cons (pv 1) (pa_cons (pe_bltn (v := .ty "tuple") (by rfl) B.tuple (by decide +kernel) rfl) pa_nil))))) (pw_or1 (pt_cmpR (op_neD' (K := K) rfl hr.units) (pe_lc (own := [("x", 2)]) (g := gName 2) rfl sc_is_order.nd (pi_tup' (K := K) rfl (pv 1)) (blkOk_by (own := [("x", 2)]) (N := N_is_order) (by kernel_rfl)) (fun _ _ _ _ _ => (pg_name (i := 2) sc_is_order.nd rfl (.inl rfl))) (fun _ _ _ _ _ => (pts_one (pt_not (pt_val (pe_kd k_is_in hr (by decide) (by rfl) (pa_cons (pv 2) (pa_cons pe_int (pa_cons (pe_op op_sub (pe_callB (c_len (K := K) rfl) (by rfl) B.len (by decide +kernel) (pa_cons (pv 0) pa_nil)) pe_int) pa_nil)))))))) (fun _ _ _ _ _ => (pv 2))) (pe_lst pa_nil) (nomark _)))))
      (pss_one (ps_ret pe_bl)) pss_nil)
    (pss_one (ps_ret (pe_cmpR (op_eqD' (K := K) rfl hr.units) (pe_callB (c_sortTI (K := K) rfl) (by rfl) B.sorted (by decide +kernel) (pa_cons (pv 1) pa_nil)) (pe_listRg rfl (by rfl) B.list (prg_1 (by rfl) B.range (pe_callB (c_len (K := K) rfl) (by rfl) B.len (by decide +kernel) (pa_cons (pv 0) pa_nil)))) (nomark _))))), ?_⟩
    rcases h with ⟨v0, v, ty, rfl, hd, hty, hk, q⟩ | h
    · have E0 : En K H H (L2.start N_is_order [v0, v]) [.d (nestD ns), .v v, .no] [] := (env_go (N := N_is_order) (.cons hd .nil)).put (i := 1) (v := v) (g := .v v) rfl
      refine s_when (b := true) E0 (Evl.et_is (Evl.et_or (b := true) (Evl.et_not (et_B (ev_isiV (v := v) (fun H1 _ Q q => ⟨v, rfl, q⟩) hty hk))) fun h => absurd h (by decide)) (by rfl)) (fun _ H1 e1 E1 => s_ret E1 ev_b q) fun h => absurd h (by decide)
    · suffices hs : ∀ ds b, DtAll K H vs [nestD ns, .tuple ds] → (∀ d ∈ ds, intBool d) → ds.length ≤ 40 → ((∃ d ∈ ds, isInD 0 ((ns.length : Int) - 1) d = false) → b = false) → ((∀ d ∈ ds, isInD 0 ((ns.length : Int) - 1) d = true) → ∃ l : List Nat, ds = l.map iD ∧ b = ordB ns.length l) → RetD K (.bool b) H Q → _ by
        rcases h with ⟨ds, al, ib, hex, few, q⟩ | ⟨l, al, few, q⟩
        · refine hs ds false al ib few (fun _ => rfl) (fun h => ?_) q
          obtain ⟨d, hd, e⟩ := hex
          rw [h d hd] at e
          cases e
        · refine hs (l.map iD) _ al (fun d hd => ?_) (by rw [List.length_map]; exact few) (fun ⟨d, hd, e⟩ => ?_) (fun _ => ⟨l, rfl, rfl⟩) q
          · obtain ⟨a, _, rfl⟩ := List.mem_map.mp hd
            exact .inl ⟨_, rfl⟩
          · obtain ⟨a, ha, rfl⟩ := List.mem_map.mp hd
            rw [isIn_lt] at e
            rw [Bool.eq_false_iff]
            intro h
            have := (ordB_iff.mp h).lt a ha
            exact absurd this (of_decide_eq_false e)
      clear h
      intro ds b al ib few hF hT q
      have E0 := env_go (N := N_is_order) al
      have v0 : EvD K (tVar 0) _ H (nestD ns) := ev_var E0.va rfl
      have v1 : EvD K (tVar 1) _ H (.tuple ds) := ev_var E0.va rfl
      have cL := ev_lcT (te := tVar 2) (K := K) (c := fun d => d) (l := ds) (f := fun d => !isInD 0 ((ns.length : Int) - 1) d) (e := fun d => d) (j := 2) (tt := tNot (tB (tCall (spIsIn K) [] L2.E0 (tCons (tVar 2) (tCons (tC (.int 0)) (tCons (tOp (rI0 fun i j => .int (i - j)) (tCB (rLen K) (tCons (tVar 0) tNil)) (tC (.int 1))) tNil)))))) E0.va (v1.is (by rw [List.map_id'])) (by omega) (fun d v H1 hd e1 hv V => ?_) (fun d v H1 hd _ e1 hv V => ev_var V rfl) (fun d hd _ => (ib d hd).nl)
      · rw [List.map_id'] at cL
        have shx : ∀ d ∈ ds.filter (fun d => !isInD 0 ((ns.length : Int) - 1) d), intBool d := fun d hd => ib d (List.mem_filter.mp hd).1
        have tst := Evl.et_or (Evl.et_not (et_B (ev_isi v1 kit_tt))) fun _ => et_test (ev_neD cL.toD (ev_lst ea_nil (by decide)).toD (sh_flat shx) (sh_flat fun _ h => nomatch h))
        by_cases hall : ∀ d ∈ ds, isInD 0 ((ns.length : Int) - 1) d = true
        · have nil : ds.filter (fun d => !isInD 0 ((ns.length : Int) - 1) d) = [] := List.filter_eq_nil_iff.mpr fun d hd => by rw [hall d hd]; decide
          rw [nil] at tst
          refine s_when (b := false) E0 (Evl.et_is tst (by rfl)) (fun h => absurd h (by decide)) fun _ H1 e1 E1 => ?_
          obtain ⟨l, rfl, rfl⟩ := hT hall
          have v0 : EvD K (tVar 0) _ H1 (nestD ns) := ev_var E1.va rfl
          have v1 : EvD K (tVar 1) _ H1 (tD l) := ev_var E1.va rfl
          rw [List.length_map] at few
          exact s_ret E1 (ev_eqL (l := sortN l) (m := List.range ns.length) (ev_sortT v1 (by omega) fun m' p w => sort_uni p w).toD (ev_listR1 ((ev_lenT v0).is (by rw [List.length_map])) (by omega)).toD) q
        · have hex : ∃ d ∈ ds, isInD 0 ((ns.length : Int) - 1) d = false := by
            simpa using hall
          have hb := hF hex
          subst hb
          have ne : ds.filter (fun d => !isInD 0 ((ns.length : Int) - 1) d) ≠ [] := fun e => by
            obtain ⟨d, hd, hf⟩ := hex
            have := List.filter_eq_nil_iff.mp e d hd
            rw [hf] at this
            exact this rfl
          obtain ⟨x, xs, ex⟩ := List.exists_cons_of_ne_nil ne
          rw [ex] at tst
          exact s_when (b := true) E0 (Evl.et_is tst (by rfl)) (fun _ H1 e1 E1 => s_ret E1 ev_b q) fun h => absurd h (by decide)
      · have v0 : EvD K (tVar 0) _ H1 (nestD ns) := ev_var V rfl
        have v2 : EvD K (tVar 2) _ H1 d := ev_var V rfl
        exact Evl.et_not (et_B (ev_call (ea_cons v2 (ea_cons ev_i (ea_cons (ev_sub ((ev_lenT v0).is (by rw [List.length_map])) (ev_i (i := 1))) ea_nil))) fun vs H2 Q _ al q => ⟨d, 0, _, ib d hd, al, q⟩))
abbrev s_rank_in : Stmt := topS 16
abbrev N_rank_in : List Str := ["nest", "order", "door", "some", "x"]
theorem sc_rank_in : FnScope N_rank_in ["nest", "order", "door"] (defScope s_rank_in) := ⟨rfl, rfl, rfl, by decide +kernel, rfl, by decide +kernel, by decide +kernel⟩
def spRank (K : PySem.W.Frag) : Sp := fun vs H Q _ => ∃ ns o d, NOk ns ∧ OOk ns.length o ∧ d < ns.length ∧ DtAll K H vs [nestD ns, tD o, iD d] ∧ RetD K (iD (rankN ns o d)) H Q
theorem ok_rank_in {f : Addr} {fd : FuncData} (F : Fun K "rank_in" "rank_in" s_rank_in f fd) (B : Bl mg) (k_inside_in : Kd P w K mg base "inside_in" 2 ["nest", "door"] (spInside K)) : FnOk P w K mg base CX0 3 f fd ["nest", "order", "door"] (spRank K) := by
  refine F.ok sc_rank_in (fun vs H Q E h => ?_) (fun cdv A outer s H vs Q E hr h => ?_)
  · obtain ⟨ns, o, d, ok, oo, lt, al, q⟩ := h
    exact da_len al
  · obtain ⟨ns, o, d, ok, oo, lt, al, q⟩ := h
    have hhi := ok.hi
    refine ⟨_, (pss_cons (ps_set (i := 3) sc_rank_in.nd rfl (.inr rfl) (pe_kd k_inside_in hr (by decide) (by rfl) (pa_cons (pv 0) (pa_cons (pv 2) pa_nil))))
    (pss_one (ps_ret (pe_callB (c_len (K := K) rfl) (by rfl) B.len (by decide +kernel) (pa_cons (pe_lc (own := [("x", 4)]) (g := gName 4) rfl sc_rank_in.nd (pi_tup' (K := K) rfl (pe_slice sl_tupP (pv 1) po_none (po_some (pe_ixm' (K := K) rfl (pv 1) (pa_cons (pv 2) pa_nil))))) (blkOk_by (own := [("x", 4)]) (N := N_rank_in) (by kernel_rfl)) (fun _ _ _ _ _ => (pg_name (i := 4) sc_rank_in.nd rfl (.inl rfl))) (fun _ _ _ _ _ => (pts_one (pt_cmpR (op_in' (K := K) rfl) (pv 4) (pv 3) rfl))) (fun _ _ _ _ _ => (pv 4))) pa_nil))))), ?_⟩
    have E0 := env_go (N := N_rank_in) al
    have v0 : EvD K (tVar 0) _ H (nestD ns) := ev_var E0.va rfl
    have v2 : EvD K (tVar 2) _ H (iD d) := ev_var E0.va rfl
    refine s_asgL (i := 3) E0 (ev_callN (ea_cons v0 (ea_cons v2 ea_nil)) fun vs H2 Q _ al q => ⟨ns, d, ok, lt, al, q⟩) (nl_is _) fun v H1 e1 E1 => ?_
    have v1 : EvD K (tVar 1) _ H1 (tD o) := ev_var E1.va rfl
    have v2 : EvD K (tVar 2) _ H1 (iD d) := ev_var E1.va rfl
    have hm : d ∈ o := oo.has lt
    have hi : o.idxOf d < o.length := List.idxOf_lt_length_iff.mpr hm
    have src := (ev_slT v1 eo_none (eo_some (ev_ixm v1 v2 (j := o.idxOf d) (by rw [List.getElem?_eq_getElem hi, List.getElem_idxOf]) fun m hm e => by
      obtain ⟨h1, h2⟩ := List.getElem?_eq_some_iff.mp e
      have := oo.nd.idxOf_getElem m h1
      rw [h2] at this
      omega))).is (x := .tuple ((o.take (o.idxOf d)).map iD)) (by rw [cut_take, List.map_take])
    refine s_ret E1 ((ev_lenL (ev_lcT (c := iD) (f := fun x => (inside ns d).contains x) (e := iD) (j := 4) E1.va src (by rw [List.length_take]; have := oo.len; omega) (fun x v H2 hx e2 hv V => ?_) (fun x v H2 hx _ e2 hv V => ev_var V rfl) fun x _ _ => nl_i x).toD).is (by rw [List.length_map] <;> rfl)) q
    have v3 : EvD K (tVar 3) _ H2 (lD (inside ns d)) := ev_var V rfl
    have v4 : EvD K (tVar 4) _ H2 (iD x) := ev_var V rfl
    exact et_test (ev_inNL v4 v3)
abbrev s_ranks_in : Stmt := topS 17
abbrev N_ranks_in : List Str := ["nest", "order", "k"]
theorem sc_ranks_in : FnScope N_ranks_in ["nest", "order"] (defScope s_ranks_in) := ⟨rfl, rfl, rfl, by decide +kernel, rfl, by decide +kernel, by decide +kernel⟩
def spRanks (K : PySem.W.Frag) : Sp := fun vs H Q _ => ∃ ns o, NOk ns ∧ OOk ns.length o ∧ DtAll K H vs [nestD ns, tD o] ∧ RetD K (tD (ranksN ns o)) H Q
theorem ok_ranks_in {f : Addr} {fd : FuncData} (F : Fun K "ranks_in" "ranks_in" s_ranks_in f fd) (B : Bl mg) (k_rank_in : Kd P w K mg base "rank_in" 3 ["nest", "order", "door"] (spRank K)) : FnOk P w K mg base CX0 4 f fd ["nest", "order"] (spRanks K) := by
  refine F.ok sc_ranks_in (fun vs H Q E h => ?_) (fun cdv A outer s H vs Q E hr h => ?_)
  · obtain ⟨ns, o, ok, oo, al, q⟩ := h
    exact da_len al
  · obtain ⟨ns, o, ok, oo, al, q⟩ := h
    have hhi := ok.hi
    refine ⟨_, (pss_one (ps_ret (pe_callTy (c_tup (K := K) rfl) (by rfl) B.tuple (by decide +kernel) (pa_cons (pe_lc (own := [("k", 2)]) (g := gName 2) rfl sc_ranks_in.nd (pi_range1 (by rfl) B.range (pa_cons (pe_callB (c_len (K := K) rfl) (by rfl) B.len (by decide +kernel) (pa_cons (pv 0) pa_nil)) pa_nil)) (blkOk_by (own := [("k", 2)]) (N := N_ranks_in) (by kernel_rfl)) (fun _ _ _ _ _ => (pg_name (i := 2) sc_ranks_in.nd rfl (.inl rfl))) (fun _ _ _ _ _ => pts_nil) (fun _ _ _ _ _ => (pe_kd k_rank_in hr (by decide) (by rfl) (pa_cons (pv 0) (pa_cons (pv 1) (pa_cons (pv 2) pa_nil)))))) pa_nil)))), ?_⟩
    have E0 := env_go (N := N_ranks_in) al
    have v0 : EvD K (tVar 0) _ H (nestD ns) := ev_var E0.va rfl
    refine s_ret E0 ((ev_tupL (ev_lcR (n := ns.length) (f := fun _ => true) (e := fun k => iD (rankN ns o k)) (j := 2) E0.va ((ev_lenT v0).is (by rw [List.length_map])) (by omega) (fun k H1 hk e1 V => et_yes) (fun k H1 hk _ e1 V => ?_) fun k _ _ => nl_i _).toD).is (by rw [filter_yes]; unfold tD ranksN; rw [List.map_map] <;> rfl)) q
    have v0 : EvD K (tVar 0) _ H1 (nestD ns) := ev_var V rfl
    have v1 : EvD K (tVar 1) _ H1 (tD o) := ev_var V rfl
    have v2 : EvD K (tVar 2) _ H1 (iD k) := ev_var V rfl
    exact ev_call (ea_cons v0 (ea_cons v1 (ea_cons v2 ea_nil))) fun vs H2 Q _ al q => ⟨ns, o, k, ok, oo, hk, al, q⟩
abbrev s_allows_in : Stmt := topS 18
abbrev N_allows_in : List Str := ["nest", "numbers", "order", "k", "rank"]
theorem sc_allows_in : FnScope N_allows_in ["nest", "numbers", "order"] (defScope s_allows_in) := ⟨rfl, rfl, rfl, by decide +kernel, rfl, by decide +kernel, by decide +kernel⟩
def spAllows (K : PySem.W.Frag) : Sp := fun vs H Q _ => ∃ ns nums o, NOk ns ∧ OOk ns.length o ∧ nums.length = ns.length ∧ DtAll K H vs [nestD ns, numsD nums, tD o] ∧ RetD K (.bool (allowsN ns nums o)) H Q
theorem ok_allows_in {f : Addr} {fd : FuncData} (F : Fun K "allows_in" "allows_in" s_allows_in f fd) (B : Bl mg) (k_ranks_in : Kd P w K mg base "ranks_in" 4 ["nest", "order"] (spRanks K)) : FnOk P w K mg base CX0 5 f fd ["nest", "numbers", "order"] (spAllows K) := by
  refine F.ok sc_allows_in (fun vs H Q E h => ?_) (fun cdv A outer s H vs Q E hr h => ?_)
  · obtain ⟨ns, nums, o, ok, oo, len, al, q⟩ := h
    exact da_len al
  · obtain ⟨ns, nums, o, ok, oo, len, al, q⟩ := h
    have hhi := ok.hi
    refine ⟨_, (pss_one (ps_ret (pe_cmpR (op_eqD' (K := K) rfl hr.units) (pe_lc (own := [("k", 3), ("rank", 4)])  rfl sc_allows_in.nd (pi_enumT' (K := K) rfl (by rfl) B.enumerate (pa_cons (pe_kd k_ranks_in hr (by decide) (by rfl) (pa_cons (pv 0) (pa_cons (pv 2) pa_nil))) pa_nil)) (blkOk_by (own := [("k", 3), ("rank", 4)]) (N := N_allows_in) (by kernel_rfl)) (fun _ _ _ _ _ => (pg_tup' (K := K) (n := 2) rfl rfl (pgs_cons (pg_name (i := 3) sc_allows_in.nd rfl (.inl rfl)) (pgs_cons (pg_name (i := 4) sc_allows_in.nd rfl (.inl rfl)) pgs_nil)))) (fun _ _ _ _ _ => (pts_one (pt_cmpR (op_ni' (K := K) rfl) (pv 4) (pe_ix (ix_tup' (K := K) rfl) (pv 1) (pv 3) (fun _ _ => rfl)) rfl))) (fun _ _ _ _ _ => (pv 3))) (pe_lst pa_nil) (nomark _)))), ?_⟩
    have E0 := env_go (N := N_allows_in) al
    have v0 : EvD K (tVar 0) _ H (nestD ns) := ev_var E0.va rfl
    have v2 : EvD K (tVar 2) _ H (tD o) := ev_var E0.va rfl
    have src : EvD K (tCall (spRanks K) [] L2.E0 (tCons (tVar 0) (tCons (tVar 2) tNil))) _ H (.tuple ((List.range ns.length).map fun k => iD (rankN ns o k))) := (ev_call (ea_cons v0 (ea_cons v2 ea_nil)) fun vs H2 Q _ al q => ⟨ns, o, ok, oo, al, q⟩).is (by unfold tD ranksN; rw [List.map_map] <;> rfl)
    refine s_ret E0 (ev_eqL (l := (List.range ns.length).filter fun k => !(nums.getD k []).contains (rankN ns o k)) (m := []) (ev_lcE (i := 3) (j := 4) (e := iD) (by decide) E0.va src (by omega) (fun k v H1 hk e1 V => ?_) (fun k v H1 hk _ e1 V => ev_var V rfl) fun k _ _ => nl_i k).toD (ev_lst ea_nil (by decide)).toD) q
    have v1 : EvD K (tVar 1) _ H1 (numsD nums) := ev_var V rfl
    have v3 : EvD K (tVar 3) _ H1 (iD k) := ev_var V rfl
    have v4 : EvD K (tVar 4) _ H1 (iD (rankN ns o k)) := ev_var V rfl
    exact et_test (ev_niNT v4 (ev_ixT v1 v3 (at_ts (by omega))))
end
end Cd


set_option Elab.async false
set_option linter.all false
set_option maxRecDepth 100000
set_option maxHeartbeats 4000000
namespace Cd
open PySem PySem.Spec PyProof.Rows L2
open Evl (Ex EvT)
section
variable {P : Program} {w : World} {K : PySem.W.Frag} {mg : Str → Option Value} {base : Heap}
/-! ### numbers that an order may have -/
structure NmOk (ns : NestL) (nums : NumsL) : Prop where
  len : nums.length = ns.length
  few : ∀ k, (nums.getD k []).length ≤ 40
  nd : NumsOk nums
theorem sortN_mem {l : List Nat} (a : Nat) : a ∈ sortN l ↔ a ∈ l := (List.mergeSort_perm l _).mem_iff
theorem SOk.le {ns : NestL} {S : List Nat} (h : SOk ns S) : S.length ≤ ns.length := by
  have := fresh_length h
  omega
theorem SOk.sort {ns : NestL} {S : List Nat} (h : SOk ns S) : SOk ns (sortN S) := ⟨(List.mergeSort_perm S _).nodup_iff.mpr h.nd, fun k hk => h.lt k ((sortN_mem k).mp hk)⟩
theorem fresh_le {ns : NestL} {S : List Nat} : (fresh ns S).length ≤ ns.length := by
  unfold fresh
  exact Nat.le_trans (List.length_filter_le _ _) (by rw [List.length_range]; exact Nat.le_refl _)
theorem sizeS_le {ns : NestL} {S : List Nat} {k : Nat} (hk : k < ns.length) : sizeS ns S k ≤ ns.length := by
  unfold sizeS
  have := List.length_filter_le (fun x => (fresh ns S).contains x) (inside ns k)
  have := inside_len (ns := ns) (k := k)
  omega
abbrev s_count_in : Stmt := topS 20
abbrev N_count_in : List Str := ["nest", "state", "door", "x"]
theorem sc_count_in : FnScope N_count_in ["nest", "state", "door"] (defScope s_count_in) := ⟨rfl, rfl, rfl, by decide +kernel, rfl, by decide +kernel, by decide +kernel⟩
def spCnt (K : PySem.W.Frag) : Sp := fun vs H Q _ => ∃ ns S d, NOk ns ∧ d < ns.length ∧ DtAll K H vs [nestD ns, tD S, iD d] ∧ RetD K (iD (cnt ns S d)) H Q
theorem ok_count_in {f : Addr} {fd : FuncData} (F : Fun K "count_in" "count_in" s_count_in f fd) (B : Bl mg) (k_inside_in : Kd P w K mg base "inside_in" 2 ["nest", "door"] (spInside K)) : FnOk P w K mg base CX0 3 f fd ["nest", "state", "door"] (spCnt K) := by
  refine F.ok sc_count_in (fun vs H Q E h => ?_) (fun cdv A outer s H vs Q E hr h => ?_)
  · obtain ⟨ns, S, d, ok, lt, al, q⟩ := h
    exact da_len al
  · obtain ⟨ns, S, d, ok, lt, al, q⟩ := h
    have hhi := ok.hi
    refine ⟨_, (pss_one (ps_ret (pe_callB (c_len (K := K) rfl) (by rfl) B.len (by decide +kernel) (pa_cons (pe_lc (own := [("x", 3)]) (g := gName 3) rfl sc_count_in.nd (pi_list' (K := K) rfl (pe_kd k_inside_in hr (by decide) (by rfl) (pa_cons (pv 0) (pa_cons (pv 2) pa_nil)))) (blkOk_by (own := [("x", 3)]) (N := N_count_in) (by kernel_rfl)) (fun _ _ _ _ _ => (pg_name (i := 3) sc_count_in.nd rfl (.inl rfl))) (fun _ _ _ _ _ => (pts_one (pt_cmpR (op_in' (K := K) rfl) (pv 3) (pv 1) rfl))) (fun _ _ _ _ _ => (pv 3))) pa_nil)))), ?_⟩
    have E0 := env_go (N := N_count_in) al
    have v0 : EvD K (tVar 0) _ H (nestD ns) := ev_var E0.va rfl
    have v2 : EvD K (tVar 2) _ H (iD d) := ev_var E0.va rfl
    refine s_ret E0 ((ev_lenL (ev_lcL (c := iD) (l := inside ns d) (f := fun x => S.contains x) (e := iD) (j := 3) E0.va (ev_callN (ea_cons v0 (ea_cons v2 ea_nil)) fun vs H2 Q _ al q => ⟨ns, d, ok, lt, al, q⟩).toD (by have := inside_len (ns := ns) (k := d); omega) (fun x v H2 hx e2 hv V => ?_) (fun x v H2 hx _ e2 hv V => ev_var V rfl) fun x _ _ => nl_i x).toD).is (by rw [List.length_map] <;> rfl)) q
    have v1 : EvD K (tVar 1) _ H2 (tD S) := ev_var V rfl
    have v3 : EvD K (tVar 3) _ H2 (iD x) := ev_var V rfl
    exact et_test (ev_inNT v3 v1)
abbrev s_ready_in : Stmt := topS 21
abbrev N_ready_in : List Str := ["nest", "numbers", "state", "k"]
theorem sc_ready_in : FnScope N_ready_in ["nest", "numbers", "state"] (defScope s_ready_in) := ⟨rfl, rfl, rfl, by decide +kernel, rfl, by decide +kernel, by decide +kernel⟩
def spReady (K : PySem.W.Frag) : Sp := fun vs H Q _ => ∃ ns nums S, NOk ns ∧ NmOk ns nums ∧ DtAll K H vs [nestD ns, numsD nums, tD S] ∧ RetN K ((ready ns nums S).map iD) H Q
theorem ok_ready_in {f : Addr} {fd : FuncData} (F : Fun K "ready_in" "ready_in" s_ready_in f fd) (B : Bl mg) (k_count_in : Kd P w K mg base "count_in" 3 ["nest", "state", "door"] (spCnt K)) : FnOk P w K mg base CX0 4 f fd ["nest", "numbers", "state"] (spReady K) := by
  refine F.ok sc_ready_in (fun vs H Q E h => ?_) (fun cdv A outer s H vs Q E hr h => ?_)
  · obtain ⟨ns, nums, S, ok, nk, al, q⟩ := h
    exact da_len al
  · obtain ⟨ns, nums, S, ok, nk, al, q⟩ := h
    have hhi := ok.hi
    have hlen := nk.len
    refine ⟨_, (pss_one (ps_ret (pe_lc (own := [("k", 3)]) (g := gName 3) rfl sc_ready_in.nd (pi_range1 (by rfl) B.range (pa_cons (pe_callB (c_len (K := K) rfl) (by rfl) B.len (by decide +kernel) (pa_cons (pv 0) pa_nil)) pa_nil)) (blkOk_by (own := [("k", 3)]) (N := N_ready_in) (by kernel_rfl)) (fun _ _ _ _ _ => (pg_name (i := 3) sc_ready_in.nd rfl (.inl rfl))) (fun _ _ _ _ _ => (pts_one (PW.pt (pw_and (pt_cmpR (op_ni' (K := K) rfl) (pv 3) (pv 2) rfl) (pw_and1 (pt_cmpR (op_in' (K := K) rfl) (pe_kd k_count_in hr (by decide) (by rfl) (pa_cons (pv 0) (pa_cons (pv 2) (pa_cons (pv 3) pa_nil)))) (pe_ix (ix_tup' (K := K) rfl) (pv 1) (pv 3) (fun _ _ => rfl)) rfl)))))) (fun _ _ _ _ _ => (pv 3))))), ?_⟩
    have E0 := env_go (N := N_ready_in) al
    have v0 : EvD K (tVar 0) _ H (nestD ns) := ev_var E0.va rfl
    refine s_retN E0 (ev_lcR (n := ns.length) (f := fun k => !S.contains k && (nums.getD k []).contains (cnt ns S k)) (e := iD) (j := 3) E0.va ((ev_lenT v0).is (by rw [List.length_map])) (by omega) (fun k H1 hk e1 V => ?_) (fun k H1 hk _ e1 V => ev_var V rfl) fun k _ _ => nl_i k) q
    have v0 : EvD K (tVar 0) _ H1 (nestD ns) := ev_var V rfl
    have v1 : EvD K (tVar 1) _ H1 (numsD nums) := ev_var V rfl
    have v2 : EvD K (tVar 2) _ H1 (tD S) := ev_var V rfl
    have v3 : EvD K (tVar 3) _ H1 (iD k) := ev_var V rfl
    exact Evl.et_and (et_test (ev_niNT v3 v2)) fun _ => et_test (ev_inNT (ev_call (ea_cons v0 (ea_cons v2 (ea_cons v3 ea_nil))) fun vs H2 Q _ al q => ⟨ns, S, k, ok, hk, al, q⟩) (ev_ixT v1 v3 (at_ts (by omega))))
abbrev s_ways_in : Stmt := topS 22
abbrev N_ways_in : List Str := ["nest", "numbers", "one", "other", "fresh", "k", "top", "bottom", "begin", "size", "x"]
theorem sc_ways_in : FnScope N_ways_in ["nest", "numbers", "one", "other"] (defScope s_ways_in) := ⟨rfl, rfl, rfl, by decide +kernel, rfl, by decide +kernel, by decide +kernel⟩
def spWays (K : PySem.W.Frag) : Sp := fun vs H Q _ => ∃ ns nums S, NOk ns ∧ NmOk ns nums ∧ DtAll K H vs [nestD ns, numsD nums, tD S, tD (List.range ns.length)] ∧ RetD K (iD (ways ns nums S)) H Q
theorem ok_ways_in {f : Addr} {fd : FuncData} (F : Fun K "ways_in" "ways_in" s_ways_in f fd) (B : Bl mg) (k_inside_in : Kd P w K mg base "inside_in" 2 ["nest", "door"] (spInside K)) (k_count_in : Kd P w K mg base "count_in" 3 ["nest", "state", "door"] (spCnt K)) (k_product : Kd P w K mg base "product" 1 ["values"] (spProd K)) : FnOk P w K mg base CX0 4 f fd ["nest", "numbers", "one", "other"] (spWays K) := by
  refine F.ok sc_ways_in (fun vs H Q E h => ?_) (fun cdv A outer s H vs Q E hr h => ?_)
  · obtain ⟨ns, nums, S, ok, nk, al, q⟩ := h
    exact da_len al
  · obtain ⟨ns, nums, S, ok, nk, al, q⟩ := h
    have hhi := ok.hi
    have hlen := nk.len
    refine ⟨_, (pss_cons (ps_set (i := 4) sc_ways_in.nd rfl (.inr rfl) (pe_lc (own := [("k", 5)]) (g := gName 5) rfl sc_ways_in.nd (pi_tup' (K := K) rfl (pv 3)) (blkOk_by (own := [("k", 5)]) (N := N_ways_in) (by kernel_rfl)) (fun _ _ _ _ _ => (pg_name (i := 5) sc_ways_in.nd rfl (.inl rfl))) (fun _ _ _ _ _ => (pts_one (pt_cmpR (op_ni' (K := K) rfl) (pv 5) (pv 2) rfl))) (fun _ _ _ _ _ => (pv 5))))
    (pss_cons (ps_par (i := 6) (j := 7) rfl sc_ways_in.nd rfl rfl (by decide) rfl rfl (pa_cons (pe_kd k_product hr (by decide) (by rfl) (pa_cons (pe_listRg rfl (by rfl) B.list (prg_2 (by rfl) B.range pe_int (pe_op op_add (pe_callB (c_len (K := K) rfl) (by rfl) B.len (by decide +kernel) (pa_cons (pv 4) pa_nil)) pe_int))) pa_nil)) (pa_cons pe_int pa_nil)) (by rfl))
    (pss_cons (ps_for PassesOwn.never rfl (pi_list' (K := K) rfl (pv 4)) (pg_name (i := 5) sc_ways_in.nd rfl (.inl rfl))
      (pss_cons (ps_set (i := 8) sc_ways_in.nd rfl (.inr rfl) (pe_kd k_count_in hr (by decide) (by rfl) (pa_cons (pv 0) (pa_cons (pv 2) (pa_cons (pv 5) pa_nil)))))
      (pss_cons (ps_set (i := 9) sc_ways_in.nd rfl (.inr rfl) (pe_op op_add pe_int (pe_callB (c_len (K := K) rfl) (by rfl) B.len (by decide +kernel) (pa_cons (pe_lc (own := [("x", 10)]) (g := gName 10) rfl sc_ways_in.nd (pi_list' (K := K) rfl (pe_kd k_inside_in hr (by decide) (by rfl) (pa_cons (pv 0) (pa_cons (pv 5) pa_nil)))) (blkOk_by (own := [("x", 10)]) (N := N_ways_in) (by kernel_rfl)) (fun _ _ _ _ _ => (pg_name (i := 10) sc_ways_in.nd rfl (.inl rfl))) (fun _ _ _ _ _ => (pts_one (pt_cmpR (op_in' (K := K) rfl) (pv 10) (pv 4) rfl))) (fun _ _ _ _ _ => (pv 10))) pa_nil))))
      (pss_cons (ps_aug (i := 6) sc_ways_in.nd rfl (.inl rfl) (pe_callB (c_len (K := K) rfl) (by rfl) B.len (by decide +kernel) (pa_cons (pe_lc (own := [("x", 10)]) (g := gName 10) rfl sc_ways_in.nd (pi_tup' (K := K) rfl (pe_ix (ix_tup' (K := K) rfl) (pv 1) (pv 5) (fun _ _ => rfl))) (blkOk_by (own := [("x", 10)]) (N := N_ways_in) (by kernel_rfl)) (fun _ _ _ _ _ => (pg_name (i := 10) sc_ways_in.nd rfl (.inl rfl))) (fun _ _ _ _ _ => (pts_one (pt_chain op_le op_lt (pv 8) (pv 10) (pe_op op_add (pv 8) (pv 9))))) (fun _ _ _ _ _ => (pv 10))) pa_nil)) iop_mul)
      (pss_one (ps_aug (i := 7) sc_ways_in.nd rfl (.inl rfl) (pv 9) iop_mul))))))
    (pss_one (ps_ret (pe_op op_fdiv (pv 6) (pv 7))))))), ?_⟩
    have E0 := env_go (N := N_ways_in) al
    have v3 : EvD K (tVar 3) _ H (tD (List.range ns.length)) := ev_var E0.va rfl
    have fle := fresh_le (ns := ns) (S := S)
    refine s_asgL (i := 4) (ds := (fresh ns S).map iD) E0 (ev_lcT (c := iD) (l := List.range ns.length) (f := fun k => !S.contains k) (e := iD) (j := 5) E0.va v3 (by rw [List.length_range]; omega) (fun x v H2 hx e2 hv V => ?_) (fun x v H2 hx _ e2 hv V => ev_var V rfl) fun x _ _ => nl_i x) (nl_is _) fun v H1 e1 E1 => ?_
    · have v2 : EvD K (tVar 2) _ H2 (tD S) := ev_var V rfl
      have v5 : EvD K (tVar 5) _ H2 (iD x) := ev_var V rfl
      exact et_test (ev_niNT v5 v2)
    have v4 : EvD K (tVar 4) _ H1 (lD (fresh ns S)) := ev_var E1.va rfl
    have top0 := ev_call (K := K) (sp := spProd K) (E := L2.E0) (d := iD (factN (fresh ns S).length)) (ea_cons ((ev_listR2 (a := 1) (b := (fresh ns S).length + 1) (ev_i (i := 1)) ((ev_add (ev_lenL v4) (ev_i (i := 1))).int (by rw [List.length_map] <;> rfl)) (by omega) (by omega)).is (by rw [Nat.add_sub_cancel])).toD ea_nil) fun vs H1 Q _ al q => ⟨List.range' 1 (fresh ns S).length, fun a ha => by
      have := (List.mem_range'_1.mp ha).2
      omega, al, by rw [prod_fact]; exact q⟩
    refine s_par (i := 6) (j := 7) E1 top0 (ev_i (i := 1)) (nl_i _) (.int _) fun v w H2 E2 => ?_
    refine s_forL (c := iD) (l := fresh ns S) E2 (src_varL E2 rfl) (fun a _ => nl_i a) (fun i Γ => ∃ a b c, Γ = [.d (nestD ns), .d (numsD nums), .d (tD S), .d (tD (List.range ns.length)), .d (lD (fresh ns S)), a, .d (iD (factN (fresh ns S).length * prodN (((fresh ns S).take i).map (winS ns nums S)))), .d (iD (prodN (((fresh ns S).take i).map (sizeS ns S)))), b, c, .no]) ⟨.no, .no, .no, by rw [List.take_zero]; show _ = [_, _, _, _, _, _, G.d (iD (_ * 1)), _, _, _, _]; rw [Nat.mul_one] <;> rfl⟩ (fun i k v g σ' H' Γ' hk hΓ E3 => ?_) fun σ' H' Γ' hΓ E3 => ?_
    · obtain ⟨a, b, c, rfl⟩ := hΓ
      have lt : k < ns.length := (mem_fresh.mp (List.mem_of_getElem? hk)).1
      have v0 : EvD K (tVar 0) _ H' (nestD ns) := ev_var E3.va rfl
      have v2 : EvD K (tVar 2) _ H' (tD S) := ev_var E3.va rfl
      have v5 : EvD K (tVar 5) _ H' (iD k) := ev_var E3.va rfl
      refine s_asg (i := 8) (d := iD (cnt ns S k)) E3 (ev_call (ea_cons v0 (ea_cons v2 (ea_cons v5 ea_nil))) fun vs H2 Q _ al q => ⟨ns, S, k, ok, lt, al, q⟩) (nl_i _) fun v H4 e4 E4 => ?_
      have v0 : EvD K (tVar 0) _ H4 (nestD ns) := ev_var E4.va rfl
      have v5 : EvD K (tVar 5) _ H4 (iD k) := ev_var E4.va rfl
      refine s_asg (i := 9) (d := iD (sizeS ns S k)) E4 ((ev_add (ev_i (i := 1)) (ev_lenL (ev_lcL (c := iD) (l := inside ns k) (f := fun x => (fresh ns S).contains x) (e := iD) (j := 10) E4.va (ev_callN (ea_cons v0 (ea_cons v5 ea_nil)) fun vs H2 Q _ al q => ⟨ns, k, ok, lt, al, q⟩).toD (by have := inside_len (ns := ns) (k := k); omega) (fun x v H2 hx e2 hv V => ?_) (fun x v H2 hx _ e2 hv V => ev_var V rfl) fun x _ _ => nl_i x).toD)).int (by rw [List.length_map]; unfold sizeS; rw [Int.natCast_add] <;> rfl)) (nl_i _) fun v H5 e5 E5 => ?_
      · have v4 : EvD K (tVar 4) _ H2 (lD (fresh ns S)) := ev_var V rfl
        have v10 : EvD K (tVar 10) _ H2 (iD x) := ev_var V rfl
        exact et_test (ev_inNL v10 v4)
      have v1 : EvD K (tVar 1) _ H5 (numsD nums) := ev_var E5.va rfl
      have v5 : EvD K (tVar 5) _ H5 (iD k) := ev_var E5.va rfl
      have few := nk.few k
      have lenW : EvD K _ _ H5 (iD (winS ns nums S k)) := (ev_lenL (ev_lcT (K := K) (tt := tTest (tChain (rI0 fun i j => .bl (decide (i ≤ j))) (rI0 fun i j => .bl (decide (i < j))) (tVar 8) (tVar 10) (tOp (rI0 fun i j => .int (i + j)) (tVar 8) (tVar 9)))) (te := tVar 10) (c := iD) (l := nums.getD k []) (f := fun x => decide (cnt ns S k ≤ x) && decide (x < cnt ns S k + sizeS ns S k)) (e := iD) (j := 10) E5.va (ev_ixT v1 v5 (at_ts (by omega))) (by omega) (fun x v H2 hx e2 hv V => by
        have v8 : EvD K (tVar 8) _ H2 (iD (cnt ns S k)) := ev_var V rfl
        have v9 : EvD K (tVar 9) _ H2 (iD (sizeS ns S k)) := ev_var V rfl
        have v10 : EvD K (tVar 10) _ H2 (iD x) := ev_var V rfl
        refine Evl.et_is (et_test (ev_lelt v8 v10 (ev_add v8 v9))) ?_
        rw [Bool.eq_iff_iff, Bool.and_eq_true, Bool.and_eq_true, decide_eq_true_iff, decide_eq_true_iff, decide_eq_true_iff, decide_eq_true_iff]
        omega) (fun x v H2 hx _ e2 hv V => ev_var V rfl) fun x _ _ => nl_i x).toD).is (by rw [List.length_map] <;> rfl)
      have wl : winS ns nums S k ≤ 40 := Nat.le_trans (List.length_filter_le _ _) few
      have sl := sizeS_le (S := S) lt
      refine s_augC (i := 6) (a := ((factN (fresh ns S).length * prodN (((fresh ns S).take i).map (winS ns nums S)) : Nat) : Int)) (b := ((winS ns nums S k : Nat) : Int)) (f := fun i j => i * j) E5 rfl lenW (.inr ⟨by omega, by omega⟩) fun H6 e6 E6 => ?_
      have v9 : EvD K (tVar 9) _ H6 (iD (sizeS ns S k)) := ev_var E6.va rfl
      refine s_augC (i := 7) (a := ((prodN (((fresh ns S).take i).map (sizeS ns S)) : Nat) : Int)) (b := ((sizeS ns S k : Nat) : Int)) (f := fun i j => i * j) E6 rfl v9 (.inr ⟨by omega, by omega⟩) fun H7 e7 E7 => ⟨_, ⟨.d (iD k), .d (iD (cnt ns S k)), .d (iD (sizeS ns S k)), ?_⟩, E7⟩
      have t1 : prodN (((fresh ns S).take (i + 1)).map (winS ns nums S)) = prodN (((fresh ns S).take i).map (winS ns nums S)) * winS ns nums S k := by
        rw [List.take_add_one, hk, List.map_append, prodN_app]
        show _ * (_ * 1) = _
        rw [Nat.mul_one]
      have t2 : prodN (((fresh ns S).take (i + 1)).map (sizeS ns S)) = prodN (((fresh ns S).take i).map (sizeS ns S)) * sizeS ns S k := by
        rw [List.take_add_one, hk, List.map_append, prodN_app]
        show _ * (_ * 1) = _
        rw [Nat.mul_one]
      rw [t1, t2, ← Nat.mul_assoc]
      show _ = [_, _, _, _, _, _, G.d (.int _), G.d (.int _), _, _, _]
      rw [Int.natCast_mul (factN (fresh ns S).length * prodN (((fresh ns S).take i).map (winS ns nums S))), Int.natCast_mul (prodN (((fresh ns S).take i).map (sizeS ns S)))] <;> rfl
    · obtain ⟨a, b, c, rfl⟩ := hΓ
      rw [List.take_length] at E3
      have pos : 0 < prodN ((fresh ns S).map (sizeS ns S)) := prodN_pos fun a ha => by
        obtain ⟨k, _, rfl⟩ := List.mem_map.mp ha
        unfold sizeS
        omega
      have up : prodN ((fresh ns S).map (sizeS ns S)) ≤ 6 ^ 6 := by
        refine Nat.le_trans (prodN_le (b := 6) fun a ha => ?_) (Nat.pow_le_pow_right (by omega) (by rw [List.length_map]; omega))
        obtain ⟨k, hk, rfl⟩ := List.mem_map.mp ha
        have := sizeS_le (S := S) (mem_fresh.mp hk).1
        omega
      exact s_ret E3 ((ev_div (i := ((factN (fresh ns S).length * prodN ((fresh ns S).map (winS ns nums S)) : Nat) : Int)) (j := ((prodN ((fresh ns S).map (sizeS ns S)) : Nat) : Int)) (ev_var E3.va rfl) (ev_var E3.va rfl) ⟨by omega, by omega⟩).int (by unfold ways; rw [Int.natCast_ediv])) q
abbrev s_everyone : Stmt := topS 23
abbrev N_everyone : List Str := ["nest"]
theorem sc_everyone : FnScope N_everyone ["nest"] (defScope s_everyone) := ⟨rfl, rfl, rfl, by decide +kernel, rfl, by decide +kernel, by decide +kernel⟩
def spEvery (K : PySem.W.Frag) : Sp := fun vs H Q _ => ∃ ns, NOk ns ∧ DtAll K H vs [nestD ns] ∧ RetD K (tD (List.range ns.length)) H Q
theorem ok_everyone {f : Addr} {fd : FuncData} (F : Fun K "everyone" "everyone" s_everyone f fd) (B : Bl mg) : FnOk P w K mg base CX0 1 f fd ["nest"] (spEvery K) := by
  refine F.ok sc_everyone (fun vs H Q E h => ?_) (fun cdv A outer s H vs Q E hr h => ?_)
  · obtain ⟨ns, ok, al, q⟩ := h
    exact da_len al
  · obtain ⟨ns, ok, al, q⟩ := h
    have hhi := ok.hi
    refine ⟨_, (pss_one (ps_ret (pe_tupRgP rfl (by rfl) B.tuple (prg_1 (by rfl) B.range (pe_callB (c_len (K := K) rfl) (by rfl) B.len (by decide +kernel) (pa_cons (pv 0) pa_nil)))))), ?_⟩
    have E0 := env_go (N := N_everyone) al
    have v0 : EvD K (tVar 0) _ H (nestD ns) := ev_var E0.va rfl
    exact s_ret E0 (ev_tupR1 ((ev_lenT v0).is (by rw [List.length_map])) (by omega)) q
abbrev s_ways_behind : Stmt := topS 25
abbrev N_ways_behind : List Str := ["nest", "numbers", "begun"]
theorem sc_ways_behind : FnScope N_ways_behind ["nest", "numbers", "begun"] (defScope s_ways_behind) := ⟨rfl, rfl, rfl, by decide +kernel, rfl, by decide +kernel, by decide +kernel⟩
def spBehind (K : PySem.W.Frag) : Sp := fun vs H Q _ => ∃ ns nums S, NOk ns ∧ NmOk ns nums ∧ SOk ns S ∧ DtAll K H vs [nestD ns, numsD nums, lD S] ∧ RetD K (iD (ways ns nums S)) H Q
theorem ok_ways_behind {f : Addr} {fd : FuncData} (F : Fun K "ways_behind" "ways_behind" s_ways_behind f fd) (B : Bl mg) (k_ways_in : Kd P w K mg base "ways_in" 4 ["nest", "numbers", "one", "other"] (spWays K)) (k_everyone : Kd P w K mg base "everyone" 1 ["nest"] (spEvery K)) : FnOk P w K mg base CX0 5 f fd ["nest", "numbers", "begun"] (spBehind K) := by
  refine F.ok sc_ways_behind (fun vs H Q E h => ?_) (fun cdv A outer s H vs Q E hr h => ?_)
  · obtain ⟨ns, nums, S, ok, nk, so, al, q⟩ := h
    exact da_len al
  · obtain ⟨ns, nums, S, ok, nk, so, al, q⟩ := h
    have hhi := ok.hi
    have hle := so.le
    refine ⟨_, (pss_one (ps_ret (pe_kd k_ways_in hr (by decide) (by rfl) (pa_cons (pv 0) (pa_cons (pv 1) (pa_cons (pe_callTy (c_tup (K := K) rfl) (by rfl) B.tuple (by decide +kernel) (pa_cons (pe_callB (c_sortL (K := K) rfl) (by rfl) B.sorted (by decide +kernel) (pa_cons (pv 2) pa_nil)) pa_nil)) (pa_cons (pe_kd k_everyone hr (by decide) (by rfl) (pa_cons (pv 0) pa_nil)) pa_nil))))))), ?_⟩
    have E0 := env_go (N := N_ways_behind) al
    have v0 : EvD K (tVar 0) _ H (nestD ns) := ev_var E0.va rfl
    have v1 : EvD K (tVar 1) _ H (numsD nums) := ev_var E0.va rfl
    have v2 : EvD K (tVar 2) _ H (lD S) := ev_var E0.va rfl
    refine s_ret E0 (ev_call (ea_cons v0 (ea_cons v1 (ea_cons (ev_tupL (ev_sortL v2 (by omega) fun m p w => sort_uni p w).toD) (ea_cons (ev_call (ea_cons v0 ea_nil) fun vs H2 Q _ al q => ⟨ns, ok, al, q⟩) ea_nil)))) fun vs H2 Q _ al q => ⟨ns, nums, sortN S, ok, nk, al, ?_⟩) q
    rw [ways_perm sortN_mem]
    exact q
end
end Cd


set_option Elab.async false
set_option linter.all false
set_option maxRecDepth 100000
set_option maxHeartbeats 4000000
namespace Cd
open PySem PySem.Spec PyProof.Rows L2
open Evl (Ex EvT)
/-! E7: a list of the text's own as a parameter; loops over pairs. -/
section
variable {K : PySem.W.Frag} {H0 H H' : Hp} {σ : L2.St} {ta tb te tl tn : TE} {t u tt : TT} {x y z d : PyData} {ds es : List PyData} {Γ : List G} {X : List (V × PyData)} {D : Ends} {tu tw tz : TS}
theorem ev_own {i : Nat} {p : Addr} {vs : List V} (e : σ[i]? = some (some (V.ref p))) (hp : H p = some (.lst vs)) (al : DtAll K H vs ds) : ∀ H1, Ex H H1 → ∀ Q : VK, (∀ p vs H2, Ex H1 H2 → H2 p = some (.lst vs) → DtAll K H2 vs ds → Q (.ref p) H2) → tVar i σ H1 Q := fun H1 e1 Q q => ⟨_, e, q p vs H1 (Ex.refl H1) (e1 _ _ hp) (da_ex e1 al)⟩
theorem ev_ownD {i : Nat} {p : Addr} {vs : List V} (e : σ[i]? = some (some (V.ref p))) (hp : H p = some (.lst vs)) (al : DtAll K H vs ds) : EvD K (tVar i) σ H (.list ds) := fun H1 e1 Q q => ⟨_, e, q _ H1 (Ex.refl H1) (.lst (Evl.sq_of (e1 _ _ hp)) (da_ex e1 al))⟩
theorem ev_M {i : Nat} {p : Addr} (E : En K H0 H σ Γ X) (hi : Γ[i]? = some (.m p ds)) : ∀ H1, Ex H H1 → ∀ Q : VK, (∀ p vs H2, Ex H1 H2 → H2 p = some (.lst vs) → DtAll K H2 vs ds → Q (.ref p) H2) → tVar i σ H1 Q := by
  obtain ⟨e1, vs, e2, e3⟩ := E.lst i p ds hi
  exact ev_own e1 e2 (da_ex mask_le e3)
theorem s_forP {α : Type} {l : List α} {c1 c2 : α → PyData} {i j : Nat} (E : En K H0 H σ Γ X) (src : Src K tl σ H Γ (.list (l.map fun a => .tuple [c1 a, c2 a]))) (nl : ∀ a ∈ l, NL (c1 a) ∧ NL (c2 a)) (I : Nat → List G → Prop) (h0 : I 0 Γ)
    (hs : ∀ (k : Nat) (b : α) (v w : V) (q : V × PyData) (σ' : L2.St) (H' : Hp) (Γ' : List G), l[k]? = some b → I k Γ' → En K H0 H' ((σ'.set i (some v)).set j (some w)) ((Γ'.set i (.d (c1 b))).set j (.d (c2 b))) (q :: X) →
      tu { D with nx := fun σ2 H2 => ∃ Γ2, I (k + 1) Γ2 ∧ En K H0 H2 σ2 Γ2 (q :: X), ct := fun σ2 H2 => ∃ Γ2, I (k + 1) Γ2 ∧ En K H0 H2 σ2 Γ2 (q :: X), bk := D.nx } ((σ'.set i (some v)).set j (some w)) H')
    (hd : ∀ (σ' : L2.St) (H' : Hp) (Γ' : List G), I l.length Γ' → En K H0 H' σ' Γ' X → D.nx σ' H') : tFor (iList K tl) (gTup K 2 (gCons (gName i) (gCons (gName j) gNil))) tu D σ H := src _ fun a H1 e hsd => by
  let sd : PyData := .list (l.map fun a => .tuple [c1 a, c2 a])
  have get : ∀ H1, Dt K H1 (.ref a) sd → ∃ vs, SqL K H1 a vs ∧ DtAll K H1 vs (l.map fun a => .tuple [c1 a, c2 a]) := fun H1 h => by
    obtain ⟨a', vs, e', s, al⟩ := dt_lst h
    cases e'
    exact ⟨vs, s, al⟩
  obtain ⟨vs0, g0, al0⟩ := get H1 (dp_ex mask_le hsd)
  have len0 : vs0.length = l.length := by rw [da_len al0, List.length_map]
  let P : Nat → L2.St → Hp → Prop := fun i σ' H' => ∃ Γ', I i Γ' ∧ En K H0 H' σ' Γ' ((.ref a, sd) :: X)
  have at' : ∀ i σ' H', P i σ' H' → ∃ vs, SqL K H' a vs ∧ DtAll K H' vs (l.map fun a => .tuple [c1 a, c2 a]) := fun i σ' H' p => by
    obtain ⟨Γ', _, p2⟩ := p
    exact get H' (dp_ex mask_le (p2.gho (.ref a, sd) (by simp)))
  refine ⟨a, rfl, ⟨vs0, g0⟩, fun i m σ' H' => m = l.length - i ∧ i ≤ l.length ∧ P i σ' H', ⟨l.length, by simp, Nat.zero_le _, Γ, h0, (E.mono e).ghost hsd⟩, ?_⟩
  rintro k m σ' H' ⟨rfl, hi, p⟩
  obtain ⟨vs, g, al⟩ := at' k σ' H' p
  have len : vs.length = l.length := by rw [da_len al, List.length_map]
  obtain ⟨Γ', p1, p2⟩ := p
  by_cases lt : k < l.length
  · refine .inr ⟨walk_list.goes k H' (by omega) g, P (k + 1), fun σ2 H2 p' => ⟨l.length - (k + 1), by omega, rfl, lt, p'⟩, fun v H2 y => ?_⟩
    obtain ⟨rfl, hv⟩ := walk_list.yields k H' v H2 (by omega) g y
    obtain ⟨d, e2, hdv⟩ := da_get' al hv
    rw [List.getElem?_map, List.getElem?_eq_getElem lt] at e2
    have e2 : PyData.tuple [c1 l[k], c2 l[k]] = d := Option.some.inj e2
    subst e2
    obtain ⟨T, xs, rfl, pt, alx⟩ := dt_tup hdv
    obtain ⟨n1, n2⟩ := nl _ (List.getElem_mem lt)
    cases alx with
    | cons hx t => cases t with
      | cons hy t => cases t with
        | nil =>
          rename_i vx vy
          have p3 := p2.put (i := i) (v := vx) (g := .d (c1 l[k])) (p2.nl n1 hx)
          exact ⟨T, [vx, vy], rfl, pt.sq, rfl, vx, [vy], rfl, vy, [], rfl, rfl, hs k l[k] vx vy (.ref a, sd) σ' _ Γ' (List.getElem?_eq_getElem lt) p1 (p3.put (i := j) (v := vy) (g := .d (c2 l[k])) (p3.nl n2 hy))⟩
  · have e3 : k = l.length := by omega
    subst e3
    exact .inl ⟨len ▸ walk_list.stops H' g, hd σ' H' Γ' p1 p2.unghost⟩
end
end Cd

set_option Elab.async false
set_option linter.all false
set_option maxRecDepth 100000
set_option maxHeartbeats 4000000
namespace Cd
open PySem PySem.Spec PyProof.Rows L2
open Evl (Ex EvT)
section
variable {P : Program} {w : World} {K : PySem.W.Frag} {mg : Str → Option Value} {base : Heap}
abbrev s_choices : Stmt := topS 26
abbrev N_choices : List Str := ["nest", "numbers", "begun", "found", "k"]
theorem sc_choices : FnScope N_choices ["nest", "numbers", "begun"] (defScope s_choices) := ⟨rfl, rfl, rfl, by decide +kernel, rfl, by decide +kernel, by decide +kernel⟩
def spChoices (K : PySem.W.Frag) : Sp := fun vs H Q _ => ∃ ns nums S v0 v1 p us, NOk ns ∧ NmOk ns nums ∧ SOk ns S ∧ vs = [v0, v1, .ref p] ∧ DtAll K H [v0, v1] [nestD ns, numsD nums] ∧ H p = some (.lst us) ∧ DtAll K H us (S.map iD) ∧ RetN K ((ready ns nums S).map fun k => .tuple [iD k, iD (ways ns nums (S ++ [k]))]) H Q
theorem ready_le {ns : NestL} {nums : NumsL} {S : List Nat} : (ready ns nums S).length ≤ ns.length := by
  unfold ready
  exact Nat.le_trans (List.length_filter_le _ _) (by rw [List.length_range]; exact Nat.le_refl _)
theorem ok_choices {f : Addr} {fd : FuncData} (F : Fun K "choices" "choices" s_choices f fd) (B : Bl mg) (k_ready_in : Kd P w K mg base "ready_in" 4 ["nest", "numbers", "state"] (spReady K)) (k_ways_behind : Kd P w K mg base "ways_behind" 5 ["nest", "numbers", "begun"] (spBehind K)) : FnOk P w K mg base CX0 6 f fd ["nest", "numbers", "begun"] (spChoices K) := by
  refine F.ok sc_choices (fun vs H Q E h => ?_) (fun cdv A outer s H vs Q E hr h => ?_)
  · obtain ⟨ns, nums, S, v0, v1, p, us, ok, nk, so, rfl, _⟩ := h
    rfl
  · obtain ⟨ns, nums, S, v0, v1, p, us, ok, nk, so, rfl, al, hp, hu, q⟩ := h
    have hhi := ok.hi
    have hle := so.le
    refine ⟨_, (pss_cons (ps_set (i := 3) sc_choices.nd rfl (.inl rfl) (pe_lst pa_nil))
    (pss_cons (ps_for PassesOwn.never rfl (pi_list' (K := K) rfl (pe_kd k_ready_in hr (by decide) (by rfl) (pa_cons (pv 0) (pa_cons (pv 1) (pa_cons (pe_callTy (c_tup (K := K) rfl) (by rfl) B.tuple (by decide +kernel) (pa_cons (pe_callB (c_sortL (K := K) rfl) (by rfl) B.sorted (by decide +kernel) (pa_cons (pv 2) pa_nil)) pa_nil)) pa_nil))))) (pg_name (i := 4) sc_choices.nd rfl (.inl rfl))
      (pss_one (ps_expr (pe_app (K := K) rfl (pv 3) (pa_cons (pe_tupP (pa_cons (pv 4) (pa_cons (pe_kd k_ways_behind hr (by decide) (by rfl) (pa_cons (pv 0) (pa_cons (pv 1) (pa_cons (pe_op op_cat (pv 2) (pe_lst (pa_cons (pv 4) pa_nil))) pa_nil)))) pa_nil))) pa_nil)))))
    (pss_one (ps_ret (pv 3))))), ?_⟩
    have E0 : En K H H (L2.start N_choices [v0, v1, .ref p]) [.d (nestD ns), .d (numsD nums), .v (.ref p), .no, .no] [] := (env_go (N := N_choices) al).put (i := 2) (v := .ref p) (g := .v (.ref p)) rfl
    refine s_asgM (i := 3) (ds := []) E0 (ev_lst ea_nil (by decide)) (fun _ h => nomatch h) fun r H1 np e1 E1 => ?_
    have v0 : EvD K (tVar 0) _ H1 (nestD ns) := ev_var E1.va rfl
    have v1 : EvD K (tVar 1) _ H1 (numsD nums) := ev_var E1.va rfl
    have v2 : EvD K (tVar 2) _ H1 (lD S) := ev_ownD (E1.val 2 _ rfl) (e1 _ _ hp) (da_ex e1 hu)
    have call := ev_callN (K := K) (sp := spReady K) (E := L2.E0) (es := (ready ns nums S).map iD) (ea_cons v0 (ea_cons v1 (ea_cons (ev_tupL (ev_sortL v2 (by omega) fun m p w => sort_uni p w).toD) ea_nil))) fun vs H2 Q _ al q => ⟨ns, nums, sortN S, ok, nk, al, by rw [ready_perm sortN_mem]; exact q⟩
    refine s_forL (c := iD) (l := ready ns nums S) E1 (src_new E1 call (nl_is _)) (fun a _ => nl_i a) (fun i Γ => ∃ a, Γ = [.d (nestD ns), .d (numsD nums), .v (.ref p), .m r (((ready ns nums S).take i).map fun k => .tuple [iD k, iD (ways ns nums (S ++ [k]))]), a]) ⟨.no, rfl⟩ (fun i k v g σ' H' Γ' hk hΓ E2 => ?_) fun σ' H' Γ' hΓ E2 => ?_
    · obtain ⟨a, rfl⟩ := hΓ
      have mem := List.mem_of_getElem? hk
      have hp' := mask_le _ _ (E2.ex _ _ hp)
      have hu' := da_ex (E2.ex.trans mask_le) hu
      have v0 : EvD K (tVar 0) _ H' (nestD ns) := ev_var E2.va rfl
      have v1 : EvD K (tVar 1) _ H' (numsD nums) := ev_var E2.va rfl
      have v4 : EvD K (tVar 4) _ H' (iD k) := ev_var E2.va rfl
      have cat := ev_catL (ev_own (E2.val 2 _ rfl) hp' hu') (ev_lst (ea_cons v4 ea_nil) (by simp)) (by rw [List.length_map]; simp; omega)
      have cat : EvD K _ _ H' (lD (S ++ [k])) := cat.toD.is (by unfold lD; rw [List.map_append] <;> rfl)
      have so' := so.add (ready_fresh mem)
      refine s_app (i := 3) E2 rfl (ev_tup (ea_cons v4 (ea_cons (ev_call (d := iD (ways ns nums (S ++ [k]))) (ea_cons v0 (ea_cons v1 (ea_cons cat ea_nil))) fun vs H2 Q _ al q => ⟨ns, nums, S ++ [k], ok, nk, so', al, q⟩) ea_nil)) (by simp)) (.tup fun d hd => ?_) ?_ fun H3 E3 => ⟨_, ⟨.d (iD k), ?_⟩, E3⟩
      · simp at hd
        rcases hd with rfl | rfl <;> exact nl_i _
      · rw [List.length_map, List.length_take]
        have := ready_le (ns := ns) (nums := nums) (S := S)
        omega
      · rw [List.take_add_one, hk, List.map_append] <;> rfl
    · obtain ⟨a, rfl⟩ := hΓ
      rw [List.take_length] at E2
      exact s_retM (i := 3) E2 rfl q
abbrev s_order_at_in : Stmt := topS 27
abbrev N_order_at_in : List Str := ["nest", "numbers", "index", "begun", "left", "k", "ways"]
theorem sc_order_at_in : FnScope N_order_at_in ["nest", "numbers", "index"] (defScope s_order_at_in) := ⟨rfl, rfl, rfl, by decide +kernel, rfl, by decide +kernel, by decide +kernel⟩
def spOrderAt (K : PySem.W.Frag) : Sp := fun vs H Q _ => ∃ ns nums i, NOk ns ∧ NmOk ns nums ∧ i < (enum ns nums ns.length []).length ∧ DtAll K H vs [nestD ns, numsD nums, iD i] ∧ RetD K (tD (orderAt ns nums ns.length [] i)) H Q
theorem ok_order_at_in {f : Addr} {fd : FuncData} (F : Fun K "order_at_in" "order_at_in" s_order_at_in f fd) (B : Bl mg) (k_choices : Kd P w K mg base "choices" 6 ["nest", "numbers", "begun"] (spChoices K)) : FnOk P w K mg base CX0 7 f fd ["nest", "numbers", "index"] (spOrderAt K) := by
  refine F.ok sc_order_at_in (fun vs H Q E h => ?_) (fun cdv A outer s H vs Q E hr h => ?_)
  · obtain ⟨ns, nums, i, ok, nk, lt, al, q⟩ := h
    exact da_len al
  · obtain ⟨ns, nums, i, ok, nk, lt, al, q⟩ := h
    have hhi := ok.hi
    refine ⟨_, (pss_cons (ps_par (i := 3) (j := 4) rfl sc_order_at_in.nd rfl rfl (by decide) rfl rfl (pa_cons (pe_lst pa_nil) (pa_cons (pv 2) pa_nil)) (by rfl))
    (pss_cons (ps_while PassesOwn.never (pt_cmpR op_lt (pe_callB (c_len (K := K) rfl) (by rfl) B.len (by decide +kernel) (pa_cons (pv 3) pa_nil)) (pe_callB (c_len (K := K) rfl) (by rfl) B.len (by decide +kernel) (pa_cons (pv 0) pa_nil)) (nomark _))
      (pss_one (ps_for PassesOwn.never rfl (pi_list' (K := K) rfl (pe_kd k_choices hr (by decide) (by rfl) (pa_cons (pv 0) (pa_cons (pv 1) (pa_cons (pv 3) pa_nil))))) (pg_tup' (K := K) (n := 2) rfl rfl (pgs_cons (pg_name (i := 5) sc_order_at_in.nd rfl (.inl rfl)) (pgs_cons (pg_name (i := 6) sc_order_at_in.nd rfl (.inl rfl)) pgs_nil)))
        (pss_cons (ps_if (pt_cmpR op_lt (pv 4) (pv 6) (nomark _))
          (pss_cons (ps_set (i := 3) sc_order_at_in.nd rfl (.inl rfl) (pe_op op_cat (pv 3) (pe_lst (pa_cons (pv 5) pa_nil))))
          (pss_one ps_break)) pss_nil)
        (pss_one (ps_aug (i := 4) sc_order_at_in.nd rfl (.inl rfl) (pv 6) ip_sub))))))
    (pss_one (ps_ret (pe_callTy (c_tup (K := K) rfl) (by rfl) B.tuple (by decide +kernel) (pa_cons (pv 3) pa_nil)))))), ?_⟩
    have E0 := env_go (N := N_order_at_in) al
    have v2 : EvD K (tVar 2) _ H (iD i) := ev_var E0.va rfl
    refine s_parM (i := 3) (j := 4) (ds := []) (by decide) E0 (ev_lst ea_nil (by decide)) (fun _ h => nomatch h) v2 (nl_i _) fun p w0 H1 E1 => ?_
    refine s_while E1 (fun m Γ => ∃ p S left a b, Γ = [.d (nestD ns), .d (numsD nums), .d (iD i), .m p (S.map iD), .d (iD left), a, b] ∧ SOk ns S ∧ m + S.length = ns.length ∧ left < (enum ns nums m S).length ∧ orderAt ns nums m S left = orderAt ns nums ns.length [] i) ns.length
      ⟨p, [], i, .no, .no, rfl, sok_nil, by simp, lt, rfl⟩ (fun m σ' H' Γ' hI E2 => ?_)
    obtain ⟨p, S, left, a, b, rfl, so, hm, hl, ho⟩ := hI
    have v0 : EvD K (tVar 0) _ H' (nestD ns) := ev_var E2.va rfl
    have v3 : EvD K (tVar 3) _ H' (lD S) := ev_var E2.va rfl
    refine ⟨decide (S.length < ns.length), Evl.et_is (et_test (ev_lt (ev_lenL v3) (ev_lenT v0))) ?_, fun hb H2 E3 => ?_, fun hb H2 E3 => ?_⟩
    · rw [List.length_map, List.length_map, Bool.eq_iff_iff, decide_eq_true_iff, decide_eq_true_iff]
      omega
    · have hb := of_decide_eq_true hb
      obtain ⟨m', rfl⟩ : ∃ m', m = m' + 1 := ⟨m - 1, by omega⟩
      have hl' : left < ((ready ns nums S).flatMap fun k => enum ns nums m' (S ++ [k])).length := hl
      obtain ⟨k0, j0, e1, e2, e3, e4⟩ := pick_enum ok nk.nd so (by omega) (ready ns nums S) left (fun k hk => ready_fresh hk) hl'
      obtain ⟨_, us, hp, hu⟩ := E3.lst 3 p _ rfl
      have hu := da_ex mask_le hu
      have call : EvN K (tCall (spChoices K) [] L2.E0 (tCons (tVar 0) (tCons (tVar 1) (tCons (tVar 3) tNil)))) σ' H2 ((ready ns nums S).map fun k => .tuple [iD k, iD (ways ns nums (S ++ [k]))]) := fun H3 e3 Q q => by
        have E4 := E3.mono e3
        obtain ⟨u0, f0, d0⟩ := E4.va.2 0 (nestD ns) rfl
        obtain ⟨u1, f1, d1⟩ := E4.va.2 1 (numsD nums) rfl
        obtain ⟨f3, _⟩ := E4.lst 3 p _ rfl
        exact ⟨u0, f0, u1, f1, .ref p, f3, ns, nums, S, u0, u1, p, us, ok, nk, so, rfl, .cons d0 (.cons d1 .nil), e3 _ _ hp, da_ex e3 hu, q⟩
      have nlp : ∀ d ∈ (ready ns nums S).map (fun k => PyData.tuple [iD k, iD (ways ns nums (S ++ [k]))]), NL d := fun d hd => by
        obtain ⟨k, _, rfl⟩ := List.mem_map.mp hd
        refine .tup fun d hd => ?_
        simp at hd
        rcases hd with rfl | rfl <;> exact nl_i _
      refine s_forP (i := 5) (j := 6) (c1 := iD) (c2 := fun k => iD (ways ns nums (S ++ [k]))) (l := ready ns nums S) E3 (src_new E3 call nlp) (fun a _ => ⟨nl_i _, nl_i _⟩) (fun t Γ => ∃ l a b, Γ = [.d (nestD ns), .d (numsD nums), .d (iD i), .m p (S.map iD), .d (iD l), a, b] ∧ pickN ns nums S ((ready ns nums S).drop t) l = some (k0, j0)) ⟨left, a, b, rfl, e1⟩ (fun t k v w g σ2 H3 Γ2 hk hΓ E4 => ?_) fun σ2 H3 Γ2 hΓ E4 => ?_
      · obtain ⟨l, a, b, rfl, hpk⟩ := hΓ
        have lt : t < (ready ns nums S).length := (List.getElem?_eq_some_iff.mp hk).1
        have ek : (ready ns nums S)[t] = k := by
          rw [List.getElem?_eq_getElem lt] at hk
          exact Option.some.inj hk
        rw [List.drop_eq_getElem_cons lt, ek] at hpk
        unfold pickN at hpk
        have v4 : EvD K (tVar 4) _ H3 (iD l) := ev_var E4.va rfl
        have v6 : EvD K (tVar 6) _ H3 (iD (ways ns nums (S ++ [k]))) := ev_var E4.va rfl
        refine s_when (b := decide (l < ways ns nums (S ++ [k]))) E4 (Evl.et_is (et_test (ev_lt v4 v6)) ?_) (fun hb2 H4 e4 E5 => ?_) fun hb2 H4 e4 E5 => ?_
        · rw [Bool.eq_iff_iff, decide_eq_true_iff, decide_eq_true_iff]
          omega
        · have hb2 := of_decide_eq_true hb2
          rw [if_pos hb2] at hpk
          have hpk := Option.some.inj hpk
          have ek0 : k = k0 := congrArg Prod.fst hpk
          have ej0 : l = j0 := congrArg Prod.snd hpk
          subst ek0
          subst ej0
          have v5 : EvD K (tVar 5) _ H4 (iD k) := ev_var E5.va rfl
          have cat := ev_catL (ev_M (i := 3) E5 rfl) (ev_lst (ea_cons v5 ea_nil) (by simp)) (by rw [List.length_map]; simp; omega)
          refine s_asgM (i := 3) E5 cat (fun d hd => ?_) fun p2 H5 np e5 E6 => ⟨m', _, Nat.lt_succ_self _, ⟨p2, S ++ [k], l, .d (iD k), .d (iD (ways ns nums (S ++ [k]))), ?_, so.add (ready_fresh e2), by simp; omega, e3, ?_⟩, E6.unghost⟩
          · rcases List.mem_append.mp hd with hd | hd
            · exact nl_is _ d hd
            · exact nl_is [k] d hd
          · rw [List.map_append] <;> rfl
          · rw [← ho]
            conv => rhs; unfold orderAt
            rw [e1]
        · have hb2 := of_decide_eq_false hb2
          rw [if_neg hb2] at hpk
          have v6 : EvD K (tVar 6) _ H4 (iD (ways ns nums (S ++ [k]))) := ev_var E5.va rfl
          refine s_aug (i := 4) (a := (l : Int)) (b := ((ways ns nums (S ++ [k]) : Nat) : Int)) (f := fun i j => i - j) E5 rfl v6 fun H5 e5 E6 => ⟨_, ⟨l - ways ns nums (S ++ [k]), .d (iD k), .d (iD (ways ns nums (S ++ [k]))), ?_, hpk⟩, E6⟩
          have : ((l - ways ns nums (S ++ [k]) : Nat) : Int) = (l : Int) - ((ways ns nums (S ++ [k]) : Nat) : Int) := by omega
          show _ = [_, _, _, _, G.d (.int _), _, _]
          rw [this] <;> rfl
      · obtain ⟨l, a, b, rfl, hpk⟩ := hΓ
        rw [List.drop_length] at hpk
        exact absurd hpk (by unfold pickN; intro h; cases h)
    · have hb := of_decide_eq_false hb
      have : m = 0 := by omega
      subst this
      have ho : S = orderAt ns nums ns.length [] i := ho
      rw [← ho] at q
      have v3 : EvD K (tVar 3) _ H2 (lD _) := ev_var E3.va rfl
      exact s_ret E3 (ev_tupL v3) q
end
end Cd


set_option Elab.async false
set_option linter.all false
set_option maxRecDepth 100000
set_option maxHeartbeats 4000000
namespace Cd
open PySem PySem.Spec PyProof.Rows L2
open Evl (Ex EvT)
/-! E8: sorted(set(..)) of orders. -/
def zs (o : List Nat) : List Int := o.map fun n : Nat => (n : Int)
def cd (o : List Nat) : Int := TS.code 64 (zs o)
/-- orders that rise -/
def AscT (l : List (List Nat)) : Prop := l.Pairwise fun a b => cd a < cd b
def Flat (d : Nat) (o : List Nat) : Prop := o.length = d ∧ ∀ x ∈ o, x < 64
theorem zs_inj {a b : List Nat} (h : zs a = zs b) : a = b := by
  have := congrArg (List.map Int.toNat) h
  unfold zs at this
  rw [List.map_map, List.map_map] at this
  have id' : (Int.toNat ∘ fun n : Nat => (n : Int)) = id := by funext n; simp
  rwa [id', List.map_id, List.map_id] at this
theorem zs_bd {d : Nat} {o : List Nat} (h : Flat d o) : TS.Bd 64 (zs o) := fun m hm => by
  obtain ⟨n, hn, rfl⟩ := List.mem_map.mp hm
  have := h.2 n hn
  omega
theorem cd_inj {d : Nat} : ∀ {a b : List Int}, a.length = b.length → TS.Bd 64 a → TS.Bd 64 b → TS.code 64 a = TS.code 64 b → a = b
  | [], [], _, _, _, _ => rfl
  | [], _ :: _, e, _, _, _ => by simp at e
  | _ :: _, [], e, _, _, _ => by simp at e
  | x :: a, y :: b, e, ha, hb, h => by
    have e' : a.length = b.length := by simpa using e
    have exy : x = y := by
      rcases Int.lt_trichotomy x y with z | z | z
      · have := TS.code_lt e' ha.tail hb.tail z
        omega
      · exact z
      · have := TS.code_lt e'.symm hb.tail ha.tail z
        omega
    subst exy
    have h1 := (TS.code_same (B := 64) (d := x) (r := a) (q := b) e').mpr
    have h2 := (TS.code_same (B := 64) (d := x) (r := b) (q := a) e'.symm).mpr
    have : TS.code 64 a = TS.code 64 b := by
      rcases Int.lt_trichotomy (TS.code 64 a) (TS.code 64 b) with z | z | z
      · have := h1 z; omega
      · exact z
      · have := h2 z; omega
    rw [cd_inj (d := d) e' ha.tail hb.tail this]
theorem cd_eq0 {d : Nat} {a b : List Nat} (ha : Flat d a) (hb : Flat d b) (h : cd a = cd b) : a = b := zs_inj (cd_inj (d := d) (by unfold zs; rw [List.length_map, List.length_map, ha.1, hb.1]) (zs_bd ha) (zs_bd hb) h)
theorem pw_ext {α : Type} {f : α → Int} : ∀ {l m : List α}, l.Pairwise (fun a b => f a < f b) → m.Pairwise (fun a b => f a < f b) → (∀ k, k ∈ l ↔ k ∈ m) → l = m
  | [], [], _, _, _ => rfl
  | [], b :: m, _, _, h => absurd ((h b).mpr (by simp)) (by simp)
  | a :: l, [], _, _, h => absurd ((h a).mp (by simp)) (by simp)
  | a :: l, b :: m, hl, hm, h => by
    have h1 := List.pairwise_cons.mp hl
    have h2 := List.pairwise_cons.mp hm
    have e : a = b := by
      rcases List.mem_cons.mp ((h a).mp (by simp)) with e | e
      · exact e
      · rcases List.mem_cons.mp ((h b).mpr (by simp)) with e' | e'
        · exact e'.symm
        · have := h1.1 b e'
          have := h2.1 a e
          omega
    subst e
    rw [pw_ext h1.2 h2.2 fun k => ?_]
    constructor
    · intro hk
      rcases List.mem_cons.mp ((h k).mp (List.mem_cons_of_mem _ hk)) with e | e
      · have := h1.1 k hk
        rw [e] at this
        omega
      · exact e
    · intro hk
      rcases List.mem_cons.mp ((h k).mpr (List.mem_cons_of_mem _ hk)) with e | e
      · have := h2.1 k hk
        rw [e] at this
        omega
      · exact e
theorem AscT.nodup {l : List (List Nat)} (h : AscT l) : l.Nodup := List.Pairwise.imp (fun {a b} h e => by rw [e] at h; omega) h
section
variable {P : Program} {w : World} {K : PySem.W.Frag} {H0 H H' : Hp} {σ : L2.St} {ta : TE}
theorem da_tups : ∀ {l : List (List Nat)} {vs : List V}, DtAll K H vs (l.map tD) → ∃ ks : List (Addr × List Int), vs = ks.map (fun p => V.ref p.1) ∧ (∀ p ∈ ks, PT H p.1 (p.2.map V.int)) ∧ ks.map (·.2) = l.map zs
  | [], _, .nil => ⟨[], rfl, (fun _ h => nomatch h), rfl⟩
  | o :: l, _, .cons h t => by
    obtain ⟨ks, e, hk, em⟩ := da_tups t
    obtain ⟨a, us, rfl, pt, al⟩ := dt_tup h
    have eu := da_nat al
    subst eu
    refine ⟨(a, zs o) :: ks, by rw [e] <;> rfl, fun p hp => ?_, by rw [List.map_cons, em] <;> rfl⟩
    rcases List.mem_cons.mp hp with rfl | hp
    · exact pt
    · exact hk p hp
theorem tups_da : ∀ {ks : List (Addr × List Int)} {m : List (List Nat)}, (∀ p ∈ ks, PT H p.1 (p.2.map V.int)) → ks.map (·.2) = m.map zs → DtAll K H (ks.map fun p => V.ref p.1) (m.map tD)
  | [], [], _, _ => .nil
  | [], _ :: _, _, e => by simp at e
  | _ :: _, [], _, e => by simp at e
  | p :: ks, o :: m, h, e => by
    rw [List.map_cons, List.map_cons] at e
    injection e with e1 e2
    have pt := h p (by simp)
    rw [e1] at pt
    exact .cons (.tup pt (nat_da o)) (tups_da (fun q hq => h q (by simp [hq])) e2)
theorem mem_zs {ks : List (Addr × List Int)} {l : List (List Nat)} (e : ks.map (·.2) = l.map zs) {p : Addr × List Int} (hp : p ∈ ks) : ∃ o ∈ l, p.2 = zs o := by
  have : p.2 ∈ ks.map (·.2) := List.mem_map_of_mem hp
  rw [e] at this
  obtain ⟨o, ho, e⟩ := List.mem_map.mp this
  exact ⟨o, ho, e.symm⟩
theorem sub_zs {l : List (List Nat)} : ∀ {L : List (Addr × List Int)}, (∀ p ∈ L, ∃ o ∈ l, p.2 = zs o) → ∃ m : List (List Nat), L.map (·.2) = m.map zs ∧ ∀ o ∈ m, o ∈ l
  | [], _ => ⟨[], rfl, fun _ h => nomatch h⟩
  | p :: L, h => by
    obtain ⟨m, e, s⟩ := sub_zs (L := L) fun q hq => h q (by simp [hq])
    obtain ⟨o, ho, eo⟩ := h p (by simp)
    refine ⟨o :: m, by rw [List.map_cons, List.map_cons, e, eo], fun a ha => ?_⟩
    rcases List.mem_cons.mp ha with rfl | ha
    · exact ho
    · exact s a ha
theorem sortT_fin {d : Nat} {l m0 : List (List Nat)} {ks L : List (Addr × List Int)} {a : Addr} (hd1 : 1 ≤ d) (hd : ∀ o ∈ l, Flat d o) (hm : ∀ m, (∀ o, o ∈ m ↔ o ∈ l) → AscT m → m = m0)
    (hk : ∀ p ∈ ks, PT H p.1 (p.2.map V.int)) (ek : ks.map (·.2) = l.map zs) (s1 : ∀ p ∈ L, p ∈ ks) (s2 : ∀ p ∈ ks, p.2 ∈ L.map (·.2)) (e : Ex H H') (ha : H' a = some (SetTO P w a L)) {Q : VK} (q : ∀ p vs H3, H' p = none → Ex H' H3 → H3 p = some (.lst vs) → DtAll K H3 vs (m0.map tD) → Q (.ref p) H3) : rSortedT K P w [.ref a] H' Q := by
  have pt : ∀ p ∈ L, PT H' p.1 (p.2.map V.int) := fun p hp => (hk p (s1 p hp)).ex e
  have fl : ∀ p ∈ L, p.2.length = d ∧ TS.Bd 64 p.2 := fun p hp => by
    obtain ⟨o, ho, eo⟩ := mem_zs ek (s1 p hp)
    have f := hd o ho
    rw [eo]
    exact ⟨by unfold zs; rw [List.length_map]; exact f.1, zs_bd f⟩
  refine ⟨a, L, d, 64, rfl, ha, fun p hp => (pt p hp).sq, hd1, fl, fun L' p perm nd few pw np => ?_⟩
  obtain ⟨m, em, sm⟩ := sub_zs (l := l) (L := L') fun p hp => mem_zs ek (s1 p (perm.mem_iff.mp hp))
  have memm : ∀ o, o ∈ m ↔ o ∈ l := fun o => by
    refine ⟨sm o, fun ho => ?_⟩
    have h1 : zs o ∈ ks.map (·.2) := by rw [ek]; exact List.mem_map_of_mem ho
    obtain ⟨p, hp, ep⟩ := List.mem_map.mp h1
    have h2 := s2 p hp
    obtain ⟨p', hp', ep'⟩ := List.mem_map.mp h2
    have h3 : zs o ∈ L'.map (·.2) := List.mem_map.mpr ⟨p', perm.mem_iff.mpr hp', by rw [ep', ep]⟩
    rw [em] at h3
    obtain ⟨o', ho', eo⟩ := List.mem_map.mp h3
    exact zs_inj eo ▸ ho'
  have asc : AscT m := by
    have pw2 : (L'.map (·.2)).Pairwise fun a b => TS.code 64 a ≤ TS.code 64 b := List.pairwise_map.mpr pw
    have pw3 : (L'.map (·.2)).Pairwise fun a b => a ≠ b := nd
    rw [em] at pw2 pw3
    have pw2 := List.pairwise_map.mp pw2
    have pw3 := List.pairwise_map.mp pw3
    have : m.Pairwise fun a b => (a ∈ l ∧ b ∈ l) := by
      refine List.pairwise_of_forall_mem_list fun a ha b hb => ⟨sm a ha, sm b hb⟩
    refine List.Pairwise.imp₂ (fun a b h1 h2 => ?_) (List.Pairwise.imp₂ (S := fun a b => zs a ≠ zs b) (T := fun a b => TS.code 64 (zs a) ≤ TS.code 64 (zs b) ∧ zs a ≠ zs b) (fun _ _ h1 h2 => ⟨h1, h2⟩) pw2 pw3) this
    have ne : cd a ≠ cd b := fun e => h1.2 (congrArg zs (cd_eq0 (hd a h2.1) (hd b h2.2) e))
    have le : cd a ≤ cd b := h1.1
    omega
  have em0 := hm m memm asc
  subst em0
  exact q p _ _ np (Ex.new np) upd_same (tups_da (fun r hr => (pt r (perm.mem_iff.mp hr)).ex (Ex.new np)) em)
theorem ev_sortSetTT {d : Nat} {l m0 : List (List Nat)} (h : EvD K ta σ H (toldD l)) (few : l.length < 64) (hd1 : 1 ≤ d) (hd : ∀ o ∈ l, Flat d o) (hm : ∀ m, (∀ o, o ∈ m ↔ o ∈ l) → AscT m → m = m0) : EvN K (tCB (rSortedT K P w) (tCons (tCB (rSetTT K P w) (tCons ta tNil)) tNil)) σ H (m0.map tD) := fun H1 e Q q =>
  h H1 e _ fun v H2 e2 hv => by
    obtain ⟨a, vs, rfl, s, al⟩ := dt_tup hv
    obtain ⟨ks, rfl, hk, ek⟩ := da_tups al
    have lk : ks.length = l.length := by rw [← List.length_map (·.2), ek, List.length_map]
    refine ⟨a, ks, rfl, s.sq, fun p hp => (hk p hp).sq, by omega, fun b L nb s1 s2 => ?_⟩
    exact sortT_fin hd1 hd hm hk ek s1 s2 (Ex.new nb) upd_same fun p vs H3 np e3 hp al => q p vs H3 (Evl.fresh_back (e2.trans (Ex.new nb)) np) ((e2.trans (Ex.new nb)).trans e3) hp al
theorem ev_sortSetLT {d : Nat} {l m0 : List (List Nat)} (h : EvD K ta σ H (.list (l.map tD))) (few : l.length < 64) (hd1 : 1 ≤ d) (hd : ∀ o ∈ l, Flat d o) (hm : ∀ m, (∀ o, o ∈ m ↔ o ∈ l) → AscT m → m = m0) : EvN K (tCB (rSortedT K P w) (tCons (tCB (rSetOfT K P w) (tCons ta tNil)) tNil)) σ H (m0.map tD) := fun H1 e Q q =>
  h H1 e _ fun v H2 e2 hv => by
    obtain ⟨a, vs, rfl, s, al⟩ := dt_lst hv
    obtain ⟨ks, rfl, hk, ek⟩ := da_tups al
    have lk : ks.length = l.length := by rw [← List.length_map (·.2), ek, List.length_map]
    refine ⟨a, ks, rfl, s, fun p hp => (hk p hp).sq, by omega, fun b L nb s1 s2 => ?_⟩
    exact sortT_fin hd1 hd hm hk ek s1 s2 (Ex.new nb) upd_same fun p vs H3 np e3 hp al => q p vs H3 (Evl.fresh_back (e2.trans (Ex.new nb)) np) ((e2.trans (Ex.new nb)).trans e3) hp al
end
/-! ### is there a rising list of any members -/
def insT (o : List Nat) : List (List Nat) → List (List Nat)
  | [] => [o]
  | a :: l => if cd o < cd a then o :: a :: l else if cd o = cd a then a :: l else a :: insT o l
def ascOf : List (List Nat) → List (List Nat)
  | [] => []
  | o :: l => insT o (ascOf l)
theorem cd_eq {d : Nat} {a b : List Nat} (ha : Flat d a) (hb : Flat d b) (h : cd a = cd b) : a = b := cd_eq0 ha hb h
theorem mem_insT {d : Nat} {o x : List Nat} (ho : Flat d o) : ∀ {l : List (List Nat)}, (∀ a ∈ l, Flat d a) → (x ∈ insT o l ↔ x = o ∨ x ∈ l)
  | [], _ => by simp [insT]
  | a :: l, h => by
    unfold insT
    split
    · simp
    · split
      · rename_i _ e
        have e := cd_eq ho (h a (by simp)) e
        subst e
        simp
      · rw [List.mem_cons, mem_insT ho (fun b hb => h b (by simp [hb])), List.mem_cons]
        constructor
        · rintro (h | h | h)
          · exact .inr (.inl h)
          · exact .inl h
          · exact .inr (.inr h)
        · rintro (h | h | h)
          · exact .inr (.inl h)
          · exact .inl h
          · exact .inr (.inr h)
theorem asc_insT {d : Nat} {o : List Nat} (ho : Flat d o) : ∀ {l : List (List Nat)}, (∀ a ∈ l, Flat d a) → AscT l → AscT (insT o l)
  | [], _, _ => List.pairwise_singleton _ _
  | a :: l, h, p => by
    have p' := List.pairwise_cons.mp p
    unfold insT
    split
    · rename_i lt
      refine List.pairwise_cons.mpr ⟨fun b hb => ?_, p⟩
      rcases List.mem_cons.mp hb with rfl | hb
      · exact lt
      · have := p'.1 b hb
        omega
    · split
      · exact p
      · refine List.pairwise_cons.mpr ⟨fun b hb => ?_, asc_insT ho (fun b hb => h b (by simp [hb])) p'.2⟩
        rcases (mem_insT ho fun b hb => h b (by simp [hb])).mp hb with rfl | hb
        · omega
        · exact p'.1 b hb
theorem asc_of {d : Nat} : ∀ {l : List (List Nat)}, (∀ a ∈ l, Flat d a) → AscT (ascOf l) ∧ ∀ x, x ∈ ascOf l ↔ x ∈ l
  | [], _ => ⟨List.Pairwise.nil, fun _ => Iff.rfl⟩
  | o :: l, h => by
    obtain ⟨a, b⟩ := asc_of (l := l) fun x hx => h x (by simp [hx])
    have fl : ∀ x ∈ ascOf l, Flat d x := fun x hx => h x (by simp [(b x).mp hx])
    refine ⟨asc_insT (h o (by simp)) fl a, fun x => ?_⟩
    show x ∈ insT o (ascOf l) ↔ _
    rw [mem_insT (h o (by simp)) fl, b x, List.mem_cons]
end Cd

set_option Elab.async false
set_option linter.all false
set_option maxRecDepth 100000
set_option maxHeartbeats 4000000
namespace Cd
open PySem PySem.Spec PyProof.Rows L2
open Evl (Ex EvT)
section
variable {P : Program} {w : World} {K : PySem.W.Frag} {mg : Str → Option Value} {base : Heap}
theorem s_drop {H0 H : Hp} {σ : L2.St} {te : TE} {d : PyData} {Γ : List G} {X : List (V × PyData)} {D : Ends} (E : En K H0 H σ Γ X) (h : EvD K te σ H d) (k : ∀ H1, Ex H H1 → En K H0 H1 σ Γ X → D.nx σ H1) : tDrop te D σ H := h H (Ex.refl H) _ fun v H1 e hv => k H1 e (E.mono e)
/-- orders told: ascending -/
structure TOk (n : Nat) (told : List (List Nat)) : Prop where
  oo : ∀ o ∈ told, OOk n o
  asc : AscT told
  lo : 1 ≤ told.length
  hi : told.length ≤ 12
theorem OOk.flat {n : Nat} {o : List Nat} (h : OOk n o) (few : n ≤ 6) : Flat n o := ⟨h.len, fun x hx => by have := h.lt x hx; omega⟩
theorem srtU : Srt sortU := ⟨fun l k => mem_sortU, fun l => (asc_sortU l).nodup⟩
theorem sortU_le (l : List Nat) : (sortU l).length ≤ l.length := pigeon (asc_sortU l).nodup fun a ha => mem_sortU.mp ha
theorem least_nm {ns : NestL} {told : List (List Nat)} (few : told.length ≤ 12) : NmOk ns (leastN ns sortU told) := by
  refine ⟨by simp [leastN], fun k => ?_, least_ok srtU⟩
  by_cases hk : k < ns.length
  · rw [least_get srtU hk]
    have := sortU_le (told.map fun o => rankN ns o k)
    rw [List.length_map] at this
    omega
  · rw [List.getD_eq_getElem?_getD, List.getElem?_eq_none (by simp [leastN]; omega)]
    simp
theorem fact_le {n : Nat} (h : n ≤ 6) : factN n ≤ 720 := (by decide : ∀ n ∈ List.range 7, factN n ≤ 720) n (List.mem_range.mpr (by omega))
theorem find_at {α : Type} {p : α → Bool} {o : α} : ∀ {l : List α} {i : Nat}, (∀ a ∈ l.take i, p a = false) → l[i]? = some o → p o = true → l.find? p = some o
  | [], _, _, h, _ => by simp at h
  | a :: l, 0, _, h, hp => by
    have e : a = o := by simpa using h
    rw [List.find?_cons, e, hp]
  | a :: l, i + 1, hf, h, hp => by
    rw [List.find?_cons, hf a (by simp)]
    exact find_at (i := i) (fun b hb => hf b (by simp [hb])) (by simpa using h) hp
def optT : Option (List Nat) → PyData
  | none => .none
  | some o => tD o
abbrev s_is_told : Stmt := topS 30
abbrev N_is_told : List Str := ["nest", "value", "one"]
theorem sc_is_told : FnScope N_is_told ["nest", "value"] (defScope s_is_told) := ⟨rfl, rfl, rfl, by decide +kernel, rfl, by decide +kernel, by decide +kernel⟩
def spTold (K : PySem.W.Frag) (d : PyData) : Sp := fun vs H Q _ => ∃ ns told, NOk ns ∧ TOk ns.length told ∧ DtAll K H vs [nestD ns, toldD told] ∧ RetD K d H Q
theorem ok_is_told {f : Addr} {fd : FuncData} (F : Fun K "is_told" "is_told" s_is_told f fd) (B : Bl mg) (k_is_order : Kd P w K mg base "is_order" 2 ["nest", "value"] (spOrd K)) : FnOk P w K mg base CX0 3 f fd ["nest", "value"] (spTold K (.bool true)) := by
  refine F.ok sc_is_told (fun vs H Q E h => ?_) (fun cdv A outer s H vs Q E hr h => ?_)
  · obtain ⟨ns, told, ok, tk, al, q⟩ := h
    exact da_len al
  · obtain ⟨ns, told, ok, tk, al, q⟩ := h
    have hhi := ok.hi
    have hlo := ok.lo
    have h1 := tk.lo
    have h2 := tk.hi
    refine ⟨_, (pss_cons (ps_if (PW.pt (pw_or (pt_not (pt_val (pe_callB (c_isi (K := K) rfl) (by rfl) B.isinstance (by decide +kernel) (pa_cons (pv 1) (pa_cons (pe_bltn (v := .ty "tuple") (by rfl) B.tuple (by decide +kernel) rfl) pa_nil))))) (pw_or1 (pt_not (pt_chain op_le op_le pe_int (pe_callB (c_len (K := K) rfl) (by rfl) B.len (by decide +kernel) (pa_cons (pv 1) pa_nil)) (pe_glob (v := .int 12) rfl B.told.choose_spec ⟨_, rfl⟩))))))
      (pss_one (ps_ret pe_bl)) pss_nil)
    (pss_cons (ps_if (pt_cmpR (op_neD' (K := K) rfl hr.units) (pe_lc (own := [("one", 2)]) (g := gName 2) rfl sc_is_told.nd (pi_tup' (K := K) rfl (pv 1)) (blkOk_by (own := [("one", 2)]) (N := N_is_told) (by kernel_rfl)) (fun _ _ _ _ _ => (pg_name (i := 2) sc_is_told.nd rfl (.inl rfl))) (fun _ _ _ _ _ => (pts_one (pt_not (pt_val (pe_kd k_is_order hr (by decide) (by rfl) (pa_cons (pv 0) (pa_cons (pv 2) pa_nil))))))) (fun _ _ _ _ _ => (pv 2))) (pe_lst pa_nil) (nomark _))
      (pss_one (ps_ret pe_bl)) pss_nil)
    (pss_one (ps_ret (pe_cmpR (op_eqD' (K := K) rfl hr.units) (pe_callTy (c_list (K := K) rfl) (by rfl) B.list (by decide +kernel) (pa_cons (pv 1) pa_nil)) (pe_callB (c_sortSetT (K := K) (P := P) (w := w) rfl rfl rfl rfl) (by rfl) B.sorted (by decide +kernel) (pa_cons (pe_callTy (c_setTT (K := K) (P := P) (w := w) rfl rfl rfl rfl hr.units) (by rfl) B.set (by decide +kernel) (pa_cons (pv 1) pa_nil)) pa_nil)) (nomark _)))))), ?_⟩
    have E0 := env_go (N := N_is_told) al
    have v1 : EvD K (tVar 1) _ H (toldD told) := ev_var E0.va rfl
    refine s_when (b := false) E0 (Evl.et_is (Evl.et_or (Evl.et_not (et_B (ev_isi v1 kit_tt))) fun _ => Evl.et_not (et_test (ev_lele (ev_i (i := 1)) (ev_lenT v1) (ev_i (i := 12))))) (by
      rw [List.length_map]
      simp
      omega)) (fun h => absurd h (by decide)) fun _ H1 e1 E1 => ?_
    have v1 : EvD K (tVar 1) _ H1 (toldD told) := ev_var E1.va rfl
    have cL := ev_lcT (K := K) (te := tVar 2) (tt := tNot (tB (tCall (spOrd K) [] L2.E0 (tCons (tVar 0) (tCons (tVar 2) tNil))))) (c := tD) (l := told) (f := fun o => !ordB ns.length o) (e := tD) (j := 2) E1.va v1 (by omega) (fun o v H2 ho e2 hv V => by
      have v0 : EvD K (tVar 0) _ H2 (nestD ns) := ev_var V rfl
      have v2 : EvD K (tVar 2) _ H2 (tD o) := ev_var V rfl
      have len := (tk.oo o ho).len
      exact Evl.et_not (et_B (ev_call (ea_cons v0 (ea_cons v2 ea_nil)) fun vs H2 Q _ al q => ⟨ns, ok, .inr (.inr ⟨o, al, by omega, q⟩)⟩))) (fun o v H2 _ _ _ hv V => ev_var V rfl) (fun o _ _ => nl_t o)
    have nil : told.filter (fun o => !ordB ns.length o) = [] := List.filter_eq_nil_iff.mpr fun o ho => by rw [ordB_iff.mpr (tk.oo o ho)]; decide
    refine s_when (b := false) E1 (Evl.et_is (et_test (ev_neLT (m := []) cL.toD (ev_lst ea_nil (by decide)).toD)) (by rw [nil]; rfl)) (fun h => absurd h (by decide)) fun _ H2 e2 E2 => ?_
    have v1 : EvD K (tVar 1) _ H2 (toldD told) := ev_var E2.va rfl
    exact s_ret E2 ((ev_eqLT (l := told) (m := told) (ev_listT v1).toD (ev_sortSetTT (d := ns.length) v1 (by omega) hlo (fun o ho => (tk.oo o ho).flat hhi) fun m hm ha => pw_ext ha tk.asc hm).toD).is (by rw [decide_eq_true rfl])) q
abbrev s_need_told : Stmt := topS 31
abbrev N_need_told : List Str := ["nest", "told"]
theorem sc_need_told : FnScope N_need_told ["nest", "told"] (defScope s_need_told) := ⟨rfl, rfl, rfl, by decide +kernel, rfl, by decide +kernel, by decide +kernel⟩
theorem ok_need_told {f : Addr} {fd : FuncData} (F : Fun K "need_told" "need_told" s_need_told f fd) (k_is_told : Kd P w K mg base "is_told" 3 ["nest", "value"] (spTold K (.bool true))) : FnOk P w K mg base CX0 4 f fd ["nest", "told"] (spTold K .none) := by
  refine F.ok sc_need_told (fun vs H Q E h => ?_) (fun cdv A outer s H vs Q E hr h => ?_)
  · obtain ⟨ns, told, ok, tk, al, q⟩ := h
    exact da_len al
  · obtain ⟨ns, told, ok, tk, al, q⟩ := h
    refine ⟨_, (pss_one (ps_if (pt_not (pt_val (pe_kd k_is_told hr (by decide) (by rfl) (pa_cons (pv 0) (pa_cons (pv 1) pa_nil)))))
      (pss_one ps_never) pss_nil)), ?_⟩
    have E0 := env_go (N := N_need_told) al
    have v0 : EvD K (tVar 0) _ H (nestD ns) := ev_var E0.va rfl
    have v1 : EvD K (tVar 1) _ H (toldD told) := ev_var E0.va rfl
    exact s_when (b := false) E0 (Evl.et_is (Evl.et_not (et_B (ev_call (d := .bool true) (ea_cons v0 (ea_cons v1 ea_nil)) fun vs H2 Q _ al q => ⟨ns, told, ok, tk, al, q⟩))) rfl) (fun h => absurd h (by decide)) fun _ H1 e1 E1 => q .non H1 (E1.ex.trans mask_le) .non
abbrev s_least_in : Stmt := topS 32
abbrev N_least_in : List Str := ["nest", "told", "rows", "order", "row", "k"]
theorem sc_least_in : FnScope N_least_in ["nest", "told"] (defScope s_least_in) := ⟨rfl, rfl, rfl, by decide +kernel, rfl, by decide +kernel, by decide +kernel⟩
def spLeast (K : PySem.W.Frag) : Sp := fun vs H Q _ => ∃ ns told, NOk ns ∧ TOk ns.length told ∧ DtAll K H vs [nestD ns, toldD told] ∧ RetD K (numsD (leastN ns sortU told)) H Q
theorem ok_least_in {f : Addr} {fd : FuncData} (F : Fun K "least_in" "least_in" s_least_in f fd) (B : Bl mg) (k_ranks_in : Kd P w K mg base "ranks_in" 4 ["nest", "order"] (spRanks K)) : FnOk P w K mg base CX0 5 f fd ["nest", "told"] (spLeast K) := by
  refine F.ok sc_least_in (fun vs H Q E h => ?_) (fun cdv A outer s H vs Q E hr h => ?_)
  · obtain ⟨ns, told, ok, tk, al, q⟩ := h
    exact da_len al
  · obtain ⟨ns, told, ok, tk, al, q⟩ := h
    have hhi := ok.hi
    have h2 := tk.hi
    refine ⟨_, (pss_cons (ps_set (i := 2) sc_least_in.nd rfl (.inr rfl) (pe_lc (own := [("order", 3)]) (g := gName 3) rfl sc_least_in.nd (pi_tup' (K := K) rfl (pv 1)) (blkOk_by (own := [("order", 3)]) (N := N_least_in) (by kernel_rfl)) (fun _ _ _ _ _ => (pg_name (i := 3) sc_least_in.nd rfl (.inl rfl))) (fun _ _ _ _ _ => pts_nil) (fun _ _ _ _ _ => (pe_kd k_ranks_in hr (by decide) (by rfl) (pa_cons (pv 0) (pa_cons (pv 3) pa_nil))))))
    (pss_one (ps_ret (pe_callTy (c_tup (K := K) rfl) (by rfl) B.tuple (by decide +kernel) (pa_cons (pe_lc (own := [("k", 5)]) (g := gName 5) rfl sc_least_in.nd (pi_range1 (by rfl) B.range (pa_cons (pe_callB (c_len (K := K) rfl) (by rfl) B.len (by decide +kernel) (pa_cons (pv 0) pa_nil)) pa_nil)) (blkOk_by (own := [("k", 5)]) (N := N_least_in) (by kernel_rfl)) (fun _ _ _ _ _ => (pg_name (i := 5) sc_least_in.nd rfl (.inr rfl))) (fun _ _ _ _ _ => pts_nil) (fun _ _ _ _ _ => (pe_callTy (c_tup (K := K) rfl) (by rfl) B.tuple (by decide +kernel) (pa_cons (pe_callB (c_sortSet (w := w) rfl rfl) (by rfl) B.sorted (by decide +kernel) (pa_cons (pe_callTy (c_setL (K := K) (w := w) rfl rfl rfl) (by rfl) B.set (by decide +kernel) (pa_cons (pe_lc (own := [("row", 4)]) (g := gName 4) rfl sc_least_in.nd (pi_list' (K := K) rfl (pv 2)) (blkOk_by (own := [("row", 4)]) (N := N_least_in) (by kernel_rfl)) (fun _ _ _ _ _ => (pg_name (i := 4) sc_least_in.nd rfl (.inl rfl))) (fun _ _ _ _ _ => pts_nil) (fun _ _ _ _ _ => (pe_ix (ix_tup' (K := K) rfl) (pv 4) (pv 5) (fun _ _ => rfl)))) pa_nil)) pa_nil)) pa_nil)))) pa_nil))))), ?_⟩
    have E0 := env_go (N := N_least_in) al
    have v1 : EvD K (tVar 1) _ H (toldD told) := ev_var E0.va rfl
    refine s_asgL (i := 2) (ds := told.map fun o => tD (ranksN ns o)) E0 ((ev_lcT (c := tD) (l := told) (f := fun _ => true) (e := fun o => tD (ranksN ns o)) (j := 3) E0.va v1 (by omega) (fun o v H2 _ _ _ V => et_yes) (fun o v H2 ho _ e2 hv V => ?_) fun o _ _ => nl_t _).is (by rw [filter_yes])) (fun d hd => ?_) fun v H1 e1 E1 => ?_
    · have v0 : EvD K (tVar 0) _ H2 (nestD ns) := ev_var V rfl
      have v3 : EvD K (tVar 3) _ H2 (tD o) := ev_var V rfl
      exact ev_call (ea_cons v0 (ea_cons v3 ea_nil)) fun vs H2 Q _ al q => ⟨ns, o, ok, tk.oo o ho, al, q⟩
    · obtain ⟨o, _, rfl⟩ := List.mem_map.mp hd
      exact nl_t _
    have v0 : EvD K (tVar 0) _ H1 (nestD ns) := ev_var E1.va rfl
    refine s_ret E1 ((ev_tupL (ev_lcR (n := ns.length) (f := fun _ => true) (e := fun k => tD (sortU (told.map fun o => rankN ns o k))) (j := 5) E1.va ((ev_lenT v0).is (by rw [List.length_map])) (by omega) (fun k H2 _ _ V => et_yes) (fun k H2 hk _ e2 V => ?_) fun k _ _ => nl_t _).toD).is (by rw [filter_yes]; unfold numsD leastN; rw [List.map_map] <;> rfl)) q
    have v2 : EvD K (tVar 2) _ H2 (.list (told.map fun o => tD (ranksN ns o))) := ev_var V rfl
    have cL := ev_lcL (K := K) (tt := tYes) (te := tOp (rIxT K) (tVar 4) (tVar 5)) (c := fun o => tD (ranksN ns o)) (l := told) (f := fun _ => true) (e := fun o => iD (rankN ns o k)) (j := 4) V v2 (by omega) (fun o v H3 _ _ _ V => et_yes) (fun o v H3 ho _ e3 hv V => by
      have v4 : EvD K (tVar 4) _ H3 (tD (ranksN ns o)) := ev_var V rfl
      have v5 : EvD K (tVar 5) _ H3 (iD k) := ev_var V rfl
      exact ev_ixT v4 v5 (at_map (by unfold ranksN; rw [List.getElem?_map, List.getElem?_range hk] <;> rfl))) (fun o _ _ => nl_i _)
    exact ev_tupL (ev_sortSet (l := told.map fun o => rankN ns o k) (cL.toD.is (by rw [filter_yes]; unfold lD; rw [List.map_map] <;> rfl)) (by rw [List.length_map]; omega)).toD
abbrev s_count_of : Stmt := topS 33
abbrev N_count_of : List Str := ["nest", "told", "some"]
theorem sc_count_of : FnScope N_count_of ["nest", "told"] (defScope s_count_of) := ⟨rfl, rfl, rfl, by decide +kernel, rfl, by decide +kernel, by decide +kernel⟩
def spCount (K : PySem.W.Frag) : Sp := fun vs H Q _ => ∃ ns told, NOk ns ∧ TOk ns.length told ∧ DtAll K H vs [nestD ns, toldD told] ∧ RetD K (iD (countN ns sortU told)) H Q
theorem ok_count_of {f : Addr} {fd : FuncData} (F : Fun K "count_of" "count_of" s_count_of f fd) (B : Bl mg) (k_mixings_in : Kd P w K mg base "mixings_in" 2 ["nest"] (spMix K)) (k_product : Kd P w K mg base "product" 1 ["values"] (spProd K)) (k_least_in : Kd P w K mg base "least_in" 5 ["nest", "told"] (spLeast K)) : FnOk P w K mg base CX0 6 f fd ["nest", "told"] (spCount K) := by
  refine F.ok sc_count_of (fun vs H Q E h => ?_) (fun cdv A outer s H vs Q E hr h => ?_)
  · obtain ⟨ns, told, ok, tk, al, q⟩ := h
    exact da_len al
  · obtain ⟨ns, told, ok, tk, al, q⟩ := h
    have hhi := ok.hi
    refine ⟨_, (pss_one (ps_ret (pe_op op_mul (pe_kd k_mixings_in hr (by decide) (by rfl) (pa_cons (pv 0) pa_nil)) (pe_kd k_product hr (by decide) (by rfl) (pa_cons (pe_lc (own := [("some", 2)]) (g := gName 2) rfl sc_count_of.nd (pi_tup' (K := K) rfl (pe_kd k_least_in hr (by decide) (by rfl) (pa_cons (pv 0) (pa_cons (pv 1) pa_nil)))) (blkOk_by (own := [("some", 2)]) (N := N_count_of) (by kernel_rfl)) (fun _ _ _ _ _ => (pg_name (i := 2) sc_count_of.nd rfl (.inl rfl))) (fun _ _ _ _ _ => pts_nil) (fun _ _ _ _ _ => (pe_callB (c_len (K := K) rfl) (by rfl) B.len (by decide +kernel) (pa_cons (pv 2) pa_nil)))) pa_nil))))), ?_⟩
    have E0 := env_go (N := N_count_of) al
    have v0 : EvD K (tVar 0) _ H (nestD ns) := ev_var E0.va rfl
    have v1 : EvD K (tVar 1) _ H (toldD told) := ev_var E0.va rfl
    have nm := least_nm (ns := ns) tk.hi
    have cL := ev_lcT (K := K) (tt := tYes) (te := tCB (rLen K) (tCons (tVar 2) tNil)) (c := tD) (l := leastN ns sortU told) (f := fun _ => true) (e := fun l => iD l.length) (j := 2) E0.va (ev_call (sp := spLeast K) (E := L2.E0) (ea_cons v0 (ea_cons v1 ea_nil)) fun vs H2 Q _ al q => ⟨ns, told, ok, tk, al, q⟩) (by rw [nm.len]; omega) (fun o v H2 _ _ _ V => et_yes) (fun o v H2 _ _ e2 hv V => by
      have v2 : EvD K (tVar 2) _ H2 (tD o) := ev_var V rfl
      exact (ev_lenT v2).is (by rw [List.length_map])) (fun o _ _ => nl_i _)
    have cL2 := cL.toD.is (x := lD ((leastN ns sortU told).map List.length)) (by rw [filter_yes]; unfold lD; rw [List.map_map] <;> rfl)
    have ml : mixN ns ≤ 720 := Nat.le_trans (Nat.div_le_self _ _) (fact_le hhi)
    refine s_ret E0 ((ev_mul (i := ((mixN ns : Nat) : Int)) (j := ((prodN ((leastN ns sortU told).map List.length) : Nat) : Int)) (ev_call (ea_cons v0 ea_nil) fun vs H2 Q _ al q => ⟨ns, ok, al, q⟩) (ev_call (ea_cons cL2 ea_nil) fun vs H2 Q _ al q => ⟨_, fun a ha => ?_, al, q⟩) (.inl ⟨by omega, by omega⟩)).int (by unfold countN; rw [Int.natCast_mul])) q
    obtain ⟨l, hl, rfl⟩ := List.mem_map.mp ha
    obtain ⟨k, hk, e⟩ := List.mem_iff_getElem.mp hl
    have := nm.few k
    rw [List.getD_eq_getElem?_getD, List.getElem?_eq_getElem hk, e] at this
    exact Nat.lt_of_le_of_lt this (by decide)
abbrev s_told_count : Stmt := topS 34
abbrev N_told_count : List Str := ["nest", "told"]
theorem sc_told_count : FnScope N_told_count ["nest", "told"] (defScope s_told_count) := ⟨rfl, rfl, rfl, by decide +kernel, rfl, by decide +kernel, by decide +kernel⟩
theorem ok_told_count {f : Addr} {fd : FuncData} (F : Fun K "told_count" "told_count" s_told_count f fd) (k_need_nest : Kd P w K mg base "need_nest" 2 ["nest"] (spNest K)) (k_need_told : Kd P w K mg base "need_told" 4 ["nest", "told"] (spTold K .none)) (k_count_of : Kd P w K mg base "count_of" 6 ["nest", "told"] (spCount K)) : FnOk P w K mg base CX0 7 f fd ["nest", "told"] (spCount K) := by
  refine F.ok sc_told_count (fun vs H Q E h => ?_) (fun cdv A outer s H vs Q E hr h => ?_)
  · obtain ⟨ns, told, ok, tk, al, q⟩ := h
    exact da_len al
  · obtain ⟨ns, told, ok, tk, al, q⟩ := h
    refine ⟨_, (pss_cons (ps_expr (pe_kd k_need_nest hr (by decide) (by rfl) (pa_cons (pv 0) pa_nil)))
    (pss_cons (ps_expr (pe_kd k_need_told hr (by decide) (by rfl) (pa_cons (pv 0) (pa_cons (pv 1) pa_nil))))
    (pss_one (ps_ret (pe_kd k_count_of hr (by decide) (by rfl) (pa_cons (pv 0) (pa_cons (pv 1) pa_nil))))))), ?_⟩
    have E0 := env_go (N := N_told_count) al
    have v0 : EvD K (tVar 0) _ H (nestD ns) := ev_var E0.va rfl
    have v1 : EvD K (tVar 1) _ H (toldD told) := ev_var E0.va rfl
    refine s_drop E0 (ev_call (ea_cons v0 ea_nil) fun vs H2 Q _ al q => ⟨ns, ok, al, q⟩) fun H1 e1 E1 => ?_
    refine s_drop E1 (ev_call (ea_cons (v0.mono e1) (ea_cons (v1.mono e1) ea_nil)) fun vs H2 Q _ al q => ⟨ns, told, ok, tk, al, q⟩) fun H2 e2 E2 => ?_
    have v0 : EvD K (tVar 0) _ H2 (nestD ns) := ev_var E2.va rfl
    have v1 : EvD K (tVar 1) _ H2 (toldD told) := ev_var E2.va rfl
    exact s_ret E2 (ev_call (ea_cons v0 (ea_cons v1 ea_nil)) fun vs H2 Q _ al q => ⟨ns, told, ok, tk, al, q⟩) q
end
end Cd


set_option Elab.async false
set_option linter.all false
set_option maxRecDepth 100000
set_option maxHeartbeats 4000000
namespace Cd
open PySem PySem.Spec PyProof.Rows L2
open Evl (Ex EvT)
section
variable {P : Program} {w : World} {K : PySem.W.Frag} {mg : Str → Option Value} {base : Heap}
theorem range_cut {α : Type} {l : List α} {a b : Nat} (h : a ≤ l.length → b = a) (h2 : l.length ≤ a → l.length ≤ b) : l.take a = l.take b := by
  by_cases c : a ≤ l.length
  · rw [h c]
  · rw [List.take_of_length_le (by omega), List.take_of_length_le (h2 (by omega))]
abbrev s_third_order : Stmt := topS 35
abbrev N_third_order : List Str := ["nest", "told", "numbers", "index", "order"]
theorem sc_third_order : FnScope N_third_order ["nest", "told"] (defScope s_third_order) := ⟨rfl, rfl, rfl, by decide +kernel, rfl, by decide +kernel, by decide +kernel⟩
def spThird (K : PySem.W.Frag) : Sp := fun vs H Q _ => ∃ ns told, NOk ns ∧ TOk ns.length told ∧ DtAll K H vs [nestD ns, toldD told] ∧ RetD K (optT (thirdN ns sortU told)) H Q
theorem ok_third_order {f : Addr} {fd : FuncData} (F : Fun K "third_order" "third_order" s_third_order f fd) (B : Bl mg) (k_need_nest : Kd P w K mg base "need_nest" 2 ["nest"] (spNest K)) (k_need_told : Kd P w K mg base "need_told" 4 ["nest", "told"] (spTold K .none)) (k_least_in : Kd P w K mg base "least_in" 5 ["nest", "told"] (spLeast K)) (k_count_of : Kd P w K mg base "count_of" 6 ["nest", "told"] (spCount K)) (k_order_at_in : Kd P w K mg base "order_at_in" 7 ["nest", "numbers", "index"] (spOrderAt K)) : FnOk P w K mg base CX0 8 f fd ["nest", "told"] (spThird K) := by
  refine F.ok sc_third_order (fun vs H Q E h => ?_) (fun cdv A outer s H vs Q E hr h => ?_)
  · obtain ⟨ns, told, ok, tk, al, q⟩ := h
    exact da_len al
  · obtain ⟨ns, told, ok, tk, al, q⟩ := h
    have hhi := ok.hi
    have h2 := tk.hi
    refine ⟨_, (pss_cons (ps_expr (pe_kd k_need_nest hr (by decide) (by rfl) (pa_cons (pv 0) pa_nil)))
    (pss_cons (ps_expr (pe_kd k_need_told hr (by decide) (by rfl) (pa_cons (pv 0) (pa_cons (pv 1) pa_nil))))
    (pss_cons (ps_set (i := 2) sc_third_order.nd rfl (.inl rfl) (pe_kd k_least_in hr (by decide) (by rfl) (pa_cons (pv 0) (pa_cons (pv 1) pa_nil))))
    (pss_cons (ps_for PassesOwn.never rfl (pi_range1 (by rfl) B.range (pa_cons (pe_callB (call_min2 rfl) (by rfl) B.min (by decide +kernel) (pa_cons (pe_op op_add (pe_callB (c_len (K := K) rfl) (by rfl) B.len (by decide +kernel) (pa_cons (pv 1) pa_nil)) pe_int) (pa_cons (pe_kd k_count_of hr (by decide) (by rfl) (pa_cons (pv 0) (pa_cons (pv 1) pa_nil))) pa_nil))) pa_nil)) (pg_name (i := 3) sc_third_order.nd rfl (.inl rfl))
      (pss_cons (ps_set (i := 4) sc_third_order.nd rfl (.inl rfl) (pe_kd k_order_at_in hr (by decide) (by rfl) (pa_cons (pv 0) (pa_cons (pv 2) (pa_cons (pv 3) pa_nil)))))
      (pss_one (ps_if (pt_cmpR (op_niDT' (K := K) rfl (hu65 hr)) (pv 4) (pv 1) rfl)
        (pss_one (ps_ret (pv 4))) pss_nil))))
    (pss_one (ps_ret pe_non)))))), ?_⟩
    have E0 := env_go (N := N_third_order) al
    have v0 : EvD K (tVar 0) _ H (nestD ns) := ev_var E0.va rfl
    have v1 : EvD K (tVar 1) _ H (toldD told) := ev_var E0.va rfl
    refine s_drop E0 (ev_call (ea_cons v0 ea_nil) fun vs H2 Q _ al q => ⟨ns, ok, al, q⟩) fun H1 e1 E1 => ?_
    refine s_drop E1 (ev_call (ea_cons (v0.mono e1) (ea_cons (v1.mono e1) ea_nil)) fun vs H2 Q _ al q => ⟨ns, told, ok, tk, al, q⟩) fun H2 e2 E2 => ?_
    have v0 : EvD K (tVar 0) _ H2 (nestD ns) := ev_var E2.va rfl
    have v1 : EvD K (tVar 1) _ H2 (toldD told) := ev_var E2.va rfl
    refine s_asg (i := 2) (d := numsD (leastN ns sortU told)) E2 (ev_call (ea_cons v0 (ea_cons v1 ea_nil)) fun vs H2 Q _ al q => ⟨ns, told, ok, tk, al, q⟩) (nl_nums _) fun v H3 e3 E3 => ?_
    have v0 : EvD K (tVar 0) _ H3 (nestD ns) := ev_var E3.va rfl
    have v1 : EvD K (tVar 1) _ H3 (toldD told) := ev_var E3.va rfl
    have nm := least_nm (ns := ns) tk.hi
    have cnt := count_enum ok srtU (told := told) tk.oo
    let EN := enum ns (leastN ns sortU told) ns.length []
    have cnt : countN ns sortU told = EN.length := cnt
    let n0 : Nat := if EN.length < told.length + 1 then EN.length else told.length + 1
    have hn := ev_min2 (ev_add (ev_lenT v1) (ev_i (i := 1))) (ev_call (sp := spCount K) (E := L2.E0) (d := iD (countN ns sortU told)) (ea_cons v0 (ea_cons v1 ea_nil)) fun vs H2 Q _ al q => ⟨ns, told, ok, tk, al, q⟩)
    have hn2 := hn.int (j := (n0 : Int)) (by
      rw [List.length_map, cnt]
      show _ = ((if EN.length < told.length + 1 then EN.length else told.length + 1 : Nat) : Int)
      split <;> split <;> omega)
    have n0le : n0 ≤ 13 := by
      show (if EN.length < told.length + 1 then EN.length else told.length + 1) ≤ 13
      split <;> omega
    have n0en : n0 ≤ EN.length := by
      show (if EN.length < told.length + 1 then EN.length else told.length + 1) ≤ _
      split <;> omega
    have n0to : n0 ≤ told.length + 1 := by
      show (if EN.length < told.length + 1 then EN.length else told.length + 1) ≤ _
      split <;> omega
    have cut : EN.take (told.length + 1) = EN.take n0 := range_cut (fun h => by
      show (if EN.length < told.length + 1 then EN.length else told.length + 1) = _
      split <;> omega) fun h => by
      show _ ≤ (if EN.length < told.length + 1 then EN.length else told.length + 1)
      split <;> omega
    refine s_forR1 (n := n0) (j := 3) E3 hn2 (by omega) (fun i Γ => ∃ a b, Γ = [.d (nestD ns), .d (toldD told), .d (numsD (leastN ns sortU told)), a, b] ∧ ∀ o ∈ EN.take i, o ∈ told) ⟨.no, .no, rfl, fun o ho => by simp at ho⟩ (fun i σ' H' Γ' hi hΓ E4 => ?_) fun σ' H' Γ' hΓ E4 => ?_
    · obtain ⟨a, b, rfl, hall⟩ := hΓ
      have v0 : EvD K (tVar 0) _ H' (nestD ns) := ev_var E4.va rfl
      have v2 : EvD K (tVar 2) _ H' (numsD (leastN ns sortU told)) := ev_var E4.va rfl
      have v3 : EvD K (tVar 3) _ H' (iD i) := ev_var E4.va rfl
      have lt : i < EN.length := by omega
      have at_i := orderAt_enum ok nm.nd ns.length [] i sok_nil (by simp) lt
      refine s_asg (i := 4) (d := tD (orderAt ns (leastN ns sortU told) ns.length [] i)) E4 (ev_call (ea_cons v0 (ea_cons v2 (ea_cons v3 ea_nil))) fun vs H2 Q _ al q => ⟨ns, _, i, ok, nm, lt, al, q⟩) (nl_t _) fun v H5 e5 E5 => ?_
      have v1 : EvD K (tVar 1) _ H5 (toldD told) := ev_var E5.va rfl
      have v4 : EvD K (tVar 4) _ H5 (tD (orderAt ns (leastN ns sortU told) ns.length [] i)) := ev_var E5.va rfl
      refine s_when E5 (et_test (ev_inTT (neg := true) v4 v1)) (fun hb H6 e6 E6 => ?_) fun hb H6 e6 E6 => ⟨_, ⟨_, _, rfl, fun o ho => ?_⟩, E6⟩
      · have v4 : EvD K (tVar 4) _ H6 (tD (orderAt ns (leastN ns sortU told) ns.length [] i)) := ev_var E6.va rfl
        have e : thirdN ns sortU told = some (orderAt ns (leastN ns sortU told) ns.length [] i) := by
          unfold thirdN
          refine find_at (i := i) (fun o ho => ?_) ?_ hb
          · rw [List.take_take, Nat.min_eq_left (by omega)] at ho
            simpa using hall o ho
          · rw [List.getElem?_take, if_pos (by omega)]
            exact at_i
        rw [e] at q
        exact s_ret E6 v4 q
      · rw [List.take_add_one, show EN[i]? = _ from at_i, List.mem_append] at ho
        rcases ho with ho | ho
        · exact hall o ho
        · simp at ho
          simp at hb
          rw [ho]
          exact hb
    · obtain ⟨a, b, rfl, hall⟩ := hΓ
      have e : thirdN ns sortU told = none := by
        unfold thirdN
        rw [show enum ns (leastN ns sortU told) ns.length [] = EN from rfl, cut, List.find?_eq_none]
        intro o ho
        simpa using hall o ho
      rw [e] at q
      exact s_ret (D := { nx := fun _ H' => Q .non H', rt := Q }) E4 ev_none q
abbrev s_shows_third : Stmt := topS 36
abbrev N_shows_third : List Str := ["nest", "told", "value"]
theorem sc_shows_third : FnScope N_shows_third ["nest", "told", "value"] (defScope s_shows_third) := ⟨rfl, rfl, rfl, by decide +kernel, rfl, by decide +kernel, by decide +kernel⟩
def showB (ns : NestL) (told : List (List Nat)) (l : List Nat) : Bool := ordB ns.length l && (!told.contains l && allowsN ns (leastN ns sortU told) l)
def spShows (K : PySem.W.Frag) : Sp := fun vs H Q _ => ∃ ns told, NOk ns ∧ TOk ns.length told ∧ (
  (DtAll K H vs [nestD ns, toldD told, .none] ∧ RetD K (.bool (decide (countN ns sortU told = told.length))) H Q) ∨
  (∃ v0 v1 v ty, vs = [v0, v1, v] ∧ DtAll K H [v0, v1] [nestD ns, toldD told] ∧ v ≠ .non ∧ (∀ H1, Ex H H1 → TyX K H1 v (.type ty)) ∧ kitB ty "tuple" = some false ∧ RetD K (.bool false) H Q) ∨
  (∃ ds, DtAll K H vs [nestD ns, toldD told, .tuple ds] ∧ (∀ d ∈ ds, intBool d) ∧ (∃ d ∈ ds, isInD 0 ((ns.length : Int) - 1) d = false) ∧ ds.length ≤ 40 ∧ RetD K (.bool false) H Q) ∨
  (∃ l : List Nat, DtAll K H vs [nestD ns, toldD told, tD l] ∧ l.length ≤ 40 ∧ RetD K (.bool (showB ns told l)) H Q))
theorem ok_shows_third {f : Addr} {fd : FuncData} (F : Fun K "shows_third" "shows_third" s_shows_third f fd) (B : Bl mg) (k_need_nest : Kd P w K mg base "need_nest" 2 ["nest"] (spNest K)) (k_need_told : Kd P w K mg base "need_told" 4 ["nest", "told"] (spTold K .none)) (k_least_in : Kd P w K mg base "least_in" 5 ["nest", "told"] (spLeast K)) (k_count_of : Kd P w K mg base "count_of" 6 ["nest", "told"] (spCount K)) (k_is_order : Kd P w K mg base "is_order" 2 ["nest", "value"] (spOrd K)) (k_allows_in : Kd P w K mg base "allows_in" 5 ["nest", "numbers", "order"] (spAllows K)) : FnOk P w K mg base CX0 7 f fd ["nest", "told", "value"] (spShows K) := by
  refine F.ok sc_shows_third (fun vs H Q E h => ?_) (fun cdv A outer s H vs Q E hr h => ?_)
  · obtain ⟨ns, told, ok, tk, ⟨al, _⟩ | ⟨v0, v1, v, ty, rfl, _⟩ | ⟨ds, al, _⟩ | ⟨l, al, _⟩⟩ := h
    · exact da_len al
    · rfl
    · exact da_len al
    · exact da_len al
  · obtain ⟨ns, told, ok, tk, h⟩ := h
    have hhi := ok.hi
    have hE : ∃ g, En K H H (L2.start N_shows_third vs) [.d (nestD ns), .d (toldD told), g] [] ∧ (
        (g = .d .none ∧ RetD K (.bool (decide (countN ns sortU told = told.length))) H Q) ∨
        (∃ v ty, g = .v v ∧ v ≠ .non ∧ (∀ H1, Ex H H1 → TyX K H1 v (.type ty)) ∧ kitB ty "tuple" = some false ∧ RetD K (.bool false) H Q) ∨
        (∃ ds, g = .d (.tuple ds) ∧ (∀ d ∈ ds, intBool d) ∧ (∃ d ∈ ds, isInD 0 ((ns.length : Int) - 1) d = false) ∧ ds.length ≤ 40 ∧ RetD K (.bool false) H Q) ∨
        (∃ l : List Nat, g = .d (tD l) ∧ l.length ≤ 40 ∧ RetD K (.bool (showB ns told l)) H Q)) := by
      rcases h with ⟨al, q⟩ | ⟨v0, v1, v, ty, rfl, al, nn, hty, hk, q⟩ | ⟨ds, al, ib, hex, few, q⟩ | ⟨l, al, few, q⟩
      · exact ⟨_, env_go (N := N_shows_third) al, .inl ⟨rfl, q⟩⟩
      · exact ⟨_, (env_go (N := N_shows_third) al).put (i := 2) (v := v) (g := .v v) rfl, .inr (.inl ⟨v, ty, rfl, nn, hty, hk, q⟩)⟩
      · exact ⟨_, env_go (N := N_shows_third) al, .inr (.inr (.inl ⟨ds, rfl, ib, hex, few, q⟩))⟩
      · exact ⟨_, env_go (N := N_shows_third) al, .inr (.inr (.inr ⟨l, rfl, few, q⟩))⟩
    clear h
    obtain ⟨g, E0, h⟩ := hE
    refine ⟨_, (pss_cons (ps_expr (pe_kd k_need_nest hr (by decide) (by rfl) (pa_cons (pv 0) pa_nil)))
    (pss_cons (ps_expr (pe_kd k_need_told hr (by decide) (by rfl) (pa_cons (pv 0) (pa_cons (pv 1) pa_nil))))
    (pss_cons (ps_if (pt_cmpR op_isN (pv 2) pe_non (nomark _))
      (pss_one (ps_ret (pe_cmpR op_eq (pe_kd k_count_of hr (by decide) (by rfl) (pa_cons (pv 0) (pa_cons (pv 1) pa_nil))) (pe_callB (c_len (K := K) rfl) (by rfl) B.len (by decide +kernel) (pa_cons (pv 1) pa_nil)) (nomark _)))) pss_nil)
    (pss_one (ps_ret (pe_and (pe_kd k_is_order hr (by decide) (by rfl) (pa_cons (pv 0) (pa_cons (pv 2) pa_nil))) (pe_and (pe_cmpR (op_niDT' (K := K) rfl (hu65 hr)) (pv 2) (pv 1) rfl) (pe_one (pe_kd k_allows_in hr (by decide) (by rfl) (pa_cons (pv 0) (pa_cons (pe_kd k_least_in hr (by decide) (by rfl) (pa_cons (pv 0) (pa_cons (pv 1) pa_nil))) (pa_cons (pv 2) pa_nil)))))))))))), ?_⟩
    have v0 : EvD K (tVar 0) _ H (nestD ns) := ev_var E0.va rfl
    have v1 : EvD K (tVar 1) _ H (toldD told) := ev_var E0.va rfl
    refine s_drop E0 (ev_call (ea_cons v0 ea_nil) fun vs H2 Q _ al q => ⟨ns, ok, al, q⟩) fun H1 e1 E1 => ?_
    refine s_drop E1 (ev_call (ea_cons (v0.mono e1) (ea_cons (v1.mono e1) ea_nil)) fun vs H2 Q _ al q => ⟨ns, told, ok, tk, al, q⟩) fun H2 e2 E2 => ?_
    rcases h with ⟨rfl, q⟩ | ⟨v, ty, rfl, nn, hty, hk, q⟩ | ⟨ds, rfl, ib, hex, few, q⟩ | ⟨l, rfl, few, q⟩
    · have v2 : EvD K (tVar 2) _ H2 .none := ev_var E2.va rfl
      refine s_when (b := true) E2 (et_test (ev_isN v2)) (fun _ H3 e3 E3 => ?_) fun h => absurd h (by decide)
      have v0 : EvD K (tVar 0) _ H3 (nestD ns) := ev_var E3.va rfl
      have v1 : EvD K (tVar 1) _ H3 (toldD told) := ev_var E3.va rfl
      exact s_ret E3 ((ev_eqI (ev_call (d := iD (countN ns sortU told)) (ea_cons v0 (ea_cons v1 ea_nil)) fun vs H2 Q _ al q => ⟨ns, told, ok, tk, al, q⟩) (ev_lenT v1)).is (by rw [List.length_map]; congr 1; rw [decide_eq_decide]; omega)) q
    · have tst : EvT (tTest (tOp (fun x y H Q => y = V.non ∧ Q (V.bl (decide (x = V.non))) H) (tVar 2) (tC V.non))) (L2.start N_shows_third vs) H2 false := fun H3 e3 Q q => ⟨v, E2.val 2 v rfl, rfl, false, by rw [decide_eq_false nn], q H3 (Ex.refl H3)⟩
      refine s_when (b := false) E2 tst (fun h => absurd h (by decide)) fun _ H3 e3 E3 => ?_
      have call : EvD K (tCall (spOrd K) [] L2.E0 (tCons (tVar 0) (tCons (tVar 2) tNil))) _ H3 (.bool false) := fun H4 e4 Q4 q4 => by
        obtain ⟨u0, f0, d0⟩ := (E3.mono e4).va.2 0 (nestD ns) rfl
        exact ⟨u0, f0, v, E3.val 2 v rfl, ns, ok, .inl ⟨u0, v, ty, rfl, d0, fun H5 e5 => hty H5 ((((e1.trans e2).trans e3).trans e4).trans e5), hk, q4⟩⟩
      exact s_ret E3 ((ev_and (a := false) (b := false) call fun h => absurd h (by decide)).is (x := .bool false) rfl) q
    · have v2 : EvD K (tVar 2) _ H2 (.tuple ds) := ev_var E2.va rfl
      refine s_when (b := false) E2 (et_test (ev_isN v2)) (fun h => absurd h (by decide)) fun _ H3 e3 E3 => ?_
      have v0 : EvD K (tVar 0) _ H3 (nestD ns) := ev_var E3.va rfl
      have v2 : EvD K (tVar 2) _ H3 (.tuple ds) := ev_var E3.va rfl
      exact s_ret E3 ((ev_and (a := false) (b := false) (ev_call (ea_cons v0 (ea_cons v2 ea_nil)) fun vs H2 Q _ al q => ⟨ns, ok, .inr (.inl ⟨ds, al, ib, hex, few, q⟩)⟩) fun h => absurd h (by decide)).is (x := .bool false) rfl) q
    · have v2 : EvD K (tVar 2) _ H2 (tD l) := ev_var E2.va rfl
      refine s_when (b := false) E2 (et_test (ev_isN v2)) (fun h => absurd h (by decide)) fun _ H3 e3 E3 => ?_
      have v0 : EvD K (tVar 0) _ H3 (nestD ns) := ev_var E3.va rfl
      have v1 : EvD K (tVar 1) _ H3 (toldD told) := ev_var E3.va rfl
      have v2 : EvD K (tVar 2) _ H3 (tD l) := ev_var E3.va rfl
      refine s_ret E3 (ev_and (a := ordB ns.length l) (ev_call (ea_cons v0 (ea_cons v2 ea_nil)) fun vs H2 Q _ al q => ⟨ns, ok, .inr (.inr ⟨l, al, few, q⟩)⟩) fun hb => ev_and (ev_inTT (neg := true) v2 v1) fun _ => ev_call (ea_cons v0 (ea_cons (ev_call (ea_cons v0 (ea_cons v1 ea_nil)) fun vs H2 Q _ al q => ⟨ns, told, ok, tk, al, q⟩) (ea_cons v2 ea_nil))) fun vs H2 Q _ al q => ⟨ns, _, l, ok, ordB_iff.mp hb, (least_nm (ns := ns) tk.hi).len, al, q⟩) q
end
end Cd


set_option Elab.async false
set_option linter.all false
set_option maxRecDepth 100000
set_option maxHeartbeats 4000000
namespace Cd
open PySem PySem.Spec PyProof.Rows L2
open Evl (Ex EvT)
section
variable {P : Program} {w : World} {K : PySem.W.Frag} {mg : Str → Option Value} {base : Heap}
/-! E9: the script's row, which the law's defs read on in. -/
def rowV (sc : Addr) (i s c : Int) : List V := [.ref sc, .int i, .int s, .int c]
def RowOk (sc : Addr) (vs : List V) : Prop := ∃ i s c : Int, vs = rowV sc i s c ∧ 0 ≤ i ∧ 0 ≤ s ∧ s < 2147483647
def ScD (script : List Int) : PyData := .list (script.map PyData.int)
def RowAt (H : Hp) (r sc : Addr) : Prop := ∃ vs, RowOk sc vs ∧ H r = some (.lst vs)
def RowIn (K : PySem.W.Frag) (H : Hp) (r sc : Addr) (script : List Int) : Prop := RowAt H r sc ∧ Dt K (mask [r] H) (.ref sc) (ScD script)
def RowQ (K : PySem.W.Frag) (H : Hp) (r sc : Addr) (R : PyData → Prop) (Q : VK) : Prop := ∀ v d H', R d → NL d → Ex (mask [r] H) (mask [r] H') → RowAt H' r sc → Dt K H' v d → Q v H'
def RowQN (K : PySem.W.Frag) (H : Hp) (r sc : Addr) (R : List PyData → Prop) (Q : VK) : Prop := ∀ p us ds H', R ds → (∀ d ∈ ds, NL d) → H p = none → Ex (mask [r] H) (mask [r] H') → RowAt H' r sc → H' p = some (.lst us) → DtAll K H' us ds → Q (.ref p) H'
/-- a number below n -/
def Lt (n : Nat) (d : PyData) : Prop := ∃ z : Nat, d = iD z ∧ z < n
theorem mask_sub {M : List Addr} {H : Hp} {r : Addr} (h : r ∈ M) : Ex (mask M H) (mask [r] H) := mask_mono (fun _ _ h => h) fun a _ _ m => by
  rw [List.mem_singleton] at m
  exact m ▸ h
/-- expressions that read on in the row -/
def EvW (K : PySem.W.Frag) (H0 : Hp) (r sc : Addr) (script : List Int) (i0 : Nat) (σ : L2.St) (Γ : List G) (te : TE) (R : PyData → Prop) : Prop :=
  ∀ H vs X, RowOk sc vs → ((V.ref sc, ScD script) : V × PyData) ∈ X → En K H0 H σ (Γ.set i0 (.r r vs)) X → ∀ Q : VK, (∀ v d H1 vs1, R d → NL d → RowOk sc vs1 → En K H0 H1 σ (Γ.set i0 (.r r vs1)) ((v, d) :: X) → Q v H1) → te σ H Q
def EvWN (K : PySem.W.Frag) (H0 : Hp) (r sc : Addr) (script : List Int) (i0 : Nat) (σ : L2.St) (Γ : List G) (te : TE) (R : List PyData → Prop) : Prop :=
  ∀ H vs X, RowOk sc vs → ((V.ref sc, ScD script) : V × PyData) ∈ X → En K H0 H σ (Γ.set i0 (.r r vs)) X → ∀ Q : VK, (∀ p us ds Hm H1 vs1, R ds → (∀ d ∈ ds, NL d) → RowOk sc vs1 → En K H0 Hm σ (Γ.set i0 (.r r vs1)) X → Hm p = none → Ex Hm H1 → H1 p = some (.lst us) → DtAll K H1 us ds → Q (.ref p) H1) → te σ H Q
def EvWT (K : PySem.W.Frag) (H0 : Hp) (r sc : Addr) (script : List Int) (i0 : Nat) (σ : L2.St) (Γ : List G) (tt : TT) (R : Bool → Prop) : Prop :=
  ∀ H vs X, RowOk sc vs → ((V.ref sc, ScD script) : V × PyData) ∈ X → En K H0 H σ (Γ.set i0 (.r r vs)) X → ∀ Q : Bool → Hp → Prop, (∀ b H1 vs1, R b → RowOk sc vs1 → En K H0 H1 σ (Γ.set i0 (.r r vs1)) X → Q b H1) → tt σ H Q
section
variable {H0 H : Hp} {r sc : Addr} {script : List Int} {i0 : Nat} {σ : L2.St} {Γ : List G} {X : List (V × PyData)} {vs : List V} {te ta tb tc : TE} {t u : TT} {R Ra Rb : PyData → Prop} {RN : List PyData → Prop} {d : PyData} {D : Ends} {tu tw : TS}
theorem set_same (h : Γ[i0]? = some (.r r vs)) : Γ.set i0 (.r r vs) = Γ := by
  refine List.ext_getElem? fun j => ?_
  by_cases e : j = i0
  · subst e
    rw [List.getElem?_set_self (List.getElem?_eq_some_iff.mp h).1, h]
  · rw [List.getElem?_set_ne (Ne.symm e)]
theorem En.rowAt (E : En K H0 H σ Γ X) (hi : Γ[i0]? = some (.r r vs)) (ok : RowOk sc vs) (hs : ((V.ref sc, ScD script) : V × PyData) ∈ X) : RowIn K H r sc script :=
  ⟨⟨vs, ok, (E.raw i0 r vs hi).2⟩, dp_ex (mask_sub (mem_ms.mpr ⟨i0, _, hi, rfl⟩)) (E.gho _ hs)⟩
theorem ew_pure (h : ∀ H vs X, En K H0 H σ (Γ.set i0 (.r r vs)) X → EvD K te σ H d) (n : NL d) (hR : R d) : EvW K H0 r sc script i0 σ Γ te R := fun H vs X ok hs E Q q =>
  h H vs X E H (Ex.refl H) Q fun v H1 e hv => q v d H1 vs hR n ok ((E.mono e).ghost ((E.mono e).nl n hv))
theorem ew_op {rop : R2} (ha : EvW K H0 r sc script i0 σ Γ ta Ra) (hb : EvW K H0 r sc script i0 σ Γ tb Rb) (hr : ∀ u v H x y, Ra x → Rb y → Dt K H u x → Dt K H v y → ∀ Q : VK, (∀ w d, R d → NL d → (∀ H, Dt K H w d) → Q w H) → rop u v H Q) : EvW K H0 r sc script i0 σ Γ (tOp rop ta tb) R := fun H vs X ok hs E Q q =>
  ha H vs X ok hs E _ fun v d H1 vs1 pd nd ok1 E1 => hb H1 vs1 _ ok1 (List.mem_cons_of_mem _ hs) E1 _ fun w e H2 vs2 pe ne ok2 E2 =>
    hr v w H2 d e pd pe (dp_ex mask_le (E2.gho (v, d) (by simp))) (dp_ex mask_le (E2.gho (w, e) (by simp))) Q fun z dz pz nz hz => q z dz H2 vs2 pz nz ok2 (E2.unghost.unghost.ghost (hz _))
/-- after a def that has read on -/
theorem En.rowOn {H1 : Hp} (E : En K H0 H σ (Γ.set i0 (.r r vs)) X) (lt : i0 < Γ.length) (e : Ex (mask [r] H) (mask [r] H1)) (ra : RowAt H1 r sc) : ∃ vs1, RowOk sc vs1 ∧ En K H0 H1 σ (Γ.set i0 (.r r vs1)) X := by
  obtain ⟨vs1, ok1, h1⟩ := ra
  refine ⟨vs1, ok1, ?_⟩
  have := E.updR (i := i0) (List.getElem?_set_self lt) e h1
  rwa [List.set_set] at this
theorem ew_call2 {sp : Sp} {EE : XK} (lt : i0 < Γ.length) (hb : EvW K H0 r sc script i0 σ Γ tb Ra) (hs : ∀ w e H (Q : VK), Ra e → Dt K H w e → RowIn K H r sc script → RowQ K H r sc R Q → sp [.ref r, w] H Q EE) : EvW K H0 r sc script i0 σ Γ (tCall sp [] EE (tCons (tVar i0) (tCons tb tNil))) R := fun H vs X ok hS E Q q =>
  ⟨.ref r, (E.raw i0 r vs (List.getElem?_set_self lt)).1, hb H vs X ok hS E _ fun w e H1 vs1 pe ne ok1 E1 => by
    show sp ([.ref r, w] ++ []) H1 Q EE
    rw [List.append_nil]
    refine hs w e H1 Q pe (dp_ex mask_le (E1.gho (w, e) (by simp))) (E1.rowAt (List.getElem?_set_self lt) ok1 (List.mem_cons_of_mem _ hS)) fun v d H2 pd nd ex ra hv => ?_
    obtain ⟨vs2, ok2, E2⟩ := E1.rowOn lt ex ra
    exact q v d H2 vs2 pd nd ok2 (E2.unghost.ghost (E2.nl nd hv))⟩
theorem ew_call3 {sp : Sp} {EE : XK} (lt : i0 < Γ.length) (hb : EvW K H0 r sc script i0 σ Γ tb Ra) (hc : EvW K H0 r sc script i0 σ Γ tc Rb) (hs : ∀ w x e f H (Q : VK), Ra e → Rb f → Dt K H w e → Dt K H x f → RowIn K H r sc script → RowQ K H r sc R Q → sp [.ref r, w, x] H Q EE) : EvW K H0 r sc script i0 σ Γ (tCall sp [] EE (tCons (tVar i0) (tCons tb (tCons tc tNil)))) R := fun H vs X ok hS E Q q =>
  ⟨.ref r, (E.raw i0 r vs (List.getElem?_set_self lt)).1, hb H vs X ok hS E _ fun w e H1 vs1 pe ne ok1 E1 => hc H1 vs1 _ ok1 (List.mem_cons_of_mem _ hS) E1 _ fun x f H2 vs2 pf nf ok2 E2 => by
    show sp ([.ref r, w, x] ++ []) H2 Q EE
    rw [List.append_nil]
    refine hs w x e f H2 Q pe pf (dp_ex mask_le (E2.gho (w, e) (by simp))) (dp_ex mask_le (E2.gho (x, f) (by simp))) (E2.rowAt (List.getElem?_set_self lt) ok2 (List.mem_cons_of_mem _ (List.mem_cons_of_mem _ hS))) fun v d H3 pd nd ex ra hv => ?_
    obtain ⟨vs3, ok3, E3⟩ := E2.rowOn lt ex ra
    exact q v d H3 vs3 pd nd ok3 (E3.unghost.unghost.ghost (E3.nl nd hv))⟩
theorem ewn_call2 {sp : Sp} {EE : XK} (lt : i0 < Γ.length) (hb : EvW K H0 r sc script i0 σ Γ tb Ra) (hs : ∀ w e H (Q : VK), Ra e → Dt K H w e → RowIn K H r sc script → RowQN K H r sc RN Q → sp [.ref r, w] H Q EE) : EvWN K H0 r sc script i0 σ Γ (tCall sp [] EE (tCons (tVar i0) (tCons tb tNil))) RN := fun H vs X ok hS E Q q =>
  ⟨.ref r, (E.raw i0 r vs (List.getElem?_set_self lt)).1, hb H vs X ok hS E _ fun w e H1 vs1 pe ne ok1 E1 => by
    show sp ([.ref r, w] ++ []) H1 Q EE
    rw [List.append_nil]
    have hr1 := (E1.raw i0 r vs1 (List.getElem?_set_self lt)).2
    refine hs w e H1 Q pe (dp_ex mask_le (E1.gho (w, e) (by simp))) (E1.rowAt (List.getElem?_set_self lt) ok1 (List.mem_cons_of_mem _ hS)) fun p us ds H2 pd nd np ex ra hp al => ?_
    have pr : r ≠ p := by rintro rfl; rw [np] at hr1; cases hr1
    have ex2 : Ex (mask [r] H1) (mask [r] (mask [p] H2)) := fun a o h => by
      have ha := ex a o h
      by_cases m : a = r
      · rw [m, mask_in (by simp)] at h
        cases h
      · have ap : a ≠ p := by
          rintro rfl
          rw [mask_out (by simpa using m), np] at h
          cases h
        rw [mask_out (by simpa using m)] at ha ⊢
        rw [mask_out (by simpa using ap)]
        exact ha
    have ra2 : RowAt (mask [p] H2) r sc := by
      obtain ⟨ws, o1, o2⟩ := ra
      exact ⟨ws, o1, by rw [mask_out (by simpa using pr)]; exact o2⟩
    obtain ⟨vs2, ok2, E2⟩ := E1.rowOn lt ex2 ra2
    exact q p us ds _ H2 vs2 pd nd ok2 E2.unghost (mask_in (by simp)) mask_le hp al⟩
/-- tuple(..) of a new list -/
theorem ew_tupN (h : EvWN K H0 r sc script i0 σ Γ te RN) : EvW K H0 r sc script i0 σ Γ (tCB (rTupP K) (tCons te tNil)) (fun d => ∃ ds, d = .tuple ds ∧ RN ds) := fun H vs X ok hS E Q q =>
  h H vs X ok hS E _ fun p us ds Hm H1 vs1 pd nd ok1 E1 np e hp al => ⟨p, us, rfl, .inl ⟨Evl.sq_of hp, fun p' H' _ e' pt => q _ (.tuple ds) H' vs1 ⟨ds, rfl, pd⟩ (.tup nd) ok1 ((E1.mono (e.trans e')).ghost ((E1.mono (e.trans e')).nl (.tup nd) (.tup pt (da_ex e' al))))⟩⟩
/-! tests -/
theorem et_w {RB : Bool → Prop} (h : EvW K H0 r sc script i0 σ Γ te (fun d => ∃ b, d = .bool b ∧ RB b)) : EvWT K H0 r sc script i0 σ Γ (tTest te) RB := fun H vs X ok hS E Q q => h H vs X ok hS E _ fun v d H1 vs1 pd _ ok1 E1 => by
  obtain ⟨b, rfl, hb⟩ := pd
  exact ⟨b, dp_bool (E1.gho _ (List.mem_cons_self ..)), q b H1 vs1 hb ok1 E1.unghost⟩
theorem et_p {RB : Bool → Prop} {b : Bool} (h : ∀ H vs X, En K H0 H σ (Γ.set i0 (.r r vs)) X → EvT t σ H b) (hb : RB b) : EvWT K H0 r sc script i0 σ Γ t RB := fun H vs X ok hS E Q q => h H vs X E H (Ex.refl H) Q fun H1 e => q b H1 vs hb ok (E.mono e)
theorem et_andW {RA RB : Bool → Prop} (h1 : EvWT K H0 r sc script i0 σ Γ t RA) (h2 : EvWT K H0 r sc script i0 σ Γ u RB) : EvWT K H0 r sc script i0 σ Γ (tAnd t u) (fun b => b = true → RA true ∧ RB true) := fun H vs X ok hS E Q q => h1 H vs X ok hS E _ fun a H1 vs1 ha ok1 E1 => by
  cases a with
  | true =>
    rw [if_pos rfl]
    exact h2 H1 vs1 X ok1 hS E1 Q fun b H2 vs2 hb ok2 E2 => q b H2 vs2 (fun e => by subst e; exact ⟨ha, hb⟩) ok2 E2
  | false =>
    rw [if_neg Bool.false_ne_true]
    exact q false H1 vs1 (fun e => absurd e Bool.false_ne_true) ok1 E1
theorem et_orW {RA RB : Bool → Prop} (h1 : EvWT K H0 r sc script i0 σ Γ t RA) (h2 : EvWT K H0 r sc script i0 σ Γ u RB) : EvWT K H0 r sc script i0 σ Γ (tOr t u) (fun b => b = false → RA false ∧ RB false) := fun H vs X ok hS E Q q => h1 H vs X ok hS E _ fun a H1 vs1 ha ok1 E1 => by
  cases a with
  | true =>
    rw [if_pos rfl]
    exact q true H1 vs1 (fun e => absurd e (by decide)) ok1 E1
  | false =>
    rw [if_neg Bool.false_ne_true]
    exact h2 H1 vs1 X ok1 hS E1 Q fun b H2 vs2 hb ok2 E2 => q b H2 vs2 (fun e => by subst e; exact ⟨ha, hb⟩) ok2 E2
theorem ew_if {RB : Bool → Prop} (h : EvWT K H0 r sc script i0 σ Γ t RB) (h1 : RB true → EvW K H0 r sc script i0 σ Γ ta R) (h2 : RB false → EvW K H0 r sc script i0 σ Γ tb R) : EvW K H0 r sc script i0 σ Γ (tIf t ta tb) R := fun H vs X ok hS E Q q => h H vs X ok hS E _ fun b H1 vs1 hb ok1 E1 => by
  cases b with
  | true =>
    rw [if_pos rfl]
    exact h1 hb H1 vs1 X ok1 hS E1 Q q
  | false =>
    rw [if_neg Bool.false_ne_true]
    exact h2 hb H1 vs1 X ok1 hS E1 Q q
/-! statements -/
variable (E : En K H0 H σ Γ X) (hi : Γ[i0]? = some (.r r vs)) (ok : RowOk sc vs) (hS : ((V.ref sc, ScD script) : V × PyData) ∈ X)
include E hi ok hS
theorem s_asgW {i : Nat} (h : EvW K H0 r sc script i0 σ Γ te R) (k : ∀ v d H1 vs1, R d → RowOk sc vs1 → En K H0 H1 (σ.set i (some v)) ((Γ.set i0 (.r r vs1)).set i (.d d)) X → D.nx (σ.set i (some v)) H1) : tAsg te (gName i) D σ H :=
  h H vs X ok hS ((set_same hi).symm ▸ E) _ fun v d H1 vs1 pd _ ok1 E1 => k v d H1 vs1 pd ok1 (E1.unghost.put (g := .d d) (E1.gho _ (List.mem_cons_self ..)))
theorem s_asgWN {i : Nat} (h : EvWN K H0 r sc script i0 σ Γ te RN) (k : ∀ p ds H1 vs1, RN ds → RowOk sc vs1 → En K H0 H1 (σ.set i (some (.ref p))) ((Γ.set i0 (.r r vs1)).set i (.m p ds)) X → D.nx (σ.set i (some (.ref p))) H1) : tAsg te (gName i) D σ H :=
  h H vs X ok hS ((set_same hi).symm ▸ E) _ fun p us ds Hm H1 vs1 pd nd ok1 E1 np e hp al => k p ds H1 vs1 pd ok1 (E1.putM e np hp al nd)
theorem s_ifW {RB : Bool → Prop} (h : EvWT K H0 r sc script i0 σ Γ t RB) (h1 : ∀ H1 vs1, RB true → RowOk sc vs1 → En K H0 H1 σ (Γ.set i0 (.r r vs1)) X → tu D σ H1) (h2 : ∀ H1 vs1, RB false → RowOk sc vs1 → En K H0 H1 σ (Γ.set i0 (.r r vs1)) X → tw D σ H1) : tIfS t tu tw D σ H :=
  h H vs X ok hS ((set_same hi).symm ▸ E) _ fun b H1 vs1 hb ok1 E1 => by
    cases b with
    | true =>
      rw [if_pos rfl]
      exact h1 H1 vs1 hb ok1 E1
    | false =>
      rw [if_neg Bool.false_ne_true]
      exact h2 H1 vs1 hb ok1 E1
theorem s_appW {i : Nat} {p : Addr} {ds : List PyData} (hii : i ≠ i0) (hp : Γ[i]? = some (.m p ds)) (h : EvW K H0 r sc script i0 σ Γ te R) (few : ds.length < 100000) (k : ∀ d H1 vs1, R d → RowOk sc vs1 → En K H0 H1 σ ((Γ.set i0 (.r r vs1)).set i (.m p (ds ++ [d]))) X → D.nx σ H1) : tDrop (tBM K "list" rAppend (tVar i) (tCons te tNil)) D σ H := by
  obtain ⟨e1, ws, e2, e3⟩ := E.lst i p ds hp
  refine ⟨.ref p, e1, Or.inl ⟨rfl, ws, Evl.sq_of e2⟩, h H vs X ok hS ((set_same hi).symm ▸ E) _ fun v d H1 vs1 pd nd ok1 E1 => ?_⟩
  have hp1 : (Γ.set i0 (.r r vs1))[i]? = some (.m p ds) := (List.getElem?_set_ne (Ne.symm hii)).trans hp
  obtain ⟨_, us, e4, e5⟩ := E1.lst i p ds hp1
  exact ⟨p, us, v, rfl, rfl, e4, Evl.sz_lt (by rw [da_len e5]; exact few), k d _ vs1 pd ok1 (E1.unghost.upd hp1 (da_app e5 (.cons (E1.gho (v, d) (List.mem_cons_self ..)) .nil)))⟩
theorem s_forRW {tn : TE} {j : Nat} {B : Nat} (hB : B ≤ 100000) (hn : EvW K H0 r sc script i0 σ Γ tn (Lt B)) (go : ∀ n v H1 vs1, n < B → RowOk sc vs1 → En K H0 H1 σ (Γ.set i0 (.r r vs1)) X → EvD K (tC v) σ H1 (iD n) → tFor (iRng1 (tCons (tC v) tNil)) (gName j) tu D σ H1) : tFor (iRng1 (tCons tn tNil)) (gName j) tu D σ H :=
  hn H vs X ok hS ((set_same hi).symm ▸ E) _ fun v d H1 vs1 pd _ ok1 E1 => by
    obtain ⟨n, rfl, lt⟩ := pd
    have ev : v = .int (n : Int) := dp_int (E1.gho _ (List.mem_cons_self ..))
    subst ev
    exact go n _ H1 vs1 lt ok1 E1.unghost ev_i
theorem s_retW {Hc : Hp} (h : EvW K H0 r sc script i0 σ Γ te R) (lt : i0 < Γ.length) (e0 : H0 = mask [r] Hc) (q : RowQ K Hc r sc R D.rt) : tRet te D σ H :=
  h H vs X ok hS ((set_same hi).symm ▸ E) _ fun v d H1 vs1 pd nd ok1 E1 => q v d H1 pd nd (by rw [← e0]; exact E1.ex.trans (mask_sub (mem_ms.mpr ⟨i0, _, List.getElem?_set_self lt, rfl⟩))) ⟨vs1, ok1, (E1.raw i0 r vs1 (List.getElem?_set_self lt)).2⟩ (dp_ex mask_le (E1.gho _ (List.mem_cons_self ..)))
omit hS in
theorem s_retP {Hc : Hp} (h : EvD K te σ H d) (pd : R d) (nd : NL d) (e0 : H0 = mask [r] Hc) (q : RowQ K Hc r sc R D.rt) : tRet te D σ H :=
  h H (Ex.refl H) _ fun v H1 e hv => q v d H1 pd nd (by rw [← e0]; exact (E.mono e).ex.trans (mask_sub (mem_ms.mpr ⟨i0, _, hi, rfl⟩))) ⟨vs, ok, ((E.mono e).raw i0 r vs hi).2⟩ hv

omit hS in
theorem s_retMW {Hc : Hp} {i : Nat} {p : Addr} {ds : List PyData} (hp : Γ[i]? = some (.m p ds)) (pd : RN ds) (nd : ∀ d ∈ ds, NL d) (e0 : H0 = mask [r] Hc) (q : RowQN K Hc r sc RN D.rt) : tRet (tVar i) D σ H := by
  obtain ⟨e1, us, e2, e3⟩ := E.lst i p ds hp
  have ir : p ≠ r := by
    rintro rfl
    have := E.one i i0 _ _ p hp hi rfl rfl
    subst this
    rw [hi] at hp
    cases hp
  refine ⟨.ref p, e1, q p us ds H pd nd ?_ (by rw [← e0]; exact E.ex.trans (mask_sub (mem_ms.mpr ⟨i0, _, hi, rfl⟩))) ⟨vs, ok, (E.raw i0 r vs hi).2⟩ e2 (da_ex mask_le e3)⟩
  cases h : Hc p with
  | none => rfl
  | some o =>
    have := E.ex p o (by rw [e0, mask_out (by simpa using ir)]; exact h)
    rw [mask_in (mem_ms.mpr ⟨i, _, hp, rfl⟩)] at this
    cases this
omit hS ok in
theorem ev_raw {j : Int} {v : V} (e : atI vs j = some v) (hv : Dt K H v d) : EvD K (tOp (rIxL K) (tVar i0) (tC (.int j))) σ H d := fun H1 e1 Q q => by
  obtain ⟨f1, f2⟩ := (E.mono e1).raw i0 r vs hi
  exact ⟨.ref r, f1, r, vs, j, v, rfl, rfl, Evl.sq_of f2, e, q v H1 (Ex.refl H1) (dp_ex e1 hv)⟩
omit hS ok in
theorem s_setR {j : Nat} {x : Int} (h : EvD K te σ H (.int x)) (lt : j < vs.length) (k : ∀ H1, En K H0 H1 σ (Γ.set i0 (.r r (vs.set j (.int x)))) X → D.nx σ H1) : tAsg te (gSub (tVar i0) (tC (.int (j : Int))) rSetL) D σ H :=
  h H (Ex.refl H) _ fun v H1 e hv => by
    have ev := dp_int hv
    subst ev
    have E1 := E.mono e
    obtain ⟨f1, f2⟩ := E1.raw i0 r vs hi
    exact ⟨.ref r, f1, r, vs, (j : Int), j, rfl, rfl, f2, Evl.ixN_nat lt, k _ (E1.updR hi ex_upd upd_same)⟩
end
/-- the start of a def whose first parameter is the row -/
theorem env_rowG {H : Hp} {N : List Str} {r sc : Addr} {script : List Int} {us : List V} {ds : List PyData} (h : RowIn K H r sc script) (al' : DtAll K (mask [r] H) us ds) (le : Nat.ble (ds.length + 1) N.length = true := by rfl) : ∃ vs, RowOk sc vs ∧ En K (mask [r] H) H (L2.start N (.ref r :: us)) (.r r vs :: (ds.map G.d ++ List.replicate (N.length - (ds.length + 1)) G.no)) [(V.ref sc, ScD script)] := by
  obtain ⟨⟨vs, ok, hr⟩, hsc⟩ := h
  have hl := da_len al'
  have le := Nat.le_of_ble_eq_true le
  have own0 : ∀ (i : Nat) (g : G), (ds.map G.d ++ List.replicate (N.length - (ds.length + 1)) G.no)[i]? = some g → own g = none := fun i g q => by
    have := List.mem_of_getElem? q
    rcases List.mem_append.mp this with h | h
    · obtain ⟨x, _, rfl⟩ := List.mem_map.mp h
      rfl
    · rw [List.eq_of_mem_replicate h] <;> rfl
  have nil : (ds.map G.d ++ List.replicate (N.length - (ds.length + 1)) G.no).filterMap own = [] := by
    rw [List.filterMap_eq_nil_iff]
    intro g hg
    obtain ⟨i, q⟩ := List.mem_iff_getElem?.mp hg
    exact own0 i g q
  have msr : ms (.r r vs :: (ds.map G.d ++ List.replicate (N.length - (ds.length + 1)) G.no)) = [r] := by
    unfold ms
    rw [List.filterMap_cons, nil] <;> rfl
  refine ⟨vs, ok, ⟨by simp [L2.start]; omega, by rw [msr]; exact Ex.refl _, fun i x q => ?_, fun i p es q => ?_, fun i p ws q => ?_, fun i u q => ?_, fun i j g1 g2 p h1 h2 o1 o2 => ?_, fun q hq => by
    rw [List.mem_singleton] at hq
    subst hq
    rw [msr]
    exact hsc⟩⟩
  · cases i with
    | zero => cases q
    | succ i =>
      have q : (ds.map G.d ++ List.replicate (N.length - (ds.length + 1)) G.no)[i]? = some (.d x) := q
      rw [msr]
      have lti : i < (ds.map G.d).length := by
        refine Nat.lt_of_not_le fun z => ?_
        rw [List.getElem?_append_right z] at q
        have := List.mem_of_getElem? q
        simp at this
      rw [List.getElem?_append_left lti, List.getElem?_map] at q
      cases e : ds[i]? with
      | none => rw [e] at q; cases q
      | some y =>
        rw [e] at q
        have q : y = x := G.d.inj (Option.some.inj q)
        subst q
        obtain ⟨v, e1, e2⟩ := da_get al' e
        refine ⟨v, ?_, e2⟩
        unfold L2.start
        rw [List.getElem?_append_left (by simp at lti ⊢; omega), List.getElem?_map, List.getElem?_cons_succ, e1] <;> rfl
  · cases i with
    | zero => cases q
    | succ i => exact absurd (own0 i _ q) (by simp [own])
  · cases i with
    | zero =>
      cases q
      exact ⟨rfl, hr⟩
    | succ i => exact absurd (own0 i _ q) (by simp [own])
  · cases i with
    | zero => cases q
    | succ i =>
      have := List.mem_of_getElem? (show (ds.map G.d ++ List.replicate (N.length - (ds.length + 1)) G.no)[i]? = some (.v u) from q)
      simp at this
  · cases i with
    | zero => cases j with
      | zero => rfl
      | succ j => rw [own0 j g2 h2] at o2; cases o2
    | succ i => rw [own0 i g1 h1] at o1; cases o1
theorem row_nl {H : Hp} {r sc : Addr} {script : List Int} {us : List V} {ds : List PyData} (h : RowIn K H r sc script) (al : DtAll K H us ds) (nl : ∀ d ∈ ds, NL d) : DtAll K (mask [r] H) us ds := da_nl (mask_rd fun p hp => by
  obtain ⟨⟨vs, ok, hr⟩, hsc⟩ := h
  rw [List.mem_singleton] at hp
  exact ⟨vs, hp ▸ hr⟩) nl al
theorem env_row {H : Hp} {N : List Str} {r sc : Addr} {script : List Int} {us : List V} {ds : List PyData} (h : RowIn K H r sc script) (al : DtAll K H us ds) (nl : ∀ d ∈ ds, NL d) (le : Nat.ble (ds.length + 1) N.length = true := by rfl) : ∃ vs, RowOk sc vs ∧ En K (mask [r] H) H (L2.start N (.ref r :: us)) (.r r vs :: (ds.map G.d ++ List.replicate (N.length - (ds.length + 1)) G.no)) [(V.ref sc, ScD script)] := env_rowG h (row_nl h al nl) le
end
end Cd

set_option Elab.async false
set_option linter.all false
set_option maxRecDepth 100000
set_option maxHeartbeats 4000000
namespace Cd
open PySem PySem.Spec PyProof.Rows L2
open Evl (Ex EvT)
section
variable {P : Program} {w : World} {K : PySem.W.Frag} {mg : Str → Option Value} {base : Heap}
theorem mod_lt {x : Int} {n : Nat} (h : 1 ≤ n) : Lt n (.int (x % (n : Int))) := by
  have a := Int.emod_nonneg x (b := (n : Int)) (by omega)
  have b := Int.emod_lt_of_pos x (b := (n : Int)) (by omega)
  refine ⟨(x % (n : Int)).toNat, ?_, by omega⟩
  show PyData.int _ = PyData.int _
  rw [Int.toNat_of_nonneg a]
theorem ev_pow {σ : L2.St} {H : Hp} {ta tb : TE} {i j : Int} (ha : EvD K ta σ H (.int i)) (hb : EvD K tb σ H (.int j)) (hc : CPow i j) : EvD K (tOp (rI CPow fun i j => .int (i ^ j.toNat)) ta tb) σ H (.int (i ^ j.toNat)) := ev_iC ha hb hc fun _ => .int _
abbrev s__law_taken : Stmt := topS 38
abbrev N__law_taken : List Str := ["_law_row", "_law_many", "_law_found", "_law_cell"]
theorem sc__law_taken : FnScope N__law_taken ["_law_row", "_law_many"] (defScope s__law_taken) := ⟨rfl, rfl, rfl, by decide +kernel, rfl, by decide +kernel, by decide +kernel⟩
def spTaken (K : PySem.W.Frag) : Sp := fun vs H Q _ => ∃ r sc script n, 1 ≤ n ∧ n ≤ 1000 ∧ (∃ v, vs = [.ref r, v] ∧ Dt K H v (iD n)) ∧ RowIn K H r sc script ∧ RowQ K H r sc (Lt n) Q
theorem ok__law_taken {f : Addr} {fd : FuncData} (F : Fun K "_law_taken" "_law_taken" s__law_taken f fd) (B : Bl mg) : FnOk P w K mg base CX0 1 f fd ["_law_row", "_law_many"] (spTaken K) := by
  refine F.ok sc__law_taken (fun vs H Q E h => ?_) (fun cdv A outer s H vs Q E hr h => ?_)
  · obtain ⟨r, sc, script, n, _, _, ⟨v, rfl, _⟩, _⟩ := h
    rfl
  · obtain ⟨r, sc, script, n, h1, h2, ⟨v, rfl, hv⟩, hrow, q⟩ := h
    refine ⟨_, (pss_cons (ps_if (pt_cmpR op_gt (pe_ix (ix_list' (K := K) rfl) (pv 0) pe_int (fun _ _ => rfl)) pe_int (nomark _))
      (pss_cons (ps_set (i := 2) sc__law_taken.nd rfl (.inl rfl) (pe_op op_mod (pe_callTy call_int1 (by rfl) B.int (by decide +kernel) (pa_cons (pe_ix (ix_list' (K := K) rfl) (pv 0) pe_int (fun _ _ => rfl)) pa_nil)) (pv 1)))
      (pss_cons (ps_asg (pe_op op_fdiv (pe_ix (ix_list' (K := K) rfl) (pv 0) pe_int (fun _ _ => rfl)) (pv 1)) (pg_sub (pv 0) pe_int set_list))
      (pss_one (ps_ret (pv 2))))) pss_nil)
    (pss_cons (ps_asg (pe_op op_add (pe_ix (ix_list' (K := K) rfl) (pv 0) pe_int (fun _ _ => rfl)) pe_int) (pg_sub (pv 0) pe_int set_list))
    (pss_cons (ps_if (pt_cmpR op_gt (pe_ix (ix_list' (K := K) rfl) (pv 0) pe_int (fun _ _ => rfl)) (pe_callB (c_len (K := K) rfl) (by rfl) B.len (by decide +kernel) (pa_cons (pe_ix (ix_list' (K := K) rfl) (pv 0) pe_int (fun _ _ => rfl)) pa_nil)) (nomark _))
      (pss_cons (ps_asg (pe_op op_mod (pe_callTy call_int1 (by rfl) B.int (by decide +kernel) (pa_cons (pe_op op_add (pe_op op_mul (pe_ix (ix_list' (K := K) rfl) (pv 0) pe_int (fun _ _ => rfl)) pe_int) pe_int) pa_nil)) pe_int) (pg_sub (pv 0) pe_int set_list))
      (pss_one (ps_ret (pe_op op_mod (pe_callTy call_int1 (by rfl) B.int (by decide +kernel) (pa_cons (pe_op op_fdiv (pe_ix (ix_list' (K := K) rfl) (pv 0) pe_int (fun _ _ => rfl)) pe_int) pa_nil)) (pv 1))))) pss_nil)
    (pss_cons (ps_set (i := 3) sc__law_taken.nd rfl (.inl rfl) (pe_ix (ix_list' (K := K) rfl) (pe_ix (ix_list' (K := K) rfl) (pv 0) pe_int (fun _ _ => rfl)) (pe_op op_sub (pe_ix (ix_list' (K := K) rfl) (pv 0) pe_int (fun _ _ => rfl)) pe_int) (fun _ _ => rfl)))
    (pss_cons (ps_asg (pe_op op_mod (pe_callTy call_int1 (by rfl) B.int (by decide +kernel) (pa_cons (pe_op op_add (pe_op op_add (pe_op op_mul (pe_ix (ix_list' (K := K) rfl) (pv 0) pe_int (fun _ _ => rfl)) pe_int) (pv 3)) pe_int) pa_nil)) pe_int) (pg_sub (pv 0) pe_int set_list))
    (pss_cons (ps_if (pt_cmpR op_ge (pv 3) (pe_op op_pow pe_int pe_int) (nomark _))
      (pss_one (ps_asg (pe_op op_fdiv (pv 3) (pv 1)) (pg_sub (pv 0) pe_int set_list))) pss_nil)
    (pss_one (ps_ret (pe_op op_mod (pe_callTy call_int1 (by rfl) B.int (by decide +kernel) (pa_cons (pv 3) pa_nil)) (pv 1)))))))))), ?_⟩
    obtain ⟨vs, ok, E0⟩ := env_row (N := N__law_taken) hrow (.cons hv .nil) (fun d hd => by simp at hd; subst hd; exact nl_i n)
    have hS : ((V.ref sc, ScD script) : V × PyData) ∈ [(V.ref sc, ScD script)] := by simp
    obtain ⟨i, s, c, rfl, hi0, hs0, hs1⟩ := ok
    have v1 : EvD K (tVar 1) _ H (iD n) := ev_var E0.va rfl
    have r3 := ev_raw (i0 := 0) (j := 3) E0 rfl rfl (.int c)
    have cdiv : CDiv c (n : Int) := ⟨by omega, by omega⟩
    refine s_when E0 (et_test (ev_gt r3 (ev_i (i := 0)))) (fun _ H1 e1 E1 => ?_) fun _ H1 e1 E1 => ?_
    · refine s_asg (i := 2) E1 (ev_mod (ev_int1 (r3.mono e1)) (v1.mono e1) (by omega)) (.int _) fun v H2 e2 E2 => ?_
      have v1 : EvD K (tVar 1) _ H2 (iD n) := ev_var E2.va rfl
      refine s_setR (i0 := 0) (j := 3) E2 rfl (ev_div (ev_raw (i0 := 0) (j := 3) E2 rfl rfl (.int c)) v1 cdiv) (by simp [rowV]) fun H3 E3 => ?_
      have v2 : EvD K (tVar 2) _ H3 (.int (c % (n : Int))) := ev_var E3.va rfl
      exact s_retP (i0 := 0) (sc := sc) E3 rfl ⟨i, s, _, rfl, hi0, hs0, hs1⟩ v2 (mod_lt h1) (.int _) rfl q
    · refine s_setR (i0 := 0) (j := 1) E1 rfl (ev_add (ev_raw (i0 := 0) (j := 1) E1 rfl rfl (.int i)) (ev_i (i := 1))) (by simp [rowV]) fun H2 E2 => ?_
      have sD := dp_ex mask_le (E2.gho _ hS)
      have t2 := ev_gt (ev_raw (i0 := 0) (j := 1) (d := .int (i + 1)) E2 rfl rfl (.int _)) (ev_lenL (ev_raw (i0 := 0) (j := 0) E2 rfl rfl sD))
      refine s_when E2 (et_test t2) (fun _ H3 e3 E3 => ?_) fun hlen H3 e3 E3 => ?_
      · refine s_setR (i0 := 0) (j := 2) E3 rfl (ev_mod (ev_int1 (ev_add (ev_mul (ev_raw (i0 := 0) (j := 2) (d := .int s) E3 rfl rfl (.int s)) (ev_i (i := 48271)) (.inr ⟨by decide, by decide⟩)) (ev_i (i := 11)))) (ev_i (i := 2147483647)) (by decide)) (by simp [rowV]) fun H4 E4 => ?_
        have v1 : EvD K (tVar 1) _ H4 (iD n) := ev_var E4.va rfl
        exact s_retP (i0 := 0) (sc := sc) E4 rfl ⟨i + 1, (s * 48271 + 11) % 2147483647, c, rfl, by omega, Int.emod_nonneg _ (by decide), Int.emod_lt_of_pos _ (by decide)⟩ (ev_mod (ev_int1 (ev_div (ev_raw (i0 := 0) (j := 2) (d := .int ((s * 48271 + 11) % 2147483647)) E4 rfl rfl (.int _)) (ev_i (i := 7)) ⟨by decide, by decide⟩)) v1 (by omega)) (mod_lt h1) (.int _) rfl q
      · have hlen := of_decide_eq_false hlen
        rw [List.length_map] at hlen
        have lt : i.toNat < script.length := by omega
        have sD := dp_ex mask_le (E3.gho _ hS)
        have cell : atI (script.map PyData.int) (i + 1 - 1) = some (.int script[i.toNat]) := by
          have := at_map (c := PyData.int) (l := script) (i := i.toNat) (a := script[i.toNat]) (List.getElem?_eq_getElem lt)
          rw [Int.toNat_of_nonneg hi0] at this
          rw [Int.add_sub_cancel]
          exact this
        refine s_asg (i := 3) E3 (ev_ixL (ev_raw (i0 := 0) (j := 0) E3 rfl rfl sD) (ev_sub (ev_raw (i0 := 0) (j := 1) (d := .int (i + 1)) E3 rfl rfl (.int _)) (ev_i (i := 1))) cell) (.int _) fun v H4 e4 E4 => ?_
        generalize script[i.toNat] = cl at E4
        have v3 : EvD K (tVar 3) _ H4 (.int cl) := ev_var E4.va rfl
        refine s_setR (i0 := 0) (j := 2) E4 rfl (ev_mod (ev_int1 (ev_add (ev_add (ev_mul (ev_raw (i0 := 0) (j := 2) (d := .int s) E4 rfl rfl (.int s)) (ev_i (i := 48271)) (.inr ⟨by decide, by decide⟩)) v3) (ev_i (i := 11)))) (ev_i (i := 2147483647)) (by decide)) (by simp [rowV]) fun H5 E5 => ?_
        have v3 : EvD K (tVar 3) _ H5 (.int cl) := ev_var E5.va rfl
        have s0 := Int.emod_nonneg (s * 48271 + cl + 11) (b := 2147483647) (by decide)
        have s1 := Int.emod_lt_of_pos (s * 48271 + cl + 11) (b := 2147483647) (by decide)
        refine s_if E5 (et_test (ev_ge v3 (ev_pow (ev_i (i := 10)) (ev_i (i := 18)) ⟨by decide, by decide, by decide⟩))) (fun _ H6 e6 E6 => ?_) fun _ H6 e6 E6 => ?_
        · have v3 : EvD K (tVar 3) _ H6 (.int cl) := ev_var E6.va rfl
          have v1 : EvD K (tVar 1) _ H6 (iD n) := ev_var E6.va rfl
          refine s_setR (i0 := 0) (j := 3) E6 rfl (ev_div v3 v1 ⟨by omega, by omega⟩) (by simp [rowV]) fun H7 E7 => ?_
          have v3 : EvD K (tVar 3) _ H7 (.int cl) := ev_var E7.va rfl
          have v1 : EvD K (tVar 1) _ H7 (iD n) := ev_var E7.va rfl
          exact s_retP (i0 := 0) (sc := sc) E7 rfl ⟨i + 1, _, _, rfl, by omega, s0, s1⟩ (ev_mod (ev_int1 v3) v1 (by omega)) (mod_lt h1) (.int _) rfl q
        · have v3 : EvD K (tVar 3) _ H6 (.int cl) := ev_var E6.va rfl
          have v1 : EvD K (tVar 1) _ H6 (iD n) := ev_var E6.va rfl
          exact s_retP (i0 := 0) (sc := sc) E6 rfl ⟨i + 1, _, _, rfl, by omega, s0, s1⟩ (ev_mod (ev_int1 v3) v1 (by omega)) (mod_lt h1) (.int _) rfl q
end
end Cd


set_option Elab.async false
set_option linter.all false
set_option maxRecDepth 100000
set_option maxHeartbeats 4000000
namespace Cd
open PySem PySem.Spec PyProof.Rows L2
open Evl (Ex EvT)
section
variable {P : Program} {w : World} {K : PySem.W.Frag} {mg : Str → Option Value} {base : Heap}
/-! E10: more readings and statements beside the row. -/
section
variable {H0 H : Hp} {r sc : Addr} {script : List Int} {i0 : Nat} {σ : L2.St} {Γ : List G} {X : List (V × PyData)} {vs : List V} {te ta tb tc : TE} {t u : TT} {R Ra Rb : PyData → Prop} {RN : List PyData → Prop} {d : PyData} {D : Ends} {tu tw : TS} {ds : List PyData}
/-- weaker -/
theorem EvW.imp {R' : PyData → Prop} (h : EvW K H0 r sc script i0 σ Γ te R) (f : ∀ d, R d → R' d) : EvW K H0 r sc script i0 σ Γ te R' := fun H vs X ok hS E Q q => h H vs X ok hS E Q fun v d H1 vs1 pd => q v d H1 vs1 (f d pd)
/-- l[e] -/
theorem ew_ixW {i : Nat} {l : List Nat} (hl : ∀ vs : List V, view (Γ.set i0 (.r r vs)) i = some (lD l)) (hb : EvW K H0 r sc script i0 σ Γ tb (Lt l.length)) : EvW K H0 r sc script i0 σ Γ (tOp (rIxL K) (tVar i) tb) (fun d => ∃ a ∈ l, d = iD a) := fun H vs X ok hS E Q q => by
  obtain ⟨u, e1, _⟩ := E.va.2 i _ (hl vs)
  refine ⟨u, e1, hb H vs X ok hS E _ fun w d H1 vs1 pd nd ok1 E1 => ?_⟩
  obtain ⟨u', e2, hu⟩ := E1.va.2 i _ (hl vs1)
  rw [e1] at e2
  cases e2
  obtain ⟨z, rfl, lt⟩ := pd
  obtain ⟨b, us, rfl, s, al⟩ := dt_lst hu
  obtain ⟨x, f1, f2⟩ := da_at al (at_is (l := l) lt)
  have ew : w = .int (z : Int) := dp_int (E1.gho _ (List.mem_cons_self ..))
  refine ⟨b, us, (z : Int), x, rfl, ew, s, f1, q x _ H1 vs1 ⟨l.getD z 0, ?_, rfl⟩ (nl_i _) ok1 (E1.unghost.ghost (E1.nl (nl_i _) f2))⟩
  rw [List.getD_eq_getElem?_getD, List.getElem?_eq_getElem lt]
  exact List.getElem_mem lt
/-- a call whose other argument is a new list -/
theorem ew_call2L {sp : Sp} {EE : XK} (lt : i0 < Γ.length) (hb : ∀ H vs X, En K H0 H σ (Γ.set i0 (.r r vs)) X → EvN K tb σ H ds) (nl : ∀ d ∈ ds, NL d) (hs : ∀ w H (Q : VK), Dt K (mask [r] H) w (.list ds) → RowIn K H r sc script → RowQ K H r sc R Q → sp [.ref r, w] H Q EE) : EvW K H0 r sc script i0 σ Γ (tCall sp [] EE (tCons (tVar i0) (tCons tb tNil))) R := fun H vs X ok hS E Q q =>
  ⟨.ref r, (E.raw i0 r vs (List.getElem?_set_self lt)).1, hb H vs X E H (Ex.refl H) _ fun p us H1 np e hp al => by
    show sp ([.ref r, .ref p] ++ []) H1 Q EE
    rw [List.append_nil]
    have E1 := E.mono e
    have f := E.fresh nl np e hp al
    refine hs _ H1 Q (dp_ex (mask_sub (mem_ms.mpr ⟨i0, _, List.getElem?_set_self lt, rfl⟩)) f) (E1.rowAt (List.getElem?_set_self lt) ok hS) fun v d H2 pd nd ex ra hv => ?_
    obtain ⟨vs2, ok2, E2⟩ := E1.rowOn lt ex ra
    exact q v d H2 vs2 pd nd ok2 (E2.ghost (E2.nl nd hv))⟩
/-- e == j, of numbers -/
theorem ew_eqJ {n : Nat} {j : Int} (ha : EvW K H0 r sc script i0 σ Γ ta (Lt n)) : EvW K H0 r sc script i0 σ Γ (tOp rEq ta (tC (.int j))) (fun d => ∃ b, d = .bool b ∧ True) :=
  ew_op ha (ew_pure (R := fun d => d = .int j) (fun _ _ _ _ => ev_i) (.int _) rfl) fun u v H x y hx hy hu hv Q q => by
    obtain ⟨z, rfl, _⟩ := hx
    subst hy
    rw [dp_int hu, dp_int hv]
    refine ⟨rfl, ?_⟩
    exact q _ (.bool _) ⟨_, rfl, trivial⟩ (.bl _) fun H => .bl _
/-- a + e of numbers -/
theorem ew_addW {a n : Nat} (ha : ∀ H vs X, En K H0 H σ (Γ.set i0 (.r r vs)) X → EvD K ta σ H (iD a)) (hb : EvW K H0 r sc script i0 σ Γ tb (Lt n)) : EvW K H0 r sc script i0 σ Γ (tOp (rI0 fun i j => .int (i + j)) ta tb) (fun d => ∃ z, d = iD (a + z) ∧ z < n) :=
  ew_op (ew_pure (R := fun d => d = iD a) ha (nl_i _) rfl) hb fun u v H x y hx hy hu hv Q q => by
    subst hx
    obtain ⟨z, rfl, lt⟩ := hy
    exact ⟨_, _, dp_int hu, dp_int hv, q _ (iD (a + z)) ⟨z, rfl, lt⟩ (nl_i _) fun H => by
      have : ((a + z : Nat) : Int) = (a : Int) + (z : Int) := Int.natCast_add a z
      show Dt K H (.int ((a : Int) + (z : Int))) _
      rw [← this]
      exact .int _⟩
theorem s_parWM {i j : Nat} {tb : TE} (E : En K H0 H σ Γ X) (hi : Γ[i0]? = some (.r r vs)) (ok : RowOk sc vs) (hS : ((V.ref sc, ScD script) : V × PyData) ∈ X) (ha : EvW K H0 r sc script i0 σ Γ ta R) (hb : ∀ H vs X, En K H0 H σ (Γ.set i0 (.r r vs)) X → EvN K tb σ H ds) (nl : ∀ d ∈ ds, NL d)
    (k : ∀ v d p H1 vs1, R d → RowOk sc vs1 → En K H0 H1 ((σ.set i (some v)).set j (some (.ref p))) (((Γ.set i0 (.r r vs1)).set i (.d d)).set j (.m p ds)) X → D.nx ((σ.set i (some v)).set j (some (.ref p))) H1) : tPar i j (tCons ta (tCons tb tNil)) D σ H :=
  ha H vs X ok hS ((set_same hi).symm ▸ E) _ fun v d H1 vs1 pd _ ok1 E1 => hb H1 vs1 _ E1 H1 (Ex.refl H1) _ fun p us H2 np e hp al => ⟨v, .ref p, rfl,
    k v d p H2 vs1 pd ok1 ((E1.unghost.put (i := i) (g := .d d) (E1.gho _ (List.mem_cons_self ..))).putM e np hp al nl)⟩
theorem s_parLM {i j : Nat} {tb : TE} {es : List PyData} (E : En K H0 H σ Γ X) (ha : EvN K ta σ H es) (ne : ∀ d ∈ es, NL d) (hb : EvN K tb σ H ds) (nl : ∀ d ∈ ds, NL d)
    (k : ∀ v p H1, En K H0 H1 ((σ.set i (some v)).set j (some (.ref p))) ((Γ.set i (.d (.list es))).set j (.m p ds)) X → D.nx ((σ.set i (some v)).set j (some (.ref p))) H1) : tPar i j (tCons ta (tCons tb tNil)) D σ H :=
  ha H (Ex.refl H) _ fun p us H1 np e hp al => hb H1 e _ fun p2 us2 H2 np2 e2 hp2 al2 => ⟨_, _, rfl,
    k _ p2 H2 (((E.mono e).put (i := i) (g := .d (.list es)) (E.fresh ne np e hp al)).putM e2 np2 hp2 al2 nl)⟩
theorem own_new {es : List PyData} (h : EvN K te σ H es) : ∀ H1, Ex H H1 → ∀ Q : VK, (∀ p vs H2, Ex H1 H2 → H2 p = some (.lst vs) → DtAll K H2 vs es → Q (.ref p) H2) → te σ H1 Q := fun H1 e Q q => h H1 e Q fun p vs H2 _ e2 hp al => q p vs H2 e2 hp al
end
/-- the call _law_taken(row, e) -/
theorem ew_taken {H0 : Hp} {r sc : Addr} {script : List Int} {i0 : Nat} {σ : L2.St} {Γ : List G} {tb : TE} {B : Nat} (hB : B ≤ 1000) (lt : i0 < Γ.length) (hb : EvW K H0 r sc script i0 σ Γ tb (fun d => ∃ n, d = iD n ∧ 1 ≤ n ∧ n ≤ B)) : EvW K H0 r sc script i0 σ Γ (tCall (spTaken K) [] L2.E0 (tCons (tVar i0) (tCons tb tNil))) (Lt B) :=
  ew_call2 lt hb fun w e H Q pe hw hrow q => by
    obtain ⟨n, rfl, h1, h2⟩ := pe
    exact ⟨r, sc, script, n, h1, by omega, ⟨w, rfl, hw⟩, hrow, fun v d H' pd => q v d H' (by obtain ⟨z, e, l⟩ := pd; exact ⟨z, e, by omega⟩)⟩
theorem ew_num {H0 : Hp} {r sc : Addr} {script : List Int} {i0 : Nat} {σ : L2.St} {Γ : List G} {te : TE} {n : Nat} (h : ∀ H vs X, En K H0 H σ (Γ.set i0 (.r r vs)) X → EvD K te σ H (iD n)) (h1 : 1 ≤ n) : EvW K H0 r sc script i0 σ Γ te (fun d => ∃ m, d = iD m ∧ 1 ≤ m ∧ m ≤ n) := ew_pure h (nl_i n) ⟨n, rfl, h1, Nat.le_refl n⟩
abbrev s__law_pick : Stmt := topS 39
abbrev N__law_pick : List Str := ["_law_row", "_law_things"]
theorem sc__law_pick : FnScope N__law_pick ["_law_row", "_law_things"] (defScope s__law_pick) := ⟨rfl, rfl, rfl, by decide +kernel, rfl, by decide +kernel, by decide +kernel⟩
def spPick (K : PySem.W.Frag) : Sp := fun vs H Q _ => ∃ r sc script B, B ≤ 1000 ∧ (∃ l v, l ≠ [] ∧ l.length ≤ 1000 ∧ (∀ a ∈ l, 1 ≤ a ∧ a ≤ B) ∧ vs = [.ref r, v] ∧ Dt K (mask [r] H) v (lD l)) ∧ RowIn K H r sc script ∧ RowQ K H r sc (fun d => ∃ a, d = iD a ∧ 1 ≤ a ∧ a ≤ B) Q
theorem ok__law_pick {f : Addr} {fd : FuncData} (F : Fun K "_law_pick" "_law_pick" s__law_pick f fd) (B : Bl mg) (k__law_taken : Kd P w K mg base "_law_taken" 1 ["_law_row", "_law_many"] (spTaken K)) : FnOk P w K mg base CX0 2 f fd ["_law_row", "_law_things"] (spPick K) := by
  refine F.ok sc__law_pick (fun vs H Q E h => ?_) (fun cdv A outer s H vs Q E hr h => ?_)
  · obtain ⟨r, sc, script, m, _, ⟨l, v, _, _, _, rfl, _⟩, _⟩ := h
    rfl
  · obtain ⟨r, sc, script, m, hm, ⟨l, v, ne, few, hl, rfl, hv⟩, hrow, q⟩ := h
    refine ⟨_, (pss_one (ps_ret (pe_ix (ix_list' (K := K) rfl) (pv 1) (pe_kd k__law_taken hr (by decide) (by rfl) (pa_cons (pv 0) (pa_cons (pe_callB (c_len (K := K) rfl) (by rfl) B.len (by decide +kernel) (pa_cons (pv 1) pa_nil)) pa_nil))) (fun _ _ => rfl)))), ?_⟩
    obtain ⟨vs, ok, E0⟩ := env_rowG (N := N__law_pick) hrow (.cons hv .nil)
    have hS : ((V.ref sc, ScD script) : V × PyData) ∈ [(V.ref sc, ScD script)] := by simp
    have lp : 1 ≤ l.length := by
      cases l with
      | nil => exact absurd rfl ne
      | cons a l => simp
    have len : EvW K (mask [r] H) r sc script 0 _ [.r r vs, .d (lD l)] _ _ := ew_num (n := l.length) (te := tCB (rLen K) (tCons (tVar 1) tNil)) (σ := L2.start N__law_pick [.ref r, v]) (fun H vs X E => (ev_lenL (ev_var E.va rfl : EvD K (tVar 1) _ _ (lD l))).is (by rw [List.length_map])) lp
    exact s_retW (i0 := 0) (Γ := [.r r vs, .d (lD l)]) E0 rfl ok hS ((ew_ixW (i := 1) (l := l) (fun _ => rfl) (ew_taken few (by simp) len)).imp fun d ⟨a, ha, e⟩ => ⟨a, e, hl a ha⟩) (by simp) rfl q
abbrev s__law_nest : Stmt := topS 40
abbrev N__law_nest : List Str := ["_law_row", "_law_most", "_law_many", "_law_found", "_law_way", "_law_k", "_law_rest"]
theorem sc__law_nest : FnScope N__law_nest ["_law_row", "_law_most"] (defScope s__law_nest) := ⟨rfl, rfl, rfl, by decide +kernel, rfl, by decide +kernel, by decide +kernel⟩
def spNestL (K : PySem.W.Frag) : Sp := fun vs H Q _ => ∃ r sc script, (∃ v, vs = [.ref r, v] ∧ Dt K H v (.int 6)) ∧ RowIn K H r sc script ∧ RowQ K H r sc (fun d => ∃ ns, NOk ns ∧ d = nestD ns) Q
theorem ok__law_nest {f : Addr} {fd : FuncData} (F : Fun K "_law_nest" "_law_nest" s__law_nest f fd) (B : Bl mg) (k__law_taken : Kd P w K mg base "_law_taken" 1 ["_law_row", "_law_many"] (spTaken K)) (k__law_pick : Kd P w K mg base "_law_pick" 2 ["_law_row", "_law_things"] (spPick K)) : FnOk P w K mg base CX0 3 f fd ["_law_row", "_law_most"] (spNestL K) := by
  refine F.ok sc__law_nest (fun vs H Q E h => ?_) (fun cdv A outer s H vs Q E hr h => ?_)
  · obtain ⟨r, sc, script, ⟨v, rfl, _⟩, _⟩ := h
    rfl
  · obtain ⟨r, sc, script, ⟨v, rfl, hv⟩, hrow, q⟩ := h
    refine ⟨_, (pss_cons (ps_par (i := 2) (j := 3) rfl sc__law_nest.nd rfl rfl (by decide) rfl rfl (pa_cons (pe_op op_add pe_int (pe_kd k__law_taken hr (by decide) (by rfl) (pa_cons (pv 0) (pa_cons (pv 1) pa_nil)))) (pa_cons (pe_lst pa_nil) pa_nil)) (by rfl))
    (pss_cons (ps_set (i := 4) sc__law_nest.nd rfl (.inl rfl) (pe_kd k__law_taken hr (by decide) (by rfl) (pa_cons (pv 0) (pa_cons pe_int pa_nil))))
    (pss_cons (ps_for PassesOwn.never rfl (pi_range1 (by rfl) B.range (pa_cons (pv 2) pa_nil)) (pg_name (i := 5) sc__law_nest.nd rfl (.inl rfl))
      (pss_cons (ps_set (i := 6) sc__law_nest.nd rfl (.inl rfl) (pe_op op_sub (pe_op op_sub (pv 2) pe_int) (pv 5)))
      (pss_one (ps_if (PW.pt (pw_or (pt_cmpR op_eq (pv 6) pe_int (nomark _)) (pw_or1 (PW.pt (pw_and (pt_cmpR op_eq (pv 4) pe_int (nomark _)) (pw_and1 (pt_cmpR op_eq (pe_kd k__law_taken hr (by decide) (by rfl) (pa_cons (pv 0) (pa_cons pe_int pa_nil))) pe_int (nomark _))))))))
        (pss_one (ps_expr (pe_app (K := K) rfl (pv 3) (pa_cons pe_non pa_nil)))) (pss_one (ps_expr (pe_app (K := K) rfl (pv 3) (pa_cons (pe_ifExp (pt_cmpR op_eq (pv 4) pe_int (nomark _)) (pe_op op_add (pv 5) pe_int) (pe_op op_add (pe_op op_add (pv 5) pe_int) (pe_kd k__law_taken hr (by decide) (by rfl) (pa_cons (pv 0) (pa_cons (pe_kd k__law_pick hr (by decide) (by rfl) (pa_cons (pv 0) (pa_cons (pe_lst (pa_cons pe_int (pa_cons (pv 6) pa_nil))) pa_nil))) pa_nil))))) pa_nil))))))))
    (pss_one (ps_ret (pe_callTy (c_tup (K := K) rfl) (by rfl) B.tuple (by decide +kernel) (pa_cons (pv 3) pa_nil))))))), ?_⟩
    obtain ⟨vs, ok, E0⟩ := env_row (N := N__law_nest) hrow (.cons hv .nil) (fun d hd => by simp at hd; subst hd; exact .int _)
    have hS : ((V.ref sc, ScD script) : V × PyData) ∈ [(V.ref sc, ScD script)] := by simp
    have a0 := ew_addW (K := K) (H0 := mask [r] H) (r := r) (σ := L2.start N__law_nest [.ref r, v]) (Γ := [.r r vs, .d (.int 6), .no, .no, .no, .no, .no]) (a := 1) (ta := tC (.int 1)) (fun _ _ _ _ => ev_i) (ew_taken (sc := sc) (script := script) (B := 6) (i0 := 0) (tb := tVar 1) (by decide) (by simp) (ew_num (n := 6) (fun H vs X E => ev_var E.va rfl) (by decide)))
    refine s_parWM (i0 := 0) (i := 2) (j := 3) (ds := []) E0 rfl ok hS a0 (fun _ _ _ _ => ev_lst ea_nil (by decide)) (fun _ h => nomatch h) fun u1 d p H1 vs1 hd ok1 E1 => ?_
    obtain ⟨z, rfl, hz⟩ := hd
    have a1 := ew_taken (K := K) (H0 := mask [r] H) (r := r) (sc := sc) (script := script) (i0 := 0) (B := 4) (tb := tC (.int 4)) (σ := ((L2.start N__law_nest [.ref r, v]).set 2 (some u1)).set 3 (some (.ref p))) (Γ := [.r r vs1, .d (.int 6), .d (iD (1 + z)), .m p [], .no, .no, .no]) (by decide) (by simp) (ew_num (n := 4) (fun H vs X E => ev_i) (by decide))
    refine s_asgW (i0 := 0) (i := 4) E1 rfl ok1 hS a1 fun v2 d2 H2 vs2 hd2 ok2 E2 => ?_
    obtain ⟨way, rfl, hway⟩ := hd2
    generalize hM : 1 + z = M at E2
    have v2' : EvD K (tVar 2) _ H2 (iD M) := ev_var E2.va rfl
    refine s_forR1 (n := M) (j := 5) E2 v2' (by omega) (fun k Γ => ∃ vs done a b, Γ = [.r r vs, .d (.int 6), .d (iD M), .m p (done.map optD), .d (iD way), a, b] ∧ RowOk sc vs ∧ done.length = k ∧ ∀ t j, done[t]? = some (some j) → t < j ∧ j < M) ⟨vs2, [], .no, .no, rfl, ok2, rfl, fun t j h => by simp at h⟩ (fun k σ' H' Γ' hk hΓ E3 => ?_) fun σ' H' Γ' hΓ E3 => ?_
    · obtain ⟨vs3, done, a, b, rfl, ok3, len, up⟩ := hΓ
      have v2 : EvD K (tVar 2) _ H' (iD M) := ev_var E3.va rfl
      have v5 : EvD K (tVar 5) _ H' (iD k) := ev_var E3.va rfl
      refine s_asg (i := 6) (d := iD (M - 1 - k)) E3 ((ev_sub (ev_sub v2 (ev_i (i := 1))) v5).int (by omega)) (nl_i _) fun v6 H4 e4 E4 => ?_
      let Γ4 : List G := [.r r vs3, .d (.int 6), .d (iD M), .m p (done.map optD), .d (iD way), .d (iD k), .d (iD (M - 1 - k))]
      have E4 : En K (mask [r] H) H4 ((σ'.set 5 (some (.int (k : Int)))).set 6 (some v6)) Γ4 [(V.ref sc, ScD script)] := E4
      have tst := et_orW (K := K) (H0 := mask [r] H) (r := r) (sc := sc) (script := script) (i0 := 0) (σ := (σ'.set 5 (some (.int (k : Int)))).set 6 (some v6)) (Γ := Γ4)
        (et_p (t := tTest (tOp rEq (tVar 6) (tC (.int 0)))) (RB := fun b => b = decide (((M - 1 - k : Nat) : Int) = 0)) (fun H vs X E => et_test (ev_eqI (ev_var E.va rfl) ev_i)) rfl)
        (et_andW (et_p (t := tTest (tOp rEq (tVar 4) (tC (.int 3)))) (RB := fun _ => True) (fun H vs X E => et_test (ev_eqI (ev_var E.va rfl : EvD K (tVar 4) _ _ (iD way)) ev_i)) trivial)
          (et_w (ew_eqJ (j := 0) (ew_taken (B := 3) (tb := tC (.int 3)) (by decide) (by simp [Γ4]) (ew_num (n := 3) (fun H vs X E => ev_i) (by decide))))))
      refine s_ifW (i0 := 0) E4 rfl ok3 hS tst (fun H5 vs5 hb ok5 E5 => ?_) fun H5 vs5 hb ok5 E5 => ?_
      · refine s_app (i := 3) E5 rfl ev_none .non (by rw [List.length_map]; omega) fun H6 E6 => ⟨_, ⟨vs5, done ++ [none], .d (iD k), .d (iD (M - 1 - k)), ?_, ok5, by simp [len], fun t j h => ?_⟩, E6⟩
        · rw [List.map_append] <;> rfl
        · by_cases lt : t < done.length
          · rw [List.getElem?_append_left lt] at h
            exact up t j h
          · rw [List.getElem?_append_right (by omega)] at h
            cases q : t - done.length with
            | zero => rw [q] at h; simp at h
            | succ m => rw [q] at h; simp at h
      · have rest : 1 ≤ M - 1 - k := by
          have := of_decide_eq_false (hb rfl).1.symm
          omega
        let Γ5 : List G := [.r r vs5, .d (.int 6), .d (iD M), .m p (done.map optD), .d (iD way), .d (iD k), .d (iD (M - 1 - k))]
        have E5 : En K (mask [r] H) H5 ((σ'.set 5 (some (.int (k : Int)))).set 6 (some v6)) Γ5 [(V.ref sc, ScD script)] := E5
        have k1 : ∀ H9 vs X, En K (mask [r] H) H9 ((σ'.set 5 (some (.int (k : Int)))).set 6 (some v6)) (Γ5.set 0 (.r r vs)) X → EvD K (tOp (rI0 fun i j => .int (i + j)) (tVar 5) (tC (.int 1))) _ H9 (iD (k + 1)) := fun H9 vs X E => (ev_add (ev_var E.va rfl : EvD K (tVar 5) _ _ (iD k)) (ev_i (i := 1))).int (by rw [Int.natCast_add] <;> rfl)
        have pk : EvW K (mask [r] H) r sc script 0 ((σ'.set 5 (some (.int (k : Int)))).set 6 (some v6)) Γ5 (tCall (spPick K) [] L2.E0 (tCons (tVar 0) (tCons (tLst (tCons (tC (.int 1)) (tCons (tVar 6) tNil))) tNil))) (fun d => ∃ a, d = iD a ∧ 1 ≤ a ∧ a ≤ M - 1 - k) := ew_call2L (ds := [1, M - 1 - k].map iD) (by simp [Γ5]) (fun H vs X E => ev_lst (ea_cons (ev_i (i := 1)) (ea_cons (ev_var E.va rfl) ea_nil)) (by simp)) (nl_is _) fun w H Q hw hrow q => ⟨r, sc, script, M - 1 - k, by omega, ⟨[1, M - 1 - k], w, by simp, by simp, fun a ha => by
          simp at ha
          rcases ha with rfl | rfl <;> omega, rfl, hw⟩, hrow, q⟩
        have el := ew_if (K := K) (et_p (i0 := 0) (t := tTest (tOp rEq (tVar 4) (tC (.int 0)))) (RB := fun _ => True) (fun H vs X E => et_test (ev_eqI (ev_var E.va rfl : EvD K (tVar 4) _ _ (iD way)) ev_i)) trivial)
          (fun _ => ew_pure (R := fun d => ∃ j, d = optD (some j) ∧ k < j ∧ j < M) k1 (nl_i _) ⟨k + 1, rfl, by omega, by omega⟩)
          (fun _ => (ew_addW (n := M - 1 - k) k1 (ew_taken (B := M - 1 - k) (by omega) (by simp [Γ5]) pk)).imp fun d ⟨z, e, lt⟩ => ⟨k + 1 + z, e, by omega, by omega⟩)
        refine s_appW (i0 := 0) (i := 3) E5 rfl ok5 hS (by decide) rfl el (by rw [List.length_map]; omega) fun d H6 vs6 hd ok6 E6 => ?_
        obtain ⟨j, rfl, j1, j2⟩ := hd
        refine ⟨_, ⟨vs6, done ++ [some j], .d (iD k), .d (iD (M - 1 - k)), ?_, ok6, by simp [len], fun t j' h => ?_⟩, E6⟩
        · rw [List.map_append] <;> rfl
        · by_cases lt : t < done.length
          · rw [List.getElem?_append_left lt] at h
            exact up t j' h
          · rw [List.getElem?_append_right (by omega)] at h
            cases q : t - done.length with
            | zero =>
              rw [q] at h
              simp at h
              omega
            | succ m => rw [q] at h; simp at h
    · obtain ⟨vs3, done, a, b, rfl, ok3, len, up⟩ := hΓ
      have v3 : EvD K (tVar 3) _ H' (.list (done.map optD)) := ev_var E3.va rfl
      exact s_retP (i0 := 0) (sc := sc) E3 rfl ok3 (ev_tupL v3) ⟨done, ⟨by omega, by omega, fun t j h => by
        rw [List.getD_eq_getElem?_getD] at h
        cases q : done[t]? with
        | none => rw [q] at h; cases h
        | some o =>
          rw [q] at h
          have h : o = some j := h
          subst h
          have := up t j q
          omega⟩, rfl⟩ (nl_nest done) rfl q
abbrev s__law_order : Stmt := topS 42
abbrev N__law_order : List Str := ["_law_row", "_law_many", "_law_left", "_law_found", "_law_turn", "_law_at"]
theorem sc__law_order : FnScope N__law_order ["_law_row", "_law_many"] (defScope s__law_order) := ⟨rfl, rfl, rfl, by decide +kernel, rfl, by decide +kernel, by decide +kernel⟩
def spOrder (K : PySem.W.Frag) : Sp := fun vs H Q _ => ∃ r sc script n, n ≤ 6 ∧ (∃ v, vs = [.ref r, v] ∧ Dt K H v (iD n)) ∧ RowIn K H r sc script ∧ RowQN K H r sc (fun ds => ∃ o, OOk n o ∧ ds = o.map iD) Q
theorem ok__law_order {f : Addr} {fd : FuncData} (F : Fun K "_law_order" "_law_order" s__law_order f fd) (B : Bl mg) (k__law_taken : Kd P w K mg base "_law_taken" 1 ["_law_row", "_law_many"] (spTaken K)) : FnOk P w K mg base CX0 2 f fd ["_law_row", "_law_many"] (spOrder K) := by
  refine F.ok sc__law_order (fun vs H Q E h => ?_) (fun cdv A outer s H vs Q E hr h => ?_)
  · obtain ⟨r, sc, script, n, _, ⟨v, rfl, _⟩, _⟩ := h
    rfl
  · obtain ⟨r, sc, script, n, hn, ⟨v, rfl, hv⟩, hrow, q⟩ := h
    refine ⟨_, (pss_cons (ps_par (i := 2) (j := 3) rfl sc__law_order.nd rfl rfl (by decide) rfl rfl (pa_cons (pe_listRg rfl (by rfl) B.list (prg_1 (by rfl) B.range (pv 1))) (pa_cons (pe_lst pa_nil) pa_nil)) (by rfl))
    (pss_cons (ps_for PassesOwn.never rfl (pi_range1 (by rfl) B.range (pa_cons (pv 1) pa_nil)) (pg_name (i := 4) sc__law_order.nd rfl (.inl rfl))
      (pss_cons (ps_set (i := 5) sc__law_order.nd rfl (.inl rfl) (pe_kd k__law_taken hr (by decide) (by rfl) (pa_cons (pv 0) (pa_cons (pe_callB (c_len (K := K) rfl) (by rfl) B.len (by decide +kernel) (pa_cons (pv 2) pa_nil)) pa_nil))))
      (pss_cons (ps_expr (pe_app (K := K) rfl (pv 3) (pa_cons (pe_ix (ix_list' (K := K) rfl) (pv 2) (pv 5) (fun _ _ => rfl)) pa_nil)))
      (pss_one (ps_set (i := 2) sc__law_order.nd rfl (.inl rfl) (pe_op op_cat (pe_slice (sl_list' (K := K) rfl) (pv 2) po_none (po_some (pv 5))) (pe_slice (sl_list' (K := K) rfl) (pv 2) (po_some (pe_op op_add (pv 5) pe_int)) po_none)))))))
    (pss_one (ps_ret (pv 3))))), ?_⟩
    obtain ⟨vs, ok, E0⟩ := env_row (N := N__law_order) hrow (.cons hv .nil) (fun d hd => by simp at hd; subst hd; exact nl_i n)
    have hS : ((V.ref sc, ScD script) : V × PyData) ∈ [(V.ref sc, ScD script)] := by simp
    have v1 : EvD K (tVar 1) _ H (iD n) := ev_var E0.va rfl
    refine s_parLM (i := 2) (j := 3) (ds := []) E0 (ev_listR1 v1 (by omega)) (nl_is _) (ev_lst ea_nil (by decide)) (fun _ h => nomatch h) fun u p H1 E1 => ?_
    have v1 : EvD K (tVar 1) _ H1 (iD n) := ev_var E1.va rfl
    refine s_forR1 (n := n) (j := 4) E1 v1 (by omega) (fun k Γ => ∃ vs left done a b, Γ = [.r r vs, .d (iD n), .d (lD left), .m p (done.map iD), a, b] ∧ RowOk sc vs ∧ left.length = n - k ∧ (done ++ left).Perm (List.range n)) ⟨vs, List.range n, [], .no, .no, rfl, ok, by simp, List.Perm.refl _⟩ (fun k σ' H' Γ' hk hΓ E2 => ?_) fun σ' H' Γ' hΓ E2 => ?_
    · obtain ⟨vs2, left, done, a, b, rfl, ok2, len, perm⟩ := hΓ
      have dl : done.length + left.length = n := by
        have := perm.length_eq
        rw [List.length_append, List.length_range] at this
        exact this
      have tk := ew_taken (K := K) (H0 := mask [r] H) (r := r) (sc := sc) (script := script) (i0 := 0) (B := left.length) (tb := tCB (rLen K) (tCons (tVar 2) tNil)) (σ := σ'.set 4 (some (.int (k : Int)))) (Γ := [.r r vs2, .d (iD n), .d (lD left), .m p (done.map iD), .d (iD k), b]) (by omega) (by simp) (ew_num (n := left.length) (fun H vs X E => (ev_lenL (ev_var E.va rfl : EvD K (tVar 2) _ _ (lD left))).is (by rw [List.length_map])) (by omega))
      refine s_asgW (i0 := 0) (i := 5) E2 rfl ok2 hS tk fun v5 d5 H3 vs3 hd5 ok3 E3 => ?_
      obtain ⟨at', rfl, hat⟩ := hd5
      have v2 : EvD K (tVar 2) _ H3 (lD left) := ev_var E3.va rfl
      have v5' : EvD K (tVar 5) _ H3 (iD at') := ev_var E3.va rfl
      refine s_app (i := 3) E3 rfl (ev_ixL v2 v5' (at_is hat)) (nl_i _) (by rw [List.length_map]; omega) fun H4 E4 => ?_
      have v2 : EvD K (tVar 2) _ H4 (lD left) := ev_var E4.va rfl
      have v5' : EvD K (tVar 5) _ H4 (iD at') := ev_var E4.va rfl
      have s1 := (ev_slL v2 eo_none (eo_some v5')).is (es := (left.take at').map iD) (by rw [cut_take, List.map_take])
      have s2 := (ev_slL v2 (eo_some ((ev_add v5' (ev_i (i := 1))).int (j := ((at' + 1 : Nat) : Int)) (by rw [Int.natCast_add] <;> rfl))) eo_none).is (es := (left.drop (at' + 1)).map iD) (by rw [cut_drop, List.map_drop])
      refine s_asgL (i := 2) (ds := (left.take at' ++ left.drop (at' + 1)).map iD) E4 ((ev_catL (own_new s1) s2 (by rw [List.length_map, List.length_map, List.length_take, List.length_drop]; omega)).is (by rw [List.map_append])) (nl_is _) fun v6 H5 e5 E5 => ⟨_, ⟨vs3, left.take at' ++ left.drop (at' + 1), done ++ [left.getD at' 0], .d (iD k), .d (iD at'), ?_, ok3, ?_, ?_⟩, E5⟩
      · rw [List.map_append (l₁ := done)] <;> rfl
      · rw [List.length_append, List.length_take, List.length_drop]
        omega
      · refine List.Perm.trans ?_ perm
        rw [List.append_assoc]
        refine List.Perm.append_left done ?_
        have e : left = left.take at' ++ (left.getD at' 0 :: left.drop (at' + 1)) := by
          rw [List.getD_eq_getElem?_getD, List.getElem?_eq_getElem hat]
          show left = left.take at' ++ (left[at'] :: left.drop (at' + 1))
          rw [← List.drop_eq_getElem_cons hat, List.take_append_drop]
        conv => rhs; rw [e]
        show (left.getD at' 0 :: (left.take at' ++ left.drop (at' + 1))).Perm _
        exact List.perm_middle.symm
    · obtain ⟨vs2, left, done, a, b, rfl, ok2, len, perm⟩ := hΓ
      have : left = [] := List.length_eq_zero_iff.mp (by omega)
      subst this
      rw [List.append_nil] at perm
      exact s_retMW (i0 := 0) (sc := sc) (i := 3) E2 rfl ok2 rfl ⟨done, OOk.of_perm perm, rfl⟩ (nl_is _) rfl q
end
end Cd


set_option Elab.async false
set_option linter.all false
set_option maxRecDepth 100000
set_option maxHeartbeats 4000000
namespace Cd
open PySem PySem.Spec PyProof.Rows L2
open Evl (Ex EvT)
section
variable {P : Program} {w : World} {K : PySem.W.Frag} {mg : Str → Option Value} {base : Heap}
/-! ### the closure that the law makes -/
def inO (l : List Nat) : Option Nat → Bool
  | none => false
  | some j => l.contains j
def clo (ns : NestL) (d : Nat) : Nat → List Nat
  | 0 => [d]
  | t + 1 => clo ns d t ++ (List.range ns.length).filter fun k => inO (clo ns d t) (ns.getD k none) && !(clo ns d t).contains k
theorem clo_sub {ns : NestL} {d k t : Nat} (h : k ∈ clo ns d t) : k ∈ clo ns d (t + 1) := by
  unfold clo
  exact List.mem_append_left _ h
theorem clo_d {ns : NestL} {d : Nat} : ∀ t, d ∈ clo ns d t
  | 0 => by simp [clo]
  | t + 1 => clo_sub (clo_d t)
theorem clo_anc {ns : NestL} {d : Nat} : ∀ {t k : Nat}, k ∈ clo ns d t → k = d ∨ Anc ns k d
  | 0, k, h => by simp [clo] at h; exact .inl h
  | t + 1, k, h => by
    unfold clo at h
    rcases List.mem_append.mp h with h | h
    · exact clo_anc h
    · have h := (List.mem_filter.mp h).2
      rw [Bool.and_eq_true] at h
      have h := h.1
      cases e : ns.getD k none with
      | none => rw [e] at h; exact absurd h Bool.false_ne_true
      | some j =>
        rw [e] at h
        have h : j ∈ clo ns d t := List.contains_iff_mem.mp h
        rcases clo_anc h with rfl | h
        · exact .inr (.one e)
        · exact .inr (.more e h)
theorem anc_clo {ns : NestL} (ok : NOk ns) {d : Nat} : ∀ {t k : Nat}, Anc ns k d → d - k ≤ t → k ∈ clo ns d t
  | 0, k, h, le => by have := h.lt ok; omega
  | t + 1, k, h, le => by
    have lt := h.lt ok
    have step : ∀ j, ns.getD k none = some j → j ∈ clo ns d t → k ∈ clo ns d (t + 1) := fun j e hj => by
      by_cases hk : k ∈ clo ns d t
      · exact clo_sub hk
      · unfold clo
        refine List.mem_append_right _ (List.mem_filter.mpr ⟨List.mem_range.mpr (by omega), ?_⟩)
        rw [e, Bool.and_eq_true]
        exact ⟨List.contains_iff_mem.mpr hj, by simpa using hk⟩
    cases h with
    | one e => exact step _ e (clo_d t)
    | more e h =>
      have := ok.up _ _ e
      exact step _ e (anc_clo ok h (by omega))
theorem clo_ok {ns : NestL} {d : Nat} (hd : d < ns.length) : ∀ t, SOk ns (clo ns d t)
  | 0 => ⟨by simp [clo], fun k hk => by simp [clo] at hk; omega⟩
  | t + 1 => by
    have ih := clo_ok hd t
    refine ⟨?_, fun k hk => ?_⟩
    · unfold clo
      refine List.nodup_append.mpr ⟨ih.nd, List.Pairwise.filter _ List.nodup_range, fun a ha b hb e => ?_⟩
      subst e
      have hb := (List.mem_filter.mp hb).2
      rw [Bool.and_eq_true] at hb
      simp at hb
      exact hb.2 ha
    · unfold clo at hk
      rcases List.mem_append.mp hk with h | h
      · exact ih.lt k h
      · exact List.mem_range.mp (List.mem_filter.mp h).1
theorem clo_inside {ns : NestL} (ok : NOk ns) {d : Nat} (hd : d < ns.length) {m : List Nat} (p : m.Perm ((clo ns d ns.length).filter fun k => decide (k ≠ d))) (w : m.Pairwise (· ≤ ·)) : m = inside ns d := by
  have nd : ((clo ns d ns.length).filter fun k => decide (k ≠ d)).Nodup := List.Pairwise.filter _ (clo_ok hd _).nd
  refine asc_ext ?_ (List.Pairwise.filter _ List.pairwise_lt_range) fun k => ?_
  · exact List.Pairwise.imp₂ (fun a b h1 h2 => Nat.lt_of_le_of_ne h1 h2) w (p.nodup_iff.mpr nd)
  · rw [p.mem_iff, mem_inside ok, insB_iff ok, List.mem_filter, decide_eq_true_iff]
    constructor
    · rintro ⟨h, ne⟩
      rcases clo_anc h with e | h
      · exact absurd e ne
      · exact h
    · intro h
      have := h.lt ok
      exact ⟨anc_clo ok h (by omega), by omega⟩
/-- the doors within each door, as the law lists them -/
def someD (ns : NestL) : PyData := .list ((List.range ns.length).map fun d => lD (inside ns d))
section
variable {H0 H : Hp} {σ : L2.St} {Γ : List G} {X : List (V × PyData)} {te : TE} {D : Ends} {ds es : List PyData}
/-- l.append(a new list) -/
theorem s_appL {i : Nat} {p : Addr} (E : En K H0 H σ Γ X) (hi : Γ[i]? = some (.m p ds)) (h : EvN K te σ H es) (n : ∀ d ∈ es, NL d) (few : ds.length < 100000) (k : ∀ H1, En K H0 H1 σ (Γ.set i (.m p (ds ++ [.list es]))) X → D.nx σ H1) : tDrop (tBM K "list" rAppend (tVar i) (tCons te tNil)) D σ H := by
  obtain ⟨e1, vs, e2, e3⟩ := E.lst i p ds hi
  refine ⟨.ref p, e1, Or.inl ⟨rfl, vs, Evl.sq_of e2⟩, h H (Ex.refl H) _ fun q ws H1 nq e hq al => ?_⟩
  have E1 := E.mono e
  obtain ⟨_, us, e4, e5⟩ := E1.lst i p ds hi
  exact ⟨p, us, .ref q, rfl, rfl, e4, Evl.sz_lt (by rw [da_len e5]; exact few), k _ (E1.upd hi (da_app e5 (.cons (E.fresh n nq e hq al) .nil)))⟩
end
theorem ev_neI {σ : L2.St} {H : Hp} {ta tb : TE} {i j : Int} (ha : EvD K ta σ H (.int i)) (hb : EvD K tb σ H (.int j)) : EvD K (tOp rNe ta tb) σ H (.bool (!decide (i = j))) :=
  ev_op ha hb fun u v H1 _ hu hv Q q => by
    rw [dp_int hu, dp_int hv]
    refine ⟨rfl, ?_⟩
    rw [dec_int]
    exact q _ H1 (Ex.refl H1) (by rw [Bool.beq_eq_decide_eq]; exact .bl _)
theorem ev_inO {σ : L2.St} {H : Hp} {ta tb : TE} {o : Option Nat} {l : List Nat} (ha : EvD K ta σ H (optD o)) (hb : EvD K tb σ H (lD l)) : EvD K (tOp (rIn K false) ta tb) σ H (.bool (inO l o)) := by
  cases o with
  | none => exact (ev_inL (x := .none) ha hb rfl (flat_is l)).is (by rw [any_none]; rfl)
  | some j => exact ev_inNL (a := j) ha hb
abbrev s__law_insides : Stmt := topS 41
abbrev N__law_insides : List Str := ["_law_nest_here", "_law_found", "_law_door", "_law_some", "_law_turn", "_law_k"]
theorem sc__law_insides : FnScope N__law_insides ["_law_nest_here"] (defScope s__law_insides) := ⟨rfl, rfl, rfl, by decide +kernel, rfl, by decide +kernel, by decide +kernel⟩
def spInsides (K : PySem.W.Frag) : Sp := fun vs H Q _ => ∃ ns, NOk ns ∧ DtAll K H vs [nestD ns] ∧ RetN K ((List.range ns.length).map fun d => lD (inside ns d)) H Q
theorem ok__law_insides {f : Addr} {fd : FuncData} (F : Fun K "_law_insides" "_law_insides" s__law_insides f fd) (B : Bl mg) : FnOk P w K mg base CX0 1 f fd ["_law_nest_here"] (spInsides K) := by
  refine F.ok sc__law_insides (fun vs H Q E h => ?_) (fun cdv A outer s H vs Q E hr h => ?_)
  · obtain ⟨ns, ok, al, q⟩ := h
    exact da_len al
  · obtain ⟨ns, ok, al, q⟩ := h
    have hhi := ok.hi
    refine ⟨_, (pss_cons (ps_set (i := 1) sc__law_insides.nd rfl (.inl rfl) (pe_lst pa_nil))
    (pss_cons (ps_for PassesOwn.never rfl (pi_range1 (by rfl) B.range (pa_cons (pe_callB (c_len (K := K) rfl) (by rfl) B.len (by decide +kernel) (pa_cons (pv 0) pa_nil)) pa_nil)) (pg_name (i := 2) sc__law_insides.nd rfl (.inr rfl))
      (pss_cons (ps_set (i := 3) sc__law_insides.nd rfl (.inr rfl) (pe_lst (pa_cons (pv 2) pa_nil)))
      (pss_cons (ps_for PassesOwn.never rfl (pi_range1 (by rfl) B.range (pa_cons (pe_callB (c_len (K := K) rfl) (by rfl) B.len (by decide +kernel) (pa_cons (pv 0) pa_nil)) pa_nil)) (pg_name (i := 4) sc__law_insides.nd rfl (.inl rfl))
        (pss_one (ps_set (i := 3) sc__law_insides.nd rfl (.inr rfl) (pe_op op_cat (pv 3) (pe_lc (own := [("_law_k", 5)]) (g := gName 5) rfl sc__law_insides.nd (pi_range1 (by rfl) B.range (pa_cons (pe_callB (c_len (K := K) rfl) (by rfl) B.len (by decide +kernel) (pa_cons (pv 0) pa_nil)) pa_nil)) (blkOk_by (own := [("_law_k", 5)]) (N := N__law_insides) (by kernel_rfl)) (fun _ _ _ _ _ => (pg_name (i := 5) sc__law_insides.nd rfl (.inl rfl))) (fun _ _ _ _ _ => (pts_one (PW.pt (pw_and (pt_cmpR (op_in' (K := K) rfl) (pe_ix (ix_tup' (K := K) rfl) (pv 0) (pv 5) (fun _ _ => rfl)) (pv 3) rfl) (pw_and1 (pt_cmpR (op_ni' (K := K) rfl) (pv 5) (pv 3) rfl)))))) (fun _ _ _ _ _ => (pv 5)))))))
      (pss_one (ps_expr (pe_app (K := K) rfl (pv 1) (pa_cons (pe_callB (c_sortL (K := K) rfl) (by rfl) B.sorted (by decide +kernel) (pa_cons (pe_lc (own := [("_law_k", 5)]) (g := gName 5) rfl sc__law_insides.nd (pi_list' (K := K) rfl (pv 3)) (blkOk_by (own := [("_law_k", 5)]) (N := N__law_insides) (by kernel_rfl)) (fun _ _ _ _ _ => (pg_name (i := 5) sc__law_insides.nd rfl (.inl rfl))) (fun _ _ _ _ _ => (pts_one (pt_cmpR op_ne (pv 5) (pv 2) (nomark _)))) (fun _ _ _ _ _ => (pv 5))) pa_nil)) pa_nil)))))))
    (pss_one (ps_ret (pv 1))))), ?_⟩
    have E0 := env_go (N := N__law_insides) al
    refine s_asgM (i := 1) (ds := []) E0 (ev_lst ea_nil (by decide)) (fun _ h => nomatch h) fun p H1 np e1 E1 => ?_
    have v0 : EvD K (tVar 0) _ H1 (nestD ns) := ev_var E1.va rfl
    refine s_forR1 (n := ns.length) (j := 2) E1 ((ev_lenT v0).is (by rw [List.length_map])) (by omega) (fun k Γ => ∃ a b c d, Γ = [.d (nestD ns), .m p ((List.range k).map fun d => lD (inside ns d)), a, b, c, d]) ⟨.no, .no, .no, .no, rfl⟩ (fun d σ' H' Γ' hd hΓ E2 => ?_) fun σ' H' Γ' hΓ E2 => ?_
    · obtain ⟨a, b, c, e, rfl⟩ := hΓ
      have v2 : EvD K (tVar 2) _ H' (iD d) := ev_var E2.va rfl
      refine s_asgM (i := 3) (ds := (clo ns d 0).map iD) E2 (ev_lst (ea_cons v2 ea_nil) (by simp [clo])) (nl_is _) fun p2 H3 np2 e3 E3 => ?_
      have v0 : EvD K (tVar 0) _ H3 (nestD ns) := ev_var E3.va rfl
      refine s_forR1 (n := ns.length) (j := 4) E3 ((ev_lenT v0).is (by rw [List.length_map])) (by omega) (fun t Γ => ∃ p2 c e, Γ = [.d (nestD ns), .m p ((List.range d).map fun d => lD (inside ns d)), .d (iD d), .m p2 ((clo ns d t).map iD), c, e]) ⟨p2, c, e, rfl⟩ (fun t σ2 H4 Γ2 ht hΓ2 E4 => ?_) fun σ2 H4 Γ2 hΓ2 E4 => ?_
      · obtain ⟨p2, c, e, rfl⟩ := hΓ2
        have v0 : EvD K (tVar 0) _ H4 (nestD ns) := ev_var E4.va rfl
        have le := (clo_ok hd t).le
        have cL := ev_lcR (K := K) (tt := tAnd (tTest (tOp (rIn K false) (tOp (rIxT K) (tVar 0) (tVar 5)) (tVar 3))) (tTest (tOp (rIn K true) (tVar 5) (tVar 3)))) (te := tVar 5) (n := ns.length) (f := fun k => inO (clo ns d t) (ns.getD k none) && !(clo ns d t).contains k) (e := iD) (j := 5) E4.va ((ev_lenT v0).is (by rw [List.length_map])) (by omega) (fun k H5 hk e5 V => by
          have v0 : EvD K (tVar 0) _ H5 (nestD ns) := ev_var V rfl
          have v3 : EvD K (tVar 3) _ H5 (lD (clo ns d t)) := ev_var V rfl
          have v5 : EvD K (tVar 5) _ H5 (iD k) := ev_var V rfl
          exact Evl.et_and (et_test (ev_inO (ev_ixT v0 v5 (at_nest hk)) v3)) fun _ => et_test (ev_niNL v5 v3)) (fun k H5 hk _ e5 V => ev_var V rfl) (fun k _ _ => nl_i k)
        have ll := List.length_filter_le (fun k => inO (clo ns d t) (ns.getD k none) && !(clo ns d t).contains k) (List.range ns.length)
        rw [List.length_range] at ll
        have cat := (ev_catL (ev_M (i := 3) E4 rfl) cL (by rw [List.length_map, List.length_map]; omega)).is (es := (clo ns d (t + 1)).map iD) (by rw [clo, List.map_append])
        exact s_asgM (i := 3) E4 cat (nl_is _) fun p3 H5 np5 e5 E5 => ⟨_, ⟨p3, _, _, rfl⟩, E5⟩
      · obtain ⟨p2, c, e, rfl⟩ := hΓ2
        have v3 : EvD K (tVar 3) _ H4 (lD (clo ns d ns.length)) := ev_var E4.va rfl
        have le := (clo_ok hd ns.length).le
        have cL := ev_lcL (K := K) (tt := tTest (tOp rNe (tVar 5) (tVar 2))) (te := tVar 5) (c := iD) (l := clo ns d ns.length) (f := fun k => decide (k ≠ d)) (e := iD) (j := 5) E4.va v3 (by omega) (fun k v H5 hk e5 hv V => by
          have v2 : EvD K (tVar 2) _ H5 (iD d) := ev_var V rfl
          have v5 : EvD K (tVar 5) _ H5 (iD k) := ev_var V rfl
          refine Evl.et_is (et_test (ev_neI v5 v2)) ?_
          rw [Bool.eq_iff_iff, decide_eq_true_iff, Bool.not_eq_true', decide_eq_false_iff_not]
          omega) (fun k v H5 hk _ e5 hv V => ev_var V rfl) (fun k _ _ => nl_i k)
        have fl := List.length_filter_le (fun k => decide (k ≠ d)) (clo ns d ns.length)
        refine s_appL (i := 1) (es := (inside ns d).map iD) E4 rfl (ev_sortL cL.toD (by omega) fun m p w => clo_inside ok hd p w) (nl_is _) (by rw [List.length_map, List.length_range]; omega) fun H5 E5 => ⟨_, ⟨.d (iD d), .m p2 ((clo ns d ns.length).map iD), c, e, ?_⟩, E5⟩
        rw [List.range_succ, List.map_append] <;> rfl
    · obtain ⟨a, b, c, e, rfl⟩ := hΓ
      exact s_retM (i := 1) E2 rfl q
abbrev s__law_ranks : Stmt := topS 45
abbrev N__law_ranks : List Str := ["_law_some", "_law_order_here", "_law_found", "_law_k", "_law_ahead", "_law_x"]
theorem sc__law_ranks : FnScope N__law_ranks ["_law_some", "_law_order_here"] (defScope s__law_ranks) := ⟨rfl, rfl, rfl, by decide +kernel, rfl, by decide +kernel, by decide +kernel⟩
def spRanksL (K : PySem.W.Frag) : Sp := fun vs H Q _ => ∃ ns o, NOk ns ∧ OOk ns.length o ∧ DtAll K H vs [someD ns, tD o] ∧ RetD K (tD (ranksN ns o)) H Q
theorem at_some {ns : NestL} {k : Nat} (hk : k < ns.length) : atI ((List.range ns.length).map fun d => lD (inside ns d)) (k : Int) = some (lD (inside ns k)) := at_map (c := fun d => lD (inside ns d)) (l := List.range ns.length) (i := k) (a := k) (List.getElem?_range hk)
theorem rank_law {ns : NestL} {o : List Nat} (oo : OOk ns.length o) (k : Nat) : ((inside ns k).filter fun x => (o.take (o.idxOf k)).contains x).length = rankN ns o k := (rank_cnt oo.nd).symm
theorem ok__law_ranks {f : Addr} {fd : FuncData} (F : Fun K "_law_ranks" "_law_ranks" s__law_ranks f fd) (B : Bl mg) : FnOk P w K mg base CX0 1 f fd ["_law_some", "_law_order_here"] (spRanksL K) := by
  refine F.ok sc__law_ranks (fun vs H Q E h => ?_) (fun cdv A outer s H vs Q E hr h => ?_)
  · obtain ⟨ns, o, ok, oo, al, q⟩ := h
    exact da_len al
  · obtain ⟨ns, o, ok, oo, al, q⟩ := h
    have hhi := ok.hi
    refine ⟨_, (pss_cons (ps_set (i := 2) sc__law_ranks.nd rfl (.inl rfl) (pe_lst pa_nil))
    (pss_cons (ps_for PassesOwn.never rfl (pi_range1 (by rfl) B.range (pa_cons (pe_callB (c_len (K := K) rfl) (by rfl) B.len (by decide +kernel) (pa_cons (pv 0) pa_nil)) pa_nil)) (pg_name (i := 3) sc__law_ranks.nd rfl (.inl rfl))
      (pss_cons (ps_set (i := 4) sc__law_ranks.nd rfl (.inr rfl) (pe_slice sl_tupP (pv 1) po_none (po_some (pe_ixm' (K := K) rfl (pv 1) (pa_cons (pv 3) pa_nil)))))
      (pss_one (ps_expr (pe_app (K := K) rfl (pv 2) (pa_cons (pe_callB (c_len (K := K) rfl) (by rfl) B.len (by decide +kernel) (pa_cons (pe_lc (own := [("_law_x", 5)]) (g := gName 5) rfl sc__law_ranks.nd (pi_list' (K := K) rfl (pe_ix (ix_list' (K := K) rfl) (pv 0) (pv 3) (fun _ _ => rfl))) (blkOk_by (own := [("_law_x", 5)]) (N := N__law_ranks) (by kernel_rfl)) (fun _ _ _ _ _ => (pg_name (i := 5) sc__law_ranks.nd rfl (.inl rfl))) (fun _ _ _ _ _ => (pts_one (pt_cmpR (op_in' (K := K) rfl) (pv 5) (pv 4) rfl))) (fun _ _ _ _ _ => (pv 5))) pa_nil)) pa_nil))))))
    (pss_one (ps_ret (pe_callTy (c_tup (K := K) rfl) (by rfl) B.tuple (by decide +kernel) (pa_cons (pv 2) pa_nil)))))), ?_⟩
    have E0 := env_go (N := N__law_ranks) al
    refine s_asgM (i := 2) (ds := []) E0 (ev_lst ea_nil (by decide)) (fun _ h => nomatch h) fun p H1 np e1 E1 => ?_
    have v0 : EvD K (tVar 0) _ H1 (someD ns) := ev_var E1.va rfl
    refine s_forR1 (n := ns.length) (j := 3) E1 ((ev_lenL v0).is (by rw [List.length_map, List.length_range])) (by omega) (fun k Γ => ∃ a b, Γ = [.d (someD ns), .d (tD o), .m p (((List.range k).map (rankN ns o)).map iD), a, b, .no]) ⟨.no, .no, rfl⟩ (fun k σ' H' Γ' hk hΓ E2 => ?_) fun σ' H' Γ' hΓ E2 => ?_
    · obtain ⟨a, b, rfl⟩ := hΓ
      have v1 : EvD K (tVar 1) _ H' (tD o) := ev_var E2.va rfl
      have v3 : EvD K (tVar 3) _ H' (iD k) := ev_var E2.va rfl
      have hi : o.idxOf k < o.length := List.idxOf_lt_length_iff.mpr (oo.has hk)
      refine s_asg (i := 4) (d := tD (o.take (o.idxOf k))) E2 ((ev_slT v1 eo_none (eo_some (ev_ixm v1 v3 (j := o.idxOf k) (by rw [List.getElem?_eq_getElem hi, List.getElem_idxOf]) fun m hm e => by
        obtain ⟨h1, h2⟩ := List.getElem?_eq_some_iff.mp e
        have := oo.nd.idxOf_getElem m h1
        rw [h2] at this
        omega))).is (by rw [cut_take]; unfold tD; rw [List.map_take])) (nl_t _) fun v H3 e3 E3 => ?_
      have v0 : EvD K (tVar 0) _ H3 (someD ns) := ev_var E3.va rfl
      have v3 : EvD K (tVar 3) _ H3 (iD k) := ev_var E3.va rfl
      have cL := ev_lcL (K := K) (tt := tTest (tOp (rIn K false) (tVar 5) (tVar 4))) (te := tVar 5) (c := iD) (l := inside ns k) (f := fun x => (o.take (o.idxOf k)).contains x) (e := iD) (j := 5) E3.va (ev_ixL v0 v3 (at_some hk)) (by have := inside_len (ns := ns) (k := k); omega) (fun x v H5 hx e5 hv V => by
        have v4 : EvD K (tVar 4) _ H5 (tD (o.take (o.idxOf k))) := ev_var V rfl
        have v5 : EvD K (tVar 5) _ H5 (iD x) := ev_var V rfl
        exact et_test (ev_inNT v5 v4)) (fun x v H5 hx _ e5 hv V => ev_var V rfl) (fun x _ _ => nl_i x)
      refine s_app (i := 2) (d := iD (rankN ns o k)) E3 rfl ((ev_lenL cL.toD).is (by rw [List.length_map, rank_law oo])) (nl_i _) (by rw [List.length_map, List.length_map, List.length_range]; omega) fun H4 E4 => ⟨_, ⟨.d (iD k), .d (tD (o.take (o.idxOf k))), ?_⟩, E4⟩
      rw [List.range_succ, List.map_append, List.map_append] <;> rfl
    · obtain ⟨a, b, rfl⟩ := hΓ
      have v2 : EvD K (tVar 2) _ H' (lD ((List.range ns.length).map (rankN ns o))) := ev_var E2.va rfl
      exact s_ret E2 (ev_tupL v2) q
abbrev s__law_least : Stmt := topS 46
abbrev N__law_least : List Str := ["_law_some", "_law_told_here", "_law_rows", "_law_order_here", "_law_one", "_law_k"]
theorem sc__law_least : FnScope N__law_least ["_law_some", "_law_told_here"] (defScope s__law_least) := ⟨rfl, rfl, rfl, by decide +kernel, rfl, by decide +kernel, by decide +kernel⟩
def spLeastL (K : PySem.W.Frag) : Sp := fun vs H Q _ => ∃ ns told, NOk ns ∧ TOk ns.length told ∧ DtAll K H vs [someD ns, toldD told] ∧ RetD K (numsD (leastN ns sortU told)) H Q
theorem ok__law_least {f : Addr} {fd : FuncData} (F : Fun K "_law_least" "_law_least" s__law_least f fd) (B : Bl mg) (k__law_ranks : Kd P w K mg base "_law_ranks" 1 ["_law_some", "_law_order_here"] (spRanksL K)) : FnOk P w K mg base CX0 2 f fd ["_law_some", "_law_told_here"] (spLeastL K) := by
  refine F.ok sc__law_least (fun vs H Q E h => ?_) (fun cdv A outer s H vs Q E hr h => ?_)
  · obtain ⟨ns, told, ok, tk, al, q⟩ := h
    exact da_len al
  · obtain ⟨ns, told, ok, tk, al, q⟩ := h
    have hhi := ok.hi
    have h2 := tk.hi
    refine ⟨_, (pss_cons (ps_set (i := 2) sc__law_least.nd rfl (.inr rfl) (pe_lc (own := [("_law_order_here", 3)]) (g := gName 3) rfl sc__law_least.nd (pi_tup' (K := K) rfl (pv 1)) (blkOk_by (own := [("_law_order_here", 3)]) (N := N__law_least) (by kernel_rfl)) (fun _ _ _ _ _ => (pg_name (i := 3) sc__law_least.nd rfl (.inl rfl))) (fun _ _ _ _ _ => pts_nil) (fun _ _ _ _ _ => (pe_kd k__law_ranks hr (by decide) (by rfl) (pa_cons (pv 0) (pa_cons (pv 3) pa_nil))))))
    (pss_one (ps_ret (pe_callTy (c_tup (K := K) rfl) (by rfl) B.tuple (by decide +kernel) (pa_cons (pe_lc (own := [("_law_k", 5)]) (g := gName 5) rfl sc__law_least.nd (pi_range1 (by rfl) B.range (pa_cons (pe_callB (c_len (K := K) rfl) (by rfl) B.len (by decide +kernel) (pa_cons (pv 0) pa_nil)) pa_nil)) (blkOk_by (own := [("_law_k", 5)]) (N := N__law_least) (by kernel_rfl)) (fun _ _ _ _ _ => (pg_name (i := 5) sc__law_least.nd rfl (.inr rfl))) (fun _ _ _ _ _ => pts_nil) (fun _ _ _ _ _ => (pe_callTy (c_tup (K := K) rfl) (by rfl) B.tuple (by decide +kernel) (pa_cons (pe_callB (c_sortSet (w := w) rfl rfl) (by rfl) B.sorted (by decide +kernel) (pa_cons (pe_callTy (c_setL (K := K) (w := w) rfl rfl rfl) (by rfl) B.set (by decide +kernel) (pa_cons (pe_lc (own := [("_law_one", 4)]) (g := gName 4) rfl sc__law_least.nd (pi_list' (K := K) rfl (pv 2)) (blkOk_by (own := [("_law_one", 4)]) (N := N__law_least) (by kernel_rfl)) (fun _ _ _ _ _ => (pg_name (i := 4) sc__law_least.nd rfl (.inl rfl))) (fun _ _ _ _ _ => pts_nil) (fun _ _ _ _ _ => (pe_ix (ix_tup' (K := K) rfl) (pv 4) (pv 5) (fun _ _ => rfl)))) pa_nil)) pa_nil)) pa_nil)))) pa_nil))))), ?_⟩
    have E0 := env_go (N := N__law_least) al
    have v1 : EvD K (tVar 1) _ H (toldD told) := ev_var E0.va rfl
    refine s_asgL (i := 2) (ds := told.map fun o => tD (ranksN ns o)) E0 ((ev_lcT (c := tD) (l := told) (f := fun _ => true) (e := fun o => tD (ranksN ns o)) (j := 3) E0.va v1 (by omega) (fun o v H2 _ _ _ V => et_yes) (fun o v H2 ho _ e2 hv V => ?_) fun o _ _ => nl_t _).is (by rw [filter_yes])) (fun d hd => ?_) fun v H1 e1 E1 => ?_
    · have v0 : EvD K (tVar 0) _ H2 (someD ns) := ev_var V rfl
      have v3 : EvD K (tVar 3) _ H2 (tD o) := ev_var V rfl
      exact ev_call (ea_cons v0 (ea_cons v3 ea_nil)) fun vs H2 Q _ al q => ⟨ns, o, ok, tk.oo o ho, al, q⟩
    · obtain ⟨o, _, rfl⟩ := List.mem_map.mp hd
      exact nl_t _
    have v0 : EvD K (tVar 0) _ H1 (someD ns) := ev_var E1.va rfl
    refine s_ret E1 ((ev_tupL (ev_lcR (n := ns.length) (f := fun _ => true) (e := fun k => tD (sortU (told.map fun o => rankN ns o k))) (j := 5) E1.va ((ev_lenL v0).is (by rw [List.length_map, List.length_range])) (by omega) (fun k H2 _ _ V => et_yes) (fun k H2 hk _ e2 V => ?_) fun k _ _ => nl_t _).toD).is (by rw [filter_yes]; unfold numsD leastN; rw [List.map_map] <;> rfl)) q
    have v2 : EvD K (tVar 2) _ H2 (.list (told.map fun o => tD (ranksN ns o))) := ev_var V rfl
    have cL := ev_lcL (K := K) (tt := tYes) (te := tOp (rIxT K) (tVar 4) (tVar 5)) (c := fun o => tD (ranksN ns o)) (l := told) (f := fun _ => true) (e := fun o => iD (rankN ns o k)) (j := 4) V v2 (by omega) (fun o v H3 _ _ _ V => et_yes) (fun o v H3 ho _ e3 hv V => by
      have v4 : EvD K (tVar 4) _ H3 (tD (ranksN ns o)) := ev_var V rfl
      have v5 : EvD K (tVar 5) _ H3 (iD k) := ev_var V rfl
      exact ev_ixT v4 v5 (at_map (by unfold ranksN; rw [List.getElem?_map, List.getElem?_range hk] <;> rfl))) (fun o _ _ => nl_i _)
    exact ev_tupL (ev_sortSet (l := told.map fun o => rankN ns o k) (cL.toD.is (by rw [filter_yes]; unfold lD; rw [List.map_map] <;> rfl)) (by rw [List.length_map]; omega)).toD
end
end Cd


set_option Elab.async false
set_option linter.all false
set_option maxRecDepth 100000
set_option maxHeartbeats 4000000
namespace Cd
open PySem PySem.Spec PyProof.Rows L2
open Evl (Ex EvT)
section
variable {P : Program} {w : World} {K : PySem.W.Frag} {mg : Str → Option Value} {base : Heap}
/-! ### two items of an order change places -/
def swp (o : List Nat) (a b : Nat) : List Nat := (o.set a (o.getD b 0)).set b (o.getD a 0)
theorem swp_ok {n : Nat} {o : List Nat} (h : OOk n o) {a b : Nat} (ha : a < n) (hb : b < n) : OOk n (swp o a b) := by
  have la : a < o.length := by rw [h.len]; exact ha
  have lb : b < o.length := by rw [h.len]; exact hb
  have ga : o.getD a 0 = o[a] := by rw [List.getD_eq_getElem?_getD, List.getElem?_eq_getElem la] <;> rfl
  have gb : o.getD b 0 = o[b] := by rw [List.getD_eq_getElem?_getD, List.getElem?_eq_getElem lb] <;> rfl
  have inj : ∀ {i j : Nat} (hi : i < o.length) (hj : j < o.length), o[i] = o[j] → i = j := fun {i j} hi hj e => (h.nd.idxOf_getElem i hi).symm.trans ((congrArg (fun z => o.idxOf z) e).trans (h.nd.idxOf_getElem j hj))
  refine ⟨?_, by simp [swp, h.len], fun x hx => ?_⟩
  · unfold swp
    rw [ga, gb]
    refine List.pairwise_iff_getElem.mpr fun i j hi hj lt => ?_
    have hi' : i < o.length := by simpa using hi
    have hj' : j < o.length := by simpa using hj
    rw [List.getElem_set, List.getElem_set, List.getElem_set, List.getElem_set]
    intro e
    split at e
    · split at e
      · omega
      · split at e
        · have := inj la lb e
          omega
        · have := inj la hj' e
          omega
    · split at e
      · split at e
        · have := inj lb la e
          omega
        · split at e
          · omega
          · have := inj lb hj' e
            omega
      · split at e
        · have := inj hi' la e
          omega
        · split at e
          · have := inj hi' lb e
            omega
          · have := inj hi' hj' e
            omega
  · unfold swp at hx
    rcases List.mem_or_eq_of_mem_set hx with hx | rfl
    · rcases List.mem_or_eq_of_mem_set hx with hx | rfl
      · exact h.lt x hx
      · rw [gb]; exact h.lt _ (List.getElem_mem lb)
    · rw [ga]; exact h.lt _ (List.getElem_mem la)
section
variable {H0 H : Hp} {r sc : Addr} {script : List Int} {i0 : Nat} {σ : L2.St} {Γ : List G} {X : List (V × PyData)} {vs : List V} {te ta tb tc : TE} {t u : TT} {R Ra Rb : PyData → Prop} {RN : List PyData → Prop} {d : PyData} {D : Ends} {tu tw : TS} {ds : List PyData}
theorem s_ifJ {RB : Bool → Prop} (E : En K H0 H σ Γ X) (hi : Γ[i0]? = some (.r r vs)) (ok : RowOk sc vs) (hS : ((V.ref sc, ScD script) : V × PyData) ∈ X) (J : L2.St → Hp → Prop) (h : EvWT K H0 r sc script i0 σ Γ t RB)
    (h1 : (∀ σ' H', J σ' H' → D.nx σ' H') → ∀ H1 vs1, RB true → RowOk sc vs1 → En K H0 H1 σ (Γ.set i0 (.r r vs1)) X → tu D σ H1) (h2 : ∀ H1 vs1, RowOk sc vs1 → En K H0 H1 σ (Γ.set i0 (.r r vs1)) X → J σ H1) (hJ : ∀ σ' H', J σ' H' → D.nx σ' H') : tIfS t tu tNext D σ H :=
  s_ifW E hi ok hS h (fun H1 vs1 hb ok1 E1 => h1 hJ H1 vs1 hb ok1 E1) fun H1 vs1 _ ok1 E1 => hJ _ _ (h2 H1 vs1 ok1 E1)
theorem s_forRW2 {tn : TE} {j : Nat} {Pn : Nat → Prop} (E : En K H0 H σ Γ X) (hi : Γ[i0]? = some (.r r vs)) (ok : RowOk sc vs) (hS : ((V.ref sc, ScD script) : V × PyData) ∈ X) (hn : EvW K H0 r sc script i0 σ Γ tn (fun d => ∃ n : Nat, d = iD n ∧ Pn n)) (go : ∀ n v H1 vs1, Pn n → RowOk sc vs1 → En K H0 H1 σ (Γ.set i0 (.r r vs1)) X → EvD K (tC v) σ H1 (iD n) → tFor (iRng1 (tCons (tC v) tNil)) (gName j) tu D σ H1) : tFor (iRng1 (tCons tn tNil)) (gName j) tu D σ H :=
  hn H vs X ok hS ((set_same hi).symm ▸ E) _ fun v d H1 vs1 pd _ ok1 E1 => by
    obtain ⟨n, rfl, lt⟩ := pd
    have ev : v = .int (n : Int) := dp_int (E1.gho _ (List.mem_cons_self ..))
    subst ev
    exact go n _ H1 vs1 lt ok1 E1.unghost ev_i
/-- l[a], l[b] = l[b], l[a] -/
theorem s_swap {i a b : Nat} {p : Addr} {ta tb : TE} {o : List Nat} (E : En K H0 H σ Γ X) (hi : Γ[i]? = some (.m p (o.map iD))) (ha : ∀ H1, Ex (mask [p] H) (mask [p] H1) → EvD K ta σ H1 (iD a)) (hb : ∀ H1, Ex (mask [p] H) (mask [p] H1) → EvD K tb σ H1 (iD b)) (la : a < o.length) (lb : b < o.length) (k : ∀ H1, En K H0 H1 σ (Γ.set i (.m p ((swp o a b).map iD))) X → D.nx σ H1) :
    tAsg (tTup (tCons (tOp (rIxL K) (tVar i) tb) (tCons (tOp (rIxL K) (tVar i) ta) tNil))) (gTup K 2 (gCons (gSub (tVar i) ta rSetL) (gCons (gSub (tVar i) tb rSetL) gNil))) D σ H := by
  have rd : ∀ H1, Ex H H1 → EvD K (tVar i) σ H1 (lD o) := fun H1 e => by
    have E1 := E.mono e
    obtain ⟨e1, vs, e2, e3⟩ := E1.lst i p _ hi
    exact ev_ownD e1 e2 (da_ex mask_le e3)
  have mk : ∀ {H1 H2 : Hp}, Ex H1 H2 → Ex (mask [p] H1) (mask [p] H2) := fun e => mask_mono e fun _ _ _ h => h
  have args := ea_cons (ev_ixL (rd H (Ex.refl H)) (hb H (Ex.refl _)) (at_is lb)) (ea_cons (ev_ixL (rd H (Ex.refl H)) (ha H (Ex.refl _)) (at_is la)) ea_nil)
  refine args H (Ex.refl H) (fun xs H1 => xs.length ≤ sizeLine ∧ ∀ p, H1 p = none → gTup K 2 (gCons (gSub (tVar i) ta rSetL) (gCons (gSub (tVar i) tb rSetL) gNil)) (.ref p) σ (upd H1 p (.tup xs)) D.nx) fun vs H1 e1 al => ⟨by rw [da_len al]; exact Evl.sz_of (by simp), fun T hT => ?_⟩
  cases al with
  | cons h1 t => cases t with
    | cons h2 t => cases t with
      | nil =>
        rename_i x y
        have ex := dp_int h1
        have ey := dp_int h2
        subst ex ey
        have E2 := (E.mono e1).mono (Ex.new (o := .tup [.int ((o.getD b 0 : Nat) : Int), .int ((o.getD a 0 : Nat) : Int)]) hT)
        obtain ⟨f1, us, f2, f3⟩ := E2.lst i p _ hi
        refine ⟨T, _, rfl, .inl (.inl upd_same), rfl, _, _, rfl, .ref p, f1, ha _ (mk (e1.trans (Ex.new hT))) _ (Ex.refl _) _ fun w H3 e3 hw => ?_⟩
        have E3 := E2.mono e3
        obtain ⟨_, us3, g2, g3⟩ := E3.lst i p _ hi
        have l3 : us3.length = o.length := by rw [da_len g3, List.length_map]
        refine ⟨p, us3, (a : Int), a, rfl, dp_int hw, g2, Evl.ixN_nat (by omega), ?_⟩
        have E4 := E3.upd hi (da_set a g3 (d := iD (o.getD b 0)) (.int _))
        have ex4 : Ex (mask [p] H) (mask [p] (upd H3 p (.lst (us3.set a (.int ((o.getD b 0 : Nat) : Int)))))) := (mk ((e1.trans (Ex.new hT)).trans e3)).trans ex_upd
        have hi4 : (Γ.set i (.m p ((o.map iD).set a (iD (o.getD b 0)))))[i]? = some (.m p ((o.map iD).set a (iD (o.getD b 0)))) := List.getElem?_set_self (List.getElem?_eq_some_iff.mp hi).1
        obtain ⟨k1, us4, k2, k3⟩ := E4.lst i p _ hi4
        refine ⟨_, _, rfl, .ref p, k1, hb _ ex4 _ (Ex.refl _) _ fun w' H5 e5 hw' => ?_⟩
        have E5 := E4.mono e5
        obtain ⟨_, us5, m2, m3⟩ := E5.lst i p _ hi4
        have l5 : us5.length = o.length := by rw [da_len m3, List.length_set, List.length_map]
        refine ⟨p, us5, (b : Int), b, rfl, dp_int hw', m2, Evl.ixN_nat (by omega), rfl, ?_⟩
        have E6 := E5.upd hi4 (da_set b m3 (d := iD (o.getD a 0)) (.int _))
        rw [List.set_set] at E6
        refine k _ ?_
        unfold swp
        rw [List.map_set, List.map_set]
        exact E6
end
abbrev s__law_told : Stmt := topS 43
abbrev N__law_told : List Str := ["_law_row", "_law_count", "_law_most", "_law_base", "_law_found", "_law_turn", "_law_order_here", "_law_again", "_law_at", "_law_other"]
theorem sc__law_told : FnScope N__law_told ["_law_row", "_law_count", "_law_most"] (defScope s__law_told) := ⟨rfl, rfl, rfl, by decide +kernel, rfl, by decide +kernel, by decide +kernel⟩
def spToldL (K : PySem.W.Frag) : Sp := fun vs H Q _ => ∃ r sc script n, 1 ≤ n ∧ n ≤ 6 ∧ (∃ v u, vs = [.ref r, v, u] ∧ Dt K H v (iD n) ∧ Dt K H u (.int 4)) ∧ RowIn K H r sc script ∧ RowQ K H r sc (fun d => ∃ told, TOk n told ∧ d = toldD told) Q
theorem told_of {n : Nat} (h1 : 1 ≤ n) (h6 : n ≤ 6) {l : List (List Nat)} (hl : ∀ o ∈ l, OOk n o) (lo : 1 ≤ l.length) (hi : l.length ≤ 12) : TOk n (ascOf l) := by
  obtain ⟨asc, mem⟩ := asc_of (l := l) (d := n) fun o ho => (hl o ho).flat h6
  refine ⟨fun o ho => hl o ((mem o).mp ho), asc, ?_, ?_⟩
  · cases l with
    | nil => simp at lo
    | cons o l => exact List.length_pos_of_mem ((mem o).mpr (by simp))
  · exact Nat.le_trans (pigeon asc.nodup fun o ho => (mem o).mp ho) hi
theorem ok__law_told {f : Addr} {fd : FuncData} (F : Fun K "_law_told" "_law_told" s__law_told f fd) (B : Bl mg) (k__law_taken : Kd P w K mg base "_law_taken" 1 ["_law_row", "_law_many"] (spTaken K)) (k__law_order : Kd P w K mg base "_law_order" 2 ["_law_row", "_law_many"] (spOrder K)) : FnOk P w K mg base CX0 3 f fd ["_law_row", "_law_count", "_law_most"] (spToldL K) := by
  refine F.ok sc__law_told (fun vs H Q E h => ?_) (fun cdv A outer s H vs Q E hr h => ?_)
  · obtain ⟨r, sc, script, n, _, _, ⟨v, u, rfl, _⟩, _⟩ := h
    rfl
  · obtain ⟨r, sc, script, n, h1, h6, ⟨v, u, rfl, hv, hu⟩, hrow, q⟩ := h
    refine ⟨_, (pss_cons (ps_par (i := 3) (j := 4) rfl sc__law_told.nd rfl rfl (by decide) rfl rfl (pa_cons (pe_callTy (c_tup (K := K) rfl) (by rfl) B.tuple (by decide +kernel) (pa_cons (pe_kd k__law_order hr (by decide) (by rfl) (pa_cons (pv 0) (pa_cons (pv 1) pa_nil))) pa_nil)) (pa_cons (pe_lst pa_nil) pa_nil)) (by rfl))
    (pss_cons (ps_for PassesOwn.never rfl (pi_range1 (by rfl) B.range (pa_cons (pe_op op_add pe_int (pe_kd k__law_taken hr (by decide) (by rfl) (pa_cons (pv 0) (pa_cons (pv 2) pa_nil)))) pa_nil)) (pg_name (i := 5) sc__law_told.nd rfl (.inl rfl))
      (pss_cons (ps_set (i := 6) sc__law_told.nd rfl (.inl rfl) (pe_callTy (c_list (K := K) rfl) (by rfl) B.list (by decide +kernel) (pa_cons (pv 3) pa_nil)))
      (pss_cons (ps_if (pt_cmpR op_eq (pe_kd k__law_taken hr (by decide) (by rfl) (pa_cons (pv 0) (pa_cons pe_int pa_nil))) pe_int (nomark _))
        (pss_one (ps_set (i := 6) sc__law_told.nd rfl (.inl rfl) (pe_kd k__law_order hr (by decide) (by rfl) (pa_cons (pv 0) (pa_cons (pv 1) pa_nil))))) pss_nil)
      (pss_cons (ps_for PassesOwn.never rfl (pi_range1 (by rfl) B.range (pa_cons (pe_kd k__law_taken hr (by decide) (by rfl) (pa_cons (pv 0) (pa_cons pe_int pa_nil))) pa_nil)) (pg_name (i := 7) sc__law_told.nd rfl (.inl rfl))
        (pss_cons (ps_set (i := 8) sc__law_told.nd rfl (.inl rfl) (pe_kd k__law_taken hr (by decide) (by rfl) (pa_cons (pv 0) (pa_cons (pv 1) pa_nil))))
        (pss_cons (ps_set (i := 9) sc__law_told.nd rfl (.inl rfl) (pe_kd k__law_taken hr (by decide) (by rfl) (pa_cons (pv 0) (pa_cons (pv 1) pa_nil))))
        (pss_one (ps_asg (pe_tup (pa_cons (pe_ix (ix_list' (K := K) rfl) (pv 6) (pv 9) (fun _ _ => rfl)) (pa_cons (pe_ix (ix_list' (K := K) rfl) (pv 6) (pv 8) (fun _ _ => rfl)) pa_nil))) (pg_tup' (K := K) (n := 2) rfl rfl (pgs_cons (pg_sub (pv 6) (pv 8) set_list) (pgs_cons (pg_sub (pv 6) (pv 9) set_list) pgs_nil))))))))
      (pss_one (ps_expr (pe_app (K := K) rfl (pv 4) (pa_cons (pe_callTy (c_tup (K := K) rfl) (by rfl) B.tuple (by decide +kernel) (pa_cons (pv 6) pa_nil)) pa_nil))))))))
    (pss_one (ps_ret (pe_callTy (c_tup (K := K) rfl) (by rfl) B.tuple (by decide +kernel) (pa_cons (pe_callB (c_sortSetT (K := K) (P := P) (w := w) rfl rfl rfl rfl) (by rfl) B.sorted (by decide +kernel) (pa_cons (pe_callTy (c_setLT (K := K) (P := P) (w := w) rfl rfl rfl rfl hr.units) (by rfl) B.set (by decide +kernel) (pa_cons (pv 4) pa_nil)) pa_nil)) pa_nil)))))), ?_⟩
    obtain ⟨vs, ok, E0⟩ := env_row (N := N__law_told) hrow (.cons hv (.cons hu .nil)) (fun d hd => by
      simp at hd
      rcases hd with rfl | rfl
      · exact nl_i n
      · exact .int _)
    have hS : ((V.ref sc, ScD script) : V × PyData) ∈ [(V.ref sc, ScD script)] := by simp
    let σ0 := L2.start N__law_told [.ref r, v, u]
    have ord : ∀ {σ : L2.St} {Γ : List G}, (0 < Γ.length) → (∀ (vs : List V), view (Γ.set 0 (.r r vs)) 1 = some (iD n)) → EvWN K (mask [r] H) r sc script 0 σ Γ (tCall (spOrder K) [] L2.E0 (tCons (tVar 0) (tCons (tVar 1) tNil))) (fun ds => ∃ o, OOk n o ∧ ds = o.map iD) := fun {σ Γ} lt hv => ewn_call2 lt (ew_pure (R := fun d => d = iD n) (fun H vs X E => ev_var E.va (hv vs)) (nl_i n) rfl) fun w e H Q pe hw hrow q => by
      subst pe
      exact ⟨r, sc, script, n, h6, ⟨w, rfl, hw⟩, hrow, q⟩
    refine s_parWM (i0 := 0) (i := 3) (j := 4) (ds := []) E0 rfl ok hS (ew_tupN (ord (σ := σ0) (Γ := [.r r vs, .d (iD n), .d (.int 4), .no, .no, .no, .no, .no, .no, .no]) (by simp) fun _ => rfl)) (fun _ _ _ _ => ev_lst ea_nil (by decide)) (fun _ h => nomatch h) fun u1 d p H1 vs1 hd ok1 E1 => ?_
    obtain ⟨_, rfl, b0, hb0, rfl⟩ := hd
    have tk : EvW K (mask [r] H) r sc script 0 ((σ0.set 3 (some u1)).set 4 (some (.ref p))) [.r r vs1, .d (iD n), .d (.int 4), .d (tD b0), .m p [], .no, .no, .no, .no, .no] _ _ := (ew_addW (a := 1) (ta := tC (.int 1)) (fun _ _ _ _ => ev_i) (ew_taken (B := 4) (tb := tVar 2) (by decide) (by simp) (ew_num (n := 4) (fun H vs X E => ev_var E.va rfl) (by decide)))).imp (R' := fun d => ∃ m : Nat, d = iD m ∧ (1 ≤ m ∧ m ≤ 4)) fun d ⟨z, e, lt⟩ => ⟨1 + z, e, by omega, by omega⟩
    refine s_forRW2 (i0 := 0) E1 rfl ok1 hS tk fun m vm H2 vs2 hm ok2 E2 hn => ?_
    refine s_forR1 (n := m) (j := 5) E2 hn (by omega) (fun k Γ => ∃ vs found a b c d e, Γ = [.r r vs, .d (iD n), .d (.int 4), .d (tD b0), .m p (found.map tD), a, b, c, d, e] ∧ RowOk sc vs ∧ found.length = k ∧ ∀ o ∈ found, OOk n o) ⟨vs2, [], .no, .no, .no, .no, .no, rfl, ok2, rfl, fun _ h => nomatch h⟩ (fun k σ' H' Γ' hk hΓ E3 => ?_) fun σ' H' Γ' hΓ E3 => ?_
    · obtain ⟨vs3, found, a, b, c, d, e, rfl, ok3, len, all⟩ := hΓ
      have v3 : EvD K (tVar 3) _ H' (tD b0) := ev_var E3.va rfl
      refine s_asgM (i := 6) (ds := b0.map iD) E3 (ev_listT v3) (nl_is _) fun p6 H4 np4 e4 E4 => ?_
      have tst : EvWT K (mask [r] H) r sc script 0 ((σ'.set 5 (some (.int (k : Int)))).set 6 (some (.ref p6))) [.r r vs3, .d (iD n), .d (.int 4), .d (tD b0), .m p (found.map tD), .d (iD k), .m p6 (b0.map iD), c, d, e] _ _ := et_w (ew_eqJ (j := 0) (ew_taken (B := 3) (tb := tC (.int 3)) (by decide) (by simp) (ew_num (n := 3) (fun H vs X E => ev_i) (by decide))))
      refine s_ifJ (i0 := 0) E4 rfl ok3 hS (fun σ2 H2 => ∃ vs p6 o c d e, RowOk sc vs ∧ OOk n o ∧ En K (mask [r] H) H2 σ2 [.r r vs, .d (iD n), .d (.int 4), .d (tD b0), .m p (found.map tD), .d (iD k), .m p6 (o.map iD), c, d, e] [(V.ref sc, ScD script)]) tst (fun hJ H5 vs5 _ ok5 E5 => ?_) (fun H5 vs5 ok5 E5 => ⟨vs5, p6, b0, c, d, e, ok5, hb0, E5⟩) fun σ5 H5 hJ => ?_
      · refine s_asgWN (i0 := 0) (i := 6) E5 rfl ok5 hS (ord (by simp) fun _ => rfl) fun p7 ds H6 vs6 hds ok6 E6 => hJ _ _ ?_
        obtain ⟨o, ho, rfl⟩ := hds
        exact ⟨vs6, p7, o, c, d, e, ok6, ho, E6⟩
      · obtain ⟨vs5, p6, o, c, d, e, ok5, ho, E5⟩ := hJ
        have tk2 : EvW K (mask [r] H) r sc script 0 σ5 [.r r vs5, .d (iD n), .d (.int 4), .d (tD b0), .m p (found.map tD), .d (iD k), .m p6 (o.map iD), c, d, e] _ _ := ew_taken (B := 3) (tb := tC (.int 3)) (by decide) (by simp) (ew_num (n := 3) (fun H vs X E => ev_i) (by decide))
        refine s_forRW2 (i0 := 0) E5 rfl ok5 hS (tk2.imp fun d ⟨z, e, lt⟩ => ⟨z, e, lt⟩) fun m2 vm2 H6 vs6 hm2 ok6 E6 hn2 => ?_
        refine s_forR1 (n := m2) (j := 7) E6 hn2 (by omega) (fun k2 Γ => ∃ vs o c d e, Γ = [.r r vs, .d (iD n), .d (.int 4), .d (tD b0), .m p (found.map tD), .d (iD k), .m p6 (o.map iD), c, d, e] ∧ RowOk sc vs ∧ OOk n o) ⟨vs6, o, c, d, e, rfl, ok6, ho⟩ (fun k2 σ7 H7 Γ7 hk2 hΓ7 E7 => ?_) fun σ7 H7 Γ7 hΓ7 E7 => ?_
        · obtain ⟨vs7, o, c, d, e, rfl, ok7, ho⟩ := hΓ7
          have tkn : ∀ {σ : L2.St} {Γ : List G}, (0 < Γ.length) → (∀ (vs : List V), view (Γ.set 0 (.r r vs)) 1 = some (iD n)) → EvW K (mask [r] H) r sc script 0 σ Γ (tCall (spTaken K) [] L2.E0 (tCons (tVar 0) (tCons (tVar 1) tNil))) (Lt n) := fun lt hv => ew_taken (by omega) lt (ew_num (n := n) (fun H vs X E => ev_var E.va (hv vs)) h1)
          refine s_asgW (i0 := 0) (i := 8) E7 rfl ok7 hS (tkn (by simp) fun _ => rfl) fun v8 d8 H8 vs8 hd8 ok8 E8 => ?_
          obtain ⟨x, rfl, hx⟩ := hd8
          refine s_asgW (i0 := 0) (i := 9) E8 rfl ok8 hS (tkn (by simp) fun _ => rfl) fun v9 d9 H9 vs9 hd9 ok9 E9 => ?_
          obtain ⟨y, rfl, hy⟩ := hd9
          have i8 : ∀ H1 : Hp, EvD K (tVar 8) (((σ7.set 7 (some (.int (k2 : Int)))).set 8 (some v8)).set 9 (some v9)) H1 (iD x) := fun H1 => by
            obtain ⟨w8, a1, a2⟩ := E9.va.2 8 (iD x) rfl
            rw [dp_int a2] at a1
            exact fun H2 _ Q q => ⟨_, a1, q _ H2 (Ex.refl H2) (.int _)⟩
          have i9 : ∀ H1 : Hp, EvD K (tVar 9) (((σ7.set 7 (some (.int (k2 : Int)))).set 8 (some v8)).set 9 (some v9)) H1 (iD y) := fun H1 => by
            obtain ⟨w9, a1, a2⟩ := E9.va.2 9 (iD y) rfl
            rw [dp_int a2] at a1
            exact fun H2 _ Q q => ⟨_, a1, q _ H2 (Ex.refl H2) (.int _)⟩
          refine s_swap (i := 6) (a := x) (b := y) (o := o) E9 rfl (fun H1 _ => i8 H1) (fun H1 _ => i9 H1) (by rw [ho.len]; exact hx) (by rw [ho.len]; exact hy) fun H10 E10 => ⟨_, ⟨vs9, swp o x y, _, _, _, rfl, ok9, swp_ok ho hx hy⟩, E10⟩
        · obtain ⟨vs7, o, c, d, e, rfl, ok7, ho⟩ := hΓ7
          have v6 : EvD K (tVar 6) _ H7 (lD o) := ev_var E7.va rfl
          refine s_app (i := 4) (d := tD o) E7 rfl (ev_tupL v6) (nl_t o) (by rw [List.length_map]; omega) fun H8 E8 => ⟨_, ⟨vs7, found ++ [o], .d (iD k), .m p6 (o.map iD), c, d, e, ?_, ok7, by simp [len], fun o' ho' => ?_⟩, E8⟩
          · rw [List.map_append] <;> rfl
          · rcases List.mem_append.mp ho' with h | h
            · exact all o' h
            · rw [List.mem_singleton] at h
              exact h ▸ ho
    · obtain ⟨vs3, found, a, b, c, d, e, rfl, ok3, len, all⟩ := hΓ
      have v4 : EvD K (tVar 4) _ H' (.list (found.map tD)) := ev_var E3.va rfl
      have fl : ∀ o ∈ found, Flat n o := fun o ho => (all o ho).flat h6
      obtain ⟨asc, mem⟩ := asc_of fl
      exact s_retP (i0 := 0) (sc := sc) (d := toldD (ascOf found)) E3 rfl ok3 (ev_tupL (ev_sortSetLT (d := n) (m0 := ascOf found) v4 (by omega) h1 fl fun m hm ha => pw_ext ha asc fun o => by rw [hm, mem]).toD) ⟨ascOf found, told_of h1 h6 all (by omega) (by omega), rfl⟩ (nl_told _) rfl q
end
end Cd


set_option Elab.async false
set_option linter.all false
set_option maxRecDepth 100000
set_option maxHeartbeats 4000000
namespace Cd
open PySem PySem.Spec PyProof.Rows L2
open Evl (Ex EvT)
section
variable {P : Program} {w : World} {K : PySem.W.Frag} {mg : Str → Option Value} {base : Heap}
/-! ### the law's listing is the program's -/
def stepL (ns : NestL) (nums : NumsL) (L : List (List Nat)) : List (List Nat) := L.flatMap fun S => (ready ns nums S).map fun k => S ++ [k]
def lev (ns : NestL) (nums : NumsL) : Nat → List (List Nat)
  | 0 => [[]]
  | t + 1 => stepL ns nums (lev ns nums t)
theorem step_enum {ns : NestL} {nums : NumsL} {m : Nat} : ∀ L : List (List Nat), (stepL ns nums L).flatMap (enum ns nums m) = L.flatMap (enum ns nums (m + 1))
  | [] => rfl
  | S :: L => by
    have ih := step_enum (ns := ns) (nums := nums) (m := m) L
    unfold stepL at ih ⊢
    rw [List.flatMap_cons, List.flatMap_cons, List.flatMap_append, ih]
    congr 1
    show _ = (ready ns nums S).flatMap fun k => enum ns nums m (S ++ [k])
    rw [List.flatMap_map]
theorem lev_enum' {ns : NestL} {nums : NumsL} : ∀ t m : Nat, (lev ns nums t).flatMap (enum ns nums m) = enum ns nums (m + t) []
  | 0, m => by simp [lev]
  | t + 1, m => by
    rw [lev, step_enum, lev_enum' t (m + 1)]
    congr 1
    omega
theorem lev_enum {ns : NestL} {nums : NumsL} (n : Nat) : lev ns nums n = enum ns nums n [] := by
  have h := lev_enum' (ns := ns) (nums := nums) n 0
  rw [Nat.zero_add] at h
  rw [← h]
  have : ∀ L : List (List Nat), L.flatMap (enum ns nums 0) = L := fun L => by
    induction L with
    | nil => rfl
    | cons a L ih => rw [List.flatMap_cons, ih] <;> rfl
  rw [this]
theorem lev_len {ns : NestL} {nums : NumsL} : ∀ {t : Nat} {S : List Nat}, S ∈ lev ns nums t → S.length = t
  | 0, S, h => by simp [lev] at h; subst h; rfl
  | t + 1, S, h => by
    unfold lev stepL at h
    obtain ⟨T, hT, h⟩ := List.mem_flatMap.mp h
    obtain ⟨k, _, rfl⟩ := List.mem_map.mp h
    rw [List.length_append, lev_len hT] <;> rfl
theorem flat_le {α β : Type} {f : α → List β} {c : Nat} : ∀ {l : List α}, (∀ a ∈ l, (f a).length ≤ c) → (l.flatMap f).length ≤ l.length * c
  | [], _ => by simp
  | a :: l, h => by
    rw [List.flatMap_cons, List.length_append, List.length_cons, Nat.add_mul, Nat.one_mul, Nat.add_comm]
    exact Nat.add_le_add (flat_le fun b hb => h b (by simp [hb])) (h a (by simp))
theorem step_le {ns : NestL} (ok : NOk ns) {nums : NumsL} {L : List (List Nat)} : (stepL ns nums L).length ≤ L.length * 6 := flat_le fun S _ => by
  rw [List.length_map]
  exact Nat.le_trans ready_le ok.hi
theorem lev_le {ns : NestL} (ok : NOk ns) {nums : NumsL} : ∀ t, (lev ns nums t).length ≤ 6 ^ t
  | 0 => by simp [lev]
  | t + 1 => by
    rw [Nat.pow_succ]
    exact Nat.le_trans (step_le ok) (Nat.mul_le_mul_right _ (lev_le ok t))
theorem enum_le {ns : NestL} {nums : NumsL} : ∀ (m : Nat) (S : List Nat), SOk ns S → m + S.length = ns.length → (enum ns nums m S).length ≤ factN m
  | 0, _, _, _ => Nat.le_refl _
  | m + 1, S, hS, hm => by
    unfold enum
    have rl : (ready ns nums S).length ≤ m + 1 := by
      have h1 : (ready ns nums S).length ≤ (fresh ns S).length := pigeon (List.Pairwise.filter _ List.nodup_range) fun k hk => ready_fresh hk
      have := fresh_length hS
      omega
    refine Nat.le_trans (flat_le (c := factN m) fun k hk => enum_le m (S ++ [k]) (hS.add (ready_fresh hk)) (by simp; omega)) ?_
    show _ ≤ (m + 1) * factN m
    exact Nat.mul_le_mul_right _ rl
theorem cd_pref {a b : List Int} (hl : a.length = b.length) (h : TS.code 64 a < TS.code 64 b) : ∀ S : List Int, TS.code 64 (S ++ a) < TS.code 64 (S ++ b)
  | [] => h
  | x :: S => (TS.code_same (by show (S ++ a).length = (S ++ b).length; rw [List.length_append, List.length_append, hl])).mpr (cd_pref hl h S)
theorem enum_asc {ns : NestL} (few : ns.length ≤ 6) {nums : NumsL} : ∀ (m : Nat) (S : List Nat), AscT (enum ns nums m S)
  | 0, S => List.pairwise_singleton _ _
  | m + 1, S => by
    unfold enum AscT
    refine List.pairwise_flatMap.mpr ⟨fun k hk => enum_asc few m (S ++ [k]), ?_⟩
    have rp : (ready ns nums S).Pairwise (· < ·) := List.Pairwise.filter _ List.pairwise_lt_range
    refine rp.imp fun {a b} hab x hx y hy => ?_
    obtain ⟨t1, rfl, l1, r1⟩ := (mem_enum m (S ++ [a]) x).mp hx
    obtain ⟨t2, rfl, l2, r2⟩ := (mem_enum m (S ++ [b]) y).mp hy
    unfold cd zs
    rw [List.append_assoc S [a], List.append_assoc S [b], List.map_append (l₁ := S) (l₂ := [a] ++ t1), List.map_append (l₁ := S) (l₂ := [b] ++ t2)]
    refine cd_pref (a := ([a] ++ t1).map fun n : Nat => (n : Int)) (b := ([b] ++ t2).map fun n : Nat => (n : Int)) (by rw [List.length_map, List.length_map, List.length_append, List.length_append, l1, l2] <;> rfl) ?_ _
    have bd : ∀ {c : Nat} {t : List Nat}, (∀ i (h : i < t.length), t[i] ∈ ready ns nums (S ++ [c] ++ t.take i)) → TS.Bd 64 (t.map fun n : Nat => (n : Int)) := fun {c t} r m hm => by
      obtain ⟨z, hz, rfl⟩ := List.mem_map.mp hm
      obtain ⟨i, hi, e⟩ := List.mem_iff_getElem.mp hz
      have := (mem_ready.mp (r i hi)).1
      rw [e] at this
      omega
    show TS.code 64 ((a : Int) :: t1.map _) < TS.code 64 ((b : Int) :: t2.map _)
    exact TS.code_lt (by simp [l1, l2]) (bd r1) (bd r2) (by omega)
section
variable {H0 H : Hp} {σ : L2.St} {Γ : List G} {X : List (V × PyData)} {ta tb te : TE} {x y d : PyData} {D : Ends} {ds : List PyData}
/-- a list is let go: it stays as it is -/
theorem En.release {i : Nat} {p : Addr} (E : En K H0 H σ Γ X) (hi : Γ[i]? = some (.m p ds)) : En K H0 H σ (Γ.set i (.d (.list ds))) X := by
  have lt : i < Γ.length := (List.getElem?_eq_some_iff.mp hi).1
  have sub : ∀ a, a ∈ ms (Γ.set i (.d (.list ds))) → a ∈ ms Γ ∧ a ≠ p := fun a ha => by
    obtain ⟨j, h', h, e⟩ := mem_ms.mp ha
    rcases get_set h with ⟨_, e'⟩ | ⟨ne, e'⟩
    · rw [e'] at e
      cases e
    · exact ⟨mem_ms.mpr ⟨j, h', e', e⟩, by rintro rfl; exact ne (E.one j i _ _ _ e' hi e rfl)⟩
  have m : Ex (mask (ms Γ) H) (mask (ms (Γ.set i (.d (.list ds)))) H) := mask_mono (fun _ _ h => h) fun a _ _ h => (sub a h).1
  refine ⟨by rw [List.length_set]; exact E.len, E.ex.trans m, fun j x h => ?_, fun j q fs h => ?_, fun j q ws h => ?_, fun j u h => ?_, fun j k g1 g2 q h1 h2 o1 o2 => ?_, fun q hq => dp_ex m (E.gho q hq)⟩
  · rcases get_set h with ⟨ej, eg⟩ | ⟨_, eg⟩
    · cases eg
      subst ej
      obtain ⟨e1, vs, e2, e3⟩ := E.lst _ p ds hi
      exact ⟨_, e1, .lst (Evl.sq_of (by rw [mask_out fun z => (sub p z).2 rfl]; exact e2)) (da_ex m e3)⟩
    · obtain ⟨v, e1, e2⟩ := E.dat j x eg
      exact ⟨v, e1, dp_ex m e2⟩
  · rcases get_set h with ⟨_, eg⟩ | ⟨_, eg⟩
    · cases eg
    · obtain ⟨e1, vs, e2, e3⟩ := E.lst j q fs eg
      exact ⟨e1, vs, e2, da_ex m e3⟩
  · rcases get_set h with ⟨_, eg⟩ | ⟨_, eg⟩
    · cases eg
    · exact E.raw j q ws eg
  · rcases get_set h with ⟨_, eg⟩ | ⟨_, eg⟩
    · cases eg
    · exact E.val j u eg
  · rcases get_set h1 with ⟨_, eg⟩ | ⟨_, eg⟩
    · rw [eg] at o1
      cases o1
    · rcases get_set h2 with ⟨_, eg'⟩ | ⟨_, eg'⟩
      · rw [eg'] at o2
        cases o2
      · exact E.one j k g1 g2 q eg eg' o1 o2
/-- x = y, y data as it is -/
theorem s_copy {i j : Nat} (E : En K H0 H σ Γ X) (hj : Γ[j]? = some (.d d)) (k : ∀ v, En K H0 H (σ.set i (some v)) (Γ.set i (.d d)) X → D.nx (σ.set i (some v)) H) : tAsg (tVar j) (gName i) D σ H := by
  obtain ⟨v, e1, e2⟩ := E.dat j d hj
  exact ⟨v, e1, k v (E.put (g := .d d) e2)⟩
/-- a, b = x, y while nothing is to change -/
theorem s_par00 {i j : Nat} (E : En K H0 H σ Γ X) (h0 : ms Γ = []) (h1 : ms (Γ.set i (.d x)) = []) (hx : EvD K ta σ H x) (hy : EvD K tb σ H y) (k : ∀ v w H1, En K H0 H1 ((σ.set i (some v)).set j (some w)) ((Γ.set i (.d x)).set j (.d y)) X → D.nx ((σ.set i (some v)).set j (some w)) H1) : tPar i j (tCons ta (tCons tb tNil)) D σ H :=
  hx H (Ex.refl H) _ fun v H1 e1 hv => hy H1 e1 _ fun w H2 e2 hw => ⟨v, w, rfl, by
    have E2 := E.mono (e1.trans e2)
    have E3 := E2.put (i := i) (v := v) (g := .d x) (by rw [h0, mask_nil]; exact dp_ex e2 hv)
    exact k v w H2 (E3.put (i := j) (v := w) (g := .d y) (by rw [h1, mask_nil]; exact hw))⟩
end
abbrev s__law_allowed : Stmt := topS 44
abbrev N__law_allowed : List Str := ["_law_nest_here", "_law_numbers", "_law_some", "_law_rows", "_law_turn", "_law_more", "_law_begun", "_law_k", "_law_x"]
theorem sc__law_allowed : FnScope N__law_allowed ["_law_nest_here", "_law_numbers"] (defScope s__law_allowed) := ⟨rfl, rfl, rfl, by decide +kernel, rfl, by decide +kernel, by decide +kernel⟩
def spAllowed (K : PySem.W.Frag) : Sp := fun vs H Q _ => ∃ ns nums, NOk ns ∧ NmOk ns nums ∧ DtAll K H vs [nestD ns, numsD nums] ∧ RetD K (.list ((enum ns nums ns.length []).map tD)) H Q
theorem ok__law_allowed {f : Addr} {fd : FuncData} (F : Fun K "_law_allowed" "_law_allowed" s__law_allowed f fd) (B : Bl mg) (k__law_insides : Kd P w K mg base "_law_insides" 1 ["_law_nest_here"] (spInsides K)) : FnOk P w K mg base CX0 2 f fd ["_law_nest_here", "_law_numbers"] (spAllowed K) := by
  refine F.ok sc__law_allowed (fun vs H Q E h => ?_) (fun cdv A outer s H vs Q E hr h => ?_)
  · obtain ⟨ns, nums, ok, nk, al, q⟩ := h
    exact da_len al
  · obtain ⟨ns, nums, ok, nk, al, q⟩ := h
    have hhi := ok.hi
    have hlen := nk.len
    refine ⟨_, (pss_cons (ps_par (i := 2) (j := 3) rfl sc__law_allowed.nd rfl rfl (by decide) rfl rfl (pa_cons (pe_kd k__law_insides hr (by decide) (by rfl) (pa_cons (pv 0) pa_nil)) (pa_cons (pe_lst (pa_cons (pe_tupP pa_nil) pa_nil)) pa_nil)) (by rfl))
    (pss_cons (ps_for PassesOwn.never rfl (pi_range1 (by rfl) B.range (pa_cons (pe_callB (c_len (K := K) rfl) (by rfl) B.len (by decide +kernel) (pa_cons (pv 0) pa_nil)) pa_nil)) (pg_name (i := 4) sc__law_allowed.nd rfl (.inl rfl))
      (pss_cons (ps_set (i := 5) sc__law_allowed.nd rfl (.inl rfl) (pe_lst pa_nil))
      (pss_cons (ps_for PassesOwn.never rfl (pi_list' (K := K) rfl (pv 3)) (pg_name (i := 6) sc__law_allowed.nd rfl (.inr rfl))
        (pss_one (ps_for PassesOwn.never rfl (pi_range1 (by rfl) B.range (pa_cons (pe_callB (c_len (K := K) rfl) (by rfl) B.len (by decide +kernel) (pa_cons (pv 0) pa_nil)) pa_nil)) (pg_name (i := 7) sc__law_allowed.nd rfl (.inl rfl))
          (pss_one (ps_if (PW.pt (pw_and (pt_cmpR (op_ni' (K := K) rfl) (pv 7) (pv 6) rfl) (pw_and1 (pt_cmpR (op_in' (K := K) rfl) (pe_callB (c_len (K := K) rfl) (by rfl) B.len (by decide +kernel) (pa_cons (pe_lc (own := [("_law_x", 8)]) (g := gName 8) rfl sc__law_allowed.nd (pi_list' (K := K) rfl (pe_ix (ix_list' (K := K) rfl) (pv 2) (pv 7) (fun _ _ => rfl))) (blkOk_by (own := [("_law_x", 8)]) (N := N__law_allowed) (by kernel_rfl)) (fun _ _ _ _ _ => (pg_name (i := 8) sc__law_allowed.nd rfl (.inl rfl))) (fun _ _ _ _ _ => (pts_one (pt_cmpR (op_in' (K := K) rfl) (pv 8) (pv 6) rfl))) (fun _ _ _ _ _ => (pv 8))) pa_nil)) (pe_ix (ix_tup' (K := K) rfl) (pv 1) (pv 7) (fun _ _ => rfl)) rfl))))
            (pss_one (ps_expr (pe_app (K := K) rfl (pv 5) (pa_cons (pe_op op_catP (pv 6) (pe_tupP (pa_cons (pv 7) pa_nil))) pa_nil)))) pss_nil)))))
      (pss_one (ps_set (i := 3) sc__law_allowed.nd rfl (.inl rfl) (pv 5))))))
    (pss_one (ps_ret (pv 3))))), ?_⟩
    have E0 := env_go (N := N__law_allowed) al
    have v0 : EvD K (tVar 0) _ H (nestD ns) := ev_var E0.va rfl
    have ins : EvD K (tCall (spInsides K) [] L2.E0 (tCons (tVar 0) tNil)) _ H (someD ns) := (ev_callN (ea_cons v0 ea_nil) fun vs H2 Q _ al q => ⟨ns, ok, al, q⟩).toD
    have emp : EvD K (tLst (tCons (tTupP tNil) tNil)) (L2.start N__law_allowed vs) H (.list ((lev ns nums 0).map tD)) := (ev_lst (ea_cons (ev_tup ea_nil (by decide)) ea_nil) (by decide)).toD
    refine s_par00 (i := 2) (j := 3) E0 rfl rfl ins emp fun u1 u2 H1 E1 => ?_
    have v0 : EvD K (tVar 0) _ H1 (nestD ns) := ev_var E1.va rfl
    refine s_forR1 (n := ns.length) (j := 4) E1 ((ev_lenT v0).is (by rw [List.length_map])) (by omega) (fun t Γ => ∃ a b c d, Γ = [.d (nestD ns), .d (numsD nums), .d (someD ns), .d (.list ((lev ns nums t).map tD)), a, b, c, d, .no]) ⟨.no, .no, .no, .no, rfl⟩ (fun t σ' H' Γ' ht hΓ E2 => ?_) fun σ' H' Γ' hΓ E2 => ?_
    · obtain ⟨a, b, c, d, rfl⟩ := hΓ
      have ll := lev_le ok (nums := nums) t
      have pw : 6 ^ t ≤ 6 ^ 5 := Nat.pow_le_pow_right (by decide) (by omega)
      refine s_asgM (i := 5) (ds := []) E2 (ev_lst ea_nil (by decide)) (fun _ h => nomatch h) fun p H3 np e3 E3 => ?_
      refine s_forL (c := tD) (l := lev ns nums t) E3 (src_varL E3 rfl) (fun S _ => nl_t S) (fun i Γ => ∃ c d, Γ = [.d (nestD ns), .d (numsD nums), .d (someD ns), .d (.list ((lev ns nums t).map tD)), .d (iD t), .m p ((stepL ns nums ((lev ns nums t).take i)).map tD), c, d, .no]) ⟨c, d, rfl⟩ (fun i S vS g σ2 H4 Γ4 hi hΓ4 E4 => ?_) fun σ2 H4 Γ4 hΓ4 E4 => ?_
      · obtain ⟨c, d, rfl⟩ := hΓ4
        have lenS := lev_len (List.mem_of_getElem? hi)
        have ilt : i < (lev ns nums t).length := (List.getElem?_eq_some_iff.mp hi).1
        have sl := step_le ok (nums := nums) (L := (lev ns nums t).take i)
        rw [List.length_take] at sl
        have v0 : EvD K (tVar 0) _ H4 (nestD ns) := ev_var E4.va rfl
        let f : Nat → Bool := fun k => !S.contains k && (nums.getD k []).contains (cnt ns S k)
        refine s_forR1 (n := ns.length) (j := 7) E4 ((ev_lenT v0).is (by rw [List.length_map])) (by omega) (fun k Γ => ∃ d, Γ = [.d (nestD ns), .d (numsD nums), .d (someD ns), .d (.list ((lev ns nums t).map tD)), .d (iD t), .m p ((stepL ns nums ((lev ns nums t).take i) ++ (((List.range k).filter f).map fun k => S ++ [k])).map tD), .d (tD S), d, .no]) ⟨d, by rw [List.range_zero]; simp⟩ (fun k σ3 H5 Γ5 hk hΓ5 E5 => ?_) fun σ3 H5 Γ5 hΓ5 E5 => ?_
        · obtain ⟨d, rfl⟩ := hΓ5
          have rs : (List.range (k + 1)).filter f = (List.range k).filter f ++ (if f k = true then [k] else []) := by
            rw [List.range_succ, List.filter_append]
            congr 1
            cases q : f k <;> simp [q]
          have v1 : EvD K (tVar 1) _ H5 (numsD nums) := ev_var E5.va rfl
          have v2 : EvD K (tVar 2) _ H5 (someD ns) := ev_var E5.va rfl
          have v6 : EvD K (tVar 6) _ H5 (tD S) := ev_var E5.va rfl
          have v7 : EvD K (tVar 7) _ H5 (iD k) := ev_var E5.va rfl
          have cL := ev_lcL (K := K) (tt := tTest (tOp (rIn K false) (tVar 8) (tVar 6))) (te := tVar 8) (c := iD) (l := inside ns k) (f := fun x => S.contains x) (e := iD) (j := 8) E5.va (ev_ixL v2 v7 (at_some hk)) (by have := inside_len (ns := ns) (k := k); omega) (fun x v H6 hx e6 hv V => by
            have v6 : EvD K (tVar 6) _ H6 (tD S) := ev_var V rfl
            have v8 : EvD K (tVar 8) _ H6 (iD x) := ev_var V rfl
            exact et_test (ev_inNT v8 v6)) (fun x v H6 hx _ e6 hv V => ev_var V rfl) (fun x _ _ => nl_i x)
          have cn : EvD K _ _ H5 (iD (cnt ns S k)) := (ev_lenL cL.toD).is (by rw [List.length_map] <;> rfl)
          refine s_when (b := f k) E5 (Evl.et_and (et_test (ev_niNT v7 v6)) fun _ => et_test (ev_inNT cn (ev_ixT v1 v7 (at_ts (by omega))))) (fun hb H6 e6 E6 => ?_) fun hb H6 e6 E6 => ⟨_, ⟨.d (iD k), ?_⟩, E6⟩
          · have v6 : EvD K (tVar 6) _ H6 (tD S) := ev_var E6.va rfl
            have v7 : EvD K (tVar 7) _ H6 (iD k) := ev_var E6.va rfl
            have fl := List.length_filter_le f (List.range k)
            rw [List.length_range] at fl
            refine s_app (i := 5) (d := tD (S ++ [k])) E6 rfl ((ev_catT v6 (ev_tup (ea_cons v7 ea_nil) (by simp)) (by rw [List.length_map]; simp; omega)).is (by unfold tD; rw [List.map_append] <;> rfl)) (nl_t _) ?_ fun H7 E7 => ⟨_, ⟨.d (iD k), ?_⟩, E7⟩
            · rw [List.length_map, List.length_append, List.length_map]
              have : min i (lev ns nums t).length ≤ (lev ns nums t).length := Nat.min_le_right _ _
              omega
            · rw [rs, if_pos hb, List.map_append (l₁ := (List.range k).filter f), ← List.append_assoc, List.map_append (l₂ := [k].map fun k => S ++ [k])] <;> rfl
          · rw [rs, if_neg (by rw [hb]; decide), List.append_nil] <;> rfl
        · obtain ⟨d, rfl⟩ := hΓ5
          refine ⟨_, ⟨.d (tD S), d, ?_⟩, E5⟩
          have : stepL ns nums ((lev ns nums t).take (i + 1)) = stepL ns nums ((lev ns nums t).take i) ++ (ready ns nums S).map fun k => S ++ [k] := by
            rw [List.take_add_one, hi]
            unfold stepL
            rw [List.flatMap_append] <;> simp
          rw [this] <;> rfl
      · obtain ⟨c, d, rfl⟩ := hΓ4
        rw [List.take_length] at E4
        have E5 := E4.release (i := 5) rfl
        exact s_copy (i := 3) (j := 5) E5 rfl fun v E6 => ⟨_, ⟨_, _, _, _, rfl⟩, E6⟩
    · obtain ⟨a, b, c, d, rfl⟩ := hΓ
      rw [lev_enum] at E2
      exact s_ret E2 (ev_var E2.va rfl) q
end
end Cd


set_option Elab.async false
set_option linter.all false
set_option maxRecDepth 100000
set_option maxHeartbeats 4000000
namespace Cd
open PySem PySem.Spec PyProof.Rows L2
open Evl (Ex EvT)
section
variable {P : Program} {w : World} {K : PySem.W.Frag} {mg : Str → Option Value} {base : Heap}
def isB : PyData → Bool
  | .bool _ => true
  | _ => false
def vecB (n : Nat) (ds : List PyData) : Bool := decide (ds.length = n) && (ds.filter isB).isEmpty
abbrev s__law_is_vector : Stmt := topS 47
abbrev N__law_is_vector : List Str := ["_law_value", "_law_size", "_law_x"]
theorem sc__law_is_vector : FnScope N__law_is_vector ["_law_value", "_law_size"] (defScope s__law_is_vector) := ⟨rfl, rfl, rfl, by decide +kernel, rfl, by decide +kernel, by decide +kernel⟩
def spVec (K : PySem.W.Frag) : Sp := fun vs H Q _ => ∃ ds n, (∀ d ∈ ds, intBool d) ∧ ds.length ≤ 40 ∧ DtAll K H vs [.tuple ds, iD n] ∧ RetD K (.bool (vecB n ds)) H Q
theorem ok__law_is_vector {f : Addr} {fd : FuncData} (F : Fun K "_law_is_vector" "_law_is_vector" s__law_is_vector f fd) (B : Bl mg) : FnOk P w K mg base CX0 1 f fd ["_law_value", "_law_size"] (spVec K) := by
  refine F.ok sc__law_is_vector (fun vs H Q E h => ?_) (fun cdv A outer s H vs Q E hr h => ?_)
  · obtain ⟨ds, n, ib, few, al, q⟩ := h
    exact da_len al
  · obtain ⟨ds, n, ib, few, al, q⟩ := h
    refine ⟨_, (pss_cons (ps_if (PW.pt (pw_or (pt_not (pt_val (pe_callB (c_isi (K := K) rfl) (by rfl) B.isinstance (by decide +kernel) (pa_cons (pv 0) (pa_cons (pe_bltn (v := .ty "tuple") (by rfl) B.tuple (by decide +kernel) rfl) pa_nil))))) (pw_or1 (pt_cmpR op_ne (pe_callB (c_len (K := K) rfl) (by rfl) B.len (by decide +kernel) (pa_cons (pv 0) pa_nil)) (pv 1) (nomark _)))))
      (pss_one (ps_ret pe_bl)) pss_nil)
    (pss_one (ps_ret (pe_cmpR (op_eqD' (K := K) rfl hr.units) (pe_lc (own := [("_law_x", 2)]) (g := gName 2) rfl sc__law_is_vector.nd (pi_tup' (K := K) rfl (pv 0)) (blkOk_by (own := [("_law_x", 2)]) (N := N__law_is_vector) (by kernel_rfl)) (fun _ _ _ _ _ => (pg_name (i := 2) sc__law_is_vector.nd rfl (.inl rfl))) (fun _ _ _ _ _ => (pts_one (PW.pt (pw_or (pt_not (pt_val (pe_callB (c_isi (K := K) rfl) (by rfl) B.isinstance (by decide +kernel) (pa_cons (pv 2) (pa_cons (pe_bltn (v := .ty "int") (by rfl) B.int (by decide +kernel) rfl) pa_nil))))) (pw_or1 (pt_val (pe_callB (c_isi (K := K) rfl) (by rfl) B.isinstance (by decide +kernel) (pa_cons (pv 2) (pa_cons (pe_bltn (v := .ty "bool") (by rfl) B.bool (by decide +kernel) rfl) pa_nil))))))))) (fun _ _ _ _ _ => (pv 2))) (pe_lst pa_nil) (nomark _))))), ?_⟩
    have E0 := env_go (N := N__law_is_vector) al
    have v0 : EvD K (tVar 0) _ H (.tuple ds) := ev_var E0.va rfl
    have v1 : EvD K (tVar 1) _ H (iD n) := ev_var E0.va rfl
    have tst := Evl.et_or (Evl.et_not (et_B (ev_isi v0 kit_tt))) fun _ => et_test (ev_neI (ev_lenT v0) v1)
    by_cases hl : ds.length = n
    · refine s_when (b := false) E0 (Evl.et_is tst (by rw [decide_eq_true (by omega)]; rfl)) (fun h => absurd h (by decide)) fun _ H1 e1 E1 => ?_
      have v0 : EvD K (tVar 0) _ H1 (.tuple ds) := ev_var E1.va rfl
      have cL := ev_lcT (K := K) (te := tVar 2) (c := fun d => d) (l := ds) (f := isB) (e := fun d => d) (j := 2) (tt := tOr (tNot (tB (tCB (rIsi K) (tCons (tVar 2) (tCons (tC (.ty "int")) tNil))))) (tB (tCB (rIsi K) (tCons (tVar 2) (tCons (tC (.ty "bool")) tNil))))) E1.va (v0.is (by rw [List.map_id'])) (by omega) (fun d v H2 hd e2 hv V => by
        have v2 : EvD K (tVar 2) _ H2 d := ev_var V rfl
        rcases ib d hd with ⟨z, rfl⟩ | ⟨b, rfl⟩
        · exact Evl.et_is (Evl.et_or (Evl.et_not (et_B (ev_isi v2 kit_ii))) fun _ => et_B (ev_isi v2 kit_ib)) rfl
        · exact Evl.et_is (Evl.et_or (Evl.et_not (et_B (ev_isi v2 kit_bi))) fun _ => et_B (ev_isi v2 kit_bb)) rfl) (fun d v H2 hd _ e2 hv V => ev_var V rfl) (fun d hd _ => (ib d hd).nl)
      rw [List.map_id'] at cL
      have shx : ∀ d ∈ ds.filter isB, intBool d := fun d hd => ib d (List.mem_filter.mp hd).1
      refine s_ret E1 ((ev_eqD cL.toD (ev_lst ea_nil (by decide)).toD (sh_flat shx) (sh_flat fun _ h => nomatch h)).is ?_) q
      unfold vecB
      rw [decide_eq_true hl, Bool.true_and]
      cases ds.filter isB <;> rfl
    · refine s_when (b := true) E0 (Evl.et_is tst (by rw [decide_eq_false (by omega)]; rfl)) (fun _ H1 e1 E1 => ?_) fun h => absurd h (by decide)
      have : vecB n ds = false := by unfold vecB; rw [decide_eq_false hl]; rfl
      rw [this] at q
      exact s_ret E1 ev_b q
abbrev s__law_alike : Stmt := topS 48
abbrev N__law_alike : List Str := ["_law_found", "_law_due", "_law_k"]
theorem sc__law_alike : FnScope N__law_alike ["_law_found", "_law_due"] (defScope s__law_alike) := ⟨rfl, rfl, rfl, by decide +kernel, rfl, by decide +kernel, by decide +kernel⟩
def spAlike (K : PySem.W.Frag) : Sp := fun vs H Q _ => ∃ a b, DtAll K H vs [.bool a, .bool b] ∧ RetD K (.bool (a == b)) H Q
theorem ok__law_alike {f : Addr} {fd : FuncData} (F : Fun K "_law_alike" "_law_alike" s__law_alike f fd) (B : Bl mg) (k__law_alike : Kd P w K mg base "_law_alike" 1 ["_law_found", "_law_due"] (fun _ _ _ _ => False)) : FnOk P w K mg base CX0 2 f fd ["_law_found", "_law_due"] (spAlike K) := by
  refine F.ok sc__law_alike (fun vs H Q E h => ?_) (fun cdv A outer s H vs Q E hr h => ?_)
  · obtain ⟨a, b, al, q⟩ := h
    exact da_len al
  · obtain ⟨a, b, al, q⟩ := h
    refine ⟨_, (pss_cons (ps_if (pt_val (pe_callB (c_isiT (K := K) rfl) (by rfl) B.isinstance (by decide +kernel) (pa_cons (pv 1) (pa_cons (pe_tup (pa_cons (pe_bltn (v := .ty "tuple") (by rfl) B.tuple (by decide +kernel) rfl) (pa_cons (pe_bltn (v := .ty "list") (by rfl) B.list (by decide +kernel) rfl) pa_nil))) pa_nil))))
      (pss_cons (ps_if (PW.pt (pw_or (pt_not (pt_val (pe_callB (c_isiT (K := K) rfl) (by rfl) B.isinstance (by decide +kernel) (pa_cons (pv 0) (pa_cons (pe_tup (pa_cons (pe_bltn (v := .ty "tuple") (by rfl) B.tuple (by decide +kernel) rfl) (pa_cons (pe_bltn (v := .ty "list") (by rfl) B.list (by decide +kernel) rfl) pa_nil))) pa_nil))))) (pw_or1 (pt_cmpR op_ne (pe_callB (c_isi (K := K) rfl) (by rfl) B.isinstance (by decide +kernel) (pa_cons (pv 0) (pa_cons (pe_bltn (v := .ty "list") (by rfl) B.list (by decide +kernel) rfl) pa_nil))) (pe_callB (c_isi (K := K) rfl) (by rfl) B.isinstance (by decide +kernel) (pa_cons (pv 1) (pa_cons (pe_bltn (v := .ty "list") (by rfl) B.list (by decide +kernel) rfl) pa_nil))) (nomark _)))))
        (pss_one (ps_ret pe_bl)) pss_nil)
      (pss_cons (ps_if (pt_cmpR op_ne (pe_callB (c_len (K := K) rfl) (by rfl) B.len (by decide +kernel) (pa_cons (pv 0) pa_nil)) (pe_callB (c_len (K := K) rfl) (by rfl) B.len (by decide +kernel) (pa_cons (pv 1) pa_nil)) (nomark _))
        (pss_one (ps_ret pe_bl)) pss_nil)
      (pss_one (ps_ret (pe_cmpR (op_eqD' (K := K) rfl hr.units) (pe_lc (own := [("_law_k", 2)]) (g := gName 2) rfl sc__law_alike.nd (pi_range1 (by rfl) B.range (pa_cons (pe_callB (c_len (K := K) rfl) (by rfl) B.len (by decide +kernel) (pa_cons (pv 1) pa_nil)) pa_nil)) (blkOk_by (own := [("_law_k", 2)]) (N := N__law_alike) (by kernel_rfl)) (fun _ _ _ _ _ => (pg_name (i := 2) sc__law_alike.nd rfl (.inl rfl))) (fun _ _ _ _ _ => (pts_one (pt_not (pt_val (pe_kd k__law_alike hr (by decide) (by rfl) (pa_cons (pe_ix (ix_list' (K := K) rfl) (pv 0) (pv 2) (fun _ _ => rfl)) (pa_cons (pe_ix (ix_list' (K := K) rfl) (pv 1) (pv 2) (fun _ _ => rfl)) pa_nil))))))) (fun _ _ _ _ _ => (pv 2))) (pe_lst pa_nil) (nomark _)))))) pss_nil)
    (pss_cons (ps_if (PW.pt (pw_or (pt_cmpR op_isN (pv 1) pe_non (nomark _)) (pw_or1 (pt_val (pe_callB (c_isi (K := K) rfl) (by rfl) B.isinstance (by decide +kernel) (pa_cons (pv 1) (pa_cons (pe_bltn (v := .ty "str") (by rfl) B.str (by decide +kernel) rfl) pa_nil)))))))
      (pss_one (ps_ret (pe_and (pe_cmpR op_eq (pv 0) (pv 1) (nomark _)) (pe_one (pe_cmpR op_eq (pe_callB (c_isi (K := K) rfl) (by rfl) B.isinstance (by decide +kernel) (pa_cons (pv 0) (pa_cons (pe_bltn (v := .ty "str") (by rfl) B.str (by decide +kernel) rfl) pa_nil))) (pe_callB (c_isi (K := K) rfl) (by rfl) B.isinstance (by decide +kernel) (pa_cons (pv 1) (pa_cons (pe_bltn (v := .ty "str") (by rfl) B.str (by decide +kernel) rfl) pa_nil))) (nomark _)))))) pss_nil)
    (pss_one (ps_ret (pe_and (pe_callB (c_isi (K := K) rfl) (by rfl) B.isinstance (by decide +kernel) (pa_cons (pv 0) (pa_cons (pe_bltn (v := .ty "int") (by rfl) B.int (by decide +kernel) rfl) pa_nil))) (pe_and (pe_cmpR op_eq (pe_callB (c_isi (K := K) rfl) (by rfl) B.isinstance (by decide +kernel) (pa_cons (pv 0) (pa_cons (pe_bltn (v := .ty "bool") (by rfl) B.bool (by decide +kernel) rfl) pa_nil))) (pe_callB (c_isi (K := K) rfl) (by rfl) B.isinstance (by decide +kernel) (pa_cons (pv 1) (pa_cons (pe_bltn (v := .ty "bool") (by rfl) B.bool (by decide +kernel) rfl) pa_nil))) (nomark _)) (pe_one (pe_cmpR op_eq (pv 0) (pv 1) (nomark _))))))))), ?_⟩
    have E0 := env_go (N := N__law_alike) al
    have v1 : EvD K (tVar 1) _ H (.bool b) := ev_var E0.va rfl
    have tst : EvT (tB (tCB (rIsiT K) (tCons (tVar 1) (tCons (tTup (tCons (tC (.ty "tuple")) (tCons (tC (.ty "list")) tNil))) tNil)))) (L2.start N__law_alike vs) H false := fun H1 e Q q => v1 H1 e _ fun v H2 e2 hv => ⟨Evl.sz_of (by decide), fun p np => ⟨v, p, _, _, _, false, rfl, upd_same, .cons (.ty "tuple") (.cons (.ty "list") .nil), tyX_dt (dp_ex (Ex.new np) hv), kitAny_cons (kit_ty kit_bt) (fun _ => kitAny_cons (kit_ty kit_bl) (fun _ => kitAny_nil) (fun h => nomatch h)) (fun h => nomatch h), false, rfl, q _ (e2.trans (Ex.new np))⟩⟩
    refine s_when (b := false) E0 tst (fun h => absurd h (by decide)) fun _ H1 e1 E1 => ?_
    have v1 : EvD K (tVar 1) _ H1 (.bool b) := ev_var E1.va rfl
    refine s_when (b := false) E1 (Evl.et_is (Evl.et_or (et_test (ev_isN v1)) fun _ => et_B (ev_isi v1 kit_bs)) rfl) (fun h => absurd h (by decide)) fun _ H2 e2 E2 => ?_
    have v0 : EvD K (tVar 0) _ H2 (.bool a) := ev_var E2.va rfl
    have v1 : EvD K (tVar 1) _ H2 (.bool b) := ev_var E2.va rfl
    exact s_ret E2 ((ev_and (ev_isi v0 kit_bi) fun _ => ev_and (ev_eqB (ev_isi v0 kit_bb) (ev_isi v1 kit_bb)) fun _ => ev_eqB v0 v1).is (by simp)) q
theorem ok_never {f : Addr} {fd : FuncData} (F : Fun K "_law_alike" "_law_alike" s__law_alike f fd) : FnOk P w K mg base CX0 1 f fd ["_law_found", "_law_due"] (fun _ _ _ _ => False) := by
  refine F.ok sc__law_alike (fun vs H Q E h => ?_) (fun cdv A outer s H vs Q E hr h => ?_) <;> exact False.elim h
end
end Cd


set_option Elab.async false
set_option linter.all false
set_option maxRecDepth 100000
set_option maxHeartbeats 4000000
namespace Cd
open PySem PySem.Spec PyProof.Rows L2
open Evl (Ex EvT)
section
variable {P : Program} {w : World} {K : PySem.W.Frag} {mg : Str → Option Value} {base : Heap}
/-! E11: the law's own list of values of every kind. -/
theorem En.rebase {H0 H : Hp} {σ : L2.St} {Γ : List G} {X : List (V × PyData)} (E : En K H0 H σ Γ X) : En K (mask (ms Γ) H) H σ Γ X := ⟨E.len, Ex.refl _, E.dat, E.lst, E.raw, E.val, E.one, E.gho⟩
theorem En.back {H0 Hb H : Hp} {σ : L2.St} {Γ : List G} {X : List (V × PyData)} (E : En K Hb H σ Γ X) (e : Ex H0 Hb) : En K H0 H σ Γ X := ⟨E.len, e.trans E.ex, E.dat, E.lst, E.raw, E.val, E.one, E.gho⟩
/-- the kinds of values that the law shows -/
inductive Vk (K : PySem.W.Frag) (H : Hp) (v : V) : Prop
  | non : v = .non → Vk K H v
  | tup (l : List Nat) : Dt K H v (tD l) → l.length ≤ 20 → Vk K H v
  | bad (b : Bool) (ds : List PyData) : Dt K H v (.tuple (.bool b :: ds)) → (∀ d ∈ ds, intBool d) → ds.length ≤ 20 → Vk K H v
  | oth (ty : String) : v ≠ .non → (∀ H1, Ex H H1 → TyX K H1 v (.type ty)) → kitB ty "tuple" = some false → Vk K H v
theorem Vk.mono {H H' : Hp} {v : V} (e : Ex H H') (h : Vk K H v) : Vk K H' v := by
  cases h with
  | non h => exact .non h
  | tup l h f => exact .tup l (dp_ex e h) f
  | bad b ds h i f => exact .bad b ds (dp_ex e h) i f
  | oth ty n t k => exact .oth ty n (fun H1 e1 => t H1 (e.trans e1)) k
def EvV (K : PySem.W.Frag) (te : TE) (σ : L2.St) (H : Hp) (M : List Addr) : Prop := ∀ H1, Ex H H1 → ∀ Q : VK, (∀ v H2, Ex H1 H2 → Vk K (mask M H2) v → Q v H2) → te σ H1 Q
def EvVs (K : PySem.W.Frag) (ta : TA) (σ : L2.St) (H : Hp) (M : List Addr) (m : Nat) : Prop := ∀ H1, Ex H H1 → ∀ Q : List V → Hp → Prop, (∀ vs H2, Ex H1 H2 → vs.length = m → (∀ v ∈ vs, Vk K (mask M H2) v) → Q vs H2) → ta σ H1 Q
section
variable {H0 H : Hp} {σ : L2.St} {Γ : List G} {X : List (V × PyData)} {ta tb te : TE} {tr : TA} {x y d : PyData} {D : Ends} {ds : List PyData} {M : List Addr} {m : Nat} {tu : TS}
theorem mask_ex {H H' : Hp} (e : Ex H H') : Ex (mask M H) (mask M H') := mask_mono e fun _ _ _ h => h
theorem evs_nil : EvVs K tNil σ H M 0 := fun H1 _ Q q => q [] H1 (Ex.refl H1) rfl (fun _ h => nomatch h)
theorem evs_cons (h : EvV K ta σ H M) (hr : EvVs K tr σ H M m) : EvVs K (tCons ta tr) σ H M (m + 1) := fun H1 e Q q =>
  h H1 e _ fun v H2 e2 hv => hr H2 (e.trans e2) _ fun vs H3 e3 len hvs => q _ H3 (e2.trans e3) (by rw [List.length_cons, len]) fun u hu => by
    rcases List.mem_cons.mp hu with rfl | hu
    · exact hv.mono (mask_ex e3)
    · exact hvs u hu
theorem vk_nl (E : En K H0 H σ Γ X) (h : EvD K te σ H d) (n : NL d) (c : ∀ H v, Dt K H v d → Vk K H v) : EvV K te σ H (ms Γ) := fun H1 e Q q => h H1 e Q fun v H2 e2 hv => q v H2 e2 (c _ _ ((E.mono (e.trans e2)).nl n hv))
theorem vk_tup (E : En K H0 H σ Γ X) {l : List Nat} (h : EvD K te σ H (tD l)) (f : l.length ≤ 20) : EvV K te σ H (ms Γ) := vk_nl E h (nl_t l) fun _ _ hv => .tup l hv f
theorem vk_new (E : En K H0 H σ Γ X) (h : EvN K te σ H ds) (n : ∀ d ∈ ds, NL d) : EvV K te σ H (ms Γ) := fun H1 e Q q => h H1 e Q fun p us H2 np e2 hp al =>
  q _ H2 e2 (.oth "list" (fun h => nomatch h) (fun H3 e3 => tyX_dt (d := .list ds) (dp_ex e3 ((E.mono e).fresh n np e2 hp al))) kit_lt)
theorem vk_dict (E : En K H0 H σ Γ X) : EvV K tDNewK σ H (ms Γ) := fun H1 e Q q p np => by
  have pn : p ∉ ms Γ := fun h => by
    obtain ⟨xs, hx⟩ := (E.mono e).ml p h
    rw [np] at hx
    cases hx
  exact q _ _ (Ex.new np) (.oth "dict" (fun h => nomatch h) (fun H3 e3 => .base (.dK (e3 p _ (by rw [mask_out pn]; exact upd_same)))) kit_dt)
theorem vk_c {v : V} {ty : String} (n : v ≠ .non) (t : ∀ H, TyX K H v (.type ty)) (k : kitB ty "tuple" = some false) : EvV K (tC v) σ H M := fun H1 _ Q q => q v H1 (Ex.refl H1) (.oth ty n (fun H2 _ => t H2) k)
theorem vk_none : EvV K (tC .non) σ H M := fun H1 _ Q q => q .non H1 (Ex.refl H1) (.non rfl)
/-- the masks when slot i owns another list -/
theorem mask_step {i : Nat} {p : Addr} {g : G} {H2 H3 : Hp} (og : own g = some p) (np : H p = none) (e : Ex H H3) : Ex (mask (ms Γ) H) (mask (ms (Γ.set i g)) H3) := mask_mono e fun a o h q => by
  obtain ⟨j, h', hj, ej⟩ := mem_ms.mp q
  rcases get_set hj with ⟨_, eg⟩ | ⟨_, eg⟩
  · rw [eg, og] at ej
    cases ej
    rw [np] at h
    cases h
  · exact mem_ms.mpr ⟨j, h', eg, ej⟩
/-- x = [values] -/
theorem s_asgV {i : Nat} (E : En K H0 H σ Γ X) (h : EvVs K tr σ H (ms Γ) m) (few : m ≤ 1000) (k : ∀ p vs H1, vs.length = m → (∀ v ∈ vs, Vk K (mask (ms (Γ.set i (.r p vs))) H1) v) → En K H0 H1 (σ.set i (some (.ref p))) (Γ.set i (.r p vs)) X → D.nx (σ.set i (some (.ref p))) H1) : tAsg (tLst tr) (gName i) D σ H :=
  h H (Ex.refl H) _ fun vs H1 e len hv => ⟨by rw [len]; exact Evl.sz_of (by omega), fun p np => k p vs _ len (fun v hm => (hv v hm).mono (mask_step (H2 := H1) rfl np (Ex.new np))) ((E.mono e).putR (Ex.new np) np upd_same)⟩
/-- x = x + [values] -/
theorem s_catV {i : Nat} {p : Addr} {vs : List V} (E : En K H0 H σ Γ X) (hi : Γ[i]? = some (.r p vs)) (hv : ∀ v ∈ vs, Vk K (mask (ms Γ) H) v) (h : EvVs K tr σ H (ms Γ) m) (few : vs.length + m ≤ 1000) (k : ∀ p us H1, us.length = vs.length + m → (∀ v ∈ us, Vk K (mask (ms (Γ.set i (.r p us))) H1) v) → En K H0 H1 (σ.set i (some (.ref p))) (Γ.set i (.r p us)) X → D.nx (σ.set i (some (.ref p))) H1) : tAsg (tOp rCat (tVar i) (tLst tr)) (gName i) D σ H := by
  obtain ⟨e1, e2⟩ := E.raw i p vs hi
  refine ⟨.ref p, e1, h H (Ex.refl H) _ fun ws H1 e len hw => ⟨by rw [len]; exact Evl.sz_of (by omega), fun q nq => ?_⟩⟩
  refine ⟨p, q, vs, ws, rfl, rfl, (Ex.new nq) _ _ (e _ _ e2), upd_same, by rw [len]; exact Evl.sz_of (by omega), fun l nl => ?_⟩
  have e3 : Ex H (upd H1 q (.lst ws)) := e.trans (Ex.new nq)
  have nl1 : H1 l = none := Evl.fresh_back (Ex.new nq) nl
  have nl0 : H l = none := Evl.fresh_back e3 nl
  refine k l (vs ++ ws) _ (by rw [List.length_append, len]) (fun v hm => ?_) ((E.mono e3).putR (Ex.new nl) nl upd_same)
  rcases List.mem_append.mp hm with hm | hm
  · exact (hv v hm).mono (mask_step (H2 := H) rfl nl0 (e3.trans (Ex.new nl)))
  · exact (hw v hm).mono (mask_step (H2 := H) rfl nl1 ((Ex.new nq).trans (Ex.new nl)))
/-- for j in range(n), the heap in view -/
theorem s_forR1H {tn : TE} {n j : Nat} (E : En K H0 H σ Γ X) (hn : EvD K tn σ H (iD n)) (few : n ≤ 100000) (I : Nat → List G → Hp → Prop) (h0 : ∀ H1, Ex H H1 → I 0 Γ H1)
    (hs : ∀ (i : Nat) (σ' : L2.St) (H' : Hp) (Γ' : List G), i < n → I i Γ' H' → En K H0 H' (σ'.set j (some (.int (i : Int)))) (Γ'.set j (.d (iD i))) X →
      tu { D with nx := fun σ2 H2 => ∃ Γ2, I (i + 1) Γ2 H2 ∧ En K H0 H2 σ2 Γ2 X, ct := fun σ2 H2 => ∃ Γ2, I (i + 1) Γ2 H2 ∧ En K H0 H2 σ2 Γ2 X, bk := D.nx } (σ'.set j (some (.int (i : Int)))) H')
    (hd : ∀ (σ' : L2.St) (H' : Hp) (Γ' : List G), I n Γ' H' → En K H0 H' σ' Γ' X → D.nx σ' H') : tFor (iRng1 (tCons tn tNil)) (gName j) tu D σ H := hn H (Ex.refl H) _ fun v H1 e hv => by
  refine ⟨(n : Int), by rw [dp_int hv], by omega, by omega, ?_⟩
  refine for_range (lo := 0) (n := (n : Int).toNat) (fun i σ' H' => ∃ Γ', I i Γ' H' ∧ En K H0 H' σ' Γ' X) ⟨Γ, h0 H1 e, E.mono e⟩ (fun i σ' H' hi p => ?_) fun σ' H' p => ?_
  · obtain ⟨Γ', p1, p2⟩ := p
    have e2 : (0 : Int) + (i : Int) = (i : Int) := Int.zero_add _
    show tu _ (σ'.set j (some (.int ((0 : Int) + (i : Int))))) H'
    rw [e2]
    exact hs i σ' H' Γ' (by omega) p1 (p2.put (g := .d (iD i)) (.int _))
  · obtain ⟨Γ', p1, p2⟩ := p
    exact hd σ' H' Γ' (by simpa using p1) p2
/-- values.append(what is read on in the row) -/
theorem s_appV {r sc : Addr} {script : List Int} {i0 : Nat} {vr : List V} {R : PyData → Prop} {i : Nat} {p : Addr} {ws : List V} (E : En K H0 H σ Γ X) (hi0 : Γ[i0]? = some (.r r vr)) (ok : RowOk sc vr) (hS : ((V.ref sc, ScD script) : V × PyData) ∈ X) (hii : i ≠ i0) (hi : Γ[i]? = some (.r p ws)) (hv : ∀ v ∈ ws, Vk K (mask (ms Γ) H) v) (few : ws.length < 1000)
    (h : ∀ Hb : Hp, EvW K Hb r sc script i0 σ Γ te R) (c : ∀ d, R d → ∀ H v, Dt K H v d → Vk K H v) (k : ∀ us H1 vr1, us.length = ws.length + 1 → RowOk sc vr1 → (∀ v ∈ us, Vk K (mask (ms ((Γ.set i0 (.r r vr1)).set i (.r p us))) H1) v) → En K H0 H1 σ ((Γ.set i0 (.r r vr1)).set i (.r p us)) X → D.nx σ H1) : tDrop (tBM K "list" rAppend (tVar i) (tCons te tNil)) D σ H := by
  obtain ⟨e1, e2⟩ := E.raw i p ws hi
  refine ⟨.ref p, e1, Or.inl ⟨rfl, ws, Evl.sq_of e2⟩, h (mask (ms Γ) H) H vr X ok hS ((set_same hi0).symm ▸ E.rebase) _ fun v d H1 vr1 pd nd ok1 E1 => ?_⟩
  have hi1 : (Γ.set i0 (.r r vr1))[i]? = some (.r p ws) := (List.getElem?_set_ne (Ne.symm hii)).trans hi
  obtain ⟨_, e4⟩ := E1.raw i p ws hi1
  have E2 := E1.updR (i := i) (us := ws ++ [v]) (H1 := upd H1 p (.lst (ws ++ [v]))) hi1 ex_upd upd_same
  refine ⟨p, ws, v, rfl, rfl, e4, Evl.sz_lt (by omega), k (ws ++ [v]) _ vr1 (by simp) ok1 (fun u hu => ?_) (E2.unghost.back E.ex)⟩
  rcases List.mem_append.mp hu with hu | hu
  · exact (hv u hu).mono E2.ex
  · rw [List.mem_singleton] at hu
    subst hu
    exact c d pd _ _ (E2.gho (u, d) (List.mem_cons_self ..))
/-- for j in values + a new list of orders -/
theorem s_forV {i j : Nat} {p : Addr} {ws : List V} {L : List (List Nat)} (E : En K H0 H σ Γ X) (hi : Γ[i]? = some (.r p ws)) (hv : ∀ v ∈ ws, Vk K (mask (ms Γ) H) v) (few : ws.length + L.length ≤ 1000) (hb : EvN K tb σ H (L.map tD)) (hL : ∀ l ∈ L, l.length ≤ 20) (I : List G → Prop) (h0 : I Γ)
    (hs : ∀ (Hb : Hp) (v : V) (σ' : L2.St) (H' : Hp) (Γ' : List G), I Γ' → Vk K (mask (ms Γ') H') v → En K Hb H' σ' Γ' X →
      tu { D with nx := fun σ2 H2 => ∃ Γ2, I Γ2 ∧ En K Hb H2 σ2 Γ2 X, ct := fun σ2 H2 => ∃ Γ2, I Γ2 ∧ En K Hb H2 σ2 Γ2 X, bk := D.nx } (σ'.set j (some v)) H')
    (hd : ∀ (Hb : Hp) (σ' : L2.St) (H' : Hp) (Γ' : List G), I Γ' → En K Hb H' σ' Γ' X → D.nx σ' H') : tFor (iList K (tOp rCat (tVar i) tb)) (gName j) tu D σ H := by
  obtain ⟨e1, e2⟩ := E.raw i p ws hi
  refine ⟨.ref p, e1, hb H (Ex.refl H) _ fun q us H1 nq e hq al => ⟨p, q, ws, us, rfl, rfl, e _ _ e2, hq, by rw [da_len al, List.length_map]; exact Evl.sz_of (by omega), fun l nl => ?_⟩⟩
  have E1 := (E.mono e).mono (Ex.new (o := .lst (ws ++ us)) nl)
  have ln : l ∉ ms Γ := fun h => by
    obtain ⟨xs, hx⟩ := (E.mono e).ml l h
    rw [nl] at hx
    cases hx
  have all : ∀ v ∈ ws ++ us, Vk K (mask (ms Γ) (upd H1 l (.lst (ws ++ us)))) v := fun v hm => by
    rcases List.mem_append.mp hm with hm | hm
    · exact (hv v hm).mono (mask_ex (e.trans (Ex.new nl)))
    · obtain ⟨t, ht⟩ := List.mem_iff_getElem?.mp hm
      obtain ⟨d, hd, hdt⟩ := da_get' (da_ex (Ex.new (o := .lst (ws ++ us)) nl) al) ht
      obtain ⟨o, ho, rfl⟩ := List.mem_map.mp (List.mem_of_getElem? hd)
      exact .tup o (E1.nl (nl_t o) hdt) (hL o ho)
  have hl : mask (ms Γ) (upd H1 l (.lst (ws ++ us))) l = some (.lst (ws ++ us)) := by rw [mask_out ln]; exact upd_same
  have E2 := E1.rebase
  generalize mask (ms Γ) (upd H1 l (.lst (ws ++ us))) = Hb at E2 all hl
  generalize ws ++ us = zs at all hl E2
  have sq : ∀ {H' : Hp}, Ex Hb H' → SqL K H' l zs := fun e => Evl.sq_of (e _ _ hl)
  refine ⟨l, rfl, ⟨zs, sq (E2.ex.trans mask_le)⟩, fun t m σ' H' => m = zs.length - t ∧ t ≤ zs.length ∧ ∃ Γ', I Γ' ∧ En K Hb H' σ' Γ' X, ⟨zs.length, by simp, Nat.zero_le _, Γ, h0, E2⟩, ?_⟩
  rintro t m σ' H' ⟨rfl, ht, Γ', p1, p2⟩
  have s := sq (p2.ex.trans mask_le)
  by_cases lt : t < zs.length
  · refine .inr ⟨walk_list.goes t H' lt s, fun σ2 H2 => ∃ Γ2, I Γ2 ∧ En K Hb H2 σ2 Γ2 X, fun σ2 H2 p' => ⟨zs.length - (t + 1), by omega, rfl, lt, p'⟩, fun v H2 y => ?_⟩
    obtain ⟨rfl, hvt⟩ := walk_list.yields t H' v H2 lt s y
    exact hs Hb v σ' H2 Γ' p1 ((all v (List.mem_of_getElem? hvt)).mono p2.ex) p2
  · have e3 : t = zs.length := by omega
    subst e3
    exact .inl ⟨walk_list.stops H' s, hd Hb σ' H' Γ' p1 p2⟩
/-- the law's turn: due = ..; if not alike(shows, due): .. -/
theorem s_turn {j : Nat} {shows due : TE} {b : Bool} (E : En K H0 H σ Γ X) (hdue : EvD K due σ H (.bool b)) (hsh : ∀ u H1, En K H0 H1 (σ.set j (some u)) (Γ.set j (.d (.bool b))) X → Ex H H1 → EvD K shows (σ.set j (some u)) H1 (.bool b)) (hj : j < Γ.length) (k : ∀ u H1, En K H0 H1 (σ.set j (some u)) (Γ.set j (.d (.bool b))) X → D.nx (σ.set j (some u)) H1) :
    tSeq (tAsg due (gName j)) (tIfS (tNot (tB (tCall (spAlike K) [] L2.E0 (tCons shows (tCons (tVar j) tNil))))) tu tNext) D σ H := by
  refine s_asg (i := j) E hdue (.bl b) fun u H1 e1 E1 => ?_
  have vj : EvD K (tVar j) (σ.set j (some u)) H1 (.bool b) := ev_var E1.va (by unfold view; rw [List.getElem?_set_self hj])
  refine s_when (b := false) E1 (Evl.et_is (Evl.et_not (et_B (ev_call (d := .bool (b == b)) (ea_cons (hsh u H1 E1 e1) (ea_cons vj ea_nil)) fun vs H2 Q _ al q => ⟨b, b, al, q⟩))) (by simp)) (fun h => absurd h (by decide)) fun _ H2 e2 E2 => k u H2 E2
/-- a, b = x, y beside the row -/
theorem s_parX {i j : Nat} (E : En K H0 H σ Γ X) (hx : EvD K ta σ H x) (hm : ∀ v H1, Ex H H1 → Dt K H1 v x → Dt K (mask (ms Γ) H1) v x) (hy : EvD K tb σ H y) (ny : NL y) (k : ∀ v w H1, En K H0 H1 ((σ.set i (some v)).set j (some w)) ((Γ.set i (.d x)).set j (.d y)) X → D.nx ((σ.set i (some v)).set j (some w)) H1) : tPar i j (tCons ta (tCons tb tNil)) D σ H :=
  hx H (Ex.refl H) _ fun v H1 e1 hv => hy H1 e1 _ fun w H2 e2 hw => ⟨v, w, rfl, by
    have E2 := E.mono (e1.trans e2)
    have E3 := E2.put (i := i) (v := v) (g := .d x) (hm v H2 (e1.trans e2) (dp_ex e2 hv))
    exact k v w H2 (E3.put (g := .d y) (E3.nl ny hw))⟩
theorem s_asgX {i : Nat} (E : En K H0 H σ Γ X) (hx : EvD K ta σ H x) (hm : ∀ v H1, Ex H H1 → Dt K H1 v x → Dt K (mask (ms Γ) H1) v x) (k : ∀ v H1, En K H0 H1 (σ.set i (some v)) (Γ.set i (.d x)) X → D.nx (σ.set i (some v)) H1) : tAsg ta (gName i) D σ H :=
  hx H (Ex.refl H) _ fun v H1 e1 hv => k v H1 ((E.mono e1).put (g := .d x) (hm v H1 e1 hv))
/-! what the row is not -/
theorem sq_mask {r a : Addr} {xs ys : List V} (hr : H r = some (.lst ys)) (ne : xs ≠ ys) (h : SqL K H a xs) : SqL K (mask [r] H) a xs := by
  rcases h with (s | ⟨o, s⟩) | s
  · have : a ≠ r := by
      rintro rfl
      rw [hr] at s
      have s := HO.lst.inj (Option.some.inj s)
      exact ne s.symm
    exact .inl (.inl (by rw [mask_out (by simpa using this)]; exact s))
  · have : a ≠ r := by
      rintro rfl
      rw [hr] at s
      cases s
    exact .inl (.inr ⟨o, by rw [mask_out (by simpa using this)]; exact s⟩)
  · exact .inr s
theorem dt_lD {r sc : Addr} {vs : List V} {v : V} {l : List Nat} (hr : H r = some (.lst vs)) (ok : RowOk sc vs) (h : Dt K H v (lD l)) : Dt K (mask [r] H) v (lD l) := by
  obtain ⟨a, us, rfl, s, al⟩ := dt_lst h
  have eu := da_nat al
  subst eu
  refine .lst (sq_mask hr (fun e => ?_) s) (nat_da l)
  obtain ⟨i, s, c, rfl, _⟩ := ok
  cases l with
  | nil => cases e
  | cons a l => cases e
theorem da_each {r : Addr} : ∀ {us : List V} {ds : List PyData}, (∀ d ∈ ds, ∀ v, Dt K H v d → (∃ a, v = .ref a) ∧ Dt K (mask [r] H) v d) → DtAll K H us ds → DtAll K (mask [r] H) us ds ∧ ∀ u ∈ us, ∃ a, u = .ref a
  | _, _, _, .nil => ⟨.nil, fun _ h => nomatch h⟩
  | _, _, f, .cons h t => by
    obtain ⟨a, b⟩ := f _ (by simp) _ h
    obtain ⟨c, d⟩ := da_each (fun x hx => f x (by simp [hx])) t
    refine ⟨.cons b c, fun u hu => ?_⟩
    rcases List.mem_cons.mp hu with rfl | hu
    · exact a
    · exact d u hu
theorem dt_refs {r sc : Addr} {vs : List V} {v : V} (hr : H r = some (.lst vs)) (ok : RowOk sc vs) (f : ∀ d ∈ ds, ∀ v, Dt K H v d → (∃ a, v = .ref a) ∧ Dt K (mask [r] H) v d) (h : Dt K H v (.list ds)) : Dt K (mask [r] H) v (.list ds) := by
  obtain ⟨a, us, rfl, s, al⟩ := dt_lst h
  obtain ⟨al', refs⟩ := da_each f al
  refine .lst (sq_mask hr (fun e => ?_) s) al'
  obtain ⟨i, s, c, rfl, _⟩ := ok
  obtain ⟨b, hb⟩ := refs (.int i) (by rw [e]; simp [rowV])
  cases hb
theorem dt_some {r sc : Addr} {vs : List V} {v : V} {ns : NestL} (hr : H r = some (.lst vs)) (ok : RowOk sc vs) (h : Dt K H v (someD ns)) : Dt K (mask [r] H) v (someD ns) := dt_refs hr ok (fun d hd u hu => by
  obtain ⟨k, _, rfl⟩ := List.mem_map.mp hd
  refine ⟨?_, dt_lD hr ok hu⟩
  obtain ⟨a, _, e, _⟩ := dt_lst hu
  exact ⟨a, e⟩) h
theorem dt_rows {r sc : Addr} {vs : List V} {v : V} {L : List (List Nat)} (hr : H r = some (.lst vs)) (ok : RowOk sc vs) (h : Dt K H v (.list (L.map tD))) : Dt K (mask [r] H) v (.list (L.map tD)) := dt_refs hr ok (fun d hd u hu => by
  obtain ⟨o, _, rfl⟩ := List.mem_map.mp hd
  refine ⟨?_, dp_nl (mask_rd fun p hp => by
    rw [List.mem_singleton] at hp
    exact ⟨vs, hp ▸ hr⟩) (nl_t o) hu⟩
  obtain ⟨a, _, e, _⟩ := dt_tup hu
  exact ⟨a, e⟩) h
theorem ev_neg {i : Int} (ha : EvD K ta σ H (.int i)) : EvD K (tUn (rU fun i => .int (-i)) ta) σ H (.int (-i)) := fun H1 e Q q => ha H1 e _ fun v H2 e2 hv => ⟨i, dp_int hv, q _ H2 e2 (.int _)⟩
theorem ev_isT {a b : Bool} (ha : EvD K ta σ H (.bool a)) (hb : EvD K tb σ H (.bool b)) : EvD K (tOp (fun x y H Q => ∃ a b, x = .bl a ∧ y = .bl b ∧ Q (.bl (decide (a = b))) H) ta tb) σ H (.bool (decide (a = b))) := ev_op ha hb fun u v H1 _ hu hv Q q => ⟨a, b, dp_bool hu, dp_bool hv, q _ H1 (Ex.refl H1) (.bl _)⟩
end
theorem cut_nat {l : List Nat} {lo hi : Option Int} : ∃ l' : List Nat, cutD (l.map iD) lo hi = l'.map iD ∧ l'.length ≤ l.length := by
  refine ⟨(l.drop (HT.sIx (l.map iD).length 0 lo)).take (HT.sIx (l.map iD).length (l.map iD).length hi - HT.sIx (l.map iD).length 0 lo), ?_, ?_⟩
  · unfold cutD
    rw [List.map_take, List.map_drop]
  · rw [List.length_take, List.length_drop]
    omega
theorem cut_rows {L : List (List Nat)} {lo hi : Option Int} : ∃ L' : List (List Nat), cutD (L.map tD) lo hi = L'.map tD ∧ L'.length ≤ L.length ∧ ∀ o ∈ L', o ∈ L := by
  refine ⟨(L.drop (HT.sIx (L.map tD).length 0 lo)).take (HT.sIx (L.map tD).length (L.map tD).length hi - HT.sIx (L.map tD).length 0 lo), ?_, ?_, fun o ho => List.mem_of_mem_drop (List.mem_of_mem_take ho)⟩
  · unfold cutD
    rw [List.map_take, List.map_drop]
  · rw [List.length_take, List.length_drop]
    omega
end
end Cd

set_option Elab.async false
set_option linter.all false
set_option maxRecDepth 100000
set_option maxHeartbeats 4000000
namespace Cd
open PySem PySem.Spec PyProof.Rows L2
open Evl (Ex EvT)
section
variable {P : Program} {w : World} {K : PySem.W.Frag} {mg : Str → Option Value} {base : Heap}
/-! ### what the law's text compares -/
def fitsN (ns : NestL) (told : List (List Nat)) : List (List Nat) := (enum ns (leastN ns sortU told) ns.length []).filter fun o => !told.contains o
theorem mem_fits {ns : NestL} {told : List (List Nat)} {o : List Nat} : o ∈ fitsN ns told ↔ o ∈ enum ns (leastN ns sortU told) ns.length [] ∧ o ∉ told := by
  unfold fitsN
  rw [List.mem_filter]
  simp
theorem fits_nil {ns : NestL} {told : List (List Nat)} : fitsN ns told = [] ↔ ∀ o ∈ enum ns (leastN ns sortU told) ns.length [], o ∈ told := by
  rw [List.eq_nil_iff_forall_not_mem]
  constructor
  · intro h o ho
    by_cases m : o ∈ told
    · exact m
    · exact absurd (mem_fits.mpr ⟨ho, m⟩) (h o)
  · intro h o ho
    exact (mem_fits.mp ho).2 (h o (mem_fits.mp ho).1)
theorem third_fits {ns : NestL} {told : List (List Nat)} : (thirdN ns sortU told = none ∧ fitsN ns told = []) ∨ ∃ o, thirdN ns sortU told = some o ∧ o ∈ fitsN ns told := by
  cases h : thirdN ns sortU told with
  | none => exact .inl ⟨rfl, fits_nil.mpr (third_none h)⟩
  | some o => exact .inr ⟨o, rfl, mem_fits.mpr (third_some h)⟩
theorem count_fits {ns : NestL} (ok : NOk ns) {told : List (List Nat)} (tk : TOk ns.length told) : decide (countN ns sortU told = told.length) = decide (fitsN ns told = []) := by
  rw [decide_eq_decide, count_told ok srtU tk.oo tk.asc.nodup, fits_nil]
theorem vec_is {n : Nat} {l : List Nat} : vecB n (l.map iD) = decide (l.length = n) := by
  unfold vecB
  have : (l.map iD).filter isB = [] := List.filter_eq_nil_iff.mpr fun d hd => by
    obtain ⟨a, _, rfl⟩ := List.mem_map.mp hd
    exact Bool.false_ne_true
  rw [this, List.length_map]
  simp
theorem vec_bad {n : Nat} {b : Bool} {ds : List PyData} : vecB n (.bool b :: ds) = false := by
  unfold vecB
  rw [List.filter_cons]
  simp [isB]
theorem show_due {ns : NestL} {told : List (List Nat)} (l : List Nat) : showB ns told l = (true && (vecB ns.length (l.map iD) && (fitsN ns told).contains l)) := by
  rw [vec_is, Bool.true_and]
  unfold showB
  rw [Bool.eq_iff_iff, Bool.and_eq_true, Bool.and_eq_true, Bool.and_eq_true, ordB_iff, decide_eq_true_iff, List.contains_iff_mem, mem_fits, enum_iff]
  constructor
  · rintro ⟨h1, h2, h3⟩
    exact ⟨h1.len, ⟨h1, h3⟩, by simpa using h2⟩
  · rintro ⟨_, ⟨h1, h3⟩, h2⟩
    exact ⟨h1, by simpa using h2, h3⟩
theorem show_fits {ns : NestL} {told : List (List Nat)} {o : List Nat} (h : o ∈ fitsN ns told) : showB ns told o = true := by
  rw [show_due, vec_is, List.contains_iff_mem.mpr h]
  have := (enum_iff.mp (mem_fits.mp h).1).1.len
  simp [this]
theorem told_all {ns : NestL} (ok : NOk ns) {told : List (List Nat)} (tk : TOk ns.length told) (few : (enum ns (leastN ns sortU told) ns.length []).length ≤ 12) : TOk ns.length (enum ns (leastN ns sortU told) ns.length []) := by
  refine ⟨fun o ho => (enum_iff.mp ho).1, enum_asc ok.hi _ _, ?_, few⟩
  have lo := tk.lo
  have hm := List.getElem_mem (show 0 < told.length by omega)
  exact List.length_pos_of_mem (told_sub srtU tk.oo hm)
theorem ev_notInFits {σ : L2.St} {H : Hp} {ta tb : TE} {a : List Nat} {l : List (List Nat)} (ha : EvD K ta σ H (tD a)) (hb : EvD K tb σ H (.list (l.map tD))) (h : a ∈ l) : EvT (tTest (tOp (rNotInD K) ta tb)) σ H false := Evl.et_is (et_test (ev_niLT ha hb)) (by rw [List.contains_iff_mem.mpr h]; rfl)
abbrev s_law : Stmt := topS 49
abbrev N_law : List Str := ["_law_script", "_law_row", "_law_nest_here", "_law_some", "_law_count", "_law_told_here", "_law_rows", "_law_fits", "_law_order_here", "_law_found", "_law_values", "_law_turn", "_law_value", "_law_due"]
theorem sc_law : FnScope N_law ["_law_script"] (defScope s_law) := ⟨rfl, rfl, rfl, by decide +kernel, rfl, by decide +kernel, by decide +kernel⟩
def spLaw (K : PySem.W.Frag) : Sp := fun vs H Q _ => ∃ (a : Addr) (zs : List Int), vs = [.ref a] ∧ SqL K H a (zs.map V.int) ∧ zs.length ≤ 63 ∧ ∀ H', Q (.bl true) H'
theorem ok_law {f : Addr} {fd : FuncData} (F : Fun K "law" "law" s_law f fd) (B : Bl mg) (k__law_taken : Kd P w K mg base "_law_taken" 1 ["_law_row", "_law_many"] (spTaken K)) (k__law_nest : Kd P w K mg base "_law_nest" 3 ["_law_row", "_law_most"] (spNestL K)) (k__law_insides : Kd P w K mg base "_law_insides" 1 ["_law_nest_here"] (spInsides K)) (k__law_order : Kd P w K mg base "_law_order" 2 ["_law_row", "_law_many"] (spOrder K)) (k__law_told : Kd P w K mg base "_law_told" 3 ["_law_row", "_law_count", "_law_most"] (spToldL K))
    (k__law_allowed : Kd P w K mg base "_law_allowed" 2 ["_law_nest_here", "_law_numbers"] (spAllowed K)) (k__law_least : Kd P w K mg base "_law_least" 2 ["_law_some", "_law_told_here"] (spLeastL K)) (k__law_is_vector : Kd P w K mg base "_law_is_vector" 1 ["_law_value", "_law_size"] (spVec K)) (k__law_alike : Kd P w K mg base "_law_alike" 2 ["_law_found", "_law_due"] (spAlike K))
    (k_third_order : Kd P w K mg base "third_order" 8 ["nest", "told"] (spThird K)) (k_told_count : Kd P w K mg base "told_count" 7 ["nest", "told"] (spCount K)) (k_shows_third : Kd P w K mg base "shows_third" 7 ["nest", "told", "value"] (spShows K)) : FnOk P w K mg base CX0 9 f fd ["_law_script"] (spLaw K) := by
  refine F.ok sc_law (fun vs H Q E h => ?_) (fun cdv A outer s H vs Q E hr h => ?_)
  · obtain ⟨a, zs, rfl, _⟩ := h
    rfl
  · obtain ⟨a, zs, rfl, sq, few, q⟩ := h
    refine ⟨_, (pss_cons (ps_set (i := 1) sc_law.nd rfl (.inl rfl) (pe_lst (pa_cons (pv 0) (pa_cons pe_int (pa_cons pe_int (pa_cons pe_int pa_nil))))))
    (pss_cons (ps_set (i := 2) sc_law.nd rfl (.inl rfl) (pe_kd k__law_nest hr (by decide) (by rfl) (pa_cons (pv 1) (pa_cons pe_int pa_nil))))
    (pss_cons (ps_par (i := 3) (j := 4) rfl sc_law.nd rfl rfl (by decide) rfl rfl (pa_cons (pe_kd k__law_insides hr (by decide) (by rfl) (pa_cons (pv 2) pa_nil)) (pa_cons (pe_callB (c_len (K := K) rfl) (by rfl) B.len (by decide +kernel) (pa_cons (pv 2) pa_nil)) pa_nil)) (by rfl))
    (pss_cons (ps_set (i := 5) sc_law.nd rfl (.inr rfl) (pe_kd k__law_told hr (by decide) (by rfl) (pa_cons (pv 1) (pa_cons (pv 4) (pa_cons pe_int pa_nil)))))
    (pss_cons (ps_set (i := 6) sc_law.nd rfl (.inl rfl) (pe_kd k__law_allowed hr (by decide) (by rfl) (pa_cons (pv 2) (pa_cons (pe_kd k__law_least hr (by decide) (by rfl) (pa_cons (pv 3) (pa_cons (pv 5) pa_nil))) pa_nil))))
    (pss_cons (ps_if (PW.pt (pw_and (pt_cmpR op_le (pe_callB (c_len (K := K) rfl) (by rfl) B.len (by decide +kernel) (pa_cons (pv 6) pa_nil)) pe_int (nomark _)) (pw_and1 (pt_cmpR op_eq (pe_kd k__law_taken hr (by decide) (by rfl) (pa_cons (pv 1) (pa_cons pe_int pa_nil))) pe_int (nomark _)))))
      (pss_one (ps_set (i := 5) sc_law.nd rfl (.inr rfl) (pe_callTy (c_tup (K := K) rfl) (by rfl) B.tuple (by decide +kernel) (pa_cons (pv 6) pa_nil)))) pss_nil)
    (pss_cons (ps_setLc (i := 7) (own := [("_law_order_here", 8)]) (g := gName 8) rfl sc_law.nd rfl rfl (sw_true rfl rfl rfl (by decide +kernel)) (pi_list' (K := K) rfl (pe_kd k__law_allowed hr (by decide) (by rfl) (pa_cons (pv 2) (pa_cons (pe_kd k__law_least hr (by decide) (by rfl) (pa_cons (pv 3) (pa_cons (pv 5) pa_nil))) pa_nil)))) (blkOk_by (own := [("_law_order_here", 8)]) (N := N_law) (by kernel_rfl)) (fun _ _ _ _ _ => (pg_name (i := 8) sc_law.nd rfl (.inl rfl))) (fun _ _ _ _ _ => (pts_one (pt_cmpR (op_niDT' (K := K) rfl (hu65 hr)) (pv 8) (pv 5) rfl))) (fun _ _ _ _ _ => (pv 8)))
    (pss_cons (ps_set (i := 9) sc_law.nd rfl (.inl rfl) (pe_kd k_third_order hr (by decide) (by rfl) (pa_cons (pv 2) (pa_cons (pv 5) pa_nil))))
    (pss_cons (ps_if (PW.pt (pw_or (pt_cmpR op_ne (pe_cmpR op_isN (pv 9) pe_non (nomark _)) (pe_cmpR (op_eqD' (K := K) rfl hr.units) (pv 7) (pe_lst pa_nil) (nomark _)) (nomark _)) (pw_or1 (PW.pt (pw_and (pt_cmpR (op_neD' (K := K) rfl hr.units) (pv 7) (pe_lst pa_nil) (nomark _)) (pw_and1 (pt_cmpR (op_niD' (K := K) rfl (hu65 hr)) (pv 9) (pv 7) rfl)))))))
      (pss_one (ps_ret pe_bl)) pss_nil)
    (pss_cons (ps_if (pt_cmpR op_ne (pe_cmpR op_eq (pe_kd k_told_count hr (by decide) (by rfl) (pa_cons (pv 2) (pa_cons (pv 5) pa_nil))) (pe_callB (c_len (K := K) rfl) (by rfl) B.len (by decide +kernel) (pa_cons (pv 5) pa_nil)) (nomark _)) (pe_cmpR (op_eqD' (K := K) rfl hr.units) (pv 7) (pe_lst pa_nil) (nomark _)) (nomark _))
      (pss_one (ps_ret pe_bl)) pss_nil)
    (pss_cons (ps_set (i := 10) sc_law.nd rfl (.inl rfl) (pe_lst (pa_cons (pv 9) (pa_cons pe_non (pa_cons (pe_ix (ix_tup' (K := K) rfl) (pv 5) pe_int (fun _ _ => rfl)) (pa_cons (pe_callTy (c_list (K := K) rfl) (by rfl) B.list (by decide +kernel) (pa_cons (pe_ix (ix_tup' (K := K) rfl) (pv 5) pe_int (fun _ _ => rfl)) pa_nil)) (pa_cons (pe_tupP pa_nil) (pa_cons pe_int (pa_cons pe_dnewK (pa_cons (pe_tupRgP rfl (by rfl) B.tuple (prg_1 (by rfl) B.range (pv 4))) (pa_cons (pe_op op_catP (pe_tupP (pa_cons pe_bl pa_nil)) (pe_slice sl_tupP (pe_ix (ix_tup' (K := K) rfl) (pv 5) pe_int (fun _ _ => rfl)) (po_some pe_int) po_none)) pa_nil)))))))))))
    (pss_cons (ps_set (i := 10) sc_law.nd rfl (.inl rfl) (pe_op op_cat (pv 10) (pe_lst (pa_cons (pe_slice sl_tupP (pe_ix (ix_tup' (K := K) rfl) (pv 5) pe_int (fun _ _ => rfl)) po_none (po_some (pe_un un_neg pe_int))) (pa_cons (pe_op op_catP (pe_ix (ix_tup' (K := K) rfl) (pv 5) pe_int (fun _ _ => rfl)) (pe_tupP (pa_cons pe_int pa_nil))) (pa_cons pe_str pa_nil))))))
    (pss_cons (ps_for PassesOwn.never rfl (pi_range1 (by rfl) B.range (pa_cons pe_int pa_nil)) (pg_name (i := 11) sc_law.nd rfl (.inl rfl))
      (pss_one (ps_expr (pe_app (K := K) rfl (pv 10) (pa_cons (pe_callTy (c_tup (K := K) rfl) (by rfl) B.tuple (by decide +kernel) (pa_cons (pe_kd k__law_order hr (by decide) (by rfl) (pa_cons (pv 1) (pa_cons (pv 4) pa_nil))) pa_nil)) pa_nil)))))
    (pss_cons (ps_for PassesOwn.never rfl (pi_list' (K := K) rfl (pe_op op_cat (pv 10) (pe_slice (sl_list' (K := K) rfl) (pv 7) po_none (po_some pe_int)))) (pg_name (i := 12) sc_law.nd rfl (.inl rfl))
      (pss_cons (ps_set (i := 13) sc_law.nd rfl (.inl rfl) (pe_ifExp (pt_cmpR op_isN (pv 12) pe_non (nomark _)) (pe_cmpR (op_eqD' (K := K) rfl hr.units) (pv 7) (pe_lst pa_nil) (nomark _)) (pe_and (pe_callB (c_isi (K := K) rfl) (by rfl) B.isinstance (by decide +kernel) (pa_cons (pv 12) (pa_cons (pe_bltn (v := .ty "tuple") (by rfl) B.tuple (by decide +kernel) rfl) pa_nil))) (pe_and (pe_kd k__law_is_vector hr (by decide) (by rfl) (pa_cons (pv 12) (pa_cons (pv 4) pa_nil))) (pe_one (pe_cmpR (op_inD' (K := K) rfl (hu65 hr)) (pv 12) (pv 7) rfl))))))
      (pss_one (ps_if (pt_not (pt_val (pe_kd k__law_alike hr (by decide) (by rfl) (pa_cons (pe_kd k_shows_third hr (by decide) (by rfl) (pa_cons (pv 2) (pa_cons (pv 5) (pa_cons (pv 12) pa_nil)))) (pa_cons (pv 13) pa_nil)))))
        (pss_one (ps_ret pe_bl)) pss_nil))))
    (pss_one (ps_ret (pe_cmpR op_is_bl (pe_kd k_shows_third hr (by decide) (by rfl) (pa_cons (pv 2) (pa_cons (pv 5) (pa_cons (pv 9) pa_nil)))) pe_bl (nomark _)))))))))))))))))), ?_⟩
    have al : DtAll K H [.ref a] [ScD zs] := .cons (.lst sq (ints_da zs)) .nil
    have E0 := env_go (N := N_law) al
    obtain ⟨v0, e0, d0⟩ := E0.dat 0 _ rfl
    have ev0 : V.ref a = v0 := Option.some.inj (Option.some.inj (show some (some (V.ref a)) = some (some v0) from e0))
    subst ev0
    refine ⟨.ref a, e0, Evl.sz_of (by simp), fun r nr => ?_⟩
    let S : V × PyData := (V.ref a, ScD zs)
    have hS : S ∈ [S] := List.mem_cons_self ..
    have ok1 : RowOk a (rowV a 0 7735 0) := ⟨0, 7735, 0, rfl, by decide, by decide, by decide⟩
    have E1 : En K H _ ((L2.start N_law [V.ref a]).set 1 (some (.ref r))) [.d (ScD zs), .r r (rowV a 0 7735 0), .no, .no, .no, .no, .no, .no, .no, .no, .no, .no, .no, .no] [S] := (E0.ghost d0).putR (i := 1) (vs := rowV a 0 7735 0) (Ex.new nr) nr upd_same
    have w1 : EvW K H r a zs 1 ((L2.start N_law [V.ref a]).set 1 (some (.ref r))) [.d (ScD zs), .r r (rowV a 0 7735 0), .no, .no, .no, .no, .no, .no, .no, .no, .no, .no, .no, .no] (tCall (spNestL K) [] L2.E0 (tCons (tVar 1) (tCons (tC (.int 6)) tNil))) (fun d => ∃ ns, NOk ns ∧ d = nestD ns) := ew_call2 (by simp) (ew_pure (R := fun d => d = .int 6) (fun _ _ _ _ => ev_i) (.int _) rfl) fun w e H Q pe hw hrow q => by
      subst pe
      exact ⟨r, a, zs, ⟨w, rfl, hw⟩, hrow, q⟩
    refine s_asgW (i0 := 1) (i := 2) E1 rfl ok1 hS w1 fun v2 d2 H2 vs2 hd2 ok2 E2 => ?_
    obtain ⟨ns, ok, rfl⟩ := hd2
    have hhi := ok.hi
    have hlo := ok.lo
    have x2 : EvD K (tVar 2) _ H2 (nestD ns) := ev_var E2.va rfl
    have ins : EvD K (tCall (spInsides K) [] L2.E0 (tCons (tVar 2) tNil)) _ H2 (someD ns) := (ev_callN (ea_cons x2 ea_nil) fun vs H3 Q _ al q => ⟨ns, ok, al, q⟩).toD
    refine s_parX (i := 3) (j := 4) E2 ins (fun v H3 e3 hd => dt_some ((E2.mono e3).raw 1 r vs2 rfl).2 ok2 hd) ((ev_lenT x2).is (x := iD ns.length) (by rw [List.length_map])) (nl_i _) fun v3 v4 H3 E3 => ?_
    have w3 : EvW K H r a zs 1 ((((L2.start N_law [V.ref a]).set 1 (some (.ref r))).set 2 (some v2)).set 3 (some v3) |>.set 4 (some v4)) [.d (ScD zs), .r r vs2, .d (nestD ns), .d (someD ns), .d (iD ns.length), .no, .no, .no, .no, .no, .no, .no, .no, .no] (tCall (spToldL K) [] L2.E0 (tCons (tVar 1) (tCons (tVar 4) (tCons (tC (.int 4)) tNil)))) (fun d => ∃ told, TOk ns.length told ∧ d = toldD told) := ew_call3 (by simp) (ew_pure (R := fun d => d = iD ns.length) (fun _ _ _ E => ev_var E.va rfl) (nl_i _) rfl) (ew_pure (R := fun d => d = .int 4) (fun _ _ _ _ => ev_i) (.int _) rfl) fun w x e f H Q pe pf hw hx hrow q => by
      subst pe pf
      exact ⟨r, a, zs, ns.length, hlo, hhi, ⟨w, x, rfl, hw, hx⟩, hrow, q⟩
    refine s_asgW (i0 := 1) (i := 5) E3 rfl ok2 hS w3 fun v5 d5 H4 vs4 hd5 ok4 E4 => ?_
    obtain ⟨told0, tk0, rfl⟩ := hd5
    have rows : ∀ {σ : L2.St} {H9 : Hp} (told : List (List Nat)), TOk ns.length told → EvD K (tVar 2) σ H9 (nestD ns) → EvD K (tVar 3) σ H9 (someD ns) → EvD K (tVar 5) σ H9 (toldD told) → EvD K (tCall (spAllowed K) [] L2.E0 (tCons (tVar 2) (tCons (tCall (spLeastL K) [] L2.E0 (tCons (tVar 3) (tCons (tVar 5) tNil))) tNil))) σ H9 (.list ((enum ns (leastN ns sortU told) ns.length []).map tD)) := fun told tk a2 a3 a5 => ev_call (ea_cons a2 (ea_cons (ev_call (d := numsD (leastN ns sortU told)) (ea_cons a3 (ea_cons a5 ea_nil)) fun vs H Q _ al q => ⟨ns, told, ok, tk, al, q⟩) ea_nil)) fun vs H Q _ al q => ⟨ns, _, ok, least_nm tk.hi, al, q⟩
    refine s_asgX (i := 6) E4 (rows told0 tk0 (ev_var E4.va rfl) (ev_var E4.va rfl) (ev_var E4.va rfl)) (fun v H5 e5 hd => dt_rows ((E4.mono e5).raw 1 r vs4 rfl).2 ok4 hd) fun v6 H5 E5 => ?_
    let EN0 := enum ns (leastN ns sortU told0) ns.length []
    let G0 (vs : List V) (told : List (List Nat)) : List G := [.d (ScD zs), .r r vs, .d (nestD ns), .d (someD ns), .d (iD ns.length), .d (toldD told), .d (.list (EN0.map tD)), .no, .no, .no, .no, .no, .no, .no]
    have E5 : En K H H5 _ (G0 vs4 told0) [S] := E5
    have tst := fun (σ9 : L2.St) => et_andW (et_p (σ := σ9) (K := K) (H0 := H) (r := r) (sc := a) (script := zs) (i0 := 1) (Γ := G0 vs4 told0) (t := tTest (tOp (rI0 fun i j => .bl (decide (i ≤ j))) (tCB (rLen K) (tCons (tVar 6) tNil)) (tC (.int 12)))) (RB := fun b => b = decide (((EN0.map tD).length : Int) ≤ 12)) (fun H vs X E => et_test (ev_le (ev_lenL (ev_var E.va rfl)) ev_i)) rfl)
      (et_w (ew_eqJ (j := 0) (ew_taken (B := 2) (tb := tC (.int 2)) (by decide) (by simp [G0]) (ew_num (n := 2) (fun H vs X E => ev_i) (by decide)))))
    refine s_ifJ (i0 := 1) E5 rfl ok4 hS (fun σ' H' => ∃ vs told, RowOk a vs ∧ TOk ns.length told ∧ En K H H' σ' (G0 vs told) [S]) (tst _) (fun hJ H6 vs6 hb ok6 E6 => ?_) (fun H6 vs6 ok6 E6 => ⟨vs6, told0, ok6, tk0, E6⟩) fun σ7 H7 hJ => ?_
    · have le := of_decide_eq_true (hb rfl).1.symm
      rw [List.length_map] at le
      have y6 : EvD K (tVar 6) _ H6 (.list (EN0.map tD)) := ev_var E6.va rfl
      exact s_asg (i := 5) (d := toldD EN0) E6 (ev_tupL y6) (nl_told _) fun v7 H7 e7 E7 => hJ _ _ ⟨vs6, EN0, ok6, told_all ok tk0 (by show EN0.length ≤ 12; omega), E7⟩
    obtain ⟨vs7, told, ok7, tk, E7⟩ := hJ
    have tlo := tk.lo
    have thi := tk.hi
    let FT := fitsN ns told
    have enl : (enum ns (leastN ns sortU told) ns.length []).length ≤ 720 := Nat.le_trans (enum_le _ _ sok_nil (by simp)) (fact_le hhi)
    have ftl : FT.length ≤ 720 := Nat.le_trans (List.length_filter_le _ _) enl
    refine s_asgL (i := 7) (ds := FT.map tD) E7 (ev_lcL (c := tD) (l := enum ns (leastN ns sortU told) ns.length []) (f := fun o => !told.contains o) (e := tD) (j := 8) E7.va (rows told tk (ev_var E7.va rfl) (ev_var E7.va rfl) (ev_var E7.va rfl)) (by omega) (fun o v H8 ho e8 hv V => ?_) (fun o v H8 ho _ e8 hv V => ev_var V rfl) fun o _ _ => nl_t o) (nl_ts _) fun v7 H8 e8 E8 => ?_
    · have y8 : EvD K (tVar 8) _ H8 (tD o) := ev_var V rfl
      have y5 : EvD K (tVar 5) _ H8 (toldD told) := ev_var V rfl
      exact et_test (ev_inTT (neg := true) y8 y5)
    have y2 : EvD K (tVar 2) _ H8 (nestD ns) := ev_var E8.va rfl
    have y5 : EvD K (tVar 5) _ H8 (toldD told) := ev_var E8.va rfl
    have nlo : ∀ o : Option (List Nat), NL (optT o) := fun o => by
      cases o with
      | none => exact .non
      | some o => exact nl_t o
    refine s_asg (i := 9) (d := optT (thirdN ns sortU told)) E8 (ev_call (ea_cons y2 (ea_cons y5 ea_nil)) fun vs H Q _ al q => ⟨ns, told, ok, tk, al, q⟩) (nlo _) fun v9 H9 e9 E9 => ?_
    have emp : ∀ {σ : L2.St} {H : Hp}, EvD K (tLst tNil) σ H (.list (([] : List (List Nat)).map tD)) := fun {σ H} => (ev_lst ea_nil (by decide)).toD
    have y7 : EvD K (tVar 7) _ H9 (.list (FT.map tD)) := ev_var E9.va rfl
    have y9 : EvD K (tVar 9) _ H9 (optT (thirdN ns sortU told)) := ev_var E9.va rfl
    have t1 : EvT (tOr (tTest (tOp rNe (tOp (fun x y H Q => y = V.non ∧ Q (V.bl (decide (x = V.non))) H) (tVar 9) (tC V.non)) (tOp (rEqD K) (tVar 7) (tLst tNil)))) (tAnd (tTest (tOp (rNeD K) (tVar 7) (tLst tNil))) (tTest (tOp (rNotInD K) (tVar 9) (tVar 7))))) ((σ7.set 7 (some v7)).set 9 (some v9)) H9 false := by
      rcases third_fits (ns := ns) (told := told) with ⟨h1, h2⟩ | ⟨o, h1, h2⟩
      · rw [h1] at y9
        have f0 : FT = [] := h2
        refine Evl.et_is (Evl.et_or (a := false) (b := false) (Evl.et_is (et_test (ev_neB (ev_isN y9) (ev_eqLT y7 emp))) (by rw [f0]; rfl)) fun _ => Evl.et_is (Evl.et_and (a := false) (b := false) (Evl.et_is (et_test (ev_neLT y7 emp)) (by rw [f0]; rfl)) fun h => absurd h (by decide)) rfl) rfl
      · rw [h1] at y9
        have f0 : FT ≠ [] := List.ne_nil_of_mem h2
        refine Evl.et_is (Evl.et_or (a := false) (b := false) (Evl.et_is (et_test (ev_neB (ev_isN y9) (ev_eqLT y7 emp))) (by rw [decide_eq_false f0]; rfl)) fun _ => Evl.et_is (Evl.et_and (b := false) (et_test (ev_neLT y7 emp)) fun _ => ev_notInFits y9 y7 h2) (by simp)) rfl
    refine s_when (b := false) E9 t1 (fun h => absurd h (by decide)) fun _ H10 e10 E10 => ?_
    have y2 : EvD K (tVar 2) _ H10 (nestD ns) := ev_var E10.va rfl
    have y5 : EvD K (tVar 5) _ H10 (toldD told) := ev_var E10.va rfl
    have y7 : EvD K (tVar 7) _ H10 (.list (FT.map tD)) := ev_var E10.va rfl
    have t2 := ev_neB (ev_eqI (ev_call (K := K) (sp := spCount K) (E := L2.E0) (d := iD (countN ns sortU told)) (ea_cons y2 (ea_cons y5 ea_nil)) fun vs H Q _ al q => ⟨ns, told, ok, tk, al, q⟩) (ev_lenT y5)) (ev_eqLT y7 emp)
    refine s_when (b := false) E10 (Evl.et_is (et_test t2) (by
      rw [List.length_map]
      have c := count_fits ok tk
      have : decide (((countN ns sortU told : Nat) : Int) = ((told.length : Nat) : Int)) = decide (countN ns sortU told = told.length) := by rw [decide_eq_decide]; omega
      rw [this, c]
      simp [FT])) (fun h => absurd h (by decide)) fun _ H11 e11 E11 => ?_
    have G1e : ∃ G1 : List V → G → G → G → G → List G, G1 = fun vs g10 g11 g12 g13 => [.d (ScD zs), .r r vs, .d (nestD ns), .d (someD ns), .d (iD ns.length), .d (toldD told), .d (.list (EN0.map tD)), .d (.list (FT.map tD)), .no, .d (optT (thirdN ns sortU told)), g10, g11, g12, g13] := ⟨_, rfl⟩
    let o0 := told.getD 0 []
    have ho0 : o0.length ≤ 6 := by
      have : o0 ∈ told := by
        show told.getD 0 [] ∈ told
        rw [List.getD_eq_getElem?_getD, List.getElem?_eq_getElem (by omega)]
        exact List.getElem_mem (by omega)
      rw [(tk.oo _ this).len]
      exact hhi
    have y4 : EvD K (tVar 4) _ H11 (iD ns.length) := ev_var E11.va rfl
    have y5 : EvD K (tVar 5) _ H11 (toldD told) := ev_var E11.va rfl
    have y9 : EvD K (tVar 9) _ H11 (optT (thirdN ns sortU told)) := ev_var E11.va rfl
    have yo : EvD K (tOp (rIxT K) (tVar 5) (tC (.int 0))) _ H11 (tD o0) := ev_ixT y5 (ev_i (i := 0)) (at_ts (i := 0) (by omega))
    obtain ⟨l1, c1, c2⟩ := cut_nat (l := o0) (lo := some 1) (hi := none)
    have third20 : ∀ H v, Dt K H v (optT (thirdN ns sortU told)) → Vk K H v := fun H v hv => by
      rcases third_fits (ns := ns) (told := told) with ⟨h1, _⟩ | ⟨o, h1, h2⟩
      · rw [h1] at hv
        exact .non (dp_none hv)
      · rw [h1] at hv
        refine .tup o hv ?_
        rw [(enum_iff.mp (mem_fits.mp h2).1).1.len]
        omega
    have bad := ev_catT (ev_tup (K := K) (ea_cons (ev_b (b := true)) ea_nil) (by decide)) (ev_slT yo (eo_some (ev_i (K := K) (i := 1))) eo_none) (by rw [c1]; simp; omega)
    rw [c1] at bad
    have vals := evs_cons (vk_nl E11 y9 (nlo _) third20) (evs_cons vk_none (evs_cons (vk_tup E11 yo (by omega)) (evs_cons (vk_new E11 (ev_listT yo) (nl_is _)) (evs_cons (vk_tup E11 (l := []) (ev_tup ea_nil (by decide)) (by decide)) (evs_cons (vk_c (v := .int 3) (ty := "int") (fun h => nomatch h) (fun H => .base (.int 3)) kit_it) (evs_cons (vk_dict E11) (evs_cons (vk_tup E11 (ev_tupR1 y4 (by omega)) (by rw [List.length_range]; omega)) (evs_cons (vk_nl E11 bad (.tup fun d hd => by
      rcases List.mem_append.mp hd with h | h
      · rw [List.mem_singleton] at h
        subst h
        exact .bl true
      · exact nl_is _ d h) fun H v hv => .bad true (l1.map iD) hv (fun d hd => by
        obtain ⟨x, _, rfl⟩ := List.mem_map.mp hd
        exact .inl ⟨_, rfl⟩) (by rw [List.length_map]; omega)) evs_nil))))))))
    refine s_asgV (i := 10) E11 vals (by decide) fun p ws H12 len12 hv12 E12 => ?_
    have z5 : EvD K (tVar 5) _ H12 (toldD told) := ev_var E12.va rfl
    have zo : EvD K (tOp (rIxT K) (tVar 5) (tC (.int 0))) _ H12 (tD o0) := ev_ixT z5 (ev_i (i := 0)) (at_ts (i := 0) (by omega))
    obtain ⟨l2, c3, c4⟩ := cut_nat (l := o0) (lo := none) (hi := some (-1))
    have sl2 := ev_slT zo eo_none (eo_some (ev_neg (ev_i (K := K) (i := 1))))
    rw [c3] at sl2
    have sl2 : EvD K _ _ H12 (tD l2) := sl2
    have ct2 := (ev_catT zo (ev_tup (ea_cons (ev_i (i := 0)) ea_nil) (by decide)) (by rw [List.length_map]; simp; omega)).is (x := tD (o0 ++ [0])) (by unfold tD; rw [List.map_append] <;> rfl)
    have vals2 := evs_cons (vk_tup E12 sl2 (by omega)) (evs_cons (vk_tup E12 ct2 (by simp; omega)) (evs_cons (vk_c (v := .str "0") (ty := "str") (fun h => nomatch h) (fun H => .base (.str _)) kit_st) evs_nil))
    refine s_catV (i := 10) E12 rfl hv12 vals2 (by omega) fun p2 ws2 H13 len13 hv13 E13 => ?_
    have z4 : ∀ σ9 : L2.St, EvD K (tC (.int 5)) σ9 H13 (iD 5) := fun _ => ev_i (i := 5)
    refine s_forR1H (n := 5) (j := 11) E13 (z4 _) (by decide) (fun k Γ' H' => ∃ vs ws b, Γ' = [.d (ScD zs), .r r vs, .d (nestD ns), .d (someD ns), .d (iD ns.length), .d (toldD told), .d (.list (EN0.map tD)), .d (.list (FT.map tD)), .no, .d (optT (thirdN ns sortU told)), .r p2 ws, b, .no, .no] ∧ own b = none ∧ RowOk a vs ∧ ws.length = 12 + k ∧ ∀ v ∈ ws, Vk K (mask (ms Γ') H') v) (fun H1 e1 => ⟨vs7, ws2, .no, rfl, rfl, ok7, by omega, fun v hv => (hv13 v hv).mono (mask_ex e1)⟩) (fun k σ' H' Γ' hk hI E14 => ?_) fun σ' H' Γ' hI E14 => ?_
    · obtain ⟨vs8, ws3, b, rfl, ob, ok8, len3, hv3⟩ := hI
      have eb : ms [.d (ScD zs), .r r vs8, .d (nestD ns), .d (someD ns), .d (iD ns.length), .d (toldD told), .d (.list (EN0.map tD)), .d (.list (FT.map tD)), .no, .d (optT (thirdN ns sortU told)), .r p2 ws3, b, .no, .no] = [r, p2] := by
        cases b <;> first | rfl | cases ob
      rw [eb] at hv3
      refine s_appV (i0 := 1) (i := 10) (sc := a) (script := zs) E14 rfl ok8 hS (by decide) rfl hv3 (by omega) (fun Hb => ew_tupN (ewn_call2 (by simp) (ew_pure (R := fun d => d = iD ns.length) (fun _ _ _ E => ev_var E.va rfl) (nl_i _) rfl) fun w e H Q pe hw hrow q => by
        subst pe
        exact ⟨r, a, zs, ns.length, hhi, ⟨w, rfl, hw⟩, hrow, q⟩)) (fun d hd H v hv => ?_) fun us H15 vr len15 ok15 hv15 E15 => ⟨_, ⟨vr, us, _, rfl, rfl, ok15, by omega, hv15⟩, E15⟩
      obtain ⟨_, rfl, o, oo, rfl⟩ := hd
      exact .tup o hv (by rw [oo.len]; omega)
    obtain ⟨vs8, ws3, b11, rfl, ob, ok8, len3, hv3⟩ := hI
    obtain ⟨L', c5, c6, c7⟩ := cut_rows (L := FT) (lo := none) (hi := some 3)
    have z7 : EvD K (tVar 7) _ H' (.list (FT.map tD)) := ev_var E14.va rfl
    have sl3 := (ev_slL z7 eo_none (eo_some (ev_i (K := K) (i := 3)))).is c5
    refine s_forV (i := 10) (j := 12) E14 rfl hv3 (by omega) sl3 (fun o ho => by
      rw [(enum_iff.mp (mem_fits.mp (c7 o ho)).1).1.len]
      omega) (fun Γ' => ∃ b12 b13, Γ' = [.d (ScD zs), .r r vs8, .d (nestD ns), .d (someD ns), .d (iD ns.length), .d (toldD told), .d (.list (EN0.map tD)), .d (.list (FT.map tD)), .no, .d (optT (thirdN ns sortU told)), .r p2 ws3, b11, b12, b13]) ⟨_, _, rfl⟩ (fun Hb v σ2 H2 Γ2 hI hv E15 => ?_) fun Hb σ2 H2 Γ2 hI E15 => ?_
    · obtain ⟨b12, b13, rfl⟩ := hI
      cases hv with
      | non e =>
        subst e
        have E16 := E15.put (i := 12) (v := .non) (g := .d .none) .non
        have u7 : EvD K (tVar 7) _ H2 (.list (FT.map tD)) := ev_var E16.va rfl
        have u12 : EvD K (tVar 12) _ H2 .none := ev_var E16.va rfl
        refine s_turn (j := 13) (b := decide (FT = [])) E16 (ev_if (et_test (ev_isN u12)) (fun _ => ev_eqLT u7 emp) fun h => absurd h (by decide)) (fun u H3 E17 e3 => ?_) (by simp) fun u H3 E17 => ⟨_, ⟨_, _, rfl⟩, E17⟩
        have w2 : EvD K (tVar 2) _ H3 (nestD ns) := ev_var E17.va rfl
        have w5 : EvD K (tVar 5) _ H3 (toldD told) := ev_var E17.va rfl
        have w12 : EvD K (tVar 12) _ H3 .none := ev_var E17.va rfl
        exact ev_call (ea_cons w2 (ea_cons w5 (ea_cons w12 ea_nil))) fun vs H Q _ al q => ⟨ns, told, ok, tk, .inl ⟨al, by rw [count_fits ok tk]; exact q⟩⟩
      | tup l hd fl =>
        have E16 := E15.put (i := 12) (v := v) (g := .d (tD l)) hd
        have u4 : EvD K (tVar 4) _ H2 (iD ns.length) := ev_var E16.va rfl
        have u7 : EvD K (tVar 7) _ H2 (.list (FT.map tD)) := ev_var E16.va rfl
        have u12 : EvD K (tVar 12) _ H2 (tD l) := ev_var E16.va rfl
        refine s_turn (j := 13) (b := true && (vecB ns.length (l.map iD) && FT.contains l)) E16 (ev_if (et_test (ev_isN u12)) (fun h => absurd (show false = true from h) Bool.false_ne_true) fun _ => ev_and (ev_isi u12 kit_tt) fun _ => ev_and (ev_call (ea_cons u12 (ea_cons u4 ea_nil)) fun vs H Q _ al q => ⟨l.map iD, ns.length, fun d hd => by
          obtain ⟨x, _, rfl⟩ := List.mem_map.mp hd
          exact .inl ⟨_, rfl⟩, by rw [List.length_map]; omega, al, q⟩) fun _ => ev_inLT u12 u7) (fun u H3 E17 e3 => ?_) (by simp) fun u H3 E17 => ⟨_, ⟨_, _, rfl⟩, E17⟩
        have w2 : EvD K (tVar 2) _ H3 (nestD ns) := ev_var E17.va rfl
        have w5 : EvD K (tVar 5) _ H3 (toldD told) := ev_var E17.va rfl
        have w12 : EvD K (tVar 12) _ H3 (tD l) := ev_var E17.va rfl
        exact ev_call (ea_cons w2 (ea_cons w5 (ea_cons w12 ea_nil))) fun vs H Q _ al q => ⟨ns, told, ok, tk, .inr (.inr (.inr ⟨l, al, by omega, by rw [show_due]; exact q⟩))⟩
      | bad bb ds hd ib fl =>
        have E16 := E15.put (i := 12) (v := v) (g := .d (.tuple (.bool bb :: ds))) hd
        have u4 : EvD K (tVar 4) _ H2 (iD ns.length) := ev_var E16.va rfl
        have u12 : EvD K (tVar 12) _ H2 (.tuple (.bool bb :: ds)) := ev_var E16.va rfl
        have ib' : ∀ d ∈ PyData.bool bb :: ds, intBool d := fun d hd => by
          rcases List.mem_cons.mp hd with rfl | hd
          · exact .inr ⟨_, rfl⟩
          · exact ib d hd
        refine s_turn (j := 13) (b := false) E16 (ev_if (et_test (ev_isN u12)) (fun h => absurd (show false = true from h) Bool.false_ne_true) fun _ => (ev_and (b := false) (ev_isi u12 kit_tt) fun _ => (ev_and (a := false) (b := false) (ev_call (ea_cons u12 (ea_cons u4 ea_nil)) fun vs H Q _ al q => ⟨_, ns.length, ib', by rw [List.length_cons]; omega, al, by rw [vec_bad]; exact q⟩) fun h => absurd h (by decide)).is (x := .bool false) rfl).is (x := .bool false) rfl) (fun u H3 E17 e3 => ?_) (by simp) fun u H3 E17 => ⟨_, ⟨_, _, rfl⟩, E17⟩
        have w2 : EvD K (tVar 2) _ H3 (nestD ns) := ev_var E17.va rfl
        have w5 : EvD K (tVar 5) _ H3 (toldD told) := ev_var E17.va rfl
        have w12 : EvD K (tVar 12) _ H3 (.tuple (.bool bb :: ds)) := ev_var E17.va rfl
        exact ev_call (ea_cons w2 (ea_cons w5 (ea_cons w12 ea_nil))) fun vs H Q _ al q => ⟨ns, told, ok, tk, .inr (.inr (.inl ⟨_, al, ib', ⟨.bool bb, by simp, rfl⟩, by rw [List.length_cons]; omega, q⟩))⟩
      | oth ty nn ht hk =>
        have E16 := E15.put (i := 12) (v := v) (g := .v v) rfl
        have tst : EvT (tTest (tOp (fun x y H Q => y = V.non ∧ Q (V.bl (decide (x = V.non))) H) (tVar 12) (tC V.non))) (σ2.set 12 (some v)) H2 false := fun H3 e3 Q q => ⟨v, E16.val 12 v rfl, rfl, false, by rw [decide_eq_false nn], q H3 (Ex.refl H3)⟩
        refine s_turn (j := 13) (b := false) E16 (ev_if tst (fun h => absurd h (by decide)) fun _ => (ev_and (a := false) (b := false) (ev_isiV (v := v) (ty := ty) (fun H3 _ Q q => ⟨v, E16.val 12 v rfl, q⟩) (fun H3 e3 => ht H3 (mask_le.trans e3)) hk) fun h => absurd h (by decide)).is (x := .bool false) rfl) (fun u H3 E17 e3 => ?_) (by simp) fun u H3 E17 => ⟨_, ⟨_, _, rfl⟩, E17⟩
        intro H4 e4 Q4 q4
        have E18 := E17.mono e4
        obtain ⟨u0, f0, g0⟩ := E18.va.2 2 (nestD ns) rfl
        obtain ⟨u1, f1, g1⟩ := E18.va.2 5 (toldD told) rfl
        have f2 := E18.val 12 v rfl
        exact ⟨u0, f0, u1, f1, v, f2, ns, told, ok, tk, .inr (.inl ⟨u0, u1, v, ty, rfl, .cons g0 (.cons g1 .nil), nn, fun H5 e5 => ht H5 (mask_le.trans ((e3.trans e4).trans e5)), hk, q4⟩)⟩
    · obtain ⟨b12, b13, rfl⟩ := hI
      have w2 : EvD K (tVar 2) _ H2 (nestD ns) := ev_var E15.va rfl
      have w5 : EvD K (tVar 5) _ H2 (toldD told) := ev_var E15.va rfl
      have w9 : EvD K (tVar 9) _ H2 (optT (thirdN ns sortU told)) := ev_var E15.va rfl
      have call : EvD K (tCall (spShows K) [] L2.E0 (tCons (tVar 2) (tCons (tVar 5) (tCons (tVar 9) tNil)))) σ2 H2 (.bool true) := ev_call (ea_cons w2 (ea_cons w5 (ea_cons w9 ea_nil))) fun vs H Q _ al q => by
        rcases third_fits (ns := ns) (told := told) with ⟨h1, h2⟩ | ⟨o, h1, h2⟩
        · rw [h1] at al
          exact ⟨ns, told, ok, tk, .inl ⟨al, by rw [count_fits ok tk, decide_eq_true h2]; exact q⟩⟩
        · rw [h1] at al
          exact ⟨ns, told, ok, tk, .inr (.inr (.inr ⟨o, al, by rw [(enum_iff.mp (mem_fits.mp h2).1).1.len]; omega, by rw [show_fits h2]; exact q⟩))⟩
      exact s_ret (D := { nx := fun _ H' => Q .non H', rt := Q }) E15 (ev_isT call ev_b) fun v H3 e3 hv => by
        rw [dp_bool hv]
        exact q H3
end
end Cd


set_option Elab.async false
set_option linter.all false
set_option maxRecDepth 100000
set_option maxHeartbeats 4000000
namespace Cd
open PySem PySem.Spec PyProof.Rows L2
/-- the def x stands behind the top -/
def Got (K : PySem.W.Frag) (x : Str) (st : Stmt) : Prop := ∃ (f : Addr) (fd : FuncData), Fun K x x st f fd ∧ PySem.W.nsIn K mainGlobals x = some (some (.ref f))
theorem got_mk {K : PySem.W.Frag} {x : Str} {st : Stmt} {f : Addr} {oc : Value} {od an : Option Addr} {sl : Array (Option Value)} {kV dc pm cd ct : Value} (a : PySem.W.nsIn K mainGlobals x = some (some (.ref f)))
    (l : K.lookup f = some ⟨oc, od, .func (PySem.W.fnOf x x (defArgs st) (defBody st) (defScope st) .none kV dc pm an cd ct), sl⟩) (c : PySem.W.codeIn K cd x = true) (k : PySem.W.keepIn K (.ref f) = true) : Got K x st := ⟨f, _, fun_mk (st := st) l c k, a⟩
theorem all_mk {l : PySem.W.OpenLaw} {w : World} {K : PySem.W.Frag} {h : Heap} {mg : Str → Option Value} {fa f2 : Addr} (X : K.In h) (G : h.Ns mainGlobals mg) (hfa : mg "law" = some (.ref fa))
    (g_is_in : Got K "is_in" s_is_in)
    (g_need_nest : Got K "need_nest" s_need_nest)
    (g_around_in : Got K "around_in" s_around_in)
    (g_inside_in : Got K "inside_in" s_inside_in)
    (g_sizes_in : Got K "sizes_in" s_sizes_in)
    (g_product : Got K "product" s_product)
    (g_mixings_in : Got K "mixings_in" s_mixings_in)
    (g_is_order : Got K "is_order" s_is_order)
    (g_rank_in : Got K "rank_in" s_rank_in)
    (g_ranks_in : Got K "ranks_in" s_ranks_in)
    (g_allows_in : Got K "allows_in" s_allows_in)
    (g_count_in : Got K "count_in" s_count_in)
    (g_ready_in : Got K "ready_in" s_ready_in)
    (g_ways_in : Got K "ways_in" s_ways_in)
    (g_everyone : Got K "everyone" s_everyone)
    (g_ways_behind : Got K "ways_behind" s_ways_behind)
    (g_choices : Got K "choices" s_choices)
    (g_order_at_in : Got K "order_at_in" s_order_at_in)
    (g_is_told : Got K "is_told" s_is_told)
    (g_need_told : Got K "need_told" s_need_told)
    (g_least_in : Got K "least_in" s_least_in)
    (g_count_of : Got K "count_of" s_count_of)
    (g_told_count : Got K "told_count" s_told_count)
    (g_third_order : Got K "third_order" s_third_order)
    (g_shows_third : Got K "shows_third" s_shows_third)
    (g__law_taken : Got K "_law_taken" s__law_taken)
    (g__law_pick : Got K "_law_pick" s__law_pick)
    (g__law_nest : Got K "_law_nest" s__law_nest)
    (g__law_order : Got K "_law_order" s__law_order)
    (g__law_insides : Got K "_law_insides" s__law_insides)
    (g__law_ranks : Got K "_law_ranks" s__law_ranks)
    (g__law_least : Got K "_law_least" s__law_least)
    (g__law_told : Got K "_law_told" s__law_told)
    (g__law_allowed : Got K "_law_allowed" s__law_allowed)
    (g__law_is_vector : Got K "_law_is_vector" s__law_is_vector)
    (g__law_alike : Got K "_law_alike" s__law_alike)
    {od2 an2 : Option Addr} {sl2 : Array (Option Value)} {oc2 kV2 dc2 pm2 cd2 ct2 : Value} {t9 t12 : Tok}
    (a2 : PySem.W.nsIn K mainGlobals "law" = some (some (.ref f2))) (l2 : K.lookup f2 = some ⟨oc2, od2, .func (PySem.W.fnOf "law" "law" (defArgs s_law) (defBody s_law) (defScope s_law) .none kV2 dc2 pm2 an2 cd2 ct2), sl2⟩) (c2 : PySem.W.codeIn K cd2 "law" = true) (k2 : PySem.W.keepIn K (.ref f2) = true)
    (z_len : PySem.W.nsIn K mainGlobals "len" = some none)
    (z_range : PySem.W.nsIn K mainGlobals "range" = some none)
    (z_tuple : PySem.W.nsIn K mainGlobals "tuple" = some none)
    (z_list : PySem.W.nsIn K mainGlobals "list" = some none)
    (z_sorted : PySem.W.nsIn K mainGlobals "sorted" = some none)
    (z_set : PySem.W.nsIn K mainGlobals "set" = some none)
    (z_enumerate : PySem.W.nsIn K mainGlobals "enumerate" = some none)
    (z_isinstance : PySem.W.nsIn K mainGlobals "isinstance" = some none)
    (z_min : PySem.W.nsIn K mainGlobals "min" = some none)
    (z_int : PySem.W.nsIn K mainGlobals "int" = some none)
    (z_bool : PySem.W.nsIn K mainGlobals "bool" = some none)
    (z_str : PySem.W.nsIn K mainGlobals "str" = some none)
    (m9 : PySem.W.nsIn K mainGlobals "MOST_DOORS" = some (some (.int 9 t9))) (m12 : PySem.W.nsIn K mainGlobals "MOST_TOLD" = some (some (.int 12 t12))) :
    ∃ fd : FuncData, (∀ (s : Shared) (v : Value), BindsTo s fd ⟨[v], []⟩ [("_law_script", v)]) ∧ ∀ base : Heap, K.In base → base.Ns mainGlobals mg → FnOk l.prog w K mg base CX0 9 fa fd ["_law_script"] (spLaw K) := by
  have e := hfa.symm.trans (PySem.W.mg_of X G a2)
  cases e
  have F_law := fun_mk (st := s_law) l2 c2 k2
  have B : Bl mg := ⟨PySem.W.mg_none_of X G z_len, PySem.W.mg_none_of X G z_range, PySem.W.mg_none_of X G z_tuple, PySem.W.mg_none_of X G z_list, PySem.W.mg_none_of X G z_sorted, PySem.W.mg_none_of X G z_set, PySem.W.mg_none_of X G z_enumerate, PySem.W.mg_none_of X G z_isinstance, PySem.W.mg_none_of X G z_min, PySem.W.mg_none_of X G z_int, PySem.W.mg_none_of X G z_bool, PySem.W.mg_none_of X G z_str, ⟨_, PySem.W.mg_of X G m9⟩, ⟨_, PySem.W.mg_of X G m12⟩⟩
  obtain ⟨f_is_in, fd_is_in, F_is_in, a_is_in⟩ := g_is_in
  obtain ⟨f_need_nest, fd_need_nest, F_need_nest, a_need_nest⟩ := g_need_nest
  obtain ⟨f_around_in, fd_around_in, F_around_in, a_around_in⟩ := g_around_in
  obtain ⟨f_inside_in, fd_inside_in, F_inside_in, a_inside_in⟩ := g_inside_in
  obtain ⟨f_sizes_in, fd_sizes_in, F_sizes_in, a_sizes_in⟩ := g_sizes_in
  obtain ⟨f_product, fd_product, F_product, a_product⟩ := g_product
  obtain ⟨f_mixings_in, fd_mixings_in, F_mixings_in, a_mixings_in⟩ := g_mixings_in
  obtain ⟨f_is_order, fd_is_order, F_is_order, a_is_order⟩ := g_is_order
  obtain ⟨f_rank_in, fd_rank_in, F_rank_in, a_rank_in⟩ := g_rank_in
  obtain ⟨f_ranks_in, fd_ranks_in, F_ranks_in, a_ranks_in⟩ := g_ranks_in
  obtain ⟨f_allows_in, fd_allows_in, F_allows_in, a_allows_in⟩ := g_allows_in
  obtain ⟨f_count_in, fd_count_in, F_count_in, a_count_in⟩ := g_count_in
  obtain ⟨f_ready_in, fd_ready_in, F_ready_in, a_ready_in⟩ := g_ready_in
  obtain ⟨f_ways_in, fd_ways_in, F_ways_in, a_ways_in⟩ := g_ways_in
  obtain ⟨f_everyone, fd_everyone, F_everyone, a_everyone⟩ := g_everyone
  obtain ⟨f_ways_behind, fd_ways_behind, F_ways_behind, a_ways_behind⟩ := g_ways_behind
  obtain ⟨f_choices, fd_choices, F_choices, a_choices⟩ := g_choices
  obtain ⟨f_order_at_in, fd_order_at_in, F_order_at_in, a_order_at_in⟩ := g_order_at_in
  obtain ⟨f_is_told, fd_is_told, F_is_told, a_is_told⟩ := g_is_told
  obtain ⟨f_need_told, fd_need_told, F_need_told, a_need_told⟩ := g_need_told
  obtain ⟨f_least_in, fd_least_in, F_least_in, a_least_in⟩ := g_least_in
  obtain ⟨f_count_of, fd_count_of, F_count_of, a_count_of⟩ := g_count_of
  obtain ⟨f_told_count, fd_told_count, F_told_count, a_told_count⟩ := g_told_count
  obtain ⟨f_third_order, fd_third_order, F_third_order, a_third_order⟩ := g_third_order
  obtain ⟨f_shows_third, fd_shows_third, F_shows_third, a_shows_third⟩ := g_shows_third
  obtain ⟨f__law_taken, fd__law_taken, F__law_taken, a__law_taken⟩ := g__law_taken
  obtain ⟨f__law_pick, fd__law_pick, F__law_pick, a__law_pick⟩ := g__law_pick
  obtain ⟨f__law_nest, fd__law_nest, F__law_nest, a__law_nest⟩ := g__law_nest
  obtain ⟨f__law_order, fd__law_order, F__law_order, a__law_order⟩ := g__law_order
  obtain ⟨f__law_insides, fd__law_insides, F__law_insides, a__law_insides⟩ := g__law_insides
  obtain ⟨f__law_ranks, fd__law_ranks, F__law_ranks, a__law_ranks⟩ := g__law_ranks
  obtain ⟨f__law_least, fd__law_least, F__law_least, a__law_least⟩ := g__law_least
  obtain ⟨f__law_told, fd__law_told, F__law_told, a__law_told⟩ := g__law_told
  obtain ⟨f__law_allowed, fd__law_allowed, F__law_allowed, a__law_allowed⟩ := g__law_allowed
  obtain ⟨f__law_is_vector, fd__law_is_vector, F__law_is_vector, a__law_is_vector⟩ := g__law_is_vector
  obtain ⟨f__law_alike, fd__law_alike, F__law_alike, a__law_alike⟩ := g__law_alike
  refine ⟨PySem.W.fnOf "law" "law" (defArgs s_law) (defBody s_law) (defScope s_law) .none kV2 dc2 pm2 an2 cd2 ct2, fun s v => .of_eq rfl, fun base _ _ => ?_⟩
  have k_is_in : Kd l.prog w K mg base "is_in" 1 ["value", "least", "most"] (spIsIn K) := ⟨f_is_in, fd_is_in, ok_is_in F_is_in B, PySem.W.mg_of X G a_is_in, F_is_in.kp, F_is_in.binds (ps := ["value", "least", "most"]) fun _ _ _ _ _ _ us hl => match us, hl with | [_, _, _], _ => rfl⟩
  have k_need_nest : Kd l.prog w K mg base "need_nest" 2 ["nest"] (spNest K) := ⟨f_need_nest, fd_need_nest, ok_need_nest F_need_nest B k_is_in, PySem.W.mg_of X G a_need_nest, F_need_nest.kp, F_need_nest.binds (ps := ["nest"]) fun _ _ _ _ _ _ us hl => match us, hl with | [_], _ => rfl⟩
  have k_around_in : Kd l.prog w K mg base "around_in" 1 ["nest", "door"] (spAround K) := ⟨f_around_in, fd_around_in, ok_around_in F_around_in, PySem.W.mg_of X G a_around_in, F_around_in.kp, F_around_in.binds (ps := ["nest", "door"]) fun _ _ _ _ _ _ us hl => match us, hl with | [_, _], _ => rfl⟩
  have k_inside_in : Kd l.prog w K mg base "inside_in" 2 ["nest", "door"] (spInside K) := ⟨f_inside_in, fd_inside_in, ok_inside_in F_inside_in B k_around_in, PySem.W.mg_of X G a_inside_in, F_inside_in.kp, F_inside_in.binds (ps := ["nest", "door"]) fun _ _ _ _ _ _ us hl => match us, hl with | [_, _], _ => rfl⟩
  have k_sizes_in : Kd l.prog w K mg base "sizes_in" 1 ["nest"] (spSizes K) := ⟨f_sizes_in, fd_sizes_in, ok_sizes_in F_sizes_in B, PySem.W.mg_of X G a_sizes_in, F_sizes_in.kp, F_sizes_in.binds (ps := ["nest"]) fun _ _ _ _ _ _ us hl => match us, hl with | [_], _ => rfl⟩
  have k_product : Kd l.prog w K mg base "product" 1 ["values"] (spProd K) := ⟨f_product, fd_product, ok_product F_product, PySem.W.mg_of X G a_product, F_product.kp, F_product.binds (ps := ["values"]) fun _ _ _ _ _ _ us hl => match us, hl with | [_], _ => rfl⟩
  have k_mixings_in : Kd l.prog w K mg base "mixings_in" 2 ["nest"] (spMix K) := ⟨f_mixings_in, fd_mixings_in, ok_mixings_in F_mixings_in B k_product k_sizes_in, PySem.W.mg_of X G a_mixings_in, F_mixings_in.kp, F_mixings_in.binds (ps := ["nest"]) fun _ _ _ _ _ _ us hl => match us, hl with | [_], _ => rfl⟩
  have k_is_order : Kd l.prog w K mg base "is_order" 2 ["nest", "value"] (spOrd K) := ⟨f_is_order, fd_is_order, ok_is_order F_is_order B k_is_in, PySem.W.mg_of X G a_is_order, F_is_order.kp, F_is_order.binds (ps := ["nest", "value"]) fun _ _ _ _ _ _ us hl => match us, hl with | [_, _], _ => rfl⟩
  have k_rank_in : Kd l.prog w K mg base "rank_in" 3 ["nest", "order", "door"] (spRank K) := ⟨f_rank_in, fd_rank_in, ok_rank_in F_rank_in B k_inside_in, PySem.W.mg_of X G a_rank_in, F_rank_in.kp, F_rank_in.binds (ps := ["nest", "order", "door"]) fun _ _ _ _ _ _ us hl => match us, hl with | [_, _, _], _ => rfl⟩
  have k_ranks_in : Kd l.prog w K mg base "ranks_in" 4 ["nest", "order"] (spRanks K) := ⟨f_ranks_in, fd_ranks_in, ok_ranks_in F_ranks_in B k_rank_in, PySem.W.mg_of X G a_ranks_in, F_ranks_in.kp, F_ranks_in.binds (ps := ["nest", "order"]) fun _ _ _ _ _ _ us hl => match us, hl with | [_, _], _ => rfl⟩
  have k_allows_in : Kd l.prog w K mg base "allows_in" 5 ["nest", "numbers", "order"] (spAllows K) := ⟨f_allows_in, fd_allows_in, ok_allows_in F_allows_in B k_ranks_in, PySem.W.mg_of X G a_allows_in, F_allows_in.kp, F_allows_in.binds (ps := ["nest", "numbers", "order"]) fun _ _ _ _ _ _ us hl => match us, hl with | [_, _, _], _ => rfl⟩
  have k_count_in : Kd l.prog w K mg base "count_in" 3 ["nest", "state", "door"] (spCnt K) := ⟨f_count_in, fd_count_in, ok_count_in F_count_in B k_inside_in, PySem.W.mg_of X G a_count_in, F_count_in.kp, F_count_in.binds (ps := ["nest", "state", "door"]) fun _ _ _ _ _ _ us hl => match us, hl with | [_, _, _], _ => rfl⟩
  have k_ready_in : Kd l.prog w K mg base "ready_in" 4 ["nest", "numbers", "state"] (spReady K) := ⟨f_ready_in, fd_ready_in, ok_ready_in F_ready_in B k_count_in, PySem.W.mg_of X G a_ready_in, F_ready_in.kp, F_ready_in.binds (ps := ["nest", "numbers", "state"]) fun _ _ _ _ _ _ us hl => match us, hl with | [_, _, _], _ => rfl⟩
  have k_ways_in : Kd l.prog w K mg base "ways_in" 4 ["nest", "numbers", "one", "other"] (spWays K) := ⟨f_ways_in, fd_ways_in, ok_ways_in F_ways_in B k_inside_in k_count_in k_product, PySem.W.mg_of X G a_ways_in, F_ways_in.kp, F_ways_in.binds (ps := ["nest", "numbers", "one", "other"]) fun _ _ _ _ _ _ us hl => match us, hl with | [_, _, _, _], _ => rfl⟩
  have k_everyone : Kd l.prog w K mg base "everyone" 1 ["nest"] (spEvery K) := ⟨f_everyone, fd_everyone, ok_everyone F_everyone B, PySem.W.mg_of X G a_everyone, F_everyone.kp, F_everyone.binds (ps := ["nest"]) fun _ _ _ _ _ _ us hl => match us, hl with | [_], _ => rfl⟩
  have k_ways_behind : Kd l.prog w K mg base "ways_behind" 5 ["nest", "numbers", "begun"] (spBehind K) := ⟨f_ways_behind, fd_ways_behind, ok_ways_behind F_ways_behind B k_ways_in k_everyone, PySem.W.mg_of X G a_ways_behind, F_ways_behind.kp, F_ways_behind.binds (ps := ["nest", "numbers", "begun"]) fun _ _ _ _ _ _ us hl => match us, hl with | [_, _, _], _ => rfl⟩
  have k_choices : Kd l.prog w K mg base "choices" 6 ["nest", "numbers", "begun"] (spChoices K) := ⟨f_choices, fd_choices, ok_choices F_choices B k_ready_in k_ways_behind, PySem.W.mg_of X G a_choices, F_choices.kp, F_choices.binds (ps := ["nest", "numbers", "begun"]) fun _ _ _ _ _ _ us hl => match us, hl with | [_, _, _], _ => rfl⟩
  have k_order_at_in : Kd l.prog w K mg base "order_at_in" 7 ["nest", "numbers", "index"] (spOrderAt K) := ⟨f_order_at_in, fd_order_at_in, ok_order_at_in F_order_at_in B k_choices, PySem.W.mg_of X G a_order_at_in, F_order_at_in.kp, F_order_at_in.binds (ps := ["nest", "numbers", "index"]) fun _ _ _ _ _ _ us hl => match us, hl with | [_, _, _], _ => rfl⟩
  have k_is_told : Kd l.prog w K mg base "is_told" 3 ["nest", "value"] (spTold K (.bool true)) := ⟨f_is_told, fd_is_told, ok_is_told F_is_told B k_is_order, PySem.W.mg_of X G a_is_told, F_is_told.kp, F_is_told.binds (ps := ["nest", "value"]) fun _ _ _ _ _ _ us hl => match us, hl with | [_, _], _ => rfl⟩
  have k_need_told : Kd l.prog w K mg base "need_told" 4 ["nest", "told"] (spTold K .none) := ⟨f_need_told, fd_need_told, ok_need_told F_need_told k_is_told, PySem.W.mg_of X G a_need_told, F_need_told.kp, F_need_told.binds (ps := ["nest", "told"]) fun _ _ _ _ _ _ us hl => match us, hl with | [_, _], _ => rfl⟩
  have k_least_in : Kd l.prog w K mg base "least_in" 5 ["nest", "told"] (spLeast K) := ⟨f_least_in, fd_least_in, ok_least_in F_least_in B k_ranks_in, PySem.W.mg_of X G a_least_in, F_least_in.kp, F_least_in.binds (ps := ["nest", "told"]) fun _ _ _ _ _ _ us hl => match us, hl with | [_, _], _ => rfl⟩
  have k_count_of : Kd l.prog w K mg base "count_of" 6 ["nest", "told"] (spCount K) := ⟨f_count_of, fd_count_of, ok_count_of F_count_of B k_mixings_in k_product k_least_in, PySem.W.mg_of X G a_count_of, F_count_of.kp, F_count_of.binds (ps := ["nest", "told"]) fun _ _ _ _ _ _ us hl => match us, hl with | [_, _], _ => rfl⟩
  have k_told_count : Kd l.prog w K mg base "told_count" 7 ["nest", "told"] (spCount K) := ⟨f_told_count, fd_told_count, ok_told_count F_told_count k_need_nest k_need_told k_count_of, PySem.W.mg_of X G a_told_count, F_told_count.kp, F_told_count.binds (ps := ["nest", "told"]) fun _ _ _ _ _ _ us hl => match us, hl with | [_, _], _ => rfl⟩
  have k_third_order : Kd l.prog w K mg base "third_order" 8 ["nest", "told"] (spThird K) := ⟨f_third_order, fd_third_order, ok_third_order F_third_order B k_need_nest k_need_told k_least_in k_count_of k_order_at_in, PySem.W.mg_of X G a_third_order, F_third_order.kp, F_third_order.binds (ps := ["nest", "told"]) fun _ _ _ _ _ _ us hl => match us, hl with | [_, _], _ => rfl⟩
  have k_shows_third : Kd l.prog w K mg base "shows_third" 7 ["nest", "told", "value"] (spShows K) := ⟨f_shows_third, fd_shows_third, ok_shows_third F_shows_third B k_need_nest k_need_told k_least_in k_count_of k_is_order k_allows_in, PySem.W.mg_of X G a_shows_third, F_shows_third.kp, F_shows_third.binds (ps := ["nest", "told", "value"]) fun _ _ _ _ _ _ us hl => match us, hl with | [_, _, _], _ => rfl⟩
  have k__law_taken : Kd l.prog w K mg base "_law_taken" 1 ["_law_row", "_law_many"] (spTaken K) := ⟨f__law_taken, fd__law_taken, ok__law_taken F__law_taken B, PySem.W.mg_of X G a__law_taken, F__law_taken.kp, F__law_taken.binds (ps := ["_law_row", "_law_many"]) fun _ _ _ _ _ _ us hl => match us, hl with | [_, _], _ => rfl⟩
  have k__law_pick : Kd l.prog w K mg base "_law_pick" 2 ["_law_row", "_law_things"] (spPick K) := ⟨f__law_pick, fd__law_pick, ok__law_pick F__law_pick B k__law_taken, PySem.W.mg_of X G a__law_pick, F__law_pick.kp, F__law_pick.binds (ps := ["_law_row", "_law_things"]) fun _ _ _ _ _ _ us hl => match us, hl with | [_, _], _ => rfl⟩
  have k__law_nest : Kd l.prog w K mg base "_law_nest" 3 ["_law_row", "_law_most"] (spNestL K) := ⟨f__law_nest, fd__law_nest, ok__law_nest F__law_nest B k__law_taken k__law_pick, PySem.W.mg_of X G a__law_nest, F__law_nest.kp, F__law_nest.binds (ps := ["_law_row", "_law_most"]) fun _ _ _ _ _ _ us hl => match us, hl with | [_, _], _ => rfl⟩
  have k__law_order : Kd l.prog w K mg base "_law_order" 2 ["_law_row", "_law_many"] (spOrder K) := ⟨f__law_order, fd__law_order, ok__law_order F__law_order B k__law_taken, PySem.W.mg_of X G a__law_order, F__law_order.kp, F__law_order.binds (ps := ["_law_row", "_law_many"]) fun _ _ _ _ _ _ us hl => match us, hl with | [_, _], _ => rfl⟩
  have k__law_insides : Kd l.prog w K mg base "_law_insides" 1 ["_law_nest_here"] (spInsides K) := ⟨f__law_insides, fd__law_insides, ok__law_insides F__law_insides B, PySem.W.mg_of X G a__law_insides, F__law_insides.kp, F__law_insides.binds (ps := ["_law_nest_here"]) fun _ _ _ _ _ _ us hl => match us, hl with | [_], _ => rfl⟩
  have k__law_ranks : Kd l.prog w K mg base "_law_ranks" 1 ["_law_some", "_law_order_here"] (spRanksL K) := ⟨f__law_ranks, fd__law_ranks, ok__law_ranks F__law_ranks B, PySem.W.mg_of X G a__law_ranks, F__law_ranks.kp, F__law_ranks.binds (ps := ["_law_some", "_law_order_here"]) fun _ _ _ _ _ _ us hl => match us, hl with | [_, _], _ => rfl⟩
  have k__law_least : Kd l.prog w K mg base "_law_least" 2 ["_law_some", "_law_told_here"] (spLeastL K) := ⟨f__law_least, fd__law_least, ok__law_least F__law_least B k__law_ranks, PySem.W.mg_of X G a__law_least, F__law_least.kp, F__law_least.binds (ps := ["_law_some", "_law_told_here"]) fun _ _ _ _ _ _ us hl => match us, hl with | [_, _], _ => rfl⟩
  have k__law_told : Kd l.prog w K mg base "_law_told" 3 ["_law_row", "_law_count", "_law_most"] (spToldL K) := ⟨f__law_told, fd__law_told, ok__law_told F__law_told B k__law_taken k__law_order, PySem.W.mg_of X G a__law_told, F__law_told.kp, F__law_told.binds (ps := ["_law_row", "_law_count", "_law_most"]) fun _ _ _ _ _ _ us hl => match us, hl with | [_, _, _], _ => rfl⟩
  have k__law_allowed : Kd l.prog w K mg base "_law_allowed" 2 ["_law_nest_here", "_law_numbers"] (spAllowed K) := ⟨f__law_allowed, fd__law_allowed, ok__law_allowed F__law_allowed B k__law_insides, PySem.W.mg_of X G a__law_allowed, F__law_allowed.kp, F__law_allowed.binds (ps := ["_law_nest_here", "_law_numbers"]) fun _ _ _ _ _ _ us hl => match us, hl with | [_, _], _ => rfl⟩
  have k__law_is_vector : Kd l.prog w K mg base "_law_is_vector" 1 ["_law_value", "_law_size"] (spVec K) := ⟨f__law_is_vector, fd__law_is_vector, ok__law_is_vector F__law_is_vector B, PySem.W.mg_of X G a__law_is_vector, F__law_is_vector.kp, F__law_is_vector.binds (ps := ["_law_value", "_law_size"]) fun _ _ _ _ _ _ us hl => match us, hl with | [_, _], _ => rfl⟩
  have k__law_alike : Kd l.prog w K mg base "_law_alike" 1 ["_law_found", "_law_due"] (fun _ _ _ _ => False) := ⟨f__law_alike, fd__law_alike, ok_never F__law_alike, PySem.W.mg_of X G a__law_alike, F__law_alike.kp, F__law_alike.binds (ps := ["_law_found", "_law_due"]) fun _ _ _ _ _ _ us hl => match us, hl with | [_, _], _ => rfl⟩
  have k__law_alike : Kd l.prog w K mg base "_law_alike" 2 ["_law_found", "_law_due"] (spAlike K) := ⟨f__law_alike, fd__law_alike, ok__law_alike F__law_alike B k__law_alike, PySem.W.mg_of X G a__law_alike, F__law_alike.kp, F__law_alike.binds (ps := ["_law_found", "_law_due"]) fun _ _ _ _ _ _ us hl => match us, hl with | [_, _], _ => rfl⟩
  exact ok_law F_law B k__law_taken k__law_nest k__law_insides k__law_order k__law_told k__law_allowed k__law_least k__law_is_vector k__law_alike k_third_order k_told_count k_shows_third
end Cd
open PySem PySem.W PyProof.Rows
set_option maxHeartbeats 0 in
theorem PySem.Challenge.cw_countdoors_k35_whole_third_orders_holds : PySem.Challenge.rw_countdoors_k35_whole_third_orders.Holds := by
  w_on; o_law; k_head; (case hw => w_witness2)
  k_fill
  refine L2.walk_of (l := PySem.Challenge.rw_countdoors_k35_whole_third_orders) (n := 63) (k := 9) (x := "_law_script") (CX := fun _ => L2.CX0) (sp := fun w => Cd.spLaw _) rfl (by decide) rfl ⟨rfl, by decide, by decide⟩ (fun w h Y => PySem.W.kIn_of Y) ?F (fun _ _ a ns hl _ hS => ⟨a, ns, rfl, hS, hl, fun _ => rfl⟩) (fun _ _ _ _ _ h => h)
  case F =>
    intro w mg fa h KX G hmg
    refine' Cd.all_mk KX G hmg ?g_is_in ?g_need_nest ?g_around_in ?g_inside_in ?g_sizes_in ?g_product ?g_mixings_in ?g_is_order ?g_rank_in ?g_ranks_in ?g_allows_in ?g_count_in ?g_ready_in ?g_ways_in ?g_everyone ?g_ways_behind ?g_choices ?g_order_at_in ?g_is_told ?g_need_told ?g_least_in ?g_count_of ?g_told_count ?g_third_order ?g_shows_third ?g__law_taken ?g__law_pick ?g__law_nest ?g__law_order ?g__law_insides ?g__law_ranks ?g__law_least ?g__law_told ?g__law_allowed ?g__law_is_vector ?g__law_alike ?a2 ?l2 ?c2 ?k2 ?z_len ?z_range ?z_tuple ?z_list ?z_sorted ?z_set ?z_enumerate ?z_isinstance ?z_min ?z_int ?z_bool ?z_str ?m9 ?m12
    (case g_is_in => refine' Cd.got_mk ?a ?l ?c ?k; (case a => k_is); (case l => k_is); (case c => k_is); (case k => k_is))
    (case g_need_nest => refine' Cd.got_mk ?a ?l ?c ?k; (case a => k_is); (case l => k_is); (case c => k_is); (case k => k_is))
    (case g_around_in => refine' Cd.got_mk ?a ?l ?c ?k; (case a => k_is); (case l => k_is); (case c => k_is); (case k => k_is))
    (case g_inside_in => refine' Cd.got_mk ?a ?l ?c ?k; (case a => k_is); (case l => k_is); (case c => k_is); (case k => k_is))
    (case g_sizes_in => refine' Cd.got_mk ?a ?l ?c ?k; (case a => k_is); (case l => k_is); (case c => k_is); (case k => k_is))
    (case g_product => refine' Cd.got_mk ?a ?l ?c ?k; (case a => k_is); (case l => k_is); (case c => k_is); (case k => k_is))
    (case g_mixings_in => refine' Cd.got_mk ?a ?l ?c ?k; (case a => k_is); (case l => k_is); (case c => k_is); (case k => k_is))
    (case g_is_order => refine' Cd.got_mk ?a ?l ?c ?k; (case a => k_is); (case l => k_is); (case c => k_is); (case k => k_is))
    (case g_rank_in => refine' Cd.got_mk ?a ?l ?c ?k; (case a => k_is); (case l => k_is); (case c => k_is); (case k => k_is))
    (case g_ranks_in => refine' Cd.got_mk ?a ?l ?c ?k; (case a => k_is); (case l => k_is); (case c => k_is); (case k => k_is))
    (case g_allows_in => refine' Cd.got_mk ?a ?l ?c ?k; (case a => k_is); (case l => k_is); (case c => k_is); (case k => k_is))
    (case g_count_in => refine' Cd.got_mk ?a ?l ?c ?k; (case a => k_is); (case l => k_is); (case c => k_is); (case k => k_is))
    (case g_ready_in => refine' Cd.got_mk ?a ?l ?c ?k; (case a => k_is); (case l => k_is); (case c => k_is); (case k => k_is))
    (case g_ways_in => refine' Cd.got_mk ?a ?l ?c ?k; (case a => k_is); (case l => k_is); (case c => k_is); (case k => k_is))
    (case g_everyone => refine' Cd.got_mk ?a ?l ?c ?k; (case a => k_is); (case l => k_is); (case c => k_is); (case k => k_is))
    (case g_ways_behind => refine' Cd.got_mk ?a ?l ?c ?k; (case a => k_is); (case l => k_is); (case c => k_is); (case k => k_is))
    (case g_choices => refine' Cd.got_mk ?a ?l ?c ?k; (case a => k_is); (case l => k_is); (case c => k_is); (case k => k_is))
    (case g_order_at_in => refine' Cd.got_mk ?a ?l ?c ?k; (case a => k_is); (case l => k_is); (case c => k_is); (case k => k_is))
    (case g_is_told => refine' Cd.got_mk ?a ?l ?c ?k; (case a => k_is); (case l => k_is); (case c => k_is); (case k => k_is))
    (case g_need_told => refine' Cd.got_mk ?a ?l ?c ?k; (case a => k_is); (case l => k_is); (case c => k_is); (case k => k_is))
    (case g_least_in => refine' Cd.got_mk ?a ?l ?c ?k; (case a => k_is); (case l => k_is); (case c => k_is); (case k => k_is))
    (case g_count_of => refine' Cd.got_mk ?a ?l ?c ?k; (case a => k_is); (case l => k_is); (case c => k_is); (case k => k_is))
    (case g_told_count => refine' Cd.got_mk ?a ?l ?c ?k; (case a => k_is); (case l => k_is); (case c => k_is); (case k => k_is))
    (case g_third_order => refine' Cd.got_mk ?a ?l ?c ?k; (case a => k_is); (case l => k_is); (case c => k_is); (case k => k_is))
    (case g_shows_third => refine' Cd.got_mk ?a ?l ?c ?k; (case a => k_is); (case l => k_is); (case c => k_is); (case k => k_is))
    (case g__law_taken => refine' Cd.got_mk ?a ?l ?c ?k; (case a => k_is); (case l => k_is); (case c => k_is); (case k => k_is))
    (case g__law_pick => refine' Cd.got_mk ?a ?l ?c ?k; (case a => k_is); (case l => k_is); (case c => k_is); (case k => k_is))
    (case g__law_nest => refine' Cd.got_mk ?a ?l ?c ?k; (case a => k_is); (case l => k_is); (case c => k_is); (case k => k_is))
    (case g__law_order => refine' Cd.got_mk ?a ?l ?c ?k; (case a => k_is); (case l => k_is); (case c => k_is); (case k => k_is))
    (case g__law_insides => refine' Cd.got_mk ?a ?l ?c ?k; (case a => k_is); (case l => k_is); (case c => k_is); (case k => k_is))
    (case g__law_ranks => refine' Cd.got_mk ?a ?l ?c ?k; (case a => k_is); (case l => k_is); (case c => k_is); (case k => k_is))
    (case g__law_least => refine' Cd.got_mk ?a ?l ?c ?k; (case a => k_is); (case l => k_is); (case c => k_is); (case k => k_is))
    (case g__law_told => refine' Cd.got_mk ?a ?l ?c ?k; (case a => k_is); (case l => k_is); (case c => k_is); (case k => k_is))
    (case g__law_allowed => refine' Cd.got_mk ?a ?l ?c ?k; (case a => k_is); (case l => k_is); (case c => k_is); (case k => k_is))
    (case g__law_is_vector => refine' Cd.got_mk ?a ?l ?c ?k; (case a => k_is); (case l => k_is); (case c => k_is); (case k => k_is))
    (case g__law_alike => refine' Cd.got_mk ?a ?l ?c ?k; (case a => k_is); (case l => k_is); (case c => k_is); (case k => k_is))
    (case a2 => k_is)
    (case l2 => k_is)
    (case c2 => k_is)
    (case k2 => k_is)
    (case z_len => k_is)
    (case z_range => k_is)
    (case z_tuple => k_is)
    (case z_list => k_is)
    (case z_sorted => k_is)
    (case z_set => k_is)
    (case z_enumerate => k_is)
    (case z_isinstance => k_is)
    (case z_min => k_is)
    (case z_int => k_is)
    (case z_bool => k_is)
    (case z_str => k_is)
    (case m9 => k_is)
    (case m12 => k_is)

