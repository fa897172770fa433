import PyProof.Rows.All
import Wide.All
import OpenK.AllK
import Wide.FinOn
import HandS.ForMost
import HandS.Codes
import HandS.StrMore
import HandS.IsInst
import HandS.TupAny
import HandS.TupMul
import HandS.WideBits
import HandS.Wide
import HandS.Style
import KE.GoesEnumKw
import HandS.Walk
import PySem.Challenge.RW_countscribe_k14_whole_equal_texts
import HandS.OwnEq
set_option Elab.async false
set_option linter.all false
section
/-! Sparse sums of characters vanish everywhere if they vanish on the cross. Plain Lean. -/
namespace CS

/-- the product of powers -/
def mon : List Nat → List Nat → Int
  | b :: bs, x :: xs => (b : Int) ^ x * mon bs xs
  | _, _ => 1
/-- a sum of characters with coefficients -/
def ev : List (Int × List Nat) → List Nat → Int
  | [], _ => 0
  | t :: ts, x => t.1 * mon t.2 x + ev ts x
/-- the product of the numbers, each increased by one -/
def pr : List Nat → Nat
  | [] => 1
  | x :: xs => (x + 1) * pr xs

theorem pr_pos : ∀ x, 0 < pr x
  | [] => Nat.one_pos
  | _ :: xs => Nat.mul_pos (Nat.succ_pos _) (pr_pos xs)

/-- a sum over pairs of a number and a value -/
def vs : List (Nat × Int) → Nat → Int
  | [], _ => 0
  | t :: ts, i => (t.1 : Int) ^ i * t.2 + vs ts i

theorem vs_step (v0 : Nat) : ∀ (l : List (Nat × Int)) (i : Nat),
    vs (l.map fun t => (t.1, ((t.1 : Int) - v0) * t.2)) i = vs l (i + 1) - v0 * vs l i
  | [], i => by simp [vs]
  | t :: ts, i => by
    simp only [List.map_cons, vs, vs_step v0 ts i]
    grind

theorem vander : ∀ (l : List (Nat × Int)), (l.map (·.1)).Nodup → (∀ i, i < l.length → vs l i = 0) → ∀ t ∈ l, t.2 = 0
  | [], _, _ => by simp
  | (v0, y0) :: r, hn, h => by
    have hn' : v0 ∉ r.map (·.1) ∧ (r.map (·.1)).Nodup := by simpa using hn
    have ih := vander (r.map fun t => (t.1, ((t.1 : Int) - v0) * t.2)) (by simpa [Function.comp_def] using hn'.2) (fun i hi => by
      rw [List.length_map] at hi
      have h1 := h i (by simp; omega)
      have h2 := h (i + 1) (by simp; omega)
      rw [vs_step]
      simp only [vs] at h1 h2
      rw [Int.pow_succ] at h2
      grind)
    have hr : ∀ t ∈ r, t.2 = 0 := fun t ht => by
      have h3 := ih _ (List.mem_map_of_mem ht)
      simp only at h3
      have hne : (t.1 : Int) - v0 ≠ 0 := fun e => hn'.1 (by
        have : t.1 = v0 := by omega
        rw [← this]
        exact List.mem_map_of_mem ht)
      rcases Int.mul_eq_zero.mp h3 with e | e
      · exact absurd e hne
      · exact e
    have hz : vs r 0 = 0 := by
      have : ∀ (l : List (Nat × Int)), (∀ t ∈ l, t.2 = 0) → vs l 0 = 0 := by
        intro l
        induction l with
        | nil => intro _; rfl
        | cons a l ih =>
          intro hl
          simp only [vs]
          rw [hl a (by simp), ih (fun t ht => hl t (by simp [ht]))]
          simp
      exact this r hr
    intro t ht
    rcases List.mem_cons.mp ht with e | e
    · subst e
      have h0 := h 0 (by simp)
      simp only [vs] at h0
      simpa [hz] using h0
    · exact hr t e
termination_by l => l.length
decreasing_by simp

/-- groups: a head and the sum that stands with it -/
def gs : List (Nat × List (Int × List Nat)) → Nat → List Nat → Int
  | [], _, _ => 0
  | t :: ts, i, x => (t.1 : Int) ^ i * ev t.2 x + gs ts i x
def tot : List (Nat × List (Int × List Nat)) → Nat
  | [] => 0
  | t :: ts => t.2.length + tot ts

/-- one more summand is put into its group -/
def ins (v : Nat) (t : Int × List Nat) : List (Nat × List (Int × List Nat)) → List (Nat × List (Int × List Nat))
  | [] => [(v, [t])]
  | g :: r => if g.1 = v then (v, t :: g.2) :: r else g :: ins v t r

theorem ins_gs (v : Nat) (c : Int) (β : List Nat) (i : Nat) (x : List Nat) : ∀ l, gs (ins v (c, β) l) i x = (v : Int) ^ i * (c * mon β x) + gs l i x
  | [] => by simp [ins, gs, ev]
  | g :: r => by
    unfold ins
    split
    · rename_i e
      subst e
      simp only [gs, ev]
      grind
    · simp only [gs, ins_gs v c β i x r]
      grind
theorem ins_tot (v : Nat) (t : Int × List Nat) : ∀ l, tot (ins v t l) = tot l + 1
  | [] => rfl
  | g :: r => by
    unfold ins
    split
    · simp only [tot, List.length_cons]; omega
    · simp only [tot, ins_tot v t r]; omega
theorem ins_keys (v : Nat) (t : Int × List Nat) : ∀ l u, u ∈ (ins v t l).map (·.1) ↔ u = v ∨ u ∈ l.map (·.1)
  | [], u => by simp [ins]
  | g :: r, u => by
    unfold ins
    split
    · rename_i e
      subst e
      simp
    · have := ins_keys v t r u
      simp only [List.map_cons, List.mem_cons, this]
      constructor
      · rintro (h | h | h)
        · exact .inr (.inl h)
        · exact .inl h
        · exact .inr (.inr h)
      · rintro (h | h | h)
        · exact .inr (.inl h)
        · exact .inl h
        · exact .inr (.inr h)
theorem ins_nodup (v : Nat) (t : Int × List Nat) : ∀ l, (l.map (·.1)).Nodup → ((ins v t l).map (·.1)).Nodup
  | [], _ => by simp [ins]
  | g :: r, h => by
    have h' : g.1 ∉ r.map (·.1) ∧ (r.map (·.1)).Nodup := by simpa using h
    unfold ins
    split
    · rename_i e
      subst e
      simpa using h
    · rename_i ne
      rw [List.map_cons, List.nodup_cons]
      refine ⟨fun hm => ?_, ins_nodup v t r h'.2⟩
      rcases (ins_keys v t r g.1).mp hm with e | e
      · exact ne e
      · exact h'.1 e
/-- what holds of all summands within the groups -/
def allG (n : Nat) (l : List (Nat × List (Int × List Nat))) : Prop := ∀ g ∈ l, g.2 ≠ [] ∧ ∀ t ∈ g.2, t.2.length = n
theorem ins_all {n : Nat} (v : Nat) (t : Int × List Nat) (ht : t.2.length = n) : ∀ l, allG n l → allG n (ins v t l)
  | [], _ => by
    intro g hg
    simp only [ins, List.mem_singleton] at hg
    subst hg
    simp [ht]
  | g :: r, h => by
    unfold ins
    split
    · intro g' hg'
      rcases List.mem_cons.mp hg' with e | e
      · subst e
        refine ⟨by simp, fun u hu => ?_⟩
        rcases List.mem_cons.mp hu with e | e
        · rw [e]; exact ht
        · exact (h g (by simp)).2 u e
      · exact h g' (by simp [e])
    · intro g' hg'
      rcases List.mem_cons.mp hg' with e | e
      · subst e; exact h g' (by simp)
      · exact ins_all v t ht r (fun k hk => h k (by simp [hk])) g' e

theorem group (n : Nat) : ∀ ts : List (Int × List Nat), (∀ t ∈ ts, t.2.length = n + 1) →
    ∃ l, (l.map (·.1)).Nodup ∧ tot l = ts.length ∧ allG n l ∧ ∀ i x, ev ts (i :: x) = gs l i x
  | [], _ => ⟨[], by simp, rfl, (fun g hg => nomatch hg), fun _ _ => rfl⟩
  | (c, β) :: ts, h => by
    obtain ⟨l, h1, h2, h3, h4⟩ := group n ts (fun t ht => h t (by simp [ht]))
    have hβ : β.length = n + 1 := h (c, β) (by simp)
    match β, hβ with
    | v :: β', hβ =>
      refine ⟨ins v (c, β') l, ins_nodup v _ l h1, by rw [ins_tot, h2]; rfl, ins_all v (c, β') (by simpa using hβ) l h3, fun i x => ?_⟩
      rw [ins_gs, ← h4]
      simp only [ev, mon]
      grind

/-- one that is least -/
theorem least {α : Type} (f : α → Nat) : ∀ l : List α, l ≠ [] → ∃ l1 a l2, l = l1 ++ a :: l2 ∧ ∀ b ∈ l, f a ≤ f b
  | [a], _ => ⟨[], a, [], rfl, by simp⟩
  | a :: b :: r, _ => by
    obtain ⟨l1, m, l2, e, hm⟩ := least f (b :: r) (by simp)
    by_cases h : f a ≤ f m
    · refine ⟨[], a, b :: r, rfl, fun c hc => ?_⟩
      rcases List.mem_cons.mp hc with e' | e'
      · rw [e']; exact Nat.le_refl _
      · exact Nat.le_trans h (hm c e')
    · refine ⟨a :: l1, m, l2, by rw [e]; rfl, fun c hc => ?_⟩
      rcases List.mem_cons.mp hc with e' | e'
      · rw [e']; omega
      · exact hm c e'

theorem gs_append (i : Nat) (x : List Nat) : ∀ l1 l2, gs (l1 ++ l2) i x = gs l1 i x + gs l2 i x
  | [], _ => by simp [gs]
  | a :: r, l2 => by simp only [List.cons_append, gs, gs_append i x r l2]; omega
theorem tot_append : ∀ l1 l2, tot (l1 ++ l2) = tot l1 + tot l2
  | [], _ => by simp [tot]
  | a :: r, l2 => by simp only [List.cons_append, tot, tot_append r l2]; omega
theorem tot_ge (k : Nat) : ∀ l : List (Nat × List (Int × List Nat)), (∀ g ∈ l, k ≤ g.2.length) → l.length * k ≤ tot l
  | [], _ => by simp
  | a :: r, h => by
    have h1 := tot_ge k r (fun g hg => h g (by simp [hg]))
    have h2 := h a (by simp)
    simp only [List.length_cons, tot, Nat.succ_mul]
    omega
theorem gs_vs (x : List Nat) (i : Nat) : ∀ l, gs l i x = vs (l.map fun g => (g.1, ev g.2 x)) i
  | [] => rfl
  | a :: r => by simp only [gs, List.map_cons, vs, gs_vs x i r]

/-- what vanishes on the cross vanishes -/
theorem sparse : ∀ (n T : Nat) (ts : List (Int × List Nat)), ts.length ≤ T → (∀ t ∈ ts, t.2.length = n) →
    (∀ x, x.length = n → pr x ≤ T → ev ts x = 0) → ∀ x, x.length = n → ev ts x = 0
  | 0, T, ts, hT, _, h, x, hx => by
    cases ts with
    | nil => rfl
    | cons t r => exact h x hx (by
        have : x = [] := List.eq_nil_of_length_eq_zero hx
        subst this
        simp only [pr, List.length_cons] at *
        omega)
  | n + 1, T, ts, hT, hl, h, x, hx => by
    obtain ⟨l, h1, h2, h3, h4⟩ := group n ts hl
    match x, hx with
    | i :: x, hx =>
    have hx' : x.length = n := by simpa using hx
    rw [h4]
    have main : ∀ (m : Nat) (l : List (Nat × List (Int × List Nat))), l.length ≤ m → (l.map (·.1)).Nodup → tot l ≤ T → allG n l →
        (∀ (i : Nat) (x : List Nat), x.length = n → pr (i :: x) ≤ T → gs l i x = 0) → ∀ (i : Nat) (x : List Nat), x.length = n → gs l i x = 0 := by
      intro m
      induction m with
      | zero =>
        intro l hm _ _ _ _ i x _
        have : l = [] := List.eq_nil_of_length_eq_zero (by omega)
        subst this
        rfl
      | succ m ih =>
        intro l hm hn ht ha hv
        by_cases hnil : l = []
        · subst hnil; intros; rfl
        obtain ⟨l1, g, l2, e, hmin⟩ := least (fun g : Nat × List (Int × List Nat) => g.2.length) l hnil
        have hg : g ∈ l := by rw [e]; simp
        have hge : l.length * g.2.length ≤ T := Nat.le_trans (tot_ge _ l hmin) ht
        -- the least group's sum vanishes
        have hzero : ∀ x, x.length = n → ev g.2 x = 0 := sparse n g.2.length g.2 (Nat.le_refl _) (ha g hg).2 (fun x hx hp => by
          have hvan := vander (l.map fun g => (g.1, ev g.2 x)) (by simpa [Function.comp_def] using hn) (fun i hi => by
            rw [List.length_map] at hi
            rw [← gs_vs]
            refine hv i x hx ?_
            simp only [pr]
            exact Nat.le_trans (Nat.mul_le_mul (show i + 1 ≤ l.length by omega) hp) hge)
          exact hvan (g.1, ev g.2 x) (List.mem_map_of_mem (f := fun g : Nat × List (Int × List Nat) => (g.1, ev g.2 x)) hg))
        have heq : ∀ i x, x.length = n → gs l i x = gs (l1 ++ l2) i x := fun i x hx => by
          rw [e, gs_append, gs_append]
          simp only [gs, hzero x hx]
          simp
        have hs : (l1 ++ l2).Sublist l := by
          rw [e]
          exact List.Sublist.append (List.Sublist.refl _) (List.sublist_cons_self _ _)
        intro i x hx
        rw [heq i x hx]
        refine ih (l1 ++ l2) ?_ ?_ ?_ (fun k hk => ha k (hs.subset hk)) (fun i x hx hp => ?_) i x hx
        · have : l.length = (l1 ++ l2).length + 1 := by rw [e]; simp; omega
          omega
        · exact hn.sublist (hs.map _)
        · have : tot l = tot (l1 ++ l2) + g.2.length := by
            rw [e, tot_append, tot_append]
            simp only [tot]; omega
          omega
        · rw [← heq i x hx]
          exact hv i x hx hp
    exact main l.length l (Nat.le_refl _) h1 (by omega) h3 (fun i x hx hp => by
      rw [← h4]
      exact h (i :: x) (by simp [hx]) hp) i x hx'
termination_by n => n
end CS
end
section
/-! Two lists of pieces that write the same on the cross write the same everywhere. Plain Lean. -/
namespace CS

abbrev Word := List Nat
abbrev Piece := Word × List Nat
def dot : List Nat → List Nat → Nat
  | a :: s, b :: t => a * b + dot s t
  | _, _ => 0
/-- a form's value at a point -/
def fval : List Nat → List Nat → Nat
  | [], _ => 0
  | c :: t, x => c + dot t x
/-- a word taken a number of times -/
def rep (n : Nat) (w : Word) : Word := (List.replicate n w).flatten
/-- what pieces write at a point -/
def wr : List Piece → List Nat → Word
  | [], _ => []
  | p :: r, x => rep (fval p.2 x) p.1 ++ wr r x
def isOpen (f : List Nat) : Bool := decide (0 < f.tail.sum)
def opens : List Piece → Nat
  | [] => 0
  | p :: r => (if isOpen p.2 then 1 else 0) + opens r

theorem rep_zero (w : Word) : rep 0 w = [] := rfl
theorem rep_succ (n : Nat) (w : Word) : rep (n + 1) w = w ++ rep n w := by simp [rep, List.replicate_succ]
theorem rep_nil : ∀ n, rep n ([] : Word) = []
  | 0 => rfl
  | n + 1 => by rw [rep_succ, rep_nil n]; rfl
theorem rep_add : ∀ (m n : Nat) (w : Word), rep (m + n) w = rep m w ++ rep n w
  | 0, n, w => by simp [rep_zero]
  | m + 1, n, w => by rw [show m + 1 + n = (m + n) + 1 by omega, rep_succ, rep_succ, rep_add m n w, List.append_assoc]
theorem rep_len : ∀ (n : Nat) (w : Word), (rep n w).length = n * w.length
  | 0, _ => by simp [rep_zero]
  | n + 1, w => by rw [rep_succ, List.length_append, rep_len n w, Nat.succ_mul]; omega
theorem rep_one (w : Word) : rep 1 w = w := by rw [rep_succ, rep_zero, List.append_nil]
theorem rep_mul : ∀ (m n : Nat) (w : Word), rep m (rep n w) = rep (m * n) w
  | 0, n, w => by rw [Nat.zero_mul, rep_zero, rep_zero]
  | m + 1, n, w => by rw [rep_succ, rep_mul m n w, Nat.succ_mul, Nat.add_comm, rep_add]

theorem wr_append : ∀ (a b : List Piece) (x : List Nat), wr (a ++ b) x = wr a x ++ wr b x
  | [], _, _ => rfl
  | p :: r, b, x => by simp only [List.cons_append, wr, wr_append r b x, List.append_assoc]

/-- a word as a number -/
def val : Word → Nat
  | [] => 0
  | c :: w => c + 128 * val w
theorem val_append : ∀ u v : Word, val (u ++ v) = val u + 128 ^ u.length * val v
  | [], v => by simp [val]
  | c :: u, v => by
    simp only [List.cons_append, val, val_append u v, List.length_cons, Nat.pow_succ]
    grind
def Letters (w : Word) : Prop := ∀ c ∈ w, 0 < c ∧ c < 128
theorem val_inj : ∀ u v : Word, Letters u → Letters v → val u = val v → u = v
  | [], [], _, _, _ => rfl
  | [], d :: v, _, hv, e => by
    have := hv d (by simp)
    simp only [val] at e
    omega
  | c :: u, [], hu, _, e => by
    have := hu c (by simp)
    simp only [val] at e
    omega
  | c :: u, d :: v, hu, hv, e => by
    have h1 := hu c (by simp)
    have h2 := hv d (by simp)
    simp only [val] at e
    have e1 : c = d := by omega
    have e2 : val u = val v := by omega
    rw [e1, val_inj u v (fun x hx => hu x (by simp [hx])) (fun x hx => hv x (by simp [hx])) e2]
theorem val_rep (w : Word) : ∀ n, ((128 : Int) ^ w.length - 1) * val (rep n w) = val w * ((128 : Int) ^ (w.length * n) - 1)
  | 0 => by simp [rep_zero, val]
  | n + 1 => by
    have ih := val_rep w n
    rw [rep_succ, val_append, Nat.mul_succ, Int.pow_add]
    have e : ((val w + 128 ^ w.length * val (rep n w) : Nat) : Int) = (val w : Int) + (128 : Int) ^ w.length * (val (rep n w) : Int) := by
      rw [Int.natCast_add, Int.natCast_mul, Int.natCast_pow]; rfl
    rw [e]
    grind

theorem mon_nil (x : List Nat) : mon [] x = 1 := by simp [mon]
theorem mon_mul : ∀ (a b x : List Nat), a.length = b.length → mon (List.zipWith (· * ·) a b) x = mon a x * mon b x
  | [], [], x, _ => by simp [mon]
  | p :: a, q :: b, [], _ => by simp [mon]
  | p :: a, q :: b, y :: x, h => by
    simp only [List.zipWith_cons_cons, mon, mon_mul a b x (by simpa using h)]
    rw [Int.natCast_mul, Int.mul_pow]
    grind
/-- the character of a form -/
theorem mon_form (L : Nat) : ∀ (t x : List Nat), t.length = x.length → mon (t.map fun a => 128 ^ (L * a)) x = (128 : Int) ^ (L * dot t x)
  | [], [], _ => by simp [mon, dot]
  | a :: t, y :: x, h => by
    simp only [List.map_cons, mon, dot, mon_form L t x (by simpa using h)]
    rw [Int.natCast_pow, ← Int.pow_mul, Nat.mul_add, Int.pow_add, Nat.mul_assoc]
    rfl

theorem ev_map (k : Int) (β : List Nat) (x : List Nat) : ∀ ts : List (Int × List Nat), (∀ t ∈ ts, t.2.length = β.length) →
    ev (ts.map fun t => (k * t.1, List.zipWith (· * ·) β t.2)) x = k * mon β x * ev ts x
  | [], _ => by simp [ev]
  | t :: ts, h => by
    simp only [List.map_cons, ev, ev_map k β x ts (fun u hu => h u (by simp [hu])), mon_mul β t.2 x (h t (by simp)).symm]
    grind
theorem ev_scale (k : Int) (x : List Nat) : ∀ ts : List (Int × List Nat), ev (ts.map fun t => (k * t.1, t.2)) x = k * ev ts x
  | [] => by simp [ev]
  | t :: ts => by
    simp only [List.map_cons, ev, ev_scale k x ts]
    grind
theorem ev_append (x : List Nat) : ∀ a b : List (Int × List Nat), ev (a ++ b) x = ev a x + ev b x
  | [], _ => by simp [ev]
  | t :: a, b => by simp only [List.cons_append, ev, ev_append x a b]; omega

theorem dot_zero : ∀ (t x : List Nat), t.sum = 0 → dot t x = 0
  | [], _, _ => by simp [dot]
  | a :: t, [], _ => by simp [dot]
  | a :: t, y :: x, h => by
    have h' : a + t.sum = 0 := by simpa using h
    have h1 : a = 0 := by omega
    have h2 : t.sum = 0 := by omega
    simp [dot, h1, dot_zero t x h2]

/-- the number of what is written, taken a number of times, is a sum of characters: as many as powers, and a constant -/
theorem repn (m : Nat) : ∀ ps : List Piece, (∀ p ∈ ps, p.2.length = m + 1) →
    ∃ (D c0 : Int) (ts : List (Int × List Nat)), 0 < D ∧ ts.length ≤ opens ps ∧ (∀ t ∈ ts, t.2.length = m) ∧
      ∀ x : List Nat, x.length = m → D * val (wr ps x) = c0 + ev ts x
  | [], _ => ⟨1, 0, [], by decide, Nat.le_refl _, (fun t ht => nomatch ht), fun x _ => by simp [wr, val, ev]⟩
  | (w, f) :: r, h => by
    obtain ⟨D, c0, ts, hD, hl, hm, he⟩ := repn m r (fun p hp => h p (by simp [hp]))
    have hf : f.length = m + 1 := h (w, f) (by simp)
    match f, hf with
    | c :: t, hf =>
    have ht : t.length = m := by simpa using hf
    by_cases hw : w = []
    · subst hw
      refine ⟨D, c0, ts, hD, ?_, hm, fun x hx => ?_⟩
      · simp only [opens]; split <;> omega
      · simp only [wr, rep_nil, List.nil_append]
        exact he x hx
    have hL : 0 < w.length := List.length_pos_iff.mpr hw
    have vc : ∀ x : List Nat, (val (wr ((w, c :: t) :: r) x) : Int) = val (rep (c + dot t x) w) + (128 : Int) ^ (w.length * (c + dot t x)) * val (wr r x) := fun x => by
      simp only [wr, fval]
      rw [val_append, rep_len, Int.natCast_add, Int.natCast_mul, Int.natCast_pow, Nat.mul_comm]
      rfl
    by_cases ho : isOpen (c :: t) = true
    · have hE : (1 : Int) < (128 : Int) ^ w.length := by
        have h1 : 1 < 128 ^ w.length := Nat.one_lt_pow (by omega) (by decide)
        have h2 : ((128 ^ w.length : Nat) : Int) = (128 : Int) ^ w.length := by rw [Int.natCast_pow]; rfl
        omega
      generalize hEE : (128 : Int) ^ w.length - 1 = E at *
      have hE0 : 0 < E := by omega
      let β := t.map fun a => 128 ^ (w.length * a)
      have hβ : β.length = m := by simp [β, ht]
      refine ⟨E * D, - (D * val w), ((128 : Int) ^ (w.length * c) * (D * val w + E * c0), β) :: ts.map (fun u => ((128 : Int) ^ (w.length * c) * E * u.1, List.zipWith (· * ·) β u.2)), Int.mul_pos hE0 hD, ?_, ?_, fun x hx => ?_⟩
      · simp only [opens, ho, if_true, List.length_cons, List.length_map]; omega
      · intro u hu
        rcases List.mem_cons.mp hu with e | e
        · subst e; exact hβ
        · obtain ⟨u', hu', rfl⟩ := List.mem_map.mp e
          simp [hβ, hm u' hu']
      · have hmon : mon β x = (128 : Int) ^ (w.length * dot t x) := mon_form w.length t x (by omega)
        simp only [ev]
        rw [ev_map _ _ _ ts (fun u hu => by rw [hm u hu, hβ]), hmon, vc]
        have h1 := val_rep w (c + dot t x)
        rw [hEE] at h1
        have h2 := he x hx
        rw [Nat.mul_add, Int.pow_add] at *
        generalize (128 : Int) ^ (w.length * c) = A at *
        generalize (128 : Int) ^ (w.length * dot t x) = Z at *
        generalize ((val (rep (c + dot t x) w) : Nat) : Int) = V at *
        generalize ((val (wr r x) : Nat) : Int) = R at *
        generalize ((val w : Nat) : Int) = W at *
        generalize ev ts x = S at *
        have : E * D * (V + A * Z * R) = D * (E * V) + A * Z * E * (D * R) := by grind
        rw [this, h1, h2]
        grind
    · have hz : t.sum = 0 := by
        have h0 : ¬ 0 < t.sum := fun z => ho (by unfold isOpen; exact decide_eq_true z)
        omega
      refine ⟨D, D * val (rep c w) + (128 : Int) ^ (w.length * c) * c0, ts.map (fun u => ((128 : Int) ^ (w.length * c) * u.1, u.2)), hD, ?_, ?_, fun x hx => ?_⟩
      · simp only [opens, List.length_map]; omega
      · intro u hu
        obtain ⟨u', hu', rfl⟩ := List.mem_map.mp hu
        exact hm u' hu'
      · rw [vc, dot_zero t x hz, Nat.add_zero, ev_scale]
        have h2 := he x hx
        grind

theorem rep_mem {c : Nat} {w : Word} : ∀ n, c ∈ rep n w → c ∈ w
  | 0, h => by simp [rep_zero] at h
  | n + 1, h => by
    rw [rep_succ] at h
    rcases List.mem_append.mp h with e | e
    · exact e
    · exact rep_mem n e
theorem wr_letters : ∀ (ps : List Piece) (x : List Nat), (∀ p ∈ ps, Letters p.1) → Letters (wr ps x)
  | [], _, _ => fun c hc => by simp [wr] at hc
  | p :: r, x, h => fun c hc => by
    simp only [wr] at hc
    rcases List.mem_append.mp hc with e | e
    · exact h p (by simp) c (rep_mem _ e)
    · exact wr_letters r x (fun q hq => h q (by simp [hq])) c e

/-- THE CROSS: what agrees there agrees everywhere -/
theorem cross (m : Nat) (ps qs : List Piece) (hp : ∀ p ∈ ps, Letters p.1 ∧ p.2.length = m + 1) (hq : ∀ p ∈ qs, Letters p.1 ∧ p.2.length = m + 1)
    (h : ∀ x : List Nat, x.length = m → pr x ≤ 1 + opens ps + opens qs → wr ps x = wr qs x) : ∀ x : List Nat, x.length = m → wr ps x = wr qs x := by
  obtain ⟨D, c0, ts, hD, hl, hm, he⟩ := repn m ps (fun p h => (hp p h).2)
  obtain ⟨D', c0', ts', hD', hl', hm', he'⟩ := repn m qs (fun p h => (hq p h).2)
  let us : List (Int × List Nat) := (D' * c0 - D * c0', List.replicate m 1) :: ((ts.map fun t => (D' * t.1, t.2)) ++ ts'.map fun t => (-D * t.1, t.2))
  have mon1 : ∀ (m : Nat) (x : List Nat), mon (List.replicate m 1) x = 1 := by
    intro m
    induction m with
    | zero => intro x; simp [mon]
    | succ m ih =>
      intro x
      cases x with
      | nil => simp [mon, List.replicate_succ]
      | cons a x => simp [mon, List.replicate_succ, ih, Int.one_pow]
  have hev : ∀ x : List Nat, x.length = m → ev us x = D * D' * ((val (wr ps x) : Int) - val (wr qs x)) := fun x hx => by
    simp only [us, ev]
    rw [ev_append, ev_scale, ev_scale, mon1]
    have h1 := he x hx
    have h2 := he' x hx
    grind
  have hall := sparse m (1 + opens ps + opens qs) us (by simp only [us, List.length_cons, List.length_append, List.length_map]; omega)
    (fun t ht => by
      rcases List.mem_cons.mp ht with e | e
      · subst e; simp
      · rcases List.mem_append.mp e with e | e
        · obtain ⟨u, hu, rfl⟩ := List.mem_map.mp e
          exact hm u hu
        · obtain ⟨u, hu, rfl⟩ := List.mem_map.mp e
          exact hm' u hu)
    (fun x hx hpr => by rw [hev x hx, h x hx hpr]; simp)
  intro x hx
  refine val_inj _ _ (wr_letters ps x fun p h => (hp p h).1) (wr_letters qs x fun p h => (hq p h).1) ?_
  have h0 := hall x hx
  rw [hev x hx] at h0
  have hDD : D * D' ≠ 0 := by
    have := Int.mul_pos hD hD'
    omega
  rcases Int.mul_eq_zero.mp h0 with e | e
  · exact absurd e hDD
  · omega
end CS
end
section
/-! Words taken without end, words that are no shorter word taken several times, borders and the shortest period. Plain Lean. -/
namespace CS

/-- the letter with a number of a word taken without end -/
def per (w : Word) (i : Nat) : Nat := w.getD (i % w.length) 0
theorem per_lt {w : Word} {i : Nat} (h : i < w.length) : per w i = w.getD i 0 := by unfold per; rw [Nat.mod_eq_of_lt h]
theorem per_add (w : Word) (i : Nat) : per w (i + w.length) = per w i := by unfold per; rw [Nat.add_mod_right]
theorem per_add_mul (w : Word) (i k : Nat) : per w (i + w.length * k) = per w i := by unfold per; rw [Nat.add_mul_mod_self_left]
theorem per_mod (w : Word) (i : Nat) : per w (i % w.length) = per w i := by unfold per; rw [Nat.mod_mod]

theorem getD_append_left {u v : Word} {i : Nat} (h : i < u.length) : (u ++ v).getD i 0 = u.getD i 0 := by
  simp only [List.getD_eq_getElem?_getD, List.getElem?_append_left h]
theorem getD_append_right {u v : Word} {i : Nat} (h : u.length ≤ i) : (u ++ v).getD i 0 = v.getD (i - u.length) 0 := by
  simp only [List.getD_eq_getElem?_getD, List.getElem?_append_right h]
theorem getD_take {u : Word} {n i : Nat} (h : i < n) : (u.take n).getD i 0 = u.getD i 0 := by
  simp only [List.getD_eq_getElem?_getD, List.getElem?_take, h, if_true]
theorem getD_drop {u : Word} {n i : Nat} : (u.drop n).getD i 0 = u.getD (n + i) 0 := by
  simp only [List.getD_eq_getElem?_getD, List.getElem?_drop]
theorem ext_getD {u v : Word} (hl : u.length = v.length) (h : ∀ i, i < u.length → u.getD i 0 = v.getD i 0) : u = v := by
  apply List.ext_getElem hl
  intro i h1 h2
  have := h i h1
  simpa [List.getD_eq_getElem?_getD, List.getElem?_eq_getElem h1, List.getElem?_eq_getElem h2] using this

theorem rep_getD : ∀ (n : Nat) (w : Word) (i : Nat), i < n * w.length → (rep n w).getD i 0 = per w i
  | 0, w, i, h => by omega
  | n + 1, w, i, h => by
    rw [rep_succ]
    rw [Nat.succ_mul] at h
    by_cases hi : i < w.length
    · rw [getD_append_left hi, per_lt hi]
    · rw [getD_append_right (by omega), rep_getD n w _ (by omega), ← per_add w (i - w.length)]
      congr 1
      omega

/-- no shorter word taken several times -/
def Prim (w : Word) : Prop := w ≠ [] ∧ ∀ p, 0 < p → (∀ i, per w (i + p) = per w i) → w.length ≤ p
theorem Prim.pos {w : Word} (h : Prim w) : 0 < w.length := List.length_pos_iff.mpr h.1
theorem prim_eq {w z : Word} (hw : Prim w) (hz : Prim z) (h : ∀ i, per w i = per z i) : w = z := by
  have h1 : w.length ≤ z.length := hw.2 _ hz.pos fun i => by rw [h, h, per_add]
  have h2 : z.length ≤ w.length := hz.2 _ hw.pos fun i => by rw [← h, ← h, per_add]
  have hl : w.length = z.length := by omega
  refine ext_getD hl fun i hi => ?_
  rw [← per_lt hi, h, per_lt (by omega)]

/-- turned: the letters from a place on, and behind them those ahead of it -/
def rot (at_ : Nat) (w : Word) : Word := w.drop at_ ++ w.take at_
theorem rot_len (a : Nat) (w : Word) : (rot a w).length = w.length := by
  simp only [rot, List.length_append, List.length_drop, List.length_take]; omega
theorem per_rot {a : Nat} {w : Word} (ha : a ≤ w.length) (hw : w ≠ []) (i : Nat) : per (rot a w) i = per w (i + a) := by
  have hpos : 0 < w.length := List.length_pos_iff.mpr hw
  rw [← per_mod (rot a w), ← per_mod w (i + a), rot_len]
  have hj : i % w.length < w.length := Nat.mod_lt _ hpos
  have e : (i + a) % w.length = (i % w.length + a) % w.length := by rw [Nat.mod_add_mod]
  rw [e]
  generalize i % w.length = j at *
  rw [per_lt (by rw [rot_len]; exact hj)]
  unfold rot
  by_cases hc : j < w.length - a
  · rw [getD_append_left (by rw [List.length_drop]; exact hc), getD_drop, Nat.mod_eq_of_lt (by omega), per_lt (by omega), Nat.add_comm]
  · rw [getD_append_right (by rw [List.length_drop]; omega), List.length_drop, getD_take (by omega)]
    have e2 : (j + a) % w.length = j + a - w.length := by
      rw [Nat.mod_eq_sub_mod (by omega), Nat.mod_eq_of_lt (by omega)]
    rw [e2, per_lt (by omega)]
    congr 1
    omega
theorem Prim.rot {w : Word} (h : Prim w) {a : Nat} (ha : a ≤ w.length) : Prim (rot a w) := by
  have hpos := h.pos
  refine ⟨fun e => ?_, fun p hp hper => ?_⟩
  · have := rot_len a w
    rw [e] at this
    simp at this
    omega
  · rw [rot_len]
    refine h.2 p hp fun i => ?_
    have h1 := hper (i + (w.length - 1) * a)
    rw [per_rot ha h.1, per_rot ha h.1] at h1
    have ea : a ≤ w.length * a := Nat.le_mul_of_pos_left a hpos
    have e0 : (w.length - 1) * a + a = w.length * a := by
      rw [Nat.sub_one_mul]; omega
    have e1 : i + (w.length - 1) * a + p + a = i + p + w.length * a := by omega
    have e2 : i + (w.length - 1) * a + a = i + w.length * a := by omega
    rw [e1, e2, per_add_mul, per_add_mul] at h1
    exact h1

/-! ### periods of a word -/
def IsPer (w : Word) (p : Nat) : Prop := ∀ i, i + p < w.length → w.getD (i + p) 0 = w.getD i 0
/-- two periods that together are no longer than the word: their greatest common divisor is one -/
theorem fine_wilf (w : Word) : ∀ (n p q : Nat), p + q ≤ n → 0 < p → 0 < q → p + q ≤ w.length → IsPer w p → IsPer w q → IsPer w (Nat.gcd p q)
  | 0, p, q, h, hp, _, _, _, _ => by omega
  | n + 1, p, q, h, hp, hq, hl, h1, h2 => by
    rcases Nat.lt_trichotomy p q with c | c | c
    · have hs : IsPer w (q - p) := fun i hi => by
        by_cases hip : p ≤ i
        · have a1 := h1 (i - p) (by omega)
          have a2 := h2 (i - p) (by omega)
          rw [show i - p + p = i by omega] at a1
          rw [show i - p + q = i + (q - p) by omega] at a2
          rw [a1, a2]
        · have a1 := h1 (i + (q - p)) (by omega)
          have a2 := h2 i (by omega)
          rw [show i + (q - p) + p = i + q by omega] at a1
          rw [← a1, a2]
      have := fine_wilf w n p (q - p) (by omega) hp (by omega) (by omega) h1 hs
      rwa [Nat.gcd_sub_self_right (by omega)] at this
    · subst c
      rwa [Nat.gcd_self]
    · have hs : IsPer w (p - q) := fun i hi => by
        by_cases hip : q ≤ i
        · have a1 := h2 (i - q) (by omega)
          have a2 := h1 (i - q) (by omega)
          rw [show i - q + q = i by omega] at a1
          rw [show i - q + p = i + (p - q) by omega] at a2
          rw [a1, a2]
        · have a1 := h2 (i + (p - q)) (by omega)
          have a2 := h1 i (by omega)
          rw [show i + (p - q) + q = i + p by omega] at a1
          rw [← a1, a2]
      have := fine_wilf w n (p - q) q (by omega) (by omega) hq (by omega) hs h2
      rwa [Nat.gcd_sub_self_left (by omega)] at this
theorem IsPer.mul {w : Word} {p : Nat} (h : IsPer w p) : ∀ (k i : Nat), i + k * p < w.length → w.getD (i + k * p) 0 = w.getD i 0
  | 0, i, _ => by simp
  | k + 1, i, hi => by
    rw [Nat.succ_mul] at *
    have := h (i + k * p) (by omega)
    rw [← Nat.add_assoc, this]
    exact IsPer.mul h k i (by omega)
theorem IsPer.mod {w : Word} {p : Nat} (h : IsPer w p) (i : Nat) (hi : i < w.length) : w.getD i 0 = w.getD (i % p) 0 := by
  have e := Nat.mod_add_div i p
  have := h.mul (i / p) (i % p) (by rw [Nat.mul_comm]; omega)
  rw [Nat.mul_comm, e] at this
  exact this
/-- a period that divides the length: the word is its beginning, taken several times -/
theorem IsPer.split {w : Word} {p : Nat} (h : IsPer w p) (hp : 0 < p) (hd : w.length % p = 0) (hw : w ≠ []) : w = rep (w.length / p) (w.take p) := by
  have hpos : 0 < w.length := List.length_pos_iff.mpr hw
  have hle : p ≤ w.length := Nat.le_of_dvd hpos (Nat.dvd_of_mod_eq_zero hd)
  have hlen : (w.take p).length = p := by rw [List.length_take]; omega
  have hmul : w.length / p * p = w.length := Nat.div_mul_cancel (Nat.dvd_of_mod_eq_zero hd)
  refine ext_getD ?_ fun i hi => ?_
  · rw [rep_len, hlen, hmul]
  · rw [rep_getD _ _ _ (by rw [hlen, hmul]; exact hi)]
    unfold per
    rw [hlen, getD_take (Nat.mod_lt _ hp)]
    exact h.mod i hi
theorem isPer_of_per {w : Word} {q : Nat} (h : ∀ i, per w (i + q) = per w i) : IsPer w q := fun i hi => by
  have := h i
  rwa [per_lt hi, per_lt (by omega)] at this
theorem per_take {w : Word} {p : Nat} (h : IsPer w p) (hp : 0 < p) (hd : w.length % p = 0) (hw : w ≠ []) (i : Nat) : per (w.take p) i = per w i := by
  have hpos : 0 < w.length := List.length_pos_iff.mpr hw
  have hle : p ≤ w.length := Nat.le_of_dvd hpos (Nat.dvd_of_mod_eq_zero hd)
  have hlen : (w.take p).length = p := by rw [List.length_take]; omega
  unfold per
  rw [hlen, getD_take (Nat.mod_lt _ hp), h.mod (i % w.length) (Nat.mod_lt _ hpos), Nat.mod_mod_of_dvd _ (Nat.dvd_of_mod_eq_zero hd)]
/-- the least period -/
def LeastPer (w : Word) (p : Nat) : Prop := 0 < p ∧ p ≤ w.length ∧ IsPer w p ∧ ∀ q, 0 < q → IsPer w q → p ≤ q
theorem LeastPer.ne {w : Word} {p : Nat} (h : LeastPer w p) : w ≠ [] := by
  intro e
  have h1 := h.1
  have h2 := h.2.1
  rw [e] at h2
  simp at h2
  omega
theorem LeastPer.take {w : Word} {p : Nat} (h : LeastPer w p) (hd : w.length % p = 0) : Prim (w.take p) := by
  obtain ⟨hp, hle, hper, hleast⟩ := id h
  have hlen : (w.take p).length = p := by rw [List.length_take]; omega
  refine ⟨fun e => by rw [e] at hlen; simp at hlen; omega, fun q hq hqq => ?_⟩
  rw [hlen]
  refine hleast q hq (isPer_of_per fun i => ?_)
  have := hqq i
  rwa [per_take hper hp hd h.ne, per_take hper hp hd h.ne] at this
def PerI (f : Nat → Nat) (p : Nat) : Prop := ∀ i, f (i + p) = f i
theorem PerI.gcd (f : Nat → Nat) : ∀ (n p q : Nat), p + q ≤ n → PerI f p → PerI f q → PerI f (Nat.gcd p q)
  | 0, p, q, h, h1, h2 => by
    have e1 : p = 0 := by omega
    have e2 : q = 0 := by omega
    subst e1; subst e2
    exact h1
  | n + 1, p, q, h, h1, h2 => by
    by_cases hp : p = 0
    · subst hp; rwa [Nat.gcd_zero_left]
    by_cases hq : q = 0
    · subst hq; rwa [Nat.gcd_zero_right]
    by_cases c : p ≤ q
    · have hs : PerI f (q - p) := fun i => by
        have a1 := h1 (i + (q - p))
        have a2 := h2 i
        rw [show i + (q - p) + p = i + q by omega] at a1
        rw [← a1, a2]
      have := PerI.gcd f n p (q - p) (by omega) h1 hs
      rwa [Nat.gcd_sub_self_right (by omega)] at this
    · have hs : PerI f (p - q) := fun i => by
        have a1 := h2 (i + (p - q))
        have a2 := h1 i
        rw [show i + (p - q) + q = i + p by omega] at a1
        rw [← a1, a2]
      have := PerI.gcd f n (p - q) q (by omega) hs h2
      rwa [Nat.gcd_sub_self_left (by omega)] at this
theorem LeastPer.self {w : Word} {p : Nat} (h : LeastPer w p) (hd : w.length % p ≠ 0) : Prim w := by
  obtain ⟨hp, hle, hper, hleast⟩ := id h
  have hpos : 0 < w.length := by omega
  refine ⟨h.ne, fun q hq hqq => ?_⟩
  by_cases c : w.length ≤ q
  · exact c
  exfalso
  have hd1 : PerI (per w) (Nat.gcd q w.length) := PerI.gcd _ _ _ _ (Nat.le_refl _) hqq (per_add w)
  have hdp : IsPer w (Nat.gcd q w.length) := isPer_of_per hd1
  have hd0 : 0 < Nat.gcd q w.length := Nat.gcd_pos_of_pos_left _ hq
  have hdq : Nat.gcd q w.length ≤ q := Nat.gcd_le_left _ hq
  have hdv : Nat.gcd q w.length ∣ w.length := Nat.gcd_dvd_right _ _
  generalize Nat.gcd q w.length = d at *
  have h2d : 2 * d ≤ w.length := by
    obtain ⟨k, hk⟩ := hdv
    have : 2 ≤ k := by
      rcases k with _ | _ | k
      · omega
      · omega
      · omega
    rw [hk, Nat.mul_comm]
    exact Nat.mul_le_mul_left d this
  have hpd := hleast d hd0 hdp
  have hg := hleast _ (Nat.gcd_pos_of_pos_left _ hp) (fine_wilf w _ p d (Nat.le_refl _) hp hd0 (by omega) hper hdp)
  have hge : Nat.gcd p d = p := Nat.le_antisymm (Nat.gcd_le_left _ hp) hg
  have hpd' : p ∣ d := by
    rw [← hge]
    exact Nat.gcd_dvd_right _ _
  exact hd (Nat.mod_eq_zero_of_dvd (Nat.dvd_trans hpd' hdv))

/-! ### borders -/
/-- the first k letters begin and end with the same m letters -/
def Bord (w : Word) (k m : Nat) : Prop := m ≤ k ∧ ∀ i, i < m → w.getD i 0 = w.getD (k - m + i) 0
/-- m is the greatest number below k of which this is so -/
def LB (w : Word) (k m : Nat) : Prop := m < k ∧ Bord w k m ∧ ∀ m', m' < k → Bord w k m' → m' ≤ m
theorem bord_zero (w : Word) (k : Nat) : Bord w k 0 := ⟨Nat.zero_le _, fun i h => by omega⟩
theorem LB.one (w : Word) : LB w 1 0 := ⟨by omega, bord_zero w 1, fun m' h _ => by omega⟩
theorem bord_succ {w : Word} {k m : Nat} (h : Bord w (k + 1) (m + 1)) : Bord w k m ∧ w.getD m 0 = w.getD k 0 := by
  obtain ⟨h1, h2⟩ := h
  refine ⟨⟨by omega, fun i hi => ?_⟩, ?_⟩
  · have := h2 i (by omega)
    rwa [show k + 1 - (m + 1) = k - m by omega] at this
  · have := h2 m (by omega)
    rwa [show k + 1 - (m + 1) + m = k by omega] at this
theorem bord_succ' {w : Word} {k m : Nat} (h : Bord w k m) (e : w.getD m 0 = w.getD k 0) : Bord w (k + 1) (m + 1) := by
  obtain ⟨h1, h2⟩ := h
  refine ⟨by omega, fun i hi => ?_⟩
  rw [show k + 1 - (m + 1) = k - m by omega]
  by_cases c : i < m
  · exact h2 i c
  · have : i = m := by omega
    subst this
    rw [show k - i + i = k by omega]
    exact e
/-- a border of a border -/
theorem bord_in {w : Word} {k m m' : Nat} (h : Bord w k m) (h' : Bord w k m') (c : m' ≤ m) : Bord w m m' := by
  refine ⟨c, fun i hi => ?_⟩
  rw [h'.2 i hi]
  have := h.2 (m - m' + i) (by omega)
  rw [this]
  congr 1
  have := h.1
  omega
theorem bord_trans {w : Word} {k m m' : Nat} (h : Bord w k m) (h' : Bord w m m') : Bord w k m' := by
  have c1 := h.1
  have c2 := h'.1
  refine ⟨by omega, fun i hi => ?_⟩
  rw [h'.2 i hi]
  have := h.2 (m - m' + i) (by omega)
  rw [this]
  congr 1
  omega
/-- what stands while the borders are descended -/
def Desc (w : Word) (k m : Nat) : Prop := m < k ∧ Bord w k m ∧ ∀ m', m' < k → Bord w k m' → m < m' → w.getD m' 0 ≠ w.getD k 0
theorem Desc.of {w : Word} {k m : Nat} (h : LB w k m) : Desc w k m := ⟨h.1, h.2.1, fun m' h1 h2 h3 => by have := h.2.2 m' h1 h2; omega⟩
theorem Desc.down {w : Word} {k m m' : Nat} (h : Desc w k m) (hm : 0 < m) (ne : w.getD k 0 ≠ w.getD m 0) (l : LB w m m') : Desc w k m' := by
  refine ⟨Nat.lt_trans l.1 h.1, bord_trans h.2.1 l.2.1, fun j h1 h2 h3 => ?_⟩
  rcases Nat.lt_trichotomy j m with c | c | c
  · have := l.2.2 j c (bord_in h.2.1 h2 (by omega))
    omega
  · subst c
    exact fun e => ne e.symm
  · exact h.2.2 j h1 h2 c
theorem Desc.yes {w : Word} {k m : Nat} (h : Desc w k m) (e : w.getD k 0 = w.getD m 0) : LB w (k + 1) (m + 1) := by
  refine ⟨by have := h.1; omega, bord_succ' h.2.1 e.symm, fun j h1 h2 => ?_⟩
  match j, h1, h2 with
  | 0, _, _ => omega
  | j + 1, h1, h2 =>
    obtain ⟨b, eb⟩ := bord_succ h2
    by_cases c : m < j
    · exact absurd eb (h.2.2 j (by omega) b c)
    · omega
theorem Desc.no {w : Word} {k : Nat} (h : Desc w k 0) (e : w.getD k 0 ≠ w.getD 0 0) : LB w (k + 1) 0 := by
  refine ⟨by omega, bord_zero _ _, fun j h1 h2 => ?_⟩
  match j, h1, h2 with
  | 0, _, _ => omega
  | j + 1, h1, h2 =>
    obtain ⟨b, eb⟩ := bord_succ h2
    by_cases c : 0 < j
    · exact absurd eb (h.2.2 j (by omega) b c)
    · have : j = 0 := by omega
      subst this
      exact absurd eb.symm e
/-- the least period of a word, from its greatest border -/
theorem LB.least {w : Word} {m : Nat} (h : LB w w.length m) : LeastPer w (w.length - m) := by
  obtain ⟨h1, ⟨_, h2⟩, h3⟩ := h
  refine ⟨by omega, by omega, fun i hi => ?_, fun q hq hqq => ?_⟩
  · have := h2 i (by omega)
    rw [this]
    congr 1
    omega
  · by_cases c : w.length ≤ q
    · omega
    have := h3 (w.length - q) (by omega) ⟨by omega, fun i hi => ?_⟩
    · omega
    · have := hqq i (by omega)
      rw [show w.length - (w.length - q) + i = i + q by omega]
      exact this.symm
end CS
end
section
/-! Normal lists of pieces: two that write the same at every point are one. Plain Lean. -/
namespace CS

/-- the form of a fixed piece -/
def fx (m : Nat) : List Nat := 1 :: List.replicate m 0
def OkP (m : Nat) (p : Piece) : Prop := (p.2 = fx m ∧ p.1 ≠ []) ∨ (∃ t, p.2 = 0 :: t ∧ t.length = m ∧ 0 < t.sum ∧ Prim p.1)
/-- what must hold of neighbours -/
def OkB (m : Nat) (p q : Piece) : Prop :=
  (q.2 = fx m → p.2 ≠ fx m) ∧ (q.2 ≠ fx m → p.2 = fx m → p.1.getLast? ≠ q.1.getLast?) ∧ (q.2 ≠ fx m → p.2 ≠ fx m → p.1 ≠ q.1)
def NF (m : Nat) : List Piece → Prop
  | [] => True
  | p :: r => OkP m p ∧ (∀ q, r.head? = some q → OkB m p q) ∧ NF m r

theorem fx_len (m : Nat) : (fx m).length = m + 1 := by simp [fx]
theorem ne_fx (m : Nat) (t : List Nat) : (0 :: t : List Nat) ≠ fx m := fun e => by
  unfold fx at e
  injection e with e1 _
  omega
theorem sum_rep_zero : ∀ m : Nat, (List.replicate m 0).sum = 0
  | 0 => rfl
  | m + 1 => by rw [List.replicate_succ, List.sum_cons, sum_rep_zero m]
theorem fval_fx (m : Nat) (x : List Nat) : fval (fx m) x = 1 := by
  show 1 + dot (List.replicate m 0) x = 1
  rw [dot_zero _ _ (sum_rep_zero m)]
theorem OkP.len {m : Nat} {p : Piece} (h : OkP m p) : p.2.length = m + 1 := by
  rcases h with ⟨h, _⟩ | ⟨t, h, h2, _⟩
  · rw [h, fx_len]
  · rw [h, List.length_cons, h2]

theorem getLast_getD {u : Word} (h : u ≠ []) : u.getLast? = some (u.getD (u.length - 1) 0) := by
  have hp : 0 < u.length := List.length_pos_iff.mpr h
  rw [List.getLast?_eq_getElem?, List.getD_eq_getElem?_getD, List.getElem?_eq_getElem (by omega)]
  rfl

/-- the point all of whose numbers are one, with one of them increased -/
def pt (m B j D : Nat) : List Nat := (List.replicate m B).set j (B + D)
theorem pt_len (m B j D : Nat) : (pt m B j D).length = m := by simp [pt]
theorem dot_rep : ∀ (t : List Nat) (B : Nat), dot t (List.replicate t.length B) = B * t.sum
  | [], B => by simp [dot]
  | a :: t, B => by
    rw [List.length_cons, List.replicate_succ, dot, dot_rep t B, List.sum_cons, Nat.mul_add, Nat.mul_comm]
theorem dot_pt : ∀ (t : List Nat) (B j D : Nat), j < t.length → dot t (pt t.length B j D) = B * t.sum + D * t.getD j 0
  | [], _, _, _, h => by simp at h
  | a :: t, B, 0, D, _ => by
    unfold pt
    rw [List.length_cons, List.replicate_succ, List.set_cons_zero, dot, dot_rep t B, List.sum_cons]
    simp only [List.getD_cons_zero]
    rw [Nat.mul_add, Nat.mul_add, Nat.mul_comm a B, Nat.mul_comm a D]
    omega
  | a :: t, B, j + 1, D, h => by
    have ih := dot_pt t B j D (by simpa using h)
    unfold pt at *
    rw [List.length_cons, List.replicate_succ, List.set_cons_succ, dot, ih, List.sum_cons]
    simp only [List.getD_cons_succ]
    rw [Nat.mul_add, Nat.mul_comm a B]
    omega
theorem dot_ge : ∀ (t x : List Nat) (L : Nat), t.length = x.length → 0 < t.sum → (∀ y ∈ x, L ≤ y) → L ≤ dot t x
  | [], _, _, _, h, _ => by simp at h
  | a :: t, [], _, h, _, _ => by simp at h
  | a :: t, y :: x, L, h, hs, hy => by
    rw [dot]
    rw [List.sum_cons] at hs
    by_cases ha : a = 0
    · have := dot_ge t x L (by simpa using h) (by omega) (fun z hz => hy z (by simp [hz]))
      omega
    · have h1 := hy y (by simp)
      have h2 : y ≤ a * y := Nat.le_mul_of_pos_left y (by omega)
      omega
theorem mem_pt {m B j D y : Nat} (h : y ∈ pt m B j D) : B ≤ y := by
  unfold pt at h
  rcases List.mem_or_eq_of_mem_set h with h | h
  · have := List.eq_of_mem_replicate h
    omega
  · omega

/-- a normal list: a fixed word, perhaps empty, and behind it nothing or a power -/
theorem split {m : Nat} : ∀ (N : List Piece), NF m N → ∃ u R, NF m R ∧ (∀ x, wr N x = u ++ wr R x) ∧ R.length ≤ N.length ∧ (N = if u = [] then R else (u, fx m) :: R) ∧
    (R = [] ∨ ∃ w t R', R = (w, 0 :: t) :: R' ∧ t.length = m ∧ 0 < t.sum ∧ Prim w ∧ (u ≠ [] → u.getLast? ≠ w.getLast?))
  | [], h => ⟨[], [], trivial, fun x => rfl, Nat.le_refl _, by simp, .inl rfl⟩
  | (u, f) :: r, h => by
    obtain ⟨ho, hb, hr⟩ := h
    rcases ho with ⟨hf, hu⟩ | ⟨t, hf, hl, hs, hp⟩
    · simp only at hf hu
      subst hf
      refine ⟨u, r, hr, fun x => ?_, by simp, by simp [hu], ?_⟩
      · simp only [wr, fval_fx, rep_one]
      · cases r with
        | nil => exact .inl rfl
        | cons q r' =>
          right
          have b := hb q rfl
          obtain ⟨ho', _⟩ := hr
          rcases ho' with ⟨e, _⟩ | ⟨t, e, hl, hs, hp⟩
          · exact absurd rfl (b.1 e)
          · obtain ⟨w, g⟩ := q
            simp only at e
            subst e
            exact ⟨w, t, r', rfl, hl, hs, hp, fun _ => b.2.1 (ne_fx m t) rfl⟩
    · simp only at hf
      subst hf
      exact ⟨[], (u, 0 :: t) :: r, ⟨.inr ⟨t, rfl, hl, hs, hp⟩, hb, hr⟩, fun x => rfl, Nat.le_refl _, by simp, .inr ⟨u, t, r, rfl, hl, hs, hp, fun h => absurd rfl h⟩⟩

/-- the letters of a text that begins with a fixed word and a power -/
theorem start_at {u w : Word} {n : Nat} {z : Word} {i : Nat} (hw : w ≠ []) (h : i < n) :
    (u ++ (rep n w ++ z)).getD i 0 = if i < u.length then u.getD i 0 else per w (i - u.length) := by
  have hp : 0 < w.length := List.length_pos_iff.mpr hw
  have hn : n ≤ n * w.length := Nat.le_mul_of_pos_right n hp
  split
  · rename_i c
    exact getD_append_left c
  · rename_i c
    rw [getD_append_right (by omega), getD_append_left (by rw [rep_len]; omega), rep_getD _ _ _ (by omega)]

/-- a word that goes on as a word without end does, and behind it another one: it ends as the other one -/
theorem last_same {u w z : Word} (hu : u ≠ []) (hw : w ≠ []) (hz : z ≠ []) (h1 : ∀ i, i < u.length → u.getD i 0 = per w i) (h2 : ∀ k, per z k = per w (u.length + k)) :
    u.getLast? = z.getLast? := by
  have pu : 0 < u.length := List.length_pos_iff.mpr hu
  have pw : 0 < w.length := List.length_pos_iff.mpr hw
  have pz : 0 < z.length := List.length_pos_iff.mpr hz
  rw [getLast_getD hu, getLast_getD hz, h1 _ (by omega), ← per_add_mul w _ z.length]
  have hm : 1 ≤ w.length * z.length := Nat.mul_pos pw pz
  have e : u.length - 1 + w.length * z.length = u.length + (w.length * z.length - 1) := by omega
  rw [e, ← h2]
  have e2 : w.length * z.length - 1 = (z.length - 1) + z.length * (w.length - 1) := by
    rw [Nat.mul_sub_one, Nat.mul_comm w.length]
    have : z.length ≤ z.length * w.length := Nat.le_mul_of_pos_right _ pw
    omega
  rw [e2, per_add_mul, per_lt (by omega)]

/-- behind a power of a normal list its word does not go on without end -/
theorem stops {m : Nat} {w : Word} {t : List Nat} {R : List Piece} (h : NF m ((w, 0 :: t) :: R)) (hp : Prim w)
    (go : ∀ L, ∃ x : List Nat, x.length = m ∧ (∀ y ∈ x, L ≤ y) ∧ L ≤ (wr R x).length ∧ ∀ i, i < L → (wr R x).getD i 0 = per w i) : False := by
  obtain ⟨_, hb, hR⟩ := h
  obtain ⟨u, R1, h1, h2, _, h4, h5⟩ := split R hR
  rcases h5 with rfl | ⟨z, s, R2, rfl, hl, hs, hz, hlast⟩
  · obtain ⟨x, _, _, hlen, _⟩ := go (u.length + 1)
    rw [h2 x] at hlen
    simp [wr] at hlen
    omega
  · have all : ∀ i, per w i = if i < u.length then u.getD i 0 else per z (i - u.length) := fun i => by
      obtain ⟨x, hx, hy, _, he⟩ := go (i + 1)
      have hd : i + 1 ≤ dot s x := dot_ge s x _ (by omega) hs hy
      rw [← he i (by omega), h2 x]
      simp only [wr, fval, Nat.zero_add]
      exact start_at hz.1 (by omega)
    by_cases hu : u = []
    · subst hu
      rw [if_pos rfl] at h4
      have : w = z := prim_eq hp hz fun i => by
        rw [all i, if_neg (by simp)]
        rfl
      have b := hb (z, 0 :: s) (by rw [h4]; rfl)
      exact b.2.2 (ne_fx m s) (ne_fx m t) this
    · refine hlast hu (last_same hu hp.1 hz.1 (fun i hi => ?_) fun k => ?_)
      · rw [all i, if_pos hi]
      · rw [all (u.length + k), if_neg (by omega)]
        congr 1
        omega

theorem same_start {m : Nat} {u v w z : Word} {t s : List Nat} {R T : List Piece} (hw : Prim w) (hz : Prim z) (ht : t.length = m) (hs : s.length = m) (ht0 : 0 < t.sum) (hs0 : 0 < s.sum)
    (hv : v ≠ [] → v.getLast? ≠ z.getLast?) (hle : u.length ≤ v.length)
    (h : ∀ x : List Nat, x.length = m → u ++ wr ((w, 0 :: t) :: R) x = v ++ wr ((z, 0 :: s) :: T) x) : u = v ∧ w = z := by
  have all : ∀ i, (if i < u.length then u.getD i 0 else per w (i - u.length)) = if i < v.length then v.getD i 0 else per z (i - v.length) := fun i => by
    have hx := h (List.replicate m (i + 1)) (by simp)
    simp only [wr, fval, Nat.zero_add] at hx
    have h1 : i + 1 ≤ dot t (List.replicate m (i + 1)) := dot_ge _ _ _ (by simp [ht]) ht0 fun y hy => by rw [List.eq_of_mem_replicate hy]; exact Nat.le_refl _
    have h2 : i + 1 ≤ dot s (List.replicate m (i + 1)) := dot_ge _ _ _ (by simp [hs]) hs0 fun y hy => by rw [List.eq_of_mem_replicate hy]; exact Nat.le_refl _
    rw [← start_at (n := dot t (List.replicate m (i + 1))) (z := wr R (List.replicate m (i + 1))) hw.1 (by omega), hx, start_at hz.1 (by omega)]
  have hl : u.length = v.length := by
    by_cases c : u.length = v.length
    · exact c
    exfalso
    have hlt : u.length < v.length := by omega
    have hv0 : v ≠ [] := fun e => by rw [e] at hlt; simp at hlt
    have hd : v.drop u.length ≠ [] := fun e => by
      have := List.length_drop (i := u.length) (l := v)
      rw [e] at this
      simp at this
      omega
    have hlast : (v.drop u.length).getLast? = z.getLast? := last_same hd hw.1 hz.1 (fun i hi => by
      rw [List.length_drop] at hi
      have := all (u.length + i)
      rw [if_neg (by omega), if_pos (by omega)] at this
      rw [getD_drop, ← this]
      congr 1
      omega) (fun k => by
      have := all (v.length + k)
      rw [if_neg (by omega), if_neg (by omega)] at this
      rw [List.length_drop, show v.length - u.length + k = v.length + k - u.length by omega, this]
      congr 1
      omega)
    refine hv hv0 (Eq.trans ?_ hlast)
    rw [getLast_getD hv0, getLast_getD hd, getD_drop, List.length_drop]
    congr 2
    omega
  refine ⟨ext_getD hl fun i hi => ?_, prim_eq hw hz fun i => ?_⟩
  · have := all i
    rwa [if_pos hi, if_pos (by omega)] at this
  · have := all (u.length + i)
    rw [if_neg (by omega), if_neg (by omega)] at this
    rw [show u.length + i - u.length = i by omega, show u.length + i - v.length = i by omega] at this
    exact this

/-- the numbers of a form: none is less than in the other -/
theorem no_less {m : Nat} {w : Word} {t s : List Nat} {R T : List Piece} (hN : NF m ((w, 0 :: t) :: R)) (hw : Prim w) (ht : t.length = m) (hs : s.length = m)
    (h : ∀ x : List Nat, x.length = m → wr ((w, 0 :: t) :: R) x = wr ((w, 0 :: s) :: T) x) (j : Nat) (hj : j < m) : s.getD j 0 ≤ t.getD j 0 := by
  by_cases c : s.getD j 0 ≤ t.getD j 0
  · exact c
  exfalso
  refine stops hN hw fun L => ⟨pt m L j (L * t.sum + L), pt_len _ _ _ _, fun y hy => mem_pt hy, ?_⟩
  have hx := h (pt m L j (L * t.sum + L)) (pt_len _ _ _ _)
  simp only [wr, fval, Nat.zero_add] at hx
  have d1 := dot_pt t L j (L * t.sum + L) (by omega)
  have d2 := dot_pt s L j (L * t.sum + L) (by omega)
  rw [ht] at d1
  rw [hs] at d2
  have hm : (L * t.sum + L) * (t.getD j 0 + 1) ≤ (L * t.sum + L) * s.getD j 0 := Nat.mul_le_mul_left _ (by omega)
  rw [Nat.mul_succ] at hm
  have hge : dot t (pt m L j (L * t.sum + L)) + L ≤ dot s (pt m L j (L * t.sum + L)) := by
    rw [d1, d2]
    omega
  generalize pt m L j (L * t.sum + L) = x at *
  obtain ⟨k, hk⟩ : ∃ k, dot s x = dot t x + k := ⟨dot s x - dot t x, by omega⟩
  rw [hk, rep_add, List.append_assoc] at hx
  have hx' : wr R x = rep k w ++ wr T x := List.append_cancel_left hx
  have hp := hw.pos
  have hkk : k ≤ k * w.length := Nat.le_mul_of_pos_right k hp
  rw [hx']
  refine ⟨by rw [List.length_append, rep_len]; omega, fun i hi => ?_⟩
  rw [getD_append_left (by rw [rep_len]; omega), rep_getD _ _ _ (by omega)]

theorem uniq (m : Nat) : ∀ (n : Nat) (N M : List Piece), N.length ≤ n → NF m N → NF m M → (∀ x : List Nat, x.length = m → wr N x = wr M x) → N = M
  | n, N, M, hn, hN, hM, h => by
    obtain ⟨u, R, hR, hR2, hR3, hR4, hR5⟩ := split N hN
    obtain ⟨v, T, hT, hT2, hT3, hT4, hT5⟩ := split M hM
    have h' : ∀ x : List Nat, x.length = m → u ++ wr R x = v ++ wr T x := fun x hx => by rw [← hR2, ← hT2, h x hx]
    rcases hR5 with rfl | ⟨w, t, R', rfl, ht, ht0, hw, hu⟩
    · rcases hT5 with rfl | ⟨z, s, T', rfl, hs, hs0, hz, hv⟩
      · have := h' (List.replicate m 0) (by simp)
        simp only [wr, List.append_nil] at this
        rw [hR4, hT4, this]
      · exfalso
        have := h' (List.replicate m (u.length + 1)) (by simp)
        have h1 : u.length + 1 ≤ dot s (List.replicate m (u.length + 1)) := dot_ge _ _ _ (by simp [hs]) hs0 fun y hy => by rw [List.eq_of_mem_replicate hy]; exact Nat.le_refl _
        have e := congrArg List.length this
        simp only [wr, fval, Nat.zero_add, List.length_append, List.length_nil, rep_len] at e
        have h2 : dot s (List.replicate m (u.length + 1)) ≤ dot s (List.replicate m (u.length + 1)) * z.length := Nat.le_mul_of_pos_right _ hz.pos
        omega
    · rcases hT5 with rfl | ⟨z, s, T', rfl, hs, hs0, hz, hv⟩
      · exfalso
        have := h' (List.replicate m (v.length + 1)) (by simp)
        have h1 : v.length + 1 ≤ dot t (List.replicate m (v.length + 1)) := dot_ge _ _ _ (by simp [ht]) ht0 fun y hy => by rw [List.eq_of_mem_replicate hy]; exact Nat.le_refl _
        have e := congrArg List.length this
        simp only [wr, fval, Nat.zero_add, List.length_append, List.length_nil, rep_len] at e
        have h2 : dot t (List.replicate m (v.length + 1)) ≤ dot t (List.replicate m (v.length + 1)) * w.length := Nat.le_mul_of_pos_right _ hw.pos
        omega
      · have huv : u = v ∧ w = z := by
          by_cases c : u.length ≤ v.length
          · exact same_start hw hz ht hs ht0 hs0 hv c h'
          · obtain ⟨a, b⟩ := same_start hz hw hs ht hs0 ht0 hu (by omega) fun x hx => (h' x hx).symm
            exact ⟨a.symm, b.symm⟩
        obtain ⟨rfl, rfl⟩ := huv
        have hc : ∀ x : List Nat, x.length = m → wr ((w, 0 :: t) :: R') x = wr ((w, 0 :: s) :: T') x := fun x hx => List.append_cancel_left (h' x hx)
        have hts : t = s := ext_getD (by omega) fun j hj => Nat.le_antisymm
          (no_less hT hw hs ht (fun x hx => (hc x hx).symm) j (by omega)) (no_less hR hw ht hs hc j (by omega))
        subst hts
        have hcc : ∀ x : List Nat, x.length = m → wr R' x = wr T' x := fun x hx => by
          have := hc x hx
          simp only [wr] at this
          exact List.append_cancel_left this
        match n, hn with
        | 0, hn =>
          simp only [List.length_cons] at hR3
          omega
        | n + 1, hn =>
          simp only [List.length_cons] at hR3
          have := uniq m n R' T' (by omega) hR.2.2 hT.2.2 hcc
          subst this
          rw [hR4, hT4]
termination_by n => n
end CS
end
section
/-! What is put behind a normal list: words and powers. Plain Lean. -/
namespace CS

theorem NF_snoc (m : Nat) : ∀ (S : List Piece) (q : Piece), NF m (S ++ [q]) ↔ NF m S ∧ OkP m q ∧ ∀ p, S.getLast? = some p → OkB m p q
  | [], q => by simp [NF]
  | [p], q => by
    simp only [List.cons_append, List.nil_append, NF, List.head?_cons, List.head?_nil, List.getLast?_singleton]
    constructor
    · rintro ⟨h1, h2, h3, h4, h5⟩
      exact ⟨⟨h1, by simp, trivial⟩, h3, fun p' e => by cases e; exact h2 q rfl⟩
    · rintro ⟨⟨h1, _, _⟩, h3, h4⟩
      exact ⟨h1, fun q' e => by cases e; exact h4 p rfl, h3, by simp, trivial⟩
  | p :: p' :: r, q => by
    have ih := NF_snoc m (p' :: r) q
    rw [List.cons_append]
    show OkP m p ∧ (∀ q', ((p' :: r) ++ [q]).head? = some q' → OkB m p q') ∧ NF m ((p' :: r) ++ [q]) ↔ (OkP m p ∧ (∀ q', (p' :: r).head? = some q' → OkB m p q') ∧ NF m (p' :: r)) ∧ OkP m q ∧ ∀ p'', (p :: p' :: r).getLast? = some p'' → OkB m p'' q
    rw [ih, List.getLast?_cons_cons]
    simp only [List.cons_append, List.head?_cons]
    constructor
    · rintro ⟨h1, h2, h3, h4, h5⟩
      exact ⟨⟨h1, h2, h3⟩, h4, h5⟩
    · rintro ⟨⟨h1, h2, h3⟩, h4, h5⟩
      exact ⟨h1, h2, h3, h4, h5⟩

/-! ### the measure, the letters -/
def ms : List Piece → Nat
  | [] => 0
  | p :: r => p.1.length * (p.2.headD 0 + (if isOpen p.2 then 1 else 0)) + ms r
theorem ms_append : ∀ a b, ms (a ++ b) = ms a + ms b
  | [], b => by simp [ms]
  | p :: r, b => by rw [List.cons_append, ms, ms, ms_append r b]; omega
theorem isOpen_fx (m : Nat) : isOpen (fx m) = false := by
  unfold isOpen fx
  rw [List.tail_cons, sum_rep_zero]
  rfl
theorem isOpen_pow {t : List Nat} (h : 0 < t.sum) (c : Nat) : isOpen (c :: t) = true := by
  unfold isOpen
  rw [List.tail_cons]
  exact decide_eq_true h
theorem ms_fx (m : Nat) (w : Word) : ms [(w, fx m)] = w.length := by
  simp only [ms, isOpen_fx]
  simp [fx]
theorem ms_pow {t : List Nat} (h : 0 < t.sum) (w : Word) : ms [(w, 0 :: t)] = w.length := by
  simp [ms, isOpen_pow h]
def AllL (A : Nat → Prop) (S : List Piece) : Prop := ∀ p ∈ S, ∀ c ∈ p.1, A c
theorem AllL.append {A : Nat → Prop} {a b : List Piece} (h : AllL A a) (h' : AllL A b) : AllL A (a ++ b) := fun p hp => by
  rcases List.mem_append.mp hp with e | e
  · exact h p e
  · exact h' p e
theorem AllL.left {A : Nat → Prop} {a b : List Piece} (h : AllL A (a ++ b)) : AllL A a := fun p hp => h p (by simp [hp])
theorem AllL.one {A : Nat → Prop} {w : Word} {f : List Nat} (h : ∀ c ∈ w, A c) : AllL A [(w, f)] := fun p hp => by
  rw [List.mem_singleton] at hp
  subst hp
  exact h

/-- what a step does that puts behind a normal list what is written as z -/
structure Put (A : Nat → Prop) (m : Nat) (S S' : List Piece) (z : List Nat → Word) (k : Nat) : Prop where
  nf : NF m S'
  wr : ∀ x : List Nat, x.length = m → wr S' x = wr S x ++ z x
  ms : ms S' ≤ ms S + k
  al : AllL A S'

/-! ### a word put behind -/
def pushW (m : Nat) (S : List Piece) (w : Word) : List Piece :=
  if w = [] then S else match S.getLast? with
    | some p => if p.2 = fx m then S.dropLast ++ [(p.1 ++ w, fx m)] else S ++ [(w, fx m)]
    | none => S ++ [(w, fx m)]
theorem pushW_nil (m : Nat) (S : List Piece) : pushW m S [] = S := if_pos rfl
theorem pushW_fix {m : Nat} {S : List Piece} {u w : Word} (h : w ≠ []) : pushW m (S ++ [(u, fx m)]) w = S ++ [(u ++ w, fx m)] := by
  unfold pushW
  rw [if_neg h, List.getLast?_concat, List.dropLast_concat]
  simp
theorem pushW_app {m : Nat} {S : List Piece} {w : Word} (h : w ≠ []) (h' : ∀ p, S.getLast? = some p → p.2 ≠ fx m) : pushW m S w = S ++ [(w, fx m)] := by
  unfold pushW
  rw [if_neg h]
  split
  · rename_i p e
    rw [if_neg (h' p e)]
  · rfl
theorem last_cases {α : Type} (S : List α) : S = [] ∨ ∃ S0 p, S = S0 ++ [p] := by
  rcases List.eq_nil_or_concat S with h | ⟨a, b, h⟩
  · exact .inl h
  · exact .inr ⟨a, b, by simpa using h⟩
theorem put_word {A : Nat → Prop} {m : Nat} {S : List Piece} {w : Word} (h : NF m S) (hA : AllL A S) (hw : ∀ c ∈ w, A c) : Put A m S (pushW m S w) (fun _ => w) w.length := by
  by_cases e : w = []
  · subst e
    rw [pushW_nil]
    exact ⟨h, fun x _ => by simp, Nat.le_refl _, hA⟩
  by_cases c : ∀ p, S.getLast? = some p → p.2 ≠ fx m
  · rw [pushW_app e c]
    refine ⟨(NF_snoc m S _).mpr ⟨h, .inl ⟨rfl, e⟩, fun p hp => ⟨fun _ => c p hp, fun z => absurd rfl z, fun z => absurd rfl z⟩⟩, fun x hx => ?_, ?_, hA.append (AllL.one hw)⟩
    · rw [wr_append]
      simp only [wr, fval_fx, rep_one, List.append_nil]
    · rw [ms_append, ms_fx]
      exact Nat.le_refl _
  · rcases last_cases S with rfl | ⟨S0, ⟨u, f⟩, rfl⟩
    · exact absurd (fun p hp => by simp at hp) c
    · have hf : f = fx m := by
        by_cases q : f = fx m
        · exact q
        · exact absurd (fun p hp => by
            rw [List.getLast?_concat] at hp
            cases hp
            exact q) c
      subst hf
      rw [pushW_fix e]
      obtain ⟨h0, ho, hb⟩ := (NF_snoc m S0 _).mp h
      refine ⟨(NF_snoc m S0 _).mpr ⟨h0, .inl ⟨rfl, by simp [e]⟩, fun p hp => ⟨fun _ => (hb p hp).1 rfl, fun z => absurd rfl z, fun z => absurd rfl z⟩⟩, fun x hx => ?_, ?_, (hA.left).append (AllL.one fun c hc => ?_)⟩
      · rw [wr_append, wr_append]
        simp only [wr, fval_fx, rep_one, List.append_nil, List.append_assoc]
      · rw [ms_append, ms_append, ms_fx, ms_fx, List.length_append]
        omega
      · rcases List.mem_append.mp hc with q | q
        · exact hA (u, fx m) (by simp) c q
        · exact hw c q

/-! ### a power put behind, as it is -/
def addP (m : Nat) (S : List Piece) (w : Word) (f : List Nat) : List Piece :=
  match S.getLast? with
    | some p => if p.2 ≠ fx m ∧ p.1 = w then S.dropLast ++ [(w, List.zipWith (· + ·) p.2 f)] else S ++ [(w, f)]
    | none => S ++ [(w, f)]
theorem addP_one {m : Nat} {S : List Piece} {w : Word} {f g : List Nat} (h : g ≠ fx m) : addP m (S ++ [(w, g)]) w f = S ++ [(w, List.zipWith (· + ·) g f)] := by
  unfold addP
  rw [List.getLast?_concat, List.dropLast_concat]
  simp [h]
theorem addP_app {m : Nat} {S : List Piece} {w : Word} {f : List Nat} (h : ∀ p, S.getLast? = some p → ¬ (p.2 ≠ fx m ∧ p.1 = w)) : addP m S w f = S ++ [(w, f)] := by
  unfold addP
  split
  · rename_i p e
    rw [if_neg (h p e)]
  · rfl
theorem dot_add : ∀ (a b x : List Nat), a.length = b.length → dot (List.zipWith (· + ·) a b) x = dot a x + dot b x
  | [], [], x, _ => by simp [dot]
  | p :: a, q :: b, [], _ => by simp [dot]
  | p :: a, q :: b, y :: x, h => by
    simp only [List.zipWith_cons_cons, dot, dot_add a b x (by simpa using h), Nat.add_mul]
    omega
theorem sum_add : ∀ (a b : List Nat), a.length = b.length → (List.zipWith (· + ·) a b).sum = a.sum + b.sum
  | [], [], _ => by simp
  | p :: a, q :: b, h => by
    simp only [List.zipWith_cons_cons, List.sum_cons, sum_add a b (by simpa using h)]
    omega
theorem put_add {A : Nat → Prop} {m : Nat} {S : List Piece} {w : Word} {t : List Nat} (h : NF m S) (hA : AllL A S) (hw : Prim w) (hwA : ∀ c ∈ w, A c) (ht : t.length = m) (ht0 : 0 < t.sum)
    (hc : ∀ p, S.getLast? = some p → p.2 = fx m → p.1.getLast? ≠ w.getLast?) : Put A m S (addP m S w (0 :: t)) (fun x => rep (dot t x) w) w.length := by
  by_cases c : ∀ p, S.getLast? = some p → ¬ (p.2 ≠ fx m ∧ p.1 = w)
  · rw [addP_app c]
    refine ⟨(NF_snoc m S _).mpr ⟨h, .inr ⟨t, rfl, ht, ht0, hw⟩, fun p hp => ⟨fun z => absurd z (ne_fx m t), fun _ z => hc p hp z, fun _ z q => c p hp ⟨z, q⟩⟩⟩, fun x hx => ?_, ?_, hA.append (AllL.one hwA)⟩
    · rw [wr_append]
      simp only [wr, fval, Nat.zero_add, List.append_nil]
    · rw [ms_append, ms_pow ht0]
      exact Nat.le_refl _
  · rcases last_cases S with rfl | ⟨S0, ⟨v, g⟩, rfl⟩
    · exact absurd (fun p hp => by simp at hp) c
    · have hg : g ≠ fx m ∧ v = w := by
        by_cases q : g ≠ fx m ∧ v = w
        · exact q
        · exact absurd (fun p hp => by
            rw [List.getLast?_concat] at hp
            cases hp
            exact q) c
      obtain ⟨hg, rfl⟩ := hg
      rw [addP_one hg]
      obtain ⟨h0, ho, hb⟩ := (NF_snoc m S0 _).mp h
      rcases ho with ⟨e, _⟩ | ⟨s, e, hs, hs0, _⟩
      · exact absurd e hg
      · simp only at e
        subst e
        have el : s.length = t.length := by omega
        have hne : List.zipWith (· + ·) (0 :: s) (0 :: t) ≠ fx m := by
          rw [List.zipWith_cons_cons]
          exact ne_fx m _
        refine ⟨(NF_snoc m S0 _).mpr ⟨h0, .inr ⟨List.zipWith (· + ·) s t, rfl, by simp [hs, ht], by rw [sum_add s t el]; omega, hw⟩,
          fun p hp => ⟨fun z => absurd z hne, fun _ z => (hb p hp).2.1 hg z, fun _ z => (hb p hp).2.2 hg z⟩⟩, fun x hx => ?_, ?_, (hA.left).append (AllL.one hwA)⟩
        · rw [wr_append, wr_append]
          simp only [wr, List.zipWith_cons_cons, fval, Nat.zero_add, Nat.add_zero, List.append_nil, dot_add s t x el, rep_add, List.append_assoc]
        · have e2 : List.zipWith (· + ·) (0 :: s) (0 :: t) = 0 :: List.zipWith (· + ·) s t := rfl
          rw [ms_append, ms_append, e2, ms_pow (by rw [sum_add s t el]; omega), ms_pow hs0]
          omega

/-! ### how far a power goes ahead -/
/-- how many last letters of u go on, read backwards, with w -/
def GB (w u : Word) (n : Nat) : Prop := n ≤ u.length ∧ (∀ j, j < n → u.getD (u.length - 1 - j) 0 = w.getD (w.length - 1 - j % w.length) 0) ∧
  (n < u.length → u.getD (u.length - 1 - n) 0 ≠ w.getD (w.length - 1 - n % w.length) 0)
def back (w : Word) (n : Nat) : Word := rot (w.length - n % w.length) w
theorem back_len (w : Word) (n : Nat) : (back w n).length = w.length := rot_len _ _
theorem Prim.back {w : Word} (h : Prim w) (n : Nat) : Prim (back w n) := h.rot (Nat.sub_le _ _)
theorem rot_mem {a c : Nat} {w : Word} (h : c ∈ rot a w) : c ∈ w := by
  rcases List.mem_append.mp h with e | e
  · exact List.mem_of_mem_drop e
  · exact List.mem_of_mem_take e
/-- the letters that are carried over -/
theorem carried {w u : Word} {n : Nat} (hw : w ≠ []) (h : GB w u n) (k : Nat) : u.drop (u.length - n) ++ rep k w = rep k (back w n) ++ u.drop (u.length - n) := by
  have hp : 0 < w.length := List.length_pos_iff.mpr hw
  have hb0 : back w n ≠ [] := fun e => by
    have := back_len w n
    rw [e] at this
    simp at this
    omega
  obtain ⟨h1, h2, _⟩ := h
  have hl : (u.drop (u.length - n)).length = n := by rw [List.length_drop]; omega
  have hlet : ∀ i, i < n → (u.drop (u.length - n)).getD i 0 = per (back w n) i := fun i hi => by
    have e := h2 (n - 1 - i) (by omega)
    rw [getD_drop, show u.length - n + i = u.length - 1 - (n - 1 - i) by omega, e]
    unfold back
    rw [per_rot (Nat.sub_le _ _) hw]
    have hr := Nat.mod_lt n hp
    have hr' := Nat.mod_lt (n - 1 - i) hp
    have q1 := Nat.mod_add_div n w.length
    have q2 := Nat.mod_add_div (n - 1 - i) w.length
    have hq : (n - 1 - i) / w.length ≤ n / w.length := Nat.div_le_div_right (by omega)
    obtain ⟨d, hd⟩ : ∃ d, n / w.length = (n - 1 - i) / w.length + d := ⟨n / w.length - (n - 1 - i) / w.length, by omega⟩
    rw [hd, Nat.mul_add] at q1
    have e2 : i + (w.length - n % w.length) = (w.length - 1 - (n - 1 - i) % w.length) + w.length * d := by omega
    rw [e2, per_add_mul, per_lt (by omega)]
  refine ext_getD (by rw [List.length_append, List.length_append, rep_len, rep_len, back_len]; omega) fun i hi => ?_
  rw [List.length_append, hl, rep_len] at hi
  have right : (rep k (back w n) ++ u.drop (u.length - n)).getD i 0 = per (back w n) i := by
    by_cases c : i < k * w.length
    · rw [getD_append_left (by rw [rep_len, back_len]; exact c), rep_getD _ _ _ (by rw [back_len]; exact c)]
    · rw [getD_append_right (by rw [rep_len, back_len]; omega), rep_len, back_len, hlet _ (by omega)]
      have e : i = (i - k * w.length) + (back w n).length * k := by rw [back_len, Nat.mul_comm w.length k]; omega
      conv => rhs; rw [e, per_add_mul]
  have left : (u.drop (u.length - n) ++ rep k w).getD i 0 = per (back w n) i := by
    by_cases c : i < n
    · rw [getD_append_left (by rw [hl]; exact c), hlet i c]
    · rw [getD_append_right (by rw [hl]; omega), hl, rep_getD _ _ _ (by omega)]
      unfold back
      rw [per_rot (Nat.sub_le _ _) hw]
      have q1 := Nat.mod_add_div n w.length
      have hr := Nat.mod_lt n hp
      have e2 : i + (w.length - n % w.length) = (i - n) + w.length * (n / w.length + 1) := by
        rw [Nat.mul_succ]; omega
      rw [e2, per_add_mul]
  rw [left, right]
theorem power_cond {m : Nat} {S0 : List Piece} {u w : Word} {n : Nat} (h : NF m (S0 ++ [(u, fx m)])) (hw : Prim w) (g : GB w u n) :
    ∀ p, (pushW m S0 (u.take (u.length - n))).getLast? = some p → p.2 = fx m → p.1.getLast? ≠ (back w n).getLast? := fun p hp hf => by
  obtain ⟨h0, ho, hb⟩ := (NF_snoc m S0 _).mp h
  have hbw := hw.back n
  by_cases e : u.take (u.length - n) = []
  · rw [e, pushW_nil] at hp
    exact absurd hf ((hb p hp).1 rfl)
  · rw [pushW_app e (fun q hq => (hb q hq).1 rfl), List.getLast?_concat] at hp
    cases hp
    have hl : 0 < (u.take (u.length - n)).length := List.length_pos_iff.mpr e
    rw [List.length_take] at hl
    have hu : n < u.length := by omega
    have ne := g.2.2 hu
    rw [getLast_getD e, getLast_getD hbw.1, List.length_take, getD_take (by omega)]
    intro q
    have q' := Option.some.inj q
    refine ne ?_
    rw [show u.length - 1 - n = min (u.length - n) u.length - 1 by omega, q']
    have hp := hw.pos
    have hr := Nat.mod_lt n hp
    unfold back rot
    simp only [List.length_append, List.length_drop, List.length_take]
    rw [getD_append_right (by rw [List.length_drop]; omega), List.length_drop, getD_take (by omega)]
    congr 1
    omega
/-- the whole step: the fixed piece behind is taken off, what is left of it put back, the power added, the letters carried over put behind -/
theorem put_power {A : Nat → Prop} {m : Nat} {S0 : List Piece} {u w : Word} {t : List Nat} {n : Nat} (h : NF m (S0 ++ [(u, fx m)])) (hA : AllL A (S0 ++ [(u, fx m)])) (hw : Prim w) (hwA : ∀ c ∈ w, A c)
    (ht : t.length = m) (ht0 : 0 < t.sum) (g : GB w u n) :
    Put A m (S0 ++ [(u, fx m)]) (pushW m (addP m (pushW m S0 (u.take (u.length - n))) (back w n) (0 :: t)) (u.drop (u.length - n))) (fun x => rep (dot t x) w) w.length := by
  obtain ⟨h0, ho, hb⟩ := (NF_snoc m S0 _).mp h
  have huA : ∀ c ∈ u, A c := hA (u, fx m) (by simp)
  have P1 := put_word (A := A) (w := u.take (u.length - n)) h0 hA.left (fun c hc => huA c (List.mem_of_mem_take hc))
  have hbw := hw.back n
  have hc := power_cond h hw g
  have P2 := put_add P1.nf P1.al hbw (fun c hc => hwA c (rot_mem hc)) ht ht0 hc
  have P3 := put_word (w := u.drop (u.length - n)) P2.nf P2.al (fun c hc => huA c (List.mem_of_mem_drop hc))
  refine ⟨P3.nf, fun x hx => ?_, ?_, P3.al⟩
  · rw [P3.wr x hx, P2.wr x hx, P1.wr x hx, wr_append, List.append_assoc, List.append_assoc, List.append_assoc, ← carried hw.1 g]
    simp only [wr, fval_fx, rep_one, List.append_nil]
    rw [← List.append_assoc (u.take _), List.take_append_drop]
  · have a1 := P1.ms
    have a2 := P2.ms
    have a3 := P3.ms
    rw [ms_append, ms_fx]
    rw [back_len] at a2
    rw [List.length_take] at a1
    rw [List.length_drop] at a3
    have := g.1
    omega
theorem put_power' {A : Nat → Prop} {m : Nat} {S : List Piece} {w : Word} {t : List Nat} (h : NF m S) (hA : AllL A S) (hw : Prim w) (hwA : ∀ c ∈ w, A c)
    (ht : t.length = m) (ht0 : 0 < t.sum) (hc : ∀ p, S.getLast? = some p → p.2 ≠ fx m) : Put A m S (addP m S w (0 :: t)) (fun x => rep (dot t x) w) w.length :=
  put_add h hA hw hwA ht ht0 fun p hp e => absurd e (hc p hp)

/-- the pieces of a normal list are not longer than its measure, nor more -/
theorem NF.len {m : Nat} : ∀ {S : List Piece}, NF m S → ∀ p ∈ S, p.1.length ≤ ms S
  | [], _, p, hp => nomatch hp
  | q :: r, h, p, hp => by
    obtain ⟨ho, _, hr⟩ := h
    rcases List.mem_cons.mp hp with e | e
    · subst e
      simp only [ms]
      rcases ho with ⟨hf, _⟩ | ⟨t, hf, _, hs, _⟩
      · rw [hf, isOpen_fx]
        simp [fx]
      · rw [hf, isOpen_pow hs]
        simp
    · have := NF.len hr p e
      simp only [ms]
      omega
theorem NF.count {m : Nat} : ∀ {S : List Piece}, NF m S → S.length ≤ ms S
  | [], _ => Nat.le_refl _
  | q :: r, h => by
    have h1 := NF.len h q (by simp)
    obtain ⟨ho, _, hr⟩ := h
    have h2 := NF.count hr
    have hq : q.1.length ≤ q.1.length * (q.2.headD 0 + (if isOpen q.2 then 1 else 0)) := by
      rcases ho with ⟨hf, _⟩ | ⟨t, hf, _, hs, _⟩
      · rw [hf, isOpen_fx]
        simp [fx]
      · rw [hf, isOpen_pow hs]
        simp
    have hpos : 0 < q.1.length := by
      rcases ho with ⟨_, hn⟩ | ⟨_, _, _, _, hp⟩
      · exact List.length_pos_iff.mpr hn
      · exact hp.pos
    simp only [ms, List.length_cons]
    omega

/-! ### one piece after the other -/
/-- so far these pieces have been put behind one another -/
structure Done (A : Nat → Prop) (m : Nat) (ps S : List Piece) : Prop where
  nf : NF m S
  wr : ∀ x : List Nat, x.length = m → wr S x = wr ps x
  ms : ms S ≤ ms ps
  al : AllL A S
theorem Done.nil {A : Nat → Prop} {m : Nat} : Done A m [] [] := ⟨trivial, fun _ _ => rfl, Nat.le_refl _, fun p hp => nomatch hp⟩
theorem Done.empty {A : Nat → Prop} {m : Nat} {ps S : List Piece} {f : List Nat} (d : Done A m ps S) : Done A m (ps ++ [([], f)]) S :=
  ⟨d.nf, fun x hx => by rw [d.wr x hx, wr_append]; simp [CS.wr, rep_nil], by rw [ms_append]; have := d.ms; omega, d.al⟩
theorem Done.plain {A : Nat → Prop} {m : Nat} {ps S S' : List Piece} {w : Word} {c : Nat} {t : List Nat} (d : Done A m ps S) (hs : t.sum = 0)
    (p : Put A m S S' (fun _ => rep c w) (rep c w).length) : Done A m (ps ++ [(w, c :: t)]) S' := by
  refine ⟨p.nf, fun x hx => ?_, ?_, p.al⟩
  · rw [p.wr x hx, d.wr x hx, wr_append]
    simp only [CS.wr, fval, dot_zero t x hs, Nat.add_zero, List.append_nil]
  · have a1 := p.ms
    have a2 := d.ms
    rw [rep_len] at a1
    rw [ms_append]
    simp only [CS.ms, List.headD_cons]
    rw [Nat.mul_add, Nat.mul_comm w.length c]
    omega
theorem dot_map (k : Nat) : ∀ (t x : List Nat), dot (t.map (k * ·)) x = k * dot t x
  | [], _ => by simp [dot]
  | a :: t, [] => by simp [dot]
  | a :: t, y :: x => by
    simp only [List.map_cons, dot, dot_map k t x]
    rw [Nat.mul_add, Nat.mul_assoc]
theorem sum_map (k : Nat) : ∀ t : List Nat, (t.map (k * ·)).sum = k * t.sum
  | [] => by simp
  | a :: t => by
    simp only [List.map_cons, List.sum_cons, sum_map k t]
    rw [Nat.mul_add]
theorem Done.power {A : Nat → Prop} {m : Nat} {ps S S' S'' : List Piece} {w r : Word} {k c : Nat} {t : List Nat} (d : Done A m ps S) (hs : 0 < t.sum) (hr : w = rep k r) (hk : 0 < k)
    (p : Put A m S S' (fun x => rep (dot (t.map (k * ·)) x) r) r.length) (q : Put A m S' S'' (fun _ => rep c w) (rep c w).length) : Done A m (ps ++ [(w, c :: t)]) S'' := by
  refine ⟨q.nf, fun x hx => ?_, ?_, q.al⟩
  · rw [q.wr x hx, p.wr x hx, d.wr x hx, wr_append, List.append_assoc]
    simp only [CS.wr, fval, List.append_nil]
    rw [dot_map, Nat.mul_comm, ← rep_mul, ← hr, ← rep_add, Nat.add_comm]
  · have a1 := q.ms
    have a2 := p.ms
    have a3 := d.ms
    rw [rep_len] at a1
    rw [ms_append]
    simp only [CS.ms, List.headD_cons, isOpen_pow hs, if_true]
    have : r.length ≤ w.length := by
      rw [hr, rep_len]
      exact Nat.le_mul_of_pos_left _ hk
    rw [Nat.mul_add, Nat.mul_comm w.length c]
    omega
/-- THE LAW: equal normal lists, equal words at the points of the cross -/
theorem equal_iff {m : Nat} {ps qs N M : List Piece} (hp : ∀ p ∈ ps, Letters p.1 ∧ p.2.length = m + 1) (hq : ∀ p ∈ qs, Letters p.1 ∧ p.2.length = m + 1)
    (dp : Done (fun c => 0 < c ∧ c < 128) m ps N) (dq : Done (fun c => 0 < c ∧ c < 128) m qs M) :
    N = M ↔ ∀ x : List Nat, x.length = m → pr x ≤ 1 + opens ps + opens qs → wr ps x = wr qs x := by
  constructor
  · intro e x hx _
    rw [← dp.wr x hx, ← dq.wr x hx, e]
  · intro h
    have h' := cross m ps qs hp hq h
    exact uniq m _ N M (Nat.le_refl _) dp.nf dq.nf fun x hx => by rw [dp.wr x hx, dq.wr x hx, h' x hx]
/-- a normal list, made normal -/
theorem again {A : Nat → Prop} {m : Nat} {N M : List Piece} (h : NF m N) (d : Done A m N M) : M = N :=
  uniq m _ M N (Nat.le_refl _) d.nf h d.wr
end CS
end
section
set_option maxRecDepth 100000
set_option maxHeartbeats 4000000
/-! Rules of our own over the hand layer: texts as lists of signs, tuples whose place does not matter, texts and tuples taken several times, turned round. -/
namespace Cs
open PySem PySem.Spec PyProof.Rows L2 SX

/-! ### texts -/
theorem S_eq (a b : List Nat) : decide (V.str (S a) = V.str (S b)) = decide (a = b) := by
  by_cases h : a = b
  · subst h; simp
  · rw [decide_eq_false h, decide_eq_false fun e => h (S_inj (V.str.inj e))]
theorem S_mul (w : List Nat) (k : Nat) : Txt.mul (S w) (k : Int) = S (CS.rep k w) := by
  unfold Txt.mul
  by_cases h0 : (k : Int) < 1
  · have e : k = 0 := by omega
    rw [if_pos h0, e]
    rfl
  · rw [if_neg h0]
    split
    · rename_i h
      rcases (Bool.or_eq_true _ _).mp h with h | h
      · have e : k = 1 := by
          have := eq_of_beq h
          omega
        rw [e, CS.rep_one]
      · have e : w = [] := by
          have := eq_of_beq h
          rw [S_len] at this
          exact List.eq_nil_of_length_eq_zero this
        rw [e, CS.rep_nil]
    · have go : ∀ (n : Nat) (acc : Array Nat), (List.replicate n w.toArray).foldl (· ++ ·) acc = acc ++ (CS.rep n w).toArray := by
        intro n
        induction n with
        | zero => intro acc; simp [CS.rep_zero]
        | succ n ih => intro acc; rw [List.replicate_succ, List.foldl_cons, ih, CS.rep_succ]; simp
      rw [Int.toNat_natCast]
      show (⟨(List.replicate k w.toArray).foldl (· ++ ·) #[]⟩ : Str) = _
      rw [go]
      simp
theorem S_cut (w : List Nat) (lo hi : Option Int) : cutS (S w) lo hi = S ((w.drop (HT.sIx w.length 0 lo)).take (HT.sIx w.length w.length hi - HT.sIx w.length 0 lo)) := by
  unfold cutS
  rw [S_len]
/-- where a slice begins, ends -/
theorem sIx_n (n d k : Nat) : HT.sIx n d (some (k : Int)) = min k n := HT.sIx_nat n d k
theorem sl_to (w : List Nat) (k : Nat) : (w.drop (HT.sIx w.length 0 none)).take (HT.sIx w.length w.length (some (k : Int)) - HT.sIx w.length 0 none) = w.take k := by
  rw [sIx_n, HT.sIx_none, List.drop_zero, Nat.sub_zero]
  by_cases h : k ≤ w.length
  · rw [Nat.min_eq_left h]
  · rw [Nat.min_eq_right (by omega), List.take_of_length_le (Nat.le_refl _), List.take_of_length_le (by omega)]
theorem sl_from (w : List Nat) (k : Nat) : (w.drop (HT.sIx w.length 0 (some (k : Int)))).take (HT.sIx w.length w.length none - HT.sIx w.length 0 (some (k : Int))) = w.drop k := by
  rw [sIx_n, HT.sIx_none]
  by_cases h : k ≤ w.length
  · rw [Nat.min_eq_left h, List.take_of_length_le (by rw [List.length_drop]; exact Nat.le_refl _)]
  · rw [Nat.min_eq_right (by omega), List.drop_of_length_le (Nat.le_refl _), List.drop_of_length_le (by omega), List.take_nil]
theorem slV_to (w : List V) (k : Nat) : cutV w none (some (k : Int)) = w.take k := by
  unfold cutV
  rw [sIx_n, HT.sIx_none, List.drop_zero, Nat.sub_zero]
  by_cases h : k ≤ w.length
  · rw [Nat.min_eq_left h]
  · rw [Nat.min_eq_right (by omega), List.take_of_length_le (Nat.le_refl _), List.take_of_length_le (by omega)]
theorem slV_from (w : List V) (k : Nat) : cutV w (some (k : Int)) none = w.drop k := by
  unfold cutV
  rw [sIx_n, HT.sIx_none]
  by_cases h : k ≤ w.length
  · rw [Nat.min_eq_left h, List.take_of_length_le (by rw [List.length_drop]; exact Nat.le_refl _)]
  · rw [Nat.min_eq_right (by omega), List.drop_of_length_le (Nat.le_refl _), List.drop_of_length_le (by omega), List.take_nil]

section
variable {X : Cx}
/-- text + text -/
theorem op_catS : OpR X (binaryOp .Add) (fun x y H Q => ∃ u v : List Nat, x = .str (S u) ∧ y = .str (S v) ∧ u.length + v.length ≤ sizeLine ∧ Q (.str (S (u ++ v))) H) := by
  intro pins s σ H x y v u Q I rx ry h
  obtain ⟨a, b, rfl, rfl, hz, q⟩ := h
  exact op_add_str pins s σ H _ _ v u Q I rx ry ⟨S a, S b, rfl, rfl, by rw [S_len, S_len]; exact hz, by rw [S_cat]; exact q⟩
/-- text * count -/
theorem op_mulS : OpR X (binaryOp .Mult) (fun x y H Q => ∃ (w : List Nat) (k : Nat), x = .str (S w) ∧ y = .int (k : Int) ∧ w.length ≤ 4000 ∧ k ≤ 4000 ∧ Q (.str (S (CS.rep k w))) H) := by
  intro pins s σ H x y v u Q I rx ry h
  obtain ⟨w, k, rfl, rfl, h1, h2, q⟩ := h
  obtain ⟨t, rfl⟩ := rx
  obtain ⟨t', rfl⟩ := ry
  refine SB.mul (mulOk_of 4000 4000 (by rw [S_len]; exact h1) (by omega) (by omega) (by decide) (by decide)) fun t' k' => ?_
  rw [S_mul]
  exact ⟨.str _, H, I.tok k', ⟨_, rfl⟩, q⟩
/-- text[lo:hi] -/
theorem sl_S : SlR X (fun x lo hi H Q => ∃ w : List Nat, x = .str (S w) ∧ w.length ≤ sizeLine ∧ Q (.str (S ((w.drop (HT.sIx w.length 0 lo)).take (HT.sIx w.length w.length hi - HT.sIx w.length 0 lo)))) H) := by
  intro pins s σ H x v vl vu lo hi sl Q I rx hs pl pu h
  obtain ⟨w, hx, hz, q⟩ := h
  exact sl_str pins s σ H x v vl vu lo hi sl Q I rx hs pl pu ⟨S w, hx, by rw [S_len]; exact hz, by rw [S_cut]; exact q⟩
/-- text[i] -/
theorem ix_S : IxR X (fun x y H Q => ∃ (w : List Nat) (i c : Nat), x = .str (S w) ∧ y = .int (i : Int) ∧ w.length ≤ sizeLine ∧ w[i]? = some c ∧ Q (.str (S [c])) H) := by
  intro value slice pins s σ H x y v u Q I rx ry h hs
  obtain ⟨w, i, c, rfl, rfl, hz, hc, q⟩ := h
  exact ix_str value slice pins s σ H _ _ v u Q I rx ry ⟨S w, i, c, rfl, rfl, by rw [S_len]; exact hz, atI_nat hc, q⟩ hs
/-- len(text) -/
theorem len_S : CallR X (.builtin "len") (fun xs H Q => ∃ w : List Nat, xs = [.str (S w)] ∧ w.length ≤ sizeLine ∧ Q (.int w.length) H) := by
  intro pins s σ H xs us Q I r h
  obtain ⟨w, rfl, hz, q⟩ := h
  exact call_len_str pins s σ H _ us Q I r ⟨S w, rfl, by rw [S_len]; exact hz, by rw [S_len]; exact q⟩

/-! ### tuples: whichever object holds the items -/
def mkT (ys : List V) : Hp → VK → Prop := fun H Q => ∀ p H', Same H H' → H' p = some (.tup ys) → Q (.ref p) H'
theorem same_new {H : Hp} {p : Addr} {o : HO} (h : H p = none) : Same H (upd H p o) := fun b u e => by rw [upd_ne (ne_of_none e h)]; exact e
theorem mkT_new {ys : List V} {H : Hp} {Q : VK} (q : mkT ys H Q) {p : Addr} (h : H p = none) : Q (.ref p) (upd H p (.tup ys)) := q p _ (same_new h) upd_same
theorem mkT_old {ys : List V} {H : Hp} {Q : VK} (q : mkT ys H Q) {p : Addr} (h : H p = some (.tup ys)) : Q (.ref p) H := q p _ (Same.refl H) h
/-- tuple + tuple -/
theorem op_catU : OpR X (binaryOp .Add) (fun x y H Q => ∃ a b xs ys, x = .ref a ∧ y = .ref b ∧ H a = some (.tup xs) ∧ H b = some (.tup ys) ∧ xs.length + ys.length ≤ sizeLine ∧ mkT (xs ++ ys) H Q) := by
  intro pins s σ H x y v u Q I rx ry h
  obtain ⟨a, b, xs, ys, rfl, rfl, ha, hb, hz, q⟩ := h
  refine op_catA pins s σ H _ _ v u Q I rx ry ⟨a, b, xs, ys, rfl, rfl, SqT.of ha, SqT.of hb, hz, fun e => ?_, fun _ e => ?_, fun _ _ p hp => mkT_new q hp⟩
  · subst e
    exact mkT_old q hb
  · subst e
    exact mkT_old (by rwa [List.append_nil] at q) ha
/-- tuple[lo:hi] -/
theorem sl_tupU : SlR X (fun x lo hi H Q => ∃ a xs, x = .ref a ∧ H a = some (.tup xs) ∧ mkT (cutV xs lo hi) H Q) := by
  intro pins s σ H x v vl vu lo hi sl Q I rx hs pl pu h
  obtain ⟨a, xs, hx, ha, q⟩ := h
  refine sl_tupA pins s σ H x v vl vu lo hi sl Q I rx hs pl pu ⟨a, xs, hx, SqT.of ha, fun e => ?_, fun _ p hp => mkT_new q hp⟩
  refine mkT_old (by
    have e2 : cutV xs lo hi = xs := by
      unfold cutV
      rw [e.1, e.2]
      simp
    rwa [e2] at q) ha
/-- tuple(list) -/
theorem call_tupU : CallR X (.type "tuple") (fun xs H Q => ∃ a ys, xs = [.ref a] ∧ SqL X.K H a ys ∧ mkT ys H Q) := by
  intro pins s σ H xs us Q I r h
  obtain ⟨a, ys, rfl, hy, q⟩ := h
  exact call_tuple_of pins s σ H _ us Q I r ⟨a, ys, rfl, .inl ⟨hy, fun p hp => mkT_new q hp⟩⟩
/-- sum(tuple of ints) -/
theorem sum_tup (hc : X.calm = true) : CallR X (.builtin "sum") (fun xs H Q => ∃ a, ∃ ns : List Int, xs = [.ref a] ∧ H a = some (.tup (ns.map V.int)) ∧ Q (.int ns.sum) H) := by
  intro pins s σ H xs us Q I r h
  obtain ⟨a, ns, rfl, ha, q⟩ := h
  rw [Vals.ref1 r]
  obtain ⟨its, rv, ht, _⟩ := I.tuple (SqT.of (K := X.K) ha)
  have hv := rv.ints
  obtain ⟨xs, e⟩ := hv.allInts.items
  have hn : numsOf (intItems xs).toList = ns := by rw [← e]; exact hv.numsOf
  rw [nums_intItems] at hn
  rw [e] at ht
  have hlt : a < s.heap.objs.size := by
    obtain ⟨o, ho, _⟩ := id ht
    exact Heap.lt_size ho
  have hT : s.heap.IsTuple a (intItems xs) := ht
  refine call_sum_walkG (wpAny_pyIter_tuple hT ⟨s.heap.objs.size, [s.heap.objs.size, a], [s.heap.objs.size], _, _, _, numAt xs, rfl,
    Walks.tuple (A := X.A.in1) (I.ok.hd hc) _ a (Nat.ne_of_lt hlt) (intItems xs), ⟨⟨_, Heap.get?_push_size _ rfl, rfl, rfl⟩, hT.push _⟩, fun b hb => ?_, fun _ _ => intItems_at, fun h' tk t' hk => ?_⟩)
  · rw [Heap.size_push]
    rcases List.mem_cons.mp hb with rfl | hb
    · exact Nat.lt_succ_self _
    · rw [List.mem_singleton] at hb
      subst hb
      exact Nat.lt_succ_of_lt hlt
  · have hk' : ∀ b o, s.heap.get? b = some o → h'.get? b = some o := fun b o q => hk b o (fun z => by
      rw [List.mem_singleton] at z
      exact Nat.lt_irrefl _ (z ▸ Heap.lt_size q)) (Heap.get?_push_of_some _ q)
    have es : preSum (numAt xs) (intItems xs).size = ns.sum := by
      rw [preSum_eq, List.take_of_length_le (by simp [intItems]), hn]
    rw [es]
    exact ⟨.int _, H, I.kept hk', ⟨_, rfl⟩, q⟩
/-- tuple * 1 is the tuple itself, tuple * 0 the empty one -/
theorem tuple_mul1 (l : Addr) (items : Array Value) (n : Nat) (dd : Option Addr) (sl : Array (Option Value)) (u : Tok) :
    Meets (Builtin.«tuple.__mul__» ⟨[.ref l, .int 1 u], []⟩) (fun _ R s => s.heap.get? l = some { cls := .type "tuple", dict := dd, data := .seq items n, slots := sl } ∧ R (.ok (.ret (Value.ref l))) s) :=
  .of_wp fun prog w A R s h => by
    obtain ⟨hp, g, d, tk, os⟩ := s
    obtain ⟨hl, h⟩ := h
    have i1 := AutoSeq1.idx_int
    wp_walk using wpAny_loadPart' hl
    exact ⟨_, rfl, h⟩
theorem tuple_mul0 (l : Addr) (items : Array Value) (n : Nat) (dd : Option Addr) (sl : Array (Option Value)) (u : Tok) (hi : items.isEmpty = false) :
    Meets (Builtin.«tuple.__mul__» ⟨[.ref l, .int 0 u], []⟩) (fun _ R s => s.heap.get? l = some { cls := .type "tuple", dict := dd, data := .seq items n, slots := sl } ∧
      R (.ok (.ret (Value.ref s.heap.objs.size))) { s with heap := s.heap.push { cls := Value.type "tuple", data := Data.seq #[] }, toks := s.toks }) :=
  .of_wp fun prog w A R s h => by
    obtain ⟨hp, g, d, tk, os⟩ := s
    obtain ⟨hl, h⟩ := h
    have i1 := AutoSeq1.idx_int
    wp_walk using wpAny_loadPart' hl
    exact ⟨_, rfl, h⟩
/-- tuple * count -/
theorem op_mulT : OpR X (binaryOp .Mult) (fun x y H Q => ∃ l, ∃ k : Nat, ∃ xs, x = .ref l ∧ y = .int (k : Int) ∧ H l = some (.tup xs) ∧ xs ≠ [] ∧ k ≤ 1000 ∧ xs.length ≤ 1000 ∧ mkT (List.replicate k xs).flatten H Q) := by
  intro pins s σ H x y v u Q I rx ry h
  obtain ⟨l, k, xs, rfl, rfl, ha, hne, h2, hz, q⟩ := h
  by_cases hk : 2 ≤ k
  · exact op_repT pins s σ H _ _ v u Q I rx ry ⟨l, (k : Int), xs, rfl, rfl, SqT.of ha, hne, by omega, by omega, hz, fun p hp => by rw [Int.toNat_natCast]; exact mkT_new q hp⟩
  cases rx
  obtain ⟨t, rfl⟩ := ry
  obtain ⟨its, r, ⟨⟨cls, dd, data, sl⟩, ho, hc, n, hd⟩, hs⟩ := I.tuple (SqT.of (K := X.K) ha)
  simp only at hc hd
  subst hc hd
  have hle : its.length = xs.length := r.length.symm
  have hi : its.toArray.isEmpty = false := by
    cases its with
    | nil => exact absurd (List.eq_nil_of_length_eq_zero hle.symm) hne
    | cons a b => rfl
  have hcases : k = 0 ∨ k = 1 := by omega
  refine wpAny_binaryOp_repeat_ref (T := "tuple") (U := "int") (by decide) ⟨_, ho, rfl⟩ (fun s' => typeIs_int s' k t) noFill_tuple_mul F.fills_int_mul F.slot_int_rmul repeat_tuple F.slot_int_index.lookup
    (call_meets F.slot_int_rmul (typeIs_int s k t) F.entry_int_rmul (F.args_int_rmul_2 _ _) (int_rmul_tuple k t l its.toArray n dd sl)
      ⟨ho, rfl, ⟨_, ho, rfl⟩, ?_⟩)
  rcases hcases with rfl | rfl
  · refine call_meets F.slot_tuple_mul ⟨_, ho, rfl⟩ F.entry_tuple_mul (F.args_tuple_mul_2 _ _) (tuple_mul0 l its.toArray n dd sl t hi) ⟨ho, ?_⟩
    refine ⟨.ref s.heap.objs.size, _, I.laid (t' := s.toks) (o := .tup (List.replicate 0 xs).flatten) (fun b ob q => Heap.get?_push_of_some _ q) (Nat.le_refl _) ?_, rfl, mkT_new q (I.hok.fresh (Nat.le_refl _))⟩
    exact ⟨Nat.zero_le _, [], .nil, IsTup.new _ _⟩
  · refine call_meets F.slot_tuple_mul ⟨_, ho, rfl⟩ F.entry_tuple_mul (F.args_tuple_mul_2 _ _) (tuple_mul1 l its.toArray n dd sl t) ⟨ho, ?_⟩
    exact ⟨.ref l, H, I, rfl, mkT_old (by simpa using q) ha⟩
/-- int ** int of any size -/
theorem op_powB : OpR X (binaryOp .Pow) (rI (fun i j => 0 ≤ j ∧ (Builtin.Int.intBits i : Int) * j ≤ 2 ^ 27) fun i j => .int (i ^ j.toNat)) := opI fun _ _ _ _ _ _ _ hc q => pow_int hc.1 hc.2 q
/-- list(text): its signs -/
theorem paired_get {α β : Type} {F : α → β → Prop} : ∀ (xs : List α) (ys : List β), xs.length = ys.length → (∀ (i : Nat) a b, xs[i]? = some a → ys[i]? = some b → F a b) → Paired F xs ys
  | [], [], _, _ => .nil
  | [], _ :: _, h, _ => by simp at h
  | _ :: _, [], h, _ => by simp at h
  | a :: xs, b :: ys, h, g => .cons (g 0 a b rfl rfl) (paired_get xs ys (by simpa using h) fun i a' b' h1 h2 => g (i + 1) a' b' h1 h2)
theorem call_listS (hc : X.calm = true) : CallR X (.type "list") (fun xs H Q => ∃ w : List Nat, xs = [.str (S w)] ∧ w.length ≤ sizeLine ∧ ∀ p, H p = none → Q (.ref p) (upd H p (.lst (w.map fun c => V.str (S [c]))))) := by
  intro pins s σ H xs us Q I r h
  obtain ⟨w, rfl, hz, q⟩ := h
  cases r with
  | cons r1 rr =>
    cases rr
    obtain ⟨t, rfl⟩ := r1
    refine call_list_str (I.ok.hd hc) (S w) t (hn := by simpa [S] using hz) fun h' tk acc' c' hk hS hacc => ?_
    refine ⟨.ref s.heap.objs.size, _, I.laid (t' := tk) (o := .lst (w.map fun c => V.str (S [c]))) hk (Nat.le_refl _) ?_, rfl, q _ (I.hok.fresh (Nat.le_refl _))⟩
    refine ⟨by rw [List.length_map]; exact hz, acc'.toList, c', ?_, by simpa using hS⟩
    refine paired_get _ _ (by
      have e := hacc.1
      have e2 : (S w).cps.size = w.length := by simp [S]
      rw [List.length_map, Array.length_toList]
      show w.length = acc'.size
      omega) fun i a b h1 h2 => ?_
    obtain ⟨c, u, hc', rfl⟩ := hacc.2 i b (by simpa using h2)
    rw [List.getElem?_map] at h1
    have hw : w[i]? = some c := by simpa [S] using hc'
    rw [hw] at h1
    cases h1
    exact ⟨u, rfl⟩

/-! ### [::-1] of a tuple, of a text -/
theorem fm_map {α β : Type} (f : α → Option β) (g : α → β) : ∀ l : List α, (∀ m ∈ l, f m = some (g m)) → l.filterMap f = l.map g
  | [], _ => rfl
  | a :: r, h => by rw [List.filterMap_cons, h a (by simp), List.map_cons, fm_map f g r fun m hm => h m (by simp [hm])]
theorem pick_back (xs : Array Value) : ((List.range xs.size).filterMap fun (m : Nat) => xs[(((xs.size : Int) - 1) + (m : Int) * (-1)).toNat]?).toArray = xs.toList.reverse.toArray := by
  congr 1
  apply List.ext_getElem?
  intro i
  have e : (List.range xs.size).filterMap (fun (m : Nat) => xs[(((xs.size : Int) - 1) + (m : Int) * (-1)).toNat]?) = (List.range xs.size).map fun m => xs.toList.reverse.getD m .none := by
    refine fm_map _ _ _ fun m hm => ?_
    have hm' : m < xs.size := List.mem_range.mp hm
    have e1 : (((xs.size : Int) - 1) + (m : Int) * (-1)).toNat = xs.size - 1 - m := by omega
    rw [e1]
    simp only [List.getD_eq_getElem?_getD]
    rw [List.getElem?_reverse (by simpa using hm')]
    have : xs.size - 1 - m < xs.size := by omega
    simp [this]
  rw [e, List.getElem?_map]
  by_cases h : i < xs.size
  · rw [List.getElem?_range h]
    simp only [Option.map_some, List.getD_eq_getElem?_getD]
    rw [List.getElem?_eq_getElem (by simpa using h)]
    rfl
  · rw [List.getElem?_eq_none (by simp; omega), List.getElem?_eq_none (by simp; omega)]
    rfl
section
variable {prog : Program} {w : World} {A : Around} {E : Value → Shared → Prop} {s : Shared}
theorem applied_back {sl : Addr} {u : Tok} {n : Nat} {Q : Int × Int × Nat → Shared → Prop} (hs : s.heap.IsSliceOf sl .none .none (.int (-1) u)) (h : Q ((n : Int) - 1, -1, n) s) :
    wpAny (model prog w) A (Builtin.Slice.sliceApplied (.ref sl) (pure (n : Int))) Q E s := by
  obtain ⟨os, hos, hcs, hds⟩ := id hs
  unfold Builtin.Slice.sliceApplied Builtin.Slice.sliceFields
  refine wpAny_bind (wpAny_bind (wpAny_field hos hds (x := .none) rfl (wpAny_bind (wpAny_field hos hds (x := .none) rfl (wpAny_bind (wpAny_field hos hds (x := .int (-1) u) rfl (wpAny_pure ?_)))))))
  refine wpAny_bind (HT.slicePart_ (.int (-1) u) ?_)
  show wpAny _ _ (if ((-1 : Int) == 0) = true then _ else _) _ _ s
  rw [if_neg (show ¬ (((-1 : Int) == 0) = true) by decide)]
  refine wpAny_bind (HT.slicePart_ .none (wpAny_bind (HT.slicePart_ .none (wpAny_bind (wpAny_pure ?_)))))
  have e : Builtin.Slice.slicePlaces ((n : Int) - 1) (-1) (-1) = n := by
    unfold Builtin.Slice.slicePlaces
    rw [if_neg (show ¬ ((-1 : Int) > 0) by decide)]
    by_cases hn : n = 0
    · subst hn; decide
    · rw [if_pos (by omega)]
      simp only [Int.neg_neg, Int.ediv_one]
      omega
  show wpAny _ _ (pure ((n : Int) - 1, (-1 : Int), Builtin.Slice.slicePlaces ((n : Int) - 1) (-1) (-1))) _ _ s
  rw [e]
  exact wpAny_pure h
theorem getItem_back {t sl : Addr} {items : Array Value} {u : Tok} {Q : Value → Shared → Prop} (ht : IsTup s.heap t items) (hs : s.heap.IsSliceOf sl .none .none (.int (-1) u)) (hsz : items.size ≤ sizeLine)
    (h : Q (.ref s.heap.objs.size) { s with heap := s.heap.push { cls := .type "tuple", data := .seq items.toList.reverse.toArray } }) : wpAny (model prog w) A (getItem (.ref t) (.ref sl)) Q E s := by
  have hok : sizeOk (.seq items.toList.reverse.toArray) := by
    show items.toList.reverse.toArray.size ≤ sizeLine
    simpa using hsz
  obtain ⟨os, hos, hcs, hds⟩ := id hs
  have hTs : s.TypeIs (.ref sl) "slice" := ⟨os, hos, hcs⟩
  unfold getItem
  refine wpAny_holding (wpAny_bind (wpAny_sequenceKey ht.typeIs (by decide) (wpAny_bind (wpAny_callSpecial?_slot (name := Str.ofString "__getitem__") ht.typeIs PyProof.Rows.slot_tuple_getitem
    (wpAny_call_entry PyProof.Rows.slot_tuple_getitem ht.typeIs PyProof.Rows.entry_tuple_getitem ?_ (PyProof.Rows.args_tuple_getitem _ _))))))
  show wpAny _ _ (Builtin.Tuple.tupleItemsOf (.ref t) >>= _) _ _ s
  refine wpAny_bind (tupleItemsOf_ ht (wpAny_bind (wpAny_typeOf hTs ?_)))
  rw [if_pos (by decide)]
  refine wpAny_bind (applied_back hs ?_)
  have hno : ¬ ((((items.size : Int) - 1) == 0 && (-1 : Int) == 1 && items.size == items.size) = true) := by simp
  show wpAny _ _ (if (((items.size : Int) - 1) == 0 && (-1 : Int) == 1 && items.size == items.size) = true then _ else _) _ _ s
  rw [if_neg hno, pick_back]
  exact wpAny_bind (m := Builtin.Tuple.tupleExact _) (wpAny_newObj_type (wpAny_pure ⟨_, rfl, wpAny_pure h⟩) hok)
end
/-- e[::-1] where e is a tuple -/
def tBackT (te : TE) : TE := fun σ H Q => te σ H fun x H1 => ∃ a xs, x = .ref a ∧ H1 a = some (.tup xs) ∧ mkT xs.reverse H1 Q
/-- e[::-1] where e is a text -/
def tBackS (te : TE) : TE := fun σ H Q => te σ H fun x H1 => ∃ w : List Nat, x = .str (S w) ∧ w.length ≤ sizeLine ∧ Q (.str (S w.reverse)) H1
theorem pe_backT {e : Expr} {te : TE} {k : Nat} {p1 p2 p3 pos : Pos} (he : PE X e te) : PE X (.Subscript e (.Slice none none (some (.UnaryOp .USub (.Constant (.int 1) k p1) p2)) p3) pos) (tBackT te) := by
  refine ⟨fun pins s σ H Q I h => Subscript_ (thn (he.run pins s σ H _ I h) fun v s1 ⟨x, H1, I1, r1, a, xs, ex, hx, q⟩ => ?_)⟩
  subst ex
  cases r1
  have hst : PO X (some (.UnaryOp .USub (.Constant (.int 1) k p1) p2)) (tPart (tUn (rU fun i => .int (-i)) (tC (.int 1)))) := po_some (pe_un un_neg pe_int)
  refine wpAny_Slice (thn (po_none.run pins s1 σ H1 (fun o H2 => o = none ∧ H2 = H1) I1 ⟨rfl, rfl⟩) fun vl s2 ⟨l, H2, I2, pl, el, e2⟩ => ?_)
  subst el e2
  refine thn (po_none.run pins s2 σ H2 (fun o H3 => o = none ∧ H3 = H2) I2 ⟨rfl, rfl⟩) fun vu s3 ⟨u, H3, I3, pu, eu, e3⟩ => ?_
  subst eu e3
  refine thn (hst.run pins s3 σ H3 (fun o H4 => o = some (-1) ∧ H4 = H3) I3 ⟨1, rfl, -1, rfl, rfl, rfl⟩) fun vs s4 ⟨o, H4, I4, ps, eo, e4⟩ => ?_
  subst eo e4
  cases pl
  cases pu
  cases ps with
  | int _ tk =>
  have I5 : Inv X pins σ H4 { s4 with heap := s4.heap.push { cls := .type "slice", data := .fields #[.none, .none, .int (-1) tk] } } := I4.kept (t' := s4.toks) fun b ob q => Heap.get?_push_of_some _ q
  obtain ⟨its, r, ht, hz⟩ := I5.tuple (SqT.of (K := X.K) hx)
  have hlen := r.length
  refine tail_any (ops := [.ref a, .ref s4.heap.objs.size]) ht.typeIs (PyProof.Rows.slot_tuple_getitem.lookup) ?_ (by with_unfolding_all rfl)
  refine getItem_back ht (Heap.IsSliceOf.new _ .none .none (.int (-1) tk)) (by rw [List.size_toArray]; omega) ?_
  refine ⟨.ref _, _, I5.laid (t' := s4.toks) (o := .tup xs.reverse) (fun b ob q => Heap.get?_push_of_some _ q) (Nat.le_refl _) ?_, rfl, mkT_new q (I5.hok.fresh (Nat.le_refl _))⟩
  exact ⟨by rw [List.length_reverse]; exact hz, _, r.reverse, IsTup.new _ _⟩
theorem pe_backS {e : Expr} {te : TE} {k : Nat} {p1 p2 p3 pos : Pos} (he : PE X e te) : PE X (.Subscript e (.Slice none none (some (.UnaryOp .USub (.Constant (.int 1) k p1) p2)) p3) pos) (tBackS te) := by
  refine ⟨fun pins s σ H Q I h => Subscript_ (thn (he.run pins s σ H _ I h) fun v s1 ⟨x, H1, I1, r1, z, ex, hx, q⟩ => ?_)⟩
  subst ex
  obtain ⟨t, rfl⟩ := r1
  have hst : PO X (some (.UnaryOp .USub (.Constant (.int 1) k p1) p2)) (tPart (tUn (rU fun i => .int (-i)) (tC (.int 1)))) := po_some (pe_un un_neg pe_int)
  refine wpAny_Slice (thn (po_none.run pins s1 σ H1 (fun o H2 => o = none ∧ H2 = H1) I1 ⟨rfl, rfl⟩) fun vl s2 ⟨l, H2, I2, pl, el, e2⟩ => ?_)
  subst el e2
  refine thn (po_none.run pins s2 σ H2 (fun o H3 => o = none ∧ H3 = H2) I2 ⟨rfl, rfl⟩) fun vu s3 ⟨u, H3, I3, pu, eu, e3⟩ => ?_
  subst eu e3
  refine thn (hst.run pins s3 σ H3 (fun o H4 => o = some (-1) ∧ H4 = H3) I3 ⟨1, rfl, -1, rfl, rfl, rfl⟩) fun vs s4 ⟨o, H4, I4, ps, eo, e4⟩ => ?_
  subst eo e4
  cases pl
  cases pu
  cases ps with
  | int _ tk =>
  have I5 : Inv X pins σ H4 { s4 with heap := s4.heap.push { cls := .type "slice", data := .fields #[.none, .none, .int (-1) tk] } } := I4.kept (t' := s4.toks) fun b ob q => Heap.get?_push_of_some _ q
  refine tail_any (ops := [.str (S z) t, .ref s4.heap.objs.size]) (typeIs_str _ _ _) (F.slot_str_getitem.lookup) ?_ (by with_unfolding_all rfl)
  refine wpAny_getItem_str_slice (l := none) (u := none) (st := some (-1, tk)) ⟨_, Heap.get?_push_size _ rfl, rfl, rfl⟩ (by rfl) (post_val_or_str ⟨?_, fun t' c => ?_⟩)
  · show (Txt.sliceBy (S z) none none (-1, tk)).length ≤ sizeLine
    rw [step_rev_len, S_len]
    exact hx
  · have e : Txt.sliceBy (S z) none none (-1, tk) = S z.reverse := by
      apply TL.ext_tl
      show (Txt.sliceBy (S z) none none (-1, tk)).cps.toList = z.reverse
      rw [step_rev_list, S_len]
      apply List.ext_getElem?
      intro i
      rw [List.getElem?_map]
      by_cases hi : i < z.length
      · rw [List.getElem?_range hi, List.getElem?_reverse hi]
        have : z.length - 1 - i < z.length := by omega
        simp [S, Array.getD, this]
      · rw [List.getElem?_eq_none (by simp; omega), List.getElem?_eq_none (by simp; omega)]
        rfl
    show EP X pins σ Q (.str (Txt.sliceBy (S z) none none (-1, tk)) t') _
    rw [e]
    exact ⟨.str _, H4, I5.tok c, ⟨_, rfl⟩, q⟩
end
end Cs
end
section
set_option maxRecDepth 100000
set_option maxHeartbeats 4000000
/-! zip(.., strict=True) of two tuples of one length, and zip of a tuple and a list, as what a loop or a comprehension walks. -/
namespace Cs
open PySem PySem.Spec PyProof.Rows L2 SX

/-- a strict zip at z over the iterators told at P, its own tuple at U -/
abbrev SZip (h : Heap) (z P U : Addr) (own : Value) : Prop := h.get? z = some { cls := .type "zip", dict := none, data := .fields #[own, .bool false, .bool true, .ref P, .ref U], slots := #[] }
section
variable {prog : Program} {w : World} {A : Around} {E : Value → Shared → Prop} {s : Shared} {z P U j1 j2 : Addr} {f1 f2 : List Addr} {n1 n2 i : Nat} {R1 R2 : Nat → Value → Prop} {T1 T2 : Nat → Heap → Prop} {a1 a2 : Value}
theorem drawn_item {it : Addr} {fp : List Addr} {n : Nat} {R : Nat → Value → Prop} {T : Nat → Heap → Prop} (D : Draws prog w A it fp n R T) {Q : Option Value → Shared → Prop} (hi : i < n) (st : T i s.heap)
    (h : ∀ x h' tk, R i x → T (i + 1) h' → Heap.SameBut it s.heap h' → Q (some x) { s with heap := h', toks := tk }) : wpAny (model prog w) A (Builtin.SmallTypes.nextOrEnd (.ref it)) Q E s := by
  unfold Builtin.SmallTypes.nextOrEnd
  exact wpAny_bind (wpAny_attempt (D.item i s _ _ hi st fun x h' tk r t b => wpAny_pure (h x h' tk r t b)))
theorem drawn_end {it : Addr} {fp : List Addr} {n : Nat} {R : Nat → Value → Prop} {T : Nat → Heap → Prop} (D : Draws prog w A it fp n R T) {Q : Option Value → Shared → Prop} (st : T n s.heap)
    (h : ∀ h', Heap.ExtBut it s.heap h' → Q none { s with heap := h' }) : wpAny (model prog w) A (Builtin.SmallTypes.nextOrEnd (.ref it)) Q E s := by
  unfold Builtin.SmallTypes.nextOrEnd
  refine wpAny_bind (wpAny_attempt (D.done s _ _ st fun h' e b he => ?_))
  obtain ⟨o, ho, hc⟩ := he
  exact wpAny_bind (wpAny_isInstance (T := "StopIteration") (b := true) ⟨o, ho, hc⟩ isSubtype_stop (wpAny_pure (h h' b)))
/-- one turn of a strict zip -/
theorem szip_item {Q : Value → Shared → Prop} (S : ZipSep2 z P U j1 j2 f1 f2) (D1 : Draws prog w A j1 f1 n1 R1 T1) (D2 : Draws prog w A j2 f2 n2 R2 T2)
    (hz : SZip s.heap z P U .none) (hP : IsTupOf2 s.heap P (.ref j1) (.ref j2)) (hU : IsTupOf2 s.heap U a1 a2) (t1 : T1 i s.heap) (t2 : T2 i s.heap) (l1 : i < n1) (l2 : i < n2)
    (q : ∀ x y h' tk, R1 i x → R2 i y → SZip h' z P U (rawInt s.heap.objs.size) → IsTupOf2 h' U x y → T1 (i + 1) h' → T2 (i + 1) h' → IsTupOf2 h' s.heap.objs.size x y →
      (∀ c o, c ≠ z → c ≠ U → c ≠ j1 → c ≠ j2 → s.heap.get? c = some o → h'.get? c = some o) → Q (.ref s.heap.objs.size) { s with heap := h', toks := tk }) :
    wpAny (model prog w) A (Builtin.«zip.__next__» ⟨[.ref z], []⟩) (fun fin s' => ∃ v, fin = .done (.ret v) ∧ Q v s') E s := by
  obtain ⟨hp, g, d, k0, os⟩ := s
  show wpAny _ _ (field (.ref z) 2 >>= _) _ _ _
  refine wpAny_bind (wpAny_field hz rfl (x := .bool true) rfl ?_)
  show wpAny _ _ (field (.ref z) 3 >>= _) _ _ _
  refine wpAny_bind (wpAny_field hz rfl (x := .ref P) rfl (wpAny_bind (wpAny_seqItems hP rfl ?_)))
  show wpAny _ _ (Builtin.SmallTypes.ownedTupleIsFree (.ref z) >>= _) _ _ _
  unfold Builtin.SmallTypes.ownedTupleIsFree
  refine wpAny_bind (wpAny_bind (wpAny_field hz rfl (x := .none) rfl (wpAny_pure ?_)))
  simp only [if_true]
  refine wpAny_bind (wpAny_rule (wpAny_bind (wpAny_field hz rfl (x := .ref U) rfl (wpAny_bind (wpAny_setField_rec hz (by simp) fun b0 hz0 s0 => wpAny_bind ?_)))))
  replace hz0 : SZip b0 z P U .ellipsis := hz0
  replace s0 : Heap.SameBut z hp b0 := s0
  simp only [List.zipIdx_cons, List.zipIdx_nil, List.forIn_cons, List.forIn_nil]
  refine wpAny_bind (wpAny_bind (wpAny_onRaise ?_))
  show wpAny _ _ (Builtin.SmallTypes.nextOrEnd (.ref j1)) _ _ ⟨b0, g, d, k0, os⟩
  refine drawn_item D1 l1 (D1.over t1 s0 S.zf1) fun x c1 k1 rx n1' s1 => ?_
  replace s1 : Heap.SameBut j1 b0 c1 := s1
  have u1 : IsTupOf2 c1 U a1 a2 := s1.extBut _ _ S.Ti1 (s0.extBut _ _ S.TOz hU)
  refine wpAny_bind (wpAny_seqItems (s := ⟨c1, g, d, k1, os⟩) u1 rfl (wpAny_bind (updateSeq_IsTupOf2 (s := ⟨c1, g, d, k1, os⟩) u1 fun b1 v1 s2 => wpAny_bind (wpAny_letGo (wpAny_pure ?_)))))
  replace v1 : IsTupOf2 b1 U x a2 := v1
  replace s2 : Heap.SameBut U c1 b1 := s2
  refine wpAny_bind (wpAny_bind (wpAny_onRaise ?_))
  show wpAny _ _ (Builtin.SmallTypes.nextOrEnd (.ref j2)) _ _ ⟨b1, g, d, k1, os⟩
  refine drawn_item D2 l2 (D2.over (D2.over (D2.over t2 s0 S.zf2) s1 S.sep1_2) s2 S.Tf2) fun y c2 k2 ry n2' s3 => ?_
  replace s3 : Heap.SameBut j2 b1 c2 := s3
  have u2 : IsTupOf2 c2 U x a2 := s3.extBut _ _ S.Ti2 v1
  refine wpAny_bind (wpAny_seqItems (s := ⟨c2, g, d, k2, os⟩) u2 rfl (wpAny_bind (updateSeq_IsTupOf2 (s := ⟨c2, g, d, k2, os⟩) u2 fun b2 v2 s4 => wpAny_bind (wpAny_letGo (wpAny_pure (wpAny_pure ?_))))))
  replace v2 : IsTupOf2 b2 U x y := v2
  replace s4 : Heap.SameBut U c2 b2 := s4
  refine wpAny_bind (wpAny_seqItems (s := ⟨b2, g, d, k2, os⟩) v2 rfl (wpAny_bind (wpAny_newTuple ?_)))
  have hsz : b2.objs.size = hp.objs.size := by rw [s4.1, s3.1, s2.1, s1.1, s0.1]
  have hzz : SZip b2 z P U .ellipsis := s4.extBut _ _ S.TOz.symm (s3.extBut _ _ S.zi2 (s2.extBut _ _ S.TOz.symm (s1.extBut _ _ S.zi1 hz0)))
  have hkk : ∀ c o, c ≠ z → c ≠ U → c ≠ j1 → c ≠ j2 → hp.get? c = some o → b2.get? c = some o := fun c o e1 e2 e3 e4 e =>
    s4.extBut _ _ e2 (s3.extBut _ _ e4 (s2.extBut _ _ e2 (s1.extBut _ _ e3 (s0.extBut _ _ e1 e))))
  have g1 : T1 (i + 1) b2 := D1.over (D1.over (D1.over n1' s2 S.Tf1) s3 S.sep2_1) s4 S.Tf1
  have g2 : T2 (i + 1) b2 := D2.over n2' s4 S.Tf2
  have hzlt : z < b2.objs.size := Heap.lt_size hzz
  show wpAny _ _ (Builtin.SmallTypes.ownedTupleHandOut (.ref z) (.ref b2.objs.size) >>= _) _ _ ⟨b2.push { cls := .type "tuple", data := .seq #[x, y] }, g, d, k2, os⟩
  unfold Builtin.SmallTypes.ownedTupleHandOut
  have hz3 : SZip (b2.push { cls := .type "tuple", data := .seq #[x, y] }) z P U .ellipsis := Heap.get?_push_of_some _ hzz
  refine wpAny_bind (wpAny_bind (wpAny_setField_rec hz3 (by simp) fun b3 hz4 s5 => ?_))
  replace hz4 : SZip b3 z P U (rawInt b2.objs.size) := hz4
  refine wpAny_setField_rec hz4 (by simp) fun b4 hz5 s6 => wpAny_pure ⟨_, rfl, ?_⟩
  replace hz5 : SZip b4 z P U (rawInt b2.objs.size) := hz5
  replace s5 : Heap.SameBut z (b2.push { cls := .type "tuple", data := .seq #[x, y] }) b3 := s5
  replace s6 : Heap.SameBut z b3 b4 := s6
  have up : ∀ c o, c ≠ z → b2.get? c = some o → b4.get? c = some o := fun c o e1 e => s6.extBut _ _ e1 (s5.extBut _ _ e1 (Heap.get?_push_of_some _ e))
  have hT : IsTupOf2 b4 b2.objs.size x y := s6.extBut _ _ (Nat.ne_of_gt hzlt) (s5.extBut _ _ (Nat.ne_of_gt hzlt) (Heap.get?_push_size _ rfl))
  rw [hsz] at hz5 hT
  show Q (.ref b2.objs.size) ⟨b4, g, d, k2, os⟩
  rw [hsz]
  exact q x y b4 k2 rx ry hz5 (up _ _ S.TOz v2) (D1.frame _ _ _ g1 fun b hb o e => up b o (fun q' => S.zf1 (q' ▸ hb)) e) (D2.frame _ _ _ g2 fun b hb o e => up b o (fun q' => S.zf2 (q' ▸ hb)) e) hT
    fun c o e1 e2 e3 e4 e => up c o e1 (hkk c o e1 e2 e3 e4 e)
/-- its end: both have come to theirs -/
theorem szip_end {Q : Fin → Shared → Prop} (hh : A.handled = none) (S : ZipSep2 z P U j1 j2 f1 f2) (D1 : Draws prog w A j1 f1 n1 R1 T1) (D2 : Draws prog w A j2 f2 n2 R2 T2)
    (hz : SZip s.heap z P U .none) (hP : IsTupOf2 s.heap P (.ref j1) (.ref j2)) (hU : IsTupOf2 s.heap U a1 a2) (t1 : T1 n1 s.heap) (t2 : T2 n2 s.heap)
    (q : ∀ h' tk e, (∀ c o, c ≠ z → c ≠ U → c ≠ j1 → c ≠ j2 → s.heap.get? c = some o → h'.get? c = some o) → (∃ o, h'.get? e = some o ∧ o.cls = .type "StopIteration") → E (.ref e) { s with heap := h', toks := tk }) :
    wpAny (model prog w) A (Builtin.«zip.__next__» ⟨[.ref z], []⟩) Q E s := by
  obtain ⟨hp, g, d, k0, os⟩ := s
  show wpAny _ _ (field (.ref z) 2 >>= _) _ _ _
  refine wpAny_bind (wpAny_field hz rfl (x := .bool true) rfl ?_)
  show wpAny _ _ (field (.ref z) 3 >>= _) _ _ _
  refine wpAny_bind (wpAny_field hz rfl (x := .ref P) rfl (wpAny_bind (wpAny_seqItems hP rfl ?_)))
  show wpAny _ _ (Builtin.SmallTypes.ownedTupleIsFree (.ref z) >>= _) _ _ _
  unfold Builtin.SmallTypes.ownedTupleIsFree
  refine wpAny_bind (wpAny_bind (wpAny_field hz rfl (x := .none) rfl (wpAny_pure ?_)))
  simp only [if_true]
  refine wpAny_bind (wpAny_rule (wpAny_bind (wpAny_field hz rfl (x := .ref U) rfl (wpAny_bind (wpAny_setField_rec hz (by simp) fun b0 hz0 s0 => wpAny_bind ?_)))))
  replace hz0 : SZip b0 z P U .ellipsis := hz0
  replace s0 : Heap.SameBut z hp b0 := s0
  simp only [List.zipIdx_cons, List.zipIdx_nil, List.forIn_cons, List.forIn_nil]
  refine wpAny_bind (wpAny_bind (wpAny_onRaise ?_))
  show wpAny _ _ (Builtin.SmallTypes.nextOrEnd (.ref j1)) _ _ ⟨b0, g, d, k0, os⟩
  refine drawn_end D1 (D1.over t1 s0 S.zf1) fun c1 e1 => ?_
  replace e1 : Heap.ExtBut j1 b0 c1 := e1
  have hz1 : SZip c1 z P U .ellipsis := e1 _ _ S.zi1 hz0
  refine wpAny_bind (wpAny_setField_rec (s := ⟨c1, g, d, k0, os⟩) hz1 (by simp) fun c2 hz2 s2 => ?_)
  replace hz2 : SZip c2 z P U .none := hz2
  replace s2 : Heap.SameBut z c1 c2 := s2
  refine wpAny_bind ?_
  show wpAny _ _ (forIn (([Value.ref j1, Value.ref j2] : List Value).drop 1 |>.zipIdx 1) PUnit.unit _ >>= _) _ _ _
  simp only [List.drop_succ_cons, List.drop_zero, List.zipIdx_cons, List.zipIdx_nil, List.forIn_cons, List.forIn_nil]
  refine wpAny_bind (wpAny_bind (wpAny_bind (drawn_end (s := ⟨c2, g, d, k0, os⟩) D2 ?_ fun c3 e3 => ?_)))
  · have t2a : T2 n2 b0 := D2.over t2 s0 S.zf2
    have t2b : T2 n2 c1 := D2.frame _ _ _ t2a fun b hb o e => e1 b o (fun q' => S.sep1_2 (q' ▸ hb)) e
    exact D2.over t2b s2 S.zf2
  replace e3 : Heap.ExtBut j2 c2 c3 := e3
  rw [if_neg (by simp)]
  refine wpAny_pure (wpAny_pure (wpAny_bind (wpAny_rule ?_)))
  have kk : ∀ c o, c ≠ z → c ≠ U → c ≠ j1 → c ≠ j2 → hp.get? c = some o → c3.get? c = some o := fun c o h1 h2 h3 h4 e =>
    e3 _ _ h4 (s2.extBut _ _ h1 (e1 _ _ h3 (s0.extBut _ _ h1 e)))
  show wpAny _ _ (newExc (.type "StopIteration") [] >>= _) _ _ ⟨c3, g, d, k0, os⟩
  refine wpAny_bind ?_
  simp only [newExc, newTuple]
  refine wpAny_bind (wpAny_newObj_type (wpAny_bind (m := firstArgMember _ _) (wpAny_of_eq (a := Value.none) (by first | rfl | (simp only [firstArgMember]; rfl)) (wpAny_newObj_type ?_ (by size_fits)))) (by size_fits))
  simp only [raiseNew]
  refine wpAny_bind (wpAny_handled ?_)
  rw [hh]
  exact wpAny_bind (wpAny_pure (wpAny_throw (q _ k0 _ (fun c o h1 h2 h3 h4 e => Heap.get?_push_of_some _ (Heap.get?_push_of_some _ (kk c o h1 h2 h3 h4 e))) ⟨_, Heap.get?_push_size _ rfl, rfl⟩)))
theorem snext_item {Q : Option Value → Shared → Prop} (S : ZipSep2 z P U j1 j2 f1 f2) (D1 : Draws prog w A.in1 j1 f1 n1 R1 T1) (D2 : Draws prog w A.in1 j2 f2 n2 R2 T2)
    (hz : SZip s.heap z P U .none) (hP : IsTupOf2 s.heap P (.ref j1) (.ref j2)) (hU : IsTupOf2 s.heap U a1 a2) (t1 : T1 i s.heap) (t2 : T2 i s.heap) (l1 : i < n1) (l2 : i < n2)
    (q : ∀ x y h' tk, R1 i x → R2 i y → SZip h' z P U (rawInt s.heap.objs.size) → IsTupOf2 h' U x y → T1 (i + 1) h' → T2 (i + 1) h' → IsTupOf2 h' s.heap.objs.size x y →
      (∀ c o, c ≠ z → c ≠ U → c ≠ j1 → c ≠ j2 → s.heap.get? c = some o → h'.get? c = some o) → Q (some (.ref s.heap.objs.size)) { s with heap := h', toks := tk }) :
    wpAny (model prog w) A (pyNext (.ref z)) Q E s := by
  have hT : s.TypeIs (.ref z) "zip" := ⟨_, hz, rfl⟩
  unfold pyNext
  exact wpAny_bind (wpAny_attempt (wpAny_callSpecial?_slot (name := Str.ofString "__next__") hT F.slot_zip_next (wpAny_call_entry F.slot_zip_next hT F.entry_zip_next
    (szip_item S D1 D2 hz hP hU t1 t2 l1 l2 fun x y h' tk r1 r2 b1 b2 b3 b4 b5 b6 => wpAny_pure (q x y h' tk r1 r2 b1 b2 b3 b4 b5 b6)) (F.args_zip_next_1 _))))
theorem snext_end {Q : Option Value → Shared → Prop} (hh : A.handled = none) (S : ZipSep2 z P U j1 j2 f1 f2) (D1 : Draws prog w A.in1 j1 f1 n1 R1 T1) (D2 : Draws prog w A.in1 j2 f2 n2 R2 T2)
    (hz : SZip s.heap z P U .none) (hP : IsTupOf2 s.heap P (.ref j1) (.ref j2)) (hU : IsTupOf2 s.heap U a1 a2) (t1 : T1 n1 s.heap) (t2 : T2 n2 s.heap)
    (q : ∀ h' tk, (∀ c o, c ≠ z → c ≠ U → c ≠ j1 → c ≠ j2 → s.heap.get? c = some o → h'.get? c = some o) → Q none { s with heap := h', toks := tk }) : wpAny (model prog w) A (pyNext (.ref z)) Q E s := by
  have hT : s.TypeIs (.ref z) "zip" := ⟨_, hz, rfl⟩
  unfold pyNext
  refine wpAny_bind (wpAny_attempt (wpAny_callSpecial?_slot (name := Str.ofString "__next__") hT F.slot_zip_next (wpAny_call_entry F.slot_zip_next hT F.entry_zip_next
    (szip_end (A := A.in1) hh S D1 D2 hz hP hU t1 t2 fun h' tk e hk he => ?_) (F.args_zip_next_1 _))))
  obtain ⟨o, ho, hc⟩ := he
  exact wpAny_bind (wpAny_isInstance (T := "StopIteration") (b := true) ⟨o, ho, hc⟩ isSubtype_stop (wpAny_pure (q _ _ hk)))
theorem slet {elts : List Expr} {x1} {pos : Pos} {T : Addr} {Q : Unit → Shared → Prop} (hz : SZip s.heap z P U (rawInt T))
    (q : ∀ h', SZip h' z P U .none → Heap.SameBut z s.heap h' → Q () { s with heap := h' }) : wpAny (model prog w) A (letOwnedTupleGo (.Tuple elts x1 pos) (.ref z) (.ref T)) Q E s := by
  unfold letOwnedTupleGo
  refine wpAny_bind (wpAny_load hz ?_)
  show wpAny _ _ (if (["enumerate", "zip", "dict_itemiterator", "dict_reverseitemiterator", "odict_iterator", "itertools.zip_longest", "itertools.pairwise"].contains "zip" && (#[rawInt T, .bool false, .bool true, .ref P, .ref U] : Array Value)[0]? == some (rawInt T)) = true then _ else _) Q E s
  rw [if_pos (by simp)]
  refine wpAny_bind (wpAny_rule ?_)
  show wpAny _ _ (setField (.ref z) 0 .none) Q E s
  exact wpAny_setField_rec hz (by simp) fun h' hz' hs' => q h' hz' hs'
theorem siter {f0 : Value} {Q : Value → Shared → Prop} (hz : SZip s.heap z P U f0) (h : Q (.ref z) s) : wpAny (model prog w) A (pyIter (.ref z)) Q E s := by
  have hT : s.TypeIs (.ref z) "zip" := ⟨_, hz, rfl⟩
  refine wpAny_pyIter_slot hT F.slot_zip_iter (wpAny_call_entry F.slot_zip_iter hT F.entry_zip_iter ?_ (F.args_zip_iter_1 _))
  show wpAny _ _ (ret (.ref z)) _ _ s
  exact wpAny_pure ⟨_, rfl, "zip", _, hT, F.slot_zip_next.lookup, h⟩
end

/-! ### it begins -/
abbrev sP (h : Heap) (o1 o2 : Obj) : Heap := ((h.push o1).push o2).push { cls := .type "tuple", data := .seq #[.ref h.objs.size, .ref (h.push o1).objs.size] }
abbrev sU (h : Heap) (o1 o2 : Obj) : Heap := (sP h o1 o2).push { cls := .type "tuple", data := .seq #[.none, .none] }
abbrev sZ (h : Heap) (o1 o2 : Obj) : Heap := (sU h o1 o2).push { cls := .type "zip", data := .fields #[.none, .bool false, .bool true, .ref ((h.push o1).push o2).objs.size, .ref (sP h o1 o2).objs.size] }
theorem typeCall_szip (a b c : Value) : checkTypeCall "zip" ⟨[a, b], [(Str.ofString "strict", c)]⟩ = pure () := by kernel_rfl
theorem newCall_szip (a b c : Value) : checkBuiltinCall "zip.__new__" ⟨[.type "zip", a, b], [(Str.ofString "strict", c)]⟩ = pure () := by kernel_rfl
theorem args_szip (obj a b c : Value) : argsOk "object.__init__" ⟨[obj, a, b], [(Str.ofString "strict", c)]⟩ := by unfold argsOk; kernel_rfl
theorem szip_new {v1 v2 : Value} {o1 o2 : Obj} {H1 H2 : Heap → Prop} (B1 : Begins v1 o1 H1) (B2 : Begins v2 o2 H2) :
    Meets (Builtin.«zip.__new__» ⟨[.type "zip", v1, v2], [(Str.ofString "strict", .bool true)]⟩) (fun _ R s => (H1 s.heap ∧ H2 s.heap) ∧
      R (.ok (.ret (.ref (sU s.heap o1 o2).objs.size))) { s with heap := sZ s.heap o1 o2 }) :=
  .of_wp fun prog w A R s h => by
    obtain ⟨hp, g, d, tk, os⟩ := s; obtain ⟨⟨h1, h2⟩, h⟩ := h
    have hsub := sub_zip
    have w1 : (Str.ofString "strict" != ("strict" : Str)) = false := by decide +kernel
    have q1 : ∀ {A' : Around} {E : Value → Shared → Prop} {Q : Value → Shared → Prop}, Q (.ref hp.objs.size) ⟨(hp.push o1), g, d, tk, os⟩ → wpAny (model prog w) A' (pyIter v1) Q E ⟨hp, g, d, tk, os⟩ :=
      fun q => B1.iter prog w _ _ ⟨hp, g, d, tk, os⟩ _ h1 q
    have q2 : ∀ {A' : Around} {E : Value → Shared → Prop} {Q : Value → Shared → Prop}, Q (.ref (hp.push o1).objs.size) ⟨((hp.push o1).push o2), g, d, tk, os⟩ → wpAny (model prog w) A' (pyIter v2) Q E ⟨(hp.push o1), g, d, tk, os⟩ :=
      fun q => B2.iter prog w _ _ ⟨(hp.push o1), g, d, tk, os⟩ _ (B2.keeps _ _ h2 fun b o' e => Heap.get?_push_of_some _ e) q
    wp_walk using q1, q2
    exact ⟨_, rfl, h⟩
end Cs
end
section
set_option maxRecDepth 100000
set_option maxHeartbeats 4000000
/-! What a loop walks: zip(tuple, tuple, strict=True), zip(tuple, list). Printed by gen_zipb.py. -/
namespace Cs
open PySem PySem.Spec PyProof.Rows L2 SX

section
variable {M : Model} {A : Around} {E : Value → Shared → Prop} {s : Shared} {env : Env}
theorem ty_kw {pos : Pos} {T : String} {first : List Value} {args : List (Bool × Sem Value)} {kws : List (Option Str × Sem Value)} {Q : Value → Shared → Prop} (hp : args.any (·.1) = false) (hk : kws.any (·.1.isNone) = false)
    (h : wpAny M A (evalArgs (.type T) true args kws) (fun a s₁ => wpAny M A (call (.type T) (first ++ a.pos) a.kw) Q E s₁) E s) : wpAny M A (callWith pos (.type T) first args kws) Q E s := by
  unfold callWith
  refine wpAny_bind (wpAny_holding (wpAny_mono h (fun a s₁ h₁ => wpAny_bind (wpAny_standAt ?_)) fun _ _ x => x))
  simp only [hp, hk, Bool.or_false]
  exact wpAny_bind (wpAny_pure (wpAny_bind (wpAny_mono h₁ (fun r s₂ hr => wpAny_bind (wpAny_holding (wpAny_point (wpAny_pure hr)))) fun _ _ x => x)))
end
/-- five new cells at the heap's end are an iterator's own -/
theorem five {X : Cx} {pins : List (Addr × Obj)} {σ : L2.St} {H : Hp} {s : Shared} (I : Inv X pins σ H s) : ∀ c ∈ ([s.heap.objs.size + 4, s.heap.objs.size + 2, s.heap.objs.size + 3, s.heap.objs.size, s.heap.objs.size + 1] : List Addr), FpOk X pins H c := fun c hc => by
  have hle : s.heap.objs.size ≤ c := by
    have e' : c = s.heap.objs.size + 4 ∨ c = s.heap.objs.size + 2 ∨ c = s.heap.objs.size + 3 ∨ c = s.heap.objs.size ∨ c = s.heap.objs.size + 1 := by simpa using hc
    rcases e' with z | z | z | z | z
    · rw [z]; exact Nat.le_add_right _ _
    · rw [z]; exact Nat.le_add_right _ _
    · rw [z]; exact Nat.le_add_right _ _
    · rw [z]; exact Nat.le_refl _
    · rw [z]; exact Nat.le_add_right _ _
  exact I.fpOk hle (I.hok.fresh hle)
section
variable {prog : Program} {w : World} {A : Around} {E : Value → Shared → Prop} {s : Shared}
theorem szip_begins {v1 v2 : Value} {o1 o2 : Obj} {H1 H2 : Heap → Prop} {Q : Value → Shared → Prop} (B1 : Begins v1 o1 H1) (B2 : Begins v2 o2 H2) (h1 : H1 s.heap) (h2 : H2 s.heap)
    (q : ∀ h', SZip h' (s.heap.objs.size + 4) (s.heap.objs.size + 2) (s.heap.objs.size + 3) .none → IsTupOf2 h' (s.heap.objs.size + 2) (.ref s.heap.objs.size) (.ref (s.heap.objs.size + 1)) → IsTupOf2 h' (s.heap.objs.size + 3) .none .none →
      h'.get? s.heap.objs.size = some o1 → h'.get? (s.heap.objs.size + 1) = some o2 → (∀ c o, s.heap.get? c = some o → h'.get? c = some o) → Q (.ref (s.heap.objs.size + 4)) { s with heap := h' }) :
    wpAny (model prog w) A (call (.type "zip") [v1, v2] [(Str.ofString "strict", .bool true)]) Q E s := by
  refine callType_newKw F.called_zip (by decide) (typeCall_szip _ _ _) (newCall_szip _ _ _) (fun obj => args_szip obj _ _ _) F.entry_zip_new (szip_new B1 B2) ⟨⟨h1, h2⟩, ?_⟩
  have e1 : (s.heap.push o1).objs.size = s.heap.objs.size + 1 := Heap.size_push ..
  have e2 : ((s.heap.push o1).push o2).objs.size = s.heap.objs.size + 2 := by rw [Heap.size_push, e1]
  have e3 : (sP s.heap o1 o2).objs.size = s.heap.objs.size + 3 := by rw [Heap.size_push, e2]
  have e4 : (sU s.heap o1 o2).objs.size = s.heap.objs.size + 4 := by rw [Heap.size_push, e3]
  have c4 : (sZ s.heap o1 o2).get? (sU s.heap o1 o2).objs.size = some { cls := .type "zip", data := .fields #[.none, .bool false, .bool true, .ref ((s.heap.push o1).push o2).objs.size, .ref (sP s.heap o1 o2).objs.size] } := Heap.get?_push_size _ rfl
  have c3 : (sZ s.heap o1 o2).get? (sP s.heap o1 o2).objs.size = some { cls := .type "tuple", data := .seq #[.none, .none] } := Heap.get?_push_of_some _ (Heap.get?_push_size _ rfl)
  have c2 : (sZ s.heap o1 o2).get? ((s.heap.push o1).push o2).objs.size = some { cls := .type "tuple", data := .seq #[.ref s.heap.objs.size, .ref (s.heap.push o1).objs.size] } := Heap.get?_push_of_some _ (Heap.get?_push_of_some _ (Heap.get?_push_size _ rfl))
  have c0 : (sZ s.heap o1 o2).get? s.heap.objs.size = some o1 := Heap.get?_push_of_some _ (Heap.get?_push_of_some _ (Heap.get?_push_of_some _ (Heap.get?_push_of_some _ (Heap.get?_push_size _ B1.free))))
  have c1 : (sZ s.heap o1 o2).get? (s.heap.push o1).objs.size = some o2 := Heap.get?_push_of_some _ (Heap.get?_push_of_some _ (Heap.get?_push_of_some _ (Heap.get?_push_size _ B2.free)))
  rw [e4, e3, e2] at c4
  rw [e3] at c3
  rw [e2, e1] at c2
  rw [e1] at c1
  show _ ∧ _
  rw [e4]
  exact ⟨⟨_, c4, rfl⟩, q _ c4 c2 c3 c0 c1 fun c o x => Heap.get?_push_of_some _ (Heap.get?_push_of_some _ (Heap.get?_push_of_some _ (Heap.get?_push_of_some _ (Heap.get?_push_of_some _ x))))⟩
end

/-! ### strict, two tuples -/
def ItZS (K : PySem.W.Frag) (a b : Addr) : It :=
  ⟨fun i H => ∃ xs ys x y, H a = some (.tup xs) ∧ H b = some (.tup ys) ∧ xs[i]? = some x ∧ ys[i]? = some y,
    fun i H v H' => ∃ T x y, v = .ref T ∧ H T = none ∧ H' = upd H T (.tup [x, y]) ∧ (∀ xs, H a = some (.tup xs) → xs[i]? = some x) ∧ ∀ ys, H b = some (.tup ys) → ys[i]? = some y,
    fun i H => ∃ xs ys, H a = some (.tup xs) ∧ H b = some (.tup ys) ∧ xs.length = i ∧ ys.length = i⟩
theorem turn_zs {P : Program} {w : World} {K : PySem.W.Frag} {elts : List Expr} {kk : Nat} {tpos : Pos} {a b z U V j1 j2 : Addr} (S : ZipSep2 z U V j1 j2 [j1, a] [j2, b]) :
    Turn P w K (.Tuple elts kk tpos) (ItZS K a b) [z, U, V, j1, j2] z (fun i h => SZip h z U V .none ∧ IsTupOf2 h U (.ref j1) (.ref j2) ∧ (∃ x y, IsTupOf2 h V x y) ∧ h.IsTupleIter j1 a i ∧ h.IsTupleIter j2 b i) where
  mem := by simp
  obj := fun i h st c hc => by
    obtain ⟨hz, hU, ⟨x, y, hV⟩, ⟨o1, e1, _, d1⟩, ⟨o2, e2, _, d2⟩⟩ := st
    have e' : c = z ∨ c = U ∨ c = V ∨ c = j1 ∨ c = j2 := by simpa using hc
    rcases e' with q | q | q | q | q
    · rw [q]; exact ⟨_, hz, fun v q => nomatch q⟩
    · rw [q]; exact ⟨_, hU, fun v q => nomatch q⟩
    · rw [q]; exact ⟨_, hV, fun v q => nomatch q⟩
    · rw [q]; exact ⟨o1, e1, fun v q => by rw [d1] at q; cases q⟩
    · rw [q]; exact ⟨o2, e2, fun v q => by rw [d2] at q; cases q⟩
  keep := fun i h h' st k => by
    obtain ⟨hz, hU, ⟨x, y, hV⟩, h1, h2⟩ := st
    exact ⟨k z (by simp) _ hz, k U (by simp) _ hU, ⟨x, y, k V (by simp) _ hV⟩, h1.at fun o q => k j1 (by simp) o q, h2.at fun o q => k j2 (by simp) o q⟩
  item := by
    intro X hP hw hK hc i pins s σ H E I hf st hg
    subst hP hw hK
    obtain ⟨hz, hU, ⟨x0, y0, hV⟩, h1, h2⟩ := st
    obtain ⟨xs, ys, x, y, hqx, hqy, hx, hy⟩ := hg
    obtain ⟨its, rv, p, _⟩ := I.tuple (SqT.of (K := X.K) hqx)
    obtain ⟨its2, rv2, p2, _⟩ := I.tuple (SqT.of (K := X.K) hqy)
    obtain ⟨u, hu, ru⟩ := rv.get hx
    obtain ⟨u2, hu2, ru2⟩ := rv2.get hy
    have na : a ≠ j1 := fun e => by
      have q := (hf j1 (by simp)).1
      rw [← e, hqx] at q
      cases q
    have nb : b ≠ j2 := fun e => by
      have q := (hf j2 (by simp)).1
      rw [← e, hqy] at q
      cases q
    have D1 := Draws.tuple (prog := X.prog) (w := X.w) (A := X.A.in1) (I.ok.hd hc) j1 a na its.toArray
    have D2 := Draws.tuple (prog := X.prog) (w := X.w) (A := X.A.in1) (I.ok.hd hc) j2 b nb its2.toArray
    have lu : i < its.toArray.size := by
      rw [List.size_toArray]
      exact (List.getElem?_eq_some_iff.mp hu).1
    have lu2 : i < its2.toArray.size := by
      rw [List.size_toArray]
      exact (List.getElem?_eq_some_iff.mp hu2).1
    have hzl : z < s.heap.objs.size := Heap.lt_size hz
    refine snext_item S D1 D2 hz hU hV ⟨h1, p⟩ ⟨h2, p2⟩ lu lu2 fun u' u2' h' tk e1 e2 z' V' t1 t2 hT hk => ?_
    have eu : u' = u := by
      have q : its.toArray[i]? = some u' := e1
      rw [show its.toArray[i]? = some u by simpa using hu] at q
      exact (Option.some.inj q).symm
    have eu2 : u2' = u2 := by
      have q : its2.toArray[i]? = some u2' := e2
      rw [show its2.toArray[i]? = some u2 by simpa using hu2] at q
      exact (Option.some.inj q).symm
    subst eu eu2
    refine ⟨_, rfl, slet (s := { s with heap := h', toks := tk }) z' fun h'' z'' sb => ?_⟩
    have hT2 : h''.get? s.heap.objs.size = some { cls := .type "tuple", data := .seq #[u', u2'] } := (sb.2 _ (Nat.ne_of_gt hzl)).trans hT
    have new : ObjOk X.prog X.w (upd H s.heap.objs.size (.tup [x, y])) h'' s.heap.objs.size (.tup [x, y]) := ⟨by show 2 ≤ sizeLine; decide, [u', u2'], .cons ru (.cons ru2 .nil), ⟨_, hT2, rfl, _, rfl⟩⟩
    have I1 : Inv X pins σ (upd H s.heap.objs.size (.tup [x, y])) { s with heap := h'', toks := tk } :=
      I.turnedNew (t' := tk) (ch := [z, U, V, j1, j2]) (fun c o hb q => (sb.2 c (fun q' => hb (by simp [q']))).trans (hk c o (fun q' => hb (by simp [q'])) (fun q' => hb (by simp [q'])) (fun q' => hb (by simp [q'])) (fun q' => hb (by simp [q'])) q)) hf (Nat.le_refl _) new
    refine ⟨.ref s.heap.objs.size, _, I1, rfl, ⟨_, x, y, rfl, I.hok.fresh (Nat.le_refl _), rfl, fun l hl => ?_, fun l hl => ?_⟩, ⟨z'', ?_, ⟨u', u2', ?_⟩, ?_, ?_⟩, fun c hcm => ?_⟩
    · rw [hqx] at hl
      cases hl
      exact hx
    · rw [hqy] at hl
      cases hl
      exact hy
    · exact (sb.2 _ S.TIz).trans (hk _ _ S.TIz S.TITO S.TIi1 S.TIi2 hU)
    · exact (sb.2 _ S.TOz).trans V'
    · exact t1.1.at fun o q => (sb.2 _ S.zi1.symm).trans q
    · exact t2.1.at fun o q => (sb.2 _ S.zi2.symm).trans q
    · have hlt : c < s.heap.objs.size := by
        have e' : c = z ∨ c = U ∨ c = V ∨ c = j1 ∨ c = j2 := by simpa using hcm
        rcases e' with q | q | q | q | q
        · rw [q]; exact hzl
        · rw [q]; exact Heap.lt_size hU
        · rw [q]; exact Heap.lt_size hV
        · rw [q]; obtain ⟨_, q1, _⟩ := h1; exact Heap.lt_size q1
        · rw [q]; obtain ⟨_, q2, _⟩ := h2; exact Heap.lt_size q2
      rw [upd_ne (Nat.ne_of_lt hlt)]
      exact (hf c hcm).1
  done := by
    intro X hP hw hK hc i pins s σ H E I hf st hg
    subst hP hw hK
    obtain ⟨hz, hU, ⟨x0, y0, hV⟩, h1, h2⟩ := st
    obtain ⟨xs, ys, hqx, hqy, l1, l2⟩ := hg
    obtain ⟨its, rv, p, _⟩ := I.tuple (SqT.of (K := X.K) hqx)
    obtain ⟨its2, rv2, p2, _⟩ := I.tuple (SqT.of (K := X.K) hqy)
    have m1 : its.toArray.size = i := by rw [List.size_toArray, ← rv.length, l1]
    have m2 : its2.toArray.size = i := by rw [List.size_toArray, ← rv2.length, l2]
    have na : a ≠ j1 := fun e => by
      have q := (hf j1 (by simp)).1
      rw [← e, hqx] at q
      cases q
    have nb : b ≠ j2 := fun e => by
      have q := (hf j2 (by simp)).1
      rw [← e, hqy] at q
      cases q
    have D1 := Draws.tuple (prog := X.prog) (w := X.w) (A := X.A.in1) (I.ok.hd hc) j1 a na its.toArray
    have D2 := Draws.tuple (prog := X.prog) (w := X.w) (A := X.A.in1) (I.ok.hd hc) j2 b nb its2.toArray
    refine snext_end (I.ok.hd hc) S D1 D2 hz hU hV ⟨by rw [m1]; exact h1, p⟩ ⟨by rw [m2]; exact h2, p2⟩ fun h' tk hk => ⟨rfl, I.turnedL (t' := tk) (ch := [z, U, V, j1, j2]) (fun c o hb q =>
      hk c o (fun q' => hb (by simp [q'])) (fun q' => hb (by simp [q'])) (fun q' => hb (by simp [q'])) (fun q' => hb (by simp [q'])) q) hf⟩
  self := fun A i s Q E st h => siter st.1 h
def iZipS (K : PySem.W.Frag) (ta : TA) : TI := fun σ H R => ta σ H fun vs H1 => ∃ a b xs ys, vs = [.ref a, .ref b] ∧ H1 a = some (.tup xs) ∧ H1 b = some (.tup ys) ∧ R (ItZS K a b) H1
theorem pi_zipS {X : Cx} {e e2 : Expr} {ta : TA} {p pos tpos p3 p4 : Pos} {elts : List Expr} {kk k3 : Nat} (hg : Gl X "zip") (hm : X.mg "zip" = none) (ha : PA X [e, e2] ta)
    (hs : starEach [e, e2] X.env = (false, eval e X.env) :: starEach [e2] X.env := by rfl) (hpl : (backTo pos (starEach [e2] X.env)).any (·.1) = false := by rfl) :
    PI X (.Tuple elts kk tpos) (.Call (.Name "zip" p) [e, e2] [⟨some "strict", .Constant (.bool true) k3 p3, p4⟩] pos) (iZipS X.K ta) := by
  refine ⟨fun pins s σ H R I h => ?_⟩
  have hb : backTo pos (starEach [e, e2] X.env) = (false, eval e X.env) :: backTo pos (starEach [e2] X.env) := by
    rw [hs]
    rfl
  have hev : eval (.Call (.Name "zip" p) [e, e2] [⟨some "strict", .Constant (.bool true) k3 p3, p4⟩] pos) X.env = (do callWith pos (← eval (.Name "zip" p) X.env) [] (backTo pos (starEach [e, e2] X.env)) (backToKw pos (keywordEach [⟨some "strict", .Constant (.bool true) k3 p3, p4⟩] X.env))) := by rfl
  have hr := ha.run pos pins s σ H _ I h
  rw [hev]
  refine wpAny_bind (ld_blt I hg hm PyProof.Rows.boot_zip (ty_kw (by
    rw [hb]
    show (false || (backTo pos (starEach [e2] X.env)).any (·.1)) = false
    rw [hpl]
    rfl) (by rfl) ?_))
  rw [hb] at hr ⊢
  refine evalArgs_kwB (by rfl) (thn hr fun us s1 ⟨vs, H1, I1, r1, q1⟩ => kws_cons (Constant_bool (kws_nil ?_)))
  obtain ⟨a, b, xs, ys, ex, hqx, hqy, q⟩ := q1
  subst ex
  cases r1 with
  | cons r rr =>
    cases rr with
    | cons r' rr =>
      cases rr
      cases r
      cases r'
      
      obtain ⟨its, rv, p1, _⟩ := I1.tuple (SqT.of (K := X.K) hqx)
      obtain ⟨its2, rv2, p2, _⟩ := I1.tuple (SqT.of (K := X.K) hqy)
      have la : a < s1.heap.objs.size := by
        obtain ⟨o, ho, _⟩ := id p1
        exact Heap.lt_size ho
      have lb : b < s1.heap.objs.size := by
        obtain ⟨o, ho, _⟩ := id p2
        exact Heap.lt_size ho
      refine szip_begins (begins_tuple a its.toArray) (begins_tuple b its2.toArray) p1 p2 fun h' hz hU hV g1 g2 hk => siter hz ?_
      refine ⟨s1.heap.objs.size + 4, [s1.heap.objs.size + 4, s1.heap.objs.size + 2, s1.heap.objs.size + 3, s1.heap.objs.size, s1.heap.objs.size + 1], _, _, H1, rfl, I1.kept (t' := s1.toks) hk,
        turn_zs (zip_sep2 (N := s1.heap.objs.size) (fp1 := [a]) (fp2 := [b]) (fun c hc => by rw [List.mem_singleton] at hc; rw [hc]; exact la) (fun c hc => by rw [List.mem_singleton] at hc; rw [hc]; exact lb)),
        ⟨hz, hU, ⟨_, _, hV⟩, ⟨_, g1, rfl, rfl⟩, ⟨_, g2, rfl, rfl⟩⟩, five I1, q⟩

/-! ### a tuple and a list -/
def ItZM (K : PySem.W.Frag) (a b : Addr) : It :=
  ⟨fun i H => ∃ xs ys x y, H a = some (.tup xs) ∧ SqL K H b ys ∧ xs[i]? = some x ∧ ys[i]? = some y,
    fun i H v H' => ∃ T x y, v = .ref T ∧ H T = none ∧ H' = upd H T (.tup [x, y]) ∧ (∀ xs, H a = some (.tup xs) → xs[i]? = some x) ∧ ∀ ys, SqL K H b ys → ys[i]? = some y,
    fun i H => ∃ xs ys, H a = some (.tup xs) ∧ SqL K H b ys ∧ xs.length = i ∧ ys.length = i⟩
theorem turn_zm {P : Program} {w : World} {K : PySem.W.Frag} {elts : List Expr} {kk : Nat} {tpos : Pos} {a b z U V j1 j2 : Addr} (S : ZipSep2 z U V j1 j2 [j1, a] [j2, b]) :
    Turn P w K (.Tuple elts kk tpos) (ItZM K a b) [z, U, V, j1, j2] z (fun i h => IsZip h z U V .none ∧ IsTupOf2 h U (.ref j1) (.ref j2) ∧ (∃ x y, IsTupOf2 h V x y) ∧ h.IsTupleIter j1 a i ∧ h.IsListIter j2 b i) where
  mem := by simp
  obj := fun i h st c hc => by
    obtain ⟨hz, hU, ⟨x, y, hV⟩, ⟨o1, e1, _, d1⟩, ⟨o2, e2, _, d2⟩⟩ := st
    have e' : c = z ∨ c = U ∨ c = V ∨ c = j1 ∨ c = j2 := by simpa using hc
    rcases e' with q | q | q | q | q
    · rw [q]; exact ⟨_, hz, fun v q => nomatch q⟩
    · rw [q]; exact ⟨_, hU, fun v q => nomatch q⟩
    · rw [q]; exact ⟨_, hV, fun v q => nomatch q⟩
    · rw [q]; exact ⟨o1, e1, fun v q => by rw [d1] at q; cases q⟩
    · rw [q]; exact ⟨o2, e2, fun v q => by rw [d2] at q; cases q⟩
  keep := fun i h h' st k => by
    obtain ⟨hz, hU, ⟨x, y, hV⟩, h1, h2⟩ := st
    exact ⟨k z (by simp) _ hz, k U (by simp) _ hU, ⟨x, y, k V (by simp) _ hV⟩, h1.at fun o q => k j1 (by simp) o q, h2.at fun o q => k j2 (by simp) o q⟩
  item := by
    intro X hP hw hK hc i pins s σ H E I hf st hg
    subst hP hw hK
    obtain ⟨hz, hU, ⟨x0, y0, hV⟩, h1, h2⟩ := st
    obtain ⟨xs, ys, x, y, hqx, hqy, hx, hy⟩ := hg
    obtain ⟨its, rv, p, _⟩ := I.tuple (SqT.of (K := X.K) hqx)
    obtain ⟨its2, rv2, p2, _⟩ := I.list hqy
    obtain ⟨u, hu, ru⟩ := rv.get hx
    obtain ⟨u2, hu2, ru2⟩ := rv2.get hy
    have na : a ≠ j1 := fun e => by
      have q := (hf j1 (by simp)).1
      rw [← e, hqx] at q
      cases q
    have nb : b ≠ j2 := fun e => by
      have q := (hf j2 (by simp)).1
      obtain ⟨ob, hob, _, _, hdb⟩ := p2.isList
      obtain ⟨oj, hoj, _, hdj⟩ := h2
      rw [e, hoj] at hob
      cases hob
      rw [hdj] at hdb
      cases hdb
    have D1 := Draws.tuple (prog := X.prog) (w := X.w) (A := X.A.in1) (I.ok.hd hc) j1 a na its.toArray
    have D2 := Draws.list (prog := X.prog) (w := X.w) (A := X.A.in1) (I.ok.hd hc) j2 b nb its2.toArray
    have lu : i < its.toArray.size := by
      rw [List.size_toArray]
      exact (List.getElem?_eq_some_iff.mp hu).1
    have lu2 : i < its2.toArray.size := by
      rw [List.size_toArray]
      exact (List.getElem?_eq_some_iff.mp hu2).1
    have hzl : z < s.heap.objs.size := Heap.lt_size hz
    refine wpAny_pyNext_zipD2_item S D1 D2 hz hU hV ⟨h1, p⟩ ⟨h2, p2.isList⟩ lu lu2 fun u' u2' h' tk e1 e2 z' V' t1 t2 hT _ hk => ?_
    have eu : u' = u := by
      have q : its.toArray[i]? = some u' := e1
      rw [show its.toArray[i]? = some u by simpa using hu] at q
      exact (Option.some.inj q).symm
    have eu2 : u2' = u2 := by
      have q : its2.toArray[i]? = some u2' := e2
      rw [show its2.toArray[i]? = some u2 by simpa using hu2] at q
      exact (Option.some.inj q).symm
    subst eu eu2
    refine ⟨_, rfl, wpAny_letOwnedTupleGo_zip (s := { s with heap := h', toks := tk }) z' fun h'' z'' sb => ?_⟩
    have hT2 : h''.get? s.heap.objs.size = some { cls := .type "tuple", data := .seq #[u', u2'] } := (sb.2 _ (Nat.ne_of_gt hzl)).trans hT
    have new : ObjOk X.prog X.w (upd H s.heap.objs.size (.tup [x, y])) h'' s.heap.objs.size (.tup [x, y]) := ⟨by show 2 ≤ sizeLine; decide, [u', u2'], .cons ru (.cons ru2 .nil), ⟨_, hT2, rfl, _, rfl⟩⟩
    have I1 : Inv X pins σ (upd H s.heap.objs.size (.tup [x, y])) { s with heap := h'', toks := tk } :=
      I.turnedNew (t' := tk) (ch := [z, U, V, j1, j2]) (fun c o hb q => (sb.2 c (fun q' => hb (by simp [q']))).trans (hk c o (fun q' => hb (by simp [q'])) (fun q' => hb (by simp [q'])) (fun q' => hb (by simp [q'])) (fun q' => hb (by simp [q'])) q)) hf (Nat.le_refl _) new
    refine ⟨.ref s.heap.objs.size, _, I1, rfl, ⟨_, x, y, rfl, I.hok.fresh (Nat.le_refl _), rfl, fun l hl => ?_, fun l hl => ?_⟩, ⟨z'', ?_, ⟨u', u2', ?_⟩, ?_, ?_⟩, fun c hcm => ?_⟩
    · rw [hqx] at hl
      cases hl
      exact hx
    · rw [I.list_inj hl hqy]
      exact hy
    · exact (sb.2 _ S.TIz).trans (hk _ _ S.TIz S.TITO S.TIi1 S.TIi2 hU)
    · exact (sb.2 _ S.TOz).trans V'
    · exact t1.1.at fun o q => (sb.2 _ S.zi1.symm).trans q
    · exact t2.1.at fun o q => (sb.2 _ S.zi2.symm).trans q
    · have hlt : c < s.heap.objs.size := by
        have e' : c = z ∨ c = U ∨ c = V ∨ c = j1 ∨ c = j2 := by simpa using hcm
        rcases e' with q | q | q | q | q
        · rw [q]; exact hzl
        · rw [q]; exact Heap.lt_size hU
        · rw [q]; exact Heap.lt_size hV
        · rw [q]; obtain ⟨_, q1, _⟩ := h1; exact Heap.lt_size q1
        · rw [q]; obtain ⟨_, q2, _⟩ := h2; exact Heap.lt_size q2
      rw [upd_ne (Nat.ne_of_lt hlt)]
      exact (hf c hcm).1
  done := by
    intro X hP hw hK hc i pins s σ H E I hf st hg
    subst hP hw hK
    obtain ⟨hz, hU, ⟨x0, y0, hV⟩, h1, h2⟩ := st
    obtain ⟨xs, ys, hqx, hqy, l1, l2⟩ := hg
    obtain ⟨its, rv, p, _⟩ := I.tuple (SqT.of (K := X.K) hqx)
    obtain ⟨its2, rv2, p2, _⟩ := I.list hqy
    have m1 : its.toArray.size = i := by rw [List.size_toArray, ← rv.length, l1]
    have m2 : its2.toArray.size = i := by rw [List.size_toArray, ← rv2.length, l2]
    have na : a ≠ j1 := fun e => by
      have q := (hf j1 (by simp)).1
      rw [← e, hqx] at q
      cases q
    have nb : b ≠ j2 := fun e => by
      have q := (hf j2 (by simp)).1
      obtain ⟨ob, hob, _, _, hdb⟩ := p2.isList
      obtain ⟨oj, hoj, _, hdj⟩ := h2
      rw [e, hoj] at hob
      cases hob
      rw [hdj] at hdb
      cases hdb
    have D1 := Draws.tuple (prog := X.prog) (w := X.w) (A := X.A.in1) (I.ok.hd hc) j1 a na its.toArray
    have D2 := Draws.list (prog := X.prog) (w := X.w) (A := X.A.in1) (I.ok.hd hc) j2 b nb its2.toArray
    refine wpAny_pyNext_zipD2_end (i := i) S D1 D2 hz hU hV ⟨h1, p⟩ ⟨h2, p2.isList⟩ (by omega) (by omega) (.inl m1.symm) fun h' tk hk => ⟨rfl, I.turnedL (t' := tk) (ch := [z, U, V, j1, j2]) (fun c o hb q =>
      hk c o (fun q' => hb (by simp [q'])) (fun q' => hb (by simp [q'])) (fun q' => hb (by simp [q'])) (fun q' => hb (by simp [q'])) q) hf⟩
  self := fun A i s Q E st h => wpAny_pyIter_zip st.1 h
def iZipM (K : PySem.W.Frag) (ta : TA) : TI := fun σ H R => ta σ H fun vs H1 => ∃ a b xs ys, vs = [.ref a, .ref b] ∧ H1 a = some (.tup xs) ∧ SqL K H1 b ys ∧ R (ItZM K a b) H1
theorem pi_zipM {X : Cx} {e e2 : Expr} {ta : TA} {p pos tpos : Pos} {elts : List Expr} {kk : Nat} (hg : Gl X "zip") (hm : X.mg "zip" = none) (ha : PA X [e, e2] ta)
    (hs : starEach [e, e2] X.env = (false, eval e X.env) :: starEach [e2] X.env := by rfl) (hpl : (backTo pos (starEach [e2] X.env)).any (·.1) = false := by rfl) :
    PI X (.Tuple elts kk tpos) (.Call (.Name "zip" p) [e, e2] [] pos) (iZipM X.K ta) := by
  refine ⟨fun pins s σ H R I h => ?_⟩
  refine Call_ (ld_blt I hg hm PyProof.Rows.boot_zip (PyProof.Rows.callWith_type1 (thn (ha.run pos pins s σ H _ I h) fun us s1 ⟨vs, H1, I1, r1, q1⟩ => ?_) hs hpl))
  obtain ⟨a, b, xs, ys, ex, hqx, hqy, q⟩ := q1
  subst ex
  cases r1 with
  | cons r rr =>
    cases rr with
    | cons r' rr =>
      cases rr
      cases r
      cases r'
      
      obtain ⟨its, rv, p1, _⟩ := I1.tuple (SqT.of (K := X.K) hqx)
      obtain ⟨its2, rv2, p2, _⟩ := I1.list hqy
      have la : a < s1.heap.objs.size := by
        obtain ⟨o, ho, _⟩ := id p1
        exact Heap.lt_size ho
      have lb : b < s1.heap.objs.size := by
        exact p2.lt
      refine zip_begins2 (begins_tuple a its.toArray) (begins_list b its2.toArray) p1 p2.isList fun h' hz hU hV g1 g2 _ hk => wpAny_pyIter_zip hz ?_
      refine ⟨s1.heap.objs.size + 4, [s1.heap.objs.size + 4, s1.heap.objs.size + 2, s1.heap.objs.size + 3, s1.heap.objs.size, s1.heap.objs.size + 1], _, _, H1, rfl, I1.kept (t' := s1.toks) hk,
        turn_zm (zip_sep2 (N := s1.heap.objs.size) (fp1 := [a]) (fp2 := [b]) (fun c hc => by rw [List.mem_singleton] at hc; rw [hc]; exact la) (fun c hc => by rw [List.mem_singleton] at hc; rw [hc]; exact lb)),
        ⟨hz, hU, ⟨_, _, hV⟩, ⟨_, g1, rfl, rfl⟩, ⟨_, g2, rfl, rfl⟩⟩, five I1, q⟩
end Cs
end
section
set_option maxRecDepth 100000
set_option maxHeartbeats 4000000
/-! What stands in the heap: forms, pieces, lists of pieces; what is left as it was; data that is compared. -/
namespace Cs
open PySem PySem.Spec PyProof.Rows L2 SX

abbrev Piece := CS.Piece
/-- a form's numbers as values -/
abbrev iV (n : Nat) : V := .int (n : Int)
abbrev iD (n : Nat) : PyData := .int (n : Int)
abbrev tF (f : List Nat) : List V := f.map iV
def FormAt (H : Hp) (a : Addr) (f : List Nat) : Prop := H a = some (.tup (tF f))
def PieceAt (H : Hp) (a : Addr) (p : Piece) : Prop := ∃ b, H a = some (.tup [.str (S p.1), .ref b]) ∧ FormAt H b p.2
abbrev refs (as : List Addr) : List V := as.map V.ref
def PsAt (H : Hp) (as : List Addr) (ps : List Piece) : Prop := Paired (PieceAt H) as ps
theorem FormAt.same {H H' : Hp} {a : Addr} {f : List Nat} (h : FormAt H a f) (s : Same H H') : FormAt H' a f := s _ _ h
theorem PieceAt.same {H H' : Hp} {a : Addr} {p : Piece} (h : PieceAt H a p) (s : Same H H') : PieceAt H' a p :=
  let ⟨b, h1, h2⟩ := h
  ⟨b, s _ _ h1, h2.same s⟩
theorem PsAt.same {H H' : Hp} {as : List Addr} {ps : List Piece} (h : PsAt H as ps) (s : Same H H') : PsAt H' as ps := L2.Paired.mapP h fun _ _ q => q.same s

/-- all but what stands at g is as it was -/
def But (g : Addr) (H H' : Hp) : Prop := ∀ b o, b ≠ g → H b = some o → H' b = some o
theorem But.of {g : Addr} {H H' : Hp} (s : Same H H') : But g H H' := fun b o _ e => s b o e
theorem But.refl (g : Addr) (H : Hp) : But g H H := fun _ _ _ e => e
theorem But.trans {g : Addr} {H H1 H2 : Hp} (a : But g H H1) (b : But g H1 H2) : But g H H2 := fun c o n e => b c o n (a c o n e)
theorem But.upd {g : Addr} {H : Hp} {o : HO} : But g H (upd H g o) := fun b u n e => by rw [upd_ne n]; exact e
/-- what is changed is new -/
theorem But.new {g : Addr} {H H' : Hp} (b : But g H H') (n : H g = none) : Same H H' := fun c o e => b c o (ne_of_none e n) e
theorem But.tup {g : Addr} {H H' : Hp} {xs : List V} {o : HO} (b : But g H H') (hg : H g = some o) (ho : ∀ xs, o ≠ .tup xs) {a : Addr} (e : H a = some (.tup xs)) : H' a = some (.tup xs) :=
  b a _ (fun z => by rw [z, hg] at e; exact ho xs (Option.some.inj e)) e
theorem nlt {l ys : List V} : ∀ xs, (HO.lst l) ≠ HO.tup xs := fun xs e => by cases e
theorem FormAt.but {g : Addr} {H H' : Hp} {a : Addr} {f : List Nat} {l : List V} (h : FormAt H a f) (b : But g H H') (hg : H g = some (.lst l)) : FormAt H' a f := b.tup hg (fun xs e => by cases e) h
theorem PieceAt.but {g : Addr} {H H' : Hp} {a : Addr} {p : Piece} {l : List V} (h : PieceAt H a p) (b : But g H H') (hg : H g = some (.lst l)) : PieceAt H' a p :=
  let ⟨c, h1, h2⟩ := h
  ⟨c, b.tup hg (fun xs e => by cases e) h1, h2.but b hg⟩
theorem PsAt.but {g : Addr} {H H' : Hp} {as : List Addr} {ps : List Piece} {l : List V} (h : PsAt H as ps) (b : But g H H') (hg : H g = some (.lst l)) : PsAt H' as ps := L2.Paired.mapP h fun _ _ q => q.but b hg

theorem PsAt.len {H : Hp} {as : List Addr} {ps : List Piece} (h : PsAt H as ps) : as.length = ps.length := Paired.length h
theorem paired_app {α β : Type} {F : α → β → Prop} {xs xs' : List α} {ys ys' : List β} (h : Paired F xs ys) (h' : Paired F xs' ys') : Paired F (xs ++ xs') (ys ++ ys') := by
  induction h with
  | nil => exact h'
  | cons r t ih => exact .cons r ih
theorem paired_at {α β : Type} {F : α → β → Prop} {xs : List α} {ys : List β} (h : Paired F xs ys) : ∀ {i : Nat} {a : α}, xs[i]? = some a → ∃ b, ys[i]? = some b ∧ F a b := by
  induction h with
  | nil => intro i a e; simp at e
  | cons r t ih =>
    intro i a e
    cases i with
    | zero => simp at e; subst e; exact ⟨_, rfl, r⟩
    | succ i => simpa using ih (by simpa using e)
theorem paired_take {α β : Type} {F : α → β → Prop} {xs : List α} {ys : List β} (h : Paired F xs ys) : ∀ n, Paired F (xs.take n) (ys.take n) := by
  induction h with
  | nil => intro n; simp; exact .nil
  | cons r t ih => intro n; cases n with
    | zero => exact .nil
    | succ n => exact .cons r (ih n)
theorem paired_drop {α β : Type} {F : α → β → Prop} {xs : List α} {ys : List β} (h : Paired F xs ys) : ∀ n, Paired F (xs.drop n) (ys.drop n) := by
  induction h with
  | nil => intro n; simp; exact .nil
  | cons r t ih => intro n; cases n with
    | zero => exact .cons r t
    | succ n => exact ih n
theorem paired_rev {α β : Type} {F : α → β → Prop} {xs : List α} {ys : List β} (h : Paired F xs ys) : Paired F xs.reverse ys.reverse := by
  induction h with
  | nil => exact .nil
  | cons r t ih => rw [List.reverse_cons, List.reverse_cons]; exact paired_app ih (.cons r .nil)
/-- the last item apart -/
theorem paired_last {α β : Type} {F : α → β → Prop} {xs : List α} {ys : List β} {b : β} (h : Paired F xs (ys ++ [b])) : ∃ xs0 a, xs = xs0 ++ [a] ∧ Paired F xs0 ys ∧ F a b := by
  have hl := Paired.length h
  rw [List.length_append, List.length_singleton] at hl
  have hne : xs ≠ [] := fun e => by subst e; simp at hl
  have e := List.dropLast_concat_getLast hne
  have h1 := paired_take h ys.length
  have h2 := paired_drop h ys.length
  rw [List.take_left] at h1
  rw [List.drop_left] at h2
  have e1 : xs.take ys.length = xs.dropLast := by rw [List.dropLast_eq_take]; congr 1; omega
  have e2 : xs.drop ys.length = [xs.getLast hne] := by
    have hlen : xs.dropLast.length = ys.length := by rw [List.length_dropLast]; omega
    conv => lhs; rw [← e, ← hlen, List.drop_left]
  rw [e1] at h1
  rw [e2] at h2
  cases h2 with
  | cons r t => exact ⟨xs.dropLast, _, e.symm, h1, r⟩

/-! ### data that is compared -/
def dF (f : List Nat) : PyData := .tuple (f.map iD)
def dP (p : Piece) : PyData := .tuple [.str (S p.1), dF p.2]
section
variable {K : PySem.W.Frag} {H : Hp}
theorem dp_ints : ∀ f : List Nat, DpAll K H (tF f) (f.map iD)
  | [] => .nil
  | n :: f => .cons (.int _) (dp_ints f)
theorem FormAt.dp {a : Addr} {f : List Nat} (h : FormAt H a f) : Dp K H (.ref a) (dF f) := .tup (SqT.of h) (dp_ints f)
theorem PieceAt.dp {a : Addr} {p : Piece} (h : PieceAt H a p) : Dp K H (.ref a) (dP p) :=
  let ⟨b, h1, h2⟩ := h
  .tup (SqT.of h1) (.cons (.str _) (.cons h2.dp .nil))
theorem PsAt.dp {as : List Addr} {ps : List Piece} (h : PsAt H as ps) : DpAll K H (refs as) (ps.map dP) := by
  induction h with
  | nil => exact .nil
  | cons r t ih => exact .cons r.dp ih
end
theorem eqv_ints : ∀ f g : List Nat, PyData.eqvAll (f.map iD) (g.map iD) = decide (f = g)
  | [], [] => by simp [PyData.eqvAll]
  | [], _ :: _ => by simp [PyData.eqvAll]
  | _ :: _, [] => by simp [PyData.eqvAll]
  | a :: f, b :: g => by
    simp only [List.map_cons, PyData.eqvAll, PyData.eqv, eqv_ints f g]
    by_cases h : a = b
    · subst h; simp
    · have : ¬ ((a : Int) = (b : Int)) := by omega
      simp [h, this]
theorem eqv_F (f g : List Nat) : PyData.eqv (dF f) (dF g) = decide (f = g) := by
  unfold dF
  rw [PyData.eqv, eqv_ints]
theorem eqv_P (p q : Piece) : PyData.eqv (dP p) (dP q) = decide (p = q) := by
  obtain ⟨u, f⟩ := p
  obtain ⟨v, g⟩ := q
  unfold dP
  simp only [PyData.eqv, PyData.eqvAll, eqv_F, S_beq]
  by_cases h1 : u = v
  · by_cases h2 : f = g
    · subst h1 h2; simp
    · simp [h2]
  · have : (u == v) = false := beq_eq_false_iff_ne.mpr h1
    simp [h1, this]
theorem eqv_Ps : ∀ ps qs : List Piece, PyData.eqvAll (ps.map dP) (qs.map dP) = decide (ps = qs)
  | [], [] => by simp [PyData.eqvAll]
  | [], _ :: _ => by simp [PyData.eqvAll]
  | _ :: _, [] => by simp [PyData.eqvAll]
  | p :: ps, q :: qs => by
    simp only [List.map_cons, PyData.eqvAll, eqv_P, eqv_Ps ps qs]
    by_cases h : p = q
    · subst h; simp
    · simp [h]
theorem eqv_nil (ds : List PyData) : PyData.eqv (.list ds) (.list []) = ds.isEmpty := by
  cases ds <;> simp [PyData.eqv, PyData.eqvAll]
/-- signs that are letters -/
abbrev AZ (c : Nat) : Prop := 97 ≤ c ∧ c ≤ 122
abbrev Az (w : List Nat) : Prop := ∀ c ∈ w, AZ c
theorem ok_S {w : List Nat} (h : Az w) : PyData.strOk (S w) = true := by
  unfold PyData.strOk
  simp only [S, List.size_toArray, List.all_toArray', List.all_eq_true, decide_eq_true_eq]
  intro c hc
  have := (h c hc).2
  omega
theorem lay_F (f : List Nat) : PyData.canLayAll0 (f.map iD) = true := by
  induction f with
  | nil => rfl
  | cons n f ih => simp only [List.map_cons, PyData.canLayAll0, PyData.canLay0, ih]; rfl
theorem depth_F (f : List Nat) : PyData.depthAll (f.map iD) = 0 := by
  induction f with
  | nil => rfl
  | cons n f ih => simp only [List.map_cons, PyData.depthAll, PyData.depth, ih]; rfl
theorem sh_F (f : List Nat) : SeqAt.shaped (dF f) = true := by
  unfold SeqAt.shaped dF
  simp only [PyData.canLay0, PyData.depth, lay_F, depth_F]
  decide
theorem lay_Ps : ∀ ps : List Piece, (∀ p ∈ ps, Az p.1) → PyData.canLayAll0 (ps.map dP) = true
  | [], _ => rfl
  | p :: ps, h => by
    simp only [List.map_cons, PyData.canLayAll0, dP, dF, PyData.canLay0, lay_F, lay_Ps ps (fun q hq => h q (by simp [hq])), ok_S (h p (by simp))]
    rfl
theorem depth_Ps : ∀ ps : List Piece, PyData.depthAll (ps.map dP) ≤ 2
  | [] => Nat.zero_le _
  | p :: ps => by
    have := depth_Ps ps
    simp only [List.map_cons, PyData.depthAll, dP, dF, PyData.depth, depth_F]
    omega
theorem sh_list {ps : List Piece} (h : ∀ p ∈ ps, Az p.1) : SeqAt.shaped (.list (ps.map dP)) = true := by
  unfold SeqAt.shaped
  have := depth_Ps ps
  simp only [PyData.canLay0, PyData.depth, lay_Ps ps h, Bool.true_and]
  exact decide_eq_true (by omega)
theorem sh_tup {ps : List Piece} (h : ∀ p ∈ ps, Az p.1) : SeqAt.shaped (.tuple (ps.map dP)) = true := by
  unfold SeqAt.shaped
  have := depth_Ps ps
  simp only [PyData.canLay0, PyData.depth, lay_Ps ps h, Bool.true_and]
  exact decide_eq_true (by omega)
theorem sh_nil : SeqAt.shaped (.list []) = true := by decide

/-! ### walks over zip -/
theorem walk_zs {K : PySem.W.Frag} {a b : Addr} {xs ys : List V} (e : xs.length = ys.length) : Walk (ItZS K a b) xs.length (fun H => H a = some (.tup xs) ∧ H b = some (.tup ys)) (YPair (fun i => xs[i]?) (fun i => ys[i]?)) := by
  refine ⟨fun i _ hi q => ?_, fun _ q => ⟨xs, ys, q.1, q.2, rfl, e.symm⟩, fun i H v H' _ q y => ?_⟩
  · have h2 : i < ys.length := by omega
    exact ⟨xs, ys, xs[i], ys[i], q.1, q.2, by simp [hi], by simp [h2]⟩
  · obtain ⟨T, x, z, h1, h2, h3, h4, h5⟩ := y
    exact ⟨T, x, z, h1, h2, h3, h4 xs q.1, h5 ys q.2⟩
theorem walk_zm {K : PySem.W.Frag} {a b : Addr} {xs ys : List V} (e : xs.length = ys.length) : Walk (ItZM K a b) xs.length (fun H => H a = some (.tup xs) ∧ SqL K H b ys) (YPair (fun i => xs[i]?) (fun i => ys[i]?)) := by
  refine ⟨fun i _ hi q => ?_, fun _ q => ⟨xs, ys, q.1, q.2, rfl, e.symm⟩, fun i H v H' _ q y => ?_⟩
  · have h2 : i < ys.length := by omega
    exact ⟨xs, ys, xs[i], ys[i], q.1, q.2, by simp [hi], by simp [h2]⟩
  · obtain ⟨T, x, z, h1, h2, h3, h4, h5⟩ := y
    exact ⟨T, x, z, h1, h2, h3, h4 xs q.1, h5 ys q.2⟩

/-! ### small helps -/
theorem bl_true {p : Prop} [Decidable p] (h : p) : V.bl (decide p) = V.bl true := by rw [decide_eq_true h]
theorem bl_false {p : Prop} [Decidable p] (h : ¬ p) : V.bl (decide p) = V.bl false := by rw [decide_eq_false h]
theorem eqQ {Q : VK} {v w : V} {H : Hp} (e : v = w) (q : Q w H) : Q v H := by rw [e]; exact q
theorem sz {n : Nat} (h : n ≤ 1000000) : n ≤ sizeLine := Nat.le_trans h (by decide)
theorem szlt {n : Nat} (h : n < 1000000) : n < sizeLine := Nat.lt_trans h (by decide)
theorem map_at {α β : Type} {g : α → β} {xs : List α} {i : Nat} {x : β} (h : (xs.map g)[i]? = some x) : ∃ n, xs[i]? = some n ∧ x = g n := by
  rw [List.getElem?_map] at h
  cases e : xs[i]? with
  | none => rw [e] at h; cases h
  | some n => rw [e] at h; exact ⟨n, rfl, (Option.some.inj h).symm⟩
theorem at_lt {α : Type} {xs : List α} {i : Nat} {x : α} (h : xs[i]? = some x) : i < xs.length := (List.getElem?_eq_some_iff.mp h).1
theorem at_mem {α : Type} {xs : List α} {i : Nat} {x : α} (h : xs[i]? = some x) : x ∈ xs := List.mem_of_getElem? h
/-- a list in the making, item by item -/
def Grow (D : Addr) (H1 : Hp) (ys : List V) (i : Nat) (H : Hp) : Prop := But D H1 H ∧ H D = some (.lst (ys.take i))
theorem grow0 {D : Addr} {H1 : Hp} {ys : List V} : Grow D H1 ys 0 (upd H1 D (.lst [])) := ⟨But.upd, by rw [upd_same]; rfl⟩
theorem grow1 {D : Addr} {H1 H H' : Hp} {ys : List V} {i : Nat} {y : V} (g : Grow D H1 ys i H) (s : Same H H') (hy : ys[i]? = some y) (hl : ys.length < 1000000) :
    ∃ acc, H' D = some (.lst acc) ∧ acc.length < sizeLine ∧ Grow D H1 ys (i + 1) (upd H' D (.lst (acc ++ [y]))) := by
  refine ⟨ys.take i, s _ _ g.2, ?_, (g.1.trans (But.of s)).trans But.upd, ?_⟩
  · rw [List.length_take]
    exact szlt (by omega)
  · rw [upd_same, List.take_add_one, hy]
    rfl
theorem Grow.all {D : Addr} {H1 H : Hp} {ys : List V} (g : Grow D H1 ys ys.length H) (n : H1 D = none) : Same H1 H ∧ H D = some (.lst ys) := ⟨g.1.new n, by rw [g.2, List.take_length]⟩
theorem Grow.tup {D : Addr} {H1 H : Hp} {ys xs : List V} {i : Nat} {a : Addr} (g : Grow D H1 ys i H) (n : H1 D = none) (e : H1 a = some (.tup xs)) : H a = some (.tup xs) := g.1 a _ (ne_of_none e n) e
theorem Grow.same {D : Addr} {H1 H : Hp} {ys : List V} {i : Nat} (g : Grow D H1 ys i H) (n : H1 D = none) : Same H1 H := g.1.new n
theorem cut1 (xs : List V) : cutV xs (some 1) none = xs.drop 1 := slV_from xs 1
theorem sum_cast : ∀ t : List Nat, (t.map Int.ofNat).sum = ((t.sum : Nat) : Int)
  | [] => rfl
  | n :: t => by
    simp only [List.map_cons, List.sum_cons, sum_cast t]
    show (n : Int) + (t.sum : Nat) = _
    omega
theorem tF_ints (t : List Nat) : tF t = (t.map Int.ofNat).map V.int := by
  rw [List.map_map]
  rfl
/-- stripping letters leaves nothing -/
theorem strip_all {w b : List Nat} (h : ∀ c ∈ w, c ∈ b) : Txt.stripChars (S w) (S b) = S [] := by
  unfold Txt.stripChars
  have hg : ∀ c ∈ w, (S b).cps.contains c = true := fun c hc => by simpa [S] using h c hc
  have tw : ∀ (p : Nat → Bool) (l : List Nat), (∀ c ∈ l, p c = true) → l.takeWhile p = l := by
    intro p l
    induction l with
    | nil => intro _; rfl
    | cons c l ih => intro h; rw [List.takeWhile_cons, h c (by simp)]; simp only [if_true]; rw [ih fun d hd => h d (by simp [hd])]
  have e1 : w.takeWhile (S b).cps.contains = w := tw _ _ hg
  rw [stripBy_eq]
  have lo : stripLo (S b).cps.contains true (S w) = w.length := by
    unfold stripLo
    rw [if_pos rfl]
    show (w.takeWhile _).length = _
    rw [e1]
  rw [lo]
  have hi : stripHi (S b).cps.contains true (S w) w.length = w.length := by
    unfold stripHi
    rw [if_pos rfl]
    show (S w).length - ((w.drop w.length).reverse.takeWhile _).length = _
    rw [S_len, List.drop_length]
    rfl
  rw [hi]
  unfold Builtin.Str.strSub
  simp [S]

/-! ### slices with one end -/
section
variable {X : Cx}
theorem sl_Sto : SlR X (fun x lo hi H Q => ∃ (w : List Nat) (k : Nat), x = .str (S w) ∧ lo = none ∧ hi = some (k : Int) ∧ w.length ≤ sizeLine ∧ Q (.str (S (w.take k))) H) := by
  intro pins s σ H x v vl vu lo hi sl Q I rx hs pl pu h
  obtain ⟨w, k, hx, rfl, rfl, hz, q⟩ := h
  exact sl_S pins s σ H x v vl vu _ _ sl Q I rx hs pl pu ⟨w, hx, hz, by rw [sl_to]; exact q⟩
theorem sl_Sfrom : SlR X (fun x lo hi H Q => ∃ (w : List Nat) (k : Nat), x = .str (S w) ∧ lo = some (k : Int) ∧ hi = none ∧ w.length ≤ sizeLine ∧ Q (.str (S (w.drop k))) H) := by
  intro pins s σ H x v vl vu lo hi sl Q I rx hs pl pu h
  obtain ⟨w, k, hx, rfl, rfl, hz, q⟩ := h
  exact sl_S pins s σ H x v vl vu _ _ sl Q I rx hs pl pu ⟨w, hx, hz, by rw [sl_from]; exact q⟩
theorem sl_Tto : SlR X (fun x lo hi H Q => ∃ (a : Addr) (xs : List V) (k : Nat), x = .ref a ∧ lo = none ∧ hi = some (k : Int) ∧ H a = some (.tup xs) ∧ mkT (xs.take k) H Q) := by
  intro pins s σ H x v vl vu lo hi sl Q I rx hs pl pu h
  obtain ⟨a, xs, k, hx, rfl, rfl, ha, q⟩ := h
  exact sl_tupU pins s σ H x v vl vu _ _ sl Q I rx hs pl pu ⟨a, xs, hx, ha, by rw [slV_to]; exact q⟩
theorem sl_Tfrom : SlR X (fun x lo hi H Q => ∃ (a : Addr) (xs : List V) (k : Nat), x = .ref a ∧ lo = some (k : Int) ∧ hi = none ∧ H a = some (.tup xs) ∧ mkT (xs.drop k) H Q) := by
  intro pins s σ H x v vl vu lo hi sl Q I rx hs pl pu h
  obtain ⟨a, xs, k, hx, rfl, rfl, ha, q⟩ := h
  exact sl_tupU pins s σ H x v vl vu _ _ sl Q I rx hs pl pu ⟨a, xs, hx, ha, by rw [slV_from]; exact q⟩
theorem sl_Lto : SlR X (fun x lo hi H Q => ∃ (a : Addr) (xs : List V) (k : Nat), x = .ref a ∧ lo = none ∧ hi = some (k : Int) ∧ SqL X.K H a xs ∧ ∀ p, H p = none → Q (.ref p) (upd H p (.lst (xs.take k)))) := by
  intro pins s σ H x v vl vu lo hi sl Q I rx hs pl pu h
  obtain ⟨a, xs, k, hx, rfl, rfl, ha, q⟩ := h
  exact sl_list pins s σ H x v vl vu _ _ sl Q I rx hs pl pu ⟨a, xs, hx, ha, by rw [slV_to]; exact q⟩
theorem sl_Lfrom : SlR X (fun x lo hi H Q => ∃ (a : Addr) (xs : List V) (k : Nat), x = .ref a ∧ lo = some (k : Int) ∧ hi = none ∧ SqL X.K H a xs ∧ ∀ p, H p = none → Q (.ref p) (upd H p (.lst (xs.drop k)))) := by
  intro pins s σ H x v vl vu lo hi sl Q I rx hs pl pu h
  obtain ⟨a, xs, k, hx, rfl, rfl, ha, q⟩ := h
  exact sl_list pins s σ H x v vl vu _ _ sl Q I rx hs pl pu ⟨a, xs, hx, ha, by rw [slV_from]; exact q⟩
end
/-- tuple[i] -/
theorem ix_T {X : Cx} : IxR X (fun x y H Q => ∃ (a : Addr) (xs : List V) (i : Int) (v : V), x = .ref a ∧ y = .int i ∧ H a = some (.tup xs) ∧ atI xs i = some v ∧ Q v H) := by
  intro value slice pins s σ H x y v u Q I rx ry h hs
  obtain ⟨a, xs, i, z, hx, hy, ha, hz, q⟩ := h
  exact ix_tup value slice pins s σ H x y v u Q I rx ry ⟨a, xs, i, z, hx, hy, SqT.of ha, hz, q⟩ hs
/-- name.pop(i), the name a slot that holds a list -/
def tPopU (i : Nat) (t : TA) : TE := fun σ H Q => ∃ l xs, σ[i]? = some (some (.ref l)) ∧ H l = some (.lst xs) ∧ t σ H fun ys H2 => rPopAt (.ref l) ys H2 Q
theorem pe_popU {X : Cx} {i : Nat} {x : Str} {p apos cpos : Pos} {e : Expr} {es : List Expr} {t : TA} (hN : X.N[i]? = some x) (hv : Vis X.env.scope x) (ha : PA X (e :: es) t) (hd : (x == ("__debug__" : Str)) = false := by decide) (hcd : (x == ("__classdict__" : Str)) = false := by decide)
    (hbase : attributeBase (.Name x p) "pop" X.env (eval (.Name x p) X.env) = eval (.Name x p) X.env := by rfl)
    (hfew : ((backTo cpos (starEach (e :: es) X.env)).all (fun x => !x.1) && (backToKw cpos (keywordEach [] X.env)).all (fun x => x.1.isSome)
      && decide ((e :: es).length + ([] : List Keyword).length + (if ([] : List Keyword).isEmpty then 0 else 1) < 30)) = true := by rfl)
    (hline : (apos.endLine == cpos.line) = true := by rfl) (hs : starEach (e :: es) X.env = (false, eval e X.env) :: starEach es X.env := by rfl) (hplain : (backTo cpos (starEach es X.env)).any (·.1) = false := by rfl) :
    PE X (.Call (.Attribute (.Name x p) "pop" apos) (e :: es) [] cpos) (tPopU i t) := by
  refine ⟨fun pins s σ H Q I h => ?_⟩
  obtain ⟨l, xs, h1, h2, h3⟩ := h
  exact (pe_bm PySem.F.plainAttrs_list PySem.F.slot_list_pop PySem.F.type_list_pop mt_popAt (pe_var (pos := p) hN hv hd hcd) ha hbase hfew hline hs hplain).run pins s σ H Q I ⟨.ref l, h1, .inl ⟨rfl, _, SqL.of h2⟩, h3⟩
/-- a piece that may be handed in -/
def PieceOk (m : Nat) (p : Piece) : Prop := Az p.1 ∧ p.1.length ≤ 2000 ∧ p.2.length = m + 1
/-- an empty list is told from another one -/
theorem ne_nil (ps : List Piece) : (!PyData.eqv (.list (ps.map dP)) (.list [])) = decide (ps ≠ []) := by
  rw [eqv_nil]
  cases ps <;> simp
end Cs
end
section
set_option maxRecDepth 100000
set_option maxHeartbeats 8000000
/-! The program's defs, first part: what is a number, a word, a form; forms. Printed in part by gen.py out of CsA.src. -/
namespace Cs
open PySem L2 SX
def top (i : Nat) : Stmt := PySem.Challenge.pw_countscribe_k14_whole_equal_texts.main.body.getD i (.Pass ⟨0, 0, 0, 0⟩)
abbrev st_is_whole : Stmt := top 11
abbrev N_is_whole : List Str := ["value"]
theorem sc_is_whole : FnScope N_is_whole ["value"] (defScope st_is_whole) := ⟨rfl, rfl, rfl, by decide +kernel, rfl, by decide +kernel, by decide +kernel⟩
abbrev st_is_between : Stmt := top 12
abbrev N_is_between : List Str := ["value", "low", "high"]
theorem sc_is_between : FnScope N_is_between ["value", "low", "high"] (defScope st_is_between) := ⟨rfl, rfl, rfl, by decide +kernel, rfl, by decide +kernel, by decide +kernel⟩
abbrev st_are_counts : Stmt := top 13
abbrev N_are_counts : List Str := ["items", "item"]
theorem sc_are_counts : FnScope N_are_counts ["items"] (defScope st_are_counts) := ⟨rfl, rfl, rfl, by decide +kernel, rfl, by decide +kernel, by decide +kernel⟩
abbrev st_is_letters : Stmt := top 14
abbrev N_is_letters : List Str := ["value", "most"]
theorem sc_is_letters : FnScope N_is_letters ["value", "most"] (defScope st_is_letters) := ⟨rfl, rfl, rfl, by decide +kernel, rfl, by decide +kernel, by decide +kernel⟩
abbrev st_is_form_for : Stmt := top 15
abbrev N_is_form_for : List Str := ["many", "value"]
theorem sc_is_form_for : FnScope N_is_form_for ["many", "value"] (defScope st_is_form_for) := ⟨rfl, rfl, rfl, by decide +kernel, rfl, by decide +kernel, by decide +kernel⟩
abbrev st_check_number : Stmt := top 16
abbrev N_check_number : List Str := ["number", "low", "high"]
theorem sc_check_number : FnScope N_check_number ["number", "low", "high"] (defScope st_check_number) := ⟨rfl, rfl, rfl, by decide +kernel, rfl, by decide +kernel, by decide +kernel⟩
abbrev st_check_many : Stmt := top 17
abbrev N_check_many : List Str := ["many"]
theorem sc_check_many : FnScope N_check_many ["many"] (defScope st_check_many) := ⟨rfl, rfl, rfl, by decide +kernel, rfl, by decide +kernel, by decide +kernel⟩
abbrev st_check_full_word : Stmt := top 18
abbrev N_check_full_word : List Str := ["word", "most"]
theorem sc_check_full_word : FnScope N_check_full_word ["word", "most"] (defScope st_check_full_word) := ⟨rfl, rfl, rfl, by decide +kernel, rfl, by decide +kernel, by decide +kernel⟩
abbrev st_plain : Stmt := top 20
abbrev N_plain : List Str := ["many", "number"]
theorem sc_plain : FnScope N_plain ["many", "number"] (defScope st_plain) := ⟨rfl, rfl, rfl, by decide +kernel, rfl, by decide +kernel, by decide +kernel⟩
abbrev st_is_open_form : Stmt := top 21
abbrev N_is_open_form : List Str := ["form"]
theorem sc_is_open_form : FnScope N_is_open_form ["form"] (defScope st_is_open_form) := ⟨rfl, rfl, rfl, by decide +kernel, rfl, by decide +kernel, by decide +kernel⟩
abbrev st_form_sum : Stmt := top 22
abbrev N_form_sum : List Str := ["one", "other", "low", "high"]
theorem sc_form_sum : FnScope N_form_sum ["one", "other"] (defScope st_form_sum) := ⟨rfl, rfl, rfl, by decide +kernel, rfl, by decide +kernel, by decide +kernel⟩
abbrev st_form_times : Stmt := top 23
abbrev N_form_times : List Str := ["number", "form", "item"]
theorem sc_form_times : FnScope N_form_times ["number", "form"] (defScope st_form_times) := ⟨rfl, rfl, rfl, by decide +kernel, rfl, by decide +kernel, by decide +kernel⟩
abbrev st_borders : Stmt := top 25
abbrev N_borders : List Str := ["word", "found", "place", "many"]
theorem sc_borders : FnScope N_borders ["word"] (defScope st_borders) := ⟨rfl, rfl, rfl, by decide +kernel, rfl, by decide +kernel, by decide +kernel⟩
abbrev st_period_of : Stmt := top 26
abbrev N_period_of : List Str := ["word"]
theorem sc_period_of : FnScope N_period_of ["word"] (defScope st_period_of) := ⟨rfl, rfl, rfl, by decide +kernel, rfl, by decide +kernel, by decide +kernel⟩
abbrev st_root : Stmt := top 27
abbrev N_root : List Str := ["word", "many"]
theorem sc_root : FnScope N_root ["word"] (defScope st_root) := ⟨rfl, rfl, rfl, by decide +kernel, rfl, by decide +kernel, by decide +kernel⟩
abbrev st_is_piece : Stmt := top 32
abbrev N_is_piece : List Str := ["many", "value"]
theorem sc_is_piece : FnScope N_is_piece ["many", "value"] (defScope st_is_piece) := ⟨rfl, rfl, rfl, by decide +kernel, rfl, by decide +kernel, by decide +kernel⟩
abbrev st_measure : Stmt := top 33
abbrev N_measure : List Str := ["pieces", "word", "form"]
theorem sc_measure : FnScope N_measure ["pieces"] (defScope st_measure) := ⟨rfl, rfl, rfl, by decide +kernel, rfl, by decide +kernel, by decide +kernel⟩
abbrev st_check_pieces : Stmt := top 34
abbrev N_check_pieces : List Str := ["many", "pieces", "item"]
theorem sc_check_pieces : FnScope N_check_pieces ["many", "pieces"] (defScope st_check_pieces) := ⟨rfl, rfl, rfl, by decide +kernel, rfl, by decide +kernel, by decide +kernel⟩
abbrev st_going_back : Stmt := top 35
abbrev N_going_back : List Str := ["word", "text", "many"]
theorem sc_going_back : FnScope N_going_back ["word", "text"] (defScope st_going_back) := ⟨rfl, rfl, rfl, by decide +kernel, rfl, by decide +kernel, by decide +kernel⟩
abbrev st_turned_back : Stmt := top 36
abbrev N_turned_back : List Str := ["word", "by", "at"]
theorem sc_turned_back : FnScope N_turned_back ["word", "by"] (defScope st_turned_back) := ⟨rfl, rfl, rfl, by decide +kernel, rfl, by decide +kernel, by decide +kernel⟩
abbrev st_push_word : Stmt := top 37
abbrev N_push_word : List Str := ["stack", "word", "fixed"]
theorem sc_push_word : FnScope N_push_word ["stack", "word", "fixed"] (defScope st_push_word) := ⟨rfl, rfl, rfl, by decide +kernel, rfl, by decide +kernel, by decide +kernel⟩
abbrev st_push_power : Stmt := top 38
abbrev N_push_power : List Str := ["stack", "word", "form", "fixed", "carried", "ahead", "by"]
theorem sc_push_power : FnScope N_push_power ["stack", "word", "form", "fixed"] (defScope st_push_power) := ⟨rfl, rfl, rfl, by decide +kernel, rfl, by decide +kernel, by decide +kernel⟩
abbrev st_normal_pieces : Stmt := top 39
abbrev N_normal_pieces : List Str := ["many", "pieces", "fixed", "stack", "word", "form", "part", "times"]
theorem sc_normal_pieces : FnScope N_normal_pieces ["many", "pieces"] (defScope st_normal_pieces) := ⟨rfl, rfl, rfl, by decide +kernel, rfl, by decide +kernel, by decide +kernel⟩
abbrev st_OpenText___init__ : Stmt := inClass (top 41) 0
abbrev N_OpenText___init__ : List Str := ["self", "many", "pieces"]
theorem sc_OpenText___init__ : FnScope N_OpenText___init__ ["self", "many", "pieces"] (defScope st_OpenText___init__) := ⟨rfl, rfl, rfl, by decide +kernel, rfl, by decide +kernel, by decide +kernel⟩
abbrev st_OpenText_many : Stmt := inClass (top 41) 1
abbrev N_OpenText_many : List Str := ["self"]
theorem sc_OpenText_many : FnScope N_OpenText_many ["self"] (defScope st_OpenText_many) := ⟨rfl, rfl, rfl, by decide +kernel, rfl, by decide +kernel, by decide +kernel⟩
abbrev st_OpenText_pieces : Stmt := inClass (top 41) 2
abbrev N_OpenText_pieces : List Str := ["self"]
theorem sc_OpenText_pieces : FnScope N_OpenText_pieces ["self"] (defScope st_OpenText_pieces) := ⟨rfl, rfl, rfl, by decide +kernel, rfl, by decide +kernel, by decide +kernel⟩
abbrev st_OpenText___eq__ : Stmt := inClass (top 41) 3
abbrev N_OpenText___eq__ : List Str := ["self", "other"]
theorem sc_OpenText___eq__ : FnScope N_OpenText___eq__ ["self", "other"] (defScope st_OpenText___eq__) := ⟨rfl, rfl, rfl, by decide +kernel, rfl, by decide +kernel, by decide +kernel⟩
abbrev st__law_hash : Stmt := top 43
abbrev N__law_hash : List Str := ["_law_seed", "_law_index", "_law_mixed"]
theorem sc__law_hash : FnScope N__law_hash ["_law_seed", "_law_index"] (defScope st__law_hash) := ⟨rfl, rfl, rfl, by decide +kernel, rfl, by decide +kernel, by decide +kernel⟩
abbrev st__law_random : Stmt := top 44
abbrev N__law_random : List Str := ["_law_generator_here", "_law_bound", "_law_drawn", "_law_turn"]
theorem sc__law_random : FnScope N__law_random ["_law_generator_here", "_law_bound"] (defScope st__law_random) := ⟨rfl, rfl, rfl, by decide +kernel, rfl, by decide +kernel, by decide +kernel⟩
abbrev st__law_cell : Stmt := top 45
abbrev N__law_cell : List Str := ["_law_script", "_law_index"]
theorem sc__law_cell : FnScope N__law_cell ["_law_script", "_law_index"] (defScope st__law_cell) := ⟨rfl, rfl, rfl, by decide +kernel, rfl, by decide +kernel, by decide +kernel⟩
abbrev st__law_generator : Stmt := top 46
abbrev N__law_generator : List Str := ["_law_script", "_law_index", "_law_seed"]
theorem sc__law_generator : FnScope N__law_generator ["_law_script", "_law_index"] (defScope st__law_generator) := ⟨rfl, rfl, rfl, by decide +kernel, rfl, by decide +kernel, by decide +kernel⟩
abbrev st__law_letters : Stmt := top 47
abbrev N__law_letters : List Str := ["_law_generator_here", "_law_left", "_law_turn"]
theorem sc__law_letters : FnScope N__law_letters ["_law_generator_here"] (defScope st__law_letters) := ⟨rfl, rfl, rfl, by decide +kernel, rfl, by decide +kernel, by decide +kernel⟩
abbrev st__law_word : Stmt := top 48
abbrev N__law_word : List Str := ["_law_generator_here", "_law_signs", "_law_least", "_law_most", "_law_many", "_law_turn"]
theorem sc__law_word : FnScope N__law_word ["_law_generator_here", "_law_signs", "_law_least", "_law_most"] (defScope st__law_word) := ⟨rfl, rfl, rfl, by decide +kernel, rfl, by decide +kernel, by decide +kernel⟩
abbrev st__law_form : Stmt := top 49
abbrev N__law_form : List Str := ["_law_generator_here", "_law_many", "_law_most", "_law_turn"]
theorem sc__law_form : FnScope N__law_form ["_law_generator_here", "_law_many", "_law_most"] (defScope st__law_form) := ⟨rfl, rfl, rfl, by decide +kernel, rfl, by decide +kernel, by decide +kernel⟩
abbrev st__law_plain : Stmt := top 50
abbrev N__law_plain : List Str := ["_law_many", "_law_number"]
theorem sc__law_plain : FnScope N__law_plain ["_law_many", "_law_number"] (defScope st__law_plain) := ⟨rfl, rfl, rfl, by decide +kernel, rfl, by decide +kernel, by decide +kernel⟩
abbrev st__law_value : Stmt := top 51
abbrev N__law_value : List Str := ["_law_form_here", "_law_point", "_law_number", "_law_count"]
theorem sc__law_value : FnScope N__law_value ["_law_form_here", "_law_point"] (defScope st__law_value) := ⟨rfl, rfl, rfl, by decide +kernel, rfl, by decide +kernel, by decide +kernel⟩
abbrev st__law_write : Stmt := top 52
abbrev N__law_write : List Str := ["_law_pieces", "_law_point", "_law_word_here", "_law_form_here"]
theorem sc__law_write : FnScope N__law_write ["_law_pieces", "_law_point"] (defScope st__law_write) := ⟨rfl, rfl, rfl, by decide +kernel, rfl, by decide +kernel, by decide +kernel⟩
abbrev st__law_piece : Stmt := top 53
abbrev N__law_piece : List Str := ["_law_generator_here", "_law_many", "_law_signs", "_law_base", "_law_most", "_law_way", "_law_turn", "_law_turned"]
theorem sc__law_piece : FnScope N__law_piece ["_law_generator_here", "_law_many", "_law_signs", "_law_base", "_law_most"] (defScope st__law_piece) := ⟨rfl, rfl, rfl, by decide +kernel, rfl, by decide +kernel, by decide +kernel⟩
abbrev st__law_raw : Stmt := top 54
abbrev N__law_raw : List Str := ["_law_generator_here", "_law_many", "_law_signs", "_law_count", "_law_most", "_law_found", "_law_base", "_law_turn"]
theorem sc__law_raw : FnScope N__law_raw ["_law_generator_here", "_law_many", "_law_signs", "_law_count", "_law_most"] (defScope st__law_raw) := ⟨rfl, rfl, rfl, by decide +kernel, rfl, by decide +kernel, by decide +kernel⟩
abbrev st__law_points : Stmt := top 55
abbrev N__law_points : List Str := ["_law_many", "_law_most", "_law_found", "_law_first", "_law_rest"]
theorem sc__law_points : FnScope N__law_points ["_law_many", "_law_most"] (defScope st__law_points) := ⟨rfl, rfl, rfl, by decide +kernel, rfl, by decide +kernel, by decide +kernel⟩
abbrev st__law_varied : Stmt := top 56
abbrev N__law_varied : List Str := ["_law_generator_here", "_law_many", "_law_signs", "_law_pieces", "_law_way", "_law_at", "_law_word_here", "_law_form_here", "_law_place", "_law_number"]
theorem sc__law_varied : FnScope N__law_varied ["_law_generator_here", "_law_many", "_law_signs", "_law_pieces"] (defScope st__law_varied) := ⟨rfl, rfl, rfl, by decide +kernel, rfl, by decide +kernel, by decide +kernel⟩
abbrev st__law_open_pieces : Stmt := top 57
abbrev N__law_open_pieces : List Str := ["_law_pieces", "_law_word_here", "_law_form_here"]
theorem sc__law_open_pieces : FnScope N__law_open_pieces ["_law_pieces"] (defScope st__law_open_pieces) := ⟨rfl, rfl, rfl, by decide +kernel, rfl, by decide +kernel, by decide +kernel⟩
abbrev st__law_pair : Stmt := top 58
abbrev N__law_pair : List Str := ["_law_generator_here", "_law_many", "_law_signs", "_law_count", "_law_most", "_law_first", "_law_base", "_law_place", "_law_form_here", "_law_turned", "_law_behind", "_law_other", "_law_turn", "_law_at"]
theorem sc__law_pair : FnScope N__law_pair ["_law_generator_here", "_law_many", "_law_signs", "_law_count", "_law_most"] (defScope st__law_pair) := ⟨rfl, rfl, rfl, by decide +kernel, rfl, by decide +kernel, by decide +kernel⟩
abbrev st__law_yes : Stmt := top 59
abbrev N__law_yes : List Str := ["_law_told", "_law_due"]
theorem sc__law_yes : FnScope N__law_yes ["_law_told", "_law_due"] (defScope st__law_yes) := ⟨rfl, rfl, rfl, by decide +kernel, rfl, by decide +kernel, by decide +kernel⟩
abbrev st__law_right : Stmt := top 60
abbrev N__law_right : List Str := ["_law_generator_here", "_law_many", "_law_letters_here", "_law_first", "_law_second", "_law_one", "_law_other", "_law_points_here", "_law_parting", "_law_raised", "_law_point", "_law_word_here", "_law_form_here"]
theorem sc__law_right : FnScope N__law_right ["_law_generator_here"] (defScope st__law_right) := ⟨rfl, rfl, rfl, by decide +kernel, rfl, by decide +kernel, by decide +kernel⟩
abbrev st_law : Stmt := top 61
abbrev N_law : List Str := ["_law_script", "_law_index"]
theorem sc_law : FnScope N_law ["_law_script"] (defScope st_law) := ⟨rfl, rfl, rfl, by decide +kernel, rfl, by decide +kernel, by decide +kernel⟩

/-- what the top leaves behind for the defs -/
structure Txt (K : PySem.W.Frag) (mg : Str → Option Value) (C : Addr) : Prop where
  len : mg "len" = none
  isinstance : mg "isinstance" = none
  sum : mg "sum" = none
  max : mg "max" = none
  zip : mg "zip" = none
  range : mg "range" = none
  int : mg "int" = none
  bool : mg "bool" = none
  str : mg "str" = none
  tuple : mg "tuple" = none
  list : mg "list" = none
  gLETTERS : ∃ u, mg "LETTERS" = some u ∧ RelV (.str (S [97, 98, 99, 100, 101, 102, 103, 104, 105, 106, 107, 108, 109, 110, 111, 112, 113, 114, 115, 116, 117, 118, 119, 120, 121, 122])) u
  gMOST_UNKNOWNS : ∃ u, mg "MOST_UNKNOWNS" = some u ∧ RelV (.int 3) u
  gMOST_LETTERS : ∃ u, mg "MOST_LETTERS" = some u ∧ RelV (.int 20000) u
  gMOST_PIECES : ∃ u, mg "MOST_PIECES" = some u ∧ RelV (.int 5000) u
  gMOST_MEASURE : ∃ u, mg "MOST_MEASURE" = some u ∧ RelV (.int 2000) u
  gMOST_PIECE_LETTERS : ∃ u, mg "MOST_PIECE_LETTERS" = some u ∧ RelV (.int 2000) u
  mgC : mg "OpenText" = some (.ref C)
  isC : C8.InsC K C
  nM : NoAttr K C "_many"
  nP : NoAttr K C "_pieces"

section
variable {P : Program} {w : World} {K : PySem.W.Frag} {mg : Str → Option Value} {base : Heap} {C : Addr} {k : Nat}

def spWhole : Sp := fun vs H Q _ => ∃ i : Int, vs = [.int i] ∧ Q (.bl true) H
theorem ok_is_whole {f : Addr} {fd : FuncData} (F : Fun K "is_whole" "is_whole" st_is_whole f fd) (T : Txt K mg C) : FnOk P w K mg base CX0 1 f fd ["value"] spWhole := by
  refine F.ok sc_is_whole (fun vs H Q E h => ?_) (fun cdv A outer s H vs Q E hr h => ?_)
  · obtain ⟨i, rfl, _⟩ := h
    rfl
  · obtain ⟨i, rfl, q⟩ := h
    refine ⟨_, (pss_one (ps_ret (pe_and (pe_callB call_isi (by rfl) T.isinstance (by decide +kernel) (pa_cons (pv 0) (pa_cons (pe_bltn (v := .ty "int") (u := .type "int") (by rfl) T.int (by decide +kernel) rfl) pa_nil))) (pe_one (pe_not (pe_callB call_isi (by rfl) T.isinstance (by decide +kernel) (pa_cons (pv 0) (pa_cons (pe_bltn (v := .ty "bool") (u := .type "bool") (by rfl) T.bool (by decide +kernel) rfl) pa_nil)))))))), ?_⟩
    refine ⟨.int i, rfl, _, .ty "int", .type "int", .type "int", true, rfl, .ty _, .base (.int i), kit_ty (by decide +kernel), true, rfl, iteT ?_⟩
    exact ⟨.int i, rfl, _, .ty "bool", .type "int", .type "bool", false, rfl, .ty _, .base (.int i), kit_ty (by decide +kernel), false, rfl, q⟩
def spBetween : Sp := fun vs H Q _ => ∃ (i lo : Int) (h : V), vs = [.int i, .int lo, h] ∧ lo ≤ i ∧ (h = .non ∨ ∃ hi : Int, h = .int hi ∧ i ≤ hi) ∧ Q (.bl true) H
theorem ok_is_between {f : Addr} {fd : FuncData} (F : Fun K "is_between" "is_between" st_is_between f fd) (T : Txt K mg C) (c_is_whole : C8.Cal P w K mg base 1 "is_whole" spWhole []) : FnOk P w K mg base CX0 2 f fd ["value", "low", "high"] spBetween := by
  refine F.ok sc_is_between (fun vs H Q E h => ?_) (fun cdv A outer s H vs Q E hr h => ?_)
  · obtain ⟨i, lo, h, rfl, _⟩ := h
    rfl
  · obtain ⟨i, lo, h, rfl, hl, hh, q⟩ := h
    refine ⟨_, (pss_one (ps_ret (pe_and (C8.pe_c c_is_whole hr (by decide) (by rfl) (pa_cons (pv 0) pa_nil)) (pe_and (pe_cmpR op_le (pv 1) (pv 0) (nomark _)) (pe_one (pe_or (pe_cmpR op_isN (pv 2) pe_non (nomark _)) (pe_one (pe_cmpR op_le (pv 0) (pv 2) (nomark _))))))))), ?_⟩
    refine ⟨.int i, rfl, i, rfl, true, rfl, iteT ?_⟩
    refine ⟨.int lo, rfl, .int i, rfl, lo, i, rfl, rfl, true, ?_, iteT ?_⟩
    · exact bl_true hl
    rcases hh with rfl | ⟨hi, rfl, hb⟩
    · exact ⟨.non, rfl, rfl, true, rfl, iteT q⟩
    · refine ⟨.int hi, rfl, rfl, false, rfl, iteF ?_⟩
      exact ⟨.int i, rfl, .int hi, rfl, i, hi, rfl, rfl, eqQ (bl_true hb) q⟩
def spCounts : Sp := fun vs H Q _ => ∃ (a : Addr) (f : List Nat), vs = [.ref a] ∧ FormAt H a f ∧ ∀ H', Same H H' → Q (.bl true) H'
theorem ok_are_counts {f : Addr} {fd : FuncData} (F : Fun K "are_counts" "are_counts" st_are_counts f fd) (T : Txt K mg C) (c_is_between : C8.Cal P w K mg base 2 "is_between" spBetween []) : FnOk P w K mg base CX0 3 f fd ["items"] spCounts := by
  refine F.ok sc_are_counts (fun vs H Q E h => ?_) (fun cdv A outer s H vs Q E hr h => ?_)
  · obtain ⟨a, f, rfl, _⟩ := h
    rfl
  · obtain ⟨a, f, rfl, hf, q⟩ := h
    refine ⟨_, (pss_one (ps_ret (pe_cmpR (op_eqD hr.units) (pe_lc (own := [("item", 1)]) (by rfl) sc_are_counts.nd (pi_tup (pv 0)) (blkOk_by (own := [("item", 1)]) (N := N_are_counts) (sc := defScope st_are_counts) (by decide +kernel)) (fun _ _ _ _ _ => (pg_name (i := 1) sc_are_counts.nd rfl (by first | exact Or.inl rfl | exact Or.inr rfl))) (fun _ _ _ _ _ => pts_one (pt_not (pt_val (C8.pe_c c_is_between hr (by decide) (by rfl) (pa_cons (pv 1) (pa_cons pe_int (pa_cons pe_non pa_nil))))))) (fun _ _ _ _ _ => (pv 1))) (pe_lst pa_nil) (nomark _)))), ?_⟩
    refine ⟨.ref a, rfl, a, rfl, ⟨_, SqT.of hf⟩, fun D nD => ?_⟩
    refine lc_tup (K := K) (a := a) (xs := tF f) (fun i H' => H' = upd H D (.lst [])) rfl (fun i H' _ e => ?_) (fun i x H' hx e => ?_) (fun H' e => ?_)
    · subst e
      exact SqT.of ((same_new nD) _ _ hf)
    · subst e
      obtain ⟨n, hn, rfl⟩ := map_at hx
      exact ⟨rfl, _, rfl, (n : Int), 0, .non, rfl, Int.natCast_nonneg _, .inl rfl, true, rfl, iteF rfl⟩
    · subst e
      refine ⟨Nat.zero_le _, fun p np => ?_⟩
      have hD : upd H D (.lst []) D = some (.lst []) := upd_same
      exact ⟨.list [], .list [], .lst (SqL.of (by rw [upd_ne (ne_of_none hD np)]; exact hD)) .nil, .lst (SqL.of upd_same) .nil, sh_nil, sh_nil, q _ ((same_new nD).trans (same_new np))⟩
theorem az_in {c : Nat} (h : AZ c) : c ∈ ([97, 98, 99, 100, 101, 102, 103, 104, 105, 106, 107, 108, 109, 110, 111, 112, 113, 114, 115, 116, 117, 118, 119, 120, 121, 122] : List Nat) := by
  obtain ⟨h1, h2⟩ := h
  have e : ∀ n : Nat, n < 26 → 97 + n ∈ ([97, 98, 99, 100, 101, 102, 103, 104, 105, 106, 107, 108, 109, 110, 111, 112, 113, 114, 115, 116, 117, 118, 119, 120, 121, 122] : List Nat) := by decide
  have := e (c - 97) (by omega)
  rwa [show 97 + (c - 97) = c by omega] at this
def spLetters : Sp := fun vs H Q _ => ∃ (w : List Nat) (most : Int), vs = [.str (S w), .int most] ∧ Az w ∧ (w.length : Int) ≤ most ∧ w.length ≤ 100000 ∧ Q (.bl true) H
theorem ok_is_letters {f : Addr} {fd : FuncData} (F : Fun K "is_letters" "is_letters" st_is_letters f fd) (T : Txt K mg C) : FnOk P w K mg base CX0 1 f fd ["value", "most"] spLetters := by
  refine F.ok sc_is_letters (fun vs H Q E h => ?_) (fun cdv A outer s H vs Q E hr h => ?_)
  · obtain ⟨u, most, rfl, _⟩ := h
    rfl
  · obtain ⟨u, most, rfl, haz, hm, hl, q⟩ := h
    refine ⟨_, (pss_one (ps_ret (pe_and (pe_callB call_isi (by rfl) T.isinstance (by decide +kernel) (pa_cons (pv 0) (pa_cons (pe_bltn (v := .ty "str") (u := .type "str") (by rfl) T.str (by decide +kernel) rfl) pa_nil))) (pe_and (pe_cmpR op_le (pe_callB len_S (by rfl) T.len (by decide +kernel) (pa_cons (pv 0) pa_nil)) (pv 1) (nomark _)) (pe_one (pe_cmpR op_eq (pe_bm PySem.F.plainAttrs_str PySem.F.slot_str_strip PySem.F.type_str_strip mt_stripChars (pv 0) (pa_cons (C8.pe_gc (by rfl) T.gLETTERS) pa_nil)) pe_str (nomark _))))))), ?_⟩
    refine ⟨_, rfl, _, .ty "str", .type "str", .type "str", true, rfl, .ty _, .base (.str (S u)), kit_ty (by decide +kernel), true, rfl, iteT ?_⟩
    refine ⟨_, rfl, u, rfl, sz (by omega), .int most, rfl, _, _, rfl, rfl, true, bl_true hm, iteT ?_⟩
    refine ⟨_, rfl, rfl, S u, _, rfl, rfl, (by rw [S_len]; exact sz (by omega)), ?_⟩
    exact ⟨by rfl, eqQ (by rw [strip_all fun c hc => az_in (haz c hc)]; rfl) q⟩
def spFormFor : Sp := fun vs H Q _ => ∃ (m : Nat) (a : Addr) (f : List Nat), vs = [.int (m : Int), .ref a] ∧ FormAt H a f ∧ f.length = m + 1 ∧ ∀ H', Same H H' → Q (.bl true) H'
theorem ok_is_form_for {f : Addr} {fd : FuncData} (F : Fun K "is_form_for" "is_form_for" st_is_form_for f fd) (T : Txt K mg C) (c_are_counts : C8.Cal P w K mg base 3 "are_counts" spCounts []) : FnOk P w K mg base CX0 4 f fd ["many", "value"] spFormFor := by
  refine F.ok sc_is_form_for (fun vs H Q E h => ?_) (fun cdv A outer s H vs Q E hr h => ?_)
  · obtain ⟨m, a, f, rfl, _⟩ := h
    rfl
  · obtain ⟨m, a, f, rfl, hf, hl, q⟩ := h
    refine ⟨_, (pss_one (ps_ret (pe_and (pe_callB call_isi (by rfl) T.isinstance (by decide +kernel) (pa_cons (pv 1) (pa_cons (pe_bltn (v := .ty "tuple") (u := .type "tuple") (by rfl) T.tuple (by decide +kernel) rfl) pa_nil))) (pe_and (pe_cmpR op_eq (pe_callB call_len_seq (by rfl) T.len (by decide +kernel) (pa_cons (pv 1) pa_nil)) (pe_op op_add (pv 0) pe_int) (nomark _)) (pe_one (C8.pe_c c_are_counts hr (by decide) (by rfl) (pa_cons (pv 1) pa_nil))))))), ?_⟩
    refine ⟨_, rfl, _, .ty "tuple", .type "tuple", .type "tuple", true, rfl, .ty _, .base (.tup hf), kit_ty (by decide +kernel), true, rfl, iteT ?_⟩
    refine ⟨_, rfl, a, tF f, rfl, .inr (SqT.of hf), _, rfl, _, _, rfl, rfl, rfl, true, ?_, iteT ?_⟩
    · exact bl_true (congrArg V.int (by rw [List.length_map, hl]; rfl))
    · exact ⟨_, rfl, a, f, rfl, hf, fun H' s => q H' s⟩
def spNumber : Sp := fun vs H Q _ => ∃ (i lo : Int) (h : V), vs = [.int i, .int lo, h] ∧ lo ≤ i ∧ (h = .non ∨ ∃ hi : Int, h = .int hi ∧ i ≤ hi) ∧ Q .non H
theorem ok_check_number {f : Addr} {fd : FuncData} (F : Fun K "check_number" "check_number" st_check_number f fd) (T : Txt K mg C) (c_is_between : C8.Cal P w K mg base 2 "is_between" spBetween []) : FnOk P w K mg base CX0 3 f fd ["number", "low", "high"] spNumber := by
  refine F.ok sc_check_number (fun vs H Q E h => ?_) (fun cdv A outer s H vs Q E hr h => ?_)
  · obtain ⟨i, lo, h, rfl, _⟩ := h
    rfl
  · obtain ⟨i, lo, h, rfl, hl, hh, q⟩ := h
    refine ⟨_, (pss_one (ps_if (pt_not (pt_val (C8.pe_c c_is_between hr (by decide) (by rfl) (pa_cons (pv 0) (pa_cons (pv 1) (pa_cons (pv 2) pa_nil))))))
        (pss_one ps_never)
        pss_nil)), ?_⟩
    exact ⟨_, rfl, _, rfl, _, rfl, i, lo, h, rfl, hl, hh, true, rfl, iteF q⟩
def spMany : Sp := fun vs H Q _ => ∃ m : Nat, vs = [.int (m : Int)] ∧ m ≤ 3 ∧ Q .non H
theorem ok_check_many {f : Addr} {fd : FuncData} (F : Fun K "check_many" "check_many" st_check_many f fd) (T : Txt K mg C) (c_check_number : C8.Cal P w K mg base 3 "check_number" spNumber []) : FnOk P w K mg base CX0 4 f fd ["many"] spMany := by
  refine F.ok sc_check_many (fun vs H Q E h => ?_) (fun cdv A outer s H vs Q E hr h => ?_)
  · obtain ⟨m, rfl, _⟩ := h
    rfl
  · obtain ⟨m, rfl, hm, q⟩ := h
    refine ⟨_, (pss_one (ps_expr (C8.pe_c c_check_number hr (by decide) (by rfl) (pa_cons (pv 0) (pa_cons pe_int (pa_cons (C8.pe_gc (by rfl) T.gMOST_UNKNOWNS) pa_nil)))))), ?_⟩
    exact ⟨_, rfl, (m : Int), 0, .int 3, rfl, Int.natCast_nonneg _, .inr ⟨3, rfl, by omega⟩, q⟩
def spFullWord : Sp := fun vs H Q _ => ∃ (w : List Nat) (most : Int), vs = [.str (S w), .int most] ∧ Az w ∧ (w.length : Int) ≤ most ∧ w.length ≤ 100000 ∧ w ≠ [] ∧ Q .non H
theorem ok_check_full_word {f : Addr} {fd : FuncData} (F : Fun K "check_full_word" "check_full_word" st_check_full_word f fd) (T : Txt K mg C) (c_is_letters : C8.Cal P w K mg base 1 "is_letters" spLetters []) : FnOk P w K mg base CX0 2 f fd ["word", "most"] spFullWord := by
  refine F.ok sc_check_full_word (fun vs H Q E h => ?_) (fun cdv A outer s H vs Q E hr h => ?_)
  · obtain ⟨u, most, rfl, _⟩ := h
    rfl
  · obtain ⟨u, most, rfl, haz, hm, hl, hne, q⟩ := h
    refine ⟨_, (pss_one (ps_if (PW.pt (pw_or (pt_not (pt_val (C8.pe_c c_is_letters hr (by decide) (by rfl) (pa_cons (pv 0) (pa_cons (pv 1) pa_nil))))) (pw_or1 (pt_cmpR op_eq (pv 0) pe_str (nomark _)))))
        (pss_one ps_never)
        pss_nil)), ?_⟩
    refine ⟨_, rfl, _, rfl, u, most, rfl, haz, hm, hl, true, rfl, iteF ?_⟩
    refine ⟨_, rfl, rfl, false, ?_, iteF q⟩
    exact bl_false fun e => hne (S_inj (V.str.inj e))
def spPlain : Sp := fun vs H Q _ => ∃ m n : Nat, vs = [.int (m : Int), .int (n : Int)] ∧ m ≤ 100 ∧ ∀ p H', Same H H' → FormAt H' p (n :: List.replicate m 0) → Q (.ref p) H'
theorem flat_rep (m : Nat) : (List.replicate m [V.int 0]).flatten = tF (List.replicate m 0) := by
  induction m with
  | zero => rfl
  | succ m ih => rw [List.replicate_succ, List.flatten_cons, ih]; rfl
theorem ok_plain {f : Addr} {fd : FuncData} (F : Fun K "plain" "plain" st_plain f fd) (T : Txt K mg C) : FnOk P w K mg base CX0 1 f fd ["many", "number"] spPlain := by
  refine F.ok sc_plain (fun vs H Q E h => ?_) (fun cdv A outer s H vs Q E hr h => ?_)
  · obtain ⟨m, n, rfl, _⟩ := h
    rfl
  · obtain ⟨m, n, rfl, hm, q⟩ := h
    refine ⟨_, (pss_one (ps_ret (pe_op op_catU (pe_tup (pa_cons (pv 1) pa_nil)) (pe_op op_mulT (pe_tup (pa_cons pe_int pa_nil)) (pv 0))))), ?_⟩
    refine ⟨_, rfl, sz (by show 1 ≤ 1000000; decide), fun p1 n1 => ⟨sz (by show 1 ≤ 1000000; decide), fun p2 n2 => ⟨_, rfl, p2, m, _, rfl, rfl, upd_same, (by simp), by omega, by decide, fun p3 H3 s3 e3 => ?_⟩⟩⟩
    have g1 : H3 p1 = some (.tup [V.int (n : Int)]) := s3 _ _ ((same_new n2) _ _ upd_same)
    rw [flat_rep] at e3
    refine ⟨p1, p3, _, _, rfl, rfl, g1, e3, ?_, fun p4 H4 s4 e4 => ?_⟩
    · rw [List.length_map, List.length_replicate]
      exact sz (by show 1 + m ≤ 1000000; omega)
    · exact q p4 H4 (((same_new n1).trans (same_new n2)).trans (s3.trans s4)) e4
def spOpen : Sp := fun vs H Q _ => ∃ (a : Addr) (c : Nat) (t : List Nat), vs = [.ref a] ∧ FormAt H a (c :: t) ∧ ∀ H', Same H H' → Q (.bl (CS.isOpen (c :: t))) H'
theorem ok_is_open_form {f : Addr} {fd : FuncData} (F : Fun K "is_open_form" "is_open_form" st_is_open_form f fd) (T : Txt K mg C) : FnOk P w K mg base CX0 1 f fd ["form"] spOpen := by
  refine F.ok sc_is_open_form (fun vs H Q E h => ?_) (fun cdv A outer s H vs Q E hr h => ?_)
  · obtain ⟨a, c, t, rfl, _⟩ := h
    rfl
  · obtain ⟨a, c, t, rfl, hf, q⟩ := h
    refine ⟨_, (pss_one (ps_ret (pe_cmpR op_gt (pe_callB (sum_tup rfl) (by rfl) T.sum (by decide +kernel) (pa_cons (pe_slice sl_Tfrom (pv 0) (po_some pe_int) po_none) pa_nil)) pe_int (nomark _)))), ?_⟩
    refine ⟨_, rfl, 1, rfl, a, _, 1, rfl, rfl, rfl, hf, fun p H1 s1 e1 => ?_⟩
    refine ⟨p, t.map Int.ofNat, rfl, (by rw [← tF_ints]; exact e1), _, _, rfl, rfl, ?_⟩
    rw [sum_cast]
    refine eqQ ?_ (q H1 s1)
    show V.bl (decide ((0 : Int) < ((t.sum : Nat) : Int))) = V.bl (decide (0 < t.sum))
    congr 1
    exact decide_eq_decide.mpr ⟨fun h => by omega, fun h => by omega⟩
def spSum : Sp := fun vs H Q _ => ∃ (a b : Addr) (f g : List Nat), vs = [.ref a, .ref b] ∧ FormAt H a f ∧ FormAt H b g ∧ f.length = g.length ∧ f.length ≤ 1000 ∧ ∀ p H', Same H H' → FormAt H' p (List.zipWith (· + ·) f g) → Q (.ref p) H'
theorem ok_form_sum {f : Addr} {fd : FuncData} (F : Fun K "form_sum" "form_sum" st_form_sum f fd) (T : Txt K mg C) : FnOk P w K mg base CX0 1 f fd ["one", "other"] spSum := by
  refine F.ok sc_form_sum (fun vs H Q E h => ?_) (fun cdv A outer s H vs Q E hr h => ?_)
  · obtain ⟨a, b, f, g, rfl, _⟩ := h
    rfl
  · obtain ⟨a, b, f, g, rfl, hf, hg, hl, hk, q⟩ := h
    refine ⟨_, (pss_one (ps_ret (pe_callTy call_tupU (by rfl) T.tuple (by decide +kernel) (pa_cons (pe_lc (own := [("low", 2), ("high", 3)]) (g := gTup K 2 (gCons (gName 2) (gCons (gName 3) gNil))) (by rfl) sc_form_sum.nd (pi_zipS (by rfl) T.zip (pa_cons (pv 0) (pa_cons (pv 1) pa_nil))) (blkOk_by (own := [("low", 2), ("high", 3)]) (N := N_form_sum) (sc := defScope st_form_sum) (by decide +kernel)) (fun _ _ _ _ _ => (pg_tup (by rfl) (pgs_cons (pg_name (i := 2) sc_form_sum.nd rfl (by first | exact Or.inl rfl | exact Or.inr rfl)) (pgs_cons (pg_name (i := 3) sc_form_sum.nd rfl (by first | exact Or.inl rfl | exact Or.inr rfl)) pgs_nil)))) (fun _ _ _ _ _ => pts_nil) (fun _ _ _ _ _ => (pe_op op_add (pv 2) (pv 3)))) pa_nil)))), ?_⟩
    have el : (tF f).length = (tF g).length := by rw [List.length_map, List.length_map, hl]
    have hz : (List.zipWith (· + ·) f g).length = f.length := by rw [List.length_zipWith, ← hl]; exact Nat.min_self _
    refine ⟨_, rfl, _, rfl, a, b, _, _, rfl, hf, hg, fun D nD => ?_⟩
    refine lc_it (walk_zs el) (Grow D H (tF (List.zipWith (· + ·) f g))) grow0 (fun i H' _ g' => ⟨g'.tup nD hf, g'.tup nD hg⟩) (fun i x H1 H2 hi g' y => ?_) (fun H' g' => ?_)
    · obtain ⟨t, x1, x2, rfl, nt, rfl, e1, e2⟩ := y
      obtain ⟨n1, h1, rfl⟩ := map_at e1
      obtain ⟨n2, h2, rfl⟩ := map_at e2
      refine ⟨t, _, rfl, SqT.of upd_same, rfl, _, _, rfl, _, _, rfl, rfl, rfl, ?_⟩
      refine ⟨_, rfl, _, rfl, _, _, rfl, rfl, grow1 g' (same_new nt) ?_ (by rw [List.length_map, hz]; omega)⟩
      rw [List.getElem?_map, List.getElem?_zipWith, h1, h2]
      show some (V.int ((n1 + n2 : Nat) : Int)) = some (V.int ((n1 : Int) + n2))
      rw [Int.natCast_add]
    · have hn : (tF f).length = (tF (List.zipWith (· + ·) f g)).length := by rw [List.length_map, List.length_map, hz]
      rw [hn] at g'
      obtain ⟨s1, e1⟩ := g'.all nD
      exact ⟨D, _, rfl, SqL.of e1, fun p H2 s2 e2 => q p H2 (s1.trans s2) e2⟩
def spTimes : Sp := fun vs H Q _ => ∃ (k : Nat) (a : Addr) (f : List Nat), vs = [.int (k : Int), .ref a] ∧ FormAt H a f ∧ k ≤ 1000000 ∧ f.length ≤ 1000 ∧ ∀ p H', Same H H' → FormAt H' p (f.map (k * ·)) → Q (.ref p) H'
theorem ok_form_times {f : Addr} {fd : FuncData} (F : Fun K "form_times" "form_times" st_form_times f fd) (T : Txt K mg C) : FnOk P w K mg base CX0 1 f fd ["number", "form"] spTimes := by
  refine F.ok sc_form_times (fun vs H Q E h => ?_) (fun cdv A outer s H vs Q E hr h => ?_)
  · obtain ⟨k, a, f, rfl, _⟩ := h
    rfl
  · obtain ⟨k, a, f, rfl, hf, hk, hl, q⟩ := h
    refine ⟨_, (pss_one (ps_ret (pe_callTy call_tupU (by rfl) T.tuple (by decide +kernel) (pa_cons (pe_lc (own := [("item", 2)]) (by rfl) sc_form_times.nd (pi_tup (pv 1)) (blkOk_by (own := [("item", 2)]) (N := N_form_times) (sc := defScope st_form_times) (by decide +kernel)) (fun _ _ _ _ _ => (pg_name (i := 2) sc_form_times.nd rfl (by first | exact Or.inl rfl | exact Or.inr rfl))) (fun _ _ _ _ _ => pts_nil) (fun _ _ _ _ _ => (pe_op op_mul (pv 0) (pv 2)))) pa_nil)))), ?_⟩
    refine ⟨_, rfl, a, rfl, ⟨_, SqT.of hf⟩, fun D nD => ?_⟩
    refine lc_it (walk_tup (K := K) (a := a) (xs := tF f)) (Grow D H (tF (f.map (k * ·)))) grow0 (fun i H' _ g' => SqT.of (g'.tup nD hf)) (fun i x H1 H2 hi g' y => ?_) (fun H' g' => ?_)
    · obtain ⟨rfl, e1⟩ := y
      obtain ⟨n1, h1, rfl⟩ := map_at e1
      refine ⟨rfl, ?_⟩
      refine ⟨_, rfl, _, rfl, _, _, rfl, rfl, .inl ⟨by omega, by omega⟩, grow1 g' (Same.refl _) ?_ (by rw [List.length_map, List.length_map]; omega)⟩
      rw [List.getElem?_map, List.getElem?_map, h1]
      show some (V.int ((k * n1 : Nat) : Int)) = some (V.int ((k : Int) * n1))
      rw [Int.natCast_mul]
    · have hn : (tF f).length = (tF (f.map (k * ·))).length := by rw [List.length_map, List.length_map, List.length_map]
      rw [hn] at g'
      obtain ⟨s1, e1⟩ := g'.all nD
      exact ⟨D, _, rfl, SqL.of e1, fun p H2 s2 e2 => q p H2 (s1.trans s2) e2⟩
end
end Cs
end
section
set_option maxRecDepth 100000
set_option maxHeartbeats 8000000
/-! The program's defs, second part: borders, periods, roots; pieces; what is put behind a normal list. Printed in part by gen.py out of CsB.src. -/
namespace Cs
open PySem L2 SX
section
variable {P : Program} {w : World} {K : PySem.W.Frag} {mg : Str → Option Value} {base : Heap} {C : Addr} {k : Nat}

theorem get_D {u : List Nat} {i : Nat} (h : i < u.length) : u[i]? = some (u.getD i 0) := by
  rw [List.getD_eq_getElem?_getD, List.getElem?_eq_getElem h]
  rfl
theorem S1_eq (a b : Nat) : decide (V.str (S [a]) = V.str (S [b])) = decide (a = b) := by
  rw [S_eq]
  exact decide_eq_decide.mpr ⟨fun h => by injection h, fun h => by rw [h]⟩
/-- the list of the greatest borders so far -/
def LBs (u : List Nat) (ns : List Nat) : Prop := ∀ (i m : Nat), ns[i]? = some m → CS.LB u (i + 1) m
theorem LBs.snoc {u ns : List Nat} {m : Nat} (h : LBs u ns) (l : CS.LB u (ns.length + 1) m) : LBs u (ns ++ [m]) := fun i x e => by
  by_cases hi : i < ns.length
  · rw [List.getElem?_append_left hi] at e
    exact h i x e
  · rw [List.getElem?_append_right (by omega)] at e
    have h0 : i - ns.length = 0 := by
      by_cases q : i - ns.length = 0
      · exact q
      · rw [List.getElem?_eq_none (by simp; omega)] at e
        cases e
    rw [h0] at e
    have : m = x := by simpa using e
    subst this
    rw [show i = ns.length by omega]
    exact l
def spBorders : Sp := fun vs H Q _ => ∃ u : List Nat, vs = [.str (S u)] ∧ u ≠ [] ∧ u.length ≤ 20000 ∧ ∀ p H' ns, Same H H' → H' p = some (.lst (tF ns)) → ns.length = u.length → LBs u ns → Q (.ref p) H'
theorem ok_borders {f : Addr} {fd : FuncData} (F : Fun K "borders" "borders" st_borders f fd) (T : Txt K mg C) : FnOk P w K mg base CX0 1 f fd ["word"] spBorders := by
  refine F.ok sc_borders (fun vs H Q E h => ?_) (fun cdv A outer s H vs Q E hr h => ?_)
  · obtain ⟨u, rfl, _⟩ := h
    rfl
  · obtain ⟨u, rfl, hne, hl, q⟩ := h
    have hu : 0 < u.length := List.length_pos_iff.mpr hne
    refine ⟨_, (pss_cons (ps_set (i := 1) sc_borders.nd rfl (by first | exact Or.inl rfl | exact Or.inr rfl) (pe_lst (pa_cons pe_int pa_nil)))
      (pss_cons (ps_for PassesOwn.never rfl (pi_range2 (by rfl) T.range (pa_cons pe_int (pa_cons (pe_callB len_S (by rfl) T.len (by decide +kernel) (pa_cons (pv 0) pa_nil)) pa_nil))) (pg_name (i := 2) sc_borders.nd rfl (by first | exact Or.inl rfl | exact Or.inr rfl))
        (pss_cons (ps_set (i := 3) sc_borders.nd rfl (by first | exact Or.inl rfl | exact Or.inr rfl) (pe_ix ix_list (pv 1) (pe_op op_sub (pv 2) pe_int) (fun _ _ => rfl)))
        (pss_cons (ps_while PassesOwn.never (PW.pt (pw_and (pt_cmpR op_gt (pv 3) pe_int (nomark _)) (pw_and1 (pt_cmpR op_ne (pe_ix ix_S (pv 0) (pv 2) (fun _ _ => rfl)) (pe_ix ix_S (pv 0) (pv 3) (fun _ _ => rfl)) (nomark _)))))
          (pss_one (ps_set (i := 3) sc_borders.nd rfl (by first | exact Or.inl rfl | exact Or.inr rfl) (pe_ix ix_list (pv 1) (pe_op op_sub (pv 3) pe_int) (fun _ _ => rfl)))))
        (pss_cons (ps_if (pt_cmpR op_eq (pe_ix ix_S (pv 0) (pv 2) (fun _ _ => rfl)) (pe_ix ix_S (pv 0) (pv 3) (fun _ _ => rfl)) (nomark _))
          (pss_one (ps_set (i := 3) sc_borders.nd rfl (by first | exact Or.inl rfl | exact Or.inr rfl) (pe_op op_add (pv 3) pe_int)))
          pss_nil)
        (pss_one (ps_expr (pe_bm PySem.F.plainAttrs_list PySem.F.slot_list_append PySem.F.type_list_append mt_append (pv 1) (pa_cons (pv 3) pa_nil))))))))
      (pss_one (ps_ret (pv 1))))), ?_⟩
    refine ⟨sz (by show 1 ≤ 1000000; decide), fun D nD => ?_⟩
    refine ⟨_, rfl, u, rfl, sz (by omega), 1, (u.length : Int), rfl, ⟨by decide, by decide, by omega, by omega⟩, ?_⟩
    refine for_range (lo := 1) (n := ((u.length : Int) - 1).toNat) (fun i σ H' => ∃ ns v2 v3, σ = [some (.str (S u)), some (.ref D), v2, v3] ∧ But D H H' ∧ H' D = some (.lst (tF ns)) ∧ ns.length = i + 1 ∧ LBs u ns)
      ⟨[0], none, none, rfl, But.of (same_new nD), upd_same, rfl, fun i m e => ?_⟩ ?_ ?_
    · match i, e with
      | 0, e =>
        have : m = 0 := by simpa using e.symm
        subst this
        exact CS.LB.one u
      | i + 1, e => simp at e
    · rintro i σ H1 hi ⟨ns, v2, v3, rfl, b1, e1, n1, l1⟩
      have hi1 : i + 1 < u.length := by omega
      obtain ⟨m0, hm0⟩ : ∃ m, ns[i]? = some m := ⟨ns[i]'(by omega), List.getElem?_eq_getElem (by omega)⟩
      have leaf : ∀ m', CS.LB u (i + 2) m' → ∃ ns' v2 v3, ([some (.str (S u)), some (.ref D), some (.int (1 + (i : Int))), some (.int (m' : Int))] : List (Option V)) = [some (.str (S u)), some (.ref D), v2, v3] ∧ But D H (upd H1 D (.lst (tF ns ++ [.int (m' : Int)]))) ∧
          (upd H1 D (.lst (tF ns ++ [.int (m' : Int)]))) D = some (.lst (tF ns')) ∧ ns'.length = i + 1 + 1 ∧ LBs u ns' := fun m' hm' => by
        refine ⟨ns ++ [m'], _, _, rfl, b1.trans But.upd, ?_, ?_, l1.snoc (by rw [n1]; exact hm')⟩
        · rw [upd_same]
          simp [tF]
        · rw [List.length_append, n1]
          rfl
      have sz1 : (tF ns).length < sizeLine := by
        rw [List.length_map]
        exact szlt (by omega)
      -- many = found[place - 1]
      refine ⟨_, rfl, _, rfl, _, _, rfl, rfl, D, tF ns, _, iV m0, rfl, rfl, SqL.of e1, at_of (j := i) (by omega) (by rw [List.getElem?_map, hm0]; rfl), ?_⟩
      -- the while
      refine ⟨fun mm σ' H' => ∃ m : Nat, mm = m ∧ σ' = [some (.str (S u)), some (.ref D), some (.int (1 + (i : Int))), some (.int (m : Int))] ∧ H' = H1 ∧ CS.Desc u (i + 1) m, ⟨m0, m0, rfl, rfl, rfl, CS.Desc.of (l1 i m0 hm0)⟩, ?_⟩
      rintro m σ' H' ⟨m', rfl, rfl, rfl, hd⟩
      have hm : m < i + 1 := hd.1
      have c1 : (tF ns).length < sizeLine := sz1
      by_cases h0 : 0 < m
      · refine ⟨_, rfl, _, _, rfl, rfl, true, bl_true (by omega), iteT ?_⟩
        refine ⟨_, rfl, _, rfl, u, i + 1, _, rfl, congrArg V.int (by omega), sz (by omega), get_D hi1, _, rfl, _, rfl, u, m, _, rfl, rfl, sz (by omega), get_D (by omega), rfl, ?_⟩
        rw [S1_eq]
        by_cases he : u.getD (i + 1) 0 = u.getD m 0
        · refine ⟨false, by rw [decide_eq_true he]; rfl, iteF ?_⟩
          refine ⟨_, rfl, _, rfl, u, i + 1, _, rfl, congrArg V.int (by omega), sz (by omega), get_D hi1, _, rfl, _, rfl, u, m, _, rfl, rfl, sz (by omega), get_D (by omega), rfl, true, ?_, iteT ?_⟩
          · rw [S1_eq, decide_eq_true he]
          · refine ⟨_, rfl, _, _, rfl, rfl, ?_⟩
            refine ⟨_, rfl, .inl ⟨rfl, _, SqL.of e1⟩, _, rfl, D, _, _, rfl, rfl, e1, sz1, ?_⟩
            exact leaf (m + 1) (hd.yes he)
        · refine ⟨true, by rw [decide_eq_false he]; rfl, iteT ?_⟩
          obtain ⟨m', hm'⟩ : ∃ m', ns[m - 1]? = some m' := ⟨ns[m - 1]'(by omega), List.getElem?_eq_getElem (by omega)⟩
          have lb' : CS.LB u m m' := by
            have := l1 (m - 1) m' hm'
            rwa [show m - 1 + 1 = m by omega] at this
          refine ⟨fun σ2 H2 => ∃ m2 : Nat, m2 < m ∧ σ2 = [some (.str (S u)), some (.ref D), some (.int (1 + (i : Int))), some (.int (m2 : Int))] ∧ H2 = H' ∧ CS.Desc u (i + 1) m2, fun σ2 H2 ⟨m2, h1, h2, h3, h4⟩ => ⟨m2, h1, m2, rfl, h2, h3, h4⟩, ?_⟩
          refine ⟨_, rfl, _, rfl, _, _, rfl, rfl, D, tF ns, _, iV m', rfl, rfl, SqL.of e1, at_of (j := m - 1) (by omega) (by rw [List.getElem?_map, hm']; rfl), ?_⟩
          exact ⟨m', lb'.1, rfl, rfl, hd.down h0 he lb'⟩
      · have hz : m = 0 := by omega
        subst hz
        refine ⟨_, rfl, _, _, rfl, rfl, false, bl_false (by omega), iteF (iteF ?_)⟩
        refine ⟨_, rfl, _, rfl, u, i + 1, _, rfl, congrArg V.int (by omega), sz (by omega), get_D hi1, _, rfl, _, rfl, u, 0, _, rfl, rfl, sz (by omega), get_D (by omega), rfl, ?_⟩
        rw [S1_eq]
        by_cases he : u.getD (i + 1) 0 = u.getD 0 0
        · refine ⟨true, bl_true he, iteT ?_⟩
          refine ⟨_, rfl, _, _, rfl, rfl, ?_⟩
          refine ⟨_, rfl, .inl ⟨rfl, _, SqL.of e1⟩, _, rfl, D, _, _, rfl, rfl, e1, sz1, ?_⟩
          exact leaf 1 (hd.yes he)
        · refine ⟨false, bl_false he, iteF ?_⟩
          refine ⟨_, rfl, .inl ⟨rfl, _, SqL.of e1⟩, _, rfl, D, _, _, rfl, rfl, e1, sz1, ?_⟩
          exact leaf 0 (CS.Desc.no hd he)
    · rintro σ H1 ⟨ns, v2, v3, rfl, b1, e1, n1, l1⟩
      exact ⟨_, rfl, q D H1 ns (b1.new nD) e1 (by omega) l1⟩
def spPeriod : Sp := fun vs H Q _ => ∃ u : List Nat, vs = [.str (S u)] ∧ u ≠ [] ∧ u.length ≤ 20000 ∧ ∀ (p : Nat) H', Same H H' → CS.LeastPer u p → Q (.int (p : Int)) H'
theorem ok_period_of {f : Addr} {fd : FuncData} (F : Fun K "period_of" "period_of" st_period_of f fd) (T : Txt K mg C) (c_borders : C8.Cal P w K mg base 1 "borders" spBorders []) : FnOk P w K mg base CX0 2 f fd ["word"] spPeriod := by
  refine F.ok sc_period_of (fun vs H Q E h => ?_) (fun cdv A outer s H vs Q E hr h => ?_)
  · obtain ⟨u, rfl, _⟩ := h
    rfl
  · obtain ⟨u, rfl, hne, hl, q⟩ := h
    have hu : 0 < u.length := List.length_pos_iff.mpr hne
    refine ⟨_, (pss_one (ps_ret (pe_op op_sub (pe_callB len_S (by rfl) T.len (by decide +kernel) (pa_cons (pv 0) pa_nil)) (pe_ix ix_list (C8.pe_c c_borders hr (by decide) (by rfl) (pa_cons (pv 0) pa_nil)) (pe_un un_neg pe_int) (fun _ _ => rfl))))), ?_⟩
    refine ⟨_, rfl, u, rfl, sz (by omega), _, rfl, u, rfl, hne, hl, fun p H' ns s1 e1 n1 l1 => ?_⟩
    rcases CS.last_cases ns with rfl | ⟨ns0, m, rfl⟩
    · simp at n1
      omega
    have hm : CS.LB u u.length m := by
      have := l1 ns0.length m (by simp)
      rw [List.length_append, List.length_singleton] at n1
      rwa [n1] at this
    refine ⟨1, rfl, p, _, _, iV m, rfl, rfl, SqL.of e1, by rw [tF, List.map_append]; exact atI_last _ _, _, _, rfl, rfl, ?_⟩
    have hlt := hm.1
    exact eqQ (congrArg V.int (by show (u.length : Int) - (m : Int) = ((u.length - m : Nat) : Int); omega)) (q (u.length - m) H' s1 hm.least)
def spRoot : Sp := fun vs H Q _ => ∃ u : List Nat, vs = [.str (S u)] ∧ u ≠ [] ∧ Az u ∧ u.length ≤ 20000 ∧ ∀ a r (k : Nat) H', Same H H' → H' a = some (.tup [.str (S r), .int (k : Int)]) → CS.Prim r → u = CS.rep k r → 0 < k → k ≤ u.length → Q (.ref a) H'
theorem ok_root {f : Addr} {fd : FuncData} (F : Fun K "root" "root" st_root f fd) (T : Txt K mg C) (c_check_full_word : C8.Cal P w K mg base 2 "check_full_word" spFullWord []) (c_period_of : C8.Cal P w K mg base 2 "period_of" spPeriod []) : FnOk P w K mg base CX0 3 f fd ["word"] spRoot := by
  refine F.ok sc_root (fun vs H Q E h => ?_) (fun cdv A outer s H vs Q E hr h => ?_)
  · obtain ⟨u, rfl, _⟩ := h
    rfl
  · obtain ⟨u, rfl, hne, haz, hl, q⟩ := h
    have hu : 0 < u.length := List.length_pos_iff.mpr hne
    refine ⟨_, (pss_cons (ps_expr (C8.pe_c c_check_full_word hr (by decide) (by rfl) (pa_cons (pv 0) (pa_cons (C8.pe_gc (by rfl) T.gMOST_LETTERS) pa_nil))))
      (pss_cons (ps_set (i := 1) sc_root.nd rfl (by first | exact Or.inl rfl | exact Or.inr rfl) (C8.pe_c c_period_of hr (by decide) (by rfl) (pa_cons (pv 0) pa_nil)))
      (pss_cons (ps_if (pt_cmpR op_ne (pe_op op_mod (pe_callB len_S (by rfl) T.len (by decide +kernel) (pa_cons (pv 0) pa_nil)) (pv 1)) pe_int (nomark _))
        (pss_one (ps_ret (pe_tup (pa_cons (pv 0) (pa_cons pe_int pa_nil)))))
        pss_nil)
      (pss_one (ps_ret (pe_tup (pa_cons (pe_slice sl_Sto (pv 0) po_none (po_some (pv 1))) (pa_cons (pe_op op_fdivNN (pe_callB len_S (by rfl) T.len (by decide +kernel) (pa_cons (pv 0) pa_nil)) (pv 1)) pa_nil)))))))), ?_⟩
    refine ⟨_, rfl, u, 20000, rfl, haz, by omega, by omega, hne, ?_⟩
    refine ⟨_, rfl, u, rfl, hne, hl, fun p H1 s1 hp => ?_⟩
    obtain ⟨p0, ple, _, _⟩ := id hp
    refine ⟨_, rfl, u, rfl, sz (by omega), _, rfl, _, _, rfl, rfl, by omega, rfl, ?_⟩
    by_cases hd : u.length % p = 0
    · refine ⟨false, ?_, iteF ?_⟩
      · show V.bl (!decide (V.int ((u.length % p : Nat) : Int) = V.int 0)) = V.bl false
        rw [hd]
        rfl
      refine ⟨_, rfl, _, rfl, _, rfl, u, p, rfl, rfl, rfl, sz (by omega), _, rfl, u, rfl, sz (by omega), _, rfl, u.length, p, rfl, rfl, ⟨p0, by omega⟩, sz (by show 2 ≤ 1000000; decide), fun a na => ?_⟩
      refine q a (u.take p) (u.length / p) _ (s1.trans (same_new na)) upd_same (hp.take hd) (hp.2.2.1.split p0 hd hne) (Nat.div_pos ple p0) (Nat.div_le_self _ _)
    · refine ⟨true, ?_, iteT ?_⟩
      · have hne' : ¬ (V.int ((u.length % p : Nat) : Int) = V.int 0) := fun e => hd (by
          have := V.int.inj e
          omega)
        show V.bl (!decide (V.int ((u.length % p : Nat) : Int) = V.int 0)) = V.bl true
        rw [decide_eq_false hne']
        rfl
      · refine ⟨_, rfl, sz (by show 2 ≤ 1000000; decide), fun a na => ?_⟩
        exact q a u 1 _ (s1.trans (same_new na)) upd_same (hp.self hd) (CS.rep_one u).symm (by decide) hu
end
end Cs
end
section
set_option maxRecDepth 100000
set_option maxHeartbeats 8000000
/-! The program's defs, third part: pieces, their measure; how far a power goes ahead; what is put behind a list. Printed in part by gen.py out of CsC.src. -/
namespace Cs
open PySem L2 SX
section
variable {P : Program} {w : World} {K : PySem.W.Frag} {mg : Str → Option Value} {base : Heap} {C : Addr} {k : Nat}

def spPiece : Sp := fun vs H Q _ => ∃ (m : Nat) (a : Addr) (p : Piece), vs = [.int (m : Int), .ref a] ∧ PieceAt H a p ∧ PieceOk m p ∧ ∀ H', Same H H' → Q (.bl true) H'
theorem ok_is_piece {f : Addr} {fd : FuncData} (F : Fun K "is_piece" "is_piece" st_is_piece f fd) (T : Txt K mg C) (c_is_letters : C8.Cal P w K mg base 1 "is_letters" spLetters []) (c_is_form_for : C8.Cal P w K mg base 4 "is_form_for" spFormFor []) :
    FnOk P w K mg base CX0 5 f fd ["many", "value"] spPiece := by
  refine F.ok sc_is_piece (fun vs H Q E h => ?_) (fun cdv A outer s H vs Q E hr h => ?_)
  · obtain ⟨m, a, p, rfl, _⟩ := h
    rfl
  · obtain ⟨m, a, p, rfl, ⟨b, h1, h2⟩, ⟨haz, hl, hf⟩, q⟩ := h
    refine ⟨_, (pss_cons (ps_if (PW.pt (pw_or (pt_not (pt_val (pe_callB call_isi (by rfl) T.isinstance (by decide +kernel) (pa_cons (pv 1) (pa_cons (pe_bltn (v := .ty "tuple") (u := .type "tuple") (by rfl) T.tuple (by decide +kernel) rfl) pa_nil))))) (pw_or1 (pt_cmpR op_ne (pe_callB call_len_seq (by rfl) T.len (by decide +kernel) (pa_cons (pv 1) pa_nil)) pe_int (nomark _)))))
        (pss_one (ps_ret pe_bl))
        pss_nil)
      (pss_one (ps_ret (pe_and (C8.pe_c c_is_letters hr (by decide) (by rfl) (pa_cons (pe_ix ix_T (pv 1) pe_int (fun _ _ => rfl)) (pa_cons (C8.pe_gc (by rfl) T.gMOST_PIECE_LETTERS) pa_nil))) (pe_one (C8.pe_c c_is_form_for hr (by decide) (by rfl) (pa_cons (pv 0) (pa_cons (pe_ix ix_T (pv 1) pe_int (fun _ _ => rfl)) pa_nil)))))))), ?_⟩
    refine ⟨_, rfl, _, .ty "tuple", .type "tuple", .type "tuple", true, rfl, .ty _, .base (.tup h1), kit_ty (by decide +kernel), true, rfl, iteF ?_⟩
    refine ⟨_, rfl, a, _, rfl, .inr (SqT.of h1), rfl, false, rfl, iteF ?_⟩
    refine ⟨_, rfl, a, _, 0, _, rfl, rfl, h1, rfl, p.1, 2000, rfl, haz, by omega, by omega, true, rfl, iteT ?_⟩
    exact ⟨_, rfl, _, rfl, a, _, 1, _, rfl, rfl, h1, rfl, m, b, p.2, rfl, h2, hf, q⟩
/-- a piece's share of the measure -/
abbrev ms1 (p : Piece) : Nat := p.1.length * (p.2.headD 0 + (if CS.isOpen p.2 then 1 else 0))
theorem ms_sum : ∀ ps : List Piece, (ps.map fun p => ((ms1 p : Nat) : Int)).sum = ((CS.ms ps : Nat) : Int)
  | [] => rfl
  | p :: ps => by
    simp only [List.map_cons, List.sum_cons, ms_sum ps]
    show ((ms1 p : Nat) : Int) + ((CS.ms ps : Nat) : Int) = ((ms1 p + CS.ms ps : Nat) : Int)
    rw [Int.natCast_add]
def spMeasure : Sp := fun vs H Q _ => ∃ (a : Addr) (as : List Addr) (ps : List Piece), vs = [.ref a] ∧ H a = some (.lst (refs as)) ∧ PsAt H as ps ∧ ps.length ≤ 100000 ∧ (∀ p ∈ ps, p.1.length ≤ 100000 ∧ p.2 ≠ []) ∧ ∀ H', Same H H' → Q (.int (CS.ms ps : Nat)) H'
theorem ok_measure {f : Addr} {fd : FuncData} (F : Fun K "measure" "measure" st_measure f fd) (T : Txt K mg C) (c_is_open_form : C8.Cal P w K mg base 1 "is_open_form" spOpen []) : FnOk P w K mg base CX0 2 f fd ["pieces"] spMeasure := by
  refine F.ok sc_measure (fun vs H Q E h => ?_) (fun cdv A outer s H vs Q E hr h => ?_)
  · obtain ⟨a, as, ps, rfl, _⟩ := h
    rfl
  · obtain ⟨a, as, ps, rfl, ha, hp, hl, hw, q⟩ := h
    have hlen := hp.len
    refine ⟨_, (pss_one (ps_ret (pe_callB (cr_sum rfl) (by rfl) T.sum (by decide +kernel) (pa_cons (pe_lc (own := [("word", 1), ("form", 2)]) (g := gTup K 2 (gCons (gName 1) (gCons (gName 2) gNil))) (by rfl) sc_measure.nd (pi_list (pv 0)) (blkOk_by (own := [("word", 1), ("form", 2)]) (N := N_measure) (sc := defScope st_measure) (by decide +kernel)) (fun _ _ _ _ _ => (pg_tup (by rfl) (pgs_cons (pg_name (i := 1) sc_measure.nd rfl (by first | exact Or.inl rfl | exact Or.inr rfl)) (pgs_cons (pg_name (i := 2) sc_measure.nd rfl (by first | exact Or.inl rfl | exact Or.inr rfl)) pgs_nil)))) (fun _ _ _ _ _ => pts_nil) (fun _ _ _ _ _ => (pe_op op_mul (pe_callB len_S (by rfl) T.len (by decide +kernel) (pa_cons (pv 1) pa_nil)) (pe_op op_add (pe_ix ix_T (pv 2) pe_int (fun _ _ => rfl)) (pe_callTy call_int1 (by rfl) T.int (by decide +kernel) (pa_cons (C8.pe_c c_is_open_form hr (by decide) (by rfl) (pa_cons (pv 2) pa_nil)) pa_nil)))))) pa_nil)))), ?_⟩
    refine ⟨_, rfl, a, rfl, ⟨_, SqL.of ha⟩, fun D nD => ?_⟩
    refine lc_it (walk_list (K := K) (a := a) (xs := refs as)) (Grow D H ((ps.map fun p => ((ms1 p : Nat) : Int)).map V.int)) grow0 (fun i H' _ g' => SqL.of (g'.1 a _ (ne_of_none ha nD) ha)) (fun i x H1 H2 hi g' y => ?_) (fun H' g' => ?_)
    · obtain ⟨rfl, e1⟩ := y
      obtain ⟨ai, hai, rfl⟩ := map_at e1
      obtain ⟨p, hpi, hpa⟩ := paired_at hp hai
      obtain ⟨b, h1, h2⟩ := hpa.same (g'.same nD)
      obtain ⟨wl, wf⟩ := hw p (at_mem hpi)
      obtain ⟨u, f⟩ := p
      cases f with
      | nil => exact absurd rfl wf
      | cons c t =>
      refine ⟨ai, _, rfl, SqT.of h1, rfl, _, _, rfl, _, _, rfl, rfl, rfl, ?_⟩
      refine ⟨_, rfl, u, rfl, sz (by simp only at wl; omega), _, rfl, b, _, 0, iV c, rfl, rfl, h2, at_of (j := 0) rfl rfl, _, rfl, b, c, t, rfl, h2, fun H3 s3 => .inr ⟨_, rfl, _, _, rfl, rfl, _, _, rfl, rfl, .inl ⟨by omega, by simp only at wl; omega⟩, ?_⟩⟩
      refine grow1 g' s3 ?_ (by rw [List.length_map, List.length_map]; omega)
      rw [List.getElem?_map, List.getElem?_map, hpi]
      show some (V.int ((ms1 (u, c :: t) : Nat) : Int)) = some (V.int ((u.length : Int) * ((c : Int) + if CS.isOpen (c :: t) = true then 1 else 0)))
      congr 2
      simp only [ms1, List.headD_cons]
      rw [Int.natCast_mul, Int.natCast_add]
      split <;> rfl
    · have hn : (refs as).length = ((ps.map fun p => ((ms1 p : Nat) : Int)).map V.int).length := by rw [List.length_map, List.length_map, List.length_map, hlen]
      rw [hn] at g'
      obtain ⟨s1, e1⟩ := g'.all nD
      refine ⟨D, _, rfl, SqL.of e1, ?_⟩
      rw [ms_sum]
      exact q H' s1
def spCheckPieces : Sp := fun vs H Q _ => ∃ (m : Nat) (a : Addr) (as : List Addr) (ps : List Piece), vs = [.int (m : Int), .ref a] ∧ m ≤ 3 ∧ H a = some (.lst (refs as)) ∧ PsAt H as ps ∧ ps.length ≤ 5000 ∧ (∀ p ∈ ps, PieceOk m p) ∧ CS.ms ps ≤ 2000 ∧ ∀ H', Same H H' → Q .non H'
theorem ok_check_pieces {f : Addr} {fd : FuncData} (F : Fun K "check_pieces" "check_pieces" st_check_pieces f fd) (T : Txt K mg C) (c_check_many : C8.Cal P w K mg base 4 "check_many" spMany []) (c_is_piece : C8.Cal P w K mg base 5 "is_piece" spPiece []) (c_measure : C8.Cal P w K mg base 2 "measure" spMeasure []) :
    FnOk P w K mg base CX0 6 f fd ["many", "pieces"] spCheckPieces := by
  refine F.ok sc_check_pieces (fun vs H Q E h => ?_) (fun cdv A outer s H vs Q E hr h => ?_)
  · obtain ⟨m, a, as, ps, rfl, _⟩ := h
    rfl
  · obtain ⟨m, a, as, ps, rfl, hm, ha, hp, hl, hok, hms, q⟩ := h
    have hlen := hp.len
    refine ⟨_, (pss_cons (ps_expr (C8.pe_c c_check_many hr (by decide) (by rfl) (pa_cons (pv 0) pa_nil)))
      (pss_cons (ps_if (PW.pt (pw_or (pt_not (pt_val (pe_callB call_isi (by rfl) T.isinstance (by decide +kernel) (pa_cons (pv 1) (pa_cons (pe_bltn (v := .ty "list") (u := .type "list") (by rfl) T.list (by decide +kernel) rfl) pa_nil))))) (pw_or1 (pt_cmpR op_gt (pe_callB call_len_seq (by rfl) T.len (by decide +kernel) (pa_cons (pv 1) pa_nil)) (C8.pe_gc (by rfl) T.gMOST_PIECES) (nomark _)))))
        (pss_one ps_never)
        pss_nil)
      (pss_cons (ps_for PassesOwn.never rfl (pi_list (pv 1)) (pg_name (i := 2) sc_check_pieces.nd rfl (by first | exact Or.inl rfl | exact Or.inr rfl))
        (pss_one (ps_if (pt_not (pt_val (C8.pe_c c_is_piece hr (by decide) (by rfl) (pa_cons (pv 0) (pa_cons (pv 2) pa_nil)))))
          (pss_one ps_never)
          pss_nil)))
      (pss_one (ps_if (pt_cmpR op_gt (C8.pe_c c_measure hr (by decide) (by rfl) (pa_cons (pv 1) pa_nil)) (C8.pe_gc (by rfl) T.gMOST_MEASURE) (nomark _))
        (pss_one ps_never)
        pss_nil))))), ?_⟩
    refine ⟨_, rfl, m, rfl, hm, ?_⟩
    refine ⟨_, rfl, _, .ty "list", .type "list", .type "list", true, rfl, .ty _, .base (.lst ha), kit_ty (by decide +kernel), true, rfl, iteF ?_⟩
    refine ⟨_, rfl, a, _, rfl, .inl (SqL.of ha), _, _, rfl, rfl, false, bl_false (by rw [List.length_map]; omega), iteF ?_⟩
    refine ⟨_, rfl, a, rfl, ⟨_, SqL.of ha⟩, for_it (walk_list (K := K) (a := a) (xs := refs as)) (fun i σ H' => ∃ v, σ = [some (.int (m : Int)), some (.ref a), v] ∧ Same H H') ⟨none, rfl, Same.refl H⟩ (fun i σ H' _ ⟨v, _, s1⟩ => SqL.of (s1 _ _ ha)) ?_ ?_⟩
    · rintro i x σ H1 H2 hi ⟨v, rfl, s1⟩ ⟨rfl, e1⟩
      obtain ⟨ai, hai, rfl⟩ := map_at e1
      obtain ⟨p, hpi, hpa⟩ := paired_at hp hai
      exact ⟨_, rfl, _, rfl, m, ai, p, rfl, hpa.same s1, hok p (at_mem hpi), fun H3 s3 => ⟨true, rfl, iteF ⟨_, rfl, s1.trans s3⟩⟩⟩
    · rintro σ H1 ⟨v, rfl, s1⟩
      refine ⟨_, rfl, a, as, ps, rfl, s1 _ _ ha, hp.same s1, by omega, fun p hpp => ?_, fun H2 s2 => ⟨_, _, rfl, rfl, false, bl_false (by omega), iteF (q H2 (s1.trans s2))⟩⟩
      obtain ⟨_, h2, h3⟩ := hok p hpp
      exact ⟨by omega, fun e => by rw [e] at h3; simp at h3⟩
def spBack : Sp := fun vs H Q _ => ∃ (w u : List Nat), vs = [.str (S w), .str (S u)] ∧ w ≠ [] ∧ w.length ≤ 100000 ∧ u.length ≤ 100000 ∧ ∀ n : Nat, CS.GB w u n → Q (.int (n : Int)) H
theorem ok_going_back {f : Addr} {fd : FuncData} (F : Fun K "going_back" "going_back" st_going_back f fd) (T : Txt K mg C) : FnOk P w K mg base CX0 1 f fd ["word", "text"] spBack := by
  refine F.ok sc_going_back (fun vs H Q E h => ?_) (fun cdv A outer s H vs Q E hr h => ?_)
  · obtain ⟨v, u, rfl, _⟩ := h
    rfl
  · obtain ⟨v, u, rfl, hne, hw, hu, q⟩ := h
    have hv : 0 < v.length := List.length_pos_iff.mpr hne
    refine ⟨_, (pss_cons (ps_set (i := 2) sc_going_back.nd rfl (by first | exact Or.inl rfl | exact Or.inr rfl) pe_int)
      (pss_cons (ps_while PassesOwn.never (PW.pt (pw_and (pt_cmpR op_lt (pv 2) (pe_callB len_S (by rfl) T.len (by decide +kernel) (pa_cons (pv 1) pa_nil)) (nomark _)) (pw_and1 (pt_cmpR op_eq (pe_ix ix_S (pv 1) (pe_op op_sub (pe_op op_sub (pe_callB len_S (by rfl) T.len (by decide +kernel) (pa_cons (pv 1) pa_nil)) pe_int) (pv 2)) (fun _ _ => rfl)) (pe_ix ix_S (pv 0) (pe_op op_sub (pe_op op_sub (pe_callB len_S (by rfl) T.len (by decide +kernel) (pa_cons (pv 0) pa_nil)) pe_int) (pe_op op_mod (pv 2) (pe_callB len_S (by rfl) T.len (by decide +kernel) (pa_cons (pv 0) pa_nil)))) (fun _ _ => rfl)) (nomark _)))))
        (pss_one (ps_set (i := 2) sc_going_back.nd rfl (by first | exact Or.inl rfl | exact Or.inr rfl) (pe_op op_add (pv 2) pe_int))))
      (pss_one (ps_ret (pv 2))))), ?_⟩
    refine ⟨fun mm σ H' => ∃ n : Nat, mm = u.length - n ∧ n ≤ u.length ∧ σ = [some (.str (S v)), some (.str (S u)), some (.int (n : Int))] ∧ H' = H ∧ ∀ j, j < n → u.getD (u.length - 1 - j) 0 = v.getD (v.length - 1 - j % v.length) 0,
      ⟨_, 0, rfl, Nat.zero_le _, rfl, rfl, fun j hj => by omega⟩, ?_⟩
    rintro mm σ H' ⟨n, rfl, hn, rfl, rfl, hall⟩
    by_cases hlt : n < u.length
    · refine ⟨_, rfl, _, rfl, u, rfl, sz (by omega), _, _, rfl, rfl, true, bl_true (by omega), iteT ?_⟩
      have hmod := Nat.mod_lt n hv
      refine ⟨_, rfl, _, rfl, u, rfl, sz (by omega), _, _, rfl, rfl, _, rfl, _, _, rfl, rfl, u, u.length - 1 - n, _, rfl, congrArg V.int (by omega), sz (by omega), get_D (by omega), ?_⟩
      refine ⟨_, rfl, _, rfl, v, rfl, sz (by omega), _, _, rfl, rfl, _, rfl, _, rfl, v, rfl, sz (by omega), _, _, rfl, rfl, by omega, _, _, rfl, rfl, v, v.length - 1 - n % v.length, _, rfl, ?_, sz (by omega), get_D (by omega), rfl, ?_⟩
      · show V.int ((v.length : Int) - 1 - ((n % v.length : Nat) : Int)) = _
        exact congrArg V.int (by omega)
      rw [S1_eq]
      by_cases he : u.getD (u.length - 1 - n) 0 = v.getD (v.length - 1 - n % v.length) 0
      · refine ⟨true, bl_true he, iteT ?_⟩
        refine ⟨fun σ' H2 => ∃ n' : Nat, n' = n + 1 ∧ σ' = [some (.str (S v)), some (.str (S u)), some (.int (n' : Int))] ∧ H2 = H', fun σ' H2 ⟨n', h1, h2, h3⟩ => ⟨_, ?_, n', rfl, by omega, h2, h3, fun j hj => ?_⟩, ?_⟩
        · omega
        · by_cases hj' : j < n
          · exact hall j hj'
          · rw [show j = n by omega]
            exact he
        · exact ⟨_, rfl, _, _, rfl, rfl, n + 1, rfl, rfl, rfl⟩
      · refine ⟨false, bl_false he, iteF ?_⟩
        exact ⟨_, rfl, q n ⟨hn, hall, fun _ => he⟩⟩
    · refine ⟨_, rfl, _, rfl, u, rfl, sz (by omega), _, _, rfl, rfl, false, bl_false (by omega), iteF (iteF ?_)⟩
      exact ⟨_, rfl, q n ⟨hn, hall, fun h => absurd h hlt⟩⟩
def spTurned : Sp := fun vs H Q _ => ∃ (w : List Nat) (n : Nat), vs = [.str (S w), .int (n : Int)] ∧ w ≠ [] ∧ w.length ≤ 100000 ∧ Q (.str (S (CS.back w n))) H
theorem ok_turned_back {f : Addr} {fd : FuncData} (F : Fun K "turned_back" "turned_back" st_turned_back f fd) (T : Txt K mg C) : FnOk P w K mg base CX0 1 f fd ["word", "by"] spTurned := by
  refine F.ok sc_turned_back (fun vs H Q E h => ?_) (fun cdv A outer s H vs Q E hr h => ?_)
  · obtain ⟨v, n, rfl, _⟩ := h
    rfl
  · obtain ⟨v, n, rfl, hne, hw, q⟩ := h
    have hv : 0 < v.length := List.length_pos_iff.mpr hne
    have hmod := Nat.mod_lt n hv
    have ek : (v.length : Int) - ((n % v.length : Nat) : Int) = ((v.length - n % v.length : Nat) : Int) := by omega
    refine ⟨_, (pss_cons (ps_set (i := 2) sc_turned_back.nd rfl (by first | exact Or.inl rfl | exact Or.inr rfl) (pe_op op_sub (pe_callB len_S (by rfl) T.len (by decide +kernel) (pa_cons (pv 0) pa_nil)) (pe_op op_mod (pv 1) (pe_callB len_S (by rfl) T.len (by decide +kernel) (pa_cons (pv 0) pa_nil)))))
      (pss_one (ps_ret (pe_op op_catS (pe_slice sl_Sfrom (pv 0) (po_some (pv 2)) po_none) (pe_slice sl_Sto (pv 0) po_none (po_some (pv 2))))))), ?_⟩
    refine ⟨_, rfl, v, rfl, sz (by omega), _, rfl, _, rfl, v, rfl, sz (by omega), _, _, rfl, rfl, by omega, _, _, rfl, rfl, ?_⟩
    refine ⟨_, rfl, _, rfl, _, rfl, v, v.length - n % v.length, rfl, congrArg some ek, rfl, sz (by omega), _, rfl, _, rfl, _, rfl, v, v.length - n % v.length, rfl, rfl, congrArg some ek, sz (by omega), _, _, rfl, rfl, ?_, q⟩
    rw [List.length_drop, List.length_take]
    exact sz (by omega)
end
end Cs
end
section
set_option maxRecDepth 100000
set_option maxHeartbeats 8000000
/-! The program's defs, fourth part: push_word, push_power, normal_pieces. Printed in part by gen.py out of CsD.src. -/
namespace Cs
open PySem L2 SX
section
variable {P : Program} {w : World} {K : PySem.W.Frag} {mg : Str → Option Value} {base : Heap} {C : Addr} {k : Nat}

theorem refs_app (as bs : List Addr) : refs (as ++ bs) = refs as ++ refs bs := List.map_append
/-- a new piece is laid, then the list is written -/
theorem put_new {H H1 : Hp} {l t fa : Addr} {xs : List V} {u : List Nat} {g : List Nat} {as0 : List Addr} {ps0 : List Piece} {o : HO} (b : But l H H1) (hl : H1 l = some (.lst xs)) (nt : H1 t = none) (hf : FormAt H1 fa g) (h0 : PsAt H1 as0 ps0) :
    But l H (upd (upd H1 t (.tup [.str (S u), .ref fa])) l o) ∧ PsAt (upd (upd H1 t (.tup [.str (S u), .ref fa])) l o) (as0 ++ [t]) (ps0 ++ [(u, g)]) := by
  have s1 : Same H1 (upd H1 t (.tup [.str (S u), .ref fa])) := same_new nt
  have hl1 : (upd H1 t (.tup [.str (S u), .ref fa])) l = some (.lst xs) := s1 _ _ hl
  have tl : t ≠ l := fun e => by rw [e, hl] at nt; cases nt
  have b1 : But l (upd H1 t (.tup [.str (S u), .ref fa])) (upd (upd H1 t (.tup [.str (S u), .ref fa])) l o) := But.upd
  refine ⟨(b.trans (But.of s1)).trans b1, paired_app ((h0.same s1).but b1 hl1) (.cons ⟨fa, ?_, ((hf.same s1).but b1 hl1)⟩ .nil)⟩
  rw [upd_ne tl, upd_same]
theorem len_le {ps : List Piece} {u : List Nat} {f : List Nat} (hw : ∀ p ∈ ps, p.1.length ≤ 100000) (h : (u, f) ∈ ps) : u.length ≤ 100000 := hw _ h
def spPushWord : Sp := fun vs H Q _ => ∃ (m : Nat) (l : Addr) (as : List Addr) (ps : List Piece) (u : List Nat) (fa : Addr), vs = [.ref l, .str (S u), .ref fa] ∧ H l = some (.lst (refs as)) ∧ PsAt H as ps ∧ FormAt H fa (CS.fx m) ∧
  (∀ p ∈ ps, Az p.1) ∧ ps.length < 100000 ∧ (∀ p ∈ ps, p.1.length ≤ 100000) ∧ u.length ≤ 100000 ∧ ∀ H' as', But l H H' → H' l = some (.lst (refs as')) → PsAt H' as' (CS.pushW m ps u) → Q .non H'
theorem ok_push_word {f : Addr} {fd : FuncData} (F : Fun K "push_word" "push_word" st_push_word f fd) (T : Txt K mg C) : FnOk P w K mg base CX0 1 f fd ["stack", "word", "fixed"] spPushWord := by
  refine F.ok sc_push_word (fun vs H Q E h => ?_) (fun cdv A outer s H vs Q E hr h => ?_)
  · obtain ⟨m, l, as, ps, u, fa, rfl, _⟩ := h
    rfl
  · obtain ⟨m, l, as, ps, u, fa, rfl, hl, hp, hf, haz, hn, hw, hu, q⟩ := h
    have hlen := hp.len
    refine ⟨_, (pss_one (ps_if (pt_cmpR op_ne (pv 1) pe_str (nomark _))
        (pss_one (ps_if (PW.pt (pw_and (pt_cmpR (op_neD hr.units) (pv 0) (pe_lst pa_nil) (nomark _)) (pw_and1 (pt_cmpR (op_eqD hr.units) (pe_ix ix_T (pe_ix ix_list (pv 0) (pe_un un_neg pe_int) (fun _ _ => rfl)) pe_int (fun _ _ => rfl)) (pv 2) (nomark _)))))
          (pss_one (ps_asg (pe_tup (pa_cons (pe_op op_catS (pe_ix ix_T (pe_ix ix_list (pv 0) (pe_un un_neg pe_int) (fun _ _ => rfl)) pe_int (fun _ _ => rfl)) (pv 1)) (pa_cons (pv 2) pa_nil))) (pg_sub (pv 0) (pe_un un_neg pe_int) set_list)))
          (pss_one (ps_expr (pe_bm PySem.F.plainAttrs_list PySem.F.slot_list_append PySem.F.type_list_append mt_append (pv 0) (pa_cons (pe_tup (pa_cons (pv 1) (pa_cons (pv 2) pa_nil))) pa_nil))))))
        pss_nil)), ?_⟩
    by_cases hu0 : u = []
    · subst hu0
      refine ⟨_, rfl, rfl, false, rfl, iteF ?_⟩
      exact q H as (But.refl l H) hl (by rw [CS.pushW_nil]; exact hp)
    refine ⟨_, rfl, rfl, true, ?_, iteT ?_⟩
    · have : ¬ (V.str (S u) = V.str (S [])) := fun e => hu0 (S_inj (V.str.inj e))
      show V.bl (!decide (V.str (S u) = V.str (S []))) = V.bl true
      rw [decide_eq_false this]
      rfl
    have app : ∀ {H1 : Hp}, Same H H1 → (∀ p, ps.getLast? = some p → p.2 ≠ CS.fx m) → ∀ t, H1 t = none → (fun H2 => ∀ D : VK, (∀ H' as', But l H H' → H' l = some (.lst (refs as')) → PsAt H' as' (CS.pushW m ps u) → D .non H') → D .non (upd H2 l (.lst (refs as ++ [.ref t])))) (upd H1 t (.tup [.str (S u), .ref fa])) := fun {H1} s1 hc t nt D hD => by
      obtain ⟨b2, p2⟩ := put_new (u := u) (g := CS.fx m) (o := .lst (refs as ++ [.ref t])) (But.of s1) (s1 _ _ hl) nt (hf.same s1) (hp.same s1)
      refine hD _ (as ++ [t]) b2 (by rw [upd_same, refs_app]; rfl) ?_
      rw [CS.pushW_app hu0 hc]
      exact p2
    refine ⟨_, rfl, Nat.zero_le _, fun p np => ?_⟩
    have s1 := same_new (o := .lst []) np
    refine ⟨.list (ps.map dP), .list [], .lst (SqL.of (s1 _ _ hl)) (hp.same s1).dp, .lst (SqL.of upd_same) .nil, sh_list haz, sh_nil, ?_⟩
    rw [ne_nil]
    rcases CS.last_cases ps with rfl | ⟨ps0, ⟨v, g⟩, rfl⟩
    · refine ⟨false, rfl, iteF (iteF ?_)⟩
      refine ⟨_, rfl, .inl ⟨rfl, _, SqL.of (s1 _ _ hl)⟩, _, rfl, _, rfl, sz (by show 2 ≤ 1000000; decide), fun t nt => ⟨l, _, _, rfl, rfl, same_new nt _ _ (s1 _ _ hl), by rw [List.length_map, hlen]; exact szlt (by decide), ?_⟩⟩
      exact app s1 (fun p hp => by simp at hp) t nt _ q
    · refine ⟨true, bl_true (by simp), iteT ?_⟩
      obtain ⟨as0, a1, rfl, h0, ⟨b, e1, e2⟩⟩ := paired_last hp
      have hlast : atI (refs (as0 ++ [a1])) (-1) = some (.ref a1) := by rw [refs_app]; exact atI_last _ _
      refine ⟨_, rfl, 1, rfl, l, _, _, _, rfl, rfl, SqL.of (s1 _ _ hl), hlast, a1, _, 1, _, rfl, rfl, s1 _ _ e1, rfl, _, rfl, dF g, dF (CS.fx m), (e2.same s1).dp, (hf.same s1).dp, sh_F _, sh_F _, ?_⟩
      rw [eqv_F]
      by_cases hg : g = CS.fx m
      · subst hg
        refine ⟨true, bl_true rfl, iteT ?_⟩
        have hv : v.length ≤ 100000 := hw (v, CS.fx m) (by simp)
        refine ⟨_, rfl, 1, rfl, l, _, _, _, rfl, rfl, SqL.of (s1 _ _ hl), hlast, a1, _, 0, _, rfl, rfl, s1 _ _ e1, rfl, _, rfl, v, u, rfl, rfl, sz (by omega), _, rfl, sz (by show 2 ≤ 1000000; decide), fun t nt => ?_⟩
        refine ⟨_, rfl, 1, rfl, l, _, _, as0.length, rfl, rfl, same_new nt _ _ (s1 _ _ hl), ?_, ?_⟩
        · unfold ixN
          rw [List.length_map, List.length_append, List.length_singleton, if_neg (by decide), if_pos (by omega)]
          congr 1
          omega
        · obtain ⟨b2, p2⟩ := put_new (u := v ++ u) (g := CS.fx m) (o := .lst ((refs (as0 ++ [a1])).set as0.length (V.ref t))) (But.of s1) (s1 _ _ hl) nt (hf.same s1) (PsAt.same h0 s1)
          refine q _ (as0 ++ [t]) b2 ?_ ?_
          · rw [upd_same, refs_app, refs_app]
            show some (HO.lst ((refs as0 ++ [V.ref a1]).set as0.length (V.ref t))) = _
            rw [List.set_append_right _ _ (by rw [List.length_map]; exact Nat.le_refl _), List.length_map, Nat.sub_self]
            rfl
          · rw [CS.pushW_fix hu0]
            exact p2
      · refine ⟨false, bl_false hg, iteF ?_⟩
        refine ⟨_, rfl, .inl ⟨rfl, _, SqL.of (s1 _ _ hl)⟩, _, rfl, _, rfl, sz (by show 2 ≤ 1000000; decide), fun t nt => ⟨l, _, _, rfl, rfl, same_new nt _ _ (s1 _ _ hl), by rw [List.length_map, hlen]; exact szlt (by omega), ?_⟩⟩
        exact app s1 (fun p hp => by
          rw [List.getLast?_concat] at hp
          cases hp
          exact hg) t nt _ q

/-! ### push_power -/
/-- behind the first step: the fixed piece on top is taken off as far as it goes on, or there is none -/
def St1 (m : Nat) (ps : List Piece) (u : List Nat) (ps1 : List Piece) (w1 car : List Nat) : Prop :=
  (ps1 = ps ∧ w1 = u ∧ car = [] ∧ ∀ p, ps.getLast? = some p → p.2 ≠ CS.fx m) ∨
  ∃ ps0 v n, ps = ps0 ++ [(v, CS.fx m)] ∧ CS.GB u v n ∧ ps1 = CS.pushW m ps0 (v.take (v.length - n)) ∧ w1 = CS.back u n ∧ car = v.drop (v.length - n)
structure St1F (m : Nat) (ps : List Piece) (u : List Nat) (t : List Nat) (ps1 : List Piece) (w1 car : List Nat) : Prop where
  nf1 : CS.NF m ps1
  al1 : CS.AllL AZ ps1
  ms1 : CS.ms ps1 ≤ CS.ms ps
  nf2 : CS.NF m (CS.addP m ps1 w1 (0 :: t))
  al2 : CS.AllL AZ (CS.addP m ps1 w1 (0 :: t))
  ms2 : CS.ms (CS.addP m ps1 w1 (0 :: t)) ≤ CS.ms ps + u.length
  wl : w1.length = u.length
  cl : car.length ≤ CS.ms ps
  put : CS.Put AZ m ps (CS.pushW m (CS.addP m ps1 w1 (0 :: t)) car) (fun x => CS.rep (CS.dot t x) u) u.length
theorem St1.facts {m : Nat} {ps ps1 : List Piece} {u w1 car t : List Nat} (h : CS.NF m ps) (hA : CS.AllL AZ ps) (hu : CS.Prim u) (huA : Az u) (ht : t.length = m) (ht0 : 0 < t.sum) (s : St1 m ps u ps1 w1 car) : St1F m ps u t ps1 w1 car := by
  rcases s with ⟨rfl, rfl, rfl, hc⟩ | ⟨ps0, v, n, rfl, g, rfl, rfl, rfl⟩
  · have p := CS.put_power' h hA hu huA ht ht0 hc
    exact ⟨h, hA, Nat.le_refl _, p.nf, p.al, p.ms, rfl, Nat.zero_le _, by rw [CS.pushW_nil]; exact p⟩
  · obtain ⟨h0, ho, hb⟩ := (CS.NF_snoc m ps0 _).mp h
    have hvA : Az v := hA (v, CS.fx m) (by simp)
    have p1 := CS.put_word (A := AZ) (w := v.take (v.length - n)) h0 hA.left (fun c hc => hvA c (List.mem_of_mem_take hc))
    have p2 := CS.put_add p1.nf p1.al (hu.back n) (fun c hc => huA c (CS.rot_mem hc)) ht ht0 (CS.power_cond h hu g)
    have p3 := CS.put_power h hA hu huA ht ht0 g
    have e1 : CS.ms (ps0 ++ [(v, CS.fx m)]) = CS.ms ps0 + v.length := by rw [CS.ms_append, CS.ms_fx]
    have l1 := p1.ms
    have l2 := p2.ms
    rw [CS.back_len] at l2
    rw [List.length_take] at l1
    exact ⟨p1.nf, p1.al, by omega, p2.nf, p2.al, by omega, CS.back_len _ _, by rw [List.length_drop]; omega, p3⟩
def spPushPower : Sp := fun vs H Q _ => ∃ (m : Nat) (l : Addr) (as : List Addr) (ps : List Piece) (u : List Nat) (fo fa : Addr) (t : List Nat), vs = [.ref l, .str (S u), .ref fo, .ref fa] ∧ H l = some (.lst (refs as)) ∧ PsAt H as ps ∧ FormAt H fo (0 :: t) ∧ FormAt H fa (CS.fx m) ∧
  CS.NF m ps ∧ CS.AllL AZ ps ∧ CS.Prim u ∧ Az u ∧ t.length = m ∧ 0 < t.sum ∧ m ≤ 100 ∧ CS.ms ps + u.length ≤ 50000 ∧
  ∀ H' as' ps', But l H H' → H' l = some (.lst (refs as')) → PsAt H' as' ps' → CS.Put AZ m ps ps' (fun x => CS.rep (CS.dot t x) u) u.length → Q .non H'
theorem ok_push_power {f : Addr} {fd : FuncData} (F : Fun K "push_power" "push_power" st_push_power f fd) (T : Txt K mg C) (c_going_back : C8.Cal P w K mg base 1 "going_back" spBack []) (c_turned_back : C8.Cal P w K mg base 1 "turned_back" spTurned [])
    (c_push_word : C8.Cal P w K mg base 1 "push_word" spPushWord []) (c_form_sum : C8.Cal P w K mg base 1 "form_sum" spSum []) : FnOk P w K mg base CX0 2 f fd ["stack", "word", "form", "fixed"] spPushPower := by
  refine F.ok sc_push_power (fun vs H Q E h => ?_) (fun cdv A outer s H vs Q E hr h => ?_)
  · obtain ⟨m, l, as, ps, u, fo, fa, t, rfl, _⟩ := h
    rfl
  · obtain ⟨m, l, as, ps, u, fo, fa, t, rfl, hl, hp, hfo, hfa, hnf, hal, hpr, haz, ht, ht0, hm, hms, q⟩ := h
    have hlen := hp.len
    have hcnt := hnf.count
    have hup := hpr.pos
    refine ⟨_, (pss_cons (ps_set (i := 4) sc_push_power.nd rfl (by first | exact Or.inl rfl | exact Or.inr rfl) pe_str)
      (C8.pss_cut (ps_if (PW.pt (pw_and (pt_cmpR (op_neD hr.units) (pv 0) (pe_lst pa_nil) (nomark _)) (pw_and1 (pt_cmpR (op_eqD hr.units) (pe_ix ix_T (pe_ix ix_list (pv 0) (pe_un un_neg pe_int) (fun _ _ => rfl)) pe_int (fun _ _ => rfl)) (pv 3) (nomark _)))))
        (pss_cons (ps_set (i := 5) sc_push_power.nd rfl (by first | exact Or.inl rfl | exact Or.inr rfl) (pe_ix ix_T (pe_bm0 PySem.F.plainAttrs_list PySem.F.slot_list_pop PySem.F.type_list_pop mt_pop (pv 0)) pe_int (fun _ _ => rfl)))
        (pss_cons (ps_set (i := 6) sc_push_power.nd rfl (by first | exact Or.inl rfl | exact Or.inr rfl) (C8.pe_c c_going_back hr (by decide) (by rfl) (pa_cons (pv 1) (pa_cons (pv 5) pa_nil))))
        (pss_cons (ps_par (i := 4) (j := 1) (by rfl) sc_push_power.nd rfl rfl (by decide) rfl rfl (pa_cons (pe_slice sl_Sfrom (pv 5) (po_some (pe_op op_sub (pe_callB len_S (by rfl) T.len (by decide +kernel) (pa_cons (pv 5) pa_nil)) (pv 6))) po_none) (pa_cons (C8.pe_c c_turned_back hr (by decide) (by rfl) (pa_cons (pv 1) (pa_cons (pv 6) pa_nil))) pa_nil)) (by rfl))
        (pss_one (ps_expr (C8.pe_c c_push_word hr (by decide) (by rfl) (pa_cons (pv 0) (pa_cons (pe_slice sl_Sto (pv 5) po_none (po_some (pe_op op_sub (pe_callB len_S (by rfl) T.len (by decide +kernel) (pa_cons (pv 5) pa_nil)) (pv 6)))) (pa_cons (pv 3) pa_nil)))))))))
        pss_nil)
      (C8.pss_cut (ps_if (PW.pt (pw_and (pt_cmpR (op_neD hr.units) (pv 0) (pe_lst pa_nil) (nomark _)) (pw_and (pt_cmpR (op_neD hr.units) (pe_ix ix_T (pe_ix ix_list (pv 0) (pe_un un_neg pe_int) (fun _ _ => rfl)) pe_int (fun _ _ => rfl)) (pv 3) (nomark _)) (pw_and1 (pt_cmpR op_eq (pe_ix ix_T (pe_ix ix_list (pv 0) (pe_un un_neg pe_int) (fun _ _ => rfl)) pe_int (fun _ _ => rfl)) (pv 1) (nomark _))))))
        (pss_one (ps_asg (pe_tup (pa_cons (pv 1) (pa_cons (C8.pe_c c_form_sum hr (by decide) (by rfl) (pa_cons (pe_ix ix_T (pe_ix ix_list (pv 0) (pe_un un_neg pe_int) (fun _ _ => rfl)) pe_int (fun _ _ => rfl)) (pa_cons (pv 2) pa_nil))) pa_nil))) (pg_sub (pv 0) (pe_un un_neg pe_int) set_list)))
        (pss_one (ps_expr (pe_bm PySem.F.plainAttrs_list PySem.F.slot_list_append PySem.F.type_list_append mt_append (pv 0) (pa_cons (pe_tup (pa_cons (pv 1) (pa_cons (pv 2) pa_nil))) pa_nil)))))
      (pss_one (ps_expr (C8.pe_c c_push_word hr (by decide) (by rfl) (pa_cons (pv 0) (pa_cons (pv 4) (pa_cons (pv 3) pa_nil))))))))), ?_⟩
    refine ⟨fun σ' H' => ∃ as1 ps1 w1 car v5 v6, σ' = [some (.ref l), some (.str (S w1)), some (.ref fo), some (.ref fa), some (.str (S car)), v5, v6] ∧ But l H H' ∧ H' l = some (.lst (refs as1)) ∧ PsAt H' as1 ps1 ∧ St1 m ps u ps1 w1 car, ?_, ?_⟩
    · refine ⟨_, rfl, Nat.zero_le _, fun p np => ?_⟩
      have s1 := same_new (o := .lst []) np
      refine ⟨.list (ps.map dP), .list [], .lst (SqL.of (s1 _ _ hl)) (hp.same s1).dp, .lst (SqL.of upd_same) .nil, sh_list hal, sh_nil, ?_⟩
      rw [ne_nil]
      rcases CS.last_cases ps with rfl | ⟨ps0, ⟨v, g⟩, rfl⟩
      · refine ⟨false, rfl, iteF (iteF ?_)⟩
        exact ⟨as, [], u, [], _, _, rfl, But.of s1, s1 _ _ hl, hp.same s1, .inl ⟨rfl, rfl, rfl, fun p hp => by simp at hp⟩⟩
      · refine ⟨true, bl_true (by simp), iteT ?_⟩
        obtain ⟨as0, a1, rfl, h0, ⟨b, e1, e2⟩⟩ := paired_last hp
        have hlast : atI (refs (as0 ++ [a1])) (-1) = some (.ref a1) := by rw [refs_app]; exact atI_last _ _
        refine ⟨_, rfl, 1, rfl, l, _, _, _, rfl, rfl, SqL.of (s1 _ _ hl), hlast, a1, _, 1, _, rfl, rfl, s1 _ _ e1, rfl, _, rfl, dF g, dF (CS.fx m), (e2.same s1).dp, (hfa.same s1).dp, sh_F _, sh_F _, ?_⟩
        rw [eqv_F]
        by_cases hg : g = CS.fx m
        · subst hg
          refine ⟨true, bl_true rfl, iteT ?_⟩
          have hv : v.length ≤ 100000 := by
            have := hnf.len (v, CS.fx m) (by simp)
            simp only at this
            omega
          have hpop : (refs (as0 ++ [a1]))[(refs (as0 ++ [a1])).length - 1]? = some (.ref a1) := by
            rw [refs_app]
            simp
          have hdl : (refs (as0 ++ [a1])).dropLast = refs as0 := by rw [refs_app]; exact List.dropLast_concat
          refine ⟨_, rfl, .inl ⟨rfl, _, SqL.of (s1 _ _ hl)⟩, l, _, _, rfl, rfl, s1 _ _ hl, hpop, ?_⟩
          rw [hdl]
          have b2 : But l H (upd (upd H p (.lst [])) l (.lst (refs as0))) := (But.of s1).trans But.upd
          have g1 : (upd (upd H p (.lst [])) l (.lst (refs as0))) a1 = some (.tup [.str (S v), .ref b]) := b2.tup hl (fun xs e => by cases e) e1
          have h0' : PsAt (upd (upd H p (.lst [])) l (.lst (refs as0))) as0 ps0 := PsAt.but h0 b2 hl
          have hfa' := hfa.but b2 hl
          generalize hH2 : upd (upd H p (.lst [])) l (.lst (refs as0)) = H2 at *
          have hl2 : H2 l = some (.lst (refs as0)) := by rw [← hH2]; exact upd_same
          refine ⟨a1, _, 0, _, rfl, rfl, g1, rfl, ?_⟩
          refine ⟨_, rfl, _, rfl, u, v, rfl, hpr.1, by omega, hv, fun n gb => ?_⟩
          have hn := gb.1
          refine ⟨_, rfl, _, rfl, v, rfl, sz (by omega), _, rfl, _, _, rfl, rfl, _, rfl, v, v.length - n, rfl, congrArg some (by omega), rfl, sz (by omega), ?_⟩
          refine ⟨_, rfl, _, rfl, u, n, rfl, hpr.1, by omega, _, _, rfl, ?_⟩
          obtain ⟨hnf0, _, _⟩ := (CS.NF_snoc m ps0 _).mp hnf
          have hal0 := hal.left
          have hms0 : CS.ms (ps0 ++ [(v, CS.fx m)]) = CS.ms ps0 + v.length := by rw [CS.ms_append, CS.ms_fx]
          have hcnt0 := hnf0.count
          refine ⟨_, rfl, _, rfl, _, rfl, v, rfl, sz (by omega), _, rfl, _, _, rfl, rfl, _, rfl, v, v.length - n, rfl, rfl, congrArg some (by omega), sz (by omega), _, rfl, ?_⟩
          refine ⟨m, l, as0, ps0, _, fa, rfl, hl2, h0', hfa', hal0, by omega, fun p hp => ?_, by rw [List.length_take]; omega, fun H3 as3 b3 e3 p3 => ?_⟩
          · have := hnf0.len p hp
            omega
          · exact ⟨as3, _, CS.back u n, v.drop (v.length - n), _, _, rfl, b2.trans b3, e3, p3, .inr ⟨ps0, v, n, rfl, gb, rfl, rfl, rfl⟩⟩
        · refine ⟨false, bl_false hg, iteF ?_⟩
          exact ⟨_, _, u, [], _, _, rfl, But.of s1, s1 _ _ hl, hp.same s1, .inl ⟨rfl, rfl, rfl, fun p hp => by
            rw [List.getLast?_concat] at hp
            cases hp
            exact hg⟩⟩
    · rintro σ1 H1 ⟨as1, ps1, w1, car, v5, v6, rfl, b1, hl1, hp1, st⟩
      have fc := st.facts hnf hal hpr haz ht ht0
      have hlen1 := hp1.len
      have hcnt1 := fc.nf1.count
      have hms1 := fc.ms1
      have hwl := fc.wl
      have hfo1 := hfo.but b1 hl
      have hfa1 := hfa.but b1 hl
      refine ⟨fun σ' H' => ∃ as2, σ' = [some (.ref l), some (.str (S w1)), some (.ref fo), some (.ref fa), some (.str (S car)), v5, v6] ∧ But l H H' ∧ H' l = some (.lst (refs as2)) ∧ PsAt H' as2 (CS.addP m ps1 w1 (0 :: t)), ?_, ?_⟩
      · have app : ∀ {H2 : Hp}, Same H1 H2 → (∀ p, ps1.getLast? = some p → ¬ (p.2 ≠ CS.fx m ∧ p.1 = w1)) → ∀ x, H2 x = none → ∃ as2, ([some (.ref l), some (.str (S w1)), some (.ref fo), some (.ref fa), some (.str (S car)), v5, v6] : L2.St) = [some (.ref l), some (.str (S w1)), some (.ref fo), some (.ref fa), some (.str (S car)), v5, v6] ∧
            But l H (upd (upd H2 x (.tup [.str (S w1), .ref fo])) l (.lst (refs as1 ++ [.ref x]))) ∧ (upd (upd H2 x (.tup [.str (S w1), .ref fo])) l (.lst (refs as1 ++ [.ref x]))) l = some (.lst (refs as2)) ∧
            PsAt (upd (upd H2 x (.tup [.str (S w1), .ref fo])) l (.lst (refs as1 ++ [.ref x]))) as2 (CS.addP m ps1 w1 (0 :: t)) := fun {H2} s2 hc x nx => by
          obtain ⟨b2, p2⟩ := put_new (u := w1) (g := 0 :: t) (o := .lst (refs as1 ++ [.ref x])) (But.of s2) (s2 _ _ hl1) nx (hfo1.same s2) (hp1.same s2)
          refine ⟨as1 ++ [x], rfl, b1.trans b2, by rw [upd_same, refs_app]; rfl, ?_⟩
          rw [CS.addP_app hc]
          exact p2
        refine ⟨_, rfl, Nat.zero_le _, fun p np => ?_⟩
        have s2 := same_new (o := .lst []) np
        refine ⟨.list (ps1.map dP), .list [], .lst (SqL.of (s2 _ _ hl1)) (hp1.same s2).dp, .lst (SqL.of upd_same) .nil, sh_list fc.al1, sh_nil, ?_⟩
        rw [ne_nil]
        rcases CS.last_cases ps1 with rfl | ⟨ps0, ⟨v, g⟩, rfl⟩
        · refine ⟨false, rfl, iteF (iteF ?_)⟩
          refine ⟨_, rfl, .inl ⟨rfl, _, SqL.of (s2 _ _ hl1)⟩, _, rfl, _, rfl, sz (by show 2 ≤ 1000000; decide), fun x nx => ⟨l, _, _, rfl, rfl, same_new nx _ _ (s2 _ _ hl1), by rw [List.length_map, hlen1]; exact szlt (by decide), ?_⟩⟩
          exact app s2 (fun p hp => by simp at hp) x nx
        · refine ⟨true, bl_true (by simp), iteT ?_⟩
          obtain ⟨as0, a1, rfl, h0, ⟨b, e1, e2⟩⟩ := paired_last hp1
          have hlast : atI (refs (as0 ++ [a1])) (-1) = some (.ref a1) := by rw [refs_app]; exact atI_last _ _
          refine ⟨_, rfl, 1, rfl, l, _, _, _, rfl, rfl, SqL.of (s2 _ _ hl1), hlast, a1, _, 1, _, rfl, rfl, s2 _ _ e1, rfl, _, rfl, dF g, dF (CS.fx m), (e2.same s2).dp, (hfa1.same s2).dp, sh_F _, sh_F _, ?_⟩
          rw [eqv_F]
          have appd : ¬ (g ≠ CS.fx m ∧ v = w1) → _ := fun hno => app s2 (fun p hp => by
            rw [List.getLast?_concat] at hp
            cases hp
            exact hno)
          by_cases hg : g = CS.fx m
          · refine ⟨false, by rw [decide_eq_true hg]; rfl, iteF (iteF ?_)⟩
            refine ⟨_, rfl, .inl ⟨rfl, _, SqL.of (s2 _ _ hl1)⟩, _, rfl, _, rfl, sz (by show 2 ≤ 1000000; decide), fun x nx => ⟨l, _, _, rfl, rfl, same_new nx _ _ (s2 _ _ hl1), by rw [List.length_map, hlen1]; exact szlt (by omega), ?_⟩⟩
            exact appd (fun z => z.1 hg) x nx
          · refine ⟨true, by rw [decide_eq_false hg]; rfl, iteT ?_⟩
            refine ⟨_, rfl, 1, rfl, l, _, _, _, rfl, rfl, SqL.of (s2 _ _ hl1), hlast, a1, _, 0, _, rfl, rfl, s2 _ _ e1, rfl, _, rfl, rfl, ?_⟩
            by_cases hv : v = w1
            · subst hv
              refine ⟨true, bl_true rfl, iteT ?_⟩
              obtain ⟨hnf0, hok, _⟩ := (CS.NF_snoc m ps0 _).mp fc.nf1
              have hgl : g.length = m + 1 := hok.len
              refine ⟨_, rfl, _, rfl, 1, rfl, l, _, _, _, rfl, rfl, SqL.of (s2 _ _ hl1), hlast, a1, _, 1, _, rfl, rfl, s2 _ _ e1, rfl, _, rfl, b, fo, g, 0 :: t, rfl, e2.same s2, hfo1.same s2, by rw [hgl, List.length_cons, ht], by omega, fun x H3 s3 e3 => ?_⟩
              refine ⟨sz (by show 2 ≤ 1000000; decide), fun y ny => ?_⟩
              refine ⟨_, rfl, 1, rfl, l, _, _, as0.length, rfl, rfl, same_new ny _ _ (s3 _ _ (s2 _ _ hl1)), ?_, ?_⟩
              · unfold ixN
                rw [List.length_map, List.length_append, List.length_singleton, if_neg (by decide), if_pos (by omega)]
                congr 1
                omega
              · obtain ⟨b4, p4⟩ := put_new (u := v) (g := List.zipWith (· + ·) g (0 :: t)) (o := .lst ((refs (as0 ++ [a1])).set as0.length (V.ref y))) (But.of (s2.trans s3)) ((s2.trans s3) _ _ hl1) ny e3 (PsAt.same h0 (s2.trans s3))
                refine ⟨as0 ++ [y], rfl, b1.trans b4, ?_, ?_⟩
                · rw [upd_same, refs_app, refs_app]
                  show some (HO.lst ((refs as0 ++ [V.ref a1]).set as0.length (V.ref y))) = _
                  rw [List.set_append_right _ _ (by rw [List.length_map]; exact Nat.le_refl _), List.length_map, Nat.sub_self]
                  rfl
                · rw [CS.addP_one hg]
                  exact p4
            · refine ⟨false, bl_false (fun e => hv (S_inj (V.str.inj e))), iteF ?_⟩
              refine ⟨_, rfl, .inl ⟨rfl, _, SqL.of (s2 _ _ hl1)⟩, _, rfl, _, rfl, sz (by show 2 ≤ 1000000; decide), fun x nx => ⟨l, _, _, rfl, rfl, same_new nx _ _ (s2 _ _ hl1), by rw [List.length_map, hlen1]; exact szlt (by omega), ?_⟩⟩
              exact appd (fun z => hv z.2) x nx
      · rintro σ2 H2 ⟨as2, rfl, b2, hl2, hp2⟩
        have hms2 := fc.ms2
        have hcnt2 := fc.nf2.count
        have hcl := fc.cl
        refine ⟨_, rfl, _, rfl, _, rfl, m, l, as2, _, car, fa, rfl, hl2, hp2, hfa.but b2 hl, fc.al2, by omega, fun p hp => ?_, by omega, fun H3 as3 b3 e3 p3 => ?_⟩
        · have := fc.nf2.len p hp
          omega
        · exact q H3 as3 _ (b2.trans b3) e3 p3 fc.put
end
end Cs
end
section
set_option maxRecDepth 100000
set_option maxHeartbeats 8000000
/-! The program's defs, fifth part: normal_pieces, the class OpenText. Printed in part by gen.py out of CsE.src. -/
namespace Cs
open PySem L2 SX
section
variable {P : Program} {w : World} {K : PySem.W.Frag} {mg : Str → Option Value} {base : Heap} {C : Addr} {k : Nat}

theorem rep_az {u : List Nat} (h : Az u) (n : Nat) : Az (CS.rep n u) := fun c hc => h c (CS.rep_mem n hc)
theorem take_succ {ps : List Piece} {i : Nat} {p : Piece} (h : ps[i]? = some p) : ps.take (i + 1) = ps.take i ++ [p] := by
  rw [List.take_add_one, h]
  rfl
theorem ms_take {ps : List Piece} {i : Nat} {p : Piece} (h : ps[i]? = some p) : CS.ms (ps.take i) + ms1 p ≤ CS.ms ps := by
  have e : ps = ps.take i ++ (p :: ps.drop (i + 1)) := by
    have h1 := List.take_append_drop i ps
    have h2 : ps.drop i = p :: ps.drop (i + 1) := by
      rw [List.drop_eq_getElem_cons (at_lt h), (List.getElem?_eq_some_iff.mp h).2]
    rw [h2] at h1
    exact h1.symm
  have := congrArg CS.ms e
  rw [CS.ms_append] at this
  simp only [CS.ms] at this
  show CS.ms (ps.take i) + p.1.length * (p.2.headD 0 + if CS.isOpen p.2 = true then 1 else 0) ≤ CS.ms ps
  omega
def spNormal : Sp := fun vs H Q _ => ∃ (m : Nat) (a : Addr) (as : List Addr) (ps : List Piece), vs = [.int (m : Int), .ref a] ∧ m ≤ 100 ∧ H a = some (.lst (refs as)) ∧ PsAt H as ps ∧ (∀ p ∈ ps, PieceOk m p) ∧ CS.ms ps ≤ 2000 ∧
  ∀ t as' N H', Same H H' → H' t = some (.tup (refs as')) → PsAt H' as' N → CS.Done AZ m ps N → Q (.ref t) H'
theorem ok_normal_pieces {f : Addr} {fd : FuncData} (F : Fun K "normal_pieces" "normal_pieces" st_normal_pieces f fd) (T : Txt K mg C) (c_plain : C8.Cal P w K mg base 1 "plain" spPlain []) (c_is_open_form : C8.Cal P w K mg base 1 "is_open_form" spOpen [])
    (c_root : C8.Cal P w K mg base 3 "root" spRoot []) (c_form_times : C8.Cal P w K mg base 1 "form_times" spTimes []) (c_push_power : C8.Cal P w K mg base 2 "push_power" spPushPower []) (c_push_word : C8.Cal P w K mg base 1 "push_word" spPushWord []) :
    FnOk P w K mg base CX0 4 f fd ["many", "pieces"] spNormal := by
  refine F.ok sc_normal_pieces (fun vs H Q E h => ?_) (fun cdv A outer s H vs Q E hr h => ?_)
  · obtain ⟨m, a, as, ps, rfl, _⟩ := h
    rfl
  · obtain ⟨m, a, as, ps, rfl, hm, ha, hp, hok, hms, q⟩ := h
    have hlen := hp.len
    refine ⟨_, (pss_cons (ps_par (i := 2) (j := 3) (by rfl) sc_normal_pieces.nd rfl rfl (by decide) rfl rfl (pa_cons (C8.pe_c c_plain hr (by decide) (by rfl) (pa_cons (pv 0) (pa_cons pe_int pa_nil))) (pa_cons (pe_lst pa_nil) pa_nil)) (by rfl))
      (pss_cons (ps_for PassesOwn.never rfl (pi_list (pv 1)) (pg_tup (by rfl) (pgs_cons (pg_name (i := 4) sc_normal_pieces.nd rfl (by first | exact Or.inl rfl | exact Or.inr rfl)) (pgs_cons (pg_name (i := 5) sc_normal_pieces.nd rfl (by first | exact Or.inl rfl | exact Or.inr rfl)) pgs_nil)))
        (pss_one (ps_if (pt_cmpR op_ne (pv 4) pe_str (nomark _))
          (pss_cons (ps_if (pt_val (C8.pe_c c_is_open_form hr (by decide) (by rfl) (pa_cons (pv 5) pa_nil)))
            (pss_cons (ps_asg (C8.pe_c c_root hr (by decide) (by rfl) (pa_cons (pv 4) pa_nil)) (pg_tup (by rfl) (pgs_cons (pg_name (i := 6) sc_normal_pieces.nd rfl (by first | exact Or.inl rfl | exact Or.inr rfl)) (pgs_cons (pg_name (i := 7) sc_normal_pieces.nd rfl (by first | exact Or.inl rfl | exact Or.inr rfl)) pgs_nil))))
            (pss_one (ps_expr (C8.pe_c c_push_power hr (by decide) (by rfl) (pa_cons (pv 3) (pa_cons (pv 6) (pa_cons (C8.pe_c c_form_times hr (by decide) (by rfl) (pa_cons (pv 7) (pa_cons (pe_op op_catU (pe_tup (pa_cons pe_int pa_nil)) (pe_slice sl_Tfrom (pv 5) (po_some pe_int) po_none)) pa_nil))) (pa_cons (pv 2) pa_nil))))))))
            pss_nil)
          (pss_one (ps_expr (C8.pe_c c_push_word hr (by decide) (by rfl) (pa_cons (pv 3) (pa_cons (pe_op op_mulS (pv 4) (pe_ix ix_T (pv 5) pe_int (fun _ _ => rfl))) (pa_cons (pv 2) pa_nil)))))))
          pss_nil)))
      (pss_one (ps_ret (pe_callTy call_tupU (by rfl) T.tuple (by decide +kernel) (pa_cons (pv 3) pa_nil)))))), ?_⟩
    refine ⟨_, rfl, m, 1, rfl, hm, fun fa H0 s0 hfa0 => ?_⟩
    refine ⟨Nat.zero_le _, fun D nD => ⟨_, _, rfl, ?_⟩⟩
    have sD := same_new (o := .lst []) nD
    have ha1 : (upd H0 D (.lst [])) a = some (.lst (refs as)) := sD _ _ (s0 _ _ ha)
    have naD : a ≠ D := ne_of_none (s0 _ _ ha) nD
    refine ⟨_, rfl, a, rfl, ⟨_, SqL.of ha1⟩, for_it (walk_list (K := K) (a := a) (xs := refs as)) (fun i σ H' => ∃ as' N v4 v5 v6 v7, σ = [some (.int (m : Int)), some (.ref a), some (.ref fa), some (.ref D), v4, v5, v6, v7] ∧ But D H0 H' ∧ H' D = some (.lst (refs as')) ∧ PsAt H' as' N ∧ CS.Done AZ m (ps.take i) N)
      ⟨[], [], none, none, none, none, rfl, But.of sD, upd_same, .nil, CS.Done.nil⟩ (fun i σ H' _ ⟨_, _, _, _, _, _, _, b, _⟩ => SqL.of (b a _ naD (s0 _ _ ha))) ?_ ?_⟩
    · rintro i x σ H1 H2 hi ⟨as1, N, v4, v5, v6, v7, rfl, b1, hl1, hp1, dn⟩ ⟨rfl, ex⟩
      obtain ⟨ai, hai, rfl⟩ := map_at ex
      obtain ⟨p, hpi, hpa⟩ := paired_at hp hai
      obtain ⟨haz, hpl, hpf⟩ := hok p (at_mem hpi)
      have hmt := ms_take hpi
      obtain ⟨u, g⟩ := p
      simp only at haz hpl hpf
      cases g with
      | nil => simp at hpf
      | cons c t =>
      have htl : t.length = m := by simpa using hpf
      have sN := b1.new nD
      have hpa2 := (hpa.same s0).same sN
      obtain ⟨b, e1, e2⟩ := hpa2
      have hfa1 : FormAt H2 fa (CS.fx m) := hfa0.same sN
      have hdms := dn.ms
      have hcnt := dn.nf.count
      have hlenN := hp1.len
      have mval : ms1 (u, c :: t) = u.length * (c + if CS.isOpen (c :: t) = true then 1 else 0) := rfl
      rw [mval] at hmt
      refine ⟨ai, _, rfl, SqT.of e1, rfl, _, _, rfl, _, _, rfl, rfl, ?_⟩
      rw [take_succ hpi]
      by_cases hu : u = []
      · subst hu
        refine ⟨_, rfl, rfl, false, rfl, iteF ?_⟩
        exact ⟨as1, N, _, _, _, _, rfl, b1, hl1, hp1, dn.empty⟩
      have hup : 0 < u.length := List.length_pos_iff.mpr hu
      have hcu : u.length * c ≤ 2000 := by
        rw [Nat.mul_add] at hmt
        omega
      have hcle : c ≤ 2000 := by
        have : c ≤ u.length * c := Nat.le_mul_of_pos_left c hup
        omega
      refine ⟨_, rfl, rfl, true, ?_, iteT ?_⟩
      · have : ¬ (V.str (S u) = V.str (S [])) := fun e => hu (S_inj (V.str.inj e))
        show V.bl (!decide (V.str (S u) = V.str (S []))) = V.bl true
        rw [decide_eq_false this]
        rfl
      -- is_open_form(form)
      refine ⟨_, rfl, b, c, t, rfl, e2, fun H3 s3 => ⟨_, rfl, ?_⟩⟩
      have hl3 := s3 _ _ hl1
      have hp3 := hp1.same s3
      have hfa3 := hfa1.same s3
      have e13 := s3 _ _ e1
      have e23 := e2.same s3
      have b3 := b1.trans (But.of s3)
      -- push_word(stack, word * form[0], fixed), from any list so far
      have hrl : (CS.rep c u).length ≤ 2000 := by
        rw [CS.rep_len, Nat.mul_comm]
        exact hcu
      by_cases ho : 0 < t.sum
      · have hop : CS.isOpen (c :: t) = true := CS.isOpen_pow ho c
        rw [hop]
        refine iteT ?_
        rw [hop, if_pos rfl, Nat.mul_add, Nat.mul_one] at hmt
        refine ⟨_, rfl, u, rfl, hu, haz, by omega, fun y r kk H4 s4 e4 hpr heq hk hkl => ?_⟩
        refine ⟨y, _, rfl, SqT.of e4, rfl, _, _, rfl, _, _, rfl, rfl, ?_⟩
        have hrle : r.length ≤ u.length := by
          rw [heq, CS.rep_len]
          exact Nat.le_mul_of_pos_left _ hk
        have hraz : Az r := fun d hd => haz d (by
          obtain ⟨k', rfl⟩ : ∃ k', kk = k' + 1 := ⟨kk - 1, by omega⟩
          rw [heq, CS.rep_succ]
          exact List.mem_append_left _ hd)
        refine ⟨_, rfl, _, rfl, _, rfl, sz (by show 1 ≤ 1000000; decide), fun z nz => ⟨_, rfl, 1, rfl, b, _, 1, rfl, rfl, rfl, same_new nz _ _ (e23.same s4), fun z2 H6 s6 e6 => ?_⟩⟩
        refine ⟨z, z2, _, _, rfl, rfl, s6 _ _ upd_same, e6, ?_, fun z3 H7 s7 e7 => ?_⟩
        · show 1 + ((tF (c :: t)).drop 1).length ≤ sizeLine
          rw [List.length_drop, List.length_map, List.length_cons, htl]
          exact sz (by omega)
        have hf7 : FormAt H7 z3 (0 :: t) := e7
        refine ⟨kk, z3, 0 :: t, rfl, hf7, by omega, by rw [List.length_cons, htl]; omega, fun z4 H8 s8 e8 => ?_⟩
        have e8' : FormAt H8 z4 (0 :: t.map (kk * ·)) := e8
        have sAll : Same H3 H8 := s4.trans ((same_new nz).trans (s6.trans (s7.trans s8)))
        have hms' : CS.ms N + r.length ≤ 50000 := by omega
        refine ⟨_, rfl, m, D, as1, N, r, z4, fa, t.map (kk * ·), rfl, sAll _ _ hl3, hp3.same sAll, e8', hfa3.same sAll, dn.nf, dn.al, hpr, hraz, by rw [List.length_map, htl], by rw [CS.sum_map]; exact Nat.mul_pos hk ho, hm, hms', fun H9 as9 N9 b9 hl9 hp9 put9 => ?_⟩
        have cnt9 := put9.nf.count
        have ms9 := put9.ms
        have b39 : But D H3 H9 := (But.of sAll).trans b9
        refine ⟨_, rfl, _, rfl, _, rfl, b, _, 0, iV c, rfl, rfl, e23.but b39 hl3, at_of (j := 0) rfl rfl, u, c, rfl, rfl, by omega, by omega, _, rfl, ?_⟩
        refine ⟨m, D, as9, N9, CS.rep c u, fa, rfl, hl9, hp9, hfa3.but b39 hl3, put9.al, by have := hp9.len; omega, fun p hp => ?_, by omega, fun H10 as10 b10 hl10 hp10 => ?_⟩
        · have := put9.nf.len p hp
          omega
        · have put10 := CS.put_word (A := AZ) (w := CS.rep c u) put9.nf put9.al (rep_az haz c)
          exact ⟨as10, _, _, _, _, _, rfl, (b3.trans b39).trans b10, hl10, hp10, dn.power ho heq hk put9 put10⟩
      · have hs0 : t.sum = 0 := by omega
        have hop : CS.isOpen (c :: t) = false := by
          unfold CS.isOpen
          exact decide_eq_false ho
        rw [hop]
        refine iteF ?_
        refine ⟨_, rfl, _, rfl, _, rfl, b, _, 0, iV c, rfl, rfl, e23, at_of (j := 0) rfl rfl, u, c, rfl, rfl, by omega, by omega, _, rfl, ?_⟩
        refine ⟨m, D, as1, N, CS.rep c u, fa, rfl, hl3, hp3, hfa3, dn.al, by omega, fun p hp => ?_, by omega, fun H10 as10 b10 hl10 hp10 => ?_⟩
        · have := dn.nf.len p hp
          omega
        · have put10 := CS.put_word (A := AZ) (w := CS.rep c u) dn.nf dn.al (rep_az haz c)
          exact ⟨as10, _, _, _, _, _, rfl, b3.trans b10, hl10, hp10, dn.plain hs0 put10⟩
    · rintro σ H1 ⟨as1, N, v4, v5, v6, v7, rfl, b1, hl1, hp1, dn⟩
      have e : ps.take (refs as).length = ps := by rw [List.length_map, hlen, List.take_length]
      rw [e] at dn
      exact ⟨_, rfl, D, _, rfl, SqL.of hl1, fun t H2 s2 e2 => q t as1 N H2 (s0.trans ((b1.new nD).trans s2)) e2 (hp1.same s2) dn⟩

/-! ### the class OpenText -/
theorem FormAt.butO {g : Addr} {H H' : Hp} {a : Addr} {f : List Nat} {o : HO} (h : FormAt H a f) (b : But g H H') (hg : H g = some o) (ho : ∀ xs, o ≠ .tup xs) : FormAt H' a f := b.tup hg ho h
theorem PieceAt.butO {g : Addr} {H H' : Hp} {a : Addr} {p : Piece} {o : HO} (h : PieceAt H a p) (b : But g H H') (hg : H g = some o) (ho : ∀ xs, o ≠ .tup xs) : PieceAt H' a p :=
  let ⟨c, h1, h2⟩ := h
  ⟨c, b.tup hg ho h1, h2.butO b hg ho⟩
theorem PsAt.butO {g : Addr} {H H' : Hp} {as : List Addr} {ps : List Piece} {o : HO} (h : PsAt H as ps) (b : But g H H') (hg : H g = some o) (ho : ∀ xs, o ≠ .tup xs) : PsAt H' as ps := L2.Paired.mapP h fun _ _ q => q.butO b hg ho
theorem pm_ : ¬ (("_pieces" : Str) = "_many") := by decide +kernel
theorem mp_ : ¬ (("_many" : Str) = "_pieces") := by decide +kernel
def otf (m : Nat) (t : Addr) : List (Str × V) := putF "_pieces" (.ref t) (putF "_many" (.int (m : Int)) [])
theorem otf_m (m : Nat) (t : Addr) : (otf m t).lookup ("_many" : Str) = some (.int (m : Int)) := by
  unfold otf
  rw [lookup_putF, if_neg mp_, lookup_putF, if_pos rfl]
theorem otf_p (m : Nat) (t : Addr) : (otf m t).lookup ("_pieces" : Str) = some (.ref t) := by
  unfold otf
  rw [lookup_putF, if_pos rfl]
theorem otf_no (m : Nat) (t : Addr) {x : Str} (h1 : ¬ x = "_pieces") (h2 : ¬ x = "_many") : (otf m t).lookup x = none := by
  unfold otf
  rw [lookup_putF, if_neg h1, lookup_putF, if_neg h2]
  all_goals rfl
/-- an OpenText stands at x: of so many unknowns, with these normal pieces -/
def OtAt (C : Addr) (H : Hp) (x : Addr) (m : Nat) (N : List Piece) : Prop := ∃ dx t as, H x = some (.ins C dx (otf m t)) ∧ H t = some (.tup (refs as)) ∧ PsAt H as N
theorem OtAt.same {H H' : Hp} {x : Addr} {m : Nat} {N : List Piece} (h : OtAt C H x m N) (s : Same H H') : OtAt C H' x m N :=
  let ⟨dx, t, as, h1, h2, h3⟩ := h
  ⟨dx, t, as, s _ _ h1, s _ _ h2, h3.same s⟩
def spInit (C : Addr) : Sp := fun vs H Q _ => ∃ (x dx : Addr) (m : Nat) (a : Addr) (as : List Addr) (ps : List Piece), vs = [.ref x, .int (m : Int), .ref a] ∧ H x = some (.ins C dx []) ∧ m ≤ 3 ∧ H a = some (.lst (refs as)) ∧ PsAt H as ps ∧ ps.length ≤ 5000 ∧
  (∀ p ∈ ps, PieceOk m p) ∧ CS.ms ps ≤ 2000 ∧ ∀ N H', But x H H' → OtAt C H' x m N → CS.Done AZ m ps N → Q .non H'
theorem ok_init {f : Addr} {fd : FuncData} (F : Fun K "__init__" "OpenText.__init__" st_OpenText___init__ f fd) (T : Txt K mg C) (c_check_pieces : C8.Cal P w K mg base 6 "check_pieces" spCheckPieces []) (c_normal_pieces : C8.Cal P w K mg base 4 "normal_pieces" spNormal []) :
    FnOk P w K mg base CX0 7 f fd ["self", "many", "pieces"] (spInit C) := by
  refine F.ok sc_OpenText___init__ (fun vs H Q E h => ?_) (fun cdv A outer s H vs Q E hr h => ?_)
  · obtain ⟨x, dx, m, a, as, ps, rfl, _⟩ := h
    rfl
  · obtain ⟨x, dx, m, a, as, ps, rfl, hx, hm, ha, hp, hl, hok, hms, q⟩ := h
    refine ⟨_, (pss_cons (ps_expr (C8.pe_c c_check_pieces hr (by decide) (by rfl) (pa_cons (pv 1) (pa_cons (pv 2) pa_nil))))
      (pss_cons (ps_fld (pv 0) (pv 1) rfl)
      (pss_one (ps_fld (pv 0) (C8.pe_c c_normal_pieces hr (by decide) (by rfl) (pa_cons (pv 1) (pa_cons (pv 2) pa_nil))) rfl)))), ?_⟩
    refine ⟨_, rfl, _, rfl, m, a, as, ps, rfl, hm, ha, hp, hl, hok, hms, fun H1 s1 => ?_⟩
    have hx1 := s1 _ _ hx
    have b1 : But x H1 (upd H1 x (.ins C dx (putF "_many" (.int (m : Int)) []))) := But.upd
    have ax : a ≠ x := ne_of (s1 _ _ ha) hx1 (by intro z; cases z)
    refine ⟨_, rfl, _, rfl, x, C, dx, [], rfl, hx1, T.isC.cl, T.nM, by show 0 < 1000; decide, ?_⟩
    refine ⟨_, rfl, _, rfl, m, a, as, ps, rfl, by omega, b1 _ _ ax (s1 _ _ ha), (hp.same s1).butO b1 hx1 (by intro xs z; cases z), hok, hms, fun t as' N H2 s2 ht hN dn => ?_⟩
    have hx2 : H2 x = some (.ins C dx (putF "_many" (.int (m : Int)) [])) := s2 _ _ upd_same
    have b2 : But x H2 (upd H2 x (.ins C dx (otf m t))) := But.upd
    refine ⟨_, rfl, x, C, dx, _, rfl, hx2, T.isC.cl, T.nP, by show 1 < 1000; decide, ?_⟩
    exact q N _ ((((But.of s1).trans b1).trans (But.of s2)).trans b2) ⟨dx, t, as', upd_same, b2.tup hx2 (by intro xs z; cases z) ht, hN.butO b2 hx2 (by intro xs z; cases z)⟩ dn
def spOMany (C : Addr) : Sp := fun vs H Q _ => ∃ (x : Addr) (m : Nat) (N : List Piece), vs = [.ref x] ∧ OtAt C H x m N ∧ Q (.int (m : Int)) H
theorem ok_many {f : Addr} {fd : FuncData} (F : Fun K "many" "OpenText.many" st_OpenText_many f fd) (T : Txt K mg C) : FnOk P w K mg base CX0 1 f fd ["self"] (spOMany C) := by
  refine F.ok sc_OpenText_many (fun vs H Q E h => ?_) (fun cdv A outer s H vs Q E hr h => ?_)
  · obtain ⟨x, m, N, rfl, _⟩ := h
    rfl
  · obtain ⟨x, m, N, rfl, ⟨dx, t, as, hx, ht, hN⟩, q⟩ := h
    refine ⟨_, (pss_one (ps_ret (pe_fld (pv 0) rfl))), ?_⟩
    exact ⟨_, rfl, x, C, dx, _, _, rfl, hx, T.isC.cl, T.nM, otf_m m t, q⟩
def spOPieces (C : Addr) : Sp := fun vs H Q _ => ∃ (x : Addr) (m : Nat) (N : List Piece), vs = [.ref x] ∧ OtAt C H x m N ∧ ∀ a as H', Same H H' → H a = none → H' a = some (.lst (refs as)) → PsAt H' as N → Q (.ref a) H'
theorem ok_pieces {f : Addr} {fd : FuncData} (F : Fun K "pieces" "OpenText.pieces" st_OpenText_pieces f fd) (T : Txt K mg C) : FnOk P w K mg base CX0 1 f fd ["self"] (spOPieces C) := by
  refine F.ok sc_OpenText_pieces (fun vs H Q E h => ?_) (fun cdv A outer s H vs Q E hr h => ?_)
  · obtain ⟨x, m, N, rfl, _⟩ := h
    rfl
  · obtain ⟨x, m, N, rfl, ⟨dx, t, as, hx, ht, hN⟩, q⟩ := h
    refine ⟨_, (pss_one (ps_ret (pe_callTy call_list_of (by rfl) T.list (by decide +kernel) (pa_cons (pe_fld (pv 0) rfl) pa_nil)))), ?_⟩
    refine ⟨_, rfl, x, C, dx, _, _, rfl, hx, T.isC.cl, T.nP, otf_p m t, ?_⟩
    exact ⟨t, _, rfl, .inr (SqT.of ht), fun p np => q p as _ (same_new np) np upd_same (hN.same (same_new np))⟩
def spOEq (C : Addr) : Sp := fun vs H Q _ => ∃ (x y : Addr) (m m' : Nat) (N M : List Piece), vs = [.ref x, .ref y] ∧ OtAt C H x m N ∧ OtAt C H y m' M ∧ (∀ p ∈ N, Az p.1) ∧ (∀ p ∈ M, Az p.1) ∧ Q (.bl (decide (m = m' ∧ N = M))) H
theorem ok_eq {f : Addr} {fd : FuncData} (F : Fun K "__eq__" "OpenText.__eq__" st_OpenText___eq__ f fd) (T : Txt K mg C) : FnOk P w K mg base CX0 1 f fd ["self", "other"] (spOEq C) := by
  refine F.ok sc_OpenText___eq__ (fun vs H Q E h => ?_) (fun cdv A outer s H vs Q E hr h => ?_)
  · obtain ⟨x, y, m, m', N, M, rfl, _⟩ := h
    rfl
  · obtain ⟨x, y, m, m', N, M, rfl, ⟨dx, t, as, hx, ht, hN⟩, ⟨dy, t', as', hy, ht', hM⟩, aN, aM, q⟩ := h
    refine ⟨_, (pss_cons (ps_if (pt_not (pt_val (pe_callB (C8.call_isC T.isC) (by rfl) T.isinstance (by decide +kernel) (pa_cons (pv 1) (pa_cons (pe_glob (v := .ref C) (by rfl) T.mgC rfl) pa_nil)))))
        (pss_one (ps_ret pe_bl))
        pss_nil)
      (pss_one (ps_ret (pe_and (pe_cmpR op_eq (pe_fld (pv 0) rfl) (pe_fld (pv 1) rfl) (nomark _)) (pe_one (pe_cmpR (op_eqD hr.units) (pe_fld (pv 0) rfl) (pe_fld (pv 1) rfl) (nomark _))))))), ?_⟩
    refine ⟨_, rfl, y, dy, _, rfl, hy, true, rfl, iteF ?_⟩
    refine ⟨_, rfl, x, C, dx, _, _, rfl, hx, T.isC.cl, T.nM, otf_m m t, _, rfl, y, C, dy, _, _, rfl, hy, T.isC.cl, T.nM, otf_m m' t', rfl, ?_⟩
    by_cases hm : m = m'
    · refine ⟨true, bl_true (congrArg V.int (by omega)), iteT ?_⟩
      refine ⟨_, rfl, x, C, dx, _, _, rfl, hx, T.isC.cl, T.nP, otf_p m t, _, rfl, y, C, dy, _, _, rfl, hy, T.isC.cl, T.nP, otf_p m' t', ?_⟩
      refine ⟨.tuple (N.map dP), .tuple (M.map dP), .tup (SqT.of ht) hN.dp, .tup (SqT.of ht') hM.dp, sh_tup aN, sh_tup aM, ?_⟩
      refine eqQ ?_ q
      rw [PyData.eqv, eqv_Ps]
      simp [hm]
    · refine ⟨false, bl_false (fun e => hm (by have := V.int.inj e; omega)), iteF ?_⟩
      exact eqQ (bl_false fun e => hm e.1).symm q
/-- x == y by the text's own __eq__ -/
structure EqA (P : Program) (w : World) (K : PySem.W.Frag) (mg : Str → Option Value) (base : Heap) (k : Nat) (C : Addr) (sp : Sp) : Prop where
  ex : ∃ (f : Addr) (fd : FuncData) (ps : List Str), PySem.W.findIn K (.ref C) "__eq__" = some (some (.ref f)) ∧ PySem.W.isFn K (.ref f) = true ∧ FnOk P w K mg base CX0 k f fd ps sp ∧ Binds K fd ps []
def rOwnE (C : Addr) (sp : Sp) : R2 := fun x y H Q => ∃ a b dx dy fs gs, x = .ref a ∧ y = .ref b ∧ H a = some (.ins C dx fs) ∧ H b = some (.ins C dy gs) ∧ sp [.ref a, .ref b] H Q E0
theorem back_of {X : Cx} {pins : List (Addr × Obj)} {σ : L2.St} {Q : VK} {v : Value} {s : Shared} (h : EP X pins σ Q v s) : PySem.W.CmpBack (EP X pins σ Q) v s := by
  obtain ⟨z, H, I, r, q⟩ := id h
  cases v with
  | notImplemented => cases z <;> first | (cases r; done) | (obtain ⟨t, e⟩ := r; cases e)
  | _ => exact h
theorem op_own {X : Cx} {k j : Nat} {sp : Sp} (c : EqA X.prog X.w X.K X.mg X.base k C sp) (hr : Room j X.A) (hk : k ≤ j) : OpR X (compareOp .Eq) (rOwnE C sp) := by
  intro pins s σ H x y v u Q I rx ry h
  obtain ⟨a, b, dx, dy, fs, gs, rfl, rfl, ha, hb, q⟩ := h
  obtain ⟨f, fd, ps, hs, hf, F, bn⟩ := c.ex
  cases (show v = Value.ref a from rx)
  cases (show u = Value.ref b from ry)
  obtain ⟨mA, J, _⟩ := ins_get I.hok ha
  obtain ⟨mB, J', _⟩ := ins_get I.hok hb
  obtain ⟨od, J, _⟩ := J.look
  obtain ⟨od', J', _⟩ := J'.look
  obtain ⟨m, hF⟩ := I.fr
  show wpAny _ _ (richCompare .Eq (.ref a) (.ref b)) _ _ _
  refine PySem.W.cmp_K (op := .Eq) (tb := .ref C) hr.units0 hF I.ok.mod.kin J J'.type (by simp [PySem.W.notFirst]) hs hf ?_
  exact wpAny_mono (run_fn (vs := [.ref a, .ref b]) (us := [.ref a, .ref b]) F (hr.mono hk) bn .nil pass0 I (.cons rfl (.cons rfl .nil)) (by simpa using q)) (fun w s' z => back_of z) fun _ _ x => x
end
end Cs
end
section
set_option maxRecDepth 100000
set_option maxHeartbeats 8000000
/-! The law's defs, first part: draws, words, forms, points, what is written. Printed in part by gen.py out of CsF.src. -/
namespace Cs
open PySem L2 SX
/-! ### plain helps -/
theorem join_S0 : ∀ ws : List (List Nat), Str.join (S []) (ws.map S) = S ws.flatten
  | [] => rfl
  | [w] => by
    show S w = _
    simp
  | w :: v :: r => by
    show S w ++ S [] ++ Str.join (S []) ((v :: r).map S) = _
    rw [join_S0 (v :: r), S_cat, S_cat]
    simp
theorem join_S (ws : List (List Nat)) : Txt.join (S []) (ws.map S) = S ws.flatten := by
  rw [← join_S0]
  exact StrLaws.glued_eq_join _ _
theorem join_len : ∀ ws : List (List Nat), ((ws.map S).map (·.length)).sum = ws.flatten.length
  | [] => rfl
  | w :: r => by
    simp only [List.map_cons, List.sum_cons, join_len r, S_len, List.flatten_cons, List.length_append]
theorem flat1 : ∀ w : List Nat, (w.map fun c => [c]).flatten = w
  | [] => rfl
  | c :: w => by
    rw [List.map_cons, List.flatten_cons, flat1 w]
    rfl
theorem map_erase {α β : Type} (f : α → β) : ∀ (xs : List α) (i : Nat), (xs.map f).eraseIdx i = (xs.eraseIdx i).map f
  | [], _ => by simp
  | x :: xs, 0 => by simp
  | x :: xs, i + 1 => by simp [map_erase f xs i]
/-- the words of a list of texts -/
abbrev wS (ws : List (List Nat)) : List V := ws.map fun u => V.str (S u)
theorem wS_str (ws : List (List Nat)) : wS ws = (ws.map S).map V.str := by
  rw [List.map_map]
  rfl
theorem len_L {X : Cx} : CallR X (.builtin "len") (fun xs H Q => ∃ l ys, xs = [.ref l] ∧ H l = some (.lst ys) ∧ Q (.int ys.length) H) := by
  intro pins s σ H xs us Q I r h
  obtain ⟨l, ys, e, hl, q⟩ := h
  exact call_len_seq pins s σ H xs us Q I r ⟨l, ys, e, .inl (SqL.of hl), q⟩
theorem But.updNew {g D : Addr} {H1 H : Hp} {o : HO} (b : But g H1 H) (n : H1 D = none) : But g H1 (L2.upd H D o) := fun a u ne e => by
  rw [upd_ne (ne_of_none e n)]
  exact b a u ne e
/-- a generator of draws, behind at most so many -/
def GenAt (H : Hp) (g : Addr) (c : Nat) : Prop := ∃ (a d : Nat) (b : Int), H g = some (.lst [.int (a : Int), .int b, .int (d : Int)]) ∧ d ≤ c
theorem GenAt.mono {H : Hp} {g : Addr} {c c' : Nat} (h : GenAt H g c) (l : c ≤ c') : GenAt H g c' :=
  let ⟨a, d, b, h1, h2⟩ := h
  ⟨a, d, b, h1, Nat.le_trans h2 l⟩
theorem GenAt.same {H H' : Hp} {g : Addr} {c : Nat} (h : GenAt H g c) (s : Same H H') : GenAt H' g c :=
  let ⟨a, d, b, h1, h2⟩ := h
  ⟨a, d, b, s _ _ h1, h2⟩
theorem GenAt.ne {H : Hp} {g D : Addr} {c : Nat} (h : GenAt H g c) (n : H D = none) : g ≠ D :=
  let ⟨_, _, _, h1, _⟩ := h
  ne_of_none h1 n
theorem GenAt.upd {H : Hp} {g D : Addr} {c : Nat} {o : HO} (h : GenAt H g c) (n : g ≠ D) : GenAt (L2.upd H D o) g c :=
  let ⟨a, d, b, h1, h2⟩ := h
  ⟨a, d, b, by rw [upd_ne n]; exact h1, h2⟩
theorem FormAt.gen {g : Addr} {H H' : Hp} {a : Addr} {f : List Nat} {c : Nat} (h : FormAt H a f) (b : But g H H') (gg : GenAt H g c) : FormAt H' a f :=
  let ⟨_, _, _, h1, _⟩ := gg
  h.but b h1
theorem PieceAt.gen {g : Addr} {H H' : Hp} {a : Addr} {p : Piece} {c : Nat} (h : PieceAt H a p) (b : But g H H') (gg : GenAt H g c) : PieceAt H' a p :=
  let ⟨_, _, _, h1, _⟩ := gg
  h.but b h1
theorem PsAt.gen {g : Addr} {H H' : Hp} {as : List Addr} {ps : List Piece} {c : Nat} (h : PsAt H as ps) (b : But g H H') (gg : GenAt H g c) : PsAt H' as ps :=
  let ⟨_, _, _, h1, _⟩ := gg
  h.but b h1
/-- the pieces of the law: of letters, so long, so many numbers, none above -/
def LP (m L B : Nat) (p : Piece) : Prop := Az p.1 ∧ p.1.length ≤ L ∧ p.2.length = m + 1 ∧ ∀ n ∈ p.2, n ≤ B
theorem LP.mono {m L B L' B' : Nat} {p : Piece} (h : LP m L B p) (l : L ≤ L') (b : B ≤ B') : LP m L' B' p :=
  ⟨h.1, Nat.le_trans h.2.1 l, h.2.2.1, fun n hn => Nat.le_trans (h.2.2.2 n hn) b⟩

section
variable {P : Program} {w : World} {K : PySem.W.Frag} {mg : Str → Option Value} {base : Heap} {C : Addr} {k : Nat}
/-! ### draws -/
def spHash : Sp := fun vs H Q _ => ∃ a d : Int, vs = [.int a, .int d] ∧ 0 ≤ d ∧ d ≤ 10000000 ∧ ∀ r : Int, Q (.int r) H
theorem ok_hash {f : Addr} {fd : FuncData} (F : Fun K "_law_hash" "_law_hash" st__law_hash f fd) (T : Txt K mg C) : FnOk P w K mg base CX0 1 f fd ["_law_seed", "_law_index"] spHash := by
  refine F.ok sc__law_hash (fun vs H Q E h => ?_) (fun cdv A outer s H vs Q E hr h => ?_)
  · obtain ⟨a, d, rfl, _⟩ := h
    rfl
  · obtain ⟨a, d, rfl, h0, hd, q⟩ := h
    refine ⟨_, (pss_cons (ps_set (i := 2) sc__law_hash.nd rfl (by first | exact Or.inl rfl | exact Or.inr rfl) (pe_op op_mod (pe_callTy call_int1 (by rfl) T.int (by decide +kernel) (pa_cons (pe_op op_add (pe_op op_add (pe_op op_add (pe_op op_mul (pv 0) pe_int) (pe_op op_mul (pe_op op_mul pe_int (pv 1)) (pv 1))) (pe_op op_mul pe_int (pv 1))) pe_int) pa_nil)) pe_int))
      (pss_cons (ps_set (i := 2) sc__law_hash.nd rfl (by first | exact Or.inl rfl | exact Or.inr rfl) (pe_op op_mod (pe_callTy call_int1 (by rfl) T.int (by decide +kernel) (pa_cons (pe_op op_add (pe_op op_add (pe_op op_mul (pv 2) (pv 2)) (pe_op op_mul pe_int (pv 1))) pe_int) pa_nil)) pe_int))
      (pss_one (ps_ret (pe_op op_mod (pe_callTy call_int1 (by rfl) T.int (by decide +kernel) (pa_cons (pe_op op_mul (pv 2) pe_int) pa_nil)) pe_int))))), ?_⟩
    refine ⟨_, rfl, _, _, rfl, rfl, .inr ⟨by decide, by decide⟩, _, rfl, _, _, rfl, rfl, .inl ⟨by decide, by decide⟩, _, rfl, _, _, rfl, rfl, .inr ⟨by omega, by omega⟩, _, _, rfl, rfl, _, rfl, _, _, rfl, rfl, .inl ⟨by decide, by decide⟩,
      _, _, rfl, rfl, _, _, rfl, rfl, .inl ⟨_, rfl, _, _, rfl, rfl, by show (0 : Int) < 2147483629; decide, ?_⟩⟩
    refine ⟨_, rfl, _, rfl, _, _, rfl, rfl, .inl ⟨by omega, by omega⟩, _, rfl, _, _, rfl, rfl, .inl ⟨by decide, by decide⟩, _, _, rfl, rfl, _, _, rfl, rfl, .inl ⟨_, rfl, _, _, rfl, rfl, by show (0 : Int) < 2147483587; decide, ?_⟩⟩
    exact ⟨_, rfl, _, _, rfl, rfl, .inr ⟨by decide, by decide⟩, .inl ⟨_, rfl, _, _, rfl, rfl, by show (0 : Int) < 2147483647; decide, q _⟩⟩
def spRandom : Sp := fun vs H Q _ => ∃ (g : Addr) (b c : Nat), vs = [.ref g, .int (b : Int)] ∧ 0 < b ∧ b ≤ 1000 ∧ GenAt H g c ∧ c ≤ 9000000 ∧ ∀ (r : Nat) H', r < b → But g H H' → GenAt H' g (c + 1) → Q (.int (r : Int)) H'
theorem ok_random {f : Addr} {fd : FuncData} (F : Fun K "_law_random" "_law_random" st__law_random f fd) (T : Txt K mg C) (c__law_hash : C8.Cal P w K mg base 1 "_law_hash" spHash []) : FnOk P w K mg base CX0 2 f fd ["_law_generator_here", "_law_bound"] spRandom := by
  refine F.ok sc__law_random (fun vs H Q E h => ?_) (fun cdv A outer s H vs Q E hr h => ?_)
  · obtain ⟨g, b, c, rfl, _⟩ := h
    rfl
  · obtain ⟨g, b, c, rfl, hb, hb', ⟨a, d, z, hg, hd⟩, hc, q⟩ := h
    refine ⟨_, (pss_cons (ps_if (pt_cmpR op_gt (pe_ix ix_list (pv 0) pe_int (fun _ _ => rfl)) pe_int (nomark _))
        (pss_cons (ps_set (i := 2) sc__law_random.nd rfl (by first | exact Or.inl rfl | exact Or.inr rfl) (pe_op op_mod (pe_callTy call_int1 (by rfl) T.int (by decide +kernel) (pa_cons (pe_ix ix_list (pv 0) pe_int (fun _ _ => rfl)) pa_nil)) (pv 1)))
        (pss_cons (ps_asg (pe_op op_fdivNN (pe_ix ix_list (pv 0) pe_int (fun _ _ => rfl)) (pv 1)) (pg_sub (pv 0) pe_int set_list))
        (pss_one (ps_ret (pv 2)))))
        pss_nil)
      (pss_cons (ps_set (i := 2) sc__law_random.nd rfl (by first | exact Or.inl rfl | exact Or.inr rfl) pe_int)
      (pss_cons (ps_for PassesOwn.never rfl (pi_range1 (by rfl) T.range (pa_cons (pe_op op_add pe_int (pe_op op_fdivNN (pe_bits (pv 1)) pe_int)) pa_nil)) (pg_name (i := 3) sc__law_random.nd rfl (by first | exact Or.inl rfl | exact Or.inr rfl))
        (pss_cons (ps_asg (pe_op op_add (pe_ix ix_list (pv 0) pe_int (fun _ _ => rfl)) pe_int) (pg_sub (pv 0) pe_int set_list))
        (pss_one (ps_set (i := 2) sc__law_random.nd rfl (by first | exact Or.inl rfl | exact Or.inr rfl) (pe_op op_add (pe_op op_mul (pv 2) pe_int) (C8.pe_c c__law_hash hr (by decide) (by rfl) (pa_cons (pe_ix ix_list (pv 0) pe_int (fun _ _ => rfl)) (pa_cons (pe_ix ix_list (pv 0) pe_int (fun _ _ => rfl)) pa_nil))))))))
      (pss_one (ps_ret (pe_op op_mod (pe_callTy call_int1 (by rfl) T.int (by decide +kernel) (pa_cons (pv 2) pa_nil)) (pv 1))))))), ?_⟩
    refine ⟨_, rfl, g, _, 0, _, rfl, rfl, SqL.of hg, at_of (j := 0) rfl rfl, _, _, rfl, rfl, ?_⟩
    by_cases h0 : 0 < a
    · refine ⟨true, bl_true (by omega), iteT ?_⟩
      refine ⟨_, rfl, g, _, 0, _, rfl, rfl, SqL.of hg, at_of (j := 0) rfl rfl, .inl ⟨_, rfl, _, rfl, _, _, rfl, rfl, by omega, ?_⟩⟩
      refine ⟨_, rfl, g, _, 0, _, rfl, rfl, SqL.of hg, at_of (j := 0) rfl rfl, _, rfl, a, b, rfl, rfl, ⟨by omega, by omega⟩, _, rfl, g, _, _, 0, rfl, rfl, hg, rfl, ?_⟩
      exact ⟨_, rfl, q (a % b) _ (Nat.mod_lt _ hb) But.upd ⟨a / b, d, z, upd_same, by omega⟩⟩
    · refine ⟨false, bl_false (by omega), iteF ?_⟩
      have hbits : Builtin.Int.intBits (b : Int) ≤ 10 := PyProof.Rows.intBits_le (by show b < 2 ^ 10; omega)
      refine ⟨_, rfl, _, rfl, _, 30, rfl, rfl, ⟨by decide, by decide⟩, _, _, rfl, rfl, _, rfl, by omega, by omega, ?_⟩
      refine for_range (lo := 0) (n := _) (fun i σ H' => ∃ (dr : Int) (v3 : Option V), σ = [some (.ref g), some (.int (b : Int)), some (.int dr), v3] ∧ But g H H' ∧ GenAt H' g (c + i)) ⟨0, none, rfl, But.refl _ _, a, d, z, hg, hd⟩ ?_ ?_
      · rintro i σ H1 hi ⟨dr, v3, rfl, b1, a1, d1, z1, hg1, hd1⟩
        have hi2 : i < 2 := by omega
        refine ⟨_, rfl, g, _, 2, _, rfl, rfl, SqL.of hg1, at_of (j := 2) rfl rfl, _, _, rfl, rfl, _, rfl, g, _, _, 2, rfl, rfl, hg1, rfl, ?_⟩
        refine ⟨_, rfl, _, _, rfl, rfl, .inr ⟨by decide, by decide⟩, _, rfl, g, _, 1, _, rfl, rfl, SqL.of upd_same, at_of (j := 1) rfl rfl, _, rfl, g, _, 2, _, rfl, rfl, SqL.of upd_same, at_of (j := 2) rfl rfl, z1, (d1 : Int) + 1, rfl, by omega, by omega, fun r => ?_⟩
        exact ⟨_, _, rfl, rfl, _, _, rfl, b1.trans But.upd, a1, d1 + 1, z1, upd_same, by omega⟩
      · rintro σ H1 ⟨dr, v3, rfl, b1, g1⟩
        refine ⟨_, rfl, .inl ⟨_, rfl, _, rfl, _, _, rfl, rfl, by omega, ?_⟩⟩
        have hn : 0 ≤ dr % (b : Int) := Int.emod_nonneg _ (by omega)
        have hlt : dr % (b : Int) < (b : Int) := Int.emod_lt_of_pos _ (by omega)
        refine eqQ (congrArg V.int (Int.toNat_of_nonneg hn).symm) (q (dr % (b : Int)).toNat H1 (by omega) b1 (g1.mono (by omega)))
def spLCell (K : PySem.W.Frag) : Sp := fun vs H Q _ => ∃ (a : Addr) (ns : List Int) (i : Nat), vs = [.ref a, .int (i : Int)] ∧ SqL K H a (ns.map V.int) ∧ ns.length ≤ 63 ∧ ∀ (r : Int) H', Same H H' → Q (.int r) H'
theorem ok_cell {f : Addr} {fd : FuncData} (F : Fun K "_law_cell" "_law_cell" st__law_cell f fd) (T : Txt K mg C) : FnOk P w K mg base CX0 1 f fd ["_law_script", "_law_index"] (spLCell K) := by
  refine F.ok sc__law_cell (fun vs H Q E h => ?_) (fun cdv A outer s H vs Q E hr h => ?_)
  · obtain ⟨a, ns, i, rfl, _⟩ := h
    rfl
  · obtain ⟨a, ns, i, rfl, hS, hl, q⟩ := h
    refine ⟨_, (pss_cons (ps_if (pt_cmpR op_lt (pv 1) (pe_callB call_len_seq (by rfl) T.len (by decide +kernel) (pa_cons (pv 0) pa_nil)) (nomark _))
        (pss_one (ps_ret (pe_ix ix_list (pv 0) (pv 1) (fun _ _ => rfl))))
        pss_nil)
      (pss_one (ps_ret (pe_op op_mod (pe_callB (cr_sum rfl) (by rfl) T.sum (by decide +kernel) (pa_cons (pe_slice sl_Lto (pv 0) po_none (po_some pe_int)) pa_nil)) pe_int)))), ?_⟩
    refine ⟨_, rfl, _, rfl, a, _, rfl, .inl hS, _, _, rfl, rfl, ?_⟩
    by_cases hi : i < ns.length
    · refine ⟨true, bl_true (by rw [List.length_map]; omega), iteT ?_⟩
      refine ⟨_, rfl, _, rfl, a, _, _, .int ns[i], rfl, rfl, hS, at_of (j := i) rfl (by rw [List.getElem?_map, List.getElem?_eq_getElem hi]; rfl), ?_⟩
      exact q _ H (Same.refl H)
    · refine ⟨false, bl_false (by rw [List.length_map]; omega), iteF ?_⟩
      refine ⟨_, rfl, 1, rfl, a, _, 1, rfl, rfl, rfl, hS, fun p np => ?_⟩
      refine ⟨p, ns.take 1, rfl, SqL.of (by rw [upd_same, List.map_take]), _, _, rfl, rfl, by show (0 : Int) < 1000003; decide, q _ _ (same_new np)⟩
theorem big60 : (0 : Int) < ((10 : Int) ^ (60 : Int).toNat) ^ (10 : Int).toNat := by decide +kernel
theorem bits18 : (0 : Int) ≤ 18 ∧ (Builtin.Int.intBits 10 : Int) * 18 ≤ 2 ^ 27 := by decide +kernel
theorem bits60 : (0 : Int) ≤ 60 ∧ (Builtin.Int.intBits 10 : Int) * 60 ≤ 2 ^ 27 := by decide +kernel
theorem bits600 : (0 : Int) ≤ 10 ∧ (Builtin.Int.intBits ((10 : Int) ^ (60 : Int).toNat) : Int) * 10 ≤ 2 ^ 27 := by decide +kernel
def spGenerator (K : PySem.W.Frag) : Sp := fun vs H Q _ => ∃ (a : Addr) (ns : List Int) (i : Nat), vs = [.ref a, .int (i : Int)] ∧ SqL K H a (ns.map V.int) ∧ ns.length ≤ 63 ∧ i ≤ 3 ∧ ∀ g H', Same H H' → H g = none → GenAt H' g 3000 → Q (.ref g) H'
theorem ok_generator {f : Addr} {fd : FuncData} (F : Fun K "_law_generator" "_law_generator" st__law_generator f fd) (T : Txt K mg C) (c__law_cell : C8.Cal P w K mg base 1 "_law_cell" (spLCell K) []) : FnOk P w K mg base CX0 2 f fd ["_law_script", "_law_index"] (spGenerator K) := by
  refine F.ok sc__law_generator (fun vs H Q E h => ?_) (fun cdv A outer s H vs Q E hr h => ?_)
  · obtain ⟨a, ns, i, rfl, _⟩ := h
    rfl
  · obtain ⟨a, ns, i, rfl, hS, hl, hi, q⟩ := h
    refine ⟨_, (pss_cons (ps_set (i := 2) sc__law_generator.nd rfl (by first | exact Or.inl rfl | exact Or.inr rfl) (C8.pe_c c__law_cell hr (by decide) (by rfl) (pa_cons (pv 0) (pa_cons (pv 1) pa_nil))))
      (pss_one (ps_ret (pe_lst (pa_cons (pe_op op_mod (pe_callTy call_int1 (by rfl) T.int (by decide +kernel) (pa_cons (pe_callB (call_max2 rfl) (by rfl) T.max (by decide +kernel) (pa_cons (pe_op op_sub (pv 2) (pe_op op_powB pe_int pe_int)) (pa_cons pe_int pa_nil))) pa_nil)) (pe_op op_powB (pe_op op_powB pe_int pe_int) pe_int)) (pa_cons (pe_op op_mod (pe_callTy call_int1 (by rfl) T.int (by decide +kernel) (pa_cons (pv 2) pa_nil)) pe_int) (pa_cons (pe_op op_mul pe_int (pv 1)) pa_nil))))))), ?_⟩
    refine ⟨_, rfl, _, rfl, a, ns, i, rfl, hS, hl, fun r H1 s1 => ?_⟩
    refine ⟨_, rfl, _, _, rfl, rfl, bits18, _, _, rfl, rfl, _, _, rfl, .inl ⟨_, rfl, _, _, rfl, rfl, bits60, _, _, rfl, rfl, bits600, _, _, rfl, rfl, big60, ?_⟩⟩
    refine ⟨_, rfl, .inl ⟨_, rfl, _, _, rfl, rfl, by show (0 : Int) < 2147483647; decide, _, rfl, _, _, rfl, rfl, .inl ⟨by decide, by decide⟩, ?_⟩⟩
    refine ⟨sz (by show 3 ≤ 1000000; decide), fun p np => q p _ (s1.trans (same_new np)) (s1.free np) ?_⟩
    have e : ∀ x : Int, ∃ a : Nat, x % (((10 : Int) ^ (60 : Int).toNat) ^ (10 : Int).toNat) = (a : Int) := fun x => ⟨_, (Int.toNat_of_nonneg (Int.emod_nonneg x (Int.ne_of_gt big60))).symm⟩
    obtain ⟨z, hz⟩ := e (if 0 > r - (10 : Int) ^ (18 : Int).toNat then 0 else r - (10 : Int) ^ (18 : Int).toNat)
    refine ⟨z, 1000 * i, r % 2147483647, ?_, by omega⟩
    rw [upd_same, ← hz]
    rfl
end
end Cs
end
section
set_option maxRecDepth 100000
set_option maxHeartbeats 8000000
/-! The law's defs, second part: letters, words, forms, values, what is written. Printed in part by gen.py out of CsG.src. -/
namespace Cs
open PySem L2 SX
/-- the letters -/
def abc : List Nat := [97, 98, 99, 100, 101, 102, 103, 104, 105, 106, 107, 108, 109, 110, 111, 112, 113, 114, 115, 116, 117, 118, 119, 120, 121, 122]
theorem abc_az : ∀ c ∈ abc, AZ c := by decide
theorem abc_S : Str.ofString "abcdefghijklmnopqrstuvwxyz" = S abc := by decide +kernel
/-- signs as texts -/
abbrev cS (w : List Nat) : List V := w.map fun c => V.str (S [c])
theorem cS_str (w : List Nat) : cS w = ((w.map fun c => [c]).map S).map V.str := by
  rw [List.map_map, List.map_map]
  rfl
/-- ''.join of signs -/
theorem join_c {w : List Nat} : Txt.join (S []) ((w.map fun c => [c]).map S) = S w := by rw [join_S, flat1]
theorem join_cn {w : List Nat} (h : w.length ≤ 1000000) : (((w.map fun c => [c]).map S).map (·.length)).sum + ((w.map fun c => [c]).map S).length * (S []).length ≤ 16777216 := by
  rw [join_len, flat1, S_len]
  simp
  omega
theorem az_app {u v : List Nat} (h : Az u) (h' : Az v) : Az (u ++ v) := fun c hc => by
  rcases List.mem_append.mp hc with e | e
  · exact h c e
  · exact h' c e
theorem az_one {c : Nat} (h : AZ c) : Az [c] := fun d hd => by
  rw [List.mem_singleton.mp hd]
  exact h
section
variable {P : Program} {w : World} {K : PySem.W.Frag} {mg : Str → Option Value} {base : Heap} {C : Addr} {k : Nat}
def spLetters3 : Sp := fun vs H Q _ => ∃ (g : Addr) (c : Nat), vs = [.ref g] ∧ GenAt H g c ∧ c ≤ 8000000 ∧ ∀ (u : List Nat) H', Az u → u.length = 3 → But g H H' → GenAt H' g (c + 3) → Q (.str (S u)) H'
theorem ok_letters {f : Addr} {fd : FuncData} (F : Fun K "_law_letters" "_law_letters" st__law_letters f fd) (T : Txt K mg C) (c__law_random : C8.Cal P w K mg base 2 "_law_random" spRandom []) : FnOk P w K mg base CX0 3 f fd ["_law_generator_here"] spLetters3 := by
  refine F.ok sc__law_letters (fun vs H Q E h => ?_) (fun cdv A outer s H vs Q E hr h => ?_)
  · obtain ⟨g, c, rfl, _⟩ := h
    rfl
  · obtain ⟨g, c, rfl, hg, hc, q⟩ := h
    refine ⟨_, (pss_cons (ps_set (i := 1) sc__law_letters.nd rfl (by first | exact Or.inl rfl | exact Or.inr rfl) (pe_callTy (call_listS rfl) (by rfl) T.list (by decide +kernel) (pa_cons pe_str pa_nil)))
      (pss_one (ps_ret (pe_join pe_str (pe_lc (own := [("_law_turn", 2)]) (by rfl) sc__law_letters.nd (pi_range1 (by rfl) T.range (pa_cons pe_int pa_nil)) (blkOk_by (own := [("_law_turn", 2)]) (N := N__law_letters) (sc := defScope st__law_letters) (by decide +kernel)) (fun _ _ _ _ _ => (pg_name (i := 2) sc__law_letters.nd rfl (by first | exact Or.inl rfl | exact Or.inr rfl))) (fun _ _ _ _ _ => pts_nil) (fun _ _ _ _ _ => (pe_popU (i := 1) rfl (by first | exact Or.inl rfl | exact Or.inr (Or.inl rfl) | exact Or.inr (Or.inr rfl)) (pa_cons (C8.pe_c c__law_random hr (by decide) (by rfl) (pa_cons (pv 0) (pa_cons (pe_callB len_L (by rfl) T.len (by decide +kernel) (pa_cons (pv 1) pa_nil)) pa_nil))) pa_nil)))))))), ?_⟩
    refine ⟨abc, congrArg (fun z => [V.str z]) abc_S, sz (by decide), fun l nl => ?_⟩
    have gl : g ≠ l := hg.ne nl
    refine ⟨⟨_, rfl⟩, 3, rfl, by decide, by decide, fun D nD => ?_⟩
    have nD0 : H D = none := (same_new nl).free nD
    have lD : l ≠ D := ne_of_none upd_same nD
    refine lc_range (lo := 0) (n := 3) (fun i H' => ∃ left acc : List Nat, H' l = some (.lst (cS left)) ∧ left.length = 26 - i ∧ Az left ∧ H' D = some (.lst (cS acc)) ∧ acc.length = i ∧ Az acc ∧ But g H H' ∧ GenAt H' g (c + i))
      ⟨abc, [], ?_, rfl, abc_az, upd_same, rfl, fun _ h => (by simp at h), ?_, ?_⟩ (fun i H1 hi hv => ?_) (fun H1 hv => ?_)
    · rw [upd_ne lD]
      exact upd_same
    · exact (But.of (same_new nl)).trans (But.of (same_new nD))
    · exact (hg.same (same_new nl)).same (same_new nD)
    · obtain ⟨left, acc, hl, ll, la, hD, al, aa, b1, g1⟩ := hv
      refine ⟨rfl, l, _, rfl, hl, _, rfl, _, rfl, l, _, rfl, hl, g, left.length, c + i, ?_, by omega, by omega, g1, by omega, fun r H2 hr2 b2 g2 => ?_⟩
      · rw [List.length_map]
        rfl
      · have hl2 := b2 l _ gl.symm hl
        have hD2 := b2 D _ (hg.ne nD0).symm hD
        obtain ⟨x, hx⟩ : ∃ x, left[r]? = some x := ⟨_, List.getElem?_eq_getElem hr2⟩
        refine ⟨l, _, _, r, V.str (S [x]), rfl, rfl, hl2, by omega, by omega, ?_, by rw [List.getElem?_map, hx]; rfl, ?_⟩
        · rw [PyProof.Rows.seqIndex_at (by omega) (by rw [List.length_map]; omega)]
          rfl
        · rw [map_erase]
          refine ⟨cS acc, by rw [upd_ne lD.symm]; exact hD2, szlt (by rw [List.length_map]; omega), left.eraseIdx r, acc ++ [x], ?_, ?_, ?_, ?_, ?_, ?_, ?_, ?_⟩
          · rw [upd_ne lD, upd_same]
          · rw [List.length_eraseIdx_of_lt hr2]
            omega
          · exact fun d hd => la d (List.mem_of_mem_eraseIdx hd)
          · rw [upd_same]
            simp [cS]
          · rw [List.length_append, al]
            rfl
          · exact az_app aa (az_one (la x (at_mem hx)))
          · exact ((b1.trans b2).updNew nl).updNew nD0
          · exact (g2.upd gl).upd (hg.ne nD0)
    · obtain ⟨left, acc, hl, ll, la, hD, al, aa, b1, g1⟩ := hv
      refine ⟨S [], D, _, rfl, rfl, .inl (SqL.of (by rw [← cS_str]; exact hD)), join_cn (by omega), ?_⟩
      rw [join_c]
      exact q acc H1 aa al b1 g1
def spWord : Sp := fun vs H Q _ => ∃ (g : Addr) (u : List Nat) (lo hi c : Nat), vs = [.ref g, .str (S u), .int (lo : Int), .int (hi : Int)] ∧ Az u ∧ 0 < u.length ∧ u.length ≤ 100 ∧ lo ≤ hi ∧ hi ≤ 10 ∧ GenAt H g c ∧ c ≤ 8000000 ∧
  ∀ (v : List Nat) H', Az v → lo ≤ v.length → v.length ≤ hi → But g H H' → GenAt H' g (c + 11) → Q (.str (S v)) H'
theorem ok_word {f : Addr} {fd : FuncData} (F : Fun K "_law_word" "_law_word" st__law_word f fd) (T : Txt K mg C) (c__law_random : C8.Cal P w K mg base 2 "_law_random" spRandom []) :
    FnOk P w K mg base CX0 3 f fd ["_law_generator_here", "_law_signs", "_law_least", "_law_most"] spWord := by
  refine F.ok sc__law_word (fun vs H Q E h => ?_) (fun cdv A outer s H vs Q E hr h => ?_)
  · obtain ⟨g, u, lo, hi, c, rfl, _⟩ := h
    rfl
  · obtain ⟨g, u, lo, hi, c, rfl, ua, u0, ul, lh, h10, hg, hc, q⟩ := h
    refine ⟨_, (pss_cons (ps_set (i := 4) sc__law_word.nd rfl (by first | exact Or.inl rfl | exact Or.inr rfl) (pe_op op_add (pv 2) (C8.pe_c c__law_random hr (by decide) (by rfl) (pa_cons (pv 0) (pa_cons (pe_op op_add (pe_op op_sub (pv 3) (pv 2)) pe_int) pa_nil)))))
      (pss_one (ps_ret (pe_join pe_str (pe_lc (own := [("_law_turn", 5)]) (by rfl) sc__law_word.nd (pi_range1 (by rfl) T.range (pa_cons (pv 4) pa_nil)) (blkOk_by (own := [("_law_turn", 5)]) (N := N__law_word) (sc := defScope st__law_word) (by decide +kernel)) (fun _ _ _ _ _ => (pg_name (i := 5) sc__law_word.nd rfl (by first | exact Or.inl rfl | exact Or.inr rfl))) (fun _ _ _ _ _ => pts_nil) (fun _ _ _ _ _ => (pe_ix ix_S (pv 1) (C8.pe_c c__law_random hr (by decide) (by rfl) (pa_cons (pv 0) (pa_cons (pe_callB len_S (by rfl) T.len (by decide +kernel) (pa_cons (pv 1) pa_nil)) pa_nil))) (fun _ _ => rfl)))))))), ?_⟩
    refine ⟨_, rfl, _, rfl, _, rfl, _, rfl, _, _, rfl, rfl, _, _, rfl, rfl, g, hi - lo + 1, c, ?_, by omega, by omega, hg, by omega, fun r H1 hr1 b1 g1 => ?_⟩
    · have : ((hi : Int) - (lo : Int) + 1) = ((hi - lo + 1 : Nat) : Int) := by omega
      show [V.ref g, V.int ((hi : Int) - (lo : Int) + 1)] = _
      rw [this]
    · refine ⟨_, _, rfl, rfl, ?_⟩
      refine ⟨⟨_, rfl⟩, _, rfl, _, rfl, by omega, by omega, fun D nD => ?_⟩
      have gD : g ≠ D := g1.ne nD
      refine lc_range (lo := 0) (n := _) (fun i H' => ∃ acc : List Nat, H' D = some (.lst (cS acc)) ∧ acc.length = i ∧ Az acc ∧ But g H1 H' ∧ GenAt H' g (c + 1 + i))
        ⟨[], upd_same, rfl, fun _ h => (by simp at h), But.of (same_new nD), g1.same (same_new nD)⟩ (fun i H2 hi2 hv => ?_) (fun H2 hv => ?_)
      · obtain ⟨acc, hD, al, aa, b2, g2⟩ := hv
        refine ⟨rfl, _, rfl, _, rfl, _, rfl, u, rfl, sz (by omega), g, u.length, c + 1 + i, rfl, u0, by omega, g2, by omega, fun r2 H3 hr3 b3 g3 => ?_⟩
        have hD3 := b3 D _ gD.symm hD
        have ex := get_D hr3
        refine ⟨u, r2, _, rfl, rfl, sz (by omega), ex, cS acc, hD3, szlt (by rw [List.length_map]; omega), acc ++ [u.getD r2 0], ?_, ?_, ?_, ?_, ?_⟩
        · rw [upd_same]
          simp [cS]
        · rw [List.length_append, al]
          rfl
        · exact az_app aa (az_one (ua _ (at_mem ex)))
        · exact (b2.trans b3).updNew nD
        · exact g3.upd gD
      · obtain ⟨acc, hD, al, aa, b2, g2⟩ := hv
        refine ⟨S [], D, _, rfl, rfl, .inl (SqL.of (by rw [← cS_str]; exact hD)), join_cn (by omega), ?_⟩
        rw [join_c]
        exact q acc H2 aa (by omega) (by omega) (b1.trans b2) (g2.mono (by omega))
def spForm : Sp := fun vs H Q _ => ∃ (g : Addr) (m hi c : Nat), vs = [.ref g, .int (m : Int), .int (hi : Int)] ∧ m ≤ 3 ∧ hi ≤ 100 ∧ GenAt H g c ∧ c ≤ 8000000 ∧
  ∀ p (t : List Nat) H', FormAt H' p t → t.length = m + 1 → (∀ n ∈ t, n ≤ hi) → But g H H' → GenAt H' g (c + 4) → Q (.ref p) H'
theorem ok_form {f : Addr} {fd : FuncData} (F : Fun K "_law_form" "_law_form" st__law_form f fd) (T : Txt K mg C) (c__law_random : C8.Cal P w K mg base 2 "_law_random" spRandom []) :
    FnOk P w K mg base CX0 3 f fd ["_law_generator_here", "_law_many", "_law_most"] spForm := by
  refine F.ok sc__law_form (fun vs H Q E h => ?_) (fun cdv A outer s H vs Q E hr h => ?_)
  · obtain ⟨g, m, hi, c, rfl, _⟩ := h
    rfl
  · obtain ⟨g, m, hi, c, rfl, hm, hh, hg, hc, q⟩ := h
    refine ⟨_, (pss_one (ps_ret (pe_callTy call_tupU (by rfl) T.tuple (by decide +kernel) (pa_cons (pe_lc (own := [("_law_turn", 3)]) (by rfl) sc__law_form.nd (pi_range1 (by rfl) T.range (pa_cons (pe_op op_add (pv 1) pe_int) pa_nil)) (blkOk_by (own := [("_law_turn", 3)]) (N := N__law_form) (sc := defScope st__law_form) (by decide +kernel)) (fun _ _ _ _ _ => (pg_name (i := 3) sc__law_form.nd rfl (by first | exact Or.inl rfl | exact Or.inr rfl))) (fun _ _ _ _ _ => pts_nil) (fun _ _ _ _ _ => (C8.pe_c c__law_random hr (by decide) (by rfl) (pa_cons (pv 0) (pa_cons (pe_op op_add (pv 2) pe_int) pa_nil))))) pa_nil)))), ?_⟩
    refine ⟨_, rfl, _, _, rfl, rfl, _, rfl, by omega, by omega, fun D nD => ?_⟩
    have gD : g ≠ D := hg.ne nD
    refine lc_range (lo := 0) (n := _) (fun i H' => ∃ acc : List Nat, H' D = some (.lst (tF acc)) ∧ acc.length = i ∧ (∀ n ∈ acc, n ≤ hi) ∧ But g H H' ∧ GenAt H' g (c + i))
      ⟨[], upd_same, rfl, fun _ h => (by simp at h), But.of (same_new nD), hg.same (same_new nD)⟩ (fun i H2 hi2 hv => ?_) (fun H2 hv => ?_)
    · obtain ⟨acc, hD, al, aa, b2, g2⟩ := hv
      refine ⟨rfl, _, rfl, _, rfl, _, _, rfl, rfl, g, hi + 1, c + i, rfl, by omega, by omega, g2, by omega, fun r2 H3 hr3 b3 g3 => ?_⟩
      have hD3 := b3 D _ gD.symm hD
      refine ⟨tF acc, hD3, szlt (by rw [List.length_map]; omega), acc ++ [r2], ?_, ?_, ?_, ?_, ?_⟩
      · rw [upd_same]
        simp [tF]
      · rw [List.length_append, al]
        rfl
      · intro n hn
        rcases List.mem_append.mp hn with e | e
        · exact aa n e
        · rw [List.mem_singleton.mp e]
          omega
      · exact (b2.trans b3).updNew nD
      · exact g3.upd gD
    · obtain ⟨acc, hD, al, aa, b2, g2⟩ := hv
      exact ⟨D, _, rfl, SqL.of hD, fun p H3 s3 e3 => q p acc H3 e3 (by omega) aa (b2.trans (But.of s3)) ((g2.same s3).mono (by omega))⟩
theorem ok_lplain {f : Addr} {fd : FuncData} (F : Fun K "_law_plain" "_law_plain" st__law_plain f fd) (T : Txt K mg C) : FnOk P w K mg base CX0 1 f fd ["_law_many", "_law_number"] spPlain := by
  refine F.ok sc__law_plain (fun vs H Q E h => ?_) (fun cdv A outer s H vs Q E hr h => ?_)
  · obtain ⟨m, n, rfl, _⟩ := h
    rfl
  · obtain ⟨m, n, rfl, hm, q⟩ := h
    refine ⟨_, (pss_one (ps_ret (pe_op op_catU (pe_tup (pa_cons (pv 1) pa_nil)) (pe_op op_mulT (pe_tup (pa_cons pe_int pa_nil)) (pv 0))))), ?_⟩
    refine ⟨_, rfl, sz (by show 1 ≤ 1000000; decide), fun p1 n1 => ⟨sz (by show 1 ≤ 1000000; decide), fun p2 n2 => ⟨_, rfl, p2, m, _, rfl, rfl, upd_same, (by simp), by omega, by decide, fun p3 H3 s3 e3 => ?_⟩⟩⟩
    have g1 : H3 p1 = some (.tup [V.int (n : Int)]) := s3 _ _ ((same_new n2) _ _ upd_same)
    rw [flat_rep] at e3
    refine ⟨p1, p3, _, _, rfl, rfl, g1, e3, ?_, fun p4 H4 s4 e4 => ?_⟩
    · rw [List.length_map, List.length_replicate]
      exact sz (by show 1 + m ≤ 1000000; omega)
    · exact q p4 H4 (((same_new n1).trans (same_new n2)).trans (s3.trans s4)) e4
theorem dot_zip : ∀ t x : List Nat, (List.zipWith (· * ·) t x).sum = CS.dot t x
  | [], x => by simp [CS.dot]
  | a :: t, [] => by simp [CS.dot]
  | a :: t, b :: x => by simp [CS.dot, dot_zip t x]
def spValue : Sp := fun vs H Q _ => ∃ (a p : Addr) (n : Nat) (t x : List Nat), vs = [.ref a, .ref p] ∧ FormAt H a (n :: t) ∧ H p = some (.lst (tF x)) ∧ x.length = t.length ∧ t.length ≤ 1000 ∧ (∀ c ∈ t, c ≤ 1000000) ∧ ∀ H', Same H H' → Q (.int ((CS.fval (n :: t) x : Nat) : Int)) H'
theorem ok_value {f : Addr} {fd : FuncData} (F : Fun K "_law_value" "_law_value" st__law_value f fd) (T : Txt K mg C) : FnOk P w K mg base CX0 1 f fd ["_law_form_here", "_law_point"] spValue := by
  refine F.ok sc__law_value (fun vs H Q E h => ?_) (fun cdv A outer s H vs Q E hr h => ?_)
  · obtain ⟨a, p, n, t, x, rfl, _⟩ := h
    rfl
  · obtain ⟨a, p, n, t, x, rfl, ha, hp, hl, ht, hb, q⟩ := h
    refine ⟨_, (pss_one (ps_ret (pe_op op_add (pe_ix ix_T (pv 0) pe_int (fun _ _ => rfl)) (pe_callB (cr_sum rfl) (by rfl) T.sum (by decide +kernel) (pa_cons (pe_lc (own := [("_law_number", 2), ("_law_count", 3)]) (g := gTup K 2 (gCons (gName 2) (gCons (gName 3) gNil))) (by rfl) sc__law_value.nd (pi_zipM (by rfl) T.zip (pa_cons (pe_slice sl_Tfrom (pv 0) (po_some pe_int) po_none) (pa_cons (pv 1) pa_nil))) (blkOk_by (own := [("_law_number", 2), ("_law_count", 3)]) (N := N__law_value) (sc := defScope st__law_value) (by decide +kernel)) (fun _ _ _ _ _ => (pg_tup (by rfl) (pgs_cons (pg_name (i := 2) sc__law_value.nd rfl (by first | exact Or.inl rfl | exact Or.inr rfl)) (pgs_cons (pg_name (i := 3) sc__law_value.nd rfl (by first | exact Or.inl rfl | exact Or.inr rfl)) pgs_nil)))) (fun _ _ _ _ _ => pts_nil) (fun _ _ _ _ _ => (pe_op op_mul (pv 2) (pv 3)))) pa_nil))))), ?_⟩
    refine ⟨_, rfl, a, _, 0, iV n, rfl, rfl, ha, at_of (j := 0) rfl rfl, ?_⟩
    refine ⟨_, rfl, 1, rfl, a, _, 1, rfl, rfl, rfl, ha, fun z H1 s1 e1 => ?_⟩
    refine ⟨_, rfl, z, p, tF t, tF x, rfl, e1, SqL.of (s1 _ _ hp), fun D nD => ?_⟩
    have el : (tF t).length = (tF x).length := by rw [List.length_map, List.length_map, hl]
    have hz : (List.zipWith (· * ·) t x).length = t.length := by rw [List.length_zipWith, hl]; exact Nat.min_self _
    have hp1 := s1 _ _ hp
    refine lc_it (walk_zm el) (Grow D H1 (tF (List.zipWith (· * ·) t x))) grow0 (fun i H' _ g' => ⟨g'.tup nD e1, SqL.of (g'.same nD _ _ hp1)⟩) (fun i x' H2 H3 hi g' y => ?_) (fun H' g' => ?_)
    · obtain ⟨tt, x1, x2, rfl, nt, rfl, e1', e2'⟩ := y
      obtain ⟨n1, h1, rfl⟩ := map_at e1'
      obtain ⟨n2, h2, rfl⟩ := map_at e2'
      have b1 := hb n1 (at_mem h1)
      refine ⟨tt, _, rfl, SqT.of upd_same, rfl, _, _, rfl, _, _, rfl, rfl, rfl, ?_⟩
      refine ⟨_, rfl, _, rfl, _, _, rfl, rfl, .inl ⟨by omega, by omega⟩, grow1 g' (same_new nt) ?_ (by rw [List.length_map, hz]; omega)⟩
      rw [List.getElem?_map, List.getElem?_zipWith, h1, h2]
      show some (V.int ((n1 * n2 : Nat) : Int)) = some (V.int ((n1 : Int) * n2))
      rw [Int.natCast_mul]
    · have hn : (tF t).length = (tF (List.zipWith (· * ·) t x)).length := by rw [List.length_map, List.length_map, hz]
      rw [hn] at g'
      obtain ⟨s2, e2⟩ := g'.all nD
      refine ⟨D, (List.zipWith (· * ·) t x).map Int.ofNat, rfl, SqL.of (by rw [e2, tF_ints]), _, _, rfl, rfl, ?_⟩
      rw [sum_cast, dot_zip]
      refine eqQ (congrArg V.int ?_) (q H' (s1.trans s2))
      show (n : Int) + (CS.dot t x : Nat) = ((n + CS.dot t x : Nat) : Int)
      omega
def spYes : Sp := fun vs H Q _ => ∃ a b : Bool, vs = [.bl a, .bl b] ∧ Q (.bl (decide (a = b))) H
theorem ok_yes {f : Addr} {fd : FuncData} (F : Fun K "_law_yes" "_law_yes" st__law_yes f fd) (T : Txt K mg C) : FnOk P w K mg base CX0 1 f fd ["_law_told", "_law_due"] spYes := by
  refine F.ok sc__law_yes (fun vs H Q E h => ?_) (fun cdv A outer s H vs Q E hr h => ?_)
  · obtain ⟨a, b, rfl, _⟩ := h
    rfl
  · obtain ⟨a, b, rfl, q⟩ := h
    refine ⟨_, (pss_one (ps_ret (pe_and (pe_callB call_isi (by rfl) T.isinstance (by decide +kernel) (pa_cons (pv 0) (pa_cons (pe_bltn (v := .ty "bool") (u := .type "bool") (by rfl) T.bool (by decide +kernel) rfl) pa_nil))) (pe_one (pe_cmpR op_eq (pv 0) (pv 1) (nomark _)))))), ?_⟩
    refine ⟨_, rfl, _, .ty "bool", .type "bool", .type "bool", true, rfl, .ty _, .base (.bl a), kit_ty (by decide +kernel), true, rfl, iteT ?_⟩
    refine ⟨_, rfl, _, rfl, rfl, eqQ ?_ q⟩
    cases a <;> cases b <;> rfl
end
end Cs
end
section
set_option maxRecDepth 100000
set_option maxHeartbeats 8000000
/-! The law's defs, third part: what is written, open pieces, points. Printed in part by gen.py out of CsH.src. -/
namespace Cs
open PySem L2 SX
theorem dot_le {A B : Nat} : ∀ (t x : List Nat), (∀ c ∈ t, c ≤ A) → (∀ n ∈ x, n ≤ B) → CS.dot t x ≤ t.length * (A * B)
  | [], x, _, _ => by simp [CS.dot]
  | a :: t, [], _, _ => by simp [CS.dot]
  | a :: t, b :: x, h, h' => by
    have h1 := dot_le t x (fun c hc => h c (by simp [hc])) (fun n hn => h' n (by simp [hn]))
    have h2 : a * b ≤ A * B := Nat.mul_le_mul (h a (by simp)) (h' b (by simp))
    simp only [CS.dot, List.length_cons, Nat.succ_mul]
    omega
theorem fval_le {n : Nat} {t x : List Nat} (hn : n ≤ 10) (ht : ∀ c ∈ t, c ≤ 10) (hl : t.length ≤ 3) (hx : ∀ c ∈ x, c ≤ 20) : CS.fval (n :: t) x ≤ 610 := by
  have h := dot_le t x ht hx
  have h2 : t.length * (10 * 20) ≤ 3 * (10 * 20) := Nat.mul_le_mul_right _ hl
  show n + CS.dot t x ≤ 610
  omega
theorem wr_le {m : Nat} {x : List Nat} (hm : m ≤ 3) (hx : ∀ c ∈ x, c ≤ 20) : ∀ ps : List Piece, (∀ q ∈ ps, LP m 20 10 q) → (CS.wr ps x).length ≤ ps.length * 12200
  | [], _ => by simp [CS.wr]
  | (u, f) :: ps, h => by
    have h1 := wr_le hm hx ps fun q hq => h q (by simp [hq])
    obtain ⟨_, hl, hf, hb⟩ := h (u, f) (by simp)
    simp only at hl hf hb
    cases f with
    | nil => simp at hf
    | cons n t =>
    have hv : CS.fval (n :: t) x ≤ 610 := fval_le (hb n (by simp)) (fun c hc => hb c (by simp [hc])) (by simp at hf; omega) hx
    have : CS.fval (n :: t) x * u.length ≤ 610 * 20 := Nat.mul_le_mul hv hl
    simp only [CS.wr, List.length_append, CS.rep_len, List.length_cons, Nat.succ_mul]
    omega
theorem opens_app : ∀ a b : List Piece, CS.opens (a ++ b) = CS.opens a + CS.opens b
  | [], b => by simp [CS.opens]
  | p :: a, b => by
    rw [List.cons_append, CS.opens, CS.opens, opens_app a b]
    omega
theorem opens_le : ∀ a : List Piece, CS.opens a ≤ a.length
  | [] => Nat.le_refl _
  | p :: a => by
    have := opens_le a
    simp only [CS.opens, List.length_cons]
    split <;> omega
section
variable {P : Program} {w : World} {K : PySem.W.Frag} {mg : Str → Option Value} {base : Heap} {C : Addr} {k : Nat}
def spWrite : Sp := fun vs H Q _ => ∃ (a p : Addr) (as : List Addr) (ps : List Piece) (x : List Nat) (m : Nat), vs = [.ref a, .ref p] ∧ H a = some (.lst (refs as)) ∧ PsAt H as ps ∧ ps.length ≤ 10 ∧ (∀ q ∈ ps, LP m 20 10 q) ∧ H p = some (.lst (tF x)) ∧ x.length = m ∧ m ≤ 3 ∧
  (∀ n ∈ x, n ≤ 20) ∧ ∀ H', Same H H' → Q (.str (S (CS.wr ps x))) H'
theorem ok_write {f : Addr} {fd : FuncData} (F : Fun K "_law_write" "_law_write" st__law_write f fd) (T : Txt K mg C) (c__law_value : C8.Cal P w K mg base 1 "_law_value" spValue []) : FnOk P w K mg base CX0 2 f fd ["_law_pieces", "_law_point"] spWrite := by
  refine F.ok sc__law_write (fun vs H Q E h => ?_) (fun cdv A outer s H vs Q E hr h => ?_)
  · obtain ⟨a, p, as, ps, x, m, rfl, _⟩ := h
    rfl
  · obtain ⟨a, p, as, ps, x, m, rfl, ha, hps, hl, hok, hp, hxm, hm, hx, q⟩ := h
    have hlen := hps.len
    refine ⟨_, (pss_one (ps_ret (pe_join pe_str (pe_lc (own := [("_law_word_here", 2), ("_law_form_here", 3)]) (g := gTup K 2 (gCons (gName 2) (gCons (gName 3) gNil))) (by rfl) sc__law_write.nd (pi_list (pv 0)) (blkOk_by (own := [("_law_word_here", 2), ("_law_form_here", 3)]) (N := N__law_write) (sc := defScope st__law_write) (by decide +kernel)) (fun _ _ _ _ _ => (pg_tup (by rfl) (pgs_cons (pg_name (i := 2) sc__law_write.nd rfl (by first | exact Or.inl rfl | exact Or.inr rfl)) (pgs_cons (pg_name (i := 3) sc__law_write.nd rfl (by first | exact Or.inl rfl | exact Or.inr rfl)) pgs_nil)))) (fun _ _ _ _ _ => pts_one (pt_cmpR op_ne (pv 2) pe_str (nomark _))) (fun _ _ _ _ _ => (pe_op op_mulS (pv 2) (C8.pe_c c__law_value hr (by decide) (by rfl) (pa_cons (pv 3) (pa_cons (pv 1) pa_nil))))))))), ?_⟩
    refine ⟨⟨_, rfl⟩, _, rfl, a, rfl, ⟨_, SqL.of ha⟩, fun D nD => ?_⟩
    refine lc_it (walk_list (K := K) (a := a) (xs := refs as)) (fun i H' => ∃ ws : List (List Nat), H' D = some (.lst (wS ws)) ∧ ws.length ≤ i ∧ ws.flatten = CS.wr (ps.take i) x ∧ But D H H')
      ⟨[], upd_same, Nat.le_refl _, by simp [CS.wr], But.of (same_new nD)⟩ (fun i H' _ ⟨_, _, _, _, b1⟩ => SqL.of (b1.new nD _ _ ha)) (fun i v H1 H2 hi hv y => ?_) (fun H' hv => ?_)
    · obtain ⟨ws, hD, wl, wf, bd⟩ := hv
      have s1 := bd.new nD
      obtain ⟨rfl, e1⟩ := y
      obtain ⟨ai, hai, rfl⟩ := map_at e1
      obtain ⟨pi, hpi, hpa⟩ := paired_at hps hai
      obtain ⟨b, h1, h2⟩ := hpa.same s1
      obtain ⟨_, ul, fl, fb⟩ := hok pi (at_mem hpi)
      have htk : CS.wr (ps.take (i + 1)) x = ws.flatten ++ CS.rep (CS.fval pi.2 x) pi.1 := by
        rw [take_succ hpi, CS.wr_append, wf]
        simp [CS.wr]
      have hi10 : i < 10 := by
        have := at_lt hpi
        omega
      obtain ⟨u, f⟩ := pi
      simp only at ul fl fb
      cases f with
      | nil => simp at fl
      | cons n t =>
      have ht : t.length = m := by simpa using fl
      refine ⟨ai, _, rfl, SqT.of h1, rfl, _, _, rfl, _, _, rfl, rfl, rfl, ?_⟩
      by_cases hu : u = []
      · subst hu
        refine ⟨_, rfl, rfl, false, rfl, iteF ?_⟩
        exact ⟨ws, hD, by omega, by rw [htk, CS.rep_nil, List.append_nil], bd⟩
      · refine ⟨_, rfl, rfl, true, ?_, iteT ?_⟩
        · have : ¬ (V.str (S u) = V.str (S [])) := fun e => hu (S_inj (V.str.inj e))
          show V.bl (!decide (V.str (S u) = V.str (S []))) = V.bl true
          rw [decide_eq_false this]
          rfl
        · have hv := fval_le (t := t) (fb n (by simp)) (fun c hc => fb c (by simp [hc])) (by omega) hx
          refine ⟨_, rfl, _, rfl, _, rfl, b, p, n, t, x, rfl, h2, s1 _ _ hp, by omega, by omega, fun c hc => Nat.le_trans (fb c (by simp [hc])) (by decide), fun H3 s3 => ?_⟩
          refine ⟨u, CS.fval (n :: t) x, rfl, rfl, by omega, by omega, wS ws, s3 _ _ hD, szlt (by rw [List.length_map]; omega), ws ++ [CS.rep (CS.fval (n :: t) x) u], ?_, ?_, ?_, ?_⟩
          · rw [upd_same]
            simp [wS]
          · rw [List.length_append, List.length_singleton]
            omega
          · rw [htk]
            simp
          · exact (bd.trans (But.of s3)).trans But.upd
    · obtain ⟨ws, hD, wl, wf, bd⟩ := hv
      have s1 := bd.new nD
      have e : ps.take (refs as).length = ps := by rw [List.length_map, hlen, List.take_length]
      rw [e] at wf
      rw [List.length_map] at wl
      have hwr := wr_le hm hx ps hok
      refine ⟨S [], D, ws.map S, rfl, rfl, .inl (SqL.of (by rw [← wS_str]; exact hD)), ?_, ?_⟩
      · rw [join_len, wf, S_len, List.length_map]
        simp
        omega
      · rw [join_S, wf]
        exact q H' s1
def spOpens : Sp := fun vs H Q _ => ∃ (a : Addr) (as : List Addr) (ps : List Piece), vs = [.ref a] ∧ H a = some (.lst (refs as)) ∧ PsAt H as ps ∧ ps.length ≤ 1000 ∧ (∀ q ∈ ps, q.2 ≠ []) ∧ ∀ H', Same H H' → Q (.int ((CS.opens ps : Nat) : Int)) H'
theorem ok_opens {f : Addr} {fd : FuncData} (F : Fun K "_law_open_pieces" "_law_open_pieces" st__law_open_pieces f fd) (T : Txt K mg C) : FnOk P w K mg base CX0 1 f fd ["_law_pieces"] spOpens := by
  refine F.ok sc__law_open_pieces (fun vs H Q E h => ?_) (fun cdv A outer s H vs Q E hr h => ?_)
  · obtain ⟨a, as, ps, rfl, _⟩ := h
    rfl
  · obtain ⟨a, as, ps, rfl, ha, hps, hl, hok, q⟩ := h
    have hlen := hps.len
    refine ⟨_, (pss_one (ps_ret (pe_callB call_len_seq (by rfl) T.len (by decide +kernel) (pa_cons (pe_lc (own := [("_law_word_here", 1), ("_law_form_here", 2)]) (g := gTup K 2 (gCons (gName 1) (gCons (gName 2) gNil))) (by rfl) sc__law_open_pieces.nd (pi_list (pv 0)) (blkOk_by (own := [("_law_word_here", 1), ("_law_form_here", 2)]) (N := N__law_open_pieces) (sc := defScope st__law_open_pieces) (by decide +kernel)) (fun _ _ _ _ _ => (pg_tup (by rfl) (pgs_cons (pg_name (i := 1) sc__law_open_pieces.nd rfl (by first | exact Or.inl rfl | exact Or.inr rfl)) (pgs_cons (pg_name (i := 2) sc__law_open_pieces.nd rfl (by first | exact Or.inl rfl | exact Or.inr rfl)) pgs_nil)))) (fun _ _ _ _ _ => pts_one (pt_cmpR op_gt (pe_callB (sum_tup rfl) (by rfl) T.sum (by decide +kernel) (pa_cons (pe_slice sl_Tfrom (pv 2) (po_some pe_int) po_none) pa_nil)) pe_int (nomark _))) (fun _ _ _ _ _ => (pv 1))) pa_nil)))), ?_⟩
    refine ⟨_, rfl, a, rfl, ⟨_, SqL.of ha⟩, fun D nD => ?_⟩
    refine lc_it (walk_list (K := K) (a := a) (xs := refs as)) (fun i H' => ∃ acc : List V, H' D = some (.lst acc) ∧ acc.length = CS.opens (ps.take i) ∧ But D H H')
      ⟨[], upd_same, by simp [CS.opens], But.of (same_new nD)⟩ (fun i H' _ ⟨_, _, _, b1⟩ => SqL.of (b1.new nD _ _ ha)) (fun i v H1 H2 hi hv y => ?_) (fun H' hv => ?_)
    · obtain ⟨acc, hD, al, b1⟩ := hv
      have s1 := b1.new nD
      obtain ⟨rfl, e1⟩ := y
      obtain ⟨ai, hai, rfl⟩ := map_at e1
      obtain ⟨pi, hpi, hpa⟩ := paired_at hps hai
      obtain ⟨b, h1, h2⟩ := hpa.same s1
      have hne := hok pi (at_mem hpi)
      have hi1 : i < 1000 := by
        have := at_lt hpi
        omega
      have ho1 := opens_le (ps.take i)
      rw [List.length_take] at ho1
      have htk : CS.opens (ps.take (i + 1)) = acc.length + (if CS.isOpen pi.2 then 1 else 0) := by
        rw [take_succ hpi, opens_app, al]
        simp [CS.opens]
      obtain ⟨u, f⟩ := pi
      simp only at hne
      cases f with
      | nil => exact absurd rfl hne
      | cons n t =>
      refine ⟨ai, _, rfl, SqT.of h1, rfl, _, _, rfl, _, _, rfl, rfl, rfl, ?_⟩
      refine ⟨_, rfl, 1, rfl, b, _, 1, rfl, rfl, rfl, h2, fun z H3 s3 e3 => ?_⟩
      refine ⟨z, t.map Int.ofNat, rfl, by rw [e3, ← tF_ints]; rfl, _, _, rfl, rfl, ?_⟩
      rw [sum_cast]
      by_cases ho : 0 < t.sum
      · refine ⟨true, bl_true (by omega), iteT ?_⟩
        refine ⟨_, rfl, acc, s3 _ _ hD, szlt (by omega), acc ++ [.str (S u)], upd_same, ?_, (b1.trans (But.of s3)).trans But.upd⟩
        have : CS.isOpen (n :: t) = true := decide_eq_true ho
        rw [htk, this, List.length_append]
        rfl
      · refine ⟨false, bl_false (by omega), iteF ?_⟩
        have : CS.isOpen (n :: t) = false := decide_eq_false ho
        refine ⟨acc, s3 _ _ hD, by rw [htk, this]; rfl, b1.trans (But.of s3)⟩
    · obtain ⟨acc, hD, al, b1⟩ := hv
      have e : ps.take (refs as).length = ps := by rw [List.length_map, hlen, List.take_length]
      rw [e] at al
      refine ⟨D, acc, rfl, .inl (SqL.of hD), ?_⟩
      rw [al]
      exact q H' (b1.new nD)
end
end Cs
end
section
set_option maxRecDepth 100000
set_option maxHeartbeats 8000000
/-! The law's defs, fourth part: the points of the cross. Printed in part by gen.py out of CsI.src. -/
namespace Cs
open PySem L2 SX
/-- points in the heap -/
def PtsAt (H : Hp) (as : List Addr) (xs : List (List Nat)) : Prop := Paired (fun b x => H b = some (.lst (tF x))) as xs
theorem PtsAt.same {H H' : Hp} {as : List Addr} {xs : List (List Nat)} (h : PtsAt H as xs) (s : Same H H') : PtsAt H' as xs := L2.Paired.mapP h fun _ _ q => s _ _ q
/-- the points of the cross in so many directions -/
def PtsOf (m most : Nat) (xs : List (List Nat)) : Prop := ∀ x, x ∈ xs ↔ x.length = m ∧ CS.pr x ≤ most
section
variable {P : Program} {w : World} {K : PySem.W.Frag} {mg : Str → Option Value} {base : Heap} {C : Addr} {k : Nat}
def spPoints (m : Nat) : Sp := fun vs H Q _ => ∃ most : Nat, vs = [.int (m : Int), .int (most : Int)] ∧ 1 ≤ most ∧ most ≤ 20 ∧
  ∀ p as xs H', Same H H' → H' p = some (.lst (refs as)) → PtsAt H' as xs → xs.length ≤ most ^ m → PtsOf m most xs → Q (.ref p) H'
theorem ok_points0 {f : Addr} {fd : FuncData} (F : Fun K "_law_points" "_law_points" st__law_points f fd) (T : Txt K mg C) : FnOk P w K mg base CX0 1 f fd ["_law_many", "_law_most"] (spPoints 0) := by
  refine F.ok sc__law_points (fun vs H Q E h => ?_) (fun cdv A outer s H vs Q E hr h => ?_)
  · obtain ⟨most, rfl, _⟩ := h
    rfl
  · obtain ⟨most, rfl, h1, h2, q⟩ := h
    refine ⟨_, pss_cons (ps_if (pt_cmpR op_eq (pv 0) pe_int (nomark _)) (pss_one (ps_ret (pe_lst (pa_cons (pe_lst pa_nil) pa_nil)))) pss_nil) pss_never, ?_⟩
    refine ⟨_, rfl, rfl, true, rfl, iteT ?_⟩
    refine ⟨Nat.zero_le _, fun p1 n1 => ⟨sz (by show 1 ≤ 1000000; decide), fun p2 n2 => ?_⟩⟩
    refine q p2 [p1] [[]] _ ((same_new n1).trans (same_new n2)) upd_same (.cons ((same_new n2) _ _ upd_same) .nil) (by simp) fun x => ?_
    rw [List.mem_singleton]
    constructor
    · rintro rfl
      exact ⟨rfl, h1⟩
    · rintro ⟨h, _⟩
      exact List.eq_nil_of_length_eq_zero h
theorem ok_pointsS {m : Nat} (hm : m ≤ 2) {f : Addr} {fd : FuncData} (F : Fun K "_law_points" "_law_points" st__law_points f fd) (T : Txt K mg C) (c__law_points : C8.Cal P w K mg base (m + 1) "_law_points" (spPoints m) []) :
    FnOk P w K mg base CX0 (m + 2) f fd ["_law_many", "_law_most"] (spPoints (m + 1)) := by
  refine F.ok sc__law_points (fun vs H Q E h => ?_) (fun cdv A outer s H vs Q E hr h => ?_)
  · obtain ⟨most, rfl, _⟩ := h
    rfl
  · obtain ⟨most, rfl, h1, h2, q⟩ := h
    refine ⟨_, (pss_cons (ps_if (pt_cmpR op_eq (pv 0) pe_int (nomark _))
        (pss_one (ps_ret (pe_lst (pa_cons (pe_lst pa_nil) pa_nil))))
        pss_nil)
      (pss_cons (ps_set (i := 2) sc__law_points.nd rfl (by first | exact Or.inl rfl | exact Or.inr rfl) (pe_lst pa_nil))
      (pss_cons (ps_for PassesOwn.never rfl (pi_range1 (by rfl) T.range (pa_cons (pv 1) pa_nil)) (pg_name (i := 3) sc__law_points.nd rfl (by first | exact Or.inl rfl | exact Or.inr rfl))
        (pss_one (ps_set (i := 2) sc__law_points.nd rfl (by first | exact Or.inl rfl | exact Or.inr rfl) (pe_op op_cat (pv 2) (pe_lc (own := [("_law_rest", 4)]) (by rfl) sc__law_points.nd (pi_list (C8.pe_c c__law_points hr (Nat.le_refl _) (by rfl) (pa_cons (pe_op op_sub (pv 0) pe_int) (pa_cons (pe_op op_fdivNN (pv 1) (pe_op op_add (pv 3) pe_int)) pa_nil)))) (blkOk_by (own := [("_law_rest", 4)]) (N := N__law_points) (sc := defScope st__law_points) (by decide +kernel)) (fun _ _ _ _ _ => (pg_name (i := 4) sc__law_points.nd rfl (by first | exact Or.inl rfl | exact Or.inr rfl))) (fun _ _ _ _ _ => pts_nil) (fun _ _ _ _ _ => (pe_op op_cat (pe_lst (pa_cons (pv 3) pa_nil)) (pv 4))))))))
      (pss_one (ps_ret (pv 2)))))), ?_⟩
    refine ⟨_, rfl, rfl, false, bl_false (fun e => by have := V.int.inj e; omega), iteF ?_⟩
    refine ⟨Nat.zero_le _, fun F0 n0 => ?_⟩
    have hpow : most ^ m ≤ 400 := by
      have a1 : most ^ m ≤ 20 ^ m := Nat.pow_le_pow_left h2 m
      have a2 : 20 ^ m ≤ 20 ^ 2 := Nat.pow_le_pow_right (by decide) hm
      omega
    refine ⟨_, rfl, _, rfl, by omega, by omega, ?_⟩
    refine for_range (lo := 0) (n := _) (fun i σ H' => ∃ (Fo : Addr) (as : List Addr) (xs : List (List Nat)) (v3 : Option V), σ = [some (.int ((m + 1 : Nat) : Int)), some (.int (most : Int)), some (.ref Fo), v3, none] ∧ Same H H' ∧ H' Fo = some (.lst (refs as)) ∧
        PtsAt H' as xs ∧ xs.length ≤ i * most ^ m ∧ ∀ x, x ∈ xs ↔ ∃ a r, x = a :: r ∧ a < i ∧ r.length = m ∧ (a + 1) * CS.pr r ≤ most)
      ⟨F0, [], [], none, rfl, same_new n0, upd_same, .nil, by simp, fun x => by simp⟩ ?_ ?_
    · rintro i σ H1 hi ⟨Fo, as, xs, v3, rfl, s1, hF, hp, hxl, hx⟩
      have hi2 : i < most := by omega
      have him : i * most ^ m ≤ 20 * 400 := Nat.mul_le_mul (by omega) hpow
      have hq1 : 1 ≤ most / (i + 1) := Nat.div_pos hi2 (Nat.succ_pos i)
      have hq2 : most / (i + 1) ≤ most := Nat.div_le_self _ _
      have hq3 : (most / (i + 1)) ^ m ≤ most ^ m := Nat.pow_le_pow_left hq2 m
      refine ⟨_, rfl, _, rfl, _, _, rfl, rfl, _, rfl, _, rfl, _, _, rfl, rfl, most, i + 1, rfl, congrArg V.int (by omega), ⟨by omega, by omega⟩, most / (i + 1), ?_, hq1, by omega, fun p as2 xs2 H2 s2 hp2 hpp hl2 hm2 => ?_⟩
      · show [V.int (((m + 1 : Nat) : Int) - 1), V.int ((most / (i + 1) : Nat) : Int)] = _
        rw [show ((m + 1 : Nat) : Int) - 1 = (m : Int) by omega]
      refine ⟨p, rfl, ⟨_, SqL.of hp2⟩, fun D nD => ?_⟩
      have hlen2 : as2.length = xs2.length := Paired.length hpp
      refine lc_it (walk_list (K := K) (a := p) (xs := refs as2)) (fun j H' => ∃ as3 : List Addr, H' D = some (.lst (refs as3)) ∧ Paired (fun b x => H' b = some (.lst (tF x)) ∧ b ≠ D) as3 ((xs2.take j).map (i :: ·)) ∧ But D H2 H')
        ⟨[], upd_same, by simpa using Paired.nil, But.of (same_new nD)⟩ (fun j H' _ ⟨_, _, _, b1⟩ => SqL.of (b1.new nD _ _ hp2)) (fun j v H3 H4 hj hv y => ?_) (fun H' hv => ?_)
      · obtain ⟨as3, hD, hp3, b3⟩ := hv
        have s3 := b3.new nD
        obtain ⟨rfl, e1⟩ := y
        obtain ⟨ai, hai, rfl⟩ := map_at e1
        obtain ⟨r, hr1, hr2⟩ := paired_at hpp hai
        have hlen3 : as3.length = ((xs2.take j).map (i :: ·)).length := Paired.length hp3
        rw [List.length_map, List.length_take] at hlen3
        have hr3 := s3 _ _ hr2
        have hrl : r.length = m := ((hm2 r).mp (at_mem hr1)).1
        refine ⟨rfl, ?_⟩
        refine ⟨_, rfl, sz (by show 1 ≤ 1000000; decide), fun q1 nq1 => ⟨_, rfl, q1, ai, _, _, rfl, rfl, upd_same, (same_new nq1) _ _ hr3, ?_, fun q2 nq2 => ?_⟩⟩
        · rw [List.length_map, hrl]
          exact sz (by show 1 + m ≤ 1000000; omega)
        · have s4 := (same_new (o := .lst [V.int (0 + (i : Int))]) nq1).trans (same_new (o := .lst ([V.int (0 + (i : Int))] ++ tF r)) nq2)
          have hD4 := s4 _ _ hD
          have nqD : q2 ≠ D := (ne_of_none ((same_new nq1) _ _ hD) nq2).symm
          refine ⟨refs as3, hD4, szlt (by rw [List.length_map]; omega), as3 ++ [q2], ?_, ?_, ?_⟩
          · rw [upd_same, refs_app]
            rfl
          · have et : xs2.take (j + 1) = xs2.take j ++ [r] := by
              rw [List.take_add_one, hr1]
              rfl
            rw [et, List.map_append]
            refine paired_app (L2.Paired.mapP hp3 fun b x z => ⟨?_, z.2⟩) (.cons ⟨?_, nqD⟩ .nil)
            · rw [upd_ne z.2]
              exact s4 _ _ z.1
            · rw [upd_ne nqD, upd_same]
              show some (HO.lst (V.int (0 + (i : Int)) :: tF r)) = some (HO.lst (V.int (i : Int) :: tF r))
              rw [Int.zero_add]
          · exact (b3.trans (But.of s4)).trans But.upd
      · obtain ⟨as3, hD, hp3, b3⟩ := hv
        have s3 := b3.new nD
        have et : xs2.take (refs as2).length = xs2 := by rw [List.length_map, hlen2, List.take_length]
        rw [et] at hp3
        have hlen3 : as3.length = (xs2.map (i :: ·)).length := Paired.length hp3
        rw [List.length_map] at hlen3
        have hlen : as.length = xs.length := Paired.length hp
        have s23 := s2.trans s3
        refine ⟨Fo, D, _, _, rfl, rfl, s23 _ _ hF, hD, ?_, fun p4 np4 => ?_⟩
        · rw [List.length_map, List.length_map]
          exact sz (by omega)
        · refine ⟨p4, as ++ as3, xs ++ xs2.map (i :: ·), _, rfl, (s1.trans s23).trans (same_new np4), ?_, ?_, ?_, fun x => ?_⟩
          · rw [upd_same, refs_app]
          · exact PtsAt.same (paired_app (PtsAt.same hp s23) (L2.Paired.mapP hp3 fun b x z => z.1)) (same_new np4)
          · rw [List.length_append, List.length_map, Nat.succ_mul]
            omega
          · rw [List.mem_append, hx x, List.mem_map]
            constructor
            · rintro (⟨a, r, e, ha, hr1, hr2⟩ | ⟨r, hr1, rfl⟩)
              · exact ⟨a, r, e, by omega, hr1, hr2⟩
              · obtain ⟨z1, z2⟩ := (hm2 r).mp hr1
                refine ⟨i, r, rfl, by omega, z1, ?_⟩
                rw [Nat.mul_comm]
                exact (Nat.le_div_iff_mul_le (Nat.succ_pos i)).mp z2
            · rintro ⟨a, r, rfl, ha, hr1, hr2⟩
              by_cases h : a < i
              · exact .inl ⟨a, r, rfl, h, hr1, hr2⟩
              · have e : a = i := by omega
                subst e
                refine .inr ⟨r, (hm2 r).mpr ⟨hr1, ?_⟩, rfl⟩
                rw [Nat.mul_comm] at hr2
                exact (Nat.le_div_iff_mul_le (Nat.succ_pos a)).mpr hr2
    · rintro σ H1 ⟨Fo, as, xs, v3, rfl, s1, hF, hp, hxl, hx⟩
      have en : ((most : Int)).toNat = most := Int.toNat_natCast most
      refine ⟨_, rfl, q Fo as xs H1 s1 hF hp ?_ fun x => ?_⟩
      · rw [Nat.pow_succ, Nat.mul_comm]
        have e2 : ((most : Int) - 0).toNat = most := by omega
        first
          | (rw [en] at hxl; exact hxl)
          | (rw [e2] at hxl; exact hxl)
      · rw [hx x]
        constructor
        · rintro ⟨a, r, rfl, ha, hr1, hr2⟩
          exact ⟨by rw [List.length_cons, hr1], hr2⟩
        · rintro ⟨hl, hpr⟩
          cases x with
          | nil => simp at hl
          | cons a r =>
            have hpr' : (a + 1) * CS.pr r ≤ most := hpr
            have hpos := CS.pr_pos r
            have : a + 1 ≤ (a + 1) * CS.pr r := Nat.le_mul_of_pos_right _ hpos
            exact ⟨a, r, rfl, by omega, by simpa using hl, hpr'⟩
theorem cal_points {f : Addr} {fd : FuncData} (F : Fun K "_law_points" "_law_points" st__law_points f fd) (T : Txt K mg C) (hm : mg "_law_points" = some (.ref f)) (kp : PySem.W.keepIn K (.ref f) = true) (b : Binds K fd ["_law_many", "_law_most"] []) :
    ∀ m, m ≤ 3 → C8.Cal P w K mg base (m + 1) "_law_points" (spPoints m) []
  | 0, _ => ⟨f, fd, _, [], ok_points0 F T, hm, kp, b, .nil⟩
  | m + 1, h => ⟨f, fd, _, [], ok_pointsS (by omega) F T (cal_points F T hm kp b m (by omega)), hm, kp, b, .nil⟩
def spPts : Sp := fun vs H Q E => ∃ m, m ≤ 3 ∧ spPoints m vs H Q E
theorem cal_pts {f : Addr} {fd : FuncData} (F : Fun K "_law_points" "_law_points" st__law_points f fd) (T : Txt K mg C) (hm : mg "_law_points" = some (.ref f)) (kp : PySem.W.keepIn K (.ref f) = true) (b : Binds K fd ["_law_many", "_law_most"] []) :
    C8.Cal P w K mg base 4 "_law_points" spPts [] := by
  have ok : ∀ m, m ≤ 3 → FnOk P w K mg base CX0 4 f fd ["_law_many", "_law_most"] (spPoints m) := fun m h => by
    cases m with
    | zero => exact (ok_points0 F T).mono (by decide)
    | succ m => exact (ok_pointsS (by omega) F T (cal_points F T hm kp b m (by omega))).mono (by omega)
  refine ⟨f, fd, _, [], ⟨fun vs H Q E h => ?_, fun A outer s H args us vs Q E hr he hb hv h => ?_⟩, hm, kp, b, .nil⟩
  · obtain ⟨m, h1, h2⟩ := h
    exact (ok m h1).len vs H Q E h2
  · obtain ⟨m, h1, h2⟩ := h
    exact (ok m h1).run A outer s H args us vs Q E hr he hb hv h2
end
end Cs
end
section
set_option maxRecDepth 100000
set_option maxHeartbeats 8000000
/-! The law's defs, fifth part: a drawn piece, drawn pieces. Printed in part by gen.py out of CsJ.src. -/
namespace Cs
open PySem L2 SX
theorem sub_az {u : List Nat} (h : Az u) (i j : Nat) : Az ((u.drop i).take j) := fun c hc => h c (List.mem_of_mem_drop (List.mem_of_mem_take hc))
theorem take_az {u : List Nat} (h : Az u) (j : Nat) : Az (u.take j) := fun c hc => h c (List.mem_of_mem_take hc)
theorem drop_az {u : List Nat} (h : Az u) (j : Nat) : Az (u.drop j) := fun c hc => h c (List.mem_of_mem_drop hc)
theorem rev_az {u : List Nat} (h : Az u) : Az u.reverse := fun c hc => h c (List.mem_reverse.mp hc)
theorem int_ne {r : Nat} {n : Int} (h : ¬ (r : Int) = n) : V.bl (decide (V.int (r : Int) = V.int n)) = V.bl false := bl_false fun e => h (V.int.inj e)
theorem int_eq {r : Nat} {n : Int} (h : (r : Int) = n) : V.bl (decide (V.int (r : Int) = V.int n)) = V.bl true := bl_true (congrArg V.int h)
/-- the generator is no list of objects -/
theorem GenAt.other {H : Hp} {g l : Addr} {c : Nat} {as : List Addr} (h : GenAt H g c) (hl : H l = some (.lst (refs as))) : l ≠ g := fun z => by
  obtain ⟨a, d, b, h1, _⟩ := h
  rw [z, h1] at hl
  cases as with
  | nil => simp [refs] at hl
  | cons x r => simp [refs] at hl
theorem le_one_of_rep {m n : Nat} : n ∈ List.replicate m 0 → n = 0 := fun h => (List.mem_replicate.mp h).2
section
variable {P : Program} {w : World} {K : PySem.W.Frag} {mg : Str → Option Value} {base : Heap} {C : Addr} {k : Nat}
def spLPiece : Sp := fun vs H Q _ => ∃ (g : Addr) (m mo c : Nat) (u b : List Nat), vs = [.ref g, .int (m : Int), .str (S u), .str (S b), .int (mo : Int)] ∧ m ≤ 3 ∧ mo ≤ 2 ∧ Az u ∧ u.length = 3 ∧ Az b ∧ 0 < b.length ∧ b.length ≤ 3 ∧ GenAt H g c ∧ c ≤ 7000000 ∧
  ∀ a p H', PieceAt H' a p → LP m 12 2 p → But g H H' → GenAt H' g (c + 40) → Q (.ref a) H'
theorem ok_lpiece {f : Addr} {fd : FuncData} (F : Fun K "_law_piece" "_law_piece" st__law_piece f fd) (T : Txt K mg C) (c__law_random : C8.Cal P w K mg base 2 "_law_random" spRandom []) (c__law_word : C8.Cal P w K mg base 3 "_law_word" spWord [])
    (c__law_form : C8.Cal P w K mg base 3 "_law_form" spForm []) (c__law_plain : C8.Cal P w K mg base 1 "_law_plain" spPlain []) : FnOk P w K mg base CX0 4 f fd ["_law_generator_here", "_law_many", "_law_signs", "_law_base", "_law_most"] spLPiece := by
  refine F.ok sc__law_piece (fun vs H Q E h => ?_) (fun cdv A outer s H vs Q E hr h => ?_)
  · obtain ⟨g, m, mo, c, u, b, rfl, _⟩ := h
    rfl
  · obtain ⟨g, m, mo, c, u, b, rfl, hm, hmo, ua, ul, ba, b0, bl, hg, hc, q⟩ := h
    refine ⟨_, (pss_cons (ps_par (i := 5) (j := 6) (by rfl) sc__law_piece.nd rfl rfl (by decide) rfl rfl (pa_cons (C8.pe_c c__law_random hr (by decide) (by rfl) (pa_cons (pv 0) (pa_cons pe_int pa_nil))) (pa_cons (C8.pe_c c__law_random hr (by decide) (by rfl) (pa_cons (pv 0) (pa_cons pe_int pa_nil))) pa_nil)) (by rfl))
      (pss_cons (ps_set (i := 7) sc__law_piece.nd rfl (by first | exact Or.inl rfl | exact Or.inr rfl) (pe_slice sl_S (pe_op op_catS (pv 3) (pv 3)) (po_some (pe_op op_mod (pe_callTy call_int1 (by rfl) T.int (by decide +kernel) (pa_cons (pv 6) pa_nil)) (pe_callB len_S (by rfl) T.len (by decide +kernel) (pa_cons (pv 3) pa_nil)))) (po_some (pe_op op_add (pe_op op_mod (pe_callTy call_int1 (by rfl) T.int (by decide +kernel) (pa_cons (pv 6) pa_nil)) (pe_callB len_S (by rfl) T.len (by decide +kernel) (pa_cons (pv 3) pa_nil))) (pe_callB len_S (by rfl) T.len (by decide +kernel) (pa_cons (pv 3) pa_nil))))))
      (pss_cons (ps_if (pt_cmpR op_eq (pv 5) pe_int (nomark _))
        (pss_one (ps_ret (pe_tup (pa_cons (C8.pe_c c__law_word hr (by decide) (by rfl) (pa_cons (pv 0) (pa_cons (pv 2) (pa_cons pe_int (pa_cons pe_int pa_nil))))) (pa_cons (C8.pe_c c__law_plain hr (by decide) (by rfl) (pa_cons (pv 1) (pa_cons (C8.pe_c c__law_random hr (by decide) (by rfl) (pa_cons (pv 0) (pa_cons pe_int pa_nil))) pa_nil))) pa_nil)))))
        pss_nil)
      (pss_cons (ps_if (pt_cmpR op_eq (pv 5) pe_int (nomark _))
        (pss_one (ps_ret (pe_tup (pa_cons (pe_op op_mulS (pv 7) (pe_op op_add pe_int (pe_callTy call_int1 (by rfl) T.int (by decide +kernel) (pa_cons (pe_cmpR op_eq (pv 6) pe_int (nomark _)) pa_nil)))) (pa_cons (C8.pe_c c__law_form hr (by decide) (by rfl) (pa_cons (pv 0) (pa_cons (pv 1) (pa_cons (pv 4) pa_nil)))) pa_nil)))))
        pss_nil)
      (pss_cons (ps_if (pt_cmpR op_eq (pv 5) pe_int (nomark _))
        (pss_one (ps_ret (pe_tup (pa_cons (pe_slice sl_Sto (pe_op op_mulS (pv 7) pe_int) po_none (po_some (C8.pe_c c__law_random hr (by decide) (by rfl) (pa_cons (pv 0) (pa_cons (pe_op op_add (pe_op op_mul pe_int (pe_callB len_S (by rfl) T.len (by decide +kernel) (pa_cons (pv 3) pa_nil))) pe_int) pa_nil))))) (pa_cons (C8.pe_c c__law_plain hr (by decide) (by rfl) (pa_cons (pv 1) (pa_cons pe_int pa_nil))) pa_nil)))))
        pss_nil)
      (pss_cons (ps_if (pt_cmpR op_eq (pv 5) pe_int (nomark _))
        (pss_one (ps_ret (pe_tup (pa_cons (pe_slice sl_Sfrom (pv 3) (po_some (pe_op op_sub (pe_callB len_S (by rfl) T.len (by decide +kernel) (pa_cons (pv 3) pa_nil)) pe_int)) po_none) (pa_cons (C8.pe_c c__law_plain hr (by decide) (by rfl) (pa_cons (pv 1) (pa_cons pe_int pa_nil))) pa_nil)))))
        pss_nil)
      (pss_cons (ps_if (pt_cmpR op_eq (pv 5) pe_int (nomark _))
        (pss_one (ps_ret (pe_tup (pa_cons (pv 3) (pa_cons (pe_op op_catU (pe_tup (pa_cons pe_int pa_nil)) (pe_slice sl_Tfrom (C8.pe_c c__law_form hr (by decide) (by rfl) (pa_cons (pv 0) (pa_cons (pv 1) (pa_cons (pv 4) pa_nil)))) (po_some pe_int) po_none)) pa_nil)))))
        pss_nil)
      (pss_cons (ps_if (pt_cmpR op_eq (pv 5) pe_int (nomark _))
        (pss_one (ps_ret (pe_tup (pa_cons (pe_ix ix_S (pv 2) (C8.pe_c c__law_random hr (by decide) (by rfl) (pa_cons (pv 0) (pa_cons pe_int pa_nil))) (fun _ _ => rfl)) (pa_cons (C8.pe_c c__law_form hr (by decide) (by rfl) (pa_cons (pv 0) (pa_cons (pv 1) (pa_cons (pv 4) pa_nil)))) pa_nil)))))
        pss_nil)
      (pss_one (ps_ret (pe_tup (pa_cons (C8.pe_c c__law_word hr (by decide) (by rfl) (pa_cons (pv 0) (pa_cons (pe_slice sl_Sto (pv 2) po_none (po_some pe_int)) (pa_cons pe_int (pa_cons pe_int pa_nil))))) (pa_cons (C8.pe_c c__law_form hr (by decide) (by rfl) (pa_cons (pv 0) (pa_cons (pv 1) (pa_cons (pv 4) pa_nil)))) pa_nil))))))))))))), ?_⟩
    refine ⟨_, rfl, g, 8, c, rfl, by decide, by decide, hg, by omega, fun r1 H1 hr1 b1 g1 => ?_⟩
    refine ⟨_, rfl, g, 4, c + 1, rfl, by decide, by decide, g1, by omega, fun r2 H2 hr2 b2 g2 => ⟨_, _, rfl, ?_⟩⟩
    have hbl : (b ++ b).length ≤ 6 := by
      rw [List.length_append]
      omega
    have fin : ∀ {v t : List Nat} {p a : Addr} {Hn : Hp} {c' : Nat}, FormAt Hn p t → But g H2 Hn → GenAt Hn g c' → c' ≤ c + 40 → LP m 12 2 (v, t) → Hn a = none → Q (.ref a) (upd Hn a (.tup [.str (S v), .ref p])) := fun {v t p a Hn c'} hf bn gn hc' lp na =>
      q a (v, t) _ ⟨p, upd_same, hf.same (same_new na)⟩ lp (((b1.trans b2).trans bn).trans (But.of (same_new na))) ((gn.same (same_new na)).mono hc')
    refine ⟨_, rfl, _, rfl, b, b, rfl, rfl, sz (by omega), _, rfl, .inl ⟨_, rfl, _, rfl, b, rfl, sz (by omega), _, _, rfl, rfl, by show (0 : Int) < (b.length : Int); omega, _, rfl, _, rfl, .inl ⟨_, rfl, _, rfl, b, rfl, sz (by omega), _, _, rfl, rfl, by show (0 : Int) < (b.length : Int); omega,
      _, rfl, b, rfl, sz (by omega), _, _, rfl, rfl, _, rfl, b ++ b, rfl, sz (by omega), ?_⟩⟩⟩
    have ta0 := fun i j => sub_az (az_app ba ba) i j
    have tl0 : ∀ i j, (((b ++ b).drop i).take j).length ≤ 6 := fun i j => by
      rw [List.length_take, List.length_drop]
      omega
    generalize hti : HT.sIx (b ++ b).length 0 _ = ti
    generalize htj : HT.sIx (b ++ b).length (b ++ b).length _ - ti = tj
    have ta := ta0 ti tj
    have tl := tl0 ti tj
    generalize ((b ++ b).drop ti).take tj = t at ta tl
    by_cases h0 : (r1 : Int) = 0
    · refine ⟨_, rfl, rfl, true, int_eq h0, iteT ?_⟩
      refine ⟨_, rfl, _, rfl, g, u, 0, 4, c + 2, rfl, ua, by omega, by omega, by decide, by decide, g2, by omega, fun v H3 va v1 v2 b3 g3 => ?_⟩
      refine ⟨_, rfl, _, rfl, g, 3, c + 2 + 11, rfl, by decide, by decide, g3, by omega, fun r3 H4 hr3 b4 g4 => ?_⟩
      refine ⟨m, r3, rfl, by omega, fun p H5 s5 e5 => ⟨sz (by show 2 ≤ 1000000; decide), fun a na => ?_⟩⟩
      refine fin e5 ((b3.trans b4).trans (But.of s5)) (g4.same s5) (by omega) ⟨va, by show v.length ≤ 12; omega, by simp, fun n hn => ?_⟩ na
      rcases List.mem_cons.mp hn with e | e
      · omega
      · rw [le_one_of_rep e]
        exact Nat.zero_le _
    refine ⟨_, rfl, rfl, false, int_ne h0, iteF ?_⟩
    by_cases h1 : (r1 : Int) = 1
    · refine ⟨_, rfl, rfl, true, int_eq h1, iteT ?_⟩
      obtain ⟨k, hk, hk2⟩ : ∃ k : Nat, ((1 : Int) + if decide (V.int (r2 : Int) = V.int 3) = true then 1 else 0) = (k : Int) ∧ k ≤ 2 := by
        split
        · exact ⟨2, rfl, by decide⟩
        · exact ⟨1, rfl, by decide⟩
      refine ⟨_, rfl, _, rfl, rfl, .inr ⟨_, rfl, _, _, rfl, rfl, t, k, rfl, congrArg V.int hk, by omega, by omega, ?_⟩⟩
      refine ⟨_, rfl, _, rfl, _, rfl, g, m, mo, c + 2, rfl, hm, by omega, g2, by omega, fun p f2 H3 e3 fl fb b3 g3 => ⟨sz (by show 2 ≤ 1000000; decide), fun a na => ?_⟩⟩
      have hkt : k * t.length ≤ 2 * 6 := Nat.mul_le_mul hk2 tl
      exact fin e3 b3 g3 (by omega) ⟨rep_az ta k, by show (CS.rep k t).length ≤ 12; rw [CS.rep_len]; exact hkt, fl, fun n hn => Nat.le_trans (fb n hn) hmo⟩ na
    refine ⟨_, rfl, rfl, false, int_ne h1, iteF ?_⟩
    by_cases h2 : (r1 : Int) = 2
    · refine ⟨_, rfl, rfl, true, int_eq h2, iteT ?_⟩
      refine ⟨_, rfl, t, 4, rfl, rfl, by omega, by decide, _, rfl, _, rfl, b, rfl, sz (by omega), _, _, rfl, rfl, .inl ⟨by decide, by decide⟩, _, _, rfl, rfl, g, 2 * b.length + 2, c + 2, rfl, by omega, by omega, g2, by omega, fun r3 H3 hr3 b3 g3 => ?_⟩
      have h4 : (CS.rep 4 t).length ≤ 24 := by
        rw [CS.rep_len]
        omega
      refine ⟨_, rfl, CS.rep 4 t, r3, rfl, rfl, rfl, sz (by omega), ?_⟩
      refine ⟨_, rfl, m, 1, rfl, by omega, fun p H4 s4 e4 => ⟨sz (by show 2 ≤ 1000000; decide), fun a na => ?_⟩⟩
      refine fin e4 (b3.trans (But.of s4)) (g3.same s4) (by omega) ⟨take_az (rep_az ta 4) r3, ?_, by simp, fun n hn => ?_⟩ na
      · show ((CS.rep 4 t).take r3).length ≤ 12
        rw [List.length_take]
        omega
      · rcases List.mem_cons.mp hn with e | e
        · omega
        · rw [le_one_of_rep e]
          exact Nat.zero_le _
    refine ⟨_, rfl, rfl, false, int_ne h2, iteF ?_⟩
    by_cases h3 : (r1 : Int) = 3
    · refine ⟨_, rfl, rfl, true, int_eq h3, iteT ?_⟩
      refine ⟨_, rfl, _, rfl, b, rfl, sz (by omega), _, _, rfl, rfl, _, rfl, b, b.length - 1, rfl, congrArg some (by omega), rfl, sz (by omega), ?_⟩
      refine ⟨_, rfl, m, 1, rfl, by omega, fun p H4 s4 e4 => ⟨sz (by show 2 ≤ 1000000; decide), fun a na => ?_⟩⟩
      refine fin e4 (But.of s4) (g2.same s4) (by omega) ⟨drop_az ba _, ?_, by simp, fun n hn => ?_⟩ na
      · show (b.drop (b.length - 1)).length ≤ 12
        rw [List.length_drop]
        omega
      · rcases List.mem_cons.mp hn with e | e
        · omega
        · rw [le_one_of_rep e]
          exact Nat.zero_le _
    refine ⟨_, rfl, rfl, false, int_ne h3, iteF ?_⟩
    by_cases h4 : (r1 : Int) = 4
    · refine ⟨_, rfl, rfl, true, int_eq h4, iteT ?_⟩
      refine ⟨_, rfl, sz (by show 1 ≤ 1000000; decide), fun z nz => ?_⟩
      have sz1 := same_new (o := .tup [V.int 0]) nz
      refine ⟨_, rfl, _, rfl, _, rfl, g, m, mo, c + 2, rfl, hm, by omega, g2.same sz1, by omega, fun p f2 H3 e3 fl fb b3 g3 => ?_⟩
      refine ⟨1, rfl, p, _, 1, rfl, rfl, rfl, e3, fun z2 H4 s4 e4 => ?_⟩
      have ez := s4 _ _ (b3 z _ (g2.ne nz).symm upd_same)
      cases f2 with
      | nil => simp at fl
      | cons n t2 =>
      have hl2 : t2.length = m := by simpa using fl
      refine ⟨z, z2, _, _, rfl, rfl, ez, e4, ?_, fun z3 H5 s5 e5 => ⟨sz (by show 2 ≤ 1000000; decide), fun a na => ?_⟩⟩
      · show 1 + (tF t2).length ≤ sizeLine
        rw [List.length_map]
        exact sz (by omega)
      · have e5' : FormAt H5 z3 (0 :: t2) := e5
        refine fin e5' (((But.of sz1).trans b3).trans (But.of (s4.trans s5))) (g3.same (s4.trans s5)) (by omega) ⟨ba, by show b.length ≤ 12; omega, by simp [hl2], fun n' hn => ?_⟩ na
        rcases List.mem_cons.mp hn with e | e
        · omega
        · exact Nat.le_trans (fb n' (by simp [e])) hmo
    refine ⟨_, rfl, rfl, false, int_ne h4, iteF ?_⟩
    by_cases h5 : (r1 : Int) = 5
    · refine ⟨_, rfl, rfl, true, int_eq h5, iteT ?_⟩
      refine ⟨_, rfl, _, rfl, g, 2, c + 2, rfl, by decide, by decide, g2, by omega, fun r3 H3 hr3 b3 g3 => ?_⟩
      have ex := get_D (u := u) (i := r3) (by omega)
      refine ⟨u, r3, _, rfl, rfl, sz (by omega), ex, ?_⟩
      refine ⟨_, rfl, _, rfl, _, rfl, g, m, mo, c + 2 + 1, rfl, hm, by omega, g3, by omega, fun p f2 H4 e4 fl fb b4 g4 => ⟨sz (by show 2 ≤ 1000000; decide), fun a na => ?_⟩⟩
      exact fin e4 (b3.trans b4) g4 (by omega) ⟨az_one (ua _ (at_mem ex)), by show 1 ≤ 12; decide, fl, fun n hn => Nat.le_trans (fb n hn) hmo⟩ na
    refine ⟨_, rfl, rfl, false, int_ne h5, iteF ?_⟩
    have hu2 : (u.take 2).length = 2 := by
      rw [List.length_take]
      omega
    refine ⟨_, rfl, _, rfl, 2, rfl, u, 2, rfl, rfl, rfl, sz (by omega), g, u.take 2, 1, 3, c + 2, rfl, take_az ua 2, by omega, by omega, by decide, by decide, g2, by omega, fun v H3 va v1 v2 b3 g3 => ?_⟩
    refine ⟨_, rfl, _, rfl, _, rfl, g, m, mo, c + 2 + 11, rfl, hm, by omega, g3, by omega, fun p f2 H4 e4 fl fb b4 g4 => ⟨sz (by show 2 ≤ 1000000; decide), fun a na => ?_⟩⟩
    exact fin e4 (b3.trans b4) g4 (by omega) ⟨va, by show v.length ≤ 12; omega, fl, fun n hn => Nat.le_trans (fb n hn) hmo⟩ na
def spRaw : Sp := fun vs H Q _ => ∃ (g : Addr) (m n mo c : Nat) (u : List Nat), vs = [.ref g, .int (m : Int), .str (S u), .int (n : Int), .int (mo : Int)] ∧ m ≤ 3 ∧ n ≤ 4 ∧ mo ≤ 2 ∧ Az u ∧ u.length = 3 ∧ GenAt H g c ∧ c ≤ 6000000 ∧
  ∀ a as ps H', H' a = some (.lst (refs as)) → PsAt H' as ps → ps.length ≤ 4 → (∀ p ∈ ps, LP m 12 2 p) → But g H H' → GenAt H' g (c + 1000) → Q (.ref a) H'
theorem ok_raw {f : Addr} {fd : FuncData} (F : Fun K "_law_raw" "_law_raw" st__law_raw f fd) (T : Txt K mg C) (c__law_random : C8.Cal P w K mg base 2 "_law_random" spRandom []) (c__law_word : C8.Cal P w K mg base 3 "_law_word" spWord [])
    (c__law_piece : C8.Cal P w K mg base 4 "_law_piece" spLPiece []) : FnOk P w K mg base CX0 5 f fd ["_law_generator_here", "_law_many", "_law_signs", "_law_count", "_law_most"] spRaw := by
  refine F.ok sc__law_raw (fun vs H Q E h => ?_) (fun cdv A outer s H vs Q E hr h => ?_)
  · obtain ⟨g, m, n, mo, c, u, rfl, _⟩ := h
    rfl
  · obtain ⟨g, m, n, mo, c, u, rfl, hm, hn, hmo, ua, ul, hg, hc, q⟩ := h
    refine ⟨_, (pss_cons (ps_par (i := 5) (j := 6) (by rfl) sc__law_raw.nd rfl rfl (by decide) rfl rfl (pa_cons (pe_lst pa_nil) (pa_cons (C8.pe_c c__law_word hr (by decide) (by rfl) (pa_cons (pv 0) (pa_cons (pe_slice sl_Sto (pv 2) po_none (po_some (pe_op op_add pe_int (C8.pe_c c__law_random hr (by decide) (by rfl) (pa_cons (pv 0) (pa_cons pe_int pa_nil)))))) (pa_cons pe_int (pa_cons pe_int pa_nil))))) pa_nil)) (by rfl))
      (pss_cons (ps_for PassesOwn.never rfl (pi_range1 (by rfl) T.range (pa_cons (pv 3) pa_nil)) (pg_name (i := 7) sc__law_raw.nd rfl (by first | exact Or.inl rfl | exact Or.inr rfl))
        (pss_cons (ps_expr (pe_bm PySem.F.plainAttrs_list PySem.F.slot_list_append PySem.F.type_list_append mt_append (pv 5) (pa_cons (C8.pe_c c__law_piece hr (by decide) (by rfl) (pa_cons (pv 0) (pa_cons (pv 1) (pa_cons (pv 2) (pa_cons (pv 6) (pa_cons (pv 4) pa_nil)))))) pa_nil)))
        (pss_one (ps_if (pt_cmpR op_eq (C8.pe_c c__law_random hr (by decide) (by rfl) (pa_cons (pv 0) (pa_cons pe_int pa_nil))) pe_int (nomark _))
          (pss_one (ps_set (i := 6) sc__law_raw.nd rfl (by first | exact Or.inl rfl | exact Or.inr rfl) (C8.pe_c c__law_word hr (by decide) (by rfl) (pa_cons (pv 0) (pa_cons (pv 2) (pa_cons pe_int (pa_cons pe_int pa_nil)))))))
          pss_nil))))
      (pss_one (ps_ret (pv 5))))), ?_⟩
    refine ⟨Nat.zero_le _, fun D nD => ?_⟩
    have gD : g ≠ D := hg.ne nD
    refine ⟨_, rfl, _, rfl, _, rfl, g, 2, c, rfl, by decide, by decide, hg.same (same_new nD), by omega, fun r H1 hr1 b1 g1 => ?_⟩
    have hu2 : 0 < (u.take (2 + r)).length ∧ (u.take (2 + r)).length ≤ 3 := by
      rw [List.length_take]
      omega
    refine ⟨_, _, rfl, rfl, _, rfl, u, 2 + r, rfl, rfl, congrArg some (by omega), sz (by omega), g, u.take (2 + r), 1, 3, c + 1, rfl, take_az ua _, hu2.1, by omega, by decide, by decide, g1, by omega, fun v H2 va v1 v2 b2 g2 => ⟨_, _, rfl, ?_⟩⟩
    have hD2 : H2 D = some (.lst []) := b2 D _ gD.symm (b1 D _ gD.symm upd_same)
    have b02 : But g H H2 := ((But.of (same_new nD)).trans b1).trans b2
    refine ⟨_, rfl, _, rfl, by omega, by omega, ?_⟩
    refine for_range (lo := 0) (n := _) (fun i σ H' => ∃ (as : List Addr) (ps : List Piece) (bw : List Nat) (v7 : Option V), σ = [some (.ref g), some (.int (m : Int)), some (.str (S u)), some (.int (n : Int)), some (.int (mo : Int)), some (.ref D), some (.str (S bw)), v7] ∧ Az bw ∧ 0 < bw.length ∧ bw.length ≤ 3 ∧
        H' D = some (.lst (refs as)) ∧ PsAt H' as ps ∧ ps.length = i ∧ (∀ p ∈ ps, LP m 12 2 p) ∧ But g H H' ∧ GenAt H' g (c + 20 + 60 * i))
      ⟨[], [], v, none, rfl, va, v1, v2, hD2, .nil, rfl, (fun _ hp => by simp at hp), b02, g2.mono (by omega)⟩ ?_ ?_
    · rintro i σ H3 hi ⟨as, ps, bw, v7, rfl, wa, w0, wl, hD3, hp3, hl3, lp3, b3, g3⟩
      have hi4 : i < 4 := by omega
      have hlen3 := hp3.len
      refine ⟨_, rfl, .inl ⟨rfl, _, SqL.of hD3⟩, _, rfl, _, rfl, _, rfl, _, rfl, _, rfl, g, m, mo, c + 20 + 60 * i, u, bw, rfl, hm, hmo, ua, ul, wa, w0, wl, g3, by omega, fun a p H4 pa lp b4 g4 => ?_⟩
      have hD4 := b4 D _ gD.symm hD3
      refine ⟨D, _, _, rfl, rfl, hD4, szlt (by rw [List.length_map]; omega), ?_⟩
      have hp4 := hp3.gen b4 g3
      have g5 : GenAt (upd H4 D (.lst (refs as ++ [.ref a]))) g (c + 20 + 60 * i + 40) := g4.upd gD
      have hp5 : PsAt (upd H4 D (.lst (refs as ++ [.ref a]))) (as ++ [a]) (ps ++ [p]) := PsAt.but (paired_app hp4 (.cons pa .nil)) (But.upd (o := .lst (refs as ++ [.ref a]))) hD4
      have b5 : But g H (upd H4 D (.lst (refs as ++ [.ref a]))) := (b3.trans b4).updNew nD
      have hD5 : (upd H4 D (.lst (refs as ++ [.ref a]))) D = some (.lst (refs (as ++ [a]))) := by
        rw [upd_same, refs_app]
        rfl
      have lp5 : ∀ p' ∈ ps ++ [p], LP m 12 2 p' := fun p' hp' => by
        rcases List.mem_append.mp hp' with e | e
        · exact lp3 p' e
        · rw [List.mem_singleton.mp e]
          exact lp
      have hl5 : (ps ++ [p]).length = i + 1 := by
        rw [List.length_append, hl3]
        rfl
      refine ⟨_, rfl, g, 5, c + 20 + 60 * i + 40, rfl, by decide, by decide, g5, by omega, fun r3 H6 hr3 b6 g6 => ?_⟩
      have hp6 := hp5.gen b6 g5
      have hD6 := b6 D _ gD.symm hD5
      by_cases h0 : (r3 : Int) = 0
      · refine ⟨rfl, true, int_eq h0, iteT ?_⟩
        refine ⟨_, rfl, _, rfl, g, u, 1, 3, c + 20 + 60 * i + 40 + 1, rfl, ua, by omega, by omega, by decide, by decide, g6, by omega, fun v' H7 va' v1' v2' b7 g7 => ?_⟩
        exact ⟨as ++ [a], ps ++ [p], v', _, rfl, va', v1', v2', b7 D _ gD.symm hD6, hp6.gen b7 g6, hl5, lp5, (b5.trans b6).trans b7, g7.mono (by omega)⟩
      · refine ⟨rfl, false, int_ne h0, iteF ?_⟩
        exact ⟨as ++ [a], ps ++ [p], bw, _, rfl, wa, w0, wl, hD6, hp6, hl5, lp5, b5.trans b6, g6.mono (by omega)⟩
    · rintro σ H3 ⟨as, ps, bw, v7, rfl, wa, w0, wl, hD3, hp3, hl3, lp3, b3, g3⟩
      exact ⟨_, rfl, q D as ps H3 hD3 hp3 (by omega) lp3 b3 (g3.mono (by omega))⟩
end
end Cs
end
section
set_option maxRecDepth 100000
set_option maxHeartbeats 8000000
/-! The law's defs, sixth part: pieces varied. Printed in part by gen.py out of CsK.src. -/
namespace Cs
open PySem L2 SX
theorem tF_take (f : List Nat) (i : Nat) : (tF f).take i = tF (f.take i) := List.map_take.symm
theorem tF_drop (f : List Nat) (i : Nat) : (tF f).drop i = tF (f.drop i) := List.map_drop.symm
theorem tF_rev (f : List Nat) : (tF f).reverse = tF f.reverse := List.map_reverse.symm
theorem tF_app (f g : List Nat) : tF f ++ tF g = tF (f ++ g) := List.map_append.symm
theorem refs_cut (as mids : List Addr) (i j : Nat) : (refs as).take i ++ refs mids ++ (refs as).drop j = refs (as.take i ++ mids ++ as.drop j) := by
  rw [refs_app, refs_app]
  unfold refs
  rw [List.map_take, List.map_drop]
/-- the last three lists of pieces[:at] + middle + pieces[at + 1:] -/
theorem cat_fin {Hm : Hp} {p2 p3 p4 p5 : Addr} {as mids : List Addr} {ps mps : List Piece} {r : Nat} (hps : PsAt Hm as ps) (hmid : PsAt Hm mids mps) (n2 : Hm p2 = none) {xs3 xs4 : List V}
    (n3 : upd Hm p2 (.lst (refs mids)) p3 = none) (n4 : upd (upd Hm p2 (.lst (refs mids))) p3 (.lst xs3) p4 = none) (n5 : upd (upd (upd Hm p2 (.lst (refs mids))) p3 (.lst xs3)) p4 (.lst xs4) p5 = none) :
    Same Hm (upd (upd (upd (upd Hm p2 (.lst (refs mids))) p3 (.lst xs3)) p4 (.lst xs4)) p5 (.lst ((refs as).take r ++ refs mids ++ (refs as).drop (r + 1)))) ∧
    (upd (upd (upd (upd Hm p2 (.lst (refs mids))) p3 (.lst xs3)) p4 (.lst xs4)) p5 (.lst ((refs as).take r ++ refs mids ++ (refs as).drop (r + 1)))) p5 = some (.lst (refs (as.take r ++ mids ++ as.drop (r + 1)))) ∧
    PsAt (upd (upd (upd (upd Hm p2 (.lst (refs mids))) p3 (.lst xs3)) p4 (.lst xs4)) p5 (.lst ((refs as).take r ++ refs mids ++ (refs as).drop (r + 1)))) (as.take r ++ mids ++ as.drop (r + 1)) (ps.take r ++ mps ++ ps.drop (r + 1)) := by
  have s := ((same_new (o := .lst (refs mids)) n2).trans (same_new (o := .lst xs3) n3)).trans ((same_new (o := .lst xs4) n4).trans (same_new (o := .lst ((refs as).take r ++ refs mids ++ (refs as).drop (r + 1))) n5))
  refine ⟨s, ?_, PsAt.same (paired_app (paired_app (paired_take hps r) hmid) (paired_drop hps (r + 1))) s⟩
  rw [upd_same, refs_cut]
section
variable {P : Program} {w : World} {K : PySem.W.Frag} {mg : Str → Option Value} {base : Heap} {C : Addr} {k : Nat}
def spVaried : Sp := fun vs H Q _ => ∃ (g l : Addr) (m L B c : Nat) (u : List Nat) (as : List Addr) (ps : List Piece), vs = [.ref g, .int (m : Int), .str (S u), .ref l] ∧ m ≤ 3 ∧ Az u ∧ u.length = 3 ∧ H l = some (.lst (refs as)) ∧ PsAt H as ps ∧ ps.length ≤ 100 ∧ (∀ p ∈ ps, LP m L B p) ∧ L ≤ 100 ∧ 0 < L ∧
  GenAt H g c ∧ c ≤ 6000000 ∧
  ∀ l' as' ps' H', H' l' = some (.lst (refs as')) → PsAt H' as' ps' → ps'.length ≤ ps.length + 1 → (∀ p ∈ ps', LP m (L + 1) (B + 1) p) → But g H H' → GenAt H' g (c + 20) → Q (.ref l') H'
theorem ok_varied {f : Addr} {fd : FuncData} (F : Fun K "_law_varied" "_law_varied" st__law_varied f fd) (T : Txt K mg C) (c__law_random : C8.Cal P w K mg base 2 "_law_random" spRandom [])
    (c__law_form : C8.Cal P w K mg base 3 "_law_form" spForm []) (c__law_plain : C8.Cal P w K mg base 1 "_law_plain" spPlain []) : FnOk P w K mg base CX0 4 f fd ["_law_generator_here", "_law_many", "_law_signs", "_law_pieces"] spVaried := by
  refine F.ok sc__law_varied (fun vs H Q E h => ?_) (fun cdv A outer s H vs Q E hr h => ?_)
  · obtain ⟨g, l, m, L, B, c, u, as, ps, rfl, _⟩ := h
    rfl
  · obtain ⟨g, l, m, L, B, c, u, as, ps, rfl, hm, ua, ul, hl, hp, hpl, hlp, hL, hL0, hg, hc, q⟩ := h
    have hlen := hp.len
    refine ⟨_, (pss_cons (ps_if (pt_cmpR (op_eqD hr.units) (pv 3) (pe_lst pa_nil) (nomark _))
        (pss_one (ps_ret (pe_lst (pa_cons (pe_tup (pa_cons (pe_slice sl_Sto (pv 2) po_none (po_some pe_int)) (pa_cons (C8.pe_c c__law_form hr (by decide) (by rfl) (pa_cons (pv 0) (pa_cons (pv 1) (pa_cons pe_int pa_nil)))) pa_nil))) pa_nil))))
        pss_nil)
      (pss_cons (ps_par (i := 4) (j := 5) (by rfl) sc__law_varied.nd rfl rfl (by decide) rfl rfl (pa_cons (C8.pe_c c__law_random hr (by decide) (by rfl) (pa_cons (pv 0) (pa_cons pe_int pa_nil))) (pa_cons (C8.pe_c c__law_random hr (by decide) (by rfl) (pa_cons (pv 0) (pa_cons (pe_callB call_len_seq (by rfl) T.len (by decide +kernel) (pa_cons (pv 3) pa_nil)) pa_nil))) pa_nil)) (by rfl))
      (pss_cons (ps_asg (pe_ix ix_list (pv 3) (pv 5) (fun _ _ => rfl)) (pg_tup (by rfl) (pgs_cons (pg_name (i := 6) sc__law_varied.nd rfl (by first | exact Or.inl rfl | exact Or.inr rfl)) (pgs_cons (pg_name (i := 7) sc__law_varied.nd rfl (by first | exact Or.inl rfl | exact Or.inr rfl)) pgs_nil))))
      (pss_cons (ps_if (pt_cmpR op_eq (pv 4) pe_int (nomark _))
        (pss_one (ps_ret (pe_op op_cat (pe_op op_cat (pe_slice sl_Lto (pv 3) po_none (po_some (pv 5))) (pe_lst (pa_cons (pe_tup (pa_cons (pv 6) (pa_cons (pe_op op_catU (pe_slice sl_Tto (pv 7) po_none (po_some pe_int)) (pe_backT (pe_slice sl_Tfrom (pv 7) (po_some pe_int) po_none))) pa_nil))) pa_nil))) (pe_slice sl_Lfrom (pv 3) (po_some (pe_op op_add (pv 5) pe_int)) po_none))))
        pss_nil)
      (pss_cons (ps_if (pt_cmpR op_eq (pv 4) pe_int (nomark _))
        (pss_one (ps_ret (pe_op op_cat (pe_op op_cat (pe_slice sl_Lto (pv 3) po_none (po_some (pv 5))) (pe_lst (pa_cons (pe_tup (pa_cons (pv 6) (pa_cons (pe_callTy call_tupU (by rfl) T.tuple (by decide +kernel) (pa_cons (pe_lc (own := [("_law_number", 9)]) (by rfl) sc__law_varied.nd (pi_tup (pv 7)) (blkOk_by (own := [("_law_number", 9)]) (N := N__law_varied) (sc := defScope st__law_varied) (by decide +kernel)) (fun _ _ _ _ _ => (pg_name (i := 9) sc__law_varied.nd rfl (by first | exact Or.inl rfl | exact Or.inr rfl))) (fun _ _ _ _ _ => pts_nil) (fun _ _ _ _ _ => (pe_callB (call_max2 rfl) (by rfl) T.max (by decide +kernel) (pa_cons pe_int (pa_cons (pe_op op_sub (pv 9) pe_int) pa_nil))))) pa_nil)) pa_nil))) pa_nil))) (pe_slice sl_Lfrom (pv 3) (po_some (pe_op op_add (pv 5) pe_int)) po_none))))
        pss_nil)
      (pss_cons (ps_if (pt_cmpR op_eq (pv 4) pe_int (nomark _))
        (pss_one (ps_ret (pe_op op_cat (pe_op op_cat (pe_slice sl_Lto (pv 3) po_none (po_some (pv 5))) (pe_lst (pa_cons (pe_tup (pa_cons (pe_op op_catS (pe_slice sl_Sfrom (pv 6) (po_some pe_int) po_none) (pe_slice sl_Sto (pv 6) po_none (po_some pe_int))) (pa_cons (pv 7) pa_nil))) pa_nil))) (pe_slice sl_Lfrom (pv 3) (po_some (pe_op op_add (pv 5) pe_int)) po_none))))
        pss_nil)
      (pss_cons (ps_if (pt_cmpR op_eq (pv 4) pe_int (nomark _))
        (pss_one (ps_ret (pe_op op_cat (pe_op op_cat (pe_slice sl_Lto (pv 3) po_none (po_some (pv 5))) (pe_slice sl_Lfrom (pv 3) (po_some (pe_op op_add (pv 5) pe_int)) po_none)) (pe_lst (pa_cons (pe_ix ix_list (pv 3) (pv 5) (fun _ _ => rfl)) pa_nil)))))
        pss_nil)
      (pss_cons (ps_if (pt_cmpR op_eq (pv 4) pe_int (nomark _))
        (pss_one (ps_ret (pe_op op_cat (pe_op op_cat (pe_slice sl_Lto (pv 3) po_none (po_some (pv 5))) (pe_lst (pa_cons (pe_tup (pa_cons (pv 6) (pa_cons (pe_op op_catU (pe_tup (pa_cons (pe_ix ix_T (pv 7) pe_int (fun _ _ => rfl)) pa_nil)) (pe_slice sl_Tfrom (C8.pe_c c__law_plain hr (by decide) (by rfl) (pa_cons (pv 1) (pa_cons pe_int pa_nil))) (po_some pe_int) po_none)) pa_nil))) (pa_cons (pe_tup (pa_cons (pv 6) (pa_cons (pe_op op_catU (pe_tup (pa_cons pe_int pa_nil)) (pe_slice sl_Tfrom (pv 7) (po_some pe_int) po_none)) pa_nil))) pa_nil)))) (pe_slice sl_Lfrom (pv 3) (po_some (pe_op op_add (pv 5) pe_int)) po_none))))
        pss_nil)
      (pss_cons (ps_if (pt_cmpR op_eq (pv 4) pe_int (nomark _))
        (pss_one (ps_ret (pe_revL (pv 3))))
        pss_nil)
      (pss_cons (ps_if (pt_cmpR op_eq (pv 4) pe_int (nomark _))
        (pss_cons (ps_set (i := 8) sc__law_varied.nd rfl (by first | exact Or.inl rfl | exact Or.inr rfl) (C8.pe_c c__law_random hr (by decide) (by rfl) (pa_cons (pv 0) (pa_cons (pe_op op_add (pv 1) pe_int) pa_nil))))
        (pss_one (ps_ret (pe_op op_cat (pe_op op_cat (pe_slice sl_Lto (pv 3) po_none (po_some (pv 5))) (pe_lst (pa_cons (pe_tup (pa_cons (pv 6) (pa_cons (pe_op op_catU (pe_op op_catU (pe_slice sl_Tto (pv 7) po_none (po_some (pv 8))) (pe_tup (pa_cons (pe_op op_add (pe_ix ix_T (pv 7) (pv 8) (fun _ _ => rfl)) pe_int) pa_nil))) (pe_slice sl_Tfrom (pv 7) (po_some (pe_op op_add (pv 8) pe_int)) po_none)) pa_nil))) pa_nil))) (pe_slice sl_Lfrom (pv 3) (po_some (pe_op op_add (pv 5) pe_int)) po_none)))))
        pss_nil)
      (pss_one (ps_ret (pe_op op_cat (pe_op op_cat (pe_slice sl_Lto (pv 3) po_none (po_some (pv 5))) (pe_lst (pa_cons (pe_tup (pa_cons (pe_op op_catS (pv 6) (pe_slice sl_Sto (pv 2) po_none (po_some pe_int))) (pa_cons (pv 7) pa_nil))) pa_nil))) (pe_slice sl_Lfrom (pv 3) (po_some (pe_op op_add (pv 5) pe_int)) po_none)))))))))))))), ?_⟩
    refine ⟨_, rfl, Nat.zero_le _, fun e0 ne0 => ?_⟩
    have se := same_new (o := .lst []) ne0
    refine ⟨.list (ps.map dP), .list [], .lst (SqL.of (se _ _ hl)) (hp.same se).dp, .lst (SqL.of upd_same) .nil, sh_list (fun p h => (hlp p h).1), sh_nil, ?_⟩
    rw [eqv_nil]
    by_cases hne : ps = []
    · subst hne
      refine ⟨true, rfl, iteT ?_⟩
      refine ⟨_, rfl, 1, rfl, u, 1, rfl, rfl, rfl, sz (by omega), _, rfl, _, rfl, g, m, 1, c, rfl, hm, by decide, hg.same se, by omega, fun p f2 H3 e3 fl fb b3 g3 => ⟨sz (by show 2 ≤ 1000000; decide), fun a na => ⟨sz (by show 1 ≤ 1000000; decide), fun l' nl' => ?_⟩⟩⟩
      have s4 := (same_new (o := .tup [.str (S (u.take 1)), .ref p]) na).trans (same_new (o := .lst [V.ref a]) nl')
      refine q l' [a] [(u.take 1, f2)] _ upd_same (.cons ⟨p, (same_new nl') _ _ upd_same, e3.same s4⟩ .nil) (by simp) (fun p' hp' => ?_) (((But.of se).trans b3).trans (But.of s4)) ((g3.same s4).mono (by omega))
      rw [List.mem_singleton.mp hp']
      refine ⟨take_az ua 1, ?_, fl, fun n hn => Nat.le_trans (fb n hn) (by omega)⟩
      show (u.take 1).length ≤ L + 1
      rw [List.length_take]
      omega
    have hp0 : 0 < ps.length := List.length_pos_iff.mpr hne
    refine ⟨false, by cases ps with | nil => exact absurd rfl hne | cons a r => rfl, iteF ?_⟩
    refine ⟨_, rfl, g, 8, c, rfl, by decide, by decide, hg.same se, by omega, fun r1 H1 hr1 b1 g1 => ?_⟩
    have b01 := (But.of se).trans b1
    have nlg := hg.other hl
    have hl1 := b01 l _ nlg hl
    refine ⟨_, rfl, _, rfl, l, _, rfl, .inl (SqL.of hl1), g, ps.length, c + 1, ?_, hp0, by omega, g1, by omega, fun r H2 hr b2 g2 => ⟨_, _, rfl, ?_⟩⟩
    · rw [List.length_map, hlen]
      rfl
    have b02 := b01.trans b2
    have hl2 := b02 l _ nlg hl
    have hp2 := hp.gen b02 hg
    obtain ⟨ai, hai⟩ : ∃ ai, as[r]? = some ai := ⟨_, List.getElem?_eq_getElem (by omega)⟩
    obtain ⟨pi, hpi, hpa⟩ := paired_at hp2 hai
    obtain ⟨fb, h1, h2⟩ := id hpa
    obtain ⟨va, vl, fl, fbd⟩ := hlp pi (at_mem hpi)
    have lpi := hlp pi (at_mem hpi)
    have hup : ∀ p' ∈ ps, LP m (L + 1) (B + 1) p' := fun p' h => (hlp p' h).mono (Nat.le_succ L) (Nat.le_succ B)
    -- what is left when the middle list is there
    have fin : ∀ {Hm : Hp} {p1 p2 p3 p4 p5 : Addr} {mids : List Addr} {mps : List Piece} {cm : Nat} {xs3 xs4 : List V}, But g H2 Hm → GenAt Hm g cm → cm ≤ c + 20 → PsAt Hm mids mps → mps.length ≤ 2 → (∀ p' ∈ mps, LP m (L + 1) (B + 1) p') → Hm p2 = none →
        upd Hm p2 (.lst (refs mids)) p3 = none → upd (upd Hm p2 (.lst (refs mids))) p3 (.lst xs3) p4 = none → upd (upd (upd Hm p2 (.lst (refs mids))) p3 (.lst xs3)) p4 (.lst xs4) p5 = none →
        Q (.ref p5) (upd (upd (upd (upd Hm p2 (.lst (refs mids))) p3 (.lst xs3)) p4 (.lst xs4)) p5 (.lst ((refs as).take r ++ refs mids ++ (refs as).drop (r + 1)))) := fun {Hm p1 p2 p3 p4 p5 mids mps cm xs3 xs4} bm gm hcm hmid hml hmlp n2 n3 n4 n5 => by
      obtain ⟨s, e5, h5⟩ := cat_fin (r := r) (hp2.gen bm g2) hmid n2 n3 n4 n5
      refine q p5 _ _ _ e5 h5 ?_ (fun p' hp' => ?_) ((b02.trans bm).trans (But.of s)) ((gm.same s).mono hcm)
      · rw [List.length_append, List.length_append, List.length_take, List.length_drop]
        omega
      · rcases List.mem_append.mp hp' with e | e
        · rcases List.mem_append.mp e with e | e
          · exact hup p' (List.mem_of_mem_take e)
          · exact hmlp p' e
        · exact hup p' (List.mem_of_mem_drop e)
    have one : ∀ {p' : Piece}, LP m (L + 1) (B + 1) p' → ∀ p'' ∈ [p'], LP m (L + 1) (B + 1) p'' := fun {p'} h p'' h' => by
      rw [List.mem_singleton.mp h']
      exact h
    obtain ⟨v, f⟩ := pi
    simp only at va vl fl fbd
    cases f with
    | nil => simp at fl
    | cons n t =>
    have htl : t.length = m := by simpa using fl
    have hsz : ∀ {mids : List Addr} (i : Nat), mids.length ≤ 2 → ((refs as).take i).length + (refs mids).length ≤ sizeLine := fun {mids} i h => by
      rw [List.length_take, List.length_map, List.length_map]
      exact sz (by omega)
    have hsz2 : ∀ {mids : List Addr} (i j : Nat), mids.length ≤ 2 → ((refs as).take i ++ refs mids).length + ((refs as).drop j).length ≤ sizeLine := fun {mids} i j h => by
      rw [List.length_append, List.length_take, List.length_drop, List.length_map, List.length_map]
      exact sz (by omega)
    refine ⟨_, rfl, _, rfl, l, _, _, V.ref ai, rfl, rfl, SqL.of hl2, at_of (j := r) rfl (by rw [List.getElem?_map, hai]; rfl), ?_⟩
    refine ⟨ai, _, rfl, SqT.of h1, rfl, _, _, rfl, _, _, rfl, rfl, ?_⟩
    by_cases w0 : (r1 : Int) = 0
    · refine ⟨_, rfl, rfl, true, int_eq w0, iteT ?_⟩
      refine ⟨_, rfl, _, rfl, _, rfl, l, _, r, rfl, rfl, rfl, SqL.of hl2, fun p1 n1 => ?_⟩
      have s1 := same_new (o := .lst ((refs as).take r)) n1
      refine ⟨_, rfl, _, rfl, 1, rfl, fb, _, 1, rfl, rfl, rfl, s1 _ _ h2, fun z1 H3 s3 e3 => ?_⟩
      refine ⟨_, rfl, 1, rfl, fb, _, 1, rfl, rfl, rfl, s3 _ _ (s1 _ _ h2), fun z2 H4 s4 e4 => ⟨z2, _, rfl, e4, fun z3 H5 s5 e5 => ?_⟩⟩
      refine ⟨z1, z3, _, _, rfl, rfl, s5 _ _ (s4 _ _ e3), e5, ?_, fun z4 H6 s6 e6 => ⟨sz (by show 2 ≤ 1000000; decide), fun a na => ⟨sz (by show 1 ≤ 1000000; decide), fun p2 n2 => ?_⟩⟩⟩
      · show 1 + ((tF t).reverse).length ≤ sizeLine
        rw [List.length_reverse, List.length_map]
        exact sz (by omega)
      · have e6' : FormAt H6 z4 (n :: t.reverse) := by
          unfold FormAt
          rw [e6]
          show some (HO.tup (V.int (n : Int) :: (tF t).reverse)) = some (HO.tup (V.int (n : Int) :: tF t.reverse))
          rw [tF_rev]
        have sm := ((s1.trans s3).trans (s4.trans s5)).trans (s6.trans (same_new (o := .tup [.str (S v), .ref z4]) na))
        have sm1 := (s3.trans (s4.trans s5)).trans (s6.trans (same_new (o := .tup [.str (S v), .ref z4]) na))
        refine ⟨p1, p2, _, _, rfl, rfl, (same_new n2) _ _ (sm1 _ _ upd_same), upd_same, hsz (mids := [a]) r (by simp), fun p3 n3 => ?_⟩
        refine ⟨_, rfl, _, rfl, _, _, rfl, rfl, _, rfl, l, _, r + 1, rfl, rfl, rfl, SqL.of ((same_new n3) _ _ ((same_new n2) _ _ (sm _ _ hl2))), fun p4 n4 => ?_⟩
        refine ⟨p3, p4, _, _, rfl, rfl, (same_new n4) _ _ upd_same, upd_same, hsz2 (mids := [a]) r (r + 1) (by simp), fun p5 n5 => ?_⟩
        exact fin (p1 := p1) (mids := [a]) (mps := [(v, n :: t.reverse)]) (But.of sm) (g2.same sm) (by omega) (.cons ⟨z4, upd_same, e6'.same (same_new na)⟩ .nil) (by simp)
          (one ⟨va, Nat.le_succ_of_le vl, by simp [htl], fun n' hn => Nat.le_succ_of_le (fbd n' (by simpa using hn))⟩) n2 n3 n4 n5
    refine ⟨_, rfl, rfl, false, int_ne w0, iteF ?_⟩
    by_cases w1 : (r1 : Int) = 1
    · refine ⟨_, rfl, rfl, true, int_eq w1, iteT ?_⟩
      refine ⟨_, rfl, _, rfl, _, rfl, l, _, r, rfl, rfl, rfl, SqL.of hl2, fun p1 n1 => ?_⟩
      have s1 := same_new (o := .lst ((refs as).take r)) n1
      refine ⟨_, rfl, _, rfl, fb, rfl, ⟨_, SqT.of (s1 _ _ h2)⟩, fun D nD => ?_⟩
      refine lc_it (walk_tup (K := K) (a := fb) (xs := tF (n :: t))) (Grow D (upd H2 p1 (.lst ((refs as).take r))) (tF ((n :: t).map (· - 1)))) grow0 (fun i H' _ g' => SqT.of (g'.tup nD (s1 _ _ h2))) (fun i x H3 H4 hi g' y => ?_) (fun H3 g' => ?_)
      · obtain ⟨rfl, e1⟩ := y
        obtain ⟨n1, hn1, rfl⟩ := map_at e1
        refine ⟨rfl, _, rfl, _, _, rfl, rfl, _, _, rfl, grow1 g' (Same.refl _) ?_ (by rw [List.length_map, List.length_map]; simp; omega)⟩
        rw [List.getElem?_map, List.getElem?_map, hn1]
        show some (V.int ((n1 - 1 : Nat) : Int)) = some (V.int (if (n1 : Int) - 1 > 0 then (n1 : Int) - 1 else 0))
        congr 2
        split <;> omega
      · have hn : (tF (n :: t)).length = (tF ((n :: t).map (· - 1))).length := by rw [List.length_map, List.length_map, List.length_map]
        rw [hn] at g'
        obtain ⟨s3, e3⟩ := g'.all nD
        refine ⟨D, _, rfl, SqL.of e3, fun z4 H6 s6 e6 => ⟨sz (by show 2 ≤ 1000000; decide), fun a na => ⟨sz (by show 1 ≤ 1000000; decide), fun p2 n2 => ?_⟩⟩⟩
        have e6' : FormAt H6 z4 ((n :: t).map (· - 1)) := e6
        have sm1 := s3.trans (s6.trans (same_new (o := .tup [.str (S v), .ref z4]) na))
        have sm := s1.trans sm1
        refine ⟨p1, p2, _, _, rfl, rfl, (same_new n2) _ _ (sm1 _ _ upd_same), upd_same, hsz (mids := [a]) r (by simp), fun p3 n3 => ?_⟩
        refine ⟨_, rfl, _, rfl, _, _, rfl, rfl, _, rfl, l, _, r + 1, rfl, rfl, rfl, SqL.of ((same_new n3) _ _ ((same_new n2) _ _ (sm _ _ hl2))), fun p4 n4 => ?_⟩
        refine ⟨p3, p4, _, _, rfl, rfl, (same_new n4) _ _ upd_same, upd_same, hsz2 (mids := [a]) r (r + 1) (by simp), fun p5 n5 => ?_⟩
        refine fin (p1 := p1) (mids := [a]) (mps := [(v, (n :: t).map (· - 1))]) (But.of sm) (g2.same sm) (by omega) (.cons ⟨z4, upd_same, e6'.same (same_new na)⟩ .nil) (by simp)
          (one ⟨va, Nat.le_succ_of_le vl, by simp [htl], fun n' hn => ?_⟩) n2 n3 n4 n5
        obtain ⟨n2', h3, rfl⟩ := List.mem_map.mp hn
        have := fbd n2' h3
        show n2' - 1 ≤ B + 1
        omega
    refine ⟨_, rfl, rfl, false, int_ne w1, iteF ?_⟩
    by_cases w2 : (r1 : Int) = 2
    · refine ⟨_, rfl, rfl, true, int_eq w2, iteT ?_⟩
      refine ⟨_, rfl, _, rfl, _, rfl, l, _, r, rfl, rfl, rfl, SqL.of hl2, fun p1 n1 => ?_⟩
      have s1 := same_new (o := .lst ((refs as).take r)) n1
      have hcut : (v.drop 1).length + (v.take 1).length ≤ 1000 := by
        rw [List.length_drop, List.length_take]
        omega
      refine ⟨_, rfl, 1, rfl, v, 1, rfl, rfl, rfl, sz (by omega), _, rfl, 1, rfl, v, 1, rfl, rfl, rfl, sz (by omega), v.drop 1, v.take 1, rfl, rfl, sz (by omega), _, rfl, sz (by show 2 ≤ 1000000; decide), fun a na => ⟨sz (by show 1 ≤ 1000000; decide), fun p2 n2 => ?_⟩⟩
      have sm1 := same_new (o := .tup [.str (S (v.drop 1 ++ v.take 1)), .ref fb]) na
      have sm := s1.trans sm1
      refine ⟨p1, p2, _, _, rfl, rfl, (same_new n2) _ _ (sm1 _ _ upd_same), upd_same, hsz (mids := [a]) r (by simp), fun p3 n3 => ?_⟩
      refine ⟨_, rfl, _, rfl, _, _, rfl, rfl, _, rfl, l, _, r + 1, rfl, rfl, rfl, SqL.of ((same_new n3) _ _ ((same_new n2) _ _ (sm _ _ hl2))), fun p4 n4 => ?_⟩
      refine ⟨p3, p4, _, _, rfl, rfl, (same_new n4) _ _ upd_same, upd_same, hsz2 (mids := [a]) r (r + 1) (by simp), fun p5 n5 => ?_⟩
      refine fin (p1 := p1) (mids := [a]) (mps := [(v.drop 1 ++ v.take 1, n :: t)]) (But.of sm) (g2.same sm) (by omega) (.cons ⟨fb, upd_same, FormAt.same h2 sm⟩ .nil) (by simp)
        (one ⟨az_app (drop_az va 1) (take_az va 1), ?_, fl, fun n' hn => Nat.le_succ_of_le (fbd n' hn)⟩) n2 n3 n4 n5
      show (v.drop 1 ++ v.take 1).length ≤ L + 1
      rw [List.length_append, List.length_drop, List.length_take]
      omega
    refine ⟨_, rfl, rfl, false, int_ne w2, iteF ?_⟩
    by_cases w3 : (r1 : Int) = 3
    · refine ⟨_, rfl, rfl, true, int_eq w3, iteT ?_⟩
      refine ⟨_, rfl, _, rfl, _, rfl, l, _, r, rfl, rfl, rfl, SqL.of hl2, fun p1 n1 => ?_⟩
      have s1 := same_new (o := .lst ((refs as).take r)) n1
      refine ⟨_, rfl, _, rfl, _, _, rfl, rfl, _, rfl, l, _, r + 1, rfl, rfl, rfl, SqL.of (s1 _ _ hl2), fun p2 n2 => ?_⟩
      have s2 := same_new (o := .lst ((refs as).drop (r + 1))) n2
      refine ⟨p1, p2, _, _, rfl, rfl, s2 _ _ upd_same, upd_same, ?_, fun p3 n3 => ?_⟩
      · rw [List.length_take, List.length_drop, List.length_map]
        exact sz (by omega)
      have s3 := same_new (o := .lst ((refs as).take r ++ (refs as).drop (r + 1))) n3
      refine ⟨_, rfl, _, rfl, l, _, _, V.ref ai, rfl, rfl, SqL.of (s3 _ _ (s2 _ _ (s1 _ _ hl2))), at_of (j := r) rfl (by rw [List.getElem?_map, hai]; rfl), ?_⟩
      refine ⟨sz (by show 1 ≤ 1000000; decide), fun p4 n4 => ?_⟩
      have s4 := same_new (o := .lst [V.ref ai]) n4
      refine ⟨p3, p4, _, _, rfl, rfl, s4 _ _ upd_same, upd_same, ?_, fun p5 n5 => ?_⟩
      · rw [List.length_append, List.length_take, List.length_drop, List.length_map]
        exact sz (by show _ + 1 ≤ 1000000; omega)
      have s5 := same_new (o := .lst ((refs as).take r ++ (refs as).drop (r + 1) ++ [V.ref ai])) n5
      have sm := ((s1.trans s2).trans (s3.trans s4)).trans s5
      have hp5 := hp2.same sm
      refine q p5 (as.take r ++ as.drop (r + 1) ++ [ai]) (ps.take r ++ ps.drop (r + 1) ++ [(v, n :: t)]) _ ?_ (paired_app (paired_app (paired_take hp5 r) (paired_drop hp5 (r + 1))) (.cons (hpa.same sm) .nil)) ?_ (fun p' hp' => ?_) (b02.trans (But.of sm)) ((g2.same sm).mono (by omega))
      · rw [upd_same, refs_app, refs_app]
        unfold refs
        rw [List.map_take, List.map_drop]
        rfl
      · rw [List.length_append, List.length_append, List.length_take, List.length_drop, List.length_singleton]
        omega
      · rcases List.mem_append.mp hp' with e | e
        · rcases List.mem_append.mp e with e | e
          · exact hup p' (List.mem_of_mem_take e)
          · exact hup p' (List.mem_of_mem_drop e)
        · rw [List.mem_singleton.mp e]
          exact hup _ (at_mem hpi)
    refine ⟨_, rfl, rfl, false, int_ne w3, iteF ?_⟩
    by_cases w4 : (r1 : Int) = 4
    · refine ⟨_, rfl, rfl, true, int_eq w4, iteT ?_⟩
      refine ⟨_, rfl, _, rfl, _, rfl, l, _, r, rfl, rfl, rfl, SqL.of hl2, fun p1 n1 => ?_⟩
      have s1 := same_new (o := .lst ((refs as).take r)) n1
      have h21 := s1 _ _ h2
      refine ⟨_, rfl, _, rfl, fb, _, 0, iV n, rfl, rfl, h21, at_of (j := 0) rfl rfl, sz (by show 1 ≤ 1000000; decide), fun z1 nz1 => ?_⟩
      have s2 := same_new (o := .tup [iV n]) nz1
      refine ⟨_, rfl, m, 0, rfl, by omega, fun z2 H4 s4 e4 => ⟨1, rfl, z2, _, 1, rfl, rfl, rfl, e4, fun z3 H5 s5 e5 => ?_⟩⟩
      refine ⟨z1, z3, _, _, rfl, rfl, s5 _ _ (s4 _ _ upd_same), e5, ?_, fun z4 H6 s6 e6 => ⟨sz (by show 2 ≤ 1000000; decide), fun a na => ?_⟩⟩
      · show 1 + (tF (List.replicate m 0)).length ≤ sizeLine
        rw [List.length_map, List.length_replicate]
        exact sz (by omega)
      have e6' : FormAt H6 z4 (n :: List.replicate m 0) := e6
      have sa := same_new (o := .tup [.str (S v), .ref z4]) na
      have s16 := (s2.trans s4).trans ((s5.trans s6).trans sa)
      refine ⟨_, rfl, sz (by show 1 ≤ 1000000; decide), fun z5 nz5 => ?_⟩
      have s7 := same_new (o := .tup [V.int 0]) nz5
      refine ⟨_, rfl, 1, rfl, fb, _, 1, rfl, rfl, rfl, s7 _ _ (s16 _ _ h21), fun z6 H8 s8 e8 => ?_⟩
      refine ⟨z5, z6, _, _, rfl, rfl, s8 _ _ upd_same, e8, ?_, fun z7 H9 s9 e9 => ⟨sz (by show 2 ≤ 1000000; decide), fun a2 na2 => ⟨sz (by show 2 ≤ 1000000; decide), fun p2 n2 => ?_⟩⟩⟩
      · show 1 + (tF t).length ≤ sizeLine
        rw [List.length_map]
        exact sz (by omega)
      have e9' : FormAt H9 z7 (0 :: t) := e9
      have sa2 := same_new (o := .tup [.str (S v), .ref z7]) na2
      have s79 := (s7.trans s8).trans (s9.trans sa2)
      have sm1 := s16.trans s79
      have sm := s1.trans sm1
      refine ⟨p1, p2, _, _, rfl, rfl, (same_new n2) _ _ (sm1 _ _ upd_same), upd_same, hsz (mids := [a, a2]) r (by simp), fun p3 n3 => ?_⟩
      refine ⟨_, rfl, _, rfl, _, _, rfl, rfl, _, rfl, l, _, r + 1, rfl, rfl, rfl, SqL.of ((same_new n3) _ _ ((same_new n2) _ _ (sm _ _ hl2))), fun p4 n4 => ?_⟩
      refine ⟨p3, p4, _, _, rfl, rfl, (same_new n4) _ _ upd_same, upd_same, hsz2 (mids := [a, a2]) r (r + 1) (by simp), fun p5 n5 => ?_⟩
      refine fin (p1 := p1) (mids := [a, a2]) (mps := [(v, n :: List.replicate m 0), (v, 0 :: t)]) (But.of sm) (g2.same sm) (by omega)
        (.cons ⟨z4, s79 _ _ upd_same, e6'.same (sa.trans s79)⟩ (.cons ⟨z7, upd_same, e9'.same sa2⟩ .nil)) (by simp) (fun p' hp' => ?_) n2 n3 n4 n5
      rcases List.mem_cons.mp hp' with e | e
      · rw [e]
        refine ⟨va, Nat.le_succ_of_le vl, by simp, fun n' hn => ?_⟩
        rcases List.mem_cons.mp hn with e | e
        · rw [e]
          exact Nat.le_succ_of_le (fbd n (by simp))
        · rw [le_one_of_rep e]
          exact Nat.zero_le _
      · rw [List.mem_singleton.mp e]
        refine ⟨va, Nat.le_succ_of_le vl, by simp [htl], fun n' hn => ?_⟩
        rcases List.mem_cons.mp hn with e | e
        · rw [e]
          exact Nat.zero_le _
        · exact Nat.le_succ_of_le (fbd n' (by simp [e]))
    refine ⟨_, rfl, rfl, false, int_ne w4, iteF ?_⟩
    by_cases w5 : (r1 : Int) = 5
    · refine ⟨_, rfl, rfl, true, int_eq w5, iteT ?_⟩
      refine ⟨_, rfl, l, _, rfl, SqL.of hl2, fun p1 n1 => ?_⟩
      have s1 := same_new (o := .lst (refs as).reverse) n1
      refine q p1 as.reverse ps.reverse _ ?_ (paired_rev (hp2.same s1)) ?_ (fun p' hp' => hup p' (List.mem_reverse.mp hp')) (b02.trans (But.of s1)) ((g2.same s1).mono (by omega))
      · rw [upd_same]
        unfold refs
        rw [List.map_reverse]
      · rw [List.length_reverse]
        omega
    refine ⟨_, rfl, rfl, false, int_ne w5, iteF ?_⟩
    by_cases w6 : (r1 : Int) = 6
    · refine ⟨_, rfl, rfl, true, int_eq w6, iteT ?_⟩
      refine ⟨_, rfl, _, rfl, _, _, rfl, rfl, g, m + 1, c + 1 + 1, rfl, by omega, by omega, g2, by omega, fun r3 H3 hr3 b3 g3 => ?_⟩
      have hl3 := b3 l _ nlg hl2
      have h23 := FormAt.gen h2 b3 g2
      obtain ⟨x, hx⟩ : ∃ x, (n :: t)[r3]? = some x := ⟨_, List.getElem?_eq_getElem (by rw [List.length_cons, htl]; exact hr3)⟩
      refine ⟨_, rfl, _, rfl, _, rfl, l, _, r, rfl, rfl, rfl, SqL.of hl3, fun p1 n1 => ?_⟩
      have s1 := same_new (o := .lst ((refs as).take r)) n1
      have h24 := s1 _ _ h23
      refine ⟨_, rfl, _, rfl, _, rfl, _, rfl, fb, _, r3, rfl, rfl, rfl, h24, fun z1 H4 s4 e4 => ?_⟩
      refine ⟨_, rfl, _, rfl, fb, _, _, iV x, rfl, rfl, s4 _ _ h24, at_of (j := r3) rfl (by rw [List.getElem?_map, hx]; rfl), _, _, rfl, rfl, sz (by show 1 ≤ 1000000; decide), fun z2 nz2 => ?_⟩
      have s5 := same_new (o := .tup [V.int ((x : Int) + 1)]) nz2
      refine ⟨z1, z2, _, _, rfl, rfl, s5 _ _ e4, upd_same, ?_, fun z3 H6 s6 e6 => ?_⟩
      · rw [List.length_take, List.length_map]
        exact sz (by simp; omega)
      refine ⟨_, rfl, _, rfl, _, _, rfl, rfl, _, rfl, fb, _, r3 + 1, rfl, rfl, rfl, s6 _ _ (s5 _ _ (s4 _ _ h24)), fun z4 H7 s7 e7 => ?_⟩
      refine ⟨z3, z4, _, _, rfl, rfl, s7 _ _ e6, e7, ?_, fun z5 H8 s8 e8 => ⟨sz (by show 2 ≤ 1000000; decide), fun a na => ⟨sz (by show 1 ≤ 1000000; decide), fun p2 n2 => ?_⟩⟩⟩
      · rw [List.length_append, List.length_take, List.length_drop, List.length_map]
        exact sz (by simp; omega)
      have e8' : FormAt H8 z5 ((n :: t).take r3 ++ [x + 1] ++ (n :: t).drop (r3 + 1)) := by
        unfold FormAt
        rw [e8, tF_take, tF_drop, ← tF_app, ← tF_app]
        rfl
      have sa := same_new (o := .tup [.str (S v), .ref z5]) na
      have sm1 := ((s4.trans s5).trans (s6.trans s7)).trans (s8.trans sa)
      have sm := s1.trans sm1
      refine ⟨p1, p2, _, _, rfl, rfl, (same_new n2) _ _ (sm1 _ _ upd_same), upd_same, hsz (mids := [a]) r (by simp), fun p3 n3 => ?_⟩
      refine ⟨_, rfl, _, rfl, _, _, rfl, rfl, _, rfl, l, _, r + 1, rfl, rfl, rfl, SqL.of ((same_new n3) _ _ ((same_new n2) _ _ (sm _ _ hl3))), fun p4 n4 => ?_⟩
      refine ⟨p3, p4, _, _, rfl, rfl, (same_new n4) _ _ upd_same, upd_same, hsz2 (mids := [a]) r (r + 1) (by simp), fun p5 n5 => ?_⟩
      refine fin (p1 := p1) (mids := [a]) (mps := [(v, (n :: t).take r3 ++ [x + 1] ++ (n :: t).drop (r3 + 1))]) (b3.trans (But.of sm)) (g3.same sm) (by omega) (.cons ⟨z5, upd_same, e8'.same sa⟩ .nil) (by simp)
        (one ⟨va, Nat.le_succ_of_le vl, ?_, fun n' hn => ?_⟩) n2 n3 n4 n5
      · show ((n :: t).take r3 ++ [x + 1] ++ (n :: t).drop (r3 + 1)).length = m + 1
        rw [List.length_append, List.length_append, List.length_take, List.length_drop, List.length_cons, htl, List.length_singleton]
        omega
      · rcases List.mem_append.mp hn with e | e
        · rcases List.mem_append.mp e with e | e
          · exact Nat.le_succ_of_le (fbd n' (List.mem_of_mem_take e))
          · rw [List.mem_singleton.mp e]
            exact Nat.succ_le_succ (fbd x (at_mem hx))
        · exact Nat.le_succ_of_le (fbd n' (List.mem_of_mem_drop e))
    refine ⟨_, rfl, rfl, false, int_ne w6, iteF ?_⟩
    refine ⟨_, rfl, _, rfl, _, rfl, l, _, r, rfl, rfl, rfl, SqL.of hl2, fun p1 n1 => ?_⟩
    have s1 := same_new (o := .lst ((refs as).take r)) n1
    have hu1 : (u.take 1).length = 1 := by
      rw [List.length_take]
      omega
    refine ⟨_, rfl, _, rfl, 1, rfl, u, 1, rfl, rfl, rfl, sz (by omega), v, u.take 1, rfl, rfl, sz (by omega), _, rfl, sz (by show 2 ≤ 1000000; decide), fun a na => ⟨sz (by show 1 ≤ 1000000; decide), fun p2 n2 => ?_⟩⟩
    have sm1 := same_new (o := .tup [.str (S (v ++ u.take 1)), .ref fb]) na
    have sm := s1.trans sm1
    refine ⟨p1, p2, _, _, rfl, rfl, (same_new n2) _ _ (sm1 _ _ upd_same), upd_same, hsz (mids := [a]) r (by simp), fun p3 n3 => ?_⟩
    refine ⟨_, rfl, _, rfl, _, _, rfl, rfl, _, rfl, l, _, r + 1, rfl, rfl, rfl, SqL.of ((same_new n3) _ _ ((same_new n2) _ _ (sm _ _ hl2))), fun p4 n4 => ?_⟩
    refine ⟨p3, p4, _, _, rfl, rfl, (same_new n4) _ _ upd_same, upd_same, hsz2 (mids := [a]) r (r + 1) (by simp), fun p5 n5 => ?_⟩
    refine fin (p1 := p1) (mids := [a]) (mps := [(v ++ u.take 1, n :: t)]) (But.of sm) (g2.same sm) (by omega) (.cons ⟨fb, upd_same, FormAt.same h2 sm⟩ .nil) (by simp)
      (one ⟨az_app va (take_az ua 1), ?_, fl, fun n' hn => Nat.le_succ_of_le (fbd n' hn)⟩) n2 n3 n4 n5
    show (v ++ u.take 1).length ≤ L + 1
    rw [List.length_append]
    omega
end
end Cs
end
section
set_option maxRecDepth 100000
set_option maxHeartbeats 8000000
/-! The law's defs, seventh part: a pair of lists of pieces. Printed in part by gen.py out of CsL.src. -/
namespace Cs
open PySem L2 SX
section
variable {P : Program} {w : World} {K : PySem.W.Frag} {mg : Str → Option Value} {base : Heap} {C : Addr} {k : Nat}
def spPair : Sp := fun vs H Q _ => ∃ (g : Addr) (m n mo c : Nat) (u : List Nat), vs = [.ref g, .int (m : Int), .str (S u), .int (n : Int), .int (mo : Int)] ∧ m ≤ 3 ∧ n ≤ 4 ∧ mo ≤ 2 ∧ Az u ∧ u.length = 3 ∧ GenAt H g c ∧ c ≤ 5000000 ∧
  ∀ t a b as ps bs qs H', H' t = some (.tup [.ref a, .ref b]) → H' a = some (.lst (refs as)) → PsAt H' as ps → H' b = some (.lst (refs bs)) → PsAt H' bs qs → ps.length ≤ 7 → qs.length ≤ 7 → (∀ p ∈ ps, LP m 14 4 p) → (∀ p ∈ qs, LP m 14 4 p) → But g H H' → Q (.ref t) H'
theorem ok_pair {f : Addr} {fd : FuncData} (F : Fun K "_law_pair" "_law_pair" st__law_pair f fd) (T : Txt K mg C) (c__law_random : C8.Cal P w K mg base 2 "_law_random" spRandom []) (c__law_raw : C8.Cal P w K mg base 5 "_law_raw" spRaw [])
    (c__law_varied : C8.Cal P w K mg base 4 "_law_varied" spVaried []) (c__law_plain : C8.Cal P w K mg base 1 "_law_plain" spPlain []) : FnOk P w K mg base CX0 6 f fd ["_law_generator_here", "_law_many", "_law_signs", "_law_count", "_law_most"] spPair := by
  refine F.ok sc__law_pair (fun vs H Q E h => ?_) (fun cdv A outer s H vs Q E hr h => ?_)
  · obtain ⟨g, m, n, mo, c, u, rfl, _⟩ := h
    rfl
  · obtain ⟨g, m, n, mo, c, u, rfl, hm, hn, hmo, ua, ul, hg, hc, q⟩ := h
    refine ⟨_, (pss_cons (ps_par (i := 5) (j := 6) (by rfl) sc__law_pair.nd rfl rfl (by decide) rfl rfl (pa_cons (C8.pe_c c__law_raw hr (by decide) (by rfl) (pa_cons (pv 0) (pa_cons (pv 1) (pa_cons (pv 2) (pa_cons (pv 3) (pa_cons (pv 4) pa_nil)))))) (pa_cons (pe_slice sl_Sto (pv 2) po_none (po_some pe_int)) pa_nil)) (by rfl))
      (pss_cons (ps_if (pt_cmpR op_eq (C8.pe_c c__law_random hr (by decide) (by rfl) (pa_cons (pv 0) (pa_cons pe_int pa_nil))) pe_int (nomark _))
        (pss_cons (ps_set (i := 7) sc__law_pair.nd rfl (by first | exact Or.inl rfl | exact Or.inr rfl) (C8.pe_c c__law_random hr (by decide) (by rfl) (pa_cons (pv 0) (pa_cons (pe_op op_add (pv 1) pe_int) pa_nil))))
        (pss_cons (ps_set (i := 8) sc__law_pair.nd rfl (by first | exact Or.inl rfl | exact Or.inr rfl) (pe_callTy call_tupU (by rfl) T.tuple (by decide +kernel) (pa_cons (pe_lc (own := [("_law_at", 13)]) (by rfl) sc__law_pair.nd (pi_range1 (by rfl) T.range (pa_cons (pe_op op_add (pv 1) pe_int) pa_nil)) (blkOk_by (own := [("_law_at", 13)]) (N := N__law_pair) (sc := defScope st__law_pair) (by decide +kernel)) (fun _ _ _ _ _ => (pg_name (i := 13) sc__law_pair.nd rfl (by first | exact Or.inl rfl | exact Or.inr rfl))) (fun _ _ _ _ _ => pts_nil) (fun _ _ _ _ _ => (pe_callTy call_int1 (by rfl) T.int (by decide +kernel) (pa_cons (pe_cmpR op_eq (pv 13) (pv 7) (nomark _)) pa_nil)))) pa_nil)))
        (pss_cons (ps_par (i := 9) (j := 10) (by rfl) sc__law_pair.nd rfl rfl (by decide) rfl rfl (pa_cons (pe_tup (pa_cons (pe_backS (pv 6)) (pa_cons (pv 8) pa_nil))) (pa_cons (pe_tup (pa_cons (pe_slice sl_Sto (pv 6) po_none (po_some pe_int)) (pa_cons (C8.pe_c c__law_plain hr (by decide) (by rfl) (pa_cons (pv 1) (pa_cons pe_int pa_nil))) pa_nil))) pa_nil)) (by rfl))
        (pss_one (ps_ret (pe_tup (pa_cons (pe_op op_cat (pv 5) (pe_lst (pa_cons (pe_tup (pa_cons (pv 6) (pa_cons (pv 8) pa_nil))) (pa_cons (pv 10) pa_nil)))) (pa_cons (pe_op op_cat (pv 5) (pe_lst (pa_cons (pv 10) (pa_cons (pv 9) pa_nil)))) pa_nil))))))))
        pss_nil)
      (pss_cons (ps_set (i := 11) sc__law_pair.nd rfl (by first | exact Or.inl rfl | exact Or.inr rfl) (pv 5))
      (pss_cons (ps_for PassesOwn.never rfl (pi_range1 (by rfl) T.range (pa_cons (pe_op op_add pe_int (C8.pe_c c__law_random hr (by decide) (by rfl) (pa_cons (pv 0) (pa_cons pe_int pa_nil)))) pa_nil)) (pg_name (i := 12) sc__law_pair.nd rfl (by first | exact Or.inl rfl | exact Or.inr rfl))
        (pss_one (ps_set (i := 11) sc__law_pair.nd rfl (by first | exact Or.inl rfl | exact Or.inr rfl) (C8.pe_c c__law_varied hr (by decide) (by rfl) (pa_cons (pv 0) (pa_cons (pv 1) (pa_cons (pv 2) (pa_cons (pv 11) pa_nil))))))))
      (pss_one (ps_ret (pe_tup (pa_cons (pv 5) (pa_cons (pv 11) pa_nil))))))))), ?_⟩
    refine ⟨_, rfl, _, rfl, _, rfl, _, rfl, _, rfl, g, m, n, mo, c, u, rfl, hm, hn, hmo, ua, ul, hg, by omega, fun a as ps H1 ha hp hpl lp b1 g1 => ?_⟩
    refine ⟨_, rfl, 2, rfl, u, 2, rfl, rfl, rfl, sz (by omega), _, _, rfl, ?_⟩
    have hlen := hp.len
    have hu2 : (u.take 2).length = 2 := by
      rw [List.length_take]
      omega
    have nag := g1.other ha
    refine ⟨_, rfl, g, 3, c + 1000, rfl, by decide, by decide, g1, by omega, fun r H2 hr2 b2 g2 => ?_⟩
    have ha2 := b2 a _ nag ha
    have hp2 := hp.gen b2 g1
    by_cases h0 : (r : Int) = 0
    · refine ⟨rfl, true, int_eq h0, iteT ?_⟩
      refine ⟨_, rfl, _, rfl, _, _, rfl, rfl, g, m + 1, c + 1000 + 1, rfl, by omega, by omega, g2, by omega, fun r3 H3 hr3 b3 g3 => ?_⟩
      have ha3 := b3 a _ nag ha2
      have hp3 := hp2.gen b3 g2
      refine ⟨_, rfl, _, _, rfl, rfl, _, rfl, by omega, by omega, fun D nD => ?_⟩
      refine lc_range (lo := 0) (n := _) (Grow D H3 (tF ((List.range (m + 1)).map fun i => if i = r3 then 1 else 0))) grow0 (fun i H4 hi g' => ?_) (fun H4 g' => ?_)
      · refine ⟨rfl, _, rfl, _, rfl, rfl, .inr ⟨_, rfl, grow1 g' (Same.refl _) ?_ (by rw [List.length_map, List.length_map, List.length_range]; omega)⟩⟩
        rw [List.getElem?_map, List.getElem?_map, List.getElem?_range (by omega)]
        show some (V.int ((if i = r3 then 1 else 0 : Nat) : Int)) = some (V.int (if decide (V.int (0 + (i : Int)) = V.int (r3 : Int)) = true then 1 else 0))
        by_cases he : i = r3
        · rw [if_pos he, decide_eq_true (congrArg V.int (by omega))]
          rfl
        · rw [if_neg he, decide_eq_false (fun e => he (by have := V.int.inj e; omega))]
          rfl
      · have hn' : ((m : Int) + 1).toNat = (tF ((List.range (m + 1)).map fun i => if i = r3 then 1 else 0)).length := by
          rw [List.length_map, List.length_map, List.length_range]
          omega
        rw [hn'] at g'
        obtain ⟨s4, e4⟩ := g'.all nD
        refine ⟨D, _, rfl, SqL.of e4, fun p H5 s5 e5 => ?_⟩
        generalize hfl : (List.range (m + 1)).map (fun i => if i = r3 then 1 else 0) = fl at e5
        have fll : fl.length = m + 1 := by rw [← hfl, List.length_map, List.length_range]
        have flb : ∀ n ∈ fl, n ≤ 4 := fun n hn => by
          rw [← hfl] at hn
          obtain ⟨i, _, rfl⟩ := List.mem_map.mp hn
          split <;> omega
        have hfp : FormAt H5 p fl := e5
        have s35 := s4.trans s5
        refine ⟨_, rfl, u.take 2, rfl, sz (by omega), _, rfl, sz (by show 2 ≤ 1000000; decide), fun t1 nt1 => ?_⟩
        have sT1 := same_new (o := .tup [.str (S (u.take 2).reverse), .ref p]) nt1
        refine ⟨_, rfl, 1, rfl, u.take 2, 1, rfl, rfl, rfl, sz (by omega), _, rfl, m, 1, rfl, by omega, fun p2 H6 s6 e6 => ⟨sz (by show 2 ≤ 1000000; decide), fun t2 nt2 => ⟨_, _, rfl, ?_⟩⟩⟩
        have sT2 := same_new (o := .tup [.str (S ((u.take 2).take 1)), .ref p2]) nt2
        have sA := (s35.trans sT1).trans (s6.trans sT2)
        refine ⟨_, rfl, _, rfl, _, rfl, sz (by show 2 ≤ 1000000; decide), fun t3 nt3 => ?_⟩
        have sT3 := same_new (o := .tup [.str (S (u.take 2)), .ref p]) nt3
        refine ⟨_, rfl, sz (by show 2 ≤ 1000000; decide), fun l1 nl1 => ?_⟩
        have sL1 := same_new (o := .lst [V.ref t3, V.ref t2]) nl1
        have ha7 := (sA.trans (sT3.trans sL1)) _ _ ha3
        refine ⟨a, l1, _, _, rfl, rfl, ha7, upd_same, ?_, fun l2 nl2 => ?_⟩
        · rw [List.length_map]
          exact sz (by show as.length + 2 ≤ 1000000; omega)
        have sL2 := same_new (o := .lst (refs as ++ [V.ref t3, V.ref t2])) nl2
        refine ⟨_, rfl, _, rfl, _, rfl, sz (by show 2 ≤ 1000000; decide), fun l3 nl3 => ?_⟩
        have sL3 := same_new (o := .lst [V.ref t2, V.ref t1]) nl3
        refine ⟨a, l3, _, _, rfl, rfl, sL3 _ _ (sL2 _ _ ha7), upd_same, ?_, fun l4 nl4 => ⟨sz (by show 2 ≤ 1000000; decide), fun t4 nt4 => ?_⟩⟩
        · rw [List.length_map]
          exact sz (by show as.length + 2 ≤ 1000000; omega)
        have sL4 := same_new (o := .lst (refs as ++ [V.ref t2, V.ref t1])) nl4
        have sT4 := same_new (o := .tup [V.ref l2, V.ref l4]) nt4
        have s34 := sL3.trans (sL4.trans sT4)
        have s24 := sL2.trans s34
        have s14 := sT3.trans (sL1.trans s24)
        have sAll := sA.trans s14
        have P1 : PieceAt _ t1 ((u.take 2).reverse, fl) := PieceAt.same ⟨p, upd_same, hfp.same sT1⟩ ((s6.trans sT2).trans s14)
        have P2 : PieceAt _ t2 ((u.take 2).take 1, 1 :: List.replicate m 0) := PieceAt.same ⟨p2, upd_same, FormAt.same e6 sT2⟩ s14
        have P3 : PieceAt _ t3 (u.take 2, fl) := PieceAt.same ⟨p, upd_same, hfp.same ((sT1.trans (s6.trans sT2)).trans sT3)⟩ (sL1.trans s24)
        have L1 : LP m 14 4 ((u.take 2).reverse, fl) := ⟨rev_az (take_az ua 2), by show (u.take 2).reverse.length ≤ 14; rw [List.length_reverse]; omega, fll, flb⟩
        have L2 : LP m 14 4 ((u.take 2).take 1, 1 :: List.replicate m 0) := ⟨take_az (take_az ua 2) 1, by show ((u.take 2).take 1).length ≤ 14; rw [List.length_take]; omega, by simp, fun n hn => by
          rcases List.mem_cons.mp hn with e | e
          · omega
          · rw [le_one_of_rep e]
            exact Nat.zero_le _⟩
        have L3 : LP m 14 4 (u.take 2, fl) := ⟨take_az ua 2, by show (u.take 2).length ≤ 14; omega, fll, flb⟩
        have lp' : ∀ p ∈ ps, LP m 14 4 p := fun p h => (lp p h).mono (by decide) (by decide)
        have hpA := hp3.same sAll
        refine q t4 l2 l4 (as ++ [t3, t2]) (ps ++ [(u.take 2, fl), ((u.take 2).take 1, 1 :: List.replicate m 0)]) (as ++ [t2, t1]) (ps ++ [((u.take 2).take 1, 1 :: List.replicate m 0), ((u.take 2).reverse, fl)]) _ upd_same ?_ ?_ ?_ ?_ ?_ ?_ ?_ ?_ (((b1.trans b2).trans b3).trans (But.of sAll))
        · rw [refs_app]
          exact s34 _ _ upd_same
        · exact paired_app hpA (.cons P3 (.cons P2 .nil))
        · rw [refs_app]
          exact sT4 _ _ upd_same
        · exact paired_app hpA (.cons P2 (.cons P1 .nil))
        · rw [List.length_append]
          show ps.length + 2 ≤ 7
          omega
        · rw [List.length_append]
          show ps.length + 2 ≤ 7
          omega
        · intro p' hp'
          rcases List.mem_append.mp hp' with e | e
          · exact lp' p' e
          · rcases List.mem_cons.mp e with e | e
            · rw [e]
              exact L3
            · rw [List.mem_singleton.mp e]
              exact L2
        · intro p' hp'
          rcases List.mem_append.mp hp' with e | e
          · exact lp' p' e
          · rcases List.mem_cons.mp e with e | e
            · rw [e]
              exact L2
            · rw [List.mem_singleton.mp e]
              exact L1
    · refine ⟨rfl, false, int_ne h0, iteF ?_⟩
      refine ⟨_, rfl, ?_⟩
      refine ⟨_, rfl, g, 2, c + 1000 + 1, rfl, by decide, by decide, g2, by omega, fun r4 H3 hr4 b3 g3 => ?_⟩
      have ha3 := b3 a _ nag ha2
      have hp3 := hp2.gen b3 g2
      refine ⟨_, _, rfl, rfl, _, rfl, by omega, by omega, ?_⟩
      refine for_range (lo := 0) (n := _) (fun i σ H' => ∃ (o : Addr) (os : List Addr) (qs : List Piece) (v12 : Option V), σ = [some (.ref g), some (.int (m : Int)), some (.str (S u)), some (.int (n : Int)), some (.int (mo : Int)), some (.ref a), some (.str (S (u.take 2))), none, none, none, none, some (.ref o), v12, none] ∧
          H' o = some (.lst (refs os)) ∧ PsAt H' os qs ∧ qs.length ≤ 4 + i ∧ (∀ p ∈ qs, LP m (12 + i) (2 + i) p) ∧ But g H3 H' ∧ GenAt H' g (c + 1000 + 1 + 1 + 20 * i))
        ⟨a, as, ps, none, rfl, ha3, hp3, by omega, lp, But.refl _ _, g3⟩ ?_ ?_
      · rintro i σ H4 hi ⟨o, os, qs, v12, rfl, ho, hq, ql, lq, b4, g4⟩
        have hi2 : i < 2 := by omega
        refine ⟨_, rfl, _, rfl, _, rfl, _, rfl, g, o, m, 12 + i, 2 + i, c + 1000 + 1 + 1 + 20 * i, u, os, qs, rfl, hm, ua, ul, ho, hq, by omega, lq, by omega, by omega, g4, by omega, fun l' as' ps' H5 hl5 hp5 hpl5 lp5 b5 g5 => ?_⟩
        exact ⟨l', as', ps', _, rfl, hl5, hp5, by omega, lp5, b4.trans b5, g5.mono (by omega)⟩
      · rintro σ H4 ⟨o, os, qs, v12, rfl, ho, hq, ql, lq, b4, g4⟩
        have hle : ((1 : Int) + (r4 : Int)).toNat ≤ 2 := by omega
        refine ⟨_, rfl, _, rfl, sz (by show 2 ≤ 1000000; decide), fun t nt => ?_⟩
        have sT := same_new (o := .tup [V.ref a, V.ref o]) nt
        refine q t a o as ps os qs _ upd_same (sT _ _ (b4 a _ nag ha3)) ((hp3.gen b4 g3).same sT) (sT _ _ ho) (hq.same sT) (by omega) (by omega) (fun p h => (lp p h).mono (by decide) (by decide)) (fun p h => (lq p h).mono (by omega) (by omega)) (((b1.trans b2).trans b3).trans (b4.trans (But.of sT)))
end
end Cs
end
section
set_option maxRecDepth 100000
set_option maxHeartbeats 16000000
/-! The law's defs, last part: one drawing judged, the law. Printed in part by gen.py out of CsM.src. -/
namespace Cs
open PySem L2 SX
/-! ### plain helps -/
/-- a new instance, made: what stood before stands -/
theorem mk_same {H : Hp} {x dx : Addr} {o1 o2 : HO} (nx : H x = none) (ndx : H dx = none) : Same H (upd (upd H dx o1) x o2) := fun b o e => by
  rw [upd_ne (ne_of_none e nx), upd_ne (ne_of_none e ndx)]
  exact e
theorem mk_keep {H H' : Hp} {x dx : Addr} {o1 o2 : HO} (nx : H x = none) (ndx : H dx = none) (b : But x (upd (upd H dx o1) x o2) H') : Same H H' := fun c o e => b c o (ne_of_none e nx) (mk_same nx ndx _ _ e)
/-- points as data -/
def dX (x : List Nat) : PyData := .list (x.map iD)
theorem ptsDp {K : PySem.W.Frag} {H : Hp} {as : List Addr} {xs : List (List Nat)} (h : PtsAt H as xs) : DpAll K H (refs as) (xs.map dX) := by
  induction h with
  | nil => exact .nil
  | cons r t ih => exact .cons (.lst (SqL.of r) (dp_ints _)) ih
theorem lay_X : ∀ xs : List (List Nat), PyData.canLayAll0 (xs.map dX) = true
  | [] => rfl
  | x :: xs => by
    simp only [List.map_cons, PyData.canLayAll0, dX, PyData.canLay0, lay_F, lay_X xs]
    rfl
theorem depth_X : ∀ xs : List (List Nat), PyData.depthAll (xs.map dX) ≤ 1
  | [] => Nat.zero_le _
  | x :: xs => by
    have := depth_X xs
    simp only [List.map_cons, PyData.depthAll, dX, PyData.depth, depth_F]
    omega
theorem sh_X (xs : List (List Nat)) : SeqAt.shaped (.list (xs.map dX)) = true := by
  unfold SeqAt.shaped
  have := depth_X xs
  simp only [PyData.canLay0, PyData.depth, lay_X xs, Bool.true_and]
  exact decide_eq_true (by omega)
theorem done_letters {m : Nat} {ps N : List Piece} (d : CS.Done AZ m ps N) : CS.Done (fun c => 0 < c ∧ c < 128) m ps N :=
  ⟨d.nf, d.wr, d.ms, fun p hp c hc => by
    have h := d.al p hp c hc
    exact ⟨by have := h.1; omega, by have := h.2; omega⟩⟩
theorem lp_letters {m L B : Nat} {ps : List Piece} (h : ∀ p ∈ ps, LP m L B p) : ∀ p ∈ ps, CS.Letters p.1 ∧ p.2.length = m + 1 := fun p hp =>
  ⟨fun c hc => by
    have h1 := (h p hp).1 c hc
    exact ⟨by have := h1.1; omega, by have := h1.2; omega⟩, (h p hp).2.2.1⟩
theorem lp_ms {m : Nat} : ∀ {ps : List Piece}, (∀ p ∈ ps, LP m 14 4 p) → CS.ms ps ≤ ps.length * 70
  | [], _ => Nat.zero_le _
  | (u, f) :: ps, h => by
    have h1 := lp_ms (ps := ps) fun q hq => h q (by simp [hq])
    obtain ⟨_, hl, hf, hb⟩ := h (u, f) (by simp)
    simp only at hl hf hb
    cases f with
    | nil => simp at hf
    | cons n t =>
    have hn := hb n (by simp)
    have hk : n + (if CS.isOpen (n :: t) = true then 1 else 0) ≤ 5 := by split <;> omega
    have : u.length * (n + (if CS.isOpen (n :: t) = true then 1 else 0)) ≤ 14 * 5 := Nat.mul_le_mul hl hk
    simp only [CS.ms, List.headD_cons, List.length_cons, Nat.succ_mul]
    omega
theorem lp_ok {m : Nat} {ps : List Piece} (h : ∀ p ∈ ps, LP m 14 4 p) : ∀ p ∈ ps, PieceOk m p := fun p hp => ⟨(h p hp).1, by have := (h p hp).2.1; omega, (h p hp).2.2.1⟩
/-- the pieces of a normal list may be handed in again -/
theorem nf_lens {m : Nat} : ∀ {S : List Piece}, CS.NF m S → ∀ p ∈ S, p.2.length = m + 1
  | [], _, p, hp => nomatch hp
  | q :: r, h, p, hp => by
    rcases List.mem_cons.mp hp with e | e
    · rw [e]
      exact h.1.len
    · exact nf_lens h.2.2 p e
theorem done_ok {m : Nat} {ps N : List Piece} (d : CS.Done AZ m ps N) (h : CS.ms ps ≤ 2000) : ∀ p ∈ N, PieceOk m p := fun p hp =>
  ⟨d.al p hp, by have := d.nf.len p hp; have := d.ms; omega, nf_lens d.nf p hp⟩
/-- one unknown more -/
abbrev raise (p : Piece) : Piece := (p.1, p.2 ++ [0])
theorem ms_raise : ∀ {ps : List Piece}, (∀ p ∈ ps, p.2 ≠ []) → CS.ms (ps.map raise) = CS.ms ps
  | [], _ => rfl
  | (u, f) :: ps, h => by
    have h1 := ms_raise (ps := ps) fun q hq => h q (by simp [hq])
    have hf := h (u, f) (by simp)
    cases f with
    | nil => exact absurd rfl hf
    | cons n t =>
    have ho : CS.isOpen ((n :: t) ++ [0]) = CS.isOpen (n :: t) := by
      unfold CS.isOpen
      exact decide_eq_decide.mpr (by simp)
    simp only [List.map_cons, CS.ms, h1, raise, ho, List.cons_append, List.headD_cons]
    rw [show CS.isOpen (n :: (t ++ [0])) = CS.isOpen (n :: t) from ho]
theorem pr_mem : ∀ {x : List Nat} {n : Nat}, n ∈ x → n + 1 ≤ CS.pr x
  | [], n, h => by simp at h
  | a :: x, n, h => by
    have hp := CS.pr_pos x
    show n + 1 ≤ (a + 1) * CS.pr x
    rcases List.mem_cons.mp h with e | e
    · rw [e]
      exact Nat.le_mul_of_pos_right _ hp
    · have h1 := pr_mem e
      exact Nat.le_trans h1 (Nat.le_mul_of_pos_left _ (Nat.succ_pos a))
/-- the points where the two part -/
def parts (ps qs : List Piece) (xs : List (List Nat)) : List (List Nat) := xs.filter fun x => !decide (CS.wr ps x = CS.wr qs x)
theorem parts_snoc {ps qs : List Piece} {xs : List (List Nat)} {i : Nat} {x : List Nat} (h : xs[i]? = some x) : parts ps qs (xs.take (i + 1)) = parts ps qs (xs.take i) ++ (if CS.wr ps x = CS.wr qs x then [] else [x]) := by
  have e : xs.take (i + 1) = xs.take i ++ [x] := by
    rw [List.take_add_one, h]
    rfl
  unfold parts
  rw [e, List.filter_append]
  congr 1
  by_cases he : CS.wr ps x = CS.wr qs x
  · rw [if_pos he]
    simp [he]
  · rw [if_neg he]
    simp [he]
theorem parts_nil {ps qs : List Piece} {xs : List (List Nat)} : parts ps qs xs = [] ↔ ∀ x ∈ xs, CS.wr ps x = CS.wr qs x := by
  unfold parts
  rw [List.filter_eq_nil_iff]
  constructor
  · intro h x hx
    have := h x hx
    simpa using this
  · intro h x hx
    simp [h x hx]
theorem emp_iff (ds : List PyData) : ds.isEmpty = decide (ds = []) := by cases ds <;> simp
theorem map_nil_iff (xs : List (List Nat)) : xs.map dX = [] ↔ xs = [] := by cases xs <;> simp
section
variable {P : Program} {w : World} {K : PySem.W.Frag} {mg : Str → Option Value} {base : Heap} {C : Addr} {k : Nat}
def spRight : Sp := fun vs H Q _ => ∃ g : Addr, vs = [.ref g] ∧ GenAt H g 3000 ∧ ∀ H', But g H H' → Q (.bl true) H'
theorem ok_right {f : Addr} {fd : FuncData} (F : Fun K "_law_right" "_law_right" st__law_right f fd) (T : Txt K mg C) (c__law_random : C8.Cal P w K mg base 2 "_law_random" spRandom []) (c__law_letters : C8.Cal P w K mg base 3 "_law_letters" spLetters3 [])
    (c__law_pair : C8.Cal P w K mg base 6 "_law_pair" spPair []) (c_OpenText : C8.Mak P w K mg base 7 "OpenText" C (spInit C) []) (c__law_points : C8.Cal P w K mg base 4 "_law_points" spPts []) (c__law_open_pieces : C8.Cal P w K mg base 1 "_law_open_pieces" spOpens [])
    (c__law_write : C8.Cal P w K mg base 2 "_law_write" spWrite []) (c__law_yes : C8.Cal P w K mg base 1 "_law_yes" spYes []) (c_OpenText_eq : EqA P w K mg base 1 C (spOEq C)) (c_OpenText_many : C8.Met P w K mg base 1 C "many" (spOMany C) [])
    (c_OpenText_pieces : C8.Met P w K mg base 1 C "pieces" (spOPieces C) []) : FnOk P w K mg base CX0 9 f fd ["_law_generator_here"] spRight := by
  refine F.ok sc__law_right (fun vs H Q E h => ?_) (fun cdv A outer s H vs Q E hr h => ?_)
  · obtain ⟨g, rfl, _⟩ := h
    rfl
  · obtain ⟨g, rfl, hg, q⟩ := h
    refine ⟨_, (pss_cons (ps_par (i := 1) (j := 2) (by rfl) sc__law_right.nd rfl rfl (by decide) rfl rfl (pa_cons (C8.pe_c c__law_random hr (by decide) (by rfl) (pa_cons (pv 0) (pa_cons pe_int pa_nil))) (pa_cons (C8.pe_c c__law_letters hr (by decide) (by rfl) (pa_cons (pv 0) pa_nil)) pa_nil)) (by rfl))
      (pss_cons (ps_asg (C8.pe_c c__law_pair hr (by decide) (by rfl) (pa_cons (pv 0) (pa_cons (pv 1) (pa_cons (pv 2) (pa_cons (C8.pe_c c__law_random hr (by decide) (by rfl) (pa_cons (pv 0) (pa_cons pe_int pa_nil))) (pa_cons pe_int pa_nil)))))) (pg_tup (by rfl) (pgs_cons (pg_name (i := 3) sc__law_right.nd rfl (by first | exact Or.inl rfl | exact Or.inr rfl)) (pgs_cons (pg_name (i := 4) sc__law_right.nd rfl (by first | exact Or.inl rfl | exact Or.inr rfl)) pgs_nil))))
      (pss_cons (ps_par (i := 5) (j := 6) (by rfl) sc__law_right.nd rfl rfl (by decide) rfl rfl (pa_cons (C8.pe_mk c_OpenText hr (by decide) (by rfl) (pa_cons (pv 1) (pa_cons (pe_callTy call_list_of (by rfl) T.list (by decide +kernel) (pa_cons (pv 3) pa_nil)) pa_nil))) (pa_cons (C8.pe_mk c_OpenText hr (by decide) (by rfl) (pa_cons (pv 1) (pa_cons (pe_callTy call_list_of (by rfl) T.list (by decide +kernel) (pa_cons (pv 4) pa_nil)) pa_nil))) pa_nil)) (by rfl))
      (pss_cons (ps_set (i := 7) sc__law_right.nd rfl (by first | exact Or.inl rfl | exact Or.inr rfl) (C8.pe_c c__law_points hr (by decide) (by rfl) (pa_cons (pv 1) (pa_cons (pe_op op_add (pe_op op_add pe_int (C8.pe_c c__law_open_pieces hr (by decide) (by rfl) (pa_cons (pv 3) pa_nil))) (C8.pe_c c__law_open_pieces hr (by decide) (by rfl) (pa_cons (pv 4) pa_nil))) pa_nil))))
      (pss_cons (ps_setLc (i := 8) (own := [("_law_point", 10)]) (by rfl) sc__law_right.nd rfl rfl (sw_true rfl rfl rfl (by decide +kernel)) (pi_list (pv 7)) (blkOk_by (own := [("_law_point", 10)]) (N := N__law_right) (sc := defScope st__law_right) (by decide +kernel)) (fun _ _ _ _ _ => (pg_name (i := 10) sc__law_right.nd rfl (by first | exact Or.inl rfl | exact Or.inr rfl))) (fun _ _ _ _ _ => pts_one (pt_cmpR op_ne (C8.pe_c c__law_write hr (by decide) (by rfl) (pa_cons (pv 3) (pa_cons (pv 10) pa_nil))) (C8.pe_c c__law_write hr (by decide) (by rfl) (pa_cons (pv 4) (pa_cons (pv 10) pa_nil))) (nomark _))) (fun _ _ _ _ _ => (pv 10)))
      (pss_cons (ps_if (PW.pt (pw_or (pt_not (pt_val (C8.pe_c c__law_yes hr (by decide) (by rfl) (pa_cons (pe_cmpR (op_own c_OpenText_eq hr (by decide)) (pv 5) (pv 6) (nomark _)) (pa_cons (pe_cmpR (op_eqD hr.units) (pv 8) (pe_lst pa_nil) (nomark _)) pa_nil))))) (pw_or (pt_not (pt_val (C8.pe_c c__law_yes hr (by decide) (by rfl) (pa_cons (pe_cmpR (op_own c_OpenText_eq hr (by decide)) (pv 6) (pv 5) (nomark _)) (pa_cons (pe_cmpR (op_eqD hr.units) (pv 8) (pe_lst pa_nil) (nomark _)) pa_nil))))) (pw_or1 (pt_cmpR op_notBl (pe_cmpR (op_own c_OpenText_eq hr (by decide)) (pv 5) (pv 5) (nomark _)) pe_bl (nomark _))))))
        (pss_one (ps_ret pe_bl))
        pss_nil)
      (pss_cons (ps_if (PW.pt (pw_or (pt_cmpR op_ne (C8.pe_mt0 c_OpenText_many hr (by decide) (pv 5)) (pv 1) (nomark _)) (pw_or1 (pt_cmpR op_notBl (pe_cmpR (op_own c_OpenText_eq hr (by decide)) (C8.pe_mk c_OpenText hr (by decide) (by rfl) (pa_cons (pv 1) (pa_cons (C8.pe_mt0 c_OpenText_pieces hr (by decide) (pv 5)) pa_nil))) (pv 5) (nomark _)) pe_bl (nomark _)))))
        (pss_one (ps_ret pe_bl))
        pss_nil)
      (pss_cons (ps_setLc (i := 9) (own := [("_law_word_here", 11), ("_law_form_here", 12)]) (g := gTup K 2 (gCons (gName 11) (gCons (gName 12) gNil))) (by rfl) sc__law_right.nd rfl rfl (sw_true rfl rfl rfl (by decide +kernel)) (pi_list (pv 3)) (blkOk_by (own := [("_law_word_here", 11), ("_law_form_here", 12)]) (N := N__law_right) (sc := defScope st__law_right) (by decide +kernel)) (fun _ _ _ _ _ => (pg_tup (by rfl) (pgs_cons (pg_name (i := 11) sc__law_right.nd rfl (by first | exact Or.inl rfl | exact Or.inr rfl)) (pgs_cons (pg_name (i := 12) sc__law_right.nd rfl (by first | exact Or.inl rfl | exact Or.inr rfl)) pgs_nil)))) (fun _ _ _ _ _ => pts_nil) (fun _ _ _ _ _ => (pe_tup (pa_cons (pv 11) (pa_cons (pe_op op_catU (pv 12) (pe_tup (pa_cons pe_int pa_nil))) pa_nil)))))
      (pss_one (ps_ret (pe_or (pe_cmpR op_eq (pv 1) pe_int (nomark _)) (pe_one (pe_cmpR op_isBl (pe_cmpR (op_own c_OpenText_eq hr (by decide)) (C8.pe_mk c_OpenText hr (by decide) (by rfl) (pa_cons (pe_op op_add (pv 1) pe_int) (pa_cons (pv 9) pa_nil))) (pv 5) (nomark _)) pe_bl (nomark _)))))))))))))), ?_⟩
    refine ⟨_, rfl, g, 4, 3000, rfl, by decide, by decide, hg, by decide, fun m H1 hm1 b1 g1 => ?_⟩
    have hm : m ≤ 3 := by omega
    refine ⟨_, rfl, g, 3000 + 1, rfl, g1, by decide, fun u H2 ua ul b2 g2 => ⟨_, _, rfl, ?_⟩⟩
    refine ⟨_, rfl, _, rfl, _, rfl, _, rfl, g, 5, 3000 + 1 + 3, rfl, by decide, by decide, g2, by decide, fun n H3 hn b3 g3 => ?_⟩
    refine ⟨g, m, n, 2, 3000 + 1 + 3 + 1, u, rfl, hm, by omega, by decide, ua, ul, g3, by decide, fun t a b as ps bs qs H4 ht ha hp hb hq pl ql lp lq b4 => ?_⟩
    have bAll : But g H H4 := ((b1.trans b2).trans b3).trans b4
    have hq' : ∀ {H'}, Same H4 H' → Q (.bl true) H' := fun s => q _ (bAll.trans (But.of s))
    have msp : CS.ms ps ≤ 490 := Nat.le_trans (lp_ms lp) (by omega)
    have msq : CS.ms qs ≤ 490 := Nat.le_trans (lp_ms lq) (by omega)
    refine ⟨t, _, rfl, SqT.of ht, rfl, _, _, rfl, _, _, rfl, rfl, ?_⟩
    -- the two texts
    refine ⟨_, rfl, _, rfl, a, _, rfl, .inl (SqL.of ha), fun l1 nl1 => ?_⟩
    have sl1 := same_new (o := .lst (refs as)) nl1
    refine fun x dx nx ndx nex => ?_
    have sx := mk_same (o1 := .own x) (o2 := .ins C dx []) nx ndx
    refine ⟨x, dx, m, l1, as, ps, rfl, upd_same, hm, sx _ _ upd_same, (hp.same sl1).same sx, by omega, lp_ok lp, by omega, fun N H5 b5 ox dN => ⟨rfl, ?_⟩⟩
    have s5 := sl1.trans (mk_keep nx ndx b5)
    have hb5 := s5 _ _ hb
    refine ⟨_, rfl, _, rfl, b, _, rfl, .inl (SqL.of hb5), fun l2 nl2 => ?_⟩
    have sl2 := same_new (o := .lst (refs bs)) nl2
    refine fun y dy ny ndy ney => ?_
    have sy := mk_same (o1 := .own y) (o2 := .ins C dy []) ny ndy
    refine ⟨y, dy, m, l2, bs, qs, rfl, upd_same, hm, sy _ _ upd_same, ((hq.same s5).same sl2).same sy, by omega, lp_ok lq, by omega, fun M H6 b6 oy dM => ⟨rfl, _, _, rfl, ?_⟩⟩
    have s56 := sl2.trans (mk_keep ny ndy b6)
    have ox6 := ox.same s56
    have s6 := s5.trans s56
    -- the points
    have hlo1 := opens_le ps
    have hlo2 := opens_le qs
    refine ⟨_, rfl, _, rfl, a, as, ps, rfl, s6 _ _ ha, hp.same s6, by omega, fun p h e => ?_, fun H7 s7 => ?_⟩
    · have := (lp p h).2.2.1
      rw [e] at this
      simp at this
    have s67 := s6.trans s7
    refine ⟨_, _, rfl, rfl, _, rfl, b, bs, qs, rfl, s67 _ _ hb, hq.same s67, by omega, fun p h e => ?_, fun H8 s8 => ?_⟩
    · have := (lq p h).2.2.1
      rw [e] at this
      simp at this
    have s68 := s67.trans s8
    refine ⟨_, _, rfl, rfl, m, hm, 1 + CS.opens ps + CS.opens qs, rfl, by omega, by omega, fun p pas xs H9 s9 hpl hpa hxl hxo => ?_⟩
    have s69 := s68.trans s9
    have hxlen : xs.length ≤ 8000 := by
      have a1 : (1 + CS.opens ps + CS.opens qs) ^ m ≤ 20 ^ m := Nat.pow_le_pow_left (by omega) m
      have a2 : 20 ^ m ≤ 20 ^ 3 := Nat.pow_le_pow_right (by decide) hm
      omega
    have hplen : pas.length = xs.length := Paired.length hpa
    -- where the two part
    refine ⟨_, rfl, p, rfl, ⟨_, SqL.of hpl⟩, fun D nD => ?_⟩
    refine lc_it (walk_list (K := K) (a := p) (xs := refs pas)) (fun i H' => ∃ ds : List Addr, H' D = some (.lst (refs ds)) ∧ PtsAt H9 ds (parts ps qs (xs.take i)) ∧ ds.length ≤ i ∧ But D H9 H')
      ⟨[], upd_same, (show PtsAt H9 [] [] from Paired.nil), Nat.le_refl _, But.of (same_new nD)⟩ (fun i H' _ ⟨_, _, _, _, bd⟩ => SqL.of (bd.new nD _ _ hpl)) (fun i v H10 H11 hi hv yy => ?_) (fun H10 hv => ?_)
    · obtain ⟨ds, hD, hds, dl, bd⟩ := hv
      obtain ⟨rfl, e1⟩ := yy
      obtain ⟨pi, hpi, rfl⟩ := map_at e1
      obtain ⟨z, hz, hzp⟩ := paired_at hpa hpi
      have sd := bd.new nD
      have s10 := s69.trans sd
      obtain ⟨zl, zp⟩ := (hxo z).mp (at_mem hz)
      have zb : ∀ n ∈ z, n ≤ 20 := fun n hn => by
        have := pr_mem hn
        omega
      have hi9 : i < 8000 := by
        have := at_lt hz
        omega
      have htk := parts_snoc (ps := ps) (qs := qs) hz
      refine ⟨rfl, _, rfl, _, rfl, a, pi, as, ps, z, m, rfl, s10 _ _ ha, hp.same s10, by omega, fun p h => (lp p h).mono (by decide) (by decide), sd _ _ hzp, zl, hm, zb, fun H12 s12 => ?_⟩
      have s1012 := s10.trans s12
      refine ⟨_, rfl, _, rfl, b, pi, bs, qs, z, m, rfl, s1012 _ _ hb, hq.same s1012, by omega, fun p h => (lq p h).mono (by decide) (by decide), s12 _ _ (sd _ _ hzp), zl, hm, zb, fun H13 s13 => ⟨rfl, ?_⟩⟩
      by_cases he : CS.wr ps z = CS.wr qs z
      · refine ⟨false, by rw [he, decide_eq_true rfl]; rfl, iteF ?_⟩
        rw [if_pos he, List.append_nil] at htk
        exact ⟨ds, s13 _ _ (s12 _ _ hD), by rw [htk]; exact hds, by omega, bd.trans (But.of (s12.trans s13))⟩
      · have hne : ¬ (V.str (S (CS.wr ps z)) = V.str (S (CS.wr qs z))) := fun e => he (S_inj (V.str.inj e))
        refine ⟨true, by rw [decide_eq_false hne]; rfl, iteT ?_⟩
        rw [if_neg he] at htk
        refine ⟨_, rfl, refs ds, s13 _ _ (s12 _ _ hD), szlt (by rw [List.length_map]; omega), ds ++ [pi], ?_, ?_, ?_, (bd.trans (But.of (s12.trans s13))).trans But.upd⟩
        · rw [upd_same, refs_app]
          rfl
        · rw [htk]
          exact paired_app hds (.cons hzp .nil)
        · rw [List.length_append]
          show ds.length + 1 ≤ i + 1
          omega
    obtain ⟨ds, hD, hds, dl, bd⟩ := hv
    have et : xs.take (refs pas).length = xs := by rw [List.length_map, hplen, List.take_length]
    rw [et] at hds
    have sd := bd.new nD
    have s10 := s69.trans sd
    have s610 := ((s7.trans s8).trans s9).trans sd
    have ox10 := ox6.same s610
    have oy10 := oy.same s610
    have hds10 := hds.same sd
    -- THE LAW
    have key : decide (m = m ∧ N = M) = ((parts ps qs xs).map dX).isEmpty := by
      rw [emp_iff]
      refine decide_eq_decide.mpr ?_
      rw [map_nil_iff, parts_nil, CS.equal_iff (lp_letters lp) (lp_letters lq) (done_letters dN) (done_letters dM)]
      constructor
      · rintro ⟨_, h⟩ z hz
        obtain ⟨z1, z2⟩ := (hxo z).mp hz
        exact h z z1 z2
      · intro h
        exact ⟨rfl, fun z z1 z2 => h z ((hxo z).mpr ⟨z1, z2⟩)⟩
    have key2 : decide (m = m ∧ M = N) = ((parts ps qs xs).map dX).isEmpty := by
      rw [← key]
      exact decide_eq_decide.mpr ⟨fun h => ⟨rfl, h.2.symm⟩, fun h => ⟨rfl, h.2.symm⟩⟩
    obtain ⟨dx6, t6, as6, hx10, htx10, hN10⟩ := id ox10
    obtain ⟨dy6, u6, bs6, hy10, hty10, hM10⟩ := id oy10
    refine ⟨_, rfl, _, rfl, x, y, dx6, dy6, _, _, rfl, rfl, hx10, hy10, x, y, m, m, N, M, rfl, ox10, oy10, dN.al, dM.al, ?_⟩
    refine ⟨_, rfl, Nat.zero_le _, fun e1 ne1 => ?_⟩
    have se1 := same_new (o := .lst []) ne1
    refine ⟨.list ((parts ps qs xs).map dX), .list [], .lst (SqL.of (se1 _ _ hD)) (ptsDp (hds10.same se1)), .lst (SqL.of upd_same) .nil, sh_X _, sh_nil, ?_⟩
    rw [eqv_nil]
    refine ⟨_, _, rfl, true, bl_true key, iteF ?_⟩
    refine ⟨_, rfl, _, rfl, y, x, dy6, dx6, _, _, rfl, rfl, se1 _ _ hy10, se1 _ _ hx10, y, x, m, m, M, N, rfl, oy10.same se1, ox10.same se1, dM.al, dN.al, ?_⟩
    refine ⟨_, rfl, Nat.zero_le _, fun e2 ne2 => ?_⟩
    have se2 := se1.trans (same_new (o := .lst []) ne2)
    refine ⟨.list ((parts ps qs xs).map dX), .list [], .lst (SqL.of (se2 _ _ hD)) (ptsDp (hds10.same se2)), .lst (SqL.of upd_same) .nil, sh_X _, sh_nil, ?_⟩
    rw [eqv_nil]
    refine ⟨_, _, rfl, true, bl_true key2, iteF ?_⟩
    refine ⟨_, rfl, _, rfl, x, x, dx6, dx6, _, _, rfl, rfl, se2 _ _ hx10, se2 _ _ hx10, x, x, m, m, N, N, rfl, ox10.same se2, ox10.same se2, dN.al, dN.al, ?_⟩
    refine ⟨_, _, rfl, rfl, false, by simp, iteF ?_⟩
    -- many(), pieces()
    have hx11 := se2 _ _ hx10
    have ox11 := ox10.same se2
    refine ⟨_, rfl, x, dx6, _, rfl, hx11, otf_no _ _ (by decide +kernel) (by decide +kernel), x, m, N, rfl, ox11, ?_⟩
    refine ⟨_, rfl, rfl, false, by rw [decide_eq_true rfl]; rfl, iteF ?_⟩
    refine ⟨_, rfl, _, rfl, x, dx6, _, rfl, hx11, otf_no _ _ (by decide +kernel) (by decide +kernel), x, m, N, rfl, ox11, fun l3 as3 H12 s12 nl3 hl3 hp3 => ?_⟩
    have hcntN := dN.nf.count
    have hmsN := dN.ms
    refine fun x3 dx3 nx3 ndx3 nex3 => ?_
    have sx3 := mk_same (o1 := .own x3) (o2 := .ins C dx3 []) nx3 ndx3
    refine ⟨x3, dx3, m, l3, as3, N, rfl, upd_same, hm, sx3 _ _ hl3, hp3.same sx3, by omega, done_ok dN (by omega), by omega, fun N2 H13 b13 o13 d13 => ⟨rfl, ?_⟩⟩
    have s13 := s12.trans (mk_keep nx3 ndx3 b13)
    have e2 : N2 = N := CS.again dN.nf d13
    obtain ⟨dx7, t7, as7, hx13, _, _⟩ := id o13
    refine ⟨_, rfl, x3, x, dx7, dx6, _, _, rfl, rfl, hx13, s13 _ _ hx11, x3, x, m, m, N2, N, rfl, o13, ox11.same s13, d13.al, dN.al, ?_⟩
    refine ⟨_, _, rfl, rfl, false, by simp [e2], iteF ?_⟩
    -- one unknown more
    have s14 := s10.trans (se2.trans s13)
    have ha14 := s14 _ _ ha
    have hp14 := hp.same s14
    have hlen := hp.len
    refine ⟨_, rfl, a, rfl, ⟨_, SqL.of ha14⟩, fun D2 nD2 => ?_⟩
    refine lc_it (walk_list (K := K) (a := a) (xs := refs as)) (fun i H' => ∃ rs : List Addr, H' D2 = some (.lst (refs rs)) ∧ PsAt H' rs ((ps.take i).map raise) ∧ But D2 H13 H')
      ⟨[], upd_same, (show PsAt _ [] [] from Paired.nil), But.of (same_new nD2)⟩ (fun i H' _ ⟨_, _, _, bd⟩ => SqL.of (bd.new nD2 _ _ ha14)) (fun i v H15 H16 hi hv yy => ?_) (fun H15 hv => ?_)
    · obtain ⟨rs, hD2, hrs, bd2⟩ := hv
      obtain ⟨rfl, e1⟩ := yy
      obtain ⟨ai, hai, rfl⟩ := map_at e1
      obtain ⟨pi, hpi, hpa'⟩ := paired_at hp14 hai
      have sd2 := bd2.new nD2
      obtain ⟨fb, h1, h2⟩ := hpa'.same sd2
      have fl := (lp pi (at_mem hpi)).2.2.1
      have hrl := hrs.len
      rw [List.length_map, List.length_take] at hrl
      have hi7 : i < 7 := by
        have := at_lt hpi
        omega
      refine ⟨ai, _, rfl, SqT.of h1, rfl, _, _, rfl, _, _, rfl, rfl, rfl, ?_⟩
      refine ⟨_, rfl, _, rfl, sz (by show 1 ≤ 1000000; decide), fun z nz => ?_⟩
      have s15 := same_new (o := .tup [V.int 0]) nz
      refine ⟨fb, z, _, _, rfl, rfl, s15 _ _ h2, upd_same, ?_, fun z2 H17 s17 e17 => ⟨sz (by show 2 ≤ 1000000; decide), fun aa naa => ?_⟩⟩
      · rw [List.length_map, fl]
        exact sz (by show m + 1 + 1 ≤ 1000000; omega)
      have e17' : FormAt H17 z2 (pi.2 ++ [0]) := by
        unfold FormAt
        rw [e17, ← tF_app]
        rfl
      have saa := same_new (o := .tup [.str (S pi.1), .ref z2]) naa
      have s18 := (s15.trans s17).trans saa
      have hD18 := s18 _ _ hD2
      have hrs18 := hrs.same s18
      have pa18 : PieceAt (upd H17 aa (.tup [.str (S pi.1), .ref z2])) aa (raise pi) := ⟨z2, upd_same, e17'.same saa⟩
      refine ⟨refs rs, hD18, szlt (by rw [List.length_map]; omega), rs ++ [aa], ?_, ?_, (bd2.trans (But.of s18)).trans But.upd⟩
      · rw [upd_same, refs_app]
        rfl
      · rw [take_succ hpi, List.map_append]
        exact PsAt.but (paired_app hrs18 (.cons pa18 .nil)) (But.upd (o := .lst (refs rs ++ [V.ref aa]))) hD18
    obtain ⟨rs, hD2, hrs, bd2⟩ := hv
    have et2 : ps.take (refs as).length = ps := by rw [List.length_map, hlen, List.take_length]
    rw [et2] at hrs
    have sd2 := bd2.new nD2
    have s15 := s14.trans sd2
    by_cases h3 : (m : Int) = 3
    · exact ⟨_, rfl, rfl, true, int_eq h3, iteT (hq' s15)⟩
    · refine ⟨_, rfl, rfl, false, int_ne h3, iteF ?_⟩
      refine ⟨_, rfl, _, _, rfl, rfl, _, rfl, fun x4 dx4 nx4 ndx4 nex4 => ?_⟩
      have sx4 := mk_same (o1 := .own x4) (o2 := .ins C dx4 []) nx4 ndx4
      refine ⟨x4, dx4, m + 1, D2, rs, ps.map raise, rfl, upd_same, by omega, sx4 _ _ hD2, hrs.same sx4, by rw [List.length_map]; omega, fun p hp' => ?_, ?_, fun N4 H16 b16 o16 d16 => ⟨rfl, ?_⟩⟩
      · obtain ⟨p0, hp0, rfl⟩ := List.mem_map.mp hp'
        obtain ⟨z1, z2, z3, _⟩ := lp p0 hp0
        exact ⟨z1, by show p0.1.length ≤ 2000; omega, by show (p0.2 ++ [0]).length = m + 1 + 1; rw [List.length_append, z3]; rfl⟩
      · rw [ms_raise (fun p h e => by
          have := (lp p h).2.2.1
          rw [e] at this
          simp at this)]
        omega
      have s16 := mk_keep nx4 ndx4 b16
      obtain ⟨dx8, t8, as8, hx16, _, _⟩ := id o16
      have sAll := sd2.trans s16
      refine ⟨_, rfl, x4, x, dx8, dx6, _, _, rfl, rfl, hx16, sAll _ _ (s13 _ _ hx11), x4, x, m + 1, m, N4, N, rfl, o16, (ox11.same s13).same sAll, d16.al, dN.al, ?_⟩
      refine ⟨_, _, rfl, rfl, ?_⟩
      have hno : ¬ (m + 1 = m ∧ N4 = N) := fun e => by omega
      refine eqQ ?_ (hq' (s15.trans s16))
      rw [decide_eq_false hno]
      rfl
def spLaw (K : PySem.W.Frag) : Sp := fun vs H Q _ => ∃ (a : Addr) (ns : List Int), vs = [.ref a] ∧ SqL K H a (ns.map V.int) ∧ ns.length ≤ 63 ∧ ∀ H', Q (.bl true) H'
theorem ok_law {f : Addr} {fd : FuncData} (F : Fun K "law" "law" st_law f fd) (T : Txt K mg C) (c__law_right : C8.Cal P w K mg base 9 "_law_right" spRight []) (c__law_generator : C8.Cal P w K mg base 2 "_law_generator" (spGenerator K) []) : FnOk P w K mg base CX0 10 f fd ["_law_script"] (spLaw K) := by
  refine F.ok sc_law (fun vs H Q E h => ?_) (fun cdv A outer s H vs Q E hr h => ?_)
  · obtain ⟨a, ns, rfl, _⟩ := h
    rfl
  · obtain ⟨a, ns, rfl, hS, hl, q⟩ := h
    refine ⟨_, (pss_cons (ps_for PassesOwn.never rfl (pi_range1 (by rfl) T.range (pa_cons pe_int pa_nil)) (pg_name (i := 1) sc_law.nd rfl (by first | exact Or.inl rfl | exact Or.inr rfl))
        (pss_one (ps_if (pt_not (pt_val (C8.pe_c c__law_right hr (by decide) (by rfl) (pa_cons (C8.pe_c c__law_generator hr (by decide) (by rfl) (pa_cons (pv 0) (pa_cons (pv 1) pa_nil))) pa_nil))))
          (pss_one (ps_ret pe_bl))
          pss_nil)))
      (pss_one (ps_ret pe_bl))), ?_⟩
    refine ⟨3, rfl, by decide, by decide, ?_⟩
    refine for_range (lo := 0) (n := _) (fun i σ H' => ∃ v1, σ = [some (.ref a), v1] ∧ Same H H') ⟨none, rfl, Same.refl H⟩ ?_ ?_
    · rintro i σ H1 hi ⟨v1, rfl, s1⟩
      have hi3 : i < 3 := by omega
      refine ⟨_, rfl, _, rfl, a, ns, i, ?_, s1.seq hS, hl, by omega, fun g H2 s2 ng g2 => ?_⟩
      · show [V.ref a, V.int (0 + (i : Int))] = _
        rw [Int.zero_add]
      · exact ⟨g, rfl, g2, fun H3 b3 => ⟨true, rfl, iteF ⟨_, rfl, s1.trans (fun c o e => b3 c o (ne_of_none e ng) (s2 _ _ e))⟩⟩⟩
    · rintro σ H1 ⟨v1, rfl, s1⟩
      exact q H1
end
end Cs
end
section
set_option maxRecDepth 100000
set_option maxHeartbeats 8000000
/-! What the top has written, and the law's walk over it. Printed by gen_fin.py. -/
namespace Cs
open PySem L2 SX
/-- a def of the module, as the top has written it -/
def DefI (K : PySem.W.Frag) (x : Str) (st : Stmt) : Prop := ∃ f fd, Fun K x x st f fd ∧ PySem.W.nsIn K mainGlobals x = some (some (.ref f))
theorem dI {K : PySem.W.Frag} {x : Str} {st : Stmt} {f : Addr} {od an : Option Addr} {sl : Array (Option Value)} {oc kV dc pm cd ct : Value} (a : PySem.W.nsIn K mainGlobals x = some (some (.ref f)))
    (l : K.lookup f = some ⟨oc, od, .func (PySem.W.fnOf x x (defArgs st) (defBody st) (defScope st) .none kV dc pm an cd ct), sl⟩) (c : PySem.W.codeIn K cd x = true) (k : PySem.W.keepIn K (.ref f) = true) : DefI K x st := ⟨f, _, fun_mk l c k, a⟩
/-- a method of the class -/
def MetI (K : PySem.W.Frag) (C : Addr) (m q : Str) (st : Stmt) : Prop := ∃ f fd, Fun K m q st f fd ∧ PySem.W.findIn K (.ref C) m = some (some (.ref f)) ∧ PySem.W.isFn K (.ref f) = true
theorem mI {K : PySem.W.Frag} {C : Addr} {m q : Str} {st : Stmt} {f : Addr} {od an : Option Addr} {sl : Array (Option Value)} {oc kV dc pm cd ct : Value} (a : PySem.W.findIn K (.ref C) m = some (some (.ref f))) (i : PySem.W.isFn K (.ref f) = true)
    (l : K.lookup f = some ⟨oc, od, .func (PySem.W.fnOf m q (defArgs st) (defBody st) (defScope st) .none kV dc pm an cd ct), sl⟩) (c : PySem.W.codeIn K cd q = true) (k : PySem.W.keepIn K (.ref f) = true) : MetI K C m q st := ⟨f, _, fun_mk l c k, a, i⟩
section
variable {P : Program} {w : World} {K : PySem.W.Frag} {h : Heap} {mg : Str → Option Value} {base : Heap}
theorem DefI.cal {x : Str} {st : Stmt} {ps : List Str} {sp : Sp} {n : Nat} (d : DefI K x st) (X : K.In h) (G : h.Ns mainGlobals mg)
    (hb : ∀ (kV doc pm : Value) (an : Option Addr) (cdv ct : Value) (us : List Value), us.length = ps.length → bindArgs (PySem.W.fnOf x x (defArgs st) (defBody st) (defScope st) .none kV doc pm an cdv ct) ⟨us, []⟩ = pure (ps.zip us))
    (ok : ∀ f fd, Fun K x x st f fd → FnOk P w K mg base CX0 n f fd ps sp) : C8.Cal P w K mg base n x sp [] := by
  obtain ⟨f, fd, F, a⟩ := d
  exact ⟨f, fd, ps, [], ok f fd F, PySem.W.mg_of X G a, F.kp, F.binds hb, .nil⟩
theorem kit_same (C : Addr) : PySem.W.kitOne K (.ref C) (.ref C) = some true := by
  unfold PySem.W.kitOne
  rw [if_pos (by simp)]

theorem all_mk {l : PySem.W.OpenLaw} {fa C : Addr} (X : K.In h) (G : h.Ns mainGlobals mg) (hfa : mg "law" = some (.ref fa)) (aC : PySem.W.nsIn K mainGlobals "OpenText" = some (some (.ref C)))
    (d__law_points : DefI K "_law_points" st__law_points)
    (d_is_whole : DefI K "is_whole" st_is_whole)
    (d_is_between : DefI K "is_between" st_is_between)
    (d_are_counts : DefI K "are_counts" st_are_counts)
    (d_is_letters : DefI K "is_letters" st_is_letters)
    (d_is_form_for : DefI K "is_form_for" st_is_form_for)
    (d_check_number : DefI K "check_number" st_check_number)
    (d_check_many : DefI K "check_many" st_check_many)
    (d_check_full_word : DefI K "check_full_word" st_check_full_word)
    (d_plain : DefI K "plain" st_plain)
    (d_is_open_form : DefI K "is_open_form" st_is_open_form)
    (d_form_sum : DefI K "form_sum" st_form_sum)
    (d_form_times : DefI K "form_times" st_form_times)
    (d_borders : DefI K "borders" st_borders)
    (d_period_of : DefI K "period_of" st_period_of)
    (d_root : DefI K "root" st_root)
    (d_is_piece : DefI K "is_piece" st_is_piece)
    (d_measure : DefI K "measure" st_measure)
    (d_check_pieces : DefI K "check_pieces" st_check_pieces)
    (d_going_back : DefI K "going_back" st_going_back)
    (d_turned_back : DefI K "turned_back" st_turned_back)
    (d_push_word : DefI K "push_word" st_push_word)
    (d_push_power : DefI K "push_power" st_push_power)
    (d_normal_pieces : DefI K "normal_pieces" st_normal_pieces)
    (d__law_hash : DefI K "_law_hash" st__law_hash)
    (d__law_random : DefI K "_law_random" st__law_random)
    (d__law_cell : DefI K "_law_cell" st__law_cell)
    (d__law_generator : DefI K "_law_generator" st__law_generator)
    (d__law_letters : DefI K "_law_letters" st__law_letters)
    (d__law_word : DefI K "_law_word" st__law_word)
    (d__law_form : DefI K "_law_form" st__law_form)
    (d__law_plain : DefI K "_law_plain" st__law_plain)
    (d__law_value : DefI K "_law_value" st__law_value)
    (d__law_yes : DefI K "_law_yes" st__law_yes)
    (d__law_write : DefI K "_law_write" st__law_write)
    (d__law_open_pieces : DefI K "_law_open_pieces" st__law_open_pieces)
    (d__law_piece : DefI K "_law_piece" st__law_piece)
    (d__law_raw : DefI K "_law_raw" st__law_raw)
    (d__law_varied : DefI K "_law_varied" st__law_varied)
    (d__law_pair : DefI K "_law_pair" st__law_pair)
    (d__law_right : DefI K "_law_right" st__law_right)
    (d_law : DefI K "law" st_law)
    (m___init__ : MetI K C "__init__" "OpenText.__init__" st_OpenText___init__)
    (m_many : MetI K C "many" "OpenText.many" st_OpenText_many)
    (m_pieces : MetI K C "pieces" "OpenText.pieces" st_OpenText_pieces)
    (m___eq__ : MetI K C "__eq__" "OpenText.__eq__" st_OpenText___eq__)
    (pg : PySem.W.plainGet K C Str.empty = true)
    (hd : PySem.W.hasDictIn K C = true)
    (po : PySem.W.plainOver K C = true)
    (sa : PySem.W.findIn K (.ref C) "__setattr__" = some (some (.builtin "object.__setattr__")))
    (mk : PySem.W.makesIn K C = true)
    (kc : PySem.W.keepIn K (.ref C) = true)
    (nM : PySem.W.findIn K (.ref C) "_many" = some none)
    (nP : PySem.W.findIn K (.ref C) "_pieces" = some none)
    (ha : PySem.W.findIn K (.ref C) "__class__" = some (some (.builtin "object.__class__")))
    (hn : PySem.W.specialIn K (.builtin "object.__class__") "__get__" = some (some (.builtin "getset_descriptor.__get__")))
    (htk : PySem.W.takesIn K (.builtin "object.__class__") = some true)
    (hm : PySem.W.mroIn K C (.type "object") = some true)
    (z_len : PySem.W.nsIn K mainGlobals "len" = some none)
    (z_isinstance : PySem.W.nsIn K mainGlobals "isinstance" = some none)
    (z_sum : PySem.W.nsIn K mainGlobals "sum" = some none)
    (z_max : PySem.W.nsIn K mainGlobals "max" = some none)
    (z_zip : PySem.W.nsIn K mainGlobals "zip" = some none)
    (z_range : PySem.W.nsIn K mainGlobals "range" = some none)
    (z_int : PySem.W.nsIn K mainGlobals "int" = some none)
    (z_bool : PySem.W.nsIn K mainGlobals "bool" = some none)
    (z_str : PySem.W.nsIn K mainGlobals "str" = some none)
    (z_tuple : PySem.W.nsIn K mainGlobals "tuple" = some none)
    (z_list : PySem.W.nsIn K mainGlobals "list" = some none)
    {zL : Str} {tL : Tok} (g_LETTERS : PySem.W.nsIn K mainGlobals "LETTERS" = some (some (.str zL tL))) (e_LETTERS : zL = S abc)
    {i_MOST_UNKNOWNS : Int} {t_MOST_UNKNOWNS : Tok} (g_MOST_UNKNOWNS : PySem.W.nsIn K mainGlobals "MOST_UNKNOWNS" = some (some (.int i_MOST_UNKNOWNS t_MOST_UNKNOWNS))) (e_MOST_UNKNOWNS : i_MOST_UNKNOWNS = 3)
    {i_MOST_LETTERS : Int} {t_MOST_LETTERS : Tok} (g_MOST_LETTERS : PySem.W.nsIn K mainGlobals "MOST_LETTERS" = some (some (.int i_MOST_LETTERS t_MOST_LETTERS))) (e_MOST_LETTERS : i_MOST_LETTERS = 20000)
    {i_MOST_PIECES : Int} {t_MOST_PIECES : Tok} (g_MOST_PIECES : PySem.W.nsIn K mainGlobals "MOST_PIECES" = some (some (.int i_MOST_PIECES t_MOST_PIECES))) (e_MOST_PIECES : i_MOST_PIECES = 5000)
    {i_MOST_MEASURE : Int} {t_MOST_MEASURE : Tok} (g_MOST_MEASURE : PySem.W.nsIn K mainGlobals "MOST_MEASURE" = some (some (.int i_MOST_MEASURE t_MOST_MEASURE))) (e_MOST_MEASURE : i_MOST_MEASURE = 2000)
    {i_MOST_PIECE_LETTERS : Int} {t_MOST_PIECE_LETTERS : Tok} (g_MOST_PIECE_LETTERS : PySem.W.nsIn K mainGlobals "MOST_PIECE_LETTERS" = some (some (.int i_MOST_PIECE_LETTERS t_MOST_PIECE_LETTERS))) (e_MOST_PIECE_LETTERS : i_MOST_PIECE_LETTERS = 2000)
    : ∃ fd : FuncData, (∀ (s : Shared) (v : Value), BindsTo s fd ⟨[v], []⟩ [("_law_script", v)]) ∧ ∀ base : Heap, K.In base → base.Ns mainGlobals mg → FnOk l.prog w K mg base CX0 10 fa fd ["_law_script"] (spLaw K) := by
  obtain ⟨fl, fdl, Fl, al⟩ := d_law
  have e := hfa.symm.trans (PySem.W.mg_of X G al)
  cases e
  subst e_LETTERS
  subst e_MOST_UNKNOWNS
  subst e_MOST_LETTERS
  subst e_MOST_PIECES
  subst e_MOST_MEASURE
  subst e_MOST_PIECE_LETTERS
  have T : Txt K mg C := {
    len := PySem.W.mg_none_of X G z_len
    isinstance := PySem.W.mg_none_of X G z_isinstance
    sum := PySem.W.mg_none_of X G z_sum
    max := PySem.W.mg_none_of X G z_max
    zip := PySem.W.mg_none_of X G z_zip
    range := PySem.W.mg_none_of X G z_range
    int := PySem.W.mg_none_of X G z_int
    bool := PySem.W.mg_none_of X G z_bool
    str := PySem.W.mg_none_of X G z_str
    tuple := PySem.W.mg_none_of X G z_tuple
    list := PySem.W.mg_none_of X G z_list
    gLETTERS := ⟨_, PySem.W.mg_of X G g_LETTERS, ⟨_, rfl⟩⟩
    gMOST_UNKNOWNS := ⟨_, PySem.W.mg_of X G g_MOST_UNKNOWNS, ⟨_, rfl⟩⟩
    gMOST_LETTERS := ⟨_, PySem.W.mg_of X G g_MOST_LETTERS, ⟨_, rfl⟩⟩
    gMOST_PIECES := ⟨_, PySem.W.mg_of X G g_MOST_PIECES, ⟨_, rfl⟩⟩
    gMOST_MEASURE := ⟨_, PySem.W.mg_of X G g_MOST_MEASURE, ⟨_, rfl⟩⟩
    gMOST_PIECE_LETTERS := ⟨_, PySem.W.mg_of X G g_MOST_PIECE_LETTERS, ⟨_, rfl⟩⟩
    mgC := PySem.W.mg_of X G aC
    isC := ⟨⟨pg, hd, po, sa⟩, ha, hn, htk, hm, kit_same C⟩
    nM := nM
    nP := nP }
  refine ⟨fdl, fun s v => ?_, fun base _ _ => ?_⟩
  · obtain ⟨oc, od, kV, doc, pm, an, cdv, ct, osl, rfl, lk, hcd⟩ := Fl.ex
    exact .of_eq rfl
  have c_is_whole : C8.Cal l.prog w K mg base 1 "is_whole" spWhole [] := d_is_whole.cal X G (fun _ _ _ _ _ _ us hl => match us, hl with | [_], _ => rfl) fun f fd F => ok_is_whole F T
  have c_is_between : C8.Cal l.prog w K mg base 2 "is_between" spBetween [] := d_is_between.cal X G (fun _ _ _ _ _ _ us hl => match us, hl with | [_, _, _], _ => rfl) fun f fd F => ok_is_between F T c_is_whole
  have c_are_counts : C8.Cal l.prog w K mg base 3 "are_counts" spCounts [] := d_are_counts.cal X G (fun _ _ _ _ _ _ us hl => match us, hl with | [_], _ => rfl) fun f fd F => ok_are_counts F T c_is_between
  have c_is_letters : C8.Cal l.prog w K mg base 1 "is_letters" spLetters [] := d_is_letters.cal X G (fun _ _ _ _ _ _ us hl => match us, hl with | [_, _], _ => rfl) fun f fd F => ok_is_letters F T
  have c_is_form_for : C8.Cal l.prog w K mg base 4 "is_form_for" spFormFor [] := d_is_form_for.cal X G (fun _ _ _ _ _ _ us hl => match us, hl with | [_, _], _ => rfl) fun f fd F => ok_is_form_for F T c_are_counts
  have c_check_number : C8.Cal l.prog w K mg base 3 "check_number" spNumber [] := d_check_number.cal X G (fun _ _ _ _ _ _ us hl => match us, hl with | [_, _, _], _ => rfl) fun f fd F => ok_check_number F T c_is_between
  have c_check_many : C8.Cal l.prog w K mg base 4 "check_many" spMany [] := d_check_many.cal X G (fun _ _ _ _ _ _ us hl => match us, hl with | [_], _ => rfl) fun f fd F => ok_check_many F T c_check_number
  have c_check_full_word : C8.Cal l.prog w K mg base 2 "check_full_word" spFullWord [] := d_check_full_word.cal X G (fun _ _ _ _ _ _ us hl => match us, hl with | [_, _], _ => rfl) fun f fd F => ok_check_full_word F T c_is_letters
  have c_plain : C8.Cal l.prog w K mg base 1 "plain" spPlain [] := d_plain.cal X G (fun _ _ _ _ _ _ us hl => match us, hl with | [_, _], _ => rfl) fun f fd F => ok_plain F T
  have c_is_open_form : C8.Cal l.prog w K mg base 1 "is_open_form" spOpen [] := d_is_open_form.cal X G (fun _ _ _ _ _ _ us hl => match us, hl with | [_], _ => rfl) fun f fd F => ok_is_open_form F T
  have c_form_sum : C8.Cal l.prog w K mg base 1 "form_sum" spSum [] := d_form_sum.cal X G (fun _ _ _ _ _ _ us hl => match us, hl with | [_, _], _ => rfl) fun f fd F => ok_form_sum F T
  have c_form_times : C8.Cal l.prog w K mg base 1 "form_times" spTimes [] := d_form_times.cal X G (fun _ _ _ _ _ _ us hl => match us, hl with | [_, _], _ => rfl) fun f fd F => ok_form_times F T
  have c_borders : C8.Cal l.prog w K mg base 1 "borders" spBorders [] := d_borders.cal X G (fun _ _ _ _ _ _ us hl => match us, hl with | [_], _ => rfl) fun f fd F => ok_borders F T
  have c_period_of : C8.Cal l.prog w K mg base 2 "period_of" spPeriod [] := d_period_of.cal X G (fun _ _ _ _ _ _ us hl => match us, hl with | [_], _ => rfl) fun f fd F => ok_period_of F T c_borders
  have c_root : C8.Cal l.prog w K mg base 3 "root" spRoot [] := d_root.cal X G (fun _ _ _ _ _ _ us hl => match us, hl with | [_], _ => rfl) fun f fd F => ok_root F T c_check_full_word c_period_of
  have c_is_piece : C8.Cal l.prog w K mg base 5 "is_piece" spPiece [] := d_is_piece.cal X G (fun _ _ _ _ _ _ us hl => match us, hl with | [_, _], _ => rfl) fun f fd F => ok_is_piece F T c_is_letters c_is_form_for
  have c_measure : C8.Cal l.prog w K mg base 2 "measure" spMeasure [] := d_measure.cal X G (fun _ _ _ _ _ _ us hl => match us, hl with | [_], _ => rfl) fun f fd F => ok_measure F T c_is_open_form
  have c_check_pieces : C8.Cal l.prog w K mg base 6 "check_pieces" spCheckPieces [] := d_check_pieces.cal X G (fun _ _ _ _ _ _ us hl => match us, hl with | [_, _], _ => rfl) fun f fd F => ok_check_pieces F T c_check_many c_is_piece c_measure
  have c_going_back : C8.Cal l.prog w K mg base 1 "going_back" spBack [] := d_going_back.cal X G (fun _ _ _ _ _ _ us hl => match us, hl with | [_, _], _ => rfl) fun f fd F => ok_going_back F T
  have c_turned_back : C8.Cal l.prog w K mg base 1 "turned_back" spTurned [] := d_turned_back.cal X G (fun _ _ _ _ _ _ us hl => match us, hl with | [_, _], _ => rfl) fun f fd F => ok_turned_back F T
  have c_push_word : C8.Cal l.prog w K mg base 1 "push_word" spPushWord [] := d_push_word.cal X G (fun _ _ _ _ _ _ us hl => match us, hl with | [_, _, _], _ => rfl) fun f fd F => ok_push_word F T
  have c_push_power : C8.Cal l.prog w K mg base 2 "push_power" spPushPower [] := d_push_power.cal X G (fun _ _ _ _ _ _ us hl => match us, hl with | [_, _, _, _], _ => rfl) fun f fd F => ok_push_power F T c_going_back c_turned_back c_push_word c_form_sum
  have c_normal_pieces : C8.Cal l.prog w K mg base 4 "normal_pieces" spNormal [] := d_normal_pieces.cal X G (fun _ _ _ _ _ _ us hl => match us, hl with | [_, _], _ => rfl) fun f fd F => ok_normal_pieces F T c_plain c_is_open_form c_root c_form_times c_push_power c_push_word
  have c_OpenText : C8.Mak l.prog w K mg base 7 "OpenText" C (spInit C) [] := by
    obtain ⟨f, fd, F, a, i⟩ := m___init__
    exact ⟨f, fd, _, [], ⟨mk, a, i, kc⟩, ok_init F T c_check_pieces c_normal_pieces, T.mgC, F.binds fun _ _ _ _ _ _ us hl => match us, hl with | [_, _, _], _ => rfl, .nil⟩
  have c_OpenText_many : C8.Met l.prog w K mg base 1 C "many" (spOMany C) [] := by
    obtain ⟨f, fd, F, a, i⟩ := m_many
    exact ⟨f, fd, _, [], T.isC.cl, ⟨a, i, F.kp⟩, ok_many F T, F.binds fun _ _ _ _ _ _ us hl => match us, hl with | [_], _ => rfl, .nil⟩
  have c_OpenText_pieces : C8.Met l.prog w K mg base 1 C "pieces" (spOPieces C) [] := by
    obtain ⟨f, fd, F, a, i⟩ := m_pieces
    exact ⟨f, fd, _, [], T.isC.cl, ⟨a, i, F.kp⟩, ok_pieces F T, F.binds fun _ _ _ _ _ _ us hl => match us, hl with | [_], _ => rfl, .nil⟩
  have c_OpenText_eq : EqA l.prog w K mg base 1 C (spOEq C) := by
    obtain ⟨f, fd, F, a, i⟩ := m___eq__
    exact ⟨f, fd, _, a, i, ok_eq F T, F.binds fun _ _ _ _ _ _ us hl => match us, hl with | [_, _], _ => rfl⟩
  have c__law_hash : C8.Cal l.prog w K mg base 1 "_law_hash" spHash [] := d__law_hash.cal X G (fun _ _ _ _ _ _ us hl => match us, hl with | [_, _], _ => rfl) fun f fd F => ok_hash F T
  have c__law_random : C8.Cal l.prog w K mg base 2 "_law_random" spRandom [] := d__law_random.cal X G (fun _ _ _ _ _ _ us hl => match us, hl with | [_, _], _ => rfl) fun f fd F => ok_random F T c__law_hash
  have c__law_cell : C8.Cal l.prog w K mg base 1 "_law_cell" (spLCell K) [] := d__law_cell.cal X G (fun _ _ _ _ _ _ us hl => match us, hl with | [_, _], _ => rfl) fun f fd F => ok_cell F T
  have c__law_generator : C8.Cal l.prog w K mg base 2 "_law_generator" (spGenerator K) [] := d__law_generator.cal X G (fun _ _ _ _ _ _ us hl => match us, hl with | [_, _], _ => rfl) fun f fd F => ok_generator F T c__law_cell
  have c__law_letters : C8.Cal l.prog w K mg base 3 "_law_letters" spLetters3 [] := d__law_letters.cal X G (fun _ _ _ _ _ _ us hl => match us, hl with | [_], _ => rfl) fun f fd F => ok_letters F T c__law_random
  have c__law_word : C8.Cal l.prog w K mg base 3 "_law_word" spWord [] := d__law_word.cal X G (fun _ _ _ _ _ _ us hl => match us, hl with | [_, _, _, _], _ => rfl) fun f fd F => ok_word F T c__law_random
  have c__law_form : C8.Cal l.prog w K mg base 3 "_law_form" spForm [] := d__law_form.cal X G (fun _ _ _ _ _ _ us hl => match us, hl with | [_, _, _], _ => rfl) fun f fd F => ok_form F T c__law_random
  have c__law_plain : C8.Cal l.prog w K mg base 1 "_law_plain" spPlain [] := d__law_plain.cal X G (fun _ _ _ _ _ _ us hl => match us, hl with | [_, _], _ => rfl) fun f fd F => ok_lplain F T
  have c__law_value : C8.Cal l.prog w K mg base 1 "_law_value" spValue [] := d__law_value.cal X G (fun _ _ _ _ _ _ us hl => match us, hl with | [_, _], _ => rfl) fun f fd F => ok_value F T
  have c__law_yes : C8.Cal l.prog w K mg base 1 "_law_yes" spYes [] := d__law_yes.cal X G (fun _ _ _ _ _ _ us hl => match us, hl with | [_, _], _ => rfl) fun f fd F => ok_yes F T
  have c__law_write : C8.Cal l.prog w K mg base 2 "_law_write" spWrite [] := d__law_write.cal X G (fun _ _ _ _ _ _ us hl => match us, hl with | [_, _], _ => rfl) fun f fd F => ok_write F T c__law_value
  have c__law_open_pieces : C8.Cal l.prog w K mg base 1 "_law_open_pieces" spOpens [] := d__law_open_pieces.cal X G (fun _ _ _ _ _ _ us hl => match us, hl with | [_], _ => rfl) fun f fd F => ok_opens F T
  have c__law_points : C8.Cal l.prog w K mg base 4 "_law_points" spPts [] := by
    obtain ⟨f, fd, F, a⟩ := d__law_points
    exact cal_pts F T (PySem.W.mg_of X G a) F.kp (F.binds fun _ _ _ _ _ _ us hl => match us, hl with | [_, _], _ => rfl)
  have c__law_piece : C8.Cal l.prog w K mg base 4 "_law_piece" spLPiece [] := d__law_piece.cal X G (fun _ _ _ _ _ _ us hl => match us, hl with | [_, _, _, _, _], _ => rfl) fun f fd F => ok_lpiece F T c__law_random c__law_word c__law_form c__law_plain
  have c__law_raw : C8.Cal l.prog w K mg base 5 "_law_raw" spRaw [] := d__law_raw.cal X G (fun _ _ _ _ _ _ us hl => match us, hl with | [_, _, _, _, _], _ => rfl) fun f fd F => ok_raw F T c__law_random c__law_word c__law_piece
  have c__law_varied : C8.Cal l.prog w K mg base 4 "_law_varied" spVaried [] := d__law_varied.cal X G (fun _ _ _ _ _ _ us hl => match us, hl with | [_, _, _, _], _ => rfl) fun f fd F => ok_varied F T c__law_random c__law_form c__law_plain
  have c__law_pair : C8.Cal l.prog w K mg base 6 "_law_pair" spPair [] := d__law_pair.cal X G (fun _ _ _ _ _ _ us hl => match us, hl with | [_, _, _, _, _], _ => rfl) fun f fd F => ok_pair F T c__law_random c__law_raw c__law_varied c__law_plain
  have c__law_right : C8.Cal l.prog w K mg base 9 "_law_right" spRight [] := d__law_right.cal X G (fun _ _ _ _ _ _ us hl => match us, hl with | [_], _ => rfl) fun f fd F => ok_right F T c__law_random c__law_letters c__law_pair c_OpenText c__law_points c__law_open_pieces c__law_write c__law_yes c_OpenText_eq c_OpenText_many c_OpenText_pieces
  exact ok_law Fl T c__law_right c__law_generator
theorem walk {l : PySem.W.OpenLaw} {q : Program} {loose : List Str} {XP : (Str → Option Value) → Heap → Prop} {YP : World → Heap → Prop} {d : DefRec} {K : Params → PySem.W.Frag} (hn : l.most = some 63) (hdf : d.params.defaults = [])
    (hY : ∀ (w : World) (h : Heap), YP w h → (K w.params).In h)
    (F : ∀ (w : World) (mg : Str → Option Value) (fa : Addr) (h : Heap), (K w.params).In h → h.Ns mainGlobals mg → mg d.name = some (.ref fa) →
      ∃ fd : FuncData, (∀ (s : Shared) (u : Value), BindsTo s fd ⟨[u], []⟩ [("_law_script", u)]) ∧ ∀ base : Heap, (K w.params).In base → base.Ns mainGlobals mg → FnOk l.prog w (K w.params) mg base CX0 10 fa fd ["_law_script"] (spLaw (K w.params))) :
    PySem.W.WalkO q loose XP YP l.row.toRowW d [] (fun f vs => PySem.call f vs) :=
  L2.walk_of (n := 63) (k := 10) (x := "_law_script") (CX := fun _ => CX0) (sp := fun w => spLaw (K w.params)) hn (by decide) hdf ⟨rfl, by decide, by decide⟩ hY F (fun _ _ a ns hl _ hS => ⟨a, ns, rfl, hS, hl, fun _ => rfl⟩) fun _ _ _ _ _ z => z
end
end Cs
end

open PySem PySem.W PyProof.Rows in
set_option maxRecDepth 100000 in
set_option maxHeartbeats 0 in
theorem PySem.Challenge.cw_countscribe_k14_whole_equal_texts_holds : PySem.Challenge.rw_countscribe_k14_whole_equal_texts.Holds := by
  w_on; o_law; k_head; (case hw => w_witness2)
  k_fill
  refine Cs.walk (l := PySem.Challenge.rw_countscribe_k14_whole_equal_texts) rfl rfl (fun w h Y => PySem.W.kIn_of Y) ?F
  case F =>
    intro w mg fa h KX G hmg
    refine' Cs.all_mk KX G hmg ?aC ?d__law_points ?d_is_whole ?d_is_between ?d_are_counts ?d_is_letters ?d_is_form_for ?d_check_number ?d_check_many ?d_check_full_word ?d_plain ?d_is_open_form ?d_form_sum ?d_form_times ?d_borders ?d_period_of ?d_root ?d_is_piece ?d_measure ?d_check_pieces ?d_going_back ?d_turned_back ?d_push_word ?d_push_power ?d_normal_pieces ?d__law_hash ?d__law_random ?d__law_cell ?d__law_generator ?d__law_letters ?d__law_word ?d__law_form ?d__law_plain ?d__law_value ?d__law_yes ?d__law_write ?d__law_open_pieces ?d__law_piece ?d__law_raw ?d__law_varied ?d__law_pair ?d__law_right ?d_law ?m___init__ ?m_many ?m_pieces ?m___eq__ ?pg ?hd ?po ?sa ?mk ?kc ?nM ?nP ?ha ?hn ?htk ?hm ?z_len ?z_isinstance ?z_sum ?z_max ?z_zip ?z_range ?z_int ?z_bool ?z_str ?z_tuple ?z_list ?g_LETTERS ?e_LETTERS ?g_MOST_UNKNOWNS ?e_MOST_UNKNOWNS ?g_MOST_LETTERS ?e_MOST_LETTERS ?g_MOST_PIECES ?e_MOST_PIECES ?g_MOST_MEASURE ?e_MOST_MEASURE ?g_MOST_PIECE_LETTERS ?e_MOST_PIECE_LETTERS
    (case aC => k_is)
    (case d__law_points => refine' Cs.dI ?a ?l ?c ?k; (case a => k_is); (case l => k_is); (case c => k_is); (case k => k_is))
    (case d_is_whole => refine' Cs.dI ?a ?l ?c ?k; (case a => k_is); (case l => k_is); (case c => k_is); (case k => k_is))
    (case d_is_between => refine' Cs.dI ?a ?l ?c ?k; (case a => k_is); (case l => k_is); (case c => k_is); (case k => k_is))
    (case d_are_counts => refine' Cs.dI ?a ?l ?c ?k; (case a => k_is); (case l => k_is); (case c => k_is); (case k => k_is))
    (case d_is_letters => refine' Cs.dI ?a ?l ?c ?k; (case a => k_is); (case l => k_is); (case c => k_is); (case k => k_is))
    (case d_is_form_for => refine' Cs.dI ?a ?l ?c ?k; (case a => k_is); (case l => k_is); (case c => k_is); (case k => k_is))
    (case d_check_number => refine' Cs.dI ?a ?l ?c ?k; (case a => k_is); (case l => k_is); (case c => k_is); (case k => k_is))
    (case d_check_many => refine' Cs.dI ?a ?l ?c ?k; (case a => k_is); (case l => k_is); (case c => k_is); (case k => k_is))
    (case d_check_full_word => refine' Cs.dI ?a ?l ?c ?k; (case a => k_is); (case l => k_is); (case c => k_is); (case k => k_is))
    (case d_plain => refine' Cs.dI ?a ?l ?c ?k; (case a => k_is); (case l => k_is); (case c => k_is); (case k => k_is))
    (case d_is_open_form => refine' Cs.dI ?a ?l ?c ?k; (case a => k_is); (case l => k_is); (case c => k_is); (case k => k_is))
    (case d_form_sum => refine' Cs.dI ?a ?l ?c ?k; (case a => k_is); (case l => k_is); (case c => k_is); (case k => k_is))
    (case d_form_times => refine' Cs.dI ?a ?l ?c ?k; (case a => k_is); (case l => k_is); (case c => k_is); (case k => k_is))
    (case d_borders => refine' Cs.dI ?a ?l ?c ?k; (case a => k_is); (case l => k_is); (case c => k_is); (case k => k_is))
    (case d_period_of => refine' Cs.dI ?a ?l ?c ?k; (case a => k_is); (case l => k_is); (case c => k_is); (case k => k_is))
    (case d_root => refine' Cs.dI ?a ?l ?c ?k; (case a => k_is); (case l => k_is); (case c => k_is); (case k => k_is))
    (case d_is_piece => refine' Cs.dI ?a ?l ?c ?k; (case a => k_is); (case l => k_is); (case c => k_is); (case k => k_is))
    (case d_measure => refine' Cs.dI ?a ?l ?c ?k; (case a => k_is); (case l => k_is); (case c => k_is); (case k => k_is))
    (case d_check_pieces => refine' Cs.dI ?a ?l ?c ?k; (case a => k_is); (case l => k_is); (case c => k_is); (case k => k_is))
    (case d_going_back => refine' Cs.dI ?a ?l ?c ?k; (case a => k_is); (case l => k_is); (case c => k_is); (case k => k_is))
    (case d_turned_back => refine' Cs.dI ?a ?l ?c ?k; (case a => k_is); (case l => k_is); (case c => k_is); (case k => k_is))
    (case d_push_word => refine' Cs.dI ?a ?l ?c ?k; (case a => k_is); (case l => k_is); (case c => k_is); (case k => k_is))
    (case d_push_power => refine' Cs.dI ?a ?l ?c ?k; (case a => k_is); (case l => k_is); (case c => k_is); (case k => k_is))
    (case d_normal_pieces => refine' Cs.dI ?a ?l ?c ?k; (case a => k_is); (case l => k_is); (case c => k_is); (case k => k_is))
    (case d__law_hash => refine' Cs.dI ?a ?l ?c ?k; (case a => k_is); (case l => k_is); (case c => k_is); (case k => k_is))
    (case d__law_random => refine' Cs.dI ?a ?l ?c ?k; (case a => k_is); (case l => k_is); (case c => k_is); (case k => k_is))
    (case d__law_cell => refine' Cs.dI ?a ?l ?c ?k; (case a => k_is); (case l => k_is); (case c => k_is); (case k => k_is))
    (case d__law_generator => refine' Cs.dI ?a ?l ?c ?k; (case a => k_is); (case l => k_is); (case c => k_is); (case k => k_is))
    (case d__law_letters => refine' Cs.dI ?a ?l ?c ?k; (case a => k_is); (case l => k_is); (case c => k_is); (case k => k_is))
    (case d__law_word => refine' Cs.dI ?a ?l ?c ?k; (case a => k_is); (case l => k_is); (case c => k_is); (case k => k_is))
    (case d__law_form => refine' Cs.dI ?a ?l ?c ?k; (case a => k_is); (case l => k_is); (case c => k_is); (case k => k_is))
    (case d__law_plain => refine' Cs.dI ?a ?l ?c ?k; (case a => k_is); (case l => k_is); (case c => k_is); (case k => k_is))
    (case d__law_value => refine' Cs.dI ?a ?l ?c ?k; (case a => k_is); (case l => k_is); (case c => k_is); (case k => k_is))
    (case d__law_yes => refine' Cs.dI ?a ?l ?c ?k; (case a => k_is); (case l => k_is); (case c => k_is); (case k => k_is))
    (case d__law_write => refine' Cs.dI ?a ?l ?c ?k; (case a => k_is); (case l => k_is); (case c => k_is); (case k => k_is))
    (case d__law_open_pieces => refine' Cs.dI ?a ?l ?c ?k; (case a => k_is); (case l => k_is); (case c => k_is); (case k => k_is))
    (case d__law_piece => refine' Cs.dI ?a ?l ?c ?k; (case a => k_is); (case l => k_is); (case c => k_is); (case k => k_is))
    (case d__law_raw => refine' Cs.dI ?a ?l ?c ?k; (case a => k_is); (case l => k_is); (case c => k_is); (case k => k_is))
    (case d__law_varied => refine' Cs.dI ?a ?l ?c ?k; (case a => k_is); (case l => k_is); (case c => k_is); (case k => k_is))
    (case d__law_pair => refine' Cs.dI ?a ?l ?c ?k; (case a => k_is); (case l => k_is); (case c => k_is); (case k => k_is))
    (case d__law_right => refine' Cs.dI ?a ?l ?c ?k; (case a => k_is); (case l => k_is); (case c => k_is); (case k => k_is))
    (case d_law => refine' Cs.dI ?a ?l ?c ?k; (case a => k_is); (case l => k_is); (case c => k_is); (case k => k_is))
    (case m___init__ => refine' Cs.mI ?a ?i ?l ?c ?k; (case a => k_is); (case i => k_is); (case l => k_is); (case c => k_is); (case k => k_is))
    (case m_many => refine' Cs.mI ?a ?i ?l ?c ?k; (case a => k_is); (case i => k_is); (case l => k_is); (case c => k_is); (case k => k_is))
    (case m_pieces => refine' Cs.mI ?a ?i ?l ?c ?k; (case a => k_is); (case i => k_is); (case l => k_is); (case c => k_is); (case k => k_is))
    (case m___eq__ => refine' Cs.mI ?a ?i ?l ?c ?k; (case a => k_is); (case i => k_is); (case l => k_is); (case c => k_is); (case k => k_is))
    (case pg => k_is)
    (case hd => k_is)
    (case po => k_is)
    (case sa => k_is)
    (case mk => k_is)
    (case kc => k_is)
    (case nM => k_is)
    (case nP => k_is)
    (case ha => k_is)
    (case hn => k_is)
    (case htk => k_is)
    (case hm => k_is)
    (case z_len => k_is)
    (case z_isinstance => k_is)
    (case z_sum => k_is)
    (case z_max => k_is)
    (case z_zip => k_is)
    (case z_range => k_is)
    (case z_int => k_is)
    (case z_bool => k_is)
    (case z_str => k_is)
    (case z_tuple => k_is)
    (case z_list => k_is)
    (case g_LETTERS => k_is)
    (case e_LETTERS => first | rfl | decide +kernel)
    (case g_MOST_UNKNOWNS => k_is)
    (case e_MOST_UNKNOWNS => first | rfl | decide +kernel)
    (case g_MOST_LETTERS => k_is)
    (case e_MOST_LETTERS => first | rfl | decide +kernel)
    (case g_MOST_PIECES => k_is)
    (case e_MOST_PIECES => first | rfl | decide +kernel)
    (case g_MOST_MEASURE => k_is)
    (case e_MOST_MEASURE => first | rfl | decide +kernel)
    (case g_MOST_PIECE_LETTERS => k_is)
    (case e_MOST_PIECE_LETTERS => first | rfl | decide +kernel)
