import PyProof.Rows.All
import Wide.All
import OpenK.AllK
import Wide.FinOn
import HandS.ForMost
import HandS.Walk
import HandS.Zip
import HandS.Codes
import HandS.Conv
import HandS.TupAny
import HandS.IsInst
import HandS.IntHex
import HandS.SetKeys
import HandS.Strs
import KE.DatumIndex
import PySem.Challenge.RW_likeslips_k83_whole_facts_that_are_sums
set_option Elab.async false
set_option linter.all false
set_option maxRecDepth 100000
set_option maxHeartbeats 4000000
/-! Facts as functions of places: looking at places, and sums. Plain Lean. -/
namespace K83
abbrev Asg := Nat → Bool
abbrev Fn := Asg → Bool
def put (x : Asg) (i : Nat) (b : Bool) : Asg := fun j => if j = i then b else x j
def Rel (f : Fn) (i : Nat) : Prop := ∃ x, f (put x i false) ≠ f (put x i true)
def fixP (f : Fn) (i : Nat) (b : Bool) : Fn := fun x => f (put x i b)
/-- one way of looking at x takes k looks -/
inductive Pt : Fn → Asg → Nat → Prop
  | done {f : Fn} {x : Asg} : (∀ i, ¬ Rel f i) → Pt f x 0
  | look {f : Fn} {x : Asg} {k : Nat} (i : Nat) : Rel f i → Pt (fixP f i (x i)) x k → Pt f x (k + 1)
/-- sums of places, turned about or not: each place that matters matters everywhere -/
def Aff (f : Fn) : Prop := ∀ i, Rel f i → ∀ x, f (put x i false) ≠ f (put x i true)
/-- only the places below n matter -/
def Dep (n : Nat) (f : Fn) : Prop := ∀ x y : Asg, (∀ i, i < n → x i = y i) → f x = f y

theorem put_same (x : Asg) (i : Nat) (b : Bool) : put x i b i = b := if_pos rfl
theorem put_ne (x : Asg) {i j : Nat} (b : Bool) (h : j ≠ i) : put x i b j = x j := if_neg h
theorem put_put (x : Asg) (i : Nat) (b c : Bool) : put (put x i b) i c = put x i c := by
  funext j
  by_cases h : j = i
  · subst h; rw [put_same, put_same]
  · rw [put_ne _ _ h, put_ne _ _ h, put_ne _ _ h]
theorem put_comm (x : Asg) {i j : Nat} (b c : Bool) (h : i ≠ j) : put (put x i b) j c = put (put x j c) i b := by
  funext l
  by_cases h1 : l = i
  · subst h1
    rw [put_ne _ _ h, put_same, put_same]
  · rw [put_ne _ b h1]
    by_cases h2 : l = j
    · subst h2; rw [put_same, put_same]
    · rw [put_ne _ _ h2, put_ne _ _ h2, put_ne _ _ h1]
theorem put_self (x : Asg) (i : Nat) : put x i (x i) = x := by
  funext j
  by_cases h : j = i
  · subst h; rw [put_same]
  · rw [put_ne _ _ h]

theorem rel_fix {f : Fn} {i j : Nat} {b : Bool} (h : Rel (fixP f i b) j) : j ≠ i ∧ Rel f j := by
  obtain ⟨x, hx⟩ := h
  have hx' : f (put (put x j false) i b) ≠ f (put (put x j true) i b) := hx
  have hne : j ≠ i := by
    intro e
    subst e
    rw [put_put, put_put] at hx'
    exact hx' rfl
  refine ⟨hne, put x i b, ?_⟩
  rw [put_comm _ _ _ hne.symm, put_comm _ _ _ hne.symm]
  exact hx'
theorem Dep.fix {n : Nat} {f : Fn} (d : Dep n f) (i : Nat) (b : Bool) : Dep n (fixP f i b) := fun x y h => by
  refine d _ _ fun j hj => ?_
  by_cases e : j = i
  · subst e; rw [put_same, put_same]
  · rw [put_ne _ _ e, put_ne _ _ e]; exact h j hj
theorem Dep.lt {n : Nat} {f : Fn} (d : Dep n f) {i : Nat} (h : Rel f i) : i < n := by
  obtain ⟨x, hx⟩ := h
  by_cases e : i < n
  · exact e
  · refine absurd (d _ _ fun j hj => ?_) hx
    have : j ≠ i := by omega
    rw [put_ne _ _ this, put_ne _ _ this]
theorem not_rel {f : Fn} {i : Nat} (h : ¬ Rel f i) (x : Asg) (b : Bool) : f (put x i b) = f x := by
  have h' : ∀ x, f (put x i false) = f (put x i true) := fun x => Classical.byContradiction fun z => h ⟨x, z⟩
  have e : f (put x i (x i)) = f x := by rw [put_self]
  rw [← e]
  cases b <;> cases x i <;> first | rfl | exact h' x | exact (h' x).symm
theorem Aff.fix {f : Fn} (a : Aff f) (i : Nat) (b : Bool) : Aff (fixP f i b) := fun j hj x => by
  obtain ⟨hne, hr⟩ := rel_fix hj
  show f (put (put x j false) i b) ≠ f (put (put x j true) i b)
  rw [put_comm _ _ _ hne, put_comm _ _ _ hne]
  exact a j hr _
theorem Aff.rel_fix {f : Fn} (a : Aff f) {i j : Nat} {b : Bool} : Rel (fixP f i b) j ↔ j ≠ i ∧ Rel f j := by
  refine ⟨K83.rel_fix, fun ⟨hne, hr⟩ => ⟨fun _ => false, ?_⟩⟩
  show f (put (put _ j false) i b) ≠ f (put (put _ j true) i b)
  rw [put_comm _ _ _ hne, put_comm _ _ _ hne]
  exact a j hr _

/-! ### how many places matter -/
open Classical in
noncomputable def cnt (P : Nat → Prop) : Nat → Nat
  | 0 => 0
  | n + 1 => cnt P n + if P n then 1 else 0
open Classical in
theorem cnt_congr {P Q : Nat → Prop} : ∀ {n : Nat}, (∀ i, i < n → (P i ↔ Q i)) → cnt P n = cnt Q n
  | 0, _ => rfl
  | n + 1, h => by
    show cnt P n + (if P n then 1 else 0) = cnt Q n + (if Q n then 1 else 0)
    rw [cnt_congr fun i hi => h i (Nat.lt_succ_of_lt hi)]
    by_cases hp : P n
    · rw [if_pos hp, if_pos ((h n (Nat.lt_succ_self n)).mp hp)]
    · rw [if_neg hp, if_neg fun q => hp ((h n (Nat.lt_succ_self n)).mpr q)]
open Classical in
theorem cnt_zero {P : Nat → Prop} : ∀ {n : Nat}, (∀ i, i < n → ¬ P i) → cnt P n = 0
  | 0, _ => rfl
  | n + 1, h => by
    show cnt P n + (if P n then 1 else 0) = 0
    rw [cnt_zero fun i hi => h i (Nat.lt_succ_of_lt hi), if_neg (h n (Nat.lt_succ_self n))]
open Classical in
theorem cnt_one {P Q : Nat → Prop} {i : Nat} (hP : P i) (hQ : ¬ Q i) (h : ∀ j, j ≠ i → (P j ↔ Q j)) : ∀ {n : Nat}, i < n → cnt P n = cnt Q n + 1
  | 0, hi => absurd hi (Nat.not_lt_zero _)
  | n + 1, hi => by
    show cnt P n + (if P n then 1 else 0) = cnt Q n + (if Q n then 1 else 0) + 1
    by_cases e : i = n
    · subst e
      rw [if_pos hP, if_neg hQ, cnt_congr fun j hj => h j (Nat.ne_of_lt hj)]
    · rw [cnt_one hP hQ h (n := n) (by omega)]
      by_cases hp : P n
      · rw [if_pos hp, if_pos ((h n fun z => e z.symm).mp hp)]
      · rw [if_neg hp, if_neg fun q => hp ((h n fun z => e z.symm).mpr q)]
open Classical in
theorem cnt_filter {P : Nat → Prop} {p : Nat → Bool} : ∀ {n : Nat}, (∀ i, i < n → (p i = true ↔ P i)) → ((List.range n).filter p).length = cnt P n
  | 0, _ => rfl
  | n + 1, h => by
    rw [List.range_succ, List.filter_append, List.length_append, cnt_filter fun i hi => h i (Nat.lt_succ_of_lt hi)]
    show _ = cnt P n + (if P n then 1 else 0)
    congr 1
    by_cases hp : P n
    · rw [if_pos hp, List.filter_cons_of_pos ((h n (Nat.lt_succ_self n)).mpr hp)] <;> rfl
    · rw [if_neg hp, List.filter_cons_of_neg fun q => hp ((h n (Nat.lt_succ_self n)).mp q)] <;> rfl

/-! ### ways of looking -/
theorem Aff.pt {n : Nat} {f : Fn} {x : Asg} {k : Nat} (h : Pt f x k) : Dep n f → Aff f → k = cnt (Rel f) n := by
  induction h with
  | done hn => exact fun _ _ => (cnt_zero fun i _ => hn i).symm
  | @look f x k i hr _ ih =>
    intro d a
    rw [ih (d.fix i _) (a.fix i _)]
    refine (cnt_one (P := Rel f) (i := i) hr (fun q => (K83.rel_fix q).1 rfl) (fun j hj => ?_) (d.lt hr)).symm
    rw [a.rel_fix]
    exact ⟨fun q => ⟨hj, q⟩, fun q => q.2⟩
open Classical in
theorem cnt_fix_lt {n : Nat} {f : Fn} {i : Nat} {b : Bool} (hr : Rel f i) : i < n → cnt (Rel (fixP f i b)) n < cnt (Rel f) n := by
  have le : ∀ m, cnt (Rel (fixP f i b)) m ≤ cnt (Rel f) m := fun m => by
    induction m with
    | zero => exact Nat.le_refl _
    | succ m ih =>
      show cnt _ m + (if _ then 1 else 0) ≤ cnt _ m + (if _ then 1 else 0)
      by_cases hp : Rel (fixP f i b) m
      · rw [if_pos hp, if_pos (rel_fix hp).2]; omega
      · rw [if_neg hp]; omega
  induction n with
  | zero => exact fun h => absurd h (Nat.not_lt_zero _)
  | succ m ih =>
    intro hi
    show cnt _ m + (if _ then 1 else 0) < cnt _ m + (if _ then 1 else 0)
    by_cases e : i = m
    · subst e
      rw [if_pos hr, if_neg fun q => (rel_fix q).1 rfl]
      have := le i
      omega
    · have h1 := ih (by omega)
      by_cases hp : Rel (fixP f i b) m
      · rw [if_pos hp, if_pos (rel_fix hp).2]; omega
      · rw [if_neg hp]; omega
theorem pt_ex {n : Nat} : ∀ (c : Nat) {f : Fn}, Dep n f → cnt (Rel f) n ≤ c → ∀ x, ∃ k, Pt f x k
  | c, f, d, hc, x => by
    by_cases h : ∃ i, Rel f i
    · obtain ⟨i, hr⟩ := h
      have hlt := cnt_fix_lt (b := x i) hr (d.lt hr)
      match c, hc with
      | 0, hc => omega
      | c + 1, hc =>
        obtain ⟨k, hk⟩ := pt_ex c (d.fix i (x i)) (by omega) x
        exact ⟨k + 1, .look i hr hk⟩
    · exact ⟨0, .done fun i hi => h ⟨i, hi⟩⟩
theorem Dep.pt {n : Nat} {f : Fn} (d : Dep n f) (x : Asg) : ∃ k, Pt f x k := pt_ex _ d (Nat.le_refl _) x
theorem pt_congr {n : Nat} {f : Fn} {x : Asg} {k : Nat} (h : Pt f x k) : Dep n f → ∀ y, (∀ i, i < n → x i = y i) → Pt f y k := by
  induction h with
  | done hn => exact fun _ y _ => .done hn
  | @look f x k i hr _ ih =>
    intro d y e
    refine .look i hr ?_
    rw [← e i (d.lt hr)]
    exact ih (d.fix i _) y e
theorem pt_indep {f : Fn} {x : Asg} {k i : Nat} (h : Pt f x k) : ¬ Rel f i → ∀ b, Pt f (put x i b) k := by
  induction h with
  | done hn => exact fun _ b => .done hn
  | @look f x k l hr _ ih =>
    intro hi b
    have hne : l ≠ i := fun e => hi (e ▸ hr)
    refine .look l hr ?_
    rw [put_ne _ _ hne]
    exact ih (fun q => hi (rel_fix q).2) b

/-- two sums in which the same places matter are alike or unlike everywhere -/
theorem aff_both {n : Nat} {g h : Fn} (dg : Dep n g) (dh : Dep n h) (ag : Aff g) (ah : Aff h) (e : ∀ i, Rel g i ↔ Rel h i) (x y : Asg) : g x = h x → g y = h y := by
  intro hx
  have walk : ∀ k : Nat, g (fun i => if i < k then y i else x i) = h (fun i => if i < k then y i else x i) := fun k => by
    induction k with
    | zero =>
      have z : (fun i => if i < 0 then y i else x i) = x := by funext i; rw [if_neg (Nat.not_lt_zero i)]
      rw [z]; exact hx
    | succ k ih =>
      have z : (fun i => if i < k + 1 then y i else x i) = put (fun i => if i < k then y i else x i) k (y k) := by
        funext i
        by_cases e : i = k
        · subst e; rw [put_same, if_pos (Nat.lt_succ_self i)]
        · rw [put_ne _ _ e]
          by_cases l : i < k
          · rw [if_pos (by omega), if_pos l]
          · rw [if_neg (by omega), if_neg l]
      rw [z]
      generalize (fun i => if i < k then y i else x i) = m at ih
      by_cases hr : Rel g k
      · have h1 := ag k hr m
        have h2 := ah k ((e k).mp hr) m
        have h3 : g (put m k (m k)) = g m := by rw [put_self]
        have h4 : h (put m k (m k)) = h m := by rw [put_self]
        revert h1 h2 h3 h4 ih
        cases y k <;> cases m k <;> cases g (put m k false) <;> cases g (put m k true) <;> cases h (put m k false) <;> cases h (put m k true) <;> cases g m <;> cases h m <;> simp
      · rw [not_rel hr, not_rel fun q => hr ((e k).mpr q)]
        exact ih
  have z1 : g (fun i => if i < n then y i else x i) = g y := dg _ _ fun i hi => if_pos hi
  have z2 : h (fun i => if i < n then y i else x i) = h y := dh _ _ fun i hi => if_pos hi
  rw [← z1, ← z2]
  exact walk n

/-- THE EIGHTH FACT: if all ways of looking, at all rows, take k looks, the fact is a sum -/
theorem eighth {n : Nat} : ∀ (k : Nat) {f : Fn}, Dep n f → (∀ x j, Pt f x j → j = k) → Aff f
  | 0, f, d, h => fun i hi x => by
    obtain ⟨m, hm⟩ := (d.fix i (x i)).pt x
    exact absurd (h x _ (.look i hi hm)) (Nat.succ_ne_zero m)
  | k + 1, f, d, h => by
    have sub : ∀ i b, Rel f i → Aff (fixP f i b) ∧ ∀ x j, Pt (fixP f i b) x j → j = k := fun i b hi => by
      have hk : ∀ x j, Pt (fixP f i b) x j → j = k := fun x j hj => by
        have h1 : Pt (fixP f i b) (put x i b) j := pt_indep hj (fun q => (rel_fix q).1 rfl) b
        have h2 : Pt f (put x i b) (j + 1) := .look i hi (by rw [put_same]; exact h1)
        exact Nat.succ.inj (h _ _ h2)
      exact ⟨eighth k (d.fix i b) hk, hk⟩
    intro j hj y hy
    obtain ⟨x, hx⟩ := hj
    have hj : Rel f j := ⟨x, hx⟩
    have a0 := (sub j false hj).1
    have a1 := (sub j true hj).1
    have d0 := d.fix j false
    have d1 := d.fix j true
    -- the number of places that matter is k in both
    have num : ∀ {g : Fn}, Dep n g → Aff g → (∀ x j, Pt g x j → j = k) → cnt (Rel g) n = k := fun {g} dg ag hg => by
      obtain ⟨m, hm⟩ := dg.pt x
      rw [← ag.pt hm dg]
      exact hg _ _ hm
    have c0 := num d0 a0 (sub j false hj).2
    have c1 := num d1 a1 (sub j true hj).2
    -- some place matters in one of both alone
    have ex : ∃ i, ¬ (Rel (fixP f j false) i ↔ Rel (fixP f j true) i) := Classical.byContradiction fun no =>
      hx (aff_both d0 d1 a0 a1 (fun i => Classical.byContradiction fun z => no ⟨i, z⟩) y x hy)
    obtain ⟨i, hi⟩ := ex
    have hfi : Rel f i ∧ i ≠ j := by
      by_cases z : Rel (fixP f j false) i
      · exact ⟨(rel_fix z).2, (rel_fix z).1⟩
      · by_cases z2 : Rel (fixP f j true) i
        · exact ⟨(rel_fix z2).2, (rel_fix z2).1⟩
        · exact absurd ⟨fun q => absurd q z, fun q => absurd q z2⟩ hi
    -- whether j matters at a point hangs on i alone
    have same : ∀ u v : Asg, u i = v i → (f (put u j false) = f (put u j true) ↔ f (put v j false) = f (put v j true)) := fun u v e => by
      have au := (sub i (u i) hfi.1).1
      have at_ : ∀ w : Asg, w i = u i → (f (put w j false) = f (put w j true) ↔ ¬ Rel (fixP f i (u i)) j) := fun w hw => by
        have e1 : ∀ b, fixP f i (u i) (put w j b) = f (put w j b) := fun b => by
          show f (put (put w j b) i (u i)) = f (put w j b)
          have q : put (put w j b) i (u i) = put w j b := by
            have q1 : (put w j b) i = u i := by rw [put_ne _ _ hfi.2]; exact hw
            rw [← q1, put_self]
          rw [q]
        constructor
        · intro q r
          have := au j r w
          rw [e1, e1] at this
          exact this q
        · intro q
          have := (not_rel q w false).trans (not_rel q w true).symm
          rw [e1, e1] at this
          exact this
      rw [at_ u rfl, at_ v e.symm]
    have other : ∀ l, l ≠ i → (Rel (fixP f j false) l ↔ Rel (fixP f j true) l) := fun l hl => by
      have both : ∀ b, Rel (fixP f j b) l → ¬ Rel (fixP f j (!b)) l → False := fun b r1 r2 => by
        have hlj := (rel_fix r1).1
        have ab := (sub j b hj).1 l r1 x
        have e2 : fixP f j (!b) (put x l false) = fixP f j (!b) (put x l true) := (not_rel r2 x false).trans (not_rel r2 x true).symm
        have s := same (put x l false) (put x l true) (by rw [put_ne _ _ hl.symm, put_ne _ _ hl.symm])
        have e0 : ∀ c d, fixP f j d (put x l c) = f (put (put x l c) j d) := fun _ _ => rfl
        rw [e0, e0] at ab e2
        revert ab e2 s
        cases b <;> simp only [Bool.not_false, Bool.not_true] <;> cases f (put (put x l false) j false) <;> cases f (put (put x l false) j true) <;> cases f (put (put x l true) j false) <;> cases f (put (put x l true) j true) <;> simp
      exact ⟨fun r => Classical.byContradiction fun z => both false r z, fun r => Classical.byContradiction fun z => both true r z⟩
    by_cases z : Rel (fixP f j false) i
    · have z2 : ¬ Rel (fixP f j true) i := fun q => hi ⟨fun _ => q, fun _ => z⟩
      have := cnt_one z z2 other (d.lt hfi.1)
      omega
    · have z2 : Rel (fixP f j true) i := Classical.byContradiction fun q => hi ⟨fun r => absurd r z, fun r => absurd r q⟩
      have := cnt_one z2 z (fun l hl => (other l hl).symm) (d.lt hfi.1)
      omega
theorem eighth_iff {n : Nat} {f : Fn} (d : Dep n f) : (∃ k, ∀ x j, Pt f x j → j = k) ↔ Aff f :=
  ⟨fun ⟨k, h⟩ => eighth k d h, fun a => ⟨cnt (Rel f) n, fun x j h => a.pt h d⟩⟩

/-! ### the least and the greatest number of looks -/
def LK (f : Fn) (x : Asg) (a b : Nat) : Prop := Pt f x a ∧ Pt f x b ∧ ∀ j, Pt f x j → a ≤ j ∧ j ≤ b
theorem LK.uniq {f : Fn} {x : Asg} {a b c d : Nat} (h : LK f x a b) (h' : LK f x c d) : a = c ∧ b = d := by
  have h1 := h.2.2 _ h'.1
  have h2 := h.2.2 _ h'.2.1
  have h3 := h'.2.2 _ h.1
  have h4 := h'.2.2 _ h.2.1
  omega
theorem LK.none {f : Fn} {x : Asg} (h : ∀ i, ¬ Rel f i) : LK f x 0 0 := by
  refine ⟨.done h, .done h, fun j hj => ?_⟩
  cases hj with
  | done _ => exact ⟨Nat.le_refl _, Nat.le_refl _⟩
  | look i hr _ => exact absurd hr (h i)
theorem LK.step {f : Fn} {x : Asg} {A B : Nat → Nat} {m M : Nat} (hex : ∃ i, Rel f i) (hl : ∀ i, Rel f i → LK (fixP f i (x i)) x (A i) (B i))
    (hm : ∃ i, Rel f i ∧ m = A i) (hm' : ∀ i, Rel f i → m ≤ A i) (hM : ∃ i, Rel f i ∧ M = B i) (hM' : ∀ i, Rel f i → B i ≤ M) : LK f x (m + 1) (M + 1) := by
  obtain ⟨i, hi, rfl⟩ := hm
  obtain ⟨i', hi', rfl⟩ := hM
  refine ⟨.look i hi (hl i hi).1, .look i' hi' (hl i' hi').2.1, fun j hj => ?_⟩
  cases hj with
  | done h =>
    obtain ⟨l, hr⟩ := hex
    exact absurd hr (h l)
  | look l hr h =>
    have h1 := (hl l hr).2.2 _ h
    have h2 := hm' l hr
    have h3 := hM' l hr
    omega
theorem LK.congr {n : Nat} {f : Fn} {x y : Asg} {a b : Nat} (d : Dep n f) (e : ∀ i, i < n → x i = y i) (h : LK f x a b) : LK f y a b :=
  ⟨pt_congr h.1 d y e, pt_congr h.2.1 d y e, fun j hj => h.2.2 j (pt_congr hj d x fun i hi => (e i hi).symm)⟩
theorem LK.aff {n : Nat} {f : Fn} {x : Asg} {a b : Nat} (d : Dep n f) (af : Aff f) (h : LK f x a b) : a = cnt (Rel f) n ∧ b = cnt (Rel f) n := ⟨af.pt h.1 d, af.pt h.2.1 d⟩

/-! ### turned about -/
def flip (f : Fn) : Fn := fun x => !f x
theorem flip_flip (f : Fn) : flip (flip f) = f := by funext x; simp [flip]
theorem rel_flip {f : Fn} {i : Nat} : Rel (flip f) i ↔ Rel f i := by
  have h : ∀ x, (flip f (put x i false) ≠ flip f (put x i true)) ↔ (f (put x i false) ≠ f (put x i true)) := fun x => by
    unfold flip
    cases f (put x i false) <;> cases f (put x i true) <;> simp
  exact ⟨fun ⟨x, hx⟩ => ⟨x, (h x).mp hx⟩, fun ⟨x, hx⟩ => ⟨x, (h x).mpr hx⟩⟩
theorem pt_flip {f : Fn} {x : Asg} {k : Nat} (h : Pt f x k) : Pt (flip f) x k := by
  induction h with
  | done hn => exact .done fun i q => hn i (rel_flip.mp q)
  | look i hr _ ih => exact .look i (rel_flip.mpr hr) ih
theorem LK.flip {f : Fn} {x : Asg} {a b : Nat} (h : LK f x a b) : LK (flip f) x a b :=
  ⟨pt_flip h.1, pt_flip h.2.1, fun j hj => h.2.2 j (by have := pt_flip hj; rwa [flip_flip] at this)⟩
theorem aff_flip {f : Fn} (a : Aff f) : Aff (flip f) := fun i hi x => by
  have := a i (rel_flip.mp hi) x
  unfold flip
  revert this
  cases f (put x i false) <;> cases f (put x i true) <;> simp

/-! ### places in another order -/
def ren (p : Nat → Nat) (f : Fn) : Fn := fun x => f fun i => x (p i)
theorem put_ren {p q : Nat → Nat} (hqp : ∀ i, q (p i) = i) (hpq : ∀ i, p (q i) = i) (x : Asg) (k : Nat) (b : Bool) : (fun i => put x k b (p i)) = put (fun i => x (p i)) (q k) b := by
  funext i
  by_cases e : p i = k
  · subst e
    rw [put_same, hqp, put_same]
  · rw [put_ne _ _ e, put_ne _ _ fun z => e (by rw [z, hpq])]
theorem rel_ren {p q : Nat → Nat} (hqp : ∀ i, q (p i) = i) (hpq : ∀ i, p (q i) = i) {f : Fn} {k : Nat} : Rel (ren p f) k ↔ Rel f (q k) := by
  constructor
  · rintro ⟨x, hx⟩
    refine ⟨fun i => x (p i), ?_⟩
    rw [← put_ren hqp hpq, ← put_ren hqp hpq]
    exact hx
  · rintro ⟨x, hx⟩
    refine ⟨fun i => x (q i), ?_⟩
    show f (fun i => put _ k false (p i)) ≠ f (fun i => put _ k true (p i))
    rw [put_ren hqp hpq, put_ren hqp hpq]
    have e : (fun i => x (q (p i))) = x := by funext i; rw [hqp]
    rw [e]
    exact hx
theorem fix_ren {p q : Nat → Nat} (hqp : ∀ i, q (p i) = i) (hpq : ∀ i, p (q i) = i) {f : Fn} {k : Nat} {b : Bool} : fixP (ren p f) k b = ren p (fixP f (q k) b) := by
  funext x
  show f (fun i => put x k b (p i)) = f (put (fun i => x (p i)) (q k) b)
  rw [put_ren hqp hpq]
theorem pt_ren {p q : Nat → Nat} (hqp : ∀ i, q (p i) = i) (hpq : ∀ i, p (q i) = i) {g : Fn} {x : Asg} {k : Nat} (h : Pt g x k) : ∀ f, g = ren p f → Pt f (fun i => x (p i)) k := by
  induction h with
  | done hn =>
    rintro f rfl
    refine .done fun i hi => hn (p i) ((rel_ren hqp hpq).mpr ?_)
    rw [hqp]; exact hi
  | @look g x k i hr _ ih =>
    rintro f rfl
    refine .look (q i) ((rel_ren hqp hpq).mp hr) ?_
    have := ih (fixP f (q i) (x i)) (fix_ren hqp hpq)
    rw [hpq]
    exact this
theorem LK.ren {p q : Nat → Nat} (hqp : ∀ i, q (p i) = i) (hpq : ∀ i, p (q i) = i) {f : Fn} {x : Asg} {a b : Nat} (h : LK f (fun i => x (p i)) a b) : LK (ren p f) x a b := by
  have back : ∀ {k}, Pt f (fun i => x (p i)) k → Pt (K83.ren p f) x k := fun {k} hk => by
    have e : f = K83.ren q (K83.ren p f) := by
      funext y
      show f y = f (fun i => y (q (p i)))
      congr 1
      funext i
      rw [hqp]
    have := pt_ren (p := q) (q := p) hpq hqp hk _ e
    have z : (fun i => x (p (q i))) = x := by funext i; rw [hpq]
    rwa [z] at this
  exact ⟨back h.1, back h.2.1, fun j hj => h.2.2 j (pt_ren hqp hpq hj f rfl)⟩
end K83
/-! Facts, rows and standings as lists. Plain Lean. -/
namespace K83
/-- what a row is worth, the first sign the greatest -/
def val (r : List Bool) : Nat := r.foldl (fun a b => 2 * a + b.toNat) 0
def signs : Option Bool → List Bool
  | none => [false, true]
  | some b => [b]
def fitStep (acc : List (List Bool)) (m : Option Bool) : List (List Bool) := acc.flatMap fun r => (signs m).map fun b => r ++ [b]
/-- the rows that fit a standing, ascending -/
def fit (σ : List (Option Bool)) : List (List Bool) := σ.foldl fitStep [[]]
def dots (n : Nat) : List (Option Bool) := List.replicate n none
/-- the sign of a fact for a row -/
def at_ (F : List Bool) (r : List Bool) : Bool := F.getD (val r) false
theorem val_snoc (r : List Bool) (b : Bool) : val (r ++ [b]) = 2 * val r + b.toNat := by unfold val; rw [List.foldl_append]; rfl
theorem fit_nil : fit [] = [[]] := rfl
theorem fit_snoc (σ : List (Option Bool)) (m : Option Bool) : fit (σ ++ [m]) = fitStep (fit σ) m := by unfold fit; rw [List.foldl_append]; rfl
theorem mem_fitStep {acc : List (List Bool)} {m : Option Bool} {r : List Bool} : r ∈ fitStep acc m ↔ ∃ q b, q ∈ acc ∧ b ∈ signs m ∧ r = q ++ [b] := by
  unfold fitStep
  rw [List.mem_flatMap]
  constructor
  · rintro ⟨q, hq, h⟩
    obtain ⟨b, hb, e⟩ := List.mem_map.mp h
    exact ⟨q, b, hq, hb, e.symm⟩
  · rintro ⟨q, b, hq, hb, e⟩
    exact ⟨q, hq, List.mem_map.mpr ⟨b, hb, e.symm⟩⟩
theorem snoc_ind {α : Type} {P : List α → Prop} (h0 : P []) (h1 : ∀ l a, P l → P (l ++ [a])) : ∀ l, P l := fun l => by
  have : ∀ n (l : List α), l.length = n → P l := fun n => by
    induction n with
    | zero =>
      intro l hl
      have : l = [] := List.length_eq_zero_iff.mp hl
      subst this; exact h0
    | succ n ih =>
      intro l hl
      have hne : l ≠ [] := fun e => by subst e; simp at hl
      rw [← List.dropLast_concat_getLast hne]
      exact h1 _ _ (ih _ (by rw [List.length_dropLast, hl]; rfl))
  exact this _ l rfl
theorem mem_signs {m : Option Bool} {b : Bool} : b ∈ signs m ↔ ∀ c, m = some c → c = b := by
  cases m with
  | none => cases b <;> simp [signs]
  | some d =>
    simp only [signs, List.mem_singleton]
    exact ⟨fun e c h => by cases h; exact e.symm, fun h => (h d rfl).symm⟩
theorem mem_fit : ∀ (σ : List (Option Bool)) (r : List Bool), r ∈ fit σ ↔ r.length = σ.length ∧ ∀ (i : Nat) (b : Bool), σ[i]? = some (some b) → r[i]? = some b := by
  refine snoc_ind (fun r => ?_) fun σ m ih r => ?_
  · rw [fit_nil, List.mem_singleton]
    constructor
    · rintro rfl
      exact ⟨rfl, fun i b h => by simp at h⟩
    · exact fun h => List.length_eq_zero_iff.mp h.1
  · rw [fit_snoc, mem_fitStep]
    constructor
    · rintro ⟨q, b, hq, hb, rfl⟩
      obtain ⟨h1, h2⟩ := (ih q).mp hq
      refine ⟨by rw [List.length_append, List.length_append, h1]; rfl, fun i c hc => ?_⟩
      by_cases hi : i < σ.length
      · rw [List.getElem?_append_left hi] at hc
        rw [List.getElem?_append_left (by omega)]
        exact h2 i c hc
      · rw [List.getElem?_append_right (by omega)] at hc
        rw [List.getElem?_append_right (by omega), h1]
        have e0 : i - σ.length = 0 := by
          by_cases e : i - σ.length = 0
          · exact e
          · rw [List.getElem?_eq_none (by simp; omega)] at hc; cases hc
        rw [e0] at hc ⊢
        have e1 : m = some c := by simpa using hc
        have := mem_signs.mp hb c e1
        subst this
        rfl
    · rintro ⟨h1, h2⟩
      have hne : r ≠ [] := fun e => by subst e; simp at h1
      have hl : r.dropLast.length = σ.length := by rw [List.length_dropLast, h1]; simp
      refine ⟨r.dropLast, r.getLast hne, (ih _).mpr ⟨hl, fun i b hb => ?_⟩, mem_signs.mpr fun c hc => ?_, (List.dropLast_concat_getLast hne).symm⟩
      · have hi : i < σ.length := by
          by_cases z : i < σ.length
          · exact z
          · rw [List.getElem?_eq_none (by omega)] at hb; cases hb
        have := h2 i b (by rw [List.getElem?_append_left hi]; exact hb)
        rw [← List.dropLast_concat_getLast hne, List.getElem?_append_left (by omega)] at this
        exact this
      · have := h2 σ.length c (by rw [List.getElem?_append_right (Nat.le_refl _), Nat.sub_self, hc]; rfl)
        rw [← List.dropLast_concat_getLast hne, List.getElem?_append_right (by omega), hl, Nat.sub_self] at this
        exact (Option.some.inj this).symm
theorem length_fitStep (acc : List (List Bool)) (m : Option Bool) : (fitStep acc m).length ≤ 2 * acc.length := by
  unfold fitStep
  induction acc with
  | nil => simp
  | cons r acc ih =>
    rw [List.flatMap_cons, List.length_append, List.length_map, List.length_cons]
    have : (signs m).length ≤ 2 := by cases m <;> simp [signs]
    omega
theorem length_fit : ∀ σ : List (Option Bool), (fit σ).length ≤ 2 ^ σ.length := by
  refine snoc_ind (Nat.le_refl _) fun σ m ih => ?_
  rw [fit_snoc, List.length_append, List.length_singleton, Nat.pow_succ]
  have := length_fitStep (fit σ) m
  omega
theorem dots_succ (n : Nat) : dots (n + 1) = dots n ++ [none] := by unfold dots; rw [List.replicate_succ']
theorem length_dots (n : Nat) : (dots n).length = n := List.length_replicate
theorem range_dbl (n : Nat) : (List.range n).flatMap (fun v => [2 * v, 2 * v + 1]) = List.range (2 * n) := by
  induction n with
  | zero => rfl
  | succ n ih =>
    rw [List.range_succ, List.flatMap_append, ih, show 2 * (n + 1) = 2 * n + 1 + 1 by omega, List.range_succ, List.range_succ, List.append_assoc]
    rfl
theorem fit_vals : ∀ n : Nat, (fit (dots n)).map val = List.range (2 ^ n)
  | 0 => rfl
  | n + 1 => by
    rw [dots_succ, fit_snoc, Nat.pow_succ, Nat.mul_comm, ← range_dbl, ← fit_vals n]
    unfold fitStep
    rw [List.map_flatMap, List.flatMap_map]
    congr 1
    funext r
    show [val (r ++ [false]), val (r ++ [true])] = _
    rw [val_snoc, val_snoc]
    rfl
theorem mem_all {n : Nat} {r : List Bool} : r ∈ fit (dots n) ↔ r.length = n := by
  rw [mem_fit, length_dots]
  refine ⟨fun h => h.1, fun h => ⟨h, fun i b hb => ?_⟩⟩
  unfold dots at hb
  rw [List.getElem?_replicate] at hb
  split at hb <;> cases hb
theorem length_all (n : Nat) : (fit (dots n)).length = 2 ^ n := by
  have := congrArg List.length (fit_vals n)
  rwa [List.length_map, List.length_range] at this
theorem val_lt : ∀ r : List Bool, val r < 2 ^ r.length := by
  refine snoc_ind (by decide) fun r b ih => ?_
  rw [val_snoc, List.length_append, List.length_singleton, Nat.pow_succ]
  have : b.toNat ≤ 1 := by cases b <;> decide
  omega
/-- a fact made row by row tells at each row what was put there -/
theorem at_made {n : Nat} (g : List Bool → Bool) {r : List Bool} (h : r.length = n) : at_ ((fit (dots n)).map g) r = g r := by
  have hm : r ∈ fit (dots n) := mem_all.mpr h
  obtain ⟨i, hi, e⟩ := List.getElem_of_mem hm
  have hv : val r = i := by
    have q : ((fit (dots n)).map val)[i]? = some (val r) := by rw [List.getElem?_map, List.getElem?_eq_getElem hi, e]; rfl
    rw [fit_vals, List.getElem?_range (by rw [length_all] at hi; exact hi)] at q
    exact (Option.some.inj q).symm
  unfold at_
  rw [hv, List.getD_eq_getElem?_getD, List.getElem?_map, List.getElem?_eq_getElem hi, e]
  rfl
/-- a fact is what it tells at the rows -/
theorem fact_eq {n : Nat} {F : List Bool} (hF : F.length = 2 ^ n) (g : List Bool → Bool) : (fit (dots n)).map g = F ↔ ∀ r : List Bool, r.length = n → at_ F r = g r := by
  constructor
  · rintro rfl r hr
    exact at_made g hr
  · intro h
    refine List.ext_getElem (by rw [List.length_map, length_all, hF]) fun i h1 h2 => ?_
    rw [List.getElem_map]
    have h1' : i < (fit (dots n)).length := by simpa using h1
    have hm : ((fit (dots n))[i]).length = n := mem_all.mp (List.getElem_mem h1')
    rw [← h _ hm]
    have hv : val ((fit (dots n))[i]) = i := by
      have q : ((fit (dots n)).map val)[i]? = some (val ((fit (dots n))[i])) := by rw [List.getElem?_map, List.getElem?_eq_getElem h1']; rfl
      rw [fit_vals, List.getElem?_range (by rw [length_all] at h1'; exact h1')] at q
      exact (Option.some.inj q).symm
    unfold at_
    rw [hv, List.getD_eq_getElem?_getD, List.getElem?_eq_getElem h2]
    rfl

/-! ### to functions of places -/
def rowOf (n : Nat) (x : Asg) : List Bool := (List.range n).map x
def asgOf (r : List Bool) : Asg := fun i => r.getD i false
def fn (F : List Bool) (n : Nat) : Fn := fun x => at_ F (rowOf n x)
def restr (σ : List (Option Bool)) (x : Asg) : Asg := fun i => match σ[i]? with
  | some (some b) => b
  | _ => x i
def sub (f : Fn) (σ : List (Option Bool)) : Fn := fun x => f (restr σ x)
theorem length_rowOf (n : Nat) (x : Asg) : (rowOf n x).length = n := by unfold rowOf; simp
theorem rowOf_get {n i : Nat} (x : Asg) (h : i < n) : (rowOf n x)[i]? = some (x i) := by unfold rowOf; rw [List.getElem?_map, List.getElem?_range h]; rfl
theorem rowOf_asgOf (r : List Bool) : rowOf r.length (asgOf r) = r := by
  refine List.ext_getElem? fun i => ?_
  by_cases h : i < r.length
  · rw [rowOf_get _ h, List.getElem?_eq_getElem h]
    unfold asgOf
    rw [List.getD_eq_getElem?_getD, List.getElem?_eq_getElem h]; rfl
  · rw [List.getElem?_eq_none (by rw [length_rowOf]; omega), List.getElem?_eq_none (by omega)]
theorem rowOf_congr {n : Nat} {x y : Asg} (h : ∀ i, i < n → x i = y i) : rowOf n x = rowOf n y := by
  unfold rowOf
  exact List.map_congr_left fun i hi => h i (List.mem_range.mp hi)
theorem fn_row {F : List Bool} {n : Nat} {r : List Bool} (h : r.length = n) : fn F n (asgOf r) = at_ F r := by
  subst h
  unfold fn
  rw [rowOf_asgOf]
theorem dep_fn (F : List Bool) (n : Nat) : Dep n (fn F n) := fun x y h => by
  unfold fn
  rw [rowOf_congr h]
theorem dep_sub {n : Nat} {f : Fn} (d : Dep n f) (σ : List (Option Bool)) : Dep n (sub f σ) := fun x y h => by
  refine d _ _ fun i hi => ?_
  unfold restr
  split
  · rfl
  · exact h i hi
theorem sub_dots (f : Fn) (n : Nat) : sub f (dots n) = f := by
  funext x
  show f (restr (dots n) x) = f x
  congr 1
  funext i
  unfold restr dots
  rw [List.getElem?_replicate]
  split
  · rename_i h
    split at h <;> cases h
  · rfl
theorem sub_set {f : Fn} {σ : List (Option Bool)} {p : Nat} {b : Bool} (h : σ[p]? = some none) : sub f (σ.set p (some b)) = fixP (sub f σ) p b := by
  have hp : p < σ.length := (List.getElem?_eq_some_iff.mp h).1
  funext x
  show f (restr (σ.set p (some b)) x) = f (restr σ (put x p b))
  congr 1
  funext i
  unfold restr
  by_cases e : i = p
  · subst e
    rw [List.getElem?_set_self hp, h, put_same]
  · rw [List.getElem?_set_ne (Ne.symm e), put_ne _ _ e]
theorem rel_sub {f : Fn} {σ : List (Option Bool)} {p : Nat} (h : Rel (sub f σ) p) (hp : p < σ.length) : σ[p]? = some none := by
  obtain ⟨x, hx⟩ := h
  rw [List.getElem?_eq_getElem hp]
  cases e : σ[p] with
  | none => rfl
  | some b =>
    refine absurd ?_ hx
    show f (restr σ (put x p false)) = f (restr σ (put x p true))
    congr 1
    funext i
    unfold restr
    by_cases z : i = p
    · subst z
      rw [List.getElem?_eq_getElem hp, e]
    · rw [put_ne _ _ z, put_ne _ _ z]
/-- whether a fact hangs on a place that is not told -/
def hangB (F : List Bool) (σ : List (Option Bool)) (p : Nat) : Bool := (fit (σ.set p (some false))).any fun r => at_ F r != at_ F (r.set p true)
theorem hangB_iff {F : List Bool} {σ : List (Option Bool)} {p : Nat} (h : σ[p]? = some none) : hangB F σ p = true ↔ Rel (sub (fn F σ.length) σ) p := by
  have hp : p < σ.length := (List.getElem?_eq_some_iff.mp h).1
  unfold hangB
  rw [List.any_eq_true]
  constructor
  · rintro ⟨r, hr, hne⟩
    have hne : at_ F r ≠ at_ F (r.set p true) := by simpa using hne
    obtain ⟨hl, hf⟩ := (mem_fit _ _).mp hr
    rw [List.length_set] at hl
    have key : ∀ b, rowOf σ.length (restr σ (put (asgOf r) p b)) = r.set p b := fun b => by
      refine List.ext_getElem? fun i => ?_
      by_cases hi : i < σ.length
      · rw [rowOf_get _ hi]
        by_cases e : i = p
        · subst e
          rw [List.getElem?_set_self (by omega)]
          unfold restr
          rw [h, put_same]
        · rw [List.getElem?_set_ne (Ne.symm e)]
          unfold restr
          rw [put_ne _ _ e]
          have hget : r[i]? = some (asgOf r i) := by
            unfold asgOf
            rw [List.getD_eq_getElem?_getD, List.getElem?_eq_getElem (by omega)]; rfl
          split
          · rename_i c hc
            rw [hf i c (by rw [List.getElem?_set_ne (Ne.symm e)]; exact hc)]
          · exact hget.symm
      · rw [List.getElem?_eq_none (by rw [length_rowOf]; omega), List.getElem?_eq_none (by rw [List.length_set]; omega)]
    refine ⟨asgOf r, ?_⟩
    show at_ F (rowOf _ (restr σ (put _ p false))) ≠ at_ F (rowOf _ (restr σ (put _ p true)))
    rw [key, key]
    have e0 : r.set p false = r := by
      have := hf p false (List.getElem?_set_self (by omega))
      refine List.ext_getElem? fun i => ?_
      by_cases e : i = p
      · subst e
        rw [List.getElem?_set_self (by omega), this]
      · rw [List.getElem?_set_ne (Ne.symm e)]
    rw [e0]
    exact hne
  · rintro ⟨x, hx⟩
    have hx : at_ F (rowOf σ.length (restr σ (put x p false))) ≠ at_ F (rowOf σ.length (restr σ (put x p true))) := hx
    refine ⟨rowOf σ.length (restr σ (put x p false)), (mem_fit _ _).mpr ⟨by rw [length_rowOf, List.length_set], fun i b hb => ?_⟩, ?_⟩
    · have hi : i < σ.length := by
        have := (List.getElem?_eq_some_iff.mp hb).1
        rwa [List.length_set] at this
      rw [rowOf_get _ hi]
      by_cases e : i = p
      · subst e
        rw [List.getElem?_set_self hp] at hb
        cases hb
        unfold restr
        rw [h, put_same]
      · rw [List.getElem?_set_ne (Ne.symm e)] at hb
        unfold restr
        rw [hb]
    · have e : (rowOf σ.length (restr σ (put x p false))).set p true = rowOf σ.length (restr σ (put x p true)) := by
        refine List.ext_getElem? fun i => ?_
        by_cases hi : i < σ.length
        · rw [rowOf_get _ hi]
          by_cases e : i = p
          · subst e
            rw [List.getElem?_set_self (by rw [length_rowOf]; exact hp)]
            unfold restr
            rw [h, put_same]
          · rw [List.getElem?_set_ne (Ne.symm e), rowOf_get _ hi]
            unfold restr
            rw [put_ne _ _ e, put_ne _ _ e]
        · rw [List.getElem?_eq_none (by rw [List.length_set, length_rowOf]; omega), List.getElem?_eq_none (by rw [length_rowOf]; omega)]
      rw [e]
      simpa using hx
/-- the places on which a fact hangs -/
def hang (F : List Bool) (σ : List (Option Bool)) : List Nat := (List.range σ.length).filter fun p => (σ[p]? == some none) && hangB F σ p
theorem mem_hang {F : List Bool} {σ : List (Option Bool)} {p : Nat} : p ∈ hang F σ ↔ Rel (sub (fn F σ.length) σ) p := by
  unfold hang
  rw [List.mem_filter, List.mem_range, Bool.and_eq_true]
  constructor
  · rintro ⟨_, h1, h2⟩
    exact (hangB_iff (eq_of_beq h1)).mp h2
  · intro h
    have hp : p < σ.length := (dep_sub (dep_fn F _) σ).lt h
    have h1 := rel_sub h hp
    exact ⟨hp, by rw [h1]; exact beq_self_eq_true _, (hangB_iff h1).mpr h⟩
theorem hang_lt {F : List Bool} {σ : List (Option Bool)} {p : Nat} (h : p ∈ hang F σ) : p < σ.length ∧ σ[p]? = some none := by
  unfold hang at h
  rw [List.mem_filter, List.mem_range, Bool.and_eq_true] at h
  exact ⟨h.1, eq_of_beq h.2.1⟩
theorem hang_len (F : List Bool) (σ : List (Option Bool)) : (hang F σ).length ≤ σ.length := by
  unfold hang
  exact Nat.le_trans (List.length_filter_le _ _) (by simp)
theorem hang_congr {F G : List Bool} {σ : List (Option Bool)} (h : ∀ p, Rel (sub (fn F σ.length) σ) p ↔ Rel (sub (fn G σ.length) σ) p) : hang F σ = hang G σ := by
  have e : ∀ H : List Bool, hang H σ = (List.range σ.length).filter fun p => decide (p ∈ hang H σ) := fun H => by
    show (List.range σ.length).filter _ = _
    refine List.filter_congr fun p hp => ?_
    rw [Bool.eq_iff_iff, decide_eq_true_iff]
    unfold hang
    rw [List.mem_filter]
    exact ⟨fun z => ⟨hp, z⟩, fun z => z.2⟩
  rw [e F, e G]
  refine List.filter_congr fun p _ => ?_
  rw [Bool.eq_iff_iff, decide_eq_true_iff, decide_eq_true_iff, mem_hang, mem_hang]
  exact h p
/-- how many places are not told -/
def opens (σ : List (Option Bool)) : Nat := σ.countP fun m => m.isNone
theorem opens_set : ∀ {σ : List (Option Bool)} {p : Nat} {b : Bool}, σ[p]? = some none → opens (σ.set p (some b)) + 1 = opens σ
  | [], _, _, h => by simp at h
  | m :: σ, 0, b, h => by
    have : m = none := by simpa using h
    subst this
    simp [opens]
  | m :: σ, p + 1, b, h => by
    have ih := opens_set (σ := σ) (p := p) (b := b) (by simpa using h)
    unfold opens at ih ⊢
    rw [List.set_cons_succ, List.countP_cons, List.countP_cons]
    omega
theorem opens_le (σ : List (Option Bool)) : opens σ ≤ σ.length := List.countP_le_length
end K83
/-! Sums of places, facts turned about, places in another order. Plain Lean. -/
namespace K83
/-- the sum of a row's signs at some places, and one sign more -/
def par (T : List Nat) (r : List Bool) (c : Bool) : Bool := (T.countP (fun p => r.getD p false) + c.toNat) % 2 == 1
theorem par_nil (r : List Bool) (c : Bool) : par [] r c = c := by cases c <;> rfl
theorem par_cons (p : Nat) (T : List Nat) (r : List Bool) (c : Bool) : par (p :: T) r c = (r.getD p false ^^ par T r c) := by
  unfold par
  rw [List.countP_cons]
  have hk : ∀ a b : Nat, a + b + c.toNat = a + c.toNat + b := fun a b => by omega
  rw [hk]
  cases r.getD p false
  · simp
  · have h2 : (List.countP (fun p => r.getD p false) T + c.toNat) % 2 = 0 ∨ (List.countP (fun p => r.getD p false) T + c.toNat) % 2 = 1 := by omega
    simp only [if_true]
    rcases h2 with h | h
    · have : (List.countP (fun p => r.getD p false) T + c.toNat + 1) % 2 = 1 := by omega
      rw [h, this]; rfl
    · have : (List.countP (fun p => r.getD p false) T + c.toNat + 1) % 2 = 0 := by omega
      rw [h, this]; rfl
theorem par_same {i : Nat} {r s : List Bool} {c : Bool} (h : ∀ j, j ≠ i → r.getD j false = s.getD j false) : ∀ {T : List Nat}, i ∉ T → par T r c = par T s c
  | [], _ => by rw [par_nil, par_nil]
  | p :: T, hi => by
    rw [par_cons, par_cons, par_same h fun q => hi (List.mem_cons_of_mem _ q), h p fun e => hi (e ▸ List.mem_cons_self)]
theorem par_diff {i : Nat} {r s : List Bool} {c : Bool} (h : ∀ j, j ≠ i → r.getD j false = s.getD j false) (hi : r.getD i false ≠ s.getD i false) : ∀ {T : List Nat}, T.Nodup → i ∈ T → par T r c ≠ par T s c
  | [], _, m => absurd m List.not_mem_nil
  | p :: T, nd, m => by
    obtain ⟨h1, h2⟩ := List.nodup_cons.mp nd
    rw [par_cons, par_cons]
    by_cases e : p = i
    · subst e
      rw [par_same h h1]
      revert hi
      cases r.getD p false <;> cases s.getD p false <;> cases par T s c <;> simp
    · have m' : i ∈ T := (List.mem_cons.mp m).resolve_left fun z => e z.symm
      have ih := par_diff (c := c) h hi h2 m'
      rw [h p e]
      revert ih
      cases s.getD p false <;> cases par T r c <;> cases par T s c <;> simp
theorem par_zero {r : List Bool} {c : Bool} (h : ∀ j, r.getD j false = false) : ∀ T : List Nat, par T r c = c
  | [] => par_nil r c
  | p :: T => by rw [par_cons, par_zero h T, h p]; cases c <;> rfl
/-- all ascending tuples of places below n, as the law makes them -/
def lots : Nat → List (List Nat)
  | 0 => [[]]
  | n + 1 => lots n ++ (lots n).map fun T => T ++ [n]
theorem lots_filter : ∀ (n : Nat) {T : List Nat}, T ∈ lots n → T = (List.range n).filter fun i => decide (i ∈ T)
  | 0, T, h => by
    have : T = [] := by simpa [lots] using h
    subst this; rfl
  | n + 1, T, h => by
    have lt : ∀ {S : List Nat}, S ∈ lots n → ∀ i ∈ S, i < n := fun {S} hS i hi => by
      rw [lots_filter n hS, List.mem_filter] at hi
      exact List.mem_range.mp hi.1
    have key : ∀ {S : List Nat} (x : List Nat), S ∈ lots n → (∀ i ∈ x, ¬ i < n) → (List.range n).filter (fun i => decide (i ∈ S ++ x)) = S := fun {S} x hS hx => by
      conv => rhs; rw [lots_filter n hS]
      refine List.filter_congr fun i hi => ?_
      rw [Bool.eq_iff_iff, decide_eq_true_iff, decide_eq_true_iff, List.mem_append]
      exact ⟨fun z => z.resolve_right fun q => hx i q (List.mem_range.mp hi), .inl⟩
    rw [List.range_succ, List.filter_append]
    rcases List.mem_append.mp h with h | h
    · have := key [] h (fun _ q => absurd q List.not_mem_nil)
      rw [List.append_nil] at this
      rw [this, List.filter_cons_of_neg (by rw [decide_eq_true_iff]; exact fun q => absurd (lt h n q) (Nat.lt_irrefl n))]
      simp
    · obtain ⟨S, hS, rfl⟩ := List.mem_map.mp h
      rw [key [n] hS fun i hi => by rw [List.mem_singleton.mp hi]; exact Nat.lt_irrefl n]
      rw [List.filter_cons_of_pos (by rw [decide_eq_true_iff]; exact List.mem_append_right _ (List.mem_singleton.mpr rfl))]
      rfl
theorem lots_lt {n : Nat} {T : List Nat} (h : T ∈ lots n) {i : Nat} (hi : i ∈ T) : i < n := by
  rw [lots_filter n h, List.mem_filter] at hi
  exact List.mem_range.mp hi.1
theorem lots_nodup {n : Nat} {T : List Nat} (h : T ∈ lots n) : T.Nodup := by
  rw [lots_filter n h]
  exact List.nodup_range.filter _
theorem filter_lots (p : Nat → Bool) : ∀ n : Nat, (List.range n).filter p ∈ lots n
  | 0 => by simp [lots]
  | n + 1 => by
    have ih := filter_lots p n
    rw [List.range_succ, List.filter_append]
    cases e : p n
    · rw [List.filter_cons_of_neg (by rw [e]; decide)]
      exact List.mem_append_left _ (by simpa using ih)
    · rw [List.filter_cons_of_pos e]
      exact List.mem_append_right _ (List.mem_map.mpr ⟨_, ih, rfl⟩)
theorem lots_nd : ∀ n : Nat, (lots n).Nodup
  | 0 => by simp [lots]
  | n + 1 => by
    have ih := lots_nd n
    refine List.nodup_append.mpr ⟨ih, ?_, ?_⟩
    · refine List.Pairwise.map _ (fun a b hab e => hab ?_) ih
      exact List.append_cancel_right e
    · intro a ha b hb e
      obtain ⟨S, hS, rfl⟩ := List.mem_map.mp hb
      have : n < n := lots_lt ha (e ▸ List.mem_append_right _ (List.mem_singleton.mpr rfl))
      exact Nat.lt_irrefl n this
theorem lots_len : ∀ n : Nat, (lots n).length = 2 ^ n
  | 0 => rfl
  | n + 1 => by
    show (lots n ++ (lots n).map _).length = _
    rw [List.length_append, List.length_map, lots_len n, Nat.pow_succ]
    omega
theorem lots_mono {m n : Nat} (h : m ≤ n) {T : List Nat} (hT : T ∈ lots m) : T ∈ lots n := by
  induction h with
  | refl => exact hT
  | step _ ih => exact List.mem_append_left _ ih
/-- the fact that is the sum of some places, turned about for true -/
def sumF (n : Nat) (T : List Nat) (c : Bool) : List Bool := (fit (dots n)).map fun r => par T r c
theorem hang_lots (F : List Bool) (n : Nat) : hang F (dots n) ∈ lots n := by
  have := filter_lots (fun p => ((dots n)[p]? == some none) && hangB F (dots n) p) n
  unfold hang
  rw [length_dots]
  exact this
theorem mem_hung {F : List Bool} {n p : Nat} : p ∈ hang F (dots n) ↔ Rel (fn F n) p := by rw [mem_hang, length_dots, sub_dots]
/-- the fact is the sum of the places on which it hangs -/
def IsSum (F : List Bool) (n : Nat) : Prop := ∀ r : List Bool, r.length = n → at_ F r = par (hang F (dots n)) r (F.getD 0 false)
theorem getD_put {n i : Nat} {x : Asg} {b : Bool} (hi : i < n) : (rowOf n (put x i b)).getD i false = b := by
  rw [List.getD_eq_getElem?_getD, rowOf_get _ hi, put_same]; rfl
theorem getD_put_ne {n i j : Nat} {x : Asg} {b c : Bool} (h : j ≠ i) : (rowOf n (put x i b)).getD j false = (rowOf n (put x i c)).getD j false := by
  rw [List.getD_eq_getElem?_getD, List.getD_eq_getElem?_getD]
  by_cases hj : j < n
  · rw [rowOf_get _ hj, rowOf_get _ hj, put_ne _ _ h, put_ne _ _ h]
  · rw [List.getElem?_eq_none (by rw [length_rowOf]; omega), List.getElem?_eq_none (by rw [length_rowOf]; omega)]
/-- a fact that is the sum of any places hangs on just these everywhere -/
theorem sum_rel {n : Nat} {T : List Nat} (hT : T ∈ lots n) (c : Bool) : Aff (fun x => par T (rowOf n x) c) ∧ ∀ i, Rel (fun x => par T (rowOf n x) c) i ↔ i ∈ T := by
  have yes : ∀ i, i ∈ T → ∀ x, par T (rowOf n (put x i false)) c ≠ par T (rowOf n (put x i true)) c := fun i hi x => by
    have hl := lots_lt hT hi
    refine par_diff (i := i) (fun j hj => getD_put_ne hj) ?_ (lots_nodup hT) hi
    rw [getD_put hl, getD_put hl]
    decide
  have no : ∀ i, i ∉ T → ∀ x, par T (rowOf n (put x i false)) c = par T (rowOf n (put x i true)) c := fun i hi x => par_same (i := i) (fun j hj => getD_put_ne hj) hi
  have iff : ∀ i, Rel (fun x => par T (rowOf n x) c) i ↔ i ∈ T := fun i =>
    ⟨fun ⟨x, hx⟩ => Classical.byContradiction fun z => hx (no i z x), fun hi => ⟨fun _ => false, yes i hi _⟩⟩
  exact ⟨fun i hi => yes i ((iff i).mp hi), iff⟩
theorem par_dep (n : Nat) (T : List Nat) (c : Bool) : Dep n (fun x => par T (rowOf n x) c) := fun x y h => by
  show par T (rowOf n x) c = par T (rowOf n y) c
  rw [rowOf_congr h]
theorem zeros_getD (n j : Nat) : (List.replicate n false).getD j false = false := by
  rw [List.getD_eq_getElem?_getD, List.getElem?_replicate]
  split <;> rfl
theorem zeros_val : ∀ n : Nat, val (List.replicate n false) = 0
  | 0 => rfl
  | n + 1 => by rw [List.replicate_succ', val_snoc, zeros_val n]; rfl
theorem isSum_aff {F : List Bool} {n : Nat} : IsSum F n ↔ Aff (fn F n) := by
  have hT := hang_lots F n
  obtain ⟨ha, hr⟩ := sum_rel hT (F.getD 0 false)
  constructor
  · intro h
    have e : fn F n = fun x => par (hang F (dots n)) (rowOf n x) (F.getD 0 false) := by
      funext x
      exact h _ (length_rowOf n x)
    rw [e]
    exact ha
  · intro h r hl
    have q := aff_both (dep_fn F n) (par_dep n (hang F (dots n)) (F.getD 0 false)) h ha (fun i => by rw [hr i, mem_hung]) (asgOf (List.replicate n false)) (asgOf r) (by
      rw [fn_row List.length_replicate]
      have z : rowOf n (asgOf (List.replicate n false)) = List.replicate n false := by
        have := rowOf_asgOf (List.replicate n false)
        rwa [List.length_replicate] at this
      show _ = par _ (rowOf n (asgOf (List.replicate n false))) _
      rw [z, par_zero (zeros_getD n)]
      unfold at_
      rw [zeros_val])
    rw [fn_row hl] at q
    rw [q]
    show par _ (rowOf n (asgOf r)) _ = _
    subst hl
    rw [rowOf_asgOf]
theorem sumF_of {F : List Bool} {n : Nat} (hF : F.length = 2 ^ n) (h : IsSum F n) : sumF n (hang F (dots n)) (F.getD 0 false) = F := (fact_eq hF _).mpr h
theorem of_sumF {F : List Bool} {n : Nat} (hF : F.length = 2 ^ n) {T : List Nat} {c : Bool} (hT : T ∈ lots n) (h : sumF n T c = F) : T = hang F (dots n) ∧ c = F.getD 0 false ∧ IsSum F n := by
  have q := (fact_eq hF _).mp h
  have e : fn F n = fun x => par T (rowOf n x) c := by
    funext x
    exact q _ (length_rowOf n x)
  obtain ⟨ha, hr⟩ := sum_rel hT c
  rw [← e] at ha hr
  refine ⟨?_, ?_, isSum_aff.mpr ha⟩
  · rw [lots_filter n hT, lots_filter n (hang_lots F n)]
    refine List.filter_congr fun i _ => ?_
    rw [Bool.eq_iff_iff, decide_eq_true_iff, decide_eq_true_iff, mem_hung, hr]
  · have := q (List.replicate n false) List.length_replicate
    rw [par_zero (zeros_getD n)] at this
    rw [← this]
    unfold at_
    rw [zeros_val]
theorem sumF_iff {F : List Bool} {n : Nat} (hF : F.length = 2 ^ n) : sumF n (hang F (dots n)) (F.getD 0 false) = F ↔ IsSum F n :=
  ⟨fun h => (of_sumF hF (hang_lots F n) h).2.2, sumF_of hF⟩
/-- all (places, sign) whose sum a fact is, as the law gathers them -/
def sumsL (F : List Bool) (n : Nat) : List (List Nat × Bool) := (lots n).flatMap fun T => ([false, true].filter fun c => decide (sumF n T c = F)).map fun c => (T, c)
theorem mem_sumsL {F : List Bool} {n : Nat} {p : List Nat × Bool} : p ∈ sumsL F n ↔ p.1 ∈ lots n ∧ sumF n p.1 p.2 = F := by
  unfold sumsL
  rw [List.mem_flatMap]
  constructor
  · rintro ⟨T, hT, h⟩
    obtain ⟨c, hc, rfl⟩ := List.mem_map.mp h
    exact ⟨hT, of_decide_eq_true (List.mem_filter.mp hc).2⟩
  · rintro ⟨h1, h2⟩
    refine ⟨p.1, h1, List.mem_map.mpr ⟨p.2, List.mem_filter.mpr ⟨by cases p.2 <;> simp, decide_eq_true h2⟩, rfl⟩⟩
theorem sumsL_nd (F : List Bool) (n : Nat) : (sumsL F n).Nodup := by
  unfold sumsL
  have : ∀ l : List (List Nat), l.Nodup → (l.flatMap fun T => ([false, true].filter fun c => decide (sumF n T c = F)).map fun c => (T, c)).Nodup := fun l => by
    induction l with
    | nil => intro _; exact List.Pairwise.nil
    | cons T l ih =>
      intro nd
      obtain ⟨h1, h2⟩ := List.nodup_cons.mp nd
      rw [List.flatMap_cons]
      refine List.nodup_append.mpr ⟨?_, ih h2, ?_⟩
      · refine List.Pairwise.map _ (fun a b hab e => hab (Prod.mk.inj e).2) ((by decide : [false, true].Nodup).filter _)
      · intro a ha b hb e
        obtain ⟨c, _, rfl⟩ := List.mem_map.mp ha
        obtain ⟨S, hS, hb⟩ := List.mem_flatMap.mp hb
        obtain ⟨d, _, rfl⟩ := List.mem_map.mp hb
        exact h1 ((Prod.mk.inj e).1 ▸ hS)
  exact this _ (lots_nd n)
theorem sumsL_yes {F : List Bool} {n : Nat} (hF : F.length = 2 ^ n) (h : IsSum F n) : sumsL F n = [(hang F (dots n), F.getD 0 false)] := by
  have hm : (hang F (dots n), F.getD 0 false) ∈ sumsL F n := mem_sumsL.mpr ⟨hang_lots F n, sumF_of hF h⟩
  have hall : ∀ p ∈ sumsL F n, p = (hang F (dots n), F.getD 0 false) := fun p hp => by
    obtain ⟨h1, h2⟩ := mem_sumsL.mp hp
    obtain ⟨e1, e2, _⟩ := of_sumF hF h1 h2
    exact Prod.ext e1 e2
  have nd := sumsL_nd F n
  revert hm hall nd
  generalize sumsL F n = l
  intro hm hall nd
  match l, hm, hall, nd with
  | [p], _, hall, _ => rw [hall p (List.mem_singleton.mpr rfl)]
  | p :: q :: l, _, hall, nd =>
    have e1 := hall p (by simp)
    have e2 := hall q (by simp)
    exact absurd (by rw [e1, e2]; exact List.mem_cons_self) (List.nodup_cons.mp nd).1
theorem sumsL_no {F : List Bool} {n : Nat} (hF : F.length = 2 ^ n) (h : ¬ IsSum F n) : sumsL F n = [] := by
  refine List.eq_nil_iff_forall_not_mem.mpr fun p hp => h ?_
  obtain ⟨h1, h2⟩ := mem_sumsL.mp hp
  exact (of_sumF hF h1 h2).2.2

/-! ### the eighth fact, for rows -/
theorem lk_of_sum {F : List Bool} {n : Nat} (h : IsSum F n) {r : List Bool} {a b : Nat} (hl : LK (fn F n) (asgOf r) a b) : a = (hang F (dots n)).length ∧ b = (hang F (dots n)).length := by
  have q := hl.aff (dep_fn F n) (isSum_aff.mp h)
  have e : (hang F (dots n)).length = cnt (Rel (fn F n)) n := by
    have := lots_filter n (hang_lots F n)
    rw [this]
    exact cnt_filter fun i _ => by rw [decide_eq_true_iff]; exact mem_hung
  rw [e]
  exact q
theorem sum_of_lk {F : List Bool} {n k : Nat} (h : ∀ r : List Bool, r.length = n → LK (fn F n) (asgOf r) k k) : IsSum F n := by
  refine isSum_aff.mpr (eighth k (dep_fn F n) fun x j hj => ?_)
  have e : ∀ i, i < n → x i = asgOf (rowOf n x) i := fun i hi => by
    unfold asgOf
    rw [List.getD_eq_getElem?_getD, rowOf_get _ hi]; rfl
  have q := (h _ (length_rowOf n x)).2.2 j (pt_congr hj (dep_fn F n) _ e)
  omega
/-- what two rows must show that are no sum's -/
theorem unlike_two {a b c d : Nat} (h : c ≠ d ∨ (c, d) ≠ (a, b)) : ∃ x y : Nat, x ∈ [a, b, c, d] ∧ y ∈ [a, b, c, d] ∧ x ≠ y := by
  by_cases e : c = d
  · subst e
    have h' : (c, c) ≠ (a, b) := h.resolve_left fun z => z rfl
    by_cases e1 : c = a
    · subst e1
      exact ⟨c, b, by simp, by simp, fun z => h' (by rw [← z])⟩
    · exact ⟨c, a, by simp, by simp, e1⟩
  · exact ⟨c, d, by simp, by simp, e⟩

/-! ### turned about -/
def turn (F : List Bool) : List Bool := F.map fun b => !b
theorem at_turn {F : List Bool} {n : Nat} (hF : F.length = 2 ^ n) {r : List Bool} (h : r.length = n) : at_ (turn F) r = !at_ F r := by
  have hv : val r < F.length := by rw [hF, ← h]; exact val_lt r
  unfold at_ turn
  rw [List.getD_eq_getElem?_getD, List.getD_eq_getElem?_getD, List.getElem?_map, List.getElem?_eq_getElem hv]
  rfl
theorem fn_turn {F : List Bool} {n : Nat} (hF : F.length = 2 ^ n) : fn (turn F) n = flip (fn F n) := by
  funext x
  exact at_turn hF (length_rowOf n x)
theorem length_turn (F : List Bool) : (turn F).length = F.length := by unfold turn; simp
theorem hang_turn {F : List Bool} {σ : List (Option Bool)} (hF : F.length = 2 ^ σ.length) : hang (turn F) σ = hang F σ := by
  refine hang_congr fun p => ?_
  rw [fn_turn hF]
  exact rel_flip (f := sub (fn F σ.length) σ)
theorem isSum_turn {F : List Bool} {n : Nat} (hF : F.length = 2 ^ n) : IsSum (turn F) n ↔ IsSum F n := by
  rw [isSum_aff, isSum_aff, fn_turn hF]
  exact ⟨fun h => by have := aff_flip h; rwa [flip_flip] at this, aff_flip⟩
theorem zero_turn {F : List Bool} {n : Nat} (hF : F.length = 2 ^ n) : (turn F).getD 0 false = !F.getD 0 false := by
  have hv : 0 < F.length := by rw [hF]; exact Nat.pow_pos (by decide)
  unfold turn
  rw [List.getD_eq_getElem?_getD, List.getD_eq_getElem?_getD, List.getElem?_map, List.getElem?_eq_getElem hv]
  rfl
theorem lk_turn {F : List Bool} {n : Nat} (hF : F.length = 2 ^ n) {r : List Bool} {a b : Nat} (h : LK (fn F n) (asgOf r) a b) : LK (fn (turn F) n) (asgOf r) a b := by
  rw [fn_turn hF]
  exact h.flip

/-! ### places in another order -/
/-- a row's signs put to their places, as the law does it: the j first of them -/
def reord (order : List Nat) (r : List Bool) : Nat → List Bool
  | 0 => r
  | j + 1 => (reord order r j).set (order.getD j 0) (r.getD j false)
theorem reord_length (order : List Nat) (r : List Bool) : ∀ j, (reord order r j).length = r.length
  | 0 => rfl
  | j + 1 => by rw [reord, List.length_set, reord_length order r j]
theorem getD_eq {α : Type} {l : List α} {i : Nat} {d : α} (h : i < l.length) : l.getD i d = l[i] := by
  rw [List.getD_eq_getElem?_getD, List.getElem?_eq_getElem h]; rfl
theorem reord_get {n : Nat} {order : List Nat} {r : List Bool} (hp : order.Perm (List.range n)) (hr : r.length = n) : ∀ (j : Nat), j ≤ n → ∀ k, k < j → (reord order r j)[order.getD k 0]? = some (r.getD k false)
  | 0, _, k, hk => absurd hk (Nat.not_lt_zero _)
  | j + 1, hj, k, hk => by
    have hlen : order.length = n := by rw [hp.length_eq, List.length_range]
    have nd : order.Nodup := hp.nodup_iff.mpr List.nodup_range
    have lt : ∀ i, i < n → order.getD i 0 < n := fun i hi => by
      rw [getD_eq (by omega)]
      exact List.mem_range.mp (hp.mem_iff.mp (List.getElem_mem _))
    show ((reord order r j).set (order.getD j 0) (r.getD j false))[order.getD k 0]? = _
    by_cases e : k = j
    · subst e
      rw [List.getElem?_set_self (by rw [reord_length, hr]; exact lt k (by omega))]
    · have ne : order.getD j 0 ≠ order.getD k 0 := fun z => by
        rw [getD_eq (by omega), getD_eq (by omega)] at z
        exact e ((List.getElem_inj nd).mp z).symm
      rw [List.getElem?_set_ne ne]
      exact reord_get hp hr j (by omega) k (by omega)
def toP (n : Nat) (order : List Nat) (i : Nat) : Nat := if i < n then order.idxOf i else i
def toQ (n : Nat) (order : List Nat) (k : Nat) : Nat := if k < n then order.getD k 0 else k
section
variable {n : Nat} {order : List Nat} (hp : order.Perm (List.range n))
include hp
theorem ord_len : order.length = n := by rw [hp.length_eq, List.length_range]
theorem ord_lt {k : Nat} (hk : k < n) : order.getD k 0 < n := by
  rw [getD_eq (by rw [ord_len hp]; exact hk)]
  exact List.mem_range.mp (hp.mem_iff.mp (List.getElem_mem _))
theorem idx_lt {i : Nat} (hi : i < n) : order.idxOf i < n := by
  have := List.idxOf_lt_length_of_mem (hp.mem_iff.mpr (List.mem_range.mpr hi))
  rwa [ord_len hp] at this
theorem qp (i : Nat) : toQ n order (toP n order i) = i := by
  unfold toP
  by_cases h : i < n
  · rw [if_pos h]
    unfold toQ
    rw [if_pos (idx_lt hp h), getD_eq (by rw [ord_len hp]; exact idx_lt hp h)]
    exact List.getElem_idxOf _
  · rw [if_neg h]
    unfold toQ
    rw [if_neg h]
theorem pq (k : Nat) : toP n order (toQ n order k) = k := by
  unfold toQ
  by_cases h : k < n
  · rw [if_pos h]
    unfold toP
    rw [if_pos (ord_lt hp h), getD_eq (by rw [ord_len hp]; exact h)]
    have nd : order.Nodup := hp.nodup_iff.mpr List.nodup_range
    exact nd.idxOf_getElem k (by rw [ord_len hp]; exact h)
  · rw [if_neg h]
    unfold toP
    rw [if_neg h]
theorem reord_row (x : Asg) : reord order (rowOf n x) n = rowOf n fun i => x (toP n order i) := by
  refine List.ext_getElem? fun i => ?_
  by_cases hi : i < n
  · rw [rowOf_get _ hi]
    have q := reord_get hp (length_rowOf n x) n (Nat.le_refl n) (toP n order i) (by unfold toP; rw [if_pos hi]; exact idx_lt hp hi)
    have e : order.getD (toP n order i) 0 = i := by
      have := qp hp i
      have hl : toP n order i < n := by unfold toP; rw [if_pos hi]; exact idx_lt hp hi
      unfold toQ at this
      rwa [if_pos hl] at this
    rw [e] at q
    rw [q, List.getD_eq_getElem?_getD, rowOf_get _ (by unfold toP; rw [if_pos hi]; exact idx_lt hp hi)]
    rfl
  · rw [List.getElem?_eq_none (by rw [reord_length, length_rowOf]; omega), List.getElem?_eq_none (by rw [length_rowOf]; omega)]
end
def renF (F : List Bool) (n : Nat) (order : List Nat) : List Bool := (fit (dots n)).map fun r => at_ F (reord order r n)
theorem length_renF (F : List Bool) (n : Nat) (order : List Nat) : (renF F n order).length = 2 ^ n := by unfold renF; rw [List.length_map, length_all]
theorem fn_renF {F : List Bool} {n : Nat} {order : List Nat} (hp : order.Perm (List.range n)) : fn (renF F n order) n = ren (toP n order) (fn F n) := by
  funext x
  show at_ (renF F n order) (rowOf n x) = at_ F (rowOf n fun i => x (toP n order i))
  unfold renF
  rw [at_made _ (length_rowOf n x), reord_row hp]
theorem lk_renF {F : List Bool} {n : Nat} {order : List Nat} (hp : order.Perm (List.range n)) {r : List Bool} {a b : Nat} (h : LK (fn F n) (asgOf r) a b) :
    LK (fn (renF F n order) n) (asgOf (order.map fun p => r.getD p false)) a b := by
  rw [fn_renF hp]
  refine LK.ren (qp hp) (pq hp) (h.congr (dep_fn F n) fun i hi => ?_)
  have hl : toP n order i < n := by unfold toP; rw [if_pos hi]; exact idx_lt hp hi
  have e := qp hp i
  unfold toQ at e
  rw [if_pos hl] at e
  show r.getD i false = (order.map fun p => r.getD p false).getD (toP n order i) false
  rw [List.getD_eq_getElem?_getD (l := order.map _), List.getElem?_map, List.getElem?_eq_getElem (by rw [ord_len hp]; exact hl)]
  rw [getD_eq (by rw [ord_len hp]; exact hl)] at e
  rw [e]
  rfl
theorem aff_ren {p q : Nat → Nat} (hqp : ∀ i, q (p i) = i) (hpq : ∀ i, p (q i) = i) {f : Fn} (a : Aff f) : Aff (ren p f) := fun k hk x => by
  have := a (q k) ((rel_ren hqp hpq).mp hk) fun i => x (p i)
  show f (fun i => put x k false (p i)) ≠ f (fun i => put x k true (p i))
  rw [put_ren hqp hpq, put_ren hqp hpq]
  exact this
theorem isSum_ren {F : List Bool} {n : Nat} {order : List Nat} (hp : order.Perm (List.range n)) : IsSum (renF F n order) n ↔ IsSum F n := by
  rw [isSum_aff, isSum_aff, fn_renF hp]
  refine ⟨fun h => ?_, aff_ren (qp hp) (pq hp)⟩
  have := aff_ren (pq hp) (qp hp) h
  have e : ren (toQ n order) (ren (toP n order) (fn F n)) = fn F n := by
    funext x
    show fn F n (fun i => x (toQ n order (toP n order i))) = fn F n x
    congr 1
    funext i
    rw [qp hp]
  rwa [e] at this
end K83
namespace K83
open PySem PySem.Spec PyProof.Rows L2
/-! ### the text by places -/
def topS (i : Nat) : Stmt := PySem.Challenge.pw_likeslips_k83_whole_facts_that_are_sums.main.body.getD i (.Pass ⟨0, 0, 0, 0⟩)
abbrev s_is_row : Stmt := topS 8
abbrev s_is_row_of_length : Stmt := topS 9
abbrev s_is_marked : Stmt := topS 10
abbrev s_with_sign : Stmt := topS 11
abbrev s_odd_sign : Stmt := topS 12
abbrev s_places_of_fact : Stmt := topS 15
abbrev s_check_fact : Stmt := topS 16
abbrev s_sign_for : Stmt := topS 17
abbrev s_rows_fitting : Stmt := topS 18
abbrev s_hangs_on : Stmt := topS 19
abbrev s_hanging_at : Stmt := topS 20
abbrev s_hanging : Stmt := topS 21
abbrev s_looks_from : Stmt := topS 22
abbrev s_looks_for : Stmt := topS 23
abbrev s_looks : Stmt := topS 24
abbrev s_sum_fact : Stmt := topS 25
abbrev s_unlike_looks : Stmt := topS 26
abbrev s_law_hand : Stmt := topS 28
abbrev s_law_draw : Stmt := topS 29
abbrev s_law_shuffled : Stmt := topS 30
abbrev s_law_value : Stmt := topS 31
abbrev s_law_fitting : Stmt := topS 32
abbrev s_law_put : Stmt := topS 33
abbrev s_law_hanging : Stmt := topS 34
abbrev s_law_sum_fact : Stmt := topS 35
abbrev s_law_fact : Stmt := topS 36
abbrev s_law_looks : Stmt := topS 37
abbrev s_law_sums : Stmt := topS 38
abbrev s_law_turned : Stmt := topS 39
abbrev s_law_renamed : Stmt := topS 40
abbrev s_law_is_unlike : Stmt := topS 41
abbrev s_law_great_right : Stmt := topS 42
abbrev s_law : Stmt := topS 43
/-- a def of the text, where it stands behind the top -/
def DefAt (K : PySem.W.Frag) (mg : Str → Option Value) (x : Str) (st : Stmt) (ps : List Str) : Prop := ∃ (f : Addr) (fd : FuncData), Fun K x x st f fd ∧ mg x = some (.ref f) ∧ Binds K fd ps []
/-- what the top leaves -/
structure Top (K : PySem.W.Frag) (mg : Str → Option Value) : Prop where
  d_is_row : DefAt K mg "is_row" s_is_row ["thing"]
  d_is_row_of_length : DefAt K mg "is_row_of_length" s_is_row_of_length ["thing", "length"]
  d_is_marked : DefAt K mg "is_marked" s_is_marked ["thing", "length"]
  d_with_sign : DefAt K mg "with_sign" s_with_sign ["standing", "place", "sign"]
  d_odd_sign : DefAt K mg "odd_sign" s_odd_sign ["number"]
  d_places_of_fact : DefAt K mg "places_of_fact" s_places_of_fact ["fact"]
  d_check_fact : DefAt K mg "check_fact" s_check_fact ["fact"]
  d_sign_for : DefAt K mg "sign_for" s_sign_for ["fact", "row"]
  d_rows_fitting : DefAt K mg "rows_fitting" s_rows_fitting ["standing"]
  d_hangs_on : DefAt K mg "hangs_on" s_hangs_on ["fact", "standing", "place"]
  d_hanging_at : DefAt K mg "hanging_at" s_hanging_at ["fact", "standing"]
  d_hanging : DefAt K mg "hanging" s_hanging ["fact", "standing"]
  d_looks_from : DefAt K mg "looks_from" s_looks_from ["known", "fact", "row", "standing"]
  d_looks_for : DefAt K mg "looks_for" s_looks_for ["fact", "row"]
  d_looks : DefAt K mg "looks" s_looks ["fact", "row"]
  d_sum_fact : DefAt K mg "sum_fact" s_sum_fact ["fact"]
  d_unlike_looks : DefAt K mg "unlike_looks" s_unlike_looks ["fact"]
  d_law_hand : DefAt K mg "_law_hand" s_law_hand ["_law_script"]
  d_law_draw : DefAt K mg "_law_draw" s_law_draw ["_law_hand_here", "_law_many"]
  d_law_shuffled : DefAt K mg "_law_shuffled" s_law_shuffled ["_law_hand_here", "_law_things"]
  d_law_value : DefAt K mg "_law_value" s_law_value ["_law_fact_here", "_law_row"]
  d_law_fitting : DefAt K mg "_law_fitting" s_law_fitting ["_law_standing"]
  d_law_put : DefAt K mg "_law_put" s_law_put ["_law_row", "_law_place", "_law_sign"]
  d_law_hanging : DefAt K mg "_law_hanging" s_law_hanging ["_law_fact_here", "_law_standing"]
  d_law_sum_fact : DefAt K mg "_law_sum_fact" s_law_sum_fact ["_law_places", "_law_chosen", "_law_sign"]
  d_law_fact : DefAt K mg "_law_fact" s_law_fact ["_law_hand_here", "_law_most"]
  d_law_looks : DefAt K mg "_law_looks" s_law_looks ["_law_known", "_law_fact_here", "_law_row", "_law_standing"]
  d_law_sums : DefAt K mg "_law_sums" s_law_sums ["_law_places", "_law_fact_here"]
  d_law_turned : DefAt K mg "_law_turned" s_law_turned ["_law_fact_here"]
  d_law_renamed : DefAt K mg "_law_renamed" s_law_renamed ["_law_places", "_law_fact_here", "_law_order"]
  d_law_is_unlike : DefAt K mg "_law_is_unlike" s_law_is_unlike ["_law_told", "_law_dues"]
  d_law_great_right : DefAt K mg "_law_great_right" s_law_great_right ["_law_hand_here"]
  d_law : DefAt K mg "law" s_law ["_law_script"]
  n_abs : mg "abs" = none
  n_all : mg "all" = none
  n_enumerate : mg "enumerate" = none
  n_int : mg "int" = none
  n_isinstance : mg "isinstance" = none
  n_len : mg "len" = none
  n_list : mg "list" = none
  n_max : mg "max" = none
  n_min : mg "min" = none
  n_range : mg "range" = none
  n_repr : mg "repr" = none
  n_set : mg "set" = none
  n_str : mg "str" = none
  n_sum : mg "sum" = none
  n_tuple : mg "tuple" = none
  c_SIGNS : ∃ a : Addr, mg "SIGNS" = some (.ref a) ∧ ∀ H : Hp, SqT K H a [.str "0", .str "1"]
  c_DOT : ∃ t : Tok, mg "DOT" = some (.str "." t)
  c_MOST : ∃ t : Tok, mg "MOST_FACT_PLACES" = some (.int 6 t)
theorem def_at {K : PySem.W.Frag} {h : Heap} {mg : Str → Option Value} (X : K.In h) (G : h.Ns mainGlobals mg) {x : Str} {st : Stmt} {ps : List Str} {f : Addr} {oc : Value} {od an : Option Addr} {osl : Array (Option Value)} {kV doc pm cdv ct : Value}
    (a : PySem.W.nsIn K mainGlobals x = some (some (.ref f))) (l : K.lookup f = some ⟨oc, od, .func (PySem.W.fnOf x x (defArgs st) (defBody st) (defScope st) .none kV doc pm an cdv ct), osl⟩) (c : PySem.W.codeIn K cdv x = true) (k : PySem.W.keepIn K (.ref f) = true)
    (b : ∀ (kV doc pm : Value) (an : Option Addr) (cdv ct : Value) (us : List Value), us.length = ps.length → bindArgs (PySem.W.fnOf x x (defArgs st) (defBody st) (defScope st) .none kV doc pm an cdv ct) ⟨us, []⟩ = pure (ps.zip us)) : DefAt K mg x st ps :=
  have F := fun_mk (st := st) l c k
  ⟨f, _, F, PySem.W.mg_of X G a, F.binds b⟩
theorem signs_at {K : PySem.W.Frag} {h : Heap} {mg : Str → Option Value} (X : K.In h) (G : h.Ns mainGlobals mg) {a : Addr} {od : Option Addr} {t u : Tok} {n : Nat} {sl : Array (Option Value)}
    (e : PySem.W.nsIn K mainGlobals "SIGNS" = some (some (.ref a))) (l : K.lookup a = some ⟨.type "tuple", od, .seq #[.str "0" t, .str "1" u] n, sl⟩) : ∃ a : Addr, mg "SIGNS" = some (.ref a) ∧ ∀ H : Hp, SqT K H a [.str "0", .str "1"] :=
  ⟨a, PySem.W.mg_of X G e, fun _ => .inr ⟨_, _, _, l, rfl, rfl, (by show 2 ≤ sizeLine; decide), .cons ⟨_, rfl⟩ (.cons ⟨_, rfl⟩ .nil)⟩⟩
end K83
/-! Rules that the layer lacks: a text times an int, int(row, 2), enumerate(a text), repr of data, len(set(..)) of ints that may be alike. -/
namespace K83
open PySem PySem.Spec PyProof.Rows L2
/-- the code of a sign -/
def bc (b : Bool) : Nat := if b then 49 else 48
/-- a row of signs as a text -/
abbrev rS (r : List Bool) : Str := SX.S (r.map bc)
theorem code_bc (b : Bool) : bc b = 48 ∨ bc b = 49 := by cases b <;> simp [bc]
theorem rS_bin (r : List Bool) : ∀ c ∈ (rS r).cps.toList, c = 48 ∨ c = 49 := fun c hc => by
  obtain ⟨b, _, rfl⟩ := List.mem_map.mp (show c ∈ r.map bc from hc)
  exact code_bc b

/-! ### a text times an int -/
section
variable {X : Cx}
theorem op_mulS : OpR X (binaryOp .Mult) (fun x y H Q => ∃ (c : Nat) (n : Nat), x = .str ⟨#[c]⟩ ∧ y = .int (n : Int) ∧ n ≤ 4096 ∧ Q (.str (SX.S (List.replicate n c))) H) := by
  intro pins s σ H x y v u Q I rx ry h
  obtain ⟨c, n, rfl, rfl, hn, q⟩ := h
  obtain ⟨t, rfl⟩ := rx
  obtain ⟨t', rfl⟩ := ry
  refine SB.mul (mulOk_of 1 4096 (Nat.le_refl 1) (by omega) (by omega) (by decide) (by decide)) fun tk k => ⟨.str (Txt.mul ⟨#[c]⟩ n), H, I.tok _, ⟨_, rfl⟩, ?_⟩
  have e : Txt.mul ⟨#[c]⟩ n = SX.S (List.replicate n c) := TL.ext_tl (by
    show (Txt.mul ⟨#[c]⟩ n).cps.toList = _
    rw [mul_one_list] <;> simp)
  rw [e]
  exact q
end
end K83
namespace K83
open PySem PySem.Spec PyProof.Rows L2
/-! ### int(row, 2) -/
section
open PySem.NumText PySem.Calls
theorem read2_1 (a : Bool) : (int_private% "readNumeral") 0 2 ([a].map bc) = (int_private% "Numeral.value") ((val [a] : Nat) : Int) := by
  cases a <;> rfl
theorem read2_2 (a b : Bool) : (int_private% "readNumeral") 0 2 ([a, b].map bc) = (int_private% "Numeral.value") ((val [a, b] : Nat) : Int) := by
  cases a <;> cases b <;> rfl
theorem read2_3 (a b c : Bool) : (int_private% "readNumeral") 0 2 ([a, b, c].map bc) = (int_private% "Numeral.value") ((val [a, b, c] : Nat) : Int) := by
  cases a <;> cases b <;> cases c <;> rfl
theorem read2_4 (a b c d : Bool) : (int_private% "readNumeral") 0 2 ([a, b, c, d].map bc) = (int_private% "Numeral.value") ((val [a, b, c, d] : Nat) : Int) := by
  cases a <;> cases b <;> cases c <;> cases d <;> rfl
theorem read2_5 (a b c d e : Bool) : (int_private% "readNumeral") 0 2 ([a, b, c, d, e].map bc) = (int_private% "Numeral.value") ((val [a, b, c, d, e] : Nat) : Int) := by
  cases a <;> cases b <;> cases c <;> cases d <;> cases e <;> rfl
theorem read2_6 (a b c d e f : Bool) : (int_private% "readNumeral") 0 2 ([a, b, c, d, e, f].map bc) = (int_private% "Numeral.value") ((val [a, b, c, d, e, f] : Nat) : Int) := by
  cases a <;> cases b <;> cases c <;> cases d <;> cases e <;> cases f <;> rfl
theorem read2 : ∀ (r : List Bool), r ≠ [] → r.length ≤ 6 → (int_private% "readNumeral") 0 2 (r.map bc) = (int_private% "Numeral.value") ((val r : Nat) : Int)
  | [], h, _ => absurd rfl h
  | [a], _, _ => read2_1 a
  | [a, b], _, _ => read2_2 a b
  | [a, b, c], _, _ => read2_3 a b c
  | [a, b, c, d], _, _ => read2_4 a b c d
  | [a, b, c, d, e], _, _ => read2_5 a b c d e
  | [a, b, c, d, e, f], _, _ => read2_6 a b c d e f
  | _ :: _ :: _ :: _ :: _ :: _ :: _ :: _, _, h => absurd h (by simp)
theorem seen2 (r : List Bool) : numTextOf (rS r) = r.map bc ∧ numSeenOf (rS r) = r.map bc := by
  have e1 : numTextOf (rS r) = r.map bc := by
    refine if_pos ?_
    rw [← Array.all_toList, List.all_eq_true]
    intro c hc
    have := rS_bin r c hc
    exact decide_eq_true (by omega)
  refine ⟨e1, ?_⟩
  unfold numSeenOf
  rw [e1]
  exact takeWhile_all fun c hc => bne_iff_ne.mpr (by have := rS_bin r c hc; omega)
structure Both3 (p q r : Prop) : Prop where
  a : p
  b : q
  c : r
set_option maxHeartbeats 4000000 in
theorem gives2 {r : List Bool} {u t : Tok} (h0 : r ≠ []) (h6 : r.length ≤ 6) : Gives (Builtin.«int.__new__» ⟨[.type "int", .str (rS r) u, .int 2 t], []⟩) (.int ((val r : Nat) : Int)) := by
  refine .of_wp fun M A E s Q hQ => ?_
  obtain ⟨hp, g, d, tk, os⟩ := s
  have g1 := F.conv_sub_int
  have g2 := F.madeHere_int
  have g3 : typeOf (.str (rS r) u) = pure (.type "str") := rfl
  obtain ⟨e1, e2⟩ := seen2 r
  have k : Both3 ((numSeenOf (rS r)).length ≤ 640) ((int_private% "readNumeral") 0 2 (numSeenOf (rS r)) = (int_private% "Numeral.value") ((val r : Nat) : Int)) (((numSeenOf (rS r)).length == (numTextOf (rS r)).length) = true) := by
    refine ⟨?_, ?_, ?_⟩
    · rw [e2, List.length_map]
      omega
    · rw [e2]
      exact read2 r h0 h6
    · rw [e1, e2]
      exact beq_self_eq_true _
  clear e1 e2 h0 h6
  repeat (any_goals (first | assumption | ((with_reducible show wpAny _ _ ((int_private% "intFromText") _ _ _) _ _ _); refine Hx.wp_textB k.a k.b k.c ?_) | wp_step))
  all_goals exact ⟨_, rfl, hQ⟩
end
theorem call_int2 {X : Cx} : CallR X (.type "int") (fun xs H Q => ∃ r : List Bool, xs = [.str (rS r), .int 2] ∧ r ≠ [] ∧ r.length ≤ 6 ∧ Q (.int ((val r : Nat) : Int)) H) := by
  intro pins s σ H xs us Q I rv h
  obtain ⟨r, rfl, h0, h6, q⟩ := h
  obtain ⟨u, w', rfl, r1, r2⟩ := vals2 rv
  obtain ⟨t1, rfl⟩ := r1
  obtain ⟨t2, rfl⟩ := r2
  exact PySem.callType_new F.called_int F.newNe_int (Hx.typeCall_int_2 _ _) (Hx.newCall_int_2 _ _) (fun obj => F.initArgs_range_2 obj _ _) F.entry_int_new (gives2 (r := r) h0 h6).meets
    (show (Made.int ((val r : Nat) : Int)).post _ s from ⟨rfl, ⟨.int ((val r : Nat) : Int), H, I.tok _, ⟨_, rfl⟩, q⟩⟩)
end K83
namespace K83
open PySem PySem.Spec PyProof.Rows L2
/-! ### enumerate(a text of ascii signs) -/
def ItE (x : Str) : It where
  go := fun i _ => i < x.cps.size
  yld := fun i H v H' => ∃ (T : Addr) (c : Nat), v = .ref T ∧ H T = none ∧ H' = upd H T (.tup [.int (i : Nat), .str ⟨#[c]⟩]) ∧ x.cps[i]? = some c
  stop := fun i _ => i = x.cps.size
def asciiIt : String := "str_ascii_iterator"
def StE (x : Str) (t : Tok) (e it : Addr) (i : Nat) (h : Heap) : Prop := (∃ old, IsEnum h e it ((i : Nat) : Int) old) ∧ h.IsStrIter it asciiIt x t i ∧ e ≠ it
theorem turn_enumS {P : Program} {w : World} {K : PySem.W.Frag} {elts : List Expr} {kk : Nat} {tpos : Pos} (x : Str) (t : Tok) (e it : Addr) : Turn P w K (.Tuple elts kk tpos) (ItE x) [e, it] e (StE x t e it) := by
  refine ⟨by simp, fun i h st b hb => ?_, fun i h h' st k => ?_, ?_, ?_, fun A i s Q E st h => let ⟨⟨_, he⟩, _⟩ := st; wpAny_pyIter_enum he h⟩
  · obtain ⟨⟨old, he⟩, ⟨o, ho, _, hd⟩, _⟩ := st
    rcases List.mem_cons.mp hb with z | z
    · rw [z]
      exact ⟨_, he, fun v q => nomatch q⟩
    · rw [List.mem_singleton.mp z]
      exact ⟨o, ho, fun v q => by rw [hd] at q; cases q⟩
  · obtain ⟨⟨old, he⟩, ⟨o, ho, r⟩, hne⟩ := st
    exact ⟨⟨old, k e (by simp) _ he⟩, ⟨o, k it (by simp) _ ho, r⟩, hne⟩
  · intro X hP hw hK hc i pins s σ H E I hf st hg
    cases hP
    cases hw
    cases hK
    obtain ⟨⟨old, he⟩, hit, hne⟩ := st
    have lte : e < s.heap.objs.size := Heap.lt_size he
    have lti : it < s.heap.objs.size := let ⟨_, q, _⟩ := hit; Heap.lt_size q
    refine wpAny_pyNext_enum_itemD (Draws.strAscii (A := X.A.in1) (I.ok.hd hc) it x t) he hit hg hne (by simpa using hne) fun y h1 tk hy ho hit1 hT _ hk => ?_
    obtain ⟨c, u, hcx, rfl⟩ := hy
    refine ⟨_, rfl, wpAny_letOwnedTupleGo_enum (s := { s with heap := h1, toks := tk + 1 }) ho fun h2 he2 sb => ?_⟩
    have hT2 : h2.get? s.heap.objs.size = some { cls := .type "tuple", data := .seq #[.int i tk, .str ⟨#[c]⟩ u] } := (sb.2 _ (Nat.ne_of_gt lte)).trans hT
    have old2 : ∀ b ob, b ∉ [e, it] → s.heap.get? b = some ob → h2.get? b = some ob := fun b ob hb q =>
      (sb.2 b fun z => hb (by simp [z])).trans (hk b ob (fun z => hb (by simp [z])) (fun z => hb (by simp [z])) q)
    have I2 : Inv X pins σ (upd H s.heap.objs.size (.tup [.int (i : Nat), .str ⟨#[c]⟩])) { s with heap := h2, toks := tk + 1 } :=
      I.turnedNew (ch := [e, it]) old2 hf (Nat.le_refl _) ⟨(by show 2 ≤ sizeLine; decide), [.int i tk, .str ⟨#[c]⟩ u], .cons ⟨_, rfl⟩ (.cons ⟨_, rfl⟩ .nil), ⟨_, hT2, rfl, _, rfl⟩⟩
    refine ⟨.ref s.heap.objs.size, _, I2, rfl, ⟨_, c, rfl, I.hok.fresh (Nat.le_refl _), rfl, hcx⟩, ⟨⟨.str ⟨#[c]⟩ u, ?_⟩, ?_, hne⟩, fun b hb => ?_⟩
    · have z : ((i + 1 : Nat) : Int) = (i : Int) + 1 := by omega
      rw [z]
      exact he2
    · obtain ⟨o, q, r⟩ := hit1
      exact ⟨o, (sb.2 it hne.symm).trans q, r⟩
    · have lb : b < s.heap.objs.size := by
        rcases List.mem_cons.mp hb with z | z
        · rw [z]; exact lte
        · rw [List.mem_singleton.mp z]; exact lti
      rw [upd_ne (Nat.ne_of_lt lb)]
      exact (hf b hb).1
  · intro X hP hw hK hc i pins s σ H E I hf st hg
    cases hP
    cases hw
    cases hK
    obtain ⟨⟨old, he⟩, hit, hne⟩ := st
    have hg : i = x.cps.size := hg
    subst hg
    obtain ⟨f0, f1, _, f3, f4, f5⟩ := hf it (by simp)
    exact wpAny_pyNext_enum_endD (Draws.strAscii (A := X.A.in1) (I.ok.hd hc) it x t) he hit fun h1 eb => ⟨rfl, I.turned (t' := s.toks) (fun b o hb q => eb b o hb q) f0 f1 f3 f4 f5⟩
def iEnumS (ta : TA) : TI := fun σ H R => ta σ H fun vs H1 => ∃ x : Str, vs = [.str x] ∧ x.cps.all (· < 128) = true ∧ R (ItE x) H1
theorem pi_enumS {X : Cx} {e : Expr} {ta : TA} {p pos tpos : Pos} {elts : List Expr} {kk : Nat} (hg : Gl X "enumerate") (hm : X.mg "enumerate" = none) (ha : PA X [e] ta) (hs : starEach [e] X.env = [(false, eval e X.env)] := by rfl) :
    PI X (.Tuple elts kk tpos) (.Call (.Name "enumerate" p) [e] [] pos) (iEnumS ta) := by
  refine ⟨fun pins s σ H R I h => ?_⟩
  refine Call_ (ld_blt I hg hm boot_enumerate (PyProof.Rows.callWith_type1 (thn (ha.run pos pins s σ H _ I h) fun us s1 hh => ?_) hs rfl))
  obtain ⟨vs, H1, I1, r1, x, rfl, hx, q⟩ := hh
  obtain ⟨u, rfl, t, rfl⟩ := vals1 r1
  have ty : strIterType x = asciiIt := if_pos hx
  refine call_enumerate_str fun h1 he hit _ hk => wpAny_pyIter_enum he ?_
  rw [ty] at hit
  refine ⟨s1.heap.objs.size + 1, [s1.heap.objs.size + 1, s1.heap.objs.size], _, _, H1, rfl, I1.kept (t' := s1.toks) hk, turn_enumS x t _ _, ⟨⟨.none, he⟩, hit, Nat.succ_ne_self _⟩, fun b hb => ?_, q⟩
  have le : s1.heap.objs.size ≤ b := by
    rcases List.mem_cons.mp hb with z | z
    · rw [z]; exact Nat.le_succ _
    · rw [List.mem_singleton.mp z]; exact Nat.le_refl _
  exact I1.fpOk le (I1.hok.fresh le)
theorem walk_enumS {x : Str} : Walk (ItE x) x.cps.size (fun _ => True) (fun i H v H' => ∃ (T : Addr) (c : Nat), v = .ref T ∧ H T = none ∧ H' = upd H T (.tup [.int (i : Nat), .str ⟨#[c]⟩]) ∧ x.cps[i]? = some c) :=
  ⟨fun _ _ hi _ => hi, fun _ _ => rfl, fun _ _ _ _ _ _ y => y⟩

/-! ### repr of data, where nothing else is being shown -/
section
variable {X : Cx}
theorem call_reprD (hg : X.A.guards = some []) (hu : X.A.units + 64 < cLine) : CallR X (.builtin "repr") (fun xs H Q => ∃ (x : V) (d : PyData), xs = [x] ∧ Dp X.K H x d ∧ d.showable = true ∧ d.hasDict = false ∧ d.depth ≤ 8 ∧ d.shown.length ≤ sizeLine ∧ (d = .none ∨ ∃ a, x = .ref a) ∧ Q (.str d.shown) H) := by
  intro pins s σ H xs us Q I rv h
  obtain ⟨x, d, rfl, hd, hs, hn, h8, hz, hx, q⟩ := h
  obtain ⟨u, rfl, ru⟩ := vals1 rv
  rcases hx with rfl | ⟨a, rfl⟩
  · cases hd
    obtain rfl : u = Value.none := ru
    exact PySem.P.repr_of_none ⟨.str PyData.none.shown, H, I.tok _, ⟨_, rfl⟩, q⟩
  · obtain rfl : u = Value.ref a := ru
    obtain ⟨as, hr⟩ := Dp.reads I d _ _ hd rfl
    refine repr_of_reads' hr hs (fun z => by rw [hn] at z; cases z) hg (by omega) (fun b o q => q) (fun h1 t tk hk => ⟨.str d.shown, H, I.kept (t' := tk) hk, ⟨_, rfl⟩, q⟩) hz
end

/-! ### len(set(..)) of ints -/
def tLenSet (K : PySem.W.Frag) (ta : TE) : TE := fun σ H Q => ta σ H fun x H1 => ∃ (l : Addr) (ns : List Int), x = V.ref l ∧ SqL K H1 l (ns.map V.int) ∧ ns.length < 64 ∧ Q (.int ((firstMet (fun i => ns.getD i 0) ns.length).length : Nat)) H1
theorem pe_lenSet {X : Cx} {a : Expr} {ta : TE} {p p2 q pos : Pos} (hc : X.calm = true) (hg : Gl X "len") (hm : X.mg "len" = none) (hg2 : Gl X "set") (hm2 : X.mg "set" = none) (ha : PE X a ta)
    (na : starEach [a] X.env = (false, eval a X.env) :: starEach [] X.env := by rfl) : PE X (.Call (.Name "len" p) [.Call (.Name "set" p2) [a] [] q] [] pos) (tLenSet X.K ta) := by
  refine ⟨fun pins s σ H Q I h => Call_ (ld_blt I hg hm PySem.boot_len (PyProof.Rows.callWith_builtin1 (PyProof.Rows.args_cons ?_ rfl) rfl rfl))⟩
  refine Call_ (ld_blt I hg2 hm2 PyProof.Rows.boot_set (PyProof.Rows.callWith_type1 (PyProof.Rows.args_cons (thn (ha.run pins s σ H _ I h) fun v s1 hh => PyProof.Rows.args_nil ?_) na) na rfl))
  obtain ⟨x, H1, I1, r1, l, ns, rfl, hq, h64, q1⟩ := hh
  obtain rfl : v = Value.ref l := r1
  obtain ⟨its, r, pl, _⟩ := I1.list hq
  have hl : its.toArray.size = ns.length := by
    have := r.length
    rw [List.length_map] at this
    rw [List.size_toArray, this]
  refine call_set_list (I1.ok.hd hc) pl.isList (ns := ns) (by simpa using r.ints) (by unfold scanBound; omega) fun h1 tk hS hk => PyProof.Rows.args_nil ?_
  have hle := firstMet_length_le (fun i => ns.getD i 0) ns.length
  rw [hl] at hS
  obtain ⟨o, es, ep, t, ho, hex, hd, _, _, _, hf, hn⟩ := hS
  refine call_len_set ho hex hd hf (by rw [hn]; omega) ⟨.int ((firstMet (fun i => ns.getD i 0) ns.length).length : Nat), H1, (I1.kept fun b o e => hk b o (Heap.lt_size e) e).tok _, ⟨_, by rw [hn]⟩, q1⟩
theorem firstMet_two {ns : List Int} {a b : Int} (ha : a ∈ ns) (hb : b ∈ ns) (hne : a ≠ b) : 1 < (firstMet (fun i => ns.getD i 0) ns.length).length := by
  have e : (List.range ns.length).map (fun i => ns.getD i 0) = ns := by
    refine List.ext_getElem (by simp) fun i h1 h2 => ?_
    simp [List.getElem?_eq_getElem h2]
  have m : ∀ k, k ∈ ns → k ∈ firstMet (fun i => ns.getD i 0) ns.length := fun k hk => by
    have q := firstMet_any (fun i => ns.getD i 0) ns.length k
    rw [e] at q
    have z : ns.any (· == k) = true := List.any_eq_true.mpr ⟨k, hk, beq_self_eq_true k⟩
    rw [z] at q
    obtain ⟨y, hy, hyk⟩ := List.any_eq_true.mp q
    rw [← eq_of_beq hyk]
    exact hy
  have h1 := m a ha
  have h2 := m b hb
  generalize firstMet (fun i => ns.getD i 0) ns.length = l at h1 h2
  match l, h1, h2 with
  | [x], h1, h2 => exact absurd ((List.mem_singleton.mp h1).trans (List.mem_singleton.mp h2).symm) hne
  | _ :: _ :: _, _, _ => exact Nat.succ_lt_succ (Nat.succ_pos _)
end K83
/-! Words of one's own over the layer: texts, heaps that grow, comprehensions. -/
namespace K83
open PySem PySem.Spec PyProof.Rows L2
/-- the code of a mark -/
def mc : Option Bool → Nat
  | none => 46
  | some b => bc b
/-- a standing as a text -/
abbrev sS (σ : List (Option Bool)) : Str := SX.S (σ.map mc)
theorem str0 : (("0" : String) : Str) = ⟨#[48]⟩ := by decide +kernel
theorem str1 : (("1" : String) : Str) = ⟨#[49]⟩ := by decide +kernel
theorem strD : (("." : String) : Str) = ⟨#[46]⟩ := by decide +kernel
theorem strE : (("" : String) : Str) = ⟨#[]⟩ := by decide +kernel
theorem bc_inj {a b : Bool} (h : bc a = bc b) : a = b := by cases a <;> cases b <;> simp_all [bc]
theorem mc_inj {a b : Option Bool} (h : mc a = mc b) : a = b := by
  cases a with
  | none => cases b with
    | none => rfl
    | some d => cases d <;> exact absurd h (by decide)
  | some c => cases b with
    | none => cases c <;> exact absurd h (by decide)
    | some d => rw [bc_inj (show bc c = bc d from h)]
theorem map_inj {α β : Type} {f : α → β} (hf : ∀ a b, f a = f b → a = b) : ∀ {l m : List α}, l.map f = m.map f → l = m
  | [], [], _ => rfl
  | [], _ :: _, h => by simp at h
  | _ :: _, [], h => by simp at h
  | a :: l, b :: m, h => by
    rw [List.map_cons, List.map_cons] at h
    rw [hf _ _ (List.cons.inj h).1, map_inj hf (List.cons.inj h).2]
theorem sS_inj {a b : List (Option Bool)} (h : sS a = sS b) : a = b := map_inj (fun _ _ => mc_inj) (SX.S_inj h)
theorem rS_inj {a b : List Bool} (h : rS a = rS b) : a = b := map_inj (fun _ _ => bc_inj) (SX.S_inj h)
theorem rS_len (r : List Bool) : (rS r).length = r.length := by rw [SX.S_len, List.length_map]
theorem sS_len (σ : List (Option Bool)) : (sS σ).length = σ.length := by rw [SX.S_len, List.length_map]
theorem S_get {l : List Nat} {i c : Nat} : (SX.S l).cps[i]? = some c ↔ l[i]? = some c := by simp [SX.S]
theorem rS_get {r : List Bool} {i c : Nat} (h : (rS r).cps[i]? = some c) : ∃ b, r[i]? = some b ∧ c = bc b := by
  rw [S_get, List.getElem?_map] at h
  cases e : r[i]? with
  | none => rw [e] at h; cases h
  | some b => rw [e] at h; exact ⟨b, rfl, (Option.some.inj h).symm⟩
theorem sS_get {σ : List (Option Bool)} {i c : Nat} (h : (sS σ).cps[i]? = some c) : ∃ m, σ[i]? = some m ∧ c = mc m := by
  rw [S_get, List.getElem?_map] at h
  cases e : σ[i]? with
  | none => rw [e] at h; cases h
  | some b => rw [e] at h; exact ⟨b, rfl, (Option.some.inj h).symm⟩
/-- the sign's own text -/
abbrev cS (b : Bool) : Str := ⟨#[bc b]⟩
abbrev cM (m : Option Bool) : Str := ⟨#[mc m]⟩
theorem cS_0 : cS false = (("0" : String) : Str) := str0.symm
theorem cS_1 : cS true = (("1" : String) : Str) := str1.symm
theorem cM_D : cM none = (("." : String) : Str) := strD.symm
theorem small {n : Nat} (h : n ≤ 4096) : n < sizeLine := Nat.lt_of_le_of_lt h (by decide)

/-! ### heaps -/
theorem same_upd {H : Hp} {p : Addr} {o : HO} (h : H p = none) : Same H (upd H p o) := fun b x e => by
  rw [upd_ne (ne_of_none e h)]
  exact e
/-- a heap that keeps what stood in H1, changed at a place that is free in H1 -/
theorem sm_free {H1 H : Hp} {p : Addr} {o : HO} (s : Same H1 H) (h : H1 p = none) : Same H1 (upd H p o) := fun b x e => by
  rw [upd_ne (ne_of_none e h)]
  exact s b x e
theorem sm_tup {K : PySem.W.Frag} {H H' : Hp} {a : Addr} {xs : List V} (e : Same H H') (h : SqT K H a xs) : SqT K H' a xs := by
  rcases h with (h | ⟨o, h⟩) | h
  · exact .inl (.inl (e _ _ h))
  · exact .inl (.inr ⟨o, e _ _ h⟩)
  · exact .inr h

/-! ### a comprehension's list, turn by turn -/
def LcR (R : Hp → Prop) (D : Addr) (es : Nat → List V) (i : Nat) (H : Hp) : Prop := R H ∧ H D = some (.lst (es i))
section
variable {R : Hp → Prop} {D : Addr} {es : Nat → List V} {i : Nat} {H H1 : Hp} {y : V}
theorem LcR.start (hR : ∀ H o, R H → R (upd H D o)) (r : R H1) (h0 : es 0 = []) : LcR R D es 0 (upd H1 D (.lst [])) := ⟨hR _ _ r, by rw [upd_same, h0]⟩
theorem LcR.add (hR : ∀ H o, R H → R (upd H D o)) (r : R H) (d : H D = some (.lst (es i))) (e : es (i + 1) = es i ++ [y]) (hl : (es i).length < sizeLine) :
    ∃ acc, H D = some (.lst acc) ∧ acc.length < sizeLine ∧ LcR R D es (i + 1) (upd H D (.lst (acc ++ [y]))) := ⟨_, d, hl, hR _ _ r, by rw [upd_same, e]⟩
theorem LcR.skip (r : R H) (d : H D = some (.lst (es i))) (e : es (i + 1) = es i) : LcR R D es (i + 1) H := ⟨r, by rw [e]; exact d⟩
end
end K83
namespace K83
open PySem PySem.Spec PyProof.Rows L2
section
variable {P : Program} {w : World} {K : PySem.W.Frag} {mg : Str → Option Value} {base : Heap} {k : Nat} {f : Addr} {fd : FuncData}
/-! ### texts of signs -/
def spPut : Sp := fun vs H Q _ => ∃ (l : List Nat) (p c : Nat), vs = [.str (SX.S l), .int (p : Int), .str ⟨#[c]⟩] ∧ l.length ≤ 4096 ∧ p < l.length ∧ Q (.str (SX.S (l.set p c))) H
theorem cut_lo (l : List Nat) {p : Nat} (h : p ≤ l.length) : cutS (SX.S l) none (some (p : Int)) = SX.S (l.take p) := by
  unfold cutS
  rw [SX.S_len, HT.sIx_nat, HT.sIx_none, Nat.min_eq_left h]
  show (⟨(l.take p).toArray⟩ : Str) = _
  rfl
theorem cut_hi (l : List Nat) {p : Nat} (h : p ≤ l.length) : cutS (SX.S l) (some (p : Int)) none = SX.S (l.drop p) := by
  unfold cutS
  rw [SX.S_len, HT.sIx_nat, HT.sIx_none, Nat.min_eq_left h]
  show (⟨((l.drop p).take (l.length - p)).toArray⟩ : Str) = _
  rw [List.take_of_length_le (by rw [List.length_drop]; omega)]
theorem put_text {l : List Nat} {p c : Nat} (h : p < l.length) : SX.S (l.take p) ++ ⟨#[c]⟩ ++ SX.S (l.drop (p + 1)) = SX.S (l.set p c) := by
  have e : (⟨#[c]⟩ : Str) = SX.S [c] := rfl
  rw [e, SX.S_cat, SX.S_cat, List.set_eq_take_append_cons_drop, if_pos h, List.append_assoc]
  rfl
theorem sc_ws : FnScope ["standing", "place", "sign"] ["standing", "place", "sign"] (defScope s_with_sign) := ⟨rfl, rfl, rfl, by decide +kernel, rfl, by decide +kernel, by decide +kernel⟩
theorem put_read {l : List Nat} {p c : Nat} (hl : l.length ≤ 4096) (hp : p < l.length) {Q : VK} {H : Hp} (q : Q (.str (SX.S (l.set p c))) H) :
    (SX.S l).length ≤ sizeLine ∧ (SX.S (l.take p)).length + (⟨#[c]⟩ : Str).length ≤ sizeLine ∧ (SX.S (l.take p) ++ ⟨#[c]⟩).length + (SX.S (l.drop (p + 1))).length ≤ sizeLine ∧ Q (.str (SX.S (l.take p) ++ ⟨#[c]⟩ ++ SX.S (l.drop (p + 1)))) H := by
  have e1 : (⟨#[c]⟩ : Str).length = 1 := rfl
  have e : (SX.S (l.take p) ++ ⟨#[c]⟩) = SX.S (l.take p ++ [c]) := SX.S_cat _ [c]
  refine ⟨?_, ?_, ?_, ?_⟩
  · rw [SX.S_len]
    exact Nat.le_of_lt (small hl)
  · rw [SX.S_len, List.length_take, e1]
    exact Nat.le_of_lt (small (by omega))
  · rw [e, SX.S_len, SX.S_len, List.length_append, List.length_take, List.length_drop, List.length_singleton]
    exact Nat.le_of_lt (small (by omega))
  · rw [put_text hp]
    exact q
theorem ok_with_sign (F : Fun K "with_sign" "with_sign" s_with_sign f fd) : FnOk P w K mg base CX0 (k + 1) f fd ["standing", "place", "sign"] spPut := by
  refine F.ok sc_ws (fun vs H Q E h => ?_) (fun cdv A outer s H vs Q E hr h => ?_)
  · obtain ⟨l, p, c, rfl, _⟩ := h
    rfl
  · obtain ⟨l, p, c, rfl, hl, hp, q⟩ := h
    refine ⟨_, pss_one (ps_ret (pe_op op_add_str (pe_op op_add_str (pe_slice sl_str (pv 0) po_none (po_some (pv 1))) (pv 2)) (pe_slice sl_str (pv 0) (po_some (pe_op op_add (pv 1) pe_int)) po_none))), ?_⟩
    obtain ⟨z1, z2, z3, z4⟩ := put_read hl hp q
    have e1 : ((p : Int) + 1) = ((p + 1 : Nat) : Int) := by omega
    refine ⟨_, rfl, _, rfl, p, rfl, _, rfl, z1, _, rfl, _, _, rfl, rfl, ?_⟩
    rw [cut_lo l (Nat.le_of_lt hp)]
    refine ⟨z2, _, rfl, _, rfl, p, 1, rfl, rfl, _, rfl, _, rfl, z1, _, _, rfl, rfl, ?_⟩
    rw [e1, cut_hi l hp]
    exact ⟨z3, z4⟩
theorem sc_lp : FnScope ["_law_row", "_law_place", "_law_sign"] ["_law_row", "_law_place", "_law_sign"] (defScope s_law_put) := ⟨rfl, rfl, rfl, by decide +kernel, rfl, by decide +kernel, by decide +kernel⟩
theorem ok_law_put (F : Fun K "_law_put" "_law_put" s_law_put f fd) : FnOk P w K mg base CX0 (k + 1) f fd ["_law_row", "_law_place", "_law_sign"] spPut := by
  refine F.ok sc_lp (fun vs H Q E h => ?_) (fun cdv A outer s H vs Q E hr h => ?_)
  · obtain ⟨l, p, c, rfl, _⟩ := h
    rfl
  · obtain ⟨l, p, c, rfl, hl, hp, q⟩ := h
    refine ⟨_, pss_one (ps_ret (pe_op op_add_str (pe_op op_add_str (pe_slice sl_str (pv 0) po_none (po_some (pv 1))) (pv 2)) (pe_slice sl_str (pv 0) (po_some (pe_op op_add (pv 1) pe_int)) po_none))), ?_⟩
    obtain ⟨z1, z2, z3, z4⟩ := put_read hl hp q
    have e1 : ((p : Int) + 1) = ((p + 1 : Nat) : Int) := by omega
    refine ⟨_, rfl, _, rfl, p, rfl, _, rfl, z1, _, rfl, _, _, rfl, rfl, ?_⟩
    rw [cut_lo l (Nat.le_of_lt hp)]
    refine ⟨z2, _, rfl, _, rfl, p, 1, rfl, rfl, _, rfl, _, rfl, z1, _, _, rfl, rfl, ?_⟩
    rw [e1, cut_hi l hp]
    exact ⟨z3, z4⟩
/-! ### is_row -/
def spIsRow : Sp := fun vs H Q _ => ∃ r : List Bool, vs = [.str (rS r)] ∧ r.length ≤ 4096 ∧ ∀ H', Same H H' → Q (.bl true) H'
theorem sc_ir : FnScope ["thing", "sign"] ["thing"] (defScope s_is_row) := ⟨rfl, rfl, rfl, by decide +kernel, rfl, by decide +kernel, by decide +kernel⟩
theorem inV_bc (b : Bool) : inV (.str ⟨#[bc b]⟩) [.str "0", .str "1"] = true := by
  rw [str0, str1]
  cases b <;> decide
theorem all_true (n : Nat) : (List.replicate n true).all id = true := by
  rw [List.all_eq_true]
  intro x hx
  rw [(List.mem_replicate.mp hx).2]
  rfl
theorem rep_succ (n : Nat) : (List.replicate (n + 1) true).map V.bl = (List.replicate n true).map V.bl ++ [V.bl true] := by
  rw [List.replicate_succ', List.map_append] <;> rfl
theorem ok_is_row (T : Top K mg) (F : Fun K "is_row" "is_row" s_is_row f fd) : FnOk P w K mg base CX0 (k + 1) f fd ["thing"] spIsRow := by
  obtain ⟨aS, gS, hS⟩ := T.c_SIGNS
  refine F.ok sc_ir (fun vs H Q E h => ?_) (fun cdv A outer s H vs Q E hr h => ?_)
  · obtain ⟨r, rfl, _⟩ := h
    rfl
  · obtain ⟨r, rfl, hl, q⟩ := h
    refine ⟨_, pss_one (ps_ret (pe_and (pe_callB RZ.call_isTy (by rfl) T.n_isinstance (by decide +kernel) (pa_cons (pv 0) (pa_cons (pe_bltn (v := .ty "str") (by rfl) T.n_str (by decide +kernel) rfl) pa_nil)))
      (pe_one (pe_callB (cr_all rfl) (by rfl) T.n_all (by decide +kernel) (pa_cons
        (pe_lc (own := [("sign", 1)]) (g := gName 1) (tt := tYes) rfl sc_ir.nd (pi_str (pv 0)) (blkOk_by (N := ["thing", "sign"]) (sc := defScope s_is_row) (by decide +kernel))
          (fun _ _ _ _ _ => pg_name (i := 1) sc_ir.nd rfl (Or.inl rfl)) (fun _ _ _ _ _ => pts_nil) (fun _ _ _ _ _ => pe_cmpR (r := rIn K false) op_in_seq (pv 1) (pe_glob (v := .ref aS) rfl gS rfl) rfl)) pa_nil))))), ?_⟩
    refine ⟨_, rfl, _, _, rfl, .str _, true, rfl, iteT ?_⟩
    refine ⟨_, rfl, _, rfl, fun D hD => ?_⟩
    have hR : ∀ H' o, Same H H' → Same H (upd H' D o) := fun H' o s => sm_free s hD
    refine lc_it walk_str (LcR (Same H) D (fun i => (List.replicate i true).map V.bl)) (LcR.start hR (Same.refl H) rfl) (fun _ _ _ _ => trivial) ?_ ?_
    · intro i x H1 H2 hi ⟨sm, hd⟩ ⟨e, c, hc, ex⟩
      subst e ex
      obtain ⟨b, hb, rfl⟩ := rS_get hc
      refine ⟨rfl, _, rfl, aS, _, rfl, .inr (hS _), rfl, rfl, ?_⟩
      rw [if_neg Bool.false_ne_true, inV_bc]
      refine LcR.add hR sm hd (rep_succ i) ?_
      rw [List.length_map, List.length_replicate]
      rw [show (rS r).cps.size = r.length by simp [SX.S]] at hi
      exact small (by omega)
    · intro H1 ⟨sm, hd⟩
      refine ⟨D, _, rfl, .inl (.inl hd), ?_⟩
      rw [all_true]
      exact q _ sm
end
end K83
namespace K83
open PySem PySem.Spec PyProof.Rows L2
section
variable {P : Program} {w : World} {K : PySem.W.Frag} {mg : Str → Option Value} {base : Heap} {k : Nat} {f : Addr} {fd : FuncData}
/-! ### is_row_of_length, is_marked, odd_sign -/
def spIsRowL : Sp := fun vs H Q _ => ∃ r : List Bool, vs = [.str (rS r), .int (r.length : Nat)] ∧ r.length ≤ 4096 ∧ ∀ H', Same H H' → Q (.bl true) H'
theorem sc_irl : FnScope ["thing", "length"] ["thing", "length"] (defScope s_is_row_of_length) := ⟨rfl, rfl, rfl, by decide +kernel, rfl, by decide +kernel, by decide +kernel⟩
theorem ok_is_row_of_length (T : Top K mg) (F : Fun K "is_row_of_length" "is_row_of_length" s_is_row_of_length f fd) : FnOk P w K mg base CX0 (k + 2) f fd ["thing", "length"] spIsRowL := by
  obtain ⟨f1, fd1, F1, g1, b1⟩ := T.d_is_row
  have G1 := ok_is_row (P := P) (w := w) (base := base) (k := k) T F1
  refine F.ok sc_irl (fun vs H Q E h => ?_) (fun cdv A outer s H vs Q E hr h => ?_)
  · obtain ⟨r, rfl, _⟩ := h
    rfl
  · obtain ⟨r, rfl, hl, q⟩ := h
    refine ⟨_, pss_one (ps_ret (pe_and (pe_call G1 hr (by rfl) g1 F1.kp b1 .nil pass0 (pa_cons (pv 0) pa_nil))
      (pe_one (pe_cmpR op_eq (pe_callB call_len_str (by rfl) T.n_len PySem.boot_len (pa_cons (pv 0) pa_nil)) (pv 1) (nomark _))))), ?_⟩
    refine ⟨_, rfl, r, rfl, hl, fun H1 s1 => ⟨true, rfl, iteT ?_⟩⟩
    refine ⟨_, rfl, _, rfl, ?_, _, rfl, rfl, ?_⟩
    · rw [rS_len]
      exact Nat.le_of_lt (small hl)
    · rw [rS_len, decide_eq_true rfl]
      exact q _ s1
def spIsMarked : Sp := fun vs H Q _ => ∃ σ : List (Option Bool), vs = [.str (sS σ), .int (σ.length : Nat)] ∧ σ.length ≤ 4096 ∧ ∀ H', Same H H' → Q (.bl true) H'
theorem sc_im : FnScope ["thing", "length", "mark"] ["thing", "length"] (defScope s_is_marked) := ⟨rfl, rfl, rfl, by decide +kernel, rfl, by decide +kernel, by decide +kernel⟩
theorem inV_dot : inV (.str ⟨#[46]⟩) [.str "0", .str "1"] = false := by
  rw [str0, str1]
  decide
theorem ok_is_marked (T : Top K mg) (F : Fun K "is_marked" "is_marked" s_is_marked f fd) : FnOk P w K mg base CX0 (k + 1) f fd ["thing", "length"] spIsMarked := by
  obtain ⟨aS, gS, hS⟩ := T.c_SIGNS
  obtain ⟨tD, gD⟩ := T.c_DOT
  refine F.ok sc_im (fun vs H Q E h => ?_) (fun cdv A outer s H vs Q E hr h => ?_)
  · obtain ⟨r, rfl, _⟩ := h
    rfl
  · obtain ⟨σ, rfl, hl, q⟩ := h
    refine ⟨_, pss_one (ps_ret (pe_and (pe_callB RZ.call_isTy (by rfl) T.n_isinstance (by decide +kernel) (pa_cons (pv 0) (pa_cons (pe_bltn (v := .ty "str") (by rfl) T.n_str (by decide +kernel) rfl) pa_nil)))
      (pe_and (pe_cmpR op_eq (pe_callB call_len_str (by rfl) T.n_len PySem.boot_len (pa_cons (pv 0) pa_nil)) (pv 1) (nomark _))
      (pe_one (pe_callB (cr_all rfl) (by rfl) T.n_all (by decide +kernel) (pa_cons
        (pe_lc (own := [("mark", 2)]) (g := gName 2) (tt := tYes) rfl sc_im.nd (pi_str (pv 0)) (blkOk_by (N := ["thing", "length", "mark"]) (sc := defScope s_is_marked) (by decide +kernel))
          (fun _ _ _ _ _ => pg_name (i := 2) sc_im.nd rfl (Or.inl rfl)) (fun _ _ _ _ _ => pts_nil)
          (fun _ _ _ _ _ => pe_or (pe_cmpR (r := rIn K false) op_in_seq (pv 2) (pe_glob (v := .ref aS) rfl gS rfl) rfl) (pe_one (pe_cmpR op_eq (pv 2) (pe_glob (v := .str ".") rfl gD ⟨_, rfl⟩) (nomark _))))) pa_nil)))))), ?_⟩
    refine ⟨_, rfl, _, _, rfl, .str _, true, rfl, iteT ?_⟩
    refine ⟨_, rfl, _, rfl, ?_, _, rfl, rfl, _, rfl, ?_⟩
    · rw [sS_len]
      exact Nat.le_of_lt (small hl)
    rw [sS_len, decide_eq_true rfl]
    refine iteT ?_
    refine ⟨_, rfl, _, rfl, fun D hD => ?_⟩
    have hR : ∀ H' o, Same H H' → Same H (upd H' D o) := fun H' o s => sm_free s hD
    refine lc_it walk_str (LcR (Same H) D (fun i => (List.replicate i true).map V.bl)) (LcR.start hR (Same.refl H) rfl) (fun _ _ _ _ => trivial) ?_ ?_
    · intro i x H1 H2 hi ⟨sm, hd⟩ ⟨e, c, hc, ex⟩
      subst e ex
      obtain ⟨m, hm, rfl⟩ := sS_get hc
      have hz : ((List.replicate i true).map V.bl).length < sizeLine := by
        rw [List.length_map, List.length_replicate]
        rw [show (sS σ).cps.size = σ.length by simp [SX.S]] at hi
        exact small (by omega)
      refine ⟨rfl, _, rfl, aS, _, rfl, .inr (hS _), rfl, rfl, ?_⟩
      rw [if_neg Bool.false_ne_true]
      cases m with
      | some b =>
        refine ⟨true, congrArg V.bl (inV_bc b), iteT ?_⟩
        exact LcR.add hR sm hd (rep_succ i) hz
      | none =>
        refine ⟨false, congrArg V.bl inV_dot, iteF ?_⟩
        refine ⟨_, rfl, rfl, ?_⟩
        rw [strD, decide_eq_true (show V.str ⟨#[mc none]⟩ = V.str ⟨#[46]⟩ from rfl)]
        exact LcR.add hR sm hd (rep_succ i) hz
    · intro H1 ⟨sm, hd⟩
      refine ⟨D, _, rfl, .inl (.inl hd), ?_⟩
      rw [all_true]
      exact q _ sm
def spOdd : Sp := fun vs H Q _ => ∃ n : Nat, vs = [.int (n : Int)] ∧ Q (.str (cS (n % 2 == 1))) H
theorem sc_od : FnScope ["number"] ["number"] (defScope s_odd_sign) := ⟨rfl, rfl, rfl, by decide +kernel, rfl, by decide +kernel, by decide +kernel⟩
theorem ok_odd_sign (T : Top K mg) (F : Fun K "odd_sign" "odd_sign" s_odd_sign f fd) : FnOk P w K mg base CX0 (k + 1) f fd ["number"] spOdd := by
  obtain ⟨aS, gS, hS⟩ := T.c_SIGNS
  refine F.ok sc_od (fun vs H Q E h => ?_) (fun cdv A outer s H vs Q E hr h => ?_)
  · obtain ⟨r, rfl, _⟩ := h
    rfl
  · obtain ⟨n, rfl, q⟩ := h
    refine ⟨_, pss_one (ps_ret (pe_ix ix_tup (pe_glob (v := .ref aS) rfl gS rfl) (pe_op op_mod (pv 0) pe_int) (fun _ _ => rfl))), ?_⟩
    refine ⟨_, rfl, n, 2, rfl, rfl, (by show (0 : Int) < 2; decide), aS, _, _, _, rfl, rfl, hS _, at_of (j := n % 2) (by omega) ?_, q⟩
    have h2 : n % 2 = 0 ∨ n % 2 = 1 := by omega
    rcases h2 with h | h
    · rw [h, str0] <;> rfl
    · rw [h, str1] <;> rfl
/-! ### places_of_fact, check_fact -/
def spPlaces : Sp := fun vs H Q _ => ∃ (F : List Bool) (n : Nat), vs = [.str (rS F)] ∧ F.length = 2 ^ n ∧ 1 ≤ n ∧ n ≤ 6 ∧ ∀ H', Same H H' → Q (.int (n : Int)) H'
theorem sc_pf : FnScope ["fact", "many"] ["fact"] (defScope s_places_of_fact) := ⟨rfl, rfl, rfl, by decide +kernel, rfl, by decide +kernel, by decide +kernel⟩
theorem pow_inj {a b : Nat} (h : 2 ^ a = 2 ^ b) : a = b := by
  by_cases h1 : a < b
  · have := Nat.pow_lt_pow_right (a := 2) (by decide) h1
    omega
  · by_cases h2 : b < a
    · have := Nat.pow_lt_pow_right (a := 2) (by decide) h2
      omega
    · omega
theorem pow6 {n : Nat} (h : n ≤ 6) : 2 ^ n ≤ 64 := Nat.pow_le_pow_right (by decide) h
theorem ok_places_of_fact (T : Top K mg) (F : Fun K "places_of_fact" "places_of_fact" s_places_of_fact f fd) : FnOk P w K mg base CX0 (k + 2) f fd ["fact"] spPlaces := by
  obtain ⟨f1, fd1, F1, g1, b1⟩ := T.d_is_row
  have G1 := ok_is_row (P := P) (w := w) (base := base) (k := k) T F1
  obtain ⟨tM, gM⟩ := T.c_MOST
  refine F.ok sc_pf (fun vs H Q E h => ?_) (fun cdv A outer s H vs Q E hr h => ?_)
  · obtain ⟨r, n, rfl, _⟩ := h
    rfl
  · obtain ⟨r, n, rfl, hl, h1, h6, q⟩ := h
    have h64 := pow6 h6
    refine ⟨_, pss_cons (ps_if (pt_not (pt_val (pe_call G1 hr (by rfl) g1 F1.kp b1 .nil pass0 (pa_cons (pv 0) pa_nil)))) pss_never pss_nil)
      (pss_cons (ps_for PassesOwn.never rfl (pi_range2 (by rfl) T.n_range (pa_cons pe_int (pa_cons (pe_op op_add (pe_glob (v := .int 6) rfl gM ⟨_, rfl⟩) pe_int) pa_nil))) (pg_name (i := 1) sc_pf.nd rfl (.inl rfl))
        (pss_one (ps_if (pt_cmpR op_eq (pe_callB call_len_str (by rfl) T.n_len PySem.boot_len (pa_cons (pv 0) pa_nil)) (pe_op op_shl pe_int (pv 1)) (nomark _)) (pss_one (ps_ret (pv 1))) pss_nil)))
      pss_never), ?_⟩
    refine ⟨_, rfl, r, rfl, by omega, fun H1 s1 => ⟨true, rfl, iteF ?_⟩⟩
    refine ⟨6, 1, rfl, rfl, 1, 7, rfl, by decide, for_range (lo := 1) (n := 6) (fun i σ H' => i < n ∧ Same H H' ∧ ∃ y, σ = [some (.str (rS r)), y]) ⟨h1, s1, _, rfl⟩ ?_ ?_⟩
    · rintro i σ H2 hi ⟨hin, s2, y, rfl⟩
      refine ⟨_, rfl, _, rfl, ?_, _, rfl, 1, _, rfl, rfl, ⟨by omega, by omega, by decide⟩, rfl, _, rfl, ite2 (fun c => ?_) (fun c => ?_)⟩
      · rw [rS_len]
        exact Nat.le_of_lt (small (by omega))
      · have c := V.int.inj (of_decide_eq_true c)
        rw [rS_len, hl, Int.one_mul, show ((1 : Int) + (i : Int)).toNat = 1 + i by omega] at c
        have e : n = 1 + i := pow_inj (Int.ofNat.inj (c.trans (Int.natCast_pow 2 (1 + i)).symm))
        refine ⟨_, rfl, ?_⟩
        have z := q _ s2
        rw [show (n : Int) = 1 + (i : Int) by omega] at z
        exact z
      · have hne : ¬ n = 1 + i := fun e => c (decide_eq_true (by
          show V.int ((rS r).length : Nat) = V.int (1 * 2 ^ ((1 : Int) + (i : Int)).toNat)
          rw [rS_len, hl, Int.one_mul, show ((1 : Int) + (i : Int)).toNat = 1 + i by omega, e]
          exact congrArg V.int (Int.natCast_pow 2 (1 + i))))
        exact ⟨by omega, s2, _, rfl⟩
    · rintro σ H2 ⟨hin, _⟩
      omega
def spCheck : Sp := spPlaces
theorem sc_cf : FnScope ["fact", "many"] ["fact"] (defScope s_check_fact) := ⟨rfl, rfl, rfl, by decide +kernel, rfl, by decide +kernel, by decide +kernel⟩
theorem ok_check_fact (T : Top K mg) (F : Fun K "check_fact" "check_fact" s_check_fact f fd) : FnOk P w K mg base CX0 (k + 3) f fd ["fact"] spPlaces := by
  obtain ⟨f1, fd1, F1, g1, b1⟩ := T.d_places_of_fact
  have G1 := ok_places_of_fact (P := P) (w := w) (base := base) (k := k) T F1
  refine F.ok sc_cf (fun vs H Q E h => ?_) (fun cdv A outer s H vs Q E hr h => ?_)
  · obtain ⟨r, n, rfl, _⟩ := h
    rfl
  · obtain ⟨r, n, rfl, hl, h1, h6, q⟩ := h
    refine ⟨_, pss_cons (ps_set (i := 1) sc_cf.nd rfl (.inl rfl) (pe_call G1 hr (by rfl) g1 F1.kp b1 .nil pass0 (pa_cons (pv 0) pa_nil)))
      (pss_cons (ps_if (pt_cmp (pc_isN (pv 1))) pss_never pss_nil) (pss_one (ps_ret (pv 1)))), ?_⟩
    refine ⟨_, rfl, r, n, rfl, hl, h1, h6, fun H1 s1 => ?_⟩
    exact ⟨_, rfl, _, rfl, iteF ⟨_, rfl, q _ s1⟩⟩
/-! ### the sign of a fact for a row -/
def spSign : Sp := fun vs H Q _ => ∃ (F r : List Bool) (n : Nat), vs = [.str (rS F), .str (rS r)] ∧ F.length = 2 ^ n ∧ 1 ≤ n ∧ n ≤ 6 ∧ r.length = n ∧ Q (.str (cS (at_ F r))) H
theorem sc_sf : FnScope ["fact", "row"] ["fact", "row"] (defScope s_sign_for) := ⟨rfl, rfl, rfl, by decide +kernel, rfl, by decide +kernel, by decide +kernel⟩
theorem rS_at {F r : List Bool} {n : Nat} (hF : F.length = 2 ^ n) (hr : r.length = n) : (rS F).cps[val r]? = some (bc (at_ F r)) := by
  have hv : val r < F.length := by rw [hF, ← hr]; exact val_lt r
  rw [S_get, List.getElem?_map, List.getElem?_eq_getElem hv]
  unfold at_
  rw [getD_eq hv]
  rfl
theorem ok_sign_for (T : Top K mg) (F : Fun K "sign_for" "sign_for" s_sign_for f fd) : FnOk P w K mg base CX0 (k + 1) f fd ["fact", "row"] spSign := by
  refine F.ok sc_sf (fun vs H Q E h => ?_) (fun cdv A outer s H vs Q E hr h => ?_)
  · obtain ⟨r, n, _, rfl, _⟩ := h
    rfl
  · obtain ⟨G, r, n, rfl, hl, h1, h6, hr', q⟩ := h
    have h64 := pow6 h6
    have hv : val r < G.length := by rw [hl, ← hr']; exact val_lt r
    refine ⟨_, pss_one (ps_ret (pe_item_str (pv 0) (pe_callTy call_int2 (by rfl) T.n_int (by decide +kernel) (pa_cons (pv 1) (pa_cons pe_int pa_nil))) (fun _ _ => rfl))), ?_⟩
    refine ⟨_, rfl, _, rfl, r, rfl, (fun e => by subst e; simp at hr'; omega), by omega, _, _, _, rfl, rfl, by omega, by omega, ?_, ?_, q⟩
    · rw [rS_len]
      omega
    · rw [Int.toNat_natCast]
      exact rS_at hl hr'
def spValue : Sp := spSign
theorem sc_lv : FnScope ["_law_fact_here", "_law_row", "_law_number", "_law_sign"] ["_law_fact_here", "_law_row"] (defScope s_law_value) := ⟨rfl, rfl, rfl, by decide +kernel, rfl, by decide +kernel, by decide +kernel⟩
theorem int_cS (b : Bool) : PySem.intText? (cS b) = some ((b.toNat : Nat) : Int) := by cases b <;> decide +kernel
theorem val_take {r : List Bool} {i : Nat} {b : Bool} (h : r[i]? = some b) : val (r.take (i + 1)) = 2 * val (r.take i) + b.toNat := by
  rw [List.take_add_one, h]
  exact val_snoc _ _
theorem ok_law_value (T : Top K mg) (F : Fun K "_law_value" "_law_value" s_law_value f fd) : FnOk P w K mg base CX0 (k + 1) f fd ["_law_fact_here", "_law_row"] spSign := by
  refine F.ok sc_lv (fun vs H Q E h => ?_) (fun cdv A outer s H vs Q E hr h => ?_)
  · obtain ⟨r, n, _, rfl, _⟩ := h
    rfl
  · obtain ⟨G, r, n, rfl, hl, h1, h6, hr', q⟩ := h
    have h64 := pow6 h6
    have hv : val r < G.length := by rw [hl, ← hr']; exact val_lt r
    refine ⟨_, pss_cons (ps_set (i := 2) sc_lv.nd rfl (.inl rfl) pe_int)
      (pss_cons (ps_for PassesOwn.never rfl (pi_str (pv 1)) (pg_name (i := 3) sc_lv.nd rfl (.inl rfl))
        (pss_one (ps_set (i := 2) sc_lv.nd rfl (.inl rfl) (pe_op op_add (pe_op op_mul pe_int (pv 2)) (pe_callTy call_int_str (by rfl) T.n_int (by decide +kernel) (pa_cons (pv 3) pa_nil))))))
      (pss_one (ps_ret (pe_item_str (pv 0) (pv 2) (fun _ _ => rfl))))), ?_⟩
    refine ⟨_, rfl, _, rfl, for_it walk_str (fun i σ H' => H' = H ∧ ∃ y, σ = [some (.str (rS G)), some (.str (rS r)), some (.int (val (r.take i) : Nat)), y]) ⟨rfl, _, rfl⟩ (fun _ _ _ _ _ => trivial) ?_ ?_⟩
    · rintro i x σ H1 H2 hi ⟨rfl, y, rfl⟩ ⟨rfl, c, hc, rfl⟩
      obtain ⟨b, hb, rfl⟩ := rS_get hc
      refine ⟨_, rfl, 2, _, rfl, rfl, .inl ⟨by decide, by decide⟩, _, rfl, _, _, rfl, int_cS b, (by show 1 ≤ 640; decide), _, _, rfl, rfl, rfl, some (.str (cS b)), ?_⟩
      rw [val_take hb]
      rfl
    · rintro σ H1 ⟨rfl, y, rfl⟩
      have e : r.take (rS r).cps.size = r := List.take_of_length_le (by simp [SX.S])
      rw [e]
      refine ⟨_, rfl, _, rfl, _, _, _, rfl, rfl, by omega, by omega, ?_, ?_, q⟩
      · rw [rS_len]
        omega
      · rw [Int.toNat_natCast]
        exact rS_at hl hr'
end
end K83
namespace K83
open PySem PySem.Spec PyProof.Rows L2
section
variable {P : Program} {w : World} {K : PySem.W.Frag} {mg : Str → Option Value} {base : Heap} {k : Nat} {f : Addr} {fd : FuncData}
/-! ### two fors in one comprehension -/
theorem in_it {J1 : It} {n1 : Nat} {G1 : Hp → Prop} {Y1 : Nat → Hp → V → Hp → Prop} (w1 : Walk J1 n1 G1 Y1) {g1 : TG} {tt1 : TT} {te : TE} {vs1 : List Nat} {σ2 : L2.St} {H4 : Hp} {D : Addr} {Nx : Hp → Prop} (Pw : Nat → Hp → Prop)
    (h0 : Pw 0 H4) (hG : ∀ j H, j ≤ n1 → Pw j H → G1 H)
    (hs : ∀ j x H H', j < n1 → Pw j H → Y1 j H x H' → g1 x (wipe σ2 vs1) H' fun σ3 H5 => wipe σ3 vs1 = wipe σ2 vs1 ∧ tt1 σ3 H5 fun b H6 =>
      if b = true then te σ3 H6 fun y H7 => ∃ acc, H7 D = some (.lst acc) ∧ acc.length < sizeLine ∧ Pw (j + 1) (upd H7 D (.lst (acc ++ [y]))) else Pw (j + 1) H6)
    (hd : ∀ H, Pw n1 H → Nx H) :
    ∃ W1 : Nat → Nat → Hp → Prop, (∃ m, W1 0 m H4) ∧ ∀ j k H, W1 j k H →
      (J1.stop j H ∧ Nx H) ∨ (J1.go j H ∧ ∃ Nx1 : Hp → Prop, (∀ H', Nx1 H' → ∃ k', k' < k ∧ W1 (j + 1) k' H') ∧ ∀ x H', J1.yld j H x H' → g1 x (wipe σ2 vs1) H' fun σ3 H5 => wipe σ3 vs1 = wipe σ2 vs1 ∧ tt1 σ3 H5 fun b H6 =>
        if b = true then te σ3 H6 fun y H7 => ∃ acc, H7 D = some (.lst acc) ∧ acc.length < sizeLine ∧ Nx1 (upd H7 D (.lst (acc ++ [y]))) else Nx1 H6) := by
  refine ⟨fun j k H => k + j = n1 ∧ Pw j H, ⟨n1, by omega, h0⟩, fun j k H hk => ?_⟩
  obtain ⟨ek, p⟩ := hk
  have q := hG j H (by omega) p
  by_cases hj : j < n1
  · exact .inr ⟨w1.goes j H hj q, Pw (j + 1), fun H' p' => ⟨k - 1, by omega, by omega, p'⟩, fun x H' y => hs j x H H' hj p (w1.yields j H x H' hj q y)⟩
  · obtain rfl : j = n1 := by omega
    exact .inl ⟨w1.stops H q, hd H p⟩
theorem lc2_it {J : It} {n : Nat} {G : Hp → Prop} {Y : Nat → Hp → V → Hp → Prop} (w : Walk J n G Y) {g : TG} {tt : TT} {wi1 : TI} {g1 : TG} {tt1 : TT} {te : TE} {vs vs1 : List Nat} {σ : L2.St} {H1 : Hp} {D : Addr} {Qd : Hp → Prop} (Pv : Nat → Hp → Prop)
    (h0 : Pv 0 (upd H1 D (.lst []))) (hG : ∀ i H, i ≤ n → Pv i H → G H)
    (hs : ∀ i x H H', i < n → Pv i H → Y i H x H' → g x (wipe σ vs) H' fun σ2 H2 => wipe σ2 vs = wipe σ vs ∧ tt σ2 H2 fun b H3 =>
      if b = true then wi1 σ2 H3 fun J1 H4 => ∃ W1 : Nat → Nat → Hp → Prop, (∃ m, W1 0 m H4) ∧ ∀ j k H, W1 j k H →
        (J1.stop j H ∧ Pv (i + 1) H) ∨ (J1.go j H ∧ ∃ Nx1 : Hp → Prop, (∀ H', Nx1 H' → ∃ k', k' < k ∧ W1 (j + 1) k' H') ∧ ∀ x H', J1.yld j H x H' → g1 x (wipe σ2 vs1) H' fun σ3 H5 => wipe σ3 vs1 = wipe σ2 vs1 ∧ tt1 σ3 H5 fun b H6 =>
          if b = true then te σ3 H6 fun y H7 => ∃ acc, H7 D = some (.lst acc) ∧ acc.length < sizeLine ∧ Nx1 (upd H7 D (.lst (acc ++ [y]))) else Nx1 H6)
      else Pv (i + 1) H3)
    (hd : ∀ H, Pv n H → Qd H) :
    ∃ W : Nat → Nat → Hp → Prop, (∃ m, W 0 m (upd H1 D (.lst []))) ∧ ∀ i m H, W i m H →
      (J.stop i H ∧ Qd H) ∨ (J.go i H ∧ ∃ Nx : Hp → Prop, (∀ H', Nx H' → ∃ m', m' < m ∧ W (i + 1) m' H') ∧ ∀ x H', J.yld i H x H' → g x (wipe σ vs) H' fun σ2 H2 => wipe σ2 vs = wipe σ vs ∧ tt σ2 H2 fun b H3 =>
        if b = true then wi1 σ2 H3 fun J1 H4 => ∃ W1 : Nat → Nat → Hp → Prop, (∃ m, W1 0 m H4) ∧ ∀ j k H, W1 j k H →
          (J1.stop j H ∧ Nx H) ∨ (J1.go j H ∧ ∃ Nx1 : Hp → Prop, (∀ H', Nx1 H' → ∃ k', k' < k ∧ W1 (j + 1) k' H') ∧ ∀ x H', J1.yld j H x H' → g1 x (wipe σ2 vs1) H' fun σ3 H5 => wipe σ3 vs1 = wipe σ2 vs1 ∧ tt1 σ3 H5 fun b H6 =>
            if b = true then te σ3 H6 fun y H7 => ∃ acc, H7 D = some (.lst acc) ∧ acc.length < sizeLine ∧ Nx1 (upd H7 D (.lst (acc ++ [y]))) else Nx1 H6)
        else Nx H3) := by
  refine ⟨fun i m H => m + i = n ∧ Pv i H, ⟨n, by omega, h0⟩, fun i m H hm => ?_⟩
  obtain ⟨em, p⟩ := hm
  have q := hG i H (by omega) p
  by_cases hi : i < n
  · exact .inr ⟨w.goes i H hi q, Pv (i + 1), fun H' p' => ⟨m - 1, by omega, by omega, p'⟩, fun x H' y => hs i x H H' hi p (w.yields i H x H' hi q y)⟩
  · obtain rfl : i = n := by omega
    exact .inl ⟨w.stops H q, hd H p⟩
/-! ### the rows that fit -/
abbrev rV (r : List Bool) : V := .str (rS r)
abbrev cV (b : Bool) : V := .str (cS b)
def spFit : Sp := fun vs H Q _ => ∃ σ : List (Option Bool), vs = [.str (sS σ)] ∧ σ.length ≤ 6 ∧ ∀ (H' : Hp) (p : Addr), Same H H' → H' p = some (.lst ((fit σ).map rV)) → Q (.ref p) H'
theorem sc_rf : FnScope ["standing", "found", "mark", "signs", "row", "sign"] ["standing"] (defScope s_rows_fitting) := ⟨rfl, rfl, rfl, by decide +kernel, rfl, by decide +kernel, by decide +kernel⟩
theorem cV_signs : (signs none).map cV = [.str "0", .str "1"] := by
  rw [str0, str1] <;> rfl
theorem rS_snoc (r : List Bool) (b : Bool) : rS r ++ cS b = rS (r ++ [b]) := by
  have e : cS b = SX.S [bc b] := rfl
  rw [e, SX.S_cat]
  show SX.S (r.map bc ++ [bc b]) = SX.S ((r ++ [b]).map bc)
  rw [List.map_append] <;> rfl
theorem fit_take {σ : List (Option Bool)} {i : Nat} {m : Option Bool} (h : σ[i]? = some m) : fit (σ.take (i + 1)) = fitStep (fit (σ.take i)) m := by
  rw [List.take_add_one, h]
  exact fit_snoc _ _
theorem fit_small {σ : List (Option Bool)} (h : σ.length ≤ 6) (i : Nat) : (fit (σ.take i)).length ≤ 64 :=
  Nat.le_trans (length_fit _) (pow6 (Nat.le_trans (by rw [List.length_take]; exact Nat.min_le_right _ _) h))
theorem fit_row_len {σ : List (Option Bool)} {i : Nat} {r : List Bool} (h : r ∈ fit (σ.take i)) : r.length ≤ σ.length := by
  rw [((mem_fit _ _).mp h).1, List.length_take]
  exact Nat.min_le_right _ _
theorem mark_eq (m : Option Bool) : decide (V.str (cM m) = V.str (".":String)) = m.isNone := by
  rw [strD]
  cases m with
  | none => exact decide_eq_true rfl
  | some b => cases b <;> decide
theorem take_flat {α β : Type} {L : List α} {i : Nat} {r : α} (h : L[i]? = some r) (g : α → List β) : (L.take (i + 1)).flatMap g = (L.take i).flatMap g ++ g r := by
  rw [List.take_add_one, h, List.flatMap_append]
  simp
theorem flat_small {L : List (List Bool)} {m : Option Bool} (i : Nat) (h : L.length ≤ 64) : ((L.take i).flatMap fun r => (signs m).map fun b => r ++ [b]).length ≤ 128 := by
  have q := length_fitStep (L.take i) m
  have e : fitStep (L.take i) m = (L.take i).flatMap fun r => (signs m).map fun b => r ++ [b] := rfl
  rw [← e]
  rw [List.length_take] at q
  omega
theorem signs_len (m : Option Bool) : (signs m).length ≤ 2 := by cases m <;> simp [signs]
theorem ok_rows_fitting (T : Top K mg) (F : Fun K "rows_fitting" "rows_fitting" s_rows_fitting f fd) : FnOk P w K mg base CX0 (k + 1) f fd ["standing"] spFit := by
  obtain ⟨aS, gS, hS⟩ := T.c_SIGNS
  obtain ⟨tD, gD⟩ := T.c_DOT
  refine F.ok sc_rf (fun vs H Q E h => ?_) (fun cdv A outer s H vs Q E hr h => ?_)
  · obtain ⟨r, rfl, _⟩ := h
    rfl
  · obtain ⟨σ, rfl, h6, q⟩ := h
    refine ⟨_, pss_cons (ps_set (i := 1) sc_rf.nd rfl (.inl rfl) (pe_lst (pa_cons pe_str pa_nil)))
      (pss_cons (ps_for PassesOwn.never rfl (pi_str (pv 0)) (pg_name (i := 2) sc_rf.nd rfl (.inl rfl))
        (pss_cons (ps_set (i := 3) sc_rf.nd rfl (.inr rfl) (pe_ifExp (pt_cmpR op_eq (pv 2) (pe_glob (v := .str ".") rfl gD ⟨_, rfl⟩) (nomark _)) (pe_glob (v := .ref aS) rfl gS rfl) (pe_tup (pa_cons (pv 2) pa_nil))))
        (pss_one (ps_setLc2 (i := 1) (own := [("row", 4), ("sign", 5)]) (vs1 := [5]) (g := gName 4) (tt := tYes) (g1 := gName 5) (tt1 := tYes) (wi1 := iTup K (tVar 3)) (te := tOp (fun x y H Q => ∃ i j, x = .str i ∧ y = .str j ∧ i.length + j.length ≤ sizeLine ∧ Q (.str (i ++ j)) H) (tVar 4) (tVar 5))
          rfl sc_rf.nd rfl rfl (sw_true rfl rfl rfl (by decide +kernel)) (pi_list (pv 1)) (blkOk_by (N := ["standing", "found", "mark", "signs", "row", "sign"]) (sc := defScope s_rows_fitting) (by decide +kernel)) (by decide)
          (fun _ _ _ _ _ => pg_name (i := 4) sc_rf.nd rfl (Or.inl rfl)) (fun _ _ _ _ _ => pts_nil) (fun _ _ _ _ _ => pi_tup (pv 3)) (fun _ _ _ _ _ => pg_name (i := 5) sc_rf.nd rfl (Or.inl rfl)) (fun _ _ _ _ _ => pts_nil)
          (fun _ _ _ _ _ => pe_op op_add_str (pv 4) (pv 5))))))
      (pss_one (ps_ret (pv 1)))), ?_⟩
    refine ⟨(by show 1 ≤ sizeLine; decide), fun p0 n0 => ?_⟩
    refine ⟨_, rfl, _, rfl, for_it walk_str (fun i σ' H' => ∃ p y2 y3, σ' = [some (.str (sS σ)), some (.ref p), y2, y3, none, none] ∧ Same H H' ∧ H' p = some (.lst ((fit (σ.take i)).map rV)))
      ⟨p0, none, none, rfl, same_upd n0, by rw [upd_same, strE] <;> rfl⟩ (fun _ _ _ _ _ => trivial) ?_ ?_⟩
    · rintro i x σ' H1 H2 hi ⟨p, y2, y3, rfl, s1, hp⟩ ⟨rfl, c, hc, rfl⟩
      obtain ⟨m, hm, rfl⟩ := sS_get hc
      -- signs = ..
      have key : ∀ (t : Addr) (H3 : Hp), Same H2 H3 → SqT K H3 t ((signs m).map cV) →
          tLc2 (iList K (tVar 1)) (gName 4) tYes (iTup K (tVar 3)) (gName 5) tYes (tOp (fun x y H Q => ∃ i j, x = .str i ∧ y = .str j ∧ i.length + j.length ≤ sizeLine ∧ Q (.str (i ++ j)) H) (tVar 4) (tVar 5)) [4, 5] [5]
            [some (.str (sS σ)), some (.ref p), some (.str (cM m)), some (.ref t), none, none] H3
            (fun x H' => gName 1 x [some (.str (sS σ)), some (.ref p), some (.str (cM m)), some (.ref t), none, none] H' fun σ' H' => ∃ p y2 y3, σ' = [some (.str (sS σ)), some (.ref p), y2, y3, none, none] ∧ Same H H' ∧ H' p = some (.lst ((fit (σ.take (i + 1))).map rV))) := by
        intro t H3 s3 ht
        have hp3 : H3 p = some (.lst ((fit (σ.take i)).map rV)) := s3 _ _ hp
        refine ⟨_, rfl, p, rfl, ⟨_, SqL.of hp3⟩, fun D hD => ?_⟩
        have hR : ∀ H' o, Same H3 H' → Same H3 (upd H' D o) := fun H' o s => sm_free s hD
        have fs := fit_small h6 i
        refine lc2_it walk_list (LcR (Same H3) D (fun a => (((fit (σ.take i)).take a).flatMap fun r => (signs m).map fun b => r ++ [b]).map rV)) (LcR.start hR (Same.refl H3) rfl) (fun a H' _ q => q.1.seq (SqL.of hp3)) ?_ ?_
        · intro a x H4 H5 ha ⟨s4, d4⟩ ⟨e, hx⟩
          subst e
          rw [List.getElem?_map] at hx
          obtain ⟨r, hr', rfl⟩ := Option.map_eq_some_iff.mp hx
          refine ⟨rfl, ?_⟩
          refine ⟨_, rfl, t, rfl, ⟨_, sm_tup s4 ht⟩, ?_⟩
          refine in_it walk_tup (LcR (Same H3) D (fun j => (((fit (σ.take i)).take a).flatMap fun r => (signs m).map fun b => r ++ [b]).map rV ++ ((signs m).take j).map fun b => rV (r ++ [b]))) ⟨s4, by rw [d4]; dsimp only; rw [List.take_zero, List.map_nil, List.append_nil]⟩ (fun j H' _ q => sm_tup q.1 ht) ?_ ?_
          · intro j x H6 H7 hj ⟨s6, d6⟩ ⟨e, hx⟩
            subst e
            rw [List.getElem?_map] at hx
            obtain ⟨b, hb, rfl⟩ := Option.map_eq_some_iff.mp hx
            have hl : r.length ≤ 6 := Nat.le_trans (fit_row_len (List.mem_of_getElem? hr')) h6
            refine ⟨rfl, _, rfl, _, rfl, _, _, rfl, rfl, ?_, ?_⟩
            · rw [rS_len]
              exact Nat.le_of_lt (small (by show r.length + 1 ≤ 4096; omega))
            · rw [rS_snoc]
              refine LcR.add hR s6 d6 ?_ ?_
              · rw [List.take_add_one, hb, List.map_append, List.append_assoc] <;> rfl
              · rw [List.length_append, List.length_map, List.length_map, List.length_take]
                have h1 := flat_small (m := m) a fs
                have h2 := signs_len m
                exact small (by omega)
          · intro H6 ⟨s6, d6⟩
            refine ⟨s6, ?_⟩
            rw [d6]
            dsimp only
            rw [List.length_map, List.take_length, take_flat hr', List.map_append, List.map_map] <;> rfl
        · intro H4 ⟨s4, d4⟩
          refine ⟨D, _, _, rfl, s1.trans (s3.trans s4), ?_⟩
          rw [d4]
          dsimp only
          rw [List.length_map, List.take_length, fit_take hm] <;> rfl
      refine ⟨_, rfl, rfl, _, rfl, ?_⟩
      rw [mark_eq m]
      cases m with
      | none =>
        refine iteT ?_
        exact key aS H2 (Same.refl H2) (by rw [cV_signs]; exact hS _)
      | some b =>
        refine iteF ⟨_, rfl, (by show 1 ≤ sizeLine; decide), fun t nt => ?_⟩
        exact key t _ (same_upd nt) (SqT.of upd_same)
    · rintro σ' H1 ⟨p, y2, y3, rfl, s1, hp⟩
      have e : σ.take (sS σ).cps.size = σ := List.take_of_length_le (by simp [SX.S])
      rw [e] at hp
      exact ⟨_, rfl, q _ _ s1 hp⟩
end
end K83
namespace K83
open PySem PySem.Spec PyProof.Rows L2
section
variable {P : Program} {w : World} {K : PySem.W.Frag} {mg : Str → Option Value} {base : Heap} {k : Nat} {f : Addr} {fd : FuncData}
/-! ### the law's own: the rows that fit -/
theorem sc_lf : FnScope ["_law_standing", "_law_found", "_law_mark", "_law_signs", "_law_later", "_law_row", "_law_sign"] ["_law_standing"] (defScope s_law_fitting) := ⟨rfl, rfl, rfl, by decide +kernel, rfl, by decide +kernel, by decide +kernel⟩
/-- the signs that a mark leaves, as one text -/
abbrev gS (m : Option Bool) : Str := rS (signs m)
theorem gS_none : gS none = (("01" : String) : Str) := by decide +kernel
theorem gS_some (b : Bool) : gS (some b) = cM (some b) := rfl
theorem str_one {c : Nat} : (⟨#[c]⟩ : Str) = SX.S [c] := rfl
theorem ok_law_fitting (T : Top K mg) (F : Fun K "_law_fitting" "_law_fitting" s_law_fitting f fd) : FnOk P w K mg base CX0 (k + 1) f fd ["_law_standing"] spFit := by
  refine F.ok sc_lf (fun vs H Q E h => ?_) (fun cdv A outer s H vs Q E hr h => ?_)
  · obtain ⟨r, rfl, _⟩ := h
    rfl
  · obtain ⟨σ, rfl, h6, q⟩ := h
    refine ⟨_, pss_cons (ps_set (i := 1) sc_lf.nd rfl (.inl rfl) (pe_lst (pa_cons pe_str pa_nil)))
      (pss_cons (ps_for PassesOwn.never rfl (pi_str (pv 0)) (pg_name (i := 2) sc_lf.nd rfl (.inl rfl))
        (pss_cons (ps_set (i := 3) sc_lf.nd rfl (.inl rfl) pe_str)
        (pss_cons (ps_if (pt_cmpR op_ne (pv 2) pe_str (nomark _)) (pss_one (ps_set (i := 3) sc_lf.nd rfl (.inl rfl) (pv 2))) pss_nil)
        (pss_cons (ps_set (i := 4) sc_lf.nd rfl (.inl rfl) (pe_lst pa_nil))
        (pss_cons (ps_for PassesOwn.never rfl (pi_list (pv 1)) (pg_name (i := 5) sc_lf.nd rfl (.inr rfl))
          (pss_one (ps_expr (pe_bm PySem.F.plainAttrs_list PySem.F.slot_list_extend PySem.F.type_list_extend mt_extend (pv 4) (pa_cons
            (pe_lc (own := [("_law_sign", 6)]) (g := gName 6) (tt := tYes) rfl sc_lf.nd (pi_str (pv 3)) (blkOk_by (N := ["_law_standing", "_law_found", "_law_mark", "_law_signs", "_law_later", "_law_row", "_law_sign"]) (sc := defScope s_law_fitting) (by decide +kernel))
              (fun _ _ _ _ _ => pg_name (i := 6) sc_lf.nd rfl (Or.inl rfl)) (fun _ _ _ _ _ => pts_nil) (fun _ _ _ _ _ => pe_op op_add_str (pv 5) (pv 6))) pa_nil)))))
        (pss_one (ps_set (i := 1) sc_lf.nd rfl (.inl rfl) (pv 4))))))))
      (pss_one (ps_ret (pv 1)))), ?_⟩
    refine ⟨(by show 1 ≤ sizeLine; decide), fun p0 n0 => ?_⟩
    refine ⟨_, rfl, _, rfl, for_it walk_str (fun i σ' H' => ∃ p y2 y3 y4 y5, σ' = [some (.str (sS σ)), some (.ref p), y2, y3, y4, y5, none] ∧ Same H H' ∧ H' p = some (.lst ((fit (σ.take i)).map rV)))
      ⟨p0, none, none, none, none, rfl, same_upd n0, by rw [upd_same, strE] <;> rfl⟩ (fun _ _ _ _ _ => trivial) ?_ ?_⟩
    · rintro i x σ' H1 H2 hi ⟨p, y2, y3, y4, y5, rfl, s1, hp⟩ ⟨rfl, c, hc, rfl⟩
      obtain ⟨m, hm, rfl⟩ := sS_get hc
      have fs := fit_small h6 i
      -- behind the choice of the signs
      have key : ∀ D : Ends, D.nx = (fun σ' H' => ∃ p y2 y3 y4 y5, σ' = [some (.str (sS σ)), some (.ref p), y2, y3, y4, y5, none] ∧ Same H H' ∧ H' p = some (.lst ((fit (σ.take (i + 1))).map rV))) →
          tSeq (tAsg (tLst tNil) (gName 4)) (tSeq (tFor (iList K (tVar 1)) (gName 5) (tDrop (tBM K "list" rExtend (tVar 4) (tCons (tLc (iStr (tVar 3)) (gName 6) tYes (tOp (fun x y H Q => ∃ i j, x = .str i ∧ y = .str j ∧ i.length + j.length ≤ sizeLine ∧ Q (.str (i ++ j)) H) (tVar 5) (tVar 6)) [6]) tNil)))) (tAsg (tVar 4) (gName 1))) D
            [some (.str (sS σ)), some (.ref p), some (.str (cM m)), some (.str (gS m)), y4, y5, none] H2 := by
        rintro D eD
        refine ⟨Nat.zero_le _, fun l nl => ?_⟩
        have hpl : p ≠ l := ne_of_none hp nl
        refine ⟨_, rfl, p, rfl, ⟨_, SqL.of (by rw [upd_ne hpl]; exact hp)⟩, for_it walk_list (fun a σ' H' => ∃ y5, σ' = [some (.str (sS σ)), some (.ref p), some (.str (cM m)), some (.str (gS m)), some (.ref l), y5, none] ∧ Same H2 H' ∧ H' l = some (.lst ((((fit (σ.take i)).take a).flatMap fun r => (signs m).map fun b => r ++ [b]).map rV)))
          ⟨_, rfl, same_upd nl, upd_same⟩ (fun a σ' H' _ q => let ⟨_, _, s, _⟩ := q; SqL.of (s _ _ hp)) ?_ ?_⟩
        · rintro a x σ' H3 H4 ha ⟨y5, rfl, s3, hl⟩ ⟨rfl, hx⟩
          rw [List.getElem?_map] at hx
          obtain ⟨r, hr', rfl⟩ := Option.map_eq_some_iff.mp hx
          have hl6 : r.length ≤ 6 := Nat.le_trans (fit_row_len (List.mem_of_getElem? hr')) h6
          refine ⟨_, rfl, .inl ⟨rfl, _, SqL.of hl⟩, _, rfl, _, rfl, fun E nE => ?_⟩
          have hR : ∀ H' o, Same H4 H' → Same H4 (upd H' E o) := fun H' o s => sm_free s nE
          refine lc_it walk_str (LcR (Same H4) E (fun j => ((signs m).take j).map fun b => rV (r ++ [b]))) (LcR.start hR (Same.refl H4) rfl) (fun _ _ _ _ => trivial) ?_ ?_
          · intro j x H5 H6 hj ⟨s5, d5⟩ ⟨e, c, hc, ex⟩
            subst e ex
            obtain ⟨b, hb, rfl⟩ := rS_get hc
            refine ⟨rfl, _, rfl, _, rfl, _, _, rfl, rfl, ?_, ?_⟩
            · rw [rS_len]
              exact Nat.le_of_lt (small (by show r.length + 1 ≤ 4096; omega))
            · rw [rS_snoc]
              refine LcR.add hR s5 d5 ?_ ?_
              · rw [List.take_add_one, hb, List.map_append] <;> rfl
              · rw [List.length_map, List.length_take]
                have h2 := signs_len m
                exact small (by omega)
          · intro H5 ⟨s5, d5⟩
            have es : (signs m).take (gS m).cps.size = signs m := List.take_of_length_le (by simp [SX.S])
            dsimp only at d5
            rw [es] at d5
            refine ⟨l, E, _, _, rfl, rfl, s5 _ _ hl, d5, ?_, ?_⟩
            · rw [List.length_map, List.length_map]
              have h1 := flat_small (m := m) a fs
              have h2 := signs_len m
              exact Nat.le_of_lt (small (by omega))
            · refine ⟨_, rfl, fun b o e => ?_, ?_⟩
              · rw [upd_ne (ne_of_none e nl)]
                exact s5 _ _ (s3 _ _ e)
              · rw [upd_same, take_flat hr', List.map_append, List.map_map] <;> rfl
        · rintro σ' H3 ⟨y5, rfl, s3, hl⟩
          refine ⟨_, rfl, ?_⟩
          rw [List.length_map, List.take_length] at hl
          show D.nx _ _
          rw [eD]
          refine ⟨l, _, _, _, _, rfl, s1.trans s3, ?_⟩
          rw [hl, fit_take hm] <;> rfl
      refine ⟨_, rfl, rfl, _, rfl, ?_⟩
      rw [mark_eq m]
      cases m with
      | none =>
        refine iteF ?_
        rw [← gS_none]
        exact key _ (by rfl)
      | some b =>
        refine iteT ⟨_, rfl, ?_⟩
        exact key _ (by rfl)
    · rintro σ' H1 ⟨p, y2, y3, y4, y5, rfl, s1, hp⟩
      have e : σ.take (sS σ).cps.size = σ := List.take_of_length_le (by simp [SX.S])
      rw [e] at hp
      exact ⟨_, rfl, q _ _ s1 hp⟩
end
end K83
namespace K83
open PySem PySem.Spec PyProof.Rows L2
section
variable {P : Program} {w : World} {K : PySem.W.Frag} {mg : Str → Option Value} {base : Heap} {k : Nat} {f : Addr} {fd : FuncData}
/-! ### the places on which a fact hangs -/
abbrev nV (i : Nat) : V := .int (i : Int)
/-- a fact of n places -/
structure FactOk (G : List Bool) (n : Nat) : Prop where
  len : G.length = 2 ^ n
  one : 1 ≤ n
  six : n ≤ 6
theorem set_mc (σ : List (Option Bool)) (p : Nat) (b : Bool) : (σ.map mc).set p (bc b) = (σ.set p (some b)).map mc := (List.map_set (f := mc) (l := σ) (i := p) (a := some b)).symm
theorem set_bc (r : List Bool) (p : Nat) (b : Bool) : (r.map bc).set p (bc b) = (r.set p b).map bc := List.map_set.symm
theorem cS_ne (a b : Bool) : (!decide (V.str (cS a) = V.str (cS b))) = (a != b) := by cases a <;> cases b <;> decide
def spHangs : Sp := fun vs H Q _ => ∃ (G : List Bool) (σ : List (Option Bool)) (p : Nat), vs = [.str (rS G), .str (sS σ), nV p] ∧ FactOk G σ.length ∧ p < σ.length ∧ ∀ H', Same H H' → Q (.bl (hangB G σ p)) H'
theorem sc_ho : FnScope ["fact", "standing", "place", "row"] ["fact", "standing", "place"] (defScope s_hangs_on) := ⟨rfl, rfl, rfl, by decide +kernel, rfl, by decide +kernel, by decide +kernel⟩
theorem ok_hangs_on (T : Top K mg) (F : Fun K "hangs_on" "hangs_on" s_hangs_on f fd) : FnOk P w K mg base CX0 (k + 2) f fd ["fact", "standing", "place"] spHangs := by
  obtain ⟨f1, fd1, F1, g1, b1⟩ := T.d_with_sign
  have G1 := ok_with_sign (P := P) (w := w) (mg := mg) (base := base) (k := k) F1
  obtain ⟨f2, fd2, F2, g2, b2⟩ := T.d_rows_fitting
  have G2 := ok_rows_fitting (P := P) (w := w) (base := base) (k := k) T F2
  obtain ⟨f3, fd3, F3, g3, b3⟩ := T.d_sign_for
  have G3 := ok_sign_for (P := P) (w := w) (base := base) (k := k) T F3
  refine F.ok sc_ho (fun vs H Q E h => ?_) (fun cdv A outer s H vs Q E hr h => ?_)
  · obtain ⟨_, _, _, rfl, _⟩ := h
    rfl
  · obtain ⟨G, σ, p, rfl, hG, hp, q⟩ := h
    have h6 := hG.six
    refine ⟨_, pss_cons (ps_for PassesOwn.never rfl (pi_list (pe_call G2 hr (by rfl) g2 F2.kp b2 .nil pass0 (pa_cons (pe_call G1 hr (by rfl) g1 F1.kp b1 .nil pass0 (pa_cons (pv 1) (pa_cons (pv 2) (pa_cons pe_str pa_nil)))) pa_nil)))
        (pg_name (i := 3) sc_ho.nd rfl (.inl rfl))
        (pss_one (ps_if (pt_cmpR op_ne (pe_call G3 hr (by rfl) g3 F3.kp b3 .nil pass0 (pa_cons (pv 0) (pa_cons (pv 3) pa_nil)))
          (pe_call G3 hr (by rfl) g3 F3.kp b3 .nil pass0 (pa_cons (pv 0) (pa_cons (pe_call G1 hr (by rfl) g1 F1.kp b1 .nil pass0 (pa_cons (pv 3) (pa_cons (pv 2) (pa_cons pe_str pa_nil)))) pa_nil))) (nomark _))
          (pss_one (ps_ret pe_bl)) pss_nil)))
      (pss_one (ps_ret pe_bl)), ?_⟩
    refine ⟨_, rfl, _, rfl, σ.map mc, p, bc false, ?_, ?_, ?_, σ.set p (some false), ?_, ?_, fun H1 L s1 hL => ?_⟩
    · rw [str0] <;> rfl
    · rw [List.length_map]
      omega
    · rw [List.length_map]
      exact hp
    · rw [set_mc] <;> rfl
    · rw [List.length_set]
      exact h6
    · refine ⟨L, rfl, ⟨_, SqL.of hL⟩, for_it walk_list (fun i σ' H' => Same H1 H' ∧ (∃ y, σ' = [some (.str (rS G)), some (.str (sS σ)), some (nV p), y]) ∧ ((fit (σ.set p (some false))).take i).any (fun r => at_ G r != at_ G (r.set p true)) = false)
        ⟨Same.refl _, ⟨_, rfl⟩, rfl⟩ (fun i σ' H' _ q => q.1.seq (SqL.of hL)) ?_ ?_⟩
      · rintro i x σ' H2 H3 hi ⟨s2, ⟨y, rfl⟩, hn⟩ ⟨rfl, hx⟩
        rw [List.getElem?_map] at hx
        obtain ⟨r, hr', rfl⟩ := Option.map_eq_some_iff.mp hx
        have hl : r.length = σ.length := by
          have := ((mem_fit _ _).mp (List.mem_of_getElem? hr')).1
          rwa [List.length_set] at this
        refine ⟨_, rfl, _, rfl, G, r, σ.length, rfl, hG.len, hG.one, h6, hl, ?_⟩
        refine ⟨_, rfl, _, rfl, _, rfl, r.map bc, p, bc true, ?_, ?_, ?_, G, r.set p true, σ.length, ?_, hG.len, hG.one, h6, ?_, ?_⟩
        · rw [str1] <;> rfl
        · rw [List.length_map]
          omega
        · rw [List.length_map]
          omega
        · rw [set_bc] <;> rfl
        · rw [List.length_set]
          exact hl
        · refine ⟨rfl, _, rfl, ?_⟩
          rw [cS_ne]
          refine ite2 (fun c => ?_) (fun c => ?_)
          · have e : hangB G σ p = true := List.any_eq_true.mpr ⟨r, List.mem_of_getElem? hr', c⟩
            have z := q _ (s1.trans s2)
            rw [e] at z
            exact z
          · refine ⟨s2, ⟨_, rfl⟩, ?_⟩
            rw [List.take_add_one, hr', List.any_append, hn]
            show (false || ((at_ G r != at_ G (r.set p true)) || false)) = false
            rw [Bool.eq_false_iff.mpr c] <;> rfl
      · rintro σ' H2 ⟨s2, ⟨y, rfl⟩, hn⟩
        rw [List.length_map, List.take_length] at hn
        have e : hangB G σ p = false := hn
        have z := q _ (s1.trans s2)
        rw [e] at z
        exact z
def spHangAt : Sp := fun vs H Q _ => ∃ (G : List Bool) (σ : List (Option Bool)), vs = [.str (rS G), .str (sS σ)] ∧ FactOk G σ.length ∧ ∀ (H' : Hp) (p : Addr), Same H H' → H' p = some (.tup ((hang G σ).map nV)) → Q (.ref p) H'
theorem sc_ha : FnScope ["fact", "standing", "place", "mark"] ["fact", "standing"] (defScope s_hanging_at) := ⟨rfl, rfl, rfl, by decide +kernel, rfl, by decide +kernel, by decide +kernel⟩
theorem sS_ascii (σ : List (Option Bool)) : (sS σ).cps.all (· < 128) = true := by
  rw [← Array.all_toList, List.all_eq_true]
  intro c hc
  obtain ⟨m, _, rfl⟩ := List.mem_map.mp (show c ∈ σ.map mc from hc)
  cases m with
  | none => decide
  | some b => cases b <;> decide
abbrev hungP (G : List Bool) (σ : List (Option Bool)) (p : Nat) : Bool := (σ[p]? == some none) && hangB G σ p
theorem filter_succ (g : Nat → Bool) (i : Nat) : (List.range (i + 1)).filter g = (List.range i).filter g ++ if g i = true then [i] else [] := by
  rw [List.range_succ, List.filter_append]
  congr 1
  cases h : g i
  · rw [List.filter_cons_of_neg (by rw [h]; decide)] <;> rfl
  · rw [List.filter_cons_of_pos h] <;> rfl
theorem filter_small (g : Nat → Bool) (i : Nat) : ((List.range i).filter g).length ≤ i := Nat.le_trans (List.length_filter_le _ _) (by simp)
theorem ok_hanging_at (T : Top K mg) (F : Fun K "hanging_at" "hanging_at" s_hanging_at f fd) : FnOk P w K mg base CX0 (k + 3) f fd ["fact", "standing"] spHangAt := by
  obtain ⟨f1, fd1, F1, g1, b1⟩ := T.d_hangs_on
  have G1 := ok_hangs_on (P := P) (w := w) (base := base) (k := k) T F1
  obtain ⟨tD, gD⟩ := T.c_DOT
  refine F.ok sc_ha (fun vs H Q E h => ?_) (fun cdv A outer s H vs Q E hr h => ?_)
  · obtain ⟨_, _, rfl, _⟩ := h
    rfl
  · obtain ⟨G, σ, rfl, hG, q⟩ := h
    have h6 := hG.six
    refine ⟨_, pss_one (ps_ret (pe_callTy call_tuple_of (by rfl) T.n_tuple (by decide +kernel) (pa_cons
      (pe_lc (own := [("place", 2), ("mark", 3)]) (g := gTup K 2 (gCons (gName 2) (gCons (gName 3) gNil))) rfl sc_ha.nd (pi_enumS (by rfl) T.n_enumerate (pa_cons (pv 1) pa_nil)) (blkOk_by (N := ["fact", "standing", "place", "mark"]) (sc := defScope s_hanging_at) (by decide +kernel))
        (fun _ _ _ _ _ => pg_tup rfl (pgs_cons (pg_name (i := 2) sc_ha.nd rfl (.inl rfl)) (pgs_cons (pg_name (i := 3) sc_ha.nd rfl (.inl rfl)) pgs_nil)))
        (fun _ _ _ _ _ => pts_one (PW.pt (pw_and (pt_cmpR op_eq (pv 3) (pe_glob (v := .str ".") rfl gD ⟨_, rfl⟩) (nomark _)) (pw_and1 (pt_val (pe_call G1 hr (by rfl) g1 F1.kp b1 .nil pass0 (pa_cons (pv 0) (pa_cons (pv 1) (pa_cons (pv 2) pa_nil)))))))))
        (fun _ _ _ _ _ => pv 2)) pa_nil))), ?_⟩
    refine ⟨_, rfl, _, rfl, sS_ascii σ, fun D hD => ?_⟩
    have hR : ∀ H' o, Same H H' → Same H (upd H' D o) := fun H' o s => sm_free s hD
    have hsz : (sS σ).cps.size = σ.length := by simp [SX.S]
    refine lc_it walk_enumS (LcR (Same H) D (fun i => ((List.range i).filter (hungP G σ)).map nV)) (LcR.start hR (Same.refl H) rfl) (fun _ _ _ _ => trivial) ?_ ?_
    · intro i x H1 H2 hi ⟨s1, d1⟩ ⟨t, c, ex, nt, eH, hc⟩
      subst ex eH
      obtain ⟨m, hm, rfl⟩ := sS_get hc
      have hDt : D ≠ t := ne_of_none d1 nt
      have s2 : Same H (upd H1 t (.tup [.int (i : Nat), .str ⟨#[mc m]⟩])) := s1.trans (same_upd nt)
      have d2 : (upd H1 t (.tup [.int (i : Nat), .str ⟨#[mc m]⟩])) D = some (.lst (((List.range i).filter (hungP G σ)).map nV)) := by rw [upd_ne hDt]; exact d1
      refine ⟨t, _, rfl, SqT.of upd_same, rfl, _, _, rfl, _, _, rfl, rfl, rfl, ?_⟩
      refine ⟨_, rfl, rfl, _, rfl, ?_⟩
      have hz : (((List.range i).filter (hungP G σ)).map nV).length < sizeLine := by
        rw [List.length_map]
        have := filter_small (hungP G σ) i
        exact small (by omega)
      rw [mark_eq m]
      cases m with
      | some b =>
        refine iteF (iteF (LcR.skip s2 d2 ?_))
        rw [filter_succ]
        have : hungP G σ i = false := by unfold hungP; rw [hm]; rfl
        rw [this]
        simp
      | none =>
        refine iteT ⟨_, rfl, _, rfl, _, rfl, G, σ, i, rfl, hG, by omega, fun H3 s3 => ?_⟩
        have e : hungP G σ i = hangB G σ i := by
          unfold hungP
          rw [hm]
          show ((some none : Option (Option Bool)) == some none && hangB G σ i) = _
          rw [beq_self_eq_true] <;> simp
        refine ⟨_, rfl, ite2 (fun c => ?_) (fun c => ?_)⟩
        · refine ⟨_, rfl, LcR.add hR (s2.trans s3) (s3 _ _ d2) ?_ hz⟩
          rw [filter_succ, e, if_pos c, List.map_append] <;> rfl
        · refine LcR.skip (s2.trans s3) (s3 _ _ d2) ?_
          rw [filter_succ, e, if_neg c, List.append_nil]
    · intro H1 ⟨s1, d1⟩
      rw [hsz] at d1
      refine ⟨D, _, rfl, .inl ⟨SqL.of d1, fun l nl => ?_⟩⟩
      exact q _ l (s1.trans (same_upd nl)) upd_same
theorem sc_hg : FnScope ["fact", "standing"] ["fact", "standing"] (defScope s_hanging) := ⟨rfl, rfl, rfl, by decide +kernel, rfl, by decide +kernel, by decide +kernel⟩
theorem ok_hanging (T : Top K mg) (F : Fun K "hanging" "hanging" s_hanging f fd) : FnOk P w K mg base CX0 (k + 4) f fd ["fact", "standing"] spHangAt := by
  obtain ⟨f1, fd1, F1, g1, b1⟩ := T.d_is_marked
  have G1 := ok_is_marked (P := P) (w := w) (base := base) (k := k + 2) T F1
  obtain ⟨f2, fd2, F2, g2, b2⟩ := T.d_check_fact
  have G2 := ok_check_fact (P := P) (w := w) (base := base) (k := k) T F2
  obtain ⟨f3, fd3, F3, g3, b3⟩ := T.d_hanging_at
  have G3 := ok_hanging_at (P := P) (w := w) (base := base) (k := k) T F3
  refine F.ok sc_hg (fun vs H Q E h => ?_) (fun cdv A outer s H vs Q E hr h => ?_)
  · obtain ⟨_, _, rfl, _⟩ := h
    rfl
  · obtain ⟨G, σ, rfl, hG, q⟩ := h
    refine ⟨_, pss_cons (ps_if (pt_not (pt_val (pe_call G1 hr (by rfl) g1 F1.kp b1 .nil pass0 (pa_cons (pv 1) (pa_cons (pe_call G2 hr (by rfl) g2 F2.kp b2 .nil pass0 (pa_cons (pv 0) pa_nil)) pa_nil))))) pss_never pss_nil)
      (pss_one (ps_ret (pe_call G3 hr (by rfl) g3 F3.kp b3 .nil pass0 (pa_cons (pv 0) (pa_cons (pv 1) pa_nil))))), ?_⟩
    refine ⟨_, rfl, _, rfl, G, σ.length, rfl, hG.len, hG.one, hG.six, fun H1 s1 => ?_⟩
    have h6 := hG.six
    refine ⟨σ, rfl, by omega, fun H2 s2 => ⟨true, rfl, iteF ?_⟩⟩
    exact ⟨_, rfl, _, rfl, G, σ, rfl, hG, fun H3 p s3 hp => q H3 p (s1.trans (s2.trans s3)) hp⟩
end
end K83
namespace K83
open PySem PySem.Spec PyProof.Rows L2
section
variable {P : Program} {w : World} {K : PySem.W.Frag} {mg : Str → Option Value} {base : Heap} {k : Nat} {f : Addr} {fd : FuncData}
/-! ### the law's own: the places on which a fact hangs, as a list -/
theorem walk_range0 {n : Nat} : Walk (Itr 0 n) n (fun _ => True) (fun i H x H' => H' = H ∧ x = nV i) :=
  ⟨fun _ _ hi _ => hi, fun _ _ => Nat.le_refl _, fun i _ _ _ _ _ y => ⟨y.1, y.2.trans (congrArg V.int (Int.zero_add (i : Int)))⟩⟩
def spLHang : Sp := fun vs H Q _ => ∃ (G : List Bool) (σ : List (Option Bool)), vs = [.str (rS G), .str (sS σ)] ∧ FactOk G σ.length ∧ ∀ (H' : Hp) (p : Addr), Same H H' → H p = none → H' p = some (.lst ((hang G σ).map nV)) → Q (.ref p) H'
theorem sc_lh : FnScope ["_law_fact_here", "_law_standing", "_law_found", "_law_place", "_law_pairs", "_law_row", "_law_one", "_law_other"] ["_law_fact_here", "_law_standing"] (defScope s_law_hanging) := ⟨rfl, rfl, rfl, by decide +kernel, rfl, by decide +kernel, by decide +kernel⟩
abbrev nLH : List Str := ["_law_fact_here", "_law_standing", "_law_found", "_law_place", "_law_pairs", "_law_row", "_law_one", "_law_other"]
theorem filter_take (g : List Bool → Bool) {L : List (List Bool)} {i : Nat} {r : List Bool} (h : L[i]? = some r) : (L.take (i + 1)).filter g = (L.take i).filter g ++ if g r = true then [r] else [] := by
  rw [List.take_add_one, h, List.filter_append]
  congr 1
  show [r].filter g = _
  cases e : g r
  · rw [List.filter_cons_of_neg (by rw [e]; decide)] <;> rfl
  · rw [List.filter_cons_of_pos e] <;> rfl
/-- the pairs of rows at the addresses ts -/
def PairsAt (H : Hp) (p : Nat) (ts : List Addr) (L : List (List Bool)) : Prop := ts.length = L.length ∧ ∀ (j : Nat) (t : Addr) (r : List Bool), ts[j]? = some t → L[j]? = some r → H t = some (.tup [rV r, rV (r.set p true)])
theorem PairsAt.same {H H' : Hp} {p : Nat} {ts : List Addr} {L : List (List Bool)} (s : Same H H') (q : PairsAt H p ts L) : PairsAt H' p ts L := ⟨q.1, fun j t r h1 h2 => s _ _ (q.2 j t r h1 h2)⟩
theorem ok_law_hanging (T : Top K mg) (F : Fun K "_law_hanging" "_law_hanging" s_law_hanging f fd) : FnOk P w K mg base CX0 (k + 2) f fd ["_law_fact_here", "_law_standing"] spLHang := by
  obtain ⟨f1, fd1, F1, g1, b1⟩ := T.d_law_put
  have G1 := ok_law_put (P := P) (w := w) (mg := mg) (base := base) (k := k) F1
  obtain ⟨f2, fd2, F2, g2, b2⟩ := T.d_law_fitting
  have G2 := ok_law_fitting (P := P) (w := w) (base := base) (k := k) T F2
  obtain ⟨f3, fd3, F3, g3, b3⟩ := T.d_law_value
  have G3 := ok_law_value (P := P) (w := w) (base := base) (k := k) T F3
  refine F.ok sc_lh (fun vs H Q E h => ?_) (fun cdv A outer s H vs Q E hr h => ?_)
  · obtain ⟨_, _, rfl, _⟩ := h
    rfl
  · obtain ⟨G, σ, rfl, hG, q⟩ := h
    have h6 := hG.six
    refine ⟨_, pss_cons (ps_set (i := 2) sc_lh.nd rfl (.inl rfl) (pe_lst pa_nil))
      (pss_cons (ps_for PassesOwn.never rfl (pi_range1 (by rfl) T.n_range (pa_cons (pe_callB call_len_str (by rfl) T.n_len PySem.boot_len (pa_cons (pv 1) pa_nil)) pa_nil)) (pg_name (i := 3) sc_lh.nd rfl (.inr rfl))
        (pss_one (ps_if (pt_cmpR op_eq (pe_item_str (pv 1) (pv 3) (fun _ _ => rfl)) pe_str (nomark _))
          (pss_cons (ps_setLc (i := 4) (own := [("_law_row", 5)]) (g := gName 5) (tt := tYes) rfl sc_lh.nd rfl rfl (sw_true rfl rfl rfl (by decide +kernel))
              (pi_list (pe_call G2 hr (by rfl) g2 F2.kp b2 .nil pass0 (pa_cons (pe_call G1 hr (by rfl) g1 F1.kp b1 .nil pass0 (pa_cons (pv 1) (pa_cons (pv 3) (pa_cons pe_str pa_nil)))) pa_nil)))
              (blkOk_by (N := nLH) (sc := defScope s_law_hanging) (by decide +kernel)) (fun _ _ _ _ _ => pg_name (i := 5) sc_lh.nd rfl (Or.inl rfl)) (fun _ _ _ _ _ => pts_nil)
              (fun _ _ _ _ _ => pe_tup (pa_cons (pv 5) (pa_cons (pe_call G1 hr (by rfl) g1 F1.kp b1 .nil pass0 (pa_cons (pv 5) (pa_cons (pv 3) (pa_cons pe_str pa_nil)))) pa_nil))))
          (pss_one (ps_if (pt_cmpR op_gt (pe_callB call_len_seq (by rfl) T.n_len PySem.boot_len (pa_cons
              (pe_lc (own := [("_law_one", 6), ("_law_other", 7)]) (g := gTup K 2 (gCons (gName 6) (gCons (gName 7) gNil))) rfl sc_lh.nd (pi_list (pv 4)) (blkOk_by (N := nLH) (sc := defScope s_law_hanging) (by decide +kernel))
                (fun _ _ _ _ _ => pg_tup rfl (pgs_cons (pg_name (i := 6) sc_lh.nd rfl (.inl rfl)) (pgs_cons (pg_name (i := 7) sc_lh.nd rfl (.inl rfl)) pgs_nil)))
                (fun _ _ _ _ _ => pts_one (pt_cmpR op_ne (pe_call G3 hr (by rfl) g3 F3.kp b3 .nil pass0 (pa_cons (pv 0) (pa_cons (pv 6) pa_nil))) (pe_call G3 hr (by rfl) g3 F3.kp b3 .nil pass0 (pa_cons (pv 0) (pa_cons (pv 7) pa_nil))) (nomark _)))
                (fun _ _ _ _ _ => pv 6)) pa_nil)) pe_int (nomark _))
            (pss_one (ps_expr (pe_bm PySem.F.plainAttrs_list PySem.F.slot_list_append PySem.F.type_list_append mt_append (pv 2) (pa_cons (pv 3) pa_nil)))) pss_nil))) pss_nil)))
      (pss_one (ps_ret (pv 2)))), ?_⟩
    refine ⟨Nat.zero_le _, fun l nl => ?_⟩
    refine ⟨_, rfl, _, rfl, ?_, σ.length, ?_, by omega, by omega, for_it walk_range0 (fun i σ' H' => (∃ y3 y4, σ' = [some (.str (rS G)), some (.str (sS σ)), some (.ref l), y3, y4, none, none, none]) ∧ Same H H' ∧ H' l = some (.lst (((List.range i).filter (hungP G σ)).map nV)))
      ⟨⟨_, _, rfl⟩, same_upd nl, upd_same⟩ (fun _ _ _ _ _ => trivial) ?_ ?_⟩
    · rw [sS_len]
      exact Nat.le_of_lt (small (by omega))
    · rw [sS_len]
    · rintro i x σ' H1 H2 hi ⟨⟨y3, y4, rfl⟩, s1, hl⟩ ⟨rfl, rfl⟩
      have hi : i < σ.length := by simpa using hi
      obtain ⟨m, hm⟩ : ∃ m, σ[i]? = some m := ⟨_, List.getElem?_eq_getElem hi⟩
      refine ⟨_, rfl, _, rfl, _, _, mc m, rfl, rfl, by omega, by omega, ?_, ?_, rfl, _, rfl, ?_⟩
      · rw [sS_len]
        omega
      · rw [Int.toNat_natCast, S_get, List.getElem?_map, hm] <;> rfl
      rw [mark_eq m]
      have hz : (((List.range i).filter (hungP G σ)).map nV).length < sizeLine := by
        rw [List.length_map]
        have := filter_small (hungP G σ) i
        exact small (by omega)
      cases m with
      | some b =>
        refine iteF ⟨⟨_, _, rfl⟩, s1, ?_⟩
        rw [filter_succ]
        have : hungP G σ i = false := by unfold hungP; rw [hm]; rfl
        rw [this, if_neg Bool.false_ne_true, List.append_nil]
        exact hl
      | none =>
        have eh : hungP G σ i = hangB G σ i := by
          unfold hungP
          rw [hm]
          show ((some none : Option (Option Bool)) == some none && hangB G σ i) = _
          rw [beq_self_eq_true] <;> simp
        have hfl : (σ.set i (some false)).length = σ.length := List.length_set
        refine iteT ?_
        -- the pairs
        refine ⟨_, rfl, _, rfl, σ.map mc, i, bc false, ?_, ?_, ?_, σ.set i (some false), ?_, ?_, fun H3 L s3 hL => ?_⟩
        · rw [str0] <;> rfl
        · rw [List.length_map]
          omega
        · rw [List.length_map]
          exact hi
        · rw [set_mc] <;> rfl
        · rw [hfl]
          exact h6
        have hl3 := s3 _ _ hl
        refine ⟨L, rfl, ⟨_, SqL.of hL⟩, fun D hD => ?_⟩
        have fs : (fit (σ.set i (some false))).length ≤ 64 := by
          have := fit_small (σ := σ.set i (some false)) (by omega) (σ.set i (some false)).length
          rwa [List.take_length] at this
        refine lc_it walk_list (fun j H' => Same H3 H' ∧ ∃ ts : List Addr, H' D = some (.lst (ts.map V.ref)) ∧ PairsAt H' i ts ((fit (σ.set i (some false))).take j)) ⟨same_upd hD, [], by rw [upd_same] <;> rfl, rfl, fun j t r h => by simp at h⟩ (fun j H' _ q => q.1.seq (SqL.of hL)) ?_ ?_
        · intro j x H4 H5 hj ⟨s4, ts, d4, pa⟩ ⟨e, hx⟩
          subst e
          rw [List.getElem?_map] at hx
          obtain ⟨r, hr', rfl⟩ := Option.map_eq_some_iff.mp hx
          have hrl : r.length = σ.length := by
            have := ((mem_fit _ _).mp (List.mem_of_getElem? hr')).1
            rwa [hfl] at this
          have hjl : j < (fit (σ.set i (some false))).length := (List.getElem?_eq_some_iff.mp hr').1
          refine ⟨rfl, _, rfl, _, rfl, _, rfl, r.map bc, i, bc true, ?_, ?_, ?_, ?_, fun t nt => ?_⟩
          · rw [str1] <;> rfl
          · rw [List.length_map]
            omega
          · rw [List.length_map]
            omega
          · show 2 ≤ sizeLine
            decide
          · have hDt : D ≠ t := ne_of_none d4 nt
            have tl : ts.length = j := by rw [pa.1, List.length_take]; omega
            refine ⟨_, by rw [upd_ne hDt]; exact d4, ?_, ?_, ts ++ [t], ?_, ?_, ?_⟩
            · rw [List.length_map]
              exact small (by omega)
            · exact sm_free (s4.trans (same_upd nt)) hD
            · rw [upd_same, List.map_append] <;> rfl
            · rw [List.length_append, List.length_singleton, tl, List.length_take]
              omega
            · intro a u r' ha hr2
              by_cases hlt : a < j
              · rw [List.getElem?_append_left (by omega)] at ha
                rw [List.getElem?_take_of_lt (by omega)] at hr2
                have old := pa.2 a u r' ha (by rw [List.getElem?_take_of_lt hlt]; exact hr2)
                rw [upd_ne (show u ≠ D from fun z => by rw [z, d4] at old; cases old), upd_ne (ne_of_none old nt)]
                exact old
              · have ea : a = j := by
                  have := (List.getElem?_eq_some_iff.mp ha).1
                  rw [List.length_append, List.length_singleton] at this
                  omega
                subst ea
                rw [List.getElem?_append_right (by omega), tl, Nat.sub_self] at ha
                have et : t = u := Option.some.inj ha
                subst et
                rw [List.getElem?_take_of_lt (by omega), hr'] at hr2
                have er : r = r' := Option.some.inj hr2
                subst er
                rw [upd_ne hDt.symm, upd_same, set_bc]
        · intro H4 ⟨s4, ts, d4, pa⟩
          have hl4 := s4 _ _ hl3
          rw [List.length_map, List.take_length] at pa
          -- how many differ
          refine ⟨_, rfl, D, rfl, ⟨_, SqL.of d4⟩, fun D2 hD2 => ?_⟩
          have hR : ∀ H' o, Same H4 H' → Same H4 (upd H' D2 o) := fun H' o s => sm_free s hD2
          refine lc_it walk_list (LcR (Same H4) D2 (fun j => (((fit (σ.set i (some false))).take j).filter fun r => at_ G r != at_ G (r.set i true)).map rV)) (LcR.start hR (Same.refl H4) rfl) (fun j H' _ q => q.1.seq (SqL.of d4)) ?_ ?_
          · intro j x H5 H6 hj ⟨s5, d5⟩ ⟨e, hx⟩
            subst e
            rw [List.getElem?_map] at hx
            obtain ⟨t, ht, rfl⟩ := Option.map_eq_some_iff.mp hx
            have hjl : j < (fit (σ.set i (some false))).length := by
              have := (List.getElem?_eq_some_iff.mp ht).1
              rw [pa.1] at this
              exact this
            obtain ⟨r, hr'⟩ : ∃ r, (fit (σ.set i (some false)))[j]? = some r := ⟨_, List.getElem?_eq_getElem hjl⟩
            have hrl : r.length = σ.length := by
              have := ((mem_fit _ _).mp (List.mem_of_getElem? hr')).1
              rwa [hfl] at this
            have htt := s5 _ _ (pa.2 j t r ht hr')
            refine ⟨t, _, rfl, SqT.of htt, rfl, _, _, rfl, _, _, rfl, rfl, rfl, ?_⟩
            refine ⟨_, rfl, _, rfl, G, r, σ.length, rfl, hG.len, hG.one, h6, hrl, ?_⟩
            refine ⟨_, rfl, _, rfl, G, r.set i true, σ.length, rfl, hG.len, hG.one, h6, by rw [List.length_set]; exact hrl, ?_⟩
            refine ⟨rfl, _, rfl, ?_⟩
            rw [cS_ne]
            refine ite2 (fun c => ?_) (fun c => ?_)
            · refine ⟨_, rfl, LcR.add hR s5 d5 ?_ ?_⟩
              · rw [filter_take _ hr', if_pos c, List.map_append] <;> rfl
              · rw [List.length_map]
                have h1 := List.length_filter_le (fun r => at_ G r != at_ G (r.set i true)) ((fit (σ.set i (some false))).take j)
                rw [List.length_take] at h1
                exact small (by omega)
            · refine LcR.skip s5 d5 ?_
              rw [filter_take _ hr', if_neg c, List.append_nil]
          · intro H5 ⟨s5, d5⟩
            have hl5 := s5 _ _ hl4
            rw [List.length_map, pa.1] at d5
            dsimp only at d5
            rw [List.take_length] at d5
            refine ⟨D2, _, rfl, .inl (SqL.of d5), _, _, rfl, rfl, _, rfl, ?_⟩
            have iff : decide ((0 : Int) < ((((fit (σ.set i (some false))).filter fun r => at_ G r != at_ G (r.set i true)).map rV).length : Nat)) = hangB G σ i := by
              rw [List.length_map, Bool.eq_iff_iff, decide_eq_true_iff]
              constructor
              · intro z
                have z' : 0 < ((fit (σ.set i (some false))).filter fun r => at_ G r != at_ G (r.set i true)).length := by omega
                obtain ⟨r, hr'⟩ := List.exists_mem_of_length_pos z'
                obtain ⟨m1, m2⟩ := List.mem_filter.mp hr'
                exact List.any_eq_true.mpr ⟨r, m1, m2⟩
              · intro z
                obtain ⟨r, m1, m2⟩ := List.any_eq_true.mp z
                have := List.length_pos_of_mem (List.mem_filter (p := fun r => at_ G r != at_ G (r.set i true)).mpr ⟨m1, m2⟩)
                omega
            rw [iff]
            refine ite2 (fun c => ?_) (fun c => ?_)
            · refine ⟨_, rfl, .inl ⟨rfl, _, SqL.of hl5⟩, _, rfl, l, _, _, rfl, rfl, hl5, hz, ⟨_, _, rfl⟩, ?_, ?_⟩
              · exact sm_free (s1.trans (s3.trans (s4.trans s5))) nl
              · rw [upd_same, filter_succ, eh, if_pos c, List.map_append] <;> rfl
            · refine ⟨⟨_, _, rfl⟩, s1.trans (s3.trans (s4.trans s5)), ?_⟩
              rw [filter_succ, eh, if_neg c, List.append_nil]
              exact hl5
    · rintro σ' H1 ⟨⟨y3, y4, rfl⟩, s1, hl⟩
      exact ⟨_, rfl, q _ l s1 nl hl⟩
end
end K83
namespace K83
open PySem PySem.Spec PyProof.Rows L2
section
variable {P : Program} {w : World} {K : PySem.W.Frag} {mg : Str → Option Value} {base : Heap} {k : Nat} {f : Addr} {fd : FuncData}
/-! ### data -/
def nD (i : Nat) : PyData := .int (i : Int)
def pD (q : Nat × Nat) : PyData := .tuple [nD q.1, nD q.2]
theorem pD_lay (q : Nat × Nat) : (pD q).canLay0 = true := rfl
theorem pD_shaped (q : Nat × Nat) : SeqAt.shaped (pD q) = true := rfl
theorem pDs_lay : ∀ l : List (Nat × Nat), PyData.canLayAll0 (l.map pD) = true
  | [] => rfl
  | q :: l => by
    show ((pD q).canLay0 && PyData.canLayAll0 (l.map pD)) = true
    rw [pD_lay, pDs_lay l] <;> rfl
theorem pDs_depth : ∀ l : List (Nat × Nat), PyData.depthAll (l.map pD) ≤ 1
  | [] => Nat.zero_le _
  | q :: l => by
    show max (pD q).depth (PyData.depthAll (l.map pD)) ≤ 1
    exact Nat.max_le.mpr ⟨Nat.le_refl 1, pDs_depth l⟩
theorem pDs_shaped (l : List (Nat × Nat)) : SeqAt.shaped (.list (l.map pD)) = true := by
  unfold SeqAt.shaped
  have h1 : (PyData.list (l.map pD)).canLay0 = true := pDs_lay l
  have h2 : (PyData.list (l.map pD)).depth ≤ 64 := by
    have := pDs_depth l
    show PyData.depthAll (l.map pD) + 1 ≤ 64
    omega
  rw [h1, decide_eq_true h2] <;> rfl
abbrev tV (q : Nat × Nat) : HO := .tup [nV q.1, nV q.2]
theorem dp_pair {H : Hp} {t : Addr} {q : Nat × Nat} (h : H t = some (tV q)) : Dp K H (.ref t) (pD q) := .tup (SqT.of h) (.cons (.int _) (.cons (.int _) .nil))
/-- pairs of numbers at the addresses ts -/
def NumsAt (H : Hp) (ts : List Addr) (prs : List (Nat × Nat)) : Prop := Paired (fun t q => H t = some (tV q)) ts prs
theorem NumsAt.mono {H H' : Hp} {ts : List Addr} {prs : List (Nat × Nat)} (s : ∀ t q, H t = some (tV q) → H' t = some (tV q)) (n : NumsAt H ts prs) : NumsAt H' ts prs := Paired.mapP n s
theorem dp_all {H : Hp} : ∀ {ts : List Addr} {prs : List (Nat × Nat)}, NumsAt H ts prs → DpAll K H (ts.map V.ref) (prs.map pD)
  | _, _, .nil => .nil
  | _, _, .cons h t => .cons (dp_pair h) (dp_all t)
theorem NumsAt.get {H : Hp} : ∀ {ts : List Addr} {prs : List (Nat × Nat)} {j : Nat} {t : Addr}, NumsAt H ts prs → ts[j]? = some t → ∃ q, prs[j]? = some q ∧ H t = some (tV q)
  | _, _, _, _, .nil, h => by simp at h
  | _, _, 0, _, .cons h _, e => by
    cases (show some _ = some _ from e)
    exact ⟨_, rfl, h⟩
  | _, _, j + 1, _, .cons _ r, e => NumsAt.get (j := j) r e
theorem NumsAt.snoc {H : Hp} {t : Addr} {q : Nat × Nat} (h : H t = some (tV q)) : ∀ {ts : List Addr} {prs : List (Nat × Nat)}, NumsAt H ts prs → NumsAt H (ts ++ [t]) (prs ++ [q])
  | _, _, .nil => .cons h .nil
  | _, _, .cons g r => .cons g (NumsAt.snoc h r)
theorem eqv_nil (l : List PyData) : PyData.eqv (.list l) (.list []) = l.isEmpty := by cases l <;> rfl
/-! ### one step of the numbers of looks -/
theorem lk_step {g : Fn} {x : Asg} {L : List Nat} {prs : List (Nat × Nat)} {m M : Nat} (hL : ∀ i, i ∈ L ↔ Rel g i) (hlen : prs.length = L.length) (h : ∀ (j p : Nat) (q : Nat × Nat), L[j]? = some p → prs[j]? = some q → LK (fixP g p (x p)) x q.1 q.2)
    (hm : ∃ q ∈ prs, m = q.1) (hm' : ∀ q ∈ prs, m ≤ q.1) (hM : ∃ q ∈ prs, M = q.2) (hM' : ∀ q ∈ prs, q.2 ≤ M) : LK g x (1 + m) (1 + M) := by
  have at_ : ∀ q ∈ prs, ∃ p, Rel g p ∧ LK (fixP g p (x p)) x q.1 q.2 := fun q hq => by
    obtain ⟨j, hj, e⟩ := List.getElem_of_mem hq
    have hp : L[j]? = some L[j] := List.getElem?_eq_getElem (by omega)
    exact ⟨_, (hL _).mp (List.mem_of_getElem? hp), h j _ q hp (by rw [List.getElem?_eq_getElem hj, e])⟩
  have of : ∀ p, Rel g p → ∃ q ∈ prs, LK (fixP g p (x p)) x q.1 q.2 := fun p hp => by
    obtain ⟨j, hj, e⟩ := List.getElem_of_mem ((hL p).mpr hp)
    have hq : prs[j]? = some prs[j] := List.getElem?_eq_getElem (by omega)
    exact ⟨_, List.mem_of_getElem? hq, h j p _ (by rw [List.getElem?_eq_getElem hj, e]) hq⟩
  rw [Nat.add_comm 1 m, Nat.add_comm 1 M]
  obtain ⟨q1, hq1, rfl⟩ := hm
  obtain ⟨q2, hq2, rfl⟩ := hM
  obtain ⟨p1, r1, l1⟩ := at_ q1 hq1
  obtain ⟨p2, r2, l2⟩ := at_ q2 hq2
  refine ⟨.look p1 r1 l1.1, .look p2 r2 l2.2.1, fun j hj => ?_⟩
  cases hj with
  | done hn => exact absurd r1 (hn p1)
  | look p hp hk =>
    obtain ⟨q, hq, l⟩ := of p hp
    have h1 := l.2.2 _ hk
    have h2 := hm' q hq
    have h3 := hM' q hq
    omega
/-! ### what is known so far -/
def KnownOk (H : Hp) (g : Fn) (x : Asg) (n : Nat) (kvs : List (Key × V)) : Prop :=
  ∀ σ : List (Option Bool), σ.length = n → ∀ v, valV kvs (Sum.inr (sS σ)) = some v → ∃ (p : Addr) (q : Nat × Nat), v = .ref p ∧ H p = some (tV q) ∧ LK (sub g σ) x q.1 q.2
theorem KnownOk.mono {H H' : Hp} {g : Fn} {x : Asg} {n : Nat} {kvs : List (Key × V)} (s : ∀ t q, H t = some (tV q) → H' t = some (tV q)) (h : KnownOk H g x n kvs) : KnownOk H' g x n kvs := fun σ hσ v hv => by
  obtain ⟨p, q, e1, e2, e3⟩ := h σ hσ v hv
  exact ⟨p, q, e1, s _ _ e2, e3⟩
theorem KnownOk.put {H : Hp} {g : Fn} {x : Asg} {n : Nat} {kvs : List (Key × V)} {σ : List (Option Bool)} {p : Addr} {q : Nat × Nat} (h : KnownOk H g x n kvs) (hp : H p = some (tV q)) (hl : LK (sub g σ) x q.1 q.2) : KnownOk H g x n (putK kvs (Sum.inr (sS σ)) (.ref p)) := fun τ hτ v hv => by
  rw [valV_put] at hv
  by_cases e : (Sum.inr (sS τ) : Key) = Sum.inr (sS σ)
  · rw [if_pos e] at hv
    have e2 : τ = σ := sS_inj (Sum.inr.inj e)
    subst e2
    exact ⟨p, q, (Option.some.inj hv).symm, hp, hl⟩
  · rw [if_neg e] at hv
    exact h τ hτ v hv
theorem putK_len {kvs : List (Key × V)} {k : Key} {v : V} : (putK kvs k v).length ≤ kvs.length + 1 := by
  unfold putK
  split
  · rw [List.length_map]
    exact Nat.le_succ _
  · rw [List.length_append] <;> exact Nat.le_refl _
theorem putK_there {kvs : List (Key × V)} {k : Key} {u : V} (h : (kvs.any fun kv => decide (kv.1 = k)) = true) : (putK kvs k u).length = kvs.length := by
  unfold putK
  rw [if_pos h, List.length_map]
theorem putK_put {kvs : List (Key × V)} {k : Key} {v u : V} : (putK (putK kvs k v) k u).length ≤ kvs.length + 1 := by
  have h : ((putK kvs k v).any fun kv => decide (kv.1 = k)) = true := by
    unfold putK
    split
    · rename_i h
      obtain ⟨a, ha, hk⟩ := List.any_eq_true.mp h
      refine List.any_eq_true.mpr ⟨_, List.mem_map.mpr ⟨a, ha, rfl⟩, ?_⟩
      have hk := of_decide_eq_true hk
      rw [if_pos hk]
      exact decide_eq_true hk
    · exact List.any_eq_true.mpr ⟨(k, v), List.mem_append_right _ (List.mem_singleton.mpr rfl), decide_eq_true rfl⟩
  rw [putK_there h]
  exact putK_len
/-- how many standings may be new -/
def room : Nat → Nat
  | 0 => 1
  | m + 1 => 1 + 6 * room m
theorem room_mono : ∀ {a b : Nat}, a ≤ b → room a ≤ room b := fun {a b} h => by
  induction h with
  | refl => exact Nat.le_refl _
  | step _ ih =>
    show _ ≤ 1 + 6 * room _
    omega
theorem room6 : room 6 ≤ 100000 := by decide
/-- all that was tracked, but for the object at d, is as it was -/
def Sx (d : Addr) (H H' : Hp) : Prop := ∀ b o, b ≠ d → H b = some o → H' b = some o
theorem Sx.refl (d : Addr) (H : Hp) : Sx d H H := fun _ _ _ h => h
theorem Sx.trans {d : Addr} {H H1 H2 : Hp} (a : Sx d H H1) (b : Sx d H1 H2) : Sx d H H2 := fun c o n h => b c o n (a c o n h)
theorem Sx.of {d : Addr} {H H' : Hp} (s : Same H H') : Sx d H H' := fun b o _ h => s b o h
theorem Sx.upd {d : Addr} {H : Hp} {o : HO} : Sx d H (upd H d o) := fun b u n h => by rw [upd_ne n]; exact h
theorem Sx.tv {d : Addr} {H H' : Hp} {kvs : List (Key × V)} (s : Sx d H H') (hd : H d = some (.dK kvs)) {t : Addr} {q : Nat × Nat} (h : H t = some (tV q)) : H' t = some (tV q) := s t _ (fun e => by rw [e, hd] at h; cases h) h
theorem Sx.free {d : Addr} {H1 H : Hp} {p : Addr} {o : HO} (s : Sx d H1 H) (h : H1 p = none) : Sx d H1 (L2.upd H p o) := fun b x n e => by
  rw [upd_ne (ne_of_none e h)]
  exact s b x n e
def spFrom (m : Nat) : Sp := fun vs H Q _ => ∃ (d : Addr) (G r : List Bool) (σ : List (Option Bool)) (kvs : List (Key × V)), vs = [.ref d, .str (rS G), .str (rS r), .str (sS σ)] ∧ FactOk G σ.length ∧ r.length = σ.length ∧ opens σ < m ∧
  H d = some (.dK kvs) ∧ KnownOk H (fn G σ.length) (asgOf r) σ.length kvs ∧ kvs.length + room (opens σ) ≤ 1000000 ∧
  ∀ (H' : Hp) (kvs' : List (Key × V)) (p : Addr) (q : Nat × Nat), Sx d H H' → H' d = some (.dK kvs') → KnownOk H' (fn G σ.length) (asgOf r) σ.length kvs' → kvs'.length ≤ kvs.length + room (opens σ) → H' p = some (tV q) → LK (sub (fn G σ.length) σ) (asgOf r) q.1 q.2 → Q (.ref p) H'
theorem from_none {ps : List Str} (hps : ps.length = 4) : FnOk P w K mg base CX0 k f fd ps (spFrom 0) := by
  have no : ∀ vs H Q E, ¬ spFrom 0 vs H Q E := fun vs H Q E h => by
    obtain ⟨_, _, _, σ, _, _, _, _, h, _⟩ := h
    exact Nat.not_lt_zero _ h
  exact ⟨fun vs H Q E h => absurd h (no vs H Q E), fun A outer s H args us vs Q E _ _ _ _ h => absurd h (no vs H Q E)⟩
end
end K83
namespace K83
open PySem PySem.Spec PyProof.Rows L2
section
variable {P : Program} {w : World} {K : PySem.W.Frag} {mg : Str → Option Value} {base : Heap} {k : Nat} {f : Addr} {fd : FuncData}
/-! ### looks_from -/
theorem sc_kf : FnScope ["known", "fact", "row", "standing", "found", "place", "pair"] ["known", "fact", "row", "standing"] (defScope s_looks_from) := ⟨rfl, rfl, rfl, by decide +kernel, rfl, by decide +kernel, by decide +kernel⟩
abbrev nKF : List Str := ["known", "fact", "row", "standing", "found", "place", "pair"]
/-- the goal of a way of looking on, from the callee's promise -/
theorem rS_item {r : List Bool} {p : Nat} (h : p < r.length) : (rS r).cps[p]? = some (bc (r.getD p false)) := by
  rw [S_get, List.getElem?_map, List.getElem?_eq_getElem h, getD_eq h]
  rfl
theorem firsts (prs : List (Nat × Nat)) : (prs.map fun q => nV q.1) = (prs.map fun q => (q.1 : Int)).map V.int := by rw [List.map_map] <;> rfl
theorem seconds (prs : List (Nat × Nat)) : (prs.map fun q => nV q.2) = (prs.map fun q => (q.2 : Int)).map V.int := by rw [List.map_map] <;> rfl
theorem ok_looks_from (T : Top K mg) : ∀ (m : Nat) {f : Addr} {fd : FuncData}, Fun K "looks_from" "looks_from" s_looks_from f fd → FnOk P w K mg base CX0 (m + 3) f fd ["known", "fact", "row", "standing"] (spFrom m)
  | 0, f, fd, F => from_none rfl
  | m + 1, f, fd, F => by
    obtain ⟨f0, fd0, F0, g0, b0⟩ := T.d_looks_from
    have G0 := ok_looks_from T m F0
    obtain ⟨f1, fd1, F1, g1, b1⟩ := T.d_hanging_at
    have G1 := ok_hanging_at (P := P) (w := w) (base := base) (k := 0) T F1
    obtain ⟨f2, fd2, F2, g2, b2⟩ := T.d_with_sign
    have G2 := ok_with_sign (P := P) (w := w) (mg := mg) (base := base) (k := 0) F2
    refine F.ok sc_kf (fun vs H Q E h => ?_) (fun cdv A outer s H vs Q E hr h => ?_)
    · obtain ⟨_, _, _, _, _, rfl, _⟩ := h
      rfl
    · obtain ⟨d, G, r, σ, kvs, rfl, hG, hrl, hop, hd, hkn, hroom, q⟩ := h
      have h6 := hG.six
      have hu := hu_of hr
      refine ⟨_, pss_cons (ps_if (pt_cmp (pc_dnotin hu (pv 3) (pv 0)))
          (pss_cons (ps_set (i := 4) sc_kf.nd rfl (.inl rfl) (pe_lst pa_nil))
          (pss_cons (ps_for PassesOwn.never rfl (pi_tup (pe_call G1 (hr.mono (by omega)) (by rfl) g1 F1.kp b1 .nil pass0 (pa_cons (pv 1) (pa_cons (pv 3) pa_nil)))) (pg_name (i := 5) sc_kf.nd rfl (.inl rfl))
            (pss_one (ps_expr (pe_bm PySem.F.plainAttrs_list PySem.F.slot_list_append PySem.F.type_list_append mt_append (pv 4) (pa_cons
              (pe_call G0 hr (by rfl) g0 F0.kp b0 .nil pass0 (pa_cons (pv 0) (pa_cons (pv 1) (pa_cons (pv 2) (pa_cons
                (pe_call G2 (hr.mono (by omega)) (by rfl) g2 F2.kp b2 .nil pass0 (pa_cons (pv 3) (pa_cons (pv 5) (pa_cons (pe_item_str (pv 2) (pv 5) (fun _ _ => rfl)) pa_nil)))) pa_nil))))) pa_nil)))))
          (pss_cons (ps_dput hu (pv 0) (pv 3) (pe_tup (pa_cons pe_int (pa_cons pe_int pa_nil))) rfl)
          (pss_one (ps_if (pt_cmpR (op_neD hr.units) (pv 4) (pe_lst pa_nil) (nomark _))
            (pss_one (ps_dput hu (pv 0) (pv 3) (pe_tup (pa_cons
              (pe_op op_add pe_int (pe_callB (cr_min rfl) (by rfl) T.n_min (by decide +kernel) (pa_cons
                (pe_lc (own := [("pair", 6)]) (g := gName 6) (tt := tYes) (te := tOp (rIxT K) (tVar 6) (tC (.int 0))) rfl sc_kf.nd (pi_list (pv 4)) (blkOk_by (N := nKF) (sc := defScope s_looks_from) (by decide +kernel))
                  (fun _ _ _ _ _ => pg_name (i := 6) sc_kf.nd rfl (Or.inl rfl)) (fun _ _ _ _ _ => pts_nil) (fun _ _ _ _ _ => pe_ix ix_tup (pv 6) pe_int (fun _ _ => rfl))) pa_nil)))
              (pa_cons (pe_op op_add pe_int (pe_callB (cr_max rfl) (by rfl) T.n_max (by decide +kernel) (pa_cons
                (pe_lc (own := [("pair", 6)]) (g := gName 6) (tt := tYes) (te := tOp (rIxT K) (tVar 6) (tC (.int 1))) rfl sc_kf.nd (pi_list (pv 4)) (blkOk_by (N := nKF) (sc := defScope s_looks_from) (by decide +kernel))
                  (fun _ _ _ _ _ => pg_name (i := 6) sc_kf.nd rfl (Or.inl rfl)) (fun _ _ _ _ _ => pts_nil) (fun _ _ _ _ _ => pe_ix ix_tup (pv 6) pe_int (fun _ _ => rfl))) pa_nil))) pa_nil))) rfl)) pss_nil))))) pss_nil)
        (pss_one (ps_ret (pe_dget hu (pv 0) (pv 3) (fun _ _ => rfl)))), ?_⟩
      refine ⟨_, rfl, _, rfl, d, _, rfl, DGet.k (k := Sum.inr (sS σ)) hd, _, rfl, ?_⟩
      cases hv : valV kvs (Sum.inr (sS σ)) with
      | some v =>
        obtain ⟨p, c, rfl, hp, hl⟩ := hkn σ rfl v hv
        refine iteF ⟨_, rfl, _, rfl, d, .ref p, rfl, ?_, ?_⟩
        · have z := DGet.k (k := Sum.inr (sS σ)) hd
          rw [hv] at z
          exact z
        exact q H kvs p c (Sx.refl d H) hd hkn (Nat.le_add_right _ _) hp hl
      | none =>
        refine iteT ⟨Nat.zero_le _, fun l nl => ?_⟩
        have hdl : d ≠ l := ne_of_none hd nl
        refine ⟨_, rfl, _, rfl, G, σ, rfl, hG, fun H2 t s2 ht => ?_⟩
        have hl2 : H2 l = some (.lst []) := s2 _ _ upd_same
        have hd2 : H2 d = some (.dK kvs) := s2 _ _ (by rw [upd_ne hdl]; exact hd)
        have hk2 : KnownOk H2 (fn G σ.length) (asgOf r) σ.length kvs := hkn.mono fun a c e => s2 _ _ (same_upd nl _ _ e)
        refine ⟨t, rfl, ⟨_, SqT.of ht⟩, for_it walk_tup (fun i σ' H' => ∃ kvs' ts prs y5, σ' = [some (.ref d), some (.str (rS G)), some (.str (rS r)), some (.str (sS σ)), some (.ref l), y5, none] ∧ Sx d H H' ∧ H' t = some (.tup ((hang G σ).map nV)) ∧ H' l = some (.lst (ts.map V.ref)) ∧
          H' d = some (.dK kvs') ∧ KnownOk H' (fn G σ.length) (asgOf r) σ.length kvs' ∧ kvs'.length ≤ kvs.length + i * room (opens σ - 1) ∧ NumsAt H' ts prs ∧ prs.length = i ∧
          ∀ (j p : Nat) (c : Nat × Nat), (hang G σ)[j]? = some p → prs[j]? = some c → LK (fixP (sub (fn G σ.length) σ) p (asgOf r p)) (asgOf r) c.1 c.2)
          ⟨kvs, [], [], _, rfl, Sx.of ((same_upd nl).trans s2), ht, hl2, hd2, hk2, by omega, .nil, rfl, fun j p c _ h => by simp at h⟩ (fun i σ' H' _ q => let ⟨_, _, _, _, _, _, h, _⟩ := q; SqT.of h) ?_ ?_⟩
        · rintro i x σ' H3 H4 hi ⟨kvs3, ts, prs, y5, rfl, s3, ht3, hl3, hd3, hk3, hlen3, hn3, hp3, hlk3⟩ ⟨rfl, hx⟩
          rw [List.getElem?_map] at hx
          obtain ⟨p, hp, rfl⟩ := Option.map_eq_some_iff.mp hx
          obtain ⟨hpl, hσp⟩ := hang_lt (List.mem_of_getElem? hp)
          have hs : (σ.set p (some (r.getD p false))).length = σ.length := List.length_set
          have ho := opens_set (b := r.getD p false) hσp
          have hT := hang_len G σ
          have hi' : i < (hang G σ).length := by simpa using hi
          have ltl : t ≠ l := ne_of ht3 hl3 (by intro z; cases z)
          have hmul : (i + 1) * room (opens σ - 1) ≤ 6 * room (opens σ - 1) := Nat.mul_le_mul_right _ (by omega)
          have hadd : (i + 1) * room (opens σ - 1) = i * room (opens σ - 1) + room (opens σ - 1) := Nat.succ_mul _ _
          have hrm : room (opens σ) = 1 + 6 * room (opens σ - 1) := by
            have : opens σ = (opens σ - 1) + 1 := by omega
            rw [this]
            rfl
          have ho' : opens (σ.set p (some (r.getD p false))) = opens σ - 1 := by omega
          refine ⟨_, rfl, .inl ⟨rfl, _, SqL.of hl3⟩, ?_⟩
          refine ⟨_, rfl, _, rfl, _, rfl, _, rfl, _, rfl, _, rfl, _, rfl, _, _, bc (r.getD p false), rfl, rfl, by omega, by omega, ?_, ?_, ?_⟩
          · rw [rS_len]
            omega
          · rw [Int.toNat_natCast]
            exact rS_item (by omega)
          refine ⟨σ.map mc, p, bc (r.getD p false), rfl, ?_, ?_, ?_⟩
          · rw [List.length_map]
            omega
          · rw [List.length_map]
            exact hpl
          rw [set_mc]
          refine ⟨d, G, r, σ.set p (some (r.getD p false)), kvs3, rfl, by rw [hs]; exact hG, by rw [hs]; exact hrl, by omega, hd3, by rw [hs]; exact hk3, by rw [ho']; omega, fun H5 kvs5 p5 c5 s5 hd5 hk5 hlen5 hp5 hlk5 => ?_⟩
          rw [hs] at hk5 hlk5
          rw [ho'] at hlen5
          have hl5 : H5 l = some (.lst (ts.map V.ref)) := s5 _ _ hdl.symm hl3
          have htl : ts.length = i := by rw [Paired.length hn3]; exact hp3
          have tv : ∀ a c, H5 a = some (tV c) → (upd H5 l (.lst (ts.map V.ref ++ [.ref p5]))) a = some (tV c) := fun a c e => by
            rw [upd_ne (ne_of e hl5 (by intro z; cases z))]
            exact e
          refine ⟨l, _, _, rfl, rfl, hl5, ?_, ?_⟩
          · rw [List.length_map, htl]
            exact small (by omega)
          refine ⟨kvs5, ts ++ [p5], prs ++ [c5], _, rfl, Sx.free (s3.trans s5) nl, ?_, ?_, ?_, hk5.mono tv, by omega, ?_, ?_, ?_⟩
          · rw [upd_ne ltl]
            exact s5 _ _ (ne_of ht3 hd3 (by intro z; cases z)) ht3
          · rw [upd_same, List.map_append] <;> rfl
          · rw [upd_ne hdl]
            exact hd5
          · exact NumsAt.snoc (tv _ _ hp5) (hn3.mono fun a c e => tv _ _ (s5.tv hd3 e))
          · rw [List.length_append, hp3] <;> rfl
          · intro j p' c hj hc
            by_cases hlt : j < i
            · rw [List.getElem?_append_left (by omega)] at hc
              exact hlk3 j p' c hj hc
            · have ej : j = i := by
                have := (List.getElem?_eq_some_iff.mp hc).1
                rw [List.length_append, List.length_singleton] at this
                omega
              subst ej
              rw [List.getElem?_append_right (by omega), hp3, Nat.sub_self] at hc
              have ec : c5 = c := Option.some.inj hc
              subst ec
              rw [hp] at hj
              have ep : p = p' := Option.some.inj hj
              subst ep
              rw [sub_set hσp] at hlk5
              exact hlk5
        · rintro σ' H3 ⟨kvs3, ts, prs, y5, rfl, s3, ht3, hl3, hd3, hk3, hlen3, hn3, hp3, hlk3⟩
          rw [List.length_map] at hlen3 hp3
          have hT := hang_len G σ
          have hmul : (hang G σ).length * room (opens σ - 1) + 1 ≤ room (opens σ) := by
            by_cases e : (hang G σ).length = 0
            · rw [e, Nat.zero_mul]
              exact room_mono (Nat.zero_le _)
            · have hpos : 0 < opens σ := by
                obtain ⟨p, hp⟩ := List.exists_mem_of_length_pos (show 0 < (hang G σ).length by omega)
                have := opens_set (b := false) (hang_lt hp).2
                omega
              have hrm : room (opens σ) = 1 + 6 * room (opens σ - 1) := by
                have : opens σ = (opens σ - 1) + 1 := by omega
                rw [this]
                rfl
              have := Nat.mul_le_mul_right (room (opens σ - 1)) (show (hang G σ).length ≤ 6 by omega)
              omega
          have hsz : kvs3.length < sizeLine := Nat.lt_of_le_of_lt (show kvs3.length ≤ 1000000 by omega) (by decide)
          -- known[standing] = (0, 0)
          refine ⟨(by show 2 ≤ sizeLine; decide), fun t0 nt0 => ?_⟩
          have hd0 : (upd H3 t0 (tV (0, 0))) d = some (.dK kvs3) := by rw [upd_ne (ne_of_none hd3 nt0)]; exact hd3
          refine ⟨_, rfl, _, rfl, d, _, rfl, DPut.k (k := Sum.inr (sS σ)) hd0 hsz, ?_⟩
          have h0d : t0 ≠ d := (ne_of_none hd3 nt0).symm
          have keep4 : ∀ a o, a ≠ d → H3 a = some o → (upd (upd H3 t0 (tV (0, 0))) d (.dK (putK kvs3 (Sum.inr (sS σ)) (.ref t0)))) a = some o := fun a o n e => by
            rw [upd_ne n, upd_ne (ne_of_none e nt0)]
            exact e
          generalize e4 : upd (upd H3 t0 (tV (0, 0))) d (.dK (putK kvs3 (Sum.inr (sS σ)) (.ref t0))) = H4 at keep4
          have ht0 : H4 t0 = some (tV (0, 0)) := by rw [← e4, upd_ne h0d, upd_same]
          have hd4 : H4 d = some (.dK (putK kvs3 (Sum.inr (sS σ)) (.ref t0))) := by rw [← e4, upd_same]
          have tv4 : ∀ a c, H3 a = some (tV c) → H4 a = some (tV c) := fun a c e => keep4 a _ (fun z => by rw [z, hd3] at e; cases e) e
          have hl4 : H4 l = some (.lst (ts.map V.ref)) := keep4 _ _ hdl.symm hl3
          have s4 : Sx d H H4 := fun a o n e => keep4 a o n (s3 a o n e)
          -- if found != []
          refine ⟨_, rfl, Nat.zero_le _, fun e ne => ?_⟩
          have s5 : Same H4 (upd H4 e (.lst [])) := same_upd ne
          have n5 : NumsAt (upd H4 e (.lst [])) ts prs := hn3.mono fun a c h => s5 _ _ (tv4 a c h)
          refine ⟨_, _, .lst (SqL.of (s5 _ _ hl4)) (dp_all n5), .lst (SqL.of upd_same) .nil, pDs_shaped prs, rfl, _, rfl, ?_⟩
          rw [eqv_nil]
          generalize upd H4 e (.lst []) = H5 at s5 n5
          have hd5 := s5 _ _ hd4
          have hl5 := s5 _ _ hl4
          have s05 : Sx d H H5 := s4.trans (Sx.of s5)
          have hk5 : KnownOk H5 (fn G σ.length) (asgOf r) σ.length kvs3 := hk3.mono fun a c h => s5 _ _ (tv4 a c h)
          cases hpe : prs with
          | nil =>
            subst hpe
            refine iteF ⟨_, rfl, _, rfl, d, .ref t0, rfl, ?_, ?_⟩
            · have z := DGet.k (k := Sum.inr (sS σ)) hd5
              rw [valV_put, if_pos rfl] at z
              exact z
            have no : ∀ i, ¬ Rel (sub (fn G σ.length) σ) i := fun i hi => by
              have := List.length_pos_of_mem (mem_hang.mpr hi)
              rw [List.length_nil] at hp3
              omega
            have lk0 : LK (sub (fn G σ.length) σ) (asgOf r) (0, 0).1 (0, 0).2 := LK.none no
            refine q H5 _ t0 (0, 0) s05 hd5 (hk5.put (s5 _ _ ht0) lk0) ?_ (s5 _ _ ht0) lk0
            have := putK_len (kvs := kvs3) (k := Sum.inr (sS σ)) (v := .ref t0)
            omega
          | cons c0 prs0 =>
            have hne : prs ≠ [] := by rw [hpe]; exact List.cons_ne_nil _ _
            have hlen : 0 < prs.length := List.length_pos_iff.mpr hne
            rw [← hpe]
            have hem : (!(prs.map pD).isEmpty) = true := by rw [hpe]; rfl
            rw [hem]
            refine iteT ?_
            have h6p : prs.length ≤ 6 := by omega
            have htp : (ts.map V.ref).length = prs.length := by rw [List.length_map]; exact Paired.length n5
            -- min
            refine ⟨_, rfl, l, rfl, ⟨_, SqL.of hl5⟩, fun D1 nD1 => ?_⟩
            have hR1 : ∀ H' o, Same H5 H' → Same H5 (upd H' D1 o) := fun H' o s => sm_free s nD1
            refine lc_it walk_list (LcR (Same H5) D1 (fun j => (prs.take j).map fun c => nV c.1)) (LcR.start hR1 (Same.refl H5) rfl) (fun j H' _ q => q.1.seq (SqL.of hl5)) ?_ ?_
            · intro j x H6 H7 hj ⟨s6, d6⟩ ⟨e, hx⟩
              subst e
              rw [List.getElem?_map] at hx
              obtain ⟨a, ha, rfl⟩ := Option.map_eq_some_iff.mp hx
              obtain ⟨c, hc, hta⟩ := n5.get ha
              refine ⟨rfl, _, rfl, a, _, 0, nV c.1, rfl, rfl, SqT.of (s6 _ _ hta), rfl, LcR.add hR1 s6 d6 ?_ ?_⟩
              · rw [List.take_add_one, hc, List.map_append] <;> rfl
              · rw [List.length_map, List.length_take]
                exact small (by omega)
            intro H6 ⟨s6, d6⟩
            rw [htp] at d6
            dsimp only at d6
            rw [List.take_length, firsts] at d6
            refine ⟨D1, _, rfl, SqL.of d6, by rw [List.length_map]; exact hlen, fun mi hmi hle => ?_⟩
            refine ⟨1, mi, rfl, rfl, ?_⟩
            -- max
            have hl6 := s6 _ _ hl5
            refine ⟨_, rfl, l, rfl, ⟨_, SqL.of hl6⟩, fun D2 nD2 => ?_⟩
            have hR2 : ∀ H' o, Same H6 H' → Same H6 (upd H' D2 o) := fun H' o s => sm_free s nD2
            refine lc_it walk_list (LcR (Same H6) D2 (fun j => (prs.take j).map fun c => nV c.2)) (LcR.start hR2 (Same.refl H6) rfl) (fun j H' _ q => q.1.seq (SqL.of hl6)) ?_ ?_
            · intro j x H7 H8 hj ⟨s7, d7⟩ ⟨e, hx⟩
              subst e
              rw [List.getElem?_map] at hx
              obtain ⟨a, ha, rfl⟩ := Option.map_eq_some_iff.mp hx
              obtain ⟨c, hc, hta⟩ := n5.get ha
              refine ⟨rfl, _, rfl, a, _, 1, nV c.2, rfl, rfl, SqT.of (s7 _ _ (s6 _ _ hta)), rfl, LcR.add hR2 s7 d7 ?_ ?_⟩
              · rw [List.take_add_one, hc, List.map_append] <;> rfl
              · rw [List.length_map, List.length_take]
                exact small (by omega)
            intro H7 ⟨s7, d7⟩
            rw [htp] at d7
            dsimp only at d7
            rw [List.take_length, seconds] at d7
            refine ⟨D2, _, rfl, SqL.of d7, by rw [List.length_map]; exact hlen, fun ma hma hge => ?_⟩
            refine ⟨1, ma, rfl, rfl, ?_⟩
            obtain ⟨c1, hc1, rfl⟩ := List.mem_map.mp hmi
            obtain ⟨c2, hc2, rfl⟩ := List.mem_map.mp hma
            have lk1 : LK (sub (fn G σ.length) σ) (asgOf r) (1 + c1.1) (1 + c2.2) := lk_step (fun i => mem_hang) hp3 hlk3 ⟨c1, hc1, rfl⟩
              (fun c hc => by have := hle _ (List.mem_map.mpr ⟨c, hc, rfl⟩); omega) ⟨c2, hc2, rfl⟩ (fun c hc => by have := hge _ (List.mem_map.mpr ⟨c, hc, rfl⟩); omega)
            have hd7 := s7 _ _ (s6 _ _ hd5)
            refine ⟨(by show 2 ≤ sizeLine; decide), fun t1 nt1 => ?_⟩
            have s8 : Same H7 (upd H7 t1 (tV (1 + c1.1, 1 + c2.2))) := same_upd nt1
            have hsz2 : (putK kvs3 (Sum.inr (sS σ)) (.ref t0)).length < sizeLine := by
              have := putK_len (kvs := kvs3) (k := Sum.inr (sS σ)) (v := .ref t0)
              exact Nat.lt_of_le_of_lt (show _ ≤ 1000001 by omega) (by decide)
            refine ⟨_, rfl, _, rfl, d, _, rfl, DPut.k (k := Sum.inr (sS σ)) (s8 _ _ hd7) hsz2, ?_⟩
            have s58 : Same H5 (upd H7 t1 (tV (1 + c1.1, 1 + c2.2))) := s6.trans (s7.trans s8)
            have ht1 : (upd H7 t1 (tV (1 + c1.1, 1 + c2.2))) t1 = some (tV (1 + c1.1, 1 + c2.2)) := upd_same
            have hd8 := s8 _ _ hd7
            have tv9 : ∀ a c, (upd H7 t1 (tV (1 + c1.1, 1 + c2.2))) a = some (tV c) → (upd (upd H7 t1 (tV (1 + c1.1, 1 + c2.2))) d (.dK (putK (putK kvs3 (Sum.inr (sS σ)) (.ref t0)) (Sum.inr (sS σ)) (.ref t1)))) a = some (tV c) := fun a c h => by
              rw [upd_ne (ne_of h hd8 (by intro z; cases z))]
              exact h
            refine ⟨_, rfl, _, rfl, d, .ref t1, rfl, ?_, ?_⟩
            · have z := DGet.k (k := Sum.inr (sS σ)) (show (upd (upd H7 t1 (tV (1 + c1.1, 1 + c2.2))) d (.dK (putK (putK kvs3 (Sum.inr (sS σ)) (.ref t0)) (Sum.inr (sS σ)) (.ref t1)))) d = _ from upd_same)
              rw [valV_put, if_pos rfl] at z
              exact z
            refine q _ _ t1 (1 + c1.1, 1 + c2.2) ((s05.trans (Sx.of s58)).trans Sx.upd) upd_same ?_ ?_ (tv9 _ _ ht1) lk1
            · refine fun τ hτ v hw => ?_
              rw [valV_put] at hw
              by_cases ez : (Sum.inr (sS τ) : Key) = Sum.inr (sS σ)
              · rw [if_pos ez] at hw
                have e2 : τ = σ := sS_inj (Sum.inr.inj ez)
                subst e2
                exact ⟨t1, (1 + c1.1, 1 + c2.2), (Option.some.inj hw).symm, tv9 _ _ ht1, lk1⟩
              · rw [if_neg ez, valV_put, if_neg ez] at hw
                obtain ⟨a, c, z1, z2, z3⟩ := hk5 τ hτ v hw
                exact ⟨a, c, z1, tv9 _ _ (s58 _ _ z2), z3⟩
            · have := putK_put (kvs := kvs3) (k := Sum.inr (sS σ)) (v := .ref t0) (u := .ref t1)
              omega
end
end K83
namespace K83
open PySem PySem.Spec PyProof.Rows L2
section
variable {P : Program} {w : World} {K : PySem.W.Frag} {mg : Str → Option Value} {base : Heap} {k : Nat} {f : Addr} {fd : FuncData}
/-! ### _law_looks -/
theorem sc_ll : FnScope ["_law_known", "_law_fact_here", "_law_row", "_law_standing", "_law_pairs", "_law_place", "_law_least", "_law_most"] ["_law_known", "_law_fact_here", "_law_row", "_law_standing"] (defScope s_law_looks) := ⟨rfl, rfl, rfl, by decide +kernel, rfl, by decide +kernel, by decide +kernel⟩
abbrev nLL : List Str := ["_law_known", "_law_fact_here", "_law_row", "_law_standing", "_law_pairs", "_law_place", "_law_least", "_law_most"]
theorem ok_law_looks (T : Top K mg) : ∀ (m : Nat) {f : Addr} {fd : FuncData}, Fun K "_law_looks" "_law_looks" s_law_looks f fd → FnOk P w K mg base CX0 (m + 3) f fd ["_law_known", "_law_fact_here", "_law_row", "_law_standing"] (spFrom m)
  | 0, f, fd, F => from_none rfl
  | m + 1, f, fd, F => by
    obtain ⟨f0, fd0, F0, g0, b0⟩ := T.d_law_looks
    have G0 := ok_law_looks T m F0
    obtain ⟨f1, fd1, F1, g1, b1⟩ := T.d_law_hanging
    have G1 := ok_law_hanging (P := P) (w := w) (base := base) (k := 0) T F1
    obtain ⟨f2, fd2, F2, g2, b2⟩ := T.d_law_put
    have G2 := ok_law_put (P := P) (w := w) (mg := mg) (base := base) (k := 0) F2
    refine F.ok sc_ll (fun vs H Q E h => ?_) (fun cdv A outer s H vs Q E hr h => ?_)
    · obtain ⟨_, _, _, _, _, rfl, _⟩ := h
      rfl
    · obtain ⟨d, G, r, σ, kvs, rfl, hG, hrl, hop, hd, hkn, hroom, q⟩ := h
      have h6 := hG.six
      have hu := hu_of hr
      refine ⟨_, pss_cons (ps_if (pt_cmp (pc_dnotin hu (pv 3) (pv 0)))
          (pss_cons (ps_set (i := 4) sc_ll.nd rfl (.inl rfl) (pe_lst pa_nil))
          (pss_cons (ps_for PassesOwn.never rfl (pi_list (pe_call G1 (hr.mono (by omega)) (by rfl) g1 F1.kp b1 .nil pass0 (pa_cons (pv 1) (pa_cons (pv 3) pa_nil)))) (pg_name (i := 5) sc_ll.nd rfl (.inl rfl))
            (pss_one (ps_expr (pe_bm PySem.F.plainAttrs_list PySem.F.slot_list_append PySem.F.type_list_append mt_append (pv 4) (pa_cons
              (pe_call G0 hr (by rfl) g0 F0.kp b0 .nil pass0 (pa_cons (pv 0) (pa_cons (pv 1) (pa_cons (pv 2) (pa_cons
                (pe_call G2 (hr.mono (by omega)) (by rfl) g2 F2.kp b2 .nil pass0 (pa_cons (pv 3) (pa_cons (pv 5) (pa_cons (pe_item_str (pv 2) (pv 5) (fun _ _ => rfl)) pa_nil)))) pa_nil))))) pa_nil)))))
          (pss_cons (ps_dput hu (pv 0) (pv 3) (pe_tup (pa_cons pe_int (pa_cons pe_int pa_nil))) rfl)
          (pss_one (ps_if (pt_cmpR op_gt (pe_callB call_len_seq (by rfl) T.n_len PySem.boot_len (pa_cons (pv 4) pa_nil)) pe_int (nomark _))
            (pss_one (ps_dput hu (pv 0) (pv 3) (pe_tup (pa_cons
              (pe_op op_add pe_int (pe_callB (cr_min rfl) (by rfl) T.n_min (by decide +kernel) (pa_cons
                (pe_lc (own := [("_law_least", 6), ("_law_most", 7)]) (g := gTup K 2 (gCons (gName 6) (gCons (gName 7) gNil))) (tt := tYes) (te := tVar 6) rfl sc_ll.nd (pi_list (pv 4)) (blkOk_by (N := nLL) (sc := defScope s_law_looks) (by decide +kernel))
                  (fun _ _ _ _ _ => pg_tup rfl (pgs_cons (pg_name (i := 6) sc_ll.nd rfl (.inl rfl)) (pgs_cons (pg_name (i := 7) sc_ll.nd rfl (.inl rfl)) pgs_nil))) (fun _ _ _ _ _ => pts_nil) (fun _ _ _ _ _ => pv 6)) pa_nil)))
              (pa_cons (pe_op op_add pe_int (pe_callB (cr_max rfl) (by rfl) T.n_max (by decide +kernel) (pa_cons
                (pe_lc (own := [("_law_least", 6), ("_law_most", 7)]) (g := gTup K 2 (gCons (gName 6) (gCons (gName 7) gNil))) (tt := tYes) (te := tVar 7) rfl sc_ll.nd (pi_list (pv 4)) (blkOk_by (N := nLL) (sc := defScope s_law_looks) (by decide +kernel))
                  (fun _ _ _ _ _ => pg_tup rfl (pgs_cons (pg_name (i := 6) sc_ll.nd rfl (.inl rfl)) (pgs_cons (pg_name (i := 7) sc_ll.nd rfl (.inl rfl)) pgs_nil))) (fun _ _ _ _ _ => pts_nil) (fun _ _ _ _ _ => pv 7)) pa_nil))) pa_nil))) rfl)) pss_nil))))) pss_nil)
        (pss_one (ps_ret (pe_dget hu (pv 0) (pv 3) (fun _ _ => rfl)))), ?_⟩
      refine ⟨_, rfl, _, rfl, d, _, rfl, DGet.k (k := Sum.inr (sS σ)) hd, _, rfl, ?_⟩
      cases hv : valV kvs (Sum.inr (sS σ)) with
      | some v =>
        obtain ⟨p, c, rfl, hp, hl⟩ := hkn σ rfl v hv
        refine iteF ⟨_, rfl, _, rfl, d, .ref p, rfl, ?_, ?_⟩
        · have z := DGet.k (k := Sum.inr (sS σ)) hd
          rw [hv] at z
          exact z
        exact q H kvs p c (Sx.refl d H) hd hkn (Nat.le_add_right _ _) hp hl
      | none =>
        refine iteT ⟨Nat.zero_le _, fun l nl => ?_⟩
        have hdl : d ≠ l := ne_of_none hd nl
        refine ⟨_, rfl, _, rfl, G, σ, rfl, hG, fun H2 t s2 nt ht => ?_⟩
        have lt0 : l ≠ t := ne_of_none (show (upd H l (.lst [])) l = some (.lst []) from upd_same) nt
        have hl2 : H2 l = some (.lst []) := s2 _ _ upd_same
        have hd2 : H2 d = some (.dK kvs) := s2 _ _ (by rw [upd_ne hdl]; exact hd)
        have hk2 : KnownOk H2 (fn G σ.length) (asgOf r) σ.length kvs := hkn.mono fun a c e => s2 _ _ (same_upd nl _ _ e)
        refine ⟨t, rfl, ⟨_, SqL.of ht⟩, for_it walk_list (fun i σ' H' => ∃ kvs' ts prs y5, σ' = [some (.ref d), some (.str (rS G)), some (.str (rS r)), some (.str (sS σ)), some (.ref l), y5, none, none] ∧ Sx d H H' ∧ H' t = some (.lst ((hang G σ).map nV)) ∧ H' l = some (.lst (ts.map V.ref)) ∧
          H' d = some (.dK kvs') ∧ KnownOk H' (fn G σ.length) (asgOf r) σ.length kvs' ∧ kvs'.length ≤ kvs.length + i * room (opens σ - 1) ∧ NumsAt H' ts prs ∧ prs.length = i ∧
          ∀ (j p : Nat) (c : Nat × Nat), (hang G σ)[j]? = some p → prs[j]? = some c → LK (fixP (sub (fn G σ.length) σ) p (asgOf r p)) (asgOf r) c.1 c.2)
          ⟨kvs, [], [], _, rfl, Sx.of ((same_upd nl).trans s2), ht, hl2, hd2, hk2, by omega, .nil, rfl, fun j p c _ h => by simp at h⟩ (fun i σ' H' _ q => let ⟨_, _, _, _, _, _, h, _⟩ := q; SqL.of h) ?_ ?_⟩
        · rintro i x σ' H3 H4 hi ⟨kvs3, ts, prs, y5, rfl, s3, ht3, hl3, hd3, hk3, hlen3, hn3, hp3, hlk3⟩ ⟨rfl, hx⟩
          rw [List.getElem?_map] at hx
          obtain ⟨p, hp, rfl⟩ := Option.map_eq_some_iff.mp hx
          obtain ⟨hpl, hσp⟩ := hang_lt (List.mem_of_getElem? hp)
          have hs : (σ.set p (some (r.getD p false))).length = σ.length := List.length_set
          have ho := opens_set (b := r.getD p false) hσp
          have hT := hang_len G σ
          have hi' : i < (hang G σ).length := by simpa using hi
          have ltl : t ≠ l := lt0.symm
          have hmul : (i + 1) * room (opens σ - 1) ≤ 6 * room (opens σ - 1) := Nat.mul_le_mul_right _ (by omega)
          have hadd : (i + 1) * room (opens σ - 1) = i * room (opens σ - 1) + room (opens σ - 1) := Nat.succ_mul _ _
          have hrm : room (opens σ) = 1 + 6 * room (opens σ - 1) := by
            have : opens σ = (opens σ - 1) + 1 := by omega
            rw [this]
            rfl
          have ho' : opens (σ.set p (some (r.getD p false))) = opens σ - 1 := by omega
          refine ⟨_, rfl, .inl ⟨rfl, _, SqL.of hl3⟩, ?_⟩
          refine ⟨_, rfl, _, rfl, _, rfl, _, rfl, _, rfl, _, rfl, _, rfl, _, _, bc (r.getD p false), rfl, rfl, by omega, by omega, ?_, ?_, ?_⟩
          · rw [rS_len]
            omega
          · rw [Int.toNat_natCast]
            exact rS_item (by omega)
          refine ⟨σ.map mc, p, bc (r.getD p false), rfl, ?_, ?_, ?_⟩
          · rw [List.length_map]
            omega
          · rw [List.length_map]
            exact hpl
          rw [set_mc]
          refine ⟨d, G, r, σ.set p (some (r.getD p false)), kvs3, rfl, by rw [hs]; exact hG, by rw [hs]; exact hrl, by omega, hd3, by rw [hs]; exact hk3, by rw [ho']; omega, fun H5 kvs5 p5 c5 s5 hd5 hk5 hlen5 hp5 hlk5 => ?_⟩
          rw [hs] at hk5 hlk5
          rw [ho'] at hlen5
          have hl5 : H5 l = some (.lst (ts.map V.ref)) := s5 _ _ hdl.symm hl3
          have htl : ts.length = i := by rw [Paired.length hn3]; exact hp3
          have tv : ∀ a c, H5 a = some (tV c) → (upd H5 l (.lst (ts.map V.ref ++ [.ref p5]))) a = some (tV c) := fun a c e => by
            rw [upd_ne (ne_of e hl5 (by intro z; cases z))]
            exact e
          refine ⟨l, _, _, rfl, rfl, hl5, ?_, ?_⟩
          · rw [List.length_map, htl]
            exact small (by omega)
          refine ⟨kvs5, ts ++ [p5], prs ++ [c5], _, rfl, Sx.free (s3.trans s5) nl, ?_, ?_, ?_, hk5.mono tv, by omega, ?_, ?_, ?_⟩
          · rw [upd_ne ltl]
            exact s5 _ _ (ne_of ht3 hd3 (by intro z; cases z)) ht3
          · rw [upd_same, List.map_append] <;> rfl
          · rw [upd_ne hdl]
            exact hd5
          · exact NumsAt.snoc (tv _ _ hp5) (hn3.mono fun a c e => tv _ _ (s5.tv hd3 e))
          · rw [List.length_append, hp3] <;> rfl
          · intro j p' c hj hc
            by_cases hlt : j < i
            · rw [List.getElem?_append_left (by omega)] at hc
              exact hlk3 j p' c hj hc
            · have ej : j = i := by
                have := (List.getElem?_eq_some_iff.mp hc).1
                rw [List.length_append, List.length_singleton] at this
                omega
              subst ej
              rw [List.getElem?_append_right (by omega), hp3, Nat.sub_self] at hc
              have ec : c5 = c := Option.some.inj hc
              subst ec
              rw [hp] at hj
              have ep : p = p' := Option.some.inj hj
              subst ep
              rw [sub_set hσp] at hlk5
              exact hlk5
        · rintro σ' H3 ⟨kvs3, ts, prs, y5, rfl, s3, ht3, hl3, hd3, hk3, hlen3, hn3, hp3, hlk3⟩
          rw [List.length_map] at hlen3 hp3
          have hT := hang_len G σ
          have hmul : (hang G σ).length * room (opens σ - 1) + 1 ≤ room (opens σ) := by
            by_cases e : (hang G σ).length = 0
            · rw [e, Nat.zero_mul]
              exact room_mono (Nat.zero_le _)
            · have hpos : 0 < opens σ := by
                obtain ⟨p, hp⟩ := List.exists_mem_of_length_pos (show 0 < (hang G σ).length by omega)
                have := opens_set (b := false) (hang_lt hp).2
                omega
              have hrm : room (opens σ) = 1 + 6 * room (opens σ - 1) := by
                have : opens σ = (opens σ - 1) + 1 := by omega
                rw [this]
                rfl
              have := Nat.mul_le_mul_right (room (opens σ - 1)) (show (hang G σ).length ≤ 6 by omega)
              omega
          have hsz : kvs3.length < sizeLine := Nat.lt_of_le_of_lt (show kvs3.length ≤ 1000000 by omega) (by decide)
          -- known[standing] = (0, 0)
          refine ⟨(by show 2 ≤ sizeLine; decide), fun t0 nt0 => ?_⟩
          have hd0 : (upd H3 t0 (tV (0, 0))) d = some (.dK kvs3) := by rw [upd_ne (ne_of_none hd3 nt0)]; exact hd3
          refine ⟨_, rfl, _, rfl, d, _, rfl, DPut.k (k := Sum.inr (sS σ)) hd0 hsz, ?_⟩
          have h0d : t0 ≠ d := (ne_of_none hd3 nt0).symm
          have keep4 : ∀ a o, a ≠ d → H3 a = some o → (upd (upd H3 t0 (tV (0, 0))) d (.dK (putK kvs3 (Sum.inr (sS σ)) (.ref t0)))) a = some o := fun a o n e => by
            rw [upd_ne n, upd_ne (ne_of_none e nt0)]
            exact e
          generalize e4 : upd (upd H3 t0 (tV (0, 0))) d (.dK (putK kvs3 (Sum.inr (sS σ)) (.ref t0))) = H4 at keep4
          have ht0 : H4 t0 = some (tV (0, 0)) := by rw [← e4, upd_ne h0d, upd_same]
          have hd4 : H4 d = some (.dK (putK kvs3 (Sum.inr (sS σ)) (.ref t0))) := by rw [← e4, upd_same]
          have tv4 : ∀ a c, H3 a = some (tV c) → H4 a = some (tV c) := fun a c e => keep4 a _ (fun z => by rw [z, hd3] at e; cases e) e
          have hl4 : H4 l = some (.lst (ts.map V.ref)) := keep4 _ _ hdl.symm hl3
          have s4 : Sx d H H4 := fun a o n e => keep4 a o n (s3 a o n e)
          -- if len(pairs) > 0
          have n5 : NumsAt H4 ts prs := hn3.mono fun a c h => tv4 a c h
          have hk5 : KnownOk H4 (fn G σ.length) (asgOf r) σ.length kvs3 := hk3.mono fun a c h => tv4 a c h
          refine ⟨_, rfl, l, _, rfl, .inl (SqL.of hl4), _, _, rfl, rfl, _, rfl, ?_⟩
          have htp0 : (ts.map V.ref).length = prs.length := by rw [List.length_map]; exact Paired.length n5
          rw [htp0]
          have s5 : Same H4 H4 := Same.refl H4
          have hd5 := hd4
          have hl5 := hl4
          have s05 := s4
          cases hpe : prs with
          | nil =>
            subst hpe
            refine iteF ⟨_, rfl, _, rfl, d, .ref t0, rfl, ?_, ?_⟩
            · have z := DGet.k (k := Sum.inr (sS σ)) hd5
              rw [valV_put, if_pos rfl] at z
              exact z
            have no : ∀ i, ¬ Rel (sub (fn G σ.length) σ) i := fun i hi => by
              have := List.length_pos_of_mem (mem_hang.mpr hi)
              rw [List.length_nil] at hp3
              omega
            have lk0 : LK (sub (fn G σ.length) σ) (asgOf r) (0, 0).1 (0, 0).2 := LK.none no
            refine q H4 _ t0 (0, 0) s05 hd5 (hk5.put (s5 _ _ ht0) lk0) ?_ (s5 _ _ ht0) lk0
            have := putK_len (kvs := kvs3) (k := Sum.inr (sS σ)) (v := .ref t0)
            omega
          | cons c0 prs0 =>
            have hne : prs ≠ [] := by rw [hpe]; exact List.cons_ne_nil _ _
            have hlen : 0 < prs.length := List.length_pos_iff.mpr hne
            rw [← hpe]
            have hem : decide ((0 : Int) < (prs.length : Nat)) = true := decide_eq_true (by omega)
            rw [hem]
            refine iteT ?_
            have h6p : prs.length ≤ 6 := by omega
            have htp : (ts.map V.ref).length = prs.length := by rw [List.length_map]; exact Paired.length n5
            -- min
            refine ⟨_, rfl, l, rfl, ⟨_, SqL.of hl5⟩, fun D1 nD1 => ?_⟩
            have hR1 : ∀ H' o, Same H4 H' → Same H4 (upd H' D1 o) := fun H' o s => sm_free s nD1
            refine lc_it walk_list (LcR (Same H4) D1 (fun j => (prs.take j).map fun c => nV c.1)) (LcR.start hR1 (Same.refl H4) rfl) (fun j H' _ q => q.1.seq (SqL.of hl5)) ?_ ?_
            · intro j x H6 H7 hj ⟨s6, d6⟩ ⟨e, hx⟩
              subst e
              rw [List.getElem?_map] at hx
              obtain ⟨a, ha, rfl⟩ := Option.map_eq_some_iff.mp hx
              obtain ⟨c, hc, hta⟩ := n5.get ha
              refine ⟨a, _, rfl, SqT.of (s6 _ _ hta), rfl, _, _, rfl, _, _, rfl, rfl, rfl, _, rfl, LcR.add hR1 s6 d6 ?_ ?_⟩
              · rw [List.take_add_one, hc, List.map_append] <;> rfl
              · rw [List.length_map, List.length_take]
                exact small (by omega)
            intro H6 ⟨s6, d6⟩
            rw [htp] at d6
            dsimp only at d6
            rw [List.take_length, firsts] at d6
            refine ⟨D1, _, rfl, SqL.of d6, by rw [List.length_map]; exact hlen, fun mi hmi hle => ?_⟩
            refine ⟨1, mi, rfl, rfl, ?_⟩
            -- max
            have hl6 := s6 _ _ hl5
            refine ⟨_, rfl, l, rfl, ⟨_, SqL.of hl6⟩, fun D2 nD2 => ?_⟩
            have hR2 : ∀ H' o, Same H6 H' → Same H6 (upd H' D2 o) := fun H' o s => sm_free s nD2
            refine lc_it walk_list (LcR (Same H6) D2 (fun j => (prs.take j).map fun c => nV c.2)) (LcR.start hR2 (Same.refl H6) rfl) (fun j H' _ q => q.1.seq (SqL.of hl6)) ?_ ?_
            · intro j x H7 H8 hj ⟨s7, d7⟩ ⟨e, hx⟩
              subst e
              rw [List.getElem?_map] at hx
              obtain ⟨a, ha, rfl⟩ := Option.map_eq_some_iff.mp hx
              obtain ⟨c, hc, hta⟩ := n5.get ha
              refine ⟨a, _, rfl, SqT.of (s7 _ _ (s6 _ _ hta)), rfl, _, _, rfl, _, _, rfl, rfl, rfl, _, rfl, LcR.add hR2 s7 d7 ?_ ?_⟩
              · rw [List.take_add_one, hc, List.map_append] <;> rfl
              · rw [List.length_map, List.length_take]
                exact small (by omega)
            intro H7 ⟨s7, d7⟩
            rw [htp] at d7
            dsimp only at d7
            rw [List.take_length, seconds] at d7
            refine ⟨D2, _, rfl, SqL.of d7, by rw [List.length_map]; exact hlen, fun ma hma hge => ?_⟩
            refine ⟨1, ma, rfl, rfl, ?_⟩
            obtain ⟨c1, hc1, rfl⟩ := List.mem_map.mp hmi
            obtain ⟨c2, hc2, rfl⟩ := List.mem_map.mp hma
            have lk1 : LK (sub (fn G σ.length) σ) (asgOf r) (1 + c1.1) (1 + c2.2) := lk_step (fun i => mem_hang) hp3 hlk3 ⟨c1, hc1, rfl⟩
              (fun c hc => by have := hle _ (List.mem_map.mpr ⟨c, hc, rfl⟩); omega) ⟨c2, hc2, rfl⟩ (fun c hc => by have := hge _ (List.mem_map.mpr ⟨c, hc, rfl⟩); omega)
            have hd7 := s7 _ _ (s6 _ _ hd5)
            refine ⟨(by show 2 ≤ sizeLine; decide), fun t1 nt1 => ?_⟩
            have s8 : Same H7 (upd H7 t1 (tV (1 + c1.1, 1 + c2.2))) := same_upd nt1
            have hsz2 : (putK kvs3 (Sum.inr (sS σ)) (.ref t0)).length < sizeLine := by
              have := putK_len (kvs := kvs3) (k := Sum.inr (sS σ)) (v := .ref t0)
              exact Nat.lt_of_le_of_lt (show _ ≤ 1000001 by omega) (by decide)
            refine ⟨_, rfl, _, rfl, d, _, rfl, DPut.k (k := Sum.inr (sS σ)) (s8 _ _ hd7) hsz2, ?_⟩
            have s58 : Same H4 (upd H7 t1 (tV (1 + c1.1, 1 + c2.2))) := s6.trans (s7.trans s8)
            have ht1 : (upd H7 t1 (tV (1 + c1.1, 1 + c2.2))) t1 = some (tV (1 + c1.1, 1 + c2.2)) := upd_same
            have hd8 := s8 _ _ hd7
            have tv9 : ∀ a c, (upd H7 t1 (tV (1 + c1.1, 1 + c2.2))) a = some (tV c) → (upd (upd H7 t1 (tV (1 + c1.1, 1 + c2.2))) d (.dK (putK (putK kvs3 (Sum.inr (sS σ)) (.ref t0)) (Sum.inr (sS σ)) (.ref t1)))) a = some (tV c) := fun a c h => by
              rw [upd_ne (ne_of h hd8 (by intro z; cases z))]
              exact h
            refine ⟨_, rfl, _, rfl, d, .ref t1, rfl, ?_, ?_⟩
            · have z := DGet.k (k := Sum.inr (sS σ)) (show (upd (upd H7 t1 (tV (1 + c1.1, 1 + c2.2))) d (.dK (putK (putK kvs3 (Sum.inr (sS σ)) (.ref t0)) (Sum.inr (sS σ)) (.ref t1)))) d = _ from upd_same)
              rw [valV_put, if_pos rfl] at z
              exact z
            refine q _ _ t1 (1 + c1.1, 1 + c2.2) ((s05.trans (Sx.of s58)).trans Sx.upd) upd_same ?_ ?_ (tv9 _ _ ht1) lk1
            · refine fun τ hτ v hw => ?_
              rw [valV_put] at hw
              by_cases ez : (Sum.inr (sS τ) : Key) = Sum.inr (sS σ)
              · rw [if_pos ez] at hw
                have e2 : τ = σ := sS_inj (Sum.inr.inj ez)
                subst e2
                exact ⟨t1, (1 + c1.1, 1 + c2.2), (Option.some.inj hw).symm, tv9 _ _ ht1, lk1⟩
              · rw [if_neg ez, valV_put, if_neg ez] at hw
                obtain ⟨a, c, z1, z2, z3⟩ := hk5 τ hτ v hw
                exact ⟨a, c, z1, tv9 _ _ (s58 _ _ z2), z3⟩
            · have := putK_put (kvs := kvs3) (k := Sum.inr (sS σ)) (v := .ref t0) (u := .ref t1)
              omega
end
end K83
namespace K83
open PySem PySem.Spec PyProof.Rows L2
section
variable {P : Program} {w : World} {K : PySem.W.Frag} {mg : Str → Option Value} {base : Heap} {k : Nat} {f : Addr} {fd : FuncData}
/-! ### looks -/
def spLooks : Sp := fun vs H Q _ => ∃ (G r : List Bool), vs = [.str (rS G), .str (rS r)] ∧ FactOk G r.length ∧ ∀ (H' : Hp) (p : Addr) (c : Nat × Nat), Same H H' → H' p = some (tV c) → LK (fn G r.length) (asgOf r) c.1 c.2 → Q (.ref p) H'
theorem dots_text (n : Nat) : SX.S (List.replicate n 46) = sS (dots n) := by
  show SX.S _ = SX.S ((dots n).map mc)
  unfold dots
  rw [List.map_replicate] <;> rfl
theorem dotV : V.str (("." : String) : Str) = V.str ⟨#[46]⟩ := congrArg V.str strD
theorem known_nil {H : Hp} {g : Fn} {x : Asg} {n : Nat} : KnownOk H g x n [] := fun σ _ v hv => by cases hv
theorem opens_dots (n : Nat) : opens (dots n) = n := by
  unfold opens dots
  rw [List.countP_replicate] <;> rfl
theorem sc_kl : FnScope ["fact", "row"] ["fact", "row"] (defScope s_looks_for) := ⟨rfl, rfl, rfl, by decide +kernel, rfl, by decide +kernel, by decide +kernel⟩
theorem ok_looks_for (T : Top K mg) (F : Fun K "looks_for" "looks_for" s_looks_for f fd) : FnOk P w K mg base CX0 (k + 11) f fd ["fact", "row"] spLooks := by
  obtain ⟨f1, fd1, F1, g1, b1⟩ := T.d_looks_from
  have G1 := (ok_looks_from (P := P) (w := w) (base := base) T 7 F1).mono (show 7 + 3 ≤ k + 10 by omega)
  obtain ⟨tD, gD⟩ := T.c_DOT
  refine F.ok sc_kl (fun vs H Q E h => ?_) (fun cdv A outer s H vs Q E hr h => ?_)
  · obtain ⟨_, _, rfl, _⟩ := h
    rfl
  · obtain ⟨G, r, rfl, hG, q⟩ := h
    have h6 := hG.six
    refine ⟨_, pss_one (ps_ret (pe_call G1 hr (by rfl) g1 F1.kp b1 .nil pass0 (pa_cons pe_dnewK (pa_cons (pv 0) (pa_cons (pv 1) (pa_cons (pe_op op_mulS (pe_glob (v := .str ".") rfl gD ⟨_, rfl⟩) (pe_callB call_len_str (by rfl) T.n_len PySem.boot_len (pa_cons (pv 1) pa_nil))) pa_nil)))))), ?_⟩
    refine fun d nd => ⟨_, rfl, _, rfl, _, rfl, _, rfl, ?_, 46, r.length, dotV, ?_, by omega, ?_⟩
    · rw [rS_len]
      exact Nat.le_of_lt (small (by omega))
    · rw [rS_len]
    · rw [dots_text]
      refine ⟨d, G, r, dots r.length, [], rfl, by rw [length_dots]; exact hG, (length_dots _).symm, by rw [opens_dots]; omega, upd_same, known_nil, ?_, fun H1 kvs p c s1 _ _ _ hp hl => ?_⟩
      · rw [opens_dots]
        have := room_mono h6
        have := room6
        show 0 + _ ≤ _
        omega
      · rw [length_dots, sub_dots] at hl
        exact q H1 p c (fun b o hb => s1 b o (ne_of_none hb nd) (by rw [upd_ne (ne_of_none hb nd)]; exact hb)) hp hl
theorem sc_lk : FnScope ["fact", "row"] ["fact", "row"] (defScope s_looks) := ⟨rfl, rfl, rfl, by decide +kernel, rfl, by decide +kernel, by decide +kernel⟩
theorem ok_looks (T : Top K mg) (F : Fun K "looks" "looks" s_looks f fd) : FnOk P w K mg base CX0 (k + 12) f fd ["fact", "row"] spLooks := by
  obtain ⟨f1, fd1, F1, g1, b1⟩ := T.d_is_row_of_length
  have G1 := ok_is_row_of_length (P := P) (w := w) (base := base) (k := k + 9) T F1
  obtain ⟨f2, fd2, F2, g2, b2⟩ := T.d_check_fact
  have G2 := ok_check_fact (P := P) (w := w) (base := base) (k := k + 8) T F2
  obtain ⟨f3, fd3, F3, g3, b3⟩ := T.d_looks_for
  have G3 := ok_looks_for (P := P) (w := w) (base := base) (k := k) T F3
  refine F.ok sc_lk (fun vs H Q E h => ?_) (fun cdv A outer s H vs Q E hr h => ?_)
  · obtain ⟨_, _, rfl, _⟩ := h
    rfl
  · obtain ⟨G, r, rfl, hG, q⟩ := h
    have h6 := hG.six
    refine ⟨_, pss_cons (ps_if (pt_not (pt_val (pe_call G1 hr (by rfl) g1 F1.kp b1 .nil pass0 (pa_cons (pv 1) (pa_cons (pe_call G2 hr (by rfl) g2 F2.kp b2 .nil pass0 (pa_cons (pv 0) pa_nil)) pa_nil))))) pss_never pss_nil)
      (pss_one (ps_ret (pe_call G3 hr (by rfl) g3 F3.kp b3 .nil pass0 (pa_cons (pv 0) (pa_cons (pv 1) pa_nil))))), ?_⟩
    refine ⟨_, rfl, _, rfl, G, r.length, rfl, hG.len, hG.one, h6, fun H1 s1 => ?_⟩
    refine ⟨r, rfl, by omega, fun H2 s2 => ⟨true, rfl, iteF ?_⟩⟩
    exact ⟨_, rfl, _, rfl, G, r, rfl, hG, fun H3 p c s3 hp hl => q H3 p c (s1.trans (s2.trans s3)) hp hl⟩
/-! ### sum_fact -/
def spSum : Sp := fun vs H Q _ => ∃ (G : List Bool) (n : Nat), vs = [.str (rS G)] ∧ FactOk G n ∧
  (IsSum G n → ∀ (H' : Hp) (p t : Addr), Same H H' → H' p = some (.tup [.ref t, cV (G.getD 0 false)]) → H' t = some (.tup ((hang G (dots n)).map nV)) → Q (.ref p) H') ∧ (¬ IsSum G n → ∀ H', Same H H' → Q .non H')
theorem sc_su : FnScope ["fact", "many", "places", "first", "row", "total", "place"] ["fact"] (defScope s_sum_fact) := ⟨rfl, rfl, rfl, by decide +kernel, rfl, by decide +kernel, by decide +kernel⟩
theorem sign_one (b : Bool) : decide (V.str (cS b) = V.str (("1" : String) : Str)) = b := by
  rw [str1]
  cases b <;> decide
theorem count_take {T : List Nat} {i p : Nat} (h : T[i]? = some p) (g : Nat → Bool) : (T.take (i + 1)).countP g = (T.take i).countP g + if g p = true then 1 else 0 := by
  rw [List.take_add_one, h, List.countP_append]
  show _ + [p].countP g = _
  rw [List.countP_cons] <;> simp
theorem ok_sum_fact (T : Top K mg) (F : Fun K "sum_fact" "sum_fact" s_sum_fact f fd) : FnOk P w K mg base CX0 (k + 4) f fd ["fact"] spSum := by
  obtain ⟨f1, fd1, F1, g1, b1⟩ := T.d_check_fact
  have G1 := ok_check_fact (P := P) (w := w) (base := base) (k := k) T F1
  obtain ⟨f2, fd2, F2, g2, b2⟩ := T.d_hanging_at
  have G2 := ok_hanging_at (P := P) (w := w) (base := base) (k := k) T F2
  obtain ⟨f3, fd3, F3, g3, b3⟩ := T.d_rows_fitting
  have G3 := ok_rows_fitting (P := P) (w := w) (base := base) (k := k + 2) T F3
  obtain ⟨f4, fd4, F4, g4, b4⟩ := T.d_sign_for
  have G4 := ok_sign_for (P := P) (w := w) (base := base) (k := k + 2) T F4
  obtain ⟨f5, fd5, F5, g5, b5⟩ := T.d_odd_sign
  have G5 := ok_odd_sign (P := P) (w := w) (base := base) (k := k + 2) T F5
  obtain ⟨tD, gD⟩ := T.c_DOT
  refine F.ok sc_su (fun vs H Q E h => ?_) (fun cdv A outer s H vs Q E hr h => ?_)
  · obtain ⟨_, _, rfl, _⟩ := h
    rfl
  · obtain ⟨G, n, rfl, hG, qy, qn⟩ := h
    have h6 := hG.six
    have h1 := hG.one
    have h64 := pow6 h6
    refine ⟨_, pss_cons (ps_set (i := 1) sc_su.nd rfl (.inl rfl) (pe_call G1 hr (by rfl) g1 F1.kp b1 .nil pass0 (pa_cons (pv 0) pa_nil)))
      (pss_cons (ps_set (i := 2) sc_su.nd rfl (.inl rfl) (pe_call G2 hr (by rfl) g2 F2.kp b2 .nil pass0 (pa_cons (pv 0) (pa_cons (pe_op op_mulS (pe_glob (v := .str ".") rfl gD ⟨_, rfl⟩) (pv 1)) pa_nil))))
      (pss_cons (ps_set (i := 3) sc_su.nd rfl (.inl rfl) (pe_item_str (pv 0) pe_int (fun _ _ => rfl)))
      (pss_cons (ps_for PassesOwn.never rfl (pi_list (pe_call G3 hr (by rfl) g3 F3.kp b3 .nil pass0 (pa_cons (pe_op op_mulS (pe_glob (v := .str ".") rfl gD ⟨_, rfl⟩) (pv 1)) pa_nil))) (pg_name (i := 4) sc_su.nd rfl (.inr rfl))
        (pss_cons (ps_set (i := 5) sc_su.nd rfl (.inl rfl) (pe_op op_add (pe_callB call_len_seq (by rfl) T.n_len PySem.boot_len (pa_cons
            (pe_lc (own := [("place", 6)]) (g := gName 6) rfl sc_su.nd (pi_tup (pv 2)) (blkOk_by (N := ["fact", "many", "places", "first", "row", "total", "place"]) (sc := defScope s_sum_fact) (by decide +kernel))
              (fun _ _ _ _ _ => pg_name (i := 6) sc_su.nd rfl (Or.inl rfl)) (fun _ _ _ _ _ => pts_one (pt_cmpR op_eq (pe_item_str (pv 4) (pv 6) (fun _ _ => rfl)) pe_str (nomark _))) (fun _ _ _ _ _ => pe_int)) pa_nil))
            (pe_callTy call_int_str (by rfl) T.n_int (by decide +kernel) (pa_cons (pv 3) pa_nil))))
        (pss_one (ps_if (pt_cmpR op_ne (pe_call G4 hr (by rfl) g4 F4.kp b4 .nil pass0 (pa_cons (pv 0) (pa_cons (pv 4) pa_nil))) (pe_call G5 hr (by rfl) g5 F5.kp b5 .nil pass0 (pa_cons (pv 5) pa_nil)) (nomark _)) (pss_one (ps_ret pe_non)) pss_nil))))
      (pss_one (ps_ret (pe_tup (pa_cons (pv 2) (pa_cons (pv 3) pa_nil)))))))), ?_⟩
    refine ⟨_, rfl, G, n, rfl, hG.len, h1, h6, fun H1 s1 => ?_⟩
    refine ⟨_, rfl, _, rfl, 46, n, dotV, rfl, by omega, ?_⟩
    rw [dots_text]
    refine ⟨G, dots n, rfl, by rw [length_dots]; exact hG, fun H2 t s2 ht => ?_⟩
    have z0 : (rS G).cps[(0 : Int).toNat]? = some (bc (G.getD 0 false)) := rS_item (p := 0) (by rw [hG.len]; exact Nat.pow_pos (by decide))
    refine ⟨_, rfl, _, _, bc (G.getD 0 false), rfl, rfl, by omega, by omega, ?_, z0, ?_⟩
    · rw [rS_len, hG.len]
      have := Nat.pow_pos (a := 2) (n := n) (by decide)
      omega
    refine ⟨_, rfl, 46, n, dotV, rfl, by omega, ?_⟩
    rw [dots_text]
    refine ⟨dots n, rfl, by rw [length_dots]; exact h6, fun H3 L s3 hL => ?_⟩
    have s03 := s1.trans (s2.trans s3)
    have ht3 := s3 _ _ ht
    generalize hc : G.getD 0 false = c at *
    refine ⟨L, rfl, ⟨_, SqL.of hL⟩, for_it walk_list (fun i σ' H' => (∃ y4 y5, σ' = [some (.str (rS G)), some (nV n), some (.ref t), some (cV c), y4, y5, none]) ∧ Same H3 H' ∧ ∀ r, r ∈ (fit (dots n)).take i → at_ G r = par (hang G (dots n)) r c)
      ⟨⟨_, _, rfl⟩, Same.refl _, fun r hr' => by simp at hr'⟩ (fun i σ' H' _ q => q.2.1.seq (SqL.of hL)) ?_ ?_⟩
    · rintro i x σ' H4 H5 hi ⟨⟨y4, y5, rfl⟩, s4, hall⟩ ⟨rfl, hx⟩
      rw [List.getElem?_map] at hx
      obtain ⟨r, hr', rfl⟩ := Option.map_eq_some_iff.mp hx
      have hrl : r.length = n := mem_all.mp (List.mem_of_getElem? hr')
      have hlen := hang_len G (dots n)
      rw [length_dots] at hlen
      refine ⟨_, rfl, t, rfl, ⟨_, SqT.of (s4 _ _ ht3)⟩, fun D nD => ?_⟩
      have hR : ∀ H' o, Same H5 H' → Same H5 (upd H' D o) := fun H' o s => sm_free s nD
      refine lc_it walk_tup (LcR (Same H5) D (fun j => List.replicate (((hang G (dots n)).take j).countP fun p => r.getD p false) (V.int 1))) (LcR.start hR (Same.refl H5) rfl) (fun j H' _ q => sm_tup q.1 (SqT.of (s4 _ _ ht3))) ?_ ?_
      · intro j x H6 H7 hj ⟨s6, d6⟩ ⟨e, hx⟩
        subst e
        rw [List.getElem?_map] at hx
        obtain ⟨p, hp, rfl⟩ := Option.map_eq_some_iff.mp hx
        have hpl : p < n := by
          have := (hang_lt (List.mem_of_getElem? hp)).1
          rwa [length_dots] at this
        refine ⟨rfl, _, rfl, _, rfl, _, _, bc (r.getD p false), rfl, rfl, by omega, by omega, ?_, ?_, rfl, _, rfl, ?_⟩
        · rw [rS_len]
          omega
        · rw [Int.toNat_natCast]
          exact rS_item (by omega)
        rw [sign_one]
        refine ite2 (fun c => ?_) (fun c => ?_)
        · refine LcR.add hR s6 d6 ?_ ?_
          · rw [count_take hp, if_pos c, List.replicate_succ']
          · rw [List.length_replicate]
            have : ((hang G (dots n)).take j).countP (fun p => r.getD p false) ≤ ((hang G (dots n)).take j).length := List.countP_le_length
            rw [List.length_take] at this
            exact small (by omega)
        · refine LcR.skip s6 d6 ?_
          rw [count_take hp, if_neg c, Nat.add_zero]
      · intro H6 ⟨s6, d6⟩
        rw [List.length_map] at d6
        dsimp only at d6
        rw [List.take_length] at d6
        refine ⟨D, _, rfl, .inl (SqL.of d6), _, rfl, _, _, rfl, int_cS c, (by show 1 ≤ 640; decide), _, _, rfl, rfl, ?_⟩
        rw [List.length_replicate]
        refine ⟨_, rfl, _, rfl, G, r, n, rfl, hG.len, h1, h6, hrl, ?_⟩
        refine ⟨_, rfl, (hang G (dots n)).countP (fun p => r.getD p false) + c.toNat, ?_, rfl, _, rfl, ?_⟩
        · exact congrArg (fun z => [V.int z]) (by omega)
        rw [cS_ne]
        have hp : ((((hang G (dots n)).countP fun p => r.getD p false) + c.toNat) % 2 == 1) = par (hang G (dots n)) r c := rfl
        rw [hp]
        refine ite2 (fun e => ?_) (fun e => ?_)
        · refine qn (fun hs => ?_) H6 (s03.trans (s4.trans s6))
          have := hs r hrl
          rw [hc] at this
          rw [this] at e
          simp at e
        · refine ⟨⟨_, _, rfl⟩, s4.trans s6, fun r' hr2 => ?_⟩
          rw [List.take_add_one, hr'] at hr2
          rcases List.mem_append.mp hr2 with z | z
          · exact hall r' z
          · have z : r' = r := List.mem_singleton.mp z
            subst z
            revert e
            cases at_ G r' <;> cases par (hang G (dots n)) r' c <;> simp
    · rintro σ' H4 ⟨⟨y4, y5, rfl⟩, s4, hall⟩
      rw [List.length_map, List.take_length] at hall
      refine ⟨_, rfl, _, rfl, (by show 2 ≤ sizeLine; decide), fun p np => ?_⟩
      have s5 := same_upd (o := .tup [.ref t, cV c]) np
      exact qy (fun r hrl => by rw [hc]; exact hall r (mem_all.mpr hrl)) _ p t (s03.trans (s4.trans s5)) upd_same (s5 _ _ (s4 _ _ ht3))
end
end K83
namespace K83
open PySem PySem.Spec PyProof.Rows L2
section
variable {P : Program} {w : World} {K : PySem.W.Frag} {mg : Str → Option Value} {base : Heap} {k : Nat} {f : Addr} {fd : FuncData}
/-! ### unlike_looks -/
/-- a row at which not all looks have the number of the first row's -/
def Bad (G : List Bool) (n : Nat) (r0 r : List Bool) : Prop := ¬ ∃ m, LK (fn G n) (asgOf r0) m m ∧ LK (fn G n) (asgOf r) m m
/-- the two rows that are told: the first one, and the first bad one -/
def Told (G : List Bool) (n : Nat) (r0 r : List Bool) : Prop := (fit (dots n))[0]? = some r0 ∧ ∃ i, (fit (dots n))[i]? = some r ∧ Bad G n r0 r ∧ ∀ (j : Nat) (r' : List Bool), j < i → (fit (dots n))[j]? = some r' → ¬ Bad G n r0 r'
theorem Told.uniq {G : List Bool} {n : Nat} {a b c d : List Bool} (h : Told G n a b) (h' : Told G n c d) : a = c ∧ b = d := by
  obtain ⟨h0, i, h1, h2, h3⟩ := h
  obtain ⟨g0, j, g1, g2, g3⟩ := h'
  rw [h0] at g0
  have e : a = c := Option.some.inj g0
  subst e
  refine ⟨rfl, ?_⟩
  by_cases l1 : i < j
  · exact absurd h2 (g3 i b l1 h1)
  · by_cases l2 : j < i
    · exact absurd g2 (h3 j d l2 g1)
    · have : i = j := by omega
      subst this
      rw [h1] at g1
      exact Option.some.inj g1
theorem bad_iff {G : List Bool} {n : Nat} {r0 r : List Bool} {c0 c : Nat × Nat} (h0 : LK (fn G n) (asgOf r0) c0.1 c0.2) (h : LK (fn G n) (asgOf r) c.1 c.2) : Bad G n r0 r ↔ (c.1 ≠ c.2 ∨ c ≠ c0) := by
  constructor
  · intro hb
    by_cases e1 : c.1 = c.2
    · by_cases e2 : c = c0
      · refine absurd ⟨c.1, ?_, ?_⟩ hb
        · rw [← e2] at h0
          conv at h0 => arg 4; rw [← e1]
          exact h0
        · conv at h => arg 4; rw [← e1]
          exact h
      · exact .inr e2
    · exact .inl e1
  · rintro hc ⟨m, l0, l⟩
    have u0 := h0.uniq l0
    have u := h.uniq l
    rcases hc with z | z
    · exact z (u.1.trans u.2.symm)
    · exact z (Prod.ext (u.1.trans u0.1.symm) (u.2.trans u0.2.symm))
theorem not_bad_sum {G : List Bool} {n : Nat} {r0 : List Bool} (h : IsSum G n) (hl : ∀ r : List Bool, r.length = n → ∃ a b, LK (fn G n) (asgOf r) a b) (h0 : r0.length = n) {r : List Bool} (hr : r.length = n) : ¬ Bad G n r0 r := fun hb => by
  obtain ⟨a, b, l0⟩ := hl r0 h0
  obtain ⟨c, d, l⟩ := hl r hr
  have u0 := lk_of_sum h l0
  have u := lk_of_sum h l
  rw [u0.1, u0.2] at l0
  rw [u.1, u.2] at l
  exact hb ⟨_, l0, l⟩
theorem sum_of_good {G : List Bool} {n : Nat} {r0 : List Bool} (hr0 : r0.length = n) (h : ∀ r : List Bool, r.length = n → ¬ Bad G n r0 r) : IsSum G n := by
  have ex : ∀ r : List Bool, r.length = n → ∃ m, LK (fn G n) (asgOf r0) m m ∧ LK (fn G n) (asgOf r) m m := fun r hr => Classical.byContradiction (h r hr)
  obtain ⟨m, hm, _⟩ := ex r0 hr0
  refine sum_of_lk (k := m) fun r hr => ?_
  obtain ⟨m', h1, h2⟩ := ex r hr
  have := hm.uniq h1
  rw [this.1]
  exact h2
theorem pD_eqv (a b : Nat × Nat) : PyData.eqv (pD a) (pD b) = decide (a = b) := by
  have e : PyData.eqv (pD a) (pD b) = (((a.1 : Int) == (b.1 : Int)) && (((a.2 : Int) == (b.2 : Int)) && true)) := rfl
  rw [e, Bool.and_true, Bool.eq_iff_iff, Bool.and_eq_true, beq_iff_eq, beq_iff_eq, decide_eq_true_iff]
  constructor
  · rintro ⟨h1, h2⟩
    exact Prod.ext (Int.ofNat.inj h1) (Int.ofNat.inj h2)
  · rintro rfl
    exact ⟨rfl, rfl⟩
def spUnlike : Sp := fun vs H Q _ => ∃ (G : List Bool) (n : Nat), vs = [.str (rS G)] ∧ FactOk G n ∧
  (IsSum G n → ∀ H', Same H H' → Q .non H') ∧ (¬ IsSum G n → ∀ (H' : Hp) (p : Addr) (r0 r : List Bool), Same H H' → H' p = some (.tup [rV r0, rV r]) → Told G n r0 r → Q (.ref p) H')
theorem sc_un : FnScope ["fact", "rows", "first", "row", "pair"] ["fact"] (defScope s_unlike_looks) := ⟨rfl, rfl, rfl, by decide +kernel, rfl, by decide +kernel, by decide +kernel⟩
theorem nV_ne (a b : Nat) : (!decide (nV a = nV b)) = decide (a ≠ b) := by
  by_cases e : a = b
  · subst e
    rw [decide_eq_true rfl, decide_eq_false (fun z => z rfl)] <;> rfl
  · rw [decide_eq_false (show ¬ nV a = nV b from fun z => e (Int.ofNat.inj (V.int.inj z))), decide_eq_true (show a ≠ b from e)] <;> rfl
theorem ok_unlike_looks (T : Top K mg) (F : Fun K "unlike_looks" "unlike_looks" s_unlike_looks f fd) : FnOk P w K mg base CX0 (k + 12) f fd ["fact"] spUnlike := by
  obtain ⟨f1, fd1, F1, g1, b1⟩ := T.d_check_fact
  have G1 := ok_check_fact (P := P) (w := w) (base := base) (k := k + 8) T F1
  obtain ⟨f2, fd2, F2, g2, b2⟩ := T.d_rows_fitting
  have G2 := ok_rows_fitting (P := P) (w := w) (base := base) (k := k + 10) T F2
  obtain ⟨f3, fd3, F3, g3, b3⟩ := T.d_looks_for
  have G3 := ok_looks_for (P := P) (w := w) (base := base) (k := k) T F3
  obtain ⟨tD, gD⟩ := T.c_DOT
  refine F.ok sc_un (fun vs H Q E h => ?_) (fun cdv A outer s H vs Q E hr h => ?_)
  · obtain ⟨_, _, rfl, _⟩ := h
    rfl
  · obtain ⟨G, n, rfl, hG, qy, qn⟩ := h
    have h6 := hG.six
    have h1 := hG.one
    refine ⟨_, pss_cons (ps_set (i := 1) sc_un.nd rfl (.inl rfl) (pe_call G2 hr (by rfl) g2 F2.kp b2 .nil pass0 (pa_cons (pe_op op_mulS (pe_glob (v := .str ".") rfl gD ⟨_, rfl⟩) (pe_call G1 hr (by rfl) g1 F1.kp b1 .nil pass0 (pa_cons (pv 0) pa_nil))) pa_nil)))
      (pss_cons (ps_set (i := 2) sc_un.nd rfl (.inl rfl) (pe_call G3 hr (by rfl) g3 F3.kp b3 .nil pass0 (pa_cons (pv 0) (pa_cons (pe_ix ix_list (pv 1) pe_int (fun _ _ => rfl)) pa_nil))))
      (pss_cons (ps_for PassesOwn.never rfl (pi_list (pv 1)) (pg_name (i := 3) sc_un.nd rfl (.inl rfl))
        (pss_cons (ps_set (i := 4) sc_un.nd rfl (.inl rfl) (pe_call G3 hr (by rfl) g3 F3.kp b3 .nil pass0 (pa_cons (pv 0) (pa_cons (pv 3) pa_nil))))
        (pss_one (ps_if (PW.pt (pw_or (pt_cmpR op_ne (pe_ix ix_tup (pv 4) pe_int (fun _ _ => rfl)) (pe_ix ix_tup (pv 4) pe_int (fun _ _ => rfl)) (nomark _)) (pw_or1 (pt_cmpR (op_neD hr.units) (pv 4) (pv 2) (nomark _)))))
          (pss_one (ps_ret (pe_tup (pa_cons (pe_ix ix_list (pv 1) pe_int (fun _ _ => rfl)) (pa_cons (pv 3) pa_nil))))) pss_nil))))
      (pss_one (ps_ret pe_non)))), ?_⟩
    refine ⟨_, rfl, G, n, rfl, hG.len, h1, h6, fun H1 s1 => ?_⟩
    refine ⟨46, n, dotV, rfl, by omega, ?_⟩
    rw [dots_text]
    refine ⟨dots n, rfl, by rw [length_dots]; exact h6, fun H2 L s2 hL => ?_⟩
    have hpos : 0 < (fit (dots n)).length := by rw [length_all]; exact Nat.pow_pos (by decide)
    obtain ⟨r0, hr0⟩ : ∃ r0, (fit (dots n))[0]? = some r0 := ⟨_, List.getElem?_eq_getElem hpos⟩
    have hl0 : r0.length = n := mem_all.mp (List.mem_of_getElem? hr0)
    have hg0 : ((fit (dots n)).map rV)[0]? = some (rV r0) := by rw [List.getElem?_map, hr0] <;> rfl
    refine ⟨_, rfl, _, rfl, L, _, 0, rV r0, rfl, rfl, SqL.of hL, atI_nat (j := 0) hg0, G, r0, rfl, by rw [hl0]; exact hG, fun H3 p0 c0 s3 hp0 hlk0 => ?_⟩
    rw [hl0] at hlk0
    have s03 := s1.trans (s2.trans s3)
    have hL3 := s3 _ _ hL
    refine ⟨_, rfl, L, rfl, ⟨_, SqL.of hL3⟩, for_it walk_list (fun i σ' H' => (∃ y3 y4, σ' = [some (.str (rS G)), some (.ref L), some (.ref p0), y3, y4]) ∧ Same H3 H' ∧ ∀ (j : Nat) (r : List Bool), j < i → (fit (dots n))[j]? = some r → ¬ Bad G n r0 r ∧ ∃ a b, LK (fn G n) (asgOf r) a b)
      ⟨⟨_, _, rfl⟩, Same.refl _, fun j r hj => absurd hj (Nat.not_lt_zero _)⟩ (fun i σ' H' _ q => q.2.1.seq (SqL.of hL3)) ?_ ?_⟩
    · rintro i x σ' H4 H5 hi ⟨⟨y3, y4, rfl⟩, s4, hall⟩ ⟨rfl, hx⟩
      rw [List.getElem?_map] at hx
      obtain ⟨r, hr', rfl⟩ := Option.map_eq_some_iff.mp hx
      have hrl : r.length = n := mem_all.mp (List.mem_of_getElem? hr')
      refine ⟨_, rfl, _, rfl, G, r, rfl, by rw [hrl]; exact hG, fun H6 p c s6 hp hlk => ?_⟩
      rw [hrl] at hlk
      have hb := bad_iff hlk0 hlk
      have told : Bad G n r0 r → Told G n r0 r := fun b => ⟨hr0, i, hr', b, fun j r' hj hj' => (hall j r' hj hj').1⟩
      have notsum : Bad G n r0 r → ¬ IsSum G n := fun b hs => by
        refine b ⟨(hang G (dots n)).length, ?_, ?_⟩
        · have u := lk_of_sum hs hlk0
          rw [u.1, u.2] at hlk0
          exact hlk0
        · have u := lk_of_sum hs hlk
          rw [u.1, u.2] at hlk
          exact hlk
      have s46 := s03.trans (s4.trans s6)
      have ret : Bad G n r0 r → tRet (tTup (tCons (tOp (rIxL K) (tVar 1) (tC (.int 0))) (tCons (tVar 3) tNil))) { nx := fun _ _ => True, rt := Q } [some (.str (rS G)), some (.ref L), some (.ref p0), some (rV r), some (.ref p)] H6 := fun b => by
        refine ⟨_, rfl, L, _, 0, rV r0, rfl, rfl, SqL.of (s6 _ _ (s4 _ _ hL3)), atI_nat (j := 0) hg0, _, rfl, (by show 2 ≤ sizeLine; decide), fun t nt => ?_⟩
        exact qn (notsum b) _ t r0 r (s46.trans (same_upd nt)) upd_same (told b)
      refine ⟨_, rfl, p, _, 0, nV c.1, rfl, rfl, SqT.of hp, rfl, _, rfl, p, _, 1, nV c.2, rfl, rfl, SqT.of hp, rfl, rfl, _, rfl, ?_⟩
      rw [nV_ne]
      refine ite2 (fun e => ?_) (fun e => ?_)
      · have b := hb.mpr (.inl (of_decide_eq_true e))
        exact iteT (ret b)
      · have e1 : c.1 = c.2 := Classical.byContradiction fun z => e (decide_eq_true z)
        refine ⟨_, rfl, _, rfl, pD c, pD c0, dp_pair hp, dp_pair (s6 _ _ (s4 _ _ hp0)), rfl, rfl, _, rfl, ?_⟩
        rw [pD_eqv]
        by_cases e2 : c = c0
        · rw [decide_eq_true e2]
          refine iteF ⟨⟨_, _, rfl⟩, s4.trans s6, fun j r' hj hj' => ?_⟩
          by_cases ej : j = i
          · subst ej
            rw [hr'] at hj'
            have er : r = r' := Option.some.inj hj'
            subst er
            exact ⟨fun b => (hb.mp b).elim (fun z => z e1) (fun z => z e2), _, _, hlk⟩
          · exact hall j r' (by omega) hj'
        · rw [decide_eq_false e2]
          exact iteT (ret (hb.mpr (.inr e2)))
    · rintro σ' H4 ⟨⟨y3, y4, rfl⟩, s4, hall⟩
      rw [List.length_map] at hall
      have hs : IsSum G n := sum_of_good hl0 fun r hrl => by
        obtain ⟨j, hj, e⟩ := List.getElem_of_mem (mem_all.mpr hrl)
        exact (hall j r hj (by rw [List.getElem?_eq_getElem hj, e])).1
      exact qy hs H4 (s03.trans s4)
end
end K83
namespace K83
open PySem PySem.Spec PyProof.Rows L2
section
variable {P : Program} {w : World} {K : PySem.W.Frag} {mg : Str → Option Value} {base : Heap} {k : Nat} {f : Addr} {fd : FuncData}
/-! ### the law's hand: a list of cells, a place, a rest, two numbers -/
def hV (c : Addr) (p g s q : Int) : HO := .lst [.ref c, .int p, .int g, .int s, .int q]
def Hand (H : Hp) (h c : Addr) : Prop := ∃ (cells : List Int) (p g s q : Int), H h = some (hV c p g s q) ∧ H c = some (.lst (cells.map V.int)) ∧ 0 ≤ p ∧ 0 ≤ g
theorem hand_apart {H : Hp} {h c : Addr} {cells : List Int} {d : Addr} {p g s q : Int} (h1 : H h = some (hV d p g s q)) (h2 : H c = some (.lst (cells.map V.int))) : c ≠ h := by
  refine ne_of h2 h1 fun e => ?_
  cases cells with
  | nil => cases e
  | cons a l => cases e
theorem Hand.same {H H' : Hp} {h c : Addr} (s : Same H H') (q : Hand H h c) : Hand H' h c := by
  obtain ⟨cells, p, g, a, b, h1, h2, h3⟩ := q
  exact ⟨cells, p, g, a, b, s _ _ h1, s _ _ h2, h3⟩
theorem Hand.put {H : Hp} {h c : Addr} {cells : List Int} {p g s q p' g' s' q' : Int} (h1 : H h = some (hV c p g s q)) (h2 : H c = some (.lst (cells.map V.int))) (hp : 0 ≤ p') (hg : 0 ≤ g') : Hand (upd H h (hV c p' g' s' q')) h c :=
  ⟨cells, p', g', s', q', upd_same, by rw [upd_ne (hand_apart h1 h2)]; exact h2, hp, hg⟩
/-- all but the hand is as it was, and the hand is one -/
def Hx (h c : Addr) (H H' : Hp) : Prop := Sx h H H' ∧ Hand H' h c
theorem Hx.refl {h c : Addr} {H : Hp} (q : Hand H h c) : Hx h c H H := ⟨Sx.refl h H, q⟩
theorem Hx.trans {h c : Addr} {H H1 H2 : Hp} (a : Hx h c H H1) (b : Hx h c H1 H2) : Hx h c H H2 := ⟨a.1.trans b.1, b.2⟩
theorem Hx.of {h c : Addr} {H H' : Hp} (q : Hand H h c) (s : Same H H') : Hx h c H H' := ⟨Sx.of s, q.same s⟩
theorem Hand.ne {H : Hp} {h c p : Addr} (q : Hand H h c) (n : H p = none) : h ≠ p ∧ c ≠ p := by
  obtain ⟨_, _, _, _, _, h1, h2, _⟩ := q
  exact ⟨ne_of_none h1 n, ne_of_none h2 n⟩
theorem Hand.apart {H : Hp} {h c : Addr} (q : Hand H h c) : c ≠ h := by
  obtain ⟨_, _, _, _, _, h1, h2, _⟩ := q
  exact hand_apart h1 h2
/-- changed at a place that was free -/
theorem Hx.free {h c p : Addr} {H1 H : Hp} {o : HO} (q : Hand H1 h c) (s : Hx h c H1 H) (n : H1 p = none) : Hx h c H1 (upd H p o) := by
  obtain ⟨n1, n2⟩ := q.ne n
  refine ⟨s.1.free n, ?_⟩
  obtain ⟨cells, p', g, a, b, h1, h2, h3⟩ := s.2
  exact ⟨cells, p', g, a, b, by rw [upd_ne n1]; exact h1, by rw [upd_ne n2]; exact h2, h3⟩
theorem Hx.keep {h c : Addr} {H H' : Hp} (s : Hx h c H H') {b : Addr} {o : HO} (n : b ≠ h) (e : H b = some o) : H' b = some o := s.1 b o n e
theorem Hx.freeOf {h c : Addr} {H H' : Hp} (q : Hand H h c) (s : Hx h c H H') {p : Addr} (n : H' p = none) : H p = none := by
  cases e : H p with
  | none => rfl
  | some o =>
    have hp : p ≠ h := fun z => by
      obtain ⟨_, _, _, _, _, h1, _⟩ := s.2
      rw [z, h1] at n
      cases n
    rw [s.1 p o hp e] at n
    cases n
def spHand (K : PySem.W.Frag) : Sp := fun vs H Q _ => ∃ (a : Addr) (ns : List Int), vs = [.ref a] ∧ SqL K H a (ns.map V.int) ∧ ns.length ≤ 63 ∧ ∀ (H' : Hp) (h c : Addr), Same H H' → Hand H' h c → H h = none → Q (.ref h) H'
theorem sc_hd : FnScope ["_law_script", "_law_cells", "_law_cell"] ["_law_script"] (defScope s_law_hand) := ⟨rfl, rfl, rfl, by decide +kernel, rfl, by decide +kernel, by decide +kernel⟩
theorem cut63 {ns : List Int} (h : ns.length ≤ 63) : cutV (ns.map V.int) none (some 63) = ns.map V.int := by
  unfold cutV
  have e : HT.sIx (ns.map V.int).length (ns.map V.int).length (some 63) = (ns.map V.int).length := by
    have := HT.sIx_nat (ns.map V.int).length (ns.map V.int).length 63
    rw [show ((63 : Nat) : Int) = 63 from rfl] at this
    rw [this, Nat.min_eq_right (by rw [List.length_map]; exact h)]
  rw [e, HT.sIx_none, List.drop_zero, Nat.sub_zero, List.take_length]
theorem ok_law_hand (T : Top K mg) (F : Fun K "_law_hand" "_law_hand" s_law_hand f fd) : FnOk P w K mg base CX0 (k + 1) f fd ["_law_script"] (spHand K) := by
  refine F.ok sc_hd (fun vs H Q E h => ?_) (fun cdv A outer s H vs Q E hr h => ?_)
  · obtain ⟨_, _, rfl, _⟩ := h
    rfl
  · obtain ⟨a, ns, rfl, hS, h63, q⟩ := h
    refine ⟨_, pss_cons (ps_setLc (i := 1) (own := [("_law_cell", 2)]) (g := gName 2) (tt := tYes) rfl sc_hd.nd rfl rfl (sw_true rfl rfl rfl (by decide +kernel)) (pi_list (pe_slice sl_list (pv 0) po_none (po_some pe_int)))
        (blkOk_by (N := ["_law_script", "_law_cells", "_law_cell"]) (sc := defScope s_law_hand) (by decide +kernel)) (fun _ _ _ _ _ => pg_name (i := 2) sc_hd.nd rfl (Or.inl rfl)) (fun _ _ _ _ _ => pts_nil)
        (fun _ _ _ _ _ => pe_callB call_abs (by rfl) T.n_abs (by decide +kernel) (pa_cons (pe_callTy call_int1 (by rfl) T.n_int (by decide +kernel) (pa_cons (pv 2) pa_nil)) pa_nil)))
      (pss_one (ps_ret (pe_lst (pa_cons (pv 1) (pa_cons pe_int (pa_cons pe_int (pa_cons (pe_op op_add pe_int (pe_callB call_len_seq (by rfl) T.n_len PySem.boot_len (pa_cons (pv 1) pa_nil))) (pa_cons pe_int pa_nil)))))))), ?_⟩
    refine ⟨_, rfl, 63, rfl, a, _, rfl, hS, fun l nl => ?_⟩
    rw [cut63 h63]
    have hl : (upd H l (.lst (ns.map V.int))) l = some (.lst (ns.map V.int)) := upd_same
    have s1 : Same H (upd H l (.lst (ns.map V.int))) := same_upd nl
    generalize upd H l (.lst (ns.map V.int)) = H1 at hl s1
    refine ⟨l, rfl, ⟨_, SqL.of hl⟩, fun D nD => ?_⟩
    have hR : ∀ H' o, Same H1 H' → Same H1 (upd H' D o) := fun H' o s => sm_free s nD
    refine lc_it walk_list (LcR (Same H1) D (fun j => ((ns.take j).map fun n : Int => if n < 0 then -n else n).map V.int)) (LcR.start hR (Same.refl H1) rfl) (fun j H' _ q => q.1.seq (SqL.of hl)) ?_ ?_
    · intro j x H2 H3 hj ⟨s2, d2⟩ ⟨e, hx⟩
      subst e
      rw [List.getElem?_map] at hx
      obtain ⟨n, hn, rfl⟩ := Option.map_eq_some_iff.mp hx
      refine ⟨rfl, _, rfl, .inl ⟨n, rfl, n, rfl, LcR.add hR s2 d2 ?_ ?_⟩⟩
      · rw [List.take_add_one, hn, List.map_append, List.map_append] <;> rfl
      · rw [List.length_map, List.length_map, List.length_take]
        exact small (by omega)
    · intro H2 ⟨s2, d2⟩
      refine ⟨_, rfl, _, rfl, D, _, rfl, .inl (SqL.of d2), 1, _, rfl, rfl, (by show 5 ≤ sizeLine; decide), fun h nh => ?_⟩
      have nd : D ≠ h := ne_of_none d2 nh
      refine q _ h D ((s1.trans s2).trans (same_upd nh)) ?_ ((s1.trans s2).free nh)
      exact ⟨_, 0, 0, _, 0, upd_same, by rw [upd_ne nd]; exact d2, Int.le_refl 0, Int.le_refl 0⟩
/-! ### a draw -/
def spDraw : Sp := fun vs H Q _ => ∃ (h c : Addr) (m : Nat), vs = [.ref h, nV m] ∧ 0 < m ∧ m ≤ 4096 ∧ Hand H h c ∧ ∀ (H' : Hp) (d : Nat), Hx h c H H' → d < m → Q (nV d) H'
theorem sc_dw : FnScope ["_law_hand_here", "_law_many", "_law_cell", "_law_digit", "_law_number"] ["_law_hand_here", "_law_many"] (defScope s_law_draw) := ⟨rfl, rfl, rfl, by decide +kernel, rfl, by decide +kernel, by decide +kernel⟩
abbrev nDW : List Str := ["_law_hand_here", "_law_many", "_law_cell", "_law_digit", "_law_number"]
theorem mod_nat {a : Int} {m : Nat} (h : 0 < m) : ∃ d : Nat, a % (m : Int) = (d : Int) ∧ d < m := by
  have h1 := Int.emod_nonneg a (show (m : Int) ≠ 0 by omega)
  have h2 := Int.emod_lt_of_pos a (show (0 : Int) < m by omega)
  exact ⟨(a % (m : Int)).toNat, by omega, by omega⟩
theorem at0 {c : Addr} {p g s q : Int} : atI [V.ref c, .int p, .int g, .int s, .int q] 0 = some (.ref c) := rfl
theorem at1 {c : Addr} {p g s q : Int} : atI [V.ref c, .int p, .int g, .int s, .int q] 1 = some (.int p) := rfl
theorem at2 {c : Addr} {p g s q : Int} : atI [V.ref c, .int p, .int g, .int s, .int q] 2 = some (.int g) := rfl
theorem at3 {c : Addr} {p g s q : Int} : atI [V.ref c, .int p, .int g, .int s, .int q] 3 = some (.int s) := rfl
theorem at4 {c : Addr} {p g s q : Int} : atI [V.ref c, .int p, .int g, .int s, .int q] 4 = some (.int q) := rfl
theorem ok_law_draw (T : Top K mg) (F : Fun K "_law_draw" "_law_draw" s_law_draw f fd) : FnOk P w K mg base CX0 (k + 1) f fd ["_law_hand_here", "_law_many"] spDraw := by
  refine F.ok sc_dw (fun vs H Q E h => ?_) (fun cdv A outer s H vs Q E hr h => ?_)
  · obtain ⟨_, _, _, rfl, _⟩ := h
    rfl
  · obtain ⟨h, c, m, rfl, hm, hm2, hH, q⟩ := h
    -- the last piece: a number out of the seed
    have p3 : ∃ t, PSs (cxOf CX0 P w K mg base nDW "_law_draw" (defScope s_law_draw) f cdv A outer s H E).nox ((defBody s_law_draw).drop 2) t ∧ ∀ D H1 y2 y3 y4, Sx h H H1 → Hand H1 h c → D.rt = Q → t D [some (.ref h), some (nV m), y2, y3, y4] H1 := by
      refine ⟨_, pss_cons (ps_asg (pe_op op_add (pe_ix ix_list (pv 0) pe_int (fun _ _ => rfl)) pe_int) (pg_sub (pv 0) pe_int set_list))
        (pss_cons (ps_set (i := 4) sc_dw.nd rfl (.inl rfl) (pe_op op_mod (pe_callTy call_int1 (by rfl) T.n_int (by decide +kernel) (pa_cons (pe_op op_mul (pe_callTy call_int1 (by rfl) T.n_int (by decide +kernel) (pa_cons (pe_op op_add (pe_ix ix_list (pv 0) pe_int (fun _ _ => rfl)) (pe_op op_mul pe_int (pe_ix ix_list (pv 0) pe_int (fun _ _ => rfl)))) pa_nil)) pe_int) pa_nil)) pe_int))
        (pss_cons (ps_set (i := 4) sc_dw.nd rfl (.inl rfl) (pe_op op_mod (pe_callTy call_int1 (by rfl) T.n_int (by decide +kernel) (pa_cons (pe_op op_mul (pv 4) (pe_op op_add (pe_op op_fdiv (pv 4) pe_int) pe_int)) pa_nil)) pe_int))
        (pss_cons (ps_set (i := 4) sc_dw.nd rfl (.inl rfl) (pe_op op_mod (pe_callTy call_int1 (by rfl) T.n_int (by decide +kernel) (pa_cons (pe_op op_mul (pv 4) (pe_op op_add (pe_op op_fdiv (pv 4) pe_int) pe_int)) pa_nil)) pe_int))
        (pss_one (ps_ret (pe_op op_mod (pe_callTy call_int1 (by rfl) T.n_int (by decide +kernel) (pa_cons (pe_op op_fdiv (pv 4) pe_int) pa_nil)) (pv 1))))))), ?_⟩
      intro D H1 y2 y3 y4 s1 hh eD
      obtain ⟨cells, p, g, sd, qq, h1, h2, hp, hg⟩ := hh
      have h1' : H1 h = some (.lst [.ref c, .int p, .int g, .int sd, .int qq]) := h1
      refine ⟨_, rfl, h, _, 4, _, rfl, rfl, SqL.of h1', at4, _, 1, rfl, rfl, ?_⟩
      refine ⟨_, rfl, h, _, 4, 4, rfl, rfl, h1', rfl, ?_⟩
      have h3 : (upd H1 h (.lst [.ref c, .int p, .int g, .int sd, .int (qq + 1)])) h = some (.lst [.ref c, .int p, .int g, .int sd, .int (qq + 1)]) := upd_same
      have hh2 : Hand (upd H1 h (.lst [.ref c, .int p, .int g, .int sd, .int (qq + 1)])) h c := Hand.put h1 h2 hp hg
      have s2 : Sx h H (upd H1 h (.lst [.ref c, .int p, .int g, .int sd, .int (qq + 1)])) := s1.trans Sx.upd
      show tSeq _ _ D _ (upd H1 h (.lst [.ref c, .int p, .int g, .int sd, .int (qq + 1)]))
      generalize upd H1 h (.lst [.ref c, .int p, .int g, .int sd, .int (qq + 1)]) = H2 at h3 hh2 s2
      refine ⟨_, rfl, h, _, 3, _, rfl, rfl, SqL.of h3, at3, _, rfl, h, _, 4, _, rfl, rfl, SqL.of h3, at4, 7919, _, rfl, rfl, .inl ⟨by decide, by decide⟩, _, _, rfl, rfl, .inl ⟨_, rfl, _, 48271, rfl, rfl, .inr ⟨by decide, by decide⟩, .inl ⟨_, rfl, _, 2147483647, rfl, rfl, (by show (0 : Int) < 2147483647; decide), ?_⟩⟩⟩
      have bnd : ∀ a : Int, 0 ≤ a % 2147483647 ∧ a % 2147483647 < 2147483647 := fun a => ⟨Int.emod_nonneg a (by decide), Int.emod_lt_of_pos a (by decide)⟩
      have b1 := bnd ((sd + 7919 * (qq + 1)) * 48271)
      refine ⟨_, rfl, _, rfl, _, 1009, rfl, rfl, ⟨by decide, by decide⟩, _, 69621, rfl, rfl, _, _, rfl, rfl, .inl ⟨by omega, by omega⟩, .inl ⟨_, rfl, _, 2147483647, rfl, rfl, (by show (0 : Int) < 2147483647; decide), ?_⟩⟩
      generalize (sd + 7919 * (qq + 1)) * 48271 % 2147483647 = n1
      have b2 := bnd (n1 * (n1 / 1009 + 69621))
      refine ⟨_, rfl, _, rfl, _, 2003, rfl, rfl, ⟨by decide, by decide⟩, _, 40692, rfl, rfl, _, _, rfl, rfl, .inl ⟨by omega, by omega⟩, .inl ⟨_, rfl, _, 2147483399, rfl, rfl, (by show (0 : Int) < 2147483399; decide), ?_⟩⟩
      refine ⟨_, rfl, _, 16, rfl, rfl, ⟨by decide, by decide⟩, .inl ⟨_, rfl, _, rfl, _, _, rfl, rfl, (by show (0 : Int) < (m : Int); omega), ?_⟩⟩
      rw [eD]
      obtain ⟨d, e, hd⟩ := mod_nat (a := (n1 * (n1 / 1009 + 69621) % 2147483647) * ((n1 * (n1 / 1009 + 69621) % 2147483647) / 2003 + 40692) % 2147483399 / 16) hm
      show Q (.int (_ % (m : Int))) H2
      rw [e]
      exact q H2 d ⟨s2, hh2⟩ hd
    -- the middle piece: a digit of the rest
    have p2 : ∃ t, PSs (cxOf CX0 P w K mg base nDW "_law_draw" (defScope s_law_draw) f cdv A outer s H E).nox ((defBody s_law_draw).drop 1) t ∧ ∀ D H1 y2 y3 y4, Sx h H H1 → Hand H1 h c → D.rt = Q → t D [some (.ref h), some (nV m), y2, y3, y4] H1 := by
      obtain ⟨t3, g3, r3⟩ := p3
      refine ⟨_, pss_cons (ps_if (pt_cmpR op_gt (pe_ix ix_list (pv 0) pe_int (fun _ _ => rfl)) pe_int (nomark _))
        (pss_cons (ps_set (i := 3) sc_dw.nd rfl (.inl rfl) (pe_op op_mod (pe_callTy call_int1 (by rfl) T.n_int (by decide +kernel) (pa_cons (pe_ix ix_list (pv 0) pe_int (fun _ _ => rfl)) pa_nil)) (pv 1)))
        (pss_cons (ps_asg (pe_op op_fdiv (pe_ix ix_list (pv 0) pe_int (fun _ _ => rfl)) (pv 1)) (pg_sub (pv 0) pe_int set_list))
        (pss_one (ps_ret (pv 3))))) pss_nil) g3, ?_⟩
      intro D H1 y2 y3 y4 s1 hh eD
      obtain ⟨cells, p, g, sd, qq, h1, h2, hp, hg⟩ := hh
      have h1' : H1 h = some (.lst [.ref c, .int p, .int g, .int sd, .int qq]) := h1
      refine ⟨_, rfl, h, _, 2, _, rfl, rfl, SqL.of h1', at2, _, 0, rfl, rfl, _, rfl, ite2 (fun e => ?_) (fun e => ?_)⟩
      · refine ⟨_, rfl, h, _, 2, _, rfl, rfl, SqL.of h1', at2, .inl ⟨_, rfl, _, rfl, _, _, rfl, rfl, (by show (0 : Int) < (m : Int); omega), ?_⟩⟩
        refine ⟨_, rfl, h, _, 2, _, rfl, rfl, SqL.of h1', at2, _, rfl, _, _, rfl, rfl, ⟨by omega, by omega⟩, ?_⟩
        refine ⟨_, rfl, h, _, 2, 2, rfl, rfl, h1', rfl, _, rfl, ?_⟩
        obtain ⟨d, e, hd⟩ := mod_nat (a := g) hm
        show D.rt (.int (g % (m : Int))) _
        rw [eD, e]
        exact q _ d ⟨s1.trans Sx.upd, Hand.put h1 h2 hp (Int.ediv_nonneg hg (by omega))⟩ hd
      · exact r3 _ H1 y2 y3 y4 s1 ⟨cells, p, g, sd, qq, h1, h2, hp, hg⟩ eD
    obtain ⟨t2, g2, r2⟩ := p2
    refine ⟨_, pss_cons (ps_if (PW.pt (pw_and (pt_cmpR op_eq (pe_ix ix_list (pv 0) pe_int (fun _ _ => rfl)) pe_int (nomark _)) (pw_and1 (pt_cmpR op_lt (pe_ix ix_list (pv 0) pe_int (fun _ _ => rfl)) (pe_callB call_len_seq (by rfl) T.n_len PySem.boot_len (pa_cons (pe_ix ix_list (pv 0) pe_int (fun _ _ => rfl)) pa_nil)) (nomark _)))))
        (pss_cons (ps_set (i := 2) sc_dw.nd rfl (.inl rfl) (pe_ix ix_list (pe_ix ix_list (pv 0) pe_int (fun _ _ => rfl)) (pe_ix ix_list (pv 0) pe_int (fun _ _ => rfl)) (fun _ _ => rfl)))
        (pss_cons (ps_asg (pe_op op_add (pe_ix ix_list (pv 0) pe_int (fun _ _ => rfl)) pe_int) (pg_sub (pv 0) pe_int set_list))
        (pss_cons (ps_asg (pe_op op_mod (pe_callTy call_int1 (by rfl) T.n_int (by decide +kernel) (pa_cons (pe_op op_add (pe_op op_add (pe_op op_mul (pe_ix ix_list (pv 0) pe_int (fun _ _ => rfl)) pe_int) (pv 2)) pe_int) pa_nil)) pe_int) (pg_sub (pv 0) pe_int set_list))
        (pss_one (ps_if (pt_cmpR op_ge (pv 2) (pe_op op_pow pe_int pe_int) (nomark _)) (pss_one (ps_asg (pv 2) (pg_sub (pv 0) pe_int set_list))) pss_nil))))) pss_nil) g2, ?_⟩
    have hh := hH
    obtain ⟨cells, p, g, sd, qq, h1, h2, hp, hg⟩ := hH
    have h1' : H h = some (.lst [.ref c, .int p, .int g, .int sd, .int qq]) := h1
    refine ⟨_, rfl, h, _, 2, _, rfl, rfl, SqL.of h1', at2, rfl, _, rfl, ite2 (fun e => ?_) (fun e => ?_)⟩
    · refine ⟨_, rfl, h, _, 1, _, rfl, rfl, SqL.of h1', at1, _, rfl, h, _, 0, _, rfl, rfl, SqL.of h1', at0, c, _, rfl, .inl (SqL.of h2), _, _, rfl, rfl, _, rfl, ite2 (fun e2 => ?_) (fun e2 => ?_)⟩
      · have e2 := of_decide_eq_true e2
        rw [List.length_map] at e2
        have hlt : p.toNat < cells.length := by omega
        have hx : atI (cells.map V.int) p = some (.int cells[p.toNat]) := at_of (j := p.toNat) (by omega) (by rw [List.getElem?_map, List.getElem?_eq_getElem hlt] <;> rfl)
        refine ⟨_, rfl, h, _, 0, _, rfl, rfl, SqL.of h1', at0, _, rfl, h, _, 1, _, rfl, rfl, SqL.of h1', at1, c, _, p, _, rfl, rfl, SqL.of h2, hx, ?_⟩
        generalize cells[p.toNat] = cell
        refine ⟨_, rfl, h, _, 1, _, rfl, rfl, SqL.of h1', at1, _, 1, rfl, rfl, _, rfl, h, _, 1, 1, rfl, rfl, h1', rfl, ?_⟩
        have h3 : (upd H h (.lst [.ref c, .int (p + 1), .int g, .int sd, .int qq])) h = some (.lst [.ref c, .int (p + 1), .int g, .int sd, .int qq]) := upd_same
        refine ⟨_, rfl, h, _, 3, _, rfl, rfl, SqL.of h3, at3, _, 69621, rfl, rfl, .inr ⟨by decide, by decide⟩, _, rfl, _, _, rfl, rfl, _, 11, rfl, rfl, .inl ⟨_, rfl, _, 2147483629, rfl, rfl, (by show (0 : Int) < 2147483629; decide), ?_⟩⟩
        refine ⟨_, rfl, h, _, 3, 3, rfl, rfl, h3, rfl, ?_⟩
        refine ⟨_, rfl, 10, 18, rfl, rfl, ⟨by decide, by decide, by decide⟩, _, _, rfl, rfl, _, rfl, ite2 (fun e3 => ?_) (fun e3 => ?_)⟩
        · have e3 := of_decide_eq_true e3
          have hc : 0 ≤ cell := Int.le_trans (by decide) e3
          refine ⟨_, rfl, _, rfl, h, _, 2, 2, rfl, rfl, upd_same, rfl, ?_⟩
          refine r2 _ _ _ _ _ ?_ ?_ rfl
          · rw [upd_upd, upd_upd]
            exact Sx.upd
          · rw [upd_upd, upd_upd]
            exact Hand.put h1 h2 (by omega) hc
        · refine r2 _ _ _ _ _ ?_ ?_ rfl
          · rw [upd_upd]
            exact Sx.upd
          · rw [upd_upd]
            exact Hand.put h1 h2 (by omega) hg
      · exact r2 _ H _ _ _ (Sx.refl _ _) hh rfl
    · exact r2 _ H _ _ _ (Sx.refl _ _) hh rfl
end
end K83
namespace K83
open PySem PySem.Spec PyProof.Rows L2
section
variable {P : Program} {w : World} {K : PySem.W.Frag} {mg : Str → Option Value} {base : Heap} {k : Nat} {f : Addr} {fd : FuncData}
/-! ### things in a drawn order -/
def spShuf (K : PySem.W.Frag) : Sp := fun vs H Q _ => ∃ (h c a : Addr) (S : List Nat), vs = [.ref h, .ref a] ∧ SqL K H a (S.map nV) ∧ S.length ≤ 64 ∧ Hand H h c ∧ ∀ (H' : Hp) (p : Addr) (S' : List Nat), Hx h c H H' → S'.Perm S → H' p = some (.lst (S'.map nV)) → Q (.ref p) H'
theorem sc_sh : FnScope ["_law_hand_here", "_law_things", "_law_pool", "_law_found"] ["_law_hand_here", "_law_things"] (defScope s_law_shuffled) := ⟨rfl, rfl, rfl, by decide +kernel, rfl, by decide +kernel, by decide +kernel⟩
theorem erase_perm {α : Type} {l : List α} {d : Nat} {x : α} (h : l[d]? = some x) : (x :: l.eraseIdx d).Perm l := by
  induction l generalizing d with
  | nil => simp at h
  | cons a l ih =>
    cases d with
    | zero =>
      have : a = x := by simpa using h
      subst this
      exact List.Perm.refl _
    | succ d =>
      have h' : l[d]? = some x := by simpa using h
      rw [List.eraseIdx_cons_succ]
      exact (List.Perm.swap a x _).trans ((ih h').cons a)
theorem map_erase (l : List Nat) (d : Nat) : (l.map nV).eraseIdx d = (l.eraseIdx d).map nV := by
  induction l generalizing d with
  | nil => simp
  | cons a l ih => cases d with
    | zero => rfl
    | succ d => rw [List.map_cons, List.eraseIdx_cons_succ, List.eraseIdx_cons_succ, List.map_cons, ih]
theorem ok_law_shuffled (T : Top K mg) (F : Fun K "_law_shuffled" "_law_shuffled" s_law_shuffled f fd) : FnOk P w K mg base CX0 (k + 2) f fd ["_law_hand_here", "_law_things"] (spShuf K) := by
  obtain ⟨f1, fd1, F1, g1, b1⟩ := T.d_law_draw
  have G1 := ok_law_draw (P := P) (w := w) (base := base) (k := k) T F1
  refine F.ok sc_sh (fun vs H Q E h => ?_) (fun cdv A outer s H vs Q E hr h => ?_)
  · obtain ⟨_, _, _, _, rfl, _⟩ := h
    rfl
  · obtain ⟨h, c, a, S, rfl, hS, h64, hH, q⟩ := h
    refine ⟨_, pss_cons (ps_set (i := 2) sc_sh.nd rfl (.inl rfl) (pe_callTy call_list_of (by rfl) T.n_list (by decide +kernel) (pa_cons (pv 1) pa_nil)))
      (pss_cons (ps_set (i := 3) sc_sh.nd rfl (.inl rfl) (pe_lst pa_nil))
      (pss_cons (ps_while PassesOwn.never (pt_cmpR op_gt (pe_callB call_len_seq (by rfl) T.n_len PySem.boot_len (pa_cons (pv 2) pa_nil)) pe_int (nomark _))
        (pss_one (ps_expr (pe_bm PySem.F.plainAttrs_list PySem.F.slot_list_append PySem.F.type_list_append mt_append (pv 3) (pa_cons
          (pe_bm PySem.F.plainAttrs_list PySem.F.slot_list_pop PySem.F.type_list_pop mt_popAt (pv 2) (pa_cons
            (pe_call G1 hr (by rfl) g1 F1.kp b1 .nil pass0 (pa_cons (pv 0) (pa_cons (pe_callB call_len_seq (by rfl) T.n_len PySem.boot_len (pa_cons (pv 2) pa_nil)) pa_nil))) pa_nil)) pa_nil)))))
      (pss_one (ps_ret (pv 3))))), ?_⟩
    refine ⟨_, rfl, a, _, rfl, .inl hS, fun l nl => ⟨Nat.zero_le _, fun m nm => ?_⟩⟩
    have hlm : l ≠ m := ne_of_none upd_same nm
    have hl2 : (upd (upd H l (.lst (S.map nV))) m (.lst [])) l = some (.lst (S.map nV)) := by rw [upd_ne hlm, upd_same]
    have nm0 : H m = none := (same_upd nl).free nm
    have hx : Hx h c H (upd (upd H l (.lst (S.map nV))) m (.lst [])) := Hx.free hH (Hx.free hH (Hx.refl hH) nl) nm0
    refine while_by (fun σ H' => ∃ po fo, σ = [some (.ref h), some (.ref a), some (.ref l), some (.ref m)] ∧ Hx h c H H' ∧ H' l = some (.lst (po.map nV)) ∧ H' m = some (.lst (fo.map nV)) ∧ (po ++ fo).Perm S)
      (fun σ H' => match H' l with | some (.lst xs) => xs.length | _ => 0) ⟨S, [], rfl, hx, hl2, upd_same, by rw [List.append_nil]⟩ ?_ ?_
    · rintro σ H1 ⟨po, fo, rfl, x1, hl1, hm1, pm⟩
      have len : (po ++ fo).length ≤ 64 := by rw [pm.length_eq]; exact h64
      rw [List.length_append] at len
      refine ⟨_, rfl, l, _, rfl, .inl (SqL.of hl1), _, _, rfl, rfl, _, rfl, ?_⟩
      rw [List.length_map]
      refine ite2 (fun e => ?_) (fun e => ?_)
      · have e := of_decide_eq_true e
        have hpos : 0 < po.length := by omega
        refine ⟨_, rfl, .inl ⟨rfl, _, SqL.of hm1⟩, _, rfl, .inl ⟨rfl, _, SqL.of hl1⟩, _, rfl, _, rfl, l, _, rfl, .inl (SqL.of hl1), h, c, po.length, ?_, hpos, by omega, x1.2, fun H2 d x2 hd => ?_⟩
        · rw [List.length_map] <;> rfl
        obtain ⟨nh, nc⟩ := hH.ne nl
        obtain ⟨nh2, nc2⟩ := hH.ne nm0
        have hl3 := x2.keep nh.symm hl1
        have hm3 := x2.keep nh2.symm hm1
        obtain ⟨v, hv⟩ : ∃ v, po[d]? = some v := ⟨_, List.getElem?_eq_getElem hd⟩
        refine ⟨l, _, _, d, nV v, rfl, rfl, hl3, by omega, by omega, ?_, by rw [List.getElem?_map, hv] <;> rfl, ?_⟩
        · rw [List.length_map]
          exact seqIndex_of (Int.natCast_nonneg d) (by omega)
        rw [map_erase]
        refine ⟨m, _, _, rfl, rfl, by rw [upd_ne hlm.symm]; exact hm3, by rw [List.length_map]; exact small (by omega), ?_⟩
        have hml : (upd (upd H2 l (.lst ((po.eraseIdx d).map nV))) m (.lst (fo.map nV ++ [nV v]))) l = some (.lst ((po.eraseIdx d).map nV)) := by rw [upd_ne hlm, upd_same]
        refine ⟨⟨po.eraseIdx d, fo ++ [v], rfl, Hx.free hH (Hx.free hH (x1.trans x2) nl) nm0, hml, by rw [upd_same, List.map_append] <;> rfl, ?_⟩, ?_⟩
        · refine List.Perm.trans ?_ pm
          rw [← List.append_assoc]
          refine (List.perm_append_comm).trans ?_
          rw [← List.append_assoc]
          exact (erase_perm hv).append_right fo
        · rw [hml, hl1]
          show ((po.eraseIdx d).map nV).length < (po.map nV).length
          rw [List.length_map, List.length_map, List.length_eraseIdx_of_lt hd]
          omega
      · have e : po = [] := by
          cases po with
          | nil => rfl
          | cons v po => exact absurd (decide_eq_true (by rw [List.length_cons]; omega)) e
        subst e
        exact ⟨_, rfl, q H1 m fo x1 pm hm1⟩
    · rintro σ H1 Q1 Q2 hm ⟨v, e1, p, ys, e2, e3, i, j, e4, e5, b, e6, z⟩
      exact ⟨v, e1, p, ys, e2, e3, i, j, e4, e5, b, e6, hm _ _ z⟩
/-! ### a fact turned about -/
def spTurn : Sp := fun vs H Q _ => ∃ G : List Bool, vs = [.str (rS G)] ∧ G.length ≤ 64 ∧ ∀ H', Same H H' → Q (.str (rS (turn G))) H'
theorem sc_tn : FnScope ["_law_fact_here", "_law_sign"] ["_law_fact_here"] (defScope s_law_turned) := ⟨rfl, rfl, rfl, by decide +kernel, rfl, by decide +kernel, by decide +kernel⟩
theorem joinL_nil : ∀ l : List Nat, TL.joinL [] (l.map fun c => [c]) = l
  | [] => rfl
  | [_] => rfl
  | a :: b :: l => by
    have ih := joinL_nil (b :: l)
    show [a] ++ ([] ++ TL.joinL [] ((b :: l).map fun c => [c])) = _
    rw [ih] <;> rfl
/-- "".join of one sign each -/
theorem join_signs (l : List Bool) : Txt.join (("" : String) : Str) (l.map cS) = rS l := by
  have e : l.map cS = ((l.map bc).map fun c => [c]).map SX.S := by
    rw [List.map_map, List.map_map] <;> rfl
  have e0 : (("" : String) : Str) = SX.S [] := strE
  rw [e, e0, SX.join_S, joinL_nil]
theorem join_size (l : List Bool) (h : l.length ≤ 4096) : ((l.map cS).map (·.length)).sum + (l.map cS).length * (("" : String) : Str).length ≤ 16777216 := by
  have e : ((l.map cS).map (·.length)).sum = l.length := by
    clear h
    induction l with
    | nil => rfl
    | cons a l ih =>
      rw [List.map_cons, List.map_cons, List.sum_cons, ih, List.length_cons, Nat.add_comm] <;> rfl
  have e0 : (("" : String) : Str).length = 0 := by rw [strE] <;> rfl
  rw [e, e0]
  omega
theorem str10 : (("10" : String) : Str) = rS [true, false] := by decide +kernel
theorem ok_law_turned (T : Top K mg) (F : Fun K "_law_turned" "_law_turned" s_law_turned f fd) : FnOk P w K mg base CX0 (k + 1) f fd ["_law_fact_here"] spTurn := by
  refine F.ok sc_tn (fun vs H Q E h => ?_) (fun cdv A outer s H vs Q E hr h => ?_)
  · obtain ⟨_, rfl, _⟩ := h
    rfl
  · obtain ⟨G, rfl, h64, q⟩ := h
    refine ⟨_, pss_one (ps_ret (pe_join pe_str (pe_lc (own := [("_law_sign", 1)]) (g := gName 1) (tt := tYes) rfl sc_tn.nd (pi_str (pv 0)) (blkOk_by (N := ["_law_fact_here", "_law_sign"]) (sc := defScope s_law_turned) (by decide +kernel))
      (fun _ _ _ _ _ => pg_name (i := 1) sc_tn.nd rfl (Or.inl rfl)) (fun _ _ _ _ _ => pts_nil) (fun _ _ _ _ _ => pe_item_str pe_str (pe_callTy call_int_str (by rfl) T.n_int (by decide +kernel) (pa_cons (pv 1) pa_nil)) (fun _ _ => rfl))))), ?_⟩
    refine ⟨⟨_, rfl⟩, _, rfl, _, rfl, fun D nD => ?_⟩
    have hR : ∀ H' o, Same H H' → Same H (upd H' D o) := fun H' o s => sm_free s nD
    refine lc_it walk_str (LcR (Same H) D (fun i => (turn (G.take i)).map cV)) (LcR.start hR (Same.refl H) rfl) (fun _ _ _ _ => trivial) ?_ ?_
    · intro i x H1 H2 hi ⟨s1, d1⟩ ⟨e, c, hc, ex⟩
      subst e ex
      obtain ⟨b, hb, rfl⟩ := rS_get hc
      refine ⟨rfl, _, rfl, _, _, rfl, int_cS b, (by show 1 ≤ 640; decide), _, _, bc (!b), rfl, rfl, by omega, by cases b <;> decide, ?_, ?_, ?_⟩
      · rw [str10]
        cases b <;> decide
      · rw [str10]
        cases b <;> rfl
      · refine LcR.add hR s1 d1 ?_ ?_
        · unfold turn
          rw [List.take_add_one, hb, List.map_append, List.map_append] <;> rfl
        · rw [List.length_map, length_turn, List.length_take]
          exact small (by omega)
    · intro H1 ⟨s1, d1⟩
      have e : G.take (rS G).cps.size = G := List.take_of_length_le (by simp [SX.S])
      dsimp only at d1
      rw [e] at d1
      refine ⟨_, D, (turn G).map cS, rfl, rfl, .inl (SqL.of (by rw [d1, List.map_map] <;> rfl)), join_size _ (by rw [length_turn]; omega), ?_⟩
      rw [join_signs]
      exact q H1 s1
/-! ### places in another order -/
def spRen (K : PySem.W.Frag) : Sp := fun vs H Q _ => ∃ (G : List Bool) (n : Nat) (a : Addr) (order : List Nat), vs = [nV n, .str (rS G), .ref a] ∧ FactOk G n ∧ SqL K H a (order.map nV) ∧ order.Perm (List.range n) ∧ ∀ H', Same H H' → Q (.str (rS (renF G n order))) H'
theorem sc_rn : FnScope ["_law_places", "_law_fact_here", "_law_order", "_law_found", "_law_row", "_law_other", "_law_k"] ["_law_places", "_law_fact_here", "_law_order"] (defScope s_law_renamed) := ⟨rfl, rfl, rfl, by decide +kernel, rfl, by decide +kernel, by decide +kernel⟩
theorem ok_law_renamed (T : Top K mg) (F : Fun K "_law_renamed" "_law_renamed" s_law_renamed f fd) : FnOk P w K mg base CX0 (k + 2) f fd ["_law_places", "_law_fact_here", "_law_order"] (spRen K) := by
  obtain ⟨f1, fd1, F1, g1, b1⟩ := T.d_law_fitting
  have G1 := ok_law_fitting (P := P) (w := w) (base := base) (k := k) T F1
  obtain ⟨f2, fd2, F2, g2, b2⟩ := T.d_law_put
  have G2 := ok_law_put (P := P) (w := w) (mg := mg) (base := base) (k := k) F2
  obtain ⟨f3, fd3, F3, g3, b3⟩ := T.d_law_value
  have G3 := ok_law_value (P := P) (w := w) (base := base) (k := k) T F3
  refine F.ok sc_rn (fun vs H Q E h => ?_) (fun cdv A outer s H vs Q E hr h => ?_)
  · obtain ⟨_, _, _, _, rfl, _⟩ := h
    rfl
  · obtain ⟨G, n, a, order, rfl, hG, ha, hp, q⟩ := h
    have h6 := hG.six
    refine ⟨_, pss_cons (ps_set (i := 3) sc_rn.nd rfl (.inl rfl) pe_str)
      (pss_cons (ps_for PassesOwn.never rfl (pi_list (pe_call G1 hr (by rfl) g1 F1.kp b1 .nil pass0 (pa_cons (pe_op op_mulS pe_str (pv 0)) pa_nil))) (pg_name (i := 4) sc_rn.nd rfl (.inl rfl))
        (pss_cons (ps_set (i := 5) sc_rn.nd rfl (.inl rfl) (pv 4))
        (pss_cons (ps_for PassesOwn.never rfl (pi_range1 (by rfl) T.n_range (pa_cons (pv 0) pa_nil)) (pg_name (i := 6) sc_rn.nd rfl (.inl rfl))
          (pss_one (ps_set (i := 5) sc_rn.nd rfl (.inl rfl) (pe_call G2 hr (by rfl) g2 F2.kp b2 .nil pass0 (pa_cons (pv 5) (pa_cons (pe_ix ix_list (pv 2) (pv 6) (fun _ _ => rfl)) (pa_cons (pe_item_str (pv 4) (pv 6) (fun _ _ => rfl)) pa_nil)))))))
        (pss_one (ps_set (i := 3) sc_rn.nd rfl (.inl rfl) (pe_op op_add_str (pv 3) (pe_call G3 hr (by rfl) g3 F3.kp b3 .nil pass0 (pa_cons (pv 1) (pa_cons (pv 5) pa_nil)))))))))
      (pss_one (ps_ret (pv 3)))), ?_⟩
    refine ⟨_, rfl, 46, n, dotV, rfl, by omega, ?_⟩
    rw [dots_text]
    refine ⟨dots n, rfl, by rw [length_dots]; exact h6, fun H1 L s1 hL => ?_⟩
    refine ⟨L, rfl, ⟨_, SqL.of hL⟩, for_it walk_list (fun i σ' H' => (∃ y4 y5 y6, σ' = [some (nV n), some (.str (rS G)), some (.ref a), some (.str (rS (((fit (dots n)).take i).map fun r => at_ G (reord order r n)))), y4, y5, y6]) ∧ Same H1 H')
      ⟨⟨none, none, none, by rw [strE] <;> rfl⟩, Same.refl _⟩ (fun i σ' H' _ q => q.2.seq (SqL.of hL)) ?_ ?_⟩
    · rintro i x σ' H2 H3 hi ⟨⟨y4, y5, y6, rfl⟩, s2⟩ ⟨rfl, hx⟩
      rw [List.getElem?_map] at hx
      obtain ⟨r, hr', rfl⟩ := Option.map_eq_some_iff.mp hx
      have hrl : r.length = n := mem_all.mp (List.mem_of_getElem? hr')
      have hilt : i < (fit (dots n)).length := (List.getElem?_eq_some_iff.mp hr').1
      have h64 : (fit (dots n)).length ≤ 64 := by rw [length_all]; exact pow6 h6
      refine ⟨_, rfl, _, rfl, n, rfl, by omega, by omega, for_it walk_range0 (fun j σ' H' => (∃ y6, σ' = [some (nV n), some (.str (rS G)), some (.ref a), some (.str (rS (((fit (dots n)).take i).map fun r => at_ G (reord order r n)))), some (rV r), some (rV (reord order r j)), y6]) ∧ H' = H3)
        ⟨⟨_, rfl⟩, rfl⟩ (fun _ _ _ _ _ => trivial) ?_ ?_⟩
      · rintro j x σ' H4 H5 hj ⟨⟨y6, rfl⟩, rfl⟩ ⟨rfl, rfl⟩
        have hj : j < n := by simpa using hj
        have ol := ord_len hp
        have lt := ord_lt hp hj
        have ho : (order.map nV)[j]? = some (nV (order.getD j 0)) := by
          rw [List.getElem?_map, List.getElem?_eq_getElem (by omega), getD_eq (by omega)] <;> rfl
        refine ⟨_, rfl, _, rfl, _, rfl, a, _, _, nV (order.getD j 0), rfl, rfl, (s1.trans s2).seq ha, atI_nat ho, _, rfl, _, rfl, _, _, bc (r.getD j false), rfl, rfl, by omega, by omega, ?_, ?_, ?_⟩
        · rw [rS_len]
          omega
        · rw [Int.toNat_natCast]
          exact rS_item (by omega)
        refine ⟨(reord order r j).map bc, order.getD j 0, bc (r.getD j false), rfl, ?_, ?_, ?_⟩
        · rw [List.length_map, reord_length]
          omega
        · rw [List.length_map, reord_length]
          omega
        rw [set_bc]
        exact ⟨⟨_, rfl⟩, rfl⟩
      · rintro σ' H4 ⟨⟨y6, rfl⟩, rfl⟩
        rw [show ((n : Int)).toNat = n from Int.toNat_natCast n]
        refine ⟨_, rfl, _, rfl, _, rfl, G, reord order r n, n, rfl, hG.len, hG.one, h6, by rw [reord_length]; exact hrl, _, _, rfl, rfl, ?_, ?_⟩
        · rw [rS_len, List.length_map, List.length_take]
          exact Nat.le_of_lt (small (by show _ + 1 ≤ 4096; omega))
        · rw [rS_snoc]
          refine ⟨⟨some (rV r), some (rV (reord order r n)), y6, ?_⟩, s2⟩
          rw [List.take_add_one, hr', List.map_append] <;> rfl
    · rintro σ' H2 ⟨⟨y4, y5, y6, rfl⟩, s2⟩
      rw [List.length_map, List.take_length]
      exact ⟨_, rfl, q H2 (s1.trans s2)⟩
end
end K83
namespace K83
open PySem PySem.Spec PyProof.Rows L2
section
variable {P : Program} {w : World} {K : PySem.W.Frag} {mg : Str → Option Value} {base : Heap} {k : Nat} {f : Addr} {fd : FuncData}
/-! ### the fact that is a sum: the places as a list, as a tuple -/
def spLSum (SQ : PySem.W.Frag → Hp → Addr → List V → Prop) (K : PySem.W.Frag) : Sp := fun vs H Q _ => ∃ (n : Nat) (a : Addr) (S : List Nat) (c : Bool), vs = [nV n, .ref a, cV c] ∧ n ≤ 6 ∧ SQ K H a (S.map nV) ∧ (∀ p ∈ S, p < n) ∧ S.length ≤ 64 ∧ ∀ H', Same H H' → Q (.str (rS (sumF n S c))) H'
abbrev nLS : List Str := ["_law_places", "_law_chosen", "_law_sign", "_law_found", "_law_row", "_law_total", "_law_place"]
theorem sc_ls : FnScope ["_law_places", "_law_chosen", "_law_sign", "_law_found", "_law_row", "_law_total", "_law_place"] ["_law_places", "_law_chosen", "_law_sign"] (defScope s_law_sum_fact) := ⟨rfl, rfl, rfl, by decide +kernel, rfl, by decide +kernel, by decide +kernel⟩
theorem sum_count (S : List Nat) (r : List Bool) : (S.map fun p => ((r.getD p false).toNat : Int)).sum = ((S.countP fun p => r.getD p false : Nat) : Int) := by
  induction S with
  | nil => rfl
  | cons p S ih =>
    rw [List.map_cons, List.sum_cons, ih, List.countP_cons]
    cases r.getD p false <;> simp <;> omega
theorem sign_at {d : Nat} (h : d < 2) : (("01" : String) : Str).cps[((d : Nat) : Int).toNat]? = some (bc (d == 1)) := by
  rw [← gS_none]
  have : d = 0 ∨ d = 1 := by omega
  rcases this with e | e <;> subst e <;> rfl
theorem par_sign (S : List Nat) (r : List Bool) (c : Bool) : (("01" : String) : Str).cps[(((((S.countP fun p => r.getD p false) + c.toNat : Nat) : Int)) % 2).toNat]? = some (bc (par S r c)) := by
  have e : ((((S.countP fun p => r.getD p false) + c.toNat : Nat) : Int)) % 2 = ((((S.countP fun p => r.getD p false) + c.toNat) % 2 : Nat) : Int) := by omega
  rw [e]
  exact sign_at (Nat.mod_lt _ (by decide))
theorem ok_law_sum_fact_L (T : Top K mg) (F : Fun K "_law_sum_fact" "_law_sum_fact" s_law_sum_fact f fd) : FnOk P w K mg base CX0 (k + 2) f fd ["_law_places", "_law_chosen", "_law_sign"] (spLSum SqL K) := by
  obtain ⟨f1, fd1, F1, g1, b1⟩ := T.d_law_fitting
  have G1 := ok_law_fitting (P := P) (w := w) (base := base) (k := k) T F1
  refine F.ok sc_ls (fun vs H Q E h => ?_) (fun cdv A outer s H vs Q E hr h => ?_)
  · obtain ⟨_, _, _, _, rfl, _⟩ := h
    rfl
  · obtain ⟨n, a, S, c, rfl, h6, ha, hlt, hlen, q⟩ := h
    refine ⟨_, pss_cons (ps_set (i := 3) sc_ls.nd rfl (.inl rfl) pe_str)
      (pss_cons (ps_for PassesOwn.never rfl (pi_list (pe_call G1 hr (by rfl) g1 F1.kp b1 .nil pass0 (pa_cons (pe_op op_mulS pe_str (pv 0)) pa_nil))) (pg_name (i := 4) sc_ls.nd rfl (.inr rfl))
        (pss_cons (ps_set (i := 5) sc_ls.nd rfl (.inl rfl) (pe_op op_add (pe_callB (cr_sum rfl) (by rfl) T.n_sum (by decide +kernel) (pa_cons
            (pe_lc (own := [("_law_place", 6)]) (g := gName 6) (tt := tYes) rfl sc_ls.nd (pi_list (pv 1)) (blkOk_by (N := nLS) (sc := defScope s_law_sum_fact) (by decide +kernel))
              (fun _ _ _ _ _ => pg_name (i := 6) sc_ls.nd rfl (Or.inl rfl)) (fun _ _ _ _ _ => pts_nil) (fun _ _ _ _ _ => pe_callTy call_int_str (by rfl) T.n_int (by decide +kernel) (pa_cons (pe_item_str (pv 4) (pv 6) (fun _ _ => rfl)) pa_nil))) pa_nil))
            (pe_callTy call_int_str (by rfl) T.n_int (by decide +kernel) (pa_cons (pv 2) pa_nil))))
        (pss_one (ps_set (i := 3) sc_ls.nd rfl (.inl rfl) (pe_op op_add_str (pv 3) (pe_item_str pe_str (pe_op op_mod (pe_callTy call_int1 (by rfl) T.n_int (by decide +kernel) (pa_cons (pv 5) pa_nil)) pe_int) (fun _ _ => rfl)))))))
      (pss_one (ps_ret (pv 3)))), ?_⟩
    refine ⟨_, rfl, 46, n, dotV, rfl, by omega, ?_⟩
    rw [dots_text]
    refine ⟨dots n, rfl, by rw [length_dots]; exact h6, fun H1 L s1 hL => ?_⟩
    refine ⟨L, rfl, ⟨_, SqL.of hL⟩, for_it walk_list (fun i σ' H' => (∃ y4 y5, σ' = [some (nV n), some (.ref a), some (cV c), some (.str (rS (((fit (dots n)).take i).map fun r => par S r c))), y4, y5, none]) ∧ Same H1 H')
      ⟨⟨none, none, by rw [strE] <;> rfl⟩, Same.refl _⟩ (fun i σ' H' _ q => q.2.seq (SqL.of hL)) ?_ ?_⟩
    · rintro i x σ' H2 H3 hi ⟨⟨y4, y5, rfl⟩, s2⟩ ⟨rfl, hx⟩
      rw [List.getElem?_map] at hx
      obtain ⟨r, hr', rfl⟩ := Option.map_eq_some_iff.mp hx
      have hrl : r.length = n := mem_all.mp (List.mem_of_getElem? hr')
      have hilt : i < (fit (dots n)).length := (List.getElem?_eq_some_iff.mp hr').1
      have h64 : (fit (dots n)).length ≤ 64 := by rw [length_all]; exact pow6 h6
      have ha3 := Same.seq (s1.trans s2) ha
      refine ⟨_, rfl, a, rfl, ⟨_, ha3⟩, fun D nD => ?_⟩
      have hR : ∀ H' o, Same H3 H' → Same H3 (upd H' D o) := fun H' o s => sm_free s nD
      refine lc_it walk_list (LcR (Same H3) D (fun j => ((S.take j).map fun p => ((r.getD p false).toNat : Int)).map V.int)) (LcR.start hR (Same.refl H3) rfl) (fun j H' _ q => Same.seq q.1 ha3) ?_ ?_
      · intro j x H4 H5 hj ⟨s4, d4⟩ ⟨e, hx⟩
        subst e
        rw [List.getElem?_map] at hx
        obtain ⟨p, hp, rfl⟩ := Option.map_eq_some_iff.mp hx
        have hpn := hlt p (List.mem_of_getElem? hp)
        refine ⟨rfl, _, rfl, _, rfl, _, _, bc (r.getD p false), rfl, rfl, by omega, by omega, ?_, ?_, _, _, rfl, int_cS (r.getD p false), (by show 1 ≤ 640; decide), ?_⟩
        · rw [rS_len]
          omega
        · rw [Int.toNat_natCast]
          exact rS_item (by omega)
        refine LcR.add hR s4 d4 ?_ ?_
        · rw [List.take_add_one, hp, List.map_append, List.map_append] <;> rfl
        · rw [List.length_map, List.length_map, List.length_take]
          exact small (by omega)
      · intro H4 ⟨s4, d4⟩
        rw [List.length_map] at d4
        dsimp only at d4
        rw [List.take_length] at d4
        refine ⟨D, _, rfl, SqL.of d4, _, rfl, _, _, rfl, int_cS c, (by show 1 ≤ 640; decide), _, _, rfl, rfl, ?_⟩
        rw [sum_count]
        refine ⟨_, rfl, _, rfl, .inl ⟨_, rfl, _, 2, rfl, rfl, (by show (0 : Int) < 2; decide), _, _, bc (par S r c), rfl, rfl, ?_, ?_, ?_, ?_, _, _, rfl, rfl, ?_, ?_⟩⟩
        · omega
        · omega
        · rw [← gS_none]
          show _ < (2 : Int)
          omega
        · exact par_sign S r c
        · rw [rS_len, List.length_map, List.length_take]
          exact Nat.le_of_lt (small (by show _ + 1 ≤ 4096; omega))
        · rw [rS_snoc]
          refine ⟨⟨some (rV r), some (.int (((S.countP fun p => r.getD p false : Nat) : Int) + ((c.toNat : Nat) : Int))), ?_⟩, s2.trans s4⟩
          rw [List.take_add_one, hr', List.map_append] <;> rfl
    · rintro σ' H2 ⟨⟨y4, y5, rfl⟩, s2⟩
      rw [List.length_map, List.take_length]
      exact ⟨_, rfl, q H2 (s1.trans s2)⟩
theorem ok_law_sum_fact_T (T : Top K mg) (F : Fun K "_law_sum_fact" "_law_sum_fact" s_law_sum_fact f fd) : FnOk P w K mg base CX0 (k + 2) f fd ["_law_places", "_law_chosen", "_law_sign"] (spLSum SqT K) := by
  obtain ⟨f1, fd1, F1, g1, b1⟩ := T.d_law_fitting
  have G1 := ok_law_fitting (P := P) (w := w) (base := base) (k := k) T F1
  refine F.ok sc_ls (fun vs H Q E h => ?_) (fun cdv A outer s H vs Q E hr h => ?_)
  · obtain ⟨_, _, _, _, rfl, _⟩ := h
    rfl
  · obtain ⟨n, a, S, c, rfl, h6, ha, hlt, hlen, q⟩ := h
    refine ⟨_, pss_cons (ps_set (i := 3) sc_ls.nd rfl (.inl rfl) pe_str)
      (pss_cons (ps_for PassesOwn.never rfl (pi_list (pe_call G1 hr (by rfl) g1 F1.kp b1 .nil pass0 (pa_cons (pe_op op_mulS pe_str (pv 0)) pa_nil))) (pg_name (i := 4) sc_ls.nd rfl (.inr rfl))
        (pss_cons (ps_set (i := 5) sc_ls.nd rfl (.inl rfl) (pe_op op_add (pe_callB (cr_sum rfl) (by rfl) T.n_sum (by decide +kernel) (pa_cons
            (pe_lc (own := [("_law_place", 6)]) (g := gName 6) (tt := tYes) rfl sc_ls.nd (pi_tup (pv 1)) (blkOk_by (N := nLS) (sc := defScope s_law_sum_fact) (by decide +kernel))
              (fun _ _ _ _ _ => pg_name (i := 6) sc_ls.nd rfl (Or.inl rfl)) (fun _ _ _ _ _ => pts_nil) (fun _ _ _ _ _ => pe_callTy call_int_str (by rfl) T.n_int (by decide +kernel) (pa_cons (pe_item_str (pv 4) (pv 6) (fun _ _ => rfl)) pa_nil))) pa_nil))
            (pe_callTy call_int_str (by rfl) T.n_int (by decide +kernel) (pa_cons (pv 2) pa_nil))))
        (pss_one (ps_set (i := 3) sc_ls.nd rfl (.inl rfl) (pe_op op_add_str (pv 3) (pe_item_str pe_str (pe_op op_mod (pe_callTy call_int1 (by rfl) T.n_int (by decide +kernel) (pa_cons (pv 5) pa_nil)) pe_int) (fun _ _ => rfl)))))))
      (pss_one (ps_ret (pv 3)))), ?_⟩
    refine ⟨_, rfl, 46, n, dotV, rfl, by omega, ?_⟩
    rw [dots_text]
    refine ⟨dots n, rfl, by rw [length_dots]; exact h6, fun H1 L s1 hL => ?_⟩
    refine ⟨L, rfl, ⟨_, SqL.of hL⟩, for_it walk_list (fun i σ' H' => (∃ y4 y5, σ' = [some (nV n), some (.ref a), some (cV c), some (.str (rS (((fit (dots n)).take i).map fun r => par S r c))), y4, y5, none]) ∧ Same H1 H')
      ⟨⟨none, none, by rw [strE] <;> rfl⟩, Same.refl _⟩ (fun i σ' H' _ q => q.2.seq (SqL.of hL)) ?_ ?_⟩
    · rintro i x σ' H2 H3 hi ⟨⟨y4, y5, rfl⟩, s2⟩ ⟨rfl, hx⟩
      rw [List.getElem?_map] at hx
      obtain ⟨r, hr', rfl⟩ := Option.map_eq_some_iff.mp hx
      have hrl : r.length = n := mem_all.mp (List.mem_of_getElem? hr')
      have hilt : i < (fit (dots n)).length := (List.getElem?_eq_some_iff.mp hr').1
      have h64 : (fit (dots n)).length ≤ 64 := by rw [length_all]; exact pow6 h6
      have ha3 := sm_tup (s1.trans s2) ha
      refine ⟨_, rfl, a, rfl, ⟨_, ha3⟩, fun D nD => ?_⟩
      have hR : ∀ H' o, Same H3 H' → Same H3 (upd H' D o) := fun H' o s => sm_free s nD
      refine lc_it walk_tup (LcR (Same H3) D (fun j => ((S.take j).map fun p => ((r.getD p false).toNat : Int)).map V.int)) (LcR.start hR (Same.refl H3) rfl) (fun j H' _ q => sm_tup q.1 ha3) ?_ ?_
      · intro j x H4 H5 hj ⟨s4, d4⟩ ⟨e, hx⟩
        subst e
        rw [List.getElem?_map] at hx
        obtain ⟨p, hp, rfl⟩ := Option.map_eq_some_iff.mp hx
        have hpn := hlt p (List.mem_of_getElem? hp)
        refine ⟨rfl, _, rfl, _, rfl, _, _, bc (r.getD p false), rfl, rfl, by omega, by omega, ?_, ?_, _, _, rfl, int_cS (r.getD p false), (by show 1 ≤ 640; decide), ?_⟩
        · rw [rS_len]
          omega
        · rw [Int.toNat_natCast]
          exact rS_item (by omega)
        refine LcR.add hR s4 d4 ?_ ?_
        · rw [List.take_add_one, hp, List.map_append, List.map_append] <;> rfl
        · rw [List.length_map, List.length_map, List.length_take]
          exact small (by omega)
      · intro H4 ⟨s4, d4⟩
        rw [List.length_map] at d4
        dsimp only at d4
        rw [List.take_length] at d4
        refine ⟨D, _, rfl, SqL.of d4, _, rfl, _, _, rfl, int_cS c, (by show 1 ≤ 640; decide), _, _, rfl, rfl, ?_⟩
        rw [sum_count]
        refine ⟨_, rfl, _, rfl, .inl ⟨_, rfl, _, 2, rfl, rfl, (by show (0 : Int) < 2; decide), _, _, bc (par S r c), rfl, rfl, ?_, ?_, ?_, ?_, _, _, rfl, rfl, ?_, ?_⟩⟩
        · omega
        · omega
        · rw [← gS_none]
          show _ < (2 : Int)
          omega
        · exact par_sign S r c
        · rw [rS_len, List.length_map, List.length_take]
          exact Nat.le_of_lt (small (by show _ + 1 ≤ 4096; omega))
        · rw [rS_snoc]
          refine ⟨⟨some (rV r), some (.int (((S.countP fun p => r.getD p false : Nat) : Int) + ((c.toNat : Nat) : Int))), ?_⟩, s2.trans s4⟩
          rw [List.take_add_one, hr', List.map_append] <;> rfl
    · rintro σ' H2 ⟨⟨y4, y5, rfl⟩, s2⟩
      rw [List.length_map, List.take_length]
      exact ⟨_, rfl, q H2 (s1.trans s2)⟩
end
end K83
namespace K83
open PySem PySem.Spec PyProof.Rows L2
section
variable {P : Program} {w : World} {K : PySem.W.Frag} {mg : Str → Option Value} {base : Heap} {k : Nat} {f : Addr} {fd : FuncData}
/-! ### a drawn fact -/
def spFact : Sp := fun vs H Q _ => ∃ (h c : Addr) (m : Nat), vs = [.ref h, nV m] ∧ 0 < m ∧ m ≤ 6 ∧ Hand H h c ∧ ∀ (H' : Hp) (p : Addr) (n : Nat) (G : List Bool), Hx h c H H' → n ≤ m → FactOk G n → H' p = some (.tup [nV n, .str (rS G)]) → Q (.ref p) H'
abbrev nLF : List Str := ["_law_hand_here", "_law_most", "_law_places", "_law_many", "_law_way", "_law_chosen", "_law_fact_here", "_law_k", "_law_place"]
theorem sc_fc : FnScope ["_law_hand_here", "_law_most", "_law_places", "_law_many", "_law_way", "_law_chosen", "_law_fact_here", "_law_k", "_law_place"] ["_law_hand_here", "_law_most"] (defScope s_law_fact) := ⟨rfl, rfl, rfl, by decide +kernel, rfl, by decide +kernel, by decide +kernel⟩
theorem many_at {n : Nat} (h1 : 1 ≤ n) (h6 : n ≤ 6) : atI [V.int 2, .int 4, .int 8, .int 16, .int 32, .int 64] (((n : Nat) : Int) - 1) = some (nV (2 ^ n)) := by
  have : n = 1 ∨ n = 2 ∨ n = 3 ∨ n = 4 ∨ n = 5 ∨ n = 6 := by omega
  rcases this with e | e | e | e | e | e <;> subst e <;> rfl
theorem lots_length {n : Nat} {S : List Nat} (h : S ∈ lots n) : S.length ≤ n := by
  rw [lots_filter n h]
  exact filter_small _ n
theorem sumF_ok {n : Nat} (h1 : 1 ≤ n) (h6 : n ≤ 6) (S : List Nat) (c : Bool) : FactOk (sumF n S c) n := ⟨by unfold sumF; rw [List.length_map, length_all], h1, h6⟩
theorem FactOk.set {G : List Bool} {n p : Nat} {b : Bool} (h : FactOk G n) : FactOk (G.set p b) n := ⟨by rw [List.length_set]; exact h.len, h.one, h.six⟩
theorem last_at {G : List Bool} (h : G ≠ []) : atI (rS G).cps.toList (-1) = some (bc (G.getLast h)) := by
  have e : (rS G).cps.toList = G.dropLast.map bc ++ [bc (G.getLast h)] := by
    show G.map bc = _
    conv => lhs; rw [← List.dropLast_concat_getLast h]
    rw [List.map_append] <;> rfl
  rw [e]
  exact atI_last _ _
theorem z01 {d : Nat} (h : d < 2) : (0 : Int) ≤ (d : Int) ∧ (d : Int) < 2 ^ 63 ∧ (d : Int) < ((("01" : String) : Str).length : Nat) := by
  have : (("01" : String) : Str).length = 2 := by decide +kernel
  rw [this]
  omega
theorem ok_law_fact (T : Top K mg) (F : Fun K "_law_fact" "_law_fact" s_law_fact f fd) : FnOk P w K mg base CX0 (k + 3) f fd ["_law_hand_here", "_law_most"] spFact := by
  obtain ⟨f1, fd1, F1, g1, b1⟩ := T.d_law_draw
  have G1 := ok_law_draw (P := P) (w := w) (base := base) (k := k) T F1
  obtain ⟨f2, fd2, F2, g2, b2⟩ := T.d_law_put
  have G2 := ok_law_put (P := P) (w := w) (mg := mg) (base := base) (k := k) F2
  obtain ⟨f3, fd3, F3, g3, b3⟩ := T.d_law_sum_fact
  have G3 := ok_law_sum_fact_L (P := P) (w := w) (base := base) (k := k) T F3
  refine F.ok sc_fc (fun vs H Q E h => ?_) (fun cdv A outer s H vs Q E hr h => ?_)
  · obtain ⟨_, _, _, rfl, _⟩ := h
    rfl
  · obtain ⟨h, c, m, rfl, hm, hm6, hH, q⟩ := h
    have hr1 := hr.mono (show k + 1 ≤ k + 2 by omega)
    -- the fourth piece: way 3, and the end
    have p4 : ∃ t, PSs (cxOf CX0 P w K mg base nLF "_law_fact" (defScope s_law_fact) f cdv A outer s H E).nox ((defBody s_law_fact).drop 8) t ∧ ∀ D H1 (n wy : Nat) (G : List Bool) y5, Hx h c H H1 → n ≤ m → FactOk G n → D.rt = Q → t D [some (.ref h), some (nV m), some (nV n), some (nV (2 ^ n)), some (nV wy), y5, some (.str (rS G)), none, none] H1 := by
      refine ⟨_, pss_cons (ps_if (pt_cmpR op_eq (pv 4) pe_int (nomark _)) (pss_one (ps_set (i := 6) sc_fc.nd rfl (.inl rfl) (pe_call G2 hr1 (by rfl) g2 F2.kp b2 .nil pass0 (pa_cons
            (pe_call G2 hr1 (by rfl) g2 F2.kp b2 .nil pass0 (pa_cons (pv 6) (pa_cons pe_int (pa_cons (pe_ix ix_str (pv 6) (pe_un un_neg pe_int) (fun _ _ => rfl)) pa_nil))))
            (pa_cons (pe_op op_fdiv (pv 3) pe_int) (pa_cons (pe_item_str (pv 6) pe_int (fun _ _ => rfl)) pa_nil)))))) pss_nil)
        (pss_one (ps_ret (pe_tup (pa_cons (pv 2) (pa_cons (pv 6) pa_nil))))), ?_⟩
      intro D H1 n wy G y5 x1 hn hG eD
      have fin : ∀ (G' : List Bool) (H2 : Hp) (y : Option V), Hx h c H H2 → FactOk G' n → tRet (tTup (tCons (tVar 2) (tCons (tVar 6) tNil))) D [some (.ref h), some (nV m), some (nV n), some (nV (2 ^ n)), some (nV wy), y, some (.str (rS G')), none, none] H2 := by
        intro G' H2 y x2 hG'
        refine ⟨_, rfl, _, rfl, (by show 2 ≤ sizeLine; decide), fun p np => ?_⟩
        rw [eD]
        exact q _ p n G' (x2.trans (Hx.of x2.2 (same_upd np))) hn hG' upd_same
      have hpow := pow6 hG.six
      have hpos : 0 < 2 ^ n := Nat.pow_pos (by decide)
      have hne : G ≠ [] := fun z => by
        have := hG.len
        rw [z] at this
        simp at this
        omega
      refine ⟨_, rfl, rfl, _, rfl, ite2 (fun e => ?_) (fun e => ?_)⟩
      · refine ⟨_, rfl, _, rfl, 1, rfl, _, -1, _, rfl, rfl, ?_, last_at hne, ?_⟩
        · rw [rS_len, hG.len]
          exact Nat.le_of_lt (small (by omega))
        refine ⟨G.map bc, 0, bc (G.getLast hne), rfl, ?_, ?_, ?_⟩
        · rw [List.length_map, hG.len]
          omega
        · rw [List.length_map, hG.len]
          exact hpos
        rw [set_bc]
        refine ⟨_, rfl, _, 2, rfl, rfl, ⟨by decide, by decide⟩, _, rfl, _, _, bc (G.getD 0 false), rfl, rfl, by omega, by omega, ?_, rS_item (p := 0) (by rw [hG.len]; exact hpos), ?_⟩
        · rw [rS_len, hG.len]
          omega
        refine ⟨(G.set 0 (G.getLast hne)).map bc, 2 ^ n / 2, bc (G.getD 0 false), ?_, ?_, ?_, ?_⟩
        · exact congrArg (fun z => [rV _, V.int z, cV _]) (by omega)
        · rw [List.length_map, List.length_set, hG.len]
          omega
        · rw [List.length_map, List.length_set, hG.len]
          omega
        rw [set_bc]
        exact fin _ H1 _ x1 hG.set.set
      · exact fin G H1 _ x1 hG
    -- the third piece: way 2
    have p3 : ∃ t, PSs (cxOf CX0 P w K mg base nLF "_law_fact" (defScope s_law_fact) f cdv A outer s H E).nox ((defBody s_law_fact).drop 7) t ∧ ∀ D H1 (n wy : Nat) (G : List Bool) y5, Hx h c H H1 → n ≤ m → FactOk G n → D.rt = Q → t D [some (.ref h), some (nV m), some (nV n), some (nV (2 ^ n)), some (nV wy), y5, some (.str (rS G)), none, none] H1 := by
      obtain ⟨t4, g4, r4⟩ := p4
      refine ⟨_, pss_cons (ps_if (pt_cmpR op_eq (pv 4) pe_int (nomark _)) (pss_one (ps_set (i := 6) sc_fc.nd rfl (.inl rfl) (pe_call G2 hr1 (by rfl) g2 F2.kp b2 .nil pass0 (pa_cons (pv 6)
            (pa_cons (pe_call G1 hr1 (by rfl) g1 F1.kp b1 .nil pass0 (pa_cons (pv 0) (pa_cons (pv 3) pa_nil))) (pa_cons (pe_item_str pe_str (pe_call G1 hr1 (by rfl) g1 F1.kp b1 .nil pass0 (pa_cons (pv 0) (pa_cons pe_int pa_nil))) (fun _ _ => rfl)) pa_nil)))))) pss_nil) g4, ?_⟩
      intro D H1 n wy G y5 x1 hn hG eD
      have hpow := pow6 hG.six
      have hpos : 0 < 2 ^ n := Nat.pow_pos (by decide)
      refine ⟨_, rfl, rfl, _, rfl, ite2 (fun e => ?_) (fun e => ?_)⟩
      · refine ⟨_, rfl, _, rfl, _, rfl, h, c, 2 ^ n, rfl, hpos, by omega, x1.2, fun H2 p x2 hp => ?_⟩
        refine ⟨_, rfl, h, c, 2, rfl, by decide, by decide, x2.2, fun H3 d x3 hd => ?_⟩
        obtain ⟨z1, z2, z3⟩ := z01 hd
        refine ⟨_, _, bc (d == 1), rfl, rfl, z1, z2, z3, sign_at hd, G.map bc, p, bc (d == 1), rfl, ?_, ?_, ?_⟩
        · rw [List.length_map, hG.len]
          omega
        · rw [List.length_map, hG.len]
          exact hp
        rw [set_bc]
        exact r4 _ H3 n wy _ _ (x1.trans (x2.trans x3)) hn hG.set eD
      · exact r4 _ H1 n wy G _ x1 hn hG eD
    obtain ⟨t3, g3', r3⟩ := p3
    refine ⟨_, pss_cons (ps_set (i := 2) sc_fc.nd rfl (.inl rfl) (pe_op op_add pe_int (pe_call G1 hr1 (by rfl) g1 F1.kp b1 .nil pass0 (pa_cons (pv 0) (pa_cons (pv 1) pa_nil)))))
      (pss_cons (ps_set (i := 3) sc_fc.nd rfl (.inl rfl) (pe_ix ix_list (pe_lst (pa_cons pe_int (pa_cons pe_int (pa_cons pe_int (pa_cons pe_int (pa_cons pe_int (pa_cons pe_int pa_nil))))))) (pe_op op_sub (pv 2) pe_int) (fun _ _ => rfl)))
      (pss_cons (ps_set (i := 4) sc_fc.nd rfl (.inl rfl) (pe_call G1 hr1 (by rfl) g1 F1.kp b1 .nil pass0 (pa_cons (pv 0) (pa_cons pe_int pa_nil))))
      (pss_cons (ps_if (pt_cmpR op_eq (pv 4) pe_int (nomark _)) (pss_one (ps_ret (pe_tup (pa_cons (pv 2) (pa_cons (pe_join pe_str
          (pe_lc (own := [("_law_k", 7)]) (g := gName 7) (tt := tYes) rfl sc_fc.nd (pi_range1 (by rfl) T.n_range (pa_cons (pv 3) pa_nil)) (blkOk_by (N := nLF) (sc := defScope s_law_fact) (by decide +kernel))
            (fun _ _ _ _ _ => pg_name (i := 7) sc_fc.nd rfl (Or.inl rfl)) (fun _ _ _ _ _ => pts_nil) (fun _ _ _ _ _ => pe_item_str pe_str (pe_call G1 hr1 (by rfl) g1 F1.kp b1 .nil pass0 (pa_cons (pv 0) (pa_cons pe_int pa_nil))) (fun _ _ => rfl)))) pa_nil))))) pss_nil)
      (pss_cons (ps_if (pt_cmpR op_eq (pv 4) pe_int (nomark _)) (pss_one (ps_ret (pe_tup (pa_cons (pv 2) (pa_cons (pe_call G2 hr1 (by rfl) g2 F2.kp b2 .nil pass0 (pa_cons
          (pe_op op_mulS (pe_item_str pe_str (pe_call G1 hr1 (by rfl) g1 F1.kp b1 .nil pass0 (pa_cons (pv 0) (pa_cons pe_int pa_nil))) (fun _ _ => rfl)) (pv 3))
          (pa_cons (pe_call G1 hr1 (by rfl) g1 F1.kp b1 .nil pass0 (pa_cons (pv 0) (pa_cons (pv 3) pa_nil))) (pa_cons (pe_item_str pe_str (pe_call G1 hr1 (by rfl) g1 F1.kp b1 .nil pass0 (pa_cons (pv 0) (pa_cons pe_int pa_nil))) (fun _ _ => rfl)) pa_nil)))) pa_nil))))) pss_nil)
      (pss_cons (ps_setLc (i := 5) (own := [("_law_place", 8)]) (g := gName 8) rfl sc_fc.nd rfl rfl (sw_true rfl rfl rfl (by decide +kernel)) (pi_range1 (by rfl) T.n_range (pa_cons (pv 2) pa_nil)) (blkOk_by (N := nLF) (sc := defScope s_law_fact) (by decide +kernel))
          (fun _ _ _ _ _ => pg_name (i := 8) sc_fc.nd rfl (Or.inl rfl)) (fun _ _ _ _ _ => pts_one (pt_cmpR op_gt (pe_call G1 hr1 (by rfl) g1 F1.kp b1 .nil pass0 (pa_cons (pv 0) (pa_cons pe_int pa_nil))) pe_int (nomark _))) (fun _ _ _ _ _ => pv 8))
      (pss_cons (ps_set (i := 6) sc_fc.nd rfl (.inl rfl) (pe_call G3 hr (by rfl) g3 F3.kp b3 .nil pass0 (pa_cons (pv 2) (pa_cons (pv 5) (pa_cons (pe_item_str pe_str (pe_call G1 hr1 (by rfl) g1 F1.kp b1 .nil pass0 (pa_cons (pv 0) (pa_cons pe_int pa_nil))) (fun _ _ => rfl)) pa_nil)))))
      g3')))))), ?_⟩
    refine ⟨_, rfl, _, rfl, h, c, m, rfl, hm, by omega, hH, fun H1 dn x1 hd => ⟨1, _, rfl, rfl, ?_⟩⟩
    let n : Nat := 1 + dn
    have hn1 : 1 ≤ n := Nat.le_add_right 1 dn
    have hn6 : n ≤ 6 := by
      show 1 + dn ≤ 6
      omega
    have hnm : n ≤ m := by
      show 1 + dn ≤ m
      omega
    have hpow := pow6 hn6
    have hpos : 0 < 2 ^ n := Nat.pow_pos (by decide)
    refine ⟨(by show 6 ≤ sizeLine; decide), fun l nl => ?_⟩
    have x2 : Hx h c H (upd H1 l (.lst [.int 2, .int 4, .int 8, .int 16, .int 32, .int 64])) := x1.trans (Hx.of x1.2 (same_upd nl))
    refine ⟨_, rfl, _, 1, rfl, rfl, l, _, _, _, rfl, rfl, SqL.of upd_same, many_at hn1 hn6, ?_⟩
    generalize upd H1 l (.lst [.int 2, .int 4, .int 8, .int 16, .int 32, .int 64]) = H2 at x2
    refine ⟨_, rfl, h, c, 5, rfl, by decide, by decide, x2.2, fun H3 wy x3 hwy => ?_⟩
    have x03 := x2.trans x3
    refine ⟨_, rfl, rfl, _, rfl, ite2 (fun e => ?_) (fun e => ?_)⟩
    · -- any fact
      refine ⟨_, rfl, ⟨_, rfl⟩, _, rfl, ((2 ^ n : Nat) : Int), rfl, by omega, by omega, fun D nD => ?_⟩
      obtain ⟨nh, nc⟩ := x03.2.ne nD
      refine lc_it walk_range0 (fun i H' => Hx h c H3 H' ∧ ∃ l : List Bool, l.length = i ∧ H' D = some (.lst (l.map cV))) ⟨Hx.of x03.2 (same_upd nD), [], rfl, upd_same⟩ (fun _ _ _ _ => trivial) ?_ ?_
      · rintro i x H4 H5 hi ⟨x4, l, hl, d4⟩ ⟨rfl, rfl⟩
        have hi : i < 2 ^ n := by rw [Int.toNat_natCast] at hi; exact hi
        refine ⟨rfl, _, rfl, h, c, 2, rfl, by decide, by decide, x4.2, fun H6 d x6 hd => ?_⟩
        obtain ⟨z1, z2, z3⟩ := z01 hd
        have d6 := x6.keep nh.symm d4
        refine ⟨_, _, bc (d == 1), rfl, rfl, z1, z2, z3, sign_at hd, _, d6, ?_, ?_, l ++ [d == 1], ?_, ?_⟩
        · rw [List.length_map]
          exact small (by omega)
        · exact Hx.free x03.2 (x4.trans x6) nD
        · rw [List.length_append, hl] <;> rfl
        · rw [upd_same, List.map_append] <;> rfl
      · rintro H4 ⟨x4, l, hl, d4⟩
        have hl : l.length = 2 ^ n := by rw [Int.toNat_natCast] at hl; exact hl
        refine ⟨_, D, l.map cS, rfl, rfl, .inl (SqL.of (by rw [d4, List.map_map] <;> rfl)), join_size _ (by omega), ?_⟩
        rw [join_signs]
        refine ⟨(by show 2 ≤ sizeLine; decide), fun p np => ?_⟩
        exact q _ p n l ((x03.trans x4).trans (Hx.of x4.2 (same_upd np))) hnm ⟨hl, hn1, hn6⟩ upd_same
    refine ⟨_, rfl, rfl, _, rfl, ite2 (fun e => ?_) (fun e => ?_)⟩
    · -- one row alone
      refine ⟨_, rfl, _, rfl, h, c, 2, rfl, by decide, by decide, x03.2, fun H4 d x4 hd => ?_⟩
      obtain ⟨z1, z2, z3⟩ := z01 hd
      refine ⟨_, _, bc (d == 1), rfl, rfl, z1, z2, z3, sign_at hd, _, rfl, bc (d == 1), 2 ^ n, rfl, rfl, by omega, ?_⟩
      refine ⟨_, rfl, _, rfl, h, c, 2 ^ n, rfl, hpos, by omega, x4.2, fun H5 p x5 hp => ?_⟩
      refine ⟨_, rfl, h, c, 2, rfl, by decide, by decide, x5.2, fun H6 d2 x6 hd2 => ?_⟩
      obtain ⟨y1, y2, y3⟩ := z01 hd2
      refine ⟨_, _, bc (d2 == 1), rfl, rfl, y1, y2, y3, sign_at hd2, (List.replicate (2 ^ n) (d == 1)).map bc, p, bc (d2 == 1), ?_, ?_, ?_, ?_⟩
      · rw [List.map_replicate] <;> rfl
      · rw [List.length_map, List.length_replicate]
        omega
      · rw [List.length_map, List.length_replicate]
        exact hp
      rw [set_bc]
      refine ⟨(by show 2 ≤ sizeLine; decide), fun r nr => ?_⟩
      refine q _ r n _ ((x03.trans (x4.trans (x5.trans x6))).trans (Hx.of x6.2 (same_upd nr))) hnm ?_ upd_same
      exact FactOk.set ⟨List.length_replicate, hn1, hn6⟩
    · -- a sum of places
      refine ⟨_, rfl, n, rfl, by omega, by omega, fun D nD => ?_⟩
      obtain ⟨nh, nc⟩ := x03.2.ne nD
      refine lc_it walk_range0 (fun i H' => Hx h c H3 H' ∧ ∃ S : List Nat, S ∈ lots i ∧ H' D = some (.lst (S.map nV))) ⟨Hx.of x03.2 (same_upd nD), [], by simp [lots], upd_same⟩ (fun _ _ _ _ => trivial) ?_ ?_
      · rintro i x H4 H5 hi ⟨x4, S, hS, d4⟩ ⟨rfl, rfl⟩
        have hi : i < n := by simpa using hi
        have hSl := lots_length hS
        refine ⟨rfl, _, rfl, h, c, 3, rfl, by decide, by decide, x4.2, fun H6 d x6 hd => ?_⟩
        have d6 := x6.keep nh.symm d4
        refine ⟨_, _, rfl, rfl, _, rfl, ite2 (fun e => ?_) (fun e => ?_)⟩
        · refine ⟨_, rfl, _, d6, ?_, Hx.free x03.2 (x4.trans x6) nD, S ++ [i], ?_, ?_⟩
          · rw [List.length_map]
            exact small (by omega)
          · exact List.mem_append_right _ (List.mem_map.mpr ⟨S, hS, rfl⟩)
          · rw [upd_same, List.map_append] <;> rfl
        · exact ⟨x4.trans x6, S, List.mem_append_left _ hS, d6⟩
      · rintro H4 ⟨x4, S, hS, d4⟩
        have hS : S ∈ lots n := by simpa using hS
        have hSl := lots_length hS
        have x04 := x03.trans x4
        refine ⟨_, rfl, _, rfl, _, rfl, h, c, 2, rfl, by decide, by decide, x04.2, fun H5 d x5 hd => ?_⟩
        obtain ⟨z1, z2, z3⟩ := z01 hd
        have d5 := x5.keep nh.symm d4
        refine ⟨_, _, bc (d == 1), rfl, rfl, z1, z2, z3, sign_at hd, n, D, S, d == 1, rfl, hn6, SqL.of d5, fun p hp => lots_lt hS hp, by omega, fun H6 s6 => ?_⟩
        exact r3 _ H6 n wy (sumF n S (d == 1)) _ ((x04.trans x5).trans (Hx.of x5.2 s6)) hnm (sumF_ok hn1 hn6 S _) rfl
end
end K83
namespace K83
open PySem PySem.Spec PyProof.Rows L2
section
variable {P : Program} {w : World} {K : PySem.W.Frag} {mg : Str → Option Value} {base : Heap} {k : Nat} {f : Addr} {fd : FuncData}
/-! ### all sums that a fact is -/
abbrev TupsAt (H : Hp) (ts : List Addr) (L : List (List Nat)) : Prop := Paired (fun t S => H t = some (.tup (S.map nV))) ts L
/-- (places, sign) at the addresses ps -/
abbrev SumsAt (H : Hp) (ps : List Addr) (L : List (List Nat × Bool)) : Prop := Paired (fun p q => ∃ t, H p = some (.tup [.ref t, cV q.2]) ∧ H t = some (.tup (q.1.map nV))) ps L
theorem Paired.snoc {α β : Type} {R : α → β → Prop} {a : α} {b : β} (h : R a b) : ∀ {xs : List α} {ys : List β}, Paired R xs ys → Paired R (xs ++ [a]) (ys ++ [b])
  | _, _, .nil => .cons h .nil
  | _, _, .cons g r => .cons g (Paired.snoc h r)
theorem Paired.app {α β : Type} {R : α → β → Prop} : ∀ {xs xs' : List α} {ys ys' : List β}, Paired R xs ys → Paired R xs' ys' → Paired R (xs ++ xs') (ys ++ ys')
  | _, _, _, _, .nil, h => h
  | _, _, _, _, .cons g r, h => .cons g (Paired.app r h)
theorem Paired.at {α β : Type} {R : α → β → Prop} : ∀ {xs : List α} {ys : List β} {j : Nat} {a : α}, Paired R xs ys → xs[j]? = some a → ∃ b, ys[j]? = some b ∧ R a b
  | _, _, _, _, .nil, h => by simp at h
  | _, _, 0, _, .cons h _, e => by
    cases (show some _ = some _ from e)
    exact ⟨_, rfl, h⟩
  | _, _, j + 1, _, .cons _ r, e => Paired.at (j := j) r e
theorem TupsAt.mono {H H' : Hp} (s : ∀ (b : Addr) (zs : List V), H b = some (.tup zs) → H' b = some (.tup zs)) {ts : List Addr} {L : List (List Nat)} (h : TupsAt H ts L) : TupsAt H' ts L := L2.Paired.mapP h fun _ _ e => s _ _ e
theorem SumsAt.mono {H H' : Hp} (s : ∀ (b : Addr) (zs : List V), H b = some (.tup zs) → H' b = some (.tup zs)) {ts : List Addr} {L : List (List Nat × Bool)} (h : SumsAt H ts L) : SumsAt H' ts L := L2.Paired.mapP h fun _ _ ⟨t, e1, e2⟩ => ⟨t, s _ _ e1, s _ _ e2⟩
theorem TupsAt.same {H H' : Hp} (s : Same H H') {ts : List Addr} {L : List (List Nat)} (h : TupsAt H ts L) : TupsAt H' ts L := L2.Paired.mapP h fun _ _ e => s _ _ e
theorem SumsAt.same {H H' : Hp} (s : Same H H') {ts : List Addr} {L : List (List Nat × Bool)} (h : SumsAt H ts L) : SumsAt H' ts L := L2.Paired.mapP h fun _ _ ⟨t, e1, e2⟩ => ⟨t, s _ _ e1, s _ _ e2⟩
/-- what one lot adds -/
def sumsOf (F : List Bool) (n : Nat) (S : List Nat) : List (List Nat × Bool) := ([false, true].filter fun c => decide (sumF n S c = F)).map fun c => (S, c)
def spSums : Sp := fun vs H Q _ => ∃ (G : List Bool) (n : Nat), vs = [nV n, .str (rS G)] ∧ FactOk G n ∧ ∀ (H' : Hp) (p : Addr) (ps : List Addr), Same H H' → H' p = some (.lst (ps.map V.ref)) → SumsAt H' ps (sumsL G n) → Q (.ref p) H'
abbrev nSU : List Str := ["_law_places", "_law_fact_here", "_law_lots", "_law_place", "_law_found", "_law_lot", "_law_told", "_law_sign"]
theorem sc_sm : FnScope ["_law_places", "_law_fact_here", "_law_lots", "_law_place", "_law_found", "_law_lot", "_law_told", "_law_sign"] ["_law_places", "_law_fact_here"] (defScope s_law_sums) := ⟨rfl, rfl, rfl, by decide +kernel, rfl, by decide +kernel, by decide +kernel⟩
theorem sumF_eq (n : Nat) (S : List Nat) (c : Bool) (G : List Bool) : decide (rV (sumF n S c) = rV G) = decide (sumF n S c = G) := by
  by_cases e : sumF n S c = G
  · rw [e, decide_eq_true rfl, decide_eq_true rfl]
  · rw [decide_eq_false e, decide_eq_false fun z => e (rS_inj (V.str.inj z))]
theorem filter2 (g : Bool → Bool) {j : Nat} {b : Bool} (h : ([false, true] : List Bool)[j]? = some b) : (([false, true] : List Bool).take (j + 1)).filter g = (([false, true] : List Bool).take j).filter g ++ if g b = true then [b] else [] := by
  rw [List.take_add_one, h, List.filter_append]
  congr 1
  show [b].filter g = _
  cases e : g b
  · rw [List.filter_cons_of_neg (by rw [e]; decide)] <;> rfl
  · rw [List.filter_cons_of_pos e] <;> rfl
theorem ok_law_sums (T : Top K mg) (F : Fun K "_law_sums" "_law_sums" s_law_sums f fd) : FnOk P w K mg base CX0 (k + 3) f fd ["_law_places", "_law_fact_here"] spSums := by
  obtain ⟨f1, fd1, F1, g1, b1⟩ := T.d_law_sum_fact
  have G1 := ok_law_sum_fact_T (P := P) (w := w) (base := base) (k := k) T F1
  refine F.ok sc_sm (fun vs H Q E h => ?_) (fun cdv A outer s H vs Q E hr h => ?_)
  · obtain ⟨_, _, rfl, _⟩ := h
    rfl
  · obtain ⟨G, n, rfl, hG, q⟩ := h
    have h6 := hG.six
    refine ⟨_, pss_cons (ps_set (i := 2) sc_sm.nd rfl (.inl rfl) (pe_lst (pa_cons (pe_tup pa_nil) pa_nil)))
      (pss_cons (ps_for PassesOwn.never rfl (pi_range1 (by rfl) T.n_range (pa_cons (pv 0) pa_nil)) (pg_name (i := 3) sc_sm.nd rfl (.inr rfl))
        (pss_one (ps_set (i := 2) sc_sm.nd rfl (.inl rfl) (pe_op op_cat (pv 2)
          (pe_lc (own := [("_law_told", 6)]) (g := gName 6) (tt := tYes) (te := tOp (rCatA K) (tVar 6) (tTup (tCons (tVar 3) tNil))) rfl sc_sm.nd (pi_list (pv 2)) (blkOk_by (N := nSU) (sc := defScope s_law_sums) (by decide +kernel))
            (fun _ _ _ _ _ => pg_name (i := 6) sc_sm.nd rfl (Or.inl rfl)) (fun _ _ _ _ _ => pts_nil) (fun _ _ _ _ _ => pe_op op_catA (pv 6) (pe_tup (pa_cons (pv 3) pa_nil))))))))
      (pss_cons (ps_set (i := 4) sc_sm.nd rfl (.inl rfl) (pe_lst pa_nil))
      (pss_cons (ps_for PassesOwn.never rfl (pi_list (pv 2)) (pg_name (i := 5) sc_sm.nd rfl (.inr rfl))
        (pss_one (ps_expr (pe_bm PySem.F.plainAttrs_list PySem.F.slot_list_extend PySem.F.type_list_extend mt_extend (pv 4) (pa_cons
          (pe_lc (own := [("_law_sign", 7)]) (g := gName 7) rfl sc_sm.nd (pi_str pe_str) (blkOk_by (N := nSU) (sc := defScope s_law_sums) (by decide +kernel))
            (fun _ _ _ _ _ => pg_name (i := 7) sc_sm.nd rfl (Or.inl rfl)) (fun _ _ _ _ _ => pts_one (pt_cmpR op_eq (pe_call G1 hr (by rfl) g1 F1.kp b1 .nil pass0 (pa_cons (pv 0) (pa_cons (pv 5) (pa_cons (pv 7) pa_nil)))) (pv 1) (nomark _)))
            (fun _ _ _ _ _ => pe_tup (pa_cons (pv 5) (pa_cons (pv 7) pa_nil)))) pa_nil)))))
      (pss_one (ps_ret (pv 4)))))), ?_⟩
    refine ⟨Nat.zero_le _, fun t0 n0 => ⟨(by show 1 ≤ sizeLine; decide), fun l0 nl0 => ?_⟩⟩
    have s0 : Same H (upd (upd H t0 (.tup [])) l0 (.lst [.ref t0])) := (same_upd n0).trans (same_upd nl0)
    have ht0 : (upd (upd H t0 (.tup [])) l0 (.lst [.ref t0])) t0 = some (.tup []) := same_upd nl0 _ _ upd_same
    refine ⟨_, rfl, n, rfl, by omega, by omega, for_it walk_range0 (fun i σ' H' => (∃ l y3, σ' = [some (nV n), some (.str (rS G)), some (.ref l), y3, none, none, none, none] ∧ ∃ ts : List Addr, H' l = some (.lst (ts.map V.ref)) ∧ TupsAt H' ts (lots i)) ∧ Same H H')
      ⟨⟨l0, none, rfl, [t0], upd_same, .cons ht0 .nil⟩, s0⟩ (fun _ _ _ _ _ => trivial) ?_ ?_⟩
    · rintro i x σ' H1 H2 hi ⟨⟨l, y3, rfl, ts, hl, hts⟩, s1⟩ ⟨rfl, rfl⟩
      have hi : i < n := by rw [Int.toNat_natCast] at hi; exact hi
      have tl : ts.length = (lots i).length := Paired.length hts
      have ll : (lots i).length ≤ 64 := by rw [lots_len]; exact pow6 (by omega)
      refine ⟨_, rfl, _, rfl, l, rfl, ⟨_, SqL.of hl⟩, fun D nD => ?_⟩
      refine lc_it walk_list (fun j H' => Same H2 H' ∧ ∃ us : List Addr, H' D = some (.lst (us.map V.ref)) ∧ TupsAt H' us (((lots i).take j).map fun S => S ++ [i])) ⟨same_upd nD, [], upd_same, .nil⟩ (fun j H' _ q => q.1.seq (SqL.of hl)) ?_ ?_
      · intro j x H3 H4 hj ⟨s3, us, d3, hus⟩ ⟨e, hx⟩
        subst e
        rw [List.getElem?_map] at hx
        obtain ⟨t, ht, rfl⟩ := Option.map_eq_some_iff.mp hx
        obtain ⟨S, hS, htS⟩ := Paired.at hts ht
        have htS4 := s3 _ _ htS
        have ul : us.length ≤ 64 := by
          have := Paired.length hus
          rw [List.length_map, List.length_take] at this
          omega
        have fin : ∀ (v : Addr) (H5 : Hp), Same H4 H5 → H5 v = some (.tup ((S ++ [i]).map nV)) → ∃ acc, H5 D = some (.lst acc) ∧ acc.length < sizeLine ∧ (Same H2 (upd H5 D (.lst (acc ++ [.ref v]))) ∧ ∃ us : List Addr, (upd H5 D (.lst (acc ++ [.ref v]))) D = some (.lst (us.map V.ref)) ∧ TupsAt (upd H5 D (.lst (acc ++ [.ref v]))) us (((lots i).take (j + 1)).map fun S => S ++ [i])) := by
          intro v H5 s5 hv
          have d5 := s5 _ _ d3
          have keep : ∀ (b : Addr) (zs : List V) (o : HO), H5 b = some (.tup zs) → (upd H5 D o) b = some (.tup zs) := fun b zs o hb => by
            rw [upd_ne (ne_of hb d5 (by intro z; cases z))]
            exact hb
          refine ⟨_, d5, by rw [List.length_map]; exact small (by omega), sm_free (s3.trans s5) nD, us ++ [v], by rw [upd_same, List.map_append] <;> rfl, ?_⟩
          rw [List.take_add_one, hS, List.map_append]
          exact Paired.snoc (R := fun (t : Addr) (S : List Nat) => (upd H5 D (.lst (us.map V.ref ++ [.ref v]))) t = some (.tup (S.map nV))) (keep _ _ _ hv) (TupsAt.mono (H' := upd H5 D (.lst (us.map V.ref ++ [.ref v]))) (fun b zs hb => keep b zs _ (s5 _ _ hb)) hus)
        refine ⟨rfl, _, rfl, _, rfl, (by show 1 ≤ sizeLine; decide), fun u nu => ?_⟩
        have su := same_upd (o := .tup [nV i]) nu
        refine ⟨t, u, _, _, rfl, rfl, SqT.of (su _ _ htS4), SqT.of upd_same, ?_, fun e0 => ?_, fun _ e0 => absurd e0 (by simp), fun _ _ v nv => ?_⟩
        · rw [List.length_map]
          have hSl := lots_length (List.mem_of_getElem? hS)
          exact Nat.le_of_lt (small (by show S.length + 1 ≤ 4096; omega))
        · have e0 : S = [] := by simpa using e0
          refine fin u _ su ?_
          rw [upd_same, e0] <;> rfl
        · refine fin v _ (su.trans (same_upd nv)) ?_
          rw [upd_same, List.map_append] <;> rfl
      · rintro H3 ⟨s3, us, d3, hus⟩
        rw [List.length_map, tl, List.take_length] at hus
        have hl3 := s3 _ _ hl
        have ul := Paired.length hus
        rw [List.length_map] at ul
        refine ⟨l, D, _, _, rfl, rfl, hl3, d3, ?_, fun r nr => ?_⟩
        · rw [List.length_map, List.length_map]
          exact Nat.le_of_lt (small (by omega))
        · have s4 := same_upd (o := .lst (ts.map V.ref ++ us.map V.ref)) nr
          refine ⟨⟨r, _, rfl, ts ++ us, by rw [upd_same, List.map_append], ?_⟩, s1.trans (s3.trans s4)⟩
          exact Paired.app (TupsAt.same (s3.trans s4) hts) (TupsAt.same s4 hus)
    · rintro σ' H1 ⟨⟨l, y3, rfl, ts, hl, hts⟩, s1⟩
      rw [Int.toNat_natCast] at hts
      have ll : (lots n).length ≤ 64 := by rw [lots_len]; exact pow6 h6
      have tl : ts.length = (lots n).length := Paired.length hts
      refine ⟨Nat.zero_le _, fun m nm => ?_⟩
      have hlm : l ≠ m := ne_of_none hl nm
      refine ⟨_, rfl, l, rfl, ⟨_, SqL.of (same_upd nm _ _ hl)⟩, for_it walk_list (fun i σ' H' => (∃ y5, σ' = [some (nV n), some (.str (rS G)), some (.ref l), y3, some (.ref m), y5, none, none]) ∧ Same H1 H' ∧ ∃ ps : List Addr, H' m = some (.lst (ps.map V.ref)) ∧ SumsAt H' ps (((lots n).take i).flatMap (sumsOf G n)) ∧ ps.length ≤ 2 * i)
        ⟨⟨_, rfl⟩, same_upd nm, [], upd_same, .nil, Nat.le_refl _⟩ (fun i σ' H' _ q => q.2.1.seq (SqL.of hl)) ?_ ?_⟩
      · rintro i x σ' H2 H3 hi ⟨⟨y5, rfl⟩, s2, ps, hm, hps, hpl⟩ ⟨rfl, hx⟩
        rw [List.getElem?_map] at hx
        obtain ⟨t, ht, rfl⟩ := Option.map_eq_some_iff.mp hx
        obtain ⟨S, hS, htS⟩ := Paired.at hts ht
        have hilt : i < (lots n).length := (List.getElem?_eq_some_iff.mp hS).1
        have hSm := List.mem_of_getElem? hS
        have hSl := lots_length hSm
        have htS3 := s2 _ _ htS
        refine ⟨_, rfl, .inl ⟨rfl, _, SqL.of hm⟩, _, rfl, fun D nD => ?_⟩
        have e01 : (("01" : String) : Str).cps.size = 2 := by rw [← gS_none] <;> rfl
        refine lc_it walk_str (fun j H' => Same H3 H' ∧ ∃ us : List Addr, H' D = some (.lst (us.map V.ref)) ∧ SumsAt H' us (((([false, true] : List Bool).take j).filter fun c => decide (sumF n S c = G)).map fun c => (S, c)) ∧ us.length ≤ j) ⟨same_upd nD, [], upd_same, .nil, Nat.le_refl _⟩ (fun _ _ _ _ => trivial) ?_ ?_
        · intro j x H4 H5 hj ⟨s4, us, d4, hus, hul⟩ ⟨e, c, hc, ex⟩
          subst e ex
          rw [e01] at hj
          rw [← gS_none] at hc
          obtain ⟨b, hb, rfl⟩ := rS_get hc
          have hb' : ([false, true] : List Bool)[j]? = some b := hb
          refine ⟨rfl, ?_⟩
          refine ⟨_, rfl, _, rfl, _, rfl, n, t, S, b, rfl, h6, SqT.of (s4 _ _ htS3), fun p hp => lots_lt hSm hp, by omega, fun H6 s6 => ?_⟩
          refine ⟨_, rfl, rfl, _, rfl, ?_⟩
          rw [sumF_eq]
          refine ite2 (fun e => ?_) (fun e => ?_)
          · refine ⟨_, rfl, _, rfl, (by show 2 ≤ sizeLine; decide), fun p np => ?_⟩
            have s7 := same_upd (o := .tup [.ref t, cV b]) np
            have d7 := s7 _ _ (s6 _ _ d4)
            have keep : ∀ (a : Addr) (zs : List V) (o : HO), (upd H6 p (.tup [.ref t, cV b])) a = some (.tup zs) → (upd (upd H6 p (.tup [.ref t, cV b])) D o) a = some (.tup zs) := fun a zs o ha => by
              rw [upd_ne (ne_of ha d7 (by intro z; cases z))]
              exact ha
            refine ⟨_, d7, by rw [List.length_map]; exact small (by omega), sm_free (s4.trans (s6.trans s7)) nD, us ++ [p], by rw [upd_same, List.map_append] <;> rfl, ?_, ?_⟩
            · rw [filter2 _ hb', if_pos e, List.map_append]
              refine Paired.snoc ⟨t, keep _ _ _ upd_same, keep _ _ _ (s7 _ _ (s6 _ _ (s4 _ _ htS3)))⟩ (SumsAt.mono (fun a zs h => keep a zs _ (s7 _ _ (s6 _ _ h))) hus)
            · rw [List.length_append] <;> exact Nat.succ_le_succ hul
          · refine ⟨s4.trans s6, us, s6 _ _ d4, ?_, Nat.le_succ_of_le hul⟩
            rw [filter2 _ hb', if_neg e, List.append_nil]
            exact SumsAt.same s6 hus
        · rintro H4 ⟨s4, us, d4, hus, hul⟩
          rw [e01] at hus hul
          have hm4 := s4 _ _ hm
          refine ⟨m, D, _, _, rfl, rfl, hm4, d4, ?_, ?_⟩
          · rw [List.length_map, List.length_map]
            exact Nat.le_of_lt (small (by omega))
          · have keep : ∀ (a : Addr) (zs : List V) (o : HO), H4 a = some (.tup zs) → (upd H4 m o) a = some (.tup zs) := fun a zs o ha => by
              rw [upd_ne (ne_of ha hm4 (by intro z; cases z))]
              exact ha
            refine ⟨⟨_, rfl⟩, sm_free (s2.trans s4) nm, ps ++ us, by rw [upd_same, List.map_append], ?_, ?_⟩
            · rw [take_flat hS]
              refine Paired.app (SumsAt.mono (fun a zs h => keep a zs _ (s4 _ _ h)) hps) (SumsAt.mono (fun a zs h => keep a zs _ h) hus)
            · rw [List.length_append]
              omega
      · rintro σ' H2 ⟨⟨y5, rfl⟩, s2, ps, hm, hps, hpl⟩
        rw [List.length_map, tl, List.take_length] at hps
        exact ⟨_, rfl, q H2 m ps (s1.trans s2) hm hps⟩
/-! ### two rows with unlike numbers -/
def spIsU : Sp := fun vs H Q _ => ∃ (p d : Addr) (a b : List Bool) (kvs : List (Key × V)) (pa pb : Addr) (qa qb : Nat × Nat), vs = [.ref p, .ref d] ∧ H p = some (.tup [rV a, rV b]) ∧ H d = some (.dK kvs) ∧ valV kvs (Sum.inr (rS a)) = some (.ref pa) ∧ valV kvs (Sum.inr (rS b)) = some (.ref pb) ∧ H pa = some (tV qa) ∧ H pb = some (tV qb) ∧
  (∃ x y : Nat, x ∈ [qa.1, qa.2, qb.1, qb.2] ∧ y ∈ [qa.1, qa.2, qb.1, qb.2] ∧ x ≠ y) ∧ ∀ H', Same H H' → Q (.bl true) H'
theorem sc_iu : FnScope ["_law_told", "_law_dues"] ["_law_told", "_law_dues"] (defScope s_law_is_unlike) := ⟨rfl, rfl, rfl, by decide +kernel, rfl, by decide +kernel, by decide +kernel⟩
theorem ok_law_is_unlike (T : Top K mg) (F : Fun K "_law_is_unlike" "_law_is_unlike" s_law_is_unlike f fd) : FnOk P w K mg base CX0 (k + 1) f fd ["_law_told", "_law_dues"] spIsU := by
  refine F.ok sc_iu (fun vs H Q E h => ?_) (fun cdv A outer s H vs Q E hr h => ?_)
  · obtain ⟨_, _, _, _, _, _, _, _, _, rfl, _⟩ := h
    rfl
  · obtain ⟨p, d, a, b, kvs, pa, pb, qa, qb, rfl, hp, hd, va, vb, ha, hb, hun, q⟩ := h
    have hu := hu_of hr
    have da : DGet H d (rV a) (some (.ref pa)) := by
      have z := DGet.k (k := Sum.inr (rS a)) hd
      rw [va] at z
      exact z
    have db : DGet H d (rV b) (some (.ref pb)) := by
      have z := DGet.k (k := Sum.inr (rS b)) hd
      rw [vb] at z
      exact z
    refine ⟨_, pss_cons (ps_if (PW.pt (pw_or (pt_not (pt_val (pe_callB RZ.call_isTy (by rfl) T.n_isinstance (by decide +kernel) (pa_cons (pv 0) (pa_cons (pe_bltn (v := .ty "tuple") (by rfl) T.n_tuple (by decide +kernel) rfl) pa_nil)))))
          (pw_or (pt_cmpR op_ne (pe_callB call_len_seq (by rfl) T.n_len PySem.boot_len (pa_cons (pv 0) pa_nil)) pe_int (nomark _))
          (pw_or (pt_cmp (pc_dnotin hu (pe_ix ix_tup (pv 0) pe_int (fun _ _ => rfl)) (pv 1)))
          (pw_or1 (pt_cmp (pc_dnotin hu (pe_ix ix_tup (pv 0) pe_int (fun _ _ => rfl)) (pv 1)))))))) (pss_one (ps_ret pe_bl)) pss_nil)
      (pss_one (ps_ret (pe_cmpR op_gt (pe_lenSet rfl (by rfl) T.n_len (by rfl) T.n_set (pe_op op_cat
        (pe_callTy call_list_of (by rfl) T.n_list (by decide +kernel) (pa_cons (pe_dget hu (pv 1) (pe_ix ix_tup (pv 0) pe_int (fun _ _ => rfl)) (fun _ _ => rfl)) pa_nil))
        (pe_callTy call_list_of (by rfl) T.n_list (by decide +kernel) (pa_cons (pe_dget hu (pv 1) (pe_ix ix_tup (pv 0) pe_int (fun _ _ => rfl)) (fun _ _ => rfl)) pa_nil)))) pe_int (nomark _)))), ?_⟩
    refine ⟨_, rfl, _, _, rfl, .tup hp, true, rfl, iteF ?_⟩
    refine ⟨_, rfl, p, _, rfl, .inr (SqT.of hp), rfl, _, rfl, iteF ?_⟩
    refine ⟨_, rfl, p, _, 0, rV a, rfl, rfl, SqT.of hp, rfl, _, rfl, d, _, rfl, da, _, rfl, iteF ?_⟩
    refine ⟨_, rfl, p, _, 1, rV b, rfl, rfl, SqT.of hp, rfl, _, rfl, d, _, rfl, db, _, rfl, iteF ?_⟩
    refine ⟨_, rfl, _, rfl, p, _, 0, rV a, rfl, rfl, SqT.of hp, rfl, d, _, rfl, da, pa, _, rfl, .inr (SqT.of ha), fun l nl => ?_⟩
    have s1 := same_upd (o := .lst [nV qa.1, nV qa.2]) nl
    have db1 : DGet (upd H l (.lst [nV qa.1, nV qa.2])) d (rV b) (some (.ref pb)) := by
      have z := DGet.k (k := Sum.inr (rS b)) (s1 _ _ hd)
      rw [vb] at z
      exact z
    refine ⟨_, rfl, _, rfl, p, _, 1, rV b, rfl, rfl, SqT.of (s1 _ _ hp), rfl, d, _, rfl, db1, pb, _, rfl, .inr (SqT.of (s1 _ _ hb)), fun m nm => ?_⟩
    have s2 := same_upd (o := .lst [nV qb.1, nV qb.2]) nm
    refine ⟨l, m, _, _, rfl, rfl, s2 _ _ upd_same, upd_same, (by show 4 ≤ sizeLine; decide), fun r nr => ?_⟩
    refine ⟨r, [(qa.1 : Int), (qa.2 : Int), (qb.1 : Int), (qb.2 : Int)], rfl, SqL.of upd_same, (by show 4 < 64; decide), _, _, rfl, rfl, ?_⟩
    obtain ⟨x, y, hx, hy, hne⟩ := hun
    have big : decide ((1 : Int) < ((firstMet (fun i => ([(qa.1 : Int), (qa.2 : Int), (qb.1 : Int), (qb.2 : Int)] : List Int).getD i 0) ([(qa.1 : Int), (qa.2 : Int), (qb.1 : Int), (qb.2 : Int)] : List Int).length).length : Nat)) = true := by
      refine decide_eq_true ?_
      have := firstMet_two (ns := [(qa.1 : Int), (qa.2 : Int), (qb.1 : Int), (qb.2 : Int)]) (a := (x : Int)) (b := (y : Int)) (List.mem_map_of_mem (f := fun n : Nat => (n : Int)) hx) (List.mem_map_of_mem (f := fun n : Nat => (n : Int)) hy) (fun z => hne (Int.ofNat.inj z))
      omega
    have z := q _ (s1.trans (s2.trans (same_upd (o := .lst ([nV qa.1, nV qa.2] ++ [nV qb.1, nV qb.2])) nr)))
    rw [← big] at z
    exact z
end
end K83
namespace K83
open PySem PySem.Spec PyProof.Rows L2
section
variable {P : Program} {w : World} {K : PySem.W.Frag} {mg : Str → Option Value} {base : Heap} {k : Nat} {f : Addr} {fd : FuncData}
/-! ### data of the sums -/
def hD (S : List Nat) : PyData := .tuple (S.map nD)
def sD (S : List Nat) (c : Bool) : PyData := .tuple [hD S, .str (cS c)]
theorem nDs_lay : ∀ S : List Nat, PyData.canLayAll0 (S.map nD) = true
  | [] => rfl
  | q :: l => by
    show (true && PyData.canLayAll0 (l.map nD)) = true
    rw [nDs_lay l] <;> rfl
theorem nDs_depth : ∀ S : List Nat, PyData.depthAll (S.map nD) = 0
  | [] => rfl
  | q :: l => by
    show max 0 (PyData.depthAll (l.map nD)) = 0
    rw [nDs_depth l] <;> rfl
theorem hD_lay (S : List Nat) : (hD S).canLay0 = true := nDs_lay S
theorem hD_depth (S : List Nat) : (hD S).depth = 1 := by
  show PyData.depthAll (S.map nD) + 1 = 1
  rw [nDs_depth]
theorem hD_shaped (S : List Nat) : SeqAt.shaped (hD S) = true := by
  unfold SeqAt.shaped
  rw [hD_lay, hD_depth] <;> rfl
theorem sD_lay (S : List Nat) (c : Bool) : (sD S c).canLay0 = true := by
  show ((hD S).canLay0 && ((PyData.str (cS c)).canLay0 && true)) = true
  rw [hD_lay]
  cases c <;> decide +kernel
theorem sD_depth (S : List Nat) (c : Bool) : (sD S c).depth = 2 := by
  show max (hD S).depth (max 0 0) + 1 = 2
  rw [hD_depth] <;> rfl
theorem sD_shaped (S : List Nat) (c : Bool) : SeqAt.shaped (sD S c) = true := by
  unfold SeqAt.shaped
  rw [sD_lay, sD_depth] <;> rfl
theorem dp_nums {H : Hp} : ∀ S : List Nat, DpAll K H (S.map nV) (S.map nD)
  | [] => .nil
  | q :: l => .cons (.int _) (dp_nums l)
theorem dp_hung {H : Hp} {t : Addr} {S : List Nat} (h : H t = some (.tup (S.map nV))) : Dp K H (.ref t) (hD S) := .tup (SqT.of h) (dp_nums S)
theorem dp_sum {H : Hp} {p t : Addr} {S : List Nat} {c : Bool} (h : H p = some (.tup [.ref t, cV c])) (ht : H t = some (.tup (S.map nV))) : Dp K H (.ref p) (sD S c) := .tup (SqT.of h) (.cons (dp_hung ht) (.cons (.str _) .nil))
theorem dp_rows {H : Hp} {p : Addr} {a b : List Bool} (h : H p = some (.tup [rV a, rV b])) : Dp K H (.ref p) (.tuple [.str (rS a), .str (rS b)]) := .tup (SqT.of h) (.cons (.str _) (.cons (.str _) .nil))
theorem eqv_same {d : PyData} (h : d.canLay0 = true) : PyData.eqv d d = true := SeqAt.eqv_refl d h
/-! ### what is due at the rows -/
def Dues (H : Hp) (g : Fn) (kvs : List (Key × V)) (rows : List (List Bool)) : Prop := ∀ x ∈ rows, ∃ (p : Addr) (q : Nat × Nat), valV kvs (Sum.inr (rS x)) = some (.ref p) ∧ H p = some (tV q) ∧ LK g (asgOf x) q.1 q.2
theorem Dues.mono {H H' : Hp} {g : Fn} {kvs : List (Key × V)} {rows : List (List Bool)} (s : ∀ t q, H t = some (tV q) → H' t = some (tV q)) (h : Dues H g kvs rows) : Dues H' g kvs rows := fun x hx => by
  obtain ⟨p, q, e1, e2, e3⟩ := h x hx
  exact ⟨p, q, e1, s _ _ e2, e3⟩
theorem Dues.put {H : Hp} {g : Fn} {kvs : List (Key × V)} {rows : List (List Bool)} {r : List Bool} {p : Addr} {q : Nat × Nat} (h : Dues H g kvs rows) (hp : H p = some (tV q)) (hl : LK g (asgOf r) q.1 q.2) : Dues H g (putK kvs (Sum.inr (rS r)) (.ref p)) (rows ++ [r]) := fun x hx => by
  by_cases e : (Sum.inr (rS x) : Key) = Sum.inr (rS r)
  · have e2 : x = r := rS_inj (Sum.inr.inj e)
    subst e2
    exact ⟨p, q, by rw [valV_put, if_pos rfl], hp, hl⟩
  · rcases List.mem_append.mp hx with z | z
    · obtain ⟨p', q', e1, e2, e3⟩ := h x z
      exact ⟨p', q', by rw [valV_put, if_neg e]; exact e1, e2, e3⟩
    · rw [List.mem_singleton.mp z] at e
      exact absurd rfl e
theorem dget_of {H : Hp} {d : Addr} {kvs : List (Key × V)} {x : List Bool} {v : V} (hd : H d = some (.dK kvs)) (hv : valV kvs (Sum.inr (rS x)) = some v) : DGet H d (rV x) (some v) := by
  have z := DGet.k (k := Sum.inr (rS x)) hd
  rw [hv] at z
  exact z
/-! ### facts of up to six places -/
def spGreat : Sp := fun vs H Q _ => ∃ (h c : Addr), vs = [.ref h] ∧ Hand H h c ∧ ∀ H', Hx h c H H' → Q (.bl true) H'
abbrev nGR : List Str := ["_law_hand_here", "_law_places", "_law_fact_here", "_law_begin", "_law_hung", "_law_is_sum", "_law_told", "_law_row", "_law_dues", "_law_place"]
theorem sc_gr : FnScope ["_law_hand_here", "_law_places", "_law_fact_here", "_law_begin", "_law_hung", "_law_is_sum", "_law_told", "_law_row", "_law_dues", "_law_place"] ["_law_hand_here"] (defScope s_law_great_right) := ⟨rfl, rfl, rfl, by decide +kernel, rfl, by decide +kernel, by decide +kernel⟩
theorem ok_law_great_right (T : Top K mg) (F : Fun K "_law_great_right" "_law_great_right" s_law_great_right f fd) : FnOk P w K mg base CX0 (k + 13) f fd ["_law_hand_here"] spGreat := by
  obtain ⟨f1, fd1, F1, g1, b1⟩ := T.d_law_fact
  have G1 := ok_law_fact (P := P) (w := w) (base := base) (k := k + 9) T F1
  obtain ⟨f2, fd2, F2, g2, b2⟩ := T.d_law_hanging
  have G2 := ok_law_hanging (P := P) (w := w) (base := base) (k := k + 10) T F2
  obtain ⟨f3, fd3, F3, g3, b3⟩ := T.d_law_sum_fact
  have G3 := ok_law_sum_fact_T (P := P) (w := w) (base := base) (k := k + 10) T F3
  obtain ⟨f4, fd4, F4, g4, b4⟩ := T.d_hanging
  have G4 := ok_hanging (P := P) (w := w) (base := base) (k := k + 8) T F4
  obtain ⟨f5, fd5, F5, g5, b5⟩ := T.d_sum_fact
  have G5 := ok_sum_fact (P := P) (w := w) (base := base) (k := k + 8) T F5
  obtain ⟨f6, fd6, F6, g6, b6⟩ := T.d_unlike_looks
  have G6 := ok_unlike_looks (P := P) (w := w) (base := base) (k := k) T F6
  obtain ⟨f7, fd7, F7, g7, b7⟩ := T.d_law_draw
  have G7 := ok_law_draw (P := P) (w := w) (base := base) (k := k + 11) T F7
  obtain ⟨f8, fd8, F8, g8, b8⟩ := T.d_looks
  have G8 := ok_looks (P := P) (w := w) (base := base) (k := k) T F8
  obtain ⟨f9, fd9, F9, g9, b9⟩ := T.d_law_looks
  have G9 := (ok_law_looks (P := P) (w := w) (base := base) T 7 F9).mono (show 7 + 3 ≤ k + 12 by omega)
  obtain ⟨f10, fd10, F10, g10, b10⟩ := T.d_law_is_unlike
  have G10 := ok_law_is_unlike (P := P) (w := w) (base := base) (k := k + 11) T F10
  refine F.ok sc_gr (fun vs H Q E h => ?_) (fun cdv A outer s H vs Q E hr h => ?_)
  · obtain ⟨_, _, rfl, _⟩ := h
    rfl
  · obtain ⟨h, c, rfl, hH, q⟩ := h
    have hu := hu_of hr
    refine ⟨_, pss_cons (ps_asg (pe_call G1 hr (by rfl) g1 F1.kp b1 .nil pass0 (pa_cons (pv 0) (pa_cons pe_int pa_nil))) (pg_tup rfl (pgs_cons (pg_name (i := 1) sc_gr.nd rfl (.inl rfl)) (pgs_cons (pg_name (i := 2) sc_gr.nd rfl (.inl rfl)) pgs_nil))))
      (pss_cons (ps_set (i := 3) sc_gr.nd rfl (.inl rfl) (pe_op op_mulS pe_str (pv 1)))
      (pss_cons (ps_set (i := 4) sc_gr.nd rfl (.inl rfl) (pe_callTy call_tuple_of (by rfl) T.n_tuple (by decide +kernel) (pa_cons (pe_call G2 hr (by rfl) g2 F2.kp b2 .nil pass0 (pa_cons (pv 2) (pa_cons (pv 3) pa_nil))) pa_nil)))
      (pss_cons (ps_set (i := 5) sc_gr.nd rfl (.inl rfl) (pe_cmpR op_eq (pe_call G3 hr (by rfl) g3 F3.kp b3 .nil pass0 (pa_cons (pv 1) (pa_cons (pv 4) (pa_cons (pe_item_str (pv 2) pe_int (fun _ _ => rfl)) pa_nil)))) (pv 2) (nomark _)))
      (pss_cons (ps_if (PW.pt (pw_or (pt_cmpR (op_neD hr.units) (pe_call G4 hr (by rfl) g4 F4.kp b4 .nil pass0 (pa_cons (pv 2) (pa_cons (pv 3) pa_nil))) (pv 4) (nomark _))
          (pw_or1 (pt_cmpR (op_neD hr.units) (pe_call G5 hr (by rfl) g5 F5.kp b5 .nil pass0 (pa_cons (pv 2) pa_nil)) (pe_ix ix_list (pe_lst (pa_cons pe_non (pa_cons (pe_tup (pa_cons (pv 4) (pa_cons (pe_item_str (pv 2) pe_int (fun _ _ => rfl)) pa_nil))) pa_nil))) (pe_callTy call_int1 (by rfl) T.n_int (by decide +kernel) (pa_cons (pv 5) pa_nil)) (fun _ _ => rfl)) (nomark _))))) (pss_one (ps_ret pe_bl)) pss_nil)
      (pss_cons (ps_set (i := 6) sc_gr.nd rfl (.inl rfl) (pe_call G6 hr (by rfl) g6 F6.kp b6 .nil pass0 (pa_cons (pv 2) pa_nil)))
      (pss_cons (ps_if (PW.pt (pw_or (pt_cmp (pc_isN (pv 6))) (pw_or1 (pt_val (pv 5)))))
        (pss_cons (ps_set (i := 7) sc_gr.nd rfl (.inl rfl) (pe_join pe_str (pe_lc (own := [("_law_place", 9)]) (g := gName 9) (tt := tYes) rfl sc_gr.nd (pi_range1 (by rfl) T.n_range (pa_cons (pv 1) pa_nil)) (blkOk_by (N := nGR) (sc := defScope s_law_great_right) (by decide +kernel))
            (fun _ _ _ _ _ => pg_name (i := 9) sc_gr.nd rfl (Or.inl rfl)) (fun _ _ _ _ _ => pts_nil) (fun _ _ _ _ _ => pe_item_str pe_str (pe_call G7 hr (by rfl) g7 F7.kp b7 .nil pass0 (pa_cons (pv 0) (pa_cons pe_int pa_nil))) (fun _ _ => rfl)))))
        (pss_one (ps_ret (pe_and (pe_cmp (pc_isN (pv 6)) rfl) (pe_and (pv 5) (pe_one (pe_cmpR (op_eqD hr.units) (pe_call G8 hr (by rfl) g8 F8.kp b8 .nil pass0 (pa_cons (pv 2) (pa_cons (pv 7) pa_nil)))
          (pe_tup (pa_cons (pe_callB call_len_seq (by rfl) T.n_len PySem.boot_len (pa_cons (pv 4) pa_nil)) (pa_cons (pe_callB call_len_seq (by rfl) T.n_len PySem.boot_len (pa_cons (pv 4) pa_nil)) pa_nil))) (nomark _)))))))) pss_nil)
      (pss_cons (ps_set (i := 8) sc_gr.nd rfl (.inl rfl) pe_dnewK)
      (pss_cons (ps_for PassesOwn.never rfl (pi_tup (pv 6)) (pg_name (i := 7) sc_gr.nd rfl (.inl rfl))
        (pss_one (ps_dput hu (pv 8) (pv 7) (pe_call G9 hr (by rfl) g9 F9.kp b9 .nil pass0 (pa_cons pe_dnewK (pa_cons (pv 2) (pa_cons (pv 7) (pa_cons (pv 3) pa_nil))))) rfl)))
      (pss_one (ps_ret (pe_and (pe_call G10 hr (by rfl) g10 F10.kp b10 .nil pass0 (pa_cons (pv 6) (pa_cons (pv 8) pa_nil))) (pe_one (pe_cmpR (op_eqD hr.units)
        (pe_call G8 hr (by rfl) g8 F8.kp b8 .nil pass0 (pa_cons (pv 2) (pa_cons (pe_ix ix_tup (pv 6) pe_int (fun _ _ => rfl)) pa_nil))) (pe_dget hu (pv 8) (pe_ix ix_tup (pv 6) pe_int (fun _ _ => rfl)) (fun _ _ => rfl)) (nomark _)))))))))))))), ?_⟩
    refine ⟨_, rfl, h, c, 6, rfl, by decide, by decide, hH, fun H1 p n G x1 hn hG hp => ?_⟩
    have h6 := hG.six
    have h1 := hG.one
    have hpos : 0 < 2 ^ n := Nat.pow_pos (by decide)
    have h64 := pow6 h6
    refine ⟨p, _, rfl, SqT.of hp, rfl, _, _, rfl, _, _, rfl, rfl, ?_⟩
    refine ⟨_, rfl, 46, n, dotV, rfl, by omega, ?_⟩
    rw [dots_text]
    -- hung
    refine ⟨_, rfl, _, rfl, G, dots n, rfl, by rw [length_dots]; exact hG, fun H2 l s2 _ hl => ?_⟩
    refine ⟨l, _, rfl, .inl ⟨SqL.of hl, fun t nt => ?_⟩⟩
    have s3 := same_upd (o := .tup ((hang G (dots n)).map nV)) nt
    have ht3 : (upd H2 t (.tup ((hang G (dots n)).map nV))) t = some (.tup ((hang G (dots n)).map nV)) := upd_same
    have x3 : Hx h c H (upd H2 t (.tup ((hang G (dots n)).map nV))) := x1.trans (Hx.of x1.2 (s2.trans s3))
    have hlen := hang_len G (dots n)
    rw [length_dots] at hlen
    -- is_sum
    have z0 : (rS G).cps[(0 : Int).toNat]? = some (bc (G.getD 0 false)) := rS_item (p := 0) (by rw [hG.len]; exact hpos)
    have zl : (0 : Int) < ((rS G).length : Nat) := by
      rw [rS_len, hG.len]
      omega
    refine ⟨_, rfl, _, rfl, _, rfl, _, _, bc (G.getD 0 false), rfl, rfl, by omega, by omega, zl, z0, ?_⟩
    refine ⟨n, t, hang G (dots n), G.getD 0 false, rfl, h6, SqT.of ht3, fun p hp => lots_lt (hang_lots G n) hp, by omega, fun H4 s4 => ?_⟩
    refine ⟨_, rfl, rfl, ?_⟩
    rw [sumF_eq]
    have x4 := x3.trans (Hx.of x3.2 s4)
    have ht4 := s4 _ _ ht3
    have hdec : decide (sumF n (hang G (dots n)) (G.getD 0 false) = G) = true ↔ IsSum G n := by rw [decide_eq_true_iff]; exact sumF_iff hG.len
    generalize decide (sumF n (hang G (dots n)) (G.getD 0 false) = G) = bs at hdec
    -- hanging(..) != hung
    refine ⟨_, rfl, _, rfl, G, dots n, rfl, by rw [length_dots]; exact hG, fun H5 t5 s5 ht5 => ?_⟩
    have ht45 := s5 _ _ ht4
    refine ⟨_, rfl, _, _, dp_hung ht5, dp_hung ht45, hD_shaped _, hD_shaped _, _, rfl, ?_⟩
    rw [eqv_same (hD_lay _)]
    refine iteF ?_
    have x5 := x4.trans (Hx.of x4.2 s5)
    have hl5 : (hang G (dots n)).length ≤ 6 := by omega
    by_cases hs : IsSum G n
    · -- a sum
      have eb : bs = true := hdec.mpr hs
      subst eb
      refine ⟨_, rfl, G, n, rfl, hG, fun _ H6 p6 t6 s6 hp6 ht6 => ?_, fun hno => absurd hs hno⟩
      refine ⟨_, rfl, _, rfl, _, _, bc (G.getD 0 false), rfl, rfl, by omega, by omega, zl, z0, (by show 2 ≤ sizeLine; decide), fun u nu => ?_⟩
      have s7 := same_upd (o := .tup [.ref t, cV (G.getD 0 false)]) nu
      refine ⟨(by show 2 ≤ sizeLine; decide), fun v nv => ?_⟩
      have s8 := same_upd (o := .lst [.non, .ref u]) nv
      refine ⟨_, rfl, .inr ⟨true, rfl, v, [.non, .ref u], 1, .ref u, rfl, rfl, SqL.of upd_same, rfl, ?_⟩⟩
      refine ⟨_, _, dp_sum (s8 _ _ (s7 _ _ hp6)) (s8 _ _ (s7 _ _ ht6)), dp_sum (s8 _ _ upd_same) (s8 _ _ (s7 _ _ (s6 _ _ ht45))), sD_shaped _ _, sD_shaped _ _, _, rfl, ?_⟩
      rw [eqv_same (sD_lay _ _)]
      refine iteF ?_
      have x8 := x5.trans (Hx.of x5.2 (s6.trans (s7.trans s8)))
      have ht8 := s8 _ _ (s7 _ _ (s6 _ _ ht45))
      refine ⟨_, rfl, G, n, rfl, hG, fun _ H9 s9 => ?_, fun hno => absurd hs hno⟩
      have x9 := x8.trans (Hx.of x8.2 s9)
      have ht9 := s9 _ _ ht8
      refine ⟨_, rfl, _, rfl, ?_⟩
      rw [decide_eq_true (show V.non = V.non from rfl)]
      refine iteT (iteT ?_)
      refine ⟨⟨_, rfl⟩, _, rfl, n, rfl, by omega, by omega, fun D nD => ?_⟩
      obtain ⟨nh, nc⟩ := x9.2.ne nD
      refine lc_it walk_range0 (fun i H' => Hx h c H9 H' ∧ ∃ l : List Bool, l.length = i ∧ H' D = some (.lst (l.map cV))) ⟨Hx.of x9.2 (same_upd nD), [], rfl, upd_same⟩ (fun _ _ _ _ => trivial) ?_ ?_
      · rintro i x Ha Hb hi ⟨xa, l, hl, da⟩ ⟨rfl, rfl⟩
        have hi : i < n := by rw [Int.toNat_natCast] at hi; exact hi
        refine ⟨rfl, _, rfl, h, c, 2, rfl, by decide, by decide, xa.2, fun Hc d xc hd => ?_⟩
        obtain ⟨z1, z2, z3⟩ := z01 hd
        have dc := xc.keep nh.symm da
        refine ⟨_, _, bc (d == 1), rfl, rfl, z1, z2, z3, sign_at hd, _, dc, ?_, ?_, l ++ [d == 1], ?_, ?_⟩
        · rw [List.length_map]
          exact small (by omega)
        · exact Hx.free x9.2 (xa.trans xc) nD
        · rw [List.length_append, hl] <;> rfl
        · rw [upd_same, List.map_append] <;> rfl
      · rintro Ha ⟨xa, l, hl, da⟩
        have hl : l.length = n := by rw [Int.toNat_natCast] at hl; exact hl
        have hta := xa.keep (fun z => by
          have := x9.2
          obtain ⟨_, _, _, _, _, hh, _⟩ := this
          rw [z, hh] at ht9
          cases ht9) ht9
        refine ⟨_, D, l.map cS, rfl, rfl, .inl (SqL.of (by rw [da, List.map_map] <;> rfl)), join_size _ (by omega), ?_⟩
        rw [join_signs]
        refine ⟨_, rfl, _, rfl, ?_⟩
        rw [decide_eq_true (show V.non = V.non from rfl)]
        refine iteT ⟨_, rfl, true, rfl, iteT ?_⟩
        refine ⟨_, rfl, _, rfl, G, l, rfl, by rw [hl]; exact hG, fun Hb pb cb sb hpb hlk => ?_⟩
        rw [hl] at hlk
        have htb := sb _ _ hta
        refine ⟨_, rfl, t, _, rfl, .inr (SqT.of htb), _, rfl, t, _, rfl, .inr (SqT.of htb), (by show 2 ≤ sizeLine; decide), fun w nw => ?_⟩
        have sw := same_upd (o := tV (((hang G (dots n)).map nV).length, ((hang G (dots n)).map nV).length)) nw
        have e := lk_of_sum hs hlk
        have ec : cb = (((hang G (dots n)).map nV).length, ((hang G (dots n)).map nV).length) := by
          rw [List.length_map]
          exact Prod.ext e.1 e.2
        refine ⟨pD cb, pD (((hang G (dots n)).map nV).length, ((hang G (dots n)).map nV).length), dp_pair (sw _ _ hpb), dp_pair (show _ = some (tV (((hang G (dots n)).map nV).length, ((hang G (dots n)).map nV).length)) from upd_same), rfl, rfl, ?_⟩
        rw [pD_eqv, decide_eq_true ec]
        have xb := (x9.trans xa).trans (Hx.of xa.2 sb)
        exact q _ (xb.trans (Hx.of xb.2 sw))
    · -- no sum
      have eb : bs = false := Bool.eq_false_iff.mpr fun z => hs (hdec.mp z)
      subst eb
      refine ⟨_, rfl, G, n, rfl, hG, fun hyes => absurd hyes hs, fun _ H6 s6 => ?_⟩
      refine ⟨_, rfl, _, rfl, _, _, bc (G.getD 0 false), rfl, rfl, by omega, by omega, zl, z0, (by show 2 ≤ sizeLine; decide), fun u nu => ?_⟩
      have s7 := same_upd (o := .tup [.ref t, cV (G.getD 0 false)]) nu
      refine ⟨(by show 2 ≤ sizeLine; decide), fun v nv => ?_⟩
      have s8 := same_upd (o := .lst [.non, .ref u]) nv
      refine ⟨_, rfl, .inr ⟨false, rfl, v, [.non, .ref u], 0, .non, rfl, rfl, SqL.of upd_same, rfl, ?_⟩⟩
      refine ⟨_, _, .non, .non, rfl, rfl, _, rfl, ?_⟩
      refine iteF ?_
      have x8 := x5.trans (Hx.of x5.2 (s6.trans (s7.trans s8)))
      have ht8 := s8 _ _ (s7 _ _ (s6 _ _ ht45))
      refine ⟨_, rfl, G, n, rfl, hG, fun hyes => absurd hyes hs, fun _ H9 p9 r0 r s9 hp9 told => ?_⟩
      have x9 := x8.trans (Hx.of x8.2 s9)
      refine ⟨_, rfl, _, rfl, ?_⟩
      rw [decide_eq_false (show ¬ V.ref p9 = V.non from fun z => by cases z)]
      refine iteF ⟨_, rfl, false, rfl, iteF ?_⟩
      have hr0 : r0.length = n := mem_all.mp (List.mem_of_getElem? told.1)
      have hrn : r.length = n := by
        obtain ⟨_, i, hi, _⟩ := told
        exact mem_all.mp (List.mem_of_getElem? hi)
      refine fun d nd => ?_
      have sd := same_upd (o := .dK []) nd
      have hdd : (upd H9 d (.dK [])) d = some (.dK []) := upd_same
      have xd := x9.trans (Hx.of x9.2 sd)
      obtain ⟨ndh, ndc⟩ := x9.2.ne nd
      have hpd := sd _ _ hp9
      refine ⟨_, rfl, p9, rfl, ⟨_, SqT.of hpd⟩, for_it walk_tup (fun i σ' H' => (∃ y7, σ' = [some (.ref h), some (nV n), some (.str (rS G)), some (.str (sS (dots n))), some (.ref t), some (.bl false), some (.ref p9), y7, some (.ref d), none]) ∧
          Hx h c H H' ∧ H' p9 = some (.tup [rV r0, rV r]) ∧ ∃ kvs, H' d = some (.dK kvs) ∧ Dues H' (fn G n) kvs (([r0, r] : List (List Bool)).take i) ∧ kvs.length ≤ i)
        ⟨⟨_, rfl⟩, xd, hpd, [], hdd, fun x hx => absurd hx List.not_mem_nil, Nat.le_refl _⟩ (fun i σ' H' _ q => SqT.of q.2.2.1) ?_ ?_⟩
      · rintro i x σ' Ha Hb hi ⟨⟨y7, rfl⟩, xa, hpa, kvs, hda, hdu, hkl⟩ ⟨rfl, hx⟩
        have hi : i < 2 := hi
        have hx' : ([r0, r].map rV)[i]? = some x := hx
        rw [List.getElem?_map] at hx'
        obtain ⟨rr, hrr, rfl⟩ := Option.map_eq_some_iff.mp hx'
        have hrl : rr.length = n := by
          have := List.mem_of_getElem? hrr
          simp only [List.mem_cons, List.not_mem_nil, or_false] at this
          rcases this with e | e <;> subst e <;> assumption
        refine fun e ne => ⟨_, rfl, _, rfl, _, rfl, e, G, rr, dots n, [], rfl, by rw [length_dots]; exact hG, by rw [length_dots]; exact hrl, by rw [opens_dots]; omega, upd_same, known_nil, ?_, fun Hc kv2 pc cc sc _ _ _ hpc hlk => ?_⟩
        · rw [opens_dots]
          have := room_mono h6
          have := room6
          show 0 + _ ≤ _
          omega
        rw [length_dots, sub_dots] at hlk
        have sbc : Same Hb Hc := fun b o hb => sc b o (ne_of_none hb ne) (by rw [upd_ne (ne_of_none hb ne)]; exact hb)
        have hdc := sbc _ _ hda
        refine ⟨_, rfl, _, rfl, d, _, rfl, DPut.k (k := Sum.inr (rS rr)) hdc (small (by omega)), ?_⟩
        have tv : ∀ a b, Hc a = some (tV b) → (upd Hc d (.dK (putK kvs (Sum.inr (rS rr)) (.ref pc)))) a = some (tV b) := fun a b hb => by
          rw [upd_ne (ne_of hb hdc (by intro z; cases z))]
          exact hb
        have hlen2 := putK_len (kvs := kvs) (k := Sum.inr (rS rr)) (v := .ref pc)
        refine ⟨⟨_, rfl⟩, ?_, ?_, _, upd_same, ?_, by omega⟩
        · have xc := xa.trans (Hx.of xa.2 sbc)
          refine ⟨fun b o nb hb => ?_, ?_⟩
          · have hb2 := xc.1 b o nb hb
            have nbd : b ≠ d := by
              have hbH9 : H9 b = some o := x9.1 b o nb hb
              exact ne_of_none hbH9 nd
            rw [upd_ne nbd]
            exact hb2
          · obtain ⟨cells, p', g', a', b', e1, e2, e3⟩ := xc.2
            exact ⟨cells, p', g', a', b', by rw [upd_ne ndh]; exact e1, by rw [upd_ne ndc]; exact e2, e3⟩
        · rw [upd_ne (ne_of_none hp9 nd)]
          exact sbc _ _ hpa
        · rw [List.take_add_one, hrr]
          exact Dues.put ((hdu.mono fun a b hb => tv _ _ (sbc _ _ hb))) (tv _ _ hpc) hlk
      · rintro σ' Ha ⟨⟨y7, rfl⟩, xa, hpa, kvs, hda, hdu, hkl⟩
        have hdu : Dues Ha (fn G n) kvs [r0, r] := hdu
        obtain ⟨pa, qa, va, ha, la⟩ := hdu r0 (by simp)
        obtain ⟨pb, qb, vb, hb, lb⟩ := hdu r (by simp)
        have hbad : Bad G n r0 r := by
          obtain ⟨_, i, _, hb, _⟩ := told
          exact hb
        refine ⟨_, rfl, _, rfl, p9, d, r0, r, kvs, pa, pb, qa, qb, rfl, hpa, hda, va, vb, ha, hb, unlike_two ((bad_iff la lb).mp hbad), fun Hb sb => ?_⟩
        refine ⟨true, rfl, iteT ?_⟩
        refine ⟨_, rfl, _, rfl, p9, _, 1, rV r, rfl, rfl, SqT.of (sb _ _ hpa), rfl, G, r, rfl, by rw [hrn]; exact hG, fun Hc pc cc sc hpc hlk => ?_⟩
        rw [hrn] at hlk
        refine ⟨_, rfl, _, rfl, p9, _, 1, rV r, rfl, rfl, SqT.of (sc _ _ (sb _ _ hpa)), rfl, d, .ref pb, rfl, dget_of (sc _ _ (sb _ _ hda)) vb, ?_⟩
        refine ⟨pD cc, pD qb, dp_pair hpc, dp_pair (sc _ _ (sb _ _ hb)), rfl, rfl, ?_⟩
        have eu := hlk.uniq lb
        rw [pD_eqv, decide_eq_true (Prod.ext eu.1 eu.2)]
        have xb := xa.trans (Hx.of xa.2 sb)
        exact q _ (xb.trans (Hx.of xb.2 sc))
end
end K83
/-! The law's own call, where it is known that nothing is being shown (repr asks that). -/
namespace K83
open PySem PySem.Spec PyProof.Rows L2
/-- a call of a def of the text, run once, at one state -/
theorem run_once {P : Program} {w : World} {K : PySem.W.Frag} {mg : Str → Option Value} {base : Heap} {x qual : Str} {st : Stmt} {f : Addr} {fd : FuncData} {N ps : List Str} {A : Around} {outer : List Env} {s : Shared} {H : Hp} {args : Args} {us : List Value} {vs : List V} {Q : VK} {E : XK}
    (F : Fun K x qual st f fd) (S : FnScope N ps (defScope st)) (hd : A.handled = none) (hdep : A.depth < recursionLimit) (e0 : Env0 P w K mg base A outer s H) (bd : BindsTo s fd args (ps.zip us)) (vu : Vals vs us) (hl : vs.length = ps.length)
    (body : ∀ cdv : Value, ∃ t, PSs (cxOf CX0 P w K mg base N qual (defScope st) f cdv A outer s H E).nox (defBody st) t ∧ t { nx := fun _ H' => Q .non H', rt := Q } (start N vs) H) :
    codeAny (model P w) A (.call (.ref f) args) (CR CX0 outer P w H s Q E) s := by
  obtain ⟨_, _, _, _, _, _, cdv, _, _, rfl, at_f, rec_f⟩ := F.ex
  have old : ∀ b o, base.get? b = some o → s.heap.get? b = some o := fun b o z => (e0.bs b o z).1
  have inK : K.In s.heap := e0.mod.kin.keeps old
  have kinds : ∀ y ∈ ps.zip us, (defScope st).names.lookup y.1 = some .local ∨ ((defScope st).names.lookup y.1 = some .cell ∧ ((cellsFrom (s.heap.objs.size + 1) (defScope st).names []).lookup y.1).isSome = true) := by
    rintro ⟨n, v⟩ hy
    refine (S.par n (List.of_mem_zip hy).1).imp id fun hc => ?_
    exact ⟨hc, PySem.W.cellsFrom_some _ _ _ (.inl hc)⟩
  refine codeAny_call_function hdep (inK _ _ at_f) rfl S.co S.gen rfl (PySem.W.codeRec_of inK rec_f) (bd _ _ _ _ ?_)
  refine wpAny_newFunctionEnv_cells S.kind kinds fun env eenv s' started => ?_
  obtain ⟨t, der, reading⟩ := body cdv
  subst eenv
  refine ⟨(e0.mod.nolimit.keeps old).keeps started.toInCall.keep, ?_⟩
  refine codeAny_func (wpAny_mono (der.nox.run [] s' (start N vs) H _ (inv_start S hd e0 hl vu started) reading) ?_ fun _ _ z => z)
  intro flow s2 out
  match flow, out with
  | .ret u, ⟨v, _, H2, J, r, q⟩ => exact ⟨v, H2, J.os, J.bare, J.base, J.hok, r, q⟩
  | .next, ⟨_, H2, J, q⟩ => exact ⟨.non, H2, J.os, J.bare, J.base, J.hok, rfl, q⟩
  | .brk, ⟨_, _, _, q⟩ => exact q.elim
  | .cont, ⟨_, _, _, q⟩ => exact q.elim
/-- the script's own object -/
def scrO (vs : List Value) : Obj := { cls := .type "list", data := .seq vs.toArray }
open Classical in
/-- nothing is tracked but the script, and that too only if it is no object of the module -/
noncomputable def scrH (K : PySem.W.Frag) (a : Addr) (vs : List Value) (ns : List Int) : Hp := fun b => if b = a ∧ K.lookup a = none then some (.frz (scrO vs) (.lst (ns.map V.int))) else none
section
variable {K : PySem.W.Frag} {a : Addr} {vs : List Value} {ns : List Int}
theorem scrH_some {b : Addr} {o : HO} (h : scrH K a vs ns b = some o) : b = a ∧ K.lookup a = none ∧ o = .frz (scrO vs) (.lst (ns.map V.int)) := by
  unfold scrH at h
  split at h
  · rename_i c
    exact ⟨c.1, c.2, (Option.some.inj h).symm⟩
  · cases h
theorem scrH_at (hk : K.lookup a = none) : scrH K a vs ns a = some (.frz (scrO vs) (.lst (ns.map V.int))) := if_pos ⟨rfl, hk⟩
end
theorem law_top {P : Program} {w : World} {K : PySem.W.Frag} {mg mb : Str → Option Value} {fa a : Addr} {s1 : Shared} {vs : List Value} {ns : List Int}
    (KX : K.In s1.heap) (hns : s1.heap.Ns mainGlobals mg) (hb : s1.heap.Ns builtinsNs mb) (hbb : ∀ x : Str, x ≠ "__name__" → mb x = bootBuiltins x) (hlim : s1.heap.NoLimit) (hg : s1.gens = #[]) (ha : s1.heap.get? a = some (scrO vs)) (hi : IntsAre vs ns) (hl : ns.length ≤ sizeLine)
    (run : ∀ (base : Heap) (H : Hp), Env0 P w K mg base callerA [] s1 H → SqL K H a (ns.map V.int) → codeAny (model P w) callerA (.call (.ref fa) ⟨[.ref a], []⟩) (CR CX0 [] P w H s1 (fun v _ => v = .bl true) E0) s1) :
    codeAny (model P w) callerA (.call (.ref fa) ⟨[.ref a], []⟩) (fun r s' => r = .ok (.ret (.bool true)) ∧ OldK s1.heap s'.heap ∧ s'.os = s1.os ∧ AllBare s'.gens) s1 := by
  have vi := vals_ints hi
  have nl := hi.length
  have nof : ∀ (b : Addr) (z : List Addr), z = [] → b ∉ z := fun b z e h => by rw [e] at h; exact absurd h List.not_mem_nil
  have hok : HOk P w (scrH K a vs ns) s1.heap := fun b o e => by
    obtain ⟨rfl, _, rfl⟩ := scrH_some e
    exact ⟨ha, by rw [List.length_map]; exact hl, vs, _, vi, ha⟩
  -- what is a dict is not the script
  have dicts : ∀ {b : Addr} {o : Obj} {es : Array DictEntry} {n : Nat}, s1.heap.get? b = some o → o.data = .dict es n → (hidT s1.heap (scrH K a vs ns)).get? b = some o := fun {b o es n} e d => by
    refine hidT_get e ?_
    cases z : scrH K a vs ns b with
    | none => rfl
    | some u =>
      obtain ⟨rfl, _, _⟩ := scrH_some z
      rw [ha] at e
      cases e
      have d' : Data.seq vs.toArray _ = Data.dict es n := d
      cases d'
  have spaces : ∀ {b : Addr} {m : Str → Option Value}, s1.heap.Ns b m → (hidT s1.heap (scrH K a vs ns)).Ns b m := fun {b m} ⟨o, es, n, e, d, r⟩ => ⟨o, es, n, dicts e d, d, r⟩
  have kb : K.In (hidT s1.heap (scrH K a vs ns)) := fun b o e => hidT_get (KX b o e) (by
    cases z : scrH K a vs ns b with
    | none => rfl
    | some u =>
      obtain ⟨rfl, hk, _⟩ := scrH_some z
      rw [hk] at e
      cases e)
  obtain ⟨ml, l1, l2⟩ := hlim
  have env : Env0 P w K mg (hidT s1.heap (scrH K a vs ns)) callerA [] s1 (scrH K a vs ns) :=
    { frames := rfl, mod := ⟨kb, spaces hns, ⟨mb, spaces hb, hbb⟩, ⟨ml, spaces l1, l2⟩⟩, bs := fun b o e => of_hidT e, bsz := Nat.le_of_eq (hidT_size _ _), funs := trivial, frf := fun b h => (nof b _ rfl h).elim, hok := hok, bare := .of_eq hg }
  have seq : SqL K (scrH K a vs ns) a (ns.map V.int) := by
    cases hk : K.lookup a with
    | none => exact .inl (.inr ⟨_, scrH_at hk⟩)
    | some o =>
      have e := KX a o hk
      rw [ha] at e
      cases e
      exact .inr ⟨_, vs.toArray, _, hk, rfl, rfl, rfl, by rw [List.size_toArray, nl]; exact hl, by simpa using vi⟩
  refine codeAny_mono (run _ _ env seq) fun r s2 out => ?_
  match r, out with
  | .ok (.ret u), ⟨v, H2, os, bare, un, hok2, rv, q⟩ =>
    cases (show v = .bl true from q)
    cases (show u = Value.bool true from rv)
    refine ⟨rfl, OldK.of_keep fun b o e => ?_, os, bare⟩
    cases z : scrH K a vs ns b with
    | none => exact un.keep b o e z (nof b _ rfl) (nof b _ rfl)
    | some u =>
      have z2 := scrH_some z
      rw [z2.2.2] at z
      have k1 := (hok b _ z).1
      rw [e] at k1
      cases k1
      exact (hok2 b _ (un.frzs b _ _ z)).1
  | .error _, h => exact h.elim
end K83
namespace K83
open PySem PySem.Spec PyProof.Rows L2
section
variable {P : Program} {w : World} {K : PySem.W.Frag} {mg : Str → Option Value} {base : Heap} {k : Nat} {f : Addr} {fd : FuncData}
/-! ### what repr shows is short -/
open Classical in
theorem cnt_le (R : Nat → Prop) : ∀ n : Nat, cnt R n ≤ n
  | 0 => Nat.le_refl _
  | n + 1 => by
    have ih := cnt_le R n
    show cnt R n + (if R n then 1 else 0) ≤ n + 1
    by_cases h : R n
    · rw [if_pos h]; omega
    · rw [if_neg h]; omega
theorem Pt.le {n : Nat} {g : Fn} {x : Asg} {j : Nat} (h : Pt g x j) : Dep n g → j ≤ cnt (Rel g) n := by
  induction h with
  | done _ => exact fun _ => Nat.zero_le _
  | @look g x j i hr _ ih =>
    intro d
    have h1 := ih (d.fix i _)
    have h2 := cnt_fix_lt (b := x i) hr (d.lt hr)
    omega
theorem LK.small {G : List Bool} {n : Nat} {x : Asg} {q : Nat × Nat} (h : LK (fn G n) x q.1 q.2) (h4 : n ≤ 4) : q.1 ≤ 4 ∧ q.2 ≤ 4 := by
  have h1 := Pt.le h.1 (dep_fn G n)
  have h2 := Pt.le h.2.1 (dep_fn G n)
  have := cnt_le (Rel (fn G n)) n
  omega
/-- what repr asks of data -/
def Shows (d : PyData) : Prop := d.showable = true ∧ d.hasDict = false ∧ d.depth ≤ 8 ∧ d.shown.length ≤ sizeLine
def showsB (d : PyData) : Bool := d.showable && (!d.hasDict) && decide (d.depth ≤ 8) && decide (d.shown.length ≤ 1000)
theorem shows_of {d : PyData} (h : showsB d = true) : Shows d := by
  unfold showsB at h
  simp only [Bool.and_eq_true, decide_eq_true_eq, Bool.not_eq_true'] at h
  exact ⟨h.1.1.1, h.1.1.2, h.1.2, Nat.le_of_lt (small1000 h.2)⟩
theorem pD_shows {q : Nat × Nat} (h : q.1 ≤ 4 ∧ q.2 ≤ 4) : Shows (pD q) := by
  have all : ∀ a ∈ List.range 5, ∀ b ∈ List.range 5, showsB (pD (a, b)) = true := by decide +kernel
  exact shows_of (all q.1 (List.mem_range.mpr (by omega)) q.2 (List.mem_range.mpr (by omega)))
theorem hD_shows {S : List Nat} (h : S ∈ lots 4) : Shows (hD S) := by
  have all : ∀ S ∈ lots 4, showsB (hD S) = true := by decide +kernel
  exact shows_of (all S h)
theorem sD_shows {S : List Nat} {c : Bool} (h : S ∈ lots 4) : Shows (sD S c) := by
  have all : ∀ S ∈ lots 4, showsB (sD S false) = true ∧ showsB (sD S true) = true := by decide +kernel
  cases c
  · exact shows_of (all S h).1
  · exact shows_of (all S h).2
theorem non_shows : Shows .none := shows_of (by decide +kernel)
theorem hang_lots4 (G : List Bool) {σ : List (Option Bool)} (h : σ.length ≤ 4) : hang G σ ∈ lots 4 := lots_mono h (filter_lots _ _)
/-! ### a drawn standing -/
/-- "".join of one mark each -/
theorem join_marks (l : List (Option Bool)) : Txt.join (("" : String) : Str) (l.map cM) = sS l := by
  have e : l.map cM = ((l.map mc).map fun c => [c]).map SX.S := by
    rw [List.map_map, List.map_map] <;> rfl
  have e0 : (("" : String) : Str) = SX.S [] := strE
  rw [e, e0, SX.join_S, joinL_nil]
theorem join_msize (l : List (Option Bool)) (h : l.length ≤ 4096) : ((l.map cM).map (·.length)).sum + (l.map cM).length * (("" : String) : Str).length ≤ 16777216 := by
  have e : ((l.map cM).map (·.length)).sum = l.length := by
    clear h
    induction l with
    | nil => rfl
    | cons a l ih =>
      rw [List.map_cons, List.map_cons, List.sum_cons, ih, List.length_cons, Nat.add_comm] <;> rfl
  have e0 : (("" : String) : Str).length = 0 := by rw [strE] <;> rfl
  rw [e, e0]
  omega
def ixM (d : Nat) : Nat := [0, 1, 2, 2].getD d 0
def mkM (d : Nat) : Option Bool := [some false, some true, none, none].getD d none
theorem ixM_at {d : Nat} (h : d < 4) : atI [V.int 0, .int 1, .int 2, .int 2] ((d : Nat) : Int) = some (nV (ixM d)) := by
  have : d = 0 ∨ d = 1 ∨ d = 2 ∨ d = 3 := by omega
  rcases this with e | e | e | e <;> subst e <;> rfl
theorem ixM_le {d : Nat} (h : d < 4) : ixM d ≤ 2 := by
  have : d = 0 ∨ d = 1 ∨ d = 2 ∨ d = 3 := by omega
  rcases this with e | e | e | e <;> subst e <;> decide
theorem mkM_at {d : Nat} (h : d < 4) : (("01." : String) : Str).cps[((ixM d : Nat) : Int).toNat]? = some (mc (mkM d)) := by
  have : d = 0 ∨ d = 1 ∨ d = 2 ∨ d = 3 := by omega
  rcases this with e | e | e | e <;> subst e <;> decide +kernel
theorem mkM_lt {d : Nat} (h : d < 4) : -(2 ^ 62) ≤ ((ixM d : Nat) : Int) ∧ ((ixM d : Nat) : Int) < ((("01." : String) : Str).length : Nat) ∧ 0 ≤ ((ixM d : Nat) : Int) := by
  have : d = 0 ∨ d = 1 ∨ d = 2 ∨ d = 3 := by omega
  rcases this with e | e | e | e <;> subst e <;> decide +kernel
/-! ### what stands in a turn of the law -/
theorem Hand.neq {H : Hp} {h c b : Addr} {o : HO} (q : Hand H h c) (e : H b = some o) (no : ∀ d p g s r, o ≠ hV d p g s r) : b ≠ h := fun z => by
  obtain ⟨_, p, g, s, r, e1, _⟩ := q
  rw [z, e1] at e
  exact no _ _ _ _ _ (Option.some.inj e).symm
structure LJ (H : Hp) (h c : Addr) (n : Nat) (G : List Bool) (el d sl : Addr) (kvs : List (Key × V)) (ps : List Addr) (tv : V) : Prop where
  hand : Hand H h c
  g : FactOk G n
  four : n ≤ 4
  el : H el = some (.lst ((fit (dots n)).map rV))
  d : H d = some (.dK kvs)
  du : Dues H (fn G n) kvs (fit (dots n))
  sl : H sl = some (.lst (ps.map V.ref))
  su : SumsAt H ps (sumsL G n)
  tv : (IsSum G n ∧ tv = .non) ∨ (¬ IsSum G n ∧ ∃ p r0 r, tv = .ref p ∧ H p = some (.tup [rV r0, rV r]) ∧ Told G n r0 r)
theorem fit_ne (n : Nat) : fit (dots n) ≠ [] := fun z => by
  have h1 := length_all n
  rw [z] at h1
  have h2 : 0 < 2 ^ n := Nat.pow_pos (by decide)
  rw [← h1] at h2
  exact Nat.lt_irrefl _ h2
theorem el_neq {H : Hp} {h c el : Addr} {n : Nat} (q : Hand H h c) (e : H el = some (.lst ((fit (dots n)).map rV))) : el ≠ h := q.neq e fun d p g s r z => by
  cases z2 : fit (dots n) with
  | nil => exact fit_ne n z2
  | cons a l =>
    rw [z2] at z
    have z := HO.lst.inj z
    rw [List.map_cons] at z
    cases (List.cons.inj z).1
theorem sl_neq {H : Hp} {h c sl : Addr} {ps : List Addr} (q : Hand H h c) (e : H sl = some (.lst (ps.map V.ref))) : sl ≠ h := q.neq e fun d p g s r z => by
  have z := HO.lst.inj z
  cases ps with
  | nil => cases z
  | cons a l =>
    rw [List.map_cons] at z
    cases l with
    | nil => cases (List.cons.inj z).2
    | cons b l =>
      rw [List.map_cons] at z
      cases (List.cons.inj (List.cons.inj z).2).1
theorem tup_neq {H : Hp} {h c b : Addr} {zs : List V} (q : Hand H h c) (e : H b = some (.tup zs)) : b ≠ h := q.neq e fun _ _ _ _ _ z => by cases z
theorem dk_neq {H : Hp} {h c b : Addr} {zs : List (Key × V)} (q : Hand H h c) (e : H b = some (.dK zs)) : b ≠ h := q.neq e fun _ _ _ _ _ z => by cases z
theorem LJ.hx {H H' : Hp} {h c : Addr} {n : Nat} {G : List Bool} {el d sl : Addr} {kvs : List (Key × V)} {ps : List Addr} {tv : V} (j : LJ H h c n G el d sl kvs ps tv) (x : Hx h c H H') : LJ H' h c n G el d sl kvs ps tv :=
  { hand := x.2, g := j.g, four := j.four
    el := x.keep (el_neq j.hand j.el) j.el
    d := x.keep (dk_neq j.hand j.d) j.d
    du := j.du.mono fun t q e => x.keep (tup_neq j.hand e) e
    sl := x.keep (sl_neq j.hand j.sl) j.sl
    su := j.su.mono fun b zs e => x.keep (tup_neq j.hand e) e
    tv := by
      rcases j.tv with q | ⟨q, p, r0, r, e1, e2, e3⟩
      · exact .inl q
      · exact .inr ⟨q, p, r0, r, e1, x.keep (tup_neq j.hand e2) e2, e3⟩ }
theorem LJ.same {H H' : Hp} {h c : Addr} {n : Nat} {G : List Bool} {el d sl : Addr} {kvs : List (Key × V)} {ps : List Addr} {tv : V} (j : LJ H h c n G el d sl kvs ps tv) (x : Same H H') : LJ H' h c n G el d sl kvs ps tv := j.hx (Hx.of j.hand x)
abbrev nLW : List Str := ["_law_script", "_law_hand_here", "_law_turn", "_law_places", "_law_fact_here", "_law_every", "_law_dues", "_law_row", "_law_sums_here", "_law_told", "_law_other", "_law_again", "_law_standing", "_law_due", "_law_order", "_law_moved", "_law_renamed_here", "_law_place"]
theorem sc_lw : FnScope ["_law_script", "_law_hand_here", "_law_turn", "_law_places", "_law_fact_here", "_law_every", "_law_dues", "_law_row", "_law_sums_here", "_law_told", "_law_other", "_law_again", "_law_standing", "_law_due", "_law_order", "_law_moved", "_law_renamed_here", "_law_place"] ["_law_script"] (defScope s_law) := ⟨rfl, rfl, rfl, by decide +kernel, rfl, by decide +kernel, by decide +kernel⟩
/-- the body of the turns -/
def lawTurn : List Stmt := match (defBody s_law).drop 2 with
  | .For _ _ b _ _ :: _ => b
  | _ => []
end
end K83
namespace K83
open PySem PySem.Spec PyProof.Rows L2
section
variable {P : Program} {w : World} {K : PySem.W.Frag} {mg : Str → Option Value} {base : Heap} {k : Nat} {f : Addr} {fd : FuncData}
/-! ### the last of a turn: places in another order -/
theorem rgV_0 (n : Nat) : rgV 0 (n : Int) = (List.range n).map nV := by
  have e : ((n : Int) - 0).toNat = n := by omega
  unfold rgV
  rw [e]
  refine List.map_congr_left fun i _ => ?_
  show V.int (0 + (i : Int)) = V.int (i : Int)
  rw [Int.zero_add]
theorem range_perm_nil {n : Nat} {S : List Nat} (h : S.Perm (List.range n)) : S.length = n := by rw [h.length_eq, List.length_range]
section
variable {outer : List Env} {s : Shared} {H : Hp} {E : XK} {cdv : Value}
theorem lw_p13 (T : Top K mg) (hr : Room 13 (callerA.deeper (envOfC "law" (defScope s_law) s.heap.objs.size f cdv))) :
    ∃ t, PSs (cxOf CX0 P w K mg base nLW "law" (defScope s_law) f cdv callerA outer s H E).nox (lawTurn.drop 13) t ∧
      ∀ (D : Ends) (H1 : Hp) (h c : Addr) (n : Nat) (G r : List Bool) (el d sl : Addr) (kvs : List (Key × V)) (ps : List Addr) (tv : V) (y0 y2 y10 y11 y12 y13 y14 y15 y16 y17 : Option V),
        LJ H1 h c n G el d sl kvs ps tv → r.length = n →
        (∀ H' y14' y15' y16' y17', Hx h c H1 H' → D.nx [y0, some (.ref h), y2, some (nV n), some (rV G), some (.ref el), some (.ref d), some (rV r), some (.ref sl), some tv, y10, y11, y12, y13, y14', y15', y16', y17'] H') →
        t D [y0, some (.ref h), y2, some (nV n), some (rV G), some (.ref el), some (.ref d), some (rV r), some (.ref sl), some tv, y10, y11, y12, y13, y14, y15, y16, y17] H1 := by
  obtain ⟨f1, fd1, F1, g1, b1⟩ := T.d_law_shuffled
  have G1 := ok_law_shuffled (P := P) (w := w) (base := base) (k := 11) T F1
  obtain ⟨f2, fd2, F2, g2, b2⟩ := T.d_law_renamed
  have G2 := ok_law_renamed (P := P) (w := w) (base := base) (k := 11) T F2
  obtain ⟨f5, fd5, F5, g5, b5⟩ := T.d_sum_fact
  have G5 := ok_sum_fact (P := P) (w := w) (base := base) (k := 9) T F5
  obtain ⟨f8, fd8, F8, g8, b8⟩ := T.d_looks
  have G8 := ok_looks (P := P) (w := w) (base := base) (k := 1) T F8
  have hu := hu_of hr
  refine ⟨_, pss_cons (ps_set (i := 14) sc_lw.nd rfl (.inl rfl) (pe_call G1 hr (by rfl) g1 F1.kp b1 .nil pass0 (pa_cons (pv 1) (pa_cons (pe_listRg (by rfl) (by rfl) T.n_list (prg_1 (by rfl) T.n_range (pv 3))) pa_nil))))
    (pss_cons (ps_set (i := 15) sc_lw.nd rfl (.inl rfl) (pe_join pe_str (pe_lc (own := [("_law_place", 17)]) (g := gName 17) (tt := tYes) rfl sc_lw.nd (pi_list (pv 14)) (blkOk_by (N := nLW) (sc := defScope s_law) (by decide +kernel))
      (fun _ _ _ _ _ => pg_name (i := 17) sc_lw.nd rfl (Or.inl rfl)) (fun _ _ _ _ _ => pts_nil) (fun _ _ _ _ _ => pe_item_str (pv 7) (pv 17) (fun _ _ => rfl)))))
    (pss_cons (ps_set (i := 16) sc_lw.nd rfl (.inl rfl) (pe_call G2 hr (by rfl) g2 F2.kp b2 .nil pass0 (pa_cons (pv 3) (pa_cons (pv 4) (pa_cons (pv 14) pa_nil)))))
    (pss_one (ps_if (PW.pt (pw_or (pt_cmpR (op_neD hr.units) (pe_call G8 hr (by rfl) g8 F8.kp b8 .nil pass0 (pa_cons (pv 16) (pa_cons (pv 15) pa_nil))) (pe_dget hu (pv 6) (pv 7) (fun _ _ => rfl)) (nomark _))
      (pw_or1 (pt_cmpR op_ne (pe_cmp (pc_isN (pe_call G5 hr (by rfl) g5 F5.kp b5 .nil pass0 (pa_cons (pv 16) pa_nil))) rfl) (pe_cmpR op_eq (pe_callB call_len_seq (by rfl) T.n_len PySem.boot_len (pa_cons (pv 8) pa_nil)) pe_int (nomark _)) (nomark _))))) (pss_one (ps_ret pe_bl)) pss_nil)))), ?_⟩
  intro D H1 h c n G r el d sl kvs ps tv y0 y2 y10 y11 y12 y13 y14 y15 y16 y17 J hrl nx
  have hG := J.g
  have h4 := J.four
  refine ⟨_, rfl, _, rfl, n, rfl, RgOk.of_le (by omega) (by omega) (by omega) (by omega), fun q nq => ?_⟩
  rw [rgV_0]
  have s1 := same_upd (o := .lst ((List.range n).map nV)) nq
  refine ⟨h, c, q, List.range n, rfl, SqL.of upd_same, by rw [List.length_range]; omega, J.hand.same s1, fun H2 p S x2 hp hS => ?_⟩
  have J2 := (J.same s1).hx x2
  have hSl := range_perm_nil hp
  have x12 := (Hx.of J.hand s1).trans x2
  clear s1 x2
  refine ⟨⟨_, rfl⟩, _, rfl, p, rfl, ⟨_, SqL.of hS⟩, fun D0 nD => ?_⟩
  have hR : ∀ H' o, Same H2 H' → Same H2 (upd H' D0 o) := fun H' o s => sm_free s nD
  refine lc_it walk_list (LcR (Same H2) D0 (fun i => (((S.take i).map fun p => r.getD p false)).map cV)) (LcR.start hR (Same.refl H2) rfl) (fun _ _ _ q => q.1.seq (SqL.of hS)) ?_ ?_
  · intro i x H3 H4 hi ⟨s3, d3⟩ ⟨e, hx⟩
    subst e
    rw [List.getElem?_map] at hx
    obtain ⟨v, hv, rfl⟩ := Option.map_eq_some_iff.mp hx
    have hvn : v < n := List.mem_range.mp (hp.mem_iff.mp (List.mem_of_getElem? hv))
    refine ⟨rfl, _, rfl, _, rfl, _, _, bc (r.getD v false), rfl, rfl, by omega, by omega, ?_, ?_, ?_⟩
    · rw [rS_len]
      omega
    · rw [Int.toNat_natCast]
      exact rS_item (by omega)
    · refine LcR.add hR s3 d3 ?_ ?_
      · rw [List.take_add_one, hv, List.map_append, List.map_append] <;> rfl
      · rw [List.length_map, List.length_map, List.length_take]
        exact small (by omega)
  · intro H3 ⟨s3, d3⟩
    have e : S.take (S.map nV).length = S := List.take_of_length_le (by simp)
    dsimp only at d3
    rw [e] at d3
    have J3 := J2.same s3
    have hS3 := s3 _ _ hS
    let mv : List Bool := S.map fun p => r.getD p false
    have hml : mv.length = n := by rw [List.length_map, hSl]
    have em : (mv.map cS).map V.str = mv.map cV := List.map_map
    refine ⟨_, D0, mv.map cS, rfl, rfl, .inl (SqL.of (by rw [em]; exact d3)), join_size _ (by omega), ?_⟩
    rw [join_signs]
    refine ⟨_, rfl, _, rfl, _, rfl, G, n, p, S, rfl, hG, SqL.of hS3, hp, fun H5 s5 => ?_⟩
    have J5 := J3.same s5
    have hGr : FactOk (renF G n S) n := ⟨length_renF G n S, hG.one, hG.six⟩
    refine ⟨_, rfl, _, rfl, renF G n S, mv, rfl, by rw [hml]; exact hGr, fun H6 pa ca s6 hpa hlk => ?_⟩
    rw [hml] at hlk
    have J6 := J5.same s6
    obtain ⟨pb, qb, vb, hb, lb⟩ := J6.du r (mem_all.mpr hrl)
    have eq := hlk.uniq (lk_renF hp lb)
    refine ⟨_, rfl, _, rfl, d, .ref pb, rfl, dget_of J6.d vb, ?_⟩
    refine ⟨pD ca, pD qb, dp_pair hpa, dp_pair hb, rfl, rfl, _, rfl, ?_⟩
    rw [pD_eqv, decide_eq_true (Prod.ext eq.1 eq.2)]
    refine iteF ?_
    have x6 : Hx h c H1 H6 := x12.trans ((Hx.of J2.hand s3).trans ((Hx.of J3.hand s5).trans (Hx.of J5.hand s6)))
    by_cases hs : IsSum G n
    · refine ⟨_, rfl, renF G n S, n, rfl, hGr, fun _ H7 p7 t7 s7 _ _ => ?_, fun hno => absurd ((isSum_ren hp).mpr hs) hno⟩
      have J7 := J6.same s7
      have hpl : ps.length = 1 := by
        have := Paired.length J7.su
        rw [sumsL_yes hG.len hs] at this
        exact this
      refine ⟨_, rfl, sl, _, rfl, .inl (SqL.of J7.sl), rfl, rfl, _, rfl, ?_⟩
      rw [List.length_map, hpl, decide_eq_false (show ¬ V.ref p7 = V.non from fun z => by cases z), decide_eq_false (show ¬ V.int ((1 : Nat) : Int) = V.int 0 from fun z => by cases z)]
      exact iteF (nx _ _ _ _ _ (x6.trans (Hx.of J6.hand s7)))
    · refine ⟨_, rfl, renF G n S, n, rfl, hGr, fun hyes => absurd ((isSum_ren hp).mp hyes) hs, fun _ H7 s7 => ?_⟩
      have J7 := J6.same s7
      have hpl : ps.length = 0 := by
        have := Paired.length J7.su
        rw [sumsL_no hG.len hs] at this
        exact this
      refine ⟨_, rfl, sl, _, rfl, .inl (SqL.of J7.sl), rfl, rfl, _, rfl, ?_⟩
      rw [List.length_map, hpl, decide_eq_true (show V.non = V.non from rfl), decide_eq_true (show V.int ((0 : Nat) : Int) = V.int 0 from rfl)]
      exact iteF (nx _ _ _ _ _ (x6.trans (Hx.of J6.hand s7)))
end
end
end K83
namespace K83
open PySem PySem.Spec PyProof.Rows L2
section
variable {P : Program} {w : World} {K : PySem.W.Frag} {mg : Str → Option Value} {base : Heap} {k : Nat} {f : Addr} {fd : FuncData}
/-! ### a turn: the fact turned about -/
section
variable {outer : List Env} {s : Shared} {H : Hp} {E : XK} {cdv : Value}
theorem turn_ok {G : List Bool} {n : Nat} (h : FactOk G n) : FactOk (turn G) n := ⟨by rw [length_turn]; exact h.len, h.one, h.six⟩
theorem sums_one {H : Hp} {ps : List Addr} {G : List Bool} {n : Nat} (hl : G.length = 2 ^ n) (hs : IsSum G n) (su : SumsAt H ps (sumsL G n)) : ∃ p t, ps = [p] ∧ H p = some (.tup [.ref t, cV (G.getD 0 false)]) ∧ H t = some (.tup ((hang G (dots n)).map nV)) := by
  rw [sumsL_yes hl hs] at su
  cases su with
  | cons a b =>
    cases b
    obtain ⟨t, e1, e2⟩ := a
    exact ⟨_, t, rfl, e1, e2⟩
theorem sums_none {H : Hp} {ps : List Addr} {G : List Bool} {n : Nat} (hl : G.length = 2 ^ n) (hs : ¬ IsSum G n) (su : SumsAt H ps (sumsL G n)) : ps = [] := by
  rw [sumsL_no hl hs] at su
  cases su
  rfl
theorem ten_at (b : Bool) : (("10" : String) : Str).cps[((b.toNat : Nat) : Int).toNat]? = some (bc (!b)) := by cases b <;> decide +kernel
theorem lw_p10 (T : Top K mg) (hr : Room 13 (callerA.deeper (envOfC "law" (defScope s_law) s.heap.objs.size f cdv))) :
    ∃ t, PSs (cxOf CX0 P w K mg base nLW "law" (defScope s_law) f cdv callerA outer s H E).nox (lawTurn.drop 10) t ∧
      ∀ (D : Ends) (H1 : Hp) (h c : Addr) (n : Nat) (G : List Bool) (el d sl : Addr) (kvs : List (Key × V)) (ps : List Addr) (tv : V) (y0 y2 y7 y11 y12 y13 y14 y15 y16 y17 : Option V),
        LJ H1 h c n G el d sl kvs ps tv →
        (∀ H' y7' y14' y15' y16' y17', Hx h c H1 H' → D.nx [y0, some (.ref h), y2, some (nV n), some (rV G), some (.ref el), some (.ref d), y7', some (.ref sl), some tv, some (rV (turn G)), y11, y12, y13, y14', y15', y16', y17'] H') →
        t D [y0, some (.ref h), y2, some (nV n), some (rV G), some (.ref el), some (.ref d), y7, some (.ref sl), some tv, some (rV (turn G)), y11, y12, y13, y14, y15, y16, y17] H1 := by
  obtain ⟨t13, g13, r13⟩ := lw_p13 (P := P) (w := w) (base := base) (outer := outer) (s := s) (H := H) (E := E) T hr
  obtain ⟨f1, fd1, F1, g1, b1⟩ := T.d_law_draw
  have G1 := ok_law_draw (P := P) (w := w) (base := base) (k := 12) T F1
  obtain ⟨f5, fd5, F5, g5, b5⟩ := T.d_sum_fact
  have G5 := ok_sum_fact (P := P) (w := w) (base := base) (k := 9) T F5
  obtain ⟨f6, fd6, F6, g6, b6⟩ := T.d_unlike_looks
  have G6 := ok_unlike_looks (P := P) (w := w) (base := base) (k := 1) T F6
  obtain ⟨f8, fd8, F8, g8, b8⟩ := T.d_looks
  have G8 := ok_looks (P := P) (w := w) (base := base) (k := 1) T F8
  have hu := hu_of hr
  refine ⟨_, pss_cons (ps_set (i := 7) sc_lw.nd rfl (.inr rfl) (pe_ix ix_list (pv 5) (pe_call G1 hr (by rfl) g1 F1.kp b1 .nil pass0 (pa_cons (pv 1) (pa_cons (pe_callB call_len_seq (by rfl) T.n_len PySem.boot_len (pa_cons (pv 5) pa_nil)) pa_nil))) (fun _ _ => rfl)))
    (pss_cons (ps_if (PW.pt (pw_or (pt_cmpR (op_neD hr.units) (pe_call G8 hr (by rfl) g8 F8.kp b8 .nil pass0 (pa_cons (pv 10) (pa_cons (pv 7) pa_nil))) (pe_dget hu (pv 6) (pv 7) (fun _ _ => rfl)) (nomark _))
      (pw_or1 (pt_cmpR op_ne (pe_cmp (pc_isN (pe_call G6 hr (by rfl) g6 F6.kp b6 .nil pass0 (pa_cons (pv 10) pa_nil))) rfl) (pe_cmp (pc_isN (pv 9)) rfl) (nomark _))))) (pss_one (ps_ret pe_bl)) pss_nil)
    (pss_cons (ps_if (PW.pt (pw_and (pt_cmpR op_eq (pe_callB call_len_seq (by rfl) T.n_len PySem.boot_len (pa_cons (pv 8) pa_nil)) pe_int (nomark _))
      (pw_and1 (pt_cmpR (op_neD hr.units) (pe_call G5 hr (by rfl) g5 F5.kp b5 .nil pass0 (pa_cons (pv 10) pa_nil))
        (pe_tup (pa_cons (pe_ix ix_tup (pe_ix ix_list (pv 8) pe_int (fun _ _ => rfl)) pe_int (fun _ _ => rfl))
          (pa_cons (pe_item_str pe_str (pe_callTy call_int_str (by rfl) T.n_int (by decide +kernel) (pa_cons (pe_ix ix_tup (pe_ix ix_list (pv 8) pe_int (fun _ _ => rfl)) pe_int (fun _ _ => rfl)) pa_nil)) (fun _ _ => rfl)) pa_nil))) (nomark _))))) (pss_one (ps_ret pe_bl)) pss_nil)
    g13)), ?_⟩
  intro D H1 h c n G el d sl kvs ps tv y0 y2 y7 y11 y12 y13 y14 y15 y16 y17 J nx
  have hG := J.g
  have h4 := J.four
  have hpow := pow6 hG.six
  have hpos : 0 < 2 ^ n := Nat.pow_pos (by decide)
  have hal := length_all n
  refine ⟨_, rfl, _, rfl, _, rfl, el, _, rfl, .inl (SqL.of J.el), h, c, 2 ^ n, ?_, hpos, by omega, J.hand, fun H2 v x2 hv => ?_⟩
  · rw [List.length_map, hal] <;> rfl
  have J2 := J.hx x2
  obtain ⟨r, hrv⟩ : ∃ r, (fit (dots n))[v]? = some r := ⟨_, List.getElem?_eq_getElem (by omega)⟩
  have hrm : r ∈ fit (dots n) := List.mem_of_getElem? hrv
  have hrl : r.length = n := mem_all.mp hrm
  refine ⟨el, _, _, rV r, rfl, rfl, SqL.of J2.el, atI_nat (by rw [List.getElem?_map, hrv] <;> rfl), ?_⟩
  have hT := turn_ok hG
  refine ⟨_, rfl, _, rfl, turn G, r, rfl, by rw [hrl]; exact hT, fun H3 pa ca s3 hpa hlk => ?_⟩
  rw [hrl] at hlk
  have J3 := J2.same s3
  obtain ⟨pb, qb, vb, hb, lb⟩ := J3.du r hrm
  have eq := hlk.uniq (lk_turn hG.len lb)
  refine ⟨_, rfl, _, rfl, d, .ref pb, rfl, dget_of J3.d vb, ?_⟩
  refine ⟨pD ca, pD qb, dp_pair hpa, dp_pair hb, rfl, rfl, _, rfl, ?_⟩
  rw [pD_eqv, decide_eq_true (Prod.ext eq.1 eq.2)]
  refine iteF ?_
  have x3 := x2.trans (Hx.of x2.2 s3)
  by_cases hs : IsSum G n
  · have hsT := (isSum_turn hG.len).mpr hs
    refine ⟨_, rfl, turn G, n, rfl, hT, fun _ H4 s4 => ?_, fun hno => absurd hsT hno⟩
    have J4 := J3.same s4
    have etv : tv = .non := by
      rcases J4.tv with q | q
      · exact q.2
      · exact absurd hs q.1
    refine ⟨_, rfl, rfl, _, rfl, ?_⟩
    rw [decide_eq_true (show V.non = V.non from rfl), decide_eq_true etv]
    refine iteF ?_
    obtain ⟨p, t, eps, hp, ht⟩ := sums_one hG.len hs J4.su
    have hsl := J4.sl
    rw [eps] at hsl
    refine ⟨_, rfl, sl, _, rfl, .inl (SqL.of hsl), rfl, _, rfl, ?_⟩
    rw [decide_eq_true (show V.int ((([p] : List Addr).map V.ref).length : Nat) = V.int 1 from rfl)]
    refine iteT ?_
    refine ⟨_, rfl, turn G, n, rfl, hT, fun _ H5 p5 t5 s5 hp5 ht5 => ?_, fun hno => absurd hsT hno⟩
    have hsl5 := s5 _ _ hsl
    have hp' := s5 _ _ hp
    have ht' := s5 _ _ ht
    refine ⟨_, rfl, sl, _, 0, .ref p, rfl, rfl, SqL.of hsl5, rfl, p, _, 0, .ref t, rfl, rfl, SqT.of hp', rfl, ?_⟩
    refine ⟨_, rfl, sl, _, 0, .ref p, rfl, rfl, SqL.of hsl5, rfl, p, _, 1, cV (G.getD 0 false), rfl, rfl, SqT.of hp', rfl, ?_⟩
    refine ⟨_, _, rfl, int_cS _, (by show 1 ≤ 640; decide), _, _, bc (!(G.getD 0 false)), rfl, rfl, by omega, by cases (G.getD 0 false) <;> decide, by cases (G.getD 0 false) <;> decide +kernel, ten_at _, ?_⟩
    refine ⟨(by show 2 ≤ sizeLine; decide), fun u nu => ?_⟩
    have s6 := same_upd (o := .tup [.ref t, cV (!(G.getD 0 false))]) nu
    refine ⟨sD (hang (turn G) (dots n)) ((turn G).getD 0 false), sD (hang G (dots n)) (!(G.getD 0 false)), dp_sum (s6 _ _ hp5) (s6 _ _ ht5), dp_sum upd_same (s6 _ _ ht'), sD_shaped _ _, sD_shaped _ _, _, rfl, ?_⟩
    rw [hang_turn (σ := dots n) (by rw [length_dots]; exact hG.len), zero_turn hG.len, eqv_same (sD_lay _ _)]
    refine iteF ?_
    have J6 := (J4.same s5).same s6
    exact r13 D _ h c n G r el d sl kvs ps tv _ _ _ _ _ _ _ _ _ _ J6 hrl fun H' _ _ _ _ x' => nx H' _ _ _ _ _ ((x3.trans (Hx.of J3.hand (s4.trans (s5.trans s6)))).trans x')
  · have hsT : ¬ IsSum (turn G) n := fun z => hs ((isSum_turn hG.len).mp z)
    refine ⟨_, rfl, turn G, n, rfl, hT, fun hyes => absurd hyes hsT, fun _ H4 p4 r0 r1 s4 _ _ => ?_⟩
    have J4 := J3.same s4
    have etv : tv ≠ .non := by
      rcases J4.tv with q | ⟨_, p, _, _, e, _⟩
      · exact absurd q.1 hs
      · rw [e]
        exact fun z => by cases z
    refine ⟨_, rfl, rfl, _, rfl, ?_⟩
    rw [decide_eq_false (show ¬ V.ref p4 = V.non from fun z => by cases z), decide_eq_false etv]
    refine iteF ?_
    have eps := sums_none hG.len hs J4.su
    have hsl := J4.sl
    rw [eps] at hsl
    refine ⟨_, rfl, sl, _, rfl, .inl (SqL.of hsl), rfl, _, rfl, ?_⟩
    rw [decide_eq_false (show ¬ V.int ((([] : List Addr).map V.ref).length : Nat) = V.int 1 from fun z => by cases z)]
    refine iteF ?_
    exact r13 D _ h c n G r el d sl kvs ps tv _ _ _ _ _ _ _ _ _ _ J4 hrl fun H' _ _ _ _ x' => nx H' _ _ _ _ _ ((x3.trans (Hx.of J3.hand s4)).trans x')
end
end
end K83
namespace K83
open PySem PySem.Spec PyProof.Rows L2
section
variable {P : Program} {w : World} {K : PySem.W.Frag} {mg : Str → Option Value} {base : Heap} {k : Nat} {f : Addr} {fd : FuncData}
/-! ### a turn: four standings -/
abbrev mV (m : Option Bool) : V := .str (cM m)
section
variable {outer : List Env} {s : Shared} {H : Hp} {E : XK} {cdv : Value}
theorem lw_p8 (T : Top K mg) (hr : Room 13 (callerA.deeper (envOfC "law" (defScope s_law) s.heap.objs.size f cdv))) :
    ∃ t, PSs (cxOf CX0 P w K mg base nLW "law" (defScope s_law) f cdv callerA outer s H E).nox (lawTurn.drop 8) t ∧
      ∀ (D : Ends) (H1 : Hp) (h c : Addr) (n : Nat) (G : List Bool) (el d sl : Addr) (kvs : List (Key × V)) (ps : List Addr) (tv : V) (y0 y2 y7 y10 y11 y12 y13 y14 y15 y16 y17 : Option V),
        LJ H1 h c n G el d sl kvs ps tv →
        (∀ H' y7' y11' y12' y13' y14' y15' y16' y17', Hx h c H1 H' → D.nx [y0, some (.ref h), y2, some (nV n), some (rV G), some (.ref el), some (.ref d), y7', some (.ref sl), some tv, some (rV (turn G)), y11', y12', y13', y14', y15', y16', y17'] H') →
        t D [y0, some (.ref h), y2, some (nV n), some (rV G), some (.ref el), some (.ref d), y7, some (.ref sl), some tv, y10, y11, y12, y13, y14, y15, y16, y17] H1 := by
  obtain ⟨t10, g10, r10⟩ := lw_p10 (P := P) (w := w) (base := base) (outer := outer) (s := s) (H := H) (E := E) T hr
  obtain ⟨f1, fd1, F1, g1, b1⟩ := T.d_law_draw
  have G1 := ok_law_draw (P := P) (w := w) (base := base) (k := 12) T F1
  obtain ⟨f2, fd2, F2, g2, b2⟩ := T.d_law_turned
  have G2 := ok_law_turned (P := P) (w := w) (base := base) (k := 12) T F2
  obtain ⟨f3, fd3, F3, g3, b3⟩ := T.d_law_hanging
  have G3 := ok_law_hanging (P := P) (w := w) (base := base) (k := 11) T F3
  obtain ⟨f4, fd4, F4, g4, b4⟩ := T.d_hanging
  have G4 := ok_hanging (P := P) (w := w) (base := base) (k := 9) T F4
  have hu := hu_of hr
  have hgd : (cxOf CX0 P w K mg base nLW "law" (defScope s_law) f cdv callerA outer s H E).nox.A.guards = some [] := rfl
  refine ⟨_, pss_cons (ps_set (i := 10) sc_lw.nd rfl (.inl rfl) (pe_call G2 hr (by rfl) g2 F2.kp b2 .nil pass0 (pa_cons (pv 4) pa_nil)))
    (pss_cons (ps_for PassesOwn.never rfl (pi_range1 (by rfl) T.n_range (pa_cons pe_int pa_nil)) (pg_name (i := 11) sc_lw.nd rfl (.inl rfl))
      (pss_cons (ps_set (i := 12) sc_lw.nd rfl (.inl rfl) (pe_join pe_str (pe_lc (own := [("_law_place", 17)]) (g := gName 17) (tt := tYes) rfl sc_lw.nd (pi_range1 (by rfl) T.n_range (pa_cons (pv 3) pa_nil)) (blkOk_by (N := nLW) (sc := defScope s_law) (by decide +kernel))
        (fun _ _ _ _ _ => pg_name (i := 17) sc_lw.nd rfl (Or.inl rfl)) (fun _ _ _ _ _ => pts_nil)
        (fun _ _ _ _ _ => pe_item_str pe_str (pe_ix (r := rIxL K) ix_list (pe_lst (pa_cons pe_int (pa_cons pe_int (pa_cons pe_int (pa_cons pe_int pa_nil))))) (pe_call G1 hr (by rfl) g1 F1.kp b1 .nil pass0 (pa_cons (pv 1) (pa_cons pe_int pa_nil))) (fun _ _ => rfl)) (fun _ _ => rfl)))))
      (pss_cons (ps_set (i := 13) sc_lw.nd rfl (.inl rfl) (pe_callTy call_tuple_of (by rfl) T.n_tuple (by decide +kernel) (pa_cons (pe_call G3 hr (by rfl) g3 F3.kp b3 .nil pass0 (pa_cons (pv 4) (pa_cons (pv 12) pa_nil))) pa_nil)))
      (pss_one (ps_if (PW.pt (pw_or (pt_cmpR op_ne (pe_callB (call_reprD hgd hr.units) (by rfl) T.n_repr (by decide +kernel) (pa_cons (pe_call G4 hr (by rfl) g4 F4.kp b4 .nil pass0 (pa_cons (pv 4) (pa_cons (pv 12) pa_nil))) pa_nil))
          (pe_callB (call_reprD hgd hr.units) (by rfl) T.n_repr (by decide +kernel) (pa_cons (pv 13) pa_nil)) (nomark _))
        (pw_or1 (pt_cmpR (op_neD hr.units) (pe_call G4 hr (by rfl) g4 F4.kp b4 .nil pass0 (pa_cons (pv 10) (pa_cons (pv 12) pa_nil))) (pv 13) (nomark _))))) (pss_one (ps_ret pe_bl)) pss_nil)))))
    g10), ?_⟩
  intro D H1 h c n G el d sl kvs ps tv y0 y2 y7 y10 y11 y12 y13 y14 y15 y16 y17 J nx
  have hG := J.g
  have h4 := J.four
  have hpow := pow6 hG.six
  refine ⟨_, rfl, G, rfl, by rw [hG.len]; omega, fun H2 s2 => ?_⟩
  have J2 := J.same s2
  refine ⟨4, rfl, by omega, by omega, for_it walk_range0 (fun i σ' H' => (∃ y11 y12 y13 y17, σ' = [y0, some (.ref h), y2, some (nV n), some (rV G), some (.ref el), some (.ref d), y7, some (.ref sl), some tv, some (rV (turn G)), y11, y12, y13, y14, y15, y16, y17]) ∧ Hx h c H2 H')
    ⟨⟨_, _, _, _, rfl⟩, Hx.refl J2.hand⟩ (fun _ _ _ _ _ => trivial) ?_ ?_⟩
  · rintro i x σ' H3 H3' hi ⟨⟨z11, z12, z13, z17, rfl⟩, x3⟩ ⟨rfl, rfl⟩
    refine ⟨⟨_, rfl⟩, _, rfl, n, rfl, by omega, by omega, fun D0 nD => ?_⟩
    obtain ⟨nh, nc⟩ := x3.2.ne nD
    refine lc_it walk_range0 (fun i H' => Hx h c H3' H' ∧ ∃ l : List (Option Bool), l.length = i ∧ H' D0 = some (.lst (l.map mV))) ⟨Hx.of x3.2 (same_upd nD), [], rfl, upd_same⟩ (fun _ _ _ _ => trivial) ?_ ?_
    · rintro j x Ha Hb hj ⟨xa, l, hl, da⟩ ⟨rfl, rfl⟩
      have hj : j < n := by rw [Int.toNat_natCast] at hj; exact hj
      refine ⟨rfl, (by show 4 ≤ sizeLine; decide), fun q nq => ?_⟩
      have sq := same_upd (o := .lst [.int 0, .int 1, .int 2, .int 2]) nq
      have xq := xa.trans (Hx.of xa.2 sq)
      have dq := sq _ _ da
      have hq : (upd Hb q (.lst [.int 0, .int 1, .int 2, .int 2])) q = some (.lst [.int 0, .int 1, .int 2, .int 2]) := upd_same
      obtain ⟨nqh, nqc⟩ := xa.2.ne nq
      refine ⟨_, rfl, h, c, 4, rfl, by decide, by decide, xq.2, fun Hc v xc hv => ?_⟩
      have hqc := xc.keep nqh.symm hq
      have dc := xc.keep nh.symm dq
      obtain ⟨z1, z2, z3⟩ := mkM_lt hv
      have zz := ixM_le hv
      refine ⟨q, _, _, _, rfl, rfl, SqL.of hqc, ixM_at hv, _, _, mc (mkM v), rfl, rfl, by omega, by omega, z2, mkM_at hv, _, dc, ?_, ?_, l ++ [mkM v], ?_, ?_⟩
      · rw [List.length_map]
        exact small (by omega)
      · exact Hx.free x3.2 (xq.trans xc) nD
      · rw [List.length_append, hl] <;> rfl
      · rw [upd_same, List.map_append] <;> rfl
    · rintro Ha ⟨xa, l, hl, da⟩
      have hl : l.length = n := by rw [Int.toNat_natCast] at hl; exact hl
      have em : (l.map cM).map V.str = l.map mV := List.map_map
      refine ⟨_, D0, l.map cM, rfl, rfl, .inl (SqL.of (by rw [em]; exact da)), join_msize _ (by omega), ?_⟩
      rw [join_marks]
      have hGl : FactOk G l.length := by rw [hl]; exact hG
      have hTl : FactOk (turn G) l.length := turn_ok hGl
      have sh := hD_shows (hang_lots4 G (σ := l) (by omega))
      refine ⟨_, rfl, _, rfl, G, l, rfl, hGl, fun H5 lp s5 _ hlp => ?_⟩
      refine ⟨lp, _, rfl, .inl ⟨SqL.of hlp, fun t nt => ?_⟩⟩
      have s6 := same_upd (o := .tup ((hang G l).map nV)) nt
      have ht : (upd H5 t (.tup ((hang G l).map nV))) t = some (.tup ((hang G l).map nV)) := upd_same
      generalize upd H5 t (.tup ((hang G l).map nV)) = H6 at s6 ht
      refine ⟨_, rfl, _, rfl, G, l, rfl, hGl, fun H7 t7 s7 ht7 => ?_⟩
      have ht' := s7 _ _ ht
      refine ⟨_, hD (hang G l), rfl, dp_hung ht7, sh.1, sh.2.1, sh.2.2.1, sh.2.2.2, .inr ⟨_, rfl⟩, ?_⟩
      refine ⟨_, rfl, _, hD (hang G l), rfl, dp_hung ht', sh.1, sh.2.1, sh.2.2.1, sh.2.2.2, .inr ⟨_, rfl⟩, ?_⟩
      refine ⟨rfl, _, rfl, ?_⟩
      rw [decide_eq_true (show V.str (hD (hang G l)).shown = V.str (hD (hang G l)).shown from rfl)]
      refine iteF ?_
      refine ⟨_, rfl, _, rfl, turn G, l, rfl, hTl, fun H8 t8 s8 ht8 => ?_⟩
      refine ⟨_, rfl, hD (hang (turn G) l), hD (hang G l), dp_hung ht8, dp_hung (s8 _ _ ht'), hD_shaped _, hD_shaped _, _, rfl, ?_⟩
      rw [hang_turn hGl.len, eqv_same (hD_lay _)]
      refine iteF ?_
      exact ⟨⟨_, _, _, _, rfl⟩, (x3.trans xa).trans (Hx.of xa.2 (s5.trans (s6.trans (s7.trans s8))))⟩
  · rintro σ' H3 ⟨⟨z11, z12, z13, z17, rfl⟩, x3⟩
    exact r10 _ H3 h c n G el d sl kvs ps tv _ _ _ _ _ _ _ _ _ _ (J2.hx x3) fun H' _ _ _ _ _ x' => nx H' _ _ _ _ _ _ _ _ (((Hx.of J.hand s2).trans x3).trans x')
end
end
end K83
namespace K83
open PySem PySem.Spec PyProof.Rows L2
section
variable {P : Program} {w : World} {K : PySem.W.Frag} {mg : Str → Option Value} {base : Heap} {k : Nat} {f : Addr} {fd : FuncData}
/-! ### a turn: sums and rows that are unlike -/
theorem row_lay {r : List Bool} (h : r.length ≤ 4) : (PyData.str (rS r)).canLay0 = true := by
  have all : ∀ n ∈ List.range 5, ∀ r ∈ fit (dots n), (PyData.str (rS r)).canLay0 = true := by decide +kernel
  exact all r.length (List.mem_range.mpr (by omega)) r (mem_all.mpr rfl)
def rrD (a b : List Bool) : PyData := .tuple [.str (rS a), .str (rS b)]
theorem rrD_lay {a b : List Bool} (ha : a.length ≤ 4) (hb : b.length ≤ 4) : (rrD a b).canLay0 = true := by
  show ((PyData.str (rS a)).canLay0 && ((PyData.str (rS b)).canLay0 && true)) = true
  rw [row_lay ha, row_lay hb] <;> rfl
theorem rrD_shaped {a b : List Bool} (ha : a.length ≤ 4) (hb : b.length ≤ 4) : SeqAt.shaped (rrD a b) = true := by
  unfold SeqAt.shaped
  rw [rrD_lay ha hb] <;> rfl
section
variable {outer : List Env} {s : Shared} {H : Hp} {E : XK} {cdv : Value}
theorem lw_p4 (T : Top K mg) (hr : Room 13 (callerA.deeper (envOfC "law" (defScope s_law) s.heap.objs.size f cdv))) :
    ∃ t, PSs (cxOf CX0 P w K mg base nLW "law" (defScope s_law) f cdv callerA outer s H E).nox (lawTurn.drop 4) t ∧
      ∀ (D : Ends) (H1 : Hp) (h c : Addr) (n : Nat) (G : List Bool) (el d : Addr) (kvs : List (Key × V)) (y0 y2 y7 y8 y9 y10 y11 y12 y13 y14 y15 y16 y17 : Option V),
        Hand H1 h c → FactOk G n → n ≤ 4 → H1 el = some (.lst ((fit (dots n)).map rV)) → H1 d = some (.dK kvs) → Dues H1 (fn G n) kvs (fit (dots n)) →
        (∀ H' y3' y4' y5' y6' y7' y8' y9' y10' y11' y12' y13' y14' y15' y16' y17', Hx h c H1 H' → D.nx [y0, some (.ref h), y2, y3', y4', y5', y6', y7', y8', y9', y10', y11', y12', y13', y14', y15', y16', y17'] H') →
        t D [y0, some (.ref h), y2, some (nV n), some (rV G), some (.ref el), some (.ref d), y7, y8, y9, y10, y11, y12, y13, y14, y15, y16, y17] H1 := by
  obtain ⟨t8, g8', r8⟩ := lw_p8 (P := P) (w := w) (base := base) (outer := outer) (s := s) (H := H) (E := E) T hr
  obtain ⟨f1, fd1, F1, g1, b1⟩ := T.d_law_sums
  have G1 := ok_law_sums (P := P) (w := w) (base := base) (k := 10) T F1
  obtain ⟨f5, fd5, F5, g5, b5⟩ := T.d_sum_fact
  have G5 := ok_sum_fact (P := P) (w := w) (base := base) (k := 9) T F5
  obtain ⟨f6, fd6, F6, g6, b6⟩ := T.d_unlike_looks
  have G6 := ok_unlike_looks (P := P) (w := w) (base := base) (k := 1) T F6
  obtain ⟨f7, fd7, F7, g7, b7⟩ := T.d_law_is_unlike
  have G7 := ok_law_is_unlike (P := P) (w := w) (base := base) (k := 12) T F7
  have hu := hu_of hr
  have hgd : (cxOf CX0 P w K mg base nLW "law" (defScope s_law) f cdv callerA outer s H E).nox.A.guards = some [] := rfl
  refine ⟨_, pss_cons (ps_set (i := 8) sc_lw.nd rfl (.inl rfl) (pe_call G1 hr (by rfl) g1 F1.kp b1 .nil pass0 (pa_cons (pv 3) (pa_cons (pv 4) pa_nil))))
    (pss_cons (ps_set (i := 9) sc_lw.nd rfl (.inl rfl) (pe_call G6 hr (by rfl) g6 F6.kp b6 .nil pass0 (pa_cons (pv 4) pa_nil)))
    (pss_cons (ps_if (PW.pt (pw_or (pt_cmpR op_gt (pe_callB call_len_seq (by rfl) T.n_len PySem.boot_len (pa_cons (pv 8) pa_nil)) pe_int (nomark _))
      (pw_or (pt_cmpR op_ne (pe_callB (call_reprD hgd hr.units) (by rfl) T.n_repr (by decide +kernel) (pa_cons (pe_call G5 hr (by rfl) g5 F5.kp b5 .nil pass0 (pa_cons (pv 4) pa_nil)) pa_nil))
        (pe_callB (call_reprD hgd hr.units) (by rfl) T.n_repr (by decide +kernel) (pa_cons (pe_ix ix_list (pe_op op_cat (pv 8) (pe_lst (pa_cons pe_non pa_nil))) pe_int (fun _ _ => rfl)) pa_nil)) (nomark _))
      (pw_or1 (pt_cmpR op_ne (pe_cmp (pc_isN (pv 9)) rfl) (pe_cmpR op_eq (pe_callB call_len_seq (by rfl) T.n_len PySem.boot_len (pa_cons (pv 8) pa_nil)) pe_int (nomark _)) (nomark _)))))) (pss_one (ps_ret pe_bl)) pss_nil)
    (pss_cons (ps_if (PW.pt (pw_and (pt_cmp (pc_notN (pv 9))) (pw_and1 (PW.pt (pw_or (pt_not (pt_val (pe_call G7 hr (by rfl) g7 F7.kp b7 .nil pass0 (pa_cons (pv 9) (pa_cons (pv 6) pa_nil)))))
      (pw_or1 (pt_cmpR (op_neD hr.units) (pe_call G6 hr (by rfl) g6 F6.kp b6 .nil pass0 (pa_cons (pv 4) pa_nil)) (pv 9) (nomark _)))))))) (pss_one (ps_ret pe_bl)) pss_nil)
    g8'))), ?_⟩
  intro D H1 h c n G el d kvs y0 y2 y7 y8 y9 y10 y11 y12 y13 y14 y15 y16 y17 hH hG h4 hel hd hdu nx
  refine ⟨_, rfl, _, rfl, G, n, rfl, hG, fun H2 sl ps s2 hsl hsu => ?_⟩
  have x2 := Hx.of hH s2
  by_cases hs : IsSum G n
  · refine ⟨_, rfl, G, n, rfl, hG, fun _ H3 s3 => ?_, fun hno => absurd hs hno⟩
    have x3 := x2.trans (Hx.of x2.2 s3)
    have J : LJ H3 h c n G el d sl kvs ps .non := ⟨x3.2, hG, h4, s3 _ _ (s2 _ _ hel), s3 _ _ (s2 _ _ hd), hdu.mono fun t q e => s3 _ _ (s2 _ _ e), s3 _ _ hsl, hsu.same s3, .inl ⟨hs, rfl⟩⟩
    obtain ⟨p, t, eps, hp, ht⟩ := sums_one hG.len hs J.su
    have hsl3 := J.sl
    rw [eps] at hsl3
    refine ⟨_, rfl, sl, _, rfl, .inl (SqL.of hsl3), _, _, rfl, rfl, _, rfl, ?_⟩
    refine iteF ?_
    have sh := sD_shows (c := G.getD 0 false) (hang_lots4 G (σ := dots n) (by rw [length_dots]; exact h4))
    refine ⟨_, rfl, G, n, rfl, hG, fun _ H4 p4 t4 s4 hp4 ht4 => ?_, fun hno => absurd hs hno⟩
    refine ⟨_, sD (hang G (dots n)) (G.getD 0 false), rfl, dp_sum hp4 ht4, sh.1, sh.2.1, sh.2.2.1, sh.2.2.2, .inr ⟨_, rfl⟩, ?_⟩
    refine ⟨_, rfl, (by show 1 ≤ sizeLine; decide), fun b nb => ?_⟩
    have s5 := same_upd (o := .lst [.non]) nb
    have s45 := s4.trans s5
    have hb : (upd H4 b (.lst [.non])) b = some (.lst [.non]) := upd_same
    generalize upd H4 b (.lst [.non]) = H5 at s5 s45 hb
    refine ⟨sl, b, _, _, rfl, rfl, s45 _ _ hsl3, hb, (by show 2 ≤ sizeLine; decide), fun u nu => ?_⟩
    have s6 := same_upd (o := .lst (([p].map V.ref) ++ [.non])) nu
    have s46 := s45.trans s6
    have hu6 : (upd H5 u (.lst (([p].map V.ref) ++ [.non]))) u = some (.lst (([p].map V.ref) ++ [.non])) := upd_same
    generalize upd H5 u (.lst (([p].map V.ref) ++ [.non])) = H6 at s6 s46 hu6
    refine ⟨u, _, 0, .ref p, rfl, rfl, SqL.of hu6, rfl, ?_⟩
    refine ⟨_, sD (hang G (dots n)) (G.getD 0 false), rfl, dp_sum (s46 _ _ hp) (s46 _ _ ht), sh.1, sh.2.1, sh.2.2.1, sh.2.2.2, .inr ⟨_, rfl⟩, ?_⟩
    refine ⟨rfl, _, rfl, ?_⟩
    rw [decide_eq_true (show V.str (sD (hang G (dots n)) (G.getD 0 false)).shown = V.str (sD (hang G (dots n)) (G.getD 0 false)).shown from rfl)]
    refine iteF ?_
    refine ⟨_, rfl, _, rfl, sl, _, rfl, .inl (SqL.of (s46 _ _ hsl3)), rfl, rfl, _, rfl, ?_⟩
    rw [decide_eq_true (show V.non = V.non from rfl), decide_eq_true (show V.int ((([p] : List Addr).map V.ref).length : Nat) = V.int 1 from rfl)]
    refine iteF ?_
    refine ⟨_, rfl, _, rfl, ?_⟩
    rw [decide_eq_true (show V.non = V.non from rfl)]
    refine iteF (iteF ?_)
    have J6 := J.same s46
    exact r8 D H6 h c n G el d sl kvs ps .non _ _ _ _ _ _ _ _ _ _ _ J6 fun H' _ _ _ _ _ _ _ _ x' => nx H' _ _ _ _ _ _ _ _ _ _ _ _ _ _ _ ((x3.trans (Hx.of x3.2 s46)).trans x')
  · refine ⟨_, rfl, G, n, rfl, hG, fun hyes => absurd hyes hs, fun _ H3 pt r0 r s3 hpt told => ?_⟩
    have x3 := x2.trans (Hx.of x2.2 s3)
    have J : LJ H3 h c n G el d sl kvs ps (.ref pt) := ⟨x3.2, hG, h4, s3 _ _ (s2 _ _ hel), s3 _ _ (s2 _ _ hd), hdu.mono fun t q e => s3 _ _ (s2 _ _ e), s3 _ _ hsl, hsu.same s3, .inr ⟨hs, pt, r0, r, rfl, hpt, told⟩⟩
    have eps := sums_none hG.len hs J.su
    have hsl3 := J.sl
    rw [eps] at hsl3
    have hr0 : r0.length = n := mem_all.mp (List.mem_of_getElem? told.1)
    have hrn : r.length = n := by
      obtain ⟨_, i, hi, _⟩ := told
      exact mem_all.mp (List.mem_of_getElem? hi)
    have hbad : Bad G n r0 r := by
      obtain ⟨_, i, _, hb, _⟩ := told
      exact hb
    refine ⟨_, rfl, sl, _, rfl, .inl (SqL.of hsl3), _, _, rfl, rfl, _, rfl, ?_⟩
    refine iteF ?_
    have sh := non_shows
    refine ⟨_, rfl, G, n, rfl, hG, fun hyes => absurd hyes hs, fun _ H4 s4 => ?_⟩
    refine ⟨_, .none, rfl, .non, sh.1, sh.2.1, sh.2.2.1, sh.2.2.2, .inl rfl, ?_⟩
    refine ⟨_, rfl, (by show 1 ≤ sizeLine; decide), fun b nb => ?_⟩
    have s5 := same_upd (o := .lst [.non]) nb
    have s45 := s4.trans s5
    have hb : (upd H4 b (.lst [.non])) b = some (.lst [.non]) := upd_same
    generalize upd H4 b (.lst [.non]) = H5 at s5 s45 hb
    refine ⟨sl, b, _, _, rfl, rfl, s45 _ _ hsl3, hb, (by show 1 ≤ sizeLine; decide), fun u nu => ?_⟩
    have s6 := same_upd (o := .lst ((([] : List Addr).map V.ref) ++ [.non])) nu
    have s46 := s45.trans s6
    have hu6 : (upd H5 u (.lst ((([] : List Addr).map V.ref) ++ [.non]))) u = some (.lst ((([] : List Addr).map V.ref) ++ [.non])) := upd_same
    generalize upd H5 u (.lst ((([] : List Addr).map V.ref) ++ [.non])) = H6 at s6 s46 hu6
    refine ⟨u, _, 0, .non, rfl, rfl, SqL.of hu6, rfl, ?_⟩
    refine ⟨_, .none, rfl, .non, sh.1, sh.2.1, sh.2.2.1, sh.2.2.2, .inl rfl, ?_⟩
    refine ⟨rfl, _, rfl, ?_⟩
    rw [decide_eq_true (show V.str PyData.none.shown = V.str PyData.none.shown from rfl)]
    refine iteF ?_
    refine ⟨_, rfl, _, rfl, sl, _, rfl, .inl (SqL.of (s46 _ _ hsl3)), rfl, rfl, _, rfl, ?_⟩
    rw [decide_eq_false (show ¬ V.ref pt = V.non from fun z => by cases z), decide_eq_false (show ¬ V.int ((([] : List Addr).map V.ref).length : Nat) = V.int 1 from fun z => by cases z)]
    refine iteF ?_
    refine ⟨_, rfl, _, rfl, ?_⟩
    rw [decide_eq_false (show ¬ V.ref pt = V.non from fun z => by cases z)]
    have J6 := J.same s46
    have hpt6 := s46 _ _ hpt
    obtain ⟨pa, qa, va, ha, la⟩ := J6.du r0 (mem_all.mpr hr0)
    obtain ⟨pb, qb, vb, hb', lb⟩ := J6.du r (mem_all.mpr hrn)
    refine iteT ?_
    refine ⟨_, rfl, _, rfl, pt, d, r0, r, kvs, pa, pb, qa, qb, rfl, hpt6, J6.d, va, vb, ha, hb', unlike_two ((bad_iff la lb).mp hbad), fun H7 s7 => ?_⟩
    refine ⟨true, rfl, iteF ?_⟩
    refine ⟨_, rfl, G, n, rfl, hG, fun hyes => absurd hyes hs, fun _ H8 p8 c0 c1 s8 hp8 told8 => ?_⟩
    obtain ⟨e0, e1⟩ := told8.uniq told
    subst e0 e1
    refine ⟨_, rfl, rrD c0 c1, rrD c0 c1, dp_rows hp8, dp_rows (s8 _ _ (s7 _ _ hpt6)), rrD_shaped (by omega) (by omega), rrD_shaped (by omega) (by omega), _, rfl, ?_⟩
    rw [eqv_same (rrD_lay (by omega) (by omega))]
    refine iteF ?_
    have s48 := s46.trans (s7.trans s8)
    exact r8 D H8 h c n G el d sl kvs ps (.ref pt) _ _ _ _ _ _ _ _ _ _ _ (J.same s48) fun H' _ _ _ _ _ _ _ _ x' => nx H' _ _ _ _ _ _ _ _ _ _ _ _ _ _ _ ((x3.trans (Hx.of x3.2 s48)).trans x')
end
end
end K83
namespace K83
open PySem PySem.Spec PyProof.Rows L2
section
variable {P : Program} {w : World} {K : PySem.W.Frag} {mg : Str → Option Value} {base : Heap} {k : Nat} {f : Addr} {fd : FuncData}
/-! ### a whole turn -/
section
variable {outer : List Env} {s : Shared} {H : Hp} {E : XK} {cdv : Value}
theorem lw_p0 (T : Top K mg) (hr : Room 13 (callerA.deeper (envOfC "law" (defScope s_law) s.heap.objs.size f cdv))) :
    ∃ t, PSs (cxOf CX0 P w K mg base nLW "law" (defScope s_law) f cdv callerA outer s H E).nox lawTurn t ∧
      ∀ (D : Ends) (H1 : Hp) (h c : Addr) (y0 y2 y3 y4 y5 y6 y7 y8 y9 y10 y11 y12 y13 y14 y15 y16 y17 : Option V),
        Hand H1 h c →
        (∀ H' y3' y4' y5' y6' y7' y8' y9' y10' y11' y12' y13' y14' y15' y16' y17', Hx h c H1 H' → D.nx [y0, some (.ref h), y2, y3', y4', y5', y6', y7', y8', y9', y10', y11', y12', y13', y14', y15', y16', y17'] H') →
        t D [y0, some (.ref h), y2, y3, y4, y5, y6, y7, y8, y9, y10, y11, y12, y13, y14, y15, y16, y17] H1 := by
  obtain ⟨t4, g4', r4⟩ := lw_p4 (P := P) (w := w) (base := base) (outer := outer) (s := s) (H := H) (E := E) T hr
  obtain ⟨f1, fd1, F1, g1, b1⟩ := T.d_law_fact
  have G1 := ok_law_fact (P := P) (w := w) (base := base) (k := 10) T F1
  obtain ⟨f2, fd2, F2, g2, b2⟩ := T.d_law_fitting
  have G2 := ok_law_fitting (P := P) (w := w) (base := base) (k := 12) T F2
  obtain ⟨f8, fd8, F8, g8, b8⟩ := T.d_looks
  have G8 := ok_looks (P := P) (w := w) (base := base) (k := 1) T F8
  obtain ⟨f9, fd9, F9, g9, b9⟩ := T.d_law_looks
  have G9 := (ok_law_looks (P := P) (w := w) (base := base) T 7 F9).mono (show 7 + 3 ≤ 13 by omega)
  have hu := hu_of hr
  have hgd : (cxOf CX0 P w K mg base nLW "law" (defScope s_law) f cdv callerA outer s H E).nox.A.guards = some [] := rfl
  refine ⟨_, pss_cons (ps_asg (pe_call G1 hr (by rfl) g1 F1.kp b1 .nil pass0 (pa_cons (pv 1) (pa_cons pe_int pa_nil))) (pg_tup rfl (pgs_cons (pg_name (i := 3) sc_lw.nd rfl (.inl rfl)) (pgs_cons (pg_name (i := 4) sc_lw.nd rfl (.inl rfl)) pgs_nil))))
    (pss_cons (ps_set (i := 5) sc_lw.nd rfl (.inl rfl) (pe_call G2 hr (by rfl) g2 F2.kp b2 .nil pass0 (pa_cons (pe_op op_mulS pe_str (pv 3)) pa_nil)))
    (pss_cons (ps_set (i := 6) sc_lw.nd rfl (.inl rfl) pe_dnewK)
    (pss_cons (ps_for PassesOwn.never rfl (pi_list (pv 5)) (pg_name (i := 7) sc_lw.nd rfl (.inr rfl))
      (pss_cons (ps_dput hu (pv 6) (pv 7) (pe_call G9 hr (by rfl) g9 F9.kp b9 .nil pass0 (pa_cons pe_dnewK (pa_cons (pv 4) (pa_cons (pv 7) (pa_cons (pe_op op_mulS pe_str (pv 3)) pa_nil))))) rfl)
      (pss_one (ps_if (pt_cmpR op_ne (pe_callB (call_reprD hgd hr.units) (by rfl) T.n_repr (by decide +kernel) (pa_cons (pe_call G8 hr (by rfl) g8 F8.kp b8 .nil pass0 (pa_cons (pv 4) (pa_cons (pv 7) pa_nil))) pa_nil))
        (pe_callB (call_reprD hgd hr.units) (by rfl) T.n_repr (by decide +kernel) (pa_cons (pe_dget hu (pv 6) (pv 7) (fun _ _ => rfl)) pa_nil)) (nomark _)) (pss_one (ps_ret pe_bl)) pss_nil))))
    g4'))), ?_⟩
  intro D H1 h c y0 y2 y3 y4 y5 y6 y7 y8 y9 y10 y11 y12 y13 y14 y15 y16 y17 hH nx
  refine ⟨_, rfl, h, c, 4, rfl, by decide, by decide, hH, fun H2 p n G x2 h4 hG hp => ?_⟩
  have h6 := hG.six
  have hpow := pow6 h6
  have hal := length_all n
  refine ⟨p, _, rfl, SqT.of hp, rfl, _, _, rfl, _, _, rfl, rfl, ?_⟩
  refine ⟨_, rfl, 46, n, dotV, rfl, by omega, ?_⟩
  rw [dots_text]
  refine ⟨dots n, rfl, by rw [length_dots]; exact h6, fun H3 el s3 hel => ?_⟩
  have x3 := x2.trans (Hx.of x2.2 s3)
  refine fun d nd => ?_
  refine ⟨_, rfl, el, rfl, ⟨_, SqL.of ((same_upd nd) _ _ hel)⟩, for_it walk_list (fun i σ' H' => (∃ y7, σ' = [y0, some (.ref h), y2, some (nV n), some (rV G), some (.ref el), some (.ref d), y7, y8, y9, y10, y11, y12, y13, y14, y15, y16, y17]) ∧
      Hx h c H3 H' ∧ ∃ kvs, H' d = some (.dK kvs) ∧ Dues H' (fn G n) kvs ((fit (dots n)).take i) ∧ kvs.length ≤ i)
    ⟨⟨_, rfl⟩, Hx.of x3.2 (same_upd nd), [], upd_same, fun x hx => absurd hx List.not_mem_nil, Nat.le_refl _⟩ (fun i σ' H' _ q => SqL.of (q.2.1.keep (el_neq x3.2 hel) hel)) ?_ ?_⟩
  · rintro i x σ' Ha Hb hi ⟨⟨z7, rfl⟩, xa, kvs, hda, hdu, hkl⟩ ⟨rfl, hx⟩
    rw [List.getElem?_map] at hx
    obtain ⟨rr, hrr, rfl⟩ := Option.map_eq_some_iff.mp hx
    have hrl : rr.length = n := mem_all.mp (List.mem_of_getElem? hrr)
    have hil : i < (fit (dots n)).length := (List.getElem?_eq_some_iff.mp hrr).1
    refine fun e ne => ⟨_, rfl, _, rfl, _, rfl, 46, n, dotV, rfl, by omega, ?_⟩
    rw [dots_text]
    refine ⟨e, G, rr, dots n, [], rfl, by rw [length_dots]; exact hG, by rw [length_dots]; exact hrl, by rw [opens_dots]; omega, upd_same, known_nil, ?_, fun Hc kv2 pc cc sc _ _ _ hpc hlk => ?_⟩
    · rw [opens_dots]
      have := room_mono h6
      have := room6
      show 0 + _ ≤ _
      omega
    rw [length_dots, sub_dots] at hlk
    have sbc : Same Hb Hc := fun b o hb => sc b o (ne_of_none hb ne) (by rw [upd_ne (ne_of_none hb ne)]; exact hb)
    have hdc := sbc _ _ hda
    refine ⟨_, rfl, _, rfl, d, _, rfl, DPut.k (k := Sum.inr (rS rr)) hdc (small (by omega)), ?_⟩
    have tv : ∀ a b, Hc a = some (tV b) → (upd Hc d (.dK (putK kvs (Sum.inr (rS rr)) (.ref pc)))) a = some (tV b) := fun a b hb => by
      rw [upd_ne (ne_of hb hdc (by intro z; cases z))]
      exact hb
    have hlen2 := putK_len (kvs := kvs) (k := Sum.inr (rS rr)) (v := .ref pc)
    have hdd : (upd Hc d (.dK (putK kvs (Sum.inr (rS rr)) (.ref pc)))) d = some (.dK (putK kvs (Sum.inr (rS rr)) (.ref pc))) := upd_same
    have hvv : valV (putK kvs (Sum.inr (rS rr)) (.ref pc)) (Sum.inr (rS rr)) = some (.ref pc) := by rw [valV_put, if_pos rfl]
    have hpd := tv _ _ hpc
    have xd : Hx h c H3 (upd Hc d (.dK (putK kvs (Sum.inr (rS rr)) (.ref pc)))) := Hx.free x3.2 (xa.trans (Hx.of xa.2 sbc)) nd
    have hdu2 : Dues (upd Hc d (.dK (putK kvs (Sum.inr (rS rr)) (.ref pc)))) (fn G n) (putK kvs (Sum.inr (rS rr)) (.ref pc)) ((fit (dots n)).take (i + 1)) := by
      rw [List.take_add_one, hrr]
      exact Dues.put ((hdu.mono fun a b hb => tv _ _ (sbc _ _ hb))) hpd hlk
    generalize upd Hc d (.dK (putK kvs (Sum.inr (rS rr)) (.ref pc))) = Hd at hdd hpd xd hdu2
    have sh := pD_shows (hlk.small h4)
    refine ⟨_, rfl, _, rfl, G, rr, rfl, by rw [hrl]; exact hG, fun He pe ce se hpe hlke => ?_⟩
    rw [hrl] at hlke
    have eu := hlke.uniq hlk
    have ec : ce = cc := Prod.ext eu.1 eu.2
    subst ec
    refine ⟨_, pD ce, rfl, dp_pair hpe, sh.1, sh.2.1, sh.2.2.1, sh.2.2.2, .inr ⟨_, rfl⟩, ?_⟩
    refine ⟨_, rfl, _, rfl, d, .ref pc, rfl, dget_of (se _ _ hdd) hvv, ?_⟩
    refine ⟨_, pD ce, rfl, dp_pair (se _ _ hpd), sh.1, sh.2.1, sh.2.2.1, sh.2.2.2, .inr ⟨_, rfl⟩, ?_⟩
    refine ⟨rfl, _, rfl, ?_⟩
    rw [decide_eq_true (show V.str (pD ce).shown = V.str (pD ce).shown from rfl)]
    refine iteF ?_
    exact ⟨⟨_, rfl⟩, xd.trans (Hx.of xd.2 se), _, se _ _ hdd, hdu2.mono fun t q e => se _ _ e, by omega⟩
  · rintro σ' Ha ⟨⟨z7, rfl⟩, xa, kvs, hda, hdu, hkl⟩
    have e : (fit (dots n)).take ((fit (dots n)).map rV).length = fit (dots n) := List.take_of_length_le (by simp)
    rw [e] at hdu
    exact r4 D Ha h c n G el d kvs _ _ _ _ _ _ _ _ _ _ _ _ _ xa.2 hG h4 (xa.keep (el_neq x3.2 hel) hel) hda hdu fun H' _ _ _ _ _ _ _ _ _ _ _ _ _ _ _ x' => nx H' _ _ _ _ _ _ _ _ _ _ _ _ _ _ _ ((x3.trans xa).trans x')
end
end
end K83
namespace K83
open PySem PySem.Spec PyProof.Rows L2
section
variable {P : Program} {w : World} {K : PySem.W.Frag} {mg : Str → Option Value} {base : Heap} {k : Nat} {f : Addr} {fd : FuncData}
/-! ### the law's own body -/
section
variable {outer : List Env} {s : Shared} {H : Hp} {E : XK} {cdv : Value}
theorem law_turns (T : Top K mg) (hr : Room 13 (callerA.deeper (envOfC "law" (defScope s_law) s.heap.objs.size f cdv))) :
    ∃ t, PSs (cxOf CX0 P w K mg base nLW "law" (defScope s_law) f cdv callerA outer s H E).nox ((defBody s_law).drop 2) t ∧
      ∀ (D : Ends) (H1 : Hp) (h c : Addr) (y0 y2 y3 y4 y5 y6 y7 y8 y9 y10 y11 y12 y13 y14 y15 y16 y17 : Option V),
        Hand H1 h c → (D.rt = fun v _ => v = .bl true) → t D [y0, some (.ref h), y2, y3, y4, y5, y6, y7, y8, y9, y10, y11, y12, y13, y14, y15, y16, y17] H1 := by
  obtain ⟨t0, g0', r0⟩ := lw_p0 (P := P) (w := w) (base := base) (outer := outer) (s := s) (H := H) (E := E) T hr
  refine ⟨_, pss_cons (ps_for PassesOwn.never rfl (pi_range1 (by rfl) T.n_range (pa_cons pe_int pa_nil)) (pg_name (i := 2) sc_lw.nd rfl (.inl rfl)) g0')
    (pss_one (ps_ret pe_bl)), ?_⟩
  intro D H3 h c y0 y2 y3 y4 y5 y6 y7 y8 y9 y10 y11 y12 y13 y14 y15 y16 y17 h3 eD
  refine ⟨2, rfl, by omega, by omega, for_it walk_range0 (fun i σ' H' => (∃ y2 y3 y4 y5 y6 y7 y8 y9 y10 y11 y12 y13 y14 y15 y16 y17, σ' = [y0, some (.ref h), y2, y3, y4, y5, y6, y7, y8, y9, y10, y11, y12, y13, y14, y15, y16, y17]) ∧ Hand H' h c)
    ⟨⟨_, _, _, _, _, _, _, _, _, _, _, _, _, _, _, _, rfl⟩, h3⟩ (fun _ _ _ _ _ => trivial) ?_ ?_⟩
  · rintro i x σ' Ha Hb hi ⟨⟨y2, y3, y4, y5, y6, y7, y8, y9, y10, y11, y12, y13, y14, y15, y16, y17, rfl⟩, ha⟩ ⟨rfl, rfl⟩
    exact r0 _ Hb h c _ _ _ _ _ _ _ _ _ _ _ _ _ _ _ _ _ ha fun H' _ _ _ _ _ _ _ _ _ _ _ _ _ _ _ x' => ⟨⟨_, _, _, _, _, _, _, _, _, _, _, _, _, _, _, _, rfl⟩, x'.2⟩
  · rintro σ' Ha _
    show D.rt (.bl true) Ha
    rw [eD]
theorem law_body (T : Top K mg) {a : Addr} {ns : List Int} (hS : SqL K H a (ns.map V.int)) (h63 : ns.length ≤ 63) :
    ∃ t, PSs (cxOf CX0 P w K mg base nLW "law" (defScope s_law) f cdv callerA outer s H E).nox (defBody s_law) t ∧ t { nx := fun _ H' => (fun (v : V) (_ : Hp) => v = .bl true) .non H', rt := fun v _ => v = .bl true } (start nLW [.ref a]) H := by
  have hr0 : Room 14 callerA := ⟨rfl, by decide, by decide⟩
  have hr : Room 13 (callerA.deeper (envOfC "law" (defScope s_law) s.heap.objs.size f cdv)) := hr0.deeper _
  obtain ⟨t2, g2', r2⟩ := law_turns (P := P) (w := w) (base := base) (outer := outer) (s := s) (H := H) (E := E) T hr
  obtain ⟨f1, fd1, F1, g1, b1⟩ := T.d_law_hand
  have G1 := ok_law_hand (P := P) (w := w) (base := base) (k := 12) T F1
  obtain ⟨f2, fd2, F2, g2, b2⟩ := T.d_law_draw
  have G2 := ok_law_draw (P := P) (w := w) (base := base) (k := 12) T F2
  obtain ⟨f3, fd3, F3, g3, b3⟩ := T.d_law_great_right
  have G3 := ok_law_great_right (P := P) (w := w) (base := base) (k := 0) T F3
  refine ⟨_, pss_cons (ps_set (i := 1) sc_lw.nd rfl (.inr rfl) (pe_call G1 hr (by rfl) g1 F1.kp b1 .nil pass0 (pa_cons (pv 0) pa_nil)))
    (pss_cons (ps_if (PW.pt (pw_and (pt_cmpR op_eq (pe_call G2 hr (by rfl) g2 F2.kp b2 .nil pass0 (pa_cons (pv 1) (pa_cons pe_int pa_nil))) pe_int (nomark _))
      (pw_and1 (pt_not (pt_val (pe_call G3 hr (by rfl) g3 F3.kp b3 .nil pass0 (pa_cons (pv 1) pa_nil))))))) (pss_one (ps_ret pe_bl)) pss_nil)
    g2'), ?_⟩
  refine ⟨_, rfl, a, ns, rfl, hS, h63, fun H1 h c _ hH _ => ?_⟩
  refine ⟨_, rfl, h, c, 12, rfl, by decide, by decide, hH, fun H2 v x2 hv => ⟨rfl, _, rfl, ?_⟩⟩
  refine ite2 (fun _ => ?_) (fun _ => iteF (r2 _ H2 h c _ _ _ _ _ _ _ _ _ _ _ _ _ _ _ _ _ x2.2 rfl))
  refine ⟨_, rfl, h, c, rfl, x2.2, fun H3 x3 => ⟨true, rfl, iteF (r2 _ H3 h c _ _ _ _ _ _ _ _ _ _ _ _ _ _ _ _ _ x3.2 rfl)⟩⟩
end
theorem law_run {fa a : Addr} {s1 : Shared} {H : Hp} {ns : List Int} (T : Top K mg) (hmg : mg "law" = some (.ref fa)) (e0 : Env0 P w K mg base callerA [] s1 H) (hS : SqL K H a (ns.map V.int)) (h63 : ns.length ≤ 63) {E : XK} :
    codeAny (model P w) callerA (.call (.ref fa) ⟨[.ref a], []⟩) (CR CX0 [] P w H s1 (fun v _ => v = .bl true) E) s1 := by
  obtain ⟨f, fd, F, gf, b⟩ := T.d_law
  obtain rfl : f = fa := by
    have e := hmg.symm.trans gf
    cases e
    rfl
  have FF := F
  obtain ⟨oc, od, kV, doc, pm, an, cdv, ct, osl, e, lk, hcd⟩ := FF.ex
  exact run_once F sc_lw rfl (by decide) e0 (us := [.ref a]) (vs := [.ref a]) (by subst e; exact .of_eq rfl) (.cons rfl .nil) rfl fun cdv => law_body T hS h63
end
end K83
namespace K83
open PySem PySem.Spec PyProof.Rows L2
section
variable {P : Program} {w : World} {K : PySem.W.Frag} {mg : Str → Option Value} {base : Heap} {k : Nat} {f : Addr} {fd : FuncData}
/-! ### from the call to the statement -/
theorem walk_G {l : PySem.W.OpenLaw} {n : Nat} {q : Program} {loose : List Str} {XP : (Str → Option Value) → Heap → Prop} {YP : World → Heap → Prop} {d : DefRec} {K : Params → PySem.W.Frag}
    (hn : l.most = some n) (h63 : n ≤ 63) (hdf : d.params.defaults = []) (hd : d.name = ("law" : Str)) (hY : ∀ (w : World) (h : Heap), YP w h → (K w.params).In h)
    (F : ∀ (w : World) (mg : Str → Option Value) (h : Heap), (K w.params).In h → h.Ns mainGlobals mg → Top (K w.params) mg) :
    PySem.W.WalkO q loose XP YP l.row.toRowW d [] (fun f vs => PySem.call f vs) := by
  refine Att.attach_call hn hdf fun w s₀ s₁ mg mb fa o pm cd doc a vs ns G Y ho hdat hcd hmg hobj hints hlen hg => ?_
  have KX := hY w _ Y
  have T := F w mg _ KX G.T.g
  rw [hd] at hmg
  have h63' : ns.length ≤ 63 := Nat.le_trans hlen h63
  exact law_top KX G.T.g G.T.b G.T.builtins G.T.nolimit hg hobj hints (Nat.le_of_lt (small (by omega))) fun base H e0 hS => law_run T hmg e0 hS h63'
end
end K83
namespace K83
open PySem PySem.Spec PyProof.Rows L2
theorem top_mk {K : PySem.W.Frag} {h : Heap} {mg : Str → Option Value} (X : K.In h) (G : h.Ns mainGlobals mg)
    {f0 : Addr} {od0 an0 : Option Addr} {sl0 : Array (Option Value)} {oc0 kV0 dc0 pm0 cd0 ct0 : Value}
    {f1 : Addr} {od1 an1 : Option Addr} {sl1 : Array (Option Value)} {oc1 kV1 dc1 pm1 cd1 ct1 : Value}
    {f2 : Addr} {od2 an2 : Option Addr} {sl2 : Array (Option Value)} {oc2 kV2 dc2 pm2 cd2 ct2 : Value}
    {f3 : Addr} {od3 an3 : Option Addr} {sl3 : Array (Option Value)} {oc3 kV3 dc3 pm3 cd3 ct3 : Value}
    {f4 : Addr} {od4 an4 : Option Addr} {sl4 : Array (Option Value)} {oc4 kV4 dc4 pm4 cd4 ct4 : Value}
    {f5 : Addr} {od5 an5 : Option Addr} {sl5 : Array (Option Value)} {oc5 kV5 dc5 pm5 cd5 ct5 : Value}
    {f6 : Addr} {od6 an6 : Option Addr} {sl6 : Array (Option Value)} {oc6 kV6 dc6 pm6 cd6 ct6 : Value}
    {f7 : Addr} {od7 an7 : Option Addr} {sl7 : Array (Option Value)} {oc7 kV7 dc7 pm7 cd7 ct7 : Value}
    {f8 : Addr} {od8 an8 : Option Addr} {sl8 : Array (Option Value)} {oc8 kV8 dc8 pm8 cd8 ct8 : Value}
    {f9 : Addr} {od9 an9 : Option Addr} {sl9 : Array (Option Value)} {oc9 kV9 dc9 pm9 cd9 ct9 : Value}
    {f10 : Addr} {od10 an10 : Option Addr} {sl10 : Array (Option Value)} {oc10 kV10 dc10 pm10 cd10 ct10 : Value}
    {f11 : Addr} {od11 an11 : Option Addr} {sl11 : Array (Option Value)} {oc11 kV11 dc11 pm11 cd11 ct11 : Value}
    {f12 : Addr} {od12 an12 : Option Addr} {sl12 : Array (Option Value)} {oc12 kV12 dc12 pm12 cd12 ct12 : Value}
    {f13 : Addr} {od13 an13 : Option Addr} {sl13 : Array (Option Value)} {oc13 kV13 dc13 pm13 cd13 ct13 : Value}
    {f14 : Addr} {od14 an14 : Option Addr} {sl14 : Array (Option Value)} {oc14 kV14 dc14 pm14 cd14 ct14 : Value}
    {f15 : Addr} {od15 an15 : Option Addr} {sl15 : Array (Option Value)} {oc15 kV15 dc15 pm15 cd15 ct15 : Value}
    {f16 : Addr} {od16 an16 : Option Addr} {sl16 : Array (Option Value)} {oc16 kV16 dc16 pm16 cd16 ct16 : Value}
    {f17 : Addr} {od17 an17 : Option Addr} {sl17 : Array (Option Value)} {oc17 kV17 dc17 pm17 cd17 ct17 : Value}
    {f18 : Addr} {od18 an18 : Option Addr} {sl18 : Array (Option Value)} {oc18 kV18 dc18 pm18 cd18 ct18 : Value}
    {f19 : Addr} {od19 an19 : Option Addr} {sl19 : Array (Option Value)} {oc19 kV19 dc19 pm19 cd19 ct19 : Value}
    {f20 : Addr} {od20 an20 : Option Addr} {sl20 : Array (Option Value)} {oc20 kV20 dc20 pm20 cd20 ct20 : Value}
    {f21 : Addr} {od21 an21 : Option Addr} {sl21 : Array (Option Value)} {oc21 kV21 dc21 pm21 cd21 ct21 : Value}
    {f22 : Addr} {od22 an22 : Option Addr} {sl22 : Array (Option Value)} {oc22 kV22 dc22 pm22 cd22 ct22 : Value}
    {f23 : Addr} {od23 an23 : Option Addr} {sl23 : Array (Option Value)} {oc23 kV23 dc23 pm23 cd23 ct23 : Value}
    {f24 : Addr} {od24 an24 : Option Addr} {sl24 : Array (Option Value)} {oc24 kV24 dc24 pm24 cd24 ct24 : Value}
    {f25 : Addr} {od25 an25 : Option Addr} {sl25 : Array (Option Value)} {oc25 kV25 dc25 pm25 cd25 ct25 : Value}
    {f26 : Addr} {od26 an26 : Option Addr} {sl26 : Array (Option Value)} {oc26 kV26 dc26 pm26 cd26 ct26 : Value}
    {f27 : Addr} {od27 an27 : Option Addr} {sl27 : Array (Option Value)} {oc27 kV27 dc27 pm27 cd27 ct27 : Value}
    {f28 : Addr} {od28 an28 : Option Addr} {sl28 : Array (Option Value)} {oc28 kV28 dc28 pm28 cd28 ct28 : Value}
    {f29 : Addr} {od29 an29 : Option Addr} {sl29 : Array (Option Value)} {oc29 kV29 dc29 pm29 cd29 ct29 : Value}
    {f30 : Addr} {od30 an30 : Option Addr} {sl30 : Array (Option Value)} {oc30 kV30 dc30 pm30 cd30 ct30 : Value}
    {f31 : Addr} {od31 an31 : Option Addr} {sl31 : Array (Option Value)} {oc31 kV31 dc31 pm31 cd31 ct31 : Value}
    {f32 : Addr} {od32 an32 : Option Addr} {sl32 : Array (Option Value)} {oc32 kV32 dc32 pm32 cd32 ct32 : Value}
    {aS : Addr} {odS : Option Addr} {tS uS tD tM : Tok} {nS : Nat} {slS : Array (Option Value)}
    (a0 : PySem.W.nsIn K mainGlobals "is_row" = some (some (.ref f0))) (l0 : K.lookup f0 = some ⟨oc0, od0, .func (PySem.W.fnOf "is_row" "is_row" (defArgs s_is_row) (defBody s_is_row) (defScope s_is_row) .none kV0 dc0 pm0 an0 cd0 ct0), sl0⟩) (c0 : PySem.W.codeIn K cd0 "is_row" = true) (k0 : PySem.W.keepIn K (.ref f0) = true)
    (a1 : PySem.W.nsIn K mainGlobals "is_row_of_length" = some (some (.ref f1))) (l1 : K.lookup f1 = some ⟨oc1, od1, .func (PySem.W.fnOf "is_row_of_length" "is_row_of_length" (defArgs s_is_row_of_length) (defBody s_is_row_of_length) (defScope s_is_row_of_length) .none kV1 dc1 pm1 an1 cd1 ct1), sl1⟩) (c1 : PySem.W.codeIn K cd1 "is_row_of_length" = true) (k1 : PySem.W.keepIn K (.ref f1) = true)
    (a2 : PySem.W.nsIn K mainGlobals "is_marked" = some (some (.ref f2))) (l2 : K.lookup f2 = some ⟨oc2, od2, .func (PySem.W.fnOf "is_marked" "is_marked" (defArgs s_is_marked) (defBody s_is_marked) (defScope s_is_marked) .none kV2 dc2 pm2 an2 cd2 ct2), sl2⟩) (c2 : PySem.W.codeIn K cd2 "is_marked" = true) (k2 : PySem.W.keepIn K (.ref f2) = true)
    (a3 : PySem.W.nsIn K mainGlobals "with_sign" = some (some (.ref f3))) (l3 : K.lookup f3 = some ⟨oc3, od3, .func (PySem.W.fnOf "with_sign" "with_sign" (defArgs s_with_sign) (defBody s_with_sign) (defScope s_with_sign) .none kV3 dc3 pm3 an3 cd3 ct3), sl3⟩) (c3 : PySem.W.codeIn K cd3 "with_sign" = true) (k3 : PySem.W.keepIn K (.ref f3) = true)
    (a4 : PySem.W.nsIn K mainGlobals "odd_sign" = some (some (.ref f4))) (l4 : K.lookup f4 = some ⟨oc4, od4, .func (PySem.W.fnOf "odd_sign" "odd_sign" (defArgs s_odd_sign) (defBody s_odd_sign) (defScope s_odd_sign) .none kV4 dc4 pm4 an4 cd4 ct4), sl4⟩) (c4 : PySem.W.codeIn K cd4 "odd_sign" = true) (k4 : PySem.W.keepIn K (.ref f4) = true)
    (a5 : PySem.W.nsIn K mainGlobals "places_of_fact" = some (some (.ref f5))) (l5 : K.lookup f5 = some ⟨oc5, od5, .func (PySem.W.fnOf "places_of_fact" "places_of_fact" (defArgs s_places_of_fact) (defBody s_places_of_fact) (defScope s_places_of_fact) .none kV5 dc5 pm5 an5 cd5 ct5), sl5⟩) (c5 : PySem.W.codeIn K cd5 "places_of_fact" = true) (k5 : PySem.W.keepIn K (.ref f5) = true)
    (a6 : PySem.W.nsIn K mainGlobals "check_fact" = some (some (.ref f6))) (l6 : K.lookup f6 = some ⟨oc6, od6, .func (PySem.W.fnOf "check_fact" "check_fact" (defArgs s_check_fact) (defBody s_check_fact) (defScope s_check_fact) .none kV6 dc6 pm6 an6 cd6 ct6), sl6⟩) (c6 : PySem.W.codeIn K cd6 "check_fact" = true) (k6 : PySem.W.keepIn K (.ref f6) = true)
    (a7 : PySem.W.nsIn K mainGlobals "sign_for" = some (some (.ref f7))) (l7 : K.lookup f7 = some ⟨oc7, od7, .func (PySem.W.fnOf "sign_for" "sign_for" (defArgs s_sign_for) (defBody s_sign_for) (defScope s_sign_for) .none kV7 dc7 pm7 an7 cd7 ct7), sl7⟩) (c7 : PySem.W.codeIn K cd7 "sign_for" = true) (k7 : PySem.W.keepIn K (.ref f7) = true)
    (a8 : PySem.W.nsIn K mainGlobals "rows_fitting" = some (some (.ref f8))) (l8 : K.lookup f8 = some ⟨oc8, od8, .func (PySem.W.fnOf "rows_fitting" "rows_fitting" (defArgs s_rows_fitting) (defBody s_rows_fitting) (defScope s_rows_fitting) .none kV8 dc8 pm8 an8 cd8 ct8), sl8⟩) (c8 : PySem.W.codeIn K cd8 "rows_fitting" = true) (k8 : PySem.W.keepIn K (.ref f8) = true)
    (a9 : PySem.W.nsIn K mainGlobals "hangs_on" = some (some (.ref f9))) (l9 : K.lookup f9 = some ⟨oc9, od9, .func (PySem.W.fnOf "hangs_on" "hangs_on" (defArgs s_hangs_on) (defBody s_hangs_on) (defScope s_hangs_on) .none kV9 dc9 pm9 an9 cd9 ct9), sl9⟩) (c9 : PySem.W.codeIn K cd9 "hangs_on" = true) (k9 : PySem.W.keepIn K (.ref f9) = true)
    (a10 : PySem.W.nsIn K mainGlobals "hanging_at" = some (some (.ref f10))) (l10 : K.lookup f10 = some ⟨oc10, od10, .func (PySem.W.fnOf "hanging_at" "hanging_at" (defArgs s_hanging_at) (defBody s_hanging_at) (defScope s_hanging_at) .none kV10 dc10 pm10 an10 cd10 ct10), sl10⟩) (c10 : PySem.W.codeIn K cd10 "hanging_at" = true) (k10 : PySem.W.keepIn K (.ref f10) = true)
    (a11 : PySem.W.nsIn K mainGlobals "hanging" = some (some (.ref f11))) (l11 : K.lookup f11 = some ⟨oc11, od11, .func (PySem.W.fnOf "hanging" "hanging" (defArgs s_hanging) (defBody s_hanging) (defScope s_hanging) .none kV11 dc11 pm11 an11 cd11 ct11), sl11⟩) (c11 : PySem.W.codeIn K cd11 "hanging" = true) (k11 : PySem.W.keepIn K (.ref f11) = true)
    (a12 : PySem.W.nsIn K mainGlobals "looks_from" = some (some (.ref f12))) (l12 : K.lookup f12 = some ⟨oc12, od12, .func (PySem.W.fnOf "looks_from" "looks_from" (defArgs s_looks_from) (defBody s_looks_from) (defScope s_looks_from) .none kV12 dc12 pm12 an12 cd12 ct12), sl12⟩) (c12 : PySem.W.codeIn K cd12 "looks_from" = true) (k12 : PySem.W.keepIn K (.ref f12) = true)
    (a13 : PySem.W.nsIn K mainGlobals "looks_for" = some (some (.ref f13))) (l13 : K.lookup f13 = some ⟨oc13, od13, .func (PySem.W.fnOf "looks_for" "looks_for" (defArgs s_looks_for) (defBody s_looks_for) (defScope s_looks_for) .none kV13 dc13 pm13 an13 cd13 ct13), sl13⟩) (c13 : PySem.W.codeIn K cd13 "looks_for" = true) (k13 : PySem.W.keepIn K (.ref f13) = true)
    (a14 : PySem.W.nsIn K mainGlobals "looks" = some (some (.ref f14))) (l14 : K.lookup f14 = some ⟨oc14, od14, .func (PySem.W.fnOf "looks" "looks" (defArgs s_looks) (defBody s_looks) (defScope s_looks) .none kV14 dc14 pm14 an14 cd14 ct14), sl14⟩) (c14 : PySem.W.codeIn K cd14 "looks" = true) (k14 : PySem.W.keepIn K (.ref f14) = true)
    (a15 : PySem.W.nsIn K mainGlobals "sum_fact" = some (some (.ref f15))) (l15 : K.lookup f15 = some ⟨oc15, od15, .func (PySem.W.fnOf "sum_fact" "sum_fact" (defArgs s_sum_fact) (defBody s_sum_fact) (defScope s_sum_fact) .none kV15 dc15 pm15 an15 cd15 ct15), sl15⟩) (c15 : PySem.W.codeIn K cd15 "sum_fact" = true) (k15 : PySem.W.keepIn K (.ref f15) = true)
    (a16 : PySem.W.nsIn K mainGlobals "unlike_looks" = some (some (.ref f16))) (l16 : K.lookup f16 = some ⟨oc16, od16, .func (PySem.W.fnOf "unlike_looks" "unlike_looks" (defArgs s_unlike_looks) (defBody s_unlike_looks) (defScope s_unlike_looks) .none kV16 dc16 pm16 an16 cd16 ct16), sl16⟩) (c16 : PySem.W.codeIn K cd16 "unlike_looks" = true) (k16 : PySem.W.keepIn K (.ref f16) = true)
    (a17 : PySem.W.nsIn K mainGlobals "_law_hand" = some (some (.ref f17))) (l17 : K.lookup f17 = some ⟨oc17, od17, .func (PySem.W.fnOf "_law_hand" "_law_hand" (defArgs s_law_hand) (defBody s_law_hand) (defScope s_law_hand) .none kV17 dc17 pm17 an17 cd17 ct17), sl17⟩) (c17 : PySem.W.codeIn K cd17 "_law_hand" = true) (k17 : PySem.W.keepIn K (.ref f17) = true)
    (a18 : PySem.W.nsIn K mainGlobals "_law_draw" = some (some (.ref f18))) (l18 : K.lookup f18 = some ⟨oc18, od18, .func (PySem.W.fnOf "_law_draw" "_law_draw" (defArgs s_law_draw) (defBody s_law_draw) (defScope s_law_draw) .none kV18 dc18 pm18 an18 cd18 ct18), sl18⟩) (c18 : PySem.W.codeIn K cd18 "_law_draw" = true) (k18 : PySem.W.keepIn K (.ref f18) = true)
    (a19 : PySem.W.nsIn K mainGlobals "_law_shuffled" = some (some (.ref f19))) (l19 : K.lookup f19 = some ⟨oc19, od19, .func (PySem.W.fnOf "_law_shuffled" "_law_shuffled" (defArgs s_law_shuffled) (defBody s_law_shuffled) (defScope s_law_shuffled) .none kV19 dc19 pm19 an19 cd19 ct19), sl19⟩) (c19 : PySem.W.codeIn K cd19 "_law_shuffled" = true) (k19 : PySem.W.keepIn K (.ref f19) = true)
    (a20 : PySem.W.nsIn K mainGlobals "_law_value" = some (some (.ref f20))) (l20 : K.lookup f20 = some ⟨oc20, od20, .func (PySem.W.fnOf "_law_value" "_law_value" (defArgs s_law_value) (defBody s_law_value) (defScope s_law_value) .none kV20 dc20 pm20 an20 cd20 ct20), sl20⟩) (c20 : PySem.W.codeIn K cd20 "_law_value" = true) (k20 : PySem.W.keepIn K (.ref f20) = true)
    (a21 : PySem.W.nsIn K mainGlobals "_law_fitting" = some (some (.ref f21))) (l21 : K.lookup f21 = some ⟨oc21, od21, .func (PySem.W.fnOf "_law_fitting" "_law_fitting" (defArgs s_law_fitting) (defBody s_law_fitting) (defScope s_law_fitting) .none kV21 dc21 pm21 an21 cd21 ct21), sl21⟩) (c21 : PySem.W.codeIn K cd21 "_law_fitting" = true) (k21 : PySem.W.keepIn K (.ref f21) = true)
    (a22 : PySem.W.nsIn K mainGlobals "_law_put" = some (some (.ref f22))) (l22 : K.lookup f22 = some ⟨oc22, od22, .func (PySem.W.fnOf "_law_put" "_law_put" (defArgs s_law_put) (defBody s_law_put) (defScope s_law_put) .none kV22 dc22 pm22 an22 cd22 ct22), sl22⟩) (c22 : PySem.W.codeIn K cd22 "_law_put" = true) (k22 : PySem.W.keepIn K (.ref f22) = true)
    (a23 : PySem.W.nsIn K mainGlobals "_law_hanging" = some (some (.ref f23))) (l23 : K.lookup f23 = some ⟨oc23, od23, .func (PySem.W.fnOf "_law_hanging" "_law_hanging" (defArgs s_law_hanging) (defBody s_law_hanging) (defScope s_law_hanging) .none kV23 dc23 pm23 an23 cd23 ct23), sl23⟩) (c23 : PySem.W.codeIn K cd23 "_law_hanging" = true) (k23 : PySem.W.keepIn K (.ref f23) = true)
    (a24 : PySem.W.nsIn K mainGlobals "_law_sum_fact" = some (some (.ref f24))) (l24 : K.lookup f24 = some ⟨oc24, od24, .func (PySem.W.fnOf "_law_sum_fact" "_law_sum_fact" (defArgs s_law_sum_fact) (defBody s_law_sum_fact) (defScope s_law_sum_fact) .none kV24 dc24 pm24 an24 cd24 ct24), sl24⟩) (c24 : PySem.W.codeIn K cd24 "_law_sum_fact" = true) (k24 : PySem.W.keepIn K (.ref f24) = true)
    (a25 : PySem.W.nsIn K mainGlobals "_law_fact" = some (some (.ref f25))) (l25 : K.lookup f25 = some ⟨oc25, od25, .func (PySem.W.fnOf "_law_fact" "_law_fact" (defArgs s_law_fact) (defBody s_law_fact) (defScope s_law_fact) .none kV25 dc25 pm25 an25 cd25 ct25), sl25⟩) (c25 : PySem.W.codeIn K cd25 "_law_fact" = true) (k25 : PySem.W.keepIn K (.ref f25) = true)
    (a26 : PySem.W.nsIn K mainGlobals "_law_looks" = some (some (.ref f26))) (l26 : K.lookup f26 = some ⟨oc26, od26, .func (PySem.W.fnOf "_law_looks" "_law_looks" (defArgs s_law_looks) (defBody s_law_looks) (defScope s_law_looks) .none kV26 dc26 pm26 an26 cd26 ct26), sl26⟩) (c26 : PySem.W.codeIn K cd26 "_law_looks" = true) (k26 : PySem.W.keepIn K (.ref f26) = true)
    (a27 : PySem.W.nsIn K mainGlobals "_law_sums" = some (some (.ref f27))) (l27 : K.lookup f27 = some ⟨oc27, od27, .func (PySem.W.fnOf "_law_sums" "_law_sums" (defArgs s_law_sums) (defBody s_law_sums) (defScope s_law_sums) .none kV27 dc27 pm27 an27 cd27 ct27), sl27⟩) (c27 : PySem.W.codeIn K cd27 "_law_sums" = true) (k27 : PySem.W.keepIn K (.ref f27) = true)
    (a28 : PySem.W.nsIn K mainGlobals "_law_turned" = some (some (.ref f28))) (l28 : K.lookup f28 = some ⟨oc28, od28, .func (PySem.W.fnOf "_law_turned" "_law_turned" (defArgs s_law_turned) (defBody s_law_turned) (defScope s_law_turned) .none kV28 dc28 pm28 an28 cd28 ct28), sl28⟩) (c28 : PySem.W.codeIn K cd28 "_law_turned" = true) (k28 : PySem.W.keepIn K (.ref f28) = true)
    (a29 : PySem.W.nsIn K mainGlobals "_law_renamed" = some (some (.ref f29))) (l29 : K.lookup f29 = some ⟨oc29, od29, .func (PySem.W.fnOf "_law_renamed" "_law_renamed" (defArgs s_law_renamed) (defBody s_law_renamed) (defScope s_law_renamed) .none kV29 dc29 pm29 an29 cd29 ct29), sl29⟩) (c29 : PySem.W.codeIn K cd29 "_law_renamed" = true) (k29 : PySem.W.keepIn K (.ref f29) = true)
    (a30 : PySem.W.nsIn K mainGlobals "_law_is_unlike" = some (some (.ref f30))) (l30 : K.lookup f30 = some ⟨oc30, od30, .func (PySem.W.fnOf "_law_is_unlike" "_law_is_unlike" (defArgs s_law_is_unlike) (defBody s_law_is_unlike) (defScope s_law_is_unlike) .none kV30 dc30 pm30 an30 cd30 ct30), sl30⟩) (c30 : PySem.W.codeIn K cd30 "_law_is_unlike" = true) (k30 : PySem.W.keepIn K (.ref f30) = true)
    (a31 : PySem.W.nsIn K mainGlobals "_law_great_right" = some (some (.ref f31))) (l31 : K.lookup f31 = some ⟨oc31, od31, .func (PySem.W.fnOf "_law_great_right" "_law_great_right" (defArgs s_law_great_right) (defBody s_law_great_right) (defScope s_law_great_right) .none kV31 dc31 pm31 an31 cd31 ct31), sl31⟩) (c31 : PySem.W.codeIn K cd31 "_law_great_right" = true) (k31 : PySem.W.keepIn K (.ref f31) = true)
    (a32 : PySem.W.nsIn K mainGlobals "law" = some (some (.ref f32))) (l32 : K.lookup f32 = some ⟨oc32, od32, .func (PySem.W.fnOf "law" "law" (defArgs s_law) (defBody s_law) (defScope s_law) .none kV32 dc32 pm32 an32 cd32 ct32), sl32⟩) (c32 : PySem.W.codeIn K cd32 "law" = true) (k32 : PySem.W.keepIn K (.ref f32) = true)
    (z0 : PySem.W.nsIn K mainGlobals "abs" = some none)
    (z1 : PySem.W.nsIn K mainGlobals "all" = some none)
    (z2 : PySem.W.nsIn K mainGlobals "enumerate" = some none)
    (z3 : PySem.W.nsIn K mainGlobals "int" = some none)
    (z4 : PySem.W.nsIn K mainGlobals "isinstance" = some none)
    (z5 : PySem.W.nsIn K mainGlobals "len" = some none)
    (z6 : PySem.W.nsIn K mainGlobals "list" = some none)
    (z7 : PySem.W.nsIn K mainGlobals "max" = some none)
    (z8 : PySem.W.nsIn K mainGlobals "min" = some none)
    (z9 : PySem.W.nsIn K mainGlobals "range" = some none)
    (z10 : PySem.W.nsIn K mainGlobals "repr" = some none)
    (z11 : PySem.W.nsIn K mainGlobals "set" = some none)
    (z12 : PySem.W.nsIn K mainGlobals "str" = some none)
    (z13 : PySem.W.nsIn K mainGlobals "sum" = some none)
    (z14 : PySem.W.nsIn K mainGlobals "tuple" = some none)
    (eS : PySem.W.nsIn K mainGlobals "SIGNS" = some (some (.ref aS))) (lS : K.lookup aS = some ⟨.type "tuple", odS, .seq #[.str "0" tS, .str "1" uS] nS, slS⟩)
    (eD : PySem.W.nsIn K mainGlobals "DOT" = some (some (.str "." tD))) (eM : PySem.W.nsIn K mainGlobals "MOST_FACT_PLACES" = some (some (.int 6 tM)))
    : Top K mg :=
  { d_is_row := def_at X G a0 l0 c0 k0 fun _ _ _ _ _ _ us hl => match us, hl with | [_], _ => rfl
    d_is_row_of_length := def_at X G a1 l1 c1 k1 fun _ _ _ _ _ _ us hl => match us, hl with | [_, _], _ => rfl
    d_is_marked := def_at X G a2 l2 c2 k2 fun _ _ _ _ _ _ us hl => match us, hl with | [_, _], _ => rfl
    d_with_sign := def_at X G a3 l3 c3 k3 fun _ _ _ _ _ _ us hl => match us, hl with | [_, _, _], _ => rfl
    d_odd_sign := def_at X G a4 l4 c4 k4 fun _ _ _ _ _ _ us hl => match us, hl with | [_], _ => rfl
    d_places_of_fact := def_at X G a5 l5 c5 k5 fun _ _ _ _ _ _ us hl => match us, hl with | [_], _ => rfl
    d_check_fact := def_at X G a6 l6 c6 k6 fun _ _ _ _ _ _ us hl => match us, hl with | [_], _ => rfl
    d_sign_for := def_at X G a7 l7 c7 k7 fun _ _ _ _ _ _ us hl => match us, hl with | [_, _], _ => rfl
    d_rows_fitting := def_at X G a8 l8 c8 k8 fun _ _ _ _ _ _ us hl => match us, hl with | [_], _ => rfl
    d_hangs_on := def_at X G a9 l9 c9 k9 fun _ _ _ _ _ _ us hl => match us, hl with | [_, _, _], _ => rfl
    d_hanging_at := def_at X G a10 l10 c10 k10 fun _ _ _ _ _ _ us hl => match us, hl with | [_, _], _ => rfl
    d_hanging := def_at X G a11 l11 c11 k11 fun _ _ _ _ _ _ us hl => match us, hl with | [_, _], _ => rfl
    d_looks_from := def_at X G a12 l12 c12 k12 fun _ _ _ _ _ _ us hl => match us, hl with | [_, _, _, _], _ => rfl
    d_looks_for := def_at X G a13 l13 c13 k13 fun _ _ _ _ _ _ us hl => match us, hl with | [_, _], _ => rfl
    d_looks := def_at X G a14 l14 c14 k14 fun _ _ _ _ _ _ us hl => match us, hl with | [_, _], _ => rfl
    d_sum_fact := def_at X G a15 l15 c15 k15 fun _ _ _ _ _ _ us hl => match us, hl with | [_], _ => rfl
    d_unlike_looks := def_at X G a16 l16 c16 k16 fun _ _ _ _ _ _ us hl => match us, hl with | [_], _ => rfl
    d_law_hand := def_at X G a17 l17 c17 k17 fun _ _ _ _ _ _ us hl => match us, hl with | [_], _ => rfl
    d_law_draw := def_at X G a18 l18 c18 k18 fun _ _ _ _ _ _ us hl => match us, hl with | [_, _], _ => rfl
    d_law_shuffled := def_at X G a19 l19 c19 k19 fun _ _ _ _ _ _ us hl => match us, hl with | [_, _], _ => rfl
    d_law_value := def_at X G a20 l20 c20 k20 fun _ _ _ _ _ _ us hl => match us, hl with | [_, _], _ => rfl
    d_law_fitting := def_at X G a21 l21 c21 k21 fun _ _ _ _ _ _ us hl => match us, hl with | [_], _ => rfl
    d_law_put := def_at X G a22 l22 c22 k22 fun _ _ _ _ _ _ us hl => match us, hl with | [_, _, _], _ => rfl
    d_law_hanging := def_at X G a23 l23 c23 k23 fun _ _ _ _ _ _ us hl => match us, hl with | [_, _], _ => rfl
    d_law_sum_fact := def_at X G a24 l24 c24 k24 fun _ _ _ _ _ _ us hl => match us, hl with | [_, _, _], _ => rfl
    d_law_fact := def_at X G a25 l25 c25 k25 fun _ _ _ _ _ _ us hl => match us, hl with | [_, _], _ => rfl
    d_law_looks := def_at X G a26 l26 c26 k26 fun _ _ _ _ _ _ us hl => match us, hl with | [_, _, _, _], _ => rfl
    d_law_sums := def_at X G a27 l27 c27 k27 fun _ _ _ _ _ _ us hl => match us, hl with | [_, _], _ => rfl
    d_law_turned := def_at X G a28 l28 c28 k28 fun _ _ _ _ _ _ us hl => match us, hl with | [_], _ => rfl
    d_law_renamed := def_at X G a29 l29 c29 k29 fun _ _ _ _ _ _ us hl => match us, hl with | [_, _, _], _ => rfl
    d_law_is_unlike := def_at X G a30 l30 c30 k30 fun _ _ _ _ _ _ us hl => match us, hl with | [_, _], _ => rfl
    d_law_great_right := def_at X G a31 l31 c31 k31 fun _ _ _ _ _ _ us hl => match us, hl with | [_], _ => rfl
    d_law := def_at X G a32 l32 c32 k32 fun _ _ _ _ _ _ us hl => match us, hl with | [_], _ => rfl
    n_abs := PySem.W.mg_none_of X G z0
    n_all := PySem.W.mg_none_of X G z1
    n_enumerate := PySem.W.mg_none_of X G z2
    n_int := PySem.W.mg_none_of X G z3
    n_isinstance := PySem.W.mg_none_of X G z4
    n_len := PySem.W.mg_none_of X G z5
    n_list := PySem.W.mg_none_of X G z6
    n_max := PySem.W.mg_none_of X G z7
    n_min := PySem.W.mg_none_of X G z8
    n_range := PySem.W.mg_none_of X G z9
    n_repr := PySem.W.mg_none_of X G z10
    n_set := PySem.W.mg_none_of X G z11
    n_str := PySem.W.mg_none_of X G z12
    n_sum := PySem.W.mg_none_of X G z13
    n_tuple := PySem.W.mg_none_of X G z14
    c_SIGNS := signs_at X G eS lS
    c_DOT := ⟨_, PySem.W.mg_of X G eD⟩
    c_MOST := ⟨_, PySem.W.mg_of X G eM⟩ }
end K83
open PySem PySem.W PyProof.Rows
set_option maxRecDepth 100000 in
set_option maxHeartbeats 0 in
theorem PySem.Challenge.cw_likeslips_k83_whole_facts_that_are_sums_holds : PySem.Challenge.rw_likeslips_k83_whole_facts_that_are_sums.Holds := by
  w_on; o_law; k_head; (case hw => w_witness2)
  k_fill
  refine K83.walk_G (l := PySem.Challenge.rw_likeslips_k83_whole_facts_that_are_sums) (n := 63) rfl (by decide) rfl rfl (fun w h Y => PySem.W.kIn_of Y) ?F
  case F =>
    intro w mg h KX G
    refine' K83.top_mk KX G ?a0 ?l0 ?c0 ?k0 ?a1 ?l1 ?c1 ?k1 ?a2 ?l2 ?c2 ?k2 ?a3 ?l3 ?c3 ?k3 ?a4 ?l4 ?c4 ?k4 ?a5 ?l5 ?c5 ?k5 ?a6 ?l6 ?c6 ?k6 ?a7 ?l7 ?c7 ?k7 ?a8 ?l8 ?c8 ?k8 ?a9 ?l9 ?c9 ?k9 ?a10 ?l10 ?c10 ?k10 ?a11 ?l11 ?c11 ?k11 ?a12 ?l12 ?c12 ?k12 ?a13 ?l13 ?c13 ?k13 ?a14 ?l14 ?c14 ?k14 ?a15 ?l15 ?c15 ?k15 ?a16 ?l16 ?c16 ?k16 ?a17 ?l17 ?c17 ?k17 ?a18 ?l18 ?c18 ?k18 ?a19 ?l19 ?c19 ?k19 ?a20 ?l20 ?c20 ?k20 ?a21 ?l21 ?c21 ?k21 ?a22 ?l22 ?c22 ?k22 ?a23 ?l23 ?c23 ?k23 ?a24 ?l24 ?c24 ?k24 ?a25 ?l25 ?c25 ?k25 ?a26 ?l26 ?c26 ?k26 ?a27 ?l27 ?c27 ?k27 ?a28 ?l28 ?c28 ?k28 ?a29 ?l29 ?c29 ?k29 ?a30 ?l30 ?c30 ?k30 ?a31 ?l31 ?c31 ?k31 ?a32 ?l32 ?c32 ?k32 ?z0 ?z1 ?z2 ?z3 ?z4 ?z5 ?z6 ?z7 ?z8 ?z9 ?z10 ?z11 ?z12 ?z13 ?z14 ?eS ?lS ?eD ?eM
    (case a0 => k_is)
    (case l0 => k_is)
    (case c0 => k_is)
    (case k0 => k_is)
    (case a1 => k_is)
    (case l1 => k_is)
    (case c1 => k_is)
    (case k1 => k_is)
    (case a2 => k_is)
    (case l2 => k_is)
    (case c2 => k_is)
    (case k2 => k_is)
    (case a3 => k_is)
    (case l3 => k_is)
    (case c3 => k_is)
    (case k3 => k_is)
    (case a4 => k_is)
    (case l4 => k_is)
    (case c4 => k_is)
    (case k4 => k_is)
    (case a5 => k_is)
    (case l5 => k_is)
    (case c5 => k_is)
    (case k5 => k_is)
    (case a6 => k_is)
    (case l6 => k_is)
    (case c6 => k_is)
    (case k6 => k_is)
    (case a7 => k_is)
    (case l7 => k_is)
    (case c7 => k_is)
    (case k7 => k_is)
    (case a8 => k_is)
    (case l8 => k_is)
    (case c8 => k_is)
    (case k8 => k_is)
    (case a9 => k_is)
    (case l9 => k_is)
    (case c9 => k_is)
    (case k9 => k_is)
    (case a10 => k_is)
    (case l10 => k_is)
    (case c10 => k_is)
    (case k10 => k_is)
    (case a11 => k_is)
    (case l11 => k_is)
    (case c11 => k_is)
    (case k11 => k_is)
    (case a12 => k_is)
    (case l12 => k_is)
    (case c12 => k_is)
    (case k12 => k_is)
    (case a13 => k_is)
    (case l13 => k_is)
    (case c13 => k_is)
    (case k13 => k_is)
    (case a14 => k_is)
    (case l14 => k_is)
    (case c14 => k_is)
    (case k14 => k_is)
    (case a15 => k_is)
    (case l15 => k_is)
    (case c15 => k_is)
    (case k15 => k_is)
    (case a16 => k_is)
    (case l16 => k_is)
    (case c16 => k_is)
    (case k16 => k_is)
    (case a17 => k_is)
    (case l17 => k_is)
    (case c17 => k_is)
    (case k17 => k_is)
    (case a18 => k_is)
    (case l18 => k_is)
    (case c18 => k_is)
    (case k18 => k_is)
    (case a19 => k_is)
    (case l19 => k_is)
    (case c19 => k_is)
    (case k19 => k_is)
    (case a20 => k_is)
    (case l20 => k_is)
    (case c20 => k_is)
    (case k20 => k_is)
    (case a21 => k_is)
    (case l21 => k_is)
    (case c21 => k_is)
    (case k21 => k_is)
    (case a22 => k_is)
    (case l22 => k_is)
    (case c22 => k_is)
    (case k22 => k_is)
    (case a23 => k_is)
    (case l23 => k_is)
    (case c23 => k_is)
    (case k23 => k_is)
    (case a24 => k_is)
    (case l24 => k_is)
    (case c24 => k_is)
    (case k24 => k_is)
    (case a25 => k_is)
    (case l25 => k_is)
    (case c25 => k_is)
    (case k25 => k_is)
    (case a26 => k_is)
    (case l26 => k_is)
    (case c26 => k_is)
    (case k26 => k_is)
    (case a27 => k_is)
    (case l27 => k_is)
    (case c27 => k_is)
    (case k27 => k_is)
    (case a28 => k_is)
    (case l28 => k_is)
    (case c28 => k_is)
    (case k28 => k_is)
    (case a29 => k_is)
    (case l29 => k_is)
    (case c29 => k_is)
    (case k29 => k_is)
    (case a30 => k_is)
    (case l30 => k_is)
    (case c30 => k_is)
    (case k30 => k_is)
    (case a31 => k_is)
    (case l31 => k_is)
    (case c31 => k_is)
    (case k31 => k_is)
    (case a32 => k_is)
    (case l32 => k_is)
    (case c32 => k_is)
    (case k32 => k_is)
    (case z0 => k_is)
    (case z1 => k_is)
    (case z2 => k_is)
    (case z3 => k_is)
    (case z4 => k_is)
    (case z5 => k_is)
    (case z6 => k_is)
    (case z7 => k_is)
    (case z8 => k_is)
    (case z9 => k_is)
    (case z10 => k_is)
    (case z11 => k_is)
    (case z12 => k_is)
    (case z13 => k_is)
    (case z14 => k_is)
    (case eS => k_is)
    (case lS => k_is)
    (case eD => k_is)
    (case eM => k_is)
