import PyProof.Rows.All
import Wide.All
import OpenK.AllK
import Wide.FinOn
import HandS.ForMost
import KE.SortData
import HandS.Deep
import HandS.More
import HandS.Defaults
import HandS.IsInst
import KE.KDictKeyed
import HandS.Head0
import HandS.Head1
import HandS.Head2
import HandS.HeadEnd
import HandS.HeadHook1
import HandS.HeadHook2
import PySem.Challenge.RW_mothloom_k79_whole_extra_deeds
set_option Elab.async false
set_option linter.all false
set_option maxRecDepth 100000
/-! the game of weaver and moth over plain lists: the mathematics -/
namespace Gm
abbrev Strip := List Int
abbrev Rest := List Strip
def wo (x : Int) (s : Strip) : Strip := s.filter fun y => !decide (y = x)
def knot (x : Int) (R : Rest) : Rest := R.map (wo x)
def bite (x : Int) (R : Rest) : Rest := R.filter fun s => !decide (x ∈ s)
/-- x is a hole of R -/
def Hol (R : Rest) (x : Int) : Prop := ∃ s ∈ R, x ∈ s
/-- the weaver wins; t: the weaver is to move -/
inductive WW : Bool → Rest → Prop
  | whole {t : Bool} {R : Rest} : [] ∈ R → WW t R
  | knot {R : Rest} {x : Int} : Hol R x → WW false (knot x R) → WW true R
  | bite {R : Rest} : R ≠ [] → (∀ x, Hol R x → WW true (bite x R)) → WW false R
/-- R is below R': each strip of R has all holes of a strip of R' -/
def Bel (R R' : Rest) : Prop := ∀ s ∈ R, ∃ s' ∈ R', ∀ x ∈ s', x ∈ s
def mu (R : Rest) : Nat := (R.map List.length).sum
theorem mem_wo {x y : Int} {s : Strip} : y ∈ wo x s ↔ y ∈ s ∧ y ≠ x := by simp [wo]
theorem mem_knot {x : Int} {R : Rest} {s : Strip} : s ∈ knot x R ↔ ∃ r ∈ R, wo x r = s := by simp [knot]
theorem mem_bite {x : Int} {R : Rest} {s : Strip} : s ∈ bite x R ↔ s ∈ R ∧ x ∉ s := by simp [bite]
theorem wo_len_le (x : Int) (s : Strip) : (wo x s).length ≤ s.length := List.length_filter_le _ _
theorem wo_len_lt {x : Int} {s : Strip} (h : x ∈ s) : (wo x s).length < s.length := by
  have h1 : (wo x s).length ≠ s.length := by
    intro e
    have q := (List.length_filter_eq_length_iff.mp e) x h
    simp at q
  have h2 := wo_len_le x s
  omega
theorem wo_not {x : Int} {s : Strip} (h : x ∉ s) : wo x s = s := by
  apply List.filter_eq_self.mpr
  intro a ha
  have : a ≠ x := fun e => h (e ▸ ha)
  simp [this]
theorem mu_cons (s : Strip) (R : Rest) : mu (s :: R) = s.length + mu R := by simp [mu]
theorem mu_knot_le (x : Int) : ∀ R : Rest, mu (knot x R) ≤ mu R
  | [] => Nat.le_refl _
  | s :: R => by
    have h1 := mu_knot_le x R
    have h2 := wo_len_le x s
    show mu (wo x s :: knot x R) ≤ _
    rw [mu_cons, mu_cons]
    omega
theorem mu_knot_lt {x : Int} : ∀ {R : Rest}, Hol R x → mu (knot x R) < mu R
  | [], h => by obtain ⟨s, hs, _⟩ := h; cases hs
  | s :: R, h => by
    obtain ⟨r, hr, hx⟩ := h
    have h1 := mu_knot_le x R
    have h2 := wo_len_le x s
    show mu (wo x s :: knot x R) < _
    rw [mu_cons, mu_cons]
    rcases List.mem_cons.mp hr with e | hr
    · subst e
      have := wo_len_lt hx
      omega
    · have := mu_knot_lt ⟨r, hr, hx⟩
      omega
theorem bite_cons (x : Int) (s : Strip) (R : Rest) : bite x (s :: R) = if x ∈ s then bite x R else s :: bite x R := by
  by_cases h : x ∈ s <;> simp [bite, h]
theorem mu_bite_le (x : Int) : ∀ R : Rest, mu (bite x R) ≤ mu R
  | [] => Nat.le_refl _
  | s :: R => by
    have h1 := mu_bite_le x R
    rw [bite_cons]
    split
    · rw [mu_cons]; omega
    · rw [mu_cons, mu_cons]; omega
theorem mu_bite_lt {x : Int} : ∀ {R : Rest}, Hol R x → mu (bite x R) < mu R
  | [], h => by obtain ⟨s, hs, _⟩ := h; cases hs
  | s :: R, h => by
    obtain ⟨r, hr, hx⟩ := h
    have h1 := mu_bite_le x R
    rw [bite_cons]
    by_cases hs : x ∈ s
    · rw [if_pos hs, mu_cons]
      have : 0 < s.length := List.length_pos_of_mem hs
      omega
    · rw [if_neg hs, mu_cons, mu_cons]
      rcases List.mem_cons.mp hr with e | hr
      · subst e; exact absurd hx hs
      · have := mu_bite_lt ⟨r, hr, hx⟩
        omega
theorem knot_not {x : Int} {R : Rest} (h : ¬ Hol R x) : knot x R = R := by
  have e : ∀ s ∈ R, wo x s = s := fun s hs => wo_not fun hx => h ⟨s, hs, hx⟩
  exact (List.map_congr_left e).trans (List.map_id' R)
theorem bite_not {x : Int} {R : Rest} (h : ¬ Hol R x) : bite x R = R := by
  apply List.filter_eq_self.mpr
  intro s hs
  have : x ∉ s := fun hx => h ⟨s, hs, hx⟩
  simp [this]
theorem hol_bite {x y : Int} {R : Rest} (h : Hol (bite x R) y) : Hol R y := by
  obtain ⟨s, hs, hy⟩ := h
  exact ⟨s, (mem_bite.mp hs).1, hy⟩
theorem hol_knot {x y : Int} {R : Rest} (h : Hol (knot x R) y) : Hol R y ∧ y ≠ x := by
  obtain ⟨s, hs, hy⟩ := h
  obtain ⟨r, hr, rfl⟩ := mem_knot.mp hs
  exact ⟨⟨r, hr, (mem_wo.mp hy).1⟩, (mem_wo.mp hy).2⟩
theorem hol_bite_ne {x y : Int} {R : Rest} (h : Hol (bite x R) y) : y ≠ x := by
  obtain ⟨s, hs, hy⟩ := h
  intro e
  subst e
  exact (mem_bite.mp hs).2 hy
theorem ww_true {R : Rest} (h : [] ∉ R) : WW true R ↔ ∃ x, Hol R x ∧ WW false (knot x R) := by
  constructor
  · intro w
    cases w with
    | whole q => exact absurd q h
    | knot q w => exact ⟨_, q, w⟩
  · rintro ⟨x, q, w⟩
    exact .knot q w
theorem ww_false {R : Rest} (h : [] ∉ R) (hn : R ≠ []) : WW false R ↔ ∀ x, Hol R x → WW true (bite x R) := by
  constructor
  · intro w
    cases w with
    | whole q => exact absurd q h
    | bite _ w => exact w
  · intro w
    exact .bite hn w
theorem ww_nil {t : Bool} : ¬ WW t [] := by
  intro w
  cases w with
  | whole q => cases q
  | knot q _ => obtain ⟨s, hs, _⟩ := q; cases hs
  | bite q _ => exact q rfl
theorem has_hol {R : Rest} (h : [] ∉ R) (hn : R ≠ []) : ∃ x, Hol R x := by
  cases R with
  | nil => exact absurd rfl hn
  | cons s R =>
    cases s with
    | nil => exact absurd (List.mem_cons_self ..) h
    | cons x s => exact ⟨x, _, List.mem_cons_self .., List.mem_cons_self ..⟩
/-! ### below -/
theorem Bel.refl (R : Rest) : Bel R R := fun s hs => ⟨s, hs, fun _ h => h⟩
theorem Bel.trans {A B C : Rest} (h : Bel A B) (h' : Bel B C) : Bel A C := fun s hs => by
  obtain ⟨t, ht, q⟩ := h s hs
  obtain ⟨u, hu, q'⟩ := h' t ht
  exact ⟨u, hu, fun x hx => q x (q' x hx)⟩
theorem Bel.of_sub {A B : Rest} (h : ∀ s ∈ A, s ∈ B) : Bel A B := fun s hs => ⟨s, h s hs, fun _ q => q⟩
theorem Bel.knot {A B : Rest} (h : Bel A B) (x : Int) : Bel (knot x A) (knot x B) := fun s hs => by
  obtain ⟨r, hr, rfl⟩ := mem_knot.mp hs
  obtain ⟨t, ht, q⟩ := h r hr
  refine ⟨wo x t, mem_knot.mpr ⟨t, ht, rfl⟩, fun y hy => ?_⟩
  obtain ⟨h1, h2⟩ := mem_wo.mp hy
  exact mem_wo.mpr ⟨q y h1, h2⟩
theorem Bel.bite {A B : Rest} (h : Bel A B) (x : Int) : Bel (bite x A) (bite x B) := fun s hs => by
  obtain ⟨h1, h2⟩ := mem_bite.mp hs
  obtain ⟨t, ht, q⟩ := h s h1
  exact ⟨t, mem_bite.mpr ⟨ht, fun hx => h2 (q x hx)⟩, q⟩
theorem bel_knot (x : Int) (R : Rest) : Bel R (knot x R) := fun s hs => ⟨wo x s, mem_knot.mpr ⟨s, hs, rfl⟩, fun _ hy => (mem_wo.mp hy).1⟩
theorem bite_bel (x : Int) (R : Rest) : Bel (bite x R) R := .of_sub fun _ hs => (mem_bite.mp hs).1
theorem bite_bel_knot (x : Int) (R : Rest) : Bel (bite x R) (knot x R) := (bite_bel x R).trans (bel_knot x R)
theorem Bel.whole {A B : Rest} (h : Bel A B) (w : [] ∈ A) : [] ∈ B := by
  obtain ⟨t, ht, q⟩ := h [] w
  cases t with
  | nil => exact ht
  | cons x t => exact absurd (q x (List.mem_cons_self ..)) (by simp)
theorem Bel.bare {A B : Rest} (h : Bel A B) (hn : A ≠ []) : B ≠ [] := by
  rintro rfl
  cases A with
  | nil => exact hn rfl
  | cons s A =>
    obtain ⟨t, ht, _⟩ := h s (List.mem_cons_self ..)
    cases ht
/-- knotting and biting, in either order -/
theorem bel_swap (x y : Int) (R : Rest) : Bel (knot y (bite x R)) (knot y R) := (bite_bel x R).knot y
theorem both : ∀ n : Nat, (∀ R : Rest, mu R ≤ n → WW false R → WW true R) ∧ (∀ k : Nat, ∀ A B : Rest, mu A ≤ n → mu B ≤ n → mu A + mu B ≤ k → Bel A B → ∀ t, WW t A → WW t B) := by
  intro n
  induction n with
  | zero =>
    have no : ∀ R : Rest, mu R ≤ 0 → ∀ x, ¬ Hol R x := by
      intro R h x q
      have := mu_knot_lt q
      omega
    have w : ∀ R : Rest, mu R ≤ 0 → ∀ t, WW t R → [] ∈ R := by
      intro R h t w
      cases w with
      | whole q => exact q
      | knot q _ => exact absurd q (no R h _)
      | bite hn _ =>
        apply Classical.byContradiction
        intro q
        obtain ⟨x, hx⟩ := has_hol q hn
        exact no R h x hx
    exact ⟨fun R h q => .whole (w R h _ q), fun _ A B ha _ _ hb t q => .whole (hb.whole (w A ha t q))⟩
  | succ n ih =>
    obtain ⟨ihP, ihM⟩ := ih
    have P : ∀ R : Rest, mu R ≤ n + 1 → WW false R → WW true R := by
      intro R h w
      by_cases q : [] ∈ R
      · exact .whole q
      by_cases hn : R = []
      · subst hn; exact absurd w ww_nil
      obtain ⟨x, hx⟩ := has_hol q hn
      have w1 := (ww_false q hn).mp w x hx
      have hx1 := mu_bite_lt hx
      have q1 : [] ∉ bite x R := fun z => q (mem_bite.mp z).1
      obtain ⟨y, hy, w2⟩ := (ww_true q1).mp w1
      have hy1 := mu_knot_lt hy
      have hy2 := mu_knot_lt (hol_bite hy)
      exact .knot (hol_bite hy) (ihM (mu (knot y (bite x R)) + mu (knot y R)) _ _ (by omega) (by omega) (Nat.le_refl _) (bel_swap x y R) _ w2)
    refine ⟨P, ?_⟩
    intro k
    induction k with
    | zero =>
      intro A B ha hb hk hB t w
      exact ihM 0 A B (by omega) (by omega) hk hB t w
    | succ k ihk =>
      intro A B ha hb hk hB t w
      by_cases qB : [] ∈ B
      · exact .whole qB
      have qA : [] ∉ A := fun z => qB (hB.whole z)
      by_cases nA : A = []
      · subst nA; exact absurd w ww_nil
      have nB := hB.bare nA
      cases t with
      | true =>
        obtain ⟨x, hx, w1⟩ := (ww_true qA).mp w
        have h1 := mu_knot_lt hx
        have h2 := mu_knot_le x B
        have w2 : WW false (knot x B) := ihk (knot x A) (knot x B) (by omega) (by omega) (by omega) (hB.knot x) _ w1
        by_cases hxB : Hol B x
        · exact .knot hxB w2
        · rw [knot_not hxB] at w2
          exact P B hb w2
      | false =>
        refine (ww_false qB nB).mpr fun y hy => ?_
        have h1 := mu_bite_lt hy
        have h2 := mu_bite_le y A
        by_cases hyA : Hol A y
        · have w1 := (ww_false qA nA).mp w y hyA
          exact ihk (bite y A) (bite y B) (by omega) (by omega) (by omega) (hB.bite y) _ w1
        · have e := bite_not hyA
          have hb' := hB.bite y
          rw [e] at hb'
          exact P _ (by omega) (ihk A (bite y B) ha (by omega) (by omega) hb' _ w)
/-- the weaver that wins as the second wins as the first -/
theorem extra {R : Rest} (w : WW false R) : WW true R := (both (mu R)).1 R (Nat.le_refl _) w
theorem mono {A B : Rest} (h : Bel A B) {t : Bool} (w : WW t A) : WW t B :=
  (both (mu A + mu B)).2 (mu A + mu B) A B (by omega) (by omega) (Nat.le_refl _) h t w
theorem ww_knot {R : Rest} {t : Bool} (x : Int) (w : WW t R) : WW t (knot x R) := mono (bel_knot x R) w
theorem ww_bite {R : Rest} {t : Bool} {x : Int} (w : WW t (bite x R)) : WW t R := mono (bite_bel x R) w
theorem ww_perm {A B : Rest} (h : A.Perm B) {t : Bool} : WW t A ↔ WW t B :=
  ⟨mono (.of_sub fun _ q => h.mem_iff.mp q), mono (.of_sub fun _ q => h.mem_iff.mpr q)⟩
/-! ### rests that are apart -/
def Apart (A B : Rest) : Prop := ∀ x, Hol A x → ¬ Hol B x
theorem hol_app {A B : Rest} {x : Int} : Hol (A ++ B) x ↔ Hol A x ∨ Hol B x := by
  constructor
  · rintro ⟨s, hs, hx⟩
    rcases List.mem_append.mp hs with h | h
    · exact .inl ⟨s, h, hx⟩
    · exact .inr ⟨s, h, hx⟩
  · rintro (⟨s, hs, hx⟩ | ⟨s, hs, hx⟩)
    · exact ⟨s, List.mem_append_left _ hs, hx⟩
    · exact ⟨s, List.mem_append_right _ hs, hx⟩
theorem knot_app (x : Int) (A B : Rest) : knot x (A ++ B) = knot x A ++ knot x B := List.map_append
theorem bite_app (x : Int) (A B : Rest) : bite x (A ++ B) = bite x A ++ bite x B := List.filter_append ..
theorem Apart.symm {A B : Rest} (h : Apart A B) : Apart B A := fun x hb ha => h x ha hb
theorem Apart.knotL {A B : Rest} (h : Apart A B) (x : Int) : Apart (knot x A) B := fun y hy => h y (hol_knot hy).1
theorem Apart.biteL {A B : Rest} (h : Apart A B) (x : Int) : Apart (bite x A) B := fun y hy => h y (hol_bite hy)
theorem ww_comm {A B : Rest} {t : Bool} : WW t (A ++ B) ↔ WW t (B ++ A) := ww_perm List.perm_append_comm
theorem not_bare {t : Bool} {R : Rest} (w : WW t R) : R ≠ [] := by
  rintro rfl
  exact ww_nil w
theorem join : ∀ (n : Nat) (A B : Rest), mu A + mu B ≤ n → Apart A B →
    (WW true (A ++ B) ↔ WW true A ∨ WW true B) ∧ (WW false (A ++ B) ↔ WW false A ∨ WW false B ∨ (WW true A ∧ WW true B)) := by
  intro n
  induction n with
  | zero =>
    intro A B h _
    have no : ∀ R : Rest, mu R ≤ 0 → ∀ x, ¬ Hol R x := by
      intro R h x q
      have := mu_knot_lt q
      omega
    have w : ∀ R : Rest, mu R ≤ 0 → ∀ t, WW t R → [] ∈ R := by
      intro R h t w
      apply Classical.byContradiction
      intro q
      obtain ⟨x, hx⟩ := has_hol q (not_bare w)
      exact no R h x hx
    have hm : mu (A ++ B) = mu A + mu B := by simp [mu]
    have f : ∀ t, WW t (A ++ B) → [] ∈ A ∨ [] ∈ B := fun t q => List.mem_append.mp (w _ (by omega) t q)
    have g : ∀ t, [] ∈ A ∨ [] ∈ B → WW t (A ++ B) := fun t q => .whole (List.mem_append.mpr q)
    have wa := w A (by omega)
    have wb := w B (by omega)
    refine ⟨⟨fun q => (f _ q).imp .whole .whole, fun q => g _ (q.imp (wa _) (wb _))⟩, ⟨fun q => (f _ q).elim (fun z => .inl (.whole z)) (fun z => .inr (.inl (.whole z))), ?_⟩⟩
    rintro (q | q | ⟨q, _⟩)
    · exact g _ (.inl (wa _ q))
    · exact g _ (.inr (wb _ q))
    · exact g _ (.inl (wa _ q))
  | succ n ih =>
    intro A B hn hap
    by_cases qA : [] ∈ A
    · have w : ∀ t, WW t (A ++ B) := fun t => .whole (List.mem_append_left _ qA)
      exact ⟨⟨fun _ => .inl (.whole qA), fun _ => w _⟩, ⟨fun _ => .inl (.whole qA), fun _ => w _⟩⟩
    by_cases qB : [] ∈ B
    · have w : ∀ t, WW t (A ++ B) := fun t => .whole (List.mem_append_right _ qB)
      exact ⟨⟨fun _ => .inr (.whole qB), fun _ => w _⟩, ⟨fun _ => .inr (.inl (.whole qB)), fun _ => w _⟩⟩
    have qJ : [] ∉ A ++ B := fun z => (List.mem_append.mp z).elim qA qB
    by_cases nA : A = []
    · subst nA
      have e : ∀ t, ¬ WW t ([] : Rest) := fun _ => ww_nil
      simp only [List.nil_append]
      exact ⟨⟨.inr, fun z => z.elim (fun q => absurd q (e _)) id⟩, ⟨fun z => .inr (.inl z), fun z => z.elim (fun q => absurd q (e _)) fun z => z.elim id fun q => absurd q.1 (e _)⟩⟩
    by_cases nB : B = []
    · subst nB
      have e : ∀ t, ¬ WW t ([] : Rest) := fun _ => ww_nil
      simp only [List.append_nil]
      exact ⟨⟨.inl, fun z => z.elim id (fun q => absurd q (e _))⟩, ⟨.inl, fun z => z.elim id fun z => z.elim (fun q => absurd q (e _)) fun q => absurd q.2 (e _)⟩⟩
    have nJ : A ++ B ≠ [] := fun e => nA (List.append_eq_nil_iff.mp e).1
    -- a hole of A
    have kA : ∀ x, Hol A x → knot x (A ++ B) = knot x A ++ B := fun x hx => by rw [knot_app, knot_not (hap x hx)]
    have kB : ∀ x, Hol B x → knot x (A ++ B) = A ++ knot x B := fun x hx => by rw [knot_app, knot_not (hap.symm x hx)]
    have bA : ∀ x, Hol A x → bite x (A ++ B) = bite x A ++ B := fun x hx => by rw [bite_app, bite_not (hap x hx)]
    have bB : ∀ x, Hol B x → bite x (A ++ B) = A ++ bite x B := fun x hx => by rw [bite_app, bite_not (hap.symm x hx)]
    have ikA : ∀ x, Hol A x → _ := fun x hx => ih (knot x A) B (by have := mu_knot_lt hx; omega) (hap.knotL x)
    have ikB : ∀ x, Hol B x → _ := fun x hx => ih A (knot x B) (by have := mu_knot_lt hx; omega) (hap.symm.knotL x).symm
    have ibA : ∀ x, Hol A x → _ := fun x hx => ih (bite x A) B (by have := mu_bite_lt hx; omega) (hap.biteL x)
    have ibB : ∀ x, Hol B x → _ := fun x hx => ih A (bite x B) (by have := mu_bite_lt hx; omega) (hap.symm.biteL x).symm
    refine ⟨⟨?_, ?_⟩, ⟨?_, ?_⟩⟩
    · intro w
      obtain ⟨x, hx, w1⟩ := (ww_true qJ).mp w
      rcases hol_app.mp hx with hx | hx
      · rw [kA x hx] at w1
        rcases (ikA x hx).2.mp w1 with w2 | w2 | ⟨_, w2⟩
        · exact .inl (.knot hx w2)
        · exact .inr (extra w2)
        · exact .inr w2
      · rw [kB x hx] at w1
        rcases (ikB x hx).2.mp w1 with w2 | w2 | ⟨w2, _⟩
        · exact .inl (extra w2)
        · exact .inr (.knot hx w2)
        · exact .inl w2
    · rintro (w | w)
      · exact mono (.of_sub fun _ q => List.mem_append_left _ q) w
      · exact mono (.of_sub fun _ q => List.mem_append_right _ q) w
    · intro w
      have turn := (ww_false qJ nJ).mp w
      apply Classical.byContradiction
      intro no
      have nfA : ¬ WW false A := fun z => no (.inl z)
      have nfB : ¬ WW false B := fun z => no (.inr (.inl z))
      have nt : ¬ (WW true A ∧ WW true B) := fun z => no (.inr (.inr z))
      by_cases wA : WW true A
      · have wB : ¬ WW true B := fun z => nt ⟨wA, z⟩
        apply nfA
        refine (ww_false qA nA).mpr fun x hx => ?_
        have w1 := turn x (hol_app.mpr (.inl hx))
        rw [bA x hx] at w1
        exact ((ibA x hx).1.mp w1).resolve_right wB
      · apply nfB
        refine (ww_false qB nB).mpr fun x hx => ?_
        have w1 := turn x (hol_app.mpr (.inr hx))
        rw [bB x hx] at w1
        exact ((ibB x hx).1.mp w1).resolve_left wA
    · rintro (w | w | ⟨w, w'⟩)
      · exact mono (.of_sub fun _ q => List.mem_append_left _ q) w
      · exact mono (.of_sub fun _ q => List.mem_append_right _ q) w
      · refine (ww_false qJ nJ).mpr fun x hx => ?_
        rcases hol_app.mp hx with hx | hx
        · rw [bA x hx]
          exact (ibA x hx).1.mpr (.inr w')
        · rw [bB x hx]
          exact (ibB x hx).1.mpr (.inl w)
theorem join_true {A B : Rest} (h : Apart A B) : WW true (A ++ B) ↔ WW true A ∨ WW true B := (join _ A B (Nat.le_refl _) h).1
theorem join_false {A B : Rest} (h : Apart A B) : WW false (A ++ B) ↔ WW false A ∨ WW false B ∨ (WW true A ∧ WW true B) := (join _ A B (Nat.le_refl _) h).2
end Gm
set_option maxHeartbeats 4000000
/-! sorted(..) of tuples of ints of any lengths, the empty one among them -/
namespace PySem.W
open PySem PySem.Calls PyProof.Rows PySem.SeqAt
section
variable {prog : Program} {w : World} {A : Around} {E : Value → Shared → Prop} {s : Shared}
theorem ml_tuple_lt {Q : Value → Shared → Prop} {l b : Addr} {items items2 : Array Value} {e r : Nat → Bool} (hl : s.heap.IsTuple l items) (hb : s.heap.IsTuple b items2)
    (he : ∀ j (h1 : j < items.size) (h2 : j < items2.size), EqAt A.in1 s items[j] items2[j] (e j)) (hr : ∀ j (h1 : j < items.size) (h2 : j < items2.size), e j = false → RcLt A.in1 s items[j] items2[j] (r j))
    (h : Q (.bool (firstLt e r (decide (items.size < items2.size)) (List.range (min items.size items2.size)))) s) : wpAny (model prog w) A (call (.builtin "tuple.__lt__") [.ref l, .ref b]) Q E s := by
  obtain ⟨⟨cls, dd, data, sl⟩, ho, hc, n, hd⟩ := id hl
  obtain ⟨⟨cls2, dd2, data2, sl2⟩, ho2, hc2, n2, hd2⟩ := id hb
  simp only at hc hd hc2 hd2
  subst hc hd hc2 hd2
  exact call_meets F.slot_tuple_lt ⟨_, ho, rfl⟩ F.entry_tuple_lt (F.args_tuple_lt_2 _ _) (tuple_ltAt l b items items2 n n2 dd dd2 sl sl2 e r) ⟨ho, ho2, he, hr, h⟩
/-- one tuple against another, however the sort asks -/
theorem ml_oneLt {f : Bool} {xs ys : List PyData} {a b : Value} {as bs : List Addr} {Q : Bool → Shared → Prop} (ra : Reads s.heap a (.tuple xs) as) (rb : Reads s.heap b (.tuple ys) bs) (h : alike (.tuple xs) (.tuple ys) = true)
    (hu : A.units + min (PyData.tuple xs).depth (PyData.tuple ys).depth < cLine) (hq : Q (dataLt (.tuple xs) (.tuple ys)) s) : wpAny (model prog w) A (oneLt' f a b) Q E s := by
  cases f with
  | false => exact oneLt_alike (fun z => nomatch z) ra rb h (fun z => nomatch z) hu hq
  | true =>
    have hal : alikeAll xs ys = true := by simpa [alike] using h
    cases ra with
    | @tuple l o vs n _ as₁ h1 h2 h3 h4 =>
      cases rb with
      | @tuple l' o' vs' n' _ bs₁ k1 k2 k3 k4 =>
        have n1 : vs.size = xs.length := by simpa using ReadsAll.length _ _ _ h4
        have n2 : vs'.size = ys.length := by simpa using ReadsAll.length _ _ _ k4
        rw [dataLt_tuple, ← firstLt_toks xs ys hal, ← n1, ← n2] at hq
        rw [oneLt'_eq]
        simp only [if_true]
        refine wpAny_bind (wpAny_cRoomFor (room_here hu) ?_)
        refine wpAny_bind (wpAny_callSpecialIfBound?_slot (T := "tuple") ⟨_, h1, h2⟩ F.slot_tuple_lt (ml_tuple_lt (e := pairEq xs ys) (r := fun j => dataLt (xs.getD j .none) (ys.getD j .none)) ⟨_, h1, h2, _, h3⟩ ⟨_, k1, k2, _, k3⟩ (fun j j1 j2 => ?_) (fun j j1 j2 hj => ?_) ?_))
        · have := eqAt_alikeAll xs ys A.in1 s vs.toList vs'.toList _ _ h4 k4 hal (room_in hu) j (by simpa using j1) (by simpa using j2)
          simpa using this
        · have := rcLt_alikeAll xs ys A.in1 s vs.toList vs'.toList _ _ h4 k4 hal (room_in hu) j (by simpa using j1) (by simpa using j2) hj
          simpa using this
        · exact wpAny_truthy_bool hq
/-- the first items, where there are some -/
theorem ml_firsts : ∀ {vs : List Value} {ds : List PyData}, EachIs (fun v d => ∃ as, Reads s.heap v d as) vs ds → (∀ d, d ∈ ds → ∃ xs, d = .tuple xs) →
    ∃ fs : List (Option Value), (.tuple [] ∈ ds → none ∈ fs) ∧ ∀ (M : Model) (A : Around) (E : Value → Shared → Prop) {Q : List (Option Value) → Shared → Prop}, Q fs s → wpAny M A (vs.mapM firstOfTuple') Q E s
  | _, _, .nil, _ => ⟨[], fun h => (by cases h), fun M A E Q h => by rw [List.mapM_nil]; exact wpAny_pure h⟩
  | _, _, .cons (b := d) ⟨as, r⟩ t, ht => by
    obtain ⟨fs, h1, h2⟩ := ml_firsts t fun d hd => ht d (List.mem_cons_of_mem _ hd)
    obtain ⟨xs, rfl⟩ := ht d (List.mem_cons_self ..)
    cases r with
    | @tuple a o its n _ _ ho hc hd hr =>
      refine ⟨its[0]? :: fs, fun hm => ?_, fun M A E Q h => ?_⟩
      · rcases List.mem_cons.mp hm with e | hm
        · cases e
          have n1 : its.size = 0 := by simpa using ReadsAll.length _ _ _ hr
          have : its[0]? = none := by simp [n1]
          rw [this]
          exact List.mem_cons_self ..
        · exact List.mem_cons_of_mem _ (h1 hm)
      · rw [List.mapM_cons]
        refine wpAny_bind ?_
        rw [kas_first_eq]
        refine wpAny_bind (Looks.here (show Looks M s.heap (typeOf (.ref a)) o.cls from (Looks.ld ho).andThen .now) ?_)
        rw [hc, if_neg (by first | decide | simp)]
        refine wpAny_bind (listItems_at ho hd (wpAny_pure ?_))
        exact wpAny_bind (h2 M A E (Q := fun bs s' => wpAny M A (pure (its[0]? :: bs)) Q E s') (wpAny_pure h))
/-- tuples of which one is empty are not sorted by their items' own comparison -/
theorem ml_kind {vs : List Value} {ds : List PyData} (e : EachIs (fun v d => ∃ as, Reads s.heap v d as) vs ds) (ht : ∀ d, d ∈ ds → ∃ xs, d = .tuple xs) (hx : .tuple [] ∈ ds) :
    ∃ kd : SortKind, (kd = general' ∨ kd = oneType') ∧ ∀ (M : Model) (A : Around) (E : Value → Shared → Prop) {Q : SortKind → Shared → Prop}, Q kd s → wpAny M A (keyKind' vs.toArray) Q E s := by
  obtain ⟨fs, h1, h2⟩ := ml_firsts e ht
  have hno : ¬ (fs.toArray.all fun x => x.isSome) = true := by
    intro z
    simp only [List.all_toArray, List.all_eq_true] at z
    have := z _ (h1 hx)
    simp at this
  by_cases hf : (fs.toArray[0]?.bind id).isSome = true
  · refine ⟨general', .inl rfl, fun M A E Q h => ?_⟩
    rw [kat_kind_eq, List.mapM_toArray, map_eq_pure_bind]
    refine wpAny_bind (wpAny_bind (h2 M A E (wpAny_pure ?_)))
    rw [if_neg hno, if_pos hf]
    exact wpAny_pure h
  · refine ⟨oneType', .inr rfl, fun M A E Q h => ?_⟩
    rw [kat_kind_eq, List.mapM_toArray, map_eq_pure_bind]
    refine wpAny_bind (wpAny_bind (h2 M A E (wpAny_pure ?_)))
    rw [if_neg hno, if_neg hf]
    rw [oneTypeOnly'_eq, List.mapM_toArray, map_eq_pure_bind]
    refine wpAny_bind (wpAny_bind (wpAny_bind (kas_mapM (r := Value.type "tuple") _ (fun v hv Q' hq => ?_) (wpAny_pure ?_))))
    · obtain ⟨d, hd, as, r⟩ := e.left v hv
      obtain ⟨xs, rfl⟩ := ht d hd
      exact (looks_reads r).here hq
    · obtain ⟨v₀, r₀, rfl⟩ : ∃ v₀ r₀, vs = v₀ :: r₀ := by
        cases vs with
        | nil => cases e; cases hx
        | cons v r => exact ⟨v, r, rfl⟩
      have h0 : (List.map (fun _ => Value.type "tuple") (v₀ :: r₀)).toArray[0]? = some (Value.type "tuple") := by simp
      have hall2 : ((List.map (fun _ => Value.type "tuple") (v₀ :: r₀)).toArray.all fun x => x == Value.type "tuple") = true := by
        simp only [List.all_toArray, List.all_map, List.all_eq_true]
        intro _ _
        exact beq_self_eq_true _
      rw [h0]
      simp only [hall2, if_true]
      exact wpAny_pure (wpAny_pure h)
/-- alike tuples can be sorted, the empty one among them or not -/
theorem ml_sortsAt {vs : List Value} {ds : List PyData} (e : EachIs (fun v d => ∃ as, Reads s.heap v d as) vs ds) (hal : AllAlike ds) (ht : ∀ d, d ∈ ds → ∃ xs, d = .tuple xs) (hu : ∀ d, d ∈ ds → A.units + d.depth < cLine) : SortsAt prog w A s (dataKind s.heap ds) vs := by
  have room : ∀ {d d' : PyData}, d ∈ ds → A.units + min d.depth d'.depth < cLine := fun {d d'} hd => Nat.lt_of_le_of_lt (Nat.add_le_add_left (Nat.min_le_left _ _) _) (hu d hd)
  by_cases hx : PyData.tuple [] ∈ ds
  · refine ⟨fun v hv => ?_, ?_⟩
    · obtain ⟨d, hd, as, r⟩ := e.left v hv
      exact ⟨_, dataKind_some hal hd r⟩
    · obtain ⟨kd, hk, hkk⟩ := ml_kind e ht hx
      refine ⟨kd, ?_, fun _ E Q hq => hkk _ _ E hq⟩
      intro E x y a b Q ha hb hq
      obtain ⟨d, as, hd, ra, rfl⟩ := dataKind_inv ha
      obtain ⟨d', as', hd', rb, rfl⟩ := dataKind_inv hb
      have hdd := hal d hd d' hd'
      have hroom := room (d' := d') hd
      obtain ⟨xs, rfl⟩ := ht d hd
      obtain ⟨ys, rfl⟩ := ht d' hd'
      rcases hk with rfl | rfl
      · show wpAny _ _ (oneLt' false x y) Q E s
        exact ml_oneLt ra rb hdd hroom hq
      · show wpAny _ _ (oneLt' true x y) Q E s
        exact ml_oneLt ra rb hdd hroom hq
  · refine SortsAt.data e hal (.inl fun d hd => ?_) hu
    obtain ⟨xs, rfl⟩ := ht d hd
    cases xs with
    | nil => exact absurd hd hx
    | cons x r => exact ⟨x, r, rfl⟩
end
section
variable {prog : Program} {w : World} {A : Around} {E : Value → Shared → Prop} {s : Shared} {β : Type} {vs : List Value} {bs : List β} {enc : β → PyData} {R : Value → β → Prop}
theorem ml_sorted {l : Addr} {Q : Value → Shared → Prop} (hl : s.heap.IsList l vs.toArray) (e : EachIs R vs bs) (er : EachIs (fun v b => ∃ as, Reads s.heap v (enc b) as) vs bs) (hal : AllAlike (bs.map enc)) (ht : ∀ d, d ∈ bs.map enc → ∃ xs, d = .tuple xs) (hL : bs.length ≤ sizeLine)
    (hu : ∀ b, b ∈ bs → A.units + 2 + (enc b).depth < cLine) (h : ∀ out, out.length = bs.length → EachIs R out (bs.mergeSort (dataLe false enc)) → Q (.ref (s.heap.objs.size + 1)) { s with heap := sortedAll s.heap vs (List.toArray out) }) :
    wpAny (model prog w) A (call (.builtin "sorted") [.ref l]) Q E s := by
  have er' : EachIs (fun v b => ∃ as, Reads (sortingHeap (copyHeap s.heap vs) (s.heap.objs.size + 1) vs) v (enc b) as) vs bs := er.mono fun _ _ ⟨as, r⟩ => ⟨as, PyProof.Rows.Reads.keeps (fun _ _ => sorting_copy_old) r⟩
  exact sorted_vals hl (ml_sortsAt (s := { s with heap := sortingHeap (copyHeap s.heap vs) (s.heap.objs.size + 1) vs }) (each_map (R := fun v d => ∃ as, Reads (sortingHeap (copyHeap s.heap vs) (s.heap.objs.size + 1) vs) v d as) enc er') hal ht (bound_map hu)) (by rw [e.length]; exact hL)
    (h _ (by rw [sortVals_length false rfl]; exact e.length) (sortVals_data false e er' hal))
end
end PySem.W
set_option maxHeartbeats 4000000
/-! rests in the heap; `in` over a tuple of tuples, sorted strips, a dict keyed by (rest, turn) -/
namespace Ml
open PySem PySem.Spec PyProof.Rows L2
/-- a strip at an address -/
abbrev StAt (K : PySem.W.Frag) (H : Hp) (a : Addr) (s : List Int) : Prop := SqT K H a (s.map V.int)
/-- strips with the places where they stand -/
abbrev Lay := List (Addr × List Int)
abbrev Lay.refs (bs : Lay) : List V := bs.map fun b => V.ref b.1
abbrev Lay.rest (bs : Lay) : List (List Int) := bs.map fun b => b.2
def LaidAt (K : PySem.W.Frag) (H : Hp) (bs : Lay) : Prop := ∀ b ∈ bs, StAt K H b.1 b.2
/-- a rest (a tuple of strips) at an address -/
def RsAt (K : PySem.W.Frag) (H : Hp) (a : Addr) (R : List (List Int)) : Prop := ∃ bs : Lay, bs.rest = R ∧ SqT K H a bs.refs ∧ LaidAt K H bs
/-- tuples stay -/
theorem Rd.same {H H' : Hp} {a : Addr} {u : HO} (e : Same H H') (h : Rd H a u) : Rd H' a u := h.imp (fun z => e _ _ z) fun ⟨o, z⟩ => ⟨o, e _ _ z⟩
theorem sqT_same {K : PySem.W.Frag} {H H' : Hp} {a : Addr} {xs : List V} (e : Same H H') (h : SqT K H a xs) : SqT K H' a xs := h.imp (Rd.same e) id
/-- all but d stands as it stood -/
def But (d : Addr) (H H' : Hp) : Prop := ∀ b o, b ≠ d → H b = some o → H' b = some o
theorem But.refl {d : Addr} {H : Hp} : But d H H := fun _ _ _ e => e
theorem But.trans {d : Addr} {H H1 H2 : Hp} (a : But d H H1) (b : But d H1 H2) : But d H H2 := fun x o n e => b x o n (a x o n e)
theorem But.of {d : Addr} {H H' : Hp} (a : Same H H') : But d H H' := fun x o _ e => a x o e
theorem But.upd {d : Addr} {H : Hp} {o : HO} : But d H (upd H d o) := fun x u n e => by rw [upd_ne n]; exact e
/-- what stands at d is no tuple and no frozen thing -/
def Loose (H : Hp) (d : Addr) : Prop := (∀ xs, H d ≠ some (.tup xs)) ∧ ∀ o u, H d ≠ some (.frz o u)
theorem Loose.none {H : Hp} {d : Addr} (h : H d = none) : Loose H d := ⟨fun _ e => by rw [h] at e; (cases e), fun _ _ e => by rw [h] at e; (cases e)⟩
theorem sqT_but {K : PySem.W.Frag} {H H' : Hp} {a d : Addr} {xs : List V} (e : But d H H') (l : Loose H d) (h : SqT K H a xs) : SqT K H' a xs := by
  refine h.imp (fun z => ?_) id
  rcases z with z | ⟨o, z⟩
  · refine .inl (e _ _ (fun q => ?_) z)
    subst q
    exact l.1 _ z
  · refine .inr ⟨o, e _ _ (fun q => ?_) z⟩
    subst q
    exact l.2 _ _ z
theorem LaidAt.same {K : PySem.W.Frag} {H H' : Hp} {bs : Lay} (e : Same H H') (h : LaidAt K H bs) : LaidAt K H' bs := fun b hb => sqT_same e (h b hb)
theorem LaidAt.but {K : PySem.W.Frag} {H H' : Hp} {d : Addr} {bs : Lay} (e : But d H H') (l : Loose H d) (h : LaidAt K H bs) : LaidAt K H' bs := fun b hb => sqT_but e l (h b hb)
theorem RsAt.same {K : PySem.W.Frag} {H H' : Hp} {a : Addr} {R : List (List Int)} (e : Same H H') (h : RsAt K H a R) : RsAt K H' a R := by
  obtain ⟨bs, q, h1, h2⟩ := h
  exact ⟨bs, q, sqT_same e h1, h2.same e⟩
theorem RsAt.but {K : PySem.W.Frag} {H H' : Hp} {a d : Addr} {R : List (List Int)} (e : But d H H') (l : Loose H d) (h : RsAt K H a R) : RsAt K H' a R := by
  obtain ⟨bs, q, h1, h2⟩ := h
  exact ⟨bs, q, sqT_but e l h1, h2.but e l⟩
/-! ### as data -/
abbrev dS (s : List Int) : PyData := .tuple (s.map .int)
abbrev dR (R : List (List Int)) : PyData := .tuple (R.map dS)
theorem dp_ints {K : PySem.W.Frag} {H : Hp} : ∀ s : List Int, DpAll K H (s.map V.int) (s.map PyData.int)
  | [] => .nil
  | x :: s => .cons (.int x) (dp_ints s)
theorem dp_st {K : PySem.W.Frag} {H : Hp} {a : Addr} {s : List Int} (h : StAt K H a s) : Dp K H (.ref a) (dS s) := .tup h (dp_ints s)
theorem dp_laid {K : PySem.W.Frag} {H : Hp} : ∀ bs : Lay, LaidAt K H bs → DpAll K H bs.refs (bs.rest.map dS)
  | [], _ => .nil
  | b :: bs, h => .cons (dp_st (h b (List.mem_cons_self ..))) (dp_laid bs fun c hc => h c (List.mem_cons_of_mem _ hc))
theorem dp_rs {K : PySem.W.Frag} {H : Hp} {a : Addr} {R : List (List Int)} (h : RsAt K H a R) : Dp K H (.ref a) (dR R) := by
  obtain ⟨bs, rfl, h1, h2⟩ := h
  exact .tup h1 (dp_laid bs h2)
theorem dp_rl {K : PySem.W.Frag} {H : Hp} {a : Addr} {bs : Lay} (h : SqL K H a bs.refs) (h2 : LaidAt K H bs) : Dp K H (.ref a) (.list (bs.rest.map dS)) := .lst h (dp_laid bs h2)
theorem ints_lay : ∀ s : List Int, PyData.canLayAll0 (s.map .int) = true
  | [] => by simp [PyData.canLayAll0]
  | x :: s => by simp [PyData.canLayAll0, PyData.canLay0, ints_lay s]
theorem ints_depth : ∀ s : List Int, PyData.depthAll (s.map .int) = 0
  | [] => by simp [PyData.depthAll]
  | x :: s => by simp [PyData.depthAll, PyData.depth, ints_depth s]
theorem dS_lay (s : List Int) : (dS s).canLay0 = true := by simp only [PyData.canLay0]; exact ints_lay s
theorem dS_depth (s : List Int) : (dS s).depth = 1 := by simp [PyData.depth, ints_depth]
theorem dSs_lay : ∀ R : List (List Int), PyData.canLayAll0 (R.map dS) = true
  | [] => by simp [PyData.canLayAll0]
  | s :: R => by
    have h := dSs_lay R
    simp only [List.map_cons, PyData.canLayAll0, Bool.and_eq_true]
    exact ⟨dS_lay s, h⟩
theorem dSs_depth : ∀ R : List (List Int), PyData.depthAll (R.map dS) ≤ 1
  | [] => by simp [PyData.depthAll]
  | s :: R => by
    have h := dSs_depth R
    have h2 := dS_depth s
    simp only [List.map_cons, PyData.depthAll]
    omega
theorem dS_shaped (s : List Int) : SeqAt.shaped (dS s) = true := by
  have h := dS_depth s
  show ((dS s).canLay0 && decide ((dS s).depth ≤ 64)) = true
  rw [Bool.and_eq_true]
  exact ⟨dS_lay s, decide_eq_true (by omega)⟩
theorem dR_shaped (R : List (List Int)) : SeqAt.shaped (dR R) = true := by
  have h := dSs_depth R
  have h2 : (dR R).depth ≤ 64 := by
    simp only [PyData.depth]
    omega
  show ((dR R).canLay0 && decide ((dR R).depth ≤ 64)) = true
  rw [Bool.and_eq_true]
  exact ⟨by simp only [PyData.canLay0]; exact dSs_lay R, decide_eq_true h2⟩
theorem dL_shaped (R : List (List Int)) : SeqAt.shaped (.list (R.map dS)) = true := by
  have h := dSs_depth R
  have h2 : (PyData.list (R.map dS)).depth ≤ 64 := by
    simp only [PyData.depth]
    omega
  show ((PyData.list (R.map dS)).canLay0 && decide ((PyData.list (R.map dS)).depth ≤ 64)) = true
  rw [Bool.and_eq_true]
  exact ⟨by simp only [PyData.canLay0]; exact dSs_lay R, decide_eq_true h2⟩
theorem ints_eqv : ∀ s t : List Int, PyData.eqvAll (s.map .int) (t.map .int) = decide (s = t)
  | [], [] => by simp [PyData.eqvAll]
  | [], _ :: _ => by simp [PyData.eqvAll]
  | _ :: _, [] => by simp [PyData.eqvAll]
  | x :: s, y :: t => by
    simp only [List.map_cons, PyData.eqvAll, PyData.eqv, ints_eqv s t]
    by_cases h : x = y
    · subst h; simp
    · simp [h]
theorem dS_eqv (s t : List Int) : PyData.eqv (dS s) (dS t) = decide (s = t) := by
  simp only [PyData.eqv]
  exact ints_eqv s t
theorem dSs_eqv : ∀ R S : List (List Int), PyData.eqvAll (R.map dS) (S.map dS) = decide (R = S)
  | [], [] => by simp [PyData.eqvAll]
  | [], _ :: _ => by simp [PyData.eqvAll]
  | _ :: _, [] => by simp [PyData.eqvAll]
  | x :: s, y :: t => by
    simp only [List.map_cons, PyData.eqvAll, dSs_eqv s t]
    rw [dS_eqv x y]
    by_cases h : x = y
    · subst h; simp
    · simp [h]
theorem dR_eqv (R S : List (List Int)) : PyData.eqv (dR R) (dR S) = decide (R = S) := by
  simp only [PyData.eqv]
  exact dSs_eqv R S
theorem any_eqv (R : List (List Int)) (s : List Int) : ((R.map dS).any fun z => PyData.eqv z (dS s)) = decide (s ∈ R) := by
  induction R with
  | nil => simp
  | cons t R ih =>
    rw [List.map_cons, List.any_cons, ih, dS_eqv]
    by_cases h : t = s
    · subst h; simp
    · have h' : ¬ s = t := fun e => h e.symm
      simp [h, h']
/-! ### rules -/
section
variable {X : Cx}
/-- s in R, both tuples -/
def rInR (K : PySem.W.Frag) : R2 := fun x y H Q => ∃ a b s R, x = .ref a ∧ y = .ref b ∧ StAt K H a s ∧ RsAt K H b R ∧ Q (.bl (decide (s ∈ R))) H
theorem op_inR (hu : X.A.units + 65 < cLine) : OpR X (compareOp .In) (rInR X.K) := by
  intro pins s σ H x y v u Q I rx ry h
  obtain ⟨a, b, st, R, rfl, rfl, h1, h2, q⟩ := h
  obtain ⟨as, r1⟩ := Dp.reads I _ _ v (dp_st h1) rx
  obtain ⟨bs, r2⟩ := Dp.reads I _ _ u (dp_rs h2) ry
  exact SeqAt.in_tuple_reads r2 r1 (dSs_lay R) (dS_lay st) (room_in_shaped (dS_shaped st) hu) ⟨.bl _, H, I, by rw [any_eqv]; rfl, q⟩
/-- s not in L, L a list of strips -/
def rNotInL (K : PySem.W.Frag) : R2 := fun x y H Q => ∃ a b s bs, x = .ref a ∧ y = .ref b ∧ StAt K H a s ∧ SqL K H b (Lay.refs bs) ∧ LaidAt K H bs ∧ Q (.bl (!decide (s ∈ bs.rest))) H
theorem op_notInL (hu : X.A.units + 65 < cLine) : OpR X (compareOp .NotIn) (rNotInL X.K) := by
  intro pins s σ H x y v u Q I rx ry h
  obtain ⟨a, b, st, bs, rfl, rfl, h1, h2, h3, q⟩ := h
  obtain ⟨as, r1⟩ := Dp.reads I _ _ v (dp_st h1) rx
  obtain ⟨cs, r2⟩ := Dp.reads I _ _ u (dp_rl h2 h3) ry
  exact SeqAt.notIn_list_reads r2 r1 (dSs_lay _) (dS_lay st) (room_in_shaped (dS_shaped st) hu) ⟨.bl _, H, I, by rw [any_eqv]; rfl, q⟩
/-- s == t, s != t of two strips -/
def rEqS (K : PySem.W.Frag) : R2 := fun x y H Q => ∃ a b s t, x = .ref a ∧ y = .ref b ∧ StAt K H a s ∧ StAt K H b t ∧ Q (.bl (decide (s = t))) H
def rNeS (K : PySem.W.Frag) : R2 := fun x y H Q => ∃ a b s t, x = .ref a ∧ y = .ref b ∧ StAt K H a s ∧ StAt K H b t ∧ Q (.bl (!decide (s = t))) H
def rEqR (K : PySem.W.Frag) : R2 := fun x y H Q => ∃ a b R S, x = .ref a ∧ y = .ref b ∧ RsAt K H a R ∧ RsAt K H b S ∧ Q (.bl (decide (R = S))) H
/-- L != M of two lists of strips -/
def rNeL (K : PySem.W.Frag) : R2 := fun x y H Q => ∃ a b bs cs, x = .ref a ∧ y = .ref b ∧ SqL K H a (Lay.refs bs) ∧ LaidAt K H bs ∧ SqL K H b (Lay.refs cs) ∧ LaidAt K H cs ∧ Q (.bl (!decide (bs.rest = cs.rest))) H
theorem op_eqS (hu : X.A.units + 64 < cLine) : OpR X (compareOp .Eq) (rEqS X.K) := by
  intro pins s σ H x y v u Q I rx ry h
  obtain ⟨a, b, s1, s2, rfl, rfl, h1, h2, q⟩ := h
  exact op_eqD hu pins s σ H _ _ v u Q I rx ry ⟨_, _, dp_st h1, dp_st h2, dS_shaped _, dS_shaped _, by rw [dS_eqv]; exact q⟩
theorem op_neS (hu : X.A.units + 64 < cLine) : OpR X (compareOp .NotEq) (rNeS X.K) := by
  intro pins s σ H x y v u Q I rx ry h
  obtain ⟨a, b, s1, s2, rfl, rfl, h1, h2, q⟩ := h
  exact op_neD hu pins s σ H _ _ v u Q I rx ry ⟨_, _, dp_st h1, dp_st h2, dS_shaped _, dS_shaped _, by rw [dS_eqv]; exact q⟩
theorem op_eqR (hu : X.A.units + 64 < cLine) : OpR X (compareOp .Eq) (rEqR X.K) := by
  intro pins s σ H x y v u Q I rx ry h
  obtain ⟨a, b, s1, s2, rfl, rfl, h1, h2, q⟩ := h
  exact op_eqD hu pins s σ H _ _ v u Q I rx ry ⟨_, _, dp_rs h1, dp_rs h2, dR_shaped _, dR_shaped _, by rw [dR_eqv]; exact q⟩
theorem op_neL (hu : X.A.units + 64 < cLine) : OpR X (compareOp .NotEq) (rNeL X.K) := by
  intro pins s σ H x y v u Q I rx ry h
  obtain ⟨a, b, bs, cs, rfl, rfl, h1, h2, h3, h4, q⟩ := h
  refine op_neD hu pins s σ H _ _ v u Q I rx ry ⟨_, _, dp_rl h1 h2, dp_rl h3 h4, dL_shaped _, dL_shaped _, ?_⟩
  have e : PyData.eqv (.list (bs.rest.map dS)) (.list (cs.rest.map dS)) = decide (bs.rest = cs.rest) := by
    simp only [PyData.eqv]
    exact dSs_eqv _ _
  rw [e]
  exact q
theorem vals_refs {β : Type} {f : β → Addr} : ∀ {bs : List β} {us : List Value}, Vals (bs.map fun b => V.ref (f b)) us → us = bs.map fun b => Value.ref (f b)
  | [], us, h => by
    rw [List.map_nil] at h
    cases h
    rfl
  | b :: bs, us, h => by
    rw [List.map_cons] at h
    cases h with
    | cons r t =>
      cases r
      rw [vals_refs t, List.map_cons]
theorem refs_vals {β : Type} {f : β → Addr} : ∀ bs : List β, Vals (bs.map fun b => V.ref (f b)) (bs.map fun b => Value.ref (f b))
  | [] => .nil
  | _ :: bs => .cons rfl (refs_vals bs)
theorem each_refs {β : Type} {f : β → Addr} {R : Value → β → Prop} : ∀ {bs : List β}, (∀ b ∈ bs, R (.ref (f b)) b) → PySem.W.EachIs R (bs.map fun b => Value.ref (f b)) bs
  | [], _ => .nil
  | b :: bs, h => .cons (h b (List.mem_cons_self ..)) (each_refs fun c hc => h c (List.mem_cons_of_mem _ hc))
theorem each_back {β : Type} {f : β → Addr} : ∀ {us : List Value} {bs : List β}, PySem.W.EachIs (fun v b => v = .ref (f b)) us bs → us = bs.map fun b => Value.ref (f b)
  | _, _, .nil => rfl
  | _, _, .cons h t => by rw [h, each_back t, List.map_cons]
theorem strips_alike : ∀ s t : List Int, PySem.W.alike (dS s) (dS t) = true := by
  intro s t
  simp only [PySem.W.alike]
  exact PySem.W.alike_ints s t
/-- sorted(L) of a list of strips: a new list of the same, in some order -/
def rSortR (K : PySem.W.Frag) : List V → Hp → VK → Prop := fun vs H Q => ∃ (a : Addr) (bs : Lay), vs = [V.ref a] ∧ SqL K H a bs.refs ∧ LaidAt K H bs ∧
  ∀ (cs : Lay) (p : Addr), cs.Perm bs → H p = none → Q (.ref p) (upd H p (.lst cs.refs))
theorem cr_sortR (hu : X.A.units + 64 < cLine) : CallR X (.builtin "sorted") (rSortR X.K) := by
  intro pins s σ H vs us Q I r h
  obtain ⟨a, bs, rfl, hs, hl, q⟩ := h
  obtain ⟨its, rv, hp, hz⟩ := I.list hs
  rw [Vals.ref1 r]
  have ei := vals_refs rv
  subst ei
  have hz' : bs.length ≤ sizeLine := by rw [List.length_map] at hz; exact hz
  refine PySem.W.ml_sorted (bs := bs) (enc := fun b => dS b.2) (R := fun v b => v = .ref b.1) hp.isList (each_refs fun b _ => rfl) (each_refs fun b hb => Dp.reads I _ _ _ (dp_st (hl b hb)) rfl)
    (PySem.W.AllAlike.of fun b b' => strips_alike _ _) (fun d hd => ?_) hz' (fun b _ => ?_) fun out ho eo => ?_
  · obtain ⟨b, _, rfl⟩ := List.mem_map.mp hd
    exact ⟨_, rfl⟩
  · rw [dS_depth]
    omega
  · have eo' := each_back eo
    subst eo'
    obtain ⟨ep, he'⟩ := PyProof.Rows.sortedAll_at s.heap (bs.map fun b => Value.ref b.1) ((bs.mergeSort (PySem.W.dataLe false fun b => dS b.2)).map fun b => Value.ref b.1).toArray
    have hperm : (bs.mergeSort (PySem.W.dataLe false fun b => dS b.2)).Perm bs := List.mergeSort_perm _ _
    refine ⟨.ref _, upd H (s.heap.objs.size + 1) (.lst (Lay.refs (bs.mergeSort (PySem.W.dataLe false fun b => dS b.2)))), I.laid (t' := s.toks) (fun _ _ => PyProof.Rows.sortedAll_old) (Nat.le_succ _) ⟨?_, _, ep, refs_vals _, he'⟩, rfl, q _ _ hperm (I.hok.fresh (Nat.le_succ _))⟩
    rw [List.length_map, hperm.length_eq]
    exact hz'
end
end Ml
set_option maxHeartbeats 4000000
/-! a dict whose keys are tuples (rest, turn) -/
namespace Ml
open PySem PySem.Spec PyProof.Rows L2
def kI (s : List Int) : NestedKey := .tup (s.map .num)
def kN (R : List (List Int)) (t : Str) : NestedKey := .tup [.tup (R.map kI), .text t]
theorem nums_inj : ∀ {s t : List Int}, s.map NestedKey.num = t.map NestedKey.num → s = t
  | [], [], _ => rfl
  | [], _ :: _, e => by simp at e
  | _ :: _, [], e => by simp at e
  | x :: s, y :: t, e => by
    rw [List.map_cons, List.map_cons] at e
    injection e with e1 e2
    injection e1 with e1
    rw [e1, nums_inj e2]
theorem kI_inj {s t : List Int} (e : kI s = kI t) : s = t := by
  unfold kI at e
  injection e with e
  exact nums_inj e
theorem kIs_inj : ∀ {R S : List (List Int)}, R.map kI = S.map kI → R = S
  | [], [], _ => rfl
  | [], _ :: _, e => by simp at e
  | _ :: _, [], e => by simp at e
  | x :: s, y :: t, e => by
    rw [List.map_cons, List.map_cons] at e
    injection e with e1 e2
    rw [kI_inj e1, kIs_inj e2]
theorem kN_inj {R S : List (List Int)} {t u : Str} (e : kN R t = kN S u) : R = S ∧ t = u := by
  unfold kN at e
  injection e with e
  injection e with e1 e2
  injection e1 with e1
  injection e2 with e2 _
  injection e2 with e2
  exact ⟨kIs_inj e1, e2⟩
theorem nums_depth : ∀ s : List Int, NestedKey.depthAll (s.map .num) = 0
  | [] => by simp [NestedKey.depthAll]
  | x :: s => by simp [NestedKey.depthAll, NestedKey.depth, nums_depth s]
theorem kI_depth (s : List Int) : (kI s).depth = 1 := by simp [kI, NestedKey.depth, nums_depth]
theorem kIs_depth : ∀ R : List (List Int), NestedKey.depthAll (R.map kI) ≤ 1
  | [] => by simp [NestedKey.depthAll]
  | s :: R => by
    have h := kIs_depth R
    have h2 := kI_depth s
    simp only [List.map_cons, NestedKey.depthAll]
    omega
theorem kN_depth (R : List (List Int)) (t : Str) : (kN R t).depth ≤ 8 := by
  have h := kIs_depth R
  simp only [kN, NestedKey.depth, NestedKey.depthAll]
  omega
/-- a key tuple at an address -/
def KyAt (K : PySem.W.Frag) (H : Hp) (b : Addr) (R : List (List Int)) (t : Str) : Prop := ∃ r, SqT K H b [.ref r, .str t] ∧ RsAt K H r R
theorem KyAt.same {K : PySem.W.Frag} {H H' : Hp} {b : Addr} {R : List (List Int)} {t : Str} (e : Same H H') (h : KyAt K H b R t) : KyAt K H' b R t := by
  obtain ⟨r, h1, h2⟩ := h
  exact ⟨r, sqT_same e h1, h2.same e⟩
theorem KyAt.but {K : PySem.W.Frag} {H H' : Hp} {b d : Addr} {R : List (List Int)} {t : Str} (e : But d H H') (l : Loose H d) (h : KyAt K H b R t) : KyAt K H' b R t := by
  obtain ⟨r, h1, h2⟩ := h
  exact ⟨r, sqT_but e l h1, h2.but e l⟩
/-- an entry: its key, where the key's tuple and the value stand -/
abbrev Ent := (List (List Int) × Str) × Addr × Addr
abbrev rawE (e : Ent) : NestedKey × Addr × Value := (kN e.1.1 e.1.2, e.2.1, Value.ref e.2.2)
def NDict (P : Program) (w : World) (a : Addr) (es : List Ent) : HO := .ext fun h => (a == sysModules) = false ∧ es.length ≤ sizeLine ∧
  ∃ o ds ep, h.get? a = some o ∧ o.ExactDict ∧ o.data = .dict ds ep ∧ ds.toList = (es.map rawE).map (entryOfKey (nestedKind P w)) ∧ ((es.map rawE).map (·.1)).Nodup
structure KnAt (P : Program) (w : World) (K : PySem.W.Frag) (H : Hp) (a : Addr) (es : List Ent) : Prop where
  at_ : H a = some (NDict P w a es)
  ky : ∀ e ∈ es, KyAt K H e.2.1 e.1.1 e.1.2
theorem KnAt.loose {P : Program} {w : World} {K : PySem.W.Frag} {H : Hp} {a : Addr} {es : List Ent} (h : KnAt P w K H a es) : Loose H a :=
  ⟨fun _ e => by rw [h.at_] at e; injection e with e; unfold NDict at e; (cases e), fun _ _ e => by rw [h.at_] at e; injection e with e; unfold NDict at e; (cases e)⟩
theorem KnAt.same {P : Program} {w : World} {K : PySem.W.Frag} {H H' : Hp} {a : Addr} {es : List Ent} (e : Same H H') (h : KnAt P w K H a es) : KnAt P w K H' a es := ⟨e _ _ h.at_, fun x hx => (h.ky x hx).same e⟩
def look (es : List Ent) (R : List (List Int)) (t : Str) : Option Addr := (es.find? fun e => decide (e.1 = (R, t))).map fun e => e.2.2
theorem look_mem {es : List Ent} {R : List (List Int)} {t : Str} {v : Addr} (h : look es R t = some v) : ∃ b, ((R, t), b, v) ∈ es := by
  unfold look at h
  obtain ⟨e, he, hv⟩ := Option.map_eq_some_iff.mp h
  have h1 := List.find?_some he
  have h2 := List.mem_of_find?_eq_some he
  obtain ⟨k, b, v'⟩ := e
  have hk : k = (R, t) := of_decide_eq_true h1
  have hv' : v' = v := hv
  subst hk hv'
  exact ⟨b, h2⟩
theorem atKey_raw (R : List (List Int)) (t : Str) : ∀ es : List Ent, (atKey (es.map rawE) (kN R t)).map (·.2) = (look es R t).map Value.ref
  | [] => rfl
  | e :: es => by
    have ih := atKey_raw R t es
    by_cases h : e.1 = (R, t)
    · have h1 : kN e.1.1 e.1.2 = kN R t := by rw [h]
      simp [atKey, look, List.find?_cons, h, h1]
    · have h1 : ¬ kN e.1.1 e.1.2 = kN R t := fun q => h (by obtain ⟨q1, q2⟩ := kN_inj q; exact Prod.ext q1 q2)
      unfold atKey look at ih ⊢
      rw [List.map_cons, List.find?_cons, List.find?_cons]
      simp only [h1, h, decide_false]
      exact ih
def putE (es : List Ent) (R : List (List Int)) (t : Str) (b v : Addr) : List Ent :=
  if (look es R t).isSome then es.map fun e => if e.1 = (R, t) then (e.1, e.2.1, v) else e else es ++ [((R, t), b, v)]
theorem putE_raw (es : List Ent) (R : List (List Int)) (t : Str) (b v : Addr) : (putE es R t b v).map rawE = storedH (es.map rawE) (kN R t) b (.ref v) := by
  have e : (atKey (es.map rawE) (kN R t)).isSome = (look es R t).isSome := by
    have := congrArg Option.isSome (atKey_raw R t es)
    simpa using this
  unfold putE storedH
  rw [e]
  split
  · rw [List.map_map, List.map_map]
    refine List.map_congr_left fun x _ => ?_
    show rawE (if x.1 = (R, t) then (x.1, x.2.1, v) else x) = putAt (kN R t) (.ref v) (rawE x)
    unfold putAt
    by_cases h : x.1 = (R, t)
    · have h1 : kN x.1.1 x.1.2 = kN R t := by rw [h]
      rw [if_pos h, if_pos h1]
    · have h1 : ¬ kN x.1.1 x.1.2 = kN R t := fun q => h (by obtain ⟨q1, q2⟩ := kN_inj q; exact Prod.ext q1 q2)
      rw [if_neg h, if_neg h1]
  · rw [List.map_append]
    rfl
theorem putE_len (es : List Ent) (R : List (List Int)) (t : Str) (b v : Addr) : (putE es R t b v).length ≤ es.length + 1 := by
  unfold putE
  split
  · rw [List.length_map]; omega
  · rw [List.length_append, List.length_singleton]; omega
theorem putE_all {es : List Ent} {R : List (List Int)} {t : Str} {b v : Addr} {Pr : Ent → Prop} (h : ∀ e ∈ es, Pr e) (hn : Pr ((R, t), b, v)) (hm : ∀ e ∈ es, e.1 = (R, t) → Pr (e.1, e.2.1, v)) : ∀ e ∈ putE es R t b v, Pr e := by
  unfold putE
  split
  · intro e he
    obtain ⟨x, hx, rfl⟩ := List.mem_map.mp he
    by_cases q : x.1 = (R, t)
    · rw [if_pos q]; exact hm x hx q
    · rw [if_neg q]; exact h x hx
  · intro e he
    rcases List.mem_append.mp he with he | he
    · exact h e he
    · rw [List.mem_singleton.mp he]; exact hn
theorem look_put {es : List Ent} {R : List (List Int)} {t : Str} {b v : Addr} : look (putE es R t b v) R t = some v := by
  unfold putE
  by_cases h : (look es R t).isSome = true
  · rw [if_pos h]
    induction es with
    | nil => simp [look] at h
    | cons x es ih =>
      by_cases q : x.1 = (R, t)
      · simp [look, List.find?_cons, q]
      · have h' : (look es R t).isSome = true := by
          unfold look at h ⊢
          rw [List.find?_cons] at h
          simp only [q, decide_false] at h
          exact h
        have := ih h'
        unfold look at this ⊢
        rw [List.map_cons, List.find?_cons]
        simp only [q, if_false, decide_false]
        exact this
  · rw [if_neg h]
    have hn : (es.find? fun e => decide (e.1 = (R, t))) = none := by
      cases q : es.find? fun e => decide (e.1 = (R, t)) with
      | none => rfl
      | some e => unfold look at h; rw [q] at h; exact absurd rfl h
    unfold look
    rw [List.find?_append, hn]
    simp
section
variable {X : Cx} {pins : List (Addr × Obj)} {σ : L2.St} {H : Hp} {s : Shared}
theorem ns_ints {h : Heap} : ∀ {st : List Int} {us : List Value}, Vals (st.map V.int) us → NestedAll h (st.map .num) us
  | [], us, r => by
    rw [List.map_nil] at r
    cases r
    exact .nil
  | x :: st, us, r => by
    rw [List.map_cons] at r
    cases r with
    | cons r t =>
      obtain ⟨tk, rfl⟩ := r
      exact .cons (.int x tk) (ns_ints t)
theorem ns_st {a : Addr} {st : List Int} (I : Inv X pins σ H s) (h : StAt X.K H a st) : NestedIs s.heap (kI st) (.ref a) := by
  obtain ⟨its, rv, ⟨o, e, c, n, d⟩, _⟩ := I.tuple h
  exact .tup e c d (by simpa using ns_ints rv)
theorem ns_laid (I : Inv X pins σ H s) : ∀ (bs : Lay) (us : List Value), LaidAt X.K H bs → Vals bs.refs us → NestedAll s.heap (bs.rest.map kI) us
  | [], us, _, r => by
    cases r
    exact .nil
  | b :: bs, us, h, r => by
    cases r with
    | cons r t =>
      cases r
      exact .cons (ns_st I (h b (List.mem_cons_self ..))) (ns_laid I bs _ (fun c hc => h c (List.mem_cons_of_mem _ hc)) t)
theorem ns_rs {a : Addr} {R : List (List Int)} (I : Inv X pins σ H s) (h : RsAt X.K H a R) : NestedIs s.heap (.tup (R.map kI)) (.ref a) := by
  obtain ⟨bs, rfl, h1, h2⟩ := h
  obtain ⟨its, rv, ⟨o, e, c, n, d⟩, _⟩ := I.tuple h1
  exact .tup e c d (by simpa using ns_laid I bs _ h2 rv)
theorem ky_is {b : Addr} {R : List (List Int)} {t : Str} (I : Inv X pins σ H s) (h : KyAt X.K H b R t) : (nestedKind X.prog X.w).is s.heap (kN R t) b := by
  obtain ⟨r, h1, h2⟩ := h
  obtain ⟨its, rv, ⟨o, e, c, n, d⟩, _⟩ := I.tuple h1
  refine ⟨?_, kN_depth R t⟩
  refine .tup e c d ?_
  cases rv with
  | cons r1 t1 =>
    cases t1 with
    | cons r2 t2 =>
      cases t2
      cases r1
      obtain ⟨tk, rfl⟩ := r2
      exact .cons (ns_rs I h2) (.cons (.text t tk) .nil)
theorem kn_dict {a : Addr} {es : List Ent} (I : Inv X pins σ H s) (h : KnAt X.prog X.w X.K H a es) : (a == sysModules) = false ∧ es.length ≤ sizeLine ∧ s.heap.DictOfH (nestedKind X.prog X.w) a (es.map rawE) := by
  obtain ⟨⟨h1, h2, o, ds, ep, q1, q2, q3, q4, q5⟩, _, _⟩ := (show ObjOk X.prog X.w H s.heap a (NDict X.prog X.w a es) from I.hok a _ h.at_)
  refine ⟨h1, h2, o, ds, ep, q1, q2, q3, q4, fun x hx => ?_, q5⟩
  obtain ⟨e, he, rfl⟩ := List.mem_map.mp hx
  exact ky_is I (h.ky e he)
theorem nd_ok {P : Program} {w : World} {H' : Hp} {h' : Heap} {a : Addr} {es : List Ent} (h1 : (a == sysModules) = false) (h2 : es.length ≤ sizeLine)
    (h : ∃ o ds ep, h'.get? a = some o ∧ o.ExactDict ∧ o.data = .dict ds ep ∧ ds.toList = (es.map rawE).map (entryOfKey (nestedKind P w)) ∧ ((es.map rawE).map (·.1)).Nodup) : ObjOk P w H' h' a (NDict P w a es) := by
  obtain ⟨o, ds, ep, q1, q⟩ := id h
  refine ⟨⟨h1, h2, h⟩, ⟨o, q1⟩, ?_⟩
  rintro g g' ⟨_, _, o, ds, ep, q1, q⟩ st
  exact ⟨h1, h2, o, ds, ep, st o q1, q⟩
variable {A : Around} {E : Value → Shared → Prop}
theorem k_room {A : Around} (hu : A.units + 64 < cLine) {P : Program} {w : World} : (nestedKind P w).room A.in1 := by
  show A.units + 1 + 8 < cLine
  omega
/-- (rest, turn) not in known -/
def rNotInK (P : Program) (w : World) (K : PySem.W.Frag) : R2 := fun x y H Q => ∃ b a R t es, x = .ref b ∧ y = .ref a ∧ KyAt K H b R t ∧ KnAt P w K H a es ∧ Q (.bl (!(look es R t).isSome)) H
theorem op_notInK (hu : X.A.units + 64 < cLine) : OpR X (compareOp .NotIn) (rNotInK X.prog X.w X.K) := by
  intro pins s σ H x y v u Q I rx ry h
  obtain ⟨b, a, R, t, es, rfl, rfl, h1, h2, q⟩ := h
  cases rx
  cases ry
  obtain ⟨hd, hz, dd⟩ := kn_dict I h2
  refine wpAny_notIn_heap (k_room hu) (ky_is I h1) hd dd ?_
  have e := congrArg Option.isSome (atKey_raw R t es)
  rw [Option.isSome_map, Option.isSome_map] at e
  rw [e]
  exact ⟨.bl _, H, I.tok _, rfl, q⟩
/-- known[rest, turn] -/
def tKGet (P : Program) (w : World) (K : PySem.W.Frag) (td ty : TE) : TE := fun σ H Q => td σ H fun x H1 => ty σ H1 fun y H2 => ∃ b a R t es v, x = .ref a ∧ y = .ref b ∧ KyAt K H2 b R t ∧ KnAt P w K H2 a es ∧ look es R t = some v ∧ Q (.ref v) H2
theorem pe_kget {o i : Expr} {pos : Pos} {td ty : TE} (hu : X.A.units + 64 < cLine) (ho : PE X o td) (hi : PE X i ty) (hs : NoSl i) : PE X (.Subscript o i pos) (tKGet X.prog X.w X.K td ty) := by
  refine ⟨fun pins s σ H Q I h => ?_⟩
  refine subD_of PySem.F.slot_dict_getitem.lookup hs (thn (ho.run pins s σ H _ I h) fun u s1 ⟨x, H1, I1, rx, q1⟩ => thn (hi.run pins s1 σ H1 _ I1 q1) fun iv s2 ⟨y, H2, I2, ry, b, a, R, t, es, v, ex, ey, k1, k2, hl, q2⟩ => ?_)
  subst ex ey
  obtain rfl : u = Value.ref a := rx
  obtain rfl : iv = Value.ref b := ry
  obtain ⟨hd, hz, dd⟩ := kn_dict I2 k2
  have e := atKey_raw R t es
  rw [hl, Option.map_some] at e
  obtain ⟨p, hp, hp2⟩ := Option.map_eq_some_iff.mp e
  refine ⟨dd.typeIs, wpAny_getItem_heap (k_room hu) (ky_is I2 k1) dd hp ?_⟩
  rw [hp2]
  exact ⟨.ref v, H2, I2.tok _, rfl, q2⟩
/-- known[rest, turn] = value -/
def sKPut (P : Program) (w : World) (K : PySem.W.Frag) (td ty tv : TE) : TS := fun D σ H => tv σ H fun z H1 => td σ H1 fun x H2 => ty σ H2 fun y H3 => ∃ b a R t es v, z = .ref v ∧ x = .ref a ∧ y = .ref b ∧ KyAt K H3 b R t ∧ KnAt P w K H3 a es ∧ es.length < sizeLine ∧
  D.nx σ (upd H3 a (NDict P w a (putE es R t b v)))
theorem ps_kput {o i value : Expr} {pos pos' : Pos} {td ty tv : TE} (hu : X.A.units + 64 < cLine) (ho : PE X o td) (hi : PE X i ty) (hv : PE X value tv) (hs : swapsWith value (some (.Subscript o i pos')) pos.line X.env = pure false) :
    PS X (.Assign [.Subscript o i pos'] value pos) (sKPut X.prog X.w X.K td ty tv) := by
  refine ⟨fun pins s σ H D I h => ?_⟩
  refine wpAny_Assign_Subscript (thn (hv.run pins s σ H _ I h) fun r s1 ⟨z, H1, I1, rv, q1⟩ => thn (ho.run pins s1 σ H1 _ I1 q1) fun u s2 ⟨x, H2, I2, rx, q2⟩ => thn (hi.run pins s2 σ H2 _ I2 q2) fun iv s3 ⟨y, H3, I3, ry, b, a, R, t, es, v, ez, ex, ey, k1, k2, hl, q3⟩ => ?_) hs
  subst ex ey ez
  obtain rfl : u = Value.ref a := rx
  obtain rfl : iv = Value.ref b := ry
  obtain rfl : r = Value.ref v := rv
  obtain ⟨hd, hz, dd⟩ := kn_dict I3 k2
  refine wpAny_setItem_heap (hsz := by rw [List.length_map]; exact hz) (k_room hu) (ky_is I3 k1) dd fun h' dd' hs => ?_
  obtain ⟨o', ds, ep, q, p1, p2, p3, _, p5⟩ := dd'
  rw [← putE_raw] at p3 p5
  have hl' : (putE es R t b v).length ≤ sizeLine := by have := putE_len es R t b v; omega
  exact ⟨σ, _, d_write I3 (by rw [k2.at_]; exact True.intro) hs ⟨o', q⟩ (nd_ok hd hl' ⟨o', ds, ep, q, p1, p2, p3, p5⟩), q3⟩
/-- {} -/
def tDNewN (P : Program) (w : World) : TE := fun _ H Q => ∀ p, H p = none → Q (.ref p) (upd H p (NDict P w p []))
theorem pe_dnewN {pos : Pos} : PE X (.Dict [] [] pos) (tDNewN X.prog X.w) := ⟨fun pins s σ H Q I h =>
  wpAny_Dict_empty ⟨.ref s.heap.objs.size, _, I.laid (a := s.heap.objs.size) (o := NDict X.prog X.w s.heap.objs.size []) (t' := s.toks) (fun _ _ q => Heap.get?_push_of_some _ q) (Nat.le_refl _)
    (nd_ok (beq_eq_false_iff_ne.mpr (Ne.symm (Nat.ne_of_lt I.big))) (Nat.zero_le _) ⟨_, #[], 0, Heap.get?_push_size _ rfl, ⟨rfl, rfl, rfl⟩, rfl, rfl, List.nodup_nil⟩), rfl, h _ (I.hok.fresh (Nat.le_refl _))⟩⟩
end
end Ml
/-! the text by places -/
namespace Ml
open PySem PySem.Spec PyProof.Rows L2
def top (i : Nat) : Stmt := PySem.Challenge.pw_mothloom_k79_whole_extra_deeds.main.body.getD i (.Pass ⟨0, 0, 0, 0⟩)
abbrev s_has_all : Stmt := top 1
abbrev s_has_less : Stmt := top 2
abbrev s_thinned : Stmt := top 3
abbrev s_without : Stmt := top 12
abbrev s_knotted : Stmt := top 13
abbrev s_bitten : Stmt := top 14
abbrev s_holes_of : Stmt := top 15
abbrev s_is_whole : Stmt := top 16
abbrev s_is_bare : Stmt := top 17
abbrev s_meets : Stmt := top 19
abbrev s_group_of : Stmt := top 20
abbrev s_pieces : Stmt := top 21
abbrev s_rest_behind : Stmt := top 30
abbrev s_case_row : Stmt := top 31
abbrev s_every_hole : Stmt := top 32
abbrev s_known_outcome : Stmt := top 33
abbrev s_widened : Stmt := top 34
abbrev s_tried : Stmt := top 35
abbrev s_by_pieces : Stmt := top 49
abbrev s_is_small : Stmt := top 50
abbrev s_weaver_by_pieces : Stmt := top 51
abbrev s_moth_by_pieces : Stmt := top 52
abbrev s_small_settled : Stmt := top 53
abbrev s_settled : Stmt := top 55
abbrev s_law_cell : Stmt := top 57
abbrev s_law_mixed : Stmt := top 58
abbrev s_law_knotted : Stmt := top 59
abbrev s_law_bitten : Stmt := top 60
abbrev s_law_holes : Stmt := top 61
abbrev s_law_block_strip : Stmt := top 62
abbrev s_law_winner : Stmt := top 63
abbrev s_law : Stmt := top 64
/-- the def x of the text stands at f -/
abbrev FnP (K : PySem.W.Frag) (x : Str) (st : Stmt) (dvs : List V) (f : Addr) (fd : FuncData) : Prop := FunD K x x (defArgs st) (defBody st) (defScope st) dvs [] f fd
/-- the built-ins' names that the text has not taken -/
structure Fre (mg : Str → Option Value) : Prop where
  tuple : mg "tuple" = none
  sorted : mg "sorted" = none
  len : mg "len" = none
  list : mg "list" = none
  range : mg "range" = none
  isinstance : mg "isinstance" = none
end Ml
set_option maxHeartbeats 4000000
/-! helpers for the walk -/
namespace Ml
open PySem PySem.Spec PyProof.Rows L2
/-! ### defs as they are called -/
structure Cal (P : Program) (w : World) (K : PySem.W.Frag) (mg : Str → Option Value) (base : Heap) (k : Nat) (x : Str) (ps : List Str) (sp : Sp) : Prop where
  ex : ∃ f fd, FnOk P w K mg base CX0 k f fd ps sp ∧ mg x = some (.ref f) ∧ PySem.W.keepIn K (.ref f) = true ∧ Binds K fd ps []
def Has (K : PySem.W.Frag) (mg : Str → Option Value) (x : Str) (st : Stmt) (dvs : List V) : Prop := ∃ f fd, FnP K x st dvs f fd ∧ mg x = some (.ref f)
section
variable {P : Program} {w : World} {K : PySem.W.Frag} {mg : Str → Option Value} {base : Heap}
theorem Cal.mono {j k : Nat} {x : Str} {ps : List Str} {sp : Sp} (C : Cal P w K mg base j x ps sp) (h : j ≤ k) : Cal P w K mg base k x ps sp := by
  obtain ⟨f, fd, F, a, b, c⟩ := C.ex
  exact ⟨f, fd, F.mono h, a, b, c⟩
theorem FnP.okD {x : Str} {st : Stmt} {dvs : List V} {f : Addr} {fd : FuncData} {N ps : List Str} {k : Nat} {sp : Sp} (F : FnP K x st dvs f fd) (S : FnScope N ps (defScope st)) (len : ∀ vs H Q E, sp vs H Q E → vs.length = ps.length)
    (hbody : ∀ (cdv : Value) (A : Around) (outer : List Env) (s : Shared) (H : Hp) (vs : List V) (Q : VK) (E : XK), Room k (A.deeper (envOfC x (defScope st) s.heap.objs.size f cdv)) → sp vs H Q E →
      ∃ t, PSs (cxOf CX0 P w K mg base N x (defScope st) f cdv A outer s H E).nox (defBody st) t ∧ t { nx := fun _ H' => Q .non H', rt := Q } (start N vs) H) : FnOk P w K mg base CX0 (k + 1) f fd ps sp :=
  FunD.ok F S len fun cdv A outer s H vs Q E hr h => by
    obtain ⟨t, h1, h2⟩ := hbody cdv A outer s H vs Q E hr h
    exact ⟨t, PSs.nox h1, h2⟩
/-- a def of no defaults, by its body -/
theorem Has.cal {x : Str} {st : Stmt} {N ps : List Str} {k : Nat} {sp : Sp} (Hx : Has K mg x st []) (S : FnScope N ps (defScope st))
    (hb : ∀ (kV doc pm : Value) (an : Option Addr) (cdv ct : Value) (us : List Value), us.length = ps.length → bindArgs (PySem.W.fnOf x x (defArgs st) (defBody st) (defScope st) .none kV doc pm an cdv ct) ⟨us, []⟩ = pure (ps.zip us))
    (len : ∀ vs H Q E, sp vs H Q E → vs.length = ps.length)
    (hbody : ∀ (f : Addr) (cdv : Value) (A : Around) (outer : List Env) (s : Shared) (H : Hp) (vs : List V) (Q : VK) (E : XK), Room k (A.deeper (envOfC x (defScope st) s.heap.objs.size f cdv)) → sp vs H Q E →
      ∃ t, PSs (cxOf CX0 P w K mg base N x (defScope st) f cdv A outer s H E).nox (defBody st) t ∧ t { nx := fun _ H' => Q .non H', rt := Q } (start N vs) H) : Cal P w K mg base (k + 1) x ps sp := by
  obtain ⟨f, fd, F, m⟩ := Hx
  exact ⟨f, fd, F.okD S len fun cdv A outer s H vs Q E hr h => hbody f cdv A outer s H vs Q E hr h, m, F.kp, FunD.bindsN F hb⟩
end
section
variable {X : Cx} {k : Nat} {ps : List Str} {sp : Sp} {x : Str} {p pos : Pos} {e : Expr} {es : List Expr} {t : TA}
/-- f(e, ..) by what it promises -/
theorem pe_cal (C : Cal X.prog X.w X.K X.mg X.base k x ps sp) (hr : Room k X.A) (hg : Gl X x) (hx : Passes CX0 X E0) (ha : PA X (e :: es) t) (hdb : (x == ("__debug__" : Str)) = false := by decide)
    (he : starEach (e :: es) X.env = (false, eval e X.env) :: starEach es X.env := by rfl) (hpl : (backTo pos (starEach es X.env)).any (·.1) = false := by rfl) :
    PE X (.Call (.Name x p) (e :: es) [] pos) (tCall sp [] E0 t) := by
  obtain ⟨f, fd, F, m, kp, b⟩ := C.ex
  exact pe_call F hr hg m kp b .nil hx ha hdb he hpl
end
/-! ### the heap -/
theorem same_put {H H1 : Hp} {p : Addr} (e : Same H H1) (h : H p = none) (o : HO) : Same H (upd H1 p o) := fun b u q => by rw [upd_ne (ne_of_none q h)]; exact e b u q
theorem same_new {H : Hp} {p : Addr} (h : H p = none) (o : HO) : Same H (upd H p o) := same_put (Same.refl H) h o
theorem sqT_upd {K : PySem.W.Frag} {H : Hp} {a p : Addr} {xs : List V} (h : H p = none) (o : HO) (q : SqT K H a xs) : SqT K (upd H p o) a xs := sqT_same (same_new h o) q
/-- a list's own change leaves the tuples -/
theorem sqT_lst {K : PySem.W.Frag} {H : Hp} {a l : Addr} {xs ys zs : List V} (hl : H l = some (.lst ys)) (q : SqT K H a xs) : SqT K (upd H l (.lst zs)) a xs := by
  refine sqT_but But.upd ⟨fun _ e => ?_, fun _ _ e => ?_⟩ q
  · rw [hl] at e; cases e
  · rw [hl] at e; cases e
theorem Loose.lst {H : Hp} {l : Addr} {ys : List V} (hl : H l = some (.lst ys)) : Loose H l := ⟨fun _ e => by rw [hl] at e; (cases e), fun _ _ e => by rw [hl] at e; (cases e)⟩
theorem Loose.dK {H : Hp} {l : Addr} {ys : List (Key × V)} (hl : H l = some (.dK ys)) : Loose H l := ⟨fun _ e => by rw [hl] at e; (cases e), fun _ _ e => by rw [hl] at e; (cases e)⟩
/-! ### numbers and lists -/
theorem big (n : Nat) (h : n ≤ 1000000) : n ≤ sizeLine := by rw [sizeLine_eq]; omega
theorem bigl (n : Nat) (h : n ≤ 1000000) : n < sizeLine := by rw [sizeLine_eq]; omega
theorem take_next {α : Type} {l : List α} {i : Nat} {x : α} (h : l[i]? = some x) : l.take (i + 1) = l.take i ++ [x] := by
  rw [List.take_add_one, h]
  rfl
theorem ix_lt {α : Type} {l : List α} {i : Nat} {x : α} (h : l[i]? = some x) : i < l.length := (List.getElem?_eq_some_iff.mp h).1
theorem ix_mem {α : Type} {l : List α} {i : Nat} {x : α} (h : l[i]? = some x) : x ∈ l := List.mem_of_getElem? h
theorem take_all {α : Type} (l : List α) : l.take l.length = l := List.take_length
theorem inV_int {x : Int} : ∀ s : List Int, inV (.int x) (s.map V.int) = decide (x ∈ s)
  | [] => by simp [inV]
  | y :: s => by
    have ih := inV_int (x := x) s
    unfold inV at ih ⊢
    rw [List.map_cons, List.any_cons, ih]
    by_cases h : y = x
    · subst h; simp [eqV]
    · have h' : ¬ x = y := fun e => h e.symm
      simp [eqV, h, h']
theorem flat_ints : ∀ s : List Int, (s.map V.int).all flatV = true
  | [] => rfl
  | _ :: s => by rw [List.map_cons, List.all_cons, flat_ints s]; rfl
theorem laid_ix {K : PySem.W.Frag} {H : Hp} {bs : Lay} {i : Nat} {b : Addr × List Int} (h : LaidAt K H bs) (e : bs[i]? = some b) : StAt K H b.1 b.2 := h b (ix_mem e)
/-! ### rules whose reading names the written part itself (a comprehension's block) -/
theorem op_nin {X : Cx} {K : PySem.W.Frag} (h : X.K = K) : OpR X (compareOp .NotIn) (rIn K true) := h ▸ op_notIn_seq
theorem op_neSK {X : Cx} {K : PySem.W.Frag} (h : X.K = K) (hu : X.A.units + 64 < cLine) : OpR X (compareOp .NotEq) (rNeS K) := h ▸ op_neS hu
theorem op_eqSK {X : Cx} {K : PySem.W.Frag} (h : X.K = K) (hu : X.A.units + 64 < cLine) : OpR X (compareOp .Eq) (rEqS K) := h ▸ op_eqS hu
theorem ix_tupK {X : Cx} {K : PySem.W.Frag} (h : X.K = K) : IxR X (rIxT K) := h ▸ ix_tup
/-! ### branches -/
theorem iteNot {c : Prop} [Decidable c] {A B : Prop} (h1 : ¬ c → A) (h2 : c → B) : if (if true = true then !decide c else decide c) = true then A else B := by
  by_cases h : c
  · simp [h, h2 h]
  · simp [h, h1 h]
theorem iteDec {c : Prop} [Decidable c] {A B : Prop} (h1 : c → A) (h2 : ¬ c → B) : if decide c = true then A else B := by
  by_cases h : c
  · simp [h, h1 h]
  · simp [h, h2 h]
theorem iteND {c : Prop} [Decidable c] {A B : Prop} (h1 : ¬ c → A) (h2 : c → B) : if (!decide c) = true then A else B := by
  by_cases h : c
  · simp [h, h2 h]
  · simp [h, h1 h]
/-! ### loops over strips and rests -/
section
variable {K : PySem.W.Frag} {a : Addr} {g : TG} {tb : TS} {D : Ends} {σ : L2.St} {H : Hp}
theorem map_ix {α β : Type} {f : α → β} {l : List α} {i : Nat} {y : β} (h : (l.map f)[i]? = some y) : ∃ x, l[i]? = some x ∧ y = f x := by
  rw [List.getElem?_map] at h
  obtain ⟨x, h1, h2⟩ := Option.map_eq_some_iff.mp h
  exact ⟨x, h1, h2.symm⟩
/-- for x in t, t a tuple of what f makes of l -/
theorem for_mapT {α : Type} {f : α → V} {l : List α} (Pv : Nat → L2.St → Hp → Prop) (h0 : Pv 0 σ H) (hl : ∀ i σ H, Pv i σ H → SqT K H a (l.map f))
    (hs : ∀ i x σ H, l[i]? = some x → Pv i σ H → g (f x) σ H fun σ2 H2 => tb { D with nx := Pv (i + 1), ct := Pv (i + 1), bk := D.nx } σ2 H2) (hd : ∀ σ H, Pv l.length σ H → D.nx σ H) :
    ∃ W : Nat → Nat → L2.St → Hp → Prop, (∃ m, W 0 m σ H) ∧ ∀ i m σ H, W i m σ H →
      ((Itt K a).stop i H ∧ D.nx σ H) ∨ ((Itt K a).go i H ∧ ∃ N : L2.St → Hp → Prop, (∀ σ' H', N σ' H' → ∃ m', m' < m ∧ W (i + 1) m' σ' H') ∧ ∀ x H', (Itt K a).yld i H x H' → g x σ H' fun σ2 H2 => tb { D with nx := N, ct := N, bk := D.nx } σ2 H2) :=
  for_tup (xs := l.map f) Pv h0 (fun i σ H _ p => hl i σ H p) (fun i x σ H hx p => by
    obtain ⟨y, hy, rfl⟩ := map_ix hx
    exact hs i y σ H hy p) (by rw [List.length_map]; exact hd)
theorem for_mapL {α : Type} {f : α → V} {l : List α} (Pv : Nat → L2.St → Hp → Prop) (h0 : Pv 0 σ H) (hl : ∀ i σ H, Pv i σ H → SqL K H a (l.map f))
    (hs : ∀ i x σ H, l[i]? = some x → Pv i σ H → g (f x) σ H fun σ2 H2 => tb { D with nx := Pv (i + 1), ct := Pv (i + 1), bk := D.nx } σ2 H2) (hd : ∀ σ H, Pv l.length σ H → D.nx σ H) :
    ∃ W : Nat → Nat → L2.St → Hp → Prop, (∃ m, W 0 m σ H) ∧ ∀ i m σ H, W i m σ H →
      ((Itl K a).stop i H ∧ D.nx σ H) ∨ ((Itl K a).go i H ∧ ∃ N : L2.St → Hp → Prop, (∀ σ' H', N σ' H' → ∃ m', m' < m ∧ W (i + 1) m' σ' H') ∧ ∀ x H', (Itl K a).yld i H x H' → g x σ H' fun σ2 H2 => tb { D with nx := N, ct := N, bk := D.nx } σ2 H2) :=
  for_list (xs := l.map f) Pv h0 (fun i σ H _ p => hl i σ H p) (fun i x σ H hx p => by
    obtain ⟨y, hy, rfl⟩ := map_ix hx
    exact hs i y σ H hy p) (by rw [List.length_map]; exact hd)
end
section
variable {K : PySem.W.Frag} {a : Addr} {g : TG} {tt : TT} {te : TE} {vs : List Nat} {σ : L2.St} {H1 : Hp} {D : Addr} {Qd : Hp → Prop}
theorem lc_mapT {α : Type} {f : α → V} {l : List α} (Pv : Nat → Hp → Prop) (h0 : Pv 0 (upd H1 D (.lst []))) (hl : ∀ i H, Pv i H → SqT K H a (l.map f))
    (hs : ∀ i x H, l[i]? = some x → Pv i H → g (f x) (wipe σ vs) H fun σ2 H2 => wipe σ2 vs = wipe σ vs ∧ tt σ2 H2 fun b H3 =>
      if b = true then te σ2 H3 fun y H4 => ∃ acc, H4 D = some (.lst acc) ∧ acc.length < sizeLine ∧ Pv (i + 1) (upd H4 D (.lst (acc ++ [y]))) else Pv (i + 1) H3) (hd : ∀ H, Pv l.length H → Qd H) :
    ∃ W : Nat → Nat → Hp → Prop, (∃ m, W 0 m (upd H1 D (.lst []))) ∧ ∀ i m H, W i m H →
      ((Itt K a).stop i H ∧ Qd H) ∨ ((Itt K a).go i H ∧ ∃ Nx : Hp → Prop, (∀ H', Nx H' → ∃ m', m' < m ∧ W (i + 1) m' H') ∧ ∀ x H', (Itt K a).yld i H x H' → g x (wipe σ vs) H' fun σ2 H2 => wipe σ2 vs = wipe σ vs ∧ tt σ2 H2 fun b H3 =>
        if b = true then te σ2 H3 fun y H4 => ∃ acc, H4 D = some (.lst acc) ∧ acc.length < sizeLine ∧ Nx (upd H4 D (.lst (acc ++ [y]))) else Nx H3) :=
  lc_tup (xs := l.map f) Pv h0 (fun i H _ p => hl i H p) (fun i x H hx p => by
    obtain ⟨y, hy, rfl⟩ := map_ix hx
    exact hs i y H hy p) (by rw [List.length_map]; exact hd)
theorem lc_mapL {α : Type} {f : α → V} {l : List α} (Pv : Nat → Hp → Prop) (h0 : Pv 0 (upd H1 D (.lst []))) (hl : ∀ i H, Pv i H → SqL K H a (l.map f))
    (hs : ∀ i x H, l[i]? = some x → Pv i H → g (f x) (wipe σ vs) H fun σ2 H2 => wipe σ2 vs = wipe σ vs ∧ tt σ2 H2 fun b H3 =>
      if b = true then te σ2 H3 fun y H4 => ∃ acc, H4 D = some (.lst acc) ∧ acc.length < sizeLine ∧ Pv (i + 1) (upd H4 D (.lst (acc ++ [y]))) else Pv (i + 1) H3) (hd : ∀ H, Pv l.length H → Qd H) :
    ∃ W : Nat → Nat → Hp → Prop, (∃ m, W 0 m (upd H1 D (.lst []))) ∧ ∀ i m H, W i m H →
      ((Itl K a).stop i H ∧ Qd H) ∨ ((Itl K a).go i H ∧ ∃ Nx : Hp → Prop, (∀ H', Nx H' → ∃ m', m' < m ∧ W (i + 1) m' H') ∧ ∀ x H', (Itl K a).yld i H x H' → g x (wipe σ vs) H' fun σ2 H2 => wipe σ2 vs = wipe σ vs ∧ tt σ2 H2 fun b H3 =>
        if b = true then te σ2 H3 fun y H4 => ∃ acc, H4 D = some (.lst acc) ∧ acc.length < sizeLine ∧ Nx (upd H4 D (.lst (acc ++ [y]))) else Nx H3) :=
  lc_list (xs := l.map f) Pv h0 (fun i H _ p => hl i H p) (fun i x H hx p => by
    obtain ⟨y, hy, rfl⟩ := map_ix hx
    exact hs i y H hy p) (by rw [List.length_map]; exact hd)
end
end Ml
set_option maxHeartbeats 4000000
namespace Ml
open PySem PySem.Spec PyProof.Rows L2
section
variable {P : Program} {w : World} {K : PySem.W.Frag} {mg : Str → Option Value} {base : Heap}
/-! ### has_all -/
def sp_has_all (K : PySem.W.Frag) : Sp := fun vs H Q _ => ∃ (a b : Addr) (s p : List Int), vs = [.ref a, .ref b] ∧ StAt K H a s ∧ StAt K H b p ∧ Q (.bl (decide (∀ x ∈ p, x ∈ s))) H
theorem sc_has_all : FnScope ["strip", "part", "hole"] ["strip", "part"] (defScope s_has_all) := ⟨rfl, rfl, rfl, by decide +kernel, rfl, by decide +kernel, by decide +kernel⟩
theorem ok_has_all (T : Has K mg "has_all" s_has_all []) : Cal P w K mg base 1 "has_all" ["strip", "part"] (sp_has_all K) := by
  refine T.cal sc_has_all (fun _ _ _ _ _ _ us hl => match us, hl with | [_, _], _ => rfl) (fun vs H Q E h => ?_) (fun f cdv A outer s H vs Q E hr h => ?_)
  · obtain ⟨a, b, s, p, rfl, _⟩ := h
    rfl
  obtain ⟨a, b, st, p, rfl, h1, h2, q⟩ := h
  refine ⟨_, pss_cons (ps_for PassesOwn.never rfl (pi_tup (pv 1)) (pg_name (i := 2) sc_has_all.nd rfl (Or.inl rfl))
      (pss_one (ps_if (pt_cmpR op_notIn_seq (pv 2) (pv 0) (by rfl)) (pss_one (ps_ret pe_bl)) pss_nil)))
    (pss_one (ps_ret pe_bl)), ?_⟩
  refine ⟨_, rfl, b, rfl, ⟨_, h2⟩, for_mapT (f := V.int) (l := p) (fun i σ H' => H' = H ∧ (∃ v, σ = [some (.ref a), some (.ref b), v]) ∧ ∀ x ∈ p.take i, x ∈ st) ⟨rfl, ⟨_, rfl⟩, by simp⟩ (fun i σ H' ⟨e, _⟩ => e ▸ h2) ?_ ?_⟩
  · rintro i x σ H' hx ⟨rfl, ⟨v, rfl⟩, hp⟩
    refine ⟨_, rfl, _, rfl, a, _, rfl, .inr h1, rfl, flat_ints _, _, rfl, ?_⟩
    rw [inV_int]
    refine iteNot (fun c => ?_) (fun c => ?_)
    · have e : decide (∀ x ∈ p, x ∈ st) = false := decide_eq_false fun z => c (z x (ix_mem hx))
      rw [e] at q
      exact q
    · refine ⟨rfl, ⟨_, rfl⟩, fun y hy => ?_⟩
      rw [take_next hx] at hy
      rcases List.mem_append.mp hy with hy | hy
      · exact hp y hy
      · rw [List.mem_singleton.mp hy]; exact c
  · rintro σ H' ⟨rfl, ⟨v, rfl⟩, hp⟩
    rw [take_all] at hp
    rw [decide_eq_true hp] at q
    exact q
theorem hu65 {k : Nat} {A : Around} (hr : Room k A) : A.units + 65 < cLine := by have := hr.un; omega
theorem hu64 {k : Nat} {A : Around} (hr : Room k A) : A.units + 64 < cLine := by have := hr.un; omega
/-! ### has_less -/
/-- an unlike strip of R within s -/
def Less (s : List Int) (R : List (List Int)) : Prop := ∃ p ∈ R, p ≠ s ∧ ∀ x ∈ p, x ∈ s
open Classical in
noncomputable def lessB (s : List Int) (R : List (List Int)) : Bool := decide (Less s R)
theorem lessB_true {s : List Int} {R : List (List Int)} : lessB s R = true ↔ Less s R := by unfold lessB; simp
theorem lessB_false {s : List Int} {R : List (List Int)} : lessB s R = false ↔ ¬ Less s R := by unfold lessB; simp
def sp_has_less (K : PySem.W.Frag) : Sp := fun vs H Q _ => ∃ (a b : Addr) (s : List Int) (R : List (List Int)), vs = [.ref a, .ref b] ∧ StAt K H a s ∧ RsAt K H b R ∧ Q (.bl (lessB s R)) H
theorem sc_has_less : FnScope ["strip", "rest", "part"] ["strip", "rest"] (defScope s_has_less) := ⟨rfl, rfl, rfl, by decide +kernel, rfl, by decide +kernel, by decide +kernel⟩
theorem ok_has_less (T : Has K mg "has_less" s_has_less []) (C1 : Cal P w K mg base 1 "has_all" ["strip", "part"] (sp_has_all K)) : Cal P w K mg base 2 "has_less" ["strip", "rest"] (sp_has_less K) := by
  refine T.cal sc_has_less (fun _ _ _ _ _ _ us hl => match us, hl with | [_, _], _ => rfl) (fun vs H Q E h => ?_) (fun f cdv A outer s H vs Q E hr h => ?_)
  · obtain ⟨a, b, s, p, rfl, _⟩ := h
    rfl
  obtain ⟨a, b, st, R, rfl, h1, ⟨bs, rfl, h2, h3⟩, q⟩ := h
  refine ⟨_, pss_cons (ps_for PassesOwn.never rfl (pi_tup (pv 1)) (pg_name (i := 2) sc_has_less.nd rfl (Or.inl rfl))
      (pss_one (ps_if (PW.pt (pw_and (pt_cmpR (op_neS (hu64 hr)) (pv 2) (pv 0) (nomark _)) (pw_and1 (pt_val (pe_cal C1 hr rfl pass0 (pa_cons (pv 0) (pa_cons (pv 2) pa_nil))))))) (pss_one (ps_ret pe_bl)) pss_nil)))
    (pss_one (ps_ret pe_bl)), ?_⟩
  refine ⟨_, rfl, b, rfl, ⟨_, h2⟩, for_mapT (f := fun c : Addr × List Int => V.ref c.1) (l := bs) (fun i σ H' => H' = H ∧ (∃ v, σ = [some (.ref a), some (.ref b), v]) ∧ ∀ c ∈ bs.take i, ¬ (c.2 ≠ st ∧ ∀ x ∈ c.2, x ∈ st)) ⟨rfl, ⟨_, rfl⟩, by simp⟩ (fun i σ H' ⟨e, _⟩ => e ▸ h2) ?_ ?_⟩
  · rintro i c σ H' hx ⟨rfl, ⟨v, rfl⟩, hp⟩
    have hc := laid_ix h3 hx
    have go : ¬ (c.2 ≠ st ∧ ∀ x ∈ c.2, x ∈ st) → ∀ d ∈ bs.take (i + 1), ¬ (d.2 ≠ st ∧ ∀ x ∈ d.2, x ∈ st) := fun no d hd => by
      rw [take_next hx] at hd
      rcases List.mem_append.mp hd with hd | hd
      · exact hp d hd
      · rw [List.mem_singleton.mp hd]; exact no
    refine ⟨_, rfl, _, rfl, c.1, a, c.2, st, rfl, rfl, hc, h1, _, rfl, ?_⟩
    refine iteND (fun c1 => ?_) (fun c1 => ?_)
    · refine ⟨_, rfl, _, rfl, a, c.1, st, c.2, rfl, h1, hc, _, rfl, ?_⟩
      refine iteDec (fun c2 => ?_) (fun c2 => ?_)
      · have e : lessB st bs.rest = true := lessB_true.mpr ⟨c.2, List.mem_map.mpr ⟨c, ix_mem hx, rfl⟩, c1, c2⟩
        rw [e] at q
        exact q
      · exact ⟨rfl, ⟨_, rfl⟩, go fun z => c2 z.2⟩
    · exact iteF ⟨rfl, ⟨_, rfl⟩, go fun z => z.1 c1⟩
  · rintro σ H' ⟨rfl, ⟨v, rfl⟩, hp⟩
    rw [take_all] at hp
    have e : lessB st bs.rest = false := lessB_false.mpr fun ⟨p, hpm, z⟩ => by
      obtain ⟨c, hc, rfl⟩ := List.mem_map.mp hpm
      exact hp c hc z
    rw [e] at q
    exact q
/-! ### thinned -/
/-- T: the strips of R that stand on no other one -/
structure Thin (R T : List (List Int)) : Prop where
  sl : T.Sublist R
  cov : ∀ s ∈ R, s ∈ T ∨ Less s R
theorem Thin.sub {R T : List (List Int)} (h : Thin R T) : ∀ t ∈ T, t ∈ R := fun _ ht => h.sl.subset ht
theorem Thin.len {R T : List (List Int)} (h : Thin R T) : T.length ≤ R.length := h.sl.length_le
def sp_thinned (K : PySem.W.Frag) : Sp := fun vs H Q _ => ∃ (a : Addr) (R : List (List Int)), vs = [.ref a] ∧ RsAt K H a R ∧ R.length ≤ 1000 ∧ ∀ p T H', Same H H' → RsAt K H' p T → Thin R T → Q (.ref p) H'
theorem sc_thinned : FnScope ["rest", "found", "strip"] ["rest"] (defScope s_thinned) := ⟨rfl, rfl, rfl, by decide +kernel, rfl, by decide +kernel, by decide +kernel⟩
theorem ok_thinned (T : Has K mg "thinned" s_thinned []) (fr : Fre mg) (C1 : Cal P w K mg base 2 "has_less" ["strip", "rest"] (sp_has_less K)) : Cal P w K mg base 3 "thinned" ["rest"] (sp_thinned K) := by
  refine T.cal sc_thinned (fun _ _ _ _ _ _ us hl => match us, hl with | [_], _ => rfl) (fun vs H Q E h => ?_) (fun f cdv A outer s H vs Q E hr h => ?_)
  · obtain ⟨a, R, rfl, _⟩ := h
    rfl
  obtain ⟨a, R, rfl, ⟨bs, rfl, h2, h3⟩, hlen, q⟩ := h
  refine ⟨_, pss_cons (ps_set (i := 1) sc_thinned.nd rfl (Or.inl rfl) (pe_lst pa_nil))
    (pss_cons (ps_for PassesOwn.never rfl (pi_tup (pv 0)) (pg_name (i := 2) sc_thinned.nd rfl (Or.inl rfl))
      (pss_one (ps_if (PW.pt (pw_and (pt_cmpR (op_notInL (hu65 hr)) (pv 2) (pv 1) (by rfl)) (pw_and1 (pt_not (pt_val (pe_cal C1 hr rfl pass0 (pa_cons (pv 2) (pa_cons (pv 0) pa_nil)))))))) 
        (pss_one (ps_expr (pe_bm PySem.F.plainAttrs_list PySem.F.slot_list_append PySem.F.type_list_append mt_append (pv 1) (pa_cons (pv 2) pa_nil)))) pss_nil)))
    (pss_one (ps_ret (pe_callTy call_tuple_of (by rfl) fr.tuple (by decide +kernel) (pa_cons (pv 1) pa_nil))))), ?_⟩
  refine ⟨Nat.zero_le _, fun l hl => ?_⟩
  rw [List.length_map] at hlen
  refine ⟨_, rfl, a, rfl, ⟨_, sqT_upd hl _ h2⟩, for_mapT (f := fun c : Addr × List Int => V.ref c.1) (l := bs) (fun i σ H' => Same H H' ∧ (∃ v, σ = [some (.ref a), some (.ref l), v]) ∧ ∃ fs : Lay, H' l = some (.lst fs.refs) ∧ fs.Sublist (bs.take i) ∧ ∀ c ∈ bs.take i, c.2 ∈ fs.rest ∨ Less c.2 bs.rest)
    ⟨same_new hl _, ⟨_, rfl⟩, [], upd_same, List.nil_sublist _, by simp⟩ (fun i σ H' ⟨e, _⟩ => sqT_same e h2) ?_ ?_⟩
  · rintro i c σ H' hx ⟨e, ⟨v, rfl⟩, fs, hf, hsl, hcov⟩
    have hsub : ∀ d ∈ fs, d ∈ bs := fun d hd => List.mem_of_mem_take (hsl.subset hd)
    have hfl : fs.length ≤ i := Nat.le_trans hsl.length_le (List.length_take_le _ _)
    have hsl' : fs.Sublist (bs.take (i + 1)) := hsl.trans (by rw [take_next hx]; exact List.sublist_append_left _ _)
    have h3' := h3.same e
    have hc := laid_ix h3' hx
    have hfs : LaidAt K H' fs := fun d hd => h3' d (hsub d hd)
    have hil := ix_lt hx
    have go : ∀ gs : Lay, (∀ d ∈ fs, d ∈ gs) → (c.2 ∈ gs.rest ∨ Less c.2 bs.rest) → ∀ d ∈ bs.take (i + 1), d.2 ∈ gs.rest ∨ Less d.2 bs.rest := fun gs hg no d hd => by
      rw [take_next hx] at hd
      rcases List.mem_append.mp hd with hd | hd
      · rcases hcov d hd with z | z
        · obtain ⟨d', h1, h2⟩ := List.mem_map.mp z
          exact .inl (List.mem_map.mpr ⟨d', hg d' h1, h2⟩)
        · exact .inr z
      · rw [List.mem_singleton.mp hd]; exact no
    refine ⟨_, rfl, _, rfl, c.1, l, c.2, fs, rfl, rfl, hc, SqL.of hf, hfs, _, rfl, ?_⟩
    refine iteND (fun c1 => ?_) (fun c1 => ?_)
    · refine ⟨_, rfl, _, rfl, c.1, a, c.2, bs.rest, rfl, hc, ⟨bs, rfl, sqT_same e h2, h3'⟩, _, rfl, ?_⟩
      cases eb : lessB c.2 bs.rest with
      | true => exact iteF ⟨e, ⟨_, rfl⟩, fs, hf, hsl', go fs (fun d hd => hd) (.inr (lessB_true.mp eb))⟩
      | false =>
        refine iteT ?_
        refine ⟨_, rfl, .inl ⟨rfl, _, SqL.of hf⟩, _, rfl, l, _, _, rfl, rfl, hf, by rw [List.length_map]; exact bigl _ (by omega), ?_⟩
        refine ⟨same_put e hl _, ⟨_, rfl⟩, fs ++ [c], ?_, ?_, go _ (fun d hd => List.mem_append_left _ hd) (.inl ?_)⟩
        · rw [upd_same]; simp [Lay.refs]
        · rw [take_next hx]
          exact List.Sublist.append_right hsl _
        · exact List.mem_map.mpr ⟨c, List.mem_append_right _ (List.mem_singleton.mpr rfl), rfl⟩
    · exact iteF ⟨e, ⟨_, rfl⟩, fs, hf, hsl', go fs (fun d hd => hd) (.inl c1)⟩
  · rintro σ H' ⟨e, ⟨v, rfl⟩, fs, hf, hsl, hcov⟩
    rw [take_all] at hcov hsl
    have hsub : ∀ d ∈ fs, d ∈ bs := fun d hd => hsl.subset hd
    refine ⟨_, rfl, l, _, rfl, .inl ⟨SqL.of hf, fun p hp => ?_⟩⟩
    have e2 := same_put e (e.free hp) (.tup fs.refs)
    refine q p fs.rest _ e2 ⟨fs, rfl, SqT.of upd_same, fun d hd => sqT_same e2 (h3 d (hsub d hd))⟩ ⟨hsl.map _, fun t ht => ?_⟩
    obtain ⟨d, hd, rfl⟩ := List.mem_map.mp ht
    exact hcov d hd
end
end Ml
set_option maxHeartbeats 4000000
namespace Ml
open PySem PySem.Spec PyProof.Rows L2
section
variable {P : Program} {w : World} {K : PySem.W.Frag} {mg : Str → Option Value} {base : Heap}
/-! ### without -/
theorem wo_take {x y : Int} {s : List Int} {i : Nat} (h : s[i]? = some y) : Gm.wo x (s.take (i + 1)) = if y = x then Gm.wo x (s.take i) else Gm.wo x (s.take i) ++ [y] := by
  rw [take_next h]
  unfold Gm.wo
  rw [List.filter_append]
  by_cases e : y = x
  · simp [e]
  · simp [e]
def sp_without (K : PySem.W.Frag) : Sp := fun vs H Q _ => ∃ (a : Addr) (s : List Int) (x : Int), vs = [.ref a, .int x] ∧ StAt K H a s ∧ s.length ≤ 1000 ∧ ∀ p H', Same H H' → H p = none → StAt K H' p (Gm.wo x s) → Q (.ref p) H'
theorem sc_without : FnScope ["strip", "hole", "at"] ["strip", "hole"] (defScope s_without) := ⟨rfl, rfl, rfl, by decide +kernel, rfl, by decide +kernel, by decide +kernel⟩
theorem ok_without (T : Has K mg "without" s_without []) (fr : Fre mg) : Cal P w K mg base 1 "without" ["strip", "hole"] (sp_without K) := by
  refine T.cal sc_without (fun _ _ _ _ _ _ us hl => match us, hl with | [_, _], _ => rfl) (fun vs H Q E h => ?_) (fun f cdv A outer s H vs Q E hr h => ?_)
  · obtain ⟨a, s, x, rfl, _⟩ := h
    rfl
  obtain ⟨a, st, x, rfl, h1, hlen, q⟩ := h
  refine ⟨_, pss_one (ps_ret (pe_callTy call_tuple_of (by rfl) fr.tuple (by decide +kernel) (pa_cons
    (pe_lc (own := [("at", 2)]) (g := gName 2) rfl sc_without.nd (pi_tup (pv 0)) (blkOk_by (N := ["strip", "hole", "at"]) (sc := defScope s_without) (by decide +kernel))
      (fun _ _ _ _ _ => pg_name (i := 2) sc_without.nd rfl (Or.inl rfl)) (fun _ _ _ _ _ => pts_one (pt_cmpR op_ne (pv 2) (pv 1) (nomark _))) (fun _ _ _ _ _ => pv 2)) pa_nil))), ?_⟩
  refine ⟨_, rfl, a, rfl, ⟨_, h1⟩, fun D hD => lc_mapT (f := V.int) (l := st) (fun i H' => Same H H' ∧ H' D = some (.lst ((Gm.wo x (st.take i)).map V.int))) ⟨same_new hD _, upd_same⟩ (fun i H' ⟨e, _⟩ => sqT_same e h1) ?_ ?_⟩
  · rintro i y H' hy ⟨e, hl⟩
    have hil := ix_lt hy
    refine ⟨rfl, _, rfl, _, rfl, rfl, _, rfl, ?_⟩
    by_cases c : y = x
    · subst c
      have e1 : (!decide (V.int y = V.int y)) = false := by simp
      rw [e1]
      refine iteF ⟨e, ?_⟩
      rw [wo_take hy, if_pos rfl]
      exact hl
    · have e1 : (!decide (V.int y = V.int x)) = true := by simp [c]
      rw [e1]
      refine iteT ⟨_, rfl, _, hl, ?_, same_put e hD _, ?_⟩
      · have := Gm.wo_len_le x (st.take i)
        rw [List.length_take] at this
        rw [List.length_map]
        exact bigl _ (by omega)
      · rw [upd_same, wo_take hy, if_neg c, List.map_append]
        rfl
  · rintro H' ⟨e, hl⟩
    rw [take_all] at hl
    refine ⟨D, _, rfl, .inl ⟨SqL.of hl, fun p hp => ?_⟩⟩
    exact q p _ (same_put e (e.free hp) _) (e.free hp) (SqT.of upd_same)
/-! ### knotted -/
def sp_knotted (K : PySem.W.Frag) : Sp := fun vs H Q _ => ∃ (a : Addr) (R : List (List Int)) (x : Int), vs = [.ref a, .int x] ∧ RsAt K H a R ∧ R.length ≤ 1000 ∧ (∀ s ∈ R, s.length ≤ 1000) ∧ ∀ p R' H', Same H H' → RsAt K H' p R' → R'.Perm (Gm.knot x R) → Q (.ref p) H'
theorem sc_knotted : FnScope ["rest", "hole", "strip"] ["rest", "hole"] (defScope s_knotted) := ⟨rfl, rfl, rfl, by decide +kernel, rfl, by decide +kernel, by decide +kernel⟩
theorem ok_knotted (T : Has K mg "knotted" s_knotted []) (fr : Fre mg) (C1 : Cal P w K mg base 1 "without" ["strip", "hole"] (sp_without K)) : Cal P w K mg base 2 "knotted" ["rest", "hole"] (sp_knotted K) := by
  refine T.cal sc_knotted (fun _ _ _ _ _ _ us hl => match us, hl with | [_, _], _ => rfl) (fun vs H Q E h => ?_) (fun f cdv A outer s H vs Q E hr h => ?_)
  · obtain ⟨a, s, x, rfl, _⟩ := h
    rfl
  obtain ⟨a, R, x, rfl, ⟨bs, rfl, h1, h2⟩, hlen, hlens, q⟩ := h
  rw [List.length_map] at hlen
  refine ⟨_, pss_one (ps_ret (pe_callTy call_tuple_of (by rfl) fr.tuple (by decide +kernel) (pa_cons
    (pe_callB (cr_sortR (hu64 hr)) (by rfl) fr.sorted (by decide +kernel) (pa_cons
    (pe_lc (own := [("strip", 2)]) (g := gName 2) (tt := tYes) rfl sc_knotted.nd (pi_tup (pv 0)) (blkOk_by (N := ["rest", "hole", "strip"]) (sc := defScope s_knotted) (by decide +kernel))
      (fun _ _ _ _ _ => pg_name (i := 2) sc_knotted.nd rfl (Or.inl rfl)) (fun _ _ _ _ _ => pts_nil) (fun _ _ _ _ _ => pe_cal C1 hr rfl pass0 (pa_cons (pv 2) (pa_cons (pv 1) pa_nil)))) pa_nil)) pa_nil))), ?_⟩
  refine ⟨_, rfl, a, rfl, ⟨_, h1⟩, fun D hD => lc_mapT (f := fun c : Addr × List Int => V.ref c.1) (l := bs) (fun i H' => Same H H' ∧ ∃ fs : Lay, H' D = some (.lst fs.refs) ∧ LaidAt K H' fs ∧ fs.rest = Gm.knot x (Lay.rest (bs.take i)) ∧ fs.length = i)
    ⟨same_new hD _, [], upd_same, (fun d hd => by cases hd), rfl, rfl⟩ (fun i H' ⟨e, _⟩ => sqT_same e h1) ?_ ?_⟩
  · rintro i c H' hc ⟨e, fs, hl, hfs, hrest, hfl⟩
    have hil := ix_lt hc
    have hb := (h2.same e) c (ix_mem hc)
    refine ⟨rfl, _, rfl, _, rfl, c.1, c.2, x, rfl, hb, hlens _ (List.mem_map.mpr ⟨c, ix_mem hc, rfl⟩), fun p H2 e2 hp hst => ?_⟩
    refine ⟨_, e2 _ _ hl, by rw [List.length_map]; exact bigl _ (by omega), ?_⟩
    have hD2 : H2 D = some (.lst fs.refs) := e2 _ _ hl
    refine ⟨same_put (e.trans e2) hD _, fs ++ [(p, Gm.wo x c.2)], ?_, ?_, ?_, ?_⟩
    · rw [upd_same]; simp [Lay.refs]
    · intro d hd
      rcases List.mem_append.mp hd with hd | hd
      · exact sqT_lst hD2 (sqT_same e2 (hfs d hd))
      · rw [List.mem_singleton.mp hd]; exact sqT_lst hD2 hst
    · rw [take_next hc]
      show List.map _ _ = Gm.knot x (List.map _ _)
      rw [List.map_append, List.map_append]
      unfold Gm.knot
      rw [List.map_append]
      exact congrArg (· ++ [Gm.wo x c.2]) hrest
    · rw [List.length_append, List.length_singleton, hfl]
  · rintro H' ⟨e, fs, hl, hfs, hrest, hfl⟩
    rw [take_all] at hrest
    refine ⟨D, fs, rfl, SqL.of hl, hfs, fun cs p hperm hp => ?_⟩
    refine ⟨p, _, rfl, .inl ⟨SqL.of upd_same, fun r hr' => ?_⟩⟩
    have hp0 := e.free hp
    have e2 : Same H (upd H' p (.lst cs.refs)) := same_put e hp0 _
    have e3 := same_put e2 (e2.free hr') (.tup cs.refs)
    refine q r cs.rest _ e3 ⟨cs, rfl, SqT.of upd_same, fun d hd => ?_⟩ ?_
    · have hd' : d ∈ fs := hperm.mem_iff.mp hd
      exact sqT_upd hr' _ (sqT_upd hp _ (hfs d hd'))
    · have : cs.rest.Perm fs.rest := hperm.map _
      rw [hrest] at this
      exact this
/-! ### bitten -/
def biteL (x : Int) (bs : Lay) : Lay := bs.filter fun b => !decide (x ∈ b.2)
theorem biteL_rest (x : Int) (bs : Lay) : (biteL x bs).rest = Gm.bite x bs.rest := by
  unfold biteL Gm.bite Lay.rest
  rw [List.filter_map]
  rfl
theorem biteL_take {x : Int} {bs : Lay} {i : Nat} {c : Addr × List Int} (h : bs[i]? = some c) : biteL x (bs.take (i + 1)) = if x ∈ c.2 then biteL x (bs.take i) else biteL x (bs.take i) ++ [c] := by
  rw [take_next h]
  unfold biteL
  rw [List.filter_append]
  by_cases e : x ∈ c.2
  · simp [e]
  · simp [e]
def sp_bitten (K : PySem.W.Frag) : Sp := fun vs H Q _ => ∃ (a : Addr) (R : List (List Int)) (x : Int), vs = [.ref a, .int x] ∧ RsAt K H a R ∧ R.length ≤ 1000 ∧ ∀ p H', Same H H' → RsAt K H' p (Gm.bite x R) → Q (.ref p) H'
theorem sc_bitten : FnScope ["rest", "hole", "strip"] ["rest", "hole"] (defScope s_bitten) := ⟨rfl, rfl, rfl, by decide +kernel, rfl, by decide +kernel, by decide +kernel⟩
theorem bitten_end {f : Lay → Prop} {Q : VK} {H H' : Hp} {D a : Addr} {bs : Lay} {x : Int} (h2 : LaidAt K H bs) (e : Same H H') (hl : H' D = some (.lst (Lay.refs (biteL x bs)))) (q : ∀ p H', Same H H' → RsAt K H' p (Gm.bite x bs.rest) → Q (.ref p) H') :
    ∀ l, H' l = none → Q (.ref l) (upd H' l (.tup (Lay.refs (biteL x bs)))) := fun p hp => by
  have e3 := same_put e (e.free hp) (.tup (Lay.refs (biteL x bs)))
  exact q p _ e3 ⟨biteL x bs, biteL_rest x bs, SqT.of upd_same, fun d hd => sqT_same e3 (h2 d (List.mem_filter.mp hd).1)⟩
theorem ok_bitten (T : Has K mg "bitten" s_bitten []) (fr : Fre mg) : Cal P w K mg base 1 "bitten" ["rest", "hole"] (sp_bitten K) := by
  refine T.cal sc_bitten (fun _ _ _ _ _ _ us hl => match us, hl with | [_, _], _ => rfl) (fun vs H Q E h => ?_) (fun f cdv A outer s H vs Q E hr h => ?_)
  · obtain ⟨a, s, x, rfl, _⟩ := h
    rfl
  obtain ⟨a, R, x, rfl, ⟨bs, rfl, h1, h2⟩, hlen, q⟩ := h
  rw [List.length_map] at hlen
  refine ⟨_, pss_one (ps_ret (pe_callTy call_tuple_of (by rfl) fr.tuple (by decide +kernel) (pa_cons
    (pe_lc (own := [("strip", 2)]) (g := gName 2) rfl sc_bitten.nd (pi_tup (pv 0)) (blkOk_by (N := ["rest", "hole", "strip"]) (sc := defScope s_bitten) (by decide +kernel))
      (fun _ _ _ _ _ => pg_name (i := 2) sc_bitten.nd rfl (Or.inl rfl)) (fun _ _ _ _ _ => pts_one (pt_cmpR (op_nin (K := K) rfl) (pv 1) (pv 2) (by rfl))) (fun _ _ _ _ _ => pv 2)) pa_nil))), ?_⟩
  refine ⟨_, rfl, a, rfl, ⟨_, h1⟩, fun D hD => lc_mapT (f := fun c : Addr × List Int => V.ref c.1) (l := bs) (fun i H' => Same H H' ∧ H' D = some (.lst (Lay.refs (biteL x (bs.take i))))) ⟨same_new hD _, upd_same⟩ (fun i H' ⟨e, _⟩ => sqT_same e h1) ?_ ?_⟩
  · rintro i c H' hc ⟨e, hl⟩
    have hil := ix_lt hc
    have hb := (h2.same e) c (ix_mem hc)
    refine ⟨rfl, _, rfl, _, rfl, c.1, _, rfl, .inr hb, rfl, flat_ints _, _, rfl, ?_⟩
    rw [inV_int]
    refine iteNot (fun c1 => ?_) (fun c1 => ?_)
    · refine ⟨_, rfl, _, hl, ?_, same_put e hD _, ?_⟩
      · have := List.length_filter_le (fun b : Addr × List Int => !decide (x ∈ b.2)) (bs.take i)
        rw [List.length_take] at this
        rw [List.length_map]
        exact bigl _ (by unfold biteL; omega)
      · rw [upd_same, biteL_take hc, if_neg c1]
        simp [Lay.refs]
    · refine ⟨e, ?_⟩
      rw [biteL_take hc, if_pos c1]
      exact hl
  · rintro H' ⟨e, hl⟩
    rw [take_all] at hl
    exact ⟨D, _, rfl, .inl ⟨SqL.of hl, bitten_end (f := fun _ => True) (a := a) h2 e hl q⟩⟩
/-! ### is_whole, is_bare -/
def sp_is_whole (K : PySem.W.Frag) : Sp := fun vs H Q _ => ∃ (a : Addr) (R : List (List Int)), vs = [.ref a] ∧ RsAt K H a R ∧ ∀ H', Same H H' → Q (.bl (decide ([] ∈ R))) H'
theorem sc_is_whole : FnScope ["rest"] ["rest"] (defScope s_is_whole) := ⟨rfl, rfl, rfl, by decide +kernel, rfl, by decide +kernel, by decide +kernel⟩
theorem ok_is_whole (T : Has K mg "is_whole" s_is_whole []) : Cal P w K mg base 1 "is_whole" ["rest"] (sp_is_whole K) := by
  refine T.cal sc_is_whole (fun _ _ _ _ _ _ us hl => match us, hl with | [_], _ => rfl) (fun vs H Q E h => ?_) (fun f cdv A outer s H vs Q E hr h => ?_)
  · obtain ⟨a, R, rfl, _⟩ := h
    rfl
  obtain ⟨a, R, rfl, h1, q⟩ := h
  refine ⟨_, pss_one (ps_ret (pe_cmpR (op_inR (hu65 hr)) (pe_tup pa_nil) (pv 0) (by rfl))), ?_⟩
  refine ⟨Nat.zero_le _, fun p hp => ⟨_, rfl, p, a, [], R, rfl, rfl, SqT.of upd_same, h1.same (same_new hp _), ?_⟩⟩
  exact q _ (same_new hp _)
def sp_is_bare (K : PySem.W.Frag) : Sp := fun vs H Q _ => ∃ (a : Addr) (R : List (List Int)), vs = [.ref a] ∧ RsAt K H a R ∧ Q (.bl (decide (R = []))) H
theorem sc_is_bare : FnScope ["rest"] ["rest"] (defScope s_is_bare) := ⟨rfl, rfl, rfl, by decide +kernel, rfl, by decide +kernel, by decide +kernel⟩
theorem ok_is_bare (T : Has K mg "is_bare" s_is_bare []) (fr : Fre mg) : Cal P w K mg base 1 "is_bare" ["rest"] (sp_is_bare K) := by
  refine T.cal sc_is_bare (fun _ _ _ _ _ _ us hl => match us, hl with | [_], _ => rfl) (fun vs H Q E h => ?_) (fun f cdv A outer s H vs Q E hr h => ?_)
  · obtain ⟨a, R, rfl, _⟩ := h
    rfl
  obtain ⟨a, R, rfl, ⟨bs, rfl, h1, h2⟩, q⟩ := h
  refine ⟨_, pss_one (ps_ret (pe_cmpR op_eq (pe_callB call_len_seq rfl fr.len PySem.boot_len (pa_cons (pv 0) pa_nil)) pe_int (nomark _))), ?_⟩
  refine ⟨_, rfl, a, _, rfl, .inr h1, rfl, ?_⟩
  have e : decide (V.int ((bs.refs.length : Nat) : Int) = V.int 0) = decide (bs.rest = []) := by
    cases bs with
    | nil => rfl
    | cons b bs =>
      rw [decide_eq_false, decide_eq_false]
      · simp
      · intro z
        injection z with z
        simp only [Lay.refs, List.map_cons, List.length_cons] at z
        omega
  show Q (.bl (decide (V.int ((bs.refs.length : Nat) : Int) = V.int 0))) H
  rw [e]
  exact q
end
end Ml
set_option maxHeartbeats 4000000
namespace Ml
open PySem PySem.Spec PyProof.Rows L2
/-! ### a dict of holes -/
def KeysAt (H : Hp) (d : Addr) (L : List Int) : Prop := ∃ (kvs : List (Key × V)) (ks : List Int), H d = some (.dK kvs) ∧ kvs.map (·.1) = ks.map Sum.inl ∧ ks.Nodup ∧ (∀ x, x ∈ ks ↔ x ∈ L) ∧ ks.length ≤ L.length
theorem keys_nil {H : Hp} {d : Addr} (h : H d = some (.dK [])) : KeysAt H d [] := ⟨[], [], h, rfl, List.nodup_nil, fun _ => Iff.rfl, Nat.le_refl _⟩
theorem KeysAt.of {H H' : Hp} {d : Addr} {L : List Int} (h : KeysAt H d L) (e : H' d = H d) : KeysAt H' d L := by
  obtain ⟨kvs, ks, h1, h2⟩ := h
  exact ⟨kvs, ks, e.trans h1, h2⟩
theorem KeysAt.loose {H : Hp} {d : Addr} {L : List Int} (h : KeysAt H d L) : Loose H d := by
  obtain ⟨kvs, ks, h1, _⟩ := h
  exact Loose.dK h1
theorem KeysAt.ne_lst {H : Hp} {d l : Addr} {L : List Int} {xs : List V} (h : KeysAt H d L) (hl : H l = some (.lst xs)) : l ≠ d := by
  obtain ⟨kvs, ks, h1, _⟩ := h
  exact ne_of hl h1 (by intro z; cases z)
theorem keys_mem {kvs : List (Key × V)} {ks : List Int} (e : kvs.map (·.1) = ks.map Sum.inl) (x : Int) : (valV kvs (Sum.inl x : Key)).isSome = decide (x ∈ ks) := by
  by_cases h : x ∈ ks
  · rw [decide_eq_true h]
    cases q : valV kvs (Sum.inl x : Key) with
    | some v => rfl
    | none =>
      have := valV_not q
      rw [e] at this
      exact absurd (List.mem_map.mpr ⟨x, h, rfl⟩) this
  · rw [decide_eq_false h]
    cases q : valV kvs (Sum.inl x : Key) with
    | none => rfl
    | some v =>
      have := valV_in q
      rw [e] at this
      obtain ⟨y, hy, z⟩ := List.mem_map.mp this
      injection z with z
      subst z
      exact absurd hy h
theorem keys_get {H : Hp} {d : Addr} {L : List Int} (h : KeysAt H d L) (x : Int) : ∃ r, DGet H d (.int x) r ∧ r.isSome = decide (x ∈ L) := by
  obtain ⟨kvs, ks, h1, h2, h3, h4, h5⟩ := h
  refine ⟨_, DGet.k (k := Sum.inl x) h1, ?_⟩
  rw [keys_mem h2]
  by_cases c : x ∈ L
  · rw [decide_eq_true c, decide_eq_true ((h4 x).mpr c)]
  · rw [decide_eq_false c, decide_eq_false fun z => c ((h4 x).mp z)]
theorem putK_keys {kvs : List (Key × V)} {k : Key} {v : V} (h : (valV kvs k).isSome = true) : (putK kvs k v).map (·.1) = kvs.map (·.1) := by
  unfold putK
  rw [valV_any, if_pos h, List.map_map]
  refine List.map_congr_left fun p _ => ?_
  show (if p.1 = k then (p.1, v) else p).1 = p.1
  split <;> rfl
theorem keys_put {H : Hp} {d : Addr} {L : List Int} (h : KeysAt H d L) (x : Int) (v : V) (hl : L.length ≤ 100000) : ∃ kvs, DPut H d (.int x) v (upd H d (.dK kvs)) ∧ KeysAt (upd H d (.dK kvs)) d (L ++ [x]) := by
  obtain ⟨kvs, ks, h1, h2, h3, h4, h5⟩ := h
  have el : kvs.length = ks.length := by
    have := congrArg List.length h2
    rwa [List.length_map, List.length_map] at this
  refine ⟨putK kvs (Sum.inl x) v, DPut.k (k := Sum.inl x) h1 (bigl _ (by omega)), ?_⟩
  by_cases c : x ∈ ks
  · refine ⟨_, ks, upd_same, ?_, h3, fun y => ?_, by rw [List.length_append]; omega⟩
    · rw [putK_keys (by rw [keys_mem h2, decide_eq_true c]), h2]
    · rw [List.mem_append, List.mem_singleton, ← h4 y]
      exact ⟨.inl, fun z => z.elim id fun z => z ▸ c⟩
  · have hn : valV kvs (Sum.inl x : Key) = none := by
      have := keys_mem h2 x
      rw [decide_eq_false c] at this
      cases q : valV kvs (Sum.inl x : Key) with
      | none => rfl
      | some v => rw [q] at this; cases this
    refine ⟨_, ks ++ [x], upd_same, ?_, nd_snoc h3 c, fun y => ?_, by rw [List.length_append, List.length_append]; simp; exact h5⟩
    · rw [putK_new _ hn, List.map_append, List.map_append, h2]
      rfl
    · rw [List.mem_append, List.mem_append, List.mem_singleton, h4 y]
theorem upd_self {H : Hp} {d : Addr} {o : HO} (h : H d = some o) : upd H d o = H := by
  funext b
  by_cases e : b = d
  · subst e; rw [upd_same, h]
  · rw [upd_ne e]
/-- for x in strip: known[x] = True -/
theorem loop_keys {K : PySem.W.Frag} {i j m : Nat} {a d : Addr} {s L : List Int} {D : Ends} {H : Hp} (F : Option V → L2.St) (v : Option V) (hset : ∀ v w, (F v).set j (some w) = F (some w)) (hi : ∀ v, (F v)[i]? = some (some (.ref a)))
    (hm : ∀ v, (F v)[m]? = some (some (.ref d))) (hj : ∀ w, (F (some w))[j]? = some (some w)) (h1 : StAt K H a s) (hk : KeysAt H d L) (hl : (L ++ s).length ≤ 100000)
    (hd : ∀ v' kvs, KeysAt (upd H d (.dK kvs)) d (L ++ s) → D.nx (F v') (upd H d (.dK kvs))) : tFor (iTup K (tVar i)) (gName j) (sDPut (tVar m) (tVar j) (tC (.bl true))) D (F v) H := by
  have hlo := hk.loose
  obtain ⟨kvs0, _, e0, _⟩ := id hk
  have es := upd_self e0
  refine ⟨_, hi v, a, rfl, ⟨_, h1⟩, for_mapT (f := V.int) (l := s) (fun n σ H' => ∃ v' kvs, σ = F v' ∧ H' = upd H d (.dK kvs) ∧ KeysAt H' d (L ++ s.take n)) ⟨v, kvs0, rfl, es.symm, by simpa using hk⟩ (fun n σ H' ⟨_, _, _, e, _⟩ => by
    rw [e]; exact sqT_but But.upd hlo h1) ?_ ?_⟩
  · rintro n x σ H' hx ⟨v', kvs, rfl, rfl, hk'⟩
    have hle : (L ++ s.take n).length ≤ 100000 := by
      rw [List.length_append] at hl ⊢
      rw [List.length_take]
      omega
    obtain ⟨kvs2, p1, p2⟩ := keys_put hk' x (.bl true) hle
    show sDPut (tVar m) (tVar j) (tC (V.bl true)) _ ((F v').set j (some (.int x))) _
    rw [hset]
    refine ⟨_, hm _, _, hj _, d, _, rfl, p1, _, kvs2, rfl, ?_, ?_⟩
    · rw [upd_upd]
    · rw [take_next hx, ← List.append_assoc]
      exact p2
  · rintro σ H' ⟨v', kvs, rfl, rfl, hk'⟩
    rw [take_all] at hk'
    exact hd v' kvs hk'
theorem flat_take {bs : Lay} {i : Nat} {c : Addr × List Int} (h : bs[i]? = some c) : (Lay.rest (bs.take (i + 1))).flatten = (Lay.rest (bs.take i)).flatten ++ c.2 := by
  rw [take_next h]
  show (List.map _ _).flatten = _
  rw [List.map_append, List.flatten_append]
  simp
theorem flat_le (bs : Lay) (i : Nat) : (Lay.rest (bs.take i)).flatten.length ≤ bs.rest.flatten.length := by
  have h : bs.rest.flatten = (Lay.rest (bs.take i)).flatten ++ (Lay.rest (bs.drop i)).flatten := by
    rw [← List.flatten_append]
    show _ = (List.map _ _ ++ List.map _ _).flatten
    rw [← List.map_append, List.take_append_drop]
  rw [h, List.length_append]
  omega
theorem flat_mu (R : List (List Int)) : R.flatten.length = Gm.mu R := by
  rw [List.length_flatten]
  rfl
theorem flat_hol {R : List (List Int)} {x : Int} : x ∈ R.flatten ↔ Gm.Hol R x := List.mem_flatten
section
variable {P : Program} {w : World} {K : PySem.W.Frag} {mg : Str → Option Value} {base : Heap}
/-! ### holes_of -/
def sp_holes_of (K : PySem.W.Frag) : Sp := fun vs H Q _ => ∃ (a : Addr) (R : List (List Int)), vs = [.ref a] ∧ RsAt K H a R ∧ Gm.mu R ≤ 60 ∧ ∀ p (ns : List Int) H', Same H H' → H p = none → H' p = some (.lst (ns.map V.int)) → ns.Nodup → (∀ x, x ∈ ns ↔ Gm.Hol R x) → Q (.ref p) H'
theorem sc_holes_of : FnScope ["rest", "found", "strip", "hole"] ["rest"] (defScope s_holes_of) := ⟨rfl, rfl, rfl, by decide +kernel, rfl, by decide +kernel, by decide +kernel⟩
theorem ok_holes_of (T : Has K mg "holes_of" s_holes_of []) (fr : Fre mg) : Cal P w K mg base 1 "holes_of" ["rest"] (sp_holes_of K) := by
  refine T.cal sc_holes_of (fun _ _ _ _ _ _ us hl => match us, hl with | [_], _ => rfl) (fun vs H Q E h => ?_) (fun f cdv A outer s H vs Q E hr h => ?_)
  · obtain ⟨a, R, rfl, _⟩ := h
    rfl
  obtain ⟨a, R, rfl, ⟨bs, rfl, h1, h2⟩, hmu, q⟩ := h
  have hu := hu_of hr
  rw [← flat_mu] at hmu
  refine ⟨_, pss_cons (ps_set (i := 1) sc_holes_of.nd rfl (Or.inl rfl) pe_dnewK)
    (pss_cons (ps_for PassesOwn.never rfl (pi_tup (pv 0)) (pg_name (i := 2) sc_holes_of.nd rfl (Or.inl rfl))
      (pss_one (ps_for PassesOwn.never rfl (pi_tup (pv 2)) (pg_name (i := 3) sc_holes_of.nd rfl (Or.inl rfl))
        (pss_one (ps_dput hu (pv 1) (pv 3) pe_bl rfl)))))
    (pss_one (ps_ret (pe_callB (call_sortedDI rfl) (by rfl) fr.sorted (by decide +kernel) (pa_cons (pv 1) pa_nil))))), ?_⟩
  intro d hd
  refine ⟨_, rfl, a, rfl, ⟨_, sqT_upd hd _ h1⟩, for_mapT (f := fun c : Addr × List Int => V.ref c.1) (l := bs) (fun i σ H' => Same H H' ∧ (∃ v u, σ = [some (.ref a), some (.ref d), v, u]) ∧ KeysAt H' d (Lay.rest (bs.take i)).flatten)
    ⟨same_new hd _, ⟨_, _, rfl⟩, keys_nil upd_same⟩ (fun i σ H' ⟨e, _⟩ => sqT_same e h1) ?_ ?_⟩
  · rintro i c σ H' hx ⟨e, ⟨v, u, rfl⟩, hk⟩
    have hc := laid_ix (h2.same e) hx
    have hle := flat_le bs (i + 1)
    rw [flat_take hx] at hle
    refine loop_keys (K := K) (a := c.1) (d := d) (s := c.2) (fun v => [some (.ref a), some (.ref d), some (.ref c.1), v]) u (fun _ _ => rfl) (fun _ => rfl) (fun _ => rfl) (fun _ => rfl) hc hk (by omega) fun v' kvs hk' => ?_
    refine ⟨same_put e hd _, ⟨_, _, rfl⟩, ?_⟩
    rw [flat_take hx]
    exact hk'
  · rintro σ H' ⟨e, ⟨v, u, rfl⟩, hk⟩
    rw [take_all] at hk
    obtain ⟨kvs, ks, h3, h4, h5, h6, h7⟩ := hk
    refine ⟨_, rfl, d, kvs, ks, rfl, .inl h3, h4, by omega, fun ys p hp _ hp0 => ?_⟩
    exact q p ys _ (same_put e (e.free hp0) _) (e.free hp0) upd_same (hp.symm.nodup h5) fun x => by rw [hp.mem_iff, h6, flat_hol]
/-! ### meets -/
def sp_meets (K : PySem.W.Frag) : Sp := fun vs H Q _ => ∃ (a d : Addr) (s L : List Int), vs = [.ref a, .ref d] ∧ StAt K H a s ∧ KeysAt H d L ∧ Q (.bl (decide (∃ x ∈ s, x ∈ L))) H
theorem sc_meets : FnScope ["strip", "known", "hole"] ["strip", "known"] (defScope s_meets) := ⟨rfl, rfl, rfl, by decide +kernel, rfl, by decide +kernel, by decide +kernel⟩
theorem ok_meets (T : Has K mg "meets" s_meets []) : Cal P w K mg base 1 "meets" ["strip", "known"] (sp_meets K) := by
  refine T.cal sc_meets (fun _ _ _ _ _ _ us hl => match us, hl with | [_, _], _ => rfl) (fun vs H Q E h => ?_) (fun f cdv A outer s H vs Q E hr h => ?_)
  · obtain ⟨a, d, s, L, rfl, _⟩ := h
    rfl
  obtain ⟨a, d, st, L, rfl, h1, h2, q⟩ := h
  have hu := hu_of hr
  refine ⟨_, pss_cons (ps_for PassesOwn.never rfl (pi_tup (pv 0)) (pg_name (i := 2) sc_meets.nd rfl (Or.inl rfl))
      (pss_one (ps_if (pt_cmp (pc_din hu (pv 2) (pv 1))) (pss_one (ps_ret pe_bl)) pss_nil)))
    (pss_one (ps_ret pe_bl)), ?_⟩
  refine ⟨_, rfl, a, rfl, ⟨_, h1⟩, for_mapT (f := V.int) (l := st) (fun i σ H' => H' = H ∧ (∃ v, σ = [some (.ref a), some (.ref d), v]) ∧ ∀ x ∈ st.take i, x ∉ L) ⟨rfl, ⟨_, rfl⟩, by simp⟩ (fun i σ H' ⟨e, _⟩ => e ▸ h1) ?_ ?_⟩
  · rintro i x σ H' hx ⟨rfl, ⟨v, rfl⟩, hp⟩
    obtain ⟨r, hr1, hr2⟩ := keys_get h2 x
    refine ⟨_, rfl, _, rfl, d, r, rfl, hr1, _, rfl, ?_⟩
    rw [hr2]
    refine iteDec (fun c => ?_) (fun c => ?_)
    · have e : decide (∃ x ∈ st, x ∈ L) = true := decide_eq_true ⟨x, ix_mem hx, c⟩
      rw [e] at q
      exact q
    · refine ⟨rfl, ⟨_, rfl⟩, fun y hy => ?_⟩
      rw [take_next hx] at hy
      rcases List.mem_append.mp hy with hy | hy
      · exact hp y hy
      · rw [List.mem_singleton.mp hy]; exact c
  · rintro σ H' ⟨rfl, ⟨v, rfl⟩, hp⟩
    rw [take_all] at hp
    have e : decide (∃ x ∈ st, x ∈ L) = false := decide_eq_false fun ⟨x, hx, z⟩ => hp x hx z
    rw [e] at q
    exact q
end
end Ml
set_option maxHeartbeats 4000000
namespace Ml
open PySem PySem.Spec PyProof.Rows L2
theorem mu_perm {A B : List (List Int)} (h : A.Perm B) : Gm.mu A = Gm.mu B := by
  induction h with
  | nil => rfl
  | cons x _ ih => rw [Gm.mu_cons, Gm.mu_cons, ih]
  | swap x y l => rw [Gm.mu_cons, Gm.mu_cons, Gm.mu_cons, Gm.mu_cons]; omega
  | trans _ _ h1 h2 => rw [h1, h2]
theorem mu_app (A B : List (List Int)) : Gm.mu (A ++ B) = Gm.mu A + Gm.mu B := by simp [Gm.mu]
theorem rest_app (a b : Lay) : Lay.rest (a ++ b) = a.rest ++ b.rest := List.map_append
theorem refs_app (a b : Lay) : Lay.refs (a ++ b) = a.refs ++ b.refs := List.map_append
section
variable {P : Program} {w : World} {K : PySem.W.Frag} {mg : Str → Option Value} {base : Heap}
/-- the group so far (gs) and what is left (rs) of a first strip and others -/
structure Grp (K : PySem.W.Frag) (H H' : Hp) (g d : Addr) (z : Addr × List Int) (bs gs rs : Lay) : Prop where
  same : Same H H'
  hg : H' g = some (.lst gs.refs)
  hk : KeysAt H' d gs.rest.flatten
  perm : (gs ++ rs).Perm (z :: bs)
  mem : z ∈ gs
  conn : ∀ B : Int → Prop, (∀ c ∈ bs, (∀ x ∈ c.2, B x) ∨ (∀ x ∈ c.2, ¬ B x)) → (∀ x ∈ z.2, B x) → ∀ c ∈ gs, ∀ x ∈ c.2, B x
def sp_group_of (K : PySem.W.Frag) : Sp := fun vs H Q _ => ∃ (b : Addr) (z : Addr × List Int) (bs : Lay), vs = [.ref z.1, .ref b] ∧ SqL K H b bs.refs ∧ LaidAt K H (z :: bs) ∧ bs.length ≤ 1000 ∧ Gm.mu (Lay.rest (z :: bs)) ≤ 1000 ∧
  ∀ p g l gs ls H', Same H H' → H g = none → H l = none → SqT K H' p [.ref g, .ref l] → H' g = some (.lst (Lay.refs gs)) → H' l = some (.lst (Lay.refs ls)) → (gs ++ ls).Perm (z :: bs) → z ∈ gs → Gm.Apart (Lay.rest gs) (Lay.rest ls) →
    (∀ B : Int → Prop, (∀ c ∈ bs, (∀ x ∈ c.2, B x) ∨ (∀ x ∈ c.2, ¬ B x)) → (∀ x ∈ z.2, B x) → ∀ c ∈ gs, ∀ x ∈ c.2, B x) → Q (.ref p) H'
theorem sc_group_of : FnScope ["start", "strips", "group", "known", "hole", "left", "grown", "apart", "strip"] ["start", "strips"] (defScope s_group_of) := ⟨rfl, rfl, rfl, by decide +kernel, rfl, by decide +kernel, by decide +kernel⟩
theorem ok_group_of (T : Has K mg "group_of" s_group_of []) (fr : Fre mg) (C1 : Cal P w K mg base 1 "meets" ["strip", "known"] (sp_meets K)) : Cal P w K mg base 2 "group_of" ["start", "strips"] (sp_group_of K) := by
  refine T.cal sc_group_of (fun _ _ _ _ _ _ us hl => match us, hl with | [_, _], _ => rfl) (fun vs H Q E h => ?_) (fun f cdv A outer s H vs Q E hr h => ?_)
  · obtain ⟨b, z, bs, rfl, _⟩ := h
    rfl
  obtain ⟨b, z, bs, rfl, h1, h2, hlen, hmu, q⟩ := h
  have hu := hu_of hr
  have nd := sc_group_of.nd
  refine ⟨_, pss_cons (ps_set (i := 2) nd rfl (Or.inl rfl) (pe_lst (pa_cons (pv 0) pa_nil)))
    (pss_cons (ps_set (i := 3) nd rfl (Or.inl rfl) pe_dnewK)
    (pss_cons (ps_for PassesOwn.never rfl (pi_tup (pv 0)) (pg_name (i := 4) nd rfl (Or.inl rfl)) (pss_one (ps_dput hu (pv 3) (pv 4) pe_bl rfl)))
    (pss_cons (ps_set (i := 5) nd rfl (Or.inl rfl) (pe_callTy call_list_of (by rfl) fr.list (by decide +kernel) (pa_cons (pv 1) pa_nil)))
    (pss_cons (ps_set (i := 6) nd rfl (Or.inl rfl) pe_bl)
    (pss_cons (ps_while PassesOwn.never (pt_val (pv 6))
      (pss_cons (ps_set (i := 6) nd rfl (Or.inl rfl) pe_bl)
      (pss_cons (ps_set (i := 7) nd rfl (Or.inl rfl) (pe_lst pa_nil))
      (pss_cons (ps_for PassesOwn.never rfl (pi_list (pv 5)) (pg_name (i := 8) nd rfl (Or.inl rfl))
        (pss_one (ps_if (pt_val (pe_cal C1 hr rfl pass0 (pa_cons (pv 8) (pa_cons (pv 3) pa_nil))))
          (pss_cons (ps_expr (pe_bm PySem.F.plainAttrs_list PySem.F.slot_list_append PySem.F.type_list_append mt_append (pv 2) (pa_cons (pv 8) pa_nil)))
          (pss_cons (ps_for PassesOwn.never rfl (pi_tup (pv 8)) (pg_name (i := 4) nd rfl (Or.inl rfl)) (pss_one (ps_dput hu (pv 3) (pv 4) pe_bl rfl)))
          (pss_one (ps_set (i := 6) nd rfl (Or.inl rfl) pe_bl))))
          (pss_one (ps_expr (pe_bm PySem.F.plainAttrs_list PySem.F.slot_list_append PySem.F.type_list_append mt_append (pv 7) (pa_cons (pv 8) pa_nil)))))))
      (pss_one (ps_set (i := 5) nd rfl (Or.inl rfl) (pv 7)))))))
    (pss_one (ps_ret (pe_tup (pa_cons (pv 2) (pa_cons (pv 5) pa_nil)))))))))), ?_⟩
  have hz : StAt K H z.1 z.2 := h2 z (List.mem_cons_self ..)
  -- group = [start]; known = {}
  refine ⟨_, rfl, big _ (by simp), fun g hg => ?_⟩
  intro d hd
  have ngd : g ≠ d := fun e => by rw [← e, upd_same] at hd; cases hd
  have hd0 : H d = none := by rw [upd_ne ngd.symm] at hd; exact hd
  have hmz : z.2.length ≤ 1000 := by
    have e : Gm.mu (Lay.rest (z :: bs)) = z.2.length + Gm.mu bs.rest := Gm.mu_cons _ _
    omega
  refine loop_keys (K := K) (a := z.1) (d := d) (s := z.2) (L := []) (fun v => [some (.ref z.1), some (.ref b), some (.ref g), some (.ref d), v, none, none, none, none]) none (fun _ _ => rfl) (fun _ => rfl) (fun _ => rfl) (fun _ => rfl)
    (sqT_upd hd _ (sqT_upd hg _ hz)) (keys_nil upd_same) (by simp; omega) fun v' kvs hk => ?_
  rw [upd_upd] at hk ⊢
  have e1 : Same H (upd (upd H g (.lst [.ref z.1])) d (.dK kvs)) := same_put (same_new hg _) hd0 _
  -- left = list(strips)
  refine ⟨_, rfl, b, _, rfl, .inl (e1.seq h1), fun l hl => ?_⟩
  have hl0 : H l = none := e1.free hl
  have nlg : l ≠ g := fun e => by rw [e, upd_ne ngd, upd_same] at hl; cases hl
  have nld : l ≠ d := fun e => by rw [e, upd_same] at hl; cases hl
  refine ⟨fun m σ H' => ∃ (gs ls : Lay) (l : Addr) (gr : Bool) (w4 w7 w8 : Option V), σ = [some (.ref z.1), some (.ref b), some (.ref g), some (.ref d), w4, some (.ref l), some (.bl gr), w7, w8] ∧ Grp K H H' g d z bs gs ls ∧
      H' l = some (.lst ls.refs) ∧ H l = none ∧ l ≠ g ∧ (gr = false → ∀ c ∈ ls, ∀ x ∈ c.2, x ∉ gs.rest.flatten) ∧ m = (if gr = true then ls.length + 1 else 0),
    ⟨_, [z], bs, l, true, v', none, none, rfl, ⟨same_put e1 hl0 _, ?_, ?_, List.Perm.refl _, List.mem_cons_self .., ?_⟩, upd_same, hl0, nlg, fun z => by (cases z), rfl⟩, ?_⟩
  · rw [upd_ne nlg.symm, upd_ne ngd, upd_same]
    rfl
  · refine KeysAt.of (H := upd (upd H g (.lst [.ref z.1])) d (.dK kvs)) ?_ (upd_ne nld.symm)
    simpa [Lay.rest] using hk
  · intro B _ hB c hc
    rw [List.mem_singleton.mp hc]
    exact hB
  rintro m σ H' ⟨gs, ls, l, gr, w4, w7, w8, rfl, G, hl, hl0, nlg, hap, rfl⟩
  have laid : ∀ {H'' : Hp} {cs : Lay}, Same H H'' → (∀ c ∈ cs, c ∈ z :: bs) → LaidAt K H'' cs := fun e hs c hc => sqT_same e (h2 c (hs c hc))
  refine ⟨_, rfl, gr, rfl, ?_⟩
  cases gr with
  | false =>
    refine iteF ?_
    refine ⟨_, rfl, _, rfl, big _ (by simp), fun p hp => ?_⟩
    have npg : g ≠ p := ne_of_none G.hg hp
    have npl : l ≠ p := ne_of_none hl hp
    refine q p g l gs ls _ (same_put G.same (G.same.free hp) _) hg hl0 (SqT.of upd_same) (by rw [upd_ne npg]; exact G.hg) (by rw [upd_ne npl]; exact hl) G.perm G.mem ?_ G.conn
    rintro x hx ⟨s2, hs2, hx2⟩
    obtain ⟨c, hc, rfl⟩ := List.mem_map.mp hs2
    exact hap rfl c hc x hx2 (flat_hol.mpr hx)
  | true =>
    refine iteT ⟨fun σ' H'' => ∃ m', m' < ls.length + 1 ∧ ∃ (gs ls : Lay) (l : Addr) (gr : Bool) (w4 w7 w8 : Option V), σ' = [some (.ref z.1), some (.ref b), some (.ref g), some (.ref d), w4, some (.ref l), some (.bl gr), w7, w8] ∧ Grp K H H'' g d z bs gs ls ∧
      H'' l = some (.lst ls.refs) ∧ H l = none ∧ l ≠ g ∧ (gr = false → ∀ c ∈ ls, ∀ x ∈ c.2, x ∉ gs.rest.flatten) ∧ m' = (if gr = true then ls.length + 1 else 0), fun _ _ h => h, ?_⟩
    -- grown = False; apart = []
    refine ⟨Nat.zero_le _, fun ap hap0 => ?_⟩
    have nap : H ap = none := G.same.free hap0
    have napg : g ≠ ap := ne_of_none G.hg hap0
    have napl : l ≠ ap := ne_of_none hl hap0
    have napd : d ≠ ap := fun e => by
      obtain ⟨kv, _, k1, _⟩ := G.hk
      rw [e, hap0] at k1
      cases k1
    have lslen : ls.length ≤ 1001 := by
      have := G.perm.length_eq
      rw [List.length_append, List.length_cons] at this
      omega
    refine ⟨_, rfl, l, rfl, ⟨_, SqL.of (by rw [upd_ne napl]; exact hl)⟩, for_mapL (f := fun c : Addr × List Int => V.ref c.1) (l := ls) (fun i σ H'' => ∃ (gs' as : Lay) (fl : Bool) (w4 w8 : Option V),
        σ = [some (.ref z.1), some (.ref b), some (.ref g), some (.ref d), w4, some (.ref l), some (.bl fl), some (.ref ap), w8] ∧ Grp K H H'' g d z bs gs' (as ++ ls.drop i) ∧ H'' l = some (.lst ls.refs) ∧ H'' ap = some (.lst as.refs) ∧
        as.length + (if fl = true then 1 else 0) ≤ i ∧ (fl = false → gs' = gs ∧ ∀ c ∈ as, ∀ x ∈ c.2, x ∉ gs.rest.flatten))
      ⟨gs, [], false, w4, w8, rfl, ⟨same_put G.same nap _, by rw [upd_ne napg]; exact G.hg, G.hk.of (upd_ne napd), G.perm, G.mem, G.conn⟩, by rw [upd_ne napl]; exact hl, upd_same, Nat.le_refl _, fun _ => ⟨rfl, fun c hc => by (cases hc)⟩⟩
      (fun i σ H'' ⟨_, _, _, _, _, _, _, e, _⟩ => SqL.of e) ?_ ?_⟩
    · rintro i c σ H'' hx ⟨gs', as, fl, w4', w8', rfl, G', hl', ha', hcnt, hno⟩
      have hil := ix_lt hx
      have edrop : ls.drop i = c :: ls.drop (i + 1) := by
        rw [List.drop_eq_getElem_cons hil]
        rw [List.getElem?_eq_getElem hil] at hx
        rw [Option.some.inj hx]
      have hp := G'.perm
      rw [edrop] at hp
      have hcm : c ∈ z :: bs := hp.mem_iff.mp (List.mem_append_right _ (List.mem_append_right _ (List.mem_cons_self ..)))
      have hc : StAt K H'' c.1 c.2 := laid (cs := [c]) G'.same (fun e he => by rw [List.mem_singleton.mp he]; exact hcm) c (List.mem_singleton.mpr rfl)
      have hlen' : gs'.length + as.length ≤ 1001 := by
        have := hp.length_eq
        simp only [List.length_append, List.length_cons] at this
        omega
      have hmu' : (gs'.rest.flatten ++ c.2).length ≤ 1000 := by
        have := mu_perm (hp.map fun b : Addr × List Int => b.2)
        rw [show (List.map (fun b : Addr × List Int => b.2) (z :: bs)) = Lay.rest (z :: bs) from rfl] at this
        rw [List.map_append, List.map_append, List.map_cons, mu_app, mu_app, Gm.mu_cons] at this
        rw [List.length_append, flat_mu]
        show Gm.mu (List.map (fun b : Addr × List Int => b.2) gs') + _ ≤ _
        omega
      refine ⟨_, rfl, _, rfl, c.1, d, c.2, _, rfl, hc, G'.hk, _, rfl, ?_⟩
      refine iteDec (fun c1 => ?_) (fun c1 => ?_)
      · -- group.append(strip)
        refine ⟨_, rfl, .inl ⟨rfl, _, SqL.of G'.hg⟩, _, rfl, g, _, _, rfl, rfl, G'.hg, by rw [List.length_map]; exact bigl _ (by omega), ?_⟩
        have ndg : d ≠ g := (G'.hk.ne_lst G'.hg).symm
        refine loop_keys (K := K) (a := c.1) (d := d) (s := c.2) (L := gs'.rest.flatten) (fun v => [some (.ref z.1), some (.ref b), some (.ref g), some (.ref d), v, some (.ref l), some (.bl fl), some (.ref ap), some (.ref c.1)]) w4' (fun _ _ => rfl) (fun _ => rfl) (fun _ => rfl) (fun _ => rfl)
          (sqT_lst G'.hg hc) (G'.hk.of (upd_ne ndg)) (by omega) fun v' kvs hk => ?_
        have nlg' : l ≠ g := nlg
        have nld' : l ≠ d := G'.hk.ne_lst hl'
        have nad' : ap ≠ d := G'.hk.ne_lst ha'
        refine ⟨gs' ++ [c], as, true, v', _, rfl, ⟨same_put (same_put G'.same hg _) hd0 _, ?_, ?_, ?_, List.mem_append_left _ G'.mem, ?_⟩, ?_, ?_, ?_, fun z => by (cases z)⟩
        · rw [upd_ne ndg.symm, upd_same, refs_app]
          rfl
        · rw [rest_app, List.flatten_append]
          simpa [Lay.rest] using hk
        · refine List.Perm.trans ?_ hp
          rw [List.append_assoc]
          exact List.Perm.append_left gs' (show (c :: (as ++ ls.drop (i + 1))).Perm (as ++ c :: ls.drop (i + 1)) from List.perm_middle.symm)
        · intro B hB hz' e he
          rcases List.mem_append.mp he with he | he
          · exact G'.conn B hB hz' e he
          · rw [List.mem_singleton.mp he]
            obtain ⟨x, hx1, hx2⟩ := c1
            obtain ⟨s2, hs2, hx2⟩ := flat_hol.mp hx2
            obtain ⟨e2, he2, rfl⟩ := List.mem_map.mp hs2
            have bx := G'.conn B hB hz' e2 he2 x hx2
            rcases List.mem_cons.mp hcm with ec | hcb
            · rw [ec]; exact hz'
            · exact (hB c hcb).resolve_right fun no => no x hx1 bx
        · rw [upd_ne nld', upd_ne nlg']; exact hl'
        · rw [upd_ne nad', upd_ne napg.symm]; exact ha'
        · have : as.length ≤ i := by omega
          show as.length + 1 ≤ i + 1
          omega
      · -- apart.append(strip)
        refine ⟨_, rfl, .inl ⟨rfl, _, SqL.of ha'⟩, _, rfl, ap, _, _, rfl, rfl, ha', by rw [List.length_map]; exact bigl _ (by omega), ?_⟩
        have nda : d ≠ ap := (G'.hk.ne_lst ha').symm
        refine ⟨gs', as ++ [c], fl, _, _, rfl, ⟨same_put G'.same nap _, ?_, G'.hk.of (upd_ne nda), ?_, G'.mem, G'.conn⟩, ?_, ?_, ?_, fun hf => ⟨(hno hf).1, fun e he x hxe => ?_⟩⟩
        · rw [upd_ne napg]; exact G'.hg
        · refine List.Perm.trans ?_ hp
          rw [List.append_assoc]
          exact List.Perm.refl _
        · rw [upd_ne napl]; exact hl'
        · rw [upd_same, refs_app]
          rfl
        · rw [List.length_append, List.length_singleton]; omega
        · obtain ⟨eg, hno⟩ := hno hf
          rcases List.mem_append.mp he with he | he
          · exact hno e he x hxe
          · rw [List.mem_singleton.mp he] at hxe
            rw [← eg]
            exact fun hx2 => c1 ⟨x, hxe, hx2⟩
    · rintro σ H'' ⟨gs', as, fl, w4', w8', rfl, G', hl', ha', hcnt, hno⟩
      refine ⟨_, rfl, _, ?_, gs', as, ap, fl, w4', _, w8', rfl, ⟨G'.same, G'.hg, G'.hk, ?_, G'.mem, G'.conn⟩, ha', nap, napg.symm, fun hf => ?_, rfl⟩
      · cases fl with
        | true =>
          have : as.length + 1 ≤ ls.length := hcnt
          show as.length + 1 < ls.length + 1
          omega
        | false =>
          show 0 < ls.length + 1
          omega
      · have := G'.perm
        rw [List.drop_length, List.append_nil] at this
        exact this
      · obtain ⟨eg, hno⟩ := hno hf
        rw [eg]
        exact hno
end
end Ml
set_option maxHeartbeats 4000000
namespace Ml
open PySem PySem.Spec PyProof.Rows L2
/-- Ps: the pieces of R -/
structure Pcs (R : List (List Int)) (Ps : List (List (List Int))) : Prop where
  perm : Ps.flatten.Perm R
  ap : Ps.Pairwise Gm.Apart
  ne : ∀ P ∈ Ps, P ≠ []
  cls : ∀ f : Int → Int, (∀ s ∈ R, ∀ x ∈ s, ∀ y ∈ s, f x = f y) → ∀ P ∈ Ps, ∀ s ∈ P, ∀ t ∈ P, ∀ x ∈ s, ∀ y ∈ t, f x = f y
theorem apart_perm {A A' B B' : List (List Int)} (ha : A'.Perm A) (hb : B'.Perm B) (h : Gm.Apart A B) : Gm.Apart A' B' := by
  rintro x ⟨s, hs, hx⟩ ⟨t, ht, hy⟩
  exact h x ⟨s, ha.mem_iff.mp hs, hx⟩ ⟨t, hb.mem_iff.mp ht, hy⟩
theorem apart_sub {A A' B B' : List (List Int)} (ha : ∀ s ∈ A', s ∈ A) (hb : ∀ s ∈ B', s ∈ B) (h : Gm.Apart A B) : Gm.Apart A' B' := by
  rintro x ⟨s, hs, hx⟩ ⟨t, ht, hy⟩
  exact h x ⟨s, ha s hs, hx⟩ ⟨t, hb t ht, hy⟩
theorem cut_one (v : V) (xs : List V) : cutV (v :: xs) (some 1) none = xs := by
  have e : HT.sIx (v :: xs).length 0 (some (1 : Int)) = 1 := by
    have := HT.sIx_nat (v :: xs).length 0 1
    simp at this
    exact this
  unfold cutV
  rw [e, HT.sIx_none]
  simp
section
variable {P : Program} {w : World} {K : PySem.W.Frag} {mg : Str → Option Value} {base : Heap}
/-- pieces with the places where they stand -/
abbrev Lays := List (Addr × List (List Int))
abbrev Lays.refs (Ps : Lays) : List V := Ps.map fun p => V.ref p.1
abbrev Lays.rests (Ps : Lays) : List (List (List Int)) := Ps.map fun p => p.2
/-- the pieces so far, and what is left of the strips bs -/
structure Pin (bs ls : Lay) (Ps : Lays) : Prop where
  perm : (Ps.rests.flatten ++ ls.rest).Perm bs.rest
  sub : ∀ c ∈ ls, c ∈ bs
  ap : Ps.rests.Pairwise Gm.Apart
  apl : ∀ p ∈ Ps, Gm.Apart p.2 ls.rest
  ne : ∀ p ∈ Ps, p.2 ≠ []
  cls : ∀ f : Int → Int, (∀ s ∈ bs.rest, ∀ x ∈ s, ∀ y ∈ s, f x = f y) → ∀ p ∈ Ps, ∀ s ∈ p.2, ∀ t ∈ p.2, ∀ x ∈ s, ∀ y ∈ t, f x = f y
  len : Ps.length + ls.length ≤ bs.length
theorem Pin.next {bs rs gs ls2 cs : Lay} {z : Addr × List Int} {Ps : Lays} (I : Pin bs (z :: rs) Ps) (a : Addr) (hz : z.2 ≠ []) (hperm : (gs ++ ls2).Perm (z :: rs)) (hm : z ∈ gs) (hap : Gm.Apart gs.rest ls2.rest)
    (hconn : ∀ B : Int → Prop, (∀ c ∈ rs, (∀ x ∈ c.2, B x) ∨ (∀ x ∈ c.2, ¬ B x)) → (∀ x ∈ z.2, B x) → ∀ c ∈ gs, ∀ x ∈ c.2, B x) (hcs : cs.Perm gs) : Pin bs ls2 (Ps ++ [(a, cs.rest)]) := by
  have hcr : cs.rest.Perm gs.rest := hcs.map _
  have gsub : ∀ c ∈ gs, c ∈ z :: rs := fun c hc => hperm.mem_iff.mp (List.mem_append_left _ hc)
  have lsub : ∀ c ∈ ls2, c ∈ z :: rs := fun c hc => hperm.mem_iff.mp (List.mem_append_right _ hc)
  have rsub : ∀ {cs : Lay}, (∀ c ∈ cs, c ∈ z :: rs) → ∀ s ∈ cs.rest, s ∈ Lay.rest (z :: rs) := fun h s hs => by
    obtain ⟨c, hc, rfl⟩ := List.mem_map.mp hs
    exact List.mem_map.mpr ⟨c, h c hc, rfl⟩
  refine ⟨?_, fun c hc => I.sub c (lsub c hc), ?_, ?_, ?_, ?_, ?_⟩
  · refine List.Perm.trans ?_ I.perm
    show ((List.map _ (Ps ++ [(a, cs.rest)])).flatten ++ _).Perm _
    rw [List.map_append, List.flatten_append, List.append_assoc]
    refine List.Perm.append_left _ ?_
    have h2 : (gs.rest ++ ls2.rest).Perm (Lay.rest (z :: rs)) := by
      have := hperm.map fun b : Addr × List Int => b.2
      rw [List.map_append] at this
      exact this
    refine List.Perm.trans ?_ h2
    simp only [List.map_cons, List.map_nil, List.flatten_cons, List.flatten_nil, List.append_nil]
    exact List.Perm.append_right _ hcr
  · show (List.map _ (Ps ++ [(a, cs.rest)])).Pairwise _
    rw [List.map_append, List.pairwise_append]
    refine ⟨I.ap, List.pairwise_singleton _ _, fun A hA B hB => ?_⟩
    obtain ⟨p, hp, rfl⟩ := List.mem_map.mp hA
    have eB : B = cs.rest := by simpa using hB
    subst eB
    exact apart_sub (fun s hs => hs) (fun s hs => rsub gsub s (hcr.mem_iff.mp hs)) (I.apl p hp)
  · intro p hp
    rcases List.mem_append.mp hp with hp | hp
    · exact apart_sub (fun s hs => hs) (rsub lsub) (I.apl p hp)
    · rw [List.mem_singleton.mp hp]
      exact apart_perm hcr (List.Perm.refl _) hap
  · intro p hp
    rcases List.mem_append.mp hp with hp | hp
    · exact I.ne p hp
    · rw [List.mem_singleton.mp hp]
      intro e
      have : z.2 ∈ cs.rest := hcr.mem_iff.mpr (List.mem_map.mpr ⟨z, hm, rfl⟩)
      rw [show cs.rest = [] from e] at this
      cases this
  · intro f hf p hp
    rcases List.mem_append.mp hp with hp | hp
    · exact I.cls f hf p hp
    · rw [List.mem_singleton.mp hp]
      have inb : ∀ c ∈ z :: rs, c.2 ∈ bs.rest := fun c hc => List.mem_map.mpr ⟨c, I.sub c hc, rfl⟩
      have all : ∀ x0, x0 ∈ z.2 → ∀ c ∈ gs, ∀ x ∈ c.2, f x = f x0 := fun x0 hx0 => hconn (fun x => f x = f x0) (fun c hc => by
        by_cases h : ∃ y ∈ c.2, f y = f x0
        · obtain ⟨y, hy, e⟩ := h
          exact .inl fun x hx => (hf _ (inb c (List.mem_cons_of_mem _ hc)) x hx y hy).trans e
        · exact .inr fun x hx e => h ⟨x, hx, e⟩) (fun x hx => hf _ (inb z (List.mem_cons_self ..)) x hx x0 hx0)
      cases ez : z.2 with
      | nil => exact absurd ez hz
      | cons x0 r0 =>
        have h0 : x0 ∈ z.2 := by rw [ez]; exact List.mem_cons_self ..
        intro s hs t ht x hx y hy
        obtain ⟨c, hc, rfl⟩ := List.mem_map.mp (hcr.mem_iff.mp hs)
        obtain ⟨d, hd, rfl⟩ := List.mem_map.mp (hcr.mem_iff.mp ht)
        rw [all x0 h0 c hc x hx, all x0 h0 d hd y hy]
  · have h1 := hperm.length_eq
    have h2 := I.len
    have h3 : 0 < gs.length := List.length_pos_of_mem hm
    simp only [List.length_append, List.length_cons, List.length_nil] at h1 h2 ⊢
    omega
theorem Pin.done {bs : Lay} {Ps : Lays} (I : Pin bs [] Ps) : Pcs bs.rest Ps.rests := by
  refine ⟨by simpa using I.perm, I.ap, fun A hA => ?_, fun f hf A hA => ?_⟩
  · obtain ⟨p, hp, rfl⟩ := List.mem_map.mp hA
    exact I.ne p hp
  · obtain ⟨p, hp, rfl⟩ := List.mem_map.mp hA
    exact I.cls f hf p hp
/-! ### pieces -/
def sp_pieces (K : PySem.W.Frag) : Sp := fun vs H Q _ => ∃ (a : Addr) (R : List (List Int)), vs = [.ref a] ∧ RsAt K H a R ∧ R.length ≤ 1000 ∧ Gm.mu R ≤ 1000 ∧ [] ∉ R ∧
  ∀ p (Ps : Lays) H', Same H H' → H p = none → H' p = some (.lst Ps.refs) → (∀ c ∈ Ps, RsAt K H' c.1 c.2) → Pcs R Ps.rests → Q (.ref p) H'
theorem sc_pieces : FnScope ["rest", "found", "left", "group", "strip"] ["rest"] (defScope s_pieces) := ⟨rfl, rfl, rfl, by decide +kernel, rfl, by decide +kernel, by decide +kernel⟩
theorem ok_pieces (T : Has K mg "pieces" s_pieces []) (fr : Fre mg) (C1 : Cal P w K mg base 2 "group_of" ["start", "strips"] (sp_group_of K)) : Cal P w K mg base 3 "pieces" ["rest"] (sp_pieces K) := by
  refine T.cal sc_pieces (fun _ _ _ _ _ _ us hl => match us, hl with | [_], _ => rfl) (fun vs H Q E h => ?_) (fun f cdv A outer s H vs Q E hr h => ?_)
  · obtain ⟨a, R, rfl, _⟩ := h
    rfl
  obtain ⟨a, R, rfl, ⟨bs, rfl, h1, h2⟩, hlen, hmu, hno, q⟩ := h
  have hu := hu64 hr
  have nd := sc_pieces.nd
  rw [List.length_map] at hlen
  refine ⟨_, pss_cons (ps_setLc (i := 1) (own := [("strip", 4)]) (g := gName 4) rfl nd rfl rfl (sw_true rfl rfl rfl (by decide +kernel)) (pi_tup (pv 0)) (blkOk_by (N := ["rest", "found", "left", "group", "strip"]) (sc := defScope s_pieces) (by decide +kernel))
      (fun _ _ _ _ _ => pg_name (i := 4) nd rfl (Or.inl rfl)) (fun _ _ _ _ _ => pts_one (pt_cmpR (op_eqSK (K := K) rfl hu) (pv 4) (pe_tup pa_nil) (nomark _))) (fun _ _ _ _ _ => pe_tup (pa_cons (pv 4) pa_nil)))
    (pss_cons (ps_setLc (i := 2) (own := [("strip", 4)]) (g := gName 4) rfl nd rfl rfl (sw_true rfl rfl rfl (by decide +kernel)) (pi_tup (pv 0)) (blkOk_by (N := ["rest", "found", "left", "group", "strip"]) (sc := defScope s_pieces) (by decide +kernel))
      (fun _ _ _ _ _ => pg_name (i := 4) nd rfl (Or.inl rfl)) (fun _ _ _ _ _ => pts_one (pt_cmpR (op_neSK (K := K) rfl hu) (pv 4) (pe_tup pa_nil) (nomark _))) (fun _ _ _ _ _ => pv 4))
    (pss_cons (ps_while PassesOwn.never (pt_cmpR (op_neL hu) (pv 2) (pe_lst pa_nil) (nomark _))
      (pss_cons (ps_asg (pe_cal C1 hr rfl pass0 (pa_cons (pe_ix ix_list (pv 2) pe_int (fun _ _ => rfl)) (pa_cons (pe_slice sl_list (pv 2) (po_some pe_int) po_none) pa_nil)))
        (pg_tup rfl (pgs_cons (pg_name (i := 3) nd rfl (Or.inl rfl)) (pgs_cons (pg_name (i := 2) nd rfl (Or.inl rfl)) pgs_nil))))
      (pss_one (ps_expr (pe_bm PySem.F.plainAttrs_list PySem.F.slot_list_append PySem.F.type_list_append mt_append (pv 1) (pa_cons
        (pe_callTy call_tuple_of (by rfl) fr.tuple (by decide +kernel) (pa_cons (pe_callB (cr_sortR hu) (by rfl) fr.sorted (by decide +kernel) (pa_cons (pv 3) pa_nil)) pa_nil)) pa_nil))))))
    (pss_one (ps_ret (pv 1))))), ?_⟩
  -- found
  refine ⟨_, rfl, a, rfl, ⟨_, h1⟩, fun D hD => lc_mapT (f := fun c : Addr × List Int => V.ref c.1) (l := bs) (fun i H' => Same H H' ∧ H' D = some (.lst [])) ⟨same_new hD _, upd_same⟩ (fun i H' ⟨e, _⟩ => sqT_same e h1) ?_ ?_⟩
  · rintro i c H' hc ⟨e, hl⟩
    have hb := (h2.same e) c (ix_mem hc)
    refine ⟨rfl, _, rfl, Nat.zero_le _, fun p hp => ⟨c.1, p, c.2, [], rfl, rfl, sqT_upd hp _ hb, SqT.of upd_same, _, rfl, ?_⟩⟩
    refine iteDec (fun c1 => ?_) (fun c1 => ?_)
    · exact absurd (List.mem_map.mpr ⟨c, ix_mem hc, c1⟩) hno
    · exact ⟨same_put e (e.free hp) _, by rw [upd_ne (ne_of_none hl hp)]; exact hl⟩
  rintro H1 ⟨e1, hD1⟩
  -- left
  refine ⟨_, rfl, a, rfl, ⟨_, sqT_same e1 h1⟩, fun D2 hD2 => lc_mapT (f := fun c : Addr × List Int => V.ref c.1) (l := bs) (fun i H' => Same H H' ∧ H' D = some (.lst []) ∧ H' D2 = some (.lst (Lay.refs (bs.take i)))) ⟨same_put e1 (e1.free hD2) _, by rw [upd_ne (ne_of_none hD1 hD2)]; exact hD1, upd_same⟩ (fun i H' ⟨e, _⟩ => sqT_same e h1) ?_ ?_⟩
  · rintro i c H' hc ⟨e, hl0, hl⟩
    have hb := (h2.same e) c (ix_mem hc)
    have hil := ix_lt hc
    refine ⟨rfl, _, rfl, Nat.zero_le _, fun p hp => ⟨c.1, p, c.2, [], rfl, rfl, sqT_upd hp _ hb, SqT.of upd_same, _, rfl, ?_⟩⟩
    refine iteND (fun c1 => ?_) (fun c1 => ?_)
    · have nD : D ≠ D2 := ne_of_none hD1 hD2
      refine ⟨_, rfl, _, by rw [upd_ne (ne_of_none hl hp)]; exact hl, by rw [List.length_map, List.length_take]; exact bigl _ (by omega), same_put (same_put e (e.free hp) _) (e1.free hD2) _, ?_, ?_⟩
      · rw [upd_ne nD, upd_ne (ne_of_none hl0 hp)]; exact hl0
      · rw [upd_same, take_next hc, refs_app]
        rfl
    · exact absurd (List.mem_map.mpr ⟨c, ix_mem hc, c1⟩) hno
  rintro H2 ⟨e2, hD22, hl2⟩
  rw [take_all] at hl2
  have nD : D2 ≠ D := (ne_of_none hD1 hD2).symm
  have hD0 : H D = none := hD
  have laid : ∀ {H'' : Hp} {cs : Lay}, Same H H'' → (∀ c ∈ cs, c ∈ bs) → LaidAt K H'' cs := fun e hs c hc => sqT_same e (h2 c (hs c hc))
  -- while left != []
  refine ⟨fun m σ H' => ∃ (Ps : Lays) (ls : Lay) (l : Addr) (w3 w4 : Option V), σ = [some (.ref a), some (.ref D), some (.ref l), w3, w4] ∧ Same H H' ∧ H' D = some (.lst Ps.refs) ∧ H' l = some (.lst ls.refs) ∧ l ≠ D ∧ (∀ c ∈ Ps, RsAt K H' c.1 c.2) ∧ Pin bs ls Ps ∧ m = ls.length,
    ⟨_, [], bs, D2, none, none, rfl, e2, hD22, hl2, nD, fun c hc => by (cases hc), ⟨by simp, fun c hc => hc, List.Pairwise.nil, fun c hc => by (cases hc), fun c hc => by (cases hc), fun _ _ c hc => by (cases hc), by simp⟩, rfl⟩, ?_⟩
  rintro m σ H' ⟨Ps, ls, l, w3, w4, rfl, e, hfo, hl, nl, hPs, I, rfl⟩
  refine ⟨_, rfl, Nat.zero_le _, fun p hp => ⟨l, p, ls, [], rfl, rfl, SqL.of (by rw [upd_ne (ne_of_none hl hp)]; exact hl), laid (same_put e (e.free hp) _) I.sub, SqL.of upd_same, (fun c hc => by cases hc), _, rfl, ?_⟩⟩
  refine iteND (fun c1 => ?_) (fun c1 => ?_)
  · cases ls with
    | nil => exact absurd rfl c1
    | cons z rs =>
      have hz0 : z.2 ≠ [] := fun e0 => hno (List.mem_map.mpr ⟨z, I.sub z (List.mem_cons_self ..), e0⟩)
      have ea := same_put e (e.free hp) (.lst [])
      have hla : upd H' p (.lst []) l = some (.lst (Lay.refs (z :: rs))) := by rw [upd_ne (ne_of_none hl hp)]; exact hl
      refine ⟨fun σ' H'' => ∃ m', m' < (z :: rs).length ∧ ∃ (Ps : Lays) (ls : Lay) (l : Addr) (w3 w4 : Option V), σ' = [some (.ref a), some (.ref D), some (.ref l), w3, w4] ∧ Same H H'' ∧ H'' D = some (.lst Ps.refs) ∧ H'' l = some (.lst ls.refs) ∧ l ≠ D ∧ (∀ c ∈ Ps, RsAt K H'' c.1 c.2) ∧ Pin bs ls Ps ∧ m' = ls.length, fun _ _ h => h, ?_⟩
      refine ⟨_, rfl, l, _, 0, .ref z.1, rfl, rfl, SqL.of hla, at_of (j := 0) rfl rfl, _, rfl, 1, rfl, l, _, rfl, SqL.of hla, fun p2 hp2 => ?_⟩
      have eb := same_put ea (ea.free hp2) (.lst (cutV (Lay.refs (z :: rs)) (some 1) none))
      have hb2 : upd (upd H' p (.lst [])) p2 (.lst (cutV (Lay.refs (z :: rs)) (some 1) none)) p2 = some (.lst (Lay.refs rs)) := by
        rw [upd_same]
        exact congrArg (fun l => some (HO.lst l)) (cut_one _ _)
      have hmu2 : Gm.mu (Lay.rest (z :: rs)) ≤ 1000 := by
        have := mu_perm I.perm
        rw [mu_app] at this
        omega
      have hlen2 := I.len
      rw [List.length_cons] at hlen2
      refine ⟨p2, z, rs, rfl, SqL.of hb2, laid eb I.sub, by omega, hmu2, fun pt g l2 gs ls2 H3 e3 hg0 hl20 hpt hg3 hl3 hperm hzm hap hconn => ?_⟩
      have hfo2 : upd (upd H' p (.lst [])) p2 (.lst (cutV (Lay.refs (z :: rs)) (some 1) none)) D = some (.lst Ps.refs) := by
        have h0 : upd H' p (.lst []) D = some (.lst Ps.refs) := by rw [upd_ne (ne_of_none hfo hp)]; exact hfo
        rw [upd_ne (ne_of_none h0 hp2)]; exact h0
      have hfo3 : H3 D = some (.lst Ps.refs) := e3 _ _ hfo2
      have eH3 : Same H H3 := eb.trans e3
      have gsub : ∀ c ∈ gs, c ∈ bs := fun c hc => I.sub c (hperm.mem_iff.mp (List.mem_append_left _ hc))
      refine ⟨pt, _, rfl, hpt, rfl, _, _, rfl, _, _, rfl, rfl, ?_⟩
      -- found.append(tuple(sorted(group)))
      refine ⟨_, rfl, .inl ⟨rfl, _, SqL.of hfo3⟩, _, rfl, g, gs, rfl, SqL.of hg3, laid eH3 gsub, fun cs q1 hcs hq1 => ?_⟩
      refine ⟨q1, _, rfl, .inl ⟨SqL.of upd_same, fun q2 hq2 => ?_⟩⟩
      have eH4 := same_put eH3 (eH3.free hq1) (.lst cs.refs)
      have eH5 := same_put eH4 (eH4.free hq2) (.tup cs.refs)
      have hfo4 : upd H3 q1 (.lst cs.refs) D = some (.lst Ps.refs) := by rw [upd_ne (ne_of_none hfo3 hq1)]; exact hfo3
      have hfo5 : upd (upd H3 q1 (.lst cs.refs)) q2 (.tup cs.refs) D = some (.lst Ps.refs) := by rw [upd_ne (ne_of_none hfo4 hq2)]; exact hfo4
      refine ⟨D, _, _, rfl, rfl, hfo5, by rw [List.length_map]; exact bigl _ (by omega), ?_⟩
      have s35 : Same H3 (upd (upd H3 q1 (.lst cs.refs)) q2 (.tup cs.refs)) := same_put (same_new hq1 _) ((same_new hq1 _).free hq2) _
      have s25 : Same H' H3 := fun b o hb => e3 _ _ (by
        have h0 : upd H' p (.lst []) b = some o := by rw [upd_ne (ne_of_none hb hp)]; exact hb
        rw [upd_ne (ne_of_none h0 hp2)]; exact h0)
      have nl2 : l2 ≠ D := (ne_of_none hfo2 hl20).symm
      have hl5 : upd (upd H3 q1 (.lst cs.refs)) q2 (.tup cs.refs) l2 = some (.lst ls2.refs) := by
        have h0 : upd H3 q1 (.lst cs.refs) l2 = some (.lst ls2.refs) := by rw [upd_ne (ne_of_none hl3 hq1)]; exact hl3
        rw [upd_ne (ne_of_none h0 hq2)]; exact h0
      refine ⟨_, ?_, Ps ++ [(q2, cs.rest)], ls2, l2, _, _, rfl, same_put eH5 hD0 _, ?_, ?_, nl2, ?_, I.next q2 hz0 hperm hzm hap hconn hcs, rfl⟩
      · have := hperm.length_eq
        have h3 : 0 < gs.length := List.length_pos_of_mem hzm
        simp only [List.length_append, List.length_cons] at this ⊢
        omega
      · rw [upd_same]
        show _ = some (HO.lst (List.map _ (Ps ++ [(q2, cs.rest)])))
        rw [List.map_append]
        rfl
      · rw [upd_ne nl2]; exact hl5
      · intro c hc
        rcases List.mem_append.mp hc with hc | hc
        · exact (((hPs c hc).same s25).same s35).but But.upd (Loose.lst hfo5)
        · rw [List.mem_singleton.mp hc]
          refine ⟨cs, rfl, sqT_lst hfo5 (SqT.of upd_same), fun d hd => sqT_lst hfo5 (sqT_same eH5 (h2 d (gsub d (hcs.mem_iff.mp hd))))⟩
  · have e0 : ls = [] := List.map_eq_nil_iff.mp c1
    subst e0
    have hfo2 : upd H' p (.lst []) D = some (.lst Ps.refs) := by rw [upd_ne (ne_of_none hfo hp)]; exact hfo
    exact ⟨_, rfl, q D Ps _ (same_put e (e.free hp) _) hD0 hfo2 (fun c hc => (hPs c hc).same (same_new hp _)) I.done⟩
end
end Ml
set_option maxHeartbeats 4000000
namespace Ml
open PySem PySem.Spec PyProof.Rows L2
/-! ### the thinned rest, in the mathematics -/
abbrev Up (s : List Int) : Prop := s.Pairwise (· < ·)
/-- every strip rises -/
abbrev Can (R : List (List Int)) : Prop := ∀ s ∈ R, Up s
theorem up_sub : ∀ (s p : List Int), Up p → Up s → (∀ x ∈ p, x ∈ s) → p.Sublist s
  | _, [], _, _, _ => List.nil_sublist _
  | [], x :: p, _, _, h => absurd (h x (List.mem_cons_self ..)) (by simp)
  | y :: s, x :: p, hp, hs, h => by
    have hp' := List.pairwise_cons.mp hp
    have hs' := List.pairwise_cons.mp hs
    by_cases e : x = y
    · subst e
      refine List.Sublist.cons_cons _ (up_sub s p hp'.2 hs'.2 fun z hz => ?_)
      have h1 := hp'.1 z hz
      exact (List.mem_cons.mp (h z (List.mem_cons_of_mem _ hz))).resolve_left (by omega)
    · have hx : x ∈ s := (List.mem_cons.mp (h x (List.mem_cons_self ..))).resolve_left e
      refine List.Sublist.cons _ (up_sub s (x :: p) hp hs'.2 fun z hz => ?_)
      rcases List.mem_cons.mp hz with rfl | hz'
      · exact hx
      · have h1 := hp'.1 z hz'
        have h2 := hs'.1 x hx
        exact (List.mem_cons.mp (h z hz)).resolve_left (by omega)
theorem up_len {s p : List Int} (hp : Up p) (hs : Up s) (h : ∀ x ∈ p, x ∈ s) (ne : p ≠ s) : p.length < s.length := by
  have q := up_sub s p hp hs h
  have h1 := q.length_le
  have h2 : p.length ≠ s.length := fun e => ne (q.eq_of_length e)
  omega
theorem Thin.bel {R T : List (List Int)} (c : Can R) (h : Thin R T) : Gm.Bel R T := by
  have go : ∀ (n : Nat) (s : List Int), s ∈ R → s.length ≤ n → ∃ t ∈ T, ∀ x ∈ t, x ∈ s := by
    intro n
    induction n with
    | zero =>
      intro s hs hl
      rcases h.cov s hs with q | ⟨p, hp, ne, hsub⟩
      · exact ⟨s, q, fun _ z => z⟩
      · have := up_len (c p hp) (c s hs) hsub ne
        omega
    | succ n ih =>
      intro s hs hl
      rcases h.cov s hs with q | ⟨p, hp, ne, hsub⟩
      · exact ⟨s, q, fun _ z => z⟩
      · have := up_len (c p hp) (c s hs) hsub ne
        obtain ⟨t, ht, hts⟩ := ih p hp (by omega)
        exact ⟨t, ht, fun x hx => hsub x (hts x hx)⟩
  exact fun s hs => go s.length s hs (Nat.le_refl _)
theorem Thin.ww {R T : List (List Int)} (c : Can R) (h : Thin R T) (t : Bool) : Gm.WW t T ↔ Gm.WW t R := ⟨Gm.mono (.of_sub h.sub), Gm.mono (h.bel c)⟩
theorem Thin.ne {R T : List (List Int)} (c : Can R) (h : Thin R T) (hn : R ≠ []) : T ≠ [] := (h.bel c).bare hn
theorem Thin.whole {R T : List (List Int)} (h : Thin R T) (hn : [] ∉ R) : [] ∉ T := fun z => hn (h.sub _ z)
open Classical in
/-- who wins, as a Bool: the weaver -/
noncomputable def winB (t : Bool) (R : List (List Int)) : Bool := decide (Gm.WW t R)
theorem winB_true {t : Bool} {R : List (List Int)} : winB t R = true ↔ Gm.WW t R := by unfold winB; simp
theorem winB_false {t : Bool} {R : List (List Int)} : winB t R = false ↔ ¬ Gm.WW t R := by unfold winB; simp
theorem winB_eq {t : Bool} {R S : List (List Int)} (h : Gm.WW t R ↔ Gm.WW t S) : winB t R = winB t S := by
  unfold winB
  exact decide_eq_decide.mpr h
def mv (t : Bool) (x : Int) (R : List (List Int)) : List (List Int) := if t then Gm.knot x R else Gm.bite x R
theorem win_here {t : Bool} {x : Int} {R : List (List Int)} (hx : Gm.Hol R x) (h0 : [] ∉ R) (hn : R ≠ []) (h : winB (!t) (mv t x R) = t) : winB t R = t := by
  cases t with
  | true => exact winB_true.mpr (.knot hx (winB_true.mp h))
  | false => exact winB_false.mpr fun q => winB_false.mp h ((Gm.ww_false h0 hn).mp q x hx)
theorem win_none {t : Bool} {R : List (List Int)} (h0 : [] ∉ R) (hn : R ≠ []) (h : ∀ x, Gm.Hol R x → winB (!t) (mv t x R) ≠ t) : winB t R = !t := by
  cases t with
  | true =>
    refine winB_false.mpr fun q => ?_
    obtain ⟨x, hx, q⟩ := (Gm.ww_true h0).mp q
    exact h x hx (winB_true.mpr q)
  | false =>
    refine winB_true.mpr ((Gm.ww_false h0 hn).mpr fun x hx => ?_)
    have := h x hx
    cases e : winB (!false) (mv false x R) with
    | true => exact winB_true.mp e
    | false => exact absurd e this
/-- few strips, few holes in all -/
structure Sm (R : List (List Int)) : Prop where
  len : R.length ≤ 60
  mu : Gm.mu R ≤ 60
theorem Sm.mv {t : Bool} {x : Int} {R R' : List (List Int)} (h : Sm R) (p : R'.Perm (mv t x R)) : Sm R' := by
  refine ⟨?_, ?_⟩
  · rw [p.length_eq]
    cases t with
    | true =>
      show (List.map _ R).length ≤ 60
      rw [List.length_map]
      exact h.len
    | false => exact Nat.le_trans (List.length_filter_le _ _) h.len
  · rw [mu_perm p]
    cases t with
    | true => exact Nat.le_trans (Gm.mu_knot_le x R) h.mu
    | false => exact Nat.le_trans (Gm.mu_bite_le x R) h.mu
theorem mu_mem {R : List (List Int)} {s : List Int} (h : s ∈ R) : s.length ≤ Gm.mu R := by
  induction R with
  | nil => cases h
  | cons a R ih =>
    rw [Gm.mu_cons]
    rcases List.mem_cons.mp h with rfl | h
    · omega
    · have := ih h
      omega
theorem Sm.strip {R : List (List Int)} (h : Sm R) : ∀ s ∈ R, s.length ≤ 1000 := fun s hs => by
  have := mu_mem hs
  have := h.mu
  omega
/-- all holes are among S -/
def Cov (S : List Int) (R : List (List Int)) : Prop := ∀ x, Gm.Hol R x → x ∈ S
theorem Cov.mv {S : List Int} {t : Bool} {x : Int} {R R' : List (List Int)} (h : Cov S R) (p : R'.Perm (mv t x R)) : Cov (S.erase x) R' := by
  rintro y ⟨s, hs, hy⟩
  have h1 : Gm.Hol (Ml.mv t x R) y := ⟨s, p.mem_iff.mp hs, hy⟩
  have h2 : Gm.Hol R y ∧ y ≠ x := by
    cases t with
    | true => exact Gm.hol_knot h1
    | false => exact ⟨Gm.hol_bite h1, Gm.hol_bite_ne h1⟩
  exact (List.mem_erase_of_ne h2.2).mpr (h y h2.1)
theorem nodup_le : ∀ (ns S : List Int), ns.Nodup → (∀ x ∈ ns, x ∈ S) → ns.length ≤ S.length
  | [], S, _, _ => Nat.zero_le _
  | x :: ns, S, hn, h => by
    have hn' := List.nodup_cons.mp hn
    have hx := h x (List.mem_cons_self ..)
    have := nodup_le ns (S.erase x) hn'.2 fun y hy => (List.mem_erase_of_ne (fun (e : y = x) => hn'.1 (by rw [← e]; exact hy))).mpr (h y (List.mem_cons_of_mem _ hy))
    rw [List.length_erase_of_mem hx] at this
    have := List.length_pos_of_mem hx
    rw [List.length_cons]
    omega
/-- how many entries trying adds at the most -/
def ent : Nat → Nat
  | 0 => 0
  | n + 1 => (n + 1) * (1 + ent n)
theorem ent_mono : ∀ {m n : Nat}, m ≤ n → ent m ≤ ent n := by
  intro m n h
  induction h with
  | refl => exact Nat.le_refl _
  | @step n _ ih =>
    refine Nat.le_trans ih ?_
    show ent n ≤ (n + 1) * (1 + ent n)
    have : 1 * ent n ≤ (n + 1) * (1 + ent n) := Nat.mul_le_mul (by omega) (by omega)
    omega
/-! ### hands, papers, outcomes -/
def hn (t : Bool) : Str := if t then "weaver" else "moth"
theorem hn_inj {t u : Bool} (h : hn t = hn u) : t = u := by
  cases t <;> cases u
  · rfl
  · exact absurd h (by decide +kernel)
  · exact absurd h (by decide +kernel)
  · rfl
theorem hn_eq (t u : Bool) : decide (V.str (hn t) = V.str (hn u)) = decide (t = u) := by
  by_cases e : t = u
  · subst e; simp
  · rw [decide_eq_false e, decide_eq_false fun z => e (hn_inj (by injection z))]
/-- a paper: a tuple, its first item a word; a knot or a bite tells a hole and one thing more -/
def PapAt (K : PySem.W.Frag) (H : Hp) (a : Addr) : Prop := ∃ (wd : Str) (xs : List V), SqT K H a (.str wd :: xs) ∧ (wd = "knot" ∨ wd = "bite" → ∃ x v, xs = [.int x, v])
def BiteAt (K : PySem.W.Frag) (H : Hp) (a : Addr) : Prop := ∃ x u, SqT K H a [.str "bite", .int x, u]
/-- who wins R with the turn t, and a paper -/
def OutAt (K : PySem.W.Frag) (H : Hp) (v : Addr) (R : List (List Int)) (t : Bool) : Prop := ∃ p, SqT K H v [.str (hn (winB t R)), .ref p] ∧ PapAt K H p ∧ (t = false → R ≠ [] → winB t R = false → BiteAt K H p)
theorem PapAt.same {K : PySem.W.Frag} {H H' : Hp} {a : Addr} (e : Same H H') (h : PapAt K H a) : PapAt K H' a := by
  obtain ⟨wd, xs, h1, h2⟩ := h
  exact ⟨wd, xs, sqT_same e h1, h2⟩
theorem PapAt.but {K : PySem.W.Frag} {H H' : Hp} {a d : Addr} (e : But d H H') (l : Loose H d) (h : PapAt K H a) : PapAt K H' a := by
  obtain ⟨wd, xs, h1, h2⟩ := h
  exact ⟨wd, xs, sqT_but e l h1, h2⟩
theorem BiteAt.same {K : PySem.W.Frag} {H H' : Hp} {a : Addr} (e : Same H H') (h : BiteAt K H a) : BiteAt K H' a := by
  obtain ⟨x, u, h⟩ := h
  exact ⟨x, u, sqT_same e h⟩
theorem BiteAt.but {K : PySem.W.Frag} {H H' : Hp} {a d : Addr} (e : But d H H') (l : Loose H d) (h : BiteAt K H a) : BiteAt K H' a := by
  obtain ⟨x, u, h⟩ := h
  exact ⟨x, u, sqT_but e l h⟩
theorem OutAt.same {K : PySem.W.Frag} {H H' : Hp} {a : Addr} {R : List (List Int)} {t : Bool} (e : Same H H') (h : OutAt K H a R t) : OutAt K H' a R t := by
  obtain ⟨p, h1, h2, h3⟩ := h
  exact ⟨p, sqT_same e h1, h2.same e, fun a b c => (h3 a b c).same e⟩
theorem OutAt.but {K : PySem.W.Frag} {H H' : Hp} {a d : Addr} {R : List (List Int)} {t : Bool} (e : But d H H') (l : Loose H d) (h : OutAt K H a R t) : OutAt K H' a R t := by
  obtain ⟨p, h1, h2, h3⟩ := h
  exact ⟨p, sqT_but e l h1, h2.but e l, fun a b c => (h3 a b c).but e l⟩
/-- the dict of outcomes -/
structure KnOk (P : Program) (w : World) (K : PySem.W.Frag) (H : Hp) (d : Addr) (es : List Ent) : Prop where
  at_ : KnAt P w K H d es
  out : ∀ e ∈ es, ∃ t, e.1.2 = hn t ∧ OutAt K H e.2.2 e.1.1 t
theorem KnOk.same {P : Program} {w : World} {K : PySem.W.Frag} {H H' : Hp} {d : Addr} {es : List Ent} (e : Same H H') (h : KnOk P w K H d es) : KnOk P w K H' d es :=
  ⟨h.at_.same e, fun x hx => let ⟨t, h1, h2⟩ := h.out x hx; ⟨t, h1, h2.same e⟩⟩
theorem KnOk.look {P : Program} {w : World} {K : PySem.W.Frag} {H : Hp} {d : Addr} {es : List Ent} {R : List (List Int)} {t : Bool} {v : Addr} (h : KnOk P w K H d es) (q : look es R (hn t) = some v) : OutAt K H v R t := by
  obtain ⟨b, hm⟩ := look_mem q
  obtain ⟨u, h1, h2⟩ := h.out _ hm
  rw [hn_inj h1]
  exact h2
theorem KnOk.put {P : Program} {w : World} {K : PySem.W.Frag} {H : Hp} {d b v : Addr} {es : List Ent} {R : List (List Int)} {t : Bool} (h : KnOk P w K H d es) (hk : KyAt K H b R (hn t)) (ho : OutAt K H v R t) :
    KnOk P w K (upd H d (NDict P w d (putE es R (hn t) b v))) d (putE es R (hn t) b v) := by
  have l := h.at_.loose
  refine ⟨⟨upd_same, ?_⟩, ?_⟩
  · refine putE_all (fun e he => (h.at_.ky e he).but But.upd l) (hk.but But.upd l) fun e he _ => (h.at_.ky e he).but But.upd l
  · refine putE_all (fun e he => let ⟨u, h1, h2⟩ := h.out e he; ⟨u, h1, h2.but But.upd l⟩) ⟨t, rfl, ho.but But.upd l⟩ fun e he q => ⟨t, ?_, ?_⟩
    · show e.1.2 = hn t
      rw [q]
    · show OutAt _ _ v e.1.1 t
      rw [q]
      exact ho.but But.upd l
end Ml
set_option maxHeartbeats 4000000
namespace Ml
open PySem PySem.Spec PyProof.Rows L2
section
variable {P : Program} {w : World} {K : PySem.W.Frag} {mg : Str → Option Value} {base : Heap}
/-! ### rest_behind -/
def sp_rest_behind (K : PySem.W.Frag) : Sp := fun vs H Q _ => ∃ (a : Addr) (R : List (List Int)) (t : Bool) (x : Int), vs = [.ref a, .str (hn t), .int x] ∧ RsAt K H a R ∧ Sm R ∧ ∀ p R' H', Same H H' → RsAt K H' p R' → R'.Perm (mv t x R) → Q (.ref p) H'
theorem sc_rest_behind : FnScope ["rest", "turn", "hole"] ["rest", "turn", "hole"] (defScope s_rest_behind) := ⟨rfl, rfl, rfl, by decide +kernel, rfl, by decide +kernel, by decide +kernel⟩
theorem ok_rest_behind (T : Has K mg "rest_behind" s_rest_behind []) (C1 : Cal P w K mg base 2 "knotted" ["rest", "hole"] (sp_knotted K)) (C2 : Cal P w K mg base 1 "bitten" ["rest", "hole"] (sp_bitten K)) :
    Cal P w K mg base 3 "rest_behind" ["rest", "turn", "hole"] (sp_rest_behind K) := by
  refine T.cal sc_rest_behind (fun _ _ _ _ _ _ us hl => match us, hl with | [_, _, _], _ => rfl) (fun vs H Q E h => ?_) (fun f cdv A outer s H vs Q E hr h => ?_)
  · obtain ⟨a, R, t, x, rfl, _⟩ := h
    rfl
  obtain ⟨a, R, t, x, rfl, h1, hs, q⟩ := h
  refine ⟨_, pss_cons (ps_if (pt_cmpR op_eq (pv 1) pe_str (nomark _)) (pss_one (ps_ret (pe_cal C1 hr rfl pass0 (pa_cons (pv 0) (pa_cons (pv 2) pa_nil))))) pss_nil)
    (pss_one (ps_ret (pe_cal C2 (hr.mono (by decide)) rfl pass0 (pa_cons (pv 0) (pa_cons (pv 2) pa_nil))))), ?_⟩
  refine ⟨_, rfl, rfl, _, rfl, ?_⟩
  have hlen : R.length ≤ 1000 := Nat.le_trans hs.len (by decide)
  cases t with
  | true =>
    rw [show decide (V.str (hn true) = V.str "weaver") = true from hn_eq true true]
    exact iteT ⟨_, rfl, _, rfl, a, R, x, rfl, h1, hlen, hs.strip, fun p R' H' e hp hperm => q p R' H' e hp hperm⟩
  | false =>
    rw [show decide (V.str (hn false) = V.str "weaver") = false from hn_eq false true]
    exact iteF ⟨_, rfl, _, rfl, a, R, x, rfl, h1, hlen, fun p H' e hp => q p _ H' e hp (List.Perm.refl _)⟩
/-! ### case_row -/
def sp_case_row (K : PySem.W.Frag) : Sp := fun vs H Q _ => ∃ (x : Int) (p : Addr), vs = [.int x, .ref p] ∧ PapAt K H p ∧ ∀ r H', Same H H' → Q (.ref r) H'
theorem sc_case_row : FnScope ["hole", "paper"] ["hole", "paper"] (defScope s_case_row) := ⟨rfl, rfl, rfl, by decide +kernel, rfl, by decide +kernel, by decide +kernel⟩
theorem ok_case_row (T : Has K mg "case_row" s_case_row []) : Cal P w K mg base 1 "case_row" ["hole", "paper"] (sp_case_row K) := by
  refine T.cal sc_case_row (fun _ _ _ _ _ _ us hl => match us, hl with | [_, _], _ => rfl) (fun vs H Q E h => ?_) (fun f cdv A outer s H vs Q E hr h => ?_)
  · obtain ⟨x, p, rfl, _⟩ := h
    rfl
  obtain ⟨x, p, rfl, ⟨wd, xs, h1, h2⟩, q⟩ := h
  refine ⟨_, pss_cons (ps_if (PW.pt (pw_or (pt_cmpR op_eq (pe_ix ix_tup (pv 1) pe_int (fun _ _ => rfl)) pe_str (nomark _)) (pw_or1 (pt_cmpR op_eq (pe_ix ix_tup (pv 1) pe_int (fun _ _ => rfl)) pe_str (nomark _)))))
      (pss_one (ps_ret (pe_tup (pa_cons (pv 0) (pa_cons (pe_ix ix_tup (pv 1) pe_int (fun _ _ => rfl)) (pa_cons (pe_ix ix_tup (pv 1) pe_int (fun _ _ => rfl)) pa_nil)))))) pss_nil)
    (pss_one (ps_ret (pe_tup (pa_cons (pv 0) (pa_cons pe_non (pa_cons (pv 1) pa_nil)))))), ?_⟩
  have yes : wd = "knot" ∨ wd = "bite" → tRet (tTup (tCons (tVar 0) (tCons (tOp (rIxT K) (tVar 1) (tC (.int 1))) (tCons (tOp (rIxT K) (tVar 1) (tC (.int 2))) tNil)))) { nx := fun _ H' => Q .non H', rt := Q } [some (.int x), some (.ref p)] H := by
    intro hw
    obtain ⟨y, v, rfl⟩ := h2 hw
    exact ⟨_, rfl, _, rfl, p, _, 1, _, rfl, rfl, h1, at_of (j := 1) rfl rfl, _, rfl, p, _, 2, _, rfl, rfl, h1, at_of (j := 2) rfl rfl, big _ (by simp), fun r hr => q r _ (same_new hr _)⟩
  refine ⟨_, rfl, p, _, 0, _, rfl, rfl, h1, at_of (j := 0) rfl rfl, rfl, _, rfl, ?_⟩
  refine iteDec (fun c1 => ?_) (fun c1 => ?_)
  · exact iteT (yes (.inl (by injection c1)))
  refine ⟨_, rfl, p, _, 0, _, rfl, rfl, h1, at_of (j := 0) rfl rfl, rfl, _, rfl, ?_⟩
  refine iteDec (fun c2 => ?_) (fun c2 => ?_)
  · exact yes (.inr (by injection c2))
  · exact ⟨_, rfl, _, rfl, big _ (by simp), fun r hr => q r _ (same_new hr _)⟩
/-! ### every_hole, known_outcome -/
/-- what both ask: fewer than n holes -/
def sp_known (P : Program) (w : World) (K : PySem.W.Frag) (n : Nat) : Sp := fun vs H Q _ => ∃ (a d : Addr) (R : List (List Int)) (t : Bool) (es : List Ent) (S : List Int), vs = [.ref a, .str (hn t), .ref d] ∧ RsAt K H a R ∧ Sm R ∧ KnOk P w K H d es ∧ Cov S R ∧ S.length + 1 ≤ n ∧ es.length + 1 + ent S.length ≤ 1000000 ∧
  ∀ r es' H', But d H H' → KnOk P w K H' d es' → es'.length ≤ es.length + 1 + ent S.length → OutAt K H' r R t → Q (.ref r) H'
def sp_every (P : Program) (w : World) (K : PySem.W.Frag) (n : Nat) : Sp := fun vs H Q _ => ∃ (a d : Addr) (R : List (List Int)) (t : Bool) (es : List Ent) (S : List Int), vs = [.ref a, .str (hn t), .ref d] ∧ RsAt K H a R ∧ Sm R ∧ [] ∉ R ∧ R ≠ [] ∧ KnOk P w K H d es ∧ Cov S R ∧ S.length + 1 ≤ n ∧ es.length + ent S.length ≤ 1000000 ∧
  ∀ r es' H', But d H H' → KnOk P w K H' d es' → es'.length ≤ es.length + ent S.length → OutAt K H' r R t → Q (.ref r) H'
theorem none_left {x : Str} {st : Stmt} {ps : List Str} {sp : Sp} (Hx : Has K mg x st []) (hb : ∀ (kV doc pm : Value) (an : Option Addr) (cdv ct : Value) (us : List Value), us.length = ps.length → bindArgs (PySem.W.fnOf x x (defArgs st) (defBody st) (defScope st) .none kV doc pm an cdv ct) ⟨us, []⟩ = pure (ps.zip us))
    (no : ∀ vs H Q E, ¬ sp vs H Q E) : Cal P w K mg base 0 x ps sp := by
  obtain ⟨f, fd, F, m⟩ := Hx
  exact ⟨f, fd, ⟨fun vs H Q E h => absurd h (no vs H Q E), fun A outer s H args us vs Q E _ _ _ _ h => absurd h (no vs H Q E)⟩, m, F.kp, FunD.bindsN F hb⟩
theorem sc_every_hole : FnScope ["rest", "turn", "known", "word", "other", "rows", "hole", "hand", "paper"] ["rest", "turn", "known"] (defScope s_every_hole) := ⟨rfl, rfl, rfl, by decide +kernel, rfl, by decide +kernel, by decide +kernel⟩
def wdOf (t : Bool) : Str := if t then "knot" else "bite"
theorem ok_every {n k : Nat} (T : Has K mg "every_hole" s_every_hole []) (fr : Fre mg) (hk : 3 ≤ k) (C1 : Cal P w K mg base 1 "holes_of" ["rest"] (sp_holes_of K)) (C2 : Cal P w K mg base 3 "rest_behind" ["rest", "turn", "hole"] (sp_rest_behind K))
    (C3 : Cal P w K mg base 1 "case_row" ["hole", "paper"] (sp_case_row K)) (C4 : Cal P w K mg base k "known_outcome" ["rest", "turn", "known"] (sp_known P w K n)) : Cal P w K mg base (k + 1) "every_hole" ["rest", "turn", "known"] (sp_every P w K (n + 1)) := by
  refine T.cal sc_every_hole (fun _ _ _ _ _ _ us hl => match us, hl with | [_, _, _], _ => rfl) (fun vs H Q E h => ?_) (fun f cdv A outer s H vs Q E hr h => ?_)
  · obtain ⟨a, d, R, t, es, S, rfl, _⟩ := h
    rfl
  obtain ⟨a, d, R, t, es, S, rfl, h1, hsm, h0, hne, hkn, hcov, hS, hsz, q⟩ := h
  have nd := sc_every_hole.nd
  have hr1 : Room 1 _ := hr.mono (by omega)
  have hr3 : Room 3 _ := hr.mono hk
  have tail : ∃ tl, PSs (cxOf CX0 P w K mg base ["rest", "turn", "known", "word", "other", "rows", "hole", "hand", "paper"] "every_hole" (defScope s_every_hole) f cdv A outer s H E).nox ((defBody s_every_hole).drop 3) tl ∧
      tl { nx := fun _ H' => Q .non H', rt := Q } [some (.ref a), some (.str (hn t)), some (.ref d), some (.str (wdOf t)), some (.str (hn (!t))), none, none, none, none] H := by
    refine ⟨_, pss_cons (ps_set (i := 5) nd rfl (Or.inl rfl) (pe_lst pa_nil))
      (pss_cons (ps_for PassesOwn.never rfl (pi_list (pe_cal C1 hr1 rfl pass0 (pa_cons (pv 0) pa_nil))) (pg_name (i := 6) nd rfl (Or.inl rfl))
        (pss_cons (ps_asg (pe_cal C4 hr rfl pass0 (pa_cons (pe_cal C2 hr3 rfl pass0 (pa_cons (pv 0) (pa_cons (pv 1) (pa_cons (pv 6) pa_nil)))) (pa_cons (pv 4) (pa_cons (pv 2) pa_nil))))
          (pg_tup rfl (pgs_cons (pg_name (i := 7) nd rfl (Or.inl rfl)) (pgs_cons (pg_name (i := 8) nd rfl (Or.inl rfl)) pgs_nil))))
        (pss_cons (ps_if (pt_cmpR op_eq (pv 7) (pv 1) (nomark _)) (pss_one (ps_ret (pe_tup (pa_cons (pv 1) (pa_cons (pe_tup (pa_cons (pv 3) (pa_cons (pv 6) (pa_cons (pv 8) pa_nil)))) pa_nil))))) pss_nil)
        (pss_one (ps_expr (pe_bm PySem.F.plainAttrs_list PySem.F.slot_list_append PySem.F.type_list_append mt_append (pv 5) (pa_cons (pe_cal C3 hr1 rfl pass0 (pa_cons (pv 6) (pa_cons (pv 8) pa_nil))) pa_nil)))))))
      (pss_one (ps_ret (pe_tup (pa_cons (pv 4) (pa_cons (pe_tup (pa_cons pe_str (pa_cons (pe_callTy call_tuple_of (by rfl) fr.tuple (by decide +kernel) (pa_cons (pv 5) pa_nil)) pa_nil))) pa_nil)))))), ?_⟩
    refine ⟨Nat.zero_le _, fun rw hrw => ?_⟩
    have eA : Same H (upd H rw (.lst [])) := same_new hrw _
    have hd0 := hkn.at_.at_
    have nrd : rw ≠ d := (ne_of_none hd0 hrw).symm
    refine ⟨_, rfl, a, R, rfl, h1.same eA, hsm.mu, fun p ns H2 e2 hp0 hp hnd hmem => ⟨p, rfl, ⟨_, SqL.of hp⟩, ?_⟩⟩
    have eB : Same H H2 := eA.trans e2
    have npd : p ≠ d := (ne_of_none (eA _ _ hd0) hp0).symm
    have hSle : ns.length ≤ S.length := nodup_le ns S hnd fun x hx => hcov x ((hmem x).mp hx)
    have hent : ∀ i, i ≤ ns.length → i * (1 + ent (S.length - 1)) ≤ ent S.length := fun i hi => by
      cases eS : S.length with
      | zero =>
        have e0 : i = 0 := by omega
        subst e0
        simp
      | succ m => exact Nat.mul_le_mul_right _ (by omega)
    refine for_mapL (f := V.int) (l := ns) (fun i σ H' => ∃ (es' : List Ent) (xs : List V) (w6 w7 w8 : Option V), σ = [some (.ref a), some (.str (hn t)), some (.ref d), some (.str (wdOf t)), some (.str (hn (!t))), some (.ref rw), w6, w7, w8] ∧
        But d H H' ∧ KnOk P w K H' d es' ∧ es'.length ≤ es.length + i * (1 + ent (S.length - 1)) ∧ H' p = some (.lst (ns.map V.int)) ∧ H' rw = some (.lst xs) ∧ xs.length ≤ i ∧ ∀ x ∈ ns.take i, winB (!t) (mv t x R) ≠ t)
      ⟨es, [], none, none, none, rfl, But.of eB, hkn.same eB, by omega, hp, e2 _ _ upd_same, Nat.le_refl _, by simp⟩ (fun i σ H' ⟨_, _, _, _, _, _, _, _, _, e, _⟩ => SqL.of e) ?_ ?_
    · rintro i x σ H' hx ⟨es', xs, w6, w7, w8, rfl, b1, kn1, len1, hp1, hrw1, hxs, hno⟩
      have hol := (hmem x).mp (ix_mem hx)
      have hxS := hcov x hol
      have hil := ix_lt hx
      have lo : Loose H d := hkn.at_.loose
      have lo1 : Loose H' d := kn1.at_.loose
      have her : (S.erase x).length = S.length - 1 := List.length_erase_of_mem hxS
      have hpos := List.length_pos_of_mem hxS
      have hle1 := hent (i + 1) hil
      rw [Nat.succ_mul] at hle1
      refine ⟨_, rfl, _, rfl, _, rfl, a, R, t, x, rfl, h1.but b1 lo, hsm, fun p1 R1 H3 e3 hR1 hperm => ?_⟩
      refine ⟨_, rfl, _, rfl, p1, d, R1, !t, es', S.erase x, rfl, hR1, hsm.mv hperm, kn1.same e3, hcov.mv hperm, by omega, by rw [her]; omega, fun r es2 H4 b4 kn4 len4 out4 => ?_⟩
      rw [her] at len4
      have ew : winB (!t) R1 = winB (!t) (mv t x R) := winB_eq (Gm.ww_perm hperm)
      obtain ⟨pp, h5, h6, h7⟩ := out4
      rw [ew] at h5
      refine ⟨r, _, rfl, h5, rfl, _, _, rfl, _, _, rfl, rfl, ?_⟩
      refine ⟨_, rfl, _, rfl, rfl, _, rfl, ?_⟩
      have b14 : But d H H4 := (b1.trans (But.of e3)).trans b4
      refine iteDec (fun c1 => ?_) (fun c1 => ?_)
      · have hw : winB (!t) (mv t x R) = t := hn_inj (by injection c1)
        have hwt := win_here hol h0 hne hw
        refine ⟨_, rfl, _, rfl, _, rfl, _, rfl, big _ (by simp), fun q1 hq1 => ⟨big _ (by simp), fun q2 hq2 => ?_⟩⟩
        have s1 : Same H4 (upd H4 q1 (.tup [.str (wdOf t), .int x, .ref pp])) := same_new hq1 _
        have s2 := same_put s1 (s1.free hq2) (.tup [.str (hn t), .ref q1])
        have n12 : q1 ≠ q2 := fun e => by rw [← e, upd_same] at hq2; cases hq2
        have hq1' : SqT K (upd (upd H4 q1 (.tup [.str (wdOf t), .int x, .ref pp])) q2 (.tup [.str (hn t), .ref q1])) q1 [.str (wdOf t), .int x, .ref pp] := SqT.of (by rw [upd_ne n12, upd_same])
        refine q q2 es2 _ (b14.trans (But.of s2)) (kn4.same s2) (by omega) ⟨q1, ?_, ⟨wdOf t, _, hq1', fun _ => ⟨x, _, rfl⟩⟩, fun ht _ _ => ?_⟩
        · rw [hwt]
          exact SqT.of upd_same
        · subst ht
          exact ⟨x, _, hq1'⟩
      · have hrw4 : H4 rw = some (.lst xs) := b4 _ _ nrd (e3 _ _ hrw1)
        have hp4 : H4 p = some (.lst (ns.map V.int)) := b4 _ _ npd (e3 _ _ hp1)
        refine ⟨_, rfl, .inl ⟨rfl, _, SqL.of hrw4⟩, _, rfl, _, rfl, x, pp, rfl, h6, fun r5 H5 e5 => ?_⟩
        have hrw5 := e5 _ _ hrw4
        have hnsl : ns.length ≤ 1000 := by
          have := nodup_le ns R.flatten hnd fun y hy => flat_hol.mpr ((hmem y).mp hy)
          rw [flat_mu] at this
          have := hsm.mu
          omega
        have npr : p ≠ rw := fun e => by rw [e, upd_same] at hp0; cases hp0
        have l5 : Loose H5 rw := Loose.lst hrw5
        have kn5 := kn4.same e5
        have hrn : H rw = none := hrw
        refine ⟨rw, _, _, rfl, rfl, hrw5, bigl _ (by omega), es2, _, _, _, _, rfl, ?_, ?_, ?_, ?_, upd_same, ?_, ?_⟩
        · intro b o nb hb
          rw [upd_ne (ne_of_none hb hrn)]
          exact e5 _ _ (b14 b o nb hb)
        · have bu : But rw H5 (upd H5 rw (.lst (xs ++ [.ref r5]))) := But.upd
          refine ⟨⟨by rw [upd_ne nrd.symm]; exact kn5.at_.at_, fun e he => (kn5.at_.ky e he).but bu l5⟩, fun e he => ?_⟩
          obtain ⟨u, g1, g2⟩ := kn5.out e he
          exact ⟨u, g1, g2.but bu l5⟩
        · rw [Nat.succ_mul]
          omega
        · rw [upd_ne npr]
          exact e5 _ _ hp4
        · rw [List.length_append, List.length_singleton]
          omega
        · intro y hy
          rw [take_next hx] at hy
          rcases List.mem_append.mp hy with hy | hy
          · exact hno y hy
          · rw [List.mem_singleton.mp hy]
            intro z
            exact c1 (by rw [z])
    · rintro σ H' ⟨es', xs, w6, w7, w8, rfl, b1, kn1, len1, hp1, hrw1, hxs, hno⟩
      rw [take_all] at hno
      have hwt : winB t R = !t := win_none h0 hne fun x hx => hno x ((hmem x).mpr hx)
      have hle1 := hent ns.length (Nat.le_refl _)
      refine ⟨_, rfl, _, rfl, rw, _, rfl, .inl ⟨SqL.of hrw1, fun q0 hq0 => ⟨big _ (by simp), fun q1 hq1 => ⟨big _ (by simp), fun q2 hq2 => ?_⟩⟩⟩⟩
      have s0 : Same H' (upd H' q0 (.tup xs)) := same_new hq0 _
      have s1 := same_put s0 (s0.free hq1) (.tup [.str "cases", .ref q0])
      have s2 := same_put s1 (s1.free hq2) (.tup [.str (hn (!t)), .ref q1])
      have n12 : q1 ≠ q2 := fun e => by rw [← e, upd_same] at hq2; cases hq2
      refine q q2 es' _ (b1.trans (But.of s2)) (kn1.same s2) (by omega) ⟨q1, ?_, ⟨"cases", _, SqT.of (by rw [upd_ne n12, upd_same]), fun z => ?_⟩, fun ht _ hf => ?_⟩
      · rw [hwt]
        exact SqT.of upd_same
      · exact absurd z (by decide +kernel)
      · subst ht
        rw [hwt] at hf
        cases hf
  obtain ⟨tl, htl, htq⟩ := tail
  refine ⟨_, pss_cons (ps_set (i := 3) nd rfl (Or.inl rfl) pe_str)
    (pss_cons (ps_set (i := 4) nd rfl (Or.inl rfl) pe_str)
    (pss_cons (ps_if (pt_cmpR op_eq (pv 1) pe_str (nomark _)) (pss_cons (ps_set (i := 3) nd rfl (Or.inl rfl) pe_str) (pss_one (ps_set (i := 4) nd rfl (Or.inl rfl) pe_str))) pss_nil) htl)), ?_⟩
  refine ⟨_, rfl, rfl, _, rfl, ?_⟩
  cases t with
  | true =>
    rw [show decide (V.str (hn true) = V.str "weaver") = true from hn_eq true true]
    exact iteT htq
  | false =>
    rw [show decide (V.str (hn false) = V.str "weaver") = false from hn_eq false true]
    exact iteF htq
end
end Ml
set_option maxHeartbeats 4000000
namespace Ml
open PySem PySem.Spec PyProof.Rows L2
section
variable {P : Program} {w : World} {K : PySem.W.Frag} {mg : Str → Option Value} {base : Heap}
theorem sc_known_outcome : FnScope ["rest", "turn", "known"] ["rest", "turn", "known"] (defScope s_known_outcome) := ⟨rfl, rfl, rfl, by decide +kernel, rfl, by decide +kernel, by decide +kernel⟩
/-- the outcome of a rest that is whole or bare -/
theorem out_new {H : Hp} {p v : Addr} {R : List (List Int)} {t b : Bool} {wd : Str} (hp : H p = none) (hv : upd H p (.tup [.str wd]) v = none) (hw : winB t R = b) (h1 : wd ≠ "knot") (h2 : wd ≠ "bite") (hb : b = false → R = []) :
    OutAt K (upd (upd H p (.tup [.str wd])) v (.tup [.str (hn b), .ref p])) v R t := by
  have n : p ≠ v := fun e => by rw [← e, upd_same] at hv; cases hv
  refine ⟨p, ?_, ⟨wd, [], SqT.of (by rw [upd_ne n, upd_same]), fun z => absurd z (fun z => z.elim h1 h2)⟩, fun _ hr hf => ?_⟩
  · rw [hw]
    exact SqT.of upd_same
  · rw [hw] at hf
    exact absurd (hb hf) hr
theorem ok_known {n k : Nat} (T : Has K mg "known_outcome" s_known_outcome []) (fr : Fre mg) (hk : 1 ≤ k) (C1 : Cal P w K mg base 1 "is_whole" ["rest"] (sp_is_whole K)) (C2 : Cal P w K mg base 1 "is_bare" ["rest"] (sp_is_bare K))
    (C3 : Cal P w K mg base k "every_hole" ["rest", "turn", "known"] (sp_every P w K n)) : Cal P w K mg base (k + 1) "known_outcome" ["rest", "turn", "known"] (sp_known P w K n) := by
  refine T.cal sc_known_outcome (fun _ _ _ _ _ _ us hl => match us, hl with | [_, _, _], _ => rfl) (fun vs H Q E h => ?_) (fun f cdv A outer s H vs Q E hr h => ?_)
  · obtain ⟨a, d, R, t, es, S, rfl, _⟩ := h
    rfl
  obtain ⟨a, d, R, t, es, S, rfl, h1, hsm, hkn, hcov, hS, hsz, q⟩ := h
  have nd := sc_known_outcome.nd
  have hr1 : Room 1 _ := hr.mono (by omega)
  have hu := hu64 hr
  refine ⟨_, pss_cons (ps_if (pt_val (pe_cal C1 hr1 rfl pass0 (pa_cons (pv 0) pa_nil))) (pss_one (ps_ret (pe_tup (pa_cons pe_str (pa_cons (pe_tup (pa_cons pe_str pa_nil)) pa_nil))))) pss_nil)
    (pss_cons (ps_if (pt_val (pe_cal C2 hr1 rfl pass0 (pa_cons (pv 0) pa_nil))) (pss_one (ps_ret (pe_tup (pa_cons pe_str (pa_cons (pe_tup (pa_cons pe_str pa_nil)) pa_nil))))) pss_nil)
    (pss_cons (ps_if (pt_cmpR (op_notInK hu) (pe_tup (pa_cons (pv 0) (pa_cons (pv 1) pa_nil))) (pv 2) (by rfl))
      (pss_one (ps_kput hu (pv 2) (pe_tup (pa_cons (pv 0) (pa_cons (pv 1) pa_nil))) (pe_cal C3 hr rfl pass0 (pa_cons (pv 0) (pa_cons (pv 1) (pa_cons (pv 2) pa_nil)))) rfl)) pss_nil)
    (pss_one (ps_ret (pe_kget hu (pv 2) (pe_tup (pa_cons (pv 0) (pa_cons (pv 1) pa_nil))) (fun _ _ => rfl)))))), ?_⟩
  refine ⟨_, rfl, a, R, rfl, h1, fun H1 e1 => ⟨_, rfl, ?_⟩⟩
  refine iteDec (fun c1 => ?_) (fun c1 => ?_)
  · refine ⟨Nat.le_of_lt (bigl _ (by simp)), fun p hp => ⟨big _ (by simp), fun v hv => ?_⟩⟩
    have s1 := same_put e1 (e1.free hp) (.tup [.str "whole"])
    have s2 := same_put s1 (s1.free hv) (.tup [.str "weaver", .ref p])
    exact q v es _ (But.of s2) (hkn.same s2) (by omega) (out_new (b := true) hp hv (winB_true.mpr (.whole c1)) (by decide +kernel) (by decide +kernel) (fun z => by cases z))
  refine ⟨_, rfl, a, R, rfl, h1.same e1, _, rfl, ?_⟩
  refine iteDec (fun c2 => ?_) (fun c2 => ?_)
  · refine ⟨Nat.le_of_lt (bigl _ (by simp)), fun p hp => ⟨big _ (by simp), fun v hv => ?_⟩⟩
    have s1 := same_put e1 (e1.free hp) (.tup [.str "bare"])
    have s2 := same_put s1 (s1.free hv) (.tup [.str "moth", .ref p])
    refine q v es _ (But.of s2) (hkn.same s2) (by omega) (out_new (b := false) hp hv ?_ (by decide +kernel) (by decide +kernel) (fun _ => c2))
    rw [c2]
    exact winB_false.mpr Gm.ww_nil
  -- the end: known[rest, turn]
  have fin : ∀ (H' : Hp) (es' : List Ent) (v : Addr), But d H H' → KnOk P w K H' d es' → es'.length ≤ es.length + 1 + ent S.length → look es' R (hn t) = some v →
      tRet (tKGet P w K (tVar 2) (tTup (tCons (tVar 0) (tCons (tVar 1) tNil)))) { nx := fun _ H' => Q .non H', rt := Q } [some (.ref a), some (.str (hn t)), some (.ref d)] H' := by
    intro H' es' v b kn hl hv
    refine ⟨_, rfl, _, rfl, _, rfl, big _ (by simp), fun y hy => ⟨y, d, R, hn t, es', v, rfl, rfl, ⟨a, SqT.of upd_same, (h1.but b hkn.at_.loose).same (same_new hy _)⟩, kn.at_.same (same_new hy _), hv, ?_⟩⟩
    exact q v es' _ (b.trans (But.of (same_new hy _))) (kn.same (same_new hy _)) hl ((kn.look hv).same (same_new hy _))
  refine ⟨_, rfl, _, rfl, big _ (by simp), fun y hy => ⟨_, rfl, y, d, R, hn t, es, rfl, rfl, ⟨a, SqT.of upd_same, (h1.same e1).same (same_new hy _)⟩, (hkn.at_.same e1).same (same_new hy _), _, rfl, ?_⟩⟩
  have e2 : Same H (upd H1 y (.tup [.ref a, .str (hn t)])) := same_put e1 (e1.free hy) _
  cases el : look es R (hn t) with
  | some v => exact iteF (fin _ es v (But.of e2) (hkn.same e2) (by omega) el)
  | none =>
    refine iteT ?_
    refine ⟨_, rfl, _, rfl, _, rfl, a, d, R, t, es, S, rfl, h1.same e2, hsm, c1, c2, hkn.same e2, hcov, hS, by omega, fun r es' H3 b3 kn3 len3 out3 => ?_⟩
    have b13 : But d H H3 := (But.of e2).trans b3
    refine ⟨_, rfl, _, rfl, _, rfl, big _ (by simp), fun z hz => ?_⟩
    have kn4 := kn3.same (same_new hz (.tup [.ref a, .str (hn t)]))
    have ky4 : KyAt K (upd H3 z (.tup [.ref a, .str (hn t)])) z R (hn t) := ⟨a, SqT.of upd_same, (h1.but b13 hkn.at_.loose).same (same_new hz _)⟩
    refine ⟨z, d, R, hn t, es', r, rfl, rfl, rfl, ky4, kn4.at_, bigl _ (by omega), ?_⟩
    have b14 : But d H (upd H3 z (.tup [.ref a, .str (hn t)])) := b13.trans (But.of (same_new hz _))
    exact fin _ _ r (b14.trans But.upd) (kn4.put ky4 (out3.same (same_new hz _))) (by have := putE_len es' R (hn t) z r; omega) look_put
/-- both, for fewer than n holes -/
theorem ok_both (T1 : Has K mg "known_outcome" s_known_outcome []) (T2 : Has K mg "every_hole" s_every_hole []) (fr : Fre mg) (C1 : Cal P w K mg base 1 "is_whole" ["rest"] (sp_is_whole K)) (C2 : Cal P w K mg base 1 "is_bare" ["rest"] (sp_is_bare K))
    (C3 : Cal P w K mg base 1 "holes_of" ["rest"] (sp_holes_of K)) (C4 : Cal P w K mg base 3 "rest_behind" ["rest", "turn", "hole"] (sp_rest_behind K)) (C5 : Cal P w K mg base 1 "case_row" ["hole", "paper"] (sp_case_row K)) :
    ∀ n : Nat, Cal P w K mg base (2 * n + 4) "known_outcome" ["rest", "turn", "known"] (sp_known P w K n)
  | 0 => (none_left T1 (fun _ _ _ _ _ _ us hl => match us, hl with | [_, _, _], _ => rfl) fun vs H Q E h => by
      obtain ⟨a, d, R, t, es, S, _, _, _, _, _, hS, _⟩ := h
      omega).mono (Nat.zero_le _)
  | n + 1 => ok_known T1 fr (by omega) C1 C2 (ok_every T2 fr (by omega) C3 C4 C5 (ok_both T1 T2 fr C1 C2 C3 C4 C5 n))
/-! ### widened -/
def sp_widened (K : PySem.W.Frag) : Sp := fun vs H Q _ => ∃ (a b p : Addr) (R T : List (List Int)) (t h : Bool), vs = [.ref a, .ref b, .str (hn t), .str (hn h), .ref p] ∧ RsAt K H a R ∧ RsAt K H b T ∧ T.length ≤ 1000 ∧ PapAt K H p ∧ (t = false → h = false → BiteAt K H p) ∧
  ∀ r H', Same H H' → PapAt K H' r → (t = false → h = false → BiteAt K H' r) → Q (.ref r) H'
theorem sc_widened : FnScope ["rest", "thin", "turn", "hand", "paper"] ["rest", "thin", "turn", "hand", "paper"] (defScope s_widened) := ⟨rfl, rfl, rfl, by decide +kernel, rfl, by decide +kernel, by decide +kernel⟩
theorem ok_widened (T : Has K mg "widened" s_widened []) (C1 : Cal P w K mg base 1 "bitten" ["rest", "hole"] (sp_bitten K)) : Cal P w K mg base 2 "widened" ["rest", "thin", "turn", "hand", "paper"] (sp_widened K) := by
  refine T.cal sc_widened (fun _ _ _ _ _ _ us hl => match us, hl with | [_, _, _, _, _], _ => rfl) (fun vs H Q E h => ?_) (fun f cdv A outer s H vs Q E hr h => ?_)
  · obtain ⟨a, b, p, R, T, t, h, rfl, _⟩ := h
    rfl
  obtain ⟨a, b, p, R, T, t, h, rfl, h1, h2, hT, h3, h4, q⟩ := h
  have hu := hu64 hr
  refine ⟨_, pss_cons (ps_if (pt_cmpR (op_eqR hu) (pv 1) (pv 0) (nomark _)) (pss_one (ps_ret (pv 4))) pss_nil)
    (pss_cons (ps_if (pt_cmpR op_eq (pv 3) pe_str (nomark _)) (pss_one (ps_ret (pe_tup (pa_cons pe_str (pa_cons (pv 1) (pa_cons (pv 4) pa_nil)))))) pss_nil)
    (pss_cons (ps_if (pt_cmpR op_eq (pv 2) pe_str (nomark _)) (pss_one (ps_ret (pe_tup (pa_cons pe_str (pa_cons (pe_tup (pa_cons (pe_tup (pa_cons (pv 1) (pa_cons (pv 4) pa_nil))) pa_nil)) pa_nil))))) pss_nil)
    (pss_one (ps_ret (pe_tup (pa_cons pe_str (pa_cons (pe_ix ix_tup (pv 4) pe_int (fun _ _ => rfl)) (pa_cons (pe_tup (pa_cons pe_str (pa_cons (pe_tup (pa_cons (pe_tup (pa_cons (pe_cal C1 hr rfl pass0 (pa_cons (pv 1) (pa_cons (pe_ix ix_tup (pv 4) pe_int (fun _ _ => rfl)) pa_nil))) (pa_cons (pe_ix ix_tup (pv 4) pe_int (fun _ _ => rfl)) pa_nil))) pa_nil)) pa_nil))) pa_nil)))))))), ?_⟩
  refine ⟨_, rfl, _, rfl, b, a, T, R, rfl, rfl, h2, h1, _, rfl, ?_⟩
  refine iteDec (fun c1 => ?_) (fun c1 => ?_)
  · exact ⟨_, rfl, q p H (Same.refl H) h3 h4⟩
  refine ⟨_, rfl, rfl, _, rfl, ?_⟩
  cases h with
  | true =>
    rw [show decide (V.str (hn true) = V.str "weaver") = true from hn_eq true true]
    refine iteT ⟨_, rfl, _, rfl, big _ (by simp), fun r hr' => ?_⟩
    exact q r _ (same_new hr' _) ⟨"fewer", _, SqT.of upd_same, fun z => absurd z (by decide +kernel)⟩ (fun _ z => by cases z)
  | false =>
    rw [show decide (V.str (hn false) = V.str "weaver") = false from hn_eq false true]
    refine iteF ?_
    refine ⟨_, rfl, rfl, _, rfl, ?_⟩
    cases t with
    | true =>
      rw [show decide (V.str (hn true) = V.str "weaver") = true from hn_eq true true]
      refine iteT ⟨_, rfl, _, rfl, big _ (by simp), fun r1 hr1 => ⟨big _ (by simp), fun r2 hr2 => ⟨big _ (by simp), fun r3 hr3 => ?_⟩⟩⟩
      exact q r3 _ (same_put (same_put (same_new hr1 _) ((same_new hr1 _).free hr2) _) ((same_put (same_new hr1 _) ((same_new hr1 _).free hr2) _).free hr3) _) ⟨"parts", _, SqT.of upd_same, fun z => absurd z (by decide +kernel)⟩ (fun z => by cases z)
    | false =>
      rw [show decide (V.str (hn false) = V.str "weaver") = false from hn_eq false true]
      refine iteF ?_
      obtain ⟨x, u, hb⟩ := h4 rfl rfl
      refine ⟨_, rfl, p, _, 1, _, rfl, rfl, hb, at_of (j := 1) rfl rfl, ?_⟩
      refine ⟨_, rfl, _, rfl, p, _, 1, _, rfl, rfl, hb, at_of (j := 1) rfl rfl, b, T, x, rfl, h2, hT, fun p1 H1 e1 hp1 => ?_⟩
      refine ⟨_, rfl, p, _, 2, _, rfl, rfl, sqT_same e1 hb, at_of (j := 2) rfl rfl, big _ (by simp), fun r1 hr1 => ⟨big _ (by simp), fun r2 hr2 => ⟨big _ (by simp), fun r3 hr3 => ⟨big _ (by simp), fun r4 hr4 => ?_⟩⟩⟩⟩
      have s1 := same_put e1 (e1.free hr1) (.tup [.ref p1, u])
      have s2 := same_put s1 (s1.free hr2) (.tup [.ref r1])
      have s3 := same_put s2 (s2.free hr3) (.tup [.str "parts", .ref r2])
      have s4 := same_put s3 (s3.free hr4) (.tup [.str "bite", .int x, .ref r3])
      exact q r4 _ s4 ⟨"bite", _, SqT.of upd_same, fun _ => ⟨x, _, rfl⟩⟩ (fun _ _ => ⟨x, _, SqT.of upd_same⟩)
/-! ### tried -/
def sp_tried (K : PySem.W.Frag) : Sp := fun vs H Q _ => ∃ (a : Addr) (R : List (List Int)) (t : Bool) (S : List Int), vs = [.ref a, .str (hn t)] ∧ RsAt K H a R ∧ Sm R ∧ Can R ∧ R ≠ [] ∧ Cov S R ∧ S.length ≤ 6 ∧ ∀ r H', Same H H' → OutAt K H' r R t → Q (.ref r) H'
theorem sc_tried : FnScope ["rest", "turn", "thin", "hand", "paper"] ["rest", "turn"] (defScope s_tried) := ⟨rfl, rfl, rfl, by decide +kernel, rfl, by decide +kernel, by decide +kernel⟩
theorem mu_sublist {R T : List (List Int)} (h : T.Sublist R) : Gm.mu T ≤ Gm.mu R := by
  induction h with
  | slnil => exact Nat.le_refl _
  | cons a _ ih => rw [Gm.mu_cons]; omega
  | cons_cons a _ ih => rw [Gm.mu_cons, Gm.mu_cons]; omega
theorem Sm.thin {R T : List (List Int)} (h : Sm R) (hT : Thin R T) : Sm T := ⟨Nat.le_trans hT.len h.len, Nat.le_trans (mu_sublist hT.sl) h.mu⟩
theorem Cov.sub {S : List Int} {R T : List (List Int)} (h : Cov S R) (hs : ∀ t ∈ T, t ∈ R) : Cov S T := fun x ⟨s, hs', hx⟩ => h x ⟨s, hs s hs', hx⟩
theorem ok_tried (T : Has K mg "tried" s_tried []) (fr : Fre mg) (hsix : ∃ tk, mg "TRIED_HOLES" = some (.int 6 tk)) (C1 : Cal P w K mg base 1 "holes_of" ["rest"] (sp_holes_of K)) (C2 : Cal P w K mg base 3 "thinned" ["rest"] (sp_thinned K))
    (C3 : Cal P w K mg base 18 "known_outcome" ["rest", "turn", "known"] (sp_known P w K 7)) (C4 : Cal P w K mg base 2 "widened" ["rest", "thin", "turn", "hand", "paper"] (sp_widened K)) : Cal P w K mg base 19 "tried" ["rest", "turn"] (sp_tried K) := by
  refine T.cal sc_tried (fun _ _ _ _ _ _ us hl => match us, hl with | [_, _], _ => rfl) (fun vs H Q E h => ?_) (fun f cdv A outer s H vs Q E hr h => ?_)
  · obtain ⟨a, R, t, S, rfl, _⟩ := h
    rfl
  obtain ⟨a, R, t, S, rfl, h1, hsm, hcan, hne, hcov, hS, q⟩ := h
  have nd := sc_tried.nd
  obtain ⟨tk, hsix⟩ := hsix
  refine ⟨_, pss_cons (ps_if (pt_cmpR op_gt (pe_callB call_len_seq rfl fr.len PySem.boot_len (pa_cons (pe_cal C1 (hr.mono (by decide)) rfl pass0 (pa_cons (pv 0) pa_nil)) pa_nil)) (pe_glob rfl hsix (v := .int 6) ⟨_, rfl⟩) (nomark _)) (pss_one ps_never) pss_nil)
    (pss_cons (ps_set (i := 2) nd rfl (Or.inl rfl) (pe_cal C2 (hr.mono (by decide)) rfl pass0 (pa_cons (pv 0) pa_nil)))
    (pss_cons (ps_asg (pe_cal C3 hr rfl pass0 (pa_cons (pv 2) (pa_cons (pv 1) (pa_cons pe_dnewN pa_nil)))) (pg_tup rfl (pgs_cons (pg_name (i := 3) nd rfl (Or.inl rfl)) (pgs_cons (pg_name (i := 4) nd rfl (Or.inl rfl)) pgs_nil))))
    (pss_one (ps_ret (pe_tup (pa_cons (pv 3) (pa_cons (pe_cal C4 (hr.mono (by decide)) rfl pass0 (pa_cons (pv 0) (pa_cons (pv 2) (pa_cons (pv 1) (pa_cons (pv 3) (pa_cons (pv 4) pa_nil)))))) pa_nil))))))), ?_⟩
  refine ⟨_, rfl, a, R, rfl, h1, hsm.mu, fun p ns H1 e1 hp0 hp hnd hmem => ⟨p, _, rfl, .inl (SqL.of hp), _, _, rfl, rfl, _, rfl, ?_⟩⟩
  have hle : ns.length ≤ 6 := Nat.le_trans (nodup_le ns S hnd fun x hx => hcov x ((hmem x).mp hx)) hS
  refine iteDec (fun c1 => ?_) (fun c1 => ?_)
  · rw [List.length_map] at c1
    omega
  refine ⟨_, rfl, a, R, rfl, h1.same e1, Nat.le_trans hsm.len (by decide), fun b T2 H2 e2 hT hth => ?_⟩
  have e12 := e1.trans e2
  refine ⟨_, rfl, _, rfl, fun d hd => ?_⟩
  have s3 : Same H2 (upd H2 d (NDict P w d [])) := same_new hd _
  refine ⟨b, d, T2, t, [], S, rfl, hT.same s3, hsm.thin hth, ⟨⟨upd_same, fun e he => by cases he⟩, fun e he => by cases he⟩, hcov.sub hth.sub, by omega, ?_, fun r es' H4 b4 kn4 len4 out4 => ?_⟩
  · have := ent_mono hS
    have e6 : ent 6 = 1956 := by decide
    simp only [List.length_nil]
    omega
  have hd0 : H d = none := e12.free hd
  have e4 : Same H H4 := fun x o hx => b4 x o (ne_of_none hx hd0) (s3 _ _ (e12 _ _ hx))
  have lo : Loose (upd H2 d (NDict P w d [])) d := (KnAt.loose (K := K) (es := []) ⟨upd_same, fun e he => by cases he⟩)
  have hT4 : RsAt K H4 b T2 := (hT.same s3).but b4 lo
  have ew : winB t T2 = winB t R := winB_eq (hth.ww hcan t)
  obtain ⟨pp, g1, g2, g3⟩ := out4
  refine ⟨r, _, rfl, g1, rfl, _, _, rfl, _, _, rfl, rfl, ?_⟩
  refine ⟨_, rfl, _, rfl, _, rfl, _, rfl, _, rfl, _, rfl, a, b, pp, R, T2, t, winB t T2, rfl, h1.same e4, hT4, Nat.le_trans hth.len (Nat.le_trans hsm.len (by decide)), g2, fun a1 a2 => g3 a1 (hth.ne hcan hne) a2, fun z H5 e5 hz1 hz2 => ?_⟩
  refine ⟨big _ (by simp), fun v hv => ?_⟩
  have s6 := same_new hv (.tup [.str (hn (winB t T2)), .ref z])
  refine q v _ ((e4.trans e5).trans s6) ⟨z, ?_, hz1.same s6, fun a1 _ a3 => (hz2 a1 (by rw [ew]; exact a3)).same s6⟩
  rw [ew]
  exact SqT.of upd_same
end
end Ml
set_option maxHeartbeats 4000000
namespace Ml
open PySem PySem.Spec PyProof.Rows L2
/-! ### who wins pieces joined -/
def byP (t : Bool) (bs : List (Bool × Bool)) : Bool := if t then decide (0 < bs.countP fun b => b.1) else (decide (0 < bs.countP fun b => b.2) || decide (1 < bs.countP fun b => b.1))
noncomputable def outs (Ps : List (List (List Int))) : List (Bool × Bool) := Ps.map fun P => (winB true P, winB false P)
theorem apart_flat {P : List (List Int)} {Ps : List (List (List Int))} (h : ∀ A ∈ Ps, Gm.Apart P A) : Gm.Apart P Ps.flatten := by
  rintro x hx ⟨s, hs, hy⟩
  obtain ⟨A, hA, hsA⟩ := List.mem_flatten.mp hs
  exact h A hA x hx ⟨s, hsA, hy⟩
theorem joins : ∀ Ps : List (List (List Int)), Ps.Pairwise Gm.Apart → (Gm.WW true Ps.flatten ↔ 0 < (outs Ps).countP fun b => b.1) ∧ (Gm.WW false Ps.flatten ↔ (0 < (outs Ps).countP fun b => b.2) ∨ 1 < (outs Ps).countP fun b => b.1)
  | [], _ => by
    simp only [List.flatten_nil, outs, List.map_nil, List.countP_nil, Nat.lt_irrefl, Nat.not_lt_zero, or_self, iff_false]
    exact ⟨Gm.ww_nil, Gm.ww_nil⟩
  | P :: Ps, h => by
    have h' := List.pairwise_cons.mp h
    obtain ⟨i1, i2⟩ := joins Ps h'.2
    have ha := apart_flat h'.1
    have e1 : (outs (P :: Ps)).countP (fun b => b.1) = (outs Ps).countP (fun b => b.1) + if winB true P = true then 1 else 0 := by
      unfold outs
      rw [List.map_cons, List.countP_cons]
    have e2 : (outs (P :: Ps)).countP (fun b => b.2) = (outs Ps).countP (fun b => b.2) + if winB false P = true then 1 else 0 := by
      unfold outs
      rw [List.map_cons, List.countP_cons]
    rw [List.flatten_cons, e1, e2, Gm.join_true ha, Gm.join_false ha, i1, i2, ← winB_true (t := true) (R := P), ← winB_true (t := false) (R := P)]
    clear e1 e2 i1 i2
    generalize (outs Ps).countP (fun b => b.1) = m
    generalize (outs Ps).countP (fun b => b.2) = n
    generalize winB true P = u
    generalize winB false P = v
    cases u <;> cases v <;> simp <;> omega
theorem byP_win {t : Bool} {Ps : List (List (List Int))} (h : Ps.Pairwise Gm.Apart) : byP t (outs Ps) = winB t Ps.flatten := by
  obtain ⟨h1, h2⟩ := joins Ps h
  cases t with
  | true =>
    show decide _ = _
    cases e : winB true Ps.flatten with
    | true => exact decide_eq_true (h1.mp (winB_true.mp e))
    | false => exact decide_eq_false fun z => winB_false.mp e (h1.mpr z)
  | false =>
    show (decide _ || decide _) = _
    cases e : winB false Ps.flatten with
    | true =>
      have := h2.mp (winB_true.mp e)
      rw [Bool.or_eq_true]
      exact this.imp decide_eq_true decide_eq_true
    | false =>
      have no : ¬ _ := fun z => winB_false.mp e (h2.mpr z)
      rw [Bool.or_eq_false_iff]
      exact ⟨decide_eq_false fun z => no (.inl z), decide_eq_false fun z => no (.inr z)⟩
/-! ### few holes hang together -/
/-- each value of f has at most six places -/
def Fib (f : Int → Int) : Prop := ∀ c, ∃ S : List Int, S.length ≤ 6 ∧ ∀ x, f x = c → x ∈ S
def Fw (f : Int → Int) (R : List (List Int)) : Prop := ∀ s ∈ R, ∀ x ∈ s, ∀ y ∈ s, f x = f y
def Few (R : List (List Int)) : Prop := ∃ f, Fib f ∧ Fw f R
theorem Few.sub {R T : List (List Int)} (h : Few R) (hs : ∀ t ∈ T, t ∈ R) : Few T := by
  obtain ⟨f, h1, h2⟩ := h
  exact ⟨f, h1, fun s hs' => h2 s (hs s hs')⟩
theorem Pcs.cov {T : List (List Int)} {Ps : List (List (List Int))} (h : Pcs T Ps) (hf : Few T) : ∀ P ∈ Ps, ∃ S : List Int, S.length ≤ 6 ∧ Cov S P := by
  intro P hP
  obtain ⟨f, h1, h2⟩ := hf
  by_cases hx : ∃ x, Gm.Hol P x
  · obtain ⟨x0, s, hs, hx0⟩ := hx
    obtain ⟨S, hS, hall⟩ := h1 (f x0)
    refine ⟨S, hS, ?_⟩
    rintro y ⟨u, hu, hy⟩
    exact hall y (h.cls f h2 P hP u hu s hs y hy x0 hx0)
  · exact ⟨[], Nat.zero_le _, fun x hx' => absurd ⟨x, hx'⟩ hx⟩
theorem Pcs.mem {T : List (List Int)} {Ps : List (List (List Int))} (h : Pcs T Ps) : ∀ P ∈ Ps, ∀ s ∈ P, s ∈ T := fun P hP s hs => h.perm.mem_iff.mp (List.mem_flatten.mpr ⟨P, hP, hs⟩)
theorem mu_flat {Ps : List (List (List Int))} : ∀ {P : List (List Int)}, P ∈ Ps → Gm.mu P ≤ Gm.mu Ps.flatten ∧ P.length ≤ Ps.flatten.length := by
  induction Ps with
  | nil => intro P h; cases h
  | cons A Ps ih =>
    intro P h
    rw [List.flatten_cons, mu_app, List.length_append]
    rcases List.mem_cons.mp h with rfl | h
    · omega
    · have := ih h
      omega
theorem Pcs.sm {T : List (List Int)} {Ps : List (List (List Int))} (h : Pcs T Ps) (hs : Sm T) : ∀ P ∈ Ps, Sm P := fun P hP => by
  obtain ⟨h1, h2⟩ := mu_flat hP
  rw [mu_perm h.perm] at h1
  rw [h.perm.length_eq] at h2
  exact ⟨Nat.le_trans h2 hs.len, Nat.le_trans h1 hs.mu⟩
theorem Pcs.count {T : List (List Int)} {Ps : List (List (List Int))} (h : Pcs T Ps) : Ps.length ≤ T.length := by
  rw [← h.perm.length_eq]
  have : ∀ Ps : List (List (List Int)), (∀ P ∈ Ps, P ≠ []) → Ps.length ≤ Ps.flatten.length := by
    intro Ps
    induction Ps with
    | nil => intro _; exact Nat.zero_le _
    | cons A Ps ih =>
      intro h
      rw [List.flatten_cons, List.length_append, List.length_cons]
      have h1 := ih fun P hP => h P (List.mem_cons_of_mem _ hP)
      have h2 : 0 < A.length := List.length_pos_iff.mpr (h A (List.mem_cons_self ..))
      omega
  exact this Ps h.ne
/-- a test of a hand -/
theorem ite_hn (t u : Bool) {A B : Prop} (h1 : t = u → A) (h2 : t ≠ u → B) : if decide (V.str (hn t) = V.str (hn u)) = true then A else B := by
  rw [hn_eq]
  exact iteDec h1 h2
theorem ite_nhn (t u : Bool) {A B : Prop} (h1 : t ≠ u → A) (h2 : t = u → B) : if (!decide (V.str (hn t) = V.str (hn u))) = true then A else B := by
  rw [hn_eq]
  exact iteND h1 h2
section
variable {P : Program} {w : World} {K : PySem.W.Frag} {mg : Str → Option Value} {base : Heap}
/-! ### by_pieces -/
abbrev Tel := Addr × Bool × Bool
def sp_by_pieces (K : PySem.W.Frag) : Sp := fun vs H Q _ => ∃ (l : Addr) (t : Bool) (ts : List Tel), vs = [.ref l, .str (hn t)] ∧ SqL K H l (ts.map fun q => V.ref q.1) ∧ (∀ q ∈ ts, SqT K H q.1 [.str (hn q.2.1), .str (hn q.2.2)]) ∧ Q (.str (hn (byP t (ts.map fun q => q.2)))) H
theorem sc_by_pieces : FnScope ["tellings", "turn", "begun", "answered", "weaver_moves", "moth_moves", "won"] ["tellings", "turn"] (defScope s_by_pieces) := ⟨rfl, rfl, rfl, by decide +kernel, rfl, by decide +kernel, by decide +kernel⟩
theorem count_take {α : Type} {p : α → Bool} {l : List α} {i : Nat} {x : α} (h : l[i]? = some x) : (l.take (i + 1)).countP p = (l.take i).countP p + if p x = true then 1 else 0 := by
  rw [take_next h, List.countP_append]
  simp [List.countP_cons]
theorem ok_by_pieces (T : Has K mg "by_pieces" s_by_pieces []) : Cal P w K mg base 1 "by_pieces" ["tellings", "turn"] (sp_by_pieces K) := by
  refine T.cal sc_by_pieces (fun _ _ _ _ _ _ us hl => match us, hl with | [_, _], _ => rfl) (fun vs H Q E h => ?_) (fun f cdv A outer s H vs Q E hr h => ?_)
  · obtain ⟨l, t, ts, rfl, _⟩ := h
    rfl
  obtain ⟨l, t, ts, rfl, h1, h2, q⟩ := h
  have nd := sc_by_pieces.nd
  refine ⟨_, pss_cons (ps_set (i := 2) nd rfl (Or.inl rfl) pe_int)
    (pss_cons (ps_set (i := 3) nd rfl (Or.inl rfl) pe_int)
    (pss_cons (ps_for PassesOwn.never rfl (pi_list (pv 0)) (pg_tup rfl (pgs_cons (pg_name (i := 4) nd rfl (Or.inl rfl)) (pgs_cons (pg_name (i := 5) nd rfl (Or.inl rfl)) pgs_nil)))
      (pss_cons (ps_if (pt_cmpR op_eq (pv 4) pe_str (nomark _)) (pss_one (ps_set (i := 2) nd rfl (Or.inl rfl) (pe_op op_add (pv 2) pe_int))) pss_nil)
      (pss_one (ps_if (pt_cmpR op_eq (pv 5) pe_str (nomark _)) (pss_one (ps_set (i := 3) nd rfl (Or.inl rfl) (pe_op op_add (pv 3) pe_int))) pss_nil))))
    (pss_cons (ps_set (i := 6) nd rfl (Or.inl rfl) (pe_or (pe_cmpR op_gt (pv 3) pe_int (nomark _)) (pe_one (pe_cmpR op_gt (pv 2) pe_int (nomark _)))))
    (pss_cons (ps_if (pt_cmpR op_eq (pv 1) pe_str (nomark _)) (pss_one (ps_set (i := 6) nd rfl (Or.inl rfl) (pe_cmpR op_gt (pv 2) pe_int (nomark _)))) pss_nil)
    (pss_one (ps_ret (pe_ifExp (pt_val (pv 6)) pe_str pe_str))))))), ?_⟩
  refine ⟨_, rfl, l, rfl, ⟨_, h1⟩, for_mapL (f := fun q : Tel => V.ref q.1) (l := ts) (fun i σ H' => H' = H ∧ ∃ (nb na : Int) (w4 w5 : Option V), σ = [some (.ref l), some (.str (hn t)), some (.int nb), some (.int na), w4, w5, none] ∧
      nb = (((ts.take i).countP fun q => q.2.1 : Nat) : Int) ∧ na = (((ts.take i).countP fun q => q.2.2 : Nat) : Int))
    ⟨rfl, 0, 0, none, none, rfl, rfl, rfl⟩ (fun i σ H' ⟨e, _⟩ => e ▸ h1) ?_ ?_⟩
  · rintro i z σ H' hx ⟨rfl, nb, na, w4, w5, rfl, en, ea⟩
    refine ⟨z.1, _, rfl, h2 z (ix_mem hx), rfl, _, _, rfl, _, _, rfl, rfl, ?_⟩
    have c1 := count_take (p := fun q : Tel => q.2.1) hx
    have c2 := count_take (p := fun q : Tel => q.2.2) hx
    obtain ⟨qa, b1, b2⟩ := z
    refine ⟨_, rfl, rfl, _, rfl, ?_⟩
    refine ite_hn b1 true (fun e1 => ?_) (fun e1 => ?_)
    · refine ⟨_, rfl, _, _, rfl, rfl, _, rfl, rfl, _, rfl, ?_⟩
      refine ite_hn b2 true (fun e2 => ?_) (fun e2 => ?_)
      · refine ⟨_, rfl, _, _, rfl, rfl, rfl, _, _, _, _, rfl, ?_, ?_⟩
        · rw [c1]; simp [e1, en]
        · rw [c2]; simp [e2, ea]
      · refine ⟨rfl, _, _, _, _, rfl, ?_, ?_⟩
        · rw [c1]; simp [e1, en]
        · rw [c2]; simp [e2, ea]
    · refine ⟨_, rfl, rfl, _, rfl, ?_⟩
      refine ite_hn b2 true (fun e2 => ?_) (fun e2 => ?_)
      · refine ⟨_, rfl, _, _, rfl, rfl, rfl, _, _, _, _, rfl, ?_, ?_⟩
        · rw [c1]; simp [e1, en]
        · rw [c2]; simp [e2, ea]
      · refine ⟨rfl, _, _, _, _, rfl, ?_, ?_⟩
        · rw [c1]; simp [e1, en]
        · rw [c2]; simp [e2, ea]
  · rintro σ H' ⟨rfl, nb, na, w4, w5, rfl, en, ea⟩
    rw [take_all] at en ea
    have eb : (ts.map fun q => q.2).countP (fun b => b.1) = ts.countP fun q => q.2.1 := List.countP_map ..
    have ec : (ts.map fun q => q.2).countP (fun b => b.2) = ts.countP fun q => q.2.2 := List.countP_map ..
    have fin : ∀ k : Bool, (t = true → k = decide (0 < nb)) → (t = false → k = (decide (0 < na) || decide (1 < nb))) → if k = true then Q (.str "weaver") H' else Q (.str "moth") H' := by
      intro k k1 k2
      have e : byP t (ts.map fun q => q.2) = k := by
        unfold byP
        rw [eb, ec]
        cases t with
        | true =>
          rw [k1 rfl, en, if_pos rfl]
          exact decide_eq_decide.mpr (by omega)
        | false =>
          rw [k2 rfl, en, ea, if_neg Bool.false_ne_true]
          have p1 : decide (0 < ts.countP fun q => q.2.2) = decide ((0 : Int) < ((ts.countP fun q => q.2.2 : Nat) : Int)) := decide_eq_decide.mpr (by omega)
          have p2 : decide (1 < ts.countP fun q => q.2.1) = decide ((1 : Int) < ((ts.countP fun q => q.2.1 : Nat) : Int)) := decide_eq_decide.mpr (by omega)
          rw [p1, p2]
      rw [e] at q
      cases k with
      | true => exact iteT q
      | false => exact iteF q
    have won : ∀ k : Bool, (t = false → k = (decide (0 < na) || decide (1 < nb))) → tSeq (tIfS (tTest (tOp rEq (tVar 1) (tC (.str "weaver")))) (tAsg (tOp (rI0 fun i j => .bl (decide (j < i))) (tVar 2) (tC (.int 0))) (gName 6)) tNext) (tRet (tIf (tB (tVar 6)) (tC (.str "weaver")) (tC (.str "moth"))))
        { nx := fun _ H' => Q .non H', rt := Q } [some (.ref l), some (.str (hn t)), some (.int nb), some (.int na), w4, w5, some (.bl k)] H' := by
      intro k hk
      refine ⟨_, rfl, rfl, _, rfl, ?_⟩
      refine ite_hn t true (fun e1 => ?_) (fun e1 => ?_)
      · exact ⟨_, rfl, _, _, rfl, rfl, _, rfl, _, rfl, fin _ (fun _ => rfl) (fun z => by rw [e1] at z; cases z)⟩
      · exact ⟨_, rfl, _, rfl, fin k (fun z => absurd z e1) hk⟩
    refine ⟨_, rfl, _, _, rfl, rfl, _, rfl, ?_⟩
    refine iteDec (fun c1 => ?_) (fun c1 => ?_)
    · exact won true fun _ => by rw [decide_eq_true c1]; rfl
    · exact ⟨_, rfl, _, _, rfl, rfl, won _ fun _ => by rw [decide_eq_false c1]; rfl⟩
end
end Ml
set_option maxHeartbeats 4000000
namespace Ml
open PySem PySem.Spec PyProof.Rows L2
section
variable {P : Program} {w : World} {K : PySem.W.Frag} {mg : Str → Option Value} {base : Heap}
/-! ### is_small -/
def sp_is_small (K : PySem.W.Frag) : Sp := fun vs H Q _ => ∃ (a : Addr) (R : List (List Int)), vs = [.ref a] ∧ RsAt K H a R ∧ Sm R ∧ Few R ∧ [] ∉ R ∧ ∀ H', Same H H' → Q (.bl true) H'
theorem sc_is_small : FnScope ["rest", "piece"] ["rest"] (defScope s_is_small) := ⟨rfl, rfl, rfl, by decide +kernel, rfl, by decide +kernel, by decide +kernel⟩
theorem ok_is_small (T : Has K mg "is_small" s_is_small []) (fr : Fre mg) (hsix : ∃ tk, mg "TRIED_HOLES" = some (.int 6 tk)) (C1 : Cal P w K mg base 3 "thinned" ["rest"] (sp_thinned K)) (C2 : Cal P w K mg base 3 "pieces" ["rest"] (sp_pieces K))
    (C3 : Cal P w K mg base 1 "holes_of" ["rest"] (sp_holes_of K)) : Cal P w K mg base 4 "is_small" ["rest"] (sp_is_small K) := by
  refine T.cal sc_is_small (fun _ _ _ _ _ _ us hl => match us, hl with | [_], _ => rfl) (fun vs H Q E h => ?_) (fun f cdv A outer s H vs Q E hr h => ?_)
  · obtain ⟨a, R, rfl, _⟩ := h
    rfl
  obtain ⟨a, R, rfl, h1, hsm, hfew, h0, q⟩ := h
  have nd := sc_is_small.nd
  obtain ⟨tk, hsix⟩ := hsix
  refine ⟨_, pss_cons (ps_for PassesOwn.never rfl (pi_list (pe_cal C2 hr rfl pass0 (pa_cons (pe_cal C1 hr rfl pass0 (pa_cons (pv 0) pa_nil)) pa_nil))) (pg_name (i := 1) nd rfl (Or.inl rfl))
      (pss_one (ps_if (pt_cmpR op_gt (pe_callB call_len_seq rfl fr.len PySem.boot_len (pa_cons (pe_cal C3 (hr.mono (by decide)) rfl pass0 (pa_cons (pv 1) pa_nil)) pa_nil)) (pe_glob rfl hsix (v := .int 6) ⟨_, rfl⟩) (nomark _)) (pss_one (ps_ret pe_bl)) pss_nil)))
    (pss_one (ps_ret pe_bl)), ?_⟩
  refine ⟨_, rfl, a, R, rfl, h1, Nat.le_trans hsm.len (by decide), fun b T2 H1 e1 hT hth => ?_⟩
  have hsT := hsm.thin hth
  refine ⟨b, T2, rfl, hT, Nat.le_trans hsT.len (by decide), Nat.le_trans hsT.mu (by decide), hth.whole h0, fun p Ps H2 e2 hp0 hp hPs hpcs => ⟨p, rfl, ⟨_, SqL.of hp⟩, ?_⟩⟩
  have e12 := e1.trans e2
  have hcov := hpcs.cov (hfew.sub hth.sub)
  have hpsm := hpcs.sm hsT
  refine for_mapL (f := fun c : Addr × List (List Int) => V.ref c.1) (l := Ps) (fun i σ H' => Same H2 H' ∧ ∃ v, σ = [some (.ref a), v]) ⟨Same.refl _, _, rfl⟩ (fun i σ H' ⟨e, _⟩ => SqL.of (e _ _ hp)) ?_ ?_
  · rintro i c σ H' hx ⟨e, v, rfl⟩
    have hm : c.2 ∈ Ps.rests := List.mem_map.mpr ⟨c, ix_mem hx, rfl⟩
    obtain ⟨S, hS, hc⟩ := hcov c.2 hm
    refine ⟨_, rfl, c.1, c.2, rfl, (hPs c (ix_mem hx)).same e, (hpsm _ hm).mu, fun p3 ns H3 e3 hp30 hp3 hnd hmem => ⟨p3, _, rfl, .inl (SqL.of hp3), _, _, rfl, rfl, _, rfl, ?_⟩⟩
    have hle : ns.length ≤ 6 := Nat.le_trans (nodup_le ns S hnd fun x hx => hc x ((hmem x).mp hx)) hS
    refine iteDec (fun c1 => ?_) (fun c1 => ⟨e.trans e3, _, rfl⟩)
    rw [List.length_map] at c1
    omega
  · rintro σ H' ⟨e, v, rfl⟩
    exact q _ (e12.trans e)
/-! ### pieces tried -/
/-- the row of a piece: where it stands, the piece, who wins it with either hand to move -/
structure Tri where
  q : Addr
  p : Addr
  e : Addr
  l : Addr
  R : List (List Int)
structure TriAt (K : PySem.W.Frag) (H : Hp) (z : Tri) : Prop where
  at_ : SqT K H z.q [.ref z.p, .ref z.e, .ref z.l]
  rs : RsAt K H z.p z.R
  early : OutAt K H z.e z.R true
  late : OutAt K H z.l z.R false
  ne : z.R ≠ []
  len : z.R.length ≤ 1000
theorem TriAt.same {H H' : Hp} {z : Tri} (e : Same H H') (h : TriAt K H z) : TriAt K H' z := ⟨sqT_same e h.at_, h.rs.same e, h.early.same e, h.late.same e, h.ne, h.len⟩
theorem TriAt.but {H H' : Hp} {z : Tri} {d : Addr} (e : But d H H') (l : Loose H d) (h : TriAt K H z) : TriAt K H' z := ⟨sqT_but e l h.at_, h.rs.but e l, h.early.but e l, h.late.but e l, h.ne, h.len⟩
abbrev Tri.out (z : Tri) : List (List Int) := z.R
/-! ### weaver_by_pieces -/
def sp_by (K : PySem.W.Frag) (b : Bool) : Sp := fun vs H Q _ => ∃ (l : Addr) (t : Bool) (zs : List Tri), vs = [.ref l, .str (hn t)] ∧ SqL K H l (zs.map fun z => V.ref z.q) ∧ (∀ z ∈ zs, TriAt K H z) ∧ zs.length ≤ 1000 ∧ byP t (outs (zs.map fun z => z.R)) = b ∧ ∀ r H', Same H H' → Q (.ref r) H'
theorem sc_weaver_by_pieces : FnScope ["tried_pieces", "turn", "begun", "piece", "early", "late"] ["tried_pieces", "turn"] (defScope s_weaver_by_pieces) := ⟨rfl, rfl, rfl, by decide +kernel, rfl, by decide +kernel, by decide +kernel⟩
theorem outs_c1 (zs : List Tri) : (outs (zs.map fun z => z.R)).countP (fun b => b.1) = zs.countP fun z => winB true z.R := by
  unfold outs
  rw [List.map_map, List.countP_map]
  rfl
theorem outs_c2 (zs : List Tri) : (outs (zs.map fun z => z.R)).countP (fun b => b.2) = zs.countP fun z => winB false z.R := by
  unfold outs
  rw [List.map_map, List.countP_map]
  rfl
theorem ok_weaver_by_pieces (T : Has K mg "weaver_by_pieces" s_weaver_by_pieces []) : Cal P w K mg base 1 "weaver_by_pieces" ["tried_pieces", "turn"] (sp_by K true) := by
  refine T.cal sc_weaver_by_pieces (fun _ _ _ _ _ _ us hl => match us, hl with | [_, _], _ => rfl) (fun vs H Q E h => ?_) (fun f cdv A outer s H vs Q E hr h => ?_)
  · obtain ⟨l, t, zs, rfl, _⟩ := h
    rfl
  obtain ⟨l, t, zs, rfl, h1, h2, hlen, hby, q⟩ := h
  have nd := sc_weaver_by_pieces.nd
  refine ⟨_, pss_cons (ps_set (i := 2) nd rfl (Or.inl rfl) (pe_lst pa_nil))
    (pss_cons (ps_for PassesOwn.never rfl (pi_list (pv 0)) (pg_tup rfl (pgs_cons (pg_name (i := 3) nd rfl (Or.inl rfl)) (pgs_cons (pg_name (i := 4) nd rfl (Or.inl rfl)) (pgs_cons (pg_name (i := 5) nd rfl (Or.inl rfl)) pgs_nil))))
      (pss_cons (ps_if (PW.pt (pw_and (pt_cmpR op_eq (pv 1) pe_str (nomark _)) (pw_and1 (pt_cmpR op_eq (pe_ix ix_tup (pv 5) pe_int (fun _ _ => rfl)) pe_str (nomark _)))))
        (pss_one (ps_ret (pe_tup (pa_cons pe_str (pa_cons (pv 3) (pa_cons (pe_ix ix_tup (pv 5) pe_int (fun _ _ => rfl)) pa_nil)))))) pss_nil)
      (pss_one (ps_if (pt_cmpR op_eq (pe_ix ix_tup (pv 4) pe_int (fun _ _ => rfl)) pe_str (nomark _))
        (pss_one (ps_expr (pe_bm PySem.F.plainAttrs_list PySem.F.slot_list_append PySem.F.type_list_append mt_append (pv 2) (pa_cons (pe_tup (pa_cons (pv 3) (pa_cons (pe_ix ix_tup (pv 4) pe_int (fun _ _ => rfl)) pa_nil))) pa_nil)))) pss_nil))))
    (pss_cons (ps_if (pt_cmpR op_eq (pv 1) pe_str (nomark _))
      (pss_one (ps_ret (pe_tup (pa_cons pe_str (pa_cons (pe_ix ix_tup (pe_ix ix_list (pv 2) pe_int (fun _ _ => rfl)) pe_int (fun _ _ => rfl)) (pa_cons (pe_ix ix_tup (pe_ix ix_list (pv 2) pe_int (fun _ _ => rfl)) pe_int (fun _ _ => rfl)) pa_nil)))))) pss_nil)
    (pss_one (ps_ret (pe_tup (pa_cons pe_str (pa_cons (pe_ix ix_tup (pe_ix ix_list (pv 2) pe_int (fun _ _ => rfl)) pe_int (fun _ _ => rfl)) (pa_cons (pe_ix ix_tup (pe_ix ix_list (pv 2) pe_int (fun _ _ => rfl)) pe_int (fun _ _ => rfl))
      (pa_cons (pe_ix ix_tup (pe_ix ix_list (pv 2) pe_int (fun _ _ => rfl)) pe_int (fun _ _ => rfl)) (pa_cons (pe_ix ix_tup (pe_ix ix_list (pv 2) pe_int (fun _ _ => rfl)) pe_int (fun _ _ => rfl)) pa_nil)))))))))), ?_⟩
  refine ⟨Nat.zero_le _, fun bg hbg => ?_⟩
  have eA : Same H (upd H bg (.lst [])) := same_new hbg _
  refine ⟨_, rfl, l, rfl, ⟨_, eA.seq h1⟩, for_mapL (f := fun z : Tri => V.ref z.q) (l := zs) (fun i σ H' => Same H H' ∧ (∃ v3 v4 v5, σ = [some (.ref l), some (.str (hn t)), some (.ref bg), v3, v4, v5]) ∧
      ∃ gs : List Addr, H' bg = some (.lst (gs.map V.ref)) ∧ gs.length = (zs.take i).countP (fun z => winB true z.R) ∧ (∀ g ∈ gs, ∃ u v, SqT K H' g [u, v]) ∧ (t = false → ∀ z ∈ zs.take i, winB false z.R = false))
    ⟨eA, ⟨_, _, _, rfl⟩, [], upd_same, rfl, fun g hg => by (cases hg), by simp⟩ (fun i σ H' ⟨e, _⟩ => e.seq h1) ?_ ?_⟩
  · rintro i z σ H' hx ⟨e, ⟨v3, v4, v5, rfl⟩, gs, hgs, hcnt, hg, hno⟩
    have hz := (h2 z (ix_mem hx)).same e
    obtain ⟨pe, hpe, _, _⟩ := hz.early
    obtain ⟨pl, hpl, _, _⟩ := hz.late
    have c1 := count_take (p := fun z : Tri => winB true z.R) hx
    refine ⟨z.q, _, rfl, hz.at_, rfl, _, _, rfl, _, _, rfl, _, _, rfl, rfl, ?_⟩
    have nof : (t = false → winB false z.R = false) → t = false → ∀ y ∈ zs.take (i + 1), winB false y.R = false := fun hn' ht y hy => by
      rw [take_next hx] at hy
      rcases List.mem_append.mp hy with hy | hy
      · exact hno ht y hy
      · rw [List.mem_singleton.mp hy]; exact hn' ht
    have rest : (t = false → winB false z.R = false) → tIfS (tTest (tOp rEq (tOp (rIxT K) (tVar 4) (tC (.int 0))) (tC (.str "weaver"))))
        (tDrop (tBM K "list" rAppend (tVar 2) (tCons (tTup (tCons (tVar 3) (tCons (tOp (rIxT K) (tVar 4) (tC (.int 1))) tNil))) tNil))) tNext
        { nx := fun σ H' => Same H H' ∧ (∃ v3 v4 v5, σ = [some (.ref l), some (.str (hn t)), some (.ref bg), v3, v4, v5]) ∧
      ∃ gs : List Addr, H' bg = some (.lst (gs.map V.ref)) ∧ gs.length = (zs.take (i + 1)).countP (fun z => winB true z.R) ∧ (∀ g ∈ gs, ∃ u v, SqT K H' g [u, v]) ∧ (t = false → ∀ z ∈ zs.take (i + 1), winB false z.R = false), rt := Q }
        [some (.ref l), some (.str (hn t)), some (.ref bg), some (.ref z.p), some (.ref z.e), some (.ref z.l)] H' := by
      intro hn'
      refine ⟨_, rfl, z.e, _, 0, _, rfl, rfl, hpe, at_of (j := 0) rfl rfl, rfl, _, rfl, ?_⟩
      refine ite_hn _ true (fun c2 => ?_) (fun c2 => ?_)
      · refine ⟨_, rfl, .inl ⟨rfl, _, SqL.of hgs⟩, _, rfl, _, rfl, z.e, _, 1, _, rfl, rfl, hpe, at_of (j := 1) rfl rfl, big _ (by simp), fun g hg0 => ?_⟩
        have hgs' : upd H' g (.tup [.ref z.p, .ref pe]) bg = some (.lst (gs.map V.ref)) := by rw [upd_ne (ne_of_none hgs hg0)]; exact hgs
        have hgl : gs.length ≤ 1000 := by
          rw [hcnt]
          exact Nat.le_trans List.countP_le_length (Nat.le_trans (List.length_take_le' _ _) hlen)
        refine ⟨bg, _, _, rfl, rfl, hgs', by rw [List.length_map]; exact bigl _ (by omega), same_put (same_put e (e.free hg0) _) hbg _, ⟨_, _, _, rfl⟩, gs ++ [g], ?_, ?_, ?_, nof hn'⟩
        · rw [upd_same, List.map_append]
          rfl
        · rw [c1, List.length_append, hcnt, c2]
          rfl
        · intro y hy
          rcases List.mem_append.mp hy with hy | hy
          · obtain ⟨u, v, h⟩ := hg y hy
            exact ⟨u, v, sqT_lst hgs' (sqT_upd hg0 _ h)⟩
          · rw [List.mem_singleton.mp hy]
            exact ⟨_, _, sqT_lst hgs' (SqT.of upd_same)⟩
      · refine ⟨e, ⟨_, _, _, rfl⟩, gs, hgs, ?_, hg, nof hn'⟩
        rw [c1, hcnt]
        cases ew : winB true z.R with
        | true => exact absurd ew c2
        | false => simp
    refine ⟨_, rfl, rfl, _, rfl, ?_⟩
    refine ite_hn t false (fun e1 => ?_) (fun e1 => ?_)
    · refine ⟨_, rfl, z.l, _, 0, _, rfl, rfl, hpl, at_of (j := 0) rfl rfl, rfl, _, rfl, ?_⟩
      refine ite_hn _ true (fun c2 => ?_) (fun c2 => ?_)
      · exact ⟨_, rfl, _, rfl, z.l, _, 1, _, rfl, rfl, hpl, at_of (j := 1) rfl rfl, big _ (by simp), fun r hr' => q r _ (same_put e (e.free hr') _)⟩
      · exact rest fun _ => by
          cases ew : winB false z.R with
          | true => exact absurd ew c2
          | false => rfl
    · exact iteF (rest fun z => absurd z e1)
  · rintro σ H' ⟨e, ⟨v3, v4, v5, rfl⟩, gs, hgs, hcnt, hg, hno⟩
    rw [take_all] at hcnt hno
    unfold byP at hby
    rw [outs_c1, outs_c2] at hby
    refine ⟨_, rfl, rfl, _, rfl, ?_⟩
    refine ite_hn t true (fun e1 => ?_) (fun e1 => ?_)
    · rw [e1, if_pos rfl] at hby
      have h0 := of_decide_eq_true hby
      cases gs with
      | nil => rw [List.length_nil] at hcnt; omega
      | cons g gs =>
        obtain ⟨u, v, hgg⟩ := hg g (List.mem_cons_self ..)
        exact ⟨_, rfl, bg, _, 0, _, rfl, rfl, SqL.of hgs, at_of (j := 0) rfl rfl, g, _, 0, _, rfl, rfl, hgg, at_of (j := 0) rfl rfl, _, rfl, bg, _, 0, _, rfl, rfl, SqL.of hgs, at_of (j := 0) rfl rfl, g, _, 1, _, rfl, rfl, hgg, at_of (j := 1) rfl rfl, big _ (by simp), fun r hr' => q r _ (same_put e (e.free hr') _)⟩
    · have ht : t = false := by cases t <;> simp_all
      rw [ht, if_neg Bool.false_ne_true] at hby
      have hz : (zs.countP fun z => winB false z.R) = 0 := List.countP_eq_zero.mpr fun z hz => by rw [hno ht z hz]; decide
      rw [hz] at hby
      have h0 : 1 < zs.countP fun z => winB true z.R := by simpa using hby
      match gs, hcnt, hg, hgs with
      | [], hcnt, _, _ => rw [List.length_nil] at hcnt; omega
      | [_], hcnt, _, _ => rw [List.length_singleton] at hcnt; omega
      | g :: g2 :: gs, hcnt, hg, hgs =>
        obtain ⟨u, v, hgg⟩ := hg g (List.mem_cons_self ..)
        obtain ⟨u2, v2, hgg2⟩ := hg g2 (List.mem_cons_of_mem _ (List.mem_cons_self ..))
        exact ⟨_, rfl, bg, _, 0, _, rfl, rfl, SqL.of hgs, at_of (j := 0) rfl rfl, g, _, 0, _, rfl, rfl, hgg, at_of (j := 0) rfl rfl, _, rfl, bg, _, 0, _, rfl, rfl, SqL.of hgs, at_of (j := 0) rfl rfl, g, _, 1, _, rfl, rfl, hgg, at_of (j := 1) rfl rfl,
          _, rfl, bg, _, 1, _, rfl, rfl, SqL.of hgs, at_of (j := 1) rfl rfl, g2, _, 0, _, rfl, rfl, hgg2, at_of (j := 0) rfl rfl, _, rfl, bg, _, 1, _, rfl, rfl, SqL.of hgs, at_of (j := 1) rfl rfl, g2, _, 1, _, rfl, rfl, hgg2, at_of (j := 1) rfl rfl,
          big _ (by simp), fun r hr' => q r _ (same_put e (e.free hr') _)⟩
end
end Ml
set_option maxHeartbeats 4000000
namespace Ml
open PySem PySem.Spec PyProof.Rows L2
section
variable {P : Program} {w : World} {K : PySem.W.Frag} {mg : Str → Option Value} {base : Heap}
/-! ### moth_by_pieces -/
theorem sc_moth_by_pieces : FnScope ["tried_pieces", "turn", "reply", "rows", "piece", "early", "late"] ["tried_pieces", "turn"] (defScope s_moth_by_pieces) := ⟨rfl, rfl, rfl, by decide +kernel, rfl, by decide +kernel, by decide +kernel⟩
theorem moth_no {t : Bool} {zs : List Tri} (h : byP t (outs (zs.map fun z => z.R)) = false) : ∀ z ∈ zs, winB true z.R = true → winB false z.R = false := by
  unfold byP at h
  rw [outs_c1, outs_c2] at h
  intro z hz hw
  cases t with
  | true =>
    rw [if_pos rfl] at h
    have h0 : ¬ 0 < zs.countP fun z => winB true z.R := of_decide_eq_false h
    exact absurd (List.countP_pos_iff.mpr ⟨z, hz, hw⟩) h0
  | false =>
    rw [if_neg Bool.false_ne_true, Bool.or_eq_false_iff] at h
    have h0 : ¬ 0 < zs.countP fun z => winB false z.R := of_decide_eq_false h.1
    cases e : winB false z.R with
    | false => rfl
    | true => exact absurd (List.countP_pos_iff.mpr ⟨z, hz, e⟩) h0
theorem ok_moth_by_pieces (T : Has K mg "moth_by_pieces" s_moth_by_pieces []) (fr : Fre mg) (C1 : Cal P w K mg base 1 "bitten" ["rest", "hole"] (sp_bitten K)) : Cal P w K mg base 2 "moth_by_pieces" ["tried_pieces", "turn"] (sp_by K false) := by
  refine T.cal sc_moth_by_pieces (fun _ _ _ _ _ _ us hl => match us, hl with | [_, _], _ => rfl) (fun vs H Q E h => ?_) (fun f cdv A outer s H vs Q E hr h => ?_)
  · obtain ⟨l, t, zs, rfl, _⟩ := h
    rfl
  obtain ⟨l, t, zs, rfl, h1, h2, hlen, hby, q⟩ := h
  have nd := sc_moth_by_pieces.nd
  have hno := moth_no hby
  refine ⟨_, pss_cons (ps_set (i := 2) nd rfl (Or.inl rfl) pe_non)
    (pss_cons (ps_set (i := 3) nd rfl (Or.inl rfl) (pe_lst pa_nil))
    (pss_cons (ps_for PassesOwn.never rfl (pi_list (pv 0)) (pg_tup rfl (pgs_cons (pg_name (i := 4) nd rfl (Or.inl rfl)) (pgs_cons (pg_name (i := 5) nd rfl (Or.inl rfl)) (pgs_cons (pg_name (i := 6) nd rfl (Or.inl rfl)) pgs_nil))))
      (pss_one (ps_if (pt_cmpR op_eq (pe_ix ix_tup (pv 5) pe_int (fun _ _ => rfl)) pe_str (nomark _))
        (pss_one (ps_expr (pe_bm PySem.F.plainAttrs_list PySem.F.slot_list_append PySem.F.type_list_append mt_append (pv 3) (pa_cons (pe_tup (pa_cons (pv 4) (pa_cons (pe_ix ix_tup (pv 5) pe_int (fun _ _ => rfl)) pa_nil))) pa_nil))))
        (pss_cons (ps_set (i := 2) nd rfl (Or.inl rfl) (pe_ix ix_tup (pe_ix ix_tup (pv 6) pe_int (fun _ _ => rfl)) pe_int (fun _ _ => rfl)))
        (pss_one (ps_expr (pe_bm PySem.F.plainAttrs_list PySem.F.slot_list_append PySem.F.type_list_append mt_append (pv 3) (pa_cons (pe_tup (pa_cons (pe_cal C1 hr rfl pass0 (pa_cons (pv 4) (pa_cons (pv 2) pa_nil))) (pa_cons (pe_ix ix_tup (pe_ix ix_tup (pv 6) pe_int (fun _ _ => rfl)) pe_int (fun _ _ => rfl)) pa_nil))) pa_nil))))))))
    (pss_cons (ps_if (pt_cmpR op_eq (pv 1) pe_str (nomark _))
      (pss_one (ps_ret (pe_tup (pa_cons pe_str (pa_cons (pv 2) (pa_cons (pe_tup (pa_cons pe_str (pa_cons (pe_callTy call_tuple_of (by rfl) fr.tuple (by decide +kernel) (pa_cons (pv 3) pa_nil)) pa_nil))) pa_nil)))))) pss_nil)
    (pss_one (ps_ret (pe_tup (pa_cons pe_str (pa_cons (pe_callTy call_tuple_of (by rfl) fr.tuple (by decide +kernel) (pa_cons (pv 3) pa_nil)) pa_nil)))))))), ?_⟩
  refine ⟨Nat.zero_le _, fun rw hrw => ?_⟩
  have eA : Same H (upd H rw (.lst [])) := same_new hrw _
  refine ⟨_, rfl, l, rfl, ⟨_, eA.seq h1⟩, for_mapL (f := fun z : Tri => V.ref z.q) (l := zs) (fun i σ H' => Same H H' ∧ (∃ v2 v4 v5 v6, σ = [some (.ref l), some (.str (hn t)), some v2, some (.ref rw), v4, v5, v6]) ∧ ∃ xs : List V, H' rw = some (.lst xs) ∧ xs.length ≤ i)
    ⟨eA, ⟨_, _, _, _, rfl⟩, [], upd_same, Nat.le_refl _⟩ (fun i σ H' ⟨e, _⟩ => e.seq h1) ?_ ?_⟩
  · rintro i z σ H' hx ⟨e, ⟨v2, v4, v5, v6, rfl⟩, xs, hxs, hcnt⟩
    have hz := (h2 z (ix_mem hx)).same e
    have hil := ix_lt hx
    obtain ⟨pe, hpe, _, _⟩ := hz.early
    obtain ⟨pl, hpl, _, hbite⟩ := hz.late
    refine ⟨z.q, _, rfl, hz.at_, rfl, _, _, rfl, _, _, rfl, _, _, rfl, rfl, ?_⟩
    have fin : ∀ (H2 : Hp) (v2 : V) (g : Addr), Same H' H2 → ∃ l' xs' y', V.ref rw = V.ref l' ∧ [V.ref g] = [y'] ∧ H2 l' = some (.lst xs') ∧ xs'.length < sizeLine ∧ (Same H (upd H2 l' (.lst (xs' ++ [y']))) ∧ (∃ v2' v4 v5 v6, [some (V.ref l), some (.str (hn t)), some v2, some (.ref rw), some (.ref z.p), some (.ref z.e), some (.ref z.l)] = [some (.ref l), some (.str (hn t)), some v2', some (.ref rw), v4, v5, v6]) ∧ ∃ xs : List V, upd H2 l' (.lst (xs' ++ [y'])) rw = some (.lst xs) ∧ xs.length ≤ i + 1) := by
      intro H2 v2 g e2
      refine ⟨rw, xs, _, rfl, rfl, e2 _ _ hxs, bigl _ (by omega), same_put (e.trans e2) hrw _, ⟨_, _, _, _, rfl⟩, _, upd_same, ?_⟩
      rw [List.length_append, List.length_singleton]
      omega
    refine ⟨_, rfl, z.e, _, 0, _, rfl, rfl, hpe, at_of (j := 0) rfl rfl, rfl, _, rfl, ?_⟩
    refine ite_hn _ false (fun c2 => ?_) (fun c2 => ?_)
    · refine ⟨_, rfl, .inl ⟨rfl, _, SqL.of hxs⟩, _, rfl, _, rfl, z.e, _, 1, _, rfl, rfl, hpe, at_of (j := 1) rfl rfl, big _ (by simp), fun g hg0 => ?_⟩
      exact fin _ v2 g (same_new hg0 _)
    · have hw : winB true z.R = true := by
        cases ew : winB true z.R with
        | true => rfl
        | false => exact absurd ew c2
      obtain ⟨x, u, hb⟩ := hbite rfl hz.ne (hno z (ix_mem hx) hw)
      refine ⟨_, rfl, z.l, _, 1, _, rfl, rfl, hpl, at_of (j := 1) rfl rfl, pl, _, 1, _, rfl, rfl, hb, at_of (j := 1) rfl rfl, ?_⟩
      refine ⟨_, rfl, .inl ⟨rfl, _, SqL.of hxs⟩, _, rfl, _, rfl, z.p, z.R, x, rfl, hz.rs, hz.len, fun p1 H1 e1 hp1 => ?_⟩
      refine ⟨_, rfl, z.l, _, 1, _, rfl, rfl, sqT_same e1 hpl, at_of (j := 1) rfl rfl, pl, _, 2, _, rfl, rfl, sqT_same e1 hb, at_of (j := 2) rfl rfl, big _ (by simp), fun g hg0 => ?_⟩
      exact fin _ (.int x) g (same_put e1 (e1.free hg0) _)
  · rintro σ H' ⟨e, ⟨v2, v4, v5, v6, rfl⟩, xs, hxs, hcnt⟩
    refine ⟨_, rfl, rfl, _, rfl, ?_⟩
    refine ite_hn t false (fun e1 => ?_) (fun e1 => ?_)
    · refine ⟨_, rfl, _, rfl, rw, _, rfl, .inl ⟨SqL.of hxs, fun q1 hq1 => ⟨big _ (by simp), fun q2 hq2 => ⟨big _ (by simp), fun q3 hq3 => ?_⟩⟩⟩⟩
      have s1 := same_put e (e.free hq1) (.tup xs)
      have s2 := same_put s1 (s1.free hq2) (.tup [.str "parts", .ref q1])
      exact q q3 _ (same_put s2 (s2.free hq3) _)
    · refine ⟨_, rfl, rw, _, rfl, .inl ⟨SqL.of hxs, fun q1 hq1 => ⟨big _ (by simp), fun q2 hq2 => ?_⟩⟩⟩
      have s1 := same_put e (e.free hq1) (.tup xs)
      exact q q2 _ (same_put s1 (s1.free hq2) _)
/-! ### small_settled -/
/-- what settling a rest asks of it -/
structure Good (R : List (List Int)) : Prop where
  sm : Sm R
  can : Can R
  few : Few R
def sp_small_settled (K : PySem.W.Frag) : Sp := fun vs H Q _ => ∃ (a : Addr) (R : List (List Int)) (t : Bool), vs = [.ref a, .str (hn t)] ∧ RsAt K H a R ∧ Good R ∧ [] ∉ R ∧ ∀ r p H', Same H H' → H' r = some (.tup [.str (hn (winB t R)), .ref p]) → Q (.ref r) H'
theorem sc_small_settled : FnScope ["rest", "turn", "tried_pieces", "piece", "hand", "row"] ["rest", "turn"] (defScope s_small_settled) := ⟨rfl, rfl, rfl, by decide +kernel, rfl, by decide +kernel, by decide +kernel⟩
theorem ok_small_settled (T : Has K mg "small_settled" s_small_settled []) (C1 : Cal P w K mg base 3 "thinned" ["rest"] (sp_thinned K)) (C2 : Cal P w K mg base 3 "pieces" ["rest"] (sp_pieces K)) (C3 : Cal P w K mg base 19 "tried" ["rest", "turn"] (sp_tried K))
    (C4 : Cal P w K mg base 1 "by_pieces" ["tellings", "turn"] (sp_by_pieces K)) (C5 : Cal P w K mg base 1 "weaver_by_pieces" ["tried_pieces", "turn"] (sp_by K true)) (C6 : Cal P w K mg base 2 "moth_by_pieces" ["tried_pieces", "turn"] (sp_by K false)) :
    Cal P w K mg base 20 "small_settled" ["rest", "turn"] (sp_small_settled K) := by
  refine T.cal sc_small_settled (fun _ _ _ _ _ _ us hl => match us, hl with | [_, _], _ => rfl) (fun vs H Q E h => ?_) (fun f cdv A outer s H vs Q E hr h => ?_)
  · obtain ⟨a, R, t, rfl, _⟩ := h
    rfl
  obtain ⟨a, R, t, rfl, h1, hgood, h0, q⟩ := h
  have nd := sc_small_settled.nd
  have hr3 : Room 3 _ := hr.mono (by decide)
  have hr2 : Room 2 _ := hr.mono (by decide)
  have hr1 : Room 1 _ := hr.mono (by decide)
  refine ⟨_, pss_cons (ps_set (i := 2) nd rfl (Or.inl rfl) (pe_lst pa_nil))
    (pss_cons (ps_for PassesOwn.never rfl (pi_list (pe_cal C2 hr3 rfl pass0 (pa_cons (pe_cal C1 hr3 rfl pass0 (pa_cons (pv 0) pa_nil)) pa_nil))) (pg_name (i := 3) nd rfl (Or.inl rfl))
      (pss_one (ps_expr (pe_bm PySem.F.plainAttrs_list PySem.F.slot_list_append PySem.F.type_list_append mt_append (pv 2) (pa_cons (pe_tup (pa_cons (pv 3) (pa_cons (pe_cal C3 hr rfl pass0 (pa_cons (pv 3) (pa_cons pe_str pa_nil))) (pa_cons (pe_cal C3 hr rfl pass0 (pa_cons (pv 3) (pa_cons pe_str pa_nil))) pa_nil)))) pa_nil)))))
    (pss_cons (ps_set (i := 4) nd rfl (Or.inl rfl) (pe_cal C4 hr1 rfl pass0 (pa_cons
      (pe_lc (own := [("row", 5)]) (g := gName 5) (tt := tYes) rfl nd (pi_list (pv 2)) (blkOk_by (N := ["rest", "turn", "tried_pieces", "piece", "hand", "row"]) (sc := defScope s_small_settled) (by decide +kernel))
        (fun _ _ _ _ _ => pg_name (i := 5) nd rfl (Or.inl rfl)) (fun _ _ _ _ _ => pts_nil)
        (fun _ _ _ _ _ => pe_tup (pa_cons (pe_ix (ix_tupK (K := K) rfl) (pe_ix (ix_tupK (K := K) rfl) (pv 5) pe_int (fun _ _ => rfl)) pe_int (fun _ _ => rfl)) (pa_cons (pe_ix (ix_tupK (K := K) rfl) (pe_ix (ix_tupK (K := K) rfl) (pv 5) pe_int (fun _ _ => rfl)) pe_int (fun _ _ => rfl)) pa_nil))))
      (pa_cons (pv 1) pa_nil))))
    (pss_cons (ps_if (pt_cmpR op_eq (pv 4) pe_str (nomark _)) (pss_one (ps_ret (pe_tup (pa_cons (pv 4) (pa_cons (pe_cal C5 hr1 rfl pass0 (pa_cons (pv 2) (pa_cons (pv 1) pa_nil))) pa_nil))))) pss_nil)
    (pss_one (ps_ret (pe_tup (pa_cons (pv 4) (pa_cons (pe_cal C6 hr2 rfl pass0 (pa_cons (pv 2) (pa_cons (pv 1) pa_nil))) pa_nil)))))))), ?_⟩
  refine ⟨Nat.zero_le _, fun tp htp => ?_⟩
  have eA : Same H (upd H tp (.lst [])) := same_new htp _
  refine ⟨_, rfl, a, R, rfl, h1.same eA, Nat.le_trans hgood.sm.len (by decide), fun b T2 H1 e1 hT hth => ?_⟩
  have hsT := hgood.sm.thin hth
  refine ⟨b, T2, rfl, hT, Nat.le_trans hsT.len (by decide), Nat.le_trans hsT.mu (by decide), hth.whole h0, fun p Ps H2 e2 hp0 hp hPs hpcs => ⟨p, rfl, ⟨_, SqL.of hp⟩, ?_⟩⟩
  have e12 : Same H H2 := (eA.trans e1).trans e2
  have hcov := hpcs.cov (hgood.few.sub hth.sub)
  have hpsm := hpcs.sm hsT
  have hcount : Ps.length ≤ 60 := by
    have := hpcs.count
    rw [List.length_map] at this
    exact Nat.le_trans this hsT.len
  have npt : p ≠ tp := fun e => by rw [e, (e1 _ _ upd_same : H1 tp = some (.lst []))] at hp0; cases hp0
  -- the pieces tried
  refine for_mapL (f := fun c : Addr × List (List Int) => V.ref c.1) (l := Ps) (fun i σ H' => Same H H' ∧ (∃ v, σ = [some (.ref a), some (.str (hn t)), some (.ref tp), v, none, none]) ∧ H' p = some (.lst Ps.refs) ∧ (∀ c ∈ Ps, RsAt K H' c.1 c.2) ∧
      ∃ zs : List Tri, H' tp = some (.lst (zs.map fun z => V.ref z.q)) ∧ (∀ z ∈ zs, TriAt K H' z) ∧ (zs.map fun z => z.R) = (Ps.take i).map fun c => c.2)
    ⟨e12, ⟨_, rfl⟩, hp, hPs, [], e2 _ _ (e1 _ _ upd_same), fun z hz => by (cases hz), rfl⟩ (fun i σ H' ⟨_, _, e, _⟩ => SqL.of e) ?_ ?_
  · rintro i c σ H' hx ⟨e, ⟨v, rfl⟩, hp', hPs', zs, htp', hzs, hrs⟩
    have hm : c.2 ∈ Ps.rests := List.mem_map.mpr ⟨c, ix_mem hx, rfl⟩
    obtain ⟨S, hS, hc⟩ := hcov c.2 hm
    have hcan : Can c.2 := fun s hs => hgood.can s (hth.sub s (hpcs.mem c.2 hm s hs))
    have hne := hpcs.ne c.2 hm
    have hrs0 := hPs' c (ix_mem hx)
    have hzl : zs.length ≤ 60 := by
      have := congrArg List.length hrs
      rw [List.length_map, List.length_map] at this
      rw [this]
      exact Nat.le_trans (List.length_take_le' _ _) hcount
    refine ⟨_, rfl, .inl ⟨rfl, _, SqL.of htp'⟩, _, rfl, _, rfl, c.1, c.2, true, S, rfl, hrs0, hpsm _ hm, hcan, hne, hc, hS, fun r1 H3 e3 o3 => ?_⟩
    refine ⟨_, rfl, c.1, c.2, false, S, rfl, hrs0.same e3, hpsm _ hm, hcan, hne, hc, hS, fun r2 H4 e4 o4 => ⟨big _ (by simp), fun g hg => ?_⟩⟩
    have s5 : Same H' (upd H4 g (.tup [.ref c.1, .ref r1, .ref r2])) := same_put (e3.trans e4) ((e3.trans e4).free hg) _
    have s45 : Same H4 (upd H4 g (.tup [.ref c.1, .ref r1, .ref r2])) := same_new hg _
    have htp5 := s5 _ _ htp'
    have lo := Loose.lst htp5
    refine ⟨tp, _, _, rfl, rfl, htp5, by rw [List.length_map]; exact bigl _ (by omega), same_put (e.trans s5) htp _, ⟨_, rfl⟩, ?_, fun d hd => ((hPs' d hd).same s5).but But.upd lo, zs ++ [⟨g, c.1, r1, r2, c.2⟩], ?_, ?_, ?_⟩
    · rw [upd_ne npt]
      exact s5 _ _ hp'
    · rw [upd_same, List.map_append]
      rfl
    · intro z hz
      rcases List.mem_append.mp hz with hz | hz
      · exact ((hzs z hz).same s5).but But.upd lo
      · rw [List.mem_singleton.mp hz]
        exact ⟨sqT_lst htp5 (SqT.of upd_same), (hrs0.same s5).but But.upd lo, ((o3.same e4).same s45).but But.upd lo, (o4.same s45).but But.upd lo, hne, Nat.le_trans (hpsm _ hm).len (by decide)⟩
    · rw [take_next hx, List.map_append, List.map_append, hrs]
      rfl
  · rintro σ H' ⟨e, ⟨v, rfl⟩, hp', hPs', zs, htp', hzs, hrs⟩
    rw [take_all] at hrs
    have hzl : zs.length ≤ 60 := by
      have := congrArg List.length hrs
      rw [List.length_map, List.length_map] at this
      rw [this]
      exact hcount
    have ew : byP t (outs (zs.map fun z => z.R)) = winB t R := by
      rw [hrs, byP_win hpcs.ap]
      exact (winB_eq (Gm.ww_perm hpcs.perm)).trans (winB_eq (hth.ww hgood.can t))
    -- hand = by_pieces(..)
    refine ⟨_, rfl, tp, rfl, ⟨_, SqL.of htp'⟩, fun D hD => lc_mapL (f := fun z : Tri => V.ref z.q) (l := zs) (fun i H'' => Same H' H'' ∧ ∃ ts : List Tel, H'' D = some (.lst (ts.map fun q => V.ref q.1)) ∧ (∀ q ∈ ts, SqT K H'' q.1 [.str (hn q.2.1), .str (hn q.2.2)]) ∧ (ts.map fun q => q.2) = outs ((zs.take i).map fun z => z.R) ∧ ts.length = i)
      ⟨same_new hD _, [], upd_same, fun q hq => by (cases hq), rfl, rfl⟩ (fun i H'' ⟨e2, _⟩ => SqL.of (e2 _ _ htp')) ?_ ?_⟩
    · rintro i z H'' hx ⟨e2, ts, hts, htq, hto, htl⟩
      have hz := (hzs z (ix_mem hx)).same e2
      have hil := ix_lt hx
      obtain ⟨pe, hpe, _, _⟩ := hz.early
      obtain ⟨pl, hpl, _, _⟩ := hz.late
      refine ⟨rfl, _, rfl, z.q, _, 1, _, rfl, rfl, hz.at_, at_of (j := 1) rfl rfl, z.e, _, 0, _, rfl, rfl, hpe, at_of (j := 0) rfl rfl, _, rfl, z.q, _, 2, _, rfl, rfl, hz.at_, at_of (j := 2) rfl rfl, z.l, _, 0, _, rfl, rfl, hpl, at_of (j := 0) rfl rfl, big _ (by simp), fun g hg => ?_⟩
      have hts' : upd H'' g (.tup [.str (hn (winB true z.R)), .str (hn (winB false z.R))]) D = some (.lst (ts.map fun q => V.ref q.1)) := by rw [upd_ne (ne_of_none hts hg)]; exact hts
      refine ⟨_, hts', by rw [List.length_map]; exact bigl _ (by omega), same_put (same_put e2 (e2.free hg) _) hD _, ts ++ [(g, winB true z.R, winB false z.R)], ?_, ?_, ?_, ?_⟩
      · rw [upd_same, List.map_append]
        rfl
      · intro y hy
        rcases List.mem_append.mp hy with hy | hy
        · exact sqT_lst hts' (sqT_upd hg _ (htq y hy))
        · rw [List.mem_singleton.mp hy]
          exact sqT_lst hts' (SqT.of upd_same)
      · rw [take_next hx]
        unfold outs at hto ⊢
        rw [List.map_append, List.map_append, List.map_append, hto]
        rfl
      · rw [List.length_append, List.length_singleton, htl]
    · rintro H3 ⟨e3, ts, hts, htq, hto, htl⟩
      rw [take_all] at hto
      have e13 := e.trans e3
      refine ⟨_, rfl, D, t, ts, rfl, SqL.of hts, htq, ?_⟩
      rw [hto]
      refine ⟨_, rfl, rfl, _, rfl, ?_⟩
      refine ite_hn _ true (fun c1 => ?_) (fun c1 => ?_)
      · refine ⟨_, rfl, _, rfl, _, rfl, tp, t, zs, rfl, SqL.of (e3 _ _ htp'), fun z hz => (hzs z hz).same e3, by omega, c1, fun r H4 e4 => ⟨big _ (by simp), fun g hg => ?_⟩⟩
        refine q g r _ ((e13.trans e4).trans (same_new hg _)) ?_
        rw [upd_same, ew]
      · have c2 : byP t (outs (zs.map fun z => z.R)) = false := by
          cases eb : byP t (outs (zs.map fun z => z.R)) with
          | true => exact absurd eb c1
          | false => rfl
        refine ⟨_, rfl, _, rfl, _, rfl, tp, t, zs, rfl, SqL.of (e3 _ _ htp'), fun z hz => (hzs z hz).same e3, by omega, c2, fun r H4 e4 => ⟨big _ (by simp), fun g hg => ?_⟩⟩
        refine q g r _ ((e13.trans e4).trans (same_new hg _)) ?_
        rw [upd_same, ew]
/-! ### settled -/
def sp_settled (K : PySem.W.Frag) : Sp := fun vs H Q _ => ∃ (a : Addr) (R : List (List Int)) (t : Bool), vs = [.ref a, .str (hn t)] ∧ RsAt K H a R ∧ Good R ∧ ∀ r p H', Same H H' → H' r = some (.tup [.str (hn (winB t R)), .ref p]) → Q (.ref r) H'
/-- settled, called with or without its turn -/
structure CalS (P : Program) (w : World) (K : PySem.W.Frag) (mg : Str → Option Value) (base : Heap) (k : Nat) : Prop where
  ex : ∃ f fd ds, FnOk P w K mg base CX0 k f fd ["rest", "turn"] (sp_settled K) ∧ mg "settled" = some (.ref f) ∧ PySem.W.keepIn K (.ref f) = true ∧ Binds K fd ["rest", "turn"] [] ∧ Vals [V.str "weaver"] ds ∧ Binds K fd ["rest", "turn"] ds
theorem sc_settled : FnScope ["rest", "turn", "found", "paper"] ["rest", "turn"] (defScope s_settled) := ⟨rfl, rfl, rfl, by decide +kernel, rfl, by decide +kernel, by decide +kernel⟩
theorem ok_settled (T : Has K mg "settled" s_settled [V.str "weaver"]) (C1 : Cal P w K mg base 1 "is_whole" ["rest"] (sp_is_whole K)) (C2 : Cal P w K mg base 1 "is_bare" ["rest"] (sp_is_bare K)) (C3 : Cal P w K mg base 4 "is_small" ["rest"] (sp_is_small K))
    (C4 : Cal P w K mg base 20 "small_settled" ["rest", "turn"] (sp_small_settled K)) : CalS P w K mg base 21 := by
  obtain ⟨f, fd, F, m⟩ := T
  obtain ⟨ds, hv, hb⟩ := FunD.binds1 (ps := ["rest", "turn"]) F 1 0 (by simp) rfl fun T kV doc pm an cdv ct us its h1 h2 => match us, its, h1, h2 with
    | [_], [_], _, _ => ⟨_, rfl, rfl⟩
  obtain ⟨ds0, hv0, hb0⟩ := FunD.binds1 (ps := ["rest", "turn"]) F 2 1 (by simp) rfl fun T kV doc pm an cdv ct us its h1 h2 => match us, its, h1, h2 with
    | [_, _], [_], _, _ => ⟨_, rfl, rfl⟩
  have e0 : ds0 = [] := by
    cases hv0
    rfl
  subst e0
  refine ⟨f, fd, ds, F.okD sc_settled (fun vs H Q E h => ?_) (fun cdv A outer s H vs Q E hr h => ?_), m, F.kp, hb0, hv, hb⟩
  · obtain ⟨a, R, t, rfl, _⟩ := h
    rfl
  obtain ⟨a, R, t, rfl, h1, hgood, q⟩ := h
  have hr1 : Room 1 _ := hr.mono (by decide)
  have hr4 : Room 4 _ := hr.mono (by decide)
  refine ⟨_, pss_cons (ps_if (pt_val (pe_cal C1 hr1 rfl pass0 (pa_cons (pv 0) pa_nil))) (pss_one (ps_ret (pe_tup (pa_cons pe_str (pa_cons (pe_tup (pa_cons pe_str pa_nil)) pa_nil))))) pss_nil)
    (pss_cons (ps_if (pt_val (pe_cal C2 hr1 rfl pass0 (pa_cons (pv 0) pa_nil))) (pss_one (ps_ret (pe_tup (pa_cons pe_str (pa_cons (pe_tup (pa_cons pe_str pa_nil)) pa_nil))))) pss_nil)
    (pss_cons (ps_if (pt_val (pe_cal C3 hr4 rfl pass0 (pa_cons (pv 0) pa_nil))) (pss_one (ps_ret (pe_cal C4 hr rfl pass0 (pa_cons (pv 0) (pa_cons (pv 1) pa_nil))))) pss_nil) pss_never)), ?_⟩
  refine ⟨_, rfl, a, R, rfl, h1, fun H1 e1 => ⟨_, rfl, ?_⟩⟩
  refine iteDec (fun c1 => ?_) (fun c1 => ?_)
  · refine ⟨Nat.le_of_lt (bigl _ (by simp)), fun p hp => ⟨big _ (by simp), fun v hv => ?_⟩⟩
    have s1 := same_put e1 (e1.free hp) (.tup [.str "whole"])
    refine q v p _ (same_put s1 (s1.free hv) _) ?_
    rw [upd_same, winB_true.mpr (.whole c1)]
    rfl
  refine ⟨_, rfl, a, R, rfl, h1.same e1, _, rfl, ?_⟩
  refine iteDec (fun c2 => ?_) (fun c2 => ?_)
  · refine ⟨Nat.le_of_lt (bigl _ (by simp)), fun p hp => ⟨big _ (by simp), fun v hv => ?_⟩⟩
    have s1 := same_put e1 (e1.free hp) (.tup [.str "bare"])
    refine q v p _ (same_put s1 (s1.free hv) _) ?_
    have ew : winB t R = false := by
      rw [c2]
      exact winB_false.mpr Gm.ww_nil
    rw [upd_same, ew]
    rfl
  refine ⟨_, rfl, a, R, rfl, h1.same e1, hgood.sm, hgood.few, c1, fun H2 e2 => ⟨_, rfl, iteT ?_⟩⟩
  have e12 := e1.trans e2
  exact ⟨_, rfl, _, rfl, a, R, t, rfl, h1.same e12, hgood, c1, fun r p H' e hr' => q r p H' (e12.trans e) hr'⟩
end
end Ml
set_option maxHeartbeats 4000000
namespace Ml
open PySem PySem.Spec PyProof.Rows L2
theorem pi_tupK {X : Cx} {K : PySem.W.Frag} {tg l : Expr} {tl : TE} (h : X.K = K) (hl : PE X l tl) : PI X tg l (iTup K tl) := h ▸ pi_tup hl
theorem call_tuple_ofK {X : Cx} {K : PySem.W.Frag} (h : X.K = K) : CallR X (.type "tuple") (fun xs H Q => ∃ p ys, xs = [.ref p] ∧ ((SqL K H p ys ∧ ∀ l, H l = none → Q (.ref l) (upd H l (.tup ys))) ∨ (SqT K H p ys ∧ Q (.ref p) H))) := h ▸ call_tuple_of
section
variable {P : Program} {w : World} {K : PySem.W.Frag} {mg : Str → Option Value} {base : Heap}
/-! ### _law_cell, _law_mixed -/
def sp_law_cell (K : PySem.W.Frag) : Sp := fun vs H Q _ => ∃ (a : Addr) (ns : List Int) (j : Nat), vs = [.ref a, .int (j : Int)] ∧ SqL K H a (ns.map V.int) ∧ ∀ c : Int, Q (.int c) H
theorem sc_law_cell : FnScope ["script", "k"] ["script", "k"] (defScope s_law_cell) := ⟨rfl, rfl, rfl, by decide +kernel, rfl, by decide +kernel, by decide +kernel⟩
theorem ok_law_cell (T : Has K mg "_law_cell" s_law_cell []) (fr : Fre mg) : Cal P w K mg base 1 "_law_cell" ["script", "k"] (sp_law_cell K) := by
  refine T.cal sc_law_cell (fun _ _ _ _ _ _ us hl => match us, hl with | [_, _], _ => rfl) (fun vs H Q E h => ?_) (fun f cdv A outer s H vs Q E hr h => ?_)
  · obtain ⟨a, ns, j, rfl, _⟩ := h
    rfl
  obtain ⟨a, ns, j, rfl, h1, q⟩ := h
  refine ⟨_, pss_cons (ps_if (pt_cmpR op_lt (pv 1) (pe_callB call_len_seq rfl fr.len PySem.boot_len (pa_cons (pv 0) pa_nil)) (nomark _)) (pss_one (ps_ret (pe_ix ix_list (pv 0) (pv 1) (fun _ _ => rfl)))) pss_nil)
    (pss_one (ps_ret pe_int)), ?_⟩
  refine ⟨_, rfl, _, rfl, a, _, rfl, .inl h1, _, _, rfl, rfl, _, rfl, ?_⟩
  refine iteDec (fun c => ?_) (fun c => ?_)
  · rw [List.length_map] at c
    have hj : j < ns.length := by omega
    refine ⟨_, rfl, _, rfl, a, _, _, .int ns[j], rfl, rfl, h1, at_of (j := j) rfl ?_, q _⟩
    rw [List.getElem?_map, List.getElem?_eq_getElem hj]
    rfl
  · exact q 0
def sp_law_mixed : Sp := fun vs H Q _ => ∃ (c b : Int), vs = [.int c, .int b] ∧ ∀ r : Int, 0 ≤ r → Q (.int r) H
theorem sc_law_mixed : FnScope ["cell", "by"] ["cell", "by"] (defScope s_law_mixed) := ⟨rfl, rfl, rfl, by decide +kernel, rfl, by decide +kernel, by decide +kernel⟩
theorem ok_law_mixed (T : Has K mg "_law_mixed" s_law_mixed []) : Cal P w K mg base 1 "_law_mixed" ["cell", "by"] sp_law_mixed := by
  refine T.cal sc_law_mixed (fun _ _ _ _ _ _ us hl => match us, hl with | [_, _], _ => rfl) (fun vs H Q E h => ?_) (fun f cdv A outer s H vs Q E hr h => ?_)
  · obtain ⟨c, b, rfl, _⟩ := h
    rfl
  obtain ⟨c, b, rfl, q⟩ := h
  refine ⟨_, pss_one (ps_ret (pe_op op_mod (pe_op op_mul (pe_op op_mod (pv 0) pe_int) (pv 1)) pe_int)), ?_⟩
  have h1 := Int.emod_nonneg c (show (2305843009213693951 : Int) ≠ 0 by decide)
  have h2 := Int.emod_lt_of_pos c (show (0 : Int) < 2305843009213693951 by decide)
  refine ⟨_, rfl, _, _, rfl, rfl, (by show (0 : Int) < 2305843009213693951; decide), _, rfl, _, _, rfl, rfl, .inl ⟨by omega, by omega⟩, _, _, rfl, rfl, (by show (0 : Int) < 2305843009213693951; decide), q _ ?_⟩
  exact Int.emod_nonneg _ (by decide)
/-! ### _law_bitten, _law_knotted -/
theorem sc_law_bitten : FnScope ["rest", "hole", "strip"] ["rest", "hole"] (defScope s_law_bitten) := ⟨rfl, rfl, rfl, by decide +kernel, rfl, by decide +kernel, by decide +kernel⟩
theorem ok_law_bitten (T : Has K mg "_law_bitten" s_law_bitten []) (fr : Fre mg) : Cal P w K mg base 1 "_law_bitten" ["rest", "hole"] (sp_bitten K) := by
  refine T.cal sc_law_bitten (fun _ _ _ _ _ _ us hl => match us, hl with | [_, _], _ => rfl) (fun vs H Q E h => ?_) (fun f cdv A outer s H vs Q E hr h => ?_)
  · obtain ⟨a, s, x, rfl, _⟩ := h
    rfl
  obtain ⟨a, R, x, rfl, ⟨bs, rfl, h1, h2⟩, hlen, q⟩ := h
  rw [List.length_map] at hlen
  refine ⟨_, pss_one (ps_ret (pe_callTy call_tuple_of (by rfl) fr.tuple (by decide +kernel) (pa_cons
    (pe_lc (own := [("strip", 2)]) (g := gName 2) rfl sc_law_bitten.nd (pi_tup (pv 0)) (blkOk_by (N := ["rest", "hole", "strip"]) (sc := defScope s_law_bitten) (by decide +kernel))
      (fun _ _ _ _ _ => pg_name (i := 2) sc_law_bitten.nd rfl (Or.inl rfl)) (fun _ _ _ _ _ => pts_one (pt_cmpR (op_nin (K := K) rfl) (pv 1) (pv 2) (by rfl))) (fun _ _ _ _ _ => pv 2)) pa_nil))), ?_⟩
  refine ⟨_, rfl, a, rfl, ⟨_, h1⟩, fun D hD => lc_mapT (f := fun c : Addr × List Int => V.ref c.1) (l := bs) (fun i H' => Same H H' ∧ H' D = some (.lst (Lay.refs (biteL x (bs.take i))))) ⟨same_new hD _, upd_same⟩ (fun i H' ⟨e, _⟩ => sqT_same e h1) ?_ ?_⟩
  · rintro i c H' hc ⟨e, hl⟩
    have hil := ix_lt hc
    have hb := (h2.same e) c (ix_mem hc)
    refine ⟨rfl, _, rfl, _, rfl, c.1, _, rfl, .inr hb, rfl, flat_ints _, _, rfl, ?_⟩
    rw [inV_int]
    refine iteNot (fun c1 => ?_) (fun c1 => ?_)
    · refine ⟨_, rfl, _, hl, ?_, same_put e hD _, ?_⟩
      · have := List.length_filter_le (fun b : Addr × List Int => !decide (x ∈ b.2)) (bs.take i)
        rw [List.length_take] at this
        rw [List.length_map]
        exact bigl _ (by unfold biteL; omega)
      · rw [upd_same, biteL_take hc, if_neg c1]
        simp [Lay.refs]
    · refine ⟨e, ?_⟩
      rw [biteL_take hc, if_pos c1]
      exact hl
  · rintro H' ⟨e, hl⟩
    rw [take_all] at hl
    exact ⟨D, _, rfl, .inl ⟨SqL.of hl, bitten_end (f := fun _ => True) (a := a) h2 e hl q⟩⟩
theorem sc_law_knotted : FnScope ["rest", "hole", "strip", "at"] ["rest", "hole"] (defScope s_law_knotted) := ⟨rfl, rfl, rfl, by decide +kernel, rfl, by decide +kernel, by decide +kernel⟩
def lkScope : Scope := { kind := .function, names := [(".0", .local), ("strip", .local), ("tuple", .globalImplicit), ("hole", .free)], isGenerator := false, isCoroutine := false, more := [] }
theorem ok_law_knotted (T : Has K mg "_law_knotted" s_law_knotted []) (fr : Fre mg) : Cal P w K mg base 1 "_law_knotted" ["rest", "hole"] (sp_knotted K) := by
  refine T.cal sc_law_knotted (fun _ _ _ _ _ _ us hl => match us, hl with | [_, _], _ => rfl) (fun vs H Q E h => ?_) (fun f cdv A outer s H vs Q E hr h => ?_)
  · obtain ⟨a, s, x, rfl, _⟩ := h
    rfl
  obtain ⟨a, R, x, rfl, ⟨bs, rfl, h1, h2⟩, hlen, hlens, q⟩ := h
  rw [List.length_map] at hlen
  have nd := sc_law_knotted.nd
  refine ⟨_, pss_one (ps_ret (pe_callTy call_tuple_of (by rfl) fr.tuple (by decide +kernel) (pa_cons
    (pe_callB (cr_sortR (hu64 hr)) (by rfl) fr.sorted (by decide +kernel) (pa_cons
    (pe_lc (own := [("strip", 2)]) (g := gName 2) (tt := tYes) rfl nd (pi_tup (pv 0)) (blkOk_by (N := ["rest", "hole", "strip", "at"]) (sc := defScope s_law_knotted) (by decide +kernel))
      (fun _ _ _ _ _ => pg_name (i := 2) nd rfl (Or.inl rfl)) (fun _ _ _ _ _ => pts_nil)
      (fun _ _ _ _ _ => pe_callTy (call_tuple_ofK (K := K) rfl) (by rfl) fr.tuple (by decide +kernel) (pa_cons
        (pe_lc (own := [("at", 3)]) (g := gName 3) rfl nd (pi_tupK (K := K) rfl (pv 2)) (blkOk_by (N := ["rest", "hole", "strip", "at"]) (sc := relS lkScope (defScope s_law_knotted)) (by decide +kernel))
          (fun _ _ _ _ _ => pg_name (i := 3) nd rfl (Or.inl rfl)) (fun _ _ _ _ _ => pts_one (pt_cmpR op_ne (pv 3) (pv 1) (nomark _))) (fun _ _ _ _ _ => pv 3)) pa_nil))) pa_nil)) pa_nil))), ?_⟩
  refine ⟨_, rfl, a, rfl, ⟨_, h1⟩, fun D hD => lc_mapT (f := fun c : Addr × List Int => V.ref c.1) (l := bs) (fun i H' => Same H H' ∧ ∃ fs : Lay, H' D = some (.lst fs.refs) ∧ LaidAt K H' fs ∧ fs.rest = Gm.knot x (Lay.rest (bs.take i)) ∧ fs.length = i)
    ⟨same_new hD _, [], upd_same, (fun d hd => by cases hd), rfl, rfl⟩ (fun i H' ⟨e, _⟩ => sqT_same e h1) ?_ ?_⟩
  · rintro i c H' hc ⟨e, fs, hl, hfs, hrest, hfl⟩
    have hil := ix_lt hc
    have hb := (h2.same e) c (ix_mem hc)
    have hcl := hlens _ (List.mem_map.mpr ⟨c, ix_mem hc, rfl⟩)
    refine ⟨rfl, _, rfl, c.1, rfl, ⟨_, hb⟩, fun D2 hD2 => lc_mapT (f := V.int) (l := c.2) (fun i H2 => Same H' H2 ∧ H2 D2 = some (.lst ((Gm.wo x (c.2.take i)).map V.int))) ⟨same_new hD2 _, upd_same⟩ (fun i H2 ⟨e, _⟩ => sqT_same e hb) ?_ ?_⟩
    · rintro j y H2 hy ⟨e2, hl2⟩
      have hjl := ix_lt hy
      refine ⟨rfl, _, rfl, _, rfl, rfl, _, rfl, ?_⟩
      by_cases c1 : y = x
      · subst c1
        have e1 : (!decide (V.int y = V.int y)) = false := by simp
        rw [e1]
        refine iteF ⟨e2, ?_⟩
        rw [wo_take hy, if_pos rfl]
        exact hl2
      · have e1 : (!decide (V.int y = V.int x)) = true := by simp [c1]
        rw [e1]
        refine iteT ⟨_, rfl, _, hl2, ?_, same_put e2 hD2 _, ?_⟩
        · have := Gm.wo_len_le x (c.2.take j)
          rw [List.length_take] at this
          rw [List.length_map]
          exact bigl _ (by omega)
        · rw [upd_same, wo_take hy, if_neg c1, List.map_append]
          rfl
    · rintro H2 ⟨e2, hl2⟩
      rw [take_all] at hl2
      refine ⟨D2, _, rfl, .inl ⟨SqL.of hl2, fun p hp => ?_⟩⟩
      have e3 : Same H' (upd H2 p (.tup ((Gm.wo x c.2).map V.int))) := same_put e2 (e2.free hp) _
      have hD3 := e3 _ _ hl
      refine ⟨_, hD3, by rw [List.length_map]; exact bigl _ (by omega), ?_⟩
      refine ⟨same_put (e.trans e3) hD _, fs ++ [(p, Gm.wo x c.2)], ?_, ?_, ?_, ?_⟩
      · rw [upd_same]; simp [Lay.refs]
      · intro d hd
        rcases List.mem_append.mp hd with hd | hd
        · exact sqT_lst hD3 (sqT_same e3 (hfs d hd))
        · rw [List.mem_singleton.mp hd]; exact sqT_lst hD3 (SqT.of upd_same)
      · rw [take_next hc]
        show List.map _ _ = Gm.knot x (List.map _ _)
        rw [List.map_append, List.map_append]
        unfold Gm.knot
        rw [List.map_append]
        exact congrArg (· ++ [Gm.wo x c.2]) hrest
      · rw [List.length_append, List.length_singleton, hfl]
  · rintro H' ⟨e, fs, hl, hfs, hrest, hfl⟩
    rw [take_all] at hrest
    refine ⟨D, fs, rfl, SqL.of hl, hfs, fun cs p hperm hp => ?_⟩
    refine ⟨p, _, rfl, .inl ⟨SqL.of upd_same, fun r hr' => ?_⟩⟩
    have hp0 := e.free hp
    have e2 : Same H (upd H' p (.lst cs.refs)) := same_put e hp0 _
    have e3 := same_put e2 (e2.free hr') (.tup cs.refs)
    refine q r cs.rest _ e3 ⟨cs, rfl, SqT.of upd_same, fun d hd => ?_⟩ ?_
    · have hd' : d ∈ fs := hperm.mem_iff.mp hd
      exact sqT_upd hr' _ (sqT_upd hp _ (hfs d hd'))
    · have : cs.rest.Perm fs.rest := hperm.map _
      rw [hrest] at this
      exact this
/-! ### _law_holes -/
def sp_law_holes (K : PySem.W.Frag) : Sp := fun vs H Q _ => ∃ (a : Addr) (R : List (List Int)), vs = [.ref a] ∧ RsAt K H a R ∧ Gm.mu R ≤ 60 ∧ ∀ p (ns : List Int) H', Same H H' → H p = none → H' p = some (.lst (ns.map V.int)) → Q (.ref p) H'
theorem sc_law_holes : FnScope ["rest", "found", "strip", "hole"] ["rest"] (defScope s_law_holes) := ⟨rfl, rfl, rfl, by decide +kernel, rfl, by decide +kernel, by decide +kernel⟩
theorem ok_law_holes (T : Has K mg "_law_holes" s_law_holes []) (fr : Fre mg) : Cal P w K mg base 1 "_law_holes" ["rest"] (sp_law_holes K) := by
  refine T.cal sc_law_holes (fun _ _ _ _ _ _ us hl => match us, hl with | [_], _ => rfl) (fun vs H Q E h => ?_) (fun f cdv A outer s H vs Q E hr h => ?_)
  · obtain ⟨a, R, rfl, _⟩ := h
    rfl
  obtain ⟨a, R, rfl, ⟨bs, rfl, h1, h2⟩, hmu, q⟩ := h
  have nd := sc_law_holes.nd
  rw [← flat_mu] at hmu
  refine ⟨_, pss_cons (ps_set (i := 1) nd rfl (Or.inl rfl) (pe_lst pa_nil))
    (pss_cons (ps_for PassesOwn.never rfl (pi_tup (pv 0)) (pg_name (i := 2) nd rfl (Or.inl rfl))
      (pss_one (ps_for PassesOwn.never rfl (pi_tup (pv 2)) (pg_name (i := 3) nd rfl (Or.inl rfl))
        (pss_one (ps_if (pt_cmpR op_notIn_seq (pv 3) (pv 1) (by rfl)) (pss_one (ps_expr (pe_bm PySem.F.plainAttrs_list PySem.F.slot_list_append PySem.F.type_list_append mt_append (pv 1) (pa_cons (pv 3) pa_nil)))) pss_nil)))))
    (pss_one (ps_ret (pe_callB cr_sorted (by rfl) fr.sorted (by decide +kernel) (pa_cons (pv 1) pa_nil))))), ?_⟩
  refine ⟨Nat.zero_le _, fun l hl0 => ?_⟩
  refine ⟨_, rfl, a, rfl, ⟨_, sqT_upd hl0 _ h1⟩, for_mapT (f := fun c : Addr × List Int => V.ref c.1) (l := bs) (fun i σ H' => Same H H' ∧ (∃ v u, σ = [some (.ref a), some (.ref l), v, u]) ∧ ∃ xs : List Int, H' l = some (.lst (xs.map V.int)) ∧ xs.length ≤ (Lay.rest (bs.take i)).flatten.length)
    ⟨same_new hl0 _, ⟨_, _, rfl⟩, [], upd_same, Nat.zero_le _⟩ (fun i σ H' ⟨e, _⟩ => sqT_same e h1) ?_ ?_⟩
  · rintro i c σ H' hx ⟨e, ⟨v, u, rfl⟩, xs, hxs, hcnt⟩
    have hc := laid_ix (h2.same e) hx
    have hle := flat_le bs (i + 1)
    rw [flat_take hx, List.length_append] at hle
    refine ⟨_, rfl, c.1, rfl, ⟨_, hc⟩, for_mapT (f := V.int) (l := c.2) (fun j σ H'' => Same H H'' ∧ (∃ u, σ = [some (.ref a), some (.ref l), some (.ref c.1), u]) ∧ ∃ ys : List Int, H'' l = some (.lst (ys.map V.int)) ∧ ys.length ≤ xs.length + j)
      ⟨e, ⟨_, rfl⟩, xs, hxs, Nat.le_refl _⟩ (fun j σ H'' ⟨e, _⟩ => (h2.same e) c (ix_mem hx)) ?_ ?_⟩
    · rintro j y σ H'' hy ⟨e2, ⟨u, rfl⟩, ys, hys, hyl⟩
      have hjl := ix_lt hy
      refine ⟨_, rfl, _, rfl, l, _, rfl, .inl (SqL.of hys), rfl, flat_ints _, _, rfl, ?_⟩
      rw [inV_int]
      refine iteNot (fun c1 => ?_) (fun c1 => ?_)
      · refine ⟨_, rfl, .inl ⟨rfl, _, SqL.of hys⟩, _, rfl, l, _, _, rfl, rfl, hys, by rw [List.length_map]; exact bigl _ (by omega), same_put e2 hl0 _, ⟨_, rfl⟩, ys ++ [y], ?_, ?_⟩
        · rw [upd_same, List.map_append]
          rfl
        · rw [List.length_append, List.length_singleton]
          omega
      · exact ⟨e2, ⟨_, rfl⟩, ys, hys, by omega⟩
    · rintro σ H'' ⟨e2, ⟨u, rfl⟩, ys, hys, hyl⟩
      refine ⟨e2, ⟨_, _, rfl⟩, ys, hys, ?_⟩
      rw [flat_take hx, List.length_append]
      omega
  · rintro σ H' ⟨e, ⟨v, u, rfl⟩, xs, hxs, hcnt⟩
    rw [take_all] at hcnt
    refine ⟨_, rfl, l, xs, rfl, SqL.of hxs, by omega, fun ns p _ _ hp => ?_⟩
    exact q p ns _ (same_put e (e.free hp) _) (e.free hp) upd_same
/-! ### _law_block_strip -/
/-- a strip of one block of four holes -/
def InBlk (b : Int) (s : List Int) : Prop := Up s ∧ s.length ≤ 4 ∧ ∃ k : Int, ∀ x ∈ s, b + 4 * k ≤ x ∧ x < b + 4 * k + 4
def sp_law_block_strip (K : PySem.W.Frag) : Sp := fun vs H Q _ => ∃ (c b n : Int), vs = [.int c, .int b, .int 3, .int n] ∧ 0 ≤ n ∧ n ≤ 2 ∧ ∀ p s H', Same H H' → StAt K H' p s → InBlk b s → Q (.ref p) H'
theorem sc_law_block_strip : FnScope ["cell", "base", "blocks", "least", "left", "block", "size", "many", "strip", "k", "hole"] ["cell", "base", "blocks", "least"] (defScope s_law_block_strip) := ⟨rfl, rfl, rfl, by decide +kernel, rfl, by decide +kernel, by decide +kernel⟩
theorem pick4 {z w0 w1 w2 w3 : Int} (h0 : 0 ≤ z) (h3 : z < 3) : ∃ v, atI [V.int w0, V.int w1, V.int w2, V.int w3] z = some (.int v) ∧ ((z = 0 ∧ v = w0) ∨ (z = 1 ∧ v = w1) ∨ (z = 2 ∧ v = w2)) := by
  have : z = 0 ∨ z = 1 ∨ z = 2 := by omega
  rcases this with rfl | rfl | rfl
  · exact ⟨w0, rfl, .inl ⟨rfl, rfl⟩⟩
  · exact ⟨w1, rfl, .inr (.inl ⟨rfl, rfl⟩)⟩
  · exact ⟨w2, rfl, .inr (.inr ⟨rfl, rfl⟩)⟩
theorem up_of {ns : List Int} (h1 : ns.Nodup) (h2 : ns.Pairwise (· ≤ ·)) : Up ns := by
  have := List.Pairwise.and h2 h1
  exact this.imp fun {a b} ⟨x, y⟩ => by omega
theorem ok_law_block_strip (T : Has K mg "_law_block_strip" s_law_block_strip []) (fr : Fre mg) (C1 : Cal P w K mg base 1 "_law_mixed" ["cell", "by"] sp_law_mixed) : Cal P w K mg base 2 "_law_block_strip" ["cell", "base", "blocks", "least"] (sp_law_block_strip K) := by
  refine T.cal sc_law_block_strip (fun _ _ _ _ _ _ us hl => match us, hl with | [_, _, _, _], _ => rfl) (fun vs H Q E h => ?_) (fun f cdv A outer s H vs Q E hr h => ?_)
  · obtain ⟨c, b, n, rfl, _⟩ := h
    rfl
  obtain ⟨c, b, n, rfl, hn0, hn2, q⟩ := h
  have nd := sc_law_block_strip.nd
  refine ⟨_, pss_cons (ps_set (i := 4) nd rfl (Or.inl rfl) (pe_cal C1 hr rfl pass0 (pa_cons (pv 0) (pa_cons pe_int pa_nil))))
    (pss_cons (ps_set (i := 5) nd rfl (Or.inl rfl) (pe_op op_mod (pv 4) (pv 2)))
    (pss_cons (ps_set (i := 4) nd rfl (Or.inl rfl) (pe_op op_fdiv (pv 4) (pv 2)))
    (pss_cons (ps_set (i := 6) nd rfl (Or.inl rfl) (pe_op op_add (pv 3) (pe_op op_mod (pv 4) pe_int)))
    (pss_cons (ps_set (i := 4) nd rfl (Or.inl rfl) (pe_op op_fdiv (pv 4) pe_int))
    (pss_cons (ps_set (i := 7) nd rfl (Or.inl rfl) (pe_ix ix_list (pe_lst (pa_cons pe_int (pa_cons pe_int (pa_cons pe_int (pa_cons pe_int pa_nil))))) (pv 5) (fun _ _ => rfl)))
    (pss_cons (ps_set (i := 8) nd rfl (Or.inl rfl) (pe_lst pa_nil))
    (pss_cons (ps_for PassesOwn.never rfl (pi_range1 rfl fr.range (pa_cons (pv 6) pa_nil)) (pg_name (i := 9) nd rfl (Or.inl rfl))
      (pss_cons (ps_set (i := 10) nd rfl (Or.inl rfl) (pe_op op_add (pe_op op_add (pv 1) (pe_ix ix_list (pe_lst (pa_cons pe_int (pa_cons pe_int (pa_cons pe_int (pa_cons pe_int pa_nil))))) (pv 5) (fun _ _ => rfl))) (pe_op op_mod (pv 4) (pv 7))))
      (pss_cons (ps_if (pt_cmpR op_notIn_seq (pv 10) (pv 8) (by rfl)) (pss_one (ps_expr (pe_bm PySem.F.plainAttrs_list PySem.F.slot_list_append PySem.F.type_list_append mt_append (pv 8) (pa_cons (pv 10) pa_nil)))) pss_nil)
      (pss_one (ps_set (i := 4) nd rfl (Or.inl rfl) (pe_op op_fdiv (pv 4) (pv 7)))))))
    (pss_one (ps_ret (pe_callTy call_tuple_of (by rfl) fr.tuple (by decide +kernel) (pa_cons (pe_callB cr_sorted (by rfl) fr.sorted (by decide +kernel) (pa_cons (pv 8) pa_nil)) pa_nil)))))))))))  , ?_⟩
  refine ⟨_, rfl, c, _, rfl, fun left hleft => ?_⟩
  have k1 := Int.emod_nonneg left (show (3 : Int) ≠ 0 by decide)
  have k2 := Int.emod_lt_of_pos left (show (0 : Int) < 3 by decide)
  have m1 := Int.emod_nonneg (left / 3) (show (3 : Int) ≠ 0 by decide)
  have m2 := Int.emod_lt_of_pos (left / 3) (show (0 : Int) < 3 by decide)
  refine ⟨_, rfl, _, rfl, _, _, rfl, rfl, (by show (0 : Int) < 3; decide), ?_⟩
  refine ⟨_, rfl, _, rfl, _, _, rfl, rfl, ⟨by decide, by decide⟩, ?_⟩
  refine ⟨_, rfl, _, rfl, _, _, rfl, rfl, (by show (0 : Int) < 3; decide), _, _, rfl, rfl, ?_⟩
  refine ⟨_, rfl, _, _, rfl, rfl, ⟨by decide, by decide⟩, ?_⟩
  obtain ⟨mv, hmv, hmc⟩ := pick4 (w0 := 4) (w1 := 4) (w2 := 4) (w3 := 12) k1 k2
  have emv : mv = 4 := by omega
  subst emv
  refine ⟨big _ (by simp), fun p1 hp1 => ⟨_, rfl, p1, _, _, _, rfl, rfl, SqL.of upd_same, hmv, ?_⟩⟩
  have e1 : Same H (upd H p1 (.lst [.int 4, .int 4, .int 4, .int 12])) := same_new hp1 _
  refine ⟨Nat.zero_le _, fun l hl => ?_⟩
  have hl0 : H l = none := e1.free hl
  have e2 := same_put e1 hl0 (.lst [])
  obtain ⟨bv, hbv, hbc⟩ := pick4 (w0 := 0) (w1 := 4) (w2 := 8) (w3 := 0) k1 k2
  have hbk : bv = 4 * (left % 3) := by omega
  refine ⟨_, rfl, _, rfl, by omega, by omega, for_range (lo := 0) (n := (n + left / 3 % 3).toNat) (fun i σ H' => Same H H' ∧ (∃ (lf : Int) (w9 w10 : Option V), σ = [some (.int c), some (.int b), some (.int 3), some (.int n), some (.int lf), some (.int (left % 3)), some (.int (n + left / 3 % 3)), some (.int 4), some (.ref l), w9, w10]) ∧
      ∃ xs : List Int, H' l = some (.lst (xs.map V.int)) ∧ xs.length ≤ i ∧ xs.Nodup ∧ ∀ x ∈ xs, b + 4 * (left % 3) ≤ x ∧ x < b + 4 * (left % 3) + 4)
    ⟨e2, ⟨_, _, _, rfl⟩, [], upd_same, Nat.le_refl _, List.nodup_nil, by simp⟩ ?_ ?_⟩
  · rintro i σ H' hi ⟨e, ⟨lf, w9, w10, rfl⟩, xs, hxs, hxl, hxn, hxb⟩
    have f1 := Int.emod_nonneg lf (show (4 : Int) ≠ 0 by decide)
    have f2 := Int.emod_lt_of_pos lf (show (0 : Int) < 4 by decide)
    refine ⟨_, rfl, big _ (by simp), fun p2 hp2 => ⟨_, rfl, p2, _, _, _, rfl, rfl, SqL.of upd_same, hbv, _, _, rfl, rfl, _, rfl, _, rfl, _, _, rfl, rfl, (by show (0 : Int) < 4; decide), _, _, rfl, rfl, ?_⟩⟩
    have e3 := same_put e (e.free hp2) (.lst [.int 0, .int 4, .int 8, .int 0])
    have hxs2 : upd H' p2 (.lst [.int 0, .int 4, .int 8, .int 0]) l = some (.lst (xs.map V.int)) := by rw [upd_ne (ne_of_none hxs hp2)]; exact hxs
    refine ⟨_, rfl, _, rfl, l, _, rfl, .inl (SqL.of hxs2), rfl, flat_ints _, _, rfl, ?_⟩
    rw [inV_int]
    refine iteNot (fun c1 => ?_) (fun c1 => ?_)
    · refine ⟨_, rfl, .inl ⟨rfl, _, SqL.of hxs2⟩, _, rfl, l, _, _, rfl, rfl, hxs2, by rw [List.length_map]; exact bigl _ (by omega), ?_⟩
      refine ⟨_, rfl, _, rfl, _, _, rfl, rfl, ⟨by decide, by decide⟩, same_put e3 hl0 _, ⟨_, _, _, rfl⟩, xs ++ [b + bv + lf % 4], ?_, ?_, ?_, ?_⟩
      · rw [upd_same, List.map_append]
        rfl
      · rw [List.length_append, List.length_singleton]
        omega
      · exact nd_snoc hxn c1
      · intro x hx
        rcases List.mem_append.mp hx with hx | hx
        · exact hxb x hx
        · rw [List.mem_singleton.mp hx]
          omega
    · exact ⟨_, rfl, _, rfl, _, _, rfl, rfl, ⟨by decide, by decide⟩, e3, ⟨_, _, _, rfl⟩, xs, hxs2, by omega, hxn, hxb⟩
  · rintro σ H' ⟨e, ⟨lf, w9, w10, rfl⟩, xs, hxs, hxl, hxn, hxb⟩
    have hx4 : xs.length ≤ 4 := by omega
    refine ⟨_, rfl, l, xs, rfl, SqL.of hxs, by omega, fun ns p hperm hsort hp => ⟨p, _, rfl, .inl ⟨SqL.of upd_same, fun r hr' => ?_⟩⟩⟩
    have e5 := same_put e (e.free hp) (.lst (ns.map V.int))
    refine q r ns _ (same_put e5 (e5.free hr') _) (SqT.of upd_same) ⟨up_of (hperm.symm.nodup hxn) hsort, by rw [hperm.length_eq]; exact hx4, left % 3, fun x hx => hxb x (hperm.mem_iff.mp hx)⟩
end
end Ml
set_option maxHeartbeats 4000000
namespace Ml
open PySem PySem.Spec PyProof.Rows L2
/-! ### what settling asks stays behind a deed -/
theorem Good.mv {t : Bool} {x : Int} {R R' : List (List Int)} (h : Good R) (p : R'.Perm (mv t x R)) : Good R' := by
  have sub : ∀ s ∈ R', ∃ r ∈ R, s.Sublist r := fun s hs => by
    have hs' := p.mem_iff.mp hs
    cases t with
    | true =>
      obtain ⟨r, hr, rfl⟩ := Gm.mem_knot.mp hs'
      exact ⟨r, hr, List.filter_sublist⟩
    | false => exact ⟨s, (Gm.mem_bite.mp hs').1, List.Sublist.refl _⟩
  refine ⟨h.sm.mv p, fun s hs => ?_, ?_⟩
  · obtain ⟨r, hr, hsub⟩ := sub s hs
    exact (h.can r hr).sublist hsub
  · obtain ⟨f, h1, h2⟩ := h.few
    refine ⟨f, h1, fun s hs a ha b hb => ?_⟩
    obtain ⟨r, hr, hsub⟩ := sub s hs
    exact h2 r hr a (hsub.subset ha) b (hsub.subset hb)
theorem mu_four : ∀ {R : List (List Int)}, (∀ s ∈ R, s.length ≤ 4) → Gm.mu R ≤ 4 * R.length
  | [], _ => Nat.le_refl _
  | s :: R, h => by
    rw [Gm.mu_cons, List.length_cons]
    have h1 := h s (List.mem_cons_self ..)
    have h2 := mu_four (R := R) fun t ht => h t (List.mem_cons_of_mem _ ht)
    omega
theorem good_blk {b : Int} {R : List (List Int)} (h : ∀ s ∈ R, InBlk b s) (hl : R.length ≤ 9) : Good R := by
  refine ⟨⟨by omega, ?_⟩, fun s hs => (h s hs).1, fun x => (x - b) / 4, fun c => ⟨[b + 4 * c, b + 4 * c + 1, b + 4 * c + 2, b + 4 * c + 3], by simp, fun x hx => ?_⟩, fun s hs x hx y hy => ?_⟩
  · have := mu_four fun s hs => (h s hs).2.1
    omega
  · have : (x - b) / 4 = c := hx
    have : x = b + 4 * c ∨ x = b + 4 * c + 1 ∨ x = b + 4 * c + 2 ∨ x = b + 4 * c + 3 := by omega
    simpa using this
  · obtain ⟨k, hk⟩ := (h s hs).2.2
    have h1 := hk x hx
    have h2 := hk y hy
    show (x - b) / 4 = (y - b) / 4
    omega
theorem cut_map (ns : List Int) : ∃ ms : List Int, cutV (ns.map V.int) (some 2) (some 11) = ms.map V.int ∧ ms.length ≤ 9 := by
  refine ⟨(ns.drop (HT.sIx (ns.map V.int).length 0 (some 2))).take (HT.sIx (ns.map V.int).length (ns.map V.int).length (some 11) - HT.sIx (ns.map V.int).length 0 (some 2)), ?_, ?_⟩
  · unfold cutV
    rw [List.map_take, List.map_drop]
  · have e1 : HT.sIx (ns.map V.int).length 0 (some 2) = min 2 (ns.map V.int).length := HT.sIx_nat _ _ 2
    have e2 : HT.sIx (ns.map V.int).length (ns.map V.int).length (some 11) = min 11 (ns.map V.int).length := HT.sIx_nat _ _ 11
    rw [e1, e2, List.length_take, List.length_drop, List.length_map]
    omega
section
variable {P : Program} {w : World} {K : PySem.W.Frag} {mg : Str → Option Value} {base : Heap}
/-! ### _law_winner -/
def sp_law_winner (K : PySem.W.Frag) : Sp := fun vs H Q _ => ∃ (a : Addr) (R : List (List Int)) (t : Bool), vs = [.ref a, .str (hn t)] ∧ RsAt K H a R ∧ Good R ∧ ∀ H', Same H H' → Q (.str (hn (winB t R))) H'
theorem sc_law_winner : FnScope ["rest", "turn", "found"] ["rest", "turn"] (defScope s_law_winner) := ⟨rfl, rfl, rfl, by decide +kernel, rfl, by decide +kernel, by decide +kernel⟩
theorem ok_law_winner (T : Has K mg "_law_winner" s_law_winner []) (fr : Fre mg) (C1 : CalS P w K mg base 21) : Cal P w K mg base 22 "_law_winner" ["rest", "turn"] (sp_law_winner K) := by
  obtain ⟨g, gd, ds, G, mG, kG, b0, hv, b1⟩ := C1.ex
  refine T.cal sc_law_winner (fun _ _ _ _ _ _ us hl => match us, hl with | [_, _], _ => rfl) (fun vs H Q E h => ?_) (fun f cdv A outer s H vs Q E hr h => ?_)
  · obtain ⟨a, R, t, rfl, _⟩ := h
    rfl
  obtain ⟨a, R, t, rfl, h1, hgood, q⟩ := h
  have nd := sc_law_winner.nd
  refine ⟨_, pss_cons (ps_if (pt_cmpR op_eq (pv 1) pe_str (nomark _)) (pss_one (ps_set (i := 2) nd rfl (Or.inl rfl) (pe_call G hr rfl mG kG b1 hv pass0 (pa_cons (pv 0) pa_nil))))
      (pss_one (ps_set (i := 2) nd rfl (Or.inl rfl) (pe_call G hr rfl mG kG b0 .nil pass0 (pa_cons (pv 0) (pa_cons pe_str pa_nil))))))
    (pss_cons (ps_if (PW.pt (pw_or (pt_not (pt_val (pe_callB call_isi (by rfl) fr.isinstance (by decide +kernel) (pa_cons (pv 2) (pa_cons (pe_bltn (v := .ty "tuple") (by rfl) fr.tuple (by decide +kernel) rfl) pa_nil)))))
        (pw_or1 (pt_cmpR op_ne (pe_callB call_len_seq rfl fr.len PySem.boot_len (pa_cons (pv 2) pa_nil)) pe_int (nomark _))))) (pss_one (ps_ret pe_str)) pss_nil)
    (pss_one (ps_ret (pe_ix ix_tup (pv 2) pe_int (fun _ _ => rfl))))), ?_⟩
  have fin : ∀ (r p : Addr) (H' : Hp), Same H H' → H' r = some (.tup [.str (hn (winB t R)), .ref p]) →
      tSeq (tIfS (tOr (tNot (tB (tCB (rIsi K) (tCons (tVar 2) (tCons (tC (.ty "tuple")) tNil))))) (tTest (tOp rNe (tCB (fun xs H Q => ∃ p ys, xs = [.ref p] ∧ (SqL K H p ys ∨ SqT K H p ys) ∧ Q (.int ys.length) H) (tCons (tVar 2) tNil)) (tC (.int 2))))) (tRet (tC (.str "none"))) tNext)
        (tRet (tOp (rIxT K) (tVar 2) (tC (.int 0)))) { nx := fun _ H' => Q .non H', rt := Q } [some (.ref a), some (.str (hn t)), some (.ref r)] H' := by
    intro r p H' e hr'
    refine ⟨_, rfl, .ref r, .ty "tuple", .type "tuple", .type "tuple", true, rfl, .ty "tuple", .base (.tup hr'), kit_ty (by decide +kernel), _, rfl, ?_⟩
    refine iteF ?_
    refine ⟨_, rfl, r, _, rfl, .inr (SqT.of hr'), rfl, _, rfl, ?_⟩
    refine iteF ?_
    exact ⟨_, rfl, r, _, 0, _, rfl, rfl, SqT.of hr', at_of (j := 0) rfl rfl, q H' e⟩
  refine ⟨_, rfl, rfl, _, rfl, ?_⟩
  refine ite_hn t true (fun c => ?_) (fun c => ?_)
  · subst c
    exact ⟨_, rfl, a, R, true, rfl, h1, hgood, fun r p H' e hr' => fin r p H' e hr'⟩
  · have ht : t = false := by cases t <;> simp_all
    subst ht
    exact ⟨_, rfl, a, R, false, rfl, h1, hgood, fun r p H' e hr' => fin r p H' e hr'⟩
/-! ### law -/
def WonAt (H : Hp) (d : Addr) (R : List (List Int)) : Prop := ∃ kvs : List (Key × V), H d = some (.dK kvs) ∧ ∀ t, valV kvs (Sum.inr (hn t) : Key) = some (.str (hn (winB t R)))
theorem WonAt.get {H : Hp} {d : Addr} {R : List (List Int)} (h : WonAt H d R) (t : Bool) : DGet H d (.str (hn t)) (some (.str (hn (winB t R)))) := by
  obtain ⟨kvs, h1, h2⟩ := h
  rw [← h2 t]
  exact DGet.k (k := Sum.inr (hn t)) h1
theorem WonAt.same {H H' : Hp} {d : Addr} {R : List (List Int)} (e : Same H H') (h : WonAt H d R) : WonAt H' d R := by
  obtain ⟨kvs, h1, h2⟩ := h
  exact ⟨kvs, e _ _ h1, h2⟩
def sp_law (K : PySem.W.Frag) : Sp := fun vs H Q _ => ∃ (a : Addr) (ns : List Int), vs = [.ref a] ∧ SqL K H a (ns.map V.int) ∧ ∀ H', Q (.bl true) H'
theorem sc_law : FnScope ["script", "by", "way", "least", "rest", "won", "turn", "holes", "picked", "hole", "cell"] ["script"] (defScope s_law) := ⟨rfl, rfl, rfl, by decide +kernel, rfl, by decide +kernel, by decide +kernel⟩
theorem pick_least {z : Int} (h0 : 0 ≤ z) (h3 : z < 4) : ∃ v : Int, atI [V.int 1, V.int 1, V.int 1, V.int 0] z = some (.int v) ∧ 0 ≤ v ∧ v ≤ 1 := by
  have : z = 0 ∨ z = 1 ∨ z = 2 ∨ z = 3 := by omega
  rcases this with rfl | rfl | rfl | rfl
  · exact ⟨1, rfl, by decide, by decide⟩
  · exact ⟨1, rfl, by decide, by decide⟩
  · exact ⟨1, rfl, by decide, by decide⟩
  · exact ⟨0, rfl, by decide, by decide⟩
theorem won_val (t : Bool) (R : List (List Int)) : valV (mergeK [] [(Sum.inr "weaver", V.str (hn (winB true R))), (Sum.inr "moth", V.str (hn (winB false R)))]) (Sum.inr (hn t) : Key) = some (.str (hn (winB t R))) := by
  show valV (putK (putK [] (Sum.inr ("weaver" : Str) : Key) (V.str (hn (winB true R)))) (Sum.inr ("moth" : Str) : Key) (V.str (hn (winB false R)))) (Sum.inr (hn t) : Key) = _
  rw [valV_put, valV_put]
  cases t with
  | true => rw [if_neg (show ¬ (Sum.inr (hn true) : Key) = Sum.inr ("moth" : Str) by decide +kernel), if_pos (show (Sum.inr (hn true) : Key) = Sum.inr ("weaver" : Str) by decide +kernel)]
  | false => rw [if_pos (show (Sum.inr (hn false) : Key) = Sum.inr ("moth" : Str) by decide +kernel)]
theorem hn_not_true {b : Bool} (h : b = true) : (!decide (V.str (hn b) = V.str "weaver")) = false := by
  subst h
  decide +kernel
theorem hn_is_true {b : Bool} (h : b ≠ true) : decide (V.str (hn b) = V.str "weaver") = false := by
  cases b with
  | true => exact absurd rfl h
  | false => decide +kernel
theorem at_in {ns : List Int} {z : Int} (h0 : 0 ≤ z) (h1 : z < ns.length) : ∃ v : Int, atI (ns.map V.int) z = some (.int v) := by
  have hj : z.toNat < ns.length := by omega
  refine ⟨ns[z.toNat], at_of (j := z.toNat) (by omega) ?_⟩
  rw [List.getElem?_map, List.getElem?_eq_getElem hj]
  rfl
theorem ok_law {f : Addr} {fd : FuncData} (F : FnP K "law" s_law [] f fd) (fr : Fre mg) (C1 : Cal P w K mg base 1 "_law_cell" ["script", "k"] (sp_law_cell K)) (C2 : Cal P w K mg base 1 "_law_mixed" ["cell", "by"] sp_law_mixed) (C3 : Cal P w K mg base 2 "_law_block_strip" ["cell", "base", "blocks", "least"] (sp_law_block_strip K))
    (C4 : Cal P w K mg base 22 "_law_winner" ["rest", "turn"] (sp_law_winner K)) (C5 : Cal P w K mg base 1 "_law_holes" ["rest"] (sp_law_holes K)) (C6 : Cal P w K mg base 1 "_law_bitten" ["rest", "hole"] (sp_bitten K)) (C7 : Cal P w K mg base 1 "_law_knotted" ["rest", "hole"] (sp_knotted K)) :
    FnOk P w K mg base CX0 23 f fd ["script"] (sp_law K) := by
  refine F.okD sc_law (fun vs H Q E h => ?_) (fun cdv A outer s H vs Q E hr h => ?_)
  · obtain ⟨a, ns, rfl, _⟩ := h
    rfl
  obtain ⟨a, ns, rfl, h1, q⟩ := h
  have nd := sc_law.nd
  have hr1 : Room 1 _ := hr.mono (by decide)
  have hr2 : Room 2 _ := hr.mono (by decide)
  have hu := hu_of hr
  -- the last loop
  have tail : ∃ tl, PSs (cxOf CX0 P w K mg base ["script", "by", "way", "least", "rest", "won", "turn", "holes", "picked", "hole", "cell"] "law" (defScope s_law) f cdv A outer s H E).nox ((defBody s_law).drop 10) tl ∧
      ∀ (by_ way least : V) (r d hl pk : Addr) (w6 w9 w10 : Option V) (R : List (List Int)) (ps : List Int) (H' : Hp), RsAt K H' r R → Good R → WonAt H' d R → H' pk = some (.lst (ps.map V.int)) →
        tl { nx := fun _ H' => Q .non H', rt := Q } [some (.ref a), some by_, some way, some least, some (.ref r), some (.ref d), w6, some (.ref hl), some (.ref pk), w9, w10] H' := by
    refine ⟨_, pss_cons (ps_for PassesOwn.never rfl (pi_list (pe_lst (pa_cons pe_str (pa_cons pe_str pa_nil)))) (pg_name (i := 6) nd rfl (Or.inl rfl))
        (pss_one (ps_for PassesOwn.never rfl (pi_list (pv 8)) (pg_name (i := 9) nd rfl (Or.inl rfl))
          (pss_cons (ps_if (PW.pt (pw_and (pt_cmpR op_eq (pe_dget hu (pv 5) (pv 6) (fun _ _ => rfl)) pe_str (nomark _)) (pw_and1 (pt_cmpR op_ne (pe_cal C4 hr rfl pass0 (pa_cons (pe_cal C6 hr1 rfl pass0 (pa_cons (pv 4) (pa_cons (pv 9) pa_nil))) (pa_cons (pv 6) pa_nil))) pe_str (nomark _))))) (pss_one (ps_ret pe_bl)) pss_nil)
          (pss_one (ps_if (PW.pt (pw_and (pt_cmpR op_eq (pe_dget hu (pv 5) (pv 6) (fun _ _ => rfl)) pe_str (nomark _)) (pw_and1 (pt_cmpR op_ne (pe_cal C4 hr rfl pass0 (pa_cons (pe_cal C7 hr1 rfl pass0 (pa_cons (pv 4) (pa_cons (pv 9) pa_nil))) (pa_cons (pv 6) pa_nil))) pe_str (nomark _))))) (pss_one (ps_ret pe_bl)) pss_nil))))))
      (pss_one (ps_ret pe_bl)), ?_⟩
    intro by_ way least r d hl pk w6 w9 w10 R ps H' hR hgood hwon hpk
    have hRl : R.length ≤ 1000 := Nat.le_trans hgood.sm.len (by decide)
    refine ⟨big _ (by simp), fun tl htl => ⟨tl, rfl, ⟨_, SqL.of upd_same⟩, ?_⟩⟩
    have e0 : Same H' (upd H' tl (.lst [.str "weaver", .str "moth"])) := same_new htl _
    refine for_mapL (f := fun t => V.str (hn t)) (l := [true, false]) (fun i σ H2 => Same (upd H' tl (.lst [.str "weaver", .str "moth"])) H2 ∧ ∃ w6 w9, σ = [some (.ref a), some by_, some way, some least, some (.ref r), some (.ref d), w6, some (.ref hl), some (.ref pk), w9, w10])
      ⟨Same.refl _, _, _, rfl⟩ (fun i σ H2 ⟨e, _⟩ => SqL.of (e _ _ upd_same)) ?_ ?_
    · rintro i t σ H2 _ ⟨e2, w6, w9, rfl⟩
      have e02 := e0.trans e2
      refine ⟨_, rfl, pk, rfl, ⟨_, SqL.of (e02 _ _ hpk)⟩, for_mapL (f := V.int) (l := ps) (fun j σ H3 => Same (upd H' tl (.lst [.str "weaver", .str "moth"])) H3 ∧ ∃ w9, σ = [some (.ref a), some by_, some way, some least, some (.ref r), some (.ref d), some (.str (hn t)), some (.ref hl), some (.ref pk), w9, w10])
        ⟨e2, _, rfl⟩ (fun j σ H3 ⟨e, _⟩ => SqL.of ((e0.trans e) _ _ hpk)) ?_ ?_⟩
      · rintro j x σ H3 _ ⟨e3, w9, rfl⟩
        have second : ∀ (D : Ends) (H4 : Hp), Same (upd H' tl (.lst [.str "weaver", .str "moth"])) H4 → (∀ H5, Same (upd H' tl (.lst [.str "weaver", .str "moth"])) H5 → D.nx [some (.ref a), some by_, some way, some least, some (.ref r), some (.ref d), some (.str (hn t)), some (.ref hl), some (.ref pk), some (.int x), w10] H5) →
            tIfS (tAnd (tTest (tOp rEq (tDGet (tVar 5) (tVar 6)) (tC (.str "weaver")))) (tTest (tOp rNe (tCall (sp_law_winner K) [] E0 (tCons (tCall (sp_knotted K) [] E0 (tCons (tVar 4) (tCons (tVar 9) tNil))) (tCons (tVar 6) tNil))) (tC (.str "weaver"))))) (tRet (tC (.bl false))) tNext D
              [some (.ref a), some by_, some way, some least, some (.ref r), some (.ref d), some (.str (hn t)), some (.ref hl), some (.ref pk), some (.int x), w10] H4 := by
          intro D H4 e4 hD
          have e04 := e0.trans e4
          refine ⟨_, rfl, _, rfl, d, _, rfl, (hwon.same e04).get t, rfl, _, rfl, ?_⟩
          refine ite_hn _ true (fun c1 => ?_) (fun c1 => ?_)
          · refine ⟨_, rfl, _, rfl, r, R, x, rfl, hR.same e04, hRl, hgood.sm.strip, fun p R' H5 e5 hR' hperm => ?_⟩
            refine ⟨_, rfl, p, R', t, rfl, hR', hgood.mv (t := true) (x := x) hperm, fun H6 e6 => ⟨rfl, _, rfl, ?_⟩⟩
            refine ite_nhn _ true (fun c2 => ?_) (fun c2 => ?_)
            · exact absurd (winB_true.mpr ((Gm.ww_perm hperm).mpr (Gm.ww_knot x (winB_true.mp c1)))) c2
            · exact hD _ ((e4.trans e5).trans e6)
          · exact iteF (hD _ e4)
        have e03 := e0.trans e3
        refine ⟨_, rfl, _, rfl, d, _, rfl, (hwon.same e03).get t, rfl, _, rfl, ?_⟩
        refine ite_hn _ false (fun c1 => ?_) (fun c1 => ?_)
        · refine ⟨_, rfl, _, rfl, r, R, x, rfl, hR.same e03, hRl, fun p H5 e5 hR' => ?_⟩
          refine ⟨_, rfl, p, _, t, rfl, hR', hgood.mv (t := false) (x := x) (List.Perm.refl _), fun H6 e6 => ⟨rfl, _, rfl, ?_⟩⟩
          refine ite_nhn _ false (fun c2 => ?_) (fun c2 => ?_)
          · refine absurd ?_ c2
            exact winB_false.mpr fun z => winB_false.mp c1 (Gm.ww_bite z)
          · exact second _ _ ((e3.trans e5).trans e6) fun H7 e7 => ⟨e7, _, rfl⟩
        · exact iteF (second _ _ e3 fun H7 e7 => ⟨e7, _, rfl⟩)
      · rintro σ H3 ⟨e3, w9, rfl⟩
        exact ⟨e3, _, _, rfl⟩
    · rintro σ H2 ⟨e2, w6, w9, rfl⟩
      exact q H2
  obtain ⟨tl, htl, htq⟩ := tail
  refine ⟨_, pss_cons (ps_set (i := 1) nd rfl (Or.inr rfl) (pe_cal C2 hr1 rfl pass0 (pa_cons (pe_cal C1 hr1 rfl pass0 (pa_cons (pv 0) (pa_cons pe_int pa_nil))) (pa_cons pe_int pa_nil))))
    (pss_cons (ps_set (i := 2) nd rfl (Or.inl rfl) (pe_cal C2 hr1 rfl pass0 (pa_cons (pe_cal C1 hr1 rfl pass0 (pa_cons (pv 0) (pa_cons pe_int pa_nil))) (pa_cons pe_int pa_nil))))
    (pss_cons (ps_set (i := 3) nd rfl (Or.inr rfl) (pe_ix ix_list (pe_lst (pa_cons pe_int (pa_cons pe_int (pa_cons pe_int (pa_cons pe_int pa_nil))))) (pe_op op_mod (pe_op op_fdiv (pv 1) pe_int) pe_int) (fun _ _ => rfl)))
    (pss_cons (ps_set (i := 4) nd rfl (Or.inl rfl) (pe_callTy call_tuple_of (by rfl) fr.tuple (by decide +kernel) (pa_cons (pe_callB (cr_sortR (hu64 hr)) (by rfl) fr.sorted (by decide +kernel) (pa_cons
      (pe_lc (own := [("cell", 10)]) (g := gName 10) (tt := tYes) rfl nd (pi_list (pe_slice sl_list (pv 0) (po_some pe_int) (po_some pe_int))) (blkOk_by (N := ["script", "by", "way", "least", "rest", "won", "turn", "holes", "picked", "hole", "cell"]) (sc := defScope s_law) (by decide +kernel))
        (fun _ _ _ _ _ => pg_name (i := 10) nd rfl (Or.inl rfl)) (fun _ _ _ _ _ => pts_nil)
        (fun _ _ _ _ _ => pe_cal C3 hr2 rfl pass0 (pa_cons (pv 10) (pa_cons (pe_op op_mod (pv 1) pe_int) (pa_cons pe_int (pa_cons (pe_op op_add (pv 3) (pe_op op_mod (pe_op op_fdiv (pv 1) pe_int) pe_int)) pa_nil)))))) pa_nil)) pa_nil)))
    (pss_cons (ps_set (i := 5) nd rfl (Or.inl rfl) (pe_disp (pps_cons pe_str (pe_cal C4 hr rfl pass0 (pa_cons (pv 4) (pa_cons pe_str pa_nil))) (pps_cons pe_str (pe_cal C4 hr rfl pass0 (pa_cons (pv 4) (pa_cons pe_str pa_nil))) pps_nil)) (by rfl) (by rfl) (fun z => by cases z) (by decide)))
    (pss_cons (ps_for PassesOwn.never rfl (pi_list (pe_lst (pa_cons pe_str (pa_cons pe_str pa_nil)))) (pg_name (i := 6) nd rfl (Or.inl rfl))
      (pss_one (ps_if (PW.pt (pw_and (pt_cmpR op_ne (pe_dget hu (pv 5) (pv 6) (fun _ _ => rfl)) pe_str (nomark _)) (pw_and1 (pt_cmpR op_ne (pe_dget hu (pv 5) (pv 6) (fun _ _ => rfl)) pe_str (nomark _))))) (pss_one (ps_ret pe_bl)) pss_nil)))
    (pss_cons (ps_if (PW.pt (pw_and (pt_cmpR op_eq (pe_dget hu (pv 5) pe_str (fun _ _ => rfl)) pe_str (nomark _)) (pw_and1 (pt_cmpR op_ne (pe_dget hu (pv 5) pe_str (fun _ _ => rfl)) pe_str (nomark _))))) (pss_one (ps_ret pe_bl)) pss_nil)
    (pss_cons (ps_set (i := 7) nd rfl (Or.inl rfl) (pe_cal C5 hr1 rfl pass0 (pa_cons (pv 4) pa_nil)))
    (pss_cons (ps_set (i := 8) nd rfl (Or.inl rfl) (pe_lst (pa_cons (pe_op op_mod (pv 2) pe_int) pa_nil)))
    (pss_cons (ps_if (pt_cmpR op_gt (pe_callB call_len_seq rfl fr.len PySem.boot_len (pa_cons (pv 7) pa_nil)) pe_int (nomark _))
      (pss_one (ps_set (i := 8) nd rfl (Or.inl rfl) (pe_lst (pa_cons (pe_ix ix_list (pv 7) (pe_op op_mod (pe_op op_fdiv (pv 2) pe_int) (pe_callB call_len_seq rfl fr.len PySem.boot_len (pa_cons (pv 7) pa_nil))) (fun _ _ => rfl)) (pa_cons (pe_op op_mod (pv 2) pe_int)
        (pa_cons (pe_ix ix_list (pv 7) (pe_op op_mod (pe_op op_fdiv (pv 2) pe_int) (pe_callB call_len_seq rfl fr.len PySem.boot_len (pa_cons (pv 7) pa_nil))) (fun _ _ => rfl)) pa_nil)))))) pss_nil)
      htl))))))))), ?_⟩
  -- by, way, least
  refine ⟨_, rfl, a, ns, 0, rfl, h1, fun c0 => ⟨c0, _, rfl, fun by_ hby => ?_⟩⟩
  refine ⟨_, rfl, a, ns, 1, rfl, h1, fun c1 => ⟨c1, _, rfl, fun way hway => ?_⟩⟩
  have b1 := Int.emod_nonneg (by_ / 49) (show (4 : Int) ≠ 0 by decide)
  have b2 := Int.emod_lt_of_pos (by_ / 49) (show (0 : Int) < 4 by decide)
  obtain ⟨lv, hlv, hl0, hl1⟩ := pick_least b1 b2
  refine ⟨big _ (by simp), fun p1 hp1 => ⟨_, rfl, _, _, rfl, rfl, ⟨by decide, by decide⟩, _, _, rfl, rfl, (by show (0 : Int) < 4; decide), p1, _, _, .int lv, rfl, rfl, SqL.of upd_same, hlv, ?_⟩⟩
  have e1 : Same H (upd H p1 (.lst [.int 1, .int 1, .int 1, .int 0])) := same_new hp1 _
  -- rest
  obtain ⟨ms, ems, hms⟩ := cut_map ns
  refine ⟨_, rfl, 2, rfl, 11, rfl, a, _, rfl, e1.seq h1, fun p2 hp2 => ?_⟩
  rw [ems]
  have e2 := same_put e1 (e1.free hp2) (.lst (ms.map V.int))
  have d1 := Int.emod_nonneg (by_ / 196) (show (2 : Int) ≠ 0 by decide)
  have d2 := Int.emod_lt_of_pos (by_ / 196) (show (0 : Int) < 2 by decide)
  refine ⟨p2, rfl, ⟨_, SqL.of upd_same⟩, fun D hD => lc_mapL (f := V.int) (l := ms) (fun i H' => Same (upd (upd H p1 (.lst [.int 1, .int 1, .int 1, .int 0])) p2 (.lst (ms.map V.int))) H' ∧ ∃ fs : Lay, H' D = some (.lst fs.refs) ∧ LaidAt K H' fs ∧ fs.length = i ∧ ∀ c ∈ fs, InBlk (by_ % 49) c.2)
    ⟨same_new hD _, [], upd_same, (fun c hc => by cases hc), rfl, (fun c hc => by cases hc)⟩ (fun i H' ⟨e, _⟩ => SqL.of (e _ _ upd_same)) ?_ ?_⟩
  · rintro i x H' hx ⟨e, fs, hfs, hlaid, hfl, hin⟩
    have hil := ix_lt hx
    refine ⟨rfl, _, rfl, _, rfl, _, _, rfl, rfl, (by show (0 : Int) < 49; decide), _, rfl, _, rfl, _, _, rfl, rfl, ⟨by decide, by decide⟩, _, _, rfl, rfl, (by show (0 : Int) < 2; decide), _, _, rfl, rfl, x, by_ % 49, lv + by_ / 196 % 2, rfl, by omega, by omega, fun p s2 H2 e2 hst hblk => ?_⟩
    have hfs2 := e2 _ _ hfs
    refine ⟨_, hfs2, by rw [List.length_map]; exact bigl _ (by omega), same_put (e.trans e2) hD _, fs ++ [(p, s2)], ?_, ?_, ?_, ?_⟩
    · rw [upd_same]; simp [Lay.refs]
    · intro c hc
      rcases List.mem_append.mp hc with hc | hc
      · exact sqT_lst hfs2 (sqT_same e2 (hlaid c hc))
      · rw [List.mem_singleton.mp hc]; exact sqT_lst hfs2 hst
    · rw [List.length_append, List.length_singleton, hfl]
    · intro c hc
      rcases List.mem_append.mp hc with hc | hc
      · exact hin c hc
      · rw [List.mem_singleton.mp hc]; exact hblk
  rintro H3 ⟨e3, fs, hfs, hlaid, hfl, hin⟩
  refine ⟨D, fs, rfl, SqL.of hfs, hlaid, fun cs p3 hperm hp3 => ⟨p3, _, rfl, .inl ⟨SqL.of upd_same, fun r hr0 => ?_⟩⟩⟩
  have hR : RsAt K (upd (upd H3 p3 (.lst cs.refs)) r (.tup cs.refs)) r cs.rest := ⟨cs, rfl, SqT.of upd_same, fun c hc => sqT_upd hr0 _ (sqT_upd hp3 _ (hlaid c (hperm.mem_iff.mp hc)))⟩
  have hgood : Good cs.rest := good_blk (b := by_ % 49) (fun s2 hs2 => by
    obtain ⟨c, hc, rfl⟩ := List.mem_map.mp hs2
    exact hin c (hperm.mem_iff.mp hc)) (by rw [List.length_map, hperm.length_eq, hfl]; exact hms)
  generalize hH4 : upd (upd H3 p3 (.lst cs.refs)) r (.tup cs.refs) = H4 at hR ⊢
  generalize hRR : cs.rest = R at hR hgood
  -- won
  intro d hd
  have f1 : Same H4 (upd H4 d (.dK [])) := same_new hd _
  refine ⟨_, rfl, r, R, true, rfl, hR.same f1, hgood, fun H6 f6 => ?_⟩
  refine ⟨_, rfl, r, R, false, rfl, hR.same (f1.trans f6), hgood, fun H7 f7 => ?_⟩
  refine ⟨f7 _ _ (f6 _ _ upd_same), [(Sum.inr "weaver", .str (hn (winB true R))), (Sum.inr "moth", .str (hn (winB false R)))], rfl, by simp, ?_⟩
  have f47 : Same H4 H7 := (f1.trans f6).trans f7
  have f8 := same_put f47 hd (.dK (mergeK [] [(Sum.inr "weaver", .str (hn (winB true R))), (Sum.inr "moth", .str (hn (winB false R)))]))
  have hwon : WonAt (upd H7 d (.dK (mergeK [] [(Sum.inr "weaver", .str (hn (winB true R))), (Sum.inr "moth", .str (hn (winB false R)))]))) d R := ⟨_, upd_same, fun t => won_val t R⟩
  have hR8 := hR.same f8
  generalize upd H7 d (.dK (mergeK [] [(Sum.inr "weaver", .str (hn (winB true R))), (Sum.inr "moth", .str (hn (winB false R)))])) = H8 at hwon hR8 ⊢
  -- the first loop
  refine ⟨big _ (by simp), fun tl1 htl1 => ⟨tl1, rfl, ⟨_, SqL.of upd_same⟩, ?_⟩⟩
  have g1 : Same H8 (upd H8 tl1 (.lst [.str "weaver", .str "moth"])) := same_new htl1 _
  refine for_mapL (f := fun t => V.str (hn t)) (l := [true, false]) (fun i σ H' => Same (upd H8 tl1 (.lst [.str "weaver", .str "moth"])) H' ∧ ∃ w6, σ = [some (.ref a), some (.int by_), some (.int way), some (.int lv), some (.ref r), some (.ref d), w6, none, none, none, none])
    ⟨Same.refl _, _, rfl⟩ (fun i σ H' ⟨e, _⟩ => SqL.of (e _ _ upd_same)) ?_ ?_
  · rintro i t σ H' _ ⟨e, w6, rfl⟩
    have hw := hwon.same (g1.trans e)
    refine ⟨_, rfl, _, rfl, d, _, rfl, hw.get t, rfl, _, rfl, ?_⟩
    refine ite_nhn _ true (fun c1 => ?_) (fun c1 => ?_)
    · refine ⟨_, rfl, _, rfl, d, _, rfl, hw.get t, rfl, _, rfl, ?_⟩
      refine ite_nhn _ false (fun c2 => ?_) (fun c2 => ?_)
      · cases e : winB t R with
        | true => exact absurd e c1
        | false => exact absurd e c2
      · exact ⟨e, _, rfl⟩
    · exact iteF ⟨e, _, rfl⟩
  rintro σ H9 ⟨g9, w6, rfl⟩
  have g89 := g1.trans g9
  have hwon9 := hwon.same g89
  have hR9 := hR8.same g89
  -- the test
  have test : ∀ Qt : Bool → Hp → Prop, Qt false H9 → tAnd (tTest (tOp rEq (tDGet (tVar 5) (tC (.str "moth"))) (tC (.str "weaver")))) (tTest (tOp rNe (tDGet (tVar 5) (tC (.str "weaver"))) (tC (.str "weaver"))))
      [some (.ref a), some (.int by_), some (.int way), some (.int lv), some (.ref r), some (.ref d), w6, none, none, none, none] H9 Qt := by
    intro Qt hQ
    refine ⟨_, rfl, d, _, rfl, hwon9.get false, rfl, _, rfl, ?_⟩
    refine ite_hn _ true (fun c1 => ?_) (fun c1 => ?_)
    · refine ⟨_, rfl, d, _, rfl, hwon9.get true, rfl, _, rfl, ?_⟩
      have e : winB true R = true := winB_true.mpr (Gm.extra (winB_true.mp c1))
      rw [hn_not_true e]
      exact hQ
    · exact hQ
  refine test _ (iteF ?_)
  -- holes, picked
  refine ⟨_, rfl, r, R, rfl, hR9, hgood.sm.mu, fun hl hs H10 e10 hl00 hhl => ?_⟩
  have hwon10 := hwon9.same e10
  have hR10 := hR9.same e10
  refine ⟨_, rfl, _, _, rfl, rfl, (by show (0 : Int) < 60; decide), big _ (by simp), fun pk hpk => ?_⟩
  have hhl2 : upd H10 pk (.lst [.int (way % 60)]) hl = some (.lst (hs.map V.int)) := by rw [upd_ne (ne_of_none hhl hpk)]; exact hhl
  have e11 : Same H10 (upd H10 pk (.lst [.int (way % 60)])) := same_new hpk _
  refine ⟨_, rfl, hl, _, rfl, .inl (SqL.of hhl2), _, _, rfl, rfl, _, rfl, ?_⟩
  refine iteDec (fun c2 => ?_) (fun c2 => ?_)
  · rw [List.length_map] at c2
    have hpos : (0 : Int) < (hs.length : Int) := by omega
    have z1 := Int.emod_nonneg (way / 60) (show (hs.length : Int) ≠ 0 by omega)
    have z2 := Int.emod_lt_of_pos (way / 60) hpos
    have z3 := Int.emod_nonneg (way / 3600) (show (hs.length : Int) ≠ 0 by omega)
    have z4 := Int.emod_lt_of_pos (way / 3600) hpos
    obtain ⟨v1, hv1⟩ := at_in z1 z2
    obtain ⟨v3, hv3⟩ := at_in z3 z4
    have el : (((hs.map V.int).length : Nat) : Int) = (hs.length : Int) := by rw [List.length_map]
    refine ⟨_, rfl, _, rfl, _, _, rfl, rfl, ⟨by decide, by decide⟩, _, rfl, hl, _, rfl, .inl (SqL.of hhl2), _, _, rfl, rfl, (by rw [el]; exact hpos), hl, _, _, .int v1, rfl, rfl, SqL.of hhl2, (by rw [el]; exact hv1), ?_⟩
    refine ⟨_, rfl, _, _, rfl, rfl, (by show (0 : Int) < 60; decide), ?_⟩
    refine ⟨_, rfl, _, rfl, _, _, rfl, rfl, ⟨by decide, by decide⟩, _, rfl, hl, _, rfl, .inl (SqL.of hhl2), _, _, rfl, rfl, (by rw [el]; exact hpos), hl, _, _, .int v3, rfl, rfl, SqL.of hhl2, (by rw [el]; exact hv3), big _ (by simp), fun pk2 hpk2 => ?_⟩
    have e12 := same_new hpk2 (.lst [.int v1, .int (way % 60), .int v3])
    exact htq _ _ _ r d hl pk2 _ _ _ R [v1, way % 60, v3] _ ((hR10.same e11).same e12) hgood ((hwon10.same e11).same e12) upd_same
  · exact htq _ _ _ r d hl pk _ _ _ R [way % 60] _ (hR10.same e11) hgood (hwon10.same e11) upd_same
end
end Ml
set_option maxHeartbeats 0
/-! the head: the top run once, the defs' facts by names -/
namespace Ml
open PySem PySem.Spec PyProof.Rows L2
def dD (x : Str) (st : Stmt) (dfl : List He.Dv := []) : He.DefD := ⟨(x, none), x, x, defArgs st, defBody st, defScope st, dfl, []⟩
def fnL : List He.DefD := [dD "has_all" s_has_all, dD "has_less" s_has_less, dD "thinned" s_thinned, dD "without" s_without, dD "knotted" s_knotted, dD "bitten" s_bitten, dD "holes_of" s_holes_of, dD "is_whole" s_is_whole,
  dD "is_bare" s_is_bare, dD "meets" s_meets, dD "group_of" s_group_of, dD "pieces" s_pieces, dD "rest_behind" s_rest_behind, dD "case_row" s_case_row, dD "every_hole" s_every_hole, dD "known_outcome" s_known_outcome,
  dD "widened" s_widened, dD "tried" s_tried, dD "by_pieces" s_by_pieces, dD "is_small" s_is_small, dD "weaver_by_pieces" s_weaver_by_pieces, dD "moth_by_pieces" s_moth_by_pieces, dD "small_settled" s_small_settled,
  dD "settled" s_settled [.str "weaver"], dD "_law_cell" s_law_cell, dD "_law_mixed" s_law_mixed, dD "_law_knotted" s_law_knotted, dD "_law_bitten" s_law_bitten, dD "_law_holes" s_law_holes,
  dD "_law_block_strip" s_law_block_strip, dD "_law_winner" s_law_winner, dD "law" s_law]
def faL : List He.Fa := [.glo "has_all", .glo "has_less", .glo "thinned", .glo "without", .glo "knotted", .glo "bitten", .glo "holes_of", .glo "is_whole", .glo "is_bare", .glo "meets", .glo "group_of", .glo "pieces", .glo "rest_behind",
  .glo "case_row", .glo "every_hole", .glo "known_outcome", .glo "widened", .glo "tried", .glo "by_pieces", .glo "is_small", .glo "weaver_by_pieces", .glo "moth_by_pieces", .glo "small_settled", .glo "settled", .glo "_law_cell", .glo "_law_mixed",
  .glo "_law_knotted", .glo "_law_bitten", .glo "_law_holes", .glo "_law_block_strip", .glo "_law_winner", .glo "law",
  .free "tuple", .free "sorted", .free "len", .free "list", .free "range", .free "isinstance", .int "TRIED_HOLES" 6]
abbrev RR : PySem.W.OpenRow := PySem.W.OpenLaw.row PySem.Challenge.rw_mothloom_k79_whole_extra_deeds
abbrev hkR : PySem.W.Hook := He.hookD 4 faL fnL
def obR (s : PySem.W.SharedT) : He.AlD := He.obsDG 4 faL fnL (HandSHeadRun.getT s)
theorem obR_eq (s : PySem.W.SharedT) : obR s = hkR.obs s.abs := He.obsDG_eq (HandSHeadRun.getT_eq s)
def nm1 : List Str := ["__name__", "has_all", "has_less", "thinned", "search", "hand_on", "own_pairs", "LoomError", "TooLarge", "without", "knotted", "bitten", "holes_of", "is_whole", "is_bare", "meets", "group_of", "pieces", "short_strip", "knot_last", "at_once", "threat", "forced", "TRIED_HOLES", "rest_behind", "case_row", "every_hole", "known_outcome"]
def nm2 : List Str := ["widened", "tried", "UNIT", "strip_weight", "weight", "pull", "heaviest", "most_shared", "greatest_pull", "moth_weighs", "may_knot", "weaver_weighs", "THREAT_STRIPS", "by_pieces", "is_small", "weaver_by_pieces", "moth_by_pieces", "small_settled", "settled_by_pairs", "settled", "_law_cell", "_law_mixed", "_law_knotted", "_law_bitten", "_law_holes", "_law_block_strip", "_law_winner"]
def nmR : List Str := nm1 ++ nm2
theorem runR (w : World) : HandSHeadRun.RunEq RR (PySem.W.view RR.prog [64]) hkR obR 3000 nmR w := by
  intro os
  kernel_rfl
end Ml
set_option maxHeartbeats 0
namespace Ml
open PySem PySem.Spec PyProof.Rows L2
section
variable {P : Program} {w : World} {K : PySem.W.Frag} {mg : Str → Option Value} {h : Heap}
theorem has_of (X : K.In h) (G : h.Ns mainGlobals mg) (c : He.SaysD faL fnL K) (i : Nat) {x : Str} {st : Stmt} {dfl : List He.Dv} (h1 : fnL[i]? = some (dD x st dfl)) (h2 : faL[i]? = some (.glo x)) : Has K mg x st (dfl.map (He.Dv.v K)) := by
  obtain ⟨fd, F⟩ := c.def_ i h1
  exact ⟨He.ga K x, fd, F, He.glo_ok X G (c.fact i h2)⟩
theorem facts {f : Addr} (X : K.In h) (G : h.Ns mainGlobals mg) (hfa : mg ("law" : Str) = some (.ref f)) (c : He.SaysD faL fnL K) :
    ∃ fd : FuncData, (∀ (s : Shared) (v : Value), BindsTo s fd ⟨[v], []⟩ [("script", v)]) ∧ ∀ base : Heap, K.In base → base.Ns mainGlobals mg → FnOk P w K mg base CX0 23 f fd ["script"] (sp_law K) := by
  have fr : Fre mg := ⟨He.free_ok X G (c.fact 32 rfl), He.free_ok X G (c.fact 33 rfl), He.free_ok X G (c.fact 34 rfl), He.free_ok X G (c.fact 35 rfl), He.free_ok X G (c.fact 36 rfl), He.free_ok X G (c.fact 37 rfl)⟩
  have six : ∃ tk, mg "TRIED_HOLES" = some (.int 6 tk) := He.int_ok X G (c.fact 38 rfl)
  obtain ⟨f0, fd, F, m⟩ := has_of X G c 31 (x := "law") (st := s_law) (dfl := []) rfl rfl
  have e := hfa.symm.trans m
  cases e
  have b := FunD.bindsA (ps := ["script"]) F fun _ _ _ _ _ _ us hl => match us, hl with | [_], _ => rfl
  refine ⟨fd, fun s v => b s [v] rfl, fun base _ _ => ?_⟩
  have c_has_all := ok_has_all (P := P) (w := w) (base := base) (has_of X G c 0 (dfl := []) rfl rfl)
  have c_has_less := ok_has_less (has_of X G c 1 (dfl := []) rfl rfl) c_has_all
  have c_thinned := ok_thinned (has_of X G c 2 (dfl := []) rfl rfl) fr c_has_less
  have c_without := ok_without (P := P) (w := w) (base := base) (has_of X G c 3 (dfl := []) rfl rfl) fr
  have c_knotted := ok_knotted (has_of X G c 4 (dfl := []) rfl rfl) fr c_without
  have c_bitten := ok_bitten (P := P) (w := w) (base := base) (has_of X G c 5 (dfl := []) rfl rfl) fr
  have c_holes_of := ok_holes_of (P := P) (w := w) (base := base) (has_of X G c 6 (dfl := []) rfl rfl) fr
  have c_is_whole := ok_is_whole (P := P) (w := w) (base := base) (has_of X G c 7 (dfl := []) rfl rfl)
  have c_is_bare := ok_is_bare (P := P) (w := w) (base := base) (has_of X G c 8 (dfl := []) rfl rfl) fr
  have c_meets := ok_meets (P := P) (w := w) (base := base) (has_of X G c 9 (dfl := []) rfl rfl)
  have c_group_of := ok_group_of (has_of X G c 10 (dfl := []) rfl rfl) fr c_meets
  have c_pieces := ok_pieces (has_of X G c 11 (dfl := []) rfl rfl) fr c_group_of
  have c_rest_behind := ok_rest_behind (has_of X G c 12 (dfl := []) rfl rfl) c_knotted c_bitten
  have c_case_row := ok_case_row (P := P) (w := w) (base := base) (has_of X G c 13 (dfl := []) rfl rfl)
  have c_known := ok_both (has_of X G c 15 (dfl := []) rfl rfl) (has_of X G c 14 (dfl := []) rfl rfl) fr c_is_whole c_is_bare c_holes_of c_rest_behind c_case_row 7
  have c_widened := ok_widened (has_of X G c 16 (dfl := []) rfl rfl) c_bitten
  have c_tried := ok_tried (has_of X G c 17 (dfl := []) rfl rfl) fr six c_holes_of c_thinned c_known c_widened
  have c_by_pieces := ok_by_pieces (P := P) (w := w) (base := base) (has_of X G c 18 (dfl := []) rfl rfl)
  have c_is_small := ok_is_small (has_of X G c 19 (dfl := []) rfl rfl) fr six c_thinned c_pieces c_holes_of
  have c_weaver_by := ok_weaver_by_pieces (P := P) (w := w) (base := base) (has_of X G c 20 (dfl := []) rfl rfl)
  have c_moth_by := ok_moth_by_pieces (has_of X G c 21 (dfl := []) rfl rfl) fr c_bitten
  have c_small := ok_small_settled (has_of X G c 22 (dfl := []) rfl rfl) c_thinned c_pieces c_tried c_by_pieces c_weaver_by c_moth_by
  have c_settled := ok_settled (has_of X G c 23 (dfl := [.str "weaver"]) rfl rfl) c_is_whole c_is_bare c_is_small c_small
  have c_cell := ok_law_cell (P := P) (w := w) (base := base) (has_of X G c 24 (dfl := []) rfl rfl) fr
  have c_mixed := ok_law_mixed (P := P) (w := w) (base := base) (has_of X G c 25 (dfl := []) rfl rfl)
  have c_lknotted := ok_law_knotted (P := P) (w := w) (base := base) (has_of X G c 26 (dfl := []) rfl rfl) fr
  have c_lbitten := ok_law_bitten (P := P) (w := w) (base := base) (has_of X G c 27 (dfl := []) rfl rfl) fr
  have c_lholes := ok_law_holes (P := P) (w := w) (base := base) (has_of X G c 28 (dfl := []) rfl rfl) fr
  have c_strip := ok_law_block_strip (has_of X G c 29 (dfl := []) rfl rfl) fr c_mixed
  have c_winner := ok_law_winner (has_of X G c 30 (dfl := []) rfl rfl) fr c_settled
  exact ok_law F fr c_cell c_mixed c_strip c_winner c_lholes c_lbitten c_lknotted
end
end Ml
open PySem PySem.W PySem.Calls PyProof.Rows
theorem PySem.Challenge.cw_mothloom_k79_whole_extra_deeds_holds : PySem.Challenge.rw_mothloom_k79_whole_extra_deeds.Holds := by
  w_on; o_law
  refine HandSHeadRun.head_any (r := OpenLaw.row PySem.Challenge.rw_mothloom_k79_whole_extra_deeds) (q := view (OpenLaw.row PySem.Challenge.rw_mothloom_k79_whole_extra_deeds).prog [64]) (H := Ml.hkR) (ob := Ml.obR) (M := 3000) (loose := Ml.nmR) (d := HandSHeadRun.topDef (OpenLaw.row PySem.Challenge.rw_mothloom_k79_whole_extra_deeds).prog 64) (kwd := []) Ml.obR_eq
    (by kernel_rfl) (fun s => by kernel_rfl) Ml.runR (by kernel_rfl) (by kernel_rfl) (by kernel_rfl) (by rfl) (by first | assumption | decide +kernel) (by decide +kernel) ⟨rfl, rfl, rfl, rfl, rfl, by decide +kernel⟩ ?hw ?hc
  case hw => w_witness2
  case hc =>
    refine L2.walk_ofE (l := PySem.Challenge.rw_mothloom_k79_whole_extra_deeds) (n := 63) (k := 23) (x := "script") (CX := L2.CX0) rfl (by decide) (by kernel_rfl) ⟨rfl, by decide, by decide⟩ ?F (fun _ _ _ _ z => z)
    intro w mg fa h Y G hmg0
    obtain ⟨K, KX, c⟩ := Y
    have hmg : mg ("law" : PySem.Str) = some (.ref fa) := by
      have e : (HandSHeadRun.topDef (OpenLaw.row PySem.Challenge.rw_mothloom_k79_whole_extra_deeds).prog 64).name = ("law" : PySem.Str) := by kernel_rfl
      rw [← e]
      exact hmg0
    obtain ⟨fd, hb, hF⟩ := Ml.facts (P := (PySem.Challenge.rw_mothloom_k79_whole_extra_deeds).prog) (w := w) KX G hmg c
    exact ⟨K, fd, Ml.sp_law K, KX, hb, fun H a ns hl _ hS => ⟨a, ns, rfl, hS, fun _ => rfl⟩, hF⟩
