import PyProof.Rows.All
import Wide.All
import OpenK.AllK
import Wide.FinOn
import HandS.ForMost
import HandS.ForExc
import HandS.Conv
import HandS.Rev
import HandS.Style
import HandS.IsInst
import HandS.Sort
import HandS.SortRule
import HandS.SortInts
import HandS.SortKw
import HandS.DictComp
import HandS.Defaults
import HandS.More
import HandS.Evl
import HandS.Steps
import HandS.ExcInit
import HandS.Exc
import HandS.ExcField
import PySem.Challenge.RW_barebough_k50_whole_strongholds
import KE.KExcSuper
import HandS.WordsExc
import KE.KExcIs
import HandS.ExcIs
import HandS.Head0
import HandS.Head1
import HandS.Head2
import HandS.HeadEnd
import HandS.HeadHook1
import HandS.HeadHook2
set_option Elab.async false
set_option linter.all false
set_option maxRecDepth 100000
set_option maxHeartbeats 0
/-! ### plain graphs: reach, trees, branches, regions -/
namespace Bb
open Classical in
/-- how many numbers below n have P -/
noncomputable def cnt (n : Nat) (P : Nat → Prop) : Nat := ((List.range n).filter (fun x => decide (P x))).length

theorem cnt_list {n : Nat} {P : Nat → Prop} {l : List Nat} (hn : l.Nodup) (hl : ∀ x ∈ l, x < n) (h : ∀ x, x < n → (P x ↔ x ∈ l)) : cnt n P = l.length := by
  classical
  unfold cnt
  apply List.Perm.length_eq
  rw [List.perm_ext_iff_of_nodup (List.Nodup.sublist List.filter_sublist List.nodup_range) hn]
  intro a
  rw [List.mem_filter, List.mem_range, decide_eq_true_iff]
  exact ⟨fun ⟨h1, h2⟩ => (h a h1).mp h2, fun h1 => ⟨hl a h1, (h a (hl a h1)).mpr h1⟩⟩
theorem cnt_mono {n : Nat} {P Q : Nat → Prop} (h : ∀ x, x < n → P x → Q x) : cnt n P ≤ cnt n Q := by
  classical
  unfold cnt
  apply List.Nodup.length_le_of_subset (List.Nodup.sublist List.filter_sublist List.nodup_range)
  intro a ha
  rw [List.mem_filter, List.mem_range, decide_eq_true_iff] at *
  exact ⟨ha.1, h a ha.1 ha.2⟩
theorem cnt_congr {n : Nat} {P Q : Nat → Prop} (h : ∀ x, x < n → (P x ↔ Q x)) : cnt n P = cnt n Q :=
  Nat.le_antisymm (cnt_mono fun x l p => (h x l).mp p) (cnt_mono fun x l p => (h x l).mpr p)
theorem cnt_succ {n : Nat} {P : Nat → Prop} [Decidable (P n)] : cnt (n + 1) P = cnt n P + if P n then 1 else 0 := by
  unfold cnt
  rw [List.range_succ, List.filter_append, List.length_append]
  by_cases h : P n <;> simp [h]
theorem cnt_zero {P : Nat → Prop} : cnt 0 P = 0 := rfl
theorem cnt_add {P Q R : Nat → Prop} : ∀ {n : Nat}, (∀ x, x < n → (R x ↔ P x ∨ Q x)) → (∀ x, x < n → ¬ (P x ∧ Q x)) → cnt n R = cnt n P + cnt n Q
  | 0, _, _ => rfl
  | n + 1, h, d => by
    classical
    rw [cnt_succ, cnt_succ, cnt_succ, cnt_add (fun x l => h x (by omega)) (fun x l => d x (by omega))]
    have h1 := h n (by omega)
    have d1 := d n (by omega)
    by_cases p : P n <;> by_cases q : Q n <;> simp_all <;> omega
theorem cnt_true {n : Nat} {P : Nat → Prop} (h : ∀ x, x < n → P x) : cnt n P = n := by
  rw [cnt_list (l := List.range n) List.nodup_range (fun x hx => List.mem_range.mp hx) (fun x hx => ⟨fun _ => List.mem_range.mpr hx, fun _ => h x hx⟩), List.length_range]
theorem cnt_false {n : Nat} {P : Nat → Prop} (h : ∀ x, x < n → ¬ P x) : cnt n P = 0 := by
  rw [cnt_list (l := []) List.nodup_nil (fun x hx => nomatch hx) (fun x hx => ⟨fun p => (h x hx p).elim, fun q => nomatch q⟩)]; rfl
theorem cnt_le (n : Nat) (P : Nat → Prop) : cnt n P ≤ n := by
  have := cnt_mono (n := n) (P := P) (Q := fun _ => True) (fun _ _ _ => trivial)
  rw [cnt_true (P := fun _ => True) (fun _ _ => trivial)] at this
  exact this
theorem cnt_one {n a : Nat} {P : Nat → Prop} (ha : a < n) (h : ∀ x, x < n → (P x ↔ x = a)) : cnt n P = 1 := by
  rw [cnt_list (l := [a]) (by simp) (fun x hx => by simp at hx; omega) (fun x hx => by simpa using h x hx)]; rfl
theorem cnt_pos {n a : Nat} {P : Nat → Prop} (ha : a < n) (h : P a) : 0 < cnt n P := by
  have := cnt_mono (n := n) (P := fun x => x = a) (Q := P) (fun x _ e => e ▸ h)
  rw [cnt_one ha (fun x _ => Iff.rfl)] at this
  omega
theorem cnt_lt {n a : Nat} {P Q : Nat → Prop} (h : ∀ x, x < n → P x → Q x) (ha : a < n) (q : Q a) (p : ¬ P a) : cnt n P < cnt n Q := by
  classical
  have e := cnt_add (n := n) (P := P) (Q := fun x => Q x ∧ ¬ P x) (R := Q) (fun x l => ⟨fun z => by by_cases y : P x <;> simp_all, fun z => z.elim (h x l) (·.1)⟩) (fun x _ z => z.2.2 z.1)
  have := cnt_pos (n := n) (P := fun x => Q x ∧ ¬ P x) ha ⟨q, p⟩
  omega

/-- the neighbours of c -/
def nb (near : List (List Nat)) (c : Nat) : List Nat := near.getD c []

/-- x is reached from a within S -/
inductive Reach (near : List (List Nat)) (S : Nat → Prop) (a : Nat) : Nat → Prop
  | refl : S a → Reach near S a a
  | step {b c : Nat} : Reach near S a b → c ∈ nb near b → S c → Reach near S a c

section
variable {near : List (List Nat)} {S T : Nat → Prop} {a b c : Nat}
theorem Reach.start (h : Reach near S a b) : S a := by
  induction h with
  | refl h => exact h
  | step _ _ _ ih => exact ih
theorem Reach.fin (h : Reach near S a b) : S b := by
  cases h with
  | refl h => exact h
  | step _ _ h => exact h
theorem Reach.mono (h : Reach near S a b) (hs : ∀ x, Reach near S a x → S x → T x) : Reach near T a b := by
  induction h with
  | refl h => exact .refl (hs _ (.refl h) h)
  | step h1 h2 h3 ih => exact .step ih h2 (hs _ (.step h1 h2 h3) h3)
theorem Reach.trans (h : Reach near S a b) (h2 : Reach near S b c) : Reach near S a c := by
  induction h2 with
  | refl _ => exact h
  | step _ h2 h3 ih => exact .step ih h2 h3
/-- a path from D out of D crosses -/
theorem Reach.cross (h : Reach near S a b) {D : Nat → Prop} (ha : D a) (hb : ¬ D b) : ∃ x y, Reach near S a x ∧ S x ∧ S y ∧ y ∈ nb near x ∧ D x ∧ ¬ D y := by
  induction h with
  | refl _ => exact (hb ha).elim
  | @step b c h1 h2 h3 ih =>
    by_cases hd : D b
    · exact ⟨b, c, h1, h1.fin, h3, h2, hd, hb⟩
    · exact ih hd
end

structure IsTree (n : Nat) (near : List (List Nat)) : Prop where
  len : near.length = n
  pos : 0 < n
  lt : ∀ c d, d ∈ nb near c → d < n
  sorted : ∀ c, (nb near c).Pairwise (· < ·)
  symm : ∀ c d, d ∈ nb near c → c ∈ nb near d
  conn : ∀ S : Nat → Prop, (∃ c, c < n ∧ S c) → (∀ c d, S c → d ∈ nb near c → S d) → ∀ c, c < n → S c
  cut : ∀ c d, d ∈ nb near c → ∃ D : Nat → Prop, D c ∧ ¬ D d ∧ ∀ x y, y ∈ nb near x → D x → ¬ D y → (x = c ∧ y = d)

/-- the branch of c that holds its neighbour d -/
abbrev Br (near : List (List Nat)) (c d : Nat) : Nat → Prop := Reach near (· ≠ c) d
noncomputable def be (n : Nat) (near : List (List Nat)) (c d : Nat) : Nat := cnt n (Br near c d)

namespace IsTree
variable {n : Nat} {near : List (List Nat)} {S R : Nat → Prop} {a b c d e x y : Nat}
theorem rsymm (G : IsTree n near) (h : Reach near S a b) : Reach near S b a := by
  have key : ∀ c, Reach near S a c → ∀ x, Reach near S c x → Reach near S x c := by
    intro c _ x h2
    induction h2 with
    | refl hs => exact .refl hs
    | step h1 h2 h3 ih => exact (Reach.step (.refl h3) (G.symm _ _ h2) h1.fin).trans ih
  exact key a (.refl h.start) b h
theorem ne (G : IsTree n near) (h : d ∈ nb near c) : d ≠ c := by
  obtain ⟨D, h1, h2, _⟩ := G.cut c d h
  intro e; rw [e] at h2; exact h2 h1
theorem ltl (G : IsTree n near) (h : d ∈ nb near c) : c < n := G.lt _ _ (G.symm _ _ h)
theorem nodup (G : IsTree n near) (c : Nat) : (nb near c).Nodup := (G.sorted c).imp fun h => Nat.ne_of_lt h
theorem rlt (G : IsTree n near) (h : Reach near S a b) (ha : a < n) : b < n := by
  cases h with
  | refl _ => exact ha
  | step _ h _ => exact G.lt _ _ h
/-- the branch is what lies behind the cut -/
theorem br_iff (G : IsTree n near) (h : d ∈ nb near c) {D : Nat → Prop} (h1 : D c) (h2 : ¬ D d) (h3 : ∀ x y, y ∈ nb near x → D x → ¬ D y → (x = c ∧ y = d)) (hx : x < n) : Br near c d x ↔ ¬ D x := by
  constructor
  · intro hb
    induction hb with
    | refl _ => exact h2
    | @step b e r1 r2 r3 ih =>
      intro hD
      exact r3 (h3 e b (G.symm _ _ r2) hD (ih (G.ltl r2))).1
  · intro hn
    have := G.conn (fun y => D y ∨ Br near c d y) ⟨c, G.ltl h, .inl h1⟩ (fun y z hy hz => by
      by_cases q : D z
      · exact .inl q
      · rcases hy with hy | hy
        · obtain ⟨e1, e2⟩ := h3 y z hz hy q
          subst e2
          exact .inr (.refl (G.ne h))
        · refine .inr (.step hy hz fun e => ?_)
          rw [e] at q; exact q h1) x hx
    exact this.resolve_left hn
theorem br_self (G : IsTree n near) (h : d ∈ nb near c) : Br near c d d := .refl (G.ne h)
theorem br_not (_G : IsTree n near) : ¬ Br near c d c := fun h => h.fin rfl
/-- one link, two sides -/
theorem br_compl (G : IsTree n near) (h : d ∈ nb near c) (hx : x < n) : Br near d c x ↔ ¬ Br near c d x := by
  obtain ⟨D, h1, h2, h3⟩ := G.cut c d h
  rw [G.br_iff h h1 h2 h3 hx, G.br_iff (D := fun x => ¬ D x) (G.symm _ _ h) h2 (fun q => q h1) (fun x y hy p q => by
    have q : D y := Classical.not_not.mp q
    obtain ⟨e1, e2⟩ := h3 y x (G.symm _ _ hy) q p
    exact ⟨e2, e1⟩) hx]
theorem be_add (G : IsTree n near) (h : d ∈ nb near c) : be n near c d + be n near d c = n := by
  have := cnt_add (n := n) (P := Br near c d) (Q := Br near d c) (R := fun _ => True) (fun x l => ⟨fun _ => by
    have := G.br_compl h l
    by_cases q : Br near c d x
    · exact .inl q
    · exact .inr (this.mpr q), fun _ => trivial⟩) (fun x l z => (G.br_compl h l).mp z.2 z.1)
  rw [cnt_true (P := fun _ => True) (fun _ _ => trivial)] at this
  exact this.symm
/-- a path that leaves side d of the link c d by c -/
theorem cross_link (G : IsTree n near) (h : d ∈ nb near c) (r : Reach near S a b) (ha : Br near c d a) (hb : ¬ Br near c d b) (hl : a < n) : S c ∧ S d := by
  obtain ⟨x, y, rx, sx, sy, hy, dx, dy⟩ := r.cross (D := Br near c d) ha hb
  obtain ⟨D, h1, h2, h3⟩ := G.cut c d h
  have hx : x < n := G.ltl hy
  have hyl : y < n := G.lt _ _ hy
  rw [G.br_iff h h1 h2 h3 hx] at dx
  rw [G.br_iff h h1 h2 h3 hyl] at dy
  have dy : D y := Classical.not_not.mp dy
  obtain ⟨e1, e2⟩ := h3 y x (G.symm _ _ hy) dy dx
  exact ⟨e1 ▸ sy, e2 ▸ sx⟩
theorem br_disj (G : IsTree n near) (h1 : d ∈ nb near c) (h2 : e ∈ nb near c) (hne : d ≠ e) (hx : x < n) (p : Br near c d x) (q : Br near c e x) : False := by
  obtain ⟨D, g1, g2, g3⟩ := G.cut c d h1
  have p' := (G.br_iff h1 g1 g2 g3 hx).mp p
  have key : ∀ x, Br near c e x → D x := by
    intro x hq
    induction hq with
    | refl _ =>
      apply Classical.byContradiction
      intro z
      exact hne (g3 c e h2 g1 z).2.symm
    | @step b f r1 r2 r3 ih =>
      apply Classical.byContradiction
      intro z
      exact r1.fin (g3 b f r2 ih z).1
  exact p' (key x q)
theorem br_cover (G : IsTree n near) (hc : c < n) (hx : x < n) (hne : x ≠ c) : ∃ d, d ∈ nb near c ∧ Br near c d x := by
  have := G.conn (fun y => y = c ∨ ∃ d, d ∈ nb near c ∧ Br near c d y) ⟨c, hc, .inl rfl⟩ (fun y z hy hz => by
    by_cases q : z = c
    · exact .inl q
    · rcases hy with rfl | ⟨d, h1, h2⟩
      · exact .inr ⟨z, hz, .refl q⟩
      · exact .inr ⟨d, h1, .step h2 hz q⟩) x hx
  exact this.resolve_left hne
/-- behind d, away from c: within the branch -/
theorem br_sub (G : IsTree n near) (h1 : d ∈ nb near c) (h2 : e ∈ nb near d) (hne : e ≠ c) (p : Br near d e x) : Br near c d x := by
  have hc : c ∈ nb near d := G.symm _ _ h1
  have nc : ∀ y, Br near d e y → y ≠ c := fun y hy q => by
    subst q
    exact G.br_disj h2 hc hne (G.ltl h1) hy (G.br_self hc)
  exact (Reach.step (.refl (G.ne h1)) h2 hne : Reach near (· ≠ c) d e).trans (p.mono fun y hy _ => nc y hy)
theorem be_lt (G : IsTree n near) (h1 : d ∈ nb near c) (h2 : e ∈ nb near d) (hne : e ≠ c) : be n near d e < be n near c d :=
  cnt_lt (a := d) (fun _ _ p => G.br_sub h1 h2 hne p) (G.lt _ _ h1) (G.br_self h1) G.br_not

/-! ### regions -/
structure Region (n : Nat) (near : List (List Nat)) (R : Nat → Prop) : Prop where
  ne : ∃ r, R r
  lt : ∀ r, R r → r < n
  conn : ∀ a b, R a → R b → Reach near R a b
/-- the outer piece of x -/
abbrev Outer (near : List (List Nat)) (R : Nat → Prop) (x : Nat) : Nat → Prop := Reach near (fun y => ¬ R y) x
theorem outer_br (G : IsTree n near) (C : Region n near R) (hx : x < n) (hr : ¬ R x) : ∃ r d, R r ∧ d ∈ nb near r ∧ ¬ R d ∧ ∀ y, Outer near R x y ↔ Br near r d y := by
  obtain ⟨r0, hr0⟩ := C.ne
  -- a link out of the piece
  have ⟨d, r, h1, h2, h3⟩ : ∃ d r, Outer near R x d ∧ r ∈ nb near d ∧ R r := by
    apply Classical.byContradiction
    intro no
    have := G.conn (Outer near R x) ⟨x, hx, .refl hr⟩ (fun y z hy hz => .step hy hz fun q => no ⟨y, z, hy, hz, q⟩) r0 (C.lt _ hr0)
    exact this.fin hr0
  have hd : d ∈ nb near r := G.symm _ _ h2
  refine ⟨r, d, h3, hd, h1.fin, fun y => ⟨fun hy => ?_, fun hy => ?_⟩⟩
  · exact ((G.rsymm h1).trans hy).mono fun z _ q e => q (e ▸ h3)
  · refine h1.trans (hy.mono fun z hz _ q => ?_)
    obtain ⟨_, q2⟩ := G.cross_link hd (C.conn z r q h3) hz G.br_not (C.lt _ q)
    exact h1.fin q2
/-- every branch of c has at most t cells -/
def Keep (n : Nat) (near : List (List Nat)) (t c : Nat) : Prop := ∀ d, d ∈ nb near c → be n near c d ≤ t
def Heavy (n : Nat) (near : List (List Nat)) (t c d : Nat) : Prop := d ∈ nb near c ∧ t < be n near c d ∧ t < be n near d c
def Back (n : Nat) (near : List (List Nat)) (t c : Nat) : Prop := ∃ d, Heavy n near t c d
def Calm (n : Nat) (near : List (List Nat)) (t : Nat) (R : Nat → Prop) : Prop := ∀ x, x < n → ¬ R x → cnt n (Outer near R x) ≤ t
variable {t : Nat}
theorem keep_calm (G : IsTree n near) (C : Region n near R) (hk : ∃ k, k < n ∧ Keep n near t k) : Calm n near t R ↔ ∃ c, R c ∧ Keep n near t c := by
  constructor
  · intro hc
    obtain ⟨k, hk, kk⟩ := hk
    by_cases hr : R k
    · exact ⟨k, hr, kk⟩
    · obtain ⟨r, d, h1, h2, h3, h4⟩ := G.outer_br C hk hr
      refine ⟨r, h1, fun e he => ?_⟩
      have hkd : Br near r d k := (h4 k).mp (.refl hr)
      by_cases hed : e = d
      · subst hed
        have := hc k hk hr
        rw [cnt_congr (fun x _ => h4 x)] at this
        exact this
      · have hkr : r ≠ k := fun q => hr (q ▸ h1)
        obtain ⟨f, hf1, hf2⟩ := G.br_cover hk (C.lt _ h1) hkr
        refine Nat.le_trans (cnt_mono fun y hy p => ?_) (kk f hf1)
        have nk : ∀ z, Br near r e z → z ≠ k := fun z hz q => by
          subst q
          exact G.br_disj he h2 hed hk hz hkd
        exact (Reach.step hf2 he (nk e (G.br_self he))).trans (p.mono fun z hz _ => nk z hz)
  · rintro ⟨c, h1, h2⟩ x hx hr
    obtain ⟨e, he, hb⟩ := G.br_cover (C.lt _ h1) hx (fun q => hr (q ▸ h1))
    refine Nat.le_trans (cnt_mono fun y hy p => ?_) (h2 e he)
    exact hb.trans (p.mono fun z _ q w => q (w ▸ h1))
/-- walking into a heavy side one comes to a heavy link -/
theorem descent (G : IsTree n near) (no : ∀ k, k < n → ¬ Keep n near t k) : ∀ (m c d : Nat), be n near c d ≤ m → d ∈ nb near c → be n near d c ≤ t → ∃ a b, Heavy n near t a b ∧ Br near c d a ∧ Br near c d b := by
  intro m
  induction m with
  | zero =>
    intro c d hm h
    have := cnt_pos (n := n) (P := Br near c d) (G.lt _ _ h) (G.br_self h)
    unfold be at hm
    omega
  | succ m ih =>
    intro c d hm h ht
    have hn := no d (G.lt _ _ h)
    have ⟨e, he, hlt⟩ : ∃ e, e ∈ nb near d ∧ t < be n near d e := by
      apply Classical.byContradiction
      intro z
      exact hn fun e he => Nat.le_of_not_lt fun q => z ⟨e, he, q⟩
    have hne : e ≠ c := fun q => by subst q; omega
    have hsub : ∀ x, Br near d e x → Br near c d x := fun x p => G.br_sub h he hne p
    by_cases hh : t < be n near e d
    · exact ⟨d, e, ⟨he, hlt, hh⟩, G.br_self h, hsub e (G.br_self he)⟩
    · have hl := G.be_lt h he hne
      obtain ⟨a, b, h1, h2, h3⟩ := ih d e (by omega) he (by omega)
      exact ⟨a, b, h1, hsub a h2, hsub b h3⟩
theorem Heavy.symm (G : IsTree n near) (h : Heavy n near t a b) : Heavy n near t b a := ⟨G.symm _ _ h.1, h.2.2, h.2.1⟩
theorem back_ne (G : IsTree n near) (no : ∀ k, k < n → ¬ Keep n near t k) : ∃ a b, Heavy n near t a b := by
  have ⟨d, hd, hlt⟩ : ∃ d, d ∈ nb near 0 ∧ t < be n near 0 d := by
    apply Classical.byContradiction
    intro z
    exact no 0 G.pos fun e he => Nat.le_of_not_lt fun q => z ⟨e, he, q⟩
  by_cases hh : t < be n near d 0
  · exact ⟨0, d, hd, hlt, hh⟩
  · obtain ⟨a, b, h, _⟩ := G.descent no _ 0 d (Nat.le_refl _) hd (by omega)
    exact ⟨a, b, h⟩
theorem back_calm (G : IsTree n near) (C : Region n near R) (no : ∀ k, k < n → ¬ Keep n near t k) : Calm n near t R ↔ ∀ c, Back n near t c → R c := by
  constructor
  · rintro hc a ⟨b, hab, h1, h2⟩
    apply Classical.byContradiction
    intro hr
    have ha : a < n := G.ltl hab
    obtain ⟨r, hrr⟩ := C.ne
    have hP := hc a ha hr
    have hba := G.symm _ _ hab
    by_cases hs : Br near a b r
    · -- r on b's side: a's side is outside
      have : be n near b a ≤ cnt n (Outer near R a) := cnt_mono fun y hy p => by
        refine p.mono fun z hz _ q => ?_
        have := G.cross_link hba (C.conn z r q hrr) hz (fun w => (G.br_compl hab (C.lt _ hrr)).mp w hs) (C.lt _ q)
        exact hr this.2
      omega
    · have nR : ∀ z, Br near a b z → ¬ R z := fun z hz q => by
        have := G.cross_link hab (C.conn z r q hrr) hz hs (C.lt _ q)
        exact hr this.1
      have : be n near a b ≤ cnt n (Outer near R a) := cnt_mono fun y hy p => by
        exact (Reach.step (.refl hr) hab (nR b (G.br_self hab))).trans (p.mono fun z hz _ => nR z hz)
      omega
  · intro hb x hx hr
    obtain ⟨r, d, h1, h2, h3, h4⟩ := G.outer_br C hx hr
    apply Classical.byContradiction
    intro hlt
    rw [cnt_congr (fun x _ => h4 x)] at hlt
    have hlt : t < be n near r d := Nat.lt_of_not_le hlt
    by_cases hh : t < be n near d r
    · exact h3 (hb d ⟨r, G.symm _ _ h2, hh, hlt⟩)
    · obtain ⟨a, b, g1, g2, g3⟩ := G.descent no _ r d (Nat.le_refl _) h2 (by omega)
      exact ((h4 a).mpr g2).fin (hb a ⟨b, g1⟩)
/-- a branch that holds a cell of the backbone is heavy -/
theorem heavy_side (G : IsTree n near) (h : e ∈ nb near a) (hc : Br near a e c) (hb : Back n near t c) : t < be n near a e := by
  obtain ⟨d, hd, h1, h2⟩ := hb
  have ha : a < n := G.ltl h
  have hcn : c < n := G.ltl hd
  by_cases hs : Br near d c a
  · -- a on c's side: d's side lies in the branch
    have nd : ¬ Br near c d a := (G.br_compl hd ha).mp hs
    have na : ∀ z, Br near c d z → z ≠ a := fun z hz q => nd (q ▸ hz)
    exact Nat.lt_of_lt_of_le h1 (cnt_mono fun y hy p => (Reach.step hc hd (na d (G.br_self hd))).trans (p.mono fun z hz _ => na z hz))
  · have na : ∀ z, Br near d c z → z ≠ a := fun z hz q => hs (q ▸ hz)
    exact Nat.lt_of_lt_of_le h2 (cnt_mono fun y hy p => hc.trans (p.mono fun z hz _ => na z hz))
/-- neighbours in the backbone are joined by a heavy link -/
theorem back_link (G : IsTree n near) (h : d ∈ nb near c) (hc : Back n near t c) (hd : Back n near t d) : Heavy n near t c d :=
  ⟨h, G.heavy_side h (G.br_self h) hd, G.heavy_side (G.symm _ _ h) (G.br_self (G.symm _ _ h)) hc⟩
theorem back_conn (G : IsTree n near) (ha : Back n near t a) (hc : Back n near t c) : Reach near (Back n near t) a c := by
  apply Classical.byContradiction
  intro no
  have han : a < n := by obtain ⟨b, hb, _⟩ := ha; exact G.ltl hb
  have hcn : c < n := by obtain ⟨b, hb, _⟩ := hc; exact G.ltl hb
  have C : Region n near (Reach near (Back n near t) a) := ⟨⟨a, .refl ha⟩, fun r hr => G.rlt hr han, fun x y hx hy => by
    have := (G.rsymm hx).trans hy
    exact this.mono fun z hz _ => hx.trans hz⟩
  obtain ⟨r, e, h1, h2, h3, h4⟩ := G.outer_br C hcn no
  have hce : Br near r e c := (h4 c).mp (.refl no)
  have hh : Heavy n near t r e := ⟨h2, G.heavy_side h2 hce hc, G.heavy_side (G.symm _ _ h2) (G.br_self (G.symm _ _ h2)) h1.fin⟩
  exact h3 (.step h1 h2 ⟨r, Heavy.symm G hh⟩)
theorem back_region (G : IsTree n near) (no : ∀ k, k < n → ¬ Keep n near t k) : Region n near (Back n near t) := by
  obtain ⟨a, b, h⟩ := G.back_ne no
  exact ⟨⟨a, b, h⟩, fun r ⟨b, hb, _⟩ => G.ltl hb, fun x y hx hy => G.back_conn hx hy⟩
/-- a heavy link whose far end is an end of the backbone -/
theorem back_end (G : IsTree n near) : ∀ (m c d : Nat), be n near c d ≤ m → Heavy n near t c d → ∃ g h, Heavy n near t h g ∧ ∀ e, e ∈ nb near g → Back n near t e → e = h := by
  intro m
  induction m with
  | zero =>
    intro c d hm h
    have := h.2.1
    omega
  | succ m ih =>
    intro c d hm h
    by_cases q : ∀ e, e ∈ nb near d → Back n near t e → e = c
    · exact ⟨d, c, h, q⟩
    · have ⟨e, h1, h2, h3⟩ : ∃ e, e ∈ nb near d ∧ Back n near t e ∧ e ≠ c := by
        apply Classical.byContradiction
        intro z
        exact q fun e he hb => Classical.byContradiction fun w => z ⟨e, he, hb, w⟩
      have hh : Heavy n near t d e := G.back_link h1 ⟨c, Heavy.symm G h⟩ h2
      have := G.be_lt h.1 h1 h3
      exact ih d e (by omega) hh
/-- a region without an end -/
theorem region_drop (G : IsTree n near) (C : Region n near R) {g h : Nat} (hg : R g) (hh : h ∈ nb near g) (hr : R h) (only : ∀ e, e ∈ nb near g → R e → e = h) : Region n near (fun x => R x ∧ x ≠ g) := by
  refine ⟨⟨h, hr, G.ne hh⟩, fun r q => C.lt r q.1, fun a b ha hb => ?_⟩
  have key : ∀ x, Reach near R a x → (x ≠ g → Reach near (fun x => R x ∧ x ≠ g) a x) ∧ (x = g → Reach near (fun x => R x ∧ x ≠ g) a h) := by
    intro x hx
    induction hx with
    | refl _ => exact ⟨fun _ => .refl ha, fun q => (ha.2 q).elim⟩
    | @step b c r1 r2 r3 ih =>
      refine ⟨fun q => ?_, fun q => ?_⟩
      · by_cases w : b = g
        · subst w
          have := only c r2 r3
          subst this
          exact ih.2 rfl
        · exact .step (ih.1 w) r2 ⟨r3, q⟩
      · subst q
        have := only b (G.symm _ _ r2) r1.fin
        subst this
        exact ih.1 (G.ne (G.symm _ _ r2))
  exact (key b (C.conn a b ha.1 hb.1)).1 hb.2
theorem region_one (_G : IsTree n near) (hc : c < n) : Region n near (fun x => x = c) := ⟨⟨c, rfl⟩, fun r q => q ▸ hc, fun a b ha hb => by subst ha; subst hb; exact .refl rfl⟩
theorem region_comp (G : IsTree n near) (ha : a < n) (hs : S a) : Region n near (Reach near S a) := ⟨⟨a, .refl hs⟩, fun r hr => G.rlt hr ha, fun x y hx hy => ((G.rsymm hx).trans hy).mono fun z hz _ => hx.trans hz⟩
theorem region_all (G : IsTree n near) : Region n near (fun x => x < n) := by
  refine ⟨⟨0, G.pos⟩, fun r q => q, fun a b ha hb => ?_⟩
  exact G.conn (Reach near (fun x => x < n) a) ⟨a, ha, .refl ha⟩ (fun c d h q => .step h q (G.lt _ _ q)) b hb
theorem region_grow (G : IsTree n near) (C : Region n near R) (hc : R c) (hd : d ∈ nb near c) : Region n near (fun x => R x ∨ x = d) := by
  refine ⟨⟨c, .inl hc⟩, fun r q => q.elim (C.lt r) (fun e => e ▸ G.lt _ _ hd), fun a b ha hb => ?_⟩
  have key : ∀ x, (R x ∨ x = d) → Reach near (fun x => R x ∨ x = d) c x := by
    rintro x (h | rfl)
    · exact (C.conn c x hc h).mono fun z _ q => .inl q
    · exact .step (.refl (.inl hc)) hd (.inr rfl)
  exact (G.rsymm (key a ha)).trans (key b hb)
/-- where cells lack, a neighbour may be taken -/
theorem border_ne (G : IsTree n near) (C : Region n near R) (hx : x < n) (hr : ¬ R x) : ∃ c d, R c ∧ d ∈ nb near c ∧ ¬ R d := by
  obtain ⟨r, d, h1, h2, h3, _⟩ := G.outer_br C hx hr
  exact ⟨r, d, h1, h2, h3⟩
theorem Region.congr {R' : Nat → Prop} (C : Region n near R) (h : ∀ x, R x ↔ R' x) : Region n near R' := by
  have : R = R' := funext fun x => propext (h x)
  exact this ▸ C
end IsTree
end Bb
/-! ### lists, pieces, neighbour rows, generated trees -/
namespace Bb
/-! #### lists -/
theorem sorted_lt_ext {l m : List Nat} (hl : l.Pairwise (· < ·)) (hm : m.Pairwise (· < ·)) (h : ∀ x, x ∈ l ↔ x ∈ m) : l = m := by
  have nl : l.Nodup := hl.imp fun h => Nat.ne_of_lt h
  have nm : m.Nodup := hm.imp fun h => Nat.ne_of_lt h
  have hp : l.Perm m := (List.perm_ext_iff_of_nodup nl nm).mpr h
  exact hp.eq_of_pairwise (fun a b _ _ h1 h2 => by omega) (hl.imp fun h => Nat.le_of_lt h) (hm.imp fun h => Nat.le_of_lt h)
theorem sorted_le_ext {l m : List Nat} (hl : l.Pairwise (· ≤ ·)) (hm : m.Pairwise (· ≤ ·)) (h : l.Perm m) : l = m :=
  h.eq_of_pairwise (fun a b _ _ h1 h2 => Nat.le_antisymm h1 h2) hl hm
theorem strict_of {l : List Nat} (h : l.Pairwise (· ≤ ·)) (n : l.Nodup) : l.Pairwise (· < ·) := by
  induction l with
  | nil => exact .nil
  | cons a r ih =>
    rw [List.pairwise_cons] at *
    rw [List.nodup_cons] at n
    exact ⟨fun b hb => Nat.lt_of_le_of_ne (h.1 b hb) fun e => n.1 (e ▸ hb), ih h.2 n.2⟩
theorem nodup_le {l : List Nat} {n : Nat} (h : l.Nodup) (hl : ∀ x ∈ l, x < n) : l.length ≤ n := by
  have := h.length_le_of_subset (l₂ := List.range n) fun x hx => List.mem_range.mpr (hl x hx)
  simpa using this

/-! #### pieces -/
structure Pieces (near : List (List Nat)) (S : List Nat) (ps : List (List Nat)) : Prop where
  each : ∀ p ∈ ps, p.Pairwise (· < ·) ∧ ∃ a, a ∈ S ∧ ∀ x, x ∈ p ↔ Reach near (· ∈ S) a x
  cover : ∀ x ∈ S, ∃ p ∈ ps, x ∈ p
  disj : ps.Pairwise (fun p q => ∀ x, x ∈ p → x ∉ q)

/-- a symmetric neighbour table of cells below n -/
structure Tab (n : Nat) (near : List (List Nat)) : Prop where
  len : near.length = n
  lt : ∀ c d, d ∈ nb near c → d < n
  nodup : ∀ c, (nb near c).Nodup
  symm : ∀ c d, d ∈ nb near c → c ∈ nb near d
theorem IsTree.tab {n : Nat} {near : List (List Nat)} (G : IsTree n near) : Tab n near := ⟨G.len, G.lt, G.nodup, G.symm⟩
theorem Tab.ltl {n : Nat} {near : List (List Nat)} (T : Tab n near) {c d : Nat} (h : d ∈ nb near c) : c < n := T.lt _ _ (T.symm _ _ h)
theorem Tab.rsymm {n : Nat} {near : List (List Nat)} (G : Tab n near) {S : Nat → Prop} {a b : Nat} (h : Reach near S a b) : Reach near S b a := by
  have key : ∀ c, Reach near S a c → ∀ x, Reach near S c x → Reach near S x c := by
    intro c _ x h2
    induction h2 with
    | refl hs => exact .refl hs
    | step h1 h2 h3 ih => exact (Reach.step (.refl h3) (G.symm _ _ h2) h1.fin).trans ih
  exact key a (.refl h.start) b h

/-- what a search has done: ps the pieces so far, left the cells not seen yet -/
structure Seen (near : List (List Nat)) (S : List Nat) (left : Nat → Prop) (ps : List (List Nat)) : Prop where
  each : ∀ p ∈ ps, p.Pairwise (· < ·) ∧ ∃ a, a ∈ S ∧ ∀ x, x ∈ p ↔ Reach near (· ∈ S) a x
  lf : ∀ x, left x ↔ x ∈ S ∧ ∀ p ∈ ps, x ∉ p
  disj : ps.Pairwise (fun p q => ∀ x, x ∈ p → x ∉ q)
theorem Seen.start {near : List (List Nat)} {S : List Nat} {left : Nat → Prop} (h : ∀ x, left x ↔ x ∈ S) : Seen near S left [] :=
  ⟨fun p hp => (nomatch hp), fun x => by rw [h]; simp, .nil⟩
theorem Seen.done {near : List (List Nat)} {S : List Nat} {left : Nat → Prop} {ps : List (List Nat)} (h : Seen near S left ps) (no : ∀ x, ¬ left x) : Pieces near S ps :=
  ⟨h.each, fun x hx => by
    apply Classical.byContradiction
    intro z
    exact no x ((h.lf x).mpr ⟨hx, fun p hp q => z ⟨p, hp, q⟩⟩), h.disj⟩
/-- within one piece: at cells are looked through -/
structure Grow (near : List (List Nat)) (S : List Nat) (left0 : Nat → Prop) (start : Nat) (left : Nat → Prop) (piece : List Nat) (at_ : Nat) : Prop where
  nodup : piece.Nodup
  mem : ∀ x ∈ piece, left0 x ∧ Reach near (· ∈ S) start x
  first : start ∈ piece
  lf : ∀ x, left x ↔ left0 x ∧ x ∉ piece
  done : ∀ j < at_, ∀ x, piece[j]? = some x → ∀ c ∈ nb near x, ¬ left c
section
variable {n : Nat} {near : List (List Nat)} {S : List Nat} {left left0 : Nat → Prop} {st0 at_ : Nat} {piece : List Nat} {ps : List (List Nat)}
theorem Seen.closed (T : Tab n near) (h : Seen near S left ps) {x c : Nat} (hx : left x) (hc : c ∈ nb near x) (hs : c ∈ S) : left c := by
  rw [h.lf] at *
  refine ⟨hs, fun p hp q => ?_⟩
  obtain ⟨_, a, _, ha⟩ := h.each p hp
  exact hx.2 p hp ((ha x).mpr (.step ((ha c).mp q) (T.symm _ _ hc) hx.1))
theorem Grow.init (h : Seen near S left0 ps) (hs : left0 st0) (hl : ∀ x, left x ↔ left0 x ∧ x ≠ st0) : Grow near S left0 st0 left [st0] 0 :=
  ⟨by simp, fun x hx => by
    have : x = st0 := by simpa using hx
    subst this
    exact ⟨hs, .refl ((h.lf _).mp hs).1⟩, by simp, fun x => by rw [hl]; simp, fun j hj => by omega⟩
/-- one cell looked through: more are the cells found -/
theorem Grow.step (h : Seen near S left0 ps) (g : Grow near S left0 st0 left piece at_) {x : Nat} (hx : piece[at_]? = some x) {more : List Nat} {left' : Nat → Prop} (hn : more.Nodup)
    (hm : ∀ c, c ∈ more ↔ c ∈ nb near x ∧ left c) (hl : ∀ c, left' c ↔ left c ∧ c ∉ more) : Grow near S left0 st0 left' (piece ++ more) (at_ + 1) := by
  have hxm := List.mem_of_getElem? hx
  have hat : at_ < piece.length := (List.getElem?_eq_some_iff.mp hx).1
  refine ⟨?_, fun c hc => ?_, List.mem_append_left _ g.first, fun c => ?_, fun j hj y hy c hc q => ?_⟩
  · rw [List.nodup_append]
    refine ⟨g.nodup, hn, fun a ha b hb e => ?_⟩
    subst e
    exact ((g.lf a).mp ((hm a).mp hb).2).2 ha
  · rcases List.mem_append.mp hc with hc | hc
    · exact g.mem c hc
    · obtain ⟨h1, h2⟩ := (hm c).mp hc
      have l0 := ((g.lf c).mp h2).1
      exact ⟨l0, .step (g.mem x hxm).2 h1 ((h.lf c).mp l0).1⟩
  · rw [hl, g.lf, List.mem_append, not_or, and_assoc]
  · obtain ⟨q1, q2⟩ := (hl c).mp q
    by_cases e : j = at_
    · subst e
      rw [List.getElem?_append_left hat, hx] at hy
      cases hy
      exact q2 ((hm c).mpr ⟨hc, q1⟩)
    · have hj' : j < at_ := by omega
      rw [List.getElem?_append_left (by omega)] at hy
      exact g.done j hj' y hy c hc q1
theorem Grow.len (T : Tab n near) (g : Grow near S left0 st0 left piece at_) (hs : ∀ x ∈ S, x < n) : piece.length ≤ n :=
  nodup_le g.nodup fun x hx => hs x (g.mem x hx).2.fin
/-- at the end the piece is all that is reached -/
theorem Grow.fin (T : Tab n near) (h : Seen near S left0 ps) (g : Grow near S left0 st0 left piece at_) (hat : at_ = piece.length) {q : List Nat} (hq : q.Perm piece) (hq2 : q.Pairwise (· ≤ ·)) : Seen near S left (ps ++ [q]) := by
  have mem : ∀ x, x ∈ piece ↔ Reach near (· ∈ S) st0 x := fun x => ⟨fun hx => (g.mem x hx).2, fun hx => by
    induction hx with
    | refl _ => exact g.first
    | @step b c r1 r2 r3 ih =>
      obtain ⟨j, hj, e⟩ := List.mem_iff_getElem.mp ih
      have nl := g.done j (by omega) b (by rw [List.getElem?_eq_getElem hj, e]) c r2
      have lc := h.closed T (g.mem b ih).1 r2 r3
      apply Classical.byContradiction
      intro z
      exact nl ((g.lf c).mpr ⟨lc, z⟩)⟩
  refine ⟨fun p hp => ?_, fun x => ?_, ?_⟩
  · rcases List.mem_append.mp hp with hp | hp
    · exact h.each p hp
    · have : p = q := by simpa using hp
      subst this
      exact ⟨strict_of hq2 (hq.nodup_iff.mpr g.nodup), st0, ((h.lf _).mp (g.mem _ g.first).1).1, fun x => by rw [hq.mem_iff]; exact mem x⟩
  · rw [g.lf, h.lf]
    constructor
    · rintro ⟨⟨h1, h2⟩, h3⟩
      refine ⟨h1, fun p hp z => ?_⟩
      rcases List.mem_append.mp hp with hp | hp
      · exact h2 p hp z
      · have : p = q := by simpa using hp
        subst this
        exact h3 (hq.mem_iff.mp z)
    · rintro ⟨h1, h2⟩
      exact ⟨⟨h1, fun p hp => h2 p (List.mem_append_left _ hp)⟩, fun z => h2 q (by simp) (hq.mem_iff.mpr z)⟩
  · rw [List.pairwise_append]
    refine ⟨h.disj, by simp, fun p hp r hr x hx z => ?_⟩
    have : r = q := by simpa using hr
    subst this
    have := (g.mem x (hq.mem_iff.mp z)).1
    exact ((h.lf x).mp this).2 p hp hx
end
section
variable {n : Nat} {near : List (List Nat)} {S : List Nat} {ps : List (List Nat)}
theorem Pieces.sub (P : Pieces near S ps) {p : List Nat} (hp : p ∈ ps) {x : Nat} (hx : x ∈ p) : x ∈ S := by
  obtain ⟨_, a, _, h⟩ := P.each p hp
  exact ((h x).mp hx).fin
theorem Pieces.ne (P : Pieces near S ps) {p : List Nat} (hp : p ∈ ps) : p ≠ [] := by
  obtain ⟨_, a, ha, h⟩ := P.each p hp
  intro e
  have := (h a).mpr (.refl ha)
  rw [e] at this
  cases this
theorem Pieces.len (P : Pieces near S ps) (hn : S.Nodup) : (ps.map List.length).sum = S.length := by
  have e : (ps.map List.length).sum = ps.flatten.length := by simp [List.length_flatten]
  rw [e]
  apply List.Perm.length_eq
  rw [List.perm_ext_iff_of_nodup ?_ hn]
  · intro x
    rw [List.mem_flatten]
    constructor
    · rintro ⟨p, hp, hx⟩
      exact P.sub hp hx
    · intro hx
      obtain ⟨p, hp, h⟩ := P.cover x hx
      exact ⟨p, hp, h⟩
  · show ps.flatten.Pairwise (· ≠ ·)
    rw [List.pairwise_flatten]
    refine ⟨fun p hp => ((P.each p hp).1).imp fun h => Nat.ne_of_lt h, P.disj.imp fun {p q} h x hx y hy e => ?_⟩
    subst e
    exact h x hx hy
/-- the pieces' sizes: those of the cells' pieces -/
theorem Pieces.sizes (T : Tab n near) (P : Pieces near S ps) (hs : ∀ x ∈ S, x < n) (v : Nat) : v ∈ ps.map List.length ↔ ∃ x, x ∈ S ∧ v = cnt n (Reach near (· ∈ S) x) := by
  have one : ∀ p ∈ ps, ∀ x ∈ p, p.length = cnt n (Reach near (· ∈ S) x) := fun p hp x hx => by
    obtain ⟨hsrt, a, ha, h⟩ := P.each p hp
    refine (cnt_list (hsrt.imp fun h => Nat.ne_of_lt h) (fun y hy => hs y (P.sub hp hy)) fun y _ => ?_).symm
    have hax := (h x).mp hx
    exact ⟨fun r => (h y).mpr (hax.trans r), fun r => (T.rsymm hax).trans ((h y).mp r)⟩
  rw [List.mem_map]
  constructor
  · rintro ⟨p, hp, rfl⟩
    obtain ⟨_, a, ha, h⟩ := P.each p hp
    exact ⟨a, ha, one p hp a ((h a).mpr (.refl ha))⟩
  · rintro ⟨x, hx, rfl⟩
    obtain ⟨p, hp, h⟩ := P.cover x hx
    exact ⟨p, hp, one p hp x h⟩
theorem Pieces.one (P : Pieces near S ps) (hne : S ≠ []) (hc : ∀ a b, a ∈ S → b ∈ S → Reach near (· ∈ S) a b) : ps.length = 1 := by
  obtain ⟨x, hx⟩ := List.exists_mem_of_ne_nil S hne
  obtain ⟨p, hp, _⟩ := P.cover x hx
  match ps, P, hp with
  | [_], _, _ => rfl
  | p :: q :: r, P, _ =>
    obtain ⟨_, a, ha, h1⟩ := P.each p (by simp)
    obtain ⟨_, b, hb, h2⟩ := P.each q (by simp)
    have := (List.pairwise_cons.mp P.disj).1 q (by simp) b ((h1 b).mpr (hc a b ha hb))
    exact (this ((h2 b).mpr (.refl hb))).elim
theorem Pieces.nil (P : Pieces near [] ps) : ps = [] := by
  cases ps with
  | nil => rfl
  | cons p r =>
    obtain ⟨_, a, ha, _⟩ := P.each p (by simp)
    cases ha
end

/-! #### neighbour rows of links -/
def nbs (links : List (Nat × Nat)) (c : Nat) : List Nat := links.flatMap fun l => (if l.1 = c then [l.2] else []) ++ (if l.2 = c then [l.1] else [])
structure IsNear (n : Nat) (links : List (Nat × Nat)) (near : List (List Nat)) : Prop where
  len : near.length = n
  row : ∀ c, c < n → (nb near c).Pairwise (· ≤ ·) ∧ (nb near c).Perm (nbs links c)
theorem nb_ge {near : List (List Nat)} {c : Nat} (h : near.length ≤ c) : nb near c = [] := by
  unfold nb
  rw [List.getD_eq_getElem?_getD, List.getElem?_eq_none h]; rfl
theorem nb_at {near : List (List Nat)} {c : Nat} {r : List Nat} (h : near[c]? = some r) : nb near c = r := by
  unfold nb
  rw [List.getD_eq_getElem?_getD, h]; rfl
theorem at_nb {near : List (List Nat)} {c : Nat} (h : c < near.length) : near[c]? = some (nb near c) := by
  unfold nb
  rw [List.getD_eq_getElem?_getD, List.getElem?_eq_getElem h]; rfl
theorem IsNear.unique {n : Nat} {l1 l2 : List (Nat × Nat)} {n1 n2 : List (List Nat)} (h1 : IsNear n l1 n1) (h2 : IsNear n l2 n2) (h : ∀ c, (nbs l1 c).Perm (nbs l2 c)) : n1 = n2 := by
  apply List.ext_getElem?
  intro c
  by_cases hc : c < n
  · rw [at_nb (by rw [h1.len]; exact hc), at_nb (by rw [h2.len]; exact hc)]
    have a := h1.row c hc
    have b := h2.row c hc
    rw [sorted_le_ext a.1 b.1 (a.2.trans ((h c).trans b.2.symm))]
  · rw [List.getElem?_eq_none (by rw [h1.len]; omega), List.getElem?_eq_none (by rw [h2.len]; omega)]
theorem mem_nbs {links : List (Nat × Nat)} {c d : Nat} : d ∈ nbs links c ↔ (c, d) ∈ links ∨ (d, c) ∈ links := by
  unfold nbs
  rw [List.mem_flatMap]
  constructor
  · rintro ⟨⟨a, b⟩, hl, h⟩
    rcases List.mem_append.mp h with h | h
    · split at h
      · rename_i e
        have : d = b := by simpa using h
        subst this e
        exact .inl hl
      · cases h
    · split at h
      · rename_i e
        have : d = a := by simpa using h
        subst this e
        exact .inr hl
      · cases h
  · rintro (h | h)
    · exact ⟨_, h, by simp⟩
    · exact ⟨_, h, by simp⟩
def mm (l : Nat × Nat) : Nat × Nat := (min l.1 l.2, max l.1 l.2)
theorem nbs_cons (l : Nat × Nat) (r : List (Nat × Nat)) (c : Nat) : nbs (l :: r) c = ((if l.1 = c then [l.2] else []) ++ (if l.2 = c then [l.1] else [])) ++ nbs r c := by
  unfold nbs; rw [List.flatMap_cons]
theorem nbs_snoc (l : Nat × Nat) (r : List (Nat × Nat)) (c : Nat) : nbs (r ++ [l]) c = nbs r c ++ ((if l.1 = c then [l.2] else []) ++ (if l.2 = c then [l.1] else [])) := by
  unfold nbs; rw [List.flatMap_append]; simp
theorem nbs_perm {l m : List (Nat × Nat)} (h : l.Perm m) (c : Nat) : (nbs l c).Perm (nbs m c) := by
  unfold nbs
  exact h.flatMap_right _
theorem nbs_mm : ∀ (l : List (Nat × Nat)) (c : Nat), (nbs (l.map mm) c).Perm (nbs l c)
  | [], c => .refl _
  | (a, b) :: r, c => by
    rw [List.map_cons, nbs_cons, nbs_cons]
    refine List.Perm.append ?_ (nbs_mm r c)
    unfold mm
    by_cases h : a ≤ b
    · simp only [Nat.min_eq_left h, Nat.max_eq_right h]; exact .refl _
    · have h : b ≤ a := by omega
      simp only [Nat.min_eq_right h, Nat.max_eq_left h]
      exact List.perm_append_comm

/-! #### generated trees -/
def edge (π p : Nat → Nat) (f : Nat → Bool) (k : Nat) : Nat × Nat := if f k then (π (p k), π k) else (π k, π (p k))
structure Made (n : Nat) (links : List (Nat × Nat)) (π p : Nat → Nat) (f : Nat → Bool) : Prop where
  pos : 0 < n
  lt : ∀ k, k < n → π k < n
  inj : ∀ j k, j < n → k < n → π j = π k → j = k
  sur : ∀ c, c < n → ∃ k, k < n ∧ π k = c
  par : ∀ k, 1 ≤ k → k < n → p k < k
  links : links.Perm ((List.range' 1 (n - 1)).map (edge π p f))
def Gen (n : Nat) (links : List (Nat × Nat)) : Prop := ∃ π p f, Made n links π p f
/-- j hangs beneath k -/
inductive Desc (p : Nat → Nat) (k : Nat) : Nat → Prop
  | self : Desc p k k
  | step {j : Nat} : 1 ≤ j → Desc p k (p j) → Desc p k j
section
variable {n : Nat} {links : List (Nat × Nat)} {π p : Nat → Nat} {f : Nat → Bool}
theorem Made.mem (M : Made n links π p f) {a b : Nat} : (a, b) ∈ links ↔ ∃ k, 1 ≤ k ∧ k < n ∧ edge π p f k = (a, b) := by
  rw [M.links.mem_iff, List.mem_map]
  constructor
  · rintro ⟨k, hk, e⟩
    rw [List.mem_range'_1] at hk
    exact ⟨k, hk.1, by omega, e⟩
  · rintro ⟨k, h1, h2, e⟩
    exact ⟨k, by rw [List.mem_range'_1]; omega, e⟩
theorem Made.sym (M : Made n links π p f) {a b : Nat} : (a, b) ∈ links ∨ (b, a) ∈ links ↔ ∃ k, 1 ≤ k ∧ k < n ∧ ((a = π k ∧ b = π (p k)) ∨ (b = π k ∧ a = π (p k))) := by
  rw [M.mem, M.mem]
  constructor
  · rintro (⟨k, h1, h2, e⟩ | ⟨k, h1, h2, e⟩) <;>
    · unfold edge at e
      refine ⟨k, h1, h2, ?_⟩
      split at e <;> simp at e <;> simp [e]
  · rintro ⟨k, h1, h2, h⟩
    cases hf : f k <;> rcases h with ⟨rfl, rfl⟩ | ⟨rfl, rfl⟩
    · exact .inl ⟨k, h1, h2, by simp [edge, hf]⟩
    · exact .inr ⟨k, h1, h2, by simp [edge, hf]⟩
    · exact .inr ⟨k, h1, h2, by simp [edge, hf]⟩
    · exact .inl ⟨k, h1, h2, by simp [edge, hf]⟩
theorem Made.len (M : Made n links π p f) : links.length = n - 1 := by
  rw [M.links.length_eq]; simp
theorem Made.plt (M : Made n links π p f) {k : Nat} (h1 : 1 ≤ k) (h2 : k < n) : p k < n := Nat.lt_trans (M.par k h1 h2) h2
theorem Made.range (M : Made n links π p f) {a b : Nat} (h : (a, b) ∈ links) : a < n ∧ b < n := by
  obtain ⟨k, h1, h2, e⟩ := M.mem.mp h
  have l1 := M.lt k h2
  have l2 := M.lt (p k) (M.plt h1 h2)
  unfold edge at e
  split at e <;> (rw [Prod.mk.injEq] at e; obtain ⟨rfl, rfl⟩ := e; exact ⟨by assumption, by assumption⟩)
theorem Desc.le (M : Made n links π p f) {k j : Nat} (h : Desc p k j) (hj : j < n) : k ≤ j := by
  induction h with
  | self => exact Nat.le_refl _
  | @step j h1 h2 ih =>
    have := M.par j h1 hj
    have := ih (by omega)
    omega
theorem Desc.across (M : Made n links π p f) {k j : Nat} (h1 : 1 ≤ j) (h2 : j < n) (hne : j ≠ k) : Desc p k j ↔ Desc p k (p j) :=
  ⟨fun h => by
    cases h with
    | self => exact (hne rfl).elim
    | step _ h => exact h, fun h => .step h1 h⟩
theorem Made.lo (M : Made n links π p f) {k : Nat} (h1 : 1 ≤ k) (h2 : k < n) : ¬ Desc p k (p k) := fun h => by
  have := h.le M (M.plt h1 h2)
  have := M.par k h1 h2
  omega
/-- the cells beneath k -/
def Below (n : Nat) (π p : Nat → Nat) (k c : Nat) : Prop := ∃ j, j < n ∧ c = π j ∧ Desc p k j
theorem Made.below (M : Made n links π p f) {k j : Nat} (hj : j < n) : Below n π p k (π j) ↔ Desc p k j :=
  ⟨fun ⟨i, hi, e, h⟩ => by rw [M.inj j i hj hi e]; exact h, fun h => ⟨j, hj, rfl, h⟩⟩
/-- a link other than that of k doesn't leave the cells beneath k -/
theorem Made.same (M : Made n links π p f) {k j : Nat} (h1 : 1 ≤ j) (h2 : j < n) (hne : j ≠ k) : Below n π p k (π j) ↔ Below n π p k (π (p j)) := by
  rw [M.below h2, M.below (M.plt h1 h2)]
  exact Desc.across M h1 h2 hne
theorem Made.tree (M : Made n links π p f) {near : List (List Nat)} (N : IsNear n links near) : IsTree n near := by
  have mem : ∀ c d, d ∈ nb near c ↔ ∃ k, 1 ≤ k ∧ k < n ∧ ((c = π k ∧ d = π (p k)) ∨ (d = π k ∧ c = π (p k))) := by
    intro c d
    rw [← M.sym]
    by_cases hc : c < n
    · rw [(N.row c hc).2.mem_iff, mem_nbs]
    · rw [nb_ge (by rw [N.len]; omega)]
      refine ⟨(fun h => nomatch h), fun h => ?_⟩
      rcases h with h | h
      · exact absurd (M.range h).1 hc
      · exact absurd (M.range h).2 hc
  have nd : ∀ c, (nb near c).Nodup := by
    intro c
    by_cases hc : c < n
    · rw [(N.row c hc).2.nodup_iff, (nbs_perm M.links c).nodup_iff]
      -- distinct edges give distinct neighbours
      have key : ∀ (l : List Nat), l.Nodup → (∀ k ∈ l, 1 ≤ k ∧ k < n) → (nbs (l.map (edge π p f)) c).Nodup := by
        intro l
        induction l with
        | nil => intro _ _; exact List.nodup_nil
        | cons k r ih =>
          intro hn hr
          rw [List.nodup_cons] at hn
          obtain ⟨k1, k2⟩ := hr k (by simp)
          have hne : π k ≠ π (p k) := fun e => by
            have := M.inj k (p k) k2 (M.plt k1 k2) e
            have := M.par k k1 k2
            omega
          rw [List.map_cons, nbs_cons, List.nodup_append]
          refine ⟨?_, ih hn.2 fun j hj => hr j (List.mem_cons_of_mem _ hj), ?_⟩
          · unfold edge
            split <;> (split <;> split <;> simp_all)
          · intro x hx y hy e
            subst e
            rw [mem_nbs] at hy
            have ⟨j, hj, h2⟩ : ∃ j, j ∈ r ∧ ((c = π j ∧ x = π (p j)) ∨ (x = π j ∧ c = π (p j))) := by
              rcases hy with hy | hy <;>
              · obtain ⟨j, hj, ej⟩ := List.mem_map.mp hy
                refine ⟨j, hj, ?_⟩
                unfold edge at ej
                split at ej <;> simp at ej <;> simp [ej]
            have h1 : (c = π k ∧ x = π (p k)) ∨ (x = π k ∧ c = π (p k)) := by
              unfold edge at hx
              split at hx <;> simp at hx <;> rcases hx with ⟨h, rfl⟩ | ⟨h, rfl⟩ <;> simp [h.symm]
            obtain ⟨j1, j2⟩ := hr j (List.mem_cons_of_mem _ hj)
            have hjk : j ≠ k := fun e => hn.1 (e ▸ hj)
            have pj := M.par j j1 j2
            have pk := M.par k k1 k2
            rcases h1 with ⟨a1, a2⟩ | ⟨a1, a2⟩ <;> rcases h2 with ⟨b1, b2⟩ | ⟨b1, b2⟩
            · exact hjk (M.inj j k j2 k2 (b1.symm.trans a1))
            · have e1 := M.inj k (p j) k2 (M.plt j1 j2) (a1.symm.trans b2)
              have e2 := M.inj j (p k) j2 (M.plt k1 k2) (b1.symm.trans a2)
              omega
            · have e1 := M.inj j (p k) j2 (M.plt k1 k2) (b1.symm.trans a2)
              have e2 := M.inj k (p j) k2 (M.plt j1 j2) (a1.symm.trans b2)
              omega
            · exact hjk (M.inj j k j2 k2 (b1.symm.trans a1))
      exact key _ List.nodup_range' fun k hk => by rw [List.mem_range'_1] at hk; omega
    · rw [nb_ge (by rw [N.len]; omega)]
      exact List.nodup_nil
  refine ⟨N.len, M.pos, fun c d h => ?_, fun c => ?_, fun c d h => ?_, fun S hS hcl c hc => ?_, fun c d h => ?_⟩
  · obtain ⟨k, h1, h2, h⟩ := (mem c d).mp h
    rcases h with ⟨_, rfl⟩ | ⟨rfl, _⟩
    · exact M.lt _ (M.plt h1 h2)
    · exact M.lt _ h2
  · by_cases hc : c < n
    · exact strict_of (N.row c hc).1 (nd c)
    · rw [nb_ge (by rw [N.len]; omega)]
      exact .nil
  · obtain ⟨k, h1, h2, h⟩ := (mem c d).mp h
    exact (mem d c).mpr ⟨k, h1, h2, h.symm⟩
  · -- connected
    have down : ∀ k, k < n → S (π k) → S (π 0) := by
      intro k
      induction k using Nat.strongRecOn with
      | _ k ih =>
        intro hk hs
        by_cases h0 : k = 0
        · rw [h0] at hs; exact hs
        · have h1 : 1 ≤ k := by omega
          exact ih (p k) (M.par k h1 hk) (M.plt h1 hk) (hcl _ _ hs ((mem _ _).mpr ⟨k, h1, hk, .inl ⟨rfl, rfl⟩⟩))
    have up : S (π 0) → ∀ k, k < n → S (π k) := by
      intro h0 k
      induction k using Nat.strongRecOn with
      | _ k ih =>
        intro hk
        by_cases hz : k = 0
        · rw [hz]; exact h0
        · have h1 : 1 ≤ k := by omega
          exact hcl _ _ (ih (p k) (M.par k h1 hk) (M.plt h1 hk)) ((mem _ _).mpr ⟨k, h1, hk, .inr ⟨rfl, rfl⟩⟩)
    obtain ⟨a, ha, hsa⟩ := hS
    obtain ⟨k, hk, rfl⟩ := M.sur a ha
    obtain ⟨j, hj, rfl⟩ := M.sur c hc
    exact up (down k hk hsa) j hj
  · -- every link is a cut
    obtain ⟨k, h1, h2, h⟩ := (mem c d).mp h
    have hin : Below n π p k (π k) := (M.below h2).mpr .self
    have hout : ¬ Below n π p k (π (p k)) := fun z => M.lo h1 h2 ((M.below (M.plt h1 h2)).mp z)
    rcases h with ⟨rfl, rfl⟩ | ⟨rfl, rfl⟩
    · refine ⟨Below n π p k, hin, hout, fun x y hy hx hny => ?_⟩
      obtain ⟨j, j1, j2, hj⟩ := (mem x y).mp hy
      by_cases e : j = k
      · subst e
        rcases hj with ⟨rfl, rfl⟩ | ⟨rfl, rfl⟩
        · exact ⟨rfl, rfl⟩
        · exact (hout hx).elim
      · rcases hj with ⟨rfl, rfl⟩ | ⟨rfl, rfl⟩
        · exact (hny ((M.same j1 j2 e).mp hx)).elim
        · exact (hny ((M.same j1 j2 e).mpr hx)).elim
    · refine ⟨fun x => ¬ Below n π p k x, hout, fun z => z hin, fun x y hy hx hny => ?_⟩
      have hny : Below n π p k y := Classical.not_not.mp hny
      obtain ⟨j, j1, j2, hj⟩ := (mem x y).mp hy
      by_cases e : j = k
      · subst e
        rcases hj with ⟨rfl, rfl⟩ | ⟨rfl, rfl⟩
        · exact (hx hin).elim
        · exact ⟨rfl, rfl⟩
      · rcases hj with ⟨rfl, rfl⟩ | ⟨rfl, rfl⟩
        · exact (hx ((M.same j1 j2 e).mpr hny)).elim
        · exact (hx ((M.same j1 j2 e).mp hny)).elim
end
end Bb
/-! ### fair orders and their rows -/
namespace Bb
/-- the letters of an order from the first to the last, true: K -/
def Fair : List Bool → Prop
  | [] => True
  | true :: r => (true :: r).count false < (true :: r).count true ∧ Fair r
  | false :: r => Fair r
def mn (i j : Int) : Int := if j < i then j else i
theorem mn_eq (i j : Int) : mn i j = min i j := by unfold mn; split <;> omega
def cbL (row : List Int) : List Int := row.map (fun b => mn b row.length) ++ [(row.length : Int)]
def ksF (bs : List Int) (i : Nat) : Int := mn (bs.getD (i + 1) 0 + 1) (bs.getD i 0 + 1 + (bs.getD i 0).fdiv ((i : Int) + 1))
def ksL (row : List Int) : List Int := ((cbL row).getD 0 0 + 1) :: (List.range row.length).map (ksF (cbL row))
def rsM (row : List Int) : List Int := (cbL row).map fun b => if b < (row.length : Int) then b else (row.length : Int) + 1
def rsL (row : List Int) : List Int := (rsM row).set 0 (mn ((rsM row).getD 0 0) row.length)
structure RowOk (k S : Nat) (row : List Int) : Prop where
  len : row.length = S
  le : k ≤ S
  first : ∀ b : Int, row[0]? = some b → b = (k : Int)
  more : ∀ (j : Nat) (b : Int), row[j]? = some b → 1 ≤ j → min (((j : Int) + 1) * k) S ≤ b
theorem RowOk.nil : RowOk 0 0 [] := ⟨rfl, by omega, by simp, by simp⟩
theorem cb_len (row : List Int) : (cbL row).length = row.length + 1 := by simp [cbL]
theorem cb_at {row : List Int} {j : Nat} {b : Int} (h : row[j]? = some b) : (cbL row)[j]? = some (mn b row.length) := by
  have hj := (List.getElem?_eq_some_iff.mp h).1
  unfold cbL
  rw [List.getElem?_append_left (by simpa using hj), List.getElem?_map, h]; rfl
theorem cb_last (row : List Int) : (cbL row)[row.length]? = some (row.length : Int) := by
  unfold cbL
  rw [List.getElem?_append_right (by simp)]; simp
/-- what a counted bound is worth -/
theorem RowOk.cb {k S : Nat} {row : List Int} (R : RowOk k S row) {j : Nat} (hj : j ≤ S) : ∃ c, (cbL row)[j]? = some c ∧ c ≤ S ∧ (j = 0 → c = min (k : Int) S) ∧ (1 ≤ j → min (((j : Int) + 1) * k) S ≤ c) := by
  have hl := R.len
  by_cases h : j < S
  · obtain ⟨b, hb⟩ : ∃ b, row[j]? = some b := ⟨row[j], by simp [hl, h]⟩
    refine ⟨_, cb_at hb, ?_, fun e => ?_, fun e => ?_⟩
    · rw [mn_eq]; omega
    · subst e
      rw [R.first b hb, mn_eq]; omega
    · have := R.more j b hb e
      rw [mn_eq]; omega
  · have e : j = S := by omega
    subst e
    refine ⟨_, by rw [← hl]; exact cb_last row, by omega, fun e => ?_, fun e => ?_⟩
    · have := R.le; omega
    · omega
theorem getD_of {l : List Int} {j : Nat} {c : Int} (h : l[j]? = some c) : l.getD j 0 = c := by
  rw [List.getD_eq_getElem?_getD, h]; rfl
theorem mul_ge {j k : Nat} (hj : 1 ≤ j) : 2 * (k : Int) ≤ ((j : Int) + 1) * k := by
  have h : ((2 : Nat) : Int) * k ≤ ((j + 1 : Nat) : Int) * k := by
    rw [← Int.natCast_mul, ← Int.natCast_mul]
    exact Int.ofNat_le.mpr (Nat.mul_le_mul_right k (by omega))
  rw [Int.natCast_add] at h
  exact h
theorem RowOk.keeper {k S : Nat} {row : List Int} (R : RowOk k S row) (h : S ≤ 2 * k) : RowOk (k + 1) (S + 1) (ksL row) := by
  have hl := R.len
  obtain ⟨c0, e0, _, f0, _⟩ := R.cb (j := 0) (by omega)
  have hle := R.le
  refine ⟨by simp [ksL, hl], by omega, fun b hb => ?_, fun j b hb hj => ?_⟩
  · have : b = c0 + 1 := by
      unfold ksL at hb
      rw [getD_of e0] at hb
      exact (Option.some.inj hb).symm
    rw [this, f0 rfl]; omega
  · obtain ⟨i, rfl⟩ : ∃ i, j = i + 1 := ⟨j - 1, by omega⟩
    unfold ksL at hb
    rw [List.getElem?_cons_succ, List.getElem?_map] at hb
    have hi : i < S := by
      apply Classical.byContradiction
      intro z
      rw [List.getElem?_eq_none (by simp [hl]; omega)] at hb
      cases hb
    rw [List.getElem?_range (by omega)] at hb
    simp at hb
    obtain ⟨a, ea, ua, fa, ga⟩ := R.cb (j := i + 1) (by omega)
    obtain ⟨c, ec, uc, fc, gc⟩ := R.cb (j := i) (by omega)
    rw [← hb, ksF, getD_of ea, getD_of ec, mn_eq]
    have h1 := mul_ge (j := i + 1) (k := k) (by omega)
    have ga := ga (by omega)
    have hS : (S : Int) ≤ 2 * k := by omega
    have a1 : (S : Int) ≤ a := by push_cast at *; omega
    have div : 0 ≤ c → 0 ≤ c.fdiv ((i : Int) + 1) := fun hc => Int.fdiv_nonneg hc (by omega)
    by_cases hi0 : i = 0
    · subst hi0
      have : c = k := by rw [fc rfl]; omega
      subst this
      have : (k : Int).fdiv (((0 : Nat) : Int) + 1) = k := by simp
      rw [this]
      push_cast
      omega
    · have g1 := gc (by omega)
      have h2 := mul_ge (j := i) (k := k) (by omega)
      have c1 : (S : Int) ≤ c := by omega
      have := div (by omega)
      push_cast
      omega
theorem RowOk.raider {k S : Nat} {row : List Int} (R : RowOk k S row) : RowOk k (S + 1) (rsL row) := by
  have hl := R.len
  have hle := R.le
  have at_ : ∀ j, j ≤ S → ∀ c, (cbL row)[j]? = some c → (rsM row)[j]? = some (if c < (S : Int) then c else (S : Int) + 1) := fun j hj c e => by
    unfold rsM
    rw [List.getElem?_map, e, hl]; rfl
  obtain ⟨c0, e0, u0, f0, _⟩ := R.cb (j := 0) (by omega)
  refine ⟨by simp [rsL, rsM, cb_len, hl], by omega, fun b hb => ?_, fun j b hb hj => ?_⟩
  · unfold rsL at hb
    rw [List.getElem?_set_self (by simp [rsM, cb_len])] at hb
    have e := getD_of (at_ 0 (by omega) c0 e0)
    simp only [Option.some.injEq] at hb
    rw [← hb, e, mn_eq, hl, f0 rfl]
    split <;> omega
  · unfold rsL at hb
    rw [List.getElem?_set_ne (by omega)] at hb
    have hjS : j ≤ S := by
      have := (List.getElem?_eq_some_iff.mp hb).1
      simp [rsM, cb_len, hl] at this
      omega
    obtain ⟨c, ec, uc, _, gc⟩ := R.cb hjS
    rw [at_ j hjS c ec] at hb
    have hb : (if c < (S : Int) then c else (S : Int) + 1) = b := Option.some.inj hb
    have := gc hj
    rw [← hb]
    split
    · push_cast; omega
    · push_cast; omega
/-! #### top sums -/
def psums (acc : Nat) : List Nat → List Nat
  | [] => []
  | x :: r => (acc + x) :: psums (acc + x) r
def tsL (ss : List Nat) : List Nat := psums 0 ss ++ List.replicate (ss.sum - ss.length) ss.sum
theorem psums_len : ∀ (acc : Nat) (l : List Nat), (psums acc l).length = l.length
  | _, [] => rfl
  | acc, x :: r => by rw [psums, List.length_cons, psums_len, List.length_cons]
theorem psums_snoc : ∀ (acc : Nat) (l : List Nat) (x : Nat), psums acc (l ++ [x]) = psums acc l ++ [acc + l.sum + x]
  | acc, [], x => by simp [psums]
  | acc, y :: r, x => by
    rw [List.cons_append, psums, psums, psums_snoc, List.cons_append, List.sum_cons]
    congr 4
    omega
theorem sum_ge_len : ∀ {l : List Nat}, (∀ x ∈ l, 1 ≤ x) → l.length ≤ l.sum
  | [], _ => Nat.le_refl _
  | x :: r, h => by
    have := sum_ge_len (l := r) fun y hy => h y (List.mem_cons_of_mem _ hy)
    have := h x (by simp)
    rw [List.length_cons, List.sum_cons]; omega
theorem tsL_len {ss : List Nat} (h : ∀ x ∈ ss, 1 ≤ x) : (tsL ss).length = ss.sum := by
  have := sum_ge_len h
  simp [tsL, psums_len]; omega
theorem psums_le {k : Nat} : ∀ {acc : Nat} {l : List Nat} {i a : Nat}, (∀ x ∈ l, x ≤ k) → (psums acc l)[i]? = some a → a ≤ acc + (i + 1) * k ∧ a ≤ acc + l.sum
  | acc, [], i, a, _, h => by simp [psums] at h
  | acc, x :: r, 0, a, hk, h => by
    simp [psums] at h
    subst h
    have := hk x (by simp)
    rw [List.sum_cons]; omega
  | acc, x :: r, i + 1, a, hk, h => by
    rw [psums, List.getElem?_cons_succ] at h
    have ih := psums_le (fun y hy => hk y (List.mem_cons_of_mem _ hy)) h
    have := hk x (by simp)
    rw [List.sum_cons]
    have e : (i + 1 + 1) * k = (i + 1) * k + k := by rw [Nat.add_mul, Nat.one_mul]
    omega
theorem sum_le_mul {k : Nat} : ∀ {l : List Nat}, (∀ x ∈ l, x ≤ k) → l.sum ≤ l.length * k
  | [], _ => by simp
  | x :: r, h => by
    have := sum_le_mul (l := r) fun y hy => h y (List.mem_cons_of_mem _ hy)
    have := h x (by simp)
    rw [List.length_cons, List.sum_cons, Nat.add_mul, Nat.one_mul]; omega
/-- a size list fits the row of a fair order exactly if its entries are at most the number of letters K -/
theorem RowOk.fits {k S : Nat} {row : List Int} (R : RowOk k S row) {ss : List Nat} (hs : ss.Pairwise (· ≥ ·)) (h1 : ∀ x ∈ ss, 1 ≤ x) (hS : ss.sum = S) :
    (∀ (i a : Nat) (b : Int), (tsL ss)[i]? = some a → row[i]? = some b → (a : Int) ≤ b) ↔ ∀ x ∈ ss, x ≤ k := by
  have hl := R.len
  constructor
  · intro h
    cases ss with
    | nil => intro x hx; cases hx
    | cons x r =>
      have hx1 := h1 x (by simp)
      have hpos : 0 < S := by rw [← hS, List.sum_cons]; omega
      obtain ⟨b, hb⟩ : ∃ b, row[0]? = some b := ⟨row[0]'(by omega), by simp⟩
      have := h 0 x b (by simp [tsL, psums]) hb
      rw [R.first b hb] at this
      intro y hy
      rcases List.mem_cons.mp hy with rfl | hy
      · omega
      · have := (List.pairwise_cons.mp hs).1 y hy
        omega
  · intro h i a b ha hb
    have hsum : (a : Int) ≤ S ∧ a ≤ (i + 1) * k := by
      unfold tsL at ha
      by_cases hi : i < (psums 0 ss).length
      · rw [List.getElem?_append_left hi] at ha
        obtain ⟨q1, q2⟩ := psums_le h ha
        omega
      · rw [List.getElem?_append_right (by omega), List.getElem?_replicate] at ha
        split at ha
        · simp at ha
          subst ha
          have q := sum_le_mul h
          rw [psums_len] at hi
          have : ss.length * k ≤ (i + 1) * k := Nat.mul_le_mul_right k (by omega)
          omega
        · cases ha
    by_cases hi : i = 0
    · subst hi
      rw [R.first b hb]
      omega
    · have := R.more i b hb (by omega)
      have e : (((i + 1) * k : Nat) : Int) = ((i : Int) + 1) * k := by push_cast; rfl
      omega
/-! #### striking raids -/
/-- the order without all letters R behind the first m of them -/
def strike : Nat → List Bool → List Bool
  | _, [] => []
  | m, true :: r => true :: strike m r
  | 0, false :: r => strike 0 r
  | m + 1, false :: r => false :: strike m r
theorem strike_count : ∀ (m : Nat) (l : List Bool), (strike m l).count true = l.count true ∧ (strike m l).count false ≤ l.count false ∧ (m ≤ l.count false → (strike m l).count false = m)
  | m, [] => by simp [strike]; exact fun h => h.symm
  | m, true :: r => by
    have := strike_count m r
    simp [strike, this]
    exact this.2.2
  | 0, false :: r => by
    have := strike_count 0 r
    simp [strike, this]
  | m + 1, false :: r => by
    have := strike_count m r
    simp [strike, this]
    exact this.2.2
theorem strike_fair : ∀ (m : Nat) (l : List Bool), Fair l → Fair (strike m l)
  | m, [], _ => trivial
  | m, true :: r, h => by
    have ih := strike_fair m r h.2
    have c := strike_count m r
    refine ⟨?_, ih⟩
    have h1 := h.1
    simp at h1 ⊢
    have := c.1
    have := c.2.1
    omega
  | 0, false :: r, h => strike_fair 0 r h
  | m + 1, false :: r, h => strike_fair m r h
theorem count_len : ∀ l : List Bool, l.count true + l.count false = l.length
  | [] => rfl
  | true :: r => by have := count_len r; simp; omega
  | false :: r => by have := count_len r; simp; omega
end Bb
/-! plain maths: a walk from cell 0, sizes of branches -/
namespace Bb
open IsTree
theorem nodup_at {α : Type} {l : List α} (h : l.Nodup) {i j : Nat} {x : α} (hi : l[i]? = some x) (hj : l[j]? = some x) : i = j :=
  (List.getElem?_inj (List.getElem?_eq_some_iff.mp hi).1 h).mp (hi.trans hj.symm)
section
variable {n : Nat} {near : List (List Nat)}
/-- cells with the next cell on the way to 0, in an order from 0 on -/
structure Walk (n : Nat) (near : List (List Nat)) (ws : List (Nat × Option Nat)) : Prop where
  nd : (ws.map Prod.fst).Nodup
  lt : ∀ w ∈ ws, w.1 < n
  par : ∀ c d, (c, some d) ∈ ws → d ∈ nb near c ∧ Br near c d 0
  non : ∀ c, (c, none) ∈ ws → c = 0
  ear : ∀ (i c d : Nat), ws[i]? = some (c, some d) → ∃ j o, j < i ∧ ws[j]? = some (d, o)
structure WGrow (n : Nat) (near : List (List Nat)) (ws : List (Nat × Option Nat)) (at_ : Nat) : Prop extends Walk n near ws where
  zero : 0 ∈ ws.map Prod.fst
  proc : ∀ c d, (c, some d) ∈ ws → ∃ j o, j < at_ ∧ ws[j]? = some (d, o)
  cl : ∀ (j d : Nat) (o : Option Nat), j < at_ → ws[j]? = some (d, o) → ∀ e ∈ nb near d, e ∈ ws.map Prod.fst
theorem mem_fst {ws : List (Nat × Option Nat)} {c : Nat} : c ∈ ws.map Prod.fst ↔ ∃ o, (c, o) ∈ ws := by
  rw [List.mem_map]
  constructor
  · rintro ⟨⟨a, o⟩, h, rfl⟩; exact ⟨o, h⟩
  · rintro ⟨o, h⟩; exact ⟨_, h, rfl⟩
theorem fst_at {ws : List (Nat × Option Nat)} {i c : Nat} {o : Option Nat} (h : ws[i]? = some (c, o)) : (ws.map Prod.fst)[i]? = some c := by rw [List.getElem?_map, h]; rfl
theorem WGrow.init (T : IsTree n near) : WGrow n near [(0, none)] 0 := by
  refine ⟨⟨by simp, fun w hw => ?_, fun c d h => by simp at h, fun c h => by simpa using h, fun i c d h => ?_⟩, by simp, fun c d h => by simp at h, fun j d o h => by omega⟩
  · simp at hw; subst hw; exact T.pos
  · cases i <;> simp at h
theorem Walk.away (T : IsTree n near) {ws : List (Nat × Option Nat)} (W : Walk n near ws) {d e : Nat} {o : Option Nat} (hd : (d, o) ∈ ws) (he : e ∈ nb near d) (hne : some e ≠ o) : Br near e d 0 := by
  cases o with
  | none =>
    have := W.non d hd
    subst this
    exact T.br_self (T.symm _ _ he)
  | some p =>
    obtain ⟨h1, h2⟩ := W.par d p hd
    rw [T.br_compl he T.pos]
    exact fun z => T.br_disj h1 he (fun q => hne (by rw [q])) T.pos h2 z
theorem WGrow.step (T : IsTree n near) {ws : List (Nat × Option Nat)} {at_ d : Nat} {o : Option Nat} (W : WGrow n near ws at_) (h : ws[at_]? = some (d, o)) {more : List Nat}
    (hm : more = (nb near d).filter fun e => !decide (some e = o)) : WGrow n near (ws ++ more.map fun e => (e, some d)) (at_ + 1) := by
  have hdm := List.mem_of_getElem? h
  have hat : at_ < ws.length := (List.getElem?_eq_some_iff.mp h).1
  have mm : ∀ e, e ∈ more ↔ e ∈ nb near d ∧ some e ≠ o := fun e => by
    rw [hm, List.mem_filter, Bool.not_eq_true', decide_eq_false_iff_not]
  have hmn : more.Nodup := by rw [hm]; exact (T.nodup d).filter _
  have aw : ∀ e ∈ more, Br near e d 0 := fun e he => W.toWalk.away T hdm ((mm e).mp he).1 ((mm e).mp he).2
  have old : ∀ {j : Nat} {w : Nat × Option Nat}, ws[j]? = some w → (ws ++ more.map fun e => (e, some d))[j]? = some w := fun {j w} q => by
    rw [List.getElem?_append_left (List.getElem?_eq_some_iff.mp q).1]; exact q
  have split : ∀ w, w ∈ ws ++ (more.map fun e => (e, some d)) ↔ w ∈ ws ∨ ∃ e ∈ more, w = (e, some d) := fun w => by
    rw [List.mem_append, List.mem_map]
    constructor
    · rintro (z | ⟨e, he, rfl⟩)
      · exact .inl z
      · exact .inr ⟨e, he, rfl⟩
    · rintro (z | ⟨e, he, rfl⟩)
      · exact .inl z
      · exact .inr ⟨e, he, rfl⟩
  refine ⟨⟨?_, fun w hw => ?_, fun c q hc => ?_, fun c hc => ?_, fun i c q hi => ?_⟩, ?_, fun c q hc => ?_, fun j c q hj hc e he => ?_⟩
  · rw [List.map_append, List.map_map]
    have e1 : List.map (Prod.fst ∘ fun e => (e, some d)) more = more := by
      have : (Prod.fst ∘ fun e : Nat => (e, some d)) = id := rfl
      rw [this, List.map_id]
    rw [e1, List.nodup_append]
    refine ⟨W.nd, hmn, fun a ha b hb q => ?_⟩
    subst q
    obtain ⟨q, hq⟩ := mem_fst.mp ha
    cases q with
    | none =>
      have := W.non a hq
      subst this
      exact T.br_not (aw 0 hb)
    | some q =>
      obtain ⟨h1, h2⟩ := W.par a q hq
      have hda : d ∈ nb near a := T.symm _ _ ((mm a).mp hb).1
      have : q = d := Classical.byContradiction fun z => T.br_disj h1 hda z T.pos h2 (aw a hb)
      subst this
      obtain ⟨j, o', hj, hj2⟩ := W.proc a q hq
      have := nodup_at W.nd (fst_at hj2) (fst_at h)
      omega
  · rcases (split w).mp hw with hw | ⟨e, he, rfl⟩
    · exact W.lt w hw
    · exact T.lt _ _ ((mm e).mp he).1
  · rcases (split _).mp hc with hc | ⟨e, he, heq⟩
    · exact W.par c q hc
    · injection heq with h1 h2
      injection h2 with h2
      subst h1 h2
      exact ⟨T.symm _ _ ((mm c).mp he).1, aw c he⟩
  · rcases (split _).mp hc with hc | ⟨e, he, heq⟩
    · exact W.non c hc
    · injection heq with h1 h2; cases h2
  · rcases Nat.lt_or_ge i ws.length with lt | ge
    · rw [List.getElem?_append_left lt] at hi
      obtain ⟨j, o', hj, hj2⟩ := W.ear i c q hi
      exact ⟨j, o', hj, old hj2⟩
    · have : (c, some q) ∈ more.map fun e => (e, some d) := by
        rw [List.getElem?_append_right ge] at hi
        exact List.mem_of_getElem? hi
      obtain ⟨e, he, heq⟩ := List.mem_map.mp this
      injection heq with h1 h2
      injection h2 with h2
      subst h1 h2
      exact ⟨at_, o, by omega, old h⟩
  · rw [List.map_append]; exact List.mem_append_left _ W.zero
  · rcases (split _).mp hc with hc | ⟨e, he, heq⟩
    · obtain ⟨j, o', hj, hj2⟩ := W.proc c q hc
      exact ⟨j, o', by omega, old hj2⟩
    · injection heq with h1 h2
      injection h2 with h2
      subst h1 h2
      exact ⟨at_, o, by omega, old h⟩
  · rw [List.map_append, List.mem_append]
    by_cases ej : j = at_
    · subst ej
      have := (old h).symm.trans hc
      injection this with this
      injection this with h1 h2
      subst h1 h2
      by_cases z : some e = o
      · subst z
        obtain ⟨j2, o', hj2, hj3⟩ := W.proc d e hdm
        exact .inl (List.mem_of_getElem? (fst_at hj3))
      · right
        rw [List.map_map]
        exact List.mem_map.mpr ⟨e, (mm e).mpr ⟨he, z⟩, rfl⟩
    · have hlt : j < ws.length := by omega
      rw [List.getElem?_append_left hlt] at hc
      exact .inl (W.cl j c q (by omega) hc e he)
theorem WGrow.all (T : IsTree n near) {ws : List (Nat × Option Nat)} {at_ : Nat} (W : WGrow n near ws at_) (h : at_ = ws.length) : ∀ x, x < n → x ∈ ws.map Prod.fst :=
  T.conn (fun x => x ∈ ws.map Prod.fst) ⟨0, T.pos, W.zero⟩ fun c d hc hd => by
    obtain ⟨o, ho⟩ := mem_fst.mp hc
    obtain ⟨j, hj⟩ := List.getElem?_of_mem ho
    exact W.cl j c o (by have := (List.getElem?_eq_some_iff.mp hj).1; omega) hj d hd
theorem Walk.len {ws : List (Nat × Option Nat)} (W : Walk n near ws) : ws.length ≤ n := by
  have h1 := cnt_list (n := n) (P := (· ∈ ws.map Prod.fst)) W.nd (fun x hx => by
    obtain ⟨w, hw, rfl⟩ := List.mem_map.mp hx
    exact W.lt w hw) fun x _ => Iff.rfl
  have h2 := cnt_le n (· ∈ ws.map Prod.fst)
  rw [h1, List.length_map] at h2
  exact h2
theorem cnt_union {P : Nat → Nat → Prop} : ∀ {l : List Nat}, l.Nodup → (∀ d ∈ l, ∀ e ∈ l, d ≠ e → ∀ x, x < n → ¬ (P d x ∧ P e x)) → cnt n (fun x => ∃ e ∈ l, P e x) = (l.map fun e => cnt n (P e)).sum
  | [], _, _ => by rw [cnt_false fun x _ => by simp]; rfl
  | a :: r, hn, hd => by
    obtain ⟨h1, h2⟩ := List.nodup_cons.mp hn
    rw [List.map_cons, List.sum_cons, ← cnt_union h2 fun d hd' e he => hd d (List.mem_cons_of_mem _ hd') e (List.mem_cons_of_mem _ he)]
    refine cnt_add (fun x _ => by simp) fun x hx z => ?_
    obtain ⟨z1, e, he, z2⟩ := z
    exact hd a (by simp) e (List.mem_cons_of_mem _ he) (fun q => h1 (q ▸ he)) x hx ⟨z1, z2⟩
/-- a branch's size from its parts -/
theorem be_sum (T : IsTree n near) {p c : Nat} (h : p ∈ nb near c) {l : List Nat} (hl : l.Nodup) (hm : ∀ e, e ∈ l ↔ e ∈ nb near c ∧ e ≠ p) : be n near p c = 1 + (l.map fun e => be n near c e).sum := by
  have hcp : c ∈ nb near p := T.symm _ _ h
  have hcn : c < n := T.lt _ _ hcp
  have e1 := cnt_union (n := n) (P := fun e x => Br near c e x) hl fun d hd e he hne x hx z => T.br_disj ((hm d).mp hd).1 ((hm e).mp he).1 hne hx z.1 z.2
  have e2 : cnt n (Br near p c) = cnt n (fun x => x = c) + cnt n (fun x => ∃ e ∈ l, Br near c e x) := by
    refine cnt_add (fun x hx => ?_) fun x hx z => ?_
    · constructor
      · intro hb
        by_cases e : x = c
        · exact .inl e
        · obtain ⟨d, hd, hbd⟩ := T.br_cover hcn hx e
          refine .inr ⟨d, (hm d).mpr ⟨hd, fun q => ?_⟩, hbd⟩
          subst q
          exact (T.br_compl h hx).mp hb hbd
      · rintro (rfl | ⟨e, he, hb⟩)
        · exact T.br_self hcp
        · exact T.br_sub hcp ((hm e).mp he).1 ((hm e).mp he).2 hb
    · obtain ⟨rfl, e, he, hb⟩ := z
      exact T.br_not hb
  unfold be
  rw [e2, cnt_one hcn fun x _ => Iff.rfl]
  exact congrArg (1 + ·) e1

/-- the cells of ws whose next cell is x -/
def kids (ws : List (Nat × Option Nat)) (x : Nat) : List Nat := ws.filterMap fun w => if w.2 = some x then some w.1 else none
theorem mem_kids {ws : List (Nat × Option Nat)} {x e : Nat} : e ∈ kids ws x ↔ (e, some x) ∈ ws := by
  unfold kids
  rw [List.mem_filterMap]
  constructor
  · rintro ⟨⟨a, o⟩, h, q⟩
    dsimp only at q
    split at q
    · rename_i e1; injection q with q; subst q e1; exact h
    · cases q
  · intro h
    exact ⟨_, h, by simp⟩
theorem kids_cons {ws : List (Nat × Option Nat)} {c x : Nat} {o : Option Nat} : kids ((c, o) :: ws) x = if o = some x then c :: kids ws x else kids ws x := by
  unfold kids
  rw [List.filterMap_cons]
  by_cases h : o = some x
  · rw [if_pos h, if_pos h]
  · rw [if_neg h, if_neg h]
theorem kids_nodup {x : Nat} : ∀ {ws : List (Nat × Option Nat)}, (ws.map Prod.fst).Nodup → (kids ws x).Nodup
  | [], _ => by simp [kids]
  | (c, o) :: r, h => by
    rw [List.map_cons] at h
    obtain ⟨h1, h2⟩ := List.nodup_cons.mp h
    rw [kids_cons]
    split
    · rw [List.nodup_cons]
      exact ⟨fun z => h1 (List.mem_map.mpr ⟨_, mem_kids.mp z, rfl⟩), kids_nodup h2⟩
    · exact kids_nodup h2
/-- what stands at beneath[x], after the last cells -/
noncomputable def ben (n : Nat) (near : List (List Nat)) (ws : List (Nat × Option Nat)) (x : Nat) : Nat := 1 + ((kids ws x).map fun e => be n near x e).sum
/-- what stands at found[x] -/
def Fnd (n : Nat) (near : List (List Nat)) (ws : List (Nat × Option Nat)) (x v : Nat) : Prop := ∃ e, v = be n near x e ∧ ((e, some x) ∈ ws ∨ (x, some e) ∈ ws)
theorem drop_at {α : Type} {ws : List α} {k : Nat} {w : α} (h : ws[k]? = some w) : ws.drop k = w :: ws.drop (k + 1) := by
  obtain ⟨h1, h2⟩ := List.getElem?_eq_some_iff.mp h
  rw [List.drop_eq_getElem_cons h1, h2]
theorem Walk.kid (T : IsTree n near) {ws : List (Nat × Option Nat)} (W : Walk n near ws) (all : ∀ x, x < n → x ∈ ws.map Prod.fst) {d e : Nat} {o : Option Nat} (hd : (d, o) ∈ ws) (he : e ∈ nb near d) (hne : some e ≠ o) : (e, some d) ∈ ws := by
  have aw := W.away T hd he hne
  obtain ⟨q, hq⟩ := mem_fst.mp (all e (T.lt _ _ he))
  cases q with
  | none =>
    have := W.non e hq
    subst this
    exact (T.br_not aw).elim
  | some q =>
    obtain ⟨h1, h2⟩ := W.par e q hq
    have : q = d := Classical.byContradiction fun z => T.br_disj h1 (T.symm _ _ he) z T.pos h2 aw
    subst this
    exact hq
theorem Walk.ben_eq (T : IsTree n near) {ws : List (Nat × Option Nat)} (W : Walk n near ws) (all : ∀ x, x < n → x ∈ ws.map Prod.fst) {k c d : Nat} (h : ws[k]? = some (c, some d)) : ben n near (ws.drop (k + 1)) c = be n near d c := by
  have hm := List.mem_of_getElem? h
  obtain ⟨h1, h2⟩ := W.par c d hm
  have hnd : ((ws.drop (k + 1)).map Prod.fst).Nodup := by
    rw [List.map_drop]
    exact W.nd.sublist (List.drop_sublist _ _)
  refine (be_sum T h1 (kids_nodup hnd) fun e => ?_).symm
  rw [mem_kids]
  constructor
  · intro z
    have z := (List.drop_sublist _ _).mem z
    obtain ⟨g1, g2⟩ := W.par e c z
    refine ⟨T.symm _ _ g1, fun q => ?_⟩
    subst q
    exact (T.br_compl (T.symm _ _ h1) T.pos).mp h2 g2
  · rintro ⟨he, hne⟩
    have hk := W.kid T all hm he (fun q => hne (by injection q))
    obtain ⟨j, hj⟩ := List.getElem?_of_mem hk
    obtain ⟨i, o, hi, hi2⟩ := W.ear j e c hj
    have : i = k := nodup_at W.nd (fst_at hi2) (fst_at h)
    subst this
    refine List.mem_of_getElem? (i := j - (i + 1)) ?_
    rw [List.getElem?_drop]
    have : i + 1 + (j - (i + 1)) = j := by omega
    rw [this]; exact hj
theorem Walk.fnd (T : IsTree n near) {ws : List (Nat × Option Nat)} (W : Walk n near ws) (all : ∀ x, x < n → x ∈ ws.map Prod.fst) {x v : Nat} (hx : x < n) : Fnd n near ws x v ↔ ∃ d, d ∈ nb near x ∧ v = be n near x d := by
  constructor
  · rintro ⟨e, rfl, h | h⟩
    · exact ⟨e, T.symm _ _ (W.par e x h).1, rfl⟩
    · exact ⟨e, (W.par x e h).1, rfl⟩
  · rintro ⟨d, hd, rfl⟩
    obtain ⟨o, ho⟩ := mem_fst.mp (all x hx)
    by_cases z : some d = o
    · subst z; exact ⟨d, rfl, .inr ho⟩
    · exact ⟨d, rfl, .inl (W.kid T all ho hd z)⟩
theorem Walk.diff (T : IsTree n near) {ws : List (Nat × Option Nat)} (W : Walk n near ws) {c d : Nat} (h : (c, some d) ∈ ws) : d ≠ c ∧ d < n ∧ c < n ∧ be n near c d + be n near d c = n := by
  obtain ⟨h1, h2⟩ := W.par c d h
  exact ⟨T.ne h1, T.lt _ _ h1, W.lt _ h, T.be_add h1⟩
theorem Fnd.cons {ws : List (Nat × Option Nat)} {c d x v : Nat} : Fnd n near ((c, some d) :: ws) x v ↔ (x = d ∧ v = be n near d c) ∨ (x = c ∧ v = be n near c d) ∨ Fnd n near ws x v := by
  unfold Fnd
  constructor
  · rintro ⟨e, rfl, h | h⟩
    · rcases List.mem_cons.mp h with h | h
      · injection h with h1 h2; injection h2 with h2; subst h1 h2; exact .inl ⟨rfl, rfl⟩
      · exact .inr (.inr ⟨e, rfl, .inl h⟩)
    · rcases List.mem_cons.mp h with h | h
      · injection h with h1 h2; injection h2 with h2; subst h1 h2; exact .inr (.inl ⟨rfl, rfl⟩)
      · exact .inr (.inr ⟨e, rfl, .inr h⟩)
  · rintro (⟨rfl, rfl⟩ | ⟨rfl, rfl⟩ | ⟨e, rfl, h | h⟩)
    · exact ⟨c, rfl, .inl (by simp)⟩
    · exact ⟨d, rfl, .inr (by simp)⟩
    · exact ⟨e, rfl, .inl (List.mem_cons_of_mem _ h)⟩
    · exact ⟨e, rfl, .inr (List.mem_cons_of_mem _ h)⟩
theorem Fnd.cons0 {ws : List (Nat × Option Nat)} {c x v : Nat} : Fnd n near ((c, none) :: ws) x v ↔ Fnd n near ws x v := by
  unfold Fnd
  simp
theorem ben_cons {ws : List (Nat × Option Nat)} {c x : Nat} {o : Option Nat} : ben n near ((c, o) :: ws) x = if o = some x then ben n near ws x + be n near x c else ben n near ws x := by
  unfold ben
  rw [kids_cons]
  split
  · rw [List.map_cons, List.sum_cons]; omega
  · rfl
end
end Bb
/-! plain maths: the parents of the search for a bad link -/
namespace Bb
section
variable {n : Nat} {links : List (Nat × Nat)} {π p : Nat → Nat} {f : Nat → Bool}
theorem Made.edge_inj (M : Made n links π p f) {j k : Nat} (j1 : 1 ≤ j) (j2 : j < n) (k1 : 1 ≤ k) (k2 : k < n) (h : edge π p f j = edge π p f k) : j = k := by
  have a1 := M.plt j1 j2
  have a2 := M.plt k1 k2
  have a3 := M.par j j1 j2
  have a4 := M.par k k1 k2
  unfold edge at h
  cases e1 : f j <;> cases e2 : f k <;> rw [e1, e2] at h <;> simp only [if_true, Bool.false_eq_true, if_false, Prod.mk.injEq] at h <;> obtain ⟨h1, h2⟩ := h
  · exact M.inj j k j2 k2 h1
  · have := M.inj _ _ j2 a2 h1
    have := M.inj _ _ a1 k2 h2
    omega
  · have := M.inj _ _ a1 k2 h1
    have := M.inj _ _ j2 a2 h2
    omega
  · exact M.inj j k j2 k2 h2
theorem Made.nodup (M : Made n links π p f) : links.Nodup := by
  rw [M.links.nodup_iff]
  refine List.pairwise_map.mpr ?_
  have h : (List.range' 1 (n - 1)).Pairwise (· ≠ ·) := List.nodup_range'
  refine List.Pairwise.imp_of_mem (fun {a b} ha hb hne e => hne ?_) h
  rw [List.mem_range'_1] at ha hb
  exact M.edge_inj ha.1 (by omega) hb.1 (by omega) e
theorem Made.ends (M : Made n links π p f) {k a b : Nat} (k1 : 1 ≤ k) (k2 : k < n) (h : edge π p f k = (a, b)) (j : Nat) : (j ≠ k → (Below n π p j a ↔ Below n π p j b)) ∧ (j = k → ¬ (Below n π p j a ↔ Below n π p j b)) := by
  have key : (Below n π p j (π k) ↔ Below n π p j (π (p k))) ↔ j ≠ k := by
    constructor
    · rintro h rfl
      rw [M.below k2, M.below (M.plt k1 k2)] at h
      exact M.lo k1 k2 (h.mp .self)
    · intro hne
      exact M.same k1 k2 fun e => hne e.symm
  unfold edge at h
  cases e : f k <;> rw [e] at h <;> simp only [if_true, Bool.false_eq_true, if_false, Prod.mk.injEq] at h <;> obtain ⟨rfl, rfl⟩ := h
  · exact ⟨fun z => key.mpr z, fun z q => key.mp q z⟩
  · exact ⟨fun z => (key.mpr z).symm, fun z q => key.mp q.symm z⟩
structure Uf (n : Nat) (links : List (Nat × Nat)) (π p : Nat → Nat) (f : Nat → Bool) (i : Nat) (par : List Nat) : Prop where
  len : par.length = n
  ok : ∃ ht ρ : Nat → Nat, ∀ (v u : Nat), par[v]? = some u → u < n ∧ (u = v ∨ ht u < ht v) ∧ ρ u = ρ v ∧ (u = v → ρ v = v)
  cut : ∀ k, 1 ≤ k → k < n → edge π p f k ∉ links.take i → ∀ (v u : Nat), par[v]? = some u → (Below n π p k v ↔ Below n π p k u)
theorem Uf.init : Uf n links π p f 0 (List.range n) := by
  refine ⟨by simp, ⟨fun _ => 0, id, fun v u h => ?_⟩, fun k _ _ _ v u h => ?_⟩
  · obtain ⟨h1, h2⟩ := List.getElem?_eq_some_iff.mp h
    rw [List.getElem_range] at h2
    rw [List.length_range] at h1
    subst h2
    exact ⟨h1, .inl rfl, rfl, fun _ => rfl⟩
  · obtain ⟨h1, h2⟩ := List.getElem?_eq_some_iff.mp h
    rw [List.getElem_range] at h2
    subst h2
    exact Iff.rfl
/-- what is known of a root -/
def RootOf (par : List Nat) (c r : Nat) : Prop := par[r]? = some r ∧ ∀ P : Nat → Prop, P c → (∀ (v u : Nat), par[v]? = some u → P v → P u) → P r
theorem Uf.root {i : Nat} {par : List Nat} (U : Uf n links π p f i par) {c r : Nat} (R : RootOf par c r) {k : Nat} (k1 : 1 ≤ k) (k2 : k < n) (hk : edge π p f k ∉ links.take i) : Below n π p k c ↔ Below n π p k r :=
  R.2 (fun x => Below n π p k c ↔ Below n π p k x) Iff.rfl fun v u h q => q.trans (U.cut k k1 k2 hk v u h)
theorem Uf.ne (M : Made n links π p f) {i : Nat} {par : List Nat} (U : Uf n links π p f i par) {a b r1 r2 : Nat} (h : links[i]? = some (a, b)) (R1 : RootOf par a r1) (R2 : RootOf par b r2) : r1 ≠ r2 := by
  obtain ⟨k, k1, k2, e⟩ := M.mem.mp (List.mem_of_getElem? h)
  have hk : edge π p f k ∉ links.take i := fun z => by
    rw [e] at z
    obtain ⟨j, hj⟩ := List.getElem?_of_mem z
    have hji : j < i := by
      have := (List.getElem?_eq_some_iff.mp hj).1
      rw [List.length_take] at this; omega
    rw [List.getElem?_take_of_lt hji] at hj
    have := (List.getElem?_inj (List.getElem?_eq_some_iff.mp hj).1 M.nodup).mp (hj.trans h.symm)
    omega
  rintro rfl
  exact (M.ends k1 k2 e k).2 rfl ((U.root R1 k1 k2 hk).trans (U.root R2 k1 k2 hk).symm)
theorem Uf.step (M : Made n links π p f) {i : Nat} {par : List Nat} (U : Uf n links π p f i par) {a b r1 r2 : Nat} (h : links[i]? = some (a, b)) (R1 : RootOf par a r1) (R2 : RootOf par b r2) : Uf n links π p f (i + 1) (par.set r1 r2) := by
  have ne := U.ne M h R1 R2
  have hr1 : r1 < par.length := (List.getElem?_eq_some_iff.mp R1.1).1
  have hr2 : r2 < par.length := (List.getElem?_eq_some_iff.mp R2.1).1
  have at_ : ∀ {v u : Nat}, (par.set r1 r2)[v]? = some u → (v = r1 ∧ u = r2) ∨ (v ≠ r1 ∧ par[v]? = some u) := fun {v u} q => by
    by_cases e : v = r1
    · subst e
      rw [List.getElem?_set_self hr1] at q
      injection q with q
      exact .inl ⟨rfl, q.symm⟩
    · rw [List.getElem?_set_ne (fun z => e z.symm)] at q
      exact .inr ⟨e, q⟩
  obtain ⟨ht, ρ, hok⟩ := U.ok
  have p1 := hok r1 r1 R1.1
  have p2 := hok r2 r2 R2.1
  have q1 := p1.2.2.2 rfl
  have q2 := p2.2.2.2 rfl
  refine ⟨by rw [List.length_set]; exact U.len, ⟨fun v => if ρ v = r1 then ht v + ht r2 + 1 else ht v, fun v => if ρ v = r1 then r2 else ρ v, fun v u q => ?_⟩, fun k k1 k2 hk v u q => ?_⟩
  · rcases at_ q with ⟨rfl, rfl⟩ | ⟨hv, q⟩
    · dsimp only
      rw [if_pos q1, if_neg (by rw [q2]; exact fun z => ne z.symm), if_neg (by rw [q2]; exact fun z => ne z.symm), if_pos q1]
      exact ⟨p2.1, .inr (by omega), q2, fun z => (ne z.symm).elim⟩
    · obtain ⟨h1, h2, h3, h4⟩ := hok v u q
      dsimp only
      rw [h3]
      refine ⟨h1, ?_, rfl, fun e => ?_⟩
      · rcases h2 with h2 | h2
        · exact .inl h2
        · right
          split <;> omega
      · rw [if_neg (by rw [h4 e]; exact hv)]
        exact h4 e
  · have hk' : edge π p f k ∉ links.take i := fun z => hk (by
      rw [List.take_succ]; exact List.mem_append_left _ z)
    have hkn : edge π p f k ≠ (a, b) := fun z => hk (by
      rw [List.take_succ, h]; rw [z]; exact List.mem_append_right _ (by simp))
    rcases at_ q with ⟨rfl, rfl⟩ | ⟨hv, q⟩
    · obtain ⟨k0, g1, g2, e⟩ := M.mem.mp (List.mem_of_getElem? h)
      have := (M.ends g1 g2 e k).1 fun z => hkn (by rw [z]; exact e)
      exact (U.root R1 k1 k2 hk').symm.trans (this.trans (U.root R2 k1 k2 hk'))
    · exact U.cut k k1 k2 hk' v u q
end
end Bb
/-! plain maths: a chain -/
namespace Bb
open IsTree
def chL (n s : Nat) : List (Nat × Nat) := (List.range (n - 1)).map fun k => ((k + s) % n, (k + 1 + s) % n)
def chP (n s k : Nat) : Nat := (k + s) % n
section
variable {n s : Nat}
theorem chP_inj {j k : Nat} (hj : j < n) (hk : k < n) (h : chP n s j = chP n s k) : j = k := by
  unfold chP at h
  have h1 : (j + s) % n = (k + s) % n := h
  have key : ∀ {a b : Nat}, a < n → b < n → a ≤ b → (a + s) % n = (b + s) % n → a = b := fun {a b} ha hb hab h => by
    have h2 : (b + s - (a + s)) % n = 0 := Nat.sub_mod_eq_zero_of_mod_eq h.symm
    have h3 : b + s - (a + s) = b - a := by omega
    rw [h3, Nat.mod_eq_of_lt (by omega)] at h2
    omega
  rcases Nat.le_total j k with h2 | h2
  · exact key hj hk h2 h1
  · exact (key hk hj h2 h1.symm).symm
theorem chain_made (hn : 1 ≤ n) : Made n (chL n s) (chP n s) (fun k => k - 1) (fun _ => true) := by
  refine ⟨hn, fun k _ => Nat.mod_lt _ hn, fun j k hj hk h => chP_inj hj hk h, fun c hc => ?_, fun k h1 _ => by omega, ?_⟩
  · refine ⟨(c + (n - s % n)) % n, Nat.mod_lt _ hn, ?_⟩
    unfold chP
    have h0 : s % n < n := Nat.mod_lt _ hn
    have h1 : ((c + (n - s % n)) % n + s) % n = (c + (n - s % n) + s % n) % n := by
      rw [Nat.mod_add_mod, Nat.add_mod_mod]
    have h2 : c + (n - s % n) + s % n = c + n := by omega
    rw [h1, h2, Nat.add_mod_right, Nat.mod_eq_of_lt hc]
  · unfold chL
    have e : List.range' 1 (n - 1) = (List.range (n - 1)).map (· + 1) := by
      refine List.ext_getElem (by simp) fun i h1 h2 => ?_
      simp
      omega
    rw [e, List.map_map]
    refine .of_eq (List.map_congr_left fun k _ => ?_)
    simp [edge, chP]
theorem chain_nb (hn : 1 ≤ n) {near : List (List Nat)} (N : IsNear n (chL n s) near) {k d : Nat} (hk : k < n) : d ∈ nb near (chP n s k) ↔ (1 ≤ k ∧ d = chP n s (k - 1)) ∨ (k + 1 < n ∧ d = chP n s (k + 1)) := by
  have M := chain_made (s := s) hn
  have hp : chP n s k < n := Nat.mod_lt _ hn
  rw [(N.row _ hp).2.mem_iff, mem_nbs, M.sym]
  constructor
  · rintro ⟨j, h1, h2, ⟨h3, h4⟩ | ⟨h3, h4⟩⟩
    · have := chP_inj hk h2 h3
      subst this
      exact .inl ⟨h1, h4⟩
    · have := chP_inj hk (by omega) h4
      subst this
      have e : j - 1 + 1 = j := by omega
      rw [e]
      exact .inr ⟨h2, h3⟩
  · rintro (⟨h1, h2⟩ | ⟨h1, h2⟩)
    · exact ⟨k, h1, hk, .inl ⟨rfl, h2⟩⟩
    · exact ⟨k + 1, by omega, h1, .inr ⟨h2, by simp⟩⟩
theorem chain_up (hn : 1 ≤ n) {near : List (List Nat)} (N : IsNear n (chL n s) near) {k : Nat} (hk : k + 1 < n) : be n near (chP n s k) (chP n s (k + 1)) = n - 1 - k ∧ be n near (chP n s (k + 1)) (chP n s k) = k + 1 := by
  have M := chain_made (s := s) hn
  have T := M.tree N
  have hk0 : k < n := by omega
  have hd : chP n s (k + 1) ∈ nb near (chP n s k) := (chain_nb hn N hk0).mpr (.inr ⟨hk, rfl⟩)
  have hadd := T.be_add hd
  let D : Nat → Prop := fun x => ∃ j, j ≤ k ∧ x = chP n s j
  have hD1 : D (chP n s k) := ⟨k, Nat.le_refl _, rfl⟩
  have hD2 : ¬ D (chP n s (k + 1)) := fun ⟨j, h1, h2⟩ => by
    have := chP_inj hk (by omega) h2
    omega
  have hD3 : ∀ x y, y ∈ nb near x → D x → ¬ D y → (x = chP n s k ∧ y = chP n s (k + 1)) := by
    rintro x y hy ⟨j, h1, rfl⟩ h3
    rcases (chain_nb hn N (by omega : j < n)).mp hy with ⟨h4, rfl⟩ | ⟨h4, rfl⟩
    · exact (h3 ⟨j - 1, by omega, rfl⟩).elim
    · have : j = k := Classical.byContradiction fun z => h3 ⟨j + 1, by omega, rfl⟩
      subst this
      exact ⟨rfl, rfl⟩
  have c1 : cnt n D = k + 1 := by
    have hnd : ((List.range (k + 1)).map (chP n s)).Nodup := by
      refine List.pairwise_map.mpr (List.Pairwise.imp_of_mem (fun {a b} ha hb hne e => hne ?_) (List.nodup_range (n := k + 1)))
      rw [List.mem_range] at ha hb
      exact chP_inj (by omega) (by omega) e
    rw [cnt_list hnd (fun x hx => by
      obtain ⟨j, _, rfl⟩ := List.mem_map.mp hx
      exact Nat.mod_lt _ hn) fun x _ => ?_]
    · simp
    · rw [List.mem_map]
      constructor
      · rintro ⟨j, h1, rfl⟩
        exact ⟨j, List.mem_range.mpr (by omega), rfl⟩
      · rintro ⟨j, h1, rfl⟩
        exact ⟨j, by have := List.mem_range.mp h1; omega, rfl⟩
  have c2 : cnt n D + be n near (chP n s k) (chP n s (k + 1)) = n := by
    have := cnt_add (n := n) (P := D) (Q := Br near (chP n s k) (chP n s (k + 1))) (R := fun _ => True) (fun x hx => ⟨fun _ => by
      rw [T.br_iff hd hD1 hD2 hD3 hx]
      exact Classical.em _, fun _ => trivial⟩) fun x hx z => (T.br_iff hd hD1 hD2 hD3 hx).mp z.2 z.1
    rw [cnt_true fun _ _ => trivial] at this
    exact this.symm
  omega
theorem chain_keep (hn : 1 ≤ n) {near : List (List Nat)} (N : IsNear n (chL n s) near) {t k : Nat} (hk : k < n) : Keep n near t (chP n s k) ↔ k ≤ t ∧ n - 1 - k ≤ t := by
  constructor
  · intro h
    constructor
    · by_cases h1 : 1 ≤ k
      · have := h _ ((chain_nb hn N hk).mpr (.inl ⟨h1, rfl⟩))
        have e := (chain_up hn N (k := k - 1) (by omega)).2
        have e2 : k - 1 + 1 = k := by omega
        rw [e2] at e
        omega
      · omega
    · by_cases h1 : k + 1 < n
      · have := h _ ((chain_nb hn N hk).mpr (.inr ⟨h1, rfl⟩))
        rw [(chain_up hn N h1).1] at this
        exact this
      · omega
  · rintro ⟨h1, h2⟩ d hd
    rcases (chain_nb hn N hk).mp hd with ⟨h4, rfl⟩ | ⟨h4, rfl⟩
    · have e := (chain_up hn N (k := k - 1) (by omega)).2
      have e2 : k - 1 + 1 = k := by omega
      rw [e2] at e
      omega
    · rw [(chain_up hn N h4).1]; exact h2
theorem chain_back (hn : 1 ≤ n) {near : List (List Nat)} (N : IsNear n (chL n s) near) {t k : Nat} (hk : k < n) : Back n near t (chP n s k) ↔ (k + 1 < n ∧ t < k + 1 ∧ t < n - 1 - k) ∨ (1 ≤ k ∧ t < k ∧ t < n - 1 - (k - 1)) := by
  constructor
  · rintro ⟨d, hd, h1, h2⟩
    rcases (chain_nb hn N hk).mp hd with ⟨h4, rfl⟩ | ⟨h4, rfl⟩
    · have e := chain_up hn N (k := k - 1) (by omega)
      have e2 : k - 1 + 1 = k := by omega
      rw [e2] at e
      exact .inr ⟨h4, by omega, by omega⟩
    · have e := chain_up hn N h4
      exact .inl ⟨h4, by omega, by omega⟩
  · rintro (⟨h1, h2, h3⟩ | ⟨h1, h2, h3⟩)
    · have e := chain_up hn N h1
      exact ⟨_, (chain_nb hn N hk).mpr (.inr ⟨h1, rfl⟩), by omega, by omega⟩
    · have e := chain_up hn N (k := k - 1) (by omega)
      have e2 : k - 1 + 1 = k := by omega
      rw [e2] at e
      exact ⟨_, (chain_nb hn N hk).mpr (.inl ⟨h1, rfl⟩), by omega, by omega⟩
/-- the cells of a chain, sorted -/
theorem chain_sorted (hn : 1 ≤ n) {ks ss L : List Nat} (hk : ks.Nodup) (hkn : ∀ k ∈ ks, k < n) (hp : ss.Perm (ks.map (chP n s))) (hs : ss.Pairwise (· ≤ ·)) (hL : L.Pairwise (· < ·)) (hLn : ∀ x ∈ L, x < n) (h : ∀ k, k < n → (chP n s k ∈ L ↔ k ∈ ks)) : ss = L := by
  have hnd : (ks.map (chP n s)).Nodup := List.pairwise_map.mpr (List.Pairwise.imp_of_mem (fun {a b} ha hb hne e => hne (chP_inj (hkn a ha) (hkn b hb) e)) hk)
  refine sorted_lt_ext (strict_of hs (hp.nodup_iff.mpr hnd)) hL fun x => ?_
  rw [hp.mem_iff, List.mem_map]
  constructor
  · rintro ⟨k, hk, rfl⟩
    exact (h k (hkn k hk)).mpr hk
  · intro hx
    obtain ⟨k, hk, rfl⟩ := (chain_made (s := s) hn).sur x (hLn x hx)
    exact ⟨k, (h k hk).mp hx, rfl⟩
end
end Bb
/-! the walk's own vocabulary, and rules that the layer lacks -/
namespace Bw
open PySem PySem.Spec PyProof.Rows L2
abbrev rAdd : R2 := rI0 fun i j => .int (i + j)
abbrev rSub : R2 := rI0 fun i j => .int (i - j)
abbrev rMul : R2 := rI CMul fun i j => .int (i * j)
abbrev rMod : R2 := rI (fun _ j => j ≠ 0) fun i j => .int (i.fmod j)
abbrev rFdiv : R2 := rI CDivN fun i j => .int (i.fdiv j)
abbrev rPow : R2 := rI CPow fun i j => .int (i ^ j.toNat)
abbrev rLt : R2 := rI0 fun i j => .bl (decide (i < j))
abbrev rLe : R2 := rI0 fun i j => .bl (decide (i ≤ j))
abbrev rGt : R2 := rI0 fun i j => .bl (decide (j < i))
abbrev rGe : R2 := rI0 fun i j => .bl (decide (j ≤ i))
abbrev rCatS : R2 := fun x y H Q => ∃ i j, x = .str i ∧ y = .str j ∧ i.length + j.length ≤ sizeLine ∧ Q (.str (i ++ j)) H
abbrev rIsNone : R2 := fun x y H Q => y = .non ∧ Q (.bl (decide (x = .non))) H
abbrev rNotNone : R2 := fun x y H Q => y = .non ∧ Q (.bl (!decide (x = .non))) H
abbrev rNeg : V → Hp → VK → Prop := rU fun i => .int (-i)
abbrev rAbs : List V → Hp → VK → Prop := fun xs H Q => ∃ i, xs = [.int i] ∧ Q (.int (if i < 0 then -i else i)) H
abbrev rInt1 : List V → Hp → VK → Prop := fun xs H Q => (∃ i, xs = [.int i] ∧ Q (.int i) H) ∨ ∃ k, xs = [.bl k] ∧ Q (.int (if k then 1 else 0)) H
abbrev rMin2 : List V → Hp → VK → Prop := fun xs H Q => ∃ i j, xs = [.int i, .int j] ∧ Q (.int (if j < i then j else i)) H
abbrev rMax2 : List V → Hp → VK → Prop := fun xs H Q => ∃ i j, xs = [.int i, .int j] ∧ Q (.int (if j > i then j else i)) H
abbrev rLenQ (K : PySem.W.Frag) : List V → Hp → VK → Prop := fun xs H Q => ∃ p ys, xs = [.ref p] ∧ (SqL K H p ys ∨ SqT K H p ys) ∧ Q (.int ys.length) H
abbrev rLenS : List V → Hp → VK → Prop := fun xs H Q => ∃ z, xs = [.str z] ∧ z.length ≤ sizeLine ∧ Q (.int z.length) H
abbrev rListQ (K : PySem.W.Frag) : List V → Hp → VK → Prop := fun xs H Q => ∃ p ys, xs = [.ref p] ∧ (SqL K H p ys ∨ SqT K H p ys) ∧ ∀ l, H l = none → Q (.ref l) (upd H l (.lst ys))
abbrev rCountS : V → List V → Hp → VK → Prop := fun x xs H Q => ∃ a b, x = .str a ∧ xs = [.str b] ∧ Q (.int (Txt.count a b)) H
abbrev rInsert : V → List V → Hp → VK → Prop := fun x vs H Q => ∃ (l : Addr) (xs : List V) (i : Int) (y : V), x = .ref l ∧ vs = [.int i, y] ∧ H l = some (.lst xs) ∧ xs.length < sizeLine ∧ 0 ≤ i ∧ i < 2 ^ 63 ∧ Q .non (upd H l (.lst (xs.take i.toNat ++ [y] ++ xs.drop i.toNat)))
abbrev ipAdd : TIp := ipI fun i j => i + j
abbrev ipSub : TIp := ipI fun i j => i - j
abbrev rSortedR (K : PySem.W.Frag) : List V → List V → Hp → VK → Prop := rSortedKw K true [.bl true]
/-- f(a, k=b): the keyword's value behind the others -/
abbrev gApp : List V → List V → List V := fun vs zs => vs ++ zs

section
variable {X : Cx}
/-- x is y, y a bool or None -/
def rIsAny : R2 := fun x y H Q => (y = .non ∨ ∃ b, y = .bl b) ∧ Q (.bl (decide (x = y))) H
theorem op_is_any : OpR X (compareOp .Is) rIsAny := by
  intro pins s σ H x y v u Q I rx ry h
  obtain ⟨hy, q⟩ := h
  have key : plainIs v u = true ∧ (v == u) = decide (x = y) := by
    rcases hy with rfl | ⟨b, rfl⟩ <;> (cases ry; cases x <;> first
      | (obtain ⟨t, rfl⟩ := rx; exact ⟨rfl, rfl⟩)
      | (cases rx; exact ⟨rfl, by first | rfl | (simp only [V.bl.injEq]; rename_i c; cases b <;> cases c <;> rfl)⟩))
  refine wpAny_is_plain key.1 ?_
  rw [key.2]
  exact ⟨.bl _, H, I, rfl, q⟩

/-! ### max and min of a pair -/
def rMaxT (K : PySem.W.Frag) : List V → Hp → VK → Prop := fun vs H Q => ∃ (p : Addr) (i j : Int), vs = [.ref p] ∧ SqT K H p [.int i, .int j] ∧ Q (.int (if j > i then j else i)) H
def rMinT (K : PySem.W.Frag) : List V → Hp → VK → Prop := fun vs H Q => ∃ (p : Addr) (i j : Int), vs = [.ref p] ∧ SqT K H p [.int i, .int j] ∧ Q (.int (if j < i then j else i)) H
section
variable {prog : Program} {w : World} {A : Around} {E : Value → Shared → Prop} {s : Shared}
theorem pair_iter {T : Addr} {ps : Array (Int × Tok)} {R : Value → Shared → Prop} (hT : IsTup s.heap T (intItems ps))
    (k : ∀ s2 : Shared, s2 = { s with heap := s.heap.push { cls := .type "tuple_iterator", data := .fields #[.ref T, .int 0 0] } } → s2.heap.IsTupleIter s.heap.objs.size T 0 → s2.heap.IsTuple T (intItems ps) → T ≠ s.heap.objs.size → R (.ref s.heap.objs.size) s2) :
    wpAny (model prog w) A (pyIter (.ref T)) R E s := by
  have hTt : s.heap.IsTuple T (intItems ps) := hT
  have hlt : T < s.heap.objs.size := hT.lt
  exact wpAny_pyIter_tuple hTt (k _ rfl ⟨_, Heap.get?_push_size _ rfl, rfl, rfl⟩ (hTt.push _) (Nat.ne_of_lt hlt))
theorem best_gt (i j : Int) (t u : Tok) : argBest (fun a b => decide (numAt #[(i, t), (j, u)] a > numAt #[(i, t), (j, u)] b)) 1 = if j > i then 1 else 0 := by
  by_cases h : j > i <;> simp [argBest, numAt, h]
theorem best_lt (i j : Int) (t u : Tok) : argBest (fun a b => decide (numAt #[(i, t), (j, u)] a < numAt #[(i, t), (j, u)] b)) 1 = if j < i then 1 else 0 := by
  by_cases h : j < i <;> simp [argBest, numAt, h]
end
theorem call_maxT (hc : X.calm = true) : CallR X (.builtin "max") (rMaxT X.K) := by
  intro pins s σ H vs us Q I r h
  obtain ⟨p, i, j, rfl, hs, q⟩ := h
  obtain ⟨its, rv, hT, _⟩ := I.tuple hs
  obtain ⟨u1, u2, rfl, ⟨t1, rfl⟩, ⟨t2, rfl⟩⟩ := vals2 rv
  rw [Vals.ref1 r]
  have hT' : IsTup s.heap p (intItems #[(i, t1), (j, t2)]) := by simpa [intItems] using hT
  refine call_max_walk (pair_iter hT' fun s2 e st ht hne => ?_)
  subst e
  refine ⟨s.heap.objs.size, [s.heap.objs.size, p], [s.heap.objs.size], _, _, _, _, rfl, Walks.tuple (A := X.A.in1) (I.ok.hd hc) _ p hne (intItems #[(i, t1), (j, t2)]), ⟨st, ht⟩, fun b hb => ?_, by simp [intItems], CmpOf.ints_gt (numAt #[(i, t1), (j, t2)]) (fun _ _ => intItems_at), fun v h' tk hP hk => ?_⟩
  · show b < (s.heap.push _).objs.size
    rw [Heap.size_push]
    rcases List.mem_cons.mp hb with rfl | hb
    · exact Nat.lt_succ_self _
    · rcases List.mem_cons.mp hb with rfl | hb
      · exact Nat.lt_succ_of_lt hT'.lt
      · cases hb
  · have hv : v = if j > i then Value.int j t2 else Value.int i t1 := by
      have hP2 : (intItems #[(i, t1), (j, t2)])[argBest (fun a b => decide (numAt #[(i, t1), (j, t2)] a > numAt #[(i, t1), (j, t2)] b)) 1]? = some v := by
        have e2 : (intItems #[(i, t1), (j, t2)]).size - 1 = 1 := by simp [intItems]
        rw [← e2]; exact hP
      rw [best_gt] at hP2
      by_cases hji : j > i
      · rw [if_pos hji] at hP2 ⊢
        simpa [intItems] using hP2.symm
      · rw [if_neg hji] at hP2 ⊢
        simpa [intItems] using hP2.symm
    refine ⟨.int (if j > i then j else i), H, I.kept (t' := tk) (fun b o e => hk b o (fun z => ?_) (Heap.get?_push_of_some _ e)), ?_, q⟩
    · have := List.mem_singleton.mp z
      exact absurd (this ▸ Heap.lt_size e) (Nat.lt_irrefl _)
    · rw [hv]
      by_cases hji : j > i
      · rw [if_pos hji, if_pos hji]; exact ⟨_, rfl⟩
      · rw [if_neg hji, if_neg hji]; exact ⟨_, rfl⟩
theorem call_minT (hc : X.calm = true) : CallR X (.builtin "min") (rMinT X.K) := by
  intro pins s σ H vs us Q I r h
  obtain ⟨p, i, j, rfl, hs, q⟩ := h
  obtain ⟨its, rv, hT, _⟩ := I.tuple hs
  obtain ⟨u1, u2, rfl, ⟨t1, rfl⟩, ⟨t2, rfl⟩⟩ := vals2 rv
  rw [Vals.ref1 r]
  have hT' : IsTup s.heap p (intItems #[(i, t1), (j, t2)]) := by simpa [intItems] using hT
  refine call_min_walk (pair_iter hT' fun s2 e st ht hne => ?_)
  subst e
  refine ⟨s.heap.objs.size, [s.heap.objs.size, p], [s.heap.objs.size], _, _, _, _, rfl, Walks.tuple (A := X.A.in1) (I.ok.hd hc) _ p hne (intItems #[(i, t1), (j, t2)]), ⟨st, ht⟩, fun b hb => ?_, by simp [intItems], CmpOf.ints_lt (numAt #[(i, t1), (j, t2)]) (fun _ _ => intItems_at), fun v h' tk hP hk => ?_⟩
  · show b < (s.heap.push _).objs.size
    rw [Heap.size_push]
    rcases List.mem_cons.mp hb with rfl | hb
    · exact Nat.lt_succ_self _
    · rcases List.mem_cons.mp hb with rfl | hb
      · exact Nat.lt_succ_of_lt hT'.lt
      · cases hb
  · have hv : v = if j < i then Value.int j t2 else Value.int i t1 := by
      have hP2 : (intItems #[(i, t1), (j, t2)])[argBest (fun a b => decide (numAt #[(i, t1), (j, t2)] a < numAt #[(i, t1), (j, t2)] b)) 1]? = some v := by
        have e2 : (intItems #[(i, t1), (j, t2)]).size - 1 = 1 := by simp [intItems]
        rw [← e2]; exact hP
      rw [best_lt] at hP2
      by_cases hji : j < i
      · rw [if_pos hji] at hP2 ⊢
        simpa [intItems] using hP2.symm
      · rw [if_neg hji] at hP2 ⊢
        simpa [intItems] using hP2.symm
    refine ⟨.int (if j < i then j else i), H, I.kept (t' := tk) (fun b o e => hk b o (fun z => ?_) (Heap.get?_push_of_some _ e)), ?_, q⟩
    · have := List.mem_singleton.mp z
      exact absurd (this ▸ Heap.lt_size e) (Nat.lt_irrefl _)
    · rw [hv]
      by_cases hji : j < i
      · rw [if_pos hji, if_pos hji]; exact ⟨_, rfl⟩
      · rw [if_neg hji, if_neg hji]; exact ⟨_, rfl⟩

/-! ### order[::-1] -/
def tRevS (te : TE) : TE := fun σ H Q => te σ H fun x H1 => ∃ z, x = .str z ∧ z.length ≤ sizeLine ∧ Q (.str ⟨z.cps.reverse⟩) H1
theorem rev_pick (z : Str) : ((Builtin.Str.strSliceIndices none none (-1) z.length).filterMap (z.cps[·]?)).toArray = z.cps.reverse := by
  have e0 : Builtin.Str.strSliceIndices none none (-1) z.length = sliceRange ((z.length : Int) - 1) (-1) (-1) := rfl
  have e1 : z.length = z.cps.size := rfl
  rw [e0, PySem.W.krv_sliceRange, PySem.W.krv_range, List.filterMap_reverse, e1, PySem.W.krv_all]
  apply Array.ext'
  rw [Array.toList_reverse]
theorem pe_revS {e : Expr} {te : TE} {k : Nat} {q1 q2 q3 pos : Pos} (he : PE X e te) : PE X (.Subscript e (.Slice none none (some (.UnaryOp .USub (.Constant (.int 1) k q1) q2)) q3) pos) (tRevS te) := by
  refine ⟨fun pins s σ H Q I h => Subscript_ (thn (he.run pins s σ H _ I h) fun v s1 ⟨x, H1, I1, r1, z, ez, hz, q⟩ => ?_)⟩
  subst ez
  obtain ⟨tz, rfl⟩ := r1
  have stepP : PO X (some (.UnaryOp .USub (.Constant (.int 1) k q1) q2)) (tPart (tUn rNeg (tC (.int 1)))) := po_some (pe_un un_neg pe_int)
  refine wpAny_Slice (thn (po_none.run pins s1 σ H1 (fun o G => o = none ∧ G = H1) I1 ⟨rfl, rfl⟩) fun vl s2 ⟨l, G2, J2, pl, el, f2⟩ => ?_)
  subst el f2
  refine thn (po_none.run pins s2 σ G2 (fun o G => o = none ∧ G = G2) J2 ⟨rfl, rfl⟩) fun vu s3 ⟨u, G3, J3, pu, eu, f3⟩ => ?_
  subst eu f3
  refine thn (stepP.run pins s3 σ G3 (fun o G => o = some (-1) ∧ G = G3) J3 ⟨1, rfl, -1, rfl, rfl, rfl⟩) fun vs s4 ⟨o, G4, J4, ps, eo, f4⟩ => ?_
  subst eo f4
  have J5 : Inv X pins σ G4 { s4 with heap := s4.heap.push { cls := .type "slice", data := .fields #[vl, vu, vs] } } := J4.kept (t' := s4.toks) fun b ob q => Heap.get?_push_of_some _ q
  obtain ⟨l', rfl, el'⟩ := IsPart.raw pl
  obtain ⟨u', rfl, eu'⟩ := IsPart.raw pu
  obtain ⟨st, rfl, es⟩ := IsPart.raw ps
  have fin : (sliceMade z tz l' u' st).post (EP X pins σ Q) { s4 with heap := s4.heap.push { cls := .type "slice", data := .fields #[partValue l', partValue u', partValue st] } } := by
    have es' : (st.map (·.1)).getD 1 = -1 := by rw [es]; rfl
    unfold sliceMade slicePicked
    rw [es', el', eu', if_neg (by simp), rev_pick]
    exact ⟨by show z.cps.reverse.size ≤ _; rw [Array.size_reverse]; exact hz, .str _, G4, J5.tok _, ⟨_, rfl⟩, q⟩
  refine tail_any (ops := [.str z tz, .ref s4.heap.objs.size]) (typeIs_str _ _ _) (F.slot_str_getitem.lookup) ?_ (by with_unfolding_all rfl)
  exact wpAny_getItem_str_slice (l := l') (u := u') (st := st) ⟨_, Heap.get?_push_size _ rfl, rfl, rfl⟩ (by rw [es]; decide) fin

/-! ### max(xs, default=d) -/
def rMaxDf (K : PySem.W.Frag) : List V → List V → Hp → VK → Prop := fun vs zs H Q => ∃ (a : Addr) (ns : List Int) (d : Int), vs = [.ref a] ∧ zs = [.int d] ∧ SqL K H a (ns.map V.int) ∧
  ∀ m, (ns = [] → m = d) → (ns ≠ [] → m ∈ ns) → (∀ y, y ∈ ns → y ≤ m) → Q (.int m) H
section
variable {prog : Program} {w : World} {A : Around} {R : Result → Shared → Prop} {I : Addr} {fp wr : List Addr} {n : Nat} {P : Nat → Value → Prop} {St : Nat → Heap → Prop} {kw : List (Str × Value)}
theorem maxNm : (toString "max" ++ toString ".loop" : String) = "max.loop" := by decide
/-- the loop's turns, whatever its keywords are -/
theorem loopKw (W : Walks prog w A.in1 I fp wr n P St) (bt : Nat → Nat → Bool) (cmp : CmpOf prog w A.in1 .Gt P bt) (S : Addr) (apart : S ∉ fp) :
    ∀ (r j : Nat) (s : Shared) (vb : Value) (c : Nat), n - (j + 1) = r → j + 1 ≤ n → St (j + 1) s.heap → P (argBest bt j) vb →
    s.heap.get? S = some { cls := .type "list", dict := none, data := .seq #[vb, vb] c, slots := #[] } →
    (∀ v h' tk, P (argBest bt (n - 1)) v → (∀ b o, b ∉ wr → b ≠ S → s.heap.get? b = some o → h'.get? b = some o) → R (.ok (.ret v)) { s with heap := h', toks := tk }) →
    codeAny (model prog w) A (.builtin "max.loop" ⟨[.ref I, .none, .ref S], kw⟩) R s := by
  have apartW : S ∉ wr := fun z => apart (W.sub _ z)
  intro r
  induction r with
  | zero =>
    intro j s vb c hr hj hst pb atS fin
    have last : j + 1 = n := by omega
    refine codeAny_builtin F.entry_max_loop ?_; rw [Around.under_plainId F.plain_max_loop _]
    show wpAny _ A.in1 (seqItems? (.ref S) >>= _) _ _ s
    refine wpAny_bind (wpAny_seqItems atS rfl ?_)
    show wpAny _ A.in1 (tryCatch (pyNext (.ref I)) _ >>= _) _ _ s
    refine wpAny_bind (wpAny_tryCatch (W.done s _ _ (last ▸ hst) fun h1 tk k1 => ?_))
    have atS1 := k1 S _ apartW atS
    show wpAny _ A.in1 (updateSeq S (fun _ => #[]) >>= _) _ _ _
    refine wpAny_bind ?_
    refine wpAny_updateSeq atS1 rfl (wpAny_bind (wpAny_letGo (wpAny_pure ?_)))
    exact fin vb _ tk (by rw [← last]; exact pb) fun b o nw ns e => (Heap.get?_update_other _ _ (Ne.symm ns)).trans (k1 b o nw e)
  | succ r ih =>
    intro j s vb c hr hj hst pb atS fin
    have more : j + 1 < n := by omega
    refine codeAny_builtin F.entry_max_loop ?_; rw [Around.under_plainId F.plain_max_loop _]
    show wpAny _ A.in1 (seqItems? (.ref S) >>= _) _ _ s
    refine wpAny_bind (wpAny_seqItems atS rfl ?_)
    show wpAny _ A.in1 (tryCatch (pyNext (.ref I)) _ >>= _) _ _ s
    refine wpAny_bind (wpAny_tryCatch (W.item (j + 1) s _ _ more hst fun v h1 tk pv1 hst1 k1 => ?_))
    have atS1 := k1 S _ apartW atS
    show wpAny _ A.in1 (tryCatch (holding [v, v] (richCompare .Gt v vb >>= _)) _ >>= _) _ _ _
    refine wpAny_bind (wpAny_tryCatch (wpAny_holding (wpAny_bind (cmp (j + 1) (argBest bt j) v vb _ _ _ pv1 pb ?_))))
    refine wpAny_bind (wpAny_holding (wpAny_truthy_bool ?_))
    refine wpAny_bind (wpAny_letGo (wpAny_pure ?_))
    by_cases hb : bt (j + 1) (argBest bt j) = true
    · simp only [hb, if_true]
      refine wpAny_bind ?_
      refine wpAny_updateSeq atS1 rfl (wpAny_bind (wpAny_letGo ?_))
      rw [maxNm]
      refine wpAny_pure ⟨plainId_quiet F.plain_max_loop _, ih (j + 1) _ v _ (by omega) more (W.frame _ _ _ hst1 fun b bf o e => ?_) (by simp only [argBest, hb, if_true]; exact pv1) (Heap.get?_update_self _ atS1 rfl) fun v2 h2 tk2 p2 k2 => ?_⟩
      · exact (Heap.get?_update_other _ _ (fun z : S = b => apart (by rw [z]; exact bf))).trans e
      · exact fin v2 h2 tk2 p2 fun b o nw ns e => k2 b o nw ns ((Heap.get?_update_other _ _ (Ne.symm ns)).trans (k1 b o nw e))
    · have hb : bt (j + 1) (argBest bt j) = false := by simpa using hb
      simp only [hb, Bool.false_eq_true, if_false]
      refine wpAny_bind (wpAny_letGo ?_)
      rw [maxNm]
      exact wpAny_pure ⟨plainId_quiet F.plain_max_loop _, ih (j + 1) _ vb c (by omega) more hst1 (by simp only [argBest, hb, Bool.false_eq_true, if_false]; exact pb) atS1 fun v2 h2 tk2 p2 k2 => fin v2 h2 tk2 p2 fun b o nw ns e => k2 b o nw ns (k1 b o nw e)⟩
theorem loopKw0 (W : Walks prog w A.in1 I fp wr n P St) (bt : Nat → Nat → Bool) (cmp : CmpOf prog w A.in1 .Gt P bt) (S : Addr) (apart : S ∉ fp) {d : Value} {x : Str} {s : Shared} {c : Nat} (hst : St 0 s.heap)
    (atS : s.heap.get? S = some { cls := .type "list", dict := none, data := .seq #[] c, slots := #[] })
    (fin : ∀ v h' tk, (n = 0 → v = d) → (0 < n → P (argBest bt (n - 1)) v) → (∀ b o, b ∉ wr → b ≠ S → s.heap.get? b = some o → h'.get? b = some o) → R (.ok (.ret v)) { s with heap := h', toks := tk }) :
    codeAny (model prog w) A (.builtin "max.loop" ⟨[.ref I, .none, .ref S], [(x, d)]⟩) R s := by
  have apartW : S ∉ wr := fun z => apart (W.sub _ z)
  refine codeAny_builtin F.entry_max_loop ?_; rw [Around.under_plainId F.plain_max_loop _]
  show wpAny _ A.in1 (seqItems? (.ref S) >>= _) _ _ s
  refine wpAny_bind (wpAny_seqItems atS rfl ?_)
  show wpAny _ A.in1 (tryCatch (pyNext (.ref I)) _ >>= _) _ _ s
  by_cases hn : n = 0
  · refine wpAny_bind (wpAny_tryCatch (W.done s _ _ (hn ▸ hst) fun h1 tk k1 => ?_))
    show wpAny _ A.in1 (rule _ >>= _) _ _ _
    refine wpAny_bind (wpAny_rule (wpAny_pure ?_))
    exact fin d h1 tk (fun _ => rfl) (fun z => absurd z (by omega)) fun b o nw _ e => k1 b o nw e
  · have pos : 0 < n := by omega
    refine wpAny_bind (wpAny_tryCatch (W.item 0 s _ _ pos hst fun v h1 tk pv1 hst1 k1 => ?_))
    have atS1 := k1 S _ apartW atS
    show wpAny _ A.in1 (updateSeq S (fun _ => #[v, v]) >>= _) _ _ _
    refine wpAny_bind ?_
    refine wpAny_updateSeq atS1 rfl ?_
    rw [maxNm]
    refine wpAny_pure ⟨plainId_quiet F.plain_max_loop _, loopKw W bt cmp S apart _ 0 _ v _ rfl pos (W.frame _ _ _ hst1 fun b bf o e => ?_) pv1 (Heap.get?_update_self _ atS1 rfl) fun v2 h2 tk2 p2 k2 => ?_⟩
    · exact (Heap.get?_update_other _ _ (fun z : S = b => apart (by rw [z]; exact bf))).trans e
    · exact fin v2 h2 tk2 (fun z => absurd z hn) (fun _ => p2) fun b o nw ns e => k2 b o nw ns ((Heap.get?_update_other _ _ (Ne.symm ns)).trans (k1 b o nw e))
end
theorem args_maxD (a d : Value) : argsOk "max" ⟨[a], [(Str.ofString "default", d)]⟩ := by unfold argsOk; kernel_rfl
theorem call_maxD (hc : X.calm = true) : CallRK X (.builtin "max") [Str.ofString "default"] (rMaxDf X.K) := by
  intro pins s σ H vs zs us ws Q I r rz h
  obtain ⟨a, ns, d, rfl, rfl, hs, q⟩ := h
  obtain ⟨its, rv, hl, _⟩ := I.list hs
  rw [Vals.ref1 r]
  obtain ⟨w1, rfl, td, rfl⟩ := vals1 rz
  have hi := rv.ints
  obtain ⟨ps, e⟩ := hi.allInts.items
  have hn : numsOf (intItems ps).toList = ns := by rw [← e]; exact hi.numsOf
  rw [nums_intItems] at hn
  have hl2 : s.heap.IsList a (intItems ps) := by rw [← e]; exact hl.isList
  have hsz : (intItems ps).size = ns.length := by rw [← hn]; simp [intItems]
  show wpAny _ _ (call (.builtin "max") [.ref a] [(Str.ofString "default", .int d td)]) _ _ _
  refine PyProof.Rows.kmk_tree F.kind_max F.plain_max F.entry_max (args_maxD _ _) ?_
  show wpAny _ X.A.in1 (Builtin.Builtins.bindParams "max" ["key", "default"] 0 ⟨[], [(Str.ofString "default", .int d td)]⟩ >>= _) _ _ s
  refine wpAny_bind (wpAny_of_eq (show Builtin.Builtins.bindParams "max" ["key", "default"] 0 ⟨[], [(Str.ofString "default", .int d td)]⟩ = pure [none, some (.int d td)] from by kernel_rfl) ?_)
  refine wpAny_bind (wpAny_pure ?_)
  refine wpAny_bind (iter_intList hl2 fun s2 e2 st hfp hlI => ?_)
  subst e2
  refine wpAny_bind (wpAny_newObj_type ?_)
  rw [maxNm]
  have notIn : (s.heap.push { cls := .type "list_iterator", data := .fields #[.ref a, .int 0 0] }).objs.size ∉ [s.heap.objs.size, a] := fun z => Nat.lt_irrefl _ (hfp _ z)
  have W := Walks.list (prog := X.prog) (w := X.w) (A := X.A.in1) (I.ok.hd hc) s.heap.objs.size a hlI (intItems ps)
  refine wpAny_pure ⟨plainId_quiet F.plain_max_loop _, loopKw0 W _ (CmpOf.ints_gt (numAt ps) (fun _ _ => intItems_at)) _ notIn (W.frame _ _ _ st fun b _ o e => Heap.get?_push_of_some _ e) (Heap.get?_push_size _ rfl) fun v h' tk z1 z2 kp => ?_⟩
  have kept : ∀ b o, s.heap.get? b = some o → h'.get? b = some o := fun b o e => by
    have e1 := Heap.get?_push_of_some { cls := .type "list_iterator", data := .fields #[.ref a, .int 0 0] } e
    refine kp b o (fun z => ?_) (Nat.ne_of_lt (Heap.lt_size e1)) (Heap.get?_push_of_some _ e1)
    have := List.mem_singleton.mp z
    exact absurd (this ▸ Heap.lt_size e) (Nat.lt_irrefl _)
  have J : Inv X pins σ H { s with heap := h', toks := tk } := I.kept (t' := tk) kept
  by_cases hz : (intItems ps).size = 0
  · refine ⟨.int d, H, J, ⟨td, z1 hz⟩, q d (fun _ => rfl) (fun z => ?_) fun y hy => ?_⟩
    · exact absurd (List.eq_nil_of_length_eq_zero (by rw [← hsz]; exact hz)) z
    · have := List.eq_nil_of_length_eq_zero (by rw [← hsz]; exact hz : ns.length = 0)
      rw [this] at hy; cases hy
  · have pos : 0 < (intItems ps).size := by omega
    obtain ⟨t, rfl⟩ := intItems_at (z2 pos)
    obtain ⟨b1, b2⟩ := argBest_gt (numAt ps) (ps.size - 1)
    have hps : (intItems ps).size = ps.size := by simp [intItems]
    rw [hps]
    refine ⟨.int _, H, J, ⟨t, rfl⟩, q _ (fun z => ?_) (fun _ => ?_) fun y hy => ?_⟩
    · exact absurd (by rw [hsz, z]; rfl) hz
    · rw [← hn, numAt_eq]; exact PySem.getD_mem (by rw [List.length_map, Array.length_toList]; omega)
    · rw [← hn] at hy
      obtain ⟨j, hj, rfl⟩ := mem_getD hy
      rw [List.length_map, Array.length_toList] at hj
      rw [← numAt_eq]; exact b2 j (by omega)

/-! ### y = {k: v for ..} on one line, y a local -/
theorem ps_setDc {i : Nat} {y : Str} {py : Pos} {kx vx tg iter : Expr} {ifs : List Expr} {scope : Scope} {own : List (Str × Nat)} {pos sp : Pos} {wi : TI} {g : TG} {tt : TT} {tk tv : TE} (hc : X.calm = true) (nd : X.N.Nodup) (hy : X.N[i]? = some y) (loc : X.env.scope.names.lookup y = some .local)
    (hsw : swapsWith (.DictComp kx vx [⟨tg, iter, ifs, 0⟩] scope pos) (some (.Name y py)) sp.line X.env = pure true) (hi : PI X tg iter wi) (ok : BlkOk X.N X.env.scope scope own)
    (hg : ∀ (s : Shared) (H : Hp) (B : Addr) (cs : List (Str × Addr)) (fp : List Addr), PG (X.blk s H scope (compEnvC scope cs B X.env) fp) tg g)
    (ht : ∀ (s : Shared) (H : Hp) (B : Addr) (cs : List (Str × Addr)) (fp : List Addr), PTs (X.blk s H scope (compEnvC scope cs B X.env) fp) ifs tt)
    (hk : ∀ (s : Shared) (H : Hp) (B : Addr) (cs : List (Str × Addr)) (fp : List Addr), PE (X.blk s H scope (compEnvC scope cs B X.env) fp) kx tk)
    (he : ∀ (s : Shared) (H : Hp) (B : Addr) (cs : List (Str × Addr)) (fp : List Addr), PE (X.blk s H scope (compEnvC scope cs B X.env) fp) vx tv) (hs : ∀ x, foldedSetIterable iter X.env x = pure x := by intro _; rfl) :
    PS X (.Assign [.Name y py] (.DictComp kx vx [⟨tg, iter, ifs, 0⟩] scope pos) sp) (tAsg (tDc wi g tt tk tv (own.map (·.2))) (gName i)) := by
  refine ⟨fun pins s σ H D I h => ?_⟩
  rw [exec_Assign_Name_used _ _ _ _ hsw]
  refine wpAny_bind (wpAny_standAt (wpAny_bind ?_))
  show wpAny _ X.A (do let _ ← comprehension (.DictComp kx vx [⟨tg, iter, ifs, 0⟩] scope pos) scope X.env (firstIterPos [⟨tg, iter, ifs, 0⟩] pos) newDict false (eval iter X.env) (some (assign (.Name y py) X.env))) _ _ s
  have w : tDc wi g tt tk tv (own.map (·.2)) σ H (fun x G => gName i x σ G D.nx) := h
  refine wpAny_bind (thn (dc_core (Qf := fun _ s' => SP X pins D .next s') hc nd I hi ok hg ht hk he hs w fun L B s' m G I' q hn ff => ?_) fun _ s' hq => wpAny_pure (wpAny_pure hq))
  show wpAny _ _ (assign (.Name y py) X.env (.ref L)) _ _ _
  refine wpAny_assign_Name (store_ok2 (v := V.ref L) I' nd hy (.inl loc) rfl (fun s2 I2 ⟨a, sb, ha⟩ => ?_) (.inr loc))
  obtain ⟨f0, f1, f2, f3, f4, f5⟩ := ff
  have apart : B ≠ a := by
    rcases ha with z | z
    · rw [z]; exact f1
    · exact fun e => f4 y a z e.symm
  exact ⟨m, hn.sameBut sb apart, fun h3 sb3 => ⟨_, G, I2.turned (t' := s2.toks) (fun b o hb e => (sb3.2 b hb).trans e) f0 f1 f3 f4 f5, q⟩⟩
theorem sw_trueD {kx vx : Expr} {gs : List Comprehension} {scope : Scope} {pos py : Pos} {y : Str} {l : Nat} {env : Env} (hk : env.scope.kind = .function) (hy : env.scope.names.lookup y = some .local) (hl : (py.line == pos.line) = true)
    (ha : (scope.names.any fun (n, k) => n == y && (k == .local || k == .cell)) = false) : swapsWith (.DictComp kx vx gs scope pos) (some (.Name y py)) l env = pure true := by
  have ky : env.kindOf y = some .local := hy
  have bk : env.blockKind = .function := by unfold Env.blockKind; rw [hk]; rfl
  unfold swapsWith
  simp only [bk, ky, ha, Expr.pos, hl]; rfl
end
end Bw
/-! how data lies in the abstract heap; the promises -/
namespace Bw
open PySem PySem.Spec PyProof.Rows L2 Evl Bb
abbrev nV (x : Nat) : V := .int (x : Int)
/-- at a: a list of cells; of ints; of lists of cells; of pairs -/
def LN (H : Hp) (a : Addr) (xs : List Nat) : Prop := H a = some (.lst (xs.map nV))
def LI (H : Hp) (a : Addr) (xs : List Int) : Prop := H a = some (.lst (xs.map V.int))
def PN (H : Hp) (a : Addr) (l : Nat × Nat) : Prop := H a = some (.tup [nV l.1, nV l.2])
def LLN (H : Hp) (a : Addr) (rows : List (List Nat)) : Prop := ∃ ads : List Addr, H a = some (.lst (ads.map V.ref)) ∧ Paired (LN H) ads rows
def LPN (H : Hp) (a : Addr) (ls : List (Nat × Nat)) : Prop := ∃ ads : List Addr, H a = some (.lst (ads.map V.ref)) ∧ Paired (PN H) ads ls
section
variable {H H' : Hp} {a : Addr}
theorem LN.ex {xs : List Nat} (e : Ex H H') (h : LN H a xs) : LN H' a xs := e _ _ h
theorem LI.ex {xs : List Int} (e : Ex H H') (h : LI H a xs) : LI H' a xs := e _ _ h
theorem PN.ex {l : Nat × Nat} (e : Ex H H') (h : PN H a l) : PN H' a l := e _ _ h
theorem LLN.ex {xs : List (List Nat)} (e : Ex H H') (h : LLN H a xs) : LLN H' a xs := by
  obtain ⟨ads, h1, h2⟩ := h
  exact ⟨ads, e _ _ h1, Paired.mono (fun _ _ z => LN.ex e z) h2⟩
theorem LPN.ex {xs : List (Nat × Nat)} (e : Ex H H') (h : LPN H a xs) : LPN H' a xs := by
  obtain ⟨ads, h1, h2⟩ := h
  exact ⟨ads, e _ _ h1, Paired.mono (fun _ _ z => PN.ex e z) h2⟩
end
theorem Paired.atI {α β : Type} {F : α → β → Prop} : ∀ {l : List α} {m : List β} {i : Nat} {b : β}, Paired F l m → m[i]? = some b → ∃ a, l[i]? = some a ∧ F a b
  | _, _, i, b, .nil, h => by simp at h
  | _, _, 0, b, .cons r _, h => by simp at h; subst h; exact ⟨_, rfl, r⟩
  | _, _, i + 1, b, .cons _ t, h => by
    obtain ⟨a, h1, h2⟩ := Paired.atI t (by simpa using h)
    exact ⟨a, by simpa using h1, h2⟩
theorem Paired.atL {α β : Type} {F : α → β → Prop} : ∀ {l : List α} {m : List β} {i : Nat} {a : α}, Paired F l m → l[i]? = some a → ∃ b, m[i]? = some b ∧ F a b
  | _, _, i, b, .nil, h => by simp at h
  | _, _, 0, b, .cons r _, h => by simp at h; subst h; exact ⟨_, rfl, r⟩
  | _, _, i + 1, b, .cons _ t, h => by
    obtain ⟨a, h1, h2⟩ := Paired.atL t (by simpa using h)
    exact ⟨a, by simpa using h1, h2⟩

/-! ### data of any depth -/
mutual
inductive At (H : Hp) : V → PyData → Prop
  | bl (b : Bool) : At H (.bl b) (.bool b)
  | int (i : Int) : At H (.int i) (.int i)
  | str (x : Str) : At H (.str x) (.str x)
  | lst {a : Addr} {xs : List V} {ds : List PyData} : H a = some (.lst xs) → AtAll H xs ds → At H (.ref a) (.list ds)
  | tup {a : Addr} {xs : List V} {ds : List PyData} : H a = some (.tup xs) → AtAll H xs ds → At H (.ref a) (.tuple ds)
inductive AtAll (H : Hp) : List V → List PyData → Prop
  | nil : AtAll H [] []
  | cons {v : V} {vs : List V} {d : PyData} {ds : List PyData} : At H v d → AtAll H vs ds → AtAll H (v :: vs) (d :: ds)
end
def Lv : Nat → PyData → Prop
  | _ + 1, .bool _ => True
  | _ + 1, .int _ => True
  | _ + 1, .str _ => True
  | k + 1, .list ds => ds.length ≤ 1000 ∧ ∀ d ∈ ds, Lv k d
  | k + 1, .tuple ds => ds.length ≤ 1000 ∧ ∀ d ∈ ds, Lv k d
  | _, _ => False

/-! ### orders, strongholds -/
def ordStr (ls : List Bool) : Str := ⟨(ls.map fun b => if b then 75 else 82).toArray⟩
noncomputable section
open Classical
def keepL (n : Nat) (near : List (List Nat)) (t : Nat) : List Nat := (List.range n).filter fun c => decide (IsTree.Keep n near t c)
def backL (n : Nat) (near : List (List Nat)) (t : Nat) : List Nat := (List.range n).filter fun c => decide (IsTree.Back n near t c)
def strongW (n : Nat) (near : List (List Nat)) (t : Nat) : Str := if keepL n near t = [] then "backbone" else "keep"
def strongL (n : Nat) (near : List (List Nat)) (t : Nat) : List Nat := if keepL n near t = [] then backL n near t else keepL n near t
def fateS (n : Nat) (near : List (List Nat)) (t : Nat) (R : List Nat) : Str := if IsTree.Calm n near t (· ∈ R) then "held" else "stripped"
end
/-- at p: (word, list), the list new -/
def StrongAt (H0 H : Hp) (p : Addr) (w : Str) (cells : List Nat) : Prop := ∃ q, H p = some (.tup [.str w, .ref q]) ∧ H0 q = none ∧ LN H q cells

/-! ### the tree -/
def tfs (n : Nat) (l q : Addr) : List (Str × V) := [("size", nV n), ("_links", .ref l), ("_near", .ref q)]
/-- lexicographic order of pairs -/
def plt (x y : Nat × Nat) : Prop := x.1 < y.1 ∨ (x.1 = y.1 ∧ x.2 ≤ y.2)
structure TreeAt (C : Addr) (H : Hp) (x : Addr) (n : Nat) (near : List (List Nat)) (links : List (Nat × Nat)) : Prop where
  ob : ∃ dx l q, H x = some (.ins C dx (tfs n l q)) ∧ LPN H l links ∧ LLN H q near
  tree : IsTree n near
  near : IsNear n links near
  srt : links.Pairwise plt
  small : n ≤ 200
  lsmall : links.length ≤ 200
  llt : ∀ l ∈ links, l.1 < n ∧ l.2 < n
theorem TreeAt.ex {C : Addr} {H H' : Hp} {x : Addr} {n : Nat} {near : List (List Nat)} {links : List (Nat × Nat)} (e : Ex H H') (h : TreeAt C H x n near links) : TreeAt C H' x n near links := by
  obtain ⟨⟨dx, l, q, h1, h2, h3⟩, a, b, c, d, f, g⟩ := h
  exact ⟨⟨dx, l, q, e _ _ h1, h2.ex e, h3.ex e⟩, a, b, c, d, f, g⟩

/-! ### the promises -/
section
/-- what a promise hands on: a new list -/
def NewN (H : Hp) (Q : VK) (P : List Nat → Prop) : Prop := ∀ (p : Addr) (H' : Hp) (xs : List Nat), H p = none → Ex H H' → LN H' p xs → P xs → Q (.ref p) H'
def NewLL (H : Hp) (Q : VK) (P : List (List Nat) → Prop) : Prop := ∀ (p : Addr) (H' : Hp) (xs : List (List Nat)), H p = none → Ex H H' → LLN H' p xs → P xs → Q (.ref p) H'
def RetI (H : Hp) (Q : VK) (P : Int → Prop) : Prop := ∀ (i : Int) (H' : Hp), Ex H H' → P i → Q (.int i) H'
def RetB (H : Hp) (Q : VK) (P : Bool → Prop) : Prop := ∀ (b : Bool) (H' : Hp), Ex H H' → P b → Q (.bl b) H'
-- rows and sizes
def sp_top_sums (K : PySem.W.Frag) (C : Addr) : Sp := fun vs H Q _ => ∃ (a : Addr) (ss : List Nat), vs = [.ref a] ∧ LN H a ss ∧ ss.length ≤ 1000 ∧ ss.sum ≤ 1000 ∧ (∀ x ∈ ss, 1 ≤ x) ∧ NewN H Q (fun r => r = tsL ss)
def sp_first_break (K : PySem.W.Frag) (C : Addr) : Sp := fun vs H Q _ => ∃ (a b : Addr) (ss : List Nat) (row : List Int), vs = [.ref a, .ref b] ∧ LN H a ss ∧ LI H b row ∧ ss.length ≤ 1000 ∧ ss.sum ≤ 1000 ∧ (∀ x ∈ ss, 1 ≤ x) ∧ row.length = ss.sum ∧
  ∀ (v : V) (H' : Hp), Ex H H' → (v = .non ∧ (∀ (i c : Nat) (d : Int), (tsL ss)[i]? = some c → row[i]? = some d → (c : Int) ≤ d) ∨ (∃ j : Int, v = .int j) ∧ ¬ ∀ (i c : Nat) (d : Int), (tsL ss)[i]? = some c → row[i]? = some d → (c : Int) ≤ d) → Q v H'
def sp_fits (K : PySem.W.Frag) (C : Addr) : Sp := fun vs H Q _ => ∃ (a b : Addr) (ss : List Nat) (row : List Int), vs = [.ref a, .ref b] ∧ LN H a ss ∧ LI H b row ∧ ss.length ≤ 1000 ∧ ss.sum ≤ 1000 ∧ (∀ x ∈ ss, 1 ≤ x) ∧ row.length = ss.sum ∧
  RetB H Q (fun b => b = true ↔ ∀ (i c : Nat) (d : Int), (tsL ss)[i]? = some c → row[i]? = some d → (c : Int) ≤ d)
def NewI (H : Hp) (Q : VK) (P : List Int → Prop) : Prop := ∀ (p : Addr) (H' : Hp) (xs : List Int), H p = none → Ex H H' → LI H' p xs → P xs → Q (.ref p) H'
def sp_counted_bounds (K : PySem.W.Frag) (C : Addr) : Sp := fun vs H Q _ => ∃ (a : Addr) (row : List Int), vs = [.ref a] ∧ LI H a row ∧ row.length ≤ 1000 ∧ NewI H Q (fun r => r = cbL row)
def sp_keeper_step (K : PySem.W.Frag) (C : Addr) : Sp := fun vs H Q _ => ∃ (a : Addr) (row : List Int), vs = [.ref a] ∧ LI H a row ∧ row.length ≤ 1000 ∧ NewI H Q (fun r => r = ksL row)
def sp_raider_step (K : PySem.W.Frag) (C : Addr) : Sp := fun vs H Q _ => ∃ (a : Addr) (row : List Int), vs = [.ref a] ∧ LI H a row ∧ row.length ≤ 1000 ∧ NewI H Q (fun r => r = rsL row)
def sp_step (K : PySem.W.Frag) (C : Addr) : Sp := fun vs H Q _ => ∃ (a : Addr) (row : List Int) (b : Bool), vs = [.str (ordStr [b]), .ref a] ∧ LI H a row ∧ row.length ≤ 1000 ∧ NewI H Q (fun r => r = if b then ksL row else rsL row)
def sp_pull (K : PySem.W.Frag) (C : Addr) : Sp := fun vs H Q _ => ∃ (a : Addr) (ls : List Bool), vs = [.str (ordStr ls), .ref a] ∧ LI H a [] ∧ ls.length ≤ 500 ∧ Fair ls ∧ NewI H Q (fun r => RowOk (ls.count true) ls.length r)
def sp_require_turns (K : PySem.W.Frag) (C : Addr) : Sp := fun vs H Q _ => ∃ i j : Int, vs = [.int i, .int j] ∧ i ≤ j ∧ ∀ H', Ex H H' → Q .non H'
def sp_checked_goal (K : PySem.W.Frag) (C : Addr) : Sp := fun vs H Q _ => vs = [.non, .int 0] ∧ NewI H Q (fun r => r = [])
def sp_kept (K : PySem.W.Frag) (C : Addr) : Sp := fun vs H Q _ => ∃ (a : Addr) (ss : List Nat) (ls : List Bool), vs = [.ref a, .str (ordStr ls), .non] ∧ LN H a ss ∧ ss.Pairwise (· ≥ ·) ∧ (∀ x ∈ ss, 1 ≤ x) ∧ ss.sum = ls.length ∧ ls.length ≤ 500 ∧ Fair ls ∧
  RetB H Q (fun b => b = true ↔ ∀ x ∈ ss, x ≤ ls.count true)
-- trees
def sp_root_of (K : PySem.W.Frag) (C : Addr) : Sp := fun vs H Q _ => ∃ (a : Addr) (par : List Nat) (c : Nat) (ht : Nat → Nat), vs = [.ref a, nV c] ∧ LN H a par ∧ c < par.length ∧ par.length ≤ 1000 ∧
  (∀ (v u : Nat), par[v]? = some u → u < par.length ∧ (u = v ∨ ht u < ht v)) ∧
  ∀ (r : Nat) (H' : Hp), Ex H H' → r < par.length → par[r]? = some r → (∀ P : Nat → Prop, P c → (∀ (v u : Nat), par[v]? = some u → P v → P u) → P r) → Q (nV r) H'
def sp_first_bad_link (K : PySem.W.Frag) (C : Addr) : Sp := fun vs H Q _ => ∃ (a : Addr) (n : Nat) (links : List (Nat × Nat)), vs = [nV n, .ref a] ∧ LPN H a links ∧ Gen n links ∧ n ≤ 1000 ∧ ∀ H', Ex H H' → Q .non H'
def sp_neighbour_table (K : PySem.W.Frag) (C : Addr) : Sp := fun vs H Q _ => ∃ (a : Addr) (n : Nat) (links : List (Nat × Nat)), vs = [nV n, .ref a] ∧ LPN H a links ∧ (∀ l ∈ links, l.1 < n ∧ l.2 < n) ∧ n ≤ 1000 ∧ links.length ≤ 1000 ∧ NewLL H Q (IsNear n links)
def sp_pieces_of (K : PySem.W.Frag) (C : Addr) : Sp := fun vs H Q _ => ∃ (a b : Addr) (n : Nat) (S : List Nat) (near : List (List Nat)), vs = [.ref a, .ref b] ∧ LN H a S ∧ LLN H b near ∧ Tab n near ∧ S.Nodup ∧ (∀ x ∈ S, x < n) ∧ n ≤ 200 ∧ NewLL H Q (Pieces near S)
def sp_require_region (K : PySem.W.Frag) (C : Addr) : Sp := fun vs H Q _ => ∃ (a b : Addr) (n : Nat) (S : List Nat) (near : List (List Nat)), vs = [.ref a, .ref b] ∧ LN H a S ∧ LLN H b near ∧ IsTree n near ∧ S.Nodup ∧ IsTree.Region n near (· ∈ S) ∧ n ≤ 200 ∧ ∀ H', Ex H H' → Q .non H'
def sp_table_of (K : PySem.W.Frag) (C : Addr) : Sp := fun vs H Q _ => ∃ (x : Addr) (n : Nat) (near : List (List Nat)) (links : List (Nat × Nat)), vs = [.ref x] ∧ TreeAt C H x n near links ∧ NewLL H Q (fun r => r = near)
def sp_outer_pieces (K : PySem.W.Frag) (C : Addr) : Sp := fun vs H Q _ => ∃ (a r b : Addr) (n : Nat) (R : List Nat) (near : List (List Nat)), vs = [.ref a, .ref r, .ref b] ∧ LN H a (List.range n) ∧ LN H r R ∧ LLN H b near ∧ IsTree n near ∧ R.length ≤ 200 ∧ n ≤ 200 ∧
  NewLL H Q (fun ps => ∃ S : List Nat, Pieces near S ps ∧ S.Nodup ∧ ∀ x, x ∈ S ↔ x < n ∧ x ∉ R)
def sp_outer_sizes (K : PySem.W.Frag) (C : Addr) : Sp := fun vs H Q _ => ∃ (x r : Addr) (n : Nat) (R : List Nat) (near : List (List Nat)) (links : List (Nat × Nat)), vs = [.ref x, .ref r] ∧ TreeAt C H x n near links ∧ LN H r R ∧ R.Nodup ∧ IsTree.Region n near (· ∈ R) ∧
  NewN H Q (fun ss => ss.Pairwise (· ≥ ·) ∧ (∀ x ∈ ss, 1 ≤ x) ∧ ss.sum + R.length = n ∧ ∀ t, (∀ x ∈ ss, x ≤ t) ↔ IsTree.Calm n near t (· ∈ R))
def sp_without_last_raids (K : PySem.W.Frag) (C : Addr) : Sp := fun vs H Q _ => ∃ (ls : List Bool) (k : Nat), vs = [.str (ordStr ls), nV k] ∧ k ≤ ls.count false ∧ ls.length ≤ 500 ∧ ∀ H', Ex H H' → Q (.str (ordStr (strike (ls.count false - k) ls))) H'
def sp_region_fate (K : PySem.W.Frag) (C : Addr) : Sp := fun vs H Q _ => ∃ (x r : Addr) (n : Nat) (R : List Nat) (near : List (List Nat)) (links : List (Nat × Nat)) (ls : List Bool), vs = [.ref x, .ref r, .str (ordStr ls)] ∧ TreeAt C H x n near links ∧ LN H r R ∧ R.Nodup ∧ IsTree.Region n near (· ∈ R) ∧
  Fair ls ∧ ls.length + 1 = n ∧ ∀ H', Ex H H' → Q (.str (fateS n near (ls.count true) R)) H'
def pV : Option Nat → V
  | none => .int (-1)
  | some d => nV d
def LW (H : Hp) (a : Addr) (ws : List (Nat × Option Nat)) : Prop := ∃ ads : List Addr, H a = some (.lst (ads.map V.ref)) ∧ Paired (fun p w => H p = some (.tup [nV w.1, pV w.2])) ads ws
theorem LW.ex {H H' : Hp} {a : Addr} {ws : List (Nat × Option Nat)} (e : Ex H H') (h : LW H a ws) : LW H' a ws := by
  obtain ⟨ads, h1, h2⟩ := h
  exact ⟨ads, e _ _ h1, Paired.mono (fun _ _ z => e _ _ z) h2⟩
def sp_walk_from (K : PySem.W.Frag) (C : Addr) : Sp := fun vs H Q _ => ∃ (b : Addr) (n : Nat) (near : List (List Nat)), vs = [.ref b, .int 0] ∧ LLN H b near ∧ IsTree n near ∧ n ≤ 200 ∧
  ∀ (p : Addr) (H' : Hp) (ws : List (Nat × Option Nat)), H p = none → Ex H H' → LW H' p ws → Walk n near ws → (∀ x, x < n → x ∈ ws.map Prod.fst) → Q (.ref p) H'
def sp_Tree_init (K : PySem.W.Frag) (C : Addr) : Sp := fun vs H Q _ => ∃ (x dx a : Addr) (n : Nat) (links : List (Nat × Nat)), vs = [.ref x, nV n, .ref a] ∧ H x = some (.ins C dx []) ∧ LPN H a links ∧ Gen n links ∧ n ≤ 200 ∧
  ∀ (H' : Hp) (near : List (List Nat)) (sl : List (Nat × Nat)), (∀ b o, H b = some o → b ≠ x → H' b = some o) → sl.Perm (links.map mm) → TreeAt C H' x n near sl → Q .non H'
def sp_Tree_links (K : PySem.W.Frag) (C : Addr) : Sp := fun vs H Q _ => ∃ (x : Addr) (n : Nat) (near : List (List Nat)) (links : List (Nat × Nat)), vs = [.ref x] ∧ TreeAt C H x n near links ∧ ∀ (p : Addr) (H' : Hp), H p = none → Ex H H' → LPN H' p links → Q (.ref p) H'
def sp_Tree_neighbours (K : PySem.W.Frag) (C : Addr) : Sp := fun vs H Q _ => ∃ (x : Addr) (n c : Nat) (near : List (List Nat)) (links : List (Nat × Nat)), vs = [.ref x, nV c] ∧ TreeAt C H x n near links ∧ c < n ∧ NewN H Q (fun r => r = nb near c)
/-- at index c the sizes of the branches of c -/
def SizesOf (n : Nat) (near : List (List Nat)) (rows : List (List Nat)) : Prop := rows.length = n ∧ ∀ (c : Nat) (r : List Nat), rows[c]? = some r → r.length ≤ n ∧ ∀ v, v ∈ r ↔ ∃ d, d ∈ nb near c ∧ v = be n near c d
def sp_Tree_all_sizes (K : PySem.W.Frag) (C : Addr) : Sp := fun vs H Q _ => ∃ (x : Addr) (n : Nat) (near : List (List Nat)) (links : List (Nat × Nat)), vs = [.ref x] ∧ TreeAt C H x n near links ∧ NewLL H Q (SizesOf n near)
/-- the number is refused, or the strongholds are told -/
def sp_strongholds (K : PySem.W.Frag) (C : Addr) : Sp := fun vs H Q _ => ∃ (x : Addr) (n t : Nat) (near : List (List Nat)) (links : List (Nat × Nat)), vs = [.ref x, nV t] ∧ TreeAt C H x n near links ∧ t < n ∧
  ∀ (p : Addr) (H' : Hp), H p = none → Ex H H' → StrongAt H H' p (strongW n near t) (strongL n near t) → Q (.ref p) H'
-- the law's helpers
def sp_l_cell (K : PySem.W.Frag) (C : Addr) : Sp := fun vs H Q _ => ∃ (a : Addr) (ns : List Int) (k : Nat), vs = [.ref a, nV k] ∧ SqL K H a (ns.map V.int) ∧ ns.length ≤ 63 ∧ RetI H Q (fun i => 0 ≤ i)
def sp_l_mixed (K : PySem.W.Frag) (C : Addr) : Sp := fun vs H Q _ => ∃ (c k : Int) (s : Nat), vs = [.int c, .int k, nV s] ∧ 1 ≤ s ∧ RetI H Q (fun i => 0 ≤ i ∧ i < s)
def sp_l_draws (K : PySem.W.Frag) (C : Addr) : Sp := fun vs H Q _ => ∃ (c : Int) (a : Addr) (menu : List Nat), vs = [.int c, .ref a] ∧ LN H a menu ∧ (∀ m ∈ menu, 1 ≤ m ∧ m ≤ 10000) ∧ menu.length ≤ 10000 ∧ NewN H Q (fun ds => Paired (fun d m => d < m) ds menu)
def sp_l_likeN (k : Nat) : Sp := fun vs H Q _ => ∃ (x y : V) (d : PyData), vs = [x, y] ∧ At H x d ∧ At H y d ∧ Lv k d ∧ ∀ H', Ex H H' → Q (.bl true) H'
def sp_l_like (K : PySem.W.Frag) (C : Addr) : Sp := sp_l_likeN 6
def sp_l_tree (K : PySem.W.Frag) (C : Addr) : Sp := fun vs H Q _ => ∃ (c : Int) (m : Nat), vs = [.int c, nV m] ∧ 1 ≤ m ∧ m ≤ 18 ∧
  ∀ (p q : Addr) (H' : Hp) (n : Nat) (links : List (Nat × Nat)), H p = none → Ex H H' → H' p = some (.tup [nV n, .ref q]) → LPN H' q links → Gen n links → n ≤ m → Q (.ref p) H'
def sp_l_near (K : PySem.W.Frag) (C : Addr) : Sp := sp_neighbour_table K C
def sp_l_pieces (K : PySem.W.Frag) (C : Addr) : Sp := fun vs H Q _ => ∃ (a b : Addr) (n : Nat) (S : List Nat) (near : List (List Nat)), vs = [.ref b, .ref a] ∧ LN H a S ∧ LLN H b near ∧ Tab n near ∧ S.Nodup ∧ (∀ x ∈ S, x < n) ∧ n ≤ 200 ∧ NewLL H Q (Pieces near S)
def sp_l_sizes (K : PySem.W.Frag) (C : Addr) : Sp := fun vs H Q _ => ∃ (a b : Addr) (n c : Nat) (near : List (List Nat)), vs = [.ref b, .ref a, nV c] ∧ LN H a (List.range n) ∧ LLN H b near ∧ IsTree n near ∧ c < n ∧ n ≤ 200 ∧
  NewN H Q (fun ss => ss.length ≤ n ∧ ∀ v, v ∈ ss ↔ ∃ d, d ∈ nb near c ∧ v = be n near c d)
def sp_l_grown (K : PySem.W.Frag) (C : Addr) : Sp := fun vs H Q _ => ∃ (c : Int) (b : Addr) (n k : Nat) (near : List (List Nat)), vs = [.int c, .ref b, nV k] ∧ LLN H b near ∧ IsTree n near ∧ 1 ≤ k ∧ k ≤ n ∧ n ≤ 200 ∧ NewN H Q (fun R => R.Nodup ∧ IsTree.Region n near (· ∈ R))
def sp_l_outer (K : PySem.W.Frag) (C : Addr) : Sp := fun vs H Q _ => ∃ (r b : Addr) (n : Nat) (R : List Nat) (near : List (List Nat)), vs = [.ref b, .ref r] ∧ LN H r R ∧ LLN H b near ∧ IsTree n near ∧ R.length ≤ 200 ∧ n ≤ 200 ∧
  NewN H Q (fun ss => ss.length ≤ n ∧ ∀ t, (∀ x ∈ ss, x ≤ t) ↔ IsTree.Calm n near t (· ∈ R))
def sp_l_fair_order (K : PySem.W.Frag) (C : Addr) : Sp := fun vs H Q _ => ∃ (c : Int) (m k : Nat), vs = [.int c, nV m, nV k] ∧ k ≤ m ∧ m ≤ 200 ∧ ∀ (ls : List Bool) (H' : Hp), Ex H H' → Fair ls → ls.length = m → ls.count true = k → Q (.str (ordStr ls)) H'
def sp_l_stronghold (K : PySem.W.Frag) (C : Addr) : Sp := fun vs H Q _ => ∃ (b a : Addr) (n t : Nat) (near : List (List Nat)) (links : List (Nat × Nat)), vs = [.ref b, .ref a, nV t] ∧ LLN H b near ∧ LPN H a links ∧ IsTree n near ∧ IsNear n links near ∧ links.length ≤ 200 ∧ (∀ l ∈ links, l.1 < n ∧ l.2 < n) ∧ n ≤ 200 ∧
  ∀ (p : Addr) (H' : Hp), H p = none → Ex H H' → StrongAt H H' p (strongW n near t) (strongL n near t) → Q (.ref p) H'
def sp_l_missing (K : PySem.W.Frag) (C : Addr) : Sp := fun vs H Q _ => ∃ (b p q : Addr) (n t d : Nat) (near : List (List Nat)), vs = [.ref b, .ref p, nV d] ∧ LLN H b near ∧ H p = some (.tup [.str (strongW n near t), .ref q]) ∧ LN H q (strongL n near t) ∧ IsTree n near ∧ n ≤ 200 ∧
  ∀ (r : Addr) (H' : Hp) (R : List Nat), Ex H H' → LN H' r R → R.Nodup ∧ IsTree.Region n near (· ∈ R) → Q (.ref r) H'
def sp_l_holding (K : PySem.W.Frag) (C : Addr) : Sp := fun vs H Q _ => ∃ (p q : Addr) (n t d : Nat) (near : List (List Nat)), vs = [.ref p, nV d] ∧ H p = some (.tup [.str (strongW n near t), .ref q]) ∧ LN H q (strongL n near t) ∧ IsTree n near ∧ n ≤ 200 ∧
  NewN H Q (fun R => R.Nodup ∧ IsTree.Region n near (· ∈ R))
def sp_l_meets (K : PySem.W.Frag) (C : Addr) : Sp := fun vs H Q _ => ∃ (p q r : Addr) (n t : Nat) (R : List Nat) (near : List (List Nat)), vs = [.ref p, .ref r] ∧ H p = some (.tup [.str (strongW n near t), .ref q]) ∧ LN H q (strongL n near t) ∧ LN H r R ∧ IsTree n near ∧ IsTree.Region n near (· ∈ R) ∧ R.length ≤ 200 ∧ n ≤ 200 ∧
  RetB H Q (fun b => b = true ↔ IsTree.Calm n near t (· ∈ R))
/-- ("told", (word, list)), the inner list new; or ("range", the number) -/
def sp_l_told (K : PySem.W.Frag) (C : Addr) : Sp := fun vs H Q _ => ∃ (x : Addr) (n : Nat) (t : Int) (near : List (List Nat)) (links : List (Nat × Nat)), vs = [.ref x, .int t] ∧ TreeAt C H x n near links ∧ t.natAbs ≤ 1000 ∧
  (∀ (p s : Addr) (H' : Hp) (m : Nat), t = m → m < n → Ex H H' → H' p = some (.tup [.str "told", .ref s]) → StrongAt H H' s (strongW n near m) (strongL n near m) → Q (.ref p) H') ∧
  (∀ (p : Addr) (H' : Hp), (t < 0 ∨ (n : Int) ≤ t) → Ex H H' → H' p = some (.tup [.str "range", .int t]) → Q (.ref p) H')
def sp_l_judged (K : PySem.W.Frag) (C : Addr) : Sp := fun vs H Q _ => ∃ (x p q : Addr) (n t : Nat) (near : List (List Nat)) (links : List (Nat × Nat)), vs = [.ref x, nV t, .ref p] ∧ TreeAt C H x n near links ∧ t < n ∧ H p = some (.tup [.str (strongW n near t), .ref q]) ∧ LN H q (strongL n near t) ∧
  ∀ H', Ex H H' → Q (.bl true) H'
def sp_l_large_agrees (K : PySem.W.Frag) (C : Addr) : Sp := fun vs H Q _ => ∃ c : Int, vs = [.int c] ∧ 0 ≤ c ∧ ∀ H', Ex H H' → Q (.bl true) H'
def sp_law (K : PySem.W.Frag) (C : Addr) : Sp := fun vs H Q _ => ∃ (a : Addr) (ns : List Int), vs = [.ref a] ∧ SqL K H a (ns.map V.int) ∧ ns.length ≤ 63 ∧ ∀ H', Q (.bl true) H'
end
end Bw
/-! the readings, printed by gen.py -/
namespace Bw
open PySem PySem.Spec PyProof.Rows L2 Evl Bb
abbrev N_top_sums : List Str := ["sizes", "sums", "height", "entry"]
abbrev P_top_sums : List Str := ["sizes"]
-- slots: 0=sizes 1=sums 2=height 3=entry; calls: ; built-ins: len
def t_top_sums (K : PySem.W.Frag) (C : Addr) : TS :=
  (tSeq (tAsg (tLst tNil) (gName 1))
  (tSeq (tAsg (tC (.int 0)) (gName 2))
  (tSeq (tFor (iList K (tVar 0)) (gName 3) (tSeq (tAug 2 (tVar 3) ipAdd)
  (tDrop (tBM K "list" rAppend (tVar 1) (tCons (tVar 2) tNil)))))
  (tRet (tOp rCat (tVar 1) (tOp rRep (tLst (tCons (tVar 2) tNil)) (tOp rSub (tVar 2) (tCB (rLenQ K) (tCons (tVar 1) tNil)))))))))
abbrev N_first_break : List Str := ["sizes", "row", "sums", "index", "top"]
abbrev P_first_break : List Str := ["sizes", "row"]
-- slots: 0=sizes 1=row 2=sums 3=index 4=top; calls: top_sums; built-ins: enumerate len
def t_first_break (K : PySem.W.Frag) (C : Addr) : TS :=
  (tSeq (tAsg (tCall (sp_top_sums K C) [] E0 (tCons (tVar 0) tNil)) (gName 2))
  (tSeq (tIfS (tTest (tOp rNe (tCB (rLenQ K) (tCons (tVar 1) tNil)) (tCB (rLenQ K) (tCons (tVar 2) tNil)))) tNever tNext)
  (tSeq (tFor (iEnum K (tCons (tVar 2) tNil)) (gTup K 2 (gCons (gName 3) (gCons (gName 4) gNil))) (tIfS (tTest (tOp rGt (tVar 4) (tOp (rIxL K) (tVar 1) (tVar 3)))) (tRet (tOp rAdd (tVar 3) (tC (.int 1)))) tNext))
  (tRet (tC .non)))))
abbrev N_fits : List Str := ["sizes", "row"]
abbrev P_fits : List Str := ["sizes", "row"]
-- slots: 0=sizes 1=row; calls: first_break; built-ins: 
def t_fits (K : PySem.W.Frag) (C : Addr) : TS :=
  (tRet (tOp rIsNone (tCall (sp_first_break K C) [] E0 (tCons (tVar 0) (tCons (tVar 1) tNil))) (tC .non)))
abbrev N_counted_bounds : List Str := ["row", "most", "bound"]
abbrev P_counted_bounds : List Str := ["row"]
-- slots: 0=row 1=most 2=bound; calls: ; built-ins: min len
def t_counted_bounds (K : PySem.W.Frag) (C : Addr) : TS :=
  (tSeq (tAsg (tCB (rLenQ K) (tCons (tVar 0) tNil)) (gName 1))
  (tRet (tOp rCat (tLc (iList K (tVar 0)) (gName 2) tYes (tCB rMin2 (tCons (tVar 2) (tCons (tVar 1) tNil))) [2]) (tLst (tCons (tVar 1) tNil)))))
abbrev N_keeper_step : List Str := ["row", "bounds", "stepped", "k", "before"]
abbrev P_keeper_step : List Str := ["row"]
-- slots: 0=row 1=bounds 2=stepped 3=k 4=before; calls: counted_bounds; built-ins: len range min
def t_keeper_step (K : PySem.W.Frag) (C : Addr) : TS :=
  (tSeq (tAsg (tCall (sp_counted_bounds K C) [] E0 (tCons (tVar 0) tNil)) (gName 1))
  (tSeq (tAsg (tLst (tCons (tOp rAdd (tOp (rIxL K) (tVar 1) (tC (.int 0))) (tC (.int 1))) tNil)) (gName 2))
  (tSeq (tFor (iRng2 (tCons (tC (.int 1)) (tCons (tCB (rLenQ K) (tCons (tVar 1) tNil)) tNil))) (gName 3) (tSeq (tAsg (tOp (rIxL K) (tVar 1) (tOp rSub (tVar 3) (tC (.int 1)))) (gName 4))
  (tDrop (tBM K "list" rAppend (tVar 2) (tCons (tCB rMin2 (tCons (tOp rAdd (tOp (rIxL K) (tVar 1) (tVar 3)) (tC (.int 1))) (tCons (tOp rAdd (tOp rAdd (tVar 4) (tC (.int 1))) (tOp rFdiv (tVar 4) (tVar 3))) tNil))) tNil)))))
  (tRet (tVar 2)))))
abbrev N_raider_step : List Str := ["row", "most", "stepped", "bound"]
abbrev P_raider_step : List Str := ["row"]
-- slots: 0=row 1=most 2=stepped 3=bound; calls: counted_bounds; built-ins: min len
def t_raider_step (K : PySem.W.Frag) (C : Addr) : TS :=
  (tSeq (tAsg (tCB (rLenQ K) (tCons (tVar 0) tNil)) (gName 1))
  (tSeq (tAsg (tLc (iList K (tCall (sp_counted_bounds K C) [] E0 (tCons (tVar 0) tNil))) (gName 3) tYes (tIf (tTest (tOp rLt (tVar 3) (tVar 1))) (tVar 3) (tOp rAdd (tVar 1) (tC (.int 1)))) [3]) (gName 2))
  (tSeq (tAsg (tCB rMin2 (tCons (tOp (rIxL K) (tVar 2) (tC (.int 0))) (tCons (tVar 1) tNil))) (gSub (tVar 2) (tC (.int 0)) rSetL))
  (tRet (tVar 2)))))
abbrev N_step : List Str := ["letter", "row"]
abbrev P_step : List Str := ["letter", "row"]
-- slots: 0=letter 1=row; calls: raider_step keeper_step; built-ins: 
def t_step (K : PySem.W.Frag) (C : Addr) : TS :=
  (tSeq (tIfS (tTest (tOp rEq (tVar 0) (tC (.str "K")))) (tRet (tCall (sp_keeper_step K C) [] E0 (tCons (tVar 1) tNil))) tNext)
  (tRet (tCall (sp_raider_step K C) [] E0 (tCons (tVar 1) tNil))))
abbrev N_pull : List Str := ["order", "goal", "row", "letter"]
abbrev P_pull : List Str := ["order", "goal"]
-- slots: 0=order 1=goal 2=row 3=letter; calls: step; built-ins: list
def t_pull (K : PySem.W.Frag) (C : Addr) : TS :=
  (tSeq (tAsg (tCB (rListQ K) (tCons (tVar 1) tNil)) (gName 2))
  (tSeq (tFor (iStr (tRevS (tVar 0))) (gName 3) (tAsg (tCall (sp_step K C) [] E0 (tCons (tVar 3) (tCons (tVar 2) tNil))) (gName 2)))
  (tRet (tVar 2))))
abbrev N_require_turns : List Str := ["turns", "total"]
abbrev P_require_turns : List Str := ["turns", "total"]
-- slots: 0=turns 1=total; calls: ; built-ins: 
def t_require_turns (K : PySem.W.Frag) (C : Addr) : TS :=
  (tIfS (tTest (tOp rGt (tVar 0) (tVar 1))) tNever tNext)
abbrev N_checked_goal : List Str := ["goal", "left"]
abbrev P_checked_goal : List Str := ["goal", "left"]
-- slots: 0=goal 1=left; calls: ; built-ins: list len
def t_checked_goal (K : PySem.W.Frag) (C : Addr) : TS :=
  (tSeq (tIfS (tTest (tOp rIsNone (tVar 0) (tC .non))) (tRet (tOp rRep (tLst (tCons (tVar 1) tNil)) (tVar 1))) tNext)
  (tSeq (tIfS (tTest (tOp rNe (tCB (rLenQ K) (tCons (tVar 0) tNil)) (tVar 1))) tNever tNext)
  (tRet (tCB (rListQ K) (tCons (tVar 0) tNil)))))
abbrev N_root_of : List Str := ["parents", "cell"]
abbrev P_root_of : List Str := ["parents", "cell"]
-- slots: 0=parents 1=cell; calls: ; built-ins: 
def t_root_of (K : PySem.W.Frag) (C : Addr) : TS :=
  (tSeq (tWhile (tTest (tOp rNe (tOp (rIxL K) (tVar 0) (tVar 1)) (tVar 1))) (tAsg (tOp (rIxL K) (tVar 0) (tVar 1)) (gName 1)))
  (tRet (tVar 1)))
abbrev N_first_bad_link : List Str := ["size", "links", "parents", "index", "one", "other", "one_root", "other_root"]
abbrev P_first_bad_link : List Str := ["size", "links"]
-- slots: 0=size 1=links 2=parents 3=index 4=one 5=other 6=one_root 7=other_root; calls: root_of; built-ins: enumerate list range
def t_first_bad_link (K : PySem.W.Frag) (C : Addr) : TS :=
  (tSeq (tAsg (tLstRg (tRg1 (tVar 0))) (gName 2))
  (tSeq (tFor (iEnum K (tCons (tVar 1) tNil)) (gTup K 2 (gCons (gName 3) (gCons (gTup K 2 (gCons (gName 4) (gCons (gName 5) gNil))) gNil))) (tSeq (tIfS (tOr (tNot (tTest (tChain rLe rLt (tC (.int 0)) (tVar 4) (tVar 0)))) (tNot (tTest (tChain rLe rLt (tC (.int 0)) (tVar 5) (tVar 0))))) (tRet (tVar 3)) tNext)
  (tSeq (tAsg (tCall (sp_root_of K C) [] E0 (tCons (tVar 2) (tCons (tVar 4) tNil))) (gName 6))
  (tSeq (tAsg (tCall (sp_root_of K C) [] E0 (tCons (tVar 2) (tCons (tVar 5) tNil))) (gName 7))
  (tSeq (tIfS (tTest (tOp rEq (tVar 6) (tVar 7))) (tRet (tVar 3)) tNext)
  (tAsg (tVar 7) (gSub (tVar 2) (tVar 6) rSetL)))))))
  (tRet (tC .non))))
abbrev N_neighbour_table : List Str := ["size", "links", "table", "one", "other", "_", "row"]
abbrev P_neighbour_table : List Str := ["size", "links"]
-- slots: 0=size 1=links 2=table 3=one 4=other 5=_ 6=row; calls: ; built-ins: sorted range
def t_neighbour_table (K : PySem.W.Frag) (C : Addr) : TS :=
  (tSeq (tAsg (tLc (iRng1 (tCons (tVar 0) tNil)) (gName 5) tYes (tLst tNil) [5]) (gName 2))
  (tSeq (tFor (iList K (tVar 1)) (gTup K 2 (gCons (gName 3) (gCons (gName 4) gNil))) (tSeq (tDrop (tBM K "list" rAppend (tOp (rIxL K) (tVar 2) (tVar 3)) (tCons (tVar 4) tNil)))
  (tDrop (tBM K "list" rAppend (tOp (rIxL K) (tVar 2) (tVar 4)) (tCons (tVar 3) tNil)))))
  (tRet (tLc (iList K (tVar 2)) (gName 6) tYes (tCB (rSortedI K) (tCons (tVar 6) tNil)) [6]))))
abbrev N_pieces_of : List Str := ["cells", "table", "inside", "cell", "seen", "pieces", "start", "piece", "at"]
abbrev P_pieces_of : List Str := ["cells", "table"]
-- slots: 0=cells 1=table 2=inside 3=cell 4=seen 5=pieces 6=start 7=piece 8=at; calls: ; built-ins: sorted len
def t_pieces_of (K : PySem.W.Frag) (C : Addr) : TS :=
  (tSeq (tAsg (tDc (iList K (tVar 0)) (gName 3) tYes (tVar 3) (tC (.bl true)) [3]) (gName 2))
  (tSeq (tAsg tDNewK (gName 4))
  (tSeq (tAsg (tLst tNil) (gName 5))
  (tSeq (tFor (iList K (tCB (rSortedI K) (tCons (tVar 0) tNil))) (gName 6) (tIfS (tB (tDNotIn (tVar 6) (tVar 4))) (tSeq (sDPut (tVar 4) (tVar 6) (tC (.bl true)))
  (tSeq (tAsg (tLst (tCons (tVar 6) tNil)) (gName 7))
  (tSeq (tAsg (tC (.int 0)) (gName 8))
  (tSeq (tWhile (tTest (tOp rLt (tVar 8) (tCB (rLenQ K) (tCons (tVar 7) tNil)))) (tSeq (tFor (iList K (tOp (rIxL K) (tVar 1) (tOp (rIxL K) (tVar 7) (tVar 8)))) (gName 3) (tIfS (tAnd (tB (tDIn (tVar 3) (tVar 2))) (tB (tDNotIn (tVar 3) (tVar 4)))) (tSeq (sDPut (tVar 4) (tVar 3) (tC (.bl true)))
  (tDrop (tBM K "list" rAppend (tVar 7) (tCons (tVar 3) tNil)))) tNext))
  (tAug 8 (tC (.int 1)) ipAdd)))
  (tDrop (tBM K "list" rAppend (tVar 5) (tCons (tCB (rSortedI K) (tCons (tVar 7) tNil)) tNil))))))) tNext))
  (tRet (tVar 5))))))
abbrev N_require_region : List Str := ["region", "table", "count"]
abbrev P_require_region : List Str := ["region", "table"]
-- slots: 0=region 1=table 2=count; calls: pieces_of; built-ins: len
def t_require_region (K : PySem.W.Frag) (C : Addr) : TS :=
  (tSeq (tAsg (tCB (rLenQ K) (tCons (tCall (sp_pieces_of K C) [] E0 (tCons (tVar 0) (tCons (tVar 1) tNil))) tNil)) (gName 2))
  (tIfS (tTest (tOp rNe (tVar 2) (tC (.int 1)))) tNever tNext))
abbrev N_kept : List Str := ["sizes", "order", "goal", "total", "bounds"]
abbrev P_kept : List Str := ["sizes", "order", "goal"]
-- slots: 0=sizes 1=order 2=goal 3=total 4=bounds; calls: fits pull checked_goal require_turns; built-ins: len sum
def t_kept (K : PySem.W.Frag) (C : Addr) : TS :=
  (tSeq (tAsg (tCB (rSum K) (tCons (tVar 0) tNil)) (gName 3))
  (tSeq (tDrop (tCall (sp_require_turns K C) [] E0 (tCons (tCB rLenS (tCons (tVar 1) tNil)) (tCons (tVar 3) tNil))))
  (tSeq (tAsg (tCall (sp_checked_goal K C) [] E0 (tCons (tVar 2) (tCons (tOp rSub (tVar 3) (tCB rLenS (tCons (tVar 1) tNil))) tNil))) (gName 4))
  (tRet (tCall (sp_fits K C) [] E0 (tCons (tVar 0) (tCons (tCallN 1 (List.length [("goal" : Str)]) (sp_pull K C) gApp E0 (tCons (tVar 1) tNil) (tCons (tVar 4) tNil)) tNil)))))))
abbrev N_table_of : List Str := ["tree"]
abbrev P_table_of : List Str := ["tree"]
-- slots: 0=tree; calls: neighbour_table Tree_links; built-ins: 
def t_table_of (K : PySem.W.Frag) (C : Addr) : TS :=
  (tRet (tCall (sp_neighbour_table K C) [] E0 (tCons (tFld K (tVar 0) "size") (tCons (tMeth C "links" (sp_Tree_links K C) [] E0 (tVar 0) tNil) tNil))))
abbrev N_outer_pieces : List Str := ["cells", "region", "table", "inside", "cell"]
abbrev P_outer_pieces : List Str := ["cells", "region", "table"]
-- slots: 0=cells 1=region 2=table 3=inside 4=cell; calls: pieces_of; built-ins: 
def t_outer_pieces (K : PySem.W.Frag) (C : Addr) : TS :=
  (tSeq (tAsg (tDc (iList K (tVar 1)) (gName 4) tYes (tVar 4) (tC (.bl true)) [4]) (gName 3))
  (tRet (tCall (sp_pieces_of K C) [] E0 (tCons (tLc (iList K (tVar 0)) (gName 4) (tB (tDNotIn (tVar 4) (tVar 3))) (tVar 4) [4]) (tCons (tVar 2) tNil)))))
abbrev N_outer_sizes : List Str := ["tree", "region", "table", "pieces", "piece"]
abbrev P_outer_sizes : List Str := ["tree", "region"]
-- slots: 0=tree 1=region 2=table 3=pieces 4=piece; calls: outer_pieces require_region table_of; built-ins: len sorted list range
def t_outer_sizes (K : PySem.W.Frag) (C : Addr) : TS :=
  (tSeq (tAsg (tCall (sp_table_of K C) [] E0 (tCons (tVar 0) tNil)) (gName 2))
  (tSeq (tDrop (tCall (sp_require_region K C) [] E0 (tCons (tVar 1) (tCons (tVar 2) tNil))))
  (tSeq (tAsg (tCall (sp_outer_pieces K C) [] E0 (tCons (tLstRg (tRg1 (tFld K (tVar 0) "size"))) (tCons (tVar 1) (tCons (tVar 2) tNil)))) (gName 3))
  (tRet (tCKw (rSortedR K) (tCons (tLc (iList K (tVar 3)) (gName 4) tYes (tCB (rLenQ K) (tCons (tVar 4) tNil)) [4]) tNil) (tCons (tC (.bl true)) tNil))))))
abbrev N_without_last_raids : List Str := ["order", "count", "raids", "left", "letter"]
abbrev P_without_last_raids : List Str := ["order", "count"]
-- slots: 0=order 1=count 2=raids 3=left 4=letter; calls: ; built-ins: 
def t_without_last_raids (K : PySem.W.Frag) (C : Addr) : TS :=
  (tSeq (tAsg (tOp rSub (tBM K "str" rCountS (tVar 0) (tCons (tC (.str "R")) tNil)) (tVar 1)) (gName 2))
  (tSeq (tAsg (tC (.str "")) (gName 3))
  (tSeq (tFor (iStr (tVar 0)) (gName 4) (tIfS (tTest (tOp rEq (tVar 4) (tC (.str "K")))) (tAug 3 (tVar 4) rCatS) (tIfS (tTest (tOp rGt (tVar 2) (tC (.int 0)))) (tSeq (tAug 3 (tVar 4) rCatS)
  (tAug 2 (tC (.int 1)) ipSub)) tNext)))
  (tRet (tVar 3)))))
abbrev N_region_fate : List Str := ["tree", "region", "order", "sizes", "needed", "extra"]
abbrev P_region_fate : List Str := ["tree", "region", "order"]
-- slots: 0=tree 1=region 2=order 3=sizes 4=needed 5=extra; calls: kept without_last_raids outer_sizes; built-ins: len
def t_region_fate (K : PySem.W.Frag) (C : Addr) : TS :=
  (tSeq (tAsg (tCall (sp_outer_sizes K C) [] E0 (tCons (tVar 0) (tCons (tVar 1) tNil))) (gName 3))
  (tSeq (tAsg (tOp rSub (tFld K (tVar 0) "size") (tC (.int 1))) (gName 4))
  (tSeq (tIfS (tTest (tOp rNe (tCB rLenS (tCons (tVar 2) tNil)) (tVar 4))) tNever tNext)
  (tSeq (tAsg (tOp rSub (tCB (rLenQ K) (tCons (tVar 1) tNil)) (tC (.int 1))) (gName 5))
  (tSeq (tIfS (tOr (tTest (tOp rLe (tBM K "str" rCountS (tVar 2) (tCons (tC (.str "R")) tNil)) (tVar 5))) (tB (tCall (sp_kept K C) [.non] E0 (tCons (tOp rCat (tVar 3) (tOp rRep (tLst (tCons (tC (.int 1)) tNil)) (tVar 5))) (tCons (tVar 2) tNil))))) (tRet (tC (.str "held"))) tNext)
  (tSeq (tIfS (tB (tCall (sp_kept K C) [.non] E0 (tCons (tVar 3) (tCons (tCall (sp_without_last_raids K C) [] E0 (tCons (tVar 2) (tCons (tVar 5) tNil))) tNil)))) (tRet (tC (.str "open"))) tNext)
  (tRet (tC (.str "stripped")))))))))
abbrev N_walk_from : List Str := ["near", "root", "pairs", "at", "cell", "parent", "other"]
abbrev P_walk_from : List Str := ["near", "root"]
-- slots: 0=near 1=root 2=pairs 3=at 4=cell 5=parent 6=other; calls: ; built-ins: len
def t_walk_from (K : PySem.W.Frag) (C : Addr) : TS :=
  (tSeq (tAsg (tLst (tCons (tTup (tCons (tVar 1) (tCons (tUn rNeg (tC (.int 1))) tNil))) tNil)) (gName 2))
  (tSeq (tAsg (tC (.int 0)) (gName 3))
  (tSeq (tWhile (tTest (tOp rLt (tVar 3) (tCB (rLenQ K) (tCons (tVar 2) tNil)))) (tSeq (tAsg (tOp (rIxL K) (tVar 2) (tVar 3)) (gTup K 2 (gCons (gName 4) (gCons (gName 5) gNil))))
  (tSeq (tFor (iList K (tOp (rIxL K) (tVar 0) (tVar 4))) (gName 6) (tIfS (tTest (tOp rNe (tVar 6) (tVar 5))) (tDrop (tBM K "list" rAppend (tVar 2) (tCons (tTup (tCons (tVar 6) (tCons (tVar 4) tNil))) tNil))) tNext))
  (tAug 3 (tC (.int 1)) ipAdd))))
  (tRet (tVar 2)))))
abbrev N_Tree_init : List Str := ["self", "size", "links", "bad", "pair"]
abbrev P_Tree_init : List Str := ["self", "size", "links"]
-- slots: 0=self 1=size 2=links 3=bad 4=pair; calls: neighbour_table first_bad_link; built-ins: max min sorted len
def t_Tree_init (K : PySem.W.Frag) (C : Addr) : TS :=
  (tSeq (tAsg (tCall (sp_first_bad_link K C) [] E0 (tCons (tVar 1) (tCons (tVar 2) tNil))) (gName 3))
  (tSeq (tIfS (tTest (tOp rNotNone (tVar 3) (tC .non))) tNever tNext)
  (tSeq (tIfS (tTest (tOp rNe (tCB (rLenQ K) (tCons (tVar 2) tNil)) (tOp rSub (tVar 1) (tC (.int 1))))) tNever tNext)
  (tSeq (sFld K (tVar 0) (tVar 1) "size")
  (tSeq (sFld K (tVar 0) (tCB (rSortedPO K) (tCons (tLc (iList K (tVar 2)) (gName 4) tYes (tTup (tCons (tCB (rMinT K) (tCons (tVar 4) tNil)) (tCons (tCB (rMaxT K) (tCons (tVar 4) tNil)) tNil))) [4]) tNil)) "_links")
  (sFld K (tVar 0) (tCall (sp_neighbour_table K C) [] E0 (tCons (tVar 1) (tCons (tFld K (tVar 0) "_links") tNil))) "_near"))))))
abbrev N_Tree_links : List Str := ["self"]
abbrev P_Tree_links : List Str := ["self"]
-- slots: 0=self; calls: ; built-ins: list
def t_Tree_links (K : PySem.W.Frag) (C : Addr) : TS :=
  (tRet (tCB (rListQ K) (tCons (tFld K (tVar 0) "_links") tNil)))
abbrev N_Tree_neighbours : List Str := ["self", "cell"]
abbrev P_Tree_neighbours : List Str := ["self", "cell"]
-- slots: 0=self 1=cell; calls: ; built-ins: list
def t_Tree_neighbours (K : PySem.W.Frag) (C : Addr) : TS :=
  (tRet (tCB (rListQ K) (tCons (tOp (rIxL K) (tFld K (tVar 0) "_near") (tVar 1)) tNil)))
abbrev N_Tree_all_sizes : List Str := ["self", "beneath", "found", "cell", "parent", "_", "row"]
abbrev P_Tree_all_sizes : List Str := ["self"]
-- slots: 0=self 1=beneath 2=found 3=cell 4=parent 5=_ 6=row; calls: walk_from; built-ins: sorted reversed range
def t_Tree_all_sizes (K : PySem.W.Frag) (C : Addr) : TS :=
  (tSeq (tAsg (tOp rRep (tLst (tCons (tC (.int 1)) tNil)) (tFld K (tVar 0) "size")) (gName 1))
  (tSeq (tAsg (tLc (iRng1 (tCons (tFld K (tVar 0) "size") tNil)) (gName 5) tYes (tLst tNil) [5]) (gName 2))
  (tSeq (tFor (iRev K (tCons (tCall (sp_walk_from K C) [] E0 (tCons (tFld K (tVar 0) "_near") (tCons (tC (.int 0)) tNil))) tNil)) (gTup K 2 (gCons (gName 3) (gCons (gName 4) gNil))) (tIfS (tTest (tOp rGe (tVar 4) (tC (.int 0)))) (tSeq (tAsg (tOp rAdd (tOp (rIxL K) (tVar 1) (tVar 4)) (tOp (rIxL K) (tVar 1) (tVar 3))) (gSub (tVar 1) (tVar 4) rSetL))
  (tSeq (tDrop (tBM K "list" rAppend (tOp (rIxL K) (tVar 2) (tVar 4)) (tCons (tOp (rIxL K) (tVar 1) (tVar 3)) tNil)))
  (tDrop (tBM K "list" rAppend (tOp (rIxL K) (tVar 2) (tVar 3)) (tCons (tOp rSub (tFld K (tVar 0) "size") (tOp (rIxL K) (tVar 1) (tVar 3))) tNil))))) tNext))
  (tRet (tLc (iList K (tVar 2)) (gName 6) tYes (tCKw (rSortedR K) (tCons (tVar 6) tNil) (tCons (tC (.bl true)) tNil)) [6])))))
abbrev N_l_cell : List Str := ["_law_script", "_law_k"]
abbrev P_l_cell : List Str := ["_law_script", "_law_k"]
-- slots: 0=_law_script 1=_law_k; calls: ; built-ins: len int abs
def t_l_cell (K : PySem.W.Frag) (C : Addr) : TS :=
  (tSeq (tIfS (tTest (tOp rLt (tVar 1) (tCB (rLenQ K) (tCons (tVar 0) tNil)))) (tRet (tCB rAbs (tCons (tCB rInt1 (tCons (tOp (rIxL K) (tVar 0) (tVar 1)) tNil)) tNil))) tNext)
  (tRet (tC (.int 0))))
abbrev N_l_mixed : List Str := ["_law_cell_here", "_law_k", "_law_size", "_law_mixed_here"]
abbrev P_l_mixed : List Str := ["_law_cell_here", "_law_k", "_law_size"]
-- slots: 0=_law_cell_here 1=_law_k 2=_law_size 3=_law_mixed_here; calls: ; built-ins: int
def t_l_mixed (K : PySem.W.Frag) (C : Addr) : TS :=
  (tSeq (tAsg (tOp rMod (tCB rInt1 (tCons (tOp rAdd (tOp rAdd (tVar 0) (tOp rMul (tC (.int 7919)) (tVar 1))) (tC (.int 13))) tNil)) (tC (.int 2147483647))) (gName 3))
  (tSeq (tAsg (tOp rMod (tCB rInt1 (tCons (tOp rMul (tVar 3) (tOp rAdd (tVar 3) (tC (.int 48271)))) tNil)) (tC (.int 2147483629))) (gName 3))
  (tSeq (tAsg (tOp rMod (tCB rInt1 (tCons (tOp rAdd (tOp rMul (tVar 3) (tOp rAdd (tVar 3) (tC (.int 69621)))) (tOp rMul (tC (.int 31)) (tVar 1))) tNil)) (tC (.int 2147483647))) (gName 3))
  (tRet (tOp rMod (tCB rInt1 (tCons (tOp rFdiv (tVar 3) (tC (.int 9))) tNil)) (tVar 2))))))
abbrev N_l_draws : List Str := ["_law_cell_here", "_law_menu", "_law_found", "_law_rest", "_law_k"]
abbrev P_l_draws : List Str := ["_law_cell_here", "_law_menu"]
-- slots: 0=_law_cell_here 1=_law_menu 2=_law_found 3=_law_rest 4=_law_k; calls: l_mixed; built-ins: len range int
def t_l_draws (K : PySem.W.Frag) (C : Addr) : TS :=
  (tSeq (tAsg (tLst tNil) (gName 2))
  (tSeq (tAsg (tVar 0) (gName 3))
  (tSeq (tFor (iRng1 (tCons (tCB (rLenQ K) (tCons (tVar 1) tNil)) tNil)) (gName 4) (tIfS (tAnd (tTest (tOp rGe (tVar 0) (tOp rPow (tC (.int 10)) (tC (.int 18))))) (tTest (tOp rGt (tVar 3) (tC (.int 0))))) (tSeq (tDrop (tBM K "list" rAppend (tVar 2) (tCons (tOp rMod (tCB rInt1 (tCons (tVar 3) tNil)) (tOp (rIxL K) (tVar 1) (tVar 4))) tNil)))
  (tAsg (tOp rFdiv (tVar 3) (tOp (rIxL K) (tVar 1) (tVar 4))) (gName 3))) (tDrop (tBM K "list" rAppend (tVar 2) (tCons (tCall (sp_l_mixed K C) [] E0 (tCons (tVar 0) (tCons (tVar 4) (tCons (tOp (rIxL K) (tVar 1) (tVar 4)) tNil)))) tNil)))))
  (tRet (tVar 2)))))
abbrev N_l_like : List Str := ["_law_actual", "_law_due", "_law_k"]
abbrev P_l_like : List Str := ["_law_actual", "_law_due"]
-- slots: 0=_law_actual 1=_law_due 2=_law_k; calls: l_like; built-ins: len range list isinstance tuple int bool str
def t_l_like (K : PySem.W.Frag) (C : Addr) (k : Nat) : TS :=
  (tSeq (tIfS (tTest (tOp rIsNone (tVar 1) (tC .non))) (tRet (tOp rIsNone (tVar 0) (tC .non))) tNext)
  (tSeq (tIfS (tTest (tOp rIsAny (tVar 1) (tC (.bl true)))) (tRet (tOp rIsAny (tVar 0) (tC (.bl true)))) tNext)
  (tSeq (tIfS (tTest (tOp rIsAny (tVar 1) (tC (.bl false)))) (tRet (tOp rIsAny (tVar 0) (tC (.bl false)))) tNext)
  (tSeq (tIfS (tB (tCB (rIsi K) (tCons (tVar 1) (tCons (tC (.ty "str")) tNil)))) (tRet (tAndV (tCB (rIsi K) (tCons (tVar 0) (tCons (tC (.ty "str")) tNil))) (tOp rEq (tVar 0) (tVar 1)))) tNext)
  (tSeq (tIfS (tB (tCB (rIsi K) (tCons (tVar 1) (tCons (tC (.ty "int")) tNil)))) (tRet (tAndV (tCB (rIsi K) (tCons (tVar 0) (tCons (tC (.ty "int")) tNil))) (tAndV (tNotV (tCB (rIsi K) (tCons (tVar 0) (tCons (tC (.ty "bool")) tNil)))) (tOp rEq (tVar 0) (tVar 1))))) tNext)
  (tSeq (tIfS (tB (tCB (rIsi K) (tCons (tVar 1) (tCons (tC (.ty "list")) tNil)))) (tIfS (tOr (tNot (tB (tCB (rIsi K) (tCons (tVar 0) (tCons (tC (.ty "list")) tNil))))) (tTest (tOp rNe (tCB (rLenQ K) (tCons (tVar 0) tNil)) (tCB (rLenQ K) (tCons (tVar 1) tNil))))) (tRet (tC (.bl false))) tNext) (tIfS (tOr (tNot (tB (tCB (rIsi K) (tCons (tVar 0) (tCons (tC (.ty "tuple")) tNil))))) (tTest (tOp rNe (tCB (rLenQ K) (tCons (tVar 0) tNil)) (tCB (rLenQ K) (tCons (tVar 1) tNil))))) (tRet (tC (.bl false))) tNext))
  (tSeq (tFor (iRng1 (tCons (tCB (rLenQ K) (tCons (tVar 1) tNil)) tNil)) (gName 2) (tIfS (tNot (tB (tCall (sp_l_likeN k) [] E0 (tCons (tOp (rIx K) (tVar 0) (tVar 2)) (tCons (tOp (rIx K) (tVar 1) (tVar 2)) tNil))))) (tRet (tC (.bl false))) tNext))
  (tRet (tC (.bl true))))))))))
abbrev N_l_tree : List Str := ["_law_cell_here", "_law_most", "_law_head", "_law_size", "_law_menu", "_law_k", "_law_draws_here", "_law_names", "_law_parents", "_law_turned", "_law_parent", "_law_links", "_law_pair"]
abbrev P_l_tree : List Str := ["_law_cell_here", "_law_most"]
-- slots: 0=_law_cell_here 1=_law_most 2=_law_head 3=_law_size 4=_law_menu 5=_law_k 6=_law_draws_here 7=_law_names 8=_law_parents 9=_law_turned 10=_law_parent 11=_law_links 12=_law_pair; calls: l_draws; built-ins: range int min
def t_l_tree (K : PySem.W.Frag) (C : Addr) : TS :=
  (tSeq (tAsg (tCall (sp_l_draws K C) [] E0 (tCons (tVar 0) (tCons (tLst (tCons (tVar 1) (tCons (tC (.int 6)) tNil))) tNil))) (gName 2))
  (tSeq (tAsg (tOp rAdd (tC (.int 1)) (tOp (rIxL K) (tVar 2) (tC (.int 0)))) (gName 3))
  (tSeq (tAsg (tLst (tCons (tVar 1) (tCons (tC (.int 6)) tNil))) (gName 4))
  (tSeq (tFor (iRng2 (tCons (tC (.int 1)) (tCons (tVar 3) tNil))) (gName 5) (tAsg (tOp rCat (tVar 4) (tLst (tCons (tVar 5) (tCons (tOp rAdd (tVar 5) (tC (.int 1))) (tCons (tOp rMul (tC (.int 2)) (tVar 5)) tNil))))) (gName 4)))
  (tSeq (tAsg (tCall (sp_l_draws K C) [] E0 (tCons (tVar 0) (tCons (tVar 4) tNil))) (gName 6))
  (tSeq (tAsg (tLst (tCons (tC (.int 0)) tNil)) (gName 7))
  (tSeq (tAsg (tLst tNil) (gName 8))
  (tSeq (tAsg (tLst tNil) (gName 9))
  (tSeq (tFor (iRng2 (tCons (tC (.int 1)) (tCons (tVar 3) tNil))) (gName 5) (tSeq (tAsg (tOp (rIxL K) (tVar 6) (tOp rSub (tOp rMul (tC (.int 3)) (tVar 5)) (tC (.int 1)))) (gName 10))
  (tSeq (tIfS (tTest (tOp rEq (tOp (rIxL K) (tVar 2) (tC (.int 1))) (tC (.int 1)))) (tAsg (tOp rSub (tOp rSub (tVar 5) (tC (.int 1))) (tOp rMod (tCB rInt1 (tCons (tVar 10) tNil)) (tCB rMin2 (tCons (tVar 5) (tCons (tC (.int 2)) tNil))))) (gName 10)) tNext)
  (tSeq (tIfS (tOr (tAnd (tTest (tOp rEq (tOp (rIxL K) (tVar 2) (tC (.int 1))) (tC (.int 2)))) (tTest (tOp rGt (tOp rMod (tCB rInt1 (tCons (tVar 10) tNil)) (tC (.int 4))) (tC (.int 0))))) (tTest (tOp rEq (tOp (rIxL K) (tVar 2) (tC (.int 1))) (tC (.int 5))))) (tAsg (tC (.int 0)) (gName 10)) tNext)
  (tSeq (tIfS (tTest (tOp rEq (tOp (rIxL K) (tVar 2) (tC (.int 1))) (tC (.int 4)))) (tAsg (tOp rSub (tVar 5) (tC (.int 1))) (gName 10)) tNext)
  (tSeq (tDrop (tBM K "list" rAppend (tVar 8) (tCons (tVar 10) tNil)))
  (tSeq (tDrop (tBM K "list" rInsert (tVar 7) (tCons (tOp (rIxL K) (tVar 6) (tOp rMul (tC (.int 3)) (tVar 5))) (tCons (tVar 5) tNil))))
  (tDrop (tBM K "list" rAppend (tVar 9) (tCons (tOp (rIxL K) (tVar 6) (tOp rAdd (tOp rMul (tC (.int 3)) (tVar 5)) (tC (.int 1)))) tNil))))))))))
  (tSeq (tAsg (tLst tNil) (gName 11))
  (tSeq (tFor (iRng2 (tCons (tC (.int 1)) (tCons (tVar 3) tNil))) (gName 5) (tSeq (tAsg (tTup (tCons (tBM K "list" (rIndex K) (tVar 7) (tCons (tVar 5) tNil)) (tCons (tBM K "list" (rIndex K) (tVar 7) (tCons (tOp (rIxL K) (tVar 8) (tOp rSub (tVar 5) (tC (.int 1)))) tNil)) tNil))) (gName 12))
  (tSeq (tIfS (tTest (tOp rEq (tOp rMod (tCB rInt1 (tCons (tOp (rIxL K) (tVar 9) (tOp rSub (tVar 5) (tC (.int 1)))) tNil)) (tC (.int 2))) (tC (.int 1)))) (tAsg (tTup (tCons (tOp (rIxT K) (tVar 12) (tC (.int 1))) (tCons (tOp (rIxT K) (tVar 12) (tC (.int 0))) tNil))) (gName 12)) tNext)
  (tDrop (tBM K "list" rInsert (tVar 11) (tCons (tOp rFdiv (tOp (rIxL K) (tVar 9) (tOp rSub (tVar 5) (tC (.int 1)))) (tC (.int 2))) (tCons (tVar 12) tNil)))))))
  (tRet (tTup (tCons (tVar 3) (tCons (tVar 11) tNil)))))))))))))))
abbrev N_l_near : List Str := ["_law_size", "_law_links", "_law_near_here", "_law_pair", "_law_k", "_law_row"]
abbrev P_l_near : List Str := ["_law_size", "_law_links"]
-- slots: 0=_law_size 1=_law_links 2=_law_near_here 3=_law_pair 4=_law_k 5=_law_row; calls: ; built-ins: sorted range
def t_l_near (K : PySem.W.Frag) (C : Addr) : TS :=
  (tSeq (tAsg (tLc (iRng1 (tCons (tVar 0) tNil)) (gName 4) tYes (tLst tNil) [4]) (gName 2))
  (tSeq (tFor (iList K (tVar 1)) (gName 3) (tSeq (tDrop (tBM K "list" rAppend (tOp (rIxL K) (tVar 2) (tOp (rIxT K) (tVar 3) (tC (.int 0)))) (tCons (tOp (rIxT K) (tVar 3) (tC (.int 1))) tNil)))
  (tDrop (tBM K "list" rAppend (tOp (rIxL K) (tVar 2) (tOp (rIxT K) (tVar 3) (tC (.int 1)))) (tCons (tOp (rIxT K) (tVar 3) (tC (.int 0))) tNil)))))
  (tRet (tLc (iList K (tVar 2)) (gName 5) tYes (tCB (rSortedI K) (tCons (tVar 5) tNil)) [5]))))
abbrev N_l_pieces : List Str := ["_law_near_here", "_law_cells", "_law_left", "_law_pieces_here", "_law_piece", "_law_at", "_law_more", "_law_c"]
abbrev P_l_pieces : List Str := ["_law_near_here", "_law_cells"]
-- slots: 0=_law_near_here 1=_law_cells 2=_law_left 3=_law_pieces_here 4=_law_piece 5=_law_at 6=_law_more 7=_law_c; calls: ; built-ins: sorted len
def t_l_pieces (K : PySem.W.Frag) (C : Addr) : TS :=
  (tSeq (tAsg (tCB (rSortedI K) (tCons (tVar 1) tNil)) (gName 2))
  (tSeq (tAsg (tLst tNil) (gName 3))
  (tSeq (tWhile (tTest (tOp (rNeD K) (tVar 2) (tLst tNil))) (tSeq (tAsg (tLst (tCons (tOp (rIxL K) (tVar 2) (tC (.int 0))) tNil)) (gName 4))
  (tSeq (tAsg (tSl (rSlL K) (tVar 2) (tPart (tC (.int 1))) tNoPart) (gName 2))
  (tSeq (tAsg (tC (.int 0)) (gName 5))
  (tSeq (tWhile (tTest (tOp rLt (tVar 5) (tCB (rLenQ K) (tCons (tVar 4) tNil)))) (tSeq (tAsg (tLc (iList K (tOp (rIxL K) (tVar 0) (tOp (rIxL K) (tVar 4) (tVar 5)))) (gName 7) (tTest (tOp (rIn K false) (tVar 7) (tVar 2))) (tVar 7) [7]) (gName 6))
  (tSeq (tAsg (tOp rCat (tVar 4) (tVar 6)) (gName 4))
  (tSeq (tAsg (tLc (iList K (tVar 2)) (gName 7) (tTest (tOp (rIn K true) (tVar 7) (tVar 6))) (tVar 7) [7]) (gName 2))
  (tAsg (tOp rAdd (tVar 5) (tC (.int 1))) (gName 5))))))
  (tDrop (tBM K "list" rAppend (tVar 3) (tCons (tCB (rSortedI K) (tCons (tVar 4) tNil)) tNil))))))))
  (tRet (tVar 3)))))
abbrev N_l_sizes : List Str := ["_law_near_here", "_law_cells", "_law_spot", "_law_rest", "_law_c", "_law_piece"]
abbrev P_l_sizes : List Str := ["_law_near_here", "_law_cells", "_law_spot"]
-- slots: 0=_law_near_here 1=_law_cells 2=_law_spot 3=_law_rest 4=_law_c 5=_law_piece; calls: l_pieces; built-ins: len sorted
def t_l_sizes (K : PySem.W.Frag) (C : Addr) : TS :=
  (tSeq (tAsg (tLc (iList K (tVar 1)) (gName 4) (tTest (tOp rNe (tVar 4) (tVar 2))) (tVar 4) [4]) (gName 3))
  (tRet (tCKw (rSortedR K) (tCons (tLc (iList K (tCall (sp_l_pieces K C) [] E0 (tCons (tVar 0) (tCons (tVar 3) tNil)))) (gName 5) tYes (tCB (rLenQ K) (tCons (tVar 5) tNil)) [5]) tNil) (tCons (tC (.bl true)) tNil))))
abbrev N_l_grown : List Str := ["_law_cell_here", "_law_near_here", "_law_count", "_law_size", "_law_menu", "_law_k", "_law_draws_here", "_law_region", "_law_border", "_law_c", "_law_d"]
abbrev P_l_grown : List Str := ["_law_cell_here", "_law_near_here", "_law_count"]
-- slots: 0=_law_cell_here 1=_law_near_here 2=_law_count 3=_law_size 4=_law_menu 5=_law_k 6=_law_draws_here 7=_law_region 8=_law_border 9=_law_c 10=_law_d; calls: l_draws; built-ins: range int len
def t_l_grown (K : PySem.W.Frag) (C : Addr) : TS :=
  (tSeq (tAsg (tCB (rLenQ K) (tCons (tVar 1) tNil)) (gName 3))
  (tSeq (tAsg (tLst (tCons (tVar 3) tNil)) (gName 4))
  (tSeq (tFor (iRng2 (tCons (tC (.int 1)) (tCons (tVar 2) tNil))) (gName 5) (tAsg (tOp rCat (tVar 4) (tLst (tCons (tVar 3) (tCons (tOp rAdd (tVar 5) (tC (.int 1))) tNil)))) (gName 4)))
  (tSeq (tAsg (tCall (sp_l_draws K C) [] E0 (tCons (tVar 0) (tCons (tVar 4) tNil))) (gName 6))
  (tSeq (tAsg (tLst (tCons (tOp (rIxL K) (tVar 6) (tC (.int 0))) tNil)) (gName 7))
  (tSeq (tFor (iRng2 (tCons (tC (.int 1)) (tCons (tVar 2) tNil))) (gName 5) (tSeq (tAsg (tLc (iRng1 (tCons (tVar 3) tNil)) (gName 9) (tAnd (tTest (tOp (rIn K true) (tVar 9) (tVar 7))) (tTest (tOp (rNeD K) (tLc (iList K (tOp (rIxL K) (tVar 1) (tVar 9))) (gName 10) (tTest (tOp (rIn K false) (tVar 10) (tVar 7))) (tVar 10) [10]) (tLst tNil)))) (tVar 9) [9]) (gName 8))
  (tDrop (tBM K "list" rInsert (tVar 7) (tCons (tOp (rIxL K) (tVar 6) (tOp rMul (tC (.int 2)) (tVar 5))) (tCons (tOp (rIxL K) (tVar 8) (tOp rMod (tCB rInt1 (tCons (tOp (rIxL K) (tVar 6) (tOp rSub (tOp rMul (tC (.int 2)) (tVar 5)) (tC (.int 1)))) tNil)) (tCB (rLenQ K) (tCons (tVar 8) tNil)))) tNil))))))
  (tRet (tVar 7))))))))
abbrev N_l_outer : List Str := ["_law_near_here", "_law_region", "_law_rest", "_law_c", "_law_piece"]
abbrev P_l_outer : List Str := ["_law_near_here", "_law_region"]
-- slots: 0=_law_near_here 1=_law_region 2=_law_rest 3=_law_c 4=_law_piece; calls: l_pieces; built-ins: len sorted range
def t_l_outer (K : PySem.W.Frag) (C : Addr) : TS :=
  (tSeq (tAsg (tLc (iRng1 (tCons (tCB (rLenQ K) (tCons (tVar 0) tNil)) tNil)) (gName 3) (tTest (tOp (rIn K true) (tVar 3) (tVar 1))) (tVar 3) [3]) (gName 2))
  (tRet (tCKw (rSortedR K) (tCons (tLc (iList K (tCall (sp_l_pieces K C) [] E0 (tCons (tVar 0) (tCons (tVar 2) tNil)))) (gName 4) tYes (tCB (rLenQ K) (tCons (tVar 4) tNil)) [4]) tNil) (tCons (tC (.bl true)) tNil))))
abbrev N_l_fair_order : List Str := ["_law_cell_here", "_law_turns", "_law_keeps", "_law_draws_here", "_law_order", "_law_done", "_law_k", "_law_passed", "_law_room"]
abbrev P_l_fair_order : List Str := ["_law_cell_here", "_law_turns", "_law_keeps"]
-- slots: 0=_law_cell_here 1=_law_turns 2=_law_keeps 3=_law_draws_here 4=_law_order 5=_law_done 6=_law_k 7=_law_passed 8=_law_room; calls: l_draws; built-ins: range
def t_l_fair_order (K : PySem.W.Frag) (C : Addr) : TS :=
  (tSeq (tAsg (tCall (sp_l_draws K C) [] E0 (tCons (tVar 0) (tCons (tOp rRep (tLst (tCons (tC (.int 2)) tNil)) (tVar 1)) tNil))) (gName 3))
  (tSeq (tAsg (tC (.str "")) (gName 4))
  (tSeq (tAsg (tC (.int 0)) (gName 5))
  (tSeq (tFor (iRng1 (tCons (tVar 1) tNil)) (gName 6) (tSeq (tAsg (tOp rSub (tVar 6) (tVar 5)) (gName 7))
  (tSeq (tAsg (tAndV (tOp rLt (tVar 7) (tOp rSub (tVar 1) (tVar 2))) (tOrV (tOp rEq (tVar 5) (tVar 2)) (tOp rGt (tVar 5) (tVar 7)))) (gName 8))
  (tIfS (tAnd (tTest (tOp rLt (tVar 5) (tVar 2))) (tOr (tTest (tOp rEq (tOp (rIxL K) (tVar 3) (tVar 6)) (tC (.int 1)))) (tNot (tB (tVar 8))))) (tSeq (tAsg (tOp rCatS (tC (.str "K")) (tVar 4)) (gName 4))
  (tAsg (tOp rAdd (tVar 5) (tC (.int 1))) (gName 5))) (tAsg (tOp rCatS (tC (.str "R")) (tVar 4)) (gName 4))))))
  (tRet (tVar 4))))))
abbrev N_l_stronghold : List Str := ["_law_near_here", "_law_links", "_law_turns", "_law_cells", "_law_keep", "_law_found", "_law_pair", "_law_rest", "_law_side", "_law_c", "_law_piece"]
abbrev P_l_stronghold : List Str := ["_law_near_here", "_law_links", "_law_turns"]
-- slots: 0=_law_near_here 1=_law_links 2=_law_turns 3=_law_cells 4=_law_keep 5=_law_found 6=_law_pair 7=_law_rest 8=_law_side 9=_law_c 10=_law_piece; calls: l_pieces l_sizes; built-ins: len max list range
def t_l_stronghold (K : PySem.W.Frag) (C : Addr) : TS :=
  (tSeq (tAsg (tLstRg (tRg1 (tCB (rLenQ K) (tCons (tVar 0) tNil)))) (gName 3))
  (tSeq (tAsg (tLc (iList K (tVar 3)) (gName 9) (tTest (tOp rLe (tCB (rMax K) (tCons (tOp rCat (tLst (tCons (tC (.int 0)) tNil)) (tCall (sp_l_sizes K C) [] E0 (tCons (tVar 0) (tCons (tVar 3) (tCons (tVar 9) tNil))))) tNil)) (tVar 2))) (tVar 9) [9]) (gName 4))
  (tSeq (tIfS (tTest (tOp (rNeD K) (tVar 4) (tLst tNil))) (tRet (tTup (tCons (tC (.str "keep")) (tCons (tVar 4) tNil)))) tNext)
  (tSeq (tAsg (tLst tNil) (gName 5))
  (tSeq (tFor (iList K (tVar 1)) (gName 6) (tSeq (tAsg (tLc (iList K (tVar 3)) (gName 9) (tTest (tOp rNe (tVar 9) (tOp (rIxT K) (tVar 6) (tC (.int 0))))) (tVar 9) [9]) (gName 7))
  (tSeq (tAsg (tOp (rIxL K) (tLc (iList K (tCall (sp_l_pieces K C) [] E0 (tCons (tVar 0) (tCons (tVar 7) tNil)))) (gName 10) (tTest (tOp (rIn K false) (tOp (rIxT K) (tVar 6) (tC (.int 1))) (tVar 10))) (tCB (rLenQ K) (tCons (tVar 10) tNil)) [10]) (tC (.int 0))) (gName 8))
  (tIfS (tAnd (tTest (tOp rGt (tVar 8) (tVar 2))) (tTest (tOp rGt (tOp rSub (tCB (rLenQ K) (tCons (tVar 3) tNil)) (tVar 8)) (tVar 2)))) (tAsg (tOp rCat (tVar 5) (tLst (tCons (tOp (rIxT K) (tVar 6) (tC (.int 0))) (tCons (tOp (rIxT K) (tVar 6) (tC (.int 1))) tNil)))) (gName 5)) tNext))))
  (tRet (tTup (tCons (tC (.str "backbone")) (tCons (tLc (iList K (tVar 3)) (gName 9) (tTest (tOp (rIn K false) (tVar 9) (tVar 5))) (tVar 9) [9]) tNil)))))))))
abbrev N_l_missing : List Str := ["_law_near_here", "_law_due", "_law_draw", "_law_cells", "_law_pieces_here", "_law_ends", "_law_gone", "_law_c", "_law_d"]
abbrev P_l_missing : List Str := ["_law_near_here", "_law_due", "_law_draw"]
-- slots: 0=_law_near_here 1=_law_due 2=_law_draw 3=_law_cells 4=_law_pieces_here 5=_law_ends 6=_law_gone 7=_law_c 8=_law_d; calls: l_pieces; built-ins: int len list range
def t_l_missing (K : PySem.W.Frag) (C : Addr) : TS :=
  (tSeq (tAsg (tOp (rIxT K) (tVar 1) (tC (.int 1))) (gName 3))
  (tSeq (tIfS (tTest (tOp rEq (tOp (rIxT K) (tVar 1) (tC (.int 0))) (tC (.str "keep")))) (tSeq (tAsg (tCall (sp_l_pieces K C) [] E0 (tCons (tVar 0) (tCons (tLc (iRng1 (tCons (tCB (rLenQ K) (tCons (tVar 0) tNil)) tNil)) (gName 7) (tTest (tOp (rIn K true) (tVar 7) (tVar 3))) (tVar 7) [7]) tNil))) (gName 4))
  (tSeq (tIfS (tTest (tOp (rEqD K) (tVar 4) (tLst tNil))) (tRet (tCB (rListQ K) (tCons (tVar 3) tNil))) tNext)
  (tRet (tOp (rIxL K) (tVar 4) (tOp rMod (tCB rInt1 (tCons (tVar 2) tNil)) (tCB (rLenQ K) (tCons (tVar 4) tNil))))))) tNext)
  (tSeq (tAsg (tLc (iList K (tVar 3)) (gName 7) (tTest (tOp rEq (tCB (rLenQ K) (tCons (tLc (iList K (tOp (rIxL K) (tVar 0) (tVar 7))) (gName 8) (tTest (tOp (rIn K false) (tVar 8) (tVar 3))) (tVar 8) [8]) tNil)) (tC (.int 1)))) (tVar 7) [7]) (gName 5))
  (tSeq (tAsg (tOp (rIxL K) (tVar 5) (tOp rMod (tCB rInt1 (tCons (tVar 2) tNil)) (tCB (rLenQ K) (tCons (tVar 5) tNil)))) (gName 6))
  (tRet (tLc (iList K (tVar 3)) (gName 7) (tTest (tOp rNe (tVar 7) (tVar 6))) (tVar 7) [7]))))))
abbrev N_l_holding : List Str := ["_law_due", "_law_draw", "_law_cells"]
abbrev P_l_holding : List Str := ["_law_due", "_law_draw"]
-- slots: 0=_law_due 1=_law_draw 2=_law_cells; calls: ; built-ins: list int len
def t_l_holding (K : PySem.W.Frag) (C : Addr) : TS :=
  (tSeq (tAsg (tOp (rIxT K) (tVar 0) (tC (.int 1))) (gName 2))
  (tSeq (tIfS (tTest (tOp rEq (tOp (rIxT K) (tVar 0) (tC (.int 0))) (tC (.str "keep")))) (tRet (tLst (tCons (tOp (rIxL K) (tVar 2) (tOp rMod (tCB rInt1 (tCons (tVar 1) tNil)) (tCB (rLenQ K) (tCons (tVar 2) tNil)))) tNil))) tNext)
  (tRet (tCB (rListQ K) (tCons (tVar 2) tNil)))))
abbrev N_l_meets : List Str := ["_law_due", "_law_region", "_law_c"]
abbrev P_l_meets : List Str := ["_law_due", "_law_region"]
-- slots: 0=_law_due 1=_law_region 2=_law_c; calls: ; built-ins: 
def t_l_meets (K : PySem.W.Frag) (C : Addr) : TS :=
  (tSeq (tIfS (tTest (tOp rEq (tOp (rIxT K) (tVar 0) (tC (.int 0))) (tC (.str "keep")))) (tRet (tOp (rNeD K) (tLc (iList K (tVar 1)) (gName 2) (tTest (tOp (rIn K false) (tVar 2) (tOp (rIxT K) (tVar 0) (tC (.int 1))))) (tVar 2) [2]) (tLst tNil))) tNext)
  (tRet (tOp (rEqD K) (tLc (iList K (tOp (rIxT K) (tVar 0) (tC (.int 1)))) (gName 2) (tTest (tOp (rIn K true) (tVar 2) (tVar 1))) (tVar 2) [2]) (tLst tNil))))
abbrev N_l_judged : List Str := ["_law_tree_here", "_law_turns", "_law_due", "_law_told_here", "_law_shown"]
abbrev P_l_judged : List Str := ["_law_tree_here", "_law_turns", "_law_due"]
-- slots: 0=_law_tree_here 1=_law_turns 2=_law_due 3=_law_told_here 4=_law_shown; calls: l_like l_told; built-ins: 
def t_l_judged (K : PySem.W.Frag) (C : Addr) : TS :=
  (tSeq (tAsg (tCall (sp_l_told K C) [] E0 (tCons (tVar 0) (tCons (tVar 1) tNil))) (gName 3))
  (tSeq (tIfS (tNot (tB (tCall (sp_l_like K C) [] E0 (tCons (tVar 3) (tCons (tTup (tCons (tC (.str "told")) (tCons (tVar 2) tNil))) tNil))))) (tRet (tC (.bl false))) tNext)
  (tSeq (tAsg (tOp (rIx K) (tOp (rIxT K) (tVar 3) (tC (.int 1))) (tC (.int 1))) (gName 4))
  (tSeq (tDrop (tBM0 K "list" rReverse (tVar 4)))
  (tSeq (tDrop (tBM K "list" rAppend (tVar 4) (tCons (tC (.int 0)) tNil)))
  (tRet (tCall (sp_l_like K C) [] E0 (tCons (tCall (sp_l_told K C) [] E0 (tCons (tVar 0) (tCons (tVar 1) tNil))) (tCons (tTup (tCons (tC (.str "told")) (tCons (tVar 2) tNil))) tNil)))))))))
abbrev N_l_large_agrees : List Str := ["_law_cell_here", "_law_draws_here", "_law_size", "_law_turns", "_law_links", "_law_word", "_law_cells", "_law_heavy", "_law_due", "_law_k"]
abbrev P_l_large_agrees : List Str := ["_law_cell_here"]
-- slots: 0=_law_cell_here 1=_law_draws_here 2=_law_size 3=_law_turns 4=_law_links 5=_law_word 6=_law_cells 7=_law_heavy 8=_law_due 9=_law_k; calls: l_like strongholds Tree_init l_draws; built-ins: int sorted range max
def t_l_large_agrees (K : PySem.W.Frag) (C : Addr) : TS :=
  (tSeq (tAsg (tCall (sp_l_draws K C) [] E0 (tCons (tVar 0) (tCons (tLst (tCons (tC (.int 16)) (tCons (tC (.int 171)) (tCons (tC (.int 200)) (tCons (tC (.int 200)) tNil))))) tNil))) (gName 1))
  (tSeq (tIfS (tTest (tOp rGt (tOp (rIxL K) (tVar 1) (tC (.int 0))) (tC (.int 0)))) (tRet (tC (.bl true))) tNext)
  (tSeq (tAsg (tOp rAdd (tC (.int 30)) (tOp (rIxL K) (tVar 1) (tC (.int 1)))) (gName 2))
  (tSeq (tAsg (tOp rMod (tCB rInt1 (tCons (tOp (rIxL K) (tVar 1) (tC (.int 3))) tNil)) (tVar 2)) (gName 3))
  (tSeq (tAsg (tLc (iRng1 (tCons (tOp rSub (tVar 2) (tC (.int 1))) tNil)) (gName 9) tYes (tTup (tCons (tOp rMod (tCB rInt1 (tCons (tOp rAdd (tVar 9) (tOp (rIxL K) (tVar 1) (tC (.int 2)))) tNil)) (tVar 2)) (tCons (tOp rMod (tCB rInt1 (tCons (tOp rAdd (tOp rAdd (tVar 9) (tC (.int 1))) (tOp (rIxL K) (tVar 1) (tC (.int 2)))) tNil)) (tVar 2)) tNil))) [9]) (gName 4))
  (tSeq (tAsg (tC (.str "keep")) (gName 5))
  (tSeq (tAsg (tLc (iRng1 (tCons (tVar 2) tNil)) (gName 9) (tTest (tOp rLe (tCB rMax2 (tCons (tVar 9) (tCons (tOp rSub (tOp rSub (tVar 2) (tC (.int 1))) (tVar 9)) tNil))) (tVar 3))) (tVar 9) [9]) (gName 6))
  (tSeq (tIfS (tTest (tOp (rEqD K) (tVar 6) (tLst tNil))) (tSeq (tAsg (tC (.str "backbone")) (gName 5))
  (tSeq (tAsg (tLc (iRng1 (tCons (tOp rSub (tVar 2) (tC (.int 1))) tNil)) (gName 9) (tAnd (tTest (tOp rGt (tOp rAdd (tVar 9) (tC (.int 1))) (tVar 3))) (tTest (tOp rGt (tOp rSub (tOp rSub (tVar 2) (tC (.int 1))) (tVar 9)) (tVar 3)))) (tVar 9) [9]) (gName 7))
  (tAsg (tLc (iRng1 (tCons (tVar 2) tNil)) (gName 9) (tOr (tTest (tOp (rIn K false) (tVar 9) (tVar 7))) (tTest (tOp (rIn K false) (tOp rSub (tVar 9) (tC (.int 1))) (tVar 7)))) (tVar 9) [9]) (gName 6)))) tNext)
  (tSeq (tAsg (tTup (tCons (tVar 5) (tCons (tCB (rSortedI K) (tCons (tLc (iList K (tVar 6)) (gName 9) tYes (tOp rMod (tCB rInt1 (tCons (tOp rAdd (tVar 9) (tOp (rIxL K) (tVar 1) (tC (.int 2)))) tNil)) (tVar 2)) [9]) tNil)) tNil))) (gName 8))
  (tRet (tCall (sp_l_like K C) [] E0 (tCons (tCall (sp_strongholds K C) [] E0 (tCons (tMake C (sp_Tree_init K C) [] E0 (tCons (tVar 2) (tCons (tVar 4) tNil))) (tCons (tVar 3) tNil))) (tCons (tVar 8) tNil)))))))))))))
abbrev N_law : List Str := ["_law_script", "_law_head", "_law_drawn", "_law_size", "_law_near_here", "_law_tree_here", "_law_turns", "_law_second", "_law_number", "_law_due", "_law_region", "_law_meets_here", "_law_held", "_law_k", "_law_order", "_law_told_here", "_law_ordered", "_law_pair", "_law_c"]
abbrev P_law : List Str := ["_law_script"]
-- slots: 0=_law_script 1=_law_head 2=_law_drawn 3=_law_size 4=_law_near_here 5=_law_tree_here 6=_law_turns 7=_law_second 8=_law_number 9=_law_due 10=_law_region 11=_law_meets_here 12=_law_held 13=_law_k 14=_law_order 15=_law_told_here 16=_law_ordered 17=_law_pair 18=_law_c; calls: l_like Tree_neighbours Tree_links region_fate l_fair_order l_cell l_outer l_meets l_missing l_holding l_grown l_judged l_stronghold l_told Tree_init l_near l_tree l_draws l_large_agrees; built-ins: range max min sorted int list
def t_law (K : PySem.W.Frag) (C : Addr) : TS :=
  (tSeq (tIfS (tNot (tB (tCall (sp_l_large_agrees K C) [] E0 (tCons (tOp rAdd (tCall (sp_l_cell K C) [] E0 (tCons (tVar 0) (tCons (tC (.int 5)) tNil))) (tOp rMod (tCB rInt1 (tCons (tCall (sp_l_cell K C) [] E0 (tCons (tVar 0) (tCons (tC (.int 0)) tNil))) tNil)) (tC (.int 1000003)))) tNil)))) (tRet (tC (.bl false))) tNext)
  (tSeq (tAsg (tCall (sp_l_draws K C) [] E0 (tCons (tCall (sp_l_cell K C) [] E0 (tCons (tVar 0) (tCons (tC (.int 0)) tNil))) (tCons (tLst (tCons (tC (.int 6)) (tCons (tC (.int 18)) (tCons (tC (.int 18)) (tCons (tC (.int 3)) (tCons (tC (.int 18)) (tCons (tC (.int 12)) tNil))))))) tNil))) (gName 1))
  (tSeq (tAsg (tCall (sp_l_tree K C) [] E0 (tCons (tCall (sp_l_cell K C) [] E0 (tCons (tVar 0) (tCons (tC (.int 1)) tNil))) (tCons (tOp (rIxL K) (tLst (tCons (tC (.int 12)) (tCons (tC (.int 18)) tNil))) (tCB rInt1 (tCons (tOp rEq (tOp (rIxL K) (tVar 1) (tC (.int 0))) (tC (.int 1))) tNil))) tNil))) (gName 2))
  (tSeq (tAsg (tOp (rIxT K) (tVar 2) (tC (.int 0))) (gName 3))
  (tSeq (tAsg (tCall (sp_l_near K C) [] E0 (tCons (tVar 3) (tCons (tOp (rIxT K) (tVar 2) (tC (.int 1))) tNil))) (gName 4))
  (tSeq (tAsg (tMake C (sp_Tree_init K C) [] E0 (tCons (tVar 3) (tCons (tCB (rListQ K) (tCons (tOp (rIxT K) (tVar 2) (tC (.int 1))) tNil)) tNil))) (gName 5))
  (tSeq (tAsg (tOp rMod (tCB rInt1 (tCons (tOp (rIxL K) (tVar 1) (tC (.int 1))) tNil)) (tVar 3)) (gName 6))
  (tSeq (tAsg (tOp rMod (tCB rInt1 (tCons (tOp (rIxL K) (tVar 1) (tC (.int 2))) tNil)) (tVar 3)) (gName 7))
  (tSeq (tIfS (tTest (tOp rLt (tOp (rIxL K) (tVar 1) (tC (.int 5))) (tC (.int 4)))) (tSeq (tAsg (tOp (rIxL K) (tLst (tCons (tUn rNeg (tC (.int 2))) (tCons (tUn rNeg (tC (.int 1))) (tCons (tVar 3) (tCons (tOp rAdd (tVar 3) (tC (.int 1))) tNil))))) (tOp (rIxL K) (tVar 1) (tC (.int 5)))) (gName 8))
  (tIfS (tNot (tB (tCall (sp_l_like K C) [] E0 (tCons (tCall (sp_l_told K C) [] E0 (tCons (tVar 5) (tCons (tVar 8) tNil))) (tCons (tTup (tCons (tC (.str "range")) (tCons (tVar 8) tNil))) tNil))))) (tRet (tC (.bl false))) tNext)) tNext)
  (tSeq (tAsg (tCall (sp_l_stronghold K C) [] E0 (tCons (tVar 4) (tCons (tOp (rIxT K) (tVar 2) (tC (.int 1))) (tCons (tVar 6) tNil)))) (gName 9))
  (tSeq (tIfS (tNot (tB (tCall (sp_l_judged K C) [] E0 (tCons (tVar 5) (tCons (tVar 6) (tCons (tVar 9) tNil)))))) (tRet (tC (.bl false))) tNext)
  (tSeq (tIfS (tOr (tNot (tB (tCall (sp_l_judged K C) [] E0 (tCons (tVar 5) (tCons (tVar 7) (tCons (tCall (sp_l_stronghold K C) [] E0 (tCons (tVar 4) (tCons (tOp (rIxT K) (tVar 2) (tC (.int 1))) (tCons (tVar 7) tNil)))) tNil)))))) (tNot (tB (tCall (sp_l_judged K C) [] E0 (tCons (tVar 5) (tCons (tVar 6) (tCons (tVar 9) tNil))))))) (tRet (tC (.bl false))) tNext)
  (tSeq (tAsg (tCall (sp_l_grown K C) [] E0 (tCons (tCall (sp_l_cell K C) [] E0 (tCons (tVar 0) (tCons (tC (.int 2)) tNil))) (tCons (tVar 4) (tCons (tOp rAdd (tC (.int 1)) (tOp rMod (tCB rInt1 (tCons (tOp (rIxL K) (tVar 1) (tC (.int 4))) tNil)) (tVar 3))) tNil)))) (gName 10))
  (tSeq (tIfS (tTest (tOp rEq (tOp (rIxL K) (tVar 1) (tC (.int 3))) (tC (.int 1)))) (tAsg (tCall (sp_l_holding K C) [] E0 (tCons (tVar 9) (tCons (tOp (rIxL K) (tVar 1) (tC (.int 4))) tNil))) (gName 10)) tNext)
  (tSeq (tIfS (tTest (tOp rEq (tOp (rIxL K) (tVar 1) (tC (.int 3))) (tC (.int 2)))) (tAsg (tCall (sp_l_missing K C) [] E0 (tCons (tVar 4) (tCons (tVar 9) (tCons (tOp (rIxL K) (tVar 1) (tC (.int 4))) tNil)))) (gName 10)) tNext)
  (tSeq (tAsg (tCall (sp_l_meets K C) [] E0 (tCons (tVar 9) (tCons (tVar 10) tNil))) (gName 11))
  (tSeq (tAsg (tOp rLe (tCB (rMax K) (tCons (tOp rCat (tLst (tCons (tC (.int 0)) tNil)) (tCall (sp_l_outer K C) [] E0 (tCons (tVar 4) (tCons (tVar 10) tNil)))) tNil)) (tVar 6)) (gName 12))
  (tSeq (tFor (iRng1 (tCons (tC (.int 2)) tNil)) (gName 13) (tSeq (tAsg (tCall (sp_l_fair_order K C) [] E0 (tCons (tCall (sp_l_cell K C) [] E0 (tCons (tVar 0) (tCons (tOp rAdd (tC (.int 3)) (tVar 13)) tNil))) (tCons (tOp rSub (tVar 3) (tC (.int 1))) (tCons (tVar 6) tNil)))) (gName 14))
  (tSeq (tAsg (tCall (sp_region_fate K C) [] E0 (tCons (tVar 5) (tCons (tCB (rListQ K) (tCons (tVar 10) tNil)) (tCons (tVar 14) tNil)))) (gName 15))
  (tIfS (tOr (tNot (tB (tCall (sp_l_like K C) [] E0 (tCons (tVar 15) (tCons (tOp (rIxL K) (tLst (tCons (tC (.str "stripped")) (tCons (tC (.str "held")) tNil))) (tCB rInt1 (tCons (tVar 11) tNil))) tNil))))) (tNot (tB (tCall (sp_l_like K C) [] E0 (tCons (tOp rEq (tVar 15) (tC (.str "held"))) (tCons (tVar 12) tNil)))))) (tRet (tC (.bl false))) tNext))))
  (tSeq (tAsg (tCB (rSortedPO K) (tCons (tLc (iList K (tOp (rIxT K) (tVar 2) (tC (.int 1)))) (gName 17) tYes (tTup (tCons (tCB rMin2 (tCons (tOp (rIxT K) (tVar 17) (tC (.int 0))) (tCons (tOp (rIxT K) (tVar 17) (tC (.int 1))) tNil))) (tCons (tCB rMax2 (tCons (tOp (rIxT K) (tVar 17) (tC (.int 0))) (tCons (tOp (rIxT K) (tVar 17) (tC (.int 1))) tNil))) tNil))) [17]) tNil)) (gName 16))
  (tRet (tCall (sp_l_like K C) [] E0 (tCons (tLst (tCons (tMeth C "links" (sp_Tree_links K C) [] E0 (tVar 5) tNil) (tCons (tLc (iRng1 (tCons (tVar 3) tNil)) (gName 18) tYes (tMeth C "neighbours" (sp_Tree_neighbours K C) [] E0 (tVar 5) (tCons (tVar 18) tNil)) [18]) tNil))) (tCons (tLst (tCons (tVar 16) (tCons (tVar 4) tNil))) tNil)))))))))))))))))))))))
end Bw
/-! tools for the readings -/
namespace Bw
open PySem PySem.Spec PyProof.Rows L2 Evl Bb
/-- the reading of a def holds -/
def Good (sp : Sp) (ps N : List Str) (t : TS) : Prop := ∀ vs H Q E, sp vs H Q E → vs.length = ps.length ∧ t { nx := fun _ H' => Q .non H', rt := Q } (start N vs) H
section
variable {K : PySem.W.Frag} {H H' : Hp} {a p : Addr} {xs : List Nat}
theorem LN.seq (h : LN H a xs) : SqL K H a (xs.map nV) := SqL.of h
theorem LI.seq {xs : List Int} (h : LI H a xs) : SqL K H a (xs.map V.int) := SqL.of h
theorem at_nat {xs : List Nat} {i x : Nat} (h : xs[i]? = some x) : atI (xs.map nV) (i : Int) = some (nV x) := atI_nat (by rw [List.getElem?_map, h]; rfl)
theorem at_int {xs : List Int} {i : Nat} {x : Int} (h : xs[i]? = some x) : atI (xs.map V.int) (i : Int) = some (V.int x) := atI_nat (by rw [List.getElem?_map, h]; rfl)
theorem at_ref {xs : List Addr} {i : Nat} {x : Addr} (h : xs[i]? = some x) : atI (xs.map V.ref) (i : Int) = some (V.ref x) := atI_nat (by rw [List.getElem?_map, h]; rfl)
theorem map_at {α : Type} {f : α → V} {xs : List α} {i : Nat} {v : V} (h : (xs.map f)[i]? = some v) : ∃ x, xs[i]? = some x ∧ v = f x := by
  rw [List.getElem?_map] at h
  cases e : xs[i]? with
  | none => rw [e] at h; cases h
  | some x => rw [e] at h; exact ⟨x, rfl, (Option.some.inj h).symm⟩
theorem flat_nV (xs : List Nat) : (xs.map nV).all flatV = true := by
  rw [List.all_eq_true]
  intro x hx
  obtain ⟨y, _, rfl⟩ := List.mem_map.mp hx
  rfl
theorem eqV_nV (x y : Nat) : eqV (nV x) (nV y) = decide (x = y) := by
  have e : eqV (nV x) (nV y) = ((x : Int) == (y : Int)) := by simp [eqV]
  rw [e, Bool.eq_iff_iff, decide_eq_true_iff, beq_iff_eq]
  omega
theorem inV_nV (x : Nat) (xs : List Nat) : inV (nV x) (xs.map nV) = decide (x ∈ xs) := by
  unfold inV
  rw [Bool.eq_iff_iff, List.any_eq_true, decide_eq_true_iff]
  constructor
  · rintro ⟨v, hv, h⟩
    obtain ⟨y, hy, rfl⟩ := List.mem_map.mp hv
    rw [eqV_nV, decide_eq_true_iff] at h
    exact h ▸ hy
  · intro h
    exact ⟨nV x, List.mem_map.mpr ⟨x, h, rfl⟩, by rw [eqV_nV]; simp⟩
theorem small {n m : Nat} (h : n ≤ m) (hm : m ≤ 16777216 := by decide) : n ≤ sizeLine := by rw [sizeLine_eq]; omega
theorem small' {n m : Nat} (h : n < m) (hm : m ≤ 16777216 := by decide) : n < sizeLine := by rw [sizeLine_eq]; omega
theorem wipe1 (σ : L2.St) (j : Nat) (x : Option V) : wipe ((wipe σ [j]).set j x) [j] = wipe σ [j] := by
  show ((List.set σ j none).set j x).set j none = List.set σ j none
  rw [List.set_set, List.set_set]
theorem Ex.keep {o : HO} (e : Ex H H') (h : H p = none) : Ex H (upd H' p o) := e.mut h
theorem take_succ {α : Type} {l : List α} {i : Nat} {x : α} (h : l[i]? = some x) : l.take (i + 1) = l.take i ++ [x] := by
  rw [List.take_succ, h]; rfl

/-! ### comprehensions -/
/-- the heap without D -/
def hid (G : Hp) (D : Addr) : Hp := fun b => if b = D then none else G b
theorem hid_at {G : Hp} {D b : Addr} {o : HO} (h : G b = some o) (ne : b ≠ D) : hid G D b = some o := by unfold hid; rw [if_neg ne]; exact h
theorem hid_ex (G : Hp) (D : Addr) : Ex (hid G D) G := fun b o h => by
  unfold hid at h
  split at h
  · cases h
  · exact h
theorem hid_mono {G G' : Hp} {D : Addr} (e : Ex G G') : Ex (hid G D) (hid G' D) := fun b o h => by
  unfold hid at h
  split at h
  · cases h
  · rename_i ne
    exact hid_at (e b o h) ne
theorem hid_upd (G : Hp) (D : Addr) (o : HO) : hid (upd G D o) D = hid G D := by
  funext b
  unfold hid
  split
  · rfl
  · rename_i ne
    rw [upd_ne ne]
theorem hid_old {G : Hp} {D : Addr} (e : Ex H G) (h : H D = none) : Ex H (hid G D) := fun b o hb => hid_at (e b o hb) (ne_of_none hb h)
/-- what a turn's element says: told in every heap that holds what was new, and what stood at the start -/
def Told (H G G' : Hp) (ψ : Hp → V → Prop) (v : V) : Prop := ∀ Gd, Ex H Gd → (∀ b o, G b = none → G' b = some o → Gd b = some o) → ψ Gd v
theorem lc_turns {α : Type} {j : Nat} {t : TT} {te : TE} {σ : L2.St} {H1 : Hp} {D : Addr} (xs : List α) (φ : α → V) (p : α → Bool) (ψ : α → Hp → V → Prop)
    (mono : ∀ x G G' v, Ex G G' → ψ x G v → ψ x G' v) (hs : xs.length ≤ 10000) (e1 : Ex H H1) (hD : H1 D = none)
    (ht : ∀ (x : α) (G : Hp) (R : Bool → Hp → Prop), x ∈ xs → Ex H G → (∀ G', Ex G G' → R (p x) G') → t ((wipe σ [j]).set j (some (φ x))) G R)
    (he : ∀ (x : α) (G : Hp) (R : V → Hp → Prop), x ∈ xs → p x = true → Ex H G → (∀ v G', Ex G G' → Told H G G' (ψ x) v → R v G') → te ((wipe σ [j]).set j (some (φ x))) G R) (i : Nat) (x : α) (G : Hp) (hx : xs[i]? = some x)
    (st : Ex H1 G ∧ ∃ vs, G D = some (.lst vs) ∧ Paired (fun v x => ψ x (hid G D) v) vs ((xs.take i).filter p)) :
    t ((wipe σ [j]).set j (some (φ x))) G fun b G3 => if b = true then te ((wipe σ [j]).set j (some (φ x))) G3 fun y G4 => ∃ acc, G4 D = some (.lst acc) ∧ acc.length < sizeLine ∧
      (Ex H1 (upd G4 D (.lst (acc ++ [y]))) ∧ ∃ vs, (upd G4 D (.lst (acc ++ [y]))) D = some (.lst vs) ∧ Paired (fun v x => ψ x (hid (upd G4 D (.lst (acc ++ [y]))) D) v) vs ((xs.take (i + 1)).filter p))
      else (Ex H1 G3 ∧ ∃ vs, G3 D = some (.lst vs) ∧ Paired (fun v x => ψ x (hid G3 D) v) vs ((xs.take (i + 1)).filter p)) := by
  obtain ⟨e, vs, hvs, hp⟩ := st
  have hm := List.mem_of_getElem? hx
  refine ht x G _ hm (e1.trans e) fun G1 e2 => ?_
  have hl : vs.length ≤ 10000 := by
    rw [hp.length]
    have l1 := List.length_filter_le p (xs.take i)
    have l2 := List.length_take_le' i xs
    omega
  cases hpx : p x with
  | true =>
    refine iteT ?_
    refine he x G1 _ hm hpx ((e1.trans e).trans e2) fun v G2 e3 hv => ⟨vs, e3 _ _ (e2 _ _ hvs), small' (by omega : vs.length < 10001), ((e.trans e2).trans e3).mut hD, vs ++ [v], upd_same, ?_⟩
    rw [take_succ hx, List.filter_append, List.filter_cons, if_pos hpx, hid_upd]
    refine Paired.snoc (Paired.mono (fun u y z => mono y _ _ u (hid_mono (e2.trans e3)) z) hp) ?_
    refine hv _ (hid_old ((e1.trans e).trans (e2.trans e3)) (fresh_back e1 hD)) fun b o n q => hid_at q fun z => ?_
    rw [z, e2 _ _ hvs] at n
    cases n
  | false =>
    refine iteF ⟨e.trans e2, vs, e2 _ _ hvs, ?_⟩
    rw [take_succ hx, List.filter_append, List.filter_cons, if_neg (by rw [hpx]; decide), List.filter_nil, List.append_nil]
    exact Paired.mono (fun u y z => mono y _ _ u (hid_mono e2) z) hp
/-- over a list -/
theorem lc_over {α : Type} {tl : TE} {j : Nat} {t : TT} {te : TE} {σ : L2.St} {Q : VK} (xs : List α) (φ : α → V) (p : α → Bool) (ψ : α → Hp → V → Prop) (mono : ∀ x G G' v, Ex G G' → ψ x G v → ψ x G' v)
    (hs : xs.length ≤ 10000)
    (src : ∀ R : V → Hp → Prop, (∀ (a : Addr) (H1 : Hp), Ex H H1 → H1 a = some (.lst (xs.map φ)) → R (.ref a) H1) → tl σ H R)
    (ht : ∀ (x : α) (G : Hp) (R : Bool → Hp → Prop), x ∈ xs → Ex H G → (∀ G', Ex G G' → R (p x) G') → t ((wipe σ [j]).set j (some (φ x))) G R)
    (he : ∀ (x : α) (G : Hp) (R : V → Hp → Prop), x ∈ xs → p x = true → Ex H G → (∀ v G', Ex G G' → Told H G G' (ψ x) v → R v G') → te ((wipe σ [j]).set j (some (φ x))) G R)
    (k : ∀ (D : Addr) (G : Hp) (vs : List V), H D = none → Ex H G → G D = some (.lst vs) → Paired (fun v x => ψ x (hid G D) v) vs (xs.filter p) → Q (.ref D) G) :
    tLc (iList K tl) (gName j) t te [j] σ H Q := by
  refine src _ fun a H1 e1 ha => ⟨a, rfl, ⟨_, SqL.of ha⟩, fun D hD => ?_⟩
  refine lc_list (xs := xs.map φ) (fun i G => Ex H1 G ∧ ∃ vs, G D = some (.lst vs) ∧ Paired (fun v x => ψ x (hid G D) v) vs ((xs.take i).filter p)) ⟨Ex.new hD, [], upd_same, by rw [List.take_zero]; exact .nil⟩ (fun i G _ ⟨e, _⟩ => SqL.of (e _ _ ha)) ?_ ?_
  · intro i v G hi st
    obtain ⟨x, hx, rfl⟩ := map_at hi
    exact ⟨wipe1 _ _ _, lc_turns xs φ p ψ mono hs e1 hD ht he i x G hx st⟩
  · rintro G ⟨e, vs, hvs, hp⟩
    rw [List.take_of_length_le (by simp)] at hp
    exact k D G vs (fresh_back e1 hD) (e1.trans e) hvs hp
/-- over range(n) -/
theorem lc_rng {ta : TA} {j : Nat} {t : TT} {te : TE} {σ : L2.St} {Q : VK} (n : Nat) (p : Nat → Bool) (ψ : Nat → Hp → V → Prop) (mono : ∀ x G G' v, Ex G G' → ψ x G v → ψ x G' v)
    (hs : n ≤ 10000)
    (src : ∀ R : List V → Hp → Prop, (∀ (H1 : Hp), Ex H H1 → R [nV n] H1) → ta σ H R)
    (ht : ∀ (x : Nat) (G : Hp) (R : Bool → Hp → Prop), x ∈ List.range n → Ex H G → (∀ G', Ex G G' → R (p x) G') → t ((wipe σ [j]).set j (some (nV x))) G R)
    (he : ∀ (x : Nat) (G : Hp) (R : V → Hp → Prop), x ∈ List.range n → p x = true → Ex H G → (∀ v G', Ex G G' → Told H G G' (ψ x) v → R v G') → te ((wipe σ [j]).set j (some (nV x))) G R)
    (k : ∀ (D : Addr) (G : Hp) (vs : List V), H D = none → Ex H G → G D = some (.lst vs) → Paired (fun v x => ψ x (hid G D) v) vs ((List.range n).filter p) → Q (.ref D) G) :
    tLc (iRng1 ta) (gName j) t te [j] σ H Q := by
  refine src _ fun H1 e1 => ⟨(n : Int), rfl, by omega, by omega, fun D hD => ?_⟩
  refine lc_range (lo := 0) (n := (n : Int).toNat) (fun i G => Ex H1 G ∧ ∃ vs, G D = some (.lst vs) ∧ Paired (fun v x => ψ x (hid G D) v) vs (((List.range n).take i).filter p)) ⟨Ex.new hD, [], upd_same, by rw [List.take_zero]; exact .nil⟩ ?_ ?_
  · intro i G hi st
    have hx : (List.range n)[i]? = some i := List.getElem?_range (by omega)
    have e0 : (0 : Int) + (i : Int) = (i : Int) := Int.zero_add _
    show wipe ((wipe σ [j]).set j (some (V.int ((0 : Int) + (i : Int))))) [j] = wipe σ [j] ∧ t ((wipe σ [j]).set j (some (V.int ((0 : Int) + (i : Int))))) G _
    rw [e0]
    exact ⟨wipe1 _ _ _, lc_turns (List.range n) nV p ψ mono (by simpa using hs) e1 hD ht he i i G hx st⟩
  · rintro G ⟨e, vs, hvs, hp⟩
    rw [List.take_of_length_le (by simp)] at hp
    exact k D G vs (fresh_back e1 hD) (e1.trans e) hvs hp
/-- no test -/
theorem yes_ht {α : Type} {σ' : α → L2.St} {xs : List α} : ∀ (x : α) (G : Hp) (R : Bool → Hp → Prop), x ∈ xs → Ex H G → (∀ G', Ex G G' → R ((fun _ => true) x) G') → tYes (σ' x) G R := fun x G R _ _ h => h G (Ex.refl G)
/-- a value without parts -/
theorem Told.pure {G G' : Hp} {v : V} {P : V → Prop} (h : P v) : Told H G G' (fun _ u => P u) v := fun _ _ _ => h
theorem paired_map {α : Type} {f : α → V} : ∀ {vs : List V} {xs : List α}, Paired (fun v x => v = f x) vs xs → vs = xs.map f
  | _, _, .nil => rfl
  | _, _, .cons h t => by rw [List.map_cons, h, paired_map t]
theorem filter_true {α : Type} (xs : List α) : xs.filter (fun _ => true) = xs := List.filter_eq_self.mpr fun _ _ => rfl
end
/-! ### for over enumerate(list), over a text -/
theorem for_enum {K : PySem.W.Frag} {a : Addr} {xs : List V} {g : TG} {tb : TS} {D : Ends} {σ : L2.St} {H : Hp} (Pv : Nat → L2.St → Hp → Prop) (h0 : Pv 0 σ H) (hl : ∀ i σ G, i ≤ xs.length → Pv i σ G → SqL K G a xs)
    (hs : ∀ i x (T : Addr) σ G, xs[i]? = some x → Pv i σ G → G T = none → g (.ref T) σ (upd G T (.tup [.int (i : Nat), x])) fun σ2 H2 => tb { D with nx := Pv (i + 1), ct := Pv (i + 1), bk := D.nx } σ2 H2) (hd : ∀ σ G, Pv xs.length σ G → D.nx σ G) :
    ∃ W : Nat → Nat → L2.St → Hp → Prop, (∃ m, W 0 m σ H) ∧ ∀ i m σ H, W i m σ H →
      ((Ite K a).stop i H ∧ D.nx σ H) ∨ ((Ite K a).go i H ∧ ∃ N : L2.St → Hp → Prop, (∀ σ' H', N σ' H' → ∃ m', m' < m ∧ W (i + 1) m' σ' H') ∧ ∀ x H', (Ite K a).yld i H x H' → g x σ H' fun σ2 H2 => tb { D with nx := N, ct := N, bk := D.nx } σ2 H2) := by
  refine ⟨fun i m σ G => m = xs.length - i ∧ i ≤ xs.length ∧ Pv i σ G, ⟨_, rfl, Nat.zero_le _, h0⟩, ?_⟩
  rintro i m σ G ⟨rfl, hi, p⟩
  have q := hl i σ G hi p
  rcases Nat.lt_or_ge i xs.length with lt | ge
  · have e : xs[i]? = some xs[i] := by simp [lt]
    refine .inr ⟨⟨xs, xs[i], q, e⟩, Pv (i + 1), fun σ' G' p' => ⟨_, by omega, rfl, lt, p'⟩, fun v G' y => ?_⟩
    obtain ⟨T, x, rfl, hT, rfl, hx⟩ := y
    exact hs i x T σ G (hx xs q) p hT
  · have e : i = xs.length := by omega
    subst e
    exact .inl ⟨⟨xs, q, Nat.le_refl _⟩, hd σ G p⟩
theorem ord_len (ls : List Bool) : (ordStr ls).length = ls.length := by show (List.toArray _).size = _; simp
theorem for_ord {ls : List Bool} {g : TG} {tb : TS} {D : Ends} {σ : L2.St} {H : Hp} (Pv : Nat → L2.St → Hp → Prop) (h0 : Pv 0 σ H)
    (hs : ∀ i b σ G, ls[i]? = some b → Pv i σ G → g (.str (ordStr [b])) σ G fun σ2 H2 => tb { D with nx := Pv (i + 1), ct := Pv (i + 1), bk := D.nx } σ2 H2) (hd : ∀ σ G, Pv ls.length σ G → D.nx σ G) :
    ∃ W : Nat → Nat → L2.St → Hp → Prop, (∃ m, W 0 m σ H) ∧ ∀ i m σ H, W i m σ H →
      ((Its (ordStr ls)).stop i H ∧ D.nx σ H) ∨ ((Its (ordStr ls)).go i H ∧ ∃ N : L2.St → Hp → Prop, (∀ σ' H', N σ' H' → ∃ m', m' < m ∧ W (i + 1) m' σ' H') ∧ ∀ x H', (Its (ordStr ls)).yld i H x H' → g x σ H' fun σ2 H2 => tb { D with nx := N, ct := N, bk := D.nx } σ2 H2) := by
  have sz : (ordStr ls).cps.size = ls.length := ord_len ls
  refine ⟨fun i m σ G => m = ls.length - i ∧ i ≤ ls.length ∧ Pv i σ G, ⟨_, rfl, Nat.zero_le _, h0⟩, ?_⟩
  rintro i m σ G ⟨rfl, hi, p⟩
  rcases Nat.lt_or_ge i ls.length with lt | ge
  · have e : ls[i]? = some ls[i] := by simp [lt]
    refine .inr ⟨(by show i < (ordStr ls).cps.size; omega), Pv (i + 1), fun σ' G' p' => ⟨_, by omega, rfl, lt, p'⟩, fun v G' y => ?_⟩
    obtain ⟨rfl, c, hc, rfl⟩ := y
    have ec : c = if ls[i] then 75 else 82 := by
      have h2 : (ordStr ls).cps[i]? = some (if ls[i] then 75 else 82) := by
        show (List.toArray _)[i]? = _
        rw [List.getElem?_toArray, List.getElem?_map, e]; rfl
      rw [h2] at hc
      exact (Option.some.inj hc).symm
    subst ec
    exact hs i ls[i] σ _ e p
  · have e : i = ls.length := by omega
    subst e
    exact .inl ⟨by show (ordStr ls).cps.size ≤ _; omega, hd σ G p⟩
theorem ord_rev (ls : List Bool) : (⟨(ordStr ls).cps.reverse⟩ : Str) = ordStr ls.reverse := by
  unfold ordStr
  congr 1
  rw [List.map_reverse, List.reverse_toArray]
theorem ord_K (b : Bool) : decide (V.str (ordStr [b]) = V.str "K") = b := by
  cases b <;> decide +kernel
theorem ord_app (l m : List Bool) : ordStr l ++ ordStr m = ordStr (l ++ m) := by
  show (⟨_ ++ _⟩ : Str) = _
  unfold ordStr
  congr 1
  rw [List.map_append]; simp
theorem Good.mk' {sp : Sp} {ps N : List Str} {t : TS} (h : ∀ vs H Q E, sp vs H Q E → vs.length = ps.length ∧ t { nx := fun _ H' => Q .non H', rt := Q } (start N vs) H) : Good sp ps N t := h
/-! ### a dict as a set of cells -/
def DSet (H : Hp) (d : Addr) (S : Nat → Prop) (m : Nat) : Prop := ∃ kvs : List (Key × V), H d = some (.dK kvs) ∧ kvs.length ≤ m ∧ ∀ x : Nat, (valV kvs (Sum.inl (x : Int) : Key)).isSome = true ↔ S x
theorem DSet.nil {H : Hp} {d : Addr} (h : H d = some (.dK [])) : DSet H d (fun _ => False) 0 := ⟨[], h, Nat.le_refl _, fun x => ⟨(fun z => nomatch z), fun z => z.elim⟩⟩
theorem DSet.ex {H H' : Hp} {d : Addr} {S : Nat → Prop} {m : Nat} (e : Ex H H') (h : DSet H d S m) : DSet H' d S m := by
  obtain ⟨kvs, h1, h2, h3⟩ := h
  exact ⟨kvs, e _ _ h1, h2, h3⟩
theorem DSet.get {H : Hp} {d : Addr} {S : Nat → Prop} {m : Nat} (h : DSet H d S m) (x : Nat) : ∃ o, DGet H d (nV x) o ∧ (o.isSome = true ↔ S x) := by
  obtain ⟨kvs, h1, h2, h3⟩ := h
  exact ⟨_, DGet.k (k := Sum.inl (x : Int)) h1, h3 x⟩
theorem DSet.put {H : Hp} {d : Addr} {S : Nat → Prop} {m : Nat} (h : DSet H d S m) (hm : m ≤ 100000) (x : Nat) (v : V) : ∃ kvs : List (Key × V), DPut H d (nV x) v (upd H d (.dK kvs)) ∧ DSet (upd H d (.dK kvs)) d (fun y => y = x ∨ S y) (m + 1) := by
  obtain ⟨kvs, h1, h2, h3⟩ := h
  refine ⟨_, DPut.k (k := Sum.inl (x : Int)) h1 (small' (Nat.lt_succ_of_le (Nat.le_trans h2 hm))), _, upd_same, Nat.le_trans (length_putK _ _ _) (by omega), fun y => ?_⟩
  rw [valV_put]
  by_cases e : y = x
  · subst e
    rw [if_pos rfl]
    exact ⟨fun _ => .inl rfl, fun _ => rfl⟩
  · rw [if_neg (fun z => e (by injection z with z; omega)), h3]
    exact ⟨.inr, fun z => z.resolve_left e⟩
theorem DSet.congr {H : Hp} {d : Addr} {S S' : Nat → Prop} {m m' : Nat} (h : DSet H d S m) (hm : m ≤ m') (hs : ∀ x, S x ↔ S' x) : DSet H d S' m' := by
  obtain ⟨kvs, h1, h2, h3⟩ := h
  exact ⟨kvs, h1, by omega, fun x => (h3 x).trans (hs x)⟩
/-- {c: True for c in xs} -/
theorem dc_set {K : PySem.W.Frag} {tl : TE} {j : Nat} {σ : L2.St} {H : Hp} {Q : VK} (xs : List Nat) (hs : xs.length ≤ 10000) (hj : j < σ.length)
    (src : ∀ R : V → Hp → Prop, (∀ (a : Addr) (H1 : Hp), Ex H H1 → LN H1 a xs → R (.ref a) H1) → tl σ H R)
    (k : ∀ (D : Addr) (G : Hp), H D = none → Ex H G → DSet G D (· ∈ xs) xs.length → Q (.ref D) G) :
    tDc (iList K tl) (gName j) tYes (tVar j) (tC (.bl true)) [j] σ H Q := by
  refine src _ fun a H1 e1 ha => ⟨a, rfl, ⟨_, SqL.of ha⟩, fun D hD => ?_⟩
  refine ⟨fun i m G => m = xs.length - i ∧ i ≤ xs.length ∧ Ex H1 G ∧ DSet G D (· ∈ xs.take i) i, ⟨_, rfl, Nat.zero_le _, Ex.new hD, (DSet.nil upd_same).congr (Nat.le_refl _) fun x => by simp⟩, ?_⟩
  rintro i m G ⟨rfl, hi, e, hd⟩
  have q : SqL K G a (xs.map nV) := SqL.of (e _ _ ha)
  rcases Nat.lt_or_ge i xs.length with lt | ge
  · have ex : xs[i]? = some xs[i] := by simp [lt]
    refine .inr ⟨⟨_, nV xs[i], q, by rw [List.getElem?_map, ex]; rfl⟩, fun G' => i + 1 ≤ xs.length ∧ Ex H1 G' ∧ DSet G' D (· ∈ xs.take (i + 1)) (i + 1), fun G' z => ⟨_, by omega, rfl, z⟩, fun v G' y => ?_⟩
    obtain ⟨rfl, hx⟩ := y
    have hv := hx _ q
    rw [List.getElem?_map, ex] at hv
    have hv : nV xs[i] = v := Option.some.inj hv
    subst hv
    refine ⟨wipe1 _ _ _, ?_⟩
    dsimp only [tYes]
    rw [if_pos rfl]
    have hg : ((wipe σ [j]).set j (some (nV xs[i])))[j]? = some (some (nV xs[i])) := List.getElem?_set_self (by rw [wipe_length]; exact hj)
    refine ⟨_, hg, ?_⟩
    obtain ⟨kvs, h1, h2, h3⟩ := hd
    refine ⟨kvs, Sum.inl (xs[i] : Int), rfl, h1, small' (by omega : kvs.length < 10001), lt, e.mut hD, _, upd_same, Nat.le_trans (length_putK _ _ _) (by omega), fun y => ?_⟩
    rw [valV_put, take_succ ex]
    show _ ↔ y ∈ xs.take i ++ [xs[i]]
    rw [List.mem_append, List.mem_singleton]
    by_cases ey : y = xs[i]
    · rw [if_pos (by rw [ey])]
      exact ⟨fun _ => .inr ey, fun _ => rfl⟩
    · rw [if_neg (fun z => ey (by injection z with z; omega))]
      exact (h3 y).trans ⟨.inl, fun z => z.resolve_right ey⟩
  · have ei : i = xs.length := by omega
    subst ei
    rw [List.take_length] at hd
    exact .inl ⟨⟨_, q, by rw [List.length_map]; exact Nat.le_refl _⟩, k D G (fresh_back e1 hD) (e1.trans e) hd⟩
theorem ord_count (ls : List Bool) : Txt.count (ordStr ls) "R" = (ls.count false : Int) := by
  have e : ("R" : Str) = ⟨#[82]⟩ := by decide +kernel
  have e2 : (ordStr ls).cps.toList = ls.map fun b => if b then 75 else 82 := rfl
  rw [e, PyProof.Rows.count_cnt, e2]
  induction ls with
  | nil => rfl
  | cons b r ih =>
    rw [List.map_cons, PyProof.Rows.cnt_cons, ih rfl]
    cases b <;> simp
    omega
end Bw
/-! readings: rows -/
namespace Bw
open PySem PySem.Spec PyProof.Rows L2 Evl Bb
section
variable {K : PySem.W.Frag} {C : Addr}
theorem sum_take_succ {l : List Nat} {i x : Nat} (h : l[i]? = some x) : (l.take (i + 1)).sum = (l.take i).sum + x := by
  rw [take_succ h, List.sum_append]; simp
theorem psums_take {l : List Nat} {i x : Nat} (h : l[i]? = some x) : psums 0 (l.take (i + 1)) = psums 0 (l.take i) ++ [(l.take (i + 1)).sum] := by
  rw [sum_take_succ h, take_succ h, psums_snoc]; simp
theorem ixlt {α : Type} {l : List α} {i : Nat} {x : α} (h : l[i]? = some x) : i < l.length := (List.getElem?_eq_some_iff.mp h).1
theorem rd_top_sums : Good (sp_top_sums K C) P_top_sums N_top_sums (t_top_sums K C) := by
  intro vs H Q E h
  obtain ⟨a, ss, rfl, hL, hlen, hsum, hpos, k⟩ := h
  refine ⟨rfl, Nat.zero_le _, fun l hl => ?_⟩
  refine ⟨_, rfl, a, rfl, ⟨_, SqL.of (Ex.new hl a _ hL)⟩, for_list (K := K) (a := a) (xs := ss.map nV) (fun i σ G => ∃ v, σ = [some (.ref a), some (.ref l), some (nV (ss.take i).sum), v] ∧ Ex H G ∧ LN G l (psums 0 (ss.take i)))
    ⟨none, rfl, Ex.new hl, upd_same⟩ (fun i σ G _ ⟨_, _, e, _⟩ => SqL.of (e _ _ hL)) ?_ ?_⟩
  · rintro i v σ G hi ⟨_, rfl, e, hP⟩
    obtain ⟨x, hx, rfl⟩ := map_at hi
    refine ⟨_, rfl, _, rfl, _, _, rfl, rfl, ?_⟩
    refine ⟨_, rfl, .inl ⟨rfl, _, SqL.of hP⟩, _, rfl, l, _, _, rfl, rfl, hP, ?_, ?_⟩
    · refine small' (?_ : _ < 1001)
      have := List.length_take_le' i ss
      rw [List.length_map, psums_len]; omega
    · refine ⟨some (nV x), ?_, e.mut hl, ?_⟩
      · rw [sum_take_succ hx]; rfl
      · show upd G l _ l = _
        rw [upd_same, psums_take hx, List.map_append, sum_take_succ hx]; rfl
  · rintro σ G ⟨v, rfl, e, hP⟩
    rw [List.take_of_length_le (by simp)] at *
    have hps : (psums 0 ss).length = ss.length := psums_len _ _
    have hge := sum_ge_len hpos
    refine ⟨_, rfl, _, rfl, by show 1 ≤ sizeLine; decide, fun q hq => ?_⟩
    have nlq : l ≠ q := ne_of_none hP hq
    have hP' : LN (upd G q (.lst [nV ss.sum])) l (psums 0 ss) := by show upd G q _ l = _; rw [upd_ne nlq]; exact hP
    have hlen2 : ((psums 0 ss).map nV).length = ss.length := by rw [List.length_map, hps]
    refine ⟨_, rfl, _, rfl, l, _, rfl, .inl (SqL.of hP'), _, _, rfl, rfl, ?_⟩
    have ek : ((ss.sum : Int) - (((psums 0 ss).map nV).length : Int)).toNat = ss.sum - ss.length := by rw [hlen2]; omega
    refine ⟨q, _, _, rfl, rfl, upd_same, by rw [hlen2]; omega, by rw [hlen2]; omega, ?_, fun r hr => ?_⟩
    · rw [ek]; exact small (by simp; omega : _ ≤ 1000)
    · have nlr : l ≠ r := ne_of_none hP' hr
      refine ⟨l, r, _, _, rfl, rfl, by rw [upd_ne nlr]; exact hP', upd_same, ?_, fun p hp => ?_⟩
      · rw [ek, hlen2]; exact small (by simp; omega : _ ≤ 2000)
      · have hq2 : Ex G (upd G q (.lst [nV ss.sum])) := Ex.new hq
        have e1 : Ex G (upd (upd G q (.lst [nV ss.sum])) r (.lst (List.replicate ((ss.sum : Int) - (((psums 0 ss).map nV).length : Int)).toNat [nV ss.sum]).flatten)) := hq2.trans (Ex.new hr)
        refine k p _ (tsL ss) (fresh_back (e.trans e1) hp) ((e.trans e1).trans (Ex.new hp)) ?_ rfl
        show upd _ p _ p = _
        rw [upd_same, ek]
        unfold tsL
        rw [List.map_append, List.map_replicate]
        congr 3
        have : ∀ n : Nat, (List.replicate n [nV ss.sum]).flatten = List.replicate n (nV ss.sum) := fun n => by
          induction n with
          | zero => rfl
          | succ n ih => rw [List.replicate_succ, List.flatten_cons, ih, List.replicate_succ]; rfl
        exact this _
theorem rd_first_break : Good (sp_first_break K C) P_first_break N_first_break (t_first_break K C) := by
  intro vs H Q E h
  obtain ⟨a, b, ss, row, rfl, hL, hR, hlen, hsum, hpos, hrow, k⟩ := h
  refine ⟨rfl, ?_⟩
  refine ⟨_, rfl, a, ss, rfl, hL, hlen, hsum, hpos, fun p H1 ts hp e1 ht ets => ?_⟩
  subst ets
  have hlt : (tsL ss).length = ss.sum := tsL_len hpos
  refine ⟨_, rfl, b, _, rfl, .inl (SqL.of (hR.ex e1)), _, rfl, p, _, rfl, .inl (SqL.of ht), rfl, _, rfl, ?_⟩
  have ee : ((row.map V.int).length : Int) = (((tsL ss).map nV).length : Int) := by rw [List.length_map, List.length_map, hrow, hlt]
  refine iteNS (by rw [ee]) ?_
  refine ⟨_, rfl, p, _, rfl, SqL.of ht, for_enum (K := K) (a := p) (xs := (tsL ss).map nV) (fun i σ G => ∃ u v, σ = [some (.ref a), some (.ref b), some (.ref p), u, v] ∧ Ex H1 G ∧ ∀ (j c : Nat) (d : Int), j < i → (tsL ss)[j]? = some c → row[j]? = some d → (c : Int) ≤ d)
    ⟨none, none, rfl, Ex.refl _, fun j c d hj => absurd hj (by omega)⟩ (fun i σ G _ ⟨_, _, _, e, _⟩ => SqL.of (e _ _ ht)) ?_ ?_⟩
  · rintro i x T σ G hi ⟨u, v, rfl, e, hall⟩ hT
    obtain ⟨c, hc, rfl⟩ := map_at hi
    have e' : Ex H1 (upd G T (.tup [.int (i : Nat), nV c])) := e.trans (Ex.new hT)
    have hci : i < row.length := by have := ixlt hc; omega
    have hr : row[i]? = some row[i] := by simp [hci]
    refine ⟨T, _, rfl, SqT.of upd_same, rfl, _, _, rfl, _, _, rfl, rfl, ?_⟩
    refine ⟨_, rfl, _, rfl, _, rfl, b, _, _, _, rfl, rfl, SqL.of ((hR.ex e1).ex e'), at_int hr, _, _, rfl, rfl, _, rfl, ?_⟩
    refine ite2 (fun hlt => ?_) (fun hge => ?_)
    · have hlt := of_decide_eq_true hlt
      refine ⟨_, rfl, _, _, rfl, rfl, k _ _ (e1.trans e') (.inr ⟨⟨_, rfl⟩, fun all => ?_⟩)⟩
      have := all i c _ hc hr
      omega
    · refine ⟨_, _, rfl, e', fun j c2 d hj h1 h2 => ?_⟩
      rcases Nat.lt_or_ge j i with lt | ge
      · exact hall j c2 d lt h1 h2
      · have ej : j = i := by omega
        subst ej
        rw [hc] at h1; cases h1
        rw [hr] at h2; cases h2
        have hge : ¬ row[j] < (c : Int) := fun z => hge (decide_eq_true z)
        omega
  · rintro σ G ⟨u, v, rfl, e, hall⟩
    refine k .non G (e1.trans e) (.inl ⟨rfl, fun i c d h1 h2 => hall i c d ?_ h1 h2⟩)
    rw [List.length_map]; exact ixlt h1
theorem rd_fits : Good (sp_fits K C) P_fits N_fits (t_fits K C) := by
  intro vs H Q E h
  obtain ⟨a, b, ss, row, rfl, hL, hR, hlen, hsum, hpos, hrow, k⟩ := h
  refine ⟨rfl, ?_⟩
  refine ⟨_, rfl, _, rfl, a, b, ss, row, rfl, hL, hR, hlen, hsum, hpos, hrow, fun v H' e hv => ⟨rfl, ?_⟩⟩
  refine k _ H' e ?_
  show (decide (v = V.non) = true ↔ _)
  rw [decide_eq_true_iff]
  rcases hv with ⟨rfl, h⟩ | ⟨⟨j, rfl⟩, h⟩
  · exact ⟨fun _ => h, fun _ => rfl⟩
  · exact ⟨fun z => (nomatch z), fun z => (h z).elim⟩
theorem rd_counted_bounds : Good (sp_counted_bounds K C) P_counted_bounds N_counted_bounds (t_counted_bounds K C) := by
  intro vs H Q E h
  obtain ⟨a, row, rfl, hR, hlen, k⟩ := h
  refine ⟨rfl, ?_⟩
  refine ⟨_, rfl, a, _, rfl, .inl (SqL.of hR), ?_⟩
  dsimp only [tSeq, tAsg, gName, tRet, tOp]
  refine lc_over (K := K) (α := Int) row V.int (fun _ => true) (fun b _ v => v = .int (mn b row.length)) (fun _ _ _ _ _ h => h) (by omega) ?_ ?_ ?_ ?_
  · exact fun R hR' => ⟨_, rfl, hR' a H (Ex.refl H) hR⟩
  · exact fun x G R _ _ h => h G (Ex.refl G)
  · intro x G R hx _ e hk
    refine ⟨_, rfl, _, rfl, x, _, rfl, ?_⟩
    refine hk _ G (Ex.refl G) fun _ _ _ => ?_
    rw [List.length_map]; rfl
  · intro D G vs hD e hv hp
    rw [filter_true] at hp
    have := paired_map hp
    subst this
    refine ⟨_, rfl, by show 1 ≤ sizeLine; decide, fun q hq => ?_⟩
    have nDq : D ≠ q := ne_of_none hv hq
    refine ⟨D, q, _, _, rfl, rfl, by rw [upd_ne nDq]; exact hv, upd_same, ?_, fun p hp => ?_⟩
    · exact small (by simp; omega : _ ≤ 2000)
    · refine k p _ (cbL row) (fresh_back (e.trans (Ex.new hq)) hp) ((e.trans (Ex.new hq)).trans (Ex.new hp)) ?_ rfl
      show upd _ p _ p = _
      rw [upd_same]
      unfold cbL
      rw [List.map_append, List.map_map, List.length_map]; rfl
theorem rd_require_turns : Good (sp_require_turns K C) P_require_turns N_require_turns (t_require_turns K C) := by
  intro vs H Q E h
  obtain ⟨i, j, rfl, hij, k⟩ := h
  refine ⟨rfl, ?_⟩
  refine ⟨_, rfl, _, rfl, _, _, rfl, rfl, _, rfl, ?_⟩
  rw [decide_eq_false (by omega)]
  exact iteF (k H (Ex.refl H))
theorem rd_checked_goal : Good (sp_checked_goal K C) P_checked_goal N_checked_goal (t_checked_goal K C) := by
  intro vs H Q E h
  obtain ⟨rfl, k⟩ := h
  refine ⟨rfl, ?_⟩
  refine ⟨_, rfl, rfl, _, rfl, iteT ?_⟩
  refine ⟨_, rfl, by show 1 ≤ sizeLine; decide, fun q hq => ?_⟩
  refine ⟨_, rfl, q, 0, _, rfl, rfl, upd_same, by decide, by decide, by decide, fun p hp => ?_⟩
  exact k p _ [] (fresh_back (Ex.new hq) hp) ((Ex.new hq).trans (Ex.new hp)) upd_same rfl
end
end Bw
/-! readings: steps, pulling back, fates -/
namespace Bw
open PySem PySem.Spec PyProof.Rows L2 Evl Bb
section
variable {K : PySem.W.Frag} {C : Addr}
theorem at_intE {xs : List Int} {z : Int} {i : Nat} {x : Int} (e : z = (i : Int)) (h : xs[i]? = some x) : atI (xs.map V.int) z = some (V.int x) := by rw [e]; exact at_int h
theorem at_natE {xs : List Nat} {z : Int} {i x : Nat} (e : z = (i : Int)) (h : xs[i]? = some x) : atI (xs.map nV) z = some (nV x) := by rw [e]; exact at_nat h
theorem at_refE {xs : List Addr} {z : Int} {i : Nat} {x : Addr} (e : z = (i : Int)) (h : xs[i]? = some x) : atI (xs.map V.ref) z = some (V.ref x) := by rw [e]; exact at_ref h
theorem getDI {l : List Int} {i : Nat} (h : i < l.length) : l[i]? = some (l.getD i 0) := by
  rw [List.getD_eq_getElem?_getD, List.getElem?_eq_getElem h]; rfl
theorem rd_keeper_step : Good (sp_keeper_step K C) P_keeper_step N_keeper_step (t_keeper_step K C) := by
  intro vs H Q E h
  obtain ⟨a, row, rfl, hR, hlen, k⟩ := h
  refine ⟨rfl, ?_⟩
  refine ⟨_, rfl, a, row, rfl, hR, hlen, fun p H1 bs hp e1 hb eb => ?_⟩
  have hbl : bs.length = row.length + 1 := by rw [eb]; exact cb_len row
  refine ⟨_, rfl, p, _, _, _, rfl, rfl, SqL.of hb, at_intE (i := 0) rfl (getDI (by omega)), _, _, rfl, rfl, by show 1 ≤ sizeLine; decide, fun l hl => ?_⟩
  have e2 : Ex H1 (upd H1 l (.lst [.int (bs.getD 0 0 + 1)])) := Ex.new hl
  refine ⟨_, rfl, p, _, rfl, .inl (SqL.of (e2 _ _ hb)), ?_⟩
  have hml : ((bs.map V.int).length : Int) = row.length + 1 := by rw [List.length_map, hbl]; omega
  refine ⟨1, _, rfl, ⟨by decide, by decide, by omega, by omega⟩, for_range (lo := 1) (n := (((bs.map V.int).length : Int) - 1).toNat) (fun i σ G => ∃ u v, σ = [some (.ref a), some (.ref p), some (.ref l), u, v] ∧ Ex H1 G ∧ LI G l ((bs.getD 0 0 + 1) :: (List.range i).map (ksF bs)))
    ⟨none, none, rfl, e2, upd_same⟩ ?_ ?_⟩
  · rintro i σ G hi ⟨u, v, rfl, e, hL⟩
    have hi' : i < row.length := by omega
    refine ⟨_, rfl, _, rfl, _, _, rfl, rfl, p, _, _, _, rfl, rfl, SqL.of (e _ _ hb), at_intE (i := i) (by omega) (getDI (by omega)), ?_⟩
    refine ⟨_, rfl, .inl ⟨rfl, _, SqL.of hL⟩, _, rfl, _, rfl, p, _, _, _, rfl, rfl, SqL.of (e _ _ hb), at_intE (i := i + 1) (by omega) (getDI (by omega)), _, _, rfl, rfl, _, rfl, _, _, rfl, rfl, _, rfl, _, rfl, _, _, rfl, rfl, ⟨by omega, by omega⟩, _, _, rfl, rfl, _, _, rfl, l, _, _, rfl, rfl, hL, ?_, ?_⟩
    · refine small' (?_ : _ < 2001)
      simp; omega
    · refine ⟨_, _, rfl, e.mut hl, ?_⟩
      show upd G l _ l = _
      rw [upd_same, List.range_succ, List.map_append, List.map_cons, List.map_cons, List.map_append]
      have e3 : (1 : Int) + (i : Int) = (i : Int) + 1 := Int.add_comm _ _
      rw [e3]; rfl
  · rintro σ G ⟨u, v, rfl, e, hL⟩
    have en : (((bs.map V.int).length : Int) - 1).toNat = row.length := by omega
    rw [en] at hL
    refine ⟨_, rfl, k l G _ (fresh_back e1 hl) (e1.trans e) hL ?_⟩
    unfold ksL
    rw [← eb]
theorem rd_raider_step : Good (sp_raider_step K C) P_raider_step N_raider_step (t_raider_step K C) := by
  intro vs H Q E h
  obtain ⟨a, row, rfl, hR, hlen, k⟩ := h
  refine ⟨rfl, ?_⟩
  refine ⟨_, rfl, a, _, rfl, .inl (SqL.of hR), ?_⟩
  dsimp only [tSeq, tAsg, gName, tRet, tOp]
  refine lc_over (K := K) (α := Int) (cbL row) V.int (fun _ => true) (fun b _ v => v = .int (if b < (row.length : Int) then b else (row.length : Int) + 1)) (fun _ _ _ _ _ h => h) (by rw [cb_len]; omega) ?_ ?_ ?_ ?_
  · intro R hR'
    refine ⟨_, rfl, a, row, rfl, hR, by omega, fun p H1 bs hp e1 hb eb => ?_⟩
    subst eb
    exact hR' p H1 e1 hb
  · exact fun x G R _ _ h => h G (Ex.refl G)
  · intro x G R hx _ e hk
    refine ⟨_, rfl, _, rfl, _, _, rfl, rfl, _, rfl, ?_⟩
    have hl : ((row.map V.int).length : Int) = row.length := by rw [List.length_map]
    refine ite2 (fun hlt => ?_) (fun hge => ?_)
    · have hlt := of_decide_eq_true hlt
      refine ⟨_, rfl, hk _ G (Ex.refl G) fun _ _ _ => ?_⟩
      rw [if_pos (by omega)]
    · refine ⟨_, rfl, _, _, rfl, rfl, hk _ G (Ex.refl G) fun _ _ _ => ?_⟩
      rw [if_neg (fun z => hge (decide_eq_true (by omega))), hl]
  · intro D G vs hD e hv hp
    rw [filter_true] at hp
    have := paired_map hp
    have hm : vs = (rsM row).map V.int := by rw [this]; unfold rsM; rw [List.map_map]; rfl
    subst hm
    have hml : (rsM row).length = row.length + 1 := by simp [rsM, cb_len]
    refine ⟨_, rfl, D, _, _, _, rfl, rfl, SqL.of hv, at_intE (i := 0) rfl (getDI (by omega)), _, rfl, _, _, rfl, _, rfl, D, _, _, 0, rfl, rfl, hv, ?_, ?_⟩
    · exact ixN_nat (n := ((rsM row).map V.int).length) (j := 0) (by rw [List.length_map]; omega)
    · refine ⟨_, rfl, k D _ (rsL row) hD (e.mut hD) ?_ rfl⟩
      show upd G D _ D = _
      rw [upd_same]
      unfold rsL
      rw [List.map_set, List.length_map]; rfl
theorem rd_step : Good (sp_step K C) P_step N_step (t_step K C) := by
  intro vs H Q E h
  obtain ⟨a, row, b, rfl, hR, hlen, k⟩ := h
  refine ⟨rfl, ?_⟩
  refine ⟨_, rfl, rfl, _, rfl, ?_⟩
  rw [ord_K]
  cases b with
  | true => exact iteT ⟨_, rfl, a, row, rfl, hR, hlen, fun p H1 bs hp e1 hb eb => k p H1 bs hp e1 hb (by rw [eb]; rfl)⟩
  | false => exact iteF ⟨_, rfl, a, row, rfl, hR, hlen, fun p H1 bs hp e1 hb eb => k p H1 bs hp e1 hb (by rw [eb]; rfl)⟩
theorem Fair.drop : ∀ {l : List Bool} (n : Nat), Fair l → Fair (l.drop n)
  | l, 0, h => h
  | [], n + 1, h => h
  | true :: r, n + 1, h => Fair.drop n h.2
  | false :: r, n + 1, h => Fair.drop (l := r) n h
theorem Fair.row {b : Bool} {r : List Bool} {row : List Int} (h : Fair (b :: r)) (R : RowOk (r.count true) r.length row) : RowOk ((b :: r).count true) (b :: r).length (if b then ksL row else rsL row) := by
  cases b with
  | true =>
    have h1 := h.1
    have c := count_len r
    have e1 : (true :: r).count true = r.count true + 1 := by simp
    have e2 : (true :: r).count false = r.count false := by simp
    rw [e1, List.length_cons]
    rw [e1, e2] at h1
    exact R.keeper (by omega)
  | false =>
    have e1 : (false :: r).count true = r.count true := by simp
    rw [e1, List.length_cons]
    exact R.raider
theorem rd_pull : Good (sp_pull K C) P_pull N_pull (t_pull K C) := by
  intro vs H Q E h
  obtain ⟨a, ls, rfl, hG, hlen, hF, k⟩ := h
  refine ⟨rfl, ?_⟩
  refine ⟨_, rfl, a, _, rfl, .inl (SqL.of hG), fun l hl => ?_⟩
  refine ⟨_, rfl, _, rfl, ?_, ?_⟩
  · rw [ord_len]; exact small hlen
  rw [ord_rev]
  refine ⟨_, rfl, for_ord (fun i σ G => ∃ q u row, σ = [some (.str (ordStr ls)), some (.ref a), some (.ref q), u] ∧ Ex H G ∧ H q = none ∧ LI G q row ∧ RowOk ((ls.drop (ls.length - i)).count true) i row)
    ⟨l, none, [], rfl, Ex.new hl, hl, upd_same, by rw [Nat.sub_zero, List.drop_length]; exact RowOk.nil⟩ ?_ ?_⟩
  · rintro i b σ G hi ⟨q, u, row, rfl, e, hq, hr, R⟩
    have hil : i < ls.length := by have := ixlt hi; simpa using this
    have ed : ls.drop (ls.length - (i + 1)) = b :: ls.drop (ls.length - i) := by
      rw [List.getElem?_reverse hil] at hi
      have e1 : ls.length - 1 - i = ls.length - (i + 1) := by omega
      rw [e1] at hi
      have e2 : ls.length - i = (ls.length - (i + 1)) + 1 := by omega
      rw [e2, List.drop_eq_getElem_cons (by omega : ls.length - (i + 1) < ls.length)]
      congr 1
      rw [List.getElem?_eq_getElem (by omega)] at hi
      exact Option.some.inj hi
    have hdl : (ls.drop (ls.length - i)).length = i := by rw [List.length_drop]; omega
    refine ⟨_, rfl, _, rfl, q, row, b, rfl, hr, ?_, fun p H1 rr hp e1 hb eb => ?_⟩
    · rw [R.len]; omega
    · refine ⟨p, _, rr, rfl, e.trans e1, fresh_back e hp, hb, ?_⟩
      have hfd := Fair.drop (ls.length - (i + 1)) hF
      rw [ed] at hfd ⊢
      have R' : RowOk ((ls.drop (ls.length - i)).count true) (ls.drop (ls.length - i)).length row := by rw [hdl]; exact R
      have := Bw.Fair.row hfd R'
      rw [List.length_cons, hdl] at this
      rw [eb]; exact this
  · rintro σ G ⟨q, u, row, rfl, e, hq, hr, R⟩
    rw [List.length_reverse] at R
    refine ⟨_, rfl, k q G row hq e hr ?_⟩
    rw [Nat.sub_self, List.drop_zero] at R
    exact R
theorem sum_int : ∀ xs : List Nat, ((List.map (fun x : Nat => (x : Int)) xs).sum) = (xs.sum : Int)
  | [] => rfl
  | x :: r => by rw [List.map_cons, List.sum_cons, List.sum_cons, sum_int r]; omega
theorem rd_kept : Good (sp_kept K C) P_kept N_kept (t_kept K C) := by
  intro vs H Q E h
  obtain ⟨a, ss, ls, rfl, hL, hs, hpos, hsum, hlen, hF, k⟩ := h
  refine ⟨rfl, ?_⟩
  have hsl := sum_ge_len hpos
  have hLI : LI H a (List.map (fun x : Nat => (x : Int)) ss) := by show H a = _; rw [List.map_map]; exact hL
  refine ⟨_, rfl, a, _, rfl, SqL.of hLI, ?_⟩
  have e0 : ((List.map (fun x : Nat => (x : Int)) ss).sum) = (ls.length : Int) := by rw [sum_int, hsum]
  rw [e0]
  refine ⟨_, rfl, _, rfl, by rw [ord_len]; exact small hlen, _, rfl, _, _, rfl, by rw [ord_len]; omega, fun H1 e1 => ?_⟩
  refine ⟨_, rfl, _, rfl, _, rfl, _, rfl, by rw [ord_len]; exact small hlen, _, _, rfl, rfl, ?_⟩
  have ez : (ls.length : Int) - ((ordStr ls).length : Int) = 0 := by rw [ord_len]; omega
  refine ⟨congrArg (fun z => [V.non, V.int z]) ez, fun g H2 rg hg e2 hrg erg => ?_⟩
  subst erg
  refine ⟨_, rfl, _, rfl, _, rfl, rfl, rfl, g, ls, rfl, hrg, by omega, hF, fun q H3 row hq e3 hrow R => ?_⟩
  have e13 := (e1.trans e2).trans e3
  refine ⟨a, q, ss, row, rfl, hL.ex e13, hrow, by omega, by omega, hpos, by rw [R.len]; omega, fun b H4 e4 hb => k b H4 (e13.trans e4) ?_⟩
  exact Iff.trans hb (R.fits hs hpos hsum)
end
end Bw
/-! readings: regions, the tree's small methods -/
namespace Bw
open PySem PySem.Spec PyProof.Rows L2 Evl Bb
/-- what the class Tree has not -/
structure TrA (K : PySem.W.Frag) (C : Addr) : Prop where
  cl : Cls K C
  nS : NoAttr K C "size"
  nL : NoAttr K C "_links"
  nN : NoAttr K C "_near"
theorem look_size (n : Nat) (l q : Addr) : (tfs n l q).lookup ("size" : Str) = some (nV n) := rfl
theorem str_ne1 : (("_links" : Str) == "size") = false := by decide +kernel
theorem str_ne2 : (("_near" : Str) == "size") = false := by decide +kernel
theorem str_ne3 : (("_near" : Str) == "_links") = false := by decide +kernel
theorem look_links (n : Nat) (l q : Addr) : (tfs n l q).lookup ("_links" : Str) = some (.ref l) := by
  unfold tfs
  rw [List.lookup_cons, str_ne1]
  show List.lookup _ _ = _
  rw [List.lookup_cons, beq_self_eq_true]
theorem look_near (n : Nat) (l q : Addr) : (tfs n l q).lookup ("_near" : Str) = some (.ref q) := by
  unfold tfs
  rw [List.lookup_cons, str_ne2]
  show List.lookup _ _ = _
  rw [List.lookup_cons, str_ne3]
  show List.lookup _ _ = _
  rw [List.lookup_cons, beq_self_eq_true]
theorem look_meth {m : Str} (n : Nat) (l q : Addr) (h1 : (m == "size") = false) (h2 : (m == "_links") = false) (h3 : (m == "_near") = false) : (tfs n l q).lookup m = none := by
  unfold tfs
  rw [List.lookup_cons, h1]
  show List.lookup _ _ = _
  rw [List.lookup_cons, h2]
  show List.lookup _ _ = _
  rw [List.lookup_cons, h3]
  rfl
section
variable {K : PySem.W.Frag} {C : Addr}
theorem rd_Tree_links (T : TrA K C) : Good (sp_Tree_links K C) P_Tree_links N_Tree_links (t_Tree_links K C) := by
  intro vs H Q E h
  obtain ⟨x, n, near, links, rfl, TA, k⟩ := h
  obtain ⟨dx, l, q, hx, hl, hq⟩ := TA.ob
  refine ⟨rfl, ?_⟩
  obtain ⟨ads, ha, hp⟩ := hl
  refine ⟨_, rfl, x, C, dx, _, _, rfl, hx, T.cl, T.nL, look_links n l q, l, _, rfl, .inl (SqL.of ha), fun p hp' => ?_⟩
  exact k p _ hp' (Ex.new hp') ⟨ads, upd_same, Paired.mono (fun _ _ z => PN.ex (Ex.new hp') z) hp⟩
theorem rd_Tree_neighbours (T : TrA K C) : Good (sp_Tree_neighbours K C) P_Tree_neighbours N_Tree_neighbours (t_Tree_neighbours K C) := by
  intro vs H Q E h
  obtain ⟨x, n, c, near, links, rfl, TA, hc, k⟩ := h
  obtain ⟨dx, l, q, hx, hl, hq⟩ := TA.ob
  refine ⟨rfl, ?_⟩
  obtain ⟨ads, ha, hp⟩ := hq
  obtain ⟨r, hr1, hr2⟩ := Paired.atI hp (at_nb (by rw [TA.tree.len]; exact hc))
  refine ⟨_, rfl, x, C, dx, _, _, rfl, hx, T.cl, T.nN, look_near n l q, _, rfl, q, _, _, _, rfl, rfl, SqL.of ha, at_ref hr1, r, _, rfl, .inl (SqL.of hr2), fun p hp' => ?_⟩
  exact k p _ _ hp' (Ex.new hp') upd_same rfl
theorem rd_require_region : Good (sp_require_region K C) P_require_region N_require_region (t_require_region K C) := by
  intro vs H Q E h
  obtain ⟨a, b, n, S, near, rfl, hS, hN, G, hnd, R, hn, k⟩ := h
  refine ⟨rfl, ?_⟩
  refine ⟨_, rfl, _, rfl, a, b, n, S, near, rfl, hS, hN, G.tab, hnd, R.lt, hn, fun p H1 ps hp e1 hps P => ?_⟩
  obtain ⟨ads, ha, hpp⟩ := hps
  refine ⟨p, _, rfl, .inl (SqL.of ha), ?_⟩
  have hne : S ≠ [] := fun z => by
    obtain ⟨r, hr⟩ := R.ne
    rw [z] at hr
    cases hr
  have hone := P.one hne R.conn
  have e : ((ads.map V.ref).length : Int) = 1 := by rw [List.length_map, hpp.length, hone]; rfl
  rw [e]
  exact ⟨_, rfl, rfl, _, rfl, iteF (k H1 e1)⟩
theorem rd_table_of (T : TrA K C) : Good (sp_table_of K C) P_table_of N_table_of (t_table_of K C) := by
  intro vs H Q E h
  obtain ⟨x, n, near, links, rfl, TA, k⟩ := h
  obtain ⟨dx, l, q, hx, hl, hq⟩ := TA.ob
  refine ⟨rfl, ?_⟩
  refine ⟨_, rfl, x, C, dx, _, _, rfl, hx, T.cl, T.nS, look_size n l q, _, rfl, x, dx, _, rfl, hx, look_meth n l q (by decide +kernel) (by decide +kernel) (by decide +kernel), x, n, near, links, rfl, TA, fun p H1 hp e1 hL => ?_⟩
  refine ⟨p, n, links, rfl, hL, fun l hl => ?_, by have := TA.small; omega, by have := TA.lsmall; omega, fun p2 H2 near2 hp2 e2 h2 N2 => k p2 H2 near2 (fresh_back e1 hp2) (e1.trans e2) h2 ?_⟩
  · exact TA.llt l hl
  · exact N2.unique TA.near fun c => .refl _
theorem rd_outer_pieces : Good (sp_outer_pieces K C) P_outer_pieces N_outer_pieces (t_outer_pieces K C) := by
  intro vs H Q E h
  obtain ⟨a, r, b, n, R, near, rfl, hA, hR, hN, G, hRl, hn, k⟩ := h
  refine ⟨rfl, ?_⟩
  dsimp only [t_outer_pieces, tSeq, tAsg, gName]
  refine dc_set (K := K) R (by omega) (by show 4 < 5; decide) (fun R' h' => ⟨_, rfl, h' r H (Ex.refl H) hR⟩) fun D G1 hD e1 hd => ?_
  dsimp only [tRet, tCall, tCons]
  refine lc_over (K := K) (List.range n) nV (fun c => decide (c ∉ R)) (fun c _ v => v = nV c) (fun _ _ _ _ _ h => h) (by simp; omega) (fun R' h' => ⟨_, rfl, h' a G1 (Ex.refl _) (e1 _ _ hA)⟩) ?_ ?_ ?_
  · intro c G2 R' hc e2 h'
    obtain ⟨o, ho, hs⟩ := (hd.ex e2).get c
    refine ⟨_, rfl, _, rfl, D, o, rfl, ho, _, rfl, ?_⟩
    have : (!o.isSome) = decide (c ∉ R) := by
      rw [Bool.eq_iff_iff, decide_eq_true_iff, ← hs]
      cases o.isSome <;> simp
    rw [this]
    exact h' G2 (Ex.refl _)
  · exact fun c G2 R' hc hp e2 h' => ⟨_, rfl, h' _ G2 (Ex.refl _) fun _ _ _ => rfl⟩
  · intro D2 G2 vs hD2 e2 hv hp
    have := paired_map hp
    subst this
    have e12 := e1.trans e2
    have hmem : ∀ x, x ∈ (List.range n).filter (fun c => decide (c ∉ R)) ↔ x < n ∧ x ∉ R := fun x => by rw [List.mem_filter, List.mem_range, decide_eq_true_iff]
    refine ⟨_, rfl, D2, b, n, _, near, rfl, hv, hN.ex e12, G.tab, List.Nodup.sublist List.filter_sublist List.nodup_range, fun x hx => ((hmem x).mp hx).1, hn, fun p G3 ps hp3 e3 h3 P => ?_⟩
    exact k p G3 ps (fresh_back e12 hp3) (e12.trans e3) h3 ⟨_, P, List.Nodup.sublist List.filter_sublist List.nodup_range, hmem⟩
theorem srt_ge {ns : List Int} (h : ns.Pairwise (· ≥ ·)) (f : ∀ x ∈ ns, 0 ≤ x) : ∃ ss : List Nat, ns = List.map (fun x : Nat => (x : Int)) ss ∧ ss.Pairwise (· ≥ ·) := by
  refine ⟨ns.map Int.toNat, ?_, ?_⟩
  · rw [List.map_map]
    have : ∀ l : List Int, (∀ x ∈ l, 0 ≤ x) → l = l.map ((fun x : Nat => (x : Int)) ∘ Int.toNat) := fun l hl => by
      induction l with
      | nil => rfl
      | cons x r ih =>
        rw [List.map_cons, ← ih fun y hy => hl y (List.mem_cons_of_mem _ hy)]
        have := hl x (by simp)
        congr 1
        show x = ((x.toNat : Nat) : Int)
        omega
    exact this ns f
  · rw [List.pairwise_map]
    exact h.imp fun {a b} h => by omega
theorem rgV_nat (n : Nat) : rgV 0 (n : Int) = (List.range n).map nV := by
  unfold rgV
  have e : ((n : Int) - 0).toNat = n := by omega
  rw [e]
  apply List.map_congr_left
  intro i _
  show V.int (0 + (i : Int)) = V.int (i : Int)
  rw [Int.zero_add]
theorem Paired.zipped {α β : Type} {F : α → β → Prop} : ∀ {l : List α} {m : List β}, Paired F l m → ∃ zs : List (α × β), zs.map (·.1) = l ∧ zs.map (·.2) = m ∧ ∀ z ∈ zs, F z.1 z.2
  | _, _, .nil => ⟨[], rfl, rfl, fun z hz => nomatch hz⟩
  | _, _, .cons (a := a) (b := b) h t => by
    obtain ⟨zs, e1, e2, h2⟩ := Paired.zipped t
    refine ⟨(a, b) :: zs, by rw [List.map_cons, e1], by rw [List.map_cons, e2], fun z hz => ?_⟩
    rcases List.mem_cons.mp hz with rfl | hz
    · exact h
    · exact h2 z hz
/-- [len(p) for p in ps] -/
theorem lc_lens {tl : TE} {j : Nat} {σ : L2.St} {H : Hp} {Q : VK} (rows : List (List Nat)) (hs : rows.length ≤ 10000) (hj : j < σ.length) (src : ∀ R : V → Hp → Prop, (∀ (a : Addr) (H1 : Hp), Ex H H1 → LLN H1 a rows → R (.ref a) H1) → tl σ H R)
    (k : ∀ (D : Addr) (G : Hp), H D = none → Ex H G → LN G D (rows.map List.length) → Q (.ref D) G) : tLc (iList K tl) (gName j) tYes (tCB (rLenQ K) (tCons (tVar j) tNil)) [j] σ H Q := by
  refine src _ fun a H1 e1 hL => ?_
  obtain ⟨ads, ha, hp⟩ := hL
  obtain ⟨zs, z1, z2, z3⟩ := Paired.zipped hp
  have hlen : zs.length = rows.length := by rw [← z2, List.length_map]
  have go : tLc (iList K (tC (.ref a))) (gName j) tYes (tCB (rLenQ K) (tCons (tVar j) tNil)) [j] σ H1 Q := by
    refine lc_over (K := K) zs (fun z => V.ref z.1) (fun _ => true) (fun z _ v => v = nV z.2.length) (fun _ _ _ _ _ h => h) (by omega) ?_ ?_ ?_ ?_
    · intro R h'
      refine h' a H1 (Ex.refl _) ?_
      have : zs.map (fun z => V.ref z.1) = ads.map V.ref := by rw [← z1, List.map_map]; rfl
      rw [this]; exact ha
    · exact fun z G R _ _ h => h G (Ex.refl G)
    · intro z G R hz _ e h'
      have hr := (z3 z hz).ex e
      have hg : ((wipe σ [j]).set j (some (V.ref z.1)))[j]? = some (some (V.ref z.1)) := List.getElem?_set_self (by rw [wipe_length]; exact hj)
      refine ⟨_, hg, z.1, _, rfl, .inl (SqL.of hr), ?_⟩
      have := h' (nV z.2.length) G (Ex.refl G) fun _ _ _ => rfl
      rw [List.length_map]
      exact this
    · intro D G vs hD e hv hp
      rw [filter_true] at hp
      have := paired_map hp
      subst this
      refine k D G (fresh_back e1 hD) (e1.trans e) ?_
      show G D = _
      rw [hv, ← z2, List.map_map, List.map_map]; rfl
  exact go
theorem calm_sizes {n : Nat} {near : List (List Nat)} {S R : List Nat} {ps : List (List Nat)} (G : IsTree n near) (P : Pieces near S ps) (hS : ∀ x, x ∈ S ↔ x < n ∧ x ∉ R) (t : Nat) : (∀ v ∈ ps.map List.length, v ≤ t) ↔ IsTree.Calm n near t (· ∈ R) := by
  have reach : ∀ x, x < n → ∀ y, Reach near (· ∈ S) x y ↔ Reach near (fun z => ¬ z ∈ R) x y := fun x hx y =>
    ⟨fun h => h.mono fun z _ hz => ((hS z).mp hz).2, fun h => h.mono fun z hz nz => (hS z).mpr ⟨G.rlt hz hx, nz⟩⟩
  constructor
  · intro h x hx nx
    have := h _ ((P.sizes G.tab (fun x hx => ((hS x).mp hx).1) _).mpr ⟨x, (hS x).mpr ⟨hx, nx⟩, rfl⟩)
    rw [cnt_congr fun y _ => reach x hx y] at this
    exact this
  · intro h v hv
    obtain ⟨x, hx, rfl⟩ := (P.sizes G.tab (fun x hx => ((hS x).mp hx).1) _).mp hv
    obtain ⟨h1, h2⟩ := (hS x).mp hx
    rw [cnt_congr fun y _ => reach x h1 y]
    exact h x h1 h2
theorem pieces_small {near : List (List Nat)} {S : List Nat} {ps : List (List Nat)} (P : Pieces near S ps) (hn : S.Nodup) : ps.length ≤ S.length := by
  have h1 := sum_ge_len (l := ps.map List.length) fun x hx => by
    obtain ⟨p, hp, rfl⟩ := List.mem_map.mp hx
    have := P.ne hp
    cases p with
    | nil => exact (this rfl).elim
    | cons a r => rw [List.length_cons]; omega
  rw [P.len hn, List.length_map] at h1
  exact h1
theorem part_len {n : Nat} {S R : List Nat} (hS : S.Nodup) (hR : R.Nodup) (hRn : ∀ x ∈ R, x < n) (h : ∀ x, x ∈ S ↔ x < n ∧ x ∉ R) : S.length + R.length = n := by
  have e1 := cnt_list (n := n) (P := (· ∈ S)) hS (fun x hx => ((h x).mp hx).1) fun x _ => Iff.rfl
  have e2 := cnt_list (n := n) (P := (· ∈ R)) hR hRn fun x _ => Iff.rfl
  have e3 := cnt_add (n := n) (P := (· ∈ S)) (Q := (· ∈ R)) (R := fun _ => True) (fun x hx => ⟨fun _ => by
    by_cases q : x ∈ R
    · exact .inr q
    · exact .inl ((h x).mpr ⟨hx, q⟩), fun _ => trivial⟩) fun x _ z => ((h x).mp z.1).2 z.2
  rw [cnt_true fun _ _ => trivial, e1, e2] at e3
  omega
theorem rd_outer_sizes (T : TrA K C) : Good (sp_outer_sizes K C) P_outer_sizes N_outer_sizes (t_outer_sizes K C) := by
  intro vs H Q E h
  obtain ⟨x, r, n, R, near, links, rfl, TA, hR, hnd, Rg, k⟩ := h
  refine ⟨rfl, ?_⟩
  have hRl : R.length ≤ n := nodup_le hnd Rg.lt
  have hn := TA.small
  refine ⟨_, rfl, x, n, near, links, rfl, TA, fun p H1 nr hp e1 hnr en => ?_⟩
  subst en
  refine ⟨_, rfl, _, rfl, r, p, n, R, nr, rfl, hR.ex e1, hnr, TA.tree, hnd, Rg, hn, fun H2 e2 => ?_⟩
  have e12 := e1.trans e2
  obtain ⟨dx, l, q, hx, hl, hq⟩ := (TA.ex e12).ob
  refine ⟨_, rfl, x, C, dx, _, _, rfl, hx, T.cl, T.nS, look_size n l q, _, rfl, RgOk.of_le (by omega) (by omega) (by omega) (by omega), fun g hg => ?_⟩
  rw [rgV_nat]
  have e3 := e12.trans (Ex.new (o := .lst ((List.range n).map nV)) hg)
  refine ⟨_, rfl, _, rfl, g, r, p, n, R, nr, rfl, upd_same, hR.ex e3, hnr.ex (e2.trans (Ex.new hg)), TA.tree, by omega, hn, fun p4 H4 ps hp4 e4 hps ⟨S, P, hSn, hS⟩ => ?_⟩
  have hSl : S.length ≤ n := nodup_le hSn fun x hx => ((hS x).mp hx).1
  have e34 := e3.trans e4
  dsimp only [tSeq, tAsg, gName, tRet, tCKw, tCons]
  refine lc_lens ps (by have := pieces_small P hSn; omega) (by show 4 < 5; decide) (fun R' h' => ⟨_, rfl, h' p4 H4 (Ex.refl _) hps⟩) fun D G hD e5 hLn => ?_
  have hLI : LI G D (List.map (fun x : Nat => (x : Int)) (ps.map List.length)) := by show G D = _; rw [List.map_map]; exact hLn
  refine ⟨D, _, rfl, rfl, SqL.of hLI, fun ns pp hperm hord hpp => ?_⟩
  have hpos : ∀ x ∈ ns, 0 ≤ x := fun x hx => by
    obtain ⟨y, _, rfl⟩ := List.mem_map.mp (hperm.mem_iff.mp hx)
    omega
  obtain ⟨ss, rfl, hss⟩ := srt_ge hord hpos
  have hp2 : ss.Perm (ps.map List.length) := by
    have := hperm.map Int.toNat
    rw [List.map_map, List.map_map] at this
    have id1 : ∀ l : List Nat, l.map (Int.toNat ∘ fun x : Nat => (x : Int)) = l := fun l => by
      induction l with
      | nil => rfl
      | cons a r ih => rw [List.map_cons, ih]; rfl
    rw [id1, id1] at this
    exact this
  refine k pp _ ss (fresh_back (e34.trans e5) hpp) ((e34.trans e5).trans (Ex.new hpp)) ?_ ⟨hss, fun x hx => ?_, ?_, fun t => ?_⟩
  · show upd _ pp _ pp = _
    rw [upd_same, List.map_map]; rfl
  · obtain ⟨p, hp, rfl⟩ := List.mem_map.mp (hp2.mem_iff.mp hx)
    have := P.ne hp
    cases p with
    | nil => exact (this rfl).elim
    | cons a r => rw [List.length_cons]; omega
  · rw [hp2.sum_nat, P.len hSn]
    exact part_len hSn hnd Rg.lt hS
  · rw [← calm_sizes TA.tree P hS t]
    exact ⟨fun h v hv => h v (hp2.mem_iff.mpr hv), fun h v hv => h v (hp2.mem_iff.mp hv)⟩
theorem mem_le_sum : ∀ {l : List Nat} {x : Nat}, x ∈ l → x ≤ l.sum
  | a :: r, x, h => by
    rw [List.sum_cons]
    rcases List.mem_cons.mp h with rfl | h
    · omega
    · have := mem_le_sum h
      omega
theorem flat_rep (n : Nat) (v : V) : (List.replicate n [v]).flatten = List.replicate n v := by
  induction n with
  | zero => rfl
  | succ n ih => rw [List.replicate_succ, List.flatten_cons, ih, List.replicate_succ]; rfl
theorem rd_without_last_raids : Good (sp_without_last_raids K C) P_without_last_raids N_without_last_raids (t_without_last_raids K C) := by
  intro vs H Q E h
  obtain ⟨ls, k, rfl, hk, hlen, kk⟩ := h
  refine ⟨rfl, ?_⟩
  refine ⟨_, rfl, rfl, _, _, rfl, rfl, _, rfl, _, _, rfl, rfl, ?_⟩
  dsimp only
  rw [ord_count]
  have e0 : (ls.count false : Int) - (k : Int) = ((ls.count false - k : Nat) : Int) := by omega
  rw [e0]
  refine ⟨_, rfl, _, rfl, for_ord (fun i σ G => ∃ (m : Nat) (done : List Bool) (u : Option V), σ = [some (.str (ordStr ls)), some (nV k), some (nV m), some (.str (ordStr done)), u] ∧ Ex H G ∧ done.length ≤ i ∧ done ++ strike m (ls.drop i) = strike (ls.count false - k) ls)
    ⟨_, [], none, rfl, Ex.refl _, Nat.zero_le _, rfl⟩ ?_ ?_⟩
  · rintro i b σ G hi ⟨m, done, u, rfl, e, hdl, hst⟩
    have hil := ixlt hi
    have ed : ls.drop i = b :: ls.drop (i + 1) := by
      rw [List.drop_eq_getElem_cons hil]
      congr 1
      rw [List.getElem?_eq_getElem hil] at hi
      exact Option.some.inj hi
    rw [ed] at hst
    have cat : ∀ c : Bool, (ordStr done).length + (ordStr [c]).length ≤ sizeLine := fun c => by
      rw [ord_len, ord_len]
      exact small (by show done.length + 1 ≤ 1000; omega)
    refine ⟨_, rfl, rfl, _, rfl, ?_⟩
    rw [ord_K]
    cases b with
    | true =>
      refine iteT ⟨_, rfl, _, rfl, _, _, rfl, rfl, cat _, ?_⟩
      refine ⟨m, done ++ [true], some (.str (ordStr [true])), ?_, e, by rw [List.length_append]; exact Nat.succ_le_succ hdl, ?_⟩
      · rw [← ord_app]; rfl
      · rw [List.append_assoc]; exact hst
    | false =>
      refine iteF ⟨_, rfl, _, _, rfl, rfl, _, rfl, ?_⟩
      cases m with
      | zero =>
        refine iteF ?_
        exact ⟨0, done, _, rfl, e, by omega, hst⟩
      | succ m =>
        have : decide ((0 : Int) < ((m + 1 : Nat) : Int)) = true := decide_eq_true (by omega)
        rw [this]
        refine iteT ⟨_, rfl, _, rfl, _, _, rfl, rfl, cat _, ?_⟩
        refine ⟨_, rfl, _, _, rfl, rfl, ?_⟩
        refine ⟨m, done ++ [false], some (.str (ordStr [false])), ?_, e, by rw [List.length_append]; exact Nat.succ_le_succ hdl, ?_⟩
        · have e1 : ((m + 1 : Nat) : Int) - 1 = (m : Int) := by omega
          rw [← ord_app]
          show [some (V.str (ordStr ls)), some (nV k), some (V.int (((m + 1 : Nat) : Int) - 1)), _, _] = _
          rw [e1]
        · rw [List.append_assoc]; exact hst
  · rintro σ G ⟨m, done, u, rfl, e, hdl, hst⟩
    rw [List.drop_length] at hst
    have : strike m [] = [] := by cases m <;> rfl
    rw [this, List.append_nil] at hst
    refine ⟨_, rfl, ?_⟩
    rw [hst]
    exact kk G e
theorem fate_held {n : Nat} {near : List (List Nat)} {t : Nat} {R : List Nat} (h : IsTree.Calm n near t (· ∈ R)) : fateS n near t R = "held" := by unfold fateS; exact if_pos h
theorem fate_str {n : Nat} {near : List (List Nat)} {t : Nat} {R : List Nat} (h : ¬ IsTree.Calm n near t (· ∈ R)) : fateS n near t R = "stripped" := by unfold fateS; exact if_neg h
theorem rd_region_fate (T : TrA K C) : Good (sp_region_fate K C) P_region_fate N_region_fate (t_region_fate K C) := by
  intro vs H Q E h
  obtain ⟨x, r, n, R, near, links, ls, rfl, TA, hR, hnd, Rg, hF, hlen, k⟩ := h
  refine ⟨rfl, ?_⟩
  have hn := TA.small
  have hRl : R.length ≤ n := nodup_le hnd Rg.lt
  have hR1 : 1 ≤ R.length := by
    obtain ⟨y, hy⟩ := Rg.ne
    cases R with
    | nil => cases hy
    | cons a r => rw [List.length_cons]; omega
  have hcl := count_len ls
  refine ⟨_, rfl, _, rfl, x, r, n, R, near, links, rfl, TA, hR, hnd, Rg, fun p H1 ss hp e1 hss ⟨hsrt, hpos, hsum, hcalm⟩ => ?_⟩
  obtain ⟨dx, l, q, hx, hl, hq⟩ := (TA.ex e1).ob
  refine ⟨_, rfl, x, C, dx, _, _, rfl, hx, T.cl, T.nS, look_size n l q, _, _, rfl, rfl, ?_⟩
  refine ⟨_, rfl, _, rfl, by rw [ord_len]; exact small (by omega : _ ≤ 1000), _, rfl, rfl, _, rfl, ?_⟩
  refine iteNS (by rw [ord_len]; congr 1; omega) ?_
  have hR1' := hR.ex e1
  refine ⟨_, rfl, r, _, rfl, .inl (SqL.of hR1'), _, _, rfl, rfl, ?_⟩
  dsimp only
  rw [List.length_map]
  have ee : (R.length : Int) - 1 = ((R.length - 1 : Nat) : Int) := by omega
  rw [ee]
  refine ⟨_, rfl, rfl, _, _, rfl, rfl, _, rfl, _, _, rfl, rfl, _, rfl, ?_⟩
  dsimp only
  rw [ord_count]
  refine ite2 (fun hle => ?_) (fun hgt => ?_)
  · have hle := of_decide_eq_true hle
    refine iteT ?_
    have hc : IsTree.Calm n near (ls.count true) (· ∈ R) := (hcalm _).mp fun y hy => by
      have := mem_le_sum hy
      omega
    have := k H1 e1
    rw [fate_held hc] at this
    exact this
  · have hgt : ¬ (ls.count false : Int) ≤ ((R.length - 1 : Nat) : Int) := fun z => hgt (decide_eq_true z)
    refine ⟨_, rfl, by show 1 ≤ sizeLine; decide, fun g hg => ?_⟩
    have npg : p ≠ g := ne_of_none hss hg
    have e2 : Ex H1 (upd H1 g (.lst [.int 1])) := Ex.new hg
    refine ⟨_, rfl, g, _, _, rfl, rfl, upd_same, by omega, by omega, small (by simp; omega : _ ≤ 1000), fun g2 hg2 => ?_⟩
    have e3 := e2.trans (Ex.new (o := .lst (List.replicate (((R.length - 1 : Nat) : Int)).toNat [V.int 1]).flatten) hg2)
    have len3 : (List.replicate (((R.length - 1 : Nat) : Int)).toNat [V.int 1]).flatten = List.replicate (R.length - 1) (nV 1) := by rw [flat_rep]; rfl
    have hss3 := hss.ex e3
    have hsl := sum_ge_len hpos
    refine ⟨p, g2, _, _, rfl, rfl, hss3, upd_same, ?_, fun g3 hg3 => ?_⟩
    · rw [len3]; exact small (by simp; omega : _ ≤ 1000)
    · have e4 := e3.trans (Ex.new (o := .lst (ss.map nV ++ (List.replicate (((R.length - 1 : Nat) : Int)).toNat [V.int 1]).flatten)) hg3)
      refine ⟨_, rfl, g3, ss ++ List.replicate (R.length - 1) 1, ls, rfl, ?_, ?_, ?_, ?_, by omega, hF, fun b H5 e5 hb => ⟨_, rfl, ?_⟩⟩
      · show upd _ g3 _ g3 = _
        rw [upd_same, len3, List.map_append, List.map_replicate]
      · rw [List.pairwise_append]
        refine ⟨hsrt, ?_, fun a ha c hc => ?_⟩
        · rw [List.pairwise_replicate]; exact .inr (Nat.le_refl _)
        · rw [(List.mem_replicate.mp hc).2]; exact hpos a ha
      · intro y hy
        rcases List.mem_append.mp hy with hy | hy
        · exact hpos y hy
        · rw [(List.mem_replicate.mp hy).2]; exact Nat.le_refl _
      · rw [List.sum_append, List.sum_replicate_nat]; omega
      · have hb : b = true ↔ ∀ y ∈ ss ++ List.replicate (R.length - 1) 1, y ≤ ls.count true := hb
        have e15 := (e1.trans e4).trans e5
        refine ite2 (fun hbt => ?_) (fun hbf => ?_)
        · have hc : IsTree.Calm n near (ls.count true) (· ∈ R) := (hcalm _).mp fun y hy => hb.mp hbt y (List.mem_append_left _ hy)
          have := k H5 e15
          rw [fate_held hc] at this
          exact this
        · have nc : ¬ ∀ y ∈ ss, y ≤ ls.count true := fun z => hbf (hb.mpr fun y hy => by
            rcases List.mem_append.mp hy with hy | hy
            · exact z y hy
            · rw [(List.mem_replicate.mp hy).2]
              cases ss with
              | nil => simp at hsum; omega
              | cons a r =>
                have h1 := hpos a (by simp)
                have h2 := z a (by simp)
                omega)
          have hcnt := strike_count (ls.count false - (R.length - 1)) ls
          have hcnt3 := hcnt.2.2 (Nat.sub_le _ _)
          have hlen2 := count_len (strike (ls.count false - (R.length - 1)) ls)
          refine ⟨_, rfl, _, rfl, _, rfl, ls, R.length - 1, rfl, by omega, by omega, fun H6 e6 => ?_⟩
          have e16 := e15.trans e6
          refine ⟨p, ss, strike (ls.count false - (R.length - 1)) ls, rfl, hss.ex ((e4.trans e5).trans e6), hsrt, hpos, by omega, by omega, strike_fair _ _ hF, fun b2 H7 e7 hb2 => ⟨_, rfl, ?_⟩⟩
          have hb2 : b2 = true ↔ ∀ y ∈ ss, y ≤ (strike (ls.count false - (R.length - 1)) ls).count true := hb2
          rw [hcnt.1] at hb2
          have hb2f : b2 = false := by
            cases b2 with
            | false => rfl
            | true => exact (nc (hb2.mp rfl)).elim
          rw [hb2f]
          refine iteF ?_
          have := k H7 (e16.trans e7)
          rw [fate_str (fun z => nc ((hcalm _).mpr z))] at this
          exact this
end
end Bw
/-! readings: tables of neighbours -/
namespace Bw
open PySem PySem.Spec PyProof.Rows L2 Evl Bb
/-- a table of cells' rows, all new -/
structure TblF (H : Hp) (n : Nat) (f : Nat → List V) (l : Addr) (ads : List Addr) (G : Hp) : Prop where
  at_l : G l = some (.lst (ads.map V.ref))
  len : ads.length = n
  nd : ads.Nodup
  lno : l ∉ ads
  new : ∀ a ∈ ads, H a = none
  row : ∀ (c : Nat) (a : Addr), ads[c]? = some a → G a = some (.lst (f c))
section
variable {K : PySem.W.Frag} {C : Addr} {H G G' : Hp} {n : Nat} {f : Nat → List V} {l : Addr} {ads : List Addr}
theorem TblF.ex (t : TblF H n f l ads G) (e : Ex G G') : TblF H n f l ads G' := ⟨e _ _ t.at_l, t.len, t.nd, t.lno, t.new, fun c a h => e _ _ (t.row c a h)⟩
theorem TblF.app (t : TblF H n f l ads G) {c : Nat} {a : Addr} (h : ads[c]? = some a) (g : Nat → List V) (xs : List V) (hx : xs = g c) (hg : ∀ d, d ≠ c → g d = f d) : TblF H n g l ads (upd G a (.lst xs)) := by
  have hm := List.mem_of_getElem? h
  refine ⟨by rw [upd_ne (fun z : l = a => t.lno (by rw [z]; exact hm))]; exact t.at_l, t.len, t.nd, t.lno, t.new, fun d b hb => ?_⟩
  by_cases e : d = c
  · subst e
    rw [h] at hb
    cases hb
    rw [upd_same, hx]
  · rw [upd_ne, hg d e]
    · exact t.row d b hb
    · intro z
      subst z
      exact e ((List.getElem?_inj (ixlt hb) t.nd).mp (hb.trans h.symm))
/-- [[] for _ in range(n)] -/
theorem lc_empties {ta : TA} {j : Nat} {σ : L2.St} {H : Hp} {Q : VK} (n : Nat) (hs : n ≤ 10000) (src : ∀ R : List V → Hp → Prop, (∀ (H1 : Hp), Ex H H1 → R [nV n] H1) → ta σ H R)
    (k : ∀ (D : Addr) (G : Hp) (ads : List Addr), H D = none → Ex H G → TblF H n (fun _ => []) D ads G → Q (.ref D) G) : tLc (iRng1 ta) (gName j) tYes (tLst tNil) [j] σ H Q := by
  refine src _ fun H1 e1 => ⟨(n : Int), rfl, by omega, by omega, fun D hD => ?_⟩
  refine lc_range (lo := 0) (n := (n : Int).toNat) (fun i G => Ex H1 G ∧ ∃ ads, TblF H1 i (fun _ => []) D ads G) ⟨Ex.new hD, [], upd_same, rfl, .nil, (fun z => by cases z), (fun _ z => by cases z), fun c a h => by simp at h⟩ ?_ ?_
  · rintro i G hi ⟨e, ads, t⟩
    refine ⟨wipe1 _ _ _, iteT (B := Ex H1 G ∧ ∃ ads, TblF H1 (i + 1) (fun _ => []) D ads G) ⟨by show 0 ≤ sizeLine; decide, fun q hq => ?_⟩⟩
    have hqD : q ≠ D := fun z => by rw [z, t.at_l] at hq; cases hq
    have hDq : D ≠ q := fun z => hqD z.symm
    have e2 : Ex H1 (upd G q (.lst [])) := e.trans (Ex.new hq)
    refine ⟨_, by rw [upd_ne hDq]; exact t.at_l, ?_, e2.mut hD, ads ++ [q], ?_⟩
    · rw [List.length_map, t.len]; exact small' (by omega : i < 10001)
    · have hqn : q ∉ ads := fun z => by
        obtain ⟨c, hc⟩ := List.getElem?_of_mem z
        rw [t.row c q hc] at hq; cases hq
      refine ⟨by rw [upd_same, List.map_append]; rfl, by rw [List.length_append, t.len]; rfl, ?_, ?_, ?_, ?_⟩
      · rw [List.nodup_append]
        exact ⟨t.nd, by simp, fun a ha b hb => by rw [List.mem_singleton] at hb; subst hb; exact fun z => hqn (z ▸ ha)⟩
      · intro z
        rcases List.mem_append.mp z with z | z
        · exact t.lno z
        · exact hDq (List.mem_singleton.mp z)
      · intro a ha
        rcases List.mem_append.mp ha with z | z
        · exact t.new a z
        · exact fresh_back e (by rw [List.mem_singleton.mp z]; exact hq)
      · intro c a h
        rw [upd_ne (fun z => by
          subst z
          have := List.mem_of_getElem? h
          rcases List.mem_append.mp this with z | z
          · exact t.lno z
          · exact hDq (List.mem_singleton.mp z))]
        rcases Nat.lt_or_ge c ads.length with lt | ge
        · rw [List.getElem?_append_left lt] at h
          exact (Ex.new hq) _ _ (t.row c a h)
        · rw [List.getElem?_append_right ge] at h
          have : a = q := by
            have := List.mem_of_getElem? h
            simpa using this
          rw [this, upd_same]
  · rintro G ⟨e, ads, t⟩
    refine k D G ads (fresh_back e1 hD) (e1.trans e) ⟨t.at_l, by rw [t.len]; omega, t.nd, t.lno, fun a ha => fresh_back e1 (t.new a ha), t.row⟩
theorem natI (l : List Nat) : l.map nV = (List.map (fun x : Nat => (x : Int)) l).map V.int := by rw [List.map_map]; rfl
theorem toNat_back : ∀ l : List Nat, (List.map (fun x : Nat => (x : Int)) l).map Int.toNat = l
  | [] => rfl
  | a :: r => by rw [List.map_cons, List.map_cons, toNat_back r]; rfl
theorem nats_of {ns : List Int} {xs : List Nat} (h : ns.Perm (List.map (fun x : Nat => (x : Int)) xs)) : ∃ ys : List Nat, ns = List.map (fun x : Nat => (x : Int)) ys ∧ ys.Perm xs := by
  refine ⟨ns.map Int.toNat, ?_, ?_⟩
  · have : ∀ l : List Int, (∀ x ∈ l, 0 ≤ x) → l = List.map (fun x : Nat => (x : Int)) (l.map Int.toNat) := fun l hl => by
      induction l with
      | nil => rfl
      | cons x r ih =>
        rw [List.map_cons, List.map_cons, ← ih fun y hy => hl y (List.mem_cons_of_mem _ hy)]
        have := hl x (by simp)
        congr 1
        show x = ((x.toNat : Nat) : Int)
        omega
    refine this ns fun x hx => ?_
    obtain ⟨y, _, rfl⟩ := List.mem_map.mp (h.mem_iff.mp hx)
    omega
  · have := h.map Int.toNat
    rw [toNat_back] at this
    exact this
theorem srtI {a : Addr} {xs : List Nat} {Q : VK} (h : LN H a xs) (k : ∀ (p : Addr) (ys : List Nat), H p = none → ys.Perm xs → ys.Pairwise (· ≤ ·) → Q (.ref p) (upd H p (.lst (ys.map nV)))) : rSortedI K [.ref a] H Q := by
  refine ⟨a, List.map (fun x : Nat => (x : Int)) xs, rfl, SqL.of (by rw [← natI]; exact h), fun ns p hp hs hf => ?_⟩
  obtain ⟨ys, rfl, hy⟩ := nats_of hp
  rw [← natI]
  exact k p ys hf hy ((List.pairwise_map.mp hs).imp fun {a b} h => by omega)
theorem srtR {a : Addr} {xs : List Nat} {Q : VK} (h : LN H a xs) (k : ∀ (p : Addr) (ys : List Nat), H p = none → ys.Perm xs → ys.Pairwise (· ≥ ·) → Q (.ref p) (upd H p (.lst (ys.map nV)))) : rSortedR K [.ref a] [.bl true] H Q := by
  refine ⟨a, List.map (fun x : Nat => (x : Int)) xs, rfl, rfl, SqL.of (by rw [← natI]; exact h), fun ns p hp hs hf => ?_⟩
  obtain ⟨ys, rfl, hy⟩ := nats_of hp
  rw [← natI]
  have hs : (List.map (fun x : Nat => (x : Int)) ys).Pairwise (· ≥ ·) := hs
  exact k p ys hf hy ((List.pairwise_map.mp hs).imp fun {a b} h => by omega)
/-- the rows of a table -/
theorem TblF.rows {f : Nat → List Nat} (t : TblF H n (fun c => (f c).map nV) l ads G) : LLN G l ((List.range n).map f) := by
  refine ⟨ads, t.at_l, ?_⟩
  have : ∀ (ads : List Addr) (s : Nat), (∀ (c : Nat) (a : Addr), ads[c]? = some a → LN G a (f (s + c))) → Paired (LN G) ads ((List.range' s ads.length).map f) := fun ads => by
    induction ads with
    | nil => exact fun s _ => .nil
    | cons a r ih =>
      intro s h
      rw [List.length_cons, List.range'_succ, List.map_cons]
      refine .cons (h 0 a rfl) (ih (s + 1) fun c b hb => ?_)
      have := h (c + 1) b (by simpa using hb)
      have e : s + (c + 1) = s + 1 + c := by omega
      rw [e] at this
      exact this
  have := this ads 0 fun c a h => by
    have := t.row c a h
    rw [Nat.zero_add]; exact this
  rw [t.len, ← List.range_eq_range'] at this
  exact this
/-- [sorted(row) for row in rows] -/
theorem lc_rows {tl te : TE} {j : Nat} (rel : List Nat → List Nat → Prop) (hte : ∀ (a : Addr) (σ' : L2.St) (G : Hp) (xs : List Nat) (R : V → Hp → Prop), σ'[j]? = some (some (.ref a)) → LN G a xs → (∀ (p : Addr) (ys : List Nat), G p = none → rel ys xs → R (.ref p) (upd G p (.lst (ys.map nV)))) → te σ' G R) {σ : L2.St} {H : Hp} {Q : VK} (rows : List (List Nat)) (hs : rows.length ≤ 10000) (hj : j < σ.length) (src : ∀ R : V → Hp → Prop, (∀ (a : Addr) (H1 : Hp), Ex H H1 → LLN H1 a rows → R (.ref a) H1) → tl σ H R)
    (k : ∀ (D : Addr) (G : Hp) (out : List (List Nat)), H D = none → Ex H G → LLN G D out → Paired (fun o r => rel o r) out rows → Q (.ref D) G) : tLc (iList K tl) (gName j) tYes te [j] σ H Q := by
  refine src _ fun a H1 e1 hL => ?_
  obtain ⟨ads, ha, hp⟩ := hL
  obtain ⟨zs, z1, z2, z3⟩ := Paired.zipped hp
  have hlen : zs.length = rows.length := by rw [← z2, List.length_map]
  have go : tLc (iList K (tC (.ref a))) (gName j) tYes te [j] σ H1 Q := by
    refine lc_over (K := K) zs (fun z => V.ref z.1) (fun _ => true) (fun z G v => ∃ p o, v = .ref p ∧ LN G p o ∧ rel o z.2) (fun z G G' v e h => ?_) (by omega) ?_ ?_ ?_ ?_
    · obtain ⟨p, o, h1, h2, h3⟩ := h
      exact ⟨p, o, h1, h2.ex e, h3⟩
    · intro R h'
      refine h' a H1 (Ex.refl _) ?_
      have : zs.map (fun z => V.ref z.1) = ads.map V.ref := by rw [← z1, List.map_map]; rfl
      rw [this]; exact ha
    · exact fun z G R _ _ h => h G (Ex.refl G)
    · intro z G R hz _ e h'
      have hr := (z3 z hz).ex e
      have hg : ((wipe σ [j]).set j (some (V.ref z.1)))[j]? = some (some (V.ref z.1)) := List.getElem?_set_self (by rw [wipe_length]; exact hj)
      exact hte _ _ _ _ _ hg hr fun p ys hp hy => h' _ _ (Ex.new hp) fun Gd _ kn => ⟨p, ys, rfl, kn _ _ hp upd_same, hy⟩
    · intro D G vs hD e hv hp
      rw [filter_true] at hp
      have : ∀ (vs : List V) (zs : List (Addr × List Nat)), Paired (fun v (z : Addr × List Nat) => ∃ p o, v = V.ref p ∧ LN (hid G D) p o ∧ rel o z.2) vs zs →
          ∃ (ads : List Addr) (out : List (List Nat)), vs = ads.map V.ref ∧ Paired (LN G) ads out ∧ Paired (fun o r => rel o r) out (zs.map (·.2)) := fun vs zs h => by
        induction h with
        | nil => exact ⟨[], [], rfl, .nil, .nil⟩
        | cons h _ ih =>
          obtain ⟨p, o, rfl, h1, h2⟩ := h
          obtain ⟨ads, out, rfl, h3, h4⟩ := ih
          exact ⟨p :: ads, o :: out, rfl, .cons (h1.ex (hid_ex G D)) h3, .cons h2 h4⟩
      obtain ⟨ads2, out, rfl, h3, h4⟩ := this vs zs hp
      rw [z2] at h4
      exact k D G out (fresh_back e1 hD) (e1.trans e) ⟨ads2, hv, h3⟩ h4
  exact go
abbrev srtd (o r : List Nat) : Prop := o.Perm r ∧ o.Pairwise (· ≤ ·)
abbrev srtdR (o r : List Nat) : Prop := o.Perm r ∧ o.Pairwise (· ≥ ·)
theorem te_srt {j : Nat} (a : Addr) (σ' : L2.St) (G : Hp) (xs : List Nat) (R : V → Hp → Prop) (hg : σ'[j]? = some (some (.ref a))) (hr : LN G a xs) (h : ∀ (p : Addr) (ys : List Nat), G p = none → srtd ys xs → R (.ref p) (upd G p (.lst (ys.map nV)))) : tCB (rSortedI K) (tCons (tVar j) tNil) σ' G R :=
  ⟨_, hg, srtI hr fun p ys hp hy hs => h p ys hp ⟨hy, hs⟩⟩
theorem te_srtR {j : Nat} (a : Addr) (σ' : L2.St) (G : Hp) (xs : List Nat) (R : V → Hp → Prop) (hg : σ'[j]? = some (some (.ref a))) (hr : LN G a xs) (h : ∀ (p : Addr) (ys : List Nat), G p = none → srtdR ys xs → R (.ref p) (upd G p (.lst (ys.map nV)))) : tCKw (rSortedR K) (tCons (tVar j) tNil) (tCons (tC (.bl true)) tNil) σ' G R :=
  ⟨_, hg, srtR hr fun p ys hp hy hs => h p ys hp ⟨hy, hs⟩⟩
theorem near_of {n : Nat} {links : List (Nat × Nat)} {out : List (List Nat)} (h : Paired srtd out ((List.range n).map (nbs links))) : IsNear n links out := by
  refine ⟨by rw [h.length]; simp, fun c hc => ?_⟩
  have h1 : ((List.range n).map (nbs links))[c]? = some (nbs links c) := by rw [List.getElem?_map, List.getElem?_range hc]; rfl
  obtain ⟨o, ho, hr, hs⟩ := Paired.atI h h1
  rw [nb_at ho]
  exact ⟨hs, hr⟩
theorem nbs_le (c : Nat) : ∀ links : List (Nat × Nat), (nbs links c).length ≤ 2 * links.length
  | [] => Nat.zero_le _
  | l :: r => by
    have := nbs_le c r
    rw [nbs_cons, List.length_append, List.length_append, List.length_cons]
    have h1 : (if l.1 = c then [l.2] else []).length ≤ 1 := by split <;> simp
    have h2 : (if l.2 = c then [l.1] else []).length ≤ 1 := by split <;> simp
    omega
theorem nbs_two {pre : List (Nat × Nat)} {u w c : Nat} : nbs (pre ++ [(u, w)]) c = (if c = w then (if w = u then nbs pre u ++ [w] else nbs pre w) ++ [u] else if c = u then nbs pre u ++ [w] else nbs pre c) := by
  rw [nbs_snoc]
  by_cases h1 : c = w
  · subst h1
    by_cases h2 : c = u
    · subst h2; simp
    · have : ¬ u = c := fun z => h2 z.symm
      simp [h2, this]
  · have h1' : ¬ w = c := fun z => h1 z.symm
    by_cases h2 : c = u
    · subst h2; simp [h1, h1']
    · have : ¬ u = c := fun z => h2 z.symm
      simp [h1, h2, h1', this]
/-- one link more -/
def nbF (links : List (Nat × Nat)) (c : Nat) : List V := (nbs links c).map nV
theorem rd_neighbour_table : Good (sp_neighbour_table K C) P_neighbour_table N_neighbour_table (t_neighbour_table K C) := by
  intro vs H Q E h
  obtain ⟨a, n, links, rfl, hL, hlt, hn, hll, k⟩ := h
  refine ⟨rfl, ?_⟩
  dsimp only [t_neighbour_table, tSeq, tAsg, gName, tRet]
  refine lc_empties n (by omega) (fun R h' => ⟨_, rfl, h' H (Ex.refl _)⟩) fun l G ads hl e t => ?_
  obtain ⟨las, ha, hp⟩ := hL
  refine ⟨_, rfl, a, rfl, ⟨_, SqL.of (e _ _ ha)⟩, for_list (K := K) (a := a) (xs := las.map V.ref) (fun i σ G => ∃ u3 u4, σ = [some (nV n), some (.ref a), some (.ref l), u3, u4, none, none] ∧ Ex H G ∧ TblF H n (nbF (links.take i)) l ads G)
    ⟨none, none, rfl, e, t⟩ (fun i σ G _ ⟨_, _, _, e, _⟩ => SqL.of (e _ _ ha)) ?_ ?_⟩
  · rintro i v σ G hi ⟨_, _, rfl, e, t⟩
    obtain ⟨p, hpi, rfl⟩ := map_at hi
    obtain ⟨⟨u, w⟩, hli, hP⟩ := Paired.atL hp hpi
    have hP : H p = some (.tup [nV u, nV w]) := hP
    obtain ⟨hu, hw⟩ := hlt _ (List.mem_of_getElem? hli)
    have hu : u < n := hu
    have hw : w < n := hw
    have hcnt : ∀ c, (nbF (links.take i) c).length ≤ 2 * links.length := fun c => by
      have h1 := nbs_le c (links.take i)
      have h2 := List.length_take_le' i links
      show ((nbs (links.take i) c).map nV).length ≤ _
      rw [List.length_map]; omega
    obtain ⟨ru, hru⟩ : ∃ r, ads[u]? = some r := ⟨_, List.getElem?_eq_getElem (by rw [t.len]; exact hu)⟩
    obtain ⟨rw', hrw⟩ : ∃ r, ads[w]? = some r := ⟨_, List.getElem?_eq_getElem (by rw [t.len]; exact hw)⟩
    refine ⟨p, _, rfl, SqT.of (e _ _ hP), rfl, _, _, rfl, _, _, rfl, rfl, ?_⟩
    refine ⟨_, rfl, _, rfl, l, _, _, _, rfl, rfl, SqL.of t.at_l, at_ref hru, .inl ⟨rfl, _, SqL.of (t.row u ru hru)⟩, _, rfl, ru, _, _, rfl, rfl, t.row u ru hru, ?_, ?_⟩
    · exact small' (by have := hcnt u; omega : _ < 2001)
    · have t2 := t.app hru (fun c => if c = u then nbF (links.take i) u ++ [nV w] else nbF (links.take i) c) _ (by rw [if_pos rfl]) fun d hd => if_neg hd
      refine ⟨_, rfl, _, rfl, l, _, _, _, rfl, rfl, SqL.of t2.at_l, at_ref hrw, .inl ⟨rfl, _, SqL.of (t2.row w rw' hrw)⟩, _, rfl, rw', _, _, rfl, rfl, t2.row w rw' hrw, ?_, ?_⟩
      · refine small' (m := 2002) ?_
        have h1 := hcnt u
        have h2 := hcnt w
        split
        · rw [List.length_append, List.length_singleton]; omega
        · omega
      · have t3 := t2.app hrw (nbF (links.take (i + 1))) ((if w = u then nbF (links.take i) u ++ [nV w] else nbF (links.take i) w) ++ [nV u]) (by
          unfold nbF
          rw [take_succ hli, nbs_two, if_pos rfl]
          split <;> simp) (fun d hd => by
          show nbF _ d = if d = u then _ else _
          unfold nbF
          rw [take_succ hli, nbs_two, if_neg hd]
          split <;> simp)
        exact ⟨_, _, rfl, (e.mut (t.new _ (List.mem_of_getElem? hru))).mut (t.new _ (List.mem_of_getElem? hrw)), t3⟩
  · rintro σ G ⟨_, _, rfl, e, t⟩
    have hlen : (las.map V.ref).length = links.length := by rw [List.length_map, hp.length]
    rw [hlen, List.take_length] at t
    have hr := TblF.rows (f := nbs links) t
    dsimp only [tSeq, tAsg, gName, tRet]
    refine lc_rows (K := K) srtd te_srt ((List.range n).map (nbs links)) (by simp; omega) (by show 6 < 7; decide) (fun R h' => ⟨_, rfl, h' l G (Ex.refl _) hr⟩) fun D G' out hD e' ho hs => ?_
    exact k D G' out (fresh_back e hD) (e.trans e') ho (near_of hs)
theorem rd_l_near : Good (sp_l_near K C) P_l_near N_l_near (t_l_near K C) := by
  intro vs H Q E h
  obtain ⟨a, n, links, rfl, hL, hlt, hn, hll, k⟩ := h
  refine ⟨rfl, ?_⟩
  dsimp only [t_l_near, tSeq, tAsg, gName, tRet]
  refine lc_empties n (by omega) (fun R h' => ⟨_, rfl, h' H (Ex.refl _)⟩) fun l G ads hl e t => ?_
  obtain ⟨las, ha, hp⟩ := hL
  refine ⟨_, rfl, a, rfl, ⟨_, SqL.of (e _ _ ha)⟩, for_list (K := K) (a := a) (xs := las.map V.ref) (fun i σ G => ∃ u3, σ = [some (nV n), some (.ref a), some (.ref l), u3, none, none] ∧ Ex H G ∧ TblF H n (nbF (links.take i)) l ads G)
    ⟨none, rfl, e, t⟩ (fun i σ G _ ⟨_, _, e, _⟩ => SqL.of (e _ _ ha)) ?_ ?_⟩
  · rintro i v σ G hi ⟨_, rfl, e, t⟩
    obtain ⟨p, hpi, rfl⟩ := map_at hi
    obtain ⟨⟨u, w⟩, hli, hP⟩ := Paired.atL hp hpi
    have hP : H p = some (.tup [nV u, nV w]) := hP
    obtain ⟨hu, hw⟩ := hlt _ (List.mem_of_getElem? hli)
    have hu : u < n := hu
    have hw : w < n := hw
    have hcnt : ∀ c, (nbF (links.take i) c).length ≤ 2 * links.length := fun c => by
      have h1 := nbs_le c (links.take i)
      have h2 := List.length_take_le' i links
      show ((nbs (links.take i) c).map nV).length ≤ _
      rw [List.length_map]; omega
    obtain ⟨ru, hru⟩ : ∃ r, ads[u]? = some r := ⟨_, List.getElem?_eq_getElem (by rw [t.len]; exact hu)⟩
    obtain ⟨rw', hrw⟩ : ∃ r, ads[w]? = some r := ⟨_, List.getElem?_eq_getElem (by rw [t.len]; exact hw)⟩
    have hPT : SqT K G p [nV u, nV w] := SqT.of (e _ _ hP)
    have e1 : Ex H (upd G ru (.lst (nbF (links.take i) u ++ [nV w]))) := e.mut (t.new _ (List.mem_of_getElem? hru))
    have hPT2 : SqT K (upd G ru (.lst (nbF (links.take i) u ++ [nV w]))) p [nV u, nV w] := SqT.of (e1 _ _ hP)
    refine ⟨_, rfl, _, rfl, p, _, _, _, rfl, rfl, hPT, (show _ = some (nV u) from rfl), l, _, _, _, rfl, rfl, SqL.of t.at_l, at_ref hru, .inl ⟨rfl, _, SqL.of (t.row u ru hru)⟩, _, rfl, p, _, _, _, rfl, rfl, hPT, (show _ = some (nV w) from rfl), ru, _, _, rfl, rfl, t.row u ru hru, ?_, ?_⟩
    · exact small' (by have := hcnt u; omega : _ < 2001)
    · have t2 := t.app hru (fun c => if c = u then nbF (links.take i) u ++ [nV w] else nbF (links.take i) c) _ (by rw [if_pos rfl]) fun d hd => if_neg hd
      refine ⟨_, rfl, _, rfl, p, _, _, _, rfl, rfl, hPT2, (show _ = some (nV w) from rfl), l, _, _, _, rfl, rfl, SqL.of t2.at_l, at_ref hrw, .inl ⟨rfl, _, SqL.of (t2.row w rw' hrw)⟩, _, rfl, p, _, _, _, rfl, rfl, hPT2, (show _ = some (nV u) from rfl), rw', _, _, rfl, rfl, t2.row w rw' hrw, ?_, ?_⟩
      · refine small' (m := 2002) ?_
        have h1 := hcnt u
        have h2 := hcnt w
        split
        · rw [List.length_append, List.length_singleton]; omega
        · omega
      · have t3 := t2.app hrw (nbF (links.take (i + 1))) ((if w = u then nbF (links.take i) u ++ [nV w] else nbF (links.take i) w) ++ [nV u]) (by
          unfold nbF
          rw [take_succ hli, nbs_two, if_pos rfl]
          split <;> simp) (fun d hd => by
          show nbF _ d = if d = u then _ else _
          unfold nbF
          rw [take_succ hli, nbs_two, if_neg hd]
          split <;> simp)
        exact ⟨_, rfl, e1.mut (t.new _ (List.mem_of_getElem? hrw)), t3⟩
  · rintro σ G ⟨_, rfl, e, t⟩
    have hlen : (las.map V.ref).length = links.length := by rw [List.length_map, hp.length]
    rw [hlen, List.take_length] at t
    have hr := TblF.rows (f := nbs links) t
    dsimp only [tSeq, tAsg, gName, tRet]
    refine lc_rows (K := K) srtd te_srt ((List.range n).map (nbs links)) (by simp; omega) (by show 5 < 6; decide) (fun R h' => ⟨_, rfl, h' l G (Ex.refl _) hr⟩) fun D G' out hD e' ho hs => ?_
    exact k D G' out (fresh_back e hD) (e.trans e') ho (near_of hs)
end
end Bw
/-! readings: pieces -/
namespace Bw
open PySem PySem.Spec PyProof.Rows L2 Evl Bb
section
variable {K : PySem.W.Frag} {C : Addr} {H G G' : Hp}
theorem Dp.ints : ∀ {xs : List Int}, DpAll K H (xs.map V.int) (xs.map PyData.int)
  | [] => .nil
  | x :: r => .cons (.int x) Dp.ints
theorem Dp.nats {a : Addr} {xs : List Nat} (h : LN H a xs) : Dp K H (.ref a) (.list ((List.map (fun x : Nat => (x : Int)) xs).map PyData.int)) :=
  .lst (SqL.of (by rw [← natI]; exact h)) (Dp.ints)
theorem eqv_nil (ds : List PyData) : PyData.eqv (.list ds) (.list []) = decide (ds = []) := by
  cases ds <;> simp [PyData.eqv, PyData.eqvAll]
theorem shaped_nil : SeqAt.shaped (.list []) = true := PySem.W.shaped_ints []
theorem map_nil' {α β : Type} {f : α → β} {l : List α} : decide (l.map f = []) = decide (l = []) := by cases l <;> simp
theorem neNil {a b : Addr} {xs : List Nat} {Q : VK} (h : LN H a xs) (hb : H b = some (.lst [])) (q : Q (.bl (!decide (xs = []))) H) : rNeD K (.ref a) (.ref b) H Q := by
  refine ⟨_, _, Dp.nats h, .lst (SqL.of hb) .nil, PySem.W.shaped_ints _, shaped_nil, ?_⟩
  rw [eqv_nil, map_nil', map_nil']; exact q
theorem eqNil {a b : Addr} {xs : List Nat} {Q : VK} (h : LN H a xs) (hb : H b = some (.lst [])) (q : Q (.bl (decide (xs = []))) H) : rEqD K (.ref a) (.ref b) H Q := by
  refine ⟨_, _, Dp.nats h, .lst (SqL.of hb) .nil, PySem.W.shaped_ints _, shaped_nil, ?_⟩
  rw [eqv_nil, map_nil', map_nil']; exact q
/-- all stays but at ds -/
def Kp (ds : List Addr) (G G' : Hp) : Prop := ∀ b o, G b = some o → b ∉ ds → G' b = some o
theorem Kp.refl (ds : List Addr) (G : Hp) : Kp ds G G := fun _ _ h _ => h
theorem Kp.trans {ds : List Addr} {G1 G2 G3 : Hp} (h1 : Kp ds G1 G2) (h2 : Kp ds G2 G3) : Kp ds G1 G3 := fun b o h n => h2 b o (h1 b o h n) n
theorem Kp.weak {ds es : List Addr} {G1 G2 : Hp} (h1 : Kp ds G1 G2) (s : ∀ x ∈ ds, x ∈ es) : Kp es G1 G2 := fun b o h n => h1 b o h fun z => n (s b z)
theorem Kp.of {ds : List Addr} {G1 G2 : Hp} (e : Ex G1 G2) : Kp ds G1 G2 := fun b o h _ => e b o h
theorem Kp.mut {ds : List Addr} {G1 G2 : Hp} {a : Addr} {o : HO} (h1 : Kp ds G1 G2) (ha : a ∈ ds) : Kp ds G1 (upd G2 a o) := fun b p h n => by
  rw [upd_ne (fun z : b = a => n (by rw [z]; exact ha))]; exact h1 b p h n
theorem Kp.fresh {ds : List Addr} {G1 G2 : Hp} {a : Addr} {o : HO} (h1 : Kp ds G1 G2) (ha : G1 a = none) : Kp ds G1 (upd G2 a o) := fun b p h n => by
  rw [upd_ne (fun z : b = a => by rw [z, ha] at h; cases h)]; exact h1 b p h n
theorem Kp.ex {ds : List Addr} {G1 G2 : Hp} (h1 : Kp ds G1 G2) (e : Ex H G1) (hd : ∀ d ∈ ds, H d = none) : Ex H G2 := fun b o h => h1 b o (e b o h) fun z => by rw [hd b z] at h; cases h
/-- a list of lists; the entries are not among ds -/
def LLo (ds : List Addr) (H : Hp) (a : Addr) (rows : List (List Nat)) : Prop := ∃ ads : List Addr, H a = some (.lst (ads.map V.ref)) ∧ Paired (fun p r => LN H p r ∧ p ∉ ds) ads rows
theorem LLo.toLL {ds : List Addr} {a : Addr} {rows : List (List Nat)} (h : LLo ds H a rows) : LLN H a rows := by
  obtain ⟨ads, h1, h2⟩ := h
  exact ⟨ads, h1, Paired.mono (fun _ _ z => z.1) h2⟩
theorem LLo.kp {ds : List Addr} {a : Addr} {rows : List (List Nat)} (h : LLo ds G a rows) (k : Kp ds G G') (e : G' a = G a) : LLo ds G' a rows := by
  obtain ⟨ads, h1, h2⟩ := h
  exact ⟨ads, by rw [e]; exact h1, Paired.mono (fun p r z => ⟨k _ _ z.1 z.2, z.2⟩) h2⟩
/-- a row more -/
theorem LLo.app {ds : List Addr} {a p : Addr} {rows : List (List Nat)} {r : List Nat} {ads : List Addr} (ha : a ∈ ds) (h2 : Paired (fun p r => LN G p r ∧ p ∉ ds) ads rows) (hp : LN G p r) (hn : p ∉ ds) : LLo ds (upd G a (.lst (ads.map V.ref ++ [.ref p]))) a (rows ++ [r]) := by
  have k : Kp ds G (upd G a (.lst (ads.map V.ref ++ [.ref p]))) := (Kp.refl ds G).mut ha
  refine ⟨ads ++ [p], by rw [upd_same, List.map_append]; rfl, Paired.snoc (Paired.mono (fun p r z => ⟨k _ _ z.1 z.2, z.2⟩) h2) ⟨k _ _ hp hn, hn⟩⟩
theorem cut1 (xs : List V) : cutV xs (some 1) none = xs.drop 1 := by
  unfold cutV
  have e1 : HT.sIx xs.length 0 (some 1) = min 1 xs.length := HT.sIx_nat _ _ 1
  rw [e1, HT.sIx_none]
  rw [List.take_of_length_le (by rw [List.length_drop]; omega)]
  rcases Nat.lt_or_ge xs.length 1 with h | h
  · have : xs = [] := List.eq_nil_of_length_eq_zero (by omega)
    subst this; rfl
  · rw [Nat.min_eq_left h]
/-- [c for c in xs if p(c)], cells -/
theorem lc_cells {tl : TE} {j : Nat} {t : TT} {σ : L2.St} {Q : VK} (xs : List Nat) (p : Nat → Bool) (hs : xs.length ≤ 10000) (hj : j < σ.length) (src : ∀ R : V → Hp → Prop, (∀ (a : Addr) (H1 : Hp), Ex H H1 → LN H1 a xs → R (.ref a) H1) → tl σ H R)
    (ht : ∀ (x : Nat) (G : Hp) (R : Bool → Hp → Prop), x ∈ xs → Ex H G → (∀ G', Ex G G' → R (p x) G') → t ((wipe σ [j]).set j (some (nV x))) G R)
    (k : ∀ (D : Addr) (G : Hp), H D = none → Ex H G → LN G D (xs.filter p) → Q (.ref D) G) : tLc (iList K tl) (gName j) t (tVar j) [j] σ H Q := by
  refine lc_over (K := K) xs nV p (fun x _ v => v = nV x) (fun _ _ _ _ _ h => h) hs src ht (fun x G R _ _ e h' => ?_) (fun D G vs hD e hv hp => ?_)
  · have hg : ((wipe σ [j]).set j (some (nV x)))[j]? = some (some (nV x)) := List.getElem?_set_self (by rw [wipe_length]; exact hj)
    exact ⟨_, hg, h' _ G (Ex.refl _) fun _ _ _ => rfl⟩
  · have := paired_map hp
    subst this
    exact k D G hD e hv
theorem rd_l_pieces : Good (sp_l_pieces K C) P_l_pieces N_l_pieces (t_l_pieces K C) := by
  intro vs H Q E h
  obtain ⟨a, b, n, S, near, rfl, hS, hB, T, hSn, hSlt, hn, k⟩ := h
  refine ⟨rfl, ?_⟩
  have hSl : S.length ≤ n := nodup_le hSn hSlt
  refine ⟨_, rfl, ?_⟩
  dsimp only [tNil]
  refine srtI hS fun sl ys hsl hperm hsrt => ?_
  have e1 : Ex H (upd H sl (.lst (ys.map nV))) := Ex.new hsl
  refine ⟨by show 0 ≤ sizeLine; decide, fun q hq => ?_⟩
  have e2 := e1.trans (Ex.new (o := .lst []) hq)
  have nsq : sl ≠ q := ne_of_none (upd_same : upd H sl (.lst (ys.map nV)) sl = _) hq
  have hqH : H q = none := fresh_back e1 hq
  -- the outer loop
  refine ⟨fun m σ G => ∃ (L : Addr) (left : List Nat) (ps : List (List Nat)) (u4 u5 u6 : Option V), m = left.length ∧ σ = [some (.ref b), some (.ref a), some (.ref L), some (.ref q), u4, u5, u6, none] ∧ Ex H G ∧ LN G L left ∧ L ≠ q ∧ left.Nodup ∧ left.length ≤ n ∧ LLo [q] G q ps ∧ ps.length + left.length ≤ n ∧ Seen near S (· ∈ left) ps,
    ⟨_, sl, ys, [], none, none, none, rfl, rfl, e2, (LN.ex (Ex.new hq) upd_same), nsq, hperm.nodup_iff.mpr hSn, by rw [hperm.length_eq]; exact hSl, ⟨[], upd_same, .nil⟩, by rw [hperm.length_eq]; simpa using hSl, Seen.start fun x => hperm.mem_iff⟩, ?_⟩
  rintro m σ G ⟨L, left, ps, u4, u5, u6, rfl, rfl, e, hL, nLq, hnd, hll, hps, hpl, hseen⟩
  refine ⟨_, rfl, by show 0 ≤ sizeLine; decide, fun e0 he0 => ?_⟩
  have ea := e.trans (Ex.new (o := .lst []) he0)
  have hqG : G q ≠ none := by obtain ⟨_, h1, _⟩ := hps; rw [h1]; simp
  have nqe : q ≠ e0 := fun z => hqG (by rw [z]; exact he0)
  have hL' : LN (upd G e0 (.lst [])) L left := hL.ex (Ex.new he0)
  have hps' : LLo [q] (upd G e0 (.lst [])) q ps := hps.kp (Kp.of (Ex.new he0)) (upd_ne nqe)
  refine neNil hL' upd_same ⟨_, rfl, ?_⟩
  cases left with
  | nil =>
    have : decide (([] : List Nat) = []) = true := rfl
    rw [this]
    refine iteF ⟨_, rfl, ?_⟩
    exact k q _ ps hqH ea hps'.toLL (hseen.done fun x hx => by cases hx)
  | cons st rest =>
    have : decide ((st :: rest : List Nat) = []) = false := rfl
    rw [this]
    refine iteT ⟨fun σ G => ∃ (L : Addr) (left : List Nat) (ps : List (List Nat)) (u4 u5 u6 : Option V), left.length ≤ rest.length ∧ σ = [some (.ref b), some (.ref a), some (.ref L), some (.ref q), u4, u5, u6, none] ∧ Ex H G ∧ LN G L left ∧ L ≠ q ∧ left.Nodup ∧ left.length ≤ n ∧ LLo [q] G q ps ∧ ps.length + left.length ≤ n ∧ Seen near S (· ∈ left) ps, ?_, ?_⟩
    · rintro σ' G' ⟨L', left', ps', v4, v5, v6, h0, h1⟩
      exact ⟨left'.length, by rw [List.length_cons]; omega, L', left', ps', v4, v5, v6, rfl, h1⟩
    · have hn1 : rest.Nodup := (List.nodup_cons.mp hnd).2
      have hn0 : st ∉ rest := (List.nodup_cons.mp hnd).1
      rw [List.length_cons] at hll hpl
      refine ⟨_, rfl, L, _, _, nV st, rfl, rfl, SqL.of hL', (show _ = _ from at_nat (xs := st :: rest) (i := 0) rfl), by show 1 ≤ sizeLine; decide, fun pc hpc => ?_⟩
      have eb := ea.trans (Ex.new (o := .lst [nV st]) hpc)
      have hL2 := hL'.ex (Ex.new (o := .lst [nV st]) hpc)
      have nqp : q ≠ pc := by
        obtain ⟨_, h1, _⟩ := hps'
        exact ne_of_none h1 hpc
      refine ⟨_, rfl, _, rfl, L, _, rfl, SqL.of hL2, fun L2 hL2n => ?_⟩
      rw [cut1]
      have ec := eb.trans (Ex.new (o := .lst (((st :: rest).map nV).drop 1)) hL2n)
      have hps2 : LLo [q] (upd (upd (upd G e0 (.lst [])) pc (.lst [nV st])) L2 (.lst (((st :: rest).map nV).drop 1))) q ps := by
        have h1 : LLo [q] (upd (upd G e0 (.lst [])) pc (.lst [nV st])) q ps := hps'.kp (Kp.of (Ex.new hpc)) (upd_ne nqp)
        refine h1.kp (Kp.of (Ex.new hL2n)) (upd_ne ?_)
        obtain ⟨_, h3, _⟩ := h1
        exact ne_of_none h3 hL2n
      have nL2q : L2 ≠ q := by
        intro z
        obtain ⟨_, h3, _⟩ := hps'
        have := Ex.new (o := .lst [nV st]) hpc _ _ h3
        rw [← z, hL2n] at this; cases this
      have hpc2 : LN (upd (upd (upd G e0 (.lst [])) pc (.lst [nV st])) L2 (.lst (((st :: rest).map nV).drop 1))) pc [st] := LN.ex (Ex.new hL2n) upd_same
      have hL3 : LN (upd (upd (upd G e0 (.lst [])) pc (.lst [nV st])) L2 (.lst (((st :: rest).map nV).drop 1))) L2 rest := upd_same
      generalize (upd (upd (upd G e0 (.lst [])) pc (.lst [nV st])) L2 (.lst (((st :: rest).map nV).drop 1))) = G1 at *
      refine ⟨fun m σ G => ∃ (L P : Addr) (left piece : List Nat) (at_ : Nat) (u6 : Option V), m = n + 1 - at_ ∧ σ = [some (.ref b), some (.ref a), some (.ref L), some (.ref q), some (.ref P), some (nV at_), u6, none] ∧ Ex G1 G ∧ LN G L left ∧ L ≠ q ∧ LN G P piece ∧ left.Nodup ∧ left.length ≤ rest.length ∧ at_ ≤ piece.length ∧ Grow near S (· ∈ st :: rest) st (· ∈ left) piece at_,
        ⟨_, L2, pc, rest, [st], 0, u6, rfl, rfl, Ex.refl _, hL3, nL2q, hpc2, hn1, Nat.le_refl _, Nat.zero_le _, Grow.init hseen (by simp) fun x => ?_⟩, ?_⟩
      · rw [List.mem_cons]
        constructor
        · exact fun z => ⟨.inr z, fun q => hn0 (q ▸ z)⟩
        · exact fun z => z.1.resolve_left z.2
      rintro m σ G ⟨L, P, left, piece, at_, u6, rfl, rfl, e, hL, nL, hP, hnd, hll2, hat, hg⟩
      have hpn : piece.length ≤ n := hg.len T hSlt
      have eG := ec.trans e
      refine ⟨_, rfl, _, rfl, P, _, rfl, .inl (SqL.of hP), _, _, rfl, rfl, _, rfl, ?_⟩
      refine ite2 (fun hlt => ?_) (fun hge => ?_)
      · have hlt : at_ < piece.length := by
          have := of_decide_eq_true hlt
          rw [List.length_map] at this
          omega
        obtain ⟨x, hx⟩ : ∃ x, piece[at_]? = some x := ⟨_, List.getElem?_eq_getElem hlt⟩
        have hxn : x < near.length := by rw [T.len]; exact hSlt x (hg.mem x (List.mem_of_getElem? hx)).2.fin
        obtain ⟨bads, hb1, hb2⟩ := hB.ex eG
        obtain ⟨ra, hra, hrow⟩ := Paired.atI hb2 (at_nb hxn)
        have hrl : (nb near x).length ≤ n := nodup_le (T.nodup x) (T.lt x)
        refine ⟨fun σ G => ∃ (L P : Addr) (left piece : List Nat) (u6 : Option V), σ = [some (.ref b), some (.ref a), some (.ref L), some (.ref q), some (.ref P), some (nV (at_ + 1)), u6, none] ∧ Ex G1 G ∧ LN G L left ∧ L ≠ q ∧ LN G P piece ∧ left.Nodup ∧ left.length ≤ rest.length ∧ at_ + 1 ≤ piece.length ∧ Grow near S (· ∈ st :: rest) st (· ∈ left) piece (at_ + 1), ?_, ?_⟩
        · rintro σ' G' ⟨L', P', left', piece', v6, h1⟩
          exact ⟨n + 1 - (at_ + 1), by omega, L', P', left', piece', at_ + 1, v6, rfl, h1⟩
        dsimp only [tSeq, tAsg, gName]
        refine lc_cells (nb near x) (fun c => decide (c ∈ left)) (by omega) (by show 7 < 8; decide) (fun R h' => ⟨_, rfl, _, rfl, _, rfl, P, _, _, _, rfl, rfl, SqL.of hP, at_nat hx, b, _, _, _, rfl, rfl, SqL.of hb1, at_ref hra, h' ra G (Ex.refl _) hrow⟩) (fun c G' R hc e' h' => ?_) fun D G2 hD e2 hmore => ?_
        · refine ⟨_, rfl, _, rfl, L, _, rfl, .inl (SqL.of (hL.ex e')), rfl, flat_nV _, _, rfl, ?_⟩
          rw [inV_nV]
          exact h' G' (Ex.refl _)
        have hP2 := hP.ex e2
        have hml : ((nb near x).filter fun c => decide (c ∈ left)).length ≤ n := Nat.le_trans (List.length_filter_le _ _) hrl
        refine ⟨_, rfl, _, rfl, P, D, _, _, rfl, rfl, hP2, hmore, small (by rw [List.length_map, List.length_map]; omega : _ ≤ 1000), fun P3 hP3 => ?_⟩
        have e3 := e2.trans (Ex.new (o := .lst (piece.map nV ++ ((nb near x).filter fun c => decide (c ∈ left)).map nV)) hP3)
        have hP3v : LN (upd G2 P3 (.lst (piece.map nV ++ ((nb near x).filter fun c => decide (c ∈ left)).map nV))) P3 (piece ++ (nb near x).filter fun c => decide (c ∈ left)) := by
          show upd _ _ _ _ = _
          rw [upd_same, List.map_append]
        have hmore3 := hmore.ex (Ex.new (o := .lst (piece.map nV ++ ((nb near x).filter fun c => decide (c ∈ left)).map nV)) hP3)
        generalize upd G2 P3 (.lst (piece.map nV ++ ((nb near x).filter fun c => decide (c ∈ left)).map nV)) = G3 at *
        refine lc_cells left (fun c => !decide (c ∈ (nb near x).filter fun c => decide (c ∈ left))) (by omega) (by show 7 < 8; decide) (fun R h' => ⟨_, rfl, h' L G3 (Ex.refl _) (hL.ex e3)⟩) (fun c G' R hc e' h' => ?_) fun D2 G4 hD2 e4 hleft => ?_
        · refine ⟨_, rfl, _, rfl, D, _, rfl, .inl (SqL.of (hmore3.ex e')), rfl, flat_nV _, _, rfl, ?_⟩
          rw [inV_nV]
          exact h' G' (Ex.refl _)
        refine ⟨_, rfl, _, _, rfl, rfl, D2, P3, _, _, _, rfl, (e.trans e3).trans e4, hleft, ?_, hP3v.ex e4, hnd.filter _, Nat.le_trans (List.length_filter_le _ _) hll2, by rw [List.length_append]; omega, ?_⟩
        · intro z
          obtain ⟨_, h3, _⟩ := hps2
          have := (e.trans e3) _ _ h3
          rw [← z, hD2] at this; cases this
        · refine hg.step hseen hx ((T.nodup x).filter _) (fun c => ?_) fun c => ?_
          · rw [List.mem_filter, decide_eq_true_iff]
          · rw [List.mem_filter, Bool.not_eq_true', decide_eq_false_iff_not]
      · have hge : at_ = piece.length := by
          have : ¬ (at_ : Int) < ((piece.map nV).length : Int) := fun z => hge (decide_eq_true z)
          rw [List.length_map] at this
          omega
        obtain ⟨pads, hq1, hq2⟩ := hps2.kp (Kp.of e) (by
          obtain ⟨_, h3, _⟩ := hps2
          rw [h3, e _ _ h3])
        refine ⟨_, rfl, .inl ⟨rfl, _, SqL.of hq1⟩, ?_⟩
        refine ⟨_, rfl, ?_⟩
        dsimp only [tNil]
        refine srtI hP fun sp ys hsp hyp hys => ?_
        have nqs : q ≠ sp := ne_of_none hq1 hsp
        have hq3 : upd G sp (.lst (ys.map nV)) q = some (.lst (pads.map V.ref)) := by rw [upd_ne nqs]; exact hq1
        have hfin := Grow.fin T hseen hg hge hyp hys
        have hplen : pads.length = ps.length := hq2.length
        refine ⟨q, _, _, rfl, rfl, hq3, small' (by rw [List.length_map]; omega : _ < 1001), ?_⟩
        refine ⟨L, left, ps ++ [ys], _, _, _, hll2, rfl, (eG.trans (Ex.new hsp)).mut hqH, ?_, nL, hnd, by omega, ?_, by rw [List.length_append, List.length_singleton]; omega, hfin⟩
        · show upd _ q _ L = _
          rw [upd_ne nL]
          exact Ex.new hsp _ _ hL
        · exact LLo.app (by simp) (Paired.mono (fun p r z => ⟨LN.ex (Ex.new hsp) z.1, z.2⟩) hq2) upd_same (by simpa using fun z => nqs z.symm)
end
end Bw
/-! readings: pieces_of -/
namespace Bw
open PySem PySem.Spec PyProof.Rows L2 Evl Bb
section
variable {K : PySem.W.Frag} {C : Addr} {H G G' : Hp}
theorem DSet.kp {ds : List Addr} {d : Addr} {S : Nat → Prop} {m : Nat} (h : DSet G d S m) (k : Kp ds G G') (hd : d ∉ ds) : DSet G' d S m := by
  obtain ⟨kvs, h1, h2, h3⟩ := h
  exact ⟨kvs, k _ _ h1 hd, h2, h3⟩
theorem DSet.same {d : Addr} {S : Nat → Prop} {m : Nat} (h : DSet G d S m) (e : G' d = G d) : DSet G' d S m := by
  obtain ⟨kvs, h1, h2, h3⟩ := h
  exact ⟨kvs, by rw [e]; exact h1, h2, h3⟩
theorem DSet.some {d : Addr} {S : Nat → Prop} {m : Nat} (h : DSet G d S m) : ∃ o, G d = some o := by
  obtain ⟨kvs, h1, h2, h3⟩ := h
  exact ⟨_, h1⟩
open Classical in
theorem rd_pieces_of : Good (sp_pieces_of K C) P_pieces_of N_pieces_of (t_pieces_of K C) := by
  intro vs H Q E h
  obtain ⟨a, b, n, S, near, rfl, hS, hB, T, hSn, hSlt, hn, k⟩ := h
  refine ⟨rfl, ?_⟩
  have hSl : S.length ≤ n := nodup_le hSn hSlt
  dsimp only [t_pieces_of, tSeq, tAsg, gName, tRet]
  refine dc_set S (by omega) (by show 3 < 9; decide) (fun R h' => ⟨_, rfl, h' a H (Ex.refl _) hS⟩) fun d1 H1 hd1 e1 hin => ?_
  intro d2 hd2
  refine ⟨by show 0 ≤ sizeLine; decide, fun q hq => ?_⟩
  have e2 : Ex H1 (upd H1 d2 (.dK [])) := Ex.new hd2
  have e3 := e2.trans (Ex.new (o := .lst []) hq)
  have hd2H : H d2 = none := fresh_back e1 hd2
  have hqH : H q = none := fresh_back (e1.trans e2) hq
  have n12 : d1 ≠ d2 := by
    obtain ⟨o, ho⟩ := hin.some
    exact ne_of_none ho hd2
  have n1q : d1 ≠ q := by
    obtain ⟨o, ho⟩ := hin.some
    exact ne_of_none (e2 _ _ ho) hq
  have n2q : d2 ≠ q := ne_of_none (upd_same : upd H1 d2 (.dK []) d2 = _) hq
  have hseen0 : DSet (upd (upd H1 d2 (.dK [])) q (.lst [])) d2 (fun _ => False) 0 := DSet.nil (by rw [upd_ne n2q]; exact upd_same)
  have hq0 : (upd (upd H1 d2 (.dK [])) q (.lst [])) q = some (.lst []) := upd_same
  have hin0 := hin.ex e3
  have e13 := e1.trans e3
  generalize (upd (upd H1 d2 (.dK [])) q (.lst [])) = H2 at *
  refine ⟨_, rfl, ?_⟩
  dsimp only [tNil]
  refine srtI (hS.ex e13) fun sl ys hsl hperm hsrt => ⟨sl, rfl, ⟨_, SqL.of upd_same⟩, ?_⟩
  have e4 : Ex H2 (upd H2 sl (.lst (ys.map nV))) := Ex.new hsl
  have hsl0 : LN (upd H2 sl (.lst (ys.map nV))) sl ys := upd_same
  have nsq : sl ≠ q := fun z => by rw [← z, hsl] at hq0; cases hq0
  have ns2 : sl ≠ d2 := fun z => by
    obtain ⟨o, ho⟩ := hseen0.some
    rw [← z, hsl] at ho; cases ho
  have hin1 := hin0.ex e4
  have hseen1 := hseen0.ex e4
  have hq1 := e4 _ _ hq0
  have e14 := e13.trans e4
  generalize (upd H2 sl (.lst (ys.map nV))) = H3 at *
  have hyl : ys.length ≤ n := by rw [hperm.length_eq]; exact hSl
  refine for_list (K := K) (D := { nx := tRet (tVar 5) { nx := fun x H' => Q V.non H', rt := Q }, rt := Q }) (a := sl) (xs := ys.map nV) (fun i σ G => ∃ (left : Nat → Prop) (ps : List (List Nat)) (m : Nat) (u3 u6 u7 u8 : Option V), σ = [some (.ref a), some (.ref b), some (.ref d1), u3, some (.ref d2), some (.ref q), u6, u7, u8] ∧ Kp [d2, q] H3 G ∧ LLo [d2, q] G q ps ∧ ps.length ≤ i ∧ m ≤ 300 * i ∧ DSet G d2 (fun x => x ∈ S ∧ ¬ left x) m ∧ Seen near S left ps ∧ ∀ x ∈ ys.take i, ¬ left x)
    ⟨(· ∈ S), [], 0, none, none, none, none, rfl, Kp.refl _ _, ⟨[], hq1, .nil⟩, Nat.le_refl _, Nat.le_refl _, hseen1.congr (Nat.le_refl _) fun x => ⟨fun z => z.elim, fun z => z.2 z.1⟩, Seen.start fun x => Iff.rfl, fun x hx => by simp at hx⟩
    (fun i σ G _ ⟨_, _, _, _, _, _, _, _, kp, _⟩ => SqL.of (kp _ _ hsl0 (by simp [nsq, ns2]))) ?_ ?_
  · rintro i v σ G hi ⟨left, ps, m, u3, u6, u7, u8, rfl, kp, hps, hpl, hm, hsn, hseen, hdone⟩
    obtain ⟨st, hst, rfl⟩ := map_at hi
    have hil := ixlt hst
    have hstS : st ∈ S := hperm.mem_iff.mp (List.mem_of_getElem? hst)
    obtain ⟨o, ho, ho2⟩ := hsn.get st
    refine ⟨_, rfl, _, rfl, d2, o, rfl, ho, _, rfl, ?_⟩
    refine ite2 (fun hnot => ?_) (fun hyes => ?_)
    · have hleft : left st := by
        have h1 : ¬ o.isSome = true := by simpa using hnot
        rw [ho2] at h1
        exact Classical.byContradiction fun z => h1 ⟨hstS, z⟩
      obtain ⟨kvs, hput, hsn1⟩ := hsn.put (by omega) st (.bl true)
      refine ⟨_, rfl, _, rfl, d2, _, rfl, hput, ?_⟩
      have hqG : ∃ o, G q = some o := by
        obtain ⟨_, h1, _⟩ := hps
        exact ⟨_, h1⟩
      have kp1 : Kp [d2, q] H3 (upd G d2 (.dK kvs)) := kp.mut (by simp)
      have hps1 : LLo [d2, q] (upd G d2 (.dK kvs)) q ps := hps.kp ((Kp.refl _ _).mut (by simp)) (upd_ne fun z => n2q z.symm)
      generalize upd G d2 (.dK kvs) = G1 at *
      refine ⟨_, rfl, by show 1 ≤ sizeLine; decide, fun pl hpl0 => ?_⟩
      have np2 : pl ≠ d2 := fun z => by
        obtain ⟨o, ho⟩ := hsn1.some
        rw [← z, hpl0] at ho; cases ho
      have npq : pl ≠ q := fun z => by
        obtain ⟨_, h1, _⟩ := hps1
        rw [← z, hpl0] at h1; cases h1
      have hpl3 : H3 pl = none := by
        cases e : H3 pl with
        | none => rfl
        | some o =>
          have := kp1 _ _ e (by simp [np2, npq])
          rw [hpl0] at this; cases this
      have eP : Ex G1 (upd G1 pl (.lst [nV st])) := Ex.new hpl0
      have kp2 : Kp [d2, q] H3 (upd G1 pl (.lst [nV st])) := kp1.fresh hpl3
      have hsn2 := hsn1.ex eP
      have hps2 : LLo [d2, q, pl] (upd G1 pl (.lst [nV st])) q ps := by
        obtain ⟨ads, h1, h2⟩ := hps1
        refine ⟨ads, eP _ _ h1, Paired.mono (fun p r z => ⟨z.1.ex eP, fun w => ?_⟩) h2⟩
        have h3 : p ≠ pl := ne_of_none z.1 hpl0
        simp only [List.mem_cons, List.not_mem_nil, or_false, not_or] at z w
        rcases w with w | w | w
        · exact z.2.1 w
        · exact z.2.2 w
        · exact h3 w
      have hP2 : LN (upd G1 pl (.lst [nV st])) pl [st] := upd_same
      generalize upd G1 pl (.lst [nV st]) = G2 at *
      refine ⟨fun mm σ G => ∃ (left' : Nat → Prop) (piece : List Nat) (at_ m' : Nat) (u3 : Option V), mm = n + 1 - at_ ∧ σ = [some (.ref a), some (.ref b), some (.ref d1), u3, some (.ref d2), some (.ref q), some (nV st), some (.ref pl), some (nV at_)] ∧ Kp [d2, q] H3 G ∧ LLo [d2, q, pl] G q ps ∧ LN G pl piece ∧ m' ≤ m + piece.length ∧ DSet G d2 (fun x => x ∈ S ∧ ¬ left' x) m' ∧ at_ ≤ piece.length ∧ Grow near S left st left' piece at_,
        ⟨_, fun x => left x ∧ x ≠ st, [st], 0, m + 1, u3, rfl, rfl, kp2, hps2, hP2, by simp, hsn2.congr (Nat.le_refl _) fun x => ?_, Nat.zero_le _, Grow.init hseen hleft fun x => Iff.rfl⟩, ?_⟩
      · constructor
        · rintro (rfl | z)
          · exact ⟨hstS, fun z => z.2 rfl⟩
          · exact ⟨z.1, fun y => z.2 y.1⟩
        · rintro ⟨h1, h2⟩
          by_cases e : x = st
          · exact .inl e
          · exact .inr ⟨h1, fun y => h2 ⟨y, e⟩⟩
      rintro mm σ G ⟨left', piece, at_, m', u3, rfl, rfl, kp, hps, hP, hm', hsn, hat, hg⟩
      have hpn : piece.length ≤ n := hg.len T hSlt
      refine ⟨_, rfl, _, rfl, pl, _, rfl, .inl (SqL.of hP), _, _, rfl, rfl, _, rfl, ?_⟩
      refine ite2 (fun hlt => ?_) (fun hge => ?_)
      · have hlt : at_ < piece.length := by
          have := of_decide_eq_true hlt
          rw [List.length_map] at this
          omega
        obtain ⟨x, hx⟩ : ∃ x, piece[at_]? = some x := ⟨_, List.getElem?_eq_getElem hlt⟩
        have hxn : x < near.length := by rw [T.len]; exact hSlt x (hg.mem x (List.mem_of_getElem? hx)).2.fin
        obtain ⟨bads, hb1, hb2⟩ := hB
        obtain ⟨ra, hra, hrow⟩ := Paired.atI hb2 (at_nb hxn)
        have hrl : (nb near x).length ≤ n := nodup_le (T.nodup x) (T.lt x)
        have xk : ∀ {G}, Kp [d2, q] H3 G → Ex H G := fun k => k.ex e14 (by simp [hd2H, hqH])
        refine ⟨fun σ G => ∃ (left' : Nat → Prop) (piece : List Nat) (m' : Nat) (u3 : Option V), σ = [some (.ref a), some (.ref b), some (.ref d1), u3, some (.ref d2), some (.ref q), some (nV st), some (.ref pl), some (nV (at_ + 1))] ∧ Kp [d2, q] H3 G ∧ LLo [d2, q, pl] G q ps ∧ LN G pl piece ∧ m' ≤ m + piece.length ∧ DSet G d2 (fun x => x ∈ S ∧ ¬ left' x) m' ∧ at_ + 1 ≤ piece.length ∧ Grow near S left st left' piece (at_ + 1), ?_, ?_⟩
        · rintro σ' G' ⟨left', piece', m', u3, h1⟩
          exact ⟨n + 1 - (at_ + 1), by omega, left', piece', at_ + 1, m', u3, rfl, h1⟩
        refine ⟨_, rfl, _, rfl, _, rfl, pl, _, _, _, rfl, rfl, SqL.of hP, at_nat hx, b, _, _, _, rfl, rfl, SqL.of (xk kp _ _ hb1), at_ref hra, ra, rfl, ⟨_, SqL.of (xk kp _ _ hrow)⟩, for_list (K := K) (a := ra) (xs := (nb near x).map nV) (fun j σ G => ∃ (found : List Nat) (m' : Nat) (u3 : Option V), found = ((nb near x).take j).filter (fun c => decide (left' c)) ∧ σ = [some (.ref a), some (.ref b), some (.ref d1), u3, some (.ref d2), some (.ref q), some (nV st), some (.ref pl), some (nV at_)] ∧ Kp [d2, q] H3 G ∧ LLo [d2, q, pl] G q ps ∧ LN G pl (piece ++ found) ∧ m' ≤ m + (piece ++ found).length ∧ DSet G d2 (fun x => x ∈ S ∧ ¬ (left' x ∧ x ∉ found)) m')
          ⟨[], m', u3, by simp, rfl, kp, hps, by rw [List.append_nil]; exact hP, by rw [List.append_nil]; exact hm', hsn.congr (Nat.le_refl _) fun x => by simp⟩
          (fun j σ G _ ⟨_, _, _, _, _, kp, _⟩ => SqL.of (xk kp _ _ hrow)) ?_ ?_⟩
        · rintro j v σ G hj ⟨found, m', u3, hfd, rfl, kp, hps, hP, hm', hsn⟩
          obtain ⟨c, hc, rfl⟩ := map_at hj
          have hjl := ixlt hc
          have hfl : found.length ≤ n := by
            rw [hfd]
            exact Nat.le_trans (List.length_filter_le _ _) (Nat.le_trans (List.length_take_le' _ _) hrl)
          have hcf : c ∉ found := fun z => by
            rw [hfd, List.mem_filter] at z
            obtain ⟨i2, h2⟩ := List.getElem?_of_mem z.1
            have h3 : i2 < j := by
              have := ixlt h2
              rw [List.length_take] at this; omega
            rw [List.getElem?_take_of_lt h3] at h2
            have := (List.getElem?_inj (ixlt h2) (T.nodup x)).mp (h2.trans hc.symm)
            omega
          obtain ⟨o1, hg1, hg1'⟩ := (hin1.kp kp (by simp [n12, n1q])).get c
          obtain ⟨o2, hg2, hg2'⟩ := hsn.get c
          refine ⟨_, rfl, _, rfl, d1, o1, rfl, hg1, _, rfl, ?_⟩
          have no : ¬ left' c → ∃ (found' : List Nat) (m'' : Nat) (u3 : Option V), found' = ((nb near x).take (j + 1)).filter (fun c => decide (left' c)) ∧ [some (V.ref a), some (V.ref b), some (V.ref d1), some (nV c), some (V.ref d2), some (V.ref q), some (nV st), some (V.ref pl), some (nV at_)] = [some (.ref a), some (.ref b), some (.ref d1), u3, some (.ref d2), some (.ref q), some (nV st), some (.ref pl), some (nV at_)] ∧ Kp [d2, q] H3 G ∧ LLo [d2, q, pl] G q ps ∧ LN G pl (piece ++ found') ∧ m'' ≤ m + (piece ++ found').length ∧ DSet G d2 (fun x => x ∈ S ∧ ¬ (left' x ∧ x ∉ found')) m'' := fun hn => by
            refine ⟨found, m', some (nV c), ?_, rfl, kp, hps, hP, hm', hsn⟩
            rw [take_succ hc, List.filter_append, hfd, List.filter_cons, if_neg (by simpa using hn), List.filter_nil, List.append_nil]
          refine ite2 (fun h1 => ?_) (fun h1 => ?_)
          · have hcS := hg1'.mp h1
            refine ⟨_, rfl, _, rfl, d2, o2, rfl, hg2, _, rfl, ?_⟩
            refine ite2 (fun h2 => ?_) (fun h2 => ?_)
            · have h3 : ¬ o2.isSome = true := by simpa using h2
              rw [hg2'] at h3
              have hlc : left' c := Classical.byContradiction fun z => h3 ⟨hcS, fun y => z y.1⟩
              have hbig : m' ≤ 100000 := by
                rw [List.length_append] at hm'
                omega
              obtain ⟨kvs, hput, hsn1⟩ := hsn.put hbig c (.bl true)
              refine ⟨_, rfl, _, rfl, d2, _, rfl, hput, ?_⟩
              have hP1 : LN (upd G d2 (.dK kvs)) pl (piece ++ found) := by
                show upd _ _ _ _ = _
                rw [upd_ne np2]; exact hP
              refine ⟨_, rfl, .inl ⟨rfl, _, SqL.of hP1⟩, _, rfl, pl, _, _, rfl, rfl, hP1, small' (by rw [List.length_map, List.length_append]; omega : _ < 1001), ?_⟩
              have kp3 : Kp [d2, q] H3 (upd G d2 (.dK kvs)) := kp.mut (by simp)
              have hfd' : found ++ [c] = ((nb near x).take (j + 1)).filter (fun c => decide (left' c)) := by
                rw [take_succ hc, List.filter_append, hfd, List.filter_cons, if_pos (by simpa using hlc), List.filter_nil]
              refine ⟨found ++ [c], m' + 1, some (nV c), hfd', rfl, kp3.fresh hpl3, hps.kp (((Kp.refl _ _).mut (by simp)).mut (by simp)) ?_, ?_, ?_, (hsn1.same (upd_ne fun z => np2 z.symm)).congr (Nat.le_refl _) fun y => ?_⟩
              · rw [upd_ne (fun z => npq z.symm), upd_ne (fun z => n2q z.symm)]
              · show upd _ _ _ _ = _
                rw [upd_same, ← List.append_assoc, List.map_append (l₂ := [c])]; rfl
              · simp only [List.length_append, List.length_singleton] at hm' ⊢
                omega
              · simp only [List.mem_append, List.mem_singleton, not_or]
                constructor
                · rintro (rfl | ⟨z1, z2⟩)
                  · exact ⟨hcS, fun w => w.2.2 rfl⟩
                  · exact ⟨z1, fun w => z2 ⟨w.1, w.2.1⟩⟩
                · rintro ⟨z1, z2⟩
                  by_cases e : y = c
                  · exact .inl e
                  · exact .inr ⟨z1, fun w => z2 ⟨w.1, w.2, e⟩⟩
            · have h3 : o2.isSome = true := by cases o2 <;> simp at h2 ⊢
              exact no fun z => (hg2'.mp h3).2 ⟨z, hcf⟩
          · refine iteF ?_
            exact no fun z => h1 (hg1'.mpr ((hseen.lf c).mp ((hg.lf c).mp z).1).1)
        · rintro σ G ⟨found, m', u3, hfd, rfl, kp, hps, hP, hm', hsn⟩
          rw [List.length_map, List.take_length] at hfd
          refine ⟨_, rfl, _, _, rfl, rfl, ?_⟩
          refine ⟨fun c => left' c ∧ c ∉ found, piece ++ found, m', u3, rfl, kp, hps, hP, hm', hsn, by rw [List.length_append]; omega, hg.step hseen hx (by rw [hfd]; exact (T.nodup x).filter _) (fun c => ?_) fun c => Iff.rfl⟩
          rw [hfd, List.mem_filter, decide_eq_true_iff]
      · have hge : at_ = piece.length := by
          have : ¬ (at_ : Int) < ((piece.map nV).length : Int) := fun z => hge (decide_eq_true z)
          rw [List.length_map] at this
          omega
        obtain ⟨pads, hq1, hq2⟩ := hps
        refine ⟨_, rfl, .inl ⟨rfl, _, SqL.of hq1⟩, ?_⟩
        refine ⟨_, rfl, ?_⟩
        dsimp only [tNil]
        refine srtI hP fun sp zs hsp hyp hys => ?_
        have eS : Ex G (upd G sp (.lst (zs.map nV))) := Ex.new hsp
        have nqs : q ≠ sp := ne_of_none hq1 hsp
        have n2s : d2 ≠ sp := by
          obtain ⟨o, ho⟩ := hsn.some
          exact ne_of_none ho hsp
        have hfin := Grow.fin T hseen hg hge hyp hys
        have hplen : pads.length = ps.length := hq2.length
        refine ⟨q, _, _, rfl, rfl, eS _ _ hq1, small' (by rw [List.length_map]; omega : _ < 1001), ?_⟩
        refine ⟨left', ps ++ [zs], m', _, _, _, _, rfl, (kp.trans (Kp.of eS)).mut (by simp), ?_, by rw [List.length_append, List.length_singleton]; omega, by omega, (hsn.ex eS).same (upd_ne n2q), hfin, fun x hx => ?_⟩
        · exact LLo.app (by simp) (Paired.mono (fun p r z => ⟨LN.ex eS z.1, fun w => z.2 (by simp only [List.mem_cons, List.not_mem_nil, or_false] at w ⊢; rcases w with w | w <;> simp [w])⟩) hq2) upd_same (by simp [Ne.symm nqs, Ne.symm n2s])
        · rw [take_succ hst] at hx
          rcases List.mem_append.mp hx with hx | hx
          · exact fun z => hdone x hx ((hg.lf x).mp z).1
          · rw [List.mem_singleton.mp hx]
            exact fun z => ((hg.lf st).mp z).2 hg.first
    · have hnl : ¬ left st := by
        have h1 : o.isSome = true := by cases o <;> simp at hyes ⊢
        exact (ho2.mp h1).2
      refine ⟨left, ps, m, u3, some (nV st), u7, u8, rfl, kp, hps, by omega, by omega, hsn, hseen, fun x hx => ?_⟩
      rw [take_succ hst] at hx
      rcases List.mem_append.mp hx with hx | hx
      · exact hdone x hx
      · rw [List.mem_singleton.mp hx]; exact hnl
  · rintro σ G ⟨left, ps, m, _, _, _, _, rfl, kp, hps, hpl, hm, hsn, hseen, hdone⟩
    refine ⟨_, rfl, ?_⟩
    rw [List.length_map, List.take_length] at hdone
    exact k q G ps hqH (kp.ex e14 (by simp [hd2H, hqH])) hps.toLL (hseen.done fun x hx => hdone x (hperm.mem_iff.mpr ((hseen.lf x).mp hx).1) hx)
end
end Bw
/-! readings: cells, draws, orders -/
namespace Bw
open PySem PySem.Spec PyProof.Rows L2 Evl Bb
theorem for_rng {n : Nat} {g : TG} {tb : TS} {D : Ends} {σ : L2.St} {H : Hp} (Pv : Nat → L2.St → Hp → Prop) (h0 : Pv 0 σ H)
    (hs : ∀ i σ H, i < n → Pv i σ H → g (nV i) σ H fun σ2 H2 => tb { D with nx := Pv (i + 1), ct := Pv (i + 1), bk := D.nx } σ2 H2) (hd : ∀ σ H, Pv n σ H → D.nx σ H) :
    ∃ W : Nat → Nat → L2.St → Hp → Prop, (∃ m, W 0 m σ H) ∧ ∀ i m σ H, W i m σ H →
      ((Itr 0 n).stop i H ∧ D.nx σ H) ∨ ((Itr 0 n).go i H ∧ ∃ N : L2.St → Hp → Prop, (∀ σ' H', N σ' H' → ∃ m', m' < m ∧ W (i + 1) m' σ' H') ∧ ∀ x H', (Itr 0 n).yld i H x H' → g x σ H' fun σ2 H2 => tb { D with nx := N, ct := N, bk := D.nx } σ2 H2) :=
  for_range (lo := 0) (n := n) Pv h0 (fun i σ H hi p => by rw [Int.zero_add]; exact hs i σ H hi p) hd
section
variable {K : PySem.W.Frag} {C : Addr} {H G G' : Hp}
theorem rd_l_cell : Good (sp_l_cell K C) P_l_cell N_l_cell (t_l_cell K C) := by
  intro vs H Q E h
  obtain ⟨a, ns, k, rfl, hs, hlen, kk⟩ := h
  refine ⟨rfl, ?_⟩
  refine ⟨_, rfl, _, rfl, a, _, rfl, .inl hs, _, _, rfl, rfl, _, rfl, ?_⟩
  refine ite2 (fun hlt => ?_) (fun hge => ?_)
  · have hlt : k < ns.length := by
      have := of_decide_eq_true hlt
      rw [List.length_map] at this; omega
    refine ⟨_, rfl, _, rfl, a, _, _, _, rfl, rfl, hs, at_int (List.getElem?_eq_getElem hlt), .inl ⟨_, rfl, _, rfl, ?_⟩⟩
    exact kk _ H (Ex.refl _) (by dsimp only; split <;> omega)
  · exact kk 0 H (Ex.refl _) (Int.le_refl _)
theorem fmodI (x s : Int) (h : 1 ≤ s) : 0 ≤ x.fmod s ∧ x.fmod s < s := ⟨Int.fmod_nonneg_of_pos _ (by omega), Int.fmod_lt_of_pos _ (by omega)⟩
theorem fmod_range (x : Int) (s : Nat) (h : 1 ≤ s) : 0 ≤ x.fmod s ∧ x.fmod s < s := fmodI x s (by omega)
theorem rd_l_mixed : Good (sp_l_mixed K C) P_l_mixed N_l_mixed (t_l_mixed K C) := by
  intro vs H Q E h
  obtain ⟨c, k, s, rfl, hs, kk⟩ := h
  refine ⟨rfl, ?_⟩
  have h1 := fmodI (c + 7919 * k + 13) 2147483647 (by decide)
  have h2 := fmodI ((c + 7919 * k + 13).fmod 2147483647 * ((c + 7919 * k + 13).fmod 2147483647 + 48271)) 2147483629 (by decide)
  refine ⟨_, rfl, _, rfl, _, _, rfl, rfl, .inl (by decide), _, _, rfl, rfl, _, _, rfl, rfl, .inl ⟨_, rfl, _, _, rfl, rfl, (by show (2147483647 : Int) ≠ 0; decide), ?_⟩⟩
  refine ⟨_, rfl, _, rfl, _, _, rfl, rfl, _, _, rfl, rfl, .inl ⟨?_, ?_⟩, .inl ⟨_, rfl, _, _, rfl, rfl, (by show (2147483629 : Int) ≠ 0; decide), ?_⟩⟩
  · exact Int.lt_of_lt_of_le (by decide) h1.1
  · exact Int.lt_trans h1.2 (by decide)
  refine ⟨_, rfl, _, rfl, _, _, rfl, rfl, _, _, rfl, rfl, .inl ⟨?_, ?_⟩, _, rfl, _, _, rfl, rfl, .inl (by decide), _, _, rfl, rfl, .inl ⟨_, rfl, _, _, rfl, rfl, (by show (2147483647 : Int) ≠ 0; decide), ?_⟩⟩
  · exact Int.lt_of_lt_of_le (by decide) h2.1
  · exact Int.lt_trans h2.2 (by decide)
  refine ⟨_, rfl, _, _, rfl, rfl, ⟨by decide, by decide⟩, .inl ⟨_, rfl, _, rfl, _, _, rfl, rfl, (by show (s : Int) ≠ 0; omega), ?_⟩⟩
  exact kk _ H (Ex.refl _) (fmod_range _ s hs)
theorem rd_l_draws : Good (sp_l_draws K C) P_l_draws N_l_draws (t_l_draws K C) := by
  intro vs H Q E h
  obtain ⟨c, a, menu, rfl, hM, hm, hlen, kk⟩ := h
  refine ⟨rfl, ?_⟩
  refine ⟨by show 0 ≤ sizeLine; decide, fun f hf => ?_⟩
  have e1 : Ex H (upd H f (.lst [])) := Ex.new hf
  refine ⟨_, rfl, ?_⟩
  refine ⟨_, rfl, a, _, rfl, .inl (SqL.of (e1 _ _ hM)), ?_⟩
  have el : ((menu.map nV).length : Int) = (menu.length : Int) := by rw [List.length_map]
  rw [el]
  refine ⟨_, rfl, by omega, by omega, for_rng (n := menu.length) (fun i σ G => ∃ (ds : List Nat) (r : Int) (u : Option V), σ = [some (.int c), some (.ref a), some (.ref f), some (.int r), u] ∧ Ex H G ∧ LN G f ds ∧ Paired (fun d m => d < m) ds (menu.take i))
    ⟨[], c, none, rfl, e1, upd_same, by rw [List.take_zero]; exact .nil⟩ ?_ ?_⟩
  · rintro i σ G hi ⟨ds, r, u, rfl, e, hd, hp⟩
    obtain ⟨m, hmi⟩ : ∃ m, menu[i]? = some m := ⟨_, List.getElem?_eq_getElem hi⟩
    obtain ⟨hm1, hm2⟩ := hm m (List.mem_of_getElem? hmi)
    have hdl : ds.length = i := by rw [hp.length, List.length_take]; omega
    have hM' : SqL K G a (menu.map nV) := SqL.of (e _ _ hM)
    have fin : ∀ (x : Int) (r2 : Int) (G2 : Hp), Ex G G2 → 0 ≤ x ∧ x < m → ∃ (ds : List Nat) (r : Int) (u : Option V), [some (.int c), some (.ref a), some (.ref f), some (.int r2), some (nV i)] = [some (V.int c), some (.ref a), some (.ref f), some (.int r), u] ∧ Ex H (upd G2 f (.lst ((menu.take 0).map nV ++ (ds.map nV)))) ∧ True := fun x r2 G2 e2 hx => ⟨[], r2, some (nV i), rfl, (e.trans e2).mut hf, trivial⟩
    have app : ∀ (x : Int) (G2 : Hp), Ex G G2 → 0 ≤ x → x < m → LN (upd G2 f (.lst (ds.map nV ++ [.int x]))) f (ds ++ [x.toNat]) ∧ Paired (fun d m => d < m) (ds ++ [x.toNat]) (menu.take (i + 1)) := fun x G2 e2 h1 h2 => by
      refine ⟨?_, ?_⟩
      · show upd _ _ _ _ = _
        rw [upd_same, List.map_append]
        have : nV x.toNat = .int x := by show V.int (x.toNat : Int) = _; rw [Int.toNat_of_nonneg h1]
        rw [List.map_singleton, this]
      · rw [take_succ hmi]
        exact Paired.snoc hp (by omega)
    have hsz : (ds.map nV).length < sizeLine := small' (by rw [List.length_map]; omega : _ < 10001)
    refine ⟨_, rfl, _, _, rfl, rfl, ⟨by decide, by decide, by decide⟩, _, _, rfl, rfl, _, rfl, ?_⟩
    have other : tDrop (tBM K "list" rAppend (tVar 2) (tCons (tCall (sp_l_mixed K C) [] E0 (tCons (tVar 0) (tCons (tVar 4) (tCons (tOp (rIxL K) (tVar 1) (tVar 4)) tNil)))) tNil))
        { nx := fun σ G => ∃ (ds : List Nat) (r : Int) (u : Option V), σ = [some (.int c), some (.ref a), some (.ref f), some (.int r), u] ∧ Ex H G ∧ LN G f ds ∧ Paired (fun d m => d < m) ds (menu.take (i + 1)), rt := Q }
        [some (V.int c), some (.ref a), some (.ref f), some (.int r), some (nV i)] G := by
      refine ⟨_, rfl, .inl ⟨rfl, _, SqL.of hd⟩, _, rfl, _, rfl, _, rfl, _, rfl, a, _, _, _, rfl, rfl, hM', at_nat hmi, c, i, m, rfl, hm1, fun x G2 e2 hx => ?_⟩
      refine ⟨f, _, _, rfl, rfl, e2 _ _ hd, hsz, ?_⟩
      exact ⟨ds ++ [x.toNat], r, some (nV i), rfl, (e.trans e2).mut hf, (app x G2 e2 hx.1 hx.2).1, (app x G2 e2 hx.1 hx.2).2⟩
    refine ite2 (fun hbig => ?_) (fun hsm => ?_)
    · refine ⟨_, rfl, _, _, rfl, rfl, _, rfl, ?_⟩
      refine ite2 (fun hpos => ?_) (fun hz => ?_)
      · refine ⟨_, rfl, .inl ⟨rfl, _, SqL.of hd⟩, _, rfl, .inl ⟨_, rfl, _, rfl, _, rfl, a, _, _, _, rfl, rfl, hM', at_nat hmi, _, _, rfl, rfl, (by omega : (m : Int) ≠ 0), ?_⟩⟩
        have hx := fmod_range r m hm1
        refine ⟨f, _, _, rfl, rfl, hd, hsz, ?_⟩
        have e2 : Ex H (upd G f (.lst (ds.map nV ++ [.int (r.fmod m)]))) := e.mut hf
        refine ⟨_, rfl, _, rfl, _, rfl, a, _, _, _, rfl, rfl, SqL.of (e2 _ _ hM), at_nat hmi, _, _, rfl, rfl, ⟨by omega, by omega⟩, ?_⟩
        exact ⟨ds ++ [(r.fmod m).toNat], _, some (nV i), rfl, e2, (app _ G (Ex.refl _) hx.1 hx.2).1, (app _ G (Ex.refl _) hx.1 hx.2).2⟩
      · exact other
    · refine iteF ?_
      exact other
  · rintro σ G ⟨ds, r, u, rfl, e, hd, hp⟩
    rw [List.take_length] at hp
    exact ⟨_, rfl, kk f G ds hf e hd hp⟩
end
end Bw
/-! readings: sizes, outer, orders, holding, meets -/
namespace Bw
open PySem PySem.Spec PyProof.Rows L2 Evl Bb
section
variable {K : PySem.W.Frag} {C : Addr} {H G G' : Hp}
/-- [c for c in range(n) if p(c)] -/
theorem lc_rngc {ta : TA} {j : Nat} {t : TT} {σ : L2.St} {Q : VK} (n : Nat) (p : Nat → Bool) (hs : n ≤ 10000) (hj : j < σ.length) (src : ∀ R : List V → Hp → Prop, (∀ (H1 : Hp), Ex H H1 → R [nV n] H1) → ta σ H R)
    (ht : ∀ (x : Nat) (G : Hp) (R : Bool → Hp → Prop), x ∈ List.range n → Ex H G → (∀ G', Ex G G' → R (p x) G') → t ((wipe σ [j]).set j (some (nV x))) G R)
    (k : ∀ (D : Addr) (G : Hp), H D = none → Ex H G → LN G D ((List.range n).filter p) → Q (.ref D) G) : tLc (iRng1 ta) (gName j) t (tVar j) [j] σ H Q := by
  refine lc_rng n p (fun x _ v => v = nV x) (fun _ _ _ _ _ h => h) hs src ht (fun x G R _ _ e h' => ?_) (fun D G vs hD e hv hp => ?_)
  · have hg : ((wipe σ [j]).set j (some (nV x)))[j]? = some (some (nV x)) := List.getElem?_set_self (by rw [wipe_length]; exact hj)
    exact ⟨_, hg, h' _ G (Ex.refl _) fun _ _ _ => rfl⟩
  · have := paired_map hp
    subst this
    exact k D G hD e hv
/-- sorted([len(p) for p in ps], reverse=True) -/
theorem srt_lens {tl : TE} {j : Nat} {σ : L2.St} {Q : VK} (rows : List (List Nat)) (hs : rows.length ≤ 10000) (hj : j < σ.length) (src : ∀ R : V → Hp → Prop, (∀ (a : Addr) (H1 : Hp), Ex H H1 → LLN H1 a rows → R (.ref a) H1) → tl σ H R)
    (k : ∀ (D : Addr) (G : Hp) (ss : List Nat), H D = none → Ex H G → LN G D ss → ss.Perm (rows.map List.length) → ss.Pairwise (· ≥ ·) → Q (.ref D) G) :
    tCKw (rSortedR K) (tCons (tLc (iList K tl) (gName j) tYes (tCB (rLenQ K) (tCons (tVar j) tNil)) [j]) tNil) (tCons (tC (.bl true)) tNil) σ H Q := by
  dsimp only [tCKw, tCons, tNil]
  refine lc_lens rows hs hj src fun D G hD e hL => ?_
  exact srtR hL fun p ys hp hy ho => k p _ ys (fresh_back e hp) (e.trans (Ex.new hp)) upd_same hy ho
theorem srt_lensP {tl : TE} {j : Nat} {σ : L2.St} {Q : VK} (Pr : List (List Nat) → Prop) (hs : ∀ rows, Pr rows → rows.length ≤ 10000) (hj : j < σ.length) (src : ∀ R : V → Hp → Prop, (∀ (a : Addr) (H1 : Hp) (rows : List (List Nat)), Ex H H1 → LLN H1 a rows → Pr rows → R (.ref a) H1) → tl σ H R)
    (k : ∀ (D : Addr) (G : Hp) (ss : List Nat) (rows : List (List Nat)), H D = none → Ex H G → LN G D ss → Pr rows → ss.Perm (rows.map List.length) → ss.Pairwise (· ≥ ·) → Q (.ref D) G) :
    tCKw (rSortedR K) (tCons (tLc (iList K tl) (gName j) tYes (tCB (rLenQ K) (tCons (tVar j) tNil)) [j]) tNil) (tCons (tC (.bl true)) tNil) σ H Q := by
  refine src _ fun a H1 rows e1 hL hP => ?_
  have go : tCKw (rSortedR K) (tCons (tLc (iList K (tC (.ref a))) (gName j) tYes (tCB (rLenQ K) (tCons (tVar j) tNil)) [j]) tNil) (tCons (tC (.bl true)) tNil) σ H1 Q :=
    srt_lens rows (hs rows hP) hj (fun R h' => h' a H1 (Ex.refl _) hL) fun D G ss hD e hL hp ho => k D G ss rows (fresh_back e1 hD) (e1.trans e) hL hP hp ho
  exact go
theorem sizes_br {n c : Nat} {near : List (List Nat)} {S : List Nat} {ps : List (List Nat)} (T : IsTree n near) (P : Pieces near S ps) (hc : c < n) (hS : ∀ x, x ∈ S ↔ x < n ∧ x ≠ c) (v : Nat) : v ∈ ps.map List.length ↔ ∃ d, d ∈ nb near c ∧ v = be n near c d := by
  have reach : ∀ x, x < n → ∀ y, Reach near (· ∈ S) x y ↔ Reach near (· ≠ c) x y := fun x hx y =>
    ⟨fun h => h.mono fun z _ hz => ((hS z).mp hz).2, fun h => h.mono fun z hz nz => (hS z).mpr ⟨T.rlt hz hx, nz⟩⟩
  rw [P.sizes T.tab (fun x hx => ((hS x).mp hx).1) v]
  constructor
  · rintro ⟨x, hx, rfl⟩
    obtain ⟨h1, h2⟩ := (hS x).mp hx
    obtain ⟨d, hd, hb⟩ := T.br_cover hc h1 h2
    refine ⟨d, hd, cnt_congr fun y _ => ?_⟩
    rw [reach x h1 y]
    exact ⟨fun r => hb.trans r, fun r => (T.rsymm hb).trans r⟩
  · rintro ⟨d, hd, rfl⟩
    refine ⟨d, (hS d).mpr ⟨T.lt _ _ hd, T.ne hd⟩, cnt_congr fun y _ => ?_⟩
    rw [reach d (T.lt _ _ hd) y]
theorem rd_l_sizes : Good (sp_l_sizes K C) P_l_sizes N_l_sizes (t_l_sizes K C) := by
  intro vs H Q E h
  obtain ⟨a, b, n, c, near, rfl, hA, hB, T, hc, hn, kk⟩ := h
  refine ⟨rfl, ?_⟩
  dsimp only [t_l_sizes, tSeq, tAsg, gName, tRet]
  refine lc_cells (List.range n) (fun x => !decide (x = c)) (by simp; omega) (by show 4 < 6; decide) (fun R h' => ⟨_, rfl, h' a H (Ex.refl _) hA⟩) (fun x G R hx e h' => ⟨_, rfl, _, rfl, rfl, _, rfl, ?_⟩) fun D G hD e hL => ?_
  · have e1 : (!decide (nV x = nV c)) = !decide (x = c) := by
      congr 1
      rw [decide_eq_decide]
      constructor
      · intro z; injection z with z; omega
      · rintro rfl; rfl
    rw [e1]
    exact h' G (Ex.refl _)
  have hSm : ∀ x, x ∈ (List.range n).filter (fun x => !decide (x = c)) ↔ x < n ∧ x ≠ c := fun x => by
    rw [List.mem_filter, List.mem_range, Bool.not_eq_true', decide_eq_false_iff_not]
  have hSn : ((List.range n).filter (fun x => !decide (x = c))).Nodup := List.nodup_range.filter _
  refine srt_lensP (fun ps => Pieces near ((List.range n).filter (fun x => !decide (x = c))) ps) (fun ps P => ?_) (by show 5 < 6; decide) (fun R h' => ?_) fun p G2 ss ps hp e2 hss P hperm hord => ?_
  · have h1 := pieces_small P hSn
    have h2 := List.length_filter_le (fun x => !decide (x = c)) (List.range n)
    rw [List.length_range] at h2
    omega
  · exact ⟨_, rfl, _, rfl, D, b, n, _, near, rfl, hL, hB.ex e, T.tab, hSn, fun x hx => ((hSm x).mp hx).1, hn, fun p G1 ps hp e1 hps P => h' p G1 ps e1 hps P⟩
  · refine kk p G2 ss (fresh_back e hp) (e.trans e2) hss ⟨?_, fun v => ?_⟩
    · have h1 := pieces_small P hSn
      have h2 := List.length_filter_le (fun x => !decide (x = c)) (List.range n)
      rw [List.length_range] at h2
      rw [hperm.length_eq, List.length_map]
      omega
    · rw [hperm.mem_iff]; exact sizes_br T P hc hSm v
theorem rd_l_outer : Good (sp_l_outer K C) P_l_outer N_l_outer (t_l_outer K C) := by
  intro vs H Q E h
  obtain ⟨r, b, n, R, near, rfl, hR, hB, T, hRl, hn, kk⟩ := h
  refine ⟨rfl, ?_⟩
  dsimp only [t_l_outer, tSeq, tAsg, gName, tRet]
  have hB0 := hB
  obtain ⟨bads, hb1, hb2⟩ := hB0
  have hbl : (bads.map V.ref).length = n := by rw [List.length_map, hb2.length, T.len]
  refine lc_rngc n (fun x => !decide (x ∈ R)) (by omega) (by show 3 < 5; decide) (fun R' h' => ⟨_, rfl, b, _, rfl, .inl (SqL.of hb1), by rw [hbl]; exact h' H (Ex.refl _)⟩) (fun x G R' hx e h' => ⟨_, rfl, _, rfl, r, _, rfl, .inl (SqL.of (hR.ex e)), rfl, flat_nV _, _, rfl, ?_⟩) fun D G hD e hL => ?_
  · rw [inV_nV]
    exact h' G (Ex.refl _)
  have hSm : ∀ x, x ∈ (List.range n).filter (fun x => !decide (x ∈ R)) ↔ x < n ∧ x ∉ R := fun x => by
    rw [List.mem_filter, List.mem_range, Bool.not_eq_true', decide_eq_false_iff_not]
  have hSn : ((List.range n).filter (fun x => !decide (x ∈ R))).Nodup := List.nodup_range.filter _
  have hSl : ∀ {ps}, Pieces near ((List.range n).filter (fun x => !decide (x ∈ R))) ps → ps.length ≤ n := fun P => by
    have h1 := pieces_small P hSn
    have h2 := List.length_filter_le (fun x => !decide (x ∈ R)) (List.range n)
    rw [List.length_range] at h2
    omega
  refine srt_lensP (fun ps => Pieces near ((List.range n).filter (fun x => !decide (x ∈ R))) ps) (fun ps P => ?_) (by show 4 < 5; decide) (fun R' h' => ?_) fun p G2 ss ps hp e2 hss P hperm hord => ?_
  · have := hSl P; omega
  · exact ⟨_, rfl, _, rfl, D, b, n, _, near, rfl, hL, hB.ex e, T.tab, hSn, fun x hx => ((hSm x).mp hx).1, hn, fun p G1 ps hp e1 hps P => h' p G1 ps e1 hps P⟩
  · refine kk p G2 ss (fresh_back e hp) (e.trans e2) hss ⟨?_, fun t => ?_⟩
    · rw [hperm.length_eq, List.length_map]; exact hSl P
    · rw [← calm_sizes T P hSm t]
      exact ⟨fun h v hv => h v (hperm.mem_iff.mpr hv), fun h v hv => h v (hperm.mem_iff.mp hv)⟩
end
end Bw
/-! readings: orders, holding, meets, missing -/
namespace Bw
open PySem PySem.Spec PyProof.Rows L2 Evl Bb
section
variable {K : PySem.W.Frag} {C : Addr} {H G G' : Hp}
theorem ord_K1 : ("K" : Str) = ordStr [true] := by decide +kernel
theorem ord_R1 : ("R" : Str) = ordStr [false] := by decide +kernel
theorem rd_l_fair_order : Good (sp_l_fair_order K C) P_l_fair_order N_l_fair_order (t_l_fair_order K C) := by
  intro vs H Q E h
  obtain ⟨c, m, k, rfl, hk, hm, kk⟩ := h
  refine ⟨rfl, ?_⟩
  refine ⟨_, rfl, by show 1 ≤ sizeLine; decide, fun g hg => ?_⟩
  have e1 : Ex H (upd H g (.lst [.int 2])) := Ex.new hg
  refine ⟨_, rfl, g, _, _, rfl, rfl, upd_same, by omega, by omega, small (by simp; omega : _ ≤ 1000), fun g2 hg2 => ?_⟩
  have eR : (List.replicate ((m : Int)).toNat [V.int 2]).flatten = (List.replicate m 2).map nV := by rw [flat_rep, List.map_replicate]; rfl
  rw [eR]
  have e2 : Ex H (upd (upd H g (.lst [.int 2])) g2 (.lst ((List.replicate m 2).map nV))) := e1.trans (Ex.new hg2)
  refine ⟨c, g2, List.replicate m 2, rfl, upd_same, fun x hx => by rw [(List.mem_replicate.mp hx).2]; omega, by simp; omega, fun p G ds hp e3 hds hpd => ?_⟩
  have eG := e2.trans e3
  have hdl : ds.length = m := by rw [hpd.length]; simp
  refine ⟨_, rfl, _, rfl, by omega, by omega, for_rng (n := m) (fun i σ G' => ∃ (ls : List Bool) (done : Nat) (u6 u7 u8 : Option V), σ = [some (.int c), some (nV m), some (nV k), some (.ref p), some (.str (ordStr ls)), some (nV done), u6, u7, u8] ∧ Ex G G' ∧ ls.length = i ∧ ls.count true = done ∧ Fair ls ∧ done ≤ k ∧ i - done ≤ m - k ∧ (done < k → i - done ≤ done))
    ⟨[], 0, none, none, none, rfl, Ex.refl _, rfl, rfl, trivial, Nat.zero_le _, by omega, fun _ => by omega⟩ ?_ ?_⟩
  · rintro i σ G' hi ⟨ls, done, u6, u7, u8, rfl, e, hl, hc, hF, hdk, hR, hb⟩
    have hcl := count_len ls
    have hdi : done ≤ i := by omega
    have ep : (i : Int) - (done : Int) = ((i - done : Nat) : Int) := by omega
    have ek : (m : Int) - (k : Int) = ((m - k : Nat) : Int) := by omega
    refine ⟨_, rfl, _, rfl, _, _, rfl, rfl, ?_⟩
    have rest : ∀ rm : Bool, (rm = true ↔ (i - done < m - k ∧ (done = k ∨ i - done < done))) → ((tIfS (tAnd (tTest (tOp rLt (tVar 5) (tVar 2))) (tOr (tTest (tOp rEq (tOp (rIxL K) (tVar 3) (tVar 6)) (tC (.int 1)))) (tNot (tB (tVar 8))))) (tSeq (tAsg (tOp rCatS (tC (.str "K")) (tVar 4)) (gName 4))
  (tAsg (tOp rAdd (tVar 5) (tC (.int 1))) (gName 5))) (tAsg (tOp rCatS (tC (.str "R")) (tVar 4)) (gName 4))))
        { nx := fun σ G' => ∃ (ls : List Bool) (done : Nat) (u6 u7 u8 : Option V), σ = [some (.int c), some (nV m), some (nV k), some (.ref p), some (.str (ordStr ls)), some (nV done), u6, u7, u8] ∧ Ex G G' ∧ ls.length = i + 1 ∧ ls.count true = done ∧ Fair ls ∧ done ≤ k ∧ i + 1 - done ≤ m - k ∧ (done < k → i + 1 - done ≤ done), rt := Q }
        [some (.int c), some (nV m), some (nV k), some (.ref p), some (.str (ordStr ls)), some (nV done), some (nV i), some (.int ((i : Int) - (done : Int))), some (.bl rm)] G' := by
      intro rm hrm
      have addK : done < k → (∃ (ls' : List Bool) (done' : Nat) (u6 u7 u8 : Option V), [some (V.int c), some (nV m), some (nV k), some (.ref p), some (.str ("K" ++ ordStr ls)), some (.int ((done : Int) + 1)), some (nV i), some (.int ((i : Int) - (done : Int))), some (.bl rm)] = [some (.int c), some (nV m), some (nV k), some (.ref p), some (.str (ordStr ls')), some (nV done'), u6, u7, u8] ∧ Ex G G' ∧ ls'.length = i + 1 ∧ ls'.count true = done' ∧ Fair ls' ∧ done' ≤ k ∧ i + 1 - done' ≤ m - k ∧ (done' < k → i + 1 - done' ≤ done')) := fun hlt => by
        refine ⟨true :: ls, done + 1, some (nV i), some (.int ((i : Int) - (done : Int))), some (.bl rm), ?_, e, by rw [List.length_cons, hl], by simp [hc], ⟨?_, hF⟩, by omega, by omega, fun _ => by have := hb hlt; omega⟩
        · rw [ord_K1, ord_app]; rfl
        · rw [List.count_cons, List.count_cons]; simp
          have := hb hlt; omega
      have addR : (done = k ∨ rm = true) → (∃ (ls' : List Bool) (done' : Nat) (u6 u7 u8 : Option V), [some (V.int c), some (nV m), some (nV k), some (.ref p), some (.str ("R" ++ ordStr ls)), some (nV done), some (nV i), some (.int ((i : Int) - (done : Int))), some (.bl rm)] = [some (.int c), some (nV m), some (nV k), some (.ref p), some (.str (ordStr ls')), some (nV done'), u6, u7, u8] ∧ Ex G G' ∧ ls'.length = i + 1 ∧ ls'.count true = done' ∧ Fair ls' ∧ done' ≤ k ∧ i + 1 - done' ≤ m - k ∧ (done' < k → i + 1 - done' ≤ done')) := fun ho => by
        refine ⟨false :: ls, done, some (nV i), some (.int ((i : Int) - (done : Int))), some (.bl rm), ?_, e, by rw [List.length_cons, hl], by simp [hc], hF, hdk, ?_, fun hlt => ?_⟩
        · rw [ord_R1, ord_app]; rfl
        · rcases ho with rfl | ho
          · omega
          · have := hrm.mp ho; omega
        · rcases ho with rfl | ho
          · omega
          · have := hrm.mp ho; omega
      have catK : ("K" : Str).length + (ordStr ls).length ≤ sizeLine := by rw [ord_K1, ord_len, ord_len]; exact small (by simp; omega : _ ≤ 1000)
      have catR : ("R" : Str).length + (ordStr ls).length ≤ sizeLine := by rw [ord_R1, ord_len, ord_len]; exact small (by simp; omega : _ ≤ 1000)
      refine ⟨_, rfl, _, rfl, _, _, rfl, rfl, _, rfl, ?_⟩
      refine ite2 (fun h1 => ?_) (fun h1 => ?_)
      · have hlt : done < k := by have := of_decide_eq_true h1; omega
        obtain ⟨d, hd⟩ : ∃ d, ds[i]? = some d := ⟨_, List.getElem?_eq_getElem (by omega)⟩
        refine ⟨_, rfl, _, rfl, p, _, _, _, rfl, rfl, SqL.of (hds.ex e), at_nat hd, rfl, _, rfl, ?_⟩
        refine ite2 (fun h2 => ?_) (fun h2 => ?_)
        · refine iteT ?_
          exact ⟨_, rfl, _, _, rfl, rfl, catK, _, rfl, _, _, rfl, rfl, addK hlt⟩
        · refine ⟨_, rfl, _, rfl, ?_⟩
          cases rm with
          | false => exact iteT ⟨_, rfl, _, _, rfl, rfl, catK, _, rfl, _, _, rfl, rfl, addK hlt⟩
          | true => exact iteF ⟨_, rfl, _, _, rfl, rfl, catR, addR (.inr rfl)⟩
      · have hge : done = k := by
          have : ¬ (done : Int) < (k : Int) := fun z => h1 (decide_eq_true z)
          omega
        refine iteF ?_
        exact ⟨_, rfl, _, _, rfl, rfl, catR, addR (.inl hge)⟩
    refine ⟨_, rfl, _, rfl, _, rfl, _, _, rfl, rfl, _, _, rfl, rfl, _, rfl, ?_⟩
    refine ite2 (fun h1 => ?_) (fun h1 => ?_)
    · have h1 : i - done < m - k := by have := of_decide_eq_true h1; omega
      refine ⟨_, rfl, _, rfl, rfl, _, rfl, ?_⟩
      refine ite2 (fun h2 => ?_) (fun h2 => ?_)
      · have h2 : done = k := by have := of_decide_eq_true h2; injection this with this; omega
        exact rest true ⟨fun _ => ⟨h1, .inl h2⟩, fun _ => rfl⟩
      · have h2 : done ≠ k := fun z => h2 (decide_eq_true (by rw [z]))
        refine ⟨_, rfl, _, rfl, _, _, rfl, rfl, ?_⟩
        refine rest _ ?_
        rw [decide_eq_true_iff]
        constructor
        · intro z; exact ⟨h1, .inr (by omega)⟩
        · rintro ⟨_, z | z⟩
          · exact (h2 z).elim
          · omega
    · have h1 : ¬ i - done < m - k := fun z => h1 (decide_eq_true (by omega))
      exact rest false ⟨fun z => (by cases z), fun z => (h1 z.1).elim⟩
  · rintro σ G' ⟨ls, done, u6, u7, u8, rfl, e, hl, hc, hF, hdk, hR, hb⟩
    have hcl := count_len ls
    exact ⟨_, rfl, kk ls G' (eG.trans e) hF hl (by omega)⟩
end
end Bw
/-! readings: holding, meets, missing -/
namespace Bw
open PySem PySem.Spec PyProof.Rows L2 Evl Bb
section
variable {K : PySem.W.Frag} {C : Addr} {H G G' : Hp}
section
variable {n t : Nat} {near : List (List Nat)}
open Classical in
theorem mem_keepL {c : Nat} : c ∈ keepL n near t ↔ c < n ∧ IsTree.Keep n near t c := by
  unfold keepL
  rw [List.mem_filter, List.mem_range, decide_eq_true_iff]
open Classical in
theorem mem_backL (T : IsTree n near) {c : Nat} : c ∈ backL n near t ↔ IsTree.Back n near t c := by
  unfold backL
  rw [List.mem_filter, List.mem_range, decide_eq_true_iff]
  refine ⟨fun h => h.2, fun h => ⟨?_, h⟩⟩
  obtain ⟨d, hd, _⟩ := h
  exact T.ltl hd
theorem nodup_keepL : (keepL n near t).Nodup := List.nodup_range.filter _
theorem nodup_backL : (backL n near t).Nodup := List.nodup_range.filter _
theorem len_keepL : (keepL n near t).length ≤ n := by
  have := List.length_filter_le (fun c => @decide (IsTree.Keep n near t c) (Classical.propDecidable _)) (List.range n)
  rw [List.length_range] at this; exact this
theorem len_backL : (backL n near t).length ≤ n := by
  have := List.length_filter_le (fun c => @decide (IsTree.Back n near t c) (Classical.propDecidable _)) (List.range n)
  rw [List.length_range] at this; exact this
theorem strongL_len : (strongL n near t).length ≤ n := by
  unfold strongL; split
  · exact len_backL
  · exact len_keepL
theorem strong_keep (h : keepL n near t ≠ []) : strongW n near t = "keep" ∧ strongL n near t = keepL n near t := by
  unfold strongW strongL
  rw [if_neg h, if_neg h]; exact ⟨rfl, rfl⟩
theorem strong_back (h : keepL n near t = []) : strongW n near t = "backbone" ∧ strongL n near t = backL n near t := by
  unfold strongW strongL
  rw [if_pos h, if_pos h]; exact ⟨rfl, rfl⟩
theorem bk_ne : ¬ V.str ("backbone" : Str) = V.str "keep" := by decide +kernel
theorem is_keep : decide (V.str (strongW n near t) = V.str "keep") = true ↔ keepL n near t ≠ [] := by
  rw [decide_eq_true_iff]
  by_cases h : keepL n near t = []
  · rw [(strong_back h).1]
    exact ⟨fun z => (bk_ne z).elim, fun z => (z h).elim⟩
  · rw [(strong_keep h).1]
    exact ⟨fun _ => h, fun _ => rfl⟩
theorem no_keep (h : keepL n near t = []) : ∀ k, k < n → ¬ IsTree.Keep n near t k := fun k hk z => by
  have : k ∈ keepL n near t := mem_keepL.mpr ⟨hk, z⟩
  rw [h] at this; cases this
theorem fmod_nat (a b : Nat) : (a : Int).fmod (b : Int) = ((a % b : Nat) : Int) := by
  rw [Int.fmod_eq_emod_of_nonneg _ (by omega)]; rfl
end
theorem ne_nil_of {xs : List Nat} (h : xs ≠ []) : 0 < xs.length := List.length_pos_iff.mpr h
theorem rd_l_holding : Good (sp_l_holding K C) P_l_holding N_l_holding (t_l_holding K C) := by
  intro vs H Q E h
  obtain ⟨p, q, n, t, d, near, rfl, hp, hq, T, hn, kk⟩ := h
  refine ⟨rfl, ?_⟩
  have hpT : SqT K H p [.str (strongW n near t), .ref q] := SqT.of hp
  refine ⟨_, rfl, p, _, _, _, rfl, rfl, hpT, (show _ = some (V.ref q) from rfl), ?_⟩
  refine ⟨_, rfl, p, _, _, _, rfl, rfl, hpT, (show _ = some (V.str (strongW n near t)) from rfl), rfl, _, rfl, ?_⟩
  refine ite2 (fun hk => ?_) (fun hk => ?_)
  · have hk := is_keep.mp hk
    have hq' := hq
    rw [(strong_keep hk).2] at hq'
    have hpos := ne_nil_of hk
    obtain ⟨c, hc⟩ : ∃ c, (keepL n near t)[d % (keepL n near t).length]? = some c := ⟨_, List.getElem?_eq_getElem (Nat.mod_lt _ hpos)⟩
    obtain ⟨hcn, _⟩ := mem_keepL.mp (List.mem_of_getElem? hc)
    refine ⟨_, rfl, _, rfl, .inl ⟨_, rfl, _, rfl, q, _, rfl, .inl (SqL.of hq'), _, _, rfl, rfl, (by show (((keepL n near t).map nV).length : Int) ≠ 0; rw [List.length_map]; omega), ?_⟩⟩
    dsimp only
    rw [List.length_map, fmod_nat]
    refine ⟨q, _, _, _, rfl, rfl, SqL.of hq', at_nat hc, by show 1 ≤ sizeLine; decide, fun l hl => ?_⟩
    exact kk l _ [c] hl (Ex.new hl) upd_same ⟨by simp, (IsTree.region_one T hcn).congr fun x => by simp⟩
  · have hk : keepL n near t = [] := Classical.byContradiction fun z => hk (is_keep.mpr z)
    have hq' := hq
    rw [(strong_back hk).2] at hq'
    refine ⟨_, rfl, q, _, rfl, .inl (SqL.of hq'), fun l hl => ?_⟩
    exact kk l _ (backL n near t) hl (Ex.new hl) upd_same ⟨nodup_backL, (IsTree.back_region T (no_keep hk)).congr fun x => (mem_backL T).symm⟩
theorem rd_l_meets : Good (sp_l_meets K C) P_l_meets N_l_meets (t_l_meets K C) := by
  intro vs H Q E h
  obtain ⟨p, q, r, n, t, R, near, rfl, hp, hq, hR, T, Rg, hRl, hn, kk⟩ := h
  refine ⟨rfl, ?_⟩
  have hpT : SqT K H p [.str (strongW n near t), .ref q] := SqT.of hp
  refine ⟨_, rfl, p, _, _, _, rfl, rfl, hpT, (show _ = some (V.str (strongW n near t)) from rfl), rfl, _, rfl, ?_⟩
  have hsl := strongL_len (n := n) (near := near) (t := t)
  refine ite2 (fun hk => ?_) (fun hk => ?_)
  · have hk := is_keep.mp hk
    have hq' := hq
    rw [(strong_keep hk).2] at hq'
    dsimp only [tRet, tOp]
    refine lc_cells R (fun c => decide (c ∈ keepL n near t)) (by omega) (by show 2 < 3; decide) (fun R' h' => ⟨_, rfl, h' r H (Ex.refl _) hR⟩) (fun c G R' hc e h' => ?_) fun D G hD e hL => ?_
    · refine ⟨_, rfl, _, rfl, p, _, _, _, rfl, rfl, SqT.of (e _ _ hp), (show _ = some (V.ref q) from rfl), q, _, rfl, .inl (SqL.of (hq'.ex e)), rfl, flat_nV _, _, rfl, ?_⟩
      rw [inV_nV]
      exact h' G (Ex.refl _)
    · refine ⟨by show 0 ≤ sizeLine; decide, fun e0 he0 => ?_⟩
      dsimp only [tNil]
      refine neNil (hL.ex (Ex.new he0)) upd_same (kk _ _ (e.trans (Ex.new he0)) ?_)
      dsimp only
      rw [IsTree.keep_calm T Rg (by
        obtain ⟨c, hc⟩ := List.exists_mem_of_ne_nil _ hk
        exact ⟨c, mem_keepL.mp hc⟩), Bool.not_eq_true', decide_eq_false_iff_not, ← ne_eq]
      constructor
      · intro z
        obtain ⟨c, hc⟩ := List.exists_mem_of_ne_nil _ z
        rw [List.mem_filter, decide_eq_true_iff] at hc
        exact ⟨c, hc.1, (mem_keepL.mp hc.2).2⟩
      · rintro ⟨c, hc, hkc⟩ z
        have : c ∈ R.filter (fun c => decide (c ∈ keepL n near t)) := by
          rw [List.mem_filter, decide_eq_true_iff]
          exact ⟨hc, mem_keepL.mpr ⟨Rg.lt c hc, hkc⟩⟩
        rw [z] at this; cases this
  · have hk : keepL n near t = [] := Classical.byContradiction fun z => hk (is_keep.mpr z)
    have hq' := hq
    rw [(strong_back hk).2] at hq'
    have hbl := len_backL (n := n) (near := near) (t := t)
    dsimp only [tNext, tRet, tOp]
    refine lc_cells (backL n near t) (fun c => !decide (c ∈ R)) (by omega) (by show 2 < 3; decide) (fun R' h' => ⟨_, rfl, p, _, _, _, rfl, rfl, hpT, (show _ = some (V.ref q) from rfl), h' q H (Ex.refl _) hq'⟩) (fun c G R' hc e h' => ?_) fun D G hD e hL => ?_
    · refine ⟨_, rfl, _, rfl, r, _, rfl, .inl (SqL.of (hR.ex e)), rfl, flat_nV _, _, rfl, ?_⟩
      rw [inV_nV]
      exact h' G (Ex.refl _)
    · refine ⟨by show 0 ≤ sizeLine; decide, fun e0 he0 => ?_⟩
      dsimp only [tNil]
      refine eqNil (hL.ex (Ex.new he0)) upd_same (kk _ _ (e.trans (Ex.new he0)) ?_)
      dsimp only
      rw [IsTree.back_calm T Rg (no_keep hk), decide_eq_true_iff]
      constructor
      · intro z c hc
        refine Classical.byContradiction fun w => ?_
        have : c ∈ (backL n near t).filter (fun c => !decide (c ∈ R)) := by
          rw [List.mem_filter, Bool.not_eq_true', decide_eq_false_iff_not]
          exact ⟨(mem_backL T).mpr hc, w⟩
        rw [z] at this; cases this
      · intro z
        rw [List.filter_eq_nil_iff]
        intro c hc
        simpa using z c ((mem_backL T).mp hc)
end
end Bw
/-! readings: missing, stronghold -/
namespace Bw
open PySem PySem.Spec PyProof.Rows L2 Evl Bb
def rowD (r : List Nat) : PyData := .list ((List.map (fun x : Nat => (x : Int)) r).map PyData.int)
theorem canLay_rows : ∀ rows : List (List Nat), PyData.canLayAll0 (rows.map rowD) = true
  | [] => by simp [PyData.canLayAll0]
  | r :: rest => by
    have h := canLay_rows rest
    have h1 := PySem.W.canLayAll0_ints (List.map (fun x : Nat => (x : Int)) r)
    rw [List.map_cons, PyData.canLayAll0, h, Bool.and_true]
    unfold rowD
    rw [PyData.canLay0]; exact h1
theorem depth_rows : ∀ rows : List (List Nat), PyData.depthAll (rows.map rowD) ≤ 2
  | [] => by simp [PyData.depthAll]
  | r :: rest => by
    have h := depth_rows rest
    have h1 := PySem.W.depthAll_ints (List.map (fun x : Nat => (x : Int)) r)
    have h2 : PyData.depth (rowD r) ≤ 2 := by
      unfold rowD
      rw [PyData.depth]; omega
    rw [List.map_cons, PyData.depthAll]
    omega
theorem shaped_rows (rows : List (List Nat)) : SeqAt.shaped (.list (rows.map rowD)) = true := by
  have h1 := depth_rows rows
  have h2 : PyData.depth (.list (rows.map rowD)) ≤ 64 := by simp only [PyData.depth]; omega
  show (PyData.canLay0 (.list (rows.map rowD)) && decide (PyData.depth (.list (rows.map rowD)) ≤ 64)) = true
  rw [Bool.and_eq_true]
  exact ⟨by simp only [PyData.canLay0]; exact canLay_rows rows, decide_eq_true h2⟩
section
variable {K : PySem.W.Frag} {C : Addr} {H G G' : Hp}
theorem Dp.rows {a : Addr} {rows : List (List Nat)} (h : LLN H a rows) : Dp K H (.ref a) (.list (rows.map rowD)) := by
  obtain ⟨ads, h1, h2⟩ := h
  refine .lst (SqL.of h1) ?_
  clear h1
  induction h2 with
  | nil => exact .nil
  | cons h _ ih => exact .cons (Dp.nats h) ih
theorem eqNilL {a b : Addr} {rows : List (List Nat)} {Q : VK} (h : LLN H a rows) (hb : H b = some (.lst [])) (q : Q (.bl (decide (rows = []))) H) : rEqD K (.ref a) (.ref b) H Q := by
  refine ⟨_, _, Dp.rows h, .lst (SqL.of hb) .nil, shaped_rows _, shaped_nil, ?_⟩
  rw [eqv_nil, map_nil']; exact q
theorem rd_l_missing : Good (sp_l_missing K C) P_l_missing N_l_missing (t_l_missing K C) := by
  intro vs H Q E h
  obtain ⟨b, p, q, n, t, d, near, rfl, hB, hp, hq, T, hn, kk⟩ := h
  refine ⟨rfl, ?_⟩
  have hpT : SqT K H p [.str (strongW n near t), .ref q] := SqT.of hp
  refine ⟨_, rfl, p, _, _, _, rfl, rfl, hpT, (show _ = some (V.ref q) from rfl), ?_⟩
  refine ⟨_, rfl, p, _, _, _, rfl, rfl, hpT, (show _ = some (V.str (strongW n near t)) from rfl), rfl, _, rfl, ?_⟩
  have hsl := strongL_len (n := n) (near := near) (t := t)
  refine ite2 (fun hk => ?_) (fun hk => ?_)
  · have hk := is_keep.mp hk
    have hq' := hq
    rw [(strong_keep hk).2] at hq'
    have hB0 := hB
    obtain ⟨bads, hb1, hb2⟩ := hB0
    have hbl : (bads.map V.ref).length = n := by rw [List.length_map, hb2.length, T.len]
    dsimp only [tSeq, tAsg, gName, tCall, tCons]
    refine ⟨_, rfl, ?_⟩
    refine lc_rngc n (fun x => !decide (x ∈ keepL n near t)) (by omega) (by show 7 < 9; decide) (fun R' h' => ⟨_, rfl, b, _, rfl, .inl (SqL.of hb1), by rw [hbl]; exact h' H (Ex.refl _)⟩) (fun x G R' hx e h' => ⟨_, rfl, _, rfl, q, _, rfl, .inl (SqL.of (hq'.ex e)), rfl, flat_nV _, _, rfl, ?_⟩) fun D G hD e hL => ?_
    · rw [inV_nV]
      exact h' G (Ex.refl _)
    have hSm : ∀ x, x ∈ (List.range n).filter (fun x => !decide (x ∈ keepL n near t)) ↔ x < n ∧ x ∉ keepL n near t := fun x => by
      rw [List.mem_filter, List.mem_range, Bool.not_eq_true', decide_eq_false_iff_not]
    have hSn : ((List.range n).filter (fun x => !decide (x ∈ keepL n near t))).Nodup := List.nodup_range.filter _
    refine ⟨D, b, n, _, near, rfl, hL, hB.ex e, T.tab, hSn, fun x hx => ((hSm x).mp hx).1, hn, fun ps G1 rows hps e1 hrows P => ?_⟩
    have P : Pieces near ((List.range n).filter (fun x => !decide (x ∈ keepL n near t))) rows := P
    have eG := e.trans e1
    refine ⟨_, rfl, by show 0 ≤ sizeLine; decide, fun e0 he0 => ?_⟩
    dsimp only [tNil]
    have e2 := eG.trans (Ex.new (o := .lst []) he0)
    refine eqNilL (hrows.ex (Ex.new he0)) upd_same ⟨_, rfl, ?_⟩
    refine ite2 (fun hz => ?_) (fun hz => ?_)
    · have hz := of_decide_eq_true hz
      have hall : ∀ x, x < n → x ∈ keepL n near t := fun x hx => Classical.byContradiction fun w => by
        obtain ⟨p, hp, _⟩ := P.cover x ((hSm x).mpr ⟨hx, w⟩)
        rw [hz] at hp; cases hp
      refine ⟨_, rfl, q, _, rfl, .inl (SqL.of (hq'.ex e2)), fun l hl => ?_⟩
      exact kk l _ (keepL n near t) (e2.trans (Ex.new hl)) upd_same ⟨nodup_keepL, (IsTree.region_all T).congr fun x => ⟨hall x, fun z => (mem_keepL.mp z).1⟩⟩
    · have hz : rows ≠ [] := fun z => hz (decide_eq_true z)
      have hpos : 0 < rows.length := List.length_pos_iff.mpr hz
      obtain ⟨row, hrow⟩ : ∃ c, rows[d % rows.length]? = some c := ⟨_, List.getElem?_eq_getElem (Nat.mod_lt _ hpos)⟩
      obtain ⟨rads, hr1, hr2⟩ := hrows.ex (Ex.new (o := .lst []) he0)
      obtain ⟨ra, hra, hrl⟩ := Paired.atI hr2 hrow
      have hlen : rads.length = rows.length := hr2.length
      refine ⟨_, rfl, _, rfl, .inl ⟨_, rfl, _, rfl, ps, _, rfl, .inl (SqL.of hr1), _, _, rfl, rfl, (by show ((rads.map V.ref).length : Int) ≠ 0; rw [List.length_map]; omega), ?_⟩⟩
      dsimp only
      rw [List.length_map, hlen, fmod_nat]
      refine ⟨ps, _, _, _, rfl, rfl, SqL.of hr1, at_ref hra, ?_⟩
      obtain ⟨hsrt, a, ha, hmem⟩ := P.each row (List.mem_of_getElem? hrow)
      refine kk ra _ row e2 hrl ⟨hsrt.imp fun h => Nat.ne_of_lt h, (IsTree.region_comp T ((hSm a).mp ha).1 (S := (· ∈ (List.range n).filter (fun x => !decide (x ∈ keepL n near t)))) ha).congr fun x => (hmem x).symm⟩
  · have hk : keepL n near t = [] := Classical.byContradiction fun z => hk (is_keep.mpr z)
    have hq' := hq
    rw [(strong_back hk).2] at hq'
    have hbl := len_backL (n := n) (near := near) (t := t)
    obtain ⟨bads, hb1, hb2⟩ := hB
    dsimp only [tNext, tSeq, tAsg, gName]
    let few := fun c => decide (((nb near c).filter fun e => decide (e ∈ backL n near t)).length = 1)
    refine lc_cells (backL n near t) few (by omega) (by show 7 < 9; decide) (fun R' h' => ⟨_, rfl, h' q H (Ex.refl _) hq'⟩) (fun c G R' hc e h' => ?_) fun D G hD e hL => ?_
    · have hcn : c < near.length := by rw [T.len]; obtain ⟨f, hf, _⟩ := (mem_backL T).mp hc; exact T.ltl hf
      obtain ⟨ra, hra, hrow⟩ := Paired.atI hb2 (at_nb hcn)
      have hrl : (nb near c).length ≤ n := nodup_le (T.nodup c) (T.lt c)
      dsimp only [tTest, tOp, tCB, tCons, tNil]
      refine lc_cells (nb near c) (fun e => decide (e ∈ backL n near t)) (by omega) (by show 8 < 9; decide) (fun R' h' => ⟨_, rfl, _, rfl, b, _, _, _, rfl, rfl, SqL.of (e _ _ hb1), at_ref hra, h' ra G (Ex.refl _) (hrow.ex e)⟩) (fun x G2 R' hx e2 h' => ⟨_, rfl, _, rfl, q, _, rfl, .inl (SqL.of ((hq'.ex e).ex e2)), rfl, flat_nV _, _, rfl, ?_⟩) fun D2 G2 hD2 e2 hL2 => ?_
      · rw [inV_nV]
        exact h' G2 (Ex.refl _)
      · refine ⟨D2, _, rfl, .inl (SqL.of hL2), rfl, _, rfl, ?_⟩
        have := h' G2 e2
        rw [List.length_map]
        have e3 : decide (V.int (((nb near c).filter fun e => decide (e ∈ backL n near t)).length : Int) = V.int 1) = few c := by
          show _ = decide _
          rw [decide_eq_decide]
          constructor
          · intro z; injection z with z; omega
          · intro z; rw [z]; rfl
        rw [e3]; exact this
    have hfew : ∀ c, c ∈ (backL n near t).filter few ↔ IsTree.Back n near t c ∧ ((nb near c).filter fun e => decide (e ∈ backL n near t)).length = 1 := fun c => by
      rw [List.mem_filter, mem_backL T]
      show _ ∧ decide _ = true ↔ _
      rw [decide_eq_true_iff]
    have hne : (backL n near t).filter few ≠ [] := fun z => by
      obtain ⟨a, c, hac⟩ := IsTree.back_ne T (no_keep hk)
      obtain ⟨g, h, hgh, honly⟩ := IsTree.back_end T _ _ _ (Nat.le_refl _) hac
      have hg := IsTree.Heavy.symm T hgh
      have : g ∈ (backL n near t).filter few := by
        refine (hfew g).mpr ⟨⟨h, hg⟩, ?_⟩
        have e1 : (nb near g).filter (fun e => decide (e ∈ backL n near t)) = (nb near g).filter (fun e => decide (e = h)) := List.filter_congr fun x hx => by
          rw [decide_eq_decide, mem_backL T]
          exact ⟨fun w => honly x hx w, fun w => w ▸ ⟨g, hgh⟩⟩
        rw [e1]
        have h1 : h ∈ nb near g := hg.1
        have : (nb near g).filter (fun e => decide (e = h)) = [h] := by
          have nd := T.nodup g
          clear e1 honly
          generalize nb near g = l at *
          induction l with
          | nil => cases h1
          | cons y r ih =>
            obtain ⟨n1, n2⟩ := List.nodup_cons.mp nd
            rcases List.mem_cons.mp h1 with rfl | h1
            · rw [List.filter_cons, if_pos (by simp)]
              congr 1
              rw [List.filter_eq_nil_iff]
              intro x hx
              simp only [decide_eq_true_eq]
              rintro rfl
              exact n1 hx
            · rw [List.filter_cons, if_neg, ih h1 n2]
              simp only [decide_eq_true_eq]
              rintro rfl
              exact n1 h1
        rw [this]; rfl
      rw [z] at this; cases this
    have hpos := ne_nil_of hne
    obtain ⟨gone, hgone⟩ : ∃ c, ((backL n near t).filter few)[d % ((backL n near t).filter few).length]? = some c := ⟨_, List.getElem?_eq_getElem (Nat.mod_lt _ hpos)⟩
    obtain ⟨hgb, hg1⟩ := (hfew gone).mp (List.mem_of_getElem? hgone)
    refine ⟨_, rfl, _, rfl, .inl ⟨_, rfl, _, rfl, D, _, rfl, .inl (SqL.of hL), _, _, rfl, rfl, (by show (((List.filter few (backL n near t)).map nV).length : Int) ≠ 0; rw [List.length_map]; omega), ?_⟩⟩
    dsimp only
    rw [List.length_map, fmod_nat]
    refine ⟨D, _, _, _, rfl, rfl, SqL.of hL, at_nat hgone, ?_⟩
    dsimp only [tRet]
    refine lc_cells (backL n near t) (fun x => !decide (x = gone)) (by omega) (by show 7 < 9; decide) (fun R h' => ⟨_, rfl, h' q G (Ex.refl _) (hq'.ex e)⟩) (fun x G R hx e h' => ⟨_, rfl, _, rfl, rfl, _, rfl, ?_⟩) fun D2 G2 hD2 e2 hL2 => ?_
    · have e1 : (!decide (nV x = nV gone)) = !decide (x = gone) := by
        congr 1
        rw [decide_eq_decide]
        constructor
        · intro z; injection z with z; omega
        · rintro rfl; rfl
      rw [e1]
      exact h' G (Ex.refl _)
    · obtain ⟨h, hh⟩ := List.length_eq_one_iff.mp hg1
      have hhm : h ∈ (nb near gone).filter fun e => decide (e ∈ backL n near t) := by rw [hh]; simp
      rw [List.mem_filter, decide_eq_true_iff, mem_backL T] at hhm
      refine kk D2 G2 _ (e.trans e2) hL2 ⟨nodup_backL.filter _, ?_⟩
      refine (IsTree.region_drop T (IsTree.back_region T (no_keep hk)) hgb hhm.1 hhm.2 fun x hx hb => ?_).congr fun x => ?_
      · have : x ∈ (nb near gone).filter fun e => decide (e ∈ backL n near t) := by
          rw [List.mem_filter, decide_eq_true_iff, mem_backL T]; exact ⟨hx, hb⟩
        rw [hh] at this
        exact List.mem_singleton.mp this
      · rw [List.mem_filter, mem_backL T, Bool.not_eq_true', decide_eq_false_iff_not]
end
end Bw
/-! readings: stronghold -/
namespace Bw
open PySem PySem.Spec PyProof.Rows L2 Evl Bb
section
variable {K : PySem.W.Frag} {C : Addr} {H G G' : Hp}
theorem near_link {n : Nat} {links : List (Nat × Nat)} {near : List (List Nat)} (N : IsNear n links near) {c d : Nat} (hc : c < n) : d ∈ nb near c ↔ (c, d) ∈ links ∨ (d, c) ∈ links := by
  rw [(N.row c hc).2.mem_iff, mem_nbs]
/-- the piece with a neighbour is a branch -/
theorem side_br {n c d : Nat} {near : List (List Nat)} {S : List Nat} {ps : List (List Nat)} (T : IsTree n near) (P : Pieces near S ps) (hS : ∀ x, x ∈ S ↔ x < n ∧ x ≠ c) (hd : d ∈ nb near c) {p : List Nat} (hp : p ∈ ps) (hdp : d ∈ p) : p.length = be n near c d := by
  have reach : ∀ x, x < n → ∀ y, Reach near (· ∈ S) x y ↔ Reach near (· ≠ c) x y := fun x hx y =>
    ⟨fun h => h.mono fun z _ hz => ((hS z).mp hz).2, fun h => h.mono fun z hz nz => (hS z).mpr ⟨T.rlt hz hx, nz⟩⟩
  obtain ⟨hsrt, a, ha, h⟩ := P.each p hp
  refine (cnt_list (hsrt.imp fun h => Nat.ne_of_lt h) (fun y hy => ((hS y).mp (P.sub hp hy)).1) fun y _ => ?_).symm
  have had := (h d).mp hdp
  rw [h y]
  refine (reach d (T.lt _ _ hd) y).symm.trans ?_
  exact ⟨fun r => had.trans r, fun r => (T.tab.rsymm had).trans r⟩
open Classical in
theorem rd_l_stronghold : Good (sp_l_stronghold K C) P_l_stronghold N_l_stronghold (t_l_stronghold K C) := by
  intro vs H Q E h
  obtain ⟨b, a, n, t, near, links, rfl, hB, hL, T, N, hll, hlt, hn, kk⟩ := h
  refine ⟨rfl, ?_⟩
  have hB0 := hB
  obtain ⟨bads, hb1, hb2⟩ := hB0
  obtain ⟨lads, hl1, hl2⟩ := hL
  have hbl : (bads.map V.ref).length = n := by rw [List.length_map, hb2.length, T.len]
  refine ⟨_, rfl, b, _, rfl, .inl (SqL.of hb1), _, rfl, by rw [hbl]; exact RgOk.of_le (by omega) (by omega) (by omega) (by omega), fun g hg => ?_⟩
  rw [hbl, rgV_nat]
  have e1 : Ex H (upd H g (.lst ((List.range n).map nV))) := Ex.new hg
  have hg1 : LN (upd H g (.lst ((List.range n).map nV))) g (List.range n) := upd_same
  generalize upd H g (.lst ((List.range n).map nV)) = H1 at *
  dsimp only [tSeq, tAsg, gName]
  refine lc_cells (List.range n) (fun c => decide (IsTree.Keep n near t c)) (by simp; omega) (by show 9 < 11; decide) (fun R h' => ⟨_, rfl, h' g H1 (Ex.refl _) hg1⟩) (fun c G R hc e h' => ?_) fun D G hD e hKp => ?_
  · have hcn : c < n := List.mem_range.mp hc
    refine ⟨by show 1 ≤ sizeLine; decide, fun z0 hz0 => ?_⟩
    have ez : Ex G (upd G z0 (.lst [.int 0])) := Ex.new hz0
    refine ⟨_, rfl, _, rfl, _, rfl, g, b, n, c, near, rfl, (hg1.ex e).ex ez, hB.ex ((e1.trans e).trans ez), T, hcn, hn, fun s G2 ss hs e2 hss ⟨hsl, hsm⟩ => ?_⟩
    refine ⟨z0, s, _, _, rfl, rfl, e2 _ _ upd_same, hss, small (by rw [List.length_map]; simp; omega : _ ≤ 1000), fun w hw => ?_⟩
    refine ⟨w, (0 : Int) :: List.map (fun x : Nat => (x : Int)) ss, rfl, SqL.of ?_, by simp, fun m hm1 hm2 => ?_⟩
    · rw [upd_same, List.map_cons, ← natI]; rfl
    refine ⟨_, rfl, _, _, rfl, rfl, _, rfl, ?_⟩
    have : decide (m ≤ (t : Int)) = decide (IsTree.Keep n near t c) := by
      rw [decide_eq_decide]
      constructor
      · intro hmt d hd
        have h1 := hm2 ((be n near c d : Nat) : Int) (List.mem_cons_of_mem _ (List.mem_map.mpr ⟨_, (hsm _).mpr ⟨d, hd, rfl⟩, rfl⟩))
        omega
      · intro hkp
        rcases List.mem_cons.mp hm1 with rfl | hm1
        · omega
        · obtain ⟨v, hv, rfl⟩ := List.mem_map.mp hm1
          obtain ⟨d, hd, rfl⟩ := (hsm v).mp hv
          have := hkp d hd
          omega
    rw [this]
    exact h' _ ((ez.trans e2).trans (Ex.new hw))
  have hKp : LN G D (keepL n near t) := hKp
  refine ⟨_, rfl, by show 0 ≤ sizeLine; decide, fun e0 he0 => ?_⟩
  dsimp only [tNil]
  have e2 := (e1.trans e).trans (Ex.new (o := .lst []) he0)
  refine neNil (hKp.ex (Ex.new he0)) upd_same ⟨_, rfl, ?_⟩
  refine ite2 (fun hz => ?_) (fun hz => ?_)
  · have hz : keepL n near t ≠ [] := by simpa using hz
    obtain ⟨w1, w2⟩ := strong_keep hz
    refine ⟨_, rfl, by show 2 ≤ sizeLine; decide, fun p hp => ?_⟩
    refine kk p _ (fresh_back e2 hp) (e2.trans (Ex.new hp)) ⟨D, ?_, fresh_back e1 hD, ?_⟩
    · rw [upd_same, w1]
    · rw [w2]
      exact (hKp.ex (Ex.new he0)).ex (Ex.new hp)
  · have hz : keepL n near t = [] := by simpa using hz
    obtain ⟨w1, w2⟩ := strong_back hz
    refine ⟨by show 0 ≤ sizeLine; decide, fun f0 hf0 => ?_⟩
    have e3 := e2.trans (Ex.new (o := .lst []) hf0)
    have hf1 : LN (upd (upd G e0 (.lst [])) f0 (.lst [])) f0 [] := upd_same
    have hg2 : LN (upd (upd G e0 (.lst [])) f0 (.lst [])) g (List.range n) := ((hg1.ex e).ex (Ex.new he0)).ex (Ex.new hf0)
    generalize (upd (upd G e0 (.lst [])) f0 (.lst [])) = H2 at *
    let big := fun (x : Nat) (l : Nat × Nat) => (x = l.1 ∨ x = l.2) ∧ t < be n near l.1 l.2 ∧ t < be n near l.2 l.1
    refine ⟨_, rfl, a, rfl, ⟨_, SqL.of (e3 _ _ hl1)⟩, for_list (K := K) (a := a) (xs := lads.map V.ref) (fun i σ G => ∃ (F : Addr) (fd : List Nat) (u6 u7 u8 : Option V), σ = [some (.ref b), some (.ref a), some (nV t), some (.ref g), some (.ref D), some (.ref F), u6, u7, u8, none, none] ∧ Ex H2 G ∧ LN G F fd ∧ fd.length ≤ 2 * i ∧ ∀ x, x ∈ fd ↔ ∃ l, l ∈ links.take i ∧ big x l)
      ⟨f0, [], none, none, none, rfl, Ex.refl _, hf1, Nat.le_refl _, fun x => by simp⟩ (fun i σ G _ ⟨_, _, _, _, _, _, e, _⟩ => SqL.of ((e3.trans e) _ _ hl1)) ?_ ?_⟩
    · rintro i v σ G hi ⟨F, fd, u6, u7, u8, rfl, e, hF, hfl, hfm⟩
      obtain ⟨P, hPi, rfl⟩ := map_at hi
      obtain ⟨⟨u, w⟩, hli, hP⟩ := Paired.atL hl2 hPi
      have hP : H P = some (.tup [nV u, nV w]) := hP
      have hil := ixlt hli
      have eG := e3.trans e
      have hmem : (u, w) ∈ links := List.mem_of_getElem? hli
      have hun : u < n := (hlt _ hmem).1
      have hwu : w ∈ nb near u := (near_link N hun).mpr (.inl hmem)
      dsimp only [tSeq, tAsg, gName]
      refine lc_cells (List.range n) (fun x => !decide (x = u)) (by simp; omega) (by show 9 < 11; decide) (fun R h' => ⟨_, rfl, h' g G (Ex.refl _) (hg2.ex e)⟩) (fun x G2 R hx e' h' => ⟨_, rfl, _, rfl, P, _, _, _, rfl, rfl, SqT.of ((eG.trans e') _ _ hP), (show _ = some (nV u) from rfl), rfl, _, rfl, ?_⟩) fun Rs G2 hRs e4 hRl => ?_
      · have e1 : (!decide (nV x = nV u)) = !decide (x = u) := by
          congr 1
          rw [decide_eq_decide]
          constructor
          · intro z; injection z with z; omega
          · rintro rfl; rfl
        rw [e1]
        exact h' G2 (Ex.refl _)
      have hSm : ∀ x, x ∈ (List.range n).filter (fun x => !decide (x = u)) ↔ x < n ∧ x ≠ u := fun x => by
        rw [List.mem_filter, List.mem_range, Bool.not_eq_true', decide_eq_false_iff_not]
      have hSn : ((List.range n).filter (fun x => !decide (x = u))).Nodup := List.nodup_range.filter _
      have hPT : ∀ {G}, Ex H G → SqT K G P [nV u, nV w] := fun e => SqT.of (e _ _ hP)
      have go : ∀ Q' : VK, (∀ (L : Addr) (r : List V) (G4 : Hp), Ex G2 G4 → G4 L = some (.lst (nV (be n near u w) :: r)) → Q' (.ref L) G4) →
          tLc (iList K (tCall (sp_l_pieces K C) [] E0 (tCons (tVar 0) (tCons (tVar 7) tNil)))) (gName 10) (tTest (tOp (rIn K false) (tOp (rIxT K) (tVar 6) (tC (.int 1))) (tVar 10))) (tCB (rLenQ K) (tCons (tVar 10) tNil)) [10]
          [some (.ref b), some (.ref a), some (nV t), some (.ref g), some (.ref D), some (.ref F), some (.ref P), some (.ref Rs), u8, none, none] G2 Q' := by
        intro Q' kq
        refine ⟨_, rfl, _, rfl, Rs, b, n, _, near, rfl, hRl, hB.ex (eG.trans e4), T.tab, hSn, fun x hx => ((hSm x).mp hx).1, hn, fun ps G3 rows hps e5 hrows Pc => ?_⟩
        have Pc : Pieces near ((List.range n).filter (fun x => !decide (x = u))) rows := Pc
        have hrl : rows.length ≤ n := by
          have h1 := pieces_small Pc hSn
          have h2 := List.length_filter_le (fun x => !decide (x = u)) (List.range n)
          rw [List.length_range] at h2
          omega
        have e35 := (eG.trans e4).trans e5
        obtain ⟨pads, hp1, hp2⟩ := hrows
        obtain ⟨zs, z1, z2, z3⟩ := Paired.zipped hp2
        have hzl : zs.length = rows.length := by rw [← z2, List.length_map]
        have go2 : tLc (iList K (tC (.ref ps))) (gName 10) (tTest (tOp (rIn K false) (tOp (rIxT K) (tVar 6) (tC (.int 1))) (tVar 10))) (tCB (rLenQ K) (tCons (tVar 10) tNil)) [10]
            [some (.ref b), some (.ref a), some (nV t), some (.ref g), some (.ref D), some (.ref F), some (.ref P), some (.ref Rs), u8, none, none] G3 Q' := by
          refine lc_over (K := K) zs (fun z => V.ref z.1) (fun z => decide (w ∈ z.2)) (fun z _ v => v = nV z.2.length) (fun _ _ _ _ _ h => h) (by omega) ?_ ?_ ?_ ?_
          · intro R h'
            refine h' ps G3 (Ex.refl _) ?_
            have : zs.map (fun z => V.ref z.1) = pads.map V.ref := by rw [← z1, List.map_map]; rfl
            rw [this]; exact hp1
          · intro z G4 R hz e' h'
            refine ⟨_, rfl, P, _, _, _, rfl, rfl, hPT (e35.trans e'), (show _ = some (nV w) from rfl), _, rfl, z.1, _, rfl, .inl (SqL.of ((z3 z hz).ex e')), rfl, flat_nV _, _, rfl, ?_⟩
            rw [inV_nV]
            exact h' G4 (Ex.refl _)
          · intro z G4 R hz _ e' h'
            refine ⟨_, rfl, z.1, _, rfl, .inl (SqL.of ((z3 z hz).ex e')), ?_⟩
            rw [List.length_map]
            exact h' (nV z.2.length) G4 (Ex.refl _) fun _ _ _ => rfl
          · intro L G4 vs hL e' hv hp
            have := paired_map hp
            subst this
            have hall : ∀ z ∈ zs.filter (fun z => decide (w ∈ z.2)), z.2.length = be n near u w := fun z hz => by
              rw [List.mem_filter, decide_eq_true_iff] at hz
              exact side_br T Pc hSm hwu (by rw [← z2]; exact List.mem_map.mpr ⟨z, hz.1, rfl⟩) hz.2
            obtain ⟨pw, hpw, hww⟩ := Pc.cover w ((hSm w).mpr ⟨T.lt _ _ hwu, T.ne hwu⟩)
            rw [← z2] at hpw
            obtain ⟨z0, hz0, rfl⟩ := List.mem_map.mp hpw
            have hz1 : z0 ∈ zs.filter (fun z => decide (w ∈ z.2)) := by
              rw [List.mem_filter, decide_eq_true_iff]; exact ⟨hz0, hww⟩
            cases hf : zs.filter (fun z => decide (w ∈ z.2)) with
            | nil => rw [hf] at hz1; cases hz1
            | cons y r =>
              rw [hf] at hv hall
              have hy := hall y (by simp)
              rw [List.map_cons, hy] at hv
              exact kq L _ G4 (e5.trans e') hv
        exact go2
      dsimp only [tSeq, tAsg, gName, tOp]
      refine go _ fun L r G4 e6 hL4 => ?_
      refine ⟨L, _, _, _, rfl, rfl, SqL.of hL4, (show _ = _ from atI_nat (j := 0) rfl), ?_⟩
      have hb2 := T.be_add hwu
      have e46 := e4.trans e6
      have no : ¬ (t < be n near u w ∧ t < be n near w u) → (∃ (F' : Addr) (fd' : List Nat) (u6 u7 u8 : Option V), [some (V.ref b), some (.ref a), some (nV t), some (.ref g), some (.ref D), some (.ref F), some (.ref P), some (.ref Rs), some (nV (be n near u w)), none, none] = [some (.ref b), some (.ref a), some (nV t), some (.ref g), some (.ref D), some (.ref F'), u6, u7, u8, none, none] ∧ Ex H2 G4 ∧ LN G4 F' fd' ∧ fd'.length ≤ 2 * (i + 1) ∧ ∀ x, x ∈ fd' ↔ ∃ l, l ∈ links.take (i + 1) ∧ big x l) := fun hno => by
        refine ⟨F, fd, some (.ref P), some (.ref Rs), some (nV (be n near u w)), rfl, e.trans e46, hF.ex e46, by omega, fun x => ?_⟩
        rw [hfm x, take_succ hli]
        constructor
        · rintro ⟨l, h1, h2⟩
          exact ⟨l, List.mem_append_left _ h1, h2⟩
        · rintro ⟨l, h1, h2⟩
          rcases List.mem_append.mp h1 with h1 | h1
          · exact ⟨l, h1, h2⟩
          · rw [List.mem_singleton.mp h1] at h2
            exact (hno h2.2).elim
      refine ⟨_, rfl, _, rfl, _, _, rfl, rfl, _, rfl, ?_⟩
      refine ite2 (fun h1 => ?_) (fun h1 => ?_)
      · have h1 : t < be n near u w := by have := of_decide_eq_true h1; omega
        refine ⟨_, rfl, g, _, rfl, .inl (SqL.of ((hg2.ex e).ex e46)), _, rfl, _, _, rfl, rfl, _, rfl, _, _, rfl, rfl, _, rfl, ?_⟩
        refine ite2 (fun h2 => ?_) (fun h2 => ?_)
        · have h2 : t < be n near w u := by
            have := of_decide_eq_true h2
            rw [List.length_map, List.length_range] at this; omega
          refine ⟨_, rfl, _, rfl, P, _, _, _, rfl, rfl, hPT (eG.trans e46), (show _ = some (nV u) from rfl), _, rfl, P, _, _, _, rfl, rfl, hPT (eG.trans e46), (show _ = some (nV w) from rfl), by show 2 ≤ sizeLine; decide, fun c2 hc2 => ?_⟩
          have e7 := e46.trans (Ex.new (o := .lst [nV u, nV w]) hc2)
          refine ⟨F, c2, _, _, rfl, rfl, hF.ex e7, upd_same, small (by rw [List.length_map]; simp; omega : _ ≤ 1000), fun F2 hF2 => ?_⟩
          refine ⟨F2, fd ++ [u, w], some (.ref P), some (.ref Rs), some (nV (be n near u w)), rfl, (e.trans e7).trans (Ex.new hF2), ?_, by rw [List.length_append]; simp; omega, fun x => ?_⟩
          · show upd _ _ _ _ = _
            rw [upd_same, List.map_append]; rfl
          · rw [List.mem_append, hfm x, take_succ hli]
            constructor
            · rintro (⟨l, h3, h4⟩ | h3)
              · exact ⟨l, List.mem_append_left _ h3, h4⟩
              · exact ⟨(u, w), List.mem_append_right _ (by simp), by simpa using h3, h1, h2⟩
            · rintro ⟨l, h3, h4⟩
              rcases List.mem_append.mp h3 with h3 | h3
              · exact .inl ⟨l, h3, h4⟩
              · rw [List.mem_singleton.mp h3] at h4
                exact .inr (by simpa using h4.1)
        · obtain ⟨F', fd', v6, v7, v8, hσ, hr⟩ := no fun z => h2 (decide_eq_true (by rw [List.length_map, List.length_range]; omega))
          exact ⟨F', fd', v6, v7, v8, hσ, hr⟩
      · obtain ⟨F', fd', v6, v7, v8, hσ, hr⟩ := no fun z => h1 (decide_eq_true (by omega))
        exact iteF ⟨F', fd', v6, v7, v8, hσ, hr⟩
    · rintro σ G ⟨F, fd, u6, u7, u8, rfl, e, hF, hfl, hfm⟩
      have hlen : (lads.map V.ref).length = links.length := by rw [List.length_map, hl2.length]
      rw [hlen] at hfl hfm
      rw [List.take_length] at hfm
      have eG := e3.trans e
      have ebk : (List.range n).filter (fun x => decide (x ∈ fd)) = backL n near t := by
        unfold backL
        refine List.filter_congr fun c hc => ?_
        have hcn : c < n := List.mem_range.mp hc
        rw [decide_eq_decide, hfm c]
        constructor
        · rintro ⟨⟨u, w⟩, h1, h2 | h2, h3, h4⟩
          · dsimp only at h2 h3 h4; subst h2
            exact ⟨w, (near_link N hcn).mpr (.inl h1), h3, h4⟩
          · dsimp only at h2 h3 h4; subst h2
            exact ⟨u, (near_link N hcn).mpr (.inr h1), h4, h3⟩
        · rintro ⟨d, hd, h3, h4⟩
          rcases (near_link N hcn).mp hd with h1 | h1
          · exact ⟨_, h1, .inl rfl, h3, h4⟩
          · exact ⟨_, h1, .inr rfl, h4, h3⟩
      dsimp only [tRet, tTup, tCons, tC]
      refine lc_cells (List.range n) (fun x => decide (x ∈ fd)) (by simp; omega) (by show 9 < 11; decide) (fun R h' => ⟨_, rfl, h' g G (Ex.refl _) (hg2.ex e)⟩) (fun x G2 R hx e' h' => ⟨_, rfl, _, rfl, F, _, rfl, .inl (SqL.of (hF.ex e')), rfl, flat_nV _, _, rfl, ?_⟩) fun L G2 hL e4 hLn => ?_
      · rw [inV_nV]
        exact h' G2 (Ex.refl _)
      · refine ⟨by show 2 ≤ sizeLine; decide, fun p hp => ?_⟩
        rw [ebk] at hLn
        refine kk p _ (fresh_back (eG.trans e4) hp) ((eG.trans e4).trans (Ex.new hp)) ⟨L, ?_, fresh_back eG hL, ?_⟩
        · rw [upd_same, w1]
        · rw [w2]; exact hLn.ex (Ex.new hp)
end
end Bw
/-! readings: grown -/
namespace Bw
open PySem PySem.Spec PyProof.Rows L2 Evl Bb
theorem for_rng1 {k : Nat} {g : TG} {tb : TS} {D : Ends} {σ : L2.St} {H : Hp} (Pv : Nat → L2.St → Hp → Prop) (h0 : Pv 0 σ H)
    (hs : ∀ i σ H, i + 1 < k → Pv i σ H → g (nV (i + 1)) σ H fun σ2 H2 => tb { D with nx := Pv (i + 1), ct := Pv (i + 1), bk := D.nx } σ2 H2) (hd : ∀ σ H, Pv (k - 1) σ H → D.nx σ H) :
    ∃ W : Nat → Nat → L2.St → Hp → Prop, (∃ m, W 0 m σ H) ∧ ∀ i m σ H, W i m σ H →
      ((Itr 1 ((k : Int) - 1).toNat).stop i H ∧ D.nx σ H) ∨ ((Itr 1 ((k : Int) - 1).toNat).go i H ∧ ∃ N : L2.St → Hp → Prop, (∀ σ' H', N σ' H' → ∃ m', m' < m ∧ W (i + 1) m' σ' H') ∧ ∀ x H', (Itr 1 ((k : Int) - 1).toNat).yld i H x H' → g x σ H' fun σ2 H2 => tb { D with nx := N, ct := N, bk := D.nx } σ2 H2) := by
  refine for_range (lo := 1) (n := ((k : Int) - 1).toNat) Pv h0 (fun i σ H hi p => ?_) (fun σ H p => hd σ H ?_)
  · have e : (1 : Int) + (i : Int) = ((i + 1 : Nat) : Int) := by omega
    rw [e]; exact hs i σ H (by omega) p
  · have e : ((k : Int) - 1).toNat = k - 1 := by omega
    rw [e] at p; exact p
section
variable {K : PySem.W.Frag} {C : Addr} {H G G' : Hp}
theorem ins_perm (xs : List Nat) (i y : Nat) : (xs.take i ++ [y] ++ xs.drop i).Perm (y :: xs) := by
  rw [List.append_assoc]
  have h : (xs.take i ++ y :: xs.drop i).Perm (y :: (xs.take i ++ xs.drop i)) := List.perm_middle
  rw [List.take_append_drop] at h
  exact h
theorem map_ins {α : Type} (f : α → V) (xs : List α) (i : Nat) (y : α) : (xs.map f).take i ++ [f y] ++ (xs.map f).drop i = (xs.take i ++ [y] ++ xs.drop i).map f := by
  rw [List.map_append, List.map_append, List.map_take, List.map_drop]; rfl
theorem rd_l_grown : Good (sp_l_grown K C) P_l_grown N_l_grown (t_l_grown K C) := by
  intro vs H Q E h
  obtain ⟨c, b, n, k, near, rfl, hB, T, hk1, hkn, hn, kk⟩ := h
  refine ⟨rfl, ?_⟩
  have hB0 := hB
  obtain ⟨bads, hb1, hb2⟩ := hB0
  have hbl : ((bads.map V.ref).length : Int) = (n : Int) := by rw [List.length_map, hb2.length, T.len]
  have hnpos := T.pos
  refine ⟨_, rfl, b, _, rfl, .inl (SqL.of hb1), ?_⟩
  rw [hbl]
  refine ⟨_, rfl, by show 1 ≤ sizeLine; decide, fun m0 hm0 => ?_⟩
  have e0 : Ex H (upd H m0 (.lst [nV n])) := Ex.new hm0
  have hM0 : LN (upd H m0 (.lst [nV n])) m0 [n] := upd_same
  generalize upd H m0 (.lst [nV n]) = H1 at *
  refine ⟨_, rfl, 1, _, rfl, ⟨by decide, by decide, by omega, by omega⟩, for_rng1 (k := k) (fun i σ G => ∃ (m : Addr) (menu : List Nat) (u5 : Option V), σ = [some (.int c), some (.ref b), some (nV k), some (nV n), some (.ref m), u5, none, none, none, none, none] ∧ Ex H G ∧ LN G m (n :: menu) ∧ menu.length = 2 * i ∧ ∀ x ∈ menu, 1 ≤ x ∧ x ≤ 10000)
    ⟨m0, [], none, rfl, e0, hM0, rfl, fun x hx => by cases hx⟩ ?_ ?_⟩
  · rintro i σ G hi ⟨m, menu, u5, rfl, e, hM, hml, hmm⟩
    refine ⟨_, rfl, _, rfl, _, rfl, _, _, rfl, rfl, by show 2 ≤ sizeLine; decide, fun p2 hp2 => ?_⟩
    have e2 : Ex G (upd G p2 (.lst [nV n, .int (((i + 1 : Nat) : Int) + 1)])) := Ex.new hp2
    refine ⟨m, p2, _, _, rfl, rfl, hM.ex e2, upd_same, small (by simp; omega : _ ≤ 1000), fun m2 hm2 => ?_⟩
    refine ⟨m2, menu ++ [n, i + 2], some (nV (i + 1)), rfl, (e.trans e2).trans (Ex.new hm2), ?_, by rw [List.length_append]; simp; omega, fun x hx => ?_⟩
    · show upd _ _ _ _ = _
      rw [upd_same, ← List.cons_append, List.map_append]
      congr 3
    · rcases List.mem_append.mp hx with hx | hx
      · exact hmm x hx
      · simp at hx; omega
  · rintro σ G ⟨m, menu, u5, rfl, e, hM, hml, hmm⟩
    refine ⟨_, rfl, _, rfl, c, m, n :: menu, rfl, hM, fun x hx => ?_, by simp; omega, fun d G2 ds hd e2 hds hpd => ?_⟩
    · rcases List.mem_cons.mp hx with rfl | hx
      · omega
      · exact hmm x hx
    have hpd : Paired (fun d m => d < m) ds (n :: menu) := hpd
    have hdl : ds.length = 2 * (k - 1) + 1 := by rw [hpd.length, List.length_cons, hml]
    obtain ⟨d0, hd0, hd0n⟩ := Paired.atI hpd (i := 0) rfl
    have eG := e.trans e2
    refine ⟨_, rfl, d, _, _, nV d0, rfl, rfl, SqL.of hds, (show _ = _ from at_nat hd0), by show 1 ≤ sizeLine; decide, fun r hr => ?_⟩
    have hrH : H r = none := fresh_back eG hr
    have e3 : Ex H (upd G2 r (.lst [nV d0])) := eG.trans (Ex.new hr)
    have hR0 : LN (upd G2 r (.lst [nV d0])) r [d0] := upd_same
    have hds3 := hds.ex (Ex.new (o := .lst [nV d0]) hr)
    have ndr : d ≠ r := ne_of_none hds hr
    generalize upd G2 r (.lst [nV d0]) = G3 at *
    refine ⟨_, rfl, 1, _, rfl, ⟨by decide, by decide, by omega, by omega⟩, for_rng1 (k := k) (fun i σ G => ∃ (R : List Nat) (u5 u8 : Option V), σ = [some (.int c), some (.ref b), some (nV k), some (nV n), some (.ref m), u5, some (.ref d), some (.ref r), u8, none, none] ∧ Ex H G ∧ LN G d ds ∧ LN G r R ∧ R.length = i + 1 ∧ R.Nodup ∧ IsTree.Region n near (· ∈ R))
      ⟨[d0], _, none, rfl, e3, hds3, hR0, rfl, by simp, (IsTree.region_one T hd0n).congr fun x => by simp⟩ ?_ ?_⟩
    · rintro i σ G4 hi ⟨R, u5, u8, rfl, e4, hds4, hR, hRl, hRn, Rg⟩
      let p : Nat → Bool := fun x => !decide (x ∈ R) && !decide ((nb near x).filter (fun y => decide (y ∈ R)) = [])
      have hp : ∀ x, p x = true ↔ x ∉ R ∧ ∃ y, y ∈ nb near x ∧ y ∈ R := fun x => by
        show (_ && _) = true ↔ _
        rw [Bool.and_eq_true, Bool.not_eq_true', decide_eq_false_iff_not, Bool.not_eq_true', decide_eq_false_iff_not]
        refine and_congr_right fun _ => ?_
        constructor
        · intro z
          obtain ⟨y, hy⟩ := List.exists_mem_of_ne_nil _ z
          rw [List.mem_filter, decide_eq_true_iff] at hy
          exact ⟨y, hy⟩
        · rintro ⟨y, h1, h2⟩ z
          have : y ∈ (nb near x).filter (fun y => decide (y ∈ R)) := by
            rw [List.mem_filter, decide_eq_true_iff]; exact ⟨h1, h2⟩
          rw [z] at this; cases this
      dsimp only [tSeq, tAsg, gName]
      refine lc_rngc n p (by omega) (by show 9 < 11; decide) (fun R' h' => ⟨_, rfl, h' G4 (Ex.refl _)⟩) (fun x G5 R' hx e5 h' => ?_) fun L G5 hL e5 hLn => ?_
      · have hxn : x < near.length := by rw [T.len]; exact List.mem_range.mp hx
        obtain ⟨ra, hra, hrow⟩ := Paired.atI hb2 (at_nb hxn)
        have hrl : (nb near x).length ≤ n := nodup_le (T.nodup x) (T.lt x)
        have e45 := e4.trans e5
        refine ⟨_, rfl, _, rfl, r, _, rfl, .inl (SqL.of (hR.ex e5)), rfl, flat_nV _, _, rfl, ?_⟩
        rw [inV_nV]
        refine ite2 (fun h1 => ?_) (fun h1 => ?_)
        · have h1 : x ∉ R := by simpa using h1
          dsimp only [tTest, tOp]
          refine lc_cells (nb near x) (fun e => decide (e ∈ R)) (by omega) (by show 10 < 11; decide) (fun R' h' => ⟨_, rfl, _, rfl, b, _, _, _, rfl, rfl, SqL.of (e45 _ _ hb1), at_ref hra, h' ra G5 (Ex.refl _) (hrow.ex e45)⟩) (fun y G6 R' hy e6 h' => ⟨_, rfl, _, rfl, r, _, rfl, .inl (SqL.of ((hR.ex e5).ex e6)), rfl, flat_nV _, _, rfl, ?_⟩) fun D2 G6 hD2 e6 hL2 => ?_
          · rw [inV_nV]
            exact h' G6 (Ex.refl _)
          · refine ⟨by show 0 ≤ sizeLine; decide, fun z0 hz0 => ?_⟩
            dsimp only [tNil]
            refine neNil (hL2.ex (Ex.new hz0)) upd_same ⟨_, rfl, ?_⟩
            have := h' _ (e6.trans (Ex.new (o := .lst []) hz0))
            have e7 : p x = !decide ((nb near x).filter (fun y => decide (y ∈ R)) = []) := by
              show (_ && _) = _
              rw [decide_eq_false h1]; rfl
            rw [e7] at this
            exact this
        · have h1 : x ∈ R := by simpa using h1
          have := h' _ (Ex.refl _)
          have e7 : p x = false := by
            show (_ && _) = _
            rw [decide_eq_true h1]; rfl
          rw [e7] at this
          exact this
      · have hR5 := hR.ex e5
        have hds5 := hds4.ex e5
        have hbm : ∀ x, x ∈ (List.range n).filter p ↔ x < n ∧ x ∉ R ∧ ∃ y, y ∈ nb near x ∧ y ∈ R := fun x => by
          rw [List.mem_filter, List.mem_range, hp]
        have hne : (List.range n).filter p ≠ [] := fun z => by
          have hex : ∃ x, x < n ∧ x ∉ R := Classical.byContradiction fun w => by
            have h1 := cnt_list (n := n) (P := (· ∈ R)) hRn Rg.lt fun x _ => Iff.rfl
            rw [cnt_true fun x hx => Classical.byContradiction fun v => w ⟨x, hx, v⟩] at h1
            omega
          obtain ⟨x, hx, hxR⟩ := hex
          obtain ⟨y, w, hy, hw, hwR⟩ := IsTree.border_ne T Rg hx hxR
          have : w ∈ (List.range n).filter p := (hbm w).mpr ⟨T.lt _ _ hw, hwR, y, T.symm _ _ hw, hy⟩
          rw [z] at this; cases this
        have hpos := ne_nil_of hne
        obtain ⟨v1, hv1⟩ : ∃ v, ds[2 * (i + 1)]? = some v := ⟨_, List.getElem?_eq_getElem (by omega)⟩
        obtain ⟨v2, hv2⟩ : ∃ v, ds[2 * (i + 1) - 1]? = some v := ⟨_, List.getElem?_eq_getElem (by omega)⟩
        obtain ⟨w, hw⟩ : ∃ v, ((List.range n).filter p)[v2 % ((List.range n).filter p).length]? = some v := ⟨_, List.getElem?_eq_getElem (Nat.mod_lt _ hpos)⟩
        obtain ⟨hwn, hwR, y, hy1, hy2⟩ := (hbm w).mp (List.mem_of_getElem? hw)
        have ei : (2 : Int) * ((i + 1 : Nat) : Int) = ((2 * (i + 1) : Nat) : Int) := by omega
        have ei2 : (2 : Int) * ((i + 1 : Nat) : Int) - 1 = ((2 * (i + 1) - 1 : Nat) : Int) := by omega
        obtain ⟨v1m, hv1m⟩ : ∃ v1m, (n :: menu)[2 * (i + 1)]? = some v1m ∧ v1 < v1m := Paired.atL hpd hv1
        have hv1s : v1m ≤ 10000 := by
          have := List.mem_of_getElem? hv1m.1
          rcases List.mem_cons.mp this with h | h
          · omega
          · exact (hmm _ h).2
        refine ⟨_, rfl, .inl ⟨rfl, _, SqL.of hR5⟩, _, rfl, _, rfl, _, _, rfl, rfl, .inl (by decide), d, _, _, _, rfl, rfl, SqL.of hds5, (by rw [ei]; exact at_nat hv1), _, rfl, _, rfl, _, rfl, _, _, rfl, rfl, .inl (by decide), _, _, rfl, rfl, d, _, _, _, rfl, rfl, SqL.of hds5, (by rw [ei2]; exact at_nat hv2), .inl ⟨_, rfl, _, rfl, L, _, rfl, .inl (SqL.of hLn), _, _, rfl, rfl, (by show (((List.filter p (List.range n)).map nV).length : Int) ≠ 0; rw [List.length_map]; omega), ?_⟩⟩
        dsimp only
        rw [List.length_map, fmod_nat]
        refine ⟨L, _, _, _, rfl, rfl, SqL.of hLn, at_nat hw, ?_⟩
        refine ⟨r, _, _, _, rfl, rfl, hR5, small' (by rw [List.length_map]; omega : _ < 1000), by omega, by omega, ?_⟩
        have hpm := ins_perm R v1 w
        refine ⟨R.take v1 ++ [w] ++ R.drop v1, some (nV (i + 1)), _, rfl, (e4.trans e5).mut hrH, ?_, ?_, ?_, ?_, ?_⟩
        · show upd _ _ _ _ = _
          rw [upd_ne ndr]; exact hds5
        · show upd _ _ _ _ = _
          rw [upd_same, ← map_ins]; rfl
        · rw [hpm.length_eq, List.length_cons, hRl]
        · rw [hpm.nodup_iff, List.nodup_cons]; exact ⟨hwR, hRn⟩
        · refine (IsTree.region_grow T Rg hy2 (T.symm _ _ hy1)).congr fun x => ?_
          rw [hpm.mem_iff, List.mem_cons]
          exact ⟨fun z => z.symm, fun z => z.symm⟩
    · rintro σ G4 ⟨R, u5, u8, rfl, e4, hds4, hR, hRl, hRn, Rg⟩
      exact ⟨_, rfl, kk r G4 R hrH e4 hR ⟨hRn, Rg⟩⟩
end
end Bw
/-! readings: the walk, all sizes -/
namespace Bw
open PySem PySem.Spec PyProof.Rows L2 Evl Bb
section
variable {K : PySem.W.Frag} {C : Addr} {H G G' : Hp}
theorem LW.app {q t : Addr} {ws : List (Nat × Option Nat)} {ads : List Addr} (hq : G q = some (.lst (ads.map V.ref))) (hp : Paired (fun p w => G p = some (.tup [nV w.1, pV w.2])) ads ws) (ht : G t = none) (w : Nat × Option Nat) :
    LW (upd (upd G t (.tup [nV w.1, pV w.2])) q (.lst (ads.map V.ref ++ [.ref t]))) q (ws ++ [w]) := by
  have nqt : q ≠ t := ne_of_none hq ht
  refine ⟨ads ++ [t], by rw [upd_same, List.map_append]; rfl, Paired.snoc (Paired.mono (fun p w z => ?_) hp) ?_⟩
  · have h1 : p ≠ q := fun e => by rw [e, hq] at z; cases z
    rw [upd_ne h1]
    exact Ex.new ht _ _ z
  · rw [upd_ne (fun e => nqt e.symm), upd_same]
theorem scal_pV (e : Nat) (o : Option Nat) : scal (nV e) (pV o) = true := by cases o <;> rfl
theorem ne_pV (e : Nat) (o : Option Nat) : (!decide (nV e = pV o)) = !decide (some e = o) := by
  congr 1
  rw [decide_eq_decide]
  cases o with
  | none =>
    constructor
    · intro z
      have z : V.int (e : Int) = V.int (-1) := z
      injection z with z; omega
    · intro z; cases z
  | some d =>
    constructor
    · intro z
      have z : V.int (e : Int) = V.int (d : Int) := z
      injection z with z
      congr 1; omega
    · intro z
      injection z with z
      rw [z]; rfl
theorem rd_walk_from : Good (sp_walk_from K C) P_walk_from N_walk_from (t_walk_from K C) := by
  intro vs H Q E h
  obtain ⟨b, n, near, rfl, hB, T, hn, kk⟩ := h
  refine ⟨rfl, ?_⟩
  obtain ⟨bads, hb1, hb2⟩ := hB
  refine ⟨_, rfl, _, rfl, by show 2 ≤ sizeLine; decide, fun t0 ht0 => ⟨by show 1 ≤ sizeLine; decide, fun q hq => ?_⟩⟩
  have e1 : Ex H (upd H t0 (.tup [.int 0, .int (-1)])) := Ex.new ht0
  have e2 := e1.trans (Ex.new (o := .lst [.ref t0]) hq)
  have hqH : H q = none := fresh_back e1 hq
  have hW0 : LW (upd (upd H t0 (.tup [.int 0, .int (-1)])) q (.lst [.ref t0])) q [(0, none)] := by
    refine ⟨[t0], upd_same, .cons ?_ .nil⟩
    exact Ex.new hq _ _ upd_same
  refine ⟨fun m σ G => ∃ (ws : List (Nat × Option Nat)) (at_ : Nat) (u4 u5 u6 : Option V), m = n + 1 - at_ ∧ σ = [some (.ref b), some (.int 0), some (.ref q), some (nV at_), u4, u5, u6] ∧ Ex H G ∧ LW G q ws ∧ at_ ≤ ws.length ∧ WGrow n near ws at_,
    ⟨_, [(0, none)], 0, none, none, none, rfl, rfl, e2, hW0, Nat.zero_le _, WGrow.init T⟩, ?_⟩
  rintro m σ G ⟨ws, at_, u4, u5, u6, rfl, rfl, e, hW, hat, W⟩
  have hwl := W.toWalk.len
  obtain ⟨ads, hq1, hq2⟩ := hW
  have hal : ads.length = ws.length := hq2.length
  refine ⟨_, rfl, _, rfl, q, _, rfl, .inl (SqL.of hq1), _, _, rfl, rfl, _, rfl, ?_⟩
  refine ite2 (fun hlt => ?_) (fun hge => ?_)
  · have hlt : at_ < ws.length := by
      have := of_decide_eq_true hlt
      rw [List.length_map] at this
      omega
    obtain ⟨⟨d, o⟩, hd⟩ : ∃ w, ws[at_]? = some w := ⟨_, List.getElem?_eq_getElem hlt⟩
    obtain ⟨p, hp, hpt⟩ := Paired.atI hq2 hd
    have hpt : G p = some (.tup [nV d, pV o]) := hpt
    have hdn : d < n := W.lt _ (List.mem_of_getElem? hd)
    obtain ⟨ra, hra, hrow⟩ := Paired.atI hb2 (at_nb (by rw [T.len]; exact hdn))
    have hrl : (nb near d).length ≤ n := nodup_le (T.nodup d) (T.lt d)
    refine ⟨fun σ G => ∃ (ws : List (Nat × Option Nat)) (u4 u5 u6 : Option V), σ = [some (.ref b), some (.int 0), some (.ref q), some (nV (at_ + 1)), u4, u5, u6] ∧ Ex H G ∧ LW G q ws ∧ at_ + 1 ≤ ws.length ∧ WGrow n near ws (at_ + 1), ?_, ?_⟩
    · rintro σ' G' ⟨ws', v4, v5, v6, h1⟩
      exact ⟨n + 1 - (at_ + 1), by omega, ws', at_ + 1, v4, v5, v6, rfl, h1⟩
    refine ⟨_, rfl, _, rfl, q, _, _, _, rfl, rfl, SqL.of hq1, at_ref hp, p, _, rfl, SqT.of hpt, rfl, _, _, rfl, _, _, rfl, rfl, ?_⟩
    let mo := fun j => (((nb near d).take j).filter fun e => !decide (some e = o)).map fun e => (e, some d)
    have hmo : ∀ j, (mo j).length ≤ n := fun j => by
      show (List.map _ _).length ≤ n
      rw [List.length_map]
      exact Nat.le_trans (List.length_filter_le _ _) (Nat.le_trans (List.length_take_le' _ _) hrl)
    refine ⟨_, rfl, _, rfl, b, _, _, _, rfl, rfl, SqL.of (e _ _ hb1), at_ref hra, ra, rfl, ⟨_, SqL.of (e _ _ hrow)⟩, for_list (K := K) (a := ra) (xs := (nb near d).map nV) (fun j σ G => ∃ (u6 : Option V), σ = [some (.ref b), some (.int 0), some (.ref q), some (nV at_), some (nV d), some (pV o), u6] ∧ Ex H G ∧ LW G q (ws ++ mo j))
      ⟨u6, rfl, e, ads, hq1, by show Paired _ ads (ws ++ []); rw [List.append_nil]; exact hq2⟩ (fun j σ G _ ⟨_, _, e, _⟩ => SqL.of (e _ _ hrow)) ?_ ?_⟩
    · rintro j v σ G hj ⟨u6, rfl, e, ads, hq1, hq2⟩
      obtain ⟨c, hc, rfl⟩ := map_at hj
      refine ⟨_, rfl, _, rfl, scal_pV c o, _, rfl, ?_⟩
      rw [ne_pV]
      refine ite2 (fun h1 => ?_) (fun h1 => ?_)
      · have hal : ads.length ≤ 400 := by
          have := hmo j
          rw [hq2.length, List.length_append]; omega
        refine ⟨_, rfl, .inl ⟨rfl, _, SqL.of hq1⟩, _, rfl, _, rfl, by show 2 ≤ sizeLine; decide, fun t ht => ?_⟩
        refine ⟨q, _, _, rfl, rfl, Ex.new ht _ _ hq1, small' (by rw [List.length_map]; omega : _ < 1000), ?_⟩
        refine ⟨some (nV c), rfl, (e.trans (Ex.new ht)).mut hqH, ?_⟩
        have := LW.app hq1 hq2 ht (c, some d)
        have e3 : mo (j + 1) = mo j ++ [(c, some d)] := by
          show (((nb near d).take (j + 1)).filter _).map _ = _
          rw [take_succ hc, List.filter_append, List.map_append, List.filter_cons, if_pos h1]; rfl
        rw [e3, ← List.append_assoc]
        exact this
      · refine ⟨some (nV c), rfl, e, ads, hq1, ?_⟩
        have e3 : mo (j + 1) = mo j := by
          show (((nb near d).take (j + 1)).filter _).map _ = _
          rw [take_succ hc, List.filter_append, List.map_append, List.filter_cons, if_neg h1]
          simp [mo]
        rw [e3]; exact hq2
    · rintro σ G ⟨u6, rfl, e, hW⟩
      rw [List.length_map] at hW
      refine ⟨_, rfl, _, _, rfl, rfl, ?_⟩
      refine ⟨_, _, _, _, rfl, e, hW, by rw [List.length_append]; omega, W.step T hd ?_⟩
      show _ = _
      rw [List.take_length]
  · have hge : at_ = ws.length := by
      have : ¬ (at_ : Int) < ((ads.map V.ref).length : Int) := fun z => hge (decide_eq_true z)
      rw [List.length_map] at this
      omega
    exact ⟨_, rfl, kk q G ws hqH e ⟨ads, hq1, hq2⟩ W.toWalk (W.all T hge)⟩
def LWa (H : Hp) (a : Addr) (ads : List Addr) (ws : List (Nat × Option Nat)) : Prop := H a = some (.lst (ads.map V.ref)) ∧ Paired (fun p w => H p = some (.tup [nV w.1, pV w.2])) ads ws
theorem LWa.upd {p a : Addr} {ads : List Addr} {ws : List (Nat × Option Nat)} {l l' : List V} (h : LWa G p ads ws) (ha : G a = some (.lst l)) (n : a ≠ p) : LWa (upd G a (.lst l')) p ads ws := by
  obtain ⟨h1, h2⟩ := h
  refine ⟨by rw [upd_ne (fun e => n e.symm)]; exact h1, Paired.mono (fun q w z => ?_) h2⟩
  rw [upd_ne (fun e => by rw [e, ha] at z; cases z)]
  exact z
theorem LW.upd {p a : Addr} {ws : List (Nat × Option Nat)} {l l' : List V} (h : LW G p ws) (ha : G a = some (.lst l)) (n : a ≠ p) : LW (upd G a (.lst l')) p ws := by
  obtain ⟨ads, h1, h2⟩ := h
  refine ⟨ads, by rw [upd_ne (fun e => n e.symm)]; exact h1, Paired.mono (fun q w z => ?_) h2⟩
  rw [upd_ne (fun e => by rw [e, ha] at z; cases z)]
  exact z
theorem iteYes {b : Bool} {A B : Prop} (hb : b = true) (h : A) : if b = true then A else B := by rw [if_pos hb]; exact h
theorem iteNo {b : Bool} {A B : Prop} (hb : b = false) (h : B) : if b = true then A else B := by rw [if_neg (by rw [hb]; decide)]; exact h
theorem natAdd (a b : Nat) : V.int ((a : Int) + (b : Int)) = nV (a + b) := by show _ = V.int ((a + b : Nat) : Int); rw [Int.natCast_add]
theorem natSub {a b : Nat} (h : b ≤ a) : V.int ((a : Int) - (b : Int)) = nV (a - b) := by show _ = V.int ((a - b : Nat) : Int); rw [Int.ofNat_sub h]
theorem rd_Tree_all_sizes (T : TrA K C) : Good (sp_Tree_all_sizes K C) P_Tree_all_sizes N_Tree_all_sizes (t_Tree_all_sizes K C) := by
  intro vs H Q E h
  obtain ⟨x, n, near, links, rfl, TA, kk⟩ := h
  refine ⟨rfl, ?_⟩
  have hn := TA.small
  have TT := TA.tree
  obtain ⟨dx, l, q, hx, hl, hq⟩ := TA.ob
  refine ⟨by show 1 ≤ sizeLine; decide, fun g hg => ?_⟩
  have e1 : Ex H (upd H g (.lst [.int 1])) := Ex.new hg
  refine ⟨_, rfl, x, C, dx, _, _, rfl, e1 _ _ hx, T.cl, T.nS, look_size n l q, g, _, _, rfl, rfl, upd_same, by omega, by omega, small (by simp; omega : _ ≤ 1000), fun B hB0 => ?_⟩
  have eR : (List.replicate ((n : Int)).toNat [V.int 1]).flatten = (List.replicate n 1).map nV := by rw [flat_rep, List.map_replicate]; rfl
  rw [eR]
  have e2 : Ex H (upd (upd H g (.lst [.int 1])) B (.lst ((List.replicate n 1).map nV))) := e1.trans (Ex.new hB0)
  have hBH : H B = none := fresh_back e1 hB0
  have hB1 : LN (upd (upd H g (.lst [.int 1])) B (.lst ((List.replicate n 1).map nV))) B (List.replicate n 1) := upd_same
  generalize upd (upd H g (.lst [.int 1])) B (.lst ((List.replicate n 1).map nV)) = H1 at *
  dsimp only [tSeq, tAsg, gName]
  refine lc_empties n (by omega) (fun R h' => ⟨_, rfl, x, C, dx, _, _, rfl, e2 _ _ hx, T.cl, T.nS, look_size n l q, h' H1 (Ex.refl _)⟩) fun F G1 fads hF e3 t => ?_
  have e13 := e2.trans e3
  have hFH : H F = none := fresh_back e2 hF
  have hB2 := hB1.ex e3
  have nBF : B ≠ F := ne_of_none hB1 hF
  refine ⟨_, rfl, x, C, dx, _, _, rfl, e13 _ _ hx, T.cl, T.nN, look_near n l q, q, n, near, rfl, hq.ex e13, TT, hn, fun p G2 ws hp e4 hW W all => ?_⟩
  have e14 := e13.trans e4
  have nBp : B ≠ p := ne_of_none hB2 hp
  have nFp : F ≠ p := ne_of_none t.at_l hp
  have nrp : ∀ r ∈ fads, r ≠ p := fun r hr => by
    obtain ⟨c, hc⟩ := List.getElem?_of_mem hr
    exact ne_of_none (t.row c r hc) hp
  have nrB : ∀ r ∈ fads, r ≠ B := fun r hr e => by
    have := t.new r hr
    rw [e] at this
    rw [hB1] at this; cases this
  have hwl := W.len
  obtain ⟨wads, hw1, hw2⟩ := hW
  have hal : (wads.map V.ref).length = ws.length := by rw [List.length_map, hw2.length]
  refine ⟨p, _, rfl, SqL.of hw1, RT.for_Itv (K := K) (a := p) (xs := wads.map V.ref) (fun i σ G => ∃ (bl : List Nat) (gf : Nat → List Nat) (u3 u4 : Option V), σ = [some (.ref x), some (.ref B), some (.ref F), u3, u4, none, none] ∧ Ex H G ∧ G p = some (.lst (wads.map V.ref)) ∧ Paired (fun p w => G p = some (.tup [nV w.1, pV w.2])) wads ws ∧ LN G B bl ∧ bl.length = n ∧ (∀ y, y < n → bl[y]? = some (ben n near (ws.drop (ws.length - i)) y)) ∧ TblF H1 n (fun c => (gf c).map nV) F fads G ∧ (∀ y, y < n → ∀ v, v ∈ gf y ↔ Fnd n near (ws.drop (ws.length - i)) y v) ∧ ∀ y, y < n → (gf y).length ≤ i)
    ⟨List.replicate n 1, fun _ => [], none, none, rfl, e14, hw1, hw2, hB2.ex e4, by simp, fun y hy => ?_, t.ex e4, fun y hy v => ?_, fun y hy => Nat.le_refl _⟩ (fun i σ G ⟨_, _, _, _, _, _, h1, _⟩ => SqL.of h1) ?_ ?_⟩
  · rw [List.getElem?_replicate, if_pos hy, Nat.sub_zero, List.drop_length]
    rfl
  · rw [Nat.sub_zero, List.drop_length]
    unfold Fnd
    simp
  · rintro i v σ G hil hi ⟨bl, gf, u3, u4, rfl, e, hp1, hp2, hB, hbl, hben, t, hfnd, hgl⟩
    rw [hal] at hil hi
    obtain ⟨pw, hpw, rfl⟩ := map_at hi
    obtain ⟨⟨c, o⟩, hc, hP⟩ := Paired.atL hp2 hpw
    have hP : G pw = some (.tup [nV c, pV o]) := hP
    have hdrop : ws.drop (ws.length - (i + 1)) = (c, o) :: ws.drop (ws.length - i) := by
      have := drop_at hc
      have e1 : ws.length - 1 - i + 1 = ws.length - i := by omega
      have e2 : ws.length - 1 - i = ws.length - (i + 1) := by omega
      rw [e1] at this
      rw [← e2]; exact this
    refine ⟨pw, _, rfl, SqT.of hP, rfl, _, _, rfl, _, _, rfl, rfl, ?_⟩
    cases o with
    | none =>
      refine ⟨_, rfl, _, _, rfl, rfl, _, rfl, ?_⟩
      refine iteNo ?_ ⟨bl, gf, _, _, rfl, e, hp1, hp2, hB, hbl, fun y hy => ?_, t, fun y hy v => ?_, fun y hy => Nat.le_succ_of_le (hgl y hy)⟩
      · decide
      · rw [hdrop, ben_cons, if_neg (by simp)]; exact hben y hy
      · rw [hdrop, Fnd.cons0]; exact hfnd y hy v
    | some d =>
      refine ⟨_, rfl, _, _, rfl, rfl, _, rfl, ?_⟩
      refine iteYes (decide_eq_true (by omega)) ?_
      obtain ⟨ndc, hdn, hcn, hsum⟩ := W.diff TT (List.mem_of_getElem? hc)
      have hbd := hben d hdn
      have hbc := hben c hcn
      have ebc : ben n near (ws.drop (ws.length - i)) c = be n near d c := by
        have := W.ben_eq TT all hc
        have e1 : ws.length - 1 - i + 1 = ws.length - i := by omega
        rw [e1] at this; exact this
      rw [ebc] at hbc
      obtain ⟨rd, hrd⟩ : ∃ r, fads[d]? = some r := ⟨_, List.getElem?_eq_getElem (by rw [t.len]; exact hdn)⟩
      obtain ⟨rc, hrc⟩ : ∃ r, fads[c]? = some r := ⟨_, List.getElem?_eq_getElem (by rw [t.len]; exact hcn)⟩
      have mrd := List.mem_of_getElem? hrd
      have mrc := List.mem_of_getElem? hrc
      refine ⟨_, rfl, _, rfl, B, _, _, _, rfl, rfl, SqL.of hB, at_nat hbd, _, rfl, _, rfl, B, _, _, _, rfl, rfl, SqL.of hB, at_nat hbc, _, _, rfl, rfl, _, rfl, _, rfl, B, _, _, d, rfl, rfl, hB, ixN_nat (by rw [List.length_map]; omega), ?_⟩
      dsimp only
      rw [natAdd, ← List.map_set]
      have eB : Ex H (upd G B (.lst ((bl.set d (ben n near (ws.drop (ws.length - i)) d + be n near d c)).map nV))) := e.mut hBH
      have hB' : LN (upd G B (.lst ((bl.set d (ben n near (ws.drop (ws.length - i)) d + be n near d c)).map nV))) B (bl.set d (ben n near (ws.drop (ws.length - i)) d + be n near d c)) := upd_same
      have hW' : LWa (upd G B (.lst ((bl.set d (ben n near (ws.drop (ws.length - i)) d + be n near d c)).map nV))) p wads ws := LWa.upd ⟨hp1, hp2⟩ hB nBp
      have t' : TblF H1 n (fun c => (gf c).map nV) F fads (upd G B (.lst ((bl.set d (ben n near (ws.drop (ws.length - i)) d + be n near d c)).map nV))) :=
        ⟨by rw [upd_ne (fun z => nBF z.symm)]; exact t.at_l, t.len, t.nd, t.lno, t.new, fun y a h => by rw [upd_ne (nrB a (List.mem_of_getElem? h))]; exact t.row y a h⟩
      generalize upd G B (.lst ((bl.set d (ben n near (ws.drop (ws.length - i)) d + be n near d c)).map nV)) = G3 at *
      have hbl' : (bl.set d (ben n near (ws.drop (ws.length - i)) d + be n near d c)).length = n := by rw [List.length_set, hbl]
      have hbc' : (bl.set d (ben n near (ws.drop (ws.length - i)) d + be n near d c))[c]? = some (be n near d c) := by rw [List.getElem?_set_ne ndc]; exact hbc
      have hbd' : (bl.set d (ben n near (ws.drop (ws.length - i)) d + be n near d c))[d]? = some (ben n near (ws.drop (ws.length - i)) d + be n near d c) := by rw [List.getElem?_set_self (by omega)]
      have hbo' : ∀ y, y < n → y ≠ d → (bl.set d (ben n near (ws.drop (ws.length - i)) d + be n near d c))[y]? = some (ben n near (ws.drop (ws.length - i)) y) := fun y hy ne => by rw [List.getElem?_set_ne (fun z => ne z.symm)]; exact hben y hy
      generalize bl.set d (ben n near (ws.drop (ws.length - i)) d + be n near d c) = bl2 at *
      -- found[parent].append
      refine ⟨_, rfl, _, rfl, F, _, _, _, rfl, rfl, SqL.of t'.at_l, at_ref hrd, .inl ⟨rfl, _, SqL.of (t'.row d rd hrd)⟩, _, rfl, _, rfl, B, _, _, _, rfl, rfl, SqL.of hB', at_nat hbc', rd, _, _, rfl, rfl, t'.row d rd hrd, small' (by rw [List.length_map]; have := hgl d hdn; omega : _ < 1000), ?_⟩
      have t2 := t'.app hrd (fun y => if y = d then (gf d ++ [be n near d c]).map nV else (gf y).map nV) ((gf d).map nV ++ [nV (be n near d c)]) (by rw [if_pos rfl, List.map_append]; rfl) fun y hy => if_neg hy
      have e2' : Ex H (upd G3 rd (.lst ((gf d).map nV ++ [nV (be n near d c)]))) := eB.mut (fresh_back e2 (t.new rd mrd))
      have hB2 : LN (upd G3 rd (.lst ((gf d).map nV ++ [nV (be n near d c)]))) B bl2 := by
        show upd _ _ _ _ = _
        rw [upd_ne (fun z => nrB rd mrd z.symm)]; exact hB'
      have hW2 := LWa.upd (l' := (gf d).map nV ++ [nV (be n near d c)]) hW' (t'.row d rd hrd) (nrp rd mrd)
      generalize upd G3 rd (.lst ((gf d).map nV ++ [nV (be n near d c)])) = G4 at *
      have hrcv : G4 rc = some (.lst ((gf c).map nV)) := by
        have := t2.row c rc hrc
        rw [if_neg (fun z => ndc z.symm)] at this
        exact this
      refine ⟨_, rfl, _, rfl, F, _, _, _, rfl, rfl, SqL.of t2.at_l, at_ref hrc, .inl ⟨rfl, _, SqL.of hrcv⟩, _, rfl, x, C, dx, _, _, rfl, e2' _ _ hx, T.cl, T.nS, look_size n l q, _, rfl, _, rfl, B, _, _, _, rfl, rfl, SqL.of hB2, at_nat hbc', _, _, rfl, rfl, rc, _, _, rfl, rfl, hrcv, small' (by rw [List.length_map]; have := hgl c hcn; omega : _ < 1000), ?_⟩
      dsimp only
      rw [natSub (by omega : be n near d c ≤ n)]
      have ecd : n - be n near d c = be n near c d := by omega
      rw [ecd]
      have t3 := t2.app hrc (fun y => ((if y = d then gf d ++ [be n near d c] else if y = c then gf c ++ [be n near c d] else gf y)).map nV) ((gf c).map nV ++ [nV (be n near c d)]) (by
        rw [if_neg (fun z => ndc z.symm), if_pos rfl, List.map_append]; rfl) fun y hy => by
        by_cases hyd : y = d
        · rw [if_pos hyd, if_pos hyd]
        · rw [if_neg hyd, if_neg hyd, if_neg hy]
      have hW3 := LWa.upd (l' := (gf c).map nV ++ [nV (be n near c d)]) hW2 hrcv (nrp rc mrc)
      obtain ⟨hw1', hw2'⟩ := hW3
      refine ⟨bl2, fun y => if y = d then gf d ++ [be n near d c] else if y = c then gf c ++ [be n near c d] else gf y, _, _, rfl, e2'.mut (fresh_back e2 (t.new rc mrc)), hw1', hw2', ?_, hbl', fun y hy => ?_, t3, fun y hy v => ?_, fun y hy => ?_⟩
      · show upd _ _ _ _ = _
        rw [upd_ne (fun z => nrB rc mrc z.symm)]; exact hB2
      · rw [hdrop, ben_cons]
        by_cases hyd : y = d
        · subst hyd
          rw [if_pos rfl]; exact hbd'
        · rw [if_neg (fun z => hyd (by injection z with z; exact z.symm))]; exact hbo' y hy hyd
      · rw [hdrop, Fnd.cons, ← hfnd y hy v]
        by_cases hyd : y = d
        · subst hyd
          simp only [if_true, List.mem_append, List.mem_singleton, true_and, ndc, false_and, false_or]
          exact Or.comm
        · by_cases hyc : y = c
          · subst hyc
            simp only [hyd, if_false, if_true, List.mem_append, List.mem_singleton, true_and, false_and, false_or]
            exact Or.comm
          · simp only [hyd, hyc, if_false, false_and, false_or]
      · have h1 := hgl y hy
        dsimp only
        split
        · rename_i z; subst z; rw [List.length_append]; simp; exact h1
        · split
          · rename_i z; subst z; rw [List.length_append]; simp; exact h1
          · omega
  · rintro σ G ⟨bl, gf, u3, u4, rfl, e, hp1, hp2, hB, hbl, hben, t, hfnd, hgl⟩
    rw [hal] at hgl hfnd
    rw [Nat.sub_self, List.drop_zero] at hfnd
    have hr := TblF.rows (f := gf) t
    dsimp only [tRet]
    refine lc_rows (K := K) srtdR te_srtR ((List.range n).map gf) (by simp; omega) (by show 6 < 7; decide) (fun R h' => ⟨_, rfl, h' F G (Ex.refl _) hr⟩) fun D G' out hD e' ho hs => ?_
    have hol : out.length = n := by rw [hs.length]; simp
    refine kk D G' out (fresh_back e hD) (e.trans e') ho ⟨hol, fun c r hr => ?_⟩
    have hcn : c < n := by have := ixlt hr; omega
    obtain ⟨r', hr', hpr, _⟩ := Paired.atL hs hr
    have : ((List.range n).map gf)[c]? = some (gf c) := by rw [List.getElem?_map, List.getElem?_range hcn]; rfl
    rw [this] at hr'
    injection hr' with hr'
    subst hr'
    refine ⟨by rw [hpr.length_eq]; have := hgl c hcn; omega, fun v => ?_⟩
    rw [hpr.mem_iff, hfnd c hcn v]
    exact W.fnd TT all hcn
end
end Bw
/-! readings: roots, bad links -/
namespace Bw
open PySem PySem.Spec PyProof.Rows L2 Evl Bb
section
variable {K : PySem.W.Frag} {C : Addr} {H G G' : Hp}
theorem dec_nV (x y : Nat) : decide (nV x = nV y) = decide (x = y) := by
  rw [decide_eq_decide]
  constructor
  · intro z; injection z with z; omega
  · rintro rfl; rfl
theorem rd_root_of : Good (sp_root_of K C) P_root_of N_root_of (t_root_of K C) := by
  intro vs H Q E h
  obtain ⟨a, par, c, ht, rfl, hL, hc, hlen, hht, kk⟩ := h
  refine ⟨rfl, ?_⟩
  refine ⟨fun m σ G => ∃ c', m = ht c' ∧ σ = [some (.ref a), some (nV c')] ∧ Ex H G ∧ c' < par.length ∧ (∀ P : Nat → Prop, P c → (∀ (v u : Nat), par[v]? = some u → P v → P u) → P c'),
    ⟨_, c, rfl, rfl, Ex.refl _, hc, fun P h _ => h⟩, ?_⟩
  rintro m σ G ⟨c', rfl, rfl, e, hc', hP⟩
  obtain ⟨u, hu⟩ : ∃ u, par[c']? = some u := ⟨_, List.getElem?_eq_getElem hc'⟩
  have hs : SqL K G a (par.map nV) := SqL.of (hL.ex e)
  obtain ⟨hul, hor⟩ := hht c' u hu
  refine ⟨_, rfl, _, rfl, a, _, _, _, rfl, rfl, hs, at_nat hu, _, rfl, rfl, _, rfl, ?_⟩
  rw [dec_nV]
  refine ite2 (fun h1 => ?_) (fun h1 => ?_)
  · have h1 : u ≠ c' := by simpa using h1
    refine ⟨fun σ G => ∃ c2, ht c2 < ht c' ∧ σ = [some (.ref a), some (nV c2)] ∧ Ex H G ∧ c2 < par.length ∧ (∀ P : Nat → Prop, P c → (∀ (v u : Nat), par[v]? = some u → P v → P u) → P c2), ?_, ?_⟩
    · rintro σ' G' ⟨c2, h2, h3⟩
      exact ⟨_, h2, c2, rfl, h3⟩
    · refine ⟨_, rfl, _, rfl, a, _, _, _, rfl, rfl, hs, at_nat hu, ?_⟩
      exact ⟨u, hor.resolve_left h1, rfl, e, hul, fun P p0 pc => pc _ _ hu (hP P p0 pc)⟩
  · have h1 : u = c' := by simpa using h1
    subst h1
    exact ⟨_, rfl, kk u G e hc' hu hP⟩
theorem rd_first_bad_link : Good (sp_first_bad_link K C) P_first_bad_link N_first_bad_link (t_first_bad_link K C) := by
  intro vs H Q E h
  obtain ⟨a, n, links, rfl, hL, ⟨π, p, f, M⟩, hn, kk⟩ := h
  refine ⟨rfl, ?_⟩
  obtain ⟨ads, ha, hp⟩ := hL
  refine ⟨_, rfl, _, rfl, RgOk.of_le (by omega) (by omega) (by omega) (by omega), fun B hBn => ?_⟩
  rw [rgV_nat]
  have e1 : Ex H (upd H B (.lst ((List.range n).map nV))) := Ex.new hBn
  have hB1 : LN (upd H B (.lst ((List.range n).map nV))) B (List.range n) := upd_same
  refine ⟨_, rfl, a, _, rfl, SqL.of (e1 _ _ ha), for_enum (K := K) (a := a) (xs := ads.map V.ref) (fun i σ G => ∃ (par : List Nat) (u3 u4 u5 u6 u7 : Option V), σ = [some (nV n), some (.ref a), some (.ref B), u3, u4, u5, u6, u7] ∧ Ex H G ∧ LN G B par ∧ Uf n links π p f i par)
    ⟨List.range n, none, none, none, none, none, rfl, e1, hB1, Uf.init⟩ (fun i σ G _ ⟨_, _, _, _, _, _, _, e, _⟩ => SqL.of (e _ _ ha)) ?_ ?_⟩
  · rintro i v T σ G hi ⟨par, u3, u4, u5, u6, u7, rfl, e, hB, U⟩ hT
    obtain ⟨q, hq, rfl⟩ := map_at hi
    obtain ⟨⟨x, y⟩, hli, hP⟩ := Paired.atL hp hq
    have hP : H q = some (.tup [nV x, nV y]) := hP
    obtain ⟨hx, hy⟩ := M.range (List.mem_of_getElem? hli)
    have eT : Ex G (upd G T (.tup [.int (i : Nat), .ref q])) := Ex.new hT
    have e2 := e.trans eT
    have hB2 := hB.ex eT
    refine ⟨T, _, rfl, SqT.of upd_same, rfl, _, _, rfl, _, _, rfl, ?_⟩
    refine ⟨q, _, rfl, SqT.of (e2 _ _ hP), rfl, _, _, rfl, _, _, rfl, rfl, rfl, ?_⟩
    generalize upd G T (.tup [.int (i : Nat), .ref q]) = G2 at *
    have hpl := U.len
    obtain ⟨ht, ρ, hok⟩ := U.ok
    have hok2 : ∀ (v u : Nat), par[v]? = some u → u < par.length ∧ (u = v ∨ ht u < ht v) := fun v u h => by
      obtain ⟨h1, h2, _⟩ := hok v u h
      exact ⟨by omega, h2⟩
    have in0 : ∀ z : Nat, decide ((0 : Int) ≤ (z : Int)) = true := fun z => decide_eq_true (by omega)
    have in1 : ∀ {z : Nat}, z < n → decide ((z : Int) < (n : Int)) = true := fun h => decide_eq_true (by omega)
    refine ⟨_, rfl, _, _, rfl, rfl, _, rfl, ?_⟩
    refine iteYes (in0 x) ⟨_, rfl, _, _, rfl, rfl, _, rfl, ?_⟩
    rw [in1 hx]
    refine iteF ?_
    refine ⟨_, rfl, _, _, rfl, rfl, _, rfl, ?_⟩
    refine iteYes (in0 y) ⟨_, rfl, _, _, rfl, rfl, _, rfl, ?_⟩
    rw [in1 hy]
    refine iteF ?_
    refine ⟨_, rfl, _, rfl, B, par, x, ht, rfl, hB2, by omega, by omega, hok2, fun r1 G3 e3 hr1 hr1' hr1P => ?_⟩
    refine ⟨_, rfl, _, rfl, B, par, y, ht, rfl, hB2.ex e3, by omega, by omega, hok2, fun r2 G4 e4 hr2 hr2' hr2P => ?_⟩
    have R1 : RootOf par x r1 := ⟨hr1', hr1P⟩
    have R2 : RootOf par y r2 := ⟨hr2', hr2P⟩
    have ne := U.ne M hli R1 R2
    refine ⟨_, rfl, _, rfl, rfl, _, rfl, ?_⟩
    rw [dec_nV, decide_eq_false ne]
    refine iteF ⟨_, rfl, _, rfl, _, rfl, B, _, _, r1, rfl, rfl, (hB2.ex e3).ex e4, ixN_nat (by rw [List.length_map]; omega), ?_⟩
    rw [← List.map_set]
    exact ⟨par.set r1 r2, _, _, _, _, _, rfl, ((e2.trans e3).trans e4).mut hBn, upd_same, U.step M hli R1 R2⟩
  · rintro σ G ⟨par, u3, u4, u5, u6, u7, rfl, e, hB, U⟩
    exact kk G e
end
end Bw
/-! readings: the tree is made -/
namespace Bw
open PySem PySem.Spec PyProof.Rows L2 Evl Bb
section
variable {K : PySem.W.Frag} {C : Addr} {H G G' : Hp}
/-- the pair at a value -/
def kAt (G : Hp) : V → Int × Int
  | .ref t => match G t with
    | some (.tup [.int i, .int j]) => (i, j)
    | _ => (0, 0)
  | _ => (0, 0)
theorem kAt_of {t : Addr} {l : Nat × Nat} (h : PN G t l) : kAt G (.ref t) = ((l.1 : Int), (l.2 : Int)) := by
  have h : G t = some (.tup [nV l.1, nV l.2]) := h
  simp only [kAt, h]
def prAt (G : Hp) (v : V) : Nat × Nat := ((kAt G v).1.toNat, (kAt G v).2.toNat)
theorem prAt_of {t : Addr} {l : Nat × Nat} (h : PN G t l) : prAt G (.ref t) = l := by
  unfold prAt
  rw [kAt_of h]; rfl
theorem prAt_map {ads : List Addr} {ls : List (Nat × Nat)} (h : Paired (PN G) ads ls) : (ads.map V.ref).map (prAt G) = ls := by
  induction h with
  | nil => rfl
  | cons r _ ih => rw [List.map_cons, List.map_cons, prAt_of r, ih]
theorem refs_of : ∀ {ys : List V} {P : Addr → Prop}, (∀ y ∈ ys, ∃ t, y = V.ref t ∧ P t) → ∃ ads : List Addr, ys = ads.map V.ref ∧ ∀ t ∈ ads, P t
  | [], P, _ => ⟨[], rfl, fun t h => by cases h⟩
  | y :: r, P, h => by
    obtain ⟨t, rfl, ht⟩ := h y (by simp)
    obtain ⟨ads, rfl, h2⟩ := refs_of (P := P) (ys := r) fun z hz => h z (List.mem_cons_of_mem _ hz)
    exact ⟨t :: ads, rfl, fun s hs => by
      rcases List.mem_cons.mp hs with rfl | hs
      · exact ht
      · exact h2 s hs⟩
theorem srtPO {a : Addr} {ms : List (Nat × Nat)} {Q : VK} (h : LPN G a ms) (k : ∀ (p : Addr) (G' : Hp) (sl : List (Nat × Nat)), G p = none → Ex G G' → LPN G' p sl → sl.Perm ms → sl.Pairwise plt → Q (.ref p) G') : rSortedPO K [.ref a] G Q := by
  obtain ⟨ads, h1, h2⟩ := h
  refine ⟨a, ads.map V.ref, kAt G, rfl, SqL.of h1, fun x hx => ?_, fun ys p hs hb hp => ?_⟩
  · obtain ⟨t, ht, rfl⟩ := List.mem_map.mp hx
    obtain ⟨i, hi⟩ := List.getElem?_of_mem ht
    obtain ⟨l, _, hl⟩ := Paired.atL h2 hi
    exact ⟨t, rfl, by rw [kAt_of hl]; exact hl⟩
  · have hperm : ys.Perm (ads.map V.ref) := hb.1
    have hall : ∀ y ∈ ys, ∃ t, y = V.ref t ∧ ∃ l, PN G t l := fun y hy => by
      obtain ⟨t, ht, rfl⟩ := List.mem_map.mp (hperm.mem_iff.mp hy)
      obtain ⟨i, hi⟩ := List.getElem?_of_mem ht
      obtain ⟨l, _, hl⟩ := Paired.atL h2 hi
      exact ⟨t, rfl, l, hl⟩
    have hpw : (ys.map (prAt G)).Pairwise plt := by
      rw [List.pairwise_map]
      refine List.Pairwise.imp_of_mem (fun {x y} hx hy hxy => ?_) hs
      obtain ⟨s, rfl, l, hl⟩ := hall x hx
      obtain ⟨t, rfl, m, hm⟩ := hall y hy
      have := SrtO.lexB_no.mp hxy
      rw [kAt_of hl, kAt_of hm] at this
      rw [prAt_of hl, prAt_of hm]
      unfold plt
      simp only at this
      omega
    have hpm : (ys.map (prAt G)).Perm ms := by
      have := hperm.map (prAt G)
      rw [prAt_map h2] at this
      exact this
    obtain ⟨ads', rfl, hads⟩ := refs_of hall
    refine k p _ _ hp (Ex.new hp) ⟨ads', upd_same, ?_⟩ hpm hpw
    have e : Ex G (upd G p (.lst (ads'.map V.ref))) := Ex.new hp
    clear hpw hpm hall hs hb hperm
    generalize upd G p (.lst (ads'.map V.ref)) = G' at *
    induction ads' with
    | nil => exact .nil
    | cons t r ih =>
      obtain ⟨l, hl⟩ := hads t (by simp)
      rw [List.map_cons, List.map_cons, prAt_of hl]
      exact .cons (hl.ex e) (ih fun s hs => hads s (List.mem_cons_of_mem _ hs))
/-- [(min, max) for pair in links] -/
theorem lc_pairs {tl te : TE} {j : Nat} {σ : L2.St} {Q : VK} (ls : List (Nat × Nat)) (hs : ls.length ≤ 10000) (hj : j < σ.length)
    (hte : ∀ (a : Addr) (σ' : L2.St) (G : Hp) (l : Nat × Nat) (R : V → Hp → Prop), σ'[j]? = some (some (.ref a)) → PN G a l → (∀ (p : Addr), G p = none → R (.ref p) (upd G p (.tup [nV (mm l).1, nV (mm l).2]))) → te σ' G R)
    (src : ∀ R : V → Hp → Prop, (∀ (a : Addr) (H1 : Hp), Ex H H1 → LPN H1 a ls → R (.ref a) H1) → tl σ H R)
    (k : ∀ (D : Addr) (G : Hp), H D = none → Ex H G → LPN G D (ls.map mm) → Q (.ref D) G) : tLc (iList K tl) (gName j) tYes te [j] σ H Q := by
  refine src _ fun a H1 e1 hL => ?_
  obtain ⟨ads, ha, hp⟩ := hL
  obtain ⟨zs, z1, z2, z3⟩ := Paired.zipped hp
  have hlen : zs.length = ls.length := by rw [← z2, List.length_map]
  have go : tLc (iList K (tC (.ref a))) (gName j) tYes te [j] σ H1 Q := by
    refine lc_over (K := K) zs (fun z => V.ref z.1) (fun _ => true) (fun z G v => ∃ p, v = .ref p ∧ PN G p (mm z.2)) (fun z G G' v e h => ?_) (by omega) ?_ ?_ ?_ ?_
    · obtain ⟨p, h1, h2⟩ := h
      exact ⟨p, h1, h2.ex e⟩
    · intro R h'
      refine h' a H1 (Ex.refl _) ?_
      have : zs.map (fun z => V.ref z.1) = ads.map V.ref := by rw [← z1, List.map_map]; rfl
      rw [this]; exact ha
    · exact fun z G R _ _ h => h G (Ex.refl G)
    · intro z G R hz _ e h'
      have hr := (z3 z hz).ex e
      have hg : ((wipe σ [j]).set j (some (V.ref z.1)))[j]? = some (some (V.ref z.1)) := List.getElem?_set_self (by rw [wipe_length]; exact hj)
      exact hte _ _ _ _ _ hg hr fun p hp => h' _ _ (Ex.new hp) fun Gd _ kn => ⟨p, rfl, kn _ _ hp upd_same⟩
    · intro D G vs hD e hv hp
      rw [filter_true] at hp
      have : ∀ (vs : List V) (zs : List (Addr × (Nat × Nat))), Paired (fun v (z : Addr × (Nat × Nat)) => ∃ p, v = V.ref p ∧ PN (hid G D) p (mm z.2)) vs zs →
          ∃ (ads : List Addr), vs = ads.map V.ref ∧ Paired (PN G) ads ((zs.map (·.2)).map mm) := fun vs zs h => by
        induction h with
        | nil => exact ⟨[], rfl, .nil⟩
        | cons h _ ih =>
          obtain ⟨p, rfl, h1⟩ := h
          obtain ⟨ads, rfl, h3⟩ := ih
          exact ⟨p :: ads, rfl, .cons (h1.ex (hid_ex G D)) h3⟩
      obtain ⟨ads2, rfl, h3⟩ := this vs zs hp
      rw [z2] at h3
      exact k D G (fresh_back e1 hD) (e1.trans e) ⟨ads2, hv, h3⟩
  exact go
theorem min_if (a b : Nat) : V.int (if (b : Int) < (a : Int) then (b : Int) else (a : Int)) = nV (min a b) := by
  show _ = V.int ((min a b : Nat) : Int)
  congr 1
  split <;> omega
theorem max_if (a b : Nat) : V.int (if (b : Int) > (a : Int) then (b : Int) else (a : Int)) = nV (max a b) := by
  show _ = V.int ((max a b : Nat) : Int)
  congr 1
  split <;> omega
section
variable {x dx : Addr} {fs : List (Str × V)} {o : HO}
theorem off_ne {a : Addr} {o : HO} (h : G a = some o) (hx : G x = some (.ins C dx fs)) (hn : ∀ f, o ≠ .ins C dx f) : a ≠ x := fun e => by
  subst e
  rw [h] at hx
  injection hx with hx
  exact hn _ hx
theorem LN.off {a : Addr} {xs : List Nat} (h : LN G a xs) (hx : G x = some (.ins C dx fs)) : LN (upd G x o) a xs := by
  show upd _ _ _ _ = _
  rw [upd_ne (off_ne h hx fun f z => by cases z)]
  exact h
theorem PN.off {a : Addr} {l : Nat × Nat} (h : PN G a l) (hx : G x = some (.ins C dx fs)) : PN (upd G x o) a l := by
  show upd _ _ _ _ = _
  rw [upd_ne (off_ne h hx fun f z => by cases z)]
  exact h
theorem LLN.off {a : Addr} {rows : List (List Nat)} (h : LLN G a rows) (hx : G x = some (.ins C dx fs)) : LLN (upd G x o) a rows := by
  obtain ⟨ads, h1, h2⟩ := h
  exact ⟨ads, by rw [upd_ne (off_ne h1 hx fun f z => by cases z)]; exact h1, Paired.mono (fun p r z => LN.off z hx) h2⟩
theorem LPN.off {a : Addr} {ls : List (Nat × Nat)} (h : LPN G a ls) (hx : G x = some (.ins C dx fs)) : LPN (upd G x o) a ls := by
  obtain ⟨ads, h1, h2⟩ := h
  exact ⟨ads, by rw [upd_ne (off_ne h1 hx fun f z => by cases z)]; exact h1, Paired.mono (fun p r z => PN.off z hx) h2⟩
end
theorem put1 (v : V) : putF "size" v [] = [(("size" : Str), v)] := rfl
theorem put2 (v w : V) : putF "_links" w [(("size" : Str), v)] = [(("size" : Str), v), (("_links" : Str), w)] := by
  unfold putF
  rw [if_neg (by decide +kernel)]
  rfl
theorem put3 (v w u : V) : putF "_near" u [(("size" : Str), v), (("_links" : Str), w)] = [(("size" : Str), v), (("_links" : Str), w), (("_near" : Str), u)] := by
  unfold putF
  rw [if_neg (by decide +kernel)]
  unfold putF
  rw [if_neg (by decide +kernel)]
  rfl
theorem look_l2 (v w : V) : ([("size", v), ("_links", w)] : List (Str × V)).lookup ("_links" : Str) = some w := by
  rw [List.lookup_cons, str_ne1]
  show List.lookup _ _ = _
  rw [List.lookup_cons, beq_self_eq_true]
theorem rd_Tree_init (T : TrA K C) : Good (sp_Tree_init K C) P_Tree_init N_Tree_init (t_Tree_init K C) := by
  intro vs H Q E h
  obtain ⟨x, dx, a, n, links, rfl, hx, hL, hG, hn, kk⟩ := h
  refine ⟨rfl, ?_⟩
  obtain ⟨π, p, f, M⟩ := hG
  have hlen := M.len
  have hnp := M.pos
  refine ⟨_, rfl, _, rfl, a, n, links, rfl, hL, ⟨π, p, f, M⟩, by omega, fun H1 e1 => ?_⟩
  refine ⟨_, rfl, rfl, _, rfl, iteNS rfl ?_⟩
  have hL1 := hL.ex e1
  have hL1' := hL1
  obtain ⟨lads, hl1, hl2⟩ := hL1'
  have hll : (lads.map V.ref).length = n - 1 := by rw [List.length_map, hl2.length, hlen]
  refine ⟨_, rfl, a, _, rfl, .inl (SqL.of hl1), _, rfl, _, _, rfl, rfl, rfl, _, rfl, iteNS (by rw [hll]; congr 1; omega) ?_⟩
  have hx1 := e1 _ _ hx
  refine ⟨_, rfl, _, rfl, x, C, dx, [], rfl, hx1, T.cl, T.nS, by decide, ?_⟩
  rw [put1]
  have k1 : Kp [x] H (upd H1 x (.ins C dx [("size", nV n)])) := (Kp.of e1).mut (by simp)
  have hL2 : LPN (upd H1 x (.ins C dx [("size", nV n)])) a links := hL1.off hx1
  have hx2 : upd H1 x (.ins C dx [("size", nV n)]) x = some (.ins C dx [("size", nV n)]) := upd_same
  generalize upd H1 x (.ins C dx [("size", nV n)]) = H2 at *
  dsimp only [tSeq, sFld, tCB, tCons]
  refine lc_pairs (K := K) links (by omega) (by show 4 < 5; decide) (fun b σ' G l R hg hl h' => ?_) (fun R h' => ⟨_, rfl, h' a H2 (Ex.refl _) hL2⟩) fun D G3 hD e3 hD3 => ?_
  · have hl : G b = some (.tup [nV l.1, nV l.2]) := hl
    refine ⟨_, hg, ⟨b, _, _, rfl, SqT.of hl, _, hg, ⟨b, _, _, rfl, SqT.of hl, by show 2 ≤ sizeLine; decide, fun t ht => ?_⟩⟩⟩
    rw [min_if, max_if]
    exact h' t ht
  dsimp only [tNil]
  refine srtPO hD3 fun s G4 sl hs e4 hsl hperm hsrt => ?_
  have e34 := e3.trans e4
  have hx4 := e34 _ _ hx2
  refine ⟨_, rfl, x, C, dx, _, rfl, hx4, T.cl, T.nL, by simp, ?_⟩
  rw [put2]
  have k2 : Kp [x] H (upd G4 x (.ins C dx [("size", nV n), ("_links", .ref s)])) := (k1.trans (Kp.of e34)).mut (by simp)
  have hsl5 : LPN (upd G4 x (.ins C dx [("size", nV n), ("_links", .ref s)])) s sl := hsl.off hx4
  have hx5 : upd G4 x (.ins C dx [("size", nV n), ("_links", .ref s)]) x = some (.ins C dx [("size", nV n), ("_links", .ref s)]) := upd_same
  generalize upd G4 x (.ins C dx [("size", nV n), ("_links", .ref s)]) = G5 at *
  have hsll : sl.length = n - 1 := by rw [hperm.length_eq, List.length_map, hlen]
  have hslt : ∀ l ∈ sl, l.1 < n ∧ l.2 < n := fun l hl => by
    obtain ⟨m, hm, rfl⟩ := List.mem_map.mp (hperm.mem_iff.mp hl)
    have := M.range (a := m.1) (b := m.2) hm
    unfold mm
    exact ⟨by simp only; omega, by simp only; omega⟩
  refine ⟨_, rfl, _, rfl, x, C, dx, _, _, rfl, hx5, T.cl, T.nL, look_l2 _ _, s, n, sl, rfl, hsl5, hslt, by omega, by omega, fun q G6 near hq e6 hnr N => ?_⟩
  have N : IsNear n sl near := N
  have hx6 := e6 _ _ hx5
  refine ⟨_, rfl, x, C, dx, _, rfl, hx6, T.cl, T.nN, by simp, ?_⟩
  rw [put3]
  have N2 : IsNear n links near := ⟨N.len, fun c hc => ⟨(N.row c hc).1, (N.row c hc).2.trans ((nbs_perm hperm c).trans (nbs_mm links c))⟩⟩
  refine kk _ near sl (fun b o hb hne => ((k2.trans (Kp.of e6)).mut (by simp)) b o hb (by simpa using hne)) hperm ⟨⟨dx, s, q, upd_same, (hsl5.ex e6).off hx6, hnr.off hx6⟩, M.tree N2, N, hsrt, hn, by omega, hslt⟩
end
end Bw
/-! readings: the law's tree -/
namespace Bw
open PySem PySem.Spec PyProof.Rows L2 Evl Bb
section
variable {K : PySem.W.Frag} {C : Addr} {H G G' : Hp}
theorem Paired.app {α β : Type} {F : α → β → Prop} : ∀ {l1 : List α} {m1 : List β} {l2 : List α} {m2 : List β}, Paired F l1 m1 → Paired F l2 m2 → Paired F (l1 ++ l2) (m1 ++ m2)
  | _, _, _, _, .nil, h => h
  | _, _, _, _, .cons h t, h2 => .cons h (Paired.app t h2)
theorem Paired.takeD {α β : Type} {F : α → β → Prop} : ∀ {l1 : List α} {m1 : List β} (i : Nat), Paired F l1 m1 → Paired F (l1.take i) (m1.take i) ∧ Paired F (l1.drop i) (m1.drop i)
  | _, _, 0, h => ⟨.nil, h⟩
  | _, _, _ + 1, .nil => ⟨.nil, .nil⟩
  | _, _, i + 1, .cons h t => ⟨.cons h (Paired.takeD i t).1, (Paired.takeD i t).2⟩
theorem Paired.ins {α β : Type} {F : α → β → Prop} {l1 : List α} {m1 : List β} (i : Nat) {a : α} {b : β} (h : Paired F l1 m1) (ha : F a b) : Paired F (l1.take i ++ [a] ++ l1.drop i) (m1.take i ++ [b] ++ m1.drop i) :=
  Paired.app (Paired.app (Paired.takeD i h).1 (.cons ha .nil)) (Paired.takeD i h).2
theorem ins_permG {α : Type} (xs : List α) (i : Nat) (y : α) : (xs.take i ++ [y] ++ xs.drop i).Perm (y :: xs) := by
  rw [List.append_assoc]
  have h : (xs.take i ++ y :: xs.drop i).Perm (y :: (xs.take i ++ xs.drop i)) := List.perm_middle
  rw [List.take_append_drop] at h
  exact h
theorem idx_at {nm : List Nat} {k : Nat} (h : k ∈ nm) : nm[nm.idxOf k]? = some k := by
  have h1 := List.idxOf_lt_length_of_mem h
  rw [List.getElem?_eq_getElem h1, List.getElem_idxOf h1]
theorem rd_idx {a : Addr} {nm : List Nat} {k : Nat} {Q : VK} (h : LN G a nm) (hk : k ∈ nm) (hn : nm.Nodup) (q : Q (nV (nm.idxOf k)) G) : rIndex K (.ref a) [nV k] G Q := by
  have h1 := idx_at hk
  refine ⟨a, nm.map nV, nV k, nm.idxOf k, nV k, rfl, rfl, SqL.of h, rfl, flat_nV _, by rw [List.getElem?_map, h1]; rfl, by rw [eqV_nV]; simp, fun m z hm hz => ?_, q⟩
  obtain ⟨y, hy, rfl⟩ := map_at hz
  rw [eqV_nV, decide_eq_false_iff_not]
  rintro rfl
  have := nodup_at hn hy h1
  omega
def tlRest (K : PySem.W.Frag) : TS := (tSeq (tDrop (tBM K "list" rAppend (tVar 8) (tCons (tVar 10) tNil)))
  (tSeq (tDrop (tBM K "list" rInsert (tVar 7) (tCons (tOp (rIxL K) (tVar 6) (tOp rMul (tC (.int 3)) (tVar 5))) (tCons (tVar 5) tNil))))
  (tDrop (tBM K "list" rAppend (tVar 9) (tCons (tOp (rIxL K) (tVar 6) (tOp rAdd (tOp rMul (tC (.int 3)) (tVar 5)) (tC (.int 1)))) tNil)))))
def tlIf3 (K : PySem.W.Frag) : TS := (tIfS (tTest (tOp rEq (tOp (rIxL K) (tVar 2) (tC (.int 1))) (tC (.int 4)))) (tAsg (tOp rSub (tVar 5) (tC (.int 1))) (gName 10)) tNext)
def tlIf2 (K : PySem.W.Frag) : TS := (tIfS (tOr (tAnd (tTest (tOp rEq (tOp (rIxL K) (tVar 2) (tC (.int 1))) (tC (.int 2)))) (tTest (tOp rGt (tOp rMod (tCB rInt1 (tCons (tVar 10) tNil)) (tC (.int 4))) (tC (.int 0))))) (tTest (tOp rEq (tOp (rIxL K) (tVar 2) (tC (.int 1))) (tC (.int 5))))) (tAsg (tC (.int 0)) (gName 10)) tNext)
theorem rd_l_tree : Good (sp_l_tree K C) P_l_tree N_l_tree (t_l_tree K C) := by
  intro vs H Q E h
  obtain ⟨c, m, rfl, hm1, hm2, kk⟩ := h
  refine ⟨rfl, ?_⟩
  refine ⟨_, rfl, _, rfl, by show 2 ≤ sizeLine; decide, fun a0 ha0 => ?_⟩
  have e0 : Ex H (upd H a0 (.lst [nV m, .int 6])) := Ex.new ha0
  refine ⟨c, a0, [m, 6], rfl, upd_same, fun x hx => ?_, by simp, fun hd G1 hl hhd e1 hL1 hp1 => ?_⟩
  · simp at hx; omega
  have hp1 : Paired (fun d m => d < m) hl [m, 6] := hp1
  obtain ⟨h0, hh0, hh0m⟩ := Paired.atI hp1 (i := 0) rfl
  obtain ⟨h1, hh1, hh1m⟩ := Paired.atI hp1 (i := 1) rfl
  have e01 := e0.trans e1
  refine ⟨_, rfl, hd, _, _, nV h0, rfl, rfl, SqL.of hL1, (show _ = _ from at_nat hh0), _, _, rfl, rfl, ?_⟩
  have en : (1 : Int) + (h0 : Int) = ((1 + h0 : Nat) : Int) := by omega
  dsimp only
  rw [en]
  obtain ⟨n, hn⟩ : ∃ n, n = 1 + h0 := ⟨_, rfl⟩
  rw [← hn]
  have hnm : n ≤ m := by omega
  have hn1 : 1 ≤ n := by omega
  refine ⟨_, rfl, by show 2 ≤ sizeLine; decide, fun a1 ha1 => ?_⟩
  have e2 := e01.trans (Ex.new (o := .lst [nV m, .int 6]) ha1)
  have hL2 := hL1.ex (Ex.new (o := .lst [nV m, .int 6]) ha1)
  have hM0 : LN (upd G1 a1 (.lst [nV m, .int 6])) a1 [m, 6] := upd_same
  generalize upd G1 a1 (.lst [nV m, .int 6]) = G2 at *
  refine ⟨_, rfl, 1, _, rfl, ⟨by decide, by decide, by omega, by omega⟩, for_rng1 (k := n) (fun i σ G => ∃ (a : Addr) (menu : List Nat) (u5 : Option V), σ = [some (.int c), some (nV m), some (.ref hd), some (nV n), some (.ref a), u5, none, none, none, none, none, none, none] ∧ Ex G2 G ∧ LN G a menu ∧ menu.length = 2 + 3 * i ∧ (∀ j, j < i → menu[3 * j + 2]? = some (j + 1)) ∧ ∀ x ∈ menu, 1 ≤ x ∧ x ≤ 10000)
    ⟨a1, [m, 6], none, rfl, Ex.refl _, hM0, rfl, fun j hj => by omega, fun x hx => by simp at hx; omega⟩ ?_ ?_⟩
  · rintro i σ G hi ⟨a, menu, u5, rfl, e, hM, hml, hmj, hmm⟩
    refine ⟨_, rfl, _, rfl, _, rfl, _, _, rfl, rfl, _, rfl, _, _, rfl, rfl, .inl (by decide), by show 3 ≤ sizeLine; decide, fun p2 hp2 => ?_⟩
    have e3 : Ex G (upd G p2 (.lst [nV (i + 1), .int (((i + 1 : Nat) : Int) + 1), .int (2 * ((i + 1 : Nat) : Int))])) := Ex.new hp2
    refine ⟨a, p2, _, _, rfl, rfl, hM.ex e3, upd_same, small (by rw [List.length_map, hml]; simp; omega : _ ≤ 1000), fun m2 hm2 => ?_⟩
    refine ⟨m2, menu ++ [i + 1, i + 2, 2 * (i + 1)], some (nV (i + 1)), rfl, (e.trans e3).trans (Ex.new hm2), ?_, by rw [List.length_append, hml]; simp; omega, fun j hj => ?_, fun x hx => ?_⟩
    · show upd _ _ _ _ = _
      rw [upd_same, List.map_append]
      congr 3
    · rcases Nat.lt_or_ge j i with lt | ge
      · rw [List.getElem?_append_left (by omega)]; exact hmj j lt
      · have : j = i := by omega
        subst this
        rw [List.getElem?_append_right (by omega)]
        have : 3 * j + 2 - menu.length = 0 := by omega
        rw [this]; rfl
    · rcases List.mem_append.mp hx with hx | hx
      · exact hmm x hx
      · simp at hx; omega
  rintro σ G ⟨a, menu, u5, rfl, e3, hM, hml, hmj, hmm⟩
  refine ⟨_, rfl, _, rfl, c, a, menu, rfl, hM, hmm, by omega, fun d G3 ds hdn e4 hds hpd => ?_⟩
  have hpd : Paired (fun d m => d < m) ds menu := hpd
  have hdl : ds.length = 2 + 3 * (n - 1) := by rw [hpd.length, hml]
  refine ⟨by show 1 ≤ sizeLine; decide, fun na hna => ⟨by show 0 ≤ sizeLine; decide, fun pa hpa => ⟨by show 0 ≤ sizeLine; decide, fun ta hta => ?_⟩⟩⟩
  have E1 : Ex G3 (upd G3 na (.lst [.int 0])) := Ex.new hna
  have E2 := E1.trans (Ex.new (o := .lst []) hpa)
  have E3 := E2.trans (Ex.new (o := .lst []) hta)
  have nnp : na ≠ pa := ne_of_none (upd_same : upd G3 na (.lst [.int 0]) na = _) hpa
  have nnt : na ≠ ta := ne_of_none (Ex.new hpa _ _ (upd_same : upd G3 na (.lst [.int 0]) na = _)) hta
  have npt : pa ≠ ta := ne_of_none (upd_same : upd (upd G3 na (.lst [.int 0])) pa (.lst []) pa = _) hta
  have hN0 : LN (upd (upd (upd G3 na (.lst [.int 0])) pa (.lst [])) ta (.lst [])) na [0] := Ex.new hta _ _ (Ex.new hpa _ _ upd_same)
  have hP0 : LN (upd (upd (upd G3 na (.lst [.int 0])) pa (.lst [])) ta (.lst [])) pa [] := Ex.new hta _ _ upd_same
  have hT0 : LN (upd (upd (upd G3 na (.lst [.int 0])) pa (.lst [])) ta (.lst [])) ta [] := upd_same
  have pa3 : G3 pa = none := fresh_back E1 hpa
  have ta3 : G3 ta = none := fresh_back E2 hta
  generalize upd (upd (upd G3 na (.lst [.int 0])) pa (.lst [])) ta (.lst []) = G4 at *
  have e23 := e3.trans e4
  have eH3 : Ex H G3 := e2.trans e23
  have hL3 : LN G3 hd hl := hL2.ex e23
  let PV : Nat → L2.St → Hp → Prop := fun i σ G => ∃ (nm pr tr : List Nat) (u5 u10 : Option V), σ = [some (.int c), some (nV m), some (.ref hd), some (nV n), some (.ref a), u5, some (.ref d), some (.ref na), some (.ref pa), some (.ref ta), u10, none, none] ∧ Ex G3 G ∧ LN G na nm ∧ LN G pa pr ∧ LN G ta tr ∧ nm.Perm (List.range (i + 1)) ∧ pr.length = i ∧ tr.length = i ∧ (∀ (j v : Nat), pr[j]? = some v → v ≤ j) ∧ ∀ x ∈ tr, x ≤ 10000
  refine ⟨_, rfl, 1, _, rfl, ⟨by decide, by decide, by omega, by omega⟩, for_rng1 (k := n) PV
    ⟨[0], [], [], _, _, rfl, E3, hN0, hP0, hT0, by decide, rfl, rfl, fun j v h => by simp at h, fun x hx => by simp at hx⟩ ?_ ?_⟩
  · rintro i σ G hi ⟨nm, pr, tr, u5, u10, rfl, e5, hN, hP, hT, hnm', hpl, htl, hpj, htb⟩
    have hdG := hds.ex e5
    have hLG := hL3.ex e5
    let St := fun pv : Int => [some (V.int c), some (nV m), some (.ref hd), some (nV n), some (.ref a), some (nV (i + 1)), some (.ref d), some (.ref na), some (.ref pa), some (.ref ta), some (.int pv), none, none]
    have hnl : nm.length = i + 1 := by rw [hnm'.length_eq, List.length_range]
    obtain ⟨v1, hv1⟩ : ∃ v, ds[3 * (i + 1)]? = some v := ⟨_, List.getElem?_eq_getElem (by omega)⟩
    obtain ⟨v2, hv2⟩ : ∃ v, ds[3 * (i + 1) + 1]? = some v := ⟨_, List.getElem?_eq_getElem (by omega)⟩
    obtain ⟨v0, hv0, hv0k⟩ : ∃ v, ds[3 * i + 2]? = some v ∧ v < i + 1 := Paired.atI hpd (hmj i (by omega))
    have i1 : (3 : Int) * ((i + 1 : Nat) : Int) = ((3 * (i + 1) : Nat) : Int) := by omega
    have i2 : (3 : Int) * ((i + 1 : Nat) : Int) + 1 = ((3 * (i + 1) + 1 : Nat) : Int) := by omega
    have i0 : (3 : Int) * ((i + 1 : Nat) : Int) - 1 = ((3 * i + 2 : Nat) : Int) := by omega
    have hv1s : v1 ≤ 10000 := by
      obtain ⟨w, hw, hvw⟩ := Paired.atL hpd hv1
      have := (hmm w (List.mem_of_getElem? hw)).2
      omega
    have rest : ∀ (D : Ends) (pv : Int), 0 ≤ pv → pv < (i : Int) + 1 → (∀ σ G, PV (i + 1) σ G → D.nx σ G) → tlRest K D (St pv) G := by
      intro D pv h0 h1 kD
      obtain ⟨w, rfl⟩ : ∃ w : Nat, pv = (w : Int) := ⟨pv.toNat, by omega⟩
      refine ⟨_, rfl, .inl ⟨rfl, _, SqL.of hP⟩, _, rfl, pa, _, _, rfl, rfl, hP, small' (by rw [List.length_map]; omega : _ < 1000), ?_⟩
      have hN1 : LN (upd G pa (.lst (pr.map nV ++ [nV w]))) na nm := by
        show upd _ _ _ _ = _
        rw [upd_ne nnp]; exact hN
      have hT1 : LN (upd G pa (.lst (pr.map nV ++ [nV w]))) ta tr := by
        show upd _ _ _ _ = _
        rw [upd_ne (fun z => npt z.symm)]; exact hT
      have hP1 : LN (upd G pa (.lst (pr.map nV ++ [nV w]))) pa (pr ++ [w]) := by
        show upd _ _ _ _ = _
        rw [upd_same, List.map_append]; rfl
      have e6 : Ex G3 (upd G pa (.lst (pr.map nV ++ [nV w]))) := e5.mut pa3
      generalize upd G pa (.lst (pr.map nV ++ [nV w])) = G5 at *
      refine ⟨_, rfl, .inl ⟨rfl, _, SqL.of hN1⟩, _, rfl, _, rfl, _, _, rfl, rfl, .inl (by decide), d, _, _, _, rfl, rfl, SqL.of (hds.ex e6), (by rw [i1]; exact at_nat hv1), _, rfl, ?_⟩
      refine ⟨na, _, _, _, rfl, rfl, hN1, small' (by rw [List.length_map]; omega : _ < 1000), by omega, by omega, ?_⟩
      have ev : ((v1 : Nat) : Int).toNat = v1 := rfl
      rw [ev, map_ins]
      have hT2 : LN (upd G5 na (.lst ((nm.take v1 ++ [i + 1] ++ nm.drop v1).map nV))) ta tr := by
        show upd _ _ _ _ = _
        rw [upd_ne (fun z => nnt z.symm)]; exact hT1
      have hP2 : LN (upd G5 na (.lst ((nm.take v1 ++ [i + 1] ++ nm.drop v1).map nV))) pa (pr ++ [w]) := by
        show upd _ _ _ _ = _
        rw [upd_ne (fun z => nnp z.symm)]; exact hP1
      have hN2 : LN (upd G5 na (.lst ((nm.take v1 ++ [i + 1] ++ nm.drop v1).map nV))) na (nm.take v1 ++ [i + 1] ++ nm.drop v1) := upd_same
      have e7 : Ex G3 (upd G5 na (.lst ((nm.take v1 ++ [i + 1] ++ nm.drop v1).map nV))) := e6.mut hna
      generalize upd G5 na (.lst ((nm.take v1 ++ [i + 1] ++ nm.drop v1).map nV)) = G6 at *
      refine ⟨_, rfl, .inl ⟨rfl, _, SqL.of hT2⟩, _, rfl, _, rfl, _, _, rfl, rfl, .inl (by decide), _, _, rfl, rfl, d, _, _, _, rfl, rfl, SqL.of (hds.ex e7), (by rw [i2]; exact at_nat hv2), ta, _, _, rfl, rfl, hT2, small' (by rw [List.length_map]; omega : _ < 1000), kD _ _ ?_⟩
      refine ⟨nm.take v1 ++ [i + 1] ++ nm.drop v1, pr ++ [w], tr ++ [v2], _, _, rfl, e7.mut ta3, ?_, ?_, ?_, ?_, by rw [List.length_append, hpl]; rfl, by rw [List.length_append, htl]; rfl, fun j v hj => ?_, fun x hx => ?_⟩
      · show upd _ _ _ _ = _
        rw [upd_ne nnt]; exact hN2
      · show upd _ _ _ _ = _
        rw [upd_ne npt]; exact hP2
      · show upd _ _ _ _ = _
        rw [upd_same, List.map_append]; rfl
      · refine (ins_perm nm v1 (i + 1)).trans ?_
        rw [List.range_succ (n := i + 1)]
        exact (List.Perm.cons _ hnm').trans (List.perm_append_singleton _ _).symm
      · rcases Nat.lt_or_ge j pr.length with lt | ge
        · rw [List.getElem?_append_left lt] at hj; exact hpj j v hj
        · rw [List.getElem?_append_right ge] at hj
          have h3 := ixlt hj
          have : j - pr.length = 0 := by simpa using h3
          rw [this] at hj
          simp at hj
          omega
      · rcases List.mem_append.mp hx with hx | hx
        · exact htb x hx
        · rw [List.mem_singleton.mp hx]
          obtain ⟨w, hw, hvw⟩ := Paired.atL hpd hv2
          have := (hmm w (List.mem_of_getElem? hw)).2
          omega
    have rest3 : ∀ (D : Ends) (pv : Int), 0 ≤ pv → pv < (i : Int) + 1 → (∀ σ G, PV (i + 1) σ G → D.nx σ G) → tSeq (tlIf3 K) (tlRest K) D (St pv) G := by
      intro D pv h0 h1' kD
      refine ⟨_, rfl, hd, _, _, nV h1, rfl, rfl, SqL.of hLG, (show _ = _ from at_nat hh1), rfl, _, rfl, ?_⟩
      refine ite2 (fun _ => ?_) (fun _ => rest D pv h0 h1' kD)
      refine ⟨_, rfl, _, _, rfl, rfl, ?_⟩
      exact rest D (((i + 1 : Nat) : Int) - 1) (by omega) (by omega) kD
    have rest2 : ∀ (D : Ends) (pv : Int), 0 ≤ pv → pv < (i : Int) + 1 → (∀ σ G, PV (i + 1) σ G → D.nx σ G) → tSeq (tlIf2 K) (tSeq (tlIf3 K) (tlRest K)) D (St pv) G := by
      intro D pv h0 h1' kD
      have five : tIfS (tTest (tOp rEq (tOp (rIxL K) (tVar 2) (tC (.int 1))) (tC (.int 5)))) (tAsg (tC (.int 0)) (gName 10)) tNext { D with nx := tSeq (tlIf3 K) (tlRest K) D } (St pv) G := by
        refine ⟨_, rfl, hd, _, _, nV h1, rfl, rfl, SqL.of hLG, (show _ = _ from at_nat hh1), rfl, _, rfl, ?_⟩
        refine ite2 (fun _ => ?_) (fun _ => rest3 D pv h0 h1' kD)
        exact rest3 D 0 (by omega) (by omega) kD
      refine ⟨_, rfl, hd, _, _, nV h1, rfl, rfl, SqL.of hLG, (show _ = _ from at_nat hh1), rfl, _, rfl, ?_⟩
      refine ite2 (fun _ => ?_) (fun _ => iteF five)
      refine ⟨_, rfl, .inl ⟨_, rfl, _, _, rfl, rfl, (by show (4 : Int) ≠ 0; decide), _, _, rfl, rfl, _, rfl, ?_⟩⟩
      refine ite2 (fun _ => iteT (rest3 D 0 (by omega) (by omega) kD)) (fun _ => five)
    refine ⟨_, rfl, _, rfl, _, _, rfl, rfl, .inl (by decide), _, _, rfl, rfl, d, _, _, _, rfl, rfl, SqL.of hdG, (by rw [i0]; exact at_nat hv0), ?_⟩
    refine ⟨_, rfl, hd, _, _, nV h1, rfl, rfl, SqL.of hLG, (show _ = _ from at_nat hh1), rfl, _, rfl, ?_⟩
    refine ite2 (fun _ => ?_) (fun _ => rest2 _ (v0 : Int) (by omega) (by omega) fun _ _ h => h)
    have hmn : (1 : Int) ≤ (if (2 : Int) < ((i + 1 : Nat) : Int) then 2 else ((i + 1 : Nat) : Int)) ∧ (if (2 : Int) < ((i + 1 : Nat) : Int) then 2 else ((i + 1 : Nat) : Int)) ≤ ((i + 1 : Nat) : Int) := by split <;> omega
    have hfm := fmodI (v0 : Int) _ hmn.1
    refine ⟨_, rfl, _, _, rfl, rfl, _, rfl, .inl ⟨_, rfl, _, rfl, _, _, rfl, _, _, rfl, rfl, (by show (if (2 : Int) < ((i + 1 : Nat) : Int) then (2 : Int) else ((i + 1 : Nat) : Int)) ≠ 0; omega), _, _, rfl, rfl, rest2 _ (((i + 1 : Nat) : Int) - 1 - (v0 : Int).fmod (if (2 : Int) < ((i + 1 : Nat) : Int) then 2 else ((i + 1 : Nat) : Int))) (by omega) (by omega) fun _ _ h => h⟩⟩
  · rintro σ G ⟨nm, pr, tr, u5, u10, rfl, e5, hN, hP, hT, hnm', hpl, htl, hpj, htb⟩
    have en1 : n - 1 + 1 = n := by omega
    rw [en1] at hnm'
    have hnd : nm.Nodup := hnm'.nodup_iff.mpr List.nodup_range
    have hnl : nm.length = n := by rw [hnm'.length_eq, List.length_range]
    have hmem : ∀ k, k ∈ nm ↔ k < n := fun k => by rw [hnm'.mem_iff, List.mem_range]
    let π : Nat → Nat := fun k => nm.idxOf k
    let p : Nat → Nat := fun k => pr.getD (k - 1) 0
    let f : Nat → Bool := fun k => decide (tr.getD (k - 1) 0 % 2 = 1)
    refine ⟨by show 0 ≤ sizeLine; decide, fun la hla => ?_⟩
    have e6 : Ex G (upd G la (.lst [])) := Ex.new hla
    have hla0 : (upd G la (.lst [])) la = some (.lst []) := upd_same
    refine ⟨_, rfl, 1, _, rfl, ⟨by decide, by decide, by omega, by omega⟩, for_rng1 (k := n) (fun i σ G' => ∃ (ls : List (Nat × Nat)) (u5 u12 : Option V), σ = [some (.int c), some (nV m), some (.ref hd), some (nV n), some (.ref a), u5, some (.ref d), some (.ref na), some (.ref pa), some (.ref ta), u10, some (.ref la), u12] ∧ Ex G G' ∧ LPN G' la ls ∧ ls.Perm ((List.range' 1 i).map (edge π p f)))
      ⟨[], _, none, rfl, e6, ⟨[], hla0, .nil⟩, by exact .refl _⟩ ?_ ?_⟩
    · rintro i σ G6 hi ⟨ls, u5, u12, rfl, e7, hls, hperm⟩
      have hN6 := hN.ex e7
      have hP6 := hP.ex e7
      have hT6 := hT.ex e7
      obtain ⟨w, hw⟩ : ∃ v, pr[i]? = some v := ⟨_, List.getElem?_eq_getElem (by omega)⟩
      obtain ⟨z, hz⟩ : ∃ v, tr[i]? = some v := ⟨_, List.getElem?_eq_getElem (by omega)⟩
      have hwi := hpj i w hw
      have epk : p (i + 1) = w := by show pr.getD (i + 1 - 1) 0 = w; rw [List.getD_eq_getElem?_getD, Nat.add_sub_cancel, hw]; rfl
      have efk : f (i + 1) = decide (z % 2 = 1) := by show decide (tr.getD (i + 1 - 1) 0 % 2 = 1) = _; rw [List.getD_eq_getElem?_getD, Nat.add_sub_cancel, hz]; rfl
      have ei : ((i + 1 : Nat) : Int) - 1 = (i : Int) := by omega
      have hll : ls.length = i := by rw [hperm.length_eq]; simp
      have rest : ∀ (D : Ends) (q : Addr) (G7 : Hp), Ex G6 G7 → PN G7 q (edge π p f (i + 1)) → (∀ σ G', (∃ (ls : List (Nat × Nat)) (u5 u12 : Option V), σ = [some (.int c), some (nV m), some (.ref hd), some (nV n), some (.ref a), u5, some (.ref d), some (.ref na), some (.ref pa), some (.ref ta), u10, some (.ref la), u12] ∧ Ex G G' ∧ LPN G' la ls ∧ ls.Perm ((List.range' 1 (i + 1)).map (edge π p f))) → D.nx σ G') →
          tDrop (tBM K "list" rInsert (tVar 11) (tCons (tOp rFdiv (tOp (rIxL K) (tVar 9) (tOp rSub (tVar 5) (tC (.int 1)))) (tC (.int 2))) (tCons (tVar 12) tNil))) D
          [some (.int c), some (nV m), some (.ref hd), some (nV n), some (.ref a), some (nV (i + 1)), some (.ref d), some (.ref na), some (.ref pa), some (.ref ta), u10, some (.ref la), some (.ref q)] G7 := by
        intro D q G7 e8 hq kD
        obtain ⟨lads, hl1, hl2⟩ := hls.ex e8
        have hlal : lads.length = i := by rw [hl2.length, hll]
        refine ⟨_, rfl, .inl ⟨rfl, _, SqL.of hl1⟩, _, rfl, _, rfl, _, _, rfl, rfl, ta, _, _, _, rfl, rfl, SqL.of (hT6.ex e8), (by rw [ei]; exact at_nat hz), _, _, rfl, rfl, ⟨by decide, by decide⟩, _, rfl, ?_⟩
        have ed : (z : Int).fdiv 2 = ((z / 2 : Nat) : Int) := by rw [Int.fdiv_eq_ediv_of_nonneg _ (by decide)]; omega
        dsimp only
        rw [ed]
        have hzs : z ≤ 10000 := htb z (List.mem_of_getElem? hz)
        refine ⟨la, _, _, _, rfl, rfl, hl1, small' (by rw [List.length_map]; omega : _ < 1000), by omega, by omega, kD _ _ ?_⟩
        have ev : ((z / 2 : Nat) : Int).toNat = z / 2 := rfl
        rw [ev, map_ins]
        refine ⟨ls.take (z / 2) ++ [edge π p f (i + 1)] ++ ls.drop (z / 2), _, _, rfl, (e7.trans e8).mut hla, ⟨_, upd_same, Paired.ins _ (Paired.mono (fun b l y => ?_) hl2) ?_⟩, ?_⟩
        · have : PN G7 b l := y
          show upd _ _ _ _ = _
          rw [upd_ne (fun x => by
            subst x
            have this : G7 b = some (.tup _) := this
            rw [hl1] at this; cases this)]
          exact this
        · show upd _ _ _ _ = _
          rw [upd_ne (fun x => by
            subst x
            have this : G7 q = some (.tup _) := hq
            rw [hl1] at this; cases this)]
          exact hq
        · refine (ins_permG ls _ _).trans ?_
          rw [List.range'_1_concat, List.map_append]
          refine (List.Perm.cons _ hperm).trans ?_
          have : 1 + i = i + 1 := by omega
          rw [this]
          exact (List.perm_append_singleton _ _).symm
      refine ⟨_, rfl, .inl ⟨rfl, _, SqL.of hN6⟩, _, rfl, ?_⟩
      dsimp only [tNil]
      refine rd_idx hN6 ((hmem _).mpr (by omega)) hnd ?_
      refine ⟨_, rfl, .inl ⟨rfl, _, SqL.of hN6⟩, _, rfl, _, rfl, _, _, rfl, rfl, pa, _, _, _, rfl, rfl, SqL.of hP6, (by rw [ei]; exact at_nat hw), ?_⟩
      dsimp only [tNil]
      refine rd_idx hN6 ((hmem _).mpr (by omega)) hnd ?_
      refine ⟨by show 2 ≤ sizeLine; decide, fun t1 ht1 => ?_⟩
      have e8 : Ex G6 (upd G6 t1 (.tup [nV (nm.idxOf (i + 1)), nV (nm.idxOf w)])) := Ex.new ht1
      have ht1v : (upd G6 t1 (.tup [nV (nm.idxOf (i + 1)), nV (nm.idxOf w)])) t1 = some (.tup [nV (nm.idxOf (i + 1)), nV (nm.idxOf w)]) := upd_same
      generalize upd G6 t1 (.tup [nV (nm.idxOf (i + 1)), nV (nm.idxOf w)]) = G7 at *
      refine ⟨_, rfl, _, rfl, _, _, rfl, rfl, ta, _, _, _, rfl, rfl, SqL.of (hT6.ex e8), (by rw [ei]; exact at_nat hz), .inl ⟨_, rfl, _, _, rfl, rfl, (by show (2 : Int) ≠ 0; decide), rfl, _, rfl, ?_⟩⟩
      have em : (z : Int).fmod 2 = ((z % 2 : Nat) : Int) := fmod_nat z 2
      have ed : decide (V.int ((z : Int).fmod 2) = V.int 1) = f (i + 1) := by
        rw [efk, em, decide_eq_decide]
        constructor
        · intro y; injection y with y; omega
        · intro y; rw [y]; rfl
      have eedge : edge π p f (i + 1) = if f (i + 1) = true then (nm.idxOf w, nm.idxOf (i + 1)) else (nm.idxOf (i + 1), nm.idxOf w) := by
        unfold edge
        rw [epk]
      refine ite2 (fun hf0 => ?_) (fun hf0 => ?_)
      · have hf : f (i + 1) = true := by rw [← ed]; exact hf0
        refine ⟨_, rfl, t1, _, _, _, rfl, rfl, SqT.of ht1v, (show _ = some (nV (nm.idxOf w)) from rfl), _, rfl, t1, _, _, _, rfl, rfl, SqT.of ht1v, (show _ = some (nV (nm.idxOf (i + 1))) from rfl), by show 2 ≤ sizeLine; decide, fun t2 ht2 => ?_⟩
        refine rest _ t2 _ (e8.trans (Ex.new ht2)) ?_ fun _ _ h => h
        show upd _ _ _ _ = _
        rw [upd_same, eedge, if_pos hf]
      · have hf : ¬ f (i + 1) = true := by rw [← ed]; exact hf0
        refine rest _ t1 _ e8 ?_ fun _ _ h => h
        show G7 t1 = _
        rw [ht1v, eedge, if_neg hf]
    · rintro σ G6 ⟨ls, u5, u12, rfl, e7, hls, hperm⟩
      refine ⟨_, rfl, _, rfl, by show 2 ≤ sizeLine; decide, fun t ht => ?_⟩
      have eG := (eH3.trans e5).trans e7
      refine kk t la _ n ls (fresh_back eG ht) (eG.trans (Ex.new ht)) upd_same (hls.ex (Ex.new ht)) ⟨π, p, f, hn1, fun k hk => ?_, fun j k hj hk e => ?_, fun x hx => ?_, fun k h1 hk => ?_, hperm⟩ hnm
      · have := List.idxOf_lt_length_of_mem ((hmem k).mpr hk)
        show nm.idxOf k < n
        omega
      · have h1 := idx_at ((hmem j).mpr hj)
        have h2 := idx_at ((hmem k).mpr hk)
        have e : nm.idxOf j = nm.idxOf k := e
        rw [e, h2] at h1
        injection h1 with h1; exact h1.symm
      · obtain ⟨k, hk⟩ : ∃ v, nm[x]? = some v := ⟨_, List.getElem?_eq_getElem (by omega)⟩
        have hkm := List.mem_of_getElem? hk
        exact ⟨k, (hmem k).mp hkm, nodup_at hnd (idx_at hkm) hk⟩
      · obtain ⟨v, hv⟩ : ∃ v, pr[k - 1]? = some v := ⟨_, List.getElem?_eq_getElem (by omega)⟩
        show pr.getD (k - 1) 0 < k
        rw [List.getD_eq_getElem?_getD, hv]
        have := hpj _ _ hv
        show v < k
        omega
end
end Bw
/-! readings: like -/
namespace Bw
open PySem PySem.Spec PyProof.Rows L2 Evl Bb
section
variable {K : PySem.W.Frag} {C : Addr} {H G G' : Hp}
mutual
theorem At.ex {H H' : Hp} (e : Ex H H') : ∀ {v : V} {d : PyData}, At H v d → At H' v d
  | _, _, .bl b => .bl b
  | _, _, .int b => .int b
  | _, _, .str b => .str b
  | _, _, .lst h t => .lst (e _ _ h) (AtAll.ex e t)
  | _, _, .tup h t => .tup (e _ _ h) (AtAll.ex e t)
theorem AtAll.ex {H H' : Hp} (e : Ex H H') : ∀ {vs : List V} {ds : List PyData}, AtAll H vs ds → AtAll H' vs ds
  | _, _, .nil => .nil
  | _, _, .cons h t => .cons (At.ex e h) (AtAll.ex e t)
end
theorem AtAll.length : ∀ {vs : List V} {ds : List PyData}, AtAll H vs ds → vs.length = ds.length
  | _, _, .nil => rfl
  | _, _, .cons _ t => by rw [List.length_cons, List.length_cons, AtAll.length t]
theorem AtAll.at : ∀ {vs : List V} {ds : List PyData} {i : Nat} {d : PyData}, AtAll H vs ds → ds[i]? = some d → ∃ v, vs[i]? = some v ∧ At H v d
  | _, _, i, _, .nil, h => by simp at h
  | _, _, 0, d, .cons h _, q => by simp at q; subst q; exact ⟨_, rfl, h⟩
  | _, _, i + 1, d, .cons _ t, q => by
    obtain ⟨v, h1, h2⟩ := AtAll.at t (by simpa using q)
    exact ⟨v, by simpa using h1, h2⟩
theorem isi {x : V} {t : Value} {T : String} {b : Bool} {a : String} {Q : VK} (h : TyOf K H x (.type a)) (k : PySem.W.kitOne K (.type a) (.type T) = some b) (q : Q (.bl b) H) : rIsi K [x, .ty T] H Q :=
  ⟨x, .ty T, .type a, .type T, b, rfl, .ty T, .base h, k, q⟩
theorem k_is : PySem.W.kitOne K (.type "int") (.type "str") = some false := kit_ty (by decide +kernel)
theorem k_ii : PySem.W.kitOne K (.type "int") (.type "int") = some true := kit_ty (by decide +kernel)
theorem k_ib : PySem.W.kitOne K (.type "int") (.type "bool") = some false := kit_ty (by decide +kernel)
theorem k_ss : PySem.W.kitOne K (.type "str") (.type "str") = some true := kit_ty (by decide +kernel)
theorem k_ls : PySem.W.kitOne K (.type "list") (.type "str") = some false := kit_ty (by decide +kernel)
theorem k_li : PySem.W.kitOne K (.type "list") (.type "int") = some false := kit_ty (by decide +kernel)
theorem k_ll : PySem.W.kitOne K (.type "list") (.type "list") = some true := kit_ty (by decide +kernel)
theorem k_ts : PySem.W.kitOne K (.type "tuple") (.type "str") = some false := kit_ty (by decide +kernel)
theorem k_ti : PySem.W.kitOne K (.type "tuple") (.type "int") = some false := kit_ty (by decide +kernel)
theorem k_tl : PySem.W.kitOne K (.type "tuple") (.type "list") = some false := kit_ty (by decide +kernel)
theorem k_tt : PySem.W.kitOne K (.type "tuple") (.type "tuple") = some true := kit_ty (by decide +kernel)
theorem rd_l_like (k : Nat) : Good (sp_l_likeN (k + 1)) P_l_like N_l_like (t_l_like K C k) := by
  intro vs H Q E h
  obtain ⟨x, y, d, rfl, hx, hy, hd, kk⟩ := h
  refine ⟨rfl, ?_⟩
  have loop : ∀ (ds : List PyData) (xs ys : List V) (a b : Addr), x = .ref a → y = .ref b → (∀ G, Ex H G → SqL K G a xs ∨ SqT K G a xs) → (∀ G, Ex H G → SqL K G b ys ∨ SqT K G b ys) → AtAll H xs ds → AtAll H ys ds → ds.length ≤ 1000 → (∀ e ∈ ds, Lv k e) →
      (tSeq (tFor (iRng1 (tCons (tCB (rLenQ K) (tCons (tVar 1) tNil)) tNil)) (gName 2) (tIfS (tNot (tB (tCall (sp_l_likeN k) [] E0 (tCons (tOp (rIx K) (tVar 0) (tVar 2)) (tCons (tOp (rIx K) (tVar 1) (tVar 2)) tNil))))) (tRet (tC (.bl false))) tNext))
      (tRet (tC (.bl true)))) { nx := fun _ H' => Q .non H', rt := Q } [some x, some y, none] H := by
    rintro ds xs ys a b rfl rfl sx sy ax ay hl hlv
    have lx := ax.length
    have ly := ay.length
    refine ⟨_, rfl, b, ys, rfl, sy H (Ex.refl _), ?_⟩
    rw [ly]
    refine ⟨_, rfl, by omega, by omega, for_rng (n := ds.length) (fun i σ G => ∃ u, σ = [some (.ref a), some (.ref b), u] ∧ Ex H G) ⟨none, rfl, Ex.refl _⟩ ?_ ?_⟩
    · rintro i σ G hi ⟨u, rfl, e⟩
      obtain ⟨dd, hdd⟩ : ∃ v, ds[i]? = some v := ⟨_, List.getElem?_eq_getElem hi⟩
      obtain ⟨v1, h1, a1⟩ := ax.at hdd
      obtain ⟨v2, h2, a2⟩ := ay.at hdd
      have ixq : ∀ (p : Addr) (zs : List V) (v : V) (R : VK), (SqL K G p zs ∨ SqT K G p zs) → zs[i]? = some v → R v G → rIx K (.ref p) (nV i) G R := fun p zs v R hs hz hr => by
        rcases hs with hs | hs
        · exact .inl ⟨p, zs, _, v, rfl, rfl, hs, atI_nat hz, hr⟩
        · exact .inr (.inl ⟨p, zs, _, v, rfl, rfl, hs, atI_nat hz, hr⟩)
      refine ⟨_, rfl, _, rfl, ?_⟩
      refine ixq a xs v1 _ (sx G e) h1 ?_
      refine ⟨_, rfl, _, rfl, ?_⟩
      refine ixq b ys v2 _ (sy G e) h2 ?_
      refine ⟨v1, v2, dd, rfl, a1.ex e, a2.ex e, hlv dd (List.mem_of_getElem? hdd), fun G2 e2 => ⟨_, rfl, iteF ⟨some (nV i), rfl, e.trans e2⟩⟩⟩
    · rintro σ G ⟨u, rfl, e⟩
      exact kk G e
  cases hy with
  | bl b =>
    cases hx
    refine ⟨_, rfl, rfl, _, rfl, iteNo rfl ⟨_, rfl, .inr ⟨_, rfl⟩, _, rfl, ?_⟩⟩
    cases b with
    | true => exact iteYes (by decide) ⟨_, rfl, .inr ⟨_, rfl⟩, kk H (Ex.refl _)⟩
    | false =>
      refine iteNo (by decide) ⟨_, rfl, .inr ⟨_, rfl⟩, _, rfl, iteYes (by decide) ⟨_, rfl, .inr ⟨_, rfl⟩, kk H (Ex.refl _)⟩⟩
  | int i =>
    cases hx
    refine ⟨_, rfl, rfl, _, rfl, iteNo rfl ⟨_, rfl, .inr ⟨_, rfl⟩, _, rfl, iteNo rfl ⟨_, rfl, .inr ⟨_, rfl⟩, _, rfl, iteNo rfl ⟨_, rfl, _, .ty "str", _, .type "str", _, rfl, .ty _, .base (.int _), k_is, _, rfl, iteNo rfl ?_⟩⟩⟩⟩
    refine ⟨_, rfl, _, .ty "int", _, .type "int", _, rfl, .ty _, .base (.int _), k_ii, _, rfl, iteYes rfl ?_⟩
    refine ⟨_, rfl, _, .ty "int", _, .type "int", _, rfl, .ty _, .base (.int _), k_ii, _, rfl, iteYes rfl ?_⟩
    refine ⟨_, rfl, _, .ty "bool", _, .type "bool", _, rfl, .ty _, .base (.int _), k_ib, _, rfl, _, rfl, iteYes rfl ?_⟩
    refine ⟨_, rfl, _, rfl, rfl, ?_⟩
    rw [decide_eq_true rfl]
    exact kk H (Ex.refl _)
  | str s =>
    cases hx
    refine ⟨_, rfl, rfl, _, rfl, iteNo rfl ⟨_, rfl, .inr ⟨_, rfl⟩, _, rfl, iteNo rfl ⟨_, rfl, .inr ⟨_, rfl⟩, _, rfl, iteNo rfl ⟨_, rfl, _, .ty "str", _, .type "str", _, rfl, .ty _, .base (.str _), k_ss, _, rfl, iteYes rfl ?_⟩⟩⟩⟩
    refine ⟨_, rfl, _, .ty "str", _, .type "str", _, rfl, .ty _, .base (.str _), k_ss, _, rfl, iteYes rfl ?_⟩
    refine ⟨_, rfl, _, rfl, rfl, ?_⟩
    rw [decide_eq_true rfl]
    exact kk H (Ex.refl _)
  | @lst b ys ds hb ay =>
    cases hx with
    | @lst a xs _ ha ax =>
      obtain ⟨hl, hlv⟩ := hd
      have sa : ∀ G, Ex H G → SqL K G a xs ∨ SqT K G a xs := fun G e => .inl (SqL.of (e _ _ ha))
      have sb : ∀ G, Ex H G → SqL K G b ys ∨ SqT K G b ys := fun G e => .inl (SqL.of (e _ _ hb))
      refine ⟨_, rfl, rfl, _, rfl, iteNo rfl ⟨_, rfl, .inr ⟨_, rfl⟩, _, rfl, iteNo rfl ⟨_, rfl, .inr ⟨_, rfl⟩, _, rfl, iteNo rfl ⟨_, rfl, _, .ty "str", _, .type "str", _, rfl, .ty _, .base (.lst hb), k_ls, _, rfl, iteNo rfl ?_⟩⟩⟩⟩
      refine ⟨_, rfl, _, .ty "int", _, .type "int", _, rfl, .ty _, .base (.lst hb), k_li, _, rfl, iteNo rfl ?_⟩
      refine ⟨_, rfl, _, .ty "list", _, .type "list", _, rfl, .ty _, .base (.lst hb), k_ll, _, rfl, iteYes rfl ?_⟩
      refine ⟨_, rfl, _, .ty "list", _, .type "list", _, rfl, .ty _, .base (.lst ha), k_ll, _, rfl, iteNo rfl ?_⟩
      refine ⟨_, rfl, a, xs, rfl, sa H (Ex.refl _), _, rfl, b, ys, rfl, sb H (Ex.refl _), rfl, _, rfl, iteNS (by rw [ax.length, ay.length]) ?_⟩
      exact loop ds xs ys a b rfl rfl sa sb ax ay hl hlv
  | @tup b ys ds hb ay =>
    cases hx with
    | @tup a xs _ ha ax =>
      obtain ⟨hl, hlv⟩ := hd
      have sa : ∀ G, Ex H G → SqL K G a xs ∨ SqT K G a xs := fun G e => .inr (SqT.of (e _ _ ha))
      have sb : ∀ G, Ex H G → SqL K G b ys ∨ SqT K G b ys := fun G e => .inr (SqT.of (e _ _ hb))
      refine ⟨_, rfl, rfl, _, rfl, iteNo rfl ⟨_, rfl, .inr ⟨_, rfl⟩, _, rfl, iteNo rfl ⟨_, rfl, .inr ⟨_, rfl⟩, _, rfl, iteNo rfl ⟨_, rfl, _, .ty "str", _, .type "str", _, rfl, .ty _, .base (.tup hb), k_ts, _, rfl, iteNo rfl ?_⟩⟩⟩⟩
      refine ⟨_, rfl, _, .ty "int", _, .type "int", _, rfl, .ty _, .base (.tup hb), k_ti, _, rfl, iteNo rfl ?_⟩
      refine ⟨_, rfl, _, .ty "list", _, .type "list", _, rfl, .ty _, .base (.tup hb), k_tl, _, rfl, iteNo rfl ?_⟩
      refine ⟨_, rfl, _, .ty "tuple", _, .type "tuple", _, rfl, .ty _, .base (.tup ha), k_tt, _, rfl, iteNo rfl ?_⟩
      refine ⟨_, rfl, a, xs, rfl, sa H (Ex.refl _), _, rfl, b, ys, rfl, sb H (Ex.refl _), rfl, _, rfl, iteNS (by rw [ax.length, ay.length]) ?_⟩
      exact loop ds xs ys a b rfl rfl sa sb ax ay hl hlv
end
end Bw
/-! readings: judged -/
namespace Bw
open PySem PySem.Spec PyProof.Rows L2 Evl Bb
section
variable {K : PySem.W.Frag} {C : Addr} {H G G' : Hp}
def dN (xs : List Nat) : PyData := .list (xs.map fun x : Nat => .int (x : Int))
def dP (l : Nat × Nat) : PyData := .tuple [.int (l.1 : Int), .int (l.2 : Int)]
theorem at_dN {a : Addr} {xs : List Nat} (h : LN H a xs) : At H (.ref a) (dN xs) := by
  refine .lst h ?_
  clear h
  induction xs with
  | nil => exact .nil
  | cons x r ih => exact .cons (.int _) ih
theorem at_dP {a : Addr} {l : Nat × Nat} (h : PN H a l) : At H (.ref a) (dP l) := .tup h (.cons (.int _) (.cons (.int _) .nil))
theorem at_LL {a : Addr} {rows : List (List Nat)} (h : LLN H a rows) : At H (.ref a) (.list (rows.map dN)) := by
  obtain ⟨ads, h1, h2⟩ := h
  refine .lst h1 ?_
  clear h1
  induction h2 with
  | nil => exact .nil
  | cons h _ ih => exact .cons (at_dN h) ih
theorem at_LP {a : Addr} {rows : List (Nat × Nat)} (h : LPN H a rows) : At H (.ref a) (.list (rows.map dP)) := by
  obtain ⟨ads, h1, h2⟩ := h
  refine .lst h1 ?_
  clear h1
  induction h2 with
  | nil => exact .nil
  | cons h _ ih => exact .cons (at_dP h) ih
theorem lv_dN {xs : List Nat} {k : Nat} (h : xs.length ≤ 1000) : Lv (k + 2) (dN xs) := by
  refine ⟨by rw [List.length_map]; exact h, fun d hd => ?_⟩
  obtain ⟨x, _, rfl⟩ := List.mem_map.mp hd
  trivial
theorem lv_dP {l : Nat × Nat} {k : Nat} : Lv (k + 2) (dP l) := by
  refine ⟨by simp, fun d hd => ?_⟩
  simp at hd
  rcases hd with rfl | rfl <;> trivial
theorem lv_LL {rows : List (List Nat)} {k : Nat} (h : rows.length ≤ 1000) (h2 : ∀ r ∈ rows, r.length ≤ 1000) : Lv (k + 3) (.list (rows.map dN)) := by
  refine ⟨by rw [List.length_map]; exact h, fun d hd => ?_⟩
  obtain ⟨x, hx, rfl⟩ := List.mem_map.mp hd
  exact lv_dN (h2 x hx)
theorem lv_LP {rows : List (Nat × Nat)} {k : Nat} (h : rows.length ≤ 1000) : Lv (k + 3) (.list (rows.map dP)) := by
  refine ⟨by rw [List.length_map]; exact h, fun d hd => ?_⟩
  obtain ⟨x, _, rfl⟩ := List.mem_map.mp hd
  exact lv_dP
/-- (word, cells) -/
def dS (w : Str) (xs : List Nat) : PyData := .tuple [.str w, dN xs]
theorem at_dS {p q : Addr} {w : Str} {xs : List Nat} (h : H p = some (.tup [.str w, .ref q])) (hq : LN H q xs) : At H (.ref p) (dS w xs) := .tup h (.cons (.str _) (.cons (at_dN hq) .nil))
theorem lv_dS {w : Str} {xs : List Nat} {k : Nat} (h : xs.length ≤ 1000) : Lv (k + 3) (dS w xs) := by
  refine ⟨by simp, fun d hd => ?_⟩
  simp at hd
  rcases hd with rfl | rfl
  · trivial
  · exact lv_dN h
def dT (w : Str) (xs : List Nat) : PyData := .tuple [.str "told", dS w xs]
theorem at_dT {p s : Addr} {w : Str} {xs : List Nat} (h : H p = some (.tup [.str "told", .ref s])) (hs : At H (.ref s) (dS w xs)) : At H (.ref p) (dT w xs) := .tup h (.cons (.str _) (.cons hs .nil))
theorem lv_dT {w : Str} {xs : List Nat} {k : Nat} (h : xs.length ≤ 1000) : Lv (k + 4) (dT w xs) := by
  refine ⟨by simp, fun d hd => ?_⟩
  simp at hd
  rcases hd with rfl | rfl
  · trivial
  · exact lv_dS h
theorem rd_l_judged : Good (sp_l_judged K C) P_l_judged N_l_judged (t_l_judged K C) := by
  intro vs H Q E h
  obtain ⟨x, p, q, n, t, near, links, rfl, TA, ht, hp, hq, kk⟩ := h
  refine ⟨rfl, ?_⟩
  have hn := TA.small
  have hsl := strongL_len (n := n) (near := near) (t := t)
  refine ⟨_, rfl, _, rfl, x, n, t, near, links, rfl, TA, by omega, fun p1 s H1 m hm hmn e1 h1 hs => ?_, fun p1 H1 hor => by omega⟩
  have : m = t := by omega
  subst this
  obtain ⟨q1, hs1, hq1n, hq1⟩ := hs
  refine ⟨_, rfl, _, rfl, by show 2 ≤ sizeLine; decide, fun u hu => ?_⟩
  have eu : Ex H1 (upd H1 u (.tup [.str "told", .ref p])) := Ex.new hu
  have e2 := e1.trans eu
  refine ⟨.ref p1, .ref u, dT (strongW n near m) (strongL n near m), rfl, (at_dT h1 (at_dS hs1 hq1)).ex eu, at_dT upd_same (at_dS (e2 _ _ hp) (hq.ex e2)), lv_dT (by omega), fun H3 e3 => ⟨_, rfl, iteF ?_⟩⟩
  have e03 := e2.trans e3
  have e13 := eu.trans e3
  refine ⟨_, rfl, p1, _, _, _, rfl, rfl, SqT.of (e13 _ _ h1), (show _ = some (V.ref s) from rfl), .inr (.inl ⟨s, _, _, _, rfl, rfl, SqT.of (e13 _ _ hs1), (show _ = some (V.ref q1) from rfl), ?_⟩)⟩
  have hq3 := hq1.ex e13
  refine ⟨_, rfl, .inl ⟨rfl, _, SqL.of hq3⟩, q1, _, rfl, rfl, hq3, ?_⟩
  have e4 : Ex H (upd H3 q1 (.lst ((strongL n near m).map nV).reverse)) := e03.mut hq1n
  refine ⟨_, rfl, .inl ⟨rfl, _, SqL.of (upd_same)⟩, q1, _, _, rfl, rfl, upd_same, small' (by rw [List.length_reverse, List.length_map]; omega : _ < 1001), ?_⟩
  have e5 : Ex H (upd (upd H3 q1 (.lst ((strongL n near m).map nV).reverse)) q1 (.lst (((strongL n near m).map nV).reverse ++ [.int 0]))) := e4.mut hq1n
  generalize upd (upd H3 q1 (.lst ((strongL n near m).map nV).reverse)) q1 (.lst (((strongL n near m).map nV).reverse ++ [.int 0])) = H5 at *
  refine ⟨_, rfl, _, rfl, x, n, m, near, links, rfl, TA.ex e5, by omega, fun p2 s2 H6 m2 hm2 hmn2 e6 h6 hs2 => ?_, fun p1 H1 hor => by omega⟩
  have : m2 = m := by omega
  subst this
  obtain ⟨q2, hs3, hq2n, hq2⟩ := hs2
  have e56 := e5.trans e6
  refine ⟨_, rfl, by show 2 ≤ sizeLine; decide, fun u2 hu2 => ?_⟩
  have eu2 : Ex H6 (upd H6 u2 (.tup [.str "told", .ref p])) := Ex.new hu2
  have e7 := e56.trans eu2
  refine ⟨.ref p2, .ref u2, dT (strongW n near m2) (strongL n near m2), rfl, (at_dT h6 (at_dS hs3 hq2)).ex eu2, at_dT upd_same (at_dS (e7 _ _ hp) (hq.ex e7)), lv_dT (by omega), fun H8 e8 => kk H8 (e7.trans e8)⟩
end
end Bw
/-! readings: a large chain -/
namespace Bw
open PySem PySem.Spec PyProof.Rows L2 Evl Bb
section
variable {K : PySem.W.Frag} {C : Addr} {H G G' : Hp}
theorem mk_tree {a : Addr} {n : Nat} {links : List (Nat × Nat)} {Q : Hp → Prop} {E : XK} {x dx : Addr} (hx : H x = none) (hdx : H dx = none) (hne : dx ≠ x) (hL : LPN H a links) (hG : Gen n links) (hn : n ≤ 200)
    (k : ∀ (G : Hp) (near : List (List Nat)) (sl : List (Nat × Nat)), Ex H G → TreeAt C G x n near sl → sl.Perm (links.map mm) → Q G) :
    sp_Tree_init K C (.ref x :: ([nV n, .ref a] ++ [])) (upd (upd H dx (.own x)) x (.ins C dx [])) (fun v H2 => v = .non ∧ Q H2) E := by
  have e1 : Ex H (upd H dx (.own x)) := Ex.new hdx
  have hx1 : (upd H dx (.own x)) x = none := by rw [upd_ne (fun z => hne z.symm)]; exact hx
  have e2 := e1.trans (Ex.new (o := .ins C dx []) hx1)
  refine ⟨x, dx, a, n, links, rfl, upd_same, hL.ex e2, hG, hn, fun G near sl hk hp TA => ⟨rfl, k G near sl (fun b o hb => hk b o (e2 b o hb) fun z => ?_) TA hp⟩⟩
  rw [z, hx] at hb; cases hb
theorem strongL_lt {n t : Nat} {near : List (List Nat)} : (strongL n near t).Pairwise (· < ·) ∧ ∀ x ∈ strongL n near t, x < n := by
  have h1 : (List.range n).Pairwise (· < ·) := List.pairwise_lt_range
  unfold strongL
  split
  · exact ⟨h1.sublist List.filter_sublist, fun x hx => List.mem_range.mp (List.mem_filter.mp hx).1⟩
  · exact ⟨h1.sublist List.filter_sublist, fun x hx => List.mem_range.mp (List.mem_filter.mp hx).1⟩
theorem inV_pred (k : Nat) (xs : List Nat) : inV (.int ((k : Int) - 1)) (xs.map nV) = decide (1 ≤ k ∧ k - 1 ∈ xs) := by
  unfold inV
  rw [Bool.eq_iff_iff, List.any_eq_true, decide_eq_true_iff]
  have he : ∀ y : Nat, eqV (nV y) (.int ((k : Int) - 1)) = ((y : Int) == (k : Int) - 1) := fun y => by simp [eqV]
  have he2 : ∀ y : Nat, eqV (.int ((k : Int) - 1)) (nV y) = ((k : Int) - 1 == (y : Int)) := fun y => by simp [eqV]
  constructor
  · rintro ⟨v, hv, h⟩
    obtain ⟨y, hy, rfl⟩ := List.mem_map.mp hv
    first | rw [he] at h | rw [he2] at h
    have h := eq_of_beq h
    have : y = k - 1 := by omega
    subst this
    exact ⟨by omega, hy⟩
  · rintro ⟨h1, h2⟩
    refine ⟨nV (k - 1), List.mem_map.mpr ⟨_, h2, rfl⟩, ?_⟩
    first | rw [he] | rw [he2]
    rw [beq_iff_eq]; omega
def tlaRest (K : PySem.W.Frag) (C : Addr) : TS := (tSeq (tAsg (tTup (tCons (tVar 5) (tCons (tCB (rSortedI K) (tCons (tLc (iList K (tVar 6)) (gName 9) tYes (tOp rMod (tCB rInt1 (tCons (tOp rAdd (tVar 9) (tOp (rIxL K) (tVar 1) (tC (.int 2)))) tNil)) (tVar 2)) [9]) tNil)) tNil))) (gName 8))
  (tRet (tCall (sp_l_like K C) [] E0 (tCons (tCall (sp_strongholds K C) [] E0 (tCons (tMake C (sp_Tree_init K C) [] E0 (tCons (tVar 2) (tCons (tVar 4) tNil))) (tCons (tVar 3) tNil))) (tCons (tVar 8) tNil)))))
theorem rd_l_large_agrees : Good (sp_l_large_agrees K C) P_l_large_agrees N_l_large_agrees (t_l_large_agrees K C) := by
  intro vs H Q E h
  obtain ⟨c, rfl, hc, kk⟩ := h
  refine ⟨rfl, ?_⟩
  refine ⟨_, rfl, by show 4 ≤ sizeLine; decide, fun a0 ha0 => ?_⟩
  have e0 : Ex H (upd H a0 (.lst [.int 16, .int 171, .int 200, .int 200])) := Ex.new ha0
  refine ⟨c, a0, [16, 171, 200, 200], rfl, upd_same, fun x hx => by simp at hx; omega, by simp, fun d G1 ds hd e1 hD hpd => ?_⟩
  have hpd : Paired (fun d m => d < m) ds [16, 171, 200, 200] := hpd
  obtain ⟨d0, hd0, hd0m⟩ := Paired.atI hpd (i := 0) rfl
  obtain ⟨d1, hd1, hd1m⟩ := Paired.atI hpd (i := 1) rfl
  obtain ⟨s, hs, hsm⟩ := Paired.atI hpd (i := 2) rfl
  obtain ⟨d3, hd3, hd3m⟩ := Paired.atI hpd (i := 3) rfl
  have e01 := e0.trans e1
  have hDs : SqL K G1 d (ds.map nV) := SqL.of hD
  refine ⟨_, rfl, d, _, _, nV d0, rfl, rfl, hDs, (show _ = _ from at_nat hd0), _, _, rfl, rfl, _, rfl, ?_⟩
  refine ite2 (fun _ => kk _ e01) (fun _ => ?_)
  refine ⟨_, rfl, d, _, _, nV d1, rfl, rfl, hDs, (show _ = _ from at_nat hd1), _, _, rfl, rfl, ?_⟩
  have en : V.int (30 + (d1 : Int)) = nV (30 + d1) := natAdd 30 d1
  dsimp only
  rw [en]
  obtain ⟨n, hn⟩ : ∃ n, n = 30 + d1 := ⟨_, rfl⟩
  rw [← hn]
  have hn1 : 30 ≤ n := by omega
  have hn2 : n ≤ 200 := by omega
  refine ⟨_, rfl, d, _, _, nV d3, rfl, rfl, hDs, (show _ = _ from at_nat hd3), .inl ⟨_, rfl, _, rfl, _, _, rfl, rfl, (by show (n : Int) ≠ 0; omega), ?_⟩⟩
  dsimp only
  rw [fmod_nat]
  obtain ⟨t, ht⟩ : ∃ t, t = d3 % n := ⟨_, rfl⟩
  rw [← ht]
  have htn : t < n := by rw [ht]; exact Nat.mod_lt _ (by omega)
  have modn : ∀ k : Nat, V.int (((k : Int) + (s : Int)).fmod (n : Int)) = nV ((k + s) % n) := fun k => by
    have : ((k : Int) + (s : Int)) = ((k + s : Nat) : Int) := by omega
    rw [this, fmod_nat]
  dsimp only [tSeq, tAsg, gName]
  refine lc_rng (n - 1) (fun _ => true) (fun k G v => ∃ p, v = .ref p ∧ PN G p (chP n s k, chP n s (k + 1))) (fun k G G' v e h => ?_) (by omega) (fun R h' => ⟨_, rfl, _, _, rfl, rfl, ?_⟩) (fun x G R _ _ h => h G (Ex.refl G)) (fun k G R hk _ e h' => ?_) fun La G2 vs hLa e2 hv hp => ?_
  · obtain ⟨p, h1, h2⟩ := h
    exact ⟨p, h1, h2.ex e⟩
  · have := h' G1 (Ex.refl _)
    rw [← natSub (by omega : 1 ≤ n)] at this
    exact this
  · refine ⟨_, rfl, _, rfl, d, _, _, nV s, rfl, rfl, SqL.of (hD.ex e), (show _ = _ from at_nat hs), _, _, rfl, rfl, .inl ⟨_, rfl, _, rfl, _, _, rfl, rfl, (by show (n : Int) ≠ 0; omega), ?_⟩⟩
    refine ⟨_, rfl, _, _, rfl, rfl, _, rfl, d, _, _, nV s, rfl, rfl, SqL.of (hD.ex e), (show _ = _ from at_nat hs), _, _, rfl, rfl, .inl ⟨_, rfl, _, rfl, _, _, rfl, rfl, (by show (n : Int) ≠ 0; omega), by show 2 ≤ sizeLine; decide, fun p hp => ?_⟩⟩
    have m1 := modn k
    have m2 : V.int (((k : Int) + 1 + (s : Int)).fmod (n : Int)) = nV ((k + 1 + s) % n) := modn (k + 1)
    dsimp only
    rw [m1, m2]
    exact h' _ _ (Ex.new hp) fun Gd _ kn => ⟨p, rfl, kn _ _ hp upd_same⟩
  have hLP : LPN G2 La (chL n s) := by
    rw [filter_true] at hp
    have : ∀ (vs : List V) (ks : List Nat), Paired (fun v k => ∃ p, v = V.ref p ∧ PN (hid G2 La) p (chP n s k, chP n s (k + 1))) vs ks → ∃ ads : List Addr, vs = ads.map V.ref ∧ Paired (PN G2) ads (ks.map fun k => (chP n s k, chP n s (k + 1))) := fun vs ks h => by
      induction h with
      | nil => exact ⟨[], rfl, .nil⟩
      | cons h _ ih =>
        obtain ⟨p, rfl, h1⟩ := h
        obtain ⟨ads, rfl, h3⟩ := ih
        exact ⟨p :: ads, rfl, .cons (h1.ex (hid_ex G2 La)) h3⟩
    obtain ⟨ads, rfl, h3⟩ := this vs _ hp
    exact ⟨ads, hv, h3⟩
  have M := chain_made (n := n) (s := s) (by omega)
  have e02 := e01.trans e2
  have fin : ∀ (word : Str) (G : Hp) (Lc : Addr) (ks : List Nat) (u7 : Option V), Ex G2 G → LN G Lc ks → ks.Nodup → (∀ k ∈ ks, k < n) → (∀ near, IsNear n (chL n s) near → IsTree n near → strongW n near t = word ∧ ∀ k, k < n → (chP n s k ∈ strongL n near t ↔ k ∈ ks)) →
      tlaRest K C { nx := fun _ H' => Q .non H', rt := Q } [some (.int c), some (.ref d), some (nV n), some (nV t), some (.ref La), some (.str word), some (.ref Lc), u7, none, none] G := by
    intro word G Lc ks u7 e hLc hnd hkn hw
    dsimp only [tlaRest, tSeq, tAsg, gName, tTup, tCB, tCons]
    refine ⟨_, rfl, ?_⟩
    have hkl : ks.length ≤ n := nodup_le hnd hkn
    refine lc_over (K := K) ks nV (fun _ => true) (fun k _ v => v = nV (chP n s k)) (fun _ _ _ _ _ h => h) (by omega) (fun R h' => ⟨_, rfl, h' Lc G (Ex.refl _) hLc⟩) (fun x G R _ _ h => h G (Ex.refl G)) (fun k G3 R hk _ e3 h' => ?_) fun Ls G3 vs hLs e3 hv hp => ?_
    · refine ⟨_, rfl, _, rfl, d, _, _, nV s, rfl, rfl, SqL.of (((hD.ex e2).ex e).ex e3), (show _ = _ from at_nat hs), _, _, rfl, rfl, .inl ⟨_, rfl, _, rfl, _, _, rfl, rfl, (by show (n : Int) ≠ 0; omega), ?_⟩⟩
      have m1 := modn k
      dsimp only
      rw [m1]
      exact h' _ _ (Ex.refl _) fun _ _ _ => rfl
    · rw [filter_true] at hp
      have := paired_map hp
      subst this
      have hLs' : LN G3 Ls (ks.map (chP n s)) := by show G3 Ls = _; rw [hv, List.map_map]; rfl
      dsimp only [tNil]
      refine srtI hLs' fun p ys hpn hperm hsrt => ⟨by show 2 ≤ sizeLine; decide, fun u hu => ?_⟩
      have ep : Ex G3 (upd G3 p (.lst (ys.map nV))) := Ex.new hpn
      have eu : Ex (upd G3 p (.lst (ys.map nV))) (upd (upd G3 p (.lst (ys.map nV))) u (.tup [.str word, .ref p])) := Ex.new hu
      have hys : LN (upd (upd G3 p (.lst (ys.map nV))) u (.tup [.str word, .ref p])) p ys := eu _ _ upd_same
      have huv : (upd (upd G3 p (.lst (ys.map nV))) u (.tup [.str word, .ref p])) u = some (.tup [.str word, .ref p]) := upd_same
      have e4 := ((e.trans e3).trans ep).trans eu
      generalize (upd (upd G3 p (.lst (ys.map nV))) u (.tup [.str word, .ref p])) = G4 at *
      refine ⟨_, rfl, _, rfl, ?_⟩
      dsimp only [tNil]
      intro x dx hx hdx hne
      refine mk_tree hx hdx hne (hLP.ex e4) ⟨_, _, _, M⟩ hn2 fun G5 near sl e5 TA hsl => ?_
      have N : IsNear n (chL n s) near := ⟨TA.near.len, fun c hc => ⟨(TA.near.row c hc).1, (TA.near.row c hc).2.trans ((nbs_perm hsl c).trans (nbs_mm _ c))⟩⟩
      obtain ⟨hw1, hw2⟩ := hw near N TA.tree
      have hL1 := strongL_lt (n := n) (t := t) (near := near)
      have eys := chain_sorted (s := s) (by omega) hnd hkn hperm hsrt hL1.1 hL1.2 hw2
      have hlen := strongL_len (n := n) (t := t) (near := near)
      refine ⟨_, rfl, x, n, t, near, sl, rfl, TA, htn, fun r G6 hr e6 ⟨q, hr1, hq1, hq2⟩ => ?_⟩
      refine ⟨_, rfl, .ref r, .ref u, dS (strongW n near t) (strongL n near t), rfl, at_dS hr1 hq2, ?_, lv_dS (by omega), fun G7 e7 => kk G7 ((((e02.trans e4).trans e5).trans e6).trans e7)⟩
      rw [hw1, ← eys]
      exact at_dS (e6 _ _ (e5 _ _ huv)) ((hys.ex e5).ex e6)
  let kp : Nat → Bool := fun k => decide (k ≤ t ∧ n - 1 - k ≤ t)
  let hv0 : Nat → Bool := fun k => decide (t < k + 1) && decide (t < n - 1 - k)
  dsimp only [tC]
  refine lc_rngc n kp (by omega) (by show 9 < 10; decide) (fun R h' => ⟨_, rfl, h' G2 (Ex.refl _)⟩) (fun k G3 R hk e h' => ⟨_, rfl, _, rfl, _, _, rfl, rfl, _, rfl, _, _, rfl, rfl, _, _, rfl, _, rfl, _, _, rfl, rfl, _, rfl, ?_⟩) fun Lc G3 hLc e3 hLcn => ?_
  · have hkn : k < n := List.mem_range.mp hk
    have : decide ((if (n : Int) - 1 - (k : Int) > (k : Int) then (n : Int) - 1 - (k : Int) else (k : Int)) ≤ (t : Int)) = kp k := by
      show _ = decide _
      rw [decide_eq_decide]
      split <;> omega
    rw [this]
    exact h' G3 (Ex.refl _)
  have keepL_iff : ∀ near, IsNear n (chL n s) near → ∀ k, k < n → (chP n s k ∈ keepL n near t ↔ k ∈ (List.range n).filter kp) := fun near N k hk => by
    rw [mem_keepL, chain_keep (by omega) N hk, List.mem_filter, List.mem_range]
    show _ ↔ _ ∧ decide _ = true
    rw [decide_eq_true_iff]
    exact ⟨fun z => ⟨hk, z.2⟩, fun z => ⟨Nat.mod_lt _ (by omega), z.2⟩⟩
  have keepL_nil : ∀ near, IsNear n (chL n s) near → (keepL n near t = [] ↔ (List.range n).filter kp = []) := fun near N => by
    constructor
    · intro z
      rw [List.eq_nil_iff_forall_not_mem]
      intro k hk
      have hkn := List.mem_range.mp (List.mem_filter.mp hk).1
      have := (keepL_iff near N k hkn).mpr hk
      rw [z] at this; cases this
    · intro z
      rw [List.eq_nil_iff_forall_not_mem]
      intro x hx
      obtain ⟨k, hk, rfl⟩ := M.sur x (mem_keepL.mp hx).1
      have := (keepL_iff near N k hk).mp hx
      rw [z] at this; cases this
  refine ⟨_, rfl, by show 0 ≤ sizeLine; decide, fun z0 hz0 => ?_⟩
  dsimp only [tNil]
  have ez : Ex G3 (upd G3 z0 (.lst [])) := Ex.new hz0
  refine eqNil (hLcn.ex ez) upd_same ⟨_, rfl, ?_⟩
  refine ite2 (fun hem => ?_) (fun hem => ?_)
  · have hem := of_decide_eq_true hem
    have e3z := e3.trans ez
    generalize upd G3 z0 (.lst []) = G4 at *
    let hvL := (List.range (n - 1)).filter hv0
    let p2 : Nat → Bool := fun k => decide (k ∈ hvL) || decide (1 ≤ k ∧ k - 1 ∈ hvL)
    have hvm : ∀ k, k ∈ hvL ↔ k < n - 1 ∧ t < k + 1 ∧ t < n - 1 - k := fun k => by
      show k ∈ (List.range (n - 1)).filter hv0 ↔ _
      rw [List.mem_filter, List.mem_range]
      show _ ∧ (decide _ && decide _) = true ↔ _
      rw [Bool.and_eq_true, decide_eq_true_iff, decide_eq_true_iff]
    have p2m : ∀ k, p2 k = true ↔ k ∈ hvL ∨ (1 ≤ k ∧ k - 1 ∈ hvL) := fun k => by
      show (decide _ || decide _) = true ↔ _
      rw [Bool.or_eq_true, decide_eq_true_iff, decide_eq_true_iff]
    dsimp only [tSeq, tAsg, gName, tC]
    refine lc_rngc (n - 1) hv0 (by omega) (by show 9 < 10; decide) (fun R h' => ⟨_, rfl, _, _, rfl, rfl, ?_⟩) (fun k G5 R hk e h' => ?_) fun Lh G5 hLh e5 hLhn => ?_
    · have := h' G4 (Ex.refl _)
      rw [← natSub (by omega : 1 ≤ n)] at this
      exact this
    · refine ⟨_, rfl, _, _, rfl, rfl, _, rfl, _, _, rfl, rfl, _, rfl, ?_⟩
      have hkn : k < n - 1 := List.mem_range.mp hk
      refine ite2 (fun h1 => ?_) (fun h1 => ?_)
      · have h1 : t < k + 1 := by have := of_decide_eq_true h1; omega
        refine ⟨_, rfl, _, _, rfl, rfl, _, rfl, _, _, rfl, rfl, _, rfl, _, _, rfl, rfl, _, rfl, ?_⟩
        have : decide ((t : Int) < (n : Int) - 1 - (k : Int)) = hv0 k := by
          show _ = (decide _ && decide _)
          rw [decide_eq_true h1, Bool.true_and, decide_eq_decide]
          omega
        rw [this]
        exact h' G5 (Ex.refl _)
      · have h1 : ¬ t < k + 1 := fun z => h1 (decide_eq_true (by omega))
        have := h' G5 (Ex.refl _)
        have e0 : hv0 k = false := by
          show (decide _ && decide _) = false
          rw [decide_eq_false h1, Bool.false_and]
        rw [e0] at this
        exact this
    · have hLhn : LN G5 Lh hvL := hLhn
      refine lc_rngc n p2 (by omega) (by show 9 < 10; decide) (fun R h' => ⟨_, rfl, h' G5 (Ex.refl _)⟩) (fun k G6 R hk e h' => ?_) fun Lc2 G6 hLc2 e6 hLc2n => ?_
      · refine ⟨_, rfl, _, rfl, Lh, _, rfl, .inl (SqL.of (hLhn.ex e)), rfl, flat_nV _, _, rfl, ?_⟩
        rw [inV_nV]
        refine ite2 (fun h1 => ?_) (fun h1 => ?_)
        · have h1 : k ∈ hvL := by simpa using h1
          have := h' G6 (Ex.refl _)
          rw [(p2m k).mpr (.inl h1)] at this
          exact this
        · have h1 : k ∉ hvL := by simpa using h1
          refine ⟨_, rfl, _, _, rfl, rfl, _, rfl, Lh, _, rfl, .inl (SqL.of (hLhn.ex e)), rfl, flat_nV _, _, rfl, ?_⟩
          rw [inV_pred]
          have := h' G6 (Ex.refl _)
          have e0 : p2 k = decide (1 ≤ k ∧ k - 1 ∈ hvL) := by
            show (decide _ || decide _) = _
            rw [decide_eq_false h1, Bool.false_or]
          rw [e0] at this
          exact this
      · refine fin "backbone" G6 Lc2 _ _ ((e3z.trans e5).trans e6) hLc2n (List.nodup_range.filter _) (fun k hk => List.mem_range.mp (List.mem_filter.mp hk).1) fun near N T => ?_
        obtain ⟨w1, w2⟩ := strong_back (n := n) (near := near) (t := t) ((keepL_nil near N).mpr hem)
        refine ⟨w1, fun k hk => ?_⟩
        rw [w2, mem_backL T, chain_back (by omega) N hk, List.mem_filter, List.mem_range, p2m, hvm, hvm]
        constructor
        · rintro (⟨a, b, c⟩ | ⟨a, b, c⟩)
          · exact ⟨hk, .inl ⟨by omega, b, c⟩⟩
          · exact ⟨hk, .inr ⟨a, by omega, by omega, c⟩⟩
        · rintro ⟨_, ⟨a, b, c⟩ | ⟨a, b, c, e⟩⟩
          · exact .inl ⟨by omega, b, c⟩
          · exact .inr ⟨a, by omega, e⟩
  · have hem : (List.range n).filter kp ≠ [] := fun z => hem (decide_eq_true z)
    refine fin "keep" _ Lc _ none (e3.trans ez) (hLcn.ex ez) (List.nodup_range.filter _) (fun k hk => List.mem_range.mp (List.mem_filter.mp hk).1) fun near N T => ?_
    obtain ⟨w1, w2⟩ := strong_keep (n := n) (near := near) (t := t) fun z => hem ((keepL_nil near N).mp z)
    exact ⟨w1, fun k hk => by rw [w2]; exact keepL_iff near N k hk⟩
end
end Bw
/-! readings: the law -/
namespace Bw
open PySem PySem.Spec PyProof.Rows L2 Evl Bb
def lw18 (K : PySem.W.Frag) (C : Addr) : TS :=
  (tSeq (tAsg (tCB (rSortedPO K) (tCons (tLc (iList K (tOp (rIxT K) (tVar 2) (tC (.int 1)))) (gName 17) tYes (tTup (tCons (tCB rMin2 (tCons (tOp (rIxT K) (tVar 17) (tC (.int 0))) (tCons (tOp (rIxT K) (tVar 17) (tC (.int 1))) tNil))) (tCons (tCB rMax2 (tCons (tOp (rIxT K) (tVar 17) (tC (.int 0))) (tCons (tOp (rIxT K) (tVar 17) (tC (.int 1))) tNil))) tNil))) [17]) tNil)) (gName 16))
  (tRet (tCall (sp_l_like K C) [] E0 (tCons (tLst (tCons (tMeth C "links" (sp_Tree_links K C) [] E0 (tVar 5) tNil) (tCons (tLc (iRng1 (tCons (tVar 3) tNil)) (gName 18) tYes (tMeth C "neighbours" (sp_Tree_neighbours K C) [] E0 (tVar 5) (tCons (tVar 18) tNil)) [18]) tNil))) (tCons (tLst (tCons (tVar 16) (tCons (tVar 4) tNil))) tNil)))))
def lw17 (K : PySem.W.Frag) (C : Addr) : TS :=
  (tSeq (tFor (iRng1 (tCons (tC (.int 2)) tNil)) (gName 13) (tSeq (tAsg (tCall (sp_l_fair_order K C) [] E0 (tCons (tCall (sp_l_cell K C) [] E0 (tCons (tVar 0) (tCons (tOp rAdd (tC (.int 3)) (tVar 13)) tNil))) (tCons (tOp rSub (tVar 3) (tC (.int 1))) (tCons (tVar 6) tNil)))) (gName 14))
  (tSeq (tAsg (tCall (sp_region_fate K C) [] E0 (tCons (tVar 5) (tCons (tCB (rListQ K) (tCons (tVar 10) tNil)) (tCons (tVar 14) tNil)))) (gName 15))
  (tIfS (tOr (tNot (tB (tCall (sp_l_like K C) [] E0 (tCons (tVar 15) (tCons (tOp (rIxL K) (tLst (tCons (tC (.str "stripped")) (tCons (tC (.str "held")) tNil))) (tCB rInt1 (tCons (tVar 11) tNil))) tNil))))) (tNot (tB (tCall (sp_l_like K C) [] E0 (tCons (tOp rEq (tVar 15) (tC (.str "held"))) (tCons (tVar 12) tNil)))))) (tRet (tC (.bl false))) tNext))))
  (lw18 K C))
def lw15 (K : PySem.W.Frag) (C : Addr) : TS :=
  (tSeq (tAsg (tCall (sp_l_meets K C) [] E0 (tCons (tVar 9) (tCons (tVar 10) tNil))) (gName 11))
  (tSeq (tAsg (tOp rLe (tCB (rMax K) (tCons (tOp rCat (tLst (tCons (tC (.int 0)) tNil)) (tCall (sp_l_outer K C) [] E0 (tCons (tVar 4) (tCons (tVar 10) tNil)))) tNil)) (tVar 6)) (gName 12))
  (lw17 K C)))
def lw14 (K : PySem.W.Frag) (C : Addr) : TS :=
  (tSeq (tIfS (tTest (tOp rEq (tOp (rIxL K) (tVar 1) (tC (.int 3))) (tC (.int 2)))) (tAsg (tCall (sp_l_missing K C) [] E0 (tCons (tVar 4) (tCons (tVar 9) (tCons (tOp (rIxL K) (tVar 1) (tC (.int 4))) tNil)))) (gName 10)) tNext)
  (lw15 K C))
def lw13 (K : PySem.W.Frag) (C : Addr) : TS :=
  (tSeq (tIfS (tTest (tOp rEq (tOp (rIxL K) (tVar 1) (tC (.int 3))) (tC (.int 1)))) (tAsg (tCall (sp_l_holding K C) [] E0 (tCons (tVar 9) (tCons (tOp (rIxL K) (tVar 1) (tC (.int 4))) tNil))) (gName 10)) tNext)
  (lw14 K C))
def lw9 (K : PySem.W.Frag) (C : Addr) : TS :=
  (tSeq (tAsg (tCall (sp_l_stronghold K C) [] E0 (tCons (tVar 4) (tCons (tOp (rIxT K) (tVar 2) (tC (.int 1))) (tCons (tVar 6) tNil)))) (gName 9))
  (tSeq (tIfS (tNot (tB (tCall (sp_l_judged K C) [] E0 (tCons (tVar 5) (tCons (tVar 6) (tCons (tVar 9) tNil)))))) (tRet (tC (.bl false))) tNext)
  (tSeq (tIfS (tOr (tNot (tB (tCall (sp_l_judged K C) [] E0 (tCons (tVar 5) (tCons (tVar 7) (tCons (tCall (sp_l_stronghold K C) [] E0 (tCons (tVar 4) (tCons (tOp (rIxT K) (tVar 2) (tC (.int 1))) (tCons (tVar 7) tNil)))) tNil)))))) (tNot (tB (tCall (sp_l_judged K C) [] E0 (tCons (tVar 5) (tCons (tVar 6) (tCons (tVar 9) tNil))))))) (tRet (tC (.bl false))) tNext)
  (tSeq (tAsg (tCall (sp_l_grown K C) [] E0 (tCons (tCall (sp_l_cell K C) [] E0 (tCons (tVar 0) (tCons (tC (.int 2)) tNil))) (tCons (tVar 4) (tCons (tOp rAdd (tC (.int 1)) (tOp rMod (tCB rInt1 (tCons (tOp (rIxL K) (tVar 1) (tC (.int 4))) tNil)) (tVar 3))) tNil)))) (gName 10))
  (lw13 K C)))))

theorem sorted_plt_ext {l m : List (Nat × Nat)} (hl : l.Pairwise plt) (hm : m.Pairwise plt) (h : l.Perm m) : l = m :=
  List.Perm.eq_of_pairwise (fun a b _ _ h1 h2 => by
    unfold plt at h1 h2
    exact Prod.ext (by omega) (by omega)) hl hm h
/-- what stands through the law -/
structure LawC (K : PySem.W.Frag) (C : Addr) (a hd dr q nr x : Addr) (ns : List Int) (hl : List Nat) (n : Nat) (links : List (Nat × Nat)) (near : List (List Nat)) (sl : List (Nat × Nat)) (G : Hp) : Prop where
  scr : SqL K G a (ns.map V.int)
  slen : ns.length ≤ 63
  head : LN G hd hl
  hlen : hl.length = 6
  dr : G dr = some (.tup [nV n, .ref q])
  lk : LPN G q links
  gen : Gen n links
  nrl : LLN G nr near
  isn : IsNear n links near
  TA : TreeAt C G x n near sl
  slp : sl.Perm (links.map mm)
  n18 : n ≤ 18
section
variable {K : PySem.W.Frag} {C : Addr} {H G G' : Hp} {a hd dr q nr x : Addr} {ns : List Int} {hl : List Nat} {n : Nat} {links sl : List (Nat × Nat)} {near : List (List Nat)} {Q : VK}
theorem LawC.ex (L : LawC K C a hd dr q nr x ns hl n links near sl G) (e : Ex G G') : LawC K C a hd dr q nr x ns hl n links near sl G' :=
  ⟨ex_l e L.scr, L.slen, L.head.ex e, L.hlen, e _ _ L.dr, L.lk.ex e, L.gen, L.nrl.ex e, L.isn, L.TA.ex e, L.slp, L.n18⟩
theorem LawC.h (L : LawC K C a hd dr q nr x ns hl n links near sl G) (i : Nat) (hi : i < 6) : ∃ v, hl[i]? = some v := ⟨_, List.getElem?_eq_getElem (by rw [L.hlen]; exact hi)⟩
theorem LawC.pos (L : LawC K C a hd dr q nr x ns hl n links near sl G) : 0 < n := L.TA.tree.pos
theorem LawC.llen (L : LawC K C a hd dr q nr x ns hl n links near sl G) : links.length = n - 1 := by
  obtain ⟨π, p, f, M⟩ := L.gen
  exact M.len
theorem LawC.range (L : LawC K C a hd dr q nr x ns hl n links near sl G) : ∀ l ∈ links, l.1 < n ∧ l.2 < n := fun l hl => by
  obtain ⟨π, p, f, M⟩ := L.gen
  exact M.range (a := l.1) (b := l.2) hl
/-- a cell of the script -/
theorem LawC.cell (L : LawC K C a hd dr q nr x ns hl n links near sl G) (k : Nat) (R : VK) (h : ∀ (i : Int) (G' : Hp), Ex G G' → 0 ≤ i → R (.int i) G') : sp_l_cell K C [.ref a, nV k] G R E0 :=
  ⟨a, ns, k, rfl, L.scr, L.slen, fun i G' e hi => h i G' e hi⟩
theorem lw18_ok {t t2 : Nat} {u8 u9 u10 u11 u12 u13 u14 u15 : Option V} (L : LawC K C a hd dr q nr x ns hl n links near sl G) (kk : ∀ H', Q (.bl true) H') :
    lw18 K C { nx := fun _ H' => Q .non H', rt := Q } [some (.ref a), some (.ref hd), some (.ref dr), some (nV n), some (.ref nr), some (.ref x), some (nV t), some (nV t2), u8, u9, u10, u11, u12, u13, u14, u15, none, none, none] G := by
  have hn := L.n18
  have hll := L.llen
  dsimp only [lw18, tSeq, tAsg, gName, tCB, tCons]
  refine lc_pairs (K := K) links (by omega) (by show 17 < 19; decide) (fun b σ' G2 l R hg hl' h' => ?_) (fun R h' => ⟨_, rfl, dr, _, _, _, rfl, rfl, SqT.of L.dr, (show _ = some (V.ref q) from rfl), h' q G (Ex.refl _) L.lk⟩) fun D G2 hD e2 hLP => ?_
  · have hl' : G2 b = some (.tup [nV l.1, nV l.2]) := hl'
    have sT : SqT K G2 b [nV l.1, nV l.2] := SqT.of hl'
    have g0 : atI [nV l.1, nV l.2] 0 = some (nV l.1) := rfl
    have g1 : atI [nV l.1, nV l.2] 1 = some (nV l.2) := rfl
    refine ⟨_, hg, b, _, _, _, rfl, rfl, sT, g0, _, hg, b, _, _, _, rfl, rfl, sT, g1, _, _, rfl, ?_⟩
    refine ⟨_, hg, b, _, _, _, rfl, rfl, sT, g0, _, hg, b, _, _, _, rfl, rfl, sT, g1, _, _, rfl, ?_⟩
    refine ⟨by show 2 ≤ sizeLine; decide, fun p hp => ?_⟩
    rw [min_if, max_if]
    exact h' p hp
  dsimp only [tNil]
  refine srtPO hLP fun s G3 sl2 hs e3 hsl hperm hsrt => ?_
  have hsl2 : sl2 = sl := sorted_plt_ext hsrt L.TA.srt (hperm.trans L.slp.symm)
  subst hsl2
  have L3 := (L.ex e2).ex e3
  obtain ⟨dx, lA, qA, hx, hlA, hqA⟩ := L3.TA.ob
  refine ⟨_, rfl, x, dx, _, rfl, hx, look_meth n lA qA (by decide +kernel) (by decide +kernel) (by decide +kernel), x, n, near, sl2, rfl, L3.TA, fun Lk G4 hLk e4 hlk => ?_⟩
  have L4 := L3.ex e4
  have hsl4 := hsl.ex e4
  dsimp only [tCons]
  refine lc_rng n (fun _ => true) (fun c G v => ∃ p, v = .ref p ∧ LN G p (nb near c)) (fun k G G' v e h => ?_) (by omega) (fun R h' => ⟨_, rfl, h' G4 (Ex.refl _)⟩) (fun x G R _ _ h => h G (Ex.refl G)) (fun c G5 R hc _ e h' => ?_) fun Nb G5 vs hNb e5 hv hp => ?_
  · obtain ⟨p, h1, h2⟩ := h
    exact ⟨p, h1, h2.ex e⟩
  · refine ⟨_, rfl, x, dx, _, rfl, (e4.trans e) _ _ hx, look_meth n lA qA (by decide +kernel) (by decide +kernel) (by decide +kernel), _, rfl, x, n, c, near, sl2, rfl, (L4.ex e).TA, List.mem_range.mp hc, fun p G6 xs hpn e6 hxs he => ?_⟩
    have he : xs = nb near c := he
    subst he
    exact h' _ _ e6 fun Gd _ kn => ⟨p, rfl, kn _ _ hpn hxs⟩
  have L5 := L4.ex e5
  have hlk5 := hlk.ex e5
  have hNb : LLN G5 Nb near := by
    rw [filter_true] at hp
    have : ∀ (vs : List V) (ks : List Nat), Paired (fun v c => ∃ p, v = V.ref p ∧ LN (hid G5 Nb) p (nb near c)) vs ks → ∃ ads : List Addr, vs = ads.map V.ref ∧ Paired (LN G5) ads (ks.map (nb near)) := fun vs ks h => by
      induction h with
      | nil => exact ⟨[], rfl, .nil⟩
      | cons h _ ih =>
        obtain ⟨p, rfl, h1⟩ := h
        obtain ⟨ads, rfl, h3⟩ := ih
        exact ⟨p :: ads, rfl, .cons (h1.ex (hid_ex G5 Nb)) h3⟩
    obtain ⟨ads, rfl, h3⟩ := this vs _ hp
    have er : (List.range n).map (nb near) = near := by
      refine List.ext_getElem? fun i => ?_
      by_cases h : i < n
      · rw [List.getElem?_map, List.getElem?_range h, at_nb (by rw [L.isn.len]; exact h)]; rfl
      · rw [List.getElem?_eq_none (by simp; omega), List.getElem?_eq_none (by rw [L.isn.len]; omega)]
    rw [er] at h3
    exact ⟨ads, hv, h3⟩
  refine ⟨by show 2 ≤ sizeLine; decide, fun u hu => ?_⟩
  have eu : Ex G5 (upd G5 u (.lst [.ref Lk, .ref Nb])) := Ex.new hu
  refine ⟨_, rfl, _, rfl, by show 2 ≤ sizeLine; decide, fun w hw => ?_⟩
  have ew : Ex (upd G5 u (.lst [.ref Lk, .ref Nb])) (upd (upd G5 u (.lst [.ref Lk, .ref Nb])) w (.lst [.ref s, .ref nr])) := Ex.new hw
  have e57 := eu.trans ew
  have hsll : sl2.length = n - 1 := by rw [L.slp.length_eq, List.length_map, hll]
  have hrow : ∀ r ∈ near, r.length ≤ 1000 := fun r hr => by
    obtain ⟨c, hc⟩ := List.getElem?_of_mem hr
    have h1 := nodup_le (L.TA.tree.nodup c) (L.TA.tree.lt c)
    rw [nb_at hc] at h1
    omega
  refine ⟨.ref u, .ref w, .list [.list (sl2.map dP), .list (near.map dN)], rfl, ?_, ?_, ?_, fun G7 e7 => kk G7⟩
  · exact .lst (ew _ _ upd_same) (.cons (at_LP (hlk5.ex e57)) (.cons (at_LL (hNb.ex e57)) .nil))
  · exact .lst upd_same (.cons (at_LP ((hsl4.ex e5).ex e57)) (.cons (at_LL (L5.nrl.ex e57)) .nil))
  · refine ⟨by simp, fun d hd => ?_⟩
    simp at hd
    rcases hd with rfl | rfl
    · exact lv_LP (by omega)
    · exact lv_LL (by rw [L.isn.len]; omega) hrow
def fw (mb : Bool) : Str := if mb = true then ("held" : Str) else ("stripped" : Str)
theorem hs_ne : ¬ V.str ("stripped" : Str) = V.str "held" := by decide +kernel
theorem lw17_ok {t t2 : Nat} {rg : Addr} {R : List Nat} {mb hb : Bool} {u8 u9 : Option V} (L : LawC K C a hd dr q nr x ns hl n links near sl G) (ht : t < n) (hR : LN G rg R) (hRn : R.Nodup) (Rg : IsTree.Region n near (· ∈ R))
    (hm : mb = true ↔ IsTree.Calm n near t (· ∈ R)) (hh : hb = true ↔ IsTree.Calm n near t (· ∈ R)) (kk : ∀ H', Q (.bl true) H') :
    lw17 K C { nx := fun _ H' => Q .non H', rt := Q } [some (.ref a), some (.ref hd), some (.ref dr), some (nV n), some (.ref nr), some (.ref x), some (nV t), some (nV t2), u8, u9, some (.ref rg), some (.bl mb), some (.bl hb), none, none, none, none, none, none] G := by
  have hn := L.n18
  have hpos := L.pos
  refine ⟨2, rfl, by decide, by decide, for_rng (n := 2) (fun i σ G' => ∃ (u13 u14 u15 : Option V), σ = [some (.ref a), some (.ref hd), some (.ref dr), some (nV n), some (.ref nr), some (.ref x), some (nV t), some (nV t2), u8, u9, some (.ref rg), some (.bl mb), some (.bl hb), u13, u14, u15, none, none, none] ∧ Ex G G') ⟨none, none, none, rfl, Ex.refl _⟩ ?_ ?_⟩
  · rintro i σ G1 hi ⟨u13, u14, u15, rfl, e1⟩
    have L1 := L.ex e1
    refine ⟨_, rfl, _, rfl, _, _, rfl, rfl, ?_⟩
    dsimp only [tNil]
    refine L1.cell (3 + i) _ fun c G2 e2 hc => ?_
    refine ⟨_, rfl, _, _, rfl, rfl, _, rfl, c, n - 1, t, (by rw [← natSub (by omega : 1 ≤ n)]; rfl), by omega, by omega, fun ls G3 e3 hF hlen hcnt => ?_⟩
    have L3 := (L1.ex e2).ex e3
    have e03 := (e1.trans e2).trans e3
    refine ⟨_, rfl, _, rfl, rg, _, rfl, .inl (SqL.of (hR.ex e03)), fun r2 hr2 => ?_⟩
    have er : Ex G3 (upd G3 r2 (.lst (R.map nV))) := Ex.new hr2
    refine ⟨_, rfl, x, r2, n, R, near, sl, ls, rfl, (L3.ex er).TA, upd_same, hRn, Rg, hF, by omega, fun G4 e4 => ?_⟩
    rw [hcnt]
    have e04 := (e03.trans er).trans e4
    have fate : fateS n near t R = fw mb := by
      unfold fw
      by_cases h : IsTree.Calm n near t (· ∈ R)
      · rw [fate_held h, if_pos (hm.mpr h)]
      · rw [fate_str h, if_neg (fun z => h (hm.mp z))]
    have hmh : hb = mb := by rw [Bool.eq_iff_iff, hm, hh]
    rw [fate]
    refine ⟨_, rfl, by show 2 ≤ sizeLine; decide, fun d hd' => ⟨_, rfl, .inr ⟨_, rfl, ?_⟩⟩⟩
    have ed : Ex G4 (upd G4 d (.lst [.str "stripped", .str "held"])) := Ex.new hd'
    refine ⟨d, _, _, .str (fw mb), rfl, rfl, SqL.of upd_same, (by cases mb <;> rfl), ?_⟩
    refine ⟨_, _, .str (fw mb), rfl, .str _, .str _, trivial, fun G5 e5 => ⟨_, rfl, iteF ?_⟩⟩
    refine ⟨_, rfl, rfl, ?_⟩
    refine ⟨_, rfl, _, _, .bool hb, rfl, ?_, .bl _, trivial, fun G6 e6 => ⟨_, rfl, iteF ⟨_, _, _, rfl, ((e04.trans ed).trans e5).trans e6⟩⟩⟩
    have : decide (V.str (fw mb) = V.str "held") = hb := by
      rw [hmh]
      cases mb
      · exact decide_eq_false hs_ne
      · exact decide_eq_true rfl
    rw [this]
    exact .bl _
  · rintro σ G1 ⟨u13, u14, u15, rfl, e1⟩
    exact lw18_ok (L.ex e1) kk
theorem lw15_ok {t t2 : Nat} {rg due dq : Addr} {R : List Nat} {u8 : Option V} (L : LawC K C a hd dr q nr x ns hl n links near sl G) (ht : t < n) (hR : LN G rg R) (hRn : R.Nodup) (Rg : IsTree.Region n near (· ∈ R))
    (hdue : G due = some (.tup [.str (strongW n near t), .ref dq])) (hdq : LN G dq (strongL n near t)) (kk : ∀ H', Q (.bl true) H') :
    lw15 K C { nx := fun _ H' => Q .non H', rt := Q } [some (.ref a), some (.ref hd), some (.ref dr), some (nV n), some (.ref nr), some (.ref x), some (nV t), some (nV t2), u8, some (.ref due), some (.ref rg), none, none, none, none, none, none, none, none] G := by
  have hn := L.n18
  have hpos := L.pos
  have hRl : R.length ≤ n := nodup_le hRn Rg.lt
  refine ⟨_, rfl, _, rfl, due, dq, rg, n, t, R, near, rfl, hdue, hdq, hR, L.TA.tree, Rg, by omega, by omega, fun mb G2 e2 hm => ?_⟩
  have hm : mb = true ↔ IsTree.Calm n near t (· ∈ R) := hm
  have L2 := L.ex e2
  refine ⟨by show 1 ≤ sizeLine; decide, fun z0 hz0 => ?_⟩
  have ez : Ex G2 (upd G2 z0 (.lst [.int 0])) := Ex.new hz0
  refine ⟨_, rfl, _, rfl, rg, nr, n, R, near, rfl, (hR.ex e2).ex ez, (L2.ex ez).nrl, L.TA.tree, by omega, by omega, fun s G3 ss hs e3 hss ⟨hsl, hsm⟩ => ?_⟩
  refine ⟨z0, s, _, _, rfl, rfl, e3 _ _ upd_same, hss, small (by rw [List.length_map]; simp; omega : _ ≤ 1000), fun w hw => ?_⟩
  refine ⟨w, (0 : Int) :: List.map (fun x : Nat => (x : Int)) ss, rfl, SqL.of ?_, by simp, fun m hm1 hm2 => ?_⟩
  · rw [upd_same, List.map_cons, ← natI]; rfl
  refine ⟨_, rfl, _, _, rfl, rfl, ?_⟩
  have e4 := ((e2.trans ez).trans e3).trans (Ex.new (o := .lst ([V.int 0] ++ ss.map nV)) hw)
  refine lw17_ok (L.ex e4) ht (hR.ex e4) hRn Rg hm ?_ kk
  rw [decide_eq_true_iff, ← hsm t]
  constructor
  · intro hmt v hv
    have h1 := hm2 (v : Int) (List.mem_cons_of_mem _ (List.mem_map.mpr ⟨_, hv, rfl⟩))
    omega
  · intro hall
    rcases List.mem_cons.mp hm1 with rfl | hm1
    · omega
    · obtain ⟨v, hv, rfl⟩ := List.mem_map.mp hm1
      have := hall v hv
      omega
theorem lw14_ok {t t2 : Nat} {rg due dq : Addr} {R : List Nat} {u8 : Option V} (L : LawC K C a hd dr q nr x ns hl n links near sl G) (ht : t < n) (hR : LN G rg R) (hRn : R.Nodup) (Rg : IsTree.Region n near (· ∈ R))
    (hdue : G due = some (.tup [.str (strongW n near t), .ref dq])) (hdq : LN G dq (strongL n near t)) (kk : ∀ H', Q (.bl true) H') :
    lw14 K C { nx := fun _ H' => Q .non H', rt := Q } [some (.ref a), some (.ref hd), some (.ref dr), some (nV n), some (.ref nr), some (.ref x), some (nV t), some (nV t2), u8, some (.ref due), some (.ref rg), none, none, none, none, none, none, none, none] G := by
  have hn := L.n18
  obtain ⟨h3, hh3⟩ := L.h 3 (by omega)
  obtain ⟨h4, hh4⟩ := L.h 4 (by omega)
  have hs : SqL K G hd (hl.map nV) := SqL.of L.head
  refine ⟨_, rfl, hd, _, _, nV h3, rfl, rfl, hs, (show _ = _ from at_nat hh3), rfl, _, rfl, ?_⟩
  refine ite2 (fun _ => ?_) (fun _ => lw15_ok L ht hR hRn Rg hdue hdq kk)
  refine ⟨_, rfl, _, rfl, _, rfl, hd, _, _, nV h4, rfl, rfl, hs, (show _ = _ from at_nat hh4), nr, due, dq, n, t, h4, near, rfl, L.nrl, hdue, hdq, L.TA.tree, by omega, fun r G2 R2 e2 hR2 ⟨hR2n, Rg2⟩ => ?_⟩
  exact lw15_ok (L.ex e2) ht hR2 hR2n Rg2 (e2 _ _ hdue) (hdq.ex e2) kk
theorem lw13_ok {t t2 : Nat} {rg due dq : Addr} {R : List Nat} {u8 : Option V} (L : LawC K C a hd dr q nr x ns hl n links near sl G) (ht : t < n) (hR : LN G rg R) (hRn : R.Nodup) (Rg : IsTree.Region n near (· ∈ R))
    (hdue : G due = some (.tup [.str (strongW n near t), .ref dq])) (hdq : LN G dq (strongL n near t)) (kk : ∀ H', Q (.bl true) H') :
    lw13 K C { nx := fun _ H' => Q .non H', rt := Q } [some (.ref a), some (.ref hd), some (.ref dr), some (nV n), some (.ref nr), some (.ref x), some (nV t), some (nV t2), u8, some (.ref due), some (.ref rg), none, none, none, none, none, none, none, none] G := by
  have hn := L.n18
  obtain ⟨h3, hh3⟩ := L.h 3 (by omega)
  obtain ⟨h4, hh4⟩ := L.h 4 (by omega)
  have hs : SqL K G hd (hl.map nV) := SqL.of L.head
  refine ⟨_, rfl, hd, _, _, nV h3, rfl, rfl, hs, (show _ = _ from at_nat hh3), rfl, _, rfl, ?_⟩
  refine ite2 (fun _ => ?_) (fun _ => lw14_ok L ht hR hRn Rg hdue hdq kk)
  refine ⟨_, rfl, _, rfl, hd, _, _, nV h4, rfl, rfl, hs, (show _ = _ from at_nat hh4), due, dq, n, t, h4, near, rfl, hdue, hdq, L.TA.tree, by omega, fun r G2 R2 hr e2 hR2 ⟨hR2n, Rg2⟩ => ?_⟩
  exact lw14_ok (L.ex e2) ht hR2 hR2n Rg2 (e2 _ _ hdue) (hdq.ex e2) kk
theorem lw9_ok {t t2 : Nat} {u8 : Option V} (L : LawC K C a hd dr q nr x ns hl n links near sl G) (ht : t < n) (ht2 : t2 < n) (kk : ∀ H', Q (.bl true) H') :
    lw9 K C { nx := fun _ H' => Q .non H', rt := Q } [some (.ref a), some (.ref hd), some (.ref dr), some (nV n), some (.ref nr), some (.ref x), some (nV t), some (nV t2), u8, none, none, none, none, none, none, none, none, none, none] G := by
  have hn := L.n18
  have hpos := L.pos
  have hll := L.llen
  have strong : ∀ (tt : Nat) (G1 : Hp) (R : VK), Ex G G1 → (∀ (p dq : Addr) (G2 : Hp), Ex G1 G2 → G2 p = some (.tup [.str (strongW n near tt), .ref dq]) → LN G2 dq (strongL n near tt) → R (.ref p) G2) → sp_l_stronghold K C [.ref nr, .ref q, nV tt] G1 R E0 := fun tt G1 R e h =>
    ⟨nr, q, n, tt, near, links, rfl, (L.ex e).nrl, (L.ex e).lk, L.TA.tree, L.isn, by omega, L.range, by omega, fun p G2 hp e2 ⟨dq, h1, h2, h3⟩ => h p dq G2 e2 h1 h3⟩
  have judged : ∀ (tt : Nat) (G1 : Hp) (p dq : Addr) (R : VK), tt < n → Ex G G1 → G1 p = some (.tup [.str (strongW n near tt), .ref dq]) → LN G1 dq (strongL n near tt) → (∀ G2, Ex G1 G2 → R (.bl true) G2) → sp_l_judged K C [.ref x, nV tt, .ref p] G1 R E0 := fun tt G1 p dq R h e h1 h2 k =>
    ⟨x, p, dq, n, tt, near, sl, rfl, (L.ex e).TA, h, h1, h2, fun G2 e2 => k G2 e2⟩
  refine ⟨_, rfl, _, rfl, dr, _, _, _, rfl, rfl, SqT.of L.dr, (show _ = some (V.ref q) from rfl), _, rfl, ?_⟩
  dsimp only [tNil]
  refine strong t G _ (Ex.refl _) fun due dq G1 e1 hdue hdq => ?_
  refine ⟨_, rfl, _, rfl, _, rfl, ?_⟩
  dsimp only [tNil]
  refine judged t G1 due dq _ ht e1 hdue hdq fun G2 e2 => ⟨_, rfl, iteF ?_⟩
  have e02 := e1.trans e2
  refine ⟨_, rfl, _, rfl, _, rfl, _, rfl, dr, _, _, _, rfl, rfl, SqT.of (L.ex e02).dr, (show _ = some (V.ref q) from rfl), _, rfl, ?_⟩
  dsimp only [tNil]
  refine strong t2 G2 _ e02 fun due2 dq2 G3 e3 hdue2 hdq2 => ?_
  have e03 := e02.trans e3
  refine judged t2 G3 due2 dq2 _ ht2 e03 hdue2 hdq2 fun G4 e4 => ⟨_, rfl, iteF ?_⟩
  have e04 := e03.trans e4
  have e14 := (e2.trans e3).trans e4
  refine ⟨_, rfl, _, rfl, _, rfl, ?_⟩
  dsimp only [tNil]
  refine judged t G4 due dq _ ht e04 (e14 _ _ hdue) (hdq.ex e14) fun G5 e5 => ⟨_, rfl, iteF ?_⟩
  have e05 := e04.trans e5
  have e15 := e14.trans e5
  have L5 := L.ex e05
  obtain ⟨h4, hh4⟩ := L.h 4 (by omega)
  refine ⟨_, rfl, ?_⟩
  dsimp only [tCons, tC, tNil]
  refine L5.cell 2 _ fun c G6 e6 hc => ?_
  have L6 := L5.ex e6
  refine ⟨_, rfl, _, rfl, hd, _, _, nV h4, rfl, rfl, SqL.of L6.head, (show _ = _ from at_nat hh4), .inl ⟨_, rfl, _, rfl, _, _, rfl, rfl, (by show (n : Int) ≠ 0; omega), _, _, rfl, rfl, ?_⟩⟩
  refine ⟨c, nr, n, 1 + h4 % n, near, (by rw [fmod_nat]; show [V.int c, V.ref nr, V.int ((1 : Nat) + ((h4 % n : Nat) : Int))] = _; rw [natAdd]), L6.nrl, L.TA.tree, by omega, ?_, by omega, fun rg G7 R hrg e7 hR ⟨hRn, Rg⟩ => ?_⟩
  · have := Nat.mod_lt h4 hpos
    omega
  have e17 := (e15.trans e6).trans e7
  exact lw13_ok (L6.ex e7) ht hR hRn Rg (e17 _ _ hdue) (hdq.ex e17) kk
theorem rd_law : Good (sp_law K C) P_law N_law (t_law K C) := by
  intro vs H Q E h
  obtain ⟨a, ns, rfl, hs, hlen, kk⟩ := h
  refine ⟨rfl, ?_⟩
  have cell : ∀ (k : Nat) (G : Hp) (R : VK), Ex H G → (∀ (i : Int) (G' : Hp), Ex G G' → 0 ≤ i → R (.int i) G') → sp_l_cell K C [.ref a, nV k] G R E0 := fun k G R e h => ⟨a, ns, k, rfl, ex_l e hs, hlen, fun i G' e hi => h i G' e hi⟩
  refine ⟨_, rfl, ?_⟩
  dsimp only [tCons, tC, tNil]
  refine cell 5 H _ (Ex.refl _) fun i1 G1 e1 hi1 => ?_
  refine ⟨_, rfl, ?_⟩
  refine cell 0 G1 _ e1 fun i2 G2 e2 hi2 => ?_
  have hf := fmodI i2 1000003 (by decide)
  refine .inl ⟨_, rfl, _, _, rfl, rfl, (by show (1000003 : Int) ≠ 0; decide), _, _, rfl, rfl, _, rfl, by omega, fun G3 e3 => ⟨_, rfl, iteF ?_⟩⟩
  have e03 := (e1.trans e2).trans e3
  refine ⟨_, rfl, ?_⟩
  dsimp only [tCons, tC, tNil]
  refine cell 0 G3 _ e03 fun i4 G4 e4 hi4 => ?_
  refine ⟨by show 6 ≤ sizeLine; decide, fun m0 hm0 => ?_⟩
  have em : Ex G4 (upd G4 m0 (.lst [.int 6, .int 18, .int 18, .int 3, .int 18, .int 12])) := Ex.new hm0
  refine ⟨i4, m0, [6, 18, 18, 3, 18, 12], rfl, upd_same, fun y hy => by simp at hy; omega, by simp, fun hd G5 hl hhd e5 hL hp => ?_⟩
  have hp : Paired (fun d m => d < m) hl [6, 18, 18, 3, 18, 12] := hp
  have e05 := ((e03.trans e4).trans em).trans e5
  have hll : hl.length = 6 := hp.length
  obtain ⟨h0, hh0, _⟩ := Paired.atI hp (i := 0) rfl
  obtain ⟨h1, hh1, _⟩ := Paired.atI hp (i := 1) rfl
  obtain ⟨h2, hh2, _⟩ := Paired.atI hp (i := 2) rfl
  obtain ⟨h5, hh5, h5m⟩ := Paired.atI hp (i := 5) rfl
  refine ⟨_, rfl, ?_⟩
  dsimp only [tCons, tC, tNil]
  refine cell 1 G5 _ e05 fun i6 G6 e6 hi6 => ?_
  refine ⟨by show 2 ≤ sizeLine; decide, fun m1 hm1 => ?_⟩
  have em1 : Ex G6 (upd G6 m1 (.lst [.int 12, .int 18])) := Ex.new hm1
  refine ⟨_, rfl, hd, _, _, nV h0, rfl, rfl, SqL.of ((hL.ex e6).ex em1), (show _ = _ from at_nat hh0), rfl, .inr ⟨_, rfl, ?_⟩⟩
  obtain ⟨mm1, hmm1, hmm2, hmm3⟩ : ∃ m : Nat, atI [V.int 12, V.int 18] (if decide (nV h0 = V.int 1) = true then 1 else 0) = some (nV m) ∧ 1 ≤ m ∧ m ≤ 18 := by
    cases decide (nV h0 = V.int 1)
    · exact ⟨12, rfl, by decide, by decide⟩
    · exact ⟨18, rfl, by decide, by decide⟩
  refine ⟨m1, _, _, nV mm1, rfl, rfl, SqL.of upd_same, hmm1, i6, mm1, rfl, hmm2, hmm3, fun dr q G7 n links hdr e7 hdrv hlk hG hn => ?_⟩
  have e57 := (e6.trans em1).trans e7
  have e07 := e05.trans e57
  have hL7 := hL.ex e57
  obtain ⟨π, p, f, M⟩ := hG
  have hpos := M.pos
  have hlln := M.len
  have hrg : ∀ l ∈ links, l.1 < n ∧ l.2 < n := fun l hl => M.range (a := l.1) (b := l.2) hl
  refine ⟨_, rfl, dr, _, _, _, rfl, rfl, SqT.of hdrv, (show _ = some (nV n) from rfl), ?_⟩
  refine ⟨_, rfl, _, rfl, dr, _, _, _, rfl, rfl, SqT.of hdrv, (show _ = some (V.ref q) from rfl), q, n, links, rfl, hlk, hrg, by omega, by omega, fun nr G8 near hnr e8 hnrl N => ?_⟩
  have N : IsNear n links near := N
  have T := M.tree N
  have hdr8 := e8 _ _ hdrv
  have hlk8 := hlk.ex e8
  refine ⟨_, rfl, _, rfl, dr, _, _, _, rfl, rfl, SqT.of hdr8, (show _ = some (V.ref q) from rfl), ?_⟩
  obtain ⟨lads, hl1, hl2⟩ := hlk8
  refine ⟨q, _, rfl, .inl (SqL.of hl1), fun q2 hq2 => ?_⟩
  dsimp only [tNil]
  intro x dx hx hdx hne
  have eq2 : Ex G8 (upd G8 q2 (.lst (lads.map V.ref))) := Ex.new hq2
  have hlk9 : LPN (upd G8 q2 (.lst (lads.map V.ref))) q2 links := ⟨lads, upd_same, Paired.mono (fun _ _ z => PN.ex eq2 z) hl2⟩
  refine mk_tree hx hdx hne hlk9 ⟨π, p, f, M⟩ (by omega) fun G9 near' sl e9 TA hsl => ?_
  have en : near' = near := IsNear.unique TA.near N fun c => (nbs_perm hsl c).trans (nbs_mm links c)
  subst en
  have e79 := (e8.trans eq2).trans e9
  have e89 := eq2.trans e9
  have L : LawC K C a hd dr q nr x ns hl n links near' sl G9 := ⟨ex_l (e07.trans e79) hs, hlen, hL7.ex e79, hll, e79 _ _ hdrv, hlk.ex e79, ⟨π, p, f, M⟩, hnrl.ex e89, N, TA, hsl, by omega⟩
  have hsq : SqL K G9 hd (hl.map nV) := SqL.of L.head
  refine ⟨_, rfl, hd, _, _, nV h1, rfl, rfl, hsq, (show _ = _ from at_nat hh1), .inl ⟨_, rfl, _, rfl, _, _, rfl, rfl, (by show (n : Int) ≠ 0; omega), ?_⟩⟩
  dsimp only
  rw [fmod_nat]
  refine ⟨_, rfl, hd, _, _, nV h2, rfl, rfl, hsq, (show _ = _ from at_nat hh2), .inl ⟨_, rfl, _, rfl, _, _, rfl, rfl, (by show (n : Int) ≠ 0; omega), ?_⟩⟩
  dsimp only
  rw [fmod_nat]
  have ht1 : h1 % n < n := Nat.mod_lt _ hpos
  have ht2 : h2 % n < n := Nat.mod_lt _ hpos
  refine ⟨_, rfl, hd, _, _, nV h5, rfl, rfl, hsq, (show _ = _ from at_nat hh5), _, _, rfl, rfl, _, rfl, ?_⟩
  refine ite2 (fun h54 => ?_) (fun _ => lw9_ok L ht1 ht2 kk)
  have h54 : h5 < 4 := by have := of_decide_eq_true h54; omega
  refine ⟨_, rfl, _, rfl, _, rfl, _, rfl, _, _, rfl, rfl, by show 4 ≤ sizeLine; decide, fun m2 hm2 => ?_⟩
  have em2 : Ex G9 (upd G9 m2 (.lst [.int (-2), .int (-1), nV n, .int ((n : Int) + 1)])) := Ex.new hm2
  obtain ⟨tn, htn, hor, hab⟩ : ∃ tn : Int, atI [V.int (-2), V.int (-1), nV n, V.int ((n : Int) + 1)] ((h5 : Nat) : Int) = some (V.int tn) ∧ (tn < 0 ∨ (n : Int) ≤ tn) ∧ tn.natAbs ≤ 1000 := by
    have hc : h5 = 0 ∨ h5 = 1 ∨ h5 = 2 ∨ h5 = 3 := by omega
    rcases hc with rfl | rfl | rfl | rfl
    · exact ⟨-2, atI_nat (j := 0) rfl, .inl (by decide), by decide⟩
    · exact ⟨-1, atI_nat (j := 1) rfl, .inl (by decide), by decide⟩
    · exact ⟨n, atI_nat (j := 2) rfl, .inr (Int.le_refl _), by omega⟩
    · exact ⟨(n : Int) + 1, atI_nat (j := 3) rfl, .inr (by omega), by omega⟩
  refine ⟨_, rfl, hd, _, _, nV h5, rfl, rfl, SqL.of (L.ex em2).head, (show _ = _ from at_nat hh5), m2, _, _, .int tn, rfl, rfl, SqL.of upd_same, htn, ?_⟩
  refine ⟨_, rfl, _, rfl, x, n, tn, near', sl, rfl, (L.ex em2).TA, hab, fun p1 s1 G10 m hm hmn => by omega, fun p1 G10 _ e10 hp1 => ?_⟩
  refine ⟨_, rfl, by show 2 ≤ sizeLine; decide, fun w hw => ?_⟩
  have ew : Ex G10 (upd G10 w (.tup [.str "range", .int tn])) := Ex.new hw
  refine ⟨.ref p1, .ref w, .tuple [.str "range", .int tn], rfl, ?_, ?_, ?_, fun G11 e11 => ⟨_, rfl, iteF ?_⟩⟩
  · exact .tup (ew _ _ hp1) (.cons (.str _) (.cons (.int _) .nil))
  · exact .tup upd_same (.cons (.str _) (.cons (.int _) .nil))
  · refine ⟨by simp, fun d hd => ?_⟩
    simp at hd
    rcases hd with rfl | rfl <;> trivial
  · exact lw9_ok (L.ex (((em2.trans e10).trans ew).trans e11)) ht1 ht2 kk
end
end Bw
/-! readings: strongholds, that may raise -/
namespace Bw
open PySem PySem.Spec PyProof.Rows L2 Evl Bb
/-- a new exception's __init__ -/
def sp_oor (K : PySem.W.Frag) (C : Addr) : Sp := fun vs H Q _ => ∃ (a : Addr) (t : Int), vs = [.ref a, .int t] ∧ H a = some (exo a C none) ∧
  ∀ dx H', H dx = none → dx ≠ a → H' = upd (upd H dx (exd dx [(("value" : Str), V.int t)])) a (exo a C (some dx)) → Q .non H'
/-- the strongholds, or the number refused -/
def sp_strongX (K : PySem.W.Frag) (C CO : Addr) : Sp := fun vs H Q E => ∃ (x : Addr) (n : Nat) (t : Int) (near : List (List Nat)) (links : List (Nat × Nat)), vs = [.ref x, .int t] ∧ TreeAt C H x n near links ∧
  (∀ (m : Nat) (p : Addr) (H' : Hp), t = m → m < n → H p = none → Ex H H' → StrongAt H H' p (strongW n near m) (strongL n near m) → Q (.ref p) H') ∧
  ((t < 0 ∨ (n : Int) ≤ t) → ∀ (d : Addr) (H' : Hp), H d = none → Ex H H' → H' d = some (.xd [(("value" : Str), V.int t)]) → E (.ref CO) (some d) H')
abbrev N_strongholds : List Str := ["tree", "turns", "sizes", "keep", "rest", "heavy", "cell", "size"]
abbrev P_strongholds : List Str := ["tree", "turns"]
def tRz (K : PySem.W.Frag) (CO : Addr) (E : XK) : TS := fun _ σ H => tMkO CO (sp_oor K CO) [] (tCons (tVar 1) tNil) σ H fun cls d H' => E cls d H'
def t_strongX (K : PySem.W.Frag) (C CO : Addr) (E : XK) : TS :=
(tSeq (tIfS (tNot (tTest (tChain rLe rLt (tC (.int 0)) (tVar 1) (tFld K (tVar 0) "size")))) (tRz K CO E) tNext)
  (tSeq (tAsg (tMeth C "all_sizes" (sp_Tree_all_sizes K C) [] E0 (tVar 0) tNil) (gName 2))
  (tSeq (tAsg (tLc (iRng1 (tCons (tFld K (tVar 0) "size") tNil)) (gName 6) (tTest (tOp rLe (tCKw (rMaxDf K) (tCons (tOp (rIxL K) (tVar 2) (tVar 6)) tNil) (tCons (tC (.int 0)) tNil)) (tVar 1))) (tVar 6) [6]) (gName 3))
  (tSeq (tIfS (tTru K (tVar 3)) (tRet (tTup (tCons (tC (.str "keep")) (tCons (tVar 3) tNil)))) tNext)
  (tSeq (tAsg (tOp rSub (tFld K (tVar 0) "size") (tVar 1)) (gName 4))
  (tSeq (tAsg (tLc (iRng1 (tCons (tFld K (tVar 0) "size") tNil)) (gName 6) tYes (tCB (rAny K) (tCons (tLc (iList K (tOp (rIxL K) (tVar 2) (tVar 6))) (gName 7) tYes (tChain rLt rLt (tVar 1) (tVar 7) (tVar 4)) [7]) tNil)) [6]) (gName 5))
  (tRet (tTup (tCons (tC (.str "backbone")) (tCons (tLc (iRng1 (tCons (tFld K (tVar 0) "size") tNil)) (gName 6) (tTru K (tOp (rIxL K) (tVar 5) (tVar 6))) (tVar 6) [6]) tNil))))))))))
section
variable {K : PySem.W.Frag} {C CO : Addr} {H G G' : Hp}
open Classical in
theorem rd_strongX (T : TrA K C) : ∀ vs H Q E, sp_strongX K C CO vs H Q E → vs.length = P_strongholds.length ∧ t_strongX K C CO E { nx := fun _ H' => Q .non H', rt := Q } (start N_strongholds vs) H := by
  intro vs H Q E h
  obtain ⟨x, n, t, near, links, rfl, TA, kq, ke⟩ := h
  refine ⟨rfl, ?_⟩
  have hn := TA.small
  have TT := TA.tree
  obtain ⟨dx, lA, qA, hx, hlA, hqA⟩ := TA.ob
  have raise : (t < 0 ∨ (n : Int) ≤ t) → tRz K CO E { nx := fun _ H' => Q .non H', rt := Q } [some (.ref x), some (.int t), none, none, none, none, none, none] H := fun hor => by
    refine ⟨_, rfl, by simp, fun a ha => ⟨a, t, rfl, upd_same, fun dx H' hdx hne hH' => ⟨rfl, dx, [(("value" : Str), V.int t)], ?_, ?_, ?_, ?_⟩⟩⟩
    · rw [hH', upd_same]
    · rw [hH', upd_ne hne, upd_same]
    · rw [upd_ne hne] at hdx; exact hdx
    · have hd0 : H dx = none := by rw [upd_ne hne] at hdx; exact hdx
      refine ke hor dx _ hd0 (fun b o hb => ?_) upd_same
      have h1 : b ≠ dx := ne_of_none hb hd0
      have h2 : b ≠ a := ne_of_none hb ha
      rw [upd_ne h1, del_ne h2, hH', upd_ne h2, upd_ne h1, upd_ne h2]
      exact hb
  refine ⟨_, rfl, _, _, rfl, rfl, _, rfl, ?_⟩
  refine ite2 (fun h0 => ?_) (fun h0 => ?_)
  · have h0 : 0 ≤ t := of_decide_eq_true h0
    refine ⟨_, rfl, x, C, dx, _, _, rfl, hx, T.cl, T.nS, look_size n lA qA, _, _, rfl, rfl, _, rfl, ?_⟩
    refine ite2 (fun h1 => ?_) (fun h1 => ?_)
    · have h1 : ¬ t < (n : Int) := fun z => by
        rw [decide_eq_true z] at h1; cases h1
      exact raise (.inr (by omega))
    · have h1 : t < (n : Int) := Classical.byContradiction fun z => h1 (by rw [decide_eq_false z]; rfl)
      obtain ⟨m, rfl⟩ : ∃ m : Nat, t = m := ⟨t.toNat, by omega⟩
      have hmn : m < n := by omega
      refine ⟨_, rfl, x, dx, _, rfl, hx, look_meth n lA qA (by decide +kernel) (by decide +kernel) (by decide +kernel), x, n, near, links, rfl, TA, fun S G1 rows hS e1 hrows hsz => ?_⟩
      have hsz : SizesOf n near rows := hsz
      obtain ⟨hrl, hrow⟩ := hsz
      obtain ⟨rads, hr1, hr2⟩ := hrows
      have size : ∀ (G2 : Hp) (σ' : L2.St) (R : V → Hp → Prop), Ex H G2 → σ'[0]? = some (some (.ref x)) → R (nV n) G2 → tFld K (tVar 0) "size" σ' G2 R := fun G2 σ' R e hg k => ⟨_, hg, x, C, dx, _, _, rfl, e _ _ hx, T.cl, T.nS, look_size n lA qA, k⟩
      have rowAt : ∀ c, c < n → ∃ (ra : Addr) (r : List Nat), rads[c]? = some ra ∧ LN G1 ra r ∧ r.length ≤ n ∧ ∀ v, v ∈ r ↔ ∃ d, d ∈ nb near c ∧ v = be n near c d := fun c hc => by
        obtain ⟨r, hr⟩ : ∃ r, rows[c]? = some r := ⟨_, List.getElem?_eq_getElem (by omega)⟩
        obtain ⟨ra, hra, hl⟩ := Paired.atI hr2 hr
        obtain ⟨h1, h2⟩ := hrow c r hr
        exact ⟨ra, r, hra, hl, h1, h2⟩
      dsimp only [tSeq, tAsg, gName]
      refine lc_rngc n (fun c => decide (IsTree.Keep n near m c)) (by omega) (by show 6 < 8; decide) (fun R h' => size G1 _ _ e1 rfl (h' G1 (Ex.refl _))) (fun c G2 R hc e2 h' => ?_) fun Kp G2 hKp e2 hKpn => ?_
      · have hcn : c < n := List.mem_range.mp hc
        obtain ⟨ra, r, hra, hl, h1, h2⟩ := rowAt c hcn
        refine ⟨_, rfl, _, rfl, S, _, _, _, rfl, rfl, SqL.of (e2 _ _ hr1), at_ref hra, ra, List.map (fun x : Nat => (x : Int)) r, 0, rfl, rfl, SqL.of (by rw [← natI]; exact hl.ex e2), fun mx m1 m2 m3 => ?_⟩
        refine ⟨_, rfl, _, _, rfl, rfl, _, rfl, ?_⟩
        have : decide (mx ≤ (m : Int)) = decide (IsTree.Keep n near m c) := by
          rw [decide_eq_decide]
          constructor
          · intro hmt d hd
            have := m3 ((be n near c d : Nat) : Int) (List.mem_map.mpr ⟨_, (h2 _).mpr ⟨d, hd, rfl⟩, rfl⟩)
            omega
          · intro hk
            by_cases he : r = []
            · subst he
              have := m1 rfl
              omega
            · obtain ⟨v, hv, rfl⟩ := List.mem_map.mp (m2 (by simpa using he))
              obtain ⟨d, hd, rfl⟩ := (h2 v).mp hv
              have := hk d hd
              omega
        rw [this]
        exact h' G2 (Ex.refl _)
      have hKpn : LN G2 Kp (keepL n near m) := hKpn
      have e02 := e1.trans e2
      refine ⟨_, rfl, _, .inl ⟨_, SqL.of hKpn, rfl⟩, ?_⟩
      have hem : (!((keepL n near m).map nV).isEmpty) = !decide (keepL n near m = []) := by
        cases keepL n near m <;> rfl
      rw [hem]
      refine ite2 (fun hz => ?_) (fun hz => ?_)
      · have hz : keepL n near m ≠ [] := by simpa using hz
        obtain ⟨w1, w2⟩ := strong_keep hz
        refine ⟨_, rfl, by show 2 ≤ sizeLine; decide, fun p hp => ?_⟩
        refine kq m p _ rfl hmn (fresh_back e02 hp) (e02.trans (Ex.new hp)) ⟨Kp, ?_, fresh_back e1 hKp, ?_⟩
        · rw [upd_same, w1]
        · rw [w2]; exact hKpn.ex (Ex.new hp)
      · have hz : keepL n near m = [] := by simpa using hz
        obtain ⟨w1, w2⟩ := strong_back hz
        dsimp only [tNext, tSeq, tAsg, gName, tOp]
        refine size G2 _ _ e02 rfl ⟨_, rfl, _, _, rfl, rfl, ?_⟩
        refine lc_rng n (fun _ => true) (fun c _ v => v = .bl (decide (IsTree.Back n near m c))) (fun _ _ _ _ _ h => h) (by omega) (fun R h' => size G2 _ _ e02 rfl (h' G2 (Ex.refl _))) (fun x G R _ _ h => h G (Ex.refl G)) (fun c G3 R hc _ e3 h' => ?_) fun Hv G3 vs hHv e3 hv hp => ?_
        · have hcn : c < n := List.mem_range.mp hc
          obtain ⟨ra, r, hra, hl, h1, h2⟩ := rowAt c hcn
          have e23 := e2.trans e3
          dsimp only [tCB, tCons]
          refine lc_over (K := K) r nV (fun _ => true) (fun s _ v => v = .bl (decide (m < s ∧ s < n - m))) (fun _ _ _ _ _ h => h) (by omega) (fun R h' => ⟨_, rfl, _, rfl, S, _, _, _, rfl, rfl, SqL.of (e23 _ _ hr1), at_ref hra, h' ra G3 (Ex.refl _) (hl.ex e23)⟩) (fun x G R _ _ h => h G (Ex.refl G)) (fun s G4 R hs _ e4 h' => ?_) fun An G4 vs hAn e4 hv hp => ?_
          · refine ⟨_, rfl, _, rfl, _, _, rfl, rfl, _, rfl, ?_⟩
            refine ite2 (fun q1 => ?_) (fun q1 => ?_)
            · have q1 : m < s := by have := of_decide_eq_true q1; omega
              refine ⟨_, rfl, _, _, rfl, rfl, ?_⟩
              have : decide ((s : Int) < (n : Int) - (m : Int)) = decide (m < s ∧ s < n - m) := by
                rw [decide_eq_decide]; omega
              dsimp only
              rw [this]
              exact h' _ G4 (Ex.refl _) fun _ _ _ => rfl
            · have q1 : ¬ m < s := fun z => q1 (decide_eq_true (by omega))
              have : (false : Bool) = decide (m < s ∧ s < n - m) := by
                symm; exact decide_eq_false fun z => q1 z.1
              rw [this]
              exact h' _ G4 (Ex.refl _) fun _ _ _ => rfl
          · rw [filter_true] at hp
            have := paired_map hp
            subst this
            refine ⟨An, r.map fun s => decide (m < s ∧ s < n - m), rfl, SqL.of (by rw [hv, List.map_map]; rfl), ?_⟩
            have : ((r.map fun s => decide (m < s ∧ s < n - m)).any id) = decide (IsTree.Back n near m c) := by
              rw [Bool.eq_iff_iff, List.any_eq_true, decide_eq_true_iff]
              constructor
              · rintro ⟨b, hb, hbt⟩
                obtain ⟨s, hs, rfl⟩ := List.mem_map.mp hb
                have hbt := of_decide_eq_true hbt
                obtain ⟨d, hd, rfl⟩ := (h2 s).mp hs
                have := TT.be_add hd
                exact ⟨d, hd, hbt.1, by omega⟩
              · rintro ⟨d, hd, q1, q2⟩
                have := TT.be_add hd
                exact ⟨true, List.mem_map.mpr ⟨_, (h2 _).mpr ⟨d, hd, rfl⟩, decide_eq_true ⟨q1, by omega⟩⟩, rfl⟩
            rw [this]
            exact h' _ G4 e4 fun _ _ _ => rfl
        · rw [filter_true] at hp
          have := paired_map hp
          subst this
          have e03 := e02.trans e3
          dsimp only [tRet, tTup, tCons, tC]
          refine lc_rngc n (fun c => decide (IsTree.Back n near m c)) (by omega) (by show 6 < 8; decide) (fun R h' => size G3 _ _ e03 rfl (h' G3 (Ex.refl _))) (fun c G4 R hc e4 h' => ?_) fun Bk G4 hBk e4 hBkn => ?_
          · have hcn : c < n := List.mem_range.mp hc
            have hat : atI ((List.range n).map fun c => V.bl (decide (IsTree.Back n near m c))) (c : Int) = some (V.bl (decide (IsTree.Back n near m c))) := atI_nat (by rw [List.getElem?_map, List.getElem?_range hcn]; rfl)
            exact ⟨_, rfl, _, rfl, Hv, _, _, _, rfl, rfl, SqL.of (e4 _ _ hv), hat, _, rfl, h' G4 (Ex.refl _)⟩
          · have hBkn : LN G4 Bk (backL n near m) := hBkn
            have e04 := e03.trans e4
            refine ⟨by show 2 ≤ sizeLine; decide, fun p hp => ?_⟩
            refine kq m p _ rfl hmn (fresh_back e04 hp) (e04.trans (Ex.new hp)) ⟨Bk, ?_, fresh_back e03 hBk, ?_⟩
            · rw [upd_same, w1]
            · rw [w2]; exact hBkn.ex (Ex.new hp)
  · have h0 : ¬ 0 ≤ t := fun z => h0 (decide_eq_true z)
    exact ⟨_, rfl, iteT (raise (.inl (by omega)))⟩
end
end Bw
/-! readings: told -/
namespace Bw
open PySem PySem.Spec PyProof.Rows L2 Evl Bb
abbrev N_l_told : List Str := ["_law_tree_here", "_law_turns", "e"]
abbrev P_l_told : List Str := ["_law_tree_here", "_law_turns"]
/-- isinstance(e, c), e the exception that the suite holds, with its dict -/
def rIsX (K : PySem.W.Frag) (CO a : Addr) (cls : Value) (d : Option Addr) : List V → Hp → VK → Prop := fun xs H Q => ∃ (c : V) (cv : Value) (b : Bool) (dd : Addr) (fs : List (Str × V)), xs = [.ref a, c] ∧ cls = .ref CO ∧ d = some dd ∧ H dd = some (.xd fs) ∧ ClsV c cv ∧ PySem.W.kitOne K (.ref CO) cv = some b ∧ Q (.bl b) H
/-- isinstance(e, (c1, c2)) -/
def rIsXT (K : PySem.W.Frag) (CO a : Addr) (cls : Value) (d : Option Addr) : List V → Hp → VK → Prop := fun xs H Q => ∃ (tp : Addr) (cs : List V) (us : List Value) (b : Bool) (dd : Addr) (fs : List (Str × V)), xs = [.ref a, .ref tp] ∧ cls = .ref CO ∧ d = some dd ∧ H dd = some (.xd fs) ∧ H tp = some (.tup cs) ∧ Paired ClsV cs us ∧ PySem.W.kitAny K (.ref CO) us = some b ∧ Q (.bl b) H
def tTold (K : PySem.W.Frag) (C CO : Addr) (W : WX) : TS := tRet (tTup (tCons (tC (.str "told")) (tCons (tCall (sp_strongX K C CO) [] (fun cls d H => ∀ σ : L2.St, σ.length = 3 → W cls d σ H) (tCons (tVar 0) (tCons (tVar 1) tNil))) tNil)))
def tSuite (K : PySem.W.Frag) (CO BE NR WL : Addr) (a : Addr) (cls : Value) (d : Option Addr) : TS :=
  tIfS (tAnd (tB (tCB (rIsX K CO a cls d) (tCons (tVar 2) (tCons (tC (.ref BE)) tNil)))) (tAnd (tB (tCB (rIsX K CO a cls d) (tCons (tVar 2) (tCons (tC (.ty "ValueError")) tNil)))) (tNot (tB (tCB (rIsXT K CO a cls d) (tCons (tVar 2) (tCons (tTup (tCons (tC (.ref NR)) (tCons (tC (.ref WL)) tNil))) tNil))))))) (tRet (tTup (tCons (tC (.str "range")) (tCons (tXf a cls d CO "value" (tVar 2)) tNil)))) tNext
def t_l_told (K : PySem.W.Frag) (C CO BE NR WL : Addr) : TS := tSeq (fun D σ H => tTold K C CO (wAs K (.ref CO) 2 (tSuite K CO BE NR WL) (fun _ _ _ _ => False) D) D σ H) (tRet (tTup (tCons (tC (.str "other")) tNil)))
/-- what the classes say -/
structure TldA (K : PySem.W.Frag) (CO BE NR WL : Addr) : Prop where
  exm : PySem.W.exmOne K (.ref CO) (.ref CO) = some true
  isB : PySem.W.kitOne K (.ref CO) (.ref BE) = some true
  isV : PySem.W.kitOne K (.ref CO) (.type "ValueError") = some true
  isT : PySem.W.kitAny K (.ref CO) [.ref NR, .ref WL] = some false
section
variable {K : PySem.W.Frag} {C CO BE NR WL : Addr}
theorem set2 (σ : L2.St) (h : σ.length = 3) (v : Option V) : ∃ x y, σ.set 2 v = [x, y, v] := by
  match σ, h with
  | [x, y, z], _ => exact ⟨x, y, rfl⟩
theorem rd_l_told (T : TldA K CO BE NR WL) : Good (sp_l_told K C) P_l_told N_l_told (t_l_told K C CO BE NR WL) := by
  intro vs H Q E h
  obtain ⟨x, n, t, near, links, rfl, TA, hab, k1, k2⟩ := h
  refine ⟨rfl, ?_⟩
  refine ⟨_, rfl, _, rfl, x, n, t, near, links, rfl, TA, fun m p H1 hm hmn hp e1 hs => ⟨by show 2 ≤ sizeLine; decide, fun u hu => ?_⟩, fun hor d H1 hd e1 hdv σ hσ => ⟨true, T.exm, fun _ a ha => ?_, fun z => by cases z⟩⟩
  · obtain ⟨q, h1, h2, h3⟩ := hs
    exact k1 u p _ m hm hmn (e1.trans (Ex.new hu)) upd_same ⟨q, Ex.new hu _ _ h1, h2, h3.ex (Ex.new hu)⟩
  · obtain ⟨x1, x2, hs⟩ := set2 σ hσ (some (.ref a))
    rw [hs]
    refine ⟨_, rfl, .ref BE, .ref BE, true, d, _, rfl, rfl, rfl, hdv, .own BE, T.isB, _, rfl, ?_⟩
    refine iteYes rfl ⟨_, rfl, .ty "ValueError", .type "ValueError", true, d, _, rfl, rfl, rfl, hdv, .ty _, T.isV, _, rfl, ?_⟩
    refine iteYes rfl ⟨_, rfl, by show 2 ≤ sizeLine; decide, fun tp htp => ?_⟩
    have et : Ex H1 (upd H1 tp (.tup [.ref NR, .ref WL])) := Ex.new htp
    refine ⟨tp, [.ref NR, .ref WL], [.ref NR, .ref WL], false, d, _, rfl, rfl, rfl, et _ _ hdv, upd_same, .cons (.own NR) (.cons (.own WL) .nil), T.isT, _, rfl, ?_⟩
    refine iteYes rfl ⟨_, rfl, rfl, rfl, d, _, .int t, rfl, et _ _ hdv, rfl, by show 2 ≤ sizeLine; decide, fun p hp => ?_⟩
    exact k2 p _ hor ((e1.trans et).trans (Ex.new hp)) upd_same
end
end Bw
namespace Bw
open PySem PySem.Spec PyProof.Rows L2 Evl Bb
/-! the defs' derivations, printed by gen.py -/
def top (i : Nat) : Stmt := PySem.Challenge.pw_barebough_k50_whole_strongholds.main.body.getD i (.Pass ⟨0, 0, 0, 0⟩)
/-- a def that is called -/
structure Cal (P : Program) (w : World) (K : PySem.W.Frag) (mg : Str → Option Value) (base : Heap) (k : Nat) (x : Str) (ps : List Str) (sp : Sp) (f : Addr) (fd : FuncData) : Prop where
  ok : FnOk P w K mg base CX0 k f fd ps sp
  g : mg x = some (.ref f)
  kp : PySem.W.keepIn K (.ref f) = true
  bd : Binds K fd ps []
structure CalM (P : Program) (w : World) (K : PySem.W.Frag) (mg : Str → Option Value) (base : Heap) (k : Nat) (ps : List Str) (sp : Sp) (f : Addr) (fd : FuncData) : Prop where
  ok : FnOk P w K mg base CX0 k f fd ps sp
  bd : Binds K fd ps []
structure CalD (P : Program) (w : World) (K : PySem.W.Frag) (mg : Str → Option Value) (base : Heap) (k : Nat) (x : Str) (ps : List Str) (ds : List Value) (sp : Sp) (f : Addr) (fd : FuncData) : Prop where
  ok : FnOk P w K mg base CX0 k f fd ps sp
  g : mg x = some (.ref f)
  kp : PySem.W.keepIn K (.ref f) = true
  bd : Binds K fd ps ds
structure CalK (P : Program) (w : World) (K : PySem.W.Frag) (mg : Str → Option Value) (base : Heap) (k : Nat) (x : Str) (ps ks : List Str) (sp : Sp) (f : Addr) (fd : FuncData) : Prop where
  ok : FnOk P w K mg base CX0 k f fd ps sp
  g : mg x = some (.ref f)
  kp : PySem.W.keepIn K (.ref f) = true
  kb : KBn K fd ps 1 ks (fun us ws => us ++ ws) gApp
/-- the built-ins are still the built-ins -/
structure Blt (mg : Str → Option Value) : Prop where
  ValueError : mg "ValueError" = none
  abs : mg "abs" = none
  any : mg "any" = none
  bool_ : mg "bool" = none
  enumerate : mg "enumerate" = none
  int_ : mg "int" = none
  isinstance : mg "isinstance" = none
  len : mg "len" = none
  list_ : mg "list" = none
  max_ : mg "max" = none
  min_ : mg "min" = none
  range : mg "range" = none
  reversed : mg "reversed" = none
  sorted : mg "sorted" = none
  str_ : mg "str" = none
  sum : mg "sum" = none
  tuple_ : mg "tuple" = none
/-- the class Tree -/
structure TrC (K : PySem.W.Frag) (mg : Str → Option Value) (C fI fL fN fS : Addr) : Prop where
  cl : Cls K C
  mkTree : Mk K C fI
  gTree : mg "Tree" = some (.ref C)
  m_links : Meth K C "links" fL
  m_neighbours : Meth K C "neighbours" fN
  m_all_sizes : Meth K C "all_sizes" fS
end Bw
namespace Bw
open PySem PySem.Spec PyProof.Rows L2 Evl Bb
abbrev s_top_sums : Stmt := top 8
theorem sc_top_sums : FnScope N_top_sums P_top_sums (defScope s_top_sums) := ⟨rfl, rfl, rfl, by decide +kernel, rfl, by decide +kernel, by decide +kernel⟩
theorem ok_top_sums {P : Program} {w : World} {K : PySem.W.Frag} {mg : Str → Option Value} {base : Heap} {C fI fL fN fS f : Addr} {fd : FuncData} (F : FunD K "top_sums" "top_sums" (defArgs s_top_sums) (defBody s_top_sums) (defScope s_top_sums) [] [] f fd) (B : Blt mg) (T : TrC K mg C fI fL fN fS)
    (R : Good (sp_top_sums K C) P_top_sums N_top_sums (t_top_sums K C)) : FnOk P w K mg base CX0 1 f fd P_top_sums (sp_top_sums K C) :=
  F.ok sc_top_sums (fun vs H Q E h => (R vs H Q E h).1) (fun cdv A outer s H vs Q E hr h => ⟨(t_top_sums K C), PSs.nox (by
    have nd := sc_top_sums.nd
    have hu := hu_of hr
    have hu64 := hr.units
    exact (pss_cons (ps_set (i := 1) nd rfl (Or.inl rfl) (pe_lst pa_nil))
    (pss_cons (ps_set (i := 2) nd rfl (Or.inl rfl) pe_int)
    (pss_cons (ps_for PassesOwn.never rfl (pi_list (pv 0)) (pg_name (i := 3) nd rfl (Or.inl rfl)) (pss_cons (ps_aug (i := 2) nd rfl (Or.inl rfl) (pv 3) ip_add)
    (pss_one (ps_expr (pe_bm PySem.F.plainAttrs_list PySem.F.slot_list_append PySem.F.type_list_append mt_append (pv 1) (pa_cons (pv 2) pa_nil))))))
    (pss_one (ps_ret (pe_op op_cat (pv 1) (pe_op op_rep (pe_lst (pa_cons (pv 2) pa_nil)) (pe_op op_sub (pv 2) (pe_callB call_len_seq (by rfl) B.len (by decide +kernel) (pa_cons (pv 1) pa_nil))))))))))), (R vs H Q E h).2⟩)
abbrev s_first_break : Stmt := top 10
theorem sc_first_break : FnScope N_first_break P_first_break (defScope s_first_break) := ⟨rfl, rfl, rfl, by decide +kernel, rfl, by decide +kernel, by decide +kernel⟩
theorem ok_first_break {P : Program} {w : World} {K : PySem.W.Frag} {mg : Str → Option Value} {base : Heap} {C fI fL fN fS f : Addr} {fd : FuncData} (F : FunD K "first_break" "first_break" (defArgs s_first_break) (defBody s_first_break) (defScope s_first_break) [] [] f fd) (B : Blt mg) (T : TrC K mg C fI fL fN fS) {f_top_sums : Addr} {fd_top_sums : FuncData} (c_top_sums : Cal P w K mg base 1 "top_sums" P_top_sums (sp_top_sums K C) f_top_sums fd_top_sums)
    (R : Good (sp_first_break K C) P_first_break N_first_break (t_first_break K C)) : FnOk P w K mg base CX0 2 f fd P_first_break (sp_first_break K C) :=
  F.ok sc_first_break (fun vs H Q E h => (R vs H Q E h).1) (fun cdv A outer s H vs Q E hr h => ⟨(t_first_break K C), PSs.nox (by
    have nd := sc_first_break.nd
    have hu := hu_of hr
    have hu64 := hr.units
    exact (pss_cons (ps_set (i := 2) nd rfl (Or.inl rfl) (pe_call c_top_sums.ok (hr.mono (by first | exact Nat.le_refl _ | decide)) (by rfl) c_top_sums.g c_top_sums.kp c_top_sums.bd .nil pass0 (pa_cons (pv 0) pa_nil)))
    (pss_cons (ps_if (pt_cmpR op_ne (pe_callB call_len_seq (by rfl) B.len (by decide +kernel) (pa_cons (pv 1) pa_nil)) (pe_callB call_len_seq (by rfl) B.len (by decide +kernel) (pa_cons (pv 2) pa_nil)) (nomark _)) (pss_one ps_never) pss_nil)
    (pss_cons (ps_for PassesOwn.never rfl (pi_enum (by rfl) B.enumerate (pa_cons (pv 2) pa_nil)) (pg_tup rfl (pgs_cons (pg_name (i := 3) nd rfl (Or.inl rfl)) (pgs_cons (pg_name (i := 4) nd rfl (Or.inl rfl)) pgs_nil))) (pss_one (ps_if (pt_cmpR op_gt (pv 4) (pe_ix ix_list (pv 1) (pv 3) (fun _ _ => rfl)) (nomark _)) (pss_one (ps_ret (pe_op op_add (pv 3) pe_int))) pss_nil)))
    (pss_one (ps_ret pe_non)))))), (R vs H Q E h).2⟩)
abbrev s_fits : Stmt := top 11
theorem sc_fits : FnScope N_fits P_fits (defScope s_fits) := ⟨rfl, rfl, rfl, by decide +kernel, rfl, by decide +kernel, by decide +kernel⟩
theorem ok_fits {P : Program} {w : World} {K : PySem.W.Frag} {mg : Str → Option Value} {base : Heap} {C fI fL fN fS f : Addr} {fd : FuncData} (F : FunD K "fits" "fits" (defArgs s_fits) (defBody s_fits) (defScope s_fits) [] [] f fd) (B : Blt mg) (T : TrC K mg C fI fL fN fS) {f_first_break : Addr} {fd_first_break : FuncData} (c_first_break : Cal P w K mg base 2 "first_break" P_first_break (sp_first_break K C) f_first_break fd_first_break)
    (R : Good (sp_fits K C) P_fits N_fits (t_fits K C)) : FnOk P w K mg base CX0 3 f fd P_fits (sp_fits K C) :=
  F.ok sc_fits (fun vs H Q E h => (R vs H Q E h).1) (fun cdv A outer s H vs Q E hr h => ⟨(t_fits K C), PSs.nox (by
    have nd := sc_fits.nd
    have hu := hu_of hr
    have hu64 := hr.units
    exact (pss_one (ps_ret (pe_cmpR op_isN (pe_call c_first_break.ok (hr.mono (by first | exact Nat.le_refl _ | decide)) (by rfl) c_first_break.g c_first_break.kp c_first_break.bd .nil pass0 (pa_cons (pv 0) (pa_cons (pv 1) pa_nil))) pe_non (nomark _))))), (R vs H Q E h).2⟩)
abbrev s_counted_bounds : Stmt := top 12
theorem sc_counted_bounds : FnScope N_counted_bounds P_counted_bounds (defScope s_counted_bounds) := ⟨rfl, rfl, rfl, by decide +kernel, rfl, by decide +kernel, by decide +kernel⟩
theorem ok_counted_bounds {P : Program} {w : World} {K : PySem.W.Frag} {mg : Str → Option Value} {base : Heap} {C fI fL fN fS f : Addr} {fd : FuncData} (F : FunD K "counted_bounds" "counted_bounds" (defArgs s_counted_bounds) (defBody s_counted_bounds) (defScope s_counted_bounds) [] [] f fd) (B : Blt mg) (T : TrC K mg C fI fL fN fS)
    (R : Good (sp_counted_bounds K C) P_counted_bounds N_counted_bounds (t_counted_bounds K C)) : FnOk P w K mg base CX0 1 f fd P_counted_bounds (sp_counted_bounds K C) :=
  F.ok sc_counted_bounds (fun vs H Q E h => (R vs H Q E h).1) (fun cdv A outer s H vs Q E hr h => ⟨(t_counted_bounds K C), PSs.nox (by
    have nd := sc_counted_bounds.nd
    have hu := hu_of hr
    have hu64 := hr.units
    exact (pss_cons (ps_set (i := 1) nd rfl (Or.inr rfl) (pe_callB call_len_seq (by rfl) B.len (by decide +kernel) (pa_cons (pv 0) pa_nil)))
    (pss_one (ps_ret (pe_op op_cat (pe_lc rfl nd (pi_list (pv 0)) (blkOk_by (own := [("bound", 2)]) (by kernel_rfl)) (fun _ _ _ _ _ => (pg_name (i := 2) nd rfl (Or.inl rfl))) (fun _ _ _ _ _ => pts_nil) (fun _ _ _ _ _ => (pe_callB (call_min2 rfl) (by rfl) B.min_ (by decide +kernel) (pa_cons (pv 2) (pa_cons (pv 1) pa_nil))))) (pe_lst (pa_cons (pv 1) pa_nil))))))), (R vs H Q E h).2⟩)
abbrev s_keeper_step : Stmt := top 13
theorem sc_keeper_step : FnScope N_keeper_step P_keeper_step (defScope s_keeper_step) := ⟨rfl, rfl, rfl, by decide +kernel, rfl, by decide +kernel, by decide +kernel⟩
theorem ok_keeper_step {P : Program} {w : World} {K : PySem.W.Frag} {mg : Str → Option Value} {base : Heap} {C fI fL fN fS f : Addr} {fd : FuncData} (F : FunD K "keeper_step" "keeper_step" (defArgs s_keeper_step) (defBody s_keeper_step) (defScope s_keeper_step) [] [] f fd) (B : Blt mg) (T : TrC K mg C fI fL fN fS) {f_counted_bounds : Addr} {fd_counted_bounds : FuncData} (c_counted_bounds : Cal P w K mg base 1 "counted_bounds" P_counted_bounds (sp_counted_bounds K C) f_counted_bounds fd_counted_bounds)
    (R : Good (sp_keeper_step K C) P_keeper_step N_keeper_step (t_keeper_step K C)) : FnOk P w K mg base CX0 2 f fd P_keeper_step (sp_keeper_step K C) :=
  F.ok sc_keeper_step (fun vs H Q E h => (R vs H Q E h).1) (fun cdv A outer s H vs Q E hr h => ⟨(t_keeper_step K C), PSs.nox (by
    have nd := sc_keeper_step.nd
    have hu := hu_of hr
    have hu64 := hr.units
    exact (pss_cons (ps_set (i := 1) nd rfl (Or.inl rfl) (pe_call c_counted_bounds.ok (hr.mono (by first | exact Nat.le_refl _ | decide)) (by rfl) c_counted_bounds.g c_counted_bounds.kp c_counted_bounds.bd .nil pass0 (pa_cons (pv 0) pa_nil)))
    (pss_cons (ps_set (i := 2) nd rfl (Or.inl rfl) (pe_lst (pa_cons (pe_op op_add (pe_ix ix_list (pv 1) pe_int (fun _ _ => rfl)) pe_int) pa_nil)))
    (pss_cons (ps_for PassesOwn.never rfl (pi_range2 (by rfl) B.range (pa_cons pe_int (pa_cons (pe_callB call_len_seq (by rfl) B.len (by decide +kernel) (pa_cons (pv 1) pa_nil)) pa_nil))) (pg_name (i := 3) nd rfl (Or.inl rfl)) (pss_cons (ps_set (i := 4) nd rfl (Or.inl rfl) (pe_ix ix_list (pv 1) (pe_op op_sub (pv 3) pe_int) (fun _ _ => rfl)))
    (pss_one (ps_expr (pe_bm PySem.F.plainAttrs_list PySem.F.slot_list_append PySem.F.type_list_append mt_append (pv 2) (pa_cons (pe_callB (call_min2 rfl) (by rfl) B.min_ (by decide +kernel) (pa_cons (pe_op op_add (pe_ix ix_list (pv 1) (pv 3) (fun _ _ => rfl)) pe_int) (pa_cons (pe_op op_add (pe_op op_add (pv 4) pe_int) (pe_op op_fdivN (pv 4) (pv 3))) pa_nil))) pa_nil))))))
    (pss_one (ps_ret (pv 2))))))), (R vs H Q E h).2⟩)
abbrev s_raider_step : Stmt := top 14
theorem sc_raider_step : FnScope N_raider_step P_raider_step (defScope s_raider_step) := ⟨rfl, rfl, rfl, by decide +kernel, rfl, by decide +kernel, by decide +kernel⟩
theorem ok_raider_step {P : Program} {w : World} {K : PySem.W.Frag} {mg : Str → Option Value} {base : Heap} {C fI fL fN fS f : Addr} {fd : FuncData} (F : FunD K "raider_step" "raider_step" (defArgs s_raider_step) (defBody s_raider_step) (defScope s_raider_step) [] [] f fd) (B : Blt mg) (T : TrC K mg C fI fL fN fS) {f_counted_bounds : Addr} {fd_counted_bounds : FuncData} (c_counted_bounds : Cal P w K mg base 1 "counted_bounds" P_counted_bounds (sp_counted_bounds K C) f_counted_bounds fd_counted_bounds)
    (R : Good (sp_raider_step K C) P_raider_step N_raider_step (t_raider_step K C)) : FnOk P w K mg base CX0 2 f fd P_raider_step (sp_raider_step K C) :=
  F.ok sc_raider_step (fun vs H Q E h => (R vs H Q E h).1) (fun cdv A outer s H vs Q E hr h => ⟨(t_raider_step K C), PSs.nox (by
    have nd := sc_raider_step.nd
    have hu := hu_of hr
    have hu64 := hr.units
    exact (pss_cons (ps_set (i := 1) nd rfl (Or.inr rfl) (pe_callB call_len_seq (by rfl) B.len (by decide +kernel) (pa_cons (pv 0) pa_nil)))
    (pss_cons (ps_setLc (i := 2) rfl nd rfl rfl (sw_true rfl rfl rfl (by decide +kernel)) (pi_list (pe_call c_counted_bounds.ok (hr.mono (by first | exact Nat.le_refl _ | decide)) (by rfl) c_counted_bounds.g c_counted_bounds.kp c_counted_bounds.bd .nil pass0 (pa_cons (pv 0) pa_nil))) (blkOk_by (own := [("bound", 3)]) (by kernel_rfl)) (fun _ _ _ _ _ => (pg_name (i := 3) nd rfl (Or.inl rfl))) (fun _ _ _ _ _ => pts_nil) (fun _ _ _ _ _ => (pe_ifExp (pt_cmpR op_lt (pv 3) (pv 1) (nomark _)) (pv 3) (pe_op op_add (pv 1) pe_int))))
    (pss_cons (ps_asg (pe_callB (call_min2 rfl) (by rfl) B.min_ (by decide +kernel) (pa_cons (pe_ix ix_list (pv 2) pe_int (fun _ _ => rfl)) (pa_cons (pv 1) pa_nil))) (pg_sub (pv 2) pe_int set_list))
    (pss_one (ps_ret (pv 2))))))), (R vs H Q E h).2⟩)
end Bw
namespace Bw
open PySem PySem.Spec PyProof.Rows L2 Evl Bb
abbrev s_step : Stmt := top 15
theorem sc_step : FnScope N_step P_step (defScope s_step) := ⟨rfl, rfl, rfl, by decide +kernel, rfl, by decide +kernel, by decide +kernel⟩
theorem ok_step {P : Program} {w : World} {K : PySem.W.Frag} {mg : Str → Option Value} {base : Heap} {C fI fL fN fS f : Addr} {fd : FuncData} (F : FunD K "step" "step" (defArgs s_step) (defBody s_step) (defScope s_step) [] [] f fd) (B : Blt mg) (T : TrC K mg C fI fL fN fS) {f_raider_step : Addr} {fd_raider_step : FuncData} (c_raider_step : Cal P w K mg base 2 "raider_step" P_raider_step (sp_raider_step K C) f_raider_step fd_raider_step) {f_keeper_step : Addr} {fd_keeper_step : FuncData} (c_keeper_step : Cal P w K mg base 2 "keeper_step" P_keeper_step (sp_keeper_step K C) f_keeper_step fd_keeper_step)
    (R : Good (sp_step K C) P_step N_step (t_step K C)) : FnOk P w K mg base CX0 3 f fd P_step (sp_step K C) :=
  F.ok sc_step (fun vs H Q E h => (R vs H Q E h).1) (fun cdv A outer s H vs Q E hr h => ⟨(t_step K C), PSs.nox (by
    have nd := sc_step.nd
    have hu := hu_of hr
    have hu64 := hr.units
    exact (pss_cons (ps_if (pt_cmpR op_eq (pv 0) pe_str (nomark _)) (pss_one (ps_ret (pe_call c_keeper_step.ok (hr.mono (by first | exact Nat.le_refl _ | decide)) (by rfl) c_keeper_step.g c_keeper_step.kp c_keeper_step.bd .nil pass0 (pa_cons (pv 1) pa_nil)))) pss_nil)
    (pss_one (ps_ret (pe_call c_raider_step.ok (hr.mono (by first | exact Nat.le_refl _ | decide)) (by rfl) c_raider_step.g c_raider_step.kp c_raider_step.bd .nil pass0 (pa_cons (pv 1) pa_nil)))))), (R vs H Q E h).2⟩)
abbrev s_pull : Stmt := top 16
theorem sc_pull : FnScope N_pull P_pull (defScope s_pull) := ⟨rfl, rfl, rfl, by decide +kernel, rfl, by decide +kernel, by decide +kernel⟩
theorem ok_pull {P : Program} {w : World} {K : PySem.W.Frag} {mg : Str → Option Value} {base : Heap} {C fI fL fN fS f : Addr} {fd : FuncData} {tg : Addr} (F : FunD K "pull" "pull" (defArgs s_pull) (defBody s_pull) (defScope s_pull) [] [("goal", .ref tg)] f fd) (B : Blt mg) (T : TrC K mg C fI fL fN fS) {f_step : Addr} {fd_step : FuncData} (c_step : Cal P w K mg base 3 "step" P_step (sp_step K C) f_step fd_step)
    (R : Good (sp_pull K C) P_pull N_pull (t_pull K C)) : FnOk P w K mg base CX0 4 f fd P_pull (sp_pull K C) :=
  F.ok sc_pull (fun vs H Q E h => (R vs H Q E h).1) (fun cdv A outer s H vs Q E hr h => ⟨(t_pull K C), PSs.nox (by
    have nd := sc_pull.nd
    have hu := hu_of hr
    have hu64 := hr.units
    exact (pss_cons (ps_set (i := 2) nd rfl (Or.inl rfl) (pe_callTy call_list_of (by rfl) B.list_ (by decide +kernel) (pa_cons (pv 1) pa_nil)))
    (pss_cons (ps_for PassesOwn.never rfl (pi_str (pe_revS (pv 0))) (pg_name (i := 3) nd rfl (Or.inl rfl)) (pss_one (ps_set (i := 2) nd rfl (Or.inl rfl) (pe_call c_step.ok (hr.mono (by first | exact Nat.le_refl _ | decide)) (by rfl) c_step.g c_step.kp c_step.bd .nil pass0 (pa_cons (pv 3) (pa_cons (pv 2) pa_nil))))))
    (pss_one (ps_ret (pv 2)))))), (R vs H Q E h).2⟩)
abbrev s_require_turns : Stmt := top 18
theorem sc_require_turns : FnScope N_require_turns P_require_turns (defScope s_require_turns) := ⟨rfl, rfl, rfl, by decide +kernel, rfl, by decide +kernel, by decide +kernel⟩
theorem ok_require_turns {P : Program} {w : World} {K : PySem.W.Frag} {mg : Str → Option Value} {base : Heap} {C fI fL fN fS f : Addr} {fd : FuncData} (F : FunD K "require_turns" "require_turns" (defArgs s_require_turns) (defBody s_require_turns) (defScope s_require_turns) [] [] f fd) (B : Blt mg) (T : TrC K mg C fI fL fN fS)
    (R : Good (sp_require_turns K C) P_require_turns N_require_turns (t_require_turns K C)) : FnOk P w K mg base CX0 1 f fd P_require_turns (sp_require_turns K C) :=
  F.ok sc_require_turns (fun vs H Q E h => (R vs H Q E h).1) (fun cdv A outer s H vs Q E hr h => ⟨(t_require_turns K C), PSs.nox (by
    have nd := sc_require_turns.nd
    have hu := hu_of hr
    have hu64 := hr.units
    exact (pss_one (ps_if (pt_cmpR op_gt (pv 0) (pv 1) (nomark _)) (pss_one ps_never) pss_nil))), (R vs H Q E h).2⟩)
abbrev s_checked_goal : Stmt := top 19
theorem sc_checked_goal : FnScope N_checked_goal P_checked_goal (defScope s_checked_goal) := ⟨rfl, rfl, rfl, by decide +kernel, rfl, by decide +kernel, by decide +kernel⟩
theorem ok_checked_goal {P : Program} {w : World} {K : PySem.W.Frag} {mg : Str → Option Value} {base : Heap} {C fI fL fN fS f : Addr} {fd : FuncData} (F : FunD K "checked_goal" "checked_goal" (defArgs s_checked_goal) (defBody s_checked_goal) (defScope s_checked_goal) [] [] f fd) (B : Blt mg) (T : TrC K mg C fI fL fN fS)
    (R : Good (sp_checked_goal K C) P_checked_goal N_checked_goal (t_checked_goal K C)) : FnOk P w K mg base CX0 1 f fd P_checked_goal (sp_checked_goal K C) :=
  F.ok sc_checked_goal (fun vs H Q E h => (R vs H Q E h).1) (fun cdv A outer s H vs Q E hr h => ⟨(t_checked_goal K C), PSs.nox (by
    have nd := sc_checked_goal.nd
    have hu := hu_of hr
    have hu64 := hr.units
    exact (pss_cons (ps_if (pt_cmpR op_isN (pv 0) pe_non (nomark _)) (pss_one (ps_ret (pe_op op_rep (pe_lst (pa_cons (pv 1) pa_nil)) (pv 1)))) pss_nil)
    (pss_cons (ps_if (pt_cmpR op_ne (pe_callB call_len_seq (by rfl) B.len (by decide +kernel) (pa_cons (pv 0) pa_nil)) (pv 1) (nomark _)) (pss_one ps_never) pss_nil)
    (pss_one (ps_ret (pe_callTy call_list_of (by rfl) B.list_ (by decide +kernel) (pa_cons (pv 0) pa_nil))))))), (R vs H Q E h).2⟩)
abbrev s_root_of : Stmt := top 20
theorem sc_root_of : FnScope N_root_of P_root_of (defScope s_root_of) := ⟨rfl, rfl, rfl, by decide +kernel, rfl, by decide +kernel, by decide +kernel⟩
theorem ok_root_of {P : Program} {w : World} {K : PySem.W.Frag} {mg : Str → Option Value} {base : Heap} {C fI fL fN fS f : Addr} {fd : FuncData} (F : FunD K "root_of" "root_of" (defArgs s_root_of) (defBody s_root_of) (defScope s_root_of) [] [] f fd) (B : Blt mg) (T : TrC K mg C fI fL fN fS)
    (R : Good (sp_root_of K C) P_root_of N_root_of (t_root_of K C)) : FnOk P w K mg base CX0 1 f fd P_root_of (sp_root_of K C) :=
  F.ok sc_root_of (fun vs H Q E h => (R vs H Q E h).1) (fun cdv A outer s H vs Q E hr h => ⟨(t_root_of K C), PSs.nox (by
    have nd := sc_root_of.nd
    have hu := hu_of hr
    have hu64 := hr.units
    exact (pss_cons (ps_while PassesOwn.never (pt_cmpR op_ne (pe_ix ix_list (pv 0) (pv 1) (fun _ _ => rfl)) (pv 1) (nomark _)) (pss_one (ps_set (i := 1) nd rfl (Or.inl rfl) (pe_ix ix_list (pv 0) (pv 1) (fun _ _ => rfl)))))
    (pss_one (ps_ret (pv 1))))), (R vs H Q E h).2⟩)
abbrev s_first_bad_link : Stmt := top 21
theorem sc_first_bad_link : FnScope N_first_bad_link P_first_bad_link (defScope s_first_bad_link) := ⟨rfl, rfl, rfl, by decide +kernel, rfl, by decide +kernel, by decide +kernel⟩
theorem ok_first_bad_link {P : Program} {w : World} {K : PySem.W.Frag} {mg : Str → Option Value} {base : Heap} {C fI fL fN fS f : Addr} {fd : FuncData} (F : FunD K "first_bad_link" "first_bad_link" (defArgs s_first_bad_link) (defBody s_first_bad_link) (defScope s_first_bad_link) [] [] f fd) (B : Blt mg) (T : TrC K mg C fI fL fN fS) {f_root_of : Addr} {fd_root_of : FuncData} (c_root_of : Cal P w K mg base 1 "root_of" P_root_of (sp_root_of K C) f_root_of fd_root_of)
    (R : Good (sp_first_bad_link K C) P_first_bad_link N_first_bad_link (t_first_bad_link K C)) : FnOk P w K mg base CX0 2 f fd P_first_bad_link (sp_first_bad_link K C) :=
  F.ok sc_first_bad_link (fun vs H Q E h => (R vs H Q E h).1) (fun cdv A outer s H vs Q E hr h => ⟨(t_first_bad_link K C), PSs.nox (by
    have nd := sc_first_bad_link.nd
    have hu := hu_of hr
    have hu64 := hr.units
    exact (pss_cons (ps_set (i := 2) nd rfl (Or.inl rfl) (pe_listRg rfl (by rfl) B.list_ (prg_1 (by rfl) B.range (pv 0))))
    (pss_cons (ps_for PassesOwn.never rfl (pi_enum (by rfl) B.enumerate (pa_cons (pv 1) pa_nil)) (pg_tup rfl (pgs_cons (pg_name (i := 3) nd rfl (Or.inl rfl)) (pgs_cons (pg_tup rfl (pgs_cons (pg_name (i := 4) nd rfl (Or.inl rfl)) (pgs_cons (pg_name (i := 5) nd rfl (Or.inl rfl)) pgs_nil))) pgs_nil))) (pss_cons (ps_if (PW.pt (pw_or (pt_not (pt_chain op_le op_lt pe_int (pv 4) (pv 0))) (pw_or1 (pt_not (pt_chain op_le op_lt pe_int (pv 5) (pv 0)))))) (pss_one (ps_ret (pv 3))) pss_nil)
    (pss_cons (ps_set (i := 6) nd rfl (Or.inl rfl) (pe_call c_root_of.ok (hr.mono (by first | exact Nat.le_refl _ | decide)) (by rfl) c_root_of.g c_root_of.kp c_root_of.bd .nil pass0 (pa_cons (pv 2) (pa_cons (pv 4) pa_nil))))
    (pss_cons (ps_set (i := 7) nd rfl (Or.inl rfl) (pe_call c_root_of.ok (hr.mono (by first | exact Nat.le_refl _ | decide)) (by rfl) c_root_of.g c_root_of.kp c_root_of.bd .nil pass0 (pa_cons (pv 2) (pa_cons (pv 5) pa_nil))))
    (pss_cons (ps_if (pt_cmpR op_eq (pv 6) (pv 7) (nomark _)) (pss_one (ps_ret (pv 3))) pss_nil)
    (pss_one (ps_asg (pv 7) (pg_sub (pv 2) (pv 6) set_list))))))))
    (pss_one (ps_ret pe_non))))), (R vs H Q E h).2⟩)
end Bw
namespace Bw
open PySem PySem.Spec PyProof.Rows L2 Evl Bb
abbrev s_neighbour_table : Stmt := top 22
theorem sc_neighbour_table : FnScope N_neighbour_table P_neighbour_table (defScope s_neighbour_table) := ⟨rfl, rfl, rfl, by decide +kernel, rfl, by decide +kernel, by decide +kernel⟩
theorem ok_neighbour_table {P : Program} {w : World} {K : PySem.W.Frag} {mg : Str → Option Value} {base : Heap} {C fI fL fN fS f : Addr} {fd : FuncData} (F : FunD K "neighbour_table" "neighbour_table" (defArgs s_neighbour_table) (defBody s_neighbour_table) (defScope s_neighbour_table) [] [] f fd) (B : Blt mg) (T : TrC K mg C fI fL fN fS)
    (R : Good (sp_neighbour_table K C) P_neighbour_table N_neighbour_table (t_neighbour_table K C)) : FnOk P w K mg base CX0 1 f fd P_neighbour_table (sp_neighbour_table K C) :=
  F.ok sc_neighbour_table (fun vs H Q E h => (R vs H Q E h).1) (fun cdv A outer s H vs Q E hr h => ⟨(t_neighbour_table K C), PSs.nox (by
    have nd := sc_neighbour_table.nd
    have hu := hu_of hr
    have hu64 := hr.units
    exact (pss_cons (ps_setLc (i := 2) rfl nd rfl rfl (sw_true rfl rfl rfl (by decide +kernel)) (pi_range1 (by rfl) B.range (pa_cons (pv 0) pa_nil)) (blkOk_by (own := [("_", 5)]) (by kernel_rfl)) (fun _ _ _ _ _ => (pg_name (i := 5) nd rfl (Or.inl rfl))) (fun _ _ _ _ _ => pts_nil) (fun _ _ _ _ _ => (pe_lst pa_nil)))
    (pss_cons (ps_for PassesOwn.never rfl (pi_list (pv 1)) (pg_tup rfl (pgs_cons (pg_name (i := 3) nd rfl (Or.inl rfl)) (pgs_cons (pg_name (i := 4) nd rfl (Or.inl rfl)) pgs_nil))) (pss_cons (ps_expr (pe_bm PySem.F.plainAttrs_list PySem.F.slot_list_append PySem.F.type_list_append mt_append (pe_ix ix_list (pv 2) (pv 3) (fun _ _ => rfl)) (pa_cons (pv 4) pa_nil)))
    (pss_one (ps_expr (pe_bm PySem.F.plainAttrs_list PySem.F.slot_list_append PySem.F.type_list_append mt_append (pe_ix ix_list (pv 2) (pv 4) (fun _ _ => rfl)) (pa_cons (pv 3) pa_nil))))))
    (pss_one (ps_ret (pe_lc rfl nd (pi_list (pv 2)) (blkOk_by (own := [("row", 6)]) (by kernel_rfl)) (fun _ _ _ _ _ => (pg_name (i := 6) nd rfl (Or.inl rfl))) (fun _ _ _ _ _ => pts_nil) (fun _ _ _ _ _ => (pe_callB cr_sortedI (by rfl) B.sorted (by decide +kernel) (pa_cons (pv 6) pa_nil))))))))), (R vs H Q E h).2⟩)
abbrev s_pieces_of : Stmt := top 23
theorem sc_pieces_of : FnScope N_pieces_of P_pieces_of (defScope s_pieces_of) := ⟨rfl, rfl, rfl, by decide +kernel, rfl, by decide +kernel, by decide +kernel⟩
theorem ok_pieces_of {P : Program} {w : World} {K : PySem.W.Frag} {mg : Str → Option Value} {base : Heap} {C fI fL fN fS f : Addr} {fd : FuncData} (F : FunD K "pieces_of" "pieces_of" (defArgs s_pieces_of) (defBody s_pieces_of) (defScope s_pieces_of) [] [] f fd) (B : Blt mg) (T : TrC K mg C fI fL fN fS)
    (R : Good (sp_pieces_of K C) P_pieces_of N_pieces_of (t_pieces_of K C)) : FnOk P w K mg base CX0 1 f fd P_pieces_of (sp_pieces_of K C) :=
  F.ok sc_pieces_of (fun vs H Q E h => (R vs H Q E h).1) (fun cdv A outer s H vs Q E hr h => ⟨(t_pieces_of K C), PSs.nox (by
    have nd := sc_pieces_of.nd
    have hu := hu_of hr
    have hu64 := hr.units
    exact (pss_cons (ps_setDc (i := 2) rfl nd rfl rfl (sw_trueD rfl rfl rfl (by decide +kernel)) (pi_list (pv 0)) (blkOk_by (own := [("cell", 3)]) (by kernel_rfl)) (fun _ _ _ _ _ => (pg_name (i := 3) nd rfl (Or.inl rfl))) (fun _ _ _ _ _ => pts_nil) (fun _ _ _ _ _ => (pv 3)) (fun _ _ _ _ _ => pe_bl))
    (pss_cons (ps_set (i := 4) nd rfl (Or.inl rfl) pe_dnewK)
    (pss_cons (ps_set (i := 5) nd rfl (Or.inl rfl) (pe_lst pa_nil))
    (pss_cons (ps_for PassesOwn.never rfl (pi_list (pe_callB cr_sortedI (by rfl) B.sorted (by decide +kernel) (pa_cons (pv 0) pa_nil))) (pg_name (i := 6) nd rfl (Or.inl rfl)) (pss_one (ps_if (pt_cmp (pc_dnotin hu (pv 6) (pv 4))) (pss_cons (ps_dput hu (pv 4) (pv 6) pe_bl rfl)
    (pss_cons (ps_set (i := 7) nd rfl (Or.inl rfl) (pe_lst (pa_cons (pv 6) pa_nil)))
    (pss_cons (ps_set (i := 8) nd rfl (Or.inl rfl) pe_int)
    (pss_cons (ps_while PassesOwn.never (pt_cmpR op_lt (pv 8) (pe_callB call_len_seq (by rfl) B.len (by decide +kernel) (pa_cons (pv 7) pa_nil)) (nomark _)) (pss_cons (ps_for PassesOwn.never rfl (pi_list (pe_ix ix_list (pv 1) (pe_ix ix_list (pv 7) (pv 8) (fun _ _ => rfl)) (fun _ _ => rfl))) (pg_name (i := 3) nd rfl (Or.inl rfl)) (pss_one (ps_if (PW.pt (pw_and (pt_cmp (pc_din hu (pv 3) (pv 2))) (pw_and1 (pt_cmp (pc_dnotin hu (pv 3) (pv 4)))))) (pss_cons (ps_dput hu (pv 4) (pv 3) pe_bl rfl)
    (pss_one (ps_expr (pe_bm PySem.F.plainAttrs_list PySem.F.slot_list_append PySem.F.type_list_append mt_append (pv 7) (pa_cons (pv 3) pa_nil))))) pss_nil)))
    (pss_one (ps_aug (i := 8) nd rfl (Or.inl rfl) pe_int ip_add))))
    (pss_one (ps_expr (pe_bm PySem.F.plainAttrs_list PySem.F.slot_list_append PySem.F.type_list_append mt_append (pv 5) (pa_cons (pe_callB cr_sortedI (by rfl) B.sorted (by decide +kernel) (pa_cons (pv 7) pa_nil)) pa_nil)))))))) pss_nil)))
    (pss_one (ps_ret (pv 5)))))))), (R vs H Q E h).2⟩)
abbrev s_require_region : Stmt := top 24
theorem sc_require_region : FnScope N_require_region P_require_region (defScope s_require_region) := ⟨rfl, rfl, rfl, by decide +kernel, rfl, by decide +kernel, by decide +kernel⟩
theorem ok_require_region {P : Program} {w : World} {K : PySem.W.Frag} {mg : Str → Option Value} {base : Heap} {C fI fL fN fS f : Addr} {fd : FuncData} (F : FunD K "require_region" "require_region" (defArgs s_require_region) (defBody s_require_region) (defScope s_require_region) [] [] f fd) (B : Blt mg) (T : TrC K mg C fI fL fN fS) {f_pieces_of : Addr} {fd_pieces_of : FuncData} (c_pieces_of : Cal P w K mg base 1 "pieces_of" P_pieces_of (sp_pieces_of K C) f_pieces_of fd_pieces_of)
    (R : Good (sp_require_region K C) P_require_region N_require_region (t_require_region K C)) : FnOk P w K mg base CX0 2 f fd P_require_region (sp_require_region K C) :=
  F.ok sc_require_region (fun vs H Q E h => (R vs H Q E h).1) (fun cdv A outer s H vs Q E hr h => ⟨(t_require_region K C), PSs.nox (by
    have nd := sc_require_region.nd
    have hu := hu_of hr
    have hu64 := hr.units
    exact (pss_cons (ps_set (i := 2) nd rfl (Or.inl rfl) (pe_callB call_len_seq (by rfl) B.len (by decide +kernel) (pa_cons (pe_call c_pieces_of.ok (hr.mono (by first | exact Nat.le_refl _ | decide)) (by rfl) c_pieces_of.g c_pieces_of.kp c_pieces_of.bd .nil pass0 (pa_cons (pv 0) (pa_cons (pv 1) pa_nil))) pa_nil)))
    (pss_one (ps_if (pt_cmpR op_ne (pv 2) pe_int (nomark _)) (pss_one ps_never) pss_nil)))), (R vs H Q E h).2⟩)
abbrev s_kept : Stmt := top 26
theorem sc_kept : FnScope N_kept P_kept (defScope s_kept) := ⟨rfl, rfl, rfl, by decide +kernel, rfl, by decide +kernel, by decide +kernel⟩
theorem ok_kept {P : Program} {w : World} {K : PySem.W.Frag} {mg : Str → Option Value} {base : Heap} {C fI fL fN fS f : Addr} {fd : FuncData} (F : FunD K "kept" "kept" (defArgs s_kept) (defBody s_kept) (defScope s_kept) [] [("goal", .non)] f fd) (B : Blt mg) (T : TrC K mg C fI fL fN fS) {f_fits : Addr} {fd_fits : FuncData} (c_fits : Cal P w K mg base 3 "fits" P_fits (sp_fits K C) f_fits fd_fits) {f_pull : Addr} {fd_pull : FuncData} (c_pull : CalK P w K mg base 4 "pull" P_pull ["goal"] (sp_pull K C) f_pull fd_pull) {f_checked_goal : Addr} {fd_checked_goal : FuncData} (c_checked_goal : Cal P w K mg base 1 "checked_goal" P_checked_goal (sp_checked_goal K C) f_checked_goal fd_checked_goal) {f_require_turns : Addr} {fd_require_turns : FuncData} (c_require_turns : Cal P w K mg base 1 "require_turns" P_require_turns (sp_require_turns K C) f_require_turns fd_require_turns)
    (R : Good (sp_kept K C) P_kept N_kept (t_kept K C)) : FnOk P w K mg base CX0 5 f fd P_kept (sp_kept K C) :=
  F.ok sc_kept (fun vs H Q E h => (R vs H Q E h).1) (fun cdv A outer s H vs Q E hr h => ⟨(t_kept K C), PSs.nox (by
    have nd := sc_kept.nd
    have hu := hu_of hr
    have hu64 := hr.units
    exact (pss_cons (ps_set (i := 3) nd rfl (Or.inl rfl) (pe_callB (cr_sum rfl) (by rfl) B.sum (by decide +kernel) (pa_cons (pv 0) pa_nil)))
    (pss_cons (ps_expr (pe_call c_require_turns.ok (hr.mono (by first | exact Nat.le_refl _ | decide)) (by rfl) c_require_turns.g c_require_turns.kp c_require_turns.bd .nil pass0 (pa_cons (pe_callB call_len_str (by rfl) B.len (by decide +kernel) (pa_cons (pv 1) pa_nil)) (pa_cons (pv 3) pa_nil))))
    (pss_cons (ps_set (i := 4) nd rfl (Or.inl rfl) (pe_call c_checked_goal.ok (hr.mono (by first | exact Nat.le_refl _ | decide)) (by rfl) c_checked_goal.g c_checked_goal.kp c_checked_goal.bd .nil pass0 (pa_cons (pv 2) (pa_cons (pe_op op_sub (pv 3) (pe_callB call_len_str (by rfl) B.len (by decide +kernel) (pa_cons (pv 1) pa_nil))) pa_nil))))
    (pss_one (ps_ret (pe_call c_fits.ok (hr.mono (by first | exact Nat.le_refl _ | decide)) (by rfl) c_fits.g c_fits.kp c_fits.bd .nil pass0 (pa_cons (pv 0) (pa_cons (pe_callN c_pull.ok (hr.mono (by first | exact Nat.le_refl _ | decide)) (by rfl) c_pull.g c_pull.kp c_pull.kb pass0 (pa_cons (pv 1) pa_nil) (pk_cons (pv 4) pk_nil)) pa_nil))))))))), (R vs H Q E h).2⟩)
abbrev s_table_of : Stmt := top 28
theorem sc_table_of : FnScope N_table_of P_table_of (defScope s_table_of) := ⟨rfl, rfl, rfl, by decide +kernel, rfl, by decide +kernel, by decide +kernel⟩
theorem ok_table_of {P : Program} {w : World} {K : PySem.W.Frag} {mg : Str → Option Value} {base : Heap} {C fI fL fN fS f : Addr} {fd : FuncData} (F : FunD K "table_of" "table_of" (defArgs s_table_of) (defBody s_table_of) (defScope s_table_of) [] [] f fd) (B : Blt mg) (T : TrC K mg C fI fL fN fS) {f_neighbour_table : Addr} {fd_neighbour_table : FuncData} (c_neighbour_table : Cal P w K mg base 1 "neighbour_table" P_neighbour_table (sp_neighbour_table K C) f_neighbour_table fd_neighbour_table) {fd_Tree_links : FuncData} (c_Tree_links : CalM P w K mg base 1 P_Tree_links (sp_Tree_links K C) fL fd_Tree_links)
    (R : Good (sp_table_of K C) P_table_of N_table_of (t_table_of K C)) : FnOk P w K mg base CX0 2 f fd P_table_of (sp_table_of K C) :=
  F.ok sc_table_of (fun vs H Q E h => (R vs H Q E h).1) (fun cdv A outer s H vs Q E hr h => ⟨(t_table_of K C), PSs.nox (by
    have nd := sc_table_of.nd
    have hu := hu_of hr
    have hu64 := hr.units
    exact (pss_one (ps_ret (pe_call c_neighbour_table.ok (hr.mono (by first | exact Nat.le_refl _ | decide)) (by rfl) c_neighbour_table.g c_neighbour_table.kp c_neighbour_table.bd .nil pass0 (pa_cons (pe_fld (pv 0) rfl) (pa_cons (pe_meth0 (pv 0) T.cl T.m_links c_Tree_links.ok (hr.mono (by first | exact Nat.le_refl _ | decide)) c_Tree_links.bd .nil pass0) pa_nil)))))), (R vs H Q E h).2⟩)
abbrev s_outer_pieces : Stmt := top 29
theorem sc_outer_pieces : FnScope N_outer_pieces P_outer_pieces (defScope s_outer_pieces) := ⟨rfl, rfl, rfl, by decide +kernel, rfl, by decide +kernel, by decide +kernel⟩
theorem ok_outer_pieces {P : Program} {w : World} {K : PySem.W.Frag} {mg : Str → Option Value} {base : Heap} {C fI fL fN fS f : Addr} {fd : FuncData} (F : FunD K "outer_pieces" "outer_pieces" (defArgs s_outer_pieces) (defBody s_outer_pieces) (defScope s_outer_pieces) [] [] f fd) (B : Blt mg) (T : TrC K mg C fI fL fN fS) {f_pieces_of : Addr} {fd_pieces_of : FuncData} (c_pieces_of : Cal P w K mg base 1 "pieces_of" P_pieces_of (sp_pieces_of K C) f_pieces_of fd_pieces_of)
    (R : Good (sp_outer_pieces K C) P_outer_pieces N_outer_pieces (t_outer_pieces K C)) : FnOk P w K mg base CX0 2 f fd P_outer_pieces (sp_outer_pieces K C) :=
  F.ok sc_outer_pieces (fun vs H Q E h => (R vs H Q E h).1) (fun cdv A outer s H vs Q E hr h => ⟨(t_outer_pieces K C), PSs.nox (by
    have nd := sc_outer_pieces.nd
    have hu := hu_of hr
    have hu64 := hr.units
    exact (pss_cons (ps_set (i := 3) nd rfl (Or.inr rfl) (pe_dc rfl nd (pi_list (pv 1)) (blkOk_by (own := [("cell", 4)]) (by kernel_rfl)) (fun _ _ _ _ _ => (pg_name (i := 4) nd rfl (Or.inl rfl))) (fun _ _ _ _ _ => pts_nil) (fun _ _ _ _ _ => (pv 4)) (fun _ _ _ _ _ => pe_bl)))
    (pss_one (ps_ret (pe_call c_pieces_of.ok (hr.mono (by first | exact Nat.le_refl _ | decide)) (by rfl) c_pieces_of.g c_pieces_of.kp c_pieces_of.bd .nil pass0 (pa_cons (pe_lc rfl nd (pi_list (pv 0)) (blkOk_by (own := [("cell", 4)]) (by kernel_rfl)) (fun _ _ _ _ _ => (pg_name (i := 4) nd rfl (Or.inl rfl))) (fun _ _ _ _ _ => (pts_one (pt_cmp (pc_dnotin hu (pv 4) (pv 3))))) (fun _ _ _ _ _ => (pv 4))) (pa_cons (pv 2) pa_nil))))))), (R vs H Q E h).2⟩)
end Bw
namespace Bw
open PySem PySem.Spec PyProof.Rows L2 Evl Bb
abbrev s_outer_sizes : Stmt := top 30
theorem sc_outer_sizes : FnScope N_outer_sizes P_outer_sizes (defScope s_outer_sizes) := ⟨rfl, rfl, rfl, by decide +kernel, rfl, by decide +kernel, by decide +kernel⟩
theorem ok_outer_sizes {P : Program} {w : World} {K : PySem.W.Frag} {mg : Str → Option Value} {base : Heap} {C fI fL fN fS f : Addr} {fd : FuncData} (F : FunD K "outer_sizes" "outer_sizes" (defArgs s_outer_sizes) (defBody s_outer_sizes) (defScope s_outer_sizes) [] [] f fd) (B : Blt mg) (T : TrC K mg C fI fL fN fS) {f_outer_pieces : Addr} {fd_outer_pieces : FuncData} (c_outer_pieces : Cal P w K mg base 2 "outer_pieces" P_outer_pieces (sp_outer_pieces K C) f_outer_pieces fd_outer_pieces) {f_require_region : Addr} {fd_require_region : FuncData} (c_require_region : Cal P w K mg base 2 "require_region" P_require_region (sp_require_region K C) f_require_region fd_require_region) {f_table_of : Addr} {fd_table_of : FuncData} (c_table_of : Cal P w K mg base 2 "table_of" P_table_of (sp_table_of K C) f_table_of fd_table_of)
    (R : Good (sp_outer_sizes K C) P_outer_sizes N_outer_sizes (t_outer_sizes K C)) : FnOk P w K mg base CX0 3 f fd P_outer_sizes (sp_outer_sizes K C) :=
  F.ok sc_outer_sizes (fun vs H Q E h => (R vs H Q E h).1) (fun cdv A outer s H vs Q E hr h => ⟨(t_outer_sizes K C), PSs.nox (by
    have nd := sc_outer_sizes.nd
    have hu := hu_of hr
    have hu64 := hr.units
    exact (pss_cons (ps_set (i := 2) nd rfl (Or.inl rfl) (pe_call c_table_of.ok (hr.mono (by first | exact Nat.le_refl _ | decide)) (by rfl) c_table_of.g c_table_of.kp c_table_of.bd .nil pass0 (pa_cons (pv 0) pa_nil)))
    (pss_cons (ps_expr (pe_call c_require_region.ok (hr.mono (by first | exact Nat.le_refl _ | decide)) (by rfl) c_require_region.g c_require_region.kp c_require_region.bd .nil pass0 (pa_cons (pv 1) (pa_cons (pv 2) pa_nil))))
    (pss_cons (ps_set (i := 3) nd rfl (Or.inl rfl) (pe_call c_outer_pieces.ok (hr.mono (by first | exact Nat.le_refl _ | decide)) (by rfl) c_outer_pieces.g c_outer_pieces.kp c_outer_pieces.bd .nil pass0 (pa_cons (pe_listRg rfl (by rfl) B.list_ (prg_1 (by rfl) B.range (pe_fld (pv 0) rfl))) (pa_cons (pv 1) (pa_cons (pv 2) pa_nil)))))
    (pss_one (ps_ret (pe_callBK cr_sortedRev (by rfl) B.sorted (by decide +kernel) (pa_cons (pe_lc rfl nd (pi_list (pv 3)) (blkOk_by (own := [("piece", 4)]) (by kernel_rfl)) (fun _ _ _ _ _ => (pg_name (i := 4) nd rfl (Or.inl rfl))) (fun _ _ _ _ _ => pts_nil) (fun _ _ _ _ _ => (pe_callB call_len_seq (by rfl) B.len (by decide +kernel) (pa_cons (pv 4) pa_nil)))) pa_nil) (pk_cons pe_bl pk_nil)))))))), (R vs H Q E h).2⟩)
abbrev s_without_last_raids : Stmt := top 31
theorem sc_without_last_raids : FnScope N_without_last_raids P_without_last_raids (defScope s_without_last_raids) := ⟨rfl, rfl, rfl, by decide +kernel, rfl, by decide +kernel, by decide +kernel⟩
theorem ok_without_last_raids {P : Program} {w : World} {K : PySem.W.Frag} {mg : Str → Option Value} {base : Heap} {C fI fL fN fS f : Addr} {fd : FuncData} (F : FunD K "without_last_raids" "without_last_raids" (defArgs s_without_last_raids) (defBody s_without_last_raids) (defScope s_without_last_raids) [] [] f fd) (B : Blt mg) (T : TrC K mg C fI fL fN fS)
    (R : Good (sp_without_last_raids K C) P_without_last_raids N_without_last_raids (t_without_last_raids K C)) : FnOk P w K mg base CX0 1 f fd P_without_last_raids (sp_without_last_raids K C) :=
  F.ok sc_without_last_raids (fun vs H Q E h => (R vs H Q E h).1) (fun cdv A outer s H vs Q E hr h => ⟨(t_without_last_raids K C), PSs.nox (by
    have nd := sc_without_last_raids.nd
    have hu := hu_of hr
    have hu64 := hr.units
    exact (pss_cons (ps_set (i := 2) nd rfl (Or.inl rfl) (pe_op op_sub (pe_bm PySem.F.plainAttrs_str PySem.F.slot_str_count PySem.F.type_str_count mt_count (pv 0) (pa_cons pe_str pa_nil)) (pv 1)))
    (pss_cons (ps_set (i := 3) nd rfl (Or.inl rfl) pe_str)
    (pss_cons (ps_for PassesOwn.never rfl (pi_str (pv 0)) (pg_name (i := 4) nd rfl (Or.inl rfl)) (pss_one (ps_if (pt_cmpR op_eq (pv 4) pe_str (nomark _)) (pss_one (ps_aug (i := 3) nd rfl (Or.inl rfl) (pv 4) iop_add_str)) (pss_one (ps_if (pt_cmpR op_gt (pv 2) pe_int (nomark _)) (pss_cons (ps_aug (i := 3) nd rfl (Or.inl rfl) (pv 4) iop_add_str)
    (pss_one (ps_aug (i := 2) nd rfl (Or.inl rfl) pe_int ip_sub))) pss_nil)))))
    (pss_one (ps_ret (pv 3))))))), (R vs H Q E h).2⟩)
abbrev s_region_fate : Stmt := top 32
theorem sc_region_fate : FnScope N_region_fate P_region_fate (defScope s_region_fate) := ⟨rfl, rfl, rfl, by decide +kernel, rfl, by decide +kernel, by decide +kernel⟩
theorem ok_region_fate {P : Program} {w : World} {K : PySem.W.Frag} {mg : Str → Option Value} {base : Heap} {C fI fL fN fS f : Addr} {fd : FuncData} (F : FunD K "region_fate" "region_fate" (defArgs s_region_fate) (defBody s_region_fate) (defScope s_region_fate) [] [] f fd) (B : Blt mg) (T : TrC K mg C fI fL fN fS) {f_kept : Addr} {fd_kept : FuncData} (c_kept : CalD P w K mg base 5 "kept" P_kept [.none] (sp_kept K C) f_kept fd_kept) {f_without_last_raids : Addr} {fd_without_last_raids : FuncData} (c_without_last_raids : Cal P w K mg base 1 "without_last_raids" P_without_last_raids (sp_without_last_raids K C) f_without_last_raids fd_without_last_raids) {f_outer_sizes : Addr} {fd_outer_sizes : FuncData} (c_outer_sizes : Cal P w K mg base 3 "outer_sizes" P_outer_sizes (sp_outer_sizes K C) f_outer_sizes fd_outer_sizes)
    (R : Good (sp_region_fate K C) P_region_fate N_region_fate (t_region_fate K C)) : FnOk P w K mg base CX0 6 f fd P_region_fate (sp_region_fate K C) :=
  F.ok sc_region_fate (fun vs H Q E h => (R vs H Q E h).1) (fun cdv A outer s H vs Q E hr h => ⟨(t_region_fate K C), PSs.nox (by
    have nd := sc_region_fate.nd
    have hu := hu_of hr
    have hu64 := hr.units
    exact (pss_cons (ps_set (i := 3) nd rfl (Or.inl rfl) (pe_call c_outer_sizes.ok (hr.mono (by first | exact Nat.le_refl _ | decide)) (by rfl) c_outer_sizes.g c_outer_sizes.kp c_outer_sizes.bd .nil pass0 (pa_cons (pv 0) (pa_cons (pv 1) pa_nil))))
    (pss_cons (ps_set (i := 4) nd rfl (Or.inl rfl) (pe_op op_sub (pe_fld (pv 0) rfl) pe_int))
    (pss_cons (ps_if (pt_cmpR op_ne (pe_callB call_len_str (by rfl) B.len (by decide +kernel) (pa_cons (pv 2) pa_nil)) (pv 4) (nomark _)) (pss_one ps_never) pss_nil)
    (pss_cons (ps_set (i := 5) nd rfl (Or.inl rfl) (pe_op op_sub (pe_callB call_len_seq (by rfl) B.len (by decide +kernel) (pa_cons (pv 1) pa_nil)) pe_int))
    (pss_cons (ps_if (PW.pt (pw_or (pt_cmpR op_le (pe_bm PySem.F.plainAttrs_str PySem.F.slot_str_count PySem.F.type_str_count mt_count (pv 2) (pa_cons pe_str pa_nil)) (pv 5) (nomark _)) (pw_or1 (pt_val (pe_call c_kept.ok (hr.mono (by first | exact Nat.le_refl _ | decide)) (by rfl) c_kept.g c_kept.kp c_kept.bd (.cons rfl .nil) pass0 (pa_cons (pe_op op_cat (pv 3) (pe_op op_rep (pe_lst (pa_cons pe_int pa_nil)) (pv 5))) (pa_cons (pv 2) pa_nil))))))) (pss_one (ps_ret pe_str)) pss_nil)
    (pss_cons (ps_if (pt_val (pe_call c_kept.ok (hr.mono (by first | exact Nat.le_refl _ | decide)) (by rfl) c_kept.g c_kept.kp c_kept.bd (.cons rfl .nil) pass0 (pa_cons (pv 3) (pa_cons (pe_call c_without_last_raids.ok (hr.mono (by first | exact Nat.le_refl _ | decide)) (by rfl) c_without_last_raids.g c_without_last_raids.kp c_without_last_raids.bd .nil pass0 (pa_cons (pv 2) (pa_cons (pv 5) pa_nil))) pa_nil)))) (pss_one (ps_ret pe_str)) pss_nil)
    (pss_one (ps_ret pe_str))))))))), (R vs H Q E h).2⟩)
abbrev s_walk_from : Stmt := top 35
theorem sc_walk_from : FnScope N_walk_from P_walk_from (defScope s_walk_from) := ⟨rfl, rfl, rfl, by decide +kernel, rfl, by decide +kernel, by decide +kernel⟩
theorem ok_walk_from {P : Program} {w : World} {K : PySem.W.Frag} {mg : Str → Option Value} {base : Heap} {C fI fL fN fS f : Addr} {fd : FuncData} (F : FunD K "walk_from" "walk_from" (defArgs s_walk_from) (defBody s_walk_from) (defScope s_walk_from) [] [] f fd) (B : Blt mg) (T : TrC K mg C fI fL fN fS)
    (R : Good (sp_walk_from K C) P_walk_from N_walk_from (t_walk_from K C)) : FnOk P w K mg base CX0 1 f fd P_walk_from (sp_walk_from K C) :=
  F.ok sc_walk_from (fun vs H Q E h => (R vs H Q E h).1) (fun cdv A outer s H vs Q E hr h => ⟨(t_walk_from K C), PSs.nox (by
    have nd := sc_walk_from.nd
    have hu := hu_of hr
    have hu64 := hr.units
    exact (pss_cons (ps_set (i := 2) nd rfl (Or.inl rfl) (pe_lst (pa_cons (pe_tup (pa_cons (pv 1) (pa_cons (pe_un un_neg pe_int) pa_nil))) pa_nil)))
    (pss_cons (ps_set (i := 3) nd rfl (Or.inl rfl) pe_int)
    (pss_cons (ps_while PassesOwn.never (pt_cmpR op_lt (pv 3) (pe_callB call_len_seq (by rfl) B.len (by decide +kernel) (pa_cons (pv 2) pa_nil)) (nomark _)) (pss_cons (ps_asg (pe_ix ix_list (pv 2) (pv 3) (fun _ _ => rfl)) (pg_tup rfl (pgs_cons (pg_name (i := 4) nd rfl (Or.inl rfl)) (pgs_cons (pg_name (i := 5) nd rfl (Or.inl rfl)) pgs_nil))))
    (pss_cons (ps_for PassesOwn.never rfl (pi_list (pe_ix ix_list (pv 0) (pv 4) (fun _ _ => rfl))) (pg_name (i := 6) nd rfl (Or.inl rfl)) (pss_one (ps_if (pt_cmpR op_ne (pv 6) (pv 5) (nomark _)) (pss_one (ps_expr (pe_bm PySem.F.plainAttrs_list PySem.F.slot_list_append PySem.F.type_list_append mt_append (pv 2) (pa_cons (pe_tup (pa_cons (pv 6) (pa_cons (pv 4) pa_nil))) pa_nil)))) pss_nil)))
    (pss_one (ps_aug (i := 3) nd rfl (Or.inl rfl) pe_int ip_add)))))
    (pss_one (ps_ret (pv 2))))))), (R vs H Q E h).2⟩)
abbrev s_Tree_init : Stmt := inClass (top 36) 0
theorem sc_Tree_init : FnScope N_Tree_init P_Tree_init (defScope s_Tree_init) := ⟨rfl, rfl, rfl, by decide +kernel, rfl, by decide +kernel, by decide +kernel⟩
theorem ok_Tree_init {P : Program} {w : World} {K : PySem.W.Frag} {mg : Str → Option Value} {base : Heap} {C fI fL fN fS f : Addr} {fd : FuncData} (F : FunD K "__init__" "Tree.__init__" (defArgs s_Tree_init) (defBody s_Tree_init) (defScope s_Tree_init) [] [] f fd) (B : Blt mg) (T : TrC K mg C fI fL fN fS) {f_neighbour_table : Addr} {fd_neighbour_table : FuncData} (c_neighbour_table : Cal P w K mg base 1 "neighbour_table" P_neighbour_table (sp_neighbour_table K C) f_neighbour_table fd_neighbour_table) {f_first_bad_link : Addr} {fd_first_bad_link : FuncData} (c_first_bad_link : Cal P w K mg base 2 "first_bad_link" P_first_bad_link (sp_first_bad_link K C) f_first_bad_link fd_first_bad_link)
    (R : Good (sp_Tree_init K C) P_Tree_init N_Tree_init (t_Tree_init K C)) : FnOk P w K mg base CX0 3 f fd P_Tree_init (sp_Tree_init K C) :=
  F.ok sc_Tree_init (fun vs H Q E h => (R vs H Q E h).1) (fun cdv A outer s H vs Q E hr h => ⟨(t_Tree_init K C), PSs.nox (by
    have nd := sc_Tree_init.nd
    have hu := hu_of hr
    have hu64 := hr.units
    exact (pss_cons (ps_set (i := 3) nd rfl (Or.inl rfl) (pe_call c_first_bad_link.ok (hr.mono (by first | exact Nat.le_refl _ | decide)) (by rfl) c_first_bad_link.g c_first_bad_link.kp c_first_bad_link.bd .nil pass0 (pa_cons (pv 1) (pa_cons (pv 2) pa_nil))))
    (pss_cons (ps_if (pt_cmpR op_notN (pv 3) pe_non (nomark _)) (pss_one ps_never) pss_nil)
    (pss_cons (ps_if (pt_cmpR op_ne (pe_callB call_len_seq (by rfl) B.len (by decide +kernel) (pa_cons (pv 2) pa_nil)) (pe_op op_sub (pv 1) pe_int) (nomark _)) (pss_one ps_never) pss_nil)
    (pss_cons (ps_fld (pv 0) (pv 1) rfl)
    (pss_cons (ps_fld (pv 0) (pe_callB cr_sortedPO (by rfl) B.sorted (by decide +kernel) (pa_cons (pe_lc rfl nd (pi_list (pv 2)) (blkOk_by (own := [("pair", 4)]) (by kernel_rfl)) (fun _ _ _ _ _ => (pg_name (i := 4) nd rfl (Or.inl rfl))) (fun _ _ _ _ _ => pts_nil) (fun _ _ _ _ _ => (pe_tup (pa_cons (pe_callB (call_minT rfl) (by rfl) B.min_ (by decide +kernel) (pa_cons (pv 4) pa_nil)) (pa_cons (pe_callB (call_maxT rfl) (by rfl) B.max_ (by decide +kernel) (pa_cons (pv 4) pa_nil)) pa_nil))))) pa_nil)) rfl)
    (pss_one (ps_fld (pv 0) (pe_call c_neighbour_table.ok (hr.mono (by first | exact Nat.le_refl _ | decide)) (by rfl) c_neighbour_table.g c_neighbour_table.kp c_neighbour_table.bd .nil pass0 (pa_cons (pv 1) (pa_cons (pe_fld (pv 0) rfl) pa_nil))) rfl)))))))), (R vs H Q E h).2⟩)
abbrev s_Tree_links : Stmt := inClass (top 36) 1
theorem sc_Tree_links : FnScope N_Tree_links P_Tree_links (defScope s_Tree_links) := ⟨rfl, rfl, rfl, by decide +kernel, rfl, by decide +kernel, by decide +kernel⟩
theorem ok_Tree_links {P : Program} {w : World} {K : PySem.W.Frag} {mg : Str → Option Value} {base : Heap} {C fI fL fN fS f : Addr} {fd : FuncData} (F : FunD K "links" "Tree.links" (defArgs s_Tree_links) (defBody s_Tree_links) (defScope s_Tree_links) [] [] f fd) (B : Blt mg) (T : TrC K mg C fI fL fN fS)
    (R : Good (sp_Tree_links K C) P_Tree_links N_Tree_links (t_Tree_links K C)) : FnOk P w K mg base CX0 1 f fd P_Tree_links (sp_Tree_links K C) :=
  F.ok sc_Tree_links (fun vs H Q E h => (R vs H Q E h).1) (fun cdv A outer s H vs Q E hr h => ⟨(t_Tree_links K C), PSs.nox (by
    have nd := sc_Tree_links.nd
    have hu := hu_of hr
    have hu64 := hr.units
    exact (pss_one (ps_ret (pe_callTy call_list_of (by rfl) B.list_ (by decide +kernel) (pa_cons (pe_fld (pv 0) rfl) pa_nil))))), (R vs H Q E h).2⟩)
end Bw
namespace Bw
open PySem PySem.Spec PyProof.Rows L2 Evl Bb
abbrev s_Tree_neighbours : Stmt := inClass (top 36) 2
theorem sc_Tree_neighbours : FnScope N_Tree_neighbours P_Tree_neighbours (defScope s_Tree_neighbours) := ⟨rfl, rfl, rfl, by decide +kernel, rfl, by decide +kernel, by decide +kernel⟩
theorem ok_Tree_neighbours {P : Program} {w : World} {K : PySem.W.Frag} {mg : Str → Option Value} {base : Heap} {C fI fL fN fS f : Addr} {fd : FuncData} (F : FunD K "neighbours" "Tree.neighbours" (defArgs s_Tree_neighbours) (defBody s_Tree_neighbours) (defScope s_Tree_neighbours) [] [] f fd) (B : Blt mg) (T : TrC K mg C fI fL fN fS)
    (R : Good (sp_Tree_neighbours K C) P_Tree_neighbours N_Tree_neighbours (t_Tree_neighbours K C)) : FnOk P w K mg base CX0 1 f fd P_Tree_neighbours (sp_Tree_neighbours K C) :=
  F.ok sc_Tree_neighbours (fun vs H Q E h => (R vs H Q E h).1) (fun cdv A outer s H vs Q E hr h => ⟨(t_Tree_neighbours K C), PSs.nox (by
    have nd := sc_Tree_neighbours.nd
    have hu := hu_of hr
    have hu64 := hr.units
    exact (pss_one (ps_ret (pe_callTy call_list_of (by rfl) B.list_ (by decide +kernel) (pa_cons (pe_ix ix_list (pe_fld (pv 0) rfl) (pv 1) (fun _ _ => rfl)) pa_nil))))), (R vs H Q E h).2⟩)
abbrev s_Tree_all_sizes : Stmt := inClass (top 36) 6
theorem sc_Tree_all_sizes : FnScope N_Tree_all_sizes P_Tree_all_sizes (defScope s_Tree_all_sizes) := ⟨rfl, rfl, rfl, by decide +kernel, rfl, by decide +kernel, by decide +kernel⟩
theorem ok_Tree_all_sizes {P : Program} {w : World} {K : PySem.W.Frag} {mg : Str → Option Value} {base : Heap} {C fI fL fN fS f : Addr} {fd : FuncData} (F : FunD K "all_sizes" "Tree.all_sizes" (defArgs s_Tree_all_sizes) (defBody s_Tree_all_sizes) (defScope s_Tree_all_sizes) [] [] f fd) (B : Blt mg) (T : TrC K mg C fI fL fN fS) {f_walk_from : Addr} {fd_walk_from : FuncData} (c_walk_from : Cal P w K mg base 1 "walk_from" P_walk_from (sp_walk_from K C) f_walk_from fd_walk_from)
    (R : Good (sp_Tree_all_sizes K C) P_Tree_all_sizes N_Tree_all_sizes (t_Tree_all_sizes K C)) : FnOk P w K mg base CX0 2 f fd P_Tree_all_sizes (sp_Tree_all_sizes K C) :=
  F.ok sc_Tree_all_sizes (fun vs H Q E h => (R vs H Q E h).1) (fun cdv A outer s H vs Q E hr h => ⟨(t_Tree_all_sizes K C), PSs.nox (by
    have nd := sc_Tree_all_sizes.nd
    have hu := hu_of hr
    have hu64 := hr.units
    exact (pss_cons (ps_set (i := 1) nd rfl (Or.inl rfl) (pe_op op_rep (pe_lst (pa_cons pe_int pa_nil)) (pe_fld (pv 0) rfl)))
    (pss_cons (ps_setLc (i := 2) rfl nd rfl rfl (sw_true rfl rfl rfl (by decide +kernel)) (pi_range1 (by rfl) B.range (pa_cons (pe_fld (pv 0) rfl) pa_nil)) (blkOk_by (own := [("_", 5)]) (by kernel_rfl)) (fun _ _ _ _ _ => (pg_name (i := 5) nd rfl (Or.inl rfl))) (fun _ _ _ _ _ => pts_nil) (fun _ _ _ _ _ => (pe_lst pa_nil)))
    (pss_cons (ps_for PassesOwn.never rfl (pi_reversed (by rfl) B.reversed (pa_cons (pe_call c_walk_from.ok (hr.mono (by first | exact Nat.le_refl _ | decide)) (by rfl) c_walk_from.g c_walk_from.kp c_walk_from.bd .nil pass0 (pa_cons (pe_fld (pv 0) rfl) (pa_cons pe_int pa_nil))) pa_nil)) (pg_tup rfl (pgs_cons (pg_name (i := 3) nd rfl (Or.inl rfl)) (pgs_cons (pg_name (i := 4) nd rfl (Or.inl rfl)) pgs_nil))) (pss_one (ps_if (pt_cmpR op_ge (pv 4) pe_int (nomark _)) (pss_cons (ps_asg (pe_op op_add (pe_ix ix_list (pv 1) (pv 4) (fun _ _ => rfl)) (pe_ix ix_list (pv 1) (pv 3) (fun _ _ => rfl))) (pg_sub (pv 1) (pv 4) set_list))
    (pss_cons (ps_expr (pe_bm PySem.F.plainAttrs_list PySem.F.slot_list_append PySem.F.type_list_append mt_append (pe_ix ix_list (pv 2) (pv 4) (fun _ _ => rfl)) (pa_cons (pe_ix ix_list (pv 1) (pv 3) (fun _ _ => rfl)) pa_nil)))
    (pss_one (ps_expr (pe_bm PySem.F.plainAttrs_list PySem.F.slot_list_append PySem.F.type_list_append mt_append (pe_ix ix_list (pv 2) (pv 3) (fun _ _ => rfl)) (pa_cons (pe_op op_sub (pe_fld (pv 0) rfl) (pe_ix ix_list (pv 1) (pv 3) (fun _ _ => rfl))) pa_nil)))))) pss_nil)))
    (pss_one (ps_ret (pe_lc rfl nd (pi_list (pv 2)) (blkOk_by (own := [("row", 6)]) (by kernel_rfl)) (fun _ _ _ _ _ => (pg_name (i := 6) nd rfl (Or.inl rfl))) (fun _ _ _ _ _ => pts_nil) (fun _ _ _ _ _ => (pe_callBK cr_sortedRev (by rfl) B.sorted (by decide +kernel) (pa_cons (pv 6) pa_nil) (pk_cons pe_bl pk_nil)))))))))), (R vs H Q E h).2⟩)
abbrev s_l_cell : Stmt := top 38
theorem sc_l_cell : FnScope N_l_cell P_l_cell (defScope s_l_cell) := ⟨rfl, rfl, rfl, by decide +kernel, rfl, by decide +kernel, by decide +kernel⟩
theorem ok_l_cell {P : Program} {w : World} {K : PySem.W.Frag} {mg : Str → Option Value} {base : Heap} {C fI fL fN fS f : Addr} {fd : FuncData} (F : FunD K "_law_cell" "_law_cell" (defArgs s_l_cell) (defBody s_l_cell) (defScope s_l_cell) [] [] f fd) (B : Blt mg) (T : TrC K mg C fI fL fN fS)
    (R : Good (sp_l_cell K C) P_l_cell N_l_cell (t_l_cell K C)) : FnOk P w K mg base CX0 1 f fd P_l_cell (sp_l_cell K C) :=
  F.ok sc_l_cell (fun vs H Q E h => (R vs H Q E h).1) (fun cdv A outer s H vs Q E hr h => ⟨(t_l_cell K C), PSs.nox (by
    have nd := sc_l_cell.nd
    have hu := hu_of hr
    have hu64 := hr.units
    exact (pss_cons (ps_if (pt_cmpR op_lt (pv 1) (pe_callB call_len_seq (by rfl) B.len (by decide +kernel) (pa_cons (pv 0) pa_nil)) (nomark _)) (pss_one (ps_ret (pe_callB call_abs (by rfl) B.abs (by decide +kernel) (pa_cons (pe_callTy call_int1 (by rfl) B.int_ (by decide +kernel) (pa_cons (pe_ix ix_list (pv 0) (pv 1) (fun _ _ => rfl)) pa_nil)) pa_nil)))) pss_nil)
    (pss_one (ps_ret pe_int)))), (R vs H Q E h).2⟩)
abbrev s_l_mixed : Stmt := top 39
theorem sc_l_mixed : FnScope N_l_mixed P_l_mixed (defScope s_l_mixed) := ⟨rfl, rfl, rfl, by decide +kernel, rfl, by decide +kernel, by decide +kernel⟩
theorem ok_l_mixed {P : Program} {w : World} {K : PySem.W.Frag} {mg : Str → Option Value} {base : Heap} {C fI fL fN fS f : Addr} {fd : FuncData} (F : FunD K "_law_mixed" "_law_mixed" (defArgs s_l_mixed) (defBody s_l_mixed) (defScope s_l_mixed) [] [] f fd) (B : Blt mg) (T : TrC K mg C fI fL fN fS)
    (R : Good (sp_l_mixed K C) P_l_mixed N_l_mixed (t_l_mixed K C)) : FnOk P w K mg base CX0 1 f fd P_l_mixed (sp_l_mixed K C) :=
  F.ok sc_l_mixed (fun vs H Q E h => (R vs H Q E h).1) (fun cdv A outer s H vs Q E hr h => ⟨(t_l_mixed K C), PSs.nox (by
    have nd := sc_l_mixed.nd
    have hu := hu_of hr
    have hu64 := hr.units
    exact (pss_cons (ps_set (i := 3) nd rfl (Or.inl rfl) (pe_op op_modN (pe_callTy call_int1 (by rfl) B.int_ (by decide +kernel) (pa_cons (pe_op op_add (pe_op op_add (pv 0) (pe_op op_mul pe_int (pv 1))) pe_int) pa_nil)) pe_int))
    (pss_cons (ps_set (i := 3) nd rfl (Or.inl rfl) (pe_op op_modN (pe_callTy call_int1 (by rfl) B.int_ (by decide +kernel) (pa_cons (pe_op op_mul (pv 3) (pe_op op_add (pv 3) pe_int)) pa_nil)) pe_int))
    (pss_cons (ps_set (i := 3) nd rfl (Or.inl rfl) (pe_op op_modN (pe_callTy call_int1 (by rfl) B.int_ (by decide +kernel) (pa_cons (pe_op op_add (pe_op op_mul (pv 3) (pe_op op_add (pv 3) pe_int)) (pe_op op_mul pe_int (pv 1))) pa_nil)) pe_int))
    (pss_one (ps_ret (pe_op op_modN (pe_callTy call_int1 (by rfl) B.int_ (by decide +kernel) (pa_cons (pe_op op_fdivN (pv 3) pe_int) pa_nil)) (pv 2)))))))), (R vs H Q E h).2⟩)
abbrev s_l_draws : Stmt := top 40
theorem sc_l_draws : FnScope N_l_draws P_l_draws (defScope s_l_draws) := ⟨rfl, rfl, rfl, by decide +kernel, rfl, by decide +kernel, by decide +kernel⟩
theorem ok_l_draws {P : Program} {w : World} {K : PySem.W.Frag} {mg : Str → Option Value} {base : Heap} {C fI fL fN fS f : Addr} {fd : FuncData} (F : FunD K "_law_draws" "_law_draws" (defArgs s_l_draws) (defBody s_l_draws) (defScope s_l_draws) [] [] f fd) (B : Blt mg) (T : TrC K mg C fI fL fN fS) {f_l_mixed : Addr} {fd_l_mixed : FuncData} (c_l_mixed : Cal P w K mg base 1 "_law_mixed" P_l_mixed (sp_l_mixed K C) f_l_mixed fd_l_mixed)
    (R : Good (sp_l_draws K C) P_l_draws N_l_draws (t_l_draws K C)) : FnOk P w K mg base CX0 2 f fd P_l_draws (sp_l_draws K C) :=
  F.ok sc_l_draws (fun vs H Q E h => (R vs H Q E h).1) (fun cdv A outer s H vs Q E hr h => ⟨(t_l_draws K C), PSs.nox (by
    have nd := sc_l_draws.nd
    have hu := hu_of hr
    have hu64 := hr.units
    exact (pss_cons (ps_set (i := 2) nd rfl (Or.inl rfl) (pe_lst pa_nil))
    (pss_cons (ps_set (i := 3) nd rfl (Or.inl rfl) (pv 0))
    (pss_cons (ps_for PassesOwn.never rfl (pi_range1 (by rfl) B.range (pa_cons (pe_callB call_len_seq (by rfl) B.len (by decide +kernel) (pa_cons (pv 1) pa_nil)) pa_nil)) (pg_name (i := 4) nd rfl (Or.inl rfl)) (pss_one (ps_if (PW.pt (pw_and (pt_cmpR op_ge (pv 0) (pe_op op_pow pe_int pe_int) (nomark _)) (pw_and1 (pt_cmpR op_gt (pv 3) pe_int (nomark _))))) (pss_cons (ps_expr (pe_bm PySem.F.plainAttrs_list PySem.F.slot_list_append PySem.F.type_list_append mt_append (pv 2) (pa_cons (pe_op op_modN (pe_callTy call_int1 (by rfl) B.int_ (by decide +kernel) (pa_cons (pv 3) pa_nil)) (pe_ix ix_list (pv 1) (pv 4) (fun _ _ => rfl))) pa_nil)))
    (pss_one (ps_set (i := 3) nd rfl (Or.inl rfl) (pe_op op_fdivN (pv 3) (pe_ix ix_list (pv 1) (pv 4) (fun _ _ => rfl)))))) (pss_one (ps_expr (pe_bm PySem.F.plainAttrs_list PySem.F.slot_list_append PySem.F.type_list_append mt_append (pv 2) (pa_cons (pe_call c_l_mixed.ok (hr.mono (by first | exact Nat.le_refl _ | decide)) (by rfl) c_l_mixed.g c_l_mixed.kp c_l_mixed.bd .nil pass0 (pa_cons (pv 0) (pa_cons (pv 4) (pa_cons (pe_ix ix_list (pv 1) (pv 4) (fun _ _ => rfl)) pa_nil)))) pa_nil)))))))
    (pss_one (ps_ret (pv 2))))))), (R vs H Q E h).2⟩)
abbrev s_l_like : Stmt := top 41
theorem sc_l_like : FnScope N_l_like P_l_like (defScope s_l_like) := ⟨rfl, rfl, rfl, by decide +kernel, rfl, by decide +kernel, by decide +kernel⟩
theorem ok_l_like {P : Program} {w : World} {K : PySem.W.Frag} {mg : Str → Option Value} {base : Heap} {C fI fL fN fS f : Addr} {fd : FuncData} {k : Nat} (F : FunD K "_law_like" "_law_like" (defArgs s_l_like) (defBody s_l_like) (defScope s_l_like) [] [] f fd) (B : Blt mg) (T : TrC K mg C fI fL fN fS) {f_l_like : Addr} {fd_l_like : FuncData} (c_l_like : Cal P w K mg base k "_law_like" P_l_like (sp_l_likeN k) f_l_like fd_l_like)
    (R : Good (sp_l_likeN (k + 1)) P_l_like N_l_like (t_l_like K C k)) : FnOk P w K mg base CX0 (k + 1) f fd P_l_like (sp_l_likeN (k + 1)) :=
  F.ok sc_l_like (fun vs H Q E h => (R vs H Q E h).1) (fun cdv A outer s H vs Q E hr h => ⟨(t_l_like K C k), PSs.nox (by
    have nd := sc_l_like.nd
    have hu := hu_of hr
    have hu64 := hr.units
    exact (pss_cons (ps_if (pt_cmpR op_isN (pv 1) pe_non (nomark _)) (pss_one (ps_ret (pe_cmpR op_isN (pv 0) pe_non (nomark _)))) pss_nil)
    (pss_cons (ps_if (pt_cmpR op_is_any (pv 1) pe_bl (nomark _)) (pss_one (ps_ret (pe_cmpR op_is_any (pv 0) pe_bl (nomark _)))) pss_nil)
    (pss_cons (ps_if (pt_cmpR op_is_any (pv 1) pe_bl (nomark _)) (pss_one (ps_ret (pe_cmpR op_is_any (pv 0) pe_bl (nomark _)))) pss_nil)
    (pss_cons (ps_if (pt_val (pe_callB call_isi (by rfl) B.isinstance (by decide +kernel) (pa_cons (pv 1) (pa_cons (pe_bltn (v := .ty "str") (by rfl) B.str_ (by decide +kernel) rfl) pa_nil)))) (pss_one (ps_ret (pe_and (pe_callB call_isi (by rfl) B.isinstance (by decide +kernel) (pa_cons (pv 0) (pa_cons (pe_bltn (v := .ty "str") (by rfl) B.str_ (by decide +kernel) rfl) pa_nil))) (pe_one (pe_cmpR op_eq (pv 0) (pv 1) (nomark _)))))) pss_nil)
    (pss_cons (ps_if (pt_val (pe_callB call_isi (by rfl) B.isinstance (by decide +kernel) (pa_cons (pv 1) (pa_cons (pe_bltn (v := .ty "int") (by rfl) B.int_ (by decide +kernel) rfl) pa_nil)))) (pss_one (ps_ret (pe_and (pe_callB call_isi (by rfl) B.isinstance (by decide +kernel) (pa_cons (pv 0) (pa_cons (pe_bltn (v := .ty "int") (by rfl) B.int_ (by decide +kernel) rfl) pa_nil))) (pe_and (pe_not (pe_callB call_isi (by rfl) B.isinstance (by decide +kernel) (pa_cons (pv 0) (pa_cons (pe_bltn (v := .ty "bool") (by rfl) B.bool_ (by decide +kernel) rfl) pa_nil)))) (pe_one (pe_cmpR op_eq (pv 0) (pv 1) (nomark _))))))) pss_nil)
    (pss_cons (ps_if (pt_val (pe_callB call_isi (by rfl) B.isinstance (by decide +kernel) (pa_cons (pv 1) (pa_cons (pe_bltn (v := .ty "list") (by rfl) B.list_ (by decide +kernel) rfl) pa_nil)))) (pss_one (ps_if (PW.pt (pw_or (pt_not (pt_val (pe_callB call_isi (by rfl) B.isinstance (by decide +kernel) (pa_cons (pv 0) (pa_cons (pe_bltn (v := .ty "list") (by rfl) B.list_ (by decide +kernel) rfl) pa_nil))))) (pw_or1 (pt_cmpR op_ne (pe_callB call_len_seq (by rfl) B.len (by decide +kernel) (pa_cons (pv 0) pa_nil)) (pe_callB call_len_seq (by rfl) B.len (by decide +kernel) (pa_cons (pv 1) pa_nil)) (nomark _))))) (pss_one (ps_ret pe_bl)) pss_nil)) (pss_one (ps_if (PW.pt (pw_or (pt_not (pt_val (pe_callB call_isi (by rfl) B.isinstance (by decide +kernel) (pa_cons (pv 0) (pa_cons (pe_bltn (v := .ty "tuple") (by rfl) B.tuple_ (by decide +kernel) rfl) pa_nil))))) (pw_or1 (pt_cmpR op_ne (pe_callB call_len_seq (by rfl) B.len (by decide +kernel) (pa_cons (pv 0) pa_nil)) (pe_callB call_len_seq (by rfl) B.len (by decide +kernel) (pa_cons (pv 1) pa_nil)) (nomark _))))) (pss_one (ps_ret pe_bl)) pss_nil)))
    (pss_cons (ps_for PassesOwn.never rfl (pi_range1 (by rfl) B.range (pa_cons (pe_callB call_len_seq (by rfl) B.len (by decide +kernel) (pa_cons (pv 1) pa_nil)) pa_nil)) (pg_name (i := 2) nd rfl (Or.inl rfl)) (pss_one (ps_if (pt_not (pt_val (pe_call c_l_like.ok (hr.mono (by first | exact Nat.le_refl _ | decide)) (by rfl) c_l_like.g c_l_like.kp c_l_like.bd .nil pass0 (pa_cons (pe_ix ix_seq (pv 0) (pv 2) (fun _ _ => rfl)) (pa_cons (pe_ix ix_seq (pv 1) (pv 2) (fun _ _ => rfl)) pa_nil))))) (pss_one (ps_ret pe_bl)) pss_nil)))
    (pss_one (ps_ret pe_bl)))))))))), (R vs H Q E h).2⟩)
end Bw
namespace Bw
open PySem PySem.Spec PyProof.Rows L2 Evl Bb
abbrev s_l_tree : Stmt := top 42
theorem sc_l_tree : FnScope N_l_tree P_l_tree (defScope s_l_tree) := ⟨rfl, rfl, rfl, by decide +kernel, rfl, by decide +kernel, by decide +kernel⟩
theorem ok_l_tree {P : Program} {w : World} {K : PySem.W.Frag} {mg : Str → Option Value} {base : Heap} {C fI fL fN fS f : Addr} {fd : FuncData} (F : FunD K "_law_tree" "_law_tree" (defArgs s_l_tree) (defBody s_l_tree) (defScope s_l_tree) [] [] f fd) (B : Blt mg) (T : TrC K mg C fI fL fN fS) {f_l_draws : Addr} {fd_l_draws : FuncData} (c_l_draws : Cal P w K mg base 2 "_law_draws" P_l_draws (sp_l_draws K C) f_l_draws fd_l_draws)
    (R : Good (sp_l_tree K C) P_l_tree N_l_tree (t_l_tree K C)) : FnOk P w K mg base CX0 3 f fd P_l_tree (sp_l_tree K C) :=
  F.ok sc_l_tree (fun vs H Q E h => (R vs H Q E h).1) (fun cdv A outer s H vs Q E hr h => ⟨(t_l_tree K C), PSs.nox (by
    have nd := sc_l_tree.nd
    have hu := hu_of hr
    have hu64 := hr.units
    exact (pss_cons (ps_set (i := 2) nd rfl (Or.inl rfl) (pe_call c_l_draws.ok (hr.mono (by first | exact Nat.le_refl _ | decide)) (by rfl) c_l_draws.g c_l_draws.kp c_l_draws.bd .nil pass0 (pa_cons (pv 0) (pa_cons (pe_lst (pa_cons (pv 1) (pa_cons pe_int pa_nil))) pa_nil))))
    (pss_cons (ps_set (i := 3) nd rfl (Or.inl rfl) (pe_op op_add pe_int (pe_ix ix_list (pv 2) pe_int (fun _ _ => rfl))))
    (pss_cons (ps_set (i := 4) nd rfl (Or.inl rfl) (pe_lst (pa_cons (pv 1) (pa_cons pe_int pa_nil))))
    (pss_cons (ps_for PassesOwn.never rfl (pi_range2 (by rfl) B.range (pa_cons pe_int (pa_cons (pv 3) pa_nil))) (pg_name (i := 5) nd rfl (Or.inl rfl)) (pss_one (ps_set (i := 4) nd rfl (Or.inl rfl) (pe_op op_cat (pv 4) (pe_lst (pa_cons (pv 5) (pa_cons (pe_op op_add (pv 5) pe_int) (pa_cons (pe_op op_mul pe_int (pv 5)) pa_nil))))))))
    (pss_cons (ps_set (i := 6) nd rfl (Or.inl rfl) (pe_call c_l_draws.ok (hr.mono (by first | exact Nat.le_refl _ | decide)) (by rfl) c_l_draws.g c_l_draws.kp c_l_draws.bd .nil pass0 (pa_cons (pv 0) (pa_cons (pv 4) pa_nil))))
    (pss_cons (ps_set (i := 7) nd rfl (Or.inl rfl) (pe_lst (pa_cons pe_int pa_nil)))
    (pss_cons (ps_set (i := 8) nd rfl (Or.inl rfl) (pe_lst pa_nil))
    (pss_cons (ps_set (i := 9) nd rfl (Or.inl rfl) (pe_lst pa_nil))
    (pss_cons (ps_for PassesOwn.never rfl (pi_range2 (by rfl) B.range (pa_cons pe_int (pa_cons (pv 3) pa_nil))) (pg_name (i := 5) nd rfl (Or.inl rfl)) (pss_cons (ps_set (i := 10) nd rfl (Or.inl rfl) (pe_ix ix_list (pv 6) (pe_op op_sub (pe_op op_mul pe_int (pv 5)) pe_int) (fun _ _ => rfl)))
    (pss_cons (ps_if (pt_cmpR op_eq (pe_ix ix_list (pv 2) pe_int (fun _ _ => rfl)) pe_int (nomark _)) (pss_one (ps_set (i := 10) nd rfl (Or.inl rfl) (pe_op op_sub (pe_op op_sub (pv 5) pe_int) (pe_op op_modN (pe_callTy call_int1 (by rfl) B.int_ (by decide +kernel) (pa_cons (pv 10) pa_nil)) (pe_callB (call_min2 rfl) (by rfl) B.min_ (by decide +kernel) (pa_cons (pv 5) (pa_cons pe_int pa_nil))))))) pss_nil)
    (pss_cons (ps_if (PW.pt (pw_or (PW.pt (pw_and (pt_cmpR op_eq (pe_ix ix_list (pv 2) pe_int (fun _ _ => rfl)) pe_int (nomark _)) (pw_and1 (pt_cmpR op_gt (pe_op op_modN (pe_callTy call_int1 (by rfl) B.int_ (by decide +kernel) (pa_cons (pv 10) pa_nil)) pe_int) pe_int (nomark _))))) (pw_or1 (pt_cmpR op_eq (pe_ix ix_list (pv 2) pe_int (fun _ _ => rfl)) pe_int (nomark _))))) (pss_one (ps_set (i := 10) nd rfl (Or.inl rfl) pe_int)) pss_nil)
    (pss_cons (ps_if (pt_cmpR op_eq (pe_ix ix_list (pv 2) pe_int (fun _ _ => rfl)) pe_int (nomark _)) (pss_one (ps_set (i := 10) nd rfl (Or.inl rfl) (pe_op op_sub (pv 5) pe_int))) pss_nil)
    (pss_cons (ps_expr (pe_bm PySem.F.plainAttrs_list PySem.F.slot_list_append PySem.F.type_list_append mt_append (pv 8) (pa_cons (pv 10) pa_nil)))
    (pss_cons (ps_expr (pe_bm PySem.F.plainAttrs_list PySem.F.slot_list_insert PySem.F.type_list_insert mt_insert (pv 7) (pa_cons (pe_ix ix_list (pv 6) (pe_op op_mul pe_int (pv 5)) (fun _ _ => rfl)) (pa_cons (pv 5) pa_nil))))
    (pss_one (ps_expr (pe_bm PySem.F.plainAttrs_list PySem.F.slot_list_append PySem.F.type_list_append mt_append (pv 9) (pa_cons (pe_ix ix_list (pv 6) (pe_op op_add (pe_op op_mul pe_int (pv 5)) pe_int) (fun _ _ => rfl)) pa_nil)))))))))))
    (pss_cons (ps_set (i := 11) nd rfl (Or.inl rfl) (pe_lst pa_nil))
    (pss_cons (ps_for PassesOwn.never rfl (pi_range2 (by rfl) B.range (pa_cons pe_int (pa_cons (pv 3) pa_nil))) (pg_name (i := 5) nd rfl (Or.inl rfl)) (pss_cons (ps_set (i := 12) nd rfl (Or.inl rfl) (pe_tup (pa_cons (pe_bm PySem.F.plainAttrs_list PySem.F.slot_list_index PySem.F.type_list_index mt_index (pv 7) (pa_cons (pv 5) pa_nil)) (pa_cons (pe_bm PySem.F.plainAttrs_list PySem.F.slot_list_index PySem.F.type_list_index mt_index (pv 7) (pa_cons (pe_ix ix_list (pv 8) (pe_op op_sub (pv 5) pe_int) (fun _ _ => rfl)) pa_nil)) pa_nil))))
    (pss_cons (ps_if (pt_cmpR op_eq (pe_op op_modN (pe_callTy call_int1 (by rfl) B.int_ (by decide +kernel) (pa_cons (pe_ix ix_list (pv 9) (pe_op op_sub (pv 5) pe_int) (fun _ _ => rfl)) pa_nil)) pe_int) pe_int (nomark _)) (pss_one (ps_set (i := 12) nd rfl (Or.inl rfl) (pe_tup (pa_cons (pe_ix ix_tup (pv 12) pe_int (fun _ _ => rfl)) (pa_cons (pe_ix ix_tup (pv 12) pe_int (fun _ _ => rfl)) pa_nil))))) pss_nil)
    (pss_one (ps_expr (pe_bm PySem.F.plainAttrs_list PySem.F.slot_list_insert PySem.F.type_list_insert mt_insert (pv 11) (pa_cons (pe_op op_fdivN (pe_ix ix_list (pv 9) (pe_op op_sub (pv 5) pe_int) (fun _ _ => rfl)) pe_int) (pa_cons (pv 12) pa_nil))))))))
    (pss_one (ps_ret (pe_tup (pa_cons (pv 3) (pa_cons (pv 11) pa_nil))))))))))))))))), (R vs H Q E h).2⟩)
abbrev s_l_near : Stmt := top 43
theorem sc_l_near : FnScope N_l_near P_l_near (defScope s_l_near) := ⟨rfl, rfl, rfl, by decide +kernel, rfl, by decide +kernel, by decide +kernel⟩
theorem ok_l_near {P : Program} {w : World} {K : PySem.W.Frag} {mg : Str → Option Value} {base : Heap} {C fI fL fN fS f : Addr} {fd : FuncData} (F : FunD K "_law_near" "_law_near" (defArgs s_l_near) (defBody s_l_near) (defScope s_l_near) [] [] f fd) (B : Blt mg) (T : TrC K mg C fI fL fN fS)
    (R : Good (sp_l_near K C) P_l_near N_l_near (t_l_near K C)) : FnOk P w K mg base CX0 1 f fd P_l_near (sp_l_near K C) :=
  F.ok sc_l_near (fun vs H Q E h => (R vs H Q E h).1) (fun cdv A outer s H vs Q E hr h => ⟨(t_l_near K C), PSs.nox (by
    have nd := sc_l_near.nd
    have hu := hu_of hr
    have hu64 := hr.units
    exact (pss_cons (ps_setLc (i := 2) rfl nd rfl rfl (sw_true rfl rfl rfl (by decide +kernel)) (pi_range1 (by rfl) B.range (pa_cons (pv 0) pa_nil)) (blkOk_by (own := [("_law_k", 4)]) (by kernel_rfl)) (fun _ _ _ _ _ => (pg_name (i := 4) nd rfl (Or.inl rfl))) (fun _ _ _ _ _ => pts_nil) (fun _ _ _ _ _ => (pe_lst pa_nil)))
    (pss_cons (ps_for PassesOwn.never rfl (pi_list (pv 1)) (pg_name (i := 3) nd rfl (Or.inl rfl)) (pss_cons (ps_expr (pe_bm PySem.F.plainAttrs_list PySem.F.slot_list_append PySem.F.type_list_append mt_append (pe_ix ix_list (pv 2) (pe_ix ix_tup (pv 3) pe_int (fun _ _ => rfl)) (fun _ _ => rfl)) (pa_cons (pe_ix ix_tup (pv 3) pe_int (fun _ _ => rfl)) pa_nil)))
    (pss_one (ps_expr (pe_bm PySem.F.plainAttrs_list PySem.F.slot_list_append PySem.F.type_list_append mt_append (pe_ix ix_list (pv 2) (pe_ix ix_tup (pv 3) pe_int (fun _ _ => rfl)) (fun _ _ => rfl)) (pa_cons (pe_ix ix_tup (pv 3) pe_int (fun _ _ => rfl)) pa_nil))))))
    (pss_one (ps_ret (pe_lc rfl nd (pi_list (pv 2)) (blkOk_by (own := [("_law_row", 5)]) (by kernel_rfl)) (fun _ _ _ _ _ => (pg_name (i := 5) nd rfl (Or.inl rfl))) (fun _ _ _ _ _ => pts_nil) (fun _ _ _ _ _ => (pe_callB cr_sortedI (by rfl) B.sorted (by decide +kernel) (pa_cons (pv 5) pa_nil))))))))), (R vs H Q E h).2⟩)
abbrev s_l_pieces : Stmt := top 44
theorem sc_l_pieces : FnScope N_l_pieces P_l_pieces (defScope s_l_pieces) := ⟨rfl, rfl, rfl, by decide +kernel, rfl, by decide +kernel, by decide +kernel⟩
theorem ok_l_pieces {P : Program} {w : World} {K : PySem.W.Frag} {mg : Str → Option Value} {base : Heap} {C fI fL fN fS f : Addr} {fd : FuncData} (F : FunD K "_law_pieces" "_law_pieces" (defArgs s_l_pieces) (defBody s_l_pieces) (defScope s_l_pieces) [] [] f fd) (B : Blt mg) (T : TrC K mg C fI fL fN fS)
    (R : Good (sp_l_pieces K C) P_l_pieces N_l_pieces (t_l_pieces K C)) : FnOk P w K mg base CX0 1 f fd P_l_pieces (sp_l_pieces K C) :=
  F.ok sc_l_pieces (fun vs H Q E h => (R vs H Q E h).1) (fun cdv A outer s H vs Q E hr h => ⟨(t_l_pieces K C), PSs.nox (by
    have nd := sc_l_pieces.nd
    have hu := hu_of hr
    have hu64 := hr.units
    exact (pss_cons (ps_set (i := 2) nd rfl (Or.inr rfl) (pe_callB cr_sortedI (by rfl) B.sorted (by decide +kernel) (pa_cons (pv 1) pa_nil)))
    (pss_cons (ps_set (i := 3) nd rfl (Or.inl rfl) (pe_lst pa_nil))
    (pss_cons (ps_while PassesOwn.never (pt_cmpR (op_neD hu64) (pv 2) (pe_lst pa_nil) (nomark _)) (pss_cons (ps_set (i := 4) nd rfl (Or.inl rfl) (pe_lst (pa_cons (pe_ix ix_list (pv 2) pe_int (fun _ _ => rfl)) pa_nil)))
    (pss_cons (ps_set (i := 2) nd rfl (Or.inr rfl) (pe_slice sl_list (pv 2) (po_some pe_int) po_none))
    (pss_cons (ps_set (i := 5) nd rfl (Or.inl rfl) pe_int)
    (pss_cons (ps_while PassesOwn.never (pt_cmpR op_lt (pv 5) (pe_callB call_len_seq (by rfl) B.len (by decide +kernel) (pa_cons (pv 4) pa_nil)) (nomark _)) (pss_cons (ps_set (i := 6) nd rfl (Or.inr rfl) (pe_lc rfl nd (pi_list (pe_ix ix_list (pv 0) (pe_ix ix_list (pv 4) (pv 5) (fun _ _ => rfl)) (fun _ _ => rfl))) (blkOk_by (own := [("_law_c", 7)]) (by kernel_rfl)) (fun _ _ _ _ _ => (pg_name (i := 7) nd rfl (Or.inl rfl))) (fun _ _ _ _ _ => (pts_one (pt_cmpR op_in_seq (pv 7) (pv 2) (by rfl)))) (fun _ _ _ _ _ => (pv 7))))
    (pss_cons (ps_set (i := 4) nd rfl (Or.inl rfl) (pe_op op_cat (pv 4) (pv 6)))
    (pss_cons (ps_set (i := 2) nd rfl (Or.inr rfl) (pe_lc rfl nd (pi_list (pv 2)) (blkOk_by (own := [("_law_c", 7)]) (by kernel_rfl)) (fun _ _ _ _ _ => (pg_name (i := 7) nd rfl (Or.inl rfl))) (fun _ _ _ _ _ => (pts_one (pt_cmpR op_notIn_seq (pv 7) (pv 6) (by rfl)))) (fun _ _ _ _ _ => (pv 7))))
    (pss_one (ps_set (i := 5) nd rfl (Or.inl rfl) (pe_op op_add (pv 5) pe_int)))))))
    (pss_one (ps_expr (pe_bm PySem.F.plainAttrs_list PySem.F.slot_list_append PySem.F.type_list_append mt_append (pv 3) (pa_cons (pe_callB cr_sortedI (by rfl) B.sorted (by decide +kernel) (pa_cons (pv 4) pa_nil)) pa_nil)))))))))
    (pss_one (ps_ret (pv 3))))))), (R vs H Q E h).2⟩)
abbrev s_l_sizes : Stmt := top 45
theorem sc_l_sizes : FnScope N_l_sizes P_l_sizes (defScope s_l_sizes) := ⟨rfl, rfl, rfl, by decide +kernel, rfl, by decide +kernel, by decide +kernel⟩
theorem ok_l_sizes {P : Program} {w : World} {K : PySem.W.Frag} {mg : Str → Option Value} {base : Heap} {C fI fL fN fS f : Addr} {fd : FuncData} (F : FunD K "_law_sizes" "_law_sizes" (defArgs s_l_sizes) (defBody s_l_sizes) (defScope s_l_sizes) [] [] f fd) (B : Blt mg) (T : TrC K mg C fI fL fN fS) {f_l_pieces : Addr} {fd_l_pieces : FuncData} (c_l_pieces : Cal P w K mg base 1 "_law_pieces" P_l_pieces (sp_l_pieces K C) f_l_pieces fd_l_pieces)
    (R : Good (sp_l_sizes K C) P_l_sizes N_l_sizes (t_l_sizes K C)) : FnOk P w K mg base CX0 2 f fd P_l_sizes (sp_l_sizes K C) :=
  F.ok sc_l_sizes (fun vs H Q E h => (R vs H Q E h).1) (fun cdv A outer s H vs Q E hr h => ⟨(t_l_sizes K C), PSs.nox (by
    have nd := sc_l_sizes.nd
    have hu := hu_of hr
    have hu64 := hr.units
    exact (pss_cons (ps_setLc (i := 3) rfl nd rfl rfl (sw_true rfl rfl rfl (by decide +kernel)) (pi_list (pv 1)) (blkOk_by (own := [("_law_c", 4)]) (by kernel_rfl)) (fun _ _ _ _ _ => (pg_name (i := 4) nd rfl (Or.inl rfl))) (fun _ _ _ _ _ => (pts_one (pt_cmpR op_ne (pv 4) (pv 2) (nomark _)))) (fun _ _ _ _ _ => (pv 4)))
    (pss_one (ps_ret (pe_callBK cr_sortedRev (by rfl) B.sorted (by decide +kernel) (pa_cons (pe_lc rfl nd (pi_list (pe_call c_l_pieces.ok (hr.mono (by first | exact Nat.le_refl _ | decide)) (by rfl) c_l_pieces.g c_l_pieces.kp c_l_pieces.bd .nil pass0 (pa_cons (pv 0) (pa_cons (pv 3) pa_nil)))) (blkOk_by (own := [("_law_piece", 5)]) (by kernel_rfl)) (fun _ _ _ _ _ => (pg_name (i := 5) nd rfl (Or.inl rfl))) (fun _ _ _ _ _ => pts_nil) (fun _ _ _ _ _ => (pe_callB call_len_seq (by rfl) B.len (by decide +kernel) (pa_cons (pv 5) pa_nil)))) pa_nil) (pk_cons pe_bl pk_nil)))))), (R vs H Q E h).2⟩)
abbrev s_l_grown : Stmt := top 46
theorem sc_l_grown : FnScope N_l_grown P_l_grown (defScope s_l_grown) := ⟨rfl, rfl, rfl, by decide +kernel, rfl, by decide +kernel, by decide +kernel⟩
theorem ok_l_grown {P : Program} {w : World} {K : PySem.W.Frag} {mg : Str → Option Value} {base : Heap} {C fI fL fN fS f : Addr} {fd : FuncData} (F : FunD K "_law_grown" "_law_grown" (defArgs s_l_grown) (defBody s_l_grown) (defScope s_l_grown) [] [] f fd) (B : Blt mg) (T : TrC K mg C fI fL fN fS) {f_l_draws : Addr} {fd_l_draws : FuncData} (c_l_draws : Cal P w K mg base 2 "_law_draws" P_l_draws (sp_l_draws K C) f_l_draws fd_l_draws)
    (R : Good (sp_l_grown K C) P_l_grown N_l_grown (t_l_grown K C)) : FnOk P w K mg base CX0 3 f fd P_l_grown (sp_l_grown K C) :=
  F.ok sc_l_grown (fun vs H Q E h => (R vs H Q E h).1) (fun cdv A outer s H vs Q E hr h => ⟨(t_l_grown K C), PSs.nox (by
    have nd := sc_l_grown.nd
    have hu := hu_of hr
    have hu64 := hr.units
    exact (pss_cons (ps_set (i := 3) nd rfl (Or.inl rfl) (pe_callB call_len_seq (by rfl) B.len (by decide +kernel) (pa_cons (pv 1) pa_nil)))
    (pss_cons (ps_set (i := 4) nd rfl (Or.inl rfl) (pe_lst (pa_cons (pv 3) pa_nil)))
    (pss_cons (ps_for PassesOwn.never rfl (pi_range2 (by rfl) B.range (pa_cons pe_int (pa_cons (pv 2) pa_nil))) (pg_name (i := 5) nd rfl (Or.inl rfl)) (pss_one (ps_set (i := 4) nd rfl (Or.inl rfl) (pe_op op_cat (pv 4) (pe_lst (pa_cons (pv 3) (pa_cons (pe_op op_add (pv 5) pe_int) pa_nil)))))))
    (pss_cons (ps_set (i := 6) nd rfl (Or.inl rfl) (pe_call c_l_draws.ok (hr.mono (by first | exact Nat.le_refl _ | decide)) (by rfl) c_l_draws.g c_l_draws.kp c_l_draws.bd .nil pass0 (pa_cons (pv 0) (pa_cons (pv 4) pa_nil))))
    (pss_cons (ps_set (i := 7) nd rfl (Or.inr rfl) (pe_lst (pa_cons (pe_ix ix_list (pv 6) pe_int (fun _ _ => rfl)) pa_nil)))
    (pss_cons (ps_for PassesOwn.never rfl (pi_range2 (by rfl) B.range (pa_cons pe_int (pa_cons (pv 2) pa_nil))) (pg_name (i := 5) nd rfl (Or.inl rfl)) (pss_cons (ps_setLc (i := 8) rfl nd rfl rfl (sw_true rfl rfl rfl (by decide +kernel)) (pi_range1 (by rfl) B.range (pa_cons (pv 3) pa_nil)) (blkOk_by (own := [("_law_c", 9)]) (by kernel_rfl)) (fun _ _ _ _ _ => (pg_name (i := 9) nd rfl (Or.inl rfl))) (fun _ _ _ _ _ => (pts_one (PW.pt (pw_and (pt_cmpR op_notIn_seq (pv 9) (pv 7) (by rfl)) (pw_and1 (pt_cmpR (op_neD hu64) (pe_lc rfl nd (pi_list (pe_ix ix_list (pv 1) (pv 9) (fun _ _ => rfl))) (blkOk_by (own := [("_law_d", 10)]) (by kernel_rfl)) (fun _ _ _ _ _ => (pg_name (i := 10) nd rfl (Or.inl rfl))) (fun _ _ _ _ _ => (pts_one (pt_cmpR op_in_seq (pv 10) (pv 7) (by rfl)))) (fun _ _ _ _ _ => (pv 10))) (pe_lst pa_nil) (nomark _))))))) (fun _ _ _ _ _ => (pv 9)))
    (pss_one (ps_expr (pe_bm PySem.F.plainAttrs_list PySem.F.slot_list_insert PySem.F.type_list_insert mt_insert (pv 7) (pa_cons (pe_ix ix_list (pv 6) (pe_op op_mul pe_int (pv 5)) (fun _ _ => rfl)) (pa_cons (pe_ix ix_list (pv 8) (pe_op op_modN (pe_callTy call_int1 (by rfl) B.int_ (by decide +kernel) (pa_cons (pe_ix ix_list (pv 6) (pe_op op_sub (pe_op op_mul pe_int (pv 5)) pe_int) (fun _ _ => rfl)) pa_nil)) (pe_callB call_len_seq (by rfl) B.len (by decide +kernel) (pa_cons (pv 8) pa_nil))) (fun _ _ => rfl)) pa_nil)))))))
    (pss_one (ps_ret (pv 7)))))))))), (R vs H Q E h).2⟩)
abbrev s_l_outer : Stmt := top 47
theorem sc_l_outer : FnScope N_l_outer P_l_outer (defScope s_l_outer) := ⟨rfl, rfl, rfl, by decide +kernel, rfl, by decide +kernel, by decide +kernel⟩
theorem ok_l_outer {P : Program} {w : World} {K : PySem.W.Frag} {mg : Str → Option Value} {base : Heap} {C fI fL fN fS f : Addr} {fd : FuncData} (F : FunD K "_law_outer" "_law_outer" (defArgs s_l_outer) (defBody s_l_outer) (defScope s_l_outer) [] [] f fd) (B : Blt mg) (T : TrC K mg C fI fL fN fS) {f_l_pieces : Addr} {fd_l_pieces : FuncData} (c_l_pieces : Cal P w K mg base 1 "_law_pieces" P_l_pieces (sp_l_pieces K C) f_l_pieces fd_l_pieces)
    (R : Good (sp_l_outer K C) P_l_outer N_l_outer (t_l_outer K C)) : FnOk P w K mg base CX0 2 f fd P_l_outer (sp_l_outer K C) :=
  F.ok sc_l_outer (fun vs H Q E h => (R vs H Q E h).1) (fun cdv A outer s H vs Q E hr h => ⟨(t_l_outer K C), PSs.nox (by
    have nd := sc_l_outer.nd
    have hu := hu_of hr
    have hu64 := hr.units
    exact (pss_cons (ps_setLc (i := 2) rfl nd rfl rfl (sw_true rfl rfl rfl (by decide +kernel)) (pi_range1 (by rfl) B.range (pa_cons (pe_callB call_len_seq (by rfl) B.len (by decide +kernel) (pa_cons (pv 0) pa_nil)) pa_nil)) (blkOk_by (own := [("_law_c", 3)]) (by kernel_rfl)) (fun _ _ _ _ _ => (pg_name (i := 3) nd rfl (Or.inl rfl))) (fun _ _ _ _ _ => (pts_one (pt_cmpR op_notIn_seq (pv 3) (pv 1) (by rfl)))) (fun _ _ _ _ _ => (pv 3)))
    (pss_one (ps_ret (pe_callBK cr_sortedRev (by rfl) B.sorted (by decide +kernel) (pa_cons (pe_lc rfl nd (pi_list (pe_call c_l_pieces.ok (hr.mono (by first | exact Nat.le_refl _ | decide)) (by rfl) c_l_pieces.g c_l_pieces.kp c_l_pieces.bd .nil pass0 (pa_cons (pv 0) (pa_cons (pv 2) pa_nil)))) (blkOk_by (own := [("_law_piece", 4)]) (by kernel_rfl)) (fun _ _ _ _ _ => (pg_name (i := 4) nd rfl (Or.inl rfl))) (fun _ _ _ _ _ => pts_nil) (fun _ _ _ _ _ => (pe_callB call_len_seq (by rfl) B.len (by decide +kernel) (pa_cons (pv 4) pa_nil)))) pa_nil) (pk_cons pe_bl pk_nil)))))), (R vs H Q E h).2⟩)
end Bw
namespace Bw
open PySem PySem.Spec PyProof.Rows L2 Evl Bb
abbrev s_l_fair_order : Stmt := top 48
theorem sc_l_fair_order : FnScope N_l_fair_order P_l_fair_order (defScope s_l_fair_order) := ⟨rfl, rfl, rfl, by decide +kernel, rfl, by decide +kernel, by decide +kernel⟩
theorem ok_l_fair_order {P : Program} {w : World} {K : PySem.W.Frag} {mg : Str → Option Value} {base : Heap} {C fI fL fN fS f : Addr} {fd : FuncData} (F : FunD K "_law_fair_order" "_law_fair_order" (defArgs s_l_fair_order) (defBody s_l_fair_order) (defScope s_l_fair_order) [] [] f fd) (B : Blt mg) (T : TrC K mg C fI fL fN fS) {f_l_draws : Addr} {fd_l_draws : FuncData} (c_l_draws : Cal P w K mg base 2 "_law_draws" P_l_draws (sp_l_draws K C) f_l_draws fd_l_draws)
    (R : Good (sp_l_fair_order K C) P_l_fair_order N_l_fair_order (t_l_fair_order K C)) : FnOk P w K mg base CX0 3 f fd P_l_fair_order (sp_l_fair_order K C) :=
  F.ok sc_l_fair_order (fun vs H Q E h => (R vs H Q E h).1) (fun cdv A outer s H vs Q E hr h => ⟨(t_l_fair_order K C), PSs.nox (by
    have nd := sc_l_fair_order.nd
    have hu := hu_of hr
    have hu64 := hr.units
    exact (pss_cons (ps_set (i := 3) nd rfl (Or.inl rfl) (pe_call c_l_draws.ok (hr.mono (by first | exact Nat.le_refl _ | decide)) (by rfl) c_l_draws.g c_l_draws.kp c_l_draws.bd .nil pass0 (pa_cons (pv 0) (pa_cons (pe_op op_rep (pe_lst (pa_cons pe_int pa_nil)) (pv 1)) pa_nil))))
    (pss_cons (ps_set (i := 4) nd rfl (Or.inl rfl) pe_str)
    (pss_cons (ps_set (i := 5) nd rfl (Or.inl rfl) pe_int)
    (pss_cons (ps_for PassesOwn.never rfl (pi_range1 (by rfl) B.range (pa_cons (pv 1) pa_nil)) (pg_name (i := 6) nd rfl (Or.inl rfl)) (pss_cons (ps_set (i := 7) nd rfl (Or.inl rfl) (pe_op op_sub (pv 6) (pv 5)))
    (pss_cons (ps_set (i := 8) nd rfl (Or.inl rfl) (pe_and (pe_cmpR op_lt (pv 7) (pe_op op_sub (pv 1) (pv 2)) (nomark _)) (pe_one (pe_or (pe_cmpR op_eq (pv 5) (pv 2) (nomark _)) (pe_one (pe_cmpR op_gt (pv 5) (pv 7) (nomark _)))))))
    (pss_one (ps_if (PW.pt (pw_and (pt_cmpR op_lt (pv 5) (pv 2) (nomark _)) (pw_and1 (PW.pt (pw_or (pt_cmpR op_eq (pe_ix ix_list (pv 3) (pv 6) (fun _ _ => rfl)) pe_int (nomark _)) (pw_or1 (pt_not (pt_val (pv 8))))))))) (pss_cons (ps_set (i := 4) nd rfl (Or.inl rfl) (pe_op op_add_str pe_str (pv 4)))
    (pss_one (ps_set (i := 5) nd rfl (Or.inl rfl) (pe_op op_add (pv 5) pe_int)))) (pss_one (ps_set (i := 4) nd rfl (Or.inl rfl) (pe_op op_add_str pe_str (pv 4)))))))))
    (pss_one (ps_ret (pv 4)))))))), (R vs H Q E h).2⟩)
abbrev s_l_stronghold : Stmt := top 49
theorem sc_l_stronghold : FnScope N_l_stronghold P_l_stronghold (defScope s_l_stronghold) := ⟨rfl, rfl, rfl, by decide +kernel, rfl, by decide +kernel, by decide +kernel⟩
theorem ok_l_stronghold {P : Program} {w : World} {K : PySem.W.Frag} {mg : Str → Option Value} {base : Heap} {C fI fL fN fS f : Addr} {fd : FuncData} (F : FunD K "_law_stronghold" "_law_stronghold" (defArgs s_l_stronghold) (defBody s_l_stronghold) (defScope s_l_stronghold) [] [] f fd) (B : Blt mg) (T : TrC K mg C fI fL fN fS) {f_l_pieces : Addr} {fd_l_pieces : FuncData} (c_l_pieces : Cal P w K mg base 1 "_law_pieces" P_l_pieces (sp_l_pieces K C) f_l_pieces fd_l_pieces) {f_l_sizes : Addr} {fd_l_sizes : FuncData} (c_l_sizes : Cal P w K mg base 2 "_law_sizes" P_l_sizes (sp_l_sizes K C) f_l_sizes fd_l_sizes)
    (R : Good (sp_l_stronghold K C) P_l_stronghold N_l_stronghold (t_l_stronghold K C)) : FnOk P w K mg base CX0 3 f fd P_l_stronghold (sp_l_stronghold K C) :=
  F.ok sc_l_stronghold (fun vs H Q E h => (R vs H Q E h).1) (fun cdv A outer s H vs Q E hr h => ⟨(t_l_stronghold K C), PSs.nox (by
    have nd := sc_l_stronghold.nd
    have hu := hu_of hr
    have hu64 := hr.units
    exact (pss_cons (ps_set (i := 3) nd rfl (Or.inr rfl) (pe_listRg rfl (by rfl) B.list_ (prg_1 (by rfl) B.range (pe_callB call_len_seq (by rfl) B.len (by decide +kernel) (pa_cons (pv 0) pa_nil)))))
    (pss_cons (ps_setLc (i := 4) rfl nd rfl rfl (sw_true rfl rfl rfl (by decide +kernel)) (pi_list (pv 3)) (blkOk_by (own := [("_law_c", 9)]) (by kernel_rfl)) (fun _ _ _ _ _ => (pg_name (i := 9) nd rfl (Or.inl rfl))) (fun _ _ _ _ _ => (pts_one (pt_cmpR op_le (pe_callB (cr_max rfl) (by rfl) B.max_ (by decide +kernel) (pa_cons (pe_op op_cat (pe_lst (pa_cons pe_int pa_nil)) (pe_call c_l_sizes.ok (hr.mono (by first | exact Nat.le_refl _ | decide)) (by rfl) c_l_sizes.g c_l_sizes.kp c_l_sizes.bd .nil pass0 (pa_cons (pv 0) (pa_cons (pv 3) (pa_cons (pv 9) pa_nil))))) pa_nil)) (pv 2) (nomark _)))) (fun _ _ _ _ _ => (pv 9)))
    (pss_cons (ps_if (pt_cmpR (op_neD hu64) (pv 4) (pe_lst pa_nil) (nomark _)) (pss_one (ps_ret (pe_tup (pa_cons pe_str (pa_cons (pv 4) pa_nil))))) pss_nil)
    (pss_cons (ps_set (i := 5) nd rfl (Or.inr rfl) (pe_lst pa_nil))
    (pss_cons (ps_for PassesOwn.never rfl (pi_list (pv 1)) (pg_name (i := 6) nd rfl (Or.inr rfl)) (pss_cons (ps_setLc (i := 7) rfl nd rfl rfl (sw_true rfl rfl rfl (by decide +kernel)) (pi_list (pv 3)) (blkOk_by (own := [("_law_c", 9)]) (by kernel_rfl)) (fun _ _ _ _ _ => (pg_name (i := 9) nd rfl (Or.inl rfl))) (fun _ _ _ _ _ => (pts_one (pt_cmpR op_ne (pv 9) (pe_ix ix_tup (pv 6) pe_int (fun _ _ => rfl)) (nomark _)))) (fun _ _ _ _ _ => (pv 9)))
    (pss_cons (ps_set (i := 8) nd rfl (Or.inl rfl) (pe_ix ix_list (pe_lc rfl nd (pi_list (pe_call c_l_pieces.ok (hr.mono (by first | exact Nat.le_refl _ | decide)) (by rfl) c_l_pieces.g c_l_pieces.kp c_l_pieces.bd .nil pass0 (pa_cons (pv 0) (pa_cons (pv 7) pa_nil)))) (blkOk_by (own := [("_law_piece", 10)]) (by kernel_rfl)) (fun _ _ _ _ _ => (pg_name (i := 10) nd rfl (Or.inl rfl))) (fun _ _ _ _ _ => (pts_one (pt_cmpR op_in_seq (pe_ix ix_tup (pv 6) pe_int (fun _ _ => rfl)) (pv 10) (by rfl)))) (fun _ _ _ _ _ => (pe_callB call_len_seq (by rfl) B.len (by decide +kernel) (pa_cons (pv 10) pa_nil)))) pe_int (fun _ _ => rfl)))
    (pss_one (ps_if (PW.pt (pw_and (pt_cmpR op_gt (pv 8) (pv 2) (nomark _)) (pw_and1 (pt_cmpR op_gt (pe_op op_sub (pe_callB call_len_seq (by rfl) B.len (by decide +kernel) (pa_cons (pv 3) pa_nil)) (pv 8)) (pv 2) (nomark _))))) (pss_one (ps_set (i := 5) nd rfl (Or.inr rfl) (pe_op op_cat (pv 5) (pe_lst (pa_cons (pe_ix ix_tup (pv 6) pe_int (fun _ _ => rfl)) (pa_cons (pe_ix ix_tup (pv 6) pe_int (fun _ _ => rfl)) pa_nil)))))) pss_nil)))))
    (pss_one (ps_ret (pe_tup (pa_cons pe_str (pa_cons (pe_lc rfl nd (pi_list (pv 3)) (blkOk_by (own := [("_law_c", 9)]) (by kernel_rfl)) (fun _ _ _ _ _ => (pg_name (i := 9) nd rfl (Or.inl rfl))) (fun _ _ _ _ _ => (pts_one (pt_cmpR op_in_seq (pv 9) (pv 5) (by rfl)))) (fun _ _ _ _ _ => (pv 9))) pa_nil))))))))))), (R vs H Q E h).2⟩)
abbrev s_l_missing : Stmt := top 51
theorem sc_l_missing : FnScope N_l_missing P_l_missing (defScope s_l_missing) := ⟨rfl, rfl, rfl, by decide +kernel, rfl, by decide +kernel, by decide +kernel⟩
theorem ok_l_missing {P : Program} {w : World} {K : PySem.W.Frag} {mg : Str → Option Value} {base : Heap} {C fI fL fN fS f : Addr} {fd : FuncData} (F : FunD K "_law_missing" "_law_missing" (defArgs s_l_missing) (defBody s_l_missing) (defScope s_l_missing) [] [] f fd) (B : Blt mg) (T : TrC K mg C fI fL fN fS) {f_l_pieces : Addr} {fd_l_pieces : FuncData} (c_l_pieces : Cal P w K mg base 1 "_law_pieces" P_l_pieces (sp_l_pieces K C) f_l_pieces fd_l_pieces)
    (R : Good (sp_l_missing K C) P_l_missing N_l_missing (t_l_missing K C)) : FnOk P w K mg base CX0 2 f fd P_l_missing (sp_l_missing K C) :=
  F.ok sc_l_missing (fun vs H Q E h => (R vs H Q E h).1) (fun cdv A outer s H vs Q E hr h => ⟨(t_l_missing K C), PSs.nox (by
    have nd := sc_l_missing.nd
    have hu := hu_of hr
    have hu64 := hr.units
    exact (pss_cons (ps_set (i := 3) nd rfl (Or.inr rfl) (pe_ix ix_tup (pv 1) pe_int (fun _ _ => rfl)))
    (pss_cons (ps_if (pt_cmpR op_eq (pe_ix ix_tup (pv 1) pe_int (fun _ _ => rfl)) pe_str (nomark _)) (pss_cons (ps_set (i := 4) nd rfl (Or.inl rfl) (pe_call c_l_pieces.ok (hr.mono (by first | exact Nat.le_refl _ | decide)) (by rfl) c_l_pieces.g c_l_pieces.kp c_l_pieces.bd .nil pass0 (pa_cons (pv 0) (pa_cons (pe_lc rfl nd (pi_range1 (by rfl) B.range (pa_cons (pe_callB call_len_seq (by rfl) B.len (by decide +kernel) (pa_cons (pv 0) pa_nil)) pa_nil)) (blkOk_by (own := [("_law_c", 7)]) (by kernel_rfl)) (fun _ _ _ _ _ => (pg_name (i := 7) nd rfl (Or.inl rfl))) (fun _ _ _ _ _ => (pts_one (pt_cmpR op_notIn_seq (pv 7) (pv 3) (by rfl)))) (fun _ _ _ _ _ => (pv 7))) pa_nil))))
    (pss_cons (ps_if (pt_cmpR (op_eqD hu64) (pv 4) (pe_lst pa_nil) (nomark _)) (pss_one (ps_ret (pe_callTy call_list_of (by rfl) B.list_ (by decide +kernel) (pa_cons (pv 3) pa_nil)))) pss_nil)
    (pss_one (ps_ret (pe_ix ix_list (pv 4) (pe_op op_modN (pe_callTy call_int1 (by rfl) B.int_ (by decide +kernel) (pa_cons (pv 2) pa_nil)) (pe_callB call_len_seq (by rfl) B.len (by decide +kernel) (pa_cons (pv 4) pa_nil))) (fun _ _ => rfl)))))) pss_nil)
    (pss_cons (ps_setLc (i := 5) rfl nd rfl rfl (sw_true rfl rfl rfl (by decide +kernel)) (pi_list (pv 3)) (blkOk_by (own := [("_law_c", 7)]) (by kernel_rfl)) (fun _ _ _ _ _ => (pg_name (i := 7) nd rfl (Or.inl rfl))) (fun _ _ _ _ _ => (pts_one (pt_cmpR op_eq (pe_callB call_len_seq (by rfl) B.len (by decide +kernel) (pa_cons (pe_lc rfl nd (pi_list (pe_ix ix_list (pv 0) (pv 7) (fun _ _ => rfl))) (blkOk_by (own := [("_law_d", 8)]) (by kernel_rfl)) (fun _ _ _ _ _ => (pg_name (i := 8) nd rfl (Or.inl rfl))) (fun _ _ _ _ _ => (pts_one (pt_cmpR op_in_seq (pv 8) (pv 3) (by rfl)))) (fun _ _ _ _ _ => (pv 8))) pa_nil)) pe_int (nomark _)))) (fun _ _ _ _ _ => (pv 7)))
    (pss_cons (ps_set (i := 6) nd rfl (Or.inr rfl) (pe_ix ix_list (pv 5) (pe_op op_modN (pe_callTy call_int1 (by rfl) B.int_ (by decide +kernel) (pa_cons (pv 2) pa_nil)) (pe_callB call_len_seq (by rfl) B.len (by decide +kernel) (pa_cons (pv 5) pa_nil))) (fun _ _ => rfl)))
    (pss_one (ps_ret (pe_lc rfl nd (pi_list (pv 3)) (blkOk_by (own := [("_law_c", 7)]) (by kernel_rfl)) (fun _ _ _ _ _ => (pg_name (i := 7) nd rfl (Or.inl rfl))) (fun _ _ _ _ _ => (pts_one (pt_cmpR op_ne (pv 7) (pv 6) (nomark _)))) (fun _ _ _ _ _ => (pv 7)))))))))), (R vs H Q E h).2⟩)
abbrev s_l_holding : Stmt := top 52
theorem sc_l_holding : FnScope N_l_holding P_l_holding (defScope s_l_holding) := ⟨rfl, rfl, rfl, by decide +kernel, rfl, by decide +kernel, by decide +kernel⟩
theorem ok_l_holding {P : Program} {w : World} {K : PySem.W.Frag} {mg : Str → Option Value} {base : Heap} {C fI fL fN fS f : Addr} {fd : FuncData} (F : FunD K "_law_holding" "_law_holding" (defArgs s_l_holding) (defBody s_l_holding) (defScope s_l_holding) [] [] f fd) (B : Blt mg) (T : TrC K mg C fI fL fN fS)
    (R : Good (sp_l_holding K C) P_l_holding N_l_holding (t_l_holding K C)) : FnOk P w K mg base CX0 1 f fd P_l_holding (sp_l_holding K C) :=
  F.ok sc_l_holding (fun vs H Q E h => (R vs H Q E h).1) (fun cdv A outer s H vs Q E hr h => ⟨(t_l_holding K C), PSs.nox (by
    have nd := sc_l_holding.nd
    have hu := hu_of hr
    have hu64 := hr.units
    exact (pss_cons (ps_set (i := 2) nd rfl (Or.inl rfl) (pe_ix ix_tup (pv 0) pe_int (fun _ _ => rfl)))
    (pss_cons (ps_if (pt_cmpR op_eq (pe_ix ix_tup (pv 0) pe_int (fun _ _ => rfl)) pe_str (nomark _)) (pss_one (ps_ret (pe_lst (pa_cons (pe_ix ix_list (pv 2) (pe_op op_modN (pe_callTy call_int1 (by rfl) B.int_ (by decide +kernel) (pa_cons (pv 1) pa_nil)) (pe_callB call_len_seq (by rfl) B.len (by decide +kernel) (pa_cons (pv 2) pa_nil))) (fun _ _ => rfl)) pa_nil)))) pss_nil)
    (pss_one (ps_ret (pe_callTy call_list_of (by rfl) B.list_ (by decide +kernel) (pa_cons (pv 2) pa_nil))))))), (R vs H Q E h).2⟩)
abbrev s_l_meets : Stmt := top 53
theorem sc_l_meets : FnScope N_l_meets P_l_meets (defScope s_l_meets) := ⟨rfl, rfl, rfl, by decide +kernel, rfl, by decide +kernel, by decide +kernel⟩
theorem ok_l_meets {P : Program} {w : World} {K : PySem.W.Frag} {mg : Str → Option Value} {base : Heap} {C fI fL fN fS f : Addr} {fd : FuncData} (F : FunD K "_law_meets" "_law_meets" (defArgs s_l_meets) (defBody s_l_meets) (defScope s_l_meets) [] [] f fd) (B : Blt mg) (T : TrC K mg C fI fL fN fS)
    (R : Good (sp_l_meets K C) P_l_meets N_l_meets (t_l_meets K C)) : FnOk P w K mg base CX0 1 f fd P_l_meets (sp_l_meets K C) :=
  F.ok sc_l_meets (fun vs H Q E h => (R vs H Q E h).1) (fun cdv A outer s H vs Q E hr h => ⟨(t_l_meets K C), PSs.nox (by
    have nd := sc_l_meets.nd
    have hu := hu_of hr
    have hu64 := hr.units
    exact (pss_cons (ps_if (pt_cmpR op_eq (pe_ix ix_tup (pv 0) pe_int (fun _ _ => rfl)) pe_str (nomark _)) (pss_one (ps_ret (pe_cmpR (op_neD hu64) (pe_lc rfl nd (pi_list (pv 1)) (blkOk_by (own := [("_law_c", 2)]) (by kernel_rfl)) (fun _ _ _ _ _ => (pg_name (i := 2) nd rfl (Or.inl rfl))) (fun _ _ _ _ _ => (pts_one (pt_cmpR op_in_seq (pv 2) (pe_ix ix_tup (pv 0) pe_int (fun _ _ => rfl)) (by rfl)))) (fun _ _ _ _ _ => (pv 2))) (pe_lst pa_nil) (nomark _)))) pss_nil)
    (pss_one (ps_ret (pe_cmpR (op_eqD hu64) (pe_lc rfl nd (pi_list (pe_ix ix_tup (pv 0) pe_int (fun _ _ => rfl))) (blkOk_by (own := [("_law_c", 2)]) (by kernel_rfl)) (fun _ _ _ _ _ => (pg_name (i := 2) nd rfl (Or.inl rfl))) (fun _ _ _ _ _ => (pts_one (pt_cmpR op_notIn_seq (pv 2) (pv 1) (by rfl)))) (fun _ _ _ _ _ => (pv 2))) (pe_lst pa_nil) (nomark _)))))), (R vs H Q E h).2⟩)
abbrev s_l_judged : Stmt := top 54
theorem sc_l_judged : FnScope N_l_judged P_l_judged (defScope s_l_judged) := ⟨rfl, rfl, rfl, by decide +kernel, rfl, by decide +kernel, by decide +kernel⟩
theorem ok_l_judged {P : Program} {w : World} {K : PySem.W.Frag} {mg : Str → Option Value} {base : Heap} {C fI fL fN fS f : Addr} {fd : FuncData} (F : FunD K "_law_judged" "_law_judged" (defArgs s_l_judged) (defBody s_l_judged) (defScope s_l_judged) [] [] f fd) (B : Blt mg) (T : TrC K mg C fI fL fN fS) {f_l_like : Addr} {fd_l_like : FuncData} (c_l_like : Cal P w K mg base 10 "_law_like" P_l_like (sp_l_like K C) f_l_like fd_l_like) {f_l_told : Addr} {fd_l_told : FuncData} (c_l_told : Cal P w K mg base 5 "_law_told" P_l_told (sp_l_told K C) f_l_told fd_l_told)
    (R : Good (sp_l_judged K C) P_l_judged N_l_judged (t_l_judged K C)) : FnOk P w K mg base CX0 11 f fd P_l_judged (sp_l_judged K C) :=
  F.ok sc_l_judged (fun vs H Q E h => (R vs H Q E h).1) (fun cdv A outer s H vs Q E hr h => ⟨(t_l_judged K C), PSs.nox (by
    have nd := sc_l_judged.nd
    have hu := hu_of hr
    have hu64 := hr.units
    exact (pss_cons (ps_set (i := 3) nd rfl (Or.inl rfl) (pe_call c_l_told.ok (hr.mono (by first | exact Nat.le_refl _ | decide)) (by rfl) c_l_told.g c_l_told.kp c_l_told.bd .nil pass0 (pa_cons (pv 0) (pa_cons (pv 1) pa_nil))))
    (pss_cons (ps_if (pt_not (pt_val (pe_call c_l_like.ok (hr.mono (by first | exact Nat.le_refl _ | decide)) (by rfl) c_l_like.g c_l_like.kp c_l_like.bd .nil pass0 (pa_cons (pv 3) (pa_cons (pe_tup (pa_cons pe_str (pa_cons (pv 2) pa_nil))) pa_nil))))) (pss_one (ps_ret pe_bl)) pss_nil)
    (pss_cons (ps_set (i := 4) nd rfl (Or.inl rfl) (pe_ix ix_seq (pe_ix ix_tup (pv 3) pe_int (fun _ _ => rfl)) pe_int (fun _ _ => rfl)))
    (pss_cons (ps_expr (pe_bm0 PySem.F.plainAttrs_list PySem.F.slot_list_reverse PySem.F.type_list_reverse mt_reverse (pv 4)))
    (pss_cons (ps_expr (pe_bm PySem.F.plainAttrs_list PySem.F.slot_list_append PySem.F.type_list_append mt_append (pv 4) (pa_cons pe_int pa_nil)))
    (pss_one (ps_ret (pe_call c_l_like.ok (hr.mono (by first | exact Nat.le_refl _ | decide)) (by rfl) c_l_like.g c_l_like.kp c_l_like.bd .nil pass0 (pa_cons (pe_call c_l_told.ok (hr.mono (by first | exact Nat.le_refl _ | decide)) (by rfl) c_l_told.g c_l_told.kp c_l_told.bd .nil pass0 (pa_cons (pv 0) (pa_cons (pv 1) pa_nil))) (pa_cons (pe_tup (pa_cons pe_str (pa_cons (pv 2) pa_nil))) pa_nil))))))))))), (R vs H Q E h).2⟩)
end Bw
namespace Bw
open PySem PySem.Spec PyProof.Rows L2 Evl Bb
abbrev s_l_large_agrees : Stmt := top 55
theorem sc_l_large_agrees : FnScope N_l_large_agrees P_l_large_agrees (defScope s_l_large_agrees) := ⟨rfl, rfl, rfl, by decide +kernel, rfl, by decide +kernel, by decide +kernel⟩
theorem ok_l_large_agrees {P : Program} {w : World} {K : PySem.W.Frag} {mg : Str → Option Value} {base : Heap} {C fI fL fN fS f : Addr} {fd : FuncData} (F : FunD K "_law_large_agrees" "_law_large_agrees" (defArgs s_l_large_agrees) (defBody s_l_large_agrees) (defScope s_l_large_agrees) [] [] f fd) (B : Blt mg) (T : TrC K mg C fI fL fN fS) {f_l_like : Addr} {fd_l_like : FuncData} (c_l_like : Cal P w K mg base 10 "_law_like" P_l_like (sp_l_like K C) f_l_like fd_l_like) {f_strongholds : Addr} {fd_strongholds : FuncData} (c_strongholds : Cal P w K mg base 4 "strongholds" P_strongholds (sp_strongholds K C) f_strongholds fd_strongholds) {fd_Tree_init : FuncData} (c_Tree_init : CalM P w K mg base 3 P_Tree_init (sp_Tree_init K C) fI fd_Tree_init) {f_l_draws : Addr} {fd_l_draws : FuncData} (c_l_draws : Cal P w K mg base 2 "_law_draws" P_l_draws (sp_l_draws K C) f_l_draws fd_l_draws)
    (R : Good (sp_l_large_agrees K C) P_l_large_agrees N_l_large_agrees (t_l_large_agrees K C)) : FnOk P w K mg base CX0 11 f fd P_l_large_agrees (sp_l_large_agrees K C) :=
  F.ok sc_l_large_agrees (fun vs H Q E h => (R vs H Q E h).1) (fun cdv A outer s H vs Q E hr h => ⟨(t_l_large_agrees K C), PSs.nox (by
    have nd := sc_l_large_agrees.nd
    have hu := hu_of hr
    have hu64 := hr.units
    exact (pss_cons (ps_set (i := 1) nd rfl (Or.inr rfl) (pe_call c_l_draws.ok (hr.mono (by first | exact Nat.le_refl _ | decide)) (by rfl) c_l_draws.g c_l_draws.kp c_l_draws.bd .nil pass0 (pa_cons (pv 0) (pa_cons (pe_lst (pa_cons pe_int (pa_cons pe_int (pa_cons pe_int (pa_cons pe_int pa_nil))))) pa_nil))))
    (pss_cons (ps_if (pt_cmpR op_gt (pe_ix ix_list (pv 1) pe_int (fun _ _ => rfl)) pe_int (nomark _)) (pss_one (ps_ret pe_bl)) pss_nil)
    (pss_cons (ps_set (i := 2) nd rfl (Or.inr rfl) (pe_op op_add pe_int (pe_ix ix_list (pv 1) pe_int (fun _ _ => rfl))))
    (pss_cons (ps_set (i := 3) nd rfl (Or.inr rfl) (pe_op op_modN (pe_callTy call_int1 (by rfl) B.int_ (by decide +kernel) (pa_cons (pe_ix ix_list (pv 1) pe_int (fun _ _ => rfl)) pa_nil)) (pv 2)))
    (pss_cons (ps_setLc (i := 4) rfl nd rfl rfl (sw_true rfl rfl rfl (by decide +kernel)) (pi_range1 (by rfl) B.range (pa_cons (pe_op op_sub (pv 2) pe_int) pa_nil)) (blkOk_by (own := [("_law_k", 9)]) (by kernel_rfl)) (fun _ _ _ _ _ => (pg_name (i := 9) nd rfl (Or.inl rfl))) (fun _ _ _ _ _ => pts_nil) (fun _ _ _ _ _ => (pe_tup (pa_cons (pe_op op_modN (pe_callTy call_int1 (by rfl) B.int_ (by decide +kernel) (pa_cons (pe_op op_add (pv 9) (pe_ix ix_list (pv 1) pe_int (fun _ _ => rfl))) pa_nil)) (pv 2)) (pa_cons (pe_op op_modN (pe_callTy call_int1 (by rfl) B.int_ (by decide +kernel) (pa_cons (pe_op op_add (pe_op op_add (pv 9) pe_int) (pe_ix ix_list (pv 1) pe_int (fun _ _ => rfl))) pa_nil)) (pv 2)) pa_nil)))))
    (pss_cons (ps_set (i := 5) nd rfl (Or.inl rfl) pe_str)
    (pss_cons (ps_setLc (i := 6) rfl nd rfl rfl (sw_true rfl rfl rfl (by decide +kernel)) (pi_range1 (by rfl) B.range (pa_cons (pv 2) pa_nil)) (blkOk_by (own := [("_law_k", 9)]) (by kernel_rfl)) (fun _ _ _ _ _ => (pg_name (i := 9) nd rfl (Or.inl rfl))) (fun _ _ _ _ _ => (pts_one (pt_cmpR op_le (pe_callB (call_max2 rfl) (by rfl) B.max_ (by decide +kernel) (pa_cons (pv 9) (pa_cons (pe_op op_sub (pe_op op_sub (pv 2) pe_int) (pv 9)) pa_nil))) (pv 3) (nomark _)))) (fun _ _ _ _ _ => (pv 9)))
    (pss_cons (ps_if (pt_cmpR (op_eqD hu64) (pv 6) (pe_lst pa_nil) (nomark _)) (pss_cons (ps_set (i := 5) nd rfl (Or.inl rfl) pe_str)
    (pss_cons (ps_set (i := 7) nd rfl (Or.inr rfl) (pe_lc rfl nd (pi_range1 (by rfl) B.range (pa_cons (pe_op op_sub (pv 2) pe_int) pa_nil)) (blkOk_by (own := [("_law_k", 9)]) (by kernel_rfl)) (fun _ _ _ _ _ => (pg_name (i := 9) nd rfl (Or.inl rfl))) (fun _ _ _ _ _ => (pts_one (PW.pt (pw_and (pt_cmpR op_gt (pe_op op_add (pv 9) pe_int) (pv 3) (nomark _)) (pw_and1 (pt_cmpR op_gt (pe_op op_sub (pe_op op_sub (pv 2) pe_int) (pv 9)) (pv 3) (nomark _))))))) (fun _ _ _ _ _ => (pv 9))))
    (pss_one (ps_setLc (i := 6) rfl nd rfl rfl (sw_true rfl rfl rfl (by decide +kernel)) (pi_range1 (by rfl) B.range (pa_cons (pv 2) pa_nil)) (blkOk_by (own := [("_law_k", 9)]) (by kernel_rfl)) (fun _ _ _ _ _ => (pg_name (i := 9) nd rfl (Or.inl rfl))) (fun _ _ _ _ _ => (pts_one (PW.pt (pw_or (pt_cmpR op_in_seq (pv 9) (pv 7) (by rfl)) (pw_or1 (pt_cmpR op_in_seq (pe_op op_sub (pv 9) pe_int) (pv 7) (by rfl))))))) (fun _ _ _ _ _ => (pv 9)))))) pss_nil)
    (pss_cons (ps_set (i := 8) nd rfl (Or.inl rfl) (pe_tup (pa_cons (pv 5) (pa_cons (pe_callB cr_sortedI (by rfl) B.sorted (by decide +kernel) (pa_cons (pe_lc rfl nd (pi_list (pv 6)) (blkOk_by (own := [("_law_k", 9)]) (by kernel_rfl)) (fun _ _ _ _ _ => (pg_name (i := 9) nd rfl (Or.inl rfl))) (fun _ _ _ _ _ => pts_nil) (fun _ _ _ _ _ => (pe_op op_modN (pe_callTy call_int1 (by rfl) B.int_ (by decide +kernel) (pa_cons (pe_op op_add (pv 9) (pe_ix ix_list (pv 1) pe_int (fun _ _ => rfl))) pa_nil)) (pv 2)))) pa_nil)) pa_nil))))
    (pss_one (ps_ret (pe_call c_l_like.ok (hr.mono (by first | exact Nat.le_refl _ | decide)) (by rfl) c_l_like.g c_l_like.kp c_l_like.bd .nil pass0 (pa_cons (pe_call c_strongholds.ok (hr.mono (by first | exact Nat.le_refl _ | decide)) (by rfl) c_strongholds.g c_strongholds.kp c_strongholds.bd .nil pass0 (pa_cons (pe_make T.mkTree c_Tree_init.ok (hr.mono (by first | exact Nat.le_refl _ | decide)) (by rfl) T.gTree c_Tree_init.bd .nil pass0 (pa_cons (pv 2) (pa_cons (pv 4) pa_nil))) (pa_cons (pv 3) pa_nil))) (pa_cons (pv 8) pa_nil))))))))))))))), (R vs H Q E h).2⟩)
abbrev s_law : Stmt := top 56
theorem sc_law : FnScope N_law P_law (defScope s_law) := ⟨rfl, rfl, rfl, by decide +kernel, rfl, by decide +kernel, by decide +kernel⟩
theorem ok_law {P : Program} {w : World} {K : PySem.W.Frag} {mg : Str → Option Value} {base : Heap} {C fI fL fN fS f : Addr} {fd : FuncData} (F : FunD K "law" "law" (defArgs s_law) (defBody s_law) (defScope s_law) [] [] f fd) (B : Blt mg) (T : TrC K mg C fI fL fN fS) {f_l_like : Addr} {fd_l_like : FuncData} (c_l_like : Cal P w K mg base 10 "_law_like" P_l_like (sp_l_like K C) f_l_like fd_l_like) {fd_Tree_neighbours : FuncData} (c_Tree_neighbours : CalM P w K mg base 1 P_Tree_neighbours (sp_Tree_neighbours K C) fN fd_Tree_neighbours) {fd_Tree_links : FuncData} (c_Tree_links : CalM P w K mg base 1 P_Tree_links (sp_Tree_links K C) fL fd_Tree_links) {f_region_fate : Addr} {fd_region_fate : FuncData} (c_region_fate : Cal P w K mg base 6 "region_fate" P_region_fate (sp_region_fate K C) f_region_fate fd_region_fate) {f_l_fair_order : Addr} {fd_l_fair_order : FuncData} (c_l_fair_order : Cal P w K mg base 3 "_law_fair_order" P_l_fair_order (sp_l_fair_order K C) f_l_fair_order fd_l_fair_order) {f_l_cell : Addr} {fd_l_cell : FuncData} (c_l_cell : Cal P w K mg base 1 "_law_cell" P_l_cell (sp_l_cell K C) f_l_cell fd_l_cell) {f_l_outer : Addr} {fd_l_outer : FuncData} (c_l_outer : Cal P w K mg base 2 "_law_outer" P_l_outer (sp_l_outer K C) f_l_outer fd_l_outer) {f_l_meets : Addr} {fd_l_meets : FuncData} (c_l_meets : Cal P w K mg base 1 "_law_meets" P_l_meets (sp_l_meets K C) f_l_meets fd_l_meets) {f_l_missing : Addr} {fd_l_missing : FuncData} (c_l_missing : Cal P w K mg base 2 "_law_missing" P_l_missing (sp_l_missing K C) f_l_missing fd_l_missing) {f_l_holding : Addr} {fd_l_holding : FuncData} (c_l_holding : Cal P w K mg base 1 "_law_holding" P_l_holding (sp_l_holding K C) f_l_holding fd_l_holding) {f_l_grown : Addr} {fd_l_grown : FuncData} (c_l_grown : Cal P w K mg base 3 "_law_grown" P_l_grown (sp_l_grown K C) f_l_grown fd_l_grown) {f_l_judged : Addr} {fd_l_judged : FuncData} (c_l_judged : Cal P w K mg base 11 "_law_judged" P_l_judged (sp_l_judged K C) f_l_judged fd_l_judged) {f_l_stronghold : Addr} {fd_l_stronghold : FuncData} (c_l_stronghold : Cal P w K mg base 3 "_law_stronghold" P_l_stronghold (sp_l_stronghold K C) f_l_stronghold fd_l_stronghold) {f_l_told : Addr} {fd_l_told : FuncData} (c_l_told : Cal P w K mg base 5 "_law_told" P_l_told (sp_l_told K C) f_l_told fd_l_told) {fd_Tree_init : FuncData} (c_Tree_init : CalM P w K mg base 3 P_Tree_init (sp_Tree_init K C) fI fd_Tree_init) {f_l_near : Addr} {fd_l_near : FuncData} (c_l_near : Cal P w K mg base 1 "_law_near" P_l_near (sp_l_near K C) f_l_near fd_l_near) {f_l_tree : Addr} {fd_l_tree : FuncData} (c_l_tree : Cal P w K mg base 3 "_law_tree" P_l_tree (sp_l_tree K C) f_l_tree fd_l_tree) {f_l_draws : Addr} {fd_l_draws : FuncData} (c_l_draws : Cal P w K mg base 2 "_law_draws" P_l_draws (sp_l_draws K C) f_l_draws fd_l_draws) {f_l_large_agrees : Addr} {fd_l_large_agrees : FuncData} (c_l_large_agrees : Cal P w K mg base 11 "_law_large_agrees" P_l_large_agrees (sp_l_large_agrees K C) f_l_large_agrees fd_l_large_agrees)
    (R : Good (sp_law K C) P_law N_law (t_law K C)) : FnOk P w K mg base CX0 12 f fd P_law (sp_law K C) :=
  F.ok sc_law (fun vs H Q E h => (R vs H Q E h).1) (fun cdv A outer s H vs Q E hr h => ⟨(t_law K C), PSs.nox (by
    have nd := sc_law.nd
    have hu := hu_of hr
    have hu64 := hr.units
    exact (pss_cons (ps_if (pt_not (pt_val (pe_call c_l_large_agrees.ok (hr.mono (by first | exact Nat.le_refl _ | decide)) (by rfl) c_l_large_agrees.g c_l_large_agrees.kp c_l_large_agrees.bd .nil pass0 (pa_cons (pe_op op_add (pe_call c_l_cell.ok (hr.mono (by first | exact Nat.le_refl _ | decide)) (by rfl) c_l_cell.g c_l_cell.kp c_l_cell.bd .nil pass0 (pa_cons (pv 0) (pa_cons pe_int pa_nil))) (pe_op op_modN (pe_callTy call_int1 (by rfl) B.int_ (by decide +kernel) (pa_cons (pe_call c_l_cell.ok (hr.mono (by first | exact Nat.le_refl _ | decide)) (by rfl) c_l_cell.g c_l_cell.kp c_l_cell.bd .nil pass0 (pa_cons (pv 0) (pa_cons pe_int pa_nil))) pa_nil)) pe_int)) pa_nil)))) (pss_one (ps_ret pe_bl)) pss_nil)
    (pss_cons (ps_set (i := 1) nd rfl (Or.inl rfl) (pe_call c_l_draws.ok (hr.mono (by first | exact Nat.le_refl _ | decide)) (by rfl) c_l_draws.g c_l_draws.kp c_l_draws.bd .nil pass0 (pa_cons (pe_call c_l_cell.ok (hr.mono (by first | exact Nat.le_refl _ | decide)) (by rfl) c_l_cell.g c_l_cell.kp c_l_cell.bd .nil pass0 (pa_cons (pv 0) (pa_cons pe_int pa_nil))) (pa_cons (pe_lst (pa_cons pe_int (pa_cons pe_int (pa_cons pe_int (pa_cons pe_int (pa_cons pe_int (pa_cons pe_int pa_nil))))))) pa_nil))))
    (pss_cons (ps_set (i := 2) nd rfl (Or.inl rfl) (pe_call c_l_tree.ok (hr.mono (by first | exact Nat.le_refl _ | decide)) (by rfl) c_l_tree.g c_l_tree.kp c_l_tree.bd .nil pass0 (pa_cons (pe_call c_l_cell.ok (hr.mono (by first | exact Nat.le_refl _ | decide)) (by rfl) c_l_cell.g c_l_cell.kp c_l_cell.bd .nil pass0 (pa_cons (pv 0) (pa_cons pe_int pa_nil))) (pa_cons (pe_ix ix_list (pe_lst (pa_cons pe_int (pa_cons pe_int pa_nil))) (pe_callTy call_int1 (by rfl) B.int_ (by decide +kernel) (pa_cons (pe_cmpR op_eq (pe_ix ix_list (pv 1) pe_int (fun _ _ => rfl)) pe_int (nomark _)) pa_nil)) (fun _ _ => rfl)) pa_nil))))
    (pss_cons (ps_set (i := 3) nd rfl (Or.inl rfl) (pe_ix ix_tup (pv 2) pe_int (fun _ _ => rfl)))
    (pss_cons (ps_set (i := 4) nd rfl (Or.inl rfl) (pe_call c_l_near.ok (hr.mono (by first | exact Nat.le_refl _ | decide)) (by rfl) c_l_near.g c_l_near.kp c_l_near.bd .nil pass0 (pa_cons (pv 3) (pa_cons (pe_ix ix_tup (pv 2) pe_int (fun _ _ => rfl)) pa_nil))))
    (pss_cons (ps_set (i := 5) nd rfl (Or.inr rfl) (pe_make T.mkTree c_Tree_init.ok (hr.mono (by first | exact Nat.le_refl _ | decide)) (by rfl) T.gTree c_Tree_init.bd .nil pass0 (pa_cons (pv 3) (pa_cons (pe_callTy call_list_of (by rfl) B.list_ (by decide +kernel) (pa_cons (pe_ix ix_tup (pv 2) pe_int (fun _ _ => rfl)) pa_nil)) pa_nil))))
    (pss_cons (ps_set (i := 6) nd rfl (Or.inl rfl) (pe_op op_modN (pe_callTy call_int1 (by rfl) B.int_ (by decide +kernel) (pa_cons (pe_ix ix_list (pv 1) pe_int (fun _ _ => rfl)) pa_nil)) (pv 3)))
    (pss_cons (ps_set (i := 7) nd rfl (Or.inl rfl) (pe_op op_modN (pe_callTy call_int1 (by rfl) B.int_ (by decide +kernel) (pa_cons (pe_ix ix_list (pv 1) pe_int (fun _ _ => rfl)) pa_nil)) (pv 3)))
    (pss_cons (ps_if (pt_cmpR op_lt (pe_ix ix_list (pv 1) pe_int (fun _ _ => rfl)) pe_int (nomark _)) (pss_cons (ps_set (i := 8) nd rfl (Or.inl rfl) (pe_ix ix_list (pe_lst (pa_cons (pe_un un_neg pe_int) (pa_cons (pe_un un_neg pe_int) (pa_cons (pv 3) (pa_cons (pe_op op_add (pv 3) pe_int) pa_nil))))) (pe_ix ix_list (pv 1) pe_int (fun _ _ => rfl)) (fun _ _ => rfl)))
    (pss_one (ps_if (pt_not (pt_val (pe_call c_l_like.ok (hr.mono (by first | exact Nat.le_refl _ | decide)) (by rfl) c_l_like.g c_l_like.kp c_l_like.bd .nil pass0 (pa_cons (pe_call c_l_told.ok (hr.mono (by first | exact Nat.le_refl _ | decide)) (by rfl) c_l_told.g c_l_told.kp c_l_told.bd .nil pass0 (pa_cons (pv 5) (pa_cons (pv 8) pa_nil))) (pa_cons (pe_tup (pa_cons pe_str (pa_cons (pv 8) pa_nil))) pa_nil))))) (pss_one (ps_ret pe_bl)) pss_nil))) pss_nil)
    (pss_cons (ps_set (i := 9) nd rfl (Or.inl rfl) (pe_call c_l_stronghold.ok (hr.mono (by first | exact Nat.le_refl _ | decide)) (by rfl) c_l_stronghold.g c_l_stronghold.kp c_l_stronghold.bd .nil pass0 (pa_cons (pv 4) (pa_cons (pe_ix ix_tup (pv 2) pe_int (fun _ _ => rfl)) (pa_cons (pv 6) pa_nil)))))
    (pss_cons (ps_if (pt_not (pt_val (pe_call c_l_judged.ok (hr.mono (by first | exact Nat.le_refl _ | decide)) (by rfl) c_l_judged.g c_l_judged.kp c_l_judged.bd .nil pass0 (pa_cons (pv 5) (pa_cons (pv 6) (pa_cons (pv 9) pa_nil)))))) (pss_one (ps_ret pe_bl)) pss_nil)
    (pss_cons (ps_if (PW.pt (pw_or (pt_not (pt_val (pe_call c_l_judged.ok (hr.mono (by first | exact Nat.le_refl _ | decide)) (by rfl) c_l_judged.g c_l_judged.kp c_l_judged.bd .nil pass0 (pa_cons (pv 5) (pa_cons (pv 7) (pa_cons (pe_call c_l_stronghold.ok (hr.mono (by first | exact Nat.le_refl _ | decide)) (by rfl) c_l_stronghold.g c_l_stronghold.kp c_l_stronghold.bd .nil pass0 (pa_cons (pv 4) (pa_cons (pe_ix ix_tup (pv 2) pe_int (fun _ _ => rfl)) (pa_cons (pv 7) pa_nil)))) pa_nil)))))) (pw_or1 (pt_not (pt_val (pe_call c_l_judged.ok (hr.mono (by first | exact Nat.le_refl _ | decide)) (by rfl) c_l_judged.g c_l_judged.kp c_l_judged.bd .nil pass0 (pa_cons (pv 5) (pa_cons (pv 6) (pa_cons (pv 9) pa_nil))))))))) (pss_one (ps_ret pe_bl)) pss_nil)
    (pss_cons (ps_set (i := 10) nd rfl (Or.inl rfl) (pe_call c_l_grown.ok (hr.mono (by first | exact Nat.le_refl _ | decide)) (by rfl) c_l_grown.g c_l_grown.kp c_l_grown.bd .nil pass0 (pa_cons (pe_call c_l_cell.ok (hr.mono (by first | exact Nat.le_refl _ | decide)) (by rfl) c_l_cell.g c_l_cell.kp c_l_cell.bd .nil pass0 (pa_cons (pv 0) (pa_cons pe_int pa_nil))) (pa_cons (pv 4) (pa_cons (pe_op op_add pe_int (pe_op op_modN (pe_callTy call_int1 (by rfl) B.int_ (by decide +kernel) (pa_cons (pe_ix ix_list (pv 1) pe_int (fun _ _ => rfl)) pa_nil)) (pv 3))) pa_nil)))))
    (pss_cons (ps_if (pt_cmpR op_eq (pe_ix ix_list (pv 1) pe_int (fun _ _ => rfl)) pe_int (nomark _)) (pss_one (ps_set (i := 10) nd rfl (Or.inl rfl) (pe_call c_l_holding.ok (hr.mono (by first | exact Nat.le_refl _ | decide)) (by rfl) c_l_holding.g c_l_holding.kp c_l_holding.bd .nil pass0 (pa_cons (pv 9) (pa_cons (pe_ix ix_list (pv 1) pe_int (fun _ _ => rfl)) pa_nil))))) pss_nil)
    (pss_cons (ps_if (pt_cmpR op_eq (pe_ix ix_list (pv 1) pe_int (fun _ _ => rfl)) pe_int (nomark _)) (pss_one (ps_set (i := 10) nd rfl (Or.inl rfl) (pe_call c_l_missing.ok (hr.mono (by first | exact Nat.le_refl _ | decide)) (by rfl) c_l_missing.g c_l_missing.kp c_l_missing.bd .nil pass0 (pa_cons (pv 4) (pa_cons (pv 9) (pa_cons (pe_ix ix_list (pv 1) pe_int (fun _ _ => rfl)) pa_nil)))))) pss_nil)
    (pss_cons (ps_set (i := 11) nd rfl (Or.inl rfl) (pe_call c_l_meets.ok (hr.mono (by first | exact Nat.le_refl _ | decide)) (by rfl) c_l_meets.g c_l_meets.kp c_l_meets.bd .nil pass0 (pa_cons (pv 9) (pa_cons (pv 10) pa_nil))))
    (pss_cons (ps_set (i := 12) nd rfl (Or.inl rfl) (pe_cmpR op_le (pe_callB (cr_max rfl) (by rfl) B.max_ (by decide +kernel) (pa_cons (pe_op op_cat (pe_lst (pa_cons pe_int pa_nil)) (pe_call c_l_outer.ok (hr.mono (by first | exact Nat.le_refl _ | decide)) (by rfl) c_l_outer.g c_l_outer.kp c_l_outer.bd .nil pass0 (pa_cons (pv 4) (pa_cons (pv 10) pa_nil)))) pa_nil)) (pv 6) (nomark _)))
    (pss_cons (ps_for PassesOwn.never rfl (pi_range1 (by rfl) B.range (pa_cons pe_int pa_nil)) (pg_name (i := 13) nd rfl (Or.inl rfl)) (pss_cons (ps_set (i := 14) nd rfl (Or.inl rfl) (pe_call c_l_fair_order.ok (hr.mono (by first | exact Nat.le_refl _ | decide)) (by rfl) c_l_fair_order.g c_l_fair_order.kp c_l_fair_order.bd .nil pass0 (pa_cons (pe_call c_l_cell.ok (hr.mono (by first | exact Nat.le_refl _ | decide)) (by rfl) c_l_cell.g c_l_cell.kp c_l_cell.bd .nil pass0 (pa_cons (pv 0) (pa_cons (pe_op op_add pe_int (pv 13)) pa_nil))) (pa_cons (pe_op op_sub (pv 3) pe_int) (pa_cons (pv 6) pa_nil)))))
    (pss_cons (ps_set (i := 15) nd rfl (Or.inl rfl) (pe_call c_region_fate.ok (hr.mono (by first | exact Nat.le_refl _ | decide)) (by rfl) c_region_fate.g c_region_fate.kp c_region_fate.bd .nil pass0 (pa_cons (pv 5) (pa_cons (pe_callTy call_list_of (by rfl) B.list_ (by decide +kernel) (pa_cons (pv 10) pa_nil)) (pa_cons (pv 14) pa_nil)))))
    (pss_one (ps_if (PW.pt (pw_or (pt_not (pt_val (pe_call c_l_like.ok (hr.mono (by first | exact Nat.le_refl _ | decide)) (by rfl) c_l_like.g c_l_like.kp c_l_like.bd .nil pass0 (pa_cons (pv 15) (pa_cons (pe_ix ix_list (pe_lst (pa_cons pe_str (pa_cons pe_str pa_nil))) (pe_callTy call_int1 (by rfl) B.int_ (by decide +kernel) (pa_cons (pv 11) pa_nil)) (fun _ _ => rfl)) pa_nil))))) (pw_or1 (pt_not (pt_val (pe_call c_l_like.ok (hr.mono (by first | exact Nat.le_refl _ | decide)) (by rfl) c_l_like.g c_l_like.kp c_l_like.bd .nil pass0 (pa_cons (pe_cmpR op_eq (pv 15) pe_str (nomark _)) (pa_cons (pv 12) pa_nil)))))))) (pss_one (ps_ret pe_bl)) pss_nil)))))
    (pss_cons (ps_set (i := 16) nd rfl (Or.inl rfl) (pe_callB cr_sortedPO (by rfl) B.sorted (by decide +kernel) (pa_cons (pe_lc rfl nd (pi_list (pe_ix ix_tup (pv 2) pe_int (fun _ _ => rfl))) (blkOk_by (own := [("_law_pair", 17)]) (by kernel_rfl)) (fun _ _ _ _ _ => (pg_name (i := 17) nd rfl (Or.inl rfl))) (fun _ _ _ _ _ => pts_nil) (fun _ _ _ _ _ => (pe_tup (pa_cons (pe_callB (call_min2 rfl) (by rfl) B.min_ (by decide +kernel) (pa_cons (pe_ix ix_tup (pv 17) pe_int (fun _ _ => rfl)) (pa_cons (pe_ix ix_tup (pv 17) pe_int (fun _ _ => rfl)) pa_nil))) (pa_cons (pe_callB (call_max2 rfl) (by rfl) B.max_ (by decide +kernel) (pa_cons (pe_ix ix_tup (pv 17) pe_int (fun _ _ => rfl)) (pa_cons (pe_ix ix_tup (pv 17) pe_int (fun _ _ => rfl)) pa_nil))) pa_nil))))) pa_nil)))
    (pss_one (ps_ret (pe_call c_l_like.ok (hr.mono (by first | exact Nat.le_refl _ | decide)) (by rfl) c_l_like.g c_l_like.kp c_l_like.bd .nil pass0 (pa_cons (pe_lst (pa_cons (pe_meth0 (pv 5) T.cl T.m_links c_Tree_links.ok (hr.mono (by first | exact Nat.le_refl _ | decide)) c_Tree_links.bd .nil pass0) (pa_cons (pe_lc rfl nd (pi_range1 (by rfl) B.range (pa_cons (pv 3) pa_nil)) (blkOk_by (own := [("_law_c", 18)]) (by kernel_rfl)) (fun _ _ _ _ _ => (pg_name (i := 18) nd rfl (Or.inl rfl))) (fun _ _ _ _ _ => pts_nil) (fun _ _ _ _ _ => (pe_meth (pv 5) T.cl T.m_neighbours c_Tree_neighbours.ok (hr.mono (by first | exact Nat.le_refl _ | decide)) c_Tree_neighbours.bd .nil pass0 (pa_cons (pv 18) pa_nil)))) pa_nil))) (pa_cons (pe_lst (pa_cons (pv 16) (pa_cons (pv 4) pa_nil))) pa_nil))))))))))))))))))))))))), (R vs H Q E h).2⟩)
end Bw
/-! OutOfRange.__init__ -/
namespace Bw
open PySem PySem.Spec PyProof.Rows L2 PySem.W
abbrev s_oor : Stmt := inClass (top 4) 0
abbrev N_oor : List Str := ["self", "value"]
abbrev cxS (P : Program) (w : World) (K : Frag) (mg : Str → Option Value) (base : Heap) (f : Addr) (cd : Value) (cc : Addr) (A : Around) (outer : List Env) (s : Shared) (H : Hp) (xe : Value → Shared → Prop) : Cx where
  prog := P
  w := w
  K := K
  mg := mg
  base := base
  A := A.deeper (ksEnv "OutOfRange.__init__" (defScope s_oor) s.heap.objs.size f cd cc)
  N := N_oor
  s_0 := s
  H_0 := H
  env := ksEnv "OutOfRange.__init__" (defScope s_oor) s.heap.objs.size f cd cc
  outer := outer
  stack := ksEnv "OutOfRange.__init__" (defScope s_oor) s.heap.objs.size f cd cc :: outer
  ex := []
  calm := true
  fn := fun _ => false
  pn := []
  xe := xe
structure OorF (P : Program) (K : Frag) (mg : Str → Option Value) (C f cc cda : Addr) (fd : FuncData) : Prop where
  ox : OexC K C
  lk : ∃ oc od kV doc pm an ct osl, fd = ksFn "__init__" "OutOfRange.__init__" (defArgs s_oor) (defBody s_oor) (defScope s_oor) .none kV doc pm an (.ref cda) ct cc ∧ K.lookup f = some ⟨oc, od, .func fd, osl⟩
  cdi : codeIn K (.ref cda) "OutOfRange.__init__" = true
  code : ∃ ccl cdd vs ccs file tf, K.lookup cda = some ⟨ccl, cdd, .fields vs, ccs⟩ ∧ vs[2]? = some (.str file tf) ∧ ((P.main.file : Str) == file) = true
  cell : ∃ cl cld csl, K.lookup cc = some ⟨cl, cld, .cell (some (.ref C)), csl⟩
  mro : mroIn K C (.ref C) = some true
  sup : ks_superIn K C C "__init__" = some (some (.builtin "ValueError.__init__"))
  subVE : subIn K (.ref C) (.type "ValueError") = some true
  opq : nsIn K cStatics "thirdparty.any" = some none
  noV : findIn K (.ref C) "value" = some none
  msup : mg "super" = none
  htop : (P.main.scope.names.lookup ("super" : Str)).isSome = false
section
variable {P : Program} {w : World} {K : Frag} {mg : Str → Option Value} {base : Heap} {C f cc cda : Addr} {fd : FuncData}
theorem inv_sup {A : Around} {outer : List Env} {s : Shared} {H : Hp} {xe : Value → Shared → Prop} {h0 : Heap} {tk : Nat} {u1 u2 : Value} {v1 v2 : V} (hd : A.handled = none) (e0 : Env0 P w K mg base A outer s H)
    (hcell : ∃ cl cld csl, K.lookup cc = some ⟨cl, cld, .cell (some (.ref C)), csl⟩)
    (hns : h0.Ns s.heap.objs.size (fun x => (([("self", u1), ("value", u2)] : List (Str × Value)).reverse).lookup x)) (hk : ∀ b o, s.heap.get? b = some o → h0.get? b = some o) (r1 : RelV v1 u1) (r2 : RelV v2 u2) :
    Inv (cxS P w K mg base f (.ref cda) cc A outer s H xe) [] [some v1, some v2] H { s with heap := h0, toks := tk } := by
  obtain ⟨cl, cld, csl, hcc⟩ := hcell
  have hccb : base.get? cc = some ⟨cl, cld, .cell (some (.ref C)), csl⟩ := e0.mod.kin _ _ hcc
  have fr0 : ∀ x, (defScope s_oor).names.lookup x = some .cell ∨ (defScope s_oor).names.lookup x = some .free → x = "__class__" := by
    intro x hx
    have e : (defScope s_oor).names = [(("self" : Str), .local), (("value" : Str), .local), (("__class__" : Str), .free), (("super" : Str), .globalImplicit)] := rfl
    rw [e] at hx
    rcases hx with hx | hx <;> (have hm := PySem.mem_of_lookup hx; simp at hm)
    exact hm
  have cl1 : ∀ x c, List.lookup x [(("__class__" : Str), cc)] = some c → x = "__class__" ∧ c = cc := fun x c h => by
    have hm := PySem.mem_of_lookup h
    simp at hm
    exact hm
  have noA : ∀ b : Addr, b ∉ (cxS P w K mg base f (.ref cda) cc A outer s H xe).ex := fun b z => absurd (show b ∈ ([] : List Addr) from z) (by simp)
  refine ⟨⟨e0.mod, rfl, rfl, rfl, Nat.le_refl _, fun y z c h1 h2 => (cl1 y c h1).1.trans (cl1 z c h2).1.symm, fun y hy => ⟨cc, by
      have := fr0 y hy
      subst this
      rfl⟩, fun y c h _ => absurd (show false = true from h) Bool.false_ne_true, fun _ => hd, Around.frames_deeper e0.frames, .inr ⟨rfl, rfl⟩, fun b z => absurd z (noA b), e0.bs, e0.bsz, fun b _ _ => noA b, fun b z => absurd z (noA b), e0.funs, e0.frf⟩,
    rfl, e0.bare, Un.kept hk, ⟨_, hns, fun i y v h1 h2 h3 => ?_⟩, fun y c h => ⟨some (.ref C), ?_⟩, e0.hok.fresh (Nat.le_refl _), fun y c h => ?_, fun p hp => absurd (show p ∈ ([] : List (Addr × Obj)) from hp) (by simp), e0.hok.kept hk, rfl⟩
  · match i, h1, h2 with
    | 0, h1, h2 =>
      have h1 : some ("self" : Str) = some y := h1
      have h2 : some (some v1) = some (some v) := h2
      injection h1 with h1; injection h2 with h2; injection h2 with h2
      subst h1 h2
      exact ⟨u1, r1, .inl ⟨rfl, rfl⟩⟩
    | 1, h1, h2 =>
      have h1 : some ("value" : Str) = some y := h1
      have h2 : some (some v2) = some (some v) := h2
      injection h1 with h1; injection h2 with h2; injection h2 with h2
      subst h1 h2
      exact ⟨u2, r2, .inl ⟨rfl, rfl⟩⟩
    | i + 2, h1, h2 =>
      have h1 : ([] : List Str)[i]? = some y := h1
      simp at h1
  · obtain ⟨_, rfl⟩ := cl1 y c h
    exact ⟨_, hk _ _ (e0.bs _ _ hccb).1, rfl⟩
  · obtain ⟨_, rfl⟩ := cl1 y c h
    exact (e0.bs _ _ hccb).2
theorem oor_ok (F : OorF P K mg C f cc cda fd) : FnOk P w K mg base CX0 1 f fd N_oor (sp_oor K C) := by
  refine ⟨fun vs H Q E h => ?_, fun A outer s H args us vs Q E hr e0 hb r hsp => ?_⟩
  · obtain ⟨a, t, rfl, _⟩ := h
    rfl
  obtain ⟨a, t, rfl, hex, kk⟩ := hsp
  obtain ⟨oc, od, kV, doc, pm, an, ct, osl, rfl, lk⟩ := F.lk
  obtain ⟨u1, u2, rfl, r1, r2⟩ := vals2 r
  have KX : K.In s.heap := e0.mod.kin.keeps fun b o e => (e0.bs b o e).1
  have lim : s.heap.NoLimit := e0.mod.nolimit.keeps fun b o e => (e0.bs b o e).1
  refine ks_codeAny_call_defAt (body := defBody s_oor) (binds := [("self", u1), ("value", u2)]) hr.depth (KX _ _ lk) rfl lim (codeRec_of KX F.cdi) rfl hb (show ∀ x ∈ (defScope s_oor).names, x.2 ≠ .cell by decide) (fun x hx => by
    simp at hx
    rcases hx with rfl | rfl <;> rfl) (fun h0 hns hk => ?_) rfl rfl rfl
  let xe : Value → Shared → Prop := fun e s' => wpAny (model P w) (A.deeper (ksEnv "OutOfRange.__init__" (defScope s_oor) s.heap.objs.size f (.ref cda) cc)) (leaving (ksEnv "OutOfRange.__init__" (defScope s_oor) s.heap.objs.size f (.ref cda) cc) e) (fun _ s'' => CR CX0 outer P w H s Q E (.error e) s'') (fun e' s'' => CR CX0 outer P w H s Q E (.error e') s'') s'
  have I : Inv (cxS P w K mg base f (.ref cda) cc A outer s H xe) [] [some (.ref a), some (.int t)] H { s with heap := h0, toks := s.toks + 2 } := inv_sup hr.hd e0 F.cell hns hk r1 r2
  obtain ⟨ccl, cdd, cvs, ccs, file, tf, hcda, hvs, hfile⟩ := F.code
  obtain ⟨cl, cld, csl, hcc⟩ := F.cell
  obtain ⟨nm, q, N, bs, bm, sn, sub, ab, col, dd, k0, k1, k2, k3, k5, hC, hbm⟩ := F.ox.cls
  have hcl : clsIn K C = some { name := nm, bases := bs, mro := .ref C :: bm, ns := N, qualname := q, hasDict := true, slotNames := sn, subclasses := sub, abstract := ab, collection := col, hasDel := false } := by unfold clsIn; rw [hC] <;> rfl
  have KX0 := KX.keeps hk
  obtain ⟨t1, ho⟩ := exo_at I.hok hex
  have ho : h0.get? a = some ({ cls := .ref C, dict := none, data := .fields #[.ref t1, .none, .none, .none, .bool false, .none] } : Obj) := ho
  have r1 : u1 = Value.ref a := r1
  subst r1
  have bk : ∀ b o, base.get? b = some o → h0.get? b = some o := fun b o e => hk b o (e0.bs b o e).1
  obtain ⟨mb, hb1, hb2⟩ := e0.mod.blt
  refine ks_wpAt_execs_cons (ks_wpAt_Expr_any (ks_wpAt_MethodCall ?_))
  refine ks_wpAt_super_base (ar := { arg := "self", annotation := none, pos := ⟨14, 17, 14, 21⟩ }) rfl rfl (by decide) rfl (KX0 _ _ lk) rfl rfl rfl (KX0 _ _ hcda) rfl hvs hfile F.htop ?_
  refine ks_loadName_global rfl rfl (Calls.loadGlobal_builtin (e0.mod.glob.keeps bk) F.msup (hb1.keeps bk) ((hb2 _ (by decide)).trans (by kernel_rfl)) ⟨rfl, ?_⟩)
  refine wpAny_loadName_free rfl rfl rfl ⟨_, KX0 _ _ hcc, rfl⟩ ?_
  refine wpAny_loadName_local rfl rfl hns rfl ?_
  refine ks_wpAny_isType_cls (KX0 _ _ hC) rfl ⟨rfl, ?_⟩
  refine ks_wpAny_call_super (KX0 _ _ hC) rfl ho rfl (fun c e => by cases e) (looks_mroIn KX0 F.mro) (fun h1 hso hk1 => ?_)
  have KX1 := KX0.keeps hk1
  have ho1 := hk1 _ _ ho
  have IA : InstAt h1 a { cls := .ref C, dict := none, data := .fields #[.ref t1, .none, .none, .none, .bool false, .none] } C none := ⟨ho1, rfl, rfl, trivial⟩
  have hmr : Looks (model P w) h1 (mroOf (.ref C)) (.ref C :: bm) := (looks_clsIn KX1 hcl).andThen .now
  have hal : alongIn K "__init__" (((Value.ref C :: bm).dropWhile (· != .ref C)).drop 1) = some (some (.builtin "ValueError.__init__")) := by
    have := F.sup
    unfold ks_superIn at this
    rw [hcl] at this
    exact this
  refine kxs_getMethod kxs_ValueError hso (looks_opaque KX1 F.opq) hmr rfl KX1 hal (IA.type.andThen (looks_subIn KX1 F.subVE)) (ks_ne KX1 IA hcl) (by decide) ?_
  have hk2 : ∀ b o, h1.get? b = some o → (h1.push (kxs_mw "ValueError.__init__" a)).get? b = some o := fun b o e => Heap.get?_push_of_some _ e
  have hu : (h1.push (kxs_mw "ValueError.__init__" a)).get? h1.objs.size = some (kxs_mw "ValueError.__init__" a) := Heap.get?_push_at rfl rfl
  have I0 : Inv (cxS P w K mg base f (.ref cda) cc A outer s H xe) [] [some (.ref a), some (.int t)] H { s with heap := h1, toks := s.toks + 2 + 1 } := I.kept (h' := h1) (t' := s.toks + 2 + 1) hk1
  have I1a : Inv (cxS P w K mg base f (.ref cda) cc A outer s H xe) [] [some (.ref a), some (.int t)] H { s with heap := h1.push (kxs_mw "ValueError.__init__" a), toks := s.toks + 2 + 1 } := I0.kept (t' := s.toks + 2 + 1) hk2
  have I1 : Inv (cxS P w K mg base f (.ref cda) cc A outer s H xe) [(h1.objs.size, kxs_mw "ValueError.__init__" a)] [some (.ref a), some (.int t)] H { s with heap := h1.push (kxs_mw "ValueError.__init__" a), toks := s.toks + 2 + 1 } :=
    ⟨I1a.ok, I1a.os, I1a.bare, I1a.base, I1a.loc, I1a.cell, I1a.free, I1a.freeC, fun p hp => by
      have hp : p ∈ ([(h1.objs.size, kxs_mw "ValueError.__init__" a)] : List (Addr × Obj)) := hp
      rw [List.mem_singleton] at hp
      subst hp
      exact ⟨hu, I0.hok.fresh (Nat.le_refl _), fun z => absurd I0.lt (by rw [← z]; exact Nat.lt_irrefl _), I0.nofs (Nat.le_refl _), fun v z => by cases z⟩, I1a.hok, I1a.len⟩
  generalize h1.objs.size = u at *
  generalize h1.push (kxs_mw "ValueError.__init__" a) = h2 at *
  have pa : PA (cxS P w K mg base f (.ref cda) cc A outer s H xe) [Expr.Constant (Const.str "a number is out of its range") 0 ⟨15, 25, 15, 55⟩] (tCons (tC (.str "a number is out of its range")) tNil) := pa_cons pe_str pa_nil
  refine kxs_callWith (i := "ValueError.__init__") (x := a) rfl ?_
  refine Calls.evalArgs_plain ?_
  refine wpAny_mono (pa.run _ _ _ _ H (fun vs H' => vs = [V.str "a number is out of its range"] ∧ H' = H) I1 ⟨rfl, rfl⟩) (fun us s3 hx => ?_) fun _ _ x => x
  obtain ⟨vs, H', I3, rv, hv5, hH⟩ := hx
  rw [hv5] at rv
  rw [hH] at I3
  obtain ⟨hu3, _⟩ := I3.pin (u, kxs_mw "ValueError.__init__" a) (by simp)
  refine ⟨hu3, ?_⟩
  obtain ⟨t3, ho3⟩ := exo_at I3.hok hex
  obtain ⟨h3, g3, d3, k3', os3⟩ := s3
  have hz : us.length ≤ sizeLine := by rw [← Paired.length rv, sizeLine_eq]; decide
  refine wpAny_call (codeAny_of_tree ?_)
  show wpAny _ _ (callAny (.ref u) ⟨us, []⟩) _ _ _
  simp only [callAny]
  refine wpAny_bind (wpAny_load hu3 ?_)
  simp only [kxs_mw, show (Value.type "method-wrapper" == Value.type "method" || Value.type "method-wrapper" == Value.type "builtin_function_or_method" || Value.type "method-wrapper" == Value.type "method-wrapper") = true by decide, if_true]
  refine KFB.if_so (by decide) ?_
  refine wpAny_bind (check_bound_init PySem.F.excBase_ValueError.toExcCallFacts (I3.kIn _ _ hC) ho3 rfl ?_)
  refine wpAny_bind (wpAny_pure (wpAny_pure ?_))
  refine ⟨plainId_quiet PySem.F.excBase_ValueError.init.plain _, codeAny_builtin PySem.F.excBase_ValueError.initEntry ?_⟩
  refine exc_init_tree (cls := .ref C) (t0 := t3) (dv := none) (c2 := .none) (c3 := .none) (b4 := .bool false) ho3 hz fun h4 hk4 ho4 ht4 => ?_
  have J := I3.write (t' := k3') (h' := h4) (x := a) (e := a) (o := exo a C none) (by rw [hex]; exact True.intro) (.inl rfl) hk4 ⟨_, ho4⟩ (exo_ok ho4)
  have eu : upd H a (exo a C none) = H := by
    funext b
    by_cases hb : b = a
    · rw [hb, upd_same, hex]
    · rw [upd_ne hb]
  rw [eu] at J
  have nd : N_oor.Nodup := by decide
  have ps : PSs (cxS P w K mg base f (.ref cda) cc A outer s H xe) [(defBody s_oor).getD 1 (.Pass ⟨0, 0, 0, 0⟩)] (tOst K "value" (tVar 0) (tVar 1)) := pss_one (ps_ost (pv 0) (pv 1))
  refine wpAt_of_wpAny (wpAny_mono (ps.run _ _ [some (.ref a), some (.int t)] H { nx := fun _ H' => Q .non H', rt := Q } J ⟨_, rfl, _, rfl, a, C, rfl, F.ox, F.noV, .inl ⟨hex, fun dx hdx hne => kk dx _ hdx hne rfl⟩⟩) (fun fl s5 hs => ?_) fun e s5 hs => ?_)
  · cases fl with
    | ret v0 =>
      obtain ⟨v, σ', H', J5, rv5, q5⟩ := hs
      exact ⟨v, H', J5.os, J5.bare, J5.base, J5.hok, rv5, q5⟩
    | next =>
      obtain ⟨σ', H', J5, q5⟩ := hs
      exact ⟨V.non, H', J5.os, J5.bare, J5.base, J5.hok, rfl, q5⟩
    | brk =>
      obtain ⟨_, _, _, q5⟩ := hs
      exact False.elim q5
    | cont =>
      obtain ⟨_, _, _, q5⟩ := hs
      exact False.elim q5
  · exact hs
end
end Bw
/-! strongholds and told -/
namespace Bw
open PySem PySem.Spec PyProof.Rows L2
section
variable {X : Cx} {a CO : Addr} {oe : Obj} {cls : Value} {d : Option Addr} {pn : List (Addr × Obj)}
theorem inst_x {pins : List (Addr × Obj)} {σ : L2.St} {H : Hp} {s : Shared} (hz : Zc cls d oe) (hf : ∃ vs, oe.data = .fields vs) (I : Inv (X.suite a ((a, oe) :: pn)) pins σ H s) {dd : Addr} {fs : List (Str × V)} (h1 : cls = .ref CO) (h2 : d = some dd) (h3 : H dd = some (.xd fs)) : ∃ od, PySem.W.InstAt s.heap a oe CO (some od) := by
  subst h1 h2
  obtain ⟨ha, _⟩ := I.pin (a, oe) (List.mem_append_left _ List.mem_cons_self)
  obtain ⟨vs, hd⟩ := hf
  have hx : ObjOk X.prog X.w H s.heap dd (.xd fs) := I.hok dd _ h3
  obtain ⟨mA, hns, hr⟩ := hx
  obtain ⟨od, ho, hl⟩ := lookIn_ns hns
  exact ⟨od, ha, hz.1, by unfold PySem.W.notCls; rw [hd] <;> rfl, by rw [hz.2]; exact ho⟩
theorem kit_x (C : ExcC X.K CO) {od : Option Obj} {x : Addr} {ox : Obj} : PySem.W.KitX X.K (.ref x) (.ref CO) (fun h => PySem.W.InstAt h x ox CO od) := by
  obtain ⟨cd, hc, _⟩ := PySem.W.any_some C.hd
  exact PySem.W.kitx_exc (by rw [hc]; rfl) C.hg C.hk C.hs C.ha C.hn C.ht C.hm
theorem call_isX (C : ExcC X.K CO) (hz : Zc cls d oe) (hf : ∃ vs, oe.data = .fields vs) : CallR (X.suite a ((a, oe) :: pn)) (.builtin "isinstance") (rIsX X.K CO a cls d) := by
  intro pins s σ H xs us Q I r h
  obtain ⟨c, cv, b, dd, fs, rfl, h1, h2, h3, k, e, q⟩ := h
  obtain ⟨u1, u2, rfl, r1, r2⟩ := vals2 r
  have e2 := k.eq r2
  subst e2
  cases (show u1 = Value.ref a from r1)
  obtain ⟨od, J⟩ := inst_x (CO := CO) hz hf I h1 h2 h3
  exact PySem.W.kia_one (kit_x C) I.kIn J e (fun z => nomatch z) fun tk => ⟨.bl b, H, I.tok tk, rfl, q⟩
theorem call_isXT (C : ExcC X.K CO) (hz : Zc cls d oe) (hf : ∃ vs, oe.data = .fields vs) : CallR (X.suite a ((a, oe) :: pn)) (.builtin "isinstance") (rIsXT X.K CO a cls d) := by
  intro pins s σ H xs us Q I r h
  obtain ⟨tp, cs, ws, b, dd, fs, rfl, h1, h2, h3, hT, k, e, q⟩ := h
  obtain ⟨u1, u2, rfl, r1, r2⟩ := vals2 r
  cases (show u1 = Value.ref a from r1)
  cases (show u2 = Value.ref tp from r2)
  obtain ⟨od, J⟩ := inst_x (CO := CO) hz hf I h1 h2 h3
  obtain ⟨_, its, rv, o, g1, g2, n, g3⟩ := (show ObjOk X.prog X.w H s.heap tp (.tup cs) from I.hok tp _ hT)
  have e3 := ClsV.all k rv
  subst e3
  obtain ⟨oc, od', dt, sl⟩ := o
  simp only at g2 g3
  subst g2 g3
  exact PySem.W.kia_tup (kit_x C) I.kIn J g1 e (fun z => nomatch z) fun tk => ⟨.bl b, H, I.tok tk, rfl, q⟩
end

theorem binds_oor {P : Program} {K : PySem.W.Frag} {mg : Str → Option Value} {C f cc cda : Addr} {fd : FuncData} (F : OorF P K mg C f cc cda fd) : Binds K fd N_oor [] := by
  obtain ⟨oc, od, kV, doc, pm, an, ct, osl, rfl, lk⟩ := F.lk
  refine .all fun us hl => ?_
  match us, hl with
  | [x, y], _ => with_unfolding_all rfl
abbrev s_strongholds : Stmt := top 33
theorem sc_strongholds : FnScope N_strongholds P_strongholds (defScope s_strongholds) := ⟨rfl, rfl, rfl, by decide +kernel, rfl, by decide +kernel, by decide +kernel⟩
theorem ok_strongX {P : Program} {w : World} {K : PySem.W.Frag} {mg : Str → Option Value} {base : Heap} {C fI fL fN fS f CO fO cc cda : Addr} {fd fdO : FuncData} (F : FunD K "strongholds" "strongholds" (defArgs s_strongholds) (defBody s_strongholds) (defScope s_strongholds) [] [] f fd) (B : Blt mg) (T : TrC K mg C fI fL fN fS)
    {fd_Tree_all_sizes : FuncData} (c_Tree_all_sizes : CalM P w K mg base 2 P_Tree_all_sizes (sp_Tree_all_sizes K C) fS fd_Tree_all_sizes)
    (OF : OorF P K mg CO fO cc cda fdO) (OI : PySem.W.findIn K (.ref CO) "__init__" = some (some (.ref fO))) (oT : PySem.W.typeIn K (.ref fO) = some (.type "function")) (gO : mg "OutOfRange" = some (.ref CO)) (bO : Binds K fdO N_oor []) (TA : TrA K C) : FnOk P w K mg base (L2.CX P w) 4 f fd P_strongholds (sp_strongX K C CO) := by
  obtain ⟨oc, od, dV, kV, doc, pm, an, cdv, ct, osl, rfl, lk, hcd, hD, hK⟩ := F.ex
  refine fn_of lk hcd sc_strongholds (fun vs H Q E h => (rd_strongX TA vs H Q E h).1) fun A outer s H vs Q E hr h => ⟨t_strongX K C CO E, ?_, (rd_strongX TA vs H Q E h).2⟩
  have nd := sc_strongholds.nd
  have tk : Takes (cxOf (L2.CX P w) P w K mg base N_strongholds "strongholds" (defScope s_strongholds) f cdv A outer s H E) (fun cls d _ H => E cls d H) := takes_of rfl rfl rfl rfl
  exact (pss_cons (ps_if (pt_not (pt_chain op_le op_lt pe_int (pv 1) (pe_fld (pv 0) rfl))) (pss_one (ps_raise rfl tk (pmk_oex OF.ox OI oT (oor_ok OF) (hr.mono (by first | exact Nat.le_refl _ | decide)) bO .nil pass0 (by rfl) gO (pa_cons (pv 1) pa_nil)))) pss_nil)
    (pss_cons (ps_set (i := 2) nd rfl (Or.inr rfl) (pe_meth0 (pv 0) T.cl T.m_all_sizes c_Tree_all_sizes.ok (hr.mono (by first | exact Nat.le_refl _ | decide)) c_Tree_all_sizes.bd .nil pass0))
    (pss_cons (ps_setLc (i := 3) rfl nd rfl rfl (sw_true rfl rfl rfl (by decide +kernel)) (pi_range1 (by rfl) B.range (pa_cons (pe_fld (pv 0) rfl) pa_nil)) (blkOk_by (own := [("cell", 6)]) (by kernel_rfl)) (fun _ _ _ _ _ => (pg_name (i := 6) nd rfl (Or.inl rfl))) (fun _ _ _ _ _ => (pts_one (pt_cmpR op_le (pe_callBK (call_maxD rfl) (by rfl) B.max_ (by decide +kernel) (pa_cons (pe_ix ix_list (pv 2) (pv 6) (fun _ _ => rfl)) pa_nil) (pk_cons pe_int pk_nil)) (pv 1) (nomark _)))) (fun _ _ _ _ _ => (pv 6)))
    (pss_cons (ps_if (pt_truth (pv 3) (by intro _; rfl)) (pss_one (ps_ret (pe_tup (pa_cons pe_str (pa_cons (pv 3) pa_nil))))) pss_nil)
    (pss_cons (ps_set (i := 4) nd rfl (Or.inr rfl) (pe_op op_sub (pe_fld (pv 0) rfl) (pv 1)))
    (pss_cons (ps_set (i := 5) nd rfl (Or.inr rfl) (pe_lc rfl nd (pi_range1 (by rfl) B.range (pa_cons (pe_fld (pv 0) rfl) pa_nil)) (blkOk_by (own := [("cell", 6)]) (by kernel_rfl)) (fun _ _ _ _ _ => (pg_name (i := 6) nd rfl (Or.inl rfl))) (fun _ _ _ _ _ => pts_nil) (fun _ _ _ _ _ => (pe_callB (cr_any rfl) (by rfl) B.any (by decide +kernel) (pa_cons (pe_lc rfl nd (pi_list (pe_ix ix_list (pv 2) (pv 6) (fun _ _ => rfl))) (blkOk_by (own := [("size", 7)]) (by kernel_rfl)) (fun _ _ _ _ _ => (pg_name (i := 7) nd rfl (Or.inl rfl))) (fun _ _ _ _ _ => pts_nil) (fun _ _ _ _ _ => (pe_chain op_lt op_lt (pv 1) (pv 7) (pv 4)))) pa_nil)))))
    (pss_one (ps_ret (pe_tup (pa_cons pe_str (pa_cons (pe_lc rfl nd (pi_range1 (by rfl) B.range (pa_cons (pe_fld (pv 0) rfl) pa_nil)) (blkOk_by (own := [("cell", 6)]) (by kernel_rfl)) (fun _ _ _ _ _ => (pg_name (i := 6) nd rfl (Or.inl rfl))) (fun _ _ _ _ _ => (pts_one (pt_truth (pe_ix ix_list (pv 5) (pv 6) (fun _ _ => rfl)) (by intro _; rfl)))) (fun _ _ _ _ _ => (pv 6))) pa_nil)))))))))))

/-- strongholds, asked within its range -/
theorem ok_strongholds {P : Program} {w : World} {K : PySem.W.Frag} {mg : Str → Option Value} {base : Heap} {C CO f : Addr} {fd : FuncData} {k : Nat} (F : FnOk P w K mg base (L2.CX P w) k f fd P_strongholds (sp_strongX K C CO)) : FnOk P w K mg base CX0 k f fd P_strongholds (sp_strongholds K C) := by
  refine ⟨fun vs H Q E h => ?_, fun A outer s H args us vs Q E hr e0 hb r hsp => ?_⟩
  · obtain ⟨x, n, t, near, links, rfl, _⟩ := h
    rfl
  · obtain ⟨x, n, t, near, links, rfl, TA, ht, kk⟩ := hsp
    refine codeAny_mono (F.run A outer s H args us _ Q (fun _ _ _ => False) hr e0 hb r ⟨x, n, t, near, links, rfl, TA, fun m p H' hm hmn hp e hs => ?_, fun hor => by omega⟩) fun rr s' hq => ?_
    · have : m = t := by omega
      subst this
      exact kk p H' hp e hs
    · cases rr with
      | ok fl => cases fl <;> exact hq
      | error e =>
        obtain ⟨_, _, _, _, _, _, _, _, _, _, _, _, z⟩ := hq
        exact z.elim
abbrev s_l_told : Stmt := top 50
theorem sc_l_told : FnScope N_l_told P_l_told (defScope s_l_told) := ⟨rfl, rfl, rfl, by decide +kernel, rfl, by decide +kernel, by decide +kernel⟩
theorem ok_l_told {P : Program} {w : World} {K : PySem.W.Frag} {mg : Str → Option Value} {base : Heap} {C CO BE NR WL f : Addr} {fd : FuncData} (F : FunD K "_law_told" "_law_told" (defArgs s_l_told) (defBody s_l_told) (defScope s_l_told) [] [] f fd) (B : Blt mg)
    {f_s : Addr} {fd_s : FuncData} (c_ok : FnOk P w K mg base (L2.CX P w) 4 f_s fd_s P_strongholds (sp_strongX K C CO)) (c_g : mg "strongholds" = some (.ref f_s)) (c_kp : PySem.W.keepIn K (.ref f_s) = true) (c_bd : Binds K fd_s P_strongholds [])
    (gO : mg "OutOfRange" = some (.ref CO)) (gB : mg "BoughError" = some (.ref BE)) (gN : mg "NotRegion" = some (.ref NR)) (gW : mg "WrongLength" = some (.ref WL)) (EC : ExcC K CO) (XF : XfC K CO) (noV : PySem.W.findIn K (.ref CO) "value" = some none) (TL : TldA K CO BE NR WL) :
    FnOk P w K mg base CX0 5 f fd P_l_told (sp_l_told K C) := by
  refine F.ok sc_l_told (fun vs H Q E h => (rd_l_told TL vs H Q E h).1) fun cdv A outer s H vs Q E hr h => ⟨t_l_told K C CO BE NR WL, ?_, (rd_l_told TL vs H Q E h).2⟩
  have nd := sc_l_told.nd
  refine pss_cons (ps_try_as rfl rfl nd (i := 2) rfl rfl ⟨by rfl, by decide, .inl gO⟩ takes0 (fun W pn xe tk po => ?_) (fun a oe cls d pn hz hf => ?_)) (pss_one (ps_ret (pe_tup (pa_cons pe_str pa_nil))))
  · exact pss_one (ps_ret (pe_tup (pa_cons pe_str (pa_cons (pe_call c_ok (hr.mono (by first | exact Nat.le_refl _ | decide)) (by rfl) c_g c_kp c_bd .nil (fun pins σ H s e s' I c => tk e s' (XE.of_call I (fun cls d H' h => h σ I.len) c)) (pa_cons (pv 0) (pa_cons (pv 1) pa_nil))) pa_nil))))
  · exact pss_one (ps_if (PW.pt (pw_and (pt_val (pe_callB (call_isX EC hz hf) (by rfl) B.isinstance (by decide +kernel) (pa_cons (pv 2) (pa_cons (pe_glob (by rfl) gB rfl) pa_nil)))) (pw_and (pt_val (pe_callB (call_isX EC hz hf) (by rfl) B.isinstance (by decide +kernel) (pa_cons (pv 2) (pa_cons (pe_bltn (v := .ty "ValueError") (by rfl) B.ValueError (by decide +kernel) rfl) pa_nil)))) (pw_and1 (pt_not (pt_val (pe_callB (call_isXT EC hz hf) (by rfl) B.isinstance (by decide +kernel) (pa_cons (pv 2) (pa_cons (pe_tup (pa_cons (pe_glob (by rfl) gN rfl) (pa_cons (pe_glob (by rfl) gW rfl) pa_nil))) pa_nil))))))))) (pss_one (ps_ret (pe_tup (pa_cons pe_str (pa_cons (pe_xf XF noV hz hf (pv 2)) pa_nil))))) pss_nil)
end Bw
/-! the head: what stands behind the top -/
namespace Bw
open PySem PySem.Spec PyProof.Rows L2 He
def d_top_sums : DefD := ⟨("top_sums", none), "top_sums", "top_sums", defArgs s_top_sums, defBody s_top_sums, defScope s_top_sums, [], []⟩
def d_first_break : DefD := ⟨("first_break", none), "first_break", "first_break", defArgs s_first_break, defBody s_first_break, defScope s_first_break, [], []⟩
def d_fits : DefD := ⟨("fits", none), "fits", "fits", defArgs s_fits, defBody s_fits, defScope s_fits, [], []⟩
def d_counted_bounds : DefD := ⟨("counted_bounds", none), "counted_bounds", "counted_bounds", defArgs s_counted_bounds, defBody s_counted_bounds, defScope s_counted_bounds, [], []⟩
def d_keeper_step : DefD := ⟨("keeper_step", none), "keeper_step", "keeper_step", defArgs s_keeper_step, defBody s_keeper_step, defScope s_keeper_step, [], []⟩
def d_raider_step : DefD := ⟨("raider_step", none), "raider_step", "raider_step", defArgs s_raider_step, defBody s_raider_step, defScope s_raider_step, [], []⟩
def d_step : DefD := ⟨("step", none), "step", "step", defArgs s_step, defBody s_step, defScope s_step, [], []⟩
/-- the empty tuple that pull's goal is -/
def goalAd (K : PySem.W.Frag) : Addr := match K.lookup (ga K "pull") with
  | some ⟨_, _, .func fd, _⟩ => (match fd.kwdefaults with
    | .ref D => (match PySem.W.nsIn K D "goal" with
      | some (some (.ref b)) => b
      | _ => 0)
    | _ => 0)
  | _ => 0
def d_pull : DefD := ⟨("pull", none), "pull", "pull", defArgs s_pull, defBody s_pull, defScope s_pull, [], [("goal", .adr goalAd)]⟩
def d_require_turns : DefD := ⟨("require_turns", none), "require_turns", "require_turns", defArgs s_require_turns, defBody s_require_turns, defScope s_require_turns, [], []⟩
def d_checked_goal : DefD := ⟨("checked_goal", none), "checked_goal", "checked_goal", defArgs s_checked_goal, defBody s_checked_goal, defScope s_checked_goal, [], []⟩
def d_root_of : DefD := ⟨("root_of", none), "root_of", "root_of", defArgs s_root_of, defBody s_root_of, defScope s_root_of, [], []⟩
def d_first_bad_link : DefD := ⟨("first_bad_link", none), "first_bad_link", "first_bad_link", defArgs s_first_bad_link, defBody s_first_bad_link, defScope s_first_bad_link, [], []⟩
def d_neighbour_table : DefD := ⟨("neighbour_table", none), "neighbour_table", "neighbour_table", defArgs s_neighbour_table, defBody s_neighbour_table, defScope s_neighbour_table, [], []⟩
def d_pieces_of : DefD := ⟨("pieces_of", none), "pieces_of", "pieces_of", defArgs s_pieces_of, defBody s_pieces_of, defScope s_pieces_of, [], []⟩
def d_require_region : DefD := ⟨("require_region", none), "require_region", "require_region", defArgs s_require_region, defBody s_require_region, defScope s_require_region, [], []⟩
def d_kept : DefD := ⟨("kept", none), "kept", "kept", defArgs s_kept, defBody s_kept, defScope s_kept, [], [("goal", .non)]⟩
def d_table_of : DefD := ⟨("table_of", none), "table_of", "table_of", defArgs s_table_of, defBody s_table_of, defScope s_table_of, [], []⟩
def d_outer_pieces : DefD := ⟨("outer_pieces", none), "outer_pieces", "outer_pieces", defArgs s_outer_pieces, defBody s_outer_pieces, defScope s_outer_pieces, [], []⟩
def d_outer_sizes : DefD := ⟨("outer_sizes", none), "outer_sizes", "outer_sizes", defArgs s_outer_sizes, defBody s_outer_sizes, defScope s_outer_sizes, [], []⟩
def d_without_last_raids : DefD := ⟨("without_last_raids", none), "without_last_raids", "without_last_raids", defArgs s_without_last_raids, defBody s_without_last_raids, defScope s_without_last_raids, [], []⟩
def d_region_fate : DefD := ⟨("region_fate", none), "region_fate", "region_fate", defArgs s_region_fate, defBody s_region_fate, defScope s_region_fate, [], []⟩
def d_walk_from : DefD := ⟨("walk_from", none), "walk_from", "walk_from", defArgs s_walk_from, defBody s_walk_from, defScope s_walk_from, [], []⟩
def d_Tree_init : DefD := ⟨("Tree", some "__init__"), "__init__", "Tree.__init__", defArgs s_Tree_init, defBody s_Tree_init, defScope s_Tree_init, [], []⟩
def d_Tree_links : DefD := ⟨("Tree", some "links"), "links", "Tree.links", defArgs s_Tree_links, defBody s_Tree_links, defScope s_Tree_links, [], []⟩
def d_Tree_neighbours : DefD := ⟨("Tree", some "neighbours"), "neighbours", "Tree.neighbours", defArgs s_Tree_neighbours, defBody s_Tree_neighbours, defScope s_Tree_neighbours, [], []⟩
def d_Tree_all_sizes : DefD := ⟨("Tree", some "all_sizes"), "all_sizes", "Tree.all_sizes", defArgs s_Tree_all_sizes, defBody s_Tree_all_sizes, defScope s_Tree_all_sizes, [], []⟩
def d_l_cell : DefD := ⟨("_law_cell", none), "_law_cell", "_law_cell", defArgs s_l_cell, defBody s_l_cell, defScope s_l_cell, [], []⟩
def d_l_mixed : DefD := ⟨("_law_mixed", none), "_law_mixed", "_law_mixed", defArgs s_l_mixed, defBody s_l_mixed, defScope s_l_mixed, [], []⟩
def d_l_draws : DefD := ⟨("_law_draws", none), "_law_draws", "_law_draws", defArgs s_l_draws, defBody s_l_draws, defScope s_l_draws, [], []⟩
def d_l_like : DefD := ⟨("_law_like", none), "_law_like", "_law_like", defArgs s_l_like, defBody s_l_like, defScope s_l_like, [], []⟩
def d_l_tree : DefD := ⟨("_law_tree", none), "_law_tree", "_law_tree", defArgs s_l_tree, defBody s_l_tree, defScope s_l_tree, [], []⟩
def d_l_near : DefD := ⟨("_law_near", none), "_law_near", "_law_near", defArgs s_l_near, defBody s_l_near, defScope s_l_near, [], []⟩
def d_l_pieces : DefD := ⟨("_law_pieces", none), "_law_pieces", "_law_pieces", defArgs s_l_pieces, defBody s_l_pieces, defScope s_l_pieces, [], []⟩
def d_l_sizes : DefD := ⟨("_law_sizes", none), "_law_sizes", "_law_sizes", defArgs s_l_sizes, defBody s_l_sizes, defScope s_l_sizes, [], []⟩
def d_l_grown : DefD := ⟨("_law_grown", none), "_law_grown", "_law_grown", defArgs s_l_grown, defBody s_l_grown, defScope s_l_grown, [], []⟩
def d_l_outer : DefD := ⟨("_law_outer", none), "_law_outer", "_law_outer", defArgs s_l_outer, defBody s_l_outer, defScope s_l_outer, [], []⟩
def d_l_fair_order : DefD := ⟨("_law_fair_order", none), "_law_fair_order", "_law_fair_order", defArgs s_l_fair_order, defBody s_l_fair_order, defScope s_l_fair_order, [], []⟩
def d_l_stronghold : DefD := ⟨("_law_stronghold", none), "_law_stronghold", "_law_stronghold", defArgs s_l_stronghold, defBody s_l_stronghold, defScope s_l_stronghold, [], []⟩
def d_l_missing : DefD := ⟨("_law_missing", none), "_law_missing", "_law_missing", defArgs s_l_missing, defBody s_l_missing, defScope s_l_missing, [], []⟩
def d_l_holding : DefD := ⟨("_law_holding", none), "_law_holding", "_law_holding", defArgs s_l_holding, defBody s_l_holding, defScope s_l_holding, [], []⟩
def d_l_meets : DefD := ⟨("_law_meets", none), "_law_meets", "_law_meets", defArgs s_l_meets, defBody s_l_meets, defScope s_l_meets, [], []⟩
def d_l_judged : DefD := ⟨("_law_judged", none), "_law_judged", "_law_judged", defArgs s_l_judged, defBody s_l_judged, defScope s_l_judged, [], []⟩
def d_l_large_agrees : DefD := ⟨("_law_large_agrees", none), "_law_large_agrees", "_law_large_agrees", defArgs s_l_large_agrees, defBody s_l_large_agrees, defScope s_l_large_agrees, [], []⟩
def d_law : DefD := ⟨("law", none), "law", "law", defArgs s_law, defBody s_law, defScope s_law, [], []⟩
def d_strongholds : DefD := ⟨("strongholds", none), "strongholds", "strongholds", defArgs s_strongholds, defBody s_strongholds, defScope s_strongholds, [], []⟩
def d_l_told : DefD := ⟨("_law_told", none), "_law_told", "_law_told", defArgs s_l_told, defBody s_l_told, defScope s_l_told, [], []⟩
def fn0 : List DefD := [d_top_sums, d_first_break, d_fits, d_counted_bounds, d_keeper_step, d_raider_step, d_step, d_pull, d_require_turns, d_checked_goal, d_root_of, d_first_bad_link]
def fn1 : List DefD := [d_neighbour_table, d_pieces_of, d_require_region, d_kept, d_table_of, d_outer_pieces, d_outer_sizes, d_without_last_raids, d_region_fate, d_walk_from, d_Tree_init, d_Tree_links]
def fn2 : List DefD := [d_Tree_neighbours, d_Tree_all_sizes, d_l_cell, d_l_mixed, d_l_draws, d_l_like, d_l_tree, d_l_near, d_l_pieces, d_l_sizes, d_l_grown, d_l_outer]
def fn3 : List DefD := [d_l_fair_order, d_l_stronghold, d_l_missing, d_l_holding, d_l_meets, d_l_judged, d_l_large_agrees, d_law, d_strongholds, d_l_told]
def fnB : List DefD := fn0 ++ fn1 ++ fn2 ++ fn3
def fa0 : List Fa := [.glo "top_sums", .glo "first_break", .glo "fits", .glo "counted_bounds", .glo "keeper_step", .glo "raider_step", .glo "step", .glo "pull", .glo "require_turns", .glo "checked_goal", .glo "root_of", .glo "first_bad_link"]
def fa1 : List Fa := [.glo "neighbour_table", .glo "pieces_of", .glo "require_region", .glo "kept", .glo "table_of", .glo "outer_pieces", .glo "outer_sizes", .glo "without_last_raids", .glo "region_fate", .glo "walk_from", .glo "_law_cell", .glo "_law_mixed"]
def fa2 : List Fa := [.glo "_law_draws", .glo "_law_like", .glo "_law_tree", .glo "_law_near", .glo "_law_pieces", .glo "_law_sizes", .glo "_law_grown", .glo "_law_outer", .glo "_law_fair_order", .glo "_law_stronghold", .glo "_law_missing", .glo "_law_holding"]
def fa3 : List Fa := [.glo "_law_meets", .glo "_law_judged", .glo "_law_large_agrees", .glo "law", .glo "strongholds", .glo "_law_told", .glo "Tree", .glo "OutOfRange", .glo "BoughError", .glo "NotRegion", .glo "WrongLength", .free "ValueError"]
def fa4 : List Fa := [.free "abs", .free "any", .free "bool", .free "enumerate", .free "int", .free "isinstance", .free "len", .free "list", .free "max", .free "min", .free "range", .free "reversed"]
def fa5 : List Fa := [.free "sorted", .free "str", .free "sum", .free "super", .free "tuple", .cls "Tree", .mkr "Tree", .meth "Tree" "links", .meth "Tree" "neighbours", .meth "Tree" "all_sizes", .noat "Tree" "size", .noat "Tree" "_links"]
def fa6 : List Fa := [.noat "Tree" "_near"]
def faB : List Fa := fa0 ++ fa1 ++ fa2 ++ fa3 ++ fa4 ++ fa5 ++ fa6
/-! ### the exception's class -/
def oexB (K : PySem.W.Frag) (C : Addr) : Bool := match K.lookup C with
  | some ⟨.type "type", _, .cls cd, sl⟩ => (match cd.mro, sl.toList with
    | .ref C' :: bm, [_, _, _, _, some (.builtin n), _] => C' == C && n == "ValueError.__new__" && !cd.hasDel && cd.hasDict && PySem.HandSPX.refsVE bm
    | _, _ => false)
  | _ => false
theorem oexB_ok {K : PySem.W.Frag} {C : Addr} (q : oexB K C = true) : ∃ nm q N bs bm sn sub ab col dd k0 k1 k2 k3 k5, K.lookup C = some (excClassObj nm q C N bs bm true sn sub ab col dd k0 k1 k2 k3 k5 "ValueError.__new__") ∧ PySem.HandSPX.refsVE bm = true := by
  unfold oexB at q
  split at q
  · rename_i dd cd sl ho
    split at q
    · rename_i C' bm k0 k1 k2 k3 n k5 hm hs
      simp only [Bool.and_eq_true, beq_iff_eq, Bool.not_eq_true'] at q
      obtain ⟨⟨⟨⟨rfl, rfl⟩, hdel⟩, hdc⟩, ht⟩ := q
      obtain ⟨nm, bs, mro, ns, qn, hd, sn, sub, ab, col, del⟩ := cd
      dsimp only at hm hdel hdc
      subst hm hdel hdc
      have hsl : sl = #[k0, k1, k2, k3, some (.builtin "ValueError.__new__"), k5] := by
        obtain ⟨l⟩ := sl
        simp only at hs
        rw [hs]
      subst hsl
      exact ⟨nm, qn, ns, bs, bm, sn, sub, ab, col, dd, k0, k1, k2, k3, k5, ho, ht⟩
    · cases q
  · cases q
abbrev prB : Program := PySem.Challenge.pw_barebough_k50_whole_strongholds
abbrev aO (K : PySem.W.Frag) : Addr := ga K "OutOfRange"
abbrev aOi (K : PySem.W.Frag) : Addr := ma K (aO K) "__init__"
abbrev FnO : Type := Option (Str × Str × Arguments × FuncBody × Scope × Addr × Addr)
def fnO (K : PySem.W.Frag) : FnO := match K.lookup (aOi K) with
  | some ⟨_, _, .func fd, _⟩ => some (fd.name, fd.qualname, fd.params, fd.body, fd.scope, fd.globals, fd.builtins)
  | _ => none
def valO : FnO := some ("__init__", "OutOfRange.__init__", defArgs s_oor, .stmts (defBody s_oor), defScope s_oor, mainGlobals, builtinsNs)
def cloB (K : PySem.W.Frag) : Bool := match K.lookup (aOi K) with
  | some ⟨_, _, .func fd, _⟩ => (match fd.code, fd.closure, fd.defaults with
    | .ref cda, [(x, cc)], .none => decide (x = "__class__") && (PySem.W.codeIn K (.ref cda) "OutOfRange.__init__" && ((match K.lookup cda with
        | some ⟨_, _, .fields vs, _⟩ => (match (vs[2]? : Option Value) with
          | some (.str file _) => ((prB.main.file : Str) == file)
          | _ => false)
        | _ => false) && (match K.lookup cc with
        | some ⟨_, _, .cell (some (.ref D)), _⟩ => decide (D = aO K)
        | _ => false)))
    | _, _, _ => false)
  | _ => false
def eqV1 (a b : Option Value) : Bool := decide (a = b)
def eqB (a b : Option Bool) : Bool := decide (a = b)
def exL (K : PySem.W.Frag) : List Bool := [oexB K (aO K), eqO (PySem.W.findIn K (.ref (aO K)) "__setattr__") (some (some (.builtin "object.__setattr__"))), eqB (PySem.W.subIn K (.ref (aO K)) (.type "BaseException")) (some true), eqV1 (PySem.W.typeIn K (.ref (aO K))) (some (.type "type")), PySem.W.keepIn K (.ref (aO K)),
  cloB K, eqB (PySem.W.mroIn K (aO K) (.ref (aO K))) (some true), eqO (PySem.W.ks_superIn K (aO K) (aO K) "__init__") (some (some (.builtin "ValueError.__init__"))), eqB (PySem.W.subIn K (.ref (aO K)) (.type "ValueError")) (some true), eqO (PySem.W.nsIn K cStatics "thirdparty.any") (some none),
  eqO (PySem.W.findIn K (.ref (aO K)) "value") (some none), eqO (PySem.W.findIn K (.ref (aO K)) "__init__") (some (some (.ref (aOi K)))), eqV1 (PySem.W.typeIn K (.ref (aOi K))) (some (.type "function")), eqO (PySem.W.findIn K (.ref (aO K)) "__getattribute__") (some (some (.builtin "BaseException.__getattribute__"))), eqO (PySem.W.findIn K (.ref (aO K)) "__getattr__") (some none),
  PySem.W.hasDictIn K (aO K), eqO (PySem.W.findIn K (.ref (aO K)) "__class__") (some (some (.builtin "object.__class__"))), eqO (PySem.W.specialIn K (.builtin "object.__class__") "__get__") (some (some (.builtin "getset_descriptor.__get__"))), eqB (PySem.W.takesIn K (.builtin "object.__class__")) (some true), eqB (PySem.W.mroIn K (aO K) (.type "object")) (some true),
  eqB (PySem.W.exmOne K (.ref (aO K)) (.ref (aO K))) (some true), eqB (PySem.W.kitOne K (.ref (aO K)) (.ref (ga K "BoughError"))) (some true), eqB (PySem.W.kitOne K (.ref (aO K)) (.type "ValueError")) (some true), eqB (PySem.W.kitAny K (.ref (aO K)) [.ref (ga K "NotRegion"), .ref (ga K "WrongLength")]) (some false)]
abbrev AlB : Type := AlD × Bool × FnO
def obsB (K : PySem.W.Frag) : AlB := (obsD faB fnB K, (exL K).all id, fnO K)
def valB : AlB := (valD fnB, true, valO)
def SaysB (K : PySem.W.Frag) : Prop := obsB K = valB
def asB (g : Addr → Option Obj) : List Addr := asD g 6 ++ [cStatics]
def obsBG (g : Addr → Option Obj) : AlB := obsB (frG g (asB g))
def hkB : PySem.W.Hook where
  α := AlB
  obs := fun s => obsBG s.heap.get?
  val := fun _ => valB
  says := fun _ h => ∃ K : PySem.W.Frag, K.In h ∧ SaysB K
  of := fun _ _ e => ⟨_, frG_in, e⟩
  keeps := fun _ _ _ ⟨K, hK, c⟩ k => ⟨K, PySem.W.Frag.In.keeps hK k, c⟩
abbrev RB : PySem.W.OpenRow := PySem.W.OpenLaw.row PySem.Challenge.rw_barebough_k50_whole_strongholds
def obB (s : PySem.W.SharedT) : AlB := obsBG (HandSHeadRun.getT s)
theorem obB_eq (s : PySem.W.SharedT) : obB s = hkB.obs s.abs := by
  have e : HandSHeadRun.getT s = s.abs.heap.get? := funext (HandSHeadRun.getT_eq s)
  show obsBG (HandSHeadRun.getT s) = obsBG s.abs.heap.get?
  rw [e]
def lo0 : List Str := ["_wall", "BoughError", "BadTree", "OutOfRange", "WrongLength", "NotRegion", "top_sums", "first_break", "fits", "counted_bounds", "keeper_step", "raider_step", "step", "pull", "require_turns", "checked_goal", "root_of", "first_bad_link", "neighbour_table", "pieces_of"]
def lo1 : List Str := ["require_region", "kept", "table_of", "outer_pieces", "outer_sizes", "without_last_raids", "region_fate", "strongholds", "walk_from", "Tree", "_law_cell", "_law_mixed", "_law_draws", "_law_like", "_law_tree", "_law_near", "_law_pieces", "_law_sizes", "_law_grown", "_law_outer"]
def lo2 : List Str := ["_law_fair_order", "_law_stronghold", "_law_told", "_law_missing", "_law_holding", "_law_meets", "_law_judged", "_law_large_agrees"]
def looseB : List Str := lo0 ++ lo1 ++ lo2
theorem runB (w : World) : HandSHeadRun.RunEq RB (PySem.W.view RB.prog [56]) hkB obB 8000 looseB w := by
  intro os
  kernel_rfl
end Bw
/-! the end -/
namespace Bw
open PySem PySem.Spec PyProof.Rows L2 He
theorem oor_lk {K : PySem.W.Frag} (c3 : fnO K = valO) (cl : cloB K = true) : ∃ cc cda fd, (∃ oc od kV doc pm an ct osl, fd = PySem.W.ksFn "__init__" "OutOfRange.__init__" (defArgs s_oor) (defBody s_oor) (defScope s_oor) .none kV doc pm an (.ref cda) ct cc ∧ K.lookup (aOi K) = some ⟨oc, od, .func fd, osl⟩) ∧
    PySem.W.codeIn K (.ref cda) "OutOfRange.__init__" = true ∧ (∃ ccl cdd vs ccs file tf, K.lookup cda = some ⟨ccl, cdd, .fields vs, ccs⟩ ∧ vs[2]? = some (.str file tf) ∧ ((prB.main.file : Str) == file) = true) ∧ ∃ cl cld csl, K.lookup cc = some ⟨cl, cld, .cell (some (.ref (aO K))), csl⟩ := by
  unfold fnO at c3
  unfold cloB at cl
  cases q : K.lookup (aOi K) with
  | none =>
    rw [q] at cl
    cases cl
  | some ob =>
    obtain ⟨oc, od, dt, osl⟩ := ob
    rw [q] at cl c3
    cases dt with
    | func fd =>
      obtain ⟨n1, n2, n3, n4, n5, n6, n7, n8, n9, n10, n11, n12, n13, n14, n15⟩ := fd
      have e2 : (some (n1, n2, n3, n4, n5, n6, n15) : FnO) = (some (("__init__" : Str), ("OutOfRange.__init__" : Str), defArgs s_oor, FuncBody.stmts (defBody s_oor), defScope s_oor, mainGlobals, builtinsNs) : FnO) := c3
      simp only [Option.some.injEq, Prod.mk.injEq] at e2
      obtain ⟨h1, h2, h3, h4, h5, h6, h7⟩ := e2
      subst h1 h2 h3 h4 h5 h6 h7
      dsimp only at cl
      split at cl
      · rename_i cda xx cc
        obtain ⟨k1, cl⟩ := ba cl
        obtain ⟨k2, cl⟩ := ba cl
        obtain ⟨k3, k4⟩ := ba cl
        have k1 := of_decide_eq_true k1
        subst k1
        refine ⟨cc, cda, _, ⟨oc, od, n9, n10, n11, n12, n14, osl, rfl, rfl⟩, k2, ?_, ?_⟩
        · cases q2 : K.lookup cda with
          | none =>
            rw [q2] at k3
            cases k3
          | some ob2 =>
            obtain ⟨a1, a2, a3, a4⟩ := ob2
            rw [q2] at k3
            cases a3 with
            | fields vs =>
              dsimp only at k3
              cases q3 : (vs[2]? : Option Value) with
              | none =>
                rw [q3] at k3
                cases k3
              | some v =>
                rw [q3] at k3
                cases v with
                | str file tf => exact ⟨a1, a2, vs, a4, file, tf, rfl, q3, k3⟩
                | _ => cases k3
            | _ => cases k3
        · cases q2 : K.lookup cc with
          | none =>
            rw [q2] at k4
            cases k4
          | some ob2 =>
            obtain ⟨a1, a2, a3, a4⟩ := ob2
            rw [q2] at k4
            cases a3 with
            | cell v =>
              cases v with
              | none => cases k4
              | some v =>
                cases v with
                | ref D =>
                  have k4 : D = aO K := of_decide_eq_true k4
                  subst k4
                  exact ⟨a1, a2, a4, rfl⟩
                | _ => cases k4
            | _ => cases k4
      · cases cl
    | _ => cases cl
theorem ok_like0 {P : Program} {w : World} {K : PySem.W.Frag} {mg : Str → Option Value} {base : Heap} {f : Addr} {fd : FuncData} : FnOk P w K mg base CX0 0 f fd P_l_like (sp_l_likeN 0) := by
  have no : ∀ vs H Q E, ¬ sp_l_likeN 0 vs H Q E := fun vs H Q E h => by
    obtain ⟨x, y, d, _, _, _, h, _⟩ := h
    cases d <;> exact h
  exact ⟨fun vs H Q E h => (no _ _ _ _ h).elim, fun A outer s H args us vs Q E hr e0 hb r h => (no _ _ _ _ h).elim⟩
abbrev pgB : Program := (PySem.Challenge.rw_barebough_k50_whole_strongholds).prog
theorem factsB {w : World} {K : PySem.W.Frag} {h : Heap} {mg : Str → Option Value} {f : Addr} (X : K.In h) (G : h.Ns mainGlobals mg) (hfa : mg ("law" : Str) = some (.ref f)) (c : SaysB K) :
    ∃ fd : FuncData, (∀ (s : Shared) (v : Value), BindsTo s fd ⟨[v], []⟩ [("_law_script", v)]) ∧ ∀ base : Heap, K.In base → base.Ns mainGlobals mg → FnOk pgB w K mg base CX0 12 f fd P_law (sp_law K (ga K "Tree")) := by
  have c1 : SaysD faB fnB K := congrArg (fun z : AlB => z.1) c
  have c2 : (exL K).all id = true := congrArg (fun z : AlB => z.2.1) c
  have c3 : fnO K = valO := congrArg (fun z : AlB => z.2.2) c
  have ex : ∀ (j : Nat) (b : Bool), (exL K)[j]? = some b → b = true := fun j b hj => List.all_eq_true.mp c2 b (List.mem_of_getElem? hj)
  have B : Blt mg := ⟨free_ok X G (c1.fact 47 (f := .free "ValueError") rfl), free_ok X G (c1.fact 48 (f := .free "abs") rfl), free_ok X G (c1.fact 49 (f := .free "any") rfl), free_ok X G (c1.fact 50 (f := .free "bool") rfl), free_ok X G (c1.fact 51 (f := .free "enumerate") rfl), free_ok X G (c1.fact 52 (f := .free "int") rfl), free_ok X G (c1.fact 53 (f := .free "isinstance") rfl), free_ok X G (c1.fact 54 (f := .free "len") rfl), free_ok X G (c1.fact 55 (f := .free "list") rfl), free_ok X G (c1.fact 56 (f := .free "max") rfl), free_ok X G (c1.fact 57 (f := .free "min") rfl), free_ok X G (c1.fact 58 (f := .free "range") rfl), free_ok X G (c1.fact 59 (f := .free "reversed") rfl), free_ok X G (c1.fact 60 (f := .free "sorted") rfl), free_ok X G (c1.fact 61 (f := .free "str") rfl), free_ok X G (c1.fact 62 (f := .free "sum") rfl), free_ok X G (c1.fact 64 (f := .free "tuple") rfl)⟩
  have T : TrC K mg (ga K "Tree") (ma K (ga K "Tree") "__init__") (ma K (ga K "Tree") "links") (ma K (ga K "Tree") "neighbours") (ma K (ga K "Tree") "all_sizes") := ⟨cls_ok (c1.fact 65 (f := .cls "Tree") rfl), mkr_ok (c1.fact 66 (f := .mkr "Tree") rfl), glo_ok X G (c1.fact 42 (f := .glo "Tree") rfl), meth_ok (c1.fact 67 (f := .meth "Tree" "links") rfl), meth_ok (c1.fact 68 (f := .meth "Tree" "neighbours") rfl), meth_ok (c1.fact 69 (f := .meth "Tree" "all_sizes") rfl)⟩
  have TA : TrA K (ga K "Tree") := ⟨cls_ok (c1.fact 65 (f := .cls "Tree") rfl), noat_ok (c1.fact 70 (f := .noat "Tree" "size") rfl), noat_ok (c1.fact 71 (f := .noat "Tree" "_links") rfl), noat_ok (c1.fact 72 (f := .noat "Tree" "_near") rfl)⟩
  obtain ⟨cc, cda, fdO, hlk, hcdi, hcode, hcell⟩ := oor_lk c3 (ex 5 _ rfl)
  have OX : OexC K (aO K) := ⟨oexB_ok (ex 0 _ rfl), eqO_ok (ex 1 _ rfl), of_decide_eq_true (ex 2 _ rfl), of_decide_eq_true (ex 3 _ rfl), ex 4 _ rfl⟩
  have OF : OorF pgB K mg (aO K) (aOi K) cc cda fdO := ⟨OX, hlk, hcdi, hcode, hcell, of_decide_eq_true (ex 6 _ rfl), eqO_ok (ex 7 _ rfl), of_decide_eq_true (ex 8 _ rfl), eqO_ok (ex 9 _ rfl), eqO_ok (ex 10 _ rfl), free_ok X G (c1.fact 63 (f := .free "super") rfl), by decide +kernel⟩
  have EC : ExcC K (aO K) := ⟨eqO_ok (ex 13 _ rfl), eqO_ok (ex 14 _ rfl), of_decide_eq_true (ex 2 _ rfl), ex 15 _ rfl, eqO_ok (ex 16 _ rfl), eqO_ok (ex 17 _ rfl), of_decide_eq_true (ex 18 _ rfl), of_decide_eq_true (ex 19 _ rfl)⟩
  have XF : XfC K (aO K) := ⟨EC.hg, EC.hk, EC.hs, EC.hd⟩
  have TL : TldA K (aO K) (ga K "BoughError") (ga K "NotRegion") (ga K "WrongLength") := ⟨of_decide_eq_true (ex 20 _ rfl), of_decide_eq_true (ex 21 _ rfl), of_decide_eq_true (ex 22 _ rfl), of_decide_eq_true (ex 23 _ rfl)⟩
  have gO : mg "OutOfRange" = some (.ref (aO K)) := glo_ok X G (c1.fact 43 (f := .glo "OutOfRange") rfl)
  obtain ⟨fd_top_sums, F_top_sums⟩ := c1.def_ 0 (d := d_top_sums) rfl
  have g_top_sums : mg "top_sums" = some (.ref (ga K "top_sums")) := glo_ok X G (c1.fact 0 (f := .glo "top_sums") rfl)
  have b_top_sums : Binds K fd_top_sums P_top_sums [] := FunD.bindsN F_top_sums fun _ _ _ _ _ _ us hl => match us, hl with | [_], _ => rfl
  obtain ⟨fd_first_break, F_first_break⟩ := c1.def_ 1 (d := d_first_break) rfl
  have g_first_break : mg "first_break" = some (.ref (ga K "first_break")) := glo_ok X G (c1.fact 1 (f := .glo "first_break") rfl)
  have b_first_break : Binds K fd_first_break P_first_break [] := FunD.bindsN F_first_break fun _ _ _ _ _ _ us hl => match us, hl with | [_, _], _ => rfl
  obtain ⟨fd_fits, F_fits⟩ := c1.def_ 2 (d := d_fits) rfl
  have g_fits : mg "fits" = some (.ref (ga K "fits")) := glo_ok X G (c1.fact 2 (f := .glo "fits") rfl)
  have b_fits : Binds K fd_fits P_fits [] := FunD.bindsN F_fits fun _ _ _ _ _ _ us hl => match us, hl with | [_, _], _ => rfl
  obtain ⟨fd_counted_bounds, F_counted_bounds⟩ := c1.def_ 3 (d := d_counted_bounds) rfl
  have g_counted_bounds : mg "counted_bounds" = some (.ref (ga K "counted_bounds")) := glo_ok X G (c1.fact 3 (f := .glo "counted_bounds") rfl)
  have b_counted_bounds : Binds K fd_counted_bounds P_counted_bounds [] := FunD.bindsN F_counted_bounds fun _ _ _ _ _ _ us hl => match us, hl with | [_], _ => rfl
  obtain ⟨fd_keeper_step, F_keeper_step⟩ := c1.def_ 4 (d := d_keeper_step) rfl
  have g_keeper_step : mg "keeper_step" = some (.ref (ga K "keeper_step")) := glo_ok X G (c1.fact 4 (f := .glo "keeper_step") rfl)
  have b_keeper_step : Binds K fd_keeper_step P_keeper_step [] := FunD.bindsN F_keeper_step fun _ _ _ _ _ _ us hl => match us, hl with | [_], _ => rfl
  obtain ⟨fd_raider_step, F_raider_step⟩ := c1.def_ 5 (d := d_raider_step) rfl
  have g_raider_step : mg "raider_step" = some (.ref (ga K "raider_step")) := glo_ok X G (c1.fact 5 (f := .glo "raider_step") rfl)
  have b_raider_step : Binds K fd_raider_step P_raider_step [] := FunD.bindsN F_raider_step fun _ _ _ _ _ _ us hl => match us, hl with | [_], _ => rfl
  obtain ⟨fd_step, F_step⟩ := c1.def_ 6 (d := d_step) rfl
  have g_step : mg "step" = some (.ref (ga K "step")) := glo_ok X G (c1.fact 6 (f := .glo "step") rfl)
  have b_step : Binds K fd_step P_step [] := FunD.bindsN F_step fun _ _ _ _ _ _ us hl => match us, hl with | [_, _], _ => rfl
  obtain ⟨fd_pull, F_pull⟩ := c1.def_ 7 (d := d_pull) rfl
  have g_pull : mg "pull" = some (.ref (ga K "pull")) := glo_ok X G (c1.fact 7 (f := .glo "pull") rfl)
  obtain ⟨fd_require_turns, F_require_turns⟩ := c1.def_ 8 (d := d_require_turns) rfl
  have g_require_turns : mg "require_turns" = some (.ref (ga K "require_turns")) := glo_ok X G (c1.fact 8 (f := .glo "require_turns") rfl)
  have b_require_turns : Binds K fd_require_turns P_require_turns [] := FunD.bindsN F_require_turns fun _ _ _ _ _ _ us hl => match us, hl with | [_, _], _ => rfl
  obtain ⟨fd_checked_goal, F_checked_goal⟩ := c1.def_ 9 (d := d_checked_goal) rfl
  have g_checked_goal : mg "checked_goal" = some (.ref (ga K "checked_goal")) := glo_ok X G (c1.fact 9 (f := .glo "checked_goal") rfl)
  have b_checked_goal : Binds K fd_checked_goal P_checked_goal [] := FunD.bindsN F_checked_goal fun _ _ _ _ _ _ us hl => match us, hl with | [_, _], _ => rfl
  obtain ⟨fd_root_of, F_root_of⟩ := c1.def_ 10 (d := d_root_of) rfl
  have g_root_of : mg "root_of" = some (.ref (ga K "root_of")) := glo_ok X G (c1.fact 10 (f := .glo "root_of") rfl)
  have b_root_of : Binds K fd_root_of P_root_of [] := FunD.bindsN F_root_of fun _ _ _ _ _ _ us hl => match us, hl with | [_, _], _ => rfl
  obtain ⟨fd_first_bad_link, F_first_bad_link⟩ := c1.def_ 11 (d := d_first_bad_link) rfl
  have g_first_bad_link : mg "first_bad_link" = some (.ref (ga K "first_bad_link")) := glo_ok X G (c1.fact 11 (f := .glo "first_bad_link") rfl)
  have b_first_bad_link : Binds K fd_first_bad_link P_first_bad_link [] := FunD.bindsN F_first_bad_link fun _ _ _ _ _ _ us hl => match us, hl with | [_, _], _ => rfl
  obtain ⟨fd_neighbour_table, F_neighbour_table⟩ := c1.def_ 12 (d := d_neighbour_table) rfl
  have g_neighbour_table : mg "neighbour_table" = some (.ref (ga K "neighbour_table")) := glo_ok X G (c1.fact 12 (f := .glo "neighbour_table") rfl)
  have b_neighbour_table : Binds K fd_neighbour_table P_neighbour_table [] := FunD.bindsN F_neighbour_table fun _ _ _ _ _ _ us hl => match us, hl with | [_, _], _ => rfl
  obtain ⟨fd_pieces_of, F_pieces_of⟩ := c1.def_ 13 (d := d_pieces_of) rfl
  have g_pieces_of : mg "pieces_of" = some (.ref (ga K "pieces_of")) := glo_ok X G (c1.fact 13 (f := .glo "pieces_of") rfl)
  have b_pieces_of : Binds K fd_pieces_of P_pieces_of [] := FunD.bindsN F_pieces_of fun _ _ _ _ _ _ us hl => match us, hl with | [_, _], _ => rfl
  obtain ⟨fd_require_region, F_require_region⟩ := c1.def_ 14 (d := d_require_region) rfl
  have g_require_region : mg "require_region" = some (.ref (ga K "require_region")) := glo_ok X G (c1.fact 14 (f := .glo "require_region") rfl)
  have b_require_region : Binds K fd_require_region P_require_region [] := FunD.bindsN F_require_region fun _ _ _ _ _ _ us hl => match us, hl with | [_, _], _ => rfl
  obtain ⟨fd_kept, F_kept⟩ := c1.def_ 15 (d := d_kept) rfl
  have g_kept : mg "kept" = some (.ref (ga K "kept")) := glo_ok X G (c1.fact 15 (f := .glo "kept") rfl)
  obtain ⟨fd_table_of, F_table_of⟩ := c1.def_ 16 (d := d_table_of) rfl
  have g_table_of : mg "table_of" = some (.ref (ga K "table_of")) := glo_ok X G (c1.fact 16 (f := .glo "table_of") rfl)
  have b_table_of : Binds K fd_table_of P_table_of [] := FunD.bindsN F_table_of fun _ _ _ _ _ _ us hl => match us, hl with | [_], _ => rfl
  obtain ⟨fd_outer_pieces, F_outer_pieces⟩ := c1.def_ 17 (d := d_outer_pieces) rfl
  have g_outer_pieces : mg "outer_pieces" = some (.ref (ga K "outer_pieces")) := glo_ok X G (c1.fact 17 (f := .glo "outer_pieces") rfl)
  have b_outer_pieces : Binds K fd_outer_pieces P_outer_pieces [] := FunD.bindsN F_outer_pieces fun _ _ _ _ _ _ us hl => match us, hl with | [_, _, _], _ => rfl
  obtain ⟨fd_outer_sizes, F_outer_sizes⟩ := c1.def_ 18 (d := d_outer_sizes) rfl
  have g_outer_sizes : mg "outer_sizes" = some (.ref (ga K "outer_sizes")) := glo_ok X G (c1.fact 18 (f := .glo "outer_sizes") rfl)
  have b_outer_sizes : Binds K fd_outer_sizes P_outer_sizes [] := FunD.bindsN F_outer_sizes fun _ _ _ _ _ _ us hl => match us, hl with | [_, _], _ => rfl
  obtain ⟨fd_without_last_raids, F_without_last_raids⟩ := c1.def_ 19 (d := d_without_last_raids) rfl
  have g_without_last_raids : mg "without_last_raids" = some (.ref (ga K "without_last_raids")) := glo_ok X G (c1.fact 19 (f := .glo "without_last_raids") rfl)
  have b_without_last_raids : Binds K fd_without_last_raids P_without_last_raids [] := FunD.bindsN F_without_last_raids fun _ _ _ _ _ _ us hl => match us, hl with | [_, _], _ => rfl
  obtain ⟨fd_region_fate, F_region_fate⟩ := c1.def_ 20 (d := d_region_fate) rfl
  have g_region_fate : mg "region_fate" = some (.ref (ga K "region_fate")) := glo_ok X G (c1.fact 20 (f := .glo "region_fate") rfl)
  have b_region_fate : Binds K fd_region_fate P_region_fate [] := FunD.bindsN F_region_fate fun _ _ _ _ _ _ us hl => match us, hl with | [_, _, _], _ => rfl
  obtain ⟨fd_walk_from, F_walk_from⟩ := c1.def_ 21 (d := d_walk_from) rfl
  have g_walk_from : mg "walk_from" = some (.ref (ga K "walk_from")) := glo_ok X G (c1.fact 21 (f := .glo "walk_from") rfl)
  have b_walk_from : Binds K fd_walk_from P_walk_from [] := FunD.bindsN F_walk_from fun _ _ _ _ _ _ us hl => match us, hl with | [_, _], _ => rfl
  obtain ⟨fd_Tree_init, F_Tree_init⟩ := c1.def_ 22 (d := d_Tree_init) rfl
  have b_Tree_init : Binds K fd_Tree_init P_Tree_init [] := FunD.bindsN F_Tree_init fun _ _ _ _ _ _ us hl => match us, hl with | [_, _, _], _ => rfl
  obtain ⟨fd_Tree_links, F_Tree_links⟩ := c1.def_ 23 (d := d_Tree_links) rfl
  have b_Tree_links : Binds K fd_Tree_links P_Tree_links [] := FunD.bindsN F_Tree_links fun _ _ _ _ _ _ us hl => match us, hl with | [_], _ => rfl
  obtain ⟨fd_Tree_neighbours, F_Tree_neighbours⟩ := c1.def_ 24 (d := d_Tree_neighbours) rfl
  have b_Tree_neighbours : Binds K fd_Tree_neighbours P_Tree_neighbours [] := FunD.bindsN F_Tree_neighbours fun _ _ _ _ _ _ us hl => match us, hl with | [_, _], _ => rfl
  obtain ⟨fd_Tree_all_sizes, F_Tree_all_sizes⟩ := c1.def_ 25 (d := d_Tree_all_sizes) rfl
  have b_Tree_all_sizes : Binds K fd_Tree_all_sizes P_Tree_all_sizes [] := FunD.bindsN F_Tree_all_sizes fun _ _ _ _ _ _ us hl => match us, hl with | [_], _ => rfl
  obtain ⟨fd_l_cell, F_l_cell⟩ := c1.def_ 26 (d := d_l_cell) rfl
  have g_l_cell : mg "_law_cell" = some (.ref (ga K "_law_cell")) := glo_ok X G (c1.fact 22 (f := .glo "_law_cell") rfl)
  have b_l_cell : Binds K fd_l_cell P_l_cell [] := FunD.bindsN F_l_cell fun _ _ _ _ _ _ us hl => match us, hl with | [_, _], _ => rfl
  obtain ⟨fd_l_mixed, F_l_mixed⟩ := c1.def_ 27 (d := d_l_mixed) rfl
  have g_l_mixed : mg "_law_mixed" = some (.ref (ga K "_law_mixed")) := glo_ok X G (c1.fact 23 (f := .glo "_law_mixed") rfl)
  have b_l_mixed : Binds K fd_l_mixed P_l_mixed [] := FunD.bindsN F_l_mixed fun _ _ _ _ _ _ us hl => match us, hl with | [_, _, _], _ => rfl
  obtain ⟨fd_l_draws, F_l_draws⟩ := c1.def_ 28 (d := d_l_draws) rfl
  have g_l_draws : mg "_law_draws" = some (.ref (ga K "_law_draws")) := glo_ok X G (c1.fact 24 (f := .glo "_law_draws") rfl)
  have b_l_draws : Binds K fd_l_draws P_l_draws [] := FunD.bindsN F_l_draws fun _ _ _ _ _ _ us hl => match us, hl with | [_, _], _ => rfl
  obtain ⟨fd_l_like, F_l_like⟩ := c1.def_ 29 (d := d_l_like) rfl
  have g_l_like : mg "_law_like" = some (.ref (ga K "_law_like")) := glo_ok X G (c1.fact 25 (f := .glo "_law_like") rfl)
  have b_l_like : Binds K fd_l_like P_l_like [] := FunD.bindsN F_l_like fun _ _ _ _ _ _ us hl => match us, hl with | [_, _], _ => rfl
  obtain ⟨fd_l_tree, F_l_tree⟩ := c1.def_ 30 (d := d_l_tree) rfl
  have g_l_tree : mg "_law_tree" = some (.ref (ga K "_law_tree")) := glo_ok X G (c1.fact 26 (f := .glo "_law_tree") rfl)
  have b_l_tree : Binds K fd_l_tree P_l_tree [] := FunD.bindsN F_l_tree fun _ _ _ _ _ _ us hl => match us, hl with | [_, _], _ => rfl
  obtain ⟨fd_l_near, F_l_near⟩ := c1.def_ 31 (d := d_l_near) rfl
  have g_l_near : mg "_law_near" = some (.ref (ga K "_law_near")) := glo_ok X G (c1.fact 27 (f := .glo "_law_near") rfl)
  have b_l_near : Binds K fd_l_near P_l_near [] := FunD.bindsN F_l_near fun _ _ _ _ _ _ us hl => match us, hl with | [_, _], _ => rfl
  obtain ⟨fd_l_pieces, F_l_pieces⟩ := c1.def_ 32 (d := d_l_pieces) rfl
  have g_l_pieces : mg "_law_pieces" = some (.ref (ga K "_law_pieces")) := glo_ok X G (c1.fact 28 (f := .glo "_law_pieces") rfl)
  have b_l_pieces : Binds K fd_l_pieces P_l_pieces [] := FunD.bindsN F_l_pieces fun _ _ _ _ _ _ us hl => match us, hl with | [_, _], _ => rfl
  obtain ⟨fd_l_sizes, F_l_sizes⟩ := c1.def_ 33 (d := d_l_sizes) rfl
  have g_l_sizes : mg "_law_sizes" = some (.ref (ga K "_law_sizes")) := glo_ok X G (c1.fact 29 (f := .glo "_law_sizes") rfl)
  have b_l_sizes : Binds K fd_l_sizes P_l_sizes [] := FunD.bindsN F_l_sizes fun _ _ _ _ _ _ us hl => match us, hl with | [_, _, _], _ => rfl
  obtain ⟨fd_l_grown, F_l_grown⟩ := c1.def_ 34 (d := d_l_grown) rfl
  have g_l_grown : mg "_law_grown" = some (.ref (ga K "_law_grown")) := glo_ok X G (c1.fact 30 (f := .glo "_law_grown") rfl)
  have b_l_grown : Binds K fd_l_grown P_l_grown [] := FunD.bindsN F_l_grown fun _ _ _ _ _ _ us hl => match us, hl with | [_, _, _], _ => rfl
  obtain ⟨fd_l_outer, F_l_outer⟩ := c1.def_ 35 (d := d_l_outer) rfl
  have g_l_outer : mg "_law_outer" = some (.ref (ga K "_law_outer")) := glo_ok X G (c1.fact 31 (f := .glo "_law_outer") rfl)
  have b_l_outer : Binds K fd_l_outer P_l_outer [] := FunD.bindsN F_l_outer fun _ _ _ _ _ _ us hl => match us, hl with | [_, _], _ => rfl
  obtain ⟨fd_l_fair_order, F_l_fair_order⟩ := c1.def_ 36 (d := d_l_fair_order) rfl
  have g_l_fair_order : mg "_law_fair_order" = some (.ref (ga K "_law_fair_order")) := glo_ok X G (c1.fact 32 (f := .glo "_law_fair_order") rfl)
  have b_l_fair_order : Binds K fd_l_fair_order P_l_fair_order [] := FunD.bindsN F_l_fair_order fun _ _ _ _ _ _ us hl => match us, hl with | [_, _, _], _ => rfl
  obtain ⟨fd_l_stronghold, F_l_stronghold⟩ := c1.def_ 37 (d := d_l_stronghold) rfl
  have g_l_stronghold : mg "_law_stronghold" = some (.ref (ga K "_law_stronghold")) := glo_ok X G (c1.fact 33 (f := .glo "_law_stronghold") rfl)
  have b_l_stronghold : Binds K fd_l_stronghold P_l_stronghold [] := FunD.bindsN F_l_stronghold fun _ _ _ _ _ _ us hl => match us, hl with | [_, _, _], _ => rfl
  obtain ⟨fd_l_missing, F_l_missing⟩ := c1.def_ 38 (d := d_l_missing) rfl
  have g_l_missing : mg "_law_missing" = some (.ref (ga K "_law_missing")) := glo_ok X G (c1.fact 34 (f := .glo "_law_missing") rfl)
  have b_l_missing : Binds K fd_l_missing P_l_missing [] := FunD.bindsN F_l_missing fun _ _ _ _ _ _ us hl => match us, hl with | [_, _, _], _ => rfl
  obtain ⟨fd_l_holding, F_l_holding⟩ := c1.def_ 39 (d := d_l_holding) rfl
  have g_l_holding : mg "_law_holding" = some (.ref (ga K "_law_holding")) := glo_ok X G (c1.fact 35 (f := .glo "_law_holding") rfl)
  have b_l_holding : Binds K fd_l_holding P_l_holding [] := FunD.bindsN F_l_holding fun _ _ _ _ _ _ us hl => match us, hl with | [_, _], _ => rfl
  obtain ⟨fd_l_meets, F_l_meets⟩ := c1.def_ 40 (d := d_l_meets) rfl
  have g_l_meets : mg "_law_meets" = some (.ref (ga K "_law_meets")) := glo_ok X G (c1.fact 36 (f := .glo "_law_meets") rfl)
  have b_l_meets : Binds K fd_l_meets P_l_meets [] := FunD.bindsN F_l_meets fun _ _ _ _ _ _ us hl => match us, hl with | [_, _], _ => rfl
  obtain ⟨fd_l_judged, F_l_judged⟩ := c1.def_ 41 (d := d_l_judged) rfl
  have g_l_judged : mg "_law_judged" = some (.ref (ga K "_law_judged")) := glo_ok X G (c1.fact 37 (f := .glo "_law_judged") rfl)
  have b_l_judged : Binds K fd_l_judged P_l_judged [] := FunD.bindsN F_l_judged fun _ _ _ _ _ _ us hl => match us, hl with | [_, _, _], _ => rfl
  obtain ⟨fd_l_large_agrees, F_l_large_agrees⟩ := c1.def_ 42 (d := d_l_large_agrees) rfl
  have g_l_large_agrees : mg "_law_large_agrees" = some (.ref (ga K "_law_large_agrees")) := glo_ok X G (c1.fact 38 (f := .glo "_law_large_agrees") rfl)
  have b_l_large_agrees : Binds K fd_l_large_agrees P_l_large_agrees [] := FunD.bindsN F_l_large_agrees fun _ _ _ _ _ _ us hl => match us, hl with | [_], _ => rfl
  obtain ⟨fd_law, F_law⟩ := c1.def_ 43 (d := d_law) rfl
  have g_law : mg "law" = some (.ref (ga K "law")) := glo_ok X G (c1.fact 39 (f := .glo "law") rfl)
  have b_law : Binds K fd_law P_law [] := FunD.bindsN F_law fun _ _ _ _ _ _ us hl => match us, hl with | [_], _ => rfl
  obtain ⟨fd_strongholds, F_strongholds⟩ := c1.def_ 44 (d := d_strongholds) rfl
  have g_strongholds : mg "strongholds" = some (.ref (ga K "strongholds")) := glo_ok X G (c1.fact 40 (f := .glo "strongholds") rfl)
  have b_strongholds : Binds K fd_strongholds P_strongholds [] := FunD.bindsN F_strongholds fun _ _ _ _ _ _ us hl => match us, hl with | [_, _], _ => rfl
  obtain ⟨fd_l_told, F_l_told⟩ := c1.def_ 45 (d := d_l_told) rfl
  have g_l_told : mg "_law_told" = some (.ref (ga K "_law_told")) := glo_ok X G (c1.fact 41 (f := .glo "_law_told") rfl)
  have b_l_told : Binds K fd_l_told P_l_told [] := FunD.bindsN F_l_told fun _ _ _ _ _ _ us hl => match us, hl with | [_, _], _ => rfl
  obtain ⟨dsK, hdsK, b_kept⟩ := FunD.binds0 (ps := P_kept) F_kept 2 (List.cons_ne_nil _ _) rfl fun D doc pm an cdv ct us ks l1 l2 => match us, ks, l1, l2 with | [_, _], [_], _, _ => ⟨_, _, _, _, _, _, rfl, rfl, rfl⟩
  have hdsK : Vals [V.non] dsK := hdsK
  obtain ⟨u0, rfl, hu0⟩ := vals1 hdsK
  have hu0 : u0 = Value.none := hu0
  subst hu0
  have kb_pull : KBn K fd_pull P_pull 1 ["goal"] (fun us ws => us ++ ws) gApp := by
    obtain ⟨oc, od, dV, kV, doc, pm, an, cdv, ct, osl, e, lk, hcd, hD, hK⟩ := F_pull.ex
    rcases hD with ⟨_, rfl⟩ | ⟨e, _⟩
    · subst e
      exact ⟨fun s us ws KX l1 l2 => match us, ws, l1, l2 with | [_], [_], _, _ => .of_eq (by first | rfl | with_unfolding_all rfl), fun r1 r2 => r1.append r2⟩
    · exact absurd rfl e
  have e := hfa.symm.trans g_law
  cases e
  refine ⟨fd_law, fun s v => FunD.bindsA (ps := P_law) F_law (fun _ _ _ _ _ _ us hl => match us, hl with | [_], _ => rfl) s [v] rfl, fun base _ _ => ?_⟩
  have lk1 := ok_l_like F_l_like B T (f_l_like := ga K "_law_like") (fd_l_like := fd_l_like) ⟨ok_like0 (P := pgB) (w := w) (base := base), g_l_like, F_l_like.kp, b_l_like⟩ (rd_l_like 0)
  have lk2 := ok_l_like F_l_like B T ⟨lk1, g_l_like, F_l_like.kp, b_l_like⟩ (rd_l_like 1)
  have lk3 := ok_l_like F_l_like B T ⟨lk2, g_l_like, F_l_like.kp, b_l_like⟩ (rd_l_like 2)
  have lk4 := ok_l_like F_l_like B T ⟨lk3, g_l_like, F_l_like.kp, b_l_like⟩ (rd_l_like 3)
  have lk5 := ok_l_like F_l_like B T ⟨lk4, g_l_like, F_l_like.kp, b_l_like⟩ (rd_l_like 4)
  have lk6 := ok_l_like F_l_like B T ⟨lk5, g_l_like, F_l_like.kp, b_l_like⟩ (rd_l_like 5)
  have c_l_like : Cal pgB w K mg base 10 "_law_like" P_l_like (sp_l_like K (ga K "Tree")) (ga K "_law_like") fd_l_like := ⟨lk6.mono (by decide), g_l_like, F_l_like.kp, b_l_like⟩
  have c_Tree_neighbours : CalM pgB w K mg base 1 P_Tree_neighbours (sp_Tree_neighbours K (ga K "Tree")) _ _ := ⟨ok_Tree_neighbours (P := pgB) (w := w) (base := base) (C := ga K "Tree") F_Tree_neighbours B T  (rd_Tree_neighbours TA), b_Tree_neighbours⟩
  have c_Tree_links : CalM pgB w K mg base 1 P_Tree_links (sp_Tree_links K (ga K "Tree")) _ _ := ⟨ok_Tree_links (P := pgB) (w := w) (base := base) (C := ga K "Tree") F_Tree_links B T  (rd_Tree_links TA), b_Tree_links⟩
  have c_top_sums : Cal pgB w K mg base 1 "top_sums" P_top_sums (sp_top_sums K (ga K "Tree")) _ _ := ⟨ok_top_sums (P := pgB) (w := w) (base := base) (C := ga K "Tree") F_top_sums B T  (rd_top_sums), g_top_sums, F_top_sums.kp, b_top_sums⟩
  have c_first_break : Cal pgB w K mg base 2 "first_break" P_first_break (sp_first_break K (ga K "Tree")) _ _ := ⟨ok_first_break (P := pgB) (w := w) (base := base) (C := ga K "Tree") F_first_break B T c_top_sums (rd_first_break), g_first_break, F_first_break.kp, b_first_break⟩
  have c_fits : Cal pgB w K mg base 3 "fits" P_fits (sp_fits K (ga K "Tree")) _ _ := ⟨ok_fits (P := pgB) (w := w) (base := base) (C := ga K "Tree") F_fits B T c_first_break (rd_fits), g_fits, F_fits.kp, b_fits⟩
  have c_counted_bounds : Cal pgB w K mg base 1 "counted_bounds" P_counted_bounds (sp_counted_bounds K (ga K "Tree")) _ _ := ⟨ok_counted_bounds (P := pgB) (w := w) (base := base) (C := ga K "Tree") F_counted_bounds B T  (rd_counted_bounds), g_counted_bounds, F_counted_bounds.kp, b_counted_bounds⟩
  have c_raider_step : Cal pgB w K mg base 2 "raider_step" P_raider_step (sp_raider_step K (ga K "Tree")) _ _ := ⟨ok_raider_step (P := pgB) (w := w) (base := base) (C := ga K "Tree") F_raider_step B T c_counted_bounds (rd_raider_step), g_raider_step, F_raider_step.kp, b_raider_step⟩
  have c_keeper_step : Cal pgB w K mg base 2 "keeper_step" P_keeper_step (sp_keeper_step K (ga K "Tree")) _ _ := ⟨ok_keeper_step (P := pgB) (w := w) (base := base) (C := ga K "Tree") F_keeper_step B T c_counted_bounds (rd_keeper_step), g_keeper_step, F_keeper_step.kp, b_keeper_step⟩
  have c_step : Cal pgB w K mg base 3 "step" P_step (sp_step K (ga K "Tree")) _ _ := ⟨ok_step (P := pgB) (w := w) (base := base) (C := ga K "Tree") F_step B T c_raider_step c_keeper_step (rd_step), g_step, F_step.kp, b_step⟩
  have c_pull : CalK pgB w K mg base 4 "pull" P_pull ["goal"] (sp_pull K (ga K "Tree")) _ _ := ⟨ok_pull (P := pgB) (w := w) (base := base) (C := ga K "Tree") F_pull B T c_step (rd_pull), g_pull, F_pull.kp, kb_pull⟩
  have c_checked_goal : Cal pgB w K mg base 1 "checked_goal" P_checked_goal (sp_checked_goal K (ga K "Tree")) _ _ := ⟨ok_checked_goal (P := pgB) (w := w) (base := base) (C := ga K "Tree") F_checked_goal B T  (rd_checked_goal), g_checked_goal, F_checked_goal.kp, b_checked_goal⟩
  have c_require_turns : Cal pgB w K mg base 1 "require_turns" P_require_turns (sp_require_turns K (ga K "Tree")) _ _ := ⟨ok_require_turns (P := pgB) (w := w) (base := base) (C := ga K "Tree") F_require_turns B T  (rd_require_turns), g_require_turns, F_require_turns.kp, b_require_turns⟩
  have c_kept : CalD pgB w K mg base 5 "kept" P_kept [.none] (sp_kept K (ga K "Tree")) _ _ := ⟨ok_kept (P := pgB) (w := w) (base := base) (C := ga K "Tree") F_kept B T c_fits c_pull c_checked_goal c_require_turns (rd_kept), g_kept, F_kept.kp, b_kept⟩
  have c_without_last_raids : Cal pgB w K mg base 1 "without_last_raids" P_without_last_raids (sp_without_last_raids K (ga K "Tree")) _ _ := ⟨ok_without_last_raids (P := pgB) (w := w) (base := base) (C := ga K "Tree") F_without_last_raids B T  (rd_without_last_raids), g_without_last_raids, F_without_last_raids.kp, b_without_last_raids⟩
  have c_pieces_of : Cal pgB w K mg base 1 "pieces_of" P_pieces_of (sp_pieces_of K (ga K "Tree")) _ _ := ⟨ok_pieces_of (P := pgB) (w := w) (base := base) (C := ga K "Tree") F_pieces_of B T  (rd_pieces_of), g_pieces_of, F_pieces_of.kp, b_pieces_of⟩
  have c_outer_pieces : Cal pgB w K mg base 2 "outer_pieces" P_outer_pieces (sp_outer_pieces K (ga K "Tree")) _ _ := ⟨ok_outer_pieces (P := pgB) (w := w) (base := base) (C := ga K "Tree") F_outer_pieces B T c_pieces_of (rd_outer_pieces), g_outer_pieces, F_outer_pieces.kp, b_outer_pieces⟩
  have c_require_region : Cal pgB w K mg base 2 "require_region" P_require_region (sp_require_region K (ga K "Tree")) _ _ := ⟨ok_require_region (P := pgB) (w := w) (base := base) (C := ga K "Tree") F_require_region B T c_pieces_of (rd_require_region), g_require_region, F_require_region.kp, b_require_region⟩
  have c_neighbour_table : Cal pgB w K mg base 1 "neighbour_table" P_neighbour_table (sp_neighbour_table K (ga K "Tree")) _ _ := ⟨ok_neighbour_table (P := pgB) (w := w) (base := base) (C := ga K "Tree") F_neighbour_table B T  (rd_neighbour_table), g_neighbour_table, F_neighbour_table.kp, b_neighbour_table⟩
  have c_table_of : Cal pgB w K mg base 2 "table_of" P_table_of (sp_table_of K (ga K "Tree")) _ _ := ⟨ok_table_of (P := pgB) (w := w) (base := base) (C := ga K "Tree") F_table_of B T c_neighbour_table c_Tree_links (rd_table_of TA), g_table_of, F_table_of.kp, b_table_of⟩
  have c_outer_sizes : Cal pgB w K mg base 3 "outer_sizes" P_outer_sizes (sp_outer_sizes K (ga K "Tree")) _ _ := ⟨ok_outer_sizes (P := pgB) (w := w) (base := base) (C := ga K "Tree") F_outer_sizes B T c_outer_pieces c_require_region c_table_of (rd_outer_sizes TA), g_outer_sizes, F_outer_sizes.kp, b_outer_sizes⟩
  have c_region_fate : Cal pgB w K mg base 6 "region_fate" P_region_fate (sp_region_fate K (ga K "Tree")) _ _ := ⟨ok_region_fate (P := pgB) (w := w) (base := base) (C := ga K "Tree") F_region_fate B T c_kept c_without_last_raids c_outer_sizes (rd_region_fate TA), g_region_fate, F_region_fate.kp, b_region_fate⟩
  have c_l_mixed : Cal pgB w K mg base 1 "_law_mixed" P_l_mixed (sp_l_mixed K (ga K "Tree")) _ _ := ⟨ok_l_mixed (P := pgB) (w := w) (base := base) (C := ga K "Tree") F_l_mixed B T  (rd_l_mixed), g_l_mixed, F_l_mixed.kp, b_l_mixed⟩
  have c_l_draws : Cal pgB w K mg base 2 "_law_draws" P_l_draws (sp_l_draws K (ga K "Tree")) _ _ := ⟨ok_l_draws (P := pgB) (w := w) (base := base) (C := ga K "Tree") F_l_draws B T c_l_mixed (rd_l_draws), g_l_draws, F_l_draws.kp, b_l_draws⟩
  have c_l_fair_order : Cal pgB w K mg base 3 "_law_fair_order" P_l_fair_order (sp_l_fair_order K (ga K "Tree")) _ _ := ⟨ok_l_fair_order (P := pgB) (w := w) (base := base) (C := ga K "Tree") F_l_fair_order B T c_l_draws (rd_l_fair_order), g_l_fair_order, F_l_fair_order.kp, b_l_fair_order⟩
  have c_l_cell : Cal pgB w K mg base 1 "_law_cell" P_l_cell (sp_l_cell K (ga K "Tree")) _ _ := ⟨ok_l_cell (P := pgB) (w := w) (base := base) (C := ga K "Tree") F_l_cell B T  (rd_l_cell), g_l_cell, F_l_cell.kp, b_l_cell⟩
  have c_l_pieces : Cal pgB w K mg base 1 "_law_pieces" P_l_pieces (sp_l_pieces K (ga K "Tree")) _ _ := ⟨ok_l_pieces (P := pgB) (w := w) (base := base) (C := ga K "Tree") F_l_pieces B T  (rd_l_pieces), g_l_pieces, F_l_pieces.kp, b_l_pieces⟩
  have c_l_outer : Cal pgB w K mg base 2 "_law_outer" P_l_outer (sp_l_outer K (ga K "Tree")) _ _ := ⟨ok_l_outer (P := pgB) (w := w) (base := base) (C := ga K "Tree") F_l_outer B T c_l_pieces (rd_l_outer), g_l_outer, F_l_outer.kp, b_l_outer⟩
  have c_l_meets : Cal pgB w K mg base 1 "_law_meets" P_l_meets (sp_l_meets K (ga K "Tree")) _ _ := ⟨ok_l_meets (P := pgB) (w := w) (base := base) (C := ga K "Tree") F_l_meets B T  (rd_l_meets), g_l_meets, F_l_meets.kp, b_l_meets⟩
  have c_l_missing : Cal pgB w K mg base 2 "_law_missing" P_l_missing (sp_l_missing K (ga K "Tree")) _ _ := ⟨ok_l_missing (P := pgB) (w := w) (base := base) (C := ga K "Tree") F_l_missing B T c_l_pieces (rd_l_missing), g_l_missing, F_l_missing.kp, b_l_missing⟩
  have c_l_holding : Cal pgB w K mg base 1 "_law_holding" P_l_holding (sp_l_holding K (ga K "Tree")) _ _ := ⟨ok_l_holding (P := pgB) (w := w) (base := base) (C := ga K "Tree") F_l_holding B T  (rd_l_holding), g_l_holding, F_l_holding.kp, b_l_holding⟩
  have c_l_grown : Cal pgB w K mg base 3 "_law_grown" P_l_grown (sp_l_grown K (ga K "Tree")) _ _ := ⟨ok_l_grown (P := pgB) (w := w) (base := base) (C := ga K "Tree") F_l_grown B T c_l_draws (rd_l_grown), g_l_grown, F_l_grown.kp, b_l_grown⟩
  have c_walk_from : Cal pgB w K mg base 1 "walk_from" P_walk_from (sp_walk_from K (ga K "Tree")) _ _ := ⟨ok_walk_from (P := pgB) (w := w) (base := base) (C := ga K "Tree") F_walk_from B T  (rd_walk_from), g_walk_from, F_walk_from.kp, b_walk_from⟩
  have c_Tree_all_sizes : CalM pgB w K mg base 2 P_Tree_all_sizes (sp_Tree_all_sizes K (ga K "Tree")) _ _ := ⟨ok_Tree_all_sizes (P := pgB) (w := w) (base := base) (C := ga K "Tree") F_Tree_all_sizes B T c_walk_from (rd_Tree_all_sizes TA), b_Tree_all_sizes⟩
  have okX := ok_strongX (P := pgB) (w := w) (base := base) F_strongholds B T c_Tree_all_sizes OF (eqO_ok (ex 11 _ rfl)) (of_decide_eq_true (ex 12 _ rfl)) gO (binds_oor OF) TA
  have c_strongholds : Cal pgB w K mg base 4 "strongholds" P_strongholds (sp_strongholds K (ga K "Tree")) _ _ := ⟨ok_strongholds okX, g_strongholds, F_strongholds.kp, b_strongholds⟩
  have c_l_told : Cal pgB w K mg base 5 "_law_told" P_l_told (sp_l_told K (ga K "Tree")) _ _ := ⟨ok_l_told F_l_told B okX g_strongholds F_strongholds.kp b_strongholds gO (glo_ok X G (c1.fact 44 (f := .glo "BoughError") rfl)) (glo_ok X G (c1.fact 45 (f := .glo "NotRegion") rfl)) (glo_ok X G (c1.fact 46 (f := .glo "WrongLength") rfl)) EC XF (eqO_ok (ex 10 _ rfl)) TL, g_l_told, F_l_told.kp, b_l_told⟩
  have c_l_judged : Cal pgB w K mg base 11 "_law_judged" P_l_judged (sp_l_judged K (ga K "Tree")) _ _ := ⟨ok_l_judged (P := pgB) (w := w) (base := base) (C := ga K "Tree") F_l_judged B T c_l_like c_l_told (rd_l_judged), g_l_judged, F_l_judged.kp, b_l_judged⟩
  have c_l_sizes : Cal pgB w K mg base 2 "_law_sizes" P_l_sizes (sp_l_sizes K (ga K "Tree")) _ _ := ⟨ok_l_sizes (P := pgB) (w := w) (base := base) (C := ga K "Tree") F_l_sizes B T c_l_pieces (rd_l_sizes), g_l_sizes, F_l_sizes.kp, b_l_sizes⟩
  have c_l_stronghold : Cal pgB w K mg base 3 "_law_stronghold" P_l_stronghold (sp_l_stronghold K (ga K "Tree")) _ _ := ⟨ok_l_stronghold (P := pgB) (w := w) (base := base) (C := ga K "Tree") F_l_stronghold B T c_l_pieces c_l_sizes (rd_l_stronghold), g_l_stronghold, F_l_stronghold.kp, b_l_stronghold⟩
  have c_root_of : Cal pgB w K mg base 1 "root_of" P_root_of (sp_root_of K (ga K "Tree")) _ _ := ⟨ok_root_of (P := pgB) (w := w) (base := base) (C := ga K "Tree") F_root_of B T  (rd_root_of), g_root_of, F_root_of.kp, b_root_of⟩
  have c_first_bad_link : Cal pgB w K mg base 2 "first_bad_link" P_first_bad_link (sp_first_bad_link K (ga K "Tree")) _ _ := ⟨ok_first_bad_link (P := pgB) (w := w) (base := base) (C := ga K "Tree") F_first_bad_link B T c_root_of (rd_first_bad_link), g_first_bad_link, F_first_bad_link.kp, b_first_bad_link⟩
  have c_Tree_init : CalM pgB w K mg base 3 P_Tree_init (sp_Tree_init K (ga K "Tree")) _ _ := ⟨ok_Tree_init (P := pgB) (w := w) (base := base) (C := ga K "Tree") F_Tree_init B T c_neighbour_table c_first_bad_link (rd_Tree_init TA), b_Tree_init⟩
  have c_l_near : Cal pgB w K mg base 1 "_law_near" P_l_near (sp_l_near K (ga K "Tree")) _ _ := ⟨ok_l_near (P := pgB) (w := w) (base := base) (C := ga K "Tree") F_l_near B T  (rd_l_near), g_l_near, F_l_near.kp, b_l_near⟩
  have c_l_tree : Cal pgB w K mg base 3 "_law_tree" P_l_tree (sp_l_tree K (ga K "Tree")) _ _ := ⟨ok_l_tree (P := pgB) (w := w) (base := base) (C := ga K "Tree") F_l_tree B T c_l_draws (rd_l_tree), g_l_tree, F_l_tree.kp, b_l_tree⟩
  have c_l_large_agrees : Cal pgB w K mg base 11 "_law_large_agrees" P_l_large_agrees (sp_l_large_agrees K (ga K "Tree")) _ _ := ⟨ok_l_large_agrees (P := pgB) (w := w) (base := base) (C := ga K "Tree") F_l_large_agrees B T c_l_like c_strongholds c_Tree_init c_l_draws (rd_l_large_agrees), g_l_large_agrees, F_l_large_agrees.kp, b_l_large_agrees⟩
  exact ok_law F_law B T c_l_like c_Tree_neighbours c_Tree_links c_region_fate c_l_fair_order c_l_cell c_l_outer c_l_meets c_l_missing c_l_holding c_l_grown c_l_judged c_l_stronghold c_l_told c_Tree_init c_l_near c_l_tree c_l_draws c_l_large_agrees rd_law
end Bw
open PySem PySem.W PySem.Calls PyProof.Rows
theorem PySem.Challenge.cw_barebough_k50_whole_strongholds_holds : PySem.Challenge.rw_barebough_k50_whole_strongholds.Holds := by
  w_on; o_law
  refine HandSHeadRun.head_any (r := OpenLaw.row PySem.Challenge.rw_barebough_k50_whole_strongholds) (q := view (OpenLaw.row PySem.Challenge.rw_barebough_k50_whole_strongholds).prog [56]) (H := Bw.hkB) (ob := Bw.obB) (M := 8000) (loose := Bw.looseB) (d := HandSHeadRun.topDef (OpenLaw.row PySem.Challenge.rw_barebough_k50_whole_strongholds).prog 56) (kwd := []) Bw.obB_eq
    (by kernel_rfl) (fun s => by kernel_rfl) Bw.runB (by kernel_rfl) (by kernel_rfl) (by kernel_rfl) (by rfl) (by first | assumption | decide +kernel) (by decide +kernel) ⟨rfl, rfl, rfl, rfl, rfl, by decide +kernel⟩ ?hw ?hc
  case hw => w_witness2
  case hc =>
    refine L2.walk_ofE (l := PySem.Challenge.rw_barebough_k50_whole_strongholds) (n := 63) (k := 12) (x := "_law_script") (CX := L2.CX0) rfl (by decide) (by kernel_rfl) ⟨rfl, by decide, by decide⟩ ?F (fun _ _ _ _ z => z)
    intro w mg fa h Y G hmg0
    obtain ⟨K, KX, c⟩ := Y
    have hmg : mg ("law" : PySem.Str) = some (.ref fa) := by
      have e : (HandSHeadRun.topDef (OpenLaw.row PySem.Challenge.rw_barebough_k50_whole_strongholds).prog 56).name = ("law" : PySem.Str) := by kernel_rfl
      rw [← e]
      exact hmg0
    obtain ⟨fd, hb, hF⟩ := Bw.factsB (w := w) KX G hmg c
    exact ⟨K, fd, _, KX, hb, fun H a ns hl _ hS => ⟨a, ns, rfl, hS, hl, fun _ => rfl⟩, hF⟩
