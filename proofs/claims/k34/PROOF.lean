import PyProof.Rows.All
import Wide.All
import OpenK.AllK
import Wide.FinOn
import HandS.ForMost
import HandS.SortRule
import HandS.TupSets
import HandS.SetFor
import HandS.Strs
import HandS.WideBits
import HandS.TupLe
import HandS.Walk
import HandS.OwnEq
import HandS.Codes
import KE.GoesEnum
import KE.GoesMore
import PyProof.InstNe
import HandS.IsInst
import HandS.Conv
import HandS.SortInts
import HandS.TupAny
import PySem.Challenge.RW_silencers_k34_whole_lists_that_webs_show
set_option Elab.async false
set_option linter.all false
set_option maxRecDepth 100000
set_option maxHeartbeats 4000000
namespace SM

/-! ### masks below 256 as sets of places -/
def lot (b : Nat) : List Nat := (List.range 8).filter fun i => b.testBit i
def pc (b : Nat) : Nat := (List.range 8).countP fun i => b.testBit i
def sd (a b : Nat) : Nat := a ^^^ (a &&& b)
def nb (near : List Nat) (p : Nat) : Nat := near.getD p 0
def low (b : Nat) : Nat := (lot b).headD 0

theorem lot_len (b : Nat) : (lot b).length = pc b := by
  unfold lot pc; rw [List.countP_eq_length_filter]
theorem mem_lot {b i : Nat} : i ∈ lot b ↔ i < 8 ∧ b.testBit i = true := by
  unfold lot; rw [List.mem_filter, List.mem_range]
theorem tb_sd (a b i : Nat) : (sd a b).testBit i = (a.testBit i && !b.testBit i) := by
  unfold sd; rw [Nat.testBit_xor, Nat.testBit_and]; cases a.testBit i <;> cases b.testBit i <;> rfl
theorem tb_two (p i : Nat) : (2 ^ p).testBit i = decide (p = i) := Nat.testBit_two_pow
theorem tb_lt {b n i : Nat} (h : b < 2 ^ n) (hi : b.testBit i = true) : i < n := by
  rcases Nat.lt_or_ge i n with c | c
  · exact c
  · have := Nat.testBit_lt_two_pow (x := b) (i := i) (Nat.lt_of_lt_of_le h (Nat.pow_le_pow_right (by decide) c))
    rw [this] at hi; cases hi
theorem lt_of_tb {b n : Nat} (h : ∀ i, b.testBit i = true → i < n) : b < 2 ^ n := by
  apply Nat.lt_pow_two_of_testBit
  intro i hi
  cases e : b.testBit i
  · rfl
  · exact absurd (h i e) (by omega)
theorem le8 {n : Nat} (h : n ≤ 8) : 2 ^ n ≤ 256 := by
  have := Nat.pow_le_pow_right (n := 2) (by decide) h
  simpa using this
theorem mask_ext {a b : Nat} (h : ∀ i, a.testBit i = b.testBit i) : a = b := Nat.eq_of_testBit_eq h
theorem cntP_mono {p q : Nat → Bool} (h : ∀ i, p i = true → q i = true) : ∀ l : List Nat, l.countP p ≤ l.countP q
  | [] => Nat.le_refl _
  | x :: l => by
    rw [List.countP_cons, List.countP_cons]
    have ih := cntP_mono h l
    cases e : p x
    · simp; omega
    · have := h x e
      simp [this]; omega
theorem cntP_add {p q r : Nat → Bool} (h : ∀ i, p i = (q i || r i)) (d : ∀ i, q i = true → r i = false) : ∀ l : List Nat, l.countP p = l.countP q + l.countP r
  | [] => rfl
  | x :: l => by
    rw [List.countP_cons, List.countP_cons, List.countP_cons, cntP_add h d l]
    have hx := h x
    have dx := d x
    cases e : q x
    · rw [e] at hx; simp at hx; rw [hx]; simp; omega
    · rw [e] at hx; simp at hx; rw [hx, dx e]; simp; omega
theorem pc_mono {a b : Nat} (h : ∀ i, a.testBit i = true → b.testBit i = true) : pc a ≤ pc b := cntP_mono h _
theorem pc_split (a f : Nat) : pc a = pc (a &&& f) + pc (sd a f) := by
  refine cntP_add (fun i => ?_) (fun i => ?_) _
  · rw [Nat.testBit_and, tb_sd]; cases a.testBit i <;> cases f.testBit i <;> rfl
  · rw [Nat.testBit_and, tb_sd]; cases a.testBit i <;> cases f.testBit i <;> simp
theorem pc_le8 (b : Nat) : pc b ≤ 8 := by
  have := List.countP_le_length (p := fun i => b.testBit i) (l := List.range 8)
  simpa [pc] using this
theorem pc_zero : pc 0 = 0 := by decide
theorem pc_one {p : Nat} (h : p < 8) : pc (2 ^ p) = 1 := by
  have : ∀ p, p < 8 → pc (2 ^ p) = 1 := by decide
  exact this p h
theorem lot_nd (b : Nat) : (lot b).Nodup := List.Pairwise.filter _ List.nodup_range
theorem lot_asc (b : Nat) : (lot b).Pairwise (· < ·) := List.Pairwise.filter _ List.pairwise_lt_range
theorem pc_pos {b i : Nat} (hi : i < 8) (h : b.testBit i = true) : 0 < pc b := by
  unfold pc
  exact List.countP_pos_iff.mpr ⟨i, List.mem_range.mpr hi, h⟩
set_option maxRecDepth 10000 in
theorem lot_step' : ∀ b, b < 256 → 0 < b → lot b = low b :: lot (b &&& (b - 1)) := by decide +kernel
theorem lot_step {b : Nat} (h : b < 256) (h0 : 0 < b) : lot b = low b :: lot (b &&& (b - 1)) := lot_step' b h h0
theorem lot_zero : lot 0 = [] := by decide
theorem and_lt {a b n : Nat} (h : a < 2 ^ n) : a &&& b < 2 ^ n := Nat.lt_of_le_of_lt Nat.and_le_left h
theorem and_pred_lt {b : Nat} (h0 : 0 < b) : b &&& (b - 1) < b := Nat.lt_of_le_of_lt Nat.and_le_right (by omega)
theorem sd_lt {a b n : Nat} (h : a < 2 ^ n) : sd a b < 2 ^ n := lt_of_tb fun i hi => by
  rw [tb_sd] at hi
  exact tb_lt h (by revert hi; cases a.testBit i <;> simp)
theorem or_lt {a b n : Nat} (h : a < 2 ^ n) (h' : b < 2 ^ n) : a ||| b < 2 ^ n := Nat.or_lt_two_pow h h'
theorem two_lt {p n : Nat} (h : p < n) : 2 ^ p < 2 ^ n := Nat.pow_lt_pow_right (by decide) h
theorem sd_sub (a b : Nat) : a - (a &&& b) = sd a b := by
  have e : (a &&& b) + sd a b = a := by
    have e1 : (a &&& b) &&& sd a b = 0 := mask_ext fun i => by
      rw [Nat.testBit_and, Nat.testBit_and, tb_sd, Nat.zero_testBit]; cases a.testBit i <;> cases b.testBit i <;> rfl
    have e2 : (a &&& b) ||| sd a b = a := mask_ext fun i => by
      rw [Nat.testBit_or, Nat.testBit_and, tb_sd]; cases a.testBit i <;> cases b.testBit i <;> rfl
    have : ∀ (x y : Nat), x &&& y = 0 → x + y = x ||| y := by
      intro x
      induction x using Nat.strongRecOn with
      | _ x ih =>
        intro y h
        by_cases hx : x = 0
        · subst hx; simp
        · have hd : x / 2 < x := by omega
          have h2 : (x / 2) &&& (y / 2) = 0 := by rw [← Nat.and_div_two, h]
          have := ih (x / 2) hd (y / 2) h2
          have e4 : (x ||| y) / 2 = (x / 2) ||| (y / 2) := Nat.or_div_two
          have m1 : (x &&& y) % 2 = 0 := by rw [h]
          have m2 : (x ||| y).testBit 0 = (x.testBit 0 || y.testBit 0) := Nat.testBit_or ..
          have m3 : (x &&& y).testBit 0 = (x.testBit 0 && y.testBit 0) := Nat.testBit_and ..
          rw [h, Nat.zero_testBit] at m3
          simp only [Nat.testBit_zero] at m2 m3
          have r1 : x % 2 = 0 ∨ x % 2 = 1 := by omega
          have r2 : y % 2 = 0 ∨ y % 2 = 1 := by omega
          have r3 : (x ||| y) % 2 = 0 ∨ (x ||| y) % 2 = 1 := by omega
          rcases r1 with r1 | r1 <;> rcases r2 with r2 | r2 <;> rcases r3 with r3 | r3 <;> simp [r1, r2, r3] at m2 m3 <;> omega
    have e5 := this _ _ e1
    omega
  omega
end SM
namespace SM
/-! ### webs as lists of masks -/
structure Gr (n : Nat) (near : List Nat) : Prop where
  len : near.length = n
  lo : 1 ≤ n
  hi : n ≤ 8
  sym : ∀ p q, (nb near p).testBit q = (nb near q).testBit p
  irr : ∀ p, (nb near p).testBit p = false
  lt : ∀ p, nb near p < 2 ^ n
def IsR (n : Nat) (near : List Nat) (b : Nat) : Prop :=
  b < 2 ^ n ∧ ∀ p, p < n → (b.testBit p = true ↔ ∀ q, b.testBit q = true → (nb near p).testBit q = false)
def here (near : List Nat) (free p : Nat) : Nat := (nb near p ||| 2 ^ p) &&& free
def IsFork (near : List Nat) (free shut best : Nat) : Prop :=
  ∃ p, p ∈ lot (free ||| shut) ∧ best = here near free p ∧ ∀ q, q ∈ lot (free ||| shut) → pc best ≤ pc (here near free q)
abbrev Tri := Nat × Nat × Nat
def kids (near : List Nat) (c : Nat) : Nat → Nat → List Nat → List Tri
  | _, _, [] => []
  | f, s, p :: ps => (c ||| 2 ^ p, sd (sd f (2 ^ p)) (nb near p), sd s (nb near p)) :: kids near c (sd f (2 ^ p)) (s ||| 2 ^ p) ps
structure Ok3 (n : Nat) (near : List Nat) (t : Tri) : Prop where
  cl : t.1 < 2 ^ n
  fl : t.2.1 < 2 ^ n
  sl : t.2.2 < 2 ^ n
  d1 : ∀ v, t.1.testBit v = true → t.2.1.testBit v = false ∧ t.2.2.testBit v = false
  d2 : ∀ v, t.2.1.testBit v = true → t.2.2.testBit v = false
  ind : ∀ u v, t.1.testBit u = true → t.1.testBit v = true → (nb near u).testBit v = false
  fr : ∀ u v, t.1.testBit u = true → (t.2.1.testBit v = true ∨ t.2.2.testBit v = true) → (nb near u).testBit v = false
  cov : ∀ v, v < n → t.1.testBit v = true ∨ t.2.1.testBit v = true ∨ t.2.2.testBit v = true ∨ ∃ u, t.1.testBit u = true ∧ (nb near u).testBit v = true
def Sol (t : Tri) (b : Nat) : Prop := (∀ v, t.1.testBit v = true → b.testBit v = true) ∧ ∀ v, b.testBit v = true → t.1.testBit v = true ∨ t.2.1.testBit v = true

theorem tb_ins (a p i : Nat) : (a ||| 2 ^ p).testBit i = (a.testBit i || decide (p = i)) := by rw [Nat.testBit_or, tb_two]
theorem tb_del (a p i : Nat) : (sd a (2 ^ p)).testBit i = (a.testBit i && !decide (p = i)) := by rw [tb_sd, tb_two]

variable {n : Nat} {near : List Nat}
theorem Gr.symF (g : Gr n near) {p q : Nat} (h : (nb near p).testBit q = false) : (nb near q).testBit p = false := by rw [g.sym]; exact h

/-- one child -/
theorem ok_child (g : Gr n near) {c f s p : Nat} (h : Ok3 n near (c, f, s)) (hp : f.testBit p = true) :
    Ok3 n near (c ||| 2 ^ p, sd (sd f (2 ^ p)) (nb near p), sd s (nb near p)) := by
  have hpn : p < n := tb_lt h.fl hp
  have ncp : c.testBit p = false := by
    cases e : c.testBit p
    · rfl
    · have := (h.d1 p e).1; simp only at this; rw [this] at hp; cases hp
  refine ⟨or_lt h.cl (two_lt hpn), sd_lt (sd_lt h.fl), sd_lt h.sl, fun v hv => ?_, fun v hv => ?_, fun u v hu hv => ?_, fun u v hu hv => ?_, fun v hv => ?_⟩
  · simp only [tb_ins, Bool.or_eq_true, decide_eq_true_eq] at hv
    simp only [tb_sd, tb_two]
    rcases hv with hv | rfl
    · have := h.d1 v hv; simp only at this; simp [this.1, this.2]
    · have d := h.d2 p hp; simp only at d; simp [d]
  · simp only [tb_sd, Bool.and_eq_true] at hv ⊢
    have d := h.d2 v hv.1.1; simp only at d; simp [d]
  · simp only [tb_ins, Bool.or_eq_true, decide_eq_true_eq] at hu hv
    rcases hu with hu | rfl
    · rcases hv with hv | rfl
      · exact h.ind u v hu hv
      · exact h.fr u p hu (.inl hp)
    · rcases hv with hv | rfl
      · exact g.symF (h.fr v p hv (.inl hp))
      · exact g.irr p
  · simp only [tb_ins, Bool.or_eq_true, decide_eq_true_eq] at hu
    simp only [tb_sd, tb_two, Bool.and_eq_true] at hv
    have hv' : (f.testBit v = true ∨ s.testBit v = true) ∧ (nb near p).testBit v = false := by
      rcases hv with hv | hv
      · exact ⟨.inl hv.1.1, by simpa using hv.2⟩
      · exact ⟨.inr hv.1, by simpa using hv.2⟩
    rcases hu with hu | rfl
    · exact h.fr u v hu hv'.1
    · exact hv'.2
  · simp only [tb_ins, tb_sd, tb_two]
    by_cases e : p = v
    · subst e; exact .inl (by simp)
    · cases a : (nb near p).testBit v
      · rcases h.cov v hv with q | q | q | ⟨u, q, q'⟩
        · simp only at q; exact .inl (by simp [q])
        · simp only at q; exact .inr (.inl (by simp [q, e]))
        · simp only at q; exact .inr (.inr (.inl (by simp [q])))
        · exact .inr (.inr (.inr ⟨u, by simp only at q; simp [q], q'⟩))
      · exact .inr (.inr (.inr ⟨p, by simp, a⟩))
/-- the others, with p put aside -/
theorem ok_aside (g : Gr n near) {c f s p : Nat} (h : Ok3 n near (c, f, s)) (hp : f.testBit p = true) : Ok3 n near (c, sd f (2 ^ p), s ||| 2 ^ p) := by
  have hpn : p < n := tb_lt h.fl hp
  refine ⟨h.cl, sd_lt h.fl, or_lt h.sl (two_lt hpn), fun v hv => ?_, fun v hv => ?_, h.ind, fun u v hu hv => ?_, fun v hv => ?_⟩
  · have d := h.d1 v hv
    simp only at d
    simp only [tb_sd, tb_two, tb_ins, d.1, d.2]
    refine ⟨rfl, ?_⟩
    simp only [Bool.false_or, decide_eq_false_iff_not]
    rintro rfl
    rw [d.1] at hp; cases hp
  · simp only [tb_sd, tb_two, tb_ins, Bool.and_eq_true] at hv ⊢
    have d := h.d2 v hv.1; simp only at d; rw [d]; simpa using hv.2
  · refine h.fr u v hu ?_
    simp only [tb_sd, tb_two, tb_ins, Bool.and_eq_true, Bool.or_eq_true, decide_eq_true_eq] at hv
    rcases hv with hv | hv | rfl
    · exact .inl hv.1
    · exact .inr hv
    · exact .inl hp
  · simp only [tb_sd, tb_two, tb_ins]
    rcases h.cov v hv with q | q | q | q
    · exact .inl q
    · simp only at q
      by_cases e : p = v
      · subst e; exact .inr (.inr (.inl (by simp)))
      · exact .inr (.inl (by simp [q, e]))
    · simp only at q; exact .inr (.inr (.inl (by simp [q])))
    · exact .inr (.inr (.inr q))

theorem kids_ok (g : Gr n near) {c : Nat} : ∀ (ps : List Nat) (f s : Nat), Ok3 n near (c, f, s) → (∀ p ∈ ps, f.testBit p = true) → ps.Nodup → ∀ t ∈ kids near c f s ps, Ok3 n near t
  | [], _, _, _, _, _, t, ht => by cases ht
  | p :: ps, f, s, h, hp, nd, t, ht => by
    have hpf := hp p List.mem_cons_self
    rw [List.nodup_cons] at nd
    rcases List.mem_cons.mp ht with rfl | ht
    · exact ok_child g h hpf
    · refine kids_ok g ps _ _ (ok_aside g h hpf) (fun q hq => ?_) nd.2 t ht
      rw [tb_del, hp q (List.mem_cons_of_mem _ hq)]
      have : p ≠ q := fun e => nd.1 (e ▸ hq)
      simp [this]
theorem sol_aside {c f s p b s' : Nat} (h : Sol (c, sd f (2 ^ p), s) b) : Sol (c, f, s') b :=
  ⟨h.1, fun v hv => (h.2 v hv).imp id fun q => by simp only [tb_sd, tb_two, Bool.and_eq_true] at q; exact q.1⟩
theorem kids_sol {c b : Nat} : ∀ (ps : List Nat) (f s : Nat), (∀ p ∈ ps, f.testBit p = true) → ps.Nodup → ∀ t ∈ kids near c f s ps, Sol t b → Sol (c, f, s) b
  | [], _, _, _, _, t, ht, _ => by cases ht
  | p :: ps, f, s, hp, nd, t, ht, h => by
    have hpf := hp p List.mem_cons_self
    rw [List.nodup_cons] at nd
    rcases List.mem_cons.mp ht with rfl | ht
    · refine ⟨fun v hv => h.1 v (by simp only [tb_ins]; simp only at hv; simp [hv]), fun v hv => ?_⟩
      have q := h.2 v hv
      simp only [tb_ins, tb_sd, tb_two, Bool.or_eq_true, Bool.and_eq_true, decide_eq_true_eq] at q
      rcases q with (q | rfl) | q
      · exact .inl q
      · exact .inr hpf
      · exact .inr q.1.1
    · refine sol_aside (kids_sol ps _ _ (fun q hq => ?_) nd.2 t ht h)
      rw [tb_del, hp q (List.mem_cons_of_mem _ hq)]
      have : p ≠ q := fun e => nd.1 (e ▸ hq)
      simp [this]
theorem kids_all (g : Gr n near) {c b : Nat} (hb : IsR n near b) : ∀ (ps : List Nat) (f s : Nat), Ok3 n near (c, f, s) → (∀ p ∈ ps, f.testBit p = true) → ps.Nodup → Sol (c, f, s) b → (∃ q ∈ ps, b.testBit q = true) →
    ∃ t ∈ kids near c f s ps, Sol t b
  | [], _, _, _, _, _, _, ⟨q, hq, _⟩ => by cases hq
  | p :: ps, f, s, h, hp, nd, hs, ⟨q, hq, hbq⟩ => by
    have hpf := hp p List.mem_cons_self
    have hpn : p < n := tb_lt h.fl hpf
    rw [List.nodup_cons] at nd
    by_cases e : b.testBit p = true
    · refine ⟨_, List.mem_cons_self, fun v hv => ?_, fun v hv => ?_⟩
      · simp only [tb_ins, Bool.or_eq_true, decide_eq_true_eq] at hv
        rcases hv with hv | rfl
        · exact hs.1 v hv
        · exact e
      · simp only [tb_ins, tb_sd, tb_two]
        by_cases ep : p = v
        · exact .inl (by simp [ep])
        · have na := (hb.2 p hpn).mp e v hv
          rcases hs.2 v hv with z | z
          · simp only at z; exact .inl (by simp [z])
          · simp only at z; exact .inr (by simp [z, na, ep])
    · have hq' : q ∈ ps := by
        rcases List.mem_cons.mp hq with rfl | z
        · exact absurd hbq e
        · exact z
      obtain ⟨t, ht, hts⟩ := kids_all g hb ps (sd f (2 ^ p)) (s ||| 2 ^ p) (ok_aside g h hpf) (fun r hr => by
        rw [tb_del, hp r (List.mem_cons_of_mem _ hr)]
        have : p ≠ r := fun e => nd.1 (e ▸ hr)
        simp [this]) nd.2 ⟨hs.1, fun v hv => by
          rcases hs.2 v hv with z | z
          · exact .inl z
          · refine .inr ?_
            simp only at z ⊢
            rw [tb_del, z]
            have : p ≠ v := fun e' => e (e' ▸ hv)
            simp [this]⟩ ⟨q, hq', hbq⟩
      exact ⟨t, List.mem_cons_of_mem _ ht, hts⟩
theorem kids_apart {c : Nat} : ∀ (ps : List Nat) (f s : Nat), (∀ p ∈ ps, f.testBit p = true) → (∀ p ∈ ps, c.testBit p = false) → ps.Nodup → (kids near c f s ps).Pairwise fun t u => ∀ b, ¬ (Sol t b ∧ Sol u b)
  | [], _, _, _, _, _ => List.Pairwise.nil
  | p :: ps, f, s, hp, hc, nd => by
    rw [List.nodup_cons] at nd
    have hp' : ∀ r ∈ ps, (sd f (2 ^ p)).testBit r = true := fun r hr => by
      rw [tb_del, hp r (List.mem_cons_of_mem _ hr)]
      have : p ≠ r := fun e => nd.1 (e ▸ hr)
      simp [this]
    refine List.Pairwise.cons (fun u hu b hb => ?_) (kids_apart ps _ _ hp' (fun r hr => hc r (List.mem_cons_of_mem _ hr)) nd.2)
    have h1 : b.testBit p = true := hb.1.1 p (by simp [tb_ins])
    have h2 := (kids_sol ps _ _ hp' nd.2 u hu hb.2).2 p h1
    simp only [tb_del, hc p List.mem_cons_self] at h2
    simp at h2
theorem kids_len {c : Nat} : ∀ (ps : List Nat) (f s : Nat), (kids near c f s ps).length = ps.length
  | [], _, _ => rfl
  | p :: ps, f, s => by show (kids near c _ _ ps).length + 1 = ps.length + 1; rw [kids_len ps]
theorem kids_small {c : Nat} : ∀ (ps : List Nat) (f s f0 : Nat), (∀ v, f.testBit v = true → f0.testBit v = true) → ∀ t ∈ kids near c f s ps, ∃ q ∈ ps, ∀ v, t.2.1.testBit v = true → f0.testBit v = true ∧ (nb near q ||| 2 ^ q).testBit v = false
  | [], _, _, _, _, t, ht => by cases ht
  | p :: ps, f, s, f0, h, t, ht => by
    rcases List.mem_cons.mp ht with rfl | ht
    · refine ⟨p, List.mem_cons_self, fun v hv => ?_⟩
      simp only [tb_sd, tb_two, Bool.and_eq_true] at hv
      refine ⟨h v hv.1.1, ?_⟩
      rw [tb_ins]
      have a := hv.2; have b := hv.1.2
      simp at a b
      simp [a, b]
    · obtain ⟨q, hq, r⟩ := kids_small ps _ _ f0 (fun v hv => h v (by simp only [tb_sd, Bool.and_eq_true] at hv; exact hv.1)) t ht
      exact ⟨q, List.mem_cons_of_mem _ hq, r⟩

/-- the greatest numbers of rests -/
def mm : Nat → Nat
  | 0 => 1 | 1 => 1 | 2 => 2 | 3 => 3 | 4 => 4 | 5 => 6 | 6 => 9 | 7 => 12 | _ => 18
theorem mm_mono : ∀ a, a ≤ 8 → ∀ b, b ≤ 8 → a ≤ b → mm a ≤ mm b := by decide
theorem mm_step : ∀ m, m ≤ 8 → ∀ k, k ≤ 8 → 1 ≤ k → k ≤ m → k * mm (m - k) ≤ mm m := by decide
theorem tt_step : ∀ m, m ≤ 8 → ∀ k, k ≤ 8 → 1 ≤ k → k ≤ m → k * 3 ^ (m - k) < 3 ^ m := by decide
def tot (h : Nat → Nat) (ts : List Tri) : Nat := (ts.map fun t => h (pc t.2.1)).sum
theorem tot_app (h : Nat → Nat) (a b : List Tri) : tot h (a ++ b) = tot h a + tot h b := by unfold tot; rw [List.map_append, List.sum_append]
theorem tot_one (h : Nat → Nat) (t : Tri) : tot h [t] = h (pc t.2.1) := by simp [tot]
theorem tot_le (h : Nat → Nat) {B : Nat} : ∀ (ts : List Tri), (∀ t ∈ ts, h (pc t.2.1) ≤ B) → tot h ts ≤ ts.length * B
  | [], _ => by simp [tot]
  | t :: ts, hb => by
    have h1 := hb t List.mem_cons_self
    have h2 := tot_le h ts fun u hu => hb u (List.mem_cons_of_mem _ hu)
    unfold tot at h2 ⊢
    rw [List.map_cons, List.sum_cons, List.length_cons, Nat.add_mul]
    omega
theorem kids_tot {f s best c : Nat} (h : Nat → Nat) (hm : ∀ a, a ≤ 8 → ∀ b, b ≤ 8 → a ≤ b → h a ≤ h b) (hf : IsFork near f s best) (hfl : f < 256) :
    tot h (kids near c f s (lot best)) ≤ pc best * h (pc f - pc best) := by
  have q := tot_le h (B := h (pc f - pc best)) (kids near c f s (lot best)) fun t ht => by
    obtain ⟨q, hq, r⟩ := kids_small (near := near) (c := c) (lot best) f s f (fun _ z => z) t ht
    obtain ⟨p, hp, e, hmin⟩ := hf
    have hqf : f.testBit q = true := by
      have := (mem_lot.mp hq).2
      rw [e, here, Nat.testBit_and, Bool.and_eq_true] at this
      exact this.2
    have hq8 : q < 8 := (mem_lot.mp hq).1
    have hq' : q ∈ lot (f ||| s) := mem_lot.mpr ⟨hq8, by rw [Nat.testBit_or, hqf]; rfl⟩
    have h1 := hmin q hq'
    have h2 : pc t.2.1 ≤ pc (sd f (nb near q ||| 2 ^ q)) := pc_mono fun i hi => by rw [tb_sd, (r i hi).1, (r i hi).2]; rfl
    have h3 := pc_split f (nb near q ||| 2 ^ q)
    have e4 : here near f q = f &&& (nb near q ||| 2 ^ q) := by unfold here; exact Nat.and_comm ..
    rw [e4] at h1
    have := pc_le8 f
    exact hm _ (pc_le8 _) _ (by omega) (by omega)
  rw [kids_len, lot_len] at q
  exact q

/-- the waiting ones and the found ones -/
structure LInv (n : Nat) (near : List Nat) (ws : List Tri) (found : List Nat) : Prop where
  ok : ∀ t ∈ ws, Ok3 n near t
  isr : ∀ b ∈ found, IsR n near b
  all : ∀ b, IsR n near b → b ∈ found ∨ ∃ t ∈ ws, Sol t b
  nd : found.Nodup
  ap : ∀ b ∈ found, ∀ t ∈ ws, ¬ Sol t b
  pw : ws.Pairwise fun t u => ∀ b, ¬ (Sol t b ∧ Sol u b)
  few : found.length + tot mm ws ≤ 18
theorem LInv.init (g : Gr n near) : LInv n near [(0, 2 ^ n - 1, 0)] [] := by
  have hw : ∀ v, (2 ^ n - 1).testBit v = decide (v < n) := fun v => Nat.testBit_two_pow_sub_one n v
  have h8 := g.hi
  refine ⟨fun t ht => ?_, fun b hb => absurd hb (by simp), fun b hb => .inr ⟨_, List.mem_singleton.mpr rfl, fun v hv => by simp at hv, fun v hv => .inr ?_⟩, List.nodup_nil, fun b hb => absurd hb (by simp), List.pairwise_singleton _ _, ?_⟩
  · rw [List.mem_singleton] at ht
    subst ht
    refine ⟨Nat.two_pow_pos n, ?_, Nat.two_pow_pos n, fun v hv => by simp at hv, fun v hv => by simp, fun u v hu => by simp at hu, fun u v hu => by simp at hu, fun v hv => .inr (.inl ?_)⟩
    · have := Nat.two_pow_pos n; show 2 ^ n - 1 < 2 ^ n; omega
    · show (2 ^ n - 1).testBit v = true; rw [hw]; simpa using hv
  · show (2 ^ n - 1).testBit v = true; rw [hw]; simpa using tb_lt hb.1 hv
  · rw [tot_one]
    have : mm (pc (2 ^ n - 1)) ≤ mm 8 := mm_mono _ (pc_le8 _) _ (Nat.le_refl 8) (pc_le8 _)
    show 0 + mm (pc (2 ^ n - 1)) ≤ 18
    have e : mm 8 = 18 := rfl
    omega
theorem LInv.leaf (g : Gr n near) {w0 : List Tri} {found : List Nat} {c f s : Nat} (h : LInv n near (w0 ++ [(c, f, s)]) found) (hz : f ||| s = 0) : LInv n near w0 (found ++ [c]) := by
  have hf : ∀ v, f.testBit v = false ∧ s.testBit v = false := fun v => by
    have : (f ||| s).testBit v = false := by rw [hz]; exact Nat.zero_testBit v
    rw [Nat.testBit_or] at this
    simpa using this
  have ok := h.ok (c, f, s) (List.mem_append_right _ (List.mem_singleton.mpr rfl))
  have cs : ∀ b, Sol (c, f, s) b ↔ b = c := fun b => by
    constructor
    · intro q
      refine mask_ext fun i => ?_
      cases e : c.testBit i
      · cases e2 : b.testBit i
        · rfl
        · rcases q.2 i e2 with z | z
          · simp only at z; rw [e] at z; cases z
          · simp only at z; rw [(hf i).1] at z; cases z
      · exact q.1 i e
    · rintro rfl
      exact ⟨fun v hv => hv, fun v hv => .inl hv⟩
  have cR : IsR n near c := by
    refine ⟨ok.cl, fun p hp => ⟨fun hc q hq => ok.ind p q hc hq, fun hn => ?_⟩⟩
    rcases ok.cov p hp with z | z | z | ⟨u, hu, ha⟩
    · exact z
    · simp only at z; rw [(hf p).1] at z; cases z
    · simp only at z; rw [(hf p).2] at z; cases z
    · have := hn u hu
      rw [g.sym, ha] at this; cases this
  have nin : c ∉ found := fun hc => h.ap c hc _ (List.mem_append_right _ (List.mem_singleton.mpr rfl)) ((cs c).mpr rfl)
  have few := h.few
  rw [tot_app, tot_one] at few
  have pw := List.pairwise_append.mp h.pw
  refine ⟨fun t ht => h.ok t (List.mem_append_left _ ht), fun b hb => ?_, fun b hb => ?_, ?_, fun b hb t ht => ?_, pw.1, ?_⟩
  · rcases List.mem_append.mp hb with z | z
    · exact h.isr b z
    · rw [List.mem_singleton.mp z]; exact cR
  · rcases h.all b hb with z | ⟨t, ht, hs⟩
    · exact .inl (List.mem_append_left _ z)
    · rcases List.mem_append.mp ht with z | z
      · exact .inr ⟨t, z, hs⟩
      · rw [List.mem_singleton.mp z] at hs
        exact .inl (List.mem_append_right _ (List.mem_singleton.mpr ((cs b).mp hs)))
  · refine List.nodup_append.mpr ⟨h.nd, List.nodup_cons.mpr ⟨by simp, List.nodup_nil⟩, fun a ha b hb => ?_⟩
    rw [List.mem_singleton.mp hb]
    rintro rfl
    exact nin ha
  · rcases List.mem_append.mp hb with z | z
    · exact h.ap b z t (List.mem_append_left _ ht)
    · rw [List.mem_singleton.mp z]
      intro hs
      exact pw.2.2 t ht _ (List.mem_singleton.mpr rfl) c ⟨hs, (cs c).mpr rfl⟩
  · have e : pc f = 0 := by
      have hfz : f = 0 := mask_ext fun i => by rw [(hf i).1, Nat.zero_testBit]
      rw [hfz]; exact pc_zero
    simp only [e] at few
    have em : mm 0 = 1 := rfl
    rw [List.length_append, List.length_singleton]
    omega
theorem LInv.node (g : Gr n near) {w0 : List Tri} {found : List Nat} {c f s best : Nat} (h : LInv n near (w0 ++ [(c, f, s)]) found) (hk : IsFork near f s best) :
    LInv n near (w0 ++ kids near c f s (lot best)) found ∧ tot (3 ^ ·) (w0 ++ kids near c f s (lot best)) < tot (3 ^ ·) (w0 ++ [(c, f, s)]) := by
  have ok := h.ok (c, f, s) (List.mem_append_right _ (List.mem_singleton.mpr rfl))
  have h8 : 2 ^ n ≤ 256 := le8 g.hi
  have hf8 : f < 256 := Nat.lt_of_lt_of_le ok.fl h8
  have inf : ∀ q ∈ lot best, f.testBit q = true := fun q hq => by
    obtain ⟨p, hp, e, _⟩ := hk
    have := (mem_lot.mp hq).2
    rw [e, here, Nat.testBit_and, Bool.and_eq_true] at this
    exact this.2
  have inc : ∀ q ∈ lot best, c.testBit q = false := fun q hq => by
    cases e : c.testBit q
    · rfl
    · have := (ok.d1 q e).1; simp only at this; rw [inf q hq] at this; cases this
  have ndl := lot_nd best
  have pw := List.pairwise_append.mp h.pw
  have pcb : pc best ≤ pc f := pc_mono fun i hi => by
    obtain ⟨p, hp, e, _⟩ := hk
    rw [e, here, Nat.testBit_and, Bool.and_eq_true] at hi
    exact hi.2
  have few := h.few
  rw [tot_app, tot_one] at few
  refine ⟨⟨fun t ht => ?_, h.isr, fun b hb => ?_, h.nd, fun b hb t ht hs => ?_, List.pairwise_append.mpr ⟨pw.1, kids_apart _ _ _ inf inc ndl, fun t ht u hu b hb => ?_⟩, ?_⟩, ?_⟩
  · rcases List.mem_append.mp ht with z | z
    · exact h.ok t (List.mem_append_left _ z)
    · exact kids_ok g _ _ _ ok inf ndl t z
  · rcases h.all b hb with z | ⟨t, ht, hs⟩
    · exact .inl z
    · rcases List.mem_append.mp ht with z | z
      · exact .inr ⟨t, List.mem_append_left _ z, hs⟩
      · rw [List.mem_singleton.mp z] at hs
        have hx : ∃ q ∈ lot best, b.testBit q = true := by
          obtain ⟨p, hp, e, _⟩ := hk
          obtain ⟨hp8, hpb⟩ := mem_lot.mp hp
          rw [Nat.testBit_or, Bool.or_eq_true] at hpb
          have hpn : p < n := by
            rcases hpb with z | z
            · exact tb_lt ok.fl z
            · exact tb_lt ok.sl z
          have inF : ∀ v, b.testBit v = true → (nb near p ||| 2 ^ p).testBit v = true → v ∈ lot best := fun v hv hv2 => by
            have hvn : v < n := tb_lt hb.1 hv
            have hv8 : v < 8 := Nat.lt_of_lt_of_le hvn g.hi
            refine mem_lot.mpr ⟨hv8, ?_⟩
            rw [e, here, Nat.testBit_and, hv2, Bool.true_and]
            rcases hs.2 v hv with z | z
            · exfalso
              simp only at z
              rw [tb_ins, Bool.or_eq_true, decide_eq_true_eq] at hv2
              rcases hv2 with hv2 | rfl
              · have := ok.fr v p z hpb
                rw [g.sym, hv2] at this; cases this
              · have := ok.d1 p z
                simp only at this
                rcases hpb with y | y
                · rw [this.1] at y; cases y
                · rw [this.2] at y; cases y
            · exact z
          by_cases ep : b.testBit p = true
          · exact ⟨p, inF p ep (by simp [tb_ins]), ep⟩
          · have : ¬ ∀ q, b.testBit q = true → (nb near p).testBit q = false := fun z => ep ((hb.2 p hpn).mpr z)
            rw [Classical.not_forall] at this
            obtain ⟨q, hq⟩ := this
            rw [Classical.not_imp] at hq
            refine ⟨q, inF q hq.1 ?_, hq.1⟩
            rw [tb_ins]
            cases a : (nb near p).testBit q
            · exact absurd a hq.2
            · rfl
        obtain ⟨t', ht', hs'⟩ := kids_all g hb _ _ _ ok inf ndl hs hx
        exact .inr ⟨t', List.mem_append_right _ ht', hs'⟩
  · rcases List.mem_append.mp ht with z | z
    · exact h.ap b hb t (List.mem_append_left _ z) hs
    · exact h.ap b hb _ (List.mem_append_right _ (List.mem_singleton.mpr rfl)) (kids_sol _ _ _ inf ndl t z hs)
  · exact pw.2.2 t ht _ (List.mem_singleton.mpr rfl) b ⟨hb.1, kids_sol _ _ _ inf ndl u hu hb.2⟩
  · rw [tot_app]
    have k := kids_tot (c := c) mm mm_mono hk hf8
    have p8 := pc_le8 f
    rcases Nat.eq_zero_or_pos (pc best) with z | z
    · rw [z, Nat.zero_mul] at k; omega
    · have := mm_step (pc f) p8 (pc best) (by omega) z pcb
      simp only at few
      omega
  · rw [tot_app, tot_app, tot_one]
    have k := kids_tot (c := c) (3 ^ ·) (fun a _ b _ hab => Nat.pow_le_pow_right (by decide) hab) hk hf8
    have p8 := pc_le8 f
    simp only at k ⊢
    rcases Nat.eq_zero_or_pos (pc best) with z | z
    · rw [z, Nat.zero_mul] at k
      have := Nat.pow_pos (n := pc f) (show 0 < 3 by decide)
      omega
    · have := tt_step (pc f) p8 (pc best) (by omega) z pcb
      omega
theorem leaf_tot {w0 : List Tri} {c f s : Nat} : tot (3 ^ ·) w0 < tot (3 ^ ·) (w0 ++ [(c, f, s)]) := by
  rw [tot_app, tot_one]
  have := Nat.pow_pos (n := pc f) (show 0 < 3 by decide)
  simp only
  omega
/-- there is a rest -/
theorem some_rest (g : Gr n near) : ∃ b, IsR n near b := by
  have key : ∀ k, k ≤ n → ∃ b : Nat, (∀ v, b.testBit v = true → v < k) ∧ ∀ p, p < k → (b.testBit p = true ↔ ∀ q, b.testBit q = true → (nb near p).testBit q = false) := by
    intro k
    induction k with
    | zero => intro _; exact ⟨0, fun v hv => by simp at hv, fun p hp => by omega⟩
    | succ k ih =>
      intro hk
      obtain ⟨b, h1, h2⟩ := ih (by omega)
      have nk : b.testBit k = false := by
        cases e : b.testBit k
        · rfl
        · have := h1 k e; omega
      by_cases hx : ∀ q, b.testBit q = true → (nb near k).testBit q = false
      · refine ⟨b ||| 2 ^ k, fun v hv => ?_, fun p hp => ?_⟩
        · rw [tb_ins, Bool.or_eq_true, decide_eq_true_eq] at hv
          rcases hv with hv | rfl
          · have := h1 v hv; omega
          · omega
        · rw [tb_ins]
          by_cases e : k = p
          · subst e
            refine ⟨fun _ q hq => ?_, fun _ => by simp⟩
            rw [tb_ins, Bool.or_eq_true, decide_eq_true_eq] at hq
            rcases hq with hq | rfl
            · exact hx q hq
            · exact g.irr k
          · have hp' : p < k := by omega
            simp only [e, decide_false, Bool.or_false]
            constructor
            · intro hb q hq
              rw [tb_ins, Bool.or_eq_true, decide_eq_true_eq] at hq
              rcases hq with hq | rfl
              · exact (h2 p hp').mp hb q hq
              · exact g.symF (hx p hb)
            · intro hn
              exact (h2 p hp').mpr fun q hq => hn q (by rw [tb_ins, hq]; rfl)
      · refine ⟨b, fun v hv => by have := h1 v hv; omega, fun p hp => ?_⟩
        by_cases e : k = p
        · subst e
          rw [nk]
          exact ⟨fun z => absurd z (by decide), fun z => absurd z hx⟩
        · exact h2 p (by omega)
  obtain ⟨b, h1, h2⟩ := key n (Nat.le_refl n)
  exact ⟨b, lt_of_tb h1, h2⟩
end SM
namespace SM
/-! ### lists that are told by their items -/
theorem srt_uniq {α : Type} {r : α → α → Prop} (as : ∀ a b, r a b → ¬ r b a) : ∀ {l m : List α}, l.Pairwise r → m.Pairwise r → (∀ x, x ∈ l ↔ x ∈ m) → l = m
  | [], [], _, _, _ => rfl
  | [], y :: m, _, _, h => absurd ((h y).mpr List.mem_cons_self) (by simp)
  | x :: l, [], _, _, h => absurd ((h x).mp List.mem_cons_self) (by simp)
  | x :: l, y :: m, hl, hm, h => by
    rw [List.pairwise_cons] at hl hm
    have e : x = y := by
      rcases List.mem_cons.mp ((h x).mp List.mem_cons_self) with e | hx
      · exact e
      · rcases List.mem_cons.mp ((h y).mpr List.mem_cons_self) with e | hy
        · exact e.symm
        · exact absurd (hl.1 y hy) (as _ _ (hm.1 x hx))
    subst e
    have irr : ¬ r x x := fun q => as _ _ q q
    rw [srt_uniq as hl.2 hm.2 fun z => ⟨fun hz => ?_, fun hz => ?_⟩]
    · rcases List.mem_cons.mp ((h z).mp (List.mem_cons_of_mem _ hz)) with e | q
      · subst e; exact absurd (hl.1 z hz) irr
      · exact q
    · rcases List.mem_cons.mp ((h z).mpr (List.mem_cons_of_mem _ hz)) with e | q
      · subst e; exact absurd (hm.1 z hz) irr
      · exact q
def intl (l : List Nat) : List Int := l.map fun i : Nat => (i : Int)
theorem mem_ints {l : List Nat} {x : Int} : x ∈ intl l ↔ ∃ i, i ∈ l ∧ x = (i : Int) := by
  unfold intl; rw [List.mem_map]
  constructor
  · rintro ⟨i, h, e⟩; exact ⟨i, h, e.symm⟩
  · rintro ⟨i, h, e⟩; exact ⟨i, h, e.symm⟩
theorem mem_ints_nat {l : List Nat} {i : Nat} : (i : Int) ∈ intl l ↔ i ∈ l := by
  rw [mem_ints]
  constructor
  · rintro ⟨j, h, e⟩; rwa [show i = j by omega]
  · intro h; exact ⟨i, h, rfl⟩
theorem ints_asc {l : List Nat} (h : l.Pairwise (· < ·)) : (intl l).Pairwise (· < ·) := by
  unfold intl; rw [List.pairwise_map]; exact h.imp fun h => by omega
theorem ints_len (l : List Nat) : (intl l).length = l.length := by simp [intl]
theorem int_uniq {l m : List Int} (hl : l.Pairwise (· < ·)) (hm : m.Pairwise (· < ·)) (h : ∀ x, x ∈ l ↔ x ∈ m) : l = m := srt_uniq (r := (· < ·)) (fun a b h => by omega) hl hm h
theorem nat_uniq {l m : List Nat} (hl : l.Pairwise (· < ·)) (hm : m.Pairwise (· < ·)) (h : ∀ x, x ∈ l ↔ x ∈ m) : l = m := srt_uniq (r := (· < ·)) (fun a b h => by omega) hl hm h
theorem asc_nd {l : List Int} (h : l.Pairwise (· < ·)) : l.Nodup := h.imp fun h => by omega

/-- the order of tuples of intl -/
def lx : List Int → List Int → Bool
  | [], [] => false
  | [], _ :: _ => true
  | _ :: _, [] => false
  | x :: xs, y :: ys => if x = y then lx xs ys else decide (x < y)
theorem lx_irr : ∀ a, lx a a = false
  | [] => rfl
  | x :: xs => by show (if x = x then lx xs xs else _) = false; rw [if_pos rfl]; exact lx_irr xs
theorem lx_asym : ∀ a b, lx a b = true → lx b a = false
  | [], [], h => by cases h
  | [], _ :: _, _ => rfl
  | _ :: _, [], h => by cases h
  | x :: xs, y :: ys, h => by
    unfold lx at h ⊢
    by_cases e : x = y
    · subst e; rw [if_pos rfl] at h ⊢; exact lx_asym xs ys h
    · rw [if_neg e, decide_eq_true_eq] at h
      rw [if_neg (Ne.symm e), decide_eq_false_iff_not]; omega
theorem lx_tri : ∀ a b, lx a b = false → lx b a = false → a = b
  | [], [], _, _ => rfl
  | [], _ :: _, h, _ => by cases h
  | _ :: _, [], _, h => by cases h
  | x :: xs, y :: ys, h, h' => by
    unfold lx at h h'
    by_cases e : x = y
    · subst e; rw [if_pos rfl] at h h'; rw [lx_tri xs ys h h']
    · rw [if_neg e, decide_eq_false_iff_not] at h
      rw [if_neg (Ne.symm e), decide_eq_false_iff_not] at h'; omega
theorem lx_trans : ∀ a b c, lx a b = true → lx b c = true → lx a c = true
  | [], [], _, h, _ => by cases h
  | [], _ :: _, [], _, h => by cases h
  | [], _ :: _, _ :: _, _, _ => rfl
  | _ :: _, [], _, h, _ => by cases h
  | _ :: _, _ :: _, [], _, h => by cases h
  | x :: xs, y :: ys, z :: zs, h, h' => by
    unfold lx at h h' ⊢
    by_cases e : x = y
    · subst e
      rw [if_pos rfl] at h
      by_cases e' : x = z
      · subst e'; rw [if_pos rfl] at h' ⊢; exact lx_trans xs ys zs h h'
      · rw [if_neg e'] at h' ⊢; exact h'
    · rw [if_neg e, decide_eq_true_eq] at h
      by_cases e' : y = z
      · subst e'; rw [if_neg e, decide_eq_true_eq]; exact h
      · rw [if_neg e', decide_eq_true_eq] at h'
        rw [if_neg (by omega), decide_eq_true_eq]; omega
theorem lx_ntrans (a b c : List Int) (h1 : lx b a = false) (h2 : lx c b = false) : lx c a = false := by
  cases e : lx c a
  · rfl
  · cases e1 : lx a b
    · have := lx_tri a b e1 h1
      subst this; rw [e] at h2; cases h2
    · have := lx_trans _ _ _ e e1; rw [this] at h2; cases h2
def Asc (L : List (List Int)) : Prop := L.Pairwise fun a b => lx a b = true
theorem Asc.nd {L : List (List Int)} (h : Asc L) : L.Nodup := h.imp fun {a b} q e => by subst e; rw [lx_irr] at q; cases q
theorem asc_of {L : List (List Int)} (h : L.Pairwise fun a b => lx b a = false) (nd : L.Nodup) : Asc L := by
  refine (h.and nd).imp fun {a b} q => ?_
  cases e : lx a b
  · exact absurd (lx_tri a b e q.1) q.2
  · rfl
theorem asc_uniq {L M : List (List Int)} (hl : Asc L) (hm : Asc M) (h : ∀ x, x ∈ L ↔ x ∈ M) : L = M :=
  srt_uniq (r := fun a b => lx a b = true) (fun a b q => by rw [lx_asym a b q]; decide) hl hm h
/-- the list of just these, ascending -/
structure IsD (P : List Int → Prop) (D : List (List Int)) : Prop where
  asc : Asc D
  mem : ∀ x, x ∈ D ↔ P x
theorem IsD.uniq {P : List Int → Prop} {D E : List (List Int)} (h : IsD P D) (k : IsD P E) : D = E := asc_uniq h.asc k.asc fun x => (h.mem x).trans (k.mem x).symm
theorem IsD.imp {P Q : List Int → Prop} {D : List (List Int)} (h : IsD P D) (k : ∀ x, P x ↔ Q x) : IsD Q D := ⟨h.asc, fun x => (h.mem x).trans (k x)⟩

/-! ### the rests as lots -/
def lotI (b : Nat) : List Int := intl (lot b)
theorem lotI_asc (b : Nat) : (lotI b).Pairwise (· < ·) := ints_asc (lot_asc b)
theorem mem_lotI {b i : Nat} (hi : i < 8) : (i : Int) ∈ lotI b ↔ b.testBit i = true := by
  unfold lotI; rw [mem_ints_nat, mem_lot]; exact ⟨fun h => h.2, fun h => ⟨hi, h⟩⟩
theorem lotI_inj {a b : Nat} (ha : a < 256) (hb : b < 256) (h : lotI a = lotI b) : a = b := by
  refine mask_ext fun i => ?_
  by_cases hi : i < 8
  · have := (mem_lotI (b := a) hi).symm.trans ((by rw [h] : (i : Int) ∈ lotI a ↔ (i : Int) ∈ lotI b).trans (mem_lotI hi))
    cases e : a.testBit i <;> cases e' : b.testBit i <;> simp [e, e'] at this ⊢
  · have o : ∀ {c : Nat}, c < 256 → c.testBit i = false := fun {c} hc => by
      cases e : c.testBit i
      · rfl
      · exact absurd (tb_lt (n := 8) hc e) hi
    rw [o ha, o hb]
theorem lot_range {b n : Nat} (h : b < 2 ^ n) (hn : n ≤ 8) : ((List.range n).filter fun i => b.testBit i) = lot b := by
  refine nat_uniq (List.Pairwise.filter _ List.pairwise_lt_range) (lot_asc b) fun x => ?_
  rw [mem_lot, List.mem_filter, List.mem_range]
  exact ⟨fun q => ⟨by omega, q.2⟩, fun q => ⟨tb_lt h q.2, q.2⟩⟩
def restB (near : List Nat) (b : Nat) : Bool := (List.range near.length).all fun p => decide (b.testBit p = decide (nb near p &&& b = 0))
variable {n : Nat} {near : List Nat}
theorem restB_iff (g : Gr n near) {b : Nat} (hb : b < 2 ^ n) : restB near b = true ↔ IsR n near b := by
  unfold restB IsR
  rw [List.all_eq_true, g.len]
  have key : ∀ p, (nb near p &&& b = 0) ↔ ∀ q, b.testBit q = true → (nb near p).testBit q = false := fun p => by
    constructor
    · intro h q hq
      have : (nb near p &&& b).testBit q = false := by rw [h, Nat.zero_testBit]
      rw [Nat.testBit_and, hq, Bool.and_true] at this
      exact this
    · intro h
      refine mask_ext fun i => ?_
      rw [Nat.testBit_and, Nat.zero_testBit]
      cases e : b.testBit i
      · simp
      · rw [h i e]; rfl
  constructor
  · intro h
    refine ⟨hb, fun p hp => ?_⟩
    have := of_decide_eq_true (h p (List.mem_range.mpr hp))
    rw [this, decide_eq_true_eq, key]
  · intro h p hp
    have := h.2 p (List.mem_range.mp hp)
    rw [← key] at this
    refine decide_eq_true ?_
    by_cases e : nb near p &&& b = 0
    · rw [this.mpr e, decide_eq_true e]
    · rw [decide_eq_false e]
      cases e' : b.testBit p
      · rfl
      · exact absurd (this.mp e') e
def RL (n : Nat) (near : List Nat) : List Nat := (List.range (2 ^ n)).filter (restB near)
theorem mem_RL (g : Gr n near) {b : Nat} : b ∈ RL n near ↔ IsR n near b := by
  unfold RL
  rw [List.mem_filter, List.mem_range]
  exact ⟨fun h => (restB_iff g h.1).mp h.2, fun h => ⟨h.1, (restB_iff g h.1).mpr h⟩⟩
theorem RL_nd : (RL n near).Nodup := List.Pairwise.filter _ List.nodup_range
theorem ex_min {α : Type} (h : α → Nat) : ∀ (l : List α), l ≠ [] → ∃ p ∈ l, ∀ q ∈ l, h p ≤ h q
  | [], z => absurd rfl z
  | [x], _ => ⟨x, List.mem_singleton.mpr rfl, fun q hq => by rw [List.mem_singleton.mp hq]; exact Nat.le_refl _⟩
  | x :: y :: l, _ => by
    obtain ⟨p, hp, hm⟩ := ex_min h (y :: l) (by simp)
    by_cases c : h x ≤ h p
    · refine ⟨x, List.mem_cons_self, fun q hq => ?_⟩
      rcases List.mem_cons.mp hq with rfl | hq
      · exact Nat.le_refl _
      · exact Nat.le_trans c (hm q hq)
    · refine ⟨p, List.mem_cons_of_mem _ hp, fun q hq => ?_⟩
      rcases List.mem_cons.mp hq with rfl | hq
      · omega
      · exact hm q hq
theorem lot_nil {b : Nat} (h : b < 256) (h0 : b ≠ 0) : lot b ≠ [] := by
  rw [lot_step h (by omega)]; simp
theorem LInv.ends (g : Gr n near) : ∀ (m : Nat) (ws : List Tri) (found : List Nat), tot (3 ^ ·) ws = m → LInv n near ws found → ∃ fin, LInv n near [] fin := by
  intro m
  induction m using Nat.strongRecOn with
  | _ m ih =>
    intro ws found e h
    rcases List.eq_nil_or_concat ws with rfl | ⟨w0, ⟨c, f, s⟩, rfl⟩
    · exact ⟨found, h⟩
    · rw [List.concat_eq_append] at e h
      by_cases hz : f ||| s = 0
      · exact ih _ (by rw [← e]; exact leaf_tot) _ _ rfl (h.leaf g hz)
      · have ok := h.ok (c, f, s) (List.mem_append_right _ (List.mem_singleton.mpr rfl))
        have hlt : f ||| s < 256 := Nat.lt_of_lt_of_le (or_lt ok.fl ok.sl) (le8 g.hi)
        obtain ⟨p, hp, hm⟩ := ex_min (fun q => pc (here near f q)) (lot (f ||| s)) (lot_nil hlt hz)
        have k : IsFork near f s (here near f p) := ⟨p, hp, rfl, hm⟩
        obtain ⟨h1, h2⟩ := h.node g k
        exact ih _ (by rw [← e]; exact h2) _ _ rfl h1
theorem LInv.perm (g : Gr n near) {found : List Nat} (h : LInv n near [] found) : found.Perm (RL n near) := by
  refine (List.perm_ext_iff_of_nodup h.nd RL_nd).mpr fun b => ?_
  rw [mem_RL g]
  exact ⟨h.isr b, fun q => (h.all b q).elim id fun ⟨t, ht, _⟩ => absurd ht (by simp)⟩
theorem RL_few (g : Gr n near) : (RL n near).length ≤ 18 := by
  obtain ⟨fin, h⟩ := LInv.ends g _ _ _ rfl (LInv.init g)
  rw [← (h.perm g).length_eq]
  have := h.few
  omega
theorem RL_some (g : Gr n near) : 1 ≤ (RL n near).length := by
  obtain ⟨b, hb⟩ := some_rest g
  exact List.length_pos_of_mem ((mem_RL g).mpr hb)
def RestP (n : Nat) (near : List Nat) (x : List Int) : Prop := ∃ b, IsR n near b ∧ x = lotI b
theorem RestP_mem (g : Gr n near) {l : List Nat} (h : l.Perm (RL n near)) (x : List Int) : x ∈ l.map lotI ↔ RestP n near x := by
  rw [List.mem_map]
  constructor
  · rintro ⟨b, hb, e⟩; exact ⟨b, (mem_RL g).mp (h.mem_iff.mp hb), e.symm⟩
  · rintro ⟨b, hb, e⟩; exact ⟨b, h.mem_iff.mpr ((mem_RL g).mpr hb), e.symm⟩
theorem lots_nd (g : Gr n near) {l : List Nat} (h : l.Perm (RL n near)) : (l.map lotI).Nodup := by
  have nd : l.Nodup := h.nodup_iff.mpr RL_nd
  refine List.pairwise_map.mpr (List.Pairwise.imp_of_mem (fun {a b} ha hb hne e => hne ?_) nd)
  have l8 := le8 g.hi
  exact lotI_inj (Nat.lt_of_lt_of_le ((mem_RL g).mp (h.mem_iff.mp ha)).1 l8) (Nat.lt_of_lt_of_le ((mem_RL g).mp (h.mem_iff.mp hb)).1 l8) e

/-! ### what is seen -/
def seenN (sh ns : List Int) : List Nat := (List.range sh.length).filter fun k => decide (sh.getD k 0 ∈ ns)
def seenI (sh ns : List Int) : List Int := intl (seenN sh ns)
theorem seenI_asc (sh ns : List Int) : (seenI sh ns).Pairwise (· < ·) := ints_asc (List.Pairwise.filter _ List.pairwise_lt_range)
theorem mem_seenI {sh ns : List Int} {x : Int} : x ∈ seenI sh ns ↔ ∃ k : Nat, k < sh.length ∧ sh.getD k 0 ∈ ns ∧ x = (k : Int) := by
  unfold seenI seenN
  rw [mem_ints]
  constructor
  · rintro ⟨i, h, e⟩
    rw [List.mem_filter, List.mem_range, decide_eq_true_eq] at h
    exact ⟨i, h.1, h.2, e⟩
  · rintro ⟨i, h1, h2, e⟩
    exact ⟨i, by rw [List.mem_filter, List.mem_range, decide_eq_true_eq]; exact ⟨h1, h2⟩, e⟩
theorem seenI_len (sh ns : List Int) : (seenI sh ns).length ≤ sh.length := by
  unfold seenI seenN
  rw [ints_len]
  have := List.length_filter_le (fun k => decide (sh.getD k 0 ∈ ns)) (List.range sh.length)
  rwa [List.length_range] at this
def SeenP (n : Nat) (near : List Nat) (sh x : List Int) : Prop := ∃ b, IsR n near b ∧ x = seenI sh (lotI b)
theorem range_getD {n k : Nat} (h : k < n) : (intl (List.range n)).getD k 0 = (k : Int) := by
  unfold intl
  rw [List.getD_eq_getElem?_getD, List.getElem?_map, List.getElem?_range h]; rfl
theorem seen_all {b : Nat} (hn : n ≤ 8) (hb : b < 2 ^ n) : seenI (intl (List.range n)) (lotI b) = lotI b := by
  refine int_uniq (seenI_asc _ _) (lotI_asc b) fun x => ?_
  rw [mem_seenI, ints_len, List.length_range]
  constructor
  · rintro ⟨k, h1, h2, rfl⟩
    rwa [range_getD h1] at h2
  · intro h
    obtain ⟨i, hi, rfl⟩ := mem_ints.mp h
    have hin : i < n := tb_lt hb (mem_lot.mp hi).2
    exact ⟨i, hin, by rw [range_getD hin]; exact h, rfl⟩
theorem SeenP_all (g : Gr n near) (x : List Int) : SeenP n near (intl (List.range n)) x ↔ RestP n near x := by
  constructor
  · rintro ⟨b, hb, e⟩; exact ⟨b, hb, by rw [e, seen_all g.hi hb.1]⟩
  · rintro ⟨b, hb, e⟩; exact ⟨b, hb, by rw [seen_all g.hi hb.1, e]⟩

/-! ### stands in another order -/
/-- od a permutation of the places below m -/
structure Od (m : Nat) (od : List Int) : Prop where
  perm : od.Perm (intl (List.range m))
theorem Od.len {m : Nat} {od : List Int} (h : Od m od) : od.length = m := by rw [h.perm.length_eq, ints_len, List.length_range]
theorem Od.nd {m : Nat} {od : List Int} (h : Od m od) : od.Nodup := h.perm.nodup_iff.mpr (asc_nd (ints_asc List.pairwise_lt_range))
theorem Od.mem {m : Nat} {od : List Int} (h : Od m od) (x : Int) : x ∈ od ↔ 0 ≤ x ∧ x < (m : Int) := by
  rw [h.perm.mem_iff, mem_ints]
  constructor
  · rintro ⟨i, hi, rfl⟩; rw [List.mem_range] at hi; omega
  · rintro ⟨h1, h2⟩; exact ⟨x.toNat, List.mem_range.mpr (by omega), by omega⟩
theorem getD_mem {l : List Int} {k : Nat} (h : k < l.length) : l.getD k 0 ∈ l := by
  rw [List.getD_eq_getElem?_getD, List.getElem?_eq_getElem h]; exact List.getElem_mem h
theorem Od.at {m : Nat} {od : List Int} (h : Od m od) {k : Nat} (hk : k < m) : 0 ≤ od.getD k 0 ∧ od.getD k 0 < (m : Int) := (h.mem _).mp (getD_mem (by rw [h.len]; exact hk))
theorem Od.inj {m : Nat} {od : List Int} (h : Od m od) {i j : Nat} (hi : i < m) (hj : j < m) (e : od.getD i 0 = od.getD j 0) : i = j := by
  have li : i < od.length := by rw [h.len]; exact hi
  have lj : j < od.length := by rw [h.len]; exact hj
  rw [List.getD_eq_getElem?_getD, List.getD_eq_getElem?_getD, List.getElem?_eq_getElem li, List.getElem?_eq_getElem lj] at e
  exact (List.getElem_inj h.nd).mp e
theorem Od.sur {m : Nat} {od : List Int} (h : Od m od) {k : Nat} (hk : k < m) : ∃ j, j < m ∧ od.getD j 0 = (k : Int) := by
  have : (k : Int) ∈ od := (h.mem _).mpr (by omega)
  obtain ⟨j, hj, e⟩ := List.getElem_of_mem this
  refine ⟨j, by rw [← h.len]; exact hj, ?_⟩
  rw [List.getD_eq_getElem?_getD, List.getElem?_eq_getElem hj, e]; rfl
/-- stands: ascending lots of places below m -/
structure Std (m : Nat) (st : List Int) : Prop where
  asc : st.Pairwise (· < ·)
  bd : ∀ x ∈ st, 0 ≤ x ∧ x < (m : Int)
theorem seen_std {m : Nat} {sh : List Int} (h : sh.length = m) (ns : List Int) : Std m (seenI sh ns) :=
  ⟨seenI_asc sh ns, fun x hx => by obtain ⟨k, h1, _, rfl⟩ := mem_seenI.mp hx; omega⟩
def renI (m : Nat) (od st : List Int) : List Int := intl ((List.range m).filter fun k => st.any fun p => decide (od.getD p.toNat 0 = (k : Int)))
theorem renI_asc (m : Nat) (od st : List Int) : (renI m od st).Pairwise (· < ·) := ints_asc (List.Pairwise.filter _ List.pairwise_lt_range)
theorem mem_renI {m : Nat} {od st : List Int} {x : Int} : x ∈ renI m od st ↔ ∃ k : Nat, k < m ∧ x = (k : Int) ∧ ∃ p ∈ st, od.getD p.toNat 0 = (k : Int) := by
  unfold renI
  rw [mem_ints]
  constructor
  · rintro ⟨i, h, e⟩
    rw [List.mem_filter, List.mem_range, List.any_eq_true] at h
    obtain ⟨h1, p, hp, e2⟩ := h
    exact ⟨i, h1, e, p, hp, of_decide_eq_true e2⟩
  · rintro ⟨i, h1, e, p, hp, e2⟩
    exact ⟨i, by rw [List.mem_filter, List.mem_range, List.any_eq_true]; exact ⟨h1, p, hp, decide_eq_true e2⟩, e⟩
theorem ren_of {m : Nat} {od st r : List Int} (h : Od m od) (s : Std m st) (hp : r.Perm (st.map fun p => od.getD p.toNat 0)) (ha : r.Pairwise (· ≤ ·)) : r = renI m od st := by
  have nd : (st.map fun p => od.getD p.toNat 0).Nodup := by
    refine List.pairwise_map.mpr (List.Pairwise.imp_of_mem (fun {a b} ha hb hlt e => ?_) s.asc)
    have b1 := s.bd a ha
    have b2 := s.bd b hb
    have := h.inj (i := a.toNat) (j := b.toNat) (by omega) (by omega) e
    omega
  have ndr : r.Nodup := hp.nodup_iff.mpr nd
  refine int_uniq ((ha.and ndr).imp fun {a b} q => ?_) (renI_asc m od st) fun x => ?_
  · have := q.1; have := q.2; omega
  · rw [hp.mem_iff, List.mem_map, mem_renI]
    constructor
    · rintro ⟨p, hp, e⟩
      have b1 := s.bd p hp
      have b2 := h.at (k := p.toNat) (by omega)
      exact ⟨x.toNat, by omega, by omega, p, hp, by omega⟩
    · rintro ⟨k, hk, rfl, p, hp, e⟩
      exact ⟨p, hp, e⟩
theorem ren_inj {m : Nat} {od st st' : List Int} (h : Od m od) (s : Std m st) (s' : Std m st') (e : renI m od st = renI m od st') : st = st' := by
  have half : ∀ {a b : List Int}, Std m a → Std m b → renI m od a = renI m od b → ∀ x, x ∈ a → x ∈ b := fun {a b} sa sb e x hx => by
    have bx := sa.bd x hx
    have bo := h.at (k := x.toNat) (by omega)
    have : (od.getD x.toNat 0) ∈ renI m od a := mem_renI.mpr ⟨(od.getD x.toNat 0).toNat, by omega, by omega, x, hx, by omega⟩
    rw [e] at this
    obtain ⟨k, hk, ek, p, hp, e2⟩ := mem_renI.mp this
    have bp := sb.bd p hp
    have := h.inj (i := x.toNat) (j := p.toNat) (by omega) (by omega) (by rw [ek, e2])
    have : x = p := by omega
    rw [this]; exact hp
  exact int_uniq s.asc s'.asc fun x => ⟨half s s' e x, half s' s e.symm x⟩
/-- tu shows at place od[p] what sh shows at p -/
theorem ren_seen {m : Nat} {od sh tu : List Int} (h : Od m od) (hs : sh.length = m) (ht : tu.length = m) (hx : ∀ j, j < m → tu.getD (od.getD j 0).toNat 0 = sh.getD j 0) (ns : List Int) : renI m od (seenI sh ns) = seenI tu ns := by
  refine int_uniq (renI_asc _ _ _) (seenI_asc _ _) fun x => ?_
  rw [mem_renI, mem_seenI]
  constructor
  · rintro ⟨k, hk, rfl, p, hp, e⟩
    obtain ⟨j, hj, hj2, rfl⟩ := mem_seenI.mp hp
    refine ⟨k, by omega, ?_, rfl⟩
    have := hx j (by omega)
    rw [Int.toNat_natCast] at e
    rw [e, Int.toNat_natCast] at this
    rw [this]; exact hj2
  · rintro ⟨k, hk, hk2, rfl⟩
    obtain ⟨j, hj, ej⟩ := h.sur (k := k) (by omega)
    refine ⟨k, by omega, rfl, (j : Int), mem_seenI.mpr ⟨j, by omega, ?_, rfl⟩, by rw [Int.toNat_natCast]; exact ej⟩
    have := hx j hj
    rw [ej, Int.toNat_natCast] at this
    rw [← this]; exact hk2
theorem ren_law {m : Nat} {od sh tu : List Int} {due E : List (List Int)} (h : Od m od) (hs : sh.length = m) (ht : tu.length = m) (hx : ∀ j, j < m → tu.getD (od.getD j 0).toNat 0 = sh.getD j 0)
    (hd : IsD (SeenP n near sh) due) (hp : E.Perm (due.map (renI m od))) (ha : E.Pairwise fun a b => lx b a = false) : IsD (SeenP n near tu) E := by
  have std : ∀ x ∈ due, Std m x := fun x hx => by
    obtain ⟨b, _, rfl⟩ := (hd.mem x).mp hx
    exact seen_std hs _
  have nd : (due.map (renI m od)).Nodup := List.pairwise_map.mpr (List.Pairwise.imp_of_mem (fun {a b} ha hb hne e => hne (ren_inj h (std a ha) (std b hb) e)) hd.asc.nd)
  refine ⟨asc_of ha (hp.nodup_iff.mpr nd), fun x => ?_⟩
  rw [hp.mem_iff, List.mem_map]
  constructor
  · rintro ⟨y, hy, rfl⟩
    obtain ⟨b, hb, rfl⟩ := (hd.mem y).mp hy
    exact ⟨b, hb, ren_seen h hs ht hx _⟩
  · rintro ⟨b, hb, rfl⟩
    exact ⟨_, (hd.mem _).mpr ⟨b, hb, rfl⟩, ren_seen h hs ht hx _⟩
end SM
namespace SM
/-! ### the masks from the ties -/
theorem nb_set {near : List Nat} {p v : Nat} (hp : p < near.length) (q : Nat) : nb (near.set p v) q = if p = q then v else nb near q := by
  unfold nb
  rw [List.getD_eq_getElem?_getD, List.getD_eq_getElem?_getD, List.getElem?_set]
  by_cases e : p = q
  · subst e; rw [if_pos rfl, if_pos rfl, if_pos hp]; rfl
  · rw [if_neg e, if_neg e]
def edge (near : List Nat) (t : Nat × Nat) : List Nat :=
  (near.set t.1 (nb near t.1 ||| 2 ^ t.2)).set t.2 (nb (near.set t.1 (nb near t.1 ||| 2 ^ t.2)) t.2 ||| 2 ^ t.1)
structure GrW (n : Nat) (near : List Nat) : Prop where
  len : near.length = n
  sym : ∀ p q, (nb near p).testBit q = (nb near q).testBit p
  irr : ∀ p, (nb near p).testBit p = false
  lt : ∀ p, nb near p < 2 ^ n
theorem nb_zero (n p : Nat) : nb (List.replicate n 0) p = 0 := by
  unfold nb
  rw [List.getD_eq_getElem?_getD, List.getElem?_replicate]
  split <;> rfl
theorem GrW.zero (n : Nat) : GrW n (List.replicate n 0) :=
  ⟨List.length_replicate, fun p q => by rw [nb_zero, nb_zero, Nat.zero_testBit, Nat.zero_testBit], fun p => by rw [nb_zero, Nat.zero_testBit], fun p => by rw [nb_zero]; exact Nat.two_pow_pos n⟩
theorem GrW.edge {n : Nat} {near : List Nat} (g : GrW n near) {t : Nat × Nat} (h1 : t.1 < t.2) (h2 : t.2 < n) : GrW n (edge near t) := by
  obtain ⟨a, b⟩ := t
  simp only at h1 h2
  have la : a < near.length := by rw [g.len]; omega
  have lb : b < (near.set a (nb near a ||| 2 ^ b)).length := by rw [List.length_set, g.len]; exact h2
  have hab : a ≠ b := by omega
  have e : ∀ p, nb (SM.edge near (a, b)) p = if b = p then nb near b ||| 2 ^ a else if a = p then nb near a ||| 2 ^ b else nb near p := fun p => by
    unfold SM.edge
    simp only
    rw [nb_set lb, nb_set la, nb_set la, if_neg hab]
  have tb : ∀ p q, (nb (SM.edge near (a, b)) p).testBit q = ((nb near p).testBit q || (decide (p = a ∧ q = b) || decide (p = b ∧ q = a))) := fun p q => by
    rw [e]
    by_cases e1 : b = p
    · subst e1
      rw [if_pos rfl, tb_ins]
      have : ¬ (b = a ∧ q = b) := fun z => hab z.1.symm
      simp only [this, decide_false, Bool.false_or, true_and]
      congr 1
      exact decide_eq_decide.mpr eq_comm
    · rw [if_neg e1]
      have n1 : ¬ (p = b ∧ q = a) := fun z => e1 z.1.symm
      by_cases e2 : a = p
      · subst e2
        rw [if_pos rfl, tb_ins]
        simp only [n1, decide_false, Bool.or_false, true_and]
        congr 1
        exact decide_eq_decide.mpr eq_comm
      · rw [if_neg e2]
        have n2 : ¬ (p = a ∧ q = b) := fun z => e2 z.1.symm
        simp only [n1, n2, decide_false, Bool.or_false]
  refine ⟨?_, fun p q => ?_, fun p => ?_, fun p => ?_⟩
  · unfold SM.edge; rw [List.length_set, List.length_set]; exact g.len
  · rw [tb, tb, g.sym p q]
    congr 1
    rw [Bool.or_comm]
    congr 1
    · exact decide_eq_decide.mpr and_comm
    · exact decide_eq_decide.mpr and_comm
  · rw [tb, g.irr]
    have n1 : ¬ (p = a ∧ p = b) := fun z => by omega
    have n2 : ¬ (p = b ∧ p = a) := fun z => by omega
    simp only [n1, n2, decide_false, Bool.or_false]
  · rw [e]
    split
    · exact or_lt (g.lt b) (two_lt (by omega))
    · split
      · exact or_lt (g.lt a) (two_lt h2)
      · exact g.lt p
/-- ties: ascending pairs below n -/
structure TiesOk (n : Nat) (ts : List (Nat × Nat)) : Prop where
  bd : ∀ t ∈ ts, t.1 < t.2 ∧ t.2 < n
  asc : ts.Pairwise fun t u => t.1 < u.1 ∨ (t.1 = u.1 ∧ t.2 < u.2)
def nearOf (n : Nat) (ts : List (Nat × Nat)) : List Nat := ts.foldl edge (List.replicate n 0)
theorem grW_fold {n : Nat} : ∀ (ts : List (Nat × Nat)) (near : List Nat), GrW n near → (∀ t ∈ ts, t.1 < t.2 ∧ t.2 < n) → GrW n (ts.foldl edge near)
  | [], near, g, _ => g
  | t :: ts, near, g, h => grW_fold ts _ (g.edge (h t List.mem_cons_self).1 (h t List.mem_cons_self).2) fun u hu => h u (List.mem_cons_of_mem _ hu)
theorem nearOf_W {n : Nat} {ts : List (Nat × Nat)} (h : ∀ t ∈ ts, t.1 < t.2 ∧ t.2 < n) : GrW n (nearOf n ts) := grW_fold ts _ (GrW.zero n) h
theorem nearOf_gr {n : Nat} {ts : List (Nat × Nat)} (h1 : 1 ≤ n) (h8 : n ≤ 8) (h : TiesOk n ts) : Gr n (nearOf n ts) :=
  let g := nearOf_W h.bd
  ⟨g.len, h1, h8, g.sym, g.irr, g.lt⟩
theorem nearOf_take {n : Nat} {ts : List (Nat × Nat)} {i : Nat} {t : Nat × Nat} (h : ts[i]? = some t) : nearOf n (ts.take (i + 1)) = edge (nearOf n (ts.take i)) t := by
  unfold nearOf
  rw [List.take_add_one, h]
  simp [List.foldl_append]

/-! ### counting -/
def psum (free : Nat) (ps : List Nat) : Nat := (ps.map fun p => pc (p &&& free)).sum
theorem psum_nil (free : Nat) : psum free [] = 0 := rfl
theorem psum_cons (free p : Nat) (ps : List Nat) : psum free (p :: ps) = pc (p &&& free) + psum free ps := by unfold psum; rw [List.map_cons, List.sum_cons]
theorem psum_app (free p : Nat) (ps : List Nat) : psum free (ps ++ [p]) = psum free ps + pc (p &&& free) := by unfold psum; rw [List.map_append, List.sum_append]; simp
/-- p within b -/
def Sub (p b : Nat) : Prop := ∀ i, p.testBit i = true → b.testBit i = true
theorem Sub.refl (b : Nat) : Sub b b := fun _ h => h
theorem Sub.trans {a b c : Nat} (h : Sub a b) (k : Sub b c) : Sub a c := fun i hi => k i (h i hi)
theorem Sub.sd {a b : Nat} : Sub (sd a b) a := fun i hi => by rw [tb_sd, Bool.and_eq_true] at hi; exact hi.1
theorem Sub.pc {a b : Nat} (h : Sub a b) : pc a ≤ pc b := pc_mono h
theorem Sub.lt {a b n : Nat} (h : Sub a b) (hb : b < 2 ^ n) : a < 2 ^ n := lt_of_tb fun i hi => tb_lt hb (h i hi)
theorem Sub.or {a b c : Nat} (h : Sub a c) (k : Sub b c) : Sub (a ||| b) c := fun i hi => by
  rw [Nat.testBit_or, Bool.or_eq_true] at hi
  exact hi.elim (h i) (k i)
theorem Sub.and_left {a b : Nat} : Sub (a &&& b) a := fun i hi => by rw [Nat.testBit_and, Bool.and_eq_true] at hi; exact hi.1
theorem Sub.and_right {a b : Nat} : Sub (a &&& b) b := fun i hi => by rw [Nat.testBit_and, Bool.and_eq_true] at hi; exact hi.2
theorem psum_step {bits piece : Nat} (h : Sub piece bits) (free : Nat) : pc (piece &&& free) + pc (sd bits piece &&& free) ≤ pc (bits &&& free) := by
  rw [pc_split (bits &&& free) piece]
  have e1 : bits &&& free &&& piece = piece &&& free := mask_ext fun i => by
    rw [Nat.testBit_and, Nat.testBit_and, Nat.testBit_and]
    have := h i
    cases a : piece.testBit i
    · simp
    · rw [this a]; simp
  have e2 : sd (bits &&& free) piece = sd bits piece &&& free := mask_ext fun i => by
    rw [tb_sd, Nat.testBit_and, Nat.testBit_and, tb_sd]
    cases bits.testBit i <;> cases free.testBit i <;> cases piece.testBit i <;> rfl
  rw [e1, e2]; exact Nat.le_refl _
theorem piece_ne {p free shut : Nat} (h : Sub p (free ||| shut)) (h0 : p ≠ 0) : (p &&& free) ||| (p &&& shut) ≠ 0 := by
  intro e
  apply h0
  refine mask_ext fun i => ?_
  have q : ((p &&& free) ||| (p &&& shut)).testBit i = false := by rw [e, Nat.zero_testBit]
  rw [Nat.testBit_or, Nat.testBit_and, Nat.testBit_and] at q
  rw [Nat.zero_testBit]
  cases a : p.testBit i
  · rfl
  · have := h i a
    rw [Nat.testBit_or] at this
    rw [a] at q
    simp at q this
    rw [q.1, q.2] at this
    simp at this
theorem pc_del {l p : Nat} (hp : p < 8) (h : l.testBit p = true) : pc (sd l (2 ^ p)) + 1 = pc l := by
  have := pc_split l (2 ^ p)
  have e : l &&& 2 ^ p = 2 ^ p := mask_ext fun i => by
    rw [Nat.testBit_and, tb_two]
    by_cases c : p = i
    · subst c; rw [h]; rfl
    · simp [c]
  rw [e, pc_one hp] at this
  omega
/-- one product more -/
theorem mul_step {found r x y c : Nat} (hr : r ≤ 2 ^ x) (h : found * 2 ^ (x + y) ≤ c) : found * r * 2 ^ y ≤ c := by
  refine Nat.le_trans ?_ h
  rw [Nat.pow_add, ← Nat.mul_assoc]
  exact Nat.mul_le_mul_right _ (Nat.mul_le_mul_left _ hr)
/-- one sum more -/
theorem add_step {total r l l' x c : Nat} (hl : l' + 1 = l) (hx : x ≤ l') (hr : r ≤ 2 ^ x) (h : total + 2 ^ l ≤ c) : total + r + 2 ^ l' ≤ c := by
  have e : 2 ^ l = 2 ^ l' + 2 ^ l' := by rw [← hl, Nat.pow_succ]; omega
  have := Nat.pow_le_pow_right (n := 2) (by decide) hx
  omega
theorem two8 {k : Nat} (h : k ≤ 8) : 2 ^ k ≤ 256 := le8 h
/-- the search of a piece -/
theorem edge_less {bits found e : Nat} (h0 : e ≠ 0) (hb : Sub e bits) (hf : ∀ i, e.testBit i = true → found.testBit i = false) (h8 : bits < 256) : pc (sd bits (found ||| e)) < pc (sd bits found) := by
  have hx : ∃ i, e.testBit i = true := by
    refine Classical.byContradiction fun z => h0 (mask_ext fun i => ?_)
    rw [Nat.zero_testBit]
    cases a : e.testBit i
    · rfl
    · exact absurd ⟨i, a⟩ z
  obtain ⟨i, hi⟩ := hx
  have hi8 : i < 8 := tb_lt (n := 8) h8 (hb i hi)
  have s := pc_split (sd bits found) e
  have e1 : sd (sd bits found) e = sd bits (found ||| e) := mask_ext fun j => by
    rw [tb_sd, tb_sd, tb_sd, Nat.testBit_or]
    cases bits.testBit j <;> cases found.testBit j <;> cases e.testBit j <;> rfl
  have p1 : 0 < pc (sd bits found &&& e) := pc_pos hi8 (by rw [Nat.testBit_and, tb_sd, hi, hf i hi, hb i hi]; rfl)
  rw [e1] at s
  omega
theorem low_mem {b : Nat} (h : b < 256) (h0 : 0 < b) : low b ∈ lot b := by rw [lot_step h h0]; exact List.mem_cons_self
theorem low_tb {b : Nat} (h : b < 256) (h0 : 0 < b) : b.testBit (low b) = true := (mem_lot.mp (low_mem h h0)).2
theorem two_ne (p : Nat) : 2 ^ p ≠ 0 := Nat.pos_iff_ne_zero.mp (Nat.two_pow_pos p)
theorem sub_two {p b : Nat} (h : b.testBit p = true) : Sub (2 ^ p) b := fun i hi => by
  rw [tb_two, decide_eq_true_eq] at hi
  subst hi; exact h
theorem or_ne {a b : Nat} (h : a ≠ 0) : a ||| b ≠ 0 := fun z => h (mask_ext fun i => by
  have : (a ||| b).testBit i = false := by rw [z, Nat.zero_testBit]
  rw [Nat.testBit_or] at this
  rw [Nat.zero_testBit]
  cases e : a.testBit i
  · rfl
  · rw [e] at this; cases this)
theorem sd_less {b p : Nat} (h0 : p ≠ 0) (h : Sub p b) (h8 : b < 256) : pc (sd b p) < pc b := by
  have hx : ∃ i, p.testBit i = true := by
    refine Classical.byContradiction fun z => h0 (mask_ext fun i => ?_)
    rw [Nat.zero_testBit]
    cases a : p.testBit i
    · rfl
    · exact absurd ⟨i, a⟩ z
  obtain ⟨i, hi⟩ := hx
  have hi8 : i < 8 := tb_lt (n := 8) h8 (h i hi)
  have s := pc_split b p
  have p1 : 0 < pc (b &&& p) := pc_pos hi8 (by rw [Nat.testBit_and, hi, h i hi]; rfl)
  omega

/-! ### names for ties -/
def pairOf (nm : List Int) (i j : Nat) : Int × Int := (if nm.getD j 0 < nm.getD i 0 then nm.getD j 0 else nm.getD i 0, if nm.getD j 0 > nm.getD i 0 then nm.getD j 0 else nm.getD i 0)
theorem pairOf_inj {m : Nat} {nm : List Int} (h : Od m nm) {i j i' j' : Nat} (hj : j < i) (hi : i < m) (hj' : j' < i') (hi' : i' < m) (e : pairOf nm i j = pairOf nm i' j') : i = i' ∧ j = j' := by
  have n1 : nm.getD i 0 ≠ nm.getD j 0 := fun z => by have := h.inj hi (by omega) z; omega
  have n2 : nm.getD i' 0 ≠ nm.getD j' 0 := fun z => by have := h.inj hi' (by omega) z; omega
  unfold pairOf at e
  simp only [Prod.mk.injEq] at e
  obtain ⟨e1, e2⟩ := e
  have c : (nm.getD i 0 = nm.getD i' 0 ∧ nm.getD j 0 = nm.getD j' 0) ∨ (nm.getD i 0 = nm.getD j' 0 ∧ nm.getD j 0 = nm.getD i' 0) := by
    split at e1 <;> split at e1 <;> split at e2 <;> split at e2 <;> omega
  rcases c with ⟨c1, c2⟩ | ⟨c1, c2⟩
  · exact ⟨h.inj hi hi' c1, h.inj (by omega) (by omega) c2⟩
  · have := h.inj hi (by omega) c1
    have := h.inj (show j < m by omega) hi' c2
    omega
theorem pairOf_bd {m : Nat} {nm : List Int} (h : Od m nm) {i j : Nat} (hj : j < i) (hi : i < m) : 0 ≤ (pairOf nm i j).1 ∧ (pairOf nm i j).1 < (pairOf nm i j).2 ∧ (pairOf nm i j).2 < (m : Int) := by
  have n1 : nm.getD i 0 ≠ nm.getD j 0 := fun z => by have := h.inj hi (by omega) z; omega
  have b1 := h.at hi
  have b2 := h.at (k := j) (by omega)
  unfold pairOf
  simp only
  split <;> split <;> omega
end SM
/-! sorted of tuples of intl of any lengths: a list of them, a set of them -/
namespace SX1
open PySem PyProof.Rows

theorem lx_eq : ∀ a b, HT.lexLt a b = SM.lx a b
  | [], [] => rfl
  | [], _ :: _ => rfl
  | _ :: _, [] => rfl
  | x :: xs, y :: ys => by
    show (if x = y then HT.lexLt xs ys else decide (x < y)) = (if x = y then SM.lx xs ys else decide (x < y))
    rw [lx_eq xs ys]
theorem swo_lx {α : Type} (k : α → List Int) : SrtO.Swo fun v u => SM.lx (k v) (k u) :=
  ⟨fun x y h => SM.lx_asym _ _ h, fun x y z h1 h2 => SM.lx_ntrans _ _ _ h1 h2⟩
theorem perm_map_ex {α β : Type} {f : α → β} {l m : List β} (h : l.Perm m) : ∀ ks : List α, m = ks.map f → ∃ ks' : List α, ks'.Perm ks ∧ l = ks'.map f := by
  induction h with
  | nil => exact fun ks e => ⟨ks, List.Perm.refl _, e⟩
  | @cons x l m _ ih =>
    intro ks e
    match ks, e with
    | k :: ks, e =>
      rw [List.map_cons] at e
      injection e with e1 e2
      obtain ⟨ks', p, e3⟩ := ih ks e2
      exact ⟨k :: ks', p.cons k, by rw [List.map_cons, e3, e1]⟩
  | @swap x y l =>
    intro ks e
    match ks, e with
    | a :: b :: r, e =>
      rw [List.map_cons, List.map_cons] at e
      injection e with e1 e2
      injection e2 with e2 e3
      exact ⟨b :: a :: r, List.Perm.swap a b r, by rw [List.map_cons, List.map_cons, e1, e2, e3]⟩
  | trans _ _ ih1 ih2 =>
    intro ks e
    obtain ⟨k2, p2, e2⟩ := ih2 ks e
    obtain ⟨k1, p1, e1⟩ := ih1 k2 e2
    exact ⟨k1, p1.trans p2, e1⟩

section
variable {prog : Program} {w : World} {A : Around} {E : Value → Shared → Prop} {s : Shared}
abbrev TI (h : Heap) (v : Value) (ns : List Int) : Prop := TS.TupInts h v ns

theorem go_lex {b fin : Bool} {Q : Bool → Shared → Prop} {xs ys : List Value} {ns ms : List Int} (hx : IntsAre xs ns) (hy : IntsAre ys ms) (i : Nat) (hf : fin = decide (ns.length < ms.length)) (h : Q (SM.lx ns ms) s) :
    PySem.W.KatLex prog w A b fin Q (xs.zip ys) i s := by
  induction hx generalizing ys ms i with
  | nil =>
    cases hy with
    | nil => subst hf; exact PySem.W.kat_nil h
    | cons q u hy => subst hf; exact PySem.W.kat_nil (by simpa [SM.lx] using h)
  | @cons p t xs ns hx ih =>
    cases hy with
    | nil => subst hf; exact PySem.W.kat_nil (by simpa [SM.lx] using h)
    | @cons q u ys ms hy =>
      have hf' : fin = decide (ns.length < ms.length) := by rw [hf]; simp
      show PySem.W.KatLex prog w A b fin Q ((Value.int p t, Value.int q u) :: xs.zip ys) i s
      refine PySem.W.kat_cons (wpAny_eqBool_int ?_)
      by_cases e : p = q
      · subst e
        rw [beq_self_eq_true]
        have d : SM.lx (p :: ns) (p :: ms) = SM.lx ns ms := if_pos rfl
        rw [d] at h
        exact PySem.W.kat_yes (ih hy (i + 1) hf' h)
      · rw [beq_eq_false_iff_ne.mpr e]
        have d : SM.lx (p :: ns) (q :: ms) = decide (p < q) := if_neg e
        rw [d] at h
        exact PySem.W.kat_no (TS.oneLt_ints _ h)

theorem cmp_tuples {b : Bool} {v u : Value} {ns ms : List Int} {Q : Bool → Shared → Prop} (hv : TI s.heap v ns) (hu : TI s.heap u ms) (h : Q (SM.lx ns ms) s) : wpAny (model prog w) A (keyLt' (tuples' b) v u) Q E s := by
  obtain ⟨a, xs, rfl, ⟨o, ho, hc, n, hd⟩, i⟩ := hv
  obtain ⟨a', ys, rfl, ⟨o', ho', hc', n', hd'⟩, i'⟩ := hu
  refine PySem.W.kat_lt ho hd ho' hd' (go_lex i i' 0 ?_ h)
  have l1 := i.length
  have l2 := i'.length
  rw [Array.length_toList] at l1 l2
  rw [l1, l2]
theorem cmp_gen {v u : Value} {ns ms : List Int} {Q : Bool → Shared → Prop} (hr : A.units < cLine) (hv : TI s.heap v ns) (hu : TI s.heap u ms) (h : Q (SM.lx ns ms) s) : wpAny (model prog w) A (keyLt' general' v u) Q E s := by
  obtain ⟨a, xs, rfl, tx, i⟩ := hv
  obtain ⟨a', ys, rfl, ty, i'⟩ := hu
  show wpAny (model prog w) A (oneLt' false _ _) Q E s
  refine PySem.W.kat_one _ _ (HT.lt_tupInts tx ty i i' hr ?_)
  show Q (HT.lexLt ns ms) s
  rw [lx_eq]; exact h
theorem cmp_one {v u : Value} {ns ms : List Int} {Q : Bool → Shared → Prop} (hr : A.units < cLine) (hv : TI s.heap v ns) (hu : TI s.heap u ms) (h : Q (SM.lx ns ms) s) : wpAny (model prog w) A (keyLt' oneType' v u) Q E s := by
  obtain ⟨a, xs, rfl, ⟨⟨cls, dd, data, sl⟩, ho, hc, n, hd⟩, i⟩ := hv
  obtain ⟨a', ys, rfl, ⟨⟨cls2, dd2, data2, sl2⟩, ho2, hc2, n2, hd2⟩, i'⟩ := hu
  simp only at hc hd hc2 hd2
  subst hc hd hc2 hd2
  rw [keyLt'_oneType, oneLt'_eq]
  simp only [if_true]
  refine wpAny_bind (wpAny_cRoomFor hr ?_)
  refine wpAny_bind (wpAny_callSpecialIfBound?_slot (T := "tuple") (id := "tuple.__lt__") ⟨_, ho, rfl⟩ PySem.F.slot_tuple_lt (call_meets PySem.F.slot_tuple_lt ⟨_, ho, rfl⟩ PySem.F.entry_tuple_lt (PySem.F.args_tuple_lt_2 _ _) (HT.tuple_lt_ints a a' xs ys n n2 dd dd2 sl sl2 ns ms i i') ⟨ho, ho2, ?_⟩))
  rw [lx_eq]
  exact wpAny_truthy_bool h

/-- the first items, where there are some -/
theorem firsts_ex : ∀ (vs : List Value), (∀ v ∈ vs, ∃ ns, TI s.heap v ns) → ∃ fs : List (Option Value), fs.length = vs.length ∧ (∀ f ∈ fs, f = none ∨ ∃ n t, f = some (Value.int n t)) ∧
    ∀ (M : Model) (A : Around) (E : Value → Shared → Prop) (Q : List (Option Value) → Shared → Prop), Q fs s → wpAny M A (vs.mapM firstOfTuple') Q E s
  | [], _ => ⟨[], rfl, fun f hf => absurd hf (by simp), fun M A E Q h => by rw [List.mapM_nil]; exact wpAny_pure h⟩
  | v :: vs, hx => by
    obtain ⟨fs, hl, hi, hq⟩ := firsts_ex vs fun u hu => hx u (List.mem_cons_of_mem _ hu)
    obtain ⟨ns, a, xs, rfl, ⟨o, ho, hc, n, hd⟩, i⟩ := hx v List.mem_cons_self
    refine ⟨xs[0]? :: fs, by simp [hl], fun f hf => ?_, fun M A E Q h => ?_⟩
    · rcases List.mem_cons.mp hf with rfl | hf
      · cases e : xs[0]? with
        | none => exact .inl rfl
        | some y =>
          obtain ⟨m, t, hy⟩ := i.all y (by
            have : xs.toList[0]? = some y := by rw [Array.getElem?_toList]; exact e
            exact List.mem_of_getElem? this)
          exact .inr ⟨m, t, by rw [hy]⟩
      · exact hi f hf
    · rw [List.mapM_cons]
      refine wpAny_bind ?_
      rw [PySem.W.kas_first_eq]
      refine wpAny_bind (PySem.W.Looks.here (show PySem.W.Looks M s.heap (typeOf (.ref a)) o.cls from (PySem.W.Looks.ld ho).andThen .now) ?_)
      rw [hc, if_neg (by first | decide | simp)]
      refine wpAny_bind (listItems_at ho hd (wpAny_pure ?_))
      exact wpAny_bind (hq M A E (fun bs s' => wpAny M A (pure (xs[0]? :: bs)) Q E s') (wpAny_pure h))
theorem types_at {M : Model} : ∀ (vs : List Value) {Q : List Value → Shared → Prop} {E : Value → Shared → Prop}, (∀ v ∈ vs, ∃ ns, TI s.heap v ns) → Q (vs.map fun _ => Value.type "tuple") s → wpAny M A (vs.mapM typeOf) Q E s := fun vs Q E hx h => by
  refine PySem.W.kas_mapM (r := Value.type "tuple") vs (fun v hv Q' hq => ?_) h
  obtain ⟨ns, a, xs, rfl, ⟨o, ho, hc, n, hd⟩, i⟩ := hx v hv
  refine PySem.W.Looks.here (show PySem.W.Looks M s.heap (typeOf (.ref a)) o.cls from (PySem.W.Looks.ld ho).andThen .now) ?_
  rw [hc]; exact hq
/-- the kind of the sort -/
theorem kind_ex {vs : List Value} (h2 : 2 ≤ vs.length) (hx : ∀ v ∈ vs, ∃ ns, TI s.heap v ns) : ∃ κ : SortKind, (κ = tuples' true ∨ κ = general' ∨ κ = oneType') ∧
    ∀ (M : Model) (A : Around) (E : Value → Shared → Prop) (Q : SortKind → Shared → Prop), Q κ s → wpAny M A (keyKind' vs.toArray) Q E s := by
  obtain ⟨fs, hl, hi, hq⟩ := firsts_ex vs hx
  by_cases hall : fs.toArray.all (·.isSome) = true
  · refine ⟨tuples' true, .inl rfl, fun M A E Q h => ?_⟩
    rw [keyKind'_eq, List.mapM_toArray, map_eq_pure_bind]
    refine wpAny_bind (wpAny_bind (hq M A E _ (wpAny_pure ?_)))
    rw [if_pos hall]
    refine wpAny_bind (wpAny_rule ?_)
    obtain ⟨gs, e, hg⟩ : ∃ gs : List Value, fs.toArray.filterMap id = gs.toArray ∧ gs.length = fs.length ∧ ∀ g ∈ gs, ∃ n t, g = Value.int n t := by
      have hall' : ∀ f ∈ fs, f.isSome = true := by simpa using hall
      clear hall hq h hl
      induction fs with
      | nil => exact ⟨[], by simp, rfl, fun g hg => absurd hg (by simp)⟩
      | cons f fs ih =>
        obtain ⟨gs, e, e2, hg⟩ := ih (fun f hf => hi f (List.mem_cons_of_mem _ hf)) fun f hf => hall' f (List.mem_cons_of_mem _ hf)
        rcases hi f List.mem_cons_self with rfl | ⟨n, t, rfl⟩
        · exact absurd (hall' _ List.mem_cons_self) (by simp)
        · have e' : fs.filterMap id = gs := by simpa using congrArg Array.toList e
          refine ⟨Value.int n t :: gs, by simp [e'], by simp [e2], fun g h => ?_⟩
          rcases List.mem_cons.mp h with rfl | h
          · exact ⟨n, t, rfl⟩
          · exact hg g h
    rw [e, oneTypeOnly'_eq, List.mapM_toArray, map_eq_pure_bind]
    refine wpAny_bind (wpAny_bind (wpAny_bind (PySem.W.kas_mapM (r := Value.type "int") gs (fun v hv Q' hq' => ?_) (wpAny_pure ?_))))
    · obtain ⟨n, t, rfl⟩ := hg.2 v hv
      exact (PySem.W.Looks.of_pure (M := M) (h := s.heap) (t := typeOf (.int n t)) (r := Value.type "int") rfl).here hq'
    · obtain ⟨g, gr, rfl⟩ : ∃ g gr, gs = g :: gr := by
        match gs, hg.1 with
        | [], h0 => rw [hl] at h0; simp only [List.length_nil] at h0; omega
        | g :: gr, _ => exact ⟨g, gr, rfl⟩
      have hall2 : ((List.map (fun _ => Value.type "int") (g :: gr)).toArray.all fun x => x == Value.type "int") = true := by
        simp only [List.all_toArray, List.all_map, List.all_eq_true]
        intro _ _
        rfl
      have h0 : (List.map (fun _ => Value.type "int") (g :: gr)).toArray[0]? = some (Value.type "int") := by simp
      rw [h0]
      simp only [hall2, if_true]
      refine wpAny_pure ?_
      have e3 : (Option.any (fun x : Value => x != Value.type "tuple") (some (Value.type "int"))) = true := by first | rfl | decide
      rw [e3]
      exact wpAny_pure h
  · by_cases hfst : (fs.toArray[0]?.bind id).isSome = true
    · refine ⟨general', .inr (.inl rfl), fun M A E Q h => ?_⟩
      rw [keyKind'_eq, List.mapM_toArray, map_eq_pure_bind]
      refine wpAny_bind (wpAny_bind (hq M A E _ (wpAny_pure ?_)))
      rw [if_neg hall, if_pos hfst]
      exact wpAny_pure h
    · refine ⟨oneType', .inr (.inr rfl), fun M A E Q h => ?_⟩
      rw [keyKind'_eq, List.mapM_toArray, map_eq_pure_bind]
      refine wpAny_bind (wpAny_bind (hq M A E _ (wpAny_pure ?_)))
      rw [if_neg hall, if_neg hfst, oneTypeOnly'_eq, List.mapM_toArray, map_eq_pure_bind]
      refine wpAny_bind (wpAny_bind (wpAny_bind (types_at vs hx (wpAny_pure ?_))))
      obtain ⟨v, vr, rfl⟩ : ∃ v vr, vs = v :: vr := by
        match vs, h2 with
        | v :: vr, _ => exact ⟨v, vr, rfl⟩
      have hall2 : ((List.map (fun _ => Value.type "tuple") (v :: vr)).toArray.all fun x => x == Value.type "tuple") = true := by
        simp only [List.all_toArray, List.all_map, List.all_eq_true]
        intro _ _
        rfl
      have h0 : (List.map (fun _ => Value.type "tuple") (v :: vr)).toArray[0]? = some (Value.type "tuple") := by simp
      rw [h0]
      simp only [hall2, if_true]
      exact wpAny_pure (wpAny_pure h)
/-- tuples of intl may be sorted by their order -/
theorem lots_sortable {a : Addr} {vs : List Value} {k : Value → List Int} (h2 : 2 ≤ vs.length) (hr : A.units < cLine) (hx : ∀ v ∈ vs, TI s.heap v (k v)) (ha : ∀ o, s.heap.get? a = some o → o.cls ≠ .type "tuple") :
    SrtO.SortableO prog w A s a vs fun v u => SM.lx (k v) (k u) := by
  intro h' keep
  have hx' : ∀ v ∈ vs, TI h' v (k v) := fun v hm => (hx v hm).keeps fun b o e c => keep b o (fun z => by subst z; exact ha o e c) e
  obtain ⟨κ, hk, hq⟩ := kind_ex (s := { s with heap := h' }) h2 fun v hv => ⟨_, hx' v hv⟩
  refine ⟨κ, fun Q E h => hq _ A E Q h, fun p q hp hq' => ?_⟩
  have t1 := hx' _ hp
  have t2 := hx' _ hq'
  rcases hk with rfl | rfl | rfl
  · exact cmp_tuples (s := { s with heap := h' }) t1 t2 ⟨rfl, rfl⟩
  · exact cmp_gen (s := { s with heap := h' }) hr t1 t2 ⟨rfl, rfl⟩
  · exact cmp_one (s := { s with heap := h' }) hr t1 t2 ⟨rfl, rfl⟩
/-- sorted(l) -/
theorem sorted_lots {l : Addr} {vs : List Value} {k : Value → List Int} {Q : Value → Shared → Prop} (hl : s.heap.IsList l vs.toArray) (hz : vs.length ≤ sizeLine) (hr : A.in1.in1.units < cLine) (hx : ∀ v ∈ vs, TI s.heap v (k v))
    (h : ∀ (h' : Heap) (d : Addr) (out : List Value), out.Perm vs → (out.Pairwise fun v u => SM.lx (k u) (k v) = false) → (∀ b o, s.heap.get? b = some o → h'.get? b = some o) → s.heap.objs.size ≤ d → (∃ n, h'.get? d = some (seqObj "list" out.toArray n)) → Q (.ref d) { s with heap := h' }) :
    wpAny (model prog w) A (call (.builtin "sorted") [.ref l]) Q E s := by
  refine SrtO.sorted_ord (swo_lx k) hl hz (fun h2 h1 a ha kk => ?_) fun out hs hb => ?_
  · refine lots_sortable (s := { s with heap := h1 }) h2 hr (fun v hm => (hx v hm).keeps fun b o e _ => (kk b o e).2) fun o e => ?_
    have e' : some o = some (seqObj "list" vs.toArray 0) := e.symm.trans ha
    cases e'
    intro c
    exact absurd (Value.type.inj c) (by decide)
  · exact h _ _ out hb.perm hs (fun b o e => sortedAll_old e) (Nat.le_succ _) (sortedAll_at s.heap vs out.toArray)
end
end SX1
/-! the same as rules of the layer; set(..) of a tuple of tuples; len(set(..)) of a tuple of intl -/
namespace SX2
open PySem PySem.Spec PyProof.Rows L2 SX1

section
variable {P : Program} {w : World} {A : Around} {E : Value → Shared → Prop} {s : Shared}
abbrev newSet (w : World) : Obj := { cls := .type "set", dict := none, data := .set #[] 0 (.fresh 0 0 (!w.params.followText "set-order")) }
set_option maxRecDepth 100000 in
/-- set(t), t a tuple of tuples of intl -/
theorem call_set_of_tup {l : Addr} {items : Array Value} (ks : List (Addr × List Int)) {Q : Value → Shared → Prop} (hh : A.handled = none) (hl : s.heap.IsTuple l items) (hit : items.toList = ks.map fun p => Value.ref p.1)
    (hk : ∀ p ∈ ks, IsT P w s.heap p.2 p.1) (hfew : ks.length < 64) (hu : A.units + 3 < cLine)
    (h : ∀ (h' : Heap) (tk : Nat) L es ep t, SetTR P w h' s.heap.objs.size L es ep t → Got ks ks.length L → (∀ b o, s.heap.get? b = some o → h'.get? b = some o) → Q (.ref s.heap.objs.size) { s with heap := h', toks := tk }) :
    wpAny (model P w) A (call (.type "set") [.ref l]) Q E s := by
  have hisz : items.size = ks.length := by simpa using congrArg List.length hit
  obtain ⟨c, tl, hmro⟩ := F.called_set.mro
  have hmade := F.called_set.made
  have hsub := F.called_set.sub
  refine wpAny_call (codeAny_of_tree ?_)
  show wpAny _ _ (callAny (.type "set") _) _ _ _
  refine wpAny_pure ⟨Code.quiet_builtin _ (by decide +kernel), codeAny_builtin F.entry_type_call ?_⟩
  rw [Around.under_plain (weight_type_call_type "set" [.ref l] []) rfl]
  have h1 := F.called_set.notType
  have h2 := F.called_set.canCreate
  have hct := F.typeCall_set_1 (.ref l)
  repeat (any_goals (first | assumption | wp_step))
  refine codeAny_mono (code_set_led1 (.ref l) (E := E) (Q₁ := fun obj s1 => obj = .ref s.heap.objs.size ∧ s1 = { s with heap := s.heap.push (newSet w) }) ⟨rfl, rfl⟩) fun r s1 hr => ?_
  match r, hr with
  | .error e, hr => exact hr
  | .ok (.ret obj), hr =>
    obtain ⟨rfl, rfl⟩ := hr
    have hS : (s.heap.push (newSet w)).get? s.heap.objs.size = some (newSet w) := Heap.get?_push_size _ rfl
    have hT : Shared.TypeIs { s with heap := s.heap.push (newSet w) } (.ref s.heap.objs.size) "set" := ⟨_, hS, rfl⟩
    have hli := F.called_set.init.lookup
    have hbi := F.called_set.init.bind (.ref s.heap.objs.size)
    repeat (any_goals (first | assumption | wp_step))
    refine codeAny_mono (codeAny_call_builtin (R := wants (fun r s2 => r = .none ∧ ∃ h' tk L es ep t, s2 = { s with heap := h', toks := tk } ∧ SetTR P w h' s.heap.objs.size L es ep t ∧ Got ks ks.length L ∧
        (∀ b o, s.heap.get? b = some o → h'.get? b = some o)) E) F.called_set.init.plain F.entry_set_init (check_set_init_1 hT ?_)) fun r2 s2 hr2 => ?_
    · obtain ⟨⟨ocls, odict, odata, oslots⟩, hol, hcl, nl, hdl⟩ := hl
      simp only at hcl hdl
      subst hcl hdl
      have hol' : (s.heap.push (newSet w)).get? l = some { cls := .type "tuple", dict := odict, data := .seq items nl, slots := oslots } := Heap.get?_push_of_some _ hol
      have hsls := F.sub_tuple_set
      have hslf := F.sub_tuple_frozenset
      have hne : (Value.type "tuple" == Value.type "dict") = false := by decide
      have hl1 : (s.heap.push (newSet w)).IsTuple l items := ⟨_, hol', rfl, nl, rfl⟩
      unfold Builtin.«set.__init__» noKeywords Builtin.Frozenset.updateFrom
      generalize hPI : pyIter = PI
      wp_walk
      subst hPI
      refine wpAny_pyIter_tuple hl1 ?_
      refine wpAny_bind (wpAny_runValue ?_)
      have hlS : l < s.heap.objs.size := Heap.lt_size hol
      have hz1 : (s.heap.push (newSet w)).objs.size = s.heap.objs.size + 1 := Heap.size_push ..
      have hneI : l ≠ (s.heap.push (newSet w)).objs.size := by rw [hz1]; exact Nat.ne_of_lt (Nat.lt_succ_of_lt hlS)
      have hSf : s.heap.objs.size ∉ [(s.heap.push (newSet w)).objs.size, l] := fun z => by
        rcases List.mem_cons.mp z with z | z
        · rw [hz1] at z; exact Nat.ne_of_lt (Nat.lt_succ_self _) z
        · exact Nat.ne_of_gt hlS (List.mem_singleton.mp z)
      have hval : ∀ (i : Nat) (v : Value), items[i]? = some v → ∃ p, ks[i]? = some p ∧ v = .ref p.1 := fun i v hv => by
        have q : (ks.map fun p => Value.ref p.1)[i]? = some v := by rw [← hit, Array.getElem?_toList]; exact hv
        rw [List.getElem?_map, Option.map_eq_some_iff] at q
        obtain ⟨p, h1, h2⟩ := q
        exact ⟨p, h1, h2.symm⟩
      have none_of : ∀ b, s.heap.objs.size ≤ b → s.heap.get? b = none := fun b hb => Heap.get?_none_of_le hb
      refine set_update_tups ((Walks.tuple (show A.in1.in1.in1.handled = none by simp [hh]) _ l hneI items).toS) s.heap.objs.size hSf ks hisz hfew hval s.heap hk (none_of _ (Nat.le_refl _)) (fun b hb => none_of b (by
          rw [List.mem_singleton.mp hb, hz1]
          exact Nat.le_succ _)) hu (items.size - 0) 0 _ (by omega) (Nat.zero_le _) ⟨⟨_, Heap.get?_push_size _ rfl, rfl, rfl⟩, (hl1.push _)⟩ (fun b o e => Heap.get?_push_of_some _ (Heap.get?_push_of_some _ e)) ?st ?fin
      case st =>
        have hget : ((s.heap.push (newSet w)).push { cls := .type "tuple_iterator", data := .fields #[.ref l, .int 0 0] }).get? s.heap.objs.size = some (newSet w) := Heap.get?_push_of_some _ hS
        exact ⟨[], #[], 0, _, setTR_fresh hget, Got.zero ks⟩
      case fin =>
        intro s' L es ep t hm hS' g' hkp
        obtain ⟨h', g2, d', tk', os'⟩ := s'
        obtain rfl : g2 = s.gens := hm.gens
        obtain rfl : d' = s.drawn := hm.drawn
        obtain rfl : os' = s.os := hm.os
        show wpAny _ _ _ _ _ _
        refine wpAny_pure ?_
        show wpAny _ _ (ret Value.none) _ _ _
        rw [hisz] at g'
        exact wpAny_pure ⟨rfl, h', tk', L, es, ep, t, rfl, hS', g', hkp⟩
    · match r2, hr2 with
      | .error e, hr2 => exact hr2
      | .ok (.ret r), hr2 =>
        obtain ⟨rfl, h', tk, L, es, ep, t, rfl, hS', g', hk'⟩ := hr2
        repeat (any_goals (first | assumption | wp_step))
        exact h _ _ _ _ _ _ hS' g' hk'

/-- sorted(set), the tuples of any lengths -/
theorem sorted_set_lots {a : Addr} {L : List (Addr × List Int)} {es : Array (Int × Value)} {ep : Nat} {t : SetTable} {Q : Value → Shared → Prop} (R : SetTR P w s.heap a L es ep t) (hh : A.handled = none) (hr : A.in1.in1.units < cLine)
    (hQ : ∀ s' p (out : List Value) (c : Nat) (L' : List (Addr × List Int)), (∀ b o, s.heap.get? b = some o → s'.heap.get? b = some o) → s'.gens = s.gens → s'.os = s.os → s.heap.objs.size ≤ p →
      s'.heap.get? p = some (seqObj "list" out.toArray c) → out = L'.map (fun q => Value.ref q.1) → L'.Perm L → (L'.Pairwise fun q r => SM.lx r.2 q.2 = false) → Q (.ref p) s') :
    wpAny (model P w) A (call (.builtin "sorted") [.ref a]) Q E s := by
  obtain ⟨o, ho, hex, hd⟩ := R.ob
  have hsz := R.size
  have hfew := R.few
  refine Calls.call_function_entry kind_sorted plain_sorted entry_sorted (args_sorted1 _) ?_
  unfold Builtin.«sorted»
  refine wpAny_bind (m := checkCount "sorted" 1 1 _) (wpAny_pure ?_)
  refine wpAny_bind (collect_set (A := A.in1) hh ⟨o, ho, hex.1, hd⟩ R.fits (by unfold scanBound; omega) R.tab.ris R.led fun s1 vs k1 hz g1 o1 pm => ?_)
  have hes : es.toList.map (·.2) = L.map fun q => Value.ref q.1 := by
    rw [R.rows]
    unfold rowsOf
    rw [List.map_map] <;> rfl
  rw [hes] at pm
  have hvl : vs.length ≤ sizeLine := by rw [pm.length_eq, List.length_map, sizeLine_eq]; omega
  refine wpAny_bind (wpAny_newList ?_ hvl)
  have hoL : (s1.heap.push (seqObj "list" vs.toArray 0)).get? s1.heap.objs.size = some (seqObj "list" vs.toArray 0) := Heap.get?_push_size _ rfl
  have tk : ∀ q ∈ L, TI (s1.heap.push (seqObj "list" vs.toArray 0)) (.ref q.1) q.2 := fun q hq => tupInts_of (P := P) (w := w) (isT_keep (R.tup q hq) fun b u e => Heap.get?_push_of_some _ (k1 b u e))
  have tkv : ∀ v ∈ vs, TI (s1.heap.push (seqObj "list" vs.toArray 0)) v (TS.intsOf (s1.heap.push (seqObj "list" vs.toArray 0)) v) := fun v hv => by
    obtain ⟨q, hq, e⟩ := List.mem_map.mp (pm.mem_iff.mp hv)
    have x := tk q hq
    rw [← e, x.ints]
    exact x
  refine wpAny_bind (wpAny_holding (wpAny_call_entry slot_list_sort ⟨_, hoL, rfl⟩ entry_list_sort (SrtO.list_sort_ord (s := { s1 with heap := s1.heap.push (seqObj "list" vs.toArray 0) }) (swo_lx (TS.intsOf (s1.heap.push (seqObj "list" vs.toArray 0)))) hoL hvl (fun h2 => ?_) fun out hs hb => ⟨_, rfl, ?_⟩) (args_list_sort _)))
  · refine lots_sortable (s := { s1 with heap := s1.heap.push (seqObj "list" vs.toArray 0) }) h2 hr tkv fun o e => ?_
    have e' : some o = some (seqObj "list" vs.toArray 0) := e.symm.trans hoL
    cases e'
    intro c
    exact absurd (Value.type.inj c) (by decide)
  · obtain ⟨c, hc⟩ := sortedHeap_at (vs := vs) (out := out.toArray) hoL
    obtain ⟨L', pL, e'⟩ := perm_map_ex (hb.perm.trans pm) L rfl
    have pw : L'.Pairwise fun q r => SM.lx r.2 q.2 = false := by
      have hs' : (L'.map fun q => Value.ref q.1).Pairwise fun x y => SM.lx (TS.intsOf (s1.heap.push (seqObj "list" vs.toArray 0)) y) (TS.intsOf (s1.heap.push (seqObj "list" vs.toArray 0)) x) = false := by rw [← e']; exact hs
      refine List.Pairwise.imp_of_mem (fun {q r} hq hr hle => ?_) (List.pairwise_map.mp hs')
      rw [(tk q (pL.mem_iff.mp hq)).ints, (tk r (pL.mem_iff.mp hr)).ints] at hle
      exact hle
    refine wpAny_pure ⟨_, rfl, hQ _ s1.heap.objs.size out c L' (fun b u e => ?_) g1 o1 hz hc e' pL pw⟩
    have q := k1 b u e
    have hlt := Heap.lt_size q
    show (sortedHeap (s1.heap.push (seqObj "list" vs.toArray 0)) s1.heap.objs.size vs out.toArray).get? b = some u
    rw [sortedHeap_old (Nat.ne_of_lt hlt) (by rw [size_push']; exact Nat.lt_succ_of_lt hlt)]
    exact Heap.get?_push_of_some _ q
end

section
variable {X : Cx}
/-- a list of tuples of intl at l: their places and intl -/
def LotsAt (K : PySem.W.Frag) (H : Hp) (ks : List (Addr × List Int)) : Prop := ∀ p ∈ ks, SqT K H p.1 (p.2.map V.int)
abbrev refsOf (ks : List (Addr × List Int)) : List V := ks.map fun p => V.ref p.1
/-- sorted(xs), xs a list of tuples of intl -/
def rSortL (K : PySem.W.Frag) : List V → Hp → VK → Prop := fun vs H Q => ∃ (a : Addr) (ks : List (Addr × List Int)), vs = [V.ref a] ∧ SqL K H a (refsOf ks) ∧ LotsAt K H ks ∧
  ∀ (ks' : List (Addr × List Int)) (p : Addr), ks'.Perm ks → (ks'.Pairwise fun q r => SM.lx r.2 q.2 = false) → H p = none → Q (.ref p) (upd H p (.lst (refsOf ks')))
theorem cr_sortL (hu : X.A.units + 64 < cLine) : CallR X (.builtin "sorted") (rSortL X.K) := by
  intro pins s σ H vs us Q I r h
  obtain ⟨a, ks, rfl, hs, hk, q⟩ := h
  obtain ⟨its, rv, hl, hz⟩ := I.list hs
  rw [Vals.ref1 r]
  have ei : its = ks.map fun p => Value.ref p.1 := refs_of_vals rv
  have tk : ∀ p ∈ ks, TI s.heap (.ref p.1) p.2 := fun p hp => tupInts_of (I.isT (hk p hp))
  have hzl : its.length ≤ sizeLine := by rw [← rv.length]; exact hz
  refine sorted_lots (k := TS.intsOf s.heap) hl.isList hzl (show X.A.units + 1 + 1 < cLine by omega) (fun v hv => ?_) fun h' d out hp hs' k hd hn => ?_
  · rw [ei] at hv
    obtain ⟨p, hp, rfl⟩ := List.mem_map.mp hv
    have x := tk p hp
    rw [x.ints]
    exact x
  · rw [ei] at hp
    obtain ⟨ks', pk, e'⟩ := perm_map_ex hp ks rfl
    subst e'
    obtain ⟨n, hn⟩ := hn
    refine ⟨.ref d, upd H d (.lst (refsOf ks')), I.laid (t' := s.toks) k hd ⟨?_, _, n, vals_of_refs ks', hn⟩, rfl, q ks' d pk ?_ (I.hok.fresh hd)⟩
    · rw [List.length_map, pk.length_eq]
      rwa [ei, List.length_map] at hzl
    · refine List.Pairwise.imp_of_mem (fun {q r} hq hr hle => ?_) (List.pairwise_map.mp hs')
      rw [(tk q (pk.mem_iff.mp hq)).ints, (tk r (pk.mem_iff.mp hr)).ints] at hle
      exact hle
/-- set(t), t a tuple of tuples of intl -/
def rSetT (K : PySem.W.Frag) (P : Program) (w : World) : List V → Hp → VK → Prop := fun xs H Q => ∃ (l : Addr) (ks : List (Addr × List Int)), xs = [V.ref l] ∧ SqT K H l (refsOf ks) ∧ LotsAt K H ks ∧ ks.length < 64 ∧
  ∀ a L, H a = none → (∀ p ∈ L, p ∈ ks) → (∀ p ∈ ks, p.2 ∈ L.map (·.2)) → Q (.ref a) (upd H a (SetTO P w a L))
theorem cr_setT (hc : X.calm = true) (hu : X.A.units + 64 < cLine) : CallR X (.type "set") (rSetT X.K X.prog X.w) := by
  intro pins s σ H xs us Q I r h
  obtain ⟨l, ks, rfl, hl, hk, hf, q⟩ := h
  rw [Vals.ref1 r]
  obtain ⟨its, rv, pl, hz⟩ := I.tuple hl
  refine call_set_of_tup (P := X.prog) (w := X.w) ks (I.ok.hd hc) pl (by simpa using refs_of_vals rv) (fun p hp => I.isT (hk p hp)) hf (by omega) fun h' tk L es ep t R g k => ?_
  refine ⟨.ref s.heap.objs.size, upd H s.heap.objs.size (SetTO X.prog X.w s.heap.objs.size L), I.laid (t' := tk) k (Nat.le_refl _) (setTO_new R.t0), rfl, q _ L (I.hok.fresh (Nat.le_refl _)) (fun p hp => List.mem_of_mem_take (g.sub p hp)) fun p hp => ?_⟩
  exact g.all p (by rw [List.take_length]; exact hp)
/-- sorted(set) of tuples of intl -/
def rSortSL (K : PySem.W.Frag) (P : Program) (w : World) : List V → Hp → VK → Prop := fun vs H Q => ∃ (a : Addr) (L : List (Addr × List Int)), vs = [V.ref a] ∧ H a = some (SetTO P w a L) ∧ LotsAt K H L ∧
  ∀ (L' : List (Addr × List Int)) (p : Addr), L'.Perm L → SM.Asc (L'.map (·.2)) → L'.length < 64 → H p = none → Q (.ref p) (upd H p (.lst (refsOf L')))
theorem cr_sortSL (hc : X.calm = true) (hu : X.A.units + 64 < cLine) : CallR X (.builtin "sorted") (rSortSL X.K X.prog X.w) := by
  intro pins s σ H vs us Q I r h
  obtain ⟨a, L, rfl, ha, hk, q⟩ := h
  have R0 : SetT0 X.prog X.w s.heap a L := (I.hok a _ ha).1
  obtain ⟨es, ep, t, R⟩ := R0.full fun p hp => I.isT (hk p hp)
  rw [Vals.ref1 r]
  refine sorted_set_lots R (I.ok.hd hc) (show X.A.units + 1 + 1 < cLine by omega) fun s' p out c L' k g o hp hg hout pm pw => ?_
  subst hout
  have hfew : L'.length < 64 := by rw [pm.length_eq]; exact R.few
  have hlen : (refsOf L').length ≤ sizeLine := by rw [List.length_map, sizeLine_eq]; omega
  have hn : H p = none := I.hok.fresh hp
  have J := I.call (h' := s'.heap) (g' := s'.gens) (d' := s'.drawn) (t' := s'.toks) (ch := []) (H' := upd H p (.lst (refsOf L'))) (Un.laid k hp hn) (I.hok.laid k hp ⟨hlen, _, c, vals_of_refs L', hg⟩) (by rw [g]; exact I.bare) (fun _ z => nomatch z)
  obtain ⟨h', g', d', t', o'⟩ := s'
  obtain rfl : o' = s.os := o
  exact ⟨.ref p, _, J, rfl, q L' p pm (SM.asc_of (List.pairwise_map.mpr pw) ((pm.map (·.2)).nodup_iff.mpr R.nd)) hfew hn⟩
/-- len(set(t)), t a tuple of distinct intl -/
def tLenSetTI (K : PySem.W.Frag) (ta : TE) : TE := fun σ H Q => ta σ H fun x H1 => ∃ (l : Addr) (ns : List Int), x = V.ref l ∧ SqT K H1 l (ns.map V.int) ∧ ns.length < 64 ∧ ns.Nodup ∧ Q (.int ns.length) H1
end
end SX2
/-! more rules: operators over Nat masks, len(set(t)), enumerate of a tuple, != by an own ==, <= of tuples that stand in order -/
namespace SX3
open PySem PySem.Spec PyProof.Rows L2 SX1 SX2

/-! ### operators over Nat -/
section
variable {X : Cx}
theorem and_nat (n m : Nat) : Builtin.bitAnd (n : Int) (m : Int) = ((n &&& m : Nat) : Int) := by
  rw [bitAnd_pp (Int.natCast_nonneg _) (Int.natCast_nonneg _), Int.toNat_natCast, Int.toNat_natCast]
theorem or_nat (n m : Nat) : Builtin.bitOr (n : Int) (m : Int) = ((n ||| m : Nat) : Int) := by
  rw [Bits.bitOr_pp (Int.natCast_nonneg _) (Int.natCast_nonneg _), Int.toNat_natCast, Int.toNat_natCast]
theorem andnot_nat (n m : Nat) : Builtin.bitAnd (n : Int) (Builtin.bitNot (m : Int)) = ((SM.sd n m : Nat) : Int) := by
  unfold Builtin.bitAnd
  have e1 : decide (0 ≤ (n : Int)) = true := decide_eq_true (Int.natCast_nonneg n)
  have e2 : decide (0 ≤ Builtin.bitNot (m : Int)) = false := decide_eq_false (by unfold Builtin.bitNot; omega)
  have e3 : Builtin.bitNot (Builtin.bitNot (m : Int)) = (m : Int) := by unfold Builtin.bitNot; omega
  rw [e1, e2, e3]
  simp only [Int.toNat_natCast]
  have := SM.sd_sub n m
  have l : n &&& m ≤ n := Nat.and_le_left
  omega
theorem op_andN : OpR X (binaryOp .BitAnd) (fun x y H Q => ∃ n m : Nat, x = .int (n : Int) ∧ y = .int (m : Int) ∧ Q (.int ((n &&& m : Nat) : Int)) H) := by
  intro pins s σ H x y v u Q I rx ry h
  obtain ⟨n, m, rfl, rfl, q⟩ := h
  rw [← and_nat] at q
  exact op_and pins s σ H _ _ v u Q I rx ry ⟨_, _, rfl, rfl, q⟩
theorem op_orN : OpR X (binaryOp .BitOr) (fun x y H Q => ∃ n m : Nat, x = .int (n : Int) ∧ y = .int (m : Int) ∧ Q (.int ((n ||| m : Nat) : Int)) H) := by
  intro pins s σ H x y v u Q I rx ry h
  obtain ⟨n, m, rfl, rfl, q⟩ := h
  rw [← or_nat] at q
  exact op_or pins s σ H _ _ v u Q I rx ry ⟨_, _, rfl, rfl, q⟩
/-- n & ~m -/
theorem op_sdN : OpR X (binaryOp .BitAnd) (fun x y H Q => ∃ n m : Nat, x = .int (n : Int) ∧ y = .int (Builtin.bitNot (m : Int)) ∧ Q (.int ((SM.sd n m : Nat) : Int)) H) := by
  intro pins s σ H x y v u Q I rx ry h
  obtain ⟨n, m, rfl, rfl, q⟩ := h
  rw [← andnot_nat] at q
  exact op_and pins s σ H _ _ v u Q I rx ry ⟨_, _, rfl, rfl, q⟩
/-- 1 << k -/
theorem op_shl1 : OpR X (binaryOp .LShift) (fun x y H Q => ∃ k : Nat, x = .int 1 ∧ y = .int (k : Int) ∧ k ≤ 1000 ∧ Q (.int ((2 ^ k : Nat) : Int)) H) := by
  intro pins s σ H x y v u Q I rx ry h
  obtain ⟨k, rfl, rfl, hk, q⟩ := h
  refine op_oneShl pins s σ H _ _ v u Q I rx ry ⟨k, rfl, rfl, by omega, ?_⟩
  have e : ((2 ^ k : Nat) : Int) = (2 : Int) ^ k := by simp
  rw [← e]; exact q
/-- n >> k -/
theorem op_shrM : OpR X (binaryOp .RShift) (fun x y H Q => ∃ n k : Nat, x = .int (n : Int) ∧ y = .int (k : Int) ∧ Q (.int ((n / 2 ^ k : Nat) : Int)) H) := by
  intro pins s σ H x y v u Q I rx ry h
  obtain ⟨n, k, rfl, rfl, q⟩ := h
  refine op_shrN pins s σ H _ _ v u Q I rx ry ⟨(n : Int), k, rfl, rfl, ?_⟩
  have e : ((n / 2 ^ k : Nat) : Int) = (n : Int) / (2 : Int) ^ k := by simp
  rw [← e]; exact q
theorem bit_of (n k : Nat) : n / 2 ^ k &&& 1 = (n.testBit k).toNat := by
  rw [Nat.and_one_is_mod]
  have : n.testBit k = (n / 2 ^ k).testBit 0 := by rw [Nat.testBit_div_two_pow, Nat.zero_add]
  rw [this, Nat.testBit_zero]
  have r : n / 2 ^ k % 2 = 0 ∨ n / 2 ^ k % 2 = 1 := by omega
  rcases r with r | r <;> simp [r]
theorem bit_eq (n k : Nat) : decide (V.int ((n / 2 ^ k &&& 1 : Nat) : Int) = V.int 1) = n.testBit k := by
  rw [bit_of]
  cases n.testBit k <;> decide
/-- bits & -bits -/
theorem low_and' : ∀ b : Nat, b < 256 → 0 < b → Builtin.bitAnd (b : Int) (-(b : Int)) = ((2 ^ SM.low b : Nat) : Int) ∧ Builtin.Int.intBits ((2 ^ SM.low b : Nat) : Int) = SM.low b + 1 := by decide +kernel
theorem pred_and {b : Nat} (h : 0 < b) : Builtin.bitAnd (b : Int) ((b : Int) - 1) = ((b &&& (b - 1) : Nat) : Int) := by
  have e : (b : Int) - 1 = ((b - 1 : Nat) : Int) := by omega
  rw [e, and_nat]

/-! ### sets of intl of a tuple; their number -/
def rSetI (K : PySem.W.Frag) (w : World) : List V → Hp → VK → Prop := fun xs H Q => ∃ (l : Addr) (ns : List Int), xs = [V.ref l] ∧ SqT K H l (ns.map V.int) ∧ ns.length ≤ 1000 ∧ ns.Nodup ∧
  ∀ a, H a = none → Q (.ref a) (upd H a (SetO w a (fun j => decide (j ∈ ns)) ns.length))
theorem cr_setI (hc : X.calm = true) : CallR X (.type "set") (rSetI X.K X.w) := by
  intro pins s σ H xs us Q I r h
  obtain ⟨l, ns, rfl, hl, hz, nd, q⟩ := h
  rw [Vals.ref1 r]
  obtain ⟨its, rv, pl, _⟩ := I.tuple hl
  refine call_set_tupI (P := X.prog) (w := X.w) ns (I.ok.hd hc) pl (by simpa using rv.ints) (by unfold scanBound; omega) fun h' tk c R hcn k => ?_
  have ec : c = ns.length := by
    obtain ⟨o, es, ep, t, ho, hex, hd, hg, hnd, hS, hb, hf, hn, _⟩ := R
    have pm : (es.toList.map keyOf).Perm ns := (List.perm_ext_iff_of_nodup hnd nd).mpr fun x => by
      rw [← hS x]; exact decide_eq_true_iff
    have := pm.length_eq
    rw [List.length_map, Array.length_toList, hn] at this
    exact this
  subst ec
  exact ⟨.ref s.heap.objs.size, _, I.laid (t' := tk) k (Nat.le_refl _) (setO_new R), rfl, q _ (I.hok.fresh (Nat.le_refl _))⟩
def rLenSet (w : World) : List V → Hp → VK → Prop := fun xs H Q => ∃ (a : Addr) (S : Int → Bool) (n : Nat), xs = [V.ref a] ∧ H a = some (SetO w a S n) ∧ Q (.int (n : Int)) H
theorem cr_lenSet : CallR X (.builtin "len") (rLenSet X.w) := by
  intro pins s σ H xs us Q I r h
  obtain ⟨a, S, n, rfl, ha, q⟩ := h
  rw [Vals.ref1 r]
  obtain ⟨o, es, ep, t, ho, hex, hd, hg, hnd, hS, hb, hf, hn, _⟩ := setO_get I ha
  have hb' : es.size < 4096 := hb
  refine call_len_set ho hex hd hf (by omega) ⟨.int (n : Int), H, I.tok _, ⟨_, by rw [hn]⟩, q⟩
end

/-! ### enumerate(t) -/
section
theorem meets_enum_tup (l : Addr) (items : Array Value) : Meets (Builtin.«enumerate.__new__» ⟨[.type "enumerate", .ref l], []⟩) (fun _ R s => s.heap.IsTuple l items ∧
      R (.ok (.ret (.ref (s.heap.push { cls := .type "tuple_iterator", data := .fields #[.ref l, .int 0 0] }).objs.size)))
        { s with heap := (s.heap.push { cls := .type "tuple_iterator", data := .fields #[.ref l, .int 0 0] }).push { cls := .type "enumerate", data := .fields #[.none, .bool false, .ref s.heap.objs.size, rawInt 0, .none, .none] } }) :=
  .of_wp fun prog w A R s h => by
    obtain ⟨hp, g, d, tk, os⟩ := s
    obtain ⟨hL, h⟩ := h
    have hsub := sub_enumerate
    have q1 : ∀ {A' : Around} {E : Value → Shared → Prop} {Q : Value → Shared → Prop}, Q (.ref hp.objs.size) ⟨hp.push { cls := .type "tuple_iterator", data := .fields #[.ref l, .int 0 0] }, g, d, tk, os⟩ → wpAny (model prog w) A' (pyIter (.ref l)) Q E ⟨hp, g, d, tk, os⟩ :=
      fun q => wpAny_pyIter_tuple (s := ⟨hp, g, d, tk, os⟩) hL q
    wp_walk using q1
    refine wpAny_stack_any fun st => wpAny_pure ?_
    split
    · rename_i c _ _ _ _ _
      cases (c == Value.type "enumerate") <;> (wp_walk using q1; exact ⟨_, rfl, h⟩)
    · wp_walk using q1
      exact ⟨_, rfl, h⟩
variable {prog : Program} {w : World} {A : Around} {E : Value → Shared → Prop} {s : Shared}
theorem call_enum_tup {l : Addr} {items : Array Value} {Q : Value → Shared → Prop} (hL : s.heap.IsTuple l items)
    (h : ∀ h', IsEnum h' (s.heap.objs.size + 1) s.heap.objs.size 0 .none → h'.IsTupleIter s.heap.objs.size l 0 → (∀ b o, s.heap.get? b = some o → h'.get? b = some o) → Q (.ref (s.heap.objs.size + 1)) { s with heap := h' }) :
    wpAny (model prog w) A (call (.type "enumerate") [.ref l]) Q E s := by
  refine callType_new F.called_enumerate (by decide) (F.typeCall_enumerate_1 _) (F.newCall_enumerate_1 _) (fun obj => F.args_object_init_2 obj _) F.entry_enumerate_new (meets_enum_tup l items) ⟨hL, ?_⟩
  have hz : (s.heap.push { cls := .type "tuple_iterator", data := .fields #[.ref l, .int 0 0] }).objs.size = s.heap.objs.size + 1 := Heap.size_push ..
  show _ ∧ _
  rw [hz]
  have he : IsEnum ((s.heap.push { cls := .type "tuple_iterator", data := .fields #[.ref l, .int 0 0] }).push
      { cls := .type "enumerate", data := .fields #[.none, .bool false, .ref s.heap.objs.size, rawInt 0, .none, .none] }) (s.heap.objs.size + 1) s.heap.objs.size 0 .none := by
    have q := Heap.get?_push_size (s.heap.push { cls := .type "tuple_iterator", data := .fields #[.ref l, .int 0 0] }) (o := { cls := .type "enumerate", data := .fields #[.none, .bool false, .ref s.heap.objs.size, rawInt 0, .none, .none] }) rfl
    rw [hz] at q; exact q
  exact ⟨⟨_, he, rfl⟩, h _ he ⟨_, Heap.get?_push_of_some _ (Heap.get?_push_size _ rfl), rfl, rfl⟩ fun b o x => Heap.get?_push_of_some _ (Heap.get?_push_of_some _ x)⟩
end
/-- the items of the tuple at a, in new pairs with their places -/
def Itet (K : PySem.W.Frag) (a : Addr) : It :=
  ⟨fun i H => ∃ (xs : List V) (x : V), SqT K H a xs ∧ xs[i]? = some x, fun i H v H' => ∃ T x, v = .ref T ∧ H T = none ∧ H' = upd H T (.tup [.int (i : Nat), x]) ∧ ∀ xs, SqT K H a xs → xs[i]? = some x, fun i H => ∃ xs : List V, SqT K H a xs ∧ xs.length = i⟩
theorem turn_enumT {P : Program} {w : World} {K : PySem.W.Frag} {elts : List Expr} {kk : Nat} {tpos : Pos} (a e it : Addr) :
    Turn P w K (.Tuple elts kk tpos) (Itet K a) [e, it] e (fun i h => (∃ old, IsEnum h e it ((i : Nat) : Int) old) ∧ h.IsTupleIter it a i ∧ e ≠ it ∧ a ≠ it ∧ a ≠ e) where
  mem := List.mem_cons_self
  obj := fun i h st b hb => by
    obtain ⟨⟨old, he⟩, ⟨o, ho, hc, hd⟩, _⟩ := st
    rcases List.mem_cons.mp hb with z | z
    · rw [z]; exact ⟨_, he, fun v q => nomatch q⟩
    · rw [List.mem_singleton.mp z]; exact ⟨o, ho, fun v q => by rw [hd] at q; cases q⟩
  keep := fun i h h' st k => let ⟨⟨old, he⟩, hi, hne⟩ := st; ⟨⟨old, k e (by simp) _ he⟩, hi.at fun o q => k it (by simp) o q, hne⟩
  item := by
    intro X hP hw hK hc i pins s σ H E I hf st hg
    subst hP hw hK
    obtain ⟨⟨old, he⟩, hit, hne, hai, hae⟩ := st
    obtain ⟨xs, x, hq, hx⟩ := hg
    obtain ⟨its, rv, p, hz⟩ := I.tuple hq
    obtain ⟨u, hu, ru⟩ := rv.get hx
    have hlt : i < its.toArray.size := by simpa using (List.getElem?_eq_some_iff.mp hu).1
    have hel : e < s.heap.objs.size := Heap.lt_size he
    have hil : it < s.heap.objs.size := by obtain ⟨_, q, _⟩ := hit; exact Heap.lt_size q
    refine wpAny_pyNext_enum_itemD (Draws.tuple (A := X.A.in1) (I.ok.hd hc) it a hai its.toArray) he ⟨hit, p⟩ hlt hne (by simp only [List.mem_cons, List.mem_singleton, List.not_mem_nil, or_false, not_or]; exact ⟨hne, Ne.symm hae⟩) fun x' h' tk hx' ho hst hT hsz hk => ?_
    obtain rfl : x' = u := by
      have q : its[i]? = some x' := by simpa using hx'
      rw [hu] at q
      exact (Option.some.inj q).symm
    refine ⟨_, rfl, wpAny_letOwnedTupleGo_enum (s := { s with heap := h', toks := tk + 1 }) ho fun h2 he2 sb => ?_⟩
    have hT2 : h2.get? s.heap.objs.size = some { cls := .type "tuple", data := .seq #[.int i tk, x'] } := (sb.2 _ (Nat.ne_of_gt hel)).trans hT
    have I1 : Inv X pins σ (upd H s.heap.objs.size (.tup [.int (i : Nat), x])) { s with heap := h2, toks := tk + 1 } :=
      I.turnedNew (ch := [e, it]) (fun b ob hb q => (sb.2 b (fun z => hb (by simp [z]))).trans (hk b ob (fun z => hb (by simp [z])) (fun z => hb (by simp [z])) q)) hf (Nat.le_refl _)
        ⟨by show 2 ≤ sizeLine; decide, [.int i tk, x'], .cons ⟨_, rfl⟩ (.cons ru .nil), ⟨_, hT2, rfl, _, rfl⟩⟩
    refine ⟨.ref s.heap.objs.size, _, I1, rfl, ⟨_, x, rfl, I.hok.fresh (Nat.le_refl _), rfl, fun ys hy => by rw [I.tuple_inj hy hq]; exact hx⟩, ⟨⟨x', ?_⟩, hst.1.at fun o q => (sb.2 it (Ne.symm hne)).trans q, hne, hai, hae⟩, fun b hb => ?_⟩
    · have e1 : ((i + 1 : Nat) : Int) = (i : Int) + 1 := by omega
      rw [e1]; exact he2
    · have hb' : b < s.heap.objs.size := by
        rcases List.mem_cons.mp hb with z | z
        · rw [z]; exact hel
        · rw [List.mem_singleton.mp z]; exact hil
      rw [upd_ne (Nat.ne_of_lt hb')]
      exact (hf b hb).1
  done := by
    intro X hP hw hK hc i pins s σ H E I hf st hg
    subst hP hw hK
    obtain ⟨⟨old, he⟩, hit, hne, hai, hae⟩ := st
    obtain ⟨xs, hq, hx⟩ := hg
    obtain ⟨its, rv, p, hz⟩ := I.tuple hq
    obtain ⟨f0, f1, f2, f3, f4, f5⟩ := hf it (by simp)
    have hl : its.toArray.size = i := by rw [List.size_toArray, ← rv.length, hx]
    refine wpAny_pyNext_enum_endD (Draws.tuple (A := X.A.in1) (I.ok.hd hc) it a hai its.toArray) he (by rw [hl]; exact ⟨hit, p⟩) fun h' eb => ⟨rfl, I.turned (t' := s.toks) (fun b o hb q => eb b o hb q) f0 f1 f3 f4 f5⟩
  self := fun A i s Q E st h => let ⟨⟨_, he⟩, _⟩ := st; wpAny_pyIter_enum he h
def iEnumT (K : PySem.W.Frag) (ta : TA) : TI := fun σ H R => ta σ H fun vs H1 => ∃ a xs, vs = [.ref a] ∧ SqT K H1 a xs ∧ R (Itet K a) H1
theorem pi_enumT {X : Cx} {e : Expr} {ta : TA} {p pos tpos : Pos} {elts : List Expr} {kk : Nat} (hg : Gl X "enumerate") (hm : X.mg "enumerate" = none) (ha : PA X [e] ta) (hs : starEach [e] X.env = [(false, eval e X.env)] := by rfl) :
    PI X (.Tuple elts kk tpos) (.Call (.Name "enumerate" p) [e] [] pos) (iEnumT X.K ta) := by
  refine ⟨fun pins s σ H R I h => ?_⟩
  refine Call_ (ld_blt I hg hm boot_enumerate (PyProof.Rows.callWith_type1 (thn (ha.run pos pins s σ H _ I h) fun us s1 ⟨vs, H1, I1, r1, q1⟩ => ?_) hs rfl))
  obtain ⟨a, xs, rfl, hq, q⟩ := q1
  rw [Vals.ref1 r1]
  obtain ⟨its, rv, p', hz⟩ := I1.tuple hq
  have hal : a < s1.heap.objs.size := p'.lt
  refine call_enum_tup p' fun h' he hit hk => wpAny_pyIter_enum he ?_
  have I2 : Inv X pins σ H1 { s1 with heap := h' } := I1.kept (t' := s1.toks) hk
  refine ⟨s1.heap.objs.size + 1, [s1.heap.objs.size + 1, s1.heap.objs.size], _, _, H1, rfl, I2, turn_enumT a (s1.heap.objs.size + 1) s1.heap.objs.size, ⟨⟨.none, he⟩, hit, Nat.succ_ne_self _, Nat.ne_of_lt hal, Nat.ne_of_lt (Nat.lt_succ_of_lt hal)⟩, fun b hb => ?_, q⟩
  have hle : s1.heap.objs.size ≤ b := by
    rcases List.mem_cons.mp hb with z | z
    · rw [z]; exact Nat.le_add_right _ _
    · rw [List.mem_singleton.mp z]; exact Nat.le_refl _
  exact I1.fpOk hle (I1.hok.fresh hle)
theorem walk_enumT {K : PySem.W.Frag} {a : Addr} {xs : List V} : Walk (Itet K a) xs.length (fun H => SqT K H a xs) (YPair (fun i => some (.int (i : Nat))) (fun i => xs[i]?)) := by
  refine ⟨fun i _ hi q => ⟨xs, xs[i], q, by simp [hi]⟩, fun _ q => ⟨xs, q, rfl⟩, fun i H v H' _ q y => ?_⟩
  obtain ⟨T, x, h1, h2, h3, h4⟩ := y
  exact ⟨T, .int (i : Nat), x, h1, h2, h3, rfl, h4 xs q⟩

/-! ### <= of tuples that stand in order -/
theorem le_no {a b : List Int} (h : SM.lx a b = true) : ∀ (ns ms : List Int) (k : Nat), ns.drop k = b → ms.drop k = a → k ≤ ns.length → k ≤ ms.length →
    Ob.lexAt (fun j => decide (ns.getD j 0 = ms.getD j 0)) (fun j => decide (ns.getD j 0 ≤ ms.getD j 0)) (decide (ns.length ≤ ms.length)) k (min ns.length ms.length - k) = false := by
  induction a generalizing b with
  | nil =>
    intro ns ms k e1 e2 l1 l2
    match b, h with
    | y :: b, _ =>
      have h1 := congrArg List.length e1
      have h2 := congrArg List.length e2
      rw [List.length_drop, List.length_cons] at h1
      rw [List.length_drop, List.length_nil] at h2
      rw [show min ns.length ms.length - k = 0 by omega, Ob.lexAt_zero]
      exact decide_eq_false (by omega)
  | cons x a ih =>
    intro ns ms k e1 e2 l1 l2
    match b, h with
    | y :: b, h =>
      have h1 := congrArg List.length e1
      have h2 := congrArg List.length e2
      rw [List.length_drop, List.length_cons] at h1 h2
      have k1 : k < ns.length := by omega
      have k2 : k < ms.length := by omega
      rw [List.drop_eq_getElem_cons k1] at e1
      rw [List.drop_eq_getElem_cons k2] at e2
      injection e1 with e1 e1'
      injection e2 with e2 e2'
      have g1 : ns.getD k 0 = y := by rw [List.getD_eq_getElem?_getD, List.getElem?_eq_getElem k1, e1]; rfl
      have g2 : ms.getD k 0 = x := by rw [List.getD_eq_getElem?_getD, List.getElem?_eq_getElem k2, e2]; rfl
      rw [show min ns.length ms.length - k = (min ns.length ms.length - (k + 1)) + 1 by omega, Ob.lexAt_succ]
      simp only [g1, g2, decide_eq_true_eq]
      unfold SM.lx at h
      by_cases c : x = y
      · rw [if_pos c] at h
        rw [if_pos c.symm]
        exact ih h ns ms (k + 1) e1' e2' (by omega) (by omega)
      · rw [if_neg c, decide_eq_true_eq] at h
        rw [if_neg (Ne.symm c)]
        exact decide_eq_false (by omega)
section
variable {X : Cx}
/-- t <= u, where u stands before t -/
def rLeNo (K : PySem.W.Frag) : R2 := fun x y H Q => ∃ (a b : Addr) (ns ms : List Int), x = .ref a ∧ y = .ref b ∧ SqT K H a (ns.map V.int) ∧ SqT K H b (ms.map V.int) ∧ SM.lx ms ns = true ∧ Q (.bl false) H
theorem op_leNo (hu : X.A.units < cLine) : OpR X (compareOp .LtE) (rLeNo X.K) := by
  intro pins s σ H x y v u Q I rx ry h
  obtain ⟨a, b, ns, ms, rfl, rfl, ha, hb, hl, q⟩ := h
  refine op_leT hu pins s σ H _ _ v u Q I rx ry ⟨a, b, ns, ms, rfl, rfl, ha, hb, ?_⟩
  have e := le_no hl ns ms 0 rfl rfl (Nat.zero_le _) (Nat.zero_le _)
  rw [Nat.sub_zero] at e
  rw [e]; exact q
end

/-! ### x != y by the class's own == -/
section
variable {prog : Program} {w : World} {A : Around} {E : Value → Shared → Prop} {s : Shared} {K : PySem.W.Frag} {x y C f : Addr} {ox oy : Obj} {od od' : Option Obj}
open PySem.W in
theorem ne_body (X : K.In s.heap) (I : InstAt s.heap x ox C od) (hs : findIn K (.ref C) "__eq__" = some (some (.ref f))) (hf : isFn K (.ref f) = true) (hu : A.units < cLine) {Q : PySem.Fin → Shared → Prop}
    (hcall : wpAny (model prog w) A (call (.ref f) [.ref x, .ref y]) (fun v s' => ∃ b, v = .bool b ∧ Q (.done (.ret (.bool (!b)))) s') E s) :
    wpAny (model prog w) A (Builtin.«object.__ne__» ⟨[.ref x, .ref y], []⟩) Q E s := by
  obtain ⟨h, g, d, t, os⟩ := s
  unfold Builtin.«object.__ne__»
  repeat (first
    | with_reducible refine wpAny_cRoomFor hu ?_
    | (refine wpAny_bind (m := callSpecialIfBound? (.ref x) (Str.ofString "__eq__") [.ref y]) (ifBound_K X I hs hf (wpAny_mono hcall (fun r s' hr => by
          obtain ⟨b, rfl, hq⟩ := hr
          repeat (first | exact hq | exact wpAny_pure hq | exact wpAny_truthy_bool hq | (refine wpAny_bind (m := truthy (.bool _)) (wpAny_truthy_bool ?_)) | wp_step)) fun _ _ e => e)))
    | wp_step)
theorem bind_ne (self : Value) : bindSpecial (.builtin "object.__ne__") self = pure (.builtin "object.__ne__", [self]) := F.cmp_object.ne.bind self
open PySem.W in
/-- the special method __ne__, which is object's -/
theorem special_ne (X : K.In s.heap) (I : InstAt s.heap x ox C od) (hn : findIn K (.ref C) "__ne__" = some (some (.builtin "object.__ne__"))) (ho : subIn K (.ref C) (.type "object") = some true)
    (hs : findIn K (.ref C) "__eq__" = some (some (.ref f))) (hf : isFn K (.ref f) = true) (hu : A.units + 1 < cLine) {Q : Option Value → Shared → Prop}
    (hcall : wpAny (model prog w) A.in1 (call (.ref f) [.ref x, .ref y]) (fun v s' => ∃ b, v = .bool b ∧ Q (some (.bool (!b))) s') E s) :
    wpAny (model prog w) A (callSpecialIfBound? (.ref x) "__ne__" [.ref y]) Q E s := by
  have fin : wpAny (model prog w) A (call (.builtin "object.__ne__") [.ref x, .ref y]) (fun v => Q (some v)) E s := by
    refine wpAny_call (codeAny_call_builtin F.cmp_object.ne.plain F.cmpEntry_ne (check_slot F.cmpKind_ne F.cmpSplit_ne (I.type.andThen (looks_subIn X ho)) (F.cmpArgs_ne _ _) ?_))
    refine ne_body (A := A.in1) X I hs hf hu (wpAny_mono hcall (fun v s' hv => ?_) fun _ _ e => e)
    obtain ⟨b, rfl, hq⟩ := hv
    exact ⟨b, rfl, hq⟩
  simp only [callSpecialIfBound?, bindSpecialIfBound?]
  refine wpAny_holding (wpAny_bind (wpAny_bind (wpAny_bind (I.type.here ((looks_findIn X hn).here ?_)))))
  refine wpAny_bind (wpAny_askSetting (wpAny_ite ?_))
  have fin2 : wpAny (model prog w) A (call (.builtin "object.__ne__") ([.ref x] ++ [.ref y]) >>= fun v => pure (some v)) Q E s := wpAny_bind (wpAny_mono fin (fun v s' h' => wpAny_pure h') fun _ _ h' => h')
  rw [bind_ne]
  split
  · exact wpAny_bind (wpAny_pure (wpAny_pure (by exact fin2)))
  · exact wpAny_tryCatch (wpAny_bind (wpAny_pure (wpAny_pure (by exact fin2))))
open PySem.W in
theorem rich_ne (X : K.In s.heap) (I : InstAt s.heap x ox C od) (J : InstAt s.heap y oy C od') (hn : findIn K (.ref C) "__ne__" = some (some (.builtin "object.__ne__"))) (ho : subIn K (.ref C) (.type "object") = some true)
    (hs : findIn K (.ref C) "__eq__" = some (some (.ref f))) (hf : isFn K (.ref f) = true) (hu : A.units + 1 < cLine) {Q : Value → Shared → Prop}
    (hcall : wpAny (model prog w) A.in1 (call (.ref f) [.ref x, .ref y]) (fun v s' => ∃ b, v = .bool b ∧ Q (.bool (!b)) s') E s) :
    wpAny (model prog w) A (richCompare .NotEq (.ref x) (.ref y)) Q E s := by
  unfold richCompare
  simp only [oneThing_ref]
  refine wpAny_holding (wpAny_bind (wpAny_cRoomFor (Nat.lt_of_succ_lt hu) ?_))
  rw [cmpInfo_NotEq]
  dsimp only
  refine wpAny_bind (I.type.here (wpAny_bind (J.type.here ?_)))
  rw [show (Value.ref C != Value.ref C) = false from by simp]
  simp only [Bool.false_eq_true, if_false]
  refine wpAny_bind (wpAny_pure ?_)
  simp only [Bool.false_eq_true, if_false]
  have one : wpAny (model prog w) A (tryCompare (.ref x) "__ne__" (.ref y)) (fun r s' => ∃ b, r = some (.bool (!b)) ∧ Q (.bool (!b)) s') E s := by
    unfold tryCompare
    refine wpAny_bind (special_ne X I hn ho hs hf hu (wpAny_mono hcall (fun v s' hv => ?_) fun _ _ e => e))
    obtain ⟨b, rfl, hq⟩ := hv
    exact ⟨b, rfl, wpAny_pure ⟨b, rfl, hq⟩⟩
  refine wpAny_bind (wpAny_mono one (fun r s' z => ?_) fun _ _ e => e)
  obtain ⟨b, rfl, hq⟩ := z
  first | exact wpAny_pure hq | exact wpAny_pure (wpAny_pure hq)
end
section
variable {X : Cx} {k : Nat} {C f : Addr} {fd : FuncData} {ps : List Str} {sp : Sp}
/-- what != asks of the class -/
structure NeC (K : PySem.W.Frag) (C f : Addr) : Prop where
  hn : PySem.W.findIn K (.ref C) "__ne__" = some (some (.builtin "object.__ne__"))
  ho : PySem.W.subIn K (.ref C) (.type "object") = some true
  hs : PySem.W.findIn K (.ref C) "__eq__" = some (some (.ref f))
  hf : PySem.W.isFn K (.ref f) = true
def rNeO (C : Addr) (sp : Sp) : R2 := fun x y H Q => ∃ a b dx dy fs gs, x = .ref a ∧ y = .ref b ∧ H a = some (.ins C dx fs) ∧ H b = some (.ins C dy gs) ∧ sp [.ref a, .ref b] H (fun v H' => ∃ c, v = .bl c ∧ Q (.bl (!c)) H') E0
theorem op_neO (F : FnOk X.prog X.w X.K X.mg X.base CX0 k f fd ps sp) (hr : Room (k + 1) X.A) (c : NeC X.K C f) (hb : Binds X.K fd ps []) : OpR X (compareOp .NotEq) (rNeO C sp) := by
  intro pins s σ H x y v u Q I rx ry h
  obtain ⟨a, b, dx, dy, fs, gs, rfl, rfl, ha, hb', hsp⟩ := h
  cases rx
  cases ry
  obtain ⟨mA, J, _⟩ := ins_get I.hok ha
  obtain ⟨mB, J', _⟩ := ins_get I.hok hb'
  obtain ⟨od, J, _⟩ := J.look
  obtain ⟨od', J', _⟩ := J'.look
  show wpAny (model X.prog X.w) X.A (richCompare .NotEq (.ref a) (.ref b)) (EP X pins σ Q) X.xe s
  refine rich_ne I.kIn J J' c.hn c.ho c.hs c.hf (by have := hr.units; omega) ?_
  have hl := F.len _ _ _ _ hsp
  have r2 : Vals [V.ref a, V.ref b] [Value.ref a, Value.ref b] := .cons rfl (.cons rfl .nil)
  refine wpAny_call (codeAny_mono (F.run X.A.in1 X.stack s H ⟨[.ref a, .ref b], []⟩ [.ref a, .ref b] [.ref a, .ref b] _ E0 hr.in1 I.env0.in1 (by
    have := hb s [.ref a, .ref b] I.kIn (by simpa using hl)
    simpa using this) r2 hsp) fun r s' hq => ?_)
  match r, hq with
  | .error e, hq => exact hq.elim
  | .ok (.ret w'), hq =>
    obtain ⟨z, H', I', rz, cc, rfl, q⟩ := I.after hq
    cases rz
    exact ⟨cc, rfl, .bl (!cc), H', I', rfl, q⟩
end
end SX3
/-! the text by places, how its defs stand, the promises -/
namespace SL
open PySem PySem.Spec PyProof.Rows L2 SX2 SX3

def top (i : Nat) : Stmt := PySem.Challenge.pw_silencers_k34_whole_lists_that_webs_show.main.body.getD i (.Pass ⟨0, 0, 0, 0⟩)

section
variable {P : Program} {w : World} {K : PySem.W.Frag} {mg : Str → Option Value} {base : Heap}
/-- a def of the module as it stands -/
structure DefAt (K : PySem.W.Frag) (mg : Str → Option Value) (x : Str) (st : Stmt) : Prop where
  ex : ∃ (f : Addr) (fd : FuncData), L2.Fun K x x st f fd ∧ mg x = some (.ref f)
/-- a def that keeps its promise -/
structure Cal (P : Program) (w : World) (K : PySem.W.Frag) (mg : Str → Option Value) (base : Heap) (k : Nat) (x : Str) (sp : Sp) : Prop where
  ex : ∃ (f : Addr) (fd : FuncData) (ps : List Str), FnOk P w K mg base CX0 k f fd ps sp ∧ mg x = some (.ref f) ∧ PySem.W.keepIn K (.ref f) = true ∧ Binds K fd ps []
abbrev Bnd (st : Stmt) (x : Str) (ps : List Str) : Prop := ∀ (kV doc pm : Value) (an : Option Addr) (cdv ct : Value) (us : List Value), us.length = ps.length → bindArgs (PySem.W.fnOf x x (defArgs st) (defBody st) (defScope st) .none kV doc pm an cdv ct) ⟨us, []⟩ = pure (ps.zip us)
theorem cal_of {x : Str} {st : Stmt} {N ps : List Str} {k : Nat} {sp : Sp} (D : DefAt K mg x st) (S : FnScope N ps (defScope st)) (b : Bnd st x ps) (len : ∀ vs H Q E, sp vs H Q E → vs.length = ps.length)
    (hbody : ∀ (f : Addr) (cdv : Value) (A : Around) (outer : List Env) (s : Shared) (H : Hp) (vs : List V) (Q : VK) (E : XK), Room k (A.deeper (envOfC x (defScope st) s.heap.objs.size f cdv)) → sp vs H Q E →
      ∃ t, PSs (cxOf CX0 P w K mg base N x (defScope st) f cdv A outer s H E).nox (defBody st) t ∧ t { nx := fun _ H' => Q .non H', rt := Q } (start N vs) H) : Cal P w K mg base (k + 1) x sp := by
  obtain ⟨f, fd, F, hm⟩ := D.ex
  exact ⟨f, fd, ps, F.ok S len (hbody f), hm, F.kp, F.binds b⟩
theorem Cal.imp {x : Str} {k : Nat} {sp sp' : Sp} (c : Cal P w K mg base k x sp) (h : ∀ vs H Q E, sp' vs H Q E → sp vs H Q E) : Cal P w K mg base k x sp' := by
  obtain ⟨f, fd, ps, F, a, b, d⟩ := c.ex
  exact ⟨f, fd, ps, F.imp h, a, b, d⟩
end
section
variable {X : Cx} {k j : Nat} {C : Addr} {x m : Str} {sp : Sp} {p pos apos : Pos} {e o : Expr} {es : List Expr} {ta : TE} {t : TA}
theorem pe_c (c : Cal X.prog X.w X.K X.mg X.base k x sp) (hr : Room j X.A) (hk : k ≤ j) (hg : Gl X x) (ha : PA X (e :: es) t)
    (hdb : (x == ("__debug__" : Str)) = false := by decide) (he : starEach (e :: es) X.env = (false, eval e X.env) :: starEach es X.env := by rfl) (hpl : (backTo pos (starEach es X.env)).any (·.1) = false := by rfl) :
    PE X (.Call (.Name x p) (e :: es) [] pos) (tCall sp [] E0 t) := by
  obtain ⟨f, fd, ps, F, hm, kp, b⟩ := c.ex
  exact pe_call F (hr.mono hk) hg hm kp b .nil pass0 ha hdb he hpl
end

/-! ### heaps -/
theorem same_new {H : Hp} {p : Addr} {o : HO} (h : H p = none) : Same H (upd H p o) := fun b u q => by rw [upd_ne (ne_of_none q h)]; exact q
theorem same_tup {K : PySem.W.Frag} {H H' : Hp} {a : Addr} {xs : List V} (e : Same H H') (h : SqT K H a xs) : SqT K H' a xs := by
  rcases h with (h | ⟨o, h⟩) | h
  · exact .inl (.inl (e _ _ h))
  · exact .inl (.inr ⟨o, e _ _ h⟩)
  · exact .inr h
theorem same_lots {K : PySem.W.Frag} {H H' : Hp} {ks : List (Addr × List Int)} (e : Same H H') (h : LotsAt K H ks) : LotsAt K H' ks := fun p hp => same_tup e (h p hp)
/-- all but l is as it was -/
def Smb (l : Addr) (H H' : Hp) : Prop := ∀ b o, b ≠ l → H b = some o → H' b = some o
theorem Smb.refl (l : Addr) (H : Hp) : Smb l H H := fun _ _ _ h => h
theorem Same.smb {l : Addr} {H H' : Hp} (h : Same H H') : Smb l H H' := fun b o _ e => h b o e
theorem Smb.trans {l : Addr} {H H1 H2 : Hp} (a : Smb l H H1) (b : Smb l H1 H2) : Smb l H H2 := fun c o n h => b c o n (a c o n h)
theorem smb_upd {l : Addr} {H : Hp} {o : HO} : Smb l H (upd H l o) := fun b u n e => by rw [upd_ne n]; exact e
theorem smb_new {l p : Addr} {H : Hp} {o : HO} (h : H p = none) : Smb l H (upd H p o) := Same.smb (same_new h)
theorem len_list {K : PySem.W.Frag} {ns : List Int} : (ns.map V.int).length = ns.length := List.length_map _

theorem iteFe {b : Bool} {A B : Prop} (e : b = false) (h : B) : if b = true then A else B := by rw [e]; exact iteF h
theorem iteTe {b : Bool} {A B : Prop} (e : b = true) (h : A) : if b = true then A else B := by rw [e]; exact iteT h
theorem qv {Q : VK} {v v' : V} {H : Hp} (e : v' = v) (q : Q v H) : Q v' H := by rw [e]; exact q
/-! ### isinstance -/
theorem tyx_tup {K : PySem.W.Frag} {H : Hp} {a : Addr} {xs : List V} (h : SqT K H a xs) : TyX K H (.ref a) (.type "tuple") := by
  rcases h with (h | ⟨o, h⟩) | ⟨o, its, n, h, hc, _⟩
  · exact .base (.tup h)
  · exact .fTuple h
  · exact .kTuple h hc
theorem kit_ii (K : PySem.W.Frag) : PySem.W.kitOne K (.type "int") (.type "int") = some true := kit_ty (by decide +kernel)
theorem kit_ib (K : PySem.W.Frag) : PySem.W.kitOne K (.type "int") (.type "bool") = some false := kit_ty (by decide +kernel)
theorem kit_bb (K : PySem.W.Frag) : PySem.W.kitOne K (.type "bool") (.type "bool") = some true := kit_ty (by decide +kernel)
theorem kit_tt (K : PySem.W.Frag) : PySem.W.kitOne K (.type "tuple") (.type "tuple") = some true := kit_ty (by decide +kernel)
section
variable {X : Cx}
theorem call_isInt : CallR X (.builtin "isinstance") (fun xs H Q => ∃ i, xs = [.int i, .ty "int"] ∧ Q (.bl true) H) := by
  intro pins s σ H xs us Q I r h
  obtain ⟨i, rfl, q⟩ := h
  exact call_isi pins s σ H _ us Q I r ⟨_, _, _, _, true, rfl, .ty _, .base (.int i), kit_ii _, q⟩
theorem call_isIB : CallR X (.builtin "isinstance") (fun xs H Q => ∃ i, xs = [.int i, .ty "bool"] ∧ Q (.bl false) H) := by
  intro pins s σ H xs us Q I r h
  obtain ⟨i, rfl, q⟩ := h
  exact call_isi pins s σ H _ us Q I r ⟨_, _, _, _, false, rfl, .ty _, .base (.int i), kit_ib _, q⟩
theorem call_isBB : CallR X (.builtin "isinstance") (fun xs H Q => ∃ i, xs = [.bl i, .ty "bool"] ∧ Q (.bl true) H) := by
  intro pins s σ H xs us Q I r h
  obtain ⟨i, rfl, q⟩ := h
  exact call_isi pins s σ H _ us Q I r ⟨_, _, _, _, true, rfl, .ty _, .base (.bl i), kit_bb _, q⟩
theorem call_isTup : CallR X (.builtin "isinstance") (fun xs H Q => ∃ t ys, xs = [.ref t, .ty "tuple"] ∧ SqT X.K H t ys ∧ Q (.bl true) H) := by
  intro pins s σ H xs us Q I r h
  obtain ⟨t, ys, rfl, ht, q⟩ := h
  exact call_isi pins s σ H _ us Q I r ⟨_, _, _, _, true, rfl, .ty _, tyx_tup ht, kit_tt _, q⟩
theorem b_isi : bootBuiltins "isinstance" = some (.builtin "isinstance") := by decide +kernel
theorem b_all : bootBuiltins "all" = some (.builtin "all") := by decide +kernel
theorem b_len : bootBuiltins "len" = some (.builtin "len") := by decide +kernel
theorem b_sorted : bootBuiltins "sorted" = some (.builtin "sorted") := by decide +kernel
theorem b_min : bootBuiltins "min" = some (.builtin "min") := by decide +kernel
theorem b_max : bootBuiltins "max" = some (.builtin "max") := by decide +kernel
theorem b_set : bootBuiltins "set" = some (.type "set") := by decide +kernel
theorem b_int : bootBuiltins "int" = some (.type "int") := by decide +kernel
theorem b_bool : bootBuiltins "bool" = some (.type "bool") := by decide +kernel
theorem b_tuple : bootBuiltins "tuple" = some (.type "tuple") := by decide +kernel
theorem b_list : bootBuiltins "list" = some (.type "list") := by decide +kernel
end
/-- a built-in class as a value -/
theorem pe_ty {X : Cx} {x : Str} {n : String} {pos : Pos} (hg : Gl X x) (hm : X.mg x = none) (hv : bootBuiltins x = some (.type n)) (hn : x ≠ "__name__" := by decide) (hd : (x == ("__debug__" : Str)) = false := by decide) : PE X (.Name x pos) (tC (.ty n)) :=
  pe_bltn hg hm hv (show RelV (.ty n) (.type n) from rfl) hn hd
/-- the built-ins' names are free at the module's top -/
structure Bi (mg : Str → Option Value) : Prop where
  isi : mg "isinstance" = none
  all : mg "all" = none
  len : mg "len" = none
  sorted : mg "sorted" = none
  min : mg "min" = none
  max : mg "max" = none
  set : mg "set" = none
  int : mg "int" = none
  bool : mg "bool" = none
  tuple : mg "tuple" = none
  list : mg "list" = none
  range : mg "range" = none
  enum : mg "enumerate" = none
end SL
/-! the looks at values: is_integer .. is_tie -/
namespace SL
open PySem PySem.Spec PyProof.Rows L2 SX2 SX3

abbrev s_isint : Stmt := top 7
abbrev s_between : Stmt := top 8
abbrev s_ispair : Stmt := top 9
abbrev s_islot : Stmt := top 10
abbrev s_unlike : Stmt := top 11
abbrev s_lowest : Stmt := top 12
abbrev s_lotof : Stmt := top 13
abbrev s_manyof : Stmt := top 14
abbrev s_istie : Stmt := top 17

def spInt : Sp := fun vs H Q _ => ∃ i : Int, vs = [.int i] ∧ Q (.bl true) H
def spBet : Sp := fun vs H Q _ => ∃ i a b : Int, vs = [.int i, .int a, .int b] ∧ Q (.bl (decide (a ≤ i ∧ i ≤ b))) H
def spPair (K : PySem.W.Frag) : Sp := fun vs H Q _ => ∃ (t : Addr) (x y : V), vs = [.ref t] ∧ SqT K H t [x, y] ∧ Q (.bl true) H
def spIsLot (K : PySem.W.Frag) : Sp := fun vs H Q _ => ∃ (t : Addr) (ns : List Int) (m : Nat), vs = [.ref t, .int (m : Int)] ∧ SqT K H t (ns.map V.int) ∧ SM.Std m ns ∧ Q (.bl true) H
def spUnlike (K : PySem.W.Frag) : Sp := fun vs H Q _ => ∃ (t : Addr) (ns : List Int) (m : Int), vs = [.ref t, .int m] ∧ SqT K H t (ns.map V.int) ∧ ns.Nodup ∧ (∀ x ∈ ns, 0 ≤ x ∧ x < m) ∧ ns.length ≤ 100 ∧ ∀ H', Same H H' → Q (.bl true) H'
def spLow : Sp := fun vs H Q _ => ∃ b : Nat, vs = [.int (b : Int)] ∧ 0 < b ∧ b < 256 ∧ Q (.int ((SM.low b : Nat) : Int)) H
def spLotOf : Sp := fun vs H Q _ => ∃ b : Nat, vs = [.int (b : Int)] ∧ b < 256 ∧ ∀ (t : Addr) (H' : Hp), Same H H' → H' t = some (.tup ((SM.lotI b).map V.int)) → Q (.ref t) H'
def spMany : Sp := fun vs H Q _ => ∃ b : Nat, vs = [.int (b : Int)] ∧ b < 256 ∧ ∀ H', Same H H' → Q (.int ((SM.pc b : Nat) : Int)) H'
def spTie (K : PySem.W.Frag) : Sp := fun vs H Q _ => ∃ (t : Addr) (a b n : Int), vs = [.ref t, .int n] ∧ SqT K H t [.int a, .int b] ∧ 0 ≤ a ∧ a < b ∧ b < n ∧ Q (.bl true) H

section
variable {P : Program} {w : World} {K : PySem.W.Frag} {mg : Str → Option Value} {base : Heap}

theorem sc_isint : FnScope ["thing"] ["thing"] (defScope s_isint) := ⟨rfl, rfl, rfl, by decide +kernel, rfl, by decide +kernel, by decide +kernel⟩
theorem ok_isint (D : DefAt K mg "is_integer" s_isint) (B : Bi mg) : Cal P w K mg base 1 "is_integer" spInt := by
  refine cal_of D sc_isint (fun _ _ _ _ _ _ us hl => match us, hl with | [_], _ => rfl) (fun vs H Q E h => ?_) (fun f cdv A outer s H vs Q E hr h => ?_)
  · obtain ⟨i, rfl, _⟩ := h
    rfl
  · obtain ⟨i, rfl, q⟩ := h
    refine ⟨_, pss_one (ps_ret (pe_and (pe_callB call_isInt (by rfl) B.isi b_isi (pa_cons (pv 0) (pa_cons (pe_ty (by rfl) B.int b_int) pa_nil)))
      (pe_one (pe_not (pe_callB call_isIB (by rfl) B.isi b_isi (pa_cons (pv 0) (pa_cons (pe_ty (by rfl) B.bool b_bool) pa_nil))))))), ?_⟩
    refine ⟨_, rfl, i, rfl, true, rfl, iteT ?_⟩
    exact ⟨_, rfl, i, rfl, false, rfl, q⟩

theorem sc_between : FnScope ["thing", "least", "most"] ["thing", "least", "most"] (defScope s_between) := ⟨rfl, rfl, rfl, by decide +kernel, rfl, by decide +kernel, by decide +kernel⟩
theorem ok_between (D : DefAt K mg "is_between" s_between) (c1 : Cal P w K mg base 1 "is_integer" spInt) : Cal P w K mg base 2 "is_between" spBet := by
  refine cal_of D sc_between (fun _ _ _ _ _ _ us hl => match us, hl with | [_, _, _], _ => rfl) (fun vs H Q E h => ?_) (fun f cdv A outer s H vs Q E hr h => ?_)
  · obtain ⟨i, a, b, rfl, _⟩ := h
    rfl
  · obtain ⟨i, a, b, rfl, q⟩ := h
    refine ⟨_, pss_one (ps_ret (pe_and (pe_c c1 hr (Nat.le_refl _) rfl (pa_cons (pv 0) pa_nil)) (pe_one (pe_chain op_le op_le (pv 1) (pv 0) (pv 2))))), ?_⟩
    refine ⟨_, rfl, i, rfl, true, rfl, iteT ?_⟩
    refine ⟨_, rfl, _, rfl, _, _, rfl, rfl, _, rfl, ?_⟩
    refine ite2 (fun c => ?_) (fun c => ?_)
    · refine ⟨_, rfl, _, _, rfl, rfl, ?_⟩
      have e : decide (i ≤ b) = decide (a ≤ i ∧ i ≤ b) := decide_eq_decide.mpr ⟨fun z => ⟨of_decide_eq_true c, z⟩, fun z => z.2⟩
      show Q (.bl (decide (i ≤ b))) H
      rw [e]; exact q
    · have e : false = decide (a ≤ i ∧ i ≤ b) := (decide_eq_false fun z => c (decide_eq_true z.1)).symm
      rw [e]; exact q

theorem sc_ispair : FnScope ["thing"] ["thing"] (defScope s_ispair) := ⟨rfl, rfl, rfl, by decide +kernel, rfl, by decide +kernel, by decide +kernel⟩
theorem ok_ispair (D : DefAt K mg "is_pair" s_ispair) (B : Bi mg) : Cal P w K mg base 1 "is_pair" (spPair K) := by
  refine cal_of D sc_ispair (fun _ _ _ _ _ _ us hl => match us, hl with | [_], _ => rfl) (fun vs H Q E h => ?_) (fun f cdv A outer s H vs Q E hr h => ?_)
  · obtain ⟨t, x, y, rfl, _⟩ := h
    rfl
  · obtain ⟨t, x, y, rfl, ht, q⟩ := h
    refine ⟨_, pss_one (ps_ret (pe_and (pe_callB call_isTup (by rfl) B.isi b_isi (pa_cons (pv 0) (pa_cons (pe_ty (by rfl) B.tuple b_tuple) pa_nil)))
      (pe_one (pe_cmpR op_eq (pe_callB call_len_seq (by rfl) B.len b_len (pa_cons (pv 0) pa_nil)) pe_int (nomark _))))), ?_⟩
    refine ⟨_, rfl, t, _, rfl, ht, true, rfl, iteT ?_⟩
    refine ⟨_, rfl, t, _, rfl, .inr ht, rfl, ?_⟩
    exact q

theorem sc_islot : FnScope ["thing", "many", "last", "item"] ["thing", "many"] (defScope s_islot) := ⟨rfl, rfl, rfl, by decide +kernel, rfl, by decide +kernel, by decide +kernel⟩
theorem ok_islot (D : DefAt K mg "is_lot" s_islot) (B : Bi mg) (c1 : Cal P w K mg base 2 "is_between" spBet) : Cal P w K mg base 3 "is_lot" (spIsLot K) := by
  refine cal_of D sc_islot (fun _ _ _ _ _ _ us hl => match us, hl with | [_, _], _ => rfl) (fun vs H Q E h => ?_) (fun f cdv A outer s H vs Q E hr h => ?_)
  · obtain ⟨t, ns, m, rfl, _⟩ := h
    rfl
  · obtain ⟨t, ns, m, rfl, ht, hs, q⟩ := h
    refine ⟨_, pss_cons (ps_if (pt_not (pt_val (pe_callB call_isTup (by rfl) B.isi b_isi (pa_cons (pv 0) (pa_cons (pe_ty (by rfl) B.tuple b_tuple) pa_nil))))) (pss_one (ps_ret pe_bl)) pss_nil)
      (pss_cons (ps_set (i := 2) sc_islot.nd rfl (Or.inl rfl) (pe_un un_neg pe_int))
      (pss_cons (ps_for PassesOwn.never rfl (pi_tup (pv 0)) (pg_name (i := 3) sc_islot.nd rfl (Or.inl rfl))
        (pss_cons (ps_if (pt_not (pt_val (pe_c c1 hr (Nat.le_refl _) rfl (pa_cons (pv 3) (pa_cons (pe_op op_add (pv 2) pe_int) (pa_cons (pe_op op_sub (pv 1) pe_int) pa_nil)))))) (pss_one (ps_ret pe_bl)) pss_nil)
          (pss_one (ps_set (i := 2) sc_islot.nd rfl (Or.inl rfl) (pv 3)))))
      (pss_one (ps_ret pe_bl)))), ?_⟩
    refine ⟨_, rfl, t, _, rfl, ht, true, rfl, iteF ?_⟩
    refine ⟨1, rfl, ?_⟩
    refine ⟨_, rfl, t, rfl, ⟨_, ht⟩, for_tup (xs := ns.map V.int) (fun i σ H' => H' = H ∧ ∃ (last : Int) (v : Option V), σ = [some (.ref t), some (.int (m : Int)), some (.int last), v] ∧ -1 ≤ last ∧ ∀ x ∈ ns.drop i, last < x) ⟨rfl, -1, none, rfl, by omega, fun x hx => ?_⟩ (fun i σ H' _ p => by rw [p.1]; exact ht) ?_ ?_⟩
    · have := (hs.bd x (List.mem_of_mem_drop hx)).1
      omega
    · rintro i x σ H' hx ⟨rfl, last, v, rfl, hl, ha⟩
      rw [List.getElem?_map, Option.map_eq_some_iff] at hx
      obtain ⟨z, hz, rfl⟩ := hx
      obtain ⟨hi, ez⟩ := List.getElem?_eq_some_iff.mp hz
      have ed : ns.drop i = z :: ns.drop (i + 1) := by rw [List.drop_eq_getElem_cons hi, ez]
      have hzm : z ∈ ns := List.mem_of_getElem? hz
      have b1 := ha z (by rw [ed]; exact List.mem_cons_self)
      have b2 := hs.bd z hzm
      refine ⟨_, rfl, _, rfl, _, _, rfl, rfl, _, rfl, _, _, rfl, rfl, z, _, _, rfl, _, rfl, ?_⟩
      have e : (!decide (last + 1 ≤ z ∧ z ≤ (m : Int) - 1)) = false := by
        rw [decide_eq_true ⟨by omega, by omega⟩]; rfl
      refine iteFe e ?_
      refine ⟨_, rfl, rfl, z, _, rfl, by omega, fun x hx => ?_⟩
      have pw : (ns.drop i).Pairwise (· < ·) := hs.asc.sublist (List.drop_sublist i ns)
      rw [ed, List.pairwise_cons] at pw
      exact pw.1 x hx
    · rintro σ H' ⟨rfl, last, v, rfl, _⟩
      exact q

theorem sc_lowest : FnScope ["bits"] ["bits"] (defScope s_lowest) := ⟨rfl, rfl, rfl, by decide +kernel, rfl, by decide +kernel, by decide +kernel⟩
theorem ok_lowest (D : DefAt K mg "lowest" s_lowest) : Cal P w K mg base 1 "lowest" spLow := by
  refine cal_of D sc_lowest (fun _ _ _ _ _ _ us hl => match us, hl with | [_], _ => rfl) (fun vs H Q E h => ?_) (fun f cdv A outer s H vs Q E hr h => ?_)
  · obtain ⟨b, rfl, _⟩ := h
    rfl
  · obtain ⟨b, rfl, h0, h8, q⟩ := h
    refine ⟨_, pss_one (ps_ret (pe_op op_sub (pe_bits (pe_op op_and (pv 0) (pe_un un_neg (pv 0)))) pe_int)), ?_⟩
    obtain ⟨e1, e2⟩ := low_and' b h8 h0
    refine ⟨_, rfl, _, rfl, _, rfl, _, _, rfl, rfl, _, rfl, _, _, rfl, rfl, ?_⟩
    rw [e1, e2]
    show Q (.int (((SM.low b + 1 : Nat) : Int) - 1)) H
    have e3 : ((SM.low b + 1 : Nat) : Int) - 1 = ((SM.low b : Nat) : Int) := by omega
    rw [e3]; exact q

theorem sc_lotof : FnScope ["bits", "found"] ["bits"] (defScope s_lotof) := ⟨rfl, rfl, rfl, by decide +kernel, rfl, by decide +kernel, by decide +kernel⟩
theorem ok_lotof (D : DefAt K mg "lot_of" s_lotof) (B : Bi mg) (c1 : Cal P w K mg base 1 "lowest" spLow) : Cal P w K mg base 2 "lot_of" spLotOf := by
  refine cal_of D sc_lotof (fun _ _ _ _ _ _ us hl => match us, hl with | [_], _ => rfl) (fun vs H Q E h => ?_) (fun f cdv A outer s H vs Q E hr h => ?_)
  · obtain ⟨b, rfl, _⟩ := h
    rfl
  · obtain ⟨b, rfl, h8, q⟩ := h
    refine ⟨_, pss_cons (ps_set (i := 1) sc_lotof.nd rfl (Or.inl rfl) (pe_lst pa_nil))
      (pss_cons (ps_while PassesOwn.never (pt_cmpR op_gt (pv 0) pe_int (nomark _))
        (pss_cons (ps_expr (pe_bm PySem.F.plainAttrs_list PySem.F.slot_list_append PySem.F.type_list_append mt_append (pv 1) (pa_cons (pe_c c1 hr (Nat.le_refl _) rfl (pa_cons (pv 0) pa_nil)) pa_nil)))
          (pss_one (ps_set (i := 0) sc_lotof.nd rfl (Or.inl rfl) (pe_op op_andN (pv 0) (pe_op op_subN (pv 0) pe_int))))))
      (pss_one (ps_ret (pe_callTy call_tuple_of (by rfl) B.tuple b_tuple (pa_cons (pv 1) pa_nil))))), ?_⟩
    refine ⟨Nat.zero_le _, fun l hl => ?_⟩
    refine ⟨fun c σ H' => ∃ (acc : List Int), c < 256 ∧ σ = [some (.int (c : Int)), some (.ref l)] ∧ Same H H' ∧ H' l = some (.lst (acc.map V.int)) ∧ acc ++ SM.lotI c = SM.lotI b,
      ⟨b, [], h8, rfl, same_new hl, upd_same, rfl⟩, ?_⟩
    rintro c σ H' ⟨acc, hc, rfl, hs, ha, he⟩
    refine ⟨_, rfl, _, _, rfl, rfl, _, rfl, ?_⟩
    refine ite2 (fun z => ?_) (fun z => ?_)
    · have h0 : 0 < c := by have := of_decide_eq_true z; omega
      have hb : (SM.lotI b).length ≤ 8 := by
        rw [SM.lotI, SM.ints_len, SM.lot_len]; exact SM.pc_le8 b
      have hal : acc.length ≤ 8 := by
        rw [← he, List.length_append] at hb; omega
      refine ⟨fun σ' H' => ∃ m', m' < c ∧ ∃ (acc : List Int), m' < 256 ∧ σ' = [some (.int (m' : Int)), some (.ref l)] ∧ Same H H' ∧ H' l = some (.lst (acc.map V.int)) ∧ acc ++ SM.lotI m' = SM.lotI b, fun _ _ h => h, ?_⟩
      refine ⟨_, rfl, .inl ⟨rfl, _, SqL.of ha⟩, _, rfl, c, rfl, h0, hc, l, _, _, rfl, rfl, ha, (by rw [List.length_map]; exact small1000 (by omega)), ?_⟩
      refine ⟨_, rfl, _, rfl, c, 1, rfl, rfl, h0, c, c - 1, rfl, rfl, ?_⟩
      have lt : c &&& (c - 1) < c := SM.and_pred_lt h0
      refine ⟨_, lt, acc ++ [((SM.low c : Nat) : Int)], by omega, rfl, fun b o e => ?_, by rw [upd_same, List.map_append]; rfl, ?_⟩
      · have e' := hs b o e
        rw [upd_ne (ne_of_none e hl)]; exact e'
      · rw [← he, List.append_assoc]
        congr 1
        unfold SM.lotI SM.intl
        rw [SM.lot_step hc h0]; rfl
    · have h0 : c = 0 := by
        rw [decide_eq_true_eq] at z; omega
      subst h0
      have e0 : SM.lotI 0 = [] := by decide
      rw [e0, List.append_nil] at he
      subst he
      exact ⟨_, rfl, l, _, rfl, .inl ⟨SqL.of ha, fun t ht => q t _ (hs.trans (same_new ht)) upd_same⟩⟩

theorem sc_manyof : FnScope ["bits"] ["bits"] (defScope s_manyof) := ⟨rfl, rfl, rfl, by decide +kernel, rfl, by decide +kernel, by decide +kernel⟩
theorem ok_manyof (D : DefAt K mg "many_of" s_manyof) (B : Bi mg) (c1 : Cal P w K mg base 2 "lot_of" spLotOf) : Cal P w K mg base 3 "many_of" spMany := by
  refine cal_of D sc_manyof (fun _ _ _ _ _ _ us hl => match us, hl with | [_], _ => rfl) (fun vs H Q E h => ?_) (fun f cdv A outer s H vs Q E hr h => ?_)
  · obtain ⟨b, rfl, _⟩ := h
    rfl
  · obtain ⟨b, rfl, h8, q⟩ := h
    refine ⟨_, pss_one (ps_ret (pe_callB call_len_seq (by rfl) B.len b_len (pa_cons (pe_c c1 hr (Nat.le_refl _) rfl (pa_cons (pv 0) pa_nil)) pa_nil))), ?_⟩
    refine ⟨_, rfl, b, rfl, h8, fun t H' hs ht => ⟨t, _, rfl, .inr (SqT.of ht), ?_⟩⟩
    rw [List.length_map, SM.lotI, SM.ints_len, SM.lot_len]
    exact q H' hs

theorem sc_unlike : FnScope ["thing", "many", "item"] ["thing", "many"] (defScope s_unlike) := ⟨rfl, rfl, rfl, by decide +kernel, rfl, by decide +kernel, by decide +kernel⟩
theorem ok_unlike (D : DefAt K mg "are_unlike" s_unlike) (B : Bi mg) (c1 : Cal P w K mg base 2 "is_between" spBet) : Cal P w K mg base 3 "are_unlike" (spUnlike K) := by
  refine cal_of D sc_unlike (fun _ _ _ _ _ _ us hl => match us, hl with | [_, _], _ => rfl) (fun vs H Q E h => ?_) (fun f cdv A outer s H vs Q E hr h => ?_)
  · obtain ⟨t, ns, m, rfl, _⟩ := h
    rfl
  · obtain ⟨t, ns, m, rfl, ht, nd, bd, hl, q⟩ := h
    refine ⟨_, pss_cons (ps_if (PW.pt (pw_or (pt_not (pt_val (pe_callB call_isTup (by rfl) B.isi b_isi (pa_cons (pv 0) (pa_cons (pe_ty (by rfl) B.tuple b_tuple) pa_nil)))))
      (pw_or1 (pt_not (pt_val (pe_callB (cr_all rfl) (by rfl) B.all b_all (pa_cons
        (pe_lc (own := [("item", 2)]) (g := gName 2) (tt := tYes) rfl sc_unlike.nd (pi_tup (pv 0)) (blkOk_by (N := ["thing", "many", "item"]) (sc := defScope s_unlike) (by decide +kernel))
          (fun _ _ _ _ _ => pg_name (i := 2) sc_unlike.nd rfl (Or.inl rfl)) (fun _ _ _ _ _ => pts_nil)
          (fun _ _ _ _ _ => pe_c c1 hr (Nat.le_refl _) rfl (pa_cons (pv 2) (pa_cons pe_int (pa_cons (pe_op op_sub (pv 1) pe_int) pa_nil))))) pa_nil))))))) (pss_one (ps_ret pe_bl)) pss_nil)
      (pss_one (ps_ret (pe_cmpR op_eq (pe_callB cr_lenSet (by rfl) B.len b_len (pa_cons (pe_callTy (cr_setI rfl) (by rfl) B.set b_set (pa_cons (pv 0) pa_nil)) pa_nil)) (pe_callB call_len_seq (by rfl) B.len b_len (pa_cons (pv 0) pa_nil)) (nomark _)))), ?_⟩
    refine ⟨_, rfl, t, _, rfl, ht, true, rfl, iteF ?_⟩
    refine ⟨_, rfl, t, rfl, ⟨_, ht⟩, fun D hD => ?_⟩
    refine lc_tup (xs := ns.map V.int) (fun i H' => H' = upd H D (.lst ((List.replicate i true).map V.bl))) rfl (fun i H' _ p => by rw [p]; exact same_tup (same_new hD) ht) ?_ ?_
    · rintro i x H' hx rfl
      rw [List.getElem?_map, Option.map_eq_some_iff] at hx
      obtain ⟨z, hz, rfl⟩ := hx
      obtain ⟨hi, _⟩ := List.getElem?_eq_some_iff.mp hz
      have b2 := bd z (List.mem_of_getElem? hz)
      refine ⟨rfl, ?_⟩
      refine ⟨_, rfl, _, rfl, _, _, rfl, rfl, z, _, _, rfl, _, upd_same, (by simp only [List.length_map, List.length_replicate]; exact small1000 (by omega)), ?_⟩
      have e : decide (0 ≤ z ∧ z ≤ m - 1) = true := decide_eq_true ⟨by omega, by omega⟩
      rw [e, upd_upd, List.replicate_succ', List.map_append]
      rfl
    · rintro H' rfl
      refine ⟨D, List.replicate (ns.map V.int).length true, rfl, SqL.of upd_same, _, rfl, ?_⟩
      have e : (!(List.replicate (ns.map V.int).length true).all id) = false := by simp
      refine iteFe e ?_
      refine ⟨_, rfl, t, ns, rfl, same_tup (same_new hD) ht, by omega, nd, fun a ha => ⟨a, _, _, rfl, upd_same, ?_⟩⟩
      have hs : Same H (upd (upd H D (.lst ((List.replicate (ns.map V.int).length true).map V.bl))) a (SetO w a (fun j => decide (j ∈ ns)) ns.length)) := (same_new hD).trans (same_new ha)
      refine ⟨_, rfl, t, _, rfl, .inr (same_tup hs ht), rfl, ?_⟩
      exact qv (congrArg V.bl (decide_eq_true (by rw [List.length_map]))) (q _ hs)

theorem sc_istie : FnScope ["thing", "size"] ["thing", "size"] (defScope s_istie) := ⟨rfl, rfl, rfl, by decide +kernel, rfl, by decide +kernel, by decide +kernel⟩
theorem ok_istie (D : DefAt K mg "is_tie" s_istie) (c1 : Cal P w K mg base 1 "is_pair" (spPair K)) (c2 : Cal P w K mg base 2 "is_between" spBet) : Cal P w K mg base 3 "is_tie" (spTie K) := by
  refine cal_of D sc_istie (fun _ _ _ _ _ _ us hl => match us, hl with | [_, _], _ => rfl) (fun vs H Q E h => ?_) (fun f cdv A outer s H vs Q E hr h => ?_)
  · obtain ⟨t, a, b, n, rfl, _⟩ := h
    rfl
  · obtain ⟨t, a, b, n, rfl, ht, h0, h1, h2, q⟩ := h
    refine ⟨_, pss_one (ps_ret (pe_and (pe_c c1 hr (by decide) rfl (pa_cons (pv 0) pa_nil))
      (pe_and (pe_c c2 hr (Nat.le_refl _) rfl (pa_cons (pe_ix ix_tup (pv 0) pe_int (fun _ _ => rfl)) (pa_cons pe_int (pa_cons (pe_op op_sub (pv 1) pe_int) pa_nil))))
        (pe_one (pe_c c2 hr (Nat.le_refl _) rfl (pa_cons (pe_ix ix_tup (pv 0) pe_int (fun _ _ => rfl)) (pa_cons (pe_op op_add (pe_ix ix_tup (pv 0) pe_int (fun _ _ => rfl)) pe_int) (pa_cons (pe_op op_sub (pv 1) pe_int) pa_nil)))))))), ?_⟩
    have i0 : atI ([.int a, .int b] : List V) 0 = some (.int a) := by rfl
    have i1 : atI ([.int a, .int b] : List V) 1 = some (.int b) := by rfl
    refine ⟨_, rfl, t, _, _, rfl, ht, true, rfl, iteT ?_⟩
    refine ⟨_, rfl, t, _, _, _, rfl, rfl, ht, i0, _, rfl, _, _, rfl, rfl, a, _, _, rfl, _, rfl, ?_⟩
    rw [decide_eq_true (show 0 ≤ a ∧ a ≤ n - 1 from ⟨h0, by omega⟩)]
    refine iteT ?_
    refine ⟨_, rfl, t, _, _, _, rfl, rfl, ht, i1, _, rfl, t, _, _, _, rfl, rfl, ht, i0, _, _, rfl, rfl, _, rfl, _, _, rfl, rfl, b, _, _, rfl, ?_⟩
    rw [decide_eq_true (show a + 1 ≤ b ∧ b ≤ n - 1 from ⟨by omega, by omega⟩)]
    exact q
end
end SL
/-! classes: how methods stand; the class Web -/
namespace SL
open PySem PySem.Spec PyProof.Rows L2 SX2 SX3

section
variable {P : Program} {w : World} {K : PySem.W.Frag} {mg : Str → Option Value} {base : Heap}
/-- a method of the class at C as it stands -/
structure MethAt (K : PySem.W.Frag) (C : Addr) (m qual : Str) (st : Stmt) : Prop where
  ex : ∃ (f : Addr) (fd : FuncData), L2.Fun K m qual st f fd ∧ Meth K C m f
/-- the __init__ of the class at C, which the module calls x -/
structure InitAt (K : PySem.W.Frag) (mg : Str → Option Value) (x : Str) (C : Addr) (qual : Str) (st : Stmt) : Prop where
  ex : ∃ (f : Addr) (fd : FuncData), L2.Fun K "__init__" qual st f fd ∧ Mk K C f ∧ mg x = some (.ref C)
structure Met (P : Program) (w : World) (K : PySem.W.Frag) (mg : Str → Option Value) (base : Heap) (k : Nat) (C : Addr) (m : Str) (sp : Sp) : Prop where
  ex : ∃ (f : Addr) (fd : FuncData) (ps : List Str), Cls K C ∧ Meth K C m f ∧ FnOk P w K mg base CX0 k f fd ps sp ∧ Binds K fd ps []
structure Mak (P : Program) (w : World) (K : PySem.W.Frag) (mg : Str → Option Value) (base : Heap) (k : Nat) (x : Str) (C : Addr) (sp : Sp) : Prop where
  ex : ∃ (f : Addr) (fd : FuncData) (ps : List Str), Mk K C f ∧ FnOk P w K mg base CX0 k f fd ps sp ∧ mg x = some (.ref C) ∧ Binds K fd ps []
abbrev BndM (st : Stmt) (x q : Str) (ps : List Str) : Prop := ∀ (kV doc pm : Value) (an : Option Addr) (cdv ct : Value) (us : List Value), us.length = ps.length → bindArgs (PySem.W.fnOf x q (defArgs st) (defBody st) (defScope st) .none kV doc pm an cdv ct) ⟨us, []⟩ = pure (ps.zip us)
theorem met_of {m qual : Str} {C : Addr} {st : Stmt} {N ps : List Str} {k : Nat} {sp : Sp} (D : MethAt K C m qual st) (c : Cls K C) (S : FnScope N ps (defScope st)) (b : BndM st m qual ps) (len : ∀ vs H Q E, sp vs H Q E → vs.length = ps.length)
    (hbody : ∀ (f : Addr) (cdv : Value) (A : Around) (outer : List Env) (s : Shared) (H : Hp) (vs : List V) (Q : VK) (E : XK), Room k (A.deeper (envOfC qual (defScope st) s.heap.objs.size f cdv)) → sp vs H Q E →
      ∃ t, PSs (cxOf CX0 P w K mg base N qual (defScope st) f cdv A outer s H E).nox (defBody st) t ∧ t { nx := fun _ H' => Q .non H', rt := Q } (start N vs) H) : Met P w K mg base (k + 1) C m sp := by
  obtain ⟨f, fd, F, hm⟩ := D.ex
  exact ⟨f, fd, ps, c, hm, F.ok S len (hbody f), F.binds b⟩
theorem mak_of {x qual : Str} {C : Addr} {st : Stmt} {N ps : List Str} {k : Nat} {sp : Sp} (D : InitAt K mg x C qual st) (S : FnScope N ps (defScope st)) (b : BndM st "__init__" qual ps) (len : ∀ vs H Q E, sp vs H Q E → vs.length = ps.length)
    (hbody : ∀ (f : Addr) (cdv : Value) (A : Around) (outer : List Env) (s : Shared) (H : Hp) (vs : List V) (Q : VK) (E : XK), Room k (A.deeper (envOfC qual (defScope st) s.heap.objs.size f cdv)) → sp vs H Q E →
      ∃ t, PSs (cxOf CX0 P w K mg base N qual (defScope st) f cdv A outer s H E).nox (defBody st) t ∧ t { nx := fun _ H' => Q .non H', rt := Q } (start N vs) H) : Mak P w K mg base (k + 1) x C sp := by
  obtain ⟨f, fd, F, M, hm⟩ := D.ex
  exact ⟨f, fd, ps, M, F.ok S len (hbody f), hm, F.binds b⟩
end
section
variable {X : Cx} {k j : Nat} {C : Addr} {x m : Str} {sp : Sp} {p pos apos : Pos} {e o : Expr} {es : List Expr} {ta : TE} {t : TA}
theorem pe_mk (c : Mak X.prog X.w X.K X.mg X.base k x C sp) (hr : Room j X.A) (hk : k + 1 ≤ j) (hg : Gl X x) (ha : PA X (e :: es) t)
    (hdb : (x == ("__debug__" : Str)) = false := by decide) (he : starEach (e :: es) X.env = (false, eval e X.env) :: starEach es X.env := by rfl) (hpl : (backTo pos (starEach es X.env)).any (·.1) = false := by rfl) :
    PE X (.Call (.Name x p) (e :: es) [] pos) (tMake C sp [] E0 t) := by
  obtain ⟨f, fd, ps, M, F, hm, b⟩ := c.ex
  exact pe_make M F (hr.mono hk) hg hm b .nil pass0 ha hdb he hpl
theorem pe_mt {pl : Sem Bool} (c : Met X.prog X.w X.K X.mg X.base k C m sp) (hr : Room j X.A) (hk : k ≤ j) (he : PE X o ta) (ha : PA X (e :: es) t)
    (hst : starEach (e :: es) X.env = (false, eval e X.env) :: starEach es X.env := by rfl) (hpl : (backTo pos (starEach es X.env)).any (·.1) = false := by rfl)
    (ht : eval (.Call (.Attribute o m apos) (e :: es) [] pos) X.env = (do
      let ov ← eval o X.env
      standAt apos.atName
      let (f, first) ← holding [ov] (getMethod ov m pl)
      callWith pos f first (backTo pos (starEach (e :: es) X.env)) (backToKw pos (keywordEach [] X.env))) := by rfl) :
    PE X (.Call (.Attribute o m apos) (e :: es) [] pos) (tMeth C m sp [] E0 ta t) := by
  obtain ⟨f, fd, ps, hc, hm, F, b⟩ := c.ex
  exact pe_meth (pl := pl) he hc hm F (hr.mono hk) b .nil pass0 ha hst hpl ht
end

/-! ### lists of masks -/
def nV (l : List Nat) : List V := l.map fun m : Nat => V.int (m : Int)
theorem nV_len (l : List Nat) : (nV l).length = l.length := List.length_map _
theorem nV_get {l : List Nat} {p : Nat} (h : p < l.length) : (nV l)[p]? = some (.int ((SM.nb l p : Nat) : Int)) := by
  unfold nV SM.nb
  rw [List.getElem?_map, List.getD_eq_getElem?_getD, List.getElem?_eq_getElem h]; rfl
theorem nV_at {l : List Nat} {p : Nat} (h : p < l.length) : atI (nV l) (p : Int) = some (.int ((SM.nb l p : Nat) : Int)) := atI_nat (nV_get h)
theorem nV_set (l : List Nat) (p v : Nat) : (nV l).set p (.int (v : Int)) = nV (l.set p v) := by unfold nV; rw [List.map_set]
theorem nV_rep (n : Nat) : (List.replicate n [V.int 0]).flatten = nV (List.replicate n 0) := by
  unfold nV
  rw [List.map_replicate]
  induction n with
  | zero => rfl
  | succ n ih => rw [List.replicate_succ, List.replicate_succ, List.flatten_cons, ih]; rfl
theorem ixN_nat {n p : Nat} (h : p < n) : ixN n (p : Int) = some p := by
  unfold ixN
  rw [if_pos (by omega), if_pos (by omega)]; simp

/-! ### fields -/
theorem putF_ne {f g : Str} {v x : V} {r : List (Str × V)} (h : ¬ g = f) : putF f v ((g, x) :: r) = (g, x) :: putF f v r := by
  show (if g = f then _ else _) = _
  rw [if_neg h]
theorem lk_ne {f g : Str} {x : V} {r : List (Str × V)} (h : (f == g) = false) : List.lookup f ((g, x) :: r) = List.lookup f r := by simp [List.lookup, h]
theorem lk_eq {f : Str} {x : V} {r : List (Str × V)} : List.lookup f ((f, x) :: r) = some x := by simp [List.lookup]

/-! ### webs -/
def wfs (n : Nat) (t nl : Addr) : List (Str × V) := [("size", .int (n : Int)), ("ties", .ref t), ("whole", .int ((2 ^ n - 1 : Nat) : Int)), ("near", .ref nl)]
theorem w_size (n : Nat) (t nl : Addr) : (wfs n t nl).lookup ("size" : Str) = some (V.int (n : Int)) := lk_eq
theorem w_whole (n : Nat) (t nl : Addr) : (wfs n t nl).lookup ("whole" : Str) = some (V.int ((2 ^ n - 1 : Nat) : Int)) := by
  unfold wfs
  rw [lk_ne (by decide +kernel), lk_ne (by decide +kernel)]; exact lk_eq
theorem w_near (n : Nat) (t nl : Addr) : (wfs n t nl).lookup ("near" : Str) = some (V.ref nl) := by
  unfold wfs
  rw [lk_ne (by decide +kernel), lk_ne (by decide +kernel), lk_ne (by decide +kernel)]; exact lk_eq
theorem w_put1 {x y : V} : putF "ties" y [(("size" : Str), x)] = ([("size", x), ("ties", y)] : List (Str × V)) := by rw [putF_ne (by decide +kernel)]; rfl
theorem w_put2 {x y z : V} : putF "whole" z [(("size" : Str), x), ("ties", y)] = ([("size", x), ("ties", y), ("whole", z)] : List (Str × V)) := by rw [putF_ne (by decide +kernel), putF_ne (by decide +kernel)]; rfl
theorem w_put3 {x y z u : V} : putF "near" u [(("size" : Str), x), ("ties", y), ("whole", z)] = ([("size", x), ("ties", y), ("whole", z), ("near", u)] : List (Str × V)) := by rw [putF_ne (by decide +kernel), putF_ne (by decide +kernel), putF_ne (by decide +kernel)]; rfl
/-- a web of n parts with these masks stands at p -/
structure WebAt (C : Addr) (H : Hp) (p : Addr) (n : Nat) (near : List Nat) : Prop where
  ex : ∃ dx t nl, H p = some (.ins C dx (wfs n t nl)) ∧ H nl = some (.lst (nV near))
theorem WebAt.keep {C : Addr} {H H' : Hp} {p : Addr} {n : Nat} {near : List Nat} (h : WebAt C H p n near) (e : Same H H') : WebAt C H' p n near := by
  obtain ⟨dx, t, nl, h1, h2⟩ := h.ex
  exact ⟨dx, t, nl, e _ _ h1, e _ _ h2⟩
/-- what the class Web is -/
structure CW (K : PySem.W.Frag) (C : Addr) : Prop where
  cl : Cls K C
  nS : NoAttr K C "size"
  nT : NoAttr K C "ties"
  nW : NoAttr K C "whole"
  nN : NoAttr K C "near"
abbrev tRefs (tk : List (Addr × Nat × Nat)) : List V := tk.map fun p => V.ref p.1
/-- a tuple of ties -/
structure TiesAt (K : PySem.W.Frag) (H : Hp) (t : Addr) (ts : List (Nat × Nat)) : Prop where
  ex : ∃ tk : List (Addr × Nat × Nat), SqT K H t (tRefs tk) ∧ (∀ p ∈ tk, SqT K H p.1 [.int (p.2.1 : Int), .int (p.2.2 : Int)]) ∧ tk.map (·.2) = ts
theorem TiesAt.keep {K : PySem.W.Frag} {H H' : Hp} {t : Addr} {ts : List (Nat × Nat)} (h : TiesAt K H t ts) (e : Same H H') : TiesAt K H' t ts := by
  obtain ⟨tk, h1, h2, h3⟩ := h.ex
  exact ⟨tk, same_tup e h1, fun p hp => same_tup e (h2 p hp), h3⟩

abbrev s_winit : Stmt := inClass (top 18) 0
abbrev s_wbegin : Stmt := inClass (top 18) 1
def spBegin (K : PySem.W.Frag) (C : Addr) : Sp := fun vs H Q _ => ∃ (p dx t : Addr) (n : Nat) (ts : List (Nat × Nat)), vs = [.ref p, .int (n : Int), .ref t] ∧ H p = some (.ins C dx []) ∧ n ≤ 24 ∧ TiesAt K H t ts ∧ (∀ u ∈ ts, u.1 < u.2 ∧ u.2 < n) ∧
  ∀ (H' : Hp) (t' nl : Addr), H' p = some (.ins C dx (wfs n t' nl)) → H' nl = some (.lst (nV (SM.nearOf n ts))) → H nl = none → (∀ b o, b ≠ p → H b = some o → H' b = some o) → Q .non H'
def spWInit (K : PySem.W.Frag) (C : Addr) : Sp := fun vs H Q _ => ∃ (p dx t : Addr) (n : Nat) (ts : List (Nat × Nat)), vs = [.ref p, .int (n : Int), .ref t] ∧ H p = some (.ins C dx []) ∧ 1 ≤ n ∧ n ≤ 24 ∧ TiesAt K H t ts ∧ SM.TiesOk n ts ∧
  ∀ (H' : Hp) (t' nl : Addr), H' p = some (.ins C dx (wfs n t' nl)) → H' nl = some (.lst (nV (SM.nearOf n ts))) → H nl = none → (∀ b o, b ≠ p → H b = some o → H' b = some o) → Q .non H'

section
variable {P : Program} {w : World} {K : PySem.W.Frag} {mg : Str → Option Value} {base : Heap}
theorem sc_wbegin : FnScope ["self", "size", "ties", "one", "other"] ["self", "size", "ties"] (defScope s_wbegin) := ⟨rfl, rfl, rfl, by decide +kernel, rfl, by decide +kernel, by decide +kernel⟩
theorem ok_wbegin {C : Addr} (D : MethAt K C "begin" "Web.begin" s_wbegin) (T : CW K C) : Met P w K mg base 1 C "begin" (spBegin K C) := by
  refine met_of D T.cl sc_wbegin (fun _ _ _ _ _ _ us hl => match us, hl with | [_, _, _], _ => rfl) (fun vs H Q E h => ?_) (fun f cdv A outer s H vs Q E hr h => ?_)
  · obtain ⟨p, dx, t, n, ts, rfl, _⟩ := h
    rfl
  · obtain ⟨p, dx, t, n, ts, rfl, hp, hn, ht, hb, q⟩ := h
    refine ⟨_, pss_cons (ps_fld (pv 0) (pv 1) rfl) (pss_cons (ps_fld (pv 0) (pv 2) rfl) (pss_cons (ps_fld (pv 0) (pe_op op_subN (pe_op op_shl1 pe_int (pv 1)) pe_int) rfl)
      (pss_cons (ps_fld (pv 0) (pe_op op_rep (pe_lst (pa_cons pe_int pa_nil)) (pv 1)) rfl)
      (pss_one (ps_for PassesOwn.never rfl (pi_tup (pv 2)) (pg_tup rfl (pgs_cons (pg_name (i := 3) sc_wbegin.nd rfl (.inl rfl)) (pgs_cons (pg_name (i := 4) sc_wbegin.nd rfl (.inl rfl)) pgs_nil)))
        (pss_cons (ps_asg (pe_op op_orN (pe_ix ix_list (pe_fld (pv 0) rfl) (pv 3) (fun _ _ => rfl)) (pe_op op_shl1 pe_int (pv 4))) (pg_sub (pe_fld (pv 0) rfl) (pv 3) set_list))
        (pss_one (ps_asg (pe_op op_orN (pe_ix ix_list (pe_fld (pv 0) rfl) (pv 4) (fun _ _ => rfl)) (pe_op op_shl1 pe_int (pv 3))) (pg_sub (pe_fld (pv 0) rfl) (pv 4) set_list))))))))), ?_⟩
    refine ⟨_, rfl, _, rfl, p, C, dx, [], rfl, hp, T.cl, T.nS, (by show 0 < 1000; decide), ?_⟩
    refine ⟨_, rfl, _, rfl, p, C, dx, _, rfl, upd_same, T.cl, T.nT, (by show 1 < 1000; decide), ?_⟩
    refine ⟨_, rfl, n, rfl, rfl, by omega, 2 ^ n, 1, rfl, rfl, Nat.two_pow_pos n, ?_⟩
    refine ⟨_, rfl, p, C, dx, _, rfl, Eq.trans upd_same (congrArg (fun l => some (HO.ins C dx l)) w_put1), T.cl, T.nW, (by show 2 < 1000; decide), ?_⟩
    refine ⟨(by show 1 ≤ sizeLine; decide), fun l hl => ?_⟩
    refine ⟨_, rfl, l, (n : Int), _, rfl, rfl, upd_same, by omega, by omega, (by rw [sizeLine_eq]; simp only [List.length_singleton, Int.toNat_natCast]; omega), fun nl hnl => ?_⟩
    have npl : p ≠ l := fun e => by rw [e, upd_same] at hl; cases hl
    have npn : p ≠ nl := fun e => by rw [← e, upd_ne npl, upd_same] at hnl; cases hnl
    have nln : nl ≠ l := fun e => by rw [e, upd_same] at hnl; cases hnl
    refine ⟨_, rfl, p, C, dx, _, rfl, Eq.trans (upd_ne npn) (Eq.trans (upd_ne npl) (Eq.trans upd_same (congrArg (fun l => some (HO.ins C dx l)) w_put2))), T.cl, T.nN, (by show 3 < 1000; decide), ?_⟩
    rw [Int.toNat_natCast, nV_rep, w_put3]
    have hlH : H l = none := by
      rw [upd_ne (Ne.symm npl), upd_ne (Ne.symm npl), upd_ne (Ne.symm npl)] at hl; exact hl
    have hnH : H nl = none := by
      rw [upd_ne nln, upd_ne (Ne.symm npn), upd_ne (Ne.symm npn), upd_ne (Ne.symm npn)] at hnl; exact hnl
    obtain ⟨tk, t1, t2, t3⟩ := ht.ex
    have keep : ∀ {H' : Hp}, (∀ b o, b ≠ p → H b = some o → H' b = some o) → ∀ a ys, SqT K H a ys → SqT K H' a ys := fun {H'} k a ys h => by
      rcases h with (h | ⟨o, h⟩) | h
      · exact .inl (.inl (k _ _ (fun e => by rw [e, hp] at h; cases h) h))
      · exact .inl (.inr ⟨o, k _ _ (fun e => by rw [e, hp] at h; cases h) h⟩)
      · exact .inr h
    refine ⟨_, rfl, t, rfl, ⟨_, keep (fun b o hb e => ?_) t _ t1⟩, for_tup (xs := tRefs tk) (fun i σ H' => ∃ v3 v4, σ = [some (.ref p), some (.int (n : Int)), some (.ref t), v3, v4] ∧ H' p = some (.ins C dx (wfs n t nl)) ∧ H' nl = some (.lst (nV (SM.nearOf n (ts.take i)))) ∧ ∀ b o, b ≠ p → H b = some o → H' b = some o)
      ⟨none, none, rfl, upd_same, by rw [upd_ne (Ne.symm npn), upd_same]; rfl, fun b o hb e => ?_⟩ (fun i σ H' _ ⟨v3, v4, _, _, _, k⟩ => keep k t _ t1) ?_ ?_⟩
    · rw [upd_ne hb, upd_ne (ne_of_none e hnH), upd_ne (ne_of_none e hlH), upd_ne hb, upd_ne hb, upd_ne hb]; exact e
    · rw [upd_ne hb, upd_ne (ne_of_none e hnH), upd_ne (ne_of_none e hlH), upd_ne hb, upd_ne hb, upd_ne hb]; exact e
    · rintro i x σ H' hx ⟨v3, v4, rfl, h1, h2, k⟩
      rw [List.getElem?_map, Option.map_eq_some_iff] at hx
      obtain ⟨⟨a, u⟩, hu, rfl⟩ := hx
      have hu2 : ts[i]? = some u := by rw [← t3, List.getElem?_map, hu]; rfl
      obtain ⟨b1, b2⟩ := hb u (List.mem_of_getElem? hu2)
      have ha := keep k _ _ (t2 _ (List.mem_of_getElem? hu))
      have gl : (SM.nearOf n (ts.take i)).length = n := (SM.nearOf_W fun v hv => hb v (List.mem_of_mem_take hv)).len
      have l1 : u.1 < (SM.nearOf n (ts.take i)).length := by rw [gl]; omega
      have l2 : u.2 < (SM.nearOf n (ts.take i)).length := by rw [gl]; exact b2
      have l3 : u.2 < ((SM.nearOf n (ts.take i)).set u.1 (SM.nb (SM.nearOf n (ts.take i)) u.1 ||| 2 ^ u.2)).length := by rw [List.length_set]; exact l2
      have pn : p ≠ nl := npn
      refine ⟨a, _, rfl, ha, rfl, _, _, rfl, _, _, rfl, rfl, ?_⟩
      refine ⟨_, rfl, p, C, dx, _, _, rfl, h1, T.cl, T.nN, w_near _ _ _, _, rfl, nl, _, _, _, rfl, rfl, SqL.of h2, nV_at l1, _, rfl, u.2, rfl, rfl, by omega, _, _, rfl, rfl, ?_⟩
      refine ⟨_, rfl, p, C, dx, _, _, rfl, h1, T.cl, T.nN, w_near _ _ _, _, rfl, nl, _, _, _, rfl, rfl, h2, ixN_nat (by rw [nV_len]; exact l1), ?_⟩
      rw [nV_set]
      refine ⟨_, rfl, p, C, dx, _, _, rfl, Eq.trans (upd_ne pn) h1, T.cl, T.nN, w_near _ _ _, _, rfl, nl, _, _, _, rfl, rfl, SqL.of upd_same, nV_at l3, _, rfl, u.1, rfl, rfl, by omega, _, _, rfl, rfl, ?_⟩
      refine ⟨_, rfl, p, C, dx, _, _, rfl, Eq.trans (upd_ne pn) h1, T.cl, T.nN, w_near _ _ _, _, rfl, nl, _, _, _, rfl, rfl, upd_same, ixN_nat (by rw [nV_len]; exact l3), ?_⟩
      rw [nV_set, upd_upd]
      refine ⟨_, _, rfl, Eq.trans (upd_ne pn) h1, ?_, fun b o hb' e => ?_⟩
      · rw [upd_same, SM.nearOf_take hu2]; rfl
      · rw [upd_ne (ne_of_none e hnH)]; exact k b o hb' e
    · rintro σ H' ⟨v3, v4, rfl, h1, h2, k⟩
      rw [List.length_map] at h2
      have e : ts.take tk.length = ts := by rw [← t3]; exact List.take_of_length_le (by simp)
      rw [e] at h2
      exact q H' t nl h1 h2 hnH k

theorem sc_winit : FnScope ["self", "size", "ties", "number", "item"] ["self", "size", "ties"] (defScope s_winit) := ⟨rfl, rfl, rfl, by decide +kernel, rfl, by decide +kernel, by decide +kernel⟩
theorem ok_winit {C : Addr} (D : InitAt K mg "Web" C "Web.__init__" s_winit) (T : CW K C) (B : Bi mg) (mP : ∃ t, mg "MOST_PARTS" = some (.int 24 t)) (c1 : Cal P w K mg base 2 "is_between" spBet) (c2 : Cal P w K mg base 3 "is_tie" (spTie K)) (m1 : Met P w K mg base 1 C "begin" (spBegin K C)) : Mak P w K mg base 4 "Web" C (spWInit K C) := by
  refine mak_of D sc_winit (fun _ _ _ _ _ _ us hl => match us, hl with | [_, _, _], _ => rfl) (fun vs H Q E h => ?_) (fun f cdv A outer s H vs Q E hr h => ?_)
  · obtain ⟨p, dx, t, n, ts, rfl, _⟩ := h
    rfl
  · obtain ⟨p, dx, t, n, ts, rfl, hp, hn1, hn, ht, ho, q⟩ := h
    obtain ⟨tP, mP⟩ := mP
    refine ⟨_, pss_cons (ps_if (pt_not (pt_val (pe_c c1 hr (by decide) rfl (pa_cons (pv 1) (pa_cons pe_int (pa_cons (pe_glob (v := .int 24) rfl mP ⟨_, rfl⟩) pa_nil)))))) (pss_one ps_never) pss_nil)
      (pss_cons (ps_if (pt_not (pt_val (pe_callB call_isTup (by rfl) B.isi b_isi (pa_cons (pv 2) (pa_cons (pe_ty (by rfl) B.tuple b_tuple) pa_nil))))) (pss_one ps_never) pss_nil)
      (pss_cons (ps_for PassesOwn.never rfl (pi_enumT (by rfl) B.enum (pa_cons (pv 2) pa_nil)) (pg_tup rfl (pgs_cons (pg_name (i := 3) sc_winit.nd rfl (.inl rfl)) (pgs_cons (pg_name (i := 4) sc_winit.nd rfl (.inl rfl)) pgs_nil)))
        (pss_one (ps_if (PW.pt (pw_or (pt_not (pt_val (pe_c c2 hr (Nat.le_refl _) rfl (pa_cons (pv 4) (pa_cons (pv 1) pa_nil)))))
          (pw_or1 (PW.pt (pw_and (pt_cmpR op_gt (pv 3) pe_int (nomark _)) (pw_and1 (pt_cmpR (op_leNo hr.units0) (pv 4) (pe_ix ix_tup (pv 2) (pe_op op_sub (pv 3) pe_int) (fun _ _ => rfl)) (nomark _)))))))) (pss_one ps_never) pss_nil)))
      (pss_one (ps_expr (pe_mt m1 hr (by decide) (pv 0) (pa_cons (pv 1) (pa_cons (pv 2) pa_nil))))))), ?_⟩
    obtain ⟨tk, t1, t2, t3⟩ := id ht.ex
    refine ⟨_, rfl, _, _, _, rfl, _, rfl, iteFe (by rw [decide_eq_true ⟨by omega, by omega⟩]; rfl) ?_⟩
    refine ⟨_, rfl, t, _, rfl, t1, true, rfl, iteF ?_⟩
    refine ⟨_, rfl, t, _, rfl, t1, for_it (walk_enumT (xs := tRefs tk)) (fun i σ H' => ∃ v3 v4, σ = [some (.ref p), some (.int (n : Int)), some (.ref t), v3, v4] ∧ Same H H') ⟨none, none, rfl, Same.refl H⟩ (fun i σ H' _ ⟨v3, v4, _, k⟩ => same_tup k t1) ?_ ?_⟩
    · rintro i x σ H' H2 hi ⟨v3, v4, rfl, k⟩ ⟨T', x', y, rfl, hT, rfl, ex, ey⟩
      obtain rfl : (V.int (i : Int)) = x' := Option.some.inj ex
      replace ey : (tk.map fun p => V.ref p.1)[i]? = some y := ey
      rw [List.getElem?_map, Option.map_eq_some_iff] at ey
      obtain ⟨⟨a, u⟩, hu, rfl⟩ := ey
      have hu2 : ts[i]? = some u := by rw [← t3, List.getElem?_map, hu]; rfl
      obtain ⟨b1, b2⟩ := ho.bd u (List.mem_of_getElem? hu2)
      have k2 : Same H (upd H' T' (.tup [.int (i : Int), .ref a])) := k.trans (same_new hT)
      refine ⟨T', _, rfl, SqT.of upd_same, rfl, _, _, rfl, _, _, rfl, rfl, ?_⟩
      refine ⟨_, rfl, _, rfl, a, (u.1 : Int), (u.2 : Int), (n : Int), rfl, same_tup k2 (t2 _ (List.mem_of_getElem? hu)), by omega, by omega, by omega, true, rfl, iteF ?_⟩
      refine ⟨_, rfl, _, _, rfl, rfl, _, rfl, ?_⟩
      refine ite2 (fun c => ?_) (fun c => ?_)
      · have i0 : 0 < i := by have := of_decide_eq_true c; omega
        have hi' : i - 1 < tk.length := by
          have := (List.getElem?_eq_some_iff.mp hu).1
          omega
        obtain ⟨⟨a', u'⟩, hu'⟩ : ∃ z, tk[i - 1]? = some z := ⟨_, List.getElem?_eq_getElem hi'⟩
        have hu2' : ts[i - 1]? = some u' := by rw [← t3, List.getElem?_map, hu']; rfl
        have e1 : ((i : Int) - 1) = ((i - 1 : Nat) : Int) := by omega
        have g : atI (tRefs tk) ((i : Int) - 1) = some (.ref a') := by
          rw [e1]
          exact atI_nat (by rw [List.getElem?_map, hu']; rfl)
        have lt : SM.lx [(u'.1 : Int), (u'.2 : Int)] [(u.1 : Int), (u.2 : Int)] = true := by
          obtain ⟨g1, g2⟩ := List.getElem?_eq_some_iff.mp hu2
          obtain ⟨g3, g4⟩ := List.getElem?_eq_some_iff.mp hu2'
          have o := List.pairwise_iff_getElem.mp ho.asc (i - 1) i g3 g1 (by omega)
          rw [g2, g4] at o
          rcases o with o | ⟨o1, o2⟩
          · show (if ((u'.1 : Nat) : Int) = (u.1 : Int) then _ else decide (((u'.1 : Nat) : Int) < (u.1 : Int))) = true
            rw [if_neg (by omega), decide_eq_true_eq]; omega
          · show (if ((u'.1 : Nat) : Int) = (u.1 : Int) then (if ((u'.2 : Nat) : Int) = (u.2 : Int) then false else decide (((u'.2 : Nat) : Int) < (u.2 : Int))) else _) = true
            rw [if_pos (by omega), if_neg (by omega), decide_eq_true_eq]; omega
        refine ⟨_, rfl, _, rfl, _, rfl, _, _, rfl, rfl, t, _, _, _, rfl, rfl, same_tup k2 t1, g, a, a', [(u.1 : Int), (u.2 : Int)], [(u'.1 : Int), (u'.2 : Int)], rfl, rfl, same_tup k2 (t2 _ (List.mem_of_getElem? hu)), same_tup k2 (t2 _ (List.mem_of_getElem? hu')), lt, false, rfl, iteF ?_⟩
        exact ⟨_, _, rfl, k2⟩
      · exact iteF ⟨_, _, rfl, k2⟩
    · rintro σ H' ⟨v3, v4, rfl, k⟩
      refine ⟨_, rfl, p, dx, _, rfl, k _ _ hp, rfl, _, rfl, _, rfl, p, dx, t, n, ts, rfl, k _ _ hp, hn, ht.keep k, ho.bd, fun H2 t' nl w1 w2 hn' k3 => q H2 t' nl w1 w2 (k.free hn') fun b o hb e => k3 b o hb (k b o e)⟩
end
end SL
/-! silenced, the pieces, the fork -/
namespace SL
open PySem PySem.Spec PyProof.Rows L2 SX2 SX3

abbrev s_silenced : Stmt := top 20
abbrev s_piece : Stmt := top 22
abbrev s_pieces : Stmt := top 23
abbrev s_fork : Stmt := top 26

def spSil (C : Addr) : Sp := fun vs H Q _ => ∃ (p : Addr), vs = [.ref p, .int 0] ∧ ∀ H', Same H H' → Q (.int 0) H'
def spPiece (C : Addr) : Sp := fun vs H Q _ => ∃ (p : Addr) (n : Nat) (near : List Nat) (bits part : Nat), vs = [.ref p, .int (bits : Int), .int (part : Int)] ∧ WebAt C H p n near ∧ SM.Gr n near ∧ bits < 2 ^ n ∧ bits.testBit part = true ∧
  ∀ (m : Nat) (H' : Hp), Same H H' → m ≠ 0 → SM.Sub m bits → Q (.int (m : Int)) H'
def spPieces (C : Addr) : Sp := fun vs H Q _ => ∃ (p : Addr) (n : Nat) (near : List Nat) (bits : Nat), vs = [.ref p, .int (bits : Int)] ∧ WebAt C H p n near ∧ SM.Gr n near ∧ bits < 2 ^ n ∧
  ∀ (l : Addr) (ps : List Nat) (H' : Hp), Same H H' → H' l = some (.lst (nV ps)) → (∀ q ∈ ps, q ≠ 0 ∧ SM.Sub q bits) → (∀ free, SM.psum free ps ≤ SM.pc (bits &&& free)) → Q (.ref l) H'
def spFork (C : Addr) : Sp := fun vs H Q _ => ∃ (p : Addr) (n : Nat) (near : List Nat) (f s : Nat), vs = [.ref p, .int (f : Int), .int (s : Int)] ∧ WebAt C H p n near ∧ SM.Gr n near ∧ f < 2 ^ n ∧ s < 2 ^ n ∧ f ||| s ≠ 0 ∧
  ∀ (l : Addr) (best : Nat) (H' : Hp), Same H H' → H' l = some (.lst ((SM.lotI best).map V.int)) → SM.IsFork near f s best → H l = none → Q (.ref l) H'

theorem lotI_get {b i : Nat} {x : V} (h : ((SM.lotI b).map V.int)[i]? = some x) : ∃ k : Nat, (SM.lot b)[i]? = some k ∧ x = .int (k : Int) ∧ k < 8 ∧ b.testBit k = true := by
  unfold SM.lotI SM.intl at h
  rw [List.getElem?_map, List.getElem?_map] at h
  cases e : (SM.lot b)[i]? with
  | none => rw [e] at h; cases h
  | some k =>
    rw [e] at h
    obtain ⟨h1, h2⟩ := SM.mem_lot.mp (List.mem_of_getElem? e)
    exact ⟨k, rfl, (Option.some.inj h).symm, h1, h2⟩
theorem lotI_len (b : Nat) : ((SM.lotI b).map V.int).length = (SM.lot b).length := by rw [List.length_map, SM.lotI, SM.ints_len]

section
variable {P : Program} {w : World} {K : PySem.W.Frag} {mg : Str → Option Value} {base : Heap} {C : Addr}
theorem sc_silenced : FnScope ["web", "bits", "found", "part"] ["web", "bits"] (defScope s_silenced) := ⟨rfl, rfl, rfl, by decide +kernel, rfl, by decide +kernel, by decide +kernel⟩
theorem ok_silenced (D : DefAt K mg "silenced" s_silenced) (T : CW K C) (c1 : Cal P w K mg base 2 "lot_of" spLotOf) : Cal P w K mg base 3 "silenced" (spSil C) := by
  refine cal_of D sc_silenced (fun _ _ _ _ _ _ us hl => match us, hl with | [_, _], _ => rfl) (fun vs H Q E h => ?_) (fun f cdv A outer s H vs Q E hr h => ?_)
  · obtain ⟨p, rfl, _⟩ := h
    rfl
  · obtain ⟨p, rfl, q⟩ := h
    refine ⟨_, pss_cons (ps_set (i := 2) sc_silenced.nd rfl (.inl rfl) pe_int)
      (pss_cons (ps_for PassesOwn.never rfl (pi_tup (pe_c c1 hr (Nat.le_refl _) rfl (pa_cons (pv 1) pa_nil))) (pg_name (i := 3) sc_silenced.nd rfl (.inl rfl))
        (pss_one (ps_set (i := 2) sc_silenced.nd rfl (.inl rfl) (pe_op op_orN (pv 2) (pe_ix ix_list (pe_fld (pv 0) rfl) (pv 3) (fun _ _ => rfl))))))
      (pss_one (ps_ret (pv 2)))), ?_⟩
    refine ⟨_, rfl, 0, rfl, by decide, fun t H' hs ht => ?_⟩
    have e0 : SM.lotI 0 = [] := by decide
    rw [e0] at ht
    refine ⟨t, rfl, ⟨_, SqT.of ht⟩, for_tup (xs := []) (fun i σ H2 => H2 = H' ∧ σ = [some (.ref p), some (.int 0), some (.int 0), none]) ⟨rfl, rfl⟩ (fun i σ H2 _ ⟨e, _⟩ => by rw [e]; exact SqT.of ht) (fun i x σ H2 hx => by simp at hx) ?_⟩
    rintro σ H2 ⟨rfl, rfl⟩
    exact ⟨_, rfl, q _ hs⟩

theorem sc_piece : FnScope ["web", "bits", "part", "found", "edge", "reach", "other"] ["web", "bits", "part"] (defScope s_piece) := ⟨rfl, rfl, rfl, by decide +kernel, rfl, by decide +kernel, by decide +kernel⟩
theorem ok_piece (D : DefAt K mg "piece_from" s_piece) (T : CW K C) (c1 : Cal P w K mg base 2 "lot_of" spLotOf) : Cal P w K mg base 3 "piece_from" (spPiece C) := by
  refine cal_of D sc_piece (fun _ _ _ _ _ _ us hl => match us, hl with | [_, _, _], _ => rfl) (fun vs H Q E h => ?_) (fun f cdv A outer s H vs Q E hr h => ?_)
  · obtain ⟨p, n, near, bits, part, rfl, _⟩ := h
    rfl
  · obtain ⟨p, n, near, bits, part, rfl, hw, g, hb, hp, q⟩ := h
    refine ⟨_, pss_cons (ps_set (i := 3) sc_piece.nd rfl (.inl rfl) (pe_op op_shl1 pe_int (pv 2)))
      (pss_cons (ps_set (i := 4) sc_piece.nd rfl (.inl rfl) (pv 3))
      (pss_cons (ps_while PassesOwn.never (pt_cmpR op_gt (pv 4) pe_int (nomark _))
        (pss_cons (ps_set (i := 5) sc_piece.nd rfl (.inl rfl) pe_int)
        (pss_cons (ps_for PassesOwn.never rfl (pi_tup (pe_c c1 hr (Nat.le_refl _) rfl (pa_cons (pv 4) pa_nil))) (pg_name (i := 6) sc_piece.nd rfl (.inl rfl))
          (pss_one (ps_set (i := 5) sc_piece.nd rfl (.inl rfl) (pe_op op_orN (pv 5) (pe_ix ix_list (pe_fld (pv 0) rfl) (pv 6) (fun _ _ => rfl))))))
        (pss_cons (ps_set (i := 4) sc_piece.nd rfl (.inl rfl) (pe_op op_sdN (pe_op op_andN (pv 5) (pv 1)) (pe_un un_inv (pv 3))))
        (pss_one (ps_set (i := 3) sc_piece.nd rfl (.inl rfl) (pe_op op_orN (pv 3) (pv 4))))))))
      (pss_one (ps_ret (pv 3))))), ?_⟩
    have h8 := SM.le8 g.hi
    have hpn : part < n := SM.tb_lt hb hp
    have hn8 := g.hi
    refine ⟨_, rfl, part, rfl, rfl, by omega, ?_⟩
    refine ⟨_, rfl, ?_⟩
    refine ⟨fun m σ H' => ∃ (fd ed : Nat) (v5 v6 : Option V), σ = [some (.ref p), some (.int (bits : Int)), some (.int (part : Int)), some (.int (fd : Int)), some (.int (ed : Int)), v5, v6] ∧ Same H H' ∧ fd ≠ 0 ∧ SM.Sub fd bits ∧ SM.Sub ed bits ∧
        m = 2 * SM.pc (SM.sd bits fd) + (if ed = 0 then 0 else 1),
      ⟨_, 2 ^ part, 2 ^ part, none, none, rfl, Same.refl H, SM.two_ne part, SM.sub_two hp, SM.sub_two hp, rfl⟩, ?_⟩
    rintro m σ H' ⟨fd, ed, v5, v6, rfl, hs, f0, hf, he, rfl⟩
    refine ⟨_, rfl, _, _, rfl, rfl, _, rfl, ?_⟩
    refine ite2 (fun c => ?_) (fun c => ?_)
    · have e0 : ed ≠ 0 := by have := of_decide_eq_true c; omega
      refine ⟨fun σ' H2 => ∃ m', m' < 2 * SM.pc (SM.sd bits fd) + (if ed = 0 then 0 else 1) ∧ ∃ (fd ed : Nat) (v5 v6 : Option V), σ' = [some (.ref p), some (.int (bits : Int)), some (.int (part : Int)), some (.int (fd : Int)), some (.int (ed : Int)), v5, v6] ∧ Same H H2 ∧ fd ≠ 0 ∧ SM.Sub fd bits ∧ SM.Sub ed bits ∧
        m' = 2 * SM.pc (SM.sd bits fd) + (if ed = 0 then 0 else 1), fun _ _ h => h, ?_⟩
      have ed8 : ed < 256 := Nat.lt_of_lt_of_le (he.lt hb) h8
      refine ⟨_, rfl, ed, rfl, ed8, fun t H2 hs2 ht => ?_⟩
      refine ⟨t, rfl, ⟨_, SqT.of ht⟩, for_tup (xs := (SM.lotI ed).map V.int) (fun i σ H3 => ∃ (re : Nat) (v6 : Option V), σ = [some (.ref p), some (.int (bits : Int)), some (.int (part : Int)), some (.int (fd : Int)), some (.int (ed : Int)), some (.int (re : Int)), v6] ∧ H3 = H2)
        ⟨0, v6, rfl, rfl⟩ (fun i σ H3 _ ⟨_, _, _, e⟩ => by rw [e]; exact SqT.of ht) ?_ ?_⟩
      · rintro i x σ H3 hx ⟨re, v6, rfl, rfl⟩
        obtain ⟨k, hk, rfl, k8, hkb⟩ := lotI_get hx
        have hkn : k < near.length := by rw [g.len]; exact SM.tb_lt hb (he k hkb)
        obtain ⟨dx, t', nl, w1, w2⟩ := ((hw.keep hs).keep hs2).ex
        exact ⟨_, rfl, _, rfl, p, C, dx, _, _, rfl, w1, T.cl, T.nN, w_near _ _ _, _, rfl, nl, _, _, _, rfl, rfl, SqL.of w2, nV_at hkn, re, _, rfl, rfl, _, _, rfl, rfl⟩
      · rintro σ H3 ⟨re, v6, rfl, rfl⟩
        refine ⟨_, rfl, _, rfl, re, bits, rfl, rfl, _, rfl, _, rfl, re &&& bits, fd, rfl, rfl, ?_⟩
        refine ⟨_, rfl, _, rfl, fd, _, rfl, rfl, ?_⟩
        have se : SM.Sub (SM.sd (re &&& bits) fd) bits := SM.Sub.trans SM.Sub.sd SM.Sub.and_right
        refine ⟨_, ?_, fd ||| SM.sd (re &&& bits) fd, SM.sd (re &&& bits) fd, _, _, rfl, hs.trans hs2, SM.or_ne f0, SM.Sub.or hf se, se, rfl⟩
        rw [if_neg e0]
        by_cases z : SM.sd (re &&& bits) fd = 0
        · rw [z, if_pos rfl, Nat.or_zero]; omega
        · rw [if_neg z]
          have := SM.edge_less (found := fd) z se (fun i hi => by
            rw [SM.tb_sd, Bool.and_eq_true] at hi
            simpa using hi.2) (Nat.lt_of_lt_of_le hb h8)
          omega
    · exact ⟨_, rfl, q fd H' hs f0 hf⟩

theorem sc_pieces : FnScope ["web", "bits", "found", "piece"] ["web", "bits"] (defScope s_pieces) := ⟨rfl, rfl, rfl, by decide +kernel, rfl, by decide +kernel, by decide +kernel⟩
theorem ok_pieces (D : DefAt K mg "pieces_within" s_pieces) (c1 : Cal P w K mg base 1 "lowest" spLow) (c2 : Cal P w K mg base 3 "piece_from" (spPiece C)) : Cal P w K mg base 4 "pieces_within" (spPieces C) := by
  refine cal_of D sc_pieces (fun _ _ _ _ _ _ us hl => match us, hl with | [_, _], _ => rfl) (fun vs H Q E h => ?_) (fun f cdv A outer s H vs Q E hr h => ?_)
  · obtain ⟨p, n, near, bits, rfl, _⟩ := h
    rfl
  · obtain ⟨p, n, near, bits, rfl, hw, g, hb, q⟩ := h
    refine ⟨_, pss_cons (ps_set (i := 2) sc_pieces.nd rfl (.inl rfl) (pe_lst pa_nil))
      (pss_cons (ps_while PassesOwn.never (pt_cmpR op_gt (pv 1) pe_int (nomark _))
        (pss_cons (ps_set (i := 3) sc_pieces.nd rfl (.inl rfl) (pe_c c2 hr (Nat.le_refl _) rfl (pa_cons (pv 0) (pa_cons (pv 1) (pa_cons (pe_c c1 hr (by decide) rfl (pa_cons (pv 1) pa_nil)) pa_nil)))))
        (pss_cons (ps_expr (pe_bm PySem.F.plainAttrs_list PySem.F.slot_list_append PySem.F.type_list_append mt_append (pv 2) (pa_cons (pv 3) pa_nil)))
        (pss_one (ps_set (i := 1) sc_pieces.nd rfl (.inl rfl) (pe_op op_sdN (pv 1) (pe_un un_inv (pv 3))))))))
      (pss_one (ps_ret (pv 2)))), ?_⟩
    have h8 := SM.le8 g.hi
    refine ⟨Nat.zero_le _, fun l hl => ?_⟩
    refine ⟨fun m σ H' => ∃ (b : Nat) (ps : List Nat) (v3 : Option V), m = SM.pc b ∧ σ = [some (.ref p), some (.int (b : Int)), some (.ref l), v3] ∧ Same H H' ∧ H' l = some (.lst (nV ps)) ∧ SM.Sub b bits ∧ (∀ x ∈ ps, x ≠ 0 ∧ SM.Sub x bits) ∧
        (∀ free, SM.psum free ps + SM.pc (b &&& free) ≤ SM.pc (bits &&& free)) ∧ ps.length + SM.pc b ≤ SM.pc bits,
      ⟨_, bits, [], none, rfl, rfl, same_new hl, upd_same, SM.Sub.refl bits, fun x hx => by simp at hx, fun free => by rw [SM.psum_nil]; omega, by simp⟩, ?_⟩
    rintro m σ H' ⟨b, ps, v3, rfl, rfl, hs, hL, sb, hps, hsum, hlen⟩
    refine ⟨_, rfl, _, _, rfl, rfl, _, rfl, ?_⟩
    refine ite2 (fun c => ?_) (fun c => ?_)
    · have b0 : 0 < b := by have := of_decide_eq_true c; omega
      have hbn : b < 2 ^ n := sb.lt hb
      have hb8 : b < 256 := Nat.lt_of_lt_of_le hbn h8
      refine ⟨fun σ' H2 => ∃ m', m' < SM.pc b ∧ ∃ (b : Nat) (ps : List Nat) (v3 : Option V), m' = SM.pc b ∧ σ' = [some (.ref p), some (.int (b : Int)), some (.ref l), v3] ∧ Same H H2 ∧ H2 l = some (.lst (nV ps)) ∧ SM.Sub b bits ∧ (∀ x ∈ ps, x ≠ 0 ∧ SM.Sub x bits) ∧
        (∀ free, SM.psum free ps + SM.pc (b &&& free) ≤ SM.pc (bits &&& free)) ∧ ps.length + SM.pc b ≤ SM.pc bits, fun _ _ h => h, ?_⟩
      refine ⟨_, rfl, _, rfl, _, rfl, b, rfl, b0, hb8, p, n, near, b, SM.low b, rfl, hw.keep hs, g, hbn, SM.low_tb hb8 b0, fun pm H2 hs2 pm0 spm => ?_⟩
      have hL2 := hs2 _ _ hL
      have p8 := SM.pc_le8 bits
      refine ⟨_, rfl, .inl ⟨rfl, _, SqL.of hL2⟩, _, rfl, l, _, _, rfl, rfl, hL2, (by rw [nV_len]; exact small1000 (by omega)), ?_⟩
      refine ⟨_, rfl, _, rfl, _, rfl, b, pm, rfl, rfl, ?_⟩
      have less := SM.sd_less pm0 spm hb8
      refine ⟨_, less, SM.sd b pm, ps ++ [pm], _, rfl, rfl, fun b' o e => ?_, ?_, SM.Sub.trans SM.Sub.sd sb, fun x hx => ?_, fun free => ?_, ?_⟩
      · rw [upd_ne (ne_of_none e hl)]; exact hs2 _ _ (hs _ _ e)
      · rw [upd_same]; unfold nV; rw [List.map_append]; rfl
      · rcases List.mem_append.mp hx with z | z
        · exact hps x z
        · rw [List.mem_singleton.mp z]; exact ⟨pm0, SM.Sub.trans spm sb⟩
      · rw [SM.psum_app]
        have := SM.psum_step spm free
        have := hsum free
        omega
      · rw [List.length_append, List.length_singleton]; omega
    · have b0 : b = 0 := by rw [decide_eq_true_eq] at c; omega
      refine ⟨_, rfl, q l ps H' hs hL hps fun free => ?_⟩
      have := hsum free
      omega

theorem sc_fork : FnScope ["web", "free", "shut", "best", "part", "here"] ["web", "free", "shut"] (defScope s_fork) := ⟨rfl, rfl, rfl, by decide +kernel, rfl, by decide +kernel, by decide +kernel⟩
theorem ok_fork (D : DefAt K mg "fork" s_fork) (T : CW K C) (B : Bi mg) (c1 : Cal P w K mg base 2 "lot_of" spLotOf) (c2 : Cal P w K mg base 3 "many_of" spMany) : Cal P w K mg base 4 "fork" (spFork C) := by
  refine cal_of D sc_fork (fun _ _ _ _ _ _ us hl => match us, hl with | [_, _, _], _ => rfl) (fun vs H Q E h => ?_) (fun f cdv A outer s H vs Q E hr h => ?_)
  · obtain ⟨p, n, near, f, s, rfl, _⟩ := h
    rfl
  · obtain ⟨p, n, near, fr, sh, rfl, hw, g, hf, hsn, h0, q⟩ := h
    refine ⟨_, pss_cons (ps_set (i := 3) sc_fork.nd rfl (.inl rfl) pe_non)
      (pss_cons (ps_for PassesOwn.never rfl (pi_tup (pe_c c1 hr (by decide) rfl (pa_cons (pe_op op_orN (pv 1) (pv 2)) pa_nil))) (pg_name (i := 4) sc_fork.nd rfl (.inl rfl))
        (pss_cons (ps_set (i := 5) sc_fork.nd rfl (.inl rfl) (pe_op op_andN (pe_op op_orN (pe_ix ix_list (pe_fld (pv 0) rfl) (pv 4) (fun _ _ => rfl)) (pe_op op_shl1 pe_int (pv 4))) (pv 1)))
        (pss_one (ps_if (PW.pt (pw_or (pt_cmpR op_isN (pv 3) pe_non (nomark _)) (pw_or1 (pt_cmpR op_lt (pe_c c2 hr (Nat.le_refl _) rfl (pa_cons (pv 5) pa_nil)) (pe_c c2 hr (Nat.le_refl _) rfl (pa_cons (pv 3) pa_nil)) (nomark _)))))
          (pss_one (ps_set (i := 3) sc_fork.nd rfl (.inl rfl) (pv 5))) pss_nil))))
      (pss_one (ps_ret (pe_callTy call_list_of (by rfl) B.list b_list (pa_cons (pe_c c1 hr (by decide) rfl (pa_cons (pv 3) pa_nil)) pa_nil))))), ?_⟩
    have h8 := SM.le8 g.hi
    have hn8 := g.hi
    have hfs : fr ||| sh < 256 := Nat.lt_of_lt_of_le (SM.or_lt hf hsn) h8
    have h28 : ∀ v, SM.here near fr v < 256 := fun v => Nat.lt_of_lt_of_le (SM.Sub.lt (SM.Sub.and_right : SM.Sub (SM.here near fr v) fr) hf) h8
    refine ⟨_, rfl, _, rfl, fr, sh, rfl, rfl, fr ||| sh, rfl, hfs, fun t H1 hs1 ht => ?_⟩
    refine ⟨t, rfl, ⟨_, SqT.of ht⟩, for_tup (xs := (SM.lotI (fr ||| sh)).map V.int) (fun i σ H2 => ∃ (bv : V) (v4 v5 : Option V), σ = [some (.ref p), some (.int (fr : Int)), some (.int (sh : Int)), some bv, v4, v5] ∧ Same H1 H2 ∧
        ((i = 0 ∧ bv = .non) ∨ ∃ best : Nat, bv = .int (best : Int) ∧ (∃ v ∈ (SM.lot (fr ||| sh)).take i, best = SM.here near fr v) ∧ ∀ u ∈ (SM.lot (fr ||| sh)).take i, SM.pc best ≤ SM.pc (SM.here near fr u)))
      ⟨.non, none, none, rfl, Same.refl _, .inl ⟨rfl, rfl⟩⟩ (fun i σ H2 _ ⟨_, _, _, _, k, _⟩ => SqT.of (k _ _ ht)) ?_ ?_⟩
    · rintro i x σ H2 hx ⟨bv, v4, v5, rfl, hs2, hbv⟩
      obtain ⟨k, hk, rfl, k8, hkb⟩ := lotI_get hx
      have hkn : k < n := SM.tb_lt (SM.or_lt hf hsn) hkb
      obtain ⟨dx, t', nl, w1, w2⟩ := ((hw.keep hs1).keep hs2).ex
      have tk : (SM.lot (fr ||| sh)).take (i + 1) = (SM.lot (fr ||| sh)).take i ++ [k] := by rw [List.take_add_one, hk]; rfl
      have memk : k ∈ (SM.lot (fr ||| sh)).take (i + 1) := by rw [tk]; exact List.mem_append_right _ (List.mem_singleton.mpr rfl)
      refine ⟨_, rfl, p, C, dx, _, _, rfl, w1, T.cl, T.nN, w_near _ _ _, _, rfl, nl, _, _, _, rfl, rfl, SqL.of w2, nV_at (by rw [g.len]; exact hkn), _, rfl, k, rfl, rfl, by omega, _, _, rfl, rfl, _, rfl, SM.nb near k ||| 2 ^ k, fr, rfl, rfl, ?_⟩
      refine ⟨_, rfl, rfl, _, rfl, ?_⟩
      rcases hbv with ⟨rfl, rfl⟩ | ⟨best, rfl, ⟨v, hv, ev⟩, hmin⟩
      · refine iteT (iteT ⟨_, rfl, ?_⟩)
        refine ⟨_, _, _, rfl, hs2, .inr ⟨SM.here near fr k, rfl, ⟨k, memk, rfl⟩, fun u hu => ?_⟩⟩
        rw [tk, List.take_zero, List.nil_append] at hu
        rw [List.mem_singleton.mp hu]; exact Nat.le_refl _
      · refine iteF ?_
        refine ⟨_, rfl, SM.here near fr k, rfl, h28 k, fun H3 hs3 => ⟨_, rfl, best, rfl, by rw [ev]; exact h28 v, fun H4 hs4 => ⟨_, _, rfl, rfl, _, rfl, ?_⟩⟩⟩
        refine ite2 (fun c => ?_) (fun c => ?_)
        · have lt := of_decide_eq_true c
          refine ⟨_, rfl, _, _, _, rfl, (hs2.trans hs3).trans hs4, .inr ⟨SM.here near fr k, rfl, ⟨k, memk, rfl⟩, fun u hu => ?_⟩⟩
          rw [tk] at hu
          rcases List.mem_append.mp hu with z | z
          · have := hmin u z
            omega
          · rw [List.mem_singleton.mp z]; exact Nat.le_refl _
        · have ge : ¬ ((SM.pc (SM.here near fr k) : Nat) : Int) < ((SM.pc best : Nat) : Int) := fun z => c (decide_eq_true z)
          refine ⟨_, _, _, rfl, (hs2.trans hs3).trans hs4, .inr ⟨best, rfl, ⟨v, by rw [tk]; exact List.mem_append_left _ hv, ev⟩, fun u hu => ?_⟩⟩
          rw [tk] at hu
          rcases List.mem_append.mp hu with z | z
          · exact hmin u z
          · rw [List.mem_singleton.mp z]; omega
    · rintro σ H2 ⟨bv, v4, v5, rfl, hs2, hbv⟩
      rw [lotI_len, List.take_length] at hbv
      rcases hbv with ⟨e, _⟩ | ⟨best, rfl, ⟨v, hv, ev⟩, hmin⟩
      · exact absurd (List.eq_nil_of_length_eq_zero e) (SM.lot_nil hfs h0)
      · refine ⟨_, rfl, best, rfl, by rw [ev]; exact h28 v, fun t3 H3 hs3 ht3 => ⟨t3, _, rfl, .inr (SqT.of ht3), fun l hl => ?_⟩⟩
        exact q l best _ ((hs1.trans hs2).trans (hs3.trans (same_new hl))) upd_same ⟨v, hv, ev, hmin⟩ (((hs1.trans hs2).trans hs3).free hl)
end
end SL
/-! the class Counter: counting the rests, never more than 2 to the number of free parts -/
namespace SL
open PySem PySem.Spec PyProof.Rows L2 SX2 SX3

abbrev s_cinit : Stmt := inClass (top 27) 0
abbrev s_of : Stmt := inClass (top 27) 1
abbrev s_ofp : Stmt := inClass (top 27) 2

section
variable {X : Cx}
theorem iop_mulN : OpR X (inplaceOp .Mult) (fun x y H Q => ∃ n m : Nat, x = .int (n : Int) ∧ y = .int (m : Int) ∧ n ≤ 256 ∧ Q (.int ((n * m : Nat) : Int)) H) := by
  intro pins s σ H x y v u Q I rx ry h
  obtain ⟨n, m, rfl, rfl, hn, q⟩ := h
  rw [Int.natCast_mul] at q
  exact iop_mul pins s σ H _ _ v u Q I rx ry ⟨_, _, rfl, rfl, .inl ⟨by omega, by omega⟩, q⟩
theorem ip_addN : PIp X .Add (fun x y H Q => ∃ n m : Nat, x = .int (n : Int) ∧ y = .int (m : Int) ∧ Q (.int ((n + m : Nat) : Int)) H) := by
  intro pins s σ H x y v u Q I rx ry h
  obtain ⟨n, m, rfl, rfl, q⟩ := h
  rw [Int.natCast_add] at q
  exact ip_add pins s σ H _ _ v u Q I rx ry ⟨_, _, rfl, rfl, q⟩
end
/-! ### what a counter remembers -/
def keyOf (f s : Nat) : List Key := [Sum.inl (f : Int), Sum.inl (s : Int)]
structure KOk (kvs : List (List Key × V)) : Prop where
  nd : (kvs.map (·.1)).Nodup
  ok : ∀ q ∈ kvs, ∃ f s z : Nat, q = (keyOf f s, V.int (z : Int)) ∧ f < 256 ∧ s < 256 ∧ z ≤ 2 ^ SM.pc f
def codeK : List Key → Nat
  | [Sum.inl a, Sum.inl b] => a.toNat * 256 + b.toNat
  | _ => 0
theorem code_of (f s : Nat) : codeK (keyOf f s) = f * 256 + s := by
  show (f : Int).toNat * 256 + (s : Int).toNat = _
  rw [Int.toNat_natCast, Int.toNat_natCast]
theorem KOk.few {kvs : List (List Key × V)} (h : KOk kvs) : kvs.length ≤ 65536 := by
  have nd : (kvs.map fun q => codeK q.1).Nodup := by
    have h1 := List.pairwise_map.mp h.nd
    refine List.pairwise_map.mpr (h1.imp_of_mem fun {a b} ha hb hne e => hne ?_)
    obtain ⟨f, s, z, ea, hf, hs, _⟩ := h.ok a ha
    obtain ⟨f', s', z', eb, hf', hs', _⟩ := h.ok b hb
    rw [ea, eb] at e
    show a.1 = b.1
    rw [ea, eb]
    replace e : codeK (keyOf f s) = codeK (keyOf f' s') := e
    rw [code_of, code_of] at e
    have e1 : f = f' := by omega
    have e2 : s = s' := by omega
    rw [e1, e2]
  have q := nat_nodup_len _ (List.range 65536) nd fun x hx => by
    obtain ⟨a, ha, rfl⟩ := List.mem_map.mp hx
    obtain ⟨f, s, z, ea, hf, hs, _⟩ := h.ok a ha
    rw [ea, List.mem_range]
    show codeK (keyOf f s) < 65536
    rw [code_of]; omega
  rw [List.length_map, List.length_range] at q
  exact q
theorem valV_memK {κ : Type} [DecidableEq κ] {kvs : List (κ × V)} {k : κ} {v : V} (h : valV kvs k = some v) : (k, v) ∈ kvs := by
  unfold valV at h
  rw [Option.map_eq_some_iff] at h
  obtain ⟨⟨a, b⟩, h1, rfl⟩ := h
  have h2 := List.find?_some h1
  have h3 : a = k := of_decide_eq_true h2
  rw [← h3]
  exact List.mem_of_find?_eq_some h1
theorem KOk.val {kvs : List (List Key × V)} (h : KOk kvs) {f s : Nat} {v : V} (e : valV kvs (keyOf f s) = some v) : ∃ z : Nat, v = .int (z : Int) ∧ z ≤ 2 ^ SM.pc f := by
  obtain ⟨f', s', z, ea, _, _, hz⟩ := h.ok _ (valV_memK e)
  have e1 := congrArg (fun q : List Key × V => codeK q.1) ea
  have e2 := congrArg (fun q : List Key × V => q.2) ea
  have e3 : keyOf f s = keyOf f' s' := congrArg (fun q : List Key × V => q.1) ea
  have e4 : (f : Int) = (f' : Int) := by
    have := (List.cons.inj e3).1
    exact Sum.inl.inj this
  have e5 : f = f' := by omega
  exact ⟨z, e2, by rw [e5]; exact hz⟩
theorem KOk.put {kvs : List (List Key × V)} (h : KOk kvs) {f s z : Nat} (hf : f < 256) (hs : s < 256) (hz : z ≤ 2 ^ SM.pc f) : KOk (putK kvs (keyOf f s) (.int (z : Int))) := by
  cases e : valV kvs (keyOf f s) with
  | none =>
    refine ⟨nd_putK _ h.nd e, fun q hq => ?_⟩
    rw [putK_new _ e] at hq
    rcases List.mem_append.mp hq with m | m
    · exact h.ok q m
    · rw [List.mem_singleton.mp m]; exact ⟨f, s, z, rfl, hf, hs, hz⟩
  | some v =>
    have ha : (kvs.any fun kv => decide (kv.1 = keyOf f s)) = true := by rw [valV_any, e]; rfl
    have ep : putK kvs (keyOf f s) (.int (z : Int)) = kvs.map fun kv => if kv.1 = keyOf f s then (kv.1, V.int (z : Int)) else kv := by
      unfold putK
      rw [if_pos ha]
    rw [ep]
    refine ⟨?_, fun q hq => ?_⟩
    · rw [List.map_map]
      have e2 : ((fun x : List Key × V => x.1) ∘ fun kv : List Key × V => if kv.1 = keyOf f s then (kv.1, V.int (z : Int)) else kv) = fun x : List Key × V => x.1 := by
        funext kv
        show (if kv.1 = keyOf f s then (kv.1, V.int (z : Int)) else kv).1 = kv.1
        split <;> rfl
      rw [e2]; exact h.nd
    · obtain ⟨kv, hk, rfl⟩ := List.mem_map.mp hq
      by_cases c : kv.1 = keyOf f s
      · rw [if_pos c, c]; exact ⟨f, s, z, rfl, hf, hs, hz⟩
      · rw [if_neg c]; exact h.ok kv hk

/-! ### counters -/
def cfs (p d : Addr) : List (Str × V) := [("web", .ref p), ("known", .ref d)]
theorem c_web (p d : Addr) : (cfs p d).lookup ("web" : Str) = some (V.ref p) := lk_eq
theorem c_known (p d : Addr) : (cfs p d).lookup ("known" : Str) = some (V.ref d) := by
  unfold cfs
  rw [lk_ne (by decide +kernel)]; exact lk_eq
theorem c_of (p d : Addr) : (cfs p d).lookup ("of" : Str) = none := by
  unfold cfs
  rw [lk_ne (by decide +kernel), lk_ne (by decide +kernel)]; rfl
theorem c_ofp (p d : Addr) : (cfs p d).lookup ("of_piece" : Str) = none := by
  unfold cfs
  rw [lk_ne (by decide +kernel), lk_ne (by decide +kernel)]; rfl
theorem c_put {x y : V} : putF "known" y [(("web" : Str), x)] = ([("web", x), ("known", y)] : List (Str × V)) := by rw [putF_ne (by decide +kernel)]; rfl
structure CtAt (CC : Addr) (H : Hp) (c p dx d : Addr) : Prop where
  at_ : H c = some (.ins CC dx (cfs p d))
  ex : ∃ kvs, H d = some (.dT kvs) ∧ KOk kvs
theorem CtAt.keep {CC : Addr} {H H' : Hp} {c p dx d : Addr} (h : CtAt CC H c p dx d) (e : Same H H') : CtAt CC H' c p dx d := by
  obtain ⟨kvs, h1, h2⟩ := h.ex
  exact ⟨e _ _ h.at_, kvs, e _ _ h1, h2⟩
theorem WebAt.smb {C CC : Addr} {H H' : Hp} {p c q dx d : Addr} {n : Nat} {near : List Nat} (h : WebAt C H p n near) (k : CtAt CC H c q dx d) (e : Smb d H H') : WebAt C H' p n near := by
  obtain ⟨dx', t, nl, h1, h2⟩ := h.ex
  obtain ⟨kvs, h3, _⟩ := k.ex
  exact ⟨dx', t, nl, e _ _ (fun z => by rw [z, h3] at h1; cases h1) h1, e _ _ (fun z => by rw [z, h3] at h2; cases h2) h2⟩
/-- what the class Counter is -/
structure CCt (K : PySem.W.Frag) (CC : Addr) : Prop where
  cl : Cls K CC
  nW : NoAttr K CC "web"
  nK : NoAttr K CC "known"

def spCInit (CC : Addr) : Sp := fun vs H Q _ => ∃ (c dx p : Addr), vs = [.ref c, .ref p] ∧ H c = some (.ins CC dx []) ∧
  ∀ (d : Addr) H', CtAt CC H' c p dx d → H d = none → (∀ b o, b ≠ c → H b = some o → H' b = some o) → Q .non H'
def spOf (C CC : Addr) (m : Nat) : Sp := fun vs H Q _ => ∃ (c p dx d : Addr) (n : Nat) (near : List Nat) (f s : Nat), vs = [.ref c, .int (f : Int), .int (s : Int)] ∧ CtAt CC H c p dx d ∧ WebAt C H p n near ∧ SM.Gr n near ∧ f < 2 ^ n ∧ s < 2 ^ n ∧ SM.pc f < m ∧
  ∀ (r : Nat) (H' : Hp), Smb d H H' → CtAt CC H' c p dx d → r ≤ 2 ^ SM.pc f → Q (.int (r : Int)) H'
def spOfP (C CC : Addr) (m : Nat) : Sp := fun vs H Q _ => ∃ (c p dx d : Addr) (n : Nat) (near : List Nat) (f s : Nat), vs = [.ref c, .int (f : Int), .int (s : Int)] ∧ CtAt CC H c p dx d ∧ WebAt C H p n near ∧ SM.Gr n near ∧ f < 2 ^ n ∧ s < 2 ^ n ∧ f ||| s ≠ 0 ∧ SM.pc f < m ∧
  ∀ (r : Nat) (H' : Hp), Smb d H H' → CtAt CC H' c p dx d → r ≤ 2 ^ SM.pc f → Q (.int (r : Int)) H'

section
variable {P : Program} {w : World} {K : PySem.W.Frag} {mg : Str → Option Value} {base : Heap} {C CC : Addr}
theorem sc_cinit : FnScope ["self", "web"] ["self", "web"] (defScope s_cinit) := ⟨rfl, rfl, rfl, by decide +kernel, rfl, by decide +kernel, by decide +kernel⟩
theorem ok_cinit (D : InitAt K mg "Counter" CC "Counter.__init__" s_cinit) (T : CCt K CC) : Mak P w K mg base 1 "Counter" CC (spCInit CC) := by
  refine mak_of D sc_cinit (fun _ _ _ _ _ _ us hl => match us, hl with | [_, _], _ => rfl) (fun vs H Q E h => ?_) (fun f cdv A outer s H vs Q E hr h => ?_)
  · obtain ⟨c, dx, p, rfl, _⟩ := h
    rfl
  · obtain ⟨c, dx, p, rfl, hc, q⟩ := h
    refine ⟨_, pss_cons (ps_fld (pv 0) (pv 1) rfl) (pss_one (ps_fld (pv 0) pe_dnewT rfl)), ?_⟩
    refine ⟨_, rfl, _, rfl, c, CC, dx, [], rfl, hc, T.cl, T.nW, (by show 0 < 1000; decide), ?_⟩
    intro d hd
    have ncd : c ≠ d := fun e => by rw [← e, upd_same] at hd; cases hd
    refine ⟨_, rfl, c, CC, dx, _, rfl, Eq.trans (upd_ne ncd) upd_same, T.cl, T.nK, (by show 1 < 1000; decide), ?_⟩
    have hd0 : H d = none := by rw [upd_ne (Ne.symm ncd)] at hd; exact hd
    refine q d _ ⟨Eq.trans upd_same (congrArg (fun l => some (HO.ins CC dx l)) c_put), [], by rw [upd_ne (Ne.symm ncd), upd_same], List.nodup_nil, fun q hq => by cases hq⟩ hd0 fun b o hb e => ?_
    rw [upd_ne hb, upd_ne (ne_of_none e hd0), upd_ne hb]; exact e

theorem sc_of : FnScope ["self", "free", "shut", "found", "piece"] ["self", "free", "shut"] (defScope s_of) := ⟨rfl, rfl, rfl, by decide +kernel, rfl, by decide +kernel, by decide +kernel⟩
theorem of_none (D : MethAt K CC "of" "Counter.of" s_of) (T : CCt K CC) : Met P w K mg base 4 CC "of" (spOf C CC 0) := by
  have no : ∀ vs H Q E, ¬ spOf C CC 0 vs H Q E := fun vs H Q E h => by
    obtain ⟨_, _, _, _, _, _, _, _, _, _, _, _, _, _, h, _⟩ := h
    omega
  exact met_of D T.cl sc_of (fun _ _ _ _ _ _ us hl => match us, hl with | [_, _, _], _ => rfl) (fun vs H Q E h => absurd h (no vs H Q E)) (fun f cdv A outer s H vs Q E hr h => absurd h (no vs H Q E))
theorem ok_of {m k : Nat} (hk : 4 ≤ k) (D : MethAt K CC "of" "Counter.of" s_of) (T : CCt K CC) (c1 : Cal P w K mg base 4 "pieces_within" (spPieces C)) (m1 : Met P w K mg base k CC "of_piece" (spOfP C CC m)) :
    Met P w K mg base (k + 1) CC "of" (spOf C CC m) := by
  refine met_of D T.cl sc_of (fun _ _ _ _ _ _ us hl => match us, hl with | [_, _, _], _ => rfl) (fun vs H Q E h => ?_) (fun f cdv A outer s H vs Q E hr h => ?_)
  · obtain ⟨c, p, dx, d, n, near, f, s, rfl, _⟩ := h
    rfl
  · obtain ⟨c, p, dx, d, n, near, fr, sh, rfl, hc, hw, g, hf, hs, hm, q⟩ := h
    refine ⟨_, pss_cons (ps_set (i := 3) sc_of.nd rfl (.inl rfl) pe_int)
      (pss_cons (ps_for PassesOwn.never rfl (pi_list (pe_c c1 hr hk rfl (pa_cons (pe_fld (pv 0) rfl) (pa_cons (pe_op op_orN (pv 1) (pv 2)) pa_nil)))) (pg_name (i := 4) sc_of.nd rfl (.inl rfl))
        (pss_cons (ps_aug (i := 3) sc_of.nd rfl (.inl rfl) (pe_mt m1 hr (Nat.le_refl _) (pv 0) (pa_cons (pe_op op_andN (pv 4) (pv 1)) (pa_cons (pe_op op_andN (pv 4) (pv 2)) pa_nil))) iop_mulN)
        (pss_one (ps_if (pt_cmpR op_eq (pv 3) pe_int (nomark _)) (pss_one (ps_ret pe_int)) pss_nil))))
      (pss_one (ps_ret (pv 3)))), ?_⟩
    have h8 := SM.le8 g.hi
    have hfs : fr ||| sh < 2 ^ n := SM.or_lt hf hs
    refine ⟨_, rfl, c, CC, dx, _, _, rfl, hc.at_, T.cl, T.nW, c_web _ _, _, rfl, _, rfl, fr, sh, rfl, rfl, p, n, near, fr ||| sh, rfl, hw, g, hfs, fun l ps H1 hs1 hl hps hsum => ?_⟩
    have hc1 := hc.keep hs1
    have hw1 := hw.keep hs1
    have e8 : 2 ^ SM.pc fr ≤ 256 := SM.two8 (SM.pc_le8 fr)
    have hsum1 : SM.psum fr ps ≤ SM.pc fr := Nat.le_trans (hsum fr) SM.Sub.and_right.pc
    have nld : l ≠ d := fun z => by
      obtain ⟨kvs, h3, _⟩ := hc1.ex
      rw [z, h3] at hl; cases hl
    refine ⟨l, rfl, ⟨_, SqL.of hl⟩, for_list (K := K) (a := l) (xs := nV ps) (fun i σ H' => ∃ (fd : Nat) (v4 : Option V), σ = [some (.ref c), some (.int (fr : Int)), some (.int (sh : Int)), some (.int (fd : Int)), v4] ∧ Smb d H1 H' ∧ CtAt CC H' c p dx d ∧ fd * 2 ^ SM.psum fr (ps.drop i) ≤ 2 ^ SM.pc fr)
      ⟨1, none, rfl, Smb.refl _ _, hc1, by rw [List.drop_zero, Nat.one_mul]; exact Nat.pow_le_pow_right (by decide) hsum1⟩ (fun i σ H' _ ⟨_, _, _, k, _⟩ => SqL.of (k _ _ nld hl)) ?_ ?_⟩
    · rintro i x σ H' hx ⟨fd, v4, rfl, k1, k2, hb⟩
      unfold nV at hx
      rw [List.getElem?_map, Option.map_eq_some_iff] at hx
      obtain ⟨pm, hpm, rfl⟩ := hx
      obtain ⟨hi, ez⟩ := List.getElem?_eq_some_iff.mp hpm
      have ed : ps.drop i = pm :: ps.drop (i + 1) := by rw [List.drop_eq_getElem_cons hi, ez]
      obtain ⟨p0, psub⟩ := hps pm (List.mem_of_getElem? hpm)
      rw [ed, SM.psum_cons] at hb
      have hw' := hw1.smb hc1 k1
      have a1 : pm &&& fr < 2 ^ n := SM.Sub.lt (SM.Sub.and_right : SM.Sub (pm &&& fr) fr) hf
      have a2 : pm &&& sh < 2 ^ n := SM.Sub.lt (SM.Sub.and_right : SM.Sub (pm &&& sh) sh) hs
      have a3 : SM.pc (pm &&& fr) ≤ SM.pc fr := (SM.Sub.and_right : SM.Sub (pm &&& fr) fr).pc
      refine ⟨_, rfl, _, rfl, c, dx, _, rfl, k2.at_, c_ofp _ _, _, rfl, _, rfl, pm, fr, rfl, rfl, _, rfl, _, rfl, pm, sh, rfl, rfl, c, p, dx, d, n, near, pm &&& fr, pm &&& sh, rfl, k2, hw', g, a1, a2, SM.piece_ne psub p0, by omega, fun r H2 k3 k4 hr2 => ?_⟩
      have fd8 : fd ≤ 256 := Nat.le_trans (Nat.le_mul_of_pos_right fd (Nat.two_pow_pos _)) (Nat.le_trans hb e8)
      refine ⟨fd, r, rfl, rfl, fd8, ?_⟩
      refine ⟨_, rfl, rfl, _, rfl, ?_⟩
      refine ite2 (fun z => ?_) (fun z => ?_)
      · exact q 0 H2 (Smb.trans (Smb.trans (Same.smb hs1) k1) k3) k4 (Nat.zero_le _)
      · exact ⟨fd * r, _, rfl, Smb.trans k1 k3, k4, SM.mul_step hr2 hb⟩
    · rintro σ H' ⟨fd, v4, rfl, k1, k2, hb⟩
      have el : ps.drop (nV ps).length = [] := List.drop_eq_nil_of_le (by rw [nV_len]; exact Nat.le_refl _)
      rw [el, SM.psum_nil, Nat.pow_zero, Nat.mul_one] at hb
      exact ⟨_, rfl, q fd H' (Smb.trans (Same.smb hs1) k1) k2 hb⟩

theorem sc_ofp : FnScope ["self", "free", "shut", "total", "left", "out", "part", "near"] ["self", "free", "shut"] (defScope s_ofp) := ⟨rfl, rfl, rfl, by decide +kernel, rfl, by decide +kernel, by decide +kernel⟩
theorem lot_rest {b i p : Nat} (h : (SM.lot b)[i]? = some p) : ∀ u ∈ (SM.lot b).drop (i + 1), u ≠ p := by
  obtain ⟨hi, ez⟩ := List.getElem?_eq_some_iff.mp h
  have nd : ((SM.lot b).drop i).Nodup := (SM.lot_nd b).sublist (List.drop_sublist i _)
  rw [List.drop_eq_getElem_cons hi, ez, List.nodup_cons] at nd
  exact fun u hu e => nd.1 (e ▸ hu)
theorem ok_ofp {m k : Nat} (hk : 4 ≤ k) (D : MethAt K CC "of_piece" "Counter.of_piece" s_ofp) (T : CCt K CC) (W : CW K C) (c1 : Cal P w K mg base 4 "fork" (spFork C)) (m1 : Met P w K mg base k CC "of" (spOf C CC m)) :
    Met P w K mg base (k + 1) CC "of_piece" (spOfP C CC (m + 1)) := by
  refine met_of D T.cl sc_ofp (fun _ _ _ _ _ _ us hl => match us, hl with | [_, _, _], _ => rfl) (fun vs H Q E h => ?_) (fun f cdv A outer s H vs Q E hr h => ?_)
  · obtain ⟨c, p, dx, d, n, near, f, s, rfl, _⟩ := h
    rfl
  · obtain ⟨c, p, dx, d, n, near, fr, sh, rfl, hc, hw, g, hf, hs, h0, hm, q⟩ := h
    have hu := hu_of hr
    refine ⟨_, pss_cons (ps_if (pt_cmp (pc_dnotin hu (pe_tup (pa_cons (pv 1) (pa_cons (pv 2) pa_nil))) (pe_fld (pv 0) rfl)))
        (pss_cons (ps_set (i := 3) sc_ofp.nd rfl (.inl rfl) pe_int)
        (pss_cons (ps_par (i := 4) (j := 5) rfl sc_ofp.nd rfl rfl (by decide) rfl rfl (pa_cons (pv 1) (pa_cons (pv 2) pa_nil)) rfl)
        (pss_cons (ps_for PassesOwn.never rfl (pi_list (pe_c c1 hr hk rfl (pa_cons (pe_fld (pv 0) rfl) (pa_cons (pv 1) (pa_cons (pv 2) pa_nil))))) (pg_name (i := 6) sc_ofp.nd rfl (.inl rfl))
          (pss_cons (ps_set (i := 7) sc_ofp.nd rfl (.inl rfl) (pe_ix ix_list (pe_fld (pe_fld (pv 0) rfl) rfl) (pv 6) (fun _ _ => rfl)))
          (pss_cons (ps_set (i := 4) sc_ofp.nd rfl (.inl rfl) (pe_op op_sdN (pv 4) (pe_un un_inv (pe_op op_shl1 pe_int (pv 6)))))
          (pss_cons (ps_aug (i := 3) sc_ofp.nd rfl (.inl rfl) (pe_mt m1 hr (Nat.le_refl _) (pv 0) (pa_cons (pe_op op_sdN (pv 4) (pe_un un_inv (pv 7))) (pa_cons (pe_op op_sdN (pv 5) (pe_un un_inv (pv 7))) pa_nil))) ip_addN)
          (pss_one (ps_set (i := 5) sc_ofp.nd rfl (.inl rfl) (pe_op op_orN (pv 5) (pe_op op_shl1 pe_int (pv 6)))))))))
        (pss_one (ps_dput hu (pe_fld (pv 0) rfl) (pe_tup (pa_cons (pv 1) (pa_cons (pv 2) pa_nil))) (pv 3) rfl))))) pss_nil)
      (pss_one (ps_ret (pe_dget hu (pe_fld (pv 0) rfl) (pe_tup (pa_cons (pv 1) (pa_cons (pv 2) pa_nil))) (fun _ _ => rfl)))), ?_⟩
    have h8 := SM.le8 g.hi
    have hn8 := g.hi
    have hf8 : fr < 256 := Nat.lt_of_lt_of_le hf h8
    have hs8 : sh < 256 := Nat.lt_of_lt_of_le hs h8
    -- what is read behind the test
    have last : ∀ (H2 : Hp), Smb d H H2 → CtAt CC H2 c p dx d → (∃ kvs z, H2 d = some (.dT kvs) ∧ KOk kvs ∧ valV kvs (keyOf fr sh) = some (.int ((z : Nat) : Int)) ∧ z ≤ 2 ^ SM.pc fr) → ∀ (v3 v4 v5 v6 v7 : Option V),
        (tDGet (tFld K (tVar 0) "known") (tTup (tCons (tVar 1) (tCons (tVar 2) tNil)))) [some (.ref c), some (.int (fr : Int)), some (.int (sh : Int)), v3, v4, v5, v6, v7] H2 Q := by
      intro H2 k1 k2 ⟨kvs, z, hd, ko, hv, hz⟩ v3 v4 v5 v6 v7
      refine ⟨_, rfl, c, CC, dx, _, _, rfl, k2.at_, T.cl, T.nK, c_known _ _, _, rfl, _, rfl, (by show 2 ≤ sizeLine; decide), fun t ht => ?_⟩
      have hd' : (upd H2 t (.tup [.int (fr : Int), .int (sh : Int)])) d = some (.dT kvs) := Eq.trans (upd_ne (ne_of_none hd ht)) hd
      have gg : DGet (upd H2 t (.tup [.int (fr : Int), .int (sh : Int)])) d (.ref t) (valV kvs (keyOf fr sh)) := DGet.t hd' upd_same
      rw [hv] at gg
      exact ⟨d, _, rfl, gg, q z _ (Smb.trans k1 (smb_new ht)) (k2.keep (same_new ht)) hz⟩
    obtain ⟨kvs, hd, ko⟩ := hc.ex
    refine ⟨_, rfl, _, rfl, (by show 2 ≤ sizeLine; decide), fun t ht => ?_⟩
    have s1 : Same H (upd H t (.tup [.int (fr : Int), .int (sh : Int)])) := same_new ht
    have hc1 := hc.keep s1
    have hw1 := hw.keep s1
    refine ⟨_, rfl, c, CC, dx, _, _, rfl, hc1.at_, T.cl, T.nK, c_known _ _, d, _, rfl, DGet.t (k := keyOf fr sh) (s1 _ _ hd) upd_same, _, rfl, ?_⟩
    cases e : valV kvs (keyOf fr sh) with
    | some v =>
      refine iteF ?_
      obtain ⟨z, rfl, hz⟩ := ko.val e
      exact last _ (Same.smb s1) hc1 ⟨kvs, z, s1 _ _ hd, ko, e, hz⟩ _ _ _ _ _
    | none =>
      refine iteT ?_
      refine ⟨_, rfl, _, rfl, _, _, rfl, ?_⟩
      refine ⟨_, rfl, c, CC, dx, _, _, rfl, hc1.at_, T.cl, T.nW, c_web _ _, _, rfl, _, rfl, p, n, near, fr, sh, rfl, hw1, g, hf, hs, h0, fun l best H1 hs1 hl fk _ => ?_⟩
      have hc2 := hc1.keep hs1
      have hw2 := hw1.keep hs1
      have nld : l ≠ d := fun z => by
        obtain ⟨kvs, h3, _⟩ := hc2.ex
        rw [z, h3] at hl; cases hl
      have bsub : SM.Sub best fr := by
        obtain ⟨v, _, e, _⟩ := fk
        rw [e]; exact SM.Sub.and_right
      refine ⟨l, rfl, ⟨_, SqL.of hl⟩, for_list (K := K) (a := l) (xs := (SM.lotI best).map V.int) (fun i σ H' => ∃ (tt lf ot : Nat) (v6 v7 : Option V), σ = [some (.ref c), some (.int (fr : Int)), some (.int (sh : Int)), some (.int (tt : Int)), some (.int (lf : Int)), some (.int (ot : Int)), v6, v7] ∧
          Smb d H1 H' ∧ CtAt CC H' c p dx d ∧ SM.Sub lf fr ∧ ot < 2 ^ n ∧ (∀ u ∈ (SM.lot best).drop i, lf.testBit u = true) ∧ tt + 2 ^ SM.pc lf ≤ 2 ^ SM.pc fr)
        ⟨0, fr, sh, none, none, rfl, Smb.refl _ _, hc2, SM.Sub.refl _, hs, fun u hu => bsub u (SM.mem_lot.mp hu).2, by omega⟩ (fun i σ H' _ ⟨_, _, _, _, _, _, k, _⟩ => SqL.of (k _ _ nld hl)) ?_ ?_⟩
      · rintro i x σ H' hx ⟨tt, lf, ot, v6, v7, rfl, k1, k2, sub, hot, hin, hb⟩
        obtain ⟨pt, hpt, rfl, pt8, hptb⟩ := lotI_get hx
        have hi := (List.getElem?_eq_some_iff.mp hpt).1
        have ed : (SM.lot best).drop i = pt :: (SM.lot best).drop (i + 1) := by rw [List.drop_eq_getElem_cons hi, (List.getElem?_eq_some_iff.mp hpt).2]
        have hlf : lf < 2 ^ n := sub.lt hf
        have htb : lf.testBit pt = true := hin pt (by rw [ed]; exact List.mem_cons_self)
        have hpn : pt < n := SM.tb_lt hlf htb
        obtain ⟨dxw, tw, nl, w1, w2⟩ := (hw2.smb hc2 k1).ex
        refine ⟨_, rfl, c, CC, dx, _, _, rfl, k2.at_, T.cl, T.nW, c_web _ _, p, C, dxw, _, _, rfl, w1, W.cl, W.nN, w_near _ _ _, _, rfl, nl, _, _, _, rfl, rfl, SqL.of w2, nV_at (by rw [g.len]; exact hpn), ?_⟩
        refine ⟨_, rfl, _, rfl, pt, rfl, rfl, by omega, _, rfl, lf, 2 ^ pt, rfl, rfl, ?_⟩
        have pd := SM.pc_del pt8 htb
        have l1 : SM.sd lf (2 ^ pt) < 2 ^ n := SM.Sub.lt SM.Sub.sd hlf
        have l2 : SM.sd (SM.sd lf (2 ^ pt)) (SM.nb near pt) < 2 ^ n := SM.Sub.lt SM.Sub.sd l1
        have l3 : SM.sd ot (SM.nb near pt) < 2 ^ n := SM.Sub.lt SM.Sub.sd hot
        have l4 : SM.pc (SM.sd (SM.sd lf (2 ^ pt)) (SM.nb near pt)) ≤ SM.pc (SM.sd lf (2 ^ pt)) := SM.Sub.sd.pc
        have l5 : SM.pc lf ≤ SM.pc fr := sub.pc
        refine ⟨_, rfl, _, rfl, c, dx, _, rfl, k2.at_, c_of _ _, _, rfl, _, rfl, _, rfl, SM.sd lf (2 ^ pt), SM.nb near pt, rfl, rfl, _, rfl, _, rfl, _, rfl, ot, SM.nb near pt, rfl, rfl, c, p, dx, d, n, near, SM.sd (SM.sd lf (2 ^ pt)) (SM.nb near pt), SM.sd ot (SM.nb near pt), rfl, k2, hw2.smb hc2 k1, g, l2, l3, by omega, fun r H2 k3 k4 hr2 => ?_⟩
        refine ⟨tt, r, rfl, rfl, ?_⟩
        refine ⟨_, rfl, _, rfl, pt, rfl, rfl, by omega, ot, 2 ^ pt, rfl, rfl, ?_⟩
        refine ⟨tt + r, SM.sd lf (2 ^ pt), ot ||| 2 ^ pt, _, _, rfl, Smb.trans k1 k3, k4, SM.Sub.trans SM.Sub.sd sub, SM.or_lt hot (Nat.pow_lt_pow_right (by decide) hpn), fun u hu => ?_, SM.add_step pd l4 hr2 hb⟩
        have hne := lot_rest hpt u hu
        rw [SM.tb_sd, Bool.and_eq_true]
        refine ⟨hin u (by rw [ed]; exact List.mem_cons_of_mem _ hu), ?_⟩
        rw [Nat.testBit_two_pow, decide_eq_false (fun z => hne z.symm)]; rfl
      · rintro σ H' ⟨tt, lf, ot, v6, v7, rfl, k1, k2, sub, hot, hin, hb⟩
        have tz : tt ≤ 2 ^ SM.pc fr := Nat.le_trans (Nat.le_add_right _ _) hb
        have k5 : Smb d H H' := Smb.trans (Smb.trans (Same.smb s1) (Same.smb hs1)) k1
        refine ⟨_, rfl, _, rfl, c, CC, dx, _, _, rfl, k2.at_, T.cl, T.nK, c_known _ _, _, rfl, _, rfl, (by show 2 ≤ sizeLine; decide), fun t2 ht2 => ?_⟩
        obtain ⟨kv2, hd2, ko2⟩ := k2.ex
        have nt2 : d ≠ t2 := ne_of_none hd2 ht2
        have ncd : c ≠ d := fun z => by
          have := k2.at_
          rw [z, hd2] at this; cases this
        refine ⟨d, _, rfl, DPut.t (k := keyOf fr sh) (Eq.trans (upd_ne nt2) hd2) upd_same (Nat.lt_of_le_of_lt ko2.few (by rw [sizeLine_eq]; decide)), ?_⟩
        have ko3 := ko2.put (f := fr) (s := sh) (z := tt) hf8 hs8 tz
        refine last _ (Smb.trans (Smb.trans k5 (smb_new ht2)) smb_upd) ⟨?_, _, upd_same, ko3⟩ ⟨_, tt, upd_same, ko3, ?_, tz⟩ _ _ _ _ _
        · rw [upd_ne ncd, upd_ne (ne_of_none k2.at_ ht2)]; exact k2.at_
        · rw [valV_put, if_pos rfl]
/-- both, for any number of free parts -/
theorem ok_both (D1 : MethAt K CC "of" "Counter.of" s_of) (D2 : MethAt K CC "of_piece" "Counter.of_piece" s_ofp) (T : CCt K CC) (W : CW K C) (c1 : Cal P w K mg base 4 "fork" (spFork C)) (c2 : Cal P w K mg base 4 "pieces_within" (spPieces C)) :
    ∀ m : Nat, Met P w K mg base (4 + 2 * m) CC "of" (spOf C CC m)
  | 0 => of_none D1 T
  | m + 1 => by
    have h1 := ok_both D1 D2 T W c1 c2 m
    have h2 := ok_ofp (m := m) (k := 4 + 2 * m) (by omega) D2 T W c1 h1
    exact ok_of (k := 4 + 2 * m + 1) (by omega) D1 T c2 h2
end
end SL
/-! the rests of a web, listed and sorted -/
namespace SL
open PySem PySem.Spec PyProof.Rows L2 SX2 SX3

abbrev s_listed : Stmt := top 28
abbrev s_within : Stmt := top 29
abbrev s_all : Stmt := top 30
abbrev s_many : Stmt := top 31
abbrev s_check : Stmt := top 32
abbrev s_rests : Stmt := top 33

theorem mm_pos : ∀ a, 1 ≤ SM.mm a
  | 0 => Nat.le_refl _ | 1 => Nat.le_refl _ | 2 => by decide | 3 => by decide | 4 => by decide | 5 => by decide | 6 => by decide | 7 => by decide | _ + 8 => by show 1 ≤ 18; decide
theorem tot_len : ∀ ws : List SM.Tri, ws.length ≤ SM.tot SM.mm ws
  | [] => Nat.zero_le _
  | t :: ws => by
    have h := tot_len ws
    have h2 := mm_pos (SM.pc t.2.1)
    have e : SM.tot SM.mm (t :: ws) = SM.mm (SM.pc t.2.1) + SM.tot SM.mm ws := by
      unfold SM.tot
      rw [List.map_cons, List.sum_cons]
    rw [List.length_cons, e]; omega
theorem few_ws {n : Nat} {near : List Nat} {ws : List SM.Tri} {found : List Nat} (h : SM.LInv n near ws found) : ws.length ≤ 18 ∧ found.length ≤ 18 := by
  have := tot_len ws
  have := h.few
  exact ⟨by omega, by omega⟩
theorem sd_zero (a : Nat) : SM.sd a 0 = a := SM.mask_ext fun i => by rw [SM.tb_sd]; simp
theorem small_sz {n : Nat} (h : n ≤ 10000) : n < sizeLine := by rw [sizeLine_eq]; omega
/-- lists of lots stay when a list is written -/
theorem lots_upd {K : PySem.W.Frag} {H : Hp} {D : Addr} {xs zs : List V} {a : Addr} {ys : List V} (hD : H D = some (.lst xs)) (h : SqT K H a ys) : SqT K (upd H D (.lst zs)) a ys := by
  rcases h with (h | ⟨o, h⟩) | h
  · exact .inl (.inl (by rw [upd_ne (fun e => by rw [e, hD] at h; cases h)]; exact h))
  · exact .inl (.inr ⟨o, by rw [upd_ne (fun e => by rw [e, hD] at h; cases h)]; exact h⟩)
  · exact .inr h

/-! ### the waiting ones -/
def triV (t : SM.Tri) : List V := [.int (t.1 : Int), .int (t.2.1 : Int), .int (t.2.2 : Int)]
structure WtAt (H : Hp) (wl : Addr) (ws : List SM.Tri) : Prop where
  ex : ∃ tk : List (Addr × SM.Tri), H wl = some (.lst (tk.map fun q => V.ref q.1)) ∧ (∀ q ∈ tk, H q.1 = some (.tup (triV q.2))) ∧ tk.map (·.2) = ws
theorem WtAt.keep {H H' : Hp} {wl : Addr} {ws : List SM.Tri} (h : WtAt H wl ws) (e : Same H H') : WtAt H' wl ws := by
  obtain ⟨tk, h1, h2, h3⟩ := h.ex
  exact ⟨tk, e _ _ h1, fun q hq => e _ _ (h2 q hq), h3⟩
/-- all but two places are as they were -/
def Sm2 (l r : Addr) (H H' : Hp) : Prop := ∀ b o, b ≠ l → b ≠ r → H b = some o → H' b = some o

def spListed (C : Addr) : Sp := fun vs H Q _ => ∃ (p : Addr) (n : Nat) (near : List Nat), vs = [.ref p, .int ((0 : Nat) : Int), .int ((2 ^ n - 1 : Nat) : Int), .int ((0 : Nat) : Int)] ∧ WebAt C H p n near ∧ SM.Gr n near ∧
  ∀ (l : Addr) (found : List Nat) (H' : Hp), Same H H' → H' l = some (.lst (nV found)) → found.Perm (SM.RL n near) → Q (.ref l) H'
def spWithin (C : Addr) : Sp := fun vs H Q _ => ∃ (p : Addr) (n : Nat) (near : List Nat), vs = [.ref p, .int ((2 ^ n - 1 : Nat) : Int), .int ((0 : Nat) : Int)] ∧ WebAt C H p n near ∧ SM.Gr n near ∧
  ∀ (l : Addr) (found : List Nat) (H' : Hp), Same H H' → H' l = some (.lst (nV found)) → found.Perm (SM.RL n near) → Q (.ref l) H'
def spRests (K : PySem.W.Frag) (C : Addr) : Sp := fun vs H Q _ => ∃ (p : Addr) (n : Nat) (near : List Nat), vs = [.ref p] ∧ WebAt C H p n near ∧ SM.Gr n near ∧
  ∀ (l : Addr) (ks : List (Addr × List Int)) (H' : Hp), Same H H' → H' l = some (.lst (refsOf ks)) → LotsAt K H' ks → SM.IsD (SM.RestP n near) (ks.map (·.2)) → ks.length ≤ 18 → Q (.ref l) H'
def spManyR (C : Addr) : Sp := fun vs H Q _ => ∃ (p : Addr) (n : Nat) (near : List Nat), vs = [.ref p] ∧ WebAt C H p n near ∧ SM.Gr n near ∧ ∀ (r : Nat) (H' : Hp), Same H H' → r ≤ 256 → Q (.int (r : Int)) H'
def spCheck : Sp := fun vs H Q _ => ∃ r : Nat, vs = [.int (r : Int)] ∧ r ≤ 2000 ∧ Q .non H

section
variable {P : Program} {w : World} {K : PySem.W.Frag} {mg : Str → Option Value} {base : Heap} {C CC : Addr}
theorem sc_listed : FnScope ["web", "chosen", "free", "shut", "waiting", "found", "part", "near"] ["web", "chosen", "free", "shut"] (defScope s_listed) := ⟨rfl, rfl, rfl, by decide +kernel, rfl, by decide +kernel, by decide +kernel⟩
theorem ok_listed (D : DefAt K mg "listed_from" s_listed) (T : CW K C) (B : Bi mg) (c1 : Cal P w K mg base 4 "fork" (spFork C)) : Cal P w K mg base 5 "listed_from" (spListed C) := by
  refine cal_of D sc_listed (fun _ _ _ _ _ _ us hl => match us, hl with | [_, _, _, _], _ => rfl) (fun vs H Q E h => ?_) (fun f cdv A outer s H vs Q E hr h => ?_)
  · obtain ⟨p, n, near, rfl, _⟩ := h
    rfl
  · obtain ⟨p, n, near, rfl, hw, g, q⟩ := h
    refine ⟨_, pss_cons (ps_set (i := 4) sc_listed.nd rfl (.inl rfl) (pe_lst (pa_cons (pe_tup (pa_cons (pv 1) (pa_cons (pv 2) (pa_cons (pv 3) pa_nil)))) pa_nil)))
      (pss_cons (ps_set (i := 5) sc_listed.nd rfl (.inl rfl) (pe_lst pa_nil))
      (pss_cons (ps_while PassesOwn.never (pt_cmpR op_gt (pe_callB call_len_seq (by rfl) B.len b_len (pa_cons (pv 4) pa_nil)) pe_int (nomark _))
        (pss_cons (ps_asg (pe_bm0 PySem.F.plainAttrs_list PySem.F.slot_list_pop PySem.F.type_list_pop mt_pop (pv 4)) (pg_tup rfl (pgs_cons (pg_name (i := 1) sc_listed.nd rfl (.inl rfl)) (pgs_cons (pg_name (i := 2) sc_listed.nd rfl (.inl rfl)) (pgs_cons (pg_name (i := 3) sc_listed.nd rfl (.inl rfl)) pgs_nil)))))
        (pss_one (ps_if (pt_cmpR op_eq (pe_op op_orN (pv 2) (pv 3)) pe_int (nomark _))
          (pss_one (ps_expr (pe_bm PySem.F.plainAttrs_list PySem.F.slot_list_append PySem.F.type_list_append mt_append (pv 5) (pa_cons (pv 1) pa_nil))))
          (pss_one (ps_for PassesOwn.never rfl (pi_list (pe_c c1 hr (Nat.le_refl _) rfl (pa_cons (pv 0) (pa_cons (pv 2) (pa_cons (pv 3) pa_nil))))) (pg_name (i := 6) sc_listed.nd rfl (.inl rfl))
            (pss_cons (ps_set (i := 7) sc_listed.nd rfl (.inl rfl) (pe_ix ix_list (pe_fld (pv 0) rfl) (pv 6) (fun _ _ => rfl)))
            (pss_cons (ps_set (i := 2) sc_listed.nd rfl (.inl rfl) (pe_op op_sdN (pv 2) (pe_un un_inv (pe_op op_shl1 pe_int (pv 6)))))
            (pss_cons (ps_expr (pe_bm PySem.F.plainAttrs_list PySem.F.slot_list_append PySem.F.type_list_append mt_append (pv 4) (pa_cons (pe_tup (pa_cons (pe_op op_orN (pv 1) (pe_op op_shl1 pe_int (pv 6))) (pa_cons (pe_op op_sdN (pv 2) (pe_un un_inv (pv 7))) (pa_cons (pe_op op_sdN (pv 3) (pe_un un_inv (pv 7))) pa_nil)))) pa_nil)))
            (pss_one (ps_set (i := 3) sc_listed.nd rfl (.inl rfl) (pe_op op_orN (pv 3) (pe_op op_shl1 pe_int (pv 6))))))))))))))
      (pss_one (ps_ret (pv 5))))), ?_⟩
    have h8 := SM.le8 g.hi
    have hn8 := g.hi
    refine ⟨_, rfl, _, rfl, _, rfl, (by show 3 ≤ sizeLine; decide), fun t0 ht0 => ⟨(by show 1 ≤ sizeLine; decide), fun wl hwl => ?_⟩⟩
    refine ⟨Nat.zero_le _, fun fl hfl => ?_⟩
    have nwf : wl ≠ fl := fun e => by rw [e, upd_same] at hfl; cases hfl
    have ntw : t0 ≠ wl := fun e => by rw [e, upd_same] at hwl; cases hwl
    have hwlH : H wl = none := by rw [upd_ne (Ne.symm ntw)] at hwl; exact hwl
    have hflH : H fl = none := by
      have e1 : fl ≠ wl := Ne.symm nwf
      have e2 : fl ≠ t0 := fun e => by rw [e, upd_ne ntw, upd_same] at hfl; cases hfl
      rw [upd_ne e1, upd_ne e2] at hfl; exact hfl
    have st0 : t0 ≠ fl := fun e => by rw [← e, upd_ne ntw, upd_same] at hfl; cases hfl
    refine ⟨fun m σ H' => ∃ (ws : List SM.Tri) (found : List Nat) (v1 v2 v3 v6 v7 : Option V), m = SM.tot (3 ^ ·) ws ∧ σ = [some (.ref p), v1, v2, v3, some (.ref wl), some (.ref fl), v6, v7] ∧ Same H H' ∧ WtAt H' wl ws ∧ H' fl = some (.lst (nV found)) ∧ SM.LInv n near ws found,
      ⟨_, _, [], _, _, _, none, none, rfl, rfl, fun b o e => ?_, ⟨[(t0, 0, 2 ^ n - 1, 0)], ?_, fun q hq => ?_, rfl⟩, upd_same, SM.LInv.init g⟩, ?_⟩
    · rw [upd_ne (ne_of_none e hflH), upd_ne (ne_of_none e hwlH), upd_ne (ne_of_none e ht0)]; exact e
    · rw [upd_ne nwf]; exact upd_same
    · rw [List.mem_singleton.mp hq, upd_ne st0, upd_ne ntw]; exact upd_same
    rintro m σ H' ⟨ws, found, v1, v2, v3, v6, v7, rfl, rfl, hs, hwt, hfd, inv⟩
    obtain ⟨tk, t1, t2, t3⟩ := hwt.ex
    refine ⟨_, rfl, wl, _, rfl, .inl (SqL.of t1), _, _, rfl, rfl, _, rfl, ?_⟩
    refine ite2 (fun cnd => ?_) (fun cnd => ?_)
    · have hne : tk ≠ [] := fun e => by
        have := of_decide_eq_true cnd
        rw [e] at this
        simp at this
      obtain ⟨tk0, ⟨a, c, f', s'⟩, rfl⟩ : ∃ tk0 x, tk = tk0 ++ [x] := ⟨_, _, (List.dropLast_concat_getLast hne).symm⟩
      rw [List.map_append] at t3
      replace t3 : tk0.map (·.2) ++ [(c, f', s')] = ws := t3
      subst t3
      refine ⟨fun σ' H2 => ∃ m', m' < SM.tot (3 ^ ·) (tk0.map (·.2) ++ [(c, f', s')]) ∧ ∃ (ws : List SM.Tri) (found : List Nat) (v1 v2 v3 v6 v7 : Option V), m' = SM.tot (3 ^ ·) ws ∧ σ' = [some (.ref p), v1, v2, v3, some (.ref wl), some (.ref fl), v6, v7] ∧ Same H H2 ∧ WtAt H2 wl ws ∧ H2 fl = some (.lst (nV found)) ∧ SM.LInv n near ws found, fun _ _ h => h, ?_⟩
      have ea := t2 (a, c, f', s') (List.mem_append_right _ (List.mem_singleton.mpr rfl))
      have ok := inv.ok (c, f', s') (List.mem_append_right _ (List.mem_singleton.mpr rfl))
      replace ea : H' a = some (.tup (triV (c, f', s'))) := ea
      have naw : a ≠ wl := fun e => by rw [e, t1] at ea; cases ea
      have ew : (tk0 ++ [(a, c, f', s')]).map (fun q => V.ref q.1) = tk0.map (fun q => V.ref q.1) ++ [V.ref a] := by rw [List.map_append]; rfl
      rw [ew] at t1
      refine ⟨_, rfl, .inl ⟨rfl, _, SqL.of t1⟩, wl, _, .ref a, rfl, rfl, t1, by simp, ?_⟩
      rw [List.dropLast_concat]
      have hw1 : ∀ b o, b ≠ wl → H' b = some o → (upd H' wl (.lst (tk0.map fun q => V.ref q.1))) b = some o := fun b o e h => by rw [upd_ne e]; exact h
      have s1 : Same H (upd H' wl (.lst (tk0.map fun q => V.ref q.1))) := fun b o e => by rw [upd_ne (ne_of_none e hwlH)]; exact hs _ _ e
      have hwt1 : WtAt (upd H' wl (.lst (tk0.map fun q => V.ref q.1))) wl (tk0.map (·.2)) := ⟨tk0, upd_same, fun q hq => hw1 _ _ (fun e => by
        have := t2 q (List.mem_append_left _ hq)
        rw [e, t1] at this; cases this) (t2 q (List.mem_append_left _ hq)), rfl⟩
      have hfd1 : (upd H' wl (.lst (tk0.map fun q => V.ref q.1))) fl = some (.lst (nV found)) := by rw [upd_ne (Ne.symm nwf)]; exact hfd
      refine ⟨a, _, rfl, SqT.of (hw1 _ _ naw ea), rfl, _, _, rfl, _, _, rfl, _, _, rfl, rfl, ?_⟩
      refine ⟨_, rfl, _, rfl, f', s', rfl, rfl, rfl, _, rfl, ?_⟩
      obtain ⟨len1, len2⟩ := few_ws inv
      refine ite2 (fun z => ?_) (fun z => ?_)
      · have z0 : f' ||| s' = 0 := by
          have e1 := of_decide_eq_true z
          have e2 : (((f' ||| s' : Nat)) : Int) = 0 := V.int.inj e1
          omega
        refine ⟨_, rfl, .inl ⟨rfl, _, SqL.of hfd1⟩, _, rfl, fl, _, _, rfl, rfl, hfd1, by rw [nV_len]; exact small_sz (by omega), ?_⟩
        refine ⟨_, SM.leaf_tot, tk0.map (·.2), found ++ [c], _, _, _, _, _, rfl, rfl, fun b o e => ?_, ?_, ?_, SM.LInv.leaf g inv z0⟩
        · rw [upd_ne (ne_of_none e hflH)]; exact s1 _ _ e
        · obtain ⟨tk', u1, u2, u3⟩ := hwt1.ex
          exact ⟨tk', by rw [upd_ne nwf]; exact u1, fun q hq => by
            rw [upd_ne (fun e => by have := u2 q hq; rw [e, hfd1] at this; cases this)]; exact u2 q hq, u3⟩
        · rw [upd_same]; unfold nV; rw [List.map_append]; rfl
      · have z0 : f' ||| s' ≠ 0 := fun e => z (by
          rw [decide_eq_true_eq, e]; rfl)
        refine ⟨_, rfl, _, rfl, _, rfl, p, n, near, f', s', rfl, hw.keep s1, g, ok.fl, ok.sl, z0, fun l best H2 hs2 hl fk hnew => ?_⟩
        obtain ⟨nd1, nd2⟩ := SM.LInv.node g inv fk
        obtain ⟨len3, _⟩ := few_ws nd1
        have hwt2 := hwt1.keep hs2
        have hfd2 := hs2 _ _ hfd1
        have nlw : l ≠ wl := fun e => by
          rw [e, upd_same] at hnew; cases hnew
        refine ⟨l, rfl, ⟨_, SqL.of hl⟩, for_list (K := K) (a := l) (xs := (SM.lotI best).map V.int) (fun i σ H3 => ∃ (fi si : Nat) (pu : List SM.Tri) (v6 v7 : Option V), σ = [some (.ref p), some (.int (c : Int)), some (.int (fi : Int)), some (.int (si : Int)), some (.ref wl), some (.ref fl), v6, v7] ∧
            (∀ b o, b ≠ wl → H2 b = some o → H3 b = some o) ∧ WtAt H3 wl (tk0.map (·.2) ++ pu) ∧ pu ++ SM.kids near c fi si ((SM.lot best).drop i) = SM.kids near c f' s' (SM.lot best))
          ⟨f', s', [], _, _, rfl, fun _ _ _ h => h, by rw [List.append_nil]; exact hwt2, rfl⟩ (fun i σ H3 _ ⟨_, _, _, _, _, _, k, _⟩ => SqL.of (k _ _ nlw hl)) ?_ ?_⟩
        · rintro i x σ H3 hx ⟨fi, si, pu, v6, v7, rfl, k1, k2, k3⟩
          obtain ⟨pt, hpt, rfl, pt8, hptb⟩ := lotI_get hx
          obtain ⟨hi, ez⟩ := List.getElem?_eq_some_iff.mp hpt
          have bsub : SM.Sub best f' := by
            obtain ⟨v, _, e, _⟩ := fk
            rw [e]; exact SM.Sub.and_right
          have hpn : pt < n := SM.tb_lt ok.fl (bsub pt hptb)
          rw [List.drop_eq_getElem_cons hi, ez] at k3
          replace k3 : pu ++ ((c ||| 2 ^ pt, SM.sd (SM.sd fi (2 ^ pt)) (SM.nb near pt), SM.sd si (SM.nb near pt)) :: SM.kids near c (SM.sd fi (2 ^ pt)) (si ||| 2 ^ pt) ((SM.lot best).drop (i + 1))) = SM.kids near c f' s' (SM.lot best) := k3
          have s3 : Same H H3 := fun b o e => k1 _ _ (ne_of_none e hwlH) (hs2 _ _ (s1 _ _ e))
          obtain ⟨dxw, tw, nl, w1, w2⟩ := (hw.keep s3).ex
          obtain ⟨tk', u1, u2, u3⟩ := k2.ex
          have ltk : tk'.length < 10000 := by
            have e1 : tk'.length = (tk0.map (·.2) ++ pu).length := by rw [← u3, List.length_map]
            have e2 : pu.length ≤ (SM.kids near c f' s' (SM.lot best)).length := by rw [← k3, List.length_append]; exact Nat.le_add_right _ _
            rw [List.length_append] at e1 len3
            omega
          refine ⟨_, rfl, p, C, dxw, _, _, rfl, w1, T.cl, T.nN, w_near _ _ _, _, rfl, nl, _, _, _, rfl, rfl, SqL.of w2, nV_at (by rw [g.len]; exact hpn), ?_⟩
          refine ⟨_, rfl, _, rfl, pt, rfl, rfl, by omega, _, rfl, fi, 2 ^ pt, rfl, rfl, ?_⟩
          refine ⟨_, rfl, .inl ⟨rfl, _, SqL.of u1⟩, _, rfl, _, rfl, pt, rfl, rfl, by omega, c, 2 ^ pt, rfl, rfl, _, rfl, _, rfl, _, rfl, SM.sd fi (2 ^ pt), SM.nb near pt, rfl, rfl, _, rfl, _, rfl, _, rfl, si, SM.nb near pt, rfl, rfl, (by show 3 ≤ sizeLine; decide), fun t ht => ?_⟩
          have nwt : wl ≠ t := ne_of_none u1 ht
          refine ⟨wl, _, _, rfl, rfl, Eq.trans (upd_ne nwt) u1, (by rw [List.length_map]; exact small_sz (by omega)), ?_⟩
          refine ⟨_, rfl, _, rfl, pt, rfl, rfl, by omega, si, 2 ^ pt, rfl, rfl, ?_⟩
          refine ⟨_, _, pu ++ [(c ||| 2 ^ pt, SM.sd (SM.sd fi (2 ^ pt)) (SM.nb near pt), SM.sd si (SM.nb near pt))], _, _, rfl, fun b o hb e => ?_, ⟨tk' ++ [(t, (c ||| 2 ^ pt, SM.sd (SM.sd fi (2 ^ pt)) (SM.nb near pt), SM.sd si (SM.nb near pt)))], ?_, fun q hq => ?_, ?_⟩, ?_⟩
          · have e3 := k1 b o hb e
            rw [upd_ne hb, upd_ne (ne_of_none e3 ht)]; exact e3
          · rw [upd_same, List.map_append]; rfl
          · rcases List.mem_append.mp hq with z1 | z1
            · have e3 := u2 q z1
              have nq : q.1 ≠ wl := fun e => by rw [e, u1] at e3; cases e3
              rw [upd_ne nq, upd_ne (ne_of_none e3 ht)]; exact e3
            · rw [List.mem_singleton.mp z1]
              show (upd _ wl _) t = _
              rw [upd_ne (Ne.symm nwt), upd_same]; rfl
          · rw [List.map_append, u3, List.append_assoc]; rfl
          · rw [List.append_assoc]; exact k3
        · rintro σ H3 ⟨fi, si, pu, v6, v7, rfl, k1, k2, k3⟩
          have e0 : (SM.lot best).drop ((SM.lotI best).map V.int).length = [] := List.drop_eq_nil_of_le (by rw [lotI_len]; exact Nat.le_refl _)
          rw [e0] at k3
          replace k3 : pu ++ [] = _ := k3
          rw [List.append_nil] at k3
          subst k3
          exact ⟨_, nd2, _, found, _, _, _, _, _, rfl, rfl, fun b o e => k1 _ _ (ne_of_none e hwlH) (hs2 _ _ (s1 _ _ e)), k2, k1 _ _ (Ne.symm nwf) hfd2, nd1⟩
    · have e0 : tk = [] := by
        cases tk with
        | nil => rfl
        | cons x r => exact absurd (decide_eq_true (by rw [List.map_cons, List.length_cons]; omega)) cnd
      subst e0
      replace t3 : [] = ws := t3
      subst t3
      exact ⟨_, rfl, q fl found H' hs hfd (SM.LInv.perm g inv)⟩

theorem sc_within : FnScope ["web", "free", "keep", "out"] ["web", "free", "keep"] (defScope s_within) := ⟨rfl, rfl, rfl, by decide +kernel, rfl, by decide +kernel, by decide +kernel⟩
theorem ok_within (D : DefAt K mg "rests_within" s_within) (c1 : Cal P w K mg base 3 "silenced" (spSil C)) (c2 : Cal P w K mg base 5 "listed_from" (spListed C)) : Cal P w K mg base 6 "rests_within" (spWithin C) := by
  refine cal_of D sc_within (fun _ _ _ _ _ _ us hl => match us, hl with | [_, _, _], _ => rfl) (fun vs H Q E h => ?_) (fun f cdv A outer s H vs Q E hr h => ?_)
  · obtain ⟨p, n, near, rfl, _⟩ := h
    rfl
  · obtain ⟨p, n, near, rfl, hw, g, q⟩ := h
    refine ⟨_, pss_cons (ps_set (i := 3) sc_within.nd rfl (.inl rfl) (pe_c c1 hr (by decide) rfl (pa_cons (pv 0) (pa_cons (pv 2) pa_nil))))
      (pss_cons (ps_if (pt_cmpR op_gt (pe_op op_andN (pv 3) (pv 2)) pe_int (nomark _)) (pss_one (ps_ret (pe_lst pa_nil))) pss_nil)
      (pss_one (ps_ret (pe_c c2 hr (Nat.le_refl _) rfl (pa_cons (pv 0) (pa_cons (pv 2) (pa_cons (pe_op op_sdN (pe_op op_sdN (pv 1) (pe_un un_inv (pv 2))) (pe_un un_inv (pv 3))) (pa_cons pe_int pa_nil)))))))), ?_⟩
    refine ⟨_, rfl, _, rfl, p, rfl, fun H1 hs1 => ?_⟩
    refine ⟨_, rfl, _, rfl, 0, 0, rfl, rfl, _, _, rfl, rfl, _, rfl, ?_⟩
    refine iteFe (by decide) ?_
    refine ⟨_, rfl, _, rfl, _, rfl, _, rfl, _, rfl, 2 ^ n - 1, 0, rfl, rfl, _, rfl, _, rfl, SM.sd (2 ^ n - 1) 0, 0, rfl, rfl, ?_⟩
    refine ⟨p, n, near, by rw [sd_zero, sd_zero]; rfl, hw.keep hs1, g, fun l found H2 hs2 hl hp => q l found H2 (hs1.trans hs2) hl hp⟩

theorem sc_all : FnScope ["web", "bits"] ["web"] (defScope s_all) := ⟨rfl, rfl, rfl, by decide +kernel, rfl, by decide +kernel, by decide +kernel⟩
theorem ok_all (D : DefAt K mg "all_rests" s_all) (T : CW K C) (B : Bi mg) (c1 : Cal P w K mg base 2 "lot_of" spLotOf) (c2 : Cal P w K mg base 6 "rests_within" (spWithin C)) : Cal P w K mg base 7 "all_rests" (spRests K C) := by
  refine cal_of D sc_all (fun _ _ _ _ _ _ us hl => match us, hl with | [_], _ => rfl) (fun vs H Q E h => ?_) (fun f cdv A outer s H vs Q E hr h => ?_)
  · obtain ⟨p, n, near, rfl, _⟩ := h
    rfl
  · obtain ⟨p, n, near, rfl, hw, g, q⟩ := h
    refine ⟨_, pss_one (ps_ret (pe_callB (cr_sortL hr.units) (by rfl) B.sorted b_sorted (pa_cons
      (pe_lc (own := [("bits", 1)]) (g := gName 1) (tt := tYes) rfl sc_all.nd (pi_list (pe_c c2 hr (Nat.le_refl _) rfl (pa_cons (pv 0) (pa_cons (pe_fld (pv 0) rfl) (pa_cons pe_int pa_nil))))) (blkOk_by (N := ["web", "bits"]) (sc := defScope s_all) (by decide +kernel))
        (fun _ _ _ _ _ => pg_name (i := 1) sc_all.nd rfl (Or.inl rfl)) (fun _ _ _ _ _ => pts_nil)
        (fun _ _ _ _ _ => pe_c c1 hr (by decide) rfl (pa_cons (pv 1) pa_nil))) pa_nil))), ?_⟩
    obtain ⟨dx, t, nl, w1, w2⟩ := id hw.ex
    refine ⟨_, rfl, _, rfl, p, C, dx, _, _, rfl, w1, T.cl, T.nW, w_whole _ _ _, p, n, near, rfl, hw, g, fun l found H1 hs1 hl hp => ?_⟩
    have fb : ∀ b ∈ found, b < 256 := fun b hb => Nat.lt_of_lt_of_le ((SM.mem_RL g).mp (hp.mem_iff.mp hb)).1 (SM.le8 g.hi)
    have fl : found.length ≤ 18 := by rw [hp.length_eq]; exact SM.RL_few g
    refine ⟨l, rfl, ⟨_, SqL.of hl⟩, fun D hD => ?_⟩
    refine lc_list (K := K) (a := l) (xs := nV found) (fun i H' => ∃ ks : List (Addr × List Int), Same H1 H' ∧ H' D = some (.lst (refsOf ks)) ∧ LotsAt K H' ks ∧ ks.map (·.2) = (found.take i).map SM.lotI)
      ⟨[], same_new hD, upd_same, fun q hq => (by cases hq), rfl⟩ (fun i H' _ ⟨_, k, _⟩ => SqL.of (k _ _ hl)) ?_ ?_
    · rintro i x H' hx ⟨ks, k1, k2, k3, k4⟩
      unfold nV at hx
      rw [List.getElem?_map, Option.map_eq_some_iff] at hx
      obtain ⟨b, hb, rfl⟩ := hx
      refine ⟨rfl, ?_⟩
      refine ⟨_, rfl, b, rfl, fb b (List.mem_of_getElem? hb), fun t H2 hs2 ht => ?_⟩
      have kl : ks.length ≤ 18 := by
        have := congrArg List.length k4
        rw [List.length_map, List.length_map, List.length_take] at this
        omega
      have k2' := hs2 _ _ k2
      refine ⟨_, k2', by rw [List.length_map]; exact small_sz (by omega), ks ++ [(t, SM.lotI b)], fun b o e => ?_, ?_, fun q hq => ?_, ?_⟩
      · rw [upd_ne (ne_of_none e hD)]; exact hs2 _ _ (k1 _ _ e)
      · rw [upd_same]; unfold refsOf; rw [List.map_append]; rfl
      · rcases List.mem_append.mp hq with z | z
        · exact lots_upd k2' (same_tup hs2 (k3 q z))
        · rw [List.mem_singleton.mp z]; exact lots_upd k2' (SqT.of ht)
      · rw [List.map_append, k4, List.take_add_one, hb, List.map_append]; rfl
    · rintro H' ⟨ks, k1, k2, k3, k4⟩
      have e : found.take (nV found).length = found := List.take_of_length_le (by rw [nV_len]; exact Nat.le_refl _)
      rw [e] at k4
      refine ⟨D, ks, rfl, SqL.of k2, k3, fun ks' r pm pw hr' => ?_⟩
      have pm2 : (ks'.map (·.2)).Perm (found.map SM.lotI) := by rw [← k4]; exact pm.map _
      refine q r ks' _ ((hs1.trans k1).trans (same_new hr')) upd_same (same_lots (same_new hr') fun q hq => k3 q (pm.mem_iff.mp hq)) ⟨SM.asc_of (List.pairwise_map.mpr pw) (pm2.nodup_iff.mpr (SM.lots_nd g hp)), fun x => pm2.mem_iff.trans (SM.RestP_mem g hp x)⟩ ?_
      have e2 := pm2.length_eq
      rw [List.length_map, List.length_map] at e2
      omega

theorem sc_many : FnScope ["web"] ["web"] (defScope s_many) := ⟨rfl, rfl, rfl, by decide +kernel, rfl, by decide +kernel, by decide +kernel⟩
theorem ok_many (D : DefAt K mg "many_rests" s_many) (T : CW K C) (m1 : Mak P w K mg base 1 "Counter" CC (spCInit CC)) (m2 : Met P w K mg base 22 CC "of" (spOf C CC 9)) : Cal P w K mg base 23 "many_rests" (spManyR C) := by
  refine cal_of D sc_many (fun _ _ _ _ _ _ us hl => match us, hl with | [_], _ => rfl) (fun vs H Q E h => ?_) (fun f cdv A outer s H vs Q E hr h => ?_)
  · obtain ⟨p, n, near, rfl, _⟩ := h
    rfl
  · obtain ⟨p, n, near, rfl, hw, g, q⟩ := h
    refine ⟨_, pss_one (ps_ret (pe_mt m2 hr (Nat.le_refl _) (pe_mk m1 hr (by decide) rfl (pa_cons (pv 0) pa_nil)) (pa_cons (pe_fld (pv 0) rfl) (pa_cons pe_int pa_nil)))), ?_⟩
    refine ⟨_, rfl, fun c dx hc hdx hne => ?_⟩
    refine ⟨c, dx, p, rfl, upd_same, fun d H1 hct hd k => ⟨rfl, ?_⟩⟩
    have s0 : Same H (upd (upd H dx (.own c)) c (.ins CC dx [])) := fun b o e => by rw [upd_ne (ne_of_none e hc), upd_ne (ne_of_none e hdx)]; exact e
    have s1 : Same H H1 := fun b o e => k b o (ne_of_none e hc) (s0 b o e)
    have hdH : H d = none := s0.free hd
    obtain ⟨dw, t, nl, w1, w2⟩ := (hw.keep s1).ex
    have lt : 2 ^ n - 1 < 2 ^ n := Nat.sub_lt (Nat.two_pow_pos n) (by decide)
    refine ⟨c, dx, _, rfl, hct.at_, c_of _ _, _, rfl, p, C, dw, _, _, rfl, w1, T.cl, T.nW, w_whole _ _ _, c, p, dx, d, n, near, 2 ^ n - 1, 0, rfl, hct, hw.keep s1, g, lt, Nat.two_pow_pos n, Nat.lt_succ_of_le (SM.pc_le8 _), fun r H2 k2 k3 hr2 => ?_⟩
    exact q r H2 (fun b o e => k2 b o (ne_of_none e hdH) (s1 b o e)) (Nat.le_trans hr2 (SM.two8 (SM.pc_le8 _)))

theorem sc_check : FnScope ["number"] ["number"] (defScope s_check) := ⟨rfl, rfl, rfl, by decide +kernel, rfl, by decide +kernel, by decide +kernel⟩
theorem ok_check (D : DefAt K mg "check_listed" s_check) (mP : ∃ t, mg "MOST_LISTED" = some (.int 2000 t)) : Cal P w K mg base 1 "check_listed" spCheck := by
  refine cal_of D sc_check (fun _ _ _ _ _ _ us hl => match us, hl with | [_], _ => rfl) (fun vs H Q E h => ?_) (fun f cdv A outer s H vs Q E hr h => ?_)
  · obtain ⟨r, rfl, _⟩ := h
    rfl
  · obtain ⟨r, rfl, hr2, q⟩ := h
    obtain ⟨tP, mP⟩ := mP
    refine ⟨_, pss_one (ps_if (pt_cmpR op_gt (pv 0) (pe_glob (v := .int 2000) rfl mP ⟨_, rfl⟩) (nomark _)) (pss_one ps_never) pss_nil), ?_⟩
    refine ⟨_, rfl, _, _, rfl, rfl, _, rfl, ?_⟩
    exact iteFe (decide_eq_false (by omega)) q

theorem sc_rests : FnScope ["web"] ["web"] (defScope s_rests) := ⟨rfl, rfl, rfl, by decide +kernel, rfl, by decide +kernel, by decide +kernel⟩
theorem ok_rests (D : DefAt K mg "rests" s_rests) (c1 : Cal P w K mg base 1 "check_listed" spCheck) (c2 : Cal P w K mg base 23 "many_rests" (spManyR C)) (c3 : Cal P w K mg base 7 "all_rests" (spRests K C)) : Cal P w K mg base 24 "rests" (spRests K C) := by
  refine cal_of D sc_rests (fun _ _ _ _ _ _ us hl => match us, hl with | [_], _ => rfl) (fun vs H Q E h => ?_) (fun f cdv A outer s H vs Q E hr h => ?_)
  · obtain ⟨p, n, near, rfl, _⟩ := h
    rfl
  · obtain ⟨p, n, near, rfl, hw, g, q⟩ := h
    refine ⟨_, pss_cons (ps_expr (pe_c c1 hr (by decide) rfl (pa_cons (pe_c c2 hr (Nat.le_refl _) rfl (pa_cons (pv 0) pa_nil)) pa_nil)))
      (pss_one (ps_ret (pe_c c3 hr (by decide) rfl (pa_cons (pv 0) pa_nil)))), ?_⟩
    refine ⟨_, rfl, p, n, near, rfl, hw, g, fun r H1 hs1 hr2 => ⟨r, rfl, by omega, ?_⟩⟩
    exact ⟨_, rfl, p, n, near, rfl, hw.keep hs1, g, fun l ks H2 hs2 hl hk hd hf => q l ks H2 (hs1.trans hs2) hl hk hd hf⟩
end
end SL
/-! the class List and what is shown -/
namespace SL
open PySem PySem.Spec PyProof.Rows L2 SX2 SX3

abbrev s_linit : Stmt := inClass (top 37) 0
abbrev s_leq : Stmt := inClass (top 37) 1
abbrev s_listof : Stmt := top 38
abbrev s_placed : Stmt := top 39
abbrev s_seen : Stmt := top 40
abbrev s_shownl : Stmt := top 41
abbrev s_shown : Stmt := top 42
abbrev s_issh : Stmt := top 43

/-! ### tuples of tuples of intl as data -/
def lotD (x : List Int) : PyData := .tuple (x.map PyData.int)
def lotsD (D : List (List Int)) : PyData := .tuple (D.map lotD)
theorem int_lay : ∀ x : List Int, PyData.canLayAll0 (x.map PyData.int) = true
  | [] => by simp [PyData.canLayAll0]
  | z :: zs => by simp [PyData.canLayAll0, PyData.canLay0, int_lay zs]
theorem int_depth : ∀ x : List Int, PyData.depthAll (x.map PyData.int) ≤ 1
  | [] => by simp [PyData.depthAll]
  | z :: zs => by
    have h1 := int_depth zs
    simp only [List.map_cons, PyData.depthAll, PyData.depth]
    omega
theorem lot_lay (x : List Int) : (lotD x).canLay0 = true := by simp only [lotD, PyData.canLay0]; exact int_lay x
theorem lot_depth (x : List Int) : (lotD x).depth ≤ 2 := by
  have := int_depth x
  simp only [lotD, PyData.depth]
  omega
theorem lots_lay : ∀ D : List (List Int), PyData.canLayAll0 (D.map lotD) = true
  | [] => by simp [PyData.canLayAll0]
  | z :: zs => by simp [PyData.canLayAll0, lot_lay z, lots_lay zs]
theorem lots_depth : ∀ D : List (List Int), PyData.depthAll (D.map lotD) ≤ 2
  | [] => by simp [PyData.depthAll]
  | z :: zs => by
    have h1 := lots_depth zs
    have h2 := lot_depth z
    simp only [List.map_cons, PyData.depthAll]
    omega
theorem lotsD_depth (D : List (List Int)) : (lotsD D).depth ≤ 3 := by
  have := lots_depth D
  simp only [lotsD, PyData.depth]
  omega
theorem lotsD_lay (D : List (List Int)) : (lotsD D).canLay0 = true := by simp only [lotsD, PyData.canLay0]; exact lots_lay D
theorem shaped_of {d : PyData} (h1 : d.canLay0 = true) (h2 : d.depth ≤ 64) : SeqAt.shaped d = true := by
  show (d.canLay0 && decide (d.depth ≤ 64)) = true
  rw [Bool.and_eq_true]
  exact ⟨h1, decide_eq_true h2⟩
theorem lotsD_shaped (D : List (List Int)) : SeqAt.shaped (lotsD D) = true := shaped_of (lotsD_lay D) (by have := lotsD_depth D; omega)
theorem int_eqv : ∀ x y : List Int, PyData.eqvAll (x.map PyData.int) (y.map PyData.int) = decide (x = y)
  | [], [] => by simp [PyData.eqvAll]
  | [], b :: y => by simp [PyData.eqvAll]
  | a :: x, [] => by simp [PyData.eqvAll]
  | a :: x, b :: y => by
    have ih := int_eqv x y
    simp only [List.map_cons, PyData.eqvAll, PyData.eqv, ih]
    by_cases h : a = b
    · by_cases h2 : x = y
      · simp [h, h2]
      · simp [h, h2]
    · simp [h]
theorem lots_eqv : ∀ D E : List (List Int), PyData.eqvAll (D.map lotD) (E.map lotD) = decide (D = E)
  | [], [] => by simp [PyData.eqvAll]
  | [], b :: y => by simp [PyData.eqvAll]
  | a :: x, [] => by simp [PyData.eqvAll]
  | a :: x, b :: y => by
    have ih := lots_eqv x y
    have e : PyData.eqv (lotD a) (lotD b) = decide (a = b) := by
      simp only [lotD, PyData.eqv]
      exact int_eqv a b
    simp only [List.map_cons, PyData.eqvAll, e, ih]
    by_cases h : a = b
    · by_cases h2 : x = y
      · simp [h, h2]
      · simp [h, h2]
    · simp [h]
theorem lotsD_eqv (D E : List (List Int)) : PyData.eqv (lotsD D) (lotsD E) = decide (D = E) := by
  simp only [lotsD, PyData.eqv]
  exact lots_eqv D E
def pairD (m : Int) (D : List (List Int)) : PyData := .tuple [.int m, lotsD D]
theorem pairD_shaped (m : Int) (D : List (List Int)) : SeqAt.shaped (pairD m D) = true := shaped_of (by simp [pairD, PyData.canLay0, PyData.canLayAll0, lotsD_lay]) (by
  have := lotsD_depth D
  simp only [pairD, PyData.depth, PyData.depthAll]
  omega)
theorem pairD_eqv (m m' : Int) (D E : List (List Int)) : PyData.eqv (pairD m D) (pairD m' E) = decide (m = m' ∧ D = E) := by
  simp only [pairD, PyData.eqv, PyData.eqvAll, lotsD_eqv]
  by_cases h : m = m'
  · by_cases h2 : D = E
    · simp [h, h2]
    · simp [h, h2]
  · simp [h]
theorem dp_ints {K : PySem.W.Frag} {H : Hp} : ∀ x : List Int, DpAll K H (x.map V.int) (x.map PyData.int)
  | [] => .nil
  | a :: x => .cons (.int a) (dp_ints x)
theorem dp_lots {K : PySem.W.Frag} {H : Hp} : ∀ ks : List (Addr × List Int), LotsAt K H ks → DpAll K H (refsOf ks) ((ks.map (·.2)).map lotD)
  | [], _ => .nil
  | q :: ks, h => .cons (.tup (h q List.mem_cons_self) (dp_ints q.2)) (dp_lots ks fun r hr => h r (List.mem_cons_of_mem _ hr))
theorem dp_of {K : PySem.W.Frag} {H : Hp} {t : Addr} {ks : List (Addr × List Int)} (h : SqT K H t (refsOf ks)) (hk : LotsAt K H ks) : Dp K H (.ref t) (lotsD (ks.map (·.2))) := .tup h (dp_lots ks hk)

/-! ### the objects of the class List -/
def lfs (m : Nat) (t : Addr) : List (Str × V) := [("places", .int (m : Int)), ("stands", .ref t)]
theorem l_places (m : Nat) (t : Addr) : (lfs m t).lookup ("places" : Str) = some (V.int (m : Int)) := lk_eq
theorem l_stands (m : Nat) (t : Addr) : (lfs m t).lookup ("stands" : Str) = some (V.ref t) := by
  unfold lfs
  rw [lk_ne (by decide +kernel)]; exact lk_eq
theorem l_put {x y : V} : putF "stands" y [(("places" : Str), x)] = ([("places", x), ("stands", y)] : List (Str × V)) := by rw [putF_ne (by decide +kernel)]; rfl
structure LstAt (K : PySem.W.Frag) (CL : Addr) (H : Hp) (p : Addr) (m : Nat) (D : List (List Int)) : Prop where
  ex : ∃ dx t ks, H p = some (.ins CL dx (lfs m t)) ∧ SqT K H t (refsOf ks) ∧ LotsAt K H ks ∧ ks.map (·.2) = D
theorem LstAt.keep {K : PySem.W.Frag} {CL : Addr} {H H' : Hp} {p : Addr} {m : Nat} {D : List (List Int)} (h : LstAt K CL H p m D) (e : Same H H') : LstAt K CL H' p m D := by
  obtain ⟨dx, t, ks, h1, h2, h3, h4⟩ := h.ex
  exact ⟨dx, t, ks, e _ _ h1, same_tup e h2, same_lots e h3, h4⟩
structure CLs (K : PySem.W.Frag) (CL : Addr) : Prop where
  cl : Cls K CL
  nP : NoAttr K CL "places"
  nS : NoAttr K CL "stands"

def spLInit (K : PySem.W.Frag) (CL : Addr) : Sp := fun vs H Q _ => ∃ (p dx t : Addr) (m : Nat) (ks : List (Addr × List Int)), vs = [.ref p, .int (m : Int), .ref t] ∧ H p = some (.ins CL dx []) ∧ 1 ≤ m ∧ m ≤ 12 ∧ SqT K H t (refsOf ks) ∧ LotsAt K H ks ∧ 1 ≤ ks.length ∧ ks.length ≤ 64 ∧
  (∀ q ∈ ks, SM.Std m q.2) ∧ SM.Asc (ks.map (·.2)) ∧ ∀ H', LstAt K CL H' p m (ks.map (·.2)) → (∀ b o, b ≠ p → H b = some o → H' b = some o) → Q .non H'
def spLEq (K : PySem.W.Frag) (CL : Addr) : Sp := fun vs H Q _ => ∃ (a b : Addr) (m m' : Nat) (D D' : List (List Int)), vs = [.ref a, .ref b] ∧ LstAt K CL H a m D ∧ LstAt K CL H b m' D' ∧ ∀ H', Same H H' → Q (.bl (decide (m = m' ∧ D = D'))) H'
def spListOf (K : PySem.W.Frag) (CL : Addr) : Sp := fun vs H Q _ => ∃ (l : Addr) (m : Nat) (ks : List (Addr × List Int)), vs = [.int (m : Int), .ref l] ∧ SqL K H l (refsOf ks) ∧ LotsAt K H ks ∧ 1 ≤ ks.length ∧ ks.length < 64 ∧ 1 ≤ m ∧ m ≤ 12 ∧ (∀ q ∈ ks, SM.Std m q.2) ∧
  ∀ (p : Addr) (D : List (List Int)) (H' : Hp), Same H H' → LstAt K CL H' p m D → SM.IsD (fun x => x ∈ ks.map (·.2)) D → Q (.ref p) H'
def spPlaced (K : PySem.W.Frag) (C : Addr) : Sp := fun vs H Q _ => ∃ (p s : Addr) (n : Nat) (near : List Nat) (sh : List Int), vs = [.ref p, .ref s] ∧ WebAt C H p n near ∧ SqT K H s (sh.map V.int) ∧ sh.Nodup ∧ (∀ x ∈ sh, 0 ≤ x ∧ x < (n : Int)) ∧ 1 ≤ sh.length ∧ sh.length ≤ 12 ∧ ∀ H', Same H H' → Q (.bl true) H'
def spSeen (K : PySem.W.Frag) : Sp := fun vs H Q _ => ∃ (r s : Addr) (ns sh : List Int), vs = [.ref r, .ref s] ∧ SqT K H r (ns.map V.int) ∧ SqT K H s (sh.map V.int) ∧ sh.length ≤ 64 ∧ ∀ (t : Addr) (H' : Hp), Same H H' → H' t = some (.tup ((SM.seenI sh ns).map V.int)) → Q (.ref t) H'
def spShownL (K : PySem.W.Frag) (C : Addr) : Sp := fun vs H Q _ => ∃ (p s : Addr) (n : Nat) (near : List Nat) (sh : List Int), vs = [.ref p, .ref s] ∧ WebAt C H p n near ∧ SM.Gr n near ∧ SqT K H s (sh.map V.int) ∧ sh.length ≤ 64 ∧
  ∀ (l : Addr) (ks : List (Addr × List Int)) (H' : Hp), Same H H' → H' l = some (.lst (refsOf ks)) → LotsAt K H' ks → (∀ x, x ∈ ks.map (·.2) ↔ SM.SeenP n near sh x) → 1 ≤ ks.length → ks.length ≤ 18 → Q (.ref l) H'
structure ShOk (n : Nat) (sh : List Int) : Prop where
  nd : sh.Nodup
  bd : ∀ x ∈ sh, 0 ≤ x ∧ x < (n : Int)
  lo : 1 ≤ sh.length
  hi : sh.length ≤ 12
def spShown (K : PySem.W.Frag) (C CL : Addr) : Sp := fun vs H Q _ => ∃ (p s : Addr) (n : Nat) (near : List Nat) (sh : List Int), vs = [.ref p, .ref s] ∧ WebAt C H p n near ∧ SM.Gr n near ∧ SqT K H s (sh.map V.int) ∧ ShOk n sh ∧
  ∀ (q : Addr) (D : List (List Int)) (H' : Hp), Same H H' → LstAt K CL H' q sh.length D → SM.IsD (SM.SeenP n near sh) D → Q (.ref q) H'
def spIsSh (K : PySem.W.Frag) (C CL : Addr) : Sp := fun vs H Q _ => ∃ (p q s : Addr) (n m : Nat) (near : List Nat) (sh : List Int) (D E : List (List Int)), vs = [.ref p, .ref q, .ref s] ∧ WebAt C H p n near ∧ SM.Gr n near ∧ LstAt K CL H q m D ∧ SqT K H s (sh.map V.int) ∧ ShOk n sh ∧
  SM.IsD (SM.SeenP n near sh) E ∧ ∀ H', Same H H' → Q (.bl (decide (sh.length = m ∧ E = D))) H'

section
variable {P : Program} {w : World} {K : PySem.W.Frag} {mg : Str → Option Value} {base : Heap} {C CC CL : Addr}
theorem sc_linit : FnScope ["self", "places", "stands", "number", "item"] ["self", "places", "stands"] (defScope s_linit) := ⟨rfl, rfl, rfl, by decide +kernel, rfl, by decide +kernel, by decide +kernel⟩
theorem ok_linit (D : InitAt K mg "List" CL "List.__init__" s_linit) (T : CLs K CL) (B : Bi mg) (mP : ∃ t, mg "MOST_PLACES" = some (.int 12 t)) (mS : ∃ t, mg "MOST_STANDS" = some (.int 64 t)) (c1 : Cal P w K mg base 2 "is_between" spBet) (c2 : Cal P w K mg base 3 "is_lot" (spIsLot K)) :
    Mak P w K mg base 4 "List" CL (spLInit K CL) := by
  refine mak_of D sc_linit (fun _ _ _ _ _ _ us hl => match us, hl with | [_, _, _], _ => rfl) (fun vs H Q E h => ?_) (fun f cdv A outer s H vs Q E hr h => ?_)
  · obtain ⟨p, dx, t, m, ks, rfl, _⟩ := h
    rfl
  · obtain ⟨p, dx, t, m, ks, rfl, hp, hm1, hm, ht, hk, hk1, hk2, hstd, hasc, q⟩ := h
    obtain ⟨tP, mP⟩ := mP
    obtain ⟨tS, mS⟩ := mS
    refine ⟨_, pss_cons (ps_if (pt_not (pt_val (pe_c c1 hr (by decide) rfl (pa_cons (pv 1) (pa_cons pe_int (pa_cons (pe_glob (v := .int 12) rfl mP ⟨_, rfl⟩) pa_nil)))))) (pss_one ps_never) pss_nil)
      (pss_cons (ps_if (PW.pt (pw_or (pt_not (pt_val (pe_callB call_isTup (by rfl) B.isi b_isi (pa_cons (pv 2) (pa_cons (pe_ty (by rfl) B.tuple b_tuple) pa_nil)))))
          (pw_or1 (pt_not (pt_chain op_le op_le pe_int (pe_callB call_len_seq (by rfl) B.len b_len (pa_cons (pv 2) pa_nil)) (pe_glob (v := .int 64) rfl mS ⟨_, rfl⟩)))))) (pss_one ps_never) pss_nil)
      (pss_cons (ps_for PassesOwn.never rfl (pi_enumT (by rfl) B.enum (pa_cons (pv 2) pa_nil)) (pg_tup rfl (pgs_cons (pg_name (i := 3) sc_linit.nd rfl (.inl rfl)) (pgs_cons (pg_name (i := 4) sc_linit.nd rfl (.inl rfl)) pgs_nil)))
        (pss_one (ps_if (PW.pt (pw_or (pt_not (pt_val (pe_c c2 hr (Nat.le_refl _) rfl (pa_cons (pv 4) (pa_cons (pv 1) pa_nil)))))
          (pw_or1 (PW.pt (pw_and (pt_cmpR op_gt (pv 3) pe_int (nomark _)) (pw_and1 (pt_cmpR (op_leNo hr.units0) (pv 4) (pe_ix ix_tup (pv 2) (pe_op op_sub (pv 3) pe_int) (fun _ _ => rfl)) (nomark _)))))))) (pss_one ps_never) pss_nil)))
      (pss_cons (ps_fld (pv 0) (pv 1) rfl) (pss_one (ps_fld (pv 0) (pv 2) rfl))))), ?_⟩
    have kl : (refsOf ks).length = ks.length := List.length_map _
    refine ⟨_, rfl, _, _, _, rfl, _, rfl, iteFe (by rw [decide_eq_true ⟨by omega, by omega⟩]; rfl) ?_⟩
    refine ⟨_, rfl, t, _, rfl, ht, true, rfl, iteF ?_⟩
    refine ⟨_, rfl, t, _, rfl, .inr ht, _, _, rfl, rfl, _, rfl, iteTe (decide_eq_true (by rw [kl]; omega)) ?_⟩
    refine ⟨_, _, rfl, rfl, _, rfl, iteFe (by rw [decide_eq_true (by rw [kl]; omega)]; rfl) ?_⟩
    refine ⟨_, rfl, t, _, rfl, ht, for_it (walk_enumT (xs := refsOf ks)) (fun i σ H' => ∃ v3 v4, σ = [some (.ref p), some (.int (m : Int)), some (.ref t), v3, v4] ∧ Same H H') ⟨none, none, rfl, Same.refl H⟩ (fun i σ H' _ ⟨v3, v4, _, k⟩ => same_tup k ht) ?_ ?_⟩
    · rintro i x σ H' H2 hi ⟨v3, v4, rfl, k⟩ ⟨T', x', y, rfl, hT, rfl, ex, ey⟩
      obtain rfl : (V.int (i : Int)) = x' := Option.some.inj ex
      replace ey : (ks.map fun p => V.ref p.1)[i]? = some y := ey
      rw [List.getElem?_map, Option.map_eq_some_iff] at ey
      obtain ⟨⟨a, u⟩, hu, rfl⟩ := ey
      have k2 : Same H (upd H' T' (.tup [.int (i : Int), .ref a])) := k.trans (same_new hT)
      have mu := List.mem_of_getElem? hu
      refine ⟨T', _, rfl, SqT.of upd_same, rfl, _, _, rfl, _, _, rfl, rfl, ?_⟩
      refine ⟨_, rfl, _, rfl, a, u, m, rfl, same_tup k2 (hk _ mu), hstd _ mu, true, rfl, iteF ?_⟩
      refine ⟨_, rfl, _, _, rfl, rfl, _, rfl, ?_⟩
      refine ite2 (fun c => ?_) (fun c => ?_)
      · have i0 : 0 < i := by have := of_decide_eq_true c; omega
        have hi2 := (List.getElem?_eq_some_iff.mp hu).1
        have hi' : i - 1 < ks.length := by omega
        obtain ⟨⟨a', u'⟩, hu'⟩ : ∃ z, ks[i - 1]? = some z := ⟨_, List.getElem?_eq_getElem hi'⟩
        have e1 : ((i : Int) - 1) = ((i - 1 : Nat) : Int) := by omega
        have g : atI (refsOf ks) ((i : Int) - 1) = some (.ref a') := by
          rw [e1]
          exact atI_nat (by rw [List.getElem?_map, hu']; rfl)
        have lt : SM.lx u' u = true := by
          have o := List.pairwise_iff_getElem.mp (List.pairwise_map.mp hasc) (i - 1) i hi' hi2 (by omega)
          rw [(List.getElem?_eq_some_iff.mp hu).2, (List.getElem?_eq_some_iff.mp hu').2] at o
          exact o
        refine ⟨_, rfl, _, rfl, _, rfl, _, _, rfl, rfl, t, _, _, _, rfl, rfl, same_tup k2 ht, g, a, a', u, u', rfl, rfl, same_tup k2 (hk _ mu), same_tup k2 (hk _ (List.mem_of_getElem? hu')), lt, false, rfl, iteF ?_⟩
        exact ⟨_, _, rfl, k2⟩
      · exact iteF ⟨_, _, rfl, k2⟩
    · rintro σ H' ⟨v3, v4, rfl, k⟩
      refine ⟨_, rfl, _, rfl, p, CL, dx, [], rfl, k _ _ hp, T.cl, T.nP, (by show 0 < 1000; decide), ?_⟩
      refine ⟨_, rfl, _, rfl, p, CL, dx, _, rfl, upd_same, T.cl, T.nS, (by show 1 < 1000; decide), ?_⟩
      have keep : ∀ b o, b ≠ p → H b = some o → (upd (upd H' p (.ins CL dx (putF "places" (.int (m : Int)) []))) p (.ins CL dx (putF "stands" (.ref t) (putF "places" (.int (m : Int)) [])))) b = some o := fun b o hb e => by rw [upd_ne hb, upd_ne hb]; exact k _ _ e
      have keepT : ∀ a ys, SqT K H a ys → SqT K (upd (upd H' p (.ins CL dx (putF "places" (.int (m : Int)) []))) p (.ins CL dx (putF "stands" (.ref t) (putF "places" (.int (m : Int)) [])))) a ys := fun a ys h => by
        rcases h with (h | ⟨o, h⟩) | h
        · exact .inl (.inl (keep _ _ (fun e => by rw [e, hp] at h; cases h) h))
        · exact .inl (.inr ⟨o, keep _ _ (fun e => by rw [e, hp] at h; cases h) h⟩)
        · exact .inr h
      exact q _ ⟨dx, t, ks, Eq.trans upd_same (congrArg (fun l => some (HO.ins CL dx l)) l_put), keepT _ _ ht, fun q hq => keepT _ _ (hk q hq), rfl⟩ keep

theorem sc_leq : FnScope ["self", "other"] ["self", "other"] (defScope s_leq) := ⟨rfl, rfl, rfl, by decide +kernel, rfl, by decide +kernel, by decide +kernel⟩
/-- a def in a class that is called by its place -/
structure EqAt (K : PySem.W.Frag) (f : Addr) (fd : FuncData) : Prop where
  fn : L2.Fun K "__eq__" "List.__eq__" s_leq f fd
theorem ok_leq {f : Addr} {fd : FuncData} (D : EqAt K f fd) (T : CLs K CL) (IC : C8.InsC K CL) (B : Bi mg) (mL : mg "List" = some (.ref CL)) : FnOk P w K mg base CX0 1 f fd ["self", "other"] (spLEq K CL) ∧ Binds K fd ["self", "other"] [] := by
  refine ⟨D.fn.ok sc_leq (fun vs H Q E h => ?_) (fun cdv A outer s H vs Q E hr h => ?_), D.fn.binds fun _ _ _ _ _ _ us hl => match us, hl with | [_, _], _ => rfl⟩
  · obtain ⟨a, b, m, m', D, D', rfl, _⟩ := h
    rfl
  · obtain ⟨a, b, m, m', D, D', rfl, ha, hb, q⟩ := h
    refine ⟨_, pss_one (ps_ret (pe_and (pe_callB (C8.call_isC IC) (by rfl) B.isi b_isi (pa_cons (pv 1) (pa_cons (pe_glob (v := .ref CL) rfl mL rfl) pa_nil)))
      (pe_one (pe_cmpR (op_eqD hr.units) (pe_tup (pa_cons (pe_fld (pv 0) rfl) (pa_cons (pe_fld (pv 0) rfl) pa_nil))) (pe_tup (pa_cons (pe_fld (pv 1) rfl) (pa_cons (pe_fld (pv 1) rfl) pa_nil))) (nomark _))))), ?_⟩
    obtain ⟨dx, t, ks, a1, a2, a3, rfl⟩ := id ha.ex
    obtain ⟨dy, u, ls, b1, b2, b3, rfl⟩ := id hb.ex
    refine ⟨_, rfl, b, dy, _, rfl, b1, true, rfl, iteT ?_⟩
    refine ⟨_, rfl, a, CL, dx, _, _, rfl, a1, T.cl, T.nP, l_places _ _, _, rfl, a, CL, dx, _, _, rfl, a1, T.cl, T.nS, l_stands _ _, (by show 2 ≤ sizeLine; decide), fun t1 h1 => ?_⟩
    have e1 : Same H (upd H t1 (.tup [.int (m : Int), .ref t])) := same_new h1
    refine ⟨_, rfl, b, CL, dy, _, _, rfl, e1 _ _ b1, T.cl, T.nP, l_places _ _, _, rfl, b, CL, dy, _, _, rfl, e1 _ _ b1, T.cl, T.nS, l_stands _ _, (by show 2 ≤ sizeLine; decide), fun t2 h2 => ?_⟩
    have e2 : Same (upd H t1 (.tup [.int (m : Int), .ref t])) (upd (upd H t1 (.tup [.int (m : Int), .ref t])) t2 (.tup [.int (m' : Int), .ref u])) := same_new h2
    have e3 := e1.trans e2
    refine ⟨pairD (m : Int) _, pairD (m' : Int) _, .tup (SqT.of (e2 _ _ upd_same)) (.cons (.int _) (.cons (dp_of (same_tup e3 a2) (same_lots e3 a3)) .nil)), .tup (SqT.of upd_same) (.cons (.int _) (.cons (dp_of (same_tup e3 b2) (same_lots e3 b3)) .nil)), pairD_shaped _ _, pairD_shaped _ _, ?_⟩
    have e : decide ((m : Int) = (m' : Int) ∧ ks.map (·.2) = ls.map (·.2)) = decide (m = m' ∧ ks.map (·.2) = ls.map (·.2)) := decide_eq_decide.mpr ⟨fun z => ⟨by omega, z.2⟩, fun z => ⟨by omega, z.2⟩⟩
    exact qv (congrArg V.bl ((pairD_eqv _ _ _ _).trans e)) (q _ e3)

theorem sc_listof : FnScope ["places", "lots", "stands"] ["places", "lots"] (defScope s_listof) := ⟨rfl, rfl, rfl, by decide +kernel, rfl, by decide +kernel, by decide +kernel⟩
theorem ok_listof (D : DefAt K mg "list_of" s_listof) (B : Bi mg) (mS : ∃ t, mg "MOST_STANDS" = some (.int 64 t)) (m1 : Mak P w K mg base 4 "List" CL (spLInit K CL)) : Cal P w K mg base 6 "list_of" (spListOf K CL) := by
  refine cal_of D sc_listof (fun _ _ _ _ _ _ us hl => match us, hl with | [_, _], _ => rfl) (fun vs H Q E h => ?_) (fun f cdv A outer s H vs Q E hr h => ?_)
  · obtain ⟨l, m, ks, rfl, _⟩ := h
    rfl
  · obtain ⟨l, m, ks, rfl, hl, hk, k1, k2, m1', m2, hstd, q⟩ := h
    obtain ⟨tS, mS⟩ := mS
    refine ⟨_, pss_cons (ps_set (i := 2) sc_listof.nd rfl (.inl rfl) (pe_callB (cr_sortSL rfl hr.units) (by rfl) B.sorted b_sorted (pa_cons (pe_callTy (cr_setOfT rfl hr.units) (by rfl) B.set b_set (pa_cons (pv 1) pa_nil)) pa_nil)))
      (pss_cons (ps_if (pt_cmpR op_gt (pe_callB call_len_seq (by rfl) B.len b_len (pa_cons (pv 2) pa_nil)) (pe_glob (v := .int 64) rfl mS ⟨_, rfl⟩) (nomark _)) (pss_one ps_never) pss_nil)
      (pss_one (ps_ret (pe_mk m1 hr (by decide) rfl (pa_cons (pv 0) (pa_cons (pe_callTy call_tuple_of (by rfl) B.tuple b_tuple (pa_cons (pv 2) pa_nil)) pa_nil)))))), ?_⟩
    refine ⟨_, rfl, l, ks, rfl, hl, hk, k2, fun a L ha hsub hcov => ?_⟩
    have e1 := same_new (o := SetTO P w a L) ha
    refine ⟨a, L, rfl, upd_same, fun r hr' => same_tup e1 (hk r (hsub r hr')), fun L' r pm asc hlt hr' => ?_⟩
    have e2 : Same (upd H a (SetTO P w a L)) (upd (upd H a (SetTO P w a L)) r (.lst (refsOf L'))) := same_new hr'
    have s2 := e1.trans e2
    have kl : (refsOf L').length = L'.length := List.length_map _
    have hL' : ∀ q ∈ L', q ∈ ks := fun q hq => hsub q (pm.mem_iff.mp hq)
    have l0 : 1 ≤ L'.length := by
      have hx : ∃ x, x ∈ ks := ⟨_, List.getElem_mem (show 0 < ks.length by omega)⟩
      obtain ⟨x, hx⟩ := hx
      obtain ⟨y, hy, _⟩ := List.mem_map.mp (hcov x hx)
      have := List.length_pos_of_mem (pm.mem_iff.mpr hy)
      omega
    refine ⟨_, rfl, r, _, rfl, .inl (SqL.of upd_same), _, _, rfl, rfl, _, rfl, iteFe (decide_eq_false (by rw [kl]; omega)) ?_⟩
    refine ⟨_, rfl, _, rfl, r, _, rfl, .inl ⟨SqL.of upd_same, fun t ht => ?_⟩⟩
    have s3 := s2.trans (same_new (o := .tup (refsOf L')) ht)
    intro p dx hp hdx hne
    have e4 : Same (upd (upd (upd H a (SetTO P w a L)) r (.lst (refsOf L'))) t (.tup (refsOf L'))) (upd (upd (upd (upd (upd H a (SetTO P w a L)) r (.lst (refsOf L'))) t (.tup (refsOf L'))) dx (.own p)) p (.ins CL dx [])) := fun b o e => by rw [upd_ne (ne_of_none e hp), upd_ne (ne_of_none e hdx)]; exact e
    have s4 := s3.trans e4
    refine ⟨p, dx, t, m, L', rfl, upd_same, m1', m2, SqT.of (e4 _ _ upd_same), fun q hq => same_tup s4 (hk q (hL' q hq)), l0, by omega, fun q hq => hstd q (hL' q hq), asc, fun H5 hlst k => ⟨rfl, ?_⟩⟩
    have pH : H p = none := s3.free hp
    refine q p _ H5 (fun b o e => k b o (ne_of_none e pH) (s4 b o e)) hlst ⟨asc, fun x => ⟨fun hx => ?_, fun hx => ?_⟩⟩
    · obtain ⟨y, hy, rfl⟩ := List.mem_map.mp hx
      exact List.mem_map.mpr ⟨y, hL' y hy, rfl⟩
    · obtain ⟨y, hy, rfl⟩ := List.mem_map.mp hx
      obtain ⟨z, hz, e⟩ := List.mem_map.mp (hcov y hy)
      exact List.mem_map.mpr ⟨z, pm.mem_iff.mpr hz, e⟩

theorem sc_placed : FnScope ["web", "thing"] ["web", "thing"] (defScope s_placed) := ⟨rfl, rfl, rfl, by decide +kernel, rfl, by decide +kernel, by decide +kernel⟩
theorem ok_placed (D : DefAt K mg "is_placed" s_placed) (T : CW K C) (B : Bi mg) (mP : ∃ t, mg "MOST_PLACES" = some (.int 12 t)) (c1 : Cal P w K mg base 3 "are_unlike" (spUnlike K)) : Cal P w K mg base 4 "is_placed" (spPlaced K C) := by
  refine cal_of D sc_placed (fun _ _ _ _ _ _ us hl => match us, hl with | [_, _], _ => rfl) (fun vs H Q E h => ?_) (fun f cdv A outer s H vs Q E hr h => ?_)
  · obtain ⟨p, s, n, near, sh, rfl, _⟩ := h
    rfl
  · obtain ⟨p, s', n, near, sh, rfl, hw, ht, nd, bd, l1, l2, q⟩ := h
    obtain ⟨tP, mP⟩ := mP
    refine ⟨_, pss_one (ps_ret (pe_and (pe_c c1 hr (Nat.le_refl _) rfl (pa_cons (pv 1) (pa_cons (pe_fld (pv 0) rfl) pa_nil)))
      (pe_one (pe_chain op_le op_le pe_int (pe_callB call_len_seq (by rfl) B.len b_len (pa_cons (pv 1) pa_nil)) (pe_glob (v := .int 12) rfl mP ⟨_, rfl⟩))))), ?_⟩
    obtain ⟨dx, t, nl, w1, w2⟩ := id hw.ex
    have kl : (sh.map V.int).length = sh.length := List.length_map _
    refine ⟨_, rfl, _, rfl, p, C, dx, _, _, rfl, w1, T.cl, T.nS, w_size _ _ _, s', sh, (n : Int), rfl, ht, nd, bd, by omega, fun H1 hs1 => ⟨true, rfl, iteT ?_⟩⟩
    refine ⟨_, rfl, s', _, rfl, .inr (same_tup hs1 ht), _, _, rfl, rfl, _, rfl, iteTe (decide_eq_true (by rw [kl]; omega)) ?_⟩
    refine ⟨_, _, rfl, rfl, ?_⟩
    exact qv (congrArg V.bl (decide_eq_true (by rw [kl]; omega))) (q _ hs1)

theorem inV_ints (z : Int) (ns : List Int) : inV (.int z) (ns.map V.int) = decide (z ∈ ns) := by
  unfold inV
  rw [List.any_map, Bool.eq_iff_iff, List.any_eq_true, decide_eq_true_eq]
  constructor
  · rintro ⟨y, hy, e⟩
    have e' : y = z := eq_of_beq e
    rw [← e']; exact hy
  · exact fun h => ⟨z, h, beq_self_eq_true z⟩
theorem flat_ints (ns : List Int) : (ns.map V.int).all flatV = true := by
  rw [List.all_map]
  exact List.all_eq_true.mpr fun x _ => rfl
theorem sc_seen : FnScope ["rest", "showing", "place", "part"] ["rest", "showing"] (defScope s_seen) := ⟨rfl, rfl, rfl, by decide +kernel, rfl, by decide +kernel, by decide +kernel⟩
theorem ok_seen (D : DefAt K mg "seen" s_seen) (B : Bi mg) : Cal P w K mg base 1 "seen" (spSeen K) := by
  refine cal_of D sc_seen (fun _ _ _ _ _ _ us hl => match us, hl with | [_, _], _ => rfl) (fun vs H Q E h => ?_) (fun f cdv A outer s H vs Q E hr h => ?_)
  · obtain ⟨r, s, ns, sh, rfl, _⟩ := h
    rfl
  · obtain ⟨r, s', ns, sh, rfl, hr1, hs1, hl, q⟩ := h
    refine ⟨_, pss_one (ps_ret (pe_callTy call_tuple_of (by rfl) B.tuple b_tuple (pa_cons
      (pe_lc (own := [("place", 2), ("part", 3)]) (g := gTup K 2 (gCons (gName 2) (gCons (gName 3) gNil))) (tt := tTest (tOp (rIn K false) (tVar 3) (tVar 0))) (te := tVar 2) rfl sc_seen.nd (pi_enumT (by rfl) B.enum (pa_cons (pv 1) pa_nil)) (blkOk_by (N := ["rest", "showing", "place", "part"]) (sc := defScope s_seen) (by decide +kernel))
        (fun _ _ _ _ _ => pg_tup rfl (pgs_cons (pg_name (i := 2) sc_seen.nd rfl (.inl rfl)) (pgs_cons (pg_name (i := 3) sc_seen.nd rfl (.inl rfl)) pgs_nil)))
        (fun _ _ _ _ _ => pts_one (pt_cmpR op_in_seq (pv 3) (pv 0) rfl))
        (fun _ _ _ _ _ => pv 2)) pa_nil))), ?_⟩
    refine ⟨_, rfl, s', _, rfl, hs1, fun D hD => ?_⟩
    refine lc_it (walk_enumT (xs := sh.map V.int)) (fun i H' => Same H H' ∧ H' D = some (.lst ((SM.intl ((List.range i).filter fun k => decide (sh.getD k 0 ∈ ns))).map V.int))) ⟨same_new hD, upd_same⟩ (fun i H' _ ⟨k, _⟩ => same_tup k hs1) ?_ ?_
    · rintro i x H' H2 hi ⟨k, hd⟩ ⟨T', x', y, rfl, hT, rfl, ex, ey⟩
      obtain rfl : (V.int (i : Int)) = x' := Option.some.inj ex
      replace ey : (sh.map V.int)[i]? = some y := ey
      rw [List.getElem?_map, Option.map_eq_some_iff] at ey
      obtain ⟨z, hz, rfl⟩ := ey
      have ez : sh.getD i 0 = z := by rw [List.getD_eq_getElem?_getD, hz]; rfl
      have k2 : Same H (upd H' T' (.tup [.int (i : Int), .int z])) := k.trans (same_new hT)
      have nD : D ≠ T' := ne_of_none hd hT
      refine ⟨T', _, rfl, SqT.of upd_same, rfl, _, _, rfl, _, _, rfl, rfl, ?_⟩
      refine ⟨rfl, ?_⟩
      refine ⟨_, rfl, _, rfl, r, _, rfl, .inr (same_tup k2 hr1), rfl, flat_ints ns, _, rfl, ?_⟩
      have er : (List.range (i + 1)).filter (fun k => decide (sh.getD k 0 ∈ ns)) = (List.range i).filter (fun k => decide (sh.getD k 0 ∈ ns)) ++ if decide (z ∈ ns) = true then [i] else [] := by
        rw [List.range_succ, List.filter_append, List.filter_cons, ez]
        by_cases c : z ∈ ns
        · rw [decide_eq_true c]; rfl
        · rw [decide_eq_false c]; rfl
      refine ite2 (fun c => ?_) (fun c => ?_)
      · have c' : decide (z ∈ ns) = true := by rw [← inV_ints]; exact c
        refine ⟨_, rfl, _, Eq.trans (upd_ne nD) hd, ?_, ?_, ?_⟩
        · have := List.length_filter_le (fun k => decide (sh.getD k 0 ∈ ns)) (List.range i)
          rw [List.length_range] at this
          rw [List.length_map] at hi
          rw [List.length_map, SM.ints_len]
          exact small1000 (by omega)
        · exact fun b o e => by rw [upd_ne (ne_of_none e hD)]; exact k2 _ _ e
        · rw [upd_same, er, c', if_pos rfl]
          unfold SM.intl
          rw [List.map_append, List.map_append]; rfl
      · have c' : decide (z ∈ ns) = false := by rw [← inV_ints]; exact Bool.eq_false_iff.mpr c
        refine ⟨k2, ?_⟩
        rw [er, c', if_neg (by decide), List.append_nil, upd_ne nD]; exact hd
    · rintro H' ⟨k, hd⟩
      rw [List.length_map] at hd
      exact ⟨D, _, rfl, .inl ⟨SqL.of hd, fun t ht => q t _ (k.trans (same_new ht)) upd_same⟩⟩

theorem sc_shownl : FnScope ["web", "showing", "rest"] ["web", "showing"] (defScope s_shownl) := ⟨rfl, rfl, rfl, by decide +kernel, rfl, by decide +kernel, by decide +kernel⟩
theorem ok_shownl (D : DefAt K mg "shown_lots" s_shownl) (c1 : Cal P w K mg base 1 "check_listed" spCheck) (c2 : Cal P w K mg base 23 "many_rests" (spManyR C)) (c3 : Cal P w K mg base 7 "all_rests" (spRests K C)) (c4 : Cal P w K mg base 1 "seen" (spSeen K)) : Cal P w K mg base 24 "shown_lots" (spShownL K C) := by
  refine cal_of D sc_shownl (fun _ _ _ _ _ _ us hl => match us, hl with | [_, _], _ => rfl) (fun vs H Q E h => ?_) (fun f cdv A outer s H vs Q E hr h => ?_)
  · obtain ⟨p, s, n, near, sh, rfl, _⟩ := h
    rfl
  · obtain ⟨p, s', n, near, sh, rfl, hw, g, ht, hl, q⟩ := h
    refine ⟨_, pss_cons (ps_expr (pe_c c1 hr (by decide) rfl (pa_cons (pe_c c2 hr (Nat.le_refl _) rfl (pa_cons (pv 0) pa_nil)) pa_nil)))
      (pss_one (ps_ret (pe_lc (own := [("rest", 2)]) (g := gName 2) (tt := tYes) rfl sc_shownl.nd (pi_list (pe_c c3 hr (by decide) rfl (pa_cons (pv 0) pa_nil))) (blkOk_by (N := ["web", "showing", "rest"]) (sc := defScope s_shownl) (by decide +kernel))
        (fun _ _ _ _ _ => pg_name (i := 2) sc_shownl.nd rfl (Or.inl rfl)) (fun _ _ _ _ _ => pts_nil)
        (fun _ _ _ _ _ => pe_c c4 hr (by decide) rfl (pa_cons (pv 2) (pa_cons (pv 1) pa_nil)))))), ?_⟩
    refine ⟨_, rfl, p, n, near, rfl, hw, g, fun r H1 hs1 hr2 => ⟨r, rfl, by omega, ?_⟩⟩
    refine ⟨_, rfl, p, n, near, rfl, hw.keep hs1, g, fun l ks H2 hs2 hl2 hk hd hf => ?_⟩
    have h12 := hs1.trans hs2
    refine ⟨l, rfl, ⟨_, SqL.of hl2⟩, fun D hD => ?_⟩
    refine lc_list (K := K) (a := l) (xs := refsOf ks) (fun i H' => ∃ ls : List (Addr × List Int), Same H2 H' ∧ H' D = some (.lst (refsOf ls)) ∧ LotsAt K H' ls ∧ ls.map (·.2) = ((ks.map (·.2)).take i).map (SM.seenI sh))
      ⟨[], same_new hD, upd_same, fun q hq => (by cases hq), rfl⟩ (fun i H' _ ⟨_, k, _⟩ => SqL.of (k _ _ hl2)) ?_ ?_
    · rintro i x H' hx ⟨ls, k1, k2, k3, k4⟩
      rw [List.getElem?_map, Option.map_eq_some_iff] at hx
      obtain ⟨⟨a, b⟩, hb, rfl⟩ := hx
      have hm : (ks.map (·.2))[i]? = some b := by rw [List.getElem?_map, hb]; rfl
      refine ⟨rfl, ?_⟩
      refine ⟨_, rfl, _, rfl, a, s', b, sh, rfl, same_tup k1 (hk _ (List.mem_of_getElem? hb)), same_tup (h12.trans k1) ht, hl, fun t H3 hs3 ht3 => ?_⟩
      have kl : ls.length ≤ 18 := by
        have := congrArg List.length k4
        rw [List.length_map, List.length_map, List.length_take, List.length_map] at this
        omega
      have k2' := hs3 _ _ k2
      refine ⟨_, k2', by rw [List.length_map]; exact small_sz (by omega), ls ++ [(t, SM.seenI sh b)], fun b o e => ?_, ?_, fun q hq => ?_, ?_⟩
      · rw [upd_ne (ne_of_none e hD)]; exact hs3 _ _ (k1 _ _ e)
      · rw [upd_same]; unfold refsOf; rw [List.map_append]; rfl
      · rcases List.mem_append.mp hq with z | z
        · exact lots_upd k2' (same_tup hs3 (k3 q z))
        · rw [List.mem_singleton.mp z]; exact lots_upd k2' (SqT.of ht3)
      · rw [List.map_append, k4, List.take_add_one, hm, List.map_append]; rfl
    · rintro H' ⟨ls, k1, k2, k3, k4⟩
      have e : (ks.map (·.2)).take (refsOf ks).length = ks.map (·.2) := List.take_of_length_le (by rw [List.length_map, List.length_map]; exact Nat.le_refl _)
      rw [e] at k4
      have el : ls.length = ks.length := by
        have := congrArg List.length k4
        simpa using this
      refine q D ls _ (h12.trans k1) k2 k3 (fun x => ?_) ?_ (by omega)
      · rw [k4]
        constructor
        · intro hx
          obtain ⟨y, hy, rfl⟩ := List.mem_map.mp hx
          obtain ⟨b, hb, rfl⟩ := (hd.mem y).mp hy
          exact ⟨b, hb, rfl⟩
        · rintro ⟨b, hb, rfl⟩
          exact List.mem_map.mpr ⟨SM.lotI b, (hd.mem _).mpr ⟨b, hb, rfl⟩, rfl⟩
      · obtain ⟨b, hb⟩ := SM.some_rest g
        have := List.length_pos_of_mem ((hd.mem (SM.lotI b)).mpr ⟨b, hb, rfl⟩)
        rw [List.length_map] at this
        omega

theorem sc_shown : FnScope ["web", "showing"] ["web", "showing"] (defScope s_shown) := ⟨rfl, rfl, rfl, by decide +kernel, rfl, by decide +kernel, by decide +kernel⟩
theorem ok_shown (D : DefAt K mg "shown" s_shown) (B : Bi mg) (c1 : Cal P w K mg base 4 "is_placed" (spPlaced K C)) (c2 : Cal P w K mg base 24 "shown_lots" (spShownL K C)) (c3 : Cal P w K mg base 6 "list_of" (spListOf K CL)) : Cal P w K mg base 25 "shown" (spShown K C CL) := by
  refine cal_of D sc_shown (fun _ _ _ _ _ _ us hl => match us, hl with | [_, _], _ => rfl) (fun vs H Q E h => ?_) (fun f cdv A outer s H vs Q E hr h => ?_)
  · obtain ⟨p, s, n, near, sh, rfl, _⟩ := h
    rfl
  · obtain ⟨p, s', n, near, sh, rfl, hw, g, ht, hok, q⟩ := h
    refine ⟨_, pss_cons (ps_if (pt_not (pt_val (pe_c c1 hr (by decide) rfl (pa_cons (pv 0) (pa_cons (pv 1) pa_nil))))) (pss_one ps_never) pss_nil)
      (pss_one (ps_ret (pe_c c3 hr (by decide) rfl (pa_cons (pe_callB call_len_seq (by rfl) B.len b_len (pa_cons (pv 1) pa_nil)) (pa_cons (pe_c c2 hr (Nat.le_refl _) rfl (pa_cons (pv 0) (pa_cons (pv 1) pa_nil))) pa_nil))))), ?_⟩
    have kl : (sh.map V.int).length = sh.length := List.length_map _
    have h64 := hok.hi
    refine ⟨_, rfl, _, rfl, p, s', n, near, sh, rfl, hw, ht, hok.nd, hok.bd, hok.lo, hok.hi, fun H1 hs1 => ⟨true, rfl, iteF ?_⟩⟩
    refine ⟨_, rfl, s', _, rfl, .inr (same_tup hs1 ht), _, rfl, _, rfl, p, s', n, near, sh, rfl, hw.keep hs1, g, same_tup hs1 ht, by omega, fun l ks H2 hs2 hl hk hmem k1 k2 => ?_⟩
    refine ⟨l, sh.length, ks, by rw [kl]; rfl, SqL.of hl, hk, k1, by omega, hok.lo, hok.hi, fun r hr' => ?_, fun o D H3 hs3 hlst hD => q o D H3 ((hs1.trans hs2).trans hs3) hlst (hD.imp hmem)⟩
    obtain ⟨b, _, e⟩ := (hmem r.2).mp (List.mem_map.mpr ⟨r, hr', rfl⟩)
    rw [e]; exact SM.seen_std rfl _

theorem sc_issh : FnScope ["web", "one_list", "showing"] ["web", "one_list", "showing"] (defScope s_issh) := ⟨rfl, rfl, rfl, by decide +kernel, rfl, by decide +kernel, by decide +kernel⟩
theorem ok_issh (D : DefAt K mg "is_showing" s_issh) (T : CLs K CL) (B : Bi mg) (c1 : Cal P w K mg base 4 "is_placed" (spPlaced K C)) (c2 : Cal P w K mg base 24 "shown_lots" (spShownL K C)) : Cal P w K mg base 25 "is_showing" (spIsSh K C CL) := by
  refine cal_of D sc_issh (fun _ _ _ _ _ _ us hl => match us, hl with | [_, _, _], _ => rfl) (fun vs H Q E h => ?_) (fun f cdv A outer s H vs Q E hr h => ?_)
  · obtain ⟨p, q, s, n, m, near, sh, D, E', rfl, _⟩ := h
    rfl
  · obtain ⟨p, o, s', n, m, near, sh, D, E', rfl, hw, g, hlst, ht, hok, hE, q⟩ := h
    refine ⟨_, pss_cons (ps_if (PW.pt (pw_or (pt_not (pt_val (pe_c c1 hr (by decide) rfl (pa_cons (pv 0) (pa_cons (pv 2) pa_nil)))))
        (pw_or1 (pt_cmpR op_ne (pe_callB call_len_seq (by rfl) B.len b_len (pa_cons (pv 2) pa_nil)) (pe_fld (pv 1) rfl) (nomark _))))) (pss_one (ps_ret pe_bl)) pss_nil)
      (pss_one (ps_ret (pe_cmpR (op_eqD hr.units) (pe_callTy call_tuple_of (by rfl) B.tuple b_tuple (pa_cons (pe_callB (cr_sortSL rfl hr.units) (by rfl) B.sorted b_sorted (pa_cons (pe_callTy (cr_setOfT rfl hr.units) (by rfl) B.set b_set (pa_cons (pe_c c2 hr (Nat.le_refl _) rfl (pa_cons (pv 0) (pa_cons (pv 2) pa_nil))) pa_nil)) pa_nil)) pa_nil)) (pe_fld (pv 1) rfl) (nomark _)))), ?_⟩
    have kl : (sh.map V.int).length = sh.length := List.length_map _
    have h64 := hok.hi
    refine ⟨_, rfl, _, rfl, p, s', n, near, sh, rfl, hw, ht, hok.nd, hok.bd, hok.lo, hok.hi, fun H1 hs1 => ⟨true, rfl, iteF ?_⟩⟩
    obtain ⟨dx, t, ks0, a1, a2, a3, rfl⟩ := (hlst.keep hs1).ex
    refine ⟨_, rfl, s', _, rfl, .inr (same_tup hs1 ht), _, rfl, o, CL, dx, _, _, rfl, a1, T.cl, T.nP, l_places _ _, rfl, _, rfl, ?_⟩
    refine ite2 (fun c => ?_) (fun c => ?_)
    · have ne : sh.length ≠ m := fun e => by
        have c' : decide (V.int (((sh.map V.int).length : Nat) : Int) = V.int (m : Int)) = false := by simpa using c
        rw [kl, e] at c'
        exact of_decide_eq_false c' rfl
      exact qv (congrArg V.bl (decide_eq_false (fun z => ne z.1)).symm) (q H1 hs1)
    · have em : sh.length = m := by
        have c' : decide (V.int (((sh.map V.int).length : Nat) : Int) = V.int (m : Int)) = true := by simpa using c
        have e := V.int.inj (of_decide_eq_true c')
        rw [kl] at e
        omega
      refine ⟨_, rfl, _, rfl, p, s', n, near, sh, rfl, hw.keep hs1, g, same_tup hs1 ht, by omega, fun l ks H2 hs2 hl hk hmem k1 k2 => ?_⟩
      refine ⟨l, ks, rfl, SqL.of hl, hk, by omega, fun a L ha hsub hcov => ?_⟩
      have e1 := same_new (o := SetTO P w a L) ha
      refine ⟨a, L, rfl, upd_same, fun r hr' => same_tup e1 (hk r (hsub r hr')), fun L' r pm asc hlt hr' => ?_⟩
      have e2 : Same (upd H2 a (SetTO P w a L)) (upd (upd H2 a (SetTO P w a L)) r (.lst (refsOf L'))) := same_new hr'
      have s2 := e1.trans e2
      refine ⟨r, _, rfl, .inl ⟨SqL.of upd_same, fun t2 ht2 => ?_⟩⟩
      have s3 := s2.trans (same_new (o := .tup (refsOf L')) ht2)
      have s4 := hs2.trans s3
      refine ⟨_, rfl, o, CL, dx, _, _, rfl, s4 _ _ a1, T.cl, T.nS, l_stands _ _, ?_⟩
      have hL' : ∀ q ∈ L', q ∈ ks := fun q hq => hsub q (pm.mem_iff.mp hq)
      refine ⟨_, _, dp_of (SqT.of upd_same) (fun q hq => same_tup s3 (hk q (hL' q hq))), dp_of (same_tup s4 a2) (same_lots s4 a3), lotsD_shaped _, lotsD_shaped _, ?_⟩
      have eL : L'.map (·.2) = E' := by
        refine SM.IsD.uniq (P := SM.SeenP n near sh) ⟨asc, fun x => ⟨fun hx => ?_, fun hx => ?_⟩⟩ hE
        · obtain ⟨y, hy, rfl⟩ := List.mem_map.mp hx
          exact (hmem _).mp (List.mem_map.mpr ⟨y, hL' y hy, rfl⟩)
        · obtain ⟨y, hy, rfl⟩ := List.mem_map.mp ((hmem x).mpr hx)
          obtain ⟨z, hz, e⟩ := List.mem_map.mp (hcov y hy)
          exact List.mem_map.mpr ⟨z, pm.mem_iff.mpr hz, e⟩
      have ef : PyData.eqv (lotsD (L'.map (·.2))) (lotsD (ks0.map (·.2))) = decide (sh.length = m ∧ E' = ks0.map (·.2)) := by
        rw [lotsD_eqv, eL]
        exact decide_eq_decide.mpr ⟨fun z => ⟨em, z⟩, fun z => z.2⟩
      exact qv (congrArg V.bl ef) (q _ (hs1.trans s4))
end
end SL
/-! the law's helpers: the source of numbers, permutations, sizes -/
namespace SL
open PySem PySem.Spec PyProof.Rows L2 SX2 SX3

abbrev s_source : Stmt := top 45
abbrev s_draw : Stmt := top 46
abbrev s_perm : Stmt := top 47
abbrev s_ties : Stmt := top 48
abbrev s_size : Stmt := top 49

/-- the source of numbers stands at l -/
structure SrcAt (H : Hp) (l : Addr) : Prop where
  ex : ∃ a b c d e : Int, H l = some (.lst [.int a, .int b, .int c, .int d, .int e])
theorem SrcAt.keep {H H' : Hp} {l : Addr} (h : SrcAt H l) (e : Same H H') : SrcAt H' l := by
  obtain ⟨a, b, c, d, e', h1⟩ := h.ex
  exact ⟨a, b, c, d, e', e _ _ h1⟩
def spSource (K : PySem.W.Frag) : Sp := fun vs H Q _ => ∃ (s : Addr) (ns : List Int) (k : Nat), vs = [.ref s, .int (k : Int)] ∧ SqL K H s (ns.map V.int) ∧ ∀ (l : Addr) (H' : Hp), Same H H' → SrcAt H' l → H l = none → Q (.ref l) H'
def spDraw : Sp := fun vs H Q _ => ∃ (l : Addr) (m : Nat), vs = [.ref l, .int (m : Int)] ∧ SrcAt H l ∧ 1 ≤ m ∧ m ≤ 1000 ∧ ∀ (r : Nat) (H' : Hp), Smb l H H' → SrcAt H' l → r < m → Q (.int (r : Int)) H'
def spPerm : Sp := fun vs H Q _ => ∃ (l : Addr) (m : Nat), vs = [.ref l, .int (m : Int)] ∧ SrcAt H l ∧ m ≤ 8 ∧ ∀ (f : Addr) (od : List Int) (H' : Hp), Smb l H H' → SrcAt H' l → H' f = some (.lst (od.map V.int)) → f ≠ l → SM.Od m od → Q (.ref f) H'
def spSize : Sp := fun vs H Q _ => ∃ (l : Addr), vs = [.ref l, .int ((8 : Nat) : Int)] ∧ SrcAt H l ∧ ∀ (n : Nat) (H' : Hp), Smb l H H' → SrcAt H' l → 1 ≤ n → n ≤ 8 → Q (.int (n : Int)) H'

section
variable {P : Program} {w : World} {K : PySem.W.Frag} {mg : Str → Option Value} {base : Heap} {C CC CL : Addr}
theorem cutV_ints (ns : List Int) (lo hi : Option Int) : ∀ x ∈ cutV (ns.map V.int) lo hi, ∃ i, x = V.int i := fun x hx => by
  unfold cutV at hx
  have h2 := List.mem_of_mem_drop (List.mem_of_mem_take hx)
  obtain ⟨i, _, e⟩ := List.mem_map.mp h2
  exact ⟨i, e.symm⟩
theorem sc_source : FnScope ["_law_script", "_law_k", "_law_fold", "_law_item", "_law_cell"] ["_law_script", "_law_k"] (defScope s_source) := ⟨rfl, rfl, rfl, by decide +kernel, rfl, by decide +kernel, by decide +kernel⟩
theorem ok_source (D : DefAt K mg "_law_source" s_source) (B : Bi mg) : Cal P w K mg base 1 "_law_source" (spSource K) := by
  refine cal_of D sc_source (fun _ _ _ _ _ _ us hl => match us, hl with | [_, _], _ => rfl) (fun vs H Q E h => ?_) (fun f cdv A outer s H vs Q E hr h => ?_)
  · obtain ⟨s, ns, k, rfl, _⟩ := h
    rfl
  · obtain ⟨s', ns, k, rfl, hs, q⟩ := h
    refine ⟨_, pss_cons (ps_set (i := 2) sc_source.nd rfl (.inl rfl) pe_int)
      (pss_cons (ps_for PassesOwn.never rfl (pi_list (pe_slice sl_list (pv 0) po_none (po_some pe_int))) (pg_name (i := 3) sc_source.nd rfl (.inl rfl))
        (pss_one (ps_set (i := 2) sc_source.nd rfl (.inl rfl) (pe_op op_mod (pe_callTy call_int1 (by rfl) B.int b_int (pa_cons (pe_op op_add (pe_op op_add (pe_op op_mul (pv 2) pe_int) (pe_op op_mod (pe_callTy call_int1 (by rfl) B.int b_int (pa_cons (pv 3) pa_nil)) pe_int)) pe_int) pa_nil)) pe_int))))
      (C8.pss_cut (ps_set (i := 4) sc_source.nd rfl (.inl rfl) (pe_ifExp (pt_cmpR op_lt (pv 1) (pe_callB call_len_seq (by rfl) B.len b_len (pa_cons (pv 0) pa_nil)) (nomark _)) (pe_callTy call_int1 (by rfl) B.int b_int (pa_cons (pe_ix ix_list (pv 0) (pv 1) (fun _ _ => rfl)) pa_nil)) pe_int))
      (pss_one (ps_ret (pe_lst (pa_cons (pe_ifExp (pt_cmpR op_ge (pv 4) (pe_op op_pow pe_int pe_int) (nomark _)) (pv 4) pe_int) (pa_cons (pe_op op_mod (pe_callTy call_int1 (by rfl) B.int b_int (pa_cons (pv 4) pa_nil)) pe_int) (pa_cons (pv 2) (pa_cons (pe_op op_add (pv 1) pe_int) (pa_cons pe_int pa_nil)))))))))), ?_⟩
    refine ⟨_, rfl, _, rfl, s', _, rfl, hs, fun l hl => ?_⟩
    have e1 : Same H (upd H l (.lst (cutV (ns.map V.int) none (some 63)))) := same_new hl
    refine ⟨l, rfl, ⟨_, SqL.of upd_same⟩, for_list (K := K) (a := l) (xs := cutV (ns.map V.int) none (some 63)) (fun i σ H' => H' = upd H l (.lst (cutV (ns.map V.int) none (some 63))) ∧ ∃ (fd : Int) (v : Option V), σ = [some (.ref s'), some (.int (k : Int)), some (.int fd), v, none] ∧ 0 ≤ fd ∧ fd < 2147483647)
      ⟨rfl, 31, none, rfl, by decide, by decide⟩ (fun i σ H' _ p => by rw [p.1]; exact SqL.of upd_same) ?_ ?_⟩
    · rintro i x σ H' hx ⟨rfl, fd, v, rfl, f0, f1⟩
      obtain ⟨z, rfl⟩ := cutV_ints ns _ _ x (List.mem_of_getElem? hx)
      refine ⟨_, rfl, _, _, rfl, rfl, .inl ⟨by omega, by omega⟩, _, rfl, .inl ⟨_, rfl, _, _, rfl, rfl, (by show (0 : Int) < 2147483629; decide), _, _, rfl, rfl, _, _, rfl, rfl, .inl ⟨_, rfl, _, _, rfl, rfl, (by show (0 : Int) < 2147483647; decide), rfl, _, _, rfl, Int.emod_nonneg _ (by decide), Int.emod_lt_of_pos _ (by decide)⟩⟩⟩
    · rintro σ H' ⟨rfl, fd, v, rfl, _, _⟩
      have kl : (ns.map V.int).length = ns.length := List.length_map _
      have hs' := e1.seq hs
      refine ⟨fun σ' H' => H' = upd H l (.lst (cutV (ns.map V.int) none (some 63))) ∧ ∃ z : Int, σ' = [some (.ref s'), some (.int (k : Int)), some (.int fd), v, some (.int z)], ?_, ?_⟩
      · refine ⟨_, rfl, _, rfl, s', _, rfl, .inl hs', _, _, rfl, rfl, _, rfl, ?_⟩
        refine ite2 (fun c => ?_) (fun c => ?_)
        · have hk : k < ns.length := by
            have := of_decide_eq_true c
            rw [kl] at this
            omega
          exact ⟨_, rfl, _, rfl, s', _, _, _, rfl, rfl, hs', atI_nat (by rw [List.getElem?_map, List.getElem?_eq_getElem hk]; rfl), .inl ⟨_, rfl, rfl, _, rfl⟩⟩
        · exact ⟨rfl, _, rfl⟩
      · rintro σ' H' ⟨rfl, z, rfl⟩
        have fin : ∀ (l2 : Addr) (a b c d e : Int), (upd H l (.lst (cutV (ns.map V.int) none (some 63)))) l2 = none → Q (.ref l2) (upd (upd H l (.lst (cutV (ns.map V.int) none (some 63)))) l2 (.lst [.int a, .int b, .int c, .int d, .int e])) := fun l2 a b c d e hl2 => q l2 _ (e1.trans (same_new hl2)) ⟨a, b, c, d, e, upd_same⟩ (e1.free hl2)
        refine ⟨_, rfl, _, _, rfl, rfl, ⟨by decide, by decide, by decide⟩, _, _, rfl, rfl, _, rfl, ?_⟩
        refine ite2 (fun _ => ?_) (fun _ => ?_)
        · exact ⟨_, rfl, _, rfl, .inl ⟨_, rfl, _, _, rfl, rfl, (by show (0 : Int) < 2147483629; decide), _, rfl, _, rfl, _, _, rfl, rfl, (by show 5 ≤ sizeLine; decide), fun l2 hl2 => fin l2 _ _ _ _ _ hl2⟩⟩
        · exact ⟨_, rfl, .inl ⟨_, rfl, _, _, rfl, rfl, (by show (0 : Int) < 2147483629; decide), _, rfl, _, rfl, _, _, rfl, rfl, (by show 5 ≤ sizeLine; decide), fun l2 hl2 => fin l2 _ _ _ _ _ hl2⟩⟩

theorem sc_draw : FnScope ["_law_source_here", "_law_many", "_law_got", "_law_number"] ["_law_source_here", "_law_many"] (defScope s_draw) := ⟨rfl, rfl, rfl, by decide +kernel, rfl, by decide +kernel, by decide +kernel⟩
theorem ok_draw (D : DefAt K mg "_law_draw" s_draw) (B : Bi mg) : Cal P w K mg base 1 "_law_draw" spDraw := by
  refine cal_of D sc_draw (fun _ _ _ _ _ _ us hl => match us, hl with | [_, _], _ => rfl) (fun vs H Q E h => ?_) (fun f cdv A outer s H vs Q E hr h => ?_)
  · obtain ⟨l, m, rfl, _⟩ := h
    rfl
  · obtain ⟨l, m, rfl, hs, m1, m2, q⟩ := h
    refine ⟨_, pss_cons (ps_if (pt_cmpR op_gt (pe_ix ix_list (pv 0) pe_int (fun _ _ => rfl)) pe_int (nomark _))
        (pss_cons (ps_set (i := 2) sc_draw.nd rfl (.inl rfl) (pe_op op_mod (pe_callTy call_int1 (by rfl) B.int b_int (pa_cons (pe_ix ix_list (pv 0) pe_int (fun _ _ => rfl)) pa_nil)) (pv 1)))
        (pss_cons (ps_asg (pe_op op_fdiv (pe_ix ix_list (pv 0) pe_int (fun _ _ => rfl)) (pv 1)) (pg_sub (pv 0) pe_int set_list))
        (pss_one (ps_ret (pv 2))))) pss_nil)
      (pss_cons (ps_asg (pe_op op_add (pe_ix ix_list (pv 0) pe_int (fun _ _ => rfl)) pe_int) (pg_sub (pv 0) pe_int set_list))
      (pss_cons (ps_set (i := 3) sc_draw.nd rfl (.inl rfl) (pe_op op_mod (pe_callTy call_int1 (by rfl) B.int b_int (pa_cons (pe_op op_mul (pe_op op_add (pe_op op_add (pe_op op_add (pe_ix ix_list (pv 0) pe_int (fun _ _ => rfl)) (pe_ix ix_list (pv 0) pe_int (fun _ _ => rfl))) (pe_op op_mul pe_int (pe_ix ix_list (pv 0) pe_int (fun _ _ => rfl)))) (pe_op op_mul pe_int (pe_ix ix_list (pv 0) pe_int (fun _ _ => rfl)))) pe_int) pa_nil)) pe_int))
      (pss_cons (ps_set (i := 3) sc_draw.nd rfl (.inl rfl) (pe_op op_mod (pe_callTy call_int1 (by rfl) B.int b_int (pa_cons (pe_op op_mul (pv 3) (pe_op op_add (pe_op op_fdiv (pv 3) pe_int) pe_int)) pa_nil)) pe_int))
      (pss_cons (ps_set (i := 3) sc_draw.nd rfl (.inl rfl) (pe_op op_mod (pe_callTy call_int1 (by rfl) B.int b_int (pa_cons (pe_op op_mul (pv 3) (pe_op op_add (pe_op op_fdiv (pv 3) pe_int) pe_int)) pa_nil)) pe_int))
      (pss_one (ps_ret (pe_op op_mod (pe_callTy call_int1 (by rfl) B.int b_int (pa_cons (pe_op op_fdiv (pv 3) pe_int) pa_nil)) (pv 1)))))))), ?_⟩
    obtain ⟨a, b, c, d, e, h1⟩ := hs.ex
    have mpos : (0 : Int) < (m : Int) := by omega
    have put : ∀ (j : Nat) (x : Int), j < 5 → SrcAt (upd H l (.lst ([V.int a, .int b, .int c, .int d, .int e].set j (.int x)))) l := fun j x hj => by
      match j, hj with
      | 0, _ => exact ⟨x, b, c, d, e, upd_same⟩
      | 1, _ => exact ⟨a, x, c, d, e, upd_same⟩
      | 2, _ => exact ⟨a, b, x, d, e, upd_same⟩
      | 3, _ => exact ⟨a, b, c, x, e, upd_same⟩
      | 4, _ => exact ⟨a, b, c, d, x, upd_same⟩
    have g0 : atI ([.int a, .int b, .int c, .int d, .int e] : List V) 0 = some (.int a) := by rfl
    have g4 : atI ([.int a, .int b, .int c, .int d, .int e] : List V) 4 = some (.int e) := by rfl
    have fin : ∀ (x : Int) (H' : Hp), Smb l H H' → SrcAt H' l → Q (.int (x % (m : Int))) H' := fun x H' k1 k2 => by
      have r0 := Int.emod_nonneg x (show (m : Int) ≠ 0 by omega)
      have r1 := Int.emod_lt_of_pos x mpos
      exact qv (congrArg V.int (show x % (m : Int) = ((x % (m : Int)).toNat : Int) by omega)) (q (x % (m : Int)).toNat H' k1 k2 (by omega))
    refine ⟨_, rfl, l, _, _, _, rfl, rfl, SqL.of h1, g0, _, _, rfl, rfl, _, rfl, ?_⟩
    refine ite2 (fun _ => ?_) (fun _ => ?_)
    · refine ⟨_, rfl, l, _, _, _, rfl, rfl, SqL.of h1, g0, .inl ⟨_, rfl, _, rfl, _, _, rfl, rfl, mpos, ?_⟩⟩
      refine ⟨_, rfl, l, _, _, _, rfl, rfl, SqL.of h1, g0, _, rfl, _, _, rfl, rfl, ⟨mpos, by omega⟩, ?_⟩
      refine ⟨_, rfl, l, _, _, 0, rfl, rfl, h1, rfl, ?_⟩
      exact ⟨_, rfl, fin _ _ smb_upd (put 0 _ (by decide))⟩
    · refine ⟨_, rfl, l, _, _, _, rfl, rfl, SqL.of h1, g4, _, _, rfl, rfl, ?_⟩
      refine ⟨_, rfl, l, _, _, 4, rfl, rfl, h1, rfl, ?_⟩
      have h2 := put 4 (e + 1) (by decide)
      have h1' : (upd H l (.lst ([V.int a, .int b, .int c, .int d, .int e].set 4 (.int (e + 1))))) l = some (.lst [.int a, .int b, .int c, .int d, .int (e + 1)]) := upd_same
      have f1 : atI ([.int a, .int b, .int c, .int d, .int (e + 1)] : List V) 1 = some (.int b) := by rfl
      have f2 : atI ([.int a, .int b, .int c, .int d, .int (e + 1)] : List V) 2 = some (.int c) := by rfl
      have f3 : atI ([.int a, .int b, .int c, .int d, .int (e + 1)] : List V) 3 = some (.int d) := by rfl
      have f4 : atI ([.int a, .int b, .int c, .int d, .int (e + 1)] : List V) 4 = some (.int (e + 1)) := by rfl
      refine ⟨_, rfl, l, _, _, _, rfl, rfl, SqL.of h1', f1, _, rfl, l, _, _, _, rfl, rfl, SqL.of h1', f2, _, _, rfl, rfl, _, rfl, l, _, _, _, rfl, rfl, SqL.of h1', f3, _, _, rfl, rfl, .inl ⟨by decide, by decide⟩, _, _, rfl, rfl, _, rfl, l, _, _, _, rfl, rfl, SqL.of h1', f4, _, _, rfl, rfl, .inl ⟨by decide, by decide⟩, _, _, rfl, rfl, _, _, rfl, rfl, .inr ⟨by decide, by decide⟩, .inl ⟨_, rfl, _, _, rfl, rfl, (by show (0 : Int) < 2147483647; decide), ?_⟩⟩
      generalize hN : (b + c + 7919 * d + 104729 * (e + 1)) * 48271 = N
      have n0 := Int.emod_nonneg N (show (2147483647 : Int) ≠ 0 by decide)
      have n1 := Int.emod_lt_of_pos N (show (0 : Int) < 2147483647 by decide)
      refine ⟨_, rfl, _, rfl, _, _, rfl, rfl, ⟨by decide, by decide⟩, _, _, rfl, rfl, _, _, rfl, rfl, .inl ⟨by omega, by omega⟩, .inl ⟨_, rfl, _, _, rfl, rfl, (by show (0 : Int) < 2147483647; decide), ?_⟩⟩
      generalize hM : N % 2147483647 * (N % 2147483647 / 1009 + 69621) = M
      have p0 := Int.emod_nonneg M (show (2147483647 : Int) ≠ 0 by decide)
      have p1 := Int.emod_lt_of_pos M (show (0 : Int) < 2147483647 by decide)
      refine ⟨_, rfl, _, rfl, _, _, rfl, rfl, ⟨by decide, by decide⟩, _, _, rfl, rfl, _, _, rfl, rfl, .inl ⟨by omega, by omega⟩, .inl ⟨_, rfl, _, _, rfl, rfl, (by show (0 : Int) < 2147483399; decide), ?_⟩⟩
      exact ⟨_, rfl, _, _, rfl, rfl, ⟨by decide, by decide⟩, .inl ⟨_, rfl, _, rfl, _, _, rfl, rfl, mpos, fin _ _ smb_upd h2⟩⟩
end
end SL
/-! the law's helpers: permutations, sizes, ties -/
namespace SL
open PySem PySem.Spec PyProof.Rows L2 SX2 SX3

def spTies (K : PySem.W.Frag) : Sp := fun vs H Q _ => ∃ (l : Addr) (n : Nat), vs = [.ref l, .int (n : Int)] ∧ SrcAt H l ∧ 1 ≤ n ∧ n ≤ 8 ∧ ∀ (t : Addr) (ts : List (Nat × Nat)) (H' : Hp), Smb l H H' → SrcAt H' l → TiesAt K H' t ts → SM.TiesOk n ts → Q (.ref t) H'

theorem rgV_ints (m : Nat) : rgV 0 (m : Int) = (SM.intl (List.range m)).map V.int := by
  unfold rgV SM.intl
  rw [List.map_map, show ((m : Int) - 0).toNat = m by omega]
  exact List.map_congr_left fun i _ => by
    show V.int (0 + (i : Int)) = V.int (i : Int)
    rw [Int.zero_add]
theorem seq_nat {r n : Nat} (h : r < n) : seqIndex? (r : Int) n = some r := by
  have := PySem.StrLaws.seqIndex_nonneg (n := n) (show (0 : Int) ≤ (r : Int) by omega) (by omega)
  rwa [Int.toNat_natCast] at this
theorem ers_map {α β : Type} (f : α → β) : ∀ (l : List α) (i : Nat), (l.map f).eraseIdx i = (l.eraseIdx i).map f
  | [], _ => rfl
  | _ :: _, 0 => rfl
  | a :: l, i + 1 => by
    show f a :: (l.map f).eraseIdx i = f a :: (l.eraseIdx i).map f
    rw [ers_map f l i]
theorem ers_perm {α : Type} : ∀ {l : List α} {i : Nat} (h : i < l.length), (l[i] :: l.eraseIdx i).Perm l
  | a :: l, 0, _ => List.Perm.refl _
  | a :: l, i + 1, h => by
    have h' : i < l.length := by simpa using h
    have ih := ers_perm (l := l) (i := i) h'
    show (l[i] :: a :: l.eraseIdx i).Perm (a :: l)
    exact (List.Perm.swap _ _ _).trans (ih.cons a)
theorem src_ne {H : Hp} {l a : Addr} {xs : List V} (h : SrcAt H l) (ha : H a = some (.tup xs)) : a ≠ l := fun e => by
  obtain ⟨_, _, _, _, _, h1⟩ := h.ex
  rw [e, h1] at ha; cases ha

section
variable {P : Program} {w : World} {K : PySem.W.Frag} {mg : Str → Option Value} {base : Heap} {C CC CL : Addr}
theorem sc_perm : FnScope ["_law_source_here", "_law_many", "_law_left", "_law_found", "_law_k"] ["_law_source_here", "_law_many"] (defScope s_perm) := ⟨rfl, rfl, rfl, by decide +kernel, rfl, by decide +kernel, by decide +kernel⟩
theorem ok_perm (D : DefAt K mg "_law_perm" s_perm) (B : Bi mg) (c1 : Cal P w K mg base 1 "_law_draw" spDraw) : Cal P w K mg base 2 "_law_perm" spPerm := by
  refine cal_of D sc_perm (fun _ _ _ _ _ _ us hl => match us, hl with | [_, _], _ => rfl) (fun vs H Q E h => ?_) (fun f cdv A outer s H vs Q E hr h => ?_)
  · obtain ⟨l, m, rfl, _⟩ := h
    rfl
  · obtain ⟨l, m, rfl, hs, m8, q⟩ := h
    refine ⟨_, pss_cons (ps_set (i := 2) sc_perm.nd rfl (.inl rfl) (pe_listRg rfl (by rfl) B.list (prg_1 (by rfl) B.range (pv 1))))
      (pss_cons (ps_set (i := 3) sc_perm.nd rfl (.inl rfl) (pe_lst pa_nil))
      (pss_cons (ps_for PassesOwn.never rfl (pi_range1 (by rfl) B.range (pa_cons (pv 1) pa_nil)) (pg_name (i := 4) sc_perm.nd rfl (.inl rfl))
        (pss_one (ps_expr (pe_bm PySem.F.plainAttrs_list PySem.F.slot_list_append PySem.F.type_list_append mt_append (pv 3) (pa_cons
          (pe_bm PySem.F.plainAttrs_list PySem.F.slot_list_pop PySem.F.type_list_pop mt_popAt (pv 2) (pa_cons (pe_c c1 hr (Nat.le_refl _) rfl (pa_cons (pv 0) (pa_cons (pe_callB call_len_seq (by rfl) B.len b_len (pa_cons (pv 2) pa_nil)) pa_nil))) pa_nil)) pa_nil)))))
      (pss_one (ps_ret (pv 3))))), ?_⟩
    refine ⟨_, rfl, (m : Int), rfl, RgOk.of_le (by decide) (by omega) (by decide) (by omega), fun a ha => ?_⟩
    rw [rgV_ints]
    refine ⟨Nat.zero_le _, fun fo hfo => ?_⟩
    have naf : a ≠ fo := fun e => by rw [e, upd_same] at hfo; cases hfo
    have hfoH : H fo = none := by rw [upd_ne (Ne.symm naf)] at hfo; exact hfo
    obtain ⟨x1, x2, x3, x4, x5, hsrc⟩ := id hs.ex
    have nal : a ≠ l := Ne.symm (ne_of_none hsrc ha)
    have nfl : fo ≠ l := Ne.symm (ne_of_none hsrc hfoH)
    have s1 : Same H (upd (upd H a (.lst ((SM.intl (List.range m)).map V.int))) fo (.lst [])) := fun b o e => by rw [upd_ne (ne_of_none e hfoH), upd_ne (ne_of_none e ha)]; exact e
    refine ⟨_, rfl, (m : Int), rfl, by omega, by omega, for_range (lo := 0) (n := m) (fun i σ H' => ∃ (ls fs : List Int) (v4 : Option V), σ = [some (.ref l), some (.int (m : Int)), some (.ref a), some (.ref fo), v4] ∧ Smb l H H' ∧ SrcAt H' l ∧ H' a = some (.lst (ls.map V.int)) ∧ H' fo = some (.lst (fs.map V.int)) ∧ ls.length + i = m ∧ fs.length = i ∧ (fs ++ ls).Perm (SM.intl (List.range m)))
      ⟨SM.intl (List.range m), [], none, rfl, Same.smb s1, hs.keep s1, by rw [upd_ne naf]; exact upd_same, upd_same, by rw [SM.ints_len, List.length_range]; rfl, rfl, List.Perm.refl _⟩ ?_ ?_⟩
    · rintro i σ H' hi ⟨ls, fs, v4, rfl, k1, k2, k3, k4, k5, k6, k7⟩
      have kl : (ls.map V.int).length = ls.length := List.length_map _
      refine ⟨_, rfl, .inl ⟨rfl, _, SqL.of k4⟩, _, rfl, .inl ⟨rfl, _, SqL.of k3⟩, _, rfl, _, rfl, a, _, rfl, .inl (SqL.of k3), l, ls.length, by rw [kl]; rfl, k2, by omega, by omega, fun r H2 j1 j2 hr' => ?_⟩
      have k3' := j1 _ _ nal k3
      have k4' := j1 _ _ nfl k4
      have hg : (ls.map V.int)[r]? = some (.int ls[r]) := by rw [List.getElem?_map, List.getElem?_eq_getElem hr']; rfl
      refine ⟨a, _, (r : Int), r, _, rfl, rfl, k3', by omega, by omega, seq_nat (by rw [kl]; exact hr'), hg, ?_⟩
      refine ⟨fo, _, _, rfl, rfl, Eq.trans (upd_ne (Ne.symm naf)) k4', by rw [List.length_map]; exact small_sz (by omega), ?_⟩
      have haH : H a = none := ha
      refine ⟨ls.eraseIdx r, fs ++ [ls[r]], _, rfl, fun b o hb e => ?_, ?_, ?_, ?_, ?_, ?_, ?_⟩
      · rw [upd_ne (ne_of_none e hfoH), upd_ne (ne_of_none e haH)]; exact j1 _ _ hb (k1 _ _ hb e)
      · obtain ⟨y1, y2, y3, y4, y5, hy⟩ := j2.ex
        exact ⟨y1, y2, y3, y4, y5, by rw [upd_ne (Ne.symm nfl), upd_ne (Ne.symm nal)]; exact hy⟩
      · rw [upd_ne naf, upd_same, ers_map]
      · rw [upd_same, List.map_append]; rfl
      · rw [List.length_eraseIdx_of_lt hr']; omega
      · rw [List.length_append, k6]; rfl
      · have p1 : (ls[r] :: ls.eraseIdx r).Perm ls := ers_perm hr'
        have p2 : (fs ++ [ls[r]] ++ ls.eraseIdx r).Perm (fs ++ ls) := by rw [List.append_assoc]; exact p1.append_left fs
        exact p2.trans k7
    · rintro σ H' ⟨ls, fs, v4, rfl, k1, k2, k3, k4, k5, k6, k7⟩
      have e0 : ls = [] := List.eq_nil_of_length_eq_zero (by omega)
      rw [e0, List.append_nil] at k7
      exact ⟨_, rfl, q fo fs H' k1 k2 k4 nfl ⟨k7⟩⟩

theorem sc_size : FnScope ["_law_source_here", "_law_most"] ["_law_source_here", "_law_most"] (defScope s_size) := ⟨rfl, rfl, rfl, by decide +kernel, rfl, by decide +kernel, by decide +kernel⟩
theorem ok_size (D : DefAt K mg "_law_size" s_size) (B : Bi mg) (c1 : Cal P w K mg base 1 "_law_draw" spDraw) : Cal P w K mg base 2 "_law_size" spSize := by
  refine cal_of D sc_size (fun _ _ _ _ _ _ us hl => match us, hl with | [_, _], _ => rfl) (fun vs H Q E h => ?_) (fun f cdv A outer s H vs Q E hr h => ?_)
  · obtain ⟨l, rfl, _⟩ := h
    rfl
  · obtain ⟨l, rfl, hs, q⟩ := h
    refine ⟨_, pss_one (ps_ret (pe_ifExp (pt_cmpR op_gt (pe_c c1 hr (Nat.le_refl _) rfl (pa_cons (pv 0) (pa_cons pe_int pa_nil))) pe_int (nomark _))
      (pe_callB (call_max2 rfl) (by rfl) B.max b_max (pa_cons pe_int (pa_cons (pe_op op_sub (pv 1) (pe_c c1 hr (Nat.le_refl _) rfl (pa_cons (pv 0) (pa_cons pe_int pa_nil)))) pa_nil)))
      (pe_op op_add pe_int (pe_c c1 hr (Nat.le_refl _) rfl (pa_cons (pv 0) (pa_cons (pv 1) pa_nil)))))), ?_⟩
    refine ⟨_, rfl, l, 3, rfl, hs, by decide, by decide, fun r H1 k1 k2 hr1 => ⟨_, _, rfl, rfl, _, rfl, ?_⟩⟩
    refine ite2 (fun _ => ?_) (fun _ => ?_)
    · refine ⟨_, rfl, _, rfl, l, 3, rfl, k2, by decide, by decide, fun r2 H2 j1 j2 hr2 => ⟨_, _, rfl, rfl, _, _, rfl, ?_⟩⟩
      have e : (if ((8 : Nat) : Int) - (r2 : Int) > 1 then ((8 : Nat) : Int) - (r2 : Int) else 1) = ((8 - r2 : Nat) : Int) := by
        rw [if_pos (by omega)]; omega
      exact qv (congrArg V.int e) (q (8 - r2) H2 (Smb.trans k1 j1) j2 (by omega) (by omega))
    · refine ⟨_, rfl, _, rfl, l, 8, rfl, k2, by decide, by decide, fun r2 H2 j1 j2 hr2 => ⟨_, _, rfl, rfl, ?_⟩⟩
      exact qv (congrArg V.int (show (1 : Int) + (r2 : Int) = ((1 + r2 : Nat) : Int) by omega)) (q (1 + r2) H2 (Smb.trans k1 j1) j2 (by omega) (by omega))

theorem sc_ties : FnScope ["_law_source_here", "_law_size_here", "_law_style", "_law_names", "_law_found", "_law_one", "_law_other", "_law_pair", "_law_take"] ["_law_source_here", "_law_size_here"] (defScope s_ties) := ⟨rfl, rfl, rfl, by decide +kernel, rfl, by decide +kernel, by decide +kernel⟩
def pairL (nm : List Int) (i j : Nat) : List Int := [(SM.pairOf nm i j).1, (SM.pairOf nm i j).2]
theorem ties_end {K : PySem.W.Frag} {H : Hp} {t : Addr} {n : Nat} {nm : List Int} {ks : List (Addr × List Int)} (od : SM.Od n nm) (ht : H t = some (.tup (refsOf ks))) (hk : ∀ q ∈ ks, H q.1 = some (.tup (q.2.map V.int)))
    (hp : ∀ q ∈ ks, ∃ a b, b < a ∧ a < n ∧ q.2 = pairL nm a b) (asc : SM.Asc (ks.map (·.2))) : ∃ ts, TiesAt K H t ts ∧ SM.TiesOk n ts := by
  refine ⟨ks.map fun q => ((q.2.getD 0 0).toNat, (q.2.getD 1 0).toNat), ⟨ks.map fun q => (q.1, (q.2.getD 0 0).toNat, (q.2.getD 1 0).toNat), ?_, fun p hp' => ?_, by rw [List.map_map]; rfl⟩, ⟨fun u hu => ?_, ?_⟩⟩
  · unfold tRefs
    rw [List.map_map]
    exact SqT.of ht
  · obtain ⟨q, hq, rfl⟩ := List.mem_map.mp hp'
    obtain ⟨a, b, hb, ha, e⟩ := hp q hq
    obtain ⟨b1, b2, b3⟩ := SM.pairOf_bd od hb ha
    have e2 := hk q hq
    rw [e] at e2
    refine SqT.of (e2.trans (congrArg (fun l => some (HO.tup l)) ?_))
    rw [e]
    show [V.int (SM.pairOf nm a b).1, V.int (SM.pairOf nm a b).2] = [V.int (((SM.pairOf nm a b).1.toNat : Nat) : Int), V.int (((SM.pairOf nm a b).2.toNat : Nat) : Int)]
    rw [Int.toNat_of_nonneg b1, Int.toNat_of_nonneg (by omega)]
  · obtain ⟨q, hq, rfl⟩ := List.mem_map.mp hu
    obtain ⟨a, b, hb, ha, e⟩ := hp q hq
    obtain ⟨b1, b2, b3⟩ := SM.pairOf_bd od hb ha
    rw [e]
    show (SM.pairOf nm a b).1.toNat < (SM.pairOf nm a b).2.toNat ∧ (SM.pairOf nm a b).2.toNat < n
    omega
  · refine List.pairwise_map.mpr ((List.pairwise_map.mp asc).imp_of_mem fun {p q} hp1 hq1 o => ?_)
    obtain ⟨a, b, hb, ha, e⟩ := hp p hp1
    obtain ⟨c, d, hd, hc, e'⟩ := hp q hq1
    obtain ⟨b1, b2, b3⟩ := SM.pairOf_bd od hb ha
    obtain ⟨d1, d2, d3⟩ := SM.pairOf_bd od hd hc
    rw [e, e'] at o ⊢
    show (SM.pairOf nm a b).1.toNat < (SM.pairOf nm c d).1.toNat ∨ ((SM.pairOf nm a b).1.toNat = (SM.pairOf nm c d).1.toNat ∧ (SM.pairOf nm a b).2.toNat < (SM.pairOf nm c d).2.toNat)
    replace o : (if (SM.pairOf nm a b).1 = (SM.pairOf nm c d).1 then (if (SM.pairOf nm a b).2 = (SM.pairOf nm c d).2 then false else decide ((SM.pairOf nm a b).2 < (SM.pairOf nm c d).2)) else decide ((SM.pairOf nm a b).1 < (SM.pairOf nm c d).1)) = true := o
    by_cases z : (SM.pairOf nm a b).1 = (SM.pairOf nm c d).1
    · rw [if_pos z] at o
      by_cases z2 : (SM.pairOf nm a b).2 = (SM.pairOf nm c d).2
      · rw [if_pos z2] at o; cases o
      · rw [if_neg z2] at o
        have := of_decide_eq_true o
        omega
    · rw [if_neg z] at o
      have := of_decide_eq_true o
      omega
theorem ok_ties (D : DefAt K mg "_law_ties" s_ties) (B : Bi mg) (c1 : Cal P w K mg base 1 "_law_draw" spDraw) (c2 : Cal P w K mg base 2 "_law_perm" spPerm) : Cal P w K mg base 3 "_law_ties" (spTies K) := by
  refine cal_of D sc_ties (fun _ _ _ _ _ _ us hl => match us, hl with | [_, _], _ => rfl) (fun vs H Q E h => ?_) (fun f cdv A outer s H vs Q E hr h => ?_)
  · obtain ⟨l, n, rfl, _⟩ := h
    rfl
  · obtain ⟨l, n, rfl, hs, n1, n8, q⟩ := h
    refine ⟨_, pss_cons (ps_set (i := 2) sc_ties.nd rfl (.inl rfl) (pe_c c1 hr (by decide) rfl (pa_cons (pv 0) (pa_cons pe_int pa_nil))))
      (pss_cons (ps_set (i := 3) sc_ties.nd rfl (.inl rfl) (pe_c c2 hr (Nat.le_refl _) rfl (pa_cons (pv 0) (pa_cons (pv 1) pa_nil))))
      (pss_cons (ps_set (i := 4) sc_ties.nd rfl (.inl rfl) (pe_lst pa_nil))
      (pss_cons (ps_for PassesOwn.never rfl (pi_range1 (by rfl) B.range (pa_cons (pv 1) pa_nil)) (pg_name (i := 5) sc_ties.nd rfl (.inl rfl))
        (pss_one (ps_for PassesOwn.never rfl (pi_range1 (by rfl) B.range (pa_cons (pv 5) pa_nil)) (pg_name (i := 6) sc_ties.nd rfl (.inl rfl))
          (pss_cons (ps_set (i := 7) sc_ties.nd rfl (.inl rfl) (pe_tup (pa_cons (pe_callB (call_min2 rfl) (by rfl) B.min b_min (pa_cons (pe_ix ix_list (pv 3) (pv 5) (fun _ _ => rfl)) (pa_cons (pe_ix ix_list (pv 3) (pv 6) (fun _ _ => rfl)) pa_nil))) (pa_cons (pe_callB (call_max2 rfl) (by rfl) B.max b_max (pa_cons (pe_ix ix_list (pv 3) (pv 5) (fun _ _ => rfl)) (pa_cons (pe_ix ix_list (pv 3) (pv 6) (fun _ _ => rfl)) pa_nil))) pa_nil))))
          (C8.pss_cut (ps_if (pt_cmpR op_eq (pv 2) pe_int (nomark _)) (pss_one (ps_set (i := 8) sc_ties.nd rfl (.inl rfl) (pe_or (pe_cmpR op_eq (pe_op op_add (pv 6) pe_int) (pv 5) (nomark _)) (pe_one (pe_and (pe_cmpR op_eq (pv 6) pe_int (nomark _)) (pe_and (pe_cmpR op_eq (pv 5) (pe_op op_sub (pv 1) pe_int) (nomark _)) (pe_one (pe_cmpR op_eq (pe_c c1 hr (by decide) rfl (pa_cons (pv 0) (pa_cons pe_int pa_nil))) pe_int (nomark _))))))))) (pss_one (ps_if (pt_cmpR op_eq (pv 2) pe_int (nomark _)) (pss_one (ps_set (i := 8) sc_ties.nd rfl (.inl rfl) (pe_cmpR op_eq (pe_callTy call_int1 (by rfl) B.int b_int (pa_cons (pe_op op_fdiv (pv 5) pe_int) pa_nil)) (pe_callTy call_int1 (by rfl) B.int b_int (pa_cons (pe_op op_fdiv (pv 6) pe_int) pa_nil)) (nomark _)))) (pss_one (ps_if (pt_cmpR op_eq (pv 2) pe_int (nomark _)) (pss_one (ps_set (i := 8) sc_ties.nd rfl (.inl rfl) (pe_and (pe_cmpR op_ne (pe_op op_mod (pe_callTy call_int1 (by rfl) B.int b_int (pa_cons (pv 5) pa_nil)) pe_int) (pe_op op_mod (pe_callTy call_int1 (by rfl) B.int b_int (pa_cons (pv 6) pa_nil)) pe_int) (nomark _)) (pe_one (pe_cmpR op_gt (pe_c c1 hr (by decide) rfl (pa_cons (pv 0) (pa_cons pe_int pa_nil))) pe_int (nomark _)))))) (pss_one (ps_if (pt_cmpR op_eq (pv 2) pe_int (nomark _)) (pss_one (ps_set (i := 8) sc_ties.nd rfl (.inl rfl) (pe_cmpR op_gt (pe_c c1 hr (by decide) rfl (pa_cons (pv 0) (pa_cons pe_int pa_nil))) pe_int (nomark _)))) (pss_one (ps_set (i := 8) sc_ties.nd rfl (.inl rfl) (pe_cmpR op_lt (pe_c c1 hr (by decide) rfl (pa_cons (pv 0) (pa_cons pe_int pa_nil))) (pe_op op_sub (pv 2) pe_int) (nomark _)))))))))))
          (pss_one (ps_if (pt_val (pv 8)) (pss_one (ps_expr (pe_bm PySem.F.plainAttrs_list PySem.F.slot_list_append PySem.F.type_list_append mt_append (pv 4) (pa_cons (pv 7) pa_nil)))) pss_nil)))))))
      (pss_one (ps_ret (pe_callTy call_tuple_of (by rfl) B.tuple b_tuple (pa_cons (pe_callB (cr_sortL hr.units) (by rfl) B.sorted b_sorted (pa_cons (pv 4) pa_nil)) pa_nil))))))), ?_⟩
    refine ⟨_, rfl, l, 7, rfl, hs, by decide, by decide, fun sy H1 k1 k2 hsy => ?_⟩
    refine ⟨_, rfl, _, rfl, l, n, rfl, k2, n8, fun fn nm H2 j1 j2 hnm nfl od => ?_⟩
    refine ⟨Nat.zero_le _, fun fo hfo => ?_⟩
    have k12 := Smb.trans k1 j1
    obtain ⟨x1, x2, x3, x4, x5, hsrc⟩ := id hs.ex
    obtain ⟨y1, y2, y3, y4, y5, hsrc2⟩ := id j2.ex
    have nol : fo ≠ l := fun e => by rw [e, hsrc2] at hfo; cases hfo
    have nof : fo ≠ fn := fun e => by rw [e, hnm] at hfo; cases hfo
    have hfoH : ∀ b o, b ≠ l → H b = some o → b ≠ fo := fun b o hb e z => by
      have := k12 b o hb e
      rw [z, hfo] at this; cases this
    have hln : nm.length = n := od.len
    have kn : (nm.map V.int).length = nm.length := List.length_map _
    have atn : ∀ i, i < n → atI (nm.map V.int) (i : Int) = some (.int (nm.getD i 0)) := fun i hi => atI_nat (by
      rw [List.getElem?_map, List.getD_eq_getElem?_getD, List.getElem?_eq_getElem (by omega : i < nm.length)]; rfl)
    refine ⟨_, rfl, (n : Int), rfl, by omega, by omega, for_range (lo := 0) (n := n) (fun i σ H' => ∃ (ks : List (Addr × List Int)) (v5 v6 v7 v8 : Option V), σ = [some (.ref l), some (.int (n : Int)), some (.int (sy : Int)), some (.ref fn), some (.ref fo), v5, v6, v7, v8] ∧
        Smb l H H' ∧ SrcAt H' l ∧ H' fn = some (.lst (nm.map V.int)) ∧ H' fo = some (.lst (refsOf ks)) ∧ (∀ q ∈ ks, H' q.1 = some (.tup (q.2.map V.int))) ∧ (ks.map (·.2)).Nodup ∧ (∀ q ∈ ks, ∃ a b, b < a ∧ a < i ∧ q.2 = pairL nm a b) ∧ ks.length ≤ 8 * i)
      ⟨[], none, none, none, none, rfl, fun b o hb e => by rw [upd_ne (hfoH b o hb e)]; exact k12 b o hb e, ⟨y1, y2, y3, y4, y5, by rw [upd_ne (Ne.symm nol)]; exact hsrc2⟩, by rw [upd_ne (Ne.symm nof)]; exact hnm, upd_same, fun q hq => (by cases hq), List.nodup_nil, fun q hq => (by cases hq), Nat.zero_le _⟩ ?_ ?_⟩
    · rintro i σ H' hi ⟨ks, v5, v6, v7, v8, rfl, a1, a2, a3, a4, a5, a6, a7, a8⟩
      rw [Int.zero_add]
      refine ⟨_, rfl, (i : Int), rfl, by omega, by omega, for_range (lo := 0) (n := i) (fun j σ H' => ∃ (ks : List (Addr × List Int)) (v6 v7 v8 : Option V), σ = [some (.ref l), some (.int (n : Int)), some (.int (sy : Int)), some (.ref fn), some (.ref fo), some (.int (i : Int)), v6, v7, v8] ∧
          Smb l H H' ∧ SrcAt H' l ∧ H' fn = some (.lst (nm.map V.int)) ∧ H' fo = some (.lst (refsOf ks)) ∧ (∀ q ∈ ks, H' q.1 = some (.tup (q.2.map V.int))) ∧ (ks.map (·.2)).Nodup ∧ (∀ q ∈ ks, ∃ a b, b < a ∧ (a < i ∨ (a = i ∧ b < j)) ∧ q.2 = pairL nm a b) ∧ ks.length ≤ 8 * i + j)
        ⟨ks, _, _, _, rfl, a1, a2, a3, a4, a5, a6, fun q hq => (by obtain ⟨a, b, h1, h2, h3⟩ := a7 q hq; exact ⟨a, b, h1, .inl h2, h3⟩), by omega⟩ ?_ ?_⟩
      · rintro j σ H3 hj ⟨ks, v6, v7, v8, rfl, a1, a2, a3, a4, a5, a6, a7, a8⟩
        rw [Int.zero_add]
        refine ⟨_, rfl, _, rfl, fn, _, _, _, rfl, rfl, SqL.of a3, atn i hi, _, rfl, _, rfl, fn, _, _, _, rfl, rfl, SqL.of a3, atn j (by omega), _, _, rfl, _, rfl, _, rfl, fn, _, _, _, rfl, rfl, SqL.of a3, atn i hi, _, rfl, _, rfl, fn, _, _, _, rfl, rfl, SqL.of a3, atn j (by omega), _, _, rfl, (by show 2 ≤ sizeLine; decide), fun t ht => ?_⟩
        have s4 : Same H3 (upd H3 t (.tup [.int (SM.pairOf nm i j).1, .int (SM.pairOf nm i j).2])) := same_new ht
        have c2' := a2.keep s4
        refine ⟨fun σ' H' => ∃ b, σ' = [some (.ref l), some (.int (n : Int)), some (.int (sy : Int)), some (.ref fn), some (.ref fo), some (.int (i : Int)), some (.int (j : Int)), some (.ref t), some (.bl b)] ∧ Smb l (upd H3 t (.tup [.int (SM.pairOf nm i j).1, .int (SM.pairOf nm i j).2])) H' ∧ SrcAt H' l, ?_, ?_⟩
        · refine ⟨_, rfl, rfl, _, rfl, ite2 (fun _ => ?_) (fun _ => ?_)⟩
          · refine ⟨_, rfl, _, _, rfl, rfl, _, rfl, rfl, _, rfl, ite2 (fun _ => ?_) (fun _ => ?_)⟩
            · exact ⟨true, rfl, Smb.refl _ _, c2'⟩
            · refine ⟨_, rfl, rfl, _, rfl, ite2 (fun _ => ?_) (fun _ => ?_)⟩
              · refine ⟨_, rfl, _, rfl, _, _, rfl, rfl, rfl, _, rfl, ite2 (fun _ => ?_) (fun _ => ?_)⟩
                · exact ⟨_, rfl, l, 2, rfl, c2', by decide, by decide, fun r H5 b1 b2 _ => ⟨rfl, _, rfl, b1, b2⟩⟩
                · exact ⟨false, rfl, Smb.refl _ _, c2'⟩
              · exact ⟨false, rfl, Smb.refl _ _, c2'⟩
          · refine ⟨_, rfl, rfl, _, rfl, ite2 (fun _ => ?_) (fun _ => ?_)⟩
            · exact ⟨_, rfl, _, _, rfl, rfl, ⟨by decide, by decide⟩, .inl ⟨_, rfl, _, rfl, _, _, rfl, rfl, ⟨by decide, by decide⟩, .inl ⟨_, rfl, rfl, _, rfl, Smb.refl _ _, c2'⟩⟩⟩
            · refine ⟨_, rfl, rfl, _, rfl, ite2 (fun _ => ?_) (fun _ => ?_)⟩
              · refine ⟨_, rfl, .inl ⟨_, rfl, _, _, rfl, rfl, (by show (0 : Int) < 2; decide), _, rfl, .inl ⟨_, rfl, _, _, rfl, rfl, (by show (0 : Int) < 2; decide), rfl, _, rfl, ite2 (fun _ => ?_) (fun _ => ?_)⟩⟩⟩
                · exact ⟨_, rfl, l, 3, rfl, c2', by decide, by decide, fun r H5 b1 b2 _ => ⟨_, _, rfl, rfl, _, rfl, b1, b2⟩⟩
                · exact ⟨false, rfl, Smb.refl _ _, c2'⟩
              · refine ⟨_, rfl, rfl, _, rfl, ite2 (fun _ => ?_) (fun _ => ?_)⟩
                · exact ⟨_, rfl, l, 5, rfl, c2', by decide, by decide, fun r H5 b1 b2 _ => ⟨_, _, rfl, rfl, _, rfl, b1, b2⟩⟩
                · exact ⟨_, rfl, l, 6, rfl, c2', by decide, by decide, fun r H5 b1 b2 _ => ⟨_, rfl, _, _, rfl, rfl, _, _, rfl, rfl, _, rfl, b1, b2⟩⟩
        · rintro σ' H5 ⟨b, rfl, b1, b2⟩
          have keep5 : ∀ x o, x ≠ l → H3 x = some o → H5 x = some o := fun x o hx e => b1 _ _ hx (s4 _ _ e)
          have ntl : t ≠ l := fun e => by
            obtain ⟨_, _, _, _, _, z⟩ := a2.ex
            rw [e, z] at ht; cases ht
          have t5 : H5 t = some (.tup [.int (SM.pairOf nm i j).1, .int (SM.pairOf nm i j).2]) := b1 _ _ ntl upd_same
          have a3' := keep5 _ _ nfl a3
          have a4' := keep5 _ _ nol a4
          have a5' : ∀ q ∈ ks, H5 q.1 = some (.tup (q.2.map V.int)) := fun q hq => keep5 _ _ (src_ne a2 (a5 q hq)) (a5 q hq)
          have a1' : Smb l H H5 := fun x o hx e => keep5 _ _ hx (a1 x o hx e)
          refine ⟨_, rfl, b, rfl, ite2 (fun _ => ?_) (fun _ => ?_)⟩
          · refine ⟨_, rfl, .inl ⟨rfl, _, SqL.of a4'⟩, _, rfl, fo, _, _, rfl, rfl, a4', by rw [List.length_map]; exact small_sz (by omega), ?_⟩
            have tne : ∀ x xs, H5 x = some (.tup xs) → x ≠ fo := fun x xs h e => by rw [e, a4'] at h; cases h
            refine ⟨ks ++ [(t, pairL nm i j)], _, _, _, rfl, fun x o hx e => ?_, ?_, ?_, ?_, fun q hq => ?_, ?_, fun q hq => ?_, ?_⟩
            · rw [upd_ne (hfoH x o hx e)]; exact a1' x o hx e
            · obtain ⟨z1, z2, z3, z4, z5, z⟩ := b2.ex
              exact ⟨z1, z2, z3, z4, z5, by rw [upd_ne (Ne.symm nol)]; exact z⟩
            · rw [upd_ne (Ne.symm nof)]; exact a3'
            · rw [upd_same]; unfold refsOf; rw [List.map_append]; rfl
            · rcases List.mem_append.mp hq with z | z
              · rw [upd_ne (tne _ _ (a5' q z))]; exact a5' q z
              · rw [List.mem_singleton.mp z]
                show (upd H5 fo _) t = _
                rw [upd_ne (tne _ _ t5)]; exact t5
            · rw [List.map_append]
              refine List.nodup_append.mpr ⟨a6, by simp, fun x hx y hy e => ?_⟩
              rw [List.mem_singleton.mp hy] at e
              obtain ⟨r, hr', er⟩ := List.mem_map.mp hx
              obtain ⟨a, c, h1, h2, h3⟩ := a7 r hr'
              rw [← er, h3] at e
              have e1 : SM.pairOf nm a c = SM.pairOf nm i j := by
                have z1 := (List.cons.inj e).1
                have z2 := (List.cons.inj (List.cons.inj e).2).1
                exact Prod.ext z1 z2
              obtain ⟨w1, w2⟩ := SM.pairOf_inj od h1 (by omega) hj hi e1
              omega
            · rcases List.mem_append.mp hq with z | z
              · obtain ⟨a, c, h1, h2, h3⟩ := a7 q z
                exact ⟨a, c, h1, by omega, h3⟩
              · rw [List.mem_singleton.mp z]
                exact ⟨i, j, hj, .inr ⟨rfl, by omega⟩, rfl⟩
            · rw [List.length_append, List.length_singleton]; omega
          · exact ⟨ks, _, _, _, rfl, a1', b2, a3', a4', a5', a6, fun q hq => (by obtain ⟨a, c, h1, h2, h3⟩ := a7 q hq; exact ⟨a, c, h1, by omega, h3⟩), by omega⟩
      · rintro σ H3 ⟨ks, v6, v7, v8, rfl, a1, a2, a3, a4, a5, a6, a7, a8⟩
        exact ⟨ks, _, _, _, _, rfl, a1, a2, a3, a4, a5, a6, fun q hq => (by obtain ⟨a, b, h1, h2, h3⟩ := a7 q hq; exact ⟨a, b, h1, by omega, h3⟩), by omega⟩
    · rintro σ H' ⟨ks, v5, v6, v7, v8, rfl, a1, a2, a3, a4, a5, a6, a7, a8⟩
      refine ⟨_, rfl, fo, ks, rfl, SqL.of a4, fun q hq => SqT.of (a5 q hq), fun ks' p pm pw hp => ?_⟩
      refine ⟨p, _, rfl, .inl ⟨SqL.of upd_same, fun t ht => ?_⟩⟩
      have pm2 : (ks'.map (·.2)).Perm (ks.map (·.2)) := pm.map _
      have e1 : Same H' (upd (upd H' p (.lst (refsOf ks'))) t (.tup (refsOf ks'))) := (same_new hp).trans (same_new ht)
      obtain ⟨ts, T1, T2⟩ := ties_end (K := K) (t := t) od upd_same (fun q hq => e1 _ _ (a5 q (pm.mem_iff.mp hq))) (fun q hq => a7 q (pm.mem_iff.mp hq)) (SM.asc_of (List.pairwise_map.mpr pw) (pm2.nodup_iff.mpr a6))
      exact q t ts _ (Smb.trans a1 (Same.smb e1)) (a2.keep e1) T1 T2
end
end SL
/-! the law's helpers: masks, lots, rests, what is seen -/
namespace SL
open PySem PySem.Spec PyProof.Rows L2 SX2 SX3

abbrev s_near : Stmt := top 50
abbrev s_llot : Stmt := top 51
abbrev s_lisrest : Stmt := top 52
abbrev s_lrests : Stmt := top 53
abbrev s_flag : Stmt := top 54
abbrev s_lseen : Stmt := top 55
abbrev s_some : Stmt := top 56
abbrev s_ren : Stmt := top 57

def rAndN : R2 := fun x y H Q => ∃ n m : Nat, x = .int (n : Int) ∧ y = .int (m : Int) ∧ Q (.int ((n &&& m : Nat) : Int)) H
def rShrM : R2 := fun x y H Q => ∃ n k : Nat, x = .int (n : Int) ∧ y = .int (k : Int) ∧ Q (.int ((n / 2 ^ k : Nat) : Int)) H
def rTupL (K : PySem.W.Frag) : List V → Hp → VK → Prop := fun xs H Q => ∃ p ys, xs = [.ref p] ∧ SqL K H p ys ∧ ∀ l, H l = none → Q (.ref l) (upd H l (.tup ys))
section
variable {X : Cx}
theorem op_andM : OpR X (binaryOp .BitAnd) rAndN := op_andN
theorem op_shrL : OpR X (binaryOp .RShift) rShrM := op_shrM
theorem call_tupL : CallR X (.type "tuple") (rTupL X.K) := by
  intro pins s σ H xs us Q I r h
  obtain ⟨p, ys, e, h1, h2⟩ := h
  exact call_tuple_of pins s σ H xs us Q I r ⟨p, ys, e, .inl ⟨h1, h2⟩⟩
end
def spNear (K : PySem.W.Frag) : Sp := fun vs H Q _ => ∃ (n : Nat) (t : Addr) (ts : List (Nat × Nat)), vs = [.int (n : Int), .ref t] ∧ n ≤ 24 ∧ TiesAt K H t ts ∧ (∀ u ∈ ts, u.1 < u.2 ∧ u.2 < n) ∧ ∀ (l : Addr) (H' : Hp), Same H H' → H' l = some (.lst (nV (SM.nearOf n ts))) → Q (.ref l) H'
def spLLot : Sp := fun vs H Q _ => ∃ b n : Nat, vs = [.int (b : Int), .int (n : Int)] ∧ b < 2 ^ n ∧ n ≤ 8 ∧ ∀ (t : Addr) (H' : Hp), Same H H' → H' t = some (.tup ((SM.lotI b).map V.int)) → Q (.ref t) H'
def spLIsRest : Sp := fun vs H Q _ => ∃ (l : Addr) (near : List Nat) (b : Nat), vs = [.ref l, .int (b : Int)] ∧ H l = some (.lst (nV near)) ∧ near.length ≤ 8 ∧ ∀ H', Same H H' → Q (.bl (SM.restB near b)) H'
def spLRests (K : PySem.W.Frag) : Sp := fun vs H Q _ => ∃ (n : Nat) (t : Addr) (ts : List (Nat × Nat)), vs = [.int (n : Int), .ref t] ∧ 1 ≤ n ∧ n ≤ 8 ∧ TiesAt K H t ts ∧ SM.TiesOk n ts ∧
  ∀ (l : Addr) (ks : List (Addr × List Int)) (H' : Hp), Same H H' → H' l = some (.lst (refsOf ks)) → LotsAt K H' ks → SM.IsD (SM.RestP n (SM.nearOf n ts)) (ks.map (·.2)) → ks.length ≤ 18 → Q (.ref l) H'
def spFlag : Sp := fun vs H Q _ => ∃ a b : Bool, vs = [.bl a, .bl b] ∧ Q (.bl (decide (a = b))) H
def spLSeen (K : PySem.W.Frag) : Sp := fun vs H Q _ => ∃ (l s : Addr) (n : Nat) (near : List Nat) (ks : List (Addr × List Int)) (sh : List Int), vs = [.ref l, .ref s] ∧ SqL K H l (refsOf ks) ∧ LotsAt K H ks ∧ SM.Gr n near ∧ SM.IsD (SM.RestP n near) (ks.map (·.2)) ∧ ks.length ≤ 18 ∧ SqT K H s (sh.map V.int) ∧ sh.length ≤ 64 ∧
  ∀ (t : Addr) (ls : List (Addr × List Int)) (H' : Hp), Same H H' → H' t = some (.tup (refsOf ls)) → LotsAt K H' ls → SM.IsD (SM.SeenP n near sh) (ls.map (·.2)) → 1 ≤ ls.length → ls.length < 64 → Q (.ref t) H'
def spSome : Sp := fun vs H Q _ => ∃ (l : Addr) (m : Nat), vs = [.ref l, .int (m : Int)] ∧ SrcAt H l ∧ m ≤ 8 ∧ ∀ (t : Addr) (st : List Int) (H' : Hp), Smb l H H' → SrcAt H' l → H' t = some (.tup (st.map V.int)) → SM.Std m st → Q (.ref t) H'
def spRen (K : PySem.W.Frag) : Sp := fun vs H Q _ => ∃ (t f : Addr) (m : Nat) (od : List Int) (ks : List (Addr × List Int)), vs = [.ref t, .ref f] ∧ SqT K H t (refsOf ks) ∧ LotsAt K H ks ∧ H f = some (.lst (od.map V.int)) ∧ SM.Od m od ∧ (∀ q ∈ ks, SM.Std m q.2) ∧ ks.length < 64 ∧ m ≤ 8 ∧
  ∀ (u : Addr) (ls : List (Addr × List Int)) (H' : Hp), Same H H' → H' u = some (.tup (refsOf ls)) → LotsAt K H' ls → (ls.map (·.2)).Perm ((ks.map (·.2)).map (SM.renI m od)) → (ls.map (·.2)).Pairwise (fun a b => SM.lx b a = false) → Q (.ref u) H'

section
variable {P : Program} {w : World} {K : PySem.W.Frag} {mg : Str → Option Value} {base : Heap} {C CC CL : Addr}
theorem sc_near : FnScope ["_law_size_here", "_law_ties_here", "_law_found", "_law_one", "_law_other", "_law_part"] ["_law_size_here", "_law_ties_here"] (defScope s_near) := ⟨rfl, rfl, rfl, by decide +kernel, rfl, by decide +kernel, by decide +kernel⟩
theorem ok_near (D : DefAt K mg "_law_near" s_near) (B : Bi mg) : Cal P w K mg base 1 "_law_near" (spNear K) := by
  refine cal_of D sc_near (fun _ _ _ _ _ _ us hl => match us, hl with | [_, _], _ => rfl) (fun vs H Q E h => ?_) (fun f cdv A outer s H vs Q E hr h => ?_)
  · obtain ⟨n, t, ts, rfl, _⟩ := h
    rfl
  · obtain ⟨n, t, ts, rfl, hn, ht, hb, q⟩ := h
    refine ⟨_, pss_cons (ps_setLc (i := 2) (own := [("_law_part", 5)]) (g := gName 5) (tt := tYes) rfl sc_near.nd rfl rfl (sw_true rfl rfl rfl (by decide +kernel)) (pi_range1 (by rfl) B.range (pa_cons (pv 0) pa_nil)) (blkOk_by (N := ["_law_size_here", "_law_ties_here", "_law_found", "_law_one", "_law_other", "_law_part"]) (sc := defScope s_near) (by decide +kernel))
        (fun _ _ _ _ _ => pg_name (i := 5) sc_near.nd rfl (Or.inl rfl)) (fun _ _ _ _ _ => pts_nil) (fun _ _ _ _ _ => pe_int))
      (pss_cons (ps_for PassesOwn.never rfl (pi_tup (pv 1)) (pg_tup rfl (pgs_cons (pg_name (i := 3) sc_near.nd rfl (.inl rfl)) (pgs_cons (pg_name (i := 4) sc_near.nd rfl (.inl rfl)) pgs_nil)))
        (pss_cons (ps_asg (pe_op op_orN (pe_ix ix_list (pv 2) (pv 3) (fun _ _ => rfl)) (pe_op op_shl1 pe_int (pv 4))) (pg_sub (pv 2) (pv 3) set_list))
        (pss_one (ps_asg (pe_op op_orN (pe_ix ix_list (pv 2) (pv 4) (fun _ _ => rfl)) (pe_op op_shl1 pe_int (pv 3))) (pg_sub (pv 2) (pv 4) set_list)))))
      (pss_one (ps_ret (pv 2)))), ?_⟩
    refine ⟨_, rfl, (n : Int), rfl, by omega, by omega, fun nl hnl => ?_⟩
    refine lc_range (lo := 0) (n := n) (fun i H' => H' = upd H nl (.lst (nV (List.replicate i 0)))) rfl ?_ ?_
    · rintro i H' hi rfl
      refine ⟨rfl, _, upd_same, by rw [nV_len, List.length_replicate]; exact small_sz (by omega), ?_⟩
      rw [upd_upd, List.replicate_succ']
      unfold nV
      rw [List.map_append]; rfl
    · rintro H' rfl
      obtain ⟨tk, t1, t2, t3⟩ := ht.ex
      have s1 : Same H (upd H nl (.lst (nV (List.replicate n 0)))) := same_new hnl
      have keep : ∀ {H' : Hp}, (∀ b o, b ≠ nl → H b = some o → H' b = some o) → ∀ a ys, SqT K H a ys → SqT K H' a ys := fun {H'} k a ys h => same_tup (fun b o e => k b o (ne_of_none e hnl) e) h
      refine ⟨_, rfl, t, rfl, ⟨_, same_tup s1 t1⟩, for_tup (xs := tRefs tk) (fun i σ H' => ∃ v3 v4 v5, σ = [some (.int (n : Int)), some (.ref t), some (.ref nl), v3, v4, v5] ∧ H' nl = some (.lst (nV (SM.nearOf n (ts.take i)))) ∧ ∀ b o, b ≠ nl → H b = some o → H' b = some o)
        ⟨none, none, none, rfl, upd_same, fun b o _ e => s1 b o e⟩ (fun i σ H' _ ⟨v3, v4, v5, _, _, k⟩ => keep k t _ t1) ?_ ?_⟩
      · rintro i x σ H' hx ⟨v3, v4, v5, rfl, h2, k⟩
        rw [List.getElem?_map, Option.map_eq_some_iff] at hx
        obtain ⟨⟨a, u⟩, hu, rfl⟩ := hx
        have hu2 : ts[i]? = some u := by rw [← t3, List.getElem?_map, hu]; rfl
        obtain ⟨b1, b2⟩ := hb u (List.mem_of_getElem? hu2)
        have ha := keep k _ _ (t2 _ (List.mem_of_getElem? hu))
        have gl : (SM.nearOf n (ts.take i)).length = n := (SM.nearOf_W fun v hv => hb v (List.mem_of_mem_take hv)).len
        have l1 : u.1 < (SM.nearOf n (ts.take i)).length := by rw [gl]; omega
        have l2 : u.2 < (SM.nearOf n (ts.take i)).length := by rw [gl]; exact b2
        have l3 : u.2 < ((SM.nearOf n (ts.take i)).set u.1 (SM.nb (SM.nearOf n (ts.take i)) u.1 ||| 2 ^ u.2)).length := by rw [List.length_set]; exact l2
        refine ⟨a, _, rfl, ha, rfl, _, _, rfl, _, _, rfl, rfl, ?_⟩
        refine ⟨_, rfl, _, rfl, nl, _, _, _, rfl, rfl, SqL.of h2, nV_at l1, _, rfl, u.2, rfl, rfl, by omega, _, _, rfl, rfl, ?_⟩
        refine ⟨_, rfl, _, rfl, nl, _, _, _, rfl, rfl, h2, ixN_nat (by rw [nV_len]; exact l1), ?_⟩
        rw [nV_set]
        refine ⟨_, rfl, _, rfl, nl, _, _, _, rfl, rfl, SqL.of upd_same, nV_at l3, _, rfl, u.1, rfl, rfl, by omega, _, _, rfl, rfl, ?_⟩
        refine ⟨_, rfl, _, rfl, nl, _, _, _, rfl, rfl, upd_same, ixN_nat (by rw [nV_len]; exact l3), ?_⟩
        rw [nV_set, upd_upd]
        refine ⟨_, _, _, rfl, ?_, fun b o hb' e => ?_⟩
        · rw [upd_same, SM.nearOf_take hu2]; rfl
        · rw [upd_ne hb']; exact k b o hb' e
      · rintro σ H' ⟨v3, v4, v5, rfl, h2, k⟩
        rw [List.length_map] at h2
        have e : ts.take tk.length = ts := by rw [← t3]; exact List.take_of_length_le (by simp)
        rw [e] at h2
        exact ⟨_, rfl, q nl H' (fun b o e => k b o (ne_of_none e hnl) e) h2⟩

theorem sc_llot : FnScope ["_law_bits", "_law_size_here", "_law_part"] ["_law_bits", "_law_size_here"] (defScope s_llot) := ⟨rfl, rfl, rfl, by decide +kernel, rfl, by decide +kernel, by decide +kernel⟩
theorem ok_llot (D : DefAt K mg "_law_lot" s_llot) (B : Bi mg) : Cal P w K mg base 1 "_law_lot" spLLot := by
  refine cal_of D sc_llot (fun _ _ _ _ _ _ us hl => match us, hl with | [_, _], _ => rfl) (fun vs H Q E h => ?_) (fun f cdv A outer s H vs Q E hr h => ?_)
  · obtain ⟨b, n, rfl, _⟩ := h
    rfl
  · obtain ⟨b, n, rfl, hb, hn, q⟩ := h
    refine ⟨_, pss_one (ps_ret (pe_callTy call_tuple_of (by rfl) B.tuple b_tuple (pa_cons
      (pe_lc (own := [("_law_part", 2)]) (g := gName 2) (tt := tTest (tOp rEq (tOp rAndN (tOp rShrM (tVar 0) (tVar 2)) (tC (.int 1))) (tC (.int 1)))) (te := tVar 2) rfl sc_llot.nd (pi_range1 (by rfl) B.range (pa_cons (pv 1) pa_nil)) (blkOk_by (N := ["_law_bits", "_law_size_here", "_law_part"]) (sc := defScope s_llot) (by decide +kernel))
        (fun _ _ _ _ _ => pg_name (i := 2) sc_llot.nd rfl (.inl rfl))
        (fun _ _ _ _ _ => pts_one (pt_cmpR op_eq (pe_op op_andM (pe_op op_shrL (pv 0) (pv 2)) pe_int) pe_int (nomark _)))
        (fun _ _ _ _ _ => pv 2)) pa_nil))), ?_⟩
    refine ⟨_, rfl, (n : Int), rfl, by omega, by omega, fun D hD => ?_⟩
    refine lc_range (lo := 0) (n := n) (fun i H' => H' = upd H D (.lst ((SM.intl ((List.range i).filter fun k => b.testBit k)).map V.int))) rfl ?_ ?_
    · rintro i H' hi rfl
      rw [Int.zero_add]
      refine ⟨rfl, ?_⟩
      refine ⟨_, rfl, _, rfl, b, i, rfl, rfl, _, 1, rfl, rfl, rfl, _, rfl, ?_⟩
      have er : (List.range (i + 1)).filter (fun k => b.testBit k) = (List.range i).filter (fun k => b.testBit k) ++ if b.testBit i = true then [i] else [] := by
        rw [List.range_succ, List.filter_append, List.filter_cons]; rfl
      refine ite2 (fun c => ?_) (fun c => ?_)
      · have c' : b.testBit i = true := by rw [← bit_eq]; exact c
        refine ⟨_, rfl, _, upd_same, ?_, ?_⟩
        · have := List.length_filter_le (fun k => b.testBit k) (List.range i)
          rw [List.length_range] at this
          rw [List.length_map, SM.ints_len]
          exact small1000 (by omega)
        · rw [upd_upd, er, if_pos c']
          unfold SM.intl
          rw [List.map_append, List.map_append]; rfl
      · have c' : ¬ b.testBit i = true := by rw [← bit_eq]; exact c
        rw [er, if_neg c', List.append_nil]
    · rintro H' rfl
      rw [SM.lot_range hb hn]
      exact ⟨D, _, rfl, .inl ⟨SqL.of upd_same, fun t ht => q t _ ((same_new hD).trans (same_new ht)) upd_same⟩⟩

theorem sc_lisrest : FnScope ["_law_near_here", "_law_bits", "_law_part"] ["_law_near_here", "_law_bits"] (defScope s_lisrest) := ⟨rfl, rfl, rfl, by decide +kernel, rfl, by decide +kernel, by decide +kernel⟩
theorem ok_lisrest (D : DefAt K mg "_law_is_rest" s_lisrest) (B : Bi mg) : Cal P w K mg base 1 "_law_is_rest" spLIsRest := by
  refine cal_of D sc_lisrest (fun _ _ _ _ _ _ us hl => match us, hl with | [_, _], _ => rfl) (fun vs H Q E h => ?_) (fun f cdv A outer s H vs Q E hr h => ?_)
  · obtain ⟨l, near, b, rfl, _⟩ := h
    rfl
  · obtain ⟨l, near, b, rfl, hl, hn, q⟩ := h
    refine ⟨_, pss_one (ps_ret (pe_callB (cr_all rfl) (by rfl) B.all b_all (pa_cons
      (pe_lc (own := [("_law_part", 2)]) (g := gName 2) (tt := tYes) (te := tOp rEq (tOp rEq (tOp rAndN (tOp rShrM (tVar 1) (tVar 2)) (tC (.int 1))) (tC (.int 1))) (tOp rEq (tOp rAndN (tOp (rIxL K) (tVar 0) (tVar 2)) (tVar 1)) (tC (.int 0)))) rfl sc_lisrest.nd
        (pi_range1 (by rfl) B.range (pa_cons (pe_callB call_len_seq (by rfl) B.len b_len (pa_cons (pv 0) pa_nil)) pa_nil)) (blkOk_by (N := ["_law_near_here", "_law_bits", "_law_part"]) (sc := defScope s_lisrest) (by decide +kernel))
        (fun _ _ _ _ _ => pg_name (i := 2) sc_lisrest.nd rfl (.inl rfl)) (fun _ _ _ _ _ => pts_nil)
        (fun _ _ _ _ _ => pe_cmpR op_eq (pe_cmpR op_eq (pe_op op_andM (pe_op op_shrL (pv 1) (pv 2)) pe_int) pe_int (nomark _)) (pe_cmpR op_eq (pe_op op_andM (pe_ix ix_list (pv 0) (pv 2) (fun _ _ => rfl)) (pv 1)) pe_int (nomark _)) (nomark _))) pa_nil))), ?_⟩
    have e0 := nV_len near
    refine ⟨_, rfl, l, _, rfl, .inl (SqL.of hl), ((nV near).length : Int), rfl, by omega, by omega, fun D hD => ?_⟩
    refine lc_range (lo := 0) (n := (nV near).length) (fun i H' => H' = upd H D (.lst (((List.range i).map fun p => decide (b.testBit p = decide (SM.nb near p &&& b = 0))).map V.bl))) rfl ?_ ?_
    · rintro i H' hi rfl
      rw [Int.zero_add]
      have hl' : (upd H D (.lst (((List.range i).map fun p => decide (b.testBit p = decide (SM.nb near p &&& b = 0))).map V.bl))) l = some (.lst (nV near)) := Eq.trans (upd_ne (ne_of_none hl hD)) hl
      refine ⟨rfl, ?_⟩
      refine ⟨_, rfl, _, rfl, b, i, rfl, rfl, _, 1, rfl, rfl, rfl, _, rfl, _, rfl, l, _, _, _, rfl, rfl, SqL.of hl', nV_at (by omega), _, rfl, SM.nb near i, b, rfl, rfl, rfl, rfl, _, upd_same, by rw [List.length_map, List.length_map, List.length_range]; exact small_sz (by omega), ?_⟩
      rw [upd_upd, List.range_succ, List.map_append, List.map_append]
      have e1 : decide (V.int ((SM.nb near i &&& b : Nat) : Int) = V.int 0) = decide (SM.nb near i &&& b = 0) := decide_eq_decide.mpr ⟨fun z => by have := V.int.inj z; omega, fun z => by rw [z]; rfl⟩
      have e2 : V.bl (decide (V.bl (decide (V.int ((b / 2 ^ i &&& 1 : Nat) : Int) = V.int 1)) = V.bl (decide (V.int ((SM.nb near i &&& b : Nat) : Int) = V.int 0)))) = V.bl (decide (b.testBit i = decide (SM.nb near i &&& b = 0))) := by
        rw [bit_eq, e1]
        exact congrArg V.bl (decide_eq_decide.mpr ⟨fun z => V.bl.inj z, fun z => by rw [z]⟩)
      exact congrArg (fun v => upd H D (.lst (((List.range i).map fun p => decide (b.testBit p = decide (SM.nb near p &&& b = 0))).map V.bl ++ [v]))) e2
    · rintro H' rfl
      refine ⟨D, _, rfl, SqL.of upd_same, ?_⟩
      refine qv (congrArg V.bl ?_) (q _ (same_new hD))
      unfold SM.restB
      rw [List.all_map, e0]; rfl

theorem sc_lrests : FnScope ["_law_size_here", "_law_ties_here", "_law_near_here", "_law_bits"] ["_law_size_here", "_law_ties_here"] (defScope s_lrests) := ⟨rfl, rfl, rfl, by decide +kernel, rfl, by decide +kernel, by decide +kernel⟩
theorem ok_lrests (D : DefAt K mg "_law_rests" s_lrests) (B : Bi mg) (c1 : Cal P w K mg base 1 "_law_near" (spNear K)) (c2 : Cal P w K mg base 1 "_law_is_rest" spLIsRest) (c3 : Cal P w K mg base 1 "_law_lot" spLLot) : Cal P w K mg base 2 "_law_rests" (spLRests K) := by
  refine cal_of D sc_lrests (fun _ _ _ _ _ _ us hl => match us, hl with | [_, _], _ => rfl) (fun vs H Q E h => ?_) (fun f cdv A outer s H vs Q E hr h => ?_)
  · obtain ⟨n, t, ts, rfl, _⟩ := h
    rfl
  · obtain ⟨n, t, ts, rfl, n1, n8, ht, ho, q⟩ := h
    refine ⟨_, pss_cons (ps_set (i := 2) sc_lrests.nd rfl (.inr rfl) (pe_c c1 hr (Nat.le_refl _) rfl (pa_cons (pv 0) (pa_cons (pv 1) pa_nil))))
      (pss_one (ps_ret (pe_callB (cr_sortL hr.units) (by rfl) B.sorted b_sorted (pa_cons
      (pe_lc (own := [("_law_bits", 3)]) (g := gName 3) rfl sc_lrests.nd (pi_range1 (by rfl) B.range (pa_cons (pe_op op_shl1 pe_int (pv 0)) pa_nil)) (blkOk_by (N := ["_law_size_here", "_law_ties_here", "_law_near_here", "_law_bits"]) (sc := defScope s_lrests) (by decide +kernel))
        (fun _ _ _ _ _ => pg_name (i := 3) sc_lrests.nd rfl (.inl rfl))
        (fun _ _ _ _ _ => pts_one (pt_val (pe_c c2 hr (Nat.le_refl _) rfl (pa_cons (pv 2) (pa_cons (pv 3) pa_nil)))))
        (fun _ _ _ _ _ => pe_c c3 hr (Nat.le_refl _) rfl (pa_cons (pv 3) (pa_cons (pv 0) pa_nil)))) pa_nil)))), ?_⟩
    have g := SM.nearOf_gr n1 n8 ho
    have p8 : 2 ^ n ≤ 256 := SM.two8 n8
    have bnd : ∀ N : Nat, N ≤ 256 → -(2 ^ 62) ≤ (N : Int) ∧ (N : Int) < 2 ^ 62 := fun N h => ⟨by omega, by omega⟩
    refine ⟨_, rfl, _, rfl, n, t, ts, rfl, by omega, ht, ho.bd, fun nl H1 hs1 hnl => ?_⟩
    refine ⟨_, rfl, n, rfl, rfl, by omega, ((2 ^ n : Nat) : Int), rfl, (bnd _ p8).1, (bnd _ p8).2, fun D hD => ?_⟩
    refine lc_range (lo := 0) (n := 2 ^ n) (fun i H' => ∃ ks : List (Addr × List Int), Same H1 H' ∧ H' D = some (.lst (refsOf ks)) ∧ LotsAt K H' ks ∧ ks.map (·.2) = ((List.range i).filter (SM.restB (SM.nearOf n ts))).map SM.lotI)
      ⟨[], same_new hD, upd_same, fun q hq => (by cases hq), rfl⟩ ?_ ?_
    · rintro b H' hb ⟨ks, k1, k2, k3, k4⟩
      rw [Int.zero_add]
      refine ⟨rfl, ?_⟩
      refine ⟨_, rfl, _, rfl, nl, _, b, rfl, k1 _ _ hnl, by rw [g.len]; exact n8, fun H2 hs2 => ⟨_, rfl, ?_⟩⟩
      have er : (List.range (b + 1)).filter (SM.restB (SM.nearOf n ts)) = (List.range b).filter (SM.restB (SM.nearOf n ts)) ++ if SM.restB (SM.nearOf n ts) b = true then [b] else [] := by
        rw [List.range_succ, List.filter_append, List.filter_cons]; rfl
      have k2' := hs2 _ _ k2
      refine ite2 (fun c => ?_) (fun c => ?_)
      · refine ⟨_, rfl, _, rfl, b, n, rfl, hb, n8, fun t3 H3 hs3 ht3 => ?_⟩
        have k2'' := hs3 _ _ k2'
        have kl : ks.length ≤ 256 := by
          have := congrArg List.length k4
          have h2 := List.length_filter_le (SM.restB (SM.nearOf n ts)) (List.range b)
          rw [List.length_map, List.length_map] at this
          rw [List.length_range] at h2
          omega
        refine ⟨_, k2'', by rw [List.length_map]; exact small_sz (by omega), ks ++ [(t3, SM.lotI b)], fun x o e => ?_, ?_, fun q hq => ?_, ?_⟩
        · rw [upd_ne (ne_of_none e hD)]; exact hs3 _ _ (hs2 _ _ (k1 _ _ e))
        · rw [upd_same]; unfold refsOf; rw [List.map_append]; rfl
        · rcases List.mem_append.mp hq with z | z
          · exact lots_upd k2'' (same_tup hs3 (same_tup hs2 (k3 q z)))
          · rw [List.mem_singleton.mp z]; exact lots_upd k2'' (SqT.of ht3)
        · rw [er, if_pos c, List.map_append, k4, List.map_append]; rfl
      · refine ⟨ks, k1.trans hs2, k2', fun q hq => same_tup hs2 (k3 q hq), ?_⟩
        rw [er, if_neg c, List.append_nil]; exact k4
    · rintro H' ⟨ks, k1, k2, k3, k4⟩
      refine ⟨D, ks, rfl, SqL.of k2, k3, fun ks' r pm pw hr' => ?_⟩
      have pm2 : (ks'.map (·.2)).Perm ((SM.RL n (SM.nearOf n ts)).map SM.lotI) := by
        exact (pm.map _).trans (by rw [k4]; exact List.Perm.refl _)
      refine q r ks' _ ((hs1.trans k1).trans (same_new hr')) upd_same (same_lots (same_new hr') fun q hq => k3 q (pm.mem_iff.mp hq)) ⟨SM.asc_of (List.pairwise_map.mpr pw) (pm2.nodup_iff.mpr (SM.lots_nd g (List.Perm.refl _))), fun x => pm2.mem_iff.trans (SM.RestP_mem g (List.Perm.refl _) x)⟩ ?_
      have e2 := pm2.length_eq
      rw [List.length_map, List.length_map] at e2
      have := SM.RL_few g
      omega

theorem sc_flag : FnScope ["_law_told", "_law_due"] ["_law_told", "_law_due"] (defScope s_flag) := ⟨rfl, rfl, rfl, by decide +kernel, rfl, by decide +kernel, by decide +kernel⟩
theorem ok_flag (D : DefAt K mg "_law_flag" s_flag) (B : Bi mg) : Cal P w K mg base 1 "_law_flag" spFlag := by
  refine cal_of D sc_flag (fun _ _ _ _ _ _ us hl => match us, hl with | [_, _], _ => rfl) (fun vs H Q E h => ?_) (fun f cdv A outer s H vs Q E hr h => ?_)
  · obtain ⟨a, b, rfl, _⟩ := h
    rfl
  · obtain ⟨a, b, rfl, q⟩ := h
    refine ⟨_, pss_one (ps_ret (pe_and (pe_callB call_isBB (by rfl) B.isi b_isi (pa_cons (pv 0) (pa_cons (pe_ty (by rfl) B.bool b_bool) pa_nil))) (pe_one (pe_cmpR op_eq (pv 0) (pv 1) (nomark _))))), ?_⟩
    refine ⟨_, rfl, a, rfl, true, rfl, iteT ?_⟩
    refine ⟨_, rfl, _, rfl, rfl, ?_⟩
    exact qv (congrArg V.bl (decide_eq_decide.mpr ⟨fun z => V.bl.inj z, fun z => by rw [z]⟩)) q

theorem sc_lseen : FnScope ["_law_known", "_law_showing", "_law_lots", "_law_lot_here", "_law_place"] ["_law_known", "_law_showing"] (defScope s_lseen) := ⟨rfl, rfl, rfl, by decide +kernel, rfl, by decide +kernel, by decide +kernel⟩
theorem ok_lseen (D : DefAt K mg "_law_seen" s_lseen) (B : Bi mg) : Cal P w K mg base 1 "_law_seen" (spLSeen K) := by
  refine cal_of D sc_lseen (fun _ _ _ _ _ _ us hl => match us, hl with | [_, _], _ => rfl) (fun vs H Q E h => ?_) (fun f cdv A outer s H vs Q E hr h => ?_)
  · obtain ⟨l, s, n, near, ks, sh, rfl, _⟩ := h
    rfl
  · obtain ⟨l, s', n, near, ks, sh, rfl, hl, hk, g, hd, hkl, ht, hsl, q⟩ := h
    refine ⟨_, pss_cons (ps_set (i := 2) sc_lseen.nd rfl (.inl rfl) (pe_lst pa_nil))
      (pss_cons (ps_for PassesOwn.never rfl (pi_list (pv 0)) (pg_name (i := 3) sc_lseen.nd rfl (.inr rfl))
        (pss_one (ps_expr (pe_bm PySem.F.plainAttrs_list PySem.F.slot_list_append PySem.F.type_list_append mt_append (pv 2) (pa_cons
          (pe_callTy call_tuple_of (by rfl) B.tuple b_tuple (pa_cons
            (pe_lc (own := [("_law_place", 4)]) (g := gName 4) (tt := tTest (tOp (rIn K false) (tOp (rIxT K) (tVar 1) (tVar 4)) (tVar 3))) (te := tVar 4) rfl sc_lseen.nd (pi_range1 (by rfl) B.range (pa_cons (pe_callB call_len_seq (by rfl) B.len b_len (pa_cons (pv 1) pa_nil)) pa_nil)) (blkOk_by (N := ["_law_known", "_law_showing", "_law_lots", "_law_lot_here", "_law_place"]) (sc := defScope s_lseen) (by decide +kernel))
              (fun _ _ _ _ _ => pg_name (i := 4) sc_lseen.nd rfl (.inl rfl))
              (fun _ _ _ _ _ => pts_one (pt_cmpR op_in_seq (pe_ix ix_tup (pv 1) (pv 4) (fun _ _ => rfl)) (pv 3) rfl))
              (fun _ _ _ _ _ => pv 4)) pa_nil)) pa_nil)))))
      (pss_one (ps_ret (pe_callTy call_tuple_of (by rfl) B.tuple b_tuple (pa_cons (pe_callB (cr_sortSL rfl hr.units) (by rfl) B.sorted b_sorted (pa_cons (pe_callTy (cr_setOfT rfl hr.units) (by rfl) B.set b_set (pa_cons (pv 2) pa_nil)) pa_nil)) pa_nil))))), ?_⟩
    have kl : (sh.map V.int).length = sh.length := List.length_map _
    refine ⟨Nat.zero_le _, fun lo hlo => ?_⟩
    have s1 : Same H (upd H lo (.lst [])) := same_new hlo
    refine ⟨_, rfl, l, rfl, ⟨_, s1.seq hl⟩, for_list (K := K) (a := l) (xs := refsOf ks) (fun i σ H' => ∃ (ls : List (Addr × List Int)) (v3 v4 : Option V), σ = [some (.ref l), some (.ref s'), some (.ref lo), v3, v4] ∧ Same H H' ∧ H' lo = some (.lst (refsOf ls)) ∧ LotsAt K H' ls ∧ ls.map (·.2) = ((ks.map (·.2)).take i).map (SM.seenI sh))
      ⟨[], none, none, rfl, s1, upd_same, fun q hq => (by cases hq), rfl⟩ (fun i σ H' _ ⟨_, _, _, _, k, _⟩ => k.seq hl) ?_ ?_⟩
    · rintro i x σ H' hx ⟨ls, v3, v4, rfl, k1, k2, k3, k4⟩
      rw [List.getElem?_map, Option.map_eq_some_iff] at hx
      obtain ⟨⟨a, ns⟩, hb, rfl⟩ := hx
      have hm : (ks.map (·.2))[i]? = some ns := by rw [List.getElem?_map, hb]; rfl
      have hr1 := same_tup k1 (hk _ (List.mem_of_getElem? hb))
      refine ⟨_, rfl, .inl ⟨rfl, _, SqL.of k2⟩, _, rfl, s', _, rfl, .inr (same_tup k1 ht), ((sh.map V.int).length : Int), rfl, by omega, by omega, fun D hD => ?_⟩
      refine lc_range (lo := 0) (n := (sh.map V.int).length) (fun i H2 => Same H' H2 ∧ H2 D = some (.lst ((SM.intl ((List.range i).filter fun k => decide (sh.getD k 0 ∈ ns))).map V.int))) ⟨same_new hD, upd_same⟩ ?_ ?_
      · rintro j H2 hj ⟨m1, m2⟩
        rw [Int.zero_add]
        have hj' : j < sh.length := by omega
        have ez : sh[j]? = some (sh.getD j 0) := by rw [List.getD_eq_getElem?_getD, List.getElem?_eq_getElem hj']; rfl
        have ta := same_tup m1 (same_tup k1 ht)
        refine ⟨rfl, ?_⟩
        refine ⟨_, rfl, _, rfl, s', _, _, _, rfl, rfl, ta, atI_nat (by rw [List.getElem?_map, ez]; rfl), _, rfl, a, _, rfl, .inr (same_tup m1 hr1), rfl, flat_ints ns, _, rfl, ?_⟩
        have er : (List.range (j + 1)).filter (fun k => decide (sh.getD k 0 ∈ ns)) = (List.range j).filter (fun k => decide (sh.getD k 0 ∈ ns)) ++ if decide (sh.getD j 0 ∈ ns) = true then [j] else [] := by
          rw [List.range_succ, List.filter_append, List.filter_cons]; rfl
        refine ite2 (fun c => ?_) (fun c => ?_)
        · have c' : decide (sh.getD j 0 ∈ ns) = true := by rw [← inV_ints]; exact c
          refine ⟨_, rfl, _, m2, ?_, ?_, ?_⟩
          · have := List.length_filter_le (fun k => decide (sh.getD k 0 ∈ ns)) (List.range j)
            rw [List.length_range] at this
            rw [List.length_map, SM.ints_len]
            exact small1000 (by omega)
          · exact fun b o e => by rw [upd_ne (ne_of_none e hD)]; exact m1 _ _ e
          · rw [upd_same, er, if_pos c']
            unfold SM.intl
            rw [List.map_append, List.map_append]; rfl
        · have c' : ¬ decide (sh.getD j 0 ∈ ns) = true := by rw [← inV_ints]; exact c
          refine ⟨m1, ?_⟩
          rw [er, if_neg c', List.append_nil]; exact m2
      · rintro H2 ⟨m1, m2⟩
        rw [kl] at m2
        refine ⟨D, _, rfl, .inl ⟨SqL.of m2, fun t3 ht3 => ?_⟩⟩
        have m3 : Same H' (upd H2 t3 (.tup ((SM.intl ((List.range sh.length).filter fun k => decide (sh.getD k 0 ∈ ns))).map V.int))) := m1.trans (same_new ht3)
        have k2' := m3 _ _ k2
        have kl2 : ls.length ≤ 18 := by
          have := congrArg List.length k4
          rw [List.length_map, List.length_map, List.length_take, List.length_map] at this
          omega
        refine ⟨lo, _, _, rfl, rfl, k2', by rw [List.length_map]; exact small_sz (by omega), ?_⟩
        refine ⟨ls ++ [(t3, SM.seenI sh ns)], _, _, rfl, fun b o e => ?_, ?_, fun q hq => ?_, ?_⟩
        · rw [upd_ne (ne_of_none e hlo)]; exact m3 _ _ (k1 _ _ e)
        · rw [upd_same]; unfold refsOf; rw [List.map_append]; rfl
        · rcases List.mem_append.mp hq with z | z
          · exact lots_upd k2' (same_tup m3 (k3 q z))
          · rw [List.mem_singleton.mp z]; exact lots_upd k2' (SqT.of upd_same)
        · rw [List.map_append, k4, List.take_add_one, hm, List.map_append]; rfl
    · rintro σ H' ⟨ls, v3, v4, rfl, k1, k2, k3, k4⟩
      have e : (ks.map (·.2)).take (refsOf ks).length = ks.map (·.2) := List.take_of_length_le (by rw [List.length_map, List.length_map]; exact Nat.le_refl _)
      rw [e] at k4
      have el : ls.length = ks.length := by
        have := congrArg List.length k4
        simpa using this
      have hmem : ∀ x, x ∈ ls.map (·.2) ↔ SM.SeenP n near sh x := fun x => by
        rw [k4]
        constructor
        · intro hx
          obtain ⟨y, hy, rfl⟩ := List.mem_map.mp hx
          obtain ⟨b, hb, rfl⟩ := (hd.mem y).mp hy
          exact ⟨b, hb, rfl⟩
        · rintro ⟨b, hb, rfl⟩
          exact List.mem_map.mpr ⟨SM.lotI b, (hd.mem _).mpr ⟨b, hb, rfl⟩, rfl⟩
      refine ⟨_, rfl, lo, ls, rfl, SqL.of k2, k3, by omega, fun a L ha hsub hcov => ?_⟩
      have e1 := same_new (o := SetTO P w a L) ha
      refine ⟨a, L, rfl, upd_same, fun r hr' => same_tup e1 (k3 r (hsub r hr')), fun L' r pm asc hlt hr' => ?_⟩
      have e2 : Same (upd H' a (SetTO P w a L)) (upd (upd H' a (SetTO P w a L)) r (.lst (refsOf L'))) := same_new hr'
      have s2 := e1.trans e2
      refine ⟨r, _, rfl, .inl ⟨SqL.of upd_same, fun t2 ht2 => ?_⟩⟩
      have s3 := s2.trans (same_new (o := .tup (refsOf L')) ht2)
      have hL' : ∀ q ∈ L', q ∈ ls := fun q hq => hsub q (pm.mem_iff.mp hq)
      have l0 : 1 ≤ L'.length := by
        obtain ⟨b, hb⟩ := SM.some_rest g
        have hx := (hmem _).mpr ⟨b, hb, rfl⟩
        obtain ⟨y, hy, _⟩ := List.mem_map.mp hx
        obtain ⟨z, hz, _⟩ := List.mem_map.mp (hcov y hy)
        have := List.length_pos_of_mem (pm.mem_iff.mpr hz)
        omega
      refine q t2 L' _ (k1.trans s3) upd_same (fun q hq => same_tup s3 (k3 q (hL' q hq))) ⟨asc, fun x => ⟨fun hx => ?_, fun hx => ?_⟩⟩ l0 hlt
      · obtain ⟨y, hy, rfl⟩ := List.mem_map.mp hx
        exact (hmem _).mp (List.mem_map.mpr ⟨y, hL' y hy, rfl⟩)
      · obtain ⟨y, hy, rfl⟩ := List.mem_map.mp ((hmem x).mpr hx)
        obtain ⟨z, hz, e⟩ := List.mem_map.mp (hcov y hy)
        exact List.mem_map.mpr ⟨z, pm.mem_iff.mpr hz, e⟩

theorem sc_some : FnScope ["_law_source_here", "_law_places", "_law_place"] ["_law_source_here", "_law_places"] (defScope s_some) := ⟨rfl, rfl, rfl, by decide +kernel, rfl, by decide +kernel, by decide +kernel⟩
theorem ok_some (D : DefAt K mg "_law_some_lot" s_some) (B : Bi mg) (c1 : Cal P w K mg base 1 "_law_draw" spDraw) : Cal P w K mg base 2 "_law_some_lot" spSome := by
  refine cal_of D sc_some (fun _ _ _ _ _ _ us hl => match us, hl with | [_, _], _ => rfl) (fun vs H Q E h => ?_) (fun f cdv A outer s H vs Q E hr h => ?_)
  · obtain ⟨l, m, rfl, _⟩ := h
    rfl
  · obtain ⟨l, m, rfl, hs, m8, q⟩ := h
    refine ⟨_, pss_one (ps_ret (pe_callTy call_tuple_of (by rfl) B.tuple b_tuple (pa_cons
      (pe_lc (own := [("_law_place", 2)]) (g := gName 2) (te := tVar 2) rfl sc_some.nd (pi_range1 (by rfl) B.range (pa_cons (pv 1) pa_nil)) (blkOk_by (N := ["_law_source_here", "_law_places", "_law_place"]) (sc := defScope s_some) (by decide +kernel))
        (fun _ _ _ _ _ => pg_name (i := 2) sc_some.nd rfl (.inl rfl))
        (fun _ _ _ _ _ => pts_one (pt_cmpR op_eq (pe_c c1 hr (Nat.le_refl _) rfl (pa_cons (pv 0) (pa_cons pe_int pa_nil))) pe_int (nomark _)))
        (fun _ _ _ _ _ => pv 2)) pa_nil))), ?_⟩
    refine ⟨_, rfl, (m : Int), rfl, by omega, by omega, fun D hD => ?_⟩
    obtain ⟨y1, y2, y3, y4, y5, hsrc⟩ := id hs.ex
    have nDl : D ≠ l := Ne.symm (ne_of_none hsrc hD)
    refine lc_range (lo := 0) (n := m) (fun i H' => ∃ st : List Int, Smb l H H' ∧ SrcAt H' l ∧ H' D = some (.lst (st.map V.int)) ∧ SM.Std i st ∧ st.length ≤ i) ⟨[], smb_new hD, hs.keep (same_new hD), upd_same, ⟨List.Pairwise.nil, fun x hx => by cases hx⟩, Nat.zero_le _⟩ ?_ ?_
    · rintro i H' hi ⟨st, k1, k2, k3, k4, k5⟩
      rw [Int.zero_add]
      refine ⟨rfl, ?_⟩
      refine ⟨_, rfl, l, 2, rfl, k2, by decide, by decide, fun r H2 j1 j2 _ => ⟨rfl, _, rfl, ?_⟩⟩
      have k3' := j1 _ _ nDl k3
      refine ite2 (fun c => ?_) (fun c => ?_)
      · refine ⟨_, rfl, _, k3', by rw [List.length_map]; exact small_sz (by omega), st ++ [(i : Int)], fun b o hb e => ?_, ?_, ?_, ⟨?_, fun x hx => ?_⟩, ?_⟩
        · rw [upd_ne (ne_of_none e hD)]; exact j1 _ _ hb (k1 _ _ hb e)
        · obtain ⟨z1, z2, z3, z4, z5, z⟩ := j2.ex
          exact ⟨z1, z2, z3, z4, z5, by rw [upd_ne (Ne.symm nDl)]; exact z⟩
        · rw [upd_same, List.map_append]; rfl
        · refine List.pairwise_append.mpr ⟨k4.asc, List.pairwise_singleton _ _, fun a ha b hb => ?_⟩
          rw [List.mem_singleton.mp hb]
          have := k4.bd a ha
          omega
        · rcases List.mem_append.mp hx with z | z
          · have := k4.bd x z
            omega
          · rw [List.mem_singleton.mp z]; omega
        · rw [List.length_append, List.length_singleton]; omega
      · exact ⟨st, Smb.trans k1 j1, j2, k3', ⟨k4.asc, fun x hx => by have := k4.bd x hx; omega⟩, by omega⟩
    · rintro H' ⟨st, k1, k2, k3, k4, k5⟩
      exact ⟨D, _, rfl, .inl ⟨SqL.of k3, fun t ht => q t st _ (Smb.trans k1 (smb_new ht)) (k2.keep (same_new ht)) upd_same k4⟩⟩

abbrev scIn : Scope := { kind := .function, names := [(".0", .local), ("_law_stand", .local), ("tuple", .globalImplicit), ("sorted", .globalImplicit), ("_law_names", .cell)], isGenerator := false, isCoroutine := false }
theorem sc_ren : FnScope ["_law_stands", "_law_names", "_law_stand", "_law_place"] ["_law_stands", "_law_names"] (defScope s_ren) := ⟨rfl, rfl, rfl, by decide +kernel, rfl, by decide +kernel, by decide +kernel⟩
theorem ok_ren (D : DefAt K mg "_law_renamed_stands" s_ren) (B : Bi mg) : Cal P w K mg base 1 "_law_renamed_stands" (spRen K) := by
  refine cal_of D sc_ren (fun _ _ _ _ _ _ us hl => match us, hl with | [_, _], _ => rfl) (fun vs H Q E h => ?_) (fun f cdv A outer s H vs Q E hr h => ?_)
  · obtain ⟨t, f, m, od, ks, rfl, _⟩ := h
    rfl
  · obtain ⟨t, fo, m, od, ks, rfl, ht, hk, hf, hod, hstd, hkl, m8, q⟩ := h
    refine ⟨_, pss_one (ps_ret (pe_callTy call_tuple_of (by rfl) B.tuple b_tuple (pa_cons (pe_callB (cr_sortL hr.units) (by rfl) B.sorted b_sorted (pa_cons
      (pe_lc (own := [("_law_stand", 2)]) (g := gName 2) (tt := tYes) (te := tCB (rTupL K) (tCons (tCB (rSortedI K) (tCons (tLc (iTup K (tVar 2)) (gName 3) tYes (tOp (rIxL K) (tVar 1) (tVar 3)) [3]) tNil)) tNil)) rfl sc_ren.nd (pi_tup (pv 0)) (blkOk_by (N := ["_law_stands", "_law_names", "_law_stand", "_law_place"]) (sc := defScope s_ren) (by decide +kernel))
        (fun _ _ _ _ _ => pg_name (i := 2) sc_ren.nd rfl (.inl rfl)) (fun _ _ _ _ _ => pts_nil)
        (fun _ _ _ _ _ => pe_callTy call_tupL (by rfl) B.tuple b_tuple (pa_cons (pe_callB cr_sortedI (by rfl) B.sorted b_sorted (pa_cons
          (pe_lc (own := [("_law_place", 3)]) (g := gName 3) (tt := tYes) (te := tOp (rIxL K) (tVar 1) (tVar 3)) rfl sc_ren.nd (pi_tup (pv 2)) (blkOk_by (N := ["_law_stands", "_law_names", "_law_stand", "_law_place"]) (sc := scIn) (by decide +kernel))
            (fun _ _ _ _ _ => pg_name (i := 3) sc_ren.nd rfl (.inl rfl)) (fun _ _ _ _ _ => pts_nil)
            (fun _ _ _ _ _ => pe_ix ix_list (pv 1) (pv 3) (fun _ _ => rfl))) pa_nil)) pa_nil))) pa_nil)) pa_nil))), ?_⟩
    refine ⟨_, rfl, t, rfl, ⟨_, ht⟩, fun D hD => ?_⟩
    refine lc_tup (K := K) (a := t) (xs := refsOf ks) (fun i H' => ∃ ls : List (Addr × List Int), Same H H' ∧ H' D = some (.lst (refsOf ls)) ∧ LotsAt K H' ls ∧ ls.map (·.2) = ((ks.map (·.2)).take i).map (SM.renI m od))
      ⟨[], same_new hD, upd_same, fun q hq => (by cases hq), rfl⟩ (fun i H' _ ⟨_, k, _⟩ => same_tup k ht) ?_ ?_
    · rintro i x H' hx ⟨ls, k1, k2, k3, k4⟩
      rw [List.getElem?_map, Option.map_eq_some_iff] at hx
      obtain ⟨⟨a, st⟩, hb, rfl⟩ := hx
      have hm : (ks.map (·.2))[i]? = some st := by rw [List.getElem?_map, hb]; rfl
      have mb := List.mem_of_getElem? hb
      have sd : SM.Std m st := hstd _ mb
      have hst := same_tup k1 (hk _ mb)
      have ksl : (st.map V.int).length = st.length := List.length_map _
      have odl := hod.len
      refine ⟨rfl, ?_⟩
      refine ⟨_, rfl, a, rfl, ⟨_, hst⟩, fun D2 hD2 => ?_⟩
      have stl : st.length ≤ 8 := by
        have h1 : (st.map Int.toNat).Nodup := by
          refine List.pairwise_map.mpr (sd.asc.imp_of_mem fun {x y} hx hy hlt e => ?_)
          have := sd.bd x hx
          have := sd.bd y hy
          omega
        have h2 := nat_nodup_len _ (List.range m) h1 fun x hx => by
          obtain ⟨y, hy, rfl⟩ := List.mem_map.mp hx
          have := sd.bd y hy
          rw [List.mem_range]; omega
        rw [List.length_map, List.length_range] at h2
        omega
      refine lc_tup (K := K) (a := a) (xs := st.map V.int) (fun j H2 => Same H' H2 ∧ H2 D2 = some (.lst (((st.take j).map fun p => od.getD p.toNat 0).map V.int))) ⟨same_new hD2, upd_same⟩ (fun j H2 _ ⟨k, _⟩ => same_tup k hst) ?_ ?_
      · rintro j x H2 hx ⟨m1, m2⟩
        rw [List.getElem?_map, Option.map_eq_some_iff] at hx
        obtain ⟨z, hz, rfl⟩ := hx
        have bz := sd.bd z (List.mem_of_getElem? hz)
        have ez : z = ((z.toNat : Nat) : Int) := by omega
        have at_ : atI (od.map V.int) z = some (.int (od.getD z.toNat 0)) := by
          rw [ez, Int.toNat_natCast]
          have hlt : z.toNat < od.length := by omega
          exact atI_nat (by rw [List.getElem?_map, List.getD_eq_getElem?_getD, List.getElem?_eq_getElem hlt]; rfl)
        refine ⟨rfl, ?_⟩
        refine ⟨_, rfl, _, rfl, fo, _, _, _, rfl, rfl, SqL.of (m1 _ _ (k1 _ _ hf)), at_, _, m2, ?_, fun b o e => ?_, ?_⟩
        · have h3 := List.length_take_le j st
          have h4 : (st.take j).length ≤ st.length := by rw [List.length_take]; omega
          rw [List.length_map, List.length_map]
          exact small_sz (by omega)
        · rw [upd_ne (ne_of_none e hD2)]; exact m1 _ _ e
        · rw [upd_same, List.take_add_one, hz, List.map_append, List.map_append]; rfl
      · rintro H2 ⟨m1, m2⟩
        have e : st.take (st.map V.int).length = st := List.take_of_length_le (by rw [ksl]; exact Nat.le_refl _)
        rw [e] at m2
        refine ⟨D2, _, rfl, SqL.of m2, fun ns' p pm asc hp => ⟨p, _, rfl, SqL.of upd_same, fun t3 ht3 => ?_⟩⟩
        have m3 : Same H' (upd (upd H2 p (.lst (ns'.map V.int))) t3 (.tup (ns'.map V.int))) := m1.trans ((same_new hp).trans (same_new ht3))
        have k2' := m3 _ _ k2
        have er : ns' = SM.renI m od st := SM.ren_of hod sd pm asc
        have kl2 : ls.length < 64 := by
          have := congrArg List.length k4
          rw [List.length_map, List.length_map, List.length_take, List.length_map] at this
          omega
        refine ⟨_, k2', by rw [List.length_map]; exact small_sz (by omega), ls ++ [(t3, ns')], fun b o e => ?_, ?_, fun q hq => ?_, ?_⟩
        · rw [upd_ne (ne_of_none e hD)]; exact m3 _ _ (k1 _ _ e)
        · rw [upd_same]; unfold refsOf; rw [List.map_append]; rfl
        · rcases List.mem_append.mp hq with z | z
          · exact lots_upd k2' (same_tup m3 (k3 q z))
          · rw [List.mem_singleton.mp z]; exact lots_upd k2' (SqT.of upd_same)
        · rw [List.map_append, k4, List.take_add_one, hm, List.map_append, er]; rfl
    · rintro H' ⟨ls, k1, k2, k3, k4⟩
      have e : (ks.map (·.2)).take (refsOf ks).length = ks.map (·.2) := List.take_of_length_le (by rw [List.length_map, List.length_map]; exact Nat.le_refl _)
      rw [e] at k4
      refine ⟨D, ls, rfl, SqL.of k2, k3, fun L' r pm pw hr' => ⟨r, _, rfl, .inl ⟨SqL.of upd_same, fun t2 ht2 => ?_⟩⟩⟩
      have e1 : Same H' (upd (upd H' r (.lst (refsOf L'))) t2 (.tup (refsOf L'))) := (same_new hr').trans (same_new ht2)
      refine q t2 L' _ (k1.trans e1) upd_same (fun q hq => same_tup e1 (k3 q (pm.mem_iff.mp hq))) ?_ (List.pairwise_map.mpr pw)
      rw [← k4]; exact pm.map _
end
end SL
/-! the law: its states and the plain facts -/
namespace SL
open PySem PySem.Spec PyProof.Rows L2 SX2 SX3

abbrev s_law : Stmt := top 58
section
variable {X : Cx}
theorem op_addN : OpR X (binaryOp .Add) (fun x y H Q => ∃ n m : Nat, x = .int (n : Int) ∧ y = .int (m : Int) ∧ Q (.int ((n + m : Nat) : Int)) H) := by
  intro pins s σ H x y v u Q I rx ry h
  obtain ⟨n, m, rfl, rfl, q⟩ := h
  rw [Int.natCast_add] at q
  exact op_add pins s σ H _ _ v u Q I rx ry ⟨_, _, rfl, rfl, q⟩
end
theorem nd_len {α : Type} [DecidableEq α] : ∀ (l D : List α), l.Nodup → (∀ x ∈ l, x ∈ D) → l.length ≤ D.length
  | [], _, _, _ => Nat.zero_le _
  | x :: l, D, hn, hs => by
    obtain ⟨h1, h2⟩ := List.nodup_cons.mp hn
    have hx : x ∈ D := hs x List.mem_cons_self
    have ih := nd_len l (D.erase x) h2 fun y hy => by
      have hne : y ≠ x := fun e => h1 (by rw [← e]; exact hy)
      exact (List.mem_erase_of_ne hne).2 (hs y (List.mem_cons_of_mem _ hy))
    have e := List.length_erase_of_mem hx
    have hp : 0 < D.length := List.length_pos_of_mem hx
    rw [List.length_cons]
    omega
theorem seen_few {n : Nat} {near : List Nat} {sh : List Int} {D : List (List Int)} (g : SM.Gr n near) (h : SM.IsD (SM.SeenP n near sh) D) : D.length ≤ 18 := by
  have q := nd_len D ((SM.RL n near).map fun b => SM.seenI sh (SM.lotI b)) h.asc.nd fun x hx => by
    obtain ⟨b, hb, e⟩ := (h.mem x).mp hx
    exact List.mem_map.mpr ⟨b, (SM.mem_RL g).mpr hb, e.symm⟩
  rw [List.length_map] at q
  exact Nat.le_trans q (SM.RL_few g)
theorem seen_ne {n : Nat} {near : List Nat} {sh : List Int} {D : List (List Int)} (g : SM.Gr n near) (h : SM.IsD (SM.SeenP n near sh) D) : 1 ≤ D.length := by
  obtain ⟨b, hb⟩ := SM.some_rest g
  exact List.length_pos_of_mem ((h.mem _).mpr ⟨b, hb, rfl⟩)
theorem seen_stds {n m : Nat} {near : List Nat} {sh : List Int} {D : List (List Int)} (hm : sh.length ≤ m) (h : SM.IsD (SM.SeenP n near sh) D) : ∀ x ∈ D, SM.Std m x := fun x hx => by
  obtain ⟨b, _, e⟩ := (h.mem x).mp hx
  have s := SM.seen_std (sh := sh) (m := sh.length) rfl (SM.lotI b)
  rw [e]
  exact ⟨s.asc, fun y hy => by have := s.bd y hy; omega⟩
theorem getD_snoc {l : List Int} {a : Int} {p : Nat} : (l ++ [a]).getD p 0 = if p < l.length then l.getD p 0 else if p = l.length then a else 0 := by
  rw [List.getD_eq_getElem?_getD, List.getD_eq_getElem?_getD]
  by_cases h : p < l.length
  · rw [if_pos h, List.getElem?_append_left h]
  · rw [if_neg h, List.getElem?_append_right (by omega)]
    by_cases h2 : p = l.length
    · rw [if_pos h2, h2, Nat.sub_self]; rfl
    · rw [if_neg h2]
      obtain ⟨k, hk⟩ : ∃ k, p - l.length = k + 1 := ⟨p - l.length - 1, by omega⟩
      rw [hk]; rfl
theorem getD_get {l : List Int} {p : Nat} (h : p < l.length) : l.getD p 0 = l[p] := by
  rw [List.getD_eq_getElem?_getD, List.getElem?_eq_getElem h]; rfl
/-- the turned showing -/
structure Trn (m : Nat) (od sh tu : List Int) : Prop where
  len : tu.length = m
  at_ : ∀ p, p < m → ∃ q, q < m ∧ od.getD q 0 = (p : Int) ∧ tu.getD p 0 = sh.getD q 0
theorem Trn.law {m : Nat} {od sh tu : List Int} (h : Trn m od sh tu) (o : SM.Od m od) : ∀ j, j < m → tu.getD (od.getD j 0).toNat 0 = sh.getD j 0 := fun j hj => by
  have b := o.at hj
  obtain ⟨q, hq, e1, e2⟩ := h.at_ (od.getD j 0).toNat (by omega)
  have e3 : q = j := o.inj hq hj (by omega)
  rw [e2, e3]
theorem Trn.ok {n m : Nat} {od sh tu : List Int} (h : Trn m od sh tu) (o : SM.Od m od) (hs : sh.length = m) (k : ShOk n sh) : ShOk n tu := by
  have hl := h.len
  refine ⟨?_, fun x hx => ?_, by have := k.lo; omega, by have := k.hi; omega⟩
  · refine List.pairwise_iff_getElem.mpr fun p q hp hq hpq e => ?_
    obtain ⟨a, ha, a1, a2⟩ := h.at_ p (by omega)
    obtain ⟨b, hb, b1, b2⟩ := h.at_ q (by omega)
    rw [getD_get hp] at a2
    rw [getD_get hq] at b2
    rw [a2, b2, getD_get (by omega : a < sh.length), getD_get (by omega : b < sh.length)] at e
    have nab : a ≠ b := fun z => by rw [z, b1] at a1; omega
    have nd := List.pairwise_iff_getElem.mp k.nd
    rcases Nat.lt_or_gt_of_ne nab with z | z
    · exact nd a b (by omega) (by omega) z e
    · exact nd b a (by omega) (by omega) z e.symm
  · obtain ⟨p, hp, rfl⟩ := List.mem_iff_getElem.mp hx
    obtain ⟨a, ha, a1, a2⟩ := h.at_ p (by omega)
    rw [getD_get hp] at a2
    rw [a2]
    exact k.bd _ (SM.getD_mem (by omega))
theorem cut_take {ns : List Int} {m : Nat} (h : m ≤ ns.length) : cutV (ns.map V.int) none (some (m : Int)) = (ns.take m).map V.int := by
  unfold cutV
  rw [HT.sIx_none, HT.sIx_nat, List.length_map, Nat.min_eq_left h, Nat.sub_zero, List.drop_zero, List.map_take]
theorem cut_drop {ks : List (Addr × List Int)} (h : 1 ≤ ks.length) : cutV (refsOf ks) (some ((1 : Nat) : Int)) none = refsOf (ks.drop 1) := by
  unfold cutV
  rw [HT.sIx_none, HT.sIx_nat, List.length_map, Nat.min_eq_left h, List.take_of_length_le (by rw [List.length_drop, List.length_map]; exact Nat.le_refl _)]
  unfold refsOf
  rw [List.map_drop]

/-! ### what stays when numbers are drawn -/
theorem smb_tup {K : PySem.W.Frag} {H H' : Hp} {l a : Addr} {xs : List V} (s : SrcAt H l) (e : Smb l H H') (h : SqT K H a xs) : SqT K H' a xs := by
  obtain ⟨_, _, _, _, _, h1⟩ := s.ex
  rcases h with (h | ⟨o, h⟩) | h
  · exact .inl (.inl (e _ _ (fun z => by rw [z, h1] at h; cases h) h))
  · exact .inl (.inr ⟨o, e _ _ (fun z => by rw [z, h1] at h; cases h) h⟩)
  · exact .inr h
theorem src_neR {H : Hp} {l a : Addr} {ks : List (Addr × List Int)} (s : SrcAt H l) (h : H a = some (.lst (refsOf ks))) : a ≠ l := fun z => by
  obtain ⟨_, _, _, _, _, h1⟩ := s.ex
  rw [z, h1] at h
  cases ks with
  | nil => cases h
  | cons x r => cases h
/-- a tuple of lots -/
structure LotT (K : PySem.W.Frag) (H : Hp) (t : Addr) (D : List (List Int)) : Prop where
  ex : ∃ ks, SqT K H t (refsOf ks) ∧ LotsAt K H ks ∧ ks.map (·.2) = D
theorem LotT.keep {K : PySem.W.Frag} {H H' : Hp} {t : Addr} {D : List (List Int)} (h : LotT K H t D) (e : Same H H') : LotT K H' t D := by
  obtain ⟨ks, h1, h2, h3⟩ := h.ex
  exact ⟨ks, same_tup e h1, same_lots e h2, h3⟩
theorem LotT.smb {K : PySem.W.Frag} {H H' : Hp} {l t : Addr} {D : List (List Int)} (h : LotT K H t D) (s : SrcAt H l) (e : Smb l H H') : LotT K H' t D := by
  obtain ⟨ks, h1, h2, h3⟩ := h.ex
  exact ⟨ks, smb_tup s e h1, fun q hq => smb_tup s e (h2 q hq), h3⟩
theorem LstAt.smb {K : PySem.W.Frag} {CL : Addr} {H H' : Hp} {l p : Addr} {m : Nat} {D : List (List Int)} (h : LstAt K CL H p m D) (s : SrcAt H l) (e : Smb l H H') : LstAt K CL H' p m D := by
  obtain ⟨dx, t, ks, h1, h2, h3, h4⟩ := h.ex
  obtain ⟨_, _, _, _, _, hl⟩ := s.ex
  exact ⟨dx, t, ks, e _ _ (fun z => by rw [z, hl] at h1; cases h1) h1, smb_tup s e h2, fun q hq => smb_tup s e (h3 q hq), h4⟩
/-- a web whose list of masks isn't the source -/
structure WebL (C : Addr) (H : Hp) (l p : Addr) (n : Nat) (near : List Nat) : Prop where
  ex : ∃ dx t nl, H p = some (.ins C dx (wfs n t nl)) ∧ H nl = some (.lst (nV near)) ∧ nl ≠ l
theorem WebL.web {C : Addr} {H : Hp} {l p : Addr} {n : Nat} {near : List Nat} (h : WebL C H l p n near) : WebAt C H p n near := by
  obtain ⟨dx, t, nl, h1, h2, _⟩ := h.ex
  exact ⟨dx, t, nl, h1, h2⟩
theorem WebL.keep {C : Addr} {H H' : Hp} {l p : Addr} {n : Nat} {near : List Nat} (h : WebL C H l p n near) (e : Same H H') : WebL C H' l p n near := by
  obtain ⟨dx, t, nl, h1, h2, h3⟩ := h.ex
  exact ⟨dx, t, nl, e _ _ h1, e _ _ h2, h3⟩
theorem WebL.smb {C : Addr} {H H' : Hp} {l p : Addr} {n : Nat} {near : List Nat} (h : WebL C H l p n near) (s : SrcAt H l) (e : Smb l H H') : WebL C H' l p n near := by
  obtain ⟨dx, t, nl, h1, h2, h3⟩ := h.ex
  obtain ⟨_, _, _, _, _, hl⟩ := s.ex
  exact ⟨dx, t, nl, e _ _ (fun z => by rw [z, hl] at h1; cases h1) h1, e _ _ h3 h2, h3⟩
/-- what stands while a case of the law is tried -/
structure LS (K : PySem.W.Frag) (C CL : Addr) (n m : Nat) (near : List Nat) (sh : List Int) (D : List (List Int)) (H : Hp) (l p s d o : Addr) : Prop where
  src : SrcAt H l
  web : WebL C H l p n near
  hsh : SqT K H s (sh.map V.int)
  due : LotT K H d D
  told : LstAt K CL H o m D
theorem LS.keep {K : PySem.W.Frag} {C CL : Addr} {n m : Nat} {near : List Nat} {sh : List Int} {D : List (List Int)} {H H' : Hp} {l p s d o : Addr} (h : LS K C CL n m near sh D H l p s d o) (e : Same H H') : LS K C CL n m near sh D H' l p s d o :=
  ⟨h.src.keep e, h.web.keep e, same_tup e h.hsh, h.due.keep e, h.told.keep e⟩
theorem LS.smb {K : PySem.W.Frag} {C CL : Addr} {n m : Nat} {near : List Nat} {sh : List Int} {D : List (List Int)} {H H' : Hp} {l p s d o : Addr} (h : LS K C CL n m near sh D H l p s d o) (e : Smb l H H') (k : SrcAt H' l) : LS K C CL n m near sh D H' l p s d o :=
  ⟨k, h.web.smb h.src e, smb_tup h.src e h.hsh, h.due.smb h.src e, h.told.smb h.src e⟩
theorem mk_list {K : PySem.W.Frag} {CL : Addr} {H : Hp} {d : Addr} {m : Nat} {D : List (List Int)} {R : Addr → Hp → Prop} {E : XK} (h : LotT K H d D) (m1 : 1 ≤ m) (m2 : m ≤ 12) (d1 : 1 ≤ D.length) (d2 : D.length ≤ 64) (st : ∀ x ∈ D, SM.Std m x) (asc : SM.Asc D)
    (q : ∀ (x : Addr) (H' : Hp), Same H H' → LstAt K CL H' x m D → R x H') : ∀ x dx, H x = none → H dx = none → dx ≠ x → spLInit K CL (.ref x :: ([.int (m : Int), .ref d] ++ [])) (upd (upd H dx (.own x)) x (.ins CL dx [])) (fun v H2 => v = .non ∧ R x H2) E := by
  intro x dx hx hdx _
  obtain ⟨ks, h1, h2, rfl⟩ := h.ex
  have e1 : Same H (upd (upd H dx (.own x)) x (.ins CL dx [])) := fun b o e => by rw [upd_ne (ne_of_none e hx), upd_ne (ne_of_none e hdx)]; exact e
  rw [List.length_map] at d1 d2
  exact ⟨x, dx, d, m, ks, rfl, upd_same, m1, m2, same_tup e1 h1, same_lots e1 h2, d1, d2, fun r hr => st _ (List.mem_map.mpr ⟨r, hr, rfl⟩), asc, fun H5 hlst k => ⟨rfl, q x H5 (fun b o e => k b o (ne_of_none e hx) (e1 b o e)) hlst⟩⟩
theorem sh_all {n : Nat} (h1 : 1 ≤ n) (h8 : n ≤ 8) : ShOk n (SM.intl (List.range n)) := by
  have l : (SM.intl (List.range n)).length = n := by rw [SM.ints_len, List.length_range]
  refine ⟨SM.asc_nd (SM.ints_asc List.pairwise_lt_range), fun x hx => ?_, by omega, by omega⟩
  obtain ⟨i, hi, rfl⟩ := SM.mem_ints.mp hx
  have := List.mem_range.mp hi
  omega
theorem sh_take {n m : Nat} {od : List Int} (o : SM.Od n od) (h1 : 1 ≤ m) (h2 : m ≤ n) (h8 : n ≤ 8) : ShOk n (od.take m) := by
  have l : (od.take m).length = m := by rw [List.length_take, o.len, Nat.min_eq_left h2]
  exact ⟨o.nd.sublist (List.take_sublist m od), fun x hx => (o.mem x).mp (List.mem_of_mem_take hx), by omega, by omega⟩
/-- the heights of what is told of in the frame -/
abbrev Fr (sc : Addr) (k : Int) (l : Addr) (n : Nat) (t p kl : Addr) (m : Nat) (s d o : Addr) (v11 v12 v13 v14 : Option V) : L2.St :=
  [some (.ref sc), some (.int k), some (.ref l), some (.int (n : Int)), some (.ref t), some (.ref p), some (.ref kl), some (.int (m : Int)), some (.ref s), some (.ref d), some (.ref o), v11, v12, v13, v14]
def spLaw (K : PySem.W.Frag) : Sp := fun vs H Q _ => ∃ (a : Addr) (ns : List Int), vs = [.ref a] ∧ SqL K H a (ns.map V.int) ∧ ∀ H', Q (.bl true) H'
theorem sc_law : FnScope ["_law_script", "_law_k", "_law_source_here", "_law_size_here", "_law_ties_here", "_law_web", "_law_known", "_law_places", "_law_showing", "_law_due", "_law_told", "_law_more", "_law_order", "_law_turned", "_law_place"] ["_law_script"] (defScope s_law) := ⟨rfl, rfl, rfl, by decide +kernel, rfl, by decide +kernel, by decide +kernel⟩
end SL
/-! the law's walk -/
namespace SL
open PySem PySem.Spec PyProof.Rows L2 SX2 SX3

section
variable {P : Program} {w : World} {K : PySem.W.Frag} {mg : Str → Option Value} {base : Heap} {C CC CL : Addr}
/-- what the law calls -/
structure Calls (P : Program) (w : World) (K : PySem.W.Frag) (mg : Str → Option Value) (base : Heap) (C CL : Addr) : Prop where
  source : Cal P w K mg base 1 "_law_source" (spSource K)
  size : Cal P w K mg base 2 "_law_size" spSize
  ties : Cal P w K mg base 3 "_law_ties" (spTies K)
  web : Mak P w K mg base 4 "Web" C (spWInit K C)
  lrests : Cal P w K mg base 2 "_law_rests" (spLRests K)
  draw : Cal P w K mg base 1 "_law_draw" spDraw
  perm : Cal P w K mg base 2 "_law_perm" spPerm
  lseen : Cal P w K mg base 1 "_law_seen" (spLSeen K)
  shown : Cal P w K mg base 25 "shown" (spShown K C CL)
  list : Mak P w K mg base 4 "List" CL (spLInit K CL)
  flag : Cal P w K mg base 1 "_law_flag" spFlag
  issh : Cal P w K mg base 25 "is_showing" (spIsSh K C CL)
  rests : Cal P w K mg base 24 "rests" (spRests K C)
  some_ : Cal P w K mg base 2 "_law_some_lot" spSome
  ren : Cal P w K mg base 1 "_law_renamed_stands" (spRen K)
  eq : ∃ (f : Addr) (fd : FuncData), FnOk P w K mg base CX0 1 f fd ["self", "other"] (spLEq K CL) ∧ Binds K fd ["self", "other"] [] ∧ NeC K CL f

set_option maxHeartbeats 40000000 in
theorem ok_law {f : Addr} {fd : FuncData} (D : L2.Fun K "law" "law" s_law f fd) (B : Bi mg) (TL : CLs K CL) (c : Calls P w K mg base C CL) : FnOk P w K mg base CX0 26 f fd ["_law_script"] (spLaw K) := by
  refine D.ok sc_law (fun vs H Q E h => ?_) (fun cdv A outer s H vs Q E hr h => ?_)
  · obtain ⟨a, ns, rfl, _⟩ := h
    rfl
  · obtain ⟨sc, ns, rfl, hS, q⟩ := h
    obtain ⟨ef, efd, eF, eB, eN⟩ := c.eq
    have hr2 : Room 2 _ := hr.mono (by decide)
    refine ⟨_, pss_cons (ps_for PassesOwn.never rfl (pi_range1 (by rfl) B.range (pa_cons pe_int pa_nil)) (pg_name (i := 1) sc_law.nd rfl (.inl rfl))
        (pss_cons (ps_set (i := 2) sc_law.nd rfl (.inl rfl) (pe_c c.source hr (by decide) rfl (pa_cons (pv 0) (pa_cons (pv 1) pa_nil))))
        (pss_cons (ps_set (i := 3) sc_law.nd rfl (.inl rfl) (pe_c c.size hr (by decide) rfl (pa_cons (pv 2) (pa_cons pe_int pa_nil))))
        (pss_cons (ps_set (i := 4) sc_law.nd rfl (.inl rfl) (pe_c c.ties hr (by decide) rfl (pa_cons (pv 2) (pa_cons (pv 3) pa_nil))))
        (pss_cons (ps_set (i := 5) sc_law.nd rfl (.inl rfl) (pe_mk c.web hr (by decide) rfl (pa_cons (pv 3) (pa_cons (pv 4) pa_nil))))
        (pss_cons (ps_set (i := 6) sc_law.nd rfl (.inl rfl) (pe_c c.lrests hr (by decide) rfl (pa_cons (pv 3) (pa_cons (pv 4) pa_nil))))
        (pss_cons (ps_set (i := 7) sc_law.nd rfl (.inl rfl) (pe_op op_addN pe_int (pe_c c.draw hr (by decide) rfl (pa_cons (pv 2) (pa_cons (pv 3) pa_nil)))))
        (pss_cons (ps_set (i := 8) sc_law.nd rfl (.inr rfl) (pe_callTy call_tuple_of (by rfl) B.tuple b_tuple (pa_cons (pe_slice sl_list (pe_c c.perm hr (by decide) rfl (pa_cons (pv 2) (pa_cons (pv 3) pa_nil))) po_none (po_some (pv 7))) pa_nil)))
        (pss_cons (ps_set (i := 9) sc_law.nd rfl (.inl rfl) (pe_c c.lseen hr (by decide) rfl (pa_cons (pv 6) (pa_cons (pv 8) pa_nil))))
        (C8.pss_cut (ps_set (i := 10) sc_law.nd rfl (.inl rfl) (pe_c c.shown hr (by decide) rfl (pa_cons (pv 5) (pa_cons (pv 8) pa_nil))))
        (C8.pss_cut (ps_if (PW.pt (pw_or (pt_cmpR (op_neO eF hr2 eN eB) (pv 10) (pe_mk c.list hr (by decide) rfl (pa_cons (pv 7) (pa_cons (pv 9) pa_nil))) (nomark _)) (pw_or1 (pt_not (pt_val (pe_c c.flag hr (by decide) rfl (pa_cons (pe_c c.issh hr (by decide) rfl (pa_cons (pv 5) (pa_cons (pv 10) (pa_cons (pv 8) pa_nil)))) (pa_cons pe_bl pa_nil)))))))) (pss_one (ps_ret pe_bl)) pss_nil)
        (C8.pss_cut (ps_if (PW.pt (pw_or (pt_cmpR (op_neD hr.units) (pe_fld (pe_c c.shown hr (by decide) rfl (pa_cons (pv 5) (pa_cons (pe_tupRg rfl (by rfl) B.tuple (prg_1 (by rfl) B.range (pv 3))) pa_nil))) rfl) (pe_callTy call_tuple_of (by rfl) B.tuple b_tuple (pa_cons (pe_c c.rests hr (by decide) rfl (pa_cons (pv 5) pa_nil)) pa_nil)) (nomark _)) (pw_or1 (pt_cmpR (op_neO eF hr2 eN eB) (pe_c c.shown hr (by decide) rfl (pa_cons (pv 5) (pa_cons (pv 8) pa_nil))) (pv 10) (nomark _))))) (pss_one (ps_ret pe_bl)) pss_nil)
        (C8.pss_cut (ps_set (i := 11) sc_law.nd rfl (.inl rfl) (pe_callTy call_tuple_of (by rfl) B.tuple b_tuple (pa_cons (pe_callB (cr_sortSL rfl hr.units) (by rfl) B.sorted b_sorted (pa_cons (pe_callTy (cr_setT rfl hr.units) (by rfl) B.set b_set (pa_cons (pe_op op_catA (pv 9) (pe_tup (pa_cons (pe_c c.some_ hr (by decide) rfl (pa_cons (pv 2) (pa_cons (pv 7) pa_nil))) pa_nil))) pa_nil)) pa_nil)) pa_nil)))
        (C8.pss_cut (ps_if (pt_not (pt_val (pe_c c.flag hr (by decide) rfl (pa_cons (pe_c c.issh hr (by decide) rfl (pa_cons (pv 5) (pa_cons (pe_mk c.list hr (by decide) rfl (pa_cons (pv 7) (pa_cons (pv 11) pa_nil))) (pa_cons (pv 8) pa_nil)))) (pa_cons (pe_cmpR (op_eqD hr.units) (pv 11) (pv 9) (nomark _)) pa_nil))))) (pss_one (ps_ret pe_bl)) pss_nil)
        (C8.pss_cut (ps_if (PW.pt (pw_and (pt_cmpR op_gt (pe_callB call_len_seq (by rfl) B.len b_len (pa_cons (pv 9) pa_nil)) pe_int (nomark _)) (pw_and1 (pt_cmpR op_isnot_bl (pe_c c.issh hr (by decide) rfl (pa_cons (pv 5) (pa_cons (pe_mk c.list hr (by decide) rfl (pa_cons (pv 7) (pa_cons (pe_slice sl_tup (pv 9) (po_some pe_int) po_none) pa_nil))) (pa_cons (pv 8) pa_nil)))) pe_bl (nomark _))))) (pss_one (ps_ret pe_bl)) pss_nil)
        (pss_cons (ps_set (i := 12) sc_law.nd rfl (.inr rfl) (pe_c c.perm hr (by decide) rfl (pa_cons (pv 2) (pa_cons (pv 7) pa_nil))))
        (C8.pss_cut (ps_set (i := 13) sc_law.nd rfl (.inl rfl) (pe_callTy call_tuple_of (by rfl) B.tuple b_tuple (pa_cons (pe_lc (own := [("_law_place", 14)]) (g := gName 14) (tt := tYes) (te := tOp (rIxT K) (tVar 8) (tBM K "list" (rIndex K) (tVar 12) (tCons (tVar 14) tNil))) rfl sc_law.nd (pi_range1 (by rfl) B.range (pa_cons (pv 7) pa_nil))
              (blkOk_by (N := ["_law_script", "_law_k", "_law_source_here", "_law_size_here", "_law_ties_here", "_law_web", "_law_known", "_law_places", "_law_showing", "_law_due", "_law_told", "_law_more", "_law_order", "_law_turned", "_law_place"]) (sc := defScope s_law) (by decide +kernel))
              (fun _ _ _ _ _ => pg_name (i := 14) sc_law.nd rfl (.inl rfl)) (fun _ _ _ _ _ => pts_nil)
              (fun _ _ _ _ _ => pe_ix ix_tup (pv 8) (pe_bm PySem.F.plainAttrs_list PySem.F.slot_list_index PySem.F.type_list_index mt_index (pv 12) (pa_cons (pv 14) pa_nil)) (fun _ _ => rfl))) pa_nil)))
        (C8.pss_cut (ps_if (pt_cmpR (op_neD hr.units) (pe_fld (pe_c c.shown hr (by decide) rfl (pa_cons (pv 5) (pa_cons (pv 13) pa_nil))) rfl) (pe_c c.ren hr (by decide) rfl (pa_cons (pv 9) (pa_cons (pv 12) pa_nil))) (nomark _)) (pss_one (ps_ret pe_bl)) pss_nil)
        (pss_one (ps_if (pt_cmpR op_isnot_bl (pe_c c.issh hr (by decide) rfl (pa_cons (pv 5) (pa_cons (pe_mk c.list hr (by decide) rfl (pa_cons (pe_op op_addN (pv 7) pe_int) (pa_cons (pv 9) pa_nil))) (pa_cons (pv 8) pa_nil)))) pe_bl (nomark _)) (pss_one (ps_ret pe_bl)) pss_nil))))))))))))))))))))
      (pss_one (ps_ret pe_bl)), ?_⟩
    refine ⟨(4 : Int), rfl, by decide, by decide, for_range (lo := 0) (n := 4) (fun i σ H' => Same H H' ∧ ∃ v1 v2 v3 v4 v5 v6 v7 v8 v9 v10 v11 v12 v13 v14 : Option V, σ = [some (.ref sc), v1, v2, v3, v4, v5, v6, v7, v8, v9, v10, v11, v12, v13, v14])
      ⟨Same.refl H, none, none, none, none, none, none, none, none, none, none, none, none, none, none, rfl⟩ ?_ ?_⟩
    · rintro i σ H0 hi ⟨hs0, v1, v2, v3, v4, v5, v6, v7, v8, v9, v10, v11, v12, v13, v14, rfl⟩
      rw [Int.zero_add]
      refine ⟨_, rfl, _, rfl, sc, ns, i, rfl, hs0.seq hS, fun l H1 hs1 src1 hl0 => ?_⟩
      refine ⟨_, rfl, l, rfl, src1, fun n H2 k2 src2 n1 n8 => ?_⟩
      refine ⟨_, rfl, _, rfl, l, n, rfl, src2, n1, n8, fun t ts H3 k3 src3 hties hok => ?_⟩
      have g := SM.nearOf_gr n1 n8 hok
      refine ⟨_, rfl, _, rfl, fun p dx hp hdx hne => ?_⟩
      have e34 : Same H3 (upd (upd H3 dx (.own p)) p (.ins C dx [])) := fun b o e => by rw [upd_ne (ne_of_none e hp), upd_ne (ne_of_none e hdx)]; exact e
      refine ⟨p, dx, t, n, ts, rfl, upd_same, n1, by omega, hties.keep e34, hok, fun H4 t' nl w1 w2 hnl k4 => ⟨rfl, ?_⟩⟩
      have s4 : Same H3 H4 := fun b o e => k4 b o (ne_of_none e hp) (e34 b o e)
      have src4 := src3.keep s4
      have wl4 : WebL C H4 l p n (SM.nearOf n ts) := ⟨dx, t', nl, w1, w2, fun z => by
        obtain ⟨_, _, _, _, _, z1⟩ := (src3.keep e34).ex
        rw [z, z1] at hnl; cases hnl⟩
      refine ⟨_, rfl, _, rfl, n, t, ts, rfl, n1, n8, hties.keep s4, hok, fun kl ks H5 hs5 hkl hlots hisd hlen => ?_⟩
      have src5 := src4.keep hs5
      refine ⟨_, rfl, _, rfl, l, n, rfl, src5, n1, by omega, fun r H6 k6 src6 hr6 => ⟨1, r, rfl, rfl, ?_⟩⟩
      refine ⟨_, rfl, _, rfl, l, n, rfl, src6, n8, fun fo nm H7 k7 src7 hnm _ od => ?_⟩
      have odl := od.len
      refine ⟨_, rfl, ((1 + r : Nat) : Int), rfl, fo, _, rfl, SqL.of hnm, fun sl hsl => ⟨sl, _, rfl, .inl ⟨SqL.of upd_same, fun s hs => ?_⟩⟩⟩
      rw [cut_take (by omega)]
      have s78 : Same H7 (upd (upd H7 sl (.lst ((nm.take (1 + r)).map V.int))) s (.tup ((nm.take (1 + r)).map V.int))) := by
        have q1 : Same H7 (upd H7 sl (.lst ((nm.take (1 + r)).map V.int))) := same_new hsl
        rw [cut_take (by omega)] at hs
        exact q1.trans (same_new hs)
      have hok1 : ShOk n (nm.take (1 + r)) := sh_take od (by omega) (by omega) n8
      have hshl : (nm.take (1 + r)).length = 1 + r := by rw [List.length_take, od.len]; exact Nat.min_eq_left (by omega)
      have k58 : Smb l H5 (upd (upd H7 sl (.lst ((nm.take (1 + r)).map V.int))) s (.tup ((nm.take (1 + r)).map V.int))) := Smb.trans (Smb.trans k6 k7) (Same.smb s78)
      have nkl : kl ≠ l := src_neR src5 hkl
      have hsh8 : SqT K (upd (upd H7 sl (.lst ((nm.take (1 + r)).map V.int))) s (.tup ((nm.take (1 + r)).map V.int))) s ((nm.take (1 + r)).map V.int) := SqT.of upd_same
      generalize hH8 : upd (upd H7 sl (.lst ((nm.take (1 + r)).map V.int))) s (.tup ((nm.take (1 + r)).map V.int)) = H8 at *
      generalize hsh : nm.take (1 + r) = sh at *
      generalize hm : 1 + r = m at *
      generalize hnr : SM.nearOf n ts = near at *
      refine ⟨_, rfl, _, rfl, kl, s, n, near, ks, sh, rfl, SqL.of (k58 _ _ nkl hkl), fun q hq => smb_tup src5 k58 (hlots q hq), g, hisd, hlen, hsh8, by have := hok1.hi; omega, fun d ls H9 hs9 hd hlots9 hE l1 l2 => ?_⟩
      have src8 := src7.keep s78
      have k48 : Smb l H4 H8 := Smb.trans (Same.smb hs5) k58
      have wl9 := (wl4.smb src4 k48).keep hs9
      have sc9 : Same H H9 := fun b o e => by
        have e0 := hs0 _ _ e
        have nb := ne_of_none e0 hl0
        exact hs9 _ _ (k48 _ _ nb (s4 _ _ (k3 _ _ nb (k2 _ _ nb (hs1 _ _ e0)))))
      have due9 : LotT K H9 d (ls.map (·.2)) := ⟨ls, SqT.of hd, hlots9, rfl⟩
      generalize hD : ls.map (·.2) = D at *
      have dl := seen_ne g hE
      have d18 := seen_few g hE
      have dstd := seen_stds (m := m) (by omega) hE
      have dasc := hE.asc
      have m12 := hok1.hi
      have m1 := hok1.lo
      have src9 := src8.keep hs9
      have hsh9 := same_tup hs9 hsh8
      refine ⟨fun σ' H' => Same H H' ∧ ∃ (o : Addr) (v11 v12 v13 v14 : Option V), σ' = Fr sc (i : Int) l n t p kl m s d o v11 v12 v13 v14 ∧ LS K C CL n m near sh D H' l p s d o, ?_, ?_⟩
      · refine ⟨_, rfl, _, rfl, p, s, n, near, sh, rfl, wl9.web, g, hsh9, hok1, fun o D' H10 hs10 hlst hD' => ?_⟩
        have eD : D' = D := hD'.uniq hE
        rw [eD, hshl] at hlst
        exact ⟨sc9.trans hs10, o, _, _, _, _, rfl, ⟨src9.keep hs10, wl9.keep hs10, same_tup hs10 hsh9, due9.keep hs10, hlst⟩⟩
      clear sc9 due9 src9 hsh9 wl9 src8 k48 hs9 hlots9 hd
      rintro σ' H10 ⟨sc10, o, v11, v12, v13, v14, rfl, L⟩
      -- told is the list that is due, and is_showing says so
      refine ⟨fun σ' H' => Same H H' ∧ ∃ (o : Addr) (v11 v12 v13 v14 : Option V), σ' = Fr sc (i : Int) l n t p kl m s d o v11 v12 v13 v14 ∧ LS K C CL n m near sh D H' l p s d o, ?_, ?_⟩
      · obtain ⟨dx1, t1, ks1, a1, _⟩ := L.told.ex
        refine ⟨_, rfl, _, rfl, _, rfl, mk_list L.due (by omega) (by omega) dl (by omega) dstd dasc fun x H5 h5 hx => ?_⟩
        obtain ⟨dx2, t2, ks2, b1, _⟩ := hx.ex
        have L5 := L.keep h5
        refine ⟨o, x, _, _, _, _, rfl, rfl, h5 _ _ a1, b1, o, x, m, m, D, D, rfl, L5.told, hx, fun H6 h6 => ⟨_, rfl, _, rfl, ?_⟩⟩
        refine iteFe (by rw [decide_eq_true (show m = m ∧ D = D from ⟨rfl, rfl⟩)]; rfl) ?_
        have L6 := L5.keep h6
        refine ⟨_, rfl, _, rfl, _, rfl, p, o, s, n, m, near, sh, D, D, rfl, L6.web.web, g, L6.told, L6.hsh, hok1, hE, fun H7 h7 => ⟨_, true, rfl, _, rfl, ?_⟩⟩
        refine iteFe (by rw [decide_eq_true (show sh.length = m ∧ D = D from ⟨hshl, rfl⟩)]; rfl) ?_
        exact ⟨(sc10.trans h5).trans (h6.trans h7), o, _, _, _, _, rfl, L6.keep h7⟩
      clear sc10 L
      rintro σ' H10 ⟨sc10, o, v11, v12, v13, v14, rfl, L⟩
      -- all parts shown are the rests; shown twice is the same
      refine ⟨fun σ' H' => Same H H' ∧ ∃ (o : Addr) (v11 v12 v13 v14 : Option V), σ' = Fr sc (i : Int) l n t p kl m s d o v11 v12 v13 v14 ∧ LS K C CL n m near sh D H' l p s d o, ?_, ?_⟩
      · refine ⟨_, rfl, _, rfl, (n : Int), rfl, RgOk.of_le (by decide) (by omega) (by decide) (by omega), fun a0 ha0 => ?_⟩
        have e5 : Same H10 (upd H10 a0 (.tup (rgV 0 (n : Int)))) := same_new ha0
        have L5 := L.keep e5
        refine ⟨p, a0, n, near, SM.intl (List.range n), rfl, L5.web.web, g, by rw [← rgV_ints]; exact SqT.of upd_same, sh_all n1 n8, fun o2 D2 H6 h6 hl2 hd2 => ?_⟩
        obtain ⟨dx2, t2, ks2, b1, b2, b3, b4⟩ := hl2.ex
        have L6 := L5.keep h6
        refine ⟨o2, CL, dx2, _, _, rfl, b1, TL.cl, TL.nS, l_stands _ _, ?_⟩
        refine ⟨_, rfl, p, n, near, rfl, L6.web.web, g, fun rl ks7 H7 h7 hrl hlk hisd7 _ => ⟨rl, _, rfl, .inl ⟨SqL.of hrl, fun tt htt => ?_⟩⟩⟩
        have e7 : Same H7 (upd H7 tt (.tup (refsOf ks7))) := same_new htt
        have e67 := h7.trans e7
        have L7 := L6.keep e67
        have eq1 : ks2.map (·.2) = ks7.map (·.2) := by
          rw [b4]
          exact (hd2.imp (SM.SeenP_all g)).uniq hisd7
        refine ⟨_, _, dp_of (same_tup e67 b2) (same_lots e67 b3), dp_of (SqT.of upd_same) (same_lots e7 hlk), lotsD_shaped _, lotsD_shaped _, _, rfl, ?_⟩
        refine iteFe (by rw [lotsD_eqv, decide_eq_true eq1]; rfl) ?_
        refine ⟨_, rfl, _, rfl, p, s, n, near, sh, rfl, L7.web.web, g, L7.hsh, hok1, fun o3 D3 H8 h8 hl3 hd3 => ?_⟩
        have L8 := L7.keep h8
        have eq2 : D3 = D := hd3.uniq hE
        rw [eq2, hshl] at hl3
        obtain ⟨dx3, t3, ks3, c1, _⟩ := hl3.ex
        obtain ⟨dx4, t4, ks4, c2, _⟩ := L8.told.ex
        refine ⟨_, rfl, o3, o, _, _, _, _, rfl, rfl, c1, c2, o3, o, m, m, D, D, rfl, hl3, L8.told, fun H9 h9 => ⟨_, rfl, _, rfl, ?_⟩⟩
        refine iteFe (by rw [decide_eq_true (show m = m ∧ D = D from ⟨rfl, rfl⟩)]; rfl) ?_
        exact ⟨(sc10.trans e5).trans (h6.trans (e67.trans (h8.trans h9))), o, _, _, _, _, rfl, L8.keep h9⟩
      clear sc10 L
      rintro σ' H10 ⟨sc10, o, v11, v12, v13, v14, rfl, L⟩
      have m8 : m ≤ 8 := by omega
      have nbl : ∀ {b : Addr} {u : HO}, H b = some u → b ≠ l := fun e => ne_of_none (hs0 _ _ e) hl0
      -- one stand more
      refine ⟨fun σ' H' => Same H H' ∧ ∃ (o mo : Addr) (M : List (List Int)) (v12 v13 v14 : Option V), σ' = Fr sc (i : Int) l n t p kl m s d o (some (.ref mo)) v12 v13 v14 ∧ LS K C CL n m near sh D H' l p s d o ∧ LotT K H' mo M ∧ 1 ≤ M.length ∧ M.length ≤ 64 ∧ (∀ x ∈ M, SM.Std m x) ∧ SM.Asc M, ?_, ?_⟩
      · refine ⟨_, rfl, _, rfl, _, rfl, l, m, rfl, L.src, m8, fun tq st H5 k5 src5 htq hst => ⟨(by show 1 ≤ sizeLine; decide), fun t1 ht1 => ?_⟩⟩
        have L5 := L.smb k5 src5
        obtain ⟨ks5, d1, d2, d3⟩ := id L5.due.ex
        have kl5 : ks5.length = D.length := by rw [← d3, List.length_map]
        have e1 : Same H5 (upd H5 t1 (.tup [.ref tq])) := same_new ht1
        have kr : (refsOf ks5).length = ks5.length := List.length_map _
        refine ⟨d, t1, refsOf ks5, [.ref tq], rfl, rfl, same_tup e1 d1, SqT.of upd_same, by rw [kr, List.length_singleton, sizeLine_eq]; omega, fun e => absurd (congrArg List.length e) (by rw [kr]; show ¬ ks5.length = 0; omega), (fun _ e => by cases e), fun _ _ t2 ht2 => ?_⟩
        have e2 : Same (upd H5 t1 (.tup [.ref tq])) (upd (upd H5 t1 (.tup [.ref tq])) t2 (.tup (refsOf ks5 ++ [.ref tq]))) := same_new ht2
        have e12 := e1.trans e2
        have lots5 : ∀ q ∈ ks5 ++ [(tq, st)], SqT K H5 q.1 (q.2.map V.int) := fun q hq => by
          rcases List.mem_append.mp hq with z | z
          · exact d2 q z
          · rw [List.mem_singleton.mp z]; exact SqT.of htq
        refine ⟨t2, ks5 ++ [(tq, st)], rfl, SqT.of (upd_same.trans (congrArg (fun l => some (HO.tup l)) (by unfold refsOf; rw [List.map_append]; rfl))), fun q hq => same_tup e12 (lots5 q hq), by rw [List.length_append, List.length_singleton]; omega, fun a Ls ha hsub hcov => ?_⟩
        have e3 := same_new (o := SetTO P w a Ls) ha
        have e13 := e12.trans e3
        refine ⟨a, Ls, rfl, upd_same, fun q hq => same_tup e13 (lots5 q (hsub q hq)), fun L' r' pm asc hlt hr' => ?_⟩
        have e14 := e13.trans (same_new (o := .lst (refsOf L')) hr')
        refine ⟨r', _, rfl, .inl ⟨SqL.of upd_same, fun mo hmo => ?_⟩⟩
        have e15 := e14.trans (same_new (o := .tup (refsOf L')) hmo)
        have hL' : ∀ q ∈ L', q ∈ ks5 ++ [(tq, st)] := fun q hq => hsub q (pm.mem_iff.mp hq)
        refine ⟨fun b u e => e15 _ _ (k5 _ _ (nbl e) (sc10 _ _ e)), o, mo, L'.map (·.2), _, _, _, rfl, L5.keep e15, ⟨L', SqT.of upd_same, fun q hq => same_tup e15 (lots5 q (hL' q hq)), rfl⟩, ?_, by rw [List.length_map]; omega, fun x hx => ?_, asc⟩
        · obtain ⟨z, hz, _⟩ := List.mem_map.mp (hcov (tq, st) (List.mem_append_right _ (List.mem_singleton.mpr rfl)))
          have := List.length_pos_of_mem (pm.mem_iff.mpr hz)
          rw [List.length_map]; omega
        · obtain ⟨y, hy, rfl⟩ := List.mem_map.mp hx
          rcases List.mem_append.mp (hL' y hy) with z | z
          · exact dstd _ (by rw [← d3]; exact List.mem_map.mpr ⟨y, z, rfl⟩)
          · rw [List.mem_singleton.mp z]; exact hst
      clear sc10 L
      rintro σ' H10 ⟨sc10, o, mo, M, v12, v13, v14, rfl, L, hM, M1, M2, M3, M4⟩
      refine ⟨fun σ' H' => Same H H' ∧ ∃ (o : Addr) (v11 v12 v13 v14 : Option V), σ' = Fr sc (i : Int) l n t p kl m s d o v11 v12 v13 v14 ∧ LS K C CL n m near sh D H' l p s d o, ?_, ?_⟩
      · refine ⟨_, rfl, _, rfl, _, rfl, mk_list hM (by omega) (by omega) M1 M2 M3 M4 fun x H5 h5 hx => ?_⟩
        have L5 := L.keep h5
        refine ⟨_, rfl, p, x, s, n, m, near, sh, M, D, rfl, L5.web.web, g, hx, L5.hsh, hok1, hE, fun H6 h6 => ?_⟩
        have L6 := L5.keep h6
        obtain ⟨ksM, a1, a2, rfl⟩ := (hM.keep (h5.trans h6)).ex
        obtain ⟨ksD, b1, b2, b3⟩ := id L6.due.ex
        refine ⟨_, rfl, _, rfl, _, _, dp_of a1 a2, dp_of b1 b2, lotsD_shaped _, lotsD_shaped _, _, _, rfl, _, rfl, ?_⟩
        have eb : decide (sh.length = m ∧ D = ksM.map (·.2)) = PyData.eqv (lotsD (ksM.map (·.2))) (lotsD (ksD.map (·.2))) := by
          rw [lotsD_eqv, b3]
          exact decide_eq_decide.mpr ⟨fun z => z.2.symm, fun z => ⟨hshl, z.symm⟩⟩
        refine iteFe (by rw [decide_eq_true eb]; rfl) ?_
        exact ⟨sc10.trans (h5.trans h6), o, _, _, _, _, rfl, L6⟩
      clear sc10 L hM M1 M2 M3 M4
      rintro σ' H10 ⟨sc10, o, v11, v12, v13, v14, rfl, L⟩
      -- without the first stand
      refine ⟨fun σ' H' => Same H H' ∧ ∃ (o : Addr) (v11 v12 v13 v14 : Option V), σ' = Fr sc (i : Int) l n t p kl m s d o v11 v12 v13 v14 ∧ LS K C CL n m near sh D H' l p s d o, ?_, ?_⟩
      · obtain ⟨ksD, b1, b2, b3⟩ := id L.due.ex
        have kD : ksD.length = D.length := by rw [← b3, List.length_map]
        have kr : (refsOf ksD).length = ksD.length := List.length_map _
        refine ⟨_, rfl, d, _, rfl, .inr b1, _, _, rfl, rfl, _, rfl, ite2 (fun cc => ?_) (fun cc => ?_)⟩
        · have D2 : 2 ≤ D.length := by
            have := of_decide_eq_true cc
            rw [kr] at this
            omega
          refine ⟨_, rfl, _, rfl, _, rfl, _, rfl, d, _, rfl, b1, (fun z => by
            have z1 : HT.sIx (refsOf ksD).length 0 (some ((1 : Nat) : Int)) = 0 := z.1
            rw [HT.sIx_nat, kr] at z1
            omega), fun d1 hd1 => ?_⟩
          have e1 : Same H10 (upd H10 d1 (.tup (cutV (refsOf ksD) (some 1) none))) := same_new hd1
          have hT : LotT K (upd H10 d1 (.tup (cutV (refsOf ksD) (some 1) none))) d1 (D.drop 1) := ⟨ksD.drop 1, SqT.of (upd_same.trans (congrArg (fun l => some (HO.tup l)) (cut_drop (by omega)))), fun q hq => same_tup e1 (b2 q (List.mem_of_mem_drop hq)), by rw [← b3, List.map_drop]⟩
          refine mk_list hT (by omega) (by omega) (by rw [List.length_drop]; omega) (by rw [List.length_drop]; omega) (fun x hx => dstd x (List.mem_of_mem_drop hx)) (dasc.sublist (List.drop_sublist 1 D)) fun x H5 h5 hx => ?_
          have L5 := (L.keep e1).keep h5
          refine ⟨_, rfl, p, x, s, n, m, near, sh, D.drop 1, D, rfl, L5.web.web, g, hx, L5.hsh, hok1, hE, fun H6 h6 => ⟨_, false, rfl, rfl, _, rfl, ?_⟩⟩
          have ne : ¬ (sh.length = m ∧ D = D.drop 1) := fun z => by
            have := congrArg List.length z.2
            rw [List.length_drop] at this
            omega
          refine iteFe (by rw [decide_eq_false ne]; rfl) ?_
          exact ⟨sc10.trans (e1.trans (h5.trans h6)), o, _, _, _, _, rfl, L5.keep h6⟩
        · exact ⟨sc10, o, _, _, _, _, rfl, L⟩
      clear sc10 L
      rintro σ' H10 ⟨sc10, o, v11, v12, v13, v14, rfl, L⟩
      -- the places in another order
      refine ⟨_, rfl, _, rfl, l, m, rfl, L.src, m8, fun fo2 od2 H5 k5 src5 hod2 nfl2 odm => ?_⟩
      have L5 := L.smb k5 src5
      have sc5 : Same H H5 := fun b u e => k5 _ _ (nbl e) (sc10 _ _ e)
      have od2l := odm.len
      refine ⟨fun σ' H' => Same H H' ∧ ∃ (tt : Addr) (tu : List Int) (v11 v14 : Option V), σ' = Fr sc (i : Int) l n t p kl m s d o v11 (some (.ref fo2)) (some (.ref tt)) v14 ∧ LS K C CL n m near sh D H' l p s d o ∧ H' fo2 = some (.lst (od2.map V.int)) ∧ SqT K H' tt (tu.map V.int) ∧ Trn m od2 sh tu, ?_, ?_⟩
      · refine ⟨_, rfl, (m : Int), rfl, by omega, by omega, fun Dd hDd => ?_⟩
        refine lc_range (lo := 0) (n := m) (fun j H' => Same H5 H' ∧ ∃ tu : List Int, H' Dd = some (.lst (tu.map V.int)) ∧ tu.length = j ∧ ∀ p, p < j → ∃ q, q < m ∧ od2.getD q 0 = (p : Int) ∧ tu.getD p 0 = sh.getD q 0) ⟨same_new hDd, [], upd_same, rfl, fun p hp => absurd hp (Nat.not_lt_zero p)⟩ ?_ ?_
        · rintro j H' hj ⟨h1, tu, h2, h3, h4⟩
          rw [Int.zero_add]
          obtain ⟨qj, hqj, eqj⟩ := odm.sur hj
          have hod' := h1 _ _ hod2
          have getq : ∀ x, x < m → (od2.map V.int)[x]? = some (.int (od2.getD x 0)) := fun x hx => by
            rw [List.getElem?_map, List.getD_eq_getElem?_getD, List.getElem?_eq_getElem (by omega : x < od2.length)]; rfl
          have geth : (sh.map V.int)[qj]? = some (.int (sh.getD qj 0)) := by
            rw [List.getElem?_map, List.getD_eq_getElem?_getD, List.getElem?_eq_getElem (by omega : qj < sh.length)]; rfl
          refine ⟨rfl, _, rfl, _, rfl, .inl ⟨rfl, _, SqL.of hod'⟩, _, rfl, fo2, _, .int (j : Int), qj, _, rfl, rfl, SqL.of hod', rfl, flat_ints od2, getq qj hqj, ?_, fun x z' hx hz' => ?_, ?_⟩
          · show (od2.getD qj 0 == (j : Int)) = true
            rw [eqj]; exact beq_self_eq_true _
          · rw [getq x (by omega)] at hz'
            have ez := (Option.some.inj hz').symm
            rw [ez]
            show (od2.getD x 0 == (j : Int)) = false
            refine beq_eq_false_iff_ne.mpr fun e => ?_
            have := odm.inj (by omega) hqj (e.trans eqj.symm)
            omega
          · refine ⟨s, _, _, _, rfl, rfl, same_tup h1 L5.hsh, atI_nat geth, _, h2, by rw [List.length_map]; exact small_sz (by omega), fun b u e => ?_, tu ++ [sh.getD qj 0], by rw [upd_same, List.map_append]; rfl, by rw [List.length_append, h3]; rfl, fun x hx => ?_⟩
            · rw [upd_ne (ne_of_none e hDd)]; exact h1 _ _ e
            · by_cases hxj : x < j
              · obtain ⟨q1, q2, q3, q4⟩ := h4 x hxj
                exact ⟨q1, q2, q3, by rw [getD_snoc, if_pos (by omega)]; exact q4⟩
              · have exj : x = j := by omega
                exact ⟨qj, hqj, by rw [exj]; exact eqj, by rw [getD_snoc, if_neg (by omega), if_pos (by omega)]⟩
        · rintro H' ⟨h1, tu, h2, h3, h4⟩
          refine ⟨Dd, _, rfl, .inl ⟨SqL.of h2, fun tt htt => ?_⟩⟩
          have e1 := h1.trans (same_new (o := .tup (tu.map V.int)) htt)
          exact ⟨sc5.trans e1, tt, tu, _, _, rfl, L5.keep e1, e1 _ _ hod2, SqT.of upd_same, ⟨h3, h4⟩⟩
      clear sc10 L L5 sc5 hod2 src5 k5
      rintro σ' H10 ⟨sc10, tt, tu, v11, v14, rfl, L, hod2, htt, trn⟩
      refine ⟨fun σ' H' => Same H H' ∧ ∃ (v11 v12 v13 v14 : Option V), σ' = Fr sc (i : Int) l n t p kl m s d o v11 v12 v13 v14 ∧ LS K C CL n m near sh D H' l p s d o, ?_, ?_⟩
      · refine ⟨_, rfl, _, rfl, p, tt, n, near, tu, rfl, L.web.web, g, htt, trn.ok odm hshl hok1, fun o2 D2 H6 h6 hl2 hd2 => ?_⟩
        obtain ⟨dx2, t2, ks2, b1, b2, b3, b4⟩ := hl2.ex
        have L6 := L.keep h6
        obtain ⟨ksD, c1, c2, c3⟩ := id L6.due.ex
        have kD : ksD.length = D.length := by rw [← c3, List.length_map]
        refine ⟨o2, CL, dx2, _, _, rfl, b1, TL.cl, TL.nS, l_stands _ _, ?_⟩
        refine ⟨_, rfl, _, rfl, d, fo2, m, od2, ksD, rfl, c1, c2, h6 _ _ hod2, odm, fun q hq => dstd _ (by rw [← c3]; exact List.mem_map.mpr ⟨q, hq, rfl⟩), by omega, m8, fun u ls7 H7 h7 hu hlk7 perm pw => ?_⟩
        rw [c3] at perm
        have eq1 : ks2.map (·.2) = ls7.map (·.2) := by
          rw [b4]
          exact hd2.uniq (SM.ren_law odm hshl trn.len (trn.law odm) hE perm pw)
        refine ⟨_, _, dp_of (same_tup h7 b2) (same_lots h7 b3), dp_of (SqT.of hu) hlk7, lotsD_shaped _, lotsD_shaped _, _, rfl, ?_⟩
        refine iteFe (by rw [lotsD_eqv, decide_eq_true eq1]; rfl) ?_
        exact ⟨sc10.trans (h6.trans h7), _, _, _, _, rfl, L6.keep h7⟩
      clear sc10 L hod2 htt trn
      rintro σ' H10 ⟨sc10, v11, v12, v13, v14, rfl, L⟩
      -- one place too many
      refine ⟨_, rfl, _, rfl, m, 1, rfl, rfl, _, rfl, mk_list L.due (by omega) (by omega) dl (by omega) (fun x hx => ⟨(dstd x hx).asc, fun y hy => by have := (dstd x hx).bd y hy; omega⟩) dasc fun x H5 h5 hx => ?_⟩
      have L5 := L.keep h5
      refine ⟨_, rfl, p, x, s, n, m + 1, near, sh, D, D, rfl, L5.web.web, g, hx, L5.hsh, hok1, hE, fun H6 h6 => ⟨_, false, rfl, rfl, _, rfl, ?_⟩⟩
      have ne : ¬ (sh.length = m + 1 ∧ D = D) := fun z => by
        have := z.1
        omega
      refine iteFe (by rw [decide_eq_false ne]; rfl) ?_
      exact ⟨sc10.trans (h5.trans h6), _, _, _, _, _, _, _, _, _, _, _, _, _, _, rfl⟩
    · rintro σ H' ⟨_, v1, v2, v3, v4, v5, v6, v7, v8, v9, v10, v11, v12, v13, v14, rfl⟩
      exact q H'
end
end SL
/-! what the top leaves, and all promises together -/
namespace SL
open PySem PySem.Spec PyProof.Rows L2 SX2 SX3

/-- a def of the module in the written part -/
structure DefK (K : PySem.W.Frag) (x : Str) (st : Stmt) : Prop where
  ex : ∃ (f : Addr) (oc : Value) (od an : Option Addr) (sl : Array (Option Value)) (kV dc pm cd ct : Value), PySem.W.nsIn K mainGlobals x = some (some (.ref f)) ∧ K.lookup f = some ⟨oc, od, .func (PySem.W.fnOf x x (defArgs st) (defBody st) (defScope st) .none kV dc pm an cd ct), sl⟩ ∧ PySem.W.codeIn K cd x = true ∧ PySem.W.keepIn K (.ref f) = true
theorem def_mk {K : PySem.W.Frag} {x : Str} {st : Stmt} {f : Addr} {oc : Value} {od an : Option Addr} {sl : Array (Option Value)} {kV dc pm cd ct : Value} (a : PySem.W.nsIn K mainGlobals x = some (some (.ref f))) (l : K.lookup f = some ⟨oc, od, .func (PySem.W.fnOf x x (defArgs st) (defBody st) (defScope st) .none kV dc pm an cd ct), sl⟩) (c : PySem.W.codeIn K cd x = true) (k : PySem.W.keepIn K (.ref f) = true) : DefK K x st := ⟨f, oc, od, an, sl, kV, dc, pm, cd, ct, a, l, c, k⟩
theorem DefK.at_ {K : PySem.W.Frag} {x : Str} {st : Stmt} {h : Heap} {mg : Str → Option Value} (d : DefK K x st) (X : K.In h) (G : h.Ns mainGlobals mg) : DefAt K mg x st := by
  obtain ⟨f, oc, od, an, sl, kV, dc, pm, cd, ct, a, l, c, k⟩ := d.ex
  exact ⟨f, _, fun_mk l c k, PySem.W.mg_of X G a⟩
/-- a method in the written part -/
structure MethK (K : PySem.W.Frag) (C : Addr) (m q : Str) (st : Stmt) : Prop where
  ex : ∃ (f : Addr) (oc : Value) (od an : Option Addr) (sl : Array (Option Value)) (kV dc pm cd ct : Value), PySem.W.findIn K (.ref C) m = some (some (.ref f)) ∧ PySem.W.isFn K (.ref f) = true ∧ K.lookup f = some ⟨oc, od, .func (PySem.W.fnOf m q (defArgs st) (defBody st) (defScope st) .none kV dc pm an cd ct), sl⟩ ∧ PySem.W.codeIn K cd q = true ∧ PySem.W.keepIn K (.ref f) = true
theorem meth_mk {K : PySem.W.Frag} {C : Addr} {m q : Str} {st : Stmt} {f : Addr} {oc : Value} {od an : Option Addr} {sl : Array (Option Value)} {kV dc pm cd ct : Value} (a : PySem.W.findIn K (.ref C) m = some (some (.ref f))) (i : PySem.W.isFn K (.ref f) = true) (l : K.lookup f = some ⟨oc, od, .func (PySem.W.fnOf m q (defArgs st) (defBody st) (defScope st) .none kV dc pm an cd ct), sl⟩) (c : PySem.W.codeIn K cd q = true) (k : PySem.W.keepIn K (.ref f) = true) : MethK K C m q st := ⟨f, oc, od, an, sl, kV, dc, pm, cd, ct, a, i, l, c, k⟩
theorem MethK.at_ {K : PySem.W.Frag} {C : Addr} {m q : Str} {st : Stmt} (d : MethK K C m q st) : MethAt K C m q st := by
  obtain ⟨f, oc, od, an, sl, kV, dc, pm, cd, ct, a, i, l, c, k⟩ := d.ex
  exact ⟨f, _, fun_mk l c k, ⟨a, i, k⟩⟩
/-- a class in the written part -/
structure ClsK (K : PySem.W.Frag) (C : Addr) (x : Str) : Prop where
  cl : Cls K C
  mks : PySem.W.makesIn K C = true
  kp : PySem.W.keepIn K (.ref C) = true
  at_ : PySem.W.nsIn K mainGlobals x = some (some (.ref C))
theorem cls_mk {K : PySem.W.Frag} {C : Addr} {x : Str} (at_ : PySem.W.nsIn K mainGlobals x = some (some (.ref C))) (pg : PySem.W.plainGet K C Str.empty = true) (hd : PySem.W.hasDictIn K C = true) (po : PySem.W.plainOver K C = true) (sa : PySem.W.findIn K (.ref C) "__setattr__" = some (some (.builtin "object.__setattr__"))) (mk : PySem.W.makesIn K C = true) (kp : PySem.W.keepIn K (.ref C) = true) : ClsK K C x := ⟨⟨pg, hd, po, sa⟩, mk, kp, at_⟩
theorem ClsK.init {K : PySem.W.Frag} {C : Addr} {x q : Str} {st : Stmt} {h : Heap} {mg : Str → Option Value} (c : ClsK K C x) (d : MethK K C "__init__" q st) (X : K.In h) (G : h.Ns mainGlobals mg) : InitAt K mg x C q st := by
  obtain ⟨f, oc, od, an, sl, kV, dc, pm, cd, ct, a, i, l, c', k⟩ := d.ex
  exact ⟨f, _, fun_mk l c' k, ⟨c.mks, a, i, c.kp⟩, PySem.W.mg_of X G c.at_⟩
/-- the top -/
structure TopK (K : PySem.W.Frag) (C CC CL : Addr) : Prop where
  d7 : DefK K "is_integer" s_isint
  d8 : DefK K "is_between" s_between
  d9 : DefK K "is_pair" s_ispair
  d10 : DefK K "is_lot" s_islot
  d11 : DefK K "are_unlike" s_unlike
  d12 : DefK K "lowest" s_lowest
  d13 : DefK K "lot_of" s_lotof
  d14 : DefK K "many_of" s_manyof
  d17 : DefK K "is_tie" s_istie
  d20 : DefK K "silenced" s_silenced
  d22 : DefK K "piece_from" s_piece
  d23 : DefK K "pieces_within" s_pieces
  d26 : DefK K "fork" s_fork
  d28 : DefK K "listed_from" s_listed
  d29 : DefK K "rests_within" s_within
  d30 : DefK K "all_rests" s_all
  d31 : DefK K "many_rests" s_many
  d32 : DefK K "check_listed" s_check
  d33 : DefK K "rests" s_rests
  d38 : DefK K "list_of" s_listof
  d39 : DefK K "is_placed" s_placed
  d40 : DefK K "seen" s_seen
  d41 : DefK K "shown_lots" s_shownl
  d42 : DefK K "shown" s_shown
  d43 : DefK K "is_showing" s_issh
  d45 : DefK K "_law_source" s_source
  d46 : DefK K "_law_draw" s_draw
  d47 : DefK K "_law_perm" s_perm
  d48 : DefK K "_law_ties" s_ties
  d49 : DefK K "_law_size" s_size
  d50 : DefK K "_law_near" s_near
  d51 : DefK K "_law_lot" s_llot
  d52 : DefK K "_law_is_rest" s_lisrest
  d53 : DefK K "_law_rests" s_lrests
  d54 : DefK K "_law_flag" s_flag
  d55 : DefK K "_law_seen" s_lseen
  d56 : DefK K "_law_some_lot" s_some
  d57 : DefK K "_law_renamed_stands" s_ren
  cW : ClsK K C "Web"
  cC : ClsK K CC "Counter"
  cL : ClsK K CL "List"
  w0 : MethK K C "__init__" "Web.__init__" s_winit
  w1 : MethK K C "begin" "Web.begin" s_wbegin
  k0 : MethK K CC "__init__" "Counter.__init__" s_cinit
  k1 : MethK K CC "of" "Counter.of" s_of
  k2 : MethK K CC "of_piece" "Counter.of_piece" s_ofp
  l0 : MethK K CL "__init__" "List.__init__" s_linit
  l1 : MethK K CL "__eq__" "List.__eq__" s_leq
  nWs : NoAttr K C "size"
  nWt : NoAttr K C "ties"
  nWw : NoAttr K C "whole"
  nWn : NoAttr K C "near"
  nCw : NoAttr K CC "web"
  nCk : NoAttr K CC "known"
  nLp : NoAttr K CL "places"
  nLs : NoAttr K CL "stands"
  ha : PySem.W.findIn K (.ref CL) "__class__" = some (some (.builtin "object.__class__"))
  hn : PySem.W.specialIn K (.builtin "object.__class__") "__get__" = some (some (.builtin "getset_descriptor.__get__"))
  htk : PySem.W.takesIn K (.builtin "object.__class__") = some true
  hm : PySem.W.mroIn K CL (.type "object") = some true
  ne : PySem.W.findIn K (.ref CL) "__ne__" = some (some (.builtin "object.__ne__"))
  so : PySem.W.subIn K (.ref CL) (.type "object") = some true
  mp : ∃ t, PySem.W.nsIn K mainGlobals "MOST_PARTS" = some (some (.int 24 t))
  ml : ∃ t, PySem.W.nsIn K mainGlobals "MOST_LISTED" = some (some (.int 2000 t))
  mq : ∃ t, PySem.W.nsIn K mainGlobals "MOST_PLACES" = some (some (.int 12 t))
  ms : ∃ t, PySem.W.nsIn K mainGlobals "MOST_STANDS" = some (some (.int 64 t))
  z_isinstance : PySem.W.nsIn K mainGlobals "isinstance" = some none
  z_all : PySem.W.nsIn K mainGlobals "all" = some none
  z_len : PySem.W.nsIn K mainGlobals "len" = some none
  z_sorted : PySem.W.nsIn K mainGlobals "sorted" = some none
  z_min : PySem.W.nsIn K mainGlobals "min" = some none
  z_max : PySem.W.nsIn K mainGlobals "max" = some none
  z_set : PySem.W.nsIn K mainGlobals "set" = some none
  z_int : PySem.W.nsIn K mainGlobals "int" = some none
  z_bool : PySem.W.nsIn K mainGlobals "bool" = some none
  z_tuple : PySem.W.nsIn K mainGlobals "tuple" = some none
  z_list : PySem.W.nsIn K mainGlobals "list" = some none
  z_range : PySem.W.nsIn K mainGlobals "range" = some none
  z_enumerate : PySem.W.nsIn K mainGlobals "enumerate" = some none

theorem const_mk {K : PySem.W.Frag} {x : Str} {n : Int} {t} (e : PySem.W.nsIn K mainGlobals x = some (some (.int n t))) : ∃ t, PySem.W.nsIn K mainGlobals x = some (some (.int n t)) := ⟨t, e⟩
section
variable {P : Program} {w : World} {K : PySem.W.Frag} {mg : Str → Option Value} {base : Heap} {C CC CL : Addr} {h : Heap}
theorem TopK.bi (T : TopK K C CC CL) (X : K.In h) (G : h.Ns mainGlobals mg) : Bi mg := ⟨PySem.W.mg_none_of X G T.z_isinstance, PySem.W.mg_none_of X G T.z_all, PySem.W.mg_none_of X G T.z_len, PySem.W.mg_none_of X G T.z_sorted, PySem.W.mg_none_of X G T.z_min, PySem.W.mg_none_of X G T.z_max, PySem.W.mg_none_of X G T.z_set, PySem.W.mg_none_of X G T.z_int, PySem.W.mg_none_of X G T.z_bool, PySem.W.mg_none_of X G T.z_tuple, PySem.W.mg_none_of X G T.z_list, PySem.W.mg_none_of X G T.z_range, PySem.W.mg_none_of X G T.z_enumerate⟩
theorem const_at {x : Str} {n : Int} (X : K.In h) (G : h.Ns mainGlobals mg) (e : ∃ t, PySem.W.nsIn K mainGlobals x = some (some (.int n t))) : ∃ t, mg x = some (.int n t) := by
  obtain ⟨t, e⟩ := e
  exact ⟨t, PySem.W.mg_of X G e⟩
theorem TopK.calls (T : TopK K C CC CL) (X : K.In h) (G : h.Ns mainGlobals mg) : Calls P w K mg base C CL ∧ CLs K CL := by
  have B := T.bi X G
  have TW : CW K C := ⟨T.cW.cl, T.nWs, T.nWt, T.nWw, T.nWn⟩
  have TC : CCt K CC := ⟨T.cC.cl, T.nCw, T.nCk⟩
  have TL : CLs K CL := ⟨T.cL.cl, T.nLp, T.nLs⟩
  have mP := const_at X G T.mp
  have mL := const_at X G T.ml
  have mQ := const_at X G T.mq
  have mS := const_at X G T.ms
  have c_isint := ok_isint (P := P) (w := w) (base := base) (T.d7.at_ X G) B
  have c_bet := ok_between (T.d8.at_ X G) c_isint
  have c_pair := ok_ispair (P := P) (w := w) (base := base) (T.d9.at_ X G) B
  have c_islot := ok_islot (T.d10.at_ X G) B c_bet
  have c_unlike := ok_unlike (T.d11.at_ X G) B c_bet
  have c_low := ok_lowest (P := P) (w := w) (base := base) (T.d12.at_ X G)
  have c_lotof := ok_lotof (T.d13.at_ X G) B c_low
  have c_many := ok_manyof (T.d14.at_ X G) B c_lotof
  have c_tie := ok_istie (T.d17.at_ X G) c_pair c_bet
  have m_begin := ok_wbegin (P := P) (w := w) (mg := mg) (base := base) T.w1.at_ TW
  have w_init := ok_winit (T.cW.init T.w0 X G) TW B mP c_bet c_tie m_begin
  have c_sil := ok_silenced (T.d20.at_ X G) TW c_lotof
  have c_piece := ok_piece (T.d22.at_ X G) TW c_lotof
  have c_pieces := ok_pieces (T.d23.at_ X G) c_low c_piece
  have c_fork := ok_fork (T.d26.at_ X G) TW B c_lotof c_many
  have ct_init := ok_cinit (P := P) (w := w) (base := base) (T.cC.init T.k0 X G) TC
  have ofs : Met P w K mg base 22 CC "of" (spOf C CC 9) := ok_both T.k1.at_ T.k2.at_ TC TW c_fork c_pieces 9
  have c_listed := ok_listed (T.d28.at_ X G) TW B c_fork
  have c_within := ok_within (T.d29.at_ X G) c_sil c_listed
  have c_all := ok_all (T.d30.at_ X G) TW B c_lotof c_within
  have c_manyr := ok_many (T.d31.at_ X G) TW ct_init ofs
  have c_check := ok_check (P := P) (w := w) (base := base) (T.d32.at_ X G) mL
  have c_rests := ok_rests (T.d33.at_ X G) c_check c_manyr c_all
  have l_init := ok_linit (T.cL.init T.l0 X G) TL B mQ mS c_bet c_islot
  have c_listof := ok_listof (T.d38.at_ X G) B mS l_init
  have c_placed := ok_placed (T.d39.at_ X G) TW B mQ c_unlike
  have c_seen := ok_seen (P := P) (w := w) (base := base) (T.d40.at_ X G) B
  have c_shownl := ok_shownl (T.d41.at_ X G) c_check c_manyr c_all c_seen
  have c_shown := ok_shown (T.d42.at_ X G) B c_placed c_shownl c_listof
  have c_issh := ok_issh (T.d43.at_ X G) TL B c_placed c_shownl
  have c_source := ok_source (P := P) (w := w) (base := base) (T.d45.at_ X G) B
  have c_draw := ok_draw (P := P) (w := w) (base := base) (T.d46.at_ X G) B
  have c_perm := ok_perm (T.d47.at_ X G) B c_draw
  have c_ties := ok_ties (T.d48.at_ X G) B c_draw c_perm
  have c_size := ok_size (T.d49.at_ X G) B c_draw
  have c_near := ok_near (P := P) (w := w) (base := base) (T.d50.at_ X G) B
  have c_llot := ok_llot (P := P) (w := w) (base := base) (T.d51.at_ X G) B
  have c_isr := ok_lisrest (P := P) (w := w) (base := base) (T.d52.at_ X G) B
  have c_lrests := ok_lrests (T.d53.at_ X G) B c_near c_isr c_llot
  have c_flag := ok_flag (P := P) (w := w) (base := base) (T.d54.at_ X G) B
  have c_lseen := ok_lseen (P := P) (w := w) (base := base) (T.d55.at_ X G) B
  have c_some := ok_some (T.d56.at_ X G) B c_draw
  have c_ren := ok_ren (P := P) (w := w) (base := base) (T.d57.at_ X G) B
  obtain ⟨f, oc, od, an, sl, kV, dc, pm, cd, ct, a, i, l, c', k⟩ := T.l1.ex
  obtain ⟨eF, eB⟩ := ok_leq (P := P) (w := w) (base := base) (f := f) ⟨fun_mk l c' k⟩ TL ⟨TL.cl, T.ha, T.hn, T.htk, T.hm, if_pos (beq_self_eq_true _)⟩ B (PySem.W.mg_of X G T.cL.at_)
  exact ⟨⟨c_source, c_size, c_ties, w_init, c_lrests, c_draw, c_perm, c_lseen, c_shown, l_init, c_flag, c_issh, c_rests, c_some, c_ren, ⟨f, _, eF, eB, ⟨T.ne, T.so, a, i⟩⟩⟩, TL⟩
theorem all_mk {l : PySem.W.OpenLaw} {fa : Addr} (X : K.In h) (G : h.Ns mainGlobals mg) (hfa : mg "law" = some (.ref fa)) (T : TopK K C CC CL) (D : DefK K "law" s_law) :
    ∃ fd : FuncData, (∀ (s : Shared) (v : Value), BindsTo s fd ⟨[v], []⟩ [("_law_script", v)]) ∧ ∀ base : Heap, K.In base → base.Ns mainGlobals mg → FnOk l.prog w K mg base CX0 26 fa fd ["_law_script"] (spLaw K) := by
  obtain ⟨f, oc, od, an, sl, kV, dc, pm, cd, ct, a, lk, c, k⟩ := D.ex
  have e := hfa.symm.trans (PySem.W.mg_of X G a)
  cases e
  refine ⟨PySem.W.fnOf "law" "law" (defArgs s_law) (defBody s_law) (defScope s_law) .none kV dc pm an cd ct, fun s v => .of_eq rfl, fun base _ _ => ?_⟩
  obtain ⟨c1, TL⟩ := T.calls (P := l.prog) (w := w) (base := base) X G
  exact ok_law (fun_mk lk c k) (T.bi X G) TL c1
theorem walk {l : PySem.W.OpenLaw} {q : Program} {loose : List Str} {XP : (Str → Option Value) → Heap → Prop} {YP : World → Heap → Prop} {d : DefRec} {K : Params → PySem.W.Frag} (hn : l.most = some 63) (hdf : d.params.defaults = [])
    (hY : ∀ (w : World) (h : Heap), YP w h → (K w.params).In h)
    (F : ∀ (w : World) (mg : Str → Option Value) (fa : Addr) (h : Heap), (K w.params).In h → h.Ns mainGlobals mg → mg d.name = some (.ref fa) →
      ∃ fd : FuncData, (∀ (s : Shared) (u : Value), BindsTo s fd ⟨[u], []⟩ [("_law_script", u)]) ∧ ∀ base : Heap, (K w.params).In base → base.Ns mainGlobals mg → FnOk l.prog w (K w.params) mg base CX0 26 fa fd ["_law_script"] (spLaw (K w.params))) :
    PySem.W.WalkO q loose XP YP l.row.toRowW d [] (fun f vs => PySem.call f vs) :=
  L2.walk_of (n := 63) (k := 26) (x := "_law_script") (CX := fun _ => CX0) (sp := fun w => spLaw (K w.params)) hn (by decide) hdf ⟨rfl, by decide, by decide⟩ hY F (fun _ _ a ns _ _ hS => ⟨a, ns, rfl, hS, fun _ => rfl⟩) fun _ _ _ _ _ z => z
end
end SL
open PySem PySem.W PyProof.Rows
set_option maxRecDepth 100000 in
set_option maxHeartbeats 0 in
theorem PySem.Challenge.cw_silencers_k34_whole_lists_that_webs_show_holds : PySem.Challenge.rw_silencers_k34_whole_lists_that_webs_show.Holds := by
  w_on; o_law; k_head; (case hw => w_witness2)
  k_fill
  refine SL.walk (l := PySem.Challenge.rw_silencers_k34_whole_lists_that_webs_show) rfl rfl (fun w h Y => PySem.W.kIn_of Y) ?F
  case F =>
    intro w mg fa h KX G hmg
    refine' SL.all_mk (C := ?C) (CC := ?CC) (CL := ?CL) KX G hmg ?T ?D
    case' D => (refine' SL.def_mk ?a ?l ?c ?k; (case a => k_is); (case l => k_is); (case c => k_is); (case k => k_is))
    case' T =>
      refine' SL.TopK.mk ?d7 ?d8 ?d9 ?d10 ?d11 ?d12 ?d13 ?d14 ?d17 ?d20 ?d22 ?d23 ?d26 ?d28 ?d29 ?d30 ?d31 ?d32 ?d33 ?d38 ?d39 ?d40 ?d41 ?d42 ?d43 ?d45 ?d46 ?d47 ?d48 ?d49 ?d50 ?d51 ?d52 ?d53 ?d54 ?d55 ?d56 ?d57 ?cW ?cC ?cL ?w0 ?w1 ?k0 ?k1 ?k2 ?l0 ?l1 ?nWs ?nWt ?nWw ?nWn ?nCw ?nCk ?nLp ?nLs ?ha ?hn ?htk ?hm ?ne ?so ?mp ?ml ?mq ?ms ?z_isinstance ?z_all ?z_len ?z_sorted ?z_min ?z_max ?z_set ?z_int ?z_bool ?z_tuple ?z_list ?z_range ?z_enumerate
      (case cW => (refine' SL.cls_mk ?at_ ?pg ?hd ?po ?sa ?mk ?kp; (case at_ => k_is); (case pg => k_is); (case hd => k_is); (case po => k_is); (case sa => k_is); (case mk => k_is); (case kp => k_is)))
      (case cC => (refine' SL.cls_mk ?at_ ?pg ?hd ?po ?sa ?mk ?kp; (case at_ => k_is); (case pg => k_is); (case hd => k_is); (case po => k_is); (case sa => k_is); (case mk => k_is); (case kp => k_is)))
      (case cL => (refine' SL.cls_mk ?at_ ?pg ?hd ?po ?sa ?mk ?kp; (case at_ => k_is); (case pg => k_is); (case hd => k_is); (case po => k_is); (case sa => k_is); (case mk => k_is); (case kp => k_is)))
      (case d7 => (refine' SL.def_mk ?a ?l ?c ?k; (case a => k_is); (case l => k_is); (case c => k_is); (case k => k_is)))
      (case d8 => (refine' SL.def_mk ?a ?l ?c ?k; (case a => k_is); (case l => k_is); (case c => k_is); (case k => k_is)))
      (case d9 => (refine' SL.def_mk ?a ?l ?c ?k; (case a => k_is); (case l => k_is); (case c => k_is); (case k => k_is)))
      (case d10 => (refine' SL.def_mk ?a ?l ?c ?k; (case a => k_is); (case l => k_is); (case c => k_is); (case k => k_is)))
      (case d11 => (refine' SL.def_mk ?a ?l ?c ?k; (case a => k_is); (case l => k_is); (case c => k_is); (case k => k_is)))
      (case d12 => (refine' SL.def_mk ?a ?l ?c ?k; (case a => k_is); (case l => k_is); (case c => k_is); (case k => k_is)))
      (case d13 => (refine' SL.def_mk ?a ?l ?c ?k; (case a => k_is); (case l => k_is); (case c => k_is); (case k => k_is)))
      (case d14 => (refine' SL.def_mk ?a ?l ?c ?k; (case a => k_is); (case l => k_is); (case c => k_is); (case k => k_is)))
      (case d17 => (refine' SL.def_mk ?a ?l ?c ?k; (case a => k_is); (case l => k_is); (case c => k_is); (case k => k_is)))
      (case d20 => (refine' SL.def_mk ?a ?l ?c ?k; (case a => k_is); (case l => k_is); (case c => k_is); (case k => k_is)))
      (case d22 => (refine' SL.def_mk ?a ?l ?c ?k; (case a => k_is); (case l => k_is); (case c => k_is); (case k => k_is)))
      (case d23 => (refine' SL.def_mk ?a ?l ?c ?k; (case a => k_is); (case l => k_is); (case c => k_is); (case k => k_is)))
      (case d26 => (refine' SL.def_mk ?a ?l ?c ?k; (case a => k_is); (case l => k_is); (case c => k_is); (case k => k_is)))
      (case d28 => (refine' SL.def_mk ?a ?l ?c ?k; (case a => k_is); (case l => k_is); (case c => k_is); (case k => k_is)))
      (case d29 => (refine' SL.def_mk ?a ?l ?c ?k; (case a => k_is); (case l => k_is); (case c => k_is); (case k => k_is)))
      (case d30 => (refine' SL.def_mk ?a ?l ?c ?k; (case a => k_is); (case l => k_is); (case c => k_is); (case k => k_is)))
      (case d31 => (refine' SL.def_mk ?a ?l ?c ?k; (case a => k_is); (case l => k_is); (case c => k_is); (case k => k_is)))
      (case d32 => (refine' SL.def_mk ?a ?l ?c ?k; (case a => k_is); (case l => k_is); (case c => k_is); (case k => k_is)))
      (case d33 => (refine' SL.def_mk ?a ?l ?c ?k; (case a => k_is); (case l => k_is); (case c => k_is); (case k => k_is)))
      (case d38 => (refine' SL.def_mk ?a ?l ?c ?k; (case a => k_is); (case l => k_is); (case c => k_is); (case k => k_is)))
      (case d39 => (refine' SL.def_mk ?a ?l ?c ?k; (case a => k_is); (case l => k_is); (case c => k_is); (case k => k_is)))
      (case d40 => (refine' SL.def_mk ?a ?l ?c ?k; (case a => k_is); (case l => k_is); (case c => k_is); (case k => k_is)))
      (case d41 => (refine' SL.def_mk ?a ?l ?c ?k; (case a => k_is); (case l => k_is); (case c => k_is); (case k => k_is)))
      (case d42 => (refine' SL.def_mk ?a ?l ?c ?k; (case a => k_is); (case l => k_is); (case c => k_is); (case k => k_is)))
      (case d43 => (refine' SL.def_mk ?a ?l ?c ?k; (case a => k_is); (case l => k_is); (case c => k_is); (case k => k_is)))
      (case d45 => (refine' SL.def_mk ?a ?l ?c ?k; (case a => k_is); (case l => k_is); (case c => k_is); (case k => k_is)))
      (case d46 => (refine' SL.def_mk ?a ?l ?c ?k; (case a => k_is); (case l => k_is); (case c => k_is); (case k => k_is)))
      (case d47 => (refine' SL.def_mk ?a ?l ?c ?k; (case a => k_is); (case l => k_is); (case c => k_is); (case k => k_is)))
      (case d48 => (refine' SL.def_mk ?a ?l ?c ?k; (case a => k_is); (case l => k_is); (case c => k_is); (case k => k_is)))
      (case d49 => (refine' SL.def_mk ?a ?l ?c ?k; (case a => k_is); (case l => k_is); (case c => k_is); (case k => k_is)))
      (case d50 => (refine' SL.def_mk ?a ?l ?c ?k; (case a => k_is); (case l => k_is); (case c => k_is); (case k => k_is)))
      (case d51 => (refine' SL.def_mk ?a ?l ?c ?k; (case a => k_is); (case l => k_is); (case c => k_is); (case k => k_is)))
      (case d52 => (refine' SL.def_mk ?a ?l ?c ?k; (case a => k_is); (case l => k_is); (case c => k_is); (case k => k_is)))
      (case d53 => (refine' SL.def_mk ?a ?l ?c ?k; (case a => k_is); (case l => k_is); (case c => k_is); (case k => k_is)))
      (case d54 => (refine' SL.def_mk ?a ?l ?c ?k; (case a => k_is); (case l => k_is); (case c => k_is); (case k => k_is)))
      (case d55 => (refine' SL.def_mk ?a ?l ?c ?k; (case a => k_is); (case l => k_is); (case c => k_is); (case k => k_is)))
      (case d56 => (refine' SL.def_mk ?a ?l ?c ?k; (case a => k_is); (case l => k_is); (case c => k_is); (case k => k_is)))
      (case d57 => (refine' SL.def_mk ?a ?l ?c ?k; (case a => k_is); (case l => k_is); (case c => k_is); (case k => k_is)))
      (case w0 => (refine' SL.meth_mk ?a ?i ?l ?c ?k; (case a => k_is); (case i => k_is); (case l => k_is); (case c => k_is); (case k => k_is)))
      (case w1 => (refine' SL.meth_mk ?a ?i ?l ?c ?k; (case a => k_is); (case i => k_is); (case l => k_is); (case c => k_is); (case k => k_is)))
      (case k0 => (refine' SL.meth_mk ?a ?i ?l ?c ?k; (case a => k_is); (case i => k_is); (case l => k_is); (case c => k_is); (case k => k_is)))
      (case k1 => (refine' SL.meth_mk ?a ?i ?l ?c ?k; (case a => k_is); (case i => k_is); (case l => k_is); (case c => k_is); (case k => k_is)))
      (case k2 => (refine' SL.meth_mk ?a ?i ?l ?c ?k; (case a => k_is); (case i => k_is); (case l => k_is); (case c => k_is); (case k => k_is)))
      (case l0 => (refine' SL.meth_mk ?a ?i ?l ?c ?k; (case a => k_is); (case i => k_is); (case l => k_is); (case c => k_is); (case k => k_is)))
      (case l1 => (refine' SL.meth_mk ?a ?i ?l ?c ?k; (case a => k_is); (case i => k_is); (case l => k_is); (case c => k_is); (case k => k_is)))
      (case nWs => (show PySem.W.findIn _ _ _ = some none; k_is))
      (case nWt => (show PySem.W.findIn _ _ _ = some none; k_is))
      (case nWw => (show PySem.W.findIn _ _ _ = some none; k_is))
      (case nWn => (show PySem.W.findIn _ _ _ = some none; k_is))
      (case nCw => (show PySem.W.findIn _ _ _ = some none; k_is))
      (case nCk => (show PySem.W.findIn _ _ _ = some none; k_is))
      (case nLp => (show PySem.W.findIn _ _ _ = some none; k_is))
      (case nLs => (show PySem.W.findIn _ _ _ = some none; k_is))
      (case ha => k_is)
      (case hn => k_is)
      (case htk => k_is)
      (case hm => k_is)
      (case ne => k_is)
      (case so => k_is)
      (case mp => (refine' SL.const_mk ?e; (case e => k_is)))
      (case ml => (refine' SL.const_mk ?e; (case e => k_is)))
      (case mq => (refine' SL.const_mk ?e; (case e => k_is)))
      (case ms => (refine' SL.const_mk ?e; (case e => k_is)))
      (case z_isinstance => k_is)
      (case z_all => k_is)
      (case z_len => k_is)
      (case z_sorted => k_is)
      (case z_min => k_is)
      (case z_max => k_is)
      (case z_set => k_is)
      (case z_int => k_is)
      (case z_bool => k_is)
      (case z_tuple => k_is)
      (case z_list => k_is)
      (case z_range => k_is)
      (case z_enumerate => k_is)
#print axioms PySem.Challenge.cw_silencers_k34_whole_lists_that_webs_show_holds
