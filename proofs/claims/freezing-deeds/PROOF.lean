import PyProof.Rows.All
import Wide.All
import OpenK.AllK
import Wide.FinOn
import HandS.ForMost
import HandS.SortInts
import HandS.Strs
import HandS.SetFor
import HandS.ForSpec
import HandS.Walk
import KE.KDictDisplayH
import KE.KDictWalk
import KE.GoesEnum
import HandS.Evl
import HandS.TupAny
import HandS.IsInst
import HandS.ExcIs
import HandS.TupSets
import HandS.TupLe
import HandS.Style
import PySem.Challenge.RW_latchdoors_k22_whole_freezing_deeds
import HandS.ExcOwn
import HandS.WordsExc
set_option Elab.async false
set_option linter.all false
set_option maxRecDepth 100000
set_option maxHeartbeats 8000000
/-! Latchdoors, the plain law: doors, frozen doors, deeds, what comes from what. No Python here. -/
namespace LD
/-! ### ascending lists -/
def Asc (l : List Int) : Prop := l.Pairwise (· < ·)
theorem Asc.nodup {l : List Int} (h : Asc l) : l.Nodup := List.Pairwise.imp (fun {a b} (q : a < b) => by show a ≠ b; omega) h
theorem Asc.ext : ∀ {l m : List Int}, Asc l → Asc m → (∀ x, x ∈ l ↔ x ∈ m) → l = m
  | [], [], _, _, _ => rfl
  | [], b :: m, _, _, h => absurd ((h b).mpr List.mem_cons_self) (by simp)
  | a :: l, [], _, _, h => absurd ((h a).mp List.mem_cons_self) (by simp)
  | a :: l, b :: m, hl, hm, h => by
    have hl' := List.pairwise_cons.mp hl
    have hm' := List.pairwise_cons.mp hm
    have ab : a = b := by
      have h1 := (h a).mp List.mem_cons_self
      have h2 := (h b).mpr List.mem_cons_self
      rcases List.mem_cons.mp h1 with e | e
      · exact e
      · rcases List.mem_cons.mp h2 with e2 | e2
        · exact e2.symm
        · have := hm'.1 a e
          have := hl'.1 b e2
          omega
    subst ab
    congr 1
    refine Asc.ext hl'.2 hm'.2 fun x => ⟨fun hx => ?_, fun hx => ?_⟩
    · have := hl'.1 x hx
      rcases List.mem_cons.mp ((h x).mp (List.mem_cons_of_mem _ hx)) with e | e
      · omega
      · exact e
    · have := hm'.1 x hx
      rcases List.mem_cons.mp ((h x).mpr (List.mem_cons_of_mem _ hx)) with e | e
      · omega
      · exact e
theorem Asc.of_le {l : List Int} (h : l.Pairwise (· ≤ ·)) (n : l.Nodup) : Asc l := by
  have : l.Pairwise fun a b => a ≤ b ∧ a ≠ b := List.pairwise_and_iff.mpr ⟨h, n⟩
  exact this.imp fun {a b} q => by omega
theorem Asc.filter {l : List Int} (h : Asc l) (p : Int → Bool) : Asc (l.filter p) := List.Pairwise.filter p h
/-- a sorted list without doubles of the same members is the one -/
theorem asc_perm {l m : List Int} (h : l.Pairwise (· ≤ ·)) (p : l.Perm m) (nd : m.Nodup) : Asc l := Asc.of_le h ((p.nodup_iff).mpr nd)
/-! ### the doors -/
def rng (n : Nat) : List Int := (List.range n).map fun (i : Nat) => (i : Int)
theorem mem_rng {n : Nat} {x : Int} : x ∈ rng n ↔ 0 ≤ x ∧ x < n := by
  unfold rng
  rw [List.mem_map]
  constructor
  · rintro ⟨i, hi, rfl⟩
    have := List.mem_range.mp hi
    omega
  · rintro ⟨h0, h1⟩
    exact ⟨x.toNat, List.mem_range.mpr (by omega), by omega⟩
theorem rng_asc (n : Nat) : Asc (rng n) := by
  unfold rng Asc
  rw [List.pairwise_map]
  exact List.pairwise_lt_range.imp fun {a b} q => by omega
theorem rng_length (n : Nat) : (rng n).length = n := by
  unfold rng
  rw [List.length_map, List.length_range]
/-- a standing of n doors -/
structure Sd (n : Nat) (O : List Int) : Prop where
  asc : Asc O
  bd : ∀ x ∈ O, 0 ≤ x ∧ x < n
theorem Sd.filter {n : Nat} {O : List Int} (h : Sd n O) (p : Int → Bool) : Sd n (O.filter p) := ⟨h.asc.filter p, fun x hx => h.bd x (List.mem_filter.mp hx).1⟩
theorem sd_rng {n : Nat} (p : Int → Bool) : Sd n ((rng n).filter p) := ⟨(rng_asc n).filter p, fun x hx => mem_rng.mp (List.mem_filter.mp hx).1⟩
theorem Sd.eq_filter {n : Nat} {O : List Int} (h : Sd n O) : O = (rng n).filter fun x => decide (x ∈ O) :=
  Asc.ext h.asc ((rng_asc n).filter _) fun x => by
    rw [List.mem_filter, mem_rng]
    constructor
    · intro hx
      exact ⟨h.bd x hx, decide_eq_true hx⟩
    · intro hx
      exact of_decide_eq_true hx.2
theorem Sd.len {n : Nat} {O : List Int} (h : Sd n O) : O.length ≤ n := by
  have e := h.eq_filter
  have q := List.length_filter_le (fun x => decide (x ∈ O)) (rng n)
  rw [← e, rng_length] at q
  exact q
/-- the arrows -/
abbrev Ar := List (Int × Int)
structure Wb (n : Nat) (A : Ar) : Prop where
  bd : ∀ e ∈ A, 0 ≤ e.1 ∧ e.1 < n ∧ 0 ≤ e.2 ∧ e.2 < n ∧ e.1 ≠ e.2
  srt : A.Pairwise fun e f => e.1 < f.1 ∨ (e.1 = f.1 ∧ e.2 < f.2)
  n1 : 1 ≤ n
  n6 : n ≤ 6
/-! ### frozen doors, deeds -/
def Fz (A : Ar) (O : List Int) (k : Int) : Prop := ∃ e ∈ A, e.1 ∈ O ∧ ¬ e.2 ∈ O ∧ (k = e.1 ∨ k = e.2)
instance (A : Ar) (O : List Int) (k : Int) : Decidable (Fz A O k) := by unfold Fz; infer_instance
def CanO (A : Ar) (O : List Int) (k : Int) : Prop := ¬ k ∈ O ∧ ∀ e ∈ A, e.2 = k → ¬ e.1 ∈ O
def CanS (A : Ar) (O : List Int) (k : Int) : Prop := k ∈ O ∧ ∀ e ∈ A, e.1 = k → e.2 ∈ O
instance (A : Ar) (O : List Int) (k : Int) : Decidable (CanO A O k) := by unfold CanO; infer_instance
instance (A : Ar) (O : List Int) (k : Int) : Decidable (CanS A O k) := by unfold CanS; infer_instance
def Can (A : Ar) (O : List Int) (k : Int) : Prop := CanO A O k ∨ CanS A O k
instance (A : Ar) (O : List Int) (k : Int) : Decidable (Can A O k) := by unfold Can; infer_instance
theorem can_iff {A : Ar} {O : List Int} {k : Int} : Can A O k ↔ ¬ Fz A O k := by
  constructor
  · rintro (⟨h1, h2⟩ | ⟨h1, h2⟩) ⟨e, he, a, b, c | c⟩
    · exact h1 (c ▸ a)
    · exact h2 e he c.symm a
    · exact b (h2 e he c.symm)
    · exact b (c ▸ h1)
  · intro h
    by_cases hk : k ∈ O
    · refine .inr ⟨hk, fun e he hz => ?_⟩
      by_cases q : e.2 ∈ O
      · exact q
      · exact absurd ⟨e, he, hz ▸ hk, q, .inl hz.symm⟩ h
    · refine .inl ⟨hk, fun e he hz a => ?_⟩
      exact h ⟨e, he, a, hz ▸ hk, .inr hz.symm⟩
theorem canO_of {A : Ar} {O : List Int} {k : Int} (h : ¬ Fz A O k) (hk : ¬ k ∈ O) : CanO A O k := (can_iff.mpr h).resolve_right fun q => hk q.1
theorem canS_of {A : Ar} {O : List Int} {k : Int} (h : ¬ Fz A O k) (hk : k ∈ O) : CanS A O k := (can_iff.mpr h).resolve_left fun q => q.1 hk
/-- the frozen doors, ascending -/
def frz (n : Nat) (A : Ar) (O : List Int) : List Int := (rng n).filter fun k => decide (Fz A O k)
theorem mem_frz {n : Nat} {A : Ar} {O : List Int} {k : Int} (W : Wb n A) : k ∈ frz n A O ↔ Fz A O k := by
  unfold frz
  rw [List.mem_filter, mem_rng, decide_eq_true_eq]
  constructor
  · exact fun h => h.2
  · intro h
    refine ⟨?_, h⟩
    obtain ⟨e, he, _, _, c | c⟩ := h
    · have := W.bd e he
      omega
    · have := W.bd e he
      omega
/-- the doors on which a deed can be done -/
def doab (n : Nat) (A : Ar) (O : List Int) : List Int := (rng n).filter fun k => decide (Can A O k)
/-- the standing with one door changed -/
def chg (n : Nat) (O : List Int) (k : Int) : List Int := (rng n).filter fun j => if j = k then !decide (j ∈ O) else decide (j ∈ O)
theorem mem_chg {n : Nat} {O : List Int} {k x : Int} (S : Sd n O) (hk : 0 ≤ k ∧ k < n) : x ∈ chg n O k ↔ ((x = k ∧ ¬ x ∈ O) ∨ (x ≠ k ∧ x ∈ O)) := by
  unfold chg
  rw [List.mem_filter, mem_rng]
  by_cases e : x = k
  · subst e
    simp [hk]
  · simp only [e, if_false, false_and, false_or, ne_eq, not_false_eq_true, true_and, decide_eq_true_eq]
    exact ⟨fun h => h.2, fun h => ⟨S.bd x h, h⟩⟩
theorem chg_sd {n : Nat} {O : List Int} {k : Int} : Sd n (chg n O k) := sd_rng _
/-! ### words of deeds -/
inductive Steps (n : Nat) (A : Ar) (O : List Int) : Nat → List Int → Prop
  | nil : Steps n A O 0 O
  | snoc {m : Nat} {T : List Int} {k : Int} : Steps n A O m T → 0 ≤ k ∧ k < n → Can A T k → Steps n A O (m + 1) (chg n T k)
/-- how many doors differ -/
def dif (O T : List Int) : Nat := (T.filter fun x => decide (¬ x ∈ O)).length + (O.filter fun x => decide (¬ x ∈ T)).length
/-- some doors hold no ring -/
def RL (A : Ar) (S : Int → Prop) : Prop := ∀ L : List Int, L ≠ [] → (∀ x ∈ L, S x) → ∃ k ∈ L, ∀ e ∈ A, e.1 = k → ¬ e.2 ∈ L
theorem RL.mono {A : Ar} {S S' : Int → Prop} (h : RL A S) (k : ∀ x, S' x → S x) : RL A S' := fun L n m => h L n fun x hx => k x (m x hx)
structure Come (n : Nat) (A : Ar) (O T : List Int) : Prop where
  sd : Sd n T
  lo : ∀ x, x ∈ T → ¬ x ∈ O → ¬ Fz A O x
  ls : ∀ x, x ∈ O → ¬ x ∈ T → ¬ Fz A O x
  ro : RL A fun x => x ∈ T ∧ ¬ x ∈ O
  rs : RL A fun x => x ∈ O ∧ ¬ x ∈ T
theorem Come.refl {n : Nat} {A : Ar} {O : List Int} (S : Sd n O) : Come n A O O :=
  ⟨S, fun x a b => absurd a b, fun x a b => absurd a b, fun L hn h => by
    cases L with
    | nil => exact absurd rfl hn
    | cons x L => exact absurd (h x List.mem_cons_self).1 (h x List.mem_cons_self).2, fun L hn h => by
    cases L with
    | nil => exact absurd rfl hn
    | cons x L => exact absurd (h x List.mem_cons_self).1 (h x List.mem_cons_self).2⟩
theorem Fz.ends {A : Ar} {O : List Int} {e : Int × Int} (he : e ∈ A) (h1 : e.1 ∈ O) (h2 : ¬ e.2 ∈ O) : Fz A O e.1 ∧ Fz A O e.2 := ⟨⟨e, he, h1, h2, .inl rfl⟩, ⟨e, he, h1, h2, .inr rfl⟩⟩
/-- what is frozen at first stays so -/
theorem Come.fz {n : Nat} {A : Ar} {O T : List Int} {k : Int} (C : Come n A O T) (h : Fz A O k) : Fz A T k := by
  obtain ⟨e, he, h1, h2, h3⟩ := h
  have F := Fz.ends he h1 h2
  refine ⟨e, he, ?_, fun q => C.lo _ q h2 F.2, h3⟩
  by_cases q : e.1 ∈ T
  · exact q
  · exact absurd F.1 (C.ls _ h1 q)
theorem RL.bad {A : Ar} {S : Int → Prop} (h : RL A S) {L : List Int} (hn : L ≠ []) (hs : ∀ x ∈ L, S x) (hb : ∀ x ∈ L, ∃ e ∈ A, e.1 = x ∧ e.2 ∈ L) : False := by
  obtain ⟨k, hk, q⟩ := h L hn hs
  obtain ⟨e, he, h1, h2⟩ := hb k hk
  exact q e he h1 h2
theorem RL.of {A : Ar} {S : Int → Prop} (h : ∀ L : List Int, L ≠ [] → (∀ x ∈ L, S x) → (∀ x ∈ L, ∃ e ∈ A, e.1 = x ∧ e.2 ∈ L) → False) : RL A S := fun L hn hs => by
  by_cases q : ∀ x ∈ L, ∃ e ∈ A, e.1 = x ∧ e.2 ∈ L
  · exact (h L hn hs q).elim
  · simp only [Classical.not_forall] at q
    obtain ⟨k, hk, q⟩ := q
    exact ⟨k, hk, fun e he h1 h2 => q ⟨e, he, h1, h2⟩⟩
/-- what comes by one deed more -/
theorem Come.step {n : Nat} {A : Ar} {O T : List Int} {k : Int} (W : Wb n A) (C : Come n A O T) (hk : 0 ≤ k ∧ k < n) (hc : Can A T k) : Come n A O (chg n T k) := by
  have nk : ¬ Fz A O k := fun h => can_iff.mp hc (C.fz h)
  have mc : ∀ x, x ∈ chg n T k ↔ ((x = k ∧ ¬ x ∈ T) ∨ (x ≠ k ∧ x ∈ T)) := fun x => mem_chg C.sd hk
  refine ⟨chg_sd, fun x hx ho => ?_, fun x ho hx => ?_, RL.of fun L hn hs hb => ?_, RL.of fun L hn hs hb => ?_⟩
  · rcases (mc x).mp hx with ⟨e, _⟩ | ⟨_, q⟩
    · exact e ▸ nk
    · exact C.lo x q ho
  · by_cases e : x = k
    · exact e ▸ nk
    · exact C.ls x ho fun q => hx ((mc x).mpr (.inr ⟨e, q⟩))
  · by_cases kL : k ∈ L
    · -- k was opened: the rest of L stood open ahead of it, one of them with an arrow to k
      have kT : ¬ k ∈ T := by
        rcases (mc k).mp (hs k kL).1 with ⟨_, q⟩ | ⟨q, _⟩
        · exact q
        · exact absurd rfl q
      have co : CanO A T k := hc.resolve_right fun q => kT q.1
      have rest : ∀ x ∈ L.filter (fun x => decide (x ≠ k)), x ∈ T ∧ ¬ x ∈ O := fun x hx => by
        have h := List.mem_filter.mp hx
        have ne : x ≠ k := of_decide_eq_true h.2
        have q := hs x h.1
        rcases (mc x).mp q.1 with ⟨e, _⟩ | ⟨_, t⟩
        · exact absurd e ne
        · exact ⟨t, q.2⟩
      obtain ⟨e, he, h1, h2⟩ := hb k kL
      have e2 : e.2 ∈ L.filter (fun x => decide (x ≠ k)) := List.mem_filter.mpr ⟨h2, decide_eq_true fun z => (W.bd e he).2.2.2.2 (h1.trans z.symm)⟩
      refine C.ro.bad (L := L.filter fun x => decide (x ≠ k)) (List.ne_nil_of_mem e2) rest fun x hx => ?_
      have h := List.mem_filter.mp hx
      obtain ⟨f, hf, f1, f2⟩ := hb x h.1
      refine ⟨f, hf, f1, List.mem_filter.mpr ⟨f2, decide_eq_true fun z => ?_⟩⟩
      exact co.2 f hf z (f1 ▸ (rest x hx).1)
    · refine C.ro.bad hn (fun x hx => ?_) hb
      rcases (mc x).mp (hs x hx).1 with ⟨e, _⟩ | ⟨_, t⟩
      · exact absurd (e ▸ hx) kL
      · exact ⟨t, (hs x hx).2⟩
  · by_cases kL : k ∈ L
    · have kT : k ∈ T := by
        by_cases q : k ∈ T
        · exact q
        · exact absurd ((mc k).mpr (.inl ⟨rfl, q⟩)) (hs k kL).2
      have cs : CanS A T k := hc.resolve_left fun q => q.1 kT
      obtain ⟨e, he, h1, h2⟩ := hb k kL
      have t2 := cs.2 e he h1
      have ne : e.2 ≠ k := fun z => (W.bd e he).2.2.2.2 (h1.trans z.symm)
      exact (hs _ h2).2 ((mc _).mpr (.inr ⟨ne, t2⟩))
    · refine C.rs.bad hn (fun x hx => ⟨(hs x hx).1, fun t => (hs x hx).2 ((mc x).mpr (.inr ⟨fun e => kL (e ▸ hx), t⟩))⟩) hb
theorem Steps.come {n : Nat} {A : Ar} {O T : List Int} {m : Nat} (W : Wb n A) (S : Sd n O) (h : Steps n A O m T) : Come n A O T := by
  induction h with
  | nil => exact Come.refl S
  | snoc _ hk hc ih => exact ih.step W hk hc
theorem Steps.cons {n : Nat} {A : Ar} {O T : List Int} {k : Int} {m : Nat} (hk : 0 ≤ k ∧ k < n) (hc : Can A O k) (h : Steps n A (chg n O k) m T) : Steps n A O (m + 1) T := by
  induction h with
  | nil => exact .snoc .nil hk hc
  | snoc _ hk' hc' ih => exact .snoc ih hk' hc'
/-! ### how many doors differ -/
theorem countP_flip {k : Int} {p q : Int → Bool} : ∀ {l : List Int}, l.Nodup → k ∈ l → (∀ x ∈ l, x ≠ k → p x = q x) → p k = true → q k = false → l.countP p = l.countP q + 1
  | [], _, h, _, _, _ => absurd h (by simp)
  | a :: l, nd, h, e, hp, hq => by
    have nd' := List.nodup_cons.mp nd
    by_cases c : a = k
    · subst c
      have e' : l.countP p = l.countP q := List.countP_congr fun x hx => by
        rw [e x (List.mem_cons_of_mem _ hx) fun z => nd'.1 (z ▸ hx)]
      rw [List.countP_cons_of_pos hp, List.countP_cons_of_neg (by rw [hq]; exact Bool.false_ne_true), e']
    · have hk : k ∈ l := (List.mem_cons.mp h).resolve_left fun z => c z.symm
      have ih := countP_flip nd'.2 hk (fun x hx => e x (List.mem_cons_of_mem _ hx)) hp hq
      have ea := e a List.mem_cons_self c
      cases hpa : p a with
      | true =>
        rw [List.countP_cons_of_pos hpa, List.countP_cons_of_pos (by rw [← ea]; exact hpa), ih]
      | false =>
        rw [List.countP_cons_of_neg (by rw [hpa]; exact Bool.false_ne_true), List.countP_cons_of_neg (by rw [← ea, hpa]; exact Bool.false_ne_true), ih]
theorem countP_split {p q r : Int → Bool} : ∀ {l : List Int}, (∀ x ∈ l, r x = (p x || q x) ∧ (p x && q x) = false) → l.countP r = l.countP p + l.countP q
  | [], _ => rfl
  | a :: l, h => by
    have ih := countP_split (l := l) fun x hx => h x (List.mem_cons_of_mem _ hx)
    obtain ⟨h1, h2⟩ := h a List.mem_cons_self
    rw [List.countP_cons, List.countP_cons, List.countP_cons, ih, h1]
    cases hp : p a <;> cases hq : q a
    · rfl
    · rfl
    · simp only [Bool.or_false, if_true, Bool.false_eq_true, if_false]
      omega
    · rw [hp, hq] at h2
      exact absurd h2 (by decide)
def dfp (O T : List Int) (x : Int) : Bool := (decide (x ∈ T) && !decide (x ∈ O)) || (decide (x ∈ O) && !decide (x ∈ T))
theorem dif_eq {n : Nat} {O T : List Int} (SO : Sd n O) (ST : Sd n T) : dif O T = (rng n).countP (dfp O T) := by
  unfold dif
  have e1 : (T.filter fun x => decide (¬ x ∈ O)) = (rng n).filter fun x => decide (x ∈ T) && !decide (x ∈ O) :=
    Asc.ext (ST.asc.filter _) ((rng_asc n).filter _) fun x => by
      rw [List.mem_filter, List.mem_filter, mem_rng]
      simp only [decide_eq_true_eq, Bool.and_eq_true, Bool.not_eq_true', decide_eq_false_iff_not]
      exact ⟨fun h => ⟨ST.bd x h.1, h⟩, fun h => h.2⟩
  have e2 : (O.filter fun x => decide (¬ x ∈ T)) = (rng n).filter fun x => decide (x ∈ O) && !decide (x ∈ T) :=
    Asc.ext (SO.asc.filter _) ((rng_asc n).filter _) fun x => by
      rw [List.mem_filter, List.mem_filter, mem_rng]
      simp only [decide_eq_true_eq, Bool.and_eq_true, Bool.not_eq_true', decide_eq_false_iff_not]
      exact ⟨fun h => ⟨SO.bd x h.1, h⟩, fun h => h.2⟩
  rw [e1, e2, ← List.countP_eq_length_filter, ← List.countP_eq_length_filter]
  refine (countP_split fun x _ => ⟨rfl, ?_⟩).symm
  cases decide (x ∈ T) <;> cases decide (x ∈ O) <;> rfl
theorem dif_self (O : List Int) : dif O O = 0 := by
  unfold dif
  rw [List.filter_eq_nil_iff.mpr fun x hx => by simpa using hx]
  rfl
theorem dif_le {n : Nat} {O T : List Int} (SO : Sd n O) (ST : Sd n T) : dif O T ≤ n := by
  rw [dif_eq SO ST]
  have := List.countP_le_length (p := dfp O T) (l := rng n)
  rw [rng_length] at this
  exact this
theorem dif_zero {n : Nat} {O T : List Int} (SO : Sd n O) (ST : Sd n T) (h : dif O T = 0) : T = O := by
  rw [dif_eq SO ST, List.countP_eq_zero] at h
  refine Asc.ext ST.asc SO.asc fun x => ?_
  constructor
  · intro hx
    by_cases q : x ∈ O
    · exact q
    · exact absurd (show dfp O T x = true by unfold dfp; simp [hx, q]) (h x (mem_rng.mpr (ST.bd x hx)))
  · intro hx
    by_cases q : x ∈ T
    · exact q
    · exact absurd (show dfp O T x = true by unfold dfp; simp [hx, q]) (h x (mem_rng.mpr (SO.bd x hx)))
/-- a deed on a door that is as at first: one more; on one that is not: one less -/
theorem dif_chg {n : Nat} {O T : List Int} {k : Int} (SO : Sd n O) (ST : Sd n T) (hk : 0 ≤ k ∧ k < n) : ((k ∈ T ↔ k ∈ O) → dif O (chg n T k) = dif O T + 1) ∧ (¬ (k ∈ T ↔ k ∈ O) → dif O T = dif O (chg n T k) + 1) := by
  rw [dif_eq SO ST, dif_eq SO chg_sd]
  have mc : ∀ x, x ∈ chg n T k ↔ ((x = k ∧ ¬ x ∈ T) ∨ (x ≠ k ∧ x ∈ T)) := fun x => mem_chg ST hk
  have kc : k ∈ chg n T k ↔ ¬ k ∈ T := by rw [mc]; simp
  have oth : ∀ x ∈ rng n, x ≠ k → dfp O (chg n T k) x = dfp O T x := fun x _ ne => by
    have : x ∈ chg n T k ↔ x ∈ T := by rw [mc]; simp [ne]
    unfold dfp
    simp only [this]
  constructor
  · intro h
    refine countP_flip (rng_asc n).nodup (mem_rng.mpr hk) oth ?_ ?_
    · unfold dfp
      simp only [kc, h]
      by_cases q : k ∈ O <;> simp [q]
    · unfold dfp
      simp only [h]
      by_cases q : k ∈ O <;> simp [q]
  · intro h
    refine countP_flip (rng_asc n).nodup (mem_rng.mpr hk) (fun x hx ne => (oth x hx ne).symm) ?_ ?_
    · unfold dfp
      by_cases q : k ∈ O <;> by_cases t : k ∈ T <;> simp [q, t] at h ⊢
    · unfold dfp
      simp only [kc]
      by_cases q : k ∈ O <;> by_cases t : k ∈ T <;> simp [q, t] at h ⊢
theorem dif_step {n : Nat} {O T : List Int} {k : Int} (SO : Sd n O) (ST : Sd n T) (hk : 0 ≤ k ∧ k < n) : dif O (chg n T k) ≤ dif O T + 1 := by
  have q := dif_chg SO ST hk
  by_cases h : k ∈ T ↔ k ∈ O
  · have := q.1 h
    omega
  · have := q.2 h
    omega
theorem Steps.dif {n : Nat} {A : Ar} {O T : List Int} {m : Nat} (W : Wb n A) (S : Sd n O) (h : Steps n A O m T) : dif O T ≤ m := by
  induction h with
  | nil => rw [dif_self]; exact Nat.le_refl 0
  | snoc h' hk hc ih =>
    have := dif_step S (h'.come W S).sd hk
    omega
/-! ### a shortest word: first all that is opened, against the arrows; then all that is shut, along them -/
def uni (n : Nat) (O F : List Int) : List Int := (rng n).filter fun x => decide (x ∈ O) || decide (x ∈ F)
def min' (n : Nat) (O F : List Int) : List Int := (rng n).filter fun x => decide (x ∈ O) && !decide (x ∈ F)
theorem opens {n : Nat} {A : Ar} : ∀ (m : Nat) {O F : List Int}, F.length = m → F.Nodup → Sd n O → (∀ f ∈ F, 0 ≤ f ∧ f < n) → (∀ f ∈ F, ¬ f ∈ O ∧ ∀ e ∈ A, e.2 = f → ¬ e.1 ∈ O) → RL A (· ∈ F) → Steps n A O m (uni n O F)
  | 0, O, F, hl, _, S, _, _, _ => by
    have e : F = [] := List.eq_nil_of_length_eq_zero hl
    subst e
    have : uni n O [] = O := by
      rw [show uni n O [] = (rng n).filter fun x => decide (x ∈ O) by unfold uni; simp]
      exact S.eq_filter.symm
    rw [this]
    exact .nil
  | m + 1, O, F, hl, nd, S, hr, hf, rl => by
    obtain ⟨b, hb, q⟩ := rl F (fun z => by rw [z] at hl; exact absurd hl (by simp)) fun x hx => hx
    have me : ∀ x, x ∈ F.erase b ↔ x ≠ b ∧ x ∈ F := fun x => nd.mem_erase_iff
    have mc : ∀ x, x ∈ chg n O b ↔ ((x = b ∧ ¬ x ∈ O) ∨ (x ≠ b ∧ x ∈ O)) := fun x => mem_chg S (hr b hb)
    have ih := opens m (O := chg n O b) (F := F.erase b) (A := A) (by rw [List.length_erase_of_mem hb, hl]; rfl) (nd.erase b) chg_sd (fun f h => hr f ((me f).mp h).2) (fun f h => by
      have h' := (me f).mp h
      refine ⟨fun z => ?_, fun e he e2 z => ?_⟩
      · rcases (mc f).mp z with ⟨c, _⟩ | ⟨_, c⟩
        · exact h'.1 c
        · exact (hf f h'.2).1 c
      · rcases (mc _).mp z with ⟨c, _⟩ | ⟨_, c⟩
        · exact q e he c (e2 ▸ h'.2)
        · exact (hf f h'.2).2 e he e2 c) (rl.mono fun x h => ((me x).mp h).2)
    have eu : uni n (chg n O b) (F.erase b) = uni n O F := List.filter_congr fun x _ => by
      have h1 := (mc x)
      have h2 := (me x)
      by_cases c : x = b
      · subst c
        have := (hf x hb).1
        simp [h1, h2, hb, this]
      · simp [h1, h2, c]
    rw [eu] at ih
    exact Steps.cons (hr b hb) (.inl ⟨(hf b hb).1, (hf b hb).2⟩) ih
theorem shuts {n : Nat} {A : Ar} {O M : List Int} {m0 : Nat} (SM : Sd n M) (h0 : Steps n A O m0 M) : ∀ (m : Nat) {F : List Int}, F.length = m → F.Nodup → (∀ f ∈ F, f ∈ M ∧ ∀ e ∈ A, e.1 = f → e.2 ∈ M) → RL A (· ∈ F) → Steps n A O (m0 + m) (min' n M F)
  | 0, F, hl, _, _, _ => by
    have e : F = [] := List.eq_nil_of_length_eq_zero hl
    subst e
    have : min' n M [] = M := by
      rw [show min' n M [] = (rng n).filter fun x => decide (x ∈ M) by unfold min'; simp]
      exact SM.eq_filter.symm
    rw [this]
    exact h0
  | m + 1, F, hl, nd, hf, rl => by
    obtain ⟨b, hb, q⟩ := rl F (fun z => by rw [z] at hl; exact absurd hl (by simp)) fun x hx => hx
    have me : ∀ x, x ∈ F.erase b ↔ x ≠ b ∧ x ∈ F := fun x => nd.mem_erase_iff
    have ih := shuts SM h0 m (F := F.erase b) (by rw [List.length_erase_of_mem hb, hl]; rfl) (nd.erase b) (fun f h => hf f ((me f).mp h).2) (rl.mono fun x h => ((me x).mp h).2)
    have mm : ∀ x, x ∈ min' n M (F.erase b) ↔ x ∈ M ∧ ¬ (x ≠ b ∧ x ∈ F) := fun x => by
      unfold min'
      rw [List.mem_filter, mem_rng]
      simp only [Bool.and_eq_true, decide_eq_true_eq, Bool.not_eq_true', decide_eq_false_iff_not, me]
      exact ⟨fun h => h.2, fun h => ⟨SM.bd x h.1, h⟩⟩
    have hbM := (hf b hb).1
    have es : min' n M F = chg n (min' n M (F.erase b)) b := by
      refine Asc.ext ((rng_asc n).filter _) chg_sd.asc fun x => ?_
      rw [mem_chg (show Sd n (min' n M (F.erase b)) from sd_rng _) (SM.bd b hbM), mm]
      unfold min'
      rw [List.mem_filter, mem_rng]
      simp only [Bool.and_eq_true, decide_eq_true_eq, Bool.not_eq_true', decide_eq_false_iff_not]
      by_cases c : x = b
      · subst c
        simp [hb, hbM]
      · simp only [c, false_and, false_or, ne_eq, not_false_eq_true, true_and]
        exact ⟨fun h => h.2, fun h => ⟨SM.bd x h.1, h⟩⟩
    rw [es]
    refine .snoc ih (SM.bd b hbM) (.inr ⟨(mm b).mpr ⟨hbM, fun z => z.1 rfl⟩, fun e he e1 => (mm _).mpr ⟨(hf b hb).2 e he e1, fun z => q e he e1 z.2⟩⟩)
theorem Come.steps {n : Nat} {A : Ar} {O T : List Int} (SO : Sd n O) (C : Come n A O T) : Steps n A O (dif O T) T := by
  have fO : ∀ f, f ∈ T.filter (fun x => decide (¬ x ∈ O)) ↔ f ∈ T ∧ ¬ f ∈ O := fun f => by rw [List.mem_filter, decide_eq_true_eq]
  have fS : ∀ f, f ∈ O.filter (fun x => decide (¬ x ∈ T)) ↔ f ∈ O ∧ ¬ f ∈ T := fun f => by rw [List.mem_filter, decide_eq_true_eq]
  have h1 := opens (A := A) _ (O := O) (F := T.filter fun x => decide (¬ x ∈ O)) rfl (C.sd.asc.filter _).nodup SO (fun f h => C.sd.bd f ((fO f).mp h).1) (fun f h => by
    have h := (fO f).mp h
    exact canO_of (C.lo f h.1 h.2) h.2) (C.ro.mono fun x h => (fO x).mp h)
  have mu : ∀ x, x ∈ uni n O (T.filter fun x => decide (¬ x ∈ O)) ↔ x ∈ O ∨ x ∈ T := fun x => by
    unfold uni
    rw [List.mem_filter, mem_rng]
    simp only [Bool.or_eq_true, decide_eq_true_eq, fO]
    constructor
    · rintro ⟨_, h | h⟩
      · exact .inl h
      · exact .inr h.1
    · intro h
      by_cases c : x ∈ O
      · exact ⟨SO.bd x c, .inl c⟩
      · have h := h.resolve_left c
        exact ⟨C.sd.bd x h, .inr ⟨h, c⟩⟩
  have h2 := shuts (M := uni n O (T.filter fun x => decide (¬ x ∈ O))) (sd_rng _) h1 _ (F := O.filter fun x => decide (¬ x ∈ T)) rfl (SO.asc.filter _).nodup (fun f h => by
    have h := (fS f).mp h
    have c := canS_of (C.ls f h.1 h.2) h.1
    exact ⟨(mu f).mpr (.inl h.1), fun e he e1 => (mu _).mpr (.inl (c.2 e he e1))⟩) (C.rs.mono fun x h => (fS x).mp h)
  have et : min' n (uni n O (T.filter fun x => decide (¬ x ∈ O))) (O.filter fun x => decide (¬ x ∈ T)) = T := by
    refine Asc.ext ((rng_asc n).filter _) C.sd.asc fun x => ?_
    show x ∈ (rng n).filter _ ↔ _
    rw [List.mem_filter, mem_rng]
    simp only [Bool.and_eq_true, decide_eq_true_eq, Bool.not_eq_true', decide_eq_false_iff_not, mu, fS]
    constructor
    · rintro ⟨_, h, h'⟩
      by_cases c : x ∈ T
      · exact c
      · exact absurd ⟨h.resolve_right c, c⟩ h'
    · exact fun h => ⟨C.sd.bd x h, .inr h, fun z => z.2 h⟩
  rw [et] at h2
  exact h2
/-- the last deed of a shortest word -/
theorem Come.pred {n : Nat} {A : Ar} {O T : List Int} {d : Nat} (W : Wb n A) (SO : Sd n O) (C : Come n A O T) (h : dif O T = d + 1) : ∃ (S : List Int) (k : Int), Come n A O S ∧ dif O S = d ∧ (0 ≤ k ∧ k < n) ∧ Can A S k ∧ T = chg n S k := by
  have st := C.steps SO
  rw [h] at st
  cases st with
  | @snoc m S k h' hk hc =>
    have c := h'.come W SO
    have d1 := h'.dif W SO
    have d2 := dif_step (k := k) SO c.sd hk
    exact ⟨S, k, c, by omega, hk, hc, rfl⟩
/-! ### what the defs reckon, as lists -/
theorem Wb.len {n : Nat} {A : Ar} (W : Wb n A) : A.length ≤ 30 := by
  have n6 := W.n6
  have S : Sd 30 (A.map fun e => e.1 * 5 + if e.2 < e.1 then e.2 else e.2 - 1) := by
    refine ⟨?_, fun x hx => ?_⟩
    · unfold Asc
      rw [List.pairwise_map]
      refine W.srt.imp_of_mem fun {e f} he hf q => ?_
      have := W.bd e he
      have := W.bd f hf
      split <;> split <;> omega
    · obtain ⟨e, he, rfl⟩ := List.mem_map.mp hx
      have := W.bd e he
      show 0 ≤ e.1 * 5 + (if e.2 < e.1 then e.2 else e.2 - 1) ∧ e.1 * 5 + (if e.2 < e.1 then e.2 else e.2 - 1) < ((30 : Nat) : Int)
      split <;> omega
  have q := S.len
  rw [List.length_map] at q
  exact q
theorem open_eq {n : Nat} {A : Ar} {O : List Int} : ((rng n).filter fun k => !decide (k ∈ O) && !decide (k ∈ (A.filter fun e => decide (e.1 ∈ O)).map fun e => e.2)) = (rng n).filter fun k => decide (CanO A O k) := by
  refine List.filter_congr fun k _ => ?_
  rw [Bool.eq_iff_iff]
  simp only [Bool.and_eq_true, Bool.not_eq_true', decide_eq_false_iff_not, decide_eq_true_eq, List.mem_map, List.mem_filter]
  constructor
  · rintro ⟨h1, h2⟩
    exact ⟨h1, fun e he hk ho => h2 ⟨e, ⟨he, ho⟩, hk⟩⟩
  · rintro ⟨h1, h2⟩
    exact ⟨h1, fun ⟨e, ⟨he, ho⟩, hk⟩ => h2 e he hk ho⟩
theorem shut_eq {n : Nat} {A : Ar} {O : List Int} (S : Sd n O) : (O.filter fun k => !decide (k ∈ (A.filter fun e => !decide (e.2 ∈ O)).map fun e => e.1)) = (rng n).filter fun k => decide (CanS A O k) := by
  refine Asc.ext (S.asc.filter _) ((rng_asc n).filter _) fun k => ?_
  rw [List.mem_filter, List.mem_filter, mem_rng]
  simp only [Bool.not_eq_true', decide_eq_false_iff_not, decide_eq_true_eq, List.mem_map, List.mem_filter]
  constructor
  · rintro ⟨h1, h2⟩
    refine ⟨S.bd k h1, h1, fun e he hk => ?_⟩
    by_cases c : e.2 ∈ O
    · exact c
    · exact absurd ⟨e, ⟨he, c⟩, hk⟩ h2
  · rintro ⟨_, h1, h2⟩
    exact ⟨h1, fun ⟨e, ⟨he, ho⟩, hk⟩ => ho (h2 e he hk)⟩
theorem doab_of {n : Nat} {A : Ar} {O l : List Int} (p : l.Perm (((rng n).filter fun k => decide (CanO A O k)) ++ (rng n).filter fun k => decide (CanS A O k))) (s : l.Pairwise (· ≤ ·)) : l = doab n A O := by
  have nd : (((rng n).filter fun k => decide (CanO A O k)) ++ (rng n).filter fun k => decide (CanS A O k)).Nodup := by
    rw [List.nodup_append]
    refine ⟨((rng_asc n).filter _).nodup, ((rng_asc n).filter _).nodup, fun a ha b hb e => ?_⟩
    have h1 := of_decide_eq_true (List.mem_filter.mp ha).2
    have h2 := of_decide_eq_true (List.mem_filter.mp hb).2
    exact h1.1 (e ▸ h2.1)
  refine Asc.ext (asc_perm s p nd) ((rng_asc n).filter _) fun x => ?_
  rw [p.mem_iff, List.mem_append, List.mem_filter, List.mem_filter]
  show _ ↔ x ∈ (rng n).filter _
  rw [List.mem_filter, decide_eq_true_eq, decide_eq_true_eq, decide_eq_true_eq]
  unfold Can
  constructor
  · rintro (h | h)
    · exact ⟨h.1, .inl h.2⟩
    · exact ⟨h.1, .inr h.2⟩
  · rintro ⟨h, h' | h'⟩
    · exact .inl ⟨h, h'⟩
    · exact .inr ⟨h, h'⟩
theorem chg_del {n : Nat} {O : List Int} {k : Int} (S : Sd n O) (hk : k ∈ O) : (O.filter fun x => !decide (x = k)) = chg n O k := by
  refine Asc.ext (S.asc.filter _) chg_sd.asc fun x => ?_
  rw [mem_chg S (S.bd k hk), List.mem_filter]
  simp only [Bool.not_eq_true', decide_eq_false_iff_not]
  constructor
  · rintro ⟨h1, h2⟩
    exact .inr ⟨h2, h1⟩
  · rintro (⟨h1, h2⟩ | ⟨h1, h2⟩)
    · exact absurd (h1 ▸ hk) h2
    · exact ⟨h2, h1⟩
theorem chg_ins {n : Nat} {O l : List Int} {k : Int} (S : Sd n O) (hk : 0 ≤ k ∧ k < n) (ho : ¬ k ∈ O) (p : l.Perm (O ++ [k])) (s : l.Pairwise (· ≤ ·)) : l = chg n O k := by
  have nd : (O ++ [k]).Nodup := by
    rw [List.nodup_append]
    refine ⟨S.asc.nodup, by simp, fun a ha b hb e => ?_⟩
    rw [List.mem_singleton] at hb
    exact ho (hb ▸ e ▸ ha)
  refine Asc.ext (asc_perm s p nd) chg_sd.asc fun x => ?_
  rw [mem_chg S hk, p.mem_iff, List.mem_append, List.mem_singleton]
  constructor
  · rintro (h | h)
    · exact .inr ⟨fun e => ho (e ▸ h), h⟩
    · exact .inl ⟨h, h ▸ ho⟩
  · rintro (⟨h, _⟩ | ⟨_, h⟩)
    · exact .inr h
    · exact .inl h
/-- both ends of all arrows, one behind another -/
def flat (l : Ar) : List Int := l.flatMap fun e => [e.1, e.2]
theorem flat_len (l : Ar) : (flat l).length = 2 * l.length := by
  unfold flat
  induction l with
  | nil => rfl
  | cons e l ih =>
    rw [List.flatMap_cons, List.length_append, ih]
    simp only [List.length_cons, List.length_nil]
    omega
theorem flat_more {l : Ar} {i : Nat} {e : Int × Int} (h : l[i]? = some e) : flat (l.take (i + 1)) = flat (l.take i) ++ [e.1, e.2] := by
  unfold flat
  rw [List.take_add_one, h, List.flatMap_append]
  simp
/-- the arrows from open doors to shut ones -/
def prs (A : Ar) (O : List Int) : Ar := A.filter fun e => decide (e.1 ∈ O) && !decide (e.2 ∈ O)
theorem prs_len {n : Nat} {A : Ar} {O : List Int} (W : Wb n A) : (prs A O).length ≤ 30 := Nat.le_trans (List.length_filter_le _ _) W.len
theorem mem_flat {l : Ar} {k : Int} : k ∈ flat l ↔ ∃ e ∈ l, k = e.1 ∨ k = e.2 := by
  unfold flat
  rw [List.mem_flatMap]
  simp
theorem frz_flat {n : Nat} {A : Ar} {O : List Int} {k : Int} (W : Wb n A) : k ∈ frz n A O ↔ k ∈ flat (prs A O) := by
  rw [mem_frz W, mem_flat]
  unfold Fz prs
  constructor
  · rintro ⟨e, he, h1, h2, h3⟩
    exact ⟨e, List.mem_filter.mpr ⟨he, by simp [h1, h2]⟩, h3⟩
  · rintro ⟨e, he, h3⟩
    have h := List.mem_filter.mp he
    simp only [Bool.and_eq_true, Bool.not_eq_true', decide_eq_false_iff_not, decide_eq_true_eq] at h
    exact ⟨e, h.1, h.2.1, h.2.2, h3⟩
theorem frz_asc (n : Nat) (A : Ar) (O : List Int) : Asc (frz n A O) := (rng_asc n).filter _
theorem frz_len {n : Nat} {A : Ar} {O : List Int} : (frz n A O).length ≤ n := (sd_rng (n := n) _).len
/-- the doors that are not frozen -/
def lse (n : Nat) (A : Ar) (O : List Int) : List Int := (rng n).filter fun k => !decide (Fz A O k)
theorem lse_eq {n : Nat} {A : Ar} {O : List Int} (W : Wb n A) : ((rng n).filter fun k => !decide (k ∈ frz n A O)) = lse n A O := List.filter_congr fun k _ => by
  rw [decide_eq_decide.mpr (mem_frz W)]
theorem map_id {l : List Int} : (l.map fun k => k) = l := by simp
end LD

/-! Latchdoors, the plain law: subsets, ringless sets, all that comes. -/
namespace LD
/-! ### subsets -/
def sbs (l : List Int) : List (List Int) := l.foldl (fun f d => f ++ f.map (· ++ [d])) [[]]
theorem sbs_snoc (l : List Int) (d : Int) : sbs (l ++ [d]) = sbs l ++ (sbs l).map (· ++ [d]) := by
  simp [sbs, List.foldl_append]
theorem snoc_ind {p : List Int → Prop} (h0 : p []) (h1 : ∀ l d, p l → p (l ++ [d])) (l : List Int) : p l := by
  have h : ∀ (m : Nat) (l : List Int), l.length = m → p l := by
    intro m
    induction m with
    | zero => intro l e; rw [List.eq_nil_of_length_eq_zero e]; exact h0
    | succ m ih =>
      intro l e
      have ne : l ≠ [] := fun z => by rw [z] at e; simp at e
      rw [← List.dropLast_concat_getLast ne]
      exact h1 _ _ (ih _ (by rw [List.length_dropLast, e]; rfl))
  exact h _ l rfl
theorem sbs_len (l : List Int) : (sbs l).length = 2 ^ l.length := by
  refine snoc_ind (p := fun l => (sbs l).length = 2 ^ l.length) rfl (fun l d ih => ?_) l
  rw [sbs_snoc, List.length_append, List.length_map, ih, List.length_append, List.length_singleton, Nat.pow_succ]
  omega
theorem sbs_le {l : List Int} (h : l.length ≤ 6) : (sbs l).length ≤ 64 := by
  rw [sbs_len]
  exact Nat.pow_le_pow_right (by decide) h
theorem mem_sbs {l : List Int} : ∀ {s : List Int}, s ∈ sbs l → ∀ x ∈ s, x ∈ l := by
  refine snoc_ind (p := fun l => ∀ {s : List Int}, s ∈ sbs l → ∀ x ∈ s, x ∈ l) (fun {s} h x hx => ?_) (fun l d ih {s} h x hx => ?_) l
  · simp only [sbs, List.foldl_nil, List.mem_singleton] at h
    rw [h] at hx
    exact absurd hx (by simp)
  · rw [sbs_snoc, List.mem_append, List.mem_map] at h
    rw [List.mem_append]
    rcases h with h | ⟨t, h, rfl⟩
    · exact .inl (ih h x hx)
    · rcases List.mem_append.mp hx with hx | hx
      · exact .inl (ih h x hx)
      · exact .inr hx
/-- every choice of the list is among the subsets -/
theorem sbs_filter (q : Int → Bool) (l : List Int) : l.filter q ∈ sbs l := by
  refine snoc_ind (p := fun l => l.filter q ∈ sbs l) (by simp [sbs]) (fun l d ih => ?_) l
  rw [sbs_snoc, List.filter_append, List.mem_append, List.mem_map]
  cases c : q d with
  | true => exact .inr ⟨_, ih, by rw [List.filter_cons_of_pos c]; rfl⟩
  | false => exact .inl (by rw [List.filter_cons_of_neg (by rw [c]; exact Bool.false_ne_true), List.filter_nil, List.append_nil]; exact ih)
theorem sbs_sub {l : List Int} : ∀ {s : List Int}, s ∈ sbs l → s.Sublist l := by
  refine snoc_ind (p := fun l => ∀ {s : List Int}, s ∈ sbs l → s.Sublist l) (fun {s} h => ?_) (fun l d ih {s} h => ?_) l
  · simp only [sbs, List.foldl_nil, List.mem_singleton] at h
    rw [h]
    exact List.Sublist.refl _
  · rw [sbs_snoc, List.mem_append, List.mem_map] at h
    rcases h with h | ⟨t, h, rfl⟩
    · exact (ih h).trans (List.sublist_append_left l [d])
    · exact (ih h).append (List.Sublist.refl [d])
theorem sbs_sd {n : Nat} {l s : List Int} (h : Sd n l) (m : s ∈ sbs l) : Sd n s := ⟨h.asc.sublist (sbs_sub m), fun x hx => h.bd x (mem_sbs m x hx)⟩
theorem sbs_nodup {l : List Int} (h : l.Nodup) : (sbs l).Nodup := by
  revert h
  refine snoc_ind (p := fun l => l.Nodup → (sbs l).Nodup) (fun _ => by simp [sbs]) (fun l d ih h => ?_) l
  rw [List.nodup_append] at h
  obtain ⟨h1, _, h3⟩ := h
  have dl : ¬ d ∈ l := fun z => h3 d z d (by simp) rfl
  rw [sbs_snoc, List.nodup_append]
  refine ⟨ih h1, ?_, fun a ha b hb e => ?_⟩
  · rw [List.Nodup, List.pairwise_map]
    exact (ih h1).imp fun {a b} ne z => ne (List.append_cancel_right z)
  · obtain ⟨t, _, rfl⟩ := List.mem_map.mp hb
    refine dl (mem_sbs ha d ?_)
    rw [e]
    simp
theorem mem_sbs_rng {n : Nat} {s : List Int} : s ∈ sbs (rng n) ↔ Sd n s := by
  constructor
  · intro h
    refine sbs_sd ⟨rng_asc n, fun x hx => mem_rng.mp hx⟩ h
  · intro h
    rw [h.eq_filter]
    exact sbs_filter _ _
theorem mem_sbs_of {n : Nat} {l s : List Int} (hl : Sd n l) (hs : Sd n s) (h : ∀ x ∈ s, x ∈ l) : s ∈ sbs l := by
  have e : s = l.filter fun x => decide (x ∈ s) := Asc.ext hs.asc (hl.asc.filter _) fun x => by
    rw [List.mem_filter, decide_eq_true_eq]
    exact ⟨fun z => ⟨h x z, z⟩, fun z => z.2⟩
  rw [e]
  exact sbs_filter _ _
/-! ### ringless -/
noncomputable def rlb (A : Ar) (s : List Int) : Bool := @decide (RL A (· ∈ s)) (Classical.propDecidable _)
theorem rlb_iff {A : Ar} {s : List Int} : rlb A s = true ↔ RL A (· ∈ s) := by
  exact @decide_eq_true_iff _ (Classical.propDecidable _)
/-- the doors of L with an arrow into L -/
def inn (A : Ar) (L : List Int) : List Int := L.filter fun k => !((A.filter fun e => decide (e.1 = k) && decide (e.2 ∈ L)).map fun e => e.2).isEmpty
theorem mem_inn {A : Ar} {L : List Int} {k : Int} : k ∈ inn A L ↔ k ∈ L ∧ ∃ e ∈ A, e.1 = k ∧ e.2 ∈ L := by
  unfold inn
  rw [List.mem_filter]
  refine and_congr_right fun _ => ?_
  constructor
  · intro h
    have ne : ((A.filter fun e => decide (e.1 = k) && decide (e.2 ∈ L)).map fun e => e.2) ≠ [] := fun z => by
      rw [z] at h
      exact Bool.noConfusion h
    obtain ⟨x, hx⟩ := List.exists_mem_of_ne_nil _ ne
    obtain ⟨e, he, _⟩ := List.mem_map.mp hx
    rw [List.mem_filter, Bool.and_eq_true, decide_eq_true_eq, decide_eq_true_eq] at he
    exact ⟨e, he.1, he.2.1, he.2.2⟩
  · intro ⟨e, he, h1, h2⟩
    have m : e ∈ A.filter fun e => decide (e.1 = k) && decide (e.2 ∈ L) := List.mem_filter.mpr ⟨he, by rw [decide_eq_true h1, decide_eq_true h2]; rfl⟩
    cases c : (A.filter fun e => decide (e.1 = k) && decide (e.2 ∈ L)) with
    | nil => rw [c] at m; exact absurd m (by simp)
    | cons a l => rfl
theorem rl_inn {A : Ar} {L : List Int} : rlb A (inn A L) = rlb A L := by
  rw [Bool.eq_iff_iff, rlb_iff, rlb_iff]
  constructor
  · intro h
    refine RL.of fun M ne hs hb => h.bad ne (fun x hx => ?_) hb
    obtain ⟨e, he, h1, h2⟩ := hb x hx
    exact mem_inn.mpr ⟨hs x hx, e, he, h1, hs _ h2⟩
  · intro h
    exact h.mono fun x hx => (mem_inn.mp hx).1
theorem rl_stuck {A : Ar} {L : List Int} (ne : L ≠ []) (h : (inn A L).length = L.length) : rlb A L = false := by
  rw [Bool.eq_false_iff, ne_eq, rlb_iff]
  intro r
  have e : inn A L = L := List.filter_eq_self.mpr (List.length_filter_eq_length_iff.mp h)
  refine r.bad ne (fun x hx => hx) fun x hx => ?_
  rw [← e] at hx
  exact (mem_inn.mp hx).2
theorem rl_nil {A : Ar} : rlb A [] = true := rlb_iff.mpr fun L ne h => by
  obtain ⟨x, hx⟩ := List.exists_mem_of_ne_nil _ ne
  exact absurd (h x hx) (by simp)
theorem inn_le {A : Ar} {L : List Int} : (inn A L).length ≤ L.length := List.length_filter_le _ _
/-! ### all that comes -/
/-- O without less, with more -/
def cmb (n : Nat) (O more less : List Int) : List Int := (rng n).filter fun x => (decide (x ∈ O) && !decide (x ∈ less)) || decide (x ∈ more)
theorem cmb_sd {n : Nat} {O m l : List Int} : Sd n (cmb n O m l) := sd_rng _
theorem cmb_of {n : Nat} {O m l t : List Int} (S : Sd n O) (Sm : Sd n m) (dis : ∀ x ∈ m, ¬ x ∈ O) (p : t.Perm (O.filter (fun k => !decide (k ∈ l)) ++ m)) (s : t.Pairwise (· ≤ ·)) : t = cmb n O m l := by
  have nd : (O.filter (fun k => !decide (k ∈ l)) ++ m).Nodup := by
    rw [List.nodup_append]
    exact ⟨(S.asc.filter _).nodup, Sm.asc.nodup, fun a ha b hb e => dis b hb (e ▸ (List.mem_filter.mp ha).1)⟩
  refine Asc.ext (asc_perm s p nd) cmb_sd.asc fun x => ?_
  rw [p.mem_iff, List.mem_append, List.mem_filter]
  unfold cmb
  rw [List.mem_filter]
  simp only [Bool.or_eq_true, Bool.and_eq_true, decide_eq_true_eq, Bool.not_eq_true', decide_eq_false_iff_not]
  constructor
  · rintro (h | h)
    · exact ⟨mem_rng.mpr (S.bd x h.1), .inl h⟩
    · exact ⟨mem_rng.mpr (Sm.bd x h), .inr h⟩
  · exact fun h => h.2
def lo (n : Nat) (A : Ar) (O : List Int) : List Int := (lse n A O).filter fun k => !decide (k ∈ O)
def ls (n : Nat) (A : Ar) (O : List Int) : List Int := (lse n A O).filter fun k => decide (k ∈ O)
theorem lse_sd {n : Nat} {A : Ar} {O : List Int} : Sd n (lse n A O) := sd_rng _
theorem mem_lse {n : Nat} {A : Ar} {O : List Int} {k : Int} : k ∈ lse n A O ↔ (0 ≤ k ∧ k < n) ∧ ¬ Fz A O k := by
  unfold lse
  rw [List.mem_filter, mem_rng]
  simp
theorem mem_lo {n : Nat} {A : Ar} {O : List Int} {k : Int} : k ∈ lo n A O ↔ (0 ≤ k ∧ k < n) ∧ ¬ Fz A O k ∧ ¬ k ∈ O := by
  unfold lo
  rw [List.mem_filter, mem_lse]
  simp [and_assoc]
theorem mem_ls {n : Nat} {A : Ar} {O : List Int} {k : Int} : k ∈ ls n A O ↔ (0 ≤ k ∧ k < n) ∧ ¬ Fz A O k ∧ k ∈ O := by
  unfold ls
  rw [List.mem_filter, mem_lse]
  simp [and_assoc]
theorem lo_sd {n : Nat} {A : Ar} {O : List Int} : Sd n (lo n A O) := lse_sd.filter _
theorem ls_sd {n : Nat} {A : Ar} {O : List Int} : Sd n (ls n A O) := lse_sd.filter _
noncomputable def comeL (n : Nat) (A : Ar) (O : List Int) : List (List Int) := (sbs (rng n)).filter fun T => @decide (Come n A O T) (Classical.propDecidable _)
theorem mem_comeL {n : Nat} {A : Ar} {O T : List Int} : T ∈ comeL n A O ↔ Come n A O T := by
  unfold comeL
  rw [List.mem_filter, @decide_eq_true_iff _ (Classical.propDecidable _), mem_sbs_rng]
  exact ⟨fun h => h.2, fun h => ⟨h.sd, h⟩⟩
theorem comeL_nodup {n : Nat} {A : Ar} {O : List Int} : (comeL n A O).Nodup := (sbs_nodup (rng_asc n).nodup).filter _
theorem comeL_len {n : Nat} {A : Ar} {O : List Int} (h : n ≤ 6) : (comeL n A O).length ≤ 64 := Nat.le_trans (List.length_filter_le _ _) (sbs_le (by rw [rng_length]; exact h))
noncomputable def rls (A : Ar) (l : List Int) : List (List Int) := (sbs l).filter (rlb A)
theorem rls_len {A : Ar} {l : List Int} (h : l.length ≤ 6) : (rls A l).length ≤ 64 := Nat.le_trans (List.length_filter_le _ _) (sbs_le h)
theorem rls_sd {n : Nat} {A : Ar} {l s : List Int} (h : Sd n l) (m : s ∈ rls A l) : Sd n s := sbs_sd h (List.mem_filter.mp m).1
theorem mem_cmb {n : Nat} {O m l : List Int} {x : Int} : x ∈ cmb n O m l ↔ (0 ≤ x ∧ x < n) ∧ ((x ∈ O ∧ ¬ x ∈ l) ∨ x ∈ m) := by
  unfold cmb
  rw [List.mem_filter, mem_rng]
  simp
/-- all choices of what is opened and what is shut -/
noncomputable def prd (n : Nat) (A : Ar) (O : List Int) : List (List Int) := (rls A (lo n A O)).flatMap fun m => (rls A (ls n A O)).map (cmb n O m)
theorem come_perm {n : Nat} {A : Ar} {O : List Int} (S : Sd n O) : (prd n A O).Perm (comeL n A O) := by
  have iO : ∀ {m l : List Int}, m ∈ rls A (lo n A O) → l ∈ rls A (ls n A O) → (∀ x, x ∈ m ↔ x ∈ cmb n O m l ∧ ¬ x ∈ O) ∧ (∀ x, x ∈ l ↔ x ∈ O ∧ ¬ x ∈ cmb n O m l) := by
    intro m l hm hl
    have m1 := mem_sbs (List.mem_filter.mp hm).1
    have l1 := mem_sbs (List.mem_filter.mp hl).1
    refine ⟨fun x => ?_, fun x => ?_⟩
    · rw [mem_cmb]
      constructor
      · intro h
        have z := mem_lo.mp (m1 x h)
        exact ⟨⟨z.1, .inr h⟩, z.2.2⟩
      · rintro ⟨⟨_, h | h⟩, h2⟩
        · exact absurd h.1 h2
        · exact h
    · rw [mem_cmb]
      constructor
      · intro h
        have z := mem_ls.mp (l1 x h)
        refine ⟨z.2.2, fun y => ?_⟩
        rcases y.2 with y | y
        · exact y.2 h
        · exact (mem_lo.mp (m1 x y)).2.2 z.2.2
      · rintro ⟨h1, h2⟩
        by_cases c : x ∈ l
        · exact c
        · exact absurd ⟨S.bd x h1, .inl ⟨h1, c⟩⟩ h2
  refine (List.perm_ext_iff_of_nodup ?_ comeL_nodup).mpr fun T => ?_
  · unfold prd
    rw [List.Nodup, List.pairwise_flatMap]
    refine ⟨fun m hm => ?_, ?_⟩
    · rw [List.pairwise_map]
      refine List.Pairwise.imp_of_mem (fun {a b} ha hb ne z => ne ?_) ((sbs_nodup ls_sd.asc.nodup).filter (rlb A))
      have qa := (iO hm ha).2
      have qb := (iO hm hb).2
      exact Asc.ext (rls_sd ls_sd ha).asc (rls_sd ls_sd hb).asc fun x => by rw [qa, qb, z]
    · refine List.Pairwise.imp_of_mem (fun {a b} ha hb ne x hx y hy z => ne ?_) ((sbs_nodup lo_sd.asc.nodup).filter (rlb A))
      obtain ⟨l, hl, rfl⟩ := List.mem_map.mp hx
      obtain ⟨l', hl', rfl⟩ := List.mem_map.mp hy
      have qa := (iO ha hl).1
      have qb := (iO hb hl').1
      exact Asc.ext (rls_sd lo_sd ha).asc (rls_sd lo_sd hb).asc fun x => by rw [qa, qb, z]
  · rw [mem_comeL]
    unfold prd
    rw [List.mem_flatMap]
    constructor
    · rintro ⟨m, hm, h⟩
      obtain ⟨l, hl, rfl⟩ := List.mem_map.mp h
      obtain ⟨q1, q2⟩ := iO hm hl
      have m1 := mem_sbs (List.mem_filter.mp hm).1
      have l1 := mem_sbs (List.mem_filter.mp hl).1
      refine ⟨cmb_sd, fun x h1 h2 => ?_, fun x h1 h2 => ?_, ?_, ?_⟩
      · exact (mem_lo.mp (m1 x ((q1 x).mpr ⟨h1, h2⟩))).2.1
      · exact (mem_ls.mp (l1 x ((q2 x).mpr ⟨h1, h2⟩))).2.1
      · exact (rlb_iff.mp (List.mem_filter.mp hm).2).mono fun x h => (q1 x).mpr h
      · exact (rlb_iff.mp (List.mem_filter.mp hl).2).mono fun x h => (q2 x).mpr h
    · intro C
      have S1 : Sd n (T.filter fun x => !decide (x ∈ O)) := C.sd.filter _
      have S2 : Sd n (O.filter fun x => !decide (x ∈ T)) := S.filter _
      have f1 : ∀ x, x ∈ (T.filter fun x => !decide (x ∈ O)) ↔ x ∈ T ∧ ¬ x ∈ O := fun x => by rw [List.mem_filter]; simp
      have f2 : ∀ x, x ∈ (O.filter fun x => !decide (x ∈ T)) ↔ x ∈ O ∧ ¬ x ∈ T := fun x => by rw [List.mem_filter]; simp
      refine ⟨T.filter fun x => !decide (x ∈ O), List.mem_filter.mpr ⟨mem_sbs_of lo_sd S1 fun x hx => ?_, rlb_iff.mpr (C.ro.mono fun x hx => (f1 x).mp hx)⟩, List.mem_map.mpr ⟨O.filter fun x => !decide (x ∈ T), List.mem_filter.mpr ⟨mem_sbs_of ls_sd S2 fun x hx => ?_, rlb_iff.mpr (C.rs.mono fun x hx => (f2 x).mp hx)⟩, ?_⟩⟩
      · have z := (f1 x).mp hx
        exact mem_lo.mpr ⟨S1.bd x hx, C.lo x z.1 z.2, z.2⟩
      · have z := (f2 x).mp hx
        exact mem_ls.mpr ⟨S2.bd x hx, C.ls x z.1 z.2, z.1⟩
      · refine Asc.ext cmb_sd.asc C.sd.asc fun x => ?_
        rw [mem_cmb, f1, f2]
        constructor
        · rintro ⟨_, ⟨h1, h2⟩ | h⟩
          · by_cases c : x ∈ T
            · exact c
            · exact absurd ⟨h1, c⟩ h2
          · exact h.1
        · intro h
          refine ⟨C.sd.bd x h, ?_⟩
          by_cases c : x ∈ O
          · exact .inl ⟨c, fun z => z.2 h⟩
          · exact .inr ⟨h, c⟩
/-! ### what a deed freezes, costs -/
def nwl (n : Nat) (A : Ar) (O : List Int) (k : Int) : List Int := (frz n A (chg n O k)).filter fun j => !decide (j ∈ frz n A O)
theorem nwl_sd {n : Nat} {A : Ar} {O : List Int} {k : Int} : Sd n (nwl n A O k) := (sd_rng _).filter _
noncomputable def cst (n : Nat) (A : Ar) (O : List Int) (k : Int) : List Int := ((comeL n A O).filter fun T => decide (k ∈ frz n A T)).map fun T => (dif O T : Int)
end LD

/-! Latchdoors, the plain law: the fewest deeds that freeze; the levels of a search. -/
namespace LD
section
variable {n : Nat} {A : Ar} {O : List Int} {k x y : Int}
theorem rl_one (W : Wb n A) {S : Int → Prop} (h : ∀ z, S z → z = x) : RL A S := fun L ne hs => by
  obtain ⟨z, hz⟩ := List.exists_mem_of_ne_nil _ ne
  refine ⟨z, hz, fun e he e1 e2 => (W.bd e he).2.2.2.2 ?_⟩
  rw [e1, h z (hs z hz), h _ (hs _ e2)]
/-- one loose door changed -/
theorem come_one (W : Wb n A) (S : Sd n O) (hk : 0 ≤ k ∧ k < n) (h : ¬ Fz A O k) : Come n A O (chg n O k) ∧ dif O (chg n O k) = 1 := by
  refine ⟨(Come.refl S).step W hk (can_iff.mpr h), ?_⟩
  have := (dif_chg (T := O) S S hk).1 Iff.rfl
  rw [dif_self] at this
  exact this
/-- an open loose door shut, then a shut loose one opened -/
theorem come_two (W : Wb n A) (S : Sd n O) (hx : 0 ≤ x ∧ x < n) (hy : 0 ≤ y ∧ y < n) (fx : ¬ Fz A O x) (fy : ¬ Fz A O y) (ox : x ∈ O) (oy : ¬ y ∈ O) :
    Come n A O (chg n (chg n O x) y) ∧ dif O (chg n (chg n O x) y) = 2 ∧ ∀ z, z ∈ chg n (chg n O x) y ↔ z = y ∨ (z ≠ x ∧ z ∈ O) := by
  have ne : x ≠ y := fun z => oy (z ▸ ox)
  have m : ∀ z, z ∈ chg n (chg n O x) y ↔ z = y ∨ (z ≠ x ∧ z ∈ O) := fun z => by
    rw [mem_chg chg_sd hy, mem_chg S hx]
    constructor
    · rintro (⟨rfl, h⟩ | ⟨h1, ⟨rfl, h⟩ | h⟩)
      · exact .inl rfl
      · exact absurd ox h
      · exact .inr h
    · rintro (rfl | ⟨h1, h2⟩)
      · exact .inl ⟨rfl, fun z => z.elim (fun z => ne z.1.symm) fun z => oy z.2⟩
      · exact .inr ⟨fun z => oy (z ▸ h2), .inr ⟨h1, h2⟩⟩
  refine ⟨⟨chg_sd, fun z h1 h2 => ?_, fun z h1 h2 => ?_, rl_one (x := y) W fun z h => ?_, rl_one (x := x) W fun z h => ?_⟩, ?_, m⟩
  · rcases (m z).mp h1 with rfl | h
    · exact fy
    · exact absurd h.2 h2
  · by_cases c : z = x
    · exact c ▸ fx
    · exact absurd ((m z).mpr (.inr ⟨c, h1⟩)) h2
  · rcases (m z).mp h.1 with h' | h'
    · exact h'
    · exact absurd h'.2 h.2
  · by_cases c : z = x
    · exact c
    · exact absurd ((m z).mpr (.inr ⟨c, h.1⟩)) h.2
  · have d1 := (come_one W S hx fx).2
    have q : y ∈ chg n O x ↔ y ∈ O := by
      rw [mem_chg S hx]
      exact ⟨fun z => z.elim (fun z => absurd z.1.symm ne) fun z => z.2, fun z => absurd z oy⟩
    rw [(dif_chg S chg_sd hy).1 q, d1]
/-- the fewest deeds that freeze k -/
def IsFew (n : Nat) (A : Ar) (O : List Int) (k : Int) (r : Option Nat) : Prop := match r with
  | none => ∀ T, Come n A O T → ¬ Fz A T k
  | some d => (∃ T, Come n A O T ∧ Fz A T k ∧ dif O T = d) ∧ ∀ T, Come n A O T → Fz A T k → d ≤ dif O T
theorem few0 (S : Sd n O) (h : Fz A O k) : IsFew n A O k (some 0) := ⟨⟨O, Come.refl S, h, dif_self O⟩, fun _ _ _ => Nat.zero_le _⟩
def ends (A : Ar) (k : Int) : List Int := (A.filter fun e => decide (e.1 = k)).map fun e => e.2
def begs (A : Ar) (k : Int) : List Int := (A.filter fun e => decide (e.2 = k)).map fun e => e.1
theorem mem_ends : x ∈ ends A k ↔ (k, x) ∈ A := by
  unfold ends
  rw [List.mem_map]
  constructor
  · rintro ⟨e, h, rfl⟩
    have z := List.mem_filter.mp h
    have z2 := of_decide_eq_true z.2
    rw [← z2]
    exact z.1
  · intro h
    exact ⟨(k, x), List.mem_filter.mpr ⟨h, decide_eq_true rfl⟩, rfl⟩
theorem mem_begs : x ∈ begs A k ↔ (x, k) ∈ A := by
  unfold begs
  rw [List.mem_map]
  constructor
  · rintro ⟨e, h, rfl⟩
    have z := List.mem_filter.mp h
    have z2 := of_decide_eq_true z.2
    rw [← z2]
    exact z.1
  · intro h
    exact ⟨(x, k), List.mem_filter.mpr ⟨h, decide_eq_true rfl⟩, rfl⟩
/-- doors that freeze k at once when they change, later when k does too -/
def atO (A : Ar) (O : List Int) (k : Int) : List Int := if k ∈ O then ends A k else begs A k
def laO (A : Ar) (O : List Int) (k : Int) : List Int := if k ∈ O then begs A k else ends A k
def c1 (n : Nat) (A : Ar) (O : List Int) (k : Int) : Bool := !((atO A O k).filter fun x => decide (x ∈ lse n A O)).isEmpty || !((laO A O k).filter fun x => decide (x ∈ O) == decide (k ∈ O)).isEmpty
def c2 (n : Nat) (A : Ar) (O : List Int) (k : Int) : Bool := !((laO A O k).filter fun x => decide (x ∈ lse n A O)).isEmpty
theorem some_of {p : Int → Bool} {l : List Int} : (!(l.filter p).isEmpty) = true ↔ ∃ x ∈ l, p x = true := by
  constructor
  · intro h
    have ne : l.filter p ≠ [] := fun z => by rw [z] at h; exact Bool.noConfusion h
    obtain ⟨x, hx⟩ := List.exists_mem_of_ne_nil _ ne
    have := List.mem_filter.mp hx
    exact ⟨x, this.1, this.2⟩
  · rintro ⟨x, h1, h2⟩
    have m : x ∈ l.filter p := List.mem_filter.mpr ⟨h1, h2⟩
    cases e : l.filter p with
    | nil => rw [e] at m; exact absurd m (by simp)
    | cons a b => rfl
theorem bd1 (W : Wb n A) (h : (x, y) ∈ A) : (0 ≤ x ∧ x < n) ∧ (0 ≤ y ∧ y < n) ∧ x ≠ y := ⟨⟨(W.bd _ h).1, (W.bd _ h).2.1⟩, ⟨(W.bd _ h).2.2.1, (W.bd _ h).2.2.2.1⟩, (W.bd _ h).2.2.2.2⟩
theorem few1 (W : Wb n A) (S : Sd n O) (hk : 0 ≤ k ∧ k < n) (hf : ¬ Fz A O k) (h : c1 n A O k = true) : IsFew n A O k (some 1) := by
  refine ⟨?_, fun T C hT => ?_⟩
  · unfold c1 at h
    rw [Bool.or_eq_true, some_of, some_of] at h
    rcases h with ⟨x, h1, h2⟩ | ⟨x, h1, h2⟩
    · have lx := mem_lse.mp (of_decide_eq_true h2)
      obtain ⟨C, d⟩ := come_one W S lx.1 lx.2
      refine ⟨_, C, ?_, d⟩
      unfold atO at h1
      by_cases c : k ∈ O
      · rw [if_pos c] at h1
        have a := mem_ends.mp h1
        have b := bd1 W a
        have xo : x ∈ O := by
          by_cases o : x ∈ O
          · exact o
          · exact absurd ⟨_, a, c, o, .inl rfl⟩ hf
        exact ⟨_, a, (mem_chg S lx.1).mpr (.inr ⟨b.2.2, c⟩), fun z => ((mem_chg S lx.1).mp z).elim (fun z => z.2 xo) fun z => z.1 rfl, .inl rfl⟩
      · rw [if_neg c] at h1
        have a := mem_begs.mp h1
        have b := bd1 W a
        have xo : ¬ x ∈ O := fun o => hf ⟨_, a, o, c, .inr rfl⟩
        exact ⟨_, a, (mem_chg S lx.1).mpr (.inl ⟨rfl, xo⟩), fun z => ((mem_chg S lx.1).mp z).elim (fun z => b.2.2 z.1.symm) fun z => c z.2, .inr rfl⟩
    · obtain ⟨C, d⟩ := come_one W S hk hf
      refine ⟨_, C, ?_, d⟩
      have h2' : decide (x ∈ O) = decide (k ∈ O) := eq_of_beq h2
      unfold laO at h1
      by_cases c : k ∈ O
      · rw [if_pos c] at h1
        have a := mem_begs.mp h1
        have b := bd1 W a
        have xo : x ∈ O := of_decide_eq_true (by rw [h2']; exact decide_eq_true c)
        exact ⟨_, a, (mem_chg S hk).mpr (.inr ⟨b.2.2, xo⟩), fun z => ((mem_chg S hk).mp z).elim (fun z => z.2 c) fun z => z.1 rfl, .inr rfl⟩
      · rw [if_neg c] at h1
        have a := mem_ends.mp h1
        have b := bd1 W a
        have xo : ¬ x ∈ O := of_decide_eq_false (by rw [h2']; exact decide_eq_false c)
        exact ⟨_, a, (mem_chg S hk).mpr (.inl ⟨rfl, c⟩), fun z => ((mem_chg S hk).mp z).elim (fun z => b.2.2 z.1.symm) fun z => xo z.2, .inl rfl⟩
  · refine Nat.pos_of_ne_zero fun z => hf ?_
    rw [dif_zero S C.sd z] at hT
    exact hT
/-- what freezes k where nothing does at once: a loose door and k itself -/
theorem few_why (hf : ¬ Fz A O k) (h : c1 n A O k = false) {T : List Int} (C : Come n A O T) (SO : Sd n O) (hT : Fz A T k) : ∃ x ∈ laO A O k, x ∈ lse n A O ∧ ((x ∈ T ∧ ¬ x ∈ O ∧ k ∈ O ∧ ¬ k ∈ T) ∨ (x ∈ O ∧ ¬ x ∈ T ∧ k ∈ T ∧ ¬ k ∈ O)) := by
  have no1 : ∀ x ∈ atO A O k, ¬ x ∈ lse n A O := fun x hx hl => by
    have : c1 n A O k = true := by
      unfold c1
      rw [Bool.or_eq_true, some_of]
      exact .inl ⟨x, hx, decide_eq_true hl⟩
    rw [h] at this
    exact Bool.noConfusion this
  have no2 : ∀ x ∈ laO A O k, ¬ (x ∈ O ↔ k ∈ O) := fun x hx hl => by
    have : c1 n A O k = true := by
      unfold c1
      rw [Bool.or_eq_true, some_of, some_of]
      exact .inr ⟨x, hx, by rw [decide_eq_decide.mpr hl]; exact beq_self_eq_true _⟩
    rw [h] at this
    exact Bool.noConfusion this
  obtain ⟨⟨a, b⟩, he, ha, hb, hk⟩ := hT
  simp only at ha hb hk
  by_cases c : k ∈ O
  · rcases hk with rfl | rfl
    · exfalso
      have bo : b ∈ O := by
        by_cases o : b ∈ O
        · exact o
        · exact absurd ⟨_, he, c, o, .inl rfl⟩ hf
      refine no1 b ?_ (mem_lse.mpr ⟨SO.bd b bo, C.ls b bo hb⟩)
      unfold atO
      rw [if_pos c]
      exact mem_ends.mpr he
    · have m : a ∈ laO A O k := by
        unfold laO
        rw [if_pos c]
        exact mem_begs.mpr he
      have ao : ¬ a ∈ O := fun z => no2 a m ⟨fun _ => c, fun _ => z⟩
      exact ⟨a, m, mem_lse.mpr ⟨C.sd.bd a ha, C.lo a ha ao⟩, .inl ⟨ha, ao, c, hb⟩⟩
  · rcases hk with rfl | rfl
    · have m : b ∈ laO A O k := by
        unfold laO
        rw [if_neg c]
        exact mem_ends.mpr he
      have bo : b ∈ O := by
        by_cases o : b ∈ O
        · exact o
        · exact absurd ⟨fun z => absurd z o, fun z => absurd z c⟩ (no2 b m)
      exact ⟨b, m, mem_lse.mpr ⟨SO.bd b bo, C.ls b bo hb⟩, .inr ⟨bo, hb, ha, c⟩⟩
    · exfalso
      have ao : ¬ a ∈ O := fun z => hf ⟨_, he, z, c, .inr rfl⟩
      refine no1 a ?_ (mem_lse.mpr ⟨C.sd.bd a ha, C.lo a ha ao⟩)
      unfold atO
      rw [if_neg c]
      exact mem_begs.mpr he
theorem pos_of_mem {l : List Int} {p : Int → Bool} (h : x ∈ l) (hp : p x = true) : 1 ≤ (l.filter p).length := List.length_pos_of_mem (List.mem_filter.mpr ⟨h, hp⟩)
theorem few2 (W : Wb n A) (S : Sd n O) (hk : 0 ≤ k ∧ k < n) (hf : ¬ Fz A O k) (h : c1 n A O k = false) (h' : c2 n A O k = true) : IsFew n A O k (some 2) := by
  refine ⟨?_, fun T C hT => ?_⟩
  · unfold c2 at h'
    rw [some_of] at h'
    obtain ⟨x, h1, h2⟩ := h'
    have lx := mem_lse.mp (of_decide_eq_true h2)
    have no2 : ¬ (x ∈ O ↔ k ∈ O) := fun hl => by
      have : c1 n A O k = true := by
        unfold c1
        rw [Bool.or_eq_true, some_of, some_of]
        exact .inr ⟨x, h1, by rw [decide_eq_decide.mpr hl]; exact beq_self_eq_true _⟩
      rw [h] at this
      exact Bool.noConfusion this
    unfold laO at h1
    by_cases c : k ∈ O
    · rw [if_pos c] at h1
      have a := mem_begs.mp h1
      have xo : ¬ x ∈ O := fun z => no2 ⟨fun _ => c, fun _ => z⟩
      obtain ⟨C, d, m⟩ := come_two W S hk lx.1 hf lx.2 c xo
      refine ⟨_, C, ⟨_, a, (m x).mpr (.inl rfl), fun z => ?_, .inr rfl⟩, d⟩
      rcases (m k).mp z with z | z
      · exact xo (z ▸ c)
      · exact z.1 rfl
    · rw [if_neg c] at h1
      have a := mem_ends.mp h1
      have xo : x ∈ O := by
        by_cases o : x ∈ O
        · exact o
        · exact absurd ⟨fun z => absurd z o, fun z => absurd z c⟩ no2
      obtain ⟨C, d, m⟩ := come_two W S lx.1 hk lx.2 hf xo c
      refine ⟨_, C, ⟨_, a, (m k).mpr (.inl rfl), fun z => ?_, .inl rfl⟩, d⟩
      rcases (m x).mp z with z | z
      · exact c (z ▸ xo)
      · exact z.1 rfl
  · obtain ⟨x, _, _, h | h⟩ := few_why hf h C S hT
    · have a := pos_of_mem (p := fun x => decide (¬ x ∈ O)) h.1 (decide_eq_true h.2.1)
      have b := pos_of_mem (p := fun x => decide (¬ x ∈ T)) h.2.2.1 (decide_eq_true h.2.2.2)
      unfold dif
      omega
    · have a := pos_of_mem (p := fun x => decide (¬ x ∈ O)) h.2.2.1 (decide_eq_true h.2.2.2)
      have b := pos_of_mem (p := fun x => decide (¬ x ∈ T)) h.1 (decide_eq_true h.2.1)
      unfold dif
      omega
theorem few3 (S : Sd n O) (hf : ¬ Fz A O k) (h : c1 n A O k = false) (h' : c2 n A O k = false) : IsFew n A O k none := fun T C hT => by
  obtain ⟨x, hx, hl, _⟩ := few_why hf h C S hT
  have : c2 n A O k = true := some_of.mpr ⟨x, hx, decide_eq_true hl⟩
  rw [h'] at this
  exact Bool.noConfusion this
end
/-! ### the levels of a search -/
theorem sub_len {α : Type} [DecidableEq α] : ∀ {l m : List α}, l.Nodup → (∀ x ∈ l, x ∈ m) → l.length ≤ m.length
  | [], _, _, _ => Nat.zero_le _
  | a :: l, m, nd, h => by
    have nd' := List.nodup_cons.mp nd
    have ha := h a List.mem_cons_self
    have ih := sub_len (m := m.erase a) nd'.2 fun x hx => (List.mem_erase_of_ne (fun z : x = a => nd'.1 (by rw [← z]; exact hx))).mpr (h x (List.mem_cons_of_mem _ hx))
    rw [List.length_erase_of_mem ha] at ih
    have := List.length_pos_of_mem ha
    rw [List.length_cons]
    omega
abbrev KV := List (List Int × Int)
structure Lv (n : Nat) (A : Ar) (O : List Int) (d : Nat) (kv : KV) (mo : List (List Int)) (dn : List Int → Int → Prop) : Prop where
  nd : (kv.map Prod.fst).Nodup
  val : ∀ p ∈ kv, Come n A O p.1 ∧ p.2 = dif O p.1
  all : ∀ T, Come n A O T → dif O T ≤ d → T ∈ kv.map Prod.fst
  mor : ∀ T ∈ mo, T ∈ kv.map Prod.fst ∧ dif O T = d + 1
  key : ∀ T ∈ kv.map Prod.fst, dif O T ≤ d ∨ T ∈ mo
  mnd : mo.Nodup
  dn : ∀ S k, dn S k → chg n S k ∈ kv.map Prod.fst
section
variable {n : Nat} {A : Ar} {O : List Int} {d : Nat} {kv : KV} {mo : List (List Int)} {dn dn' : List Int → Int → Prop}
theorem Lv.come (L : Lv n A O d kv mo dn) {T : List Int} (h : T ∈ kv.map Prod.fst) : Come n A O T := by
  obtain ⟨p, hp, rfl⟩ := List.mem_map.mp h
  exact (L.val p hp).1
theorem Lv.len (L : Lv n A O d kv mo dn) (h : n ≤ 6) : kv.length ≤ 64 ∧ mo.length ≤ 64 := by
  have b := sbs_le (l := rng n) (by rw [rng_length]; exact h)
  have z : ∀ T ∈ kv.map Prod.fst, T ∈ sbs (rng n) := fun T hT => mem_sbs_rng.mpr (L.come hT).sd
  have a1 := sub_len L.nd z
  have a2 := sub_len L.mnd fun T hT => z T (L.mor T hT).1
  rw [List.length_map] at a1
  exact ⟨Nat.le_trans a1 b, Nat.le_trans a2 b⟩
/-- the search's start -/
theorem Lv.start (S : Sd n O) : Lv n A O 0 [(O, 0)] [] fun _ _ => False where
  nd := by simp
  val := fun p hp => by
    rw [List.mem_singleton.mp hp]
    exact ⟨Come.refl S, by rw [dif_self]; rfl⟩
  all := fun T C h => by
    rw [dif_zero S C.sd (Nat.le_zero.mp h)]
    simp
  mor := fun T h => absurd h (by simp)
  key := fun T h => by
    have : T = O := by simpa using h
    rw [this, dif_self]
    exact .inl (Nat.le_refl _)
  mnd := .nil
  dn := fun _ _ h => h.elim
theorem Lv.weak (L : Lv n A O d kv mo dn) (h : ∀ S k, dn' S k → dn S k) : Lv n A O d kv mo dn' := ⟨L.nd, L.val, L.all, L.mor, L.key, L.mnd, fun S k z => L.dn S k (h S k z)⟩
theorem Lv.skip (L : Lv n A O d kv mo dn) {S : List Int} {k : Int} (h : chg n S k ∈ kv.map Prod.fst) : Lv n A O d kv mo fun S' k' => dn S' k' ∨ (S' = S ∧ k' = k) :=
  ⟨L.nd, L.val, L.all, L.mor, L.key, L.mnd, fun S' k' z => z.elim (L.dn S' k') fun z => by rw [z.1, z.2]; exact h⟩
theorem Lv.add (W : Wb n A) (SO : Sd n O) (L : Lv n A O d kv mo dn) {S : List Int} {k v : Int} (C : Come n A O S) (hd : dif O S = d) (hk : k ∈ doab n A S) (h : ¬ chg n S k ∈ kv.map Prod.fst) (hv : v = d + 1) :
    Lv n A O d (kv ++ [(chg n S k, v)]) (mo ++ [chg n S k]) fun S' k' => dn S' k' ∨ (S' = S ∧ k' = k) := by
  have hk' : (0 ≤ k ∧ k < n) ∧ Can A S k := by
    unfold doab at hk
    rw [List.mem_filter, mem_rng, decide_eq_true_eq] at hk
    exact hk
  have C' := C.step W hk'.1 hk'.2
  have le := dif_step (k := k) SO C.sd hk'.1
  have gt : ¬ dif O (chg n S k) ≤ d := fun z => h (L.all _ C' z)
  have eq : dif O (chg n S k) = d + 1 := by omega
  have mm : ∀ T, T ∈ (kv ++ [(chg n S k, v)]).map Prod.fst ↔ T ∈ kv.map Prod.fst ∨ T = chg n S k := fun T => by simp
  refine ⟨?_, fun p hp => ?_, fun T CT hT => (mm T).mpr (.inl (L.all T CT hT)), fun T hT => ?_, fun T hT => ?_, ?_, fun S' k' z => (mm _).mpr ?_⟩
  · rw [List.map_append, List.nodup_append]
    refine ⟨L.nd, by simp, fun a ha b hb e => h ?_⟩
    have : b = chg n S k := by simpa using hb
    rw [← this, ← e]
    exact ha
  · rcases List.mem_append.mp hp with hp | hp
    · exact L.val p hp
    · rw [List.mem_singleton.mp hp]
      exact ⟨C', by rw [hv, eq]; rfl⟩
  · rcases List.mem_append.mp hT with hT | hT
    · exact ⟨(mm T).mpr (.inl (L.mor T hT).1), (L.mor T hT).2⟩
    · rw [List.mem_singleton.mp hT]
      exact ⟨(mm _).mpr (.inr rfl), eq⟩
  · rcases (mm T).mp hT with hT | hT
    · exact (L.key T hT).elim .inl fun z => .inr (List.mem_append_left _ z)
    · exact .inr (by rw [hT]; simp)
  · rw [List.nodup_append]
    refine ⟨L.mnd, by simp, fun a ha b hb e => h ?_⟩
    have : b = chg n S k := by simpa using hb
    rw [← this, ← e]
    exact (L.mor a ha).1
  · rcases z with z | z
    · exact .inl (L.dn S' k' z)
    · exact .inr (by rw [z.1, z.2])
/-- between two levels: R the doors' standings of level d -/
structure Lw (n : Nat) (A : Ar) (O : List Int) (d : Nat) (kv : KV) (R : List (List Int)) : Prop where
  lv : Lv n A O d kv [] fun _ _ => False
  row : ∀ T, T ∈ R ↔ Come n A O T ∧ dif O T = d
  rl : R.length ≤ 64
theorem Lw.start (S : Sd n O) : Lw n A O 0 [(O, 0)] [O] := ⟨Lv.start S, fun T => by
  rw [List.mem_singleton]
  exact ⟨fun z => by rw [z]; exact ⟨Come.refl S, dif_self O⟩, fun z => dif_zero S z.1.sd z.2⟩, by rw [List.length_singleton]; decide⟩
theorem Lw.next (W : Wb n A) (S : Sd n O) {R : List (List Int)} (L : Lw n A O d kv R) {kv' : KV} (M : Lv n A O d kv' mo dn) (h : ∀ T ∈ R, ∀ k ∈ doab n A T, dn T k) : Lw n A O (d + 1) kv' mo := by
  have mo_iff : ∀ T, Come n A O T ∧ dif O T = d + 1 → T ∈ mo := fun T ⟨C, e⟩ => by
    obtain ⟨S', k, C', e', hk, hc, rfl⟩ := C.pred W S e
    have kin : k ∈ doab n A S' := by
      unfold doab
      rw [List.mem_filter, mem_rng, decide_eq_true_eq]
      exact ⟨hk, hc⟩
    have m := M.dn S' k (h S' ((L.row S').mpr ⟨C', e'⟩) k kin)
    rcases M.key _ m with z | z
    · omega
    · exact z
  refine ⟨⟨M.nd, M.val, fun T C hT => ?_, fun T h => absurd h (by simp), fun T hT => ?_, .nil, fun _ _ z => z.elim⟩, fun T => ⟨fun hT => ⟨M.come (M.mor T hT).1, (M.mor T hT).2⟩, mo_iff T⟩, (M.len W.n6).2⟩
  · by_cases c : dif O T = d + 1
    · exact (M.mor T (mo_iff T ⟨C, c⟩)).1
    · exact M.all T C (by omega)
  · refine .inl ?_
    rcases M.key T hT with z | z
    · omega
    · rw [(M.mor T z).2]
      exact Nat.le_refl _
theorem Lw.le (S : Sd n O) {R : List (List Int)} (L : Lw n A O d kv R) (h : R ≠ []) : d ≤ n := by
  obtain ⟨T, hT⟩ := List.exists_mem_of_ne_nil _ h
  have z := (L.row T).mp hT
  have := dif_le S z.1.sd
  omega
/-- the search's end -/
def All (n : Nat) (A : Ar) (O : List Int) (kv : KV) : Prop := (kv.map Prod.fst).Perm (comeL n A O) ∧ ∀ p ∈ kv, p.2 = dif O p.1
theorem Lw.fin (W : Wb n A) (S : Sd n O) (L : Lw n A O d kv []) : All n A O kv := by
  refine ⟨(List.perm_ext_iff_of_nodup L.lv.nd comeL_nodup).mpr fun T => ?_, fun p hp => (L.lv.val p hp).2⟩
  rw [mem_comeL]
  refine ⟨L.lv.come, fun C => ?_⟩
  have none_at : ∀ T, ¬ (Come n A O T ∧ dif O T = d) := fun T z => absurd ((L.row T).mpr z) (by simp)
  have none_over : ∀ m T, Come n A O T → dif O T = d + m → False := by
    intro m
    induction m with
    | zero => exact fun T C e => none_at T ⟨C, e⟩
    | succ m ih =>
      intro T C e
      obtain ⟨S', k, C', e', _⟩ := C.pred W S e
      exact ih S' C' e'
  refine L.lv.all T C ?_
  by_cases c : dif O T ≤ d
  · exact c
  · exact (none_over (dif O T - d) T C (by omega)).elim
end
end LD

/-! sorted(xs), xs a list of tuples of whole numbers of any lengths, however many: some arrangement of them. -/
namespace LDW
open PySem PySem.Spec PyProof.Rows L2 SrtO
/-- v stands for the tuple of ints ns -/
def TupN (h : Heap) (v : Value) (ns : List Int) : Prop := ∃ a items, v = .ref a ∧ IsTup h a items ∧ IntsAre items.toList ns
theorem TupN.keeps {h h' : Heap} {v : Value} {ns : List Int} (x : TupN h v ns) (k : ∀ b o, h.get? b = some o → o.cls = .type "tuple" → h'.get? b = some o) : TupN h' v ns := by
  obtain ⟨a, items, rfl, ⟨o, ho, hc, n, hd⟩, hi⟩ := x
  exact ⟨a, items, rfl, ⟨o, k a o ho hc, hc, n, hd⟩, hi⟩
theorem lexLt_asym : ∀ (x y : List Int), HT.lexLt x y = true → HT.lexLt y x = false
  | [], [], _ => rfl
  | [], _ :: _, _ => rfl
  | _ :: _, [], h => Bool.noConfusion h
  | a :: x, b :: y, h => by
    rw [HT.lexLt_cons] at h ⊢
    by_cases e : a = b
    · rw [if_pos e] at h
      rw [if_pos e.symm]
      exact lexLt_asym x y h
    · rw [if_neg e] at h
      rw [if_neg fun z => e z.symm]
      have := of_decide_eq_true h
      exact decide_eq_false (by omega)
theorem lexLt_nil (x : List Int) : HT.lexLt x [] = false := by
  cases x <;> rfl
theorem lexLt_tr : ∀ (x y z : List Int), HT.lexLt y x = false → HT.lexLt z y = false → HT.lexLt z x = false
  | [], _, z, _, _ => lexLt_nil z
  | _ :: _, [], _, h, _ => Bool.noConfusion h
  | _ :: _, _ :: _, [], _, h => Bool.noConfusion h
  | a :: x, b :: y, c :: z, h1, h2 => by
    rw [HT.lexLt_cons] at h1 h2 ⊢
    by_cases e1 : b = a
    · subst e1
      rw [if_pos rfl] at h1
      by_cases e2 : c = b
      · rw [if_pos e2] at h2 ⊢
        exact lexLt_tr x y z h1 h2
      · rw [if_neg e2] at h2 ⊢
        exact h2
    · rw [if_neg e1] at h1
      have l1 := of_decide_eq_false h1
      by_cases e2 : c = b
      · subst e2
        rw [if_neg e1]
        exact h1
      · rw [if_neg e2] at h2
        have l2 := of_decide_eq_false h2
        rw [if_neg (by omega)]
        exact decide_eq_false (by omega)
theorem lex_swo (k : Value → List Int) : Swo fun v u => HT.lexLt (k v) (k u) :=
  ⟨fun x y h => lexLt_asym (k x) (k y) h, fun x y z h1 h2 => lexLt_tr (k x) (k y) (k z) h1 h2⟩
section
variable {prog : Program} {w : World} {A : Around} {E : Value → Shared → Prop} {s : Shared}
/-- x.__lt__(y) of two tuples of ints, as the sort asks it of one type -/
theorem oneLt_tup {b : Bool} {x y : Value} {ns ms : List Int} {Q : Bool → Shared → Prop} (hu : A.units < cLine) (hx : TupN s.heap x ns) (hy : TupN s.heap y ms) (h : Q (HT.lexLt ns ms) s) : wpAny (model prog w) A (oneLt' b x y) Q E s := by
  obtain ⟨a, items, rfl, ta, ia⟩ := hx
  obtain ⟨c, items2, rfl, tc, ic⟩ := hy
  cases b with
  | false => exact PySem.W.kat_one _ _ (HT.lt_tupInts ta tc ia ic hu (by exact h))
  | true =>
    rw [oneLt'_eq]
    simp only [if_true]
    obtain ⟨⟨c1, dd, da, sl⟩, ho, hc, n, hd⟩ := ta
    obtain ⟨⟨c2, dd2, da2, sl2⟩, ho2, hc2, n2, hd2⟩ := tc
    simp only at hc hd hc2 hd2
    subst hc hd hc2 hd2
    refine wpAny_bind (wpAny_cRoomFor hu ?_)
    refine wpAny_bind (wpAny_callSpecialIfBound?_slot (T := "tuple") ⟨_, ho, rfl⟩ PySem.F.slot_tuple_lt ?_)
    refine call_meets PySem.F.slot_tuple_lt ⟨_, ho, rfl⟩ PySem.F.entry_tuple_lt (PySem.F.args_tuple_lt_2 _ _) (HT.tuple_lt_ints a c items items2 n n2 dd dd2 sl sl2 ns ms ia ic) ⟨ho, ho2, ?_⟩
    exact wpAny_truthy_bool h
/-- the items of two tuples, one by one -/
theorem katlex {Q : Bool → Shared → Prop} : ∀ (us ws : List Value) (ns ms : List Int) (i : Nat) (fin : Bool), IntsAre us ns → IntsAre ws ms → fin = decide (ns.length < ms.length) → Q (HT.lexLt ns ms) s → PySem.W.KatLex prog w A true fin Q (us.zip ws) i s
  | _, _, _, _, i, fin, .nil, .nil, e, h => PySem.W.kat_nil (by rw [e]; exact h)
  | _, _, _, _, i, fin, .nil, .cons _ _ _, e, h => PySem.W.kat_nil (by rw [e]; exact h)
  | _, _, _, _, i, fin, .cons _ _ _, .nil, e, h => PySem.W.kat_nil (by rw [e]; exact h)
  | _, _, _, _, i, fin, .cons x t (vs := us) (ns := ns) r1, .cons y u (vs := ws) (ns := ms) r2, e, h => by
    rw [HT.lexLt_cons] at h
    refine PySem.W.kat_cons (SeqAt.EqAt.int_int x t y u prog w _ _ ?_)
    refine PySem.W.kat_go (fun e1 => ?_) (fun e1 => ?_)
    · have ex : x = y := by simpa using e1
      rw [if_pos ex] at h
      refine PySem.W.kat_yes (katlex _ _ ns ms (i + 1) fin r1 r2 ?_ h)
      rw [e]
      simp only [List.length_cons, Nat.add_lt_add_iff_right]
    · have ex : ¬ x = y := by simpa using e1
      rw [if_neg ex] at h
      refine PySem.W.kat_no ?_
      cases (true && i == 0) with
      | true => exact oneLt_int h
      | false => exact PySem.W.kat_one _ _ (PyProof.Rows.lt_int h)
/-- the first item of a tuple, where it has one -/
def hd0 (h : Heap) : Value → Option Value
  | .ref a => (match h.get? a with
    | some o => (match o.data with
      | .seq xs _ => xs.toList.head?
      | _ => none)
    | none => none)
  | _ => none
theorem hd0_of {h : Heap} {a : Addr} {items : Array Value} (x : IsTup h a items) : hd0 h (.ref a) = items.toList.head? := by
  obtain ⟨o, ho, _, n, hd⟩ := x
  unfold hd0
  simp only [ho, hd]
theorem hd0_int {h : Heap} {v : Value} {ns : List Int} (x : TupN h v ns) : hd0 h v = none ∨ ∃ i t, hd0 h v = some (.int i t) := by
  obtain ⟨a, items, rfl, t, i⟩ := x
  rw [hd0_of t]
  generalize items.toList = l at i
  cases i with
  | nil => exact .inl rfl
  | cons n t r => exact .inr ⟨n, t, rfl⟩
theorem tup_looks {M : Model} {v : Value} {ns : List Int} (x : TupN s.heap v ns) : PySem.W.Looks M s.heap (typeOf v) (.type "tuple") := by
  obtain ⟨a, items, rfl, ⟨o, ho, hc, n, hd⟩, i⟩ := x
  have q : PySem.W.Looks M s.heap (typeOf (.ref a)) o.cls := (PySem.W.Looks.ld ho).andThen .now
  rw [hc] at q
  exact q
theorem firsts_tup : ∀ (vs : List Value) {Q : List (Option Value) → Shared → Prop}, (∀ v ∈ vs, ∃ ns, TupN s.heap v ns) → Q (vs.map (hd0 s.heap)) s → wpAny (model prog w) A (vs.mapM firstOfTuple') Q E s
  | [], _, _, h => by
    rw [List.mapM_nil]
    exact wpAny_pure h
  | v :: vs, Q, hv, h => by
    rw [List.mapM_cons]
    obtain ⟨ns, x⟩ := hv v List.mem_cons_self
    refine wpAny_bind ?_
    rw [PySem.W.kas_first_eq]
    refine wpAny_bind ((tup_looks x).here ?_)
    rw [if_neg (by first | decide | simp)]
    obtain ⟨a, items, rfl, t, i⟩ := x
    have q := hd0_of t
    obtain ⟨o, ho, hc, n, hd⟩ := t
    refine wpAny_bind (listItems_at ho hd (wpAny_pure ?_))
    have e : items[0]? = hd0 s.heap (.ref a) := by
      rw [q]
      cases items with
      | mk l => cases l <;> rfl
    rw [e]
    exact wpAny_bind (firsts_tup vs (Q := fun bs s' => wpAny (model prog w) A (pure (hd0 s.heap (.ref a) :: bs)) Q E s') (fun v hv' => hv v (List.mem_cons_of_mem _ hv')) (wpAny_pure h))
theorem katTups_of : ∀ (vs : List Value), (∀ v ∈ vs, ∃ ns, TupN s.heap v ns) → (∀ v ∈ vs, (hd0 s.heap v).isSome = true) → ∃ fs : List Value, PySem.W.KatTups s.heap vs fs ∧ fs.length = vs.length ∧ ∀ f ∈ fs, ∃ i t, f = Value.int i t
  | [], _, _ => ⟨[], PySem.W.KatTups.nil, rfl, fun f hf => by simp at hf⟩
  | v :: vs, hv, hs => by
    obtain ⟨fs, k, l, q⟩ := katTups_of vs (fun v h => hv v (List.mem_cons_of_mem _ h)) fun v h => hs v (List.mem_cons_of_mem _ h)
    obtain ⟨ns, x⟩ := hv v List.mem_cons_self
    have z := hs v List.mem_cons_self
    obtain ⟨a, items, rfl, ⟨o, ho, hc, n, hd⟩, i⟩ := x
    rw [hd0_of ⟨o, ho, hc, n, hd⟩] at z
    cases items with
    | mk l0 =>
      cases i with
      | nil => exact absurd z (by simp)
      | cons m tk r =>
        exact ⟨Value.int m tk :: fs, PySem.W.KatTups.cons ho hc hd rfl k, by simp [l], fun f hf => (List.mem_cons.mp hf).elim (fun e => ⟨m, tk, e⟩) (q f)⟩
/-- which way of comparing the sort takes, and that it compares as the order of tuples -/
theorem tups_sortable {a : Addr} {vs : List Value} {k : Value → List Int} (h2 : 2 ≤ vs.length) (hu : A.units < cLine) (hp : ∀ v ∈ vs, TupN s.heap v (k v)) (ha : ∀ o, s.heap.get? a = some o → o.cls ≠ .type "tuple") : SortableO prog w A s a vs fun v u => HT.lexLt (k v) (k u) := by
  intro h' keep
  have hp' : ∀ v ∈ vs, TupN h' v (k v) := fun v hm => (hp v hm).keeps fun b o e c => keep b o (fun z => by subst z; exact ha o e c) e
  have cmp1 : ∀ b : Bool, ∀ p q : Keyed, p.1 ∈ vs → q.1 ∈ vs → wpAny (model prog w) A (oneLt' b p.1 q.1) (fun r s' => s' = { s with heap := h' } ∧ r = HT.lexLt (k p.1) (k q.1)) (fun _ _ => False) { s with heap := h' } := fun b p q h1 h2 =>
    oneLt_tup hu (hp' _ h1) (hp' _ h2) ⟨rfl, rfl⟩
  by_cases hall : ∀ v ∈ vs, (hd0 h' v).isSome = true
  · refine ⟨tuples' true, fun Q E hq => ?_, fun p q h1 h2 => ?_⟩
    · obtain ⟨fs, t, hl, hi⟩ := katTups_of (s := { s with heap := h' }) vs (fun v hv => ⟨_, hp' v hv⟩) hall
      refine PySem.W.kat_kind (T := .type "int") t (by omega) (fun f hm => ?_) (by rfl) ?_
      · obtain ⟨x, t, rfl⟩ := hi f hm
        exact PySem.W.Looks.now
      · have e : (Value.type "int" != Value.type "tuple") = true := by first | decide +kernel | rfl | decide
        rw [e]
        exact hq
    · show wpAny (model prog w) A (keyLt' (tuples' true) p.1 q.1) (fun r s' => s' = { s with heap := h' } ∧ r = HT.lexLt (k p.1) (k q.1)) (fun _ _ => False) { s with heap := h' }
      have x1 := hp' _ h1
      have x2 := hp' _ h2
      generalize k p.1 = ns at x1 ⊢
      generalize k q.1 = ms at x2 ⊢
      obtain ⟨c, items, e1, ⟨o, ho, hc, n, hd⟩, i1⟩ := x1
      obtain ⟨d, items2, e2, ⟨o2, ho2, hc2, n2, hd2⟩, i2⟩ := x2
      rw [e1, e2]
      have z1 : items.size = ns.length := by simpa using IntsAre.length i1
      have z2 : items2.size = ms.length := by simpa using IntsAre.length i2
      exact PySem.W.kat_lt ho hd ho2 hd2 (katlex _ _ ns ms 0 _ i1 i2 (by rw [z1, z2]) ⟨rfl, rfl⟩)
  · have hno : ((vs.map (hd0 h')).toArray.all fun x => x.isSome) = false := by
      rw [Bool.eq_false_iff]
      intro z
      refine hall fun v hv => ?_
      simp only [List.all_toArray, List.all_eq_true, List.mem_map] at z
      exact z _ ⟨v, hv, rfl⟩
    by_cases hf : (((vs.map (hd0 h')).toArray[0]?).bind id).isSome = true
    · refine ⟨general', fun Q E hq => ?_, fun p q h1 h2 => cmp1 false p q h1 h2⟩
      rw [keyKind'_eq, List.mapM_toArray, map_eq_pure_bind]
      refine wpAny_bind (wpAny_bind (firsts_tup (s := { s with heap := h' }) vs (fun v hv => ⟨_, hp' v hv⟩) (wpAny_pure ?_)))
      rw [if_neg (by rw [hno]; exact Bool.false_ne_true), if_pos hf]
      exact wpAny_pure hq
    · refine ⟨oneType', fun Q E hq => ?_, fun p q h1 h2 => cmp1 true p q h1 h2⟩
      rw [keyKind'_eq, List.mapM_toArray, map_eq_pure_bind]
      refine wpAny_bind (wpAny_bind (firsts_tup (s := { s with heap := h' }) vs (fun v hv => ⟨_, hp' v hv⟩) (wpAny_pure ?_)))
      rw [if_neg (by rw [hno]; exact Bool.false_ne_true), if_neg hf]
      rw [oneTypeOnly'_eq, List.mapM_toArray, map_eq_pure_bind]
      refine wpAny_bind (wpAny_bind (wpAny_bind (PySem.W.kas_mapM (r := Value.type "tuple") _ (fun v hv Q' hq => (tup_looks (s := { s with heap := h' }) (hp' v hv)).here hq) (wpAny_pure ?_))))
      obtain ⟨v1, vr, rfl⟩ : ∃ v1 vr, vs = v1 :: vr := by
        match vs, h2 with
        | v1 :: vr, _ => exact ⟨v1, vr, rfl⟩
      have hz : ((List.map (fun _ => Value.type "tuple") (v1 :: vr)).toArray.all fun x => x == Value.type "tuple") = true := by
        simp only [List.all_toArray, List.all_map, List.all_eq_true]
        intro _ _
        rfl
      have h0 : (List.map (fun _ => Value.type "tuple") (v1 :: vr)).toArray[0]? = some (Value.type "tuple") := by simp
      rw [h0]
      simp only [hz, if_true]
      exact wpAny_pure (wpAny_pure hq)
end
section
variable {X : Cx} {pins : List (Addr × Obj)} {σ : L2.St} {H : Hp} {s : Shared}
theorem tupN_raw (I : Inv X pins σ H s) {t : Addr} {ns : List Int} (h : SqT X.K H t (ns.map V.int)) : TupN s.heap (.ref t) ns := by
  obtain ⟨its, r, ht, _⟩ := I.tuple h
  exact ⟨t, _, rfl, ht, by simpa using r.ints⟩
/-- x is a tuple of these ints -/
def TupV (K : PySem.W.Frag) (H : Hp) (x : V) (ns : List Int) : Prop := ∃ t, x = .ref t ∧ SqT K H t (ns.map V.int)
/-- sorted(xs), xs a list of tuples of ints: a new list of the same -/
def rSortTs (K : PySem.W.Frag) : List V → Hp → VK → Prop := fun vs H Q => ∃ (a : Addr) (xs : List V), vs = [V.ref a] ∧ SqL K H a xs ∧ (∀ x ∈ xs, ∃ ns, TupV K H x ns) ∧
  ∀ (ys : List V) (p : Addr), ys.Perm xs → H p = none → Q (.ref p) (upd H p (.lst ys))
def bk : Value → V
  | .ref a => .ref a
  | _ => .non
theorem bk_of {K : PySem.W.Frag} : ∀ {xs : List V} {us : List Value}, Vals xs us → (∀ x ∈ xs, ∃ ns, TupV K H x ns) → xs = us.map bk ∧ ∀ u ∈ us, ∃ a, u = Value.ref a
  | _, _, .nil, _ => ⟨rfl, fun u hu => absurd hu (by simp)⟩
  | x :: xs, u :: us, .cons r t, h => by
    obtain ⟨e1, e2⟩ := bk_of t fun x hx => h x (List.mem_cons_of_mem _ hx)
    obtain ⟨ns, a, rfl, _⟩ := h x List.mem_cons_self
    cases r
    exact ⟨by rw [List.map_cons, ← e1]; rfl, fun u hu => (List.mem_cons.mp hu).elim (fun e => ⟨a, e⟩) (e2 u)⟩
theorem bk_vals : ∀ {us : List Value}, (∀ u ∈ us, ∃ a, u = Value.ref a) → Vals (us.map bk) us
  | [], _ => .nil
  | u :: us, h => by
    obtain ⟨a, e⟩ := h u List.mem_cons_self
    subst e
    exact .cons rfl (bk_vals fun u hu => h u (List.mem_cons_of_mem _ hu))
theorem cr_sortTs (hu : X.A.units + 10 < cLine) : CallR X (.builtin "sorted") (rSortTs X.K) := by
  intro pins s σ H vs us Q I r h
  obtain ⟨a, xs, rfl, hs, hx, q⟩ := h
  obtain ⟨its, rv, hl, hz⟩ := I.list hs
  rw [Vals.ref1 r]
  obtain ⟨ex, hr⟩ := bk_of rv hx
  have hex : ∀ v ∈ its, ∃ ns, TupN s.heap v ns := fun v hv => by
    obtain ⟨b, rfl⟩ := hr v hv
    obtain ⟨ns, t, e, ht⟩ := hx (.ref b) (by rw [ex]; exact List.mem_map.mpr ⟨_, hv, rfl⟩)
    cases e
    exact ⟨ns, tupN_raw I ht⟩
  have hk : ∃ k : Value → List Int, ∀ v ∈ its, TupN s.heap v (k v) := by
    classical
    exact ⟨fun v => if c : ∃ ns, TupN s.heap v ns then Classical.choose c else [], fun v hv => by
      have e : (if c : ∃ ns, TupN s.heap v ns then Classical.choose c else []) = Classical.choose (hex v hv) := dif_pos (hex v hv)
      show TupN s.heap v (if c : ∃ ns, TupN s.heap v ns then Classical.choose c else [])
      rw [e]
      exact Classical.choose_spec (hex v hv)⟩
  obtain ⟨k, hk⟩ := hk
  refine SrtO.sorted_ord (lex_swo k) hl.isList (by rw [← rv.length]; exact hz) (fun h2 h₁ a' ha kk => tups_sortable (s := { s with heap := h₁ }) h2 ?_ (fun v hm => (hk v hm).keeps fun b o e _ => (kk b o e).2) fun o e => ?_) fun out h1 h2 => ?_
  · show X.A.units + 1 + 1 < cLine
    omega
  · have e' := e.symm.trans ha
    cases e'
    intro c
    exact absurd (Value.type.inj c) (by decide)
  · have pm : out.Perm its := h2.perm
    obtain ⟨ep, he'⟩ := PyProof.Rows.sortedAll_at s.heap its out.toArray
    have hlen : (out.map bk).length ≤ sizeLine := by
      rw [List.length_map, pm.length_eq, ← rv.length]
      exact hz
    refine ⟨.ref _, upd H (s.heap.objs.size + 1) (.lst (out.map bk)), I.laid (t' := s.toks) (fun _ _ => PyProof.Rows.sortedAll_old) (Nat.le_succ _) ⟨hlen, out, ep, bk_vals fun u hu => hr u (pm.mem_iff.mp hu), he'⟩, rfl, q _ _ ?_ (I.hok.fresh (Nat.le_succ _))⟩
    rw [ex]
    exact pm.map bk
end
end LDW

/-! set(xs), xs a list of whole numbers: the set that sorted walks. -/
namespace LDW
open PySem PySem.Spec PyProof.Rows L2
section
variable {P : Program} {w : World} {A : Around} {E : Value → Shared → Prop} {s : Shared}
/-- the empty set as set() lays it -/
abbrev eSet (w : World) : Obj := { cls := .type "set", dict := none, data := .set #[] 0 (.fresh 0 0 (!w.params.followText "set-order")) }
theorem set_of_list {l : Addr} {items : Array Value} (ns : List Int) {Q : Value → Shared → Prop} (hh : A.handled = none) (hl : s.heap.IsList l items) (hit : IntsAre items.toList ns) (hb : ns.length + 1 < scanBound)
    (h : ∀ (h' : Heap) (tk c : Nat), SetR w h' s.heap.objs.size (fun j => decide (j ∈ ns)) c → c ≤ ns.length → (∀ b o, s.heap.get? b = some o → h'.get? b = some o) → Q (.ref s.heap.objs.size) { s with heap := h', toks := tk }) :
    wpAny (model P w) A (call (.type "set") [.ref l]) Q E s := by
  have hisz : items.size = ns.length := by simpa using IntsAre.length hit
  have hl' := hl
  obtain ⟨c0, tl0, hmro⟩ := F.called_set.mro
  have m1 := F.called_set.made
  have m2 := F.called_set.sub
  refine wpAny_call (codeAny_of_tree ?_)
  show wpAny _ _ (callAny (.type "set") _) _ _ _
  refine wpAny_pure ⟨Code.quiet_builtin _ (by decide +kernel), codeAny_builtin F.entry_type_call ?_⟩
  rw [Around.under_plain (weight_type_call_type "set" [.ref l] []) rfl]
  have m3 := F.called_set.notType
  have m4 := F.called_set.canCreate
  have m5 := F.typeCall_set_1 (.ref l)
  repeat (any_goals (first | assumption | wp_step))
  refine codeAny_mono (code_set_led1 (.ref l) (E := E) (Q₁ := fun obj z => obj = .ref s.heap.objs.size ∧ z = { s with heap := s.heap.push (eSet w) }) ⟨rfl, rfl⟩) fun r z hr => ?_
  match r, hr with
  | .error e, hr => exact hr
  | .ok .next, hr => exact hr.elim
  | .ok .brk, hr => exact hr.elim
  | .ok .cont, hr => exact hr.elim
  | .ok (.ret obj), hr =>
    obtain ⟨rfl, rfl⟩ := hr
    have hS : (s.heap.push (eSet w)).get? s.heap.objs.size = some (eSet w) := Heap.get?_push_size _ rfl
    have hT : Shared.TypeIs { s with heap := s.heap.push (eSet w) } (.ref s.heap.objs.size) "set" := ⟨_, hS, rfl⟩
    have m6 := F.called_set.init.lookup
    have m7 := F.called_set.init.bind (.ref s.heap.objs.size)
    repeat (any_goals (first | assumption | wp_step))
    refine codeAny_mono (codeAny_call_builtin (R := wants (fun r z => r = .none ∧ ∃ h' tk c, z = { s with heap := h', toks := tk } ∧ SetR w h' s.heap.objs.size (fun j => decide (j ∈ ns)) c ∧ c ≤ ns.length ∧
        (∀ b o, s.heap.get? b = some o → h'.get? b = some o)) E) F.called_set.init.plain F.entry_set_init (check_set_init_1 hT ?_)) fun r2 z2 hr2 => ?_
    · obtain ⟨ol, hol, hcl, nl, hdl⟩ := hl'
      obtain ⟨ocls, odict, odata, oslots⟩ := ol
      simp only at hcl hdl
      subst hcl
      subst hdl
      have hol' : (s.heap.push (eSet w)).get? l = some { cls := .type "list", dict := odict, data := .seq items nl, slots := oslots } := Heap.get?_push_of_some _ hol
      have m8 := F.sub_list_set
      have m9 := F.sub_list_frozenset
      have ne0 : (Value.type "list" == Value.type "dict") = false := by decide
      have hl1 : (s.heap.push (eSet w)).IsList l items := ⟨_, hol', rfl, nl, rfl⟩
      unfold Builtin.«set.__init__» noKeywords Builtin.Frozenset.updateFrom
      generalize hPI : pyIter = PI
      wp_walk
      subst hPI
      refine wpAny_pyIter_list hl1 ?_
      refine wpAny_bind (wpAny_runValue ?_)
      have lt0 : l < s.heap.objs.size := Heap.lt_size hol
      have sz1 : (s.heap.push (eSet w)).objs.size = s.heap.objs.size + 1 := Heap.size_push ..
      have neI : l ≠ (s.heap.push (eSet w)).objs.size := by
        rw [sz1]
        exact Nat.ne_of_lt (Nat.lt_succ_of_lt lt0)
      have out : s.heap.objs.size ∉ [(s.heap.push (eSet w)).objs.size, l] := by
        rw [sz1]
        simp only [List.mem_cons, List.not_mem_nil, or_false, not_or]
        exact ⟨Nat.ne_of_lt (Nat.lt_succ_self _), Nat.ne_of_gt lt0⟩
      have hval : ∀ (i : Nat) (v : Value), items[i]? = some v → ∃ k t, ns[i]? = some k ∧ v = .int k t := fun i v hv => by
        have hi : i < ns.length := by
          rw [← hisz]
          exact (Array.getElem?_eq_some_iff.mp hv).1
        obtain ⟨t, e⟩ := PyProof.Rows.IntsAre.int_at hit i v (by rw [Array.getElem?_toList]; exact hv)
        refine ⟨ns[i], t, List.getElem?_eq_getElem hi, ?_⟩
        rw [e, List.getD_eq_getElem?_getD, List.getElem?_eq_getElem hi]
        rfl
      have hh3 : A.in1.in1.in1.handled = none := by simp [hh]
      refine set_update_ints ((Walks.list hh3 _ l neI items).toS) s.heap.objs.size
        out ns hisz hb hval (items.size - 0) 0 _ (by omega) (Nat.zero_le _)
        ⟨⟨_, Heap.get?_push_size _ rfl, rfl, rfl⟩, (hl1.push _)⟩ ?hS0 ?hR
      case hS0 => exact ⟨0, Nat.le_refl 0, setR_new_at (Heap.get?_push_of_some _ hS)⟩
      case hR =>
        intro z c' hm hc' hS'
        obtain ⟨h', g2, d', tk', os'⟩ := z
        obtain rfl : g2 = s.gens := hm.gens
        obtain rfl : d' = s.drawn := hm.drawn
        obtain rfl : os' = s.os := hm.os
        show wpAny _ _ _ _ _ _
        refine wpAny_pure ?_
        show wpAny _ _ (ret Value.none) _ _ _
        rw [hisz] at hc'
        refine wpAny_pure ⟨rfl, h', tk', c', rfl, hS', hc', fun b o e => ?_⟩
        have b0 : b < s.heap.objs.size := Heap.lt_size e
        refine hm.heap b o ?_ (Heap.get?_push_of_some _ (Heap.get?_push_of_some _ e))
        rw [sz1]
        simp only [List.mem_cons, List.not_mem_nil, or_false, not_or]
        exact ⟨Nat.ne_of_lt b0, Nat.ne_of_lt (Nat.lt_succ_of_lt b0)⟩
    · match r2, hr2 with
      | .error e, hr2 => exact hr2
      | .ok .next, hr2 => exact hr2.elim
      | .ok .brk, hr2 => exact hr2.elim
      | .ok .cont, hr2 => exact hr2.elim
      | .ok (.ret r), hr2 =>
        obtain ⟨rfl, h', tk, c', rfl, hS', hc', hk'⟩ := hr2
        repeat (any_goals (first | assumption | wp_step))
        exact h _ _ _ hS' hc' hk'
end
section
variable {X : Cx}
/-- set(xs), whole numbers: a new set of them -/
def rSetI (K : PySem.W.Frag) (w : World) : List V → Hp → VK → Prop := fun xs H Q => ∃ (l : Addr) (ns : List Int), xs = [V.ref l] ∧ SqL K H l (ns.map V.int) ∧ ns.length < 1000 ∧
  ∀ (a : Addr) (c : Nat), H a = none → c ≤ ns.length → Q (.ref a) (upd H a (SetO w a (fun j => decide (j ∈ ns)) c))
theorem cr_setI (hc : X.calm = true) : CallR X (.type "set") (rSetI X.K X.w) := by
  intro pins s σ H xs us Q I r h
  obtain ⟨l, ns, rfl, hl, hf, q⟩ := h
  rw [Vals.ref1 r]
  obtain ⟨its, rv, pl, hz⟩ := I.list hl
  refine set_of_list (P := X.prog) ns (I.ok.hd hc) pl.isList (by simpa using rv.ints) (by unfold scanBound; omega) fun h' tk c R hcn k => ?_
  exact ⟨.ref s.heap.objs.size, _, I.laid (t' := tk) k (Nat.le_refl _) (setO_new R), rfl, q _ c (I.hok.fresh (Nat.le_refl _)) hcn⟩
end
end LDW

/-! Rules that the layer lacks: a tuple in a tuple of tuples; {t: v}, t a tuple; d.keys() of a dict with tuple keys; enumerate(a tuple); raise X(). -/
namespace LDW
open PySem PySem.Spec PyProof.Rows L2
section
variable {X : Cx}
/-! ### x in t, t a tuple of data -/
def rInU (K : PySem.W.Frag) : R2 := fun x y H Q => ∃ d ds, Dp K H x d ∧ Dp K H y (.tuple ds) ∧ SeqAt.shaped d = true ∧ SeqAt.shaped (.tuple ds) = true ∧ Q (.bl (ds.any fun z => PyData.eqv z d)) H
theorem op_inU (hu : X.A.units + 65 < cLine) : OpR X (compareOp .In) (rInU X.K) := by
  intro pins s σ H x y v u Q I rx ry h
  obtain ⟨d, ds, hd, he, sd, se, q⟩ := h
  obtain ⟨as, r1⟩ := Dp.reads I d x v hd rx
  obtain ⟨bs, r2⟩ := Dp.reads I (.tuple ds) y u he ry
  refine SeqAt.in_tuple_reads r2 r1 (SeqAt.canLay_of_shaped se) (SeqAt.canLay_of_shaped sd) (room_in_shaped sd hu) ⟨.bl _, H, I, rfl, q⟩
/-! ### raise X() -/
theorem pmk_own0 {C : Addr} {bmB : List Value} {B newId initId : String} {x : Str} {p pos : Pos} (F : ExcBaseFacts B newId initId bmB) (q : PySem.W.excIn X.K C bmB newId = true) (gC : X.mg x = some (.ref C))
    (kC : PySem.W.keepIn X.K (.ref C) = true) (r : Raises X (.ref C)) (hg : Gl X x) (hdb : (x == ("__debug__" : Str)) = false := by decide) : PMk X (.Call (.Name x p) [] [] pos) (fun _ H Q => Q (.ref C) none H) := by
  intro pins s σ H Q I h
  refine wpAny_Call_Name_kw (ld_glob I hg gC ?_ hdb)
  refine PySem.W.callWith_K0 I.kIn kC ?_
  show wpAny _ _ (call (.ref C) []) _ _ _
  obtain ⟨bm, N, nm, qn, bs, hdct, sn, sub, ab, col, dd, k0, k1, k2, k3, k5, mN, hC, hN, hni, T⟩ := exc_obj I.kIn q
  exact wpAny_call_exc_subT F T hC hN hni (fun h' e hm => mk_of I hm r h (I.hok.gone hm.new)) (Nat.zero_le _)
/-! ### d.keys(), the keys tuples -/
def iKeysMT (td : TE) : TI := fun σ H R => td σ H fun x H1 => ∃ d o kvs, x = .ref d ∧ H1 d = some (.frz o (.dT kvs)) ∧ R (Itkt d o kvs) H1
theorem pi_keysMT {e tg : Expr} {td : TE} {apos cpos : Pos} (he : PE X e td) (hbase : attributeBase e "keys" X.env (eval e X.env) = eval e X.env := by rfl) (hline : (apos.endLine == cpos.line) = true := by rfl) : PI X tg (.Call (.Attribute e "keys" apos) [] [] cpos) (iKeysMT td) := by
  refine ⟨fun pins s σ H R I h => ?_⟩
  refine wpAny_Call_method (T := "dict") (id := "dict.keys") hbase rfl hline F.plainAttrs_dict F.slot_dict_keys F.type_dict_keys (thn (he.run pins s σ H _ I h) fun u s1 ⟨x, H1, I1, rx, d, o, kvs, ex, hd, q⟩ => ?_)
  subst ex
  obtain rfl : u = Value.ref d := rx
  obtain ⟨hs, hgd, hx, es, ep, hdt, hsz, ent⟩ := I1.frzT hd
  have raw : s1.heap.DictRaw d es ep := ⟨o, hgd, hx, hdt⟩
  have ty : s1.TypeIs (.ref d) "dict" := raw.typeIs
  refine ⟨ty, fun a e => ?_, ?_⟩
  · cases e
    exact ⟨o, hgd, hx.2.1⟩
  have I2 : Inv X pins σ H1 { s1 with heap := s1.heap.push { cls := .type "dict_keys", data := .fields #[.ref d] } } := I1.kept (t' := s1.toks) fun b ob q => Heap.get?_push_of_some _ q
  have fin : wpAny (model X.prog X.w) X.A (pyIter (.ref s1.heap.objs.size)) (PIE X pins σ tg R) X.xe { s1 with heap := s1.heap.push { cls := .type "dict_keys", data := .fields #[.ref d] } } := by
    refine wpAny_pyIter_keys_raw (d := d) (es := es) (ep := ep) ⟨_, Heap.get?_push_size _ rfl, rfl, rfl⟩ (raw.at fun z q => Heap.get?_push_of_some _ q) (pi_one (tk := s1.toks) I2 _ (turn_keysT _ hdt) ⟨_, Heap.get?_push_size _ rfl, rfl, ?_⟩ q)
    rw [hsz] <;> rfl
  show wpAny _ _ (callWith cpos (.builtin "dict.keys") [.ref d] [] []) _ X.xe s1
  exact method_meetsIn F.slot_dict_keys F.entry_dict_keys rfl (PySem.evalArgs_none ⟨rfl, ty, F.args_dict_keys_1 _, _, meets_dict_keys_raw d hs, ⟨es, ep, raw⟩, fin⟩)
/-! ### {t: v} -/
def tDispT (tk tv : TE) : TE := fun σ H Q => ∀ p, H p = none → tPairs [(tk, tv)] σ (upd H p (.dT [])) fun ps H2 => H2 p = some (.dT []) ∧ ∃ (b : Addr) (k : List Key) (y : V), ps = [(.ref b, y)] ∧ H2 b = some (.tup (k.map kV)) ∧ Q (.ref p) (upd H2 p (.dT [(k, y)]))
theorem pe_dispT {k v : Expr} {tk tv : TE} {pos : Pos} (hu : X.A.units < cLine) (hk : PE X k tk) (hv : PE X v tv) : PE X (.Dict [some k] [v] pos) (tDispT tk tv) := by
  refine ⟨fun pins s σ H Q I q => ?_⟩
  have hn := I.hok.fresh (Nat.le_refl s.heap.objs.size)
  have I1 := I.laid (a := s.heap.objs.size) (o := .dT []) (h' := s.heap.push { cls := .type "dict", data := .dict #[] }) (t' := s.toks) (fun _ _ q => Heap.get?_push_of_some _ q) (Nat.le_refl _) (dt_empty s.heap I.big)
  have hp : PPs X pos [some k] [v] [(tk, tv)] := pps_cons hk hv pps_nil
  rw [arm_eval_Dict, show (evalEachOpt [some k] X.env).zip ((evalEach [v] X.env).map fun v => do let x ← v; standAt pos; pure x) = (pairTrees [some k] [v] X.env pos).map fun p => (some p.1, p.2) from rfl,
    dictDisplay_pairs (pairTrees [some k] [v] X.env pos) (by intro z; cases z) (by show 1 < 17; decide)]
  refine wpAny_bind (wpAny_standAt (wpAny_bind (wpAny_subDictH (knd := tupleKind (mixKind X.prog X.w)) (Q := fun d s' => wpAny (model X.prog X.w) X.A (pure (Value.ref d)) (EP X pins σ Q) X.xe s') hu (by show 1 ≤ 15; decide)
    (thn (hp.run pins _ σ _ _ I1 (q _ hn)) fun ws s2 ⟨ps, H2, I2, rel, e, b, k', y, ep, eb, q2⟩ => ?_))))
  subst ep
  cases rel with
  | @cons p0 w0 l1 l2 r t =>
    cases t
    obtain ⟨w1, w2⟩ := w0
    obtain ⟨r1, r2⟩ := r
    obtain rfl : w1 = Value.ref b := r1
    obtain ⟨z, hd, xs, rel, dd⟩ := dt_of I2.hok e
    cases rel
    refine ⟨[(k', b, w2)], ⟨rfl, rfl, key_of I2.hok eb, trivial⟩, dd, fun h' tk dd' hs => wpAny_pure ⟨.ref s.heap.objs.size, _, ?_, rfl, q2⟩⟩
    have nb : b ≠ s.heap.objs.size := fun z => by
      rw [z, e] at eb
      cases eb
    obtain ⟨o, es, ep, ho, hc, hdt, he, _, hnd⟩ := dd'
    refine I2.write (x := s.heap.objs.size) (e := s.heap.objs.size) (by rw [e]; exact True.intro) (.inl rfl) (fun b' u hb q => (hs.2 b' hb).trans q) ⟨o, ho⟩ ?_
    exact ⟨by show 1 ≤ sizeLine; decide, hd, [(k', b, w2)], .cons ⟨rfl, by rw [upd_ne nb]; exact eb, r2⟩ .nil, o, es, ep, ho, hc, hdt, he, hnd⟩
/-! ### for i, x in enumerate(t), t a tuple -/
theorem meets_enum_newT (l : Addr) (items : Array Value) (n : Nat) (dct : Option Addr) (sl : Array (Option Value)) :
    Meets (Builtin.«enumerate.__new__» ⟨[.type "enumerate", .ref l], []⟩) (fun _ R s => s.heap.get? l = some { cls := .type "tuple", dict := dct, data := .seq items n, slots := sl } ∧
      R (.ok (.ret (.ref (s.heap.push { cls := .type "tuple_iterator", data := .fields #[.ref l, .int 0 0] }).objs.size)))
        { s with heap := (s.heap.push { cls := .type "tuple_iterator", data := .fields #[.ref l, .int 0 0] }).push { cls := .type "enumerate", data := .fields #[.none, .bool false, .ref s.heap.objs.size, rawInt 0, .none, .none] } }) :=
  .of_wp fun prog w A R s h => by
    obtain ⟨hp, g, d, tk, os⟩ := s
    obtain ⟨hl, h⟩ := h
    have sub0 := sub_enumerate
    have hT : Heap.IsTuple (Shared.heap ⟨hp, g, d, tk, os⟩) l items := ⟨_, hl, rfl, n, rfl⟩
    wp_walk using AutoSeq1.wpAny_loadPart' hl
    refine wpAny_stack_any fun st => wpAny_pure ?_
    split
    · rename_i c _ _ _ _ _
      cases (c == Value.type "enumerate")
      · wp_walk using AutoSeq1.wpAny_loadPart' hl, wpAny_pyIter_tuple hT
        exact ⟨_, rfl, h⟩
      · wp_walk using AutoSeq1.wpAny_loadPart' hl, wpAny_pyIter_tuple hT
        exact ⟨_, rfl, h⟩
    · wp_walk using AutoSeq1.wpAny_loadPart' hl, wpAny_pyIter_tuple hT
      exact ⟨_, rfl, h⟩
abbrev tIt (l : Addr) : Obj := { cls := .type "tuple_iterator", data := .fields #[.ref l, .int 0 0] }
abbrev enO (i : Addr) : Obj := { cls := .type "enumerate", data := .fields #[.none, .bool false, .ref i, rawInt 0, .none, .none] }
theorem call_enum_tup {prog : Program} {w : World} {A : Around} {E : Value → Shared → Prop} {s : Shared} {l : Addr} {items : Array Value} {Q : Value → Shared → Prop} (hL : s.heap.IsTuple l items)
    (h : ∀ h', IsEnum h' (s.heap.objs.size + 1) s.heap.objs.size 0 .none → h'.IsTupleIter s.heap.objs.size l 0 → (∀ b o, s.heap.get? b = some o → h'.get? b = some o) → Q (.ref (s.heap.objs.size + 1)) { s with heap := h' }) :
    wpAny (model prog w) A (call (.type "enumerate") [.ref l]) Q E s := by
  obtain ⟨⟨c, dct, dt, sl⟩, hl, hc, n, hd⟩ := hL
  simp only at hc hd
  subst hc hd
  refine callType_new F.called_enumerate (by decide) (F.typeCall_enumerate_1 _) (F.newCall_enumerate_1 _) (fun obj => F.args_object_init_2 obj _) F.entry_enumerate_new
    (meets_enum_newT l items n dct sl) ⟨hl, ?_⟩
  have hz : (s.heap.push (tIt l)).objs.size = s.heap.objs.size + 1 := Heap.size_push ..
  show _ ∧ _
  rw [hz]
  have he : IsEnum ((s.heap.push (tIt l)).push (enO s.heap.objs.size)) (s.heap.objs.size + 1) s.heap.objs.size 0 .none := by
    have q := Heap.get?_push_size (s.heap.push (tIt l)) (o := enO s.heap.objs.size) rfl
    rw [hz] at q
    exact q
  exact ⟨⟨_, he, rfl⟩, h _ he ⟨_, Heap.get?_push_of_some _ (Heap.get?_push_size _ rfl), rfl, rfl⟩ fun b o x => Heap.get?_push_of_some _ (Heap.get?_push_of_some _ x)⟩
/-- the tuple at a, its items counted from 0 in new pairs -/
def ItU (K : PySem.W.Frag) (a : Addr) (xs : List V) : It :=
  ⟨fun i H => SqT K H a xs ∧ i < xs.length, fun i H x H' => ∃ T y, x = .ref T ∧ H T = none ∧ H' = upd H T (.tup [.int (i : Nat), y]) ∧ xs[i]? = some y, fun i H => SqT K H a xs ∧ i = xs.length⟩
theorem turn_enumT {P : Program} {w : World} {K : PySem.W.Frag} {elts : List Expr} {kk : Nat} {tpos : Pos} (a e it : Addr) (xs : List V) (ae : a ≠ e) (ai : a ≠ it) :
    Turn P w K (.Tuple elts kk tpos) (ItU K a xs) [e, it] e (fun i h => (∃ old, IsEnum h e it ((i : Nat) : Int) old) ∧ h.IsTupleIter it a i ∧ e ≠ it) where
  mem := by simp
  obj := fun i h st b hb => by
    obtain ⟨⟨old, he⟩, ⟨o, ho, hc, hd⟩, _⟩ := st
    rcases (show b = e ∨ b = it by simpa using hb) with z | z
    · exact z ▸ ⟨_, he, fun v q => nomatch q⟩
    · exact z ▸ ⟨o, ho, fun v q => by rw [hd] at q; cases q⟩
  keep := fun i h h' st k => let ⟨⟨old, he⟩, hi, hne⟩ := st; ⟨⟨old, k e (by simp) _ he⟩, hi.at fun o q => k it (by simp) o q, hne⟩
  item := by
    intro X hP hw hK hc i pins s σ H E I hf st hg
    subst hP hw hK
    obtain ⟨⟨old, he⟩, hit, hne⟩ := st
    obtain ⟨hq, hlt⟩ := hg
    obtain ⟨its, rv, p, hz⟩ := I.tuple hq
    have hsz : its.toArray.size = xs.length := by rw [rv.length]; simp
    have hel : e < s.heap.objs.size := Heap.lt_size he
    have hil : it < s.heap.objs.size := by
      obtain ⟨_, q, _⟩ := hit
      exact Heap.lt_size q
    have D : Draws X.prog X.w X.A.in1 it [it, a] its.toArray.size (fun i v => its.toArray[i]? = some v) (fun i h => h.IsTupleIter it a i ∧ h.IsTuple a its.toArray) :=
      Draws.tuple (A := X.A.in1) (by have q := I.ok.hd hc; simp [q]) it a ai its.toArray
    have hef : e ∉ [it, a] := by simp [hne, ae.symm]
    refine wpAny_pyNext_enum_itemD D he ⟨hit, p⟩ (by omega) hne hef fun u h' tk hu ho hst hT hsz' hk => ?_
    obtain ⟨y, hy, ry⟩ : ∃ y, xs[i]? = some y ∧ RelV y u := by
      have q : its[i]? = some u := by simpa using hu
      cases e1 : xs[i]? with
      | none =>
        rw [rv.none_of e1] at q
        cases q
      | some y =>
        obtain ⟨u', h1, h2⟩ := rv.get e1
        rw [h1] at q
        cases q
        exact ⟨y, rfl, h2⟩
    refine ⟨_, rfl, wpAny_letOwnedTupleGo_enum (s := { s with heap := h', toks := tk + 1 }) ho fun h'' he' sb => ?_⟩
    have hT2 : h''.get? s.heap.objs.size = some { cls := .type "tuple", data := .seq #[.int i tk, u] } := (sb.2 _ (Nat.ne_of_gt hel)).trans hT
    have new : ObjOk X.prog X.w (upd H s.heap.objs.size (.tup [.int (i : Nat), y])) h'' s.heap.objs.size (.tup [.int (i : Nat), y]) :=
      ⟨by show 2 ≤ sizeLine; decide, [.int i tk, u], .cons ⟨_, rfl⟩ (.cons ry .nil), ⟨_, hT2, rfl, _, rfl⟩⟩
    have I1 : Inv X pins σ (upd H s.heap.objs.size (.tup [.int (i : Nat), y])) { s with heap := h'', toks := tk + 1 } :=
      I.turnedNew (ch := [e, it]) (fun b ob hb q => (sb.2 b (fun z => hb (by simp [z]))).trans (hk b ob (fun z => hb (by simp [z])) (fun z => hb (by simp [z])) q)) hf (Nat.le_refl _) new
    refine ⟨.ref s.heap.objs.size, _, I1, rfl, ⟨_, y, rfl, I.hok.fresh (Nat.le_refl _), rfl, hy⟩, ⟨⟨u, ?_⟩, hst.1.at fun o q => (sb.2 it (Ne.symm hne)).trans q, hne⟩, fun b hb => ?_⟩
    · have e1 : ((i + 1 : Nat) : Int) = (i : Int) + 1 := by omega
      rw [e1]
      exact he'
    · have hb' : b < s.heap.objs.size := by
        rcases (show b = e ∨ b = it by simpa using hb) with z | z
        · exact z ▸ hel
        · exact z ▸ hil
      rw [upd_ne (Nat.ne_of_lt hb')]
      exact (hf b hb).1
  done := by
    intro X hP hw hK hc i pins s σ H E I hf st hg
    subst hP hw hK
    obtain ⟨⟨old, he⟩, hit, hne⟩ := st
    obtain ⟨hq, hx⟩ := hg
    obtain ⟨its, rv, p, hz⟩ := I.tuple hq
    have hsz : its.toArray.size = i := by rw [hx, rv.length]; simp
    obtain ⟨f0, f1, f2, f3, f4, f5⟩ := hf it (by simp)
    have D : Draws X.prog X.w X.A.in1 it [it, a] its.toArray.size (fun i v => its.toArray[i]? = some v) (fun i h => h.IsTupleIter it a i ∧ h.IsTuple a its.toArray) :=
      Draws.tuple (A := X.A.in1) (by have q := I.ok.hd hc; simp [q]) it a ai its.toArray
    exact wpAny_pyNext_enum_endD D he (by rw [hsz]; exact ⟨hit, p⟩) fun h' eb => ⟨rfl, I.turned (t' := s.toks) (fun b o hb q => eb b o hb q) f0 f1 f3 f4 f5⟩
  self := fun A i s Q E st h => let ⟨⟨_, he⟩, _⟩ := st; wpAny_pyIter_enum he h
def iEnumT (K : PySem.W.Frag) (ta : TA) : TI := fun σ H R => ta σ H fun vs H1 => ∃ a xs, vs = [.ref a] ∧ SqT K H1 a xs ∧ R (ItU K a xs) H1
theorem pi_enumT {e : Expr} {ta : TA} {p pos tpos : Pos} {elts : List Expr} {kk : Nat} (hg : Gl X "enumerate") (hm : X.mg "enumerate" = none) (ha : PA X [e] ta) (hs : starEach [e] X.env = [(false, eval e X.env)] := by rfl) :
    PI X (.Tuple elts kk tpos) (.Call (.Name "enumerate" p) [e] [] pos) (iEnumT X.K ta) := by
  refine ⟨fun pins s σ H R I h => ?_⟩
  refine Call_ (ld_blt I hg hm boot_enumerate (PyProof.Rows.callWith_type1 (thn (ha.run pos pins s σ H _ I h) fun us s1 ⟨vs, H1, I1, r1, q1⟩ => ?_) hs rfl))
  obtain ⟨a, xs, ex, hq, q⟩ := q1
  subst ex
  rw [Vals.ref1 r1]
  obtain ⟨its, rv, p', hz⟩ := I1.tuple hq
  have al : a < s1.heap.objs.size := by
    obtain ⟨o, ho, _⟩ := p'
    exact Heap.lt_size ho
  refine call_enum_tup p' fun h' he hit hk => wpAny_pyIter_enum he ?_
  have I2 : Inv X pins σ H1 { s1 with heap := h' } := I1.kept (t' := s1.toks) hk
  refine ⟨s1.heap.objs.size + 1, [s1.heap.objs.size + 1, s1.heap.objs.size], _, _, H1, rfl, I2, turn_enumT a (s1.heap.objs.size + 1) s1.heap.objs.size xs (Nat.ne_of_lt (Nat.lt_succ_of_lt al)) (Nat.ne_of_lt al), ⟨⟨.none, he⟩, hit, Nat.succ_ne_self _⟩, fun b hb => ?_, q⟩
  have hle : s1.heap.objs.size ≤ b := by
    rcases (show b = s1.heap.objs.size + 1 ∨ b = s1.heap.objs.size by simpa using hb) with z | z
    · exact z ▸ Nat.le_add_right _ _
    · exact z ▸ Nat.le_refl _
  exact I1.fpOk hle (I1.hok.fresh hle)
theorem walk_enumT {K : PySem.W.Frag} {a : Addr} {xs : List V} : Walk (ItU K a xs) xs.length (fun H => SqT K H a xs) (YPair (fun i => some (.int (i : Nat))) (fun i => xs[i]?)) :=
  ⟨fun i H hi h => ⟨h, hi⟩, fun H h => ⟨h, rfl⟩, fun i H x H' _ _ ⟨T, y, e1, e2, e3, e4⟩ => ⟨T, _, y, e1, e2, e3, rfl, e4⟩⟩
end
end LDW

/-! sorted(t), t a tuple of whole numbers, however many. -/
namespace LDW
open PySem PySem.Spec PyProof.Rows L2
section
variable {prog : Program} {w : World} {A : Around} {E : Value → Shared → Prop} {s : Shared}
/-- the heap with a tuple's items gathered -/
def gath (h : Heap) (vs : List Value) : Heap := (h.push (seqObj "list" #[] 0)).update h.objs.size (Obj.mapSeq (· ++ vs.toArray))
theorem gather_tuple {t : Addr} {vs : List Value} {Q : List Value → Shared → Prop} (ht : IsTup s.heap t vs.toArray) (hz : vs.length ≤ sizeLine)
    (h : Q vs { s with heap := gath s.heap vs }) : wpAny (model prog w) A (collect (.ref t)) Q E s := by
  have got : (gath s.heap vs).get? s.heap.objs.size = some (Obj.mapSeq (· ++ vs.toArray) (seqObj "list" #[] 0)) := get?_update_seq (Heap.get?_push_size _ rfl) _
  have fin : wpAny (model prog w) A (do
      let o ← load s.heap.objs.size
      match o.data with
      | .seq xs _ => pure xs.toList
      | _ => unsupported "internal:collect") Q E { s with heap := gath s.heap vs } := wpAny_bind (wpAny_load got (by
    show wpAny _ _ (pure ((#[] : Array Value) ++ vs.toArray).toList) Q E _
    refine wpAny_pure ?_
    simpa using h))
  obtain ⟨o, ho, hc, n, hd⟩ := ht
  have fresh : (s.heap.push (seqObj "list" #[] 0)).get? s.heap.objs.size = some (seqObj "list" #[] 0) := Heap.get?_push_size _ rfl
  have old : (s.heap.push (seqObj "list" #[] 0)).get? t = some o := Heap.get?_push_of_some _ ho
  unfold collect
  refine wpAny_bind (wpAny_runValue (codeAny_builtin entry_proto_collect' ?_))
  show wpAny _ _ (do again (.builtin "list.__iadd__" ⟨[← newList [], .ref t], []⟩)) _ _ s
  refine wpAny_bind (wpAny_newList (wpAny_pure ⟨Code.quiet_builtin _ (by decide +kernel), codeAny_builtin entry_list_iadd' ?_⟩))
  show wpAny _ _ (Builtin.List.listExtendWith (.ref s.heap.objs.size) (.ref t) (.ref s.heap.objs.size)) _ _ { s with heap := s.heap.push (seqObj "list" #[] 0) }
  unfold Builtin.List.listExtendWith
  refine wpAny_bind (wpAny_typeOf (T := "tuple") ⟨o, old, hc⟩ ?_)
  have yes : (Value.type "tuple" == Value.type "tuple") = true := by rfl
  rw [if_pos (by rw [yes]; simp)]
  refine wpAny_bind (listItems_at old hd ?_)
  refine wpAny_bind (listItems_at (xs := #[]) (n := 0) fresh rfl ?_)
  rw [if_neg (by simp)]
  exact wpAny_bind (listUpdate_at (xs := #[]) (n := 0) fresh rfl (wpAny_pure fin) (Nat.zero_le _) (by show (#[] ++ vs.toArray).size ≤ sizeLine + 1; simp only [Array.size_append, List.size_toArray, List.length_nil]; omega))
theorem sorted_tuple {t : Addr} {vs : List Value} {ns : List Int} {Q : Value → Shared → Prop} (ht : IsTup s.heap t vs.toArray) (hI : IntsAre vs ns) (hz : vs.length ≤ sizeLine)
    (h : ∀ out : List Value, SrtO.Srtd SrtO.ltIv out → SrtO.Stb SrtO.ltIv out vs → Q (.ref (s.heap.objs.size + 1)) { s with heap := sortedAll s.heap vs out.toArray }) :
    wpAny (model prog w) A (call (.builtin "sorted") [.ref t]) Q E s := by
  refine Calls.call_function_entry kind_sorted plain_sorted entry_sorted (args_sorted1 _) ?_
  unfold Builtin.«sorted»
  refine wpAny_bind (m := checkCount "sorted" 1 1 _) (wpAny_pure ?_)
  refine wpAny_bind (gather_tuple ht hz ?_)
  refine wpAny_bind (wpAny_newList ?_ hz)
  have size : (gath s.heap vs).objs.size = s.heap.objs.size + 1 := by
    unfold gath
    rw [Heap.size_update, size_push']
  have mine : ((gath s.heap vs).push (seqObj "list" vs.toArray 0)).get? (s.heap.objs.size + 1) = some (seqObj "list" vs.toArray 0) := by
    rw [← size]
    exact Heap.get?_push_size _ rfl
  show wpAny _ _ _ _ _ { s with heap := (gath s.heap vs).push (seqObj "list" vs.toArray 0) }
  rw [size]
  exact wpAny_bind (wpAny_holding (wpAny_call_entry slot_list_sort ⟨_, mine, rfl⟩ entry_list_sort (SrtO.list_sort_ord SrtO.swo_int mine hz (fun h2 => SrtO.ints_sortable hI h2) fun out hs hb => ⟨_, rfl, wpAny_pure ⟨_, rfl, h out hs hb⟩⟩) (args_list_sort _)))
end
section
variable {X : Cx}
/-- sorted(t), t a tuple of ints -/
def rSortTI (K : PySem.W.Frag) : List V → Hp → VK → Prop := fun vs H Q => ∃ (a : Addr) (ns : List Int), vs = [V.ref a] ∧ SqT K H a (ns.map V.int) ∧
  ∀ (ms : List Int) (p : Addr), ms.Perm ns → ms.Pairwise (· ≤ ·) → H p = none → Q (.ref p) (upd H p (.lst (ms.map V.int)))
theorem cr_sortTI : CallR X (.builtin "sorted") (rSortTI X.K) := by
  intro pins s σ H vs us Q I r h
  obtain ⟨a, ns, rfl, hs, q⟩ := h
  obtain ⟨its, rv, ht, hz⟩ := I.tuple hs
  rw [Vals.ref1 r]
  have hi := rv.ints
  refine sorted_tuple (by simpa using ht) hi (by rw [← rv.length]; first | exact hz | simpa using hz) fun out h1 h2 => ?_
  obtain ⟨k1, k2, k3⟩ := SrtO.ints_out hi h1 h2
  obtain ⟨ep, he⟩ := PyProof.Rows.sortedAll_at s.heap its out.toArray
  refine ⟨.ref _, upd H (s.heap.objs.size + 1) (.lst ((out.map SrtO.iv).map V.int)), I.laid (t' := s.toks) (fun _ _ => PyProof.Rows.sortedAll_old) (Nat.le_succ _) ⟨?_, out, ep, vals_of_ints k1, he⟩, rfl, q _ _ k2 k3 (I.hok.fresh (Nat.le_succ _))⟩
  rw [List.length_map, k2.length_eq]
  simpa using hz
end
end LDW

/-! What an expression gives, by a property of the value and the heap; comprehensions; calls of defs that change nothing. -/
namespace LDW
open PySem PySem.Spec PyProof.Rows L2 Evl
abbrev VP := V → Hp → Prop
/-! ### properties of values that stay while what is tracked stays -/
class Mon (P : VP) : Prop where
  mono : ∀ {v : V} {H H' : Hp}, Ex H H' → P v H → P v H'
/-- tuples stay -/
def ExT (H H' : Hp) : Prop := ∀ a xs, H a = some (.tup xs) → H' a = some (.tup xs)
theorem Ex.t {H H' : Hp} (e : Ex H H') : ExT H H' := fun a xs h => e a _ h
theorem ExT.refl (H : Hp) : ExT H H := fun _ _ h => h
theorem ExT.trans {H H1 H2 : Hp} (a : ExT H H1) (b : ExT H1 H2) : ExT H H2 := fun x xs h => b x xs (a x xs h)
theorem ExT.lst {H : Hp} {p : Addr} {xs : List V} {o : HO} (h : H p = some (.lst xs)) : ExT H (upd H p o) := fun a ys q => by
  have ne : a ≠ p := fun z => by
    rw [z, h] at q
    cases q
  rw [upd_ne ne]
  exact q
theorem ExT.dT {H : Hp} {p : Addr} {kvs : List (List Key × V)} {o : HO} (h : H p = some (.dT kvs)) : ExT H (upd H p o) := fun a ys q => by
  have ne : a ≠ p := fun z => by
    rw [z, h] at q
    cases q
  rw [upd_ne ne]
  exact q
theorem ExT.new {H : Hp} {p : Addr} {o : HO} (h : H p = none) : ExT H (upd H p o) := Ex.t (Ex.new h)
/-- a kind of data made of tuples -/
class Tup {α : Type} (R : α → VP) : Prop where
  stay : ∀ {b : α} {v : V} {H H' : Hp}, ExT H H' → R b v H → R b v H'
instance {α : Type} (R : α → VP) [Tup R] (b : α) : Mon (R b) := ⟨fun e h => Tup.stay (Ex.t e) h⟩
def Is (z : V) : VP := fun v _ => v = z
instance (z : V) : Mon (Is z) := ⟨fun _ h => h⟩
def IsI (n : Int) : VP := fun v _ => v = .int n
instance : Tup IsI := ⟨fun _ h => h⟩
/-- a tuple of ints, a list of ints -/
def IsTI (ns : List Int) : VP := fun v H => ∃ a, v = .ref a ∧ H a = some (.tup (ns.map V.int))
def IsLI (ns : List Int) : VP := fun v H => ∃ a, v = .ref a ∧ H a = some (.lst (ns.map V.int))
instance : Tup IsTI := ⟨fun e ⟨a, h1, h2⟩ => ⟨a, h1, e _ _ h2⟩⟩
instance (ns : List Int) : Mon (IsLI ns) := ⟨fun e ⟨a, h1, h2⟩ => ⟨a, h1, e _ _ h2⟩⟩
/-- a list of data, a tuple of data -/
def IsLs {α : Type} (R : α → VP) (l : List α) : VP := fun v H => ∃ a xs, v = .ref a ∧ H a = some (.lst xs) ∧ Paired (fun x b => R b x H) xs l
def IsTs {α : Type} (R : α → VP) (l : List α) : VP := fun v H => ∃ a xs, v = .ref a ∧ H a = some (.tup xs) ∧ Paired (fun x b => R b x H) xs l
instance {α : Type} (R : α → VP) [Tup R] (l : List α) : Mon (IsLs R l) := ⟨fun e ⟨a, xs, h1, h2, h3⟩ => ⟨a, xs, h1, e _ _ h2, Paired.mapP h3 fun _ _ q => Tup.stay (Ex.t e) q⟩⟩
instance {α : Type} (R : α → VP) [Tup R] : Tup (IsTs R) := ⟨fun e ⟨a, xs, h1, h2, h3⟩ => ⟨a, xs, h1, e _ _ h2, Paired.mapP h3 fun _ _ q => Tup.stay e q⟩⟩
/-- an arrow -/
def IsAr (e : Int × Int) : VP := fun v H => ∃ a, v = .ref a ∧ H a = some (.tup [.int e.1, .int e.2])
instance : Tup IsAr := ⟨fun e ⟨a, h1, h2⟩ => ⟨a, h1, e _ _ h2⟩⟩
/-- a web -/
def IsWeb (n : Nat) (A : List (Int × Int)) : VP := fun v H => ∃ a b, v = .ref a ∧ H a = some (.tup [.int n, b]) ∧ IsTs IsAr A b H
instance (n : Nat) (A : List (Int × Int)) : Mon (IsWeb n A) := ⟨fun e ⟨a, b, h1, h2, h3⟩ => ⟨a, b, h1, e _ _ h2, Tup.stay (Ex.t e) h3⟩⟩
/-- a pair of a door and a standing -/
def IsKT (p : Int × List Int) : VP := fun v H => ∃ a b, v = .ref a ∧ H a = some (.tup [.int p.1, b]) ∧ IsTI p.2 b H
instance : Tup IsKT := ⟨fun e ⟨a, b, h1, h2, h3⟩ => ⟨a, b, h1, e _ _ h2, Tup.stay e h3⟩⟩
theorem paired_int {H : Hp} : ∀ {xs : List V} {ns : List Int}, Paired (fun x b => IsI b x H) xs ns → xs = ns.map V.int
  | _, _, .nil => rfl
  | _, _, .cons h t => by
    rw [paired_int t, show _ = _ from h]
    rfl
theorem int_paired (H : Hp) : ∀ (ns : List Int), Paired (fun x b => IsI b x H) (ns.map V.int) ns
  | [] => .nil
  | n :: ns => .cons rfl (int_paired H ns)
theorem li_of {ns : List Int} {v : V} {H : Hp} (h : IsLs IsI ns v H) : IsLI ns v H := let ⟨a, xs, h1, h2, h3⟩ := h; ⟨a, h1, by rw [← paired_int h3]; exact h2⟩
theorem ls_of {ns : List Int} {v : V} {H : Hp} (h : IsLI ns v H) : IsLs IsI ns v H := let ⟨a, h1, h2⟩ := h; ⟨a, _, h1, h2, int_paired H ns⟩
theorem ti_of {ns : List Int} {v : V} {H : Hp} (h : IsTs IsI ns v H) : IsTI ns v H := let ⟨a, xs, h1, h2, h3⟩ := h; ⟨a, h1, by rw [← paired_int h3]; exact h2⟩
theorem ts_of {ns : List Int} {v : V} {H : Hp} (h : IsTI ns v H) : IsTs IsI ns v H := let ⟨a, h1, h2⟩ := h; ⟨a, _, h1, h2, int_paired H ns⟩
theorem paired_at {α : Type} {F : V → α → Prop} : ∀ {xs : List V} {l : List α} {i : Nat} {x : V}, Paired F xs l → xs[i]? = some x → ∃ b, l[i]? = some b ∧ F x b
  | _, _, i, x, .nil, e => by simp at e
  | _, _, 0, x, .cons h t, e => by
    simp only [List.getElem?_cons_zero, Option.some.injEq] at e
    exact ⟨_, rfl, e ▸ h⟩
  | _, _, i + 1, x, .cons h t, e => by
    simp only [List.getElem?_cons_succ] at e ⊢
    exact paired_at t e
/-! ### what an expression gives -/
def EvP (te : TE) (σ : L2.St) (H : Hp) (P : VP) : Prop := ∀ H1, Ex H H1 → ∀ Q : VK, (∀ v H2, Ex H1 H2 → P v H2 → Q v H2) → te σ H1 Q
/-- the same of an operation on values, of a call's values -/
def Gv (t : Hp → VK → Prop) (H : Hp) (P : VP) : Prop := ∀ Q : VK, (∀ v H2, Ex H H2 → P v H2 → Q v H2) → t H Q
section
variable {K : PySem.W.Frag} {σ : L2.St} {H H' : Hp} {te ta tb : TE} {P P1 P2 P' : VP} {t u : TT} {z v : V} {D : Ends} {tu tw tz : TS} {i j : Nat}
theorem EvP.mono (h : EvP te σ H P) (e : Ex H H') : EvP te σ H' P := fun H1 e1 => h H1 (e.trans e1)
theorem EvP.imp (h : EvP te σ H P) (k : ∀ v H', Ex H H' → P v H' → P' v H') : EvP te σ H P' := fun H1 e1 Q q => h H1 e1 Q fun v H2 e2 p => q v H2 e2 (k v H2 (e1.trans e2) p)
theorem ev_of (h : EvP te σ H (Is z)) : Ev te σ H z := fun H1 e1 Q q => h H1 e1 Q fun v H2 e2 p => by
  rw [show v = z from p]
  exact q H2 e2
theorem ev_to (h : Ev te σ H z) : EvP te σ H (Is z) := fun H1 e1 Q q => h H1 e1 Q fun H2 e2 => q z H2 e2 rfl
theorem ev_toI {n : Int} (h : Ev te σ H (.int n)) : EvP te σ H (IsI n) := ev_to h
theorem ev_ofI {n : Int} (h : EvP te σ H (IsI n)) : Ev te σ H (.int n) := ev_of h
theorem evp_var (h : σ[i]? = some (some v)) (p : P v H) [Mon P] : EvP (tVar i) σ H P := fun H1 e1 Q q => ⟨v, h, q v H1 (Ex.refl _) (Mon.mono e1 p)⟩
theorem evp_c : EvP (tC z) σ H (Is z) := fun H1 e1 Q q => q z H1 (Ex.refl _) rfl
theorem evp_op {r : R2} (ha : EvP ta σ H P1) (hb : EvP tb σ H P2) [Mon P1] (hr : ∀ x y H1, Ex H H1 → P1 x H1 → P2 y H1 → Gv (r x y) H1 P) : EvP (tOp r ta tb) σ H P := fun H1 e1 Q q =>
  ha H1 e1 _ fun x H2 e2 p1 => hb H2 (e1.trans e2) _ fun y H3 e3 p2 => hr x y H3 ((e1.trans e2).trans e3) (Mon.mono e3 p1) p2 Q fun v H4 e4 p => q v H4 ((e2.trans e3).trans e4) p
/-- an operation whose answer is known -/
theorem gv_val {t : Hp → VK → Prop} (h : ∀ Q : VK, Q z H → t H Q) : Gv t H (Is z) := fun Q q => h Q (q z H (Ex.refl _) rfl)
theorem evt_op {r : R2} {b : Bool} (ha : EvP ta σ H P1) (hb : EvP tb σ H P2) [Mon P1] (hr : ∀ x y H1, Ex H H1 → P1 x H1 → P2 y H1 → ∀ Q : VK, Q (.bl b) H1 → r x y H1 Q) : EvT (tTest (tOp r ta tb)) σ H b := fun H1 e1 Q q =>
  ha H1 e1 _ fun x H2 e2 p1 => hb H2 (e1.trans e2) _ fun y H3 e3 p2 => hr x y H3 ((e1.trans e2).trans e3) (Mon.mono e3 p1) p2 _ ⟨b, rfl, q H3 (e2.trans e3)⟩
theorem evt_val {b : Bool} (h : EvP te σ H (Is (.bl b))) : EvT (tB te) σ H b := et_B (ev_of h)
theorem evt_valT {b : Bool} (h : EvP te σ H (Is (.bl b))) : EvT (tTest te) σ H b := et_test (ev_of h)
theorem evt_is {a b : Bool} (h : EvT t σ H a) (e : a = b) : EvT t σ H b := e ▸ h
theorem evp_if {b : Bool} (h : EvT t σ H b) (h1 : b = true → EvP ta σ H P) (h2 : b = false → EvP tb σ H P) : EvP (tIf t ta tb) σ H P := fun H1 e1 Q q =>
  h H1 e1 _ fun H2 e2 => by
    cases b with
    | true =>
      show (if true = true then ta σ H2 Q else tb σ H2 Q)
      rw [if_pos rfl]
      exact h1 rfl H2 (e1.trans e2) Q fun v H3 e3 p => q v H3 (e2.trans e3) p
    | false =>
      show (if false = true then ta σ H2 Q else tb σ H2 Q)
      rw [if_neg Bool.false_ne_true]
      exact h2 rfl H2 (e1.trans e2) Q fun v H3 e3 p => q v H3 (e2.trans e3) p
/-! ### statements -/
theorem sP_asg (h : EvP te σ H P) (k : ∀ v H1, Ex H H1 → P v H1 → D.nx (σ.set i (some v)) H1) : tAsg te (gName i) D σ H := h H (Ex.refl _) _ k
theorem qP_asg (h : EvP te σ H P) (k : ∀ v H1, Ex H H1 → P v H1 → tz D (σ.set i (some v)) H1) : tSeq (tAsg te (gName i)) tz D σ H := h H (Ex.refl _) _ k
theorem sP_ret (h : EvP te σ H P) (k : ∀ v H1, Ex H H1 → P v H1 → D.rt v H1) : tRet te D σ H := h H (Ex.refl _) _ k
/-- an if that is never taken -/
theorem q_no (h : EvT t σ H false) (k : ∀ H1, Ex H H1 → tz D σ H1) : tSeq (tIfS t tu tNext) tz D σ H := q_when h (fun z => Bool.noConfusion z) fun _ => k
theorem s_no (h : EvT t σ H false) (k : ∀ H1, Ex H H1 → D.nx σ H1) : tIfS t tu tNext D σ H := s_when h (fun z => Bool.noConfusion z) fun _ => k
/-! ### arguments, calls of defs that change nothing -/
def AllP : List VP → List V → Hp → Prop
  | [], [], _ => True
  | P :: Ps, v :: vs, H => P v H ∧ AllP Ps vs H
  | _, _, _ => False
theorem AllP.len : ∀ {Ps : List VP} {vs : List V} {H : Hp}, AllP Ps vs H → vs.length = Ps.length
  | [], [], _, _ => rfl
  | _ :: _, _ :: _, _, h => congrArg (· + 1) (AllP.len h.2)
  | [], _ :: _, _, h => h.elim
  | _ :: _, [], _, h => h.elim
theorem all1 {vs : List V} (h : AllP [P] vs H) : ∃ a, vs = [a] ∧ P a H := match vs, h with
  | [a], h => ⟨a, rfl, h.1⟩
theorem all2 {vs : List V} (h : AllP [P, P1] vs H) : ∃ a b, vs = [a, b] ∧ P a H ∧ P1 b H := match vs, h with
  | [a, b], h => ⟨a, b, rfl, h.1, h.2.1⟩
theorem all3 {vs : List V} (h : AllP [P, P1, P2] vs H) : ∃ a b c, vs = [a, b, c] ∧ P a H ∧ P1 b H ∧ P2 c H := match vs, h with
  | [a, b, c], h => ⟨a, b, c, rfl, h.1, h.2.1, h.2.2.1⟩
def EvAP (ta : TA) (σ : L2.St) (H : Hp) (Ps : List VP) : Prop := ∀ H1, Ex H H1 → ∀ Q : List V → Hp → Prop, (∀ vs H2, Ex H1 H2 → AllP Ps vs H2 → Q vs H2) → ta σ H1 Q
theorem eap_nil : EvAP tNil σ H [] := fun H1 e1 Q q => q [] H1 (Ex.refl _) trivial
theorem eap_cons {tr : TA} {Ps : List VP} (h : EvP te σ H P) [Mon P] (hr : EvAP tr σ H Ps) : EvAP (tCons te tr) σ H (P :: Ps) := fun H1 e1 Q q =>
  h H1 e1 _ fun x H2 e2 p => hr H2 (e1.trans e2) _ fun xs H3 e3 ps => q (x :: xs) H3 (e2.trans e3) ⟨Mon.mono e3 p, ps⟩
/-- the promise of a def that changes nothing: for data d that is right, arguments as args says, an answer as post says -/
def spP {δ : Type} (args : δ → List VP) (ok : δ → Prop) (post : δ → VP) : Sp := fun vs H Q _ => ∃ d, ok d ∧ AllP (args d) vs H ∧ ∀ v H', Ex H H' → post d v H' → Q v H'
theorem evp_call {δ : Type} {args : δ → List VP} {ok : δ → Prop} {post : δ → VP} {tr : TA} {E : XK} (d : δ) (hd : ok d) (h : EvAP tr σ H (args d)) : EvP (tCall (spP args ok post) [] E tr) σ H (post d) := fun H1 e1 Q q =>
  h H1 e1 _ fun vs H2 e2 hv => ⟨d, hd, by rw [List.append_nil]; exact hv, fun v H3 e3 p => q v H3 (e2.trans e3) p⟩
/-- a call of a built-in -/
theorem evp_cb {r : List V → Hp → VK → Prop} {tr : TA} {Ps : List VP} (h : EvAP tr σ H Ps) (hr : ∀ vs H1, Ex H H1 → AllP Ps vs H1 → Gv (r vs) H1 P) : EvP (tCB r tr) σ H P := fun H1 e1 Q q =>
  h H1 e1 _ fun vs H2 e2 hv => hr vs H2 (e1.trans e2) hv Q fun v H3 e3 p => q v H3 (e2.trans e3) p
/-- a tuple, a list of written items -/
theorem evp_tup {tr : TA} {Ps : List VP} (h : EvAP tr σ H Ps) (hl : Ps.length ≤ 100000) : EvP (tTup tr) σ H (fun v H' => ∃ a xs, v = .ref a ∧ H' a = some (.tup xs) ∧ ∃ H0, Ex H0 H' ∧ AllP Ps xs H0) := fun H1 e1 Q q =>
  h H1 e1 _ fun vs H2 e2 hv => ⟨by rw [hv.len]; exact sz_of hl, fun p hp => q _ _ (e2.trans (Ex.new hp)) ⟨p, vs, rfl, upd_same, H2, Ex.new hp, hv⟩⟩
theorem evp_lst {tr : TA} {Ps : List VP} (h : EvAP tr σ H Ps) (hl : Ps.length ≤ 100000) : EvP (tLst tr) σ H (fun v H' => ∃ a xs, v = .ref a ∧ H' a = some (.lst xs) ∧ ∃ H0, Ex H0 H' ∧ AllP Ps xs H0) := fun H1 e1 Q q =>
  h H1 e1 _ fun vs H2 e2 hv => ⟨by rw [hv.len]; exact sz_of hl, fun p hp => q _ _ (e2.trans (Ex.new hp)) ⟨p, vs, rfl, upd_same, H2, Ex.new hp, hv⟩⟩
theorem evp_nil {α : Type} {R : α → VP} : EvP (tLst tNil) σ H (IsLs R []) := fun H1 e1 Q q => ⟨Nat.zero_le _, fun p hp => q _ _ (Ex.new hp) ⟨p, [], rfl, upd_same, .nil⟩⟩
/-! ### parts of webs, arrows -/
theorem gv_ixT {x y : V} {a : Addr} {xs : List V} {k : Nat} (hx : x = .ref a) (hy : y = .int (k : Int)) (h : H a = some (.tup xs)) (hk : xs[k]? = some z) (p : P z H) : Gv (rIxT K x y) H P := fun Q q =>
  ⟨a, xs, k, z, hx, hy, SqT.of h, atI_nat hk, q z H (Ex.refl _) p⟩
theorem gv_ixL {x y : V} {a : Addr} {xs : List V} {k : Nat} (hx : x = .ref a) (hy : y = .int (k : Int)) (h : H a = some (.lst xs)) (hk : xs[k]? = some z) (p : P z H) : Gv (rIxL K x y) H P := fun Q q =>
  ⟨a, xs, k, z, hx, hy, SqL.of h, atI_nat hk, q z H (Ex.refl _) p⟩
theorem web0 {n : Nat} {A : List (Int × Int)} (h : EvP ta σ H (IsWeb n A)) : EvP (tOp (rIxT K) ta (tC (.int 0))) σ H (IsI n) := evp_op h evp_c fun _ _ _ _ ⟨a, b, h1, h2, _⟩ hy => gv_ixT (k := 0) h1 hy h2 rfl rfl
theorem web1 {n : Nat} {A : List (Int × Int)} (h : EvP ta σ H (IsWeb n A)) : EvP (tOp (rIxT K) ta (tC (.int 1))) σ H (IsTs IsAr A) := evp_op h evp_c fun _ _ _ _ ⟨a, b, h1, h2, h3⟩ hy => gv_ixT (k := 1) h1 hy h2 rfl h3
theorem ar0 {e : Int × Int} (h : EvP ta σ H (IsAr e)) : EvP (tOp (rIxT K) ta (tC (.int 0))) σ H (IsI e.1) := evp_op h evp_c fun _ _ _ _ ⟨a, h1, h2⟩ hy => gv_ixT (k := 0) h1 hy h2 rfl rfl
theorem ar1 {e : Int × Int} (h : EvP ta σ H (IsAr e)) : EvP (tOp (rIxT K) ta (tC (.int 1))) σ H (IsI e.2) := evp_op h evp_c fun _ _ _ _ ⟨a, h1, h2⟩ hy => gv_ixT (k := 1) h1 hy h2 rfl rfl
/-! ### in -/
theorem inV_int (k : Int) : ∀ ns : List Int, inV (.int k) (ns.map V.int) = decide (k ∈ ns)
  | [] => rfl
  | n :: ns => by
    have ih := inV_int k ns
    show (n == k || inV (.int k) (ns.map V.int)) = decide (k ∈ n :: ns)
    rw [ih, Bool.eq_iff_iff]
    simp only [Bool.or_eq_true, beq_iff_eq, decide_eq_true_eq, List.mem_cons]
    exact ⟨fun h => h.elim (fun z => .inl z.symm) .inr, fun h => h.elim (fun z => .inl z.symm) .inr⟩
theorem flat_int (ns : List Int) : (ns.map V.int).all flatV = true := by
  rw [List.all_map, List.all_eq_true]
  exact fun _ _ => rfl
/-- ints that are held by a tuple or a list -/
def IsSI (ns : List Int) : VP := fun v H => ∃ a, v = .ref a ∧ (SqL K H a (ns.map V.int) ∨ SqT K H a (ns.map V.int))
theorem gv_in {neg : Bool} {x y : V} {k : Int} {ns : List Int} (hx : x = .int k) (hy : IsTI ns y H ∨ IsLI ns y H) : ∀ Q : VK, Q (.bl (if neg then !decide (k ∈ ns) else decide (k ∈ ns))) H → rIn K neg x y H Q := fun Q q => by
  subst hx
  rcases hy with ⟨a, rfl, h⟩ | ⟨a, rfl, h⟩
  · exact ⟨a, _, rfl, .inr (SqT.of h), rfl, flat_int ns, by rw [inV_int]; exact q⟩
  · exact ⟨a, _, rfl, .inl (SqL.of h), rfl, flat_int ns, by rw [inV_int]; exact q⟩
theorem gv_is {x y : V} {k : Int} {ns : List Int} (hx : x = .int k) (hy : IsTI ns y H ∨ IsLI ns y H) : ∀ Q : VK, Q (.bl (decide (k ∈ ns))) H → rIn K false x y H Q := fun Q q => gv_in (neg := false) hx hy Q (by rw [if_neg Bool.false_ne_true]; exact q)
theorem gv_no {x y : V} {k : Int} {ns : List Int} (hx : x = .int k) (hy : IsTI ns y H ∨ IsLI ns y H) : ∀ Q : VK, Q (.bl (!decide (k ∈ ns))) H → rIn K true x y H Q := fun Q q => gv_in (neg := true) hx hy Q (by rw [if_pos rfl]; exact q)
theorem in_t {k : Int} {ns : List Int} (ha : EvP ta σ H (IsI k)) (hb : EvP tb σ H (IsTI ns)) : EvT (tTest (tOp (rIn K false) ta tb)) σ H (decide (k ∈ ns)) := evt_op ha hb fun x y H1 _ p1 p2 => gv_is p1 (.inl p2)
theorem in_l {k : Int} {ns : List Int} (ha : EvP ta σ H (IsI k)) (hb : EvP tb σ H (IsLI ns)) : EvT (tTest (tOp (rIn K false) ta tb)) σ H (decide (k ∈ ns)) := evt_op ha hb fun x y H1 _ p1 p2 => gv_is p1 (.inr p2)
theorem ni_t {k : Int} {ns : List Int} (ha : EvP ta σ H (IsI k)) (hb : EvP tb σ H (IsTI ns)) : EvT (tTest (tOp (rIn K true) ta tb)) σ H (!decide (k ∈ ns)) := evt_op ha hb fun x y H1 _ p1 p2 => gv_no p1 (.inl p2)
theorem ni_l {k : Int} {ns : List Int} (ha : EvP ta σ H (IsI k)) (hb : EvP tb σ H (IsLI ns)) : EvT (tTest (tOp (rIn K true) ta tb)) σ H (!decide (k ∈ ns)) := evt_op ha hb fun x y H1 _ p1 p2 => gv_no p1 (.inr p2)
theorem inV_t {k : Int} {ns : List Int} (ha : EvP ta σ H (IsI k)) (hb : EvP tb σ H (IsTI ns)) : EvP (tOp (rIn K false) ta tb) σ H (Is (.bl (decide (k ∈ ns)))) := evp_op ha hb fun x y H1 _ p1 p2 => gv_val (gv_is p1 (.inl p2))
theorem inV_l {k : Int} {ns : List Int} (ha : EvP ta σ H (IsI k)) (hb : EvP tb σ H (IsLI ns)) : EvP (tOp (rIn K false) ta tb) σ H (Is (.bl (decide (k ∈ ns)))) := evp_op ha hb fun x y H1 _ p1 p2 => gv_val (gv_is p1 (.inr p2))
/-! ### == of numbers, truth values -/
theorem eq_i {m n : Int} (ha : EvP ta σ H (IsI m)) (hb : EvP tb σ H (IsI n)) : EvT (tTest (tOp rEq ta tb)) σ H (decide (m = n)) := evt_op ha hb fun x y H1 _ p1 p2 Q q => by
  rw [show x = .int m from p1, show y = .int n from p2]
  refine ⟨rfl, ?_⟩
  rw [show decide (V.int m = V.int n) = decide (m = n) by simp]
  exact q
theorem ne_i {m n : Int} (ha : EvP ta σ H (IsI m)) (hb : EvP tb σ H (IsI n)) : EvT (tTest (tOp rNe ta tb)) σ H (!decide (m = n)) := evt_op ha hb fun x y H1 _ p1 p2 Q q => by
  rw [show x = .int m from p1, show y = .int n from p2]
  refine ⟨rfl, ?_⟩
  rw [show decide (V.int m = V.int n) = decide (m = n) by simp]
  exact q
theorem eq_b {m n : Bool} (ha : EvP ta σ H (Is (.bl m))) (hb : EvP tb σ H (Is (.bl n))) : EvT (tTest (tOp rEq ta tb)) σ H (m == n) := evt_op ha hb fun x y H1 _ p1 p2 Q q => by
  rw [show x = .bl m from p1, show y = .bl n from p2]
  refine ⟨rfl, ?_⟩
  rw [show decide (V.bl m = V.bl n) = (m == n) by cases m <;> cases n <;> rfl]
  exact q
/-! ### xs == [], xs != [] -/
class Dat {α : Type} (R : α → VP) (enc : outParam (α → PyData)) : Prop where
  dp : ∀ {K : PySem.W.Frag} {b : α} {v : V} {H : Hp}, R b v H → Dp K H v (enc b)
  lay : ∀ b, (enc b).canLay0 = true
  dep : ∀ b, (enc b).depth ≤ 10
instance : Dat IsI PyData.int := ⟨fun h => by rw [show _ = _ from h]; exact .int _, fun b => by simp [PyData.canLay0], fun b => by simp [PyData.depth]⟩
theorem dpAll_ints (K : PySem.W.Frag) (H : Hp) : ∀ ns : List Int, DpAll K H (ns.map V.int) (ns.map PyData.int)
  | [] => .nil
  | n :: ns => .cons (.int n) (dpAll_ints K H ns)
theorem lay_all {α : Type} {enc : α → PyData} (h : ∀ b, (enc b).canLay0 = true) : ∀ l : List α, PyData.canLayAll0 (l.map enc) = true
  | [] => by simp [PyData.canLayAll0]
  | b :: l => by simp [PyData.canLayAll0, h b, lay_all h l]
theorem dep_all {α : Type} {enc : α → PyData} {n : Nat} (h : ∀ b, (enc b).depth ≤ n) : ∀ l : List α, PyData.depthAll (l.map enc) ≤ n
  | [] => by simp [PyData.depthAll]
  | b :: l => by
    have h1 := dep_all h l
    have h2 := h b
    simp only [List.map_cons, PyData.depthAll]
    omega
instance : Dat IsTI (fun ns => PyData.tuple (ns.map PyData.int)) := ⟨fun ⟨a, h1, h2⟩ => by rw [h1]; exact .tup (SqT.of h2) (dpAll_ints _ _ _), fun b => by
  simp only [PyData.canLay0]
  exact lay_all (fun b => by simp [PyData.canLay0]) b, fun b => by
  have := dep_all (enc := PyData.int) (n := 0) (fun b => by simp [PyData.depth]) b
  simp only [PyData.depth]
  omega⟩
instance : Dat IsAr (fun e => PyData.tuple [.int e.1, .int e.2]) := ⟨fun ⟨a, h1, h2⟩ => by rw [h1]; exact .tup (SqT.of h2) (.cons (.int _) (.cons (.int _) .nil)), fun b => by simp [PyData.canLay0, PyData.canLayAll0], fun b => by simp [PyData.depth, PyData.depthAll]⟩
theorem dpAll_of {α : Type} {R : α → VP} {enc : α → PyData} [Dat R enc] : ∀ {xs : List V} {l : List α}, Paired (fun x b => R b x H) xs l → DpAll K H xs (l.map enc)
  | _, _, .nil => .nil
  | _, _, .cons h t => .cons (Dat.dp h) (dpAll_of t)
theorem shaped_list {α : Type} {R : α → VP} {enc : α → PyData} [Dat R enc] (l : List α) : SeqAt.shaped (.list (l.map enc)) = true := by
  have h1 := dep_all (enc := enc) (n := 10) (Dat.dep R) l
  have h2 : PyData.depth (.list (l.map enc)) ≤ 64 := by
    simp only [PyData.depth]
    omega
  show (PyData.canLay0 (.list (l.map enc)) && decide (PyData.depth (.list (l.map enc)) ≤ 64)) = true
  rw [Bool.and_eq_true]
  exact ⟨by simp only [PyData.canLay0]; exact lay_all (Dat.lay R) l, decide_eq_true h2⟩
theorem eqv_nil (ds : List PyData) : PyData.eqv (.list ds) (.list []) = ds.isEmpty := by
  cases ds <;> simp [PyData.eqv, PyData.eqvAll]
theorem gv_nil {α : Type} {R : α → VP} {enc : α → PyData} [Dat R enc] {l : List α} {x y : V} (hx : IsLs R l x H) (hy : IsLs R [] y H) : (∀ Q : VK, Q (.bl l.isEmpty) H → rEqD K x y H Q) ∧ (∀ Q : VK, Q (.bl (!l.isEmpty)) H → rNeD K x y H Q) := by
  obtain ⟨a, xs, rfl, h2, h3⟩ := hx
  obtain ⟨b, ys, rfl, h5, h6⟩ := hy
  cases h6
  have e : PyData.eqv (.list (l.map enc)) (.list []) = l.isEmpty := by
    rw [eqv_nil]
    cases l <;> rfl
  have d1 : Dp K H (.ref a) (.list (l.map enc)) := .lst (SqL.of h2) (dpAll_of h3)
  have d2 : Dp K H (.ref b) (.list []) := .lst (SqL.of h5) .nil
  have s2 : SeqAt.shaped (.list []) = true := by decide +kernel
  exact ⟨fun Q q => ⟨_, _, d1, d2, shaped_list (R := R) l, s2, by rw [e]; exact q⟩, fun Q q => ⟨_, _, d1, d2, shaped_list (R := R) l, s2, by rw [e]; exact q⟩⟩
theorem eq_nil {α : Type} {R : α → VP} {enc : α → PyData} [Dat R enc] [Tup R] {l : List α} (ha : EvP ta σ H (IsLs R l)) : EvT (tTest (tOp (rEqD K) ta (tLst tNil))) σ H l.isEmpty := evt_op ha (evp_nil (R := R)) fun x y H1 _ p1 p2 => (gv_nil p1 p2).1
theorem ne_nil {α : Type} {R : α → VP} {enc : α → PyData} [Dat R enc] [Tup R] {l : List α} (ha : EvP ta σ H (IsLs R l)) : EvT (tTest (tOp (rNeD K) ta (tLst tNil))) σ H (!l.isEmpty) := evt_op ha (evp_nil (R := R)) fun x y H1 _ p1 p2 => (gv_nil p1 p2).2
theorem eqV_nil {α : Type} {R : α → VP} {enc : α → PyData} [Dat R enc] [Tup R] {l : List α} (ha : EvP ta σ H (IsLs R l)) : EvP (tOp (rEqD K) ta (tLst tNil)) σ H (Is (.bl l.isEmpty)) := evp_op ha (evp_nil (R := R)) fun x y H1 _ p1 p2 => gv_val (gv_nil p1 p2).1
/-! ### len, list(), tuple(), sorted(), list + list -/
theorem len_l {α : Type} {R : α → VP} [Tup R] {l : List α} (ha : EvP ta σ H (IsLs R l)) : EvP (tCB (rLenS K) (tCons ta tNil)) σ H (IsI l.length) := evp_cb (eap_cons ha eap_nil) fun vs H1 _ hv => by
  obtain ⟨v, rfl, a, xs, rfl, h2, h3⟩ := all1 hv
  intro Q q
  exact ⟨a, xs, rfl, .inl (SqL.of h2), q _ _ (Ex.refl _) (by rw [h3.length]; rfl)⟩
theorem list_t {α : Type} {R : α → VP} [Tup R] {l : List α} (ha : EvP ta σ H (IsTs R l)) : EvP (tCB (rListS K) (tCons ta tNil)) σ H (IsLs R l) := evp_cb (eap_cons ha eap_nil) fun vs H1 _ hv => by
  obtain ⟨v, rfl, a, xs, rfl, h2, h3⟩ := all1 hv
  intro Q q
  exact ⟨a, xs, rfl, .inr (SqT.of h2), fun p hp => q _ _ (Ex.new hp) ⟨p, xs, rfl, upd_same, Paired.mapP h3 fun _ _ z => Tup.stay (ExT.new hp) z⟩⟩
theorem list_l {α : Type} {R : α → VP} [Tup R] {l : List α} (ha : EvP ta σ H (IsLs R l)) : EvP (tCB (rListS K) (tCons ta tNil)) σ H (IsLs R l) := evp_cb (eap_cons ha eap_nil) fun vs H1 _ hv => by
  obtain ⟨v, rfl, a, xs, rfl, h2, h3⟩ := all1 hv
  intro Q q
  exact ⟨a, xs, rfl, .inl (SqL.of h2), fun p hp => q _ _ (Ex.new hp) ⟨p, xs, rfl, upd_same, Paired.mapP h3 fun _ _ z => Tup.stay (ExT.new hp) z⟩⟩
def rTupS (K : PySem.W.Frag) : List V → Hp → VK → Prop := fun xs H Q => ∃ p ys, xs = [.ref p] ∧ ((SqL K H p ys ∧ ∀ l, H l = none → Q (.ref l) (upd H l (.tup ys))) ∨ (SqT K H p ys ∧ Q (.ref p) H))
theorem tuple_l {α : Type} {R : α → VP} [Tup R] {l : List α} (ha : EvP ta σ H (IsLs R l)) : EvP (tCB (rTupS K) (tCons ta tNil)) σ H (IsTs R l) := evp_cb (eap_cons ha eap_nil) fun vs H1 _ hv => by
  obtain ⟨v, rfl, a, xs, rfl, h2, h3⟩ := all1 hv
  intro Q q
  exact ⟨a, xs, rfl, .inl ⟨SqL.of h2, fun p hp => q _ _ (Ex.new hp) ⟨p, xs, rfl, upd_same, Paired.mapP h3 fun _ _ z => Tup.stay (ExT.new hp) z⟩⟩⟩
theorem cat_l {α : Type} {R : α → VP} [Tup R] {l m : List α} (ha : EvP ta σ H (IsLs R l)) (hb : EvP tb σ H (IsLs R m)) (hl : l.length + m.length ≤ 100000) : EvP (tOp rCat ta tb) σ H (IsLs R (l ++ m)) := evp_op ha hb fun x y H1 _ p1 p2 => by
  obtain ⟨a, xs, rfl, h2, h3⟩ := p1
  obtain ⟨b, ys, rfl, h5, h6⟩ := p2
  intro Q q
  refine ⟨a, b, xs, ys, rfl, rfl, h2, h5, by rw [h3.length, h6.length]; exact sz_of hl, fun p hp => q _ _ (Ex.new hp) ⟨p, _, rfl, upd_same, ?_⟩⟩
  have app : ∀ {xs ys : List V} {l m : List α}, Paired (fun x b => R b x H1) xs l → Paired (fun x b => R b x H1) ys m → Paired (fun x b => R b x H1) (xs ++ ys) (l ++ m) := by
    intro xs ys l m h1 h2
    induction h1 with
    | nil => exact h2
    | cons h t ih => exact .cons h ih
  exact Paired.mapP (app h3 h6) fun _ _ z => Tup.stay (ExT.new hp) z
theorem sorted_i {l m : List Int} (ha : EvP ta σ H (IsLs IsI l)) (hm : ∀ l' : List Int, l'.Perm l → l'.Pairwise (· ≤ ·) → l' = m) : EvP (tCB (rSortedI K) (tCons ta tNil)) σ H (IsLs IsI m) := evp_cb (eap_cons ha eap_nil) fun vs H1 _ hv => by
  obtain ⟨v, rfl, a, xs, rfl, h2, h3⟩ := all1 hv
  cases paired_int h3
  intro Q q
  exact ⟨a, l, rfl, SqL.of h2, fun ns p pm pw hp => q _ _ (Ex.new hp) (by rw [hm ns pm pw]; exact ls_of ⟨p, rfl, upd_same⟩)⟩
theorem perm_lift {α : Type} {F : V → α → Prop} {xs : List V} {l : List α} (h : Paired F xs l) {ys : List V} (p : ys.Perm xs) : ∃ m, m.Perm l ∧ Paired F ys m := by
  induction p generalizing l with
  | nil => exact ⟨l, .refl _, h⟩
  | cons x p ih =>
    cases h with
    | cons h t =>
      obtain ⟨m, p1, p2⟩ := ih t
      exact ⟨_ :: m, p1.cons _, .cons h p2⟩
  | swap x y r =>
    cases h with
    | cons h t =>
      cases t with
      | cons h' t' => exact ⟨_, .swap _ _ _, .cons h' (.cons h t')⟩
  | trans p1 p2 ih1 ih2 =>
    obtain ⟨m, q1, q2⟩ := ih2 h
    obtain ⟨m', q3, q4⟩ := ih1 q2
    exact ⟨m', q3.trans q1, q4⟩
/-- some list that is an arrangement of l -/
def IsPm {α : Type} (R : α → VP) (l : List α) : VP := fun v H => ∃ m, m.Perm l ∧ IsLs R m v H
instance {α : Type} (R : α → VP) [Tup R] (l : List α) : Mon (IsPm R l) := ⟨fun e ⟨m, p, h⟩ => ⟨m, p, Mon.mono e h⟩⟩
theorem sorted_ts {l : List (List Int)} (ha : EvP ta σ H (IsLs IsTI l)) : EvP (tCB (rSortTs K) (tCons ta tNil)) σ H (IsPm IsTI l) := evp_cb (eap_cons ha eap_nil) fun vs H1 _ hv => by
  obtain ⟨v, rfl, a, xs, rfl, h2, h3⟩ := all1 hv
  intro Q q
  refine ⟨a, xs, rfl, SqL.of h2, fun x hx => ?_, fun ys p pm hp => ?_⟩
  · obtain ⟨i, hi⟩ := List.getElem?_of_mem hx
    obtain ⟨ns, _, t, h4, h5⟩ := paired_at h3 hi
    exact ⟨ns, t, h4, SqT.of h5⟩
  · obtain ⟨m, pm', h6⟩ := perm_lift h3 pm
    exact q _ _ (Ex.new hp) ⟨m, pm', p, ys, rfl, upd_same, Paired.mapP h6 fun _ _ z => Tup.stay (ExT.new hp) z⟩
/-! ### comprehensions -/
/-- what the target's names hold, given the item -/
def Tg {α : Type} (g : TG) (R : α → VP) (σ0 : L2.St) (τ : V → α → L2.St) : Prop := ∀ x b H, R b x H → ∀ Q : L2.St → Hp → Prop, Q (τ x b) H → g x σ0 H Q
theorem tg_name {α : Type} {R : α → VP} {σ0 : L2.St} : Tg (gName j) R σ0 (fun x _ => σ0.set j (some x)) := fun _ _ _ _ _ q => q
theorem tg_pair {σ0 : L2.St} : Tg (gTup K 2 (gCons (gName i) (gCons (gName j) gNil))) IsAr σ0 (fun _ e => (σ0.set i (some (.int e.1))).set j (some (.int e.2))) := fun x e H ⟨a, h1, h2⟩ Q q =>
  ⟨a, _, h1, SqT.of h2, rfl, _, _, rfl, _, _, rfl, rfl, q⟩
variable {α β : Type} {src : List α} {R : α → VP} {S : β → VP} {g : TG} {tt : TT} {vs : List Nat} {tl : TE}
/-- the new list, while it is built -/
def LcI (S : β → VP) (H2 : Hp) (D : Addr) (m : List β) (H' : Hp) : Prop := ∃ acc, H' D = some (.lst acc) ∧ Ex H2 H' ∧ Paired (fun y c => S c y H') acc m
theorem lc_turn [Tup S] {σ2 : L2.St} {H2 : Hp} {Dl : Addr} {m : List β} {b : Bool} {c : β} {Nx : Hp → Prop} (hD : H2 Dl = none) (w : LcI S H2 Dl m H') (hm : m.length ≤ 40000) (ht : EvT tt σ2 H' b) (he : b = true → EvP te σ2 H' (S c)) (k : ∀ H3, LcI S H2 Dl (m ++ if b then [c] else []) H3 → Nx H3) :
    tt σ2 H' fun b H3 => if b = true then te σ2 H3 fun y H4 => ∃ acc, H4 Dl = some (.lst acc) ∧ acc.length < sizeLine ∧ Nx (upd H4 Dl (.lst (acc ++ [y]))) else Nx H3 := by
  obtain ⟨acc, h1, h2, h3⟩ := w
  refine ht H' (Ex.refl _) _ fun H3 e3 => ?_
  cases b with
  | true =>
    rw [if_pos rfl]
    refine he rfl H3 e3 _ fun y H4 e4 sy => ⟨acc, (e3.trans e4) _ _ h1, by rw [h3.length]; exact sz_lt (by omega), k _ ?_⟩
    have q := (e3.trans e4) _ _ h1
    exact ⟨acc ++ [y], upd_same, (h2.trans (e3.trans e4)).mut hD, Paired.snoc (Paired.mapP h3 fun _ _ z => Tup.stay ((Ex.t (e3.trans e4)).trans (ExT.lst q)) z) (Tup.stay (ExT.lst q) sy)⟩
  | false =>
    rw [if_neg Bool.false_ne_true]
    refine k _ ⟨acc, e3 _ _ h1, h2.trans e3, ?_⟩
    rw [if_neg Bool.false_ne_true, List.append_nil]
    exact Paired.mapP h3 fun _ _ z => Tup.stay (Ex.t e3) z
theorem take_more (p : α → Bool) (f : α → β) {k : Nat} {b : α} (h : src[k]? = some b) : ((src.take (k + 1)).filter p).map f = ((src.take k).filter p).map f ++ if p b then [f b] else [] := by
  rw [take_succ_filter p src k b h, List.map_append]
  cases p b <;> rfl
theorem take_len (p : α → Bool) (f : α → β) (k : Nat) : (((src.take k).filter p).map f).length ≤ src.length := by
  rw [List.length_map]
  refine Nat.le_trans (List.length_filter_le _ _) ?_
  rw [List.length_take]
  exact Nat.min_le_right _ _
theorem lcL [Tup R] [Tup S] (p : α → Bool) (f : α → β) (τ : V → α → L2.St) (h : EvP tl σ H (IsLs R src)) (hz : src.length ≤ 40000) (hg : Tg g R (wipe σ vs) τ) (hw : ∀ x b, wipe (τ x b) vs = wipe σ vs)
    (ht : ∀ b ∈ src, ∀ x H1, Ex H H1 → R b x H1 → EvT tt (τ x b) H1 (p b)) (he : ∀ b ∈ src, p b = true → ∀ x H1, Ex H H1 → R b x H1 → EvP te (τ x b) H1 (S (f b))) :
    EvP (tLc (iList K tl) g tt te vs) σ H (IsLs S ((src.filter p).map f)) := by
  intro H1 e1 Q q
  refine h H1 e1 _ fun v H2 e2 ⟨a, xs, hv, ha, pr⟩ => ⟨a, hv, ⟨xs, SqL.of ha⟩, fun D hD => ?_⟩
  refine lc_list (K := K) (a := a) (xs := xs) (fun i H' => LcI S H2 D (((src.take i).filter p).map f) H') ⟨[], upd_same, Ex.new hD, .nil⟩ (fun i H' _ ⟨_, _, z, _⟩ => SqL.of (z _ _ ha)) (fun i x H' hx w => ?_) fun H' w => ?_
  · obtain ⟨b, hb, rb⟩ := paired_at pr hx
    have w' := w
    obtain ⟨acc, h1, h2, h3⟩ := w'
    have rb' : R b x H' := Tup.stay (Ex.t h2) rb
    have eH : Ex H H' := (e1.trans e2).trans h2
    have mb := List.mem_of_getElem? hb
    exact hg x b H' rb' _ ⟨hw x b, lc_turn hD w (Nat.le_trans (take_len p f i) hz) (ht b mb x H' eH rb') (fun z => he b mb z x H' eH rb') fun H3 w3 => by rw [take_more p f hb]; exact w3⟩
  · obtain ⟨acc, h1, h2, h3⟩ := w
    rw [pr.length, List.take_length] at h3
    exact q _ _ (e2.trans h2) ⟨D, acc, rfl, h1, h3⟩
theorem lcT [Tup R] [Tup S] (p : α → Bool) (f : α → β) (τ : V → α → L2.St) (h : EvP tl σ H (IsTs R src)) (hz : src.length ≤ 40000) (hg : Tg g R (wipe σ vs) τ) (hw : ∀ x b, wipe (τ x b) vs = wipe σ vs)
    (ht : ∀ b ∈ src, ∀ x H1, Ex H H1 → R b x H1 → EvT tt (τ x b) H1 (p b)) (he : ∀ b ∈ src, p b = true → ∀ x H1, Ex H H1 → R b x H1 → EvP te (τ x b) H1 (S (f b))) :
    EvP (tLc (iTup K tl) g tt te vs) σ H (IsLs S ((src.filter p).map f)) := by
  intro H1 e1 Q q
  refine h H1 e1 _ fun v H2 e2 ⟨a, xs, hv, ha, pr⟩ => ⟨a, hv, ⟨xs, SqT.of ha⟩, fun D hD => ?_⟩
  refine lc_tup (K := K) (a := a) (xs := xs) (fun i H' => LcI S H2 D (((src.take i).filter p).map f) H') ⟨[], upd_same, Ex.new hD, .nil⟩ (fun i H' _ ⟨_, _, z, _⟩ => SqT.of (z _ _ ha)) (fun i x H' hx w => ?_) fun H' w => ?_
  · obtain ⟨b, hb, rb⟩ := paired_at pr hx
    have w' := w
    obtain ⟨acc, h1, h2, h3⟩ := w'
    have rb' : R b x H' := Tup.stay (Ex.t h2) rb
    have eH : Ex H H' := (e1.trans e2).trans h2
    have mb := List.mem_of_getElem? hb
    exact hg x b H' rb' _ ⟨hw x b, lc_turn hD w (Nat.le_trans (take_len p f i) hz) (ht b mb x H' eH rb') (fun z => he b mb z x H' eH rb') fun H3 w3 => by rw [take_more p f hb]; exact w3⟩
  · obtain ⟨acc, h1, h2, h3⟩ := w
    rw [pr.length, List.take_length] at h3
    exact q _ _ (e2.trans h2) ⟨D, acc, rfl, h1, h3⟩
/-- over range(n) -/
theorem lcR [Tup S] {n : Nat} (p : Int → Bool) (f : Int → β) (h : EvP tl σ H (IsI n)) (hz : n ≤ 40000) (hw : ∀ x, wipe ((wipe σ vs).set j (some x)) vs = wipe σ vs)
    (ht : ∀ k : Int, 0 ≤ k → k < n → ∀ H1, Ex H H1 → EvT tt ((wipe σ vs).set j (some (.int k))) H1 (p k)) (he : ∀ k : Int, 0 ≤ k → k < n → p k = true → ∀ H1, Ex H H1 → EvP te ((wipe σ vs).set j (some (.int k))) H1 (S (f k))) :
    EvP (tLc (iRng1 (tCons tl tNil)) (gName j) tt te vs) σ H (IsLs S ((((List.range n).map fun (i : Nat) => (i : Int)).filter p).map f)) := by
  intro H1 e1 Q q
  refine h H1 e1 _ fun v H2 e2 hv => ⟨n, by rw [show v = .int n from hv], by omega, by omega, fun D hD => ?_⟩
  have et : ((n : Int)).toNat = n := by omega
  rw [et]
  have gk : ∀ i, i < n → ((List.range n).map fun (i : Nat) => (i : Int))[i]? = some (i : Int) := fun i hi => by
    rw [List.getElem?_map, List.getElem?_range hi]
    rfl
  refine lc_range (lo := 0) (n := n) (fun i H' => LcI S H2 D (((((List.range n).map fun (i : Nat) => (i : Int)).take i).filter p).map f) H') ⟨[], upd_same, Ex.new hD, .nil⟩ (fun i H' hi w => ?_) fun H' w => ?_
  · have w' := w
    obtain ⟨acc, h1, h2, h3⟩ := w'
    have eH : Ex H H' := (e1.trans e2).trans h2
    have z : V.int (0 + (i : Int)) = V.int (i : Int) := by rw [Int.zero_add]
    rw [z]
    refine ⟨hw _, lc_turn (c := f (i : Int)) hD w (Nat.le_trans (take_len p f i) (by rw [List.length_map, List.length_range]; exact hz)) (ht i (by omega) (by omega) H' eH) (fun z => he i (by omega) (by omega) z H' eH) fun H3 w3 => ?_⟩
    rw [take_more p f (gk i hi)]
    exact w3
  · obtain ⟨acc, h1, h2, h3⟩ := w
    rw [List.take_of_length_le (by rw [List.length_map, List.length_range]; exact Nat.le_refl _)] at h3
    exact q _ _ (e2.trans h2) ⟨D, acc, rfl, h1, h3⟩
theorem yes : EvT tYes σ H true := fun H1 e1 Q q => q H1 (Ex.refl _)
end
end LDW

/-! The text by places. -/
namespace LDW
open PySem PySem.Spec PyProof.Rows L2
def topS (i : Nat) : Stmt := PySem.Challenge.pw_latchdoors_k22_whole_freezing_deeds.main.body.getD i (.Pass ⟨0, 0, 0, 0⟩)
abbrev s_is_in : Stmt := topS 7
theorem sc_is_in : FnScope ["value", "least", "most"] ["value", "least", "most"] (defScope s_is_in) := ⟨rfl, rfl, rfl, by decide +kernel, rfl, by decide +kernel, by decide +kernel⟩
abbrev s_is_arrow : Stmt := topS 10
theorem sc_is_arrow : FnScope ["value", "many", "one"] ["value", "many"] (defScope s_is_arrow) := ⟨rfl, rfl, rfl, by decide +kernel, rfl, by decide +kernel, by decide +kernel⟩
abbrev s_need_web : Stmt := topS 11
theorem sc_need_web : FnScope ["web", "index", "one"] ["web"] (defScope s_need_web) := ⟨rfl, rfl, rfl, by decide +kernel, rfl, by decide +kernel, by decide +kernel⟩
abbrev s_need_door : Stmt := topS 12
theorem sc_need_door : FnScope ["web", "door"] ["web", "door"] (defScope s_need_door) := ⟨rfl, rfl, rfl, by decide +kernel, rfl, by decide +kernel, by decide +kernel⟩
abbrev s_need_opened : Stmt := topS 13
theorem sc_need_opened : FnScope ["web", "opened", "index", "one"] ["web", "opened"] (defScope s_need_opened) := ⟨rfl, rfl, rfl, by decide +kernel, rfl, by decide +kernel, by decide +kernel⟩
abbrev s_need_both : Stmt := topS 14
theorem sc_need_both : FnScope ["web", "opened"] ["web", "opened"] (defScope s_need_both) := ⟨rfl, rfl, rfl, by decide +kernel, rfl, by decide +kernel, by decide +kernel⟩
abbrev s_open_in : Stmt := topS 16
theorem sc_open_in : FnScope ["web", "opened", "barred", "one", "other", "k"] ["web", "opened"] (defScope s_open_in) := ⟨rfl, rfl, rfl, by decide +kernel, rfl, by decide +kernel, by decide +kernel⟩
abbrev s_shut_in : Stmt := topS 17
theorem sc_shut_in : FnScope ["web", "opened", "barred", "one", "other", "k"] ["web", "opened"] (defScope s_shut_in) := ⟨rfl, rfl, rfl, by decide +kernel, rfl, by decide +kernel, by decide +kernel⟩
abbrev s_changed : Stmt := topS 18
theorem sc_changed : FnScope ["opened", "door", "k"] ["opened", "door"] (defScope s_changed) := ⟨rfl, rfl, rfl, by decide +kernel, rfl, by decide +kernel, by decide +kernel⟩
abbrev s_doable : Stmt := topS 19
theorem sc_doable : FnScope ["web", "opened"] ["web", "opened"] (defScope s_doable) := ⟨rfl, rfl, rfl, by decide +kernel, rfl, by decide +kernel, by decide +kernel⟩
abbrev s_pairs_in : Stmt := topS 21
theorem sc_pairs_in : FnScope ["web", "opened", "arrow"] ["web", "opened"] (defScope s_pairs_in) := ⟨rfl, rfl, rfl, by decide +kernel, rfl, by decide +kernel, by decide +kernel⟩
abbrev s_frozen_in : Stmt := topS 22
theorem sc_frozen_in : FnScope ["web", "opened", "found", "one", "other"] ["web", "opened"] (defScope s_frozen_in) := ⟨rfl, rfl, rfl, by decide +kernel, rfl, by decide +kernel, by decide +kernel⟩
abbrev s_loose_in : Stmt := topS 23
theorem sc_loose_in : FnScope ["web", "opened", "some", "k"] ["web", "opened"] (defScope s_loose_in) := ⟨rfl, rfl, rfl, by decide +kernel, rfl, by decide +kernel, by decide +kernel⟩
abbrev s_standings : Stmt := topS 24
theorem sc_standings : FnScope ["doors", "found", "door", "one"] ["doors"] (defScope s_standings) := ⟨rfl, rfl, rfl, by decide +kernel, rfl, by decide +kernel, by decide +kernel⟩
abbrev s_ringless : Stmt := topS 26
theorem sc_ringless : FnScope ["web", "some", "left", "more", "k", "one", "other"] ["web", "some"] (defScope s_ringless) := ⟨rfl, rfl, rfl, by decide +kernel, rfl, by decide +kernel, by decide +kernel⟩
abbrev s_sets_in : Stmt := topS 27
theorem sc_sets_in : FnScope ["web", "some", "one"] ["web", "some"] (defScope s_sets_in) := ⟨rfl, rfl, rfl, by decide +kernel, rfl, by decide +kernel, by decide +kernel⟩
abbrev s_fresh_in : Stmt := topS 29
theorem sc_fresh_in : FnScope ["one", "other", "k"] ["one", "other"] (defScope s_fresh_in) := ⟨rfl, rfl, rfl, by decide +kernel, rfl, by decide +kernel, by decide +kernel⟩
abbrev s_sides_in : Stmt := topS 30
theorem sc_sides_in : FnScope ["web", "opened", "some", "k"] ["web", "opened"] (defScope s_sides_in) := ⟨rfl, rfl, rfl, by decide +kernel, rfl, by decide +kernel, by decide +kernel⟩
abbrev s_come_in : Stmt := topS 31
theorem sc_come_in : FnScope ["web", "opened", "fresh", "old", "found", "more", "less", "k"] ["web", "opened"] (defScope s_come_in) := ⟨rfl, rfl, rfl, by decide +kernel, rfl, by decide +kernel, by decide +kernel⟩
abbrev s_newly : Stmt := topS 33
theorem sc_newly : FnScope ["web", "opened", "door", "old", "k"] ["web", "opened", "door"] (defScope s_newly) := ⟨rfl, rfl, rfl, by decide +kernel, rfl, by decide +kernel, by decide +kernel⟩
abbrev s_frozen_by : Stmt := topS 34
theorem sc_frozen_by : FnScope ["web", "opened", "door"] ["web", "opened", "door"] (defScope s_frozen_by) := ⟨rfl, rfl, rfl, by decide +kernel, rfl, by decide +kernel, by decide +kernel⟩
abbrev s_freezing_deeds : Stmt := topS 35
theorem sc_freezing_deeds : FnScope ["web", "opened", "k"] ["web", "opened"] (defScope s_freezing_deeds) := ⟨rfl, rfl, rfl, by decide +kernel, rfl, by decide +kernel, by decide +kernel⟩
abbrev s_costs_of : Stmt := topS 36
theorem sc_costs_of : FnScope ["web", "opened", "door", "some", "one"] ["web", "opened", "door"] (defScope s_costs_of) := ⟨rfl, rfl, rfl, by decide +kernel, rfl, by decide +kernel, by decide +kernel⟩
abbrev s_fewest_to_freeze : Stmt := topS 37
theorem sc_fewest_to_freeze : FnScope ["web", "opened", "door", "some", "wide", "ends", "starts", "at_once", "later", "one", "other", "k"] ["web", "opened", "door"] (defScope s_fewest_to_freeze) := ⟨rfl, rfl, rfl, by decide +kernel, rfl, by decide +kernel, by decide +kernel⟩
abbrev s_never_frozen : Stmt := topS 38
theorem sc_never_frozen : FnScope ["web", "opened", "k"] ["web", "opened"] (defScope s_never_frozen) := ⟨rfl, rfl, rfl, by decide +kernel, rfl, by decide +kernel, by decide +kernel⟩
abbrev s_freeze_ways : Stmt := topS 39
theorem sc_freeze_ways : FnScope ["web", "opened", "door", "costs"] ["web", "opened", "door"] (defScope s_freeze_ways) := ⟨rfl, rfl, rfl, by decide +kernel, rfl, by decide +kernel, by decide +kernel⟩
abbrev s_law_taken : Stmt := topS 41
theorem sc__law_taken : FnScope ["_law_row", "_law_many", "_law_found", "_law_cell"] ["_law_row", "_law_many"] (defScope s_law_taken) := ⟨rfl, rfl, rfl, by decide +kernel, rfl, by decide +kernel, by decide +kernel⟩
abbrev s_law_pick : Stmt := topS 42
theorem sc__law_pick : FnScope ["_law_row", "_law_things"] ["_law_row", "_law_things"] (defScope s_law_pick) := ⟨rfl, rfl, rfl, by decide +kernel, rfl, by decide +kernel, by decide +kernel⟩
abbrev s_law_web : Stmt := topS 43
theorem sc__law_web : FnScope ["_law_row", "_law_most", "_law_many", "_law_way", "_law_thin", "_law_arrows", "_law_k", "_law_j"] ["_law_row", "_law_most"] (defScope s_law_web) := ⟨rfl, rfl, rfl, by decide +kernel, rfl, by decide +kernel, by decide +kernel⟩
abbrev s_law_standing : Stmt := topS 44
theorem sc__law_standing : FnScope ["_law_row", "_law_web_here", "_law_way", "_law_found", "_law_turn", "_law_k", "_law_one", "_law_other"] ["_law_row", "_law_web_here"] (defScope s_law_standing) := ⟨rfl, rfl, rfl, by decide +kernel, rfl, by decide +kernel, by decide +kernel⟩
abbrev s_law_changed : Stmt := topS 45
theorem sc__law_changed : FnScope ["_law_opened", "_law_door", "_law_k"] ["_law_opened", "_law_door"] (defScope s_law_changed) := ⟨rfl, rfl, rfl, by decide +kernel, rfl, by decide +kernel, by decide +kernel⟩
abbrev s_law_open : Stmt := topS 46
theorem sc__law_open : FnScope ["_law_web_here", "_law_opened", "_law_k", "_law_one"] ["_law_web_here", "_law_opened"] (defScope s_law_open) := ⟨rfl, rfl, rfl, by decide +kernel, rfl, by decide +kernel, by decide +kernel⟩
abbrev s_law_shut : Stmt := topS 47
theorem sc__law_shut : FnScope ["_law_web_here", "_law_opened", "_law_k", "_law_j"] ["_law_web_here", "_law_opened"] (defScope s_law_shut) := ⟨rfl, rfl, rfl, by decide +kernel, rfl, by decide +kernel, by decide +kernel⟩
abbrev s_law_after : Stmt := topS 48
theorem sc__law_after : FnScope ["_law_web_here", "_law_opened", "_law_k"] ["_law_web_here", "_law_opened"] (defScope s_law_after) := ⟨rfl, rfl, rfl, by decide +kernel, rfl, by decide +kernel, by decide +kernel⟩
abbrev s_law_from : Stmt := topS 49
theorem sc__law_from : FnScope ["_law_web_here", "_law_opened", "_law_found", "_law_rows", "_law_more", "_law_here", "_law_door", "_law_there"] ["_law_web_here", "_law_opened"] (defScope s_law_from) := ⟨rfl, rfl, rfl, by decide +kernel, rfl, by decide +kernel, by decide +kernel⟩
abbrev s_law_frozen : Stmt := topS 50
theorem sc__law_frozen : FnScope ["_law_web_here", "_law_opened", "_law_some", "_law_arrow", "_law_k"] ["_law_web_here", "_law_opened"] (defScope s_law_frozen) := ⟨rfl, rfl, rfl, by decide +kernel, rfl, by decide +kernel, by decide +kernel⟩
abbrev s_law_alike : Stmt := topS 51
theorem sc__law_alike : FnScope ["_law_found", "_law_due", "_law_k"] ["_law_found", "_law_due"] (defScope s_law_alike) := ⟨rfl, rfl, rfl, by decide +kernel, rfl, by decide +kernel, by decide +kernel⟩
abbrev s_law : Stmt := topS 52
theorem sc_law : FnScope ["_law_script", "_law_row", "_law_web_here", "_law_opened", "_law_known", "_law_cold", "_law_can", "_law_due", "_law_k", "_law_told", "error", "_law_never", "_law_costs", "_law_there", "_law_j"] ["_law_script"] (defScope s_law) := ⟨rfl, rfl, rfl, by decide +kernel, rfl, by decide +kernel, by decide +kernel⟩
/-- what the top has written -/
structure Txt (K : PySem.W.Frag) (mg : Str → Option Value) where
  a_is_in : Addr
  d_is_in : FuncData
  F_is_in : Fun K "is_in" "is_in" s_is_in a_is_in d_is_in
  g_is_in : mg "is_in" = some (.ref a_is_in)
  b_is_in : Binds K d_is_in ["value", "least", "most"] []
  a_is_arrow : Addr
  d_is_arrow : FuncData
  F_is_arrow : Fun K "is_arrow" "is_arrow" s_is_arrow a_is_arrow d_is_arrow
  g_is_arrow : mg "is_arrow" = some (.ref a_is_arrow)
  b_is_arrow : Binds K d_is_arrow ["value", "many"] []
  a_need_web : Addr
  d_need_web : FuncData
  F_need_web : Fun K "need_web" "need_web" s_need_web a_need_web d_need_web
  g_need_web : mg "need_web" = some (.ref a_need_web)
  b_need_web : Binds K d_need_web ["web"] []
  a_need_door : Addr
  d_need_door : FuncData
  F_need_door : Fun K "need_door" "need_door" s_need_door a_need_door d_need_door
  g_need_door : mg "need_door" = some (.ref a_need_door)
  b_need_door : Binds K d_need_door ["web", "door"] []
  a_need_opened : Addr
  d_need_opened : FuncData
  F_need_opened : Fun K "need_opened" "need_opened" s_need_opened a_need_opened d_need_opened
  g_need_opened : mg "need_opened" = some (.ref a_need_opened)
  b_need_opened : Binds K d_need_opened ["web", "opened"] []
  a_need_both : Addr
  d_need_both : FuncData
  F_need_both : Fun K "need_both" "need_both" s_need_both a_need_both d_need_both
  g_need_both : mg "need_both" = some (.ref a_need_both)
  b_need_both : Binds K d_need_both ["web", "opened"] []
  a_open_in : Addr
  d_open_in : FuncData
  F_open_in : Fun K "open_in" "open_in" s_open_in a_open_in d_open_in
  g_open_in : mg "open_in" = some (.ref a_open_in)
  b_open_in : Binds K d_open_in ["web", "opened"] []
  a_shut_in : Addr
  d_shut_in : FuncData
  F_shut_in : Fun K "shut_in" "shut_in" s_shut_in a_shut_in d_shut_in
  g_shut_in : mg "shut_in" = some (.ref a_shut_in)
  b_shut_in : Binds K d_shut_in ["web", "opened"] []
  a_changed : Addr
  d_changed : FuncData
  F_changed : Fun K "changed" "changed" s_changed a_changed d_changed
  g_changed : mg "changed" = some (.ref a_changed)
  b_changed : Binds K d_changed ["opened", "door"] []
  a_doable : Addr
  d_doable : FuncData
  F_doable : Fun K "doable" "doable" s_doable a_doable d_doable
  g_doable : mg "doable" = some (.ref a_doable)
  b_doable : Binds K d_doable ["web", "opened"] []
  a_pairs_in : Addr
  d_pairs_in : FuncData
  F_pairs_in : Fun K "pairs_in" "pairs_in" s_pairs_in a_pairs_in d_pairs_in
  g_pairs_in : mg "pairs_in" = some (.ref a_pairs_in)
  b_pairs_in : Binds K d_pairs_in ["web", "opened"] []
  a_frozen_in : Addr
  d_frozen_in : FuncData
  F_frozen_in : Fun K "frozen_in" "frozen_in" s_frozen_in a_frozen_in d_frozen_in
  g_frozen_in : mg "frozen_in" = some (.ref a_frozen_in)
  b_frozen_in : Binds K d_frozen_in ["web", "opened"] []
  a_loose_in : Addr
  d_loose_in : FuncData
  F_loose_in : Fun K "loose_in" "loose_in" s_loose_in a_loose_in d_loose_in
  g_loose_in : mg "loose_in" = some (.ref a_loose_in)
  b_loose_in : Binds K d_loose_in ["web", "opened"] []
  a_standings : Addr
  d_standings : FuncData
  F_standings : Fun K "standings" "standings" s_standings a_standings d_standings
  g_standings : mg "standings" = some (.ref a_standings)
  b_standings : Binds K d_standings ["doors"] []
  a_ringless : Addr
  d_ringless : FuncData
  F_ringless : Fun K "ringless" "ringless" s_ringless a_ringless d_ringless
  g_ringless : mg "ringless" = some (.ref a_ringless)
  b_ringless : Binds K d_ringless ["web", "some"] []
  a_sets_in : Addr
  d_sets_in : FuncData
  F_sets_in : Fun K "sets_in" "sets_in" s_sets_in a_sets_in d_sets_in
  g_sets_in : mg "sets_in" = some (.ref a_sets_in)
  b_sets_in : Binds K d_sets_in ["web", "some"] []
  a_fresh_in : Addr
  d_fresh_in : FuncData
  F_fresh_in : Fun K "fresh_in" "fresh_in" s_fresh_in a_fresh_in d_fresh_in
  g_fresh_in : mg "fresh_in" = some (.ref a_fresh_in)
  b_fresh_in : Binds K d_fresh_in ["one", "other"] []
  a_sides_in : Addr
  d_sides_in : FuncData
  F_sides_in : Fun K "sides_in" "sides_in" s_sides_in a_sides_in d_sides_in
  g_sides_in : mg "sides_in" = some (.ref a_sides_in)
  b_sides_in : Binds K d_sides_in ["web", "opened"] []
  a_come_in : Addr
  d_come_in : FuncData
  F_come_in : Fun K "come_in" "come_in" s_come_in a_come_in d_come_in
  g_come_in : mg "come_in" = some (.ref a_come_in)
  b_come_in : Binds K d_come_in ["web", "opened"] []
  a_newly : Addr
  d_newly : FuncData
  F_newly : Fun K "newly" "newly" s_newly a_newly d_newly
  g_newly : mg "newly" = some (.ref a_newly)
  b_newly : Binds K d_newly ["web", "opened", "door"] []
  a_frozen_by : Addr
  d_frozen_by : FuncData
  F_frozen_by : Fun K "frozen_by" "frozen_by" s_frozen_by a_frozen_by d_frozen_by
  g_frozen_by : mg "frozen_by" = some (.ref a_frozen_by)
  b_frozen_by : Binds K d_frozen_by ["web", "opened", "door"] []
  a_freezing_deeds : Addr
  d_freezing_deeds : FuncData
  F_freezing_deeds : Fun K "freezing_deeds" "freezing_deeds" s_freezing_deeds a_freezing_deeds d_freezing_deeds
  g_freezing_deeds : mg "freezing_deeds" = some (.ref a_freezing_deeds)
  b_freezing_deeds : Binds K d_freezing_deeds ["web", "opened"] []
  a_costs_of : Addr
  d_costs_of : FuncData
  F_costs_of : Fun K "costs_of" "costs_of" s_costs_of a_costs_of d_costs_of
  g_costs_of : mg "costs_of" = some (.ref a_costs_of)
  b_costs_of : Binds K d_costs_of ["web", "opened", "door"] []
  a_fewest_to_freeze : Addr
  d_fewest_to_freeze : FuncData
  F_fewest_to_freeze : Fun K "fewest_to_freeze" "fewest_to_freeze" s_fewest_to_freeze a_fewest_to_freeze d_fewest_to_freeze
  g_fewest_to_freeze : mg "fewest_to_freeze" = some (.ref a_fewest_to_freeze)
  b_fewest_to_freeze : Binds K d_fewest_to_freeze ["web", "opened", "door"] []
  a_never_frozen : Addr
  d_never_frozen : FuncData
  F_never_frozen : Fun K "never_frozen" "never_frozen" s_never_frozen a_never_frozen d_never_frozen
  g_never_frozen : mg "never_frozen" = some (.ref a_never_frozen)
  b_never_frozen : Binds K d_never_frozen ["web", "opened"] []
  a_freeze_ways : Addr
  d_freeze_ways : FuncData
  F_freeze_ways : Fun K "freeze_ways" "freeze_ways" s_freeze_ways a_freeze_ways d_freeze_ways
  g_freeze_ways : mg "freeze_ways" = some (.ref a_freeze_ways)
  b_freeze_ways : Binds K d_freeze_ways ["web", "opened", "door"] []
  a__law_taken : Addr
  d__law_taken : FuncData
  F__law_taken : Fun K "_law_taken" "_law_taken" s_law_taken a__law_taken d__law_taken
  g__law_taken : mg "_law_taken" = some (.ref a__law_taken)
  b__law_taken : Binds K d__law_taken ["_law_row", "_law_many"] []
  a__law_pick : Addr
  d__law_pick : FuncData
  F__law_pick : Fun K "_law_pick" "_law_pick" s_law_pick a__law_pick d__law_pick
  g__law_pick : mg "_law_pick" = some (.ref a__law_pick)
  b__law_pick : Binds K d__law_pick ["_law_row", "_law_things"] []
  a__law_web : Addr
  d__law_web : FuncData
  F__law_web : Fun K "_law_web" "_law_web" s_law_web a__law_web d__law_web
  g__law_web : mg "_law_web" = some (.ref a__law_web)
  b__law_web : Binds K d__law_web ["_law_row", "_law_most"] []
  a__law_standing : Addr
  d__law_standing : FuncData
  F__law_standing : Fun K "_law_standing" "_law_standing" s_law_standing a__law_standing d__law_standing
  g__law_standing : mg "_law_standing" = some (.ref a__law_standing)
  b__law_standing : Binds K d__law_standing ["_law_row", "_law_web_here"] []
  a__law_changed : Addr
  d__law_changed : FuncData
  F__law_changed : Fun K "_law_changed" "_law_changed" s_law_changed a__law_changed d__law_changed
  g__law_changed : mg "_law_changed" = some (.ref a__law_changed)
  b__law_changed : Binds K d__law_changed ["_law_opened", "_law_door"] []
  a__law_open : Addr
  d__law_open : FuncData
  F__law_open : Fun K "_law_open" "_law_open" s_law_open a__law_open d__law_open
  g__law_open : mg "_law_open" = some (.ref a__law_open)
  b__law_open : Binds K d__law_open ["_law_web_here", "_law_opened"] []
  a__law_shut : Addr
  d__law_shut : FuncData
  F__law_shut : Fun K "_law_shut" "_law_shut" s_law_shut a__law_shut d__law_shut
  g__law_shut : mg "_law_shut" = some (.ref a__law_shut)
  b__law_shut : Binds K d__law_shut ["_law_web_here", "_law_opened"] []
  a__law_after : Addr
  d__law_after : FuncData
  F__law_after : Fun K "_law_after" "_law_after" s_law_after a__law_after d__law_after
  g__law_after : mg "_law_after" = some (.ref a__law_after)
  b__law_after : Binds K d__law_after ["_law_web_here", "_law_opened"] []
  a__law_from : Addr
  d__law_from : FuncData
  F__law_from : Fun K "_law_from" "_law_from" s_law_from a__law_from d__law_from
  g__law_from : mg "_law_from" = some (.ref a__law_from)
  b__law_from : Binds K d__law_from ["_law_web_here", "_law_opened"] []
  a__law_frozen : Addr
  d__law_frozen : FuncData
  F__law_frozen : Fun K "_law_frozen" "_law_frozen" s_law_frozen a__law_frozen d__law_frozen
  g__law_frozen : mg "_law_frozen" = some (.ref a__law_frozen)
  b__law_frozen : Binds K d__law_frozen ["_law_web_here", "_law_opened"] []
  a__law_alike : Addr
  d__law_alike : FuncData
  F__law_alike : Fun K "_law_alike" "_law_alike" s_law_alike a__law_alike d__law_alike
  g__law_alike : mg "_law_alike" = some (.ref a__law_alike)
  b__law_alike : Binds K d__law_alike ["_law_found", "_law_due"] []
  a_law : Addr
  d_law : FuncData
  F_law : Fun K "law" "law" s_law a_law d_law
  g_law : mg "law" = some (.ref a_law)
  b_law : Binds K d_law ["_law_script"] []
  z_bool : mg "bool" = none
  z_dict : mg "dict" = none
  z_enumerate : mg "enumerate" = none
  z_int : mg "int" = none
  z_isinstance : mg "isinstance" = none
  z_len : mg "len" = none
  z_list : mg "list" = none
  z_min : mg "min" = none
  z_range : mg "range" = none
  z_set : mg "set" = none
  z_sorted : mg "sorted" = none
  z_str : mg "str" = none
  z_tuple : mg "tuple" = none
  a_DoorError : Addr
  a_BadDeed : Addr
  g_DoorError : mg "DoorError" = some (.ref a_DoorError)
  g_BadDeed : mg "BadDeed" = some (.ref a_BadDeed)
  x_BadDeed : PySem.W.excIn K a_BadDeed [.type "ValueError", .type "Exception", .type "BaseException", .type "object"] "ValueError.__new__" = true
  k_BadDeed : PySem.W.keepIn K (.ref a_BadDeed) = true
  s_BadDeed : PySem.W.subIn K (.ref a_BadDeed) (.type "BaseException") = some true
  t_BadDeed : PySem.W.typeIn K (.ref a_BadDeed) = some (.type "type")
  e_BadDeed : PySem.W.exmOne K (.ref a_BadDeed) (.ref a_DoorError) = some true
  c_BadDeed : L2.ExcC K a_BadDeed
  tMOST : Tok
  g_MOST_DOORS : mg "MOST_DOORS" = some (.int 9 tMOST)
end LDW

/-! The promises' common shapes. -/
namespace LDW
open PySem PySem.Spec PyProof.Rows L2 Evl LD
/-! ### the rules that read the written part K, K told apart -/
section
variable {X : Cx} {K : PySem.W.Frag} {tg l e : Expr} {tl : TE}
theorem kIn (h : X.K = K) : OpR X (compareOp .In) (rIn K false) := h ▸ op_in_seq
theorem kNotIn (h : X.K = K) : OpR X (compareOp .NotIn) (rIn K true) := h ▸ op_notIn_seq
theorem kInU (h : X.K = K) (hu : X.A.units + 65 < cLine) : OpR X (compareOp .In) (rInU K) := h ▸ op_inU hu
theorem kEqD (h : X.K = K) (hu : X.A.units + 64 < cLine) : OpR X (compareOp .Eq) (rEqD K) := h ▸ op_eqD hu
theorem kNeD (h : X.K = K) (hu : X.A.units + 64 < cLine) : OpR X (compareOp .NotEq) (rNeD K) := h ▸ op_neD hu
theorem kLeT (h : X.K = K) (hu : X.A.units < cLine) : OpR X (compareOp .LtE) (rLeT K) := h ▸ op_leT hu
theorem kCatA (h : X.K = K) : OpR X (binaryOp .Add) (rCatA K) := h ▸ op_catA
theorem kIxL (h : X.K = K) : IxR X (rIxL K) := h ▸ ix_list
theorem kIxT (h : X.K = K) : IxR X (rIxT K) := h ▸ ix_tup
theorem kLen (h : X.K = K) : CallR X (.builtin "len") (rLenS K) := h ▸ call_len_seq
theorem kList (h : X.K = K) : CallR X (.type "list") (rListS K) := h ▸ call_list_of
theorem kTuple (h : X.K = K) : CallR X (.type "tuple") (rTupS K) := h ▸ call_tuple_of
theorem kSortedI (h : X.K = K) : CallR X (.builtin "sorted") (rSortedI K) := h ▸ cr_sortedI
theorem kSortTs (h : X.K = K) (hu : X.A.units + 10 < cLine) : CallR X (.builtin "sorted") (rSortTs K) := h ▸ cr_sortTs hu
theorem kSetI {w : World} (h : X.K = K) (hw : X.w = w) (hc : X.calm = true) : CallR X (.type "set") (rSetI K w) := h ▸ hw ▸ cr_setI hc
theorem kSortedSet {w : World} (hw : X.w = w) (hc : X.calm = true) : CallR X (.builtin "sorted") (rSortedSet w) := hw ▸ cr_sortedSet hc
theorem kSetOfT {P : Program} {w : World} (h : X.K = K) (hP : X.prog = P) (hw : X.w = w) (hc : X.calm = true) (hu : X.A.units + 64 < cLine) : CallR X (.type "set") (rSetOfT K P w) := h ▸ hP ▸ hw ▸ cr_setOfT hc hu
theorem kSortedT {P : Program} {w : World} (h : X.K = K) (hP : X.prog = P) (hw : X.w = w) (hc : X.calm = true) : CallR X (.builtin "sorted") (rSortedT K P w) := h ▸ hP ▸ hw ▸ cr_sortedT hc
theorem kMin (h : X.K = K) (hc : X.calm = true) : CallR X (.builtin "min") (rMin K) := h ▸ cr_min hc
theorem kCount (h : X.K = K) : MtR X "list.count" (rCntI K) := h ▸ mt_lcount
theorem kIsi (h : X.K = K) : CallR X (.builtin "isinstance") (rIsi K) := h ▸ call_isi
theorem kIsiT (h : X.K = K) : CallR X (.builtin "isinstance") (rIsiT K) := h ▸ call_isiT
theorem kPiL (h : X.K = K) (hl : PE X l tl) : PI X tg l (iList K tl) := h ▸ pi_list hl
theorem kPiT (h : X.K = K) (hl : PE X l tl) : PI X tg l (iTup K tl) := h ▸ pi_tup hl
theorem kPgT {es : List Expr} {k : Nat} {t : TGs} {n : Nat} {pos : Pos} (h : X.K = K) (hc : X.calm = true) (ht : PGs X es t) (hn : (assignEach es X.env).length = n := by rfl) (hst : (assignEach es X.env).findIdx? (·.1) = none := by rfl) : PG X (.Tuple es k pos) (gTup K n t) := h ▸ pg_tup hc ht hn hst
theorem kEnumT {ta : TA} {p pos tpos : Pos} {elts : List Expr} {kk : Nat} (h : X.K = K) (hg : Gl X "enumerate") (hm : X.mg "enumerate" = none) (ha : PA X [e] ta) (hs : starEach [e] X.env = [(false, eval e X.env)] := by rfl) :
    PI X (.Tuple elts kk tpos) (.Call (.Name "enumerate" p) [e] [] pos) (iEnumT K ta) := h ▸ pi_enumT hg hm ha hs
end
/-- defs of a web and a standing -/
def spWO (post : Nat → Ar → List Int → VP) : Sp := spP (δ := Nat × Ar × List Int) (fun d => [IsWeb d.1 d.2.1, IsTI d.2.2]) (fun d => Wb d.1 d.2.1 ∧ Sd d.1 d.2.2) (fun d => post d.1 d.2.1 d.2.2)
/-- .. and a door -/
def spWOD (post : Nat → Ar → List Int → Int → VP) : Sp := spP (δ := Nat × Ar × List Int × Int) (fun d => [IsWeb d.1 d.2.1, IsTI d.2.2.1, IsI d.2.2.2]) (fun d => Wb d.1 d.2.1 ∧ Sd d.1 d.2.2.1 ∧ 0 ≤ d.2.2.2 ∧ d.2.2.2 < d.1) (fun d => post d.1 d.2.1 d.2.2.1 d.2.2.2)
section
variable {K : PySem.W.Frag} {σ : L2.St} {H H' : Hp} {te ta tb tc : TE} {n : Nat} {A : Ar} {O : List Int} {k : Int} {E : XK}
theorem callWO {post : Nat → Ar → List Int → VP} (W : Wb n A) (S : Sd n O) (ha : EvP ta σ H (IsWeb n A)) (hb : EvP tb σ H (IsTI O)) : EvP (tCall (spWO post) [] E (tCons ta (tCons tb tNil))) σ H (post n A O) :=
  evp_call (δ := Nat × Ar × List Int) (n, A, O) ⟨W, S⟩ (eap_cons ha (eap_cons hb eap_nil))
theorem callWOD {post : Nat → Ar → List Int → Int → VP} (W : Wb n A) (S : Sd n O) (hk : 0 ≤ k ∧ k < n) (ha : EvP ta σ H (IsWeb n A)) (hb : EvP tb σ H (IsTI O)) (hc : EvP tc σ H (IsI k)) : EvP (tCall (spWOD post) [] E (tCons ta (tCons tb (tCons tc tNil)))) σ H (post n A O k) :=
  evp_call (δ := Nat × Ar × List Int × Int) (n, A, O, k) ⟨W, S, hk.1, hk.2⟩ (eap_cons ha (eap_cons hb (eap_cons hc eap_nil)))
theorem IsLs.of {α : Type} {R : α → VP} {l m : List α} {v : V} (h : IsLs R l v H) (e : l = m) : IsLs R m v H := e ▸ h
theorem evp_ls {α : Type} {R : α → VP} {l m : List α} (h : EvP te σ H (IsLs R l)) (e : l = m) : EvP te σ H (IsLs R m) := e ▸ h
theorem evp_li {l : List Int} (h : EvP te σ H (IsLs IsI l)) : EvP te σ H (IsLI l) := h.imp fun v H1 _ q => li_of q
theorem evp_lis {l : List Int} (h : EvP te σ H (IsLI l)) : EvP te σ H (IsLs IsI l) := h.imp fun v H1 _ q => ls_of q
theorem evp_ti {l : List Int} (h : EvP te σ H (IsTs IsI l)) : EvP te σ H (IsTI l) := h.imp fun v H1 _ q => ti_of q
theorem evp_tis {l : List Int} (h : EvP te σ H (IsTI l)) : EvP te σ H (IsTs IsI l) := h.imp fun v H1 _ q => ts_of q
/-- a name's value, known at an earlier heap -/
theorem vr {i : Nat} {v : V} {P : VP} (e : Ex H H') (p : P v H) [Mon P] (h : σ[i]? = some (some v)) : EvP (tVar i) σ H' P := evp_var h (Mon.mono e p)
end
section
variable {K : PySem.W.Frag} {σ : L2.St} {H H' : Hp} {te ta tb tc tl : TE} {P P1 P2 P3 : VP} {t u : TT} {z v : V} {D : Ends} {tu tw tz : TS} {i j : Nat} {m n : Int}
/-! ### numbers -/
theorem evp_i : EvP (tC (.int n)) σ H (IsI n) := evp_c
theorem add_i (ha : EvP ta σ H (IsI m)) (hb : EvP tb σ H (IsI n)) : EvP (tOp (rI0 fun i j => .int (i + j)) ta tb) σ H (IsI (m + n)) := evp_op ha hb fun x y H1 _ p1 p2 Q q => ⟨m, n, p1, p2, q _ _ (Ex.refl _) rfl⟩
theorem sub_i (ha : EvP ta σ H (IsI m)) (hb : EvP tb σ H (IsI n)) : EvP (tOp (rI0 fun i j => .int (i - j)) ta tb) σ H (IsI (m - n)) := evp_op ha hb fun x y H1 _ p1 p2 Q q => ⟨m, n, p1, p2, q _ _ (Ex.refl _) rfl⟩
theorem le_i (ha : EvP ta σ H (IsI m)) (hb : EvP tb σ H (IsI n)) : EvT (tTest (tOp (rI0 fun i j => .bl (decide (i ≤ j))) ta tb)) σ H (decide (m ≤ n)) := evt_op ha hb fun x y H1 _ p1 p2 Q q => ⟨m, n, p1, p2, q⟩
theorem lt_i (ha : EvP ta σ H (IsI m)) (hb : EvP tb σ H (IsI n)) : EvT (tTest (tOp (rI0 fun i j => .bl (decide (i < j))) ta tb)) σ H (decide (m < n)) := evt_op ha hb fun x y H1 _ p1 p2 Q q => ⟨m, n, p1, p2, q⟩
theorem gt_i (ha : EvP ta σ H (IsI m)) (hb : EvP tb σ H (IsI n)) : EvT (tTest (tOp (rI0 fun i j => .bl (decide (j < i))) ta tb)) σ H (decide (n < m)) := evt_op ha hb fun x y H1 _ p1 p2 Q q => ⟨m, n, p1, p2, q⟩
theorem ge_i (ha : EvP ta σ H (IsI m)) (hb : EvP tb σ H (IsI n)) : EvT (tTest (tOp (rI0 fun i j => .bl (decide (j ≤ i))) ta tb)) σ H (decide (n ≤ m)) := evt_op ha hb fun x y H1 _ p1 p2 Q q => ⟨m, n, p1, p2, q⟩
theorem neV_i (ha : EvP ta σ H (IsI m)) (hb : EvP tb σ H (IsI n)) : EvP (tOp rNe ta tb) σ H (Is (.bl (!decide (m = n)))) := evp_op ha hb fun x y H1 _ p1 p2 Q q => by
  rw [show x = .int m from p1, show y = .int n from p2]
  refine ⟨rfl, q _ _ (Ex.refl _) ?_⟩
  show V.bl (!decide (V.int m = V.int n)) = V.bl (!decide (m = n))
  simp
theorem chain_le {l : Int} (ha : EvP ta σ H (IsI l)) (hb : EvP tb σ H (IsI m)) (hc : EvP tc σ H (IsI n)) : EvP (tChain (rI0 fun i j => .bl (decide (i ≤ j))) (rI0 fun i j => .bl (decide (i ≤ j))) ta tb tc) σ H (Is (.bl (decide (l ≤ m) && decide (m ≤ n)))) := fun H1 e1 Q q =>
  ha H1 e1 _ fun x H2 e2 p1 => hb H2 (e1.trans e2) _ fun y H3 e3 p2 => ⟨l, m, p1, p2, decide (l ≤ m), rfl, by
    by_cases c : l ≤ m
    · rw [decide_eq_true c, if_pos rfl]
      refine hc H3 ((e1.trans e2).trans e3) _ fun z H4 e4 p3 => ⟨m, n, p2, p3, q _ _ ((e2.trans e3).trans e4) ?_⟩
      rw [decide_eq_true c, Bool.true_and]
      exact rfl
    · rw [decide_eq_false c, if_neg Bool.false_ne_true]
      refine q _ _ (e2.trans e3) ?_
      rw [decide_eq_false c, Bool.false_and]
      exact rfl⟩
theorem evp_and {a b : Bool} (h1 : EvP ta σ H (Is (.bl a))) (h2 : a = true → EvP tb σ H (Is (.bl b))) : EvP (tAndV ta tb) σ H (Is (.bl (a && b))) := ev_to (ev_andV (ev_of h1) fun z => ev_of (h2 z))
theorem evp_not {a : Bool} (h1 : EvP ta σ H (Is (.bl a))) : EvP (tNotV ta) σ H (Is (.bl (!a))) := ev_to (ev_notV (ev_of h1))
theorem evp_b {a b : Bool} (h : EvP te σ H (Is (.bl a))) (e : a = b) : EvP te σ H (Is (.bl b)) := e ▸ h
/-! ### isinstance, len of tuples -/
theorem isi {P : VP} [Mon P] {c : V} {t' u' : Value} {b : Bool} (ha : EvP ta σ H P) (hcl : ClsV c u') (hk : PySem.W.kitOne K t' u' = some b) (hty : ∀ v H, P v H → TyX K H v t') : EvP (tCB (rIsi K) (tCons ta (tCons (tC c) tNil))) σ H (Is (.bl b)) :=
  evp_cb (eap_cons ha (eap_cons evp_c eap_nil)) fun vs H1 _ hv => by
    obtain ⟨x, y, rfl, h1, h2⟩ := all2 hv
    cases h2
    exact gv_val fun Q q => ⟨x, c, t', u', b, rfl, hcl, hty _ _ h1, hk, q⟩
theorem isi_tup {P : VP} [Mon P] (ha : EvP ta σ H P) (hP : ∀ v H, P v H → ∃ a xs, v = .ref a ∧ H a = some (.tup xs)) : EvP (tCB (rIsi K) (tCons ta (tCons (tC (.ty "tuple")) tNil))) σ H (Is (.bl true)) :=
  isi (t' := .type "tuple") ha (.ty _) (kit_ty (by decide +kernel)) fun v H h => by
    obtain ⟨a, xs, rfl, e⟩ := hP v H h
    exact .base (.tup e)
theorem isi_int (ha : EvP ta σ H (IsI m)) : EvP (tCB (rIsi K) (tCons ta (tCons (tC (.ty "int")) tNil))) σ H (Is (.bl true)) :=
  isi (t' := .type "int") ha (.ty _) (kit_ty (by decide +kernel)) fun v H h => by
    cases h
    exact .base (.int _)
theorem isi_bool (ha : EvP ta σ H (IsI m)) : EvP (tCB (rIsi K) (tCons ta (tCons (tC (.ty "bool")) tNil))) σ H (Is (.bl false)) :=
  isi (t' := .type "int") ha (.ty _) (kit_ty (by decide +kernel)) fun v H h => by
    cases h
    exact .base (.int _)
theorem len_tup {P : VP} [Mon P] {k : Nat} (ha : EvP ta σ H P) (hP : ∀ v H, P v H → ∃ a xs, v = .ref a ∧ H a = some (.tup xs) ∧ xs.length = k) : EvP (tCB (rLenS K) (tCons ta tNil)) σ H (IsI k) := evp_cb (eap_cons ha eap_nil) fun vs H1 _ hv => by
  obtain ⟨v, rfl, h⟩ := all1 hv
  obtain ⟨a, xs, rfl, h2, h3⟩ := hP _ _ h
  intro Q q
  exact ⟨a, xs, rfl, .inr (SqT.of h2), q _ _ (Ex.refl _) (by rw [← h3]; rfl)⟩
/-! ### statements -/
theorem qP_drop (h : EvP te σ H P) (k : ∀ H1, Ex H H1 → tz D σ H1) : tSeq (tDrop te) tz D σ H := h H (Ex.refl _) _ fun _ H1 e _ => k H1 e
theorem sP_drop (h : EvP te σ H P) (k : ∀ H1, Ex H H1 → D.nx σ H1) : tDrop te D σ H := h H (Ex.refl _) _ fun _ H1 e _ => k H1 e
/-- a pair of things -/
def IsP2 (P1 P2 : VP) : VP := fun v H => ∃ a x y, v = .ref a ∧ H a = some (.tup [x, y]) ∧ P1 x H ∧ P2 y H
instance (P1 P2 : VP) [Mon P1] [Mon P2] : Mon (IsP2 P1 P2) := ⟨fun e ⟨a, x, y, h1, h2, h3, h4⟩ => ⟨a, x, y, h1, e _ _ h2, Mon.mono e h3, Mon.mono e h4⟩⟩
theorem evp_pair [Mon P1] [Mon P2] (ha : EvP ta σ H P1) (hb : EvP tb σ H P2) : EvP (tTup (tCons ta (tCons tb tNil))) σ H (IsP2 P1 P2) := (evp_tup (eap_cons ha (eap_cons hb eap_nil)) (by show 2 ≤ 100000; decide)).imp fun v H1 _ ⟨a, xs, h1, h2, H0, e, hv⟩ => by
  obtain ⟨x, y, rfl, h3, h4⟩ := all2 hv
  exact ⟨a, x, y, h1, h2, Mon.mono e h3, Mon.mono e h4⟩
theorem qP_asg2 (h : EvP te σ H (IsP2 P1 P2)) (k : ∀ x y H1, Ex H H1 → P1 x H1 → P2 y H1 → tz D ((σ.set i (some x)).set j (some y)) H1) : tSeq (tAsg te (gTup K 2 (gCons (gName i) (gCons (gName j) gNil)))) tz D σ H :=
  h H (Ex.refl _) _ fun v H1 e ⟨a, x, y, h1, h2, h3, h4⟩ => ⟨a, _, h1, SqT.of h2, rfl, x, _, rfl, y, _, rfl, rfl, k x y H1 e h3 h4⟩
/-! ### loops -/
section
variable {α : Type} {src : List α} {R : α → VP} [Tup R]
theorem q_forN (h : EvP tl σ H (IsLs R src)) (Pv : Hp → Nat → L2.St → Hp → Prop) (hx : ∀ H1 i σ' H', Pv H1 i σ' H' → Ex H1 H') (h0 : ∀ H1, Ex H H1 → Pv H1 0 σ H1)
    (hs : ∀ H1, Ex H H1 → ∀ i b x σ' H', src[i]? = some b → R b x H' → Pv H1 i σ' H' → tu { D with nx := Pv H1 (i + 1), ct := Pv H1 (i + 1), bk := tz D } (σ'.set j (some x)) H') (hd : ∀ H1 σ' H', Ex H H1 → Pv H1 src.length σ' H' → tz D σ' H') :
    tSeq (tFor (iList K tl) (gName j) tu) tz D σ H :=
  h H (Ex.refl _) _ fun v H1 e ⟨a, xs, hv, ha, pr⟩ => ⟨a, hv, ⟨xs, SqL.of ha⟩, for_list (K := K) (a := a) (xs := xs) (Pv H1) (h0 H1 e) (fun i σ' H' _ p => SqL.of (hx H1 i σ' H' p _ _ ha)) (fun i x σ' H' hi p => by
    obtain ⟨b, hb, rb⟩ := paired_at pr hi
    exact hs H1 e i b x σ' H' hb (Tup.stay (Ex.t (hx H1 i σ' H' p)) rb) p) (fun σ' H' p => hd H1 σ' H' e (by rw [pr.length] at p; exact p))⟩
theorem s_forN (h : EvP tl σ H (IsLs R src)) (Pv : Hp → Nat → L2.St → Hp → Prop) (hx : ∀ H1 i σ' H', Pv H1 i σ' H' → Ex H1 H') (h0 : ∀ H1, Ex H H1 → Pv H1 0 σ H1)
    (hs : ∀ H1, Ex H H1 → ∀ i b x σ' H', src[i]? = some b → R b x H' → Pv H1 i σ' H' → tu { D with nx := Pv H1 (i + 1), ct := Pv H1 (i + 1), bk := D.nx } (σ'.set j (some x)) H') (hd : ∀ H1 σ' H', Ex H H1 → Pv H1 src.length σ' H' → D.nx σ' H') :
    tFor (iList K tl) (gName j) tu D σ H :=
  h H (Ex.refl _) _ fun v H1 e ⟨a, xs, hv, ha, pr⟩ => ⟨a, hv, ⟨xs, SqL.of ha⟩, for_list (K := K) (a := a) (xs := xs) (Pv H1) (h0 H1 e) (fun i σ' H' _ p => SqL.of (hx H1 i σ' H' p _ _ ha)) (fun i x σ' H' hi p => by
    obtain ⟨b, hb, rb⟩ := paired_at pr hi
    exact hs H1 e i b x σ' H' hb (Tup.stay (Ex.t (hx H1 i σ' H' p)) rb) p) (fun σ' H' p => hd H1 σ' H' e (by rw [pr.length] at p; exact p))⟩
/-- over a list of arrows, the target a pair of names -/
theorem q_forA {src : Ar} {l : Nat} (h : EvP tl σ H (IsLs IsAr src)) (Pv : Hp → Nat → L2.St → Hp → Prop) (hx : ∀ H1 i σ' H', Pv H1 i σ' H' → Ex H1 H') (h0 : ∀ H1, Ex H H1 → Pv H1 0 σ H1)
    (hs : ∀ H1, Ex H H1 → ∀ i e σ' H', src[i]? = some e → Pv H1 i σ' H' → tu { D with nx := Pv H1 (i + 1), ct := Pv H1 (i + 1), bk := tz D } ((σ'.set j (some (.int e.1))).set l (some (.int e.2))) H') (hd : ∀ H1 σ' H', Ex H H1 → Pv H1 src.length σ' H' → tz D σ' H') :
    tSeq (tFor (iList K tl) (gTup K 2 (gCons (gName j) (gCons (gName l) gNil))) tu) tz D σ H :=
  h H (Ex.refl _) _ fun v H1 e ⟨a, xs, hv, ha, pr⟩ => ⟨a, hv, ⟨xs, SqL.of ha⟩, for_list (K := K) (a := a) (xs := xs) (Pv H1) (h0 H1 e) (fun i σ' H' _ p => SqL.of (hx H1 i σ' H' p _ _ ha)) (fun i x σ' H' hi p => by
    obtain ⟨b, hb, rb⟩ := paired_at pr hi
    exact tg_pair x b H' (Tup.stay (Ex.t (hx H1 i σ' H' p)) rb) _ (hs H1 e i b σ' H' hb p)) (fun σ' H' p => hd H1 σ' H' e (by rw [pr.length] at p; exact p))⟩
/-- for i, x in enumerate(t) -/
theorem s_forE {l : Nat} (h : EvP tl σ H (IsTs R src)) (Pv : Hp → Nat → L2.St → Hp → Prop) (hx : ∀ H1 i σ' H', Pv H1 i σ' H' → Ex H1 H') (h0 : ∀ H1, Ex H H1 → Pv H1 0 σ H1)
    (hs : ∀ H1, Ex H H1 → ∀ i b x σ' H', src[i]? = some b → Pv H1 i σ' H' → ∀ H2, Ex H' H2 → R b x H2 → tu { D with nx := Pv H1 (i + 1), ct := Pv H1 (i + 1), bk := D.nx } ((σ'.set j (some (.int (i : Nat)))).set l (some x)) H2) (hd : ∀ H1 σ' H', Ex H H1 → Pv H1 src.length σ' H' → D.nx σ' H') :
    tFor (iEnumT K (tCons tl tNil)) (gTup K 2 (gCons (gName j) (gCons (gName l) gNil))) tu D σ H :=
  h H (Ex.refl _) _ fun v H1 e ⟨a, xs, hv, ha, pr⟩ => ⟨a, xs, by rw [hv], SqT.of ha, for_it (walk_enumT (K := K) (a := a) (xs := xs)) (Pv H1) (h0 H1 e) (fun i σ' H' _ p => SqT.of (hx H1 i σ' H' p _ _ ha)) (fun i v' σ' H' H2 _ p hy => by
    obtain ⟨T, x, y, rfl, nT, rfl, e1, e2⟩ := hy
    cases e1
    obtain ⟨b, hb, rb⟩ := paired_at pr e2
    exact ⟨T, _, rfl, SqT.of upd_same, rfl, _, _, rfl, y, _, rfl, rfl, hs H1 e i b y σ' H' hb p _ (Ex.new nT) (Tup.stay ((Ex.t (hx H1 i σ' H' p)).trans (ExT.new nT)) rb)⟩) (fun σ' H' p => hd H1 σ' H' e (by rw [pr.length] at p; exact p))⟩
end
/-! ### sets of ints, sorted -/
theorem sorted_set {w : World} {ns m : List Int} (ha : EvP ta σ H (IsLs IsI ns)) (hl : ns.length ≤ 63) (hm : Asc m) (hi : ∀ k, k ∈ m ↔ k ∈ ns) : EvP (tCB (rSortedSet w) (tCons (tCB (rSetI K w) (tCons ta tNil)) tNil)) σ H (IsLs IsI m) := fun H1 e1 Q q =>
  ha H1 e1 _ fun v H2 e2 ⟨a, xs, hv, h2, h3⟩ => by
    cases paired_int h3
    refine ⟨a, ns, by rw [hv], SqL.of h2, by omega, fun b c hb hc => ⟨b, _, c, rfl, upd_same, by omega, fun ns' p pw hmem _ hp => ?_⟩⟩
    have e : ns' = m := Asc.ext pw hm fun x => by rw [hmem, hi, decide_eq_true_eq]
    exact q _ _ ((e2.trans (Ex.new hb)).trans (Ex.new hp)) (by rw [e]; exact ls_of ⟨p, rfl, upd_same⟩)
end
section
variable {P : Program} {w : World} {K : PySem.W.Frag} {mg : Str → Option Value} {base : Heap}
/-- a def that changes nothing keeps its promise -/
theorem okP {δ : Type} {args : δ → List VP} {ok : δ → Prop} {post : δ → VP} {x qual : Str} {st : Stmt} {f : Addr} {fd : FuncData} {N ps : List Str} {k : Nat} (F : Fun K x qual st f fd) (S : FnScope N ps (defScope st)) (hl : ∀ d, (args d).length = ps.length)
    (body : ∀ (cdv : Value) (A : Around) (outer : List Env) (s : Shared) (H : Hp) (E : XK) (d : δ) (vs : List V), Room k (A.deeper (envOfC qual (defScope st) s.heap.objs.size f cdv)) → ok d → AllP (args d) vs H →
      ∃ t, PSs (cxOf CX0 P w K mg base N qual (defScope st) f cdv A outer s H E).nox (defBody st) t ∧ ∀ Q : VK, (∀ v H', Ex H H' → post d v H' → Q v H') → t { nx := fun _ H' => Q .non H', rt := Q } (start N vs) H) : FnOk P w K mg base CX0 (k + 1) f fd ps (spP args ok post) := by
  refine F.ok S (fun vs H Q E h => ?_) (fun cdv A outer s H vs Q E hr h => ?_)
  · obtain ⟨d, _, hv, _⟩ := h
    exact hv.len.trans (hl d)
  · obtain ⟨d, hd, hv, q⟩ := h
    obtain ⟨t, h1, h2⟩ := body cdv A outer s H E d vs hr hd hv
    exact ⟨t, h1, h2 Q q⟩
theorem okWO {post : Nat → Ar → List Int → VP} {x qual : Str} {st : Stmt} {f : Addr} {fd : FuncData} {N ps : List Str} {k : Nat} (F : Fun K x qual st f fd) (S : FnScope N ps (defScope st)) (hl : 2 = ps.length)
    (body : ∀ (cdv : Value) (Ar : Around) (outer : List Env) (s : Shared) (H : Hp) (E : XK) (n : Nat) (A : LD.Ar) (O : List Int) (v0 v1 : V), Room k (Ar.deeper (envOfC qual (defScope st) s.heap.objs.size f cdv)) → Wb n A → Sd n O → IsWeb n A v0 H → IsTI O v1 H →
      ∃ t, PSs (cxOf CX0 P w K mg base N qual (defScope st) f cdv Ar outer s H E).nox (defBody st) t ∧ ∀ Q : VK, (∀ v H', Ex H H' → post n A O v H' → Q v H') → t { nx := fun _ H' => Q .non H', rt := Q } (start N [v0, v1]) H) : FnOk P w K mg base CX0 (k + 1) f fd ps (spWO post) :=
  okP F S (fun _ => hl) fun cdv Ar outer s H E d vs hr hd hv => by
    obtain ⟨a, b, rfl, h1, h2⟩ := all2 hv
    exact body cdv Ar outer s H E _ _ _ a b hr hd.1 hd.2 h1 h2
theorem okWOD {post : Nat → Ar → List Int → Int → VP} {x qual : Str} {st : Stmt} {f : Addr} {fd : FuncData} {N ps : List Str} {k : Nat} (F : Fun K x qual st f fd) (S : FnScope N ps (defScope st)) (hl : 3 = ps.length)
    (body : ∀ (cdv : Value) (Ar : Around) (outer : List Env) (s : Shared) (H : Hp) (E : XK) (n : Nat) (A : LD.Ar) (O : List Int) (j : Int) (v0 v1 : V), Room k (Ar.deeper (envOfC qual (defScope st) s.heap.objs.size f cdv)) → Wb n A → Sd n O → (0 ≤ j ∧ j < n) → IsWeb n A v0 H → IsTI O v1 H →
      ∃ t, PSs (cxOf CX0 P w K mg base N qual (defScope st) f cdv Ar outer s H E).nox (defBody st) t ∧ ∀ Q : VK, (∀ v H', Ex H H' → post n A O j v H' → Q v H') → t { nx := fun _ H' => Q .non H', rt := Q } (start N [v0, v1, .int j]) H) : FnOk P w K mg base CX0 (k + 1) f fd ps (spWOD post) :=
  okP F S (fun _ => hl) fun cdv Ar outer s H E d vs hr hd hv => by
    obtain ⟨a, b, c, rfl, h1, h2, h3⟩ := all3 hv
    cases h3
    exact body cdv Ar outer s H E _ _ _ _ a b hr hd.1 hd.2.1 hd.2.2 h1 h2
end
end LDW

/-! New lists, loops that change a list; sorted of a tuple; tuple + tuple; arrangements. -/
namespace LDW
open PySem PySem.Spec PyProof.Rows L2 Evl LD
section
variable {X : Cx} {K : PySem.W.Frag}
theorem kSortedTI (h : X.K = K) : CallR X (.builtin "sorted") (rSortTI K) := h ▸ cr_sortTI
end
section
variable {K : PySem.W.Frag} {σ : L2.St} {H H' : Hp} {te ta tb tc tl : TE} {P P1 P2 P3 : VP} {t u : TT} {z v : V} {D : Ends} {tu tw tz : TS} {i j : Nat} {m n : Int}
theorem cat_t {l : List Int} {k : List Int} (ha : EvP ta σ H (IsTI l)) (hb : EvP tb σ H (IsTI k)) (hl : l.length + k.length ≤ 100000) : EvP (tOp (rCatA K) ta tb) σ H (IsTI (l ++ k)) := evp_op ha hb fun x y H1 _ ⟨a, h1, h2⟩ ⟨b, h3, h4⟩ Q q => by
  refine ⟨a, b, _, _, h1, h3, SqT.of h2, SqT.of h4, by rw [List.length_map, List.length_map]; exact sz_of hl, fun e => ?_, fun _ e => ?_, fun _ _ p hp => ?_⟩
  · have e' : l = [] := List.map_eq_nil_iff.mp e
    subst e'
    exact q _ _ (Ex.refl _) ⟨b, rfl, h4⟩
  · have e' : k = [] := List.map_eq_nil_iff.mp e
    subst e'
    rw [List.append_nil] at q
    exact q _ _ (Ex.refl _) ⟨a, rfl, h2⟩
  · exact q _ _ (Ex.new hp) ⟨p, rfl, by rw [List.map_append]; exact upd_same⟩
theorem one_t (ha : EvP ta σ H (IsI m)) : EvP (tTup (tCons ta tNil)) σ H (IsTI [m]) := (evp_tup (eap_cons ha eap_nil) (by show 1 ≤ 100000; decide)).imp fun v H1 _ ⟨a, xs, h1, h2, H0, e, hv⟩ => by
  obtain ⟨x, rfl, h3⟩ := all1 hv
  cases h3
  exact ⟨a, h1, h2⟩
theorem nil_t : EvP (tTup tNil) σ H (IsTI []) := (evp_tup eap_nil (by show 0 ≤ 100000; decide)).imp fun v H1 _ ⟨a, xs, h1, h2, H0, e, hv⟩ => by
  match xs, hv with
  | [], _ => exact ⟨a, h1, h2⟩
theorem sorted_t {l m : List Int} (ha : EvP ta σ H (IsTI l)) (hm : ∀ l' : List Int, l'.Perm l → l'.Pairwise (· ≤ ·) → l' = m) : EvP (tCB (rSortTI K) (tCons ta tNil)) σ H (IsLs IsI m) := evp_cb (eap_cons ha eap_nil) fun vs H1 _ hv => by
  obtain ⟨v, rfl, a, rfl, h2⟩ := all1 hv
  intro Q q
  exact ⟨a, l, rfl, SqT.of h2, fun ns p pm pw hp => q _ _ (Ex.new hp) (by rw [hm ns pm pw]; exact ls_of ⟨p, rfl, upd_same⟩)⟩
theorem room10 {k : Nat} {A : Around} (r : Room k A) : A.units + 10 < cLine := by
  have := r.units
  omega
theorem room65 {k : Nat} {A : Around} (r : Room k A) : A.units + 65 < cLine := by
  have := r.un
  omega
/-! ### arrangements -/
theorem IsPm.of {α : Type} {R : α → VP} {l k : List α} {v : V} (h : IsPm R l v H) (e : l.Perm k) : IsPm R k v H := let ⟨m, p, q⟩ := h; ⟨m, p.trans e, q⟩
theorem IsPm.one {α : Type} {R : α → VP} {l : List α} {v : V} (h : IsLs R l v H) : IsPm R l v H := ⟨l, .refl _, h⟩
theorem perm_empty {α : Type} {l k : List α} (p : l.Perm k) : l.isEmpty = k.isEmpty := by
  cases l with
  | nil => rw [List.nil_perm.mp p]
  | cons a l =>
    cases k with
    | nil => exact absurd p.length_eq (by simp)
    | cons b k => rfl
theorem eqP_nil {α : Type} {R : α → VP} {enc : α → PyData} [Dat R enc] [Tup R] {l : List α} (ha : EvP ta σ H (IsPm R l)) : EvT (tTest (tOp (rEqD K) ta (tLst tNil))) σ H l.isEmpty := evt_op ha (evp_nil (R := R)) fun x y H1 _ ⟨m, p, p1⟩ p2 => by
  rw [← perm_empty p]
  exact (gv_nil p1 p2).1
theorem neP_nil {α : Type} {R : α → VP} {enc : α → PyData} [Dat R enc] [Tup R] {l : List α} (ha : EvP ta σ H (IsPm R l)) : EvT (tTest (tOp (rNeD K) ta (tLst tNil))) σ H (!l.isEmpty) := evt_op ha (evp_nil (R := R)) fun x y H1 _ ⟨m, p, p1⟩ p2 => by
  rw [← perm_empty p]
  exact (gv_nil p1 p2).2
/-! ### new lists -/
def Nw (H : Hp) (v : V) : Prop := ∀ a, v = .ref a → H a = none
def EvN (te : TE) (σ : L2.St) (H : Hp) (P : VP) : Prop := ∀ H1, Ex H H1 → ∀ Q : VK, (∀ v H2, Ex H1 H2 → P v H2 → Nw H1 v → Q v H2) → te σ H1 Q
theorem EvN.p (h : EvN te σ H P) : EvP te σ H P := fun H1 e1 Q q => h H1 e1 Q fun v H2 e2 p _ => q v H2 e2 p
theorem EvN.imp (h : EvN te σ H P) (k : ∀ v H', Ex H H' → P v H' → P1 v H') : EvN te σ H P1 := fun H1 e1 Q q => h H1 e1 Q fun v H2 e2 p nw => q v H2 e2 (k v H2 (e1.trans e2) p) nw
theorem none_of {a : Addr} (e : Ex H H') (h : H' a = none) : H a = none := by
  cases c : H a with
  | none => rfl
  | some o => rw [e a o c] at h; cases h
theorem nw_of {a : Addr} (e : Ex H H') (h : H' a = none) : Nw H (.ref a) := fun b q => by
  cases q
  exact none_of e h
section
variable {α β : Type} {src : List α} {R : α → VP} {S : β → VP} {g : TG} {tt : TT} {vs : List Nat}
theorem lcLN [Tup R] [Tup S] (p : α → Bool) (f : α → β) (τ : V → α → L2.St) (h : EvP tl σ H (IsLs R src)) (hz : src.length ≤ 40000) (hg : Tg g R (wipe σ vs) τ) (hw : ∀ x b, wipe (τ x b) vs = wipe σ vs)
    (ht : ∀ b ∈ src, ∀ x H1, Ex H H1 → R b x H1 → EvT tt (τ x b) H1 (p b)) (he : ∀ b ∈ src, p b = true → ∀ x H1, Ex H H1 → R b x H1 → EvP te (τ x b) H1 (S (f b))) :
    EvN (tLc (iList K tl) g tt te vs) σ H (IsLs S ((src.filter p).map f)) := by
  intro H1 e1 Q q
  refine h H1 e1 _ fun v H2 e2 ⟨a, xs, hv, ha, pr⟩ => ⟨a, hv, ⟨xs, SqL.of ha⟩, fun D hD => ?_⟩
  refine lc_list (K := K) (a := a) (xs := xs) (fun i H' => LcI S H2 D (((src.take i).filter p).map f) H') ⟨[], upd_same, Ex.new hD, .nil⟩ (fun i H' _ ⟨_, _, z, _⟩ => SqL.of (z _ _ ha)) (fun i x H' hx w => ?_) fun H' w => ?_
  · obtain ⟨b, hb, rb⟩ := paired_at pr hx
    have w' := w
    obtain ⟨acc, h1, h2, h3⟩ := w'
    have rb' : R b x H' := Tup.stay (Ex.t h2) rb
    have eH : Ex H H' := (e1.trans e2).trans h2
    have mb := List.mem_of_getElem? hb
    exact hg x b H' rb' _ ⟨hw x b, lc_turn hD w (Nat.le_trans (take_len p f i) hz) (ht b mb x H' eH rb') (fun z => he b mb z x H' eH rb') fun H3 w3 => by rw [take_more p f hb]; exact w3⟩
  · obtain ⟨acc, h1, h2, h3⟩ := w
    rw [pr.length, List.take_length] at h3
    exact q _ _ (e2.trans h2) ⟨D, acc, rfl, h1, h3⟩ (nw_of e2 hD)
end
/-- as spP, the answer a new object -/
def spN {δ : Type} (args : δ → List VP) (ok : δ → Prop) (post : δ → VP) : Sp := fun vs H Q _ => ∃ d, ok d ∧ AllP (args d) vs H ∧ ∀ v H', Ex H H' → post d v H' → Nw H v → Q v H'
theorem evn_call {δ : Type} {args : δ → List VP} {ok : δ → Prop} {post : δ → VP} {tr : TA} {E : XK} (d : δ) (hd : ok d) (h : EvAP tr σ H (args d)) : EvN (tCall (spN args ok post) [] E tr) σ H (post d) := fun H1 e1 Q q =>
  h H1 e1 _ fun vs H2 e2 hv => ⟨d, hd, by rw [List.append_nil]; exact hv, fun v H3 e3 p nw => q v H3 (e2.trans e3) p fun a e => none_of e2 (nw a e)⟩
/-! ### loops that change what S names -/
def Ey (S : List Addr) (H H' : Hp) : Prop := ∀ a o, ¬ a ∈ S → H a = some o → H' a = some o
theorem Ex.y {S : List Addr} (e : Ex H H') : Ey S H H' := fun a o _ q => e a o q
theorem Ey.trans {S : List Addr} {H1 : Hp} (a : Ey S H H1) (b : Ey S H1 H') : Ey S H H' := fun x o n q => b x o n (a x o n q)
theorem Ey.upd {S : List Addr} {p : Addr} {o : HO} (h : p ∈ S) : Ey S H (upd H p o) := fun a o' n q => by
  have ne : a ≠ p := fun z => n (z ▸ h)
  rw [upd_ne ne]
  exact q
section
variable {α : Type} {src : List α} {R : α → VP} [Tup R]
theorem s_forM (S : List Addr) (hS : ∀ a ∈ S, H a ≠ none) (h : EvN tl σ H (IsPm R src)) (Pv : List α → Hp → Nat → L2.St → Hp → Prop) (hx : ∀ l H1 i σ' H', Pv l H1 i σ' H' → Ey S H1 H' ∧ ExT H1 H') (h0 : ∀ l H1, l.Perm src → Ex H H1 → Pv l H1 0 σ H1)
    (hs : ∀ l H1, l.Perm src → Ex H H1 → ∀ i b x σ' H', l[i]? = some b → R b x H' → Pv l H1 i σ' H' → tu { D with nx := Pv l H1 (i + 1), ct := Pv l H1 (i + 1), bk := D.nx } (σ'.set j (some x)) H') (hd : ∀ l H1 σ' H', l.Perm src → Ex H H1 → Pv l H1 l.length σ' H' → D.nx σ' H') :
    tFor (iList K tl) (gName j) tu D σ H :=
  h H (Ex.refl _) _ fun v H1 e ⟨l, pm, a, xs, hv, ha, pr⟩ nw => ⟨a, hv, ⟨xs, SqL.of ha⟩, for_list (K := K) (a := a) (xs := xs) (Pv l H1) (h0 l H1 pm e) (fun i σ' H' _ p => SqL.of ((hx l H1 i σ' H' p).1 _ _ (fun m => hS a m (nw a hv)) ha)) (fun i x σ' H' hi p => by
    obtain ⟨b, hb, rb⟩ := paired_at pr hi
    exact hs l H1 pm e i b x σ' H' hb (Tup.stay (hx l H1 i σ' H' p).2 rb) p) (fun σ' H' p => hd l H1 σ' H' pm e (by rw [pr.length] at p; exact p))⟩
theorem q_forM (S : List Addr) (hS : ∀ a ∈ S, H a ≠ none) (h : EvN tl σ H (IsPm R src)) (Pv : List α → Hp → Nat → L2.St → Hp → Prop) (hx : ∀ l H1 i σ' H', Pv l H1 i σ' H' → Ey S H1 H' ∧ ExT H1 H') (h0 : ∀ l H1, l.Perm src → Ex H H1 → Pv l H1 0 σ H1)
    (hs : ∀ l H1, l.Perm src → Ex H H1 → ∀ i b x σ' H', l[i]? = some b → R b x H' → Pv l H1 i σ' H' → tu { D with nx := Pv l H1 (i + 1), ct := Pv l H1 (i + 1), bk := tz D } (σ'.set j (some x)) H') (hd : ∀ l H1 σ' H', l.Perm src → Ex H H1 → Pv l H1 l.length σ' H' → tz D σ' H') :
    tSeq (tFor (iList K tl) (gName j) tu) tz D σ H :=
  h H (Ex.refl _) _ fun v H1 e ⟨l, pm, a, xs, hv, ha, pr⟩ nw => ⟨a, hv, ⟨xs, SqL.of ha⟩, for_list (K := K) (a := a) (xs := xs) (Pv l H1) (h0 l H1 pm e) (fun i σ' H' _ p => SqL.of ((hx l H1 i σ' H' p).1 _ _ (fun m => hS a m (nw a hv)) ha)) (fun i x σ' H' hi p => by
    obtain ⟨b, hb, rb⟩ := paired_at pr hi
    exact hs l H1 pm e i b x σ' H' hb (Tup.stay (hx l H1 i σ' H' p).2 rb) p) (fun σ' H' p => hd l H1 σ' H' pm e (by rw [pr.length] at p; exact p))⟩
end
/-- D.append(e) : what is in D stays data of kind S -/
theorem s_appP {β : Type} {S : β → VP} [Tup S] {l : Addr} {acc : List V} {bs : List β} {c : β} (hl : H l = some (.lst acc)) (pr : Paired (fun x b => S b x H) acc bs) (hz : bs.length ≤ 40000) (ha : EvP ta σ H (Is (.ref l))) (h : EvP te σ H (S c))
    (k : ∀ acc' H1 H2, Ex H H1 → H2 = upd H1 l (.lst acc') → ExT H H2 → Paired (fun x b => S b x H2) acc' (bs ++ [c]) → D.nx σ H2) : tDrop (tBM K "list" rAppend ta (tCons te tNil)) D σ H :=
  ha H (Ex.refl _) _ fun x H1 e1 hx => by
    cases hx
    refine ⟨.inl ⟨rfl, _, SqL.of (e1 _ _ hl)⟩, ?_⟩
    refine h H1 e1 _ fun y H2 e2 sy => ?_
    have q := (e1.trans e2) _ _ hl
    exact ⟨l, acc, y, rfl, rfl, q, by rw [pr.length]; exact sz_lt (by omega), k _ H2 _ (e1.trans e2) rfl ((Ex.t (e1.trans e2)).trans (ExT.lst q)) (Paired.snoc (Paired.mapP pr fun _ _ z => Tup.stay ((Ex.t (e1.trans e2)).trans (ExT.lst q)) z) (Tup.stay (ExT.lst q) sy))⟩
end
section
variable {P : Program} {w : World} {K : PySem.W.Frag} {mg : Str → Option Value} {base : Heap}
theorem okN {δ : Type} {args : δ → List VP} {ok : δ → Prop} {post : δ → VP} {x qual : Str} {st : Stmt} {f : Addr} {fd : FuncData} {N ps : List Str} {k : Nat} (F : Fun K x qual st f fd) (S : FnScope N ps (defScope st)) (hl : ∀ d, (args d).length = ps.length)
    (body : ∀ (cdv : Value) (A : Around) (outer : List Env) (s : Shared) (H : Hp) (E : XK) (d : δ) (vs : List V), Room k (A.deeper (envOfC qual (defScope st) s.heap.objs.size f cdv)) → ok d → AllP (args d) vs H →
      ∃ t, PSs (cxOf CX0 P w K mg base N qual (defScope st) f cdv A outer s H E).nox (defBody st) t ∧ ∀ Q : VK, (∀ v H', Ex H H' → post d v H' → Nw H v → Q v H') → t { nx := fun _ H' => Q .non H', rt := Q } (start N vs) H) : FnOk P w K mg base CX0 (k + 1) f fd ps (spN args ok post) := by
  refine F.ok S (fun vs H Q E h => ?_) (fun cdv A outer s H vs Q E hr h => ?_)
  · obtain ⟨d, _, hv, _⟩ := h
    exact hv.len.trans (hl d)
  · obtain ⟨d, hd, hv, q⟩ := h
    obtain ⟨t, h1, h2⟩ := body cdv A outer s H E d vs hr hd hv
    exact ⟨t, h1, h2 Q q⟩
end
end LDW

/-! Webs, standings, deeds, frozen doors: each def once. -/
namespace LDW
open PySem PySem.Spec PyProof.Rows L2 Evl LD
section
variable {P : Program} {w : World} {K : PySem.W.Frag} {mg : Str → Option Value} {base : Heap}
def sp_is_in : Sp := spP (δ := Int × Int × Int) (fun d => [IsI d.1, IsI d.2.1, IsI d.2.2]) (fun _ => True) (fun d => Is (.bl (decide (d.2.1 ≤ d.1) && decide (d.1 ≤ d.2.2))))
theorem ok_is_in (T : Txt K mg) : FnOk P w K mg base CX0 1 T.a_is_in T.d_is_in ["value", "least", "most"] sp_is_in := by
  refine okP T.F_is_in sc_is_in (fun _ => rfl) fun cdv Ar outer s H E d vs hr hd hv => ?_
  obtain ⟨a, b, c, rfl, h1, h2, h3⟩ := all3 hv
  refine ⟨_, (pss_one (ps_ret (pe_and (pe_callB (kIsi (K := K) rfl) (by rfl) T.z_isinstance (by decide +kernel) (pa_cons (pv 0) (pa_cons (pe_bltn (v := .ty "int") (by rfl) T.z_int (by decide +kernel) rfl) pa_nil))) (pe_and (pe_not (pe_callB (kIsi (K := K) rfl) (by rfl) T.z_isinstance (by decide +kernel) (pa_cons (pv 0) (pa_cons (pe_bltn (v := .ty "bool") (by rfl) T.z_bool (by decide +kernel) rfl) pa_nil)))) (pe_one (pe_chain op_le op_le (pv 1) (pv 0) (pv 2))))))), fun Q q => ?_⟩
  exact sP_ret (evp_b (evp_and (isi_int (evp_var rfl h1)) fun _ => evp_and (evp_not (isi_bool (evp_var rfl h1))) fun _ => chain_le (evp_var rfl h2) (evp_var rfl h1) (evp_var rfl h3)) (by simp)) q
theorem call_is_in {σ : L2.St} {H : Hp} {ta tb tc : TE} {v l m : Int} {E : XK} (ha : EvP ta σ H (IsI v)) (hb : EvP tb σ H (IsI l)) (hc : EvP tc σ H (IsI m)) : EvP (tCall sp_is_in [] E (tCons ta (tCons tb (tCons tc tNil)))) σ H (Is (.bl (decide (l ≤ v) && decide (v ≤ m)))) :=
  evp_call (δ := Int × Int × Int) (v, l, m) trivial (eap_cons ha (eap_cons hb (eap_cons hc eap_nil)))
theorem ar_tup {e : Int × Int} : ∀ v H, IsAr e v H → ∃ a xs, v = .ref a ∧ H a = some (.tup xs) := fun v H ⟨a, h1, h2⟩ => ⟨a, _, h1, h2⟩
theorem ar_len {e : Int × Int} : ∀ v H, IsAr e v H → ∃ a xs, v = .ref a ∧ H a = some (.tup xs) ∧ xs.length = 2 := fun v H ⟨a, h1, h2⟩ => ⟨a, _, h1, h2, rfl⟩
theorem ar_ts {e : Int × Int} {v : V} {H : Hp} (h : IsAr e v H) : IsTs IsI [e.1, e.2] v H := let ⟨a, h1, h2⟩ := h; ⟨a, _, h1, h2, .cons rfl (.cons rfl .nil)⟩
def sp_is_arrow : Sp := spP (δ := Nat × (Int × Int)) (fun d => [IsAr d.2, IsI d.1]) (fun d => 0 ≤ d.2.1 ∧ d.2.1 < d.1 ∧ 0 ≤ d.2.2 ∧ d.2.2 < d.1 ∧ d.2.1 ≠ d.2.2) (fun _ => Is (.bl true))
theorem ok_is_arrow (T : Txt K mg) : FnOk P w K mg base CX0 2 T.a_is_arrow T.d_is_arrow ["value", "many"] sp_is_arrow := by
  refine okP T.F_is_arrow sc_is_arrow (fun _ => rfl) fun cdv Ar outer s H E d vs hr hd hv => ?_
  obtain ⟨a, b, rfl, h1, h2⟩ := all2 hv
  obtain ⟨n, e⟩ := d
  refine ⟨_, (pss_cons (ps_if (PW.pt (pw_or (pt_not (pt_val (pe_callB (kIsi (K := K) rfl) (by rfl) T.z_isinstance (by decide +kernel) (pa_cons (pv 0) (pa_cons (pe_bltn (v := .ty "tuple") (by rfl) T.z_tuple (by decide +kernel) rfl) pa_nil))))) (pw_or1 (pt_cmpR op_ne (pe_callB (kLen (K := K) rfl) (by rfl) T.z_len PySem.boot_len (pa_cons (pv 0) pa_nil)) pe_int (nomark _))))) (pss_one (ps_ret pe_bl)) pss_nil)
      (pss_one (ps_ret (pe_and (pe_cmpR (kEqD (K := K) rfl hr.units) (pe_lc (own := [("one", 2)]) (g := (gName 2)) rfl sc_is_arrow.nd (kPiT (K := K) rfl (pv 0)) (blkOk_by (own := [("one", 2)]) (N := ["value", "many", "one"]) (sc := defScope s_is_arrow) (by decide +kernel)) (fun _ _ _ _ _ => (pg_name (i := 2) sc_is_arrow.nd rfl (Or.inl rfl))) (fun _ _ _ _ _ => (pts_one (pt_not (pt_val (pe_call (ok_is_in T) (hr.mono (by decide)) (by rfl) T.g_is_in T.F_is_in.kp T.b_is_in .nil pass0 (pa_cons (pv 2) (pa_cons pe_int (pa_cons (pe_op op_sub (pv 1) pe_int) pa_nil)))))))) (fun _ _ _ _ _ => (pv 2))) (pe_lst pa_nil) (nomark _)) (pe_one (pe_cmpR op_ne (pe_ix (kIxT (K := K) rfl) (pv 0) pe_int (fun _ _ => rfl)) (pe_ix (kIxT (K := K) rfl) (pv 0) pe_int (fun _ _ => rfl)) (nomark _))))))), fun Q q => ?_⟩
  refine q_no (evt_is (et_or (et_not (evt_val (isi_tup (evp_var rfl h1) ar_tup))) fun _ => ne_i (len_tup (evp_var rfl h1) ar_len) evp_i) (by decide)) fun H1 e1 => ?_
  refine sP_ret (evp_b (evp_and (eqV_nil (lcT (R := IsI) (S := IsI) (src := [e.1, e.2]) (fun k => !(decide (0 ≤ k) && decide (k ≤ (n : Int) - 1))) (fun k => k) _ ((vr e1 h1 rfl).imp fun v H2 _ z => ar_ts z) (by show 2 ≤ 40000; decide) tg_name (fun _ _ => rfl)
    (fun k _ x H2 e2 hx => et_not (evt_val (call_is_in (evp_var rfl hx) evp_i (sub_i (vr (e1.trans e2) h2 rfl) evp_i)))) (fun k _ _ x H2 e2 hx => evp_var rfl hx))) fun _ => neV_i (ar0 (vr e1 h1 rfl)) (ar1 (vr e1 h1 rfl))) ?_) fun v H2 e2 z => q v H2 (e1.trans e2) z
  obtain ⟨x, y⟩ := e
  obtain ⟨g1, g2, g3, g4, g5⟩ := hd
  simp only at g1 g2 g3 g4 g5 ⊢
  rw [List.filter_cons_of_neg (by simp; omega), List.filter_cons_of_neg (by simp; omega)]
  simp [g5]
theorem call_is_arrow {σ : L2.St} {H : Hp} {ta tb : TE} {n : Nat} {e : Int × Int} {E : XK} (hd : 0 ≤ e.1 ∧ e.1 < n ∧ 0 ≤ e.2 ∧ e.2 < n ∧ e.1 ≠ e.2) (ha : EvP ta σ H (IsAr e)) (hb : EvP tb σ H (IsI n)) : EvP (tCall sp_is_arrow [] E (tCons ta (tCons tb tNil))) σ H (Is (.bl true)) :=
  evp_call (δ := Nat × (Int × Int)) (n, e) hd (eap_cons ha (eap_cons hb eap_nil))
theorem web_tup {n : Nat} {A : LD.Ar} : ∀ v H, IsWeb n A v H → ∃ a xs, v = .ref a ∧ H a = some (.tup xs) := fun v H ⟨a, b, h1, h2, _⟩ => ⟨a, _, h1, h2⟩
theorem web_len {n : Nat} {A : LD.Ar} : ∀ v H, IsWeb n A v H → ∃ a xs, v = .ref a ∧ H a = some (.tup xs) ∧ xs.length = 2 := fun v H ⟨a, b, h1, h2, _⟩ => ⟨a, _, h1, h2, rfl⟩
theorem ts_tup {α : Type} {R : α → VP} {l : List α} : ∀ v H, IsTs R l v H → ∃ a xs, v = .ref a ∧ H a = some (.tup xs) := fun v H ⟨a, xs, h1, h2, _⟩ => ⟨a, _, h1, h2⟩
theorem ti_tup {l : List Int} : ∀ v H, IsTI l v H → ∃ a xs, v = .ref a ∧ H a = some (.tup xs) := fun v H ⟨a, h1, h2⟩ => ⟨a, _, h1, h2⟩
/-- t <= u of arrows that come one behind another: no -/
theorem le_ar {σ : L2.St} {H : Hp} {ta tb : TE} {e f : Int × Int} (hlt : f.1 < e.1 ∨ (f.1 = e.1 ∧ f.2 < e.2)) (ha : EvP ta σ H (IsAr e)) (hb : EvP tb σ H (IsAr f)) : EvT (tTest (tOp (rLeT K) ta tb)) σ H false := evt_op ha hb fun x y H1 _ ⟨a, h1, h2⟩ ⟨b, h3, h4⟩ Q q => by
  refine ⟨a, b, [e.1, e.2], [f.1, f.2], h1, h3, SqT.of h2, SqT.of h4, ?_⟩
  have z : Ob.lexAt (fun j => decide (([e.1, e.2] : List Int).getD j 0 = ([f.1, f.2] : List Int).getD j 0)) (fun j => decide (([e.1, e.2] : List Int).getD j 0 ≤ ([f.1, f.2] : List Int).getD j 0)) (decide (([e.1, e.2] : List Int).length ≤ ([f.1, f.2] : List Int).length)) 0 (min ([e.1, e.2] : List Int).length ([f.1, f.2] : List Int).length) = false := by
    show (if decide (e.1 = f.1) = true then (if decide (e.2 = f.2) = true then _ else decide (e.2 ≤ f.2)) else decide (e.1 ≤ f.1)) = false
    by_cases c : e.1 = f.1
    · rw [if_pos (decide_eq_true c), if_neg (by simp; omega)]
      exact decide_eq_false (by omega)
    · rw [if_neg (by simp [c])]
      exact decide_eq_false (by omega)
  rw [z]
  exact q
/-- an item of a tuple of data -/
theorem ts_at {α : Type} {R : α → VP} [Tup R] {σ : L2.St} {H : Hp} {ta tb : TE} {l : List α} {k : Nat} {b : α} {i : Int} (ha : EvP ta σ H (IsTs R l)) (hb : EvP tb σ H (IsI i)) (e : i = (k : Int)) (hk : l[k]? = some b) : EvP (tOp (rIxT K) ta tb) σ H (R b) := evp_op ha hb fun x y H1 _ ⟨a, xs, h1, h2, h3⟩ hy => by
  obtain ⟨z, hz⟩ : ∃ z, xs[k]? = some z := by
    have hl := h3.length
    have hlt := (List.getElem?_eq_some_iff.mp hk).1
    exact ⟨xs[k]'(by omega), List.getElem?_eq_getElem _⟩
  obtain ⟨b', hb', rb⟩ := paired_at h3 hz
  rw [hk] at hb'
  cases hb'
  exact gv_ixT h1 (by rw [show y = .int i from hy, e]) h2 hz rb
def sp_need_web : Sp := spP (δ := Nat × LD.Ar) (fun d => [IsWeb d.1 d.2]) (fun d => Wb d.1 d.2) (fun _ => Is .non)
theorem pair_at {l : List (Int × Int)} (h : l.Pairwise fun e f => e.1 < f.1 ∨ (e.1 = f.1 ∧ e.2 < f.2)) {i j : Nat} {e f : Int × Int} (hi : l[i]? = some e) (hj : l[j]? = some f) (lt : i < j) : e.1 < f.1 ∨ (e.1 = f.1 ∧ e.2 < f.2) := by
  obtain ⟨h1, rfl⟩ := List.getElem?_eq_some_iff.mp hi
  obtain ⟨h2, rfl⟩ := List.getElem?_eq_some_iff.mp hj
  exact List.pairwise_iff_getElem.mp h i j h1 h2 lt
theorem ok_need_web (T : Txt K mg) : FnOk P w K mg base CX0 3 T.a_need_web T.d_need_web ["web"] sp_need_web := by
  refine okP T.F_need_web sc_need_web (fun _ => rfl) fun cdv Ar outer s H E d vs hr W hv => ?_
  obtain ⟨a, rfl, h0⟩ := all1 hv
  obtain ⟨n, A⟩ := d
  simp only at h0 W
  refine ⟨_, (pss_cons (ps_if (PW.pt (pw_or (pt_not (pt_val (pe_callB (kIsi (K := K) rfl) (by rfl) T.z_isinstance (by decide +kernel) (pa_cons (pv 0) (pa_cons (pe_bltn (v := .ty "tuple") (by rfl) T.z_tuple (by decide +kernel) rfl) pa_nil))))) (pw_or (pt_cmpR op_ne (pe_callB (kLen (K := K) rfl) (by rfl) T.z_len PySem.boot_len (pa_cons (pv 0) pa_nil)) pe_int (nomark _)) (pw_or1 (pt_not (pt_val (pe_callB (kIsi (K := K) rfl) (by rfl) T.z_isinstance (by decide +kernel) (pa_cons (pe_ix (kIxT (K := K) rfl) (pv 0) pe_int (fun _ _ => rfl)) (pa_cons (pe_bltn (v := .ty "tuple") (by rfl) T.z_tuple (by decide +kernel) rfl) pa_nil))))))))) (pss_one ps_never) pss_nil)
      (pss_cons (ps_if (pt_not (pt_val (pe_call (ok_is_in T) (hr.mono (by decide)) (by rfl) T.g_is_in T.F_is_in.kp T.b_is_in .nil pass0 (pa_cons (pe_ix (kIxT (K := K) rfl) (pv 0) pe_int (fun _ _ => rfl)) (pa_cons pe_int (pa_cons (pe_glob (v := .int 9) (by rfl) T.g_MOST_DOORS ⟨_, rfl⟩) pa_nil)))))) (pss_one ps_never) pss_nil)
      (pss_one (ps_for PassesOwn.never rfl (kEnumT (K := K) rfl (by rfl) T.z_enumerate (pa_cons (pe_ix (kIxT (K := K) rfl) (pv 0) pe_int (fun _ _ => rfl)) pa_nil)) (kPgT (K := K) rfl rfl (pgs_cons (pg_name (i := 1) sc_need_web.nd rfl (Or.inl rfl)) (pgs_cons (pg_name (i := 2) sc_need_web.nd rfl (Or.inl rfl)) pgs_nil))) (pss_one (ps_if (PW.pt (pw_or (pt_not (pt_val (pe_call (ok_is_arrow T) (hr.mono (by decide)) (by rfl) T.g_is_arrow T.F_is_arrow.kp T.b_is_arrow .nil pass0 (pa_cons (pv 2) (pa_cons (pe_ix (kIxT (K := K) rfl) (pv 0) pe_int (fun _ _ => rfl)) pa_nil))))) (pw_or1 (PW.pt (pw_and (pt_cmpR op_gt (pv 1) pe_int (nomark _)) (pw_and1 (pt_cmpR (kLeT (K := K) rfl hr.units0) (pv 2) (pe_ix (kIxT (K := K) rfl) (pe_ix (kIxT (K := K) rfl) (pv 0) pe_int (fun _ _ => rfl)) (pe_op op_sub (pv 1) pe_int) (fun _ _ => rfl)) (nomark _)))))))) (pss_one ps_never) pss_nil)))))), fun Q q => ?_⟩
  refine q_no (evt_is (et_or (et_not (evt_val (isi_tup (evp_var rfl h0) web_tup))) fun _ => et_or (ne_i (len_tup (evp_var rfl h0) web_len) evp_i) fun _ => et_not (evt_val (isi_tup (web1 (evp_var rfl h0)) ts_tup))) (by decide)) fun H1 e1 => ?_
  refine q_no (evt_is (et_not (evt_val (call_is_in (web0 (vr e1 h0 rfl)) evp_i evp_c))) ?_) fun H2 e2 => ?_
  · have := W.n1
    have := W.n6
    rw [decide_eq_true (by omega), decide_eq_true (by omega)]
    rfl
  have h2 := Mon.mono (e1.trans e2) h0
  refine s_forE (web1 (evp_var rfl h2)) (fun H3 i σ' H' => ∃ x y, σ' = [some a, x, y] ∧ Ex H3 H') (fun H3 i σ' H' ⟨_, _, _, z⟩ => z) (fun H3 e3 => ⟨_, _, rfl, Ex.refl _⟩) (fun H3 e3 i e x σ' H' hi ⟨_, _, hσ, e4⟩ H5 e5 hx => ?_) (fun H3 σ' H' e3 ⟨_, _, _, e4⟩ => q _ _ ((((e1.trans e2).trans e3).trans e4)) rfl)
  subst hσ
  have E5 := (e3.trans e4).trans e5
  have me := List.mem_of_getElem? hi
  have bd := W.bd e me
  refine s_no (evt_is (et_or (et_not (evt_val (call_is_arrow bd (evp_var rfl hx) (web0 (vr E5 h2 rfl))))) fun _ => et_and (b := false) (gt_i (evp_var rfl rfl) evp_i) fun c => ?_) ?_) fun H6 e6 => ⟨_, _, rfl, e4.trans (e5.trans e6)⟩
  · have c' : (0 : Int) < (i : Int) := of_decide_eq_true c
    obtain ⟨f, hf⟩ : ∃ f, A[i - 1]? = some f := by
      have := (List.getElem?_eq_some_iff.mp hi).1
      exact ⟨A[i - 1], List.getElem?_eq_getElem (by omega)⟩
    refine le_ar (pair_at W.srt hf hi (by omega)) (evp_var rfl hx) (ts_at (R := IsAr) (k := i - 1) (web1 (vr E5 h2 rfl)) (sub_i (evp_var rfl rfl) evp_i) (by omega) hf)
  · cases decide ((0 : Int) < (i : Int)) <;> rfl
theorem call_need_web {σ : L2.St} {H : Hp} {ta : TE} {n : Nat} {A : LD.Ar} {E : XK} (W : Wb n A) (ha : EvP ta σ H (IsWeb n A)) : EvP (tCall sp_need_web [] E (tCons ta tNil)) σ H (Is .non) :=
  evp_call (δ := Nat × LD.Ar) (n, A) W (eap_cons ha eap_nil)
def sp_need_door : Sp := spP (δ := Nat × LD.Ar × Int) (fun d => [IsWeb d.1 d.2.1, IsI d.2.2]) (fun d => 0 ≤ d.2.2 ∧ d.2.2 < d.1) (fun _ => Is .non)
theorem ok_need_door (T : Txt K mg) : FnOk P w K mg base CX0 2 T.a_need_door T.d_need_door ["web", "door"] sp_need_door := by
  refine okP T.F_need_door sc_need_door (fun _ => rfl) fun cdv Ar outer s H E d vs hr hd hv => ?_
  obtain ⟨a, b, rfl, h0, h1⟩ := all2 hv
  refine ⟨_, (pss_one (ps_if (pt_not (pt_val (pe_call (ok_is_in T) (hr.mono (by decide)) (by rfl) T.g_is_in T.F_is_in.kp T.b_is_in .nil pass0 (pa_cons (pv 1) (pa_cons pe_int (pa_cons (pe_op op_sub (pe_ix (kIxT (K := K) rfl) (pv 0) pe_int (fun _ _ => rfl)) pe_int) pa_nil)))))) (pss_one ps_never) pss_nil)), fun Q q => ?_⟩
  refine s_no (evt_is (et_not (evt_val (call_is_in (evp_var rfl h1) evp_i (sub_i (web0 (evp_var rfl h0)) evp_i)))) ?_) fun H1 e1 => q _ _ e1 rfl
  have := hd.1
  have := hd.2
  rw [decide_eq_true (by omega), decide_eq_true (by omega)]
  rfl
theorem call_need_door {σ : L2.St} {H : Hp} {ta tb : TE} {n : Nat} {A : LD.Ar} {k : Int} {E : XK} (hk : 0 ≤ k ∧ k < n) (ha : EvP ta σ H (IsWeb n A)) (hb : EvP tb σ H (IsI k)) : EvP (tCall sp_need_door [] E (tCons ta (tCons tb tNil))) σ H (Is .non) :=
  evp_call (δ := Nat × LD.Ar × Int) (n, A, k) hk (eap_cons ha (eap_cons hb eap_nil))
/-- an item of a tuple of ints -/
def sp_need_opened : Sp := spWO fun _ _ _ => Is .non
theorem asc_at {l : List Int} (h : Asc l) {i j : Nat} {e f : Int} (hi : l[i]? = some e) (hj : l[j]? = some f) (lt : i < j) : e < f := by
  obtain ⟨h1, rfl⟩ := List.getElem?_eq_some_iff.mp hi
  obtain ⟨h2, rfl⟩ := List.getElem?_eq_some_iff.mp hj
  exact List.pairwise_iff_getElem.mp h i j h1 h2 lt
theorem ok_need_opened (T : Txt K mg) : FnOk P w K mg base CX0 2 T.a_need_opened T.d_need_opened ["web", "opened"] sp_need_opened := by
  refine okWO T.F_need_opened sc_need_opened rfl fun cdv Ar outer s H E n A O v0 v1 hr W S h0 h1 => ?_
  refine ⟨_, (pss_cons (ps_if (pt_not (pt_val (pe_callB (kIsi (K := K) rfl) (by rfl) T.z_isinstance (by decide +kernel) (pa_cons (pv 1) (pa_cons (pe_bltn (v := .ty "tuple") (by rfl) T.z_tuple (by decide +kernel) rfl) pa_nil))))) (pss_one ps_never) pss_nil)
      (pss_one (ps_for PassesOwn.never rfl (kEnumT (K := K) rfl (by rfl) T.z_enumerate (pa_cons (pv 1) pa_nil)) (kPgT (K := K) rfl rfl (pgs_cons (pg_name (i := 2) sc_need_opened.nd rfl (Or.inl rfl)) (pgs_cons (pg_name (i := 3) sc_need_opened.nd rfl (Or.inl rfl)) pgs_nil))) (pss_one (ps_if (PW.pt (pw_or (pt_not (pt_val (pe_call (ok_is_in T) (hr.mono (by decide)) (by rfl) T.g_is_in T.F_is_in.kp T.b_is_in .nil pass0 (pa_cons (pv 3) (pa_cons pe_int (pa_cons (pe_op op_sub (pe_ix (kIxT (K := K) rfl) (pv 0) pe_int (fun _ _ => rfl)) pe_int) pa_nil)))))) (pw_or1 (PW.pt (pw_and (pt_cmpR op_gt (pv 2) pe_int (nomark _)) (pw_and1 (pt_cmpR op_le (pv 3) (pe_ix (kIxT (K := K) rfl) (pv 1) (pe_op op_sub (pv 2) pe_int) (fun _ _ => rfl)) (nomark _)))))))) (pss_one ps_never) pss_nil))))), fun Q q => ?_⟩
  refine q_no (evt_is (et_not (evt_val (isi_tup (evp_var rfl h1) ti_tup))) rfl) fun H2 e2 => ?_
  have g0 := Mon.mono e2 h0
  have g1 := Mon.mono e2 h1
  refine s_forE (R := IsI) (evp_tis (evp_var rfl g1)) (fun H3 i σ' H' => ∃ x y, σ' = [some v0, some v1, x, y] ∧ Ex H3 H') (fun H3 i σ' H' ⟨_, _, _, z⟩ => z) (fun H3 e3 => ⟨_, _, rfl, Ex.refl _⟩) (fun H3 e3 i e x σ' H' hi ⟨_, _, hσ, e4⟩ H5 e5 hx => ?_) (fun H3 σ' H' e3 ⟨_, _, _, e4⟩ => q _ _ (((e2.trans e3).trans e4)) rfl)
  subst hσ
  have E5 := (e3.trans e4).trans e5
  have bd := S.bd e (List.mem_of_getElem? hi)
  refine s_no (evt_is (et_or (et_not (evt_val (call_is_in (evp_var rfl hx) evp_i (sub_i (web0 (vr E5 g0 rfl)) evp_i)))) fun _ => et_and (b := false) (gt_i (evp_var rfl rfl) evp_i) fun c => ?_) ?_) fun H6 e6 => ⟨_, _, rfl, e4.trans (e5.trans e6)⟩
  · have c' : (0 : Int) < (i : Int) := of_decide_eq_true c
    obtain ⟨f, hf⟩ : ∃ f, O[i - 1]? = some f := by
      have := (List.getElem?_eq_some_iff.mp hi).1
      exact ⟨O[i - 1], List.getElem?_eq_getElem (by omega)⟩
    have lt := asc_at S.asc hf hi (by omega)
    exact evt_is (le_i (evp_var rfl hx) (ts_at (R := IsI) (k := i - 1) (evp_tis (vr E5 g1 rfl)) (sub_i (evp_var rfl rfl) evp_i) (by omega) hf)) (decide_eq_false (by omega))
  · rw [decide_eq_true (by omega), decide_eq_true (show e ≤ (n : Int) - 1 by omega)]
    cases decide ((0 : Int) < (i : Int)) <;> rfl
def sp_need_both : Sp := spWO fun _ _ _ => Is .non
theorem ok_need_both (T : Txt K mg) : FnOk P w K mg base CX0 4 T.a_need_both T.d_need_both ["web", "opened"] sp_need_both := by
  refine okWO T.F_need_both sc_need_both rfl fun cdv Ar outer s H E n A O v0 v1 hr W S h0 h1 => ?_
  refine ⟨_, (pss_cons (ps_expr (pe_call (ok_need_web T) (hr.mono (by decide)) (by rfl) T.g_need_web T.F_need_web.kp T.b_need_web .nil pass0 (pa_cons (pv 0) pa_nil)))
      (pss_one (ps_expr (pe_call (ok_need_opened T) (hr.mono (by decide)) (by rfl) T.g_need_opened T.F_need_opened.kp T.b_need_opened .nil pass0 (pa_cons (pv 0) (pa_cons (pv 1) pa_nil)))))), fun Q q => ?_⟩
  exact qP_drop (call_need_web W (evp_var rfl h0)) fun H1 e1 => sP_drop (callWO W S (vr e1 h0 rfl) (vr e1 h1 rfl)) fun H2 e2 => q _ _ (e1.trans e2) rfl
def sp_open_in : Sp := spWO fun n A O => IsLs IsI ((rng n).filter fun k => decide (CanO A O k))
theorem ok_open_in (T : Txt K mg) : FnOk P w K mg base CX0 1 T.a_open_in T.d_open_in ["web", "opened"] sp_open_in := by
  refine okWO T.F_open_in sc_open_in rfl fun cdv Ar outer s H E n A O v0 v1 hr W S h0 h1 => ?_
  refine ⟨_, (pss_cons (ps_set (i := 2) sc_open_in.nd rfl (Or.inr rfl) (pe_lc (own := [("one", 3), ("other", 4)]) (g := (gTup K 2 (gCons (gName 3) (gCons (gName 4) gNil)))) rfl sc_open_in.nd (kPiT (K := K) rfl (pe_ix (kIxT (K := K) rfl) (pv 0) pe_int (fun _ _ => rfl))) (blkOk_by (own := [("one", 3), ("other", 4)]) (N := ["web", "opened", "barred", "one", "other", "k"]) (sc := defScope s_open_in) (by decide +kernel)) (fun _ _ _ _ _ => (kPgT (K := K) rfl rfl (pgs_cons (pg_name (i := 3) sc_open_in.nd rfl (Or.inl rfl)) (pgs_cons (pg_name (i := 4) sc_open_in.nd rfl (Or.inl rfl)) pgs_nil)))) (fun _ _ _ _ _ => (pts_one (pt_cmpR (kIn (K := K) rfl) (pv 3) (pv 1) (by rfl)))) (fun _ _ _ _ _ => (pv 4))))
      (pss_one (ps_ret (pe_lc (own := [("k", 5)]) (g := (gName 5)) rfl sc_open_in.nd (pi_range1 (by rfl) T.z_range (pa_cons (pe_ix (kIxT (K := K) rfl) (pv 0) pe_int (fun _ _ => rfl)) pa_nil)) (blkOk_by (own := [("k", 5)]) (N := ["web", "opened", "barred", "one", "other", "k"]) (sc := defScope s_open_in) (by decide +kernel)) (fun _ _ _ _ _ => (pg_name (i := 5) sc_open_in.nd rfl (Or.inl rfl))) (fun _ _ _ _ _ => (pts_one (PW.pt (pw_and (pt_cmpR (kNotIn (K := K) rfl) (pv 5) (pv 1) (by rfl)) (pw_and1 (pt_cmpR (kNotIn (K := K) rfl) (pv 5) (pv 2) (by rfl))))))) (fun _ _ _ _ _ => (pv 5)))))), fun Q q => ?_⟩
  have hz := W.len
  refine qP_asg (lcT (R := IsAr) (S := IsI) (fun e => decide (e.1 ∈ O)) (fun e => e.2) _ (web1 (evp_var rfl h0)) (by omega) tg_pair (fun _ _ => rfl) (fun e he x H1 e1 r => in_t (evp_var rfl rfl) (vr e1 h1 rfl)) (fun e he hp x H1 e1 r => evp_var rfl rfl)) fun vb H1 e1 hb => ?_
  refine sP_ret (lcR (S := IsI) (fun k => !decide (k ∈ O) && !decide (k ∈ (A.filter fun e => decide (e.1 ∈ O)).map fun e => e.2)) (fun k => k) (web0 (vr e1 h0 rfl)) (by have := W.n6; omega) (fun _ => rfl)
    (fun k k0 k1 H2 e2 => et_and (ni_t (evp_var rfl rfl) (vr (e1.trans e2) h1 rfl)) fun _ => ni_l (evp_var rfl rfl) (evp_li (vr e2 hb rfl))) (fun k k0 k1 hp H2 e2 => evp_var rfl rfl)) fun v H2 e2 hv => q v H2 (e1.trans e2) (hv.of ?_)
  rw [map_id]
  exact open_eq
def sp_shut_in : Sp := spWO fun n A O => IsLs IsI ((rng n).filter fun k => decide (CanS A O k))
theorem ok_shut_in (T : Txt K mg) : FnOk P w K mg base CX0 1 T.a_shut_in T.d_shut_in ["web", "opened"] sp_shut_in := by
  refine okWO T.F_shut_in sc_shut_in rfl fun cdv Ar outer s H E n A O v0 v1 hr W S h0 h1 => ?_
  refine ⟨_, (pss_cons (ps_set (i := 2) sc_shut_in.nd rfl (Or.inr rfl) (pe_lc (own := [("one", 3), ("other", 4)]) (g := (gTup K 2 (gCons (gName 3) (gCons (gName 4) gNil)))) rfl sc_shut_in.nd (kPiT (K := K) rfl (pe_ix (kIxT (K := K) rfl) (pv 0) pe_int (fun _ _ => rfl))) (blkOk_by (own := [("one", 3), ("other", 4)]) (N := ["web", "opened", "barred", "one", "other", "k"]) (sc := defScope s_shut_in) (by decide +kernel)) (fun _ _ _ _ _ => (kPgT (K := K) rfl rfl (pgs_cons (pg_name (i := 3) sc_shut_in.nd rfl (Or.inl rfl)) (pgs_cons (pg_name (i := 4) sc_shut_in.nd rfl (Or.inl rfl)) pgs_nil)))) (fun _ _ _ _ _ => (pts_one (pt_cmpR (kNotIn (K := K) rfl) (pv 4) (pv 1) (by rfl)))) (fun _ _ _ _ _ => (pv 3))))
      (pss_one (ps_ret (pe_lc (own := [("k", 5)]) (g := (gName 5)) rfl sc_shut_in.nd (kPiT (K := K) rfl (pv 1)) (blkOk_by (own := [("k", 5)]) (N := ["web", "opened", "barred", "one", "other", "k"]) (sc := defScope s_shut_in) (by decide +kernel)) (fun _ _ _ _ _ => (pg_name (i := 5) sc_shut_in.nd rfl (Or.inl rfl))) (fun _ _ _ _ _ => (pts_one (pt_cmpR (kNotIn (K := K) rfl) (pv 5) (pv 2) (by rfl)))) (fun _ _ _ _ _ => (pv 5)))))), fun Q q => ?_⟩
  have hz := W.len
  have ho := S.len
  have n6 := W.n6
  refine qP_asg (lcT (R := IsAr) (S := IsI) (fun e => !decide (e.2 ∈ O)) (fun e => e.1) _ (web1 (evp_var rfl h0)) (by omega) tg_pair (fun _ _ => rfl) (fun e he x H1 e1 r => ni_t (evp_var rfl rfl) (vr e1 h1 rfl)) (fun e he hp x H1 e1 r => evp_var rfl rfl)) fun vb H1 e1 hb => ?_
  refine sP_ret (lcT (R := IsI) (S := IsI) (fun k => !decide (k ∈ (A.filter fun e => !decide (e.2 ∈ O)).map fun e => e.1)) (fun k => k) _ (evp_tis (vr e1 h1 rfl)) (by omega) tg_name (fun _ _ => rfl)
    (fun k _ x H2 e2 hx => ni_l (evp_var rfl hx) (evp_li (vr e2 hb rfl))) (fun k _ hp x H2 e2 hx => evp_var rfl hx)) fun v H2 e2 hv => q v H2 (e1.trans e2) (hv.of ?_)
  rw [map_id]
  exact shut_eq S
def sp_doable : Sp := spWO fun n A O => IsLs IsI (doab n A O)
theorem fil_len {n : Nat} (W : n ≤ 6) (p : Int → Bool) : ((rng n).filter p).length ≤ 6 := Nat.le_trans (sd_rng p).len W
theorem ok_doable (T : Txt K mg) : FnOk P w K mg base CX0 2 T.a_doable T.d_doable ["web", "opened"] sp_doable := by
  refine okWO T.F_doable sc_doable rfl fun cdv Ar outer s H E n A O v0 v1 hr W S h0 h1 => ?_
  refine ⟨_, (pss_one (ps_ret (pe_callB (kSortedI (K := K) rfl) (by rfl) T.z_sorted (by decide +kernel) (pa_cons (pe_op op_cat (pe_call (ok_open_in T) (hr.mono (by decide)) (by rfl) T.g_open_in T.F_open_in.kp T.b_open_in .nil pass0 (pa_cons (pv 0) (pa_cons (pv 1) pa_nil))) (pe_call (ok_shut_in T) (hr.mono (by decide)) (by rfl) T.g_shut_in T.F_shut_in.kp T.b_shut_in .nil pass0 (pa_cons (pv 0) (pa_cons (pv 1) pa_nil)))) pa_nil)))), fun Q q => ?_⟩
  refine sP_ret (sorted_i (cat_l (R := IsI) (callWO W S (evp_var rfl h0) (evp_var rfl h1)) (callWO W S (evp_var rfl h0) (evp_var rfl h1)) ?_) fun l p s => doab_of p s) q
  have := fil_len W.n6 fun k => decide (CanO A O k)
  have := fil_len W.n6 fun k => decide (CanS A O k)
  omega
/-- the standing with one door changed: the number of doors is not told -/
def sp_changed : Sp := spP (δ := Nat × List Int × Int) (fun d => [IsTI d.2.1, IsI d.2.2]) (fun d => d.1 ≤ 6 ∧ Sd d.1 d.2.1 ∧ 0 ≤ d.2.2 ∧ d.2.2 < d.1) (fun d => IsTI (chg d.1 d.2.1 d.2.2))
theorem call_changed {σ : L2.St} {H : Hp} {ta tb : TE} {n : Nat} {O : List Int} {k : Int} {E : XK} (h6 : n ≤ 6) (S : Sd n O) (hk : 0 ≤ k ∧ k < n) (ha : EvP ta σ H (IsTI O)) (hb : EvP tb σ H (IsI k)) : EvP (tCall sp_changed [] E (tCons ta (tCons tb tNil))) σ H (IsTI (chg n O k)) :=
  evp_call (δ := Nat × List Int × Int) (n, O, k) ⟨h6, S, hk.1, hk.2⟩ (eap_cons ha (eap_cons hb eap_nil))
def sp_pairs_in : Sp := spWO fun n A O => IsLs IsAr (prs A O)
theorem ok_pairs_in (T : Txt K mg) : FnOk P w K mg base CX0 1 T.a_pairs_in T.d_pairs_in ["web", "opened"] sp_pairs_in := by
  refine okWO T.F_pairs_in sc_pairs_in rfl fun cdv Ar outer s H E n A O v0 v1 hr W S h0 h1 => ?_
  refine ⟨_, (pss_one (ps_ret (pe_lc (own := [("arrow", 2)]) (g := (gName 2)) rfl sc_pairs_in.nd (kPiT (K := K) rfl (pe_ix (kIxT (K := K) rfl) (pv 0) pe_int (fun _ _ => rfl))) (blkOk_by (own := [("arrow", 2)]) (N := ["web", "opened", "arrow"]) (sc := defScope s_pairs_in) (by decide +kernel)) (fun _ _ _ _ _ => (pg_name (i := 2) sc_pairs_in.nd rfl (Or.inl rfl))) (fun _ _ _ _ _ => (pts_one (PW.pt (pw_and (pt_cmpR (kIn (K := K) rfl) (pe_ix (kIxT (K := K) rfl) (pv 2) pe_int (fun _ _ => rfl)) (pv 1) (by rfl)) (pw_and1 (pt_cmpR (kNotIn (K := K) rfl) (pe_ix (kIxT (K := K) rfl) (pv 2) pe_int (fun _ _ => rfl)) (pv 1) (by rfl))))))) (fun _ _ _ _ _ => (pv 2))))), fun Q q => ?_⟩
  have hz := W.len
  refine sP_ret (lcT (R := IsAr) (S := IsAr) (fun e => decide (e.1 ∈ O) && !decide (e.2 ∈ O)) (fun e => e) _ (web1 (evp_var rfl h0)) (by omega) tg_name (fun _ _ => rfl)
    (fun e _ x H2 e2 hx => et_and (in_t (ar0 (evp_var rfl hx)) (vr e2 h1 rfl)) fun _ => ni_t (ar1 (evp_var rfl hx)) (vr e2 h1 rfl)) (fun e _ hp x H2 e2 hx => evp_var rfl hx)) fun v H2 e2 hv => q v H2 e2 (hv.of ?_)
  simp [prs]
def sp_frozen_in : Sp := spWO fun n A O => IsLs IsI (frz n A O)
theorem ok_frozen_in (T : Txt K mg) : FnOk P w K mg base CX0 2 T.a_frozen_in T.d_frozen_in ["web", "opened"] sp_frozen_in := by
  refine okWO T.F_frozen_in sc_frozen_in rfl fun cdv Ar outer s H E n A O v0 v1 hr W S h0 h1 => ?_
  refine ⟨_, (pss_cons (ps_set (i := 2) sc_frozen_in.nd rfl (Or.inl rfl) (pe_lst pa_nil))
      (pss_cons (ps_for PassesOwn.never rfl (kPiL (K := K) rfl (pe_call (ok_pairs_in T) (hr.mono (by decide)) (by rfl) T.g_pairs_in T.F_pairs_in.kp T.b_pairs_in .nil pass0 (pa_cons (pv 0) (pa_cons (pv 1) pa_nil)))) (kPgT (K := K) rfl rfl (pgs_cons (pg_name (i := 3) sc_frozen_in.nd rfl (Or.inl rfl)) (pgs_cons (pg_name (i := 4) sc_frozen_in.nd rfl (Or.inl rfl)) pgs_nil))) (pss_one (ps_set (i := 2) sc_frozen_in.nd rfl (Or.inl rfl) (pe_op op_cat (pv 2) (pe_lst (pa_cons (pv 3) (pa_cons (pv 4) pa_nil)))))))
      (pss_one (ps_ret (pe_callB (kSortedSet (w := w) rfl rfl) (by rfl) T.z_sorted (by decide +kernel) (pa_cons (pe_callTy (kSetI (K := K) (w := w) rfl rfl rfl) (by rfl) T.z_set (by decide +kernel) (pa_cons (pv 2) pa_nil)) pa_nil)))))), fun Q q => ?_⟩
  have hz := prs_len (O := O) W
  refine qP_asg (evp_nil (R := IsI)) fun vf H1 e1 hf => ?_
  refine q_forA (callWO W S (vr e1 h0 rfl) (vr e1 h1 rfl)) (fun H2 i σ' H' => ∃ f x y, σ' = [some v0, some v1, some f, x, y] ∧ Ex H2 H' ∧ IsLs IsI (flat ((prs A O).take i)) f H') (fun H2 i σ' H' ⟨_, _, _, _, z, _⟩ => z) (fun H2 e2 => ⟨vf, none, none, rfl, Ex.refl _, Mon.mono e2 hf⟩) (fun H2 e2 i e σ' H' hi ⟨f, x, y, hσ, e3, hf'⟩ => ?_) (fun H2 σ' H' e2 ⟨f, x, y, hσ, e3, hf'⟩ => ?_)
  · subst hσ
    refine sP_asg (cat_l (R := IsI) (m := [e.1, e.2]) (evp_var rfl hf') ((evp_lst (eap_cons (P := IsI e.1) (evp_var rfl rfl) (eap_cons (P := IsI e.2) (evp_var rfl rfl) eap_nil)) (by show 2 ≤ 100000; decide)).imp fun v H3 _ ⟨a, xs, z1, z2, H0, _, hv⟩ => ?_) ?_) fun v H3 e4 hv => ⟨v, _, _, rfl, e3.trans e4, by rw [flat_more hi]; exact hv⟩
    · obtain ⟨x1, x2, rfl, p1, p2⟩ := all2 hv
      exact ⟨a, _, z1, z2, .cons p1 (.cons p2 .nil)⟩
    · rw [flat_len, List.length_take]
      simp only [List.length_cons, List.length_nil]
      omega
  · subst hσ
    rw [List.take_length] at hf'
    refine sP_ret (sorted_set (evp_var rfl hf') (by rw [flat_len]; omega) (frz_asc n A O) fun k => frz_flat W) fun v H3 e4 hv => q v H3 (((e1.trans e2).trans e3).trans e4) hv
def sp_loose_in : Sp := spWO fun n A O => IsLs IsI (lse n A O)
theorem ok_loose_in (T : Txt K mg) : FnOk P w K mg base CX0 3 T.a_loose_in T.d_loose_in ["web", "opened"] sp_loose_in := by
  refine okWO T.F_loose_in sc_loose_in rfl fun cdv Ar outer s H E n A O v0 v1 hr W S h0 h1 => ?_
  refine ⟨_, (pss_cons (ps_set (i := 2) sc_loose_in.nd rfl (Or.inr rfl) (pe_call (ok_frozen_in T) (hr.mono (by decide)) (by rfl) T.g_frozen_in T.F_frozen_in.kp T.b_frozen_in .nil pass0 (pa_cons (pv 0) (pa_cons (pv 1) pa_nil))))
      (pss_one (ps_ret (pe_lc (own := [("k", 3)]) (g := (gName 3)) rfl sc_loose_in.nd (pi_range1 (by rfl) T.z_range (pa_cons (pe_ix (kIxT (K := K) rfl) (pv 0) pe_int (fun _ _ => rfl)) pa_nil)) (blkOk_by (own := [("k", 3)]) (N := ["web", "opened", "some", "k"]) (sc := defScope s_loose_in) (by decide +kernel)) (fun _ _ _ _ _ => (pg_name (i := 3) sc_loose_in.nd rfl (Or.inl rfl))) (fun _ _ _ _ _ => (pts_one (pt_cmpR (kNotIn (K := K) rfl) (pv 3) (pv 2) (by rfl)))) (fun _ _ _ _ _ => (pv 3)))))), fun Q q => ?_⟩
  refine qP_asg (callWO W S (evp_var rfl h0) (evp_var rfl h1)) fun vs H1 e1 hs => ?_
  refine sP_ret (lcR (S := IsI) (fun k => !decide (k ∈ frz n A O)) (fun k => k) (web0 (vr e1 h0 rfl)) (by have := W.n6; omega) (fun _ => rfl)
    (fun k k0 k1 H2 e2 => ni_l (evp_var rfl rfl) (evp_li (vr e2 hs rfl))) (fun k k0 k1 hp H2 e2 => evp_var rfl rfl)) fun v H2 e2 hv => q v H2 (e1.trans e2) (hv.of ?_)
  rw [map_id]
  exact lse_eq W
end
end LDW

/-! Standings, rings, reach: each def once. -/
namespace LDW
open PySem PySem.Spec PyProof.Rows L2 Evl LD
section
variable {P : Program} {w : World} {K : PySem.W.Frag} {mg : Str → Option Value} {base : Heap}
theorem ok_changed (T : Txt K mg) : FnOk P w K mg base CX0 1 T.a_changed T.d_changed ["opened", "door"] sp_changed := by
  refine okP T.F_changed sc_changed (fun _ => rfl) fun cdv Ar outer s H E d vs hr hd hv => ?_
  obtain ⟨v0, v1, rfl, h0, h1⟩ := all2 hv
  obtain ⟨n, O, k⟩ := d
  obtain ⟨n6, S, k0, k1⟩ := hd
  simp only at h0 h1 S n6 k0 k1
  have hl := S.len
  refine ⟨_, (pss_cons (ps_if (pt_cmpR (kIn (K := K) rfl) (pv 1) (pv 0) (by rfl)) (pss_one (ps_ret (pe_callTy (kTuple (K := K) rfl) (by rfl) T.z_tuple (by decide +kernel) (pa_cons (pe_lc (own := [("k", 2)]) (g := (gName 2)) rfl sc_changed.nd (kPiT (K := K) rfl (pv 0)) (blkOk_by (own := [("k", 2)]) (N := ["opened", "door", "k"]) (sc := defScope s_changed) (by decide +kernel)) (fun _ _ _ _ _ => (pg_name (i := 2) sc_changed.nd rfl (Or.inl rfl))) (fun _ _ _ _ _ => (pts_one (pt_cmpR op_ne (pv 2) (pv 1) (nomark _)))) (fun _ _ _ _ _ => (pv 2))) pa_nil)))) pss_nil)
      (pss_one (ps_ret (pe_callTy (kTuple (K := K) rfl) (by rfl) T.z_tuple (by decide +kernel) (pa_cons (pe_callB (kSortedTI (K := K) rfl) (by rfl) T.z_sorted (by decide +kernel) (pa_cons (pe_op (kCatA (K := K) rfl) (pv 0) (pe_tup (pa_cons (pv 1) pa_nil))) pa_nil)) pa_nil))))), fun Q q => ?_⟩
  refine q_when (in_t (evp_var rfl h1) (evp_var rfl h0)) (fun c H1 e1 => ?_) fun c H1 e1 => ?_
  · refine sP_ret (evp_ti (tuple_l (lcT (R := IsI) (S := IsI) (fun x => !decide (x = k)) (fun x => x) _ (evp_tis (vr e1 h0 rfl)) (by omega) tg_name (fun _ _ => rfl) (fun x _ y H2 e2 hy => ne_i (evp_var rfl hy) (vr (e1.trans e2) h1 rfl)) (fun x _ _ y H2 e2 hy => evp_var rfl hy)))) fun v H2 e2 hv => q v H2 (e1.trans e2) ?_
    rw [map_id, chg_del S (of_decide_eq_true c)] at hv
    exact hv
  · refine sP_ret (evp_ti (tuple_l (sorted_t (cat_t (vr e1 h0 rfl) (one_t (vr e1 h1 rfl)) ?_) fun l' p s => chg_ins S ⟨k0, k1⟩ (of_decide_eq_false c) p s))) fun v H2 e2 hv => q v H2 (e1.trans e2) hv
    simp only [List.length_cons, List.length_nil]
    omega
def sp_standings : Sp := spP (δ := List Int) (fun d => [IsLs IsI d]) (fun d => d.length ≤ 6) (fun d => IsPm IsTI (sbs d))
theorem take_sbs {l : List Int} {i : Nat} {x : Int} (h : l[i]? = some x) : sbs (l.take (i + 1)) = sbs (l.take i) ++ (sbs (l.take i)).map (· ++ [x]) := by
  rw [← sbs_snoc, List.take_add_one, h]
  rfl
theorem fil_true {α : Type} (l : List α) : (l.filter fun _ => true) = l := by simp
theorem ok_standings (T : Txt K mg) : FnOk P w K mg base CX0 1 T.a_standings T.d_standings ["doors"] sp_standings := by
  refine okP T.F_standings sc_standings (fun _ => rfl) fun cdv Ar outer s H E l vs hr hl hv => ?_
  obtain ⟨v0, rfl, h0⟩ := all1 hv
  refine ⟨_, (pss_cons (ps_set (i := 1) sc_standings.nd rfl (Or.inl rfl) (pe_lst (pa_cons (pe_tup pa_nil) pa_nil)))
      (pss_cons (ps_for PassesOwn.never rfl (kPiL (K := K) rfl (pv 0)) (pg_name (i := 2) sc_standings.nd rfl (Or.inr rfl)) (pss_one (ps_set (i := 1) sc_standings.nd rfl (Or.inl rfl) (pe_op op_cat (pv 1) (pe_lc (own := [("one", 3)]) (g := (gName 3)) rfl sc_standings.nd (kPiL (K := K) rfl (pv 1)) (blkOk_by (own := [("one", 3)]) (N := ["doors", "found", "door", "one"]) (sc := defScope s_standings) (by decide +kernel)) (fun _ _ _ _ _ => (pg_name (i := 3) sc_standings.nd rfl (Or.inl rfl))) (fun _ _ _ _ _ => pts_nil) (fun _ _ _ _ _ => (pe_op (kCatA (K := K) rfl) (pv 3) (pe_tup (pa_cons (pv 2) pa_nil)))))))))
      (pss_one (ps_ret (pe_callB (kSortTs (K := K) rfl (room10 hr)) (by rfl) T.z_sorted (by decide +kernel) (pa_cons (pv 1) pa_nil)))))), fun Q q => ?_⟩
  refine qP_asg ((evp_lst (eap_cons nil_t eap_nil) (by show 1 ≤ 100000; decide)).imp (P' := IsLs IsTI (sbs [])) fun v H1 _ ⟨a, xs, z1, z2, H0, e, hv⟩ => ?_) fun vf H1 e1 hf => ?_
  · obtain ⟨x, rfl, h3⟩ := all1 hv
    exact ⟨a, _, z1, z2, .cons (Mon.mono e h3) .nil⟩
  refine q_forN (vr e1 h0 rfl) (fun H2 i σ' H' => ∃ f x y, σ' = [some v0, some f, x, y] ∧ Ex H2 H' ∧ IsLs IsTI (sbs (l.take i)) f H') (fun H2 i σ' H' ⟨_, _, _, _, z, _⟩ => z) (fun H2 e2 => ⟨vf, none, none, rfl, Ex.refl _, Mon.mono e2 hf⟩) (fun H2 e2 i b x σ' H' hi hx ⟨f, y, z, hσ, e3, hf'⟩ => ?_) fun H2 σ' H' e2 ⟨f, y, z, hσ, e3, hf'⟩ => ?_
  · subst hσ
    have hlen : (sbs (l.take i)).length ≤ 64 := sbs_le (by rw [List.length_take]; omega)
    refine sP_asg (cat_l (R := IsTI) (evp_var rfl hf') (lcL (R := IsTI) (S := IsTI) (fun _ => true) (fun s => s ++ [b]) _ (evp_var rfl hf') (by omega) tg_name (fun _ _ => rfl) (fun _ _ _ _ _ _ => yes) fun s hs _ v H3 e4 hv => cat_t (evp_var rfl hv) (one_t (vr e4 hx rfl)) ?_) ?_) fun v H3 e4 hv => ⟨v, _, _, rfl, e3.trans e4, ?_⟩
    · have := (sbs_sub hs).length_le
      rw [List.length_take] at this
      simp only [List.length_cons, List.length_nil]
      omega
    · rw [List.length_map]
      have := List.length_filter_le (fun _ => true) (sbs (l.take i))
      omega
    · rw [take_sbs hi]
      rw [fil_true] at hv
      exact hv
  · subst hσ
    rw [List.take_length] at hf'
    exact sP_ret (sorted_ts (evp_var rfl hf')) fun v H3 e4 hv => q v H3 (((e1.trans e2).trans e3).trans e4) hv
theorem call_standings {σ : L2.St} {H : Hp} {ta : TE} {l : List Int} {E : XK} (hl : l.length ≤ 6) (ha : EvP ta σ H (IsLs IsI l)) : EvP (tCall sp_standings [] E (tCons ta tNil)) σ H (IsPm IsTI (sbs l)) :=
  evp_call (δ := List Int) l hl (eap_cons ha eap_nil)
noncomputable def sp_ringless : Sp := spWO fun n A s => Is (.bl (rlb A s))
theorem ok_ringless (T : Txt K mg) : FnOk P w K mg base CX0 1 T.a_ringless T.d_ringless ["web", "some"] sp_ringless := by
  refine okWO T.F_ringless sc_ringless rfl fun cdv Ar outer s H E n A O v0 v1 hr W S h0 h1 => ?_
  refine ⟨_, (pss_cons (ps_set (i := 2) sc_ringless.nd rfl (Or.inr rfl) (pe_callTy (kList (K := K) rfl) (by rfl) T.z_list (by decide +kernel) (pa_cons (pv 1) pa_nil)))
      (pss_cons (ps_while PassesOwn.never (pt_cmpR (kNeD (K := K) rfl hr.units) (pv 2) (pe_lst pa_nil) (nomark _)) (pss_cons (ps_setLc (i := 3) (own := [("k", 4)]) (g := (gName 4)) rfl sc_ringless.nd rfl rfl (sw_true rfl rfl rfl (by decide +kernel)) (kPiL (K := K) rfl (pv 2)) (blkOk_by (own := [("k", 4)]) (N := ["web", "some", "left", "more", "k", "one", "other"]) (sc := defScope s_ringless) (by decide +kernel)) (fun _ _ _ _ _ => (pg_name (i := 4) sc_ringless.nd rfl (Or.inr rfl))) (fun _ _ _ _ _ => (pts_one (pt_cmpR (kNeD (K := K) rfl hr.units) (pe_lc (own := [("one", 5), ("other", 6)]) (g := (gTup K 2 (gCons (gName 5) (gCons (gName 6) gNil)))) rfl sc_ringless.nd (kPiT (K := K) rfl (pe_ix (kIxT (K := K) rfl) (pv 0) pe_int (fun _ _ => rfl))) (blkOk_by (own := [("one", 5), ("other", 6)]) (by kernel_rfl)) (fun _ _ _ _ _ => (kPgT (K := K) rfl rfl (pgs_cons (pg_name (i := 5) sc_ringless.nd rfl (Or.inl rfl)) (pgs_cons (pg_name (i := 6) sc_ringless.nd rfl (Or.inl rfl)) pgs_nil)))) (fun _ _ _ _ _ => (pts_one (PW.pt (pw_and (pt_cmpR op_eq (pv 5) (pv 4) (nomark _)) (pw_and1 (pt_cmpR (kIn (K := K) rfl) (pv 6) (pv 2) (by rfl))))))) (fun _ _ _ _ _ => (pv 6))) (pe_lst pa_nil) (nomark _)))) (fun _ _ _ _ _ => (pv 4)))
      (pss_cons (ps_if (pt_cmpR op_eq (pe_callB (kLen (K := K) rfl) (by rfl) T.z_len PySem.boot_len (pa_cons (pv 3) pa_nil)) (pe_callB (kLen (K := K) rfl) (by rfl) T.z_len PySem.boot_len (pa_cons (pv 2) pa_nil)) (nomark _)) (pss_one (ps_ret pe_bl)) pss_nil)
      (pss_one (ps_set (i := 2) sc_ringless.nd rfl (Or.inr rfl) (pv 3))))))
      (pss_one (ps_ret pe_bl)))), fun Q q => ?_⟩
  have hz := W.len
  have ho := S.len
  have n6 := W.n6
  refine qP_asg (list_t (R := IsI) (evp_tis (evp_var rfl h1))) fun vl H1 e1 hl => ?_
  refine q_while (fun m σ' H' => ∃ (L : List Int) (vl x y : Option V) (v : V), m = L.length ∧ σ' = [some v0, some v1, some v, x, y, none, none] ∧ Ex H1 H' ∧ IsLs IsI L v H' ∧ L.length ≤ 6 ∧ rlb A L = rlb A O) O.length ⟨O, none, none, none, vl, rfl, rfl, Ex.refl _, hl, by omega, rfl⟩ fun m σ' H' ⟨L, _, x, y, v, hm, hσ, e2, hL, h6, hrl⟩ => ?_
  subst hσ
  refine ⟨!L.isEmpty, ne_nil (evp_var rfl hL), fun c H2 e3 => ⟨_, fun σ2 H3 n => n, ?_⟩, fun c H2 e3 => ?_⟩
  · have ne : L ≠ [] := fun z => by rw [z] at c; exact Bool.noConfusion c
    have hL2 := Mon.mono e3 hL
    refine qP_asg (lcL (R := IsI) (S := IsI) (fun k => !((A.filter fun e => decide (e.1 = k) && decide (e.2 ∈ L)).map fun e => e.2).isEmpty) (fun k => k) _ (evp_var rfl hL2) (by omega) tg_name (fun _ _ => rfl) (fun k _ x H3 e4 hx => ne_nil (lcT (R := IsAr) (S := IsI) (fun e => decide (e.1 = k) && decide (e.2 ∈ L)) (fun e => e.2) _ (web1 (vr ((e1.trans e2).trans (e3.trans e4)) h0 rfl)) (by omega) tg_pair (fun _ _ => rfl) (fun e _ y H4 e5 hy => et_and (eq_i (evp_var rfl rfl) (vr e5 hx rfl)) fun _ => in_l (evp_var rfl rfl) (evp_li (vr (e4.trans e5) hL2 rfl))) (fun e _ _ y H4 e5 hy => evp_var rfl rfl))) (fun k _ _ x H3 e4 hx => evp_var rfl hx)) fun vm H3 e4 hm' => ?_
    rw [map_id] at hm'
    have hm' : IsLs IsI (inn A L) vm H3 := hm'
    refine q_when (eq_i (len_l (evp_var rfl hm')) (len_l (vr e4 hL2 rfl))) (fun c2 H4 e5 => ?_) fun c2 H4 e5 => ?_
    · have c3 := of_decide_eq_true c2
      refine sP_ret evp_c fun z H5 e6 hz' => q z H5 (((e1.trans (e2.trans e3)).trans (e4.trans e5)).trans e6) ?_
      rw [← hrl, rl_stuck ne (by omega)]
      exact hz'
    · have c3 := of_decide_eq_false c2
      have le := inn_le (A := A) (L := L)
      refine sP_asg (vr e5 hm' rfl) fun z H5 e6 hz' => ⟨(inn A L).length, by rw [hm]; omega, inn A L, none, _, _, z, rfl, rfl, e2.trans ((e3.trans (e4.trans e5)).trans e6), hz', by omega, by rw [rl_inn, hrl]⟩
  · refine sP_ret evp_c fun z H5 e6 hz' => q z H5 ((e1.trans (e2.trans e3)).trans e6) ?_
    have : L = [] := by
      cases L with
      | nil => rfl
      | cons a l => exact Bool.noConfusion c
    rw [← hrl, this, rl_nil]
    exact hz'
noncomputable def sp_sets_in : Sp := spN (δ := Nat × LD.Ar × List Int) (fun d => [IsWeb d.1 d.2.1, IsLs IsI d.2.2]) (fun d => Wb d.1 d.2.1 ∧ Sd d.1 d.2.2) (fun d => IsPm IsTI (rls d.2.1 d.2.2))
/-- an expression whose value is some arrangement: of each alike -/
theorem EvP.split {α : Type} {R : α → VP} {l : List α} {σ : L2.St} {H : Hp} {te : TE} (h : EvP te σ H (IsPm R l)) : ∀ H1, Ex H H1 → ∀ Q : VK, (∀ m, m.Perm l → ∀ v H2, Ex H1 H2 → IsLs R m v H2 → Q v H2) → te σ H1 Q := fun H1 e1 Q q => h H1 e1 Q fun v H2 e2 ⟨m, p, hm⟩ => q m p v H2 e2 hm
/-- a comprehension over some arrangement -/
theorem lcPN {α β : Type} {src : List α} {R : α → VP} {S : β → VP} {g : TG} {tt : TT} {te tl : TE} {vs : List Nat} {σ : L2.St} {H : Hp} [Tup R] [Tup S] (p : α → Bool) (f : α → β) (τ : V → α → L2.St) (h : EvP tl σ H (IsPm R src)) (hz : src.length ≤ 40000) (hg : Tg g R (wipe σ vs) τ) (hw : ∀ x b, wipe (τ x b) vs = wipe σ vs)
    (ht : ∀ b ∈ src, ∀ x H1, Ex H H1 → R b x H1 → EvT tt (τ x b) H1 (p b)) (he : ∀ b ∈ src, p b = true → ∀ x H1, Ex H H1 → R b x H1 → EvP te (τ x b) H1 (S (f b))) :
    EvN (tLc (iList K tl) g tt te vs) σ H (IsPm S ((src.filter p).map f)) := by
  intro H1 e1 Q q
  refine h H1 e1 _ fun v H2 e2 ⟨m, pm, a, xs, hv, ha, pr⟩ => ?_
  have ml : m.length ≤ 40000 := by rw [pm.length_eq]; exact hz
  have hs : EvP (tC v) σ H2 (IsLs R m) := fun H3 e3 Q q => q v H3 (Ex.refl _) (Mon.mono e3 ⟨a, xs, hv, ha, pr⟩)
  have key := lcLN (K := K) (g := g) (tt := tt) (te := te) (vs := vs) (S := S) p f τ hs ml hg hw (fun b mb x H3 e3 r => ht b (pm.mem_iff.mp mb) x H3 ((e1.trans e2).trans e3) r) (fun b mb z x H3 e3 r => he b (pm.mem_iff.mp mb) z x H3 ((e1.trans e2).trans e3) r) H2 (Ex.refl _) Q fun y H4 e4 hy nw => q y H4 (e2.trans e4) ⟨_, (pm.filter p).map f, hy⟩ fun b eb => none_of e2 (nw b eb)
  exact key
theorem ok_sets_in (T : Txt K mg) : FnOk P w K mg base CX0 2 T.a_sets_in T.d_sets_in ["web", "some"] sp_sets_in := by
  refine okN T.F_sets_in sc_sets_in (fun _ => rfl) fun cdv Ar outer s H E d vs hr hd hv => ?_
  obtain ⟨v0, v1, rfl, h0, h1⟩ := all2 hv
  obtain ⟨n, A, l⟩ := d
  obtain ⟨W, S⟩ := hd
  simp only at h0 h1 W S
  have n6 := W.n6
  have hl := S.len
  refine ⟨_, (pss_one (ps_ret (pe_lc (own := [("one", 2)]) (g := (gName 2)) rfl sc_sets_in.nd (kPiL (K := K) rfl (pe_call (ok_standings T) (hr.mono (by decide)) (by rfl) T.g_standings T.F_standings.kp T.b_standings .nil pass0 (pa_cons (pe_callTy (kList (K := K) rfl) (by rfl) T.z_list (by decide +kernel) (pa_cons (pv 1) pa_nil)) pa_nil))) (blkOk_by (own := [("one", 2)]) (N := ["web", "some", "one"]) (sc := defScope s_sets_in) (by decide +kernel)) (fun _ _ _ _ _ => (pg_name (i := 2) sc_sets_in.nd rfl (Or.inl rfl))) (fun _ _ _ _ _ => (pts_one (pt_val (pe_call (ok_ringless T) (hr.mono (by decide)) (by rfl) T.g_ringless T.F_ringless.kp T.b_ringless .nil pass0 (pa_cons (pv 0) (pa_cons (pv 2) pa_nil)))))) (fun _ _ _ _ _ => (pv 2))))), fun Q q => ?_⟩
  have := sbs_le (l := l) (by omega)
  refine lcPN (R := IsTI) (S := IsTI) (rlb A) (fun s => s) _ (call_standings (by omega) (list_l (evp_var rfl h1))) (by omega) tg_name (fun _ _ => rfl) (fun s hs x H1 e1 hx => evt_val (callWO W (sbs_sd S hs) (vr e1 h0 rfl) (evp_var rfl hx))) (fun s _ _ x H1 e1 hx => evp_var rfl hx) H (Ex.refl _) _ fun v H1 e1 hv nw => q v H1 e1 ?_ nw
  rw [List.map_id' ] at hv
  exact hv
theorem call_sets_in {σ : L2.St} {H : Hp} {ta tb : TE} {n : Nat} {A : LD.Ar} {l : List Int} {E : XK} (W : Wb n A) (S : Sd n l) (ha : EvP ta σ H (IsWeb n A)) (hb : EvP tb σ H (IsLs IsI l)) : EvN (tCall sp_sets_in [] E (tCons ta (tCons tb tNil))) σ H (IsPm IsTI (rls A l)) :=
  evn_call (δ := Nat × LD.Ar × List Int) (n, A, l) ⟨W, S⟩ (eap_cons ha (eap_cons hb eap_nil))
def sp_fresh_in : Sp := spP (δ := List Int × List Int) (fun d => [IsTI d.1, IsTI d.2]) (fun d => d.2.length ≤ 6) (fun d => IsLs IsI (d.2.filter fun k => decide (¬ k ∈ d.1)))
theorem ok_fresh_in (T : Txt K mg) : FnOk P w K mg base CX0 1 T.a_fresh_in T.d_fresh_in ["one", "other"] sp_fresh_in := by
  refine okP T.F_fresh_in sc_fresh_in (fun _ => rfl) fun cdv Ar outer s H E d vs hr hd hv => ?_
  obtain ⟨v0, v1, rfl, h0, h1⟩ := all2 hv
  obtain ⟨a, b⟩ := d
  simp only at h0 h1 hd
  refine ⟨_, (pss_one (ps_ret (pe_lc (own := [("k", 2)]) (g := (gName 2)) rfl sc_fresh_in.nd (kPiT (K := K) rfl (pv 1)) (blkOk_by (own := [("k", 2)]) (N := ["one", "other", "k"]) (sc := defScope s_fresh_in) (by decide +kernel)) (fun _ _ _ _ _ => (pg_name (i := 2) sc_fresh_in.nd rfl (Or.inl rfl))) (fun _ _ _ _ _ => (pts_one (pt_cmpR (kNotIn (K := K) rfl) (pv 2) (pv 0) (by rfl)))) (fun _ _ _ _ _ => (pv 2))))), fun Q q => ?_⟩
  refine sP_ret (lcT (R := IsI) (S := IsI) (fun k => decide (¬ k ∈ a)) (fun k => k) _ (evp_tis (evp_var rfl h1)) (by omega) tg_name (fun _ _ => rfl) (fun k _ x H1 e1 hx => evt_is (ni_t (evp_var rfl hx) (vr e1 h0 rfl)) (by simp)) (fun k _ _ x H1 e1 hx => evp_var rfl hx)) fun v H1 e1 hv => q v H1 e1 ?_
  rw [map_id] at hv
  exact hv
theorem call_fresh_in {σ : L2.St} {H : Hp} {ta tb : TE} {a b : List Int} {E : XK} (hl : b.length ≤ 6) (ha : EvP ta σ H (IsTI a)) (hb : EvP tb σ H (IsTI b)) : EvP (tCall sp_fresh_in [] E (tCons ta (tCons tb tNil))) σ H (IsLs IsI (b.filter fun k => decide (¬ k ∈ a))) :=
  evp_call (δ := List Int × List Int) (a, b) hl (eap_cons ha (eap_cons hb eap_nil))
def sp_sides_in : Sp := spWO fun n A O => IsP2 (IsLs IsI (lo n A O)) (IsLs IsI (ls n A O))
theorem ok_sides_in (T : Txt K mg) : FnOk P w K mg base CX0 4 T.a_sides_in T.d_sides_in ["web", "opened"] sp_sides_in := by
  refine okWO T.F_sides_in sc_sides_in rfl fun cdv Ar outer s H E n A O v0 v1 hr W S h0 h1 => ?_
  refine ⟨_, (pss_cons (ps_set (i := 2) sc_sides_in.nd rfl (Or.inl rfl) (pe_call (ok_loose_in T) (hr.mono (by decide)) (by rfl) T.g_loose_in T.F_loose_in.kp T.b_loose_in .nil pass0 (pa_cons (pv 0) (pa_cons (pv 1) pa_nil))))
      (pss_one (ps_ret (pe_tup (pa_cons (pe_lc (own := [("k", 3)]) (g := (gName 3)) rfl sc_sides_in.nd (kPiL (K := K) rfl (pv 2)) (blkOk_by (own := [("k", 3)]) (N := ["web", "opened", "some", "k"]) (sc := defScope s_sides_in) (by decide +kernel)) (fun _ _ _ _ _ => (pg_name (i := 3) sc_sides_in.nd rfl (Or.inl rfl))) (fun _ _ _ _ _ => (pts_one (pt_cmpR (kNotIn (K := K) rfl) (pv 3) (pv 1) (by rfl)))) (fun _ _ _ _ _ => (pv 3))) (pa_cons (pe_lc (own := [("k", 3)]) (g := (gName 3)) rfl sc_sides_in.nd (kPiL (K := K) rfl (pv 2)) (blkOk_by (own := [("k", 3)]) (N := ["web", "opened", "some", "k"]) (sc := defScope s_sides_in) (by decide +kernel)) (fun _ _ _ _ _ => (pg_name (i := 3) sc_sides_in.nd rfl (Or.inl rfl))) (fun _ _ _ _ _ => (pts_one (pt_cmpR (kIn (K := K) rfl) (pv 3) (pv 1) (by rfl)))) (fun _ _ _ _ _ => (pv 3))) pa_nil)))))), fun Q q => ?_⟩
  have hl := (lse_sd (n := n) (A := A) (O := O)).len
  have n6 := W.n6
  refine qP_asg (callWO W S (evp_var rfl h0) (evp_var rfl h1)) fun vs H1 e1 hs => ?_
  refine sP_ret (evp_pair (evp_ls (lcL (R := IsI) (S := IsI) (fun k => !decide (k ∈ O)) (fun k => k) _ (evp_var rfl hs) (by omega) tg_name (fun _ _ => rfl) (fun k _ x H2 e2 hx => ni_t (evp_var rfl hx) (vr (e1.trans e2) h1 rfl)) (fun k _ _ x H2 e2 hx => evp_var rfl hx)) map_id) (evp_ls (lcL (R := IsI) (S := IsI) (fun k => decide (k ∈ O)) (fun k => k) _ (evp_var rfl hs) (by omega) tg_name (fun _ _ => rfl) (fun k _ x H2 e2 hx => in_t (evp_var rfl hx) (vr (e1.trans e2) h1 rfl)) (fun k _ _ x H2 e2 hx => evp_var rfl hx)) map_id)) fun v H2 e2 hv => q v H2 (e1.trans e2) hv
end
end LDW

/-! Reach, what freezes, costs: each def once. -/
namespace LDW
open PySem PySem.Spec PyProof.Rows L2 Evl LD
section
variable {P : Program} {w : World} {K : PySem.W.Frag} {mg : Str → Option Value} {base : Heap}
noncomputable def sp_come_in : Sp := spWO fun n A O => IsPm IsTI (comeL n A O)
theorem flat_le {α β : Type} {f : α → List β} (h : ∀ a, (f a).length ≤ 64) : ∀ l : List α, (l.flatMap f).length ≤ l.length * 64
  | [] => by simp
  | a :: l => by
    have := flat_le h l
    have := h a
    rw [List.flatMap_cons, List.length_append, List.length_cons]
    omega
theorem take_flat {α β : Type} {f : α → List β} {l : List α} {i : Nat} {a : α} (h : l[i]? = some a) : (l.take (i + 1)).flatMap f = (l.take i).flatMap f ++ f a := by
  rw [List.take_add_one, h]
  simp
theorem take_map {α β : Type} {f : α → β} {l : List α} {i : Nat} {a : α} (h : l[i]? = some a) : (l.take (i + 1)).map f = (l.take i).map f ++ [f a] := by
  rw [List.take_add_one, h]
  simp
/-- what has come so far: the list at D -/
structure CmI (n : Nat) (A : LD.Ar) (O : List Int) (H0 : Hp) (D : Addr) (l : List (List Int)) (H1 H' : Hp) : Prop where
  y : Ey [D] H1 H'
  t : ExT H1 H'
  x : Ex H0 H'
  d : ∃ acc F, H' D = some (.lst acc) ∧ Paired (fun x b => IsTI b x H') acc F ∧ F.Perm l
theorem ok_come_in (T : Txt K mg) : FnOk P w K mg base CX0 5 T.a_come_in T.d_come_in ["web", "opened"] sp_come_in := by
  refine okWO T.F_come_in sc_come_in rfl fun cdv Ar outer s H E n A O v0 v1 hr W S h0 h1 => ?_
  refine ⟨_, (pss_cons (ps_asg (pe_call (ok_sides_in T) (hr.mono (by decide)) (by rfl) T.g_sides_in T.F_sides_in.kp T.b_sides_in .nil pass0 (pa_cons (pv 0) (pa_cons (pv 1) pa_nil))) (kPgT (K := K) rfl rfl (pgs_cons (pg_name (i := 2) sc_come_in.nd rfl (Or.inl rfl)) (pgs_cons (pg_name (i := 3) sc_come_in.nd rfl (Or.inl rfl)) pgs_nil))))
      (pss_cons (ps_set (i := 4) sc_come_in.nd rfl (Or.inl rfl) (pe_lst pa_nil))
      (pss_cons (ps_for PassesOwn.never rfl (kPiL (K := K) rfl (pe_call (ok_sets_in T) (hr.mono (by decide)) (by rfl) T.g_sets_in T.F_sets_in.kp T.b_sets_in .nil pass0 (pa_cons (pv 0) (pa_cons (pv 2) pa_nil)))) (pg_name (i := 5) sc_come_in.nd rfl (Or.inl rfl)) (pss_one (ps_for PassesOwn.never rfl (kPiL (K := K) rfl (pe_call (ok_sets_in T) (hr.mono (by decide)) (by rfl) T.g_sets_in T.F_sets_in.kp T.b_sets_in .nil pass0 (pa_cons (pv 0) (pa_cons (pv 3) pa_nil)))) (pg_name (i := 6) sc_come_in.nd rfl (Or.inr rfl)) (pss_one (ps_expr (pe_bm PySem.F.plainAttrs_list PySem.F.slot_list_append PySem.F.type_list_append mt_append (pv 4) (pa_cons (pe_callTy (kTuple (K := K) rfl) (by rfl) T.z_tuple (by decide +kernel) (pa_cons (pe_callB (kSortedI (K := K) rfl) (by rfl) T.z_sorted (by decide +kernel) (pa_cons (pe_op op_cat (pe_lc (own := [("k", 7)]) (g := (gName 7)) rfl sc_come_in.nd (kPiT (K := K) rfl (pv 1)) (blkOk_by (own := [("k", 7)]) (N := ["web", "opened", "fresh", "old", "found", "more", "less", "k"]) (sc := defScope s_come_in) (by decide +kernel)) (fun _ _ _ _ _ => (pg_name (i := 7) sc_come_in.nd rfl (Or.inl rfl))) (fun _ _ _ _ _ => (pts_one (pt_cmpR (kNotIn (K := K) rfl) (pv 7) (pv 6) (by rfl)))) (fun _ _ _ _ _ => (pv 7))) (pe_callTy (kList (K := K) rfl) (by rfl) T.z_list (by decide +kernel) (pa_cons (pv 5) pa_nil))) pa_nil)) pa_nil)) pa_nil)))))))
      (pss_one (ps_ret (pe_callB (kSortTs (K := K) rfl (room10 hr)) (by rfl) T.z_sorted (by decide +kernel) (pa_cons (pv 4) pa_nil))))))), fun Q q => ?_⟩
  have n6 := W.n6
  have ho := S.len
  have r1 := rls_len (A := A) (l := lo n A O) (by have := (lo_sd (n := n) (A := A) (O := O)).len; omega)
  have r2 := rls_len (A := A) (l := ls n A O) (by have := (ls_sd (n := n) (A := A) (O := O)).len; omega)
  refine qP_asg2 (callWO W S (evp_var rfl h0) (evp_var rfl h1)) fun vf vo H1 e1 hf hold => ?_
  refine q_asgL (el_lst ea_nil (by decide)) fun Dl H2 hD e2 hDl => ?_
  have g0 := Mon.mono e1 h0
  have g1 := Mon.mono e1 h1
  refine q_forM (R := IsTI) [Dl] (fun a m => by rw [List.mem_singleton.mp m, hDl]; simp) (call_sets_in W lo_sd (vr e2 g0 rfl) (vr e2 hf rfl)) (fun l H3 i σ' H' => ∃ x y z, σ' = [some v0, some v1, some vf, some vo, some (.ref Dl), x, y, z] ∧ CmI n A O H1 Dl ((l.take i).flatMap fun m => (rls A (ls n A O)).map (cmb n O m)) H3 H') (fun l H3 i σ' H' ⟨_, _, _, _, c⟩ => ⟨c.y, c.t⟩) (fun l H3 pm e3 => ⟨none, none, none, rfl, Ex.y (Ex.refl _), ExT.refl _, e2.trans e3, [], [], e3 _ _ hDl, .nil, .refl _⟩) (fun l H3 pm e3 i m x σ' H' hi hx ⟨x', y, z, hσ, c⟩ => ?_) fun l H3 σ' H' pm e3 ⟨x', y, z, hσ, c⟩ => ?_
  · subst hσ
    have hm : m ∈ rls A (lo n A O) := pm.mem_iff.mp (List.mem_of_getElem? hi)
    have Sm := rls_sd lo_sd hm
    have ml := Sm.len
    have dis : ∀ x ∈ m, ¬ x ∈ O := fun x hx => (mem_lo.mp (mem_sbs (List.mem_filter.mp hm).1 x hx)).2.2
    obtain ⟨acc, F, c1, c2, c3⟩ := c.d
    refine s_forM (R := IsTI) [Dl] (fun a m => by rw [List.mem_singleton.mp m, c1]; simp) (call_sets_in W ls_sd (vr c.x g0 rfl) (vr c.x hold rfl)) (fun l2 H4 j σ' H' => ∃ y z, σ' = [some v0, some v1, some vf, some vo, some (.ref Dl), some x, y, z] ∧ Ey [Dl] H4 H' ∧ ExT H4 H' ∧ CmI n A O H1 Dl (((l.take i).flatMap fun m => (rls A (ls n A O)).map (cmb n O m)) ++ (l2.take j).map (cmb n O m)) H3 H') (fun l2 H4 j σ' H' ⟨_, _, _, y, t, _⟩ => ⟨y, t⟩) (fun l2 H4 pm2 e4 => ⟨y, z, rfl, Ex.y (Ex.refl _), ExT.refl _, c.y.trans (Ex.y e4), c.t.trans (Ex.t e4), c.x.trans e4, acc, F, e4 _ _ c1, Paired.mapP c2 fun _ _ z => Mon.mono e4 z, by simpa using c3⟩) (fun l2 H4 pm2 e4 j b u σ' H5 hj hu ⟨y, z, hσ, y4, t4, c'⟩ => ?_) fun l2 H4 σ' H5 pm2 e4 ⟨y, z, hσ, y4, t4, c'⟩ => ?_
    · subst hσ
      have hb : b ∈ rls A (ls n A O) := pm2.mem_iff.mp (List.mem_of_getElem? hj)
      obtain ⟨acc', F', d1, d2, d3⟩ := c'.d
      have hx5 : IsTI m x H5 := Tup.stay t4 (Mon.mono e4 hx)
      have hl : F'.length ≤ 8192 := by
        have f1 := flat_le (f := fun m => (rls A (ls n A O)).map (cmb n O m)) (fun m => by rw [List.length_map]; exact r2) (l.take i)
        have f2 := pm.length_eq
        have f3 := pm2.length_eq
        rw [d3.length_eq, List.length_append, List.length_map]
        rw [List.length_take] at f1 ⊢
        have f4 : min i l.length * 64 ≤ 4096 := by
          have : min i l.length ≤ 64 := by omega
          omega
        omega
      refine s_appP (S := IsTI) (c := cmb n O m b) d1 d2 (by omega) (evp_var (P := Is (.ref Dl)) rfl rfl) (evp_ti (tuple_l (sorted_i (cat_l (R := IsI) (lcT (R := IsI) (S := IsI) (fun k => !decide (k ∈ b)) (fun k => k) _ (evp_tis (vr c'.x g1 rfl)) (by omega) tg_name (fun _ _ => rfl) (fun k _ x H6 e6 hx => ni_t (evp_var rfl hx) (vr e6 hu rfl)) (fun k _ _ x H6 e6 hx => evp_var rfl hx)) (list_t (evp_tis (evp_var rfl hx5))) ?_) fun l' p s => cmb_of S Sm dis (by rw [map_id] at p; exact p) s))) fun acc'' H6 H7 e6 eq t7 pr => ⟨_, _, rfl, ?_, ?_, ?_, ?_, ?_, ?_⟩
      · rw [List.length_map]
        have := List.length_filter_le (fun k => !decide (k ∈ b)) O
        omega
      · rw [eq]
        exact (y4.trans (Ex.y e6)).trans (Ey.upd (List.mem_singleton.mpr rfl))
      · exact t4.trans t7
      · rw [eq]
        exact (c'.y.trans (Ex.y e6)).trans (Ey.upd (List.mem_singleton.mpr rfl))
      · exact c'.t.trans t7
      · rw [eq]
        exact (c'.x.trans e6).mut hD
      · refine ⟨acc'', F' ++ [cmb n O m b], by rw [eq]; exact upd_same, pr, ?_⟩
        rw [take_map hj, ← List.append_assoc]
        exact d3.append_right _
    · subst hσ
      refine ⟨_, _, _, rfl, c'.y, c'.t, c'.x, ?_⟩
      obtain ⟨acc', F', d1, d2, d3⟩ := c'.d
      refine ⟨acc', F', d1, d2, d3.trans ?_⟩
      rw [take_flat hi, List.take_length]
      exact (pm2.map _).append_left _
  · subst hσ
    obtain ⟨acc, F, c1, c2, c3⟩ := c.d
    refine sP_ret (sorted_ts (evp_var rfl ⟨Dl, acc, rfl, c1, c2⟩)) fun v H4 e4 hv => q v H4 ((e1.trans c.x).trans e4) (hv.of (c3.trans ?_))
    rw [List.take_length]
    exact (pm.flatMap_right _).trans (come_perm S)
def sp_newly : Sp := spWOD fun n A O k => IsLs IsI (nwl n A O k)
theorem ok_newly (T : Txt K mg) : FnOk P w K mg base CX0 3 T.a_newly T.d_newly ["web", "opened", "door"] sp_newly := by
  refine okWOD T.F_newly sc_newly rfl fun cdv Ar outer s H E n A O k v0 v1 hr W S hk h0 h1 => ?_
  refine ⟨_, (pss_cons (ps_set (i := 3) sc_newly.nd rfl (Or.inr rfl) (pe_call (ok_frozen_in T) (hr.mono (by decide)) (by rfl) T.g_frozen_in T.F_frozen_in.kp T.b_frozen_in .nil pass0 (pa_cons (pv 0) (pa_cons (pv 1) pa_nil))))
      (pss_one (ps_ret (pe_lc (own := [("k", 4)]) (g := (gName 4)) rfl sc_newly.nd (kPiL (K := K) rfl (pe_call (ok_frozen_in T) (hr.mono (by decide)) (by rfl) T.g_frozen_in T.F_frozen_in.kp T.b_frozen_in .nil pass0 (pa_cons (pv 0) (pa_cons (pe_call (ok_changed T) (hr.mono (by decide)) (by rfl) T.g_changed T.F_changed.kp T.b_changed .nil pass0 (pa_cons (pv 1) (pa_cons (pv 2) pa_nil))) pa_nil)))) (blkOk_by (own := [("k", 4)]) (N := ["web", "opened", "door", "old", "k"]) (sc := defScope s_newly) (by decide +kernel)) (fun _ _ _ _ _ => (pg_name (i := 4) sc_newly.nd rfl (Or.inl rfl))) (fun _ _ _ _ _ => (pts_one (pt_cmpR (kNotIn (K := K) rfl) (pv 4) (pv 3) (by rfl)))) (fun _ _ _ _ _ => (pv 4)))))), fun Q q => ?_⟩
  have n6 := W.n6
  refine qP_asg (callWO W S (evp_var rfl h0) (evp_var rfl h1)) fun vo H1 e1 hold => ?_
  refine sP_ret (lcL (R := IsI) (S := IsI) (fun j => !decide (j ∈ frz n A O)) (fun k => k) _ (callWO W chg_sd (vr e1 h0 rfl) (call_changed n6 S hk (vr e1 h1 rfl) (evp_var (P := IsI k) rfl rfl))) (by have := frz_len (n := n) (A := A) (O := chg n O k); omega) tg_name (fun _ _ => rfl) (fun j _ x H2 e2 hx => ni_l (evp_var rfl hx) (evp_li (vr e2 hold rfl))) (fun j _ _ x H2 e2 hx => evp_var rfl hx)) fun v H2 e2 hv => q v H2 (e1.trans e2) (hv.of ?_)
  rw [map_id]
  rfl
def fdd (n : Nat) (A : LD.Ar) (O : List Int) : List Int := (doab n A O).filter fun k => !(nwl n A O k).isEmpty
def sp_freezing_deeds : Sp := spWO fun n A O => IsTI (fdd n A O)
theorem mem_doab {n : Nat} {A : LD.Ar} {O : List Int} {k : Int} : k ∈ doab n A O ↔ (0 ≤ k ∧ k < n) ∧ Can A O k := by
  unfold doab
  rw [List.mem_filter, mem_rng, decide_eq_true_eq]
theorem ok_freezing_deeds (T : Txt K mg) : FnOk P w K mg base CX0 5 T.a_freezing_deeds T.d_freezing_deeds ["web", "opened"] sp_freezing_deeds := by
  refine okWO T.F_freezing_deeds sc_freezing_deeds rfl fun cdv Ar outer s H E n A O v0 v1 hr W S h0 h1 => ?_
  refine ⟨_, (pss_cons (ps_expr (pe_call (ok_need_both T) (hr.mono (by decide)) (by rfl) T.g_need_both T.F_need_both.kp T.b_need_both .nil pass0 (pa_cons (pv 0) (pa_cons (pv 1) pa_nil))))
      (pss_one (ps_ret (pe_callTy (kTuple (K := K) rfl) (by rfl) T.z_tuple (by decide +kernel) (pa_cons (pe_lc (own := [("k", 2)]) (g := (gName 2)) rfl sc_freezing_deeds.nd (kPiL (K := K) rfl (pe_call (ok_doable T) (hr.mono (by decide)) (by rfl) T.g_doable T.F_doable.kp T.b_doable .nil pass0 (pa_cons (pv 0) (pa_cons (pv 1) pa_nil)))) (blkOk_by (own := [("k", 2)]) (N := ["web", "opened", "k"]) (sc := defScope s_freezing_deeds) (by decide +kernel)) (fun _ _ _ _ _ => (pg_name (i := 2) sc_freezing_deeds.nd rfl (Or.inl rfl))) (fun _ _ _ _ _ => (pts_one (pt_cmpR (kNeD (K := K) rfl hr.units) (pe_call (ok_newly T) (hr.mono (by decide)) (by rfl) T.g_newly T.F_newly.kp T.b_newly .nil pass0 (pa_cons (pv 0) (pa_cons (pv 1) (pa_cons (pv 2) pa_nil)))) (pe_lst pa_nil) (nomark _)))) (fun _ _ _ _ _ => (pv 2))) pa_nil))))), fun Q q => ?_⟩
  have n6 := W.n6
  refine qP_drop (callWO W S (evp_var rfl h0) (evp_var rfl h1)) fun H1 e1 => ?_
  refine sP_ret (evp_ti (tuple_l (evp_ls (lcL (R := IsI) (S := IsI) (fun k => !(nwl n A O k).isEmpty) (fun k => k) _ (callWO W S (vr e1 h0 rfl) (vr e1 h1 rfl)) (by have := fil_len n6 fun k => decide (Can A O k); show (doab n A O).length ≤ 40000; unfold doab; omega) tg_name (fun _ _ => rfl) (fun k hk x H2 e2 hx => ne_nil (callWOD W S (mem_doab.mp hk).1 (vr (e1.trans e2) h0 rfl) (vr (e1.trans e2) h1 rfl) (evp_var rfl hx))) (fun j _ _ x H2 e2 hx => evp_var rfl hx)) map_id))) fun v H2 e2 hv => q v H2 (e1.trans e2) hv
noncomputable def sp_costs_of : Sp := spWOD fun n A O k => IsPm IsI (cst n A O k)
theorem cst_len {n : Nat} {A : LD.Ar} {O : List Int} {k : Int} (h : n ≤ 6) : (cst n A O k).length ≤ 64 := by
  unfold cst
  rw [List.length_map]
  exact Nat.le_trans (List.length_filter_le _ _) (comeL_len h)
theorem ok_costs_of (T : Txt K mg) : FnOk P w K mg base CX0 6 T.a_costs_of T.d_costs_of ["web", "opened", "door"] sp_costs_of := by
  refine okWOD T.F_costs_of sc_costs_of rfl fun cdv Ar outer s H E n A O k v0 v1 hr W S hk h0 h1 => ?_
  refine ⟨_, (pss_cons (ps_setLc (i := 3) (own := [("one", 4)]) (g := (gName 4)) rfl sc_costs_of.nd rfl rfl (sw_true rfl rfl rfl (by decide +kernel)) (kPiL (K := K) rfl (pe_call (ok_come_in T) (hr.mono (by decide)) (by rfl) T.g_come_in T.F_come_in.kp T.b_come_in .nil pass0 (pa_cons (pv 0) (pa_cons (pv 1) pa_nil)))) (blkOk_by (own := [("one", 4)]) (N := ["web", "opened", "door", "some", "one"]) (sc := defScope s_costs_of) (by decide +kernel)) (fun _ _ _ _ _ => (pg_name (i := 4) sc_costs_of.nd rfl (Or.inl rfl))) (fun _ _ _ _ _ => (pts_one (pt_cmpR (kIn (K := K) rfl) (pv 2) (pe_call (ok_frozen_in T) (hr.mono (by decide)) (by rfl) T.g_frozen_in T.F_frozen_in.kp T.b_frozen_in .nil pass0 (pa_cons (pv 0) (pa_cons (pv 4) pa_nil))) (by rfl)))) (fun _ _ _ _ _ => (pv 4)))
      (pss_one (ps_ret (pe_lc (own := [("one", 4)]) (g := (gName 4)) rfl sc_costs_of.nd (kPiL (K := K) rfl (pv 3)) (blkOk_by (own := [("one", 4)]) (N := ["web", "opened", "door", "some", "one"]) (sc := defScope s_costs_of) (by decide +kernel)) (fun _ _ _ _ _ => (pg_name (i := 4) sc_costs_of.nd rfl (Or.inl rfl))) (fun _ _ _ _ _ => pts_nil) (fun _ _ _ _ _ => (pe_op op_add (pe_callB (kLen (K := K) rfl) (by rfl) T.z_len PySem.boot_len (pa_cons (pe_call (ok_fresh_in T) (hr.mono (by decide)) (by rfl) T.g_fresh_in T.F_fresh_in.kp T.b_fresh_in .nil pass0 (pa_cons (pv 1) (pa_cons (pv 4) pa_nil))) pa_nil)) (pe_callB (kLen (K := K) rfl) (by rfl) T.z_len PySem.boot_len (pa_cons (pe_call (ok_fresh_in T) (hr.mono (by decide)) (by rfl) T.g_fresh_in T.F_fresh_in.kp T.b_fresh_in .nil pass0 (pa_cons (pv 4) (pa_cons (pv 1) pa_nil))) pa_nil)))))))), fun Q q => ?_⟩
  have n6 := W.n6
  have ho := S.len
  have cl := comeL_len (A := A) (O := O) n6
  refine qP_asg (EvN.p (lcPN (R := IsTI) (S := IsTI) (fun s => decide (k ∈ frz n A s)) (fun s => s) _ (callWO W S (evp_var rfl h0) (evp_var rfl h1)) (by omega) tg_name (fun _ _ => rfl) (fun s hs x H1 e1 hx => in_l (evp_var (P := IsI k) rfl rfl) (evp_li (callWO W (mem_comeL.mp hs).sd (vr e1 h0 rfl) (evp_var rfl hx)))) (fun s _ _ x H1 e1 hx => evp_var rfl hx))) fun vs H1 e1 hs => ?_
  rw [List.map_id'] at hs
  refine sP_ret (EvN.p (lcPN (R := IsTI) (S := IsI) (fun _ => true) (fun s => (dif O s : Int)) _ (evp_var rfl hs) (by have := List.length_filter_le (fun s => decide (k ∈ frz n A s)) (comeL n A O); omega) tg_name (fun _ _ => rfl) (fun _ _ _ _ _ _ => yes) fun s hs' _ x H2 e2 hx => ?_)) fun v H2 e2 hv => q v H2 (e1.trans e2) (hv.of (by rw [fil_true]; exact .refl _))
  have sd := (mem_comeL.mp (List.mem_filter.mp hs').1).sd
  have := sd.len
  exact (add_i (len_l (call_fresh_in (by omega) (vr (e1.trans e2) h1 rfl) (evp_var rfl hx))) (len_l (call_fresh_in (by omega) (evp_var rfl hx) (vr (e1.trans e2) h1 rfl)))).imp fun v H3 _ z => z
noncomputable def sp_never_frozen : Sp := spWO fun n A O => IsTI ((rng n).filter fun k => (cst n A O k).isEmpty)
theorem ok_never_frozen (T : Txt K mg) : FnOk P w K mg base CX0 7 T.a_never_frozen T.d_never_frozen ["web", "opened"] sp_never_frozen := by
  refine okWO T.F_never_frozen sc_never_frozen rfl fun cdv Ar outer s H E n A O v0 v1 hr W S h0 h1 => ?_
  refine ⟨_, (pss_cons (ps_expr (pe_call (ok_need_both T) (hr.mono (by decide)) (by rfl) T.g_need_both T.F_need_both.kp T.b_need_both .nil pass0 (pa_cons (pv 0) (pa_cons (pv 1) pa_nil))))
      (pss_one (ps_ret (pe_callTy (kTuple (K := K) rfl) (by rfl) T.z_tuple (by decide +kernel) (pa_cons (pe_lc (own := [("k", 2)]) (g := (gName 2)) rfl sc_never_frozen.nd (pi_range1 (by rfl) T.z_range (pa_cons (pe_ix (kIxT (K := K) rfl) (pv 0) pe_int (fun _ _ => rfl)) pa_nil)) (blkOk_by (own := [("k", 2)]) (N := ["web", "opened", "k"]) (sc := defScope s_never_frozen) (by decide +kernel)) (fun _ _ _ _ _ => (pg_name (i := 2) sc_never_frozen.nd rfl (Or.inl rfl))) (fun _ _ _ _ _ => (pts_one (pt_cmpR (kEqD (K := K) rfl hr.units) (pe_call (ok_costs_of T) (hr.mono (by decide)) (by rfl) T.g_costs_of T.F_costs_of.kp T.b_costs_of .nil pass0 (pa_cons (pv 0) (pa_cons (pv 1) (pa_cons (pv 2) pa_nil)))) (pe_lst pa_nil) (nomark _)))) (fun _ _ _ _ _ => (pv 2))) pa_nil))))), fun Q q => ?_⟩
  have n6 := W.n6
  refine qP_drop (callWO W S (evp_var rfl h0) (evp_var rfl h1)) fun H1 e1 => ?_
  refine sP_ret (evp_ti (tuple_l (evp_ls (lcR (S := IsI) (fun k => (cst n A O k).isEmpty) (fun k => k) (web0 (vr e1 h0 rfl)) (by omega) (fun _ => rfl) (fun k k0 k1 H2 e2 => eqP_nil (callWOD W S ⟨k0, k1⟩ (vr (e1.trans e2) h0 rfl) (vr (e1.trans e2) h1 rfl) (evp_var rfl rfl))) (fun k k0 k1 _ H2 e2 => evp_var rfl rfl)) map_id))) fun v H2 e2 hv => q v H2 (e1.trans e2) hv
/-- how often the least is there -/
def IsWy (l : List Int) : VP := fun v _ => (l = [] ∧ v = .int 0) ∨ ∃ m, m ∈ l ∧ (∀ x ∈ l, m ≤ x) ∧ v = .int (l.count m : Nat)
noncomputable def sp_freeze_ways : Sp := spWOD fun n A O k => IsWy (cst n A O k)
theorem ok_freeze_ways (T : Txt K mg) : FnOk P w K mg base CX0 7 T.a_freeze_ways T.d_freeze_ways ["web", "opened", "door"] sp_freeze_ways := by
  refine okWOD T.F_freeze_ways sc_freeze_ways rfl fun cdv Ar outer s H E n A O k v0 v1 hr W S hk h0 h1 => ?_
  refine ⟨_, (pss_cons (ps_expr (pe_call (ok_need_both T) (hr.mono (by decide)) (by rfl) T.g_need_both T.F_need_both.kp T.b_need_both .nil pass0 (pa_cons (pv 0) (pa_cons (pv 1) pa_nil))))
      (pss_cons (ps_expr (pe_call (ok_need_door T) (hr.mono (by decide)) (by rfl) T.g_need_door T.F_need_door.kp T.b_need_door .nil pass0 (pa_cons (pv 0) (pa_cons (pv 2) pa_nil))))
      (pss_cons (ps_set (i := 3) sc_freeze_ways.nd rfl (Or.inl rfl) (pe_call (ok_costs_of T) (hr.mono (by decide)) (by rfl) T.g_costs_of T.F_costs_of.kp T.b_costs_of .nil pass0 (pa_cons (pv 0) (pa_cons (pv 1) (pa_cons (pv 2) pa_nil)))))
      (pss_one (ps_ret (pe_ifExp (pt_cmpR (kNeD (K := K) rfl hr.units) (pv 3) (pe_lst pa_nil) (nomark _)) (pe_bm PySem.F.plainAttrs_list PySem.F.slot_list_count PySem.F.type_list_count (kCount (K := K) rfl) (pv 3) (pa_cons (pe_callB (kMin (K := K) rfl rfl) (by rfl) T.z_min (by decide +kernel) (pa_cons (pv 3) pa_nil)) pa_nil)) pe_int)))))), fun Q q => ?_⟩
  have n6 := W.n6
  refine qP_drop (callWO W S (evp_var rfl h0) (evp_var rfl h1)) fun H1 e1 => ?_
  refine qP_drop (call_need_door hk (vr e1 h0 rfl) (evp_var rfl rfl)) fun H2 e2 => ?_
  refine qP_asg (callWOD W S hk (vr (e1.trans e2) h0 rfl) (vr (e1.trans e2) h1 rfl) (evp_var rfl rfl)) fun vc H3 e3 hc => ?_
  refine sP_ret (P := IsWy (cst n A O k)) (evp_if (neP_nil (evp_var rfl hc)) (fun c => ?_) fun c => ?_) fun v H4 e4 hv => q v H4 (((e1.trans e2).trans e3).trans e4) hv
  · obtain ⟨l, pm, hl⟩ := hc
    obtain ⟨a, rfl, ha⟩ := li_of hl
    intro H4 e4 Q' q'
    have hL : SqL K H4 a (l.map V.int) := SqL.of (e4 _ _ ha)
    have pos : 0 < l.length := by
      rw [pm.length_eq]
      cases e : cst n A O k with
      | nil => rw [e] at c; exact Bool.noConfusion c
      | cons a l => exact Nat.succ_pos _
    exact ⟨_, rfl, .inl ⟨rfl, _, hL⟩, _, rfl, a, l, rfl, hL, pos, fun m hm hmin => ⟨a, l, m, rfl, rfl, hL, q' _ _ (Ex.refl _) (.inr ⟨m, pm.mem_iff.mp hm, fun x hx => hmin x (pm.mem_iff.mpr hx), by rw [pm.count_eq]⟩)⟩⟩
  · refine evp_i.imp fun v H4 _ z => .inl ⟨?_, z⟩
    cases e : cst n A O k with
    | nil => rfl
    | cons a l => rw [e] at c; exact Bool.noConfusion c
end
end LDW

/-! The fewest deeds; a deed that may be barred. -/
namespace LDW
open PySem PySem.Spec PyProof.Rows L2 Evl LD
section
variable {P : Program} {w : World} {K : PySem.W.Frag} {mg : Str → Option Value} {base : Heap}
def optV : Option Nat → V
  | none => .non
  | some d => .int d
/-- the fewest deeds, or None -/
def IsFw (n : Nat) (A : LD.Ar) (O : List Int) (k : Int) : VP := fun v _ => ∃ r, IsFew n A O k r ∧ v = optV r
def sp_fewest_to_freeze : Sp := spWOD fun n A O k => IsFw n A O k
theorem ok_fewest_to_freeze (T : Txt K mg) : FnOk P w K mg base CX0 5 T.a_fewest_to_freeze T.d_fewest_to_freeze ["web", "opened", "door"] sp_fewest_to_freeze := by
  refine okWOD T.F_fewest_to_freeze sc_fewest_to_freeze rfl fun cdv Ar outer s H E n A O k v0 v1 hr W S hk h0 h1 => ?_
  refine ⟨_, (pss_cons (ps_expr (pe_call (ok_need_both T) (hr.mono (by decide)) (by rfl) T.g_need_both T.F_need_both.kp T.b_need_both .nil pass0 (pa_cons (pv 0) (pa_cons (pv 1) pa_nil))))
      (pss_cons (ps_expr (pe_call (ok_need_door T) (hr.mono (by decide)) (by rfl) T.g_need_door T.F_need_door.kp T.b_need_door .nil pass0 (pa_cons (pv 0) (pa_cons (pv 2) pa_nil))))
      (pss_cons (ps_if (pt_cmpR (kIn (K := K) rfl) (pv 2) (pe_call (ok_frozen_in T) (hr.mono (by decide)) (by rfl) T.g_frozen_in T.F_frozen_in.kp T.b_frozen_in .nil pass0 (pa_cons (pv 0) (pa_cons (pv 1) pa_nil))) (by rfl)) (pss_one (ps_ret pe_int)) pss_nil)
      (pss_cons (ps_asg (pe_tup (pa_cons (pe_call (ok_loose_in T) (hr.mono (by decide)) (by rfl) T.g_loose_in T.F_loose_in.kp T.b_loose_in .nil pass0 (pa_cons (pv 0) (pa_cons (pv 1) pa_nil))) (pa_cons (pe_cmpR (kIn (K := K) rfl) (pv 2) (pv 1) (by rfl)) pa_nil))) (kPgT (K := K) rfl rfl (pgs_cons (pg_name (i := 3) sc_fewest_to_freeze.nd rfl (Or.inr rfl)) (pgs_cons (pg_name (i := 4) sc_fewest_to_freeze.nd rfl (Or.inr rfl)) pgs_nil))))
      (pss_cons (ps_setLc (i := 5) (own := [("one", 9), ("other", 10)]) (g := (gTup K 2 (gCons (gName 9) (gCons (gName 10) gNil)))) rfl sc_fewest_to_freeze.nd rfl rfl (sw_true rfl rfl rfl (by decide +kernel)) (kPiT (K := K) rfl (pe_ix (kIxT (K := K) rfl) (pv 0) pe_int (fun _ _ => rfl))) (blkOk_by (own := [("one", 9), ("other", 10)]) (N := ["web", "opened", "door", "some", "wide", "ends", "starts", "at_once", "later", "one", "other", "k"]) (sc := defScope s_fewest_to_freeze) (by decide +kernel)) (fun _ _ _ _ _ => (kPgT (K := K) rfl rfl (pgs_cons (pg_name (i := 9) sc_fewest_to_freeze.nd rfl (Or.inl rfl)) (pgs_cons (pg_name (i := 10) sc_fewest_to_freeze.nd rfl (Or.inl rfl)) pgs_nil)))) (fun _ _ _ _ _ => (pts_one (pt_cmpR op_eq (pv 9) (pv 2) (nomark _)))) (fun _ _ _ _ _ => (pv 10)))
      (pss_cons (ps_setLc (i := 6) (own := [("one", 9), ("other", 10)]) (g := (gTup K 2 (gCons (gName 9) (gCons (gName 10) gNil)))) rfl sc_fewest_to_freeze.nd rfl rfl (sw_true rfl rfl rfl (by decide +kernel)) (kPiT (K := K) rfl (pe_ix (kIxT (K := K) rfl) (pv 0) pe_int (fun _ _ => rfl))) (blkOk_by (own := [("one", 9), ("other", 10)]) (N := ["web", "opened", "door", "some", "wide", "ends", "starts", "at_once", "later", "one", "other", "k"]) (sc := defScope s_fewest_to_freeze) (by decide +kernel)) (fun _ _ _ _ _ => (kPgT (K := K) rfl rfl (pgs_cons (pg_name (i := 9) sc_fewest_to_freeze.nd rfl (Or.inl rfl)) (pgs_cons (pg_name (i := 10) sc_fewest_to_freeze.nd rfl (Or.inl rfl)) pgs_nil)))) (fun _ _ _ _ _ => (pts_one (pt_cmpR op_eq (pv 10) (pv 2) (nomark _)))) (fun _ _ _ _ _ => (pv 9)))
      (pss_cons (ps_asg (pe_ifExp (pt_val (pv 4)) (pe_tup (pa_cons (pv 5) (pa_cons (pv 6) pa_nil))) (pe_tup (pa_cons (pv 6) (pa_cons (pv 5) pa_nil)))) (kPgT (K := K) rfl rfl (pgs_cons (pg_name (i := 7) sc_fewest_to_freeze.nd rfl (Or.inl rfl)) (pgs_cons (pg_name (i := 8) sc_fewest_to_freeze.nd rfl (Or.inl rfl)) pgs_nil))))
      (pss_cons (ps_if (PW.pt (pw_or (pt_cmpR (kNeD (K := K) rfl hr.units) (pe_lc (own := [("k", 11)]) (g := (gName 11)) rfl sc_fewest_to_freeze.nd (kPiL (K := K) rfl (pv 7)) (blkOk_by (own := [("k", 11)]) (N := ["web", "opened", "door", "some", "wide", "ends", "starts", "at_once", "later", "one", "other", "k"]) (sc := defScope s_fewest_to_freeze) (by decide +kernel)) (fun _ _ _ _ _ => (pg_name (i := 11) sc_fewest_to_freeze.nd rfl (Or.inl rfl))) (fun _ _ _ _ _ => (pts_one (pt_cmpR (kIn (K := K) rfl) (pv 11) (pv 3) (by rfl)))) (fun _ _ _ _ _ => (pv 11))) (pe_lst pa_nil) (nomark _)) (pw_or1 (pt_cmpR (kNeD (K := K) rfl hr.units) (pe_lc (own := [("k", 11)]) (g := (gName 11)) rfl sc_fewest_to_freeze.nd (kPiL (K := K) rfl (pv 8)) (blkOk_by (own := [("k", 11)]) (N := ["web", "opened", "door", "some", "wide", "ends", "starts", "at_once", "later", "one", "other", "k"]) (sc := defScope s_fewest_to_freeze) (by decide +kernel)) (fun _ _ _ _ _ => (pg_name (i := 11) sc_fewest_to_freeze.nd rfl (Or.inl rfl))) (fun _ _ _ _ _ => (pts_one (pt_cmpR op_eq (pe_cmpR (kIn (K := K) rfl) (pv 11) (pv 1) (by rfl)) (pv 4) (nomark _)))) (fun _ _ _ _ _ => (pv 11))) (pe_lst pa_nil) (nomark _))))) (pss_one (ps_ret pe_int)) pss_nil)
      (pss_one (ps_ret (pe_ifExp (pt_cmpR (kNeD (K := K) rfl hr.units) (pe_lc (own := [("k", 11)]) (g := (gName 11)) rfl sc_fewest_to_freeze.nd (kPiL (K := K) rfl (pv 8)) (blkOk_by (own := [("k", 11)]) (N := ["web", "opened", "door", "some", "wide", "ends", "starts", "at_once", "later", "one", "other", "k"]) (sc := defScope s_fewest_to_freeze) (by decide +kernel)) (fun _ _ _ _ _ => (pg_name (i := 11) sc_fewest_to_freeze.nd rfl (Or.inl rfl))) (fun _ _ _ _ _ => (pts_one (pt_cmpR (kIn (K := K) rfl) (pv 11) (pv 3) (by rfl)))) (fun _ _ _ _ _ => (pv 11))) (pe_lst pa_nil) (nomark _)) pe_int pe_non))))))))))), fun Q q => ?_⟩
  have n6 := W.n6
  have hz := W.len
  refine qP_drop (callWO W S (evp_var rfl h0) (evp_var rfl h1)) fun H1 e1 => ?_
  refine qP_drop (call_need_door hk (vr e1 h0 rfl) (evp_var rfl rfl)) fun H2 e2 => ?_
  have e02 := e1.trans e2
  refine q_when (in_l (evp_var (P := IsI k) rfl rfl) (evp_li (callWO W S (vr e02 h0 rfl) (vr e02 h1 rfl)))) (fun c H3 e3 => ?_) fun c H3 e3 => ?_
  · exact sP_ret evp_i fun v H4 e4 hv => q v H4 ((e02.trans e3).trans e4) ⟨some 0, few0 S ((mem_frz W).mp (of_decide_eq_true c)), hv⟩
  have nf : ¬ Fz A O k := fun z => of_decide_eq_false c ((mem_frz W).mpr z)
  have e03 := e02.trans e3
  refine qP_asg2 (evp_pair (callWO W S (vr e03 h0 rfl) (vr e03 h1 rfl)) (inV_t (evp_var (P := IsI k) rfl rfl) (vr e03 h1 rfl))) fun vs vw H4 e4 hs hw => ?_
  cases hw
  have e04 := e03.trans e4
  have al : ∀ p : Int × Int → Bool, ∀ f : Int × Int → Int, ((A.filter p).map f).length ≤ 30 := fun p f => by
    rw [List.length_map]
    have := List.length_filter_le p A
    omega
  refine qP_asg (P := IsLs IsI (ends A k)) (lcT (R := IsAr) (S := IsI) (fun e => decide (e.1 = k)) (fun e => e.2) _ (web1 (vr e04 h0 rfl)) (by omega) tg_pair (fun _ _ => rfl) (fun e _ x H5 e5 hx => eq_i (evp_var rfl rfl) (evp_var rfl rfl)) (fun e _ _ x H5 e5 hx => evp_var rfl rfl)) fun ve H5 e5 he => ?_
  have e05 := e04.trans e5
  refine qP_asg (P := IsLs IsI (begs A k)) (lcT (R := IsAr) (S := IsI) (fun e => decide (e.2 = k)) (fun e => e.1) _ (web1 (vr e05 h0 rfl)) (by omega) tg_pair (fun _ _ => rfl) (fun e _ x H6 e6 hx => eq_i (evp_var rfl rfl) (evp_var rfl rfl)) (fun e _ _ x H6 e6 hx => evp_var rfl rfl)) fun vt H6 e6 ht => ?_
  have e06 := e05.trans e6
  have la : (atO A O k).length ≤ 30 ∧ (laO A O k).length ≤ 30 := by
    unfold atO laO ends begs
    by_cases c : k ∈ O
    · rw [if_pos c, if_pos c]
      exact ⟨al _ _, al _ _⟩
    · rw [if_neg c, if_neg c]
      exact ⟨al _ _, al _ _⟩
  refine qP_asg2 (P1 := IsLs IsI (atO A O k)) (P2 := IsLs IsI (laO A O k)) (evp_if (evt_val (evp_var rfl rfl)) (fun c => ?_) fun c => ?_) fun va vl H7 e7 ha hl => ?_
  · have c' := of_decide_eq_true c
    unfold atO laO
    rw [if_pos c', if_pos c']
    exact evp_pair (vr e6 he rfl) (evp_var rfl ht)
  · have c' := of_decide_eq_false c
    unfold atO laO
    rw [if_neg c', if_neg c']
    exact evp_pair (evp_var rfl ht) (vr e6 he rfl)
  have e47 := (e5.trans e6).trans e7
  have hs7 := Mon.mono e47 hs
  have h17 := Mon.mono (e06.trans e7) h1
  have lc : ∀ {l : List Int} {j : Nat} {v : V} {σ : L2.St} {H' : Hp}, l.length ≤ 30 → Ex H7 H' → IsLs IsI l v H7 → σ[j]? = some (some v) → wipe σ [11] = σ → σ[3]? = some (some vs) → σ.length = 12 → EvP (tLc (iList K (tVar j)) (gName 11) (tTest (tOp (rIn K false) (tVar 11) (tVar 3))) (tVar 11) [11]) σ H' (IsLs IsI (l.filter fun x => decide (x ∈ lse n A O))) := by
    intro l j v σ H' hl e hv hj hw h3 hlen
    have g11 : ∀ x : V, (σ.set 11 (some x))[11]? = some (some x) := fun x => by
      rw [List.getElem?_set_self (by omega)]
    have g3 : ∀ x : V, (σ.set 11 (some x))[3]? = some (some vs) := fun x => by
      rw [List.getElem?_set_ne (by decide)]
      exact h3
    refine evp_ls (lcL (R := IsI) (S := IsI) (fun x => decide (x ∈ lse n A O)) (fun x => x) (fun x _ => σ.set 11 (some x)) (evp_var hj (Mon.mono e hv)) (by omega) (by rw [hw]; exact tg_name) (fun x _ => ?_) (fun x _ y H8 e8 hx => in_l (evp_var (g11 y) hx) (evp_li (evp_var (g3 y) (Mon.mono (e.trans e8) hs7)))) (fun x _ _ y H8 e8 hx => evp_var (g11 y) hx)) map_id
    show (σ.set 11 (some x)).set 11 none = σ.set 11 none
    rw [List.set_set]
  refine q_when (evt_is (et_or (ne_nil (lc la.1 (Ex.refl _) ha rfl rfl rfl rfl)) fun _ => ne_nil (evp_ls (lcL (R := IsI) (S := IsI) (fun x => decide (x ∈ O) == decide (k ∈ O)) (fun x => x) _ (evp_var rfl hl) (by omega) tg_name (fun _ _ => rfl) (fun x _ y H8 e8 hx => eq_b (inV_t (evp_var rfl hx) (vr e8 h17 rfl)) (evp_var rfl rfl)) (fun x _ _ y H8 e8 hx => evp_var rfl hx)) map_id)) (b := c1 n A O k) rfl) (fun c H8 e8 => ?_) fun c H8 e8 => ?_
  · exact sP_ret evp_i fun v H9 e9 hv => q v H9 (((e06.trans e7).trans e8).trans e9) ⟨some 1, few1 W S hk nf c, hv⟩
  · refine sP_ret (P := IsFw n A O k) (evp_if (evt_is (ne_nil (lc la.2 e8 hl rfl rfl rfl rfl)) (b := c2 n A O k) rfl) (fun d => ?_) fun d => ?_) fun v H9 e9 hv => q v H9 (((e06.trans e7).trans e8).trans e9) hv
    · exact evp_i.imp fun v H9 _ hv => ⟨some 2, few2 W S hk nf c d, hv⟩
    · exact evp_c.imp fun v H9 _ hv => ⟨none, few3 S nf c d, hv⟩
/-- frozen_by: the doors that the deed freezes; or BadDeed leaves -/
def sp_frozen_by (C : Addr) : Sp := fun vs H Q E => ∃ (n : Nat) (A : LD.Ar) (O : List Int) (k : Int), Wb n A ∧ Sd n O ∧ (0 ≤ k ∧ k < n) ∧ AllP [IsWeb n A, IsTI O, IsI k] vs H ∧
  (Can A O k → ∀ v H', Ex H H' → IsTI (nwl n A O k) v H' → Q v H') ∧ (¬ Can A O k → ∀ H', Ex H H' → E (.ref C) none H')
theorem ok_frozen_by (T : Txt K mg) : FnOk P w K mg base (L2.CX P w) 5 T.a_frozen_by T.d_frozen_by ["web", "opened", "door"] (sp_frozen_by T.a_BadDeed) := by
  refine T.F_frozen_by.okX sc_frozen_by (fun vs H Q E h => ?_) fun cdv Ar outer s H vs Q E hr h => ?_
  · obtain ⟨n, A, O, k, _, _, _, hv, _⟩ := h
    exact hv.len
  obtain ⟨n, A, O, k, W, S, hk, hv, q, x⟩ := h
  obtain ⟨v0, v1, v2, rfl, h0, h1, h2⟩ := all3 hv
  cases h2
  refine ⟨_, (pss_cons (ps_expr (pe_call (ok_need_both T) (hr.mono (by decide)) (by rfl) T.g_need_both T.F_need_both.kp T.b_need_both .nil pass0 (pa_cons (pv 0) (pa_cons (pv 1) pa_nil))))
      (pss_cons (ps_expr (pe_call (ok_need_door T) (hr.mono (by decide)) (by rfl) T.g_need_door T.F_need_door.kp T.b_need_door .nil pass0 (pa_cons (pv 0) (pa_cons (pv 2) pa_nil))))
      (pss_cons (ps_if (pt_cmpR (kNotIn (K := K) rfl) (pv 2) (pe_call (ok_doable T) (hr.mono (by decide)) (by rfl) T.g_doable T.F_doable.kp T.b_doable .nil pass0 (pa_cons (pv 0) (pa_cons (pv 1) pa_nil))) (by rfl)) (pss_one (ps_raise rfl (takes_of rfl rfl rfl rfl) (pmk_own0 PySem.F.excBase_ValueError T.x_BadDeed T.g_BadDeed T.k_BadDeed (raises_own T.s_BadDeed T.t_BadDeed) (by exact rfl)))) pss_nil)
      (pss_one (ps_ret (pe_callTy (kTuple (K := K) rfl) (by rfl) T.z_tuple (by decide +kernel) (pa_cons (pe_call (ok_newly T) (hr.mono (by decide)) (by rfl) T.g_newly T.F_newly.kp T.b_newly .nil pass0 (pa_cons (pv 0) (pa_cons (pv 1) (pa_cons (pv 2) pa_nil)))) pa_nil))))))), ?_⟩
  refine qP_drop (callWO W S (evp_var rfl h0) (evp_var rfl h1)) fun H1 e1 => ?_
  refine qP_drop (call_need_door hk (vr e1 h0 rfl) (evp_var rfl rfl)) fun H2 e2 => ?_
  have e02 := e1.trans e2
  refine q_when (ni_l (evp_var (P := IsI k) rfl rfl) (evp_li (callWO W S (vr e02 h0 rfl) (vr e02 h1 rfl)))) (fun c H3 e3 => ?_) fun c H3 e3 => ?_
  · exact x (fun z => by rw [decide_eq_true (mem_doab.mpr ⟨hk, z⟩)] at c; exact Bool.noConfusion c) H3 (e02.trans e3)
  · have c' : Can A O k := by
      by_cases z : Can A O k
      · exact z
      · rw [decide_eq_false fun m => z (mem_doab.mp m).2] at c
        exact Bool.noConfusion c
    exact sP_ret (evp_ti (tuple_l (callWOD W S hk (vr (e02.trans e3) h0 rfl) (vr (e02.trans e3) h1 rfl) (evp_var rfl rfl)))) fun v H4 e4 hv => q c' v H4 ((e02.trans e3).trans e4) hv
end
end LDW

/-! The law's draws: numbers off a row, a web, a standing. -/
namespace LDW
open PySem PySem.Spec PyProof.Rows L2 Evl LD
section
variable {P : Program} {w : World} {K : PySem.W.Frag} {mg : Str → Option Value} {base : Heap}
/-- the row: the script, the place, the seed, the rest -/
def Cell (a r : Addr) (H : Hp) : Prop := ∃ p g c : Int, 0 ≤ p ∧ 0 ≤ g ∧ g < 2147483647 ∧ H r = some (.lst [.ref a, .int p, .int g, .int c])
structure RowAt (K : PySem.W.Frag) (a : Addr) (ns : List Int) (r : Addr) (H : Hp) : Prop where
  sc : ∀ H', Ey [r] H H' → SqL K H' a (ns.map V.int)
  cell : Cell a r H
theorem RowAt.sq {a r : Addr} {ns : List Int} {H : Hp} (R : RowAt K a ns r H) : SqL K H a (ns.map V.int) := R.sc H fun _ _ _ q => q
theorem ey_l {S : List Addr} {H H' : Hp} {a : Addr} {xs : List V} (e : Ey S H H') (n : ¬ a ∈ S) (h : SqL K H a xs) : SqL K H' a xs := by
  rcases h with (h | ⟨o, h⟩) | h
  · exact .inl (.inl (e a _ n h))
  · exact .inl (.inr ⟨o, e a _ n h⟩)
  · exact .inr h
theorem RowAt.go {a r : Addr} {ns : List Int} {H H' : Hp} (R : RowAt K a ns r H) (e : Ey [r] H H') (c : Cell a r H') : RowAt K a ns r H' := ⟨fun H2 e2 => R.sc H2 (e.trans e2), c⟩
/-- a new row -/
theorem row_new {a r : Addr} {ns : List Int} {H H1 : Hp} (h : SqL K H a (ns.map V.int)) (hr : H r = none) (e : Ex H H1) (h1 : H1 r = some (.lst [.ref a, .int 0, .int 9522, .int 0])) : RowAt K a ns r H1 := by
  refine ⟨fun H' y => ?_, 0, 9522, 0, by decide, by decide, by decide, h1⟩
  have ne : ∀ u, Rd H a u → ¬ a ∈ [r] := fun u z m => by
    rcases z with z | ⟨o, z⟩
    · rw [List.mem_singleton.mp m, hr] at z
      cases z
    · rw [List.mem_singleton.mp m, hr] at z
      cases z
  rcases h with h | h
  · exact ey_l y (ne _ h) (ex_l e (.inl h))
  · exact .inr h
theorem Cell.ex {a r : Addr} {H H' : Hp} (c : Cell a r H) (e : Ex H H') : Cell a r H' := let ⟨p, g, d, h1, h2, h3, h4⟩ := c; ⟨p, g, d, h1, h2, h3, e _ _ h4⟩
theorem Cell.tup {a r : Addr} {H H' : Hp} (c : Cell a r H) (e : Ey [r] H H') : ExT H H' := fun b xs q => by
  obtain ⟨p, g, d, _, _, _, h4⟩ := c
  refine e b _ (fun m => ?_) q
  rw [List.mem_singleton.mp m, h4] at q
  cases q
/-- a place of the row -/
theorem cellJ {σ : L2.St} {H : Hp} {r : Addr} {xs : List V} {z : V} {i j : Nat} (hv : σ[i]? = some (some (.ref r))) (h : H r = some (.lst xs)) (hz : xs[j]? = some z) : EvP (tOp (rIxL K) (tVar i) (tC (.int (j : Int)))) σ H (Is z) := fun H1 e1 Q q => ⟨_, hv, r, xs, (j : Int), z, rfl, rfl, SqL.of (e1 _ _ h), atI_nat hz, q z H1 (Ex.refl _) rfl⟩
section
variable {σ : L2.St} {H : Hp} {ta tb : TE} {m n : Int}
theorem mod_i (ha : EvP ta σ H (IsI m)) (hb : EvP tb σ H (IsI n)) (h : 0 < n) : EvP (tOp (rI (fun _ j => 0 < j) fun i j => .int (i % j)) ta tb) σ H (IsI (m % n)) := evp_op ha hb fun x y H1 _ p1 p2 Q q => ⟨m, n, p1, p2, h, q _ _ (Ex.refl _) rfl⟩
theorem fdiv_i (ha : EvP ta σ H (IsI m)) (hb : EvP tb σ H (IsI n)) (h : 0 < n) (h' : n < 1073741824) : EvP (tOp (rI CDiv fun i j => .int (i / j)) ta tb) σ H (IsI (m / n)) := evp_op ha hb fun x y H1 _ p1 p2 Q q => ⟨m, n, p1, p2, ⟨h, h'⟩, q _ _ (Ex.refl _) rfl⟩
theorem mul_i (ha : EvP ta σ H (IsI m)) (hb : EvP tb σ H (IsI n)) (h : CMul m n) : EvP (tOp (rI CMul fun i j => .int (i * j)) ta tb) σ H (IsI (m * n)) := evp_op ha hb fun x y H1 _ p1 p2 Q q => ⟨m, n, p1, p2, h, q _ _ (Ex.refl _) rfl⟩
theorem pow_i (ha : EvP ta σ H (IsI m)) (hb : EvP tb σ H (IsI n)) (h : CPow m n) : EvP (tOp (rI CPow fun i j => .int (i ^ j.toNat)) ta tb) σ H (IsI (m ^ n.toNat)) := evp_op ha hb fun x y H1 _ p1 p2 Q q => ⟨m, n, p1, p2, h, q _ _ (Ex.refl _) rfl⟩
theorem int_i (ha : EvP ta σ H (IsI m)) : EvP (tCB (fun xs H Q => (∃ i, xs = [.int i] ∧ Q (.int i) H) ∨ ∃ k, xs = [.bl k] ∧ Q (.int (if k then 1 else 0)) H) (tCons ta tNil)) σ H (IsI m) := evp_cb (eap_cons ha eap_nil) fun vs H1 _ hv => by
  obtain ⟨v, rfl, h⟩ := all1 hv
  cases h
  intro Q q
  exact .inl ⟨m, rfl, q _ _ (Ex.refl _) rfl⟩
end
def sp_taken (K : PySem.W.Frag) : Sp := fun vs H Q _ => ∃ (a r : Addr) (ns : List Int) (m : Int), vs = [.ref r, .int m] ∧ 0 < m ∧ m < 1073741824 ∧ RowAt K a ns r H ∧ ∀ (v : Int) H', 0 ≤ v → v < m → Ey [r] H H' → Cell a r H' → Q (.int v) H'
theorem cell_set {a r : Addr} {H1 : Hp} {p g c : Int} (h1 : 0 ≤ p) (h2 : 0 ≤ g) (h3 : g < 2147483647) : Cell a r (upd H1 r (.lst [.ref a, .int p, .int g, .int c])) := ⟨p, g, c, h1, h2, h3, upd_same⟩
theorem ey_set {r : Addr} {H H0 H1 : Hp} {o : HO} (e : Ey [r] H H0) (e1 : Ex H0 H1) : Ey [r] H (upd H1 r o) := (e.trans (Ex.y e1)).trans (Ey.upd (List.mem_singleton.mpr rfl))
theorem ok__law_taken (T : Txt K mg) : FnOk P w K mg base CX0 1 T.a__law_taken T.d__law_taken ["_law_row", "_law_many"] (sp_taken K) := by
  refine T.F__law_taken.ok sc__law_taken (fun vs H Q E h => ?_) fun cdv Ar outer s H vs Q E hr h => ?_
  · obtain ⟨a, r, ns, m, rfl, _⟩ := h
    rfl
  obtain ⟨a, r, ns, m, rfl, m0, m1, R, q⟩ := h
  obtain ⟨p, g, c, p0, g0, g1, hc⟩ := R.cell
  refine ⟨_, (pss_cons (ps_if (pt_cmpR op_gt (pe_ix (kIxL (K := K) rfl) (pv 0) pe_int (fun _ _ => rfl)) pe_int (nomark _)) (pss_cons (ps_set (i := 2) sc__law_taken.nd rfl (Or.inl rfl) (pe_op op_mod (pe_callTy call_int1 (by rfl) T.z_int (by decide +kernel) (pa_cons (pe_ix (kIxL (K := K) rfl) (pv 0) pe_int (fun _ _ => rfl)) pa_nil)) (pv 1)))
      (pss_cons (ps_asg (pe_op op_fdiv (pe_ix (kIxL (K := K) rfl) (pv 0) pe_int (fun _ _ => rfl)) (pv 1)) (pg_sub (pv 0) pe_int set_list))
      (pss_one (ps_ret (pv 2))))) pss_nil)
      (pss_cons (ps_asg (pe_op op_add (pe_ix (kIxL (K := K) rfl) (pv 0) pe_int (fun _ _ => rfl)) pe_int) (pg_sub (pv 0) pe_int set_list))
      (pss_cons (ps_if (pt_cmpR op_gt (pe_ix (kIxL (K := K) rfl) (pv 0) pe_int (fun _ _ => rfl)) (pe_callB (kLen (K := K) rfl) (by rfl) T.z_len PySem.boot_len (pa_cons (pe_ix (kIxL (K := K) rfl) (pv 0) pe_int (fun _ _ => rfl)) pa_nil)) (nomark _)) (pss_cons (ps_asg (pe_op op_mod (pe_callTy call_int1 (by rfl) T.z_int (by decide +kernel) (pa_cons (pe_op op_add (pe_op op_mul (pe_ix (kIxL (K := K) rfl) (pv 0) pe_int (fun _ _ => rfl)) pe_int) pe_int) pa_nil)) pe_int) (pg_sub (pv 0) pe_int set_list))
      (pss_one (ps_ret (pe_op op_mod (pe_callTy call_int1 (by rfl) T.z_int (by decide +kernel) (pa_cons (pe_op op_fdiv (pe_ix (kIxL (K := K) rfl) (pv 0) pe_int (fun _ _ => rfl)) pe_int) pa_nil)) (pv 1))))) pss_nil)
      (pss_cons (ps_set (i := 3) sc__law_taken.nd rfl (Or.inl rfl) (pe_ix (kIxL (K := K) rfl) (pe_ix (kIxL (K := K) rfl) (pv 0) pe_int (fun _ _ => rfl)) (pe_op op_sub (pe_ix (kIxL (K := K) rfl) (pv 0) pe_int (fun _ _ => rfl)) pe_int) (fun _ _ => rfl)))
      (pss_cons (ps_asg (pe_op op_mod (pe_callTy call_int1 (by rfl) T.z_int (by decide +kernel) (pa_cons (pe_op op_add (pe_op op_add (pe_op op_mul (pe_ix (kIxL (K := K) rfl) (pv 0) pe_int (fun _ _ => rfl)) pe_int) (pv 3)) pe_int) pa_nil)) pe_int) (pg_sub (pv 0) pe_int set_list))
      (pss_cons (ps_if (pt_cmpR op_ge (pv 3) (pe_op op_pow pe_int pe_int) (nomark _)) (pss_one (ps_asg (pe_op op_fdiv (pv 3) (pv 1)) (pg_sub (pv 0) pe_int set_list))) pss_nil)
      (pss_one (ps_ret (pe_op op_mod (pe_callTy call_int1 (by rfl) T.z_int (by decide +kernel) (pa_cons (pv 3) pa_nil)) (pv 1)))))))))), ?_⟩
  refine q_when (gt_i (m := c) (cellJ rfl hc (j := 3) rfl) evp_i) (fun z H1 e1 => ?_) fun z H1 e1 => ?_
  · have hc1 := e1 _ _ hc
    refine qP_asg (mod_i (int_i (m := c) (cellJ rfl hc1 (j := 3) rfl)) (evp_var (P := IsI m) rfl rfl) m0) fun v H2 e2 hv => ?_
    cases hv
    have hc2 := e2 _ _ hc1
    refine q_setL (j := 3) hc2 (ev_of (fdiv_i (m := c) (n := m) (cellJ rfl hc2 (j := 3) rfl) (evp_var (P := IsI m) rfl rfl) m0 m1)) (ev_of (evp_var (P := Is (.ref r)) rfl rfl)) (ev_of evp_c) (by simp) fun H3 e3 => ?_
    refine sP_ret (evp_var (P := IsI (c % m)) rfl rfl) fun v H4 e4 hv => ?_
    cases hv
    exact q _ H4 (Int.emod_nonneg _ (by omega)) (Int.emod_lt_of_pos _ m0) ((ey_set (Ex.y (e1.trans e2)) e3).trans (Ex.y e4)) ((cell_set p0 g0 g1).ex e4)
  have hc1 := e1 _ _ hc
  refine q_setL (j := 1) hc1 (ev_of (add_i (m := p) (n := 1) (cellJ rfl hc1 (j := 1) rfl) evp_c)) (ev_of (evp_var (P := Is (.ref r)) rfl rfl)) (ev_of evp_c) (by simp) fun H2 e2 => ?_
  have hc2 : (upd H2 r (.lst [.ref a, .int (p + 1), .int g, .int c])) r = some (.lst [.ref a, .int (p + 1), .int g, .int c]) := upd_same
  have ey2 : Ey [r] H (upd H2 r (.lst [.ref a, .int (p + 1), .int g, .int c])) := ey_set (Ex.y e1) e2
  have R2 := R.go ey2 (cell_set (by omega) g0 g1)
  show tSeq _ _ _ _ (upd H2 r (.lst [.ref a, .int (p + 1), .int g, .int c]))
  generalize hH3 : upd H2 r (.lst [.ref a, .int (p + 1), .int g, .int c]) = H3 at hc2 ey2 R2 ⊢
  refine q_when (gt_i (m := p + 1) (cellJ rfl hc2 (j := 1) rfl) ((evp_cb (P := IsI ns.length) (eap_cons (cellJ (z := .ref a) rfl hc2 (j := 0) rfl) eap_nil) fun vs H4 e4 hv => ?_))) (fun z H4 e4 => ?_) fun z H4 e4 => ?_
  · obtain ⟨v, rfl, h⟩ := all1 hv
    cases h
    intro Q q
    exact ⟨a, _, rfl, .inl (ex_l e4 R2.sq), q _ _ (Ex.refl _) (by rw [List.length_map]; rfl)⟩
  · have hc4 := e4 _ _ hc2
    refine q_setL (j := 2) hc4 (ev_of (mod_i (m := g * 48271 + 11) (n := 2147483647) (int_i (add_i (mul_i (m := g) (n := 48271) (cellJ rfl hc4 (j := 2) rfl) evp_c (.inr ⟨by decide, by decide⟩)) evp_c)) evp_c (by decide))) (ev_of (evp_var (P := Is (.ref r)) rfl rfl)) (ev_of evp_c) (by simp) fun H5 e5 => ?_
    have b1 := Int.emod_nonneg (g * 48271 + 11) (show (2147483647 : Int) ≠ 0 by decide)
    have b2 := Int.emod_lt_of_pos (g * 48271 + 11) (show (0 : Int) < 2147483647 by decide)
    refine sP_ret (mod_i (n := m) (int_i (fdiv_i (m := (g * 48271 + 11) % 2147483647) (n := 7) (cellJ rfl upd_same (j := 2) rfl) evp_c (by decide) (by decide))) (evp_var (P := IsI m) rfl rfl) m0) fun v H6 e6 hv => ?_
    cases hv
    exact q _ H6 (Int.emod_nonneg _ (by omega)) (Int.emod_lt_of_pos _ m0) ((ey_set (ey2.trans (Ex.y e4)) e5).trans (Ex.y e6)) ((cell_set (by omega) b1 b2).ex e6)
  have z' := of_decide_eq_false z
  obtain ⟨x, hx⟩ : ∃ x, ns[p.toNat]? = some x := ⟨ns[p.toNat]'(by omega), List.getElem?_eq_getElem _⟩
  have hc4 := e4 _ _ hc2
  refine qP_asg (P := IsI x) (evp_op (P1 := Is (.ref a)) (P2 := IsI p) (cellJ rfl hc4 (j := 0) rfl) ((sub_i (m := p + 1) (n := 1) (cellJ rfl hc4 (j := 1) rfl) evp_c).imp fun v _ _ h => by rw [show v = _ from h]; show V.int (p + 1 - 1) = V.int p; rw [Int.add_sub_cancel]) fun x1 y1 H5 e5 h1 h2 Q q => ?_) fun v H5 e5 hv => ?_
  · exact ⟨a, _, p, .int x, h1, h2, ex_l (e4.trans e5) R2.sq, by
      have e : p = (p.toNat : Int) := by omega
      rw [e]
      refine atI_nat ?_
      rw [List.getElem?_map, hx]
      rfl, q _ _ (Ex.refl _) rfl⟩
  cases hv
  have hc5 := e5 _ _ hc4
  refine q_setL (j := 2) hc5 (ev_of (mod_i (m := g * 48271 + x + 11) (n := 2147483647) (int_i (add_i (add_i (mul_i (m := g) (n := 48271) (cellJ rfl hc5 (j := 2) rfl) evp_c (.inr ⟨by decide, by decide⟩)) (evp_var (P := IsI x) rfl rfl)) evp_c)) evp_c (by decide))) (ev_of (evp_var (P := Is (.ref r)) rfl rfl)) (ev_of evp_c) (by simp) fun H6 e6 => ?_
  have b1 := Int.emod_nonneg (g * 48271 + x + 11) (show (2147483647 : Int) ≠ 0 by decide)
  have b2 := Int.emod_lt_of_pos (g * 48271 + x + 11) (show (0 : Int) < 2147483647 by decide)
  have ey6 := ey_set (o := .lst [.ref a, .int (p + 1), .int ((g * 48271 + x + 11) % 2147483647), .int c]) (ey2.trans (Ex.y (e4.trans e5))) e6
  refine q_when (ge_i (evp_var (P := IsI x) rfl rfl) (pow_i (m := 10) (n := 18) evp_c evp_c ⟨by decide, by decide, by decide⟩)) (fun z H7 e7 => ?_) fun z H7 e7 => ?_
  · have hc7 := e7 _ _ (upd_same (H := H6) (a := r) (o := .lst [.ref a, .int (p + 1), .int ((g * 48271 + x + 11) % 2147483647), .int c]))
    refine s_setL (j := 3) hc7 (ev_of (fdiv_i (m := x) (n := m) (evp_var (P := IsI x) rfl rfl) (evp_var (P := IsI m) rfl rfl) m0 m1)) (ev_of (evp_var (P := Is (.ref r)) rfl rfl)) (ev_of evp_c) (by simp) fun H8 e8 => ?_
    refine sP_ret (mod_i (n := m) (int_i (evp_var (P := IsI x) rfl rfl)) (evp_var (P := IsI m) rfl rfl) m0) fun v H9 e9 hv => ?_
    cases hv
    exact q _ H9 (Int.emod_nonneg _ (by omega)) (Int.emod_lt_of_pos _ m0) ((ey_set (ey6.trans (Ex.y e7)) e8).trans (Ex.y e9)) ((cell_set (by omega) b1 b2).ex e9)
  · refine sP_ret (mod_i (n := m) (int_i (evp_var (P := IsI x) rfl rfl)) (evp_var (P := IsI m) rfl rfl) m0) fun v H9 e9 hv => ?_
    cases hv
    exact q _ H9 (Int.emod_nonneg _ (by omega)) (Int.emod_lt_of_pos _ m0) ((ey6.trans (Ex.y e7)).trans (Ex.y e9)) (((cell_set (by omega) b1 b2).ex e7).ex e9)
end
end LDW

/-! The law's web. -/
namespace LDW
open PySem PySem.Spec PyProof.Rows L2 Evl LD
section
variable {K : PySem.W.Frag} {σ : L2.St} {H : Hp} {te ta tb : TE} {t u : TT} {a r : Addr} {ns : List Int}
/-- an expression that may draw -/
def EvR (a r : Addr) (te : TE) (σ : L2.St) (H : Hp) (P : V → Prop) : Prop := ∀ H1, Ey [r] H H1 → Cell a r H1 → ∀ Q : VK, (∀ v H2, Ey [r] H1 H2 → Cell a r H2 → P v → Q v H2) → te σ H1 Q
def EtR (a r : Addr) (t : TT) (σ : L2.St) (H : Hp) (φ : Bool → Prop) : Prop := ∀ H1, Ey [r] H H1 → Cell a r H1 → ∀ Q : Bool → Hp → Prop, (∀ b H2, Ey [r] H1 H2 → Cell a r H2 → φ b → Q b H2) → t σ H1 Q
theorem Ey.refl {S : List Addr} (H : Hp) : Ey S H H := fun _ _ _ q => q
/-- a number in [0, m) -/
def Rn (m : Int) (v : V) : Prop := ∃ x : Int, 0 ≤ x ∧ x < m ∧ v = .int x
theorem evr_taken {i : Nat} {tm : TE} {m : Int} {E : XK} (R : RowAt K a ns r H) (h0 : σ[i]? = some (some (.ref r))) (hm : ∀ H1, EvP tm σ H1 (IsI m)) (m0 : 0 < m) (m1 : m < 1073741824) : EvR a r (tCall (sp_taken K) [] E (tCons (tVar i) (tCons tm tNil))) σ H (Rn m) := fun H1 e1 c1 Q q =>
  ⟨_, h0, hm H1 H1 (Ex.refl _) _ fun v H2 e2 hv => by
    cases hv
    exact ⟨a, r, ns, m, rfl, m0, m1, R.go (e1.trans (Ex.y e2)) (c1.ex e2), fun v H' h1 h2 e3 c3 => q _ _ ((Ex.y e2).trans e3) c3 ⟨v, h1, h2, rfl⟩⟩⟩
theorem er_of {b : Bool} (h : ∀ H1, EvT t σ H1 b) : EtR a r t σ H (fun c => c = b) := fun H1 e1 c1 Q q => h H1 H1 (Ex.refl _) _ fun H2 e2 => q b H2 (Ex.y e2) (c1.ex e2) rfl
theorem er_any {φ : Bool → Prop} (h : EtR a r t σ H φ) : EtR a r t σ H (fun _ => True) := fun H1 e1 c1 Q q => h H1 e1 c1 Q fun b H2 e2 c2 _ => q b H2 e2 c2 trivial
theorem er_and {φ ψ : Bool → Prop} (h1 : EtR a r t σ H φ) (h2 : EtR a r u σ H ψ) : EtR a r (tAnd t u) σ H (fun b => b = true → φ true) := fun H1 e1 c1 Q q => h1 H1 e1 c1 _ fun b H2 e2 c2 hb => by
  cases b with
  | true =>
    rw [if_pos rfl]
    exact h2 H2 (e1.trans e2) c2 Q fun b' H3 e3 c3 _ => q b' H3 (e2.trans e3) c3 fun _ => hb
  | false =>
    rw [if_neg Bool.false_ne_true]
    exact q false H2 e2 c2 fun z => Bool.noConfusion z
theorem er_or {φ ψ : Bool → Prop} (h1 : EtR a r t σ H φ) (h2 : EtR a r u σ H ψ) : EtR a r (tOr t u) σ H (fun _ => True) := fun H1 e1 c1 Q q => h1 H1 e1 c1 _ fun b H2 e2 c2 hb => by
  cases b with
  | true =>
    rw [if_pos rfl]
    exact q true H2 e2 c2 trivial
  | false =>
    rw [if_neg Bool.false_ne_true]
    exact h2 H2 (e1.trans e2) c2 Q fun b' H3 e3 c3 _ => q b' H3 (e2.trans e3) c3 trivial
/-- a draw == 0 -/
theorem er_zero {m : Int} (h : EvR a r te σ H (Rn m)) : EtR a r (tTest (tOp rEq te (tC (.int 0)))) σ H (fun _ => True) := fun H1 e1 c1 Q q => h H1 e1 c1 _ fun v H2 e2 c2 ⟨x, _, _, hv⟩ => by
  subst hv
  exact ⟨rfl, _, rfl, q _ H2 e2 c2 trivial⟩
theorem IsWeb.stay {n : Nat} {A : LD.Ar} {v : V} {H H' : Hp} (e : ExT H H') (h : IsWeb n A v H) : IsWeb n A v H' := let ⟨a, b, h1, h2, h3⟩ := h; ⟨a, b, h1, e _ _ h2, Tup.stay e h3⟩
/-- an if in the midst: what holds behind it, either way -/
theorem q_mid {b : Bool} {D : Ends} {tu tz : TS} (M : L2.St → Hp → Prop) (hm : ∀ σ' H', M σ' H' → tz D σ' H') (h : EvT t σ H b) (h1 : b = true → ∀ H1, Ex H H1 → (∀ σ' H', M σ' H' → tz D σ' H') → tu { D with nx := tz D } σ H1) (h2 : b = false → ∀ H1, Ex H H1 → M σ H1) : tSeq (tIfS t tu tNext) tz D σ H :=
  q_when h (fun z H1 e => h1 z H1 e hm) fun z H1 e => hm _ _ (h2 z H1 e)
def IsWA (n : Nat) : VP := fun v H => ∃ A, Wb n A ∧ IsTs IsAr A v H
instance (n : Nat) : Mon (IsWA n) := ⟨fun e ⟨A, W, h⟩ => ⟨A, W, Mon.mono e h⟩⟩
theorem tuple_wa {n : Nat} (h : EvP te σ H (fun v H' => ∃ A, Wb n A ∧ IsLs IsAr A v H')) : EvP (tCB (rTupS K) (tCons te tNil)) σ H (IsWA n) := fun H1 e1 Q q =>
  h H1 e1 _ fun v H2 e2 ⟨A, W, hL⟩ => by
    have hs : EvP (tC v) σ H2 (IsLs IsAr A) := fun H3 e3 Q q => q v H3 (Ex.refl _) (Mon.mono e3 hL)
    exact tuple_l (K := K) hs H2 (Ex.refl _) Q fun y H4 e4 hy => q y H4 (e2.trans e4) ⟨A, W, hy⟩
/-! ### a set of arrows, sorted -/
theorem ars_ks : ∀ {xs : List V} {L : LD.Ar}, Paired (fun x e => IsAr e x H) xs L → ∃ ks : List (Addr × List Int), xs = ks.map (fun p => V.ref p.1) ∧ ks.map (·.2) = L.map (fun e => [e.1, e.2]) ∧ ∀ p ∈ ks, H p.1 = some (.tup (p.2.map V.int))
  | _, _, .nil => ⟨[], rfl, rfl, fun p h => absurd h (by simp)⟩
  | _, _, .cons (b := e) ⟨b, h1, h2⟩ t => by
    obtain ⟨ks, q1, q2, q3⟩ := ars_ks t
    refine ⟨(b, [e.1, e.2]) :: ks, ?_, ?_, fun p hp => ?_⟩
    · rw [List.map_cons, ← q1, h1]
    · rw [List.map_cons, List.map_cons, q2]
    · rcases List.mem_cons.mp hp with rfl | hp
      · exact h2
      · exact q3 p hp
def prOf (p : Addr × List Int) : Int × Int := (p.2.getD 0 0, p.2.getD 1 0)
theorem ks_ars {H : Hp} : ∀ {ks : List (Addr × List Int)}, (∀ p ∈ ks, ∃ x y, p.2 = [x, y]) → (∀ p ∈ ks, H p.1 = some (.tup (p.2.map V.int))) → Paired (fun x e => IsAr e x H) (ks.map fun p => V.ref p.1) (ks.map prOf)
  | [], _, _ => .nil
  | p :: ks, h, k => .cons (by
    obtain ⟨x, y, e⟩ := h p List.mem_cons_self
    refine ⟨p.1, rfl, ?_⟩
    have := k p List.mem_cons_self
    unfold prOf
    rw [e] at this ⊢
    exact this) (ks_ars (fun q hq => h q (List.mem_cons_of_mem _ hq)) fun q hq => k q (List.mem_cons_of_mem _ hq))
def OkA (n : Nat) (L : LD.Ar) : Prop := ∀ e ∈ L, 0 ≤ e.1 ∧ e.1 < n ∧ 0 ≤ e.2 ∧ e.2 < n ∧ e.1 ≠ e.2
theorem sorted_ars {P : Program} {w : World} {n : Nat} {L : LD.Ar} (n1 : 1 ≤ n) (n6 : n ≤ 6) (ok : OkA n L) (hl : L.length < 64) (ha : EvP ta σ H (IsLs IsAr L)) :
    EvP (tCB (rSortedT K P w) (tCons (tCB (rSetOfT K P w) (tCons ta tNil)) tNil)) σ H (fun v H' => ∃ A, Wb n A ∧ IsLs IsAr A v H') := fun H1 e1 Q q =>
  ha H1 e1 _ fun v H2 e2 ⟨l, xs, hv, h2, h3⟩ => by
    obtain ⟨ks, k1, k2, k3⟩ := ars_ks h3
    have two : ∀ p ∈ ks, ∃ e ∈ L, p.2 = [e.1, e.2] := fun p hp => by
      have m : p.2 ∈ ks.map (·.2) := List.mem_map.mpr ⟨p, hp, rfl⟩
      rw [k2] at m
      obtain ⟨e, he, z⟩ := List.mem_map.mp m
      exact ⟨e, he, z.symm⟩
    refine ⟨l, ks, by rw [hv], SqL.of (by rw [← k1]; exact h2), fun p hp => SqT.of (k3 p hp), ?_, fun b Ls hb m1 m2 => ?_⟩
    · have := congrArg List.length k2
      rw [List.length_map, List.length_map] at this
      omega
    · have at3 : ∀ p ∈ Ls, (upd H2 b (SetTO P w b Ls)) p.1 = some (.tup (p.2.map V.int)) := fun p hp => (Ex.new hb) _ _ (k3 p (m1 p hp))
      refine ⟨b, Ls, 2, 64, rfl, upd_same, fun p hp => SqT.of (at3 p hp), by decide, fun p hp => ?_, fun L' c pm nd l64 srt hc => ?_⟩
      · obtain ⟨e, he, z⟩ := two p (m1 p hp)
        have b' := ok e he
        refine ⟨by rw [z]; rfl, fun m hm => ?_⟩
        rw [z] at hm
        simp only [List.mem_cons, List.not_mem_nil, or_false] at hm
        rcases hm with rfl | rfl <;> omega
      · have two' : ∀ p ∈ L', ∃ e ∈ L, p.2 = [e.1, e.2] := fun p hp => two p (m1 p (pm.mem_iff.mp hp))
        have pe : ∀ {p : Addr × List Int} {e : Int × Int}, p.2 = [e.1, e.2] → prOf p = e := fun z => by
          unfold prOf
          rw [z]
          rfl
        refine q _ _ ((e2.trans (Ex.new hb)).trans (Ex.new hc)) ⟨L'.map prOf, ⟨fun e he => ?_, ?_, n1, n6⟩, c, _, rfl, upd_same, ks_ars (fun p hp => ?_) fun p hp => (Ex.new hc) _ _ (at3 p (pm.mem_iff.mp hp))⟩
        · obtain ⟨p, hp, rfl⟩ := List.mem_map.mp he
          obtain ⟨e, he, z⟩ := two' p hp
          rw [pe z]
          exact ok e he
        · rw [List.pairwise_map]
          rw [List.Nodup, List.pairwise_map] at nd
          refine List.Pairwise.imp_of_mem (fun {p p'} hp hp' z => ?_) (nd.and srt)
          obtain ⟨e, he, y⟩ := two' p hp
          obtain ⟨e', he', y'⟩ := two' p' hp'
          rw [pe y, pe y']
          have bb := ok e he
          have bb' := ok e' he'
          rw [y, y'] at z
          exact pair_lt z.2 z.1 (by omega) (by omega) (by omega) (by omega)
        · obtain ⟨e, he, y⟩ := two' p hp
          exact ⟨_, _, y⟩
end
section
variable {P : Program} {w : World} {K : PySem.W.Frag} {mg : Str → Option Value} {base : Heap}
def sp_pick (K : PySem.W.Frag) : Sp := fun vs H Q _ => ∃ (a r b : Addr) (ns l : List Int), vs = [.ref r, .ref b] ∧ RowAt K a ns r H ∧ b ≠ r ∧ H b = some (.lst (l.map V.int)) ∧ 0 < l.length ∧ l.length < 1000 ∧ ∀ v ∈ l, ∀ H', Ey [r] H H' → Cell a r H' → Q (.int v) H'
theorem ok__law_pick (T : Txt K mg) : FnOk P w K mg base CX0 2 T.a__law_pick T.d__law_pick ["_law_row", "_law_things"] (sp_pick K) := by
  refine T.F__law_pick.ok sc__law_pick (fun vs H Q E h => ?_) fun cdv Ar outer s H vs Q E hr h => ?_
  · obtain ⟨a, r, b, ns, l, rfl, _⟩ := h
    rfl
  obtain ⟨a, r, b, ns, l, rfl, R, nb, hb, l0, l1, q⟩ := h
  refine ⟨_, (pss_one (ps_ret (pe_ix (kIxL (K := K) rfl) (pv 1) (pe_call (ok__law_taken T) (hr.mono (by decide)) (by rfl) T.g__law_taken T.F__law_taken.kp T.b__law_taken .nil pass0 (pa_cons (pv 0) (pa_cons (pe_callB (kLen (K := K) rfl) (by rfl) T.z_len PySem.boot_len (pa_cons (pv 1) pa_nil)) pa_nil))) (fun _ _ => rfl)))), ?_⟩
  refine ⟨_, rfl, ?_⟩
  refine ⟨_, rfl, ?_⟩
  refine ⟨_, rfl, b, _, rfl, .inl (SqL.of hb), ?_⟩
  refine ⟨a, r, ns, l.length, by rw [List.length_map]; rfl, by omega, by omega, R, fun v H' v0 v1 e c => ?_⟩
  obtain ⟨x, hx⟩ : ∃ x, l[v.toNat]? = some x := ⟨l[v.toNat]'(by omega), List.getElem?_eq_getElem _⟩
  refine ⟨b, _, v, .int x, rfl, rfl, SqL.of (e b _ (by simp [nb]) hb), ?_, q x (List.mem_of_getElem? hx) H' e c⟩
  have ev : v = (v.toNat : Int) := by omega
  rw [ev]
  refine atI_nat ?_
  rw [List.getElem?_map, hx]
  rfl
def sp_web (K : PySem.W.Frag) : Sp := fun vs H Q _ => ∃ (a r : Addr) (ns : List Int), vs = [.ref r, .int 6] ∧ RowAt K a ns r H ∧ ∀ (n : Nat) (A : LD.Ar) (v : V) H', Wb n A → IsWeb n A v H' → Ey [r] H H' → Cell a r H' → Q v H'
/-- the arrows while they are drawn -/
structure ArI (a r Dl : Addr) (n : Nat) (H0 : Hp) (b : Nat) (H' : Hp) : Prop where
  y : Ey [r] H0 H'
  c : Cell a r H'
  d : ∃ acc L, H' Dl = some (.lst acc) ∧ Paired (fun x e => IsAr e x H') acc L ∧ OkA n L ∧ L.length ≤ b
theorem ok__law_web (T : Txt K mg) : FnOk P w K mg base CX0 3 T.a__law_web T.d__law_web ["_law_row", "_law_most"] (sp_web K) := by
  refine T.F__law_web.ok sc__law_web (fun vs H Q E h => ?_) fun cdv Ar outer s H vs Q E hr h => ?_
  · obtain ⟨a, r, ns, rfl, _⟩ := h
    rfl
  obtain ⟨a, r, ns, rfl, R, q⟩ := h
  refine ⟨_, (pss_cons (ps_par (i := 2) (j := 3) rfl sc__law_web.nd rfl rfl (by decide) rfl rfl (pa_cons (pe_op op_add pe_int (pe_call (ok__law_taken T) (hr.mono (by decide)) (by rfl) T.g__law_taken T.F__law_taken.kp T.b__law_taken .nil pass0 (pa_cons (pv 0) (pa_cons (pv 1) pa_nil)))) (pa_cons (pe_call (ok__law_taken T) (hr.mono (by decide)) (by rfl) T.g__law_taken T.F__law_taken.kp T.b__law_taken .nil pass0 (pa_cons (pv 0) (pa_cons pe_int pa_nil))) pa_nil)) (by rfl))
      (pss_cons (ps_par (i := 4) (j := 5) rfl sc__law_web.nd rfl rfl (by decide) rfl rfl (pa_cons (pe_call (ok__law_pick T) (hr.mono (by decide)) (by rfl) T.g__law_pick T.F__law_pick.kp T.b__law_pick .nil pass0 (pa_cons (pv 0) (pa_cons (pe_lst (pa_cons pe_int (pa_cons pe_int (pa_cons pe_int pa_nil)))) pa_nil))) (pa_cons (pe_lst pa_nil) pa_nil)) (by rfl))
      (pss_cons (ps_for PassesOwn.never rfl (pi_range1 (by rfl) T.z_range (pa_cons (pv 2) pa_nil)) (pg_name (i := 6) sc__law_web.nd rfl (Or.inl rfl)) (pss_one (ps_for PassesOwn.never rfl (pi_range1 (by rfl) T.z_range (pa_cons (pv 2) pa_nil)) (pg_name (i := 7) sc__law_web.nd rfl (Or.inl rfl)) (pss_one (ps_if (PW.pt (pw_and (pt_cmpR op_ne (pv 6) (pv 7) (nomark _)) (pw_and1 (PW.pt (pw_or (PW.pt (pw_and (pt_cmpR op_lt (pv 3) pe_int (nomark _)) (pw_and1 (pt_cmpR op_eq (pe_call (ok__law_taken T) (hr.mono (by decide)) (by rfl) T.g__law_taken T.F__law_taken.kp T.b__law_taken .nil pass0 (pa_cons (pv 0) (pa_cons (pv 4) pa_nil))) pe_int (nomark _))))) (pw_or1 (PW.pt (pw_and (pt_cmpR op_eq (pv 3) pe_int (nomark _)) (pw_and (pt_cmpR op_lt (pv 6) (pv 7) (nomark _)) (pw_and1 (pt_cmpR op_eq (pe_call (ok__law_taken T) (hr.mono (by decide)) (by rfl) T.g__law_taken T.F__law_taken.kp T.b__law_taken .nil pass0 (pa_cons (pv 0) (pa_cons pe_int pa_nil))) pe_int (nomark _)))))))))))) (pss_one (ps_expr (pe_bm PySem.F.plainAttrs_list PySem.F.slot_list_append PySem.F.type_list_append mt_append (pv 5) (pa_cons (pe_tup (pa_cons (pv 6) (pa_cons (pv 7) pa_nil))) pa_nil)))) pss_nil)))))
      (pss_cons (ps_if (pt_cmpR op_gt (pv 3) pe_int (nomark _)) (pss_one (ps_set (i := 5) sc__law_web.nd rfl (Or.inl rfl) (pe_op op_cat (pe_lc (own := [("_law_k", 6)]) (g := (gName 6)) rfl sc__law_web.nd (pi_range1 (by rfl) T.z_range (pa_cons (pe_op op_sub (pv 2) pe_int) pa_nil)) (blkOk_by (own := [("_law_k", 6)]) (N := ["_law_row", "_law_most", "_law_many", "_law_way", "_law_thin", "_law_arrows", "_law_k", "_law_j"]) (sc := defScope s_law_web) (by decide +kernel)) (fun _ _ _ _ _ => (pg_name (i := 6) sc__law_web.nd rfl (Or.inl rfl))) (fun _ _ _ _ _ => pts_nil) (fun _ _ _ _ _ => (pe_tup (pa_cons (pv 6) (pa_cons (pe_op op_add (pv 6) pe_int) pa_nil))))) (pe_ifExp (PW.pt (pw_and (pt_cmpR op_eq (pv 3) pe_int (nomark _)) (pw_and1 (pt_cmpR op_gt (pv 2) pe_int (nomark _))))) (pe_lst (pa_cons (pe_tup (pa_cons (pe_op op_sub (pv 2) pe_int) (pa_cons pe_int pa_nil))) pa_nil)) (pe_lst pa_nil))))) pss_nil)
      (pss_one (ps_ret (pe_tup (pa_cons (pv 2) (pa_cons (pe_callTy (kTuple (K := K) rfl) (by rfl) T.z_tuple (by decide +kernel) (pa_cons (pe_callB (kSortedT (K := K) (P := P) (w := w) rfl rfl rfl rfl) (by rfl) T.z_sorted (by decide +kernel) (pa_cons (pe_callTy (kSetOfT (K := K) (P := P) (w := w) rfl rfl rfl rfl hr.units) (by rfl) T.z_set (by decide +kernel) (pa_cons (pv 5) pa_nil)) pa_nil)) pa_nil)) pa_nil))))))))), ?_⟩
  refine evr_taken (i := 0) R rfl (fun H1 => evp_var (P := IsI 6) rfl rfl) (by decide) (by decide) H (Ey.refl _) R.cell _ fun v1 H1 y1 c1 ⟨x, x0, x1, hx⟩ => ?_
  subst hx
  refine ⟨1, x, rfl, rfl, ?_⟩
  refine evr_taken (i := 0) R rfl (fun H1 => evp_c) (by decide) (by decide) H1 y1 c1 _ fun v2 H2 y2 c2 ⟨wy, w0, w1, hw⟩ => ?_
  subst hw
  obtain ⟨n, hn⟩ : ∃ n : Nat, 1 + x = (n : Int) := ⟨(1 + x).toNat, by omega⟩
  refine ⟨_, _, rfl, ?_⟩
  simp only [hn]
  have y02 := y1.trans y2
  refine ⟨_, rfl, by show 3 ≤ sizeLine; rw [sizeLine_eq]; decide, fun b hb => ?_⟩
  have hcell := c2
  obtain ⟨p0, g0, d0, _, _, _, hr0⟩ := hcell
  have nb : b ≠ r := fun z => by rw [z, hr0] at hb; cases hb
  refine ⟨a, r, b, ns, [2, 3, 5], rfl, R.go (y02.trans (Ex.y (Ex.new hb))) (c2.ex (Ex.new hb)), nb, upd_same, by decide, by decide, fun th hth H3 y3 c3 => ?_⟩
  refine ⟨Nat.zero_le _, fun Dl hD => ?_⟩
  refine ⟨_, _, rfl, ?_⟩
  have th0 : 0 < th ∧ th < 6 := by
    simp only [List.mem_cons, List.not_mem_nil, or_false] at hth
    rcases hth with rfl | rfl | rfl <;> decide
  have y03 := (y02.trans (Ex.y (Ex.new hb))).trans y3
  have R3 := R.go y03 c3
  have c3' := c3
  obtain ⟨p3, g3, d3, _, _, _, hr3⟩ := c3'
  have nD : Dl ≠ r := fun z => by rw [z, hr3] at hD; cases hD
  have n1 : 1 ≤ n := by omega
  have n6 : n ≤ 6 := by omega
  refine q_forR1 (n := (n : Int)) (ea_cons (ev_of (evp_var (P := IsI n) rfl rfl)) ea_nil) (by omega) (fun i σ' H' => ∃ u v, σ' = [some (.ref r), some (.int 6), some (.int n), some (.int wy), some (.int th), some (.ref Dl), u, v] ∧ ArI a r Dl n H3 (i * 6) H') (fun H4 e4 => ⟨none, none, rfl, Ey.trans (Ex.y (Ex.new hD)) (Ex.y e4), (c3.ex (Ex.new hD)).ex e4, [], [], e4 _ _ upd_same, .nil, fun e he => absurd he (by simp), Nat.zero_le _⟩) (fun i σ' H' hi ⟨u, v, hσ, I⟩ => ?_) fun σ' H' ⟨u, v, hσ, I⟩ => ?_
  · subst hσ
    refine s_forR1 (n := (n : Int)) (ea_cons (ev_of (evp_var (P := IsI n) rfl rfl)) ea_nil) (by omega) (fun j σ' H' => ∃ v, σ' = [some (.ref r), some (.int 6), some (.int n), some (.int wy), some (.int th), some (.ref Dl), some (.int (i : Int)), v] ∧ ArI a r Dl n H3 (i * 6 + j) H') (fun H4 e4 => ?_) (fun j σ' H' hj ⟨v, hσ, I⟩ => ?_) fun σ' H' ⟨v, hσ, I⟩ => ?_
    · obtain ⟨acc, L, d1, d2, d3, d4⟩ := I.d
      exact ⟨v, rfl, I.y.trans (Ex.y e4), I.c.ex e4, acc, L, e4 _ _ d1, Paired.mapP d2 fun _ _ z => Mon.mono e4 z, d3, by omega⟩
    · subst hσ
      have R4 := R3.go I.y I.c
      refine er_and (φ := fun c => c = !decide ((i : Int) = (j : Int))) (er_of fun H1 => ne_i (evp_var rfl rfl) (evp_var rfl rfl)) (er_or (er_any (er_and (er_of (b := decide (wy < 3)) fun H1 => lt_i (evp_var rfl rfl) evp_i) (er_zero (evr_taken (i := 0) (m := th) R4 rfl (fun H1 => evp_var (P := IsI th) rfl rfl) th0.1 (by omega))))) (er_any (er_and (er_of (b := decide (wy = 3)) fun H1 => eq_i (evp_var rfl rfl) evp_i) (er_any (er_and (er_of (b := decide ((i : Int) < (j : Int))) fun H1 => lt_i (evp_var rfl rfl) (evp_var rfl rfl)) (er_zero (evr_taken (i := 0) (m := 2) R4 rfl (fun H1 => evp_c) (by decide) (by decide)))))))) H' (Ey.refl _) I.c _ fun c H4 y4 c4 hc => ?_
      obtain ⟨acc, L, d1, d2, d3, d4⟩ := I.d
      have t4 := I.c.tup y4
      have d1' := y4 Dl _ (by simp [nD]) d1
      have d2' : Paired (fun x e => IsAr e x H4) acc L := Paired.mapP d2 fun _ _ z => Tup.stay t4 z
      cases c with
      | true =>
        have ne : ¬ (i : Int) = (j : Int) := by simpa using hc rfl
        rw [if_pos rfl]
        refine s_appP (S := IsAr) (c := ((i : Int), (j : Int))) d1' d2' (by omega) (evp_var (P := Is (.ref Dl)) rfl rfl) ((evp_tup (eap_cons (evp_var (P := IsI i) rfl rfl) (eap_cons (evp_var (P := IsI j) rfl rfl) eap_nil)) (by show 2 ≤ 100000; decide)).imp fun v H5 _ ⟨b, xs, z1, z2, H0, _, hv⟩ => ?_) fun acc' H5 H6 e5 eq t6 pr => ⟨_, rfl, ?_, ?_, acc', L ++ [((i : Int), (j : Int))], by rw [eq]; exact upd_same, pr, fun e he => ?_, ?_⟩
        · obtain ⟨x1, x2, rfl, p1, p2⟩ := all2 hv
          cases p1
          cases p2
          exact ⟨b, z1, z2⟩
        · have y5 := ((I.y.trans y4).trans (Ex.y e5))
          rw [eq]
          exact fun b o nb q => by
            have ne' : b ≠ Dl := fun z => by
              rw [z] at q
              rw [hD] at q
              cases q
            rw [upd_ne ne']
            exact y5 b o nb q
        · obtain ⟨p, g, d, z1, z2, z3, z4⟩ := c4.ex e5
          exact ⟨p, g, d, z1, z2, z3, by rw [eq, upd_ne nD.symm]; exact z4⟩
        · rcases List.mem_append.mp he with he | he
          · exact d3 e he
          · rw [List.mem_singleton.mp he]
            refine ⟨by omega, hi, by omega, hj, ne⟩
        · rw [List.length_append, List.length_singleton]
          omega
      | false =>
        rw [if_neg Bool.false_ne_true]
        exact ⟨_, rfl, I.y.trans y4, c4, acc, L, d1', d2', d3, by omega⟩
    · subst hσ
      obtain ⟨acc, L, d1, d2, d3, d4⟩ := I.d
      exact ⟨_, _, rfl, I.y, I.c, acc, L, d1, d2, d3, by omega⟩
  · subst hσ
    obtain ⟨acc, L, d1, d2, d3, d4⟩ := I.d
    have y0 := y03.trans I.y
    refine q_mid (fun σ' H4 => ∃ v5 L, σ' = [some (.ref r), some (.int 6), some (.int n), some (.int wy), some (.int th), some v5, u, v] ∧ Ey [r] H H4 ∧ Cell a r H4 ∧ IsLs IsAr L v5 H4 ∧ OkA n L ∧ L.length ≤ 36) (fun σ' H4 ⟨v5, L, hσ, y4, c4, hL, ok, l36⟩ => ?_) (gt_i (evp_var (P := IsI wy) rfl rfl) evp_i) (fun _ H4 e4 fin => ?_) (fun _ H4 e4 => ⟨.ref Dl, L, rfl, y0.trans (Ex.y e4), I.c.ex e4, Mon.mono e4 ⟨Dl, acc, rfl, d1, d2⟩, d3, by omega⟩)
    · subst hσ
      refine sP_ret ((evp_tup (eap_cons (evp_var (P := IsI n) rfl rfl) (eap_cons (P := IsWA n) (tuple_wa (sorted_ars n1 n6 ok (by omega) (evp_var rfl hL))) eap_nil)) (by show 2 ≤ 100000; decide)).imp (P' := fun v H' => ∃ A, Wb n A ∧ IsWeb n A v H') fun v H5 _ ⟨b, xs, z1, z2, H0, e, hv⟩ => ?_) fun v H5 e5 ⟨A, W, hv⟩ => q n A v H5 W hv (y4.trans (Ex.y e5)) (c4.ex e5)
      obtain ⟨x1, x2, rfl, p1, A, W, p2⟩ := all2 hv
      cases p1
      exact ⟨A, W, b, x2, z1, z2, Mon.mono e p2⟩
    · have ar : ∀ {x y : Int} {tx ty : TE} {σ : L2.St} {H : Hp}, EvP tx σ H (IsI x) → EvP ty σ H (IsI y) → EvP (tTup (tCons tx (tCons ty tNil))) σ H (IsAr (x, y)) := fun h1 h2 => (evp_tup (eap_cons h1 (eap_cons h2 eap_nil)) (by show 2 ≤ 100000; decide)).imp fun v H5 _ ⟨b, xs, z1, z2, H0, _, hv⟩ => by
        obtain ⟨x1, x2, rfl, p1, p2⟩ := all2 hv
        cases p1
        cases p2
        exact ⟨b, z1, z2⟩
      have hsub : ∀ {σ : L2.St} {H : Hp}, σ[2]? = some (some (V.int n)) → EvP (tOp (rI0 fun i j => .int (i - j)) (tVar 2) (tC (.int 1))) σ H (IsI ((n - 1 : Nat) : Int)) := fun h => (sub_i (evp_var (P := IsI n) h rfl) evp_i).imp fun v _ _ z => by
        rw [show v = _ from z]
        show V.int _ = V.int _
        congr 1
        omega
      refine sP_asg (P := IsLs IsAr (((((List.range (n - 1)).map fun (i : Nat) => (i : Int)).filter fun _ => true).map fun k => (k, k + 1)) ++ if (wy == 5 && decide (1 < n)) then [(((n - 1 : Nat) : Int), 0)] else [])) (cat_l (R := IsAr) (lcR (n := n - 1) (S := IsAr) (fun _ => true) (fun k => (k, k + 1)) (hsub rfl) (by omega) (fun _ => rfl) (fun _ _ _ _ _ => yes) fun k _ _ _ H5 e5 => ar (evp_var rfl rfl) (add_i (evp_var rfl rfl) evp_i)) (evp_if (et_and (eq_i (evp_var (P := IsI wy) rfl rfl) evp_i) fun _ => gt_i (evp_var (P := IsI n) rfl rfl) evp_i) (fun c => ?_) fun c => ?_) ?_) fun v5 H5 e5 hv => fin _ _ ⟨v5, _, rfl, (y0.trans (Ex.y e4)).trans (Ex.y e5), (I.c.ex e4).ex e5, hv, ?_, ?_⟩
      · have e : (wy == 5 && decide (1 < n)) = true := by
          rw [Bool.and_eq_true] at c ⊢
          have h5 := of_decide_eq_true c.1
          have h1 := of_decide_eq_true c.2
          exact ⟨by rw [h5]; rfl, decide_eq_true (by omega)⟩
        rw [e, if_pos rfl]
        exact (evp_lst (eap_cons (ar (hsub rfl) evp_i) eap_nil) (by show 1 ≤ 100000; decide)).imp fun v H5 _ ⟨b, xs, z1, z2, H0, e, hv⟩ => by
          obtain ⟨x1, rfl, p1⟩ := all1 hv
          exact ⟨b, _, z1, z2, .cons (Mon.mono e p1) .nil⟩
      · have e : (wy == 5 && decide (1 < n)) = false := by
          rw [Bool.eq_false_iff] at c ⊢
          refine fun z => c ?_
          rw [Bool.and_eq_true] at z ⊢
          have z1 : wy = 5 := by simpa using z.1
          have z2 : 1 < n := by simpa using z.2
          exact ⟨decide_eq_true z1, decide_eq_true (by omega)⟩
        rw [e, if_neg Bool.false_ne_true]
        exact evp_nil
      · rw [List.length_map]
        have := List.length_filter_le (fun _ => true) ((List.range (n - 1)).map fun (i : Nat) => (i : Int))
        rw [List.length_map, List.length_range] at this
        split <;> simp only [List.length_cons, List.length_nil] <;> omega
      · intro e he
        rcases List.mem_append.mp he with he | he
        · obtain ⟨k, hk, rfl⟩ := List.mem_map.mp he
          have hk' := mem_rng (n := n - 1).mp (List.mem_filter.mp hk).1
          refine ⟨hk'.1, by omega, by show (0 : Int) ≤ k + 1; omega, by show k + 1 < (n : Int); omega, by show k ≠ k + 1; omega⟩
        · split at he
          · rename_i c
            rw [Bool.and_eq_true] at c
            have := of_decide_eq_true c.2
            rw [List.mem_singleton.mp he]
            refine ⟨by show (0 : Int) ≤ ((n - 1 : Nat) : Int); omega, by show ((n - 1 : Nat) : Int) < n; omega, by show (0 : Int) ≤ 0; omega, by show (0 : Int) < n; omega, by show ((n - 1 : Nat) : Int) ≠ 0; omega⟩
          · exact absurd he (by simp)
      · rw [List.length_append, List.length_map]
        have := List.length_filter_le (fun _ => true) ((List.range (n - 1)).map fun (i : Nat) => (i : Int))
        rw [List.length_map, List.length_range] at this
        split <;> simp only [List.length_cons, List.length_nil] <;> omega
end
end LDW

/-! The law's standing. -/
namespace LDW
open PySem PySem.Spec PyProof.Rows L2 Evl LD
section
variable {K : PySem.W.Frag} {σ : L2.St} {H : Hp} {te ta tb tl : TE} {tt : TT} {a r : Addr} {ns : List Int} {j : Nat} {vs : List Nat}
/-- [k for k in range(n) if draw] -/
theorem lc_rr {n : Nat} (c : Cell a r H) (h : EvP tl σ H (IsI n)) (hz : n ≤ 1000) (hj : ∀ x : V, ((wipe σ vs).set j (some x))[j]? = some (some x)) (hw : ∀ x, wipe ((wipe σ vs).set j (some x)) vs = wipe σ vs) (ht : ∀ k : Int, EtR a r tt ((wipe σ vs).set j (some (.int k))) H (fun _ => True))
    (Q : VK) (q : ∀ b m H2, b ≠ r → H2 b = some (.lst (m.map V.int)) → Sd n m → Ey [r] H H2 → Cell a r H2 → Q (.ref b) H2) : tLc (iRng1 (tCons tl tNil)) (gName j) tt (tVar j) vs σ H Q := by
  refine h H (Ex.refl _) _ fun v H2 e2 hv => ⟨n, by rw [show v = .int n from hv], by omega, by omega, fun D hD => ?_⟩
  have et : ((n : Int)).toNat = n := by omega
  rw [et]
  have c2 := c.ex e2
  have nD : D ≠ r := fun z => by
    obtain ⟨p, g, d, _, _, _, q⟩ := c2
    rw [z, q] at hD
    cases hD
  refine lc_range (lo := 0) (n := n) (fun i H' => ∃ m : List Int, H' D = some (.lst (m.map V.int)) ∧ (∀ x ∈ m, 0 ≤ x ∧ x < (i : Int)) ∧ Asc m ∧ m.length ≤ i ∧ Ey [r] H H' ∧ Cell a r H') ⟨[], upd_same, fun x hx => absurd hx (by simp), .nil, Nat.zero_le _, Ex.y (e2.trans (Ex.new hD)), c2.ex (Ex.new hD)⟩ (fun i H' hi ⟨m, h1, h2, h3, h4, h5, h6⟩ => ?_) fun H' ⟨m, h1, h2, h3, h4, h5, h6⟩ => q D m H' nD h1 ⟨h3, h2⟩ h5 h6
  refine ⟨hw _, ht _ H' h5 h6 _ fun b H3 y3 c3 _ => ?_⟩
  have g1 := y3 D _ (by simp [nD]) h1
  cases b with
  | true =>
    rw [if_pos rfl]
    refine ⟨_, hj _, m.map V.int, g1, by rw [List.length_map]; exact sz_lt (by omega), m ++ [(0 + (i : Int))], by rw [List.map_append]; exact upd_same, fun x hx => ?_, ?_, by rw [List.length_append, List.length_singleton]; omega, ?_, ?_⟩
    · rcases List.mem_append.mp hx with hx | hx
      · have := h2 x hx
        omega
      · rw [List.mem_singleton.mp hx]
        omega
    · show (m ++ [(0 + (i : Int))]).Pairwise (· < ·)
      rw [List.pairwise_append]
      refine ⟨h3, List.pairwise_singleton _ _, fun x hx y hy => ?_⟩
      rw [List.mem_singleton.mp hy]
      have := (h2 x hx).2
      omega
    · refine fun b o nb q => ?_
      have : b ≠ D := fun z => by
        rw [z] at q
        have := none_of e2 hD
        rw [this] at q
        cases q
      rw [upd_ne this]
      exact (h5.trans y3) b o nb q
    · obtain ⟨p, g, d, z1, z2, z3, z4⟩ := c3
      exact ⟨p, g, d, z1, z2, z3, by rw [upd_ne nD.symm]; exact z4⟩
  | false =>
    rw [if_neg Bool.false_ne_true]
    exact ⟨m, g1, fun x hx => by have := h2 x hx; omega, h3, by omega, h5.trans y3, c3⟩
/-- [k for k in found if draw] -/
theorem lc_rl {n i0 : Nat} {b0 : Addr} {m0 : List Int} (c : Cell a r H) (hv : σ[i0]? = some (some (.ref b0))) (nb0 : b0 ≠ r) (hb0 : H b0 = some (.lst (m0.map V.int))) (S : Sd n m0) (hz : n ≤ 1000) (hj : ∀ x : V, ((wipe σ vs).set j (some x))[j]? = some (some x)) (hw : ∀ x, wipe ((wipe σ vs).set j (some x)) vs = wipe σ vs) (ht : ∀ x : V, EtR a r tt ((wipe σ vs).set j (some x)) H (fun _ => True))
    (Q : VK) (q : ∀ b m H2, b ≠ r → H2 b = some (.lst (m.map V.int)) → Sd n m → Ey [r] H H2 → Cell a r H2 → Q (.ref b) H2) : tLc (iList K (tVar i0)) (gName j) tt (tVar j) vs σ H Q := by
  refine ⟨_, hv, b0, rfl, ⟨_, SqL.of hb0⟩, fun D hD => ?_⟩
  have nD : D ≠ r := fun z => by
    obtain ⟨p, g, d, _, _, _, q⟩ := c
    rw [z, q] at hD
    cases hD
  have nB : b0 ≠ D := fun z => by rw [z, hD] at hb0; cases hb0
  have ml := S.len
  refine lc_list (K := K) (a := b0) (xs := m0.map V.int) (fun i H' => ∃ m : List Int, H' D = some (.lst (m.map V.int)) ∧ m.Sublist (m0.take i) ∧ Ey [r] H H' ∧ Cell a r H') ⟨[], upd_same, List.nil_sublist _, Ex.y (Ex.new hD), c.ex (Ex.new hD)⟩ (fun i H' _ ⟨m, h1, h2, h5, h6⟩ => SqL.of (h5 b0 _ (by simp [nb0]) hb0)) (fun i x H' hx ⟨m, h1, h2, h5, h6⟩ => ?_) fun H' ⟨m, h1, h2, h5, h6⟩ => ?_
  · rw [List.getElem?_map] at hx
    obtain ⟨y, hy, hxy⟩ := Option.map_eq_some_iff.mp hx
    subst hxy
    refine ⟨hw _, ht _ H' h5 h6 _ fun b H3 y3 c3 _ => ?_⟩
    have g1 := y3 D _ (by simp [nD]) h1
    have tk : m0.take (i + 1) = m0.take i ++ [y] := by
      rw [List.take_add_one, hy]
      rfl
    have le := h2.length_le
    rw [List.length_take] at le
    cases b with
    | true =>
      rw [if_pos rfl]
      refine ⟨_, hj _, m.map V.int, g1, by rw [List.length_map]; exact sz_lt (by omega), m ++ [y], by rw [List.map_append]; exact upd_same, by rw [tk]; exact h2.append (List.Sublist.refl _), ?_, ?_⟩
      · refine fun b o nb q => ?_
        have : b ≠ D := fun z => by
          rw [z, hD] at q
          cases q
        rw [upd_ne this]
        exact (h5.trans y3) b o nb q
      · obtain ⟨p, g, d, z1, z2, z3, z4⟩ := c3
        exact ⟨p, g, d, z1, z2, z3, by rw [upd_ne nD.symm]; exact z4⟩
    | false =>
      rw [if_neg Bool.false_ne_true]
      exact ⟨m, g1, by rw [tk]; exact h2.trans (List.sublist_append_left _ _), h5.trans y3, c3⟩
  · rw [List.length_map, List.take_length] at h2
    exact q D m H' nD h1 ⟨S.asc.sublist h2, fun x hx => S.bd x (h2.subset hx)⟩ h5 h6
end
section
variable {P : Program} {w : World} {K : PySem.W.Frag} {mg : Str → Option Value} {base : Heap}
def sp_standing (K : PySem.W.Frag) : Sp := fun vs H Q _ => ∃ (a r : Addr) (ns : List Int) (n : Nat) (A : LD.Ar) (v : V), vs = [.ref r, v] ∧ RowAt K a ns r H ∧ Wb n A ∧ IsWeb n A v H ∧ ∀ (O : List Int) (u : V) H', Sd n O → IsTI O u H' → ExT H H' → Q u H'
theorem ok__law_standing (T : Txt K mg) : FnOk P w K mg base CX0 2 T.a__law_standing T.d__law_standing ["_law_row", "_law_web_here"] (sp_standing K) := by
  refine T.F__law_standing.ok sc__law_standing (fun vs H Q E h => ?_) fun cdv Ar outer s H vs Q E hr h => ?_
  · obtain ⟨a, r, ns, n, A, v, rfl, _⟩ := h
    rfl
  obtain ⟨a, r, ns, n, A, v, rfl, R, W, hweb, q⟩ := h
  have n6 := W.n6
  have hA := W.len
  refine ⟨_, (pss_cons (ps_asg (pe_tup (pa_cons (pe_call (ok__law_taken T) (hr.mono (by decide)) (by rfl) T.g__law_taken T.F__law_taken.kp T.b__law_taken .nil pass0 (pa_cons (pv 0) (pa_cons pe_int pa_nil))) (pa_cons (pe_lc (own := [("_law_k", 5)]) (g := (gName 5)) rfl sc__law_standing.nd (pi_range1 (by rfl) T.z_range (pa_cons (pe_ix (kIxT (K := K) rfl) (pv 1) pe_int (fun _ _ => rfl)) pa_nil)) (blkOk_by (own := [("_law_k", 5)]) (N := ["_law_row", "_law_web_here", "_law_way", "_law_found", "_law_turn", "_law_k", "_law_one", "_law_other"]) (sc := defScope s_law_standing) (by decide +kernel)) (fun _ _ _ _ _ => (pg_name (i := 5) sc__law_standing.nd rfl (Or.inl rfl))) (fun _ _ _ _ _ => (pts_one (pt_cmpR op_eq (pe_call (ok__law_taken T) (hr.mono (by decide)) (by rfl) T.g__law_taken T.F__law_taken.kp T.b__law_taken .nil pass0 (pa_cons (pv 0) (pa_cons pe_int pa_nil))) pe_int (nomark _)))) (fun _ _ _ _ _ => (pv 5))) pa_nil))) (kPgT (K := K) rfl rfl (pgs_cons (pg_name (i := 2) sc__law_standing.nd rfl (Or.inl rfl)) (pgs_cons (pg_name (i := 3) sc__law_standing.nd rfl (Or.inr rfl)) pgs_nil))))
      (pss_cons (ps_if (pt_cmpR op_eq (pv 2) pe_int (nomark _)) (pss_one (ps_set (i := 3) sc__law_standing.nd rfl (Or.inr rfl) (pe_lc (own := [("_law_k", 5)]) (g := (gName 5)) rfl sc__law_standing.nd (kPiL (K := K) rfl (pv 3)) (blkOk_by (own := [("_law_k", 5)]) (N := ["_law_row", "_law_web_here", "_law_way", "_law_found", "_law_turn", "_law_k", "_law_one", "_law_other"]) (sc := defScope s_law_standing) (by decide +kernel)) (fun _ _ _ _ _ => (pg_name (i := 5) sc__law_standing.nd rfl (Or.inl rfl))) (fun _ _ _ _ _ => (pts_one (pt_cmpR op_eq (pe_call (ok__law_taken T) (hr.mono (by decide)) (by rfl) T.g__law_taken T.F__law_taken.kp T.b__law_taken .nil pass0 (pa_cons (pv 0) (pa_cons pe_int pa_nil))) pe_int (nomark _)))) (fun _ _ _ _ _ => (pv 5))))) pss_nil)
      (pss_cons (ps_for PassesOwn.never rfl (pi_range1 (by rfl) T.z_range (pa_cons (pe_ifExp (pt_cmpR op_eq (pv 2) pe_int (nomark _)) (pe_ix (kIxT (K := K) rfl) (pv 1) pe_int (fun _ _ => rfl)) pe_int) pa_nil)) (pg_name (i := 4) sc__law_standing.nd rfl (Or.inl rfl)) (pss_one (ps_set (i := 3) sc__law_standing.nd rfl (Or.inr rfl) (pe_callB (kSortedSet (w := w) rfl rfl) (by rfl) T.z_sorted (by decide +kernel) (pa_cons (pe_callTy (kSetI (K := K) (w := w) rfl rfl rfl) (by rfl) T.z_set (by decide +kernel) (pa_cons (pe_op op_cat (pv 3) (pe_lc (own := [("_law_one", 6), ("_law_other", 7)]) (g := (gTup K 2 (gCons (gName 6) (gCons (gName 7) gNil)))) rfl sc__law_standing.nd (kPiT (K := K) rfl (pe_ix (kIxT (K := K) rfl) (pv 1) pe_int (fun _ _ => rfl))) (blkOk_by (own := [("_law_one", 6), ("_law_other", 7)]) (N := ["_law_row", "_law_web_here", "_law_way", "_law_found", "_law_turn", "_law_k", "_law_one", "_law_other"]) (sc := defScope s_law_standing) (by decide +kernel)) (fun _ _ _ _ _ => (kPgT (K := K) rfl rfl (pgs_cons (pg_name (i := 6) sc__law_standing.nd rfl (Or.inl rfl)) (pgs_cons (pg_name (i := 7) sc__law_standing.nd rfl (Or.inl rfl)) pgs_nil)))) (fun _ _ _ _ _ => (pts_one (pt_cmpR (kIn (K := K) rfl) (pv 6) (pv 3) (by rfl)))) (fun _ _ _ _ _ => (pv 7)))) pa_nil)) pa_nil)))))
      (pss_one (ps_ret (pe_callTy (kTuple (K := K) rfl) (by rfl) T.z_tuple (by decide +kernel) (pa_cons (pv 3) pa_nil))))))), ?_⟩
  refine evr_taken (i := 0) R rfl (fun H1 => evp_c) (by decide) (by decide) H (Ey.refl _) R.cell _ fun v1 H1 y1 c1 ⟨wy, w0, w1, hx⟩ => ?_
  subst hx
  have web1' := IsWeb.stay (R.cell.tup y1) hweb
  refine lc_rr (n := n) c1 (web0 (evp_var rfl web1')) (by omega) (fun _ => rfl) (fun _ => rfl) (fun k => er_zero (evr_taken (i := 0) (m := 2) (R.go y1 c1) rfl (fun H1 => evp_c) (by decide) (by decide))) _ fun b m H2 nb hb S y2 c2 => ?_
  refine ⟨by show 2 ≤ sizeLine; rw [sizeLine_eq]; decide, fun tp htp => ?_⟩
  refine ⟨tp, _, rfl, SqT.of upd_same, rfl, _, _, rfl, _, _, rfl, rfl, ?_⟩
  have y02 := y1.trans y2
  have eN := Ex.new (o := .tup [.int wy, .ref b]) htp
  have y03 := y02.trans (Ex.y eN)
  refine q_mid (fun σ' H4 => ∃ b m, σ' = [some (.ref r), some v, some (.int wy), some (.ref b), none, none, none, none] ∧ Ey [r] H H4 ∧ Cell a r H4 ∧ H4 b = some (.lst (m.map V.int)) ∧ Sd n m) (fun σ' H4 ⟨b, m, hσ, y4, c4, hb4, S4⟩ => ?_) (eq_i (evp_var (P := IsI wy) rfl rfl) evp_i) (fun _ H4 e4 fin => ?_) (fun _ H4 e4 => ⟨b, m, rfl, y03.trans (Ex.y e4), (c2.ex eN).ex e4, e4 _ _ (eN _ _ hb), S⟩)
  · refine lc_rl (n := n) (i0 := 3) ((c2.ex eN).ex e4) rfl nb (e4 _ _ (eN _ _ hb)) S (by omega) (fun _ => rfl) (fun _ => rfl) (fun x => er_zero (evr_taken (i := 0) (m := 2) (R.go (y03.trans (Ex.y e4)) ((c2.ex eN).ex e4)) rfl (fun H1 => evp_c) (by decide) (by decide))) _ fun b m H5 nb hb S y5 c5 => fin _ _ ⟨b, m, rfl, (y03.trans (Ex.y e4)).trans y5, c5, hb, S⟩
  · subst hσ
    have t4 := R.cell.tup y4
    have web4 := IsWeb.stay t4 hweb
    refine q_forR1 (n := if wy = 1 then (n : Int) else 0) (ea_cons (ev_of (evp_if (P := IsI (if wy = 1 then (n : Int) else 0)) (eq_i (evp_var (P := IsI wy) rfl rfl) evp_i) (fun c => ?_) fun c => ?_)) ea_nil) (by split <;> omega) (fun i σ' H' => ∃ v5 x m, σ' = [some (.ref r), some v, some (.int wy), some v5, x, none, none, none] ∧ Ex H4 H' ∧ IsLs IsI m v5 H' ∧ Sd n m) (fun H5 e5 => ⟨.ref b, none, m, rfl, e5, ls_of ⟨b, rfl, e5 _ _ hb4⟩, S4⟩) (fun i σ' H' _ ⟨v5, x, m, hσ, e5, hm, Sm⟩ => ?_) fun σ' H' ⟨v5, x, m, hσ, e5, hm, Sm⟩ => ?_
    · rw [if_pos (of_decide_eq_true c)]
      exact web0 (evp_var rfl web4)
    · rw [if_neg (of_decide_eq_false c)]
      exact evp_i
    · subst hσ
      have ml := Sm.len
      have web5 := Mon.mono e5 web4
      have hl : ((A.filter fun e => decide (e.1 ∈ m)).map fun e => e.2).length ≤ 30 := by
        rw [List.length_map]
        have := List.length_filter_le (fun e : Int × Int => decide (e.1 ∈ m)) A
        omega
      refine sP_asg (P := IsLs IsI ((rng n).filter fun k => decide (k ∈ m ++ ((A.filter fun e => decide (e.1 ∈ m)).map fun e => e.2)))) (sorted_set (cat_l (R := IsI) (evp_var rfl hm) (lcT (R := IsAr) (S := IsI) (fun e => decide (e.1 ∈ m)) (fun e => e.2) _ (web1 (evp_var rfl web5)) (by omega) tg_pair (fun _ _ => rfl) (fun e _ y H6 e6 hy => in_l (evp_var rfl rfl) (evp_li (vr e6 hm rfl))) (fun e _ _ y H6 e6 hy => evp_var rfl rfl)) (by omega)) (by rw [List.length_append]; omega) ((rng_asc n).filter _) fun k => ?_) fun v6 H6 e6 h6 => ⟨v6, _, _, rfl, e5.trans e6, h6, sd_rng _⟩
      rw [List.mem_filter, mem_rng, decide_eq_true_eq]
      refine ⟨fun h => h.2, fun h => ⟨?_, h⟩⟩
      rcases List.mem_append.mp h with h | h
      · exact Sm.bd k h
      · obtain ⟨e, he, rfl⟩ := List.mem_map.mp h
        have := W.bd e (List.mem_filter.mp he).1
        omega
    · subst hσ
      exact sP_ret (evp_ti (tuple_l (evp_var rfl hm))) fun u H6 e6 hu => q m u H6 Sm hu (t4.trans (Ex.t (e5.trans e6)))
end
end LDW

/-! The law's own doors. -/
namespace LDW
open PySem PySem.Spec PyProof.Rows L2 Evl LD
section
variable {P : Program} {w : World} {K : PySem.W.Frag} {mg : Str → Option Value} {base : Heap}
section
variable {σ : L2.St} {H : Hp} {te ta tb : TE} {m : Int}
theorem one_l (ha : EvP ta σ H (IsI m)) : EvP (tLst (tCons ta tNil)) σ H (IsLs IsI [m]) := (evp_lst (eap_cons ha eap_nil) (by show 1 ≤ 100000; decide)).imp fun v H1 _ ⟨a, xs, h1, h2, H0, e, hv⟩ => by
  obtain ⟨x, rfl, h3⟩ := all1 hv
  exact ⟨a, _, h1, h2, .cons h3 .nil⟩
theorem ar_e {x y : Int} {tx ty : TE} (h1 : EvP tx σ H (IsI x)) (h2 : EvP ty σ H (IsI y)) : EvP (tTup (tCons tx (tCons ty tNil))) σ H (IsAr (x, y)) := (evp_tup (eap_cons h1 (eap_cons h2 eap_nil)) (by show 2 ≤ 100000; decide)).imp fun v H5 _ ⟨b, xs, z1, z2, H0, _, hv⟩ => by
  obtain ⟨x1, x2, rfl, p1, p2⟩ := all2 hv
  cases p1
  cases p2
  exact ⟨b, z1, z2⟩
def encA (e : Int × Int) : PyData := .tuple [.int e.1, .int e.2]
theorem encA_eqv (e f : Int × Int) : PyData.eqv (encA e) (encA f) = decide (e = f) := by
  obtain ⟨a, b⟩ := e
  obtain ⟨c, d⟩ := f
  have h : PyData.eqv (encA (a, b)) (encA (c, d)) = ((a == c) && (b == d)) := by
    simp [encA, PyData.eqv, PyData.eqvAll]
  rw [h, Bool.eq_iff_iff]
  simp
theorem shaped_tup {α : Type} {R : α → VP} {enc : α → PyData} [Dat R enc] (l : List α) : SeqAt.shaped (.tuple (l.map enc)) = true := by
  have h1 := dep_all (enc := enc) (n := 10) (Dat.dep R) l
  have h2 : PyData.depth (.tuple (l.map enc)) ≤ 64 := by
    simp only [PyData.depth]
    omega
  show (PyData.canLay0 (.tuple (l.map enc)) && decide (PyData.depth (.tuple (l.map enc)) ≤ 64)) = true
  rw [Bool.and_eq_true]
  exact ⟨by simp only [PyData.canLay0]; exact lay_all (Dat.lay R) l, decide_eq_true h2⟩
theorem any_eqv (e : Int × Int) : ∀ A : LD.Ar, ((A.map encA).any fun z => PyData.eqv z (encA e)) = decide (e ∈ A)
  | [] => rfl
  | f :: A => by
    rw [List.map_cons, List.any_cons, any_eqv e A, encA_eqv, Bool.eq_iff_iff, Bool.or_eq_true, decide_eq_true_eq, decide_eq_true_eq, decide_eq_true_eq, List.mem_cons]
    exact ⟨fun h => h.elim (fun z => .inl z.symm) .inr, fun h => h.elim (fun z => .inl z.symm) .inr⟩
theorem in_u {e : Int × Int} {A : LD.Ar} (ha : EvP ta σ H (IsAr e)) (hb : EvP tb σ H (IsTs IsAr A)) : EvT (tTest (tOp (rInU K) ta tb)) σ H (decide (e ∈ A)) := evt_op ha hb fun x y H1 _ h1 ⟨b, ys, hy, h2, h3⟩ Q q => by
  have s1 := shaped_tup (R := IsI) (enc := PyData.int) [e.1, e.2]
  refine ⟨encA e, A.map encA, Dat.dp (R := IsAr) h1, ?_, s1, shaped_tup (R := IsAr) A, by rw [any_eqv]; exact q⟩
  rw [hy]
  exact .tup (SqT.of h2) (dpAll_of (R := IsAr) h3)
end
theorem ok__law_changed (T : Txt K mg) : FnOk P w K mg base CX0 1 T.a__law_changed T.d__law_changed ["_law_opened", "_law_door"] sp_changed := by
  refine okP T.F__law_changed sc__law_changed (fun _ => rfl) fun cdv Ar outer s H E d vs hr hd hv => ?_
  obtain ⟨v0, v1, rfl, h0, h1⟩ := all2 hv
  obtain ⟨n, O, k⟩ := d
  obtain ⟨n6, S, k0, k1⟩ := hd
  simp only at h0 h1 S n6 k0 k1
  have hl := S.len
  refine ⟨_, (pss_cons (ps_if (pt_cmpR (kIn (K := K) rfl) (pv 1) (pv 0) (by rfl)) (pss_one (ps_ret (pe_callTy (kTuple (K := K) rfl) (by rfl) T.z_tuple (by decide +kernel) (pa_cons (pe_lc (own := [("_law_k", 2)]) (g := (gName 2)) rfl sc__law_changed.nd (kPiT (K := K) rfl (pv 0)) (blkOk_by (own := [("_law_k", 2)]) (N := ["_law_opened", "_law_door", "_law_k"]) (sc := defScope s_law_changed) (by decide +kernel)) (fun _ _ _ _ _ => (pg_name (i := 2) sc__law_changed.nd rfl (Or.inl rfl))) (fun _ _ _ _ _ => (pts_one (pt_cmpR op_ne (pv 2) (pv 1) (nomark _)))) (fun _ _ _ _ _ => (pv 2))) pa_nil)))) pss_nil)
      (pss_one (ps_ret (pe_callTy (kTuple (K := K) rfl) (by rfl) T.z_tuple (by decide +kernel) (pa_cons (pe_callB (kSortedI (K := K) rfl) (by rfl) T.z_sorted (by decide +kernel) (pa_cons (pe_op op_cat (pe_callTy (kList (K := K) rfl) (by rfl) T.z_list (by decide +kernel) (pa_cons (pv 0) pa_nil)) (pe_lst (pa_cons (pv 1) pa_nil))) pa_nil)) pa_nil))))), fun Q q => ?_⟩
  refine q_when (in_t (evp_var rfl h1) (evp_var rfl h0)) (fun c H1 e1 => ?_) fun c H1 e1 => ?_
  · refine sP_ret (evp_ti (tuple_l (lcT (R := IsI) (S := IsI) (fun x => !decide (x = k)) (fun x => x) _ (evp_tis (vr e1 h0 rfl)) (by omega) tg_name (fun _ _ => rfl) (fun x _ y H2 e2 hy => ne_i (evp_var rfl hy) (vr (e1.trans e2) h1 rfl)) (fun x _ _ y H2 e2 hy => evp_var rfl hy)))) fun v H2 e2 hv => q v H2 (e1.trans e2) ?_
    rw [map_id, chg_del S (of_decide_eq_true c)] at hv
    exact hv
  · refine sP_ret (evp_ti (tuple_l (sorted_i (cat_l (list_t (evp_tis (vr e1 h0 rfl))) (one_l (vr e1 h1 rfl)) ?_) fun l' p s => chg_ins S ⟨k0, k1⟩ (of_decide_eq_false c) p s))) fun v H2 e2 hv => q v H2 (e1.trans e2) hv
    simp only [List.length_cons, List.length_nil]
    omega
theorem emp_iff {α : Type} {p : α → Bool} {l : List α} : (l.filter p).isEmpty = true ↔ ∀ x ∈ l, p x = false := by
  rw [List.isEmpty_iff, List.filter_eq_nil_iff]
  exact ⟨fun h x hx => by simpa using h x hx, fun h x hx => by rw [h x hx]; exact Bool.false_ne_true⟩
theorem ok__law_open (T : Txt K mg) : FnOk P w K mg base CX0 1 T.a__law_open T.d__law_open ["_law_web_here", "_law_opened"] sp_open_in := by
  refine okWO T.F__law_open sc__law_open rfl fun cdv Ar outer s H E n A O v0 v1 hr W S h0 h1 => ?_
  refine ⟨_, (pss_one (ps_ret (pe_lc (own := [("_law_k", 2)]) (g := (gName 2)) rfl sc__law_open.nd (pi_range1 (by rfl) T.z_range (pa_cons (pe_ix (kIxT (K := K) rfl) (pv 0) pe_int (fun _ _ => rfl)) pa_nil)) (blkOk_by (own := [("_law_k", 2)]) (N := ["_law_web_here", "_law_opened", "_law_k", "_law_one"]) (sc := defScope s_law_open) (by decide +kernel)) (fun _ _ _ _ _ => (pg_name (i := 2) sc__law_open.nd rfl (Or.inr rfl))) (fun _ _ _ _ _ => (pts_one (PW.pt (pw_and (pt_cmpR (kNotIn (K := K) rfl) (pv 2) (pv 1) (by rfl)) (pw_and1 (pt_cmpR (kEqD (K := K) rfl hr.units) (pe_lc (own := [("_law_one", 3)]) (g := (gName 3)) rfl sc__law_open.nd (kPiT (K := K) rfl (pv 1)) (blkOk_by (own := [("_law_one", 3)]) (by kernel_rfl)) (fun _ _ _ _ _ => (pg_name (i := 3) sc__law_open.nd rfl (Or.inl rfl))) (fun _ _ _ _ _ => (pts_one (pt_cmpR (kInU (K := K) rfl (room65 hr)) (pe_tup (pa_cons (pv 3) (pa_cons (pv 2) pa_nil))) (pe_ix (kIxT (K := K) rfl) (pv 0) pe_int (fun _ _ => rfl)) (by rfl)))) (fun _ _ _ _ _ => (pv 3))) (pe_lst pa_nil) (nomark _))))))) (fun _ _ _ _ _ => (pv 2))))), fun Q q => ?_⟩
  have ho := S.len
  have n6 := W.n6
  refine sP_ret (lcR (S := IsI) (fun k => !decide (k ∈ O) && (O.filter fun o => decide ((o, k) ∈ A)).isEmpty) (fun k => k) (web0 (evp_var rfl h0)) (by omega) (fun _ => rfl)
    (fun k k0 k1 H2 e2 => et_and (ni_t (evp_var rfl rfl) (vr e2 h1 rfl)) fun _ => eq_nil (evp_ls (lcT (R := IsI) (S := IsI) (fun o => decide ((o, k) ∈ A)) (fun o => o) _ (evp_tis (vr e2 h1 rfl)) (by omega) tg_name (fun _ _ => rfl) (fun o _ x H3 e3 hx => in_u (ar_e (evp_var rfl hx) (evp_var (P := IsI k) rfl rfl)) (web1 (vr (e2.trans e3) h0 rfl))) (fun o _ _ x H3 e3 hx => evp_var rfl hx)) map_id)) (fun k k0 k1 _ H2 e2 => evp_var rfl rfl)) fun v H2 e2 hv => q v H2 e2 (hv.of ?_)
  rw [map_id]
  refine List.filter_congr fun k _ => ?_
  rw [Bool.eq_iff_iff, Bool.and_eq_true, emp_iff, decide_eq_true_eq, Bool.not_eq_true', decide_eq_false_iff_not]
  unfold CanO
  refine and_congr_right fun _ => ⟨fun h e he hk ho => ?_, fun h x hx => decide_eq_false fun m => h _ m rfl hx⟩
  have := of_decide_eq_false (h e.1 ho)
  exact this (by rw [← hk]; exact he)
theorem ok__law_shut (T : Txt K mg) : FnOk P w K mg base CX0 1 T.a__law_shut T.d__law_shut ["_law_web_here", "_law_opened"] sp_shut_in := by
  refine okWO T.F__law_shut sc__law_shut rfl fun cdv Ar outer s H E n A O v0 v1 hr W S h0 h1 => ?_
  refine ⟨_, (pss_one (ps_ret (pe_lc (own := [("_law_k", 2)]) (g := (gName 2)) rfl sc__law_shut.nd (kPiT (K := K) rfl (pv 1)) (blkOk_by (own := [("_law_k", 2)]) (N := ["_law_web_here", "_law_opened", "_law_k", "_law_j"]) (sc := defScope s_law_shut) (by decide +kernel)) (fun _ _ _ _ _ => (pg_name (i := 2) sc__law_shut.nd rfl (Or.inr rfl))) (fun _ _ _ _ _ => (pts_one (pt_cmpR (kEqD (K := K) rfl hr.units) (pe_lc (own := [("_law_j", 3)]) (g := (gName 3)) rfl sc__law_shut.nd (pi_range1 (by rfl) T.z_range (pa_cons (pe_ix (kIxT (K := K) rfl) (pv 0) pe_int (fun _ _ => rfl)) pa_nil)) (blkOk_by (own := [("_law_j", 3)]) (by kernel_rfl)) (fun _ _ _ _ _ => (pg_name (i := 3) sc__law_shut.nd rfl (Or.inl rfl))) (fun _ _ _ _ _ => (pts_one (PW.pt (pw_and (pt_cmpR (kNotIn (K := K) rfl) (pv 3) (pv 1) (by rfl)) (pw_and1 (pt_cmpR (kInU (K := K) rfl (room65 hr)) (pe_tup (pa_cons (pv 2) (pa_cons (pv 3) pa_nil))) (pe_ix (kIxT (K := K) rfl) (pv 0) pe_int (fun _ _ => rfl)) (by rfl))))))) (fun _ _ _ _ _ => (pv 3))) (pe_lst pa_nil) (nomark _)))) (fun _ _ _ _ _ => (pv 2))))), fun Q q => ?_⟩
  have ho := S.len
  have n6 := W.n6
  refine sP_ret (lcT (R := IsI) (S := IsI) (fun k => ((rng n).filter fun j => !decide (j ∈ O) && decide ((k, j) ∈ A)).isEmpty) (fun k => k) _ (evp_tis (evp_var rfl h1)) (by omega) tg_name (fun _ _ => rfl)
    (fun k _ x H2 e2 hx => eq_nil (evp_ls (lcR (S := IsI) (fun j => !decide (j ∈ O) && decide ((k, j) ∈ A)) (fun o => o) (web0 (vr e2 h0 rfl)) (by omega) (fun _ => rfl) (fun j _ _ H3 e3 => et_and (ni_t (evp_var rfl rfl) (vr (e2.trans e3) h1 rfl)) fun _ => in_u (ar_e (vr e3 hx rfl) (evp_var (P := IsI j) rfl rfl)) (web1 (vr (e2.trans e3) h0 rfl))) (fun j _ _ _ H3 e3 => evp_var rfl rfl)) map_id)) (fun k _ _ x H2 e2 hx => evp_var rfl hx)) fun v H2 e2 hv => q v H2 e2 (hv.of ?_)
  rw [map_id]
  refine Asc.ext (S.asc.filter _) (sd_rng _).asc fun k => ?_
  rw [List.mem_filter, List.mem_filter, emp_iff, decide_eq_true_eq]
  unfold CanS
  constructor
  · intro ⟨h1, h2⟩
    refine ⟨mem_rng.mpr (S.bd k h1), h1, fun e he hk => ?_⟩
    by_cases c : e.2 ∈ O
    · exact c
    · have b := W.bd e he
      have := h2 e.2 (mem_rng.mpr ⟨b.2.2.1, b.2.2.2.1⟩)
      rw [decide_eq_false c, ← hk, decide_eq_true he] at this
      exact Bool.noConfusion this
  · intro ⟨_, h1, h2⟩
    refine ⟨h1, fun j _ => ?_⟩
    by_cases c : (k, j) ∈ A
    · rw [decide_eq_true (h2 _ c rfl)]
      rfl
    · rw [decide_eq_false c, Bool.and_false]
theorem kt_e {σ : L2.St} {H : Hp} {tx ty : TE} {p : Int × List Int} (h1 : EvP tx σ H (IsI p.1)) (h2 : EvP ty σ H (IsTI p.2)) : EvP (tTup (tCons tx (tCons ty tNil))) σ H (IsKT p) := (evp_tup (eap_cons h1 (eap_cons h2 eap_nil)) (by show 2 ≤ 100000; decide)).imp fun v H5 _ ⟨b, xs, z1, z2, H0, e, hv⟩ => by
  obtain ⟨x1, x2, rfl, p1, p2⟩ := all2 hv
  cases p1
  exact ⟨b, x2, z1, z2, Mon.mono e p2⟩
def aft (n : Nat) (A : LD.Ar) (O : List Int) : List (Int × List Int) := (doab n A O).map fun k => (k, chg n O k)
def sp_after : Sp := spN (δ := Nat × LD.Ar × List Int) (fun d => [IsWeb d.1 d.2.1, IsTI d.2.2]) (fun d => Wb d.1 d.2.1 ∧ Sd d.1 d.2.2) (fun d => IsLs IsKT (aft d.1 d.2.1 d.2.2))
theorem call_lchanged {σ : L2.St} {H : Hp} {ta tb : TE} {n : Nat} {O : List Int} {k : Int} {E : XK} (h6 : n ≤ 6) (S : Sd n O) (hk : 0 ≤ k ∧ k < n) (ha : EvP ta σ H (IsTI O)) (hb : EvP tb σ H (IsI k)) : EvP (tCall sp_changed [] E (tCons ta (tCons tb tNil))) σ H (IsTI (chg n O k)) := call_changed h6 S hk ha hb
theorem ok__law_after (T : Txt K mg) : FnOk P w K mg base CX0 2 T.a__law_after T.d__law_after ["_law_web_here", "_law_opened"] sp_after := by
  refine okN T.F__law_after sc__law_after (fun _ => rfl) fun cdv Ar outer s H E d vs hr hd hv => ?_
  obtain ⟨v0, v1, rfl, h0, h1⟩ := all2 hv
  obtain ⟨n, A, O⟩ := d
  obtain ⟨W, S⟩ := hd
  simp only at h0 h1 W S
  have n6 := W.n6
  refine ⟨_, (pss_one (ps_ret (pe_lc (own := [("_law_k", 2)]) (g := (gName 2)) rfl sc__law_after.nd (kPiL (K := K) rfl (pe_callB (kSortedI (K := K) rfl) (by rfl) T.z_sorted (by decide +kernel) (pa_cons (pe_op op_cat (pe_call (ok__law_open T) (hr.mono (by decide)) (by rfl) T.g__law_open T.F__law_open.kp T.b__law_open .nil pass0 (pa_cons (pv 0) (pa_cons (pv 1) pa_nil))) (pe_call (ok__law_shut T) (hr.mono (by decide)) (by rfl) T.g__law_shut T.F__law_shut.kp T.b__law_shut .nil pass0 (pa_cons (pv 0) (pa_cons (pv 1) pa_nil)))) pa_nil))) (blkOk_by (own := [("_law_k", 2)]) (N := ["_law_web_here", "_law_opened", "_law_k"]) (sc := defScope s_law_after) (by decide +kernel)) (fun _ _ _ _ _ => (pg_name (i := 2) sc__law_after.nd rfl (Or.inl rfl))) (fun _ _ _ _ _ => pts_nil) (fun _ _ _ _ _ => (pe_tup (pa_cons (pv 2) (pa_cons (pe_call (ok__law_changed T) (hr.mono (by decide)) (by rfl) T.g__law_changed T.F__law_changed.kp T.b__law_changed .nil pass0 (pa_cons (pv 1) (pa_cons (pv 2) pa_nil))) pa_nil))))))), fun Q q => ?_⟩
  have f1 := fil_len n6 fun k => decide (CanO A O k)
  have f2 := fil_len n6 fun k => decide (CanS A O k)
  have f3 := fil_len n6 fun k => decide (Can A O k)
  refine lcLN (R := IsI) (S := IsKT) (fun _ => true) (fun k => (k, chg n O k)) _ (sorted_i (m := doab n A O) (cat_l (R := IsI) (callWO W S (evp_var rfl h0) (evp_var rfl h1)) (callWO W S (evp_var rfl h0) (evp_var rfl h1)) (by omega)) fun l p s => doab_of p s) (by show ((rng n).filter _).length ≤ 40000; omega) tg_name (fun _ _ => rfl) (fun _ _ _ _ _ _ => yes) (fun k hk _ x H1 e1 hx => kt_e (p := (k, chg n O k)) (evp_var rfl hx) (call_changed n6 S (mem_doab.mp hk).1 (vr e1 h1 rfl) (evp_var rfl hx))) H (Ex.refl _) _ fun v H1 e1 hv nw => q v H1 e1 ?_ nw
  rw [fil_true] at hv
  exact hv
theorem call_after {σ : L2.St} {H : Hp} {ta tb : TE} {n : Nat} {A : LD.Ar} {O : List Int} {E : XK} (W : Wb n A) (S : Sd n O) (ha : EvP ta σ H (IsWeb n A)) (hb : EvP tb σ H (IsTI O)) : EvN (tCall sp_after [] E (tCons ta (tCons tb tNil))) σ H (IsLs IsKT (aft n A O)) :=
  evn_call (δ := Nat × LD.Ar × List Int) (n, A, O) ⟨W, S⟩ (eap_cons ha (eap_cons hb eap_nil))
theorem ok__law_frozen (T : Txt K mg) : FnOk P w K mg base CX0 1 T.a__law_frozen T.d__law_frozen ["_law_web_here", "_law_opened"] sp_frozen_in := by
  refine okWO T.F__law_frozen sc__law_frozen rfl fun cdv Ar outer s H E n A O v0 v1 hr W S h0 h1 => ?_
  refine ⟨_, (pss_cons (ps_set (i := 2) sc__law_frozen.nd rfl (Or.inr rfl) (pe_lc (own := [("_law_arrow", 3)]) (g := (gName 3)) rfl sc__law_frozen.nd (kPiT (K := K) rfl (pe_ix (kIxT (K := K) rfl) (pv 0) pe_int (fun _ _ => rfl))) (blkOk_by (own := [("_law_arrow", 3)]) (N := ["_law_web_here", "_law_opened", "_law_some", "_law_arrow", "_law_k"]) (sc := defScope s_law_frozen) (by decide +kernel)) (fun _ _ _ _ _ => (pg_name (i := 3) sc__law_frozen.nd rfl (Or.inl rfl))) (fun _ _ _ _ _ => (pts_one (PW.pt (pw_and (pt_cmpR (kIn (K := K) rfl) (pe_ix (kIxT (K := K) rfl) (pv 3) pe_int (fun _ _ => rfl)) (pv 1) (by rfl)) (pw_and1 (pt_cmpR (kNotIn (K := K) rfl) (pe_ix (kIxT (K := K) rfl) (pv 3) pe_int (fun _ _ => rfl)) (pv 1) (by rfl))))))) (fun _ _ _ _ _ => (pv 3))))
      (pss_one (ps_ret (pe_lc (own := [("_law_k", 4)]) (g := (gName 4)) rfl sc__law_frozen.nd (pi_range1 (by rfl) T.z_range (pa_cons (pe_ix (kIxT (K := K) rfl) (pv 0) pe_int (fun _ _ => rfl)) pa_nil)) (blkOk_by (own := [("_law_k", 4)]) (N := ["_law_web_here", "_law_opened", "_law_some", "_law_arrow", "_law_k"]) (sc := defScope s_law_frozen) (by decide +kernel)) (fun _ _ _ _ _ => (pg_name (i := 4) sc__law_frozen.nd rfl (Or.inr rfl))) (fun _ _ _ _ _ => (pts_one (pt_cmpR (kNeD (K := K) rfl hr.units) (pe_lc (own := [("_law_arrow", 3)]) (g := (gName 3)) rfl sc__law_frozen.nd (kPiL (K := K) rfl (pv 2)) (blkOk_by (own := [("_law_arrow", 3)]) (by kernel_rfl)) (fun _ _ _ _ _ => (pg_name (i := 3) sc__law_frozen.nd rfl (Or.inl rfl))) (fun _ _ _ _ _ => (pts_one (pt_cmpR (kIn (K := K) rfl) (pv 4) (pv 3) (by rfl)))) (fun _ _ _ _ _ => (pv 3))) (pe_lst pa_nil) (nomark _)))) (fun _ _ _ _ _ => (pv 4)))))), fun Q q => ?_⟩
  have hz := W.len
  have hp := prs_len (O := O) W
  have n6 := W.n6
  refine qP_asg (P := IsLs IsAr (prs A O)) (evp_ls (lcT (R := IsAr) (S := IsAr) (fun e => decide (e.1 ∈ O) && !decide (e.2 ∈ O)) (fun e => e) _ (web1 (evp_var rfl h0)) (by omega) tg_name (fun _ _ => rfl)
    (fun e _ x H2 e2 hx => et_and (in_t (ar0 (evp_var rfl hx)) (vr e2 h1 rfl)) fun _ => ni_t (ar1 (evp_var rfl hx)) (vr e2 h1 rfl)) (fun e _ hp x H2 e2 hx => evp_var rfl hx)) (by simp [prs])) fun vs H1 e1 hs => ?_
  refine sP_ret (lcR (S := IsI) (fun k => !((prs A O).filter fun e => decide (k ∈ [e.1, e.2])).isEmpty) (fun k => k) (web0 (vr e1 h0 rfl)) (by omega) (fun _ => rfl)
    (fun k k0 k1 H2 e2 => ne_nil (evp_ls (lcL (R := IsAr) (S := IsAr) (fun e => decide (k ∈ [e.1, e.2])) (fun e => e) _ (vr e2 hs rfl) (by omega) tg_name (fun _ _ => rfl) (fun e _ x H3 e3 hx => in_t (evp_var (P := IsI k) rfl rfl) ((evp_var rfl hx).imp fun v H4 _ z => ti_of (ar_ts z))) (fun e _ _ x H3 e3 hx => evp_var rfl hx)) (by simp))) (fun k k0 k1 _ H2 e2 => evp_var rfl rfl)) fun v H2 e2 hv => q v H2 (e1.trans e2) (hv.of ?_)
  rw [map_id]
  unfold frz
  refine List.filter_congr fun k _ => ?_
  rw [Bool.eq_iff_iff, decide_eq_true_eq]
  unfold Fz prs
  constructor
  · intro h
    have ne : ((A.filter fun e => decide (e.1 ∈ O) && !decide (e.2 ∈ O)).filter fun e => decide (k ∈ [e.1, e.2])) ≠ [] := fun z => by rw [z] at h; exact Bool.noConfusion h
    obtain ⟨e, he⟩ := List.exists_mem_of_ne_nil _ ne
    rw [List.mem_filter, List.mem_filter] at he
    obtain ⟨⟨h1, h2⟩, h3⟩ := he
    rw [Bool.and_eq_true, decide_eq_true_eq, Bool.not_eq_true', decide_eq_false_iff_not] at h2
    have h3' := of_decide_eq_true h3
    simp only [List.mem_cons, List.not_mem_nil, or_false] at h3'
    exact ⟨e, h1, h2.1, h2.2, h3'⟩
  · rintro ⟨e, h1, h2, h3, h4⟩
    have m : e ∈ ((A.filter fun e => decide (e.1 ∈ O) && !decide (e.2 ∈ O)).filter fun e => decide (k ∈ [e.1, e.2])) := by
      rw [List.mem_filter, List.mem_filter]
      refine ⟨⟨h1, by rw [decide_eq_true h2, decide_eq_false h3]; rfl⟩, decide_eq_true ?_⟩
      simp only [List.mem_cons, List.not_mem_nil, or_false]
      exact h4
    cases c : ((A.filter fun e => decide (e.1 ∈ O) && !decide (e.2 ∈ O)).filter fun e => decide (k ∈ [e.1, e.2])) with
    | nil => rw [c] at m; exact absurd m (by simp)
    | cons a l => rfl
end
end LDW

/-! The law's search. -/
namespace LDW
open PySem PySem.Spec PyProof.Rows L2 Evl LD
/-! ### dicts of standings -/
def kOf (T : List Int) : List Key := T.map Sum.inl
def enK (kv : KV) : List (List Key × V) := kv.map fun p => (kOf p.1, V.int p.2)
theorem kOf_map (T : List Int) : (kOf T).map kV = T.map V.int := by
  unfold kOf
  rw [List.map_map]
  rfl
theorem kOf_inj : ∀ {S T : List Int}, kOf S = kOf T → S = T
  | [], [], _ => rfl
  | [], _ :: _, h => by simp [kOf] at h
  | _ :: _, [], h => by simp [kOf] at h
  | a :: S, b :: T, h => by
    simp only [kOf, List.map_cons, List.cons.injEq] at h
    have h1 : a = b := Sum.inl.inj h.1
    rw [h1, kOf_inj (S := S) (T := T) h.2]
theorem enK_none {kv : KV} {T : List Int} (h : ¬ T ∈ kv.map Prod.fst) : valV (enK kv) (kOf T) = none := by
  induction kv with
  | nil => rfl
  | cons p kv ih =>
    rw [List.map_cons, List.mem_cons, not_or] at h
    show valV ((kOf p.1, V.int p.2) :: enK kv) (kOf T) = none
    rw [valV_neg (p := (kOf p.1, V.int p.2)) (fun z => h.1 (kOf_inj z).symm)]
    exact ih h.2
theorem enK_some {kv : KV} {T : List Int} (h : T ∈ kv.map Prod.fst) : ∃ v, (T, v) ∈ kv ∧ valV (enK kv) (kOf T) = some (.int v) := by
  induction kv with
  | nil => exact absurd h (by simp)
  | cons p kv ih =>
    by_cases e : p.1 = T
    · subst e
      exact ⟨p.2, List.mem_cons_self, valV_pos (p := (kOf p.1, V.int p.2)) rfl⟩
    · rw [List.map_cons, List.mem_cons] at h
      obtain ⟨v, h1, h2⟩ := ih (h.resolve_left fun z => e z.symm)
      refine ⟨v, List.mem_cons_of_mem _ h1, ?_⟩
      show valV ((kOf p.1, V.int p.2) :: enK kv) (kOf T) = _
      rw [valV_neg (p := (kOf p.1, V.int p.2)) (fun z => e (kOf_inj z))]
      exact h2
theorem enK_put {kv : KV} {T : List Int} {v : Int} (h : ¬ T ∈ kv.map Prod.fst) : putK (enK kv) (kOf T) (.int v) = enK (kv ++ [(T, v)]) := by
  rw [putK_new _ (enK_none h)]
  unfold enK
  rw [List.map_append]
  rfl
/-- a dict of what comes and how many doors differ -/
def IsKn (n : Nat) (A : LD.Ar) (O : List Int) : VP := fun v H => ∃ d kv, v = .ref d ∧ H d = some (.dT (enK kv)) ∧ All n A O kv
instance (n : Nat) (A : LD.Ar) (O : List Int) : Mon (IsKn n A O) := ⟨fun e ⟨d, kv, h1, h2, h3⟩ => ⟨d, kv, h1, e _ _ h2, h3⟩⟩
section
variable {K : PySem.W.Frag} {σ : L2.St} {H : Hp} {ta : TA} {te tl : TE} {D : Ends} {tu tz : TS} {j : Nat}
/-- over a list in a slot, while what S names is changed -/
theorem q_forV {α : Type} {src : List α} {R : α → VP} [Tup R] {a : Addr} {xs : List V} {i0 : Nat} (S : List Addr) (hS : ¬ a ∈ S) (hv : σ[i0]? = some (some (.ref a))) (ha : H a = some (.lst xs)) (pr : Paired (fun x b => R b x H) xs src) (Pv : Nat → L2.St → Hp → Prop) (hx : ∀ i σ' H', Pv i σ' H' → Ey S H H' ∧ ExT H H') (h0 : Pv 0 σ H)
    (hs : ∀ i b x σ' H', src[i]? = some b → R b x H' → Pv i σ' H' → tu { D with nx := Pv (i + 1), ct := Pv (i + 1), bk := tz D } (σ'.set j (some x)) H') (hd : ∀ σ' H', Pv src.length σ' H' → tz D σ' H') :
    tSeq (tFor (iList K (tVar i0)) (gName j) tu) tz D σ H :=
  ⟨_, hv, a, rfl, ⟨xs, SqL.of ha⟩, for_list (K := K) (a := a) (xs := xs) Pv h0 (fun i σ' H' _ p => SqL.of ((hx i σ' H' p).1 _ _ hS ha)) (fun i x σ' H' hi p => by
    obtain ⟨b, hb, rb⟩ := paired_at pr hi
    exact hs i b x σ' H' hb (Tup.stay (hx i σ' H' p).2 rb) p) (fun σ' H' p => hd σ' H' (by rw [pr.length] at p; exact p))⟩
/-- over a new list of doors and standings -/
theorem s_forK {l : Nat} {src : List (Int × List Int)} (S : List Addr) (hS : ∀ a ∈ S, H a ≠ none) (h : EvN tl σ H (IsLs IsKT src)) (Pv : Hp → Nat → L2.St → Hp → Prop) (hx : ∀ H1 i σ' H', Pv H1 i σ' H' → Ey S H1 H' ∧ ExT H1 H') (h0 : ∀ H1, Ex H H1 → Pv H1 0 σ H1)
    (hs : ∀ H1, Ex H H1 → ∀ i b x σ' H', src[i]? = some b → IsTI b.2 x H' → Pv H1 i σ' H' → tu { D with nx := Pv H1 (i + 1), ct := Pv H1 (i + 1), bk := D.nx } ((σ'.set j (some (.int b.1))).set l (some x)) H') (hd : ∀ H1 σ' H', Ex H H1 → Pv H1 src.length σ' H' → D.nx σ' H') :
    tFor (iList K tl) (gTup K 2 (gCons (gName j) (gCons (gName l) gNil))) tu D σ H :=
  h H (Ex.refl _) _ fun v H1 e ⟨a, xs, hv, ha, pr⟩ nw => ⟨a, hv, ⟨xs, SqL.of ha⟩, for_list (K := K) (a := a) (xs := xs) (Pv H1) (h0 H1 e) (fun i σ' H' _ p => SqL.of ((hx H1 i σ' H' p).1 _ _ (fun m => hS a m (nw a hv)) ha)) (fun i x σ' H' hi p => by
    obtain ⟨b, hb, rb⟩ := paired_at pr hi
    have rb' : IsKT b x H' := Tup.stay (hx H1 i σ' H' p).2 rb
    obtain ⟨t, y, z1, z2, z3⟩ := rb'
    exact ⟨t, _, z1, SqT.of z2, rfl, _, _, rfl, _, _, rfl, rfl, hs H1 e i b y σ' H' hb z3 p⟩) (fun σ' H' p => hd H1 σ' H' e (by rw [pr.length] at p; exact p))⟩
theorem gv_kn {d b : Addr} {kv : KV} {T : List Int} (hd : H d = some (.dT (enK kv))) (hb : H b = some (.tup (T.map V.int))) : DGet H d (.ref b) (valV (enK kv) (kOf T)) := DGet.t hd (by rw [kOf_map]; exact hb)
end
section
variable {P : Program} {w : World} {K : PySem.W.Frag} {mg : Str → Option Value} {base : Heap}
/-- what is known within a level -/
structure FrI (n : Nat) (A : LD.Ar) (O : List Int) (d : Nat) (H0 H1 : Hp) (dc Dm : Addr) (dn : List Int → Int → Prop) (H' : Hp) : Prop where
  x : Ex H0 H'
  y : Ey [dc, Dm] H1 H'
  t : ExT H1 H'
  k : ∃ kv mo acc, Lv n A O d kv mo dn ∧ H' dc = some (.dT (enK kv)) ∧ H' Dm = some (.lst acc) ∧ Paired (fun x b => IsTI b x H') acc mo
theorem FrI.ex {n : Nat} {A : LD.Ar} {O : List Int} {d : Nat} {H0 H1 H' H2 : Hp} {dc Dm : Addr} {dn : List Int → Int → Prop} (I : FrI n A O d H0 H1 dc Dm dn H') (e : Ex H' H2) : FrI n A O d H0 H1 dc Dm dn H2 := by
  obtain ⟨x, y, t, kv, mo, acc, L, h1, h2, h3⟩ := I
  exact ⟨x.trans e, y.trans (Ex.y e), t.trans (Ex.t e), kv, mo, acc, L, e _ _ h1, e _ _ h2, Paired.mapP h3 fun _ _ z => Mon.mono e z⟩
theorem FrI.weak {n : Nat} {A : LD.Ar} {O : List Int} {d : Nat} {H0 H1 H' : Hp} {dc Dm : Addr} {dn dn' : List Int → Int → Prop} (I : FrI n A O d H0 H1 dc Dm dn H') (h : ∀ S k, dn' S k → dn S k) : FrI n A O d H0 H1 dc Dm dn' H' := by
  obtain ⟨x, y, t, kv, mo, acc, L, h1, h2, h3⟩ := I
  exact ⟨x, y, t, kv, mo, acc, L.weak h, h1, h2, h3⟩
def sp_from : Sp := spWO fun n A O => IsKn n A O
theorem mem_take_more {α : Type} {l : List α} {i : Nat} {b x : α} (h : l[i]? = some b) : x ∈ l.take (i + 1) ↔ x ∈ l.take i ∨ x = b := by
  rw [List.take_add_one, h]
  simp
theorem ok__law_from (T : Txt K mg) : FnOk P w K mg base CX0 3 T.a__law_from T.d__law_from ["_law_web_here", "_law_opened"] sp_from := by
  refine okWO T.F__law_from sc__law_from rfl fun cdv Ar outer s H E n A O v0 v1 hr W S h0 h1 => ?_
  refine ⟨_, (pss_cons (ps_par (i := 2) (j := 3) rfl sc__law_from.nd rfl rfl (by decide) rfl rfl (pa_cons (pe_dispT hr.units0 (pv 1) pe_int) (pa_cons (pe_lst (pa_cons (pv 1) pa_nil)) pa_nil)) (by rfl))
      (pss_cons (ps_while PassesOwn.never (pt_cmpR (kNeD (K := K) rfl hr.units) (pv 3) (pe_lst pa_nil) (nomark _)) (pss_cons (ps_set (i := 4) sc__law_from.nd rfl (Or.inl rfl) (pe_lst pa_nil))
      (pss_cons (ps_for PassesOwn.never rfl (kPiL (K := K) rfl (pv 3)) (pg_name (i := 5) sc__law_from.nd rfl (Or.inl rfl)) (pss_one (ps_for PassesOwn.never rfl (kPiL (K := K) rfl (pe_call (ok__law_after T) (hr.mono (by decide)) (by rfl) T.g__law_after T.F__law_after.kp T.b__law_after .nil pass0 (pa_cons (pv 0) (pa_cons (pv 5) pa_nil)))) (kPgT (K := K) rfl rfl (pgs_cons (pg_name (i := 6) sc__law_from.nd rfl (Or.inl rfl)) (pgs_cons (pg_name (i := 7) sc__law_from.nd rfl (Or.inl rfl)) pgs_nil))) (pss_one (ps_if (pt_cmp (pc_dnotin (hu_of hr) (pv 7) (pv 2)) (by rfl)) (pss_cons (ps_dput (hu_of hr) (pv 2) (pv 7) (pe_op op_add (pe_dget (hu_of hr) (pv 2) (pv 5) (fun _ _ => rfl)) pe_int) rfl)
      (pss_one (ps_expr (pe_bm PySem.F.plainAttrs_list PySem.F.slot_list_append PySem.F.type_list_append mt_append (pv 4) (pa_cons (pv 7) pa_nil))))) pss_nil)))))
      (pss_one (ps_set (i := 3) sc__law_from.nd rfl (Or.inl rfl) (pv 4))))))
      (pss_one (ps_ret (pv 2))))), fun Q q => ?_⟩
  have n6 := W.n6
  obtain ⟨a1, rfl, g1⟩ := h1
  refine fun dc hdc => ?_
  refine ⟨_, rfl, ?_⟩
  have e1 := Ex.new (o := .dT []) hdc
  refine ⟨upd_same, a1, kOf O, .int 0, rfl, by rw [kOf_map]; exact e1 _ _ g1, ?_⟩
  have e2 : Ex H (upd (upd H dc (.dT [])) dc (.dT [(kOf O, .int 0)])) := e1.mut hdc
  generalize hH2 : upd (upd H dc (.dT [])) dc (.dT [(kOf O, .int 0)]) = H2 at e2
  have hd2 : H2 dc = some (.dT (enK [(O, 0)])) := by
    rw [← hH2]
    exact upd_same
  refine (evp_lst (eap_cons (evp_var (P := IsTI O) rfl ⟨a1, rfl, e2 _ _ g1⟩) eap_nil) (by show 1 ≤ 100000; decide)) H2 (Ex.refl _) _ fun vr H3 e3 ⟨ar, xs, z1, z2, H30, e30, hv⟩ => ?_
  obtain ⟨x, rfl, hx⟩ := all1 hv
  subst z1
  refine ⟨_, _, rfl, ?_⟩
  have e03 := e2.trans e3
  refine q_while (fun m σ' H' => ∃ (d : Nat) (kv : KV) (R : List (List Int)) (ar : Addr) (xs : List V) (y1 y2 y3 y4 : Option V), m = n + 1 - d ∧ σ' = [some v0, some (.ref a1), some (.ref dc), some (.ref ar), y1, y2, y3, y4] ∧ Lw n A O d kv R ∧ H' dc = some (.dT (enK kv)) ∧ H' ar = some (.lst xs) ∧ Paired (fun x b => IsTI b x H') xs R ∧ Ex H H') (n + 1) ⟨0, [(O, 0)], [O], ar, [x], none, none, none, none, rfl, rfl, Lw.start S, e3 _ _ hd2, z2, .cons (Mon.mono e30 hx) .nil, e03⟩ fun m σ' H' ⟨d, kv, R, ar, xs, y1, y2, y3, y4, hm, hσ, L, hd, har, pr, e4⟩ => ?_
  subst hσ
  refine ⟨!R.isEmpty, ne_nil (evp_var rfl ⟨ar, xs, rfl, har, pr⟩), fun c H5 e5 => ⟨_, fun σ2 H3 n => n, ?_⟩, fun c H5 e5 => ?_⟩
  · have ne : R ≠ [] := fun z => by rw [z] at c; exact Bool.noConfusion c
    have dle := L.le S ne
    refine q_asgL (el_lst ea_nil (by decide)) fun Dm H6 hDm e6 hm6 => ?_
    have e46 := e5.trans e6
    have har6 := e46 _ _ har
    have hd6 := e46 _ _ hd
    have pr6 : Paired (fun x b => IsTI b x H6) xs R := Paired.mapP pr fun _ _ z => Mon.mono e46 z
    have e06 := e4.trans e46
    have nDm : H Dm = none := none_of (e4.trans e5) hDm
    have n1 : ¬ ar ∈ [dc, Dm] := by
      intro z
      rcases List.mem_cons.mp z with z | z
      · rw [z, hd] at har
        cases har
      · rw [List.mem_singleton.mp z] at har
        have := e5 _ _ har
        rw [hDm] at this
        cases this
    have ndm : dc ≠ Dm := fun z => by
      have := e5 _ _ hd
      rw [z, hDm] at this
      cases this
    refine q_forV (R := IsTI) [dc, Dm] n1 rfl har6 pr6 (fun i σ' H' => ∃ y2 y3 y4, σ' = [some v0, some (.ref a1), some (.ref dc), some (.ref ar), some (.ref Dm), y2, y3, y4] ∧ FrI n A O d H H6 dc Dm (fun T k => T ∈ R.take i ∧ k ∈ doab n A T) H') (fun i σ' H' ⟨_, _, _, _, I⟩ => ⟨I.y, I.t⟩) ⟨y2, y3, y4, rfl, e06, Ey.refl _, ExT.refl _, kv, [], [], L.lv.weak (fun T k z => by simp at z), hd6, hm6, .nil⟩ (fun i T x σ' H7 hi hx ⟨y2, y3, y4, hσ, I⟩ => ?_) fun σ' H7 ⟨y2, y3, y4, hσ, I⟩ => ?_
    · subst hσ
      have hT := (L.row T).mp (List.mem_of_getElem? hi)
      have web7 := Mon.mono I.x h0
      have base : ∀ a ∈ [dc, Dm], H7 a ≠ none := fun a ha => by
        obtain ⟨_, _, _, _, z1, z2, _⟩ := I.k
        rcases List.mem_cons.mp ha with z | z
        · rw [z, z1]
          simp
        · rw [List.mem_singleton.mp z, z2]
          simp
      refine s_forK [dc, Dm] base (call_after W hT.1.sd (evp_var rfl web7) (evp_var rfl hx)) (fun H8 j σ' H' => ∃ y3 y4, σ' = [some v0, some (.ref a1), some (.ref dc), some (.ref ar), some (.ref Dm), some x, y3, y4] ∧ FrI n A O d H H6 dc Dm (fun T' k => (T' ∈ R.take i ∧ k ∈ doab n A T') ∨ (T' = T ∧ k ∈ (doab n A T).take j)) H' ∧ Ey [dc, Dm] H8 H' ∧ ExT H8 H') (fun H8 j σ' H' ⟨_, _, _, _, y, t⟩ => ⟨y, t⟩) (fun H8 e8 => ⟨y3, y4, rfl, (I.ex e8).weak (fun T' k z => z.elim id fun z => by simp at z), Ey.refl _, ExT.refl _⟩) (fun H8 e8 j p u σ' H9 hj hu ⟨y3, y4, hσ, I', y9, t9⟩ => ?_) fun H8 σ' H9 e8 ⟨y3, y4, hσ, I', y9, t9⟩ => ?_
      · subst hσ
        obtain ⟨k, hk, hp⟩ : ∃ k, (doab n A T)[j]? = some k ∧ p = (k, chg n T k) := by
          unfold aft at hj
          rw [List.getElem?_map] at hj
          obtain ⟨k, hk, hp⟩ := Option.map_eq_some_iff.mp hj
          exact ⟨k, hk, hp.symm⟩
        subst hp
        have km := List.mem_of_getElem? hk
        obtain ⟨hx9, hkv⟩ : IsTI T x H9 ∧ True := ⟨Tup.stay t9 (Mon.mono e8 hx), trivial⟩
        obtain ⟨x9, y9', t9', kv', mo, acc, Lv', q1, q2, q3⟩ := I'
        obtain ⟨ub, rfl, hub⟩ := hu
        obtain ⟨xb, rfl, hxb⟩ := hx9
        by_cases c : chg n T k ∈ kv'.map Prod.fst
        · obtain ⟨v, hv, hval⟩ := enK_some c
          refine ⟨_, rfl, _, rfl, dc, _, rfl, gv_kn q1 hub, _, rfl, ?_⟩
          rw [hval]
          exact ⟨_, _, rfl, ⟨x9, y9', t9', kv', mo, acc, (Lv'.skip (S := T) (k := k) c).weak (fun T' k' z => by
            rcases z with z | ⟨z, z'⟩
            · exact .inl (.inl z)
            · rcases (mem_take_more hk).mp z' with z' | z'
              · exact .inl (.inr ⟨z, z'⟩)
              · exact .inr ⟨z, z'⟩), q1, q2, q3⟩, y9, t9⟩
        · refine ⟨_, rfl, _, rfl, dc, _, rfl, gv_kn q1 hub, _, rfl, ?_⟩
          rw [enK_none c]
          have len := Lv'.len n6
          have Tk : T ∈ kv'.map Prod.fst := Lv'.all T hT.1 (by omega)
          obtain ⟨v, hv, hval⟩ := enK_some Tk
          have vd : v = d := by
            rw [← hT.2]
            exact (Lv'.val _ hv).2
          refine ⟨_, rfl, _, rfl, dc, _, rfl, by have := gv_kn q1 hxb; rw [hval] at this; exact this, v, 1, rfl, rfl, ?_⟩
          refine ⟨_, rfl, _, rfl, dc, _, rfl, DPut.t q1 (by rw [kOf_map]; exact hub) (by unfold enK; rw [List.length_map]; exact sz_lt (by omega)), ?_⟩
          have tq : ExT H9 (upd H9 dc (.dT (putK (enK kv') (kOf (chg n T k)) (.int (v + 1))))) := ExT.dT q1
          refine s_appP (S := IsTI) (c := chg n T k) (by rw [upd_ne ndm.symm]; exact q2) (Paired.mapP q3 fun _ _ z => Tup.stay tq z) (by omega) (evp_var (P := Is (.ref Dm)) rfl rfl) (evp_var (P := IsTI (chg n T k)) rfl ⟨ub, rfl, tq _ _ hub⟩) fun acc' H10 H11 e10 eq t11 pr11 => ⟨_, _, rfl, ⟨?_, ?_, (t9'.trans tq).trans t11, kv' ++ [(chg n T k, v + 1)], mo ++ [chg n T k], acc', ?_, ?_, by rw [eq]; exact upd_same, pr11⟩, ?_, (t9.trans tq).trans t11⟩
          · rw [eq]
            exact ((x9.mut hdc).trans e10).mut nDm
          · rw [eq]
            exact ((y9'.trans (Ey.upd List.mem_cons_self)).trans (Ex.y e10)).trans (Ey.upd (by simp))
          · exact (Lv'.add W S hT.1 hT.2 km c (by rw [vd])).weak fun T' k' z => by
              rcases z with z | ⟨z, z'⟩
              · exact .inl (.inl z)
              · rcases (mem_take_more hk).mp z' with z' | z'
                · exact .inl (.inr ⟨z, z'⟩)
                · exact .inr ⟨z, z'⟩
          · rw [eq, upd_ne ndm, e10 dc _ upd_same, enK_put c]
          · rw [eq]
            exact ((y9.trans (Ey.upd List.mem_cons_self)).trans (Ex.y e10)).trans (Ey.upd (by simp))
      · subst hσ
        refine ⟨_, _, _, rfl, I'.weak fun T' k z => ?_⟩
        rcases (mem_take_more hi).mp z.1 with z' | z'
        · exact .inl ⟨z', z.2⟩
        · refine .inr ⟨z', ?_⟩
          unfold aft
          rw [List.length_map, List.take_length, ← z']
          exact z.2
    · subst hσ
      obtain ⟨x7, y7, t7, kv', mo, acc, Lv', q1, q2, q3⟩ := I
      have nx := Lw.next W S L Lv' fun T hT k hk => ⟨by rw [List.take_length]; exact hT, hk⟩
      exact sP_asg (P := Is (.ref Dm)) (evp_var rfl rfl) fun v H8 e8 hv => by
        cases (show v = V.ref Dm from hv)
        exact ⟨n + 1 - (d + 1), by omega, d + 1, kv', mo, Dm, acc, _, _, _, _, rfl, rfl, nx, e8 _ _ q1, e8 _ _ q2, Paired.mapP q3 fun _ _ z => Mon.mono e8 z, x7.trans e8⟩
  · have : R = [] := by
      cases R with
      | nil => rfl
      | cons a l => exact Bool.noConfusion c
    subst this
    exact sP_ret (P := IsKn n A O) (evp_var rfl ⟨dc, kv, rfl, e5 _ _ hd, Lw.fin W S L⟩) fun v H6 e6 hv => q v H6 ((e4.trans e5).trans e6) hv
end
end LDW

/-! The law's likeness. -/
namespace LDW
open PySem PySem.Spec PyProof.Rows L2 Evl LD
section
variable {K : PySem.W.Frag} {σ : L2.St} {H : Hp} {ta tb : TE} {P : VP}
theorem isi_s [Mon P] {s c : String} {b : Bool} (ha : EvP ta σ H P) (hty : ∀ v H, P v H → TyX K H v (.type s)) (h : kitB s c = some b) : EvP (tCB (rIsi K) (tCons ta (tCons (tC (.ty c)) tNil))) σ H (Is (.bl b)) := isi ha (.ty _) (kit_ty h) hty
theorem isi_tl [Mon P] {s c1 c2 : String} {b1 b2 : Bool} (ha : EvP ta σ H P) (hty : ∀ v H, P v H → TyX K H v (.type s)) (h1 : kitB s c1 = some b1) (h2 : kitB s c2 = some b2) : EvP (tCB (rIsiT K) (tCons ta (tCons (tTup (tCons (tC (.ty c1)) (tCons (tC (.ty c2)) tNil))) tNil))) σ H (Is (.bl (b1 || b2))) := fun H1 e1 Q q =>
  ha H1 e1 _ fun v H2 e2 p => ⟨by show 2 ≤ sizeLine; rw [sizeLine_eq]; decide, fun t ht => ⟨v, t, _, .type s, [.type c1, .type c2], b1 || b2, rfl, upd_same, .cons (.ty c1) (.cons (.ty c2) .nil), hty _ _ (Mon.mono (Ex.new ht) p), by
    refine kitAny_cons (kit_ty h1) (fun z => ?_) (fun z => by rw [z]; rfl)
    subst z
    refine kitAny_cons (kit_ty h2) (fun z => ?_) (fun z => by rw [z]; rfl)
    subst z
    exact kitAny_nil, q _ _ (e2.trans (Ex.new ht)) rfl⟩⟩
theorem is_non (ha : EvP ta σ H (Is .non)) : EvT (tTest (tOp (fun x y H Q => y = .non ∧ Q (.bl (decide (x = .non))) H) ta (tC .non))) σ H true := evt_op ha evp_c fun x y H1 _ p1 p2 Q q => ⟨p2, by
  cases p1
  exact q⟩
theorem is_not [Mon P] (ha : EvP ta σ H P) (hn : ∀ v H, P v H → v ≠ .non) : EvT (tTest (tOp (fun x y H Q => y = .non ∧ Q (.bl (decide (x = .non))) H) ta (tC .non))) σ H false := evt_op ha evp_c fun x y H1 _ p1 p2 Q q => ⟨p2, by
  rw [decide_eq_false (hn _ _ p1)]
  exact q⟩
theorem eqV_s {v : V} (ha : EvP ta σ H (Is v)) (hb : EvP tb σ H (Is v)) (h : scal v v = true) : EvP (tOp rEq ta tb) σ H (Is (.bl true)) := evp_op ha hb fun x y H1 _ p1 p2 Q q => by
  cases p1
  cases p2
  exact ⟨h, by rw [decide_eq_true rfl]; exact q _ _ (Ex.refl _) rfl⟩
theorem eqV_b {b : Bool} (ha : EvP ta σ H (Is (.bl b))) (hb : EvP tb σ H (Is (.bl b))) : EvP (tOp rEq ta tb) σ H (Is (.bl true)) := eqV_s ha hb rfl
theorem ne_b {b : Bool} (ha : EvP ta σ H (Is (.bl b))) (hb : EvP tb σ H (Is (.bl b))) : EvT (tTest (tOp rNe ta tb)) σ H false := evt_op ha hb fun x y H1 _ p1 p2 Q q => by
  cases p1
  cases p2
  exact ⟨rfl, by rw [decide_eq_true rfl]; exact q⟩
end
section
variable {P : Program} {w : World} {K : PySem.W.Frag} {mg : Str → Option Value} {base : Heap}
def Sc (x : V) : Prop := x = .non ∨ (∃ m, x = .int m) ∨ ∃ z, x = .str z
def sp_alike0 : Sp := fun vs H Q _ => ∃ x, vs = [x, x] ∧ Sc x ∧ ∀ H', Ex H H' → Q (.bl true) H'
theorem ok0__law_alike (T : Txt K mg) : FnOk P w K mg base CX0 1 T.a__law_alike T.d__law_alike ["_law_found", "_law_due"] sp_alike0 := by
  refine T.F__law_alike.ok sc__law_alike (fun vs H Q E h => ?_) fun cdv Ar outer s H vs Q E hr h => ?_
  · obtain ⟨x, rfl, _⟩ := h
    rfl
  obtain ⟨x, rfl, hx, q⟩ := h
  refine ⟨_, (pss_cons (ps_if (pt_val (pe_callB (kIsiT (K := K) rfl) (by rfl) T.z_isinstance (by decide +kernel) (pa_cons (pv 1) (pa_cons (pe_tup (pa_cons (pe_bltn (v := .ty "tuple") (by rfl) T.z_tuple (by decide +kernel) rfl) (pa_cons (pe_bltn (v := .ty "list") (by rfl) T.z_list (by decide +kernel) rfl) pa_nil))) pa_nil)))) pss_never pss_nil)
      (pss_cons (ps_if (PW.pt (pw_or (pt_cmpR op_isN (pv 1) pe_non (nomark _)) (pw_or1 (pt_val (pe_callB (kIsi (K := K) rfl) (by rfl) T.z_isinstance (by decide +kernel) (pa_cons (pv 1) (pa_cons (pe_bltn (v := .ty "str") (by rfl) T.z_str (by decide +kernel) rfl) pa_nil))))))) (pss_one (ps_ret (pe_and (pe_cmpR op_eq (pv 0) (pv 1) (nomark _)) (pe_one (pe_cmpR op_eq (pe_callB (kIsi (K := K) rfl) (by rfl) T.z_isinstance (by decide +kernel) (pa_cons (pv 0) (pa_cons (pe_bltn (v := .ty "str") (by rfl) T.z_str (by decide +kernel) rfl) pa_nil))) (pe_callB (kIsi (K := K) rfl) (by rfl) T.z_isinstance (by decide +kernel) (pa_cons (pv 1) (pa_cons (pe_bltn (v := .ty "str") (by rfl) T.z_str (by decide +kernel) rfl) pa_nil))) (nomark _)))))) pss_nil)
      (pss_one (ps_ret (pe_and (pe_callB (kIsi (K := K) rfl) (by rfl) T.z_isinstance (by decide +kernel) (pa_cons (pv 0) (pa_cons (pe_bltn (v := .ty "int") (by rfl) T.z_int (by decide +kernel) rfl) pa_nil))) (pe_and (pe_cmpR op_eq (pe_callB (kIsi (K := K) rfl) (by rfl) T.z_isinstance (by decide +kernel) (pa_cons (pv 0) (pa_cons (pe_bltn (v := .ty "bool") (by rfl) T.z_bool (by decide +kernel) rfl) pa_nil))) (pe_callB (kIsi (K := K) rfl) (by rfl) T.z_isinstance (by decide +kernel) (pa_cons (pv 1) (pa_cons (pe_bltn (v := .ty "bool") (by rfl) T.z_bool (by decide +kernel) rfl) pa_nil))) (nomark _)) (pe_one (pe_cmpR op_eq (pv 0) (pv 1) (nomark _))))))))), ?_⟩
  rcases hx with rfl | ⟨m, rfl⟩ | ⟨z, rfl⟩
  · refine q_no (evt_val (isi_tl (s := "NoneType") (evp_var (P := Is .non) rfl rfl) (fun v H h => by cases h; exact .base .non) (b1 := false) (b2 := false) (by decide +kernel) (by decide +kernel))) fun H1 e1 => ?_
    refine q_when (et_or (a := true) (is_non (evp_var (P := Is .non) rfl rfl)) (b := true) fun z => Bool.noConfusion z) (fun _ H2 e2 => ?_) fun c => Bool.noConfusion c
    exact sP_ret (evp_and (eqV_s (evp_var rfl rfl) (evp_var rfl rfl) rfl) fun _ => eqV_b (isi_s (s := "NoneType") (b := false) (evp_var (P := Is .non) rfl rfl) (fun v H h => by cases h; exact .base .non) (by decide +kernel)) (isi_s (s := "NoneType") (b := false) (evp_var (P := Is .non) rfl rfl) (fun v H h => by cases h; exact .base .non) (by decide +kernel))) fun v H3 e3 hv => by cases hv; exact q H3 ((e1.trans e2).trans e3)
  · refine q_no (evt_val (isi_tl (s := "int") (evp_var (P := IsI m) rfl rfl) (fun v H h => by cases h; exact .base (.int _)) (b1 := false) (b2 := false) (by decide +kernel) (by decide +kernel))) fun H1 e1 => ?_
    refine q_when (et_or (a := false) (is_not (evp_var (P := IsI m) rfl rfl) (fun v H h => by cases h; simp)) (b := false) fun _ => evt_val (isi_s (s := "int") (b := false) (evp_var (P := IsI m) rfl rfl) (fun v H h => by cases h; exact .base (.int _)) (by decide +kernel))) (fun c => Bool.noConfusion c) fun _ H2 e2 => ?_
    exact sP_ret (evp_and (isi_int (evp_var (P := IsI m) rfl rfl)) fun _ => evp_and (eqV_b (isi_bool (evp_var (P := IsI m) rfl rfl)) (isi_bool (evp_var (P := IsI m) rfl rfl))) fun _ => eqV_s (v := .int m) (evp_var rfl rfl) (evp_var rfl rfl) rfl) fun v H3 e3 hv => by cases hv; exact q H3 ((e1.trans e2).trans e3)
  · refine q_no (evt_val (isi_tl (s := "str") (evp_var (P := Is (.str z)) rfl rfl) (fun v H h => by cases h; exact .base (.str _)) (b1 := false) (b2 := false) (by decide +kernel) (by decide +kernel))) fun H1 e1 => ?_
    refine q_when (et_or (a := false) (is_not (evp_var (P := Is (.str z)) rfl rfl) (fun v H h => by cases h; simp)) (b := true) fun _ => evt_val (isi_s (s := "str") (b := true) (evp_var (P := Is (.str z)) rfl rfl) (fun v H h => by cases h; exact .base (.str _)) (by decide +kernel))) (fun _ H2 e2 => ?_) fun c => Bool.noConfusion c
    exact sP_ret (evp_and (eqV_s (v := .str z) (evp_var rfl rfl) (evp_var rfl rfl) rfl) fun _ => eqV_b (isi_s (s := "str") (b := true) (evp_var (P := Is (.str z)) rfl rfl) (fun v H h => by cases h; exact .base (.str _)) (by decide +kernel)) (isi_s (s := "str") (b := true) (evp_var (P := Is (.str z)) rfl rfl) (fun v H h => by cases h; exact .base (.str _)) (by decide +kernel))) fun v H3 e3 hv => by cases hv; exact q H3 ((e1.trans e2).trans e3)

theorem tyTI {l : List Int} : ∀ v H, IsTI l v H → TyX K H v (.type "tuple") := fun v H ⟨a, h1, h2⟩ => by
  rw [h1]
  exact .base (.tup h2)
def sp_alike : Sp := fun vs H Q _ => ∃ x y, vs = [x, y] ∧ ((Sc x ∧ y = x) ∨ ∃ l : List Int, l.length ≤ 1000 ∧ IsTI l x H ∧ IsTI l y H) ∧ ∀ H', Ex H H' → Q (.bl true) H'
theorem ok__law_alike (T : Txt K mg) : FnOk P w K mg base CX0 6 T.a__law_alike T.d__law_alike ["_law_found", "_law_due"] sp_alike := by
  refine T.F__law_alike.ok sc__law_alike (fun vs H Q E h => ?_) fun cdv Ar outer s H vs Q E hr h => ?_
  · obtain ⟨x, y, rfl, _⟩ := h
    rfl
  obtain ⟨x, y, rfl, hxy, q⟩ := h
  refine ⟨_, (pss_cons (ps_if (pt_val (pe_callB (kIsiT (K := K) rfl) (by rfl) T.z_isinstance (by decide +kernel) (pa_cons (pv 1) (pa_cons (pe_tup (pa_cons (pe_bltn (v := .ty "tuple") (by rfl) T.z_tuple (by decide +kernel) rfl) (pa_cons (pe_bltn (v := .ty "list") (by rfl) T.z_list (by decide +kernel) rfl) pa_nil))) pa_nil)))) (pss_cons (ps_if (PW.pt (pw_or (pt_not (pt_val (pe_callB (kIsiT (K := K) rfl) (by rfl) T.z_isinstance (by decide +kernel) (pa_cons (pv 0) (pa_cons (pe_tup (pa_cons (pe_bltn (v := .ty "tuple") (by rfl) T.z_tuple (by decide +kernel) rfl) (pa_cons (pe_bltn (v := .ty "list") (by rfl) T.z_list (by decide +kernel) rfl) pa_nil))) pa_nil))))) (pw_or1 (pt_cmpR op_ne (pe_callB (kIsi (K := K) rfl) (by rfl) T.z_isinstance (by decide +kernel) (pa_cons (pv 0) (pa_cons (pe_bltn (v := .ty "list") (by rfl) T.z_list (by decide +kernel) rfl) pa_nil))) (pe_callB (kIsi (K := K) rfl) (by rfl) T.z_isinstance (by decide +kernel) (pa_cons (pv 1) (pa_cons (pe_bltn (v := .ty "list") (by rfl) T.z_list (by decide +kernel) rfl) pa_nil))) (nomark _))))) (pss_one (ps_ret pe_bl)) pss_nil)
      (pss_cons (ps_if (pt_cmpR op_ne (pe_callB (kLen (K := K) rfl) (by rfl) T.z_len PySem.boot_len (pa_cons (pv 0) pa_nil)) (pe_callB (kLen (K := K) rfl) (by rfl) T.z_len PySem.boot_len (pa_cons (pv 1) pa_nil)) (nomark _)) (pss_one (ps_ret pe_bl)) pss_nil)
      (pss_one (ps_ret (pe_cmpR (kEqD (K := K) rfl hr.units) (pe_lc (own := [("_law_k", 2)]) (g := (gName 2)) rfl sc__law_alike.nd (pi_range1 (by rfl) T.z_range (pa_cons (pe_callB (kLen (K := K) rfl) (by rfl) T.z_len PySem.boot_len (pa_cons (pv 1) pa_nil)) pa_nil)) (blkOk_by (own := [("_law_k", 2)]) (N := ["_law_found", "_law_due", "_law_k"]) (sc := defScope s_law_alike) (by decide +kernel)) (fun _ _ _ _ _ => (pg_name (i := 2) sc__law_alike.nd rfl (Or.inl rfl))) (fun _ _ _ _ _ => (pts_one (pt_not (pt_val (pe_call (ok0__law_alike T) (hr.mono (by decide)) (by rfl) T.g__law_alike T.F__law_alike.kp T.b__law_alike .nil pass0 (pa_cons (pe_ix (kIxT (K := K) rfl) (pv 0) (pv 2) (fun _ _ => rfl)) (pa_cons (pe_ix (kIxT (K := K) rfl) (pv 1) (pv 2) (fun _ _ => rfl)) pa_nil))))))) (fun _ _ _ _ _ => (pv 2))) (pe_lst pa_nil) (nomark _)))))) pss_nil)
      (pss_cons (ps_if (PW.pt (pw_or (pt_cmpR op_isN (pv 1) pe_non (nomark _)) (pw_or1 (pt_val (pe_callB (kIsi (K := K) rfl) (by rfl) T.z_isinstance (by decide +kernel) (pa_cons (pv 1) (pa_cons (pe_bltn (v := .ty "str") (by rfl) T.z_str (by decide +kernel) rfl) pa_nil))))))) (pss_one (ps_ret (pe_and (pe_cmpR op_eq (pv 0) (pv 1) (nomark _)) (pe_one (pe_cmpR op_eq (pe_callB (kIsi (K := K) rfl) (by rfl) T.z_isinstance (by decide +kernel) (pa_cons (pv 0) (pa_cons (pe_bltn (v := .ty "str") (by rfl) T.z_str (by decide +kernel) rfl) pa_nil))) (pe_callB (kIsi (K := K) rfl) (by rfl) T.z_isinstance (by decide +kernel) (pa_cons (pv 1) (pa_cons (pe_bltn (v := .ty "str") (by rfl) T.z_str (by decide +kernel) rfl) pa_nil))) (nomark _)))))) pss_nil)
      (pss_one (ps_ret (pe_and (pe_callB (kIsi (K := K) rfl) (by rfl) T.z_isinstance (by decide +kernel) (pa_cons (pv 0) (pa_cons (pe_bltn (v := .ty "int") (by rfl) T.z_int (by decide +kernel) rfl) pa_nil))) (pe_and (pe_cmpR op_eq (pe_callB (kIsi (K := K) rfl) (by rfl) T.z_isinstance (by decide +kernel) (pa_cons (pv 0) (pa_cons (pe_bltn (v := .ty "bool") (by rfl) T.z_bool (by decide +kernel) rfl) pa_nil))) (pe_callB (kIsi (K := K) rfl) (by rfl) T.z_isinstance (by decide +kernel) (pa_cons (pv 1) (pa_cons (pe_bltn (v := .ty "bool") (by rfl) T.z_bool (by decide +kernel) rfl) pa_nil))) (nomark _)) (pe_one (pe_cmpR op_eq (pv 0) (pv 1) (nomark _))))))))), ?_⟩
  rcases hxy with ⟨hx, rfl⟩ | ⟨l, hl, hx, hy⟩
  · skip
    rcases hx with rfl | ⟨m, rfl⟩ | ⟨z, rfl⟩
    · refine q_no (evt_val (isi_tl (s := "NoneType") (evp_var (P := Is .non) rfl rfl) (fun v H h => by cases h; exact .base .non) (b1 := false) (b2 := false) (by decide +kernel) (by decide +kernel))) fun H1 e1 => ?_
      refine q_when (et_or (a := true) (is_non (evp_var (P := Is .non) rfl rfl)) (b := true) fun z => Bool.noConfusion z) (fun _ H2 e2 => ?_) fun c => Bool.noConfusion c
      exact sP_ret (evp_and (eqV_s (evp_var rfl rfl) (evp_var rfl rfl) rfl) fun _ => eqV_b (isi_s (s := "NoneType") (b := false) (evp_var (P := Is .non) rfl rfl) (fun v H h => by cases h; exact .base .non) (by decide +kernel)) (isi_s (s := "NoneType") (b := false) (evp_var (P := Is .non) rfl rfl) (fun v H h => by cases h; exact .base .non) (by decide +kernel))) fun v H3 e3 hv => by cases hv; exact q H3 ((e1.trans e2).trans e3)
    · refine q_no (evt_val (isi_tl (s := "int") (evp_var (P := IsI m) rfl rfl) (fun v H h => by cases h; exact .base (.int _)) (b1 := false) (b2 := false) (by decide +kernel) (by decide +kernel))) fun H1 e1 => ?_
      refine q_when (et_or (a := false) (is_not (evp_var (P := IsI m) rfl rfl) (fun v H h => by cases h; simp)) (b := false) fun _ => evt_val (isi_s (s := "int") (b := false) (evp_var (P := IsI m) rfl rfl) (fun v H h => by cases h; exact .base (.int _)) (by decide +kernel))) (fun c => Bool.noConfusion c) fun _ H2 e2 => ?_
      exact sP_ret (evp_and (isi_int (evp_var (P := IsI m) rfl rfl)) fun _ => evp_and (eqV_b (isi_bool (evp_var (P := IsI m) rfl rfl)) (isi_bool (evp_var (P := IsI m) rfl rfl))) fun _ => eqV_s (v := .int m) (evp_var rfl rfl) (evp_var rfl rfl) rfl) fun v H3 e3 hv => by cases hv; exact q H3 ((e1.trans e2).trans e3)
    · refine q_no (evt_val (isi_tl (s := "str") (evp_var (P := Is (.str z)) rfl rfl) (fun v H h => by cases h; exact .base (.str _)) (b1 := false) (b2 := false) (by decide +kernel) (by decide +kernel))) fun H1 e1 => ?_
      refine q_when (et_or (a := false) (is_not (evp_var (P := Is (.str z)) rfl rfl) (fun v H h => by cases h; simp)) (b := true) fun _ => evt_val (isi_s (s := "str") (b := true) (evp_var (P := Is (.str z)) rfl rfl) (fun v H h => by cases h; exact .base (.str _)) (by decide +kernel))) (fun _ H2 e2 => ?_) fun c => Bool.noConfusion c
      exact sP_ret (evp_and (eqV_s (v := .str z) (evp_var rfl rfl) (evp_var rfl rfl) rfl) fun _ => eqV_b (isi_s (s := "str") (b := true) (evp_var (P := Is (.str z)) rfl rfl) (fun v H h => by cases h; exact .base (.str _)) (by decide +kernel)) (isi_s (s := "str") (b := true) (evp_var (P := Is (.str z)) rfl rfl) (fun v H h => by cases h; exact .base (.str _)) (by decide +kernel))) fun v H3 e3 hv => by cases hv; exact q H3 ((e1.trans e2).trans e3)
  · refine q_when (evt_val (isi_tl (s := "tuple") (evp_var rfl hy) tyTI (b1 := true) (b2 := false) (by decide +kernel) (by decide +kernel))) (fun _ H1 e1 => ?_) fun c => Bool.noConfusion c
    refine q_no (evt_is (et_or (et_not (evt_val (isi_tl (s := "tuple") (vr e1 hx rfl) tyTI (b1 := true) (b2 := false) (by decide +kernel) (by decide +kernel)))) fun _ => ne_b (b := false) (isi_s (s := "tuple") (vr e1 hx rfl) tyTI (by decide +kernel)) (isi_s (s := "tuple") (vr e1 hy rfl) tyTI (by decide +kernel))) rfl) fun H2 e2 => ?_
    have e02 := e1.trans e2
    have tl : ∀ v H, IsTI l v H → ∃ a xs, v = .ref a ∧ H a = some (.tup xs) ∧ xs.length = l.length := fun v H ⟨a, h1, h2⟩ => ⟨a, _, h1, h2, by rw [List.length_map]⟩
    refine q_no (evt_is (ne_i (len_tup (vr e02 hx rfl) tl) (len_tup (vr e02 hy rfl) tl)) (by simp)) fun H3 e3 => ?_
    have e03 := e02.trans e3
    refine sP_ret (eqV_nil (lcR (S := IsI) (fun _ => false) (fun k => k) (len_tup (vr e03 hy rfl) tl) (by omega) (fun _ => rfl) (fun k k0 k1 H4 e4 => et_not (a := true) (evt_val (fun H5 e5 Q' q' => ?_))) (fun _ _ _ z => Bool.noConfusion z))) fun v H4 e4 hv => ?_
    · obtain ⟨m, hm⟩ : ∃ m, l[k.toNat]? = some m := ⟨l[k.toNat]'(by omega), List.getElem?_eq_getElem _⟩
      have kk : k = (k.toNat : Int) := by omega
      refine ts_at (R := IsI) (evp_tis (vr (e03.trans e4) hx rfl)) (evp_var (P := IsI k) rfl rfl) kk hm H5 e5 _ fun u H6 e6 hu => ?_
      refine ts_at (R := IsI) (evp_tis (vr (e03.trans e4) hy rfl)) (evp_var (P := IsI k) rfl rfl) kk hm H6 (e5.trans e6) _ fun u' H7 e7 hu' => ?_
      cases hu
      cases hu'
      exact ⟨.int m, rfl, .inr (.inl ⟨m, rfl⟩), fun H8 e8 => q' _ _ ((e6.trans e7).trans e8) rfl⟩
    · have ee : (((((List.range l.length).map fun (i : Nat) => (i : Int)).filter fun _ => false).map fun k => k) : List Int).isEmpty = true := by
        rw [List.filter_eq_nil_iff.mpr (fun _ _ => by simp)]
        rfl
      rw [ee] at hv
      cases hv
      exact q H4 (e03.trans e4)
theorem call_alike {σ : L2.St} {H : Hp} {ta tb : TE} {E : XK} {P1 P2 : VP} [Mon P1] (ha : EvP ta σ H P1) (hb : EvP tb σ H P2) (h : ∀ x y H1, Ex H H1 → P1 x H1 → P2 y H1 → (Sc x ∧ y = x) ∨ ∃ l : List Int, l.length ≤ 1000 ∧ IsTI l x H1 ∧ IsTI l y H1) : EvP (tCall sp_alike [] E (tCons ta (tCons tb tNil))) σ H (Is (.bl true)) := fun H1 e1 Q q =>
  ha H1 e1 _ fun x H2 e2 p1 => hb H2 (e1.trans e2) _ fun y H3 e3 p2 => ⟨x, y, rfl, h x y H3 ((e1.trans e2).trans e3) (Mon.mono e3 p1) p2, fun H4 e4 => q _ _ ((e2.trans e3).trans e4) rfl⟩
end
end LDW

/-! The law's dicts, costs. -/
namespace LDW
open PySem PySem.Spec PyProof.Rows L2 Evl LD
/-! ### dict(after): door to standing -/
def IsCan (n : Nat) (A : LD.Ar) (O : List Int) : VP := fun v H => ∃ d kvs, v = .ref d ∧ H d = some (.dK kvs) ∧ ∀ k : Int, (k ∈ doab n A O → ∃ u, valV kvs (Sum.inl k) = some u ∧ IsTI (chg n O k) u H) ∧ (¬ k ∈ doab n A O → valV kvs (Sum.inl k) = none)
instance (n : Nat) (A : LD.Ar) (O : List Int) : Mon (IsCan n A O) := ⟨fun e ⟨d, kvs, h1, h2, h3⟩ => ⟨d, kvs, h1, e _ _ h2, fun k => ⟨fun m => let ⟨u, q1, q2⟩ := (h3 k).1 m; ⟨u, q1, Mon.mono e q2⟩, (h3 k).2⟩⟩⟩
def duL (n : Nat) (A : LD.Ar) (O : List Int) (k : Int) : List Int := if k ∈ doab n A O then nwl n A O k else []
def IsDu (n : Nat) (A : LD.Ar) (O : List Int) (i : Nat) (d : Addr) (H : Hp) : Prop := ∃ dv, H d = some (.dK dv) ∧ dv.length ≤ i ∧ ∀ j : Int, 0 ≤ j → j < i → ∃ u, valV dv (Sum.inl j) = some u ∧ IsLs IsI (duL n A O j) u H
theorem IsDu.ex {n : Nat} {A : LD.Ar} {O : List Int} {i : Nat} {d : Addr} {H H' : Hp} (h : IsDu n A O i d H) (e : Ex H H') : IsDu n A O i d H' := let ⟨dv, h1, h2, h3⟩ := h; ⟨dv, e _ _ h1, h2, fun j a b => let ⟨u, q1, q2⟩ := h3 j a b; ⟨u, q1, Mon.mono e q2⟩⟩
theorem put_inv {H : Hp} {n : Nat} {A : LD.Ar} {O : List Int} : ∀ (more : List (Key × V)) (acc : List (Key × V)), (∀ p ∈ more, ∃ k : Int, p.1 = Sum.inl k ∧ k ∈ doab n A O ∧ IsTI (chg n O k) p.2 H) → (∀ (k : Int) v, valV acc (Sum.inl k) = some v → k ∈ doab n A O ∧ IsTI (chg n O k) v H) →
    (∀ (k : Int) v, valV (mergeK acc more) (Sum.inl k) = some v → k ∈ doab n A O ∧ IsTI (chg n O k) v H) ∧ ∀ k : Int, ((valV acc (Sum.inl k)).isSome = true ∨ ∃ p ∈ more, p.1 = Sum.inl k) → (valV (mergeK acc more) (Sum.inl k)).isSome = true
  | [], acc, _, h2 => ⟨h2, fun k h => h.elim id fun ⟨p, hp, _⟩ => absurd hp (by simp)⟩
  | p :: more, acc, h1, h2 => by
    obtain ⟨k0, e0, m0, t0⟩ := h1 p List.mem_cons_self
    have ih := put_inv more (putK acc p.1 p.2) (fun q hq => h1 q (List.mem_cons_of_mem _ hq)) fun k v hv => by
      rw [valV_put] at hv
      split at hv
      · rename_i e
        rw [e0] at e
        cases Sum.inl.inj e
        cases hv
        exact ⟨m0, t0⟩
      · exact h2 k v hv
    refine ⟨ih.1, fun k h => ih.2 k ?_⟩
    rcases h with h | ⟨q, hq, e⟩
    · refine .inl ?_
      rw [valV_put]
      split
      · rfl
      · exact h
    · rcases List.mem_cons.mp hq with z | hq
      · refine .inl ?_
        rw [valV_put, if_pos (by rw [← e, z])]
        rfl
      · exact .inr ⟨q, hq, e⟩
section
variable {K : PySem.W.Frag} {σ : L2.St} {H : Hp} {ta tb te : TE} {n : Nat} {A : LD.Ar} {O : List Int}
theorem kt_pairs : ∀ {xs : List V} {l : List (Int × List Int)}, Paired (fun x b => IsKT b x H) xs l → ∃ (ps : List Addr) (kvs : List (Key × V)), xs = ps.map V.ref ∧ Paired (fun p kv => SqT K H p [kV kv.1, kv.2]) ps kvs ∧ (∀ q ∈ kvs, ∃ b ∈ l, q.1 = Sum.inl b.1 ∧ IsTI b.2 q.2 H) ∧ ∀ b ∈ l, ∃ q ∈ kvs, q.1 = Sum.inl b.1
  | _, _, .nil => ⟨[], [], rfl, .nil, fun q h => absurd h (by simp), fun q h => absurd h (by simp)⟩
  | _, _, .cons (b := b) ⟨a, u, h1, h2, h3⟩ t => by
    obtain ⟨ps, kvs, q1, q2, q3, q4⟩ := kt_pairs t
    refine ⟨a :: ps, (Sum.inl b.1, u) :: kvs, by rw [List.map_cons, ← q1, h1], .cons (SqT.of h2) q2, fun q hq => ?_, fun c hc => ?_⟩
    · rcases List.mem_cons.mp hq with rfl | hq
      · exact ⟨b, List.mem_cons_self, rfl, h3⟩
      · obtain ⟨c, hc, z⟩ := q3 q hq
        exact ⟨c, List.mem_cons_of_mem _ hc, z⟩
    · rcases List.mem_cons.mp hc with rfl | hc
      · exact ⟨_, List.mem_cons_self, rfl⟩
      · obtain ⟨q, hq, z⟩ := q4 c hc
        exact ⟨q, List.mem_cons_of_mem _ hq, z⟩
theorem can_e (h : EvP te σ H (IsLs IsKT (aft n A O))) : EvP (tCB (fun xs H Q => ∃ (a : Addr) (ps : List Addr) (kvs : List (Key × V)), xs = [.ref a] ∧ SqL K H a (ps.map V.ref) ∧ Paired (fun p kv => SqT K H p [kV kv.1, kv.2]) ps kvs ∧
    ∀ p, H p = none → Q (.ref p) (upd H p (.dK (mergeK [] kvs)))) (tCons te tNil)) σ H (IsCan n A O) := evp_cb (eap_cons h eap_nil) fun vs H1 _ hv => by
  obtain ⟨v, rfl, a, xs, rfl, h2, h3⟩ := all1 hv
  obtain ⟨ps, kvs, q1, q2, q3, q4⟩ := kt_pairs (K := K) h3
  intro Q q
  refine ⟨a, ps, kvs, rfl, SqL.of (by rw [← q1]; exact h2), q2, fun p hp => q _ _ (Ex.new hp) ⟨p, _, rfl, upd_same, fun k => ?_⟩⟩
  have inv := put_inv (n := n) (A := A) (O := O) (H := H1) kvs [] (fun p hp => by
    obtain ⟨b, hb, e, t⟩ := q3 p hp
    obtain ⟨k, hk, rfl⟩ := List.mem_map.mp hb
    exact ⟨k, e, hk, t⟩) fun k v hv => by cases hv
  refine ⟨fun m => ?_, fun m => ?_⟩
  · obtain ⟨q, hq, e⟩ := q4 (k, chg n O k) (List.mem_map.mpr ⟨k, m, rfl⟩)
    obtain ⟨u, hu⟩ := Option.isSome_iff_exists.mp (inv.2 k (.inr ⟨q, hq, e⟩))
    exact ⟨u, hu, Mon.mono (Ex.new hp) (inv.1 k u hu).2⟩
  · cases c : valV (mergeK [] kvs) (Sum.inl k) with
    | none => rfl
    | some u => exact absurd (inv.1 k u c).1 m
/-- k in can, can[k] -/
theorem in_can {k : Int} (ha : EvP ta σ H (IsI k)) (hb : EvP tb σ H (IsCan n A O)) : EvT (tB (tDIn ta tb)) σ H (decide (k ∈ doab n A O)) := fun H1 e1 Q q =>
  ha H1 e1 _ fun x H2 e2 hx => hb H2 (e1.trans e2) _ fun y H3 e3 ⟨d, kvs, h1, h2, h3⟩ => ⟨d, valV kvs (Sum.inl k), h1, by rw [show x = kV (Sum.inl k) from hx]; exact DGet.k h2, _, rfl, by
    by_cases c : k ∈ doab n A O
    · obtain ⟨u, hu, _⟩ := (h3 k).1 c
      rw [hu]
      have := q H3 (e2.trans e3)
      rw [decide_eq_true c] at this
      exact this
    · rw [(h3 k).2 c]
      have := q H3 (e2.trans e3)
      rw [decide_eq_false c] at this
      exact this⟩
theorem get_can {k : Int} (m : k ∈ doab n A O) (ha : EvP ta σ H (IsCan n A O)) (hb : EvP tb σ H (IsI k)) : EvP (tDGet ta tb) σ H (IsTI (chg n O k)) := fun H1 e1 Q q =>
  ha H1 e1 _ fun x H2 e2 hx => hb H2 (e1.trans e2) _ fun y H3 e3 hy => by
    obtain ⟨d, kvs, h1, h2, h3⟩ := Mon.mono e3 hx
    obtain ⟨u, hu, ht⟩ := (h3 k).1 m
    exact ⟨d, u, h1, by rw [← hu, show y = kV (Sum.inl k) from hy]; exact DGet.k h2, q _ _ (e2.trans e3) ht⟩
theorem get_du {k : Int} {i : Nat} {d : Addr} (k0 : 0 ≤ k) (k1 : k < i) (h : IsDu n A O i d H) (ha : EvP ta σ H (Is (.ref d))) (hb : EvP tb σ H (IsI k)) : EvP (tDGet ta tb) σ H (IsLs IsI (duL n A O k)) := fun H1 e1 Q q =>
  ha H1 e1 _ fun x H2 e2 hx => hb H2 (e1.trans e2) _ fun y H3 e3 hy => by
    obtain ⟨dv, h1, h2, h3⟩ := h.ex ((e1.trans e2).trans e3)
    obtain ⟨u, hu, ht⟩ := h3 k k0 k1
    exact ⟨d, u, hx, by rw [← hu, show y = kV (Sum.inl k) from hy]; exact DGet.k h1, q _ _ (e2.trans e3) ht⟩
/-! ### the costs by the search -/
theorem costs_e {E : XK} {i4 i8 i13 i2 : Nat} {vs : List Nat} {vk vw : V} {k : Int} (W : Wb n A) (hv4 : σ[i4]? = some (some vk)) (hk4 : IsKn n A O vk H) (hw : ∀ x, wipe ((wipe σ vs).set i13 (some x)) vs = wipe σ vs) (h13 : ∀ x : V, ((wipe σ vs).set i13 (some x))[i13]? = some (some x))
    (h4 : ∀ x : V, ((wipe σ vs).set i13 (some x))[i4]? = some (some vk)) (h8 : ∀ x : V, ((wipe σ vs).set i13 (some x))[i8]? = some (some (.int k))) (h2 : ∀ x : V, ((wipe σ vs).set i13 (some x))[i2]? = some (some vw)) (hweb : IsWeb n A vw H) :
    EvP (tLockE (tLc (iKeysMT (tVar i4)) (gName i13) (tTest (tOp (rIn K false) (tVar i8) (tCall sp_frozen_in [] E (tCons (tVar i2) (tCons (tVar i13) tNil))))) (tDGet (tVar i4) (tVar i13)) vs)) σ H (IsPm IsI (cst n A O k)) := fun H1 e1 Q q => by
  obtain ⟨dk, kv, rfl, hdk, al⟩ := hk4
  have hd1 := e1 _ _ hdk
  refine ⟨dk, _, hd1, trivial, fun od => ?_⟩
  have tL : ExT H1 (upd H1 dk (.frz od (.dT (enK kv)))) := ExT.dT hd1
  refine ⟨_, hv4, dk, od, enK kv, rfl, upd_same, fun D hD => ?_⟩
  have nD : D ≠ dk := fun z => by rw [z, upd_same] at hD; cases hD
  have klen : kv.length ≤ 64 := by
    have := al.1.length_eq
    rw [List.length_map] at this
    have := comeL_len (A := A) (O := O) W.n6
    omega
  have elen : (enK kv).length = kv.length := by
    unfold enK
    rw [List.length_map]
  have nd : (kv.map Prod.fst).Nodup := al.1.nodup_iff.mpr comeL_nodup
  refine lc_it (walk_keysT (d := dk) (o := od) (kvs := enK kv)) (fun i H' => ∃ m : List Int, H' D = some (.lst (m.map V.int)) ∧ Ex (upd H1 dk (.frz od (.dT (enK kv)))) H' ∧ m = ((kv.take i).filter fun p => decide (k ∈ frz n A p.1)).map Prod.snd) ⟨[], upd_same, Ex.new hD, by simp⟩ (fun i H' _ ⟨m, _, x, _⟩ => x _ _ upd_same) (fun i x H' H'' hi ⟨m, h1, hx, hm⟩ hy => ?_) fun H' ⟨m, h1, hx, hm⟩ => ?_
  · obtain ⟨rfl, kk, v, qd, hkv, rfl, hq⟩ := hy
    obtain ⟨p, hp, hpe⟩ : ∃ p, kv[i]? = some p ∧ (kOf p.1, V.int p.2) = (kk, v) := by
      unfold enK at hkv
      rw [List.getElem?_map] at hkv
      exact Option.map_eq_some_iff.mp hkv
    cases hpe
    rw [kOf_map] at hq
    have pm := List.mem_of_getElem? hp
    have pc : Come n A O p.1 := mem_comeL.mp (al.1.mem_iff.mp (List.mem_map.mpr ⟨p, pm, rfl⟩))
    have web' : IsWeb n A vw H'' := IsWeb.stay ((Ex.t e1).trans (tL.trans (Ex.t hx))) hweb
    refine ⟨hw _, ?_⟩
    refine in_l (evp_var (P := IsI k) (h8 _) rfl) (evp_li (callWO W pc.sd (evp_var (h2 _) web') (evp_var (P := IsTI p.1) (h13 _) ⟨qd, rfl, hq⟩))) H'' (Ex.refl _) _ fun H3 e3 => ?_
    have tk : ((kv.take (i + 1)).filter fun p => decide (k ∈ frz n A p.1)).map Prod.snd = m ++ if decide (k ∈ frz n A p.1) then [p.2] else [] := by
      rw [take_more _ _ hp, hm]
    have ml : m.length ≤ 64 := by
      rw [hm, List.length_map]
      have := List.length_filter_le (fun p : List Int × Int => decide (k ∈ frz n A p.1)) (kv.take i)
      rw [List.length_take] at this
      omega
    by_cases c : k ∈ frz n A p.1
    · rw [decide_eq_true c, if_pos rfl]
      rw [decide_eq_true c, if_pos rfl] at tk
      obtain ⟨v, hv, hval⟩ := enK_some (kv := kv) (T := p.1) (List.mem_map.mpr ⟨p, pm, rfl⟩)
      have v1 : v = p.2 := by rw [al.2 _ pm]; exact al.2 _ hv
      refine ⟨_, h4 _, _, h13 _, dk, .int p.2, rfl, .inr ⟨enK kv, kOf p.1, qd, .inr ⟨od, e3 _ _ (hx _ _ upd_same)⟩, rfl, by rw [kOf_map]; exact e3 _ _ hq, by rw [hval, v1]⟩, ?_⟩
      refine ⟨m.map V.int, e3 _ _ h1, by rw [List.length_map]; exact sz_lt (by omega), m ++ [p.2], by rw [List.map_append]; exact upd_same, (hx.trans e3).mut hD, tk.symm⟩
    · rw [decide_eq_false c, if_neg Bool.false_ne_true]
      rw [decide_eq_false c, if_neg Bool.false_ne_true, List.append_nil] at tk
      exact ⟨m, e3 _ _ h1, hx.trans e3, tk.symm⟩
  · have hf := hx _ _ (upd_same (H := H1) (a := dk) (o := .frz od (.dT (enK kv))))
    refine ⟨hf, q _ _ (fun b o hb => ?_) ⟨m, ?_, ls_of ⟨D, rfl, by rw [upd_ne nD]; exact h1⟩⟩⟩
    · by_cases c : b = dk
      · rw [c, hd1] at hb
        rw [c, upd_same]
        exact hb
      · rw [upd_ne c]
        exact hx b o (by rw [upd_ne c]; exact hb)
    · rw [elen, List.take_length] at hm
      rw [hm]
      have e : (kv.filter fun p => decide (k ∈ frz n A p.1)).map Prod.snd = ((kv.map Prod.fst).filter fun T => decide (k ∈ frz n A T)).map fun T => (dif O T : Int) := by
        rw [List.filter_map, List.map_map]
        refine List.map_congr_left fun p hp => ?_
        exact al.2 p (List.mem_filter.mp hp).1
      rw [e]
      exact (al.1.filter _).map _
end
/-! ### the least, how often -/
def IsMn (l : List Int) : VP := fun v _ => (l = [] ∧ v = .non) ∨ ∃ m, m ∈ l ∧ (∀ x ∈ l, m ≤ x) ∧ v = .int m
section
variable {K : PySem.W.Frag} {σ : L2.St} {H : Hp} {n : Nat} {A : LD.Ar} {O : List Int} {l : List Int} {v : V} {i : Nat}
theorem emp_of {α : Type} {l : List α} (h : (!l.isEmpty) = false) : l = [] := by
  cases l with
  | nil => rfl
  | cons a l => exact Bool.noConfusion h
theorem pos_of {α : Type} {l : List α} (h : (!l.isEmpty) = true) : 0 < l.length := by
  cases l with
  | nil => exact Bool.noConfusion h
  | cons a l => exact Nat.succ_pos _
theorem mn_e (hv : σ[i]? = some (some v)) (hc : IsPm IsI l v H) : EvP (tIf (tTest (tOp (rNeD K) (tVar i) (tLst tNil))) (tCB (rMin K) (tCons (tVar i) tNil)) (tC .non)) σ H (IsMn l) := by
  refine evp_if (neP_nil (evp_var hv hc)) (fun c => ?_) fun c => evp_c.imp fun v H4 _ z => .inl ⟨emp_of c, z⟩
  obtain ⟨l', pm, hl⟩ := hc
  obtain ⟨a, rfl, ha⟩ := li_of hl
  intro H4 e4 Q' q'
  exact ⟨_, hv, a, l', rfl, SqL.of (e4 _ _ ha), by rw [pm.length_eq]; exact pos_of c, fun m hm hmin => q' _ _ (Ex.refl _) (.inr ⟨m, pm.mem_iff.mp hm, fun x hx => hmin x (pm.mem_iff.mpr hx), rfl⟩)⟩
theorem wy_e (hv : σ[i]? = some (some v)) (hc : IsPm IsI l v H) : EvP (tIf (tTest (tOp (rNeD K) (tVar i) (tLst tNil))) (tBM K "list" (rCntI K) (tVar i) (tCons (tCB (rMin K) (tCons (tVar i) tNil)) tNil)) (tC (.int 0))) σ H (IsWy l) := by
  refine evp_if (neP_nil (evp_var hv hc)) (fun c => ?_) fun c => evp_i.imp fun v H4 _ z => .inl ⟨emp_of c, z⟩
  obtain ⟨l', pm, hl⟩ := hc
  obtain ⟨a, rfl, ha⟩ := li_of hl
  intro H4 e4 Q' q'
  have hL : SqL K H4 a (l'.map V.int) := SqL.of (e4 _ _ ha)
  exact ⟨_, hv, .inl ⟨rfl, _, hL⟩, _, hv, a, l', rfl, hL, by rw [pm.length_eq]; exact pos_of c, fun m hm hmin => ⟨a, l', m, rfl, rfl, hL, q' _ _ (Ex.refl _) (.inr ⟨m, pm.mem_iff.mp hm, fun x hx => hmin x (pm.mem_iff.mpr hx), by rw [pm.count_eq]⟩)⟩⟩
theorem mem_cst {W : Wb n A} {k x : Int} : x ∈ cst n A O k ↔ ∃ T, Come n A O T ∧ Fz A T k ∧ (dif O T : Int) = x := by
  unfold cst
  rw [List.mem_map]
  constructor
  · rintro ⟨T, hT, rfl⟩
    have z := List.mem_filter.mp hT
    exact ⟨T, mem_comeL.mp z.1, (mem_frz W).mp (of_decide_eq_true z.2), rfl⟩
  · rintro ⟨T, C, F, rfl⟩
    exact ⟨T, List.mem_filter.mpr ⟨mem_comeL.mpr C, decide_eq_true ((mem_frz W).mpr F)⟩, rfl⟩
/-- the fewest by the program, by the law -/
theorem few_mn (W : Wb n A) {k : Int} {x y : V} {H H' : Hp} (hx : IsFw n A O k x H) (hy : IsMn (cst n A O k) y H') : Sc x ∧ y = x := by
  obtain ⟨r, hr, rfl⟩ := hx
  cases r with
  | none =>
    refine ⟨.inl rfl, ?_⟩
    rcases hy with ⟨_, h⟩ | ⟨m, h1, _⟩
    · exact h
    · obtain ⟨T, C, F, _⟩ := (mem_cst (W := W)).mp h1
      exact absurd F (hr T C)
  | some d =>
    refine ⟨.inr (.inl ⟨d, rfl⟩), ?_⟩
    obtain ⟨⟨T, C, F, e⟩, h2⟩ := hr
    rcases hy with ⟨h, _⟩ | ⟨m, h1, h3, h4⟩
    · have := (mem_cst (W := W)).mpr ⟨T, C, F, rfl⟩
      rw [h] at this
      exact absurd this (by simp)
    · obtain ⟨T', C', F', e'⟩ := (mem_cst (W := W)).mp h1
      have a1 := h2 T' C' F'
      have a2 := h3 _ ((mem_cst (W := W)).mpr ⟨T, C, F, rfl⟩)
      have : m = (d : Int) := by omega
      rw [h4, this]
      rfl
theorem wy_wy {x y : V} {H H' : Hp} (hx : IsWy l x H) (hy : IsWy l y H') : Sc x ∧ y = x := by
  rcases hx with ⟨h1, rfl⟩ | ⟨m, m1, m2, rfl⟩
  · refine ⟨.inr (.inl ⟨_, rfl⟩), ?_⟩
    rcases hy with ⟨_, h⟩ | ⟨m, m1, _⟩
    · exact h
    · rw [h1] at m1
      exact absurd m1 (by simp)
  · refine ⟨.inr (.inl ⟨_, rfl⟩), ?_⟩
    rcases hy with ⟨h, _⟩ | ⟨m', m1', m2', rfl⟩
    · rw [h] at m1
      exact absurd m1 (by simp)
    · have a1 := m2 _ m1'
      have a2 := m2' _ m1
      have : m' = m := by omega
      rw [this]
theorem due_fdd (W : Wb n A) : ((rng n).filter fun k => !(duL n A O k).isEmpty) = fdd n A O := by
  unfold fdd
  refine Asc.ext ((rng_asc n).filter _) ((sd_rng _).asc.filter _) fun k => ?_
  rw [List.mem_filter, List.mem_filter]
  unfold duL
  constructor
  · rintro ⟨h1, h2⟩
    by_cases c : k ∈ doab n A O
    · rw [if_pos c] at h2
      exact ⟨c, h2⟩
    · rw [if_neg c] at h2
      exact Bool.noConfusion h2
  · rintro ⟨h1, h2⟩
    refine ⟨mem_rng.mpr (mem_doab.mp h1).1, ?_⟩
    rw [if_pos h1]
    exact h2
end
end LDW

/-! The law. -/
namespace LDW
open PySem PySem.Spec PyProof.Rows L2 Evl LD
theorem pss_when {X : Cx} {sts : List Stmt} {c : Prop} {t : TS} (h : c → PSs X sts t) : PSs X sts (fun D σ H => c ∧ t D σ H) := ⟨fun pins s σ H D I ⟨hc, ht⟩ => (h hc).run pins s σ H D I ht⟩
/-- told = 'deed' if isinstance(error, BadDeed) else 'other' -/
def t_suite (K : PySem.W.Frag) (C : Addr) : Addr → Value → Option Addr → TS := fun a cls d D σ H => (cls = .ref C ∧ d = none) ∧
  tAsg (tIf (tB (tCB (rIsE K C a) (tCons (tVar 10) (tCons (tC (.ref C)) tNil)))) (tC (.str "deed")) (tC (.str "other"))) (gName 9) D σ H
theorem q_lock {te : TE} {tz : TS} {D : Ends} {σ : L2.St} {H : Hp} {P : VP} {i : Nat} (h : EvP (tLockE te) σ H P) (k : ∀ v H1, Ex H H1 → P v H1 → tz D (σ.set i (some v)) H1) : tSeq (tLock (tAsg te (gName i))) tz D σ H := h H (Ex.refl _) (fun v H1 => tz D (σ.set i (some v)) H1) k
theorem q_asgG {te : TE} {g : TG} {tz : TS} {D : Ends} {σ : L2.St} {H : Hp} {P : VP} (h : EvP te σ H P) (k : ∀ v H1, Ex H H1 → P v H1 → g v σ H1 (tz D)) : tSeq (tAsg te g) tz D σ H := h H (Ex.refl _) (fun v H1 => g v σ H1 (tz D)) k
theorem q_dput {td ty tv : TE} {tz : TS} {D : Ends} {σ : L2.St} {H : Hp} {P : VP} (h : EvP tv σ H P) (k : ∀ v H1, Ex H H1 → P v H1 → td σ H1 fun x H2 => ty σ H2 fun y H3 => ∃ a H4, x = .ref a ∧ DPut H3 a y v H4 ∧ tz D σ H4) : tSeq (sDPut td ty tv) tz D σ H := h H (Ex.refl _) _ k
theorem s_callS {sp : Sp} {Ew : L2.St → XK} {ta : TA} {D : Ends} {σ : L2.St} {H : Hp} {Ps : List VP} {i : Nat} (h : EvAP ta σ H Ps) (k : ∀ vs H1, Ex H H1 → AllP Ps vs H1 → sp vs H1 (fun v H2 => D.nx (σ.set i (some v)) H2) (Ew σ)) : tAsg (tCallS sp Ew ta) (gName i) D σ H := h H (Ex.refl _) _ k
instance (n : Nat) (A : LD.Ar) (O : List Int) (k : Int) : Mon (IsFw n A O k) := ⟨fun _ h => h⟩
instance (l : List Int) : Mon (IsWy l) := ⟨fun _ h => h⟩
instance (l : List Int) : Mon (IsMn l) := ⟨fun _ h => h⟩
theorem fil_one (p : Int → Bool) (x : Int) : [x].filter p = if p x = true then [x] else [] := by
  cases h : p x <;> simp [h]
theorem kit_self {K : PySem.W.Frag} (C : Addr) : PySem.W.kitOne K (.ref C) (.ref C) = some true := by
  unfold PySem.W.kitOne
  rw [if_pos (by simp)]
/-- a statement in the midst: what holds behind it -/
theorem q_fin {t tz : TS} {D : Ends} {σ : L2.St} {H : Hp} (M : L2.St → Hp → Prop) (hm : ∀ σ' H', M σ' H' → tz D σ' H') (h : (∀ σ' H', M σ' H' → tz D σ' H') → t { D with nx := tz D } σ H) : tSeq t tz D σ H := h hm
/-- what is told of a deed -/
def IsTold (n : Nat) (A : LD.Ar) (O : List Int) (k : Int) : VP := fun v H => (Can A O k ∧ IsTI (nwl n A O k) v H) ∨ (¬ Can A O k ∧ v = .str "deed")
instance (n : Nat) (A : LD.Ar) (O : List Int) (k : Int) : Mon (IsTold n A O k) := ⟨fun e h => h.elim (fun z => .inl ⟨z.1, Mon.mono e z.2⟩) .inr⟩
theorem told_told {n : Nat} {A : LD.Ar} {O : List Int} {k : Int} (n6 : n ≤ 6) {x y : V} {H : Hp} (hx : IsTold n A O k x H) (hy : IsTold n A O k y H) : (Sc x ∧ y = x) ∨ ∃ l : List Int, l.length ≤ 1000 ∧ IsTI l x H ∧ IsTI l y H := by
  rcases hx with ⟨c, h⟩ | ⟨c, h⟩
  · rcases hy with ⟨_, h'⟩ | ⟨c', _⟩
    · have := (nwl_sd (n := n) (A := A) (O := O) (k := k)).len
      exact .inr ⟨_, by omega, h, h'⟩
    · exact absurd c c'
  · rcases hy with ⟨c', _⟩ | ⟨_, h'⟩
    · exact absurd c' c
    · exact .inl ⟨.inr (.inr ⟨_, h⟩), h'.trans h.symm⟩
section
variable {P : Program} {w : World} {K : PySem.W.Frag} {mg : Str → Option Value} {base : Heap}
def sp_law (K : PySem.W.Frag) : Sp := fun vs H Q _ => ∃ (a : Addr) (ns : List Int), vs = [.ref a] ∧ SqL K H a (ns.map V.int) ∧ ∀ H', Q (.bl true) H'
theorem ok_law (T : Txt K mg) : FnOk P w K mg base CX0 8 T.a_law T.d_law ["_law_script"] (sp_law K) := by
  refine T.F_law.ok sc_law (fun vs H Q E h => ?_) fun cdv Ar outer s H vs Q E hr h => ?_
  · obtain ⟨a, ns, rfl, _⟩ := h
    rfl
  obtain ⟨a, ns, rfl, hS, q⟩ := h
  refine ⟨_, (pss_cons (ps_set (i := 1) sc_law.nd rfl (Or.inl rfl) (pe_lst (pa_cons (pv 0) (pa_cons pe_int (pa_cons pe_int (pa_cons pe_int pa_nil))))))
      (pss_cons (ps_set (i := 2) sc_law.nd rfl (Or.inr rfl) (pe_call (ok__law_web T) (hr.mono (by decide)) (by rfl) T.g__law_web T.F__law_web.kp T.b__law_web .nil pass0 (pa_cons (pv 1) (pa_cons pe_int pa_nil))))
      (pss_cons (ps_set (i := 3) sc_law.nd rfl (Or.inl rfl) (pe_call (ok__law_standing T) (hr.mono (by decide)) (by rfl) T.g__law_standing T.F__law_standing.kp T.b__law_standing .nil pass0 (pa_cons (pv 1) (pa_cons (pv 2) pa_nil))))
      (pss_cons (ps_asg (pe_tup (pa_cons (pe_call (ok__law_from T) (hr.mono (by decide)) (by rfl) T.g__law_from T.F__law_from.kp T.b__law_from .nil pass0 (pa_cons (pv 2) (pa_cons (pv 3) pa_nil))) (pa_cons (pe_call (ok__law_frozen T) (hr.mono (by decide)) (by rfl) T.g__law_frozen T.F__law_frozen.kp T.b__law_frozen .nil pass0 (pa_cons (pv 2) (pa_cons (pv 3) pa_nil))) (pa_cons (pe_callTy (call_dictP rfl) (by rfl) T.z_dict (by decide +kernel) (pa_cons (pe_call (ok__law_after T) (hr.mono (by decide)) (by rfl) T.g__law_after T.F__law_after.kp T.b__law_after .nil pass0 (pa_cons (pv 2) (pa_cons (pv 3) pa_nil))) pa_nil)) pa_nil)))) (kPgT (K := K) rfl rfl (pgs_cons (pg_name (i := 4) sc_law.nd rfl (Or.inr rfl)) (pgs_cons (pg_name (i := 5) sc_law.nd rfl (Or.inr rfl)) (pgs_cons (pg_name (i := 6) sc_law.nd rfl (Or.inl rfl)) pgs_nil)))))
      (pss_cons (ps_set (i := 7) sc_law.nd rfl (Or.inr rfl) pe_dnewK)
      (pss_cons (ps_for PassesOwn.never rfl (pi_range1 (by rfl) T.z_range (pa_cons (pe_ix (kIxT (K := K) rfl) (pv 2) pe_int (fun _ _ => rfl)) pa_nil)) (pg_name (i := 8) sc_law.nd rfl (Or.inr rfl)) (pss_cons (ps_set (i := 9) sc_law.nd rfl (Or.inl rfl) pe_non)
      (pss_cons (ps_try_as (i := 10) (tb := fun W => tAsg (tCallS (sp_frozen_by T.a_BadDeed) (WE W) (tCons (tVar 2) (tCons (tVar 3) (tCons (tVar 8) tNil)))) (gName 9)) (ts := t_suite K T.a_BadDeed) (Wout := fun _ _ _ _ => False) rfl rfl sc_law.nd rfl rfl ⟨rfl, by decide, Or.inl T.g_DoorError⟩ takes0
        (fun W pn xe tk _ => pss_one (ps_set (i := 9) sc_law.nd rfl (Or.inl rfl) (by exact (pe_callS (ok_frozen_by T) (hr.mono (by decide)) rfl T.g_frozen_by T.F_frozen_by.kp T.b_frozen_by (fun σ => passAt tk σ) (by exact (pa_cons (pv 2) (pa_cons (pv 3) (pa_cons (pv 8) pa_nil))))))))
        (fun a oe cls d pn hz hf => pss_when fun hc => by
          obtain ⟨rfl, rfl⟩ := hc
          exact pss_one (ps_set (i := 9) sc_law.nd rfl (Or.inl rfl) (pe_ifExp (pt_val (pe_callB (call_isE T.c_BadDeed hz hf) (by rfl) T.z_isinstance (by decide +kernel) (pa_cons (pv 10) (pa_cons (pe_glob (v := .ref T.a_BadDeed) (by rfl) T.g_BadDeed rfl) pa_nil)))) pe_str pe_str))))
      (pss_cons (ps_dput (hu_of hr) (pv 7) (pv 8) (pe_ifExp (pt_cmp (pc_din (hu_of hr) (pv 8) (pv 6)) (by rfl)) (pe_lc (own := [("_law_j", 14)]) (g := (gName 14)) rfl sc_law.nd (kPiL (K := K) rfl (pe_call (ok__law_frozen T) (hr.mono (by decide)) (by rfl) T.g__law_frozen T.F__law_frozen.kp T.b__law_frozen .nil pass0 (pa_cons (pv 2) (pa_cons (pe_dget (hu_of hr) (pv 6) (pv 8) (fun _ _ => rfl)) pa_nil)))) (blkOk_by (own := [("_law_j", 14)]) (N := ["_law_script", "_law_row", "_law_web_here", "_law_opened", "_law_known", "_law_cold", "_law_can", "_law_due", "_law_k", "_law_told", "error", "_law_never", "_law_costs", "_law_there", "_law_j"]) (sc := defScope s_law) (by decide +kernel)) (fun _ _ _ _ _ => (pg_name (i := 14) sc_law.nd rfl (Or.inl rfl))) (fun _ _ _ _ _ => (pts_one (pt_cmpR (kNotIn (K := K) rfl) (pv 14) (pv 5) (by rfl)))) (fun _ _ _ _ _ => (pv 14))) (pe_lst pa_nil)) rfl)
      (pss_one (ps_if (pt_not (pt_val (pe_call (ok__law_alike T) (hr.mono (by decide)) (by rfl) T.g__law_alike T.F__law_alike.kp T.b__law_alike .nil pass0 (pa_cons (pv 9) (pa_cons (pe_ifExp (pt_cmp (pc_din (hu_of hr) (pv 8) (pv 6)) (by rfl)) (pe_callTy (kTuple (K := K) rfl) (by rfl) T.z_tuple (by decide +kernel) (pa_cons (pe_dget (hu_of hr) (pv 7) (pv 8) (fun _ _ => rfl)) pa_nil)) pe_str) pa_nil))))) (pss_one (ps_ret pe_bl)) pss_nil))))))
      (pss_cons (ps_if (pt_not (pt_val (pe_call (ok__law_alike T) (hr.mono (by decide)) (by rfl) T.g__law_alike T.F__law_alike.kp T.b__law_alike .nil pass0 (pa_cons (pe_call (ok_freezing_deeds T) (hr.mono (by decide)) (by rfl) T.g_freezing_deeds T.F_freezing_deeds.kp T.b_freezing_deeds .nil pass0 (pa_cons (pv 2) (pa_cons (pv 3) pa_nil))) (pa_cons (pe_callTy (kTuple (K := K) rfl) (by rfl) T.z_tuple (by decide +kernel) (pa_cons (pe_lc (own := [("_law_k", 8)]) (g := (gName 8)) rfl sc_law.nd (pi_range1 (by rfl) T.z_range (pa_cons (pe_ix (kIxT (K := K) rfl) (pv 2) pe_int (fun _ _ => rfl)) pa_nil)) (blkOk_by (own := [("_law_k", 8)]) (N := ["_law_script", "_law_row", "_law_web_here", "_law_opened", "_law_known", "_law_cold", "_law_can", "_law_due", "_law_k", "_law_told", "error", "_law_never", "_law_costs", "_law_there", "_law_j"]) (sc := defScope s_law) (by decide +kernel)) (fun _ _ _ _ _ => (pg_name (i := 8) sc_law.nd rfl (Or.inl rfl))) (fun _ _ _ _ _ => (pts_one (pt_cmpR (kNeD (K := K) rfl hr.units) (pe_dget (hu_of hr) (pv 7) (pv 8) (fun _ _ => rfl)) (pe_lst pa_nil) (nomark _)))) (fun _ _ _ _ _ => (pv 8))) pa_nil)) pa_nil))))) (pss_one (ps_ret pe_bl)) pss_nil)
      (pss_cons (ps_set (i := 11) sc_law.nd rfl (Or.inl rfl) (pe_lst pa_nil))
      (pss_cons (ps_for PassesOwn.never rfl (pi_range1 (by rfl) T.z_range (pa_cons (pe_ix (kIxT (K := K) rfl) (pv 2) pe_int (fun _ _ => rfl)) pa_nil)) (pg_name (i := 8) sc_law.nd rfl (Or.inr rfl)) (pss_cons (ps_lock (ps_setLc (i := 12) (own := [("_law_there", 13)]) (g := (gName 13)) rfl sc_law.nd rfl rfl (sw_true rfl rfl rfl (by decide +kernel)) (pi_keysMT (pv 4)) (blkOk_by (own := [("_law_there", 13)]) (N := ["_law_script", "_law_row", "_law_web_here", "_law_opened", "_law_known", "_law_cold", "_law_can", "_law_due", "_law_k", "_law_told", "error", "_law_never", "_law_costs", "_law_there", "_law_j"]) (sc := defScope s_law) (by decide +kernel)) (fun _ _ _ _ _ => (pg_name (i := 13) sc_law.nd rfl (Or.inl rfl))) (fun _ _ _ _ _ => (pts_one (pt_cmpR (kIn (K := K) rfl) (pv 8) (pe_call (ok__law_frozen T) (hr.mono (by decide)) (by rfl) T.g__law_frozen T.F__law_frozen.kp T.b__law_frozen .nil pass0 (pa_cons (pv 2) (pa_cons (pv 13) pa_nil))) (by rfl)))) (fun _ _ _ _ _ => (pe_dget (hu_of hr) (pv 4) (pv 13) (fun _ _ => rfl)))))
      (pss_cons (ps_if (pt_not (pt_val (pe_call (ok__law_alike T) (hr.mono (by decide)) (by rfl) T.g__law_alike T.F__law_alike.kp T.b__law_alike .nil pass0 (pa_cons (pe_call (ok_fewest_to_freeze T) (hr.mono (by decide)) (by rfl) T.g_fewest_to_freeze T.F_fewest_to_freeze.kp T.b_fewest_to_freeze .nil pass0 (pa_cons (pv 2) (pa_cons (pv 3) (pa_cons (pv 8) pa_nil)))) (pa_cons (pe_ifExp (pt_cmpR (kNeD (K := K) rfl hr.units) (pv 12) (pe_lst pa_nil) (nomark _)) (pe_callB (kMin (K := K) rfl rfl) (by rfl) T.z_min (by decide +kernel) (pa_cons (pv 12) pa_nil)) pe_non) pa_nil))))) (pss_one (ps_ret pe_bl)) pss_nil)
      (pss_cons (ps_if (pt_not (pt_val (pe_call (ok__law_alike T) (hr.mono (by decide)) (by rfl) T.g__law_alike T.F__law_alike.kp T.b__law_alike .nil pass0 (pa_cons (pe_call (ok_freeze_ways T) (hr.mono (by decide)) (by rfl) T.g_freeze_ways T.F_freeze_ways.kp T.b_freeze_ways .nil pass0 (pa_cons (pv 2) (pa_cons (pv 3) (pa_cons (pv 8) pa_nil)))) (pa_cons (pe_ifExp (pt_cmpR (kNeD (K := K) rfl hr.units) (pv 12) (pe_lst pa_nil) (nomark _)) (pe_bm PySem.F.plainAttrs_list PySem.F.slot_list_count PySem.F.type_list_count (kCount (K := K) rfl) (pv 12) (pa_cons (pe_callB (kMin (K := K) rfl rfl) (by rfl) T.z_min (by decide +kernel) (pa_cons (pv 12) pa_nil)) pa_nil)) pe_int) pa_nil))))) (pss_one (ps_ret pe_bl)) pss_nil)
      (pss_one (ps_set (i := 11) sc_law.nd rfl (Or.inl rfl) (pe_op op_cat (pv 11) (pe_ifExp (pt_cmpR (kEqD (K := K) rfl hr.units) (pv 12) (pe_lst pa_nil) (nomark _)) (pe_lst (pa_cons (pv 8) pa_nil)) (pe_lst pa_nil)))))))))
      (pss_one (ps_ret (pe_call (ok__law_alike T) (hr.mono (by decide)) (by rfl) T.g__law_alike T.F__law_alike.kp T.b__law_alike .nil pass0 (pa_cons (pe_call (ok_never_frozen T) (hr.mono (by decide)) (by rfl) T.g_never_frozen T.F_never_frozen.kp T.b_never_frozen .nil pass0 (pa_cons (pv 2) (pa_cons (pv 3) pa_nil))) (pa_cons (pe_callTy (kTuple (K := K) rfl) (by rfl) T.z_tuple (by decide +kernel) (pa_cons (pv 11) pa_nil)) pa_nil)))))))))))))), ?_⟩
  refine q_asgL (el_lst (ea_cons (ev_of (evp_var (P := Is (.ref a)) rfl rfl)) (ea_cons (ev_of evp_c) (ea_cons (ev_of evp_c) (ea_cons (ev_of evp_c) ea_nil)))) (by simp)) fun r H1 hr0 e1 hrow => ?_
  have R := row_new (K := K) hS hr0 e1 hrow
  refine ⟨_, rfl, a, r, ns, rfl, R, fun n A vw H2 W hweb y2 c2 => ?_⟩
  refine ⟨_, rfl, _, rfl, a, r, ns, n, A, vw, rfl, R.go y2 c2, W, hweb, fun O vo H3 S hO t3 => ?_⟩
  have n6 := W.n6
  have web3 := IsWeb.stay t3 hweb
  -- known, cold, can
  refine q_asgG (evp_tup (eap_cons (P := IsKn n A O) (callWO W S (evp_var rfl web3) (evp_var rfl hO)) (eap_cons (P := IsLs IsI (frz n A O)) (callWO W S (evp_var rfl web3) (evp_var rfl hO)) (eap_cons (P := IsCan n A O) (can_e (EvN.p (call_after W S (evp_var rfl web3) (evp_var rfl hO)))) eap_nil))) (by show 3 ≤ 100000; decide)) fun v3 H4 e4 ⟨a3, xs, z1, z2, H30, e30, hv⟩ => ?_
  obtain ⟨vk, vc, vn, rfl, hk, hc, hcan⟩ := all3 hv
  refine ⟨a3, _, z1, SqT.of z2, rfl, _, _, rfl, _, _, rfl, _, _, rfl, rfl, ?_⟩
  have web4 := Mon.mono e4 web3
  have hO4 := Mon.mono e4 hO
  have hk4 := Mon.mono e30 hk
  have hc4 := Mon.mono e30 hc
  have hcan4 := Mon.mono e30 hcan
  -- due = {}
  refine fun du hdu => ?_
  have e5 := Ex.new (o := .dK []) hdu
  refine q_forR1 (n := (n : Int)) (ea_cons (ev_of (web0 (evp_var rfl (Mon.mono e5 web4)))) ea_nil) (by omega) (fun i σ' H' => ∃ x8 x9, σ' = [some (.ref a), some (.ref r), some vw, some vo, some vk, some vc, some vn, some (.ref du), x8, x9, none, none, none, none, none] ∧ Ex H4 H' ∧ IsDu n A O i du H') (fun H6 e6 => ⟨none, none, rfl, e5.trans e6, [], e6 _ _ upd_same, Nat.zero_le _, fun j j0 j1 => absurd j1 (by omega)⟩) (fun i σ' H' hi ⟨x8, x9, hσ, e, hdu'⟩ => ?_) fun σ' H' ⟨x8, x9, hσ, e, hdu'⟩ => ?_
  · subst hσ
    have hk' : (0 : Int) ≤ (i : Int) ∧ (i : Int) < n := ⟨by omega, hi⟩
    refine qP_asg evp_c fun v9 H6 e6 h9 => ?_
    have e06 := e.trans e6
    refine q_fin (fun σ' H7 => ∃ told, σ' = [some (.ref a), some (.ref r), some vw, some vo, some vk, some vc, some vn, some (.ref du), some (.int (i : Int)), some told, none, none, none, none, none] ∧ Ex H6 H7 ∧ IsTold n A O i told H7) (fun σ' H7 ⟨told, hσ, e7, htold⟩ => ?_) fun fin => ?_
    · subst hσ
      have e07 := e06.trans e7
      have web7 := Mon.mono e07 web4
      have hO7 := Mon.mono e07 hO4
      have hc7 := Mon.mono e07 hc4
      have hcan7 := Mon.mono e07 hcan4
      have du7 := hdu'.ex (e6.trans e7)
      refine q_dput (P := IsLs IsI (duL n A O i)) (evp_if (in_can (evp_var (P := IsI i) rfl rfl) (evp_var rfl hcan7)) (fun c => ?_) (fun c => ?_)) fun vd H8 e8 hvd => ?_
      · have m := of_decide_eq_true c
        unfold duL
        rw [if_pos m]
        have fl := frz_len (n := n) (A := A) (O := chg n O i)
        exact evp_ls (lcL (R := IsI) (S := IsI) (fun j => !decide (j ∈ frz n A O)) (fun j => j) _ (callWO W chg_sd (evp_var rfl web7) (get_can m (evp_var rfl hcan7) (evp_var (P := IsI i) rfl rfl))) (by omega) tg_name (fun _ _ => rfl) (fun j _ x H8 e8 hx => ni_l (evp_var rfl hx) (evp_li (vr e8 hc7 rfl))) (fun j _ _ x H8 e8 hx => evp_var rfl hx)) (by rw [map_id]; rfl)
      · have m := of_decide_eq_false c
        unfold duL
        rw [if_neg m]
        exact evp_nil
      obtain ⟨dv, d1, d2, d3⟩ := du7.ex e8
      refine ⟨_, rfl, _, rfl, du, _, rfl, DPut.k (k := Sum.inl (i : Int)) d1 (sz_lt (by omega)), ?_⟩
      have tq : ExT H8 (upd H8 du (.dK (putK dv (Sum.inl (i : Int)) vd))) := fun b ys z => by
        have nb : b ≠ du := fun y => by rw [y, d1] at z; cases z
        rw [upd_ne nb]
        exact z
      have lq : ∀ {l : List Int} {u : V}, IsLs IsI l u H8 → IsLs IsI l u (upd H8 du (.dK (putK dv (Sum.inl (i : Int)) vd))) := fun h => by
        have h' := li_of h
        obtain ⟨b, rfl, hb⟩ := h'
        have nb : b ≠ du := fun y => by rw [y, d1] at hb; cases hb
        exact ls_of ⟨b, rfl, by rw [upd_ne nb]; exact hb⟩
      have exq : Ex H4 (upd H8 du (.dK (putK dv (Sum.inl (i : Int)) vd))) := (e07.trans e8).mut hdu
      have du9 : IsDu n A O (i + 1) du (upd H8 du (.dK (putK dv (Sum.inl (i : Int)) vd))) := ⟨_, upd_same, Nat.le_trans (length_putK _ _ _) (by omega), fun j j0 j1 => by
        rw [valV_put]
        by_cases c : j = (i : Int)
        · rw [if_pos (by rw [c])]
          exact ⟨vd, rfl, by rw [c]; exact lq hvd⟩
        · rw [if_neg (fun z => c (Sum.inl.inj z))]
          obtain ⟨u, u1, u2⟩ := d3 j j0 (by omega)
          exact ⟨u, u1, lq u2⟩⟩
      have told9 : IsTold n A O i told (upd H8 du (.dK (putK dv (Sum.inl (i : Int)) vd))) := (Mon.mono e8 htold).elim (fun z => .inl ⟨z.1, Tup.stay tq z.2⟩) .inr
      have can9 := Mon.mono exq hcan4
      refine s_no (evt_is (et_not (evt_val (call_alike (P1 := IsTold n A O i) (P2 := IsTold n A O i) (evp_var rfl told9) (evp_if (in_can (evp_var (P := IsI i) rfl rfl) (evp_var rfl can9)) (fun c => ?_) fun c => ?_) fun x y H9 e9 hx hy => told_told n6 hx hy))) rfl) fun H9 e9 => ⟨_, _, rfl, exq.trans e9, du9.ex e9⟩
      · have m := of_decide_eq_true c
        refine (evp_ti (tuple_l (get_du hk'.1 (by omega) du9 (evp_var rfl rfl) (evp_var (P := IsI i) rfl rfl)))).imp fun v H9 _ hv => .inl ⟨(mem_doab.mp m).2, ?_⟩
        unfold duL at hv
        rw [if_pos m] at hv
        exact hv
      · have m := of_decide_eq_false c
        exact evp_c.imp fun v H9 _ hv => .inr ⟨fun z => m (mem_doab.mpr ⟨hk', z⟩), hv⟩
    · -- try
      have web6 := Mon.mono e06 web4
      have hO6 := Mon.mono e06 hO4
      show tAsg (tCallS _ _ _) (gName 9) _ _ _
      refine s_callS (eap_cons (evp_var rfl web6) (eap_cons (evp_var rfl hO6) (eap_cons (evp_var (P := IsI i) rfl rfl) eap_nil))) fun vs H7 e7 hv => ⟨n, A, O, i, W, S, hk', hv, fun hc v H8 e8 hT => fin _ _ ⟨v, rfl, e7.trans e8, .inl ⟨hc, hT⟩⟩, fun hc H8 e8 => ⟨true, T.e_BadDeed, fun _ b hb => ⟨⟨rfl, rfl⟩, ?_⟩, fun z => Bool.noConfusion z⟩⟩
      exact sP_asg (P := Is (.str "deed")) (evp_if (b := true) (evt_val (evp_cb (eap_cons (evp_var (P := Is (.ref b)) rfl rfl) (eap_cons evp_c eap_nil)) fun vs H9 _ hv => by
        obtain ⟨x, y, rfl, p1, p2⟩ := all2 hv
        cases p1
        cases p2
        exact gv_val fun Q q => ⟨_, .ref T.a_BadDeed, true, rfl, fun u h => h, kit_self _, q⟩)) (fun _ => evp_c) fun z => Bool.noConfusion z) fun v H9 e9 hv => fin _ _ ⟨v, rfl, (e7.trans e8).trans e9, .inr ⟨hc, hv⟩⟩
  subst hσ
  have web5 := Mon.mono e web4
  have hO5 := Mon.mono e hO4
  have alk : ∀ {l : List Int}, l.length ≤ 1000 → ∀ x y H1, Ex H' H1 → IsTI l x H1 → IsTI l y H1 → (Sc x ∧ y = x) ∨ ∃ l : List Int, l.length ≤ 1000 ∧ IsTI l x H1 ∧ IsTI l y H1 := fun hl x y H1 _ h1 h2 => .inr ⟨_, hl, h1, h2⟩
  have fl : (fdd n A O).length ≤ 1000 := by
    have h1 := List.length_filter_le (fun k => !(nwl n A O k).isEmpty) (doab n A O)
    have h2 := fil_len n6 fun k => decide (Can A O k)
    show ((doab n A O).filter _).length ≤ 1000
    have h3 : (doab n A O).length ≤ 6 := h2
    omega
  refine q_no (evt_is (et_not (evt_val (call_alike (P1 := IsTI (fdd n A O)) (P2 := IsTI (fdd n A O)) (callWO W S (evp_var rfl web5) (evp_var rfl hO5)) (evp_ti (tuple_l (evp_ls (lcR (S := IsI) (fun k => !(duL n A O k).isEmpty) (fun k => k) (web0 (evp_var rfl web5)) (by omega) (fun _ => rfl) (fun k k0 k1 H6 e6 => ne_nil (get_du k0 k1 (hdu'.ex e6) (evp_var rfl rfl) (evp_var (P := IsI k) rfl rfl))) (fun k _ _ _ H6 e6 => evp_var rfl rfl)) (by rw [map_id]; exact due_fdd W)))) (alk fl)))) rfl) fun H6 e6 => ?_
  have e46 := e.trans e6
  refine qP_asg (evp_nil (R := IsI)) fun vl H7 e7 hl => ?_
  have e47 := e46.trans e7
  refine q_forR1 (n := (n : Int)) (ea_cons (ev_of (web0 (evp_var rfl (Mon.mono e47 web4)))) ea_nil) (by omega) (fun i σ' H' => ∃ x8 x9 v11 x12, σ' = [some (.ref a), some (.ref r), some vw, some vo, some vk, some vc, some vn, some (.ref du), x8, x9, none, some v11, x12, none, none] ∧ Ex H4 H' ∧ IsLs IsI (((rng n).take i).filter fun k => (cst n A O k).isEmpty) v11 H') (fun H8 e8 => ⟨_, _, vl, none, rfl, e47.trans e8, Mon.mono e8 hl⟩) (fun i σ' H' hi ⟨x8, x9, v11, x12, hσ, e, h11⟩ => ?_) fun σ' H' ⟨x8, x9, v11, x12, hσ, e, h11⟩ => ?_
  · subst hσ
    have hk' : (0 : Int) ≤ (i : Int) ∧ (i : Int) < n := ⟨by omega, hi⟩
    refine q_lock (costs_e (n := n) (A := A) (O := O) (k := (i : Int)) (vk := vk) (vw := vw) W rfl (Mon.mono e hk4) (fun _ => rfl) (fun _ => rfl) (fun _ => rfl) (fun _ => rfl) (fun _ => rfl) (Mon.mono e web4)) fun v12 H8 e8 h12 => ?_
    have e48 := e.trans e8
    refine q_no (evt_is (et_not (evt_val (call_alike (P1 := IsFw n A O i) (P2 := IsMn (cst n A O i)) (callWOD W S hk' (evp_var rfl (Mon.mono e48 web4)) (evp_var rfl (Mon.mono e48 hO4)) (evp_var (P := IsI i) rfl rfl)) (mn_e rfl h12) fun x y H9 _ hx hy => .inl (few_mn W hx hy)))) rfl) fun H9 e9 => ?_
    have e49 := e48.trans e9
    refine q_no (evt_is (et_not (evt_val (call_alike (P1 := IsWy (cst n A O i)) (P2 := IsWy (cst n A O i)) (callWOD W S hk' (evp_var rfl (Mon.mono e49 web4)) (evp_var rfl (Mon.mono e49 hO4)) (evp_var (P := IsI i) rfl rfl)) (wy_e rfl (Mon.mono e9 h12)) fun x y H10 _ hx hy => .inl (wy_wy hx hy)))) rfl) fun H10 e10 => ?_
    have tk : ((rng n).take (i + 1)).filter (fun k => (cst n A O k).isEmpty) = ((rng n).take i).filter (fun k => (cst n A O k).isEmpty) ++ if (cst n A O (i : Int)).isEmpty = true then [(i : Int)] else [] := by
      have hi' : i < n := by omega
      have hg : (rng n)[i]? = some (i : Int) := by
        unfold rng
        rw [List.getElem?_map, List.getElem?_range hi']
        rfl
      rw [List.take_add_one, hg, List.filter_append]
      congr 1
      exact fil_one (fun k => (cst n A O k).isEmpty) (i : Int)
    refine sP_asg (P := IsLs IsI (((rng n).take (i + 1)).filter fun k => (cst n A O k).isEmpty)) (evp_ls (cat_l (R := IsI) (m := if (cst n A O (i : Int)).isEmpty = true then [(i : Int)] else []) (vr ((e8.trans e9).trans e10) h11 rfl) (evp_if (eqP_nil (vr (e9.trans e10) h12 rfl)) (fun c => ?_) fun c => ?_) ?_) tk.symm) fun v H11 e11 hv => ⟨_, _, v, _, rfl, (e49.trans e10).trans e11, hv⟩
    · rw [if_pos c]
      exact one_l (evp_var (P := IsI i) rfl rfl)
    · rw [if_neg (by rw [c]; exact Bool.false_ne_true)]
      exact evp_nil
    · have h1 := List.length_filter_le (fun k => (cst n A O k).isEmpty) ((rng n).take i)
      rw [List.length_take, rng_length] at h1
      split <;> simp only [List.length_cons, List.length_nil] <;> omega
  · subst hσ
    have h11' : IsLs IsI ((rng n).filter fun k => (cst n A O k).isEmpty) v11 H' := by
      have e : (rng n).take (n : Int).toNat = rng n := by
        rw [List.take_of_length_le (by rw [rng_length]; omega)]
      rw [e] at h11
      exact h11
    have nl : ((rng n).filter fun k => (cst n A O k).isEmpty).length ≤ 1000 := by
      have := fil_len n6 fun k => (cst n A O k).isEmpty
      omega
    exact sP_ret (call_alike (P1 := IsTI ((rng n).filter fun k => (cst n A O k).isEmpty)) (P2 := IsTI ((rng n).filter fun k => (cst n A O k).isEmpty)) (callWO W S (evp_var rfl (Mon.mono e web4)) (evp_var rfl (Mon.mono e hO4))) (evp_ti (tuple_l (evp_var rfl h11'))) fun x y H1 _ h1 h2 => .inr ⟨_, nl, h1, h2⟩) fun v H8 e8 hv => by
      cases hv
      exact q H8
end
end LDW

namespace LDW
open PySem PySem.Spec PyProof.Rows L2
theorem all_mk {l : PySem.W.OpenLaw} {w : World} {K : PySem.W.Frag} {h : Heap} {mg : Str → Option Value} {fa C DE : Addr} {tM : Tok} (X : K.In h) (G : h.Ns mainGlobals mg) (hfa : mg "law" = some (.ref fa))
    {f0 : Addr} {od0 an0 : Option Addr} {sl0 : Array (Option Value)} {oc0 kV0 dc0 pm0 cd0 ct0 : Value}
    (a0 : PySem.W.nsIn K mainGlobals "is_in" = some (some (.ref f0))) (l0 : K.lookup f0 = some ⟨oc0, od0, .func (PySem.W.fnOf "is_in" "is_in" (defArgs s_is_in) (defBody s_is_in) (defScope s_is_in) .none kV0 dc0 pm0 an0 cd0 ct0), sl0⟩) (c0 : PySem.W.codeIn K cd0 "is_in" = true) (k0 : PySem.W.keepIn K (.ref f0) = true)
    {f1 : Addr} {od1 an1 : Option Addr} {sl1 : Array (Option Value)} {oc1 kV1 dc1 pm1 cd1 ct1 : Value}
    (a1 : PySem.W.nsIn K mainGlobals "is_arrow" = some (some (.ref f1))) (l1 : K.lookup f1 = some ⟨oc1, od1, .func (PySem.W.fnOf "is_arrow" "is_arrow" (defArgs s_is_arrow) (defBody s_is_arrow) (defScope s_is_arrow) .none kV1 dc1 pm1 an1 cd1 ct1), sl1⟩) (c1 : PySem.W.codeIn K cd1 "is_arrow" = true) (k1 : PySem.W.keepIn K (.ref f1) = true)
    {f2 : Addr} {od2 an2 : Option Addr} {sl2 : Array (Option Value)} {oc2 kV2 dc2 pm2 cd2 ct2 : Value}
    (a2 : PySem.W.nsIn K mainGlobals "need_web" = some (some (.ref f2))) (l2 : K.lookup f2 = some ⟨oc2, od2, .func (PySem.W.fnOf "need_web" "need_web" (defArgs s_need_web) (defBody s_need_web) (defScope s_need_web) .none kV2 dc2 pm2 an2 cd2 ct2), sl2⟩) (c2 : PySem.W.codeIn K cd2 "need_web" = true) (k2 : PySem.W.keepIn K (.ref f2) = true)
    {f3 : Addr} {od3 an3 : Option Addr} {sl3 : Array (Option Value)} {oc3 kV3 dc3 pm3 cd3 ct3 : Value}
    (a3 : PySem.W.nsIn K mainGlobals "need_door" = some (some (.ref f3))) (l3 : K.lookup f3 = some ⟨oc3, od3, .func (PySem.W.fnOf "need_door" "need_door" (defArgs s_need_door) (defBody s_need_door) (defScope s_need_door) .none kV3 dc3 pm3 an3 cd3 ct3), sl3⟩) (c3 : PySem.W.codeIn K cd3 "need_door" = true) (k3 : PySem.W.keepIn K (.ref f3) = true)
    {f4 : Addr} {od4 an4 : Option Addr} {sl4 : Array (Option Value)} {oc4 kV4 dc4 pm4 cd4 ct4 : Value}
    (a4 : PySem.W.nsIn K mainGlobals "need_opened" = some (some (.ref f4))) (l4 : K.lookup f4 = some ⟨oc4, od4, .func (PySem.W.fnOf "need_opened" "need_opened" (defArgs s_need_opened) (defBody s_need_opened) (defScope s_need_opened) .none kV4 dc4 pm4 an4 cd4 ct4), sl4⟩) (c4 : PySem.W.codeIn K cd4 "need_opened" = true) (k4 : PySem.W.keepIn K (.ref f4) = true)
    {f5 : Addr} {od5 an5 : Option Addr} {sl5 : Array (Option Value)} {oc5 kV5 dc5 pm5 cd5 ct5 : Value}
    (a5 : PySem.W.nsIn K mainGlobals "need_both" = some (some (.ref f5))) (l5 : K.lookup f5 = some ⟨oc5, od5, .func (PySem.W.fnOf "need_both" "need_both" (defArgs s_need_both) (defBody s_need_both) (defScope s_need_both) .none kV5 dc5 pm5 an5 cd5 ct5), sl5⟩) (c5 : PySem.W.codeIn K cd5 "need_both" = true) (k5 : PySem.W.keepIn K (.ref f5) = true)
    {f6 : Addr} {od6 an6 : Option Addr} {sl6 : Array (Option Value)} {oc6 kV6 dc6 pm6 cd6 ct6 : Value}
    (a6 : PySem.W.nsIn K mainGlobals "open_in" = some (some (.ref f6))) (l6 : K.lookup f6 = some ⟨oc6, od6, .func (PySem.W.fnOf "open_in" "open_in" (defArgs s_open_in) (defBody s_open_in) (defScope s_open_in) .none kV6 dc6 pm6 an6 cd6 ct6), sl6⟩) (c6 : PySem.W.codeIn K cd6 "open_in" = true) (k6 : PySem.W.keepIn K (.ref f6) = true)
    {f7 : Addr} {od7 an7 : Option Addr} {sl7 : Array (Option Value)} {oc7 kV7 dc7 pm7 cd7 ct7 : Value}
    (a7 : PySem.W.nsIn K mainGlobals "shut_in" = some (some (.ref f7))) (l7 : K.lookup f7 = some ⟨oc7, od7, .func (PySem.W.fnOf "shut_in" "shut_in" (defArgs s_shut_in) (defBody s_shut_in) (defScope s_shut_in) .none kV7 dc7 pm7 an7 cd7 ct7), sl7⟩) (c7 : PySem.W.codeIn K cd7 "shut_in" = true) (k7 : PySem.W.keepIn K (.ref f7) = true)
    {f8 : Addr} {od8 an8 : Option Addr} {sl8 : Array (Option Value)} {oc8 kV8 dc8 pm8 cd8 ct8 : Value}
    (a8 : PySem.W.nsIn K mainGlobals "changed" = some (some (.ref f8))) (l8 : K.lookup f8 = some ⟨oc8, od8, .func (PySem.W.fnOf "changed" "changed" (defArgs s_changed) (defBody s_changed) (defScope s_changed) .none kV8 dc8 pm8 an8 cd8 ct8), sl8⟩) (c8 : PySem.W.codeIn K cd8 "changed" = true) (k8 : PySem.W.keepIn K (.ref f8) = true)
    {f9 : Addr} {od9 an9 : Option Addr} {sl9 : Array (Option Value)} {oc9 kV9 dc9 pm9 cd9 ct9 : Value}
    (a9 : PySem.W.nsIn K mainGlobals "doable" = some (some (.ref f9))) (l9 : K.lookup f9 = some ⟨oc9, od9, .func (PySem.W.fnOf "doable" "doable" (defArgs s_doable) (defBody s_doable) (defScope s_doable) .none kV9 dc9 pm9 an9 cd9 ct9), sl9⟩) (c9 : PySem.W.codeIn K cd9 "doable" = true) (k9 : PySem.W.keepIn K (.ref f9) = true)
    {f10 : Addr} {od10 an10 : Option Addr} {sl10 : Array (Option Value)} {oc10 kV10 dc10 pm10 cd10 ct10 : Value}
    (a10 : PySem.W.nsIn K mainGlobals "pairs_in" = some (some (.ref f10))) (l10 : K.lookup f10 = some ⟨oc10, od10, .func (PySem.W.fnOf "pairs_in" "pairs_in" (defArgs s_pairs_in) (defBody s_pairs_in) (defScope s_pairs_in) .none kV10 dc10 pm10 an10 cd10 ct10), sl10⟩) (c10 : PySem.W.codeIn K cd10 "pairs_in" = true) (k10 : PySem.W.keepIn K (.ref f10) = true)
    {f11 : Addr} {od11 an11 : Option Addr} {sl11 : Array (Option Value)} {oc11 kV11 dc11 pm11 cd11 ct11 : Value}
    (a11 : PySem.W.nsIn K mainGlobals "frozen_in" = some (some (.ref f11))) (l11 : K.lookup f11 = some ⟨oc11, od11, .func (PySem.W.fnOf "frozen_in" "frozen_in" (defArgs s_frozen_in) (defBody s_frozen_in) (defScope s_frozen_in) .none kV11 dc11 pm11 an11 cd11 ct11), sl11⟩) (c11 : PySem.W.codeIn K cd11 "frozen_in" = true) (k11 : PySem.W.keepIn K (.ref f11) = true)
    {f12 : Addr} {od12 an12 : Option Addr} {sl12 : Array (Option Value)} {oc12 kV12 dc12 pm12 cd12 ct12 : Value}
    (a12 : PySem.W.nsIn K mainGlobals "loose_in" = some (some (.ref f12))) (l12 : K.lookup f12 = some ⟨oc12, od12, .func (PySem.W.fnOf "loose_in" "loose_in" (defArgs s_loose_in) (defBody s_loose_in) (defScope s_loose_in) .none kV12 dc12 pm12 an12 cd12 ct12), sl12⟩) (c12 : PySem.W.codeIn K cd12 "loose_in" = true) (k12 : PySem.W.keepIn K (.ref f12) = true)
    {f13 : Addr} {od13 an13 : Option Addr} {sl13 : Array (Option Value)} {oc13 kV13 dc13 pm13 cd13 ct13 : Value}
    (a13 : PySem.W.nsIn K mainGlobals "standings" = some (some (.ref f13))) (l13 : K.lookup f13 = some ⟨oc13, od13, .func (PySem.W.fnOf "standings" "standings" (defArgs s_standings) (defBody s_standings) (defScope s_standings) .none kV13 dc13 pm13 an13 cd13 ct13), sl13⟩) (c13 : PySem.W.codeIn K cd13 "standings" = true) (k13 : PySem.W.keepIn K (.ref f13) = true)
    {f14 : Addr} {od14 an14 : Option Addr} {sl14 : Array (Option Value)} {oc14 kV14 dc14 pm14 cd14 ct14 : Value}
    (a14 : PySem.W.nsIn K mainGlobals "ringless" = some (some (.ref f14))) (l14 : K.lookup f14 = some ⟨oc14, od14, .func (PySem.W.fnOf "ringless" "ringless" (defArgs s_ringless) (defBody s_ringless) (defScope s_ringless) .none kV14 dc14 pm14 an14 cd14 ct14), sl14⟩) (c14 : PySem.W.codeIn K cd14 "ringless" = true) (k14 : PySem.W.keepIn K (.ref f14) = true)
    {f15 : Addr} {od15 an15 : Option Addr} {sl15 : Array (Option Value)} {oc15 kV15 dc15 pm15 cd15 ct15 : Value}
    (a15 : PySem.W.nsIn K mainGlobals "sets_in" = some (some (.ref f15))) (l15 : K.lookup f15 = some ⟨oc15, od15, .func (PySem.W.fnOf "sets_in" "sets_in" (defArgs s_sets_in) (defBody s_sets_in) (defScope s_sets_in) .none kV15 dc15 pm15 an15 cd15 ct15), sl15⟩) (c15 : PySem.W.codeIn K cd15 "sets_in" = true) (k15 : PySem.W.keepIn K (.ref f15) = true)
    {f16 : Addr} {od16 an16 : Option Addr} {sl16 : Array (Option Value)} {oc16 kV16 dc16 pm16 cd16 ct16 : Value}
    (a16 : PySem.W.nsIn K mainGlobals "fresh_in" = some (some (.ref f16))) (l16 : K.lookup f16 = some ⟨oc16, od16, .func (PySem.W.fnOf "fresh_in" "fresh_in" (defArgs s_fresh_in) (defBody s_fresh_in) (defScope s_fresh_in) .none kV16 dc16 pm16 an16 cd16 ct16), sl16⟩) (c16 : PySem.W.codeIn K cd16 "fresh_in" = true) (k16 : PySem.W.keepIn K (.ref f16) = true)
    {f17 : Addr} {od17 an17 : Option Addr} {sl17 : Array (Option Value)} {oc17 kV17 dc17 pm17 cd17 ct17 : Value}
    (a17 : PySem.W.nsIn K mainGlobals "sides_in" = some (some (.ref f17))) (l17 : K.lookup f17 = some ⟨oc17, od17, .func (PySem.W.fnOf "sides_in" "sides_in" (defArgs s_sides_in) (defBody s_sides_in) (defScope s_sides_in) .none kV17 dc17 pm17 an17 cd17 ct17), sl17⟩) (c17 : PySem.W.codeIn K cd17 "sides_in" = true) (k17 : PySem.W.keepIn K (.ref f17) = true)
    {f18 : Addr} {od18 an18 : Option Addr} {sl18 : Array (Option Value)} {oc18 kV18 dc18 pm18 cd18 ct18 : Value}
    (a18 : PySem.W.nsIn K mainGlobals "come_in" = some (some (.ref f18))) (l18 : K.lookup f18 = some ⟨oc18, od18, .func (PySem.W.fnOf "come_in" "come_in" (defArgs s_come_in) (defBody s_come_in) (defScope s_come_in) .none kV18 dc18 pm18 an18 cd18 ct18), sl18⟩) (c18 : PySem.W.codeIn K cd18 "come_in" = true) (k18 : PySem.W.keepIn K (.ref f18) = true)
    {f19 : Addr} {od19 an19 : Option Addr} {sl19 : Array (Option Value)} {oc19 kV19 dc19 pm19 cd19 ct19 : Value}
    (a19 : PySem.W.nsIn K mainGlobals "newly" = some (some (.ref f19))) (l19 : K.lookup f19 = some ⟨oc19, od19, .func (PySem.W.fnOf "newly" "newly" (defArgs s_newly) (defBody s_newly) (defScope s_newly) .none kV19 dc19 pm19 an19 cd19 ct19), sl19⟩) (c19 : PySem.W.codeIn K cd19 "newly" = true) (k19 : PySem.W.keepIn K (.ref f19) = true)
    {f20 : Addr} {od20 an20 : Option Addr} {sl20 : Array (Option Value)} {oc20 kV20 dc20 pm20 cd20 ct20 : Value}
    (a20 : PySem.W.nsIn K mainGlobals "frozen_by" = some (some (.ref f20))) (l20 : K.lookup f20 = some ⟨oc20, od20, .func (PySem.W.fnOf "frozen_by" "frozen_by" (defArgs s_frozen_by) (defBody s_frozen_by) (defScope s_frozen_by) .none kV20 dc20 pm20 an20 cd20 ct20), sl20⟩) (c20 : PySem.W.codeIn K cd20 "frozen_by" = true) (k20 : PySem.W.keepIn K (.ref f20) = true)
    {f21 : Addr} {od21 an21 : Option Addr} {sl21 : Array (Option Value)} {oc21 kV21 dc21 pm21 cd21 ct21 : Value}
    (a21 : PySem.W.nsIn K mainGlobals "freezing_deeds" = some (some (.ref f21))) (l21 : K.lookup f21 = some ⟨oc21, od21, .func (PySem.W.fnOf "freezing_deeds" "freezing_deeds" (defArgs s_freezing_deeds) (defBody s_freezing_deeds) (defScope s_freezing_deeds) .none kV21 dc21 pm21 an21 cd21 ct21), sl21⟩) (c21 : PySem.W.codeIn K cd21 "freezing_deeds" = true) (k21 : PySem.W.keepIn K (.ref f21) = true)
    {f22 : Addr} {od22 an22 : Option Addr} {sl22 : Array (Option Value)} {oc22 kV22 dc22 pm22 cd22 ct22 : Value}
    (a22 : PySem.W.nsIn K mainGlobals "costs_of" = some (some (.ref f22))) (l22 : K.lookup f22 = some ⟨oc22, od22, .func (PySem.W.fnOf "costs_of" "costs_of" (defArgs s_costs_of) (defBody s_costs_of) (defScope s_costs_of) .none kV22 dc22 pm22 an22 cd22 ct22), sl22⟩) (c22 : PySem.W.codeIn K cd22 "costs_of" = true) (k22 : PySem.W.keepIn K (.ref f22) = true)
    {f23 : Addr} {od23 an23 : Option Addr} {sl23 : Array (Option Value)} {oc23 kV23 dc23 pm23 cd23 ct23 : Value}
    (a23 : PySem.W.nsIn K mainGlobals "fewest_to_freeze" = some (some (.ref f23))) (l23 : K.lookup f23 = some ⟨oc23, od23, .func (PySem.W.fnOf "fewest_to_freeze" "fewest_to_freeze" (defArgs s_fewest_to_freeze) (defBody s_fewest_to_freeze) (defScope s_fewest_to_freeze) .none kV23 dc23 pm23 an23 cd23 ct23), sl23⟩) (c23 : PySem.W.codeIn K cd23 "fewest_to_freeze" = true) (k23 : PySem.W.keepIn K (.ref f23) = true)
    {f24 : Addr} {od24 an24 : Option Addr} {sl24 : Array (Option Value)} {oc24 kV24 dc24 pm24 cd24 ct24 : Value}
    (a24 : PySem.W.nsIn K mainGlobals "never_frozen" = some (some (.ref f24))) (l24 : K.lookup f24 = some ⟨oc24, od24, .func (PySem.W.fnOf "never_frozen" "never_frozen" (defArgs s_never_frozen) (defBody s_never_frozen) (defScope s_never_frozen) .none kV24 dc24 pm24 an24 cd24 ct24), sl24⟩) (c24 : PySem.W.codeIn K cd24 "never_frozen" = true) (k24 : PySem.W.keepIn K (.ref f24) = true)
    {f25 : Addr} {od25 an25 : Option Addr} {sl25 : Array (Option Value)} {oc25 kV25 dc25 pm25 cd25 ct25 : Value}
    (a25 : PySem.W.nsIn K mainGlobals "freeze_ways" = some (some (.ref f25))) (l25 : K.lookup f25 = some ⟨oc25, od25, .func (PySem.W.fnOf "freeze_ways" "freeze_ways" (defArgs s_freeze_ways) (defBody s_freeze_ways) (defScope s_freeze_ways) .none kV25 dc25 pm25 an25 cd25 ct25), sl25⟩) (c25 : PySem.W.codeIn K cd25 "freeze_ways" = true) (k25 : PySem.W.keepIn K (.ref f25) = true)
    {f26 : Addr} {od26 an26 : Option Addr} {sl26 : Array (Option Value)} {oc26 kV26 dc26 pm26 cd26 ct26 : Value}
    (a26 : PySem.W.nsIn K mainGlobals "_law_taken" = some (some (.ref f26))) (l26 : K.lookup f26 = some ⟨oc26, od26, .func (PySem.W.fnOf "_law_taken" "_law_taken" (defArgs s_law_taken) (defBody s_law_taken) (defScope s_law_taken) .none kV26 dc26 pm26 an26 cd26 ct26), sl26⟩) (c26 : PySem.W.codeIn K cd26 "_law_taken" = true) (k26 : PySem.W.keepIn K (.ref f26) = true)
    {f27 : Addr} {od27 an27 : Option Addr} {sl27 : Array (Option Value)} {oc27 kV27 dc27 pm27 cd27 ct27 : Value}
    (a27 : PySem.W.nsIn K mainGlobals "_law_pick" = some (some (.ref f27))) (l27 : K.lookup f27 = some ⟨oc27, od27, .func (PySem.W.fnOf "_law_pick" "_law_pick" (defArgs s_law_pick) (defBody s_law_pick) (defScope s_law_pick) .none kV27 dc27 pm27 an27 cd27 ct27), sl27⟩) (c27 : PySem.W.codeIn K cd27 "_law_pick" = true) (k27 : PySem.W.keepIn K (.ref f27) = true)
    {f28 : Addr} {od28 an28 : Option Addr} {sl28 : Array (Option Value)} {oc28 kV28 dc28 pm28 cd28 ct28 : Value}
    (a28 : PySem.W.nsIn K mainGlobals "_law_web" = some (some (.ref f28))) (l28 : K.lookup f28 = some ⟨oc28, od28, .func (PySem.W.fnOf "_law_web" "_law_web" (defArgs s_law_web) (defBody s_law_web) (defScope s_law_web) .none kV28 dc28 pm28 an28 cd28 ct28), sl28⟩) (c28 : PySem.W.codeIn K cd28 "_law_web" = true) (k28 : PySem.W.keepIn K (.ref f28) = true)
    {f29 : Addr} {od29 an29 : Option Addr} {sl29 : Array (Option Value)} {oc29 kV29 dc29 pm29 cd29 ct29 : Value}
    (a29 : PySem.W.nsIn K mainGlobals "_law_standing" = some (some (.ref f29))) (l29 : K.lookup f29 = some ⟨oc29, od29, .func (PySem.W.fnOf "_law_standing" "_law_standing" (defArgs s_law_standing) (defBody s_law_standing) (defScope s_law_standing) .none kV29 dc29 pm29 an29 cd29 ct29), sl29⟩) (c29 : PySem.W.codeIn K cd29 "_law_standing" = true) (k29 : PySem.W.keepIn K (.ref f29) = true)
    {f30 : Addr} {od30 an30 : Option Addr} {sl30 : Array (Option Value)} {oc30 kV30 dc30 pm30 cd30 ct30 : Value}
    (a30 : PySem.W.nsIn K mainGlobals "_law_changed" = some (some (.ref f30))) (l30 : K.lookup f30 = some ⟨oc30, od30, .func (PySem.W.fnOf "_law_changed" "_law_changed" (defArgs s_law_changed) (defBody s_law_changed) (defScope s_law_changed) .none kV30 dc30 pm30 an30 cd30 ct30), sl30⟩) (c30 : PySem.W.codeIn K cd30 "_law_changed" = true) (k30 : PySem.W.keepIn K (.ref f30) = true)
    {f31 : Addr} {od31 an31 : Option Addr} {sl31 : Array (Option Value)} {oc31 kV31 dc31 pm31 cd31 ct31 : Value}
    (a31 : PySem.W.nsIn K mainGlobals "_law_open" = some (some (.ref f31))) (l31 : K.lookup f31 = some ⟨oc31, od31, .func (PySem.W.fnOf "_law_open" "_law_open" (defArgs s_law_open) (defBody s_law_open) (defScope s_law_open) .none kV31 dc31 pm31 an31 cd31 ct31), sl31⟩) (c31 : PySem.W.codeIn K cd31 "_law_open" = true) (k31 : PySem.W.keepIn K (.ref f31) = true)
    {f32 : Addr} {od32 an32 : Option Addr} {sl32 : Array (Option Value)} {oc32 kV32 dc32 pm32 cd32 ct32 : Value}
    (a32 : PySem.W.nsIn K mainGlobals "_law_shut" = some (some (.ref f32))) (l32 : K.lookup f32 = some ⟨oc32, od32, .func (PySem.W.fnOf "_law_shut" "_law_shut" (defArgs s_law_shut) (defBody s_law_shut) (defScope s_law_shut) .none kV32 dc32 pm32 an32 cd32 ct32), sl32⟩) (c32 : PySem.W.codeIn K cd32 "_law_shut" = true) (k32 : PySem.W.keepIn K (.ref f32) = true)
    {f33 : Addr} {od33 an33 : Option Addr} {sl33 : Array (Option Value)} {oc33 kV33 dc33 pm33 cd33 ct33 : Value}
    (a33 : PySem.W.nsIn K mainGlobals "_law_after" = some (some (.ref f33))) (l33 : K.lookup f33 = some ⟨oc33, od33, .func (PySem.W.fnOf "_law_after" "_law_after" (defArgs s_law_after) (defBody s_law_after) (defScope s_law_after) .none kV33 dc33 pm33 an33 cd33 ct33), sl33⟩) (c33 : PySem.W.codeIn K cd33 "_law_after" = true) (k33 : PySem.W.keepIn K (.ref f33) = true)
    {f34 : Addr} {od34 an34 : Option Addr} {sl34 : Array (Option Value)} {oc34 kV34 dc34 pm34 cd34 ct34 : Value}
    (a34 : PySem.W.nsIn K mainGlobals "_law_from" = some (some (.ref f34))) (l34 : K.lookup f34 = some ⟨oc34, od34, .func (PySem.W.fnOf "_law_from" "_law_from" (defArgs s_law_from) (defBody s_law_from) (defScope s_law_from) .none kV34 dc34 pm34 an34 cd34 ct34), sl34⟩) (c34 : PySem.W.codeIn K cd34 "_law_from" = true) (k34 : PySem.W.keepIn K (.ref f34) = true)
    {f35 : Addr} {od35 an35 : Option Addr} {sl35 : Array (Option Value)} {oc35 kV35 dc35 pm35 cd35 ct35 : Value}
    (a35 : PySem.W.nsIn K mainGlobals "_law_frozen" = some (some (.ref f35))) (l35 : K.lookup f35 = some ⟨oc35, od35, .func (PySem.W.fnOf "_law_frozen" "_law_frozen" (defArgs s_law_frozen) (defBody s_law_frozen) (defScope s_law_frozen) .none kV35 dc35 pm35 an35 cd35 ct35), sl35⟩) (c35 : PySem.W.codeIn K cd35 "_law_frozen" = true) (k35 : PySem.W.keepIn K (.ref f35) = true)
    {f36 : Addr} {od36 an36 : Option Addr} {sl36 : Array (Option Value)} {oc36 kV36 dc36 pm36 cd36 ct36 : Value}
    (a36 : PySem.W.nsIn K mainGlobals "_law_alike" = some (some (.ref f36))) (l36 : K.lookup f36 = some ⟨oc36, od36, .func (PySem.W.fnOf "_law_alike" "_law_alike" (defArgs s_law_alike) (defBody s_law_alike) (defScope s_law_alike) .none kV36 dc36 pm36 an36 cd36 ct36), sl36⟩) (c36 : PySem.W.codeIn K cd36 "_law_alike" = true) (k36 : PySem.W.keepIn K (.ref f36) = true)
    {f37 : Addr} {od37 an37 : Option Addr} {sl37 : Array (Option Value)} {oc37 kV37 dc37 pm37 cd37 ct37 : Value}
    (a37 : PySem.W.nsIn K mainGlobals "law" = some (some (.ref f37))) (l37 : K.lookup f37 = some ⟨oc37, od37, .func (PySem.W.fnOf "law" "law" (defArgs s_law) (defBody s_law) (defScope s_law) .none kV37 dc37 pm37 an37 cd37 ct37), sl37⟩) (c37 : PySem.W.codeIn K cd37 "law" = true) (k37 : PySem.W.keepIn K (.ref f37) = true)
    (aC : PySem.W.nsIn K mainGlobals "BadDeed" = some (some (.ref C)))
    (aD : PySem.W.nsIn K mainGlobals "DoorError" = some (some (.ref DE)))
    (xC : PySem.W.excIn K C [.type "ValueError", .type "Exception", .type "BaseException", .type "object"] "ValueError.__new__" = true)
    (kC : PySem.W.keepIn K (.ref C) = true)
    (sC : PySem.W.subIn K (.ref C) (.type "BaseException") = some true)
    (tC : PySem.W.typeIn K (.ref C) = some (.type "type"))
    (sD : PySem.W.subIn K (.ref DE) (.type "BaseException") = some true)
    (hD : PySem.W.hasDictIn K DE = true)
    (tD : PySem.W.typeIn K (.ref DE) = some (.type "type"))
    (sCD : PySem.W.subIn K (.ref C) (.ref DE) = some true)
    (e1 : PySem.W.findIn K (.ref C) "__getattribute__" = some (some (.builtin "BaseException.__getattribute__")))
    (e2 : PySem.W.findIn K (.ref C) "__getattr__" = some none)
    (e4 : PySem.W.hasDictIn K C = true)
    (e5 : PySem.W.findIn K (.ref C) "__class__" = some (some (.builtin "object.__class__")))
    (e6 : PySem.W.specialIn K (.builtin "object.__class__") "__get__" = some (some (.builtin "getset_descriptor.__get__")))
    (e7 : PySem.W.takesIn K (.builtin "object.__class__") = some true)
    (e8 : PySem.W.mroIn K C (.type "object") = some true)
    (aM : PySem.W.nsIn K mainGlobals "MOST_DOORS" = some (some (.int 9 tM)))
    (z_bool : PySem.W.nsIn K mainGlobals "bool" = some none)
    (z_dict : PySem.W.nsIn K mainGlobals "dict" = some none)
    (z_enumerate : PySem.W.nsIn K mainGlobals "enumerate" = some none)
    (z_int : PySem.W.nsIn K mainGlobals "int" = some none)
    (z_isinstance : PySem.W.nsIn K mainGlobals "isinstance" = some none)
    (z_len : PySem.W.nsIn K mainGlobals "len" = some none)
    (z_list : PySem.W.nsIn K mainGlobals "list" = some none)
    (z_min : PySem.W.nsIn K mainGlobals "min" = some none)
    (z_range : PySem.W.nsIn K mainGlobals "range" = some none)
    (z_set : PySem.W.nsIn K mainGlobals "set" = some none)
    (z_sorted : PySem.W.nsIn K mainGlobals "sorted" = some none)
    (z_str : PySem.W.nsIn K mainGlobals "str" = some none)
    (z_tuple : PySem.W.nsIn K mainGlobals "tuple" = some none) :
    ∃ fd : FuncData, (∀ (s : Shared) (v : Value), BindsTo s fd ⟨[v], []⟩ [("_law_script", v)]) ∧ ∀ base : Heap, K.In base → base.Ns mainGlobals mg → FnOk l.prog w K mg base CX0 8 fa fd ["_law_script"] (sp_law K) := by
  have e := hfa.symm.trans (PySem.W.mg_of X G a37)
  cases e
  have F0 := fun_mk (st := s_is_in) l0 c0 k0
  have B0 := F0.binds (ps := ["value", "least", "most"]) fun _ _ _ _ _ _ us hl => match us, hl with | [_, _, _], _ => rfl
  have F1 := fun_mk (st := s_is_arrow) l1 c1 k1
  have B1 := F1.binds (ps := ["value", "many"]) fun _ _ _ _ _ _ us hl => match us, hl with | [_, _], _ => rfl
  have F2 := fun_mk (st := s_need_web) l2 c2 k2
  have B2 := F2.binds (ps := ["web"]) fun _ _ _ _ _ _ us hl => match us, hl with | [_], _ => rfl
  have F3 := fun_mk (st := s_need_door) l3 c3 k3
  have B3 := F3.binds (ps := ["web", "door"]) fun _ _ _ _ _ _ us hl => match us, hl with | [_, _], _ => rfl
  have F4 := fun_mk (st := s_need_opened) l4 c4 k4
  have B4 := F4.binds (ps := ["web", "opened"]) fun _ _ _ _ _ _ us hl => match us, hl with | [_, _], _ => rfl
  have F5 := fun_mk (st := s_need_both) l5 c5 k5
  have B5 := F5.binds (ps := ["web", "opened"]) fun _ _ _ _ _ _ us hl => match us, hl with | [_, _], _ => rfl
  have F6 := fun_mk (st := s_open_in) l6 c6 k6
  have B6 := F6.binds (ps := ["web", "opened"]) fun _ _ _ _ _ _ us hl => match us, hl with | [_, _], _ => rfl
  have F7 := fun_mk (st := s_shut_in) l7 c7 k7
  have B7 := F7.binds (ps := ["web", "opened"]) fun _ _ _ _ _ _ us hl => match us, hl with | [_, _], _ => rfl
  have F8 := fun_mk (st := s_changed) l8 c8 k8
  have B8 := F8.binds (ps := ["opened", "door"]) fun _ _ _ _ _ _ us hl => match us, hl with | [_, _], _ => rfl
  have F9 := fun_mk (st := s_doable) l9 c9 k9
  have B9 := F9.binds (ps := ["web", "opened"]) fun _ _ _ _ _ _ us hl => match us, hl with | [_, _], _ => rfl
  have F10 := fun_mk (st := s_pairs_in) l10 c10 k10
  have B10 := F10.binds (ps := ["web", "opened"]) fun _ _ _ _ _ _ us hl => match us, hl with | [_, _], _ => rfl
  have F11 := fun_mk (st := s_frozen_in) l11 c11 k11
  have B11 := F11.binds (ps := ["web", "opened"]) fun _ _ _ _ _ _ us hl => match us, hl with | [_, _], _ => rfl
  have F12 := fun_mk (st := s_loose_in) l12 c12 k12
  have B12 := F12.binds (ps := ["web", "opened"]) fun _ _ _ _ _ _ us hl => match us, hl with | [_, _], _ => rfl
  have F13 := fun_mk (st := s_standings) l13 c13 k13
  have B13 := F13.binds (ps := ["doors"]) fun _ _ _ _ _ _ us hl => match us, hl with | [_], _ => rfl
  have F14 := fun_mk (st := s_ringless) l14 c14 k14
  have B14 := F14.binds (ps := ["web", "some"]) fun _ _ _ _ _ _ us hl => match us, hl with | [_, _], _ => rfl
  have F15 := fun_mk (st := s_sets_in) l15 c15 k15
  have B15 := F15.binds (ps := ["web", "some"]) fun _ _ _ _ _ _ us hl => match us, hl with | [_, _], _ => rfl
  have F16 := fun_mk (st := s_fresh_in) l16 c16 k16
  have B16 := F16.binds (ps := ["one", "other"]) fun _ _ _ _ _ _ us hl => match us, hl with | [_, _], _ => rfl
  have F17 := fun_mk (st := s_sides_in) l17 c17 k17
  have B17 := F17.binds (ps := ["web", "opened"]) fun _ _ _ _ _ _ us hl => match us, hl with | [_, _], _ => rfl
  have F18 := fun_mk (st := s_come_in) l18 c18 k18
  have B18 := F18.binds (ps := ["web", "opened"]) fun _ _ _ _ _ _ us hl => match us, hl with | [_, _], _ => rfl
  have F19 := fun_mk (st := s_newly) l19 c19 k19
  have B19 := F19.binds (ps := ["web", "opened", "door"]) fun _ _ _ _ _ _ us hl => match us, hl with | [_, _, _], _ => rfl
  have F20 := fun_mk (st := s_frozen_by) l20 c20 k20
  have B20 := F20.binds (ps := ["web", "opened", "door"]) fun _ _ _ _ _ _ us hl => match us, hl with | [_, _, _], _ => rfl
  have F21 := fun_mk (st := s_freezing_deeds) l21 c21 k21
  have B21 := F21.binds (ps := ["web", "opened"]) fun _ _ _ _ _ _ us hl => match us, hl with | [_, _], _ => rfl
  have F22 := fun_mk (st := s_costs_of) l22 c22 k22
  have B22 := F22.binds (ps := ["web", "opened", "door"]) fun _ _ _ _ _ _ us hl => match us, hl with | [_, _, _], _ => rfl
  have F23 := fun_mk (st := s_fewest_to_freeze) l23 c23 k23
  have B23 := F23.binds (ps := ["web", "opened", "door"]) fun _ _ _ _ _ _ us hl => match us, hl with | [_, _, _], _ => rfl
  have F24 := fun_mk (st := s_never_frozen) l24 c24 k24
  have B24 := F24.binds (ps := ["web", "opened"]) fun _ _ _ _ _ _ us hl => match us, hl with | [_, _], _ => rfl
  have F25 := fun_mk (st := s_freeze_ways) l25 c25 k25
  have B25 := F25.binds (ps := ["web", "opened", "door"]) fun _ _ _ _ _ _ us hl => match us, hl with | [_, _, _], _ => rfl
  have F26 := fun_mk (st := s_law_taken) l26 c26 k26
  have B26 := F26.binds (ps := ["_law_row", "_law_many"]) fun _ _ _ _ _ _ us hl => match us, hl with | [_, _], _ => rfl
  have F27 := fun_mk (st := s_law_pick) l27 c27 k27
  have B27 := F27.binds (ps := ["_law_row", "_law_things"]) fun _ _ _ _ _ _ us hl => match us, hl with | [_, _], _ => rfl
  have F28 := fun_mk (st := s_law_web) l28 c28 k28
  have B28 := F28.binds (ps := ["_law_row", "_law_most"]) fun _ _ _ _ _ _ us hl => match us, hl with | [_, _], _ => rfl
  have F29 := fun_mk (st := s_law_standing) l29 c29 k29
  have B29 := F29.binds (ps := ["_law_row", "_law_web_here"]) fun _ _ _ _ _ _ us hl => match us, hl with | [_, _], _ => rfl
  have F30 := fun_mk (st := s_law_changed) l30 c30 k30
  have B30 := F30.binds (ps := ["_law_opened", "_law_door"]) fun _ _ _ _ _ _ us hl => match us, hl with | [_, _], _ => rfl
  have F31 := fun_mk (st := s_law_open) l31 c31 k31
  have B31 := F31.binds (ps := ["_law_web_here", "_law_opened"]) fun _ _ _ _ _ _ us hl => match us, hl with | [_, _], _ => rfl
  have F32 := fun_mk (st := s_law_shut) l32 c32 k32
  have B32 := F32.binds (ps := ["_law_web_here", "_law_opened"]) fun _ _ _ _ _ _ us hl => match us, hl with | [_, _], _ => rfl
  have F33 := fun_mk (st := s_law_after) l33 c33 k33
  have B33 := F33.binds (ps := ["_law_web_here", "_law_opened"]) fun _ _ _ _ _ _ us hl => match us, hl with | [_, _], _ => rfl
  have F34 := fun_mk (st := s_law_from) l34 c34 k34
  have B34 := F34.binds (ps := ["_law_web_here", "_law_opened"]) fun _ _ _ _ _ _ us hl => match us, hl with | [_, _], _ => rfl
  have F35 := fun_mk (st := s_law_frozen) l35 c35 k35
  have B35 := F35.binds (ps := ["_law_web_here", "_law_opened"]) fun _ _ _ _ _ _ us hl => match us, hl with | [_, _], _ => rfl
  have F36 := fun_mk (st := s_law_alike) l36 c36 k36
  have B36 := F36.binds (ps := ["_law_found", "_law_due"]) fun _ _ _ _ _ _ us hl => match us, hl with | [_, _], _ => rfl
  have F37 := fun_mk (st := s_law) l37 c37 k37
  have B37 := F37.binds (ps := ["_law_script"]) fun _ _ _ _ _ _ us hl => match us, hl with | [_], _ => rfl
  let T : Txt K mg :=
    { a_is_in := f0, d_is_in := _, F_is_in := F0, g_is_in := PySem.W.mg_of X G a0, b_is_in := B0,
      a_is_arrow := f1, d_is_arrow := _, F_is_arrow := F1, g_is_arrow := PySem.W.mg_of X G a1, b_is_arrow := B1,
      a_need_web := f2, d_need_web := _, F_need_web := F2, g_need_web := PySem.W.mg_of X G a2, b_need_web := B2,
      a_need_door := f3, d_need_door := _, F_need_door := F3, g_need_door := PySem.W.mg_of X G a3, b_need_door := B3,
      a_need_opened := f4, d_need_opened := _, F_need_opened := F4, g_need_opened := PySem.W.mg_of X G a4, b_need_opened := B4,
      a_need_both := f5, d_need_both := _, F_need_both := F5, g_need_both := PySem.W.mg_of X G a5, b_need_both := B5,
      a_open_in := f6, d_open_in := _, F_open_in := F6, g_open_in := PySem.W.mg_of X G a6, b_open_in := B6,
      a_shut_in := f7, d_shut_in := _, F_shut_in := F7, g_shut_in := PySem.W.mg_of X G a7, b_shut_in := B7,
      a_changed := f8, d_changed := _, F_changed := F8, g_changed := PySem.W.mg_of X G a8, b_changed := B8,
      a_doable := f9, d_doable := _, F_doable := F9, g_doable := PySem.W.mg_of X G a9, b_doable := B9,
      a_pairs_in := f10, d_pairs_in := _, F_pairs_in := F10, g_pairs_in := PySem.W.mg_of X G a10, b_pairs_in := B10,
      a_frozen_in := f11, d_frozen_in := _, F_frozen_in := F11, g_frozen_in := PySem.W.mg_of X G a11, b_frozen_in := B11,
      a_loose_in := f12, d_loose_in := _, F_loose_in := F12, g_loose_in := PySem.W.mg_of X G a12, b_loose_in := B12,
      a_standings := f13, d_standings := _, F_standings := F13, g_standings := PySem.W.mg_of X G a13, b_standings := B13,
      a_ringless := f14, d_ringless := _, F_ringless := F14, g_ringless := PySem.W.mg_of X G a14, b_ringless := B14,
      a_sets_in := f15, d_sets_in := _, F_sets_in := F15, g_sets_in := PySem.W.mg_of X G a15, b_sets_in := B15,
      a_fresh_in := f16, d_fresh_in := _, F_fresh_in := F16, g_fresh_in := PySem.W.mg_of X G a16, b_fresh_in := B16,
      a_sides_in := f17, d_sides_in := _, F_sides_in := F17, g_sides_in := PySem.W.mg_of X G a17, b_sides_in := B17,
      a_come_in := f18, d_come_in := _, F_come_in := F18, g_come_in := PySem.W.mg_of X G a18, b_come_in := B18,
      a_newly := f19, d_newly := _, F_newly := F19, g_newly := PySem.W.mg_of X G a19, b_newly := B19,
      a_frozen_by := f20, d_frozen_by := _, F_frozen_by := F20, g_frozen_by := PySem.W.mg_of X G a20, b_frozen_by := B20,
      a_freezing_deeds := f21, d_freezing_deeds := _, F_freezing_deeds := F21, g_freezing_deeds := PySem.W.mg_of X G a21, b_freezing_deeds := B21,
      a_costs_of := f22, d_costs_of := _, F_costs_of := F22, g_costs_of := PySem.W.mg_of X G a22, b_costs_of := B22,
      a_fewest_to_freeze := f23, d_fewest_to_freeze := _, F_fewest_to_freeze := F23, g_fewest_to_freeze := PySem.W.mg_of X G a23, b_fewest_to_freeze := B23,
      a_never_frozen := f24, d_never_frozen := _, F_never_frozen := F24, g_never_frozen := PySem.W.mg_of X G a24, b_never_frozen := B24,
      a_freeze_ways := f25, d_freeze_ways := _, F_freeze_ways := F25, g_freeze_ways := PySem.W.mg_of X G a25, b_freeze_ways := B25,
      a__law_taken := f26, d__law_taken := _, F__law_taken := F26, g__law_taken := PySem.W.mg_of X G a26, b__law_taken := B26,
      a__law_pick := f27, d__law_pick := _, F__law_pick := F27, g__law_pick := PySem.W.mg_of X G a27, b__law_pick := B27,
      a__law_web := f28, d__law_web := _, F__law_web := F28, g__law_web := PySem.W.mg_of X G a28, b__law_web := B28,
      a__law_standing := f29, d__law_standing := _, F__law_standing := F29, g__law_standing := PySem.W.mg_of X G a29, b__law_standing := B29,
      a__law_changed := f30, d__law_changed := _, F__law_changed := F30, g__law_changed := PySem.W.mg_of X G a30, b__law_changed := B30,
      a__law_open := f31, d__law_open := _, F__law_open := F31, g__law_open := PySem.W.mg_of X G a31, b__law_open := B31,
      a__law_shut := f32, d__law_shut := _, F__law_shut := F32, g__law_shut := PySem.W.mg_of X G a32, b__law_shut := B32,
      a__law_after := f33, d__law_after := _, F__law_after := F33, g__law_after := PySem.W.mg_of X G a33, b__law_after := B33,
      a__law_from := f34, d__law_from := _, F__law_from := F34, g__law_from := PySem.W.mg_of X G a34, b__law_from := B34,
      a__law_frozen := f35, d__law_frozen := _, F__law_frozen := F35, g__law_frozen := PySem.W.mg_of X G a35, b__law_frozen := B35,
      a__law_alike := f36, d__law_alike := _, F__law_alike := F36, g__law_alike := PySem.W.mg_of X G a36, b__law_alike := B36,
      a_law := fa, d_law := _, F_law := F37, g_law := PySem.W.mg_of X G a37, b_law := B37,
      z_bool := PySem.W.mg_none_of X G z_bool,
      z_dict := PySem.W.mg_none_of X G z_dict,
      z_enumerate := PySem.W.mg_none_of X G z_enumerate,
      z_int := PySem.W.mg_none_of X G z_int,
      z_isinstance := PySem.W.mg_none_of X G z_isinstance,
      z_len := PySem.W.mg_none_of X G z_len,
      z_list := PySem.W.mg_none_of X G z_list,
      z_min := PySem.W.mg_none_of X G z_min,
      z_range := PySem.W.mg_none_of X G z_range,
      z_set := PySem.W.mg_none_of X G z_set,
      z_sorted := PySem.W.mg_none_of X G z_sorted,
      z_str := PySem.W.mg_none_of X G z_str,
      z_tuple := PySem.W.mg_none_of X G z_tuple,
      a_DoorError := DE, a_BadDeed := C, g_DoorError := PySem.W.mg_of X G aD, g_BadDeed := PySem.W.mg_of X G aC, x_BadDeed := xC, k_BadDeed := kC, s_BadDeed := sC, t_BadDeed := tC, e_BadDeed := PySem.W.exm_ref sD hD tD sCD, c_BadDeed := ⟨e1, e2, sC, e4, e5, e6, e7, e8⟩, tMOST := tM, g_MOST_DOORS := PySem.W.mg_of X G aM }
  refine ⟨_, ?_, fun base _ _ => ok_law T⟩
  exact fun s v => .of_eq rfl
end LDW

open PySem PySem.W PyProof.Rows
set_option maxHeartbeats 0 in
theorem PySem.Challenge.cw_latchdoors_k22_whole_freezing_deeds_holds : PySem.Challenge.rw_latchdoors_k22_whole_freezing_deeds.Holds := by
  w_on; o_law; k_head; (case hw => w_witness2)
  k_fill
  refine L2.walk_of (l := PySem.Challenge.rw_latchdoors_k22_whole_freezing_deeds) (n := 63) (k := 8) (x := "_law_script") (CX := fun _ => L2.CX0) (sp := fun w => LDW.sp_law _) rfl (by decide) rfl ⟨rfl, by decide, by decide⟩ (fun w h Y => PySem.W.kIn_of Y) ?F (fun _ _ a ns hl _ hS => ⟨a, ns, rfl, hS, fun _ => rfl⟩) (fun _ _ _ _ _ h => h)
  case F =>
    intro w mg fa h KX G hmg
    refine' LDW.all_mk KX G hmg ?a0 ?l0 ?c0 ?k0 ?a1 ?l1 ?c1 ?k1 ?a2 ?l2 ?c2 ?k2 ?a3 ?l3 ?c3 ?k3 ?a4 ?l4 ?c4 ?k4 ?a5 ?l5 ?c5 ?k5 ?a6 ?l6 ?c6 ?k6 ?a7 ?l7 ?c7 ?k7 ?a8 ?l8 ?c8 ?k8 ?a9 ?l9 ?c9 ?k9 ?a10 ?l10 ?c10 ?k10 ?a11 ?l11 ?c11 ?k11 ?a12 ?l12 ?c12 ?k12 ?a13 ?l13 ?c13 ?k13 ?a14 ?l14 ?c14 ?k14 ?a15 ?l15 ?c15 ?k15 ?a16 ?l16 ?c16 ?k16 ?a17 ?l17 ?c17 ?k17 ?a18 ?l18 ?c18 ?k18 ?a19 ?l19 ?c19 ?k19 ?a20 ?l20 ?c20 ?k20 ?a21 ?l21 ?c21 ?k21 ?a22 ?l22 ?c22 ?k22 ?a23 ?l23 ?c23 ?k23 ?a24 ?l24 ?c24 ?k24 ?a25 ?l25 ?c25 ?k25 ?a26 ?l26 ?c26 ?k26 ?a27 ?l27 ?c27 ?k27 ?a28 ?l28 ?c28 ?k28 ?a29 ?l29 ?c29 ?k29 ?a30 ?l30 ?c30 ?k30 ?a31 ?l31 ?c31 ?k31 ?a32 ?l32 ?c32 ?k32 ?a33 ?l33 ?c33 ?k33 ?a34 ?l34 ?c34 ?k34 ?a35 ?l35 ?c35 ?k35 ?a36 ?l36 ?c36 ?k36 ?a37 ?l37 ?c37 ?k37 ?aC ?aD ?xC ?kC ?sC ?tC ?sD ?hD ?tD ?sCD ?e1 ?e2 ?e4 ?e5 ?e6 ?e7 ?e8 ?aM ?z_bool ?z_dict ?z_enumerate ?z_int ?z_isinstance ?z_len ?z_list ?z_min ?z_range ?z_set ?z_sorted ?z_str ?z_tuple
    (case a0 => k_is)
    (case l0 => k_is)
    (case c0 => k_is)
    (case k0 => k_is)
    (case a1 => k_is)
    (case l1 => k_is)
    (case c1 => k_is)
    (case k1 => k_is)
    (case a2 => k_is)
    (case l2 => k_is)
    (case c2 => k_is)
    (case k2 => k_is)
    (case a3 => k_is)
    (case l3 => k_is)
    (case c3 => k_is)
    (case k3 => k_is)
    (case a4 => k_is)
    (case l4 => k_is)
    (case c4 => k_is)
    (case k4 => k_is)
    (case a5 => k_is)
    (case l5 => k_is)
    (case c5 => k_is)
    (case k5 => k_is)
    (case a6 => k_is)
    (case l6 => k_is)
    (case c6 => k_is)
    (case k6 => k_is)
    (case a7 => k_is)
    (case l7 => k_is)
    (case c7 => k_is)
    (case k7 => k_is)
    (case a8 => k_is)
    (case l8 => k_is)
    (case c8 => k_is)
    (case k8 => k_is)
    (case a9 => k_is)
    (case l9 => k_is)
    (case c9 => k_is)
    (case k9 => k_is)
    (case a10 => k_is)
    (case l10 => k_is)
    (case c10 => k_is)
    (case k10 => k_is)
    (case a11 => k_is)
    (case l11 => k_is)
    (case c11 => k_is)
    (case k11 => k_is)
    (case a12 => k_is)
    (case l12 => k_is)
    (case c12 => k_is)
    (case k12 => k_is)
    (case a13 => k_is)
    (case l13 => k_is)
    (case c13 => k_is)
    (case k13 => k_is)
    (case a14 => k_is)
    (case l14 => k_is)
    (case c14 => k_is)
    (case k14 => k_is)
    (case a15 => k_is)
    (case l15 => k_is)
    (case c15 => k_is)
    (case k15 => k_is)
    (case a16 => k_is)
    (case l16 => k_is)
    (case c16 => k_is)
    (case k16 => k_is)
    (case a17 => k_is)
    (case l17 => k_is)
    (case c17 => k_is)
    (case k17 => k_is)
    (case a18 => k_is)
    (case l18 => k_is)
    (case c18 => k_is)
    (case k18 => k_is)
    (case a19 => k_is)
    (case l19 => k_is)
    (case c19 => k_is)
    (case k19 => k_is)
    (case a20 => k_is)
    (case l20 => k_is)
    (case c20 => k_is)
    (case k20 => k_is)
    (case a21 => k_is)
    (case l21 => k_is)
    (case c21 => k_is)
    (case k21 => k_is)
    (case a22 => k_is)
    (case l22 => k_is)
    (case c22 => k_is)
    (case k22 => k_is)
    (case a23 => k_is)
    (case l23 => k_is)
    (case c23 => k_is)
    (case k23 => k_is)
    (case a24 => k_is)
    (case l24 => k_is)
    (case c24 => k_is)
    (case k24 => k_is)
    (case a25 => k_is)
    (case l25 => k_is)
    (case c25 => k_is)
    (case k25 => k_is)
    (case a26 => k_is)
    (case l26 => k_is)
    (case c26 => k_is)
    (case k26 => k_is)
    (case a27 => k_is)
    (case l27 => k_is)
    (case c27 => k_is)
    (case k27 => k_is)
    (case a28 => k_is)
    (case l28 => k_is)
    (case c28 => k_is)
    (case k28 => k_is)
    (case a29 => k_is)
    (case l29 => k_is)
    (case c29 => k_is)
    (case k29 => k_is)
    (case a30 => k_is)
    (case l30 => k_is)
    (case c30 => k_is)
    (case k30 => k_is)
    (case a31 => k_is)
    (case l31 => k_is)
    (case c31 => k_is)
    (case k31 => k_is)
    (case a32 => k_is)
    (case l32 => k_is)
    (case c32 => k_is)
    (case k32 => k_is)
    (case a33 => k_is)
    (case l33 => k_is)
    (case c33 => k_is)
    (case k33 => k_is)
    (case a34 => k_is)
    (case l34 => k_is)
    (case c34 => k_is)
    (case k34 => k_is)
    (case a35 => k_is)
    (case l35 => k_is)
    (case c35 => k_is)
    (case k35 => k_is)
    (case a36 => k_is)
    (case l36 => k_is)
    (case c36 => k_is)
    (case k36 => k_is)
    (case a37 => k_is)
    (case l37 => k_is)
    (case c37 => k_is)
    (case k37 => k_is)
    (case aC => k_is)
    (case aD => k_is)
    (case xC => k_exc)
    (case kC => k_is)
    (case sC => k_is)
    (case tC => k_is)
    (case sD => k_is)
    (case hD => k_is)
    (case tD => k_is)
    (case sCD => first | rfl | k_is)
    (case e1 => k_is)
    (case e2 => k_is)
    (case e4 => k_is)
    (case e5 => k_is)
    (case e6 => k_is)
    (case e7 => k_is)
    (case e8 => k_is)
    (case aM => k_is)
    (case z_bool => k_is)
    (case z_dict => k_is)
    (case z_enumerate => k_is)
    (case z_int => k_is)
    (case z_isinstance => k_is)
    (case z_len => k_is)
    (case z_list => k_is)
    (case z_min => k_is)
    (case z_range => k_is)
    (case z_set => k_is)
    (case z_sorted => k_is)
    (case z_str => k_is)
    (case z_tuple => k_is)
