import PyProof.Rows.All
import Wide.All
import OpenK.AllK
import Wide.FinOn
import HandS.ForMost
import HandS.Evl
import HandS.Defaults
import HandS.Head2
import HandS.HeadHook2
import HandS.HeadHook4
import HandS.HeadEnd
import HandS.HeadWalk
import HandS.NestedK
import HandS.SortInts
import HandS.IsInst
import HandS.SetFor
import HandS.Conv
import HandS.ClsMeth
import PySem.Challenge.RW_clonewood_k31_counts_of_one_line
set_option Elab.async false
set_option linter.all false
set_option maxRecDepth 100000
set_option maxHeartbeats 0
/-! Counting who points: plain lists and numbers, no program in sight. -/
namespace Cw
/-- a piece: when it was born, at which places it points -/
abbrev Pc := Int → Option (Int × List Int)
def pts (pc : Pc) (q : Int) : List Int := match pc q with
  | some (_, l) => l
  | none => []
theorem pts_some {pc : Pc} {q b : Int} {l : List Int} (h : pc q = some (b, l)) : pts pc q = l := by
  unfold pts
  rw [h]
/-- one comes to a place from some roots -/
inductive Rch (pc : Pc) (rs : List Int) : Int → Prop where
  | root {r : Int} : r ∈ rs → Rch pc rs r
  | step {q p : Int} : Rch pc rs q → p ∈ pts pc q → Rch pc rs p
theorem Rch.mono {pc : Pc} {rs rs' : List Int} (h : ∀ r ∈ rs, Rch pc rs' r) {p : Int} (x : Rch pc rs p) : Rch pc rs' p := by
  induction x with
  | root hr => exact h _ hr
  | step _ hp ih => exact .step ih hp
theorem Rch.sub {pc : Pc} {rs rs' : List Int} (h : ∀ r ∈ rs, r ∈ rs') {p : Int} (x : Rch pc rs p) : Rch pc rs' p := x.mono fun r hr => .root (h r hr)
theorem rch_append {pc : Pc} {as bs : List Int} {p : Int} : Rch pc (as ++ bs) p ↔ Rch pc as p ∨ Rch pc bs p := by
  constructor
  · intro x
    induction x with
    | root hr =>
      rcases List.mem_append.mp hr with h | h
      · exact .inl (.root h)
      · exact .inr (.root h)
    | step _ hp ih =>
      rcases ih with h | h
      · exact .inl (.step h hp)
      · exact .inr (.step h hp)
  · rintro (h | h)
    · exact h.sub fun r hr => List.mem_append_left _ hr
    · exact h.sub fun r hr => List.mem_append_right _ hr
/-- pieces that one does not come to may be others -/
theorem rch_same {pc pc' : Pc} {rs : List Int} (h : ∀ q, Rch pc rs q → pc' q = pc q) (p : Int) : Rch pc' rs p ↔ Rch pc rs p := by
  constructor
  · intro x
    induction x with
    | root hr => exact .root hr
    | step _ hp ih =>
      refine .step ih ?_
      have e := h _ ih
      unfold pts at hp ⊢
      rw [e] at hp
      exact hp
  · intro x
    induction x with
    | root hr => exact .root hr
    | step hq hp ih =>
      refine .step ih ?_
      have e := h _ hq
      unfold pts at hp ⊢
      rw [e]
      exact hp

/-! ### sums -/
/-- how many of dom point at p -/
def S (pc : Pc) (dom : List Int) (p : Int) : Nat := (dom.map fun q => (pts pc q).count p).sum
theorem S_nil (pc : Pc) (p : Int) : S pc [] p = 0 := rfl
theorem S_snoc (pc : Pc) (dom : List Int) (q p : Int) : S pc (dom ++ [q]) p = S pc dom p + (pts pc q).count p := by
  unfold S
  rw [List.map_append, List.sum_append]
  simp
theorem S_perm {pc : Pc} {a b : List Int} (h : a.Perm b) (p : Int) : S pc a p = S pc b p := by
  unfold S
  exact (h.map _).sum_nat
theorem S_erase {pc : Pc} {dom : List Int} {q : Int} (hq : q ∈ dom) (p : Int) : S pc dom p = S pc (dom.erase q) p + (pts pc q).count p := by
  have h := S_perm (pc := pc) (List.perm_cons_erase hq) p
  rw [h]
  unfold S
  rw [List.map_cons, List.sum_cons]
  omega
theorem S_congr {pc pc' : Pc} {dom : List Int} (h : ∀ q ∈ dom, pc' q = pc q) (p : Int) : S pc' dom p = S pc dom p := by
  unfold S
  congr 1
  refine List.map_congr_left fun q hq => ?_
  unfold pts
  rw [h q hq]
theorem S_pos {pc : Pc} {dom : List Int} {p : Int} (h : 0 < S pc dom p) : ∃ q ∈ dom, p ∈ pts pc q := by
  induction dom with
  | nil => exact absurd h (by simp [S])
  | cons a r ih =>
    unfold S at h
    rw [List.map_cons, List.sum_cons] at h
    by_cases h1 : 0 < (pts pc a).count p
    · exact ⟨a, List.mem_cons_self, List.count_pos_iff.mp h1⟩
    · obtain ⟨q, hq, hp⟩ := ih (by unfold S; omega)
      exact ⟨q, List.mem_cons_of_mem _ hq, hp⟩
theorem S_of {pc : Pc} {dom : List Int} {p q : Int} (hq : q ∈ dom) (hp : p ∈ pts pc q) : 0 < S pc dom p := by
  rw [S_erase hq]
  have := List.count_pos_iff.mpr hp
  omega
/-- where no piece points twice at one place -/
theorem S_count {pc : Pc} {dom : List Int} {p : Int} (h : ∀ q ∈ dom, (pts pc q).Nodup) : S pc dom p = (dom.filter fun q => decide (p ∈ pts pc q)).length := by
  induction dom with
  | nil => rfl
  | cons a r ih =>
    have ih' := ih fun q hq => h q (List.mem_cons_of_mem _ hq)
    unfold S at ih' ⊢
    rw [List.map_cons, List.sum_cons, ih', List.filter_cons]
    have hn := h a List.mem_cons_self
    by_cases hp : p ∈ pts pc a
    · rw [if_pos (by simpa using hp), List.length_cons]
      have h1 := List.count_pos_iff.mpr hp
      have h2 := List.nodup_iff_count.mp hn p
      omega
    · rw [if_neg (by simpa using hp), List.count_eq_zero.mpr hp]
      omega

/-! ### the counts say who is come to -/
structure Good (pc : Pc) (heads dom : List Int) (c : Int → Nat) : Prop where
  nd : dom.Nodup
  eq : ∀ p, c p = S pc dom p + heads.count p
  mem : ∀ p, p ∈ dom ↔ 0 < c p
theorem bound_of (rk : Int → Nat) : ∀ dom : List Int, ∃ B, ∀ q ∈ dom, rk q < B
  | [] => ⟨0, fun _ h => nomatch h⟩
  | a :: r => by
    obtain ⟨B, hB⟩ := bound_of rk r
    refine ⟨max B (rk a + 1), fun q hq => ?_⟩
    rcases List.mem_cons.mp hq with e | hq
    · subst e; omega
    · have := hB q hq; omega
theorem Good.in_of {pc : Pc} {heads dom : List Int} {c : Int → Nat} (g : Good pc heads dom c) {p : Int} (h : Rch pc heads p) : p ∈ dom := by
  induction h with
  | root hr =>
    refine (g.mem _).mpr ?_
    rw [g.eq]
    have := List.count_pos_iff.mpr hr
    omega
  | step _ hp ih =>
    refine (g.mem _).mpr ?_
    rw [g.eq]
    have := S_of ih hp
    omega
theorem Good.of_in {pc : Pc} {heads dom : List Int} {c : Int → Nat} (g : Good pc heads dom c) {rk : Int → Nat} (hr : ∀ q ∈ dom, ∀ p ∈ pts pc q, rk p < rk q) {p : Int} (h : p ∈ dom) : Rch pc heads p := by
  obtain ⟨B, hB⟩ := bound_of rk dom
  have key : ∀ n p, p ∈ dom → B - rk p ≤ n → Rch pc heads p := by
    intro n
    induction n with
    | zero =>
      intro p hp hn
      have := hB p hp
      omega
    | succ n ih =>
      intro p hp hn
      have h1 := (g.mem p).mp hp
      rw [g.eq] at h1
      by_cases h2 : 0 < heads.count p
      · exact .root (List.count_pos_iff.mp h2)
      · obtain ⟨q, hq, hpq⟩ := S_pos (pc := pc) (dom := dom) (p := p) (by omega)
        have h3 := hr q hq p hpq
        have h4 := hB q hq
        exact .step (ih q hq (by omega)) hpq
  exact key (B - rk p) p h (Nat.le_refl _)
theorem Good.iff {pc : Pc} {heads dom : List Int} {c : Int → Nat} (g : Good pc heads dom c) {rk : Int → Nat} (hr : ∀ q ∈ dom, ∀ p ∈ pts pc q, rk p < rk q) (p : Int) : p ∈ dom ↔ Rch pc heads p := ⟨g.of_in hr, g.in_of⟩
theorem Good.congr {pc pc' : Pc} {heads dom : List Int} {c : Int → Nat} (g : Good pc heads dom c) (h : ∀ q ∈ dom, pc' q = pc q) : Good pc' heads dom c :=
  ⟨g.nd, fun p => by rw [S_congr h]; exact g.eq p, g.mem⟩
theorem Good.heads {pc : Pc} {heads heads' dom : List Int} {c : Int → Nat} (g : Good pc heads dom c) (h : heads.Perm heads') : Good pc heads' dom c :=
  ⟨g.nd, fun p => by rw [g.eq p, h.count_eq], g.mem⟩
theorem good_nil (pc : Pc) : Good pc [] [] fun _ => 0 := ⟨List.nodup_nil, fun _ => rfl, fun _ => by simp⟩

/-! ### a root comes: left are those still to be counted -/
structure Coming (pc : Pc) (heads dom left : List Int) (c : Int → Nat) : Prop where
  nd : dom.Nodup
  eq : ∀ p, c p + left.count p = S pc dom p + heads.count p
  mem : ∀ p, p ∈ dom ↔ 0 < c p
def inc (c : Int → Nat) (q : Int) : Int → Nat := fun p => if p = q then c p + 1 else c p
def dec (c : Int → Nat) (q : Int) : Int → Nat := fun p => if p = q then c p - 1 else c p
theorem Coming.start {pc : Pc} {heads dom : List Int} {c : Int → Nat} (g : Good pc heads dom c) (r : Int) : Coming pc (heads ++ [r]) dom [r] c :=
  ⟨g.nd, fun p => by rw [g.eq p, List.count_append]; omega, g.mem⟩
theorem count_snoc (l : List Int) (q p : Int) : (l ++ [q]).count p = l.count p + if p = q then 1 else 0 := by
  rw [List.count_append]
  by_cases h : p = q
  · subst h; simp
  · rw [if_neg h, List.count_singleton]
    have : (q == p) = false := by simpa using fun e => h e.symm
    rw [this]; simp
theorem Coming.old {pc : Pc} {heads dom left : List Int} {c : Int → Nat} {q : Int} (g : Coming pc heads dom (left ++ [q]) c) (hq : q ∈ dom) : Coming pc heads dom left (inc c q) := by
  refine ⟨g.nd, fun p => ?_, fun p => ?_⟩
  · have h := g.eq p
    rw [count_snoc] at h
    unfold inc
    split <;> simp_all <;> omega
  · have h := g.mem p
    unfold inc
    by_cases e : p = q
    · subst e
      rw [if_pos rfl]
      exact ⟨fun _ => Nat.succ_pos _, fun _ => hq⟩
    · rw [if_neg e]; exact h
theorem Coming.new {pc : Pc} {heads dom left : List Int} {c : Int → Nat} {q : Int} (g : Coming pc heads dom (left ++ [q]) c) (hq : ¬ q ∈ dom) : Coming pc heads (dom ++ [q]) (left ++ pts pc q) (inc c q) := by
  refine ⟨?_, fun p => ?_, fun p => ?_⟩
  · refine List.nodup_append.mpr ⟨g.nd, by simp, ?_⟩
    intro a ha b hb e
    have : b = q := by simpa using hb
    subst this; subst e
    exact hq ha
  · have h := g.eq p
    rw [count_snoc] at h
    rw [S_snoc, List.count_append]
    unfold inc
    split <;> simp_all <;> omega
  · have h := g.mem p
    unfold inc
    by_cases e : p = q
    · subst e
      rw [if_pos rfl]
      exact ⟨fun _ => Nat.succ_pos _, fun _ => by simp⟩
    · rw [if_neg e, ← h]
      simp [e]
theorem Coming.done {pc : Pc} {heads dom : List Int} {c : Int → Nat} (g : Coming pc heads dom [] c) : Good pc heads dom c := ⟨g.nd, fun p => by have := g.eq p; simpa using this, g.mem⟩

/-! ### a root goes: left are those still to be taken off -/
structure Going (pc : Pc) (heads dom left freed : List Int) (dom0 : List Int) (c : Int → Nat) : Prop where
  nd : dom.Nodup
  eq : ∀ p, c p = S pc dom p + heads.count p + left.count p
  mem : ∀ p, p ∈ dom ↔ 0 < c p
  ndf : freed.Nodup
  fr : ∀ p, p ∈ freed ↔ p ∈ dom0 ∧ ¬ p ∈ dom
  sub : ∀ p ∈ dom, p ∈ dom0
theorem Going.start {pc : Pc} {heads dom : List Int} {c : Int → Nat} {r : Int} (g : Good pc (heads ++ [r]) dom c) : Going pc heads dom [r] [] dom c :=
  ⟨g.nd, fun p => by rw [g.eq p, List.count_append]; omega, g.mem, List.nodup_nil, fun p => by simp, fun _ h => h⟩
theorem Going.there {pc : Pc} {heads dom left freed dom0 : List Int} {c : Int → Nat} {q : Int} (g : Going pc heads dom (left ++ [q]) freed dom0 c) : q ∈ dom ∧ 0 < c q := by
  have h := g.eq q
  rw [count_snoc, if_pos rfl] at h
  have : 0 < c q := by omega
  exact ⟨(g.mem q).mpr this, this⟩
theorem Going.stays {pc : Pc} {heads dom left freed dom0 : List Int} {c : Int → Nat} {q : Int} (g : Going pc heads dom (left ++ [q]) freed dom0 c) (h0 : ¬ dec c q q = 0) : Going pc heads dom left freed dom0 (dec c q) := by
  obtain ⟨hq, hc⟩ := g.there
  refine ⟨g.nd, fun p => ?_, fun p => ?_, g.ndf, g.fr, g.sub⟩
  · have h := g.eq p
    rw [count_snoc] at h
    unfold dec
    by_cases e : p = q
    · subst e; rw [if_pos rfl] at h ⊢; omega
    · rw [if_neg e] at h ⊢; omega
  · have h := g.mem p
    by_cases e : p = q
    · subst e
      exact ⟨fun _ => Nat.pos_of_ne_zero h0, fun _ => hq⟩
    · unfold dec; rw [if_neg e]; exact h
theorem Going.goes {pc : Pc} {heads dom left freed dom0 : List Int} {c : Int → Nat} {q : Int} (g : Going pc heads dom (left ++ [q]) freed dom0 c) (h0 : dec c q q = 0) :
    Going pc heads (dom.erase q) (left ++ pts pc q) (freed ++ [q]) dom0 (dec c q) := by
  obtain ⟨hq, hc⟩ := g.there
  have me : ∀ p, p ∈ dom.erase q ↔ p ≠ q ∧ p ∈ dom := fun p => g.nd.mem_erase_iff
  refine ⟨g.nd.erase _, fun p => ?_, fun p => ?_, ?_, fun p => ?_, fun p hp => g.sub p ((me p).mp hp).2⟩
  · have h := g.eq p
    rw [count_snoc, S_erase hq] at h
    rw [List.count_append]
    unfold dec
    by_cases e : p = q
    · subst e; rw [if_pos rfl] at h ⊢; omega
    · rw [if_neg e] at h ⊢; omega
  · have h := g.mem p
    rw [me p]
    by_cases e : p = q
    · subst e
      exact ⟨fun z => absurd rfl z.1, fun z => absurd z (by omega)⟩
    · unfold dec; rw [if_neg e, ← h]; simp [e]
  · refine List.nodup_append.mpr ⟨g.ndf, by simp, ?_⟩
    intro a ha b hb e
    have : b = q := by simpa using hb
    subst this; subst e
    exact ((g.fr a).mp ha).2 hq
  · rw [List.mem_append, g.fr p, me p]
    by_cases e : p = q
    · subst e
      simp [g.sub _ hq]
    · simp [e]
theorem Going.done {pc : Pc} {heads dom freed dom0 : List Int} {c : Int → Nat} (g : Going pc heads dom [] freed dom0 c) : Good pc heads dom c := ⟨g.nd, fun p => by have := g.eq p; simpa using this, g.mem⟩
/-- the sum of the counts falls -/
def total (c : Int → Nat) (dom : List Int) : Nat := (dom.map c).sum
theorem total_dec {c : Int → Nat} {q : Int} : ∀ {dom : List Int}, dom.Nodup → q ∈ dom → 0 < c q → total (dec c q) dom + 1 = total c dom
  | [], _, h, _ => nomatch h
  | a :: r, hn, h, hc => by
    obtain ⟨h1, h2⟩ := List.nodup_cons.mp hn
    unfold total
    rw [List.map_cons, List.map_cons, List.sum_cons, List.sum_cons]
    by_cases e : a = q
    · subst e
      have : r.map (dec c a) = r.map c := List.map_congr_left fun p hp => by
        unfold dec
        rw [if_neg (fun e : p = a => h1 (e ▸ hp))]
      rw [this]
      show dec c a a + _ + 1 = _
      unfold dec
      rw [if_pos rfl]
      omega
    · have hq : q ∈ r := by
        rcases List.mem_cons.mp h with z | z
        · exact absurd z.symm e
        · exact z
      have ih := total_dec h2 hq hc
      unfold total at ih
      have : dec c q a = c a := by unfold dec; rw [if_neg e]
      rw [this]
      omega
theorem total_erase {c : Int → Nat} {q : Int} {dom : List Int} (h : q ∈ dom) : total c (dom.erase q) + c q = total c dom := by
  have hp := ((List.perm_cons_erase h).map c).sum_nat
  unfold total
  rw [hp, List.map_cons, List.sum_cons]
  omega

/-! ### walking from roots: known are those seen, left are those still to be looked at -/
/-- what is not known yet, with its points -/
def rest (pc : Pc) (U known : List Int) : Nat := ((U.filter fun q => !known.contains q).map fun q => (pts pc q).length + 1).sum
theorem rest_snoc {pc : Pc} {U known : List Int} {q : Int} (hU : q ∈ U) (hn : U.Nodup) (hk : ¬ q ∈ known) : rest pc U (known ++ [q]) + ((pts pc q).length + 1) = rest pc U known := by
  induction U with
  | nil => exact nomatch hU
  | cons a r ih =>
    obtain ⟨h1, h2⟩ := List.nodup_cons.mp hn
    unfold rest
    rw [List.filter_cons, List.filter_cons]
    by_cases e : a = q
    · subst e
      have e1 : (!(known ++ [a]).contains a) = false := by simp
      have e2 : (!known.contains a) = true := by simpa using hk
      rw [e1, e2, if_neg (by decide), if_pos rfl, List.map_cons, List.sum_cons]
      have : (r.filter fun q => !(known ++ [a]).contains q) = r.filter fun q => !known.contains q := by
        refine List.filter_congr fun p hp => ?_
        have : p ≠ a := fun e => h1 (e ▸ hp)
        simp [this]
      rw [this]
      omega
    · have hq : q ∈ r := by
        rcases List.mem_cons.mp hU with z | z
        · exact absurd z.symm e
        · exact z
      have ih' := ih hq h2
      unfold rest at ih'
      have ec : (known ++ [q]).contains a = known.contains a := by simp [e]
      rw [ec]
      split
      · rw [List.map_cons, List.map_cons, List.sum_cons, List.sum_cons]
        omega
      · omega
theorem rest_nil (pc : Pc) (U : List Int) : rest pc U [] = (U.map fun q => (pts pc q).length + 1).sum := by
  unfold rest
  congr 2
  exact List.filter_eq_self.mpr fun _ _ => rfl
theorem rest_erase {pc : Pc} {U : List Int} {q : Int} (h : q ∈ U) : rest pc (U.erase q) [] + ((pts pc q).length + 1) = rest pc U [] := by
  rw [rest_nil, rest_nil, ((List.perm_cons_erase h).map _).sum_nat, List.map_cons, List.sum_cons]
  omega
theorem rest_le {pc : Pc} : ∀ {U V : List Int}, U.Nodup → (∀ q ∈ U, q ∈ V) → rest pc U [] ≤ rest pc V []
  | [], _, _, _ => Nat.zero_le _
  | a :: r, V, hn, hs => by
    obtain ⟨h1, h2⟩ := List.nodup_cons.mp hn
    have ih := rest_le (pc := pc) (V := V.erase a) h2 fun q hq => (List.mem_erase_of_ne (fun e : q = a => h1 (e ▸ hq))).mpr (hs q (List.mem_cons_of_mem _ hq))
    have e1 := rest_erase (pc := pc) (hs a List.mem_cons_self)
    rw [rest_nil] at ih ⊢
    rw [List.map_cons, List.sum_cons]
    omega
structure Walking (pc : Pc) (roots known left : List Int) : Prop where
  nd : known.Nodup
  reach : ∀ p, p ∈ known ∨ p ∈ left → Rch pc roots p
  roots : ∀ p ∈ roots, p ∈ known ∨ p ∈ left
  closed : ∀ q ∈ known, ∀ p ∈ pts pc q, p ∈ known ∨ p ∈ left
theorem Walking.start (pc : Pc) (roots : List Int) : Walking pc roots [] roots := ⟨List.nodup_nil, fun p h => by
  rcases h with h | h
  · exact nomatch h
  · exact .root h, fun p h => .inr h, fun q h => nomatch h⟩
theorem Walking.old {pc : Pc} {roots known left : List Int} {q : Int} (g : Walking pc roots known (left ++ [q])) (hq : q ∈ known) : Walking pc roots known left := by
  refine ⟨g.nd, fun p h => g.reach p ?_, fun p hp => ?_, fun a ha p hp => ?_⟩
  · rcases h with h | h
    · exact .inl h
    · exact .inr (List.mem_append_left _ h)
  · rcases g.roots p hp with h | h
    · exact .inl h
    · rcases List.mem_append.mp h with h | h
      · exact .inr h
      · have : p = q := by simpa using h
        subst this; exact .inl hq
  · rcases g.closed a ha p hp with h | h
    · exact .inl h
    · rcases List.mem_append.mp h with h | h
      · exact .inr h
      · have : p = q := by simpa using h
        subst this; exact .inl hq
theorem Walking.new {pc : Pc} {roots known left : List Int} {q : Int} (g : Walking pc roots known (left ++ [q])) (hq : ¬ q ∈ known) : Walking pc roots (known ++ [q]) (left ++ pts pc q) := by
  have rq := g.reach q (.inr (by simp))
  refine ⟨?_, fun p h => ?_, fun p hp => ?_, fun a ha p hp => ?_⟩
  · refine List.nodup_append.mpr ⟨g.nd, by simp, ?_⟩
    intro a ha b hb e
    have : b = q := by simpa using hb
    subst this; subst e
    exact hq ha
  · rcases h with h | h
    · rcases List.mem_append.mp h with h | h
      · exact g.reach p (.inl h)
      · have : p = q := by simpa using h
        subst this; exact rq
    · rcases List.mem_append.mp h with h | h
      · exact g.reach p (.inr (List.mem_append_left _ h))
      · exact .step rq h
  · rcases g.roots p hp with h | h
    · exact .inl (List.mem_append_left _ h)
    · rcases List.mem_append.mp h with h | h
      · exact .inr (List.mem_append_left _ h)
      · exact .inl (List.mem_append_right _ h)
  · rcases List.mem_append.mp ha with ha | ha
    · rcases g.closed a ha p hp with h | h
      · exact .inl (List.mem_append_left _ h)
      · rcases List.mem_append.mp h with h | h
        · exact .inr (List.mem_append_left _ h)
        · exact .inl (List.mem_append_right _ h)
    · have : a = q := by simpa using ha
      subst this; exact .inr (List.mem_append_right _ hp)
theorem Walking.done {pc : Pc} {roots known : List Int} (g : Walking pc roots known []) (p : Int) : p ∈ known ↔ Rch pc roots p := by
  constructor
  · exact fun h => g.reach p (.inl h)
  · intro x
    induction x with
    | root hr => exact (g.roots _ hr).resolve_right fun z => nomatch z
    | step _ hp ih => exact (g.closed _ ih _ hp).resolve_right fun z => nomatch z

theorem nodup_len : ∀ {l U : List Int}, l.Nodup → (∀ q ∈ l, q ∈ U) → l.length ≤ U.length
  | [], _, _, _ => Nat.zero_le _
  | a :: r, U, hn, hs => by
    obtain ⟨h1, h2⟩ := List.nodup_cons.mp hn
    have ha := hs a List.mem_cons_self
    have ih := nodup_len (U := U.erase a) h2 fun q hq => (List.mem_erase_of_ne (fun e : q = a => h1 (e ▸ hq))).mpr (hs q (List.mem_cons_of_mem _ hq))
    rw [List.length_erase_of_mem ha] at ih
    have := List.length_pos_of_mem ha
    rw [List.length_cons]
    omega

/-! ### rising lists -/
theorem rising_eq {a b : List Int} (ha : a.Pairwise (· < ·)) (hb : b.Pairwise (· < ·)) (h : ∀ p, p ∈ a ↔ p ∈ b) : a = b := by
  induction a generalizing b with
  | nil =>
    cases b with
    | nil => rfl
    | cons y s => exact absurd ((h y).mpr List.mem_cons_self) (by simp)
  | cons x r ih =>
    cases b with
    | nil => exact absurd ((h x).mp List.mem_cons_self) (by simp)
    | cons y s =>
      obtain ⟨a1, a2⟩ := List.pairwise_cons.mp ha
      obtain ⟨b1, b2⟩ := List.pairwise_cons.mp hb
      have exy : x = y := by
        rcases List.mem_cons.mp ((h x).mp List.mem_cons_self) with e | e
        · exact e
        · rcases List.mem_cons.mp ((h y).mpr List.mem_cons_self) with e' | e'
          · exact e'.symm
          · have := b1 x e
            have := a1 y e'
            omega
      subst exy
      congr 1
      refine ih a2 b2 fun p => ?_
      constructor
      · intro hp
        rcases List.mem_cons.mp ((h p).mp (List.mem_cons_of_mem _ hp)) with e | e
        · have := a1 p hp; omega
        · exact e
      · intro hp
        rcases List.mem_cons.mp ((h p).mpr (List.mem_cons_of_mem _ hp)) with e | e
        · have := b1 p hp; omega
        · exact e
theorem rising_of {l : List Int} (h : l.Pairwise (· ≤ ·)) (hn : l.Nodup) : l.Pairwise (· < ·) := by
  induction l with
  | nil => exact .nil
  | cons a r ih =>
    obtain ⟨h1, h2⟩ := List.pairwise_cons.mp h
    obtain ⟨n1, n2⟩ := List.nodup_cons.mp hn
    refine List.pairwise_cons.mpr ⟨fun b hb => ?_, ih h2 n2⟩
    have := h1 b hb
    have : a ≠ b := fun e => n1 (e ▸ hb)
    omega
theorem nodup_of_rising {l : List Int} (h : l.Pairwise (· < ·)) : l.Nodup := h.imp fun h => Int.ne_of_lt h
end Cw

/-! Plain Lean: new pieces, ranks, what is due. -/
namespace Cw
/-- fr are new places; what they point at stands or is new and older -/
structure GrowI (pc pc' : Pc) (D : Int → Prop) (fr : List Int) : Prop where
  out : ∀ q ∈ fr, ¬ D q
  same : ∀ q, ¬ q ∈ fr → pc' q = pc q
  idx : ∃ i : Int → Nat, (∀ q ∈ fr, i q < fr.length) ∧ ∀ q ∈ fr, ∀ p ∈ pts pc' q, D p ∨ (p ∈ fr ∧ i p < i q)
theorem GrowI.nil (pc : Pc) (D : Int → Prop) : GrowI pc pc D [] := ⟨fun _ h => (nomatch h), fun _ _ => rfl, fun _ => 0, fun _ h => (nomatch h), fun _ h => (nomatch h)⟩
def putP (pc : Pc) (f : Int) (b : Int) (l : List Int) : Pc := fun q => if q = f then some (b, l) else pc q
theorem putP_same (pc : Pc) (f b : Int) (l : List Int) : putP pc f b l f = some (b, l) := if_pos rfl
theorem putP_ne {pc : Pc} {f b q : Int} {l : List Int} (h : q ≠ f) : putP pc f b l q = pc q := if_neg h
theorem pts_putP_ne {pc : Pc} {f b q : Int} {l : List Int} (h : q ≠ f) : pts (putP pc f b l) q = pts pc q := by unfold pts; rw [putP_ne h]
theorem pts_putP_same (pc : Pc) (f b : Int) (l : List Int) : pts (putP pc f b l) f = l := pts_some (putP_same pc f b l)
theorem GrowI.put {pc pc' : Pc} {D : Int → Prop} {fr l : List Int} {f b : Int} (h : GrowI pc pc' D fr) (hf : ¬ f ∈ fr) (hD : ¬ D f) (hl : ∀ p ∈ l, D p ∨ p ∈ fr) : GrowI pc (putP pc' f b l) D (fr ++ [f]) := by
  obtain ⟨i, h1, h2⟩ := h.idx
  refine ⟨fun q hq => ?_, fun q hq => ?_, fun q => if q = f then fr.length else i q, fun q hq => ?_, fun q hq p hp => ?_⟩
  · rcases List.mem_append.mp hq with z | z
    · exact h.out q z
    · rw [List.mem_singleton.mp z]
      exact hD
  · rw [putP_ne (fun e => hq (by simp [e]))]
    exact h.same q fun z => hq (List.mem_append_left _ z)
  · rw [List.length_append, List.length_singleton]
    show (if q = f then fr.length else i q) < _
    split
    · omega
    · rename_i e
      rcases List.mem_append.mp hq with z | z
      · have := h1 q z
        omega
      · exact absurd (List.mem_singleton.mp z) e
  · show D p ∨ (p ∈ fr ++ [f] ∧ (if p = f then fr.length else i p) < if q = f then fr.length else i q)
    by_cases e : q = f
    · subst e
      rw [pts_putP_same] at hp
      rw [if_pos rfl]
      rcases hl p hp with z | z
      · exact .inl z
      · refine .inr ⟨List.mem_append_left _ z, ?_⟩
        rw [if_neg (fun e : p = q => hf (e ▸ z))]
        exact h1 p z
    · rw [pts_putP_ne e] at hp
      rw [if_neg e]
      have hq' : q ∈ fr := by
        rcases List.mem_append.mp hq with z | z
        · exact z
        · exact absurd (List.mem_singleton.mp z) e
      rcases h2 q hq' p hp with z | ⟨z, z2⟩
      · exact .inl z
      · refine .inr ⟨List.mem_append_left _ z, ?_⟩
        rw [if_neg (fun e : p = f => hf (e ▸ z))]
        exact z2
theorem pts_congr {pc pc' : Pc} {q : Int} (h : pc' q = pc q) : pts pc' q = pts pc q := by unfold pts; rw [h]
section
variable {pc pc' : Pc} {hs fr : List Int}
theorem GrowI.pts_old (g : GrowI pc pc' (Rch pc hs) fr) {q : Int} (h : Rch pc hs q) : pts pc' q = pts pc q := pts_congr (g.same q fun z => g.out q z h)
theorem GrowI.rch (g : GrowI pc pc' (Rch pc hs) fr) (p : Int) : Rch pc' hs p ↔ Rch pc hs p := by
  constructor
  · intro h
    induction h with
    | root h => exact .root h
    | step _ hp ih =>
      rw [g.pts_old ih] at hp
      exact .step ih hp
  · intro h
    induction h with
    | root h => exact .root h
    | step h1 hp ih =>
      rw [← g.pts_old h1] at hp
      exact .step ih hp
theorem Rch.app {a b : List Int} {p : Int} (h : Rch pc (a ++ b) p) : Rch pc a p ∨ Rch pc b p := by
  induction h with
  | root h =>
    rcases List.mem_append.mp h with z | z
    · exact .inl (.root z)
    · exact .inr (.root z)
  | step _ hp ih =>
    rcases ih with z | z
    · exact .inl (.step z hp)
    · exact .inr (.step z hp)
/-- what is come to from the new root: new or standing -/
theorem GrowI.reach (g : GrowI pc pc' (Rch pc hs) fr) {r : Int} (hr : r ∈ fr) {p : Int} (h : Rch pc' (hs ++ [r]) p) : Rch pc hs p ∨ p ∈ fr := by
  obtain ⟨i, h1, h2⟩ := g.idx
  induction h with
  | root h =>
    rcases List.mem_append.mp h with z | z
    · exact .inl (.root z)
    · rw [List.mem_singleton.mp z]
      exact .inr hr
  | step _ hp ih =>
    rcases ih with z | z
    · rw [g.pts_old z] at hp
      exact .inl (.step z hp)
    · rcases h2 _ z _ hp with y | y
      · exact .inl y
      · exact .inr y.1
end
/-- points fall in rank -/
def Ranked (pc : Pc) (hs : List Int) : Prop := ∃ rk : Int → Nat, ∀ q, Rch pc hs q → ∀ p ∈ pts pc q, rk p < rk q
theorem le_sum {f : Int → Nat} {l : List Int} {p : Int} (h : p ∈ l) : f p ≤ (l.map f).sum := by
  induction l with
  | nil => exact nomatch h
  | cons a r ih =>
    rw [List.map_cons, List.sum_cons]
    rcases List.mem_cons.mp h with e | z
    · rw [e]; omega
    · have := ih z
      omega
theorem Ranked.mono {pc : Pc} {hs hs' : List Int} (h : Ranked pc hs) (s : ∀ r ∈ hs', r ∈ hs) : Ranked pc hs' := let ⟨rk, k⟩ := h; ⟨rk, fun q hq p hp => k q (hq.mono fun r hr => .root (s r hr)) p hp⟩
theorem GrowI.ranked {pc pc' : Pc} {hs fr dom : List Int} {r : Int} (g : GrowI pc pc' (Rch pc hs) fr) (hr : r ∈ fr) (hd : ∀ p, Rch pc hs p → p ∈ dom) (h : Ranked pc hs) : Ranked pc' (hs ++ [r]) := by
  obtain ⟨rk, k⟩ := h
  obtain ⟨i, h1, h2⟩ := g.idx
  refine ⟨fun q => if q ∈ fr then (dom.map rk).sum + 1 + i q else rk q, fun q hq p hp => ?_⟩
  show (if p ∈ fr then (dom.map rk).sum + 1 + i p else rk p) < if q ∈ fr then (dom.map rk).sum + 1 + i q else rk q
  rcases g.reach hr hq with z | z
  · rw [g.pts_old z] at hp
    rw [if_neg fun y => g.out q y z, if_neg fun y => g.out p y (.step z hp)]
    exact k q z p hp
  · rw [if_pos z]
    rcases h2 q z p hp with y | ⟨y, y2⟩
    · rw [if_neg fun x => g.out p x y]
      have := le_sum (f := rk) (hd p y)
      omega
    · rw [if_pos y]
      omega
theorem good_rank {pc : Pc} {hs hs0 dom : List Int} {c : Int → Nat} (g : Good pc hs dom c) (rk : Ranked pc hs0) (h : ∀ q ∈ dom, Rch pc hs0 q) (p : Int) : p ∈ dom ↔ Rch pc hs p := by
  obtain ⟨rk, k⟩ := rk
  exact g.iff (rk := rk) (fun q hq => k q (h q hq)) p
theorem sub_math {pc : Pc} {hs hs' dom dom' : List Int} {c' : Int → Nat} (hd : ∀ p, p ∈ dom ↔ Rch pc hs p) (rk : Ranked pc hs) (g : Good pc hs' dom' c') (sb : ∀ q ∈ dom', q ∈ dom) (hss : ∀ r ∈ hs', r ∈ hs) :
    (∀ p, p ∈ dom' ↔ Rch pc hs' p) ∧ Ranked pc hs' ∧ ∀ q, (q ∈ dom ∧ ¬ q ∈ dom') ↔ (Rch pc hs q ∧ ¬ Rch pc hs' q) := by
  have h1 := good_rank g rk fun q hq => (hd q).mp (sb q hq)
  exact ⟨h1, rk.mono hss, fun q => by rw [hd q, h1 q]⟩
theorem grown_math {pc pc' : Pc} {ms fr dom dom1 dom' : List Int} {r r0 : Int} {c1 c' : Int → Nat} (hd : ∀ p, p ∈ dom ↔ Rch pc (ms ++ [r0]) p) (rk : Ranked pc (ms ++ [r0])) (g : GrowI pc pc' (Rch pc (ms ++ [r0])) fr) (hr : r ∈ fr)
    (g1 : Good pc' (ms ++ [r0] ++ [r]) dom1 c1) (h1 : ∀ q ∈ dom1, q ∈ dom ∨ Rch pc' [r] q) (sb : ∀ q ∈ dom', q ∈ dom1) (g2 : Good pc' (ms ++ [r]) dom' c') :
    (∀ p, p ∈ dom' ↔ Rch pc' (ms ++ [r]) p) ∧ Ranked pc' (ms ++ [r]) ∧ ∀ q, (q ∈ dom1 ∧ ¬ q ∈ dom') ↔ (Rch pc (ms ++ [r0]) q ∧ ¬ Rch pc' (ms ++ [r]) q) := by
  have rk' := g.ranked hr (fun p hp => (hd p).mpr hp) rk
  have h2 : ∀ q ∈ dom1, Rch pc' (ms ++ [r0] ++ [r]) q := fun q hq => by
    rcases h1 q hq with z | z
    · exact ((g.rch q).mpr ((hd q).mp z)).mono fun x hx => .root (List.mem_append_left _ hx)
    · exact z.mono fun x hx => .root (List.mem_append_right _ hx)
  have h3 := good_rank g2 rk' fun q hq => h2 q (sb q hq)
  refine ⟨h3, rk'.mono fun x hx => ?_, fun q => ⟨fun ⟨a, b⟩ => ?_, fun ⟨a, b⟩ => ?_⟩⟩
  · rcases List.mem_append.mp hx with z | z
    · exact List.mem_append_left _ (List.mem_append_left _ z)
    · exact List.mem_append_right _ z
  · have nb : ¬ Rch pc' (ms ++ [r]) q := fun z => b ((h3 q).mpr z)
    refine ⟨?_, nb⟩
    rcases h1 q a with z | z
    · exact (hd q).mp z
    · exact absurd (z.mono fun x hx => .root (List.mem_append_right _ hx)) nb
  · refine ⟨?_, fun z => b ((h3 q).mp z)⟩
    exact g1.in_of (((g.rch q).mpr a).mono fun x hx => .root (List.mem_append_left _ hx))
theorem come_math {pc : Pc} {hs hs' dom dom' : List Int} {r : Int} {c' : Int → Nat} (hd : ∀ p, p ∈ dom ↔ Rch pc hs p) (rk : Ranked pc hs) (hr : r ∈ hs) (g : Good pc hs' dom' c') (h1 : ∀ q ∈ dom', q ∈ dom ∨ Rch pc [r] q) (hss : ∀ x, x ∈ hs' ↔ x ∈ hs) :
    (∀ p, p ∈ dom' ↔ Rch pc hs' p) ∧ Ranked pc hs' ∧ ∀ q, Rch pc hs' q ↔ Rch pc hs q := by
  have e : ∀ q, Rch pc hs' q ↔ Rch pc hs q := fun q => ⟨fun z => z.mono fun x hx => .root ((hss x).mp hx), fun z => z.mono fun x hx => .root ((hss x).mpr hx)⟩
  refine ⟨fun p => ⟨fun z => (e p).mpr ?_, g.in_of⟩, rk.mono fun x hx => (hss x).mp hx, e⟩
  rcases h1 p z with y | y
  · exact (hd p).mp y
  · exact y.mono fun x hx => .root (by rw [List.mem_singleton.mp hx]; exact hr)
end Cw

/-! A head's Hook that sees the model's statics too (wanted where a function is read off a class). -/
namespace CwH
open PySem L2
/-- K: the frag that is looked at -/
def part (n : Nat) (g : Addr → Option Obj) : PySem.W.Frag := He.frT g (He.asD g n ++ [cStatics])
abbrev Seen : Type := He.AlD × Bool
def look (n : Nat) (fa : List He.Fa) (fn : List He.DefD) (tf : List He.Defn) (ex : PySem.W.Frag → Bool) (g : Addr → Option Obj) : Seen :=
  (He.obsD fa fn (part n g), ex (part n g) && He.tabsB g tf (part n g))
def due (fn : List He.DefD) : Seen := (He.valD fn, true)
/-- what the end leans on -/
structure Told (fa : List He.Fa) (fn : List He.DefD) (tf : List He.Defn) (ex : PySem.W.Frag → Bool) (h : Heap) (K : PySem.W.Frag) : Prop where
  d : He.SaysD fa fn K
  more : ex K = true
  hd : ∀ p ∈ tf, PySem.W.codeHdIn K (He.cT K p).1 (He.cT K p).2 = true
  out : ∀ p ∈ tf, K.lookup (He.cT K p).2 = none
  empty : ∀ p ∈ tf, h.get? (He.cT K p).2 = some { cls := .none, data := .fields #[] }
theorem told_of {n : Nat} {fa : List He.Fa} {fn : List He.DefD} {tf : List He.Defn} {ex : PySem.W.Frag → Bool} {h : Heap} (e : look n fa fn tf ex h.get? = due fn) : Told fa fn tf ex h (part n h.get?) := by
  obtain ⟨e1, e2⟩ := Prod.mk.inj (show (He.obsD fa fn (part n h.get?), ex (part n h.get?) && He.tabsB h.get? tf (part n h.get?)) = (He.valD fn, true) from e)
  obtain ⟨m1, m2⟩ := Bool.and_eq_true_iff.mp e2
  have each : ∀ p ∈ tf, PySem.W.codeHdIn (part n h.get?) (He.cT (part n h.get?) p).1 (He.cT (part n h.get?) p).2 = true ∧ ∃ o, h.get? (He.cT (part n h.get?) p).2 = some o ∧ He.emptyTab o = true := by
    intro p hp
    obtain ⟨a, b⟩ := Bool.and_eq_true_iff.mp (List.all_eq_true.mp m2 p hp)
    refine ⟨a, ?_⟩
    revert b
    cases h.get? (He.cT (part n h.get?) p).2 with
    | none => exact fun b => nomatch b
    | some o => exact fun b => ⟨o, rfl, b⟩
  refine ⟨e1, m1, fun p hp => (each p hp).1, fun p hp => ?_, fun p hp => ?_⟩
  · obtain ⟨_, o, a, b⟩ := each p hp
    exact He.frT_none a b
  · obtain ⟨_, o, a, b⟩ := each p hp
    rw [a, He.emptyTab_eq b]
def hook (n : Nat) (fa : List He.Fa) (fn : List He.DefD) (tf : List He.Defn) (ex : PySem.W.Frag → Bool) : PySem.W.Hook where
  α := Seen
  obs := fun s => look n fa fn tf ex s.heap.get?
  val := fun _ => due fn
  says := fun _ h => ∃ K : PySem.W.Frag, K.In h ∧ Told fa fn tf ex h K
  of := fun _ _ e => ⟨_, He.frT_in, told_of e⟩
  keeps := fun _ _ _ ⟨K, i, c⟩ k => ⟨K, PySem.W.Frag.In.keeps i k, ⟨c.d, c.more, c.hd, c.out, fun p hp => k _ _ (c.empty p hp)⟩⟩
theorem look_eq {n : Nat} {fa : List He.Fa} {fn : List He.DefD} {tf : List He.Defn} {ex : PySem.W.Frag → Bool} {g : Addr → Option Obj} {s : Shared} (h : ∀ a, g a = s.heap.get? a) : look n fa fn tf ex g = (hook n fa fn tf ex).obs s := by
  obtain rfl : g = s.heap.get? := funext h
  rfl
/-- a function that is read off a class: C.m -/
def cfB (r : Option PySem.W.CFound) (f : Addr) : Bool := match r with
  | some (.val (.ref a)) => decide (a = f)
  | _ => false
def clsB (K : PySem.W.Frag) (x m : PySem.Str) : Bool := PySem.W.readsIn K (He.ga K x) (.type "type") && (decide (PySem.W.specialIn K (.ref (He.ga K x)) "__getattribute__" = some (some (.builtin "type.__getattribute__"))) &&
  cfB (PySem.W.findCls K (.ref (He.ga K x)) (.type "type") m) (He.ma K (He.ga K x) m))
/-- .. as rules want it -/
structure CFun (K : PySem.W.Frag) (C : Addr) (m : PySem.Str) (f : Addr) : Prop where
  rd : ClX.CRead K C (.type "type")
  at_ : PySem.W.findCls K (.ref C) (.type "type") m = some (.val (.ref f))
theorem clsB_ok {K : PySem.W.Frag} {x m : PySem.Str} (h : clsB K x m = true) : CFun K (He.ga K x) m (He.ma K (He.ga K x) m) := by
  obtain ⟨h1, h2⟩ := Bool.and_eq_true_iff.mp h
  obtain ⟨h3, h4⟩ := Bool.and_eq_true_iff.mp h2
  refine ⟨⟨h1, of_decide_eq_true h3⟩, ?_⟩
  revert h4
  cases PySem.W.findCls K (.ref (He.ga K x)) (.type "type") m with
  | none => exact fun z => nomatch z
  | some r =>
    cases r with
    | get _ _ _ _ => exact fun z => nomatch z
    | val v =>
      cases v with
      | ref a => exact fun z => by rw [show a = _ from of_decide_eq_true z]
      | _ => exact fun z => nomatch z
/-- the function object of a def by its place -/
def fdOf (K : PySem.W.Frag) (p : PySem.Str × Option PySem.Str) : FuncData := match K.lookup (He.fAd K p) with
  | some ⟨_, _, .func fd, _⟩ => fd
  | _ => default
theorem fun_of {K : PySem.W.Frag} {x qual : PySem.Str} {st : Stmt} {p : PySem.Str × Option PySem.Str} (h : ∃ fd, FunD K x qual (defArgs st) (defBody st) (defScope st) [] [] (He.fAd K p) fd) : Fun K x qual st (He.fAd K p) (fdOf K p) := by
  obtain ⟨fd, ⟨oc, od, dV, kV, doc, pm, an, cdv, ct, osl, e, lk, hc, hD, _⟩, kp⟩ := h
  have ef : fdOf K p = fd := by
    unfold fdOf
    rw [lk]
  obtain rfl : dV = .none := by
    rcases hD with ⟨_, z⟩ | ⟨z, _⟩
    · exact z
    · exact absurd rfl z
  rw [ef]
  exact ⟨⟨oc, od, kV, doc, pm, an, cdv, ct, osl, e, lk, hc⟩, kp⟩
end CwH

/-! Rules that the hand layer lacks: functions read off a class, made functions that live on, calls of what a field holds. -/
namespace CwR
open PySem PySem.Spec PyProof.Rows L2 NdefX LamX
/-! ### C.m(a, ..): a plain def read off a class -/
section
variable {X : Cx} {CX : CXT} {k : Nat} {C g : Addr} {fd : FuncData} {ps : List Str} {sp : Sp} {E : XK} {x m : Str} {e : Expr} {es : List Expr} {p1 p2 pos : Pos} {t : TA} {pl : Sem Bool}
def tOff (sp : Sp) (E : XK) (t : TA) : TE := fun σ H Q => t σ H fun vs H1 => sp vs H1 Q E
theorem pe_off (hg : Gl X x) (hm : X.mg x = some (.ref C)) (c : CwH.CFun X.K C m g) (hk : PySem.W.keepIn X.K (.ref g) = true) (F : FnOk X.prog X.w X.K X.mg X.base CX k g fd ps sp) (hr : Room k X.A) (hb : Binds X.K fd ps []) (hx : Passes CX X E) (ha : PA X (e :: es) t)
    (hdb : (x == ("__debug__" : Str)) = false := by decide)
    (hst : starEach (e :: es) X.env = (false, eval e X.env) :: starEach es X.env := by rfl) (hpl : (backTo pos (starEach es X.env)).any (·.1) = false := by rfl)
    (ht : eval (.Call (.Attribute (.Name x p1) m p2) (e :: es) [] pos) X.env = (do
      let ov ← eval (.Name x p1) X.env
      standAt p2.atName
      let (f, first) ← holding [ov] (getMethod ov m pl)
      callWith pos f first (backTo pos (starEach (e :: es) X.env)) (backToKw pos (keywordEach [] X.env))) := by rfl) :
    PE X (.Call (.Attribute (.Name x p1) m p2) (e :: es) [] pos) (tOff sp E t) := by
  refine ⟨fun pins s σ H Q I h => ?_⟩
  refine PySem.W.methodCall_KW (pl := pl) (ld_glob I hg hm ?_ hdb) ht
  refine PySem.W.method_cls I.kIn c.rd.ga ?_
  refine ClX.getcval_ok (v := .ref g) I c.rd ⟨c.at_, rfl⟩ fun s1 I1 => ?_
  refine PySem.W.callWith_K (first := []) (h₀ := X.base) I.ok.mod.kin hk (thn (ha.run pos pins s1 σ H _ I1 h) fun us s2 ⟨vs, H2, I2, r, q⟩ => ⟨I2.kIn, ?_⟩) hst hpl
  exact run_fn (us := us) (vs := vs) F hr hb .nil hx I2 r (by rw [List.append_nil]; exact q)
end

/-! ### cells that are known: frozen entries -/
/-- a cell that stands at c, frozen, that holds v -/
def CellIs (H : Hp) (c : Addr) (v : V) : Prop := ∃ (o : Obj) (u : Value), H c = some (.frz o (.own c)) ∧ o.data = .cell (some u) ∧ RelV v u
/-- the cells that a made function has captured -/
structure Caught (H : Hp) (cl : List (Str × Addr)) (fr : List Str) (ws : List V) : Prop where
  len : ws.length = fr.length
  inj : ∀ x y c, cl.lookup x = some c → cl.lookup y = some c → x = y
  all : ∀ y c, cl.lookup y = some c → ∃ o : Obj, H c = some (.frz o (.own c)) ∧ ∃ v, o.data = .cell v
  has : ∀ (i : Nat) (y : Str) (v : V), fr[i]? = some y → ws[i]? = some v → ∃ c, cl.lookup y = some c ∧ CellIs H c v
theorem CellIs.ext {H H' : Hp} {c : Addr} {v : V} (h : CellIs H c v) (e : ExtN H H') : CellIs H' c v := by
  obtain ⟨o, u, h1, h2, h3⟩ := h
  exact ⟨o, u, e _ _ h1 (fun ps z => by cases z), h2, h3⟩
theorem Caught.ext {H H' : Hp} {cl : List (Str × Addr)} {fr : List Str} {ws : List V} (h : Caught H cl fr ws) (e : ExtN H H') : Caught H' cl fr ws :=
  ⟨h.len, h.inj, fun y c hc => by
    obtain ⟨o, h1, h2⟩ := h.all y c hc
    exact ⟨o, e _ _ h1 (fun ps z => by cases z), h2⟩, fun i y v h1 h2 => by
    obtain ⟨c, hc, h3⟩ := h.has i y v h1 h2
    exact ⟨c, hc, h3.ext e⟩⟩
/-- H without the cells at cs; with them again -/
def del (cs : List Addr) (H : Hp) : Hp := fun b => if b ∈ cs then none else H b
def re (cs : List Addr) (H H' : Hp) : Hp := fun b => if b ∈ cs then H b else H' b
theorem del_in {cs : List Addr} {H : Hp} {b : Addr} (h : b ∈ cs) : del cs H b = none := if_pos h
theorem del_out {cs : List Addr} {H : Hp} {b : Addr} (h : ¬ b ∈ cs) : del cs H b = H b := if_neg h
theorem re_in {cs : List Addr} {H H' : Hp} {b : Addr} (h : b ∈ cs) : re cs H H' b = H b := if_pos h
theorem re_out {cs : List Addr} {H H' : Hp} {b : Addr} (h : ¬ b ∈ cs) : re cs H H' b = H' b := if_neg h
theorem del_of {cs : List Addr} {H : Hp} {b : Addr} {o : HO} (hc : ∀ c ∈ cs, ∃ ob, H c = some (.frz ob (.own c))) (h : H b = some o) (n : ∀ ob u, o ≠ .frz ob u) : del cs H b = some o := by
  rw [del_out fun z => ?_]
  · exact h
  · obtain ⟨ob, e⟩ := hc b z
    rw [h] at e
    exact n _ _ (Option.some.inj e)
abbrev cellsOf (cl : List (Str × Addr)) : List Addr := cl.map (·.2)
theorem mem_cells {cl : List (Str × Addr)} {y : Str} {c : Addr} (h : cl.lookup y = some c) : c ∈ cellsOf cl := List.mem_map.mpr ⟨(y, c), PySem.mem_of_lookup h, rfl⟩

section
variable {CX : CXT} {P : Program} {w : World} {K : PySem.W.Frag} {mg : Str → Option Value} {base : Heap} {fr ps : List Str} {F : NF} {f : Addr} {k : Nat} {sp : List (Option V) → Sp}
/-- what is asked of the cells' list: each cell of it is found by its name -/
def Keyed (cl : List (Str × Addr)) : Prop := ∀ y c, (y, c) ∈ cl → cl.lookup y = some c
theorem Caught.cells {H : Hp} {cl : List (Str × Addr)} {ws : List V} (h : Caught H cl fr ws) (kd : Keyed cl) : ∀ c ∈ cellsOf cl, ∃ o : Obj, H c = some (.frz o (.own c)) ∧ ∃ v, o.data = .cell v := fun c hc => by
  obtain ⟨⟨y, c'⟩, hp, e⟩ := List.mem_map.mp hc
  have e : c' = c := e
  subst e
  exact h.all y c' (kd y c' hp)
theorem hok_del {cs : List Addr} {H : Hp} {h : Heap} (hc : ∀ c ∈ cs, ∃ o : Obj, H c = some (.frz o (.own c))) (ok : HOk P w H h) : HOk P w (del cs H) h := fun a o e => by
  have na : ¬ a ∈ cs := fun z => by
    rw [del_in z] at e
    cases e
  rw [del_out na] at e
  refine (ok a o e).stay (fun b u _ q => q) (fun b q => ?_) fun b xs q => ?_
  · exact del_of (fun c z => (hc c z)) q fun _ _ z => nomatch z
  · exact del_of (fun c z => (hc c z)) q fun _ _ z => nomatch z
/-- THE CALL of a made function whose cells are known -/
theorem run_made {X : Cx} {pins : List (Addr × Obj)} {σ : L2.St} {H : Hp} {s : Shared} {Q : VK} {us : List Value} {vs ws : List V} {E : XK} (Fn : NOk X.prog X.w X.K X.mg X.base CX0 k f F ps fr sp) (hr : Room k X.A) (I : Inv X pins σ H s)
    (hf : H f = some (FnO f F)) (hc : H F.c = some (CodeO F.c F.qual)) (kd : Keyed F.cl) (C : Caught H F.cl fr ws) (r : Vals vs us)
    (q : sp (ws.map some) vs (del (cellsOf F.cl) H) (fun v H' => (∀ c ∈ cellsOf F.cl, H' c = none) → Q v (re (cellsOf F.cl) H H')) E) : wpAny (model X.prog X.w) X.A (call (.ref f) us) (EP X pins σ Q) X.xe s := by
  have hcs := C.cells kd
  have hcs1 : ∀ c ∈ cellsOf F.cl, ∃ o : Obj, H c = some (.frz o (.own c)) := fun c z => let ⟨o, e, _⟩ := hcs c z; ⟨o, e⟩
  have at_ : ∀ c ∈ cellsOf F.cl, ∃ o : Obj, H c = some (.frz o (.own c)) ∧ s.heap.get? c = some o ∧ ∃ v, o.data = .cell v := fun c z => by
    obtain ⟨o, e, v, d⟩ := hcs c z
    obtain ⟨e1, _⟩ := I.hok c _ e
    exact ⟨o, e, e1, v, d⟩
  have hok' : HOk X.prog X.w (del (cellsOf F.cl) H) s.heap := hok_del hcs1 I.hok
  have e0 := I.env0
  have noneOf : ∀ b, H b = none → del (cellsOf F.cl) H b = none := fun b n => by
    by_cases z : b ∈ cellsOf F.cl
    · exact del_in z
    · rw [del_out z]; exact n
  have e1 : Env0 X.prog X.w X.K X.mg X.base X.A X.stack s (del (cellsOf F.cl) H) :=
    ⟨e0.frames, e0.mod, fun b o e => ⟨(e0.bs b o e).1, noneOf b (e0.bs b o e).2⟩, e0.bsz, e0.funs, fun b hb => noneOf b (e0.frf b hb), hok', e0.bare⟩
  have fn1 : ∀ {a : Addr} {φ : Heap → Prop}, H a = some (.ext φ) → del (cellsOf F.cl) H a = some (.ext φ) := fun e => del_of hcs1 e fun _ _ z => nomatch z
  have hf' : del (cellsOf F.cl) H f = some (FnO f F) := fn1 hf
  have hc' : del (cellsOf F.cl) H F.c = some (CodeO F.c F.qual) := fn1 hc
  have CA : CellsAt F.cl fr (ws.map some) s.heap (del (cellsOf F.cl) H) := by
    refine ⟨by rw [List.length_map]; exact C.len, fun y c e => ?_, C.inj, fun i y e => ?_⟩
    · obtain ⟨o, _, e2, v, d⟩ := at_ c (mem_cells e)
      exact ⟨del_in (mem_cells e), v, o, e2, d⟩
    · have hi : i < ws.length := by
        rw [C.len]
        exact (List.getElem?_eq_some_iff.mp e).1
      obtain ⟨c, hc, o, u, h1, h2, h3⟩ := C.has i y ws[i] e (List.getElem?_eq_getElem hi)
      refine ⟨c, hc, fun v ev => ?_⟩
      rw [List.getElem?_map, List.getElem?_eq_getElem hi] at ev
      have ev2 : ws[i] = v := Option.some.inj (Option.some.inj (show some (some ws[i]) = some (some v) from ev))
      subst ev2
      obtain ⟨e1, _⟩ := I.hok c _ h1
      exact ⟨u, h3, o, e1, h2⟩
  have nofr : ∀ c ∈ cellsOf F.cl, c ∉ frs X.stack := fun c z hb => by
    have n := I.stkFree c hb
    obtain ⟨o, e, _⟩ := at_ c z
    rw [e] at n
    cases n
  refine wpAny_call (codeAny_mono (Fn.run X.A X.stack s (del (cellsOf F.cl) H) us vs _ (fun v H' => (∀ c ∈ cellsOf F.cl, H' c = none) → Q v (re (cellsOf F.cl) H H')) E hr e1 hf' hc' CA r q) fun r s' hq => ?_)
  cases r with
  | error e => exact (show False from hq).elim
  | ok fl =>
    cases fl with
    | next => exact False.elim hq
    | brk => exact False.elim hq
    | cont => exact False.elim hq
    | ret u =>
      obtain ⟨v, H', os, bare, un, hok2, rv, q2⟩ := hq
      have cnone : ∀ c ∈ cellsOf F.cl, H' c = none := fun c z => by
        obtain ⟨o, _, e2, _⟩ := at_ c z
        exact un.free c o e2 (del_in z) (by simp)
      have ckeep : ∀ c ∈ cellsOf F.cl, ∀ o, s.heap.get? c = some o → s'.heap.get? c = some o := fun c z o e => un.keep c o e (del_in z) (nofr c z) (by simp)
      have hre : ∀ b o, H' b = some o → re (cellsOf F.cl) H H' b = some o := fun b o e => by
        rw [re_out fun z => ?_]
        · exact e
        · rw [cnone b z] at e
          cases e
      have hok3 : HOk X.prog X.w (re (cellsOf F.cl) H H') s'.heap := fun a o e => by
        by_cases z : a ∈ cellsOf F.cl
        · rw [re_in z] at e
          obtain ⟨ob, e1, e2, _⟩ := at_ a z
          rw [e1] at e
          cases e
          exact ⟨ckeep a z ob e2, ob, ckeep a z ob e2⟩
        · rw [re_out z] at e
          exact (hok2 a o e).stay (fun b u _ q => q) (fun b q => hre b _ q) fun b xs q => hre b _ q
      have un3 : Un (frs X.stack) [] H (re (cellsOf F.cl) H H') s.heap s'.heap := by
        refine ⟨fun b o e n hb hx => un.keep b o e (noneOf b n) hb hx, fun b o e n hb hx => un.slot b o e (noneOf b n) hb hx, fun b o e n hx => ?_, un.there, fun b xs e => ?_, fun b ob u e => ?_, fun b ps e => ?_⟩
        · have nb : ¬ b ∈ cellsOf F.cl := fun z => by
            obtain ⟨o', e', _⟩ := at_ b z
            rw [n] at e'
            cases e'
          rw [re_out nb]
          exact un.free b o e (noneOf b n) hx
        · exact hre b _ (un.tups b xs (del_of hcs1 e fun _ _ z => nomatch z))
        · by_cases z : b ∈ cellsOf F.cl
          · rw [re_in z]
            exact e
          · exact hre b _ (un.frzs b ob u (by rw [del_out z]; exact e))
        · obtain ⟨more, z⟩ := un.tbls b ps (del_of hcs1 e fun _ _ z => nomatch z)
          exact ⟨more, hre b _ z⟩
      exact I.after ⟨v, re (cellsOf F.cl) H H', os, bare, un3, hok3, rv, q2 cnone⟩
end

/-! ### a made function as data: its words, what it has captured -/
/-- at f: a function made of the statement st (name, qualified name), that has captured ws by the names fr -/
structure Made (H : Hp) (f : Addr) (st : Stmt) (name qual : Str) (fr : List Str) (ws : List V) : Prop where
  ex : ∃ (cl : List (Str × Addr)) (c : Addr), H f = some (FnO f (NF.of st name qual cl c)) ∧ H c = some (CodeO c qual) ∧ Keyed cl ∧ Caught H cl fr ws
theorem Made.ext {H H' : Hp} {f : Addr} {st : Stmt} {name qual : Str} {fr : List Str} {ws : List V} (h : Made H f st name qual fr ws) (e : ExtN H H') : Made H' f st name qual fr ws := by
  obtain ⟨cl, c, h1, h2, h3, h4⟩ := h.ex
  exact ⟨cl, c, e _ _ h1 (fun ps z => fnO_ne ps z), e _ _ h2 (fun ps z => codeO_ne ps z), h3, h4.ext e⟩
/-- its promise, in whatever cells it is called: told without them -/
def CSp := List V → Sp
section
variable {X : Cx} {k : Nat} {st : Stmt} {name qual : Str} {fr ps : List Str} {sp : List (Option V) → Sp}
/-- what a call of it asks: cs are its cells -/
def rMade (st : Stmt) (name qual : Str) (fr : List Str) (sp : List (Option V) → Sp) : V → List V → Hp → VK → Prop := fun g vs H Q => ∃ (f : Addr) (ws : List V), g = .ref f ∧ Made H f st name qual fr ws ∧
  ∀ cs : List Addr, (∀ c ∈ cs, ∃ ob, H c = some (.frz ob (.own c))) → sp (ws.map some) vs (del cs H) (fun v H' => (∀ c ∈ cs, H' c = none) → Q v (re cs H H')) E0
theorem run_rMade {pins : List (Addr × Obj)} {σ : L2.St} {H : Hp} {s : Shared} {Q : VK} {us : List Value} {vs : List V} {g : V} {u : Value} (Fn : ∀ f cl c, NOk X.prog X.w X.K X.mg X.base CX0 k f (NF.of st name qual cl c) ps fr sp) (hr : Room k X.A) (I : Inv X pins σ H s)
    (rg : RelV g u) (r : Vals vs us) (q : rMade st name qual fr sp g vs H Q) : wpAny (model X.prog X.w) X.A (call u us) (EP X pins σ Q) X.xe s := by
  obtain ⟨f, ws, rfl, M, q⟩ := q
  obtain rfl : u = Value.ref f := rg
  obtain ⟨cl, c, h1, h2, h3, h4⟩ := M.ex
  exact run_made (Fn f cl c) hr I h1 h2 h3 h4 r (q (cellsOf cl) fun c hc => let ⟨o, e, _⟩ := h4.cells h3 c hc; ⟨o, e⟩)
theorem made_fn {pins : List (Addr × Obj)} {σ : L2.St} {H : Hp} {s : Shared} {f : Addr} {ws : List V} (I : Inv X pins σ H s) (M : Made H f st name qual fr ws) : PySem.W.FnAt f s.heap := by
  obtain ⟨cl, c, h1, _⟩ := M.ex
  exact fnAt_of I h1

/-! ### o.m(e, ..) where the instance's field m holds a made function -/
def tFldMade (K : PySem.W.Frag) (C : Addr) (m : Str) (st : Stmt) (name qual : Str) (fr : List Str) (sp : List (Option V) → Sp) (ta : TE) (t : TA) : TE := fun σ H Q => ta σ H fun x H1 => ∃ a dx fs g f ws, x = .ref a ∧ H1 a = some (.ins C dx fs) ∧ fs.lookup m = some g ∧
  g = .ref f ∧ Made H1 f st name qual fr ws ∧ t σ H1 fun vs H2 => Made H2 f st name qual fr ws ∧ rMade st name qual fr sp g vs H2 Q
variable {C : Addr} {m : Str} {o e : Expr} {es : List Expr} {apos pos : Pos} {ta : TE} {t : TA} {pl : Sem Bool}
theorem getmeth_fld {pins : List (Addr × Obj)} {σ : L2.St} {H : Hp} {s : Shared} {a dx : Addr} {fs : List (Str × V)} {v : V} {Q : Value × List Value → Shared → Prop} (I : Inv X pins σ H s) (ea : H a = some (.ins C dx fs)) (c : Cls X.K C) (n : NoAttr X.K C m)
    (l : fs.lookup m = some v) (h : ∀ u s', Inv X pins σ H s' → RelV v u → Q (u, []) s') : wpAny (model X.prog X.w) X.A (getMethod (.ref a) m pl) Q X.xe s := by
  obtain ⟨mA, O, rr, _, _, _⟩ := ins_get I.hok ea
  obtain ⟨od, J, _⟩ := O.look
  refine PySem.W.method_usual (r := none) I.kIn J (PySem.W.plainGet_of (c.get m)).1 (PySem.W.plainGet_of (c.get m)).2 n rfl ?_
  exact getattr_ok I ea c n l fun u s' I' ru => h u s' I' ru
theorem pe_fldMade (he : PE X o ta) (c : Cls X.K C) (n : NoAttr X.K C m) (Fn : ∀ f cl cc, NOk X.prog X.w X.K X.mg X.base CX0 k f (NF.of st name qual cl cc) ps fr sp) (hr : Room k X.A) (ha : PA X (e :: es) t)
    (hst : starEach (e :: es) X.env = (false, eval e X.env) :: starEach es X.env := by rfl) (hpl : (backTo pos (starEach es X.env)).any (·.1) = false := by rfl)
    (ht : eval (.Call (.Attribute o m apos) (e :: es) [] pos) X.env = (do
      let ov ← eval o X.env
      standAt apos.atName
      let (f, first) ← holding [ov] (getMethod ov m pl)
      callWith pos f first (backTo pos (starEach (e :: es) X.env)) (backToKw pos (keywordEach [] X.env))) := by rfl) :
    PE X (.Call (.Attribute o m apos) (e :: es) [] pos) (tFldMade X.K C m st name qual fr sp ta t) := by
  refine ⟨fun pins s σ H Q I h => ?_⟩
  refine PySem.W.methodCall_KW (pl := pl) (thn (he.run pins s σ H _ I h) fun u s1 ⟨x, H1, I1, rx, a, dx, fs, g, f, ws, ex, ea, l, eg, M, q⟩ => ?_) ht
  subst ex
  obtain rfl : u = Value.ref a := rx
  refine getmeth_fld I1 ea c n l fun u2 s2 I2 ru => ?_
  subst eg
  obtain rfl : u2 = Value.ref f := ru
  refine PySem.W.callWith_F (first := []) (made_fn I2 M) (thn (ha.run pos pins s2 σ H1 _ I2 q) fun us s3 ⟨vs, H2, I3, r, M2, q2⟩ => ⟨made_fn I3 M2, ?_⟩) hst hpl
  show wpAny _ _ (call (.ref f) us) _ _ _
  exact run_rMade Fn hr I3 (show RelV (.ref f) (Value.ref f) from rfl) r q2
/-! ### x(e, ..) where the local x holds a made function -/
def tVarMade (i : Nat) (st : Stmt) (name qual : Str) (fr : List Str) (sp : List (Option V) → Sp) (t : TA) : TE := fun σ H Q => ∃ f ws, σ[i]? = some (some (.ref f)) ∧ Made H f st name qual fr ws ∧ t σ H fun vs H2 => Made H2 f st name qual fr ws ∧ rMade st name qual fr sp (.ref f) vs H2 Q
theorem pe_varMade {i : Nat} {x : Str} {p : Pos} (hN : X.N[i]? = some x) (hv : Vis X.env.scope x) (Fn : ∀ f cl cc, NOk X.prog X.w X.K X.mg X.base CX0 k f (NF.of st name qual cl cc) ps fr sp) (hr : Room k X.A) (ha : PA X (e :: es) t)
    (hdb : (x == ("__debug__" : Str)) = false := by decide) (hcd : (x == ("__classdict__" : Str)) = false := by decide)
    (hst : starEach (e :: es) X.env = (false, eval e X.env) :: starEach es X.env := by rfl) (hpl : (backTo pos (starEach es X.env)).any (·.1) = false := by rfl) :
    PE X (.Call (.Name x p) (e :: es) [] pos) (tVarMade i st name qual fr sp t) := by
  refine ⟨fun pins s σ H Q I h => ?_⟩
  obtain ⟨f, ws, hs, M, q⟩ := h
  refine wpAny_Call_Name_kw (thn ((pe_var (pos := p) hN hv hdb hcd).run pins s σ H (fun v H1 => v = .ref f ∧ H1 = H) I ⟨.ref f, hs, rfl, rfl⟩) fun u s1 ⟨v, H1, I1, r1, q1⟩ => ?_)
  obtain ⟨ev, eH⟩ := q1
  subst ev
  rw [eH] at I1
  obtain rfl : u = Value.ref f := r1
  refine PySem.W.callWith_F (first := []) (made_fn I1 M) (thn (ha.run pos pins s1 σ H _ I1 q) fun us s2 ⟨vs, H2, I2, r, M2, q2⟩ => ⟨made_fn I2 M2, ?_⟩) hst hpl
  show wpAny _ _ (call (.ref f) us) _ _ _
  exact run_rMade Fn hr I2 (show RelV (.ref f) (Value.ref f) from rfl) r q2
end

/-! ### a def that hands out made functions: its cells are known from its return on -/
abbrev TR := (V → L2.St → Hp → Prop) → L2.St → Hp → Prop
def SR (X : Cx) (pins : List (Addr × Obj)) (R : V → L2.St → Hp → Prop) (f : Flow) (s' : Shared) : Prop := match f with
  | .ret u => ∃ v σ' H', Inv X pins σ' H' s' ∧ RelV v u ∧ R v σ' H'
  | _ => False
structure PR (X : Cx) (st : List Stmt) (t : TR) : Prop where
  run : ∀ (pins : List (Addr × Obj)) (s : Shared) (σ : L2.St) (H : Hp) (R : V → L2.St → Hp → Prop), Inv X pins σ H s → t R σ H → wpAny (model X.prog X.w) X.A (execs st X.env) (SR X pins R) X.xe s
section
variable {X : Cx} {st : Stmt} {rest : List Stmt} {t : TS} {u : TR} {te : TE} {e : Expr} {pos : Pos}
theorem pr_cons (h1 : PS X st t) (h2 : PR X rest u) : PR X (st :: rest) (fun R σ H => t { nx := fun σ' H' => u R σ' H', rt := fun _ _ => False } σ H) := by
  refine ⟨fun pins s σ H R I h => ?_⟩
  refine wpAny_execs_cons (thn (h1.run pins s σ H _ I h) fun f s1 q => ?_)
  cases f with
  | next =>
    obtain ⟨σ', H', I', q⟩ := q
    exact h2.run pins s1 σ' H' R I' q
  | ret v =>
    obtain ⟨_, _, _, _, _, z⟩ := q
    exact z.elim
  | brk =>
    obtain ⟨_, _, _, z⟩ := q
    exact z.elim
  | cont =>
    obtain ⟨_, _, _, z⟩ := q
    exact z.elim
theorem pr_ret (he : PE X e te) : PR X [.Return (some e) pos] (fun R σ H => te σ H fun v H1 => R v σ H1) := by
  refine ⟨fun pins s σ H R I h => ?_⟩
  exact wpAny_execs_cons (wpAny_Return_some (thn (he.run pins s σ H _ I h) fun v s1 ⟨x, H1, I1, r1, q1⟩ => ⟨x, σ, H1, I1, r1, q1⟩))
end
/-- H' is H with the frame's cells known -/
structure Trk (cells : List (Str × Addr)) (N : List Str) (σ : L2.St) (H H' : Hp) : Prop where
  out : ∀ b, ¬ b ∈ cellsOf cells → H' b = H b
  none : ∀ b, b ∈ cellsOf cells → H b = none
  all : ∀ y c, cells.lookup y = some c → ∃ o : Obj, H' c = some (.frz o (.own c)) ∧ ∃ v, o.data = .cell v
  val : ∀ (i : Nat) (y : Str) (c : Addr) (v : V), cells.lookup y = some c → N[i]? = some y → σ[i]? = some (some v) → CellIs H' c v
theorem Trk.ext {cells : List (Str × Addr)} {N : List Str} {σ : L2.St} {H H' : Hp} (t : Trk cells N σ H H') : ∀ b o, H b = some o → H' b = some o := fun b o e => by
  rw [t.out b fun z => ?_]
  · exact e
  · rw [t.none b z] at e
    cases e
theorem cells_kind {x : Str} : ∀ {l : List (Str × NameKind)} {n : Nat} {acc : List (Str × Addr)} {c : Addr}, (x, c) ∈ PySem.cellsFrom n l acc → (x, c) ∈ acc ∨ (x, NameKind.cell) ∈ l
  | [], _, _, _, h => .inl h
  | (y, k) :: r, n, acc, c, h => by
    unfold PySem.cellsFrom at h
    split at h
    · rename_i hk
      have hk : k = .cell := by
        cases k <;> first | rfl | cases hk
      rcases cells_kind h with z | z
      · rcases List.mem_cons.mp z with e | z
        · cases e
          exact .inr (by rw [hk]; exact List.mem_cons_self)
        · exact .inl z
      · exact .inr (List.mem_cons_of_mem _ z)
    · rcases cells_kind h with z | z
      · exact .inl z
      · exact .inr (List.mem_cons_of_mem _ z)
section
variable {P : Program} {w : World} {K : PySem.W.Frag} {mg : Str → Option Value} {base : Heap}
theorem okR {x qual : Str} {st : Stmt} {f : Addr} {fd : FuncData} {N ps : List Str} {k : Nat} {sp : Sp} (F : Fun K x qual st f fd) (S : FnScope N ps (defScope st)) (hn : ∀ n, Keyed (PySem.cellsFrom n (defScope st).names []))
    (hcell : ∀ y, (y, NameKind.cell) ∈ (defScope st).names → (defScope st).names.lookup y = some .cell) (len : ∀ vs H Q E, sp vs H Q E → vs.length = ps.length)
    (hbody : ∀ (cdv : Value), fd.code = cdv → ∀ (A : Around) (outer : List Env) (s : Shared) (H : Hp) (vs : List V) (Q : VK) (E : XK), Room k (A.deeper (envOfC qual (defScope st) s.heap.objs.size f cdv)) → sp vs H Q E →
      ∃ t, PR (cxOf CX0 P w K mg base N qual (defScope st) f cdv A outer s H E).nox (defBody st) t ∧
        t (fun v σ H' => ∀ H'', Trk (PySem.cellsFrom (s.heap.objs.size + 1) (defScope st).names []) N σ H' H'' → Q v H'') (start N vs) H) : FnOk P w K mg base CX0 (k + 1) f fd ps sp := by
  obtain ⟨oc, od, kV, doc, pm, an, cdv, ct, osl, rfl, lk, hcd⟩ := F.ex
  refine ⟨len, fun A outer s H args us vs Q E hr e0 hb r hsp => ?_⟩
  have hl := len _ _ _ _ hsp
  have KX : K.In s.heap := e0.mod.kin.keeps fun b o e => (e0.bs b o e).1
  have lim : s.heap.NoLimit := e0.mod.nolimit.keeps fun b o e => (e0.bs b o e).1
  have hkind : ∀ y ∈ ps.zip us, (defScope st).names.lookup y.1 = some .local ∨ ((defScope st).names.lookup y.1 = some .cell ∧ ((PySem.cellsFrom (s.heap.objs.size + 1) (defScope st).names []).lookup y.1).isSome = true) := fun ⟨n, v⟩ hy => by
    rcases S.par n (List.of_mem_zip hy).1 with q | q
    · exact .inl q
    · exact .inr ⟨q, PySem.W.cellsFrom_some _ _ _ (.inl q)⟩
  refine codeAny_call_function hr.depth (KX _ _ lk) rfl S.co S.gen rfl (PySem.W.codeRec_of KX hcd) (hb _ _ _ _ ?_)
  refine wpAny_newFunctionEnv_cells S.kind hkind fun env he s1 x => ?_
  subst he
  refine ⟨lim.keeps x.toInCall.keep, codeAny_func ?_⟩
  obtain ⟨t, ht, hq⟩ := hbody cdv rfl A outer s H vs Q E (hr.deeper _) hsp
  have I : Inv (cxOf CX0 P w K mg base N qual (defScope st) f cdv A outer s H E) [] (start N vs) H s1 := inv_start S hr.hd e0 hl r x
  refine wpAny_mono (ht.run [] s1 (start N vs) H _ (I.wish _) hq) (fun fl s' hs => ?_) fun e s' hs => hs.elim
  cases fl with
  | next => exact hs.elim
  | brk => exact hs.elim
  | cont => exact hs.elim
  | ret u =>
    obtain ⟨v, σ', H', J, rv, q⟩ := hs
    have cellAt : ∀ b, b ∈ cellsOf (PySem.cellsFrom (s.heap.objs.size + 1) (defScope st).names []) → ∃ y, (PySem.cellsFrom (s.heap.objs.size + 1) (defScope st).names []).lookup y = some b := fun b hb => by
      obtain ⟨⟨y, c⟩, hm, e⟩ := List.mem_map.mp hb
      have e : c = b := e
      subst e
      exact ⟨y, hn _ y c hm⟩
    have cellO : ∀ y c, (PySem.cellsFrom (s.heap.objs.size + 1) (defScope st).names []).lookup y = some c → ∃ o : Obj, s'.heap.get? c = some o ∧ (∃ v, o.data = .cell v) ∧ H' c = none := fun y c hc => by
      obtain ⟨v, o, h1, h2⟩ := J.cell y c hc
      exact ⟨o, h1, ⟨v, h2⟩, J.freeC y c hc⟩
    let H'' : Hp := fun b => if b ∈ cellsOf (PySem.cellsFrom (s.heap.objs.size + 1) (defScope st).names []) then (match s'.heap.get? b with
      | some o => some (.frz o (.own b))
      | none => none) else H' b
    have hin : ∀ y c, (PySem.cellsFrom (s.heap.objs.size + 1) (defScope st).names []).lookup y = some c → ∀ o, s'.heap.get? c = some o → H'' c = some (.frz o (.own c)) := fun y c hc o ho => by
      show (if c ∈ _ then (match s'.heap.get? c with
        | some o => some (HO.frz o (.own c))
        | none => none) else H' c) = _
      rw [if_pos (mem_cells hc), ho]
    have hout : ∀ b, ¬ b ∈ cellsOf (PySem.cellsFrom (s.heap.objs.size + 1) (defScope st).names []) → H'' b = H' b := fun b hb => if_neg hb
    have T : Trk (PySem.cellsFrom (s.heap.objs.size + 1) (defScope st).names []) N σ' H' H'' := by
      refine ⟨hout, fun b hb => ?_, fun y c hc => ?_, fun i y c z hc hN hz => ?_⟩
      · obtain ⟨y, hy⟩ := cellAt b hb
        exact J.freeC y b hy
      · obtain ⟨o, ho, hd, _⟩ := cellO y c hc
        exact ⟨o, hin y c hc o ho, hd⟩
      · obtain ⟨m, hns, hl⟩ := J.loc
        have hk : (defScope st).names.lookup y = some .cell := by
          have z1 := cells_kind (PySem.mem_of_lookup hc)
          rcases z1 with z1 | z1
          · exact absurd z1 (by simp)
          · exact hcell y z1
        obtain ⟨u', ru, lk'⟩ := hl i y z hN hz (.inr (.inl hk))
        rcases lk' with ⟨k1, _⟩ | ⟨_, c2, h2, hcell2⟩
        · have k1 : (defScope st).names.lookup y = some .local := k1
          rw [hk] at k1
          cases k1
        · have h2 : (PySem.cellsFrom (s.heap.objs.size + 1) (defScope st).names []).lookup y = some c2 := h2
          rw [hc] at h2
          cases h2
          obtain ⟨o, ho, hd⟩ := hcell2
          exact ⟨o, u', hin y c hc o ho, hd, ru⟩
    have hsup : ∀ b o, H' b = some o → H'' b = some o := T.ext
    have ok2 : HOk P w H'' s'.heap := fun a o e => by
      by_cases z : a ∈ cellsOf (PySem.cellsFrom (s.heap.objs.size + 1) (defScope st).names [])
      · obtain ⟨y, hy⟩ := cellAt a z
        obtain ⟨ob, ho, _⟩ := cellO y a hy
        rw [hin y a hy ob ho] at e
        cases e
        exact ⟨ho, ob, ho⟩
      · rw [hout a z] at e
        exact (J.hok a o e).stay (fun b u _ q => q) (fun b q => hsup b _ q) fun b xs q => hsup b _ q
    have un2 : Un (frs outer) [] H H'' s.heap s'.heap := by
      have un := J.base
      refine ⟨un.keep, un.slot, fun b o e n hx => ?_, un.there, fun b xs e => hsup b _ (un.tups b xs e), fun b ob u e => hsup b _ (un.frzs b ob u e), fun b ps e => ?_⟩
      · have nb : ¬ b ∈ cellsOf (PySem.cellsFrom (s.heap.objs.size + 1) (defScope st).names []) := fun z => by
          obtain ⟨y, hy⟩ := cellAt b z
          have h1 := x.above y b (PySem.mem_of_lookup hy)
          exact absurd (Heap.lt_size e) (Nat.not_lt.mpr (Nat.le_of_lt h1))
        rw [hout b nb]
        exact un.free b o e n hx
      · obtain ⟨more, z⟩ := un.tbls b ps e
        exact ⟨more, hsup b _ z⟩
    exact ⟨v, H'', J.os, J.bare, un2, ok2, rv, q H'' T⟩
end
end CwR

/-! Built-ins that the hand layer has only for some sizes or kinds. -/
namespace CwR
open PySem PySem.Spec PyProof.Rows L2
section
variable {X : Cx}
/-! ### xs.count(y) of flat items -/
def rCntF (K : PySem.W.Frag) : V → List V → Hp → VK → Prop := fun x xs H Q => ∃ (p : Addr) (ys : List V) (y : V), x = .ref p ∧ xs = [y] ∧ SqL K H p ys ∧ flatV y = true ∧ ys.all flatV = true ∧ Q (.int (ys.countP fun z => eqV z y : Nat)) H
theorem countP_eqU {x : V} : ∀ {xs : List V} {us : List Value}, Vals xs us → xs.all flatV = true → us.countP (eqU x) = xs.countP fun y => eqV y x
  | _, _, .nil, _ => rfl
  | a :: as, b :: bs, .cons r t, f => by
    obtain ⟨f1, f2⟩ := Bool.and_eq_true_iff.mp (show (flatV a && as.all flatV) = true from f)
    have ih := countP_eqU (x := x) t f2
    rw [List.countP_cons, List.countP_cons, eqU_of r f1, ih]
theorem mt_countF : MtR X "list.count" (rCntF X.K) := by
  intro pins s σ H x xs v us Q I rx rxs ⟨p, ys, y, e1, e2, hs, fy, fys, q⟩
  subst e1 e2
  obtain rfl : v = Value.ref p := rx
  obtain ⟨u, eu, ru⟩ := rxs.one
  subst eu
  obtain ⟨its, rv, ⟨⟨oc, dd, dt, sl⟩, n, ho, hcl, hdi, hda⟩, hz⟩ := I.list hs
  obtain rfl : oc = .type "list" := hcl
  obtain rfl : dt = .seq its.toArray n := hda
  refine call_meets PySem.F.slot_list_count ⟨_, ho, rfl⟩ PySem.F.entry_list_count (PySem.F.args_list_count_2 _ _)
    (SeqAt.list_countAt p its.toArray n dd sl u (eqU y)) ⟨ho, fun z hz => mem_eqAt ru fy rv fys z (by simpa using hz), ?_⟩
  have ec : its.toArray.toList.countP (eqU y) = ys.countP fun z => eqV z y := countP_eqU rv fys
  refine ⟨.int (ys.countP fun z => eqV z y : Nat), H, I.tok _, ⟨s.toks, ?_⟩, q⟩
  rw [← ec]
theorem countP_ints (k : Int) : ∀ ns : List Int, (ns.map V.int).countP (fun z => eqV z (.int k)) = ns.count k
  | [] => rfl
  | n :: ns => by
    have ih := countP_ints k ns
    rw [List.map_cons, List.countP_cons, List.count_cons, ih]
    rfl

/-! ### sorted(d), int keys, any number of them -/
def rSortedD : List V → Hp → VK → Prop := fun vs H Q => ∃ (a : Addr) (kvs : List (Key × V)) (ks : List Int), vs = [.ref a] ∧ Rd H a (.dK kvs) ∧ kvs.map (·.1) = ks.map Sum.inl ∧
  ∀ (ys : List Int) (p : Addr), ys.Perm ks → ys.Pairwise (· ≤ ·) → H p = none → Q (.ref p) (upd H p (.lst (ys.map V.int)))
theorem call_sortedD0 (calm : X.calm = true) : CallR X (.builtin "sorted") rSortedD := by
  intro pins s σ H vs us Q I r ⟨a, kvs, ks, ev, hd, hk, q⟩
  subst ev
  obtain ⟨u, eu, ru⟩ := vals1 r
  subst eu
  obtain rfl : u = Value.ref a := ru
  obtain ⟨hz, lo, ws, rel, dd⟩ := dk_rd I.hok hd
  obtain ⟨ep, hat⟩ := dd.dictAt
  have kk : ws.map (·.1) = ks.map Sum.inl := (rel.keys.symm).trans hk
  have len : ws.length = ks.length := by simpa using congrArg List.length kk
  have lenk : ks.length ≤ sizeLine := by
    have e := congrArg List.length hk
    rw [List.length_map, List.length_map] at e
    rw [← e]
    exact hz
  refine Calls.call_function_entry kind_sorted plain_sorted entry_sorted (args_sorted1 _) ?_
  unfold Builtin.«sorted»
  refine wpAny_bind (m := checkCount "sorted" 1 1 _) (wpAny_pure (wpAny_bind ?_))
  refine PySem.W.kdu_collect (A := X.A.in1) (PySem.W.kdl_dict (knd := mixKind X.prog X.w) (kvs := ws) (ep := ep) lo) (I.ok.hd calm) hat (by rw [len]; exact lenk) fun h1 tk acc keep ⟨sz, each⟩ => ?_
  have al : acc.toList.length = ks.length := by
    rw [Array.length_toList, sz]
    exact len
  have hin : IntsAre acc.toList ks := ints_each al fun j v e => by
    obtain ⟨k, z, ez, ek⟩ := each j v ((Array.getElem?_toList).symm.trans e)
    have at_ : (ks.map (Sum.inl : Int → Key))[j]? = some k := by
      rw [← kk, List.getElem?_map, ez]
      rfl
    rw [List.getElem?_map] at at_
    obtain ⟨y, ey, rfl⟩ := Option.map_eq_some_iff.mp at_
    refine ⟨y, ?_⟩
    rcases keyIs_shape (show keyIs (Sum.inl y) v = true from ek) with ⟨i, t, e1, e2⟩ | ⟨i, t, e1, e2⟩
    · cases e1
      exact ⟨t, ey, e2⟩
    · cases e1
  have J : Inv X pins σ H { s with heap := h1, toks := tk } := I.kept keep
  have alz : acc.toList.length ≤ sizeLine := by
    rw [al]
    exact lenk
  refine wpAny_bind (wpAny_newList ?_ alz)
  have hob : (h1.push (seqObj "list" acc.toList.toArray 0)).get? h1.objs.size = some (seqObj "list" acc.toList.toArray 0) := Heap.get?_push_size _ rfl
  refine wpAny_bind (wpAny_holding (wpAny_call_entry slot_list_sort ⟨_, hob, rfl⟩ entry_list_sort
    (SrtO.list_sort_ord (s := { s with heap := h1.push (seqObj "list" acc.toList.toArray 0), toks := tk }) SrtO.swo_int hob alz (fun two => SrtO.ints_sortable hin two) fun out o1 o2 => ⟨_, rfl, ?_⟩) (args_list_sort _)))
  obtain ⟨b1, b2, b3⟩ := SrtO.ints_out hin o1 o2
  obtain ⟨ep2, he2⟩ := sortedHeap_at (vs := acc.toList) (out := out.toArray) hob
  refine wpAny_pure ⟨_, rfl, .ref h1.objs.size, _, J.laid (o := .lst ((out.map SrtO.iv).map V.int)) (t' := tk) (fun b o e => ?_) (Nat.le_refl _) ?_, rfl, q _ _ b2 b3 (J.hok.fresh (Nat.le_refl _))⟩
  · have lt : b < h1.objs.size := Heap.lt_size e
    rw [sortedHeap_old (Nat.ne_of_lt lt) (by rw [Heap.size_push]; exact Nat.lt_succ_of_lt lt)]
    exact Heap.get?_push_of_some _ e
  · refine ⟨?_, out, ep2, vals_of_ints b1, he2⟩
    rw [List.length_map, b2.length_eq]
    exact lenk
end
end CwR

/-! Small steps of readings: what is kept, lists of ints compared, places of lists. -/
namespace CwR
open PySem PySem.Spec PyProof.Rows L2 NdefX LamX
/-! ### what is kept: all but the addresses of S -/
def Kp (S : List Addr) (H H' : Hp) : Prop := ∀ b o, H b = some o → ¬ b ∈ S → H' b = some o
section
variable {S S' : List Addr} {H H1 H2 : Hp} {a b c p : Addr} {o : HO}
theorem Kp.refl (S : List Addr) (H : Hp) : Kp S H H := fun _ _ h _ => h
theorem Kp.get (k : Kp S H H1) (h : H b = some o) (n : ¬ b ∈ S) : H1 b = some o := k b o h n
theorem Kp.put (k : Kp S H H1) (hc : c ∈ S ∨ H c = none) : Kp S H (upd H1 c o) := fun b u h n => by
  rw [upd_ne fun e => ?_]
  · exact k b u h n
  · subst e
    rcases hc with z | z
    · exact n z
    · rw [z] at h
      cases h
theorem Kp.new (k : Kp S H H1) (hp : H1 p = none) : Kp S H (upd H1 p o) := fun b u h n => by
  have h1 := k b u h n
  rw [upd_ne (ne_of_none h1 hp)]
  exact h1
theorem Kp.same (k : Kp S H H1) (s : Same H1 H2) : Kp S H H2 := fun b u h n => s b u (k b u h n)
theorem Kp.of_same (s : Same H H1) : Kp S H H1 := fun b u h _ => s b u h
theorem Kp.trans (k : Kp S H H1) (k' : Kp S' H1 H2) (h : ∀ c ∈ S', c ∈ S ∨ H c = none) : Kp S H H2 := fun b u e n => k' b u (k b u e n) fun z => by
  rcases h b z with q | q
  · exact n q
  · rw [q] at e
    cases e
theorem Kp.wide (k : Kp S H H1) (h : ∀ c ∈ S, c ∈ S') : Kp S' H H1 := fun b u e n => k b u e fun z => n (h b z)
theorem Kp.same0 (k : Kp [] H H1) : Same H H1 := fun b u e => k b u e (by simp)
/-- the kinds that are written -/
def MutK : HO → Prop
  | .lst _ => True
  | .dK _ => True
  | .ins _ _ _ => True
  | _ => False
theorem Kp.still (k : Kp S H H1) (hs : ∀ c ∈ S, ∀ u, H c = some u → MutK u) (h : H b = some o) (n : ¬ MutK o) : H1 b = some o := k b o h fun z => n (hs b z o h)
theorem Made.kp {f : Addr} {st : Stmt} {name qual : Str} {fr : List Str} {ws : List V} (m : Made H f st name qual fr ws) (k : Kp S H H1) (hs : ∀ c ∈ S, ∀ u, H c = some u → MutK u) : Made H1 f st name qual fr ws := by
  obtain ⟨cl, c, h1, h2, h3, h4⟩ := m.ex
  refine ⟨cl, c, k.still hs h1 (fun z => z), k.still hs h2 (fun z => z), h3, ⟨h4.len, h4.inj, fun y c hc => ?_, fun i y v e1 e2 => ?_⟩⟩
  · obtain ⟨ob, e, d⟩ := h4.all y c hc
    exact ⟨ob, k.still hs e (fun z => z), d⟩
  · obtain ⟨c, hc, ob, u, e, d, r⟩ := h4.has i y v e1 e2
    exact ⟨c, hc, ob, u, k.still hs e (fun z => z), d, r⟩
theorem Made.same {f : Addr} {st : Stmt} {name qual : Str} {fr : List Str} {ws : List V} (m : Made H f st name qual fr ws) (s : Same H H1) : Made H1 f st name qual fr ws := m.kp (S := []) (fun b u e _ => s b u e) (fun c z => nomatch z)
theorem same_new (h : H p = none) : Same H (upd H p o) := fun b u e => by
  rw [upd_ne (ne_of_none e h)]
  exact e
end
theorem upd_comm {H : Hp} {a b : Addr} {o u : HO} (h : a ≠ b) : upd (upd H a o) b u = upd (upd H b u) a o := by
  funext c
  unfold upd
  by_cases e1 : c = b
  · subst e1
    rw [if_pos rfl, if_neg fun e => h e.symm, if_pos rfl]
  · rw [if_neg e1]
    by_cases e2 : c = a
    · rw [if_pos e2, if_pos e2]
    · rw [if_neg e2, if_neg e2, if_neg e1]

/-! ### lists of ints compared -/
section
variable {K : PySem.W.Frag} {H : Hp} {Q : VK} {σ : L2.St}
theorem dp_ints (K : PySem.W.Frag) (H : Hp) : ∀ ns : List Int, DpAll K H (ns.map V.int) (ns.map PyData.int)
  | [] => .nil
  | n :: ns => .cons (.int n) (dp_ints K H ns)
theorem can_ints : ∀ ns : List Int, PyData.canLayAll0 (ns.map PyData.int) = true
  | [] => rfl
  | n :: ns => by
    show (PyData.canLay0 (.int n) && PyData.canLayAll0 (ns.map PyData.int)) = true
    rw [can_ints ns]
    rfl
theorem depth_ints : ∀ ns : List Int, PyData.depthAll (ns.map PyData.int) ≤ 1
  | [] => Nat.zero_le _
  | n :: ns => by
    have h := depth_ints ns
    show max (PyData.depth (.int n)) (PyData.depthAll (ns.map PyData.int)) ≤ 1
    have h0 : PyData.depth (.int n) ≤ 1 := by first | exact Nat.zero_le _ | exact Nat.le_refl _
    omega
theorem shaped_ints (ns : List Int) : SeqAt.shaped (.list (ns.map PyData.int)) = true := by
  have h := depth_ints ns
  have hd : PyData.depth (.list (ns.map PyData.int)) ≤ 64 := by
    show PyData.depthAll (ns.map PyData.int) + 1 ≤ 64
    omega
  unfold SeqAt.shaped
  rw [show PyData.canLay0 (.list (ns.map PyData.int)) = true from can_ints ns, decide_eq_true hd]
  rfl
theorem eqv_ints : ∀ a b : List Int, PyData.eqvAll (a.map PyData.int) (b.map PyData.int) = decide (a = b)
  | [], [] => rfl
  | [], _ :: _ => rfl
  | _ :: _, [] => rfl
  | x :: xs, y :: ys => by
    show (PyData.eqv (.int x) (.int y) && PyData.eqvAll (xs.map PyData.int) (ys.map PyData.int)) = _
    rw [eqv_ints xs ys]
    show ((x == y) && decide (xs = ys)) = _
    by_cases h : x = y
    · subst h
      simp
    · simp [h]
theorem r_neI {a b : Addr} {xs ys : List Int} (hx : SqL K H a (xs.map V.int)) (hy : SqL K H b (ys.map V.int)) (q : Q (.bl (!decide (xs = ys))) H) : rNeD K (.ref a) (.ref b) H Q :=
  ⟨_, _, .lst hx (dp_ints K H xs), .lst hy (dp_ints K H ys), shaped_ints xs, shaped_ints ys, by
    rw [show PyData.eqv (.list (xs.map PyData.int)) (.list (ys.map PyData.int)) = decide (xs = ys) from eqv_ints xs ys]
    exact q⟩
theorem r_eqI {a b : Addr} {xs ys : List Int} (hx : SqL K H a (xs.map V.int)) (hy : SqL K H b (ys.map V.int)) (q : Q (.bl (decide (xs = ys))) H) : rEqD K (.ref a) (.ref b) H Q :=
  ⟨_, _, .lst hx (dp_ints K H xs), .lst hy (dp_ints K H ys), shaped_ints xs, shaped_ints ys, by
    rw [show PyData.eqv (.list (xs.map PyData.int)) (.list (ys.map PyData.int)) = decide (xs = ys) from eqv_ints xs ys]
    exact q⟩
/-- xs != [] of a name that holds a list of ints -/
theorem t_neNil {i : Nat} {a : Addr} {xs : List Int} {Q : Bool → Hp → Prop} (hs : σ[i]? = some (some (.ref a))) (hx : H a = some (.lst (xs.map V.int))) (q : ∀ p, H p = none → Q (!decide (xs = [])) (upd H p (.lst []))) :
    tTest (tOp (rNeD K) (tVar i) (tLst tNil)) σ H Q := by
  refine ⟨.ref a, hs, Nat.zero_le _, fun p hp => ?_⟩
  refine r_neI (xs := xs) (ys := []) (SqL.of (same_new hp _ _ hx)) (SqL.of upd_same) ?_
  exact ⟨_, rfl, q p hp⟩
end
/-! ### the last item -/
theorem snoc_cases {α : Type} (l : List α) : l = [] ∨ ∃ l' q, l = l' ++ [q] := by
  rcases List.eq_nil_or_concat l with h | ⟨a, b, h⟩
  · exact .inl h
  · exact .inr ⟨a, b, by rw [h, List.concat_eq_append]⟩
theorem last_map (l : List Int) (q : Int) : ((l ++ [q]).map V.int)[((l ++ [q]).map V.int).length - 1]? = some (.int q) := by
  rw [List.map_append, List.length_append]
  simp
theorem drop_map (l : List Int) (q : Int) : ((l ++ [q]).map V.int).dropLast = l.map V.int := by
  rw [List.map_append]
  simp
end CwR

/-! Dicts with int keys: their keys in order, what they hold. -/
namespace CwR
open PySem L2
theorem small1000' {n : Nat} (h : n ≤ 100000) : n < sizeLine := Nat.lt_of_le_of_lt h (by decide)
theorem small1000'' {n : Nat} (h : n ≤ 100000) : n ≤ sizeLine := Nat.le_of_lt (small1000' h)
abbrev DK := List (Key × V)
/-- the keys, in order -/
def Keys (kvs : DK) (ks : List Int) : Prop := kvs.map (·.1) = ks.map Sum.inl
theorem keys_nil : Keys [] [] := rfl
theorem Keys.len {kvs : DK} {ks : List Int} (h : Keys kvs ks) : kvs.length = ks.length := by simpa using congrArg List.length h
theorem Keys.mem {kvs : DK} {ks : List Int} (h : Keys kvs ks) (q : Int) : (Sum.inl q : Key) ∈ kvs.map (·.1) ↔ q ∈ ks := by
  rw [show kvs.map (·.1) = ks.map Sum.inl from h]
  constructor
  · intro m
    obtain ⟨p, hp, e⟩ := List.mem_map.mp m
    cases e
    exact hp
  · exact fun m => List.mem_map.mpr ⟨q, m, rfl⟩
theorem Keys.none_of {kvs : DK} {ks : List Int} (h : Keys kvs ks) {q : Int} (n : ¬ q ∈ ks) : valV kvs (.inl q) = none := by
  cases e : valV kvs (Sum.inl q : Key) with
  | none => rfl
  | some v => exact absurd ((h.mem q).mp (valV_in e)) n
theorem Keys.some_of {kvs : DK} {ks : List Int} (h : Keys kvs ks) {q : Int} (m : q ∈ ks) : ∃ v, valV kvs (.inl q) = some v := by
  cases e : valV kvs (Sum.inl q : Key) with
  | none => exact absurd ((h.mem q).mpr m) (valV_not e)
  | some v => exact ⟨v, rfl⟩
theorem Keys.isSome {kvs : DK} {ks : List Int} (h : Keys kvs ks) (q : Int) : (valV kvs (.inl q)).isSome = decide (q ∈ ks) := by
  by_cases m : q ∈ ks
  · obtain ⟨v, e⟩ := h.some_of m
    rw [e, decide_eq_true m]
    rfl
  · rw [h.none_of m, decide_eq_false m]
    rfl
theorem keys_putMap (k : Key) (v : V) : ∀ kvs : DK, (kvs.map fun kv => if kv.1 = k then (kv.1, v) else kv).map (·.1) = kvs.map (·.1)
  | [] => rfl
  | p :: r => by
    rw [List.map_cons, List.map_cons, List.map_cons, keys_putMap k v r]
    congr 1
    split <;> rfl
theorem Keys.put_old {kvs : DK} {ks : List Int} (h : Keys kvs ks) {q : Int} (m : q ∈ ks) (v : V) : Keys (putK kvs (.inl q) v) ks := by
  obtain ⟨u, e⟩ := h.some_of m
  unfold Keys putK
  rw [valV_any, e, if_pos (show (some u).isSome = true from rfl), keys_putMap]
  exact h
theorem Keys.put_new {kvs : DK} {ks : List Int} (h : Keys kvs ks) {q : Int} (m : ¬ q ∈ ks) (v : V) : Keys (putK kvs (.inl q) v) (ks ++ [q]) := by
  unfold Keys
  rw [putK_new v (h.none_of m), List.map_append, List.map_append, show kvs.map (·.1) = ks.map Sum.inl from h]
  rfl
/-- a key put, there or not -/
theorem Keys.put {kvs : DK} {ks : List Int} (h : Keys kvs ks) (q : Int) (v : V) : Keys (putK kvs (.inl q) v) (if q ∈ ks then ks else ks ++ [q]) := by
  split
  · rename_i m
    exact h.put_old m v
  · rename_i m
    exact h.put_new m v
theorem Keys.drop {kvs : DK} {ks : List Int} (h : Keys kvs ks) (nd : ks.Nodup) (q : Int) : Keys (dropK kvs (.inl q)) (ks.erase q) := by
  induction kvs generalizing ks with
  | nil =>
    cases ks with
    | nil => rfl
    | cons a r => cases h
  | cons p r ih =>
    cases ks with
    | nil => cases h
    | cons a s =>
      have h0 : p.1 :: r.map (·.1) = Sum.inl a :: s.map Sum.inl := h
      injection h0 with h1 h2
      obtain ⟨n1, n2⟩ := List.nodup_cons.mp nd
      by_cases e : a = q
      · subst e
        rw [dropK_pos h1, List.erase_cons_head]
        unfold Keys
        rw [dropK_no fun m => ?_]
        · exact h2
        · rw [h2] at m
          obtain ⟨b, hb, eb⟩ := List.mem_map.mp m
          cases eb
          exact n1 hb
      · rw [dropK_neg (fun z => e (by rw [h1] at z; cases z; rfl)), List.erase_cons_tail (by simpa using e)]
        unfold Keys
        rw [List.map_cons, List.map_cons, h1, show (dropK r (Sum.inl q)).map (·.1) = (s.erase q).map Sum.inl from ih h2 n2]
theorem valV_drop {kvs : DK} {k j : Key} (h : j ≠ k) : valV (dropK kvs k) j = valV kvs j := by
  induction kvs with
  | nil => rfl
  | cons p r ih =>
    by_cases e : p.1 = k
    · rw [dropK_pos e, ih, valV_neg (fun z => h (by rw [← z, e]))]
    · rw [dropK_neg e]
      by_cases e2 : p.1 = j
      · rw [valV_pos e2, valV_pos e2]
      · rw [valV_neg e2, valV_neg e2, ih]
theorem valV_putN (kvs : DK) (q p : Int) (v : V) : valV (putK kvs (.inl q) v) (.inl p) = if p = q then some v else valV kvs (.inl p) := by
  rw [valV_put]
  by_cases e : p = q
  · subst e
    rw [if_pos rfl, if_pos rfl]
  · rw [if_neg e, if_neg fun z => e (Sum.inl.inj z)]
theorem len_putK (kvs : DK) (k : Key) (v : V) : (putK kvs k v).length ≤ kvs.length + 1 := by
  unfold putK
  split
  · rw [List.length_map]
    omega
  · rw [List.length_append]
    exact Nat.le_refl _
/-- a dict of counts -/
structure Cnt (kvs : DK) (dom : List Int) (c : Int → Nat) : Prop where
  keys : Keys kvs dom
  val : ∀ q ∈ dom, valV kvs (.inl q) = some (.int (c q))
theorem Cnt.nil (c : Int → Nat) : Cnt [] [] c := ⟨rfl, fun _ h => nomatch h⟩
theorem Cnt.set {kvs : DK} {dom : List Int} {c c' : Int → Nat} {q : Int} {n : Int} (h : Cnt kvs dom c) (m : q ∈ dom) (hn : n = (c' q : Int)) (ho : ∀ p, p ≠ q → c' p = c p) : Cnt (putK kvs (.inl q) (.int n)) dom c' := by
  refine ⟨h.keys.put_old m _, fun p hp => ?_⟩
  rw [valV_putN]
  by_cases e : p = q
  · subst e
    rw [if_pos rfl, hn]
  · rw [if_neg e, h.val p hp, ho p e]
theorem Cnt.add {kvs : DK} {dom : List Int} {c c' : Int → Nat} {q : Int} {n : Int} (h : Cnt kvs dom c) (m : ¬ q ∈ dom) (hn : n = (c' q : Int)) (ho : ∀ p, p ≠ q → c' p = c p) : Cnt (putK kvs (.inl q) (.int n)) (dom ++ [q]) c' := by
  refine ⟨h.keys.put_new m _, fun p hp => ?_⟩
  rw [valV_putN]
  by_cases e : p = q
  · subst e
    rw [if_pos rfl, hn]
  · have hp : p ∈ dom := by
      rcases List.mem_append.mp hp with z | z
      · exact z
      · exact absurd (List.mem_singleton.mp z) e
    rw [if_neg e, h.val p hp, ho p e]
theorem Cnt.drop {kvs : DK} {dom : List Int} {c : Int → Nat} {q : Int} (h : Cnt kvs dom c) (nd : dom.Nodup) : Cnt (dropK kvs (.inl q)) (dom.erase q) c := by
  refine ⟨h.keys.drop nd q, fun p hp => ?_⟩
  have z := (nd.mem_erase_iff).mp hp
  rw [valV_drop fun e => z.1 (Sum.inl.inj e)]
  exact h.val p z.2
end CwR

/-! Loops over dicts that stand locked. -/
namespace CwR
open PySem PySem.Spec PyProof.Rows L2 NdefX LamX
section
variable {d : Addr} {o : Obj} {kvs : DK} {g : TG} {tb : TS} {D : Ends} {σ : L2.St} {H : Hp}
/-- over a dict's values -/
theorem for_vals (Pv : Nat → L2.St → Hp → Prop) (h0 : Pv 0 σ H) (hl : ∀ i σ H, i ≤ kvs.length → Pv i σ H → H d = some (.frz o (.dK kvs)))
    (hs : ∀ i k x σ H, kvs[i]? = some (k, x) → Pv i σ H → g x σ H fun σ2 H2 => tb { D with nx := Pv (i + 1), ct := Pv (i + 1), bk := D.nx } σ2 H2) (hd : ∀ σ H, Pv kvs.length σ H → D.nx σ H) :
    ∃ W : Nat → Nat → L2.St → Hp → Prop, (∃ m, W 0 m σ H) ∧ ∀ i m σ H, W i m σ H →
      ((Itd d o kvs).stop i H ∧ D.nx σ H) ∨ ((Itd d o kvs).go i H ∧ ∃ N : L2.St → Hp → Prop, (∀ σ' H', N σ' H' → ∃ m', m' < m ∧ W (i + 1) m' σ' H') ∧ ∀ x H', (Itd d o kvs).yld i H x H' → g x σ H' fun σ2 H2 => tb { D with nx := N, ct := N, bk := D.nx } σ2 H2) := by
  refine ⟨fun i m σ H => m = kvs.length - i ∧ i ≤ kvs.length ∧ Pv i σ H, ⟨kvs.length, by simp, Nat.zero_le _, h0⟩, ?_⟩
  rintro i m σ H ⟨rfl, hi, p⟩
  have q := hl i σ H hi p
  by_cases hlt : i < kvs.length
  · refine .inr ⟨⟨q, hlt⟩, Pv (i + 1), fun σ' H' p' => ⟨kvs.length - (i + 1), by omega, rfl, hlt, p'⟩, fun x H' y => ?_⟩
    obtain ⟨e, k, y⟩ := y
    subst e
    exact hs i k x σ _ y p
  · have e : i = kvs.length := by omega
    subst e
    exact .inl ⟨⟨q, Nat.le_refl _⟩, hd σ H p⟩
/-- over a dict's keys, ints -/
theorem for_keys {ks : List Int} (hk : Keys kvs ks) (Pv : Nat → L2.St → Hp → Prop) (h0 : Pv 0 σ H) (hl : ∀ i σ H, i ≤ ks.length → Pv i σ H → H d = some (.frz o (.dK kvs)))
    (hs : ∀ i x σ H, ks[i]? = some x → Pv i σ H → g (.int x) σ H fun σ2 H2 => tb { D with nx := Pv (i + 1), ct := Pv (i + 1), bk := D.nx } σ2 H2) (hd : ∀ σ H, Pv ks.length σ H → D.nx σ H) :
    ∃ W : Nat → Nat → L2.St → Hp → Prop, (∃ m, W 0 m σ H) ∧ ∀ i m σ H, W i m σ H →
      ((Itk d o kvs).stop i H ∧ D.nx σ H) ∨ ((Itk d o kvs).go i H ∧ ∃ N : L2.St → Hp → Prop, (∀ σ' H', N σ' H' → ∃ m', m' < m ∧ W (i + 1) m' σ' H') ∧ ∀ x H', (Itk d o kvs).yld i H x H' → g x σ H' fun σ2 H2 => tb { D with nx := N, ct := N, bk := D.nx } σ2 H2) := by
  have hln := hk.len
  refine ⟨fun i m σ H => m = ks.length - i ∧ i ≤ ks.length ∧ Pv i σ H, ⟨ks.length, by simp, Nat.zero_le _, h0⟩, ?_⟩
  rintro i m σ H ⟨rfl, hi, p⟩
  have q := hl i σ H hi p
  by_cases hlt : i < ks.length
  · refine .inr ⟨⟨q, by omega⟩, Pv (i + 1), fun σ' H' p' => ⟨ks.length - (i + 1), by omega, rfl, hlt, p'⟩, fun x H' y => ?_⟩
    obtain ⟨e, k, v, y, ex⟩ := y
    subst e
    have h1 : (kvs.map (·.1))[i]? = some k := by rw [List.getElem?_map, y]; rfl
    rw [show kvs.map (·.1) = ks.map Sum.inl from hk, List.getElem?_map] at h1
    have h2 : ks[i]? = some ks[i] := List.getElem?_eq_getElem hlt
    rw [h2] at h1
    have h3 : k = Sum.inl ks[i] := (Option.some.inj h1).symm
    subst h3
    rw [ex]
    exact hs i _ σ _ h2 p
  · have e : i = ks.length := by omega
    subst e
    exact .inl ⟨⟨q, by omega⟩, hd σ H p⟩
end
theorem call_or {X : Cx} {f : Value} {r1 r2 : List V → Hp → VK → Prop} (h1 : CallR X f r1) (h2 : CallR X f r2) : CallR X f fun vs H Q => r1 vs H Q ∨ r2 vs H Q := by
  intro pins s σ H vs us Q I r h
  rcases h with h | h
  · exact h1 pins s σ H vs us Q I r h
  · exact h2 pins s σ H vs us Q I r h
/-- what was kept while a thing stood locked -/
theorem Kp.unlock {S : List Addr} {H H' : Hp} {d : Addr} {od : Obj} {u : HO} (hd : H d = some u) (k : Kp S (upd H d (.frz od u)) H') : Kp S H (upd H' d u) := fun b w h n => by
  by_cases e : b = d
  · subst e
    rw [upd_same]
    rw [hd] at h
    exact h
  · rw [upd_ne e]
    exact k b w (by rw [upd_ne e]; exact h) n
theorem Same.unlock {H H' : Hp} {d : Addr} {od : Obj} {u : HO} (hd : H d = some u) (k : Same (upd H d (.frz od u)) H') : Same H (upd H' d u) := Kp.same0 ((Kp.of_same (S := []) k).unlock hd)
theorem lock_none {H : Hp} {d p : Addr} {od : Obj} {u v : HO} (hd : H d = some v) (h : upd H d (.frz od u) p = none) : H p = none := by
  by_cases e : p = d
  · subst e
    rw [upd_same] at h
    cases h
  · rw [upd_ne e] at h
    exact h
end CwR

namespace K31
open PySem PySem.Spec PyProof.Rows L2
def top (i : Nat) : Stmt := PySem.Challenge.pw_clonewood_k31_counts_of_one_line.main.body.getD i (.Pass ⟨0, 0, 0, 0⟩)
abbrev s__law_cell_at : Stmt := top 6
abbrev s__law_stream : Stmt := top 7
abbrev s__law_reach : Stmt := top 8
abbrev s__law_lying : Stmt := top 9
abbrev s__law_tree : Stmt := top 10
abbrev s__law_made_stamp : Stmt := top 11
abbrev s__law_count : Stmt := top 12
abbrev s__law_deed : Stmt := top 13
abbrev s__law_truth : Stmt := top 14
abbrev s__law_right : Stmt := top 15
abbrev s__law_book : Stmt := top 16
abbrev s_law : Stmt := top 17
abbrev s_Strand___init__ : Stmt := inClass (top 2) 0
abbrev s_Strand_roots : Stmt := inClass (top 2) 1
abbrev s_Strand_last_stamp : Stmt := inClass (top 2) 2
abbrev s_Book___init__ : Stmt := inClass (top 3) 0
abbrev s_Book_below : Stmt := inClass (top 3) 1
abbrev s_Book_root_comes : Stmt := inClass (top 3) 2
abbrev s_Book_make_comes : Stmt := inClass (top 3) 3
abbrev s_Book_make_goes : Stmt := inClass (top 3) 4
abbrev s_Book_growth_goes : Stmt := inClass (top 3) 5
abbrev s_Book_line_stands : Stmt := inClass (top 3) 6
abbrev s_Book_begun : Stmt := inClass (top 3) 7
abbrev s_Book_grown : Stmt := inClass (top 3) 8
abbrev s_Book_made : Stmt := inClass (top 3) 9
abbrev s_Book_unmade : Stmt := inClass (top 3) 10
abbrev s_Book_ended : Stmt := inClass (top 3) 11
abbrev s_Book_stood : Stmt := inClass (top 3) 12
abbrev s_Counts___init__ : Stmt := inClass (top 4) 0
abbrev s_Counts_root_comes : Stmt := inClass (top 4) 1
abbrev s_Counts_let_go : Stmt := inClass (top 4) 2
abbrev s_Counts_make_comes : Stmt := inClass (top 4) 3
abbrev s_Counts_make_goes : Stmt := inClass (top 4) 4
abbrev s_Counts_growth_goes : Stmt := inClass (top 4) 5
abbrev s_Counts_count : Stmt := inClass (top 4) 6
abbrev s_Counts_lies : Stmt := inClass (top 4) 7
abbrev s_Counts_lying : Stmt := inClass (top 4) 8
def d__law_cell_at : He.DefD := ⟨("_law_cell_at", none), "_law_cell_at", "_law_cell_at", defArgs s__law_cell_at, defBody s__law_cell_at, defScope s__law_cell_at, [], []⟩
def d__law_stream : He.DefD := ⟨("_law_stream", none), "_law_stream", "_law_stream", defArgs s__law_stream, defBody s__law_stream, defScope s__law_stream, [], []⟩
def d__law_reach : He.DefD := ⟨("_law_reach", none), "_law_reach", "_law_reach", defArgs s__law_reach, defBody s__law_reach, defScope s__law_reach, [], []⟩
def d__law_lying : He.DefD := ⟨("_law_lying", none), "_law_lying", "_law_lying", defArgs s__law_lying, defBody s__law_lying, defScope s__law_lying, [], []⟩
def d__law_tree : He.DefD := ⟨("_law_tree", none), "_law_tree", "_law_tree", defArgs s__law_tree, defBody s__law_tree, defScope s__law_tree, [], []⟩
def d__law_made_stamp : He.DefD := ⟨("_law_made_stamp", none), "_law_made_stamp", "_law_made_stamp", defArgs s__law_made_stamp, defBody s__law_made_stamp, defScope s__law_made_stamp, [], []⟩
def d__law_count : He.DefD := ⟨("_law_count", none), "_law_count", "_law_count", defArgs s__law_count, defBody s__law_count, defScope s__law_count, [], []⟩
def d__law_deed : He.DefD := ⟨("_law_deed", none), "_law_deed", "_law_deed", defArgs s__law_deed, defBody s__law_deed, defScope s__law_deed, [], []⟩
def d__law_truth : He.DefD := ⟨("_law_truth", none), "_law_truth", "_law_truth", defArgs s__law_truth, defBody s__law_truth, defScope s__law_truth, [], []⟩
def d__law_right : He.DefD := ⟨("_law_right", none), "_law_right", "_law_right", defArgs s__law_right, defBody s__law_right, defScope s__law_right, [], []⟩
def d__law_book : He.DefD := ⟨("_law_book", none), "_law_book", "_law_book", defArgs s__law_book, defBody s__law_book, defScope s__law_book, [], []⟩
def d_law : He.DefD := ⟨("law", none), "law", "law", defArgs s_law, defBody s_law, defScope s_law, [], []⟩
def d_Strand___init__ : He.DefD := ⟨("Strand", some "__init__"), "__init__", "Strand.__init__", defArgs s_Strand___init__, defBody s_Strand___init__, defScope s_Strand___init__, [], []⟩
def d_Strand_roots : He.DefD := ⟨("Strand", some "roots"), "roots", "Strand.roots", defArgs s_Strand_roots, defBody s_Strand_roots, defScope s_Strand_roots, [], []⟩
def d_Strand_last_stamp : He.DefD := ⟨("Strand", some "last_stamp"), "last_stamp", "Strand.last_stamp", defArgs s_Strand_last_stamp, defBody s_Strand_last_stamp, defScope s_Strand_last_stamp, [], []⟩
def d_Book___init__ : He.DefD := ⟨("Book", some "__init__"), "__init__", "Book.__init__", defArgs s_Book___init__, defBody s_Book___init__, defScope s_Book___init__, [], []⟩
def d_Book_below : He.DefD := ⟨("Book", some "below"), "below", "Book.below", defArgs s_Book_below, defBody s_Book_below, defScope s_Book_below, [], []⟩
def d_Book_root_comes : He.DefD := ⟨("Book", some "root_comes"), "root_comes", "Book.root_comes", defArgs s_Book_root_comes, defBody s_Book_root_comes, defScope s_Book_root_comes, [], []⟩
def d_Book_make_comes : He.DefD := ⟨("Book", some "make_comes"), "make_comes", "Book.make_comes", defArgs s_Book_make_comes, defBody s_Book_make_comes, defScope s_Book_make_comes, [], []⟩
def d_Book_make_goes : He.DefD := ⟨("Book", some "make_goes"), "make_goes", "Book.make_goes", defArgs s_Book_make_goes, defBody s_Book_make_goes, defScope s_Book_make_goes, [], []⟩
def d_Book_growth_goes : He.DefD := ⟨("Book", some "growth_goes"), "growth_goes", "Book.growth_goes", defArgs s_Book_growth_goes, defBody s_Book_growth_goes, defScope s_Book_growth_goes, [], []⟩
def d_Book_line_stands : He.DefD := ⟨("Book", some "line_stands"), "line_stands", "Book.line_stands", defArgs s_Book_line_stands, defBody s_Book_line_stands, defScope s_Book_line_stands, [], []⟩
def d_Book_begun : He.DefD := ⟨("Book", some "begun"), "begun", "Book.begun", defArgs s_Book_begun, defBody s_Book_begun, defScope s_Book_begun, [], []⟩
def d_Book_grown : He.DefD := ⟨("Book", some "grown"), "grown", "Book.grown", defArgs s_Book_grown, defBody s_Book_grown, defScope s_Book_grown, [], []⟩
def d_Book_made : He.DefD := ⟨("Book", some "made"), "made", "Book.made", defArgs s_Book_made, defBody s_Book_made, defScope s_Book_made, [], []⟩
def d_Book_unmade : He.DefD := ⟨("Book", some "unmade"), "unmade", "Book.unmade", defArgs s_Book_unmade, defBody s_Book_unmade, defScope s_Book_unmade, [], []⟩
def d_Book_ended : He.DefD := ⟨("Book", some "ended"), "ended", "Book.ended", defArgs s_Book_ended, defBody s_Book_ended, defScope s_Book_ended, [], []⟩
def d_Book_stood : He.DefD := ⟨("Book", some "stood"), "stood", "Book.stood", defArgs s_Book_stood, defBody s_Book_stood, defScope s_Book_stood, [], []⟩
def d_Counts___init__ : He.DefD := ⟨("Counts", some "__init__"), "__init__", "Counts.__init__", defArgs s_Counts___init__, defBody s_Counts___init__, defScope s_Counts___init__, [], []⟩
def d_Counts_root_comes : He.DefD := ⟨("Counts", some "root_comes"), "root_comes", "Counts.root_comes", defArgs s_Counts_root_comes, defBody s_Counts_root_comes, defScope s_Counts_root_comes, [], []⟩
def d_Counts_let_go : He.DefD := ⟨("Counts", some "let_go"), "let_go", "Counts.let_go", defArgs s_Counts_let_go, defBody s_Counts_let_go, defScope s_Counts_let_go, [], []⟩
def d_Counts_make_comes : He.DefD := ⟨("Counts", some "make_comes"), "make_comes", "Counts.make_comes", defArgs s_Counts_make_comes, defBody s_Counts_make_comes, defScope s_Counts_make_comes, [], []⟩
def d_Counts_make_goes : He.DefD := ⟨("Counts", some "make_goes"), "make_goes", "Counts.make_goes", defArgs s_Counts_make_goes, defBody s_Counts_make_goes, defScope s_Counts_make_goes, [], []⟩
def d_Counts_growth_goes : He.DefD := ⟨("Counts", some "growth_goes"), "growth_goes", "Counts.growth_goes", defArgs s_Counts_growth_goes, defBody s_Counts_growth_goes, defScope s_Counts_growth_goes, [], []⟩
def d_Counts_count : He.DefD := ⟨("Counts", some "count"), "count", "Counts.count", defArgs s_Counts_count, defBody s_Counts_count, defScope s_Counts_count, [], []⟩
def d_Counts_lies : He.DefD := ⟨("Counts", some "lies"), "lies", "Counts.lies", defArgs s_Counts_lies, defBody s_Counts_lies, defScope s_Counts_lies, [], []⟩
def d_Counts_lying : He.DefD := ⟨("Counts", some "lying"), "lying", "Counts.lying", defArgs s_Counts_lying, defBody s_Counts_lying, defScope s_Counts_lying, [], []⟩
def d_Counts_below : He.DefD := ⟨("Counts", some "below"), "below", "Book.below", defArgs s_Book_below, defBody s_Book_below, defScope s_Book_below, [], []⟩
def d_Counts_line_stands : He.DefD := ⟨("Counts", some "line_stands"), "line_stands", "Book.line_stands", defArgs s_Book_line_stands, defBody s_Book_line_stands, defScope s_Book_line_stands, [], []⟩
def d_Counts_begun : He.DefD := ⟨("Counts", some "begun"), "begun", "Book.begun", defArgs s_Book_begun, defBody s_Book_begun, defScope s_Book_begun, [], []⟩
def d_Counts_grown : He.DefD := ⟨("Counts", some "grown"), "grown", "Book.grown", defArgs s_Book_grown, defBody s_Book_grown, defScope s_Book_grown, [], []⟩
def d_Counts_made : He.DefD := ⟨("Counts", some "made"), "made", "Book.made", defArgs s_Book_made, defBody s_Book_made, defScope s_Book_made, [], []⟩
def d_Counts_unmade : He.DefD := ⟨("Counts", some "unmade"), "unmade", "Book.unmade", defArgs s_Book_unmade, defBody s_Book_unmade, defScope s_Book_unmade, [], []⟩
def d_Counts_ended : He.DefD := ⟨("Counts", some "ended"), "ended", "Book.ended", defArgs s_Book_ended, defBody s_Book_ended, defScope s_Book_ended, [], []⟩
def d_Counts_stood : He.DefD := ⟨("Counts", some "stood"), "stood", "Book.stood", defArgs s_Book_stood, defBody s_Book_stood, defScope s_Book_stood, [], []⟩
def fn : List He.DefD := [d__law_cell_at, d__law_stream, d__law_reach, d__law_lying, d__law_tree, d__law_made_stamp, d__law_count, d__law_deed, d__law_truth, d__law_right, d__law_book, d_law, d_Strand___init__, d_Strand_roots, d_Strand_last_stamp, d_Book___init__, d_Book_below, d_Book_root_comes, d_Book_make_comes, d_Book_make_goes, d_Book_growth_goes, d_Book_line_stands, d_Book_begun, d_Book_grown, d_Book_made, d_Book_unmade, d_Book_ended, d_Book_stood, d_Counts___init__, d_Counts_root_comes, d_Counts_let_go, d_Counts_make_comes, d_Counts_make_goes, d_Counts_growth_goes, d_Counts_count, d_Counts_lies, d_Counts_lying, d_Counts_below, d_Counts_line_stands, d_Counts_begun, d_Counts_grown, d_Counts_made, d_Counts_unmade, d_Counts_ended, d_Counts_stood]
def fa : List He.Fa := [.glo "_law_cell_at", .glo "_law_stream", .glo "_law_reach", .glo "_law_lying", .glo "_law_tree", .glo "_law_made_stamp", .glo "_law_count", .glo "_law_deed", .glo "_law_truth", .glo "_law_right", .glo "_law_book", .glo "law", .free "bool", .free "isinstance", .free "len", .free "list", .free "max", .free "min", .free "range", .free "sorted", .glo "Strand", .cls "Strand", .noat "Strand" "base", .noat "Strand" "makes", .noat "Strand" "root", .meth "Strand" "__init__", .meth "Strand" "roots", .meth "Strand" "last_stamp", .mkr "Strand", .glo "Book", .cls "Book", .noat "Book" "pointed", .noat "Book" "birth", .noat "Book" "strands", .meth "Book" "__init__", .meth "Book" "below", .meth "Book" "root_comes", .meth "Book" "make_comes", .meth "Book" "make_goes", .meth "Book" "growth_goes", .meth "Book" "line_stands", .meth "Book" "begun", .meth "Book" "grown", .meth "Book" "made", .meth "Book" "unmade", .meth "Book" "ended", .meth "Book" "stood", .mkr "Book", .glo "Counts", .cls "Counts", .noat "Counts" "pointed", .noat "Counts" "birth", .noat "Counts" "strands", .noat "Counts" "counts", .meth "Counts" "__init__", .meth "Counts" "root_comes", .meth "Counts" "let_go", .meth "Counts" "make_comes", .meth "Counts" "make_goes", .meth "Counts" "growth_goes", .meth "Counts" "count", .meth "Counts" "lies", .meth "Counts" "lying", .meth "Counts" "below", .meth "Counts" "line_stands", .meth "Counts" "begun", .meth "Counts" "grown", .meth "Counts" "made", .meth "Counts" "unmade", .meth "Counts" "ended", .meth "Counts" "stood", .mkr "Counts"]
def loose : List PySem.Str := (["_wall", "__name__", "Strand", "Book", "Counts", "_law_cell_at", "_law_stream", "_law_reach", "_law_lying", "_law_tree", "_law_made_stamp", "_law_count", "_law_deed", "_law_truth", "_law_right", "_law_book"] : List PySem.Str)
def tf : List He.Defn := [("_law_book", none)]
def ex (K : PySem.W.Frag) : Bool := CwH.clsB K "Book" "__init__"
abbrev R : PySem.W.OpenRow := PySem.W.OpenLaw.row PySem.Challenge.rw_clonewood_k31_counts_of_one_line
abbrev hk : PySem.W.Hook := CwH.hook 5 fa fn tf ex
def ob (s : PySem.W.SharedT) : CwH.Seen := CwH.look 5 fa fn tf ex (HandSHeadRun.getT s)
theorem ob_eq (s : PySem.W.SharedT) : ob s = hk.obs s.abs := CwH.look_eq (HandSHeadRun.getT_eq s)
theorem run (w : World) : HandSHeadRun.RunEq R (PySem.W.view R.prog [17]) hk ob 4000 loose w := by
  intro os
  kernel_rfl
end K31


namespace K31
open PySem PySem.Spec PyProof.Rows L2
/-- what the top has left -/
structure Txt (K : PySem.W.Frag) (mg : Str → Option Value) : Prop where
  d : He.SaysD fa fn K
  more : ex K = true
  m : ∃ h : Heap, K.In h ∧ h.Ns mainGlobals mg
section
variable {K : PySem.W.Frag} {mg : Str → Option Value}
theorem Txt.g__law_cell_at (T : Txt K mg) : mg "_law_cell_at" = some (.ref (He.ga K "_law_cell_at")) := let ⟨_, X, G⟩ := T.m; He.glo_ok X G (T.d.fact 0 rfl)
theorem Txt.g__law_stream (T : Txt K mg) : mg "_law_stream" = some (.ref (He.ga K "_law_stream")) := let ⟨_, X, G⟩ := T.m; He.glo_ok X G (T.d.fact 1 rfl)
theorem Txt.g__law_reach (T : Txt K mg) : mg "_law_reach" = some (.ref (He.ga K "_law_reach")) := let ⟨_, X, G⟩ := T.m; He.glo_ok X G (T.d.fact 2 rfl)
theorem Txt.g__law_lying (T : Txt K mg) : mg "_law_lying" = some (.ref (He.ga K "_law_lying")) := let ⟨_, X, G⟩ := T.m; He.glo_ok X G (T.d.fact 3 rfl)
theorem Txt.g__law_tree (T : Txt K mg) : mg "_law_tree" = some (.ref (He.ga K "_law_tree")) := let ⟨_, X, G⟩ := T.m; He.glo_ok X G (T.d.fact 4 rfl)
theorem Txt.g__law_made_stamp (T : Txt K mg) : mg "_law_made_stamp" = some (.ref (He.ga K "_law_made_stamp")) := let ⟨_, X, G⟩ := T.m; He.glo_ok X G (T.d.fact 5 rfl)
theorem Txt.g__law_count (T : Txt K mg) : mg "_law_count" = some (.ref (He.ga K "_law_count")) := let ⟨_, X, G⟩ := T.m; He.glo_ok X G (T.d.fact 6 rfl)
theorem Txt.g__law_deed (T : Txt K mg) : mg "_law_deed" = some (.ref (He.ga K "_law_deed")) := let ⟨_, X, G⟩ := T.m; He.glo_ok X G (T.d.fact 7 rfl)
theorem Txt.g__law_truth (T : Txt K mg) : mg "_law_truth" = some (.ref (He.ga K "_law_truth")) := let ⟨_, X, G⟩ := T.m; He.glo_ok X G (T.d.fact 8 rfl)
theorem Txt.g__law_right (T : Txt K mg) : mg "_law_right" = some (.ref (He.ga K "_law_right")) := let ⟨_, X, G⟩ := T.m; He.glo_ok X G (T.d.fact 9 rfl)
theorem Txt.g__law_book (T : Txt K mg) : mg "_law_book" = some (.ref (He.ga K "_law_book")) := let ⟨_, X, G⟩ := T.m; He.glo_ok X G (T.d.fact 10 rfl)
theorem Txt.g_law (T : Txt K mg) : mg "law" = some (.ref (He.ga K "law")) := let ⟨_, X, G⟩ := T.m; He.glo_ok X G (T.d.fact 11 rfl)
theorem Txt.free_bool (T : Txt K mg) : mg "bool" = none := let ⟨_, X, G⟩ := T.m; He.free_ok X G (T.d.fact 12 rfl)
theorem Txt.free_isinstance (T : Txt K mg) : mg "isinstance" = none := let ⟨_, X, G⟩ := T.m; He.free_ok X G (T.d.fact 13 rfl)
theorem Txt.free_len (T : Txt K mg) : mg "len" = none := let ⟨_, X, G⟩ := T.m; He.free_ok X G (T.d.fact 14 rfl)
theorem Txt.free_list (T : Txt K mg) : mg "list" = none := let ⟨_, X, G⟩ := T.m; He.free_ok X G (T.d.fact 15 rfl)
theorem Txt.free_max (T : Txt K mg) : mg "max" = none := let ⟨_, X, G⟩ := T.m; He.free_ok X G (T.d.fact 16 rfl)
theorem Txt.free_min (T : Txt K mg) : mg "min" = none := let ⟨_, X, G⟩ := T.m; He.free_ok X G (T.d.fact 17 rfl)
theorem Txt.free_range (T : Txt K mg) : mg "range" = none := let ⟨_, X, G⟩ := T.m; He.free_ok X G (T.d.fact 18 rfl)
theorem Txt.free_sorted (T : Txt K mg) : mg "sorted" = none := let ⟨_, X, G⟩ := T.m; He.free_ok X G (T.d.fact 19 rfl)
theorem Txt.g_Strand (T : Txt K mg) : mg "Strand" = some (.ref (He.ga K "Strand")) := let ⟨_, X, G⟩ := T.m; He.glo_ok X G (T.d.fact 20 rfl)
theorem Txt.c_Strand (T : Txt K mg) : Cls K (He.ga K "Strand") := He.cls_ok (T.d.fact 21 rfl)
theorem Txt.n_Strand_base (T : Txt K mg) : NoAttr K (He.ga K "Strand") "base" := He.noat_ok (T.d.fact 22 rfl)
theorem Txt.n_Strand_makes (T : Txt K mg) : NoAttr K (He.ga K "Strand") "makes" := He.noat_ok (T.d.fact 23 rfl)
theorem Txt.n_Strand_root (T : Txt K mg) : NoAttr K (He.ga K "Strand") "root" := He.noat_ok (T.d.fact 24 rfl)
theorem Txt.m_Strand___init__ (T : Txt K mg) : Meth K (He.ga K "Strand") "__init__" (He.fAd K ("Strand", some "__init__")) := He.meth_ok (T.d.fact 25 rfl)
theorem Txt.m_Strand_roots (T : Txt K mg) : Meth K (He.ga K "Strand") "roots" (He.fAd K ("Strand", some "roots")) := He.meth_ok (T.d.fact 26 rfl)
theorem Txt.m_Strand_last_stamp (T : Txt K mg) : Meth K (He.ga K "Strand") "last_stamp" (He.fAd K ("Strand", some "last_stamp")) := He.meth_ok (T.d.fact 27 rfl)
theorem Txt.k_Strand (T : Txt K mg) : Mk K (He.ga K "Strand") (He.fAd K ("Strand", some "__init__")) := He.mkr_ok (T.d.fact 28 rfl)
theorem Txt.g_Book (T : Txt K mg) : mg "Book" = some (.ref (He.ga K "Book")) := let ⟨_, X, G⟩ := T.m; He.glo_ok X G (T.d.fact 29 rfl)
theorem Txt.c_Book (T : Txt K mg) : Cls K (He.ga K "Book") := He.cls_ok (T.d.fact 30 rfl)
theorem Txt.n_Book_pointed (T : Txt K mg) : NoAttr K (He.ga K "Book") "pointed" := He.noat_ok (T.d.fact 31 rfl)
theorem Txt.n_Book_birth (T : Txt K mg) : NoAttr K (He.ga K "Book") "birth" := He.noat_ok (T.d.fact 32 rfl)
theorem Txt.n_Book_strands (T : Txt K mg) : NoAttr K (He.ga K "Book") "strands" := He.noat_ok (T.d.fact 33 rfl)
theorem Txt.m_Book___init__ (T : Txt K mg) : Meth K (He.ga K "Book") "__init__" (He.fAd K ("Book", some "__init__")) := He.meth_ok (T.d.fact 34 rfl)
theorem Txt.m_Book_below (T : Txt K mg) : Meth K (He.ga K "Book") "below" (He.fAd K ("Book", some "below")) := He.meth_ok (T.d.fact 35 rfl)
theorem Txt.m_Book_root_comes (T : Txt K mg) : Meth K (He.ga K "Book") "root_comes" (He.fAd K ("Book", some "root_comes")) := He.meth_ok (T.d.fact 36 rfl)
theorem Txt.m_Book_make_comes (T : Txt K mg) : Meth K (He.ga K "Book") "make_comes" (He.fAd K ("Book", some "make_comes")) := He.meth_ok (T.d.fact 37 rfl)
theorem Txt.m_Book_make_goes (T : Txt K mg) : Meth K (He.ga K "Book") "make_goes" (He.fAd K ("Book", some "make_goes")) := He.meth_ok (T.d.fact 38 rfl)
theorem Txt.m_Book_growth_goes (T : Txt K mg) : Meth K (He.ga K "Book") "growth_goes" (He.fAd K ("Book", some "growth_goes")) := He.meth_ok (T.d.fact 39 rfl)
theorem Txt.m_Book_line_stands (T : Txt K mg) : Meth K (He.ga K "Book") "line_stands" (He.fAd K ("Book", some "line_stands")) := He.meth_ok (T.d.fact 40 rfl)
theorem Txt.m_Book_begun (T : Txt K mg) : Meth K (He.ga K "Book") "begun" (He.fAd K ("Book", some "begun")) := He.meth_ok (T.d.fact 41 rfl)
theorem Txt.m_Book_grown (T : Txt K mg) : Meth K (He.ga K "Book") "grown" (He.fAd K ("Book", some "grown")) := He.meth_ok (T.d.fact 42 rfl)
theorem Txt.m_Book_made (T : Txt K mg) : Meth K (He.ga K "Book") "made" (He.fAd K ("Book", some "made")) := He.meth_ok (T.d.fact 43 rfl)
theorem Txt.m_Book_unmade (T : Txt K mg) : Meth K (He.ga K "Book") "unmade" (He.fAd K ("Book", some "unmade")) := He.meth_ok (T.d.fact 44 rfl)
theorem Txt.m_Book_ended (T : Txt K mg) : Meth K (He.ga K "Book") "ended" (He.fAd K ("Book", some "ended")) := He.meth_ok (T.d.fact 45 rfl)
theorem Txt.m_Book_stood (T : Txt K mg) : Meth K (He.ga K "Book") "stood" (He.fAd K ("Book", some "stood")) := He.meth_ok (T.d.fact 46 rfl)
theorem Txt.k_Book (T : Txt K mg) : Mk K (He.ga K "Book") (He.fAd K ("Book", some "__init__")) := He.mkr_ok (T.d.fact 47 rfl)
theorem Txt.g_Counts (T : Txt K mg) : mg "Counts" = some (.ref (He.ga K "Counts")) := let ⟨_, X, G⟩ := T.m; He.glo_ok X G (T.d.fact 48 rfl)
theorem Txt.c_Counts (T : Txt K mg) : Cls K (He.ga K "Counts") := He.cls_ok (T.d.fact 49 rfl)
theorem Txt.n_Counts_pointed (T : Txt K mg) : NoAttr K (He.ga K "Counts") "pointed" := He.noat_ok (T.d.fact 50 rfl)
theorem Txt.n_Counts_birth (T : Txt K mg) : NoAttr K (He.ga K "Counts") "birth" := He.noat_ok (T.d.fact 51 rfl)
theorem Txt.n_Counts_strands (T : Txt K mg) : NoAttr K (He.ga K "Counts") "strands" := He.noat_ok (T.d.fact 52 rfl)
theorem Txt.n_Counts_counts (T : Txt K mg) : NoAttr K (He.ga K "Counts") "counts" := He.noat_ok (T.d.fact 53 rfl)
theorem Txt.m_Counts___init__ (T : Txt K mg) : Meth K (He.ga K "Counts") "__init__" (He.fAd K ("Counts", some "__init__")) := He.meth_ok (T.d.fact 54 rfl)
theorem Txt.m_Counts_root_comes (T : Txt K mg) : Meth K (He.ga K "Counts") "root_comes" (He.fAd K ("Counts", some "root_comes")) := He.meth_ok (T.d.fact 55 rfl)
theorem Txt.m_Counts_let_go (T : Txt K mg) : Meth K (He.ga K "Counts") "let_go" (He.fAd K ("Counts", some "let_go")) := He.meth_ok (T.d.fact 56 rfl)
theorem Txt.m_Counts_make_comes (T : Txt K mg) : Meth K (He.ga K "Counts") "make_comes" (He.fAd K ("Counts", some "make_comes")) := He.meth_ok (T.d.fact 57 rfl)
theorem Txt.m_Counts_make_goes (T : Txt K mg) : Meth K (He.ga K "Counts") "make_goes" (He.fAd K ("Counts", some "make_goes")) := He.meth_ok (T.d.fact 58 rfl)
theorem Txt.m_Counts_growth_goes (T : Txt K mg) : Meth K (He.ga K "Counts") "growth_goes" (He.fAd K ("Counts", some "growth_goes")) := He.meth_ok (T.d.fact 59 rfl)
theorem Txt.m_Counts_count (T : Txt K mg) : Meth K (He.ga K "Counts") "count" (He.fAd K ("Counts", some "count")) := He.meth_ok (T.d.fact 60 rfl)
theorem Txt.m_Counts_lies (T : Txt K mg) : Meth K (He.ga K "Counts") "lies" (He.fAd K ("Counts", some "lies")) := He.meth_ok (T.d.fact 61 rfl)
theorem Txt.m_Counts_lying (T : Txt K mg) : Meth K (He.ga K "Counts") "lying" (He.fAd K ("Counts", some "lying")) := He.meth_ok (T.d.fact 62 rfl)
theorem Txt.m_Counts_below (T : Txt K mg) : Meth K (He.ga K "Counts") "below" (He.fAd K ("Counts", some "below")) := He.meth_ok (T.d.fact 63 rfl)
theorem Txt.m_Counts_line_stands (T : Txt K mg) : Meth K (He.ga K "Counts") "line_stands" (He.fAd K ("Counts", some "line_stands")) := He.meth_ok (T.d.fact 64 rfl)
theorem Txt.m_Counts_begun (T : Txt K mg) : Meth K (He.ga K "Counts") "begun" (He.fAd K ("Counts", some "begun")) := He.meth_ok (T.d.fact 65 rfl)
theorem Txt.m_Counts_grown (T : Txt K mg) : Meth K (He.ga K "Counts") "grown" (He.fAd K ("Counts", some "grown")) := He.meth_ok (T.d.fact 66 rfl)
theorem Txt.m_Counts_made (T : Txt K mg) : Meth K (He.ga K "Counts") "made" (He.fAd K ("Counts", some "made")) := He.meth_ok (T.d.fact 67 rfl)
theorem Txt.m_Counts_unmade (T : Txt K mg) : Meth K (He.ga K "Counts") "unmade" (He.fAd K ("Counts", some "unmade")) := He.meth_ok (T.d.fact 68 rfl)
theorem Txt.m_Counts_ended (T : Txt K mg) : Meth K (He.ga K "Counts") "ended" (He.fAd K ("Counts", some "ended")) := He.meth_ok (T.d.fact 69 rfl)
theorem Txt.m_Counts_stood (T : Txt K mg) : Meth K (He.ga K "Counts") "stood" (He.fAd K ("Counts", some "stood")) := He.meth_ok (T.d.fact 70 rfl)
theorem Txt.k_Counts (T : Txt K mg) : Mk K (He.ga K "Counts") (He.fAd K ("Counts", some "__init__")) := He.mkr_ok (T.d.fact 71 rfl)
theorem Txt.f__law_cell_at (T : Txt K mg) : Fun K "_law_cell_at" "_law_cell_at" s__law_cell_at (He.fAd K ("_law_cell_at", none)) (CwH.fdOf K ("_law_cell_at", none)) := CwH.fun_of (T.d.def_ 0 rfl)
theorem Txt.b__law_cell_at (T : Txt K mg) : Binds K (CwH.fdOf K ("_law_cell_at", none)) ["_law_script", "_law_k"] [] := (T.f__law_cell_at).binds fun _ _ _ _ _ _ us hl => match us, hl with | [_, _], _ => rfl
theorem Txt.f__law_stream (T : Txt K mg) : Fun K "_law_stream" "_law_stream" s__law_stream (He.fAd K ("_law_stream", none)) (CwH.fdOf K ("_law_stream", none)) := CwH.fun_of (T.d.def_ 1 rfl)
theorem Txt.b__law_stream (T : Txt K mg) : Binds K (CwH.fdOf K ("_law_stream", none)) ["_law_cell", "_law_many"] [] := (T.f__law_stream).binds fun _ _ _ _ _ _ us hl => match us, hl with | [_, _], _ => rfl
theorem Txt.f__law_reach (T : Txt K mg) : Fun K "_law_reach" "_law_reach" s__law_reach (He.fAd K ("_law_reach", none)) (CwH.fdOf K ("_law_reach", none)) := CwH.fun_of (T.d.def_ 2 rfl)
theorem Txt.b__law_reach (T : Txt K mg) : Binds K (CwH.fdOf K ("_law_reach", none)) ["_law_pieces", "_law_roots"] [] := (T.f__law_reach).binds fun _ _ _ _ _ _ us hl => match us, hl with | [_, _], _ => rfl
theorem Txt.f__law_lying (T : Txt K mg) : Fun K "_law_lying" "_law_lying" s__law_lying (He.fAd K ("_law_lying", none)) (CwH.fdOf K ("_law_lying", none)) := CwH.fun_of (T.d.def_ 3 rfl)
theorem Txt.b__law_lying (T : Txt K mg) : Binds K (CwH.fdOf K ("_law_lying", none)) ["_law_state"] [] := (T.f__law_lying).binds fun _ _ _ _ _ _ us hl => match us, hl with | [_], _ => rfl
theorem Txt.f__law_tree (T : Txt K mg) : Fun K "_law_tree" "_law_tree" s__law_tree (He.fAd K ("_law_tree", none)) (CwH.fdOf K ("_law_tree", none)) := CwH.fun_of (T.d.def_ 4 rfl)
theorem Txt.b__law_tree (T : Txt K mg) : Binds K (CwH.fdOf K ("_law_tree", none)) ["_law_state", "_law_numbers", "_law_old"] [] := (T.f__law_tree).binds fun _ _ _ _ _ _ us hl => match us, hl with | [_, _, _], _ => rfl
theorem Txt.f__law_made_stamp (T : Txt K mg) : Fun K "_law_made_stamp" "_law_made_stamp" s__law_made_stamp (He.fAd K ("_law_made_stamp", none)) (CwH.fdOf K ("_law_made_stamp", none)) := CwH.fun_of (T.d.def_ 5 rfl)
theorem Txt.b__law_made_stamp (T : Txt K mg) : Binds K (CwH.fdOf K ("_law_made_stamp", none)) ["_law_state", "_law_line", "_law_number"] [] := (T.f__law_made_stamp).binds fun _ _ _ _ _ _ us hl => match us, hl with | [_, _, _], _ => rfl
theorem Txt.f__law_count (T : Txt K mg) : Fun K "_law_count" "_law_count" s__law_count (He.fAd K ("_law_count", none)) (CwH.fdOf K ("_law_count", none)) := CwH.fun_of (T.d.def_ 6 rfl)
theorem Txt.b__law_count (T : Txt K mg) : Binds K (CwH.fdOf K ("_law_count", none)) ["_law_state", "_law_lying_here", "_law_place"] [] := (T.f__law_count).binds fun _ _ _ _ _ _ us hl => match us, hl with | [_, _, _], _ => rfl
theorem Txt.f__law_deed (T : Txt K mg) : Fun K "_law_deed" "_law_deed" s__law_deed (He.fAd K ("_law_deed", none)) (CwH.fdOf K ("_law_deed", none)) := CwH.fun_of (T.d.def_ 7 rfl)
theorem Txt.b__law_deed (T : Txt K mg) : Binds K (CwH.fdOf K ("_law_deed", none)) ["_law_book_here", "_law_state", "_law_numbers"] [] := (T.f__law_deed).binds fun _ _ _ _ _ _ us hl => match us, hl with | [_, _, _], _ => rfl
theorem Txt.f__law_truth (T : Txt K mg) : Fun K "_law_truth" "_law_truth" s__law_truth (He.fAd K ("_law_truth", none)) (CwH.fdOf K ("_law_truth", none)) := CwH.fun_of (T.d.def_ 8 rfl)
theorem Txt.b__law_truth (T : Txt K mg) : Binds K (CwH.fdOf K ("_law_truth", none)) ["_law_told", "_law_due"] [] := (T.f__law_truth).binds fun _ _ _ _ _ _ us hl => match us, hl with | [_, _], _ => rfl
theorem Txt.f__law_right (T : Txt K mg) : Fun K "_law_right" "_law_right" s__law_right (He.fAd K ("_law_right", none)) (CwH.fdOf K ("_law_right", none)) := CwH.fun_of (T.d.def_ 9 rfl)
theorem Txt.b__law_right (T : Txt K mg) : Binds K (CwH.fdOf K ("_law_right", none)) ["_law_book_here", "_law_state", "_law_lying_here"] [] := (T.f__law_right).binds fun _ _ _ _ _ _ us hl => match us, hl with | [_, _, _], _ => rfl
theorem Txt.f__law_book (T : Txt K mg) : Fun K "_law_book" "_law_book" s__law_book (He.fAd K ("_law_book", none)) (CwH.fdOf K ("_law_book", none)) := CwH.fun_of (T.d.def_ 10 rfl)
theorem Txt.b__law_book (T : Txt K mg) : Binds K (CwH.fdOf K ("_law_book", none)) ["_law_pieces"] [] := (T.f__law_book).binds fun _ _ _ _ _ _ us hl => match us, hl with | [_], _ => rfl
theorem Txt.f_law (T : Txt K mg) : Fun K "law" "law" s_law (He.fAd K ("law", none)) (CwH.fdOf K ("law", none)) := CwH.fun_of (T.d.def_ 11 rfl)
theorem Txt.b_law (T : Txt K mg) : Binds K (CwH.fdOf K ("law", none)) ["_law_script"] [] := (T.f_law).binds fun _ _ _ _ _ _ us hl => match us, hl with | [_], _ => rfl
theorem Txt.f_Strand___init__ (T : Txt K mg) : Fun K "__init__" "Strand.__init__" s_Strand___init__ (He.fAd K ("Strand", some "__init__")) (CwH.fdOf K ("Strand", some "__init__")) := CwH.fun_of (T.d.def_ 12 rfl)
theorem Txt.b_Strand___init__ (T : Txt K mg) : Binds K (CwH.fdOf K ("Strand", some "__init__")) ["self", "base", "makes", "root"] [] := (T.f_Strand___init__).binds fun _ _ _ _ _ _ us hl => match us, hl with | [_, _, _, _], _ => rfl
theorem Txt.f_Strand_roots (T : Txt K mg) : Fun K "roots" "Strand.roots" s_Strand_roots (He.fAd K ("Strand", some "roots")) (CwH.fdOf K ("Strand", some "roots")) := CwH.fun_of (T.d.def_ 13 rfl)
theorem Txt.b_Strand_roots (T : Txt K mg) : Binds K (CwH.fdOf K ("Strand", some "roots")) ["self"] [] := (T.f_Strand_roots).binds fun _ _ _ _ _ _ us hl => match us, hl with | [_], _ => rfl
theorem Txt.f_Strand_last_stamp (T : Txt K mg) : Fun K "last_stamp" "Strand.last_stamp" s_Strand_last_stamp (He.fAd K ("Strand", some "last_stamp")) (CwH.fdOf K ("Strand", some "last_stamp")) := CwH.fun_of (T.d.def_ 14 rfl)
theorem Txt.b_Strand_last_stamp (T : Txt K mg) : Binds K (CwH.fdOf K ("Strand", some "last_stamp")) ["self"] [] := (T.f_Strand_last_stamp).binds fun _ _ _ _ _ _ us hl => match us, hl with | [_], _ => rfl
theorem Txt.f_Book___init__ (T : Txt K mg) : Fun K "__init__" "Book.__init__" s_Book___init__ (He.fAd K ("Book", some "__init__")) (CwH.fdOf K ("Book", some "__init__")) := CwH.fun_of (T.d.def_ 15 rfl)
theorem Txt.b_Book___init__ (T : Txt K mg) : Binds K (CwH.fdOf K ("Book", some "__init__")) ["self", "points", "born"] [] := (T.f_Book___init__).binds fun _ _ _ _ _ _ us hl => match us, hl with | [_, _, _], _ => rfl
theorem Txt.f_Book_below (T : Txt K mg) : Fun K "below" "Book.below" s_Book_below (He.fAd K ("Book", some "below")) (CwH.fdOf K ("Book", some "below")) := CwH.fun_of (T.d.def_ 16 rfl)
theorem Txt.b_Book_below (T : Txt K mg) : Binds K (CwH.fdOf K ("Book", some "below")) ["self", "roots"] [] := (T.f_Book_below).binds fun _ _ _ _ _ _ us hl => match us, hl with | [_, _], _ => rfl
theorem Txt.f_Book_root_comes (T : Txt K mg) : Fun K "root_comes" "Book.root_comes" s_Book_root_comes (He.fAd K ("Book", some "root_comes")) (CwH.fdOf K ("Book", some "root_comes")) := CwH.fun_of (T.d.def_ 17 rfl)
theorem Txt.b_Book_root_comes (T : Txt K mg) : Binds K (CwH.fdOf K ("Book", some "root_comes")) ["self", "root"] [] := (T.f_Book_root_comes).binds fun _ _ _ _ _ _ us hl => match us, hl with | [_, _], _ => rfl
theorem Txt.f_Book_make_comes (T : Txt K mg) : Fun K "make_comes" "Book.make_comes" s_Book_make_comes (He.fAd K ("Book", some "make_comes")) (CwH.fdOf K ("Book", some "make_comes")) := CwH.fun_of (T.d.def_ 18 rfl)
theorem Txt.b_Book_make_comes (T : Txt K mg) : Binds K (CwH.fdOf K ("Book", some "make_comes")) ["self", "line", "stamp", "root"] [] := (T.f_Book_make_comes).binds fun _ _ _ _ _ _ us hl => match us, hl with | [_, _, _, _], _ => rfl
theorem Txt.f_Book_make_goes (T : Txt K mg) : Fun K "make_goes" "Book.make_goes" s_Book_make_goes (He.fAd K ("Book", some "make_goes")) (CwH.fdOf K ("Book", some "make_goes")) := CwH.fun_of (T.d.def_ 19 rfl)
theorem Txt.b_Book_make_goes (T : Txt K mg) : Binds K (CwH.fdOf K ("Book", some "make_goes")) ["self", "line", "stamp"] [] := (T.f_Book_make_goes).binds fun _ _ _ _ _ _ us hl => match us, hl with | [_, _, _], _ => rfl
theorem Txt.f_Book_growth_goes (T : Txt K mg) : Fun K "growth_goes" "Book.growth_goes" s_Book_growth_goes (He.fAd K ("Book", some "growth_goes")) (CwH.fdOf K ("Book", some "growth_goes")) := CwH.fun_of (T.d.def_ 20 rfl)
theorem Txt.b_Book_growth_goes (T : Txt K mg) : Binds K (CwH.fdOf K ("Book", some "growth_goes")) ["self", "line", "root"] [] := (T.f_Book_growth_goes).binds fun _ _ _ _ _ _ us hl => match us, hl with | [_, _, _], _ => rfl
theorem Txt.f_Book_line_stands (T : Txt K mg) : Fun K "line_stands" "Book.line_stands" s_Book_line_stands (He.fAd K ("Book", some "line_stands")) (CwH.fdOf K ("Book", some "line_stands")) := CwH.fun_of (T.d.def_ 21 rfl)
theorem Txt.b_Book_line_stands (T : Txt K mg) : Binds K (CwH.fdOf K ("Book", some "line_stands")) ["self", "line"] [] := (T.f_Book_line_stands).binds fun _ _ _ _ _ _ us hl => match us, hl with | [_, _], _ => rfl
theorem Txt.f_Book_begun (T : Txt K mg) : Fun K "begun" "Book.begun" s_Book_begun (He.fAd K ("Book", some "begun")) (CwH.fdOf K ("Book", some "begun")) := CwH.fun_of (T.d.def_ 22 rfl)
theorem Txt.b_Book_begun (T : Txt K mg) : Binds K (CwH.fdOf K ("Book", some "begun")) ["self", "line", "base", "root"] [] := (T.f_Book_begun).binds fun _ _ _ _ _ _ us hl => match us, hl with | [_, _, _, _], _ => rfl
theorem Txt.f_Book_grown (T : Txt K mg) : Fun K "grown" "Book.grown" s_Book_grown (He.fAd K ("Book", some "grown")) (CwH.fdOf K ("Book", some "grown")) := CwH.fun_of (T.d.def_ 23 rfl)
theorem Txt.b_Book_grown (T : Txt K mg) : Binds K (CwH.fdOf K ("Book", some "grown")) ["self", "line", "root"] [] := (T.f_Book_grown).binds fun _ _ _ _ _ _ us hl => match us, hl with | [_, _, _], _ => rfl
theorem Txt.f_Book_made (T : Txt K mg) : Fun K "made" "Book.made" s_Book_made (He.fAd K ("Book", some "made")) (CwH.fdOf K ("Book", some "made")) := CwH.fun_of (T.d.def_ 24 rfl)
theorem Txt.b_Book_made (T : Txt K mg) : Binds K (CwH.fdOf K ("Book", some "made")) ["self", "line", "stamp"] [] := (T.f_Book_made).binds fun _ _ _ _ _ _ us hl => match us, hl with | [_, _, _], _ => rfl
theorem Txt.f_Book_unmade (T : Txt K mg) : Fun K "unmade" "Book.unmade" s_Book_unmade (He.fAd K ("Book", some "unmade")) (CwH.fdOf K ("Book", some "unmade")) := CwH.fun_of (T.d.def_ 25 rfl)
theorem Txt.b_Book_unmade (T : Txt K mg) : Binds K (CwH.fdOf K ("Book", some "unmade")) ["self", "line", "stamp"] [] := (T.f_Book_unmade).binds fun _ _ _ _ _ _ us hl => match us, hl with | [_, _, _], _ => rfl
theorem Txt.f_Book_ended (T : Txt K mg) : Fun K "ended" "Book.ended" s_Book_ended (He.fAd K ("Book", some "ended")) (CwH.fdOf K ("Book", some "ended")) := CwH.fun_of (T.d.def_ 26 rfl)
theorem Txt.b_Book_ended (T : Txt K mg) : Binds K (CwH.fdOf K ("Book", some "ended")) ["self", "line"] [] := (T.f_Book_ended).binds fun _ _ _ _ _ _ us hl => match us, hl with | [_, _], _ => rfl
theorem Txt.f_Book_stood (T : Txt K mg) : Fun K "stood" "Book.stood" s_Book_stood (He.fAd K ("Book", some "stood")) (CwH.fdOf K ("Book", some "stood")) := CwH.fun_of (T.d.def_ 27 rfl)
theorem Txt.b_Book_stood (T : Txt K mg) : Binds K (CwH.fdOf K ("Book", some "stood")) ["self", "line", "base", "makes", "root"] [] := (T.f_Book_stood).binds fun _ _ _ _ _ _ us hl => match us, hl with | [_, _, _, _, _], _ => rfl
theorem Txt.f_Counts___init__ (T : Txt K mg) : Fun K "__init__" "Counts.__init__" s_Counts___init__ (He.fAd K ("Counts", some "__init__")) (CwH.fdOf K ("Counts", some "__init__")) := CwH.fun_of (T.d.def_ 28 rfl)
theorem Txt.b_Counts___init__ (T : Txt K mg) : Binds K (CwH.fdOf K ("Counts", some "__init__")) ["self", "points", "born"] [] := (T.f_Counts___init__).binds fun _ _ _ _ _ _ us hl => match us, hl with | [_, _, _], _ => rfl
theorem Txt.f_Counts_root_comes (T : Txt K mg) : Fun K "root_comes" "Counts.root_comes" s_Counts_root_comes (He.fAd K ("Counts", some "root_comes")) (CwH.fdOf K ("Counts", some "root_comes")) := CwH.fun_of (T.d.def_ 29 rfl)
theorem Txt.b_Counts_root_comes (T : Txt K mg) : Binds K (CwH.fdOf K ("Counts", some "root_comes")) ["self", "root"] [] := (T.f_Counts_root_comes).binds fun _ _ _ _ _ _ us hl => match us, hl with | [_, _], _ => rfl
theorem Txt.f_Counts_let_go (T : Txt K mg) : Fun K "let_go" "Counts.let_go" s_Counts_let_go (He.fAd K ("Counts", some "let_go")) (CwH.fdOf K ("Counts", some "let_go")) := CwH.fun_of (T.d.def_ 30 rfl)
theorem Txt.b_Counts_let_go (T : Txt K mg) : Binds K (CwH.fdOf K ("Counts", some "let_go")) ["self", "root"] [] := (T.f_Counts_let_go).binds fun _ _ _ _ _ _ us hl => match us, hl with | [_, _], _ => rfl
theorem Txt.f_Counts_make_comes (T : Txt K mg) : Fun K "make_comes" "Counts.make_comes" s_Counts_make_comes (He.fAd K ("Counts", some "make_comes")) (CwH.fdOf K ("Counts", some "make_comes")) := CwH.fun_of (T.d.def_ 31 rfl)
theorem Txt.b_Counts_make_comes (T : Txt K mg) : Binds K (CwH.fdOf K ("Counts", some "make_comes")) ["self", "line", "stamp", "root"] [] := (T.f_Counts_make_comes).binds fun _ _ _ _ _ _ us hl => match us, hl with | [_, _, _, _], _ => rfl
theorem Txt.f_Counts_make_goes (T : Txt K mg) : Fun K "make_goes" "Counts.make_goes" s_Counts_make_goes (He.fAd K ("Counts", some "make_goes")) (CwH.fdOf K ("Counts", some "make_goes")) := CwH.fun_of (T.d.def_ 32 rfl)
theorem Txt.b_Counts_make_goes (T : Txt K mg) : Binds K (CwH.fdOf K ("Counts", some "make_goes")) ["self", "line", "stamp"] [] := (T.f_Counts_make_goes).binds fun _ _ _ _ _ _ us hl => match us, hl with | [_, _, _], _ => rfl
theorem Txt.f_Counts_growth_goes (T : Txt K mg) : Fun K "growth_goes" "Counts.growth_goes" s_Counts_growth_goes (He.fAd K ("Counts", some "growth_goes")) (CwH.fdOf K ("Counts", some "growth_goes")) := CwH.fun_of (T.d.def_ 33 rfl)
theorem Txt.b_Counts_growth_goes (T : Txt K mg) : Binds K (CwH.fdOf K ("Counts", some "growth_goes")) ["self", "line", "root"] [] := (T.f_Counts_growth_goes).binds fun _ _ _ _ _ _ us hl => match us, hl with | [_, _, _], _ => rfl
theorem Txt.f_Counts_count (T : Txt K mg) : Fun K "count" "Counts.count" s_Counts_count (He.fAd K ("Counts", some "count")) (CwH.fdOf K ("Counts", some "count")) := CwH.fun_of (T.d.def_ 34 rfl)
theorem Txt.b_Counts_count (T : Txt K mg) : Binds K (CwH.fdOf K ("Counts", some "count")) ["self", "place"] [] := (T.f_Counts_count).binds fun _ _ _ _ _ _ us hl => match us, hl with | [_, _], _ => rfl
theorem Txt.f_Counts_lies (T : Txt K mg) : Fun K "lies" "Counts.lies" s_Counts_lies (He.fAd K ("Counts", some "lies")) (CwH.fdOf K ("Counts", some "lies")) := CwH.fun_of (T.d.def_ 35 rfl)
theorem Txt.b_Counts_lies (T : Txt K mg) : Binds K (CwH.fdOf K ("Counts", some "lies")) ["self", "place"] [] := (T.f_Counts_lies).binds fun _ _ _ _ _ _ us hl => match us, hl with | [_, _], _ => rfl
theorem Txt.f_Counts_lying (T : Txt K mg) : Fun K "lying" "Counts.lying" s_Counts_lying (He.fAd K ("Counts", some "lying")) (CwH.fdOf K ("Counts", some "lying")) := CwH.fun_of (T.d.def_ 36 rfl)
theorem Txt.b_Counts_lying (T : Txt K mg) : Binds K (CwH.fdOf K ("Counts", some "lying")) ["self"] [] := (T.f_Counts_lying).binds fun _ _ _ _ _ _ us hl => match us, hl with | [_], _ => rfl
theorem Txt.f_Counts_below (T : Txt K mg) : Fun K "below" "Book.below" s_Book_below (He.fAd K ("Counts", some "below")) (CwH.fdOf K ("Counts", some "below")) := CwH.fun_of (T.d.def_ 37 rfl)
theorem Txt.b_Counts_below (T : Txt K mg) : Binds K (CwH.fdOf K ("Counts", some "below")) ["self", "roots"] [] := (T.f_Counts_below).binds fun _ _ _ _ _ _ us hl => match us, hl with | [_, _], _ => rfl
theorem Txt.f_Counts_line_stands (T : Txt K mg) : Fun K "line_stands" "Book.line_stands" s_Book_line_stands (He.fAd K ("Counts", some "line_stands")) (CwH.fdOf K ("Counts", some "line_stands")) := CwH.fun_of (T.d.def_ 38 rfl)
theorem Txt.b_Counts_line_stands (T : Txt K mg) : Binds K (CwH.fdOf K ("Counts", some "line_stands")) ["self", "line"] [] := (T.f_Counts_line_stands).binds fun _ _ _ _ _ _ us hl => match us, hl with | [_, _], _ => rfl
theorem Txt.f_Counts_begun (T : Txt K mg) : Fun K "begun" "Book.begun" s_Book_begun (He.fAd K ("Counts", some "begun")) (CwH.fdOf K ("Counts", some "begun")) := CwH.fun_of (T.d.def_ 39 rfl)
theorem Txt.b_Counts_begun (T : Txt K mg) : Binds K (CwH.fdOf K ("Counts", some "begun")) ["self", "line", "base", "root"] [] := (T.f_Counts_begun).binds fun _ _ _ _ _ _ us hl => match us, hl with | [_, _, _, _], _ => rfl
theorem Txt.f_Counts_grown (T : Txt K mg) : Fun K "grown" "Book.grown" s_Book_grown (He.fAd K ("Counts", some "grown")) (CwH.fdOf K ("Counts", some "grown")) := CwH.fun_of (T.d.def_ 40 rfl)
theorem Txt.b_Counts_grown (T : Txt K mg) : Binds K (CwH.fdOf K ("Counts", some "grown")) ["self", "line", "root"] [] := (T.f_Counts_grown).binds fun _ _ _ _ _ _ us hl => match us, hl with | [_, _, _], _ => rfl
theorem Txt.f_Counts_made (T : Txt K mg) : Fun K "made" "Book.made" s_Book_made (He.fAd K ("Counts", some "made")) (CwH.fdOf K ("Counts", some "made")) := CwH.fun_of (T.d.def_ 41 rfl)
theorem Txt.b_Counts_made (T : Txt K mg) : Binds K (CwH.fdOf K ("Counts", some "made")) ["self", "line", "stamp"] [] := (T.f_Counts_made).binds fun _ _ _ _ _ _ us hl => match us, hl with | [_, _, _], _ => rfl
theorem Txt.f_Counts_unmade (T : Txt K mg) : Fun K "unmade" "Book.unmade" s_Book_unmade (He.fAd K ("Counts", some "unmade")) (CwH.fdOf K ("Counts", some "unmade")) := CwH.fun_of (T.d.def_ 42 rfl)
theorem Txt.b_Counts_unmade (T : Txt K mg) : Binds K (CwH.fdOf K ("Counts", some "unmade")) ["self", "line", "stamp"] [] := (T.f_Counts_unmade).binds fun _ _ _ _ _ _ us hl => match us, hl with | [_, _, _], _ => rfl
theorem Txt.f_Counts_ended (T : Txt K mg) : Fun K "ended" "Book.ended" s_Book_ended (He.fAd K ("Counts", some "ended")) (CwH.fdOf K ("Counts", some "ended")) := CwH.fun_of (T.d.def_ 43 rfl)
theorem Txt.b_Counts_ended (T : Txt K mg) : Binds K (CwH.fdOf K ("Counts", some "ended")) ["self", "line"] [] := (T.f_Counts_ended).binds fun _ _ _ _ _ _ us hl => match us, hl with | [_, _], _ => rfl
theorem Txt.f_Counts_stood (T : Txt K mg) : Fun K "stood" "Book.stood" s_Book_stood (He.fAd K ("Counts", some "stood")) (CwH.fdOf K ("Counts", some "stood")) := CwH.fun_of (T.d.def_ 44 rfl)
theorem Txt.b_Counts_stood (T : Txt K mg) : Binds K (CwH.fdOf K ("Counts", some "stood")) ["self", "line", "base", "makes", "root"] [] := (T.f_Counts_stood).binds fun _ _ _ _ _ _ us hl => match us, hl with | [_, _, _, _, _], _ => rfl
theorem Txt.cf_Book___init__ (T : Txt K mg) : CwH.CFun K (He.ga K "Book") "__init__" (He.fAd K ("Book", some "__init__")) := CwH.clsB_ok (T.more)
end

end K31

namespace K31
open PySem PySem.Spec PyProof.Rows L2 CwR
section
variable {P : Program} {w : World} {K : PySem.W.Frag} {mg : Str → Option Value} {base : Heap}
abbrev aS (K : PySem.W.Frag) : Addr := He.ga K "Strand"
abbrev aC (K : PySem.W.Frag) : Addr := He.ga K "Counts"
/-! ### Strand(base, makes, root) -/
theorem sc_Strand___init__ : FnScope ["self", "base", "makes", "root"] ["self", "base", "makes", "root"] (defScope s_Strand___init__) := ⟨rfl, rfl, rfl, by decide +kernel, rfl, by decide +kernel, by decide +kernel⟩
def strF (b m r : V) : List (Str × V) := [("base", b), ("makes", m), ("root", r)]
theorem strF_new (b m r : V) : putF "root" r (putF "makes" m (putF "base" b [])) = strF b m r := by
  have h1 : ¬ (("base" : Str) = "makes") := by decide +kernel
  have h2 : ¬ (("base" : Str) = "root") := by decide +kernel
  have h3 : ¬ (("makes" : Str) = "root") := by decide +kernel
  simp only [putF, h1, h2, h3, if_false, if_true, strF]
def spStrand (K : PySem.W.Frag) : Sp := fun vs H Q _ => ∃ (x dx : Addr) (b m r : V), vs = [.ref x, b, m, r] ∧ H x = some (.ins (aS K) dx []) ∧ Q .non (upd H x (.ins (aS K) dx (strF b m r)))
theorem ok_Strand___init__ (T : Txt K mg) : FnOk P w K mg base CX0 1 (He.fAd K ("Strand", some "__init__")) (CwH.fdOf K ("Strand", some "__init__")) ["self", "base", "makes", "root"] (spStrand K) := by
  refine T.f_Strand___init__.ok sc_Strand___init__ (fun vs H Q E h => ?_) (fun cdv A outer s H vs Q E hr h => ?_)
  · obtain ⟨x, dx, b, m, r, rfl, _⟩ := h
    rfl
  · obtain ⟨x, dx, b, m, r, rfl, hx, q⟩ := h
    refine ⟨_, (pss_cons (ps_fld (pv 0) (pv 1) rfl)
 (pss_cons (ps_fld (pv 0) (pv 2) rfl)
 (pss_one (ps_fld (pv 0) (pv 3) rfl)))), ?_⟩
    refine ⟨_, rfl, _, rfl, x, aS K, dx, [], rfl, hx, T.c_Strand, T.n_Strand_base, (by show 0 < 1000; decide), ?_⟩
    refine ⟨_, rfl, _, rfl, x, aS K, dx, _, rfl, upd_same, T.c_Strand, T.n_Strand_makes, (by show 1 < 1000; decide), ?_⟩
    refine ⟨_, rfl, _, rfl, x, aS K, dx, _, rfl, upd_same, T.c_Strand, T.n_Strand_root, (by show 2 < 1000; decide), ?_⟩
    rw [upd_upd, upd_upd, strF_new]
    exact q
end
end K31

namespace K31
open PySem PySem.Spec PyProof.Rows L2 CwR NdefX LamX
section
variable {P : Program} {w : World} {K : PySem.W.Frag} {mg : Str → Option Value} {base : Heap}
/-! ### the made functions of _law_book -/
abbrev s__law_points : Stmt := (defBody s__law_book).getD 0 (.Pass ⟨0, 0, 0, 0⟩)
abbrev s__law_born : Stmt := (defBody s__law_book).getD 1 (.Pass ⟨0, 0, 0, 0⟩)
abbrev q_points : Str := "_law_book.<locals>._law_points"
abbrev q_born : Str := "_law_book.<locals>._law_born"
theorem ns_points : NScope ["_law_place", "_law_pieces"] ["_law_place"] ["_law_pieces"] (C8.fnScope s__law_points) := nscope_by (by decide +kernel)
/-- list(pieces[place][1]) -/
def spPoints : List (Option V) → Sp := fun ws vs H Q _ => ∃ (P : Addr) (kvs : List (Key × V)) (i st : Int) (t l : Addr) (pts : List V), ws = [some (.ref P)] ∧ vs = [.int i] ∧ H P = some (.dK kvs) ∧ valV kvs (.inl i) = some (.ref t) ∧ H t = some (.tup [.int st, .ref l]) ∧ H l = some (.lst pts) ∧
  ∀ p, H p = none → Q (.ref p) (upd H p (.lst pts))
theorem ok__law_points (T : Txt K mg) (f : Addr) (cl : List (Str × Addr)) (cc : Addr) : NOk P w K mg base CX0 1 f (NF.of s__law_points "_law_points" q_points cl cc) ["_law_place"] ["_law_pieces"] spPoints := by
  refine nok_of (N := ["_law_place", "_law_pieces"]) ns_points (fun doc pm ctv us hl => match us, hl with | [_], _ => rfl) (fun ws vs H Q E h => ?_) (fun A outer s H vs ws Q E hr hf hc hl h => ?_)
  · obtain ⟨_, _, _, _, _, _, _, _, rfl, _⟩ := h
    rfl
  · obtain ⟨Pa, kvs, i, st, t, l, pts, rfl, rfl, hP, hv, ht, hL, q⟩ := h
    have hu := hu_of hr
    refine ⟨_, PSs.nox (pss_one (ps_ret (pe_callTy call_list_of (by rfl) T.free_list (by decide +kernel) (pa_cons (pe_ix ix_tup (pe_dget hu (pv 1) (pv 0) (fun _ _ => rfl)) pe_int (fun _ _ => rfl)) pa_nil)))), ?_⟩
    refine ⟨_, rfl, _, rfl, Pa, .ref t, rfl, ?_, t, _, 1, .ref l, rfl, rfl, SqT.of ht, rfl, l, pts, rfl, Or.inl (SqL.of hL), q⟩
    have z := DGet.k (k := (Sum.inl i : Key)) hP
    rw [hv] at z
    exact z
end
end K31

namespace K31
open PySem PySem.Spec PyProof.Rows L2 CwR NdefX LamX
open Cw (Pc pts Good Coming Going inc dec total nodup_len)
/-- the pieces' dict at P; no list of W is one of its lists of points -/
structure PcAt (W : List Addr) (H : Hp) (P : Addr) (kvs : DK) (pc : Pc) : Prop where
  dict : H P = some (.dK kvs)
  get : ∀ q b l, pc q = some (b, l) → ∃ t a, valV kvs (.inl q) = some (.ref t) ∧ H t = some (.tup [.int b, .ref a]) ∧ H a = some (.lst (l.map V.int)) ∧ ¬ a ∈ W
theorem PcAt.kp {W S : List Addr} {H H' : Hp} {P : Addr} {kvs : DK} {pc : Pc} (h : PcAt W H P kvs pc) (k : Kp S H H') (hP : ¬ P ∈ S) (hS : ∀ c ∈ S, ∀ o, H c = some o → MutK o ∧ (∀ xs, o = .lst xs → c ∈ W)) : PcAt W H' P kvs pc := by
  refine ⟨k.get h.dict hP, fun q b l e => ?_⟩
  obtain ⟨t, a, h1, h2, h3, h4⟩ := h.get q b l e
  refine ⟨t, a, h1, k.still (fun c hc u hu => (hS c hc u hu).1) h2 (fun z => z), k.get h3 fun z => h4 ((hS a z _ h3).2 _ rfl), h4⟩
theorem PcAt.same {W : List Addr} {H H' : Hp} {P : Addr} {kvs : DK} {pc : Pc} (h : PcAt W H P kvs pc) (k : Same H H') : PcAt W H' P kvs pc :=
  h.kp (S := []) (fun b o e _ => k b o e) (by simp) (fun c z => nomatch z)
/-- a closed set of places that has all that is come to -/
structure Closed (pc : Pc) (U : List Int) : Prop where
  nd : U.Nodup
  there : ∀ q ∈ U, ∃ b l, pc q = some (b, l)
  sub : ∀ q ∈ U, ∀ p ∈ pts pc q, p ∈ U
  size : (U.map fun q => (pts pc q).length + 1).sum ≤ 10000
theorem Closed.rest0 {pc : Pc} {U : List Int} (h : Closed pc U) (known : List Int) : Cw.rest pc U known ≤ 10000 := by
  refine Nat.le_trans ?_ h.size
  unfold Cw.rest
  have : ∀ (l : List Int) (f : Int → Bool) (g : Int → Nat), ((l.filter f).map g).sum ≤ (l.map g).sum := by
    intro l f g
    induction l with
    | nil => exact Nat.le_refl _
    | cons a r ih =>
      rw [List.filter_cons]
      split
      · rw [List.map_cons, List.map_cons, List.sum_cons, List.sum_cons]
        omega
      · rw [List.map_cons, List.sum_cons]
        omega
  exact this _ _ _
theorem Closed.len {pc : Pc} {U : List Int} (h : Closed pc U) : U.length ≤ 10000 := by
  refine Nat.le_trans ?_ h.size
  induction U with
  | nil => exact Nat.zero_le _
  | cons a r ih =>
    have : ∀ l : List Int, l.length ≤ (l.map fun q => (pts pc q).length + 1).sum := by
      intro l
      induction l with
      | nil => exact Nat.le_refl _
      | cons b s ih =>
        rw [List.map_cons, List.sum_cons, List.length_cons]
        omega
    exact this _
section
variable {P : Program} {w : World} {K : PySem.W.Frag} {mg : Str → Option Value} {base : Heap}
/-- the call of what self.pointed holds -/
theorem points_call {W : List Addr} {H : Hp} {Q : VK} {f Pa : Addr} {kvs : DK} {pc : Pc} {q b : Int} {l : List Int} (M : Made H f s__law_points "_law_points" q_points ["_law_pieces"] [.ref Pa]) (hP : PcAt W H Pa kvs pc) (e : pc q = some (b, l))
    (k : ∀ p, H p = none → Q (.ref p) (upd H p (.lst (l.map V.int)))) : rMade s__law_points "_law_points" q_points ["_law_pieces"] spPoints (.ref f) [.int q] H Q := by
  refine ⟨f, [.ref Pa], rfl, M, fun cs hcs => ?_⟩
  obtain ⟨t, a, h1, h2, h3, _⟩ := hP.get q b l e
  refine ⟨Pa, kvs, q, b, t, a, l.map V.int, rfl, rfl, del_of hcs hP.dict (fun _ _ z => nomatch z), h1, del_of hcs h2 (fun _ _ z => nomatch z), del_of hcs h3 (fun _ _ z => nomatch z), fun p hp hn => ?_⟩
  have np : ¬ p ∈ cs := fun z => by
    have := hn p z
    rw [upd_same] at this
    cases this
  have hp' : H p = none := by
    rw [del_out np] at hp
    exact hp
  have e2 : re cs H (upd (del cs H) p (.lst (l.map V.int))) = upd H p (.lst (l.map V.int)) := by
    funext c
    by_cases z : c ∈ cs
    · rw [re_in z, upd_ne (fun e : c = p => np (e ▸ z))]
    · rw [re_out z]
      unfold upd
      split
      · rfl
      · exact del_out z
  rw [e2]
  exact k p hp'
theorem sc_Counts_root_comes : FnScope ["self", "root", "left", "place"] ["self", "root"] (defScope s_Counts_root_comes) := ⟨rfl, rfl, rfl, by decide +kernel, rfl, by decide +kernel, by decide +kernel⟩
/-- what a book's method that counts is told of the book: its fields, the pieces, the counts -/
structure CtAt (K : PySem.W.Frag) (W : List Addr) (H : Hp) (b : Addr) (U : List Int) (kvs : DK) (pc : Pc) (dom : List Int) (c : Int → Nat) (cD Pa : Addr) (cvs : DK) : Prop where
  ins : ∃ db fs fP, H b = some (.ins (aC K) db fs) ∧ fs.lookup ("pointed" : Str) = some (.ref fP) ∧ fs.lookup ("counts" : Str) = some (.ref cD) ∧ Made H fP s__law_points "_law_points" q_points ["_law_pieces"] [.ref Pa]
  cd : H cD = some (.dK cvs)
  cnt : Cnt cvs dom c
  pcs : PcAt W H Pa kvs pc
  ne : Pa ≠ cD
  cl : Closed pc U
  sub : ∀ q ∈ dom, q ∈ U
def spRootComes (K : PySem.W.Frag) : Sp := fun vs H Q _ => ∃ (W : List Addr) (b : Addr) (r : Int) (U : List Int) (kvs : DK) (pc : Pc) (heads dom : List Int) (c : Int → Nat) (cD Pa : Addr) (cvs : DK), vs = [.ref b, .int r] ∧ CtAt K W H b U kvs pc dom c cD Pa cvs ∧ Good pc heads dom c ∧ r ∈ U ∧
  ∀ H' cvs' dom' c', Kp [cD] H H' → CtAt K W H' b U kvs pc dom' c' cD Pa cvs' → Good pc (heads ++ [r]) dom' c' → (∀ q ∈ dom', q ∈ dom ∨ Cw.Rch pc [r] q) → Q .non H'
theorem CtAt.kp {W : List Addr} {H H' : Hp} {b : Addr} {U : List Int} {kvs cvs cvs' : DK} {pc : Pc} {dom dom' : List Int} {c c' : Int → Nat} {cD Pa : Addr} (h : CtAt K W H b U kvs pc dom c cD Pa cvs) (k : Kp [cD] H H') (cd : H' cD = some (.dK cvs')) (cnt : Cnt cvs' dom' c') (sub : ∀ q ∈ dom', q ∈ U) : CtAt K W H' b U kvs pc dom' c' cD Pa cvs' := by
  obtain ⟨db, fs, fP, h1, h2, h3, h4⟩ := h.ins
  have hm : ∀ c ∈ [cD], ∀ u, H c = some u → MutK u ∧ (∀ xs, u = .lst xs → c ∈ W) := fun c hc u hu => by
    obtain rfl : c = cD := by simpa using hc
    rw [h.cd] at hu
    cases hu
    exact ⟨True.intro, fun xs z => nomatch z⟩
  refine ⟨⟨db, fs, fP, k.get h1 (by simpa using ne_of h1 h.cd (by intro z; cases z)), h2, h3, h4.kp k fun c hc u hu => (hm c hc u hu).1⟩, cd, cnt, h.pcs.kp k (by simpa using h.ne) hm, h.ne, h.cl, sub⟩
/-- a list that is new is none of the pieces' -/
theorem PcAt.fresh {W : List Addr} {H : Hp} {Pa lf : Addr} {kvs : DK} {pc : Pc} (h : PcAt W H Pa kvs pc) (n : H lf = none) : PcAt (lf :: W) H Pa kvs pc := ⟨h.dict, fun q b l e => by
  obtain ⟨t, a, h1, h2, h3, h4⟩ := h.get q b l e
  refine ⟨t, a, h1, h2, h3, fun z => ?_⟩
  rcases List.mem_cons.mp z with z | z
  · rw [z, n] at h3
    cases h3
  · exact h4 z⟩
theorem PcAt.sub {W W' : List Addr} {H : Hp} {Pa : Addr} {kvs : DK} {pc : Pc} (h : PcAt W H Pa kvs pc) (s : ∀ a ∈ W', a ∈ W) : PcAt W' H Pa kvs pc := ⟨h.dict, fun q b l e => by
  obtain ⟨t, a, h1, h2, h3, h4⟩ := h.get q b l e
  exact ⟨t, a, h1, h2, h3, fun z => h4 (s a z)⟩⟩
section
variable {W : List Addr} {H : Hp} {b : Addr} {U : List Int} {kvs cvs : DK} {pc : Pc} {dom : List Int} {c : Int → Nat} {cD Pa lf : Addr}
theorem CtAt.fresh (h : CtAt K W H b U kvs pc dom c cD Pa cvs) (n : H lf = none) : CtAt K (lf :: W) H b U kvs pc dom c cD Pa cvs := ⟨h.ins, h.cd, h.cnt, h.pcs.fresh n, h.ne, h.cl, h.sub⟩
theorem CtAt.weak {W' : List Addr} (h : CtAt K W H b U kvs pc dom c cD Pa cvs) (s : ∀ a ∈ W', a ∈ W) : CtAt K W' H b U kvs pc dom c cD Pa cvs := ⟨h.ins, h.cd, h.cnt, h.pcs.sub s, h.ne, h.cl, h.sub⟩
theorem CtAt.kps {S : List Addr} {H' : Hp} (h : CtAt K W H b U kvs pc dom c cD Pa cvs) (k : Kp S H H') (hb : ¬ b ∈ S) (hc : ¬ cD ∈ S) (hP : ¬ Pa ∈ S) (hS : ∀ c ∈ S, ∀ o, H c = some o → MutK o ∧ (∀ xs, o = .lst xs → c ∈ W)) : CtAt K W H' b U kvs pc dom c cD Pa cvs := by
  obtain ⟨db, fs, fP, h1, h2, h3, h4⟩ := h.ins
  exact ⟨⟨db, fs, fP, k.get h1 hb, h2, h3, h4.kp k fun c z o e => (hS c z o e).1⟩, k.get h.cd hc, h.cnt, h.pcs.kp k hP hS, h.ne, h.cl, h.sub⟩
theorem CtAt.same {H' : Hp} (h : CtAt K W H b U kvs pc dom c cD Pa cvs) (k : Same H H') : CtAt K W H' b U kvs pc dom c cD Pa cvs := h.kps (S := []) (fun b o e _ => k b o e) (by simp) (by simp) (by simp) (fun c z => nomatch z)
/-- a list of the method's own changes -/
theorem CtAt.lput {xs ys : List V} (h : CtAt K W H b U kvs pc dom c cD Pa cvs) (hl : H lf = some (.lst xs)) (hw : lf ∈ W) : CtAt K W (upd H lf (.lst ys)) b U kvs pc dom c cD Pa cvs := by
  obtain ⟨db, fs, fP, h1, _⟩ := h.ins
  refine h.kps (S := [lf]) ((Kp.refl _ _).put (.inl (by simp))) (by simpa using ne_of h1 hl (by intro z; cases z)) (by simpa using ne_of h.cd hl (by intro z; cases z)) (by simpa using ne_of h.pcs.dict hl (by intro z; cases z)) fun c hc o ho => ?_
  obtain rfl : c = lf := by simpa using hc
  rw [hl] at ho
  cases ho
  exact ⟨True.intro, fun _ _ => hw⟩
/-- the counts change -/
theorem CtAt.cput {cvs' : DK} {dom' : List Int} {c' : Int → Nat} (h : CtAt K W H b U kvs pc dom c cD Pa cvs) (cnt : Cnt cvs' dom' c') (sub : ∀ q ∈ dom', q ∈ U) : CtAt K W (upd H cD (.dK cvs')) b U kvs pc dom' c' cD Pa cvs' := h.kp ((Kp.refl _ _).put (.inl (by simp))) upd_same cnt sub
end
theorem ok_Counts_root_comes (T : Txt K mg) : FnOk P w K mg base CX0 2 (He.fAd K ("Counts", some "root_comes")) (CwH.fdOf K ("Counts", some "root_comes")) ["self", "root"] (spRootComes K) := by
  refine T.f_Counts_root_comes.ok sc_Counts_root_comes (fun vs H Q E h => ?_) (fun cdv A outer s H vs Q E hr h => ?_)
  · obtain ⟨_, _, _, _, _, _, _, _, _, _, _, _, rfl, _⟩ := h
    rfl
  · obtain ⟨W, b, r, U, kvs, pc, heads, dom, c, cD, Pa, cvs, rfl, B, G, hrU, k⟩ := h
    have hu := hu_of hr
    refine ⟨_, (pss_cons (ps_set (i := 2) sc_Counts_root_comes.nd rfl (by first | exact Or.inl rfl | exact Or.inr rfl) (pe_lst (pa_cons (pv 1) pa_nil)))
 (pss_one (ps_while PassesOwn.never (pt_cmpR (op_neD hr.units) (pv 2) (pe_lst pa_nil) (nomark _)) (pss_cons (ps_set (i := 3) sc_Counts_root_comes.nd rfl (by first | exact Or.inl rfl | exact Or.inr rfl) (pe_bm0 PySem.F.plainAttrs_list PySem.F.slot_list_pop PySem.F.type_list_pop mt_pop (pv 2)))
 (pss_cons (ps_if (pt_cmp (pc_dnotin hu (pv 3) (pe_fld (pv 0) rfl))) (pss_cons (ps_dput hu (pe_fld (pv 0) rfl) (pv 3) pe_int rfl)
 (pss_one (ps_expr (pe_bm PySem.F.plainAttrs_list PySem.F.slot_list_extend PySem.F.type_list_extend mt_extend (pv 2) (pa_cons (CwR.pe_fldMade (pv 0) T.c_Counts T.n_Counts_pointed (fun f cl cc => ok__law_points T f cl cc) (hr.mono (by decide)) (pa_cons (pv 3) pa_nil)) pa_nil))))) pss_nil)
 (pss_one (ps_daug hu (pe_fld (pv 0) rfl) (pv 3) pe_int in_add (fun _ _ _ => rfl)))))))), ?_⟩
    refine ⟨_, rfl, (by show 1 ≤ sizeLine; decide), fun lf hlf => ?_⟩
    refine ⟨fun m σ H' => ∃ (l dom' : List Int) (c' : Int → Nat) (cvs' : DK) (v3 : Option V), σ = [some (.ref b), some (.int r), some (.ref lf), v3] ∧ Kp [cD] H H' ∧ CtAt K (lf :: W) H' b U kvs pc dom' c' cD Pa cvs' ∧ H' lf = some (.lst (l.map V.int)) ∧
      Coming pc (heads ++ [r]) dom' l c' ∧ (∀ q ∈ l, q ∈ U) ∧ (∀ q ∈ l, Cw.Rch pc [r] q) ∧ (∀ q ∈ dom', q ∈ dom ∨ Cw.Rch pc [r] q) ∧ l.length + Cw.rest pc U dom' ≤ 10001 ∧ m = Cw.rest pc U dom' + l.length, ⟨_, [r], dom, c, cvs, none, rfl, (Kp.refl _ _).new hlf, (B.fresh hlf).same (same_new hlf), upd_same, Coming.start G r, by simpa using hrU, fun q hq => .root hq, fun q hq => .inl hq, by have := B.cl.rest0 dom; simp only [List.length_singleton]; omega, rfl⟩, ?_⟩
    rintro m σ H1 ⟨l, dom1, c1, cvs1, v3, rfl, kp1, B1, hl1, C1, hlU, hlR, hdR, hlen, rfl⟩
    refine t_neNil (xs := l) rfl hl1 fun p2 hp2 => ?_
    rcases snoc_cases l with rfl | ⟨l', q, rfl⟩
    · refine iteF ?_
      exact k _ cvs1 dom1 c1 (kp1.new hp2) ((B1.same (same_new hp2)).weak fun a z => List.mem_cons_of_mem _ z) C1.done hdR
    · rw [if_pos (by simp)]
      refine ⟨_, fun _ _ n => n, ?_⟩
      have hqU : q ∈ U := hlU q (by simp)
      obtain ⟨bq, lq, epc⟩ := B1.cl.there q hqU
      have epts : pts pc q = lq := Cw.pts_some epc
      have hlc : lf ≠ cD := ne_of hl1 B1.cd (by intro z; cases z)
      have s2 : Same H1 (upd H1 p2 (.lst [])) := same_new hp2
      have kp2 : Kp [cD] H (upd H1 p2 (.lst [])) := kp1.new hp2
      have B2 := B1.same s2
      have hl2 := s2 _ _ hl1
      generalize upd H1 p2 (.lst []) = H2 at B2 hl2 kp2 ⊢
      have hdl : dom1.length ≤ U.length := nodup_len C1.nd B1.sub
      have hUl := B1.cl.len
      have hr0 := B1.cl.rest0 dom1
      have hlm : lf ∈ lf :: W := List.mem_cons_self
      -- place = left.pop()
      refine ⟨_, rfl, .inl ⟨rfl, _, SqL.of hl2⟩, lf, _, .int q, rfl, rfl, hl2, last_map l' q, ?_⟩
      rw [drop_map]
      have kp3 : Kp [cD] H (upd H2 lf (.lst (l'.map V.int))) := kp2.put (.inr hlf)
      have B3 := B2.lput (ys := l'.map V.int) hl2 hlm
      have hl3 : upd H2 lf (.lst (l'.map V.int)) lf = some (.lst (l'.map V.int)) := upd_same
      generalize upd H2 lf (.lst (l'.map V.int)) = H3 at B3 hl3 kp3 ⊢
      obtain ⟨db, fs, fP, h1, hfp, hfc, hM⟩ := B3.ins
      -- if place not in self.counts
      refine ⟨_, rfl, _, rfl, b, aC K, db, fs, .ref cD, rfl, h1, T.c_Counts, T.n_Counts_counts, hfc, cD, _, rfl, DGet.k (k := Sum.inl q) B3.cd, _, rfl, ?_⟩
      rw [B3.cnt.keys.isSome]
      have hinc : ∀ p, p ≠ q → inc c1 q p = c1 p := fun p hp => if_neg hp
      have hincq : inc c1 q q = c1 q + 1 := if_pos rfl
      have hlen3 : cvs1.length = dom1.length := B3.cnt.keys.len
      by_cases hq : q ∈ dom1
      · rw [decide_eq_true hq]
        refine iteF ?_
        -- self.counts[place] += 1
        have hv := B3.cnt.val q hq
        have hg : DGet H3 cD (.int q) (some (.int (c1 q))) := by
          rw [← hv]
          exact DGet.k (k := Sum.inl q) B3.cd
        refine ⟨_, rfl, b, aC K, db, fs, .ref cD, rfl, h1, T.c_Counts, T.n_Counts_counts, hfc, _, rfl, cD, .int (c1 q), rfl, hg, _, _, rfl, rfl, _, DPut.k (k := Sum.inl q) B3.cd (small1000' (by omega)), ?_⟩
        have cn : Cnt (putK cvs1 (.inl q) (.int ((c1 q : Int) + 1))) dom1 (inc c1 q) := B3.cnt.set hq (by rw [hincq]; rfl) hinc
        exact ⟨_, by rw [List.length_append, List.length_singleton]; exact Nat.lt_succ_self _, l', dom1, inc c1 q, _, _, rfl, kp3.put (.inl (by simp)), B3.cput cn B3.sub, by rw [upd_ne hlc]; exact hl3, C1.old hq, fun p hp => hlU p (List.mem_append_left _ hp), fun p hp => hlR p (List.mem_append_left _ hp), hdR, by rw [List.length_append, List.length_singleton] at hlen; omega, rfl⟩
      · rw [decide_eq_false hq]
        refine iteT ?_
        -- self.counts[place] = 0
        refine ⟨_, rfl, b, aC K, db, fs, .ref cD, rfl, h1, T.c_Counts, T.n_Counts_counts, hfc, _, rfl, cD, _, rfl, DPut.k (k := Sum.inl q) B3.cd (small1000' (by omega)), ?_⟩
        have cn4 : Cnt (putK cvs1 (.inl q) (.int 0)) (dom1 ++ [q]) (fun p => if p = q then 0 else c1 p) := B3.cnt.add hq (by rw [if_pos rfl]; rfl) fun p hp => if_neg hp
        have hsub4 : ∀ p ∈ dom1 ++ [q], p ∈ U := fun p hp => by
          rcases List.mem_append.mp hp with z | z
          · exact B3.sub p z
          · rw [List.mem_singleton.mp z]
            exact hqU
        have kp4 : Kp [cD] H (upd H3 cD (.dK (putK cvs1 (.inl q) (.int 0)))) := kp3.put (.inl (by simp))
        have B4 := B3.cput cn4 hsub4
        have hl4 : upd H3 cD (.dK (putK cvs1 (.inl q) (.int 0))) lf = some (.lst (l'.map V.int)) := by
          rw [upd_ne hlc]
          exact hl3
        generalize upd H3 cD (.dK (putK cvs1 (.inl q) (.int 0))) = H4 at B4 hl4 kp4 ⊢
        obtain ⟨db4, fs4, fP4, h41, hfp4, hfc4, hM4⟩ := B4.ins
        have hrs := Cw.rest_snoc (pc := pc) (U := U) (known := dom1) hqU B4.cl.nd hq
        have hlql : l'.length ≤ 20000 ∧ lq.length ≤ 10000 := by
          have z1 := B4.cl.rest0 dom1
          rw [epts] at hrs
          exact ⟨by have := hlen; simp at this; omega, by omega⟩
        -- left.extend(self.pointed(place))
        refine ⟨_, rfl, .inl ⟨rfl, _, SqL.of hl4⟩, _, rfl, b, db4, fs4, _, fP4, _, rfl, h41, hfp4, rfl, hM4, _, rfl, hM4, points_call hM4 B4.pcs epc fun p5 hp5 => ?_⟩
        have s5 : Same H4 (upd H4 p5 (.lst (lq.map V.int))) := same_new hp5
        have kp5 := kp4.new (o := .lst (lq.map V.int)) hp5
        have B5 := B4.same s5
        have hl5 := s5 _ _ hl4
        have hp5' : upd H4 p5 (.lst (lq.map V.int)) p5 = some (.lst (lq.map V.int)) := upd_same
        generalize upd H4 p5 (.lst (lq.map V.int)) = H5 at B5 hl5 kp5 hp5' ⊢
        refine ⟨lf, p5, _, _, rfl, rfl, hl5, hp5', by rw [List.length_map, List.length_map]; exact small1000'' (by omega), ?_⟩
        rw [← List.map_append]
        have kp6 : Kp [cD] H (upd H5 lf (.lst ((l' ++ lq).map V.int))) := kp5.put (.inr hlf)
        have B6 := B5.lput (ys := (l' ++ lq).map V.int) hl5 hlm
        have hl6 : upd H5 lf (.lst ((l' ++ lq).map V.int)) lf = some (.lst ((l' ++ lq).map V.int)) := upd_same
        generalize upd H5 lf (.lst ((l' ++ lq).map V.int)) = H6 at B6 hl6 kp6 ⊢
        -- self.counts[place] += 1
        have hq4 : q ∈ dom1 ++ [q] := by simp
        have hg : DGet H6 cD (.int q) (some (.int 0)) := by
          have hv := B6.cnt.val q hq4
          rw [if_pos rfl] at hv
          rw [show (V.int 0) = V.int ((0 : Nat) : Int) from rfl, ← hv]
          exact DGet.k (k := Sum.inl q) B6.cd
        obtain ⟨db6, fs6, fP6, h61, hfp6, hfc6, hM6⟩ := B6.ins
        have hlen6 := B6.cnt.keys.len
        refine ⟨_, rfl, b, aC K, db6, fs6, .ref cD, rfl, h61, T.c_Counts, T.n_Counts_counts, hfc6, _, rfl, cD, .int 0, rfl, hg, _, _, rfl, rfl, _, DPut.k (k := Sum.inl q) B6.cd (small1000' (by rw [hlen6, List.length_append, List.length_singleton]; omega)), ?_⟩
        have C7 := C1.new hq
        rw [epts] at C7
        have hc0 : c1 q = 0 := Nat.eq_zero_of_not_pos fun z => hq ((C1.mem q).mpr z)
        have cn : Cnt (putK (putK cvs1 (.inl q) (.int 0)) (.inl q) (.int ((0 : Int) + 1))) (dom1 ++ [q]) (inc c1 q) := B6.cnt.set hq4 (by rw [hincq, hc0]; rfl) fun p hp => by
          rw [hinc p hp, if_neg hp]
        refine ⟨_, ?_, l' ++ lq, dom1 ++ [q], inc c1 q, _, _, rfl, kp6.put (.inl (by simp)), B6.cput cn hsub4, by rw [upd_ne hlc]; exact hl6, C7, fun p hp => ?_, fun p hp => ?_, fun p hp => ?_, ?_, rfl⟩
        · rw [epts] at hrs
          rw [List.length_append, List.length_append, List.length_singleton]
          omega
        · rcases List.mem_append.mp hp with z | z
          · exact hlU p (List.mem_append_left _ z)
          · exact B6.cl.sub q hqU p (by rw [epts]; exact z)
        · rcases List.mem_append.mp hp with z | z
          · exact hlR p (List.mem_append_left _ z)
          · exact .step (hlR q (by simp)) (by rw [epts]; exact z)
        · rcases List.mem_append.mp hp with z | z
          · exact hdR p z
          · rw [List.mem_singleton.mp z]
            exact .inr (hlR q (by simp))
        · rw [epts] at hrs
          rw [List.length_append, List.length_singleton] at hlen
          rw [List.length_append]
          omega
end
end K31

namespace K31
open PySem PySem.Spec PyProof.Rows L2 CwR NdefX LamX
open Cw (Pc pts Good Coming Going inc dec total nodup_len)
section
variable {P : Program} {w : World} {K : PySem.W.Frag} {mg : Str → Option Value} {base : Heap}
theorem sc_Counts_let_go : FnScope ["self", "root", "freed", "left", "place"] ["self", "root"] (defScope s_Counts_let_go) := ⟨rfl, rfl, rfl, by decide +kernel, rfl, by decide +kernel, by decide +kernel⟩
def spLetGo (K : PySem.W.Frag) : Sp := fun vs H Q _ => ∃ (W : List Addr) (b : Addr) (r : Int) (U : List Int) (kvs : DK) (pc : Pc) (heads dom : List Int) (c : Int → Nat) (cD Pa : Addr) (cvs : DK), vs = [.ref b, .int r] ∧ CtAt K W H b U kvs pc dom c cD Pa cvs ∧ Good pc (heads ++ [r]) dom c ∧
  ∀ (H' : Hp) (cvs' : DK) (dom' : List Int) (c' : Int → Nat) (p : Addr) (freed : List Int), Kp [cD] H H' → CtAt K W H' b U kvs pc dom' c' cD Pa cvs' → Good pc heads dom' c' → H p = none → H' p = some (.lst (freed.map V.int)) → freed.Nodup → (∀ q, q ∈ freed ↔ q ∈ dom ∧ ¬ q ∈ dom') → (∀ q ∈ dom', q ∈ dom) → Q (.ref p) H'
theorem ok_Counts_let_go (T : Txt K mg) : FnOk P w K mg base CX0 2 (He.fAd K ("Counts", some "let_go")) (CwH.fdOf K ("Counts", some "let_go")) ["self", "root"] (spLetGo K) := by
  refine T.f_Counts_let_go.ok sc_Counts_let_go (fun vs H Q E h => ?_) (fun cdv A outer s H vs Q E hr h => ?_)
  · obtain ⟨_, _, _, _, _, _, _, _, _, _, _, _, rfl, _⟩ := h
    rfl
  · obtain ⟨W, b, r, U, kvs, pc, heads, dom, c, cD, Pa, cvs, rfl, B, G, k⟩ := h
    have hu := hu_of hr
    refine ⟨_, (pss_cons (ps_set (i := 2) sc_Counts_let_go.nd rfl (by first | exact Or.inl rfl | exact Or.inr rfl) (pe_lst pa_nil))
 (pss_cons (ps_set (i := 3) sc_Counts_let_go.nd rfl (by first | exact Or.inl rfl | exact Or.inr rfl) (pe_lst (pa_cons (pv 1) pa_nil)))
 (pss_cons (ps_while PassesOwn.never (pt_cmpR (op_neD hr.units) (pv 3) (pe_lst pa_nil) (nomark _)) (pss_cons (ps_set (i := 4) sc_Counts_let_go.nd rfl (by first | exact Or.inl rfl | exact Or.inr rfl) (pe_bm0 PySem.F.plainAttrs_list PySem.F.slot_list_pop PySem.F.type_list_pop mt_pop (pv 3)))
 (pss_cons (ps_daug hu (pe_fld (pv 0) rfl) (pv 4) pe_int in_sub (fun _ _ _ => rfl))
 (pss_one (ps_if (pt_cmpR op_eq (pe_dget hu (pe_fld (pv 0) rfl) (pv 4) (fun _ _ => rfl)) pe_int (nomark _)) (pss_cons (ps_expr (pe_dpop1 (pe_fld (pv 0) rfl) (pv 4) (by exact ⟨rfl, rfl, rfl, rfl⟩)))
 (pss_cons (ps_expr (pe_bm PySem.F.plainAttrs_list PySem.F.slot_list_append PySem.F.type_list_append mt_append (pv 2) (pa_cons (pv 4) pa_nil)))
 (pss_one (ps_expr (pe_bm PySem.F.plainAttrs_list PySem.F.slot_list_extend PySem.F.type_list_extend mt_extend (pv 3) (pa_cons (CwR.pe_fldMade (pv 0) T.c_Counts T.n_Counts_pointed (fun f cl cc => ok__law_points T f cl cc) (hr.mono (by decide)) (pa_cons (pv 4) pa_nil)) pa_nil)))))) pss_nil)))))
 (pss_one (ps_ret (pv 2)))))), ?_⟩
    refine ⟨Nat.zero_le _, fun fr hfr => ?_⟩
    have kp0 : Kp [cD] H (upd H fr (.lst [])) := (Kp.refl _ _).new hfr
    have B0 := (B.fresh hfr).same (same_new (o := .lst []) hfr)
    have hf0 : upd H fr (.lst []) fr = some (.lst (([] : List Int).map V.int)) := upd_same
    refine ⟨_, rfl, (by show 1 ≤ sizeLine; decide), fun lf hlf => ?_⟩
    have nlf : lf ≠ fr := fun e => by
      rw [e, upd_same] at hlf
      cases hlf
    have hlf0 : H lf = none := by
      rw [upd_ne nlf] at hlf
      exact hlf
    generalize upd H fr (.lst []) = Hb at B0 hf0 kp0 hlf ⊢
    refine ⟨fun m σ H' => ∃ (l fl dom' : List Int) (c' : Int → Nat) (cvs' : DK) (v4 : Option V), σ = [some (.ref b), some (.int r), some (.ref fr), some (.ref lf), v4] ∧ Kp [cD] H H' ∧ CtAt K (lf :: fr :: W) H' b U kvs pc dom' c' cD Pa cvs' ∧ H' lf = some (.lst (l.map V.int)) ∧
      H' fr = some (.lst (fl.map V.int)) ∧ Going pc heads dom' l fl dom c' ∧ l.length + Cw.rest pc dom' [] ≤ Cw.rest pc dom [] + 1 ∧ m = total c' dom', ⟨_, [r], [], dom, c, cvs, none, rfl, kp0.new hlf, (B0.fresh hlf).same (same_new hlf), upd_same, by rw [upd_ne nlf.symm]; exact hf0, Going.start G, by simp only [List.length_singleton]; omega, rfl⟩, ?_⟩
    rintro m σ H1 ⟨l, fl, dom1, c1, cvs1, v4, rfl, kp1, B1, hl1, hf1, C1, hlen, rfl⟩
    refine t_neNil (xs := l) rfl hl1 fun p2 hp2 => ?_
    rcases snoc_cases l with rfl | ⟨l', q, rfl⟩
    · refine iteF ?_
      -- return freed
      refine ⟨_, rfl, ?_⟩
      exact k _ cvs1 dom1 c1 fr fl (kp1.new hp2) ((B1.same (same_new hp2)).weak fun a z => List.mem_cons_of_mem _ (List.mem_cons_of_mem _ z)) C1.done hfr (same_new hp2 _ _ hf1) C1.ndf C1.fr C1.sub
    · rw [if_pos (by simp)]
      refine ⟨_, fun _ _ n => n, ?_⟩
      obtain ⟨hq, hc1⟩ := C1.there
      have hqU : q ∈ U := B1.sub q hq
      obtain ⟨bq, lq, epc⟩ := B1.cl.there q hqU
      have epts : pts pc q = lq := Cw.pts_some epc
      have hlc : lf ≠ cD := ne_of hl1 B1.cd (by intro z; cases z)
      have hfc1 : fr ≠ cD := ne_of hf1 B1.cd (by intro z; cases z)
      have s2 : Same H1 (upd H1 p2 (.lst [])) := same_new hp2
      have kp2 : Kp [cD] H (upd H1 p2 (.lst [])) := kp1.new hp2
      have B2 := B1.same s2
      have hl2 := s2 _ _ hl1
      have hf2 := s2 _ _ hf1
      generalize upd H1 p2 (.lst []) = H2 at B2 hl2 hf2 kp2 ⊢
      have hdl : dom1.length ≤ U.length := nodup_len C1.nd B1.sub
      have hUl := B1.cl.len
      have hlm : lf ∈ lf :: fr :: W := List.mem_cons_self
      have hfm : fr ∈ lf :: fr :: W := List.mem_cons_of_mem _ List.mem_cons_self
      -- place = left.pop()
      refine ⟨_, rfl, .inl ⟨rfl, _, SqL.of hl2⟩, lf, _, .int q, rfl, rfl, hl2, last_map l' q, ?_⟩
      rw [drop_map]
      have kp3 : Kp [cD] H (upd H2 lf (.lst (l'.map V.int))) := kp2.put (.inr hlf0)
      have B3 := B2.lput (ys := l'.map V.int) hl2 hlm
      have hl3 : upd H2 lf (.lst (l'.map V.int)) lf = some (.lst (l'.map V.int)) := upd_same
      have hf3 : upd H2 lf (.lst (l'.map V.int)) fr = some (.lst (fl.map V.int)) := by
        rw [upd_ne nlf.symm]
        exact hf2
      generalize upd H2 lf (.lst (l'.map V.int)) = H3 at B3 hl3 hf3 kp3 ⊢
      obtain ⟨db, fs, fP, h1, hfp, hfc, hM⟩ := B3.ins
      have hdec : ∀ p, p ≠ q → dec c1 q p = c1 p := fun p hp => if_neg hp
      have hdecq : dec c1 q q = c1 q - 1 := if_pos rfl
      have hlen3 : cvs1.length = dom1.length := B3.cnt.keys.len
      -- self.counts[place] -= 1
      have hg : DGet H3 cD (.int q) (some (.int (c1 q))) := by
        rw [← B3.cnt.val q hq]
        exact DGet.k (k := Sum.inl q) B3.cd
      refine ⟨_, rfl, b, aC K, db, fs, .ref cD, rfl, h1, T.c_Counts, T.n_Counts_counts, hfc, _, rfl, cD, .int (c1 q), rfl, hg, _, _, rfl, rfl, _, DPut.k (k := Sum.inl q) B3.cd (small1000' (by omega)), ?_⟩
      have cn : Cnt (putK cvs1 (.inl q) (.int ((c1 q : Int) - 1))) dom1 (dec c1 q) := B3.cnt.set hq (by rw [hdecq]; omega) hdec
      have kp4 : Kp [cD] H (upd H3 cD (.dK (putK cvs1 (.inl q) (.int ((c1 q : Int) - 1))))) := kp3.put (.inl (by simp))
      have B4 := B3.cput cn B3.sub
      have hl4 : upd H3 cD (.dK (putK cvs1 (.inl q) (.int ((c1 q : Int) - 1)))) lf = some (.lst (l'.map V.int)) := by
        rw [upd_ne hlc]
        exact hl3
      have hf4 : upd H3 cD (.dK (putK cvs1 (.inl q) (.int ((c1 q : Int) - 1)))) fr = some (.lst (fl.map V.int)) := by
        rw [upd_ne hfc1]
        exact hf3
      generalize putK cvs1 (.inl q) (.int ((c1 q : Int) - 1)) = cvs4 at B4 hl4 hf4 kp4 cn ⊢
      generalize upd H3 cD (.dK cvs4) = H4 at B4 hl4 hf4 kp4 ⊢
      obtain ⟨db4, fs4, fP4, h41, hfp4, hfc4, hM4⟩ := B4.ins
      have tot := Cw.total_dec C1.nd hq hc1
      -- if self.counts[place] == 0
      have hg4 : DGet H4 cD (.int q) (some (.int (dec c1 q q))) := by
        rw [← B4.cnt.val q hq]
        exact DGet.k (k := Sum.inl q) B4.cd
      refine ⟨_, rfl, b, aC K, db4, fs4, .ref cD, rfl, h41, T.c_Counts, T.n_Counts_counts, hfc4, _, rfl, cD, .int (dec c1 q q), rfl, hg4, rfl, _, rfl, ?_⟩
      by_cases h0 : dec c1 q q = 0
      · rw [h0]
        refine iteT ?_
        have C5 := C1.goes h0
        rw [epts] at C5
        -- self.counts.pop(place)
        refine ⟨_, rfl, b, aC K, db4, fs4, .ref cD, rfl, h41, T.c_Counts, T.n_Counts_counts, hfc4, cD, rfl, Or.inl ⟨_, Rd.of B4.cd⟩, _, rfl, cvs4, Sum.inl q, _, B4.cd, rfl, B4.cnt.val q hq, ?_⟩
        have sub5 : ∀ p ∈ dom1.erase q, p ∈ U := fun p hp => B4.sub p (List.mem_of_mem_erase hp)
        have cn5 := B4.cnt.drop (q := q) C1.nd
        have kp5 : Kp [cD] H (upd H4 cD (.dK (dropK cvs4 (.inl q)))) := kp4.put (.inl (by simp))
        have B5 := B4.cput cn5 sub5
        have hl5 : upd H4 cD (.dK (dropK cvs4 (.inl q))) lf = some (.lst (l'.map V.int)) := by
          rw [upd_ne hlc]
          exact hl4
        have hf5 : upd H4 cD (.dK (dropK cvs4 (.inl q))) fr = some (.lst (fl.map V.int)) := by
          rw [upd_ne hfc1]
          exact hf4
        generalize upd H4 cD (.dK (dropK cvs4 (.inl q))) = H5 at B5 hl5 hf5 kp5 ⊢
        -- freed.append(place)
        have hfz : fl.length ≤ 10000 := Nat.le_trans (nodup_len C1.ndf fun p hp => (B.sub p ((C1.fr p).mp hp).1)) hUl
        refine ⟨_, rfl, .inl ⟨rfl, _, SqL.of hf5⟩, _, rfl, fr, _, _, rfl, rfl, hf5, by rw [List.length_map]; exact small1000' (by omega), ?_⟩
        rw [show fl.map V.int ++ [V.int q] = (fl ++ [q]).map V.int by rw [List.map_append]; rfl]
        have kp6 : Kp [cD] H (upd H5 fr (.lst ((fl ++ [q]).map V.int))) := kp5.put (.inr hfr)
        have B6 := B5.lput (ys := (fl ++ [q]).map V.int) hf5 hfm
        have hf6 : upd H5 fr (.lst ((fl ++ [q]).map V.int)) fr = some (.lst ((fl ++ [q]).map V.int)) := upd_same
        have hl6 : upd H5 fr (.lst ((fl ++ [q]).map V.int)) lf = some (.lst (l'.map V.int)) := by
          rw [upd_ne nlf]
          exact hl5
        generalize upd H5 fr (.lst ((fl ++ [q]).map V.int)) = H6 at B6 hl6 hf6 kp6 ⊢
        obtain ⟨db6, fs6, fP6, h61, hfp6, hfc6, hM6⟩ := B6.ins
        have hrs := Cw.rest_erase (pc := pc) hq
        have hlql : l'.length + lq.length ≤ 20002 := by
          have z1 := B6.cl.rest0 []
          have z2 := Cw.rest_le (pc := pc) C1.nd B1.sub
          have z3 := Cw.rest_le (pc := pc) G.nd B.sub
          rw [epts] at hrs
          rw [List.length_append, List.length_singleton] at hlen
          omega
        -- left.extend(self.pointed(place))
        refine ⟨_, rfl, .inl ⟨rfl, _, SqL.of hl6⟩, _, rfl, b, db6, fs6, _, fP6, _, rfl, h61, hfp6, rfl, hM6, _, rfl, hM6, points_call hM6 B6.pcs epc fun p7 hp7 => ?_⟩
        have s7 : Same H6 (upd H6 p7 (.lst (lq.map V.int))) := same_new hp7
        have kp7 := kp6.new (o := .lst (lq.map V.int)) hp7
        have B7 := B6.same s7
        have hl7 := s7 _ _ hl6
        have hf7 := s7 _ _ hf6
        have hp7' : upd H6 p7 (.lst (lq.map V.int)) p7 = some (.lst (lq.map V.int)) := upd_same
        generalize upd H6 p7 (.lst (lq.map V.int)) = H7 at B7 hl7 hf7 kp7 hp7' ⊢
        refine ⟨lf, p7, _, _, rfl, rfl, hl7, hp7', by rw [List.length_map, List.length_map]; exact small1000'' (by omega), ?_⟩
        rw [← List.map_append]
        refine ⟨_, ?_, l' ++ lq, fl ++ [q], dom1.erase q, dec c1 q, _, _, rfl, kp7.put (.inr hlf0), B7.lput (ys := (l' ++ lq).map V.int) hl7 hlm, upd_same, by rw [upd_ne nlf.symm]; exact hf7, C5, ?_, rfl⟩
        · have z := Cw.total_erase (c := dec c1 q) hq
          omega
        · rw [epts] at hrs
          rw [List.length_append, List.length_singleton] at hlen
          rw [List.length_append]
          omega
      · have hne : ¬ (V.int (dec c1 q q : Nat)) = V.int 0 := fun z => h0 (by have := V.int.inj z; omega)
        rw [decide_eq_false hne]
        refine iteF ?_
        refine ⟨_, ?_, l', fl, dom1, dec c1 q, _, _, rfl, kp4, B4, hl4, hf4, C1.stays h0, by rw [List.length_append, List.length_singleton] at hlen; omega, rfl⟩
        omega
end
end K31

namespace K31
open PySem PySem.Spec PyProof.Rows L2 CwR NdefX LamX
open Cw (Pc pts Good Coming Going inc dec total nodup_len)
/-! ### the book as it stands -/
/-- the book's addresses -/
structure Bk where
  b : Addr
  db : Addr
  fP : Addr
  fB : Addr
  SD : Addr
  sa : Addr
  sx : Addr
  mL : Addr
  cD : Addr
  Pa : Addr
def bkF (fP fB SD cD : Addr) : List (Str × V) := [("pointed", .ref fP), ("birth", .ref fB), ("strands", .ref SD), ("counts", .ref cD)]
def rtV : Option Int → V
  | none => .non
  | some r => .int r
abbrev Mks := List (Int × Int)
inductive MksV (H : Hp) : List V → Mks → Prop
  | nil : MksV H [] []
  | cons {p : Addr} {s r : Int} {ts : List V} {mk : Mks} : H p = some (.tup [.int s, .int r]) → MksV H ts mk → MksV H (.ref p :: ts) ((s, r) :: mk)
theorem MksV.still {H H' : Hp} {ts : List V} {mk : Mks} (h : MksV H ts mk) (k : ∀ p xs, H p = some (.tup xs) → H' p = some (.tup xs)) : MksV H' ts mk := by
  induction h with
  | nil => exact .nil
  | cons e _ ih => exact .cons (k _ _ e) ih
theorem MksV.len {H : Hp} {ts : List V} {mk : Mks} (h : MksV H ts mk) : ts.length = mk.length := by
  induction h with
  | nil => rfl
  | cons _ _ ih => rw [List.length_cons, List.length_cons, ih]
theorem MksV.app {H : Hp} {ts us : List V} {mk nk : Mks} (h : MksV H ts mk) (h' : MksV H us nk) : MksV H (ts ++ us) (mk ++ nk) := by
  induction h with
  | nil => exact h'
  | cons e _ ih => exact .cons e ih
theorem MksV.at_ {H : Hp} {ts : List V} {mk : Mks} (h : MksV H ts mk) : ∀ {i : Nat} {x : V}, ts[i]? = some x → ∃ p s r, x = .ref p ∧ mk[i]? = some (s, r) ∧ H p = some (.tup [.int s, .int r]) := by
  induction h with
  | nil => exact fun e => nomatch e
  | @cons p s r ts mk e _ ih =>
    intro i x hx
    cases i with
    | zero =>
      have : V.ref p = x := by simpa using hx
      exact ⟨p, s, r, this.symm, rfl, e⟩
    | succ j => exact ih (by simpa using hx)
theorem MksV.erase {H : Hp} {ts : List V} {mk : Mks} (h : MksV H ts mk) : ∀ (i : Nat), MksV H (ts.eraseIdx i) (mk.eraseIdx i) := by
  induction h with
  | nil => exact fun _ => .nil
  | cons e t ih =>
    intro i
    cases i with
    | zero => exact t
    | succ j => exact .cons e (ih j)
def MksAt (H : Hp) (a : Addr) (mk : Mks) : Prop := ∃ ts, H a = some (.lst ts) ∧ MksV H ts mk
theorem MksAt.kp {S : List Addr} {H H' : Hp} {a : Addr} {mk : Mks} (h : MksAt H a mk) (k : Kp S H H') (n : ¬ a ∈ S) (hs : ∀ c ∈ S, ∀ u, H c = some u → MutK u) : MksAt H' a mk := by
  obtain ⟨ts, h1, h2⟩ := h
  exact ⟨ts, k.get h1 n, h2.still fun p xs e => k.still hs e fun z => z⟩
section
variable {P : Program} {w : World} {K : PySem.W.Frag} {mg : Str → Option Value} {base : Heap}
structure BA (K : PySem.W.Frag) (W : List Addr) (H : Hp) (B : Bk) (U : List Int) (kvs : DK) (pc : Pc) (mk : Mks) (rt : Option Int) (dom : List Int) (c : Int → Nat) (cvs : DK) : Prop where
  ins : H B.b = some (.ins (aC K) B.db (bkF B.fP B.fB B.SD B.cD))
  sd : H B.SD = some (.dK [(.inl 1, .ref B.sa)])
  sa : H B.sa = some (.ins (aS K) B.sx (strF (.int 0) (.ref B.mL) (rtV rt)))
  mks : MksAt H B.mL mk
  ct : CtAt K W H B.b U kvs pc dom c B.cD B.Pa cvs
  ne : B.SD ≠ B.cD
  nb : B.b ≠ B.sa
  nP : B.Pa ≠ B.SD
  mW : B.mL ∈ W
section
variable {W : List Addr} {H H' : Hp} {B : Bk} {U : List Int} {kvs cvs : DK} {pc : Pc} {mk : Mks} {rt : Option Int} {dom : List Int} {c : Int → Nat}
theorem BA.lst (h : BA K W H B U kvs pc mk rt dom c cvs) : ∃ xs, H B.mL = some (.lst xs) := let ⟨ts, h1, _⟩ := h.mks; ⟨ts, h1⟩
theorem BA.kp {S : List Addr} (h : BA K W H B U kvs pc mk rt dom c cvs) (k : Kp S H H') (n : ∀ a ∈ [B.b, B.SD, B.sa, B.mL, B.cD, B.Pa], ¬ a ∈ S) (hS : ∀ c ∈ S, ∀ o, H c = some o → MutK o ∧ (∀ xs, o = .lst xs → c ∈ W)) : BA K W H' B U kvs pc mk rt dom c cvs :=
  ⟨k.get h.ins (n _ (by simp)), k.get h.sd (n _ (by simp)), k.get h.sa (n _ (by simp)), h.mks.kp k (n _ (by simp)) fun c hc u hu => (hS c hc u hu).1, h.ct.kps k (n _ (by simp)) (n _ (by simp)) (n _ (by simp)) hS, h.ne, h.nb, h.nP, h.mW⟩
theorem BA.same (h : BA K W H B U kvs pc mk rt dom c cvs) (k : Same H H') : BA K W H' B U kvs pc mk rt dom c cvs := h.kp (S := []) (fun b o e _ => k b o e) (by simp) (fun c z => nomatch z)
theorem BA.fresh {lf : Addr} (h : BA K W H B U kvs pc mk rt dom c cvs) (n : H lf = none) : BA K (lf :: W) H B U kvs pc mk rt dom c cvs := ⟨h.ins, h.sd, h.sa, h.mks, h.ct.fresh n, h.ne, h.nb, h.nP, List.mem_cons_of_mem _ h.mW⟩
theorem BA.weak {W' : List Addr} (h : BA K W H B U kvs pc mk rt dom c cvs) (s : ∀ a ∈ W', a ∈ W) (m : B.mL ∈ W') : BA K W' H B U kvs pc mk rt dom c cvs := ⟨h.ins, h.sd, h.sa, h.mks, h.ct.weak s, h.ne, h.nb, h.nP, m⟩
theorem BA.after {cvs' : DK} {dom' : List Int} {c' : Int → Nat} (h : BA K W H B U kvs pc mk rt dom c cvs) (k : Kp [B.cD] H H') (ct : CtAt K W H' B.b U kvs pc dom' c' B.cD B.Pa cvs') : BA K W H' B U kvs pc mk rt dom' c' cvs' := by
  have hc := h.ct.cd
  obtain ⟨xs, hm⟩ := h.lst
  exact ⟨k.get h.ins (by simpa using ne_of h.ins hc (by intro z; cases z)), k.get h.sd (by simpa using h.ne), k.get h.sa (by simpa using ne_of h.sa hc (by intro z; cases z)),
    h.mks.kp k (by simpa using ne_of hm hc (by intro z; cases z)) (fun c z u hu => by
      obtain rfl : c = B.cD := by simpa using z
      rw [hc] at hu
      cases hu
      trivial), ct, h.ne, h.nb, h.nP, h.mW⟩
theorem upd_kp (H : Hp) (a : Addr) (o : HO) : Kp [a] H (upd H a o) := (Kp.refl _ _).put (.inl (by simp))
theorem mut1 {H : Hp} {a : Addr} {o : HO} {W : List Addr} (h : H a = some o) (m : MutK o) (w : ∀ xs, o = .lst xs → a ∈ W) : ∀ c ∈ [a], ∀ u, H c = some u → MutK u ∧ (∀ xs, u = .lst xs → c ∈ W) := fun c z u hu => by
  obtain rfl : c = a := by simpa using z
  rw [h] at hu
  cases hu
  exact ⟨m, w⟩
/-- the strand's root is set -/
theorem BA.setroot (h : BA K W H B U kvs pc mk rt dom c cvs) (rt' : Option Int) : BA K W (upd H B.sa (.ins (aS K) B.sx (strF (.int 0) (.ref B.mL) (rtV rt')))) B U kvs pc mk rt' dom c cvs := by
  obtain ⟨xs, hm⟩ := h.lst
  have k := upd_kp H B.sa (.ins (aS K) B.sx (strF (.int 0) (.ref B.mL) (rtV rt')))
  have hS := mut1 (W := W) h.sa True.intro fun xs z => nomatch z
  exact ⟨k.get h.ins (by simpa using h.nb), k.get h.sd (by simpa using ne_of h.sd h.sa (by intro z; cases z)), upd_same, h.mks.kp k (by simpa using ne_of hm h.sa (by intro z; cases z)) fun c z u hu => (hS c z u hu).1,
    h.ct.kps k (by simpa using h.nb) (by simpa using ne_of h.ct.cd h.sa (by intro z; cases z)) (by simpa using ne_of h.ct.pcs.dict h.sa (by intro z; cases z)) hS, h.ne, h.nb, h.nP, h.mW⟩
/-- a list of the frame's own changes -/
theorem BA.lput {lf : Addr} {xs ys : List V} (h : BA K W H B U kvs pc mk rt dom c cvs) (hl : H lf = some (.lst xs)) (hw : lf ∈ W) (n : lf ≠ B.mL) : BA K W (upd H lf (.lst ys)) B U kvs pc mk rt dom c cvs := by
  refine h.kp (upd_kp H lf _) (fun a ha z => ?_) (mut1 hl True.intro fun _ _ => hw)
  obtain rfl : a = lf := by simpa using z
  rcases (by simpa using ha : a = B.b ∨ a = B.SD ∨ a = B.sa ∨ a = B.mL ∨ a = B.cD ∨ a = B.Pa) with e | e | e | e | e | e
  · exact ne_of h.ins hl (by intro z; cases z) e.symm
  · exact ne_of h.sd hl (by intro z; cases z) e.symm
  · exact ne_of h.sa hl (by intro z; cases z) e.symm
  · exact n e
  · exact ne_of h.ct.cd hl (by intro z; cases z) e.symm
  · exact ne_of h.ct.pcs.dict hl (by intro z; cases z) e.symm
/-- a make comes -/
theorem BA.append {ts : List V} {t : Addr} {s r : Int} (h : BA K W H B U kvs pc mk rt dom c cvs) (hl : H B.mL = some (.lst ts)) (hv : MksV H ts mk) (ht : H t = some (.tup [.int s, .int r])) : BA K W (upd H B.mL (.lst (ts ++ [.ref t]))) B U kvs pc (mk ++ [(s, r)]) rt dom c cvs := by
  have k := upd_kp H B.mL (.lst (ts ++ [.ref t]))
  have hS := mut1 (W := W) hl True.intro fun _ _ => h.mW
  refine ⟨k.get h.ins (by simpa using ne_of h.ins hl (by intro z; cases z)), k.get h.sd (by simpa using ne_of h.sd hl (by intro z; cases z)), k.get h.sa (by simpa using ne_of h.sa hl (by intro z; cases z)), ⟨_, upd_same, ?_⟩,
    h.ct.kps k (by simpa using ne_of h.ins hl (by intro z; cases z)) (by simpa using ne_of h.ct.cd hl (by intro z; cases z)) (by simpa using ne_of h.ct.pcs.dict hl (by intro z; cases z)) hS, h.ne, h.nb, h.nP, h.mW⟩
  refine (hv.app (.cons ht .nil)).still fun p xs e => k.still (fun c z u hu => (hS c z u hu).1) e fun z => z
/-- the makes are another list -/
theorem BA.remake {nl : Addr} {mk' : Mks} (h : BA K W H B U kvs pc mk rt dom c cvs) (hn : MksAt H nl mk') (hW : nl ∈ W) : BA K W (upd H B.sa (.ins (aS K) B.sx (strF (.int 0) (.ref nl) (rtV rt)))) { B with mL := nl } U kvs pc mk' rt dom c cvs := by
  obtain ⟨xs, hm, _⟩ := id hn
  have k := upd_kp H B.sa (.ins (aS K) B.sx (strF (.int 0) (.ref nl) (rtV rt)))
  have hS := mut1 (W := W) h.sa True.intro fun xs z => nomatch z
  exact ⟨k.get h.ins (by simpa using h.nb), k.get h.sd (by simpa using ne_of h.sd h.sa (by intro z; cases z)), upd_same, hn.kp k (by simpa using ne_of hm h.sa (by intro z; cases z)) fun c z u hu => (hS c z u hu).1,
    h.ct.kps k (by simpa using h.nb) (by simpa using ne_of h.ct.cd h.sa (by intro z; cases z)) (by simpa using ne_of h.ct.pcs.dict h.sa (by intro z; cases z)) hS, h.ne, h.nb, h.nP, hW⟩
end
/-! ### make_comes, growth_goes -/
theorem sc_Counts_make_comes : FnScope ["self", "line", "stamp", "root"] ["self", "line", "stamp", "root"] (defScope s_Counts_make_comes) := ⟨rfl, rfl, rfl, by decide +kernel, rfl, by decide +kernel, by decide +kernel⟩
def spMakeComes (K : PySem.W.Frag) : Sp := fun vs H Q E => ∃ (b db fP fB SD cD : Addr) (l s : V) (r : Int), vs = [.ref b, l, s, .int r] ∧ H b = some (.ins (aC K) db (bkF fP fB SD cD)) ∧ spRootComes K [.ref b, .int r] H (fun _ H' => Q .non H') E
theorem ok_Counts_make_comes (T : Txt K mg) : FnOk P w K mg base CX0 3 (He.fAd K ("Counts", some "make_comes")) (CwH.fdOf K ("Counts", some "make_comes")) ["self", "line", "stamp", "root"] (spMakeComes K) := by
  refine T.f_Counts_make_comes.ok sc_Counts_make_comes (fun vs H Q E h => ?_) (fun cdv A outer s H vs Q E hr h => ?_)
  · obtain ⟨_, _, _, _, _, _, _, _, _, rfl, _⟩ := h
    rfl
  · obtain ⟨b, db, fP, fB, SD, cD, l, s, r, rfl, hb, q⟩ := h
    refine ⟨_, (pss_one (ps_expr (pe_meth (pv 0) T.c_Counts T.m_Counts_root_comes (ok_Counts_root_comes T) (hr.mono (by decide)) T.b_Counts_root_comes .nil pass0 (pa_cons (pv 3) pa_nil)))), ?_⟩
    exact ⟨_, rfl, b, db, _, rfl, hb, rfl, _, rfl, q⟩
theorem sc_Counts_growth_goes : FnScope ["self", "line", "root"] ["self", "line", "root"] (defScope s_Counts_growth_goes) := ⟨rfl, rfl, rfl, by decide +kernel, rfl, by decide +kernel, by decide +kernel⟩
def spGrowthGoes (K : PySem.W.Frag) : Sp := fun vs H Q E => ∃ (B : Bk) (x : V) (r : Int), vs = [.ref B.b, .int 1, x] ∧ H B.b = some (.ins (aC K) B.db (bkF B.fP B.fB B.SD B.cD)) ∧ H B.SD = some (.dK [(.inl 1, .ref B.sa)]) ∧
  H B.sa = some (.ins (aS K) B.sx (strF (.int 0) (.ref B.mL) (rtV (some r)))) ∧ spLetGo K [.ref B.b, .int r] H Q E
theorem ok_Counts_growth_goes (T : Txt K mg) : FnOk P w K mg base CX0 3 (He.fAd K ("Counts", some "growth_goes")) (CwH.fdOf K ("Counts", some "growth_goes")) ["self", "line", "root"] (spGrowthGoes K) := by
  refine T.f_Counts_growth_goes.ok sc_Counts_growth_goes (fun vs H Q E h => ?_) (fun cdv A outer s H vs Q E hr h => ?_)
  · obtain ⟨_, _, _, rfl, _⟩ := h
    rfl
  · obtain ⟨B, x, r, rfl, hb, hs, ha, q⟩ := h
    have hu := hu_of hr
    refine ⟨_, (pss_one (ps_ret (pe_meth (pv 0) T.c_Counts T.m_Counts_let_go (ok_Counts_let_go T) (hr.mono (by decide)) T.b_Counts_let_go .nil pass0 (pa_cons (pe_fld (pe_dget hu (pe_fld (pv 0) rfl) (pv 1) (fun _ _ => rfl)) rfl) pa_nil)))), ?_⟩
    refine ⟨_, rfl, B.b, B.db, _, rfl, hb, rfl, ?_⟩
    have hg : DGet H B.SD (.int 1) (some (.ref B.sa)) := DGet.k (k := (Sum.inl 1 : Key)) hs
    exact ⟨_, rfl, B.b, aC K, B.db, _, .ref B.SD, rfl, hb, T.c_Counts, T.n_Counts_strands, rfl, _, rfl, B.SD, .ref B.sa, rfl, hg, B.sa, aS K, B.sx, _, .int r, rfl, ha, T.c_Strand, T.n_Strand_root, rfl, q⟩
end
end K31

namespace K31
open PySem PySem.Spec PyProof.Rows L2 CwR NdefX LamX
open Cw (Pc pts Good Coming Going inc dec total nodup_len)
section
variable {P : Program} {w : World} {K : PySem.W.Frag} {mg : Str → Option Value} {base : Heap}
theorem sc_Counts_make_goes : FnScope ["self", "line", "stamp", "other", "root"] ["self", "line", "stamp"] (defScope s_Counts_make_goes) := ⟨rfl, rfl, rfl, by decide +kernel, rfl, by decide +kernel, by decide +kernel⟩
def spMakeGoes (K : PySem.W.Frag) : Sp := fun vs H Q E => ∃ (B : Bk) (mk m1 m2 : Mks) (rt : Option Int) (s r : Int), vs = [.ref B.b, .int 1, .int s] ∧ H B.b = some (.ins (aC K) B.db (bkF B.fP B.fB B.SD B.cD)) ∧ H B.SD = some (.dK [(.inl 1, .ref B.sa)]) ∧
  H B.sa = some (.ins (aS K) B.sx (strF (.int 0) (.ref B.mL) (rtV rt))) ∧ MksAt H B.mL mk ∧ mk = m1 ++ (s, r) :: m2 ∧ (∀ m ∈ m1, m.1 ≠ s) ∧ spLetGo K [.ref B.b, .int r] H Q E
theorem ok_Counts_make_goes (T : Txt K mg) : FnOk P w K mg base CX0 3 (He.fAd K ("Counts", some "make_goes")) (CwH.fdOf K ("Counts", some "make_goes")) ["self", "line", "stamp"] (spMakeGoes K) := by
  refine T.f_Counts_make_goes.ok sc_Counts_make_goes (fun vs H Q E h => ?_) (fun cdv A outer s H vs Q E hr h => ?_)
  · obtain ⟨_, _, _, _, _, _, _, rfl, _⟩ := h
    rfl
  · obtain ⟨B, mk, m1, m2, rt, s, r, rfl, hb, hs, ha, ⟨ts, hl, hv⟩, emk, hm1, q⟩ := h
    have hu := hu_of hr
    refine ⟨_, (pss_cons (ps_for PassesOwn.never rfl (pi_list (pe_fld (pe_dget hu (pe_fld (pv 0) rfl) (pv 1) (fun _ _ => rfl)) rfl)) (show PG _ _ (gTup K 2 _) from pg_tup rfl (pgs_cons (pg_name (i := 3) sc_Counts_make_goes.nd rfl (by first | exact Or.inl rfl | exact Or.inr rfl)) (pgs_cons (pg_name (i := 4) sc_Counts_make_goes.nd rfl (by first | exact Or.inl rfl | exact Or.inr rfl)) pgs_nil)))
  (pss_one (ps_if (pt_cmpR op_eq (pv 3) (pv 2) (nomark _)) (pss_one (ps_ret (pe_meth (pv 0) T.c_Counts T.m_Counts_let_go (ok_Counts_let_go T) (hr.mono (by decide)) T.b_Counts_let_go .nil pass0 (pa_cons (pv 4) pa_nil)))) pss_nil)))
 (pss_one (ps_ret (pe_lst pa_nil)))), ?_⟩
    have hg : DGet H B.SD (.int 1) (some (.ref B.sa)) := DGet.k (k := (Sum.inl 1 : Key)) hs
    refine ⟨_, rfl, B.b, aC K, B.db, _, .ref B.SD, rfl, hb, T.c_Counts, T.n_Counts_strands, rfl, _, rfl, B.SD, .ref B.sa, rfl, hg, B.sa, aS K, B.sx, _, .ref B.mL, rfl, ha, T.c_Strand, T.n_Strand_makes, rfl, B.mL, rfl, ⟨ts, SqL.of hl⟩, ?_⟩
    refine for_list (xs := ts) (fun i σ H' => H' = H ∧ i ≤ m1.length ∧ ∃ v3 v4, σ = [some (.ref B.b), some (.int 1), some (.int s), v3, v4]) ⟨rfl, Nat.zero_le _, none, none, rfl⟩ (fun i σ H' _ e => by rw [e.1]; exact SqL.of hl) ?_ ?_
    · rintro i x σ H' hx ⟨rfl, hi, v3, v4, rfl⟩
      obtain ⟨p, s', r', rfl, hmi, hp⟩ := hv.at_ hx
      refine ⟨_, _, rfl, SqT.of hp, rfl, _, _, rfl, _, _, rfl, rfl, ?_⟩
      refine ⟨_, rfl, _, rfl, rfl, _, rfl, ?_⟩
      by_cases e : i < m1.length
      · have h2 : m1[i]? = some (s', r') := by
          rw [emk, List.getElem?_append_left e] at hmi
          exact hmi
        have n := hm1 _ (List.mem_of_getElem? h2)
        rw [decide_eq_false (fun z : V.int s' = V.int s => n (V.int.inj z))]
        exact iteF ⟨rfl, e, _, _, rfl⟩
      · have ei : i = m1.length := by omega
        subst ei
        rw [emk, List.getElem?_append_right (Nat.le_refl _)] at hmi
        have h3 : (s, r) = (s', r') := by simpa using hmi
        cases h3
        rw [decide_eq_true rfl]
        exact iteT ⟨_, rfl, B.b, B.db, _, rfl, hb, rfl, _, rfl, q⟩
    · rintro σ H' ⟨rfl, hi, v3, v4, rfl⟩
      exfalso
      rw [hv.len, emk, List.length_append, List.length_cons] at hi
      omega
/-! ### count, lies, lying -/
theorem sc_Counts_count : FnScope ["self", "place"] ["self", "place"] (defScope s_Counts_count) := ⟨rfl, rfl, rfl, by decide +kernel, rfl, by decide +kernel, by decide +kernel⟩
def spCount (K : PySem.W.Frag) : Sp := fun vs H Q _ => ∃ (W : List Addr) (b cD Pa : Addr) (U : List Int) (kvs cvs : DK) (pc : Pc) (dom : List Int) (c : Int → Nat) (p : Int), vs = [.ref b, .int p] ∧ CtAt K W H b U kvs pc dom c cD Pa cvs ∧ (∀ p, p ∈ dom ↔ 0 < c p) ∧ Q (.int (c p)) H
theorem ok_Counts_count (T : Txt K mg) : FnOk P w K mg base CX0 1 (He.fAd K ("Counts", some "count")) (CwH.fdOf K ("Counts", some "count")) ["self", "place"] (spCount K) := by
  refine T.f_Counts_count.ok sc_Counts_count (fun vs H Q E h => ?_) (fun cdv A outer s H vs Q E hr h => ?_)
  · obtain ⟨_, _, _, _, _, _, _, _, _, _, _, rfl, _⟩ := h
    rfl
  · obtain ⟨W, b, cD, Pa, U, kvs, cvs, pc, dom, c, p, rfl, B, hm, q⟩ := h
    have hu := hu_of hr
    obtain ⟨db, fs, fP, h1, hfp, hfc, hM⟩ := B.ins
    refine ⟨_, (pss_one (ps_ret (pe_dget2 hu (pe_fld (pv 0) rfl) (pv 1) pe_int (by exact ⟨rfl, rfl, rfl, rfl⟩)))), ?_⟩
    have hg : DGet H cD (.int p) (valV cvs (.inl p)) := DGet.k (k := (Sum.inl p : Key)) B.cd
    refine ⟨_, rfl, b, aC K, db, fs, .ref cD, rfl, h1, T.c_Counts, T.n_Counts_counts, hfc, cD, rfl, .inl ⟨_, Rd.of B.cd⟩, _, rfl, _, hg, ?_⟩
    by_cases e : p ∈ dom
    · rw [B.cnt.val p e]
      exact q
    · rw [B.cnt.keys.none_of e]
      have : c p = 0 := Nat.eq_zero_of_not_pos fun z => e ((hm p).mpr z)
      rw [this] at q
      exact q
theorem sc_Counts_lies : FnScope ["self", "place"] ["self", "place"] (defScope s_Counts_lies) := ⟨rfl, rfl, rfl, by decide +kernel, rfl, by decide +kernel, by decide +kernel⟩
def spLies (K : PySem.W.Frag) : Sp := fun vs H Q _ => ∃ (W : List Addr) (b cD Pa : Addr) (U : List Int) (kvs cvs : DK) (pc : Pc) (dom : List Int) (c : Int → Nat) (p : Int), vs = [.ref b, .int p] ∧ CtAt K W H b U kvs pc dom c cD Pa cvs ∧ Q (.bl (decide (p ∈ dom))) H
theorem ok_Counts_lies (T : Txt K mg) : FnOk P w K mg base CX0 1 (He.fAd K ("Counts", some "lies")) (CwH.fdOf K ("Counts", some "lies")) ["self", "place"] (spLies K) := by
  refine T.f_Counts_lies.ok sc_Counts_lies (fun vs H Q E h => ?_) (fun cdv A outer s H vs Q E hr h => ?_)
  · obtain ⟨_, _, _, _, _, _, _, _, _, _, _, rfl, _⟩ := h
    rfl
  · obtain ⟨W, b, cD, Pa, U, kvs, cvs, pc, dom, c, p, rfl, B, q⟩ := h
    have hu := hu_of hr
    obtain ⟨db, fs, fP, h1, hfp, hfc, hM⟩ := B.ins
    refine ⟨_, (pss_one (ps_ret (pe_cmp (pc_din hu (pv 1) (pe_fld (pv 0) rfl))))), ?_⟩
    refine ⟨_, rfl, _, rfl, b, aC K, db, fs, .ref cD, rfl, h1, T.c_Counts, T.n_Counts_counts, hfc, cD, _, rfl, DGet.k (k := (Sum.inl p : Key)) B.cd, ?_⟩
    rw [B.cnt.keys.isSome]
    exact q
theorem sc_Counts_lying : FnScope ["self"] ["self"] (defScope s_Counts_lying) := ⟨rfl, rfl, rfl, by decide +kernel, rfl, by decide +kernel, by decide +kernel⟩
def spLying (K : PySem.W.Frag) : Sp := fun vs H Q _ => ∃ (W : List Addr) (b cD Pa : Addr) (U : List Int) (kvs cvs : DK) (pc : Pc) (dom : List Int) (c : Int → Nat), vs = [.ref b] ∧ CtAt K W H b U kvs pc dom c cD Pa cvs ∧
  ∀ (ys : List Int) (p : Addr), ys.Perm dom → ys.Pairwise (· ≤ ·) → H p = none → Q (.ref p) (upd H p (.lst (ys.map V.int)))
theorem ok_Counts_lying (T : Txt K mg) : FnOk P w K mg base CX0 1 (He.fAd K ("Counts", some "lying")) (CwH.fdOf K ("Counts", some "lying")) ["self"] (spLying K) := by
  refine T.f_Counts_lying.ok sc_Counts_lying (fun vs H Q E h => ?_) (fun cdv A outer s H vs Q E hr h => ?_)
  · obtain ⟨_, _, _, _, _, _, _, _, _, _, rfl, _⟩ := h
    rfl
  · obtain ⟨W, b, cD, Pa, U, kvs, cvs, pc, dom, c, rfl, B, q⟩ := h
    obtain ⟨db, fs, fP, h1, hfp, hfc, hM⟩ := B.ins
    refine ⟨_, (pss_one (ps_ret (pe_callB (call_sortedD0 rfl) (by rfl) T.free_sorted (by decide +kernel) (pa_cons (pe_fld (pv 0) rfl) pa_nil)))), ?_⟩
    exact ⟨_, rfl, b, aC K, db, fs, .ref cD, rfl, h1, T.c_Counts, T.n_Counts_counts, hfc, cD, cvs, dom, rfl, Rd.of B.cd, B.cnt.keys, q⟩
end
end K31

namespace K31
open PySem PySem.Spec PyProof.Rows L2 CwR NdefX LamX
open Cw (Pc pts Good Coming Going inc dec total nodup_len)
section
variable {P : Program} {w : World} {K : PySem.W.Frag} {mg : Str → Option Value} {base : Heap}
theorem cxK {CX : CXT} {P : Program} {w : World} {K : PySem.W.Frag} {mg : Str → Option Value} {base : Heap} {N : List Str} {q : Str} {sc : Scope} {f : Addr} {cdv : Value} {A : Around} {outer : List Env} {s : Shared} {H : Hp} {E : XK} : (cxOf CX P w K mg base N q sc f cdv A outer s H E).nox.K = K := rfl
theorem cxK2 {CX : CXT} {P : Program} {w : World} {K : PySem.W.Frag} {mg : Str → Option Value} {base : Heap} {N : List Str} {q : Str} {sc : Scope} {f : Addr} {cdv : Value} {A : Around} {outer : List Env} {s : Shared} {H : Hp} {E : XK} : (cxOf CX P w K mg base N q sc f cdv A outer s H E).K = K := rfl
theorem sc_Book_begun : FnScope ["self", "line", "base", "root"] ["self", "line", "base", "root"] (defScope s_Book_begun) := ⟨rfl, rfl, rfl, by decide +kernel, rfl, by decide +kernel, by decide +kernel⟩
def spBegun (K : PySem.W.Frag) : Sp := fun vs H Q _ => ∃ (W : List Addr) (B : Bk) (U : List Int) (kvs : DK) (pc : Pc) (c : Int → Nat) (bs r : Int), vs = [.ref B.b, .int 1, .int 0, .int r] ∧ H B.b = some (.ins (aC K) B.db (bkF B.fP B.fB B.SD B.cD)) ∧ H B.SD = some (.dK []) ∧
  CtAt K W H B.b U kvs pc [] c B.cD B.Pa [] ∧ Good pc [] [] c ∧ r ∈ U ∧ B.SD ≠ B.cD ∧ B.Pa ≠ B.SD ∧
  ∀ (H' : Hp) (sa sx mL : Addr) (cvs' : DK) (dom' : List Int) (c' : Int → Nat), Kp [B.SD, B.cD] H H' → H sa = none → H mL = none → BA K (mL :: W) H' { B with sa := sa, sx := sx, mL := mL } U kvs pc [] (some r) dom' c' cvs' → Good pc [r] dom' c' → (∀ q ∈ dom', Cw.Rch pc [r] q) → Q .non H'
theorem ok_Counts_begun (T : Txt K mg) : FnOk P w K mg base CX0 3 (He.fAd K ("Counts", some "begun")) (CwH.fdOf K ("Counts", some "begun")) ["self", "line", "base", "root"] (spBegun K) := by
  refine T.f_Counts_begun.ok sc_Book_begun (fun vs H Q E h => ?_) (fun cdv A outer s H vs Q E hr h => ?_)
  · obtain ⟨_, _, _, _, _, _, _, _, rfl, _⟩ := h
    rfl
  · obtain ⟨W, B, U, kvs, pc, c, bs, r, rfl, hb, hs, ct, G, hrU, ne, nP, k⟩ := h
    have hu := hu_of hr
    refine ⟨_, (pss_cons (ps_dput hu (pe_fld (pv 0) rfl) (pv 1) (pe_make T.k_Strand (ok_Strand___init__ T) (hr.mono (by decide)) (by rfl) T.g_Strand T.b_Strand___init__ .nil pass0 (pa_cons (pv 2) (pa_cons (pe_lst pa_nil) (pa_cons (pv 3) pa_nil)))) rfl)
 (pss_one (ps_expr (pe_meth (pv 0) T.c_Counts T.m_Counts_root_comes (ok_Counts_root_comes T) (hr.mono (by decide)) T.b_Counts_root_comes .nil pass0 (pa_cons (pv 3) pa_nil))))), ?_⟩
    -- self.strands[line] = Strand(base, [], root)
    refine ⟨_, rfl, Nat.zero_le _, fun mL hmL => ⟨_, rfl, fun sa sx hsa hsx nsx => ⟨sa, sx, .int 0, .ref mL, .int r, rfl, upd_same, rfl, ?_⟩⟩⟩
    rw [upd_upd]
    have nms : mL ≠ sa := fun e => by rw [e, upd_same] at hsa; cases hsa
    have nmx : mL ≠ sx := fun e => by rw [e, upd_same] at hsx; cases hsx
    have hsa0 : H sa = none := by
      rw [upd_ne nms.symm] at hsa
      exact hsa
    have hsx0 : H sx = none := by
      rw [upd_ne nmx.symm] at hsx
      exact hsx
    have sm : Same H (upd (upd (upd H mL (.lst [])) sx (.own sa)) sa (.ins (aS K) sx (strF (.int 0) (.ref mL) (.int r)))) := fun b o e => by
      rw [upd_ne (ne_of_none e hsa0), upd_ne (ne_of_none e hsx0), upd_ne (ne_of_none e hmL)]
      exact e
    have hm1 : (upd (upd (upd H mL (.lst [])) sx (.own sa)) sa (.ins (aS K) sx (strF (.int 0) (.ref mL) (.int r)))) mL = some (.lst []) := by
      rw [upd_ne nms, upd_ne nmx, upd_same]
    have hs1 : (upd (upd (upd H mL (.lst [])) sx (.own sa)) sa (.ins (aS K) sx (strF (.int 0) (.ref mL) (.int r)))) sa = some (.ins (aS K) sx (strF (.int 0) (.ref mL) (.int r))) := upd_same
    simp only [cxK, cxK2]
    generalize (upd (upd (upd H mL (.lst [])) sx (.own sa)) sa (.ins (aS K) sx (strF (.int 0) (.ref mL) (.int r)))) = H1 at sm hm1 hs1 ⊢
    have hb1 := sm _ _ hb
    have hS1 := sm _ _ hs
    have ct1 := (ct.fresh hmL).same sm
    refine ⟨_, rfl, B.b, aC K, B.db, _, .ref B.SD, rfl, hb1, T.c_Counts, T.n_Counts_strands, rfl, _, rfl, B.SD, _, rfl, DPut.k (k := (Sum.inl 1 : Key)) hS1 (by show 0 < sizeLine; decide), ?_⟩
    rw [show putK ([] : DK) (.inl 1) (.ref sa) = [(.inl 1, .ref sa)] from rfl]
    have mS := mut1 (W := mL :: W) hS1 True.intro fun xs z => nomatch z
    have k2 := upd_kp H1 B.SD (.dK [(.inl 1, .ref sa)])
    have ct2 := ct1.kps k2 (by simpa using ne_of hb1 hS1 (by intro z; cases z)) (by simpa using ne.symm) (by simpa using nP) mS
    have hb2 := k2.get hb1 (by simpa using ne_of hb1 hS1 (by intro z; cases z))
    have hm2 := k2.get hm1 (by simpa using ne_of hm1 hS1 (by intro z; cases z))
    have hs2 := k2.get hs1 (by simpa using ne_of hs1 hS1 (by intro z; cases z))
    have hS2 : upd H1 B.SD (.dK [(.inl 1, .ref sa)]) B.SD = some (.dK [(.inl 1, .ref sa)]) := upd_same
    have kp2 : Kp [B.SD] H (upd H1 B.SD (.dK [(.inl 1, .ref sa)])) := (Kp.of_same sm).put (.inl (by simp))
    generalize upd H1 B.SD (.dK [(.inl 1, .ref sa)]) = H2 at ct2 hb2 hm2 hs2 hS2 kp2 ⊢
    have ba : BA K (mL :: W) H2 { B with sa := sa, sx := sx, mL := mL } U kvs pc [] (some r) [] c [] :=
      ⟨hb2, hS2, hs2, ⟨[], hm2, .nil⟩, ct2, ne, ne_of_none hb hsa0, nP, List.mem_cons_self⟩
    refine ⟨_, rfl, B.b, B.db, _, rfl, hb2, rfl, _, rfl, ?_⟩
    refine ⟨_, B.b, r, U, kvs, pc, [], [], c, B.cD, B.Pa, [], rfl, ct2, G, hrU, fun H' cvs' dom' c' k3 ct3 G3 R3 => ?_⟩
    exact k H' sa sx mL cvs' dom' c' ((kp2.wide (by simp)).trans (k3.wide (S' := [B.SD, B.cD]) (by simp)) fun c z => .inl z) hsa0 hmL (ba.after k3 ct3) G3 fun q hq => (R3 q hq).resolve_left fun z => nomatch z
theorem strF_root (b m r r' : V) : putF "root" r' (strF b m r) = strF b m r' := by
  have h2 : ¬ (("base" : Str) = "root") := by decide +kernel
  have h3 : ¬ (("makes" : Str) = "root") := by decide +kernel
  simp only [strF, putF, h2, h3, if_false, if_true]
theorem strF_makes (b m r m' : V) : putF "makes" m' (strF b m r) = strF b m' r := by
  have h2 : ¬ (("base" : Str) = "makes") := by decide +kernel
  simp only [strF, putF, h2, if_false, if_true]
theorem knone {S : List Addr} {H H' : Hp} {p : Addr} (k : Kp S H H') (hn : H' p = none) (hS : ∀ c ∈ S, H' c ≠ none) : H p = none := by
  cases e : H p with
  | none => rfl
  | some o =>
    rw [k p o e fun z => hS p z hn] at hn
    cases hn
/-! ### grown -/
theorem sc_Book_grown : FnScope ["self", "line", "root", "freed"] ["self", "line", "root"] (defScope s_Book_grown) := ⟨rfl, rfl, rfl, by decide +kernel, rfl, by decide +kernel, by decide +kernel⟩
def spGrown (K : PySem.W.Frag) : Sp := fun vs H Q _ => ∃ (W : List Addr) (B : Bk) (U : List Int) (kvs : DK) (pc : Pc) (mk : Mks) (r0 r : Int) (dom : List Int) (c : Int → Nat) (cvs : DK), vs = [.ref B.b, .int 1, .int r] ∧ BA K W H B U kvs pc mk (some r0) dom c cvs ∧ Good pc (mk.map (·.2) ++ [r0]) dom c ∧ r ∈ U ∧
  ∀ (H' : Hp) (cvs' : DK) (dom1 dom' : List Int) (c1 c' : Int → Nat) (p : Addr) (freed : List Int), Kp [B.cD, B.sa] H H' → BA K W H' B U kvs pc mk (some r) dom' c' cvs' → Good pc (mk.map (·.2) ++ [r0] ++ [r]) dom1 c1 → (∀ q ∈ dom1, q ∈ dom ∨ Cw.Rch pc [r] q) → (∀ q ∈ dom', q ∈ dom1) → Good pc (mk.map (·.2) ++ [r]) dom' c' →
    H p = none → H' p = some (.lst (freed.map V.int)) → freed.Nodup → freed.Pairwise (· ≤ ·) → (∀ q, q ∈ freed ↔ q ∈ dom1 ∧ ¬ q ∈ dom') → Q (.ref p) H'
theorem ok_Counts_grown (T : Txt K mg) : FnOk P w K mg base CX0 4 (He.fAd K ("Counts", some "grown")) (CwH.fdOf K ("Counts", some "grown")) ["self", "line", "root"] (spGrown K) := by
  refine T.f_Counts_grown.ok sc_Book_grown (fun vs H Q E h => ?_) (fun cdv A outer s H vs Q E hr h => ?_)
  · obtain ⟨_, _, _, _, _, _, _, _, _, _, _, rfl, _⟩ := h
    rfl
  · obtain ⟨W, B, U, kvs, pc, mk, r0, r, dom, c, cvs, rfl, ba, G, hrU, k⟩ := h
    have hu := hu_of hr
    refine ⟨_, (pss_cons (ps_expr (pe_meth (pv 0) T.c_Counts T.m_Counts_root_comes (ok_Counts_root_comes T) (hr.mono (by decide)) T.b_Counts_root_comes .nil pass0 (pa_cons (pv 2) pa_nil)))
 (pss_cons (ps_set (i := 3) sc_Book_grown.nd rfl (by first | exact Or.inl rfl | exact Or.inr rfl) (pe_meth (pv 0) T.c_Counts T.m_Counts_growth_goes (ok_Counts_growth_goes T) (hr.mono (by decide)) T.b_Counts_growth_goes .nil pass0 (pa_cons (pv 1) (pa_cons (pv 2) pa_nil))))
 (pss_cons (ps_fld (pe_dget hu (pe_fld (pv 0) rfl) (pv 1) (fun _ _ => rfl)) (pv 2) rfl)
 (pss_one (ps_ret (pe_callB cr_sortedI (by rfl) T.free_sorted (by decide +kernel) (pa_cons (pv 3) pa_nil))))))), ?_⟩
    refine ⟨_, rfl, B.b, B.db, _, rfl, ba.ins, rfl, _, rfl, ?_⟩
    refine ⟨_, B.b, r, U, kvs, pc, _, dom, c, B.cD, B.Pa, cvs, rfl, ba.ct, G, hrU, fun H1 cvs1 dom1 c1 k1 ct1 G1 R1 => ?_⟩
    have ba1 := ba.after k1 ct1
    refine ⟨_, rfl, B.b, B.db, _, rfl, ba1.ins, rfl, _, rfl, _, rfl, ?_⟩
    refine ⟨B, _, r0, rfl, ba1.ins, ba1.sd, ba1.sa, ?_⟩
    have G1' : Good pc ((mk.map (·.2) ++ [r]) ++ [r0]) dom1 c1 := G1.heads (by
      rw [List.append_assoc, List.append_assoc]
      exact List.Perm.append_left _ (List.Perm.swap _ _ _))
    refine ⟨W, B.b, r0, U, kvs, pc, _, dom1, c1, B.cD, B.Pa, cvs1, rfl, ba1.ct, G1', fun H2 cvs2 dom2 c2 p freed k2 ct2 G2 hp hp2 nd fr sb => ?_⟩
    have ba2 := ba1.after k2 ct2
    have kk : Kp [B.cD] H H2 := k1.trans k2 fun c z => .inl z
    have npa : p ≠ B.sa := fun e => by
      rw [e, ba1.sa] at hp
      cases hp
    -- self.strands[line].root = root
    have hg : DGet H2 B.SD (.int 1) (some (.ref B.sa)) := DGet.k (k := (Sum.inl 1 : Key)) ba2.sd
    refine ⟨_, rfl, _, rfl, B.b, aC K, B.db, _, .ref B.SD, rfl, ba2.ins, T.c_Counts, T.n_Counts_strands, rfl, _, rfl, B.SD, .ref B.sa, rfl, hg, B.sa, aS K, B.sx, _, rfl, ba2.sa, T.c_Strand, T.n_Strand_root, (by show 3 < 1000; decide), ?_⟩
    rw [show putF ("root" : Str) (V.int r) (strF (V.int 0) (V.ref B.mL) (rtV (some r0))) = strF (.int 0) (.ref B.mL) (rtV (some r)) from strF_root _ _ _ _]
    have ba3 := ba2.setroot (some r)
    have kk3 : Kp [B.cD, B.sa] H (upd H2 B.sa (.ins (aS K) B.sx (strF (.int 0) (.ref B.mL) (rtV (some r))))) := (kk.wide (by simp)).put (.inl (by simp))
    have hp3 : upd H2 B.sa (.ins (aS K) B.sx (strF (.int 0) (.ref B.mL) (rtV (some r)))) p = some (.lst (freed.map V.int)) := by
      rw [upd_ne npa]
      exact hp2
    generalize upd H2 B.sa (.ins (aS K) B.sx (strF (.int 0) (.ref B.mL) (rtV (some r)))) = H3 at ba3 kk3 hp3 ⊢
    -- sorted(freed)
    refine ⟨_, rfl, p, freed, rfl, SqL.of hp3, fun ys p4 hy hle hp4 => ?_⟩
    have s4 := same_new (o := .lst (ys.map V.int)) hp4
    refine k _ cvs2 dom1 dom2 c1 c2 p4 ys (kk3.new hp4) (ba3.same s4) ?_ R1 sb G2 ?_ upd_same (hy.nodup_iff.mpr nd) hle fun q => ?_
    · exact G1
    · exact knone kk3 hp4 (by simpa using ⟨by rw [ba3.ct.cd]; simp, by rw [ba3.sa]; simp⟩)
    · rw [hy.mem_iff, fr q]
end
end K31

namespace K31
open PySem PySem.Spec PyProof.Rows L2 CwR NdefX LamX
open Cw (Pc pts Good Coming Going inc dec total nodup_len)
section
variable {P : Program} {w : World} {K : PySem.W.Frag} {mg : Str → Option Value} {base : Heap}
theorem sc_Book_made : FnScope ["self", "line", "stamp", "strand"] ["self", "line", "stamp"] (defScope s_Book_made) := ⟨rfl, rfl, rfl, by decide +kernel, rfl, by decide +kernel, by decide +kernel⟩
def spMadeM (K : PySem.W.Frag) : Sp := fun vs H Q _ => ∃ (W : List Addr) (B : Bk) (U : List Int) (kvs : DK) (pc : Pc) (mk : Mks) (r0 s : Int) (dom : List Int) (c : Int → Nat) (cvs : DK), vs = [.ref B.b, .int 1, .int s] ∧ BA K W H B U kvs pc mk (some r0) dom c cvs ∧ Good pc (mk.map (·.2) ++ [r0]) dom c ∧ r0 ∈ U ∧ mk.length ≤ 1000 ∧
  ∀ (H' : Hp) (cvs' : DK) (dom' : List Int) (c' : Int → Nat), Kp [B.cD, B.mL] H H' → BA K W H' B U kvs pc (mk ++ [(s, r0)]) (some r0) dom' c' cvs' → Good pc (mk.map (·.2) ++ [r0] ++ [r0]) dom' c' → (∀ q ∈ dom', q ∈ dom ∨ Cw.Rch pc [r0] q) → Q .non H'
theorem ok_Counts_made (T : Txt K mg) : FnOk P w K mg base CX0 4 (He.fAd K ("Counts", some "made")) (CwH.fdOf K ("Counts", some "made")) ["self", "line", "stamp"] (spMadeM K) := by
  refine T.f_Counts_made.ok sc_Book_made (fun vs H Q E h => ?_) (fun cdv A outer s H vs Q E hr h => ?_)
  · obtain ⟨_, _, _, _, _, _, _, _, _, _, _, rfl, _⟩ := h
    rfl
  · obtain ⟨W, B, U, kvs, pc, mk, r0, s, dom, c, cvs, rfl, ba, G, hrU, hlen, k⟩ := h
    have hu := hu_of hr
    refine ⟨_, (pss_cons (ps_set (i := 3) sc_Book_made.nd rfl (by first | exact Or.inl rfl | exact Or.inr rfl) (pe_dget hu (pe_fld (pv 0) rfl) (pv 1) (fun _ _ => rfl)))
 (pss_cons (ps_expr (pe_meth (pv 0) T.c_Counts T.m_Counts_make_comes (ok_Counts_make_comes T) (hr.mono (by decide)) T.b_Counts_make_comes .nil pass0 (pa_cons (pv 1) (pa_cons (pv 2) (pa_cons (pe_fld (pv 3) rfl) pa_nil)))))
 (pss_one (ps_expr (pe_bm PySem.F.plainAttrs_list PySem.F.slot_list_append PySem.F.type_list_append mt_append (pe_fld (pv 3) rfl) (pa_cons (pe_tup (pa_cons (pv 2) (pa_cons (pe_fld (pv 3) rfl) pa_nil))) pa_nil)))))), ?_⟩
    have hg : DGet H B.SD (.int 1) (some (.ref B.sa)) := DGet.k (k := (Sum.inl 1 : Key)) ba.sd
    refine ⟨_, rfl, B.b, aC K, B.db, _, .ref B.SD, rfl, ba.ins, T.c_Counts, T.n_Counts_strands, rfl, _, rfl, B.SD, .ref B.sa, rfl, hg, ?_⟩
    refine ⟨_, rfl, B.b, B.db, _, rfl, ba.ins, rfl, _, rfl, _, rfl, _, rfl, B.sa, aS K, B.sx, _, .int r0, rfl, ba.sa, T.c_Strand, T.n_Strand_root, rfl, ?_⟩
    refine ⟨B.b, B.db, B.fP, B.fB, B.SD, B.cD, _, _, r0, rfl, ba.ins, ?_⟩
    refine ⟨W, B.b, r0, U, kvs, pc, _, dom, c, B.cD, B.Pa, cvs, rfl, ba.ct, G, hrU, fun H1 cvs1 dom1 c1 k1 ct1 G1 R1 => ?_⟩
    have ba1 := ba.after k1 ct1
    obtain ⟨ts, hl, hv⟩ := ba1.mks
    refine ⟨_, rfl, B.sa, aS K, B.sx, _, .ref B.mL, rfl, ba1.sa, T.c_Strand, T.n_Strand_makes, rfl, .inl ⟨rfl, _, SqL.of hl⟩, ?_⟩
    refine ⟨_, rfl, _, rfl, B.sa, aS K, B.sx, _, .int r0, rfl, ba1.sa, T.c_Strand, T.n_Strand_root, rfl, (by show 2 ≤ sizeLine; decide), fun t ht => ?_⟩
    have s2 := same_new (o := .tup [.int s, .int r0]) ht
    have ba2 := ba1.same s2
    have ht2 : upd H1 t (.tup [.int s, .int r0]) t = some (.tup [.int s, .int r0]) := upd_same
    have hl2 := s2 _ _ hl
    have hv2 : MksV (upd H1 t (.tup [.int s, .int r0])) ts mk := hv.still fun p xs e => s2 _ _ e
    have k2 : Kp [B.cD] H (upd H1 t (.tup [.int s, .int r0])) := k1.new ht
    simp only [cxK, cxK2]
    generalize upd H1 t (.tup [.int s, .int r0]) = H2 at ba2 ht2 hl2 hv2 k2 ⊢
    refine ⟨B.mL, ts, _, rfl, rfl, hl2, small1000' (by rw [hv.len]; omega), ?_⟩
    exact k _ cvs1 dom1 c1 ((k2.wide (by simp)).put (.inl (by simp))) (ba2.append hl2 hv2 ht2) G1 R1
theorem _root_.L2.Same.trans2 {H H' : Hp} {D : Addr} {o : HO} (s : Same H H') (h : H D = none) : Same H (upd H' D o) := fun b u e => by
  rw [upd_ne (ne_of_none e h)]
  exact s b u e
/-! ### unmade -/
def noS (s : Int) (m : Int × Int) : Bool := !decide (m.1 = s)
theorem sc_Book_unmade : FnScope ["self", "line", "stamp", "freed", "strand", "make"] ["self", "line", "stamp"] (defScope s_Book_unmade) := ⟨rfl, rfl, rfl, by decide +kernel, rfl, by decide +kernel, by decide +kernel⟩
def spUnmade (K : PySem.W.Frag) : Sp := fun vs H Q _ => ∃ (W : List Addr) (B : Bk) (U : List Int) (kvs : DK) (pc : Pc) (m1 m2 : Mks) (rt : Option Int) (s r : Int) (dom : List Int) (c : Int → Nat) (cvs : DK), vs = [.ref B.b, .int 1, .int s] ∧ BA K W H B U kvs pc (m1 ++ (s, r) :: m2) rt dom c cvs ∧ Good pc ((m1 ++ (s, r) :: m2).map (·.2) ++ rt.toList) dom c ∧
  (∀ m ∈ m1 ++ m2, m.1 ≠ s) ∧ m1.length + m2.length ≤ 1000 ∧
  ∀ (H' : Hp) (nl : Addr) (cvs' : DK) (dom' : List Int) (c' : Int → Nat) (p : Addr) (freed : List Int), Kp [B.cD, B.sa] H H' → H nl = none → BA K (nl :: W) H' { B with mL := nl } U kvs pc (m1 ++ m2) rt dom' c' cvs' → Good pc ((m1 ++ m2).map (·.2) ++ rt.toList) dom' c' → (∀ q ∈ dom', q ∈ dom) →
    H p = none → H' p = some (.lst (freed.map V.int)) → freed.Nodup → freed.Pairwise (· ≤ ·) → (∀ q, q ∈ freed ↔ q ∈ dom ∧ ¬ q ∈ dom') → Q (.ref p) H'
theorem ok_Counts_unmade (T : Txt K mg) : FnOk P w K mg base CX0 4 (He.fAd K ("Counts", some "unmade")) (CwH.fdOf K ("Counts", some "unmade")) ["self", "line", "stamp"] (spUnmade K) := by
  refine T.f_Counts_unmade.ok sc_Book_unmade (fun vs H Q E h => ?_) (fun cdv A outer s H vs Q E hr h => ?_)
  · obtain ⟨_, _, _, _, _, _, _, _, _, _, _, _, _, rfl, _⟩ := h
    rfl
  · obtain ⟨W, B, U, kvs, pc, m1, m2, rt, s, r, dom, c, cvs, rfl, ba, G, hms, hlen, k⟩ := h
    have hu := hu_of hr
    refine ⟨_, (pss_cons (ps_set (i := 3) sc_Book_unmade.nd rfl (by first | exact Or.inl rfl | exact Or.inr rfl) (pe_meth (pv 0) T.c_Counts T.m_Counts_make_goes (ok_Counts_make_goes T) (hr.mono (by decide)) T.b_Counts_make_goes .nil pass0 (pa_cons (pv 1) (pa_cons (pv 2) pa_nil))))
 (pss_cons (ps_set (i := 4) sc_Book_unmade.nd rfl (by first | exact Or.inl rfl | exact Or.inr rfl) (pe_dget hu (pe_fld (pv 0) rfl) (pv 1) (fun _ _ => rfl)))
 (pss_cons (ps_fld (pv 4) (pe_lc (own := [("make", 5)]) rfl sc_Book_unmade.nd (pi_list (pe_fld (pv 4) rfl)) (blkOk_by (own := [("make", 5)]) (N := ["self", "line", "stamp", "freed", "strand", "make"]) (sc := defScope s_Book_unmade) (by decide +kernel)) (fun _ _ _ _ _ => (pg_name (i := 5) sc_Book_unmade.nd rfl (by first | exact Or.inl rfl | exact Or.inr rfl))) (fun _ _ _ _ _ => (pts_one (pt_cmpR op_ne (pe_ix (show IxR _ (rIxT K) from ix_tup) (pv 5) pe_int (fun _ _ => rfl)) (pv 2) (nomark _)))) (fun _ _ _ _ _ => (pv 5))) rfl)
 (pss_one (ps_ret (pe_callB cr_sortedI (by rfl) T.free_sorted (by decide +kernel) (pa_cons (pv 3) pa_nil))))))), ?_⟩
    refine ⟨_, rfl, B.b, B.db, _, rfl, ba.ins, rfl, _, rfl, _, rfl, ?_⟩
    refine ⟨B, _, m1, m2, rt, s, r, rfl, ba.ins, ba.sd, ba.sa, ba.mks, rfl, fun m hm => hms m (List.mem_append_left _ hm), ?_⟩
    have G1 : Good pc (((m1 ++ m2).map (·.2) ++ rt.toList) ++ [r]) dom c := G.heads (List.perm_iff_count.mpr fun a => by
      simp only [List.map_append, List.map_cons, List.count_append, List.count_cons, List.count_nil]
      omega)
    refine ⟨W, B.b, r, U, kvs, pc, _, dom, c, B.cD, B.Pa, cvs, rfl, ba.ct, G1, fun H2 cvs2 dom2 c2 p freed k2 ct2 G2 hp hp2 nd fr sb => ?_⟩
    have ba2 := ba.after k2 ct2
    obtain ⟨ts, hl, hv⟩ := ba2.mks
    have npa : p ≠ B.sa := fun e => by
      rw [e, ba.sa] at hp
      cases hp
    have hg : DGet H2 B.SD (.int 1) (some (.ref B.sa)) := DGet.k (k := (Sum.inl 1 : Key)) ba2.sd
    refine ⟨_, rfl, B.b, aC K, B.db, _, .ref B.SD, rfl, ba2.ins, T.c_Counts, T.n_Counts_strands, rfl, _, rfl, B.SD, .ref B.sa, rfl, hg, ?_⟩
    refine ⟨_, rfl, B.sa, aS K, B.sx, _, .ref B.mL, rfl, ba2.sa, T.c_Strand, T.n_Strand_makes, rfl, B.mL, rfl, ⟨ts, SqL.of hl⟩, fun D hD => ?_⟩
    have hDm : D ≠ B.mL := fun e => by
      rw [e, hl] at hD
      cases hD
    refine lc_list (xs := ts) (fun i H' => Same H2 H' ∧ ∃ acc, H' D = some (.lst acc) ∧ acc.length ≤ i ∧ MksV H' acc (((m1 ++ (s, r) :: m2).take i).filter (noS s))) ⟨same_new hD, [], upd_same, Nat.zero_le _, .nil⟩ (fun i H' _ h => SqL.of (h.1 _ _ hl)) ?_ ?_
    · rintro i x H' hx ⟨sm, acc, hDa, hal, hva⟩
      obtain ⟨q, s', r', rfl, hmi, hq⟩ := hv.at_ hx
      have hq' := sm _ _ hq
      refine ⟨rfl, ?_⟩
      refine ⟨_, rfl, q, _, 0, .int s', rfl, rfl, SqT.of hq', rfl, ?_⟩
      refine ⟨_, rfl, rfl, _, rfl, ?_⟩
      have hlt : i < (m1 ++ (s, r) :: m2).length := (List.getElem?_eq_some_iff.mp hmi).1
      have etk : (m1 ++ (s, r) :: m2).take (i + 1) = (m1 ++ (s, r) :: m2).take i ++ [(s', r')] := by
        rw [List.take_add_one, hmi]
        rfl
      by_cases es : s' = s
      · rw [decide_eq_true (by rw [es])]
        refine iteF ⟨sm, acc, hDa, by omega, ?_⟩
        rw [etk, List.filter_append, List.filter_cons_of_neg (by simp [noS, es]), List.filter_nil, List.append_nil]
        exact hva
      · rw [decide_eq_false (fun z : V.int s' = V.int s => es (V.int.inj z))]
        refine iteT ⟨_, rfl, acc, hDa, small1000' (by simp only [List.length_append, List.length_cons] at hlt; omega), ?_⟩
        refine ⟨sm.trans2 hD, acc ++ [.ref q], upd_same, by simp; omega, ?_⟩
        rw [etk, List.filter_append, List.filter_cons_of_pos (by simp [noS, es]), List.filter_nil]
        refine (hva.app (.cons hq' .nil)).still fun a xs e => ?_
        rw [upd_ne (ne_of e hDa (by intro z; cases z))]
        exact e
    · rintro H3 ⟨sm, acc, hDa, hal, hva⟩
      have efil : ((m1 ++ (s, r) :: m2).take ts.length).filter (noS s) = m1 ++ m2 := by
        rw [hv.len, List.take_length, List.filter_append, List.filter_cons_of_neg (by simp [noS])]
        rw [List.filter_eq_self.mpr fun m hm => ?_, List.filter_eq_self.mpr fun m hm => ?_]
        · simpa [noS] using hms m (List.mem_append_right _ hm)
        · simpa [noS] using hms m (List.mem_append_left _ hm)
      rw [efil] at hva
      have hD0 : H D = none := knone k2 hD (by simpa using by rw [ct2.cd]; simp)
      have ba3 := (ba2.fresh hD).same sm
      have ba4 := ba3.remake ⟨acc, hDa, hva⟩ List.mem_cons_self
      have npD : p ≠ D := fun e => by
        rw [e, hD] at hp2
        cases hp2
      refine ⟨_, rfl, B.sa, aS K, B.sx, _, rfl, ba3.sa, T.c_Strand, T.n_Strand_makes, (by show 3 < 1000; decide), ?_⟩
      rw [strF_makes]
      have hp3 : upd H3 B.sa (.ins (aS K) B.sx (strF (.int 0) (.ref D) (rtV rt))) p = some (.lst (freed.map V.int)) := by
        rw [upd_ne npa]
        exact sm _ _ hp2
      have kk3 : Kp [B.cD, B.sa] H (upd H3 B.sa (.ins (aS K) B.sx (strF (.int 0) (.ref D) (rtV rt)))) := ((k2.same sm).wide (by simp)).put (.inl (by simp))
      simp only [cxK, cxK2]
      generalize upd H3 B.sa (.ins (aS K) B.sx (strF (.int 0) (.ref D) (rtV rt))) = H4 at ba4 kk3 hp3 ⊢
      refine ⟨_, rfl, p, freed, rfl, SqL.of hp3, fun ys p4 hy hle hp4 => ?_⟩
      have s4 := same_new (o := .lst (ys.map V.int)) hp4
      refine k _ D cvs2 dom2 c2 p4 ys (kk3.new hp4) hD0 ?_ G2 sb ?_ upd_same (hy.nodup_iff.mpr nd) hle fun q => ?_
      · exact ((ba4.weak (W' := D :: W) (fun a z => z) List.mem_cons_self).same s4)
      · exact knone kk3 hp4 (by simpa using ⟨by rw [ba4.ct.cd]; simp, by rw [ba4.sa]; simp⟩)
      · rw [hy.mem_iff, fr q]
end
end K31

namespace K31
open PySem PySem.Spec PyProof.Rows L2 CwR NdefX LamX
open Cw (Pc pts Good Coming Going inc dec total nodup_len)
section
variable {P : Program} {w : World} {K : PySem.W.Frag} {mg : Str → Option Value} {base : Heap}
/-! ### ended -/
theorem sc_Book_ended : FnScope ["self", "line", "freed"] ["self", "line"] (defScope s_Book_ended) := ⟨rfl, rfl, rfl, by decide +kernel, rfl, by decide +kernel, by decide +kernel⟩
def spEnded (K : PySem.W.Frag) : Sp := fun vs H Q _ => ∃ (W : List Addr) (B : Bk) (U : List Int) (kvs : DK) (pc : Pc) (mk : Mks) (r0 : Int) (dom : List Int) (c : Int → Nat) (cvs : DK), vs = [.ref B.b, .int 1] ∧ BA K W H B U kvs pc mk (some r0) dom c cvs ∧ Good pc (mk.map (·.2) ++ [r0]) dom c ∧
  ∀ (H' : Hp) (cvs' : DK) (dom' : List Int) (c' : Int → Nat) (p : Addr) (freed : List Int), Kp [B.cD, B.sa] H H' → BA K W H' B U kvs pc mk none dom' c' cvs' → Good pc (mk.map (·.2)) dom' c' → (∀ q ∈ dom', q ∈ dom) →
    H p = none → H' p = some (.lst (freed.map V.int)) → freed.Nodup → freed.Pairwise (· ≤ ·) → (∀ q, q ∈ freed ↔ q ∈ dom ∧ ¬ q ∈ dom') → Q (.ref p) H'
theorem ok_Counts_ended (T : Txt K mg) : FnOk P w K mg base CX0 4 (He.fAd K ("Counts", some "ended")) (CwH.fdOf K ("Counts", some "ended")) ["self", "line"] (spEnded K) := by
  refine T.f_Counts_ended.ok sc_Book_ended (fun vs H Q E h => ?_) (fun cdv A outer s H vs Q E hr h => ?_)
  · obtain ⟨_, _, _, _, _, _, _, _, _, _, rfl, _⟩ := h
    rfl
  · obtain ⟨W, B, U, kvs, pc, mk, r0, dom, c, cvs, rfl, ba, G, k⟩ := h
    have hu := hu_of hr
    refine ⟨_, (pss_cons (ps_set (i := 2) sc_Book_ended.nd rfl (by first | exact Or.inl rfl | exact Or.inr rfl) (pe_meth (pv 0) T.c_Counts T.m_Counts_growth_goes (ok_Counts_growth_goes T) (hr.mono (by decide)) T.b_Counts_growth_goes .nil pass0 (pa_cons (pv 1) (pa_cons pe_non pa_nil))))
 (pss_cons (ps_fld (pe_dget hu (pe_fld (pv 0) rfl) (pv 1) (fun _ _ => rfl)) pe_non rfl)
 (pss_one (ps_ret (pe_callB cr_sortedI (by rfl) T.free_sorted (by decide +kernel) (pa_cons (pv 2) pa_nil)))))), ?_⟩
    refine ⟨_, rfl, B.b, B.db, _, rfl, ba.ins, rfl, _, rfl, ?_⟩
    refine ⟨B, _, r0, rfl, ba.ins, ba.sd, ba.sa, ?_⟩
    refine ⟨W, B.b, r0, U, kvs, pc, _, dom, c, B.cD, B.Pa, cvs, rfl, ba.ct, G, fun H2 cvs2 dom2 c2 p freed k2 ct2 G2 hp hp2 nd fr sb => ?_⟩
    have ba2 := ba.after k2 ct2
    have npa : p ≠ B.sa := fun e => by
      rw [e, ba.sa] at hp
      cases hp
    have hg : DGet H2 B.SD (.int 1) (some (.ref B.sa)) := DGet.k (k := (Sum.inl 1 : Key)) ba2.sd
    refine ⟨_, rfl, B.b, aC K, B.db, _, .ref B.SD, rfl, ba2.ins, T.c_Counts, T.n_Counts_strands, rfl, _, rfl, B.SD, .ref B.sa, rfl, hg, B.sa, aS K, B.sx, _, rfl, ba2.sa, T.c_Strand, T.n_Strand_root, (by show 3 < 1000; decide), ?_⟩
    rw [show putF ("root" : Str) V.non (strF (V.int 0) (V.ref B.mL) (rtV (some r0))) = strF (.int 0) (.ref B.mL) (rtV none) from strF_root _ _ _ _]
    have ba3 := ba2.setroot none
    have kk3 : Kp [B.cD, B.sa] H (upd H2 B.sa (.ins (aS K) B.sx (strF (.int 0) (.ref B.mL) (rtV none)))) := (k2.wide (by simp)).put (.inl (by simp))
    have hp3 : upd H2 B.sa (.ins (aS K) B.sx (strF (.int 0) (.ref B.mL) (rtV none))) p = some (.lst (freed.map V.int)) := by
      rw [upd_ne npa]
      exact hp2
    generalize upd H2 B.sa (.ins (aS K) B.sx (strF (.int 0) (.ref B.mL) (rtV none))) = H3 at ba3 kk3 hp3 ⊢
    refine ⟨_, rfl, p, freed, rfl, SqL.of hp3, fun ys p4 hy hle hp4 => ?_⟩
    have s4 := same_new (o := .lst (ys.map V.int)) hp4
    refine k _ cvs2 dom2 c2 p4 ys (kk3.new hp4) (ba3.same s4) G2 sb ?_ upd_same (hy.nodup_iff.mpr nd) hle fun q => ?_
    · exact knone kk3 hp4 (by simpa using ⟨by rw [ba3.ct.cd]; simp, by rw [ba3.sa]; simp⟩)
    · rw [hy.mem_iff, fr q]
/-! ### the classes' __init__ -/
theorem sc_Book___init__ : FnScope ["self", "points", "born"] ["self", "points", "born"] (defScope s_Book___init__) := ⟨rfl, rfl, rfl, by decide +kernel, rfl, by decide +kernel, by decide +kernel⟩
def spBookInit (K : PySem.W.Frag) : Sp := fun vs H Q _ => ∃ (x dx : Addr) (p b : V), vs = [.ref x, p, b] ∧ H x = some (.ins (aC K) dx []) ∧
  ∀ SD, H SD = none → Q .non (upd (upd H SD (.dK [])) x (.ins (aC K) dx [("pointed", p), ("birth", b), ("strands", .ref SD)]))
theorem ok_Book___init__ (T : Txt K mg) : FnOk P w K mg base CX0 1 (He.fAd K ("Book", some "__init__")) (CwH.fdOf K ("Book", some "__init__")) ["self", "points", "born"] (spBookInit K) := by
  refine T.f_Book___init__.ok sc_Book___init__ (fun vs H Q E h => ?_) (fun cdv A outer s H vs Q E hr h => ?_)
  · obtain ⟨_, _, _, _, rfl, _⟩ := h
    rfl
  · obtain ⟨x, dx, p, b, rfl, hx, k⟩ := h
    have hu := hu_of hr
    refine ⟨_, (pss_cons (ps_fld (pv 0) (pv 1) rfl)
 (pss_cons (ps_fld (pv 0) (pv 2) rfl)
 (pss_one (ps_fld (pv 0) pe_dnewK rfl)))), ?_⟩
    refine ⟨_, rfl, _, rfl, x, aC K, dx, [], rfl, hx, T.c_Counts, T.n_Counts_pointed, (by show 0 < 1000; decide), ?_⟩
    refine ⟨_, rfl, _, rfl, x, aC K, dx, _, rfl, upd_same, T.c_Counts, T.n_Counts_birth, (by show 1 < 1000; decide), ?_⟩
    rw [upd_upd]
    refine fun SD hSD => ?_
    have nx : SD ≠ x := fun e => by
      rw [e, upd_same] at hSD
      cases hSD
    have hSD0 : H SD = none := by
      rw [upd_ne nx] at hSD
      exact hSD
    refine ⟨_, rfl, x, aC K, dx, _, rfl, (by rw [upd_ne nx.symm, upd_same]), T.c_Counts, T.n_Counts_strands, (by show 2 < 1000; decide), ?_⟩
    rw [upd_comm nx.symm, upd_upd]
    exact k SD hSD0
theorem sc_Counts___init__ : FnScope ["self", "points", "born"] ["self", "points", "born"] (defScope s_Counts___init__) := ⟨rfl, rfl, rfl, by decide +kernel, rfl, by decide +kernel, by decide +kernel⟩
def spCountsInit (K : PySem.W.Frag) : Sp := fun vs H Q _ => ∃ (x dx fP fB : Addr), vs = [.ref x, .ref fP, .ref fB] ∧ H x = some (.ins (aC K) dx []) ∧
  ∀ SD cD, H SD = none → H cD = none → SD ≠ cD → Q .non (upd (upd (upd H SD (.dK [])) cD (.dK [])) x (.ins (aC K) dx (bkF fP fB SD cD)))
theorem ok_Counts___init__ (T : Txt K mg) : FnOk P w K mg base CX0 2 (He.fAd K ("Counts", some "__init__")) (CwH.fdOf K ("Counts", some "__init__")) ["self", "points", "born"] (spCountsInit K) := by
  refine T.f_Counts___init__.ok sc_Counts___init__ (fun vs H Q E h => ?_) (fun cdv A outer s H vs Q E hr h => ?_)
  · obtain ⟨_, _, _, _, rfl, _⟩ := h
    rfl
  · obtain ⟨x, dx, fP, fB, rfl, hx, k⟩ := h
    have hu := hu_of hr
    refine ⟨_, (pss_cons (ps_expr (pe_off (by rfl) T.g_Book T.cf_Book___init__ (T.f_Book___init__).kp (ok_Book___init__ T) (hr.mono (by decide)) T.b_Book___init__ pass0 (pa_cons (pv 0) (pa_cons (pv 1) (pa_cons (pv 2) pa_nil)))))
 (pss_one (ps_fld (pv 0) pe_dnewK rfl))), ?_⟩
    refine ⟨_, rfl, _, rfl, _, rfl, x, dx, _, _, rfl, hx, fun SD hSD => ?_⟩
    refine fun cD hcD => ?_
    have nS : SD ≠ x := ne_of_none hx hSD |>.symm
    have nx : cD ≠ x := fun e => by
      rw [e, upd_same] at hcD
      cases hcD
    rw [upd_ne nx] at hcD
    have nSc : SD ≠ cD := fun e => by
      rw [← e, upd_same] at hcD
      cases hcD
    have hcD0 : H cD = none := by
      rw [upd_ne nSc.symm] at hcD
      exact hcD
    refine ⟨_, rfl, x, aC K, dx, [("pointed", .ref fP), ("birth", .ref fB), ("strands", .ref SD)], rfl, (by rw [upd_ne nx.symm, upd_same]; rfl), T.c_Counts, T.n_Counts_counts, (by show 3 < 1000; decide), ?_⟩
    rw [upd_comm nx.symm, upd_upd]
    exact k SD cD hSD hcD0 nSc
end
end K31

namespace K31
open PySem PySem.Spec PyProof.Rows L2 CwR NdefX LamX
open Cw (Pc pts Good Coming Going inc dec total nodup_len Rch Walking)
section
variable {P : Program} {w : World} {K : PySem.W.Frag} {mg : Str → Option Value} {base : Heap}
theorem sql_same {H H' : Hp} {a : Addr} {xs : List V} (h : SqL K H a xs) (s : Same H H') : SqL K H' a xs := by
  rcases h with (h | ⟨o, h⟩) | h
  · exact .inl (.inl (s _ _ h))
  · exact .inl (.inr ⟨o, s _ _ h⟩)
  · exact .inr h
theorem sc__law_cell_at : FnScope ["_law_script", "_law_k"] ["_law_script", "_law_k"] (defScope s__law_cell_at) := ⟨rfl, rfl, rfl, by decide +kernel, rfl, by decide +kernel, by decide +kernel⟩
def spCellAt (K : PySem.W.Frag) : Sp := fun vs H Q _ => ∃ (a : Addr) (xs : List Int) (k : Nat), vs = [.ref a, .int k] ∧ SqL K H a (xs.map V.int) ∧ ∀ z : Int, Q (.int z) H
theorem ok__law_cell_at (T : Txt K mg) : FnOk P w K mg base CX0 1 (He.fAd K ("_law_cell_at", none)) (CwH.fdOf K ("_law_cell_at", none)) ["_law_script", "_law_k"] (spCellAt K) := by
  refine T.f__law_cell_at.ok sc__law_cell_at (fun vs H Q E h => ?_) (fun cdv A outer s H vs Q E hr h => ?_)
  · obtain ⟨_, _, _, rfl, _⟩ := h
    rfl
  · obtain ⟨a, xs, k, rfl, hs, q⟩ := h
    refine ⟨_, (pss_cons (ps_if (pt_cmpR op_lt (pv 1) (pe_callB call_len_seq (by rfl) T.free_len (by decide +kernel) (pa_cons (pv 0) pa_nil)) (nomark _)) (pss_one (ps_ret (pe_ix (show IxR _ (rIxL K) from ix_list) (pv 0) (pv 1) (fun _ _ => rfl)))) pss_nil)
 (pss_one (ps_ret pe_int))), ?_⟩
    refine ⟨_, rfl, _, rfl, a, _, rfl, .inl hs, _, _, rfl, rfl, _, rfl, ?_⟩
    by_cases h : (k : Int) < (xs.map V.int).length
    · rw [decide_eq_true h]
      have hk : k < xs.length := by rw [List.length_map] at h; omega
      refine iteT ⟨_, rfl, _, rfl, a, _, _, .int xs[k], rfl, rfl, hs, ?_, ?_⟩
      · refine atI_nat ?_
        rw [List.getElem?_map, List.getElem?_eq_getElem hk]
        rfl
      · exact q _
    · rw [decide_eq_false h]
      exact iteF (q 0)
theorem sc__law_stream : FnScope ["_law_cell", "_law_many", "_law_found", "_law_left", "_law_number", "_law_k"] ["_law_cell", "_law_many"] (defScope s__law_stream) := ⟨rfl, rfl, rfl, by decide +kernel, rfl, by decide +kernel, by decide +kernel⟩
def spStream : Sp := fun vs H Q _ => ∃ (cell : Int), vs = [.int cell, .int 12] ∧ ∀ (H' : Hp) (p : Addr) (ns : List Int), Same H H' → H p = none → H' p = some (.lst (ns.map V.int)) → ns.length = 12 → Q (.ref p) H'
theorem ok__law_stream (T : Txt K mg) : FnOk P w K mg base CX0 1 (He.fAd K ("_law_stream", none)) (CwH.fdOf K ("_law_stream", none)) ["_law_cell", "_law_many"] spStream := by
  refine T.f__law_stream.ok sc__law_stream (fun vs H Q E h => ?_) (fun cdv A outer s H vs Q E hr h => ?_)
  · obtain ⟨_, rfl, _⟩ := h
    rfl
  · obtain ⟨cell, rfl, k⟩ := h
    have hu := hu_of hr
    refine ⟨_, (pss_cons (ps_set (i := 2) sc__law_stream.nd rfl (by first | exact Or.inl rfl | exact Or.inr rfl) (pe_lst pa_nil))
 (pss_cons (ps_set (i := 3) sc__law_stream.nd rfl (by first | exact Or.inl rfl | exact Or.inr rfl) (pe_op op_fdiv (pv 0) pe_int))
 (pss_cons (ps_set (i := 4) sc__law_stream.nd rfl (by first | exact Or.inl rfl | exact Or.inr rfl) (pe_op op_mod (pv 3) pe_int))
 (pss_cons (ps_for PassesOwn.never rfl (pi_range1 rfl T.free_range (pa_cons (pv 1) pa_nil)) (pg_name (i := 5) sc__law_stream.nd rfl (by first | exact Or.inl rfl | exact Or.inr rfl))
  (pss_cons (ps_set (i := 4) sc__law_stream.nd rfl (by first | exact Or.inl rfl | exact Or.inr rfl) (pe_op op_mod (pe_op op_add (pe_op op_add (pe_op op_add (pe_op op_mul (pv 4) (pv 4)) (pe_op op_mul pe_int (pv 4))) (pe_op op_mul pe_int (pv 5))) pe_int) pe_int))
 (pss_cons (ps_expr (pe_bm PySem.F.plainAttrs_list PySem.F.slot_list_append PySem.F.type_list_append mt_append (pv 2) (pa_cons (pe_ix (show IxR _ (rIxL K) from ix_list) (pe_lst (pa_cons (pv 4) (pa_cons (pe_op op_mod (pv 3) pe_int) pa_nil))) (pe_op op_mod (pv 0) pe_int) (fun _ _ => rfl)) pa_nil)))
 (pss_one (ps_set (i := 3) sc__law_stream.nd rfl (by first | exact Or.inl rfl | exact Or.inr rfl) (pe_op op_fdiv (pv 3) pe_int))))))
 (pss_one (ps_ret (pv 2))))))), ?_⟩
    refine ⟨Nat.zero_le _, fun fd hfd => ?_⟩
    refine ⟨_, rfl, _, _, rfl, rfl, ⟨by decide, by decide⟩, ?_⟩
    refine ⟨_, rfl, _, _, rfl, rfl, (show (0 : Int) < 2147483647 by decide), ?_⟩
    refine ⟨_, rfl, 12, rfl, by decide, by decide, ?_⟩
    refine for_range (fun i σ H' => ∃ (left num : Int) (v5 : Option V) (ns : List Int), σ = [some (.int cell), some (.int 12), some (.ref fd), some (.int left), some (.int num), v5] ∧ 0 ≤ num ∧ num < 2147483647 ∧ Same H H' ∧ H' fd = some (.lst (ns.map V.int)) ∧ ns.length = i)
      ⟨_, _, none, [], rfl, Int.emod_nonneg _ (by decide), Int.emod_lt_of_pos _ (by decide), same_new hfd, upd_same, rfl⟩ ?_ ?_
    · rintro i σ H1 hi ⟨left, num, v5, ns, rfl, h0, h1, sm, hf, hn⟩
      have hn0 := Int.emod_nonneg (num * num + 48271 * num + 7919 * (0 + (i : Int)) + 11) (show (2147483647 : Int) ≠ 0 by decide)
      have hn1 := Int.emod_lt_of_pos (num * num + 48271 * num + 7919 * (0 + (i : Int)) + 11) (show (0 : Int) < 2147483647 by decide)
      refine ⟨_, rfl, _, rfl, _, _, rfl, rfl, .inl ⟨by omega, by omega⟩, _, rfl, _, _, rfl, rfl, .inl ⟨by decide, by decide⟩, _, _, rfl, rfl, _, rfl, _, _, rfl, rfl, .inl ⟨by decide, by decide⟩, _, _, rfl, rfl, _, _, rfl, rfl, _, _, rfl, rfl, (show (0 : Int) < 2147483647 by decide), ?_⟩
      obtain ⟨z, hz⟩ : ∃ z : Int, atI [V.int ((num * num + 48271 * num + 7919 * (0 + (i : Int)) + 11) % 2147483647), V.int (left % 1000003)] (cell % 2) = some (V.int z) := by
        rcases (by omega : cell % 2 = 0 ∨ cell % 2 = 1) with e | e
        · rw [e]; exact ⟨_, rfl⟩
        · rw [e]; exact ⟨_, rfl⟩
      refine ⟨_, rfl, .inl ⟨rfl, _, SqL.of hf⟩, _, rfl, _, rfl, _, _, rfl, rfl, (show (0 : Int) < 1000003 by decide), (by show 2 ≤ sizeLine; decide), fun l hl => ?_⟩
      have s2 := same_new (o := .lst [.int ((num * num + 48271 * num + 7919 * (0 + (i : Int)) + 11) % 2147483647), .int (left % 1000003)]) hl
      have hf2 := s2 _ _ hf
      refine ⟨_, rfl, _, _, rfl, rfl, (show (0 : Int) < 2 by decide), l, _, _, _, rfl, rfl, SqL.of upd_same, hz, ?_⟩
      have sm2 : Same H (upd H1 l (.lst [.int ((num * num + 48271 * num + 7919 * (0 + (i : Int)) + 11) % 2147483647), .int (left % 1000003)])) := fun b o e => s2 b o (sm b o e)
      generalize upd H1 l (.lst [.int ((num * num + 48271 * num + 7919 * (0 + (i : Int)) + 11) % 2147483647), .int (left % 1000003)]) = H2 at hf2 sm2 ⊢
      refine ⟨fd, _, _, rfl, rfl, hf2, small1000' (by rw [List.length_map]; omega), ?_⟩
      refine ⟨_, rfl, _, _, rfl, rfl, ⟨by decide, by decide⟩, ?_⟩
      refine ⟨_, ((num * num + 48271 * num + 7919 * (0 + (i : Int)) + 11) % 2147483647), _, ns ++ [z], rfl, hn0, hn1, sm2.trans2 hfd, ?_, by rw [List.length_append, hn]; rfl⟩
      rw [upd_same, List.map_append]
      rfl
    · rintro σ H1 ⟨left, num, v5, ns, rfl, h0, h1, sm, hf, hn⟩
      exact ⟨_, rfl, k _ fd ns sm hfd hf hn⟩
theorem sc__law_reach : FnScope ["_law_pieces", "_law_roots", "_law_known", "_law_left", "_law_place"] ["_law_pieces", "_law_roots"] (defScope s__law_reach) := ⟨rfl, rfl, rfl, by decide +kernel, rfl, by decide +kernel, by decide +kernel⟩
def spReach (K : PySem.W.Frag) : Sp := fun vs H Q _ => ∃ (W : List Addr) (Pa l : Addr) (kvs : DK) (pc : Pc) (U rs : List Int), vs = [.ref Pa, .ref l] ∧ PcAt W H Pa kvs pc ∧ Closed pc U ∧ SqL K H l (rs.map V.int) ∧ (∀ r ∈ rs, r ∈ U) ∧ rs.length ≤ 1000 ∧
  ∀ (H' : Hp) (d : Addr) (kvs' : DK) (known : List Int), Same H H' → H d = none → H' d = some (.dK kvs') → Keys kvs' known → known.Nodup → (∀ p, p ∈ known ↔ Rch pc rs p) → Q (.ref d) H'
theorem ok__law_reach (T : Txt K mg) : FnOk P w K mg base CX0 1 (He.fAd K ("_law_reach", none)) (CwH.fdOf K ("_law_reach", none)) ["_law_pieces", "_law_roots"] (spReach K) := by
  refine T.f__law_reach.ok sc__law_reach (fun vs H Q E h => ?_) (fun cdv A outer s H vs Q E hr h => ?_)
  · obtain ⟨_, _, _, _, _, _, _, rfl, _⟩ := h
    rfl
  · obtain ⟨W, Pa, l, kvs, pc, U, rs, rfl, pcs, cl, hl, hU, hlen, k⟩ := h
    have hu := hu_of hr
    refine ⟨_, (pss_cons (ps_set (i := 2) sc__law_reach.nd rfl (by first | exact Or.inl rfl | exact Or.inr rfl) pe_dnewK)
 (pss_cons (ps_set (i := 3) sc__law_reach.nd rfl (by first | exact Or.inl rfl | exact Or.inr rfl) (pe_callTy call_list_of (by rfl) T.free_list (by decide +kernel) (pa_cons (pv 1) pa_nil)))
 (pss_cons (ps_while PassesOwn.never (pt_cmpR (op_neD hr.units) (pv 3) (pe_lst pa_nil) (nomark _)) (pss_cons (ps_set (i := 4) sc__law_reach.nd rfl (by first | exact Or.inl rfl | exact Or.inr rfl) (pe_bm0 PySem.F.plainAttrs_list PySem.F.slot_list_pop PySem.F.type_list_pop mt_pop (pv 3)))
 (pss_one (ps_if (pt_cmp (pc_dnotin hu (pv 4) (pv 2))) (pss_cons (ps_dput hu (pv 2) (pv 4) pe_bl rfl)
 (pss_one (ps_set (i := 3) sc__law_reach.nd rfl (by first | exact Or.inl rfl | exact Or.inr rfl) (pe_op op_cat (pv 3) (pe_ix (show IxR _ (rIxT K) from ix_tup) (pe_dget hu (pv 0) (pv 4) (fun _ _ => rfl)) pe_int (fun _ _ => rfl)))))) pss_nil))))
 (pss_one (ps_ret (pv 2)))))), ?_⟩
    refine fun d hd => ?_
    have s0 := same_new (o := .dK []) hd
    refine ⟨_, rfl, l, rs.map V.int, rfl, .inl (sql_same hl s0), fun a ha => ?_⟩
    have nda : a ≠ d := fun e => by
      rw [e, upd_same] at ha
      cases ha
    have ha0 : H a = none := by
      rw [upd_ne nda] at ha
      exact ha
    refine ⟨fun m σ H' => ∃ (a : Addr) (l' known : List Int) (kvs' : DK) (v4 : Option V), σ = [some (.ref Pa), some (.ref l), some (.ref d), some (.ref a), v4] ∧ Same H H' ∧ H a = none ∧ a ≠ d ∧ H' d = some (.dK kvs') ∧ Keys kvs' known ∧ H' a = some (.lst (l'.map V.int)) ∧
      Walking pc rs known l' ∧ (∀ q ∈ l', q ∈ U) ∧ (∀ q ∈ known, q ∈ U) ∧ l'.length + Cw.rest pc U known ≤ 11000 ∧ m = Cw.rest pc U known + l'.length, ⟨_, a, rs, [], [], none, rfl, (fun b o e => same_new ha b o (s0 b o e)), ha0, nda, by rw [upd_ne nda.symm, upd_same], rfl, upd_same, Walking.start pc rs, hU, by simp, by have := cl.rest0 []; omega, rfl⟩, ?_⟩
    rintro m σ H1 ⟨a, l', known, kvs', v4, rfl, sm, ha, nad, hd1, hk, ha1, Wk, hlU, hkU, hle, rfl⟩
    refine t_neNil (xs := l') rfl ha1 fun p2 hp2 => ?_
    have s2 := same_new (o := .lst []) hp2
    rcases snoc_cases l' with rfl | ⟨l', q, rfl⟩
    · refine iteF ?_
      exact ⟨_, rfl, k _ d kvs' known (fun b o e => s2 b o (sm b o e)) hd (s2 _ _ hd1) hk Wk.nd Wk.done⟩
    · rw [if_pos (by simp)]
      refine ⟨_, fun _ _ n => n, ?_⟩
      have hd2 := s2 _ _ hd1
      have ha2 := s2 _ _ ha1
      have sm2 : Same H (upd H1 p2 (.lst [])) := fun b o e => s2 b o (sm b o e)
      generalize upd H1 p2 (.lst []) = H2 at hd2 ha2 sm2 ⊢
      have hqU : q ∈ U := hlU q (by simp)
      obtain ⟨bq, lq, epc⟩ := cl.there q hqU
      have epts : pts pc q = lq := Cw.pts_some epc
      -- place = left.pop()
      refine ⟨_, rfl, .inl ⟨rfl, _, SqL.of ha2⟩, a, _, .int q, rfl, rfl, ha2, last_map l' q, ?_⟩
      rw [drop_map]
      have sm3 : Same H (upd H2 a (.lst (l'.map V.int))) := sm2.trans2 ha
      have ha3 : upd H2 a (.lst (l'.map V.int)) a = some (.lst (l'.map V.int)) := upd_same
      have hd3 : upd H2 a (.lst (l'.map V.int)) d = some (.dK kvs') := by
        rw [upd_ne nad.symm]
        exact hd2
      generalize upd H2 a (.lst (l'.map V.int)) = H3 at sm3 ha3 hd3 ⊢
      -- if place not in known
      refine ⟨_, rfl, _, rfl, d, _, rfl, DGet.k (k := Sum.inl q) hd3, _, rfl, ?_⟩
      rw [hk.isSome]
      by_cases hq : q ∈ known
      · rw [decide_eq_true hq]
        refine iteF ?_
        exact ⟨_, by rw [List.length_append, List.length_singleton]; omega, a, l', known, kvs', _, rfl, sm3, ha, nad, hd3, hk, ha3, Wk.old hq, fun p hp => hlU p (List.mem_append_left _ hp), hkU, by rw [List.length_append, List.length_singleton] at hle; omega, rfl⟩
      · rw [decide_eq_false hq]
        refine iteT ?_
        have hkl : known.length ≤ 10000 := Nat.le_trans (nodup_len Wk.nd hkU) cl.len
        refine ⟨_, rfl, _, rfl, d, _, rfl, DPut.k (k := Sum.inl q) hd3 (small1000' (by rw [hk.len]; omega)), ?_⟩
        have sm4 : Same H (upd H3 d (.dK (putK kvs' (.inl q) (.bl true)))) := sm3.trans2 hd
        have ha4 : upd H3 d (.dK (putK kvs' (.inl q) (.bl true))) a = some (.lst (l'.map V.int)) := by
          rw [upd_ne nad]
          exact ha3
        have hd4 : upd H3 d (.dK (putK kvs' (.inl q) (.bl true))) d = some (.dK (putK kvs' (.inl q) (.bl true))) := upd_same
        generalize upd H3 d (.dK (putK kvs' (.inl q) (.bl true))) = H4 at sm4 ha4 hd4 ⊢
        have p4 := pcs.same sm4
        obtain ⟨t, b, h1, h2, h3, _⟩ := p4.get q bq lq epc
        have hg : DGet H4 Pa (.int q) (some (.ref t)) := by
          rw [← h1]
          exact DGet.k (k := Sum.inl q) p4.dict
        have hrs := Cw.rest_snoc (pc := pc) (U := U) (known := known) hqU cl.nd hq
        rw [epts] at hrs
        rw [List.length_append, List.length_singleton] at hle
        -- left = left + pieces[place][1]
        refine ⟨_, rfl, _, rfl, _, rfl, Pa, .ref t, rfl, hg, t, _, 1, .ref b, rfl, rfl, SqT.of h2, rfl, ?_⟩
        refine ⟨a, b, _, _, rfl, rfl, ha4, h3, by rw [List.length_map, List.length_map]; exact small1000'' (by omega), fun e he => ?_⟩
        rw [← List.map_append]
        have he0 : H e = none := knone (Kp.of_same (S := []) sm4) he (by simp)
        have ned : e ≠ d := fun z => by
          rw [z, hd4] at he
          cases he
        have s5 := same_new (o := .lst ((l' ++ lq).map V.int)) he
        refine ⟨_, ?_, e, l' ++ lq, known ++ [q], _, _, rfl, fun b o z => s5 b o (sm4 b o z), he0, ned, s5 _ _ hd4, hk.put_new hq _, upd_same, ?_, fun p hp => ?_, fun p hp => ?_, ?_, rfl⟩
        · rw [List.length_append, List.length_append, List.length_singleton]
          omega
        · have := Wk.new hq
          rw [epts] at this
          exact this
        · rcases List.mem_append.mp hp with z | z
          · exact hlU p (List.mem_append_left _ z)
          · exact cl.sub q hqU p (by rw [epts]; exact z)
        · rcases List.mem_append.mp hp with z | z
          · exact hkU p z
          · rw [List.mem_singleton.mp z]
            exact hqU
        · rw [List.length_append]
          omega
end
end K31

namespace K31
open PySem PySem.Spec PyProof.Rows L2 CwR NdefX LamX
open Cw (Pc pts Good Coming Going inc dec total nodup_len Rch Walking)
/-! ### the law's state -/
structure La where
  sd : Addr
  P : Addr
  L : Addr
  ld : Addr
  lm : Addr
abbrev Ln := Option (Mks × Option Int)
def lineKV (lm : Addr) (rt : Option Int) : DK := [(.inr "base", .int 0), (.inr "makes", .ref lm), (.inr "root", rtV rt)]
def stKV (P L : Addr) (sp : Int) : DK := [(.inr "pieces", .ref P), (.inr "lines", .ref L), (.inr "stamp", .int sp)]
def linesKV (ld : Addr) : Ln → DK
  | none => []
  | some _ => [(.inl 1, .ref ld)]
def heads : Ln → List Int
  | none => []
  | some (mk, rt) => mk.map (·.2) ++ rt.toList
structure LA (W : List Addr) (H : Hp) (A : La) (ln : Ln) (sp : Int) (kvs : DK) (pc : Pc) : Prop where
  sd : H A.sd = some (.dK (stKV A.P A.L sp))
  L : H A.L = some (.dK (linesKV A.ld ln))
  ld : ∀ mk rt, ln = some (mk, rt) → H A.ld = some (.dK (lineKV A.lm rt)) ∧ MksAt H A.lm mk ∧ A.lm ∈ W ∧ A.ld ≠ A.sd ∧ A.ld ≠ A.P ∧ A.ld ≠ A.L
  pcs : PcAt W H A.P kvs pc
  n1 : A.sd ≠ A.P
  n2 : A.sd ≠ A.L
  n3 : A.P ≠ A.L
section
variable {W : List Addr} {H H' : Hp} {A : La} {ln : Ln} {sp : Int} {kvs : DK} {pc : Pc}
theorem LA.kp {S : List Addr} (h : LA W H A ln sp kvs pc) (k : Kp S H H') (n : ∀ a ∈ [A.sd, A.P, A.L], ¬ a ∈ S) (n' : ln ≠ none → ¬ A.ld ∈ S ∧ ¬ A.lm ∈ S) (hS : ∀ c ∈ S, ∀ o, H c = some o → MutK o ∧ (∀ xs, o = .lst xs → c ∈ W)) : LA W H' A ln sp kvs pc :=
  ⟨k.get h.sd (n _ (by simp)), k.get h.L (n _ (by simp)), fun mk rt e => by
    obtain ⟨h1, h2, h3, h4⟩ := h.ld mk rt e
    obtain ⟨m1, m2⟩ := n' (by rw [e]; simp)
    exact ⟨k.get h1 m1, h2.kp k m2 fun c hc u hu => (hS c hc u hu).1, h3, h4⟩, h.pcs.kp k (n _ (by simp)) hS, h.n1, h.n2, h.n3⟩
theorem LA.same (h : LA W H A ln sp kvs pc) (k : Same H H') : LA W H' A ln sp kvs pc := h.kp (S := []) (fun b o e _ => k b o e) (by simp) (by simp) (fun c z => nomatch z)
theorem LA.fresh {lf : Addr} (h : LA W H A ln sp kvs pc) (n : H lf = none) : LA (lf :: W) H A ln sp kvs pc := ⟨h.sd, h.L, fun mk rt e => let ⟨h1, h2, h3, h4⟩ := h.ld mk rt e; ⟨h1, h2, List.mem_cons_of_mem _ h3, h4⟩, h.pcs.fresh n, h.n1, h.n2, h.n3⟩
end
section
variable {P : Program} {w : World} {K : PySem.W.Frag} {mg : Str → Option Value} {base : Heap}
theorem sc__law_lying : FnScope ["_law_state", "_law_roots", "_law_line", "_law_stamp", "_law_root"] ["_law_state"] (defScope s__law_lying) := ⟨rfl, rfl, rfl, by decide +kernel, rfl, by decide +kernel, by decide +kernel⟩
def spLyingL (K : PySem.W.Frag) : Sp := fun vs H Q _ => ∃ (W : List Addr) (A : La) (ln : Ln) (sp : Int) (kvs : DK) (pc : Pc) (U : List Int), vs = [.ref A.sd] ∧ LA W H A ln sp kvs pc ∧ Closed pc U ∧ (∀ r ∈ heads ln, r ∈ U) ∧ (heads ln).length ≤ 1000 ∧
  ∀ (H' : Hp) (d : Addr) (kvs' : DK) (known : List Int), Same H H' → H d = none → H' d = some (.dK kvs') → Keys kvs' known → known.Nodup → (∀ p, p ∈ known ↔ Rch pc (heads ln) p) → Q (.ref d) H'
theorem ok__law_lying (T : Txt K mg) : FnOk P w K mg base CX0 2 (He.fAd K ("_law_lying", none)) (CwH.fdOf K ("_law_lying", none)) ["_law_state"] (spLyingL K) := by
  refine T.f__law_lying.ok sc__law_lying (fun vs H Q E h => ?_) (fun cdv A outer s H vs Q E hr h => ?_)
  · obtain ⟨_, _, _, _, _, _, _, rfl, _⟩ := h
    rfl
  · obtain ⟨W, A0, ln, sp, kvs, pc, U, rfl, la, cl, hU, hlen, k⟩ := h
    have hu := hu_of hr
    refine ⟨_, (pss_cons (ps_set (i := 1) sc__law_lying.nd rfl (by first | exact Or.inl rfl | exact Or.inr rfl) (pe_lst pa_nil))
 (pss_cons (ps_lock (ps_for PassesOwn.never rfl (pi_values (pe_dget hu (pv 0) pe_str (fun _ _ => rfl))) (pg_name (i := 2) sc__law_lying.nd rfl (by first | exact Or.inl rfl | exact Or.inr rfl))
  (pss_cons (ps_set (i := 1) sc__law_lying.nd rfl (by first | exact Or.inl rfl | exact Or.inr rfl) (pe_op op_cat (pv 1) (pe_lc (own := [("_law_stamp", 3), ("_law_root", 4)]) rfl sc__law_lying.nd (pi_list (pe_dget hu (pv 2) pe_str (fun _ _ => rfl))) (blkOk_by (own := [("_law_stamp", 3), ("_law_root", 4)]) (N := ["_law_state", "_law_roots", "_law_line", "_law_stamp", "_law_root"]) (sc := defScope s__law_lying) (by decide +kernel)) (fun _ _ _ _ _ => (show PG _ _ (gTup K 2 _) from pg_tup rfl (pgs_cons (pg_name (i := 3) sc__law_lying.nd rfl (by first | exact Or.inl rfl | exact Or.inr rfl)) (pgs_cons (pg_name (i := 4) sc__law_lying.nd rfl (by first | exact Or.inl rfl | exact Or.inr rfl)) pgs_nil)))) (fun _ _ _ _ _ => pts_nil) (fun _ _ _ _ _ => (pv 4)))))
 (pss_one (ps_if (pt_cmp (pc_notN (pe_dget hu (pv 2) pe_str (fun _ _ => rfl)))) (pss_one (ps_expr (pe_bm PySem.F.plainAttrs_list PySem.F.slot_list_append PySem.F.type_list_append mt_append (pv 1) (pa_cons (pe_dget hu (pv 2) pe_str (fun _ _ => rfl)) pa_nil)))) pss_nil)))))
 (pss_one (ps_ret (pe_call (ok__law_reach T) (hr.mono (by decide)) (by rfl) T.g__law_reach (T.f__law_reach).kp T.b__law_reach .nil pass0 (pa_cons (pe_dget hu (pv 0) pe_str (fun _ _ => rfl)) (pa_cons (pv 1) pa_nil))))))), ?_⟩
    refine ⟨Nat.zero_le _, fun r hr0 => ?_⟩
    have s0 := same_new (o := .lst []) hr0
    have la0 := la.same s0
    have hr1 : upd H r (.lst []) r = some (.lst (([] : List Int).map V.int)) := upd_same
    simp only [cxK, cxK2]
    generalize upd H r (.lst []) = H0 at s0 la0 hr1 ⊢
    refine ⟨A0.L, _, la0.L, True.intro, fun od => ?_⟩
    have hL0 := la0.L
    have hgL : DGet (upd H0 A0.L (.frz od (.dK (linesKV A0.ld ln)))) A0.sd (.str "lines") (some (.ref A0.L)) := by
      have z : (upd H0 A0.L (.frz od (.dK (linesKV A0.ld ln)))) A0.sd = some (.dK (stKV A0.P A0.L sp)) := by
        rw [upd_ne la0.n2]
        exact la0.sd
      exact DGet.k (k := (Sum.inr "lines" : Key)) z
    refine ⟨_, rfl, A0.sd, .ref A0.L, rfl, hgL, A0.L, od, _, rfl, upd_same, ?_⟩
    have fin : ∀ (H1 : Hp) (r' : Addr), Same H0 H1 → H1 r' = some (.lst ((heads ln).map V.int)) → DGet H1 A0.sd (.str "pieces") (some (.ref A0.P)) ∧ spReach K [.ref A0.P, .ref r'] H1 Q E0 := fun H1 r' sm e => by
      have la1 := la0.same sm
      refine ⟨DGet.k (k := (Sum.inr "pieces" : Key)) la1.sd, W, A0.P, r', kvs, pc, U, heads ln, rfl, la1.pcs, cl, SqL.of e, hU, hlen, fun H' d kvs' known sm' hd hd' hk nd hm => ?_⟩
      refine k H' d kvs' known (fun b o z => sm' b o (sm b o (s0 b o z))) ?_ hd' hk nd hm
      exact knone (Kp.of_same (S := []) fun b o z => sm b o (s0 b o z)) hd (by simp)
    cases ln with
    | none =>
      refine for_vals (kvs := linesKV A0.ld none) (fun i σ H' => σ = [some (.ref A0.sd), some (.ref r), none, none, none] ∧ H' = upd H0 A0.L (.frz od (.dK (linesKV A0.ld none)))) ⟨rfl, rfl⟩ (fun i σ H' _ z => by rw [z.2]; exact upd_same) (fun i k x σ H' z => nomatch z) ?_
      rintro σ H' ⟨rfl, rfl⟩
      refine ⟨upd_same, ?_⟩
      have sm : Same H0 (upd (upd H0 A0.L (.frz od (.dK (linesKV A0.ld none)))) A0.L (.dK (linesKV A0.ld none))) := Same.unlock hL0 (Same.refl _)
      obtain ⟨g1, g2⟩ := fin _ r sm (sm _ _ hr1)
      exact ⟨_, rfl, A0.sd, .ref A0.P, rfl, g1, _, rfl, g2⟩
    | some l =>
      obtain ⟨mk, rt⟩ := l
      obtain ⟨h1, ⟨ts, h2, h3⟩, h4, h5, h6, h7⟩ := la0.ld mk rt rfl
      have lk : ∀ b o, H0 b = some o → b ≠ A0.L → upd H0 A0.L (.frz od (.dK (linesKV A0.ld (some (mk, rt))))) b = some o := fun b o e n => by rw [upd_ne n]; exact e
      refine for_vals (kvs := linesKV A0.ld (some (mk, rt))) (fun i σ H' => (i = 0 ∧ σ = [some (.ref A0.sd), some (.ref r), none, none, none] ∧ H' = upd H0 A0.L (.frz od (.dK (linesKV A0.ld (some (mk, rt)))))) ∨
        (i = 1 ∧ ∃ r' v2 v3 v4, σ = [some (.ref A0.sd), some (.ref r'), v2, v3, v4] ∧ Same (upd H0 A0.L (.frz od (.dK (linesKV A0.ld (some (mk, rt)))))) H' ∧ H' r' = some (.lst ((heads (some (mk, rt))).map V.int)))) (.inl ⟨rfl, rfl, rfl⟩) ?_ ?_ ?_
      · rintro i σ H' _ (⟨_, _, rfl⟩ | ⟨_, _, _, _, _, _, sm, _⟩)
        · exact upd_same
        · exact sm _ _ upd_same
      · rintro i kk x σ H' hx (⟨rfl, rfl, rfl⟩ | ⟨rfl, _⟩)
        · have ex : x = .ref A0.ld := by
            have : ((Sum.inl 1 : Key), V.ref A0.ld) = (kk, x) := by simpa [linesKV] using hx
            exact (congrArg Prod.snd this).symm
          subst ex
          have g1 : DGet (upd H0 A0.L (.frz od (.dK (linesKV A0.ld (some (mk, rt)))))) A0.ld (.str "makes") (some (.ref A0.lm)) := DGet.k (k := (Sum.inr "makes" : Key)) (lk _ _ h1 h7)
          have h2' := lk _ _ h2 (ne_of h2 hL0 (by intro z; cases z))
          have h3' : MksV (upd H0 A0.L (.frz od (.dK (linesKV A0.ld (some (mk, rt)))))) ts mk := h3.still fun p xs e => lk _ _ e (ne_of e hL0 (by intro z; cases z))
          have h1' := lk _ _ h1 h7
          have hr1' := lk _ _ hr1 (ne_of hr1 hL0 (by intro z; cases z))
          refine ⟨_, rfl, _, rfl, A0.ld, _, rfl, g1, A0.lm, rfl, ⟨ts, SqL.of h2'⟩, fun D hD => ?_⟩
          simp only [cxK, cxK2]
          generalize upd H0 A0.L (.frz od (.dK (linesKV A0.ld (some (mk, rt))))) = HL at g1 h2' h3' h1' hr1' hD ⊢
          have hts := h3.len
          have hmk : mk.length ≤ 1000 := by
            have : (heads (some (mk, rt))).length = mk.length + rt.toList.length := by simp [heads]
            omega
          refine lc_list (xs := ts) (fun i H' => Same HL H' ∧ H' D = some (.lst (((mk.take i).map (·.2)).map V.int))) ⟨same_new hD, upd_same⟩ (fun i H' _ h => SqL.of (h.1 _ _ h2')) ?_ ?_
          · rintro i x H' hx ⟨sm, hDa⟩
            obtain ⟨q, s', r', rfl, hmi, hq⟩ := h3'.at_ hx
            refine ⟨_, _, rfl, SqT.of (sm _ _ hq), rfl, _, _, rfl, _, _, rfl, rfl, rfl, ?_⟩
            refine ⟨_, rfl, _, hDa, small1000' (by rw [List.length_map, List.length_map, List.length_take]; omega), sm.trans2 hD, ?_⟩
            rw [upd_same, List.take_add_one, hmi, List.map_append, List.map_append]
            rfl
          · rintro H2 ⟨sm2, hD2⟩
            rw [hts, List.take_length] at hD2
            have hr2 := sm2 _ _ hr1'
            have h12 := sm2 _ _ h1'
            refine ⟨r, D, [], _, rfl, rfl, hr2, hD2, by rw [List.length_map, List.length_map]; exact small1000'' (by simp; omega), fun e he => ?_⟩
            rw [List.nil_append]
            have s3 := same_new (o := .lst ((mk.map (·.2)).map V.int)) he
            have sm3 : Same HL (upd H2 e (.lst ((mk.map (·.2)).map V.int))) := fun b o z => s3 b o (sm2 b o z)
            have heL : HL e = none := knone (Kp.of_same (S := []) sm2) he (by simp)
            have h13 := s3 _ _ h12
            have he3 : upd H2 e (.lst ((mk.map (·.2)).map V.int)) e = some (.lst ((mk.map (·.2)).map V.int)) := upd_same
            generalize upd H2 e (.lst ((mk.map (·.2)).map V.int)) = H3 at sm3 h13 he3 ⊢
            have g3 : DGet H3 A0.ld (.str "root") (some (rtV rt)) := DGet.k (k := (Sum.inr "root" : Key)) h13
            refine ⟨_, rfl, A0.ld, _, rfl, g3, ?_⟩
            have hld3 : HL r = some (.lst (([] : List Int).map V.int)) := hr1'
            cases rt with
            | none =>
              refine ⟨_, rfl, ?_⟩
              refine iteF (.inr ⟨True.intro, e, _, _, _, rfl, sm3, ?_⟩)
              rw [he3]
              simp [heads]
            | some z =>
              refine ⟨_, rfl, ?_⟩
              refine iteT ⟨_, rfl, .inl ⟨rfl, _, SqL.of he3⟩, _, rfl, A0.ld, _, rfl, g3, e, _, _, rfl, rfl, he3, small1000' (by rw [List.length_map, List.length_map]; omega), .inr ⟨True.intro, e, _, _, _, rfl, sm3.trans2 heL, ?_⟩⟩
              rw [upd_same]
              simp [heads, rtV]
        · exact absurd hx (by simp [linesKV])
      · rintro σ H' (⟨z, _⟩ | ⟨_, r', v2, v3, v4, rfl, sm, e⟩)
        · exact nomatch z
        · refine ⟨sm _ _ upd_same, ?_⟩
          have sm' := Same.unlock hL0 sm
          have e' : upd H' A0.L (.dK (linesKV A0.ld (some (mk, rt)))) r' = some (.lst ((heads (some (mk, rt))).map V.int)) := by
            rw [upd_ne (ne_of e (sm _ _ upd_same) (by intro z; cases z))]
            exact e
          obtain ⟨g1, g2⟩ := fin _ r' sm' e'
          exact ⟨_, rfl, A0.sd, .ref A0.P, rfl, g1, _, rfl, g2⟩
end
end K31

namespace K31
open PySem PySem.Spec PyProof.Rows L2 CwR NdefX LamX
open Cw (Pc pts Good Coming Going inc dec total nodup_len Rch Walking GrowI putP)
/-- the pieces there are: at most N places, few points each -/
structure Pcs (N : Nat) (kvs : DK) (pc : Pc) (U : List Int) : Prop where
  keys : Keys kvs U
  nd : U.Nodup
  there : ∀ q ∈ U, ∃ b l, pc q = some (b, l) ∧ l.length ≤ 4 ∧ l.Pairwise (· < ·) ∧ ∀ p ∈ l, p ∈ U
  out : ∀ q, ¬ q ∈ U → pc q = none
  len : U.length ≤ N
theorem Pcs.closed {N : Nat} {kvs : DK} {pc : Pc} {U : List Int} (h : Pcs N kvs pc U) (n : N ≤ 1000) : Closed pc U := by
  refine ⟨h.nd, fun q hq => ?_, fun q hq p hp => ?_, ?_⟩
  · obtain ⟨b, l, e, _⟩ := h.there q hq
    exact ⟨b, l, e⟩
  · obtain ⟨b, l, e, _, _, k⟩ := h.there q hq
    rw [Cw.pts_some e] at hp
    exact k p hp
  · have : ∀ V : List Int, (∀ q ∈ V, q ∈ U) → (V.map fun q => (pts pc q).length + 1).sum ≤ 5 * V.length := by
      intro V hV
      induction V with
      | nil => exact Nat.le_refl _
      | cons a r ih =>
        obtain ⟨b, l, e, l4, _⟩ := h.there a (hV a List.mem_cons_self)
        have := ih fun q hq => hV q (List.mem_cons_of_mem _ hq)
        rw [List.map_cons, List.sum_cons, List.length_cons, Cw.pts_some e]
        omega
    have := this U fun _ z => z
    have := h.len
    omega
theorem Pcs.rising {N : Nat} {kvs : DK} {pc : Pc} {U : List Int} (h : Pcs N kvs pc U) (q : Int) : (pts pc q).Pairwise (· < ·) := by
  by_cases hq : q ∈ U
  · obtain ⟨b, l, e, _, r, _⟩ := h.there q hq
    rw [Cw.pts_some e]
    exact r
  · have := h.out q hq
    unfold pts
    rw [this]
    exact .nil
theorem Pcs.put {N : Nat} {kvs : DK} {pc : Pc} {U l : List Int} {f b : Int} {v : V} (h : Pcs N kvs pc U) (l4 : l.length ≤ 4) (r : l.Pairwise (· < ·)) (s : ∀ p ∈ l, p ∈ U) : Pcs (N + 1) (putK kvs (.inl f) v) (putP pc f b l) (if f ∈ U then U else U ++ [f]) := by
  have sub : ∀ p ∈ U, p ∈ if f ∈ U then U else U ++ [f] := fun p hp => by
    split
    · exact hp
    · exact List.mem_append_left _ hp
  have hf : f ∈ if f ∈ U then U else U ++ [f] := by
    split
    · assumption
    · simp
  have hor : ∀ q, q ∈ (if f ∈ U then U else U ++ [f]) → q = f ∨ q ∈ U := fun q hq => by
    split at hq
    · exact .inr hq
    · rcases List.mem_append.mp hq with z | z
      · exact .inr z
      · exact .inl (List.mem_singleton.mp z)
  refine ⟨h.keys.put f v, ?_, fun q hq => ?_, fun q hq => ?_, ?_⟩
  · split
    · exact h.nd
    · rename_i n
      refine List.nodup_append.mpr ⟨h.nd, by simp, ?_⟩
      intro a ha c hc e
      have : c = f := by simpa using hc
      exact n (by rw [← this, ← e]; exact ha)
  · by_cases e : q = f
    · subst e
      exact ⟨b, l, Cw.putP_same _ _ _ _, l4, r, fun p hp => sub p (s p hp)⟩
    · obtain ⟨b', l', e', x, y, z⟩ := h.there q ((hor q hq).resolve_left e)
      exact ⟨b', l', by rw [Cw.putP_ne e]; exact e', x, y, fun p hp => sub p (z p hp)⟩
  · have n : q ≠ f := fun e => hq (e ▸ hf)
    rw [Cw.putP_ne n]
    exact h.out q fun z => hq (sub q z)
  · have := h.len
    split
    · omega
    · rw [List.length_append, List.length_singleton]
      omega
theorem PcAt.put {W : List Addr} {H : Hp} {Pa t a : Addr} {kvs : DK} {pc : Pc} {f b : Int} {l : List Int} (h : PcAt W H Pa kvs pc) (ht : H t = some (.tup [.int b, .ref a])) (ha : H a = some (.lst (l.map V.int))) (na : ¬ a ∈ W) :
    PcAt W (upd H Pa (.dK (putK kvs (.inl f) (.ref t)))) Pa (putK kvs (.inl f) (.ref t)) (putP pc f b l) := by
  refine ⟨upd_same, fun q b' l' e => ?_⟩
  have kp : ∀ {x : Addr} {o : HO}, H x = some o → (∀ kvs, o ≠ .dK kvs) → upd H Pa (.dK (putK kvs (.inl f) (.ref t))) x = some o := fun {x o} e n => by
    rw [upd_ne (ne_of e h.dict (n _))]
    exact e
  by_cases z : q = f
  · subst z
    rw [Cw.putP_same] at e
    cases e
    exact ⟨t, a, by rw [valV_putN, if_pos rfl], kp ht (fun _ z => nomatch z), kp ha (fun _ z => nomatch z), na⟩
  · rw [Cw.putP_ne z] at e
    obtain ⟨t', a', h1, h2, h3, h4⟩ := h.get q b' l' e
    exact ⟨t', a', by rw [valV_putN, if_neg z]; exact h1, kp h2 (fun _ z => nomatch z), kp h3 (fun _ z => nomatch z), h4⟩
def OldAt (H : Hp) (a : Addr) (olds : List Int) : Prop := (∃ kvs, H a = some (.dK kvs) ∧ Keys kvs olds) ∨ (H a = some (.lst (([] : List Int).map V.int)) ∧ olds = [])
theorem OldAt.kp {S : List Addr} {H H' : Hp} {a : Addr} {olds : List Int} (h : OldAt H a olds) (k : Kp S H H') (n : ¬ a ∈ S) : OldAt H' a olds := by
  rcases h with ⟨kvs, e, z⟩ | ⟨e, z⟩
  · exact .inl ⟨kvs, k.get e n, z⟩
  · exact .inr ⟨k.get e n, z⟩
/-- enough places are free -/
theorem free_len {n : Nat} {known : List Int} (hk : known.length ≤ n) (lo : Int) : 6 ≤ (((List.range (6 + n)).map fun i : Nat => lo + (i : Int)).filter fun p => !decide (p ∈ known)).length := by
  have nd : ((List.range (6 + n)).map fun i : Nat => lo + (i : Int)).Nodup := by
    refine List.Pairwise.map _ (fun a b (h : a ≠ b) e => h (by omega)) List.nodup_range
  have h1 : ∀ (l : List Int), l.length = (l.filter fun p => decide (p ∈ known)).length + (l.filter fun p => !decide (p ∈ known)).length := by
    intro l
    induction l with
    | nil => rfl
    | cons a r ih =>
      rw [List.filter_cons, List.filter_cons]
      by_cases e : a ∈ known
      · simp only [decide_eq_true e, if_true, Bool.not_true, Bool.false_eq_true, if_false, List.length_cons]
        omega
      · simp only [decide_eq_false e, Bool.not_false, if_true, Bool.false_eq_true, if_false, List.length_cons]
        omega
  have h2 := h1 ((List.range (6 + n)).map fun i : Nat => lo + (i : Int))
  have h3 := nodup_len (U := known) (nd.filter fun p => decide (p ∈ known)) fun q hq => of_decide_eq_true (List.mem_filter.mp hq).2
  rw [List.length_map, List.length_range] at h2
  omega
/-- what a tree changes -/
def Grew (pc pc' : Pc) (hs : List Int) (r : Int) (U' : List Int) : Prop := ∃ fr, GrowI pc pc' (Rch pc hs) fr ∧ r ∈ fr ∧ ∀ q ∈ fr, q ∈ U'
end K31

namespace K31
open PySem PySem.Spec PyProof.Rows L2 CwR NdefX LamX
open Cw (Pc pts Good Coming Going inc dec total nodup_len Rch Walking GrowI putP)
section
variable {W : List Addr} {H H' : Hp} {A : La} {ln : Ln} {sp : Int} {kvs : DK} {pc : Pc}
theorem LA.weak {W' : List Addr} (h : LA W H A ln sp kvs pc) (s : ∀ a ∈ W', a ∈ W) (m : ln ≠ none → A.lm ∈ W') : LA W' H A ln sp kvs pc := ⟨h.sd, h.L, fun mk rt e => let ⟨h1, h2, _, h4⟩ := h.ld mk rt e; ⟨h1, h2, m (by rw [e]; simp), h4⟩, h.pcs.sub s, h.n1, h.n2, h.n3⟩
theorem LA.stamp (h : LA W H A ln sp kvs pc) (sp' : Int) : LA W (upd H A.sd (.dK (stKV A.P A.L sp'))) A ln sp' kvs pc := by
  have k := upd_kp H A.sd (.dK (stKV A.P A.L sp'))
  have hS := mut1 (W := W) h.sd True.intro fun xs z => nomatch z
  refine ⟨upd_same, k.get h.L (by simpa using h.n2.symm), fun mk rt e => ?_, h.pcs.kp k (by simpa using h.n1.symm) hS, h.n1, h.n2, h.n3⟩
  obtain ⟨h1, h2, h3, h4, h5, h6⟩ := h.ld mk rt e
  obtain ⟨ts, hl, hv⟩ := id h2
  exact ⟨k.get h1 (by simpa using h4), h2.kp k (by simpa using ne_of hl h.sd (by intro z; cases z)) fun c z u hu => (hS c z u hu).1, h3, h4, h5, h6⟩
theorem LA.piece {kvs' : DK} {pc' : Pc} (h : LA W H A ln sp kvs pc) (p : PcAt W (upd H A.P (.dK kvs')) A.P kvs' pc') : LA W (upd H A.P (.dK kvs')) A ln sp kvs' pc' := by
  have k := upd_kp H A.P (.dK kvs')
  have hS := mut1 (W := W) h.pcs.dict True.intro fun xs z => nomatch z
  refine ⟨k.get h.sd (by simpa using h.n1), k.get h.L (by simpa using h.n3.symm), fun mk rt e => ?_, p, h.n1, h.n2, h.n3⟩
  obtain ⟨h1, h2, h3, h4, h5, h6⟩ := h.ld mk rt e
  obtain ⟨ts, hl, hv⟩ := id h2
  exact ⟨k.get h1 (by simpa using h5), h2.kp k (by simpa using ne_of hl h.pcs.dict (by intro z; cases z)) fun c z u hu => (hS c z u hu).1, h3, h4, h5, h6⟩
/-- a list of the frame's own changes -/
theorem LA.lput {lf : Addr} {xs ys : List V} (h : LA W H A ln sp kvs pc) (hl : H lf = some (.lst xs)) (hw : lf ∈ W) (n : ln ≠ none → lf ≠ A.lm) : LA W (upd H lf (.lst ys)) A ln sp kvs pc := by
  refine h.kp (upd_kp H lf _) (fun a ha z => ?_) (fun e => ⟨?_, by simpa using (n e).symm⟩) (mut1 hl True.intro fun _ _ => hw)
  · obtain rfl : a = lf := by simpa using z
    rcases (by simpa using ha : a = A.sd ∨ a = A.P ∨ a = A.L) with e | e | e
    · exact ne_of h.sd hl (by intro z; cases z) e.symm
    · exact ne_of h.pcs.dict hl (by intro z; cases z) e.symm
    · exact ne_of h.L hl (by intro z; cases z) e.symm
  · cases ln with
    | none => exact absurd rfl e
    | some l =>
      obtain ⟨h1, _⟩ := h.ld l.1 l.2 rfl
      simpa using ne_of h1 hl (by intro z; cases z)
theorem putK_stamp (P L : Addr) (sp sp' : Int) : putK (stKV P L sp) (.inr "stamp") (.int sp') = stKV P L sp' := rfl
end
section
variable {P : Program} {w : World} {K : PySem.W.Frag} {mg : Str → Option Value} {base : Heap}
theorem sc__law_tree : FnScope ["_law_state", "_law_numbers", "_law_old", "_law_lying_here", "_law_free", "_law_fresh", "_law_k", "_law_some", "_law_points_here", "_law_j", "_law_place"] ["_law_state", "_law_numbers", "_law_old"] (defScope s__law_tree) := ⟨rfl, rfl, rfl, by decide +kernel, rfl, by decide +kernel, by decide +kernel⟩
def spTree (K : PySem.W.Frag) : Sp := fun vs H Q _ => ∃ (W : List Addr) (A : La) (ln : Ln) (sp : Int) (kvs : DK) (pc : Pc) (U : List Int) (N : Nat) (nl oa : Addr) (ns olds : List Int), vs = [.ref A.sd, .ref nl, .ref oa] ∧ LA W H A ln sp kvs pc ∧ Pcs N kvs pc U ∧ N ≤ 900 ∧
  (∀ r ∈ heads ln, r ∈ U) ∧ (heads ln).length ≤ 1000 ∧ (∀ a ∈ W, H a ≠ none) ∧ H nl = some (.lst (ns.map V.int)) ∧ ns.length = 12 ∧ OldAt H oa olds ∧ oa ≠ A.sd ∧ oa ≠ A.P ∧ (∀ p ∈ olds, Rch pc (heads ln) p) ∧ olds.Nodup ∧
  ∀ (H' : Hp) (kvs' : DK) (pc' : Pc) (U' : List Int) (r : Int), Kp [A.sd, A.P] H H' → LA W H' A ln (sp + 1) kvs' pc' → Pcs (N + 4) kvs' pc' U' → (∀ p ∈ U, p ∈ U') → Grew pc pc' (heads ln) r U' → Q (.int r) H'
theorem ok__law_tree (T : Txt K mg) : FnOk P w K mg base CX0 3 (He.fAd K ("_law_tree", none)) (CwH.fdOf K ("_law_tree", none)) ["_law_state", "_law_numbers", "_law_old"] (spTree K) := by
  refine T.f__law_tree.ok sc__law_tree (fun vs H Q E h => ?_) (fun cdv A outer s H vs Q E hr h => ?_)
  · obtain ⟨_, _, _, _, _, _, _, _, _, _, _, _, rfl, _⟩ := h
    rfl
  · obtain ⟨W, A0, ln, sp, kvs, pc, U, N, nl, oa, ns, olds, rfl, la, ps, hN, hU, hlen, alive, hn, hn12, ho, no1, no2, hold, ndo, k⟩ := h
    have hu := hu_of hr
    have cl := ps.closed (by omega)
    refine ⟨_, (pss_cons (ps_dput hu (pv 0) pe_str (pe_op op_add (pe_dget hu (pv 0) pe_str (fun _ _ => rfl)) pe_int) rfl)
 (pss_cons (ps_set (i := 3) sc__law_tree.nd rfl (by first | exact Or.inl rfl | exact Or.inr rfl) (pe_call (ok__law_lying T) (hr.mono (by decide)) (by rfl) T.g__law_lying (T.f__law_lying).kp T.b__law_lying .nil pass0 (pa_cons (pv 0) pa_nil)))
 (pss_cons (ps_setLc (i := 4) (own := [("_law_place", 10)]) rfl sc__law_tree.nd rfl rfl (sw_true rfl rfl rfl (by decide +kernel)) (pi_range2 rfl T.free_range (pa_cons pe_int (pa_cons (pe_op op_add pe_int (pe_callB call_lenD (by rfl) T.free_len (by decide +kernel) (pa_cons (pv 3) pa_nil))) pa_nil))) (blkOk_by (own := [("_law_place", 10)]) (N := ["_law_state", "_law_numbers", "_law_old", "_law_lying_here", "_law_free", "_law_fresh", "_law_k", "_law_some", "_law_points_here", "_law_j", "_law_place"]) (sc := defScope s__law_tree) (by decide +kernel)) (fun _ _ _ _ _ => (pg_name (i := 10) sc__law_tree.nd rfl (by first | exact Or.inl rfl | exact Or.inr rfl))) (fun _ _ _ _ _ => (pts_one (pt_cmp (pc_dnotin hu (pv 10) (pv 3))))) (fun _ _ _ _ _ => (pv 10)))
 (pss_cons (ps_set (i := 5) sc__law_tree.nd rfl (by first | exact Or.inl rfl | exact Or.inr rfl) (pe_lst pa_nil))
 (pss_cons (ps_for PassesOwn.never rfl (pi_range1 rfl T.free_range (pa_cons (pe_op op_add pe_int (pe_op op_mod (pe_ix (show IxR _ (rIxL K) from ix_list) (pv 1) pe_int (fun _ _ => rfl)) pe_int)) pa_nil)) (pg_name (i := 6) sc__law_tree.nd rfl (by first | exact Or.inl rfl | exact Or.inr rfl))
  (pss_cons (ps_set (i := 7) sc__law_tree.nd rfl (by first | exact Or.inl rfl | exact Or.inr rfl) (pe_op op_cat (pe_callB (CwR.call_or (call_sortedD0 rfl) (show CallR _ _ (rSortedI K) from cr_sortedI)) (by rfl) T.free_sorted (by decide +kernel) (pa_cons (pv 2) pa_nil)) (pv 5)))
 (pss_cons (ps_set (i := 8) sc__law_tree.nd rfl (by first | exact Or.inl rfl | exact Or.inr rfl) pe_dnewK)
 (pss_cons (ps_for PassesOwn.never rfl (pi_range1 rfl T.free_range (pa_cons (pe_callB (call_min2 rfl) (by rfl) T.free_min (by decide +kernel) (pa_cons (pe_callB call_len_seq (by rfl) T.free_len (by decide +kernel) (pa_cons (pv 7) pa_nil)) (pa_cons (pe_op op_mod (pe_ix (show IxR _ (rIxL K) from ix_list) (pv 1) (pe_op op_add pe_int (pv 6)) (fun _ _ => rfl)) pe_int) pa_nil))) pa_nil)) (pg_name (i := 9) sc__law_tree.nd rfl (by first | exact Or.inl rfl | exact Or.inr rfl))
  (pss_one (ps_dput hu (pv 8) (pe_ix (show IxR _ (rIxL K) from ix_list) (pv 7) (pe_op op_mod (pe_op op_fdiv (pe_ix (show IxR _ (rIxL K) from ix_list) (pv 1) (pe_op op_add pe_int (pv 6)) (fun _ _ => rfl)) (pe_ix (show IxR _ (rIxL K) from ix_list) (pe_lst (pa_cons pe_int (pa_cons pe_int (pa_cons pe_int pa_nil)))) (pv 9) (fun _ _ => rfl))) (pe_callB call_len_seq (by rfl) T.free_len (by decide +kernel) (pa_cons (pv 7) pa_nil))) (fun _ _ => rfl)) pe_bl rfl)))
 (pss_cons (ps_if (PW.pt (pw_and (pt_cmpR (op_neD hr.units) (pv 5) (pe_lst pa_nil) (nomark _)) (pw_and1 (pt_cmpR op_gt (pe_op op_mod (pe_op op_fdiv (pe_ix (show IxR _ (rIxL K) from ix_list) (pv 1) (pe_op op_add pe_int (pv 6)) (fun _ _ => rfl)) pe_int) pe_int) pe_int (nomark _))))) (pss_one (ps_dput hu (pv 8) (pe_ix (show IxR _ (rIxL K) from ix_list) (pv 5) (pe_un un_neg pe_int) (fun _ _ => rfl)) pe_bl rfl)) pss_nil)
 (pss_cons (ps_dput hu (pe_dget hu (pv 0) pe_str (fun _ _ => rfl)) (pe_ix (show IxR _ (rIxL K) from ix_list) (pv 4) (pv 6) (fun _ _ => rfl)) (pe_tup (pa_cons (pe_dget hu (pv 0) pe_str (fun _ _ => rfl)) (pa_cons (pe_callB (call_sortedD0 rfl) (by rfl) T.free_sorted (by decide +kernel) (pa_cons (pv 8) pa_nil)) pa_nil))) rfl)
 (pss_one (ps_expr (pe_bm PySem.F.plainAttrs_list PySem.F.slot_list_append PySem.F.type_list_append mt_append (pv 5) (pa_cons (pe_ix (show IxR _ (rIxL K) from ix_list) (pv 4) (pv 6) (fun _ _ => rfl)) pa_nil))))))))))
 (pss_one (ps_ret (pe_ix (show IxR _ (rIxL K) from ix_list) (pv 5) (pe_un un_neg pe_int) (fun _ _ => rfl))))))))), ?_⟩
    -- state['stamp'] = state['stamp'] + 1
    have hg : DGet H A0.sd (.str "stamp") (some (.int sp)) := DGet.k (k := (Sum.inr "stamp" : Key)) la.sd
    refine ⟨_, rfl, A0.sd, .int sp, rfl, hg, _, _, rfl, rfl, _, rfl, A0.sd, _, rfl, DPut.k (k := (Sum.inr "stamp" : Key)) la.sd (by show 3 < sizeLine; decide), ?_⟩
    rw [putK_stamp]
    have la1 := la.stamp (sp + 1)
    have nnl : nl ≠ A0.sd := ne_of hn la.sd (by intro z; cases z)
    have kp1 : Kp [A0.sd, A0.P] H (upd H A0.sd (.dK (stKV A0.P A0.L (sp + 1)))) := (Kp.refl _ _).put (.inl (by simp))
    simp only [cxK, cxK2]
    generalize upd H A0.sd (.dK (stKV A0.P A0.L (sp + 1))) = H1 at la1 kp1 ⊢
    -- lying
    refine ⟨_, rfl, W, A0, ln, sp + 1, kvs, pc, U, rfl, la1, cl, hU, hlen, fun H2 d kvsd known s2 hd hd2 hkd ndk hrk => ?_⟩
    have la2 := la1.same s2
    have kp2 := kp1.same s2
    have hkU : ∀ p ∈ known, p ∈ U := fun p hp => by
      have := (hrk p).mp hp
      induction this with
      | root h => exact hU _ h
      | step h1 h2 ih => exact cl.sub _ (ih ((hrk _).mpr h1)) _ h2
    have hkl : known.length ≤ N := Nat.le_trans (nodup_len ndk hkU) ps.len
    -- free
    refine ⟨_, rfl, d, kvsd, rfl, hd2, _, _, rfl, rfl, 2, _, rfl, ⟨by decide, by decide, by omega, ?_⟩, fun D hD => ?_⟩
    · rw [hkd.len]
      omega
    have enn : (8 + (kvsd.length : Int) - 2).toNat = 6 + known.length := by rw [hkd.len]; omega
    rw [enn]
    have hD0 : H D = none := knone kp2 hD (by simpa using ⟨by rw [la2.sd]; simp, by rw [la2.pcs.dict]; simp⟩)
    refine lc_range (fun i H' => Same H2 H' ∧ H' D = some (.lst (((((List.range i).map fun i : Nat => (2 : Int) + (i : Int)).filter fun p => !decide (p ∈ known))).map V.int))) ⟨same_new hD, upd_same⟩ ?_ ?_
    · rintro i H' hi ⟨sm, hDa⟩
      refine ⟨rfl, ?_⟩
      refine ⟨_, rfl, _, rfl, d, _, rfl, DGet.k (k := Sum.inl (2 + (i : Int))) (sm _ _ hd2), _, rfl, ?_⟩
      rw [hkd.isSome]
      have er : ((List.range (i + 1)).map fun i : Nat => (2 : Int) + (i : Int)) = ((List.range i).map fun i : Nat => (2 : Int) + (i : Int)) ++ [2 + (i : Int)] := by
        rw [List.range_succ, List.map_append]
        rfl
      by_cases e : (2 + (i : Int)) ∈ known
      · rw [decide_eq_true e]
        refine iteF ⟨sm, ?_⟩
        rw [er, List.filter_append, List.filter_cons_of_neg (by simp [e]), List.filter_nil, List.append_nil]
        exact hDa
      · rw [decide_eq_false e]
        refine iteT ⟨_, rfl, _, hDa, ?_, sm.trans2 hD, ?_⟩
        · refine small1000' ?_
          rw [List.length_map]
          refine Nat.le_trans (List.length_filter_le _ _) ?_
          rw [List.length_map, List.length_range]
          omega
        · rw [upd_same, er, List.filter_append, List.filter_cons_of_pos (by simp [e]), List.filter_nil, List.map_append]
          rfl
    rintro H3 ⟨s3, hD3⟩
    have hfree := free_len (known := known) (Nat.le_refl _) 2
    have hfnd : ((((List.range (6 + known.length)).map fun i : Nat => (2 : Int) + (i : Int)).filter fun p => !decide (p ∈ known))).Nodup := by
      exact List.Pairwise.filter _ (List.Pairwise.map _ (fun a b (h : a ≠ b) e => h (by omega)) List.nodup_range)
    have hfk : ∀ q ∈ ((((List.range (6 + known.length)).map fun i : Nat => (2 : Int) + (i : Int)).filter fun p => !decide (p ∈ known))), ¬ Rch pc (heads ln) q := fun q hq z => by
      have := (List.mem_filter.mp hq).2
      rw [decide_eq_true ((hrk q).mpr z)] at this
      cases this
    generalize (((List.range (6 + known.length)).map fun i : Nat => (2 : Int) + (i : Int)).filter fun p => !decide (p ∈ known)) = free at hD3 hfree hfnd hfk
    have la3 := la2.same s3
    have kp3 := kp2.same s3
    -- fresh = []
    refine ⟨Nat.zero_le _, fun f hf => ?_⟩
    have hf0 : H f = none := knone kp3 hf (by simpa using ⟨by rw [la3.sd]; simp, by rw [la3.pcs.dict]; simp⟩)
    have s4 := same_new (o := .lst []) hf
    have la4 := (la3.fresh hf).same s4
    have kp4 := kp3.same s4
    have hD4 := s4 _ _ hD3
    have hf4 : upd H3 f (.lst []) f = some (.lst (([] : List Int).map V.int)) := upd_same
    have nDf : D ≠ f := ne_of_none hD3 hf
    simp only [cxK, cxK2]
    generalize upd H3 f (.lst []) = H4 at la4 kp4 hD4 hf4 ⊢
    have nlS : ∀ a ∈ [A0.sd, A0.P], ¬ a = nl := by simpa using ⟨nnl.symm, (ne_of hn la.pcs.dict (by intro z; cases z)).symm⟩
    have keepN : ∀ {H'}, Kp [A0.sd, A0.P] H H' → H' nl = some (.lst (ns.map V.int)) := fun kk => kk.get hn fun z => nlS _ z rfl
    have atN : ∀ i : Nat, i < 12 → ∃ z : Int, atI (ns.map V.int) (i : Int) = some (V.int z) := fun i hi => by
      have : i < ns.length := by omega
      exact ⟨ns[i], atI_nat (by rw [List.getElem?_map, List.getElem?_eq_getElem this]; rfl)⟩
    obtain ⟨n0, hn0⟩ := atN 0 (by decide)
    have b0 := Int.emod_nonneg n0 (show (4 : Int) ≠ 0 by decide)
    have b1 := Int.emod_lt_of_pos n0 (show (0 : Int) < 4 by decide)
    -- for k in range(..)
    refine ⟨_, rfl, nl, _, _, _, rfl, rfl, SqL.of (keepN kp4), hn0, _, _, rfl, rfl, (show (0 : Int) < 4 by decide), _, _, rfl, rfl, _, rfl, ?_, ?_, ?_⟩
    · exact Int.le_trans (by decide) (Int.add_nonneg (by decide) b0)
    · exact Int.lt_trans (Int.add_lt_add_left b1 1) (by decide)
    have e1 : ((1 : Int) + n0 % 4).toNat ≤ 4 := by omega
    have e2 : 1 ≤ ((1 : Int) + n0 % 4).toNat := by omega
    refine for_range (fun i σ H' => ∃ (v6 v7 v8 v9 v10 : Option V) (fr : List Int) (kvs' : DK) (pc' : Pc) (U' : List Int), σ = [some (.ref A0.sd), some (.ref nl), some (.ref oa), some (.ref d), some (.ref D), some (.ref f), v6, v7, v8, v9, v10] ∧ Kp [A0.sd, A0.P] H H' ∧ LA (f :: W) H' A0 ln (sp + 1) kvs' pc' ∧
      Pcs (N + i) kvs' pc' U' ∧ (∀ p ∈ U, p ∈ U') ∧ H' D = some (.lst (free.map V.int)) ∧ H' f = some (.lst (fr.map V.int)) ∧ fr = free.take i ∧ GrowI pc pc' (Rch pc (heads ln)) fr ∧ (∀ q ∈ fr, q ∈ U'))
      ⟨none, none, none, none, none, [], kvs, pc, U, rfl, kp4, la4, ps, fun _ h => h, hD4, hf4, rfl, GrowI.nil _ _, fun _ h => (nomatch h)⟩ ?_ ?_
    · rintro i σ H5 hi ⟨v6, v7, v8, v9, v10, fr, kvs', pc', U', rfl, kp5, la5, ps5, su5, hD5, hf5, efr, gi5, fu5⟩
      have hi4 : i < 4 := by omega
      have hfrl : fr.length = i := by
        rw [efr, List.length_take]
        omega
      have hol : olds.length ≤ N := Nat.le_trans (nodup_len ndo fun p hp => hkU p ((hrk p).mpr (hold p hp))) (by have := nodup_len ndk hkU; exact ps.len)
      have ho5 := ho.kp kp5 (by simpa using ⟨no1, no2⟩)
      have hsort : ∀ (R : VK), (∀ (ys : List Int) (p : Addr), ys.Perm olds → H5 p = none → R (.ref p) (upd H5 p (.lst (ys.map V.int)))) → rSortedD [.ref oa] H5 R ∨ rSortedI K [.ref oa] H5 R := fun R q => by
        rcases ho5 with ⟨kvsO, e, z⟩ | ⟨e, z⟩
        · exact .inl ⟨oa, kvsO, olds, rfl, Rd.of e, z, fun ys p h1 _ h3 => q ys p h1 h3⟩
        · exact .inr ⟨oa, [], rfl, SqL.of e, fun ys p h1 _ h3 => q ys p (by rw [z]; exact h1) h3⟩
      have hPs : ∀ {H' : Hp} {p : Addr}, Kp [A0.sd, A0.P] H H' → LA (f :: W) H' A0 ln (sp + 1) kvs' pc' → H' p = none → H p = none := fun kk ll hp => knone kk hp (by simpa using ⟨by rw [ll.sd]; simp, by rw [ll.pcs.dict]; simp⟩)
      -- some = sorted(old) + fresh
      refine ⟨_, rfl, hsort _ fun ys p6 hy hp6 => ?_⟩
      have s6 := same_new (o := .lst (ys.map V.int)) hp6
      have hf6 := s6 _ _ hf5
      have hy6 : upd H5 p6 (.lst (ys.map V.int)) p6 = some (.lst (ys.map V.int)) := upd_same
      have hyl : ys.length = olds.length := hy.length_eq
      refine ⟨_, rfl, p6, f, _, _, rfl, rfl, hy6, hf6, by rw [List.length_map, List.length_map]; exact small1000'' (by omega), fun p7 hp7 => ?_⟩
      have s7 := same_new (o := .lst (ys.map V.int ++ fr.map V.int)) hp7
      have s57 : Same H5 (upd (upd H5 p6 (.lst (ys.map V.int))) p7 (.lst (ys.map V.int ++ fr.map V.int))) := fun b o z => s7 b o (s6 b o z)
      have hp77 : upd (upd H5 p6 (.lst (ys.map V.int))) p7 (.lst (ys.map V.int ++ fr.map V.int)) p7 = some (.lst ((ys ++ fr).map V.int)) := by rw [upd_same, List.map_append]
      generalize upd (upd H5 p6 (.lst (ys.map V.int))) p7 (.lst (ys.map V.int ++ fr.map V.int)) = H7 at s57 hp77 ⊢
      have hsome : ∀ q ∈ ys ++ fr, Rch pc (heads ln) q ∨ q ∈ fr := fun q hq => by
        rcases List.mem_append.mp hq with z | z
        · exact .inl (hold q (hy.mem_iff.mp z))
        · exact .inr z
      have hsl : (ys ++ fr).length ≤ 1000 := by rw [List.length_append]; omega
      generalize ys ++ fr = some_ at hp77 hsome hsl
      -- points = {}
      refine fun p8 hp8 => ?_
      have s8 := same_new (o := .dK []) hp8
      have s58 : Same H5 (upd H7 p8 (.dK [])) := fun b o z => s8 b o (s57 b o z)
      have h58 : H5 p8 = none := knone (Kp.of_same (S := []) s57) hp8 (by simp)
      have hp87 := s8 _ _ hp77
      have hp88 : upd H7 p8 (.dK []) p8 = some (.dK []) := upd_same
      have n87 : p7 ≠ p8 := ne_of_none hp77 hp8
      generalize upd H7 p8 (.dK []) = H8 at s58 hp87 hp88 ⊢
      obtain ⟨n1, hn1⟩ := atN (1 + i) (by omega)
      obtain ⟨n5, hn5⟩ := atN (5 + i) (by omega)
      have hn1' : atI (ns.map V.int) (1 + (0 + (i : Int))) = some (V.int n1) := by rw [← hn1]; congr 1; omega
      have hn5' : atI (ns.map V.int) (5 + (0 + (i : Int))) = some (V.int n5) := by rw [← hn5]; congr 1; omega
      have c0 := Int.emod_nonneg n1 (show (4 : Int) ≠ 0 by decide)
      have c1 := Int.emod_lt_of_pos n1 (show (0 : Int) < 4 by decide)
      have hnl8 := s58 _ _ (keepN kp5)
      -- for j in range(min(..))
      refine ⟨_, rfl, p7, _, rfl, .inl (SqL.of hp87), _, rfl, _, rfl, _, _, rfl, rfl, nl, _, _, _, rfl, rfl, SqL.of hnl8, hn1', _, _, rfl, rfl, (show (0 : Int) < 4 by decide), _, _, rfl, _, rfl, ?_⟩
      rw [List.length_map]
      obtain ⟨mj, hmj, hm4, hms⟩ : ∃ mj : Int, (if n1 % 4 < (some_.length : Int) then n1 % 4 else (some_.length : Int)) = mj ∧ (0 ≤ mj ∧ mj < 4) ∧ mj ≤ some_.length := ⟨_, rfl, by split <;> omega, by split <;> omega⟩
      rw [hmj]
      refine ⟨by omega, by omega, ?_⟩
      refine for_range (fun j σ H' => ∃ (v9 : Option V) (ks8 : List Int) (kvs8 : DK), σ = [some (.ref A0.sd), some (.ref nl), some (.ref oa), some (.ref d), some (.ref D), some (.ref f), some (.int (0 + (i : Int))), some (.ref p7), some (.ref p8), v9, v10] ∧ Same H5 H' ∧ H' p7 = some (.lst (some_.map V.int)) ∧ H' p8 = some (.dK kvs8) ∧ Keys kvs8 ks8 ∧ ks8.Nodup ∧ ks8.length ≤ j ∧ ∀ q ∈ ks8, q ∈ some_)
        ⟨_, [], [], rfl, s58, hp87, hp88, rfl, List.nodup_nil, Nat.le_refl _, fun _ h => (nomatch h)⟩ ?_ ?_
      · rintro j σ H9 hj ⟨v9, ks8, kvs8, rfl, s59, hp97, hp98, hk8, nd8, hl8, hs8⟩
        have hlp : 0 < some_.length := by omega
        obtain ⟨dj, hdj, hdp⟩ : ∃ dj : Int, atI [V.int 1, V.int 7, V.int 49] (0 + (j : Int)) = some (V.int dj) ∧ 0 < dj ∧ dj < 1073741824 := by
          rcases (by omega : j = 0 ∨ j = 1 ∨ j = 2) with e | e | e
          · subst e; exact ⟨1, rfl, by decide, by decide⟩
          · subst e; exact ⟨7, rfl, by decide, by decide⟩
          · subst e; exact ⟨49, rfl, by decide, by decide⟩
        have hnl9 := s59 _ _ (keepN kp5)
        refine ⟨_, rfl, _, rfl, _, rfl, _, rfl, _, _, rfl, rfl, nl, _, _, _, rfl, rfl, SqL.of hnl9, hn5', (by show 3 ≤ sizeLine; decide), fun l49 hl49 => ?_⟩
        have sA := same_new (o := .lst [.int 1, .int 7, .int 49]) hl49
        have hpA7 := sA _ _ hp97
        have hpA8 := sA _ _ hp98
        refine ⟨_, rfl, l49, _, _, _, rfl, rfl, SqL.of upd_same, hdj, _, _, rfl, rfl, hdp, _, rfl, p7, _, rfl, .inl (SqL.of hpA7), _, _, rfl, rfl, (show (0 : Int) < ((some_.map V.int).length : Int) by rw [List.length_map]; omega), ?_⟩
        have sA5 : Same H5 (upd H9 l49 (.lst [.int 1, .int 7, .int 49])) := fun b o z => sA b o (s59 b o z)
        generalize upd H9 l49 (.lst [.int 1, .int 7, .int 49]) = HA at hpA7 hpA8 sA5 ⊢
        have r0 := Int.emod_nonneg (n5 / dj) (show ((some_.map V.int).length : Int) ≠ 0 by rw [List.length_map]; omega)
        have r1 := Int.emod_lt_of_pos (n5 / dj) (show (0 : Int) < ((some_.map V.int).length : Int) by rw [List.length_map]; omega)
        obtain ⟨ix, hix⟩ := Int.eq_ofNat_of_zero_le r0
        have hixl : ix < some_.length := by
          rw [hix, List.length_map] at r1
          omega
        refine ⟨p7, _, _, .int some_[ix], rfl, rfl, SqL.of hpA7, ?_, ?_⟩
        · show atI (some_.map V.int) (n5 / dj % ((some_.map V.int).length : Int)) = _
          rw [hix]
          exact atI_nat (by rw [List.getElem?_map, List.getElem?_eq_getElem hixl]; rfl)
        refine ⟨p8, _, rfl, DPut.k (k := Sum.inl some_[ix]) hpA8 (small1000' (by rw [hk8.len]; omega)), ?_⟩
        refine ⟨_, if some_[ix] ∈ ks8 then ks8 else ks8 ++ [some_[ix]], _, rfl, sA5.trans2 h58, by rw [upd_ne n87]; exact hpA7, upd_same, hk8.put _ _, ?_, ?_, ?_⟩
        · split
          · exact nd8
          · rename_i n
            refine List.nodup_append.mpr ⟨nd8, by simp, ?_⟩
            intro a ha c hc e
            have : c = some_[ix] := by simpa using hc
            exact n (by rw [← this, ← e]; exact ha)
        · split
          · omega
          · rw [List.length_append, List.length_singleton]
            omega
        · intro q hq
          split at hq
          · exact hs8 q hq
          · rcases List.mem_append.mp hq with z | z
            · exact hs8 q z
            · rw [List.mem_singleton.mp z]
              exact List.getElem_mem hixl
      · rintro σ H9 ⟨v9, ks8, kvs8, rfl, s59, hp97, hp98, hk8, nd8, hl8, hs8⟩
        have hf9 := s59 _ _ hf5
        have hmj : mj.toNat ≤ 3 := by omega
        refine t_neNil (xs := fr) rfl hf9 fun pA hpA => ?_
        have sA := same_new (o := .lst []) hpA
        have sF : Same H5 (upd H9 pA (.lst [])) := fun b o z => sA b o (s59 b o z)
        have hp8F := sA _ _ hp98
        have hs8' : ∀ q ∈ ks8, Rch pc (heads ln) q ∨ q ∈ fr := fun q hq => hsome q (hs8 q hq)
        generalize upd H9 pA (.lst []) = HB at sF hp8F ⊢
        rcases snoc_cases fr with hfr | ⟨fr', r, hfr⟩
        case' inl =>
          rw [decide_eq_true hfr]
          refine iteF (iteF ?_)
          obtain ⟨HF, ksF, kvsF, eF, sF, hpF, hkF, ndF, hlF, hsF⟩ : ∃ (HF : Hp) (ksF : List Int) (kvsF : DK), HF = HB ∧ Same H5 HF ∧ HF p8 = some (.dK kvsF) ∧ Keys kvsF ksF ∧ ksF.Nodup ∧ ksF.length ≤ 4 ∧ (∀ q ∈ ksF, Rch pc (heads ln) q ∨ q ∈ fr) := ⟨_, ks8, kvs8, rfl, sF, hp8F, hk8, nd8, by omega, hs8'⟩
          rw [← eF]
        case' inr =>
          rw [decide_eq_false (show ¬ fr = [] by rw [hfr]; simp)]
          refine iteT ?_
          refine ⟨_, rfl, _, rfl, _, _, rfl, rfl, nl, _, _, _, rfl, rfl, SqL.of (sF _ _ (keepN kp5)), hn1', _, _, rfl, rfl, ⟨by decide, by decide⟩, _, _, rfl, rfl, (show (0 : Int) < 3 by decide), _, _, rfl, rfl, _, rfl, ?_⟩
          by_cases hz : (0 : Int) < n1 / 4 % 3
          case' pos =>
            rw [decide_eq_true hz]
            refine iteT ?_
            have hfB := sF _ _ hf5
            have hrf : r ∈ fr := by rw [hfr]; simp
            have eat : atI (fr.map V.int) (-1) = some (.int r) := by
              rw [hfr, List.map_append]
              exact atI_last _ _
            refine ⟨_, rfl, _, rfl, _, rfl, f, _, -1, .int r, rfl, rfl, SqL.of hfB, eat, p8, _, rfl, DPut.k (k := Sum.inl r) hp8F (small1000' (by rw [hk8.len]; omega)), ?_⟩
            obtain ⟨HF, ksF, kvsF, eF, sF, hpF, hkF, ndF, hlF, hsF⟩ : ∃ (HF : Hp) (ksF : List Int) (kvsF : DK), HF = upd HB p8 (.dK (putK kvs8 (.inl r) (.bl true))) ∧ Same H5 HF ∧ HF p8 = some (.dK kvsF) ∧ Keys kvsF ksF ∧ ksF.Nodup ∧ ksF.length ≤ 4 ∧ (∀ q ∈ ksF, Rch pc (heads ln) q ∨ q ∈ fr) := by
              refine ⟨_, if r ∈ ks8 then ks8 else ks8 ++ [r], _, rfl, sF.trans2 h58, upd_same, hk8.put _ _, ?_, ?_, ?_⟩
              · split
                · exact nd8
                · rename_i n
                  refine List.nodup_append.mpr ⟨nd8, by simp, ?_⟩
                  intro a ha c hc e
                  have : c = r := by simpa using hc
                  exact n (by rw [← this, ← e]; exact ha)
              · split
                · omega
                · rw [List.length_append, List.length_singleton]
                  omega
              · intro q hq
                split at hq
                · exact hs8' q hq
                · rcases List.mem_append.mp hq with z | z
                  · exact hs8' q z
                  · rw [List.mem_singleton.mp z]
                    exact .inr hrf
            rw [← eF]
          case' neg =>
            rw [decide_eq_false hz]
            refine iteF ?_
            obtain ⟨HF, ksF, kvsF, eF, sF, hpF, hkF, ndF, hlF, hsF⟩ : ∃ (HF : Hp) (ksF : List Int) (kvsF : DK), HF = HB ∧ Same H5 HF ∧ HF p8 = some (.dK kvsF) ∧ Keys kvsF ksF ∧ ksF.Nodup ∧ ksF.length ≤ 4 ∧ (∀ q ∈ ksF, Rch pc (heads ln) q ∨ q ∈ fr) := ⟨_, ks8, kvs8, rfl, sF, hp8F, hk8, nd8, by omega, hs8'⟩
            rw [← eF]
        all_goals
          clear eF
          have laF := la5.same sF
          have kpF := kp5.same sF
          have hgs : DGet HF A0.sd (.str "stamp") (some (.int (sp + 1))) := DGet.k (k := (Sum.inr "stamp" : Key)) laF.sd
          refine ⟨_, rfl, A0.sd, .int (sp + 1), rfl, hgs, _, rfl, p8, kvsF, ksF, rfl, Rd.of hpF, hkF, fun zs a hz1 hz2 ha => ?_⟩
          have sa := same_new (o := .lst (zs.map V.int)) ha
          have haa : upd HF a (.lst (zs.map V.int)) a = some (.lst (zs.map V.int)) := upd_same
          have la6 := laF.same sa
          have haF := hPs kpF laF ha
          generalize upd HF a (.lst (zs.map V.int)) = HG at sa haa la6 ⊢
          refine ⟨(by show 2 ≤ sizeLine; decide), fun t ht => ?_⟩
          have st := same_new (o := .tup [.int (sp + 1), .ref a]) ht
          have htt : upd HG t (.tup [.int (sp + 1), .ref a]) t = some (.tup [.int (sp + 1), .ref a]) := upd_same
          have hat := st _ _ haa
          have la7 := la6.same st
          have sG : Same HF (upd HG t (.tup [.int (sp + 1), .ref a])) := fun b o z => st b o (sa b o z)
          generalize upd HG t (.tup [.int (sp + 1), .ref a]) = HJ at htt hat la7 sG ⊢
          have kpJ := kpF.same sG
          have hgp : DGet HJ A0.sd (.str "pieces") (some (.ref A0.P)) := DGet.k (k := (Sum.inr "pieces" : Key)) la7.sd
          have hilt : i < free.length := by omega
          have hfi : free[i]? = some free[i] := List.getElem?_eq_getElem hilt
          have hDJ := sG _ _ (sF _ _ hD5)
          have hfJ := sG _ _ (sF _ _ hf5)
          have eat : atI (free.map V.int) (0 + (i : Int)) = some (.int free[i]) := by
            rw [Int.zero_add]
            exact atI_nat (by rw [List.getElem?_map, hfi]; rfl)
          have etk : free.take (i + 1) = fr ++ [free[i]] := by
            rw [List.take_add_one, hfi, efr]
            rfl
          have hfi_n : ¬ free[i] ∈ fr := fun z => by
            have nd1 : (fr ++ [free[i]]).Nodup := by
              rw [← etk]
              exact hfnd.sublist (List.take_sublist _ _)
            exact (List.nodup_append.mp nd1).2.2 _ z _ (by simp) rfl
          generalize free[i] = fi at hfi eat etk hfi_n
          have hfim : fi ∈ free := List.mem_of_getElem? hfi
          have naW : ¬ a ∈ f :: W := fun z => by
            rcases List.mem_cons.mp z with z | z
            · exact ne_of_none (sF _ _ hf5) ha z.symm
            · exact alive a z haF
          have hD' : ∀ p ∈ zs, Rch pc (heads ln) p ∨ p ∈ fr := fun p hp => hsF p (hz1.mem_iff.mp hp)
          have rU : ∀ p, Rch pc (heads ln) p → p ∈ U := fun p hp => hkU p ((hrk p).mpr hp)
          have ps6 := ps5.put (f := fi) (b := sp + 1) (v := .ref t) (l := zs) (by rw [hz1.length_eq]; exact hlF) (Cw.rising_of hz2 (hz1.nodup_iff.mpr ndF)) fun p hp => by
            rcases hD' p hp with z | z
            · exact su5 p (rU p z)
            · exact fu5 p z
          have gi6 := gi5.put (f := fi) (b := sp + 1) (l := zs) hfi_n (hfk fi hfim) hD'
          have pc6 := la7.pcs.put (f := fi) htt hat naW
          have la8 := la7.piece pc6
          have hl5 : kvs'.length < sizeLine := small1000' (by rw [ps5.keys.len]; have := ps5.len; omega)
          refine ⟨_, rfl, A0.sd, .ref A0.P, rfl, hgp, _, rfl, _, rfl, D, _, _, .int fi, rfl, rfl, SqL.of hDJ, eat, A0.P, _, rfl, DPut.k (k := Sum.inl fi) la7.pcs.dict hl5, ?_⟩
          have kp8 : Kp [A0.sd, A0.P] H (upd HJ A0.P (.dK (putK kvs' (.inl fi) (.ref t)))) := kpJ.put (.inl (by simp))
          have hD8 : upd HJ A0.P (.dK (putK kvs' (.inl fi) (.ref t))) D = some (.lst (free.map V.int)) := by
            rw [upd_ne (ne_of hDJ la7.pcs.dict (by intro z; cases z))]
            exact hDJ
          have hf8 : upd HJ A0.P (.dK (putK kvs' (.inl fi) (.ref t))) f = some (.lst (fr.map V.int)) := by
            rw [upd_ne (ne_of hfJ la7.pcs.dict (by intro z; cases z))]
            exact hfJ
          generalize upd HJ A0.P (.dK (putK kvs' (.inl fi) (.ref t))) = HL at la8 kp8 hD8 hf8 ⊢
          refine ⟨_, rfl, .inl ⟨rfl, _, SqL.of hf8⟩, _, rfl, _, rfl, D, _, _, .int fi, rfl, rfl, SqL.of hD8, eat, f, _, _, rfl, rfl, hf8, small1000' (by rw [List.length_map]; omega), ?_⟩
          rw [show fr.map V.int ++ [V.int fi] = (fr ++ [fi]).map V.int by rw [List.map_append]; rfl]
          refine ⟨_, _, _, _, _, fr ++ [fi], _, _, _, rfl, kp8.put (.inr hf0), la8.lput hf8 List.mem_cons_self fun z => ?_, ps6, ?_, ?_, upd_same, etk.symm, gi6, ?_⟩
          · cases ln with
            | none => exact absurd rfl z
            | some l =>
              intro e
              obtain ⟨_, ⟨ts, h2, _⟩, _⟩ := la.ld l.1 l.2 rfl
              rw [← e, hf0] at h2
              cases h2
          · intro p hp
            split
            · exact su5 p hp
            · exact List.mem_append_left _ (su5 p hp)
          · rw [upd_ne nDf]
            exact hD8
          · intro q hq
            have hq' : q ∈ fr ∨ q = fi := by simpa using hq
            rcases hq' with z | z
            · split
              · exact fu5 q z
              · exact List.mem_append_left _ (fu5 q z)
            · rw [z]
              split
              · assumption
              · simp
    · rintro σ H5 ⟨v6, v7, v8, v9, v10, fr, kvs', pc', U', rfl, kp5, la5, ps5, su5, hD5, hf5, efr, gi5, fu5⟩
      generalize ((1 : Int) + n0 % 4).toNat = m at *
      have hfl : fr.length = m := by
        rw [efr, List.length_take]
        omega
      rcases snoc_cases fr with rfl | ⟨fr', r, rfl⟩
      · simp at hfl
        omega
      refine ⟨_, rfl, _, rfl, f, _, -1, .int r, rfl, rfl, SqL.of hf5, ?_, ?_⟩
      · rw [List.map_append]
        exact atI_last _ _
      refine k H5 kvs' pc' U' r kp5 (la5.weak (fun a z => List.mem_cons_of_mem _ z) fun z => ?_) ?_ su5 ⟨_, gi5, by simp, fu5⟩
      · cases ln with
        | none => exact absurd rfl z
        | some l => exact (la.ld l.1 l.2 rfl).2.2.1
      · exact ⟨ps5.keys, ps5.nd, ps5.there, ps5.out, by have := ps5.len; omega⟩
end
end K31

namespace K31
open PySem PySem.Spec PyProof.Rows L2 CwR NdefX LamX
open Cw (Pc pts Good Coming Going inc dec total nodup_len Rch Walking GrowI putP)
def mkD (m : Int × Int) : PyData := .tuple [.int m.1, .int m.2]
section
variable {P : Program} {w : World} {K : PySem.W.Frag} {mg : Str → Option Value} {base : Heap}
theorem dp_mks {H : Hp} {ts : List V} {mk : Mks} (h : MksV H ts mk) : DpAll K H ts (mk.map mkD) := by
  induction h with
  | nil => exact .nil
  | cons e _ ih => exact .cons (.tup (SqT.of e) (.cons (.int _) (.cons (.int _) .nil))) ih
theorem can_mks : ∀ mk : Mks, PyData.canLayAll0 (mk.map mkD) = true
  | [] => rfl
  | m :: mk => by
    show (PyData.canLay0 (mkD m) && PyData.canLayAll0 (mk.map mkD)) = true
    rw [can_mks mk]
    rfl
theorem depth_mks : ∀ mk : Mks, PyData.depthAll (mk.map mkD) ≤ 2
  | [] => Nat.zero_le _
  | m :: mk => by
    have h := depth_mks mk
    show max (PyData.depth (mkD m)) (PyData.depthAll (mk.map mkD)) ≤ 2
    have h0 : PyData.depth (mkD m) ≤ 2 := by
      show PyData.depthAll [.int m.1, .int m.2] + 1 ≤ 2
      have := depth_ints [m.1, m.2]
      have e : ([m.1, m.2].map PyData.int) = [.int m.1, .int m.2] := rfl
      rw [e] at this
      omega
    omega
theorem shaped_mks (mk : Mks) : SeqAt.shaped (.list (mk.map mkD)) = true := by
  have h := depth_mks mk
  have hd : PyData.depth (.list (mk.map mkD)) ≤ 64 := by
    show PyData.depthAll (mk.map mkD) + 1 ≤ 64
    omega
  unfold SeqAt.shaped
  rw [show PyData.canLay0 (.list (mk.map mkD)) = true from can_mks mk, decide_eq_true hd]
  rfl
theorem r_neMks {H : Hp} {Q : VK} {a b : Addr} {ts : List V} {mk : Mks} (ha : H a = some (.lst ts)) (hv : MksV H ts mk) (hb : H b = some (.lst [])) (q : Q (.bl (!decide (mk = []))) H) : rNeD K (.ref a) (.ref b) H Q := by
  refine ⟨_, _, .lst (SqL.of ha) (dp_mks hv), .lst (SqL.of hb) .nil, shaped_mks mk, shaped_ints [], ?_⟩
  have e : PyData.eqv (.list (mk.map mkD)) (.list []) = decide (mk = []) := by
    cases mk with
    | nil => rfl
    | cons m r => rfl
  rw [e]
  exact q
theorem sc__law_made_stamp : FnScope ["_law_state", "_law_line", "_law_number", "_law_stamp"] ["_law_state", "_law_line", "_law_number"] (defScope s__law_made_stamp) := ⟨rfl, rfl, rfl, by decide +kernel, rfl, by decide +kernel, by decide +kernel⟩
def spMadeStamp : Sp := fun vs H Q _ => ∃ (W : List Addr) (A : La) (mk : Mks) (rt : Option Int) (sp n : Int) (kvs : DK) (pc : Pc), vs = [.ref A.sd, .ref A.ld, .int n] ∧ LA W H A (some (mk, rt)) sp kvs pc ∧ mk.Pairwise (fun a b => a.1 < b.1) ∧
  ∀ (H' : Hp) (s sp' : Int), Kp [A.sd] H H' → LA W H' A (some (mk, rt)) sp' kvs pc → (∀ m ∈ mk, m.1 < s) → Q (.int s) H'
theorem ok__law_made_stamp (T : Txt K mg) : FnOk P w K mg base CX0 1 (He.fAd K ("_law_made_stamp", none)) (CwH.fdOf K ("_law_made_stamp", none)) ["_law_state", "_law_line", "_law_number"] spMadeStamp := by
  refine T.f__law_made_stamp.ok sc__law_made_stamp (fun vs H Q E h => ?_) (fun cdv A outer s H vs Q E hr h => ?_)
  · obtain ⟨_, _, _, _, _, _, _, _, rfl, _⟩ := h
    rfl
  · obtain ⟨W, A0, mk, rt, sp, n, kvs, pc, rfl, la, pw, k⟩ := h
    have hu := hu_of hr
    have hu64 : (A.deeper (envOfC "_law_made_stamp" (defScope s__law_made_stamp) s.heap.objs.size (He.fAd K ("_law_made_stamp", none)) cdv)).units + 64 < cLine := hr.units
    refine ⟨_, (pss_cons (ps_set (i := 3) sc__law_made_stamp.nd rfl (by first | exact Or.inl rfl | exact Or.inr rfl) (pe_op op_add (pe_dget hu (pv 0) pe_str (fun _ _ => rfl)) (pe_op op_mod (pv 2) pe_int)))
 (pss_cons (ps_if (PW.pt (pw_and (pt_cmpR (op_neD hr.units) (pe_dget hu (pv 1) pe_str (fun _ _ => rfl)) (pe_lst pa_nil) (nomark _)) (pw_and1 (pt_cmpR op_le (pv 3) (pe_ix (show IxR _ (rIxT K) from ix_tup) (pe_ix (show IxR _ (rIxL K) from ix_list) (pe_dget hu (pv 1) pe_str (fun _ _ => rfl)) (pe_un un_neg pe_int) (fun _ _ => rfl)) pe_int (fun _ _ => rfl)) (nomark _))))) (pss_one (ps_set (i := 3) sc__law_made_stamp.nd rfl (by first | exact Or.inl rfl | exact Or.inr rfl) (pe_op op_add (pe_ix (show IxR _ (rIxT K) from ix_tup) (pe_ix (show IxR _ (rIxL K) from ix_list) (pe_dget hu (pv 1) pe_str (fun _ _ => rfl)) (pe_un un_neg pe_int) (fun _ _ => rfl)) pe_int (fun _ _ => rfl)) pe_int))) pss_nil)
 (pss_cons (ps_dput hu (pv 0) pe_str (pe_callB (call_max2 rfl) (by rfl) T.free_max (by decide +kernel) (pa_cons (pv 3) (pa_cons (pe_dget hu (pv 0) pe_str (fun _ _ => rfl)) pa_nil))) rfl)
 (pss_one (ps_ret (pv 3)))))), ?_⟩
    have hg : DGet H A0.sd (.str "stamp") (some (.int sp)) := DGet.k (k := (Sum.inr "stamp" : Key)) la.sd
    obtain ⟨h1, ⟨ts, h2, h3⟩, h4, h5, h6, h7⟩ := la.ld mk rt rfl
    have hgm : DGet H A0.ld (.str "makes") (some (.ref A0.lm)) := DGet.k (k := (Sum.inr "makes" : Key)) h1
    refine ⟨_, rfl, A0.sd, .int sp, rfl, hg, _, rfl, _, _, rfl, rfl, (show (0 : Int) < 2 by decide), _, _, rfl, rfl, ?_⟩
    refine ⟨_, rfl, A0.ld, .ref A0.lm, rfl, hgm, Nat.zero_le _, fun p hp => ?_⟩
    have s1 := same_new (o := .lst []) hp
    have la1 := la.same s1
    have h21 := s1 _ _ h2
    have h31 : MksV (upd H p (.lst [])) ts mk := h3.still fun p xs e => s1 _ _ e
    have h11 := s1 _ _ h1
    refine r_neMks h21 h31 upd_same ⟨_, rfl, ?_⟩
    have kp1 : Kp [A0.sd] H (upd H p (.lst [])) := Kp.of_same s1
    generalize upd H p (.lst []) = H1 at la1 h21 h31 h11 kp1 ⊢
    have hgm1 : DGet H1 A0.ld (.str "makes") (some (.ref A0.lm)) := DGet.k (k := (Sum.inr "makes" : Key)) h11
    obtain ⟨ts', mk', rfl, rfl⟩ : ∃ ts' mk', ts = ts' ∧ mk = mk' := ⟨_, _, rfl, rfl⟩
    have hg1 : DGet H1 A0.sd (.str "stamp") (some (.int sp)) := DGet.k (k := (Sum.inr "stamp" : Key)) la1.sd
    have hl : ∀ m ∈ mk, ∀ l, mk.getLast? = some l → m.1 ≤ l.1 := fun m hm l hl => by
      obtain ⟨mi, e⟩ := List.getLast?_eq_some_iff.mp hl
      rw [e] at hm pw
      rcases List.mem_append.mp hm with z | z
      · exact Int.le_of_lt ((List.pairwise_append.mp pw).2.2 m z l (by simp))
      · rw [List.mem_singleton.mp z]
        exact Int.le_refl _
    clear hg hgm h1 h2 h3
    rcases snoc_cases mk with hm | ⟨mi, l, hm⟩
    case' inl =>
      rw [decide_eq_true hm]
      refine iteF (iteF ?_)
      have hs : ∀ m ∈ mk, m.1 < sp + n % 2 := fun m z => by rw [hm] at z; exact nomatch z
    case' inr =>
      rw [decide_eq_false (show ¬ mk = [] by rw [hm]; simp)]
      refine iteT ?_
      have hlast : mk.getLast? = some l := by rw [hm]; simp
      obtain ⟨t, ht, hts⟩ : ∃ t, atI ts (-1) = some (.ref t) ∧ H1 t = some (.tup [.int l.1, .int l.2]) := by
        rcases List.eq_nil_or_concat ts with e | ⟨ti, t, e⟩
        · have := h31.len
          rw [e, hm] at this
          simp at this
        · rw [List.concat_eq_append] at e
          have e1 : ts[ti.length]? = some t := by rw [e]; simp
          obtain ⟨p, s', r', e2, e3, e4⟩ := h31.at_ e1
          have hln := h31.len
          have e5 : ti.length = mi.length := by
            rw [e, hm] at hln
            simp at hln
            exact hln
          rw [hm, e5] at e3
          have e6 : l = (s', r') := by simpa using e3
          refine ⟨p, ?_, by rw [e6]; exact e4⟩
          rw [e, e2]
          exact atI_last _ _
      refine ⟨_, rfl, _, rfl, A0.ld, .ref A0.lm, rfl, hgm1, _, rfl, A0.lm, _, -1, _, rfl, rfl, SqL.of h21, ht, t, _, 0, .int l.1, rfl, rfl, SqT.of hts, rfl, _, _, rfl, rfl, _, rfl, ?_⟩
      by_cases hz : sp + n % 2 ≤ l.1
      case' pos =>
        rw [decide_eq_true hz]
        refine iteT ?_
        have hs : ∀ m ∈ mk, m.1 < l.1 + 1 := fun m z => by have := hl m z l hlast; omega
        refine ⟨_, rfl, A0.ld, .ref A0.lm, rfl, hgm1, _, rfl, A0.lm, _, -1, _, rfl, rfl, SqL.of h21, ht, t, _, 0, .int l.1, rfl, rfl, SqT.of hts, rfl, _, _, rfl, rfl, ?_⟩
      case' neg =>
        rw [decide_eq_false hz]
        refine iteF ?_
        have hs : ∀ m ∈ mk, m.1 < sp + n % 2 := fun m z => by have := hl m z l hlast; omega
    all_goals
      refine ⟨_, rfl, _, rfl, A0.sd, .int sp, rfl, hg1, _, _, rfl, _, rfl, A0.sd, _, rfl, DPut.k (k := (Sum.inr "stamp" : Key)) la1.sd (by show 3 < sizeLine; decide), ?_⟩
      rw [putK_stamp]
      exact ⟨_, rfl, k _ _ _ (kp1.put (.inl (by simp))) (la1.stamp _) hs⟩
end
end K31

namespace K31
open PySem PySem.Spec PyProof.Rows L2 CwR NdefX LamX
open Cw (Pc pts Good Coming Going inc dec total nodup_len Rch Walking GrowI putP)
section
variable {P : Program} {w : World} {K : PySem.W.Frag} {mg : Str → Option Value} {base : Heap}
theorem flat_rt (rt : Option Int) : flatV (rtV rt) = true := by cases rt <;> rfl
theorem flat_ints (l : List Int) : (l.map V.int).all flatV = true := by
  induction l with
  | nil => rfl
  | cons a r ih => exact ih
theorem count_heads (mk : Mks) (rt : Option Int) (p : Int) : ((mk.map (·.2)).map V.int ++ [rtV rt]).countP (fun z => eqV z (.int p)) = (heads (some (mk, rt))).count p := by
  rw [List.countP_append, countP_ints]
  show _ = (mk.map (·.2) ++ rt.toList).count p
  rw [List.count_append]
  congr 1
  cases rt with
  | none => rfl
  | some z => exact countP_ints p [z]
theorem inV_ints (p : Int) (l : List Int) : inV (V.int p) (l.map V.int) = decide (p ∈ l) := by
  induction l with
  | nil => rfl
  | cons a r ih =>
    show (eqV (V.int a) (V.int p) || inV (V.int p) (r.map V.int)) = _
    rw [ih]
    show ((a == p) || decide (p ∈ r)) = _
    by_cases h : p = a
    · subst h
      simp
    · have h' : (a == p) = false := by simpa using fun e => h e.symm
      rw [h']
      simp [h]
theorem sc__law_count : FnScope ["_law_state", "_law_lying_here", "_law_place", "_law_many", "_law_line", "_law_other", "_law_stamp", "_law_root"] ["_law_state", "_law_lying_here", "_law_place"] (defScope s__law_count) := ⟨rfl, rfl, rfl, by decide +kernel, rfl, by decide +kernel, by decide +kernel⟩
def spCountL : Sp := fun vs H Q _ => ∃ (W : List Addr) (A : La) (mk : Mks) (rt : Option Int) (sp : Int) (kvs : DK) (pc : Pc) (U : List Int) (d : Addr) (kvsd : DK) (known : List Int) (p : Int), vs = [.ref A.sd, .ref d, .int p] ∧ LA W H A (some (mk, rt)) sp kvs pc ∧ mk.length ≤ 1000 ∧ Closed pc U ∧
  H d = some (.dK kvsd) ∧ Keys kvsd known ∧ (∀ q ∈ known, q ∈ U) ∧ d ≠ A.sd ∧ d ≠ A.P ∧
  ∀ H', Same H H' → Q (.int (((heads (some (mk, rt))).count p + (known.filter fun q => decide (p ∈ pts pc q)).length : Nat) : Int)) H'
theorem ok__law_count (T : Txt K mg) : FnOk P w K mg base CX0 2 (He.fAd K ("_law_count", none)) (CwH.fdOf K ("_law_count", none)) ["_law_state", "_law_lying_here", "_law_place"] spCountL := by
  refine T.f__law_count.ok sc__law_count (fun vs H Q E h => ?_) (fun cdv A outer s H vs Q E hr h => ?_)
  · obtain ⟨_, _, _, _, _, _, _, _, _, _, _, _, rfl, _⟩ := h
    rfl
  · obtain ⟨W, A0, mk, rt, sp, kvs, pc, U, d, kvsd, known, p, rfl, la, hmk, cl, hd, hkd, hkU, nd1, nd2, k⟩ := h
    have hu := hu_of hr
    refine ⟨_, (pss_cons (ps_set (i := 3) sc__law_count.nd rfl (by first | exact Or.inl rfl | exact Or.inr rfl) pe_int)
 (pss_cons (ps_lock (ps_for PassesOwn.never rfl (pi_values (pe_dget hu (pv 0) pe_str (fun _ _ => rfl))) (pg_name (i := 4) sc__law_count.nd rfl (by first | exact Or.inl rfl | exact Or.inr rfl))
  (pss_one (ps_set (i := 3) sc__law_count.nd rfl (by first | exact Or.inl rfl | exact Or.inr rfl) (pe_op op_add (pv 3) (pe_bm PySem.F.plainAttrs_list PySem.F.slot_list_count PySem.F.type_list_count mt_countF (pe_lc (own := [("_law_stamp", 6), ("_law_root", 7)]) rfl sc__law_count.nd (pi_list (pe_op op_cat (pe_dget hu (pv 4) pe_str (fun _ _ => rfl)) (pe_lst (pa_cons (pe_tup (pa_cons pe_int (pa_cons (pe_dget hu (pv 4) pe_str (fun _ _ => rfl)) pa_nil))) pa_nil)))) (blkOk_by (own := [("_law_stamp", 6), ("_law_root", 7)]) (N := ["_law_state", "_law_lying_here", "_law_place", "_law_many", "_law_line", "_law_other", "_law_stamp", "_law_root"]) (sc := defScope s__law_count) (by decide +kernel)) (fun _ _ _ _ _ => (show PG _ _ (gTup K 2 _) from pg_tup rfl (pgs_cons (pg_name (i := 6) sc__law_count.nd rfl (by first | exact Or.inl rfl | exact Or.inr rfl)) (pgs_cons (pg_name (i := 7) sc__law_count.nd rfl (by first | exact Or.inl rfl | exact Or.inr rfl)) pgs_nil)))) (fun _ _ _ _ _ => pts_nil) (fun _ _ _ _ _ => (pv 7))) (pa_cons (pv 2) pa_nil)))))))
 (pss_cons (ps_lock (ps_for PassesOwn.never rfl (pi_keys (pv 1)) (pg_name (i := 5) sc__law_count.nd rfl (by first | exact Or.inl rfl | exact Or.inr rfl))
  (pss_one (ps_if (pt_cmpR op_in_seq (pv 2) (pe_ix (show IxR _ (rIxT K) from ix_tup) (pe_dget hu (pe_dget hu (pv 0) pe_str (fun _ _ => rfl)) (pv 5) (fun _ _ => rfl)) pe_int (fun _ _ => rfl)) (by rfl)) (pss_one (ps_set (i := 3) sc__law_count.nd rfl (by first | exact Or.inl rfl | exact Or.inr rfl) (pe_op op_add (pv 3) pe_int))) pss_nil))))
 (pss_one (ps_ret (pv 3)))))), ?_⟩
    -- for line in state['lines'].values()
    refine ⟨A0.L, _, la.L, True.intro, fun od => ?_⟩
    have hL0 := la.L
    obtain ⟨h1, ⟨ts, h2, h3⟩, h4, h5, h6, h7⟩ := la.ld mk rt rfl
    have lk : ∀ b o, H b = some o → b ≠ A0.L → upd H A0.L (.frz od (.dK (linesKV A0.ld (some (mk, rt))))) b = some o := fun b o e n => by rw [upd_ne n]; exact e
    have hgL : DGet (upd H A0.L (.frz od (.dK (linesKV A0.ld (some (mk, rt)))))) A0.sd (.str "lines") (some (.ref A0.L)) := DGet.k (k := (Sum.inr "lines" : Key)) (lk _ _ la.sd la.n2)
    refine ⟨_, rfl, A0.sd, .ref A0.L, rfl, hgL, A0.L, od, _, rfl, upd_same, ?_⟩
    refine for_vals (kvs := linesKV A0.ld (some (mk, rt))) (fun i σ H' => (i = 0 ∧ σ = [some (.ref A0.sd), some (.ref d), some (.int p), some (.int 0), none, none, none, none] ∧ H' = upd H A0.L (.frz od (.dK (linesKV A0.ld (some (mk, rt)))))) ∨
        (i = 1 ∧ ∃ v4 v5 v6 v7, σ = [some (.ref A0.sd), some (.ref d), some (.int p), some (.int ((heads (some (mk, rt))).count p : Nat)), v4, v5, v6, v7] ∧ Same (upd H A0.L (.frz od (.dK (linesKV A0.ld (some (mk, rt)))))) H')) (.inl ⟨rfl, rfl, rfl⟩) ?_ ?_ ?_
    · rintro i σ H' _ (⟨_, _, rfl⟩ | ⟨_, _, _, _, _, _, sm⟩)
      · exact upd_same
      · exact sm _ _ upd_same
    · rintro i kk x σ H' hx (⟨rfl, rfl, rfl⟩ | ⟨rfl, _⟩)
      · have ex : x = .ref A0.ld := by
          have : ((Sum.inl 1 : Key), V.ref A0.ld) = (kk, x) := by simpa [linesKV] using hx
          exact (congrArg Prod.snd this).symm
        subst ex
        have h1' := lk _ _ h1 h7
        have g1 : DGet (upd H A0.L (.frz od (.dK (linesKV A0.ld (some (mk, rt)))))) A0.ld (.str "makes") (some (.ref A0.lm)) := DGet.k (k := (Sum.inr "makes" : Key)) h1'
        have g2 : DGet (upd H A0.L (.frz od (.dK (linesKV A0.ld (some (mk, rt)))))) A0.ld (.str "root") (some (rtV rt)) := DGet.k (k := (Sum.inr "root" : Key)) h1'
        have h2' := lk _ _ h2 (ne_of h2 hL0 (by intro z; cases z))
        have h3' : MksV (upd H A0.L (.frz od (.dK (linesKV A0.ld (some (mk, rt)))))) ts mk := h3.still fun p xs e => lk _ _ e (ne_of e hL0 (by intro z; cases z))
        refine ⟨_, rfl, _, rfl, A0.ld, _, rfl, g1, _, rfl, A0.ld, _, rfl, g2, (by show 2 ≤ sizeLine; decide), fun t ht => ⟨(by show 1 ≤ sizeLine; decide), fun l1 hl1 => ?_⟩⟩
        simp only [cxK, cxK2]
        generalize upd H A0.L (.frz od (.dK (linesKV A0.ld (some (mk, rt))))) = HL at g1 g2 h2' h3' h1' ht hl1 ⊢
        have st := same_new (o := .tup [.int 0, rtV rt]) ht
        have htt : upd HL t (.tup [.int 0, rtV rt]) t = some (.tup [.int 0, rtV rt]) := upd_same
        generalize upd HL t (.tup [.int 0, rtV rt]) = HM at st htt hl1 ⊢
        have sl := same_new (o := .lst [.ref t]) hl1
        have hll : upd HM l1 (.lst [.ref t]) l1 = some (.lst [.ref t]) := upd_same
        have sm1 : Same HL (upd HM l1 (.lst [.ref t])) := fun b o z => sl b o (st b o z)
        have ht1 := sl _ _ htt
        generalize upd HM l1 (.lst [.ref t]) = HN at hll sm1 ht1 ⊢
        refine ⟨A0.lm, l1, _, _, rfl, rfl, sm1 _ _ h2', hll, by rw [h3'.len]; exact small1000'' (by simp; omega), fun l2 hl2 => ?_⟩
        have s2 := same_new (o := .lst (ts ++ [V.ref t])) hl2
        have hl22 : upd HN l2 (.lst (ts ++ [V.ref t])) l2 = some (.lst (ts ++ [V.ref t])) := upd_same
        have sm2 : Same HL (upd HN l2 (.lst (ts ++ [V.ref t]))) := fun b o z => s2 b o (sm1 b o z)
        have ht2 := s2 _ _ ht1
        generalize upd HN l2 (.lst (ts ++ [V.ref t])) = HX at hl22 sm2 ht2 ⊢
        refine ⟨l2, rfl, ⟨_, SqL.of hl22⟩, fun D hD => ?_⟩
        have hat : ∀ (i : Nat) (x : V), (ts ++ [V.ref t])[i]? = some x → ∃ (q : Addr) (a v : V), x = V.ref q ∧ HX q = some (.tup [a, v]) ∧ ((mk.map (·.2)).map V.int ++ [rtV rt])[i]? = some v := fun i x hx => by
          by_cases hi : i < ts.length
          · rw [List.getElem?_append_left hi] at hx
            obtain ⟨q, s', r', rfl, hmi, hq⟩ := h3'.at_ hx
            refine ⟨q, _, _, rfl, sm2 _ _ hq, ?_⟩
            rw [List.getElem?_append_left (by rw [List.length_map, List.length_map, ← h3'.len]; exact hi), List.getElem?_map, List.getElem?_map, hmi]
            rfl
          · have hi2 : i < ts.length + 1 := by
              have := (List.getElem?_eq_some_iff.mp hx).1
              rwa [List.length_append, List.length_singleton] at this
            have ei : i = ts.length := by omega
            subst ei
            rw [List.getElem?_append_right (Nat.le_refl _)] at hx
            have : V.ref t = x := by simpa using hx
            refine ⟨t, _, _, this.symm, ht2, ?_⟩
            have eln : ts.length = ((mk.map (·.2)).map V.int).length := by rw [List.length_map, List.length_map, h3'.len]
            rw [eln, List.getElem?_append_right (Nat.le_refl _)]
            simp
        have hvl : ((mk.map (·.2)).map V.int ++ [rtV rt]).length = (ts ++ [V.ref t]).length := by simp [h3'.len]
        have hcnt := count_heads mk rt p
        have hfl : ((mk.map (·.2)).map V.int ++ [rtV rt]).all flatV = true := by
          rw [List.all_append, flat_ints]
          simp [flat_rt]
        generalize (mk.map (·.2)).map V.int ++ [rtV rt] = vals at hat hvl hcnt hfl
        have hvl' : (ts ++ [V.ref t]).length ≤ 1001 := by rw [List.length_append, h3'.len, List.length_singleton]; omega
        refine lc_list (xs := (ts ++ [V.ref t] : List V)) (fun i H' => Same HX H' ∧ H' D = some (.lst (vals.take i))) ⟨same_new hD, upd_same⟩ (fun i H' _ h => SqL.of (h.1 _ _ hl22)) ?_ ?_
        · rintro i x H' hx ⟨sm, hDa⟩
          obtain ⟨q, a, v, rfl, hq, hv⟩ := hat i x hx
          refine ⟨_, _, rfl, SqT.of (sm _ _ hq), rfl, _, _, rfl, _, _, rfl, rfl, rfl, ?_⟩
          refine ⟨_, rfl, _, hDa, small1000' (by rw [List.length_take]; have := (List.getElem?_eq_some_iff.mp hx).1; omega), sm.trans2 hD, ?_⟩
          rw [upd_same, List.take_add_one, hv]
          rfl
        · rintro H2 ⟨sm3, hD2⟩
          rw [← hvl, List.take_length] at hD2
          refine ⟨.inl ⟨rfl, _, SqL.of hD2⟩, _, rfl, D, vals, .int p, rfl, rfl, SqL.of hD2, rfl, hfl, ?_⟩
          rw [hcnt]
          exact ⟨_, _, rfl, rfl, .inr ⟨True.intro, some (.ref A0.ld), none, none, none, congrArg (fun z : Int => [some (V.ref A0.sd), some (V.ref d), some (V.int p), some (V.int z), some (V.ref A0.ld), none, none, none]) (Int.zero_add _), fun b o z => sm3 b o (sm2 b o z)⟩⟩
      · exact absurd hx (by simp [linesKV])
    · rintro σ H' (⟨z, _⟩ | ⟨_, v4, v5, v6, v7, rfl, sm⟩)
      · exact nomatch z
      · refine ⟨sm _ _ upd_same, ?_⟩
        have sm' := Same.unlock hL0 sm
        have hd' := sm' _ _ hd
        generalize upd H' A0.L (.dK (linesKV A0.ld (some (mk, rt)))) = H1 at sm' hd' ⊢
        have la1 := la.same sm'
        -- for other in lying
        refine ⟨d, _, hd', True.intro, fun od2 => ?_⟩
        have lk2 : ∀ b o, H1 b = some o → b ≠ d → upd H1 d (.frz od2 (.dK kvsd)) b = some o := fun b o e n => by rw [upd_ne n]; exact e
        refine ⟨_, rfl, d, od2, rfl, .inl ⟨kvsd, upd_same, ?_⟩⟩
        refine for_keys hkd (fun i σ H' => ∃ v4 v5 v6 v7, σ = [some (.ref A0.sd), some (.ref d), some (.int p), some (.int (((heads (some (mk, rt))).count p + ((known.take i).filter fun q => decide (p ∈ pts pc q)).length : Nat) : Int)), v4, v5, v6, v7] ∧ H' = upd H1 d (.frz od2 (.dK kvsd))) ⟨_, _, _, _, rfl, rfl⟩ (fun i σ H' _ z => by obtain ⟨_, _, _, _, _, e⟩ := z; rw [e]; exact upd_same) ?_ ?_
        · rintro i q σ H' hq ⟨v4, v5, v6, v7, rfl, rfl⟩
          have hqU := hkU q (List.mem_of_getElem? hq)
          obtain ⟨bq, lq, epc⟩ := cl.there q hqU
          have epts : pts pc q = lq := Cw.pts_some epc
          obtain ⟨t, a, e1, e2, e3, _⟩ := la1.pcs.get q bq lq epc
          have gp : DGet (upd H1 d (.frz od2 (.dK kvsd))) A0.sd (.str "pieces") (some (.ref A0.P)) := DGet.k (k := (Sum.inr "pieces" : Key)) (lk2 _ _ la1.sd nd1.symm)
          have gq : DGet (upd H1 d (.frz od2 (.dK kvsd))) A0.P (.int q) (some (.ref t)) := by
            rw [← e1]
            exact DGet.k (k := Sum.inl q) (lk2 _ _ la1.pcs.dict nd2.symm)
          have e2' := lk2 _ _ e2 (ne_of e2 hd' (by intro z; cases z))
          have e3' := lk2 _ _ e3 (ne_of e3 hd' (by intro z; cases z))
          refine ⟨_, rfl, _, rfl, A0.sd, _, rfl, gp, _, rfl, A0.P, _, rfl, gq, t, _, 1, .ref a, rfl, rfl, SqT.of e2', rfl, a, _, rfl, .inl (SqL.of e3'), rfl, flat_ints _, _, rfl, ?_⟩
          have ein : inV (V.int p) (lq.map V.int) = decide (p ∈ pts pc q) := by
            rw [epts]
            exact inV_ints p lq
          have etk : known.take (i + 1) = known.take i ++ [q] := by
            rw [List.take_add_one, hq]
            rfl
          show (if inV (V.int p) (lq.map V.int) = true then _ else _)
          rw [ein]
          by_cases e : p ∈ pts pc q
          · rw [decide_eq_true e]
            refine iteT ⟨_, rfl, _, _, rfl, rfl, v4, some (.int q), v6, v7, congrArg (fun z : Int => [some (V.ref A0.sd), some (V.ref d), some (V.int p), some (V.int z), v4, some (V.int q), v6, v7]) ?_, rfl⟩
            rw [etk, List.filter_append, List.filter_cons_of_pos (by simpa using e), List.filter_nil, List.length_append, List.length_singleton]
            omega
          · rw [decide_eq_false e]
            refine iteF ⟨v4, some (.int q), v6, v7, congrArg (fun z : Int => [some (V.ref A0.sd), some (V.ref d), some (V.int p), some (V.int z), v4, some (V.int q), v6, v7]) ?_, rfl⟩
            rw [etk, List.filter_append, List.filter_cons_of_neg (by simpa using e), List.filter_nil, List.append_nil]
        · rintro σ H' ⟨v4, v5, v6, v7, rfl, rfl⟩
          refine ⟨upd_same, ?_⟩
          rw [List.take_length]
          have e : upd (upd H1 d (.frz od2 (.dK kvsd))) d (.dK kvsd) = H1 := by
            rw [upd_upd]
            funext b
            by_cases z : b = d
            · rw [z, upd_same, hd']
            · rw [upd_ne z]
          rw [e]
          exact ⟨_, rfl, k H1 sm'⟩
end
end K31

namespace K31
open PySem PySem.Spec PyProof.Rows L2 CwR NdefX LamX
open Cw (Pc pts Good Coming Going inc dec total nodup_len Rch Walking GrowI putP)
section
variable {P : Program} {w : World} {K : PySem.W.Frag} {mg : Str → Option Value} {base : Heap}
theorem sc__law_truth : FnScope ["_law_told", "_law_due"] ["_law_told", "_law_due"] (defScope s__law_truth) := ⟨rfl, rfl, rfl, by decide +kernel, rfl, by decide +kernel, by decide +kernel⟩
def spTruth : Sp := fun vs H Q _ => ∃ (a b : Bool), vs = [.bl a, .bl b] ∧ Q (.bl (decide (a = b))) H
theorem ok__law_truth (T : Txt K mg) : FnOk P w K mg base CX0 1 (He.fAd K ("_law_truth", none)) (CwH.fdOf K ("_law_truth", none)) ["_law_told", "_law_due"] spTruth := by
  refine T.f__law_truth.ok sc__law_truth (fun vs H Q E h => ?_) (fun cdv A outer s H vs Q E hr h => ?_)
  · obtain ⟨_, _, rfl, _⟩ := h
    rfl
  · obtain ⟨a, b, rfl, q⟩ := h
    refine ⟨_, (pss_one (ps_ret (pe_and (pe_callB call_isi (by rfl) T.free_isinstance (by decide +kernel) (pa_cons (pv 0) (pa_cons (pe_bltn (v := .ty "bool") (by rfl) T.free_bool (by decide +kernel) rfl) pa_nil))) (pe_one (pe_cmpR op_eq (pv 0) (pv 1) (nomark _)))))), ?_⟩
    refine ⟨_, rfl, _, _, .type "bool", .type "bool", true, rfl, .ty _, .base (.bl _), rfl, ?_⟩
    refine ⟨_, rfl, iteT ⟨_, rfl, _, rfl, rfl, ?_⟩⟩
    rw [show decide (V.bl a = V.bl b) = decide (a = b) from by simp]
    exact q
theorem sc__law_right : FnScope ["_law_book_here", "_law_state", "_law_lying_here", "_law_place"] ["_law_book_here", "_law_state", "_law_lying_here"] (defScope s__law_right) := ⟨rfl, rfl, rfl, by decide +kernel, rfl, by decide +kernel, by decide +kernel⟩
def spRight (K : PySem.W.Frag) : Sp := fun vs H Q _ => ∃ (W : List Addr) (A : La) (mk : Mks) (rt : Option Int) (sp : Int) (kvs cvs : DK) (pc : Pc) (U : List Int) (d : Addr) (B : Bk) (kvsd : DK) (known dom : List Int) (c : Int → Nat), vs = [.ref B.b, .ref A.sd, .ref d] ∧ H B.b = some (.ins (aC K) B.db (bkF B.fP B.fB B.SD B.cD)) ∧ LA W H A (some (mk, rt)) sp kvs pc ∧ mk.length ≤ 1000 ∧ Closed pc U ∧
  H d = some (.dK kvsd) ∧ Keys kvsd known ∧ known.Nodup ∧ (∀ q ∈ known, q ∈ U) ∧ d ≠ A.sd ∧ d ≠ A.P ∧ CtAt K W H B.b U kvs pc dom c B.cD A.P cvs ∧ dom.Nodup ∧ (∀ p, p ∈ dom ↔ 0 < c p) ∧ (∀ p, p ∈ dom ↔ p ∈ known) ∧
  (∀ p, c p = (heads (some (mk, rt))).count p + (known.filter fun q => decide (p ∈ pts pc q)).length) ∧ ∀ H', Same H H' → Q (.bl true) H'
theorem ok__law_right (T : Txt K mg) : FnOk P w K mg base CX0 3 (He.fAd K ("_law_right", none)) (CwH.fdOf K ("_law_right", none)) ["_law_book_here", "_law_state", "_law_lying_here"] (spRight K) := by
  refine T.f__law_right.ok sc__law_right (fun vs H Q E h => ?_) (fun cdv A outer s H vs Q E hr h => ?_)
  · obtain ⟨_, _, _, _, _, _, _, _, _, _, _, _, _, _, _, rfl, _⟩ := h
    rfl
  · obtain ⟨W, A0, mk, rt, sp, kvs, cvs, pc, U, d, B, kvsd, known, dom, c, rfl, hb, la, hmk, cl, hd, hkd, ndk, hkU, nd1, nd2, ct, ndd, hdc, hdk, hc, k⟩ := h
    have hu := hu_of hr
    have hu64 : (A.deeper (envOfC "_law_right" (defScope s__law_right) s.heap.objs.size (He.fAd K ("_law_right", none)) cdv)).units + 64 < cLine := hr.units
    refine ⟨_, (pss_cons (ps_if (pt_cmpR (op_neD hr.units) (pe_meth0 (pv 0) T.c_Counts T.m_Counts_lying (ok_Counts_lying T) (hr.mono (by decide)) T.b_Counts_lying .nil pass0) (pe_callB (call_sortedD0 rfl) (by rfl) T.free_sorted (by decide +kernel) (pa_cons (pv 2) pa_nil)) (nomark _)) (pss_one (ps_ret pe_bl)) pss_nil)
 (pss_cons (ps_for PassesOwn.never rfl (pi_list (pe_op op_cat (pe_callTy (call_listD rfl) (by rfl) T.free_list (by decide +kernel) (pa_cons (pv 2) pa_nil)) (pe_lst (pa_cons pe_int (pa_cons pe_int (pa_cons pe_int pa_nil)))))) (pg_name (i := 3) sc__law_right.nd rfl (by first | exact Or.inl rfl | exact Or.inr rfl))
  (pss_one (ps_if (PW.pt (pw_or (pt_not (pt_val (pe_call (ok__law_truth T) (hr.mono (by decide)) (by rfl) T.g__law_truth (T.f__law_truth).kp T.b__law_truth .nil pass0 (pa_cons (pe_meth (pv 0) T.c_Counts T.m_Counts_lies (ok_Counts_lies T) (hr.mono (by decide)) T.b_Counts_lies .nil pass0 (pa_cons (pv 3) pa_nil)) (pa_cons (pe_cmp (pc_din hu (pv 3) (pv 2))) pa_nil))))) (pw_or1 (pt_cmpR op_ne (pe_meth (pv 0) T.c_Counts T.m_Counts_count (ok_Counts_count T) (hr.mono (by decide)) T.b_Counts_count .nil pass0 (pa_cons (pv 3) pa_nil)) (pe_call (ok__law_count T) (hr.mono (by decide)) (by rfl) T.g__law_count (T.f__law_count).kp T.b__law_count .nil pass0 (pa_cons (pv 1) (pa_cons (pv 2) (pa_cons (pv 3) pa_nil)))) (nomark _))))) (pss_one (ps_ret pe_bl)) pss_nil)))
 (pss_one (ps_ret pe_bl)))), ?_⟩
    -- if book.lying() != sorted(lying_here)
    refine ⟨_, rfl, B.b, B.db, _, rfl, hb, rfl, W, B.b, B.cD, A0.P, U, kvs, cvs, pc, dom, c, rfl, ct, fun ys p1 hy1 hy2 hp1 => ?_⟩
    have s1 := same_new (o := .lst (ys.map V.int)) hp1
    have hp11 : upd H p1 (.lst (ys.map V.int)) p1 = some (.lst (ys.map V.int)) := upd_same
    have hd1 := s1 _ _ hd
    generalize upd H p1 (.lst (ys.map V.int)) = H1 at s1 hp11 hd1 ⊢
    refine ⟨_, rfl, d, kvsd, known, rfl, Rd.of hd1, hkd, fun zs p2 hz1 hz2 hp2 => ?_⟩
    have s2 := same_new (o := .lst (zs.map V.int)) hp2
    have hp22 : upd H1 p2 (.lst (zs.map V.int)) p2 = some (.lst (zs.map V.int)) := upd_same
    have s02 : Same H (upd H1 p2 (.lst (zs.map V.int))) := fun b o z => s2 b o (s1 b o z)
    have hp12 := s2 _ _ hp11
    generalize upd H1 p2 (.lst (zs.map V.int)) = H2 at hp22 s02 hp12 ⊢
    have eyz : ys = zs := Cw.rising_eq (Cw.rising_of hy2 (hy1.nodup_iff.mpr ndd)) (Cw.rising_of hz2 (hz1.nodup_iff.mpr ndk)) fun p => by rw [hy1.mem_iff, hz1.mem_iff, hdk p]
    refine r_neI (xs := ys) (ys := zs) (SqL.of hp12) (SqL.of hp22) ⟨_, rfl, ?_⟩
    rw [decide_eq_true eyz]
    refine iteF ?_
    -- for place in list(lying_here) + [0, 1, 5000]
    have hd2 := s02 _ _ hd
    refine ⟨_, rfl, d, kvsd, rfl, Rd.of hd2, fun p3 hp3 => ?_⟩
    have ekv : (kvsd.map fun kv => kV kv.1) = known.map V.int := by
      have : kvsd.map (fun kv => kV kv.1) = (kvsd.map (·.1)).map kV := by rw [List.map_map]; rfl
      rw [this, show kvsd.map (·.1) = known.map Sum.inl from hkd, List.map_map]
      rfl
    rw [ekv]
    have s3 := same_new (o := .lst (known.map V.int)) hp3
    have hp33 : upd H2 p3 (.lst (known.map V.int)) p3 = some (.lst (known.map V.int)) := upd_same
    have s03 : Same H (upd H2 p3 (.lst (known.map V.int))) := fun b o z => s3 b o (s02 b o z)
    generalize upd H2 p3 (.lst (known.map V.int)) = H3 at hp33 s03 ⊢
    refine ⟨(by show 3 ≤ sizeLine; decide), fun p4 hp4 => ?_⟩
    have s4 := same_new (o := .lst [.int 0, .int 1, .int 5000]) hp4
    have hp44 : upd H3 p4 (.lst [.int 0, .int 1, .int 5000]) p4 = some (.lst [.int 0, .int 1, .int 5000]) := upd_same
    have s04 : Same H (upd H3 p4 (.lst [.int 0, .int 1, .int 5000])) := fun b o z => s4 b o (s03 b o z)
    have hp34 := s4 _ _ hp33
    generalize upd H3 p4 (.lst [.int 0, .int 1, .int 5000]) = H4 at hp44 s04 hp34 ⊢
    have hkl : known.length ≤ 10000 := Nat.le_trans (nodup_len ndk hkU) cl.len
    refine ⟨p3, p4, _, _, rfl, rfl, hp34, hp44, by rw [List.length_map]; exact small1000'' (by simp; omega), fun p5 hp5 => ?_⟩
    have s5 := same_new (o := .lst (known.map V.int ++ [.int 0, .int 1, .int 5000])) hp5
    have e5 : known.map V.int ++ [.int 0, .int 1, .int 5000] = (known ++ [0, 1, 5000]).map V.int := by rw [List.map_append]; rfl
    rw [e5] at s5 ⊢
    have hp55 : upd H4 p5 (.lst ((known ++ [0, 1, 5000]).map V.int)) p5 = some (.lst ((known ++ [0, 1, 5000]).map V.int)) := upd_same
    have s05 : Same H (upd H4 p5 (.lst ((known ++ [0, 1, 5000]).map V.int))) := fun b o z => s5 b o (s04 b o z)
    generalize upd H4 p5 (.lst ((known ++ [0, 1, 5000]).map V.int)) = H5 at hp55 s05 ⊢
    refine ⟨p5, rfl, ⟨_, SqL.of hp55⟩, ?_⟩
    refine for_list (xs := (known ++ [0, 1, 5000]).map V.int) (fun i σ H' => ∃ v3, σ = [some (.ref B.b), some (.ref A0.sd), some (.ref d), v3] ∧ Same H5 H') ⟨none, rfl, Same.refl _⟩ (fun i σ H' _ z => let ⟨_, _, sm⟩ := z; SqL.of (sm _ _ hp55)) ?_ ?_
    · rintro i x σ H' hx ⟨v3, rfl, sm⟩
      obtain ⟨p, rfl⟩ : ∃ p, x = .int p := by
        rw [List.getElem?_map] at hx
        cases e : (known ++ [0, 1, 5000])[i]? with
        | none => rw [e] at hx; cases hx
        | some p => rw [e] at hx; exact ⟨p, (Option.some.inj hx).symm⟩
      have s0 : Same H H' := fun b o z => sm b o (s05 b o z)
      have hb' := s0 _ _ hb
      have ct' := ct.same s0
      have hd' := s0 _ _ hd
      have el : decide (p ∈ dom) = (valV kvsd (.inl p)).isSome := by
        rw [hkd.isSome]
        by_cases e : p ∈ dom
        · rw [decide_eq_true e, decide_eq_true ((hdk p).mp e)]
        · rw [decide_eq_false e, decide_eq_false fun z => e ((hdk p).mpr z)]
      refine ⟨_, rfl, B.b, B.db, _, rfl, hb', rfl, _, rfl, W, B.b, B.cD, A0.P, U, kvs, cvs, pc, dom, c, p, rfl, ct', _, rfl, _, rfl, d, _, rfl, DGet.k (k := Sum.inl p) hd', _, _, rfl, _, rfl, ?_⟩
      rw [decide_eq_true el]
      refine iteF ?_
      refine ⟨_, rfl, B.b, B.db, _, rfl, hb', rfl, _, rfl, W, B.b, B.cD, A0.P, U, kvs, cvs, pc, dom, c, p, rfl, ct', hdc, ?_⟩
      refine ⟨_, rfl, _, rfl, _, rfl, W, A0, mk, rt, sp, kvs, pc, U, d, kvsd, known, p, rfl, la.same s0, hmk, cl, hd', hkd, hkU, nd1, nd2, fun H6 s6 => ?_⟩
      refine ⟨rfl, _, rfl, ?_⟩
      rw [decide_eq_true (by rw [hc p])]
      exact iteF ⟨_, rfl, fun b o z => s6 b o (sm b o z)⟩
    · rintro σ H' ⟨v3, rfl, sm⟩
      exact k H' fun b o z => sm b o (s05 b o z)
end
end K31

namespace K31
open PySem PySem.Spec PyProof.Rows L2 CwR NdefX LamX
open Cw (Pc pts Good Coming Going inc dec total nodup_len Rch Walking GrowI putP Ranked)
/-- the law's state and the book, side by side -/
structure Jt (K : PySem.W.Frag) (H : Hp) (A : La) (B : Bk) (N : Nat) (mk : Mks) (rt : Option Int) (sp : Int) (kvs : DK) (pc : Pc) (U dom : List Int) (c : Int → Nat) (cvs : DK) : Prop where
  la : LA [A.lm, B.mL] H A (some (mk, rt)) sp kvs pc
  ba : BA K [A.lm, B.mL] H B U kvs pc mk rt dom c cvs
  eP : B.Pa = A.P
  ps : Pcs N kvs pc U
  hU : ∀ r ∈ heads (some (mk, rt)), r ∈ U
  dr : ∀ p, p ∈ dom ↔ Rch pc (heads (some (mk, rt))) p
  good : Good pc (heads (some (mk, rt))) dom c
  rk : Ranked pc (heads (some (mk, rt)))
  inc : mk.Pairwise fun a b => a.1 < b.1
  len : mk.length ≤ 11
  d1 : A.lm ≠ B.mL
  d2 : ∀ a ∈ [A.sd, A.L, A.ld, A.P], a ≠ B.SD ∧ a ≠ B.cD
theorem putK_root (lm : Addr) (rt rt' : Option Int) : putK (lineKV lm rt) (.inr "root") (rtV rt') = lineKV lm rt' := rfl
section
variable {K : PySem.W.Frag} {W : List Addr} {H H' : Hp} {A : La} {B : Bk} {ln : Ln} {sp : Int} {kvs cvs : DK} {pc : Pc} {mk : Mks} {rt : Option Int} {U dom : List Int} {c : Int → Nat}
theorem LA.setroot (h : LA W H A (some (mk, rt)) sp kvs pc) (rt' : Option Int) : LA W (upd H A.ld (.dK (lineKV A.lm rt'))) A (some (mk, rt')) sp kvs pc := by
  obtain ⟨h1, h2, h3, h4, h5, h6⟩ := h.ld mk rt rfl
  have k := upd_kp H A.ld (.dK (lineKV A.lm rt'))
  have hS := mut1 (W := W) h1 True.intro fun xs z => nomatch z
  refine ⟨k.get h.sd (by simpa using h4.symm), k.get h.L (by simpa using h6.symm), fun mk' rt'' e => ?_, h.pcs.kp k (by simpa using h5.symm) hS, h.n1, h.n2, h.n3⟩
  cases e
  obtain ⟨ts, hl, hv⟩ := id h2
  exact ⟨upd_same, h2.kp k (by simpa using ne_of hl h1 (by intro z; cases z)) fun c z u hu => (hS c z u hu).1, h3, h4, h5, h6⟩
/-- the makes' list changes -/
theorem LA.setmakes {mk' : Mks} {ts' : List V} (h : LA W H A (some (mk, rt)) sp kvs pc) (hv : MksV H ts' mk') : LA W (upd H A.lm (.lst ts')) A (some (mk', rt)) sp kvs pc := by
  obtain ⟨h1, ⟨ts, hl, _⟩, h3, h4, h5, h6⟩ := h.ld mk rt rfl
  have k := upd_kp H A.lm (.lst ts')
  have hS := mut1 (W := W) hl True.intro fun _ _ => h3
  refine ⟨k.get h.sd (by simpa using ne_of h.sd hl (by intro z; cases z)), k.get h.L (by simpa using ne_of h.L hl (by intro z; cases z)), fun mk'' rt'' e => ?_, h.pcs.kp k (by simpa using ne_of h.pcs.dict hl (by intro z; cases z)) hS, h.n1, h.n2, h.n3⟩
  cases e
  exact ⟨k.get h1 (by simpa using ne_of h1 hl (by intro z; cases z)), ⟨_, upd_same, hv.still fun p xs e => k.still (fun c z u hu => (hS c z u hu).1) e fun z => z⟩, h3, h4, h5, h6⟩
/-- the book's own things change -/
theorem LA.book (h : LA W H A (some (mk, rt)) sp kvs pc) {mk2 : Mks} {rt2 : Option Int} (b : BA K W H B U kvs pc mk2 rt2 dom c cvs) (d1 : A.lm ≠ B.mL) (d2 : ∀ a ∈ [A.sd, A.L, A.ld, A.P], a ≠ B.SD ∧ a ≠ B.cD) (k : Kp [B.cD, B.sa, B.mL] H H') : LA W H' A (some (mk, rt)) sp kvs pc := by
  obtain ⟨h1, ⟨ts, hl, _⟩, h3, h4, h5, h6⟩ := h.ld mk rt rfl
  obtain ⟨xs, hm⟩ := b.lst
  have ns : ∀ {a : Addr} {kv : DK}, H a = some (.dK kv) → a ≠ B.cD → ¬ a ∈ [B.cD, B.sa, B.mL] := fun {a kv} e n z => by
    rcases (by simpa using z : a = B.cD ∨ a = B.sa ∨ a = B.mL) with y | y | y
    · exact n y
    · exact ne_of e b.sa (by intro z; cases z) y
    · exact ne_of e hm (by intro z; cases z) y
  refine h.kp k (fun a ha => ?_) (fun _ => ⟨ns h1 (d2 _ (by simp)).2, fun z => ?_⟩) fun x hx o ho => ?_
  · rcases (by simpa using ha : a = A.sd ∨ a = A.P ∨ a = A.L) with e | e | e
    · rw [e]; exact ns h.sd (d2 _ (by simp)).2
    · rw [e]; exact ns h.pcs.dict (d2 _ (by simp)).2
    · rw [e]; exact ns h.L (d2 _ (by simp)).2
  · rcases (by simpa using z : A.lm = B.cD ∨ A.lm = B.sa ∨ A.lm = B.mL) with y | y | y
    · exact ne_of hl b.ct.cd (by intro z; cases z) y
    · exact ne_of hl b.sa (by intro z; cases z) y
    · exact d1 y
  · rcases (by simpa using hx : x = B.cD ∨ x = B.sa ∨ x = B.mL) with y | y | y
    · rw [y, b.ct.cd] at ho
      cases ho
      exact ⟨True.intro, fun xs z => nomatch z⟩
    · rw [y, b.sa] at ho
      cases ho
      exact ⟨True.intro, fun xs z => nomatch z⟩
    · rw [y]
      rw [y, hm] at ho
      cases ho
      exact ⟨True.intro, fun _ _ => b.mW⟩
/-- the law's own things change, but the pieces -/
theorem BA.law (b : BA K W H B U kvs pc mk rt dom c cvs) {mk2 : Mks} {rt2 : Option Int} (h : LA W H A (some (mk2, rt2)) sp kvs pc) (eP : B.Pa = A.P) (d1 : A.lm ≠ B.mL) (d2 : ∀ a ∈ [A.sd, A.L, A.ld, A.P], a ≠ B.SD ∧ a ≠ B.cD) (k : Kp [A.sd, A.ld, A.lm] H H') : BA K W H' B U kvs pc mk rt dom c cvs := by
  obtain ⟨h1, ⟨ts, hl, _⟩, h3, h4, h5, h6⟩ := h.ld mk2 rt2 rfl
  obtain ⟨xs, hm⟩ := b.lst
  have ns : ∀ {a : Addr} {o : HO}, H a = some o → (∀ kv, o ≠ .dK kv) → a ≠ A.lm → ¬ a ∈ [A.sd, A.ld, A.lm] := fun {a o} e n m z => by
    rcases (by simpa using z : a = A.sd ∨ a = A.ld ∨ a = A.lm) with y | y | y
    · exact ne_of e h.sd (n _) y
    · exact ne_of e h1 (n _) y
    · exact m y
  have nd : ∀ {a : Addr} {kv : DK}, H a = some (.dK kv) → A.sd ≠ a → A.ld ≠ a → ¬ a ∈ [A.sd, A.ld, A.lm] := fun {a kv} e n m z => by
    rcases (by simpa using z : a = A.sd ∨ a = A.ld ∨ a = A.lm) with y | y | y
    · exact n y.symm
    · exact m y.symm
    · exact ne_of e hl (by intro z; cases z) y
  refine b.kp k (fun a ha => ?_) fun x hx o ho => ?_
  · rcases (by simpa using ha : a = B.b ∨ a = B.SD ∨ a = B.sa ∨ a = B.mL ∨ a = B.cD ∨ a = B.Pa) with e | e | e | e | e | e
    · rw [e]; exact ns b.ins (fun _ z => nomatch z) (ne_of b.ins hl (by intro z; cases z))
    · rw [e]; exact nd b.sd (d2 _ (by simp)).1 (d2 _ (by simp)).1
    · rw [e]; exact ns b.sa (fun _ z => nomatch z) (ne_of b.sa hl (by intro z; cases z))
    · rw [e]; exact ns hm (fun _ z => nomatch z) d1.symm
    · rw [e]; exact nd b.ct.cd (d2 _ (by simp)).2 (d2 _ (by simp)).2
    · rw [e]; exact nd b.ct.pcs.dict (by rw [eP]; exact h.n1) (by rw [eP]; exact h5)
  · rcases (by simpa using hx : x = A.sd ∨ x = A.ld ∨ x = A.lm) with y | y | y
    · rw [y, h.sd] at ho
      cases ho
      exact ⟨True.intro, fun xs z => nomatch z⟩
    · rw [y, h1] at ho
      cases ho
      exact ⟨True.intro, fun xs z => nomatch z⟩
    · rw [y]
      rw [y, hl] at ho
      cases ho
      exact ⟨True.intro, fun _ _ => h3⟩
/-- new pieces -/
theorem BA.piece {kvs' : DK} {pc' : Pc} {U' : List Int} (b : BA K W H B U kvs pc mk rt dom c cvs) (h : LA W H A ln sp kvs pc) (eP : B.Pa = A.P) (d2 : ∀ a ∈ [A.sd, A.L, A.ld, A.P], a ≠ B.SD ∧ a ≠ B.cD) (k : Kp [A.sd, A.P] H H') (p : PcAt W H' A.P kvs' pc') (cl : Closed pc' U') (su : ∀ q ∈ U, q ∈ U') :
    BA K W H' B U' kvs' pc' mk rt dom c cvs := by
  obtain ⟨xs, hm⟩ := b.lst
  have ns : ∀ {a : Addr} {o : HO}, H a = some o → (∀ kv, o ≠ .dK kv) → ¬ a ∈ [A.sd, A.P] := fun {a o} e n z => by
    rcases (by simpa using z : a = A.sd ∨ a = A.P) with y | y
    · exact ne_of e h.sd (n _) y
    · exact ne_of e h.pcs.dict (n _) y
  have hS : ∀ x ∈ [A.sd, A.P], ∀ u, H x = some u → MutK u := fun x hx o ho => by
    rcases (by simpa using hx : x = A.sd ∨ x = A.P) with y | y
    · rw [y, h.sd] at ho
      cases ho
      trivial
    · rw [y, h.pcs.dict] at ho
      cases ho
      trivial
  have nS : ¬ B.SD ∈ [A.sd, A.P] := by simpa using ⟨(d2 A.sd (by simp)).1.symm, (d2 A.P (by simp)).1.symm⟩
  have nC : ¬ B.cD ∈ [A.sd, A.P] := by simpa using ⟨(d2 A.sd (by simp)).2.symm, (d2 A.P (by simp)).2.symm⟩
  obtain ⟨db, fs, fP, h1, h2, h3, h4⟩ := b.ct.ins
  have hI := ns b.ins fun _ z => nomatch z
  refine ⟨k.get b.ins hI, k.get b.sd nS, k.get b.sa (ns b.sa fun _ z => nomatch z), b.mks.kp k (ns hm fun _ z => nomatch z) hS, ⟨⟨db, fs, fP, k.get h1 hI, h2, h3, h4.kp k hS⟩, k.get b.ct.cd nC, b.ct.cnt, by rw [eP]; exact p, b.ct.ne, cl, fun q hq => su q (b.ct.sub q hq)⟩, b.ne, b.nb, b.nP, b.mW⟩
end
end K31

namespace K31
open PySem PySem.Spec PyProof.Rows L2 CwR NdefX LamX
open Cw (Pc pts Good Coming Going inc dec total nodup_len Rch Walking GrowI putP Ranked)
section
variable {P : Program} {w : World} {K : PySem.W.Frag} {mg : Str → Option Value} {base : Heap}
theorem ktr {S S' T : List Addr} {H H1 H2 : Hp} (k : Kp S H H1) (k' : Kp S' H1 H2) (h : ∀ c ∈ S, c ∈ T) (h' : ∀ c ∈ S', c ∈ T) : Kp T H H2 := (k.wide h).trans (k'.wide h') fun c z => .inl z
theorem Jt.same {H H' : Hp} {A : La} {B : Bk} {N : Nat} {mk : Mks} {rt : Option Int} {sp : Int} {kvs cvs : DK} {pc : Pc} {U dom : List Int} {c : Int → Nat} (J : Jt K H A B N mk rt sp kvs pc U dom c cvs) (s : Same H H') : Jt K H' A B N mk rt sp kvs pc U dom c cvs :=
  ⟨J.la.same s, J.ba.same s, J.eP, J.ps, J.hU, J.dr, J.good, J.rk, J.inc, J.len, J.d1, J.d2⟩
theorem Jt.more {H : Hp} {A : La} {B : Bk} {N N' : Nat} {mk : Mks} {rt : Option Int} {sp : Int} {kvs cvs : DK} {pc : Pc} {U dom : List Int} {c : Int → Nat} (J : Jt K H A B N mk rt sp kvs pc U dom c cvs) (n : N ≤ N') : Jt K H A B N' mk rt sp kvs pc U dom c cvs :=
  ⟨J.la, J.ba, J.eP, ⟨J.ps.keys, J.ps.nd, J.ps.there, J.ps.out, Nat.le_trans J.ps.len n⟩, J.hU, J.dr, J.good, J.rk, J.inc, J.len, J.d1, J.d2⟩
theorem sc__law_deed : FnScope ["_law_book_here", "_law_state", "_law_numbers", "_law_line", "_law_way", "_law_root", "_law_stamp"] ["_law_book_here", "_law_state", "_law_numbers"] (defScope s__law_deed) := ⟨rfl, rfl, rfl, by decide +kernel, rfl, by decide +kernel, by decide +kernel⟩
def spDeed (K : PySem.W.Frag) : Sp := fun vs H Q _ => ∃ (A : La) (B : Bk) (N : Nat) (mk : Mks) (rt : Option Int) (sp : Int) (kvs : DK) (pc : Pc) (U dom : List Int) (c : Int → Nat) (cvs : DK) (nl : Addr) (ns : List Int), vs = [.ref B.b, .ref A.sd, .ref nl] ∧ Jt K H A B N mk rt sp kvs pc U dom c cvs ∧ N ≤ 800 ∧ H nl = some (.lst (ns.map V.int)) ∧ ns.length = 12 ∧
  ∀ (H' : Hp) (mL' : Addr) (mk' : Mks) (rt' : Option Int) (sp' : Int) (kvs' : DK) (pc' : Pc) (U' dom' : List Int) (c' : Int → Nat) (cvs' : DK) (p : Addr) (freed : List Int), Kp [A.sd, A.P, A.ld, A.lm, B.cD, B.sa, B.mL] H H' → Jt K H' A { B with mL := mL' } (N + 4) mk' rt' sp' kvs' pc' U' dom' c' cvs' →
    H' p = some (.lst (freed.map V.int)) → freed.Nodup → freed.Pairwise (· ≤ ·) → (∀ q, q ∈ freed ↔ Rch pc (heads (some (mk, rt))) q ∧ ¬ Rch pc' (heads (some (mk', rt'))) q) → Q (.ref p) H'
theorem ok__law_deed (T : Txt K mg) : FnOk P w K mg base CX0 5 (He.fAd K ("_law_deed", none)) (CwH.fdOf K ("_law_deed", none)) ["_law_book_here", "_law_state", "_law_numbers"] (spDeed K) := by
  refine T.f__law_deed.ok sc__law_deed (fun vs H Q E h => ?_) (fun cdv A outer s H vs Q E hr h => ?_)
  · obtain ⟨_, _, _, _, _, _, _, _, _, _, _, _, _, _, rfl, _⟩ := h
    rfl
  · obtain ⟨A0, B, N, mk, rt, sp, kvs, pc, U, dom, c, cvs, nl, ns, rfl, J, hN, hn, hn12, k⟩ := h
    have hu := hu_of hr
    have hu64 : (A.deeper (envOfC "_law_deed" (defScope s__law_deed) s.heap.objs.size (He.fAd K ("_law_deed", none)) cdv)).units + 64 < cLine := hr.units
    refine ⟨_, (pss_cons (ps_set (i := 3) sc__law_deed.nd rfl (by first | exact Or.inl rfl | exact Or.inr rfl) (pe_dget hu (pe_dget hu (pv 1) pe_str (fun _ _ => rfl)) pe_int (fun _ _ => rfl)))
 (pss_cons (ps_set (i := 4) sc__law_deed.nd rfl (by first | exact Or.inl rfl | exact Or.inr rfl) (pe_op op_mod (pe_ix (show IxR _ (rIxL K) from ix_list) (pv 2) pe_int (fun _ _ => rfl)) pe_int))
 (pss_cons (ps_if (PW.pt (pw_and (pt_cmp (pc_notN (pe_dget hu (pv 3) pe_str (fun _ _ => rfl)))) (pw_and1 (pt_cmpR op_lt (pv 4) pe_int (nomark _))))) (pss_cons (ps_set (i := 5) sc__law_deed.nd rfl (by first | exact Or.inl rfl | exact Or.inr rfl) (pe_call (ok__law_tree T) (hr.mono (by decide)) (by rfl) T.g__law_tree (T.f__law_tree).kp T.b__law_tree .nil pass0 (pa_cons (pv 1) (pa_cons (pv 2) (pa_cons (pe_call (ok__law_reach T) (hr.mono (by decide)) (by rfl) T.g__law_reach (T.f__law_reach).kp T.b__law_reach .nil pass0 (pa_cons (pe_dget hu (pv 1) pe_str (fun _ _ => rfl)) (pa_cons (pe_lst (pa_cons (pe_dget hu (pv 3) pe_str (fun _ _ => rfl)) pa_nil)) pa_nil))) pa_nil)))))
 (pss_cons (ps_dput hu (pv 3) pe_str (pv 5) rfl)
 (pss_one (ps_ret (pe_meth (pv 0) T.c_Counts T.m_Counts_grown (ok_Counts_grown T) (hr.mono (by decide)) T.b_Counts_grown .nil pass0 (pa_cons pe_int (pa_cons (pv 5) pa_nil))))))) pss_nil)
 (pss_cons (ps_if (PW.pt (pw_and (pt_cmp (pc_notN (pe_dget hu (pv 3) pe_str (fun _ _ => rfl)))) (pw_and (pt_cmpR op_lt (pv 4) pe_int (nomark _)) (pw_and1 (pt_cmpR op_lt (pe_callB call_len_seq (by rfl) T.free_len (by decide +kernel) (pa_cons (pe_dget hu (pv 3) pe_str (fun _ _ => rfl)) pa_nil)) pe_int (nomark _)))))) (pss_cons (ps_set (i := 6) sc__law_deed.nd rfl (by first | exact Or.inl rfl | exact Or.inr rfl) (pe_call (ok__law_made_stamp T) (hr.mono (by decide)) (by rfl) T.g__law_made_stamp (T.f__law_made_stamp).kp T.b__law_made_stamp .nil pass0 (pa_cons (pv 1) (pa_cons (pv 3) (pa_cons (pe_ix (show IxR _ (rIxL K) from ix_list) (pv 2) pe_int (fun _ _ => rfl)) pa_nil)))))
 (pss_cons (ps_expr (pe_bm PySem.F.plainAttrs_list PySem.F.slot_list_append PySem.F.type_list_append mt_append (pe_dget hu (pv 3) pe_str (fun _ _ => rfl)) (pa_cons (pe_tup (pa_cons (pv 6) (pa_cons (pe_dget hu (pv 3) pe_str (fun _ _ => rfl)) pa_nil))) pa_nil)))
 (pss_cons (ps_expr (pe_meth (pv 0) T.c_Counts T.m_Counts_made (ok_Counts_made T) (hr.mono (by decide)) T.b_Counts_made .nil pass0 (pa_cons pe_int (pa_cons (pv 6) pa_nil))))
 (pss_one (ps_ret (pe_lst pa_nil)))))) pss_nil)
 (pss_cons (ps_if (PW.pt (pw_and (pt_cmp (pc_notN (pe_dget hu (pv 3) pe_str (fun _ _ => rfl)))) (pw_and (pt_cmpR op_eq (pv 4) pe_int (nomark _)) (pw_and1 (pt_cmpR (op_neD hr.units) (pe_dget hu (pv 3) pe_str (fun _ _ => rfl)) (pe_lst pa_nil) (nomark _)))))) (pss_cons (ps_dput hu (pv 3) pe_str pe_non rfl)
 (pss_one (ps_ret (pe_meth (pv 0) T.c_Counts T.m_Counts_ended (ok_Counts_ended T) (hr.mono (by decide)) T.b_Counts_ended .nil pass0 (pa_cons pe_int pa_nil))))) pss_nil)
 (pss_cons (ps_if (PW.pt (pw_and (pt_cmpR (op_neD hr.units) (pe_dget hu (pv 3) pe_str (fun _ _ => rfl)) (pe_lst pa_nil) (nomark _)) (pw_and1 (PW.pt (pw_or (pt_cmpR op_gt (pe_callB call_len_seq (by rfl) T.free_len (by decide +kernel) (pa_cons (pe_dget hu (pv 3) pe_str (fun _ _ => rfl)) pa_nil)) pe_int (nomark _)) (pw_or1 (pt_cmp (pc_notN (pe_dget hu (pv 3) pe_str (fun _ _ => rfl)))))))))) (pss_cons (ps_asg (pe_bm PySem.F.plainAttrs_list PySem.F.slot_list_pop PySem.F.type_list_pop mt_popAt (pe_dget hu (pv 3) pe_str (fun _ _ => rfl)) (pa_cons (pe_op op_mod (pe_ix (show IxR _ (rIxL K) from ix_list) (pv 2) pe_int (fun _ _ => rfl)) (pe_callB call_len_seq (by rfl) T.free_len (by decide +kernel) (pa_cons (pe_dget hu (pv 3) pe_str (fun _ _ => rfl)) pa_nil))) pa_nil)) (show PG _ _ (gTup K 2 _) from pg_tup rfl (pgs_cons (pg_name (i := 6) sc__law_deed.nd rfl (by first | exact Or.inl rfl | exact Or.inr rfl)) (pgs_cons (pg_name (i := 5) sc__law_deed.nd rfl (by first | exact Or.inl rfl | exact Or.inr rfl)) pgs_nil))))
 (pss_one (ps_ret (pe_meth (pv 0) T.c_Counts T.m_Counts_unmade (ok_Counts_unmade T) (hr.mono (by decide)) T.b_Counts_unmade .nil pass0 (pa_cons pe_int (pa_cons (pv 6) pa_nil)))))) pss_nil)
 (pss_one (ps_ret (pe_lst pa_nil))))))))), ?_⟩
    have la := J.la
    have ba := J.ba
    obtain ⟨h1, ⟨ts, h2, h3⟩, h4, h5, h6, h7⟩ := la.ld mk rt rfl
    have gL : DGet H A0.sd (.str "lines") (some (.ref A0.L)) := DGet.k (k := (Sum.inr "lines" : Key)) la.sd
    have g1 : DGet H A0.L (.int 1) (some (.ref A0.ld)) := DGet.k (k := (Sum.inl 1 : Key)) la.L
    have gr : DGet H A0.ld (.str "root") (some (rtV rt)) := DGet.k (k := (Sum.inr "root" : Key)) h1
    have gm : DGet H A0.ld (.str "makes") (some (.ref A0.lm)) := DGet.k (k := (Sum.inr "makes" : Key)) h1
    refine ⟨_, rfl, A0.sd, _, rfl, gL, A0.L, _, rfl, g1, ?_⟩
    have atN : ∀ i : Nat, i < 12 → ∃ z : Int, atI (ns.map V.int) (i : Int) = some (V.int z) := fun i hi => by
      have : i < ns.length := by omega
      exact ⟨ns[i], atI_nat (by rw [List.getElem?_map, List.getElem?_eq_getElem this]; rfl)⟩
    obtain ⟨n10, hn10⟩ := atN 10 (by decide)
    obtain ⟨n11, hn11⟩ := atN 11 (by decide)
    refine ⟨_, rfl, nl, _, _, _, rfl, rfl, SqL.of hn, hn10, _, _, rfl, rfl, (show (0 : Int) < 16 by decide), ?_⟩
    have cl := J.ps.closed (by omega)
    have hln : (heads (some (mk, rt))).length ≤ 1000 := by
      have := J.len
      have e : (heads (some (mk, rt))).length = mk.length + rt.toList.length := by simp [heads]
      have e2 : rt.toList.length ≤ 1 := by cases rt <;> simp
      omega
    have alive : ∀ a ∈ [A0.lm, B.mL], H a ≠ none := fun a ha => by
      rcases (by simpa using ha : a = A0.lm ∨ a = B.mL) with e | e
      · rw [e, h2]; simp
      · obtain ⟨xs, hm⟩ := ba.lst
        rw [e, hm]; simp
    cases rt
    case' none =>
      refine ⟨_, rfl, A0.ld, _, rfl, gr, _, rfl, iteF (iteF ⟨_, rfl, A0.ld, _, rfl, gr, _, rfl, iteF (iteF ⟨_, rfl, A0.ld, _, rfl, gr, _, rfl, iteF (iteF ?_)⟩)⟩)⟩
      obtain ⟨HX, eX, sX⟩ : ∃ HX : Hp, HX = H ∧ Same H HX := ⟨_, rfl, Same.refl _⟩
      rw [← eX]
    case' some r0 =>
      have hr0 : r0 ∈ heads (some (mk, some r0)) := by simp [heads]
      refine ⟨_, rfl, A0.ld, _, rfl, gr, _, rfl, iteT ⟨_, rfl, _, _, rfl, rfl, _, rfl, ?_⟩⟩
      by_cases w8 : n10 % 16 < 8
      case' pos =>
        rw [decide_eq_true w8]
        refine iteT ?_
        have gP : DGet H A0.sd (.str "pieces") (some (.ref A0.P)) := DGet.k (k := (Sum.inr "pieces" : Key)) la.sd
        refine ⟨_, rfl, _, rfl, _, rfl, A0.sd, _, rfl, gP, _, rfl, A0.ld, _, rfl, gr, (by show 1 ≤ sizeLine; decide), fun p1 hp1 => ?_⟩
        have s1 := same_new (o := .lst [rtV (some r0)]) hp1
        refine ⟨[A0.lm, B.mL], A0.P, p1, kvs, pc, U, [r0], rfl, (la.same s1).pcs, cl, SqL.of upd_same, by simpa using J.hU r0 hr0, by simp, fun H2 oa kvso olds s2 hoa hoa2 hko ndo hro => ?_⟩
        have s02 : Same H H2 := fun b o z => s2 b o (s1 b o z)
        have la2 := la.same s02
        have ba2 := ba.same s02
        have hoa0 : H oa = none := knone (Kp.of_same (S := []) s1) hoa (by simp)
        have al2 : ∀ a ∈ [A0.lm, B.mL], H2 a ≠ none := fun a ha z => alive a ha (knone (Kp.of_same (S := []) s02) z (by simp))
        refine ⟨[A0.lm, B.mL], A0, some (mk, some r0), sp, kvs, pc, U, N, nl, oa, ns, olds, rfl, la2, J.ps, by omega, J.hU, hln, al2, s02 _ _ hn, hn12, .inl ⟨kvso, hoa2, hko⟩, (ne_of_none la.sd hoa0).symm, (ne_of_none la.pcs.dict hoa0).symm, fun p hp => ((hro p).mp hp).mono fun x hx => .root (by rw [List.mem_singleton.mp hx]; exact hr0), ndo, fun H3 kvs' pc' U' r k3 la3 ps3 su3 gr3 => ?_⟩
        obtain ⟨fr, gi, hrf, hfu⟩ := gr3
        have ba3 := ba2.piece la2 J.eP J.d2 k3 la3.pcs (ps3.closed (by omega)) su3
        obtain ⟨h13, _⟩ := la3.ld mk (some r0) rfl
        refine ⟨_, rfl, _, rfl, A0.ld, _, rfl, DPut.k (k := (Sum.inr "root" : Key)) h13 (by show 3 < sizeLine; decide), ?_⟩
        rw [show putK (lineKV A0.lm (some r0)) (.inr "root") (V.int r) = lineKV A0.lm (some r) from rfl]
        have la4 := la3.setroot (some r)
        have kp4 : Kp [A0.sd, A0.ld, A0.lm] H3 (upd H3 A0.ld (.dK (lineKV A0.lm (some r)))) := (upd_kp _ _ _).wide (by simp)
        have ba4 := ba3.law la3 J.eP J.d1 J.d2 kp4
        have k4 : Kp [A0.sd, A0.P, A0.ld] H (upd H3 A0.ld (.dK (lineKV A0.lm (some r)))) := (ktr (Kp.of_same (S := []) s02) k3 (by simp) (by simp) : Kp [A0.sd, A0.P, A0.ld] H H3).put (.inl (by simp))
        simp only [cxK, cxK2]
        generalize upd H3 A0.ld (.dK (lineKV A0.lm (some r))) = H4 at la4 ba4 k4 ⊢
        have hmU : ∀ x ∈ mk.map (·.2), x ∈ U := fun x hx => J.hU x (List.mem_append_left _ hx)
        have G' : Good pc' (mk.map (·.2) ++ [r0]) dom c := J.good.congr fun q hq => gi.same q fun z => gi.out q z ((J.dr q).mp hq)
        refine ⟨_, rfl, B.b, B.db, _, rfl, ba4.ins, rfl, _, rfl, [A0.lm, B.mL], B, U', kvs', pc', mk, r0, r, dom, c, cvs, rfl, ba4, G', hfu r hrf, fun H5 cvs5 dom1 dom5 c1 c5 p freed k5 ba5 G1 R1 sb G5 hp hp5 nd5 pw5 fr5 => ?_⟩
        obtain ⟨m1, m2, m3⟩ := Cw.grown_math J.dr J.rk gi hrf G1 R1 sb G5
        have la5 := la4.book ba4 J.d1 J.d2 (k5.wide (by simp))
        refine k H5 B.mL mk (some r) (sp + 1) kvs' pc' U' dom5 c5 cvs5 p freed (ktr k4 k5 (by simp) (by simp)) ⟨la5, ba5, J.eP, ps3, fun x hx => ?_, m1, G5, m2, J.inc, J.len, J.d1, J.d2⟩ hp5 nd5 pw5 fun q => ?_
        · rcases List.mem_append.mp hx with z | z
          · exact su3 x (hmU x z)
          · have : x = r := by simpa using z
            rw [this]
            exact hfu r hrf
        · rw [fr5 q]
          exact m3 q
      have w8' := w8
      rw [decide_eq_false w8]
      refine iteF ?_
      have hl11 : ((ts.length : Int) < 11) ↔ mk.length < 11 := by rw [h3.len]; omega
      refine ⟨_, rfl, A0.ld, _, rfl, gr, _, rfl, iteT ⟨_, rfl, _, _, rfl, rfl, _, rfl, ?_⟩⟩
      by_cases w12 : n10 % 16 < 12
      case' pos =>
        rw [decide_eq_true w12]
        refine iteT ⟨_, rfl, A0.ld, _, rfl, gm, A0.lm, _, rfl, .inl (SqL.of h2), _, _, rfl, rfl, _, rfl, ?_⟩
        by_cases hl : mk.length < 11
        case' pos =>
          rw [decide_eq_true (hl11.mpr hl)]
          refine iteT ?_
          refine ⟨_, rfl, _, rfl, _, rfl, nl, _, _, _, rfl, rfl, SqL.of hn, hn11, [A0.lm, B.mL], A0, mk, some r0, sp, n11, kvs, pc, rfl, la, J.inc, fun H1 s sp' k1 la1 hs => ?_⟩
          have ba1 := ba.law la J.eP J.d1 J.d2 (k1.wide (by simp))
          obtain ⟨h11, ⟨ts1, h21, h31⟩, _⟩ := la1.ld mk (some r0) rfl
          have gm1 : DGet H1 A0.ld (.str "makes") (some (.ref A0.lm)) := DGet.k (k := (Sum.inr "makes" : Key)) h11
          have gr1 : DGet H1 A0.ld (.str "root") (some (rtV (some r0))) := DGet.k (k := (Sum.inr "root" : Key)) h11
          refine ⟨_, rfl, A0.ld, _, rfl, gm1, .inl ⟨rfl, _, SqL.of h21⟩, _, rfl, _, rfl, A0.ld, _, rfl, gr1, (by show 2 ≤ sizeLine; decide), fun t ht => ?_⟩
          have st := same_new (o := .tup [.int s, rtV (some r0)]) ht
          have htt : upd H1 t (.tup [.int s, rtV (some r0)]) t = some (.tup [.int s, .int r0]) := upd_same
          have la2 := la1.same st
          have ba2 := ba1.same st
          have h22 := st _ _ h21
          have h32 : MksV (upd H1 t (.tup [.int s, rtV (some r0)])) ts1 mk := h31.still fun p xs e => st _ _ e
          have k2 : Kp [A0.sd] H (upd H1 t (.tup [.int s, rtV (some r0)])) := k1.same st
          simp only [cxK, cxK2]
          generalize upd H1 t (.tup [.int s, rtV (some r0)]) = H2 at htt la2 ba2 h22 h32 k2 ⊢
          refine ⟨A0.lm, _, _, rfl, rfl, h22, small1000' (by rw [h32.len]; omega), ?_⟩
          have la3 := la2.setmakes (h32.app (.cons htt .nil))
          have ba3 := ba2.law la2 J.eP J.d1 J.d2 ((upd_kp H2 A0.lm (.lst (ts1 ++ [.ref t]))).wide (by simp))
          have k3 : Kp [A0.sd, A0.lm] H (upd H2 A0.lm (.lst (ts1 ++ [.ref t]))) := (k2.wide (by simp)).put (.inl (by simp))
          generalize upd H2 A0.lm (.lst (ts1 ++ [.ref t])) = H3 at la3 ba3 k3 ⊢
          refine ⟨_, rfl, B.b, B.db, _, rfl, ba3.ins, rfl, _, rfl, [A0.lm, B.mL], B, U, kvs, pc, mk, r0, s, dom, c, cvs, rfl, ba3, J.good, J.hU r0 hr0, by omega, fun H4 cvs4 dom4 c4 k4 ba4 G4 R4 => ?_⟩
          have la4 := la3.book ba3 J.d1 J.d2 (k4.wide (by simp))
          refine ⟨Nat.zero_le _, fun p hp => ?_⟩
          have sp5 := same_new (o := .lst []) hp
          have eh : heads (some (mk ++ [(s, r0)], some r0)) = mk.map (·.2) ++ [r0] ++ [r0] := by simp [heads]
          have hss : ∀ x, x ∈ mk.map (·.2) ++ [r0] ++ [r0] ↔ x ∈ heads (some (mk, some r0)) := fun x => by simp [heads]
          obtain ⟨m1, m2, m3⟩ := Cw.come_math J.dr J.rk hr0 G4 R4 hss
          refine k (upd H4 p (.lst [])) B.mL (mk ++ [(s, r0)]) (some r0) sp' kvs pc U dom4 c4 cvs4 p [] ((ktr k3 k4 (by simp) (by simp)).same sp5) (((Jt.mk la4 ba4 J.eP J.ps (fun x hx => J.hU x ((hss x).mp (by rw [← eh]; exact hx))) (by rw [eh]; exact m1) (by rw [eh]; exact G4) (by rw [eh]; exact m2) ?_ (by simp; omega) J.d1 J.d2).same sp5).more (by omega)) upd_same List.nodup_nil .nil fun q => ?_
          · refine List.pairwise_append.mpr ⟨J.inc, List.pairwise_singleton _ _, fun a ha b hb => ?_⟩
            rw [List.mem_singleton.mp hb]
            exact hs a ha
          · rw [eh]
            constructor
            · exact fun z => nomatch z
            · exact fun z => absurd ((m3 q).mpr z.1) z.2
        case' neg =>
          rw [decide_eq_false fun z => hl (hl11.mp z)]
          refine iteF ?_
          refine ⟨_, rfl, A0.ld, _, rfl, gr, _, rfl, iteT ⟨_, rfl, rfl, _, rfl, ?_⟩⟩
          rw [decide_eq_false (show ¬ V.int (n10 % 16) = V.int 15 from fun z => by have := V.int.inj z; omega)]
          refine iteF (iteF ?_)
          obtain ⟨HX, eX, sX⟩ : ∃ HX : Hp, HX = H ∧ Same H HX := ⟨_, rfl, Same.refl _⟩
          rw [← eX]
      case' neg =>
        rw [decide_eq_false w12]
        refine iteF (iteF ?_)
        refine ⟨_, rfl, A0.ld, _, rfl, gr, _, rfl, iteT ⟨_, rfl, rfl, _, rfl, ?_⟩⟩
        by_cases w15 : n10 % 16 = 15
        case' neg =>
          rw [decide_eq_false (show ¬ V.int (n10 % 16) = V.int 15 from fun z => w15 (V.int.inj z))]
          refine iteF (iteF ?_)
          obtain ⟨HX, eX, sX⟩ : ∃ HX : Hp, HX = H ∧ Same H HX := ⟨_, rfl, Same.refl _⟩
          rw [← eX]
        case' pos =>
          rw [decide_eq_true (show V.int (n10 % 16) = V.int 15 by rw [w15])]
          refine iteT ⟨_, rfl, A0.ld, _, rfl, gm, Nat.zero_le _, fun p1 hp1 => ?_⟩
          have s1 := same_new (o := .lst []) hp1
          refine r_neMks (s1 _ _ h2) (h3.still fun p xs e => s1 _ _ e) upd_same ⟨_, rfl, ?_⟩
          by_cases hmn : mk = []
          case' pos =>
            rw [decide_eq_true hmn]
            refine iteF ?_
            obtain ⟨HX, eX, sX⟩ : ∃ HX : Hp, HX = upd H p1 (.lst []) ∧ Same H HX := ⟨_, rfl, s1⟩
            rw [← eX]
          case' neg =>
            rw [decide_eq_false hmn]
            refine iteT ?_
            have la1 := la.same s1
            have ba1 := ba.same s1
            generalize upd H p1 (.lst []) = H1 at s1 la1 ba1 ⊢
            obtain ⟨h11, _⟩ := la1.ld mk (some r0) rfl
            refine ⟨_, rfl, A0.ld, _, rfl, DPut.k (k := (Sum.inr "root" : Key)) h11 (by show 3 < sizeLine; decide), ?_⟩
            rw [show putK (lineKV A0.lm (some r0)) (.inr "root") V.non = lineKV A0.lm none from rfl]
            have la2 := la1.setroot none
            have ba2 := ba1.law la1 J.eP J.d1 J.d2 ((upd_kp H1 A0.ld (.dK (lineKV A0.lm none))).wide (by simp))
            have k2 : Kp [A0.ld] H (upd H1 A0.ld (.dK (lineKV A0.lm none))) := (Kp.of_same s1).put (.inl (by simp))
            generalize upd H1 A0.ld (.dK (lineKV A0.lm none)) = H2 at la2 ba2 k2 ⊢
            refine ⟨_, rfl, B.b, B.db, _, rfl, ba2.ins, rfl, [A0.lm, B.mL], B, U, kvs, pc, mk, r0, dom, c, cvs, rfl, ba2, J.good, fun H3 cvs3 dom3 c3 p freed k3 ba3 G3 sb hp hp3 nd3 pw3 fr3 => ?_⟩
            have la3 := la2.book ba2 J.d1 J.d2 (k3.wide (by simp))
            have eh : heads (some (mk, none)) = mk.map (·.2) := by simp [heads]
            have hss : ∀ x ∈ mk.map (·.2), x ∈ heads (some (mk, some r0)) := fun x hx => List.mem_append_left _ hx
            obtain ⟨m1, m2, m3⟩ := Cw.sub_math J.dr J.rk G3 sb hss
            refine k H3 B.mL mk none sp kvs pc U dom3 c3 cvs3 p freed (ktr k2 k3 (by simp) (by simp)) ((Jt.mk la3 ba3 J.eP J.ps (fun x hx => J.hU x (hss x (by rw [← eh]; exact hx))) (by rw [eh]; exact m1) (by rw [eh]; exact G3) (by rw [eh]; exact m2) J.inc J.len J.d1 J.d2).more (by omega)) hp3 nd3 pw3 fun q => ?_
            rw [eh, fr3 q]
            exact m3 q
    all_goals
      have JX := J.same sX
      clear eX
      clear gL g1 gr gm
      obtain ⟨x1, ⟨xts, x2, x3⟩, _⟩ := JX.la.ld _ _ rfl
      have gmX : DGet HX A0.ld (.str "makes") (some (.ref A0.lm)) := DGet.k (k := (Sum.inr "makes" : Key)) x1
      refine ⟨_, rfl, A0.ld, _, rfl, gmX, Nat.zero_le _, fun p2 hp2 => ?_⟩
      have s2 := same_new (o := .lst []) hp2
      refine r_neMks (s2 _ _ x2) (x3.still fun p xs e => s2 _ _ e) upd_same ⟨_, rfl, ?_⟩
      have J2 := JX.same s2
      have s02 : Same H (upd HX p2 (.lst [])) := fun b o z => s2 b o (sX b o z)
      simp only [cxK, cxK2]
      generalize upd HX p2 (.lst []) = H2 at J2 s02 ⊢
      clear x1 x2 x3 gmX s2 hp2 JX
      obtain ⟨y1, ⟨yts, y2, y3⟩, _⟩ := J2.la.ld _ _ rfl
      have gmY : DGet H2 A0.ld (.str "makes") (some (.ref A0.lm)) := DGet.k (k := (Sum.inr "makes" : Key)) y1
      have grY := DGet.k (k := (Sum.inr "root" : Key)) y1
      have hnY := s02 _ _ hn
      by_cases hmn : mk = []
      case' pos =>
        rw [decide_eq_true hmn]
        refine iteF (iteF ?_)
        refine ⟨Nat.zero_le _, fun p hp => ?_⟩
        have sp5 := same_new (o := .lst []) hp
        exact k (upd H2 p (.lst [])) B.mL mk _ sp kvs pc U dom c cvs p [] (Kp.of_same fun b o z => sp5 b o (s02 b o z)) ((J2.same sp5).more (by omega)) upd_same List.nodup_nil .nil fun q => ⟨fun z => (nomatch z), fun z => absurd z.1 z.2⟩
      case' neg =>
        rw [decide_eq_false hmn]
        refine iteT ⟨_, rfl, A0.ld, _, rfl, gmY, A0.lm, _, rfl, .inl (SqL.of y2), _, _, rfl, rfl, _, rfl, ?_⟩
        by_cases hl1 : (1 : Int) < (yts.length : Int)
        case' pos =>
          rw [decide_eq_true hl1]
          refine iteT (iteT ?_)
        case' neg =>
          rw [decide_eq_false hl1]
          refine iteF ⟨_, rfl, A0.ld, _, rfl, grY, _, rfl, ?_⟩
          first
          | refine iteF ?_
            refine ⟨Nat.zero_le _, fun p hp => ?_⟩
            have sp5 := same_new (o := .lst []) hp
            exact k (upd H2 p (.lst [])) B.mL mk _ sp kvs pc U dom c cvs p [] (Kp.of_same fun b o z => sp5 b o (s02 b o z)) ((J2.same sp5).more (by omega)) upd_same List.nodup_nil .nil fun q => ⟨fun z => (nomatch z), fun z => absurd z.1 z.2⟩
          | refine iteT ?_
    all_goals
      clear hl1
      have hml : 0 < mk.length := List.length_pos_iff.mpr hmn
      have hyl := y3.len
      have r0' := Int.emod_nonneg n11 (show (yts.length : Int) ≠ 0 by omega)
      have r1' := Int.emod_lt_of_pos n11 (show (0 : Int) < (yts.length : Int) by omega)
      obtain ⟨ix, hix⟩ := Int.eq_ofNat_of_zero_le r0'
      have hixl : ix < yts.length := by rw [hix] at r1'; omega
      obtain ⟨j, hj1, hj2, hj3, _⟩ := atI_get (atI_nat (List.getElem?_eq_getElem hixl))
      obtain ⟨t, s, r, et, hmj, htt⟩ := y3.at_ hj2
      have hj1' : seqIndex? (n11 % (yts.length : Int)) yts.length = some j := by rw [hix]; exact hj1
      have hj2' : yts[j]? = some (.ref t) := by rw [hj2, et]
      refine ⟨_, rfl, A0.ld, _, rfl, gmY, .inl ⟨rfl, _, SqL.of y2⟩, _, rfl, nl, _, _, _, rfl, rfl, SqL.of hnY, hn11, _, rfl, A0.ld, _, rfl, gmY, A0.lm, _, rfl, .inl (SqL.of y2), _, _, rfl, rfl, (show (0 : Int) < (yts.length : Int) by omega), A0.lm, yts, _, j, .ref t, rfl, rfl, y2, ?_, ?_, hj1', hj2', ?_⟩
      · exact Int.le_trans (by decide) r0'
      · have := J2.len
        exact Int.lt_trans r1' (by omega)
      have emk : mk = mk.take j ++ (s, r) :: mk.drop (j + 1) := by
        have hjl : j < mk.length := by omega
        have e1 : mk[j] = (s, r) := by
          have := List.getElem?_eq_getElem hjl
          rw [hmj] at this
          exact (Option.some.inj this).symm
        rw [← e1, ← List.drop_eq_getElem_cons hjl, List.take_append_drop]
      have eer : mk.eraseIdx j = mk.take j ++ mk.drop (j + 1) := List.eraseIdx_eq_take_drop_succ ..
      have hve := y3.erase j
      rw [eer] at hve
      have laE := J2.la.setmakes hve
      have baE := J2.ba.law J2.la J2.eP J2.d1 J2.d2 ((upd_kp H2 A0.lm (.lst (yts.eraseIdx j))).wide (by simp))
      have kE : Kp [A0.lm] H (upd H2 A0.lm (.lst (yts.eraseIdx j))) := (Kp.of_same s02).put (.inl (by simp))
      have httE : upd H2 A0.lm (.lst (yts.eraseIdx j)) t = some (.tup [.int s, .int r]) := by
        rw [upd_ne (ne_of htt y2 (by intro z; cases z))]
        exact htt
      have hlmE : upd H2 A0.lm (.lst (yts.eraseIdx j)) A0.lm = some (.lst (yts.eraseIdx j)) := upd_same
      generalize upd H2 A0.lm (.lst (yts.eraseIdx j)) = HE at laE baE kE httE hlmE ⊢
      refine ⟨t, _, rfl, SqT.of httE, rfl, _, _, rfl, _, _, rfl, rfl, ?_⟩
      have hinc := J2.inc
      have hG := J2.good
      have hdr := J2.dr
      have hrk := J2.rk
      have hhU := J2.hU
      have hlen2 := J2.len
      have hd1 := J2.d1
      generalize mk.take j = m1 at emk laE
      generalize mk.drop (j + 1) = m2 at emk laE
      clear hmn hml hyl hmj eer hve
      subst emk
      have hms : ∀ m ∈ m1 ++ m2, m.1 ≠ s := fun m hm => by
        obtain ⟨i1, i2, i3⟩ := List.pairwise_append.mp hinc
        rcases List.mem_append.mp hm with z | z
        · exact Int.ne_of_lt (i3 m z _ List.mem_cons_self)
        · exact (Int.ne_of_lt ((List.pairwise_cons.mp i2).1 m z)).symm
      have hinc' : (m1 ++ m2).Pairwise fun a b => a.1 < b.1 := hinc.sublist (List.Sublist.append_left (List.sublist_cons_self _ _) _)
      have hl12 : m1.length + m2.length ≤ 11 := by
        rw [List.length_append, List.length_cons] at hlen2
        omega
      refine ⟨_, rfl, B.b, B.db, _, rfl, baE.ins, rfl, _, rfl, [A0.lm, B.mL], B, U, kvs, pc, m1, m2, _, s, r, dom, c, cvs, rfl, baE, hG, hms, by omega, fun H5 nl5 cvs5 dom5 c5 p freed k5 hnl5 ba5 G5 sb hp hp5 nd5 pw5 fr5 => ?_⟩
      have la5 := ((laE.fresh hnl5).book (baE.fresh hnl5) hd1 J.d2 (k5.wide (by simp))).weak (W' := [A0.lm, nl5]) (by simp) (by simp)
      have ba5' := ba5.weak (W' := [A0.lm, nl5]) (by simp) (by simp)
      have hsub : ∀ rt, ∀ x ∈ heads (some (m1 ++ m2, rt)), x ∈ heads (some (m1 ++ (s, r) :: m2, rt)) := fun rt x hx => by
        simp only [heads, List.map_append, List.map_cons, List.mem_append, List.mem_cons] at hx ⊢
        rcases hx with (z | z) | z
        · exact .inl (.inl z)
        · exact .inl (.inr (.inr z))
        · exact .inr z
      obtain ⟨q1, q2, q3⟩ := Cw.sub_math hdr hrk G5 sb (hsub _)
      refine k H5 nl5 (m1 ++ m2) _ sp kvs pc U dom5 c5 cvs5 p freed (ktr kE k5 (by simp) (by simp)) ((Jt.mk (B := { B with mL := nl5 }) la5 ba5' J.eP J.ps (fun x hx => hhU x (hsub _ x hx)) q1 G5 q2 hinc' (by rw [List.length_append]; exact hl12) (ne_of_none hlmE hnl5) J.d2).more (by omega)) hp5 nd5 pw5 fun q => ?_
      rw [fr5 q]
      exact q3 q
end
end K31

namespace K31
open PySem PySem.Spec PyProof.Rows L2 CwR NdefX LamX
open Cw (Pc pts Good Coming Going inc dec total nodup_len Rch Walking GrowI putP Ranked)
section
variable {P : Program} {w : World} {K : PySem.W.Frag} {mg : Str → Option Value} {base : Heap}
theorem fun_code {x qual : Str} {st : Stmt} {p : Str × Option Str} {fd : FuncData} (F : Fun K x qual st (He.fAd K p) fd) : fd.code = .ref (He.codeOf K p) := by
  obtain ⟨oc, od, kV, doc, pm, an, cdv, ct, osl, rfl, lk, hcd⟩ := F.ex
  obtain ⟨c, rfl⟩ := He.codeIn_ref hcd
  have := He.codeOf_eq lk rfl
  rw [this]
theorem sc__law_book : FnScope ["_law_pieces", "_law_points", "_law_born"] ["_law_pieces"] (defScope s__law_book) := ⟨rfl, rfl, rfl, by decide +kernel, rfl, by decide +kernel, by decide +kernel⟩
abbrev pB : Str × Option Str := ("_law_book", none)
def posOf (st : Stmt) : Pos := match st with
  | .FunctionDef _ _ _ _ _ _ _ _ _ pos => pos
  | _ => ⟨0, 0, 0, 0⟩
def nmB (l : Nat) (_ : Nat) : Str := if l = (posOf s__law_points).line then q_points else q_born
def spBook (K : PySem.W.Frag) : Sp := fun vs H Q _ => ∃ (Pa : Addr), vs = [.ref Pa] ∧ H (He.cT K pB).2 = some (.tbl #[]) ∧
  ∀ (H' : Hp) (b db fP fB SD cD : Addr), ExtN H H' → H' b = some (.ins (aC K) db (bkF fP fB SD cD)) → Made H' fP s__law_points "_law_points" q_points ["_law_pieces"] [.ref Pa] → H' SD = some (.dK []) → H' cD = some (.dK []) → SD ≠ cD → H SD = none → H cD = none → Q (.ref b) H'
theorem hcells (n : Nat) : PySem.cellsFrom n (defScope s__law_book).names [] = [(("_law_pieces" : Str), n)] := rfl
theorem ok__law_book (T : Txt K mg) (TB : TabB base mg (He.cT K pB).1 (He.cT K pB).2) : FnOk P w K mg base CX0 4 (He.fAd K ("_law_book", none)) (CwH.fdOf K ("_law_book", none)) ["_law_pieces"] (spBook K) := by
  refine okR T.f__law_book sc__law_book (fun n y c h => ?_) (fun y h => ?_) (fun vs H Q E h => ?_) (fun cdv hcdv A outer s H vs Q E hr h => ?_)
  · rw [hcells] at h ⊢
    obtain ⟨rfl, rfl⟩ : y = "_law_pieces" ∧ c = n := by simpa using h
    rfl
  · have z : ∀ p ∈ (defScope s__law_book).names, p.2 = .cell → (defScope s__law_book).names.lookup p.1 = some .cell := by decide +kernel
    exact z _ h rfl
  · obtain ⟨_, rfl, _⟩ := h
    rfl
  · obtain ⟨Pa, rfl, hT, k⟩ := h
    have hc : cdv = .ref (He.codeOf K pB) := by rw [← hcdv]; exact fun_code T.f__law_book
    subst hc
    have hn1 : nmB (posOf s__law_points).line (posOf s__law_points).col = q_points := if_pos rfl
    have hn2 : nmB (posOf s__law_born).line (posOf s__law_born).col = q_born := if_neg (by decide +kernel)
    have hf1 : ∀ y ∈ (C8.fnScope s__law_points).names, y.2 = .free → (defScope s__law_book).names.lookup y.1 = some .cell ∨ (defScope s__law_book).names.lookup y.1 = some .free := by decide +kernel
    have hf2 : ∀ y ∈ (C8.fnScope s__law_born).names, y.2 = .free → (defScope s__law_book).names.lookup y.1 = some .cell ∨ (defScope s__law_book).names.lookup y.1 = some .free := by decide +kernel
    refine ⟨_, pr_cons (ps_ndefMS (st := s__law_points) (pos := posOf s__law_points) (T := [((He.cT K pB).2, nmB)]) (i := 1) rfl TB rfl (List.mem_singleton_self _) hn1 (fun p hp _ => by rw [List.mem_singleton.mp hp]) hf1 rfl rfl rfl sc__law_book.nd rfl (Or.inl rfl) (Or.inl rfl)) (pr_cons (ps_ndefMS (st := s__law_born) (pos := posOf s__law_born) (T := [((He.cT K pB).2, nmB)]) (i := 2) rfl TB rfl (List.mem_singleton_self _) hn2 (fun p hp _ => by rw [List.mem_singleton.mp hp]) hf2 rfl rfl rfl sc__law_book.nd rfl (Or.inl rfl) (Or.inl rfl)) (pr_ret (pe_make T.k_Counts (ok_Counts___init__ T) (hr.mono (by decide)) (by rfl) T.g_Counts T.b_Counts___init__ .nil pass0 (pa_cons (pv 1) (pa_cons (pv 2) pa_nil))))), ?_⟩
    have T0 : TabsN [((He.cT K pB).2, nmB)] H := fun p hp => by
      rw [List.mem_singleton.mp hp]
      exact TabN.nil hT
    refine ⟨T0, fun f1 c1 H1 e1 n1 T1 f1n f1f c1c => ⟨T1, fun f2 c2 H2 e2 n2 T2 f2n f2f c2c => ?_⟩⟩
    refine ⟨_, rfl, _, rfl, fun x dx hx hdx ndx => ⟨x, dx, f1, f2, rfl, upd_same, fun SD cD hSD hcD nSc => ⟨rfl, fun H'' tk => ?_⟩⟩⟩
    have nSx : SD ≠ x := fun z => by rw [z, upd_same] at hSD; cases hSD
    have nCx : cD ≠ x := fun z => by rw [z, upd_same] at hcD; cases hcD
    rw [upd_ne nSx] at hSD
    rw [upd_ne nCx] at hcD
    have nSd : SD ≠ dx := fun z => by rw [z, upd_same] at hSD; cases hSD
    have nCd : cD ≠ dx := fun z => by rw [z, upd_same] at hcD; cases hcD
    rw [upd_ne nSd] at hSD
    rw [upd_ne nCd] at hcD
    have s4 : Same H2 H'' := fun b o e => by
      refine tk.ext b o ?_
      rw [upd_ne (ne_of_none e hx), upd_ne (ne_of_none e hcD), upd_ne (ne_of_none e hSD), upd_ne (ne_of_none e hx), upd_ne (ne_of_none e hdx)]
      exact e
    have e12 : ExtN H H'' := fun b o e n => s4 b o (e2 b o (e1 b o e n) n)
    refine k H'' x dx f1 f2 SD cD e12 (tk.ext _ _ upd_same) ?_ ?_ ?_ nSc (n1 _ (n2 _ hSD)) (n1 _ (n2 _ hcD))
    · refine ⟨⟨[(("_law_pieces" : Str), s.heap.objs.size + 1)], c1, s4 _ _ (e2 _ _ f1f fun ps z => fnO_ne ps z), s4 _ _ (e2 _ _ c1c fun ps z => codeO_ne ps z), fun y c h => ?_, ⟨rfl, fun a b c h1 h2 => ?_, fun y c h => tk.all y c (by rw [hcells]; exact h), fun i y v h1 h2 => ?_⟩⟩⟩
      · obtain ⟨rfl, rfl⟩ : y = "_law_pieces" ∧ c = s.heap.objs.size + 1 := by simpa using h
        rfl
      · have z : ∀ a, ([(("_law_pieces" : Str), s.heap.objs.size + 1)] : List (Str × Addr)).lookup a = some c → a = "_law_pieces" := fun a h => by
          have := PySem.mem_of_lookup h
          simp at this
          exact this.1
        rw [z a h1, z b h2]
      · cases i with
        | succ j => simp at h1
        | zero =>
          obtain rfl : "_law_pieces" = y := by simpa using h1
          obtain rfl : V.ref Pa = v := by simpa using h2
          exact ⟨s.heap.objs.size + 1, rfl, tk.val 0 "_law_pieces" _ _ (by rw [hcells]; rfl) rfl rfl⟩
    · refine tk.ext _ _ ?_
      rw [upd_ne nSx, upd_ne nSc, upd_same]
    · refine tk.ext _ _ ?_
      rw [upd_ne nCx, upd_same]
end
end K31

namespace K31
open PySem PySem.Spec PyProof.Rows L2 CwR NdefX LamX
open Cw (Pc pts Good Coming Going inc dec total nodup_len Rch Walking GrowI putP Ranked)
section
variable {P : Program} {w : World} {K : PySem.W.Frag} {mg : Str → Option Value} {base : Heap}
theorem sql_ext {H H' : Hp} {a : Addr} {xs : List V} (h : SqL K H a xs) (e : ExtN H H') : SqL K H' a xs := by
  rcases h with (h | ⟨o, h⟩) | h
  · exact .inl (.inl (e _ _ h fun _ z => nomatch z))
  · exact .inl (.inr ⟨o, e _ _ h fun _ z => nomatch z⟩)
  · exact .inr h
theorem extN_same {H H1 H2 : Hp} (e : ExtN H H1) (s : Same H1 H2) : ExtN H H2 := fun b o z n => s b o (e b o z n)
theorem extN_kp {S : List Addr} {H H1 H2 : Hp} (e : ExtN H H1) (k : Kp S H1 H2) (f : ∀ c ∈ S, H c = none) : ExtN H H2 := fun b o z n => k b o (e b o z n) fun y => by
  rw [f b y] at z
  cases z
def pc0 : Pc := fun _ => none
theorem pcs0 : Pcs 0 [] pc0 [] := ⟨rfl, List.nodup_nil, fun _ h => (nomatch h), fun _ _ => rfl, Nat.le_refl _⟩
theorem rch0 (p : Int) : ¬ Rch pc0 [] p := fun h => by
  induction h with
  | root h => exact nomatch h
  | step _ _ ih => exact ih
section
variable {H : Hp} {A : La} {B : Bk} {N : Nat} {mk : Mks} {rt : Option Int} {sp : Int} {kvs cvs : DK} {pc : Pc} {U dom : List Int} {c : Int → Nat}
theorem Jt.short (J : Jt K H A B N mk rt sp kvs pc U dom c cvs) : (heads (some (mk, rt))).length ≤ 1000 := by
  have := J.len
  have e : (heads (some (mk, rt))).length = mk.length + rt.toList.length := by simp [heads]
  have e2 : rt.toList.length ≤ 1 := by cases rt <;> simp
  omega
theorem perm_of {a b : List Int} (ha : a.Nodup) (hb : b.Nodup) (h : ∀ p, p ∈ a ↔ p ∈ b) : a.Perm b := by
  refine List.perm_iff_count.mpr fun p => ?_
  by_cases e : p ∈ a
  · have h1 := List.count_pos_iff.mpr e
    have h2 := List.nodup_iff_count.mp ha p
    have h3 := List.count_pos_iff.mpr ((h p).mp e)
    have h4 := List.nodup_iff_count.mp hb p
    omega
  · rw [List.count_eq_zero.mpr e, List.count_eq_zero.mpr fun z => e ((h p).mpr z)]
theorem right_facts (J : Jt K H A B N mk rt sp kvs pc U dom c cvs) {known : List Int} (nd : known.Nodup) (hr : ∀ p, p ∈ known ↔ Rch pc (heads (some (mk, rt))) p) :
    (∀ q ∈ known, q ∈ U) ∧ (∀ p, p ∈ dom ↔ p ∈ known) ∧ ∀ p, c p = (heads (some (mk, rt))).count p + (known.filter fun q => decide (p ∈ pts pc q)).length := by
  have hdk : ∀ p, p ∈ dom ↔ p ∈ known := fun p => by rw [J.dr p, hr p]
  refine ⟨fun q hq => J.ba.ct.sub q ((hdk q).mpr hq), hdk, fun p => ?_⟩
  have h1 := J.good.eq p
  have h2 := Cw.S_count (pc := pc) (dom := dom) (p := p) fun q _ => Cw.nodup_of_rising (J.ps.rising q)
  have h3 := ((perm_of J.good.nd nd hdk).filter fun q => decide (p ∈ pts pc q)).length_eq
  rw [h1, h2, h3]
  omega
end
theorem sc_law : FnScope ["_law_script", "_law_state", "_law_book_here", "_law_root", "_law_cell", "_law_ahead", "_law_freed", "_law_lying_here", "_law_due", "_law_place"] ["_law_script"] (defScope s_law) := ⟨rfl, rfl, rfl, by decide +kernel, rfl, by decide +kernel, by decide +kernel⟩
def spLaw (K : PySem.W.Frag) : Sp := fun vs H Q _ => ∃ (a : Addr) (xs : List Int), vs = [.ref a] ∧ SqL K H a (xs.map V.int) ∧ xs.length ≤ 63 ∧ H (He.cT K pB).2 = some (.tbl #[]) ∧ ∀ H', Q (.bl true) H'
theorem ok_law (T : Txt K mg) (TB : TabB base mg (He.cT K pB).1 (He.cT K pB).2) : FnOk P w K mg base CX0 6 (He.fAd K ("law", none)) (CwH.fdOf K ("law", none)) ["_law_script"] (spLaw K) := by
  refine T.f_law.ok sc_law (fun vs H Q E h => ?_) (fun cdv A outer s H vs Q E hr h => ?_)
  · obtain ⟨_, _, rfl, _⟩ := h
    rfl
  · obtain ⟨a, xs, rfl, ha, hlen, hT, k⟩ := h
    have hu := hu_of hr
    have hu64 : (A.deeper (envOfC "law" (defScope s_law) s.heap.objs.size (He.fAd K ("law", none)) cdv)).units + 64 < cLine := hr.units
    have okB := fun T : Txt K mg => ok__law_book (P := P) (w := w) T TB
    refine ⟨_, (pss_cons (ps_set (i := 1) sc_law.nd rfl (by first | exact Or.inl rfl | exact Or.inr rfl) (pe_disp (pps_cons pe_str pe_dnewK (pps_cons pe_str pe_dnewK (pps_cons pe_str pe_int pps_nil))) (by rfl) (by rfl) (fun z => by cases z) (by decide)))
 (pss_cons (ps_set (i := 2) sc_law.nd rfl (by first | exact Or.inl rfl | exact Or.inr rfl) (pe_call (okB T) (hr.mono (by decide)) (by rfl) T.g__law_book (T.f__law_book).kp T.b__law_book .nil pass0 (pa_cons (pe_dget hu (pv 1) pe_str (fun _ _ => rfl)) pa_nil)))
 (pss_cons (ps_set (i := 3) sc_law.nd rfl (by first | exact Or.inl rfl | exact Or.inr rfl) (pe_call (ok__law_tree T) (hr.mono (by decide)) (by rfl) T.g__law_tree (T.f__law_tree).kp T.b__law_tree .nil pass0 (pa_cons (pv 1) (pa_cons (pe_call (ok__law_stream T) (hr.mono (by decide)) (by rfl) T.g__law_stream (T.f__law_stream).kp T.b__law_stream .nil pass0 (pa_cons (pe_call (ok__law_cell_at T) (hr.mono (by decide)) (by rfl) T.g__law_cell_at (T.f__law_cell_at).kp T.b__law_cell_at .nil pass0 (pa_cons (pv 0) (pa_cons pe_int pa_nil))) (pa_cons pe_int pa_nil))) (pa_cons (pe_lst pa_nil) pa_nil)))))
 (pss_cons (ps_dput hu (pe_dget hu (pv 1) pe_str (fun _ _ => rfl)) pe_int (pe_disp (pps_cons pe_str pe_int (pps_cons pe_str (pe_lst pa_nil) (pps_cons pe_str (pv 3) pps_nil))) (by rfl) (by rfl) (fun z => by cases z) (by decide)) rfl)
 (pss_cons (ps_expr (pe_meth (pv 2) T.c_Counts T.m_Counts_begun (ok_Counts_begun T) (hr.mono (by decide)) T.b_Counts_begun .nil pass0 (pa_cons pe_int (pa_cons pe_int (pa_cons (pv 3) pa_nil)))))
 (pss_cons (ps_for PassesOwn.never rfl (pi_list (pe_slice sl_list (pv 0) (po_some pe_int) (po_some pe_int))) (pg_name (i := 4) sc_law.nd rfl (by first | exact Or.inl rfl | exact Or.inr rfl))
  (pss_cons (ps_set (i := 5) sc_law.nd rfl (by first | exact Or.inl rfl | exact Or.inr rfl) (pe_call (ok__law_lying T) (hr.mono (by decide)) (by rfl) T.g__law_lying (T.f__law_lying).kp T.b__law_lying .nil pass0 (pa_cons (pv 1) pa_nil)))
 (pss_cons (ps_set (i := 6) sc_law.nd rfl (by first | exact Or.inl rfl | exact Or.inr rfl) (pe_call (ok__law_deed T) (hr.mono (by decide)) (by rfl) T.g__law_deed (T.f__law_deed).kp T.b__law_deed .nil pass0 (pa_cons (pv 2) (pa_cons (pv 1) (pa_cons (pe_call (ok__law_stream T) (hr.mono (by decide)) (by rfl) T.g__law_stream (T.f__law_stream).kp T.b__law_stream .nil pass0 (pa_cons (pv 4) (pa_cons pe_int pa_nil))) pa_nil)))))
 (pss_cons (ps_set (i := 7) sc_law.nd rfl (by first | exact Or.inl rfl | exact Or.inr rfl) (pe_call (ok__law_lying T) (hr.mono (by decide)) (by rfl) T.g__law_lying (T.f__law_lying).kp T.b__law_lying .nil pass0 (pa_cons (pv 1) pa_nil)))
 (pss_cons (ps_setLc (i := 8) (own := [("_law_place", 9)]) rfl sc_law.nd rfl rfl (sw_true rfl rfl rfl (by decide +kernel)) (pi_list (pe_callB (call_sortedD0 rfl) (by rfl) T.free_sorted (by decide +kernel) (pa_cons (pv 5) pa_nil))) (blkOk_by (own := [("_law_place", 9)]) (N := ["_law_script", "_law_state", "_law_book_here", "_law_root", "_law_cell", "_law_ahead", "_law_freed", "_law_lying_here", "_law_due", "_law_place"]) (sc := defScope s_law) (by decide +kernel)) (fun _ _ _ _ _ => (pg_name (i := 9) sc_law.nd rfl (by first | exact Or.inl rfl | exact Or.inr rfl))) (fun _ _ _ _ _ => (pts_one (pt_cmp (pc_dnotin hu (pv 9) (pv 7))))) (fun _ _ _ _ _ => (pv 9)))
 (pss_cons (ps_if (PW.pt (pw_or (pt_not (pt_val (pe_callB call_isi (by rfl) T.free_isinstance (by decide +kernel) (pa_cons (pv 6) (pa_cons (pe_bltn (v := .ty "list") (by rfl) T.free_list (by decide +kernel) rfl) pa_nil))))) (pw_or1 (pt_cmpR (op_neD hr.units) (pv 6) (pv 8) (nomark _))))) (pss_one (ps_ret pe_bl)) pss_nil)
 (pss_one (ps_if (pt_not (pt_val (pe_call (ok__law_right T) (hr.mono (by decide)) (by rfl) T.g__law_right (T.f__law_right).kp T.b__law_right .nil pass0 (pa_cons (pv 2) (pa_cons (pv 1) (pa_cons (pv 7) pa_nil)))))) (pss_one (ps_ret pe_bl)) pss_nil))))))))
 (pss_one (ps_ret (pe_call (ok__law_right T) (hr.mono (by decide)) (by rfl) T.g__law_right (T.f__law_right).kp T.b__law_right .nil pass0 (pa_cons (pv 2) (pa_cons (pv 1) (pa_cons (pe_call (ok__law_lying T) (hr.mono (by decide)) (by rfl) T.g__law_lying (T.f__law_lying).kp T.b__law_lying .nil pass0 (pa_cons (pv 1) pa_nil)) pa_nil)))))))))))), ?_⟩
    -- state = {..}
    refine fun sd hsd => fun Pa hPa => fun L hL => ⟨?_, [(.inr "pieces", .ref Pa), (.inr "lines", .ref L), (.inr "stamp", .int 0)], rfl, (by show 3 ≤ 15; decide), ?_⟩
    · have n1 : sd ≠ L := fun e => by rw [← e] at hL; rw [upd_ne (fun e => by rw [← e, upd_same] at hPa; cases hPa), upd_same] at hL; cases hL
      have n2 : sd ≠ Pa := fun e => by rw [← e, upd_same] at hPa; cases hPa
      rw [upd_ne n1, upd_ne n2, upd_same]
    rw [show mergeK [] [((.inr "pieces" : Key), V.ref Pa), (.inr "lines", .ref L), (.inr "stamp", .int 0)] = stKV Pa L 0 from rfl]
    have n2 : Pa ≠ sd := fun e => by rw [e, upd_same] at hPa; cases hPa
    have hPa0 : H Pa = none := by rw [upd_ne n2] at hPa; exact hPa
    have n3 : L ≠ Pa := fun e => by rw [e, upd_same] at hL; cases hL
    rw [upd_ne n3] at hL
    have n1 : L ≠ sd := fun e => by rw [e, upd_same] at hL; cases hL
    rw [upd_ne n1] at hL
    have s1 : Same H (upd (upd (upd (upd H sd (.dK [])) Pa (.dK [])) L (.dK [])) sd (.dK (stKV Pa L 0))) := fun b o e => by
      rw [upd_ne (ne_of_none e hsd), upd_ne (ne_of_none e hL), upd_ne (ne_of_none e hPa0), upd_ne (ne_of_none e hsd)]
      exact e
    have sd1 : (upd (upd (upd (upd H sd (.dK [])) Pa (.dK [])) L (.dK [])) sd (.dK (stKV Pa L 0))) sd = some (.dK (stKV Pa L 0)) := upd_same
    have Pa1 : (upd (upd (upd (upd H sd (.dK [])) Pa (.dK [])) L (.dK [])) sd (.dK (stKV Pa L 0))) Pa = some (.dK []) := by rw [upd_ne n2, upd_ne n3.symm, upd_same]
    have L1 : (upd (upd (upd (upd H sd (.dK [])) Pa (.dK [])) L (.dK [])) sd (.dK (stKV Pa L 0))) L = some (.dK []) := by rw [upd_ne n1, upd_same]
    simp only [cxK, cxK2]
    generalize (upd (upd (upd (upd H sd (.dK [])) Pa (.dK [])) L (.dK [])) sd (.dK (stKV Pa L 0))) = H1 at s1 sd1 Pa1 L1 ⊢
    have gP : DGet H1 sd (.str "pieces") (some (.ref Pa)) := DGet.k (k := (Sum.inr "pieces" : Key)) sd1
    -- the book
    refine ⟨_, rfl, sd, _, rfl, gP, Pa, rfl, s1 _ _ hT, fun H2 b db fP fB SD cD e12 hb hM hSD hcD nSC fSD fcD => ?_⟩
    have sd2 := e12 _ _ sd1 fun _ z => nomatch z
    have Pa2 := e12 _ _ Pa1 fun _ z => nomatch z
    have hL2 := e12 _ _ L1 fun _ z => nomatch z
    have e02 : ExtN H H2 := fun b o z n => e12 b o (s1 b o z) n
    have ne1 : sd ≠ SD ∧ sd ≠ cD := ⟨ne_of_none sd1 fSD, ne_of_none sd1 fcD⟩
    have ne2 : Pa ≠ SD ∧ Pa ≠ cD := ⟨ne_of_none Pa1 fSD, ne_of_none Pa1 fcD⟩
    have ne3 : L ≠ SD ∧ L ≠ cD := ⟨ne_of_none L1 fSD, ne_of_none L1 fcD⟩
    -- the first tree
    refine ⟨_, rfl, _, rfl, a, xs, 0, rfl, sql_ext ha e02, fun z0 => ⟨z0, rfl, fun H3 nl ns s3 fnl hnl hln => ⟨Nat.zero_le _, fun oa hoa => ?_⟩⟩⟩
    have s4 := same_new (o := .lst []) hoa
    have s24 : Same H2 (upd H3 oa (.lst [])) := fun b o z => s4 b o (s3 b o z)
    have hoa4 : upd H3 oa (.lst []) oa = some (.lst (([] : List Int).map V.int)) := upd_same
    have hnl4 := s4 _ _ hnl
    have noa : oa ≠ sd ∧ oa ≠ Pa := ⟨(ne_of_none (s3 _ _ sd2) hoa).symm, (ne_of_none (s3 _ _ Pa2) hoa).symm⟩
    generalize upd H3 oa (.lst []) = H4 at s24 hoa4 hnl4 ⊢
    have la4 : LA [] H4 ⟨sd, Pa, L, 0, 0⟩ none 0 [] pc0 := ⟨s24 _ _ sd2, s24 _ _ hL2, (fun _ _ z => nomatch z), ⟨s24 _ _ Pa2, (fun _ _ _ z => nomatch z)⟩, n2.symm, n1.symm, n3.symm⟩
    refine ⟨[], ⟨sd, Pa, L, 0, 0⟩, none, 0, [], pc0, [], 0, nl, oa, ns, [], rfl, la4, pcs0, by decide, (fun _ z => nomatch z), by decide, (fun _ z => nomatch z), hnl4, hln, .inr ⟨hoa4, rfl⟩, noa.1, noa.2, (fun _ z => nomatch z), List.nodup_nil, fun H5 kvs pc U r k5 la5 ps5 su5 gr5 => ?_⟩
    have e05 : ExtN H H5 := extN_kp (extN_same e02 s24) k5 (by simpa using ⟨hsd, hPa0⟩)
    have k25 : Kp [sd, Pa] H2 H5 := (Kp.of_same (S := [sd, Pa]) s24).trans k5 fun c z => .inl z
    have dk5 : ∀ {x : Addr} {kv : DK}, H2 x = some (.dK kv) → x ≠ sd → x ≠ Pa → H5 x = some (.dK kv) := fun e h1 h2 => k25.get e (by simpa using ⟨h1, h2⟩)
    have mS : ∀ c ∈ [sd, Pa], ∀ u, H2 c = some u → MutK u := fun c hc u hu => by
      rcases (by simpa using hc : c = sd ∨ c = Pa) with z | z
      · rw [z, sd2] at hu; cases hu; trivial
      · rw [z, Pa2] at hu; cases hu; trivial
    have hb5 := k25.get hb (by simpa using ⟨ne_of hb sd2 (by intro z; cases z), ne_of hb Pa2 (by intro z; cases z)⟩)
    have hM5 := hM.kp k25 mS
    have hSD5 := dk5 hSD ne1.1.symm ne2.1.symm
    have hcD5 := dk5 hcD ne1.2.symm ne2.2.symm
    -- state['lines'][1] = {..}
    refine fun ld hld => ⟨Nat.zero_le _, fun lm hlm => ⟨_, rfl, ?_, [(.inr "base", .int 0), (.inr "makes", .ref lm), (.inr "root", .int r)], rfl, (by show 3 ≤ 15; decide), ?_⟩⟩
    · rw [upd_ne fun e => by rw [← e, upd_same] at hlm; cases hlm]
      exact upd_same
    rw [show mergeK [] [((.inr "base" : Key), V.int 0), (.inr "makes", .ref lm), (.inr "root", .int r)] = lineKV lm (some r) from rfl]
    have nlm : lm ≠ ld := fun e => by rw [e, upd_same] at hlm; cases hlm
    rw [upd_ne nlm] at hlm
    have s6 : Same H5 (upd (upd (upd H5 ld (.dK [])) lm (.lst [])) ld (.dK (lineKV lm (some r)))) := fun b o e => by
      rw [upd_ne (ne_of_none e hld), upd_ne (ne_of_none e hlm), upd_ne (ne_of_none e hld)]
      exact e
    have ld6 : (upd (upd (upd H5 ld (.dK [])) lm (.lst [])) ld (.dK (lineKV lm (some r)))) ld = some (.dK (lineKV lm (some r))) := upd_same
    have lm6 : (upd (upd (upd H5 ld (.dK [])) lm (.lst [])) ld (.dK (lineKV lm (some r)))) lm = some (.lst []) := by rw [upd_ne nlm, upd_same]
    generalize (upd (upd (upd H5 ld (.dK [])) lm (.lst [])) ld (.dK (lineKV lm (some r)))) = H6 at s6 ld6 lm6 ⊢
    have la6 := (la5.fresh hlm).same s6
    have gL6 : DGet H6 sd (.str "lines") (some (.ref L)) := DGet.k (k := (Sum.inr "lines" : Key)) la6.sd
    have nld : ld ≠ sd ∧ ld ≠ Pa ∧ ld ≠ L := ⟨(ne_of_none la5.sd hld).symm, (ne_of_none la5.pcs.dict hld).symm, (ne_of_none la5.L hld).symm⟩
    refine ⟨_, rfl, sd, _, rfl, gL6, L, _, rfl, DPut.k (k := (Sum.inl 1 : Key)) la6.L (by show 0 < sizeLine; decide), ?_⟩
    rw [show putK (linesKV (0 : Addr) none) (.inl 1) (V.ref ld) = linesKV ld (some ([], some r)) from rfl]
    have k7 := upd_kp H6 L (.dK (linesKV ld (some ([], some r))))
    have hS7 := mut1 (W := [lm]) la6.L True.intro fun xs z => nomatch z
    have pcs7 := la6.pcs.kp k7 (by simpa using la6.n3) hS7
    have sd7 := k7.get la6.sd (by simpa using la6.n2)
    have ld7 := k7.get ld6 (by simpa using nld.2.2)
    have lm7 := k7.get lm6 (by simpa using ne_of lm6 la6.L (by intro z; cases z))
    have hb7 := k7.get (s6 _ _ hb5) (by simpa using ne_of (s6 _ _ hb5) la6.L (by intro z; cases z))
    have hM7 := (hM5.same s6).kp k7 fun c z u hu => (hS7 c z u hu).1
    have hSD7 := k7.get (s6 _ _ hSD5) (by simpa using ne3.1.symm)
    have hcD7 := k7.get (s6 _ _ hcD5) (by simpa using ne3.2.symm)
    have e07 : ExtN H (upd H6 L (.dK (linesKV ld (some ([], some r))))) := extN_kp (extN_same e05 s6) k7 (by simpa using hL)
    have la7 : LA [lm] (upd H6 L (.dK (linesKV ld (some ([], some r))))) ⟨sd, Pa, L, ld, lm⟩ (some ([], some r)) (0 + 1) kvs pc :=
      ⟨sd7, upd_same, fun mk rt e => by cases e; exact ⟨ld7, ⟨[], lm7, .nil⟩, List.mem_singleton_self _, nld.1, nld.2.1, nld.2.2⟩, pcs7, la6.n1, la6.n2, la6.n3⟩
    generalize upd H6 L (.dK (linesKV ld (some ([], some r)))) = H7 at pcs7 sd7 ld7 lm7 hb7 hM7 hSD7 hcD7 e07 la7 ⊢
    obtain ⟨fr, gi, hrf, hfu⟩ := gr5
    have cl := ps5.closed (by decide)
    have ct7 : CtAt K [lm] H7 b U kvs pc [] (fun _ => 0) cD Pa [] := ⟨⟨db, _, fP, hb7, rfl, rfl, hM7⟩, hcD7, Cnt.nil _, pcs7, ne2.2, cl, (fun _ z => nomatch z)⟩
    have nldS : ld ≠ SD ∧ ld ≠ cD := ⟨(ne_of_none hSD5 hld).symm, (ne_of_none hcD5 hld).symm⟩
    refine ⟨_, rfl, b, db, _, rfl, hb7, rfl, _, rfl, [lm], ⟨b, db, fP, fB, SD, 0, 0, 0, cD, Pa⟩, U, kvs, pc, fun _ => 0, 0, r, rfl, hb7, hSD7, ct7, Cw.good_nil pc, hfu r hrf, nSC, ne2.1, fun H8 sa sx mL cvs8 dom8 c8 k8 fsa fmL ba8 G8 R8 => ?_⟩
    have fSD0 : H SD = none := knone (Kp.of_same (S := []) s1) fSD (by simp)
    have fcD0 : H cD = none := knone (Kp.of_same (S := []) s1) fcD (by simp)
    have e08 : ExtN H H8 := extN_kp e07 k8 (by simpa using ⟨fSD0, fcD0⟩)
    have d1 : lm ≠ mL := ne_of_none lm7 fmL
    have d2 : ∀ x ∈ [sd, L, ld, Pa], x ≠ SD ∧ x ≠ cD := fun x hx => by
      rcases (by simpa using hx : x = sd ∨ x = L ∨ x = ld ∨ x = Pa) with e | e | e | e
      · rw [e]; exact ne1
      · rw [e]; exact ne3
      · rw [e]; exact nldS
      · rw [e]; exact ne2
    have nk : ∀ x ∈ [sd, Pa, L], ¬ x ∈ [SD, cD] := fun x hx z => by
      have hx' : x ∈ [sd, L, ld, Pa] := by
        rcases (by simpa using hx : x = sd ∨ x = Pa ∨ x = L) with e | e | e <;> rw [e] <;> simp
      rcases (by simpa using z : x = SD ∨ x = cD) with e | e
      · exact (d2 x hx').1 e
      · exact (d2 x hx').2 e
    have hS8 : ∀ c ∈ [SD, cD], ∀ o, H7 c = some o → MutK o ∧ (∀ xs, o = .lst xs → c ∈ [mL, lm]) := fun x hx o ho => by
      rcases (by simpa using hx : x = SD ∨ x = cD) with e | e
      · rw [e, hSD7] at ho; cases ho; exact ⟨True.intro, fun xs z => nomatch z⟩
      · rw [e, hcD7] at ho; cases ho; exact ⟨True.intro, fun xs z => nomatch z⟩
    have la8 : LA [lm, mL] H8 ⟨sd, Pa, L, ld, lm⟩ (some ([], some r)) (0 + 1) kvs pc := ((la7.fresh fmL).kp k8 nk (fun _ => ⟨by simpa using nldS, by simpa using ⟨ne_of lm7 hSD7 (by intro z; cases z), ne_of lm7 hcD7 (by intro z; cases z)⟩⟩) hS8).weak (by simp) (by simp)
    have J8 : Jt K H8 ⟨sd, Pa, L, ld, lm⟩ ⟨b, db, fP, fB, SD, sa, sx, mL, cD, Pa⟩ 4 [] (some r) (0 + 1) kvs pc U dom8 c8 cvs8 :=
      ⟨la8, ba8.weak (by simp) (by simp), rfl, ps5, fun x hx => by rw [show x = r by simpa [heads] using hx]; exact hfu r hrf, fun p => ⟨R8 p, G8.in_of⟩, G8, gi.ranked hrf (dom := []) (fun p h => absurd h (rch0 p)) ⟨fun _ => 0, fun q h => absurd h (rch0 q)⟩, .nil, Nat.zero_le _, d1, d2⟩
    -- for cell in script[1:41]
    refine ⟨_, rfl, _, rfl, _, rfl, a, _, rfl, sql_ext ha e08, fun p0 hp0 => ?_⟩
    obtain ⟨ys, hys, hyl⟩ : ∃ ys : List Int, cutV (xs.map V.int) (some 1) (some 41) = ys.map V.int ∧ ys.length ≤ 63 := by
      refine ⟨(xs.drop (HT.sIx (xs.map V.int).length 0 (some 1))).take (HT.sIx (xs.map V.int).length (xs.map V.int).length (some 41) - HT.sIx (xs.map V.int).length 0 (some 1)), ?_, ?_⟩
      · unfold cutV
        rw [← List.map_drop, ← List.map_take]
      · rw [List.length_take, List.length_drop]
        omega
    rw [hys]
    have s9 := same_new (o := .lst (ys.map V.int)) hp0
    have J9 := J8.same s9
    have hp09 : upd H8 p0 (.lst (ys.map V.int)) p0 = some (.lst (ys.map V.int)) := upd_same
    have n0 : p0 ≠ lm ∧ p0 ≠ mL := by
      obtain ⟨_, ⟨ts, h2, _⟩, _⟩ := la8.ld _ _ rfl
      obtain ⟨ts2, h3⟩ := ba8.lst
      exact ⟨(ne_of_none h2 hp0).symm, (ne_of_none h3 hp0).symm⟩
    generalize upd H8 p0 (.lst (ys.map V.int)) = H9 at J9 hp09 ⊢
    refine ⟨p0, rfl, ⟨_, SqL.of hp09⟩, ?_⟩
    refine for_list (xs := ys.map V.int) (fun i σ H' => ∃ (v4 v5 v6 v7 v8 v9 : Option V) (mL : Addr) (mk : Mks) (rt : Option Int) (sp : Int) (kvs : DK) (pc : Pc) (U dom : List Int) (c : Int → Nat) (cvs : DK), σ = [some (.ref a), some (.ref sd), some (.ref b), some (.int r), v4, v5, v6, v7, v8, v9] ∧
      Jt K H' ⟨sd, Pa, L, ld, lm⟩ ⟨b, db, fP, fB, SD, sa, sx, mL, cD, Pa⟩ (4 + 4 * i) mk rt sp kvs pc U dom c cvs ∧ H' p0 = some (.lst (ys.map V.int)) ∧ p0 ≠ mL) ⟨_, _, _, _, _, _, mL, [], some r, _, kvs, pc, U, dom8, c8, cvs8, rfl, J9, hp09, n0.2⟩ ?_ ?_ ?_
    · rintro i σ H' _ ⟨_, _, _, _, _, _, _, _, _, _, _, _, _, _, _, _, _, _, e, _⟩
      exact SqL.of e
    · rintro i x σ H' hx ⟨v4, v5, v6, v7, v8, v9, mL, mk, rt, sp, kvs, pc, U, dom, c, cvs, rfl, J, hp0', np0⟩
      obtain ⟨x, rfl⟩ : ∃ z, x = .int z := by
        rw [List.getElem?_map] at hx
        cases e : ys[i]? with
        | none => rw [e] at hx; cases hx
        | some p => rw [e] at hx; exact ⟨p, (Option.some.inj hx).symm⟩
      have hi : i < ys.length := by
        have := (List.getElem?_eq_some_iff.mp hx).1
        rwa [List.length_map] at this
      refine ⟨_, rfl, [lm, mL], ⟨sd, Pa, L, ld, lm⟩, some (mk, rt), sp, kvs, pc, U, rfl, J.la, J.ps.closed (by omega), J.hU, J.short, fun H1 d1 kvs1 known1 s1 hd1 hd11 hk1 nd1 hr1 => ?_⟩
      have J1 := J.same s1
      refine ⟨_, rfl, _, rfl, _, rfl, x, rfl, fun H2 nl ns s2 fnl hnl hln => ?_⟩
      have J2 := J1.same s2
      refine ⟨⟨sd, Pa, L, ld, lm⟩, ⟨b, db, fP, fB, SD, sa, sx, mL, cD, Pa⟩, 4 + 4 * i, mk, rt, sp, kvs, pc, U, dom, c, cvs, nl, ns, rfl, J2, by omega, hnl, hln, fun H3 mL' mk' rt' sp' kvs' pc' U' dom' c' cvs' p freed k3 J3 hp nd pw fr => ?_⟩
      have J3' := J3.more (N' := 4 + 4 * (i + 1)) (by omega)
      obtain ⟨hld, ⟨tsl, hlm', _⟩, _⟩ := J.la.ld _ _ rfl
      obtain ⟨tsm, hmL'⟩ := J.ba.lst
      have nd1S : ¬ d1 ∈ [sd, Pa, ld, lm, cD, sa, mL] := fun z => by
        rcases (by simpa using z : d1 = sd ∨ d1 = Pa ∨ d1 = ld ∨ d1 = lm ∨ d1 = cD ∨ d1 = sa ∨ d1 = mL) with e | e | e | e | e | e | e
        · exact ne_of_none J.la.sd hd1 e.symm
        · exact ne_of_none J.la.pcs.dict hd1 e.symm
        · exact ne_of_none hld hd1 e.symm
        · exact ne_of_none hlm' hd1 e.symm
        · exact ne_of_none J.ba.ct.cd hd1 e.symm
        · exact ne_of_none J.ba.sa hd1 e.symm
        · exact ne_of_none hmL' hd1 e.symm
      have np0S : ¬ p0 ∈ [sd, Pa, ld, lm, cD, sa, mL] := fun z => by
        rcases (by simpa using z : p0 = sd ∨ p0 = Pa ∨ p0 = ld ∨ p0 = lm ∨ p0 = cD ∨ p0 = sa ∨ p0 = mL) with e | e | e | e | e | e | e
        · exact ne_of hp0' J.la.sd (by intro z; cases z) e
        · exact ne_of hp0' J.la.pcs.dict (by intro z; cases z) e
        · exact ne_of hp0' hld (by intro z; cases z) e
        · exact n0.1 e
        · exact ne_of hp0' J.ba.ct.cd (by intro z; cases z) e
        · exact ne_of hp0' J.ba.sa (by intro z; cases z) e
        · exact np0 e
      have hd13 := k3.get (s2 _ _ hd11) nd1S
      have hp03 := k3.get (s2 _ _ (s1 _ _ hp0')) np0S
      have np0' : p0 ≠ mL' := fun e => by
        obtain ⟨ts, h1, h2⟩ := J3.ba.mks
        have h1 : H3 mL' = some (.lst ts) := h1
        rw [← e, hp03] at h1
        have e1 : ys.map V.int = ts := HO.lst.inj (Option.some.inj h1)
        cases h2 with
        | nil => rw [List.map_eq_nil_iff.mp e1] at hi; simp at hi
        | cons _ _ =>
          cases ys with
          | nil => simp at hi
          | cons y r => cases e1
      refine ⟨_, rfl, [lm, mL'], ⟨sd, Pa, L, ld, lm⟩, some (mk', rt'), sp', kvs', pc', U', rfl, J3'.la, J3'.ps.closed (by omega), J3'.hU, J3'.short, fun H4 d2 kvs2 known2 s4 hd2 hd22 hk2 nd2 hr2 => ?_⟩
      have J4 := J3'.same s4
      have hd14 := s4 _ _ hd13
      have hp4 := s4 _ _ hp
      have hp04 := s4 _ _ hp03
      have n2sd : d2 ≠ sd := (ne_of_none J3.la.sd hd2).symm
      have n2P : d2 ≠ Pa := (ne_of_none J3.la.pcs.dict hd2).symm
      -- due
      refine ⟨_, rfl, d1, kvs1, known1, rfl, Rd.of hd14, hk1, fun zs ps hz1 hz2 hps => ?_⟩
      have s5 := same_new (o := .lst (zs.map V.int)) hps
      have hps5 : upd H4 ps (.lst (zs.map V.int)) ps = some (.lst (zs.map V.int)) := upd_same
      generalize upd H4 ps (.lst (zs.map V.int)) = H5 at s5 hps5 ⊢
      have hd25 := s5 _ _ hd22
      refine ⟨ps, rfl, ⟨_, SqL.of hps5⟩, fun D hD => ?_⟩
      have hzl : zs.length ≤ 10000 := by
        rw [hz1.length_eq]
        refine Nat.le_trans (nodup_len nd1 fun q hq => J.ba.ct.sub q ((J.dr q).mpr ((hr1 q).mp hq))) ?_
        exact J.ba.ct.cl.len
      refine lc_list (xs := zs.map V.int) (fun i H' => Same H5 H' ∧ H' D = some (.lst (((zs.take i).filter fun q => !decide (q ∈ known2)).map V.int))) ⟨same_new hD, upd_same⟩ (fun i H' _ h => SqL.of (h.1 _ _ hps5)) ?_ ?_
      · rintro j y H6 hy ⟨sm, hDa⟩
        rw [List.getElem?_map] at hy
        obtain ⟨q, hq, rfl⟩ : ∃ q, zs[j]? = some q ∧ y = .int q := by
          cases e : zs[j]? with
          | none => rw [e] at hy; cases hy
          | some q => rw [e] at hy; exact ⟨q, rfl, (Option.some.inj hy).symm⟩
        refine ⟨rfl, ?_⟩
        refine ⟨_, rfl, _, rfl, d2, _, rfl, DGet.k (k := Sum.inl q) (sm _ _ hd25), _, rfl, ?_⟩
        rw [hk2.isSome]
        have etk : zs.take (j + 1) = zs.take j ++ [q] := by
          rw [List.take_add_one, hq]
          rfl
        by_cases e : q ∈ known2
        · rw [decide_eq_true e]
          refine iteF ⟨sm, ?_⟩
          rw [etk, List.filter_append, List.filter_cons_of_neg (by simp [e]), List.filter_nil, List.append_nil]
          exact hDa
        · rw [decide_eq_false e]
          refine iteT ⟨_, rfl, _, hDa, ?_, sm.trans2 hD, ?_⟩
          · refine small1000' ?_
            rw [List.length_map]
            refine Nat.le_trans (List.length_filter_le _ _) ?_
            rw [List.length_take]
            omega
          · rw [upd_same, etk, List.filter_append, List.filter_cons_of_pos (by simp [e]), List.filter_nil, List.map_append]
            rfl
      rintro H6 ⟨s6, hD6⟩
      rw [List.length_map, List.take_length] at hD6
      have s46 : Same H4 H6 := fun b o z => s6 b o (s5 b o z)
      have J6 := J4.same s46
      have hp6 := s46 _ _ hp4
      have efr : freed = zs.filter fun q => !decide (q ∈ known2) := by
        refine Cw.rising_eq (Cw.rising_of pw nd) (Cw.rising_of (hz2.filter _) ((hz1.nodup_iff.mpr nd1).filter _)) fun q => ?_
        rw [fr q, List.mem_filter, hz1.mem_iff, hr1 q]
        constructor
        · exact fun z => ⟨z.1, by rw [decide_eq_false fun y => z.2 ((hr2 q).mp y)]; rfl⟩
        · exact fun z => ⟨z.1, fun y => by have := z.2; rw [decide_eq_true ((hr2 q).mpr y)] at this; cases this⟩
      refine ⟨_, rfl, _, _, .type "list", .type "list", true, rfl, .ty _, .base (.lst hp6), rfl, _, rfl, ?_⟩
      refine iteF ⟨_, rfl, _, rfl, r_neI (xs := freed) (ys := zs.filter fun q => !decide (q ∈ known2)) (SqL.of hp6) (SqL.of hD6) ⟨_, rfl, ?_⟩⟩
      rw [decide_eq_true efr]
      refine iteF ?_
      obtain ⟨q1, q2, q3⟩ := right_facts J6 nd2 hr2
      refine ⟨_, rfl, _, rfl, _, rfl, [lm, mL'], ⟨sd, Pa, L, ld, lm⟩, mk', rt', sp', kvs', cvs', pc', U', d2, ⟨b, db, fP, fB, SD, sa, sx, mL', cD, Pa⟩, kvs2, known2, dom', c', rfl, J6.ba.ins, J6.la, Nat.le_trans J6.len (by decide), J6.ps.closed (by omega), s46 _ _ hd22, hk2, nd2, q1, n2sd, n2P, J6.ba.ct, J6.good.nd, J6.good.mem, q2, q3, fun H7 s7 => ⟨_, rfl, iteF ⟨_, _, _, _, _, _, mL', mk', rt', sp', kvs', pc', U', dom', c', cvs', rfl, J6.same s7, s7 _ _ (s46 _ _ hp04), np0'⟩⟩⟩
    · rintro σ H' ⟨v4, v5, v6, v7, v8, v9, mL, mk, rt, sp, kvs, pc, U, dom, c, cvs, rfl, J, hp0', np0⟩
      have hyl' : (ys.map V.int).length ≤ 63 := by rw [List.length_map]; exact hyl
      refine ⟨_, rfl, _, rfl, _, rfl, [lm, mL], ⟨sd, Pa, L, ld, lm⟩, some (mk, rt), sp, kvs, pc, U, rfl, J.la, J.ps.closed (by omega), J.hU, J.short, fun H1 d1 kvs1 known1 s1 hd1 hd11 hk1 nd1 hr1 => ?_⟩
      have J1 := J.same s1
      obtain ⟨q1, q2, q3⟩ := right_facts J1 nd1 hr1
      exact ⟨[lm, mL], ⟨sd, Pa, L, ld, lm⟩, mk, rt, sp, kvs, cvs, pc, U, d1, ⟨b, db, fP, fB, SD, sa, sx, mL, cD, Pa⟩, kvs1, known1, dom, c, rfl, J1.ba.ins, J1.la, Nat.le_trans J1.len (by decide), J1.ps.closed (by omega), hd11, hk1, nd1, q1, (ne_of_none J.la.sd hd1).symm, (ne_of_none J.la.pcs.dict hd1).symm, J1.ba.ct, J1.good.nd, J1.good.mem, q2, q3, fun H2 _ => k H2⟩
end
end K31

namespace K31
open PySem PySem.Spec PyProof.Rows L2 CwR NdefX LamX
theorem law_at (w : World) {h : Heap} {mg : Str → Option Value} {f : Addr} {K : PySem.W.Frag} (X : K.In h) (c : CwH.Told fa fn tf ex h K) (G : h.Ns mainGlobals mg) (hfa : mg ("law" : Str) = some (.ref f)) :
    LawAtS PySem.Challenge.rw_clonewood_k31_counts_of_one_line w K CX0 6 63 "_law_script" mg f h := by
  have T : Txt K mg := ⟨c.d, c.more, h, X, G⟩
  have e := hfa.symm.trans T.g_law
  cases e
  have hp : pB ∈ tf := List.mem_singleton_self _
  refine ⟨CwH.fdOf K ("law", none), [He.cT K pB], spLaw K, fun p hp' => ?_, fun p hp' => ?_, fun p hp' => ?_, fun s u => ?_, fun H a ns hl _ hT hS => ?_, fun base KB GB hTB => ?_⟩
  · rw [List.mem_singleton.mp hp']; exact c.empty pB hp
  · rw [List.mem_singleton.mp hp']; exact c.out pB hp
  · rw [List.mem_singleton.mp hp']; exact PySem.W.codeHd_of_K X (c.hd pB hp)
  · obtain ⟨fd, F⟩ := c.d.def_ 11 (d := d_law) rfl
    have b := FunD.bindsA (ps := ["_law_script"]) F fun _ _ _ _ _ _ us hl => match us, hl with | [_], _ => rfl
    have ef : CwH.fdOf K ("law", none) = fd := by
      obtain ⟨oc, od, dV, kV, doc, pm, an, cdv, ct, osl, rfl, lk, _⟩ := F.ex
      unfold CwH.fdOf
      rw [show K.lookup (He.fAd K ("law", none)) = _ from lk]
    rw [ef]
    exact b s [u] rfl
  · exact ⟨a, ns, rfl, hS, hl, hT _ (List.mem_singleton_self _), fun _ => rfl⟩
  · exact ok_law T (hTB _ (List.mem_singleton_self _))
end K31
open PySem PySem.W PySem.Calls PyProof.Rows
theorem PySem.Challenge.cw_clonewood_k31_counts_of_one_line_holds : PySem.Challenge.rw_clonewood_k31_counts_of_one_line.Holds := by
  w_on; o_law
  refine HandSHeadRun.head_any (r := OpenLaw.row PySem.Challenge.rw_clonewood_k31_counts_of_one_line) (q := view (OpenLaw.row PySem.Challenge.rw_clonewood_k31_counts_of_one_line).prog [17]) (H := K31.hk) (ob := K31.ob) (M := 4000) (loose := K31.loose) (d := HandSHeadRun.topDef (OpenLaw.row PySem.Challenge.rw_clonewood_k31_counts_of_one_line).prog 17) (kwd := []) K31.ob_eq
    (by kernel_rfl) (fun s => by kernel_rfl) K31.run (by kernel_rfl) (by kernel_rfl) (by kernel_rfl) (by rfl) (by first | assumption | decide +kernel) (by decide +kernel) ⟨rfl, rfl, rfl, rfl, rfl, by decide +kernel⟩ ?hw ?hc
  case hw => w_witness2
  case hc =>
    refine LamX.walk_ofTsE (l := PySem.Challenge.rw_clonewood_k31_counts_of_one_line) (n := 63) (k := 6) (x := "_law_script") (CX := fun _ => L2.CX0) rfl (by decide) (by kernel_rfl) ⟨rfl, by decide, by decide⟩ ?F (fun _ _ _ _ _ z => z)
    intro w mg fa h Y G hmg0
    obtain ⟨K, KX, c⟩ := Y
    have hmg : mg ("law" : PySem.Str) = some (.ref fa) := by
      have e : (HandSHeadRun.topDef (OpenLaw.row PySem.Challenge.rw_clonewood_k31_counts_of_one_line).prog 17).name = ("law" : PySem.Str) := by kernel_rfl
      rw [← e]
      exact hmg0
    exact ⟨K, KX, K31.law_at w KX c G hmg⟩
