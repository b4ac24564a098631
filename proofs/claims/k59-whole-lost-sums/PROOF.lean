import PyProof.Rows.All
import Wide.All
import OpenK.AllK
import Wide.FinOn
import KE.KeyNested
import KE.SortUse
import KE.DatumOrd
import KE.KDictDisplayH
import HandS.ForExc
import HandS.ForMost
import HandS.IsInst
import HandS.TupSets
import HandS.TupAny
import HandS.Strs
import HandS.SetKeys
import HandS.SortInts
import HandS.Conv
import HandS.Flow
import HandS.Walk
import KE.GoesEnum
import PySem.Challenge.RW_thermogames_k59_whole_lost_sums
set_option Elab.async false
set_option linter.all false
set_option maxRecDepth 100000

section
/-! Misere sums of trees: who loses, what may be put for what. Plain Lean, no program in sight. -/
set_option autoImplicit false
namespace K59

/-- a tree: the list of its options -/
inductive Tr where
  | nd (os : List Tr)

namespace Tr
def os : Tr → List Tr
  | nd l => l
mutual
/-- nodes -/
def nn : Tr → Nat
  | nd l => nns l + 1
def nns : List Tr → Nat
  | [] => 0
  | t :: l => nn t + nns l
end
mutual
/-- height -/
def ht : Tr → Nat
  | nd l => hts l
/-- a bound of all heights, plus one -/
def hts : List Tr → Nat
  | [] => 0
  | t :: l => max (ht t + 1) (hts l)
end
theorem eta (t : Tr) : nd t.os = t := by cases t; rfl
theorem nn_mem {t : Tr} : ∀ {l : List Tr}, t ∈ l → nn t ≤ nns l
  | [], h => by cases h
  | u :: l, h => by
    rw [nns]
    rcases List.mem_cons.mp h with e | h
    · subst e; omega
    · have := nn_mem h; omega
theorem ht_mem {t : Tr} : ∀ {l : List Tr}, t ∈ l → ht t + 1 ≤ hts l
  | [], h => by cases h
  | u :: l, h => by
    rw [hts]
    rcases List.mem_cons.mp h with e | h
    · subst e; omega
    · have := ht_mem h; omega
theorem hts_le {n : Nat} : ∀ {l : List Tr}, (∀ t ∈ l, ht t + 1 ≤ n) → hts l ≤ n
  | [], _ => Nat.zero_le _
  | u :: l, h => by
    rw [hts]
    have h1 := h u List.mem_cons_self
    have h2 := hts_le fun t ht => h t (List.mem_cons_of_mem _ ht)
    omega
theorem ht_os {t u : Tr} (h : u ∈ t.os) : ht u + 1 ≤ ht t := by
  cases t with
  | nd l => rw [ht]; exact ht_mem h
theorem nn_os {t u : Tr} (h : u ∈ t.os) : nn u < nn t := by
  cases t with
  | nd l =>
    rw [nn]
    have := nn_mem (show u ∈ l from h)
    omega
theorem nn_pos (t : Tr) : 0 < nn t := by cases t; rw [nn]; omega
end Tr
open Tr

/-- weight of a position -/
def wt : List Tr → Nat
  | [] => 0
  | t :: l => nn t + wt l
theorem wt_perm {l m : List Tr} (h : l.Perm m) : wt l = wt m := by
  induction h with
  | nil => rfl
  | cons x _ ih => rw [wt, wt, ih]
  | swap x y l => simp only [wt]; omega
  | trans _ _ a b => rw [a, b]

/-- a move: some tree becomes one of its options -/
def Mv (L M : List Tr) : Prop := ∃ t R o, L.Perm (t :: R) ∧ o ∈ t.os ∧ M = o :: R
theorem Mv.lt {L M : List Tr} (h : Mv L M) : wt M < wt L := by
  obtain ⟨t, R, o, p, ho, rfl⟩ := h
  rw [wt_perm p, wt, wt]
  have := nn_os ho
  omega
theorem Mv.perm {L L' M : List Tr} (p : L.Perm L') (h : Mv L M) : Mv L' M := by
  obtain ⟨t, R, o, q, ho, e⟩ := h
  exact ⟨t, R, o, p.symm.trans q, ho, e⟩

/-- the player who moves first loses, the last mover being the loser -/
def Lost (L : List Tr) : Prop := (∃ M, Mv L M) ∧ ∀ M, (h : Mv L M) → ¬ Lost M
termination_by wt L
decreasing_by exact h.lt

theorem lost_iff (L : List Tr) : Lost L ↔ (∃ M, Mv L M) ∧ ∀ M, Mv L M → ¬ Lost M := by
  rw [Lost]
theorem lost_perm {L L' : List Tr} (p : L.Perm L') : Lost L ↔ Lost L' := by
  rw [lost_iff L, lost_iff L']
  constructor
  · rintro ⟨⟨M, h⟩, a⟩
    exact ⟨⟨M, h.perm p⟩, fun M h => a M (h.perm p.symm)⟩
  · rintro ⟨⟨M, h⟩, a⟩
    exact ⟨⟨M, h.perm p.symm⟩, fun M h => a M (h.perm p)⟩

/-- moves of a head or of the rest -/
theorem mv_head {t o : Tr} {X : List Tr} (h : o ∈ t.os) : Mv (t :: X) (o :: X) := ⟨t, X, o, List.Perm.refl _, h, rfl⟩
theorem mv_tail {t : Tr} {X X' : List Tr} (h : Mv X X') : ∃ M, Mv (t :: X) M ∧ M.Perm (t :: X') := by
  obtain ⟨u, R, o, p, ho, rfl⟩ := h
  exact ⟨o :: t :: R, ⟨u, t :: R, o, (p.cons t).trans (List.Perm.swap u t R), ho, rfl⟩, List.Perm.swap t o R⟩
theorem perm_two {t u : Tr} {X R : List Tr} (p : (t :: X).Perm (u :: R)) : (t = u ∧ X.Perm R) ∨ ∃ Y, X.Perm (u :: Y) ∧ R.Perm (t :: Y) := by
  have hm : u ∈ t :: X := p.mem_iff.mpr List.mem_cons_self
  rcases List.mem_cons.mp hm with e | hm
  · subst e
    exact .inl ⟨rfl, (List.perm_cons u).mp p⟩
  · obtain ⟨A, B, e⟩ := List.append_of_mem hm
    refine .inr ⟨A ++ B, by rw [e]; exact List.perm_middle, ?_⟩
    have q : (t :: X).Perm (u :: (t :: (A ++ B))) := by
      rw [e]
      exact (List.perm_middle.cons t).trans (List.Perm.swap u t _)
    exact ((List.perm_cons u).mp (p.symm.trans q))
theorem mv_cases {t : Tr} {X M : List Tr} (h : Mv (t :: X) M) : (∃ o ∈ t.os, M.Perm (o :: X)) ∨ ∃ X', Mv X X' ∧ M.Perm (t :: X') := by
  obtain ⟨u, R, o, p, ho, rfl⟩ := h
  rcases perm_two p with ⟨e, q⟩ | ⟨Y, q1, q2⟩
  · subst e
    exact .inl ⟨o, ho, (q.cons o).symm⟩
  · exact .inr ⟨o :: Y, ⟨u, Y, o, q1, ho, rfl⟩, (q2.cons o).trans (List.Perm.swap t o Y)⟩

/-- the same for two lists -/
theorem mv_app_l {A B A' : List Tr} (h : Mv A A') : ∃ M, Mv (A ++ B) M ∧ M.Perm (A' ++ B) := by
  obtain ⟨u, R, o, p, ho, rfl⟩ := h
  exact ⟨o :: (R ++ B), ⟨u, R ++ B, o, p.append_right B, ho, rfl⟩, List.Perm.refl _⟩
theorem mv_app_r {A B B' : List Tr} (h : Mv B B') : ∃ M, Mv (A ++ B) M ∧ M.Perm (A ++ B') := by
  obtain ⟨M, h1, p⟩ := mv_app_l (B := A) h
  exact ⟨M, h1.perm List.perm_append_comm, p.trans List.perm_append_comm⟩
theorem mv_app : ∀ {A B M : List Tr}, Mv (A ++ B) M → (∃ A', Mv A A' ∧ M.Perm (A' ++ B)) ∨ ∃ B', Mv B B' ∧ M.Perm (A ++ B')
  | [], B, M, h => .inr ⟨M, h, List.Perm.refl _⟩
  | t :: A, B, M, h => by
    rcases mv_cases (show Mv (t :: (A ++ B)) M from h) with ⟨o, ho, p⟩ | ⟨X', hx, p⟩
    · exact .inl ⟨o :: A, mv_head ho, p⟩
    · rcases mv_app hx with ⟨A', ha, q⟩ | ⟨B', hb, q⟩
      · obtain ⟨M', h1, p1⟩ := mv_tail (t := t) ha
        exact .inl ⟨M', h1, (p.trans (q.cons t)).trans (p1.symm.append_right B)⟩
      · exact .inr ⟨B', hb, p.trans (q.cons t)⟩

/-- alike in every sum -/
def Eqv (L M : List Tr) : Prop := ∀ X, Lost (L ++ X) ↔ Lost (M ++ X)
theorem Eqv.refl (L : List Tr) : Eqv L L := fun _ => Iff.rfl
theorem Eqv.symm {L M : List Tr} (h : Eqv L M) : Eqv M L := fun X => (h X).symm
theorem Eqv.trans {L M N : List Tr} (h : Eqv L M) (k : Eqv M N) : Eqv L N := fun X => (h X).trans (k X)
theorem Eqv.of_perm {L M : List Tr} (p : L.Perm M) : Eqv L M := fun X => lost_perm (p.append_right X)
theorem Eqv.right {L M : List Tr} (h : Eqv L M) (Y : List Tr) : Eqv (L ++ Y) (M ++ Y) := fun X => by
  rw [List.append_assoc, List.append_assoc]; exact h (Y ++ X)
theorem Eqv.left {L M : List Tr} (h : Eqv L M) (Y : List Tr) : Eqv (Y ++ L) (Y ++ M) :=
  ((Eqv.of_perm List.perm_append_comm).trans (h.right Y)).trans (Eqv.of_perm List.perm_append_comm)
theorem Eqv.lost {L M : List Tr} (h : Eqv L M) : Lost L ↔ Lost M := by
  have := h []
  rwa [List.append_nil, List.append_nil] at this

/-- a won position: nobody can move, or some move leads to a lost one -/
theorem won_iff (L : List Tr) : ¬ Lost L ↔ (∀ M, ¬ Mv L M) ∨ ∃ M, Mv L M ∧ Lost M := by
  rw [lost_iff L]
  constructor
  · intro h
    by_cases h1 : ∃ M, Mv L M
    · refine .inr ?_
      apply Classical.byContradiction
      intro h2
      exact h ⟨h1, fun M hm hl => h2 ⟨M, hm, hl⟩⟩
    · exact .inl fun M hm => h1 ⟨M, hm⟩
  · rintro (h | ⟨M, hm, hl⟩) ⟨⟨N, hn⟩, ha⟩
    · exact h N hn
    · exact ha M hm hl

/-- OPTIONS UP TO ALIKE: two positions whose moves match, up to alike, are alike -/
theorem eqv_of_moves {L M : List Tr} (h1 : ∀ L', Mv L L' → ∃ M', Mv M M' ∧ Eqv L' M') (h2 : ∀ M', Mv M M' → ∃ L', Mv L L' ∧ Eqv L' M') : Eqv L M := by
  have key : ∀ n X, wt X < n → (Lost (L ++ X) ↔ Lost (M ++ X)) := by
    intro n
    induction n with
    | zero => intro X h; omega
    | succ n ih =>
      intro X hX
      rw [lost_iff (L ++ X), lost_iff (M ++ X)]
      constructor
      · rintro ⟨⟨N, hN⟩, ha⟩
        refine ⟨?_, fun N' hN' hl => ?_⟩
        · rcases mv_app hN with ⟨L', hL', _⟩ | ⟨X', hX', _⟩
          · obtain ⟨M', hM', _⟩ := h1 L' hL'
            obtain ⟨Z, hz, _⟩ := mv_app_l (B := X) hM'
            exact ⟨Z, hz⟩
          · obtain ⟨Z, hz, _⟩ := mv_app_r (A := M) hX'
            exact ⟨Z, hz⟩
        · rcases mv_app hN' with ⟨M', hM', p⟩ | ⟨X', hX', p⟩
          · obtain ⟨L', hL', e⟩ := h2 M' hM'
            obtain ⟨Z, hz, pz⟩ := mv_app_l (B := X) hL'
            exact ha Z hz ((lost_perm pz).mpr ((e X).mpr ((lost_perm p).mp hl)))
          · obtain ⟨Z, hz, pz⟩ := mv_app_r (A := L) hX'
            have hlt := hX'.lt
            exact ha Z hz ((lost_perm pz).mpr ((ih X' (by omega)).mpr ((lost_perm p).mp hl)))
      · rintro ⟨⟨N, hN⟩, ha⟩
        refine ⟨?_, fun N' hN' hl => ?_⟩
        · rcases mv_app hN with ⟨M', hM', _⟩ | ⟨X', hX', _⟩
          · obtain ⟨L', hL', _⟩ := h2 M' hM'
            obtain ⟨Z, hz, _⟩ := mv_app_l (B := X) hL'
            exact ⟨Z, hz⟩
          · obtain ⟨Z, hz, _⟩ := mv_app_r (A := L) hX'
            exact ⟨Z, hz⟩
        · rcases mv_app hN' with ⟨L', hL', p⟩ | ⟨X', hX', p⟩
          · obtain ⟨M', hM', e⟩ := h1 L' hL'
            obtain ⟨Z, hz, pz⟩ := mv_app_l (B := X) hM'
            exact ha Z hz ((lost_perm pz).mpr ((e X).mp ((lost_perm p).mp hl)))
          · obtain ⟨Z, hz, pz⟩ := mv_app_r (A := M) hX'
            have hlt := hX'.lt
            exact ha Z hz ((lost_perm pz).mpr ((ih X' (by omega)).mp ((lost_perm p).mp hl)))
  exact fun X => key (wt X + 1) X (Nat.lt_succ_self _)

/-- what cannot move changes nothing -/
theorem eqv_idle {Y : List Tr} (hY : ∀ N, ¬ Mv Y N) (A : List Tr) : Eqv A (A ++ Y) := by
  have key : ∀ k Z, wt Z < k → (Lost Z ↔ Lost (Z ++ Y)) := by
    intro k
    induction k with
    | zero => intro Z h; omega
    | succ k ihk =>
      intro Z hZ
      rw [lost_iff Z, lost_iff (Z ++ Y)]
      constructor
      · rintro ⟨⟨N, hN⟩, ha⟩
        obtain ⟨Q, hq, _⟩ := mv_app_l (B := Y) hN
        refine ⟨⟨Q, hq⟩, fun N' hN' hl => ?_⟩
        rcases mv_app hN' with ⟨A', hA', p⟩ | ⟨B', hB', _⟩
        · have hlt := hA'.lt
          exact ha A' hA' ((ihk A' (by omega)).mpr ((lost_perm p).mp hl))
        · exact hY _ hB'
      · rintro ⟨⟨N, hN⟩, ha⟩
        refine ⟨?_, fun N' hN' hl => ?_⟩
        · rcases mv_app hN with ⟨A', hA', _⟩ | ⟨B', hB', _⟩
          · exact ⟨A', hA'⟩
          · exact (hY _ hB').elim
        · obtain ⟨Q, hq, pq⟩ := mv_app_l (B := Y) hN'
          have hlt := hN'.lt
          exact ha Q hq ((lost_perm pq).mpr ((ihk N' (by omega)).mp hl))
  intro W
  refine (key (wt (A ++ W) + 1) (A ++ W) (Nat.lt_succ_self _)).trans (lost_perm ?_)
  rw [List.append_assoc, List.append_assoc]
  exact List.perm_append_comm.append_left A
theorem nil_stuck (N : List Tr) : ¬ Mv [] N := fun ⟨_, _, _, p, _⟩ => absurd p.length_eq (by simp)
theorem leaf_stuck (N : List Tr) : ¬ Mv [nd []] N := fun h => by
  rcases mv_cases h with ⟨o, ho, _⟩ | ⟨X', hX', _⟩
  · cases ho
  · exact nil_stuck _ hX'
/-- a tree without options may be left out -/
theorem eqv_leaf (L : List Tr) : Eqv (nd [] :: L) L :=
  (Eqv.of_perm (List.perm_append_comm (l₁ := [nd []]) (l₂ := L))).trans (eqv_idle leaf_stuck L).symm

/-- REVERSED MOVES: a tree that can be shortened to h is alike to h -/
theorem eqv_short {G h : Tr} (inside : ∀ o ∈ h.os, o ∈ G.os) (back : ∀ s ∈ G.os, s ∈ h.os ∨ h ∈ s.os) (some_ : G.os ≠ []) (lost_ : h.os = [] → ∃ s ∈ G.os, Lost [s]) : Eqv [G] [h] := by
  have key : ∀ n X, wt X < n → (Lost (G :: X) ↔ Lost (h :: X)) := by
    intro n
    induction n with
    | zero => intro X h; omega
    | succ n ih =>
      intro X hX
      have e : ¬ Lost (G :: X) ↔ ¬ Lost (h :: X) := by
        rw [won_iff (h :: X)]
        constructor
        · intro hg
          rw [won_iff] at hg
          rcases hg with hg | ⟨M, hM, hl⟩
          · exfalso
            cases e : G.os with
            | nil => exact some_ e
            | cons s r => exact hg _ (mv_head (t := G) (o := s) (by rw [e]; exact List.mem_cons_self))
          · rcases mv_cases hM with ⟨s, hs, p⟩ | ⟨X', hX', p⟩
            · rw [lost_perm p] at hl
              rcases back s hs with hs' | hs'
              · exact .inr ⟨_, mv_head hs', hl⟩
              · rw [lost_iff] at hl
                exact (won_iff (h :: X)).mp (hl.2 _ (mv_head hs'))
            · rw [lost_perm p] at hl
              have hlt := hX'.lt
              obtain ⟨Z, hz, pz⟩ := mv_tail (t := h) hX'
              exact .inr ⟨Z, hz, (lost_perm pz).mpr ((ih X' (by omega)).mp hl)⟩
        · intro hh
          rw [won_iff]
          rcases hh with hh | ⟨M, hM, hl⟩
          · have hn : h.os = [] := by
              cases e : h.os with
              | nil => rfl
              | cons s r => exact (hh _ (mv_head (t := h) (o := s) (by rw [e]; exact List.mem_cons_self))).elim
            obtain ⟨s, hs, ls⟩ := lost_ hn
            have hx : ∀ N, ¬ Mv X N := fun N hN => by
              obtain ⟨Z, hz, _⟩ := mv_tail (t := h) hN
              exact hh Z hz
            exact .inr ⟨s :: X, mv_head hs, (eqv_idle hx [s]).lost.mp ls⟩
          · rcases mv_cases hM with ⟨o, ho, p⟩ | ⟨X', hX', p⟩
            · exact .inr ⟨_, mv_head (inside o ho), (lost_perm p).mp hl⟩
            · rw [lost_perm p] at hl
              have hlt := hX'.lt
              obtain ⟨Z, hz, pz⟩ := mv_tail (t := G) hX'
              exact .inr ⟨Z, hz, (lost_perm pz).mpr ((ih X' (by omega)).mpr hl)⟩
      exact ⟨fun a => Classical.byContradiction fun b => e.mpr b a, fun a => Classical.byContradiction fun b => e.mp b a⟩
  exact fun X => key (wt X + 1) X (Nat.lt_succ_self _)

/-- moves of one tree -/
theorem mv_one {t : Tr} {M : List Tr} (h : Mv [t] M) : ∃ o ∈ t.os, M = [o] := by
  rcases mv_cases h with ⟨o, ho, p⟩ | ⟨X', hX', _⟩
  · exact ⟨o, ho, List.perm_singleton.mp p⟩
  · exact (nil_stuck _ hX').elim
/-- a tree whose options match the moves of a position, up to alike -/
theorem eqv_node {G : Tr} {L : List Tr} (h1 : ∀ s ∈ G.os, ∃ M, Mv L M ∧ Eqv [s] M) (h2 : ∀ M, Mv L M → ∃ s ∈ G.os, Eqv [s] M) : Eqv [G] L := by
  refine eqv_of_moves (fun L' h => ?_) fun M h => ?_
  · obtain ⟨o, ho, rfl⟩ := mv_one h
    exact h1 o ho
  · obtain ⟨s, hs, e⟩ := h2 M h
    exact ⟨[s], mv_head hs, e⟩
/-- .. of a tree -/
theorem eqv_tree {G T : Tr} (h1 : ∀ s ∈ G.os, ∃ o ∈ T.os, Eqv [s] [o]) (h2 : ∀ o ∈ T.os, ∃ s ∈ G.os, Eqv [s] [o]) : Eqv [G] [T] := by
  refine eqv_node (fun s hs => ?_) fun M h => ?_
  · obtain ⟨o, ho, e⟩ := h1 s hs
    exact ⟨[o], mv_head ho, e⟩
  · obtain ⟨o, ho, rfl⟩ := mv_one h
    exact h2 o ho
/-- .. of a sum of two -/
theorem eqv_two {G A B : Tr} (h1 : ∀ s ∈ G.os, (∃ a ∈ A.os, Eqv [s] [a, B]) ∨ ∃ b ∈ B.os, Eqv [s] [A, b])
    (h2 : ∀ a ∈ A.os, ∃ s ∈ G.os, Eqv [s] [a, B]) (h3 : ∀ b ∈ B.os, ∃ s ∈ G.os, Eqv [s] [A, b]) : Eqv [G] [A, B] := by
  refine eqv_node (fun s hs => ?_) fun M h => ?_
  · rcases h1 s hs with ⟨a, ha, e⟩ | ⟨b, hb, e⟩
    · exact ⟨_, mv_head ha, e⟩
    · obtain ⟨M, hM, p⟩ := mv_tail (t := A) (mv_head (X := []) hb)
      exact ⟨M, hM, e.trans (Eqv.of_perm p).symm⟩
  · rcases mv_cases h with ⟨a, ha, p⟩ | ⟨X', hX', p⟩
    · obtain ⟨s, hs, e⟩ := h2 a ha
      exact ⟨s, hs, e.trans (Eqv.of_perm p).symm⟩
    · obtain ⟨b, hb, rfl⟩ := mv_one hX'
      obtain ⟨s, hs, e⟩ := h3 b hb
      exact ⟨s, hs, e.trans (Eqv.of_perm p).symm⟩
/-- a tree's options may stand in any order, any number of times -/
theorem eqv_same {G T : Tr} (h : ∀ s, s ∈ G.os ↔ s ∈ T.os) : Eqv [G] [T] :=
  eqv_tree (fun s hs => ⟨s, (h s).mp hs, Eqv.refl _⟩) fun o ho => ⟨o, (h o).mpr ho, Eqv.refl _⟩

open Classical in
/-- as a truth value -/
noncomputable def lostB (L : List Tr) : Bool := decide (Lost L)
open Classical in
theorem lostB_iff {L : List Tr} : lostB L = true ↔ Lost L := by unfold lostB; exact decide_eq_true_iff
theorem lostB_eqv {L M : List Tr} (e : Eqv L M) : lostB L = lostB M := by
  rw [Bool.eq_iff_iff, lostB_iff, lostB_iff]; exact e.lost
/-- a lone tree: lost if it has an option and none of its options is lost -/
theorem lost_one (t : Tr) : Lost [t] ↔ t.os ≠ [] ∧ ∀ o ∈ t.os, ¬ Lost [o] := by
  rw [lost_iff]
  constructor
  · rintro ⟨⟨M, hM⟩, ha⟩
    obtain ⟨o, ho, rfl⟩ := mv_one hM
    exact ⟨fun e => (by rw [e] at ho; cases ho), fun o ho => ha _ (mv_head ho)⟩
  · rintro ⟨hne, ha⟩
    refine ⟨?_, fun M hM => ?_⟩
    · cases e : t.os with
      | nil => exact (hne e).elim
      | cons s r => exact ⟨_, mv_head (t := t) (o := s) (by rw [e]; exact List.mem_cons_self)⟩
    · obtain ⟨o, ho, rfl⟩ := mv_one hM
      exact ha o ho

/-! ### heaps -/
mutual
/-- the tree of a heap -/
def pile : Nat → Tr
  | n => nd (piles n)
/-- the heaps below n -/
def piles : Nat → List Tr
  | 0 => []
  | n + 1 => piles n ++ [nd (piles n)]
end
theorem pile_os (n : Nat) : (pile n).os = piles n := by rw [pile]; rfl
theorem mem_piles {t : Tr} : ∀ {n : Nat}, t ∈ piles n ↔ ∃ k, k < n ∧ t = pile k
  | 0 => by simp [piles]
  | n + 1 => by
    rw [piles, List.mem_append, mem_piles, List.mem_singleton]
    constructor
    · rintro (⟨k, hk, e⟩ | e)
      · exact ⟨k, by omega, e⟩
      · exact ⟨n, by omega, by rw [pile]; exact e⟩
    · rintro ⟨k, hk, e⟩
      by_cases h : k = n
      · subst h; right; rw [pile] at e; exact e
      · exact .inl ⟨k, by omega, e⟩
theorem piles_len : ∀ n, (piles n).length = n
  | 0 => rfl
  | n + 1 => by rw [piles, List.length_append, piles_len n]; rfl

/-- misere nim, four heaps -/
def due4 (a b c d : Nat) : Bool := if max (max a b) (max c d) > 1 then (a ^^^ b ^^^ c ^^^ d) == 0 else (a + b + c + d) % 2 == 1
def due4Ok (a b c d : Nat) : Bool :=
  due4 a b c d == (decide (0 < a + b + c + d) && (List.range a).all (fun x => !due4 x b c d) && (List.range b).all (fun x => !due4 a x c d) && (List.range c).all (fun x => !due4 a b x d) && (List.range d).all (fun x => !due4 a b c x))
theorem due4_all : ((List.range 6).all fun a => (List.range 6).all fun b => (List.range 6).all fun c => (List.range 6).all fun d => due4Ok a b c d) = true := by decide +kernel
theorem due4_ok {a b c d : Nat} (ha : a < 6) (hb : b < 6) (hc : c < 6) (hd : d < 6) : due4Ok a b c d = true := by
  have h := due4_all
  rw [List.all_eq_true] at h
  have h1 := h a (List.mem_range.mpr ha)
  rw [List.all_eq_true] at h1
  have h2 := h1 b (List.mem_range.mpr hb)
  rw [List.all_eq_true] at h2
  have h3 := h2 c (List.mem_range.mpr hc)
  rw [List.all_eq_true] at h3
  exact h3 d (List.mem_range.mpr hd)
theorem mv_four {a b c d : Nat} {M : List Tr} (h : Mv [pile a, pile b, pile c, pile d] M) :
    (∃ x, x < a ∧ M.Perm [pile x, pile b, pile c, pile d]) ∨ (∃ x, x < b ∧ M.Perm [pile a, pile x, pile c, pile d]) ∨ (∃ x, x < c ∧ M.Perm [pile a, pile b, pile x, pile d]) ∨ ∃ x, x < d ∧ M.Perm [pile a, pile b, pile c, pile x] := by
  rcases mv_cases h with ⟨o, ho, p⟩ | ⟨X, hX, p⟩
  · rw [pile_os, mem_piles] at ho
    obtain ⟨x, hx, rfl⟩ := ho
    exact .inl ⟨x, hx, p⟩
  rcases mv_cases hX with ⟨o, ho, q⟩ | ⟨Y, hY, q⟩
  · rw [pile_os, mem_piles] at ho
    obtain ⟨x, hx, rfl⟩ := ho
    exact .inr (.inl ⟨x, hx, p.trans (q.cons _)⟩)
  rcases mv_cases hY with ⟨o, ho, r⟩ | ⟨Z, hZ, r⟩
  · rw [pile_os, mem_piles] at ho
    obtain ⟨x, hx, rfl⟩ := ho
    exact .inr (.inr (.inl ⟨x, hx, p.trans ((q.trans (r.cons _)).cons _)⟩))
  · obtain ⟨o, ho, rfl⟩ := mv_one hZ
    rw [pile_os, mem_piles] at ho
    obtain ⟨x, hx, rfl⟩ := ho
    exact .inr (.inr (.inr ⟨x, hx, p.trans ((q.trans (r.cons _)).cons _)⟩))
theorem pile_mem {x a : Nat} (h : x < a) : pile x ∈ (pile a).os := by rw [pile_os]; exact mem_piles.mpr ⟨x, h, rfl⟩
theorem nim4 : ∀ n a b c d, a + b + c + d < n → a < 6 → b < 6 → c < 6 → d < 6 → (Lost [pile a, pile b, pile c, pile d] ↔ due4 a b c d = true) := by
  intro n
  induction n with
  | zero => intro a b c d h; omega
  | succ n ih =>
    intro a b c d hn ha hb hc hd
    have ok := due4_ok ha hb hc hd
    unfold due4Ok at ok
    rw [beq_iff_eq] at ok
    rw [ok]
    simp only [Bool.and_eq_true, List.all_eq_true, List.mem_range, decide_eq_true_eq, Bool.not_eq_true']
    rw [lost_iff]
    have ea : ∀ x, x < a → (Lost [pile x, pile b, pile c, pile d] ↔ due4 x b c d = true) := fun x hx => ih x b c d (by omega) (by omega) hb hc hd
    have eb : ∀ x, x < b → (Lost [pile a, pile x, pile c, pile d] ↔ due4 a x c d = true) := fun x hx => ih a x c d (by omega) ha (by omega) hc hd
    have ec : ∀ x, x < c → (Lost [pile a, pile b, pile x, pile d] ↔ due4 a b x d = true) := fun x hx => ih a b x d (by omega) ha hb (by omega) hd
    have ed : ∀ x, x < d → (Lost [pile a, pile b, pile c, pile x] ↔ due4 a b c x = true) := fun x hx => ih a b c x (by omega) ha hb hc (by omega)
    have ma : ∀ x, x < a → Mv [pile a, pile b, pile c, pile d] [pile x, pile b, pile c, pile d] := fun x hx => mv_head (pile_mem hx)
    have mb : ∀ x, x < b → Mv [pile a, pile b, pile c, pile d] [pile x, pile a, pile c, pile d] := fun x hx => ⟨pile b, [pile a, pile c, pile d], pile x, List.Perm.swap _ _ _, pile_mem hx, rfl⟩
    have mc : ∀ x, x < c → Mv [pile a, pile b, pile c, pile d] [pile x, pile a, pile b, pile d] := fun x hx =>
      ⟨pile c, [pile a, pile b, pile d], pile x, ((List.Perm.swap (pile c) (pile b) [pile d]).cons _).trans (List.Perm.swap _ _ _), pile_mem hx, rfl⟩
    have md : ∀ x, x < d → Mv [pile a, pile b, pile c, pile d] [pile x, pile a, pile b, pile c] := fun x hx =>
      ⟨pile d, [pile a, pile b, pile c], pile x, List.perm_append_comm (l₁ := [pile a, pile b, pile c]) (l₂ := [pile d]), pile_mem hx, rfl⟩
    have pb : ∀ x, ([pile x, pile a, pile c, pile d] : List Tr).Perm [pile a, pile x, pile c, pile d] := fun x => List.Perm.swap _ _ _
    have pc : ∀ x, ([pile x, pile a, pile b, pile d] : List Tr).Perm [pile a, pile b, pile x, pile d] := fun x => (List.Perm.swap _ _ _).trans ((List.Perm.swap _ _ _).cons _)
    have pd : ∀ x, ([pile x, pile a, pile b, pile c] : List Tr).Perm [pile a, pile b, pile c, pile x] := fun x => List.perm_append_comm (l₁ := [pile x]) (l₂ := [pile a, pile b, pile c])
    constructor
    · rintro ⟨⟨M, hM⟩, all⟩
      refine ⟨⟨⟨⟨?_, fun x hx => ?_⟩, fun x hx => ?_⟩, fun x hx => ?_⟩, fun x hx => ?_⟩
      · rcases mv_four hM with ⟨x, hx, _⟩ | ⟨x, hx, _⟩ | ⟨x, hx, _⟩ | ⟨x, hx, _⟩ <;> omega
      · exact Bool.eq_false_iff.mpr fun z => all _ (ma x hx) ((ea x hx).mpr z)
      · exact Bool.eq_false_iff.mpr fun z => all _ (mb x hx) ((lost_perm (pb x)).mpr ((eb x hx).mpr z))
      · exact Bool.eq_false_iff.mpr fun z => all _ (mc x hx) ((lost_perm (pc x)).mpr ((ec x hx).mpr z))
      · exact Bool.eq_false_iff.mpr fun z => all _ (md x hx) ((lost_perm (pd x)).mpr ((ed x hx).mpr z))
    · rintro ⟨⟨⟨⟨h0, h1⟩, h2⟩, h3⟩, h4⟩
      refine ⟨?_, fun M hM hl => ?_⟩
      · by_cases ca : 0 < a
        · exact ⟨_, ma 0 ca⟩
        by_cases cb : 0 < b
        · exact ⟨_, mb 0 cb⟩
        by_cases cc : 0 < c
        · exact ⟨_, mc 0 cc⟩
        · exact ⟨_, md 0 (by omega)⟩
      · rcases mv_four hM with ⟨x, hx, p⟩ | ⟨x, hx, p⟩ | ⟨x, hx, p⟩ | ⟨x, hx, p⟩
        · exact absurd ((ea x hx).mp ((lost_perm p).mp hl)) (by rw [h1 x hx]; decide)
        · exact absurd ((eb x hx).mp ((lost_perm p).mp hl)) (by rw [h2 x hx]; decide)
        · exact absurd ((ec x hx).mp ((lost_perm p).mp hl)) (by rw [h3 x hx]; decide)
        · exact absurd ((ed x hx).mp ((lost_perm p).mp hl)) (by rw [h4 x hx]; decide)
/-- heaps that are not there -/
theorem pile_zero : pile 0 = nd [] := by rw [pile, piles]
theorem nim_list (ns : List Nat) (hl : ns.length ≤ 4) (hb : ∀ n ∈ ns, n < 6) : Lost (ns.map pile) ↔ due4 (ns.getD 0 0) (ns.getD 1 0) (ns.getD 2 0) (ns.getD 3 0) = true := by
  have e : ∀ L : List Tr, Lost (L ++ [pile 0]) ↔ Lost L := fun L => by
    rw [pile_zero]
    exact (eqv_idle leaf_stuck L).symm.lost
  match ns, hl, hb with
  | [], _, _ =>
    refine Iff.trans ?_ (nim4 _ 0 0 0 0 (Nat.lt_succ_self _) (by decide) (by decide) (by decide) (by decide))
    exact (((e [pile 0, pile 0, pile 0]).trans (e [pile 0, pile 0])).trans ((e [pile 0]).trans (e []))).symm
  | [a], _, hb =>
    refine Iff.trans ?_ (nim4 _ a 0 0 0 (Nat.lt_succ_self _) (hb a (by simp)) (by decide) (by decide) (by decide))
    exact ((e [pile a, pile 0, pile 0]).trans ((e [pile a, pile 0]).trans (e [pile a]))).symm
  | [a, b], _, hb =>
    refine Iff.trans ?_ (nim4 _ a b 0 0 (Nat.lt_succ_self _) (hb a (by simp)) (hb b (by simp)) (by decide) (by decide))
    exact ((e [pile a, pile b, pile 0]).trans (e [pile a, pile b])).symm
  | [a, b, c], _, hb =>
    refine Iff.trans ?_ (nim4 _ a b c 0 (Nat.lt_succ_self _) (hb a (by simp)) (hb b (by simp)) (hb c (by simp)) (by decide))
    exact (e [pile a, pile b, pile c]).symm
  | [a, b, c, d], _, hb => exact nim4 _ a b c d (Nat.lt_succ_self _) (hb a (by simp)) (hb b (by simp)) (hb c (by simp)) (hb d (by simp))
  | _ :: _ :: _ :: _ :: _ :: _, hl, _ => simp at hl

/-! ### how many there can be -/
/-- all lists of at most k items out of D -/
def lists {α : Type} (D : List α) : Nat → List (List α)
  | 0 => [[]]
  | k + 1 => [] :: D.flatMap fun d => (lists D k).map (d :: ·)
theorem mem_lists {α : Type} {D : List α} : ∀ {k : Nat} {l : List α}, l.length ≤ k → (∀ x ∈ l, x ∈ D) → l ∈ lists D k
  | 0, [], _, _ => by simp [lists]
  | 0, _ :: _, h, _ => by simp at h
  | k + 1, [], _, _ => by simp [lists]
  | k + 1, x :: l, h, hm => by
    rw [lists]
    refine List.mem_cons_of_mem _ (List.mem_flatMap.mpr ⟨x, hm x List.mem_cons_self, List.mem_map.mpr ⟨l, mem_lists (by simpa using h) fun y hy => hm y (List.mem_cons_of_mem _ hy), rfl⟩⟩)
def listsLen (d : Nat) : Nat → Nat
  | 0 => 1
  | k + 1 => 1 + d * listsLen d k
theorem lists_len {α : Type} (D : List α) : ∀ k, (lists D k).length = listsLen D.length k
  | 0 => rfl
  | k + 1 => by
    rw [lists, listsLen, List.length_cons, List.length_flatMap]
    have h : D.map (fun d => ((lists D k).map (d :: ·)).length) = D.map fun _ => listsLen D.length k := by
      refine List.map_congr_left fun d _ => ?_
      rw [List.length_map, lists_len D k]
    have g : ∀ (l : List α) (n : Nat), (l.map fun _ => n).sum = l.length * n := by
      intro l n
      induction l with
      | nil => simp
      | cons x l ih => rw [List.map_cons, List.sum_cons, ih, List.length_cons, Nat.succ_mul]; omega
    rw [h, g]
    omega
theorem listsLen_mono {d e : Nat} (h : d ≤ e) : ∀ k, listsLen d k ≤ listsLen e k
  | 0 => Nat.le_refl _
  | k + 1 => by
    have := Nat.mul_le_mul h (listsLen_mono h k)
    rw [listsLen, listsLen]
    omega
/-- different items out of a list are no more than the list's -/
theorem nodup_le {α : Type} : ∀ {l m : List α}, l.Nodup → (∀ x ∈ l, x ∈ m) → l.length ≤ m.length
  | [], _, _, _ => Nat.zero_le _
  | x :: l, m, hn, hs => by
    rw [List.nodup_cons] at hn
    obtain ⟨A, B, e⟩ := List.append_of_mem (hs x List.mem_cons_self)
    have h : l.length ≤ (A ++ B).length := nodup_le hn.2 fun y hy => by
      have hm := hs y (List.mem_cons_of_mem _ hy)
      rw [e] at hm
      rcases List.mem_append.mp hm with z | z
      · exact List.mem_append_left _ z
      · rcases List.mem_cons.mp z with z | z
        · subst z; exact absurd hy hn.1
        · exact List.mem_append_right _ z
    rw [e]
    simp only [List.length_append, List.length_cons] at h ⊢
    omega
mutual
/-- all trees in a tree -/
def subs : Tr → List Tr
  | nd l => nd l :: subsAll l
def subsAll : List Tr → List Tr
  | [] => []
  | t :: l => subs t ++ subsAll l
end
mutual
theorem subs_len : ∀ t : Tr, (subs t).length = t.nn
  | nd l => by rw [subs, Tr.nn, List.length_cons, subsAll_len l]
theorem subsAll_len : ∀ l : List Tr, (subsAll l).length = Tr.nns l
  | [] => rfl
  | t :: l => by rw [subsAll, Tr.nns, List.length_append, subs_len t, subsAll_len l]
end
theorem subs_self (t : Tr) : t ∈ subs t := by cases t; rw [subs]; exact List.mem_cons_self
theorem mem_subsAll {u : Tr} : ∀ {l : List Tr}, u ∈ subsAll l ↔ ∃ t ∈ l, u ∈ subs t
  | [] => by simp [subsAll]
  | t :: l => by rw [subsAll, List.mem_append, mem_subsAll]; simp
mutual
theorem subs_step {u o : Tr} : ∀ {t : Tr}, u ∈ subs t → o ∈ u.os → o ∈ subs t
  | nd l, h, ho => by
    rw [subs] at h ⊢
    rcases List.mem_cons.mp h with e | h
    · subst e
      exact List.mem_cons_of_mem _ (mem_subsAll.mpr ⟨o, ho, subs_self o⟩)
    · exact List.mem_cons_of_mem _ (subsAll_step h ho)
theorem subsAll_step {u o : Tr} : ∀ {l : List Tr}, u ∈ subsAll l → o ∈ u.os → o ∈ subsAll l
  | [], h, _ => by rw [subsAll] at h; cases h
  | t :: l, h, ho => by
    rw [subsAll, List.mem_append] at h ⊢
    rcases h with h | h
    · exact .inl (subs_step h ho)
    · exact .inr (subsAll_step h ho)
end
end K59
end

section
set_option Elab.async false
set_option linter.all false
set_option maxRecDepth 100000
set_option maxHeartbeats 4000000
/-! Trees in the heap: as tuples of tuples; their order, as Python's; as keys. -/
namespace K59
open PySem PyProof.Rows

mutual
/-- a tree as data -/
def dat : Tr → PyData
  | .nd l => .tuple (dats l)
def dats : List Tr → List PyData
  | [] => []
  | t :: l => dat t :: dats l
end
mutual
/-- a tree as a key -/
def tkey : Tr → NestedKey
  | .nd l => .tup (tkeys l)
def tkeys : List Tr → List NestedKey
  | [] => []
  | t :: l => tkey t :: tkeys l
end
theorem dats_map : ∀ l : List Tr, dats l = l.map dat
  | [] => rfl
  | t :: l => by rw [dats, dats_map l]; rfl
theorem tkeys_map : ∀ l : List Tr, tkeys l = l.map tkey
  | [] => rfl
  | t :: l => by rw [tkeys, tkeys_map l]; rfl
mutual
theorem tkey_inj : ∀ a b : Tr, tkey a = tkey b → a = b
  | .nd l, .nd m, h => by
    simp only [tkey, NestedKey.tup.injEq] at h
    rw [tkeys_inj l m h]
theorem tkeys_inj : ∀ a b : List Tr, tkeys a = tkeys b → a = b
  | [], [], _ => rfl
  | [], _ :: _, h => by simp [tkeys] at h
  | _ :: _, [], h => by simp [tkeys] at h
  | a :: l, b :: m, h => by
    simp only [tkeys, List.cons.injEq] at h
    rw [tkey_inj a b h.1, tkeys_inj l m h.2]
end
mutual
theorem tkey_depth : ∀ t : Tr, (tkey t).depth = t.ht + 1
  | .nd l => by rw [tkey, NestedKey.depth, Tr.ht, tkeys_depth l]
theorem tkeys_depth : ∀ l : List Tr, NestedKey.depthAll (tkeys l) = Tr.hts l
  | [] => by rw [tkeys, NestedKey.depthAll, Tr.hts]
  | t :: l => by rw [tkeys, NestedKey.depthAll, Tr.hts, tkey_depth t, tkeys_depth l]
end
mutual
theorem dat_alike : ∀ a b : Tr, W.alike (dat a) (dat b) = true
  | .nd l, .nd m => by rw [dat, dat, W.alike]; exact dats_alike l m
theorem dats_alike : ∀ l m : List Tr, W.alikeAll (dats l) (dats m) = true
  | [], _ => by rw [dats, W.alikeAll]
  | _ :: _, [] => by rw [dats, dats, W.alikeAll]
  | a :: l, b :: m => by rw [dats, dats, W.alikeAll, dat_alike a b, dats_alike l m]; rfl
end
mutual
theorem dat_depth : ∀ t : Tr, (dat t).depth = t.ht + 1
  | .nd l => by rw [dat, PyData.depth, Tr.ht, dats_depth l]
theorem dats_depth : ∀ l : List Tr, PyData.depthAll (dats l) = Tr.hts l
  | [] => by rw [dats, PyData.depthAll, Tr.hts]
  | t :: l => by rw [dats, PyData.depthAll, Tr.hts, dat_depth t, dats_depth l]
end
mutual
theorem dat_eqv : ∀ a b : Tr, PyData.eqv (dat a) (dat b) = true → a = b
  | .nd l, .nd m, h => by
    rw [dat, dat, PyData.eqv] at h
    rw [dats_eqv l m h]
theorem dats_eqv : ∀ l m : List Tr, PyData.eqvAll (dats l) (dats m) = true → l = m
  | [], [], _ => rfl
  | [], _ :: _, h => by simp [dats, PyData.eqvAll] at h
  | _ :: _, [], h => by simp [dats, PyData.eqvAll] at h
  | a :: l, b :: m, h => by
    rw [dats, dats, PyData.eqvAll, Bool.and_eq_true] at h
    rw [dat_eqv a b h.1, dats_eqv l m h.2]
end
theorem dat_refl (t : Tr) : PyData.eqv (dat t) (dat t) = true := W.eqv_refl_alike _ (dat_alike t t)
theorem dat_tuple (t : Tr) : ∃ xs, dat t = .tuple xs := by cases t with | nd l => exact ⟨_, by rw [dat]⟩
theorem dat_none (t : Tr) : dat t ≠ .none := by obtain ⟨xs, e⟩ := dat_tuple t; rw [e]; exact fun z => nomatch z

/-! ### the order -/
/-- a < b, as Python says of the tuples -/
def tlt (a b : Tr) : Bool := W.dataLt (dat a) (dat b)
theorem tlt_irrefl (a : Tr) : tlt a a = false := W.dataLt_self _
theorem toks_ne {a b : Tr} (h : a ≠ b) : W.keyToks (dat a) ≠ W.keyToks (dat b) := fun e => by
  have hf : PyData.eqv (dat a) (dat b) = false := Bool.eq_false_iff.mpr fun z => h (dat_eqv a b z)
  have g := (W.toks_eqv (dat a) (dat b) (dat_alike a b)).2 hf
  have g1 := g [.inl 0] [.inl 1]
  have g2 := g [.inl 1] [.inl 0]
  rw [e, W.lex_pre] at g1 g2
  rw [← g2] at g1
  exact absurd g1 (by decide)
theorem tlt_total {a b : Tr} (h : a ≠ b) : tlt a b = true ∨ tlt b a = true := by
  cases h1 : tlt a b with
  | true => exact .inl rfl
  | false =>
    cases h2 : tlt b a with
    | true => exact .inr rfl
    | false => exact absurd (lex_total (O := itemOrd) _ _ h1 h2) (toks_ne h)
theorem tlt_trans {a b c : Tr} (h : tlt a b = true) (k : tlt b c = true) : tlt a c = true := lex_trans (O := itemOrd) _ _ _ h k
theorem tlt_asymm {a b : Tr} (h : tlt a b = true) : tlt b a = false := by
  cases e : tlt b a with
  | false => rfl
  | true => exact absurd (tlt_trans h e) (by rw [tlt_irrefl]; decide)
/-- a tree's options strictly ascending -/
def asc : List Tr → Prop := List.Pairwise fun a b => tlt a b = true
mutual
/-- .. everywhere: what may be handed to the program -/
inductive Fine : Tr → Prop
  | nd {l : List Tr} : asc l → Fines l → Fine (.nd l)
inductive Fines : List Tr → Prop
  | nil : Fines []
  | cons {t : Tr} {l : List Tr} : Fine t → Fines l → Fines (t :: l)
end
theorem Fines.all : ∀ {l : List Tr}, Fines l → ∀ t ∈ l, Fine t
  | [], _, _, h => by cases h
  | _ :: _, h, t, ht => by
    cases h with
    | cons a b =>
      rcases List.mem_cons.mp ht with e | ht
      · rw [e]; exact a
      · exact b.all t ht
theorem Fines.of : ∀ {l : List Tr}, (∀ t ∈ l, Fine t) → Fines l
  | [], _ => .nil
  | t :: l, h => .cons (h t List.mem_cons_self) (Fines.of fun u hu => h u (List.mem_cons_of_mem _ hu))
/-- sorting -/
def tle (a b : Tr) : Bool := !tlt b a
def tsort (l : List Tr) : List Tr := l.mergeSort tle
theorem tsort_perm (l : List Tr) : (tsort l).Perm l := List.mergeSort_perm _ _
theorem tle_trans (a b c : Tr) (h : tle a b = true) (k : tle b c = true) : tle a c = true := by
  unfold tle at *
  rw [Bool.not_eq_true'] at *
  cases e : tlt c a with
  | false => rfl
  | true =>
    rcases lex_negTrans (O := itemOrd) _ (W.keyToks (dat b)) _ e with z | z
    · exact absurd z (by show ¬ tlt c b = true; rw [k]; decide)
    · exact absurd z (by show ¬ tlt b a = true; rw [h]; decide)
theorem tle_total (a b : Tr) : (tle a b || tle b a) = true := by
  unfold tle
  cases e : tlt b a with
  | false => rfl
  | true => rw [tlt_asymm e]; rfl
theorem tsort_sorted (l : List Tr) : (tsort l).Pairwise fun a b => tle a b = true := List.pairwise_mergeSort (le := tle) tle_trans tle_total l
theorem tsort_asc {l : List Tr} (hn : l.Nodup) : asc (tsort l) := by
  have h1 := tsort_sorted l
  have h2 : (tsort l).Nodup := (tsort_perm l).nodup_iff.mpr hn
  refine List.Pairwise.imp (fun {a b} h => ?_) (List.Pairwise.and h1 h2)
  obtain ⟨h, hne⟩ := h
  rcases tlt_total hne with z | z
  · exact z
  · unfold tle at h
    rw [z] at h
    cases h
/-- the ascending order is one -/
theorem asc_one : ∀ {l m : List Tr}, asc l → asc m → l.Perm m → l = m
  | [], m, _, _, p => (List.perm_nil.mp p.symm).symm ▸ rfl
  | a :: l, [], _, _, p => absurd p.length_eq (by simp)
  | a :: l, b :: m, ha, hb, p => by
    have ha' := List.pairwise_cons.mp ha
    have hb' := List.pairwise_cons.mp hb
    have e : a = b := by
      rcases List.mem_cons.mp (p.mem_iff.mp List.mem_cons_self) with z | z
      · exact z
      rcases List.mem_cons.mp (p.mem_iff.mpr (List.mem_cons_self (a := b) (l := m))) with y | y
      · exact y.symm
      · have := tlt_trans (hb'.1 a z) (ha'.1 b y)
        rw [tlt_irrefl] at this
        cases this
    subst e
    rw [asc_one ha'.2 hb'.2 ((List.perm_cons a).mp p)]
theorem tsort_of_asc {l m : List Tr} (ha : asc l) (hp : m.Perm l) : tsort m = l :=
  asc_one (tsort_asc (hp.nodup_iff.mpr (List.Pairwise.imp (fun {a b} h => fun e => by rw [e, tlt_irrefl] at h; cases h) ha))) ha ((tsort_perm m).trans hp)

/-! ### trees in the abstract heap -/
open L2
mutual
/-- v is the tree t -/
inductive TrAt (H : Hp) : V → Tr → Prop
  | nd {a : Addr} {xs : List V} {l : List Tr} : H a = some (.tup xs) → xs.length ≤ 1000 → TrsAt H xs l → TrAt H (.ref a) (.nd l)
inductive TrsAt (H : Hp) : List V → List Tr → Prop
  | nil : TrsAt H [] []
  | cons {v : V} {vs : List V} {t : Tr} {l : List Tr} : TrAt H v t → TrsAt H vs l → TrsAt H (v :: vs) (t :: l)
end
/-- the tuples stay -/
def Tups (H H' : Hp) : Prop := ∀ a xs, H a = some (.tup xs) → H' a = some (.tup xs)
theorem Tups.refl (H : Hp) : Tups H H := fun _ _ h => h
theorem Tups.trans {H H' H2 : Hp} (h : Tups H H') (k : Tups H' H2) : Tups H H2 := fun a xs z => k a xs (h a xs z)
theorem tups_upd {H : Hp} {p : Addr} {o : HO} (h : ∀ xs, H p ≠ some (.tup xs)) : Tups H (L2.upd H p o) := fun a xs z => by
  rw [upd_ne (fun e => by subst e; exact h xs z)]; exact z
theorem tups_new {H : Hp} {p : Addr} {o : HO} (h : H p = none) : Tups H (L2.upd H p o) := tups_upd fun xs z => by rw [h] at z; cases z
mutual
theorem TrAt.keep {H H' : Hp} (k : Tups H H') : ∀ (t : Tr) (v : V), TrAt H v t → TrAt H' v t
  | .nd l, _, h => by
    cases h with
    | nd h1 h2 h3 => exact .nd (k _ _ h1) h2 (TrsAt.keep k l _ h3)
theorem TrsAt.keep {H H' : Hp} (k : Tups H H') : ∀ (l : List Tr) (vs : List V), TrsAt H vs l → TrsAt H' vs l
  | [], _, h => by cases h; exact .nil
  | t :: l, _, h => by
    cases h with
    | cons h1 h2 => exact .cons (TrAt.keep k t _ h1) (TrsAt.keep k l _ h2)
end
theorem TrAt.tups {H H' : Hp} {v : V} {t : Tr} (h : TrAt H v t) (k : Tups H H') : TrAt H' v t := TrAt.keep k t v h
theorem TrsAt.tups {H H' : Hp} {vs : List V} {l : List Tr} (h : TrsAt H vs l) (k : Tups H H') : TrsAt H' vs l := TrsAt.keep k l vs h
theorem TrsAt.len : ∀ {H : Hp} {l : List Tr} {vs : List V}, TrsAt H vs l → vs.length = l.length
  | _, [], _, h => by cases h; rfl
  | _, t :: l, _, h => by
    cases h with
    | cons h1 h2 => rw [List.length_cons, List.length_cons, h2.len]
theorem TrsAt.get {H : Hp} : ∀ {l : List Tr} {vs : List V} {i : Nat} {v : V}, TrsAt H vs l → vs[i]? = some v → ∃ t, l[i]? = some t ∧ TrAt H v t
  | [], _, _, _, h, e => by cases h; simp at e
  | t :: l, _, 0, v, h, e => by
    cases h with
    | cons h1 h2 => simp at e; subst e; exact ⟨t, rfl, h1⟩
  | t :: l, _, i + 1, v, h, e => by
    cases h with
    | cons h1 h2 =>
      obtain ⟨u, q, r⟩ := h2.get (i := i) (by simpa using e)
      exact ⟨u, by simpa using q, r⟩
theorem TrsAt.append {H : Hp} : ∀ {l m : List Tr} {vs ws : List V}, TrsAt H vs l → TrsAt H ws m → TrsAt H (vs ++ ws) (l ++ m)
  | [], _, _, _, h, k => by cases h; exact k
  | t :: l, _, _, _, h, k => by
    cases h with
    | cons h1 h2 => exact .cons h1 (h2.append k)
theorem TrsAt.take {H : Hp} : ∀ (n : Nat) {l : List Tr} {vs : List V}, TrsAt H vs l → TrsAt H (vs.take n) (l.take n)
  | 0, _, _, _ => .nil
  | n + 1, [], _, h => by cases h; exact .nil
  | n + 1, t :: l, _, h => by
    cases h with
    | cons h1 h2 => exact .cons h1 (h2.take n)
theorem TrsAt.drop {H : Hp} : ∀ (n : Nat) {l : List Tr} {vs : List V}, TrsAt H vs l → TrsAt H (vs.drop n) (l.drop n)
  | 0, _, _, h => h
  | n + 1, [], _, h => by cases h; exact .nil
  | n + 1, t :: l, _, h => by
    cases h with
    | cons h1 h2 => exact h2.drop n
/-- each address with its tree -/
theorem TrsAt.pairs {H : Hp} : ∀ {l : List Tr} {vs : List V}, TrsAt H vs l → ∃ ps : List (Addr × Tr), vs = ps.map (fun p => V.ref p.1) ∧ l = ps.map (·.2) ∧ ∀ p ∈ ps, TrAt H (.ref p.1) p.2
  | [], _, h => by cases h; exact ⟨[], rfl, rfl, fun p hp => by cases hp⟩
  | t :: l, _, h => by
    cases h with
    | cons h1 h2 =>
      obtain ⟨ps, e1, e2, e3⟩ := h2.pairs
      cases h1 with
      | @nd a xs _ a1 a2 a3 =>
        refine ⟨(a, _) :: ps, by rw [e1]; rfl, by rw [e2]; rfl, fun p hp => ?_⟩
        rcases List.mem_cons.mp hp with e | hp
        · rw [e]; exact .nd a1 a2 a3
        · exact e3 p hp
theorem TrsAt.of_pairs {H : Hp} : ∀ {ps : List (Addr × Tr)}, (∀ p ∈ ps, TrAt H (.ref p.1) p.2) → TrsAt H (ps.map fun p => V.ref p.1) (ps.map (·.2))
  | [], _ => .nil
  | p :: ps, h => .cons (h p List.mem_cons_self) (TrsAt.of_pairs fun q hq => h q (List.mem_cons_of_mem _ hq))
mutual
theorem TrAt.dp {K : PySem.W.Frag} {H : Hp} : ∀ (t : Tr) (v : V), TrAt H v t → Dp K H v (dat t)
  | .nd l, _, h => by
    cases h with
    | nd h1 h2 h3 => rw [dat]; exact .tup (SqT.of h1) (TrsAt.dp l _ h3)
theorem TrsAt.dp {K : PySem.W.Frag} {H : Hp} : ∀ (l : List Tr) (vs : List V), TrsAt H vs l → DpAll K H vs (dats l)
  | [], _, h => by cases h; rw [dats]; exact .nil
  | t :: l, _, h => by
    cases h with
    | cons h1 h2 => rw [dats]; exact .cons (TrAt.dp t _ h1) (TrsAt.dp l _ h2)
end
section
variable {X : Cx} {pins : List (Addr × Obj)} {σ : L2.St} {H : Hp} {s : Shared}
mutual
theorem TrAt.key (I : Inv X pins σ H s) : ∀ (t : Tr) (v : V) (u : Value), TrAt H v t → RelV v u → NestedIs s.heap (tkey t) u
  | .nd l, _, _, h, r => by
    cases h with
    | nd h1 h2 h3 =>
      cases r
      obtain ⟨its, rv, ⟨o, ho, hc, n, hd⟩, _⟩ := I.tuple (SqT.of (K := X.K) h1)
      rw [tkey]
      exact .tup ho hc hd (by simpa using TrsAt.key I l _ its h3 rv)
theorem TrsAt.key (I : Inv X pins σ H s) : ∀ (l : List Tr) (vs : List V) (us : List Value), TrsAt H vs l → Vals vs us → NestedAll s.heap (tkeys l) us
  | [], _, _, h, r => by
    cases h
    cases r
    rw [tkeys]
    exact .nil
  | t :: l, _, _, h, r => by
    cases h with
    | cons h1 h2 =>
      cases r with
      | cons r1 r2 => rw [tkeys]; exact .cons (TrAt.key I t _ _ h1 r1) (TrsAt.key I l _ _ h2 r2)
end
/-- it stands for one tree -/
theorem TrAt.reads (I : Inv X pins σ H s) {t : Tr} {a : Addr} (h : TrAt H (.ref a) t) : ∃ as, Reads s.heap (.ref a) (dat t) as := Dp.reads I (dat t) _ _ (TrAt.dp t _ h) rfl
end
end K59
end

section
set_option Elab.async false
set_option linter.all false
set_option maxRecDepth 100000
set_option maxHeartbeats 4000000
/-! Comparing and sorting trees. -/
namespace K59
open PySem PyProof.Rows PySem.W PySem.SeqAt

/-- the first items of tuples, nothing for the empty one -/
def FirstsAre (h : Heap) : List Value → List (Option Value) → Prop
  | [], [] => True
  | v :: vs, f :: fs => (∃ a o xs n, v = .ref a ∧ h.get? a = some o ∧ o.cls = .type "tuple" ∧ o.data = .seq xs n ∧ xs[0]? = f) ∧ FirstsAre h vs fs
  | _, _ => False
theorem FirstsAre.len {h : Heap} : ∀ {vs : List Value} {fs : List (Option Value)}, FirstsAre h vs fs → vs.length = fs.length
  | [], [], _ => rfl
  | [], _ :: _, t => t.elim
  | _ :: _, [], t => t.elim
  | _ :: _, _ :: _, t => by rw [List.length_cons, List.length_cons, FirstsAre.len t.2]
section
variable {M : Model} {A : Around} {E : Value → Shared → Prop} {s : Shared}
theorem firsts_run : ∀ (vs : List Value) (fs : List (Option Value)) {Q : List (Option Value) → Shared → Prop}, FirstsAre s.heap vs fs → Q fs s → wpAny M A (vs.mapM firstOfTuple') Q E s
  | [], [], _, _, h => by rw [List.mapM_nil]; exact wpAny_pure h
  | [], _ :: _, _, t, _ => t.elim
  | _ :: _, [], _, t, _ => t.elim
  | v :: vs, f :: fs, Q, t, h => by
    obtain ⟨⟨a, o, xs, n, rfl, ho, hc, hd, hf⟩, t⟩ := t
    rw [List.mapM_cons]
    refine wpAny_bind ?_
    rw [kas_first_eq]
    have hl : Looks M s.heap (typeOf (.ref a)) o.cls := (Looks.ld ho).andThen .now
    refine wpAny_bind (Looks.here hl ?_)
    rw [hc, if_neg (by first | decide | simp)]
    refine wpAny_bind (listItems_at ho hd (wpAny_pure ?_))
    rw [hf]
    exact wpAny_bind (firsts_run vs fs (Q := fun bs s' => wpAny M A (pure (f :: bs)) Q E s') t (wpAny_pure h))
theorem firsts_looks {h : Heap} : ∀ {vs : List Value} {fs : List (Option Value)}, FirstsAre h vs fs → ∀ v ∈ vs, Looks M h (typeOf v) (.type "tuple")
  | [], _, _, v, hv => by cases hv
  | _ :: _, [], t, _, _ => t.elim
  | u :: vs, f :: fs, t, v, hv => by
    rcases List.mem_cons.mp hv with e | hv
    · subst e
      obtain ⟨⟨a, o, xs, n, rfl, ho, hc, hd, hf⟩, _⟩ := t
      rw [← hc]
      exact (Looks.ld ho).andThen .now
    · exact firsts_looks t.2 v hv
/-- the kind of comparison where some tuple is empty -/
theorem kind_mixed {vs : List Value} {fs : List (Option Value)} {Q : SortKind → Shared → Prop} (t : FirstsAre s.heap vs fs) (hn : none ∈ fs) (h1 : (fs[0]?.bind id).isSome = true → Q general' s) (h2 : (fs[0]?.bind id).isSome = false → Q oneType' s) : wpAny M A (keyKind' vs.toArray) Q E s := by
  rw [keyKind'_eq, List.mapM_toArray, map_eq_pure_bind]
  refine wpAny_bind (wpAny_bind (firsts_run vs fs t (wpAny_pure ?_)))
  have hall : ¬ (fs.toArray.all fun x => x.isSome) = true := by
    intro z
    rw [List.all_toArray, List.all_eq_true] at z
    exact absurd (z none hn) (by simp)
  rw [if_neg hall]
  cases e : (fs[0]?.bind id).isSome with
  | true =>
    rw [if_pos (by simpa using e)]
    exact wpAny_pure (h1 e)
  | false =>
    rw [if_neg (by simpa using e)]
    rw [oneTypeOnly'_eq, List.mapM_toArray, map_eq_pure_bind]
    refine wpAny_bind (wpAny_bind (wpAny_bind (kas_mapM (r := Value.type "tuple") _ (fun v hv Q' hq => (firsts_looks t v hv).here hq) (wpAny_pure ?_))))
    have hall2 : ((List.map (fun _ => Value.type "tuple") vs).toArray.all fun x => x == Value.type "tuple") = true := by
      simp only [List.all_toArray, List.all_map, List.all_eq_true]
      intro _ _
      rfl
    have h0 : (List.map (fun _ => Value.type "tuple") vs).toArray[0]? = some (Value.type "tuple") := by
      cases vs with
      | nil =>
        cases fs with
        | nil => cases hn
        | cons _ _ => exact t.elim
      | cons v r => simp
    rw [h0]
    simp only [hall2, if_true]
    exact wpAny_pure (wpAny_pure (h2 e))
end

section
variable {prog : Program} {w : World} {A : Around} {E : Value → Shared → Prop} {s : Shared}
/-- the call of a tuple's own less-than -/
theorem call_tup_lt {Q : Value → Shared → Prop} {l b : Addr} {items items2 : Array Value} {e r : Nat → Bool} (hl : s.heap.IsTuple l items) (hb : s.heap.IsTuple b items2)
    (he : ∀ j (h1 : j < items.size) (h2 : j < items2.size), EqAt A.in1 s items[j] items2[j] (e j)) (hr : ∀ j (h1 : j < items.size) (h2 : j < items2.size), e j = false → RcLt A.in1 s items[j] items2[j] (r j))
    (h : Q (.bool (firstLt e r (decide (items.size < items2.size)) (List.range (min items.size items2.size)))) s) : wpAny (model prog w) A (call (.builtin "tuple.__lt__") [.ref l, .ref b]) Q E s := by
  obtain ⟨⟨c1, d1, g1, s1⟩, ho, hc, n, hd⟩ := id hl
  obtain ⟨⟨c2, d2, g2, s2⟩, ho2, hc2, n2, hd2⟩ := id hb
  simp only at hc hd hc2 hd2
  subst hc hd hc2 hd2
  have T : s.TypeIs (.ref l) "tuple" := ⟨_, ho, rfl⟩
  exact call_meets F.slot_tuple_lt T F.entry_tuple_lt (F.args_tuple_lt_2 _ _) (tuple_ltAt l b items items2 n n2 d1 d2 s1 s2 e r) ⟨ho, ho2, he, hr, h⟩
/-- one tree against another, as sorting compares -/
theorem oneLt_tr {f : Bool} {x y : Tr} {a b : Value} {as bs : List Addr} {Q : Bool → Shared → Prop} (ra : Reads s.heap a (dat x) as) (rb : Reads s.heap b (dat y) bs) (hu : A.units + min (dat x).depth (dat y).depth < cLine) (hq : Q (tlt x y) s) :
    wpAny (model prog w) A (oneLt' f a b) Q E s := by
  cases f with
  | false => exact oneLt_alike (fun z => by cases z) ra rb (dat_alike x y) (dat_none x) hu hq
  | true =>
    cases x with
    | nd l =>
    cases y with
    | nd m =>
    have hal := dats_alike l m
    have hq' : Q (dataLt (.tuple (dats l)) (.tuple (dats m))) s := hq
    rw [dat] at ra hu
    rw [dat] at rb hu
    cases ra with
    | @tuple p o vs n _ as₁ h1 h2 h3 h4 =>
    cases rb with
    | @tuple p' o' vs' n' _ bs₁ k1 k2 k3 k4 =>
    have n1 : vs.size = (dats l).length := by simpa using ReadsAll.length _ _ _ h4
    have n2 : vs'.size = (dats m).length := by simpa using ReadsAll.length _ _ _ k4
    rw [dataLt_tuple, ← firstLt_toks (dats l) (dats m) hal, ← n1, ← n2] at hq'
    have T1 : s.heap.IsTuple p vs := ⟨_, h1, h2, _, h3⟩
    have T2 : s.heap.IsTuple p' vs' := ⟨_, k1, k2, _, k3⟩
    have U := room_in hu
    rw [oneLt'_eq]
    simp only [if_true]
    refine wpAny_bind (wpAny_cRoomFor (room_here hu) (wpAny_bind (wpAny_callSpecialIfBound?_slot (T := "tuple") ⟨_, h1, h2⟩ F.slot_tuple_lt ?_)))
    refine call_tup_lt (e := pairEq (dats l) (dats m)) (r := fun j => dataLt ((dats l).getD j .none) ((dats m).getD j .none)) T1 T2 (fun j j1 j2 => ?_) (fun j j1 j2 hj => ?_) (wpAny_truthy_bool hq')
    · have z := eqAt_alikeAll (dats l) (dats m) A.in1 s vs.toList vs'.toList _ _ h4 k4 hal U j (by simpa using j1) (by simpa using j2)
      simpa using z
    · have z := rcLt_alikeAll (dats l) (dats m) A.in1 s vs.toList vs'.toList _ _ h4 k4 hal U j (by simpa using j1) (by simpa using j2) hj
      simpa using z

theorem dats_all {β : Type} (g : β → Tr) (bs : List β) : AllAlike (bs.map fun b => dat (g b)) := fun d hd e he => by
  obtain ⟨x, _, rfl⟩ := List.mem_map.mp hd
  obtain ⟨y, _, rfl⟩ := List.mem_map.mp he
  exact dat_alike _ _
theorem firsts_of {h : Heap} {β : Type} (g : β → Tr) : ∀ {vs : List Value} {bs : List β}, EachIs (fun v b => ∃ as, Reads h v (dat (g b)) as) vs bs → ∃ fs, FirstsAre h vs fs ∧ ((∃ b ∈ bs, (g b).os = []) → none ∈ fs)
  | _, _, .nil => ⟨[], trivial, fun ⟨b, hb, _⟩ => by cases hb⟩
  | _, _, .cons (b := b) ⟨as, r⟩ t => by
    obtain ⟨fs, h1, h2⟩ := firsts_of g t
    generalize e : g b = x at r
    cases x with
    | nd l =>
    rw [dat] at r
    cases r with
    | @tuple a o xs n _ _ ho hc hd hr =>
    refine ⟨xs[0]? :: fs, ⟨⟨a, o, xs, n, rfl, ho, hc, hd, rfl⟩, h1⟩, fun ⟨c, hcm, hce⟩ => ?_⟩
    rcases List.mem_cons.mp hcm with z | z
    · subst z
      rw [e] at hce
      have hle : l = [] := hce
      subst hle
      rw [dats] at hr
      cases hx : xs.toList with
      | nil =>
        have : xs[0]? = none := by rw [← Array.getElem?_toList, hx]; rfl
        rw [this]; exact List.mem_cons_self
      | cons f fr => rw [hx] at hr; cases hr
    · exact List.mem_cons_of_mem _ (h2 ⟨c, z, hce⟩)
/-- trees can be sorted -/
theorem sorts_tr {β : Type} (g : β → Tr) {vs : List Value} {bs : List β} (e : EachIs (fun v b => ∃ as, Reads s.heap v (dat (g b)) as) vs bs) (hu : ∀ b, b ∈ bs → A.units + (dat (g b)).depth < cLine) :
    SortsAt prog w A s (dataKind s.heap (bs.map fun b => dat (g b))) vs := by
  have e' := each_map (R := fun v d => ∃ as, Reads s.heap v d as) (fun b => dat (g b)) e
  have hu' : ∀ d, d ∈ bs.map (fun b => dat (g b)) → A.units + d.depth < cLine := fun d hd => by
    obtain ⟨b, hb, rfl⟩ := List.mem_map.mp hd
    exact hu b hb
  have hal := dats_all g bs
  by_cases hk : ∃ b ∈ bs, (g b).os = []
  · refine ⟨fun v hv => ?_, ?_⟩
    · obtain ⟨d, hd, as, r⟩ := e'.left v hv
      exact ⟨_, dataKind_some hal hd r⟩
    · obtain ⟨fs, h1, h2⟩ := firsts_of g e
      have lt : ∀ kd : SortKind, kd = general' ∨ kd = oneType' → H.LtAt prog w A s (dataKind s.heap (bs.map fun b => dat (g b))) kd := by
        intro kd hkd E x y a b Q ha hb hq
        obtain ⟨d, as, hd, ra, rfl⟩ := dataKind_inv ha
        obtain ⟨d', as', hd', rb, rfl⟩ := dataKind_inv hb
        obtain ⟨c, hc, rfl⟩ := List.mem_map.mp hd
        obtain ⟨c', hc', rfl⟩ := List.mem_map.mp hd'
        have room : A.units + min (dat (g c)).depth (dat (g c')).depth < cLine := Nat.lt_of_le_of_lt (Nat.add_le_add_left (Nat.min_le_left _ _) _) (hu c hc)
        rcases hkd with rfl | rfl
        · exact oneLt_tr (f := false) ra rb room hq
        · rw [keyLt'_oneType]
          exact oneLt_tr ra rb room hq
      by_cases hf : (fs[0]?.bind id).isSome = false
      · exact ⟨oneType', lt _ (.inr rfl), fun _ E Q hq => kind_mixed h1 (h2 hk) (fun z => by rw [hf] at z; cases z) fun _ => hq⟩
      · exact ⟨general', lt _ (.inl rfl), fun _ E Q hq => kind_mixed h1 (h2 hk) (fun _ => hq) fun z => absurd z hf⟩
  · refine SortsAt.data e' hal (.inl fun d hd => ?_) hu'
    obtain ⟨b, hb, rfl⟩ := List.mem_map.mp hd
    generalize ex : g b = x
    cases x with
    | nd l =>
    cases l with
    | nil => exact (hk ⟨b, hb, by rw [ex]; rfl⟩).elim
    | cons t r => exact ⟨dat t, dats r, by rw [dat, dats]⟩
end

/-! ### sorted of a tuple -/
section
variable {prog : Program} {w : World} {A : Around} {E : Value → Shared → Prop} {s : Shared}
/-- a tuple's items, taken into a list -/
theorem collect_tupT {l : Addr} {vs : List Value} {Q : List Value → Shared → Prop} (hl : s.heap.IsTuple l vs.toArray) (hz : vs.length ≤ sizeLine)
    (h : Q vs { s with heap := (s.heap.push (seqObj "list" #[] 0)).update s.heap.objs.size (Obj.mapSeq (· ++ vs.toArray)) }) : wpAny (model prog w) A (collect (.ref l)) Q E s := by
  obtain ⟨o, ho, hc, n, hd⟩ := id hl
  have hnew : (s.heap.push (seqObj "list" #[] 0)).get? s.heap.objs.size = some (seqObj "list" #[] 0) := Heap.get?_push_size _ rfl
  have hold : (s.heap.push (seqObj "list" #[] 0)).get? l = some o := Heap.get?_push_of_some _ ho
  have hfit : ((#[] : Array Value) ++ vs.toArray).size ≤ sizeLine + 1 := by simp only [Array.size_append, List.size_toArray, List.length_nil]; omega
  unfold collect
  refine wpAny_bind (wpAny_runValue (codeAny_builtin entry_proto_collect' ?_))
  show wpAny _ _ (do again (.builtin "list.__iadd__" ⟨[← newList [], .ref l], []⟩)) _ _ s
  refine wpAny_bind (wpAny_newList (wpAny_pure ⟨Code.quiet_builtin _ (by decide +kernel), codeAny_builtin entry_list_iadd' ?_⟩))
  show wpAny _ _ (Builtin.List.listExtendWith (.ref s.heap.objs.size) (.ref l) (.ref s.heap.objs.size)) _ _ { s with heap := s.heap.push (seqObj "list" #[] 0) }
  unfold Builtin.List.listExtendWith
  refine wpAny_bind (wpAny_typeOf (T := "tuple") ⟨o, hold, hc⟩ ?_)
  have ht : (Value.type "tuple" == Value.type "tuple") = true := by rfl
  rw [if_pos (by rw [ht]; simp)]
  refine wpAny_bind (listItems_at hold hd (wpAny_bind (listItems_at (xs := #[]) (n := 0) hnew rfl ?_)))
  rw [if_neg (by simp)]
  refine wpAny_bind (listUpdate_at (xs := #[]) (n := 0) hnew rfl (wpAny_pure ?_) (Nat.zero_le _) hfit)
  refine wpAny_bind (wpAny_load (get?_update_seq hnew _) ?_)
  have e : ((#[] : Array Value) ++ vs.toArray).toList = vs := by simp
  show wpAny _ _ (pure ((#[] : Array Value) ++ vs.toArray).toList) Q E _
  rw [e]
  exact wpAny_pure h
/-- .. sorted -/
theorem sorted_tupT {l : Addr} {vs : List Value} {κ : PyProof.Rows.KeyKind} {Q : Value → Shared → Prop} (hl : s.heap.IsTuple l vs.toArray) (S : SortsAt prog w A.in1.in1 { s with heap := sortingHeap (copyHeap s.heap vs) (s.heap.objs.size + 1) vs } κ vs) (hL : vs.length ≤ sizeLine)
    (h : Q (.ref (s.heap.objs.size + 1)) { s with heap := sortedAll s.heap vs (sortVals κ false vs vs).toArray }) : wpAny (model prog w) A (call (.builtin "sorted") [.ref l]) Q E s := by
  have hsz : ((s.heap.push (seqObj "list" #[] 0)).update s.heap.objs.size (Obj.mapSeq (· ++ vs.toArray))).objs.size = s.heap.objs.size + 1 := by rw [Heap.size_update, size_push']
  refine call_function_entry_kw kind_sorted plain_sorted entry_sorted (args_sorted1 _) ?_
  unfold Builtin.«sorted»
  refine wpAny_bind (m := checkCount "sorted" 1 1 _) (wpAny_pure (wpAny_bind (collect_tupT hl hL (wpAny_bind (wpAny_newList ?_ hL)))))
  show wpAny _ _ _ _ _ { s with heap := copyHeap s.heap vs }
  rw [hsz]
  refine wpAny_bind (wpAny_holding (wpAny_call_entry_kw slot_list_sort ⟨_, copyHeap_at s.heap vs, rfl⟩ entry_list_sort ?body (args_list_sort _)))
  case body =>
    refine wpAny_mono (list_sort_vals (s := { s with heap := copyHeap s.heap vs }) (P := fun f s' => f = .done (.ret .none) ∧ Q (.ref (s.heap.objs.size + 1)) s') (copyHeap_at s.heap vs) S hL ⟨rfl, h⟩) (fun f s' hf => ?_) fun _ _ e => e
    obtain ⟨rfl, hq⟩ := hf
    exact ⟨_, rfl, wpAny_pure ⟨_, rfl, hq⟩⟩
end

/-! ### the rules -/
open L2
section
variable {X : Cx}
theorem tr_room {A : Around} {t : Tr} (hu : A.units + 64 < cLine) (h : t.ht ≤ 30) : A.units + 2 + (dat t).depth < cLine := by rw [dat_depth]; omega
/-- a < b of trees -/
def rLtTr : R2 := fun x y H Q => ∃ a b, TrAt H x a ∧ TrAt H y b ∧ a.ht ≤ 30 ∧ Q (.bl (tlt a b)) H
theorem op_ltTr (hu : X.A.units + 64 < cLine) : OpR X (compareOp .Lt) rLtTr := by
  intro pins s σ H x y v u Q I rx ry h
  obtain ⟨a, b, ha, hb, hh, q⟩ := h
  obtain ⟨as, r1⟩ := Dp.reads I (dat a) x v (TrAt.dp a _ ha) rx
  obtain ⟨bs, r2⟩ := Dp.reads I (dat b) y u (TrAt.dp b _ hb) ry
  have room := tr_room (A := X.A) hu hh
  exact lt_data r1 r2 (dat_alike a b) (dat_none a) (by omega) ⟨.bl (tlt a b), H, I, rfl, q⟩
/-- == and != of trees' rows -/
theorem each_refs {h : Heap} : ∀ {ps : List (Addr × Tr)}, (∀ p ∈ ps, ∃ as, Reads h (.ref p.1) (dat p.2) as) → EachIs (fun v (p : Addr × Tr) => ∃ as, Reads h v (dat p.2) as) (ps.map fun p => Value.ref p.1) ps
  | [], _ => .nil
  | p :: ps, h => .cons (h p List.mem_cons_self) (each_refs fun q hq => h q (List.mem_cons_of_mem _ hq))
theorem each_same : ∀ (ps : List (Addr × Tr)), EachIs (fun v (p : Addr × Tr) => v = Value.ref p.1) (ps.map fun p => Value.ref p.1) ps
  | [] => .nil
  | p :: ps => .cons rfl (each_same ps)
theorem each_out : ∀ {out : List Value} {ps : List (Addr × Tr)}, EachIs (fun v (p : Addr × Tr) => v = Value.ref p.1) out ps → out = ps.map fun p => Value.ref p.1
  | _, _, .nil => rfl
  | _, _, .cons e t => by rw [e, each_out t]; rfl
/-- sorted(xs), xs a list of trees -/
def rSortTr (K : PySem.W.Frag) : List V → Hp → VK → Prop := fun vs H Q => ∃ (l : Addr) (xs : List V) (ts : List Tr), vs = [.ref l] ∧ (SqL K H l xs ∨ SqT K H l xs) ∧ TrsAt H xs ts ∧ (∀ t ∈ ts, t.ht ≤ 30) ∧ ts.length ≤ sizeLine ∧
  ∀ p ys, H p = none → TrsAt H ys (tsort ts) → Q (.ref p) (L2.upd H p (.lst ys))
theorem tsort_map (ps : List (Addr × Tr)) : (ps.mergeSort (dataLe false fun p => dat p.2)).map (·.2) = tsort (ps.map (·.2)) := by
  refine sort_maps (fun p : Addr × Tr => p.2) (l := ps) fun a _ b _ => ?_
  show (!(PyProof.Rows.lexLt itemOrd (keyToks (dat b.2)) (keyToks (dat a.2)))) = !tlt b.2 a.2
  rfl
theorem refs_vals : ∀ (ps : List (Addr × Tr)), Vals (ps.map fun p => V.ref p.1) (ps.map fun p => Value.ref p.1)
  | [] => .nil
  | p :: ps => .cons rfl (refs_vals ps)
theorem vals_refs : ∀ {ps : List (Addr × Tr)} {us : List Value}, Vals (ps.map fun p => V.ref p.1) us → us = ps.map fun p => Value.ref p.1
  | [], _, r => by cases r; rfl
  | p :: ps, _, r => by
    cases r with
    | cons h t =>
      cases h
      rw [vals_refs t]
      rfl
theorem cr_sortTr (hu : X.A.units + 64 < cLine) : CallR X (.builtin "sorted") (rSortTr X.K) := by
  intro pins s σ H vs us Q I r h
  obtain ⟨l, xs, ts, rfl, hl, ht, hh, hz, q⟩ := h
  obtain ⟨u, rfl, ru⟩ := vals1 r
  obtain rfl : u = .ref l := ru
  obtain ⟨ps, rfl, rfl, hp⟩ := ht.pairs
  have hn : H (s.heap.objs.size + 1) = none := I.hok.fresh (Nat.le_succ _)
  have er0 : ∀ p ∈ ps, ∃ as, Reads s.heap (.ref p.1) (dat p.2) as := fun p hm => TrAt.reads I (hp p hm)
  have lens : (ps.map fun p => Value.ref p.1).length = ps.length := List.length_map _
  have hz' : ps.length ≤ sizeLine := by rw [List.length_map] at hz; exact hz
  have er : EachIs (fun v (p : Addr × Tr) => ∃ as, Reads (sortingHeap (copyHeap s.heap (ps.map fun p => Value.ref p.1)) (s.heap.objs.size + 1) (ps.map fun p => Value.ref p.1)) v (dat p.2) as) (ps.map fun p => Value.ref p.1) ps :=
    (each_refs er0).mono fun _ _ ⟨as, rd⟩ => ⟨as, PyProof.Rows.Reads.keeps (fun _ _ => sorting_copy_old) rd⟩
  have S : SortsAt X.prog X.w X.A.in1.in1 { s with heap := sortingHeap (copyHeap s.heap (ps.map fun p => Value.ref p.1)) (s.heap.objs.size + 1) (ps.map fun p => Value.ref p.1) }
      (dataKind (sortingHeap (copyHeap s.heap (ps.map fun p => Value.ref p.1)) (s.heap.objs.size + 1) (ps.map fun p => Value.ref p.1)) (ps.map fun p => dat p.2)) (ps.map fun p => Value.ref p.1) :=
    sorts_tr (s := { s with heap := sortingHeap (copyHeap s.heap (ps.map fun p => Value.ref p.1)) (s.heap.objs.size + 1) (ps.map fun p => Value.ref p.1) }) (fun p : Addr × Tr => p.2) er fun p hm => by
      have := tr_room (A := X.A) hu (hh p.2 (List.mem_map_of_mem hm))
      simp only [Around.in1_units]
      omega
  have out := sortVals_data (h' := sortingHeap (copyHeap s.heap (ps.map fun p => Value.ref p.1)) (s.heap.objs.size + 1) (ps.map fun p => Value.ref p.1)) false (each_same ps) er (dats_all (fun p : Addr × Tr => p.2) ps)
  have out' := each_out out
  have fin : EP X pins σ Q (.ref (s.heap.objs.size + 1)) { s with heap := sortedAll s.heap (ps.map fun p => Value.ref p.1) (sortVals (dataKind (sortingHeap (copyHeap s.heap (ps.map fun p => Value.ref p.1)) (s.heap.objs.size + 1) (ps.map fun p => Value.ref p.1)) (ps.map fun p => dat p.2)) false (ps.map fun p => Value.ref p.1) (ps.map fun p => Value.ref p.1)).toArray } := by
    obtain ⟨c, hc⟩ := sortedAll_at s.heap (ps.map fun p => Value.ref p.1) (sortVals (dataKind (sortingHeap (copyHeap s.heap (ps.map fun p => Value.ref p.1)) (s.heap.objs.size + 1) (ps.map fun p => Value.ref p.1)) (ps.map fun p => dat p.2)) false (ps.map fun p => Value.ref p.1) (ps.map fun p => Value.ref p.1)).toArray
    have hm : ∀ p ∈ ps.mergeSort (dataLe false fun p => dat p.2), p ∈ ps := fun p hp' => (List.mergeSort_perm _ _).mem_iff.mp hp'
    have hT : TrsAt H ((ps.mergeSort (dataLe false fun p => dat p.2)).map fun p => V.ref p.1) (tsort (ps.map (·.2))) := by
      rw [← tsort_map]
      exact TrsAt.of_pairs fun p hp' => hp p (hm p hp')
    refine ⟨.ref (s.heap.objs.size + 1), L2.upd H (s.heap.objs.size + 1) (.lst ((ps.mergeSort (dataLe false fun p => dat p.2)).map fun p => V.ref p.1)),
      I.laid (t' := s.toks) (fun b o e => sortedAll_old e) (Nat.le_succ _) ⟨by rw [List.length_map, List.length_mergeSort]; exact hz', (ps.mergeSort (dataLe false fun p => dat p.2)).map fun p => Value.ref p.1, c, refs_vals _, ?_⟩, rfl, q _ _ hn hT⟩
    rw [hc, out']
  rcases hl with hl | hl
  · obtain ⟨its, rv, pl, _⟩ := I.list hl
    rw [vals_refs rv] at pl
    exact sorted_vals pl.isList S (by rw [lens]; exact hz') fin
  · obtain ⟨its, rv, pl, _⟩ := I.tuple hl
    rw [vals_refs rv] at pl
    exact sorted_tupT pl S (by rw [lens]; exact hz') fin
end
end K59
end

section
set_option Elab.async false
set_option linter.all false
set_option maxRecDepth 100000
set_option maxHeartbeats 4000000
/-! A dict whose keys are trees (tuples of tuples), whose values are truth values. -/
namespace K59
open PySem PyProof.Rows L2

/-- a line of the dict: the key, where its tuple stands, the value -/
abbrev Row := Tr × Addr × Bool
def rawRows (m : List Row) : List (NestedKey × Addr × Value) := m.map fun x => (tkey x.1, x.2.1, Value.bool x.2.2)
/-- the dict's own object -/
def RawN (P : Program) (w : World) (h : Heap) (a : Addr) (m : List Row) : Prop :=
  (a == sysModules) = false ∧ m.length ≤ sizeLine ∧ (m.map (·.1)).Nodup ∧ ∃ o es ep, h.get? a = some o ∧ o.ExactDict ∧ o.data = .dict es ep ∧ es.toList = (rawRows m).map (entryOfKey (nestedKind P w))
theorem RawN.at' {P : Program} {w : World} {h h' : Heap} {a : Addr} {m : List Row} (r : RawN P w h a m) (k : ∀ o, h.get? a = some o → h'.get? a = some o) : RawN P w h' a m := by
  obtain ⟨h1, h2, h3, o, es, ep, h4, h5⟩ := r
  exact ⟨h1, h2, h3, o, es, ep, k o h4, h5⟩
def DNO (P : Program) (w : World) (a : Addr) (m : List Row) : HO := .ext fun h => RawN P w h a m
theorem dno_ok {P : Program} {w : World} {H : Hp} {h : Heap} {a : Addr} {m : List Row} (r : RawN P w h a m) : ObjOk P w H h a (DNO P w a m) := by
  refine ⟨r, ?_, fun h1 h2 p k => p.at' k⟩
  obtain ⟨_, _, _, o, _, _, h4, _⟩ := r
  exact ⟨o, h4⟩
/-- the dict at a in the abstract heap -/
structure KnownAt (P : Program) (w : World) (H : Hp) (a : Addr) (m : List Row) : Prop where
  ob : H a = some (DNO P w a m)
  keys : ∀ x ∈ m, TrAt H (.ref x.2.1) x.1
  low : ∀ x ∈ m, x.1.ht ≤ 7
theorem rawRows_keys (m : List Row) : (rawRows m).map (·.1) = (m.map (·.1)).map tkey := by
  unfold rawRows
  rw [List.map_map, List.map_map]
  rfl
theorem nodup_keys {l : List Tr} (h : l.Nodup) : (l.map tkey).Nodup := by
  rw [List.Nodup, List.pairwise_map]
  exact List.Pairwise.imp (fun {a b} hne e => hne (tkey_inj a b e)) h
/-- what stands at a key -/
def lookN (m : List Row) (t : Tr) : Option Row := m.find? fun x => decide (tkey x.1 = tkey t)
theorem lookN_some {m : List Row} {t : Tr} {x : Row} (h : lookN m t = some x) : x ∈ m ∧ x.1 = t := by
  have h1 := List.mem_of_find?_eq_some h
  have h2 := List.find?_some h
  exact ⟨h1, tkey_inj _ _ (of_decide_eq_true h2)⟩
theorem lookN_none {m : List Row} {t : Tr} (h : lookN m t = none) : t ∉ m.map (·.1) := fun hm => by
  obtain ⟨x, hx, e⟩ := List.mem_map.mp hm
  have h1 := List.find?_eq_none.mp h x hx
  exact h1 (decide_eq_true (by rw [e]))
theorem atKey_raw (m : List Row) (t : Tr) : atKey (rawRows m) (tkey t) = (lookN m t).map fun x => (x.2.1, Value.bool x.2.2) := by
  induction m with
  | nil => rfl
  | cons x m ih =>
    by_cases e : tkey x.1 = tkey t
    · simp [atKey, rawRows, lookN, List.find?_cons, e]
    · unfold atKey rawRows lookN at ih ⊢
      rw [List.map_cons, List.find?_cons_of_neg (by simpa using e), List.find?_cons_of_neg (by simpa using e)]
      exact ih
section
variable {X : Cx} {pins : List (Addr × Obj)} {σ : L2.St} {H : Hp} {s : Shared} {a b : Addr} {m : List Row} {t : Tr} {A : Around} {E : Value → Shared → Prop}
theorem KnownAt.dict (I : Inv X pins σ H s) (d : KnownAt X.prog X.w H a m) : (a == sysModules) = false ∧ m.length ≤ sizeLine ∧ s.heap.DictOfH (nestedKind X.prog X.w) a (rawRows m) := by
  have r : RawN X.prog X.w s.heap a m := (I.hok a _ d.ob).1
  obtain ⟨h1, h2, h3, o, es, ep, h4, h5, h6, h7⟩ := r
  refine ⟨h1, h2, o, es, ep, h4, h5, h6, h7, fun x hx => ?_, ?_⟩
  · obtain ⟨y, hy, rfl⟩ := List.mem_map.mp hx
    refine ⟨TrAt.key I y.1 _ _ (d.keys y hy) rfl, ?_⟩
    rw [tkey_depth]
    have := d.low y hy
    omega
  · rw [rawRows_keys]
    exact nodup_keys h3
theorem key_is (I : Inv X pins σ H s) (h : TrAt H (.ref b) t) (hh : t.ht ≤ 7) : (nestedKind X.prog X.w).is s.heap (tkey t) b :=
  ⟨TrAt.key I t _ _ h rfl, by rw [tkey_depth]; omega⟩
theorem n_room (hu : A.units + 64 < cLine) : (nestedKind X.prog X.w).room A.in1 := by
  show A.in1.units + 8 < cLine
  rw [Around.in1_units]
  omega
end
/-- {} -/
def tDNewN (P : Program) (w : World) : TE := fun _ H Q => ∀ p, H p = none → Q (.ref p) (L2.upd H p (DNO P w p []))
/-- y not in d -/
def tNotInN (P : Program) (w : World) (ty td : TE) : TE := fun σ H Q => ty σ H fun y H1 => td σ H1 fun x H2 => ∃ a b m t, x = .ref a ∧ y = .ref b ∧ KnownAt P w H2 a m ∧ TrAt H2 (.ref b) t ∧ t.ht ≤ 7 ∧ Q (.bl (!(lookN m t).isSome)) H2
/-- d[y] -/
def tGetN (P : Program) (w : World) (td ty : TE) : TE := fun σ H Q => td σ H fun x H1 => ty σ H1 fun y H2 => ∃ a b m t r, x = .ref a ∧ y = .ref b ∧ KnownAt P w H2 a m ∧ TrAt H2 (.ref b) t ∧ t.ht ≤ 7 ∧ lookN m t = some r ∧ Q (.bl r.2.2) H2
/-- d[y] = v, y not there so far -/
def sPutN (P : Program) (w : World) (td ty tv : TE) : TS := fun D σ H => tv σ H fun v H1 => td σ H1 fun x H2 => ty σ H2 fun y H3 => ∃ a b m t k, v = .bl k ∧ x = .ref a ∧ y = .ref b ∧ KnownAt P w H3 a m ∧ TrAt H3 (.ref b) t ∧ t.ht ≤ 7 ∧ lookN m t = none ∧ m.length < sizeLine ∧
  (KnownAt P w (L2.upd H3 a (DNO P w a (m ++ [(t, b, k)]))) a (m ++ [(t, b, k)]) → D.nx σ (L2.upd H3 a (DNO P w a (m ++ [(t, b, k)]))))
section
variable {X : Cx} {o i e value : Expr} {pos pos' : Pos} {td ty tv : TE}
theorem pe_dnewN : PE X (.Dict [] [] pos) (tDNewN X.prog X.w) := by
  refine ⟨fun pins s σ H Q I h => ?_⟩
  have hf := I.hok.fresh (Nat.le_refl s.heap.objs.size)
  refine wpAny_Dict_empty ⟨.ref s.heap.objs.size, _, I.laid (a := s.heap.objs.size) (o := DNO X.prog X.w s.heap.objs.size []) (t' := s.toks) (fun _ _ q => Heap.get?_push_of_some _ q) (Nat.le_refl _) (dno_ok ?_), rfl, h _ hf⟩
  exact ⟨beq_eq_false_iff_ne.mpr (Ne.symm (Nat.ne_of_lt I.big)), Nat.zero_le _, List.nodup_nil, _, #[], 0, Heap.get?_push_size _ rfl, ⟨rfl, rfl, rfl⟩, rfl, rfl⟩
theorem pc_notInN (hu : X.A.units + 64 < cLine) (hi : PE X i ty) (ho : PE X o td) : PC X .NotIn i o (tNotInN X.prog X.w ty td) := by
  refine ⟨fun pins s σ H Q I h => ?_⟩
  refine thn (hi.run pins s σ H _ I h) fun iv s1 ⟨y, H1, I1, ry, q1⟩ => thn (ho.run pins s1 σ H1 _ I1 q1) fun u s2 ⟨x, H2, I2, rx, a, b, m, t, ex, ey, d, ht, hh, q2⟩ => ?_
  subst ex ey
  obtain rfl : u = Value.ref a := rx
  obtain rfl : iv = Value.ref b := ry
  obtain ⟨hd, _, dd⟩ := d.dict I2
  refine wpAny_notIn_heap (n_room hu) (key_is I2 ht hh) hd dd ?_
  rw [atKey_raw, Option.isSome_map]
  exact ⟨.bl _, H2, I2.tok _, rfl, q2⟩
theorem pe_getN (hu : X.A.units + 64 < cLine) (ho : PE X o td) (hi : PE X i ty) (hs : NoSl i) : PE X (.Subscript o i pos) (tGetN X.prog X.w td ty) := by
  refine ⟨fun pins s σ H Q I h => ?_⟩
  refine subD_of PySem.F.slot_dict_getitem.lookup hs (thn (ho.run pins s σ H _ I h) fun u s1 ⟨x, H1, I1, rx, q1⟩ => thn (hi.run pins s1 σ H1 _ I1 q1) fun iv s2 ⟨y, H2, I2, ry, a, b, m, t, r, ex, ey, d, ht, hh, hl, q2⟩ => ?_)
  subst ex ey
  obtain rfl : u = Value.ref a := rx
  obtain rfl : iv = Value.ref b := ry
  obtain ⟨hd, _, dd⟩ := d.dict I2
  have hp : atKey (rawRows m) (tkey t) = some (r.2.1, Value.bool r.2.2) := by rw [atKey_raw, hl]; rfl
  exact ⟨dd.typeIs, wpAny_getItem_heap (n_room hu) (key_is I2 ht hh) dd hp ⟨.bl r.2.2, H2, I2.tok _, rfl, q2⟩⟩
theorem ps_putN (hu : X.A.units + 64 < cLine) (ho : PE X o td) (hi : PE X i ty) (hv : PE X value tv) (hs : swapsWith value (some (.Subscript o i pos')) pos.line X.env = pure false) :
    PS X (.Assign [.Subscript o i pos'] value pos) (sPutN X.prog X.w td ty tv) := by
  refine ⟨fun pins s σ H D I h => ?_⟩
  refine wpAny_Assign_Subscript (thn (hv.run pins s σ H _ I h) fun r s1 ⟨v, H1, I1, rv, q1⟩ => thn (ho.run pins s1 σ H1 _ I1 q1) fun u s2 ⟨x, H2, I2, rx, q2⟩ =>
    thn (hi.run pins s2 σ H2 _ I2 q2) fun iv s3 ⟨y, H3, I3, ry, a, b, m, t, k, ev, ex, ey, d, ht, hh, hl, hz, q3⟩ => ?_) hs
  subst ev ex ey
  obtain rfl : u = Value.ref a := rx
  obtain rfl : iv = Value.ref b := ry
  obtain rfl : r = Value.bool k := rv
  obtain ⟨hd, hz2, dd⟩ := d.dict I3
  have hat : atKey (rawRows m) (tkey t) = none := by rw [atKey_raw, hl]; rfl
  have hst : storedH (rawRows m) (tkey t) b (Value.bool k) = rawRows (m ++ [(t, b, k)]) := by
    rw [storedH_new hat]
    unfold rawRows
    rw [List.map_append]
    rfl
  refine wpAny_setItem_heap (hsz := by unfold rawRows; rw [List.length_map]; exact hz2) (n_room hu) (key_is I3 ht hh) dd fun h' dd' sb => ?_
  rw [hst] at dd'
  obtain ⟨o', es, ep, g1, g2, g3, g4, _, _⟩ := dd'
  have nd : ((m ++ [(t, b, k)]).map (·.1)).Nodup := by
    have r0 : RawN X.prog X.w s3.heap a m := (I3.hok a _ d.ob).1
    rw [List.map_append, List.nodup_append]
    refine ⟨r0.2.2.1, by simp, fun u hu v hv e => ?_⟩
    rw [List.map_cons, List.map_nil, List.mem_singleton] at hv
    subst e
    exact lookN_none hl (by rw [hv] at hu; exact hu)
  have tu : Tups H3 (L2.upd H3 a (DNO X.prog X.w a (m ++ [(t, b, k)]))) := tups_upd fun xs z => by rw [d.ob] at z; cases z
  have kn : KnownAt X.prog X.w (L2.upd H3 a (DNO X.prog X.w a (m ++ [(t, b, k)]))) a (m ++ [(t, b, k)]) := by
    refine ⟨upd_same, fun x hx => ?_, fun x hx => ?_⟩
    · rcases List.mem_append.mp hx with z | z
      · exact (d.keys x z).tups tu
      · rw [List.mem_singleton.mp z]; exact ht.tups tu
    · rcases List.mem_append.mp hx with z | z
      · exact d.low x z
      · rw [List.mem_singleton.mp z]; exact hh
  refine ⟨σ, _, d_write I3 (by rw [d.ob]; exact True.intro) sb ⟨o', g1⟩ (dno_ok ⟨hd, ?_, nd, o', es, ep, g1, g2, g3, g4⟩), q3 kn⟩
  rw [List.length_append]
  exact hz
end
end K59
end

section
set_option Elab.async false
set_option linter.all false
set_option maxRecDepth 100000
set_option maxHeartbeats 4000000
/-! Sets of a few trees (at most four): set(xs), sorted of it. -/
namespace K59
open PySem PyProof.Rows L2

/-- hash(t) -/
def hsh (w : World) (t : Tr) : Int := (tkey t).hash w
def IsK (h : Heap) (t : Tr) (a : Addr) : Prop := NestedIs h (tkey t) (.ref a) ∧ t.ht ≤ 7
theorem IsK.keep {h h' : Heap} {t : Tr} {a : Addr} (x : IsK h t a) (k : ∀ b o, h.get? b = some o → h'.get? b = some o) : IsK h' t a :=
  ⟨NestedIs.at (fun b o _ _ e _ => k b o e) _ _ x.1, x.2⟩
theorem IsK.but {h h' : Heap} {t : Tr} {a S : Addr} {o : Obj} {es : Array (Int × Value)} {ep : Nat} {tb : SetTable} (x : IsK h t a) (ho : h.get? S = some o) (hd : o.data = .set es ep tb) (sb : Heap.SameBut S h h') : IsK h' t a := by
  refine ⟨NestedIs.at (fun b ob vs n e ed => ?_) _ _ x.1, x.2⟩
  refine (sb.2 b fun z => ?_).trans e
  rw [z, ho] at e
  cases e
  rw [hd] at ed
  cases ed
theorem IsK.one {h : Heap} {t u : Tr} {a : Addr} (x : IsK h t a) (y : IsK h u a) : t = u := tkey_inj _ _ (NestedIs.inj _ _ _ x.1 y.1)

section
variable {P : Program} {w : World} {s : Shared}
mutual
/-- a tree's tuples are of no class statement -/
theorem noClass : ∀ (t : Tr) (n : Nat) (v : Value), NestedIs s.heap (tkey t) v → t.ht < n → ∀ (A : Around) (E : Value → Shared → Prop) (Q : Bool → Shared → Prop), Q false s → wpAny (model P w) A (ofAClassStatement n v) Q E s
  | .nd l, 0, _, _, hn, _, _, _, _ => absurd hn (Nat.not_lt_zero _)
  | .nd l, n + 1, v, x, hn, A, E, Q, h => by
    rw [tkey] at x
    rw [Tr.ht] at hn
    cases x with
    | @tup a o vs m ks h1 h2 h3 h4 =>
    have hT : s.TypeIs (.ref a) "tuple" := ⟨o, h1, h2⟩
    have e : (("tuple" : String) == "tuple") = true := by decide
    unfold ofAClassStatement
    refine wpAny_bind (wpAny_typeOf hT ?_)
    dsimp only
    simp only [e, if_true, Bool.not_true, Bool.false_eq_true, if_false]
    try refine wpAny_bind (wpAny_pure ?_)
    try simp only [Bool.not_true, Bool.false_eq_true, if_false]
    refine wpAny_bind (wpAny_seqItems h1 h3 ?_)
    dsimp only
    refine wpAny_bind ?_
    show wpAny _ _ (forIn vs _ _) _ _ s
    rw [← Array.forIn_toList]
    have each := noClasses l n vs.toList h4 (by omega)
    refine wpAny_forIn_list _ (fun rest r s' => r.1 = none ∧ s' = s ∧ ∀ u ∈ rest, u ∈ vs.toList) _ ?_ ?_ _ _ ⟨rfl, rfl, fun u hu => hu⟩
    · rintro u rest r s' ⟨hr, rfl, hall⟩
      refine wpAny_bind (each u (hall u List.mem_cons_self) _ _ _ ?_)
      simp only [Bool.false_eq_true, if_false]
      exact wpAny_pure ⟨rfl, rfl, fun z hz => hall z (List.mem_cons_of_mem _ hz)⟩
    · rintro ⟨r1, r2⟩ s' ⟨hr, rfl, _⟩
      simp only at hr
      subst hr
      exact wpAny_pure h
theorem noClasses : ∀ (l : List Tr) (n : Nat) (us : List Value), NestedAll s.heap (tkeys l) us → Tr.hts l ≤ n → ∀ u ∈ us, ∀ (A : Around) (E : Value → Shared → Prop) (Q : Bool → Shared → Prop), Q false s → wpAny (model P w) A (ofAClassStatement n u) Q E s
  | [], n, us, x, hn, u, hu => by
    rw [tkeys] at x
    cases x
    cases hu
  | t :: l, n, us, x, hn, u, hu => by
    rw [tkeys] at x
    rw [Tr.hts] at hn
    cases x with
    | cons x1 x2 =>
    rcases List.mem_cons.mp hu with e | hu
    · rw [e]; exact noClass t n _ x1 (by omega)
    · exact noClasses l n _ x2 (by omega) u hu
end
mutual
/-- a tree's hash hangs on its value -/
theorem byVal : ∀ (t : Tr) (n : Nat) (v : Value), NestedIs s.heap (tkey t) v → t.ht < n → ∀ (A : Around) (E : Value → Shared → Prop) (Q : Bool → Shared → Prop), Q true s → wpAny (model P w) A (hashByValue n v) Q E s
  | .nd l, 0, _, _, hn, _, _, _, _ => absurd hn (Nat.not_lt_zero _)
  | .nd l, n + 1, v, x, hn, A, E, Q, h => by
    rw [tkey] at x
    rw [Tr.ht] at hn
    cases x with
    | @tup a o vs m ks h1 h2 h3 h4 =>
    have hT : s.TypeIs (.ref a) "tuple" := ⟨o, h1, h2⟩
    unfold hashByValue
    refine wpAny_bind (wpAny_specialOf hT F.slot_tuple_hash.lookup ?_)
    refine wpAny_bind (wpAny_seqItems h1 h3 ?_)
    refine wpAny_bind ?_
    show wpAny _ _ (forIn vs _ _) _ _ s
    rw [← Array.forIn_toList]
    have each := byVals l n vs.toList h4 (by omega)
    refine wpAny_forIn_list _ (fun rest r s' => r.1 = none ∧ s' = s ∧ ∀ u ∈ rest, u ∈ vs.toList) _ ?_ ?_ _ _ ⟨rfl, rfl, fun u hu => hu⟩
    · rintro u rest r s' ⟨hr, rfl, hall⟩
      refine wpAny_bind (each u (hall u List.mem_cons_self) _ _ _ ?_)
      simp only [Bool.not_true, Bool.false_eq_true, if_false]
      exact wpAny_pure ⟨rfl, rfl, fun z hz => hall z (List.mem_cons_of_mem _ hz)⟩
    · rintro ⟨r1, r2⟩ s' ⟨hr, rfl, _⟩
      simp only at hr
      subst hr
      exact wpAny_pure h
theorem byVals : ∀ (l : List Tr) (n : Nat) (us : List Value), NestedAll s.heap (tkeys l) us → Tr.hts l ≤ n → ∀ u ∈ us, ∀ (A : Around) (E : Value → Shared → Prop) (Q : Bool → Shared → Prop), Q true s → wpAny (model P w) A (hashByValue n u) Q E s
  | [], n, us, x, hn, u, hu => by
    rw [tkeys] at x
    cases x
    cases hu
  | t :: l, n, us, x, hn, u, hu => by
    rw [tkeys] at x
    rw [Tr.hts] at hn
    cases x with
    | cons x1 x2 =>
    rcases List.mem_cons.mp hu with e | hu
    · rw [e]; exact byVal t n _ x1 (by omega)
    · exact byVals l n _ x2 (by omega) u hu
end
variable {A : Around} {E : Value → Shared → Prop}
theorem quietK {t : Tr} {a : Addr} (x : IsK s.heap t a) {Q : Bool → Shared → Prop} (h : Q true s) : wpAny (model P w) A (eqIsQuiet 8 (.ref a)) Q E s :=
  quiet_key (tkey t) _ 8 s x.1 (by rw [tkey_depth]; have := x.2; omega) A E Q h
/-- a search among trees shows nothing -/
theorem unseen {t : Tr} {a : Addr} (x : IsK s.heap t a) {ys : List Value} (hy : ∀ y ∈ ys, ∃ u c, y = Value.ref c ∧ IsK s.heap u c) {Q : Bool → Shared → Prop} (h : Q false s) : wpAny (model P w) A (searchCouldBeSeen (.ref a) ys) Q E s := by
  unfold searchCouldBeSeen
  refine wpAny_bind (wpAny_forIn_list _ (fun rest r s' => r.1 = none ∧ s' = s ∧ ∀ y ∈ rest, ∃ u c, y = Value.ref c ∧ IsK s.heap u c) _ ?_ ?_ _ _ ⟨rfl, rfl, hy⟩)
  · rintro v rest r s' ⟨hr, rfl, hall⟩
    obtain ⟨u, c, rfl, y⟩ := hall v List.mem_cons_self
    have more : ∀ y ∈ rest, ∃ u c, y = Value.ref c ∧ IsK s'.heap u c := fun z hz => hall z (List.mem_cons_of_mem _ hz)
    dsimp only
    by_cases hv : (a == c || (carriedByValue (.ref a) && carriedByValue (.ref c))) = true
    · exact wp_if_pos hv (wpAny_pure ⟨rfl, rfl, more⟩)
    · refine wp_if_neg hv (wpAny_bind (quietK x ?_))
      simp only [Bool.not_true, Bool.false_eq_true, if_false]
      refine wpAny_bind (quietK y ?_)
      simp only [Bool.not_true, Bool.false_eq_true, if_false]
      refine wpAny_bind (noClass t 8 _ x.1 (by have := x.2; omega) _ _ _ ?_)
      simp only [Bool.false_eq_true, if_false]
      refine wpAny_bind (noClass u 8 _ y.1 (by have := y.2; omega) _ _ _ ?_)
      simp only [Bool.false_eq_true, if_false]
      exact wpAny_pure ⟨rfl, rfl, more⟩
  · rintro ⟨r1, r2⟩ s' ⟨hr, rfl, _⟩
    simp only at hr
    subst hr
    exact wpAny_pure h
theorem eqK {t u : Tr} {a b : Addr} (x : IsK s.heap t a) (y : IsK s.heap u b) (hu : A.units + 20 < cLine) {Q : Bool → Shared → Prop} (h : ∀ k, (k = true ↔ t = u) → Q k s) : wpAny (model P w) A (eqBool (.ref a) (.ref b)) Q E s := by
  refine eqAt_key (tkey t) (tkey u) A s _ _ x.1 y.1 ?_ _ _ _ _ (h _ ⟨fun z => tkey_inj _ _ (NestedKey.eq_of_beq _ _ z), fun z => by rw [z]; exact NestedKey.beq_self _⟩)
  rw [tkey_depth, tkey_depth]
  have := x.2
  omega

/-! ### the set -/
def setRows (w : World) (L : List (Addr × Tr)) : List (Int × Value) := L.map fun p => (hsh w p.2, Value.ref p.1)
structure SetN (w : World) (h : Heap) (a : Addr) (L : List (Addr × Tr)) (es : Array (Int × Value)) (ep : Nat) (t : SetTable) : Prop where
  ob : ∃ o, h.get? a = some o ∧ o.ExactSet ∧ o.data = .set es ep t
  rows : es.toList = setRows w L
  tab : TabOk t (L.map fun p => hsh w p.2)
  nd : (L.map (·.2)).Nodup
  tr : ∀ p ∈ L, IsK h p.2 p.1
  plain : t.plain = true
  led : w.params.followText "set-order" = true ∨ t.led = true
  mask : t.mask = 7
  few : L.length ≤ 4
variable {a : Addr} {L : List (Addr × Tr)} {es : Array (Int × Value)} {ep : Nat} {t : SetTable}
theorem SetN.size {h : Heap} (R : SetN w h a L es ep t) : es.size = L.length := by
  rw [← Array.length_toList, R.rows]
  exact List.length_map _
theorem SetN.psize {h : Heap} (R : SetN w h a L es ep t) : t.place.size = L.length := by rw [R.tab.sz, List.length_map]
theorem SetN.fits {h : Heap} (R : SetN w h a L es ep t) : t.fits es.size = true := by
  have h1 := R.psize
  have h2 := R.size
  have h3 := R.few
  have h4 := R.mask
  unfold SetTable.fits SetTable.fill
  rw [R.tab.dm, Bool.and_eq_true, beq_iff_eq, decide_eq_true_eq]
  refine ⟨by omega, ?_⟩
  show t.place.size + 0 ≤ t.mask
  omega
theorem SetN.entry {h : Heap} (R : SetN w h a L es ep t) {i : Nat} {p : Addr × Tr} (e : L[i]? = some p) : es[i]? = some (hsh w p.2, Value.ref p.1) := by
  rw [← Array.getElem?_toList, R.rows]
  unfold setRows
  rw [List.getElem?_map, e]
  rfl
/-- where the search for a tree begins -/
abbrev beg (m : Nat) (h : Int) : SetTable.Probe := runAt m (SetTable.bits h % (m + 1)) (SetTable.bits h)
theorem nth_clean (m : Nat) : ∀ (n : Nat) (p : SetTable.Probe), p.dummy = none → (nth m p n).dummy = none
  | 0, _, h => h
  | n + 1, p, h => nth_clean m n (adv m p) (by unfold adv; split <;> exact h)
/-- the search, from its c-th step on -/
theorem findN (R : SetN w s.heap a L es ep t) {x : Addr} {k : Tr} (hx : IsK s.heap k x) (hu : A.units + 20 < cLine) {K : Nat} (hKf : K < 10 * SetTable.turns t.mask)
    (hK : way t.mask (hsh w k) K ∉ t.place.toList) (hKb : ∀ c, c < K → way t.mask (hsh w k) c ∈ t.place.toList) {Q : SetFound → Shared → Prop}
    (hin : k ∈ L.map (·.2) → Q (.there none) s) (hout : k ∉ L.map (·.2) → Q (.free (way t.mask (hsh w k) K) false) s) :
    ∀ (f c : Nat) (stand : Option SetTable.Probe), stand.getD (t.probeStart (hsh w k)) = nth t.mask (beg t.mask (hsh w k)) c → c ≤ K → K - c < f →
      (∀ (i : Nat) p, L[i]? = some p → p.2 = k → ∃ c', c ≤ c' ∧ c' < K ∧ t.place.toList[i]? = some (way t.mask (hsh w k) c')) →
      wpAny (model P w) A (setSearchFrom a (.ref x) (hsh w k) true f stand) Q E s
  | 0, c, stand, _, _, hf, _ => absurd hf (Nat.not_lt_zero _)
  | f + 1, c, stand, hst, hc, hf, hre => by
    obtain ⟨o, ho, hex, hd⟩ := R.ob
    have hodd : ¬ t.gaveWay = true := by unfold SetTable.gaveWay; rw [R.mask]; decide
    have shift : ∀ q, nth t.mask (nth t.mask (beg t.mask (hsh w k)) c) q = nth t.mask (beg t.mask (hsh w k)) (c + q) := fun q => (nth_add t.mask c _ q).symm
    have sj : ∀ q, (nth t.mask (nth t.mask (beg t.mask (hsh w k)) c) q).j = way t.mask (hsh w k) (c + q) := fun q => congrArg SetTable.Probe.j (shift q)
    have hz : c + (K - c) = K := by omega
    have hash : ∀ (i : Nat) p, L[i]? = some p → (es[i]?.map (·.1)).getD 0 = hsh w p.2 := fun i p hp => by rw [R.entry hp]; rfl
    have spec := go_spec t R.tab.ris R.tab.dm (fun i => (es[i]?.map (·.1)).getD 0) (hsh w k) (10 * SetTable.turns t.mask) (K - c) _ (nth_clean t.mask c _ rfl) (by omega)
      (fun q hq => by rw [sj]; exact hKb (c + q) (by omega)) (by rw [sj, hz]; exact hK)
    rw [setSearchFrom_succ]
    refine wpAny_bind (wpAny_setState_of ho hd R.fits ?_)
    dsimp only
    refine wp_if_neg hodd ?_
    try refine wpAny_bind (wpAny_pure ?_)
    rcases spec with ⟨q, i, hq, hi, hh, hno, hpr⟩ | ⟨hno, hpr⟩
    · have hpr' : t.probe (fun i => (es[i]?.map (·.1)).getD 0) (hsh w k) (stand.getD (t.probeStart (hsh w k))) = some (.candidate (way t.mask (hsh w k) (c + q)) i (nth t.mask (beg t.mask (hsh w k)) (c + (q + 1)))) := by
        rw [hst, ← sj, ← shift]
        exact hpr
      rw [hpr']
      dsimp only
      rw [sj] at hi
      have hil : i < L.length := by
        have h1 := (List.getElem?_eq_some_iff.mp hi).1
        rw [Array.length_toList, R.psize] at h1
        exact h1
      obtain ⟨p, hp⟩ : ∃ p, L[i]? = some p := ⟨_, List.getElem?_eq_getElem hil⟩
      have hmem : p ∈ L := List.mem_of_getElem? hp
      have hsl : t.slot (way t.mask (hsh w k) (c + q)) = .live i := slot_live R.tab.ris hi
      have rest : wpAny (model P w) A (searchRest a (.ref x) (hsh w k) true f es t (way t.mask (hsh w k) (c + q)) i (nth t.mask (beg t.mask (hsh w k)) (c + (q + 1)))) Q E s := by
        unfold searchRest
        rw [R.entry hp]
        dsimp only
        refine wpAny_bind (wpAny_holding (eqK (R.tr p hmem) hx hu fun e he => ?_))
        refine wpAny_bind (wpAny_setState_of ho hd R.fits ?_)
        dsimp only
        by_cases hkk : p.2 = k
        · have he1 : e = true := he.mpr hkk
          subst he1
          refine wp_if_pos (by simp) (wpAny_pure (hin (List.mem_map.mpr ⟨p, hmem, hkk⟩)))
        · have he1 : e = false := Bool.eq_false_iff.mpr fun z => hkk (he.mp z)
          subst he1
          refine wp_if_neg (by simp) ?_
          try refine wpAny_bind (wpAny_pure ?_)
          rw [sameMem]
          dsimp only
          simp only [if_true, hsl, R.entry hp]
          refine wpAny_bind (wpAny_isSame_ref_self (wpAny_bind (wpAny_pure ?_)))
          simp only [if_true]
          refine wp_if_neg (by simp) ?_
          refine findN R hx hu hKf hK hKb hin hout f (c + (q + 1)) _ rfl (by omega) (by omega) fun i0 p0 h0 hk0 => ?_
          obtain ⟨c', a1, a2, a3⟩ := hre i0 p0 h0 hk0
          refine ⟨c', ?_, a2, a3⟩
          apply Classical.byContradiction
          intro hlt
          rcases Nat.lt_or_ge c' (c + q) with z | z
          · refine hno (c' - c) i0 (by omega) ?_ ((hash i0 p0 h0).trans (congrArg (hsh w) hk0))
            rw [sj, show c + (c' - c) = c' by omega]
            exact a3
          · have ec : c' = c + q := by omega
            rw [ec] at a3
            have e2 := slot_live R.tab.ris a3
            rw [hsl] at e2
            injection e2 with e2
            subst e2
            rw [hp] at h0
            cases h0
            exact hkk hk0
      by_cases hl : t.led = true
      · refine wp_if_neg (by simp [hl]) ?_
        try refine wpAny_bind (wpAny_pure ?_)
        exact rest
      · refine wp_if_pos (by simp [hl]) (wpAny_bind (unseen hx (fun y hy => ?_) ?_))
        · obtain ⟨e, he, ee⟩ := List.mem_map.mp hy
          have he1 : e ∈ es ∧ e.1 = hsh w k := by simpa using he
          have he2 : e ∈ es.toList := by simpa using he1.1
          rw [R.rows] at he2
          obtain ⟨p2, hp2, e2⟩ := List.mem_map.mp he2
          exact ⟨p2.2, p2.1, by rw [← ee, ← e2], R.tr p2 hp2⟩
        · refine wp_if_neg (by decide) ?_
          try refine wpAny_bind (wpAny_pure ?_)
          exact rest
    · have hpr' : t.probe (fun i => (es[i]?.map (·.1)).getD 0) (hsh w k) (stand.getD (t.probeStart (hsh w k))) = some (.empty (way t.mask (hsh w k) K) none) := by
        have e2 := sj (K - c)
        rw [hz] at e2
        rw [hst, ← e2]
        exact hpr
      rw [hpr']
      dsimp only
      refine wpAny_pure (hout fun hm => ?_)
      obtain ⟨p0, h0, hk0⟩ := List.mem_map.mp hm
      obtain ⟨i0, h00⟩ := List.mem_iff_getElem?.mp h0
      obtain ⟨c', a1, a2, a3⟩ := hre i0 p0 h00 hk0
      refine hno (c' - c) i0 (by omega) ?_ ((hash i0 p0 h00).trans (congrArg (hsh w) hk0))
      rw [sj, show c + (c' - c) = c' by omega]
      exact a3
/-- putting a tree in -/
theorem addN (R : SetN w s.heap a L es ep t) {x : Addr} {k : Tr} (hx : IsK s.heap k x) (hu : A.units + 20 < cLine) (hfew : L.length + 1 ≤ 4) {Q : Bool → Shared → Prop}
    (hQ : ∀ b h' L' es' ep' t', Heap.SameBut a s.heap h' → SetN w h' a L' es' ep' t' → (k ∈ L.map (·.2) → L' = L) → (k ∉ L.map (·.2) → L'.Perm ((x, k) :: L)) → Q b { s with heap := h' }) :
    wpAny (model P w) A (setAddHashed a (.ref x) (hsh w k)) Q E s := by
  obtain ⟨o, ho, hex, hd⟩ := R.ob
  have hm7 := R.mask
  have hlL : (L.map fun p => hsh w p.2).length = L.length := List.length_map _
  obtain ⟨K, hKf, hK, hKb⟩ := R.tab.first (by rw [hlL, hm7]; omega) (hsh w k)
  have hturn : 10 * SetTable.turns t.mask ≤ 1420 := by
    unfold SetTable.turns
    rw [hm7]
    decide
  unfold setAddHashed
  refine wpAny_holding ?_
  rw [show (100000 : Nat) = 99999 + 1 from rfl, setAddHashedIn_succ]
  refine wpAny_bind (wpAny_setState_of ho hd R.fits ?_)
  dsimp only
  refine wp_if_neg (by simp [byScan, Value.scannable]) ?_
  try refine wpAny_bind (wpAny_pure ?_)
  unfold setSearch
  refine wpAny_bind (findN R hx hu hKf hK hKb (fun hm => ?_) (fun hm => ?_) 100000 0 none rfl (Nat.zero_le _) (by omega) fun i p hp hk => ?_)
  · dsimp only
    exact wpAny_pure (hQ false s.heap L es ep t (Heap.SameBut.refl a s.heap) R (fun _ => rfl) fun z => absurd hm z)
  · dsimp only
    refine wpAny_bind (wpAny_setState_of ho hd R.fits ?_)
    dsimp only
    obtain ⟨q1, q2, q3, q4, q5, q6, q7, q8, q9⟩ := R.tab.put hK hKb
    have hp1 : (t.put (way t.mask (hsh w k) K)).1.plain = true := by rw [q6]; exact R.plain
    generalize hpt : t.put (way t.mask (hsh w k) K) = pt at q1 q3 q4 q5 q6 q7 q8 q9 hp1 ⊢
    obtain ⟨t1, n⟩ := pt
    dsimp only at q1 q3 q4 q5 q6 q7 q8 q9 hp1 ⊢
    subst q1
    generalize hpp : SetTable.below t.place (way t.mask (hsh w k) K) = n at q2 q3 ⊢
    have hin : (SetTable.insertAt es n (hsh w k, Value.ref x)).toList = setRows w (L.take n ++ (x, k) :: L.drop n) := by
      rw [SetTable.toList_insertAt, R.rows]
      unfold setRows
      rw [List.map_append, List.map_cons, List.map_take, List.map_drop]
    have hhs : (L.take n ++ (x, k) :: L.drop n).map (fun p => hsh w p.2) = (L.map fun p => hsh w p.2).take n ++ hsh w k :: (L.map fun p => hsh w p.2).drop n := by
      rw [List.map_append, List.map_cons, List.map_take, List.map_drop]
    rw [← hhs] at q3
    have pm : (L.take n ++ (x, k) :: L.drop n).Perm ((x, k) :: L) := by
      have z : (L.take n ++ (x, k) :: L.drop n).Perm ((x, k) :: (L.take n ++ L.drop n)) := List.perm_middle
      rwa [List.take_append_drop] at z
    have hlen : (L.take n ++ (x, k) :: L.drop n).length = L.length + 1 := pm.length_eq
    generalize L.take n ++ (x, k) :: L.drop n = L1 at pm hlen q3 hin
    have hes : (SetTable.insertAt es n (hsh w k, Value.ref x)).size = L.length + 1 := by
      rw [← Array.length_toList, hin]
      unfold setRows
      rw [List.length_map, hlen]
    generalize SetTable.insertAt es n (hsh w k, Value.ref x) = es1 at hin hes ⊢
    have nd1 : (L1.map (·.2)).Nodup := by
      refine (pm.map (·.2)).nodup_iff.mpr ?_
      rw [List.map_cons]
      exact List.nodup_cons.mpr ⟨hm, R.nd⟩
    have bv := byVal (P := P) (w := w) k 8 _ hx.1 (by have := hx.2; omega) A E
    first
      | (refine wpAny_bind ?_; refine wp_if_pos hp1 ?_; refine bv _ ?_)
      | refine wp_if_pos hp1 (wpAny_bind (bv _ ?_))
    simp only [if_true]
    refine wpAny_bind (wpAny_storeSet_of ho hd ?_ (by rw [hes, sizeLine_eq]; omega))
    have sb : Heap.SameBut a s.heap (s.heap.update a (Obj.putSet es1 t1)) := Heap.SameBut.update ..
    have ho1 := store_at (es' := es1) (t' := t1) ho hd
    generalize s.heap.update a (Obj.putSet es1 t1) = h1 at sb ho1 ⊢
    have R1 : SetN w h1 a L1 es1 (ep + 1) t1 := by
      refine ⟨⟨_, ho1, ⟨hex.1, hex.2.1, hex.2.2⟩, rfl⟩, hin, q3, nd1, fun p hp => ?_, hp1, by rw [q5]; exact R.led, by rw [q4]; exact hm7, by rw [hlen]; exact hfew⟩
      rcases List.mem_cons.mp (pm.mem_iff.mp hp) with e | hp
      · rw [e]; exact hx.but ho hd sb
      · exact (R.tr p hp).but ho hd sb
    have hf : ¬ t1.tooFull = true := by
      unfold SetTable.tooFull
      rw [decide_eq_true_eq, q9, hlL, q4, hm7]
      omega
    first
      | refine wp_if_neg (by simp [hf]) ?_
      | (refine wpAny_bind ?_; refine wp_if_neg (by simp [hf]) ?_; refine wpAny_pure ?_)
    exact wpAny_pure (hQ true h1 L1 es1 (ep + 1) t1 sb R1 (fun z => absurd z hm) fun _ => pm)
  · have hi : (L.map fun p => hsh w p.2)[i]? = some (hsh w k) := by rw [List.getElem?_map, hp, ← hk]; rfl
    have hil : i < t.place.toList.length := by
      rw [Array.length_toList, R.psize]
      exact (List.getElem?_eq_some_iff.mp hp).1
    have hj := List.getElem?_eq_getElem hil
    obtain ⟨c, hc, e⟩ := R.tab.before hK hi hj
    exact ⟨c, Nat.zero_le _, hc, by rw [hj, e]⟩

/-- what the set has of the first i trees -/
structure GotN (ks : List (Addr × Tr)) (i : Nat) (L : List (Addr × Tr)) : Prop where
  sub : ∀ p ∈ L, p ∈ ks.take i
  all : ∀ p ∈ ks.take i, p.2 ∈ L.map (·.2)
  len : L.length ≤ i
theorem GotN.more {ks L L' : List (Addr × Tr)} {i : Nat} {x : Addr × Tr} (g : GotN ks i L) (h : ks[i]? = some x) (c1 : x.2 ∈ L.map (·.2) → L' = L) (c2 : x.2 ∉ L.map (·.2) → L'.Perm (x :: L)) : GotN ks (i + 1) L' := by
  have ht : ks.take (i + 1) = ks.take i ++ [x] := by rw [List.take_succ, h]; rfl
  rcases Classical.em (x.2 ∈ L.map (·.2)) with c | c
  · rw [c1 c]
    refine ⟨fun p hp => ?_, fun p hp => ?_, Nat.le_succ_of_le g.len⟩
    · rw [ht]; exact List.mem_append_left _ (g.sub p hp)
    · rw [ht] at hp
      rcases List.mem_append.mp hp with z | z
      · exact g.all p z
      · rw [List.mem_singleton.mp z]; exact c
  · have pm := c2 c
    refine ⟨fun p hp => ?_, fun p hp => ?_, ?_⟩
    · rw [ht]
      rcases List.mem_cons.mp (pm.mem_iff.mp hp) with e | z
      · rw [e]; exact List.mem_append_right _ List.mem_cons_self
      · exact List.mem_append_left _ (g.sub p z)
    · rw [(pm.map (·.2)).mem_iff, List.map_cons]
      rw [ht] at hp
      rcases List.mem_append.mp hp with z | z
      · exact List.mem_cons_of_mem _ (g.all p z)
      · rw [List.mem_singleton.mp z]; exact List.mem_cons_self
    · rw [pm.length_eq, List.length_cons]
      exact Nat.succ_le_succ g.len
theorem SetN.keep {h h' : Heap} (R : SetN w h a L es ep t) (ha : ∀ o, h.get? a = some o → h'.get? a = some o) (ht : ∀ p ∈ L, IsK h' p.2 p.1) : SetN w h' a L es ep t := by
  obtain ⟨o, ho, r⟩ := R.ob
  exact ⟨⟨o, ha o ho, r⟩, R.rows, R.tab, R.nd, ht, R.plain, R.led, R.mask, R.few⟩
/-- an empty one -/
abbrev newSetObj (w : World) : Obj := { cls := .type "set", dict := none, data := .set #[] 0 (.fresh 0 0 (!w.params.followText "set-order")) }
theorem setN_fresh {h : Heap} (ho : h.get? a = some (newSetObj w)) : SetN w h a [] #[] 0 (.fresh 0 0 (!w.params.followText "set-order")) where
  ob := ⟨_, ho, ⟨rfl, rfl, rfl⟩, rfl⟩
  rows := rfl
  tab := ⟨List.Pairwise.nil, rfl, rfl, .inl rfl, fun x hx => (by cases hx), fun i h j hi => (by simp at hi)⟩
  nd := List.nodup_nil
  tr := fun p hp => (by cases hp)
  plain := rfl
  led := by
    show _ ∨ (!w.params.followText "set-order") = true
    cases w.params.followText "set-order" with
    | false => exact .inr rfl
    | true => exact .inl rfl
  mask := rfl
  few := Nat.zero_le _
/-- the loop that fills it -/
theorem fillN {I : Addr} {fp wr : List Addr} {G : Array GenState → Array GenState → Prop} {n : Nat} {Pv : Nat → Value → Prop} {St : Nat → Shared → Prop} {R : Result → Shared → Prop}
    (W : WalksS P w A.in1 I fp wr G n Pv St) (S : Addr) (hSf : S ∉ fp) (ks : List (Addr × Tr)) (hn : n = ks.length) (hfew : ks.length ≤ 4) (hval : ∀ i v, Pv i v → ∃ p, ks[i]? = some p ∧ v = .ref p.1)
    (h0 : Heap) (hk : ∀ p ∈ ks, IsK h0 p.2 p.1) (hS0 : h0.get? S = none) (hw0 : ∀ b ∈ wr, h0.get? b = none) (hu : A.in1.units + 20 < cLine) :
    ∀ (k i : Nat) (s : Shared), n - i = k → i ≤ n → St i s → (∀ b o, h0.get? b = some o → s.heap.get? b = some o) → (∃ L es ep t, SetN w s.heap S L es ep t ∧ GotN ks i L) →
      (∀ s' L es ep t, Moved (S :: wr) G s s' → SetN w s'.heap S L es ep t → GotN ks n L → (∀ b o, h0.get? b = some o → s'.heap.get? b = some o) → R (.ok (.ret .none)) s') →
      codeAny (model P w) A (.builtin "set.update.loop" ⟨[.ref S, .ref I], []⟩) R s := by
  have hSw : S ∉ wr := fun h => hSf (W.sub _ h)
  have up : ∀ b ∈ wr, b ∈ S :: wr := fun b hb => List.mem_cons_of_mem _ hb
  have old : ∀ {s s' : Shared}, Moved wr G s s' → (∀ b o, h0.get? b = some o → s.heap.get? b = some o) → ∀ b o, h0.get? b = some o → s'.heap.get? b = some o := fun hm hkp b o e =>
    hm.heap b o (fun hb => by rw [hw0 b hb] at e; cases e) (hkp b o e)
  intro k
  induction k with
  | zero =>
    intro i s hk' hi hst hkp ⟨L, es, ep, t, hS, g⟩ hR
    obtain rfl : i = n := by omega
    refine codeAny_builtin F.entry_set_update_loop ?_
    rw [Around.under_plainId F.plain_set_update_loop _]
    show wpAny _ A.in1 (pyNext (.ref I) >>= _) _ _ s
    refine wpAny_bind (W.done s _ _ hst fun s' hm => ?_)
    have hkp' := old hm hkp
    have sub : ∀ p ∈ L, p ∈ ks := fun p hp => List.mem_of_mem_take (g.sub p hp)
    show wpAny _ A.in1 (ret Value.none) _ _ s'
    exact wpAny_pure (hR s' L es ep t (hm.mono up) (hS.keep (fun o e => hm.heap S o hSw e) fun p hp => (hk p (sub p hp)).keep hkp') g hkp')
  | succ k ih =>
    intro i s hk' hi hst hkp ⟨L, es, ep, t, hS, g⟩ hR
    have hlt : i < n := by omega
    refine codeAny_builtin F.entry_set_update_loop ?_
    rw [Around.under_plainId F.plain_set_update_loop _]
    show wpAny _ A.in1 (pyNext (.ref I) >>= _) _ _ s
    refine wpAny_bind (W.item i s _ _ hlt hst fun v s' hP hst' hm => ?_)
    obtain ⟨p, hp, rfl⟩ := hval i v hP
    have hkp' := old hm hkp
    have sub : ∀ p ∈ L, p ∈ ks := fun p hp => List.mem_of_mem_take (g.sub p hp)
    have hS' : SetN w s'.heap S L es ep t := hS.keep (fun o e => hm.heap S o hSw e) fun q hq => (hk q (sub q hq)).keep hkp'
    have hx : IsK s'.heap p.2 p.1 := (hk p (List.mem_of_getElem? hp)).keep hkp'
    show wpAny _ A.in1 (holding [Value.ref p.1] (setAdd S (.ref p.1)) >>= _) _ _ s'
    refine wpAny_bind (wpAny_holding ?_)
    unfold setAdd
    refine wpAny_holding (wpAny_bind (pyHash_key (tkey p.2) _ _ _ _ hx.1 (by rw [tkey_depth]; have := hx.2; omega) ?_))
    refine addN (s := { s' with toks := s'.toks + (tkey p.2).draws }) hS' hx hu (by have := g.len; omega) fun b h' L' es' ep' t' hsb hS2 c1 c2 => ?_
    have g' : GotN ks (i + 1) L' := g.more hp c1 c2
    have hkp2 : ∀ b o, h0.get? b = some o → h'.get? b = some o := fun b o e => (hsb.2 b (fun z => by rw [z, hS0] at e; cases e)).trans (hkp' b o e)
    refine wpAny_pure ⟨plainId_quiet F.plain_set_update_loop _, ih (i + 1) _ (by omega) hlt (W.frame _ s' _ _ hst' (Nat.le_add_right _ _) fun b hb o e => ?_) hkp2 ⟨L', es', ep', t', hS2, g'⟩ fun s'' L2 es2 ep2 t2 hm2 hS3 g3 hkp3 => ?_⟩
    · rw [hsb.2 b (fun z => hSf (z ▸ hb))]; exact e
    · refine hR s'' L2 es2 ep2 t2 (Moved.trans W.gtrans ((hm.mono up).then_heap (Nat.le_add_right _ _) fun b o hb e => ?_) hm2) hS3 g3 hkp3
      rw [hsb.2 b (fun z => hb (z ▸ List.mem_cons_self))]; exact e
end
end K59
end

section
set_option Elab.async false
set_option linter.all false
set_option maxRecDepth 100000
set_option maxHeartbeats 8000000
/-! set(xs) of a list of at most four trees; sorted of that set: the rules. -/
namespace K59
open PySem PySem.Spec PyProof.Rows L2
section
variable {P : Program} {w : World} {A : Around} {E : Value → Shared → Prop} {s : Shared}
/-- set(xs), xs a list, by what the loop that fills it brings about -/
theorem callSetG {l : Addr} {items : Array Value} {Q : Value → Shared → Prop} (hl : s.heap.IsList l items) (Post : Heap → Prop)
    (fill : ∀ (A' : Around) (R : Result → Shared → Prop), A'.handled = A.handled → A'.units ≤ A.units + 8 → (∀ s', s'.gens = s.gens → s'.drawn = s.drawn → s'.os = s.os → Post s'.heap → R (.ok (.ret .none)) s') →
      codeAny (model P w) A' (.builtin "set.update.loop" ⟨[.ref s.heap.objs.size, .ref (s.heap.push (newSetObj w)).objs.size], []⟩) R { s with heap := (s.heap.push (newSetObj w)).push { cls := .type "list_iterator", data := .fields #[.ref l, .int 0 0] } })
    (h : ∀ (h' : Heap) (tk : Nat), Post h' → Q (.ref s.heap.objs.size) { s with heap := h', toks := tk }) :
    wpAny (model P w) A (call (.type "set") [.ref l]) Q E s := by
  obtain ⟨c, tl, hmro⟩ := F.called_set.mro
  have hmade := F.called_set.made
  have hsub := F.called_set.sub
  have hnt := F.called_set.notType
  have hcc := F.called_set.canCreate
  have hct := F.typeCall_set_1 (.ref l)
  refine wpAny_call (codeAny_of_tree ?_)
  show wpAny _ _ (callAny (.type "set") _) _ _ _
  refine wpAny_pure ⟨Code.quiet_builtin _ (by decide +kernel), codeAny_builtin F.entry_type_call ?_⟩
  rw [Around.under_plain (weight_type_call_type "set" [.ref l] []) rfl]
  repeat (any_goals (first | assumption | wp_step))
  refine codeAny_mono (code_set_led1 (.ref l) (E := E) (Q₁ := fun obj s₁ => obj = .ref s.heap.objs.size ∧ s₁ = { s with heap := s.heap.push (newSetObj w) }) ⟨rfl, rfl⟩) fun r s₁ hr => ?_
  cases r with
  | error e => exact hr
  | ok fl =>
    cases fl with
    | ret obj =>
      obtain ⟨rfl, rfl⟩ := hr
      have hS : (s.heap.push (newSetObj w)).get? s.heap.objs.size = some (newSetObj w) := Heap.get?_push_size _ rfl
      have hT : Shared.TypeIs { s with heap := s.heap.push (newSetObj w) } (.ref s.heap.objs.size) "set" := ⟨_, hS, rfl⟩
      have hli := F.called_set.init.lookup
      have hbi := F.called_set.init.bind (.ref s.heap.objs.size)
      repeat (any_goals (first | assumption | wp_step))
      refine codeAny_mono (codeAny_call_builtin (R := wants (fun r s₂ => r = .none ∧ ∃ h' tk, s₂ = { s with heap := h', toks := tk } ∧ Post h') E) F.called_set.init.plain F.entry_set_init (check_set_init_1 hT ?_)) fun r₂ s₂ hr₂ => ?_
      · obtain ⟨⟨ocls, odict, odata, oslots⟩, hol, hcl, nl, hdl⟩ := hl
        simp only at hcl hdl
        subst hcl hdl
        have hol' : (s.heap.push (newSetObj w)).get? l = some { cls := .type "list", dict := odict, data := .seq items nl, slots := oslots } := Heap.get?_push_of_some _ hol
        have hl1 : (s.heap.push (newSetObj w)).IsList l items := ⟨_, hol', rfl, nl, rfl⟩
        have hsls := F.sub_list_set
        have hslf := F.sub_list_frozenset
        have hne : (Value.type "list" == Value.type "dict") = false := by decide
        unfold Builtin.«set.__init__» noKeywords Builtin.Frozenset.updateFrom
        generalize hPI : pyIter = PI
        wp_walk
        subst hPI
        refine wpAny_pyIter_list hl1 (wpAny_bind (wpAny_runValue ?_))
        refine fill _ _ (by simp) (by simp only [Around.in1_units]; omega) fun s' eg ed eo hp => ?_
        obtain ⟨h', g2, d', tk', os'⟩ := s'
        simp only at eg ed eo
        subst eg ed eo
        show wpAny _ _ _ _ _ _
        refine wpAny_pure ?_
        show wpAny _ _ (ret Value.none) _ _ _
        exact wpAny_pure ⟨rfl, h', tk', rfl, hp⟩
      · cases r₂ with
        | error e => exact hr₂
        | ok fl₂ =>
          cases fl₂ with
          | ret r =>
            obtain ⟨rfl, h', tk, rfl, hp⟩ := hr₂
            repeat (any_goals (first | assumption | wp_step))
            exact h _ _ hp
          | _ => exact hr₂.elim
    | _ => exact hr.elim
theorem none_of {h : Heap} {b : Addr} (hb : h.objs.size ≤ b) : h.get? b = none := by
  cases q : h.get? b with
  | none => rfl
  | some o => exact absurd (Nat.lt_of_lt_of_le (Heap.lt_size q) hb) (Nat.lt_irrefl _)
/-- .. of trees -/
theorem callSetN {l : Addr} {items : Array Value} (ks : List (Addr × Tr)) {Q : Value → Shared → Prop} (hh : A.handled = none) (hl : s.heap.IsList l items) (hit : items.toList = ks.map fun p => Value.ref p.1)
    (hk : ∀ p ∈ ks, IsK s.heap p.2 p.1) (hfew : ks.length ≤ 4) (hu : A.units + 40 < cLine)
    (h : ∀ (h' : Heap) (tk : Nat) L es ep t, SetN w h' s.heap.objs.size L es ep t → GotN ks ks.length L → (∀ b o, s.heap.get? b = some o → h'.get? b = some o) → Q (.ref s.heap.objs.size) { s with heap := h', toks := tk }) :
    wpAny (model P w) A (call (.type "set") [.ref l]) Q E s := by
  have hisz : items.size = ks.length := by rw [← Array.length_toList, hit, List.length_map]
  have hlS : l < s.heap.objs.size := by obtain ⟨_, e, _⟩ := hl; exact Heap.lt_size e
  have hS : (s.heap.push (newSetObj w)).get? s.heap.objs.size = some (newSetObj w) := Heap.get?_push_size _ rfl
  have hval : ∀ (i : Nat) (v : Value), items[i]? = some v → ∃ p, ks[i]? = some p ∧ v = .ref p.1 := fun i v hv => by
    rw [← Array.getElem?_toList, hit, List.getElem?_map] at hv
    obtain ⟨p, hp, e⟩ := Option.map_eq_some_iff.mp hv
    exact ⟨p, hp, e.symm⟩
  have hneI : l ≠ (s.heap.push (newSetObj w)).objs.size := by rw [Heap.size_push]; exact Nat.ne_of_lt (Nat.lt_succ_of_lt hlS)
  have hSf : s.heap.objs.size ∉ [(s.heap.push (newSetObj w)).objs.size, l] := by
    rw [Heap.size_push]
    simp only [List.mem_cons, List.mem_singleton, List.not_mem_nil, or_false, not_or]
    exact ⟨Nat.ne_of_lt (Nat.lt_succ_self _), Nat.ne_of_gt hlS⟩
  refine callSetG hl (fun h' => ∃ L es ep t, SetN w h' s.heap.objs.size L es ep t ∧ GotN ks ks.length L ∧ ∀ b o, s.heap.get? b = some o → h'.get? b = some o) (fun A' R hA hU hR => ?_) fun h' tk ⟨L, es, ep, t, R, g, k⟩ => h h' tk L es ep t R g k
  have hh3 : A'.in1.handled = none := by show A'.handled = none; rw [hA]; exact hh
  refine fillN ((Walks.list hh3 _ l hneI items).toS) s.heap.objs.size hSf ks hisz hfew hval s.heap hk (none_of (Nat.le_refl _)) (fun b hb => none_of (by
      rw [List.mem_singleton.mp hb, Heap.size_push]
      exact Nat.le_succ _)) (by simp only [Around.in1_units]; omega) (items.size - 0) 0 _ (by omega) (Nat.zero_le _)
    ⟨⟨_, Heap.get?_push_size _ rfl, rfl, rfl⟩, (hl.push _).push _⟩ (fun b o e => Heap.get?_push_of_some _ (Heap.get?_push_of_some _ e))
    ⟨[], #[], 0, _, setN_fresh (Heap.get?_push_of_some _ hS), ⟨fun p hp => (by cases hp), fun p hp => (by simp at hp), Nat.zero_le _⟩⟩
    fun s' L es ep t hm hS' g' hkp => hR s' hm.gens hm.drawn hm.os ⟨L, es, ep, t, hS', by rw [← hisz]; exact g', hkp⟩
/-- .. of whole numbers -/
theorem callSetI {l : Addr} {items : Array Value} (ns : List Int) {Q : Value → Shared → Prop} (hh : A.handled = none) (hl : s.heap.IsList l items) (hit : IntsAre items.toList ns) (hb : ns.length + 1 < scanBound)
    (h : ∀ (h' : Heap) (tk c : Nat), SetR w h' s.heap.objs.size (fun j => decide (j ∈ ns)) c → c ≤ ns.length → (∀ b o, s.heap.get? b = some o → h'.get? b = some o) → Q (.ref s.heap.objs.size) { s with heap := h', toks := tk }) :
    wpAny (model P w) A (call (.type "set") [.ref l]) Q E s := by
  have hisz : items.size = ns.length := by rw [← Array.length_toList]; exact IntsAre.length hit
  have hlS : l < s.heap.objs.size := by obtain ⟨_, e, _⟩ := hl; exact Heap.lt_size e
  have hS : (s.heap.push (newSetObj w)).get? s.heap.objs.size = some (newSetObj w) := Heap.get?_push_size _ rfl
  have hneI : l ≠ (s.heap.push (newSetObj w)).objs.size := by rw [Heap.size_push]; exact Nat.ne_of_lt (Nat.lt_succ_of_lt hlS)
  have hSf : s.heap.objs.size ∉ [(s.heap.push (newSetObj w)).objs.size, l] := by
    rw [Heap.size_push]
    simp only [List.mem_cons, List.mem_singleton, List.not_mem_nil, or_false, not_or]
    exact ⟨Nat.ne_of_lt (Nat.lt_succ_self _), Nat.ne_of_gt hlS⟩
  have hval : ∀ (i : Nat) (v : Value), items[i]? = some v → ∃ k t, ns[i]? = some k ∧ v = .int k t := fun i v hv => by
    have hi : i < ns.length := by rw [← hisz]; exact (Array.getElem?_eq_some_iff.mp hv).1
    obtain ⟨t, e⟩ := PyProof.Rows.IntsAre.int_at hit i v (by rw [Array.getElem?_toList]; exact hv)
    refine ⟨ns[i], t, List.getElem?_eq_getElem hi, ?_⟩
    rw [e, List.getD_eq_getElem?_getD, List.getElem?_eq_getElem hi]
    rfl
  refine callSetG hl (fun h' => ∃ c, SetR w h' s.heap.objs.size (fun j => decide (j ∈ ns)) c ∧ c ≤ ns.length ∧ ∀ b o, s.heap.get? b = some o → h'.get? b = some o) (fun A' R hA hU hR => ?_) fun h' tk ⟨c, R, g, k⟩ => h h' tk c R g k
  have hh3 : A'.in1.handled = none := by show A'.handled = none; rw [hA]; exact hh
  refine set_update_ints ((Walks.list hh3 _ l hneI items).toS) s.heap.objs.size hSf ns hisz hb hval (items.size - 0) 0 _ (by omega) (Nat.zero_le _)
    ⟨⟨_, Heap.get?_push_size _ rfl, rfl, rfl⟩, (hl.push _).push _⟩ ⟨0, Nat.le_refl 0, setR_new_at (Heap.get?_push_of_some _ hS)⟩ fun s' c hm hc hS' => hR s' hm.gens hm.drawn hm.os ⟨c, hS', by rw [← hisz]; exact hc, fun b o e => ?_⟩
  have hb0 : b < s.heap.objs.size := Heap.lt_size e
  have hb1 : b ≠ s.heap.objs.size := Nat.ne_of_lt hb0
  have hb2 : b ≠ (s.heap.push (newSetObj w)).objs.size := by rw [Heap.size_push]; exact Nat.ne_of_lt (Nat.lt_succ_of_lt hb0)
  refine hm.heap b o ?_ (Heap.get?_push_of_some _ (Heap.get?_push_of_some _ e))
  simp only [List.mem_cons, List.mem_singleton, List.not_mem_nil, or_false, not_or]
  exact ⟨hb1, hb2⟩
end

/-! ### in the abstract heap -/
/-- the set's own object -/
def RawS (w : World) (h : Heap) (a : Addr) (L : List (Addr × Tr)) : Prop :=
  ∃ (es : Array (Int × Value)) (ep : Nat) (t : SetTable), (∃ o, h.get? a = some o ∧ o.ExactSet ∧ o.data = .set es ep t) ∧ es.toList = setRows w L ∧ TabOk t (L.map fun p => hsh w p.2) ∧ (L.map (·.2)).Nodup ∧ t.plain = true ∧
    (w.params.followText "set-order" = true ∨ t.led = true) ∧ t.mask = 7 ∧ L.length ≤ 4
theorem SetN.raw {w : World} {h : Heap} {a : Addr} {L : List (Addr × Tr)} {es : Array (Int × Value)} {ep : Nat} {t : SetTable} (R : SetN w h a L es ep t) : RawS w h a L :=
  ⟨es, ep, t, R.ob, R.rows, R.tab, R.nd, R.plain, R.led, R.mask, R.few⟩
def SNO (w : World) (a : Addr) (L : List (Addr × Tr)) : HO := .ext fun h => RawS w h a L
theorem sno_ok {P : Program} {w : World} {H : Hp} {h : Heap} {a : Addr} {L : List (Addr × Tr)} (r : RawS w h a L) : ObjOk P w H h a (SNO w a L) := by
  obtain ⟨es, ep, t, ⟨o, ho, q1⟩, q2⟩ := id r
  refine ⟨r, ⟨o, ho⟩, fun h1 h2 p k => ?_⟩
  obtain ⟨es', ep', t', ⟨o', ho', z1⟩, z2⟩ := p
  exact ⟨es', ep', t', ⟨o', k o' ho', z1⟩, z2⟩
section
variable {X : Cx}
theorem isK_of {pins : List (Addr × Obj)} {σ : L2.St} {H : Hp} {s : Shared} {a : Addr} {t : Tr} (I : Inv X pins σ H s) (h : TrAt H (.ref a) t) (hh : t.ht ≤ 7) : IsK s.heap t a := ⟨TrAt.key I t _ _ h rfl, hh⟩
/-- set(xs) -/
def rSetN (K : PySem.W.Frag) (w : World) : List V → Hp → VK → Prop := fun vs H Q => ∃ (l : Addr) (xs : List V) (ts : List Tr), vs = [.ref l] ∧ SqL K H l xs ∧ TrsAt H xs ts ∧ (∀ t ∈ ts, t.ht ≤ 7) ∧ ts.length ≤ 4 ∧
  ∀ (a : Addr) (L : List (Addr × Tr)), H a = none → (∀ p ∈ L, TrAt H (.ref p.1) p.2) → (∀ t, t ∈ L.map (·.2) ↔ t ∈ ts) → Q (.ref a) (L2.upd H a (SNO w a L))
theorem cr_setN (hc : X.calm = true) (hu : X.A.units + 64 < cLine) : CallR X (.type "set") (rSetN X.K X.w) := by
  intro pins s σ H vs us Q I r h
  obtain ⟨l, xs, ts, rfl, hl, ht, hh, hz, q⟩ := h
  obtain ⟨u, rfl, ru⟩ := vals1 r
  obtain rfl : u = .ref l := ru
  obtain ⟨ps, rfl, rfl, hp⟩ := ht.pairs
  obtain ⟨its, rv, pl, _⟩ := I.list hl
  have hn : H s.heap.objs.size = none := I.hok.fresh (Nat.le_refl _)
  refine callSetN (w := X.w) ps (I.ok.hd hc) pl.isList (by simpa using vals_refs rv) (fun p hm => isK_of I (hp p hm) (hh p.2 (List.mem_map_of_mem hm))) (by rw [List.length_map] at hz; exact hz) (by omega) fun h' tk L es ep t R g k => ?_
  have sub : ∀ p ∈ L, p ∈ ps := fun p hp' => List.mem_of_mem_take (g.sub p hp')
  refine ⟨.ref s.heap.objs.size, L2.upd H s.heap.objs.size (SNO X.w s.heap.objs.size L), I.laid (t' := tk) k (Nat.le_refl _) (sno_ok R.raw), rfl, q _ L hn (fun p hp' => hp p (sub p hp')) fun t' => ⟨fun z => ?_, fun z => ?_⟩⟩
  · obtain ⟨p, hp', e⟩ := List.mem_map.mp z
    exact List.mem_map.mpr ⟨p, sub p hp', e⟩
  · obtain ⟨p, hp', e⟩ := List.mem_map.mp z
    rw [← e]
    exact g.all p (by rw [List.take_length]; exact hp')
/-- set(xs) of whole numbers -/
def rSetI (K : PySem.W.Frag) (w : World) : List V → Hp → VK → Prop := fun vs H Q => ∃ (l : Addr) (ns : List Int), vs = [.ref l] ∧ SqL K H l (ns.map V.int) ∧ ns.length < 1000 ∧
  ∀ (a : Addr) (c : Nat), H a = none → c ≤ ns.length → Q (.ref a) (L2.upd H a (SetO w a (fun j => decide (j ∈ ns)) c))
theorem cr_setI (hc : X.calm = true) : CallR X (.type "set") (rSetI X.K X.w) := by
  intro pins s σ H vs us Q I r h
  obtain ⟨l, ns, rfl, hl, hz, q⟩ := h
  obtain ⟨u, rfl, ru⟩ := vals1 r
  obtain rfl : u = .ref l := ru
  obtain ⟨its, rv, pl, _⟩ := I.list hl
  have hn : H s.heap.objs.size = none := I.hok.fresh (Nat.le_refl _)
  refine callSetI (w := X.w) ns (I.ok.hd hc) pl.isList (by simpa using rv.ints) (by unfold scanBound; omega) fun h' tk c R hc' k => ?_
  exact ⟨.ref s.heap.objs.size, _, I.laid (t' := tk) k (Nat.le_refl _) (setO_new R), rfl, q _ c hn hc'⟩
/-- sorted(the set) -/
def rSortS (w : World) : List V → Hp → VK → Prop := fun vs H Q => ∃ (a : Addr) (L : List (Addr × Tr)), vs = [.ref a] ∧ H a = some (SNO w a L) ∧ (∀ p ∈ L, TrAt H (.ref p.1) p.2) ∧ (∀ p ∈ L, p.2.ht ≤ 7) ∧
  ∀ (l : Addr) (xs : List V) (ts : List Tr), H l = none → TrsAt H xs ts → (∀ t, t ∈ ts ↔ t ∈ L.map (·.2)) → asc ts → ts.length ≤ 4 → Q (.ref l) (L2.upd H l (.lst xs))
theorem cr_sortS (hc : X.calm = true) (hu : X.A.units + 64 < cLine) : CallR X (.builtin "sorted") (rSortS X.w) := by
  intro pins s σ H vs us Q I r h
  obtain ⟨a, L, rfl, ha, hp, hh, q⟩ := h
  obtain ⟨u, rfl, ru⟩ := vals1 r
  obtain rfl : u = .ref a := ru
  obtain ⟨es, ep, t, ⟨o, ho, hex, hd⟩, hrows, htab, hnd, hpl, hled, hmask, hfew⟩ : RawS X.w s.heap a L := (I.hok a _ ha).1
  have R : SetN X.w s.heap a L es ep t := ⟨⟨o, ho, hex, hd⟩, hrows, htab, hnd, fun p hm => isK_of I (hp p hm) (hh p hm), hpl, hled, hmask, hfew⟩
  have hes : es.toList.map (·.2) = L.map fun q => Value.ref q.1 := by
    rw [hrows]
    unfold setRows
    rw [List.map_map]
    rfl
  refine Calls.call_function_entry kind_sorted plain_sorted entry_sorted (args_sorted1 _) ?_
  unfold Builtin.«sorted»
  refine wpAny_bind (m := checkCount "sorted" 1 1 _) (wpAny_pure ?_)
  refine wpAny_bind (collect_set (A := X.A.in1) (by show X.A.handled = none; exact I.ok.hd hc) ⟨o, ho, hex.1, hd⟩ R.fits (by rw [R.size]; unfold scanBound; omega) htab.ris hled fun s1 out k1 hz g1 o1 pm => ?_)
  rw [hes] at pm
  -- the values, each with its tree
  have pick : ∀ us : List Value, (∀ u ∈ us, u ∈ L.map fun q => Value.ref q.1) → ∃ L1 : List (Addr × Tr), us = L1.map (fun q => Value.ref q.1) ∧ ∀ q ∈ L1, q ∈ L := by
    intro us
    induction us with
    | nil => intro _; exact ⟨[], rfl, fun q hq => by cases hq⟩
    | cons u us ih =>
      intro hv
      obtain ⟨q, hq, e⟩ := List.mem_map.mp (hv u List.mem_cons_self)
      obtain ⟨L1, e1, hs⟩ := ih fun z hz' => hv z (List.mem_cons_of_mem _ hz')
      refine ⟨q :: L1, by rw [List.map_cons, e, e1], fun z hz' => ?_⟩
      rcases List.mem_cons.mp hz' with y | y
      · rw [y]; exact hq
      · exact hs z y
  obtain ⟨L1, rfl, hs1⟩ := pick out fun u hu' => pm.mem_iff.mp hu'
  have hlen : L1.length = L.length := by
    have := pm.length_eq
    rwa [List.length_map, List.length_map] at this
  have one : ∀ p ∈ L, ∀ q ∈ L, p.1 = q.1 → p = q := fun p hp' q hq' e => by
    have a1 := R.tr p hp'
    have a2 := R.tr q hq'
    rw [e] at a1
    exact Prod.ext e (a1.one a2)
  have mem1 : ∀ q ∈ L, q ∈ L1 := fun q hq' => by
    have hm : Value.ref q.1 ∈ L1.map (fun q => Value.ref q.1) := pm.mem_iff.mpr (List.mem_map.mpr ⟨q, hq', rfl⟩)
    obtain ⟨r', hr', e⟩ := List.mem_map.mp hm
    injection e with e
    rw [← one r' (hs1 r' hr') q hq' e]
    exact hr'
  have nd1 : (L1.map (·.2)).Nodup := by
    have nref : (L.map fun q => Value.ref q.1).Nodup := by
      rw [List.Nodup, List.pairwise_map]
      have hL : L.Nodup := List.Pairwise.of_map (·.2) (fun _ _ hne e => hne (congrArg _ e)) hnd
      exact List.Pairwise.imp_of_mem (fun {p q} hp' hq' hne e => by injection e with e; exact hne (one p hp' q hq' e)) hL
    have n1 := pm.nodup_iff.mpr nref
    rw [List.Nodup, List.pairwise_map] at n1
    rw [List.Nodup, List.pairwise_map]
    refine List.Pairwise.imp_of_mem (fun {p q} hp' hq' hne e => ?_) n1
    obtain ⟨i, hi⟩ := List.mem_iff_getElem?.mp (hs1 p hp')
    obtain ⟨j, hj⟩ := List.mem_iff_getElem?.mp (hs1 q hq')
    have e1 : (L.map (·.2))[i]? = some p.2 := by rw [List.getElem?_map, hi]; rfl
    have e2 : (L.map (·.2))[j]? = some p.2 := by rw [List.getElem?_map, hj, e]; rfl
    have ij : i = j := (List.getElem?_inj (List.getElem?_eq_some_iff.mp e1).1 hnd).mp (e1.trans e2.symm)
    subst ij
    rw [hi] at hj
    cases hj
    exact hne rfl
  have hv4 : (L1.map fun q => Value.ref q.1).length ≤ sizeLine := by rw [List.length_map, hlen, sizeLine_eq]; omega
  refine wpAny_bind (wpAny_newList ?_ hv4)
  have hoL : (s1.heap.push (seqObj "list" (L1.map fun q => Value.ref q.1).toArray 0)).get? s1.heap.objs.size = some (seqObj "list" (L1.map fun q => Value.ref q.1).toArray 0) := Heap.get?_push_size _ rfl
  have kold : ∀ b u, s.heap.get? b = some u → (s1.heap.push (seqObj "list" (L1.map fun q => Value.ref q.1).toArray 0)).get? b = some u := fun b u e => Heap.get?_push_of_some _ (k1 b u e)
  have ksort : ∀ b u, s.heap.get? b = some u → (PySem.W.sortingHeap (s1.heap.push (seqObj "list" (L1.map fun q => Value.ref q.1).toArray 0)) s1.heap.objs.size (L1.map fun q => Value.ref q.1)).get? b = some u := fun b u e =>
    PySem.W.sortingHeap_old (Nat.ne_of_lt (Heap.lt_size (k1 b u e))) (kold b u e)
  have er : PySem.W.EachIs (fun v (p : Addr × Tr) => ∃ as, Reads (PySem.W.sortingHeap (s1.heap.push (seqObj "list" (L1.map fun q => Value.ref q.1).toArray 0)) s1.heap.objs.size (L1.map fun q => Value.ref q.1)) v (dat p.2) as) (L1.map fun p => Value.ref p.1) L1 :=
    each_refs fun p hm => by
      obtain ⟨as, rd⟩ := TrAt.reads I (hp p (hs1 p hm))
      exact ⟨as, PyProof.Rows.Reads.keeps ksort rd⟩
  have S := sorts_tr (prog := X.prog) (w := X.w) (A := X.A.in1.in1) (s := { s1 with heap := PySem.W.sortingHeap (s1.heap.push (seqObj "list" (L1.map fun q => Value.ref q.1).toArray 0)) s1.heap.objs.size (L1.map fun q => Value.ref q.1) }) (fun p : Addr × Tr => p.2) er fun p hm => by
    have := hh p (hs1 p hm)
    simp only [Around.in1_units]
    rw [dat_depth]
    omega
  have out := each_out (PySem.W.sortVals_data (h' := PySem.W.sortingHeap (s1.heap.push (seqObj "list" (L1.map fun q => Value.ref q.1).toArray 0)) s1.heap.objs.size (L1.map fun q => Value.ref q.1)) false (each_same L1) er (dats_all (fun p : Addr × Tr => p.2) L1))
  refine wpAny_bind (wpAny_holding (wpAny_call_entry slot_list_sort ⟨_, hoL, rfl⟩ entry_list_sort (PySem.W.list_sort_vals (s := { s1 with heap := s1.heap.push (seqObj "list" (L1.map fun q => Value.ref q.1).toArray 0) }) hoL S hv4 ⟨_, rfl, ?_⟩) (args_list_sort _)))
  obtain ⟨c, hcc⟩ := sortedHeap_at (vs := L1.map fun q => Value.ref q.1) (out := (PySem.W.sortVals (PySem.W.dataKind (PySem.W.sortingHeap (s1.heap.push (seqObj "list" (L1.map fun q => Value.ref q.1).toArray 0)) s1.heap.objs.size (L1.map fun q => Value.ref q.1)) (L1.map fun p => dat p.2)) false (L1.map fun p => Value.ref p.1) (L1.map fun p => Value.ref p.1)).toArray) hoL
  have kfin : ∀ b u, s.heap.get? b = some u → (sortedHeap (s1.heap.push (seqObj "list" (L1.map fun q => Value.ref q.1).toArray 0)) s1.heap.objs.size (L1.map fun q => Value.ref q.1) (PySem.W.sortVals (PySem.W.dataKind (PySem.W.sortingHeap (s1.heap.push (seqObj "list" (L1.map fun q => Value.ref q.1).toArray 0)) s1.heap.objs.size (L1.map fun q => Value.ref q.1)) (L1.map fun p => dat p.2)) false (L1.map fun p => Value.ref p.1) (L1.map fun p => Value.ref p.1)).toArray).get? b = some u := fun b u e => by
    have hlt := Heap.lt_size (k1 b u e)
    rw [sortedHeap_old (Nat.ne_of_lt hlt) (by rw [size_push']; exact Nat.lt_succ_of_lt hlt)]
    exact kold b u e
  rw [out] at hcc kfin ⊢
  have hn : H s1.heap.objs.size = none := I.hok.fresh hz
  have hT : TrsAt H ((L1.mergeSort (PySem.W.dataLe false fun p => dat p.2)).map fun p => V.ref p.1) (tsort (L1.map (·.2))) := by
    rw [← tsort_map]
    exact TrsAt.of_pairs fun p hp' => hp p (hs1 p ((List.mergeSort_perm _ _).mem_iff.mp hp'))
  have J := I.call (ch := []) (H' := L2.upd H s1.heap.objs.size (.lst ((L1.mergeSort (PySem.W.dataLe false fun p => dat p.2)).map fun p => V.ref p.1))) (g' := s1.gens) (t' := s1.toks) (d' := s1.drawn)
    (Un.laid kfin hz hn) (I.hok.laid kfin hz ⟨by rw [List.length_map, List.length_mergeSort, hlen, sizeLine_eq]; omega, (L1.mergeSort (PySem.W.dataLe false fun p => dat p.2)).map fun p => Value.ref p.1, c, refs_vals _, hcc⟩) (by rw [g1]; exact I.bare) (fun _ z => nomatch z)
  refine wpAny_pure ⟨_, rfl, .ref s1.heap.objs.size, _, ?_, rfl, q _ _ (tsort (L1.map (·.2))) hn hT (fun t' => ?_) (tsort_asc nd1) ?_⟩
  · rw [← o1] at J
    exact J
  · rw [(tsort_perm _).mem_iff]
    constructor
    · intro z
      obtain ⟨p, hp', e⟩ := List.mem_map.mp z
      exact List.mem_map.mpr ⟨p, hs1 p hp', e⟩
    · intro z
      obtain ⟨p, hp', e⟩ := List.mem_map.mp z
      exact List.mem_map.mpr ⟨p, mem1 p hp', e⟩
  · rw [(tsort_perm _).length_eq, List.length_map, hlen]
    exact hfew
end
end K59
end

section
set_option Elab.async false
set_option linter.all false
set_option maxRecDepth 100000
set_option maxHeartbeats 8000000
/-! for i, x in enumerate(a tuple); the display {(): 0}. -/
namespace K59
open PySem PySem.Spec PyProof.Rows L2
theorem meetsEnum {v : Value} {o : Obj} {H : Heap → Prop} (B : Begins v o H) :
    Meets (Builtin.«enumerate.__new__» ⟨[.type "enumerate", v], []⟩) (fun _ R s => H s.heap ∧
      R (.ok (.ret (.ref (s.heap.push o).objs.size))) { s with heap := (s.heap.push o).push { cls := .type "enumerate", data := .fields #[.none, .bool false, .ref s.heap.objs.size, rawInt 0, .none, .none] } }) :=
  .of_wp fun prog w A R s h => by
    obtain ⟨hp, g, d, tk, os⟩ := s
    obtain ⟨h1, h⟩ := h
    have hsub := sub_enumerate
    have q1 : ∀ {A' : Around} {E : Value → Shared → Prop} {Q : Value → Shared → Prop}, Q (.ref hp.objs.size) ⟨hp.push o, g, d, tk, os⟩ → wpAny (model prog w) A' (pyIter v) Q E ⟨hp, g, d, tk, os⟩ :=
      fun q => B.iter prog w _ _ ⟨hp, g, d, tk, os⟩ _ h1 q
    wp_walk using q1
    refine wpAny_stack_any fun st => wpAny_pure ?_
    split
    · rename_i c _ _ _ _ _
      cases (c == Value.type "enumerate")
      · wp_walk using q1
        exact ⟨_, rfl, h⟩
      · wp_walk using q1
        exact ⟨_, rfl, h⟩
    · wp_walk using q1
      exact ⟨_, rfl, h⟩
section
variable {prog : Program} {w : World} {A : Around} {E : Value → Shared → Prop} {s : Shared}
theorem callEnum {v : Value} {o : Obj} {H : Heap → Prop} {Q : Value → Shared → Prop} (B : Begins v o H) (h1 : H s.heap)
    (h : ∀ h', IsEnum h' (s.heap.objs.size + 1) s.heap.objs.size 0 .none → h'.get? s.heap.objs.size = some o → (∀ b u, s.heap.get? b = some u → h'.get? b = some u) → Q (.ref (s.heap.objs.size + 1)) { s with heap := h' }) :
    wpAny (model prog w) A (call (.type "enumerate") [v]) Q E s := by
  refine callType_new F.called_enumerate (by decide) (F.typeCall_enumerate_1 _) (F.newCall_enumerate_1 _) (fun obj => F.args_object_init_2 obj _) F.entry_enumerate_new (meetsEnum B) ⟨h1, ?_⟩
  have hz : (s.heap.push o).objs.size = s.heap.objs.size + 1 := Heap.size_push ..
  show _ ∧ _
  rw [hz]
  have he : IsEnum ((s.heap.push o).push { cls := .type "enumerate", data := .fields #[.none, .bool false, .ref s.heap.objs.size, rawInt 0, .none, .none] }) (s.heap.objs.size + 1) s.heap.objs.size 0 .none := by
    have z := Heap.get?_push_size (s.heap.push o) (o := { cls := .type "enumerate", data := .fields #[.none, .bool false, .ref s.heap.objs.size, rawInt 0, .none, .none] }) rfl
    rwa [hz] at z
  exact ⟨⟨_, he, rfl⟩, h _ he (Heap.get?_push_of_some _ (Heap.get?_push_size _ B.free)) fun b u x => Heap.get?_push_of_some _ (Heap.get?_push_of_some _ x)⟩
end
/-- the tuple at a, each item in a new pair -/
def Iett (K : PySem.W.Frag) (a : Addr) : It :=
  ⟨fun i H => ∃ (xs : List V) (x : V), SqT K H a xs ∧ xs[i]? = some x, fun i H v H' => ∃ T x, v = .ref T ∧ H T = none ∧ H' = upd H T (.tup [.int (i : Nat), x]) ∧ ∀ xs, SqT K H a xs → xs[i]? = some x, fun i H => ∃ xs : List V, SqT K H a xs ∧ xs.length = i⟩
theorem turnEnumT {P : Program} {w : World} {K : PySem.W.Frag} {elts : List Expr} {kk : Nat} {tpos : Pos} (a e it : Addr) :
    Turn P w K (.Tuple elts kk tpos) (Iett K a) [e, it] e (fun i h => (∃ old, IsEnum h e it ((i : Nat) : Int) old) ∧ h.IsTupleIter it a i ∧ e ≠ it) where
  mem := by simp
  obj := fun i h st b hb => by
    obtain ⟨⟨old, he⟩, ⟨o, ho, hc, hd⟩, _⟩ := st
    have e' : b = e ∨ b = it := by simpa using hb
    rcases e' with z | z
    · rw [z]; exact ⟨_, he, fun v q => nomatch q⟩
    · rw [z]; exact ⟨o, ho, fun v q => by rw [hd] at q; cases q⟩
  keep := fun i h h' st k => by
    obtain ⟨⟨old, he⟩, hi, hne⟩ := st
    exact ⟨⟨old, k e (by simp) _ he⟩, hi.at fun o q => k it (by simp) o q, hne⟩
  item := by
    intro X hP hw hK hc i pins s σ H E I hf st hg
    subst hP hw hK
    obtain ⟨⟨old, he⟩, hit, hne⟩ := st
    obtain ⟨xs, x, hq, hx⟩ := hg
    obtain ⟨its, rv, p, hz⟩ := I.tuple hq
    obtain ⟨u, hu, ru⟩ := rv.get hx
    have hel : e < s.heap.objs.size := Heap.lt_size he
    have hil : it < s.heap.objs.size := by obtain ⟨_, q, _⟩ := hit; exact Heap.lt_size q
    have hta : a ≠ it := by
      rintro rfl
      obtain ⟨o1, g1, g2, n1, g3⟩ := p
      obtain ⟨o2, k1, k2, k3⟩ := hit
      rw [g1] at k1
      cases k1
      rw [g3] at k3
      cases k3
    have hte : e ≠ a := by
      rintro rfl
      obtain ⟨o1, g1, g2, n1, g3⟩ := p
      rw [he] at g1
      cases g1
      cases g3
    have D := Draws.tuple (prog := X.prog) (w := X.w) (A := X.A.in1) (by show X.A.handled = none; exact I.ok.hd hc) it a hta its.toArray
    have hlt : i < its.toArray.size := by
      have := (List.getElem?_eq_some_iff.mp hu).1
      simpa using this
    refine wpAny_pyNext_enum_itemD D he ⟨hit, p⟩ hlt hne (by simp [hne, hte]) fun v h' tk hv ho hit' hT hsz hk => ?_
    have ev : v = u := by
      rw [← Array.getElem?_toList] at hv
      have hv' : its[i]? = some v := by simpa using hv
      rw [hu] at hv'
      exact (Option.some.inj hv').symm
    subst ev
    refine ⟨_, rfl, wpAny_letOwnedTupleGo_enum (s := { s with heap := h', toks := tk + 1 }) ho fun h'' he' sb => ?_⟩
    have hT2 : h''.get? s.heap.objs.size = some { cls := .type "tuple", data := .seq #[.int i tk, v] } := (sb.2 _ (Nat.ne_of_gt hel)).trans hT
    have new : ObjOk X.prog X.w (upd H s.heap.objs.size (.tup [.int (i : Nat), x])) h'' s.heap.objs.size (.tup [.int (i : Nat), x]) :=
      ⟨by show 2 ≤ sizeLine; decide, [.int i tk, v], .cons ⟨_, rfl⟩ (.cons ru .nil), ⟨_, hT2, rfl, _, rfl⟩⟩
    have I1 : Inv X pins σ (upd H s.heap.objs.size (.tup [.int (i : Nat), x])) { s with heap := h'', toks := tk + 1 } :=
      I.turnedNew (ch := [e, it]) (fun b ob hb q => (sb.2 b (fun z => hb (by simp [z]))).trans (hk b ob (fun z => hb (by simp [z])) (fun z => hb (by simp [z])) q)) hf (Nat.le_refl _) new
    refine ⟨.ref s.heap.objs.size, _, I1, rfl, ⟨_, x, rfl, I.hok.fresh (Nat.le_refl _), rfl, fun ys hy => by rw [I.tuple_inj hy hq]; exact hx⟩, ⟨⟨v, ?_⟩, hit'.1.at fun o q => (sb.2 it (Ne.symm hne)).trans q, hne⟩, fun b hb => ?_⟩
    · have e1 : ((i + 1 : Nat) : Int) = (i : Int) + 1 := by omega
      rw [e1]; exact he'
    · have hb' : b < s.heap.objs.size := by
        have e' : b = e ∨ b = it := by simpa using hb
        rcases e' with z | z
        · rw [z]; exact hel
        · rw [z]; exact hil
      rw [upd_ne (Nat.ne_of_lt hb')]
      exact (hf b hb).1
  done := by
    intro X hP hw hK hc i pins s σ H E I hf st hg
    subst hP hw hK
    obtain ⟨⟨old, he⟩, hit, hne⟩ := st
    obtain ⟨xs, hq, hx⟩ := hg
    obtain ⟨its, rv, p, hz⟩ := I.tuple hq
    obtain ⟨f0, f1, f2, f3, f4, f5⟩ := hf it (by simp)
    have hl := rv.length
    have hta : a ≠ it := by
      rintro rfl
      obtain ⟨o1, g1, g2, n1, g3⟩ := p
      obtain ⟨o2, k1, k2, k3⟩ := hit
      rw [g1] at k1
      cases k1
      rw [g3] at k3
      cases k3
    have D := Draws.tuple (prog := X.prog) (w := X.w) (A := X.A.in1) (by show X.A.handled = none; exact I.ok.hd hc) it a hta its.toArray
    have hn : its.toArray.size = i := by simp; omega
    refine wpAny_pyNext_enum_endD D he ⟨by rw [hn]; exact hit, p⟩ fun h' eb => ⟨rfl, I.turned (t' := s.toks) (fun b o hb q => eb b o hb q) f0 f1 f3 f4 f5⟩
  self := fun A i s Q E st h => by
    obtain ⟨⟨_, he⟩, _⟩ := st
    exact wpAny_pyIter_enum he h
def iEnumT (K : PySem.W.Frag) (ta : TA) : TI := fun σ H R => ta σ H fun vs H1 => ∃ a xs, vs = [.ref a] ∧ SqT K H1 a xs ∧ R (Iett K a) H1
theorem pi_enumT {X : Cx} {e : Expr} {ta : TA} {p pos tpos : Pos} {elts : List Expr} {kk : Nat} (hg : Gl X "enumerate") (hm : X.mg "enumerate" = none) (ha : PA X [e] ta) (hs : starEach [e] X.env = [(false, eval e X.env)] := by rfl) :
    PI X (.Tuple elts kk tpos) (.Call (.Name "enumerate" p) [e] [] pos) (iEnumT X.K ta) := by
  refine ⟨fun pins s σ H R I h => ?_⟩
  refine Call_ (ld_blt I hg hm boot_enumerate (PyProof.Rows.callWith_type1 (thn (ha.run pos pins s σ H _ I h) fun us s1 ⟨vs, H1, I1, r1, q1⟩ => ?_) hs rfl))
  obtain ⟨a, xs, ex, hq, q⟩ := q1
  subst ex
  obtain ⟨u, rfl, ru⟩ := vals1 r1
  obtain rfl : u = .ref a := ru
  obtain ⟨its, rv, p', hz⟩ := I1.tuple hq
  refine callEnum (begins_tuple a its.toArray) p' fun h' he hit hk => wpAny_pyIter_enum he ?_
  have I2 : Inv X pins σ H1 { s1 with heap := h' } := I1.kept (t' := s1.toks) hk
  refine ⟨s1.heap.objs.size + 1, [s1.heap.objs.size + 1, s1.heap.objs.size], _, _, H1, rfl, I2, turnEnumT a (s1.heap.objs.size + 1) s1.heap.objs.size, ⟨⟨.none, he⟩, ⟨_, hit, rfl, rfl⟩, Nat.succ_ne_self _⟩, fun b hb => ?_, q⟩
  have e' : b = s1.heap.objs.size + 1 ∨ b = s1.heap.objs.size := by simpa using hb
  have hle : s1.heap.objs.size ≤ b := by
    rcases e' with z | z
    · rw [z]; exact Nat.le_add_right _ _
    · rw [z]; exact Nat.le_refl _
  exact I1.fpOk hle (I1.hok.fresh hle)
theorem walk_enumT {K : PySem.W.Frag} {a : Addr} {xs : List V} : Walk (Iett K a) xs.length (fun H => H a = some (.tup xs)) (YPair (fun i => some (.int (i : Nat))) (fun i => xs[i]?)) := by
  refine ⟨fun i _ hi q => ⟨xs, xs[i], SqT.of q, by simp [hi]⟩, fun _ q => ⟨xs, SqT.of q, rfl⟩, fun i H v H' _ q y => ?_⟩
  obtain ⟨T, x, h1, h2, h3, h4⟩ := y
  exact ⟨T, .int (i : Nat), x, h1, h2, h3, rfl, h4 xs (SqT.of q)⟩

/-! ### {(): 0} -/
def tUnit0 : TE := fun _ H Q => ∀ p q, H p = none → H q = none → p ≠ q → Q (.ref p) (upd (upd H q (.tup [])) p (.dT [([], .int 0)]))
theorem pe_unit0 {X : Cx} {k : Nat} {p1 p2 pos : Pos} {j : Nat} (hu : X.A.units + 64 < cLine) : PE X (.Dict [some (.Tuple [] k p1)] [.Constant (.int 0) j p2] pos) tUnit0 := by
  refine ⟨fun pins s σ H Q I h => ?_⟩
  have hn := I.hok.fresh (Nat.le_refl s.heap.objs.size)
  have I1 := I.laid (a := s.heap.objs.size) (o := .dT []) (h' := s.heap.push { cls := .type "dict", data := .dict #[] }) (t' := s.toks) (fun _ _ q => Heap.get?_push_of_some _ q) (Nat.le_refl _) (dt_empty s.heap I.big)
  have pp : PPs X pos [some (.Tuple [] k p1)] [.Constant (.int 0) j p2] [(tTup tNil, tC (.int 0))] := pps_cons (pe_tup pa_nil) pe_int pps_nil
  rw [arm_eval_Dict, zip_pairTrees [some (.Tuple [] k p1)] [.Constant (.int 0) j p2] X.env pos rfl rfl, dictDisplay_pairs (pairTrees [some (.Tuple [] k p1)] [.Constant (.int 0) j p2] X.env pos) (fun z => nomatch z) (by show 1 < 17; decide)]
  refine wpAny_bind (wpAny_standAt (wpAny_bind (wpAny_subDictH (knd := tupleKind (mixKind X.prog X.w)) (by show X.A.units < cLine; omega) (by show 1 ≤ 15; decide) ?_)))
  refine thn (pp.run pins _ σ _ (fun ps H' => ∃ q, ps = [(.ref q, .int 0)] ∧ H' = upd (upd H s.heap.objs.size (.dT [])) q (.tup []) ∧ (upd H s.heap.objs.size (.dT [])) q = none) I1 ⟨Nat.zero_le _, fun q hq => ⟨q, rfl, rfl, hq⟩⟩) fun ws s2 ⟨ps, H2, I2, rel, q, ep, eH, hq⟩ => ?_
  subst ep eH
  have hqp : q ≠ s.heap.objs.size := fun z => by rw [z, upd_same] at hq; cases hq
  have hq0 : H q = none := by rw [upd_ne hqp] at hq; exact hq
  obtain ⟨t, rfl⟩ : ∃ t, ws = [(.ref q, .int 0 t)] := by
    cases rel with
    | @cons a b as bs h1 h2 =>
      cases h2
      obtain ⟨b1, b2⟩ := b
      obtain ⟨z1, t, z2⟩ := h1
      have z1' : b1 = .ref q := z1
      have z2' : b2 = .int 0 t := z2
      exact ⟨t, by rw [z1', z2']⟩
  have hd : (upd (upd H s.heap.objs.size (.dT [])) q (.tup [])) s.heap.objs.size = some (.dT []) := by rw [upd_ne (Ne.symm hqp), upd_same]
  have htup : (upd (upd H s.heap.objs.size (.dT [])) q (.tup [])) q = some (.tup (([] : List Key).map kV)) := upd_same
  obtain ⟨z, hsys, xs, rx, dd⟩ := dt_of I2.hok hd
  cases rx
  refine ⟨[([], q, .int 0 t)], ⟨rfl, rfl, key_of I2.hok htup, trivial⟩, dd, fun h' tk dd' sb => wpAny_pure ?_⟩
  obtain ⟨o, es, ep, g1, g2, g3, g4, _, g5⟩ := dd'
  have keyT : (upd (upd (upd H s.heap.objs.size (.dT [])) q (.tup [])) s.heap.objs.size (.dT [([], .int 0)])) q = some (.tup (([] : List Key).map kV)) := by rw [upd_ne hqp]; exact htup
  have new : ObjOk X.prog X.w (upd (upd (upd H s.heap.objs.size (.dT [])) q (.tup [])) s.heap.objs.size (.dT [([], .int 0)])) h' s.heap.objs.size (.dT [([], .int 0)]) :=
    ⟨by show 1 ≤ sizeLine; decide, hsys, [([], q, .int 0 t)], .cons ⟨rfl, keyT, _, rfl⟩ .nil, o, es, ep, g1, g2, g3, g4, g5⟩
  have J := d_write (t' := tk) I2 (by rw [hd]; exact True.intro) sb ⟨o, g1⟩ new
  have eH : upd (upd (upd H s.heap.objs.size (.dT [])) q (.tup [])) s.heap.objs.size (.dT [([], .int 0)]) = upd (upd H q (.tup [])) s.heap.objs.size (.dT [([], .int 0)]) := by
    funext b
    unfold upd
    by_cases e1 : b = s.heap.objs.size
    · simp only [e1, if_true]
    · by_cases e2 : b = q
      · simp only [e1, e2, if_true, if_false]
      · simp only [e1, e2, if_false]
  rw [eH] at J
  exact ⟨.ref s.heap.objs.size, _, J, rfl, h _ _ hn hq0 (Ne.symm hqp)⟩
end K59
end

section
set_option Elab.async false
set_option linter.all false
set_option maxRecDepth 100000
set_option maxHeartbeats 4000000
/-! The text by places; words about heaps. -/
namespace K59
open PySem L2
def top (i : Nat) : Stmt := PySem.Challenge.pw_thermogames_k59_whole_lost_sums.main.body.getD i (.Pass ⟨0, 0, 0, 0⟩)
abbrev sIsInt : Stmt := top 7
abbrev sIsIn : Stmt := top 8
abbrev sNeed : Stmt := top 9
abbrev sGInit : Stmt := inClass (top 13) 0
abbrev sPlace : Stmt := inClass (top 13) 1
abbrev sFits : Stmt := inClass (top 13) 2
abbrev sMake : Stmt := inClass (top 13) 3
abbrev sRead : Stmt := inClass (top 13) 4
abbrev sAdd : Stmt := inClass (top 13) 5
abbrev sHeap : Stmt := inClass (top 13) 6
abbrev sNodes : Stmt := inClass (top 13) 10
abbrev sHeight : Stmt := inClass (top 13) 11
abbrev sForm : Stmt := inClass (top 13) 12
abbrev sWritten : Stmt := inClass (top 13) 13
abbrev sIsTree : Stmt := top 19
abbrev sIsAsc : Stmt := top 20
abbrev sHeapTree : Stmt := top 21
abbrev sIsLost : Stmt := top 22
abbrev sTaken : Stmt := top 24
abbrev sLawIs : Stmt := top 25
abbrev sXor : Stmt := top 26
abbrev sFalls : Stmt := top 27
abbrev sLost : Stmt := top 28
abbrev sPile : Stmt := top 29
abbrev sTwig : Stmt := top 30
abbrev sLeaves : Stmt := top 31
abbrev sBush : Stmt := top 32
abbrev sLaw : Stmt := top 33
/-- the built-ins that the text names are the built-ins -/
structure Blt (mg : Str → Option Value) : Prop where
  isi : mg "isinstance" = none
  int : mg "int" = none
  bool : mg "bool" = none
  tuple : mg "tuple" = none
  sorted : mg "sorted" = none
  set : mg "set" = none
  len : mg "len" = none
  any : mg "any" = none
  all : mg "all" = none
  min : mg "min" = none
  max : mg "max" = none
  sum : mg "sum" = none
  range : mg "range" = none
  enum : mg "enumerate" = none

/-! ### what stays -/
/-- all that was tracked stays, but what stands at S -/
def But (S : List Addr) (H H' : Hp) : Prop := ∀ b o, H b = some o → b ∉ S → H' b = some o
theorem But.refl {S : List Addr} (H : Hp) : But S H H := fun _ _ h _ => h
theorem But.trans {S : List Addr} {H H1 H2 : Hp} (h : But S H H1) (k : But S H1 H2) : But S H H2 := fun b o e n => k b o (h b o e n) n
theorem But.mono {S S' : List Addr} {H H' : Hp} (h : But S H H') (s : ∀ b ∈ S, b ∈ S') : But S' H H' := fun b o e n => h b o e fun z => n (s b z)
theorem But.same {H H' : Hp} (h : But [] H H') : Same H H' := fun b o e => h b o e (by simp)
theorem But.of_same {S : List Addr} {H H' : Hp} (h : Same H H') : But S H H' := fun b o e _ => h b o e
theorem same_new {H : Hp} {p : Addr} {o : HO} (h : H p = none) : Same H (upd H p o) := fun b u e => by
  rw [upd_ne (ne_of_none e h)]; exact e
theorem but_upd {S : List Addr} {H : Hp} {p : Addr} {o : HO} (h : p ∈ S) : But S H (upd H p o) := fun b u e n => by
  rw [upd_ne (fun z => n (by rw [z]; exact h))]; exact e
theorem But.new {S : List Addr} {H H' : Hp} {p : Addr} {o : HO} (h : But S H H') (hp : H' p = none) : But S H (upd H' p o) := fun b u e n => by
  have := h b u e n
  rw [upd_ne (ne_of_none this hp)]; exact this
theorem But.put {S : List Addr} {H H' : Hp} {p : Addr} {o : HO} (h : But S H H') (hp : p ∈ S) : But S H (upd H' p o) := h.trans (but_upd hp)
/-- what was free ahead of it all and is written behind -/
theorem But.own {S : List Addr} {H H' : Hp} {p : Addr} {o : HO} (h : But S H H') (hp : H p = none) : But S H (upd H' p o) := fun b u e n => by
  rw [upd_ne (ne_of_none e hp)]; exact h b u e n
theorem same_tups {H H' : Hp} (h : Same H H') : Tups H H' := fun a xs e => h a _ e
theorem SqL.but {K : PySem.W.Frag} {S : List Addr} {H H' : Hp} {a : Addr} {xs : List V} (h : But S H H') (n : a ∉ S) (e : SqL K H a xs) : SqL K H' a xs := by
  rcases e with (e | ⟨o, e⟩) | e
  · exact .inl (.inl (h _ _ e n))
  · exact .inl (.inr ⟨o, h _ _ e n⟩)
  · exact .inr e
theorem fresh_of {S : List Addr} {H H' : Hp} {p : Addr} (h : But S H H') (hp : H' p = none) (n : p ∉ S) : H p = none := by
  cases q : H p with
  | none => rfl
  | some o => rw [h p o q n] at hp; cases hp
end K59
end

section
set_option Elab.async false
set_option linter.all false
set_option maxRecDepth 100000
set_option maxHeartbeats 4000000
/-! The law's small helpers: a draw, a comparison of truth values, a sum without carries. -/
namespace K59
open PySem L2
section
variable {P : Program} {w : World} {K : PySem.W.Frag} {mg : Str → Option Value} {base : Heap}

/-! ### _law_is -/
def spIs : Sp := fun vs H Q _ => ∃ a b, vs = [.bl a, .bl b] ∧ Q (.bl (a == b)) H
theorem scIs : FnScope ["_law_found", "_law_due"] ["_law_found", "_law_due"] (defScope sLawIs) := ⟨rfl, rfl, rfl, by decide +kernel, rfl, by decide +kernel, by decide +kernel⟩
theorem ok_is {f : Addr} {fd : FuncData} (F : Fun K "_law_is" "_law_is" sLawIs f fd) (B : Blt mg) : FnOk P w K mg base CX0 1 f fd ["_law_found", "_law_due"] spIs := by
  refine F.ok scIs (fun vs H Q E h => ?_) (fun cdv A outer s H vs Q E hr h => ?_)
  · obtain ⟨a, b, rfl, _⟩ := h
    rfl
  · obtain ⟨a, b, rfl, q⟩ := h
    refine ⟨_, pss_one (ps_ret (pe_and (pe_callB call_isi (by rfl) B.isi (by decide +kernel) (pa_cons (pv 0) (pa_cons (pe_bltn (v := .ty "bool") (by rfl) B.bool (by decide +kernel) rfl) pa_nil))) (pe_one (pe_cmpR op_eq (pv 0) (pv 1) (nomark _))))), ?_⟩
    refine ⟨_, rfl, _, _, .type "bool", _, true, rfl, .ty "bool", .base (.bl _), kit_ty (by decide +kernel), true, rfl, ?_⟩
    refine iteT ⟨_, rfl, _, rfl, rfl, ?_⟩
    have e : decide (V.bl a = V.bl b) = (a == b) := dec_bl
    show Q (V.bl (decide (V.bl a = V.bl b))) H
    rw [e]
    exact q

/-! ### _law_taken -/
def rowL (sc : Addr) (p s b : Int) : HO := .lst [.ref sc, .int p, .int s, .int b]
structure RowOk (p s b : Int) : Prop where
  p0 : 0 ≤ p
  s0 : 0 ≤ s
  s1 : s < 2147483648
  b0 : 0 ≤ b
def spTaken (K : PySem.W.Frag) : Sp := fun vs H Q _ => ∃ (r sc : Addr) (ns : List Int) (p s b many : Int), vs = [.ref r, .int many] ∧ H r = some (rowL sc p s b) ∧ SqL K H sc (ns.map V.int) ∧ RowOk p s b ∧ 0 < many ∧ many < 1000 ∧
  ∀ k p' s' b', 0 ≤ k → k < many → RowOk p' s' b' → Q (.int k) (upd H r (rowL sc p' s' b'))
theorem row_ne {H : Hp} {r sc : Addr} {p s b : Int} {ns : List Int} (h : H r = some (rowL sc p s b)) (hs : SqL K H sc (ns.map V.int)) (o : HO) : SqL K (upd H r o) sc (ns.map V.int) := by
  rcases hs with (e | ⟨ob, e⟩) | e
  · refine .inl (.inl ?_)
    rw [upd_ne]
    · exact e
    · rintro rfl
      rw [h] at e
      unfold rowL at e
      cases ns with
      | nil => simp at e
      | cons n r => simp at e
  · refine .inl (.inr ⟨ob, ?_⟩)
    rw [upd_ne]
    · exact e
    · rintro rfl
      rw [h] at e
      unfold rowL at e
      simp at e
  · exact .inr e
theorem scTaken : FnScope ["_law_row", "_law_many", "_law_found", "_law_cell"] ["_law_row", "_law_many"] (defScope sTaken) := ⟨rfl, rfl, rfl, by decide +kernel, rfl, by decide +kernel, by decide +kernel⟩
theorem ok_taken {f : Addr} {fd : FuncData} (F : Fun K "_law_taken" "_law_taken" sTaken f fd) (B : Blt mg) : FnOk P w K mg base CX0 1 f fd ["_law_row", "_law_many"] (spTaken K) := by
  refine F.ok scTaken (fun vs H Q E h => ?_) (fun cdv A outer s H vs Q E hr h => ?_)
  · obtain ⟨r, sc, ns, p, s, b, many, rfl, _⟩ := h
    rfl
  · obtain ⟨r, sc, ns, p, z, b, many, rfl, hR, hS, ok, m0, m1, q⟩ := h
    have nd := scTaken.nd
    have big : (10 : Int) ^ (18 : Int).toNat = 1000000000000000000 := by decide
    refine ⟨_,
      -- if row[3] > 0
      pss_cons (ps_if (pt_cmpR op_gt (pe_ix ix_list (pv 0) pe_int (fun _ _ => rfl)) pe_int (nomark _))
        (pss_cons (ps_set (i := 2) nd rfl (.inl rfl) (pe_op op_mod (pe_callTy call_int1 (by rfl) B.int (by decide +kernel) (pa_cons (pe_ix ix_list (pv 0) pe_int (fun _ _ => rfl)) pa_nil)) (pv 1)))
        (pss_cons (ps_asg (pe_op op_fdiv (pe_ix ix_list (pv 0) pe_int (fun _ _ => rfl)) (pv 1)) (pg_sub (pv 0) pe_int set_list))
        (pss_one (ps_ret (pv 2))))) pss_nil)
      -- row[1] = row[1] + 1
      (pss_cons (ps_asg (pe_op op_add (pe_ix ix_list (pv 0) pe_int (fun _ _ => rfl)) pe_int) (pg_sub (pv 0) pe_int set_list))
      -- if row[1] > len(row[0])
      (pss_cons (ps_if (pt_cmpR op_gt (pe_ix ix_list (pv 0) pe_int (fun _ _ => rfl)) (pe_callB call_len_seq (by rfl) B.len PySem.boot_len (pa_cons (pe_ix ix_list (pv 0) pe_int (fun _ _ => rfl)) pa_nil)) (nomark _))
        (pss_cons (ps_asg (pe_op op_mod (pe_callTy call_int1 (by rfl) B.int (by decide +kernel) (pa_cons (pe_op op_add (pe_op op_mul (pe_ix ix_list (pv 0) pe_int (fun _ _ => rfl)) pe_int) pe_int) pa_nil)) pe_int) (pg_sub (pv 0) pe_int set_list))
        (pss_one (ps_ret (pe_op op_mod (pe_callTy call_int1 (by rfl) B.int (by decide +kernel) (pa_cons (pe_op op_fdiv (pe_ix ix_list (pv 0) pe_int (fun _ _ => rfl)) pe_int) pa_nil)) (pv 1))))) pss_nil)
      -- cell = row[0][row[1] - 1]
      (pss_cons (ps_set (i := 3) nd rfl (.inl rfl) (pe_ix ix_list (pe_ix ix_list (pv 0) pe_int (fun _ _ => rfl)) (pe_op op_sub (pe_ix ix_list (pv 0) pe_int (fun _ _ => rfl)) pe_int) (fun _ _ => rfl)))
      (pss_cons (ps_asg (pe_op op_mod (pe_callTy call_int1 (by rfl) B.int (by decide +kernel) (pa_cons (pe_op op_add (pe_op op_add (pe_op op_mul (pe_ix ix_list (pv 0) pe_int (fun _ _ => rfl)) pe_int) (pv 3)) pe_int) pa_nil)) pe_int) (pg_sub (pv 0) pe_int set_list))
      (pss_cons (ps_if (pt_cmpR op_ge (pv 3) (pe_op op_pow pe_int pe_int) (nomark _))
        (pss_one (ps_asg (pe_op op_fdiv (pv 3) (pv 1)) (pg_sub (pv 0) pe_int set_list))) pss_nil)
      (pss_one (ps_ret (pe_op op_mod (pe_callTy call_int1 (by rfl) B.int (by decide +kernel) (pa_cons (pv 3) pa_nil)) (pv 1))))))))), ?_⟩
    have L0 : SqL K H r [.ref sc, .int p, .int z, .int b] := SqL.of hR
    refine ⟨_, rfl, r, _, 3, _, rfl, rfl, L0, rfl, _, _, rfl, rfl, _, rfl, ite2 (fun hb => ?_) (fun hb => ?_)⟩
    · -- the digits of a great cell
      refine ⟨_, rfl, r, _, 3, _, rfl, rfl, L0, rfl, .inl ⟨_, rfl, _, rfl, _, _, rfl, rfl, m0, ?_⟩⟩
      refine ⟨_, rfl, r, _, 3, _, rfl, rfl, L0, rfl, _, rfl, _, _, rfl, rfl, ⟨m0, by omega⟩, _, rfl, r, _, 3, 3, rfl, rfl, hR, rfl, _, rfl, ?_⟩
      exact q _ p z (b / many) (Int.emod_nonneg _ (by omega)) (Int.emod_lt_of_pos _ m0) ⟨ok.p0, ok.s0, ok.s1, Int.ediv_nonneg ok.b0 (by omega)⟩
    · refine ⟨_, rfl, r, _, 1, _, rfl, rfl, L0, rfl, _, _, rfl, rfl, _, rfl, r, _, 1, 1, rfl, rfl, hR, rfl, ?_⟩
      have e1 : ([.ref sc, .int p, .int z, .int b] : List V).set 1 (.int (p + 1)) = [.ref sc, .int (p + 1), .int z, .int b] := rfl
      rw [e1]
      have hR1 : upd H r (.lst [.ref sc, .int (p + 1), .int z, .int b]) r = some (.lst [.ref sc, .int (p + 1), .int z, .int b]) := upd_same
      have L1 := SqL.of (K := K) hR1
      have hS1 := row_ne hR hS (.lst [.ref sc, .int (p + 1), .int z, .int b])
      refine ⟨_, rfl, r, _, 1, _, rfl, rfl, L1, rfl, _, rfl, r, _, 0, _, rfl, rfl, L1, rfl, sc, _, rfl, .inl hS1, _, _, rfl, rfl, _, rfl, ite2 (fun hl => ?_) (fun hl => ?_)⟩
      · refine ⟨_, rfl, r, _, 2, _, rfl, rfl, L1, rfl, _, _, rfl, rfl, .inl ⟨by have := ok.s0; omega, by have := ok.s1; omega⟩, _, _, rfl, rfl, .inl ⟨_, rfl, _, _, rfl, rfl, by show (0 : Int) < 2147483647; decide, ?_⟩⟩
        refine ⟨_, rfl, r, _, 2, 2, rfl, rfl, hR1, rfl, ?_⟩
        rw [upd_upd]
        have e2 : ([.ref sc, .int (p + 1), .int z, .int b] : List V).set 2 (.int ((z * 48271 + 11) % 2147483647)) = [.ref sc, .int (p + 1), .int ((z * 48271 + 11) % 2147483647), .int b] := rfl
        rw [e2]
        refine ⟨_, rfl, r, _, 2, _, rfl, rfl, SqL.of upd_same, rfl, _, _, rfl, rfl, ⟨by decide, by decide⟩, .inl ⟨_, rfl, _, rfl, _, _, rfl, rfl, m0, ?_⟩⟩
        exact q _ (p + 1) ((z * 48271 + 11) % 2147483647) b (Int.emod_nonneg _ (by omega)) (Int.emod_lt_of_pos _ m0) ⟨by have := ok.p0; omega, Int.emod_nonneg _ (by decide), by have := Int.emod_lt_of_pos (z * 48271 + 11) (show (0 : Int) < 2147483647 by decide); omega, ok.b0⟩
      · have hl' : ¬ ((ns.map V.int).length : Int) < p + 1 := by simpa using hl
        rw [List.length_map] at hl'
        have hlt : p.toNat < ns.length := by have := ok.p0; omega
        have hat : atI (ns.map V.int) (p + 1 - 1) = some (.int ns[p.toNat]) := by
          have e : p + 1 - 1 = ((p.toNat : Nat) : Int) := by have := ok.p0; omega
          rw [e]
          exact atI_nat (by rw [List.getElem?_map, List.getElem?_eq_getElem hlt]; rfl)
        generalize ns[p.toNat] = c at hat
        refine ⟨_, rfl, r, _, 0, _, rfl, rfl, L1, rfl, _, rfl, r, _, 1, _, rfl, rfl, L1, rfl, _, _, rfl, rfl, sc, _, _, _, rfl, rfl, hS1, hat, ?_⟩
        refine ⟨_, rfl, r, _, 2, _, rfl, rfl, L1, rfl, _, _, rfl, rfl, .inl ⟨by have := ok.s0; omega, by have := ok.s1; omega⟩, _, rfl, _, _, rfl, rfl, _, _, rfl, rfl, .inl ⟨_, rfl, _, _, rfl, rfl, by show (0 : Int) < 2147483647; decide, ?_⟩⟩
        refine ⟨_, rfl, r, _, 2, 2, rfl, rfl, hR1, rfl, ?_⟩
        rw [upd_upd]
        have e2 : ([.ref sc, .int (p + 1), .int z, .int b] : List V).set 2 (.int ((z * 48271 + c + 11) % 2147483647)) = [.ref sc, .int (p + 1), .int ((z * 48271 + c + 11) % 2147483647), .int b] := rfl
        rw [e2]
        have okz : RowOk (p + 1) ((z * 48271 + c + 11) % 2147483647) b := ⟨by have := ok.p0; omega, Int.emod_nonneg _ (by decide), by have := Int.emod_lt_of_pos (z * 48271 + c + 11) (show (0 : Int) < 2147483647 by decide); omega, ok.b0⟩
        generalize (z * 48271 + c + 11) % 2147483647 = y at okz
        have hR2 : upd H r (.lst [.ref sc, .int (p + 1), .int y, .int b]) r = some (.lst [.ref sc, .int (p + 1), .int y, .int b]) := upd_same
        refine ⟨_, rfl, _, _, rfl, rfl, ⟨by decide, by decide, by decide⟩, _, _, rfl, rfl, _, rfl, ite2 (fun hc => ?_) (fun hc => ?_)⟩
        · have hc' : (1000000000000000000 : Int) ≤ c := by rw [decide_eq_true_eq, big] at hc; exact hc
          refine ⟨_, rfl, _, rfl, _, _, rfl, rfl, ⟨m0, by omega⟩, _, rfl, r, _, 3, 3, rfl, rfl, hR2, rfl, ?_⟩
          rw [upd_upd]
          refine ⟨_, rfl, .inl ⟨_, rfl, _, rfl, _, _, rfl, rfl, m0, ?_⟩⟩
          exact q _ (p + 1) y (c / many) (Int.emod_nonneg _ (by omega)) (Int.emod_lt_of_pos _ m0) ⟨okz.p0, okz.s0, okz.s1, Int.ediv_nonneg (by omega) (by omega)⟩
        · refine ⟨_, rfl, .inl ⟨_, rfl, _, rfl, _, _, rfl, rfl, m0, ?_⟩⟩
          exact q _ (p + 1) y b (Int.emod_nonneg _ (by omega)) (Int.emod_lt_of_pos _ m0) okz

/-! ### _law_xor -/
/-- found and bit behind k turns -/
def lxs (a b : Nat) : Nat → Nat × Nat
  | 0 => (0, 1)
  | k + 1 => (if (a / (lxs a b k).2 + b / (lxs a b k).2) % 2 = 1 then (lxs a b k).1 + (lxs a b k).2 else (lxs a b k).1, (lxs a b k).2 * 2)
theorem lxs_bit (a b : Nat) : ∀ k, (lxs a b k).2 = 2 ^ k
  | 0 => rfl
  | k + 1 => by
    show (lxs a b k).2 * 2 = 2 ^ (k + 1)
    rw [lxs_bit a b k, Nat.pow_succ]
theorem lxs_tab : ((List.range 8).all fun a => (List.range 8).all fun b => (lxs a b 10).1 == a ^^^ b) = true := by decide +kernel
theorem lxs_xor {a b : Nat} (ha : a < 8) (hb : b < 8) : (lxs a b 10).1 = a ^^^ b := by
  have h := lxs_tab
  rw [List.all_eq_true] at h
  have h1 := h a (List.mem_range.mpr ha)
  rw [List.all_eq_true] at h1
  exact beq_iff_eq.mp (h1 b (List.mem_range.mpr hb))
def spXor : Sp := fun vs H Q _ => ∃ a b : Nat, vs = [.int a, .int b] ∧ a < 8 ∧ b < 8 ∧ ∀ H', Same H H' → Q (.int ((a ^^^ b : Nat) : Int)) H'
theorem scXor : FnScope ["_law_one", "_law_other", "_law_found", "_law_bit", "_law_turn"] ["_law_one", "_law_other"] (defScope sXor) := ⟨rfl, rfl, rfl, by decide +kernel, rfl, by decide +kernel, by decide +kernel⟩
theorem ok_xor {f : Addr} {fd : FuncData} (F : Fun K "_law_xor" "_law_xor" sXor f fd) (B : Blt mg) : FnOk P w K mg base CX0 1 f fd ["_law_one", "_law_other"] spXor := by
  refine F.ok scXor (fun vs H Q E h => ?_) (fun cdv A outer s H vs Q E hr h => ?_)
  · obtain ⟨a, b, rfl, _⟩ := h
    rfl
  · obtain ⟨a, b, rfl, ha, hb, q⟩ := h
    have nd := scXor.nd
    refine ⟨_, pss_cons (ps_asg (pe_tup (pa_cons pe_int (pa_cons pe_int pa_nil))) (pg_tup rfl (pgs_cons (pg_name (i := 2) nd rfl (.inl rfl)) (pgs_cons (pg_name (i := 3) nd rfl (.inl rfl)) pgs_nil))))
      (pss_cons (ps_for PassesOwn.never rfl (pi_range1 rfl B.range (pa_cons pe_int pa_nil)) (pg_name (i := 4) nd rfl (.inl rfl))
        (pss_cons (ps_if (pt_cmpR op_eq (pe_op op_mod (pe_callTy call_int1 (by rfl) B.int (by decide +kernel) (pa_cons (pe_op op_add (pe_op op_fdiv (pv 0) (pv 3)) (pe_op op_fdiv (pv 1) (pv 3))) pa_nil)) pe_int) pe_int (nomark _))
          (pss_one (ps_set (i := 2) nd rfl (.inl rfl) (pe_op op_add (pv 2) (pv 3)))) pss_nil)
        (pss_one (ps_set (i := 3) nd rfl (.inl rfl) (pe_op op_mul (pv 3) pe_int)))))
      (pss_one (ps_ret (pv 2)))), ?_⟩
    refine ⟨by decide, fun t ht => ⟨t, _, rfl, SqT.of upd_same, rfl, _, _, rfl, _, _, rfl, rfl, ?_⟩⟩
    refine ⟨10, rfl, by decide, by decide, for_range (n := 10) (fun i σ H' => ∃ v, σ = [some (.int a), some (.int b), some (.int ((lxs a b i).1 : Nat)), some (.int ((lxs a b i).2 : Nat)), v] ∧ H' = upd H t (.tup [.int 0, .int 1])) ⟨none, rfl, rfl⟩ ?_ ?_⟩
    · rintro i σ H' hi ⟨v, rfl, rfl⟩
      have hbit := lxs_bit a b i
      have hpos : 0 < (lxs a b i).2 := by rw [hbit]; exact Nat.pow_pos (by decide)
      have hle : (lxs a b i).2 ≤ 1024 := by
        rw [hbit]
        have : (2 : Nat) ^ i ≤ 2 ^ 10 := Nat.pow_le_pow_right (by decide) (by omega)
        exact this
      have hc : CDiv ((a : Nat) : Int) (((lxs a b i).2 : Nat) : Int) := ⟨by omega, by omega⟩
      have hc2 : CDiv ((b : Nat) : Int) (((lxs a b i).2 : Nat) : Int) := ⟨by omega, by omega⟩
      refine ⟨_, rfl, _, rfl, _, _, rfl, rfl, hc, _, rfl, _, rfl, _, _, rfl, rfl, hc2, _, _, rfl, rfl, .inl ⟨_, rfl, _, _, rfl, rfl, by show (0 : Int) < 2; decide, rfl, _, rfl, ?_⟩⟩
      have ec : (decide (V.int ((((a : Nat) : Int) / (((lxs a b i).2 : Nat) : Int) + ((b : Nat) : Int) / (((lxs a b i).2 : Nat) : Int)) % 2) = V.int 1)) = decide ((a / (lxs a b i).2 + b / (lxs a b i).2) % 2 = 1) := by
        rw [decide_eq_decide, V.int.injEq]
        have e1 : (((a : Nat) : Int) / (((lxs a b i).2 : Nat) : Int) + ((b : Nat) : Int) / (((lxs a b i).2 : Nat) : Int)) % 2 = (((a / (lxs a b i).2 + b / (lxs a b i).2) % 2 : Nat) : Int) := by
          rw [Int.natCast_emod, Int.natCast_add, Int.natCast_ediv, Int.natCast_ediv]
          rfl
        rw [e1]
        omega
      show (if decide (V.int ((((a : Nat) : Int) / (((lxs a b i).2 : Nat) : Int) + ((b : Nat) : Int) / (((lxs a b i).2 : Nat) : Int)) % 2) = V.int 1) = true then _ else _)
      rw [ec]
      have m1 : CMul (((lxs a b i).2 : Nat) : Int) 2 := .inr ⟨by decide, by decide⟩
      refine ite2 (fun hy => ?_) (fun hn => ?_)
      · have hy' := of_decide_eq_true hy
        refine ⟨_, rfl, _, rfl, _, _, rfl, rfl, _, rfl, _, _, rfl, rfl, m1, some (.int (0 + (i : Nat))), ?_, rfl⟩
        have e1 : (lxs a b (i + 1)) = ((lxs a b i).1 + (lxs a b i).2, (lxs a b i).2 * 2) := by
          show (if _ then _ else _, _) = _
          rw [if_pos hy']
        rw [e1]
        rfl
      · have hn' : ¬ (a / (lxs a b i).2 + b / (lxs a b i).2) % 2 = 1 := fun z => hn (decide_eq_true z)
        refine ⟨_, rfl, _, _, rfl, rfl, m1, some (.int (0 + (i : Nat))), ?_, rfl⟩
        have e1 : (lxs a b (i + 1)) = ((lxs a b i).1, (lxs a b i).2 * 2) := by
          show (if _ then _ else _, _) = _
          rw [if_neg hn']
        rw [e1]
        rfl
    · rintro σ H' ⟨v, rfl, rfl⟩
      refine ⟨_, rfl, ?_⟩
      rw [lxs_xor ha hb]
      exact q _ (same_new ht)
end
end K59
end

section
set_option Elab.async false
set_option linter.all false
set_option maxRecDepth 100000
set_option maxHeartbeats 4000000
/-! Drawn trees: heaps, twigs, bushes; counting their nodes. -/
namespace K59
open PySem L2 PyProof.Rows

/-! ### heaps are in order -/
theorem toks_app (l : List Tr) (t : Tr) (r : List Tr) : ∃ z, W.keyToksAll (dats (l ++ t :: r)) = z ++ (.inl 1 :: (W.keyToks (dat t) ++ W.keyToksAll (dats r))) ∧ W.keyToksAll (dats l) = z ++ [.inl 0] := by
  induction l with
  | nil =>
    refine ⟨[], ?_, ?_⟩
    · rw [List.nil_append, List.nil_append, dats, W.toks_all_cons]
    · rw [dats, W.keyToksAll, List.nil_append]
  | cons u l ih =>
    obtain ⟨z, e1, e2⟩ := ih
    refine ⟨.inl 1 :: (W.keyToks (dat u) ++ z), ?_, ?_⟩
    · rw [List.cons_append, dats, W.toks_all_cons, e1, List.cons_append, List.append_assoc]
    · rw [dats, W.toks_all_cons, e2, List.cons_append, List.append_assoc]
theorem tlt_longer (l : List Tr) (t : Tr) (r : List Tr) : tlt (.nd l) (.nd (l ++ t :: r)) = true := by
  obtain ⟨z, e1, e2⟩ := toks_app l t r
  unfold tlt
  rw [dat, dat, W.dataLt_tuple, e1, e2, W.lex_pre, lex_diff (O := itemOrd) (by simp)]
  decide
theorem piles_split {i : Nat} : ∀ {j : Nat}, i < j → ∃ r, piles j = piles i ++ pile i :: r
  | 0, h => absurd h (Nat.not_lt_zero _)
  | j + 1, h => by
    by_cases e : i = j
    · subst e
      exact ⟨[], by rw [piles, pile]⟩
    · obtain ⟨r, e1⟩ := piles_split (i := i) (j := j) (by omega)
      refine ⟨r ++ [.nd (piles j)], ?_⟩
      rw [piles]
      exact (congrArg (· ++ [Tr.nd (piles j)]) e1).trans (by rw [List.append_assoc, List.cons_append])
theorem pile_lt {i j : Nat} (h : i < j) : tlt (pile i) (pile j) = true := by
  obtain ⟨r, e⟩ := piles_split h
  rw [pile, pile, e]
  exact tlt_longer _ _ _
theorem asc_piles : ∀ n, asc (piles n)
  | 0 => by rw [piles]; exact .nil
  | n + 1 => by
    rw [piles]
    refine List.pairwise_append.mpr ⟨asc_piles n, List.pairwise_singleton _ _, fun a ha b hb => ?_⟩
    obtain ⟨k, hk, rfl⟩ := mem_piles.mp ha
    rw [List.mem_singleton.mp hb]
    have := pile_lt hk
    rwa [pile.eq_1 n] at this
theorem fine_pile : ∀ n, Fine (pile n)
  | n => by
    rw [pile]
    refine .nd (asc_piles n) (Fines.of fun t ht => ?_)
    obtain ⟨k, hk, rfl⟩ := mem_piles.mp ht
    exact fine_pile k
theorem pile_ht : ∀ n, (pile n).ht ≤ n
  | n => by
    rw [pile, Tr.ht]
    refine Tr.hts_le fun t ht => ?_
    obtain ⟨k, hk, rfl⟩ := mem_piles.mp ht
    have := pile_ht k
    omega
theorem nns_app (l m : List Tr) : Tr.nns (l ++ m) = Tr.nns l + Tr.nns m := by
  induction l with
  | nil => rw [List.nil_append, Tr.nns]; omega
  | cons t l ih => rw [List.cons_append, Tr.nns, Tr.nns, ih]; omega
theorem piles_nn : ∀ n, Tr.nns (piles n) + 1 = 2 ^ n
  | 0 => by rw [piles, Tr.nns]
  | n + 1 => by
    have h := piles_nn n
    rw [piles, nns_app, Tr.nns, Tr.nns, Tr.nn, Nat.pow_succ]
    omega
theorem pile_nn (n : Nat) : (pile n).nn = 2 ^ n := by rw [pile, Tr.nn, piles_nn]
theorem TrAt.tup {H : Hp} {a : Addr} {t : Tr} (h : TrAt H (.ref a) t) : ∃ xs, H a = some (.tup xs) ∧ TrsAt H xs t.os ∧ xs.length ≤ 1000 := by
  cases h with
  | nd h1 h2 h3 => exact ⟨_, h1, h3, h2⟩
theorem TrAt.ref {H : Hp} {v : V} {t : Tr} (h : TrAt H v t) : ∃ a, v = .ref a := by
  cases h
  exact ⟨_, rfl⟩
theorem TrAt.nd' {H : Hp} {a : Addr} {xs : List V} {l : List Tr} {n : Nat} (h : H a = some (.tup xs)) (k : TrsAt H xs l) (hn : l.length ≤ n) (h1000 : n ≤ 1000) : TrAt H (.ref a) (.nd l) := .nd h (by rw [k.len]; omega) k

section
variable {P : Program} {w : World} {K : PySem.W.Frag} {mg : Str → Option Value} {base : Heap}
/-! ### _law_pile -/
def spPile : Sp := fun vs H Q _ => ∃ n : Nat, vs = [.int n] ∧ n ≤ 100 ∧ ∀ v H', Same H H' → TrAt H' v (pile n) → Q v H'
theorem scPile : FnScope ["_law_size", "_law_found", "_law_at"] ["_law_size"] (defScope sPile) := ⟨rfl, rfl, rfl, by decide +kernel, rfl, by decide +kernel, by decide +kernel⟩
theorem ok_pile {f : Addr} {fd : FuncData} (F : Fun K "_law_pile" "_law_pile" sPile f fd) (B : Blt mg) : FnOk P w K mg base CX0 1 f fd ["_law_size"] spPile := by
  refine F.ok scPile (fun vs H Q E h => ?_) (fun cdv A outer s H vs Q E hr h => ?_)
  · obtain ⟨n, rfl, _⟩ := h
    rfl
  · obtain ⟨n, rfl, hn, q⟩ := h
    have nd := scPile.nd
    refine ⟨_, pss_cons (ps_set (i := 1) nd rfl (.inl rfl) (pe_lst pa_nil))
      (pss_cons (ps_for PassesOwn.never rfl (pi_range1 rfl B.range (pa_cons (pv 0) pa_nil)) (pg_name (i := 2) nd rfl (.inl rfl))
        (pss_one (ps_set (i := 1) nd rfl (.inl rfl) (pe_op op_cat (pv 1) (pe_lst (pa_cons (pe_callTy call_tuple_of (by rfl) B.tuple (by decide +kernel) (pa_cons (pv 1) pa_nil)) pa_nil))))))
      (pss_one (ps_ret (pe_callTy call_tuple_of (by rfl) B.tuple (by decide +kernel) (pa_cons (pv 1) pa_nil))))), ?_⟩
    refine ⟨Nat.zero_le _, fun l0 hl0 => ⟨_, rfl, (n : Int), rfl, by omega, by omega, ?_⟩⟩
    have en : ((n : Nat) : Int).toNat = n := by omega
    rw [en]
    refine for_range (n := n) (fun i σ H' => ∃ (l : Addr) (xs : List V) (v : Option V), σ = [some (.int n), some (.ref l), v] ∧ Same H H' ∧ H' l = some (.lst xs) ∧ TrsAt H' xs (piles i)) ⟨l0, [], none, rfl, same_new hl0, upd_same, by rw [piles]; exact .nil⟩ ?_ ?_
    · rintro i σ H' hi ⟨l, xs, v, rfl, S, hl, ht⟩
      have hlen : xs.length = i := by rw [ht.len, piles_len]
      refine ⟨_, rfl, _, rfl, l, _, rfl, .inl ⟨SqL.of hl, fun t ht0 => ⟨by show 1 ≤ sizeLine; decide, fun m hm => ?_⟩⟩⟩
      have htm : t ≠ m := fun z => by rw [z, upd_same] at hm; cases hm
      have hlt : l ≠ t := fun z => by rw [z, ht0] at hl; cases hl
      have hlm : l ≠ m := fun z => by rw [← z, upd_ne hlt, hl] at hm; cases hm
      have hl2 : upd (upd H' t (.tup xs)) m (.lst [.ref t]) l = some (.lst xs) := by rw [upd_ne hlm, upd_ne hlt]; exact hl
      refine ⟨l, m, _, _, rfl, rfl, hl2, upd_same, by rw [hlen, sizeLine_eq]; show i + 1 ≤ _; omega, fun p hp => ?_⟩
      have T0 : Tups H' (upd H' t (.tup xs)) := tups_new ht0
      have T1 : Tups H' (upd (upd H' t (.tup xs)) m (.lst [.ref t])) := T0.trans (tups_new hm)
      have T2 : Tups H' (upd (upd (upd H' t (.tup xs)) m (.lst [.ref t])) p (.lst (xs ++ [.ref t]))) := T1.trans (tups_new hp)
      have S3 : Same H (upd (upd (upd H' t (.tup xs)) m (.lst [.ref t])) p (.lst (xs ++ [.ref t]))) := ((S.trans (same_new ht0)).trans (same_new hm)).trans (same_new hp)
      have ht3 : upd (upd (upd H' t (.tup xs)) m (.lst [.ref t])) p (.lst (xs ++ [.ref t])) t = some (.tup xs) := by
        rw [upd_ne (ne_of_none (by rw [upd_ne htm]; exact upd_same) hp), upd_ne htm]
        exact upd_same
      refine ⟨p, xs ++ [.ref t], _, rfl, S3, upd_same, ?_⟩
      rw [piles]
      exact (ht.tups T2).append (.cons (TrAt.nd' ht3 (ht.tups T2) (n := 100) (by rw [piles_len]; omega) (by decide)) .nil)
    · rintro σ H' ⟨l, xs, v, rfl, S, hl, ht⟩
      refine ⟨_, rfl, l, _, rfl, .inl ⟨SqL.of hl, fun t ht0 => ?_⟩⟩
      refine q _ _ (S.trans (same_new ht0)) ?_
      rw [pile]
      exact TrAt.nd' upd_same (ht.tups (tups_new ht0)) (n := 100) (by rw [piles_len]; omega) (by decide)

/-! ### _law_leaves -/
def spLeaves (k : Nat) : Sp := fun vs H Q _ => ∃ (v : V) (t : Tr), vs = [v] ∧ TrAt H v t ∧ t.ht < k ∧ ∀ H', Same H H' → Q (.int t.nn) H'
theorem scLeaves : FnScope ["_law_tree", "_law_one"] ["_law_tree"] (defScope sLeaves) := ⟨rfl, rfl, rfl, by decide +kernel, rfl, by decide +kernel, by decide +kernel⟩
theorem nns_sum : ∀ l : List Tr, (l.map fun t => (t.nn : Int)).sum = (Tr.nns l : Nat)
  | [] => rfl
  | t :: l => by rw [List.map_cons, List.sum_cons, nns_sum l, Tr.nns]; omega
theorem ok_leaves {f : Addr} {fd : FuncData} (F : Fun K "_law_leaves" "_law_leaves" sLeaves f fd) (B : Blt mg) (b : Binds K fd ["_law_tree"] []) (m : mg "_law_leaves" = some (.ref f)) : ∀ k, FnOk P w K mg base CX0 k f fd ["_law_tree"] (spLeaves k)
  | 0 => by
    have no : ∀ vs H Q E, ¬ spLeaves 0 vs H Q E := fun vs H Q E ⟨v, t, _, _, h, _⟩ => Nat.not_lt_zero _ h
    exact ⟨fun vs H Q E h => absurd h (no vs H Q E), fun A outer s H args us vs Q E _ _ _ _ h => absurd h (no vs H Q E)⟩
  | k + 1 => by
    have G := ok_leaves F B b m k
    refine F.ok scLeaves (fun vs H Q E h => ?_) (fun cdv A outer s H vs Q E hr h => ?_)
    · obtain ⟨v, t, rfl, _⟩ := h
      rfl
    obtain ⟨v, t, rfl, ht, hh, q⟩ := h
    obtain ⟨a, rfl⟩ := ht.ref
    obtain ⟨xs, ha, hxs, hx1⟩ := ht.tup
    have nd := scLeaves.nd
    refine ⟨_, pss_one (ps_ret (pe_op op_add pe_int (pe_callB (cr_sum rfl) (by rfl) B.sum (by decide +kernel) (pa_cons
      (pe_lc (own := [("_law_one", 1)]) (g := gName 1) (tt := tYes) rfl nd (pi_tup (pv 0)) (blkOk_by (N := ["_law_tree", "_law_one"]) (sc := defScope sLeaves) (by decide +kernel)) (fun _ _ _ _ _ => pg_name (i := 1) nd rfl (.inl rfl)) (fun _ _ _ _ _ => pts_nil)
        (fun _ _ _ _ _ => pe_call G hr (by rfl) m F.kp b .nil pass0 (pa_cons (pv 1) pa_nil))) pa_nil)))), ?_⟩
    refine ⟨_, rfl, a, rfl, ⟨_, SqT.of ha⟩, fun D hD => lc_tup (K := K) (a := a) (xs := xs) (fun i H' => Same H H' ∧ H' D = some (.lst ((t.os.take i).map fun u => V.int u.nn))) ⟨same_new hD, upd_same⟩ (fun i H' _ z => SqT.of (z.1 _ _ ha)) ?_ ?_⟩
    · rintro i x H' hi ⟨S, hDi⟩
      obtain ⟨u, hu, hx⟩ := hxs.get hi
      have hi1 : i < 1000 := by
        have := (List.getElem?_eq_some_iff.mp hi).1
        omega
      have hum : u ∈ t.os := List.mem_of_getElem? hu
      refine ⟨rfl, _, rfl, x, u, rfl, hx.tups (same_tups S), by have := Tr.ht_os hum; omega, fun H2 S2 => ⟨_, S2 _ _ hDi, ?_, ?_, ?_⟩⟩
      · rw [List.length_map, List.length_take, sizeLine_eq]; omega
      · exact (But.own (S := []) (But.of_same (S.trans S2)) hD).same
      · rw [upd_same, List.take_succ, hu, List.map_append]
        rfl
    · rintro H' ⟨S, hDi⟩
      have e : t.os.take xs.length = t.os := List.take_of_length_le (by rw [hxs.len]; exact Nat.le_refl _)
      rw [e] at hDi
      refine ⟨D, t.os.map fun u => ((u.nn : Nat) : Int), rfl, SqL.of (by rw [hDi, List.map_map]; rfl), _, _, rfl, rfl, ?_⟩
      rw [nns_sum]
      have e2 : (1 : Int) + ((Tr.nns t.os : Nat) : Int) = ((t.nn : Nat) : Int) := by
        cases t with
        | nd l =>
          rw [Tr.nn]
          show (1 : Int) + ((Tr.nns l : Nat) : Int) = _
          omega
      show Q (.int ((1 : Int) + ((Tr.nns t.os : Nat) : Int))) H'
      rw [e2]
      exact q _ S
end
end K59
end

section
set_option Elab.async false
set_option linter.all false
set_option maxRecDepth 100000
set_option maxHeartbeats 4000000
/-! Drawn trees: twigs and bushes. -/
namespace K59
open PySem L2 PyProof.Rows
/-- the script: known, or an object of the module -/
def ScAt (K : PySem.W.Frag) (H : Hp) (sc : Addr) (ns : List Int) : Prop := (∃ o, H sc = some (.frz o (.lst (ns.map V.int)))) ∨
  ∃ (o : Obj) (its : Array Value) (n : Nat), K.lookup sc = some o ∧ o.cls = .type "list" ∧ o.dict = none ∧ o.data = .seq its n ∧ its.size ≤ sizeLine ∧ Vals (ns.map V.int) its.toList
theorem ScAt.seq {K : PySem.W.Frag} {H : Hp} {sc : Addr} {ns : List Int} (h : ScAt K H sc ns) : SqL K H sc (ns.map V.int) := by
  rcases h with ⟨o, h⟩ | h
  · exact .inl (.inr ⟨o, h⟩)
  · exact .inr h
theorem ScAt.same {K : PySem.W.Frag} {H H' : Hp} {sc : Addr} {ns : List Int} (h : ScAt K H sc ns) (S : Same H H') : ScAt K H' sc ns := by
  rcases h with ⟨o, h⟩ | h
  · exact .inl ⟨o, S _ _ h⟩
  · exact .inr h
theorem ScAt.put {K : PySem.W.Frag} {H : Hp} {sc p : Addr} {ns : List Int} {xs : List V} {o : HO} (h : ScAt K H sc ns) (hp : H p = some (.lst xs)) : ScAt K (upd H p o) sc ns := by
  rcases h with ⟨ob, h⟩ | h
  · refine .inl ⟨ob, ?_⟩
    rw [upd_ne]
    · exact h
    · rintro rfl
      rw [hp] at h
      cases h
  · exact .inr h
/-- the row of draws stands at r -/
def RowAt (K : PySem.W.Frag) (H : Hp) (r sc : Addr) (ns : List Int) : Prop := ∃ p s b, H r = some (rowL sc p s b) ∧ RowOk p s b ∧ ScAt K H sc ns
theorem RowAt.same {K : PySem.W.Frag} {H H' : Hp} {r sc : Addr} {ns : List Int} (h : RowAt K H r sc ns) (S : Same H H') : RowAt K H' r sc ns := by
  obtain ⟨p, s, b, h1, h2, h3⟩ := h
  exact ⟨p, s, b, S _ _ h1, h2, h3.same S⟩
theorem RowAt.here {K : PySem.W.Frag} {H : Hp} {r sc : Addr} {ns : List Int} (h : RowAt K H r sc ns) {p' s' b' : Int} (ok : RowOk p' s' b') : RowAt K (upd H r (rowL sc p' s' b')) r sc ns := by
  obtain ⟨p, s, b, h1, h2, h3⟩ := h
  exact ⟨p', s', b', upd_same, ok, h3.put h1⟩
theorem RowAt.put {K : PySem.W.Frag} {H : Hp} {r sc p : Addr} {ns : List Int} {xs : List V} {o : HO} (h : RowAt K H r sc ns) (hp : H p = some (.lst xs)) (n : p ≠ r) : RowAt K (upd H p o) r sc ns := by
  obtain ⟨p', s', b', h1, h2, h3⟩ := h
  exact ⟨p', s', b', by rw [upd_ne (Ne.symm n)]; exact h1, h2, h3.put hp⟩
theorem RowAt.tups {K : PySem.W.Frag} {H H' : Hp} {r sc : Addr} {ns : List Int} (h : RowAt K H r sc ns) (S : But [r] H H') : Tups H H' := fun a xs e => by
  refine S _ _ e ?_
  rw [List.mem_singleton]
  rintro rfl
  obtain ⟨p, s, b, h1, _⟩ := h
  rw [e] at h1
  cases h1
theorem RowAt.some {K : PySem.W.Frag} {H : Hp} {r sc : Addr} {ns : List Int} (h : RowAt K H r sc ns) {p : Addr} (hp : H p = none) : p ≠ r := by
  rintro rfl
  obtain ⟨_, _, _, h1, _⟩ := h
  rw [hp] at h1
  cases h1
section
variable {P : Program} {w : World} {K : PySem.W.Frag} {mg : Str → Option Value} {base : Heap}
/-- a draw, as callers see it -/
def spTaken' (K : PySem.W.Frag) : Sp := fun vs H Q _ => ∃ (r sc : Addr) (ns : List Int) (many : Int), vs = [.ref r, .int many] ∧ RowAt K H r sc ns ∧ 0 < many ∧ many < 1000 ∧
  ∀ (k : Nat) H', (k : Int) < many → But [r] H H' → RowAt K H' r sc ns → Q (.int k) H'
theorem ok_taken' {f : Addr} {fd : FuncData} (F : Fun K "_law_taken" "_law_taken" sTaken f fd) (B : Blt mg) : FnOk P w K mg base CX0 1 f fd ["_law_row", "_law_many"] (spTaken' K) :=
  (ok_taken F B).imp fun vs H Q E ⟨r, sc, ns, many, e, R, m0, m1, q⟩ => by
    obtain ⟨p, s, b, h1, h2, h3⟩ := id R
    refine ⟨r, sc, ns, p, s, b, many, e, h1, h3.seq, h2, m0, m1, fun k p' s' b' k0 k1 ok => ?_⟩
    have ek : k = ((k.toNat : Nat) : Int) := by omega
    rw [ek]
    exact q _ _ (by omega) (but_upd (by simp)) (R.here ok)
/-! ### _law_twig -/
def spTwig (K : PySem.W.Frag) (k : Nat) : Sp := fun vs H Q _ => ∃ (r sc : Addr) (ns : List Int) (d : Nat), vs = [.ref r, .int d] ∧ RowAt K H r sc ns ∧ d < k ∧ d ≤ 4 ∧
  ∀ v H' t, But [r] H H' → RowAt K H' r sc ns → TrAt H' v t → Fine t → t.ht ≤ d + 2 → Q v H'
theorem scTwig : FnScope ["_law_row", "_law_deep", "_law_at"] ["_law_row", "_law_deep"] (defScope sTwig) := ⟨rfl, rfl, rfl, by decide +kernel, rfl, by decide +kernel, by decide +kernel⟩
theorem ok_twig {f fT fP : Addr} {fd fdT fdP : FuncData} (F : Fun K "_law_twig" "_law_twig" sTwig f fd) (B : Blt mg) (b : Binds K fd ["_law_row", "_law_deep"] []) (m : mg "_law_twig" = some (.ref f))
    (FT : Fun K "_law_taken" "_law_taken" sTaken fT fdT) (bT : Binds K fdT ["_law_row", "_law_many"] []) (mT : mg "_law_taken" = some (.ref fT))
    (FP : Fun K "_law_pile" "_law_pile" sPile fP fdP) (bP : Binds K fdP ["_law_size"] []) (mP : mg "_law_pile" = some (.ref fP)) : ∀ k, FnOk P w K mg base CX0 (k + 1) f fd ["_law_row", "_law_deep"] (spTwig K k)
  | 0 => by
    have no : ∀ vs H Q E, ¬ spTwig K 0 vs H Q E := fun vs H Q E ⟨r, sc, ns, d, _, _, h, _⟩ => Nat.not_lt_zero _ h
    exact ⟨fun vs H Q E h => absurd h (no vs H Q E), fun A outer s H args us vs Q E _ _ _ _ h => absurd h (no vs H Q E)⟩
  | k + 1 => by
    have G := ok_twig F B b m FT bT mT FP bP mP k
    have GT : FnOk P w K mg base CX0 1 fT fdT ["_law_row", "_law_many"] (spTaken' K) := ok_taken' FT B
    have GP : FnOk P w K mg base CX0 1 fP fdP ["_law_size"] spPile := ok_pile FP B
    refine F.ok scTwig (fun vs H Q E h => ?_) (fun cdv A outer s H vs Q E hr h => ?_)
    · obtain ⟨r, sc, ns, d, rfl, _⟩ := h
      rfl
    obtain ⟨r, sc, ns, d, rfl, hR, hd, hd4, q⟩ := h
    have nd := scTwig.nd
    have hr1 := hr.mono (show 1 ≤ k + 1 by omega)
    have hu := hr.units
    refine ⟨_, pss_cons (ps_if (pt_cmpR op_eq (pv 1) pe_int (nomark _))
        (pss_one (ps_ret (pe_call GP hr1 (by rfl) mP FP.kp bP .nil pass0 (pa_cons (pe_call GT hr1 (by rfl) mT FT.kp bT .nil pass0 (pa_cons (pv 0) (pa_cons pe_int pa_nil))) pa_nil)))) pss_nil)
      (pss_one (ps_ret (pe_callTy call_tuple_of (by rfl) B.tuple (by decide +kernel) (pa_cons (pe_callB (cr_sortS rfl hu) (by rfl) B.sorted (by decide +kernel) (pa_cons (pe_callTy (cr_setN rfl hu) (by rfl) B.set (by decide +kernel) (pa_cons
        (pe_lc (own := [("_law_at", 2)]) (g := gName 2) (tt := tYes) rfl nd (pi_range1 rfl B.range (pa_cons (pe_call GT hr1 (by rfl) mT FT.kp bT .nil pass0 (pa_cons (pv 0) (pa_cons pe_int pa_nil))) pa_nil))
          (blkOk_by (N := ["_law_row", "_law_deep", "_law_at"]) (sc := defScope sTwig) (by decide +kernel)) (fun _ _ _ _ _ => pg_name (i := 2) nd rfl (.inl rfl)) (fun _ _ _ _ _ => pts_nil)
          (fun _ _ _ _ _ => pe_call G hr (by rfl) m F.kp b .nil pass0 (pa_cons (pv 0) (pa_cons (pe_op op_sub (pv 1) pe_int) pa_nil)))) pa_nil)) pa_nil)) pa_nil)))), ?_⟩
    refine ⟨_, rfl, rfl, _, rfl, ite2 (fun h0 => ?_) (fun h0 => ?_)⟩
    · have hd0 : d = 0 := by
        have z := of_decide_eq_true h0
        injection z with z
        omega
      subst hd0
      refine ⟨_, rfl, r, sc, ns, 3, rfl, hR, by decide, by decide, fun k1 H1 hk1 B1 R1 => ⟨k1, rfl, by omega, fun v H2 S2 hv => ?_⟩⟩
      refine q v H2 (pile k1) (B1.trans (But.of_same S2)) (R1.same S2) hv (fine_pile k1) ?_
      have := pile_ht k1
      omega
    · have hd0 : 0 < d := by
        rcases Nat.eq_zero_or_pos d with z | z
        · exact absurd (decide_eq_true (by rw [z]; rfl)) h0
        · exact z
      refine ⟨_, rfl, r, sc, ns, 4, rfl, hR, by decide, by decide, fun k1 H1 hk1 B1 R1 => ⟨(k1 : Int), rfl, by omega, by omega, ?_⟩⟩
      have e1 : ((k1 : Nat) : Int).toNat = k1 := by omega
      rw [e1]
      intro D hD
      have hDr : D ≠ r := R1.some hD
      have hD0 : H D = none := fresh_of B1 hD (by simpa using hDr)
      refine lc_range (n := k1) (fun i H' => But [r] H H' ∧ RowAt K H' r sc ns ∧ ∃ (xs : List V) (ts : List Tr), H' D = some (.lst xs) ∧ TrsAt H' xs ts ∧ ts.length = i ∧ ∀ t ∈ ts, Fine t ∧ t.ht ≤ d + 1)
        ⟨B1.trans (But.of_same (same_new hD)), R1.same (same_new hD), [], [], upd_same, .nil, rfl, fun t ht => by cases ht⟩ ?_ ?_
      · rintro i H' hi ⟨BH, RH, xs, ts, hDx, hts, hlen, hall⟩
        have ed : ((d : Nat) : Int) - 1 = ((d - 1 : Nat) : Int) := by omega
        refine ⟨rfl, _, rfl, _, rfl, _, _, rfl, rfl, r, sc, ns, d - 1, by rw [← ed]; rfl, RH, by omega, by omega, fun v H2 t B2 R2 hv hf hh => ?_⟩
        have tu := RH.tups B2
        have hD2 : H2 D = some (.lst xs) := B2 _ _ hDx (by simpa using hDr)
        have tu3 : Tups H2 (upd H2 D (.lst (xs ++ [v]))) := tups_upd fun ys z => by rw [hD2] at z; cases z
        refine ⟨xs, hD2, by rw [hts.len, hlen, sizeLine_eq]; omega, (BH.trans B2).own hD0, R2.put hD2 hDr, xs ++ [v], ts ++ [t], upd_same, ((hts.tups tu).tups tu3).append (.cons (hv.tups tu3) .nil), by rw [List.length_append, hlen]; rfl, fun u hu => ?_⟩
        · rcases List.mem_append.mp hu with z | z
          · exact hall u z
          · rw [List.mem_singleton.mp z]; exact ⟨hf, by omega⟩
      · rintro H' ⟨BH, RH, xs, ts, hDx, hts, hlen, hall⟩
        refine ⟨D, xs, ts, rfl, SqL.of hDx, hts, fun t ht => by have := (hall t ht).2; omega, by omega, fun a L ha hL hLts => ?_⟩
        refine ⟨a, L, rfl, upd_same, fun p hp => (hL p hp).tups (tups_new ha), fun p hp => by have := (hall p.2 ((hLts _).mp (List.mem_map_of_mem hp))).2; omega, fun l ys us hl hys hus hasc hlen4 => ?_⟩
        refine ⟨l, ys, rfl, .inl ⟨SqL.of upd_same, fun t ht => ?_⟩⟩
        have S3 : Same H' (upd (upd (upd H' a (SNO _ a L)) l (.lst ys)) t (.tup ys)) := ((same_new ha).trans (same_new hl)).trans (same_new ht)
        have hmem : ∀ u ∈ us, u ∈ ts := fun u hu' => (hLts u).mp ((hus u).mp hu')
        refine q _ _ (.nd us) (BH.trans (But.of_same S3)) (RH.same S3) (TrAt.nd' upd_same (hys.tups ((tups_new hl).trans (tups_new ht))) hlen4 (by decide)) (.nd hasc (Fines.of fun u hu' => (hall u (hmem u hu')).1)) ?_
        rw [Tr.ht]
        exact Tr.hts_le fun u hu' => by have := (hall u (hmem u hu')).2; omega
/-! ### _law_bush -/
def spBush (K : PySem.W.Frag) : Sp := fun vs H Q _ => ∃ (r sc : Addr) (ns : List Int), vs = [.ref r, .int 2, .int 14] ∧ RowAt K H r sc ns ∧
  ∀ v H' t, But [r] H H' → RowAt K H' r sc ns → TrAt H' v t → Fine t → t.ht ≤ 4 → t.nn ≤ 14 → Q v H'
theorem scBush : FnScope ["_law_row", "_law_deep", "_law_most", "_law_tree"] ["_law_row", "_law_deep", "_law_most"] (defScope sBush) := ⟨rfl, rfl, rfl, by decide +kernel, rfl, by decide +kernel, by decide +kernel⟩
theorem ok_bush {f fT fP fW fL : Addr} {fd fdT fdP fdW fdL : FuncData} (F : Fun K "_law_bush" "_law_bush" sBush f fd) (B : Blt mg)
    (FT : Fun K "_law_taken" "_law_taken" sTaken fT fdT) (bT : Binds K fdT ["_law_row", "_law_many"] []) (mT : mg "_law_taken" = some (.ref fT))
    (FP : Fun K "_law_pile" "_law_pile" sPile fP fdP) (bP : Binds K fdP ["_law_size"] []) (mP : mg "_law_pile" = some (.ref fP))
    (FW : Fun K "_law_twig" "_law_twig" sTwig fW fdW) (bW : Binds K fdW ["_law_row", "_law_deep"] []) (mW : mg "_law_twig" = some (.ref fW))
    (FL : Fun K "_law_leaves" "_law_leaves" sLeaves fL fdL) (bL : Binds K fdL ["_law_tree"] []) (mL : mg "_law_leaves" = some (.ref fL)) : FnOk P w K mg base CX0 6 f fd ["_law_row", "_law_deep", "_law_most"] (spBush K) := by
  have GT : FnOk P w K mg base CX0 1 fT fdT ["_law_row", "_law_many"] (spTaken' K) := ok_taken' FT B
  have GP : FnOk P w K mg base CX0 1 fP fdP ["_law_size"] spPile := ok_pile FP B
  have GW : FnOk P w K mg base CX0 4 fW fdW ["_law_row", "_law_deep"] (spTwig K 3) := ok_twig FW B bW mW FT bT mT FP bP mP 3
  have GL : FnOk P w K mg base CX0 5 fL fdL ["_law_tree"] (spLeaves 5) := ok_leaves FL B bL mL 5
  refine F.ok scBush (fun vs H Q E h => ?_) (fun cdv A outer s H vs Q E hr h => ?_)
  · obtain ⟨r, sc, ns, rfl, _⟩ := h
    rfl
  obtain ⟨r, sc, ns, rfl, hR, q⟩ := h
  have nd := scBush.nd
  have hr1 := hr.mono (show 1 ≤ 5 by decide)
  refine ⟨_, pss_cons (ps_set (i := 3) nd rfl (.inl rfl) (pe_call GW (hr.mono (by decide)) (by rfl) mW FW.kp bW .nil pass0 (pa_cons (pv 0) (pa_cons (pv 1) pa_nil))))
    (pss_one (ps_ret (pe_ifExp (pt_cmpR op_le (pe_call GL hr (by rfl) mL FL.kp bL .nil pass0 (pa_cons (pv 3) pa_nil)) (pv 2) (nomark _)) (pv 3)
      (pe_call GP hr1 (by rfl) mP FP.kp bP .nil pass0 (pa_cons (pe_call GT hr1 (by rfl) mT FT.kp bT .nil pass0 (pa_cons (pv 0) (pa_cons pe_int pa_nil))) pa_nil))))), ?_⟩
  refine ⟨_, rfl, _, rfl, r, sc, ns, 2, rfl, hR, by decide, by decide, fun v H1 t B1 R1 hv hf hh => ?_⟩
  refine ⟨_, rfl, v, t, rfl, hv, by omega, fun H2 S2 => ⟨_, rfl, _, _, rfl, rfl, _, rfl, ite2 (fun hc => ?_) (fun hc => ?_)⟩⟩
  · have hc' := of_decide_eq_true hc
    exact ⟨_, rfl, q v H2 t (B1.trans (But.of_same S2)) (R1.same S2) (hv.tups (same_tups S2)) hf hh (by omega)⟩
  · refine ⟨_, rfl, r, sc, ns, 3, rfl, R1.same S2, by decide, by decide, fun k1 H3 hk1 B3 R3 => ⟨k1, rfl, by omega, fun v' H4 S4 hv' => ?_⟩⟩
    have h1 := pile_ht k1
    have h2 : 2 ^ k1 ≤ 2 ^ 2 := Nat.pow_le_pow_right (by decide) (by omega)
    exact q v' H4 (pile k1) (((B1.trans (But.of_same S2)).trans B3).trans (But.of_same S4)) (R3.same S4) hv' (fine_pile k1) (by omega) (by rw [pile_nn]; omega)
end
end K59
end

section
set_option Elab.async false
set_option linter.all false
set_option maxRecDepth 100000
set_option maxHeartbeats 8000000
/-! is_ascending, is_tree: True for trees in order. -/
namespace K59
open PySem L2 PyProof.Rows
mutual
theorem dat_shaped0 : ∀ t : Tr, (dat t).canLay0 = true
  | .nd l => by rw [dat, PyData.canLay0]; exact dats_shaped0 l
theorem dats_shaped0 : ∀ l : List Tr, PyData.canLayAll0 (dats l) = true
  | [] => by rw [dats, PyData.canLayAll0]
  | t :: l => by rw [dats, PyData.canLayAll0, dat_shaped0 t, dats_shaped0 l]; rfl
end
theorem Fine.asc {t : Tr} (h : Fine t) : asc t.os := by cases h with | nd a b => exact a
theorem Fine.sub {t u : Tr} (h : Fine t) (hu : u ∈ t.os) : Fine u := by cases h with | nd a b => exact b.all u hu
theorem len_nns : ∀ l : List Tr, l.length ≤ Tr.nns l
  | [] => Nat.zero_le _
  | t :: l => by
    have := len_nns l
    have := t.nn_pos
    rw [List.length_cons, Tr.nns]
    omega
theorem len_nn (t : Tr) : t.os.length < t.nn := by
  cases t with
  | nd l =>
    have := len_nns l
    rw [Tr.nn]
    show l.length < _
    omega
/-- what waits: the pair's address, the tree, its depth -/
abbrev Pd := Addr × Tr × Nat
def pdW (ps : List Pd) : Nat := (ps.map (·.2.1.nn)).sum
theorem pdW_app (ps qs : List Pd) : pdW (ps ++ qs) = pdW ps + pdW qs := by unfold pdW; rw [List.map_append, List.sum_append]
theorem pdW_len : ∀ ps : List Pd, ps.length ≤ pdW ps
  | [] => Nat.zero_le _
  | p :: ps => by
    have := pdW_len ps
    have := p.2.1.nn_pos
    unfold pdW at *
    rw [List.map_cons, List.sum_cons, List.length_cons]
    omega
/-- a pair stands -/
def PdAt (H : Hp) (p : Pd) : Prop := ∃ v, H p.1 = some (.tup [v, .int p.2.2]) ∧ TrAt H v p.2.1 ∧ p.2.2 + p.2.1.ht ≤ 12
theorem PdAt.tups {H H' : Hp} {p : Pd} (h : PdAt H p) (k : Tups H H') : PdAt H' p := by
  obtain ⟨v, h1, h2, h3⟩ := h
  exact ⟨v, k _ _ h1, h2.tups k, h3⟩
def pdD (p : Pd) : PyData := .tuple [dat p.2.1, .int p.2.2]
theorem pds_dp {K : PySem.W.Frag} {H : Hp} : ∀ {ps : List Pd}, (∀ p ∈ ps, PdAt H p) → DpAll K H (ps.map fun p => V.ref p.1) (ps.map pdD)
  | [], _ => .nil
  | p :: ps, h => by
    obtain ⟨v, h1, h2, _⟩ := h p List.mem_cons_self
    exact .cons (.tup (SqT.of h1) (.cons (TrAt.dp _ _ h2) (.cons (.int _) .nil))) (pds_dp fun q hq => h q (List.mem_cons_of_mem _ hq))
theorem pds_shape : ∀ {ps : List Pd}, (∀ p ∈ ps, p.2.1.ht ≤ 12) → PyData.canLayAll0 (ps.map pdD) = true ∧ PyData.depthAll (ps.map pdD) ≤ 20
  | [], _ => ⟨rfl, by rw [List.map_nil, PyData.depthAll]; omega⟩
  | p :: ps, h => by
    obtain ⟨h1, h2⟩ := pds_shape fun q hq => h q (List.mem_cons_of_mem _ hq)
    have h3 := h p List.mem_cons_self
    refine ⟨?_, ?_⟩
    · rw [List.map_cons, PyData.canLayAll0, h1, pdD, PyData.canLay0, PyData.canLayAll0, PyData.canLayAll0, PyData.canLayAll0, PyData.canLay0, dat_shaped0]
      rfl
    · rw [List.map_cons, PyData.depthAll, pdD, PyData.depth, PyData.depthAll, PyData.depthAll, PyData.depthAll, PyData.depth, dat_depth]
      omega
section
variable {P : Program} {w : World} {K : PySem.W.Frag} {mg : Str → Option Value} {base : Heap}
/-! ### is_ascending -/
def spAsc (k : Nat) : Sp := fun vs H Q _ => ∃ (v : V) (t : Tr), vs = [v] ∧ TrAt H v t ∧ Fine t ∧ t.ht < k ∧ t.ht ≤ 30 ∧ ∀ H', Same H H' → Q (.bl true) H'
theorem scAsc : FnScope ["tree", "at", "option"] ["tree"] (defScope sIsAsc) := ⟨rfl, rfl, rfl, by decide +kernel, rfl, by decide +kernel, by decide +kernel⟩
theorem all_true (n : Nat) : (List.replicate n true).all id = true := by
  rw [List.all_eq_true]
  intro x hx
  exact List.eq_of_mem_replicate hx
theorem ok_asc {f : Addr} {fd : FuncData} (F : Fun K "is_ascending" "is_ascending" sIsAsc f fd) (B : Blt mg) (b : Binds K fd ["tree"] []) (m : mg "is_ascending" = some (.ref f)) : ∀ k, FnOk P w K mg base CX0 k f fd ["tree"] (spAsc k)
  | 0 => by
    have no : ∀ vs H Q E, ¬ spAsc 0 vs H Q E := fun vs H Q E ⟨v, t, _, _, _, h, _⟩ => Nat.not_lt_zero _ h
    exact ⟨fun vs H Q E h => absurd h (no vs H Q E), fun A outer s H args us vs Q E _ _ _ _ h => absurd h (no vs H Q E)⟩
  | k + 1 => by
    have G := ok_asc F B b m k
    refine F.ok scAsc (fun vs H Q E h => ?_) (fun cdv A outer s H vs Q E hr h => ?_)
    · obtain ⟨v, t, rfl, _⟩ := h
      rfl
    obtain ⟨v, t, rfl, ht, hf, hk, hh, q⟩ := h
    obtain ⟨a, rfl⟩ := ht.ref
    obtain ⟨xs, ha, hxs, hx1⟩ := ht.tup
    have nd := scAsc.nd
    have hu := hr.units
    have hlen := hxs.len
    refine ⟨_, pss_cons (ps_if (pt_not (pt_val (pe_callB (cr_all rfl) (by rfl) B.all (by decide +kernel) (pa_cons
          (pe_lc (own := [("at", 1)]) (g := gName 1) (tt := tYes) rfl nd (pi_range1 rfl B.range (pa_cons (pe_op op_sub (pe_callB (r := fun xs H Q => ∃ p ys, xs = [.ref p] ∧ (SqL K H p ys ∨ SqT K H p ys) ∧ Q (.int ys.length) H) call_len_seq (by rfl) B.len PySem.boot_len (pa_cons (pv 0) pa_nil)) pe_int) pa_nil))
            (blkOk_by (N := ["tree", "at", "option"]) (sc := defScope sIsAsc) (by decide +kernel)) (fun _ _ _ _ _ => pg_name (i := 1) nd rfl (.inl rfl)) (fun _ _ _ _ _ => pts_nil)
            (fun _ _ _ _ _ => pe_cmpR (op_ltTr hu) (pe_ix (r := rIxT K) ix_tup (pv 0) (pv 1) (fun _ _ => rfl)) (pe_ix (r := rIxT K) ix_tup (pv 0) (pe_op op_add (pv 1) pe_int) (fun _ _ => rfl)) (nomark _))) pa_nil))))
        (pss_one (ps_ret pe_bl)) pss_nil)
      (pss_one (ps_ret (pe_callB (cr_all rfl) (by rfl) B.all (by decide +kernel) (pa_cons
          (pe_lc (own := [("option", 2)]) (g := gName 2) (tt := tYes) rfl nd (pi_tup (pv 0)) (blkOk_by (N := ["tree", "at", "option"]) (sc := defScope sIsAsc) (by decide +kernel)) (fun _ _ _ _ _ => pg_name (i := 2) nd rfl (.inl rfl)) (fun _ _ _ _ _ => pts_nil)
            (fun _ _ _ _ _ => pe_call G hr (by rfl) m F.kp b .nil pass0 (pa_cons (pv 2) pa_nil))) pa_nil)))), ?_⟩
    refine ⟨_, rfl, a, _, rfl, .inr (SqT.of ha), _, _, rfl, rfl, ((xs.length : Nat) : Int) - 1, rfl, by omega, by omega, ?_⟩
    intro D hD
    refine lc_range (fun i H' => Same H H' ∧ H' D = some (.lst ((List.replicate i true).map V.bl))) ⟨same_new hD, upd_same⟩ ?_ ?_
    · rintro i H' hi ⟨S, hDi⟩
      have hi2 : i + 1 < t.os.length := by omega
      have hx0 : i < xs.length := by omega
      have hx2 : i + 1 < xs.length := by omega
      obtain ⟨u, hu1, hu2⟩ := hxs.get (List.getElem?_eq_getElem hx0)
      obtain ⟨u', hu1', hu2'⟩ := hxs.get (List.getElem?_eq_getElem hx2)
      have e0 : atI xs (0 + ((i : Nat) : Int)) = some xs[i] := by
        rw [Int.zero_add]
        exact atI_nat (List.getElem?_eq_getElem hx0)
      have e1 : atI xs (0 + ((i : Nat) : Int) + 1) = some xs[i + 1] := by
        have e : 0 + ((i : Nat) : Int) + 1 = ((i + 1 : Nat) : Int) := by omega
        rw [e]
        exact atI_nat (List.getElem?_eq_getElem hx2)
      have hlt : tlt u u' = true := by
        have p := hf.asc
        unfold asc at p
        rw [List.pairwise_iff_getElem] at p
        obtain ⟨g1, g2⟩ := List.getElem?_eq_some_iff.mp hu1
        obtain ⟨g3, g4⟩ := List.getElem?_eq_some_iff.mp hu1'
        rw [← g2, ← g4]
        exact p i (i + 1) g1 g3 (Nat.lt_succ_self _)
      have huh := Tr.ht_os (List.mem_of_getElem? hu1)
      refine ⟨rfl, _, rfl, _, rfl, a, xs, _, _, rfl, rfl, SqT.of (S _ _ ha), e0, _, rfl, _, rfl, _, _, rfl, rfl, a, xs, _, _, rfl, rfl, SqT.of (S _ _ ha), e1, u, u', hu2.tups (same_tups S), hu2'.tups (same_tups S), by omega, _, hDi, ?_, ?_, ?_⟩
      · rw [List.length_map, List.length_replicate, sizeLine_eq]; omega
      · exact (But.own (S := []) (But.of_same S) hD).same
      · rw [upd_same, hlt, List.replicate_succ', List.map_append]
        rfl
    · rintro H' ⟨S, hDi⟩
      refine ⟨D, _, rfl, SqL.of hDi, true, by rw [all_true], ?_⟩
      refine ⟨_, rfl, a, rfl, ⟨_, SqT.of (S _ _ ha)⟩, fun D2 hD2 => lc_tup (K := K) (a := a) (xs := xs) (fun i H2 => Same H' H2 ∧ H2 D2 = some (.lst ((List.replicate i true).map V.bl))) ⟨same_new hD2, upd_same⟩ (fun i H2 _ z => SqT.of (z.1 _ _ (S _ _ ha))) ?_ ?_⟩
      · rintro i x H2 hi ⟨S2, hDi2⟩
        obtain ⟨u, hu', hx⟩ := hxs.get hi
        have hi1 := (List.getElem?_eq_some_iff.mp hi).1
        have hum := List.mem_of_getElem? hu'
        have huh := Tr.ht_os hum
        refine ⟨rfl, _, rfl, x, u, rfl, hx.tups (same_tups (S.trans S2)), hf.sub hum, by omega, by omega, fun H3 S3 => ⟨_, S3 _ _ hDi2, ?_, ?_, ?_⟩⟩
        · rw [List.length_map, List.length_replicate, sizeLine_eq]; omega
        · exact (But.own (S := []) (But.of_same (S2.trans S3)) hD2).same
        · rw [upd_same, List.replicate_succ', List.map_append]
          rfl
      · rintro H2 ⟨S2, hDi2⟩
        refine ⟨D2, _, rfl, SqL.of hDi2, ?_⟩
        rw [all_true]
        exact q _ (S.trans S2)
end
end K59
end

section
set_option Elab.async false
set_option linter.all false
set_option maxRecDepth 100000
set_option maxHeartbeats 8000000
/-! is_tree: True for trees in order, within the limits. -/
namespace K59
open PySem L2 PyProof.Rows
theorem iteN {c : Bool} {A B : Prop} (e : c = false) (h : B) : if c = true then A else B := by rw [e]; exact iteF h
theorem iteY {c : Bool} {A B : Prop} (e : c = true) (h : A) : if c = true then A else B := by rw [e]; exact iteT h
theorem pds_nil {ps : List Pd} : (!PyData.eqv (.list (ps.map pdD)) (.list [])) = !decide (ps = []) := by
  cases ps with
  | nil => rfl
  | cons p ps => rfl
theorem shaped_pds {ps : List Pd} (h : ∀ p ∈ ps, p.2.1.ht ≤ 12) : SeqAt.shaped (.list (ps.map pdD)) = true := by
  obtain ⟨h1, h2⟩ := pds_shape h
  unfold SeqAt.shaped
  rw [PyData.canLay0, PyData.depth, h1]
  have : PyData.depthAll (ps.map pdD) + 1 ≤ 64 := by omega
  simp only [Bool.true_and, decide_eq_true_eq]
  omega
theorem PdAt.upd_lst {H : Hp} {p : Pd} {l : Addr} {xs : List V} {o : HO} (h : PdAt H p) (e : H l = some (.lst xs)) : PdAt (upd H l o) p :=
  h.tups (tups_upd fun ys z => by rw [e] at z; cases z)
theorem nns_pds (b : Nat) : ∀ (as : List Addr) (ts : List Tr), as.length = ts.length → pdW ((as.zip ts).map fun q => (q.1, q.2, b)) = Tr.nns ts
  | [], [], _ => rfl
  | a :: as, t :: ts, e => by
    have := nns_pds b as ts (by simpa using e)
    unfold pdW at *
    rw [List.zip_cons_cons, List.map_cons, List.map_cons, List.sum_cons, this, Tr.nns]
  | [], _ :: _, e => by simp at e
  | _ :: _, [], e => by simp at e
section
variable {P : Program} {w : World} {K : PySem.W.Frag} {mg : Str → Option Value} {base : Heap}
/-- the limits -/
structure Lim (mg : Str → Option Value) : Prop where
  nodes : ∃ t, mg "MOST_TREE_NODES" = some (.int 400 t)
  height : ∃ t, mg "MOST_TREE_HEIGHT" = some (.int 12 t)
  trees : ∃ t, mg "MOST_TREES" = some (.int 4 t)
  heap : ∃ t, mg "MOST_HEAP" = some (.int 6 t)
  gn : ∃ t, mg "MOST_NODES" = some (.int 2000 t)
  gh : ∃ t, mg "MOST_HEIGHT" = some (.int 40 t)
def spIsTree : Sp := fun vs H Q _ => ∃ (v : V) (t : Tr), vs = [v] ∧ TrAt H v t ∧ Fine t ∧ t.ht ≤ 12 ∧ t.nn ≤ 400 ∧ ∀ H', Same H H' → Q (.bl true) H'
theorem scIsTree : FnScope ["value", "pending", "many", "told", "depth", "option"] ["value"] (defScope sIsTree) := ⟨rfl, rfl, rfl, by decide +kernel, rfl, by decide +kernel, by decide +kernel⟩
theorem ok_isTree {f fA : Addr} {fd fdA : FuncData} (F : Fun K "is_tree" "is_tree" sIsTree f fd) (B : Blt mg) (L : Lim mg)
    (FA : Fun K "is_ascending" "is_ascending" sIsAsc fA fdA) (bA : Binds K fdA ["tree"] []) (mA : mg "is_ascending" = some (.ref fA)) : FnOk P w K mg base CX0 14 f fd ["value"] spIsTree := by
  have GA : FnOk P w K mg base CX0 13 fA fdA ["tree"] (spAsc 13) := ok_asc FA B bA mA 13
  refine F.ok scIsTree (fun vs H Q E h => ?_) (fun cdv A outer s H vs Q E hr h => ?_)
  · obtain ⟨v, t, rfl, _⟩ := h
    rfl
  obtain ⟨v, t0, rfl, ht0, hf0, hh0, hn0, q⟩ := h
  have nd := scIsTree.nd
  have hu := hr.units
  obtain ⟨tN, mN⟩ := L.nodes
  obtain ⟨tH, mH⟩ := L.height
  refine ⟨_, pss_cons (ps_par (i := 1) (j := 2) rfl nd rfl rfl (by decide) rfl rfl (pa_cons (pe_lst (pa_cons (pe_tup (pa_cons (pv 0) (pa_cons pe_int pa_nil))) pa_nil)) (pa_cons pe_int pa_nil)) rfl)
    (pss_cons (ps_while PassesOwn.never (pt_cmpR (op_neD hu) (pv 1) (pe_lst pa_nil) (nomark _))
      (pss_cons (ps_asg (pe_bm0 PySem.F.plainAttrs_list PySem.F.slot_list_pop PySem.F.type_list_pop mt_pop (pv 1)) (pg_tup rfl (pgs_cons (pg_name (i := 3) nd rfl (.inl rfl)) (pgs_cons (pg_name (i := 4) nd rfl (.inr rfl)) pgs_nil))))
      (pss_cons (ps_aug nd (i := 2) rfl (.inl rfl) pe_int ip_add)
      (pss_cons (ps_if (pw_or (pt_cmpR op_gt (pv 2) (pe_glob (v := .int 400) (by rfl) mN ⟨tN, rfl⟩) (nomark _)) (pw_or (pt_cmpR op_gt (pv 4) (pe_glob (v := .int 12) (by rfl) mH ⟨tH, rfl⟩) (nomark _)) (pw_or1 (pt_not (pt_val (pe_callB call_isi (by rfl) B.isi (by decide +kernel) (pa_cons (pv 3) (pa_cons (pe_bltn (v := .ty "tuple") (by rfl) B.tuple (by decide +kernel) rfl) pa_nil)))))))).pt
        (pss_one (ps_ret pe_bl)) pss_nil)
      (pss_cons (ps_if (pw_or (pt_cmpR op_gt (pe_callB call_len_seq (by rfl) B.len PySem.boot_len (pa_cons (pv 3) pa_nil)) (pe_glob (v := .int 400) (by rfl) mN ⟨tN, rfl⟩) (nomark _)) (pw_or1 (pt_not (pt_val (pe_callB (cr_all rfl) (by rfl) B.all (by decide +kernel) (pa_cons
            (pe_lc (own := [("option", 5)]) (g := gName 5) (tt := tYes) rfl nd (pi_tup (pv 3)) (blkOk_by (N := ["value", "pending", "many", "told", "depth", "option"]) (sc := defScope sIsTree) (by decide +kernel)) (fun _ _ _ _ _ => pg_name (i := 5) nd rfl (.inl rfl)) (fun _ _ _ _ _ => pts_nil)
              (fun _ _ _ _ _ => pe_callB (r := rIsi K) call_isi (by rfl) B.isi (by decide +kernel) (pa_cons (pv 5) (pa_cons (pe_bltn (v := .ty "tuple") (by rfl) B.tuple (by decide +kernel) rfl) pa_nil)))) pa_nil)))))).pt
        (pss_one (ps_ret pe_bl)) pss_nil)
      (pss_one (ps_expr (pe_bm PySem.F.plainAttrs_list PySem.F.slot_list_extend PySem.F.type_list_extend mt_extend (pv 1) (pa_cons
            (pe_lc (own := [("option", 5)]) (g := gName 5) (tt := tYes) rfl nd (pi_tup (pv 3)) (blkOk_by (N := ["value", "pending", "many", "told", "depth", "option"]) (sc := defScope sIsTree) (by decide +kernel)) (fun _ _ _ _ _ => pg_name (i := 5) nd rfl (.inl rfl)) (fun _ _ _ _ _ => pts_nil)
              (fun _ _ _ _ _ => pe_tup (pa_cons (pv 5) (pa_cons (pe_op op_add (pv 4) pe_int) pa_nil)))) pa_nil)))))))))
    (pss_one (ps_ret (pe_call GA hr (by rfl) mA FA.kp bA .nil pass0 (pa_cons (pv 0) pa_nil))))), ?_⟩
  refine ⟨_, rfl, by show 2 ≤ sizeLine; decide, fun a ha => ⟨by show 1 ≤ sizeLine; decide, fun l hl => ⟨_, _, rfl, ?_⟩⟩⟩
  have hal : a ≠ l := fun z => by rw [← z, upd_same] at hl; cases hl
  have hl0 : H l = none := by rw [upd_ne (Ne.symm hal)] at hl; exact hl
  refine ⟨fun m σ H' => ∃ (ps : List Pd) (many : Nat) (o3 o4 o5 : Option V), σ = [some v, some (.ref l), some (.int many), o3, o4, o5] ∧ m = pdW ps ∧ H' l = some (.lst (ps.map fun p => V.ref p.1)) ∧ (∀ p ∈ ps, PdAt H' p) ∧ many + pdW ps ≤ 400 ∧ Same H H', ⟨_, [(a, t0, 0)], 0, none, none, none, rfl, rfl, upd_same, ?_, ?_, ?_⟩, ?_⟩
  · intro p hp
    rw [List.mem_singleton.mp hp]
    exact ⟨v, by rw [upd_ne hal]; exact upd_same, ht0.tups ((tups_new ha).trans (tups_new hl)), by show 0 + t0.ht ≤ 12; omega⟩
  · show 0 + (t0.nn + 0) ≤ 400
    omega
  · exact (same_new ha).trans (same_new hl)
  rintro m σ H' ⟨ps, many, o3, o4, o5, rfl, rfl, hl1, hps, hle, S⟩
  have hpsh : ∀ p ∈ ps, p.2.1.ht ≤ 12 := fun p hp => by obtain ⟨_, _, _, z⟩ := hps p hp; omega
  refine ⟨_, rfl, Nat.zero_le _, fun e he => ?_⟩
  have hle0 : l ≠ e := ne_of_none hl1 he
  have Se : Same H' (upd H' e (.lst [])) := same_new he
  have hl2 : upd H' e (.lst []) l = some (.lst (ps.map fun p => V.ref p.1)) := Se _ _ hl1
  refine ⟨.list (ps.map pdD), .list [], .lst (SqL.of hl2) (pds_dp fun p hp => (hps p hp).tups (same_tups Se)), .lst (SqL.of upd_same) .nil, shaped_pds hpsh, rfl, _, rfl, ?_⟩
  rw [pds_nil]
  rcases List.eq_nil_or_concat ps with rfl | ⟨qs, ⟨pa, t, d⟩, rfl⟩
  · exact ⟨_, rfl, v, t0, rfl, ht0.tups (same_tups (S.trans Se)), hf0, by omega, by omega, fun H2 S2 => q _ ((S.trans Se).trans S2)⟩
  refine iteY (by rw [decide_eq_false (by simp)]; rfl) ?_
  obtain ⟨v1, hp1, hp2, hp3⟩ := hps (pa, t, d) (by simp)
  replace hp3 : d + t.ht ≤ 12 := hp3
  have hw : pdW (qs.concat (pa, t, d)) = pdW qs + t.nn := by
    rw [List.concat_eq_append, pdW_app]
    rfl
  rw [hw] at hle ⊢
  have htn := t.nn_pos
  have htlen := len_nn t
  have hqlen := pdW_len qs
  obtain ⟨b, rfl⟩ := hp2.ref
  refine ⟨fun σ' H2 => ∃ m', m' < pdW qs + t.nn ∧ ∃ (ps : List Pd) (many : Nat) (o3 o4 o5 : Option V), σ' = [some v, some (.ref l), some (.int many), o3, o4, o5] ∧ m' = pdW ps ∧ H2 l = some (.lst (ps.map fun p => V.ref p.1)) ∧ (∀ p ∈ ps, PdAt H2 p) ∧ many + pdW ps ≤ 400 ∧ Same H H2, fun _ _ z => z, ?_⟩
  have hl3 : upd H' e (.lst []) l = some (.lst ((qs.map fun p => V.ref p.1) ++ [.ref pa])) := by rw [hl2, List.concat_eq_append, List.map_append]; rfl
  refine ⟨_, rfl, .inl ⟨rfl, _, SqL.of hl3⟩, l, _, .ref pa, rfl, rfl, hl3, ?_, ?_⟩
  · rw [List.length_append, List.length_singleton, Nat.add_sub_cancel, List.getElem?_append_right (Nat.le_refl _), Nat.sub_self]
    rfl
  rw [List.dropLast_concat]
  have T1 : Tups (upd H' e (.lst [])) (upd (upd H' e (.lst [])) l (.lst (qs.map fun p => V.ref p.1))) := tups_upd fun ys z => by rw [hl3] at z; cases z
  have T2 : Tups H' (upd (upd H' e (.lst [])) l (.lst (qs.map fun p => V.ref p.1))) := (same_tups Se).trans T1
  have S1 : Same H (upd (upd H' e (.lst [])) l (.lst (qs.map fun p => V.ref p.1))) := (But.own (S := []) (But.of_same (S.trans Se)) hl0).same
  have hl4 : upd (upd H' e (.lst [])) l (.lst (qs.map fun p => V.ref p.1)) l = some (.lst (qs.map fun p => V.ref p.1)) := upd_same
  have hps1 : ∀ p ∈ qs, PdAt (upd (upd H' e (.lst [])) l (.lst (qs.map fun p => V.ref p.1))) p := fun p hp => (hps p (by rw [List.concat_eq_append]; exact List.mem_append_left _ hp)).tups T2
  have hb1 : TrAt (upd (upd H' e (.lst [])) l (.lst (qs.map fun p => V.ref p.1))) (.ref b) t := hp2.tups T2
  have hpa : upd (upd H' e (.lst [])) l (.lst (qs.map fun p => V.ref p.1)) pa = some (.tup [.ref b, .int d]) := T2 _ _ hp1
  generalize upd (upd H' e (.lst [])) l (.lst (qs.map fun p => V.ref p.1)) = H1 at hb1 hpa S1 hl4 hps1
  obtain ⟨xs, hbx, hxs, hx1⟩ := hb1.tup
  refine ⟨pa, _, rfl, SqT.of hpa, rfl, _, _, rfl, _, _, rfl, rfl, ?_⟩
  refine ⟨_, rfl, _, _, rfl, rfl, ?_⟩
  refine ⟨_, rfl, _, _, rfl, rfl, _, rfl, ?_⟩
  refine iteN (decide_eq_false (by show ¬ ((400 : Int) < (many : Int) + 1); omega)) ?_
  refine ⟨_, rfl, _, _, rfl, rfl, _, rfl, ?_⟩
  refine iteN (decide_eq_false (by omega)) ?_
  refine ⟨_, rfl, _, _, .type "tuple", _, true, rfl, .ty "tuple", .base (.tup hbx), kit_ty (by decide +kernel), true, rfl, ?_⟩
  refine ⟨_, rfl, b, xs, rfl, .inr (SqT.of hbx), _, _, rfl, rfl, _, rfl, ?_⟩
  refine iteN (decide_eq_false (by rw [hxs.len]; omega)) ?_
  refine ⟨_, rfl, b, rfl, ⟨_, SqT.of hbx⟩, fun D hD => lc_tup (K := K) (a := b) (xs := xs) (fun i H2 => Same H1 H2 ∧ H2 D = some (.lst ((List.replicate i true).map V.bl))) ⟨same_new hD, upd_same⟩ (fun i H2 _ z => SqT.of (z.1 _ _ hbx)) ?_ ?_⟩
  · rintro i x H2 hi ⟨S2, hD2⟩
    obtain ⟨u, hu', hx⟩ := hxs.get hi
    have hi1 := (List.getElem?_eq_some_iff.mp hi).1
    obtain ⟨c, rfl⟩ := hx.ref
    obtain ⟨ys, hc, _, _⟩ := hx.tup
    refine ⟨rfl, _, rfl, _, _, .type "tuple", _, true, rfl, .ty "tuple", .base (.tup (S2 _ _ hc)), kit_ty (by decide +kernel), ⟨_, hD2, ?_, ?_, ?_⟩⟩
    · rw [List.length_map, List.length_replicate, sizeLine_eq]; omega
    · exact (But.own (S := []) (But.of_same S2) hD).same
    · rw [upd_same, List.replicate_succ', List.map_append]
      rfl
  rintro H2 ⟨S2, hD2⟩
  refine ⟨D, _, rfl, SqL.of hD2, true, by rw [all_true], ?_⟩
  have hl5 : H2 l = some (.lst (qs.map fun p => V.ref p.1)) := S2 _ _ hl4
  have hxs2 : TrsAt H2 xs t.os := hxs.tups (same_tups S2)
  have hbx2 : H2 b = some (.tup xs) := S2 _ _ hbx
  refine ⟨_, rfl, .inl ⟨rfl, _, SqL.of hl5⟩, ?_⟩
  refine ⟨_, rfl, b, rfl, ⟨_, SqT.of hbx2⟩, fun D3 hD3 => lc_tup (K := K) (a := b) (xs := xs) (fun i H3 => Same H2 H3 ∧ ∃ as : List Addr, as.length = i ∧ H3 D3 = some (.lst (as.map V.ref)) ∧ ∀ p ∈ ((as.zip (t.os.take i)).map fun q => ((q.1, q.2, d + 1) : Pd)), PdAt H3 p) ⟨same_new hD3, [], rfl, upd_same, fun p hp => by simp at hp⟩ (fun i H3 _ z => SqT.of (z.1 _ _ hbx2)) ?_ ?_⟩
  · rintro i x H3 hi ⟨S3, as, hlen, hD4, hall⟩
    obtain ⟨u, hu', hx⟩ := hxs2.get hi
    have hi1 := (List.getElem?_eq_some_iff.mp hi).1
    have huh := Tr.ht_os (List.mem_of_getElem? hu')
    refine ⟨rfl, _, rfl, _, rfl, _, _, rfl, rfl, by show 2 ≤ sizeLine; decide, fun pn hpn => ?_⟩
    have hne : D3 ≠ pn := ne_of_none hD4 hpn
    have hD5 : upd H3 pn (.tup [x, .int ((d : Int) + 1)]) D3 = some (.lst (as.map V.ref)) := by rw [upd_ne hne]; exact hD4
    have T5 : Tups H3 (upd (upd H3 pn (.tup [x, .int ((d : Int) + 1)])) D3 (.lst (as.map V.ref ++ [.ref pn]))) := (tups_new hpn).trans (tups_upd fun ys z => by rw [hD5] at z; cases z)
    refine ⟨_, hD5, by rw [List.length_map, hlen, sizeLine_eq]; omega, (But.own (S := []) (But.of_same (S3.trans (same_new hpn))) hD3).same, as ++ [pn], by rw [List.length_append, hlen]; rfl, by rw [upd_same, List.map_append]; rfl, ?_⟩
    have e1 : t.os.take (i + 1) = t.os.take i ++ [u] := by rw [List.take_succ, hu']; rfl
    have e2 : as.length = (t.os.take i).length := by
      rw [hlen, List.length_take]
      have := (List.getElem?_eq_some_iff.mp hu').1
      omega
    rw [e1, List.zip_append e2, List.map_append]
    intro p hp
    rcases List.mem_append.mp hp with z | z
    · exact (hall p z).tups T5
    · have : p = (pn, u, d + 1) := by simpa using z
      rw [this]
      refine ⟨x, ?_, hx.tups ((same_tups S3).trans T5), by show d + 1 + u.ht ≤ 12; omega⟩
      rw [upd_ne (Ne.symm hne), upd_same]
      show some (HO.tup [x, V.int (((d : Nat) : Int) + 1)]) = some (HO.tup [x, V.int ((d + 1 : Nat) : Int)])
      have e4 : ((d : Nat) : Int) + 1 = ((d + 1 : Nat) : Int) := by omega
      rw [e4]
  rintro H3 ⟨S3, as, hlen, hD4, hall⟩
  have e : t.os.take xs.length = t.os := List.take_of_length_le (by rw [hxs.len]; exact Nat.le_refl _)
  rw [e] at hall
  have elen : as.length = t.os.length := by rw [hlen, hxs.len]
  have hl6 : H3 l = some (.lst (qs.map fun p => V.ref p.1)) := S3 _ _ hl5
  refine ⟨l, D3, _, _, rfl, rfl, hl6, hD4, ?_, ?_⟩
  · rw [List.length_map, List.length_map, sizeLine_eq]; omega
  have S6 : Same H (upd H3 l (.lst ((qs.map fun p => V.ref p.1) ++ as.map V.ref))) := (But.own (S := []) (But.of_same ((S1.trans S2).trans S3)) hl0).same
  have T6 : Tups H3 (upd H3 l (.lst ((qs.map fun p => V.ref p.1) ++ as.map V.ref))) := tups_upd fun ys z => by rw [hl6] at z; cases z
  have ez : ((as.zip t.os).map fun q => ((q.1, q.2, d + 1) : Pd)).map (fun p => V.ref p.1) = as.map V.ref := by
    have e5 : (as.zip t.os).map Prod.fst = as := List.map_fst_zip (by omega)
    conv => rhs; rw [← e5]
    rw [List.map_map, List.map_map]
    rfl
  have en : pdW ((as.zip t.os).map fun q => ((q.1, q.2, d + 1) : Pd)) = Tr.nns t.os := nns_pds _ _ _ elen
  have et : t.nn = Tr.nns t.os + 1 := by
    cases t with
    | nd l =>
      rw [Tr.nn]
      show _ = Tr.nns l + 1
      omega
  refine ⟨pdW qs + Tr.nns t.os, by omega, qs ++ (as.zip t.os).map fun q => ((q.1, q.2, d + 1) : Pd), many + 1, _, _, _, rfl, by rw [pdW_app, en], by rw [upd_same, List.map_append, ez], ?_, by rw [pdW_app, en]; omega, S6⟩
  intro p hp
  rcases List.mem_append.mp hp with z | z
  · exact (((hps1 p z).tups (same_tups S2)).tups (same_tups S3)).tups T6
  · exact (hall p z).tups T6
end
end K59
end

section
set_option Elab.async false
set_option linter.all false
set_option maxRecDepth 100000
set_option maxHeartbeats 4000000
/-! Groves: trees by index, as plain data. -/
namespace K59
set_option autoImplicit false
open Tr
/-- no node has more than n options -/
inductive Nar (n : Nat) : Tr → Prop
  | nd {l : List Tr} : l.length ≤ n → (∀ u, u ∈ l → Nar n u) → Nar n (.nd l)
theorem Nar.len {n : Nat} {t : Tr} (h : Nar n t) : t.os.length ≤ n := by cases h with | nd a b => exact a
theorem Nar.sub {n : Nat} {t u : Tr} (h : Nar n t) (hu : u ∈ t.os) : Nar n u := by cases h with | nd a b => exact b u hu
mutual
theorem nar_nn : ∀ (t : Tr) (n : Nat), t.nn ≤ n + 1 → Nar n t
  | .nd l, n, h => by
    rw [nn] at h
    have hl := len_nns l
    exact .nd (by omega) (nar_nns l n (by omega))
theorem nar_nns : ∀ (l : List Tr) (n : Nat), nns l ≤ n + 1 → ∀ u, u ∈ l → Nar n u
  | [], _, _, _, h => by cases h
  | t :: l, n, h, u, hu => by
    rw [nns] at h
    rcases List.mem_cons.mp hu with e | hu
    · rw [e]; exact nar_nn t n (by omega)
    · exact nar_nns l n (by omega) u hu
end
theorem Nar.mono {m n : Nat} (h : m ≤ n) {t : Tr} (k : Nar m t) : Nar n t := by
  induction k with
  | nd a b ih => exact .nd (Nat.le_trans a h) ih

structure GS where
  os : List (List Nat)
  tr : List Tr
  sm : List ((Nat × Nat) × Nat)
def GS.T (S : GS) (i : Nat) : Tr := S.tr.getD i (.nd [])
abbrev GS.n (S : GS) : Nat := S.os.length
structure SumOk (S : GS) (e : (Nat × Nat) × Nat) : Prop where
  l1 : e.1.1 < S.n
  l2 : e.1.2 < S.n
  l3 : e.2 < S.n
  eq : Eqv [S.T e.2] [S.T e.1.1, S.T e.1.2]
  ht : (S.T e.2).ht ≤ (S.T e.1.1).ht + (S.T e.1.2).ht
  nar : ∀ a b, Nar a (S.T e.1.1) → Nar b (S.T e.1.2) → Nar (a + b) (S.T e.2)
structure GOk (S : GS) : Prop where
  len : S.tr.length = S.os.length
  pos : S.os[0]? = some []
  nd : S.os.Nodup
  low : ∀ (i : Nat) (o : List Nat), S.os[i]? = some o → ∀ k ∈ o, k < i
  tree : ∀ (i : Nat) (o : List Nat), S.os[i]? = some o → S.T i = .nd (o.map S.T)
  sums : ∀ e ∈ S.sm, SumOk S e
  wid : ∀ o ∈ S.os, o.length ≤ 63
  keys : (S.sm.map (·.1)).Nodup
/-- what a later state keeps; new sums are of at most that height -/
structure Ext (h : Nat) (S S' : GS) : Prop where
  os : S.os <+: S'.os
  tr : S.tr <+: S'.tr
  sm : ∀ e ∈ S.sm, e ∈ S'.sm
  new : ∀ e ∈ S'.sm, e ∈ S.sm ∨ (S'.T e.1.1).ht + (S'.T e.1.2).ht < h
theorem pre_get {α : Type} {l m : List α} (h : l <+: m) {i : Nat} {x : α} (e : l[i]? = some x) : m[i]? = some x := by
  obtain ⟨r, rfl⟩ := h
  have hi := (List.getElem?_eq_some_iff.mp e).1
  rw [List.getElem?_append_left hi]
  exact e
theorem GOk.t_get {S : GS} (h : GOk S) {i : Nat} (hi : i < S.n) : S.tr[i]? = some (S.T i) := by
  have hi' : i < S.tr.length := by rw [h.len]; exact hi
  unfold GS.T
  rw [List.getD_eq_getElem?_getD, List.getElem?_eq_getElem hi']
  rfl
theorem Ext.T {h : Nat} {S S' : GS} (x : Ext h S S') (ok : GOk S) {i : Nat} (hi : i < S.n) : S'.T i = S.T i := by
  have := pre_get x.tr (ok.t_get hi)
  show S'.tr.getD i (.nd []) = _
  rw [List.getD_eq_getElem?_getD, this]
  rfl
theorem Ext.n {h : Nat} {S S' : GS} (x : Ext h S S') : S.n ≤ S'.n := x.os.length_le
theorem Ext.refl (h : Nat) (S : GS) : Ext h S S := ⟨List.prefix_rfl, List.prefix_rfl, fun _ z => z, fun _ z => .inl z⟩
theorem Ext.trans {h : Nat} {S S1 S2 : GS} (x : Ext h S S1) (y : Ext h S1 S2) (ok : GOk S1) : Ext h S S2 :=
  ⟨x.os.trans y.os, x.tr.trans y.tr, fun e z => y.sm e (x.sm e z), fun e z => by
    rcases y.new e z with q | q
    · rcases x.new e q with r | r
      · exact .inl r
      · have k := ok.sums e q
        exact .inr (by rw [y.T ok k.l1, y.T ok k.l2]; exact r)
    · exact .inr q⟩
theorem Ext.mono {h h' : Nat} {S S' : GS} (x : Ext h S S') (l : h ≤ h') : Ext h' S S' :=
  ⟨x.os, x.tr, x.sm, fun e z => (x.new e z).imp id fun q => Nat.lt_of_lt_of_le q l⟩
theorem GOk.lt {S : GS} (h : GOk S) {i k : Nat} {o : List Nat} (e : S.os[i]? = some o) (hk : k ∈ o) : k < S.n := by
  have := h.low i o e k hk
  have := (List.getElem?_eq_some_iff.mp e).1
  exact Nat.lt_trans ‹k < i› this
theorem GOk.get {S : GS} (h : GOk S) {i : Nat} (hi : i < S.n) : ∃ o, S.os[i]? = some o ∧ S.T i = .nd (o.map S.T) ∧ ∀ k ∈ o, k < S.n ∧ k < i := by
  refine ⟨_, List.getElem?_eq_getElem hi, h.tree _ _ (List.getElem?_eq_getElem hi), fun k hk => ?_⟩
  have := h.low _ _ (List.getElem?_eq_getElem hi) k hk
  exact ⟨Nat.lt_trans this hi, this⟩
theorem GOk.leaf {S : GS} (h : GOk S) : S.T 0 = .nd [] := by rw [h.tree 0 [] h.pos]; rfl
theorem GOk.n0 {S : GS} (h : GOk S) : 0 < S.n := (List.getElem?_eq_some_iff.mp h.pos).1
/-- the same, with a node more -/
def GS.add (S : GS) (o : List Nat) : GS := ⟨S.os ++ [o], S.tr ++ [.nd (o.map S.T)], S.sm⟩
theorem GS.add_old {S : GS} (ok : GOk S) (o : List Nat) {i : Nat} (hi : i < S.n) : (S.add o).T i = S.T i := by
  show (S.tr ++ [_]).getD i _ = S.tr.getD i _
  rw [List.getD_eq_getElem?_getD, List.getD_eq_getElem?_getD, List.getElem?_append_left (by rw [ok.len]; exact hi)]
theorem GS.add_new {S : GS} (ok : GOk S) (o : List Nat) : (S.add o).T S.n = .nd (o.map S.T) := by
  show (S.tr ++ [_]).getD _ _ = _
  rw [List.getD_eq_getElem?_getD, List.getElem?_append_right (by rw [ok.len]; exact Nat.le_refl _), ok.len, Nat.sub_self]
  rfl
theorem add_ok {S : GS} (ok : GOk S) {o : List Nat} (hn : o ∉ S.os) (hl : ∀ k ∈ o, k < S.n) (hw : o.length ≤ 63) : GOk (S.add o) ∧ Ext 0 S (S.add o) := by
  have emap : ∀ o' : List Nat, (∀ k ∈ o', k < S.n) → o'.map (S.add o).T = o'.map S.T := fun o' h => List.map_congr_left fun k hk => GS.add_old ok o (h k hk)
  have x : Ext 0 S (S.add o) := ⟨⟨[o], rfl⟩, ⟨[_], rfl⟩, fun _ z => z, fun _ z => .inl z⟩
  have hcase : ∀ (i : Nat) (o' : List Nat), (S.add o).os[i]? = some o' → S.os[i]? = some o' ∨ (i = S.n ∧ o' = o) := fun i o' e => by
    by_cases hi : i < S.n
    · left
      have e' : (S.os ++ [o])[i]? = some o' := e
      rwa [List.getElem?_append_left hi] at e'
    · right
      have e' : (S.os ++ [o])[i]? = some o' := e
      have hb := (List.getElem?_eq_some_iff.mp e').1
      rw [List.length_append, List.length_singleton] at hb
      have : i = S.os.length := by
        have h2 : ¬ i < S.os.length := hi
        omega
      subst this
      rw [List.getElem?_append_right (Nat.le_refl _), Nat.sub_self] at e'
      exact ⟨rfl, (Option.some.inj e').symm⟩
  refine ⟨⟨?_, ?_, ?_, ?_, ?_, ?_, fun o' ho' => ?_, ok.keys⟩, x⟩
  · show (S.tr ++ [_]).length = (S.os ++ [o]).length
    rw [List.length_append, List.length_append, ok.len]
    rfl
  · exact pre_get x.os ok.pos
  · refine List.nodup_append.mpr ⟨ok.nd, List.nodup_cons.mpr ⟨by simp, List.nodup_nil⟩, fun a ha b hb e => ?_⟩
    rw [List.mem_singleton] at hb
    exact hn (by rw [← hb, ← e]; exact ha)
  · intro i o' e k hk
    rcases hcase i o' e with q | ⟨rfl, rfl⟩
    · exact ok.low i o' q k hk
    · exact hl k hk
  · intro i o' e
    rcases hcase i o' e with q | ⟨rfl, rfl⟩
    · have hi := (List.getElem?_eq_some_iff.mp q).1
      rw [GS.add_old ok o hi, ok.tree i o' q, emap o' fun k hk => ok.lt q hk]
    · rw [GS.add_new ok, emap o' hl]
  · intro e he
    have k := ok.sums e he
    have n := x.n
    refine ⟨Nat.lt_of_lt_of_le k.l1 n, Nat.lt_of_lt_of_le k.l2 n, Nat.lt_of_lt_of_le k.l3 n, ?_, ?_, ?_⟩
    · rw [x.T ok k.l1, x.T ok k.l2, x.T ok k.l3]; exact k.eq
    · rw [x.T ok k.l1, x.T ok k.l2, x.T ok k.l3]; exact k.ht
    · rw [x.T ok k.l1, x.T ok k.l2, x.T ok k.l3]; exact k.nar
  · rcases List.mem_append.mp ho' with z | z
    · exact ok.wid o' z
    · rw [List.mem_singleton.mp z]; exact hw
/-- the same, with a sum more -/
def GS.sum (S : GS) (e : (Nat × Nat) × Nat) : GS := ⟨S.os, S.tr, S.sm ++ [e]⟩
theorem sum_ok {S : GS} (ok : GOk S) {e : (Nat × Nat) × Nat} {h : Nat} (k : SumOk S e) (hn : e.1 ∉ S.sm.map (·.1)) (hh : (S.T e.1.1).ht + (S.T e.1.2).ht < h) : GOk (S.sum e) ∧ Ext h S (S.sum e) := by
  refine ⟨⟨ok.len, ok.pos, ok.nd, ok.low, ok.tree, ?_, ok.wid, ?_⟩, ⟨List.prefix_rfl, List.prefix_rfl, fun _ z => List.mem_append_left _ z, ?_⟩⟩
  · intro f hf
    rcases List.mem_append.mp hf with z | z
    · have q := ok.sums f z
      exact ⟨q.l1, q.l2, q.l3, q.eq, q.ht, q.nar⟩
    · rw [List.mem_singleton.mp z]
      exact ⟨k.l1, k.l2, k.l3, k.eq, k.ht, k.nar⟩
  · show ((S.sm ++ [e]).map (·.1)).Nodup
    rw [List.map_append]
    refine List.nodup_append.mpr ⟨ok.keys, List.nodup_cons.mpr ⟨by simp, List.nodup_nil⟩, fun a ha b hb q => ?_⟩
    have hb' : b = e.1 := by simpa using hb
    exact hn (by rw [← hb', ← q]; exact ha)
  · intro f hf
    rcases List.mem_append.mp hf with z | z
    · exact .inl z
    · rw [List.mem_singleton.mp z]
      exact .inr hh
/-- indexes under an index -/
theorem closure {S : GS} (ok : GOk S) : ∀ (m r : Nat), r < m → r < S.n → ∃ D : List Nat, r ∈ D ∧ (∀ i ∈ D, i < S.n) ∧ (∀ i ∈ D, ∀ o : List Nat, S.os[i]? = some o → ∀ k ∈ o, k ∈ D) ∧ D.length ≤ (S.T r).nn
  | 0, r, h, _ => absurd h (Nat.not_lt_zero _)
  | m + 1, r, h, hr => by
    obtain ⟨o, e, et, hlow⟩ := ok.get hr
    have many : ∀ l : List Nat, (∀ k ∈ l, k < S.n ∧ k < r) → ∃ D : List Nat, (∀ k ∈ l, k ∈ D) ∧ (∀ i ∈ D, i < S.n) ∧ (∀ i ∈ D, ∀ o : List Nat, S.os[i]? = some o → ∀ k ∈ o, k ∈ D) ∧ D.length ≤ nns (l.map S.T) := by
      intro l
      induction l with
      | nil => intro _; exact ⟨[], fun k hk => hk, fun k hk => (by simp at hk), fun k hk => (by simp at hk), Nat.zero_le _⟩
      | cons k l ih =>
        intro hl
        obtain ⟨D, d1, d2, d3, d4⟩ := ih fun k hk => hl k (List.mem_cons_of_mem _ hk)
        have hk := hl k List.mem_cons_self
        obtain ⟨E, e1, e2, e3, e4⟩ := closure ok m k (by omega) hk.1
        refine ⟨E ++ D, fun j hj => ?_, fun i hi => ?_, fun i hi o q j hj => ?_, ?_⟩
        · rcases List.mem_cons.mp hj with z | z
          · rw [z]; exact List.mem_append_left _ e1
          · exact List.mem_append_right _ (d1 j z)
        · rcases List.mem_append.mp hi with z | z
          · exact e2 i z
          · exact d2 i z
        · rcases List.mem_append.mp hi with z | z
          · exact List.mem_append_left _ (e3 i z o q j hj)
          · exact List.mem_append_right _ (d3 i z o q j hj)
        · rw [List.length_append, List.map_cons, nns]
          omega
    obtain ⟨D, d1, d2, d3, d4⟩ := many o hlow
    refine ⟨r :: D, List.mem_cons_self, fun i hi => ?_, fun i hi o' q j hj => ?_, ?_⟩
    · rcases List.mem_cons.mp hi with z | z
      · rw [z]; exact hr
      · exact d2 i z
    · rcases List.mem_cons.mp hi with z | z
      · rw [z, e] at q
        cases q
        exact List.mem_cons_of_mem _ (d1 j hj)
      · exact List.mem_cons_of_mem _ (d3 i z o' q j hj)
    · rw [List.length_cons, et, nn]
      omega

/-! ### make -/
/-- what make answers to some options -/
structure MadeOk (S : GS) (some' : List Nat) (k : Nat) : Prop where
  lt : k < S.n
  eq : Eqv [S.T k] [.nd (some'.map S.T)]
  how : (∃ L : List Nat, S.T k = .nd (L.map S.T) ∧ L.Nodup ∧ ∀ x, x ∈ L → x ∈ some') ∨ ∃ one ∈ some', S.T k ∈ (S.T one).os
theorem nns_nodup (f : Nat → Tr) : ∀ {L M : List Nat}, L.Nodup → (∀ x ∈ L, x ∈ M) → nns (L.map f) ≤ nns (M.map f)
  | [], M, _, _ => Nat.zero_le _
  | x :: L, M, hn, hs => by
    rw [List.nodup_cons] at hn
    obtain ⟨M1, M2, rfl⟩ := List.append_of_mem (hs x List.mem_cons_self)
    have ih := nns_nodup f (L := L) (M := M1 ++ M2) hn.2 fun y hy => by
      have := hs y (List.mem_cons_of_mem _ hy)
      have hne : y ≠ x := fun e => hn.1 (by rw [← e]; exact hy)
      simp only [List.mem_append, List.mem_cons] at this ⊢
      rcases this with z | z | z
      · exact .inl z
      · exact absurd z hne
      · exact .inr z
    rw [List.map_cons, nns]
    rw [List.map_append, nns_app] at ih ⊢
    rw [List.map_cons, nns]
    omega
theorem MadeOk.nn {S : GS} {M : List Nat} {k : Nat} (m : MadeOk S M k) : (S.T k).nn ≤ nns (M.map S.T) + 1 := by
  rcases m.how with ⟨L, e, hn, hs⟩ | ⟨one, h1, h2⟩
  · rw [e, Tr.nn]
    have := nns_nodup S.T hn hs
    omega
  · have h3 := nn_os h2
    have h4 := nn_mem (List.mem_map_of_mem (f := S.T) h1)
    omega
theorem MadeOk.ht {S : GS} {M : List Nat} {k h : Nat} (m : MadeOk S M k) (hh : ∀ x ∈ M, (S.T x).ht + 1 ≤ h) : (S.T k).ht ≤ h := by
  rcases m.how with ⟨L, e, hn, hs⟩ | ⟨one, h1, h2⟩
  · rw [e, Tr.ht]
    refine hts_le fun t ht => ?_
    obtain ⟨x, hx, rfl⟩ := List.mem_map.mp ht
    exact hh x (hs x hx)
  · have h3 := ht_os h2
    have := hh one h1
    omega
theorem MadeOk.nar {S : GS} {M : List Nat} {k n : Nat} (m : MadeOk S M k) (hl : M.length ≤ n) (hh : ∀ x ∈ M, Nar n (S.T x)) : Nar n (S.T k) := by
  rcases m.how with ⟨L, e, hn, hs⟩ | ⟨one, h1, h2⟩
  · rw [e]
    refine .nd ?_ fun u hu => ?_
    · rw [List.length_map]
      exact Nat.le_trans (nodup_le hn hs) hl
    · obtain ⟨x, hx, rfl⟩ := List.mem_map.mp hu
      exact hh x (hs x hx)
  · exact (hh one h1).sub h2
theorem MadeOk.ext {S S' : GS} {M : List Nat} {k h : Nat} (m : MadeOk S' M k) : MadeOk S' M k := m
end K59
end

section
set_option Elab.async false
set_option linter.all false
set_option maxRecDepth 100000
set_option maxHeartbeats 4000000
/-! What the grove's answers mean. -/
namespace K59
set_option autoImplicit false
open Tr
/-- one by one -/
def Each {α β : Type} (R : α → β → Prop) (xs : List α) (ys : List β) : Prop := xs.length = ys.length ∧ ∀ (m : Nat) (x : α) (y : β), xs[m]? = some x → ys[m]? = some y → R x y
theorem Each.nil {α β : Type} {R : α → β → Prop} : Each R [] [] := ⟨rfl, fun m x y h => by simp at h⟩
theorem Each.snoc {α β : Type} {R : α → β → Prop} {xs : List α} {ys : List β} {x : α} {y : β} (h : Each R xs ys) (r : R x y) : Each R (xs ++ [x]) (ys ++ [y]) := by
  refine ⟨by rw [List.length_append, List.length_append, h.1]; rfl, fun m a b ha hb => ?_⟩
  by_cases hm : m < xs.length
  · rw [List.getElem?_append_left hm] at ha
    rw [List.getElem?_append_left (by rw [← h.1]; exact hm)] at hb
    exact h.2 m a b ha hb
  · have hm2 : xs.length ≤ m := by omega
    rw [List.getElem?_append_right hm2] at ha
    rw [List.getElem?_append_right (by rw [← h.1]; exact hm2)] at hb
    have hz := (List.getElem?_eq_some_iff.mp ha).1
    have e0 : m - xs.length = 0 := by
      rw [List.length_singleton] at hz
      omega
    rw [e0] at ha
    rw [← h.1, e0] at hb
    cases ha
    cases hb
    exact r
theorem Each.imp {α β : Type} {R R' : α → β → Prop} {xs : List α} {ys : List β} (h : Each R xs ys) (f : ∀ x ∈ xs, ∀ y ∈ ys, R x y → R' x y) : Each R' xs ys :=
  ⟨h.1, fun m x y hx hy => f x (List.mem_of_getElem? hx) y (List.mem_of_getElem? hy) (h.2 m x y hx hy)⟩
theorem Each.left {α β : Type} {R : α → β → Prop} {xs : List α} {ys : List β} (h : Each R xs ys) {x : α} (hx : x ∈ xs) : ∃ y ∈ ys, R x y := by
  obtain ⟨m, hm, e⟩ := List.getElem_of_mem hx
  have hm2 : m < ys.length := by rw [← h.1]; exact hm
  exact ⟨ys[m], List.getElem_mem hm2, h.2 m x _ (by rw [List.getElem?_eq_getElem hm, e]) (List.getElem?_eq_getElem hm2)⟩
theorem Each.right {α β : Type} {R : α → β → Prop} {xs : List α} {ys : List β} (h : Each R xs ys) {y : β} (hy : y ∈ ys) : ∃ x ∈ xs, R x y := by
  obtain ⟨m, hm, e⟩ := List.getElem_of_mem hy
  have hm2 : m < xs.length := by rw [h.1]; exact hm
  exact ⟨xs[m], List.getElem_mem hm2, h.2 m _ y (List.getElem?_eq_getElem hm2) (by rw [List.getElem?_eq_getElem hm, e])⟩
/-- x is alike to the sum of i and j -/
structure IsSum (S : GS) (x i j : Nat) : Prop where
  lt : x < S.n
  eq : Eqv [S.T x] [S.T i, S.T j]
  ht : (S.T x).ht ≤ (S.T i).ht + (S.T j).ht
  nar : ∀ a b, Nar a (S.T i) → Nar b (S.T j) → Nar (a + b) (S.T x)
theorem IsSum.swap {S : GS} {x i j : Nat} (h : IsSum S x i j) : IsSum S x j i :=
  ⟨h.lt, h.eq.trans (Eqv.of_perm (List.Perm.swap _ _ _)), by have := h.ht; omega, fun a b p q => by rw [Nat.add_comm]; exact h.nar b a q p⟩
theorem IsSum.ext {S S' : GS} {x i j h : Nat} (k : IsSum S x i j) (e : Ext h S S') (ok : GOk S) (hi : i < S.n) (hj : j < S.n) : IsSum S' x i j := by
  refine ⟨Nat.lt_of_lt_of_le k.lt e.n, ?_, ?_, ?_⟩
  · rw [e.T ok k.lt, e.T ok hi, e.T ok hj]; exact k.eq
  · rw [e.T ok k.lt, e.T ok hi, e.T ok hj]; exact k.ht
  · rw [e.T ok k.lt, e.T ok hi, e.T ok hj]; exact k.nar
theorem IsSum.zero {S : GS} (ok : GOk S) {j : Nat} (hj : j < S.n) : IsSum S j 0 j := by
  refine ⟨hj, ?_, ?_, fun a b _ q => q.mono (by omega)⟩
  · rw [ok.leaf]; exact (eqv_leaf _).symm
  · omega
theorem SumOk.is {S : GS} {e : (Nat × Nat) × Nat} (h : SumOk S e) : IsSum S e.2 e.1.1 e.1.2 := ⟨h.l3, h.eq, h.ht, h.nar⟩
theorem IsSum.ok {S : GS} {x i j : Nat} (h : IsSum S x i j) (hi : i < S.n) (hj : j < S.n) : SumOk S ((i, j), x) := ⟨hi, hj, h.lt, h.eq, h.ht, h.nar⟩
theorem os_of {S : GS} (ok : GOk S) {i : Nat} {o : List Nat} (e : S.os[i]? = some o) : (S.T i).os = o.map S.T := by rw [ok.tree i o e]; rfl
theorem sum_made {S : GS} (ok : GOk S) {i j k : Nat} {oi oj xs ys : List Nat} (ei : S.os[i]? = some oi) (ej : S.os[j]? = some oj) (hA : Each (fun x a => IsSum S x a j) xs oi) (hB : Each (fun y b => IsSum S y i b) ys oj)
    (m : MadeOk S (xs ++ ys) k) : IsSum S k i j := by
  have ti := os_of ok ei
  have tj := os_of ok ej
  refine ⟨m.lt, m.eq.trans (eqv_two (fun s hs => ?_) (fun a ha => ?_) (fun b hb => ?_)), m.ht fun x hx => ?_, fun a b na nb => m.nar ?_ fun x hx => ?_⟩
  · obtain ⟨x, hx, rfl⟩ := List.mem_map.mp (show s ∈ (xs ++ ys).map S.T from hs)
    rcases List.mem_append.mp hx with z | z
    · obtain ⟨a, ha, r⟩ := hA.left z
      exact .inl ⟨S.T a, by rw [ti]; exact List.mem_map_of_mem ha, r.eq⟩
    · obtain ⟨b, hb, r⟩ := hB.left z
      exact .inr ⟨S.T b, by rw [tj]; exact List.mem_map_of_mem hb, r.eq⟩
  · rw [ti] at ha
    obtain ⟨a', ha', rfl⟩ := List.mem_map.mp ha
    obtain ⟨x, hx, r⟩ := hA.right ha'
    exact ⟨S.T x, List.mem_map_of_mem (List.mem_append_left _ hx), r.eq⟩
  · rw [tj] at hb
    obtain ⟨b', hb', rfl⟩ := List.mem_map.mp hb
    obtain ⟨x, hx, r⟩ := hB.right hb'
    exact ⟨S.T x, List.mem_map_of_mem (List.mem_append_right _ hx), r.eq⟩
  · rcases List.mem_append.mp hx with z | z
    · obtain ⟨a, ha, r⟩ := hA.left z
      have h1 := r.ht
      have h2 : (S.T a).ht + 1 ≤ (S.T i).ht := ht_os (by rw [ti]; exact List.mem_map_of_mem ha)
      omega
    · obtain ⟨b, hb, r⟩ := hB.left z
      have h1 := r.ht
      have h2 : (S.T b).ht + 1 ≤ (S.T j).ht := ht_os (by rw [tj]; exact List.mem_map_of_mem hb)
      omega
  · have h1 := na.len
    have h2 := nb.len
    rw [ti, List.length_map] at h1
    rw [tj, List.length_map] at h2
    rw [List.length_append, hA.1, hB.1]
    omega
  · rcases List.mem_append.mp hx with z | z
    · obtain ⟨a', ha, r⟩ := hA.left z
      exact r.nar a b (na.sub (by rw [ti]; exact List.mem_map_of_mem ha)) nb
    · obtain ⟨b', hb, r⟩ := hB.left z
      exact r.nar a b na (nb.sub (by rw [tj]; exact List.mem_map_of_mem hb))
/-- x is alike to the tree t, and no larger -/
structure IsTr (S : GS) (x : Nat) (t : Tr) : Prop where
  lt : x < S.n
  eq : Eqv [S.T x] [t]
  ht : (S.T x).ht ≤ t.ht
  nn : (S.T x).nn ≤ t.nn
  nar : ∀ n, Nar n t → Nar n (S.T x)
theorem IsTr.ext {S S' : GS} {x h : Nat} {t : Tr} (k : IsTr S x t) (e : Ext h S S') (ok : GOk S) : IsTr S' x t := by
  refine ⟨Nat.lt_of_lt_of_le k.lt e.n, ?_, ?_, ?_, ?_⟩ <;> rw [e.T ok k.lt]
  · exact k.eq
  · exact k.ht
  · exact k.nn
  · exact k.nar
theorem nns_each {S : GS} : ∀ {xs : List Nat} {ts : List Tr}, Each (fun x t => (S.T x).nn ≤ t.nn) xs ts → nns (xs.map S.T) ≤ nns ts
  | [], _, _ => Nat.zero_le _
  | x :: xs, [], h => by simp [Each] at h
  | x :: xs, t :: ts, h => by
    have h0 := h.2 0 x t rfl rfl
    have := nns_each (xs := xs) (ts := ts) ⟨by simpa using h.1, fun m a b ha hb => h.2 (m + 1) a b ha hb⟩
    rw [List.map_cons, nns, nns]
    omega
theorem tree_made {S : GS} {k : Nat} {xs : List Nat} {ts : List Tr} (h : Each (fun x t => IsTr S x t) xs ts) (m : MadeOk S xs k) : IsTr S k (.nd ts) := by
  refine ⟨m.lt, m.eq.trans (eqv_tree (fun s hs => ?_) fun t ht => ?_), m.ht fun x hx => ?_, ?_, fun n hn => m.nar ?_ fun x hx => ?_⟩
  · obtain ⟨x, hx, rfl⟩ := List.mem_map.mp (show s ∈ xs.map S.T from hs)
    obtain ⟨t, ht, r⟩ := h.left hx
    exact ⟨t, ht, r.eq⟩
  · obtain ⟨x, hx, r⟩ := h.right (show t ∈ ts from ht)
    exact ⟨S.T x, List.mem_map_of_mem hx, r.eq⟩
  · obtain ⟨t, ht, r⟩ := h.left hx
    have h1 := r.ht
    have h2 : t.ht + 1 ≤ (Tr.nd ts).ht := ht_os (t := .nd ts) ht
    omega
  · have h1 := m.nn
    have h2 := nns_each (h.imp fun x _ y _ r => r.nn)
    rw [Tr.nn]
    omega
  · rw [h.1]
    exact hn.len
  · obtain ⟨t, ht, r⟩ := h.left hx
    exact r.nar n (hn.sub ht)
/-! ### fits -/
def GS.o (S : GS) (i : Nat) : List Nat := S.os.getD i []
theorem GS.o_of {S : GS} {i : Nat} {o : List Nat} (e : S.os[i]? = some o) : S.o i = o := by
  unfold GS.o
  rw [List.getD_eq_getElem?_getD, e]
  rfl
theorem GS.o_get {S : GS} {i : Nat} (h : i < S.n) : S.os[i]? = some (S.o i) := by
  rw [List.getElem?_eq_getElem h, GS.o_of (List.getElem?_eq_getElem h)]
def fits1 (S : GS) (M : List Nat) (g : Nat) : Bool := (S.o g).all fun k => M.contains k
def fits2 (S : GS) (M : List Nat) (g : Nat) : Bool := M.all fun k => (S.o g).contains k || (S.o k).contains g
noncomputable def fits3 (S : GS) (M : List Nat) (g : Nat) : Bool := g != 0 || M.any fun k => lostB [S.T k]
noncomputable def fitsB (S : GS) (M : List Nat) (g : Nat) : Bool := fits1 S M g && (fits2 S M g && fits3 S M g)
theorem made_goal {S : GS} (ok : GOk S) {M : List Nat} (hM : ∀ x ∈ M, x < S.n) {one g : Nat} (h1 : one ∈ M) (hg : g ∈ S.o one) (hf : fitsB S M g = true) : MadeOk S M g := by
  have eo := S.o_get (hM one h1)
  have gl := ok.lt eo hg
  have eg := S.o_get gl
  have tg := os_of ok eg
  have hone : S.T g ∈ (S.T one).os := by rw [os_of ok eo]; exact List.mem_map_of_mem hg
  unfold fitsB at hf
  rw [Bool.and_eq_true, Bool.and_eq_true] at hf
  obtain ⟨f1, f2, f3⟩ := hf
  unfold fits1 at f1
  unfold fits2 at f2
  unfold fits3 at f3
  rw [List.all_eq_true] at f1 f2
  refine ⟨gl, (eqv_short (G := .nd (M.map S.T)) (h := S.T g) (fun o ho => ?_) (fun s hs => ?_) ?_ fun h0 => ?_).symm, .inr ⟨one, h1, hone⟩⟩
  · rw [tg] at ho
    obtain ⟨k, hk, rfl⟩ := List.mem_map.mp ho
    have := f1 k hk
    rw [List.contains_iff_mem] at this
    exact List.mem_map_of_mem this
  · obtain ⟨k, hk, rfl⟩ := List.mem_map.mp (show s ∈ M.map S.T from hs)
    have := f2 k hk
    rw [Bool.or_eq_true, List.contains_iff_mem, List.contains_iff_mem] at this
    rcases this with z | z
    · exact .inl (by rw [tg]; exact List.mem_map_of_mem z)
    · exact .inr (by rw [os_of ok (S.o_get (hM k hk))]; exact List.mem_map_of_mem z)
  · show M.map S.T ≠ []
    intro z
    rw [List.map_eq_nil_iff] at z
    rw [z] at h1
    cases h1
  · rw [tg, List.map_eq_nil_iff] at h0
    have g0 : g = 0 := by
      rw [h0] at eg
      have h5 := ok.pos
      obtain ⟨a1, a2⟩ := List.getElem?_eq_some_iff.mp eg
      obtain ⟨b1, b2⟩ := List.getElem?_eq_some_iff.mp h5
      rcases Nat.eq_zero_or_pos g with z | z
      · exact z
      · exact absurd (by rw [a2, b2]) (List.pairwise_iff_getElem.mp ok.nd 0 g b1 a1 z)
    rw [g0] at f3
    simp only [bne_self_eq_false, Bool.false_or] at f3
    rw [List.any_eq_true] at f3
    obtain ⟨k, hk, z⟩ := f3
    exact ⟨S.T k, List.mem_map_of_mem hk, lostB_iff.mp z⟩
theorem made_place {S : GS} {M o : List Nat} {k : Nat} (ok : GOk S) (e : S.os[k]? = some o) (hn : o.Nodup) (hm : ∀ x, x ∈ o ↔ x ∈ M) : MadeOk S M k := by
  have t := ok.tree k o e
  refine ⟨(List.getElem?_eq_some_iff.mp e).1, ?_, .inl ⟨o, t, hn, fun x hx => (hm x).mp hx⟩⟩
  rw [t]
  refine eqv_same fun s => ?_
  constructor
  · intro h
    obtain ⟨x, hx, rfl⟩ := List.mem_map.mp (show s ∈ o.map S.T from h)
    exact List.mem_map_of_mem ((hm x).mp hx)
  · intro h
    obtain ⟨x, hx, rfl⟩ := List.mem_map.mp (show s ∈ M.map S.T from h)
    exact List.mem_map_of_mem ((hm x).mpr hx)
/-- whether the new node is lost -/
theorem lost_new {S : GS} {o : List Nat} : lostB [.nd (o.map S.T)] = (!decide (o = []) && !(o.any fun k => lostB [S.T k])) := by
  rw [Bool.eq_iff_iff, lostB_iff, lost_one]
  simp only [Bool.and_eq_true, Bool.not_eq_true', decide_eq_false_iff_not, List.any_eq_false]
  constructor
  · rintro ⟨h1, h2⟩
    refine ⟨fun z => h1 (by rw [z]; rfl), fun k hk z => h2 (S.T k) (List.mem_map_of_mem hk) (lostB_iff.mp z)⟩
  · rintro ⟨h1, h2⟩
    refine ⟨fun z => h1 (List.map_eq_nil_iff.mp z), fun t ht z => ?_⟩
    obtain ⟨k, hk, rfl⟩ := List.mem_map.mp (show t ∈ o.map S.T from ht)
    exact h2 k hk (lostB_iff.mpr z)
end K59
end

section
set_option Elab.async false
set_option linter.all false
set_option maxRecDepth 100000
set_option maxHeartbeats 8000000
/-! Groves in the heap; __init__ and place. -/
namespace K59
open PySem L2 PyProof.Rows
structure GR where
  g : Addr
  dx : Addr
  lo : Addr
  dp : Addr
  ll : Addr
  ds : Addr
  fs : List (Str × V)
abbrev GR.own (R : GR) : List Addr := [R.lo, R.dp, R.ll, R.ds]
structure GFs (R : GR) : Prop where
  o : R.fs.lookup ("options" : Str) = some (.ref R.lo)
  p : R.fs.lookup ("places" : Str) = some (.ref R.dp)
  l : R.fs.lookup ("lost" : Str) = some (.ref R.ll)
  s : R.fs.lookup ("sums" : Str) = some (.ref R.ds)
  mPlace : R.fs.lookup ("place" : Str) = none
  mFits : R.fs.lookup ("fits" : Str) = none
  mMake : R.fs.lookup ("make" : Str) = none
  mRead : R.fs.lookup ("read" : Str) = none
  mAdd : R.fs.lookup ("add" : Str) = none
  mHeap : R.fs.lookup ("heap" : Str) = none
  mNodes : R.fs.lookup ("nodes" : Str) = none
  mHeight : R.fs.lookup ("height" : Str) = none
  mForm : R.fs.lookup ("form" : Str) = none
  mWritten : R.fs.lookup ("written" : Str) = none
def iL (o : List Nat) : List V := o.map fun k => V.int (k : Nat)
def kO (o : List Nat) : List Key := o.map fun k => Sum.inl ((k : Nat) : Int)
theorem kO_ints (o : List Nat) : (kO o).map kV = iL o := by unfold kO iL; rw [List.map_map]; rfl
theorem kO_inj : ∀ {o p : List Nat}, kO o = kO p → o = p
  | [], [], _ => rfl
  | [], _ :: _, h => by cases h
  | _ :: _, [], h => by cases h
  | a :: o, b :: p, h => by
    have h' : (Sum.inl ((a : Nat) : Int) : Key) :: kO o = Sum.inl ((b : Nat) : Int) :: kO p := h
    injection h' with h1 h2
    injection h1 with h1
    have : a = b := by omega
    rw [this, kO_inj h2]
theorem ints_len (o : List Nat) : (iL o).length = o.length := List.length_map _
theorem ints_get {o : List Nat} {i : Nat} {x : V} (h : (iL o)[i]? = some x) : ∃ k : Nat, x = .int k ∧ o[i]? = some k := by
  unfold iL at h
  rw [List.getElem?_map] at h
  cases e : o[i]? with
  | none => rw [e] at h; cases h
  | some k => rw [e] at h; exact ⟨k, (Option.some.inj h).symm, rfl⟩
theorem ints_flat (o : List Nat) : (iL o).all flatV = true := by
  rw [List.all_eq_true]
  intro x hx
  obtain ⟨k, _, rfl⟩ := List.mem_map.mp hx
  rfl
theorem ints_in (k : Nat) (o : List Nat) : inV (.int k) (iL o) = o.contains k := by
  rw [Bool.eq_iff_iff, List.contains_iff_mem]
  unfold inV
  rw [List.any_eq_true]
  constructor
  · rintro ⟨x, hx, h⟩
    obtain ⟨j, hj, rfl⟩ := List.mem_map.mp hx
    have h' : (((j : Nat) : Int) == ((k : Nat) : Int)) = true := h
    have : j = k := by have := beq_iff_eq.mp h'; omega
    rw [← this]; exact hj
  · intro h
    exact ⟨.int k, List.mem_map_of_mem h, by show (((k : Nat) : Int) == ((k : Nat) : Int)) = true; exact beq_self_eq_true _⟩
theorem ints_dp {K : PySem.W.Frag} {H : Hp} : ∀ o : List Nat, DpAll K H (iL o) (o.map fun k => PyData.int ((k : Nat) : Int))
  | [] => .nil
  | k :: o => .cons (.int _) (ints_dp o)
theorem ints_lay : ∀ o : List Nat, PyData.canLayAll0 (o.map fun k => PyData.int ((k : Nat) : Int)) = true ∧ PyData.depthAll (o.map fun k => PyData.int ((k : Nat) : Int)) ≤ 2
  | [] => ⟨rfl, by rw [List.map_nil, PyData.depthAll]; omega⟩
  | k :: o => by
    obtain ⟨h1, h2⟩ := ints_lay o
    refine ⟨?_, ?_⟩
    · rw [List.map_cons, PyData.canLayAll0, h1, PyData.canLay0]
      rfl
    · rw [List.map_cons, PyData.depthAll, PyData.depth]
      omega
theorem ints_shaped (o : List Nat) : SeqAt.shaped (.tuple (o.map fun k => PyData.int ((k : Nat) : Int))) = true := by
  obtain ⟨h1, h2⟩ := ints_lay o
  unfold SeqAt.shaped
  rw [PyData.canLay0, PyData.depth, h1]
  simp only [Bool.true_and, decide_eq_true_eq]
  omega
theorem ints_nil (o : List Nat) : (!PyData.eqv (.tuple (o.map fun k => PyData.int ((k : Nat) : Int))) (.tuple [])) = !decide (o = []) := by
  cases o with
  | nil => rfl
  | cons k o => rfl
/-- whole numbers of a list of places -/
theorem ints_of : ∀ {ns : List Int} {M : List Nat}, (∀ x ∈ ns, ∃ k ∈ M, x = ((k : Nat) : Int)) → ∃ o : List Nat, ns = o.map (fun k => ((k : Nat) : Int)) ∧ ∀ k ∈ o, k ∈ M
  | [], _, _ => ⟨[], rfl, fun k h => by cases h⟩
  | x :: ns, M, h => by
    obtain ⟨k, hk, e⟩ := h x List.mem_cons_self
    obtain ⟨o, e1, e2⟩ := ints_of (ns := ns) fun y hy => h y (List.mem_cons_of_mem _ hy)
    refine ⟨k :: o, by rw [e, e1]; rfl, fun j hj => ?_⟩
    rcases List.mem_cons.mp hj with z | z
    · rw [z]; exact hk
    · exact e2 j z
theorem ints_int (o : List Nat) : (o.map (fun k => ((k : Nat) : Int))).map V.int = iL o := by unfold iL; rw [List.map_map]; rfl
/-- the grove S stands at R -/
structure GAt (C : Addr) (R : GR) (S : GS) (H : Hp) : Prop where
  ins : H R.g = some (.ins C R.dx R.fs)
  ops : ∃ ps : List Addr, H R.lo = some (.lst (ps.map V.ref)) ∧ Each (fun p o => H p = some (.tup (iL o))) ps S.os
  pls : ∃ kvs : List (List Key × V), H R.dp = some (.dT kvs) ∧ kvs.length ≤ S.n ∧ (∀ o v, valV kvs (kO o) = some v → ∃ i : Nat, S.os[i]? = some o ∧ v = .int i) ∧ ∀ o ∈ S.os, (valV kvs (kO o)).isSome = true
  lst : H R.ll = some (.lst (S.tr.map fun t => V.bl (lostB [t])))
  sms : ∃ kvs : List (List Key × V), H R.ds = some (.dT kvs) ∧ kvs.length ≤ S.sm.length ∧ (∀ i j v, valV kvs (kO [i, j]) = some v → ∃ k : Nat, ((i, j), k) ∈ S.sm ∧ v = .int k) ∧ ∀ e ∈ S.sm, (valV kvs (kO [e.1.1, e.1.2])).isSome = true
  dll : R.lo ≠ R.ll
  ddd : R.dp ≠ R.ds
theorem GAt.same {C : Addr} {R : GR} {S : GS} {H H' : Hp} (h : GAt C R S H) (k : Same H H') : GAt C R S H' := by
  obtain ⟨ps, h1, h2⟩ := h.ops
  obtain ⟨ks, p1, p2⟩ := h.pls
  obtain ⟨ms, m1, m2⟩ := h.sms
  exact ⟨k _ _ h.ins, ⟨ps, k _ _ h1, h2.imp fun p _ o _ e => k _ _ e⟩, ⟨ks, k _ _ p1, p2⟩, k _ _ h.lst, ⟨ms, k _ _ m1, m2⟩, h.dll, h.ddd⟩
/-- what stands at the grove's own places -/
theorem GAt.own {C : Addr} {R : GR} {S : GS} {H : Hp} (h : GAt C R S H) {a : Addr} (ha : a ∈ R.own) : (∃ xs, H a = some (.lst xs)) ∨ ∃ kvs, H a = some (.dT kvs) := by
  obtain ⟨ps, h1, h2⟩ := h.ops
  obtain ⟨ks, p1, p2⟩ := h.pls
  obtain ⟨ms, m1, m2⟩ := h.sms
  simp only [List.mem_cons, List.not_mem_nil, or_false] at ha
  rcases ha with rfl | rfl | rfl | rfl
  · exact .inl ⟨_, h1⟩
  · exact .inr ⟨_, p1⟩
  · exact .inl ⟨_, h.lst⟩
  · exact .inr ⟨_, m1⟩
theorem GAt.none {C : Addr} {R : GR} {S : GS} {H : Hp} (h : GAt C R S H) {a : Addr} (ha : H a = none) : a ∉ R.own := fun z => by
  rcases h.own z with ⟨_, e⟩ | ⟨_, e⟩ <;> rw [ha] at e <;> cases e
theorem GAt.tup {C : Addr} {R : GR} {S : GS} {H : Hp} (h : GAt C R S H) {a : Addr} {xs : List V} (ha : H a = some (.tup xs)) : a ∉ R.own := fun z => by
  rcases h.own z with ⟨_, e⟩ | ⟨_, e⟩ <;> rw [ha] at e <;> cases e
theorem GAt.insn {C : Addr} {R : GR} {S : GS} {H : Hp} (h : GAt C R S H) : R.g ∉ R.own := fun z => by
  rcases h.own z with ⟨_, e⟩ | ⟨_, e⟩ <;> rw [h.ins] at e <;> cases e
theorem GAt.tups {C : Addr} {R : GR} {S : GS} {H H' : Hp} (h : GAt C R S H) (k : But R.own H H') : Tups H H' := fun a xs e => k a _ e (h.tup e)
/-- a list or a dict beside the grove is written -/
theorem GAt.put {C : Addr} {R : GR} {S : GS} {H : Hp} (h : GAt C R S H) {a : Addr} {o o' : HO} (ho : H a = some o) (ha : a ∉ R.own) (hi : ∀ C dx fs, o ≠ .ins C dx fs) (ht : ∀ xs, o ≠ .tup xs) : GAt C R S (upd H a o') := by
  obtain ⟨ps, h1, h2⟩ := h.ops
  obtain ⟨ks, p1, p2⟩ := h.pls
  obtain ⟨ms, m1, m2⟩ := h.sms
  simp only [List.mem_cons, List.not_mem_nil, or_false, not_or] at ha
  obtain ⟨a1, a2, a3, a4⟩ := ha
  refine ⟨?_, ⟨ps, by rw [upd_ne (Ne.symm a1)]; exact h1, h2.imp fun p _ o2 _ e => ?_⟩, ⟨ks, by rw [upd_ne (Ne.symm a2)]; exact p1, p2⟩, by rw [upd_ne (Ne.symm a3)]; exact h.lst, ⟨ms, by rw [upd_ne (Ne.symm a4)]; exact m1, m2⟩, h.dll, h.ddd⟩
  · rw [upd_ne]
    · exact h.ins
    · intro z
      rw [← z, h.ins] at ho
      cases ho
      exact hi _ _ _ rfl
  · rw [upd_ne]
    · exact e
    · intro z
      rw [← z, e] at ho
      cases ho
      exact ht _ rfl
theorem GAt.op {C : Addr} {R : GR} {S : GS} {H : Hp} (h : GAt C R S H) {i : Nat} {o : List Nat} (e : S.os[i]? = some o) : ∃ (ps : List Addr) (p : Addr), H R.lo = some (.lst (ps.map V.ref)) ∧ atI (ps.map V.ref) ((i : Nat) : Int) = some (.ref p) ∧ H p = some (.tup (iL o)) := by
  obtain ⟨ps, h1, h2⟩ := h.ops
  have hi : i < ps.length := by rw [h2.1]; exact (List.getElem?_eq_some_iff.mp e).1
  refine ⟨ps, ps[i], h1, atI_nat (by rw [List.getElem?_map, List.getElem?_eq_getElem hi]; rfl), h2.2 i _ o (List.getElem?_eq_getElem hi) e⟩
theorem GAt.ls {C : Addr} {R : GR} {S : GS} {H : Hp} (ok : GOk S) {i : Nat} (hi : i < S.n) : atI (S.tr.map fun t => V.bl (lostB [t])) ((i : Nat) : Int) = some (.bl (lostB [S.T i])) :=
  atI_nat (by rw [List.getElem?_map, ok.t_get hi]; rfl)
section
variable {P : Program} {w : World} {K : PySem.W.Frag} {mg : Str → Option Value} {base : Heap}
theorem pe_fldK {X : Cx} {e : Expr} {f : Str} {ta : TE} {pos : Pos} (hK : X.K = K) (he : PE X e ta) (hb : attributeBase e f X.env (eval e X.env) = eval e X.env) : PE X (.Attribute e f pos) (tFld K ta f) := by
  subst hK
  exact pe_fld he hb
structure GTx (K : PySem.W.Frag) (mg : Str → Option Value) (C : Addr) : Prop where
  cl : Cls K C
  nO : NoAttr K C "options"
  nP : NoAttr K C "places"
  nL : NoAttr K C "lost"
  nS : NoAttr K C "sums"
  nM : NoAttr K C "mates"
  nT : NoAttr K C "lates"
  mgC : mg "Grove" = some (.ref C)
def S0 : GS := ⟨[[]], [.nd []], []⟩
theorem s0_ok : GOk S0 := by
  refine ⟨rfl, rfl, List.nodup_cons.mpr ⟨by simp, List.nodup_nil⟩, ?_, ?_, fun e h => (by cases h), fun o ho => by rw [List.mem_singleton.mp ho]; decide, List.nodup_nil⟩
  · intro i o e k hk
    have hi := (List.getElem?_eq_some_iff.mp e).1
    have : i = 0 := by have : i < 1 := hi; omega
    subst this
    cases e
    cases hk
  · intro i o e
    have hi := (List.getElem?_eq_some_iff.mp e).1
    have : i = 0 := by have : i < 1 := hi; omega
    subst this
    cases e
    rfl
theorem lost_leaf : lostB [.nd []] = false := by
  have := lost_new (S := S0) (o := [])
  simpa using this
/-! ### __init__ -/
def spGInit (C : Addr) : Sp := fun vs H Q _ => ∃ (g dx : Addr), vs = [.ref g] ∧ H g = some (.ins C dx []) ∧
  ∀ (R : GR) H', R.g = g → But [g] H H' → (∀ a ∈ R.own, H a = none) → GFs R → GAt C R S0 H' → Q .non H'
theorem scGInit : FnScope ["self"] ["self"] (defScope sGInit) := ⟨rfl, rfl, rfl, by decide +kernel, rfl, by decide +kernel, by decide +kernel⟩
def gfs (lo dp ll ds m t : Addr) : List (Str × V) := putF "lates" (.ref t) (putF "mates" (.ref m) (putF "sums" (.ref ds) (putF "lost" (.ref ll) (putF "places" (.ref dp) (putF "options" (.ref lo) [])))))
theorem gfs_no {lo dp ll ds m t : Addr} {x : Str} (h1 : ¬ x = "options") (h2 : ¬ x = "places") (h3 : ¬ x = "lost") (h4 : ¬ x = "sums") (h5 : ¬ x = "mates") (h6 : ¬ x = "lates") : (gfs lo dp ll ds m t).lookup x = none := by
  unfold gfs
  rw [lookup_putF, if_neg h6, lookup_putF, if_neg h5, lookup_putF, if_neg h4, lookup_putF, if_neg h3, lookup_putF, if_neg h2, lookup_putF, if_neg h1]
  rfl
theorem gfs_ok (g dx lo dp ll ds m t : Addr) : GFs ⟨g, dx, lo, dp, ll, ds, gfs lo dp ll ds m t⟩ := by
  constructor
  · show (gfs lo dp ll ds m t).lookup _ = _
    unfold gfs
    rw [lookup_putF, if_neg (by decide +kernel), lookup_putF, if_neg (by decide +kernel), lookup_putF, if_neg (by decide +kernel), lookup_putF, if_neg (by decide +kernel), lookup_putF, if_neg (by decide +kernel), lookup_putF, if_pos rfl]
  · show (gfs lo dp ll ds m t).lookup _ = _
    unfold gfs
    rw [lookup_putF, if_neg (by decide +kernel), lookup_putF, if_neg (by decide +kernel), lookup_putF, if_neg (by decide +kernel), lookup_putF, if_neg (by decide +kernel), lookup_putF, if_pos rfl]
  · show (gfs lo dp ll ds m t).lookup _ = _
    unfold gfs
    rw [lookup_putF, if_neg (by decide +kernel), lookup_putF, if_neg (by decide +kernel), lookup_putF, if_neg (by decide +kernel), lookup_putF, if_pos rfl]
  · show (gfs lo dp ll ds m t).lookup _ = _
    unfold gfs
    rw [lookup_putF, if_neg (by decide +kernel), lookup_putF, if_neg (by decide +kernel), lookup_putF, if_pos rfl]
  all_goals exact gfs_no (by decide +kernel) (by decide +kernel) (by decide +kernel) (by decide +kernel) (by decide +kernel) (by decide +kernel)
theorem putF_len (f : Str) (v : V) : ∀ fs : List (Str × V), (putF f v fs).length ≤ fs.length + 1
  | [] => Nat.le_refl _
  | (g, x) :: fs => by
    have ih := putF_len f v fs
    rw [putF]
    split
    · simp
    · simp only [List.length_cons]; omega
theorem ok_ginit {f C : Addr} {fd : FuncData} (F : Fun K "__init__" "Grove.__init__" sGInit f fd) (T : GTx K mg C) : FnOk P w K mg base CX0 1 f fd ["self"] (spGInit C) := by
  refine F.ok scGInit (fun vs H Q E h => ?_) (fun cdv A outer s H vs Q E hr h => ?_)
  · obtain ⟨g, dx, rfl, _⟩ := h
    rfl
  obtain ⟨g, dx, rfl, hg, q⟩ := h
  have hu := hr.units
  refine ⟨_, pss_cons (ps_fld (pv 0) (pe_lst (pa_cons (pe_tup pa_nil) pa_nil)) rfl) (pss_cons (ps_fld (pv 0) (pe_unit0 hu) rfl) (pss_cons (ps_fld (pv 0) (pe_lst (pa_cons pe_bl pa_nil)) rfl)
    (pss_cons (ps_fld (pv 0) pe_dnewT rfl) (pss_cons (ps_fld (pv 0) pe_dnewT rfl) (pss_one (ps_fld (pv 0) pe_dnewT rfl)))))), ?_⟩
  refine ⟨Nat.zero_le _, fun t0 ht0 => ⟨by show 1 ≤ sizeLine; decide, fun lo hlo => ?_⟩⟩
  have g1 : g ≠ t0 := ne_of_none hg ht0
  have g2 : g ≠ lo := fun z => by rw [← z, upd_ne g1, hg] at hlo; cases hlo
  have t1 : t0 ≠ lo := fun z => by rw [← z, upd_same] at hlo; cases hlo
  have hlo0 : H lo = none := by rw [upd_ne (Ne.symm t1)] at hlo; exact hlo
  refine ⟨_, rfl, g, C, dx, [], rfl, (by rw [upd_ne g2, upd_ne g1]; exact hg), T.cl, T.nO, (by show 0 < 1000; decide), ?_⟩
  have S1 : But [g] H (upd (upd (upd H t0 (.tup [])) lo (.lst [.ref t0])) g (.ins C dx (putF "options" (.ref lo) []))) := (((But.refl H).new ht0).new hlo).put (by simp)
  have e1 : upd (upd (upd H t0 (.tup [])) lo (.lst [.ref t0])) g (.ins C dx (putF "options" (.ref lo) [])) lo = some (.lst [.ref t0]) := by rw [upd_ne (Ne.symm g2)]; exact upd_same
  have e2 : upd (upd (upd H t0 (.tup [])) lo (.lst [.ref t0])) g (.ins C dx (putF "options" (.ref lo) [])) t0 = some (.tup []) := by rw [upd_ne (Ne.symm g1), upd_ne t1]; exact upd_same
  have e3 : upd (upd (upd H t0 (.tup [])) lo (.lst [.ref t0])) g (.ins C dx (putF "options" (.ref lo) [])) g = some (.ins C dx (putF "options" (.ref lo) [])) := upd_same
  generalize upd (upd (upd H t0 (.tup [])) lo (.lst [.ref t0])) g (.ins C dx (putF "options" (.ref lo) [])) = H1 at S1 e1 e2 e3
  intro dp z0 hdp hz0 hdz
  have g3 : g ≠ z0 := ne_of_none e3 hz0
  have g4 : g ≠ dp := ne_of_none e3 hdp
  refine ⟨_, rfl, g, C, dx, _, rfl, (by rw [upd_ne g4, upd_ne g3]; exact e3), T.cl, T.nP, (by show 1 < 1000; decide), ?_⟩
  have S2 : But [g] H1 (upd (upd (upd H1 z0 (.tup [])) dp (.dT [([], .int 0)])) g (.ins C dx (putF "places" (.ref dp) (putF "options" (.ref lo) [])))) := (((But.refl H1).new hz0).new (by rw [upd_ne hdz]; exact hdp)).put (by simp)
  have e4 : upd (upd (upd H1 z0 (.tup [])) dp (.dT [([], .int 0)])) g (.ins C dx (putF "places" (.ref dp) (putF "options" (.ref lo) []))) dp = some (.dT [([], .int 0)]) := by rw [upd_ne (Ne.symm g4)]; exact upd_same
  have e5 : upd (upd (upd H1 z0 (.tup [])) dp (.dT [([], .int 0)])) g (.ins C dx (putF "places" (.ref dp) (putF "options" (.ref lo) []))) g = some (.ins C dx (putF "places" (.ref dp) (putF "options" (.ref lo) []))) := upd_same
  generalize upd (upd (upd H1 z0 (.tup [])) dp (.dT [([], .int 0)])) g (.ins C dx (putF "places" (.ref dp) (putF "options" (.ref lo) []))) = H2 at S2 e4 e5
  have n1 : lo ∉ [g] := by simpa using Ne.symm g2
  have n2 : t0 ∉ [g] := by simpa using Ne.symm g1
  have n3 : dp ∉ [g] := by simpa using Ne.symm g4
  refine ⟨by show 1 ≤ sizeLine; decide, fun ll hll => ?_⟩
  have g5 : g ≠ ll := ne_of_none e5 hll
  refine ⟨_, rfl, g, C, dx, _, rfl, (by rw [upd_ne g5]; exact e5), T.cl, T.nL, Nat.lt_of_le_of_lt (Nat.le_trans (putF_len _ _ _) (Nat.succ_le_succ (putF_len _ _ _))) (by decide), ?_⟩
  have S3 : But [g] H2 (upd (upd H2 ll (.lst [.bl false])) g (.ins C dx (putF "lost" (.ref ll) (putF "places" (.ref dp) (putF "options" (.ref lo) []))))) := ((But.refl H2).new hll).put (by simp)
  have e6 : upd (upd H2 ll (.lst [.bl false])) g (.ins C dx (putF "lost" (.ref ll) (putF "places" (.ref dp) (putF "options" (.ref lo) [])))) ll = some (.lst [.bl false]) := by rw [upd_ne (Ne.symm g5)]; exact upd_same
  have e7 : upd (upd H2 ll (.lst [.bl false])) g (.ins C dx (putF "lost" (.ref ll) (putF "places" (.ref dp) (putF "options" (.ref lo) [])))) g = some (.ins C dx (putF "lost" (.ref ll) (putF "places" (.ref dp) (putF "options" (.ref lo) [])))) := upd_same
  generalize upd (upd H2 ll (.lst [.bl false])) g (.ins C dx (putF "lost" (.ref ll) (putF "places" (.ref dp) (putF "options" (.ref lo) [])))) = H3 at S3 e6 e7
  have n4 : ll ∉ [g] := by simpa using Ne.symm g5
  intro ds hds
  have g6 : g ≠ ds := ne_of_none e7 hds
  refine ⟨_, rfl, g, C, dx, _, rfl, (by rw [upd_ne g6]; exact e7), T.cl, T.nS, Nat.lt_of_le_of_lt (Nat.le_trans (putF_len _ _ _) (Nat.succ_le_succ (Nat.le_trans (putF_len _ _ _) (Nat.succ_le_succ (putF_len _ _ _))))) (by decide), ?_⟩
  have S4 : But [g] H3 (upd (upd H3 ds (.dT [])) g (.ins C dx (putF "sums" (.ref ds) (putF "lost" (.ref ll) (putF "places" (.ref dp) (putF "options" (.ref lo) [])))))) := ((But.refl H3).new hds).put (by simp)
  have e8 : upd (upd H3 ds (.dT [])) g (.ins C dx (putF "sums" (.ref ds) (putF "lost" (.ref ll) (putF "places" (.ref dp) (putF "options" (.ref lo) []))))) ds = some (.dT []) := by rw [upd_ne (Ne.symm g6)]; exact upd_same
  have e9 : upd (upd H3 ds (.dT [])) g (.ins C dx (putF "sums" (.ref ds) (putF "lost" (.ref ll) (putF "places" (.ref dp) (putF "options" (.ref lo) []))))) g = some (.ins C dx (putF "sums" (.ref ds) (putF "lost" (.ref ll) (putF "places" (.ref dp) (putF "options" (.ref lo) []))))) := upd_same
  generalize upd (upd H3 ds (.dT [])) g (.ins C dx (putF "sums" (.ref ds) (putF "lost" (.ref ll) (putF "places" (.ref dp) (putF "options" (.ref lo) []))))) = H4 at S4 e8 e9
  have n5 : ds ∉ [g] := by simpa using Ne.symm g6
  intro m hm
  have g7 : g ≠ m := ne_of_none e9 hm
  have len4 : ∀ (a b c d : Str) (va vb vc vd : V), (putF a va (putF b vb (putF c vc (putF d vd [])))).length ≤ 4 := fun a b c d va vb vc vd =>
    Nat.le_trans (putF_len _ _ _) (Nat.succ_le_succ (Nat.le_trans (putF_len _ _ _) (Nat.succ_le_succ (Nat.le_trans (putF_len _ _ _) (Nat.succ_le_succ (putF_len _ _ _))))))
  refine ⟨_, rfl, g, C, dx, _, rfl, (by rw [upd_ne g7]; exact e9), T.cl, T.nM, Nat.lt_of_le_of_lt (len4 _ _ _ _ _ _ _ _) (by decide), ?_⟩
  have S5 : But [g] H4 (upd (upd H4 m (.dT [])) g (.ins C dx (putF "mates" (.ref m) (putF "sums" (.ref ds) (putF "lost" (.ref ll) (putF "places" (.ref dp) (putF "options" (.ref lo) []))))))) := ((But.refl H4).new hm).put (by simp)
  have e10 : upd (upd H4 m (.dT [])) g (.ins C dx (putF "mates" (.ref m) (putF "sums" (.ref ds) (putF "lost" (.ref ll) (putF "places" (.ref dp) (putF "options" (.ref lo) [])))))) g = some (.ins C dx (putF "mates" (.ref m) (putF "sums" (.ref ds) (putF "lost" (.ref ll) (putF "places" (.ref dp) (putF "options" (.ref lo) [])))))) := upd_same
  generalize upd (upd H4 m (.dT [])) g (.ins C dx (putF "mates" (.ref m) (putF "sums" (.ref ds) (putF "lost" (.ref ll) (putF "places" (.ref dp) (putF "options" (.ref lo) [])))))) = H5 at S5 e10
  intro t ht
  have g8 : g ≠ t := ne_of_none e10 ht
  refine ⟨_, rfl, g, C, dx, _, rfl, (by rw [upd_ne g8]; exact e10), T.cl, T.nT, Nat.lt_of_le_of_lt (Nat.le_trans (putF_len _ _ _) (Nat.succ_le_succ (len4 _ _ _ _ _ _ _ _))) (by decide), ?_⟩
  have S6 : But [g] H5 (upd (upd H5 t (.dT [])) g (.ins C dx (gfs lo dp ll ds m t))) := ((But.refl H5).new ht).put (by simp)
  have k1 := e1
  refine q ⟨g, dx, lo, dp, ll, ds, gfs lo dp ll ds m t⟩ _ rfl (((((S1.trans S2).trans S3).trans S4).trans S5).trans S6) (fun a ha => ?_) (gfs_ok _ _ _ _ _ _ _ _) ?_
  · simp only [List.mem_cons, List.not_mem_nil, or_false] at ha
    rcases ha with rfl | rfl | rfl | rfl
    · exact hlo0
    · exact fresh_of S1 hdp n3
    · exact fresh_of (S1.trans S2) hll n4
    · exact fresh_of ((S1.trans S2).trans S3) hds n5
  have f1 := S6 _ _ (S5 _ _ (S4 _ _ (S3 _ _ (S2 _ _ e1 n1) n1) n1) n1) n1
  have f2 := S6 _ _ (S5 _ _ (S4 _ _ (S3 _ _ (S2 _ _ e2 n2) n2) n2) n2) n2
  have f3 := S6 _ _ (S5 _ _ (S4 _ _ (S3 _ _ e4 n3) n3) n3) n3
  have f4 := S6 _ _ (S5 _ _ (S4 _ _ e6 n4) n4) n4
  have f5 := S6 _ _ (S5 _ _ e8 n5) n5
  have d1 : lo ≠ ll := ne_of_none (S2 _ _ e1 n1) hll
  have d2 : dp ≠ ds := ne_of_none (S3 _ _ e4 n3) hds
  refine ⟨upd_same, ⟨[t0], f1, Each.nil.snoc f2⟩, ⟨_, f3, Nat.le_refl _, fun o v e => ?_, fun o ho => ?_⟩, ?_, ⟨_, f5, Nat.zero_le _, fun i j v e => (by cases e), fun e he => (by cases he)⟩, d1, d2⟩
  · cases o with
    | nil => exact ⟨0, rfl, (Option.some.inj e).symm⟩
    | cons k o => cases e
  · rw [List.mem_singleton.mp ho]
    rfl
  · refine f4.trans ?_
    show some (HO.lst [V.bl false]) = some (HO.lst [V.bl (lostB [.nd []])])
    rw [lost_leaf]
end
end K59
end

section
set_option Elab.async false
set_option linter.all false
set_option maxRecDepth 100000
set_option maxHeartbeats 8000000
/-! place. -/
namespace K59
open PySem L2 PyProof.Rows
theorem to_nats {ns : List Int} {M : List Nat} (h : ns.Perm (M.map fun k => ((k : Nat) : Int))) : ∃ o : List Nat, ns.map V.int = iL o ∧ o.Perm M ∧ ns = o.map fun k => ((k : Nat) : Int) := by
  obtain ⟨o, e, _⟩ := ints_of (ns := ns) (M := M) fun x hx => by
    obtain ⟨k, hk, q⟩ := List.mem_map.mp (h.mem_iff.mp hx)
    exact ⟨k, hk, q.symm⟩
  refine ⟨o, by rw [e, ints_int], ?_, e⟩
  have h2 := h.map Int.toNat
  rw [e, List.map_map, List.map_map] at h2
  have id1 : ∀ l : List Nat, l.map (Int.toNat ∘ fun k => ((k : Nat) : Int)) = l := fun l => by
    have : (Int.toNat ∘ fun k : Nat => ((k : Nat) : Int)) = id := by funext k; exact Int.toNat_natCast k
    rw [this, List.map_id]
  rw [id1, id1] at h2
  exact h2
section
variable {P : Program} {w : World} {K : PySem.W.Frag} {mg : Str → Option Value} {base : Heap}
/-- the node of the options o is there at k, at last -/
def Placed (S S' : GS) (o : List Nat) (k : Nat) : Prop := (S' = S ∧ S.os[k]? = some o) ∨ (S' = S.add o ∧ k = S.n ∧ o ∉ S.os)
def spPlace (K : PySem.W.Frag) (C : Addr) : Sp := fun vs H Q _ => ∃ (R : GR) (S : GS) (a : Addr) (M : List Nat), vs = [.ref R.g, .ref a] ∧ GFs R ∧ GAt C R S H ∧ GOk S ∧ SqL K H a (iL M) ∧ (∀ x ∈ M, x < S.n) ∧ M.length ≤ 1000 ∧ S.n < sizeLine ∧
  ∀ (o : List Nat) (S' : GS) (k : Nat) H', o.Perm M → o.Pairwise (· ≤ ·) → Placed S S' o k → But R.own H H' → GAt C R S' H' → Q (.int k) H'
theorem scPlace : FnScope ["self", "some", "key", "one"] ["self", "some"] (defScope sPlace) := ⟨rfl, rfl, rfl, by decide +kernel, rfl, by decide +kernel, by decide +kernel⟩
theorem ok_place {f C : Addr} {fd : FuncData} (F : Fun K "place" "Grove.place" sPlace f fd) (B : Blt mg) (T : GTx K mg C) : FnOk P w K mg base CX0 1 f fd ["self", "some"] (spPlace K C) := by
  refine F.ok scPlace (fun vs H Q E h => ?_) (fun cdv A outer s H vs Q E hr h => ?_)
  · obtain ⟨R, S, a, M, rfl, _⟩ := h
    rfl
  obtain ⟨R, S, a, M, rfl, fs, hG, ok, ha, hM, hM1, hn, q⟩ := h
  have nd := scPlace.nd
  have hu := hr.units
  have hu1 : (A.deeper (envOfC "Grove.place" (defScope sPlace) s.heap.objs.size f cdv)).units + 1 < cLine := by omega
  refine ⟨_, pss_cons (ps_set (i := 2) nd rfl (.inl rfl) (pe_callTy call_tuple_of (by rfl) B.tuple (by decide +kernel) (pa_cons (pe_callB cr_sortedI (by rfl) B.sorted (by decide +kernel) (pa_cons (pv 1) pa_nil)) pa_nil)))
    (pss_cons (ps_if (pt_cmp (pc_dnotin hu1 (pv 2) (pe_fld (pv 0) rfl)))
      (pss_cons (ps_dput hu1 (pe_fld (pv 0) rfl) (pv 2) (pe_callB call_len_seq (by rfl) B.len PySem.boot_len (pa_cons (pe_fld (pv 0) rfl) pa_nil)) rfl)
      (pss_cons (ps_expr (pe_bm PySem.F.plainAttrs_list PySem.F.slot_list_append PySem.F.type_list_append mt_append (pe_fld (pv 0) rfl) (pa_cons (pv 2) pa_nil)))
      (pss_one (ps_expr (pe_bm PySem.F.plainAttrs_list PySem.F.slot_list_append PySem.F.type_list_append mt_append (pe_fld (pv 0) rfl) (pa_cons
        (pe_and (pe_cmpR (op_neD hu) (pv 2) (pe_tup pa_nil) (nomark _)) (pe_one (pe_not (pe_callB (cr_any rfl) (by rfl) B.any (by decide +kernel) (pa_cons
          (pe_lc (own := [("one", 3)]) (g := gName 3) (tt := tYes) rfl nd (pi_tup (pv 2)) (blkOk_by (N := ["self", "some", "key", "one"]) (sc := defScope sPlace) (by decide +kernel)) (fun _ _ _ _ _ => pg_name (i := 3) nd rfl (.inl rfl)) (fun _ _ _ _ _ => pts_nil)
            (fun _ _ _ _ _ => pe_ix (r := rIxL K) ix_list (pe_fldK (K := K) rfl (pv 0) rfl) (pv 3) (fun _ _ => rfl))) pa_nil))))) pa_nil)))))) pss_nil)
    (pss_one (ps_ret (pe_dget hu1 (pe_fld (pv 0) rfl) (pv 2) (fun _ _ => rfl))))), ?_⟩
  refine ⟨_, rfl, a, M.map (fun k => ((k : Nat) : Int)), rfl, by rw [ints_int]; exact ha, fun ns p hperm hsort hp => ⟨p, _, rfl, .inl ⟨SqL.of upd_same, fun t ht => ?_⟩⟩⟩
  obtain ⟨o, eo, hoM, en⟩ := to_nats hperm
  rw [eo] at ht ⊢
  have hsorted : o.Pairwise (· ≤ ·) := by
    rw [en, List.pairwise_map] at hsort
    exact hsort.imp fun h => by omega
  have S2 : Same H (upd (upd H p (.lst (iL o))) t (.tup (iL o))) := (same_new hp).trans (same_new ht)
  have hk : upd (upd H p (.lst (iL o))) t (.tup (iL o)) t = some (.tup (iL o)) := upd_same
  generalize upd (upd H p (.lst (iL o))) t (.tup (iL o)) = H2 at S2 hk
  have G2 := hG.same S2
  obtain ⟨ps, h1, h2⟩ := G2.ops
  obtain ⟨ks, p1, p2, p3, p4⟩ := G2.pls
  have hk' : H2 t = some (.tup ((kO o).map kV)) := by rw [kO_ints]; exact hk
  refine ⟨_, rfl, _, rfl, R.g, C, R.dx, R.fs, _, rfl, G2.ins, T.cl, T.nP, fs.p, R.dp, _, rfl, DGet.t p1 hk', _, rfl, ?_⟩
  cases hv : valV ks (kO o) with
  | some v =>
    refine iteN rfl ?_
    obtain ⟨i, hi, rfl⟩ := p3 _ _ hv
    exact ⟨_, rfl, R.g, C, R.dx, R.fs, _, rfl, G2.ins, T.cl, T.nP, fs.p, _, rfl, R.dp, _, rfl, hv ▸ DGet.t p1 hk', q o S i H2 hoM hsorted (.inl ⟨rfl, hi⟩) (But.of_same S2) G2⟩
  | none =>
    refine iteY rfl ?_
    have hno : o ∉ S.os := fun z => by have := p4 o z; rw [hv] at this; cases this
    have hne : o ≠ [] := fun z => hno (by rw [z]; exact List.mem_of_getElem? ok.pos)
    have hol : ∀ k ∈ o, k < S.n := fun k hk => hM k (hoM.mem_iff.mp hk)
    have hpl : ps.length = S.n := h2.1
    have own1 := G2.tup hk
    have g0 := G2.insn
    simp only [List.mem_cons, List.not_mem_nil, or_false, not_or] at own1 g0
    refine ⟨_, rfl, R.g, C, R.dx, R.fs, _, rfl, G2.ins, T.cl, T.nO, fs.o, R.lo, _, rfl, .inl (SqL.of h1), _, rfl, R.g, C, R.dx, R.fs, _, rfl, G2.ins, T.cl, T.nP, fs.p, _, rfl, R.dp, _, rfl, DPut.t p1 hk' (Nat.lt_of_le_of_lt p2 hn), ?_⟩
    rw [List.length_map, hpl]
    obtain ⟨ms, m1, m2⟩ := G2.sms
    have dlp : R.lo ≠ R.dp := fun z => by rw [z, p1] at h1; cases h1
    have dls : R.lo ≠ R.ds := fun z => by rw [z, m1] at h1; cases h1
    have dpl : R.ll ≠ R.dp := fun z => by have := G2.lst; rw [z, p1] at this; cases this
    have dsl : R.ll ≠ R.ds := fun z => by have := G2.lst; rw [z, m1] at this; cases this
    have B3 : But R.own H2 (upd H2 R.dp (.dT (putK ks (kO o) (.int S.n)))) := but_upd (by simp)
    have i3 : upd H2 R.dp (.dT (putK ks (kO o) (.int S.n))) R.g = some (.ins C R.dx R.fs) := by rw [upd_ne g0.2.1]; exact G2.ins
    have o3 : upd H2 R.dp (.dT (putK ks (kO o) (.int S.n))) R.lo = some (.lst (ps.map V.ref)) := by rw [upd_ne dlp]; exact h1
    have d3 : upd H2 R.dp (.dT (putK ks (kO o) (.int S.n))) R.dp = some (.dT (putK ks (kO o) (.int S.n))) := upd_same
    have l3 : upd H2 R.dp (.dT (putK ks (kO o) (.int S.n))) R.ll = some (.lst (S.tr.map fun t => V.bl (lostB [t]))) := by rw [upd_ne dpl]; exact G2.lst
    have s3 : upd H2 R.dp (.dT (putK ks (kO o) (.int S.n))) R.ds = some (.dT ms) := by rw [upd_ne (Ne.symm G2.ddd)]; exact m1
    generalize upd H2 R.dp (.dT (putK ks (kO o) (.int S.n))) = H3 at B3 i3 o3 d3 l3 s3
    refine ⟨_, rfl, R.g, C, R.dx, R.fs, _, rfl, i3, T.cl, T.nO, fs.o, .inl ⟨rfl, _, SqL.of o3⟩, _, rfl, R.lo, _, _, rfl, rfl, o3, by rw [List.length_map, hpl]; exact hn, ?_⟩
    have B4 : But R.own H2 (upd H3 R.lo (.lst (ps.map V.ref ++ [.ref t]))) := B3.put (by simp)
    have i4 : upd H3 R.lo (.lst (ps.map V.ref ++ [.ref t])) R.g = some (.ins C R.dx R.fs) := by rw [upd_ne g0.1]; exact i3
    have o4 : upd H3 R.lo (.lst (ps.map V.ref ++ [.ref t])) R.lo = some (.lst ((ps ++ [t]).map V.ref)) := by rw [upd_same, List.map_append]; rfl
    have d4 : upd H3 R.lo (.lst (ps.map V.ref ++ [.ref t])) R.dp = some (.dT (putK ks (kO o) (.int S.n))) := by rw [upd_ne (Ne.symm dlp)]; exact d3
    have l4 : upd H3 R.lo (.lst (ps.map V.ref ++ [.ref t])) R.ll = some (.lst (S.tr.map fun t => V.bl (lostB [t]))) := by rw [upd_ne (Ne.symm G2.dll)]; exact l3
    have s4 : upd H3 R.lo (.lst (ps.map V.ref ++ [.ref t])) R.ds = some (.dT ms) := by rw [upd_ne (Ne.symm dls)]; exact s3
    generalize upd H3 R.lo (.lst (ps.map V.ref ++ [.ref t])) = H4 at B4 i4 o4 d4 l4 s4
    have tup4 : ∀ (b : Addr) (xs : List V), H2 b = some (.tup xs) → H4 b = some (.tup xs) := fun b xs e => B4 _ _ e (G2.tup e)
    refine ⟨_, rfl, R.g, C, R.dx, R.fs, _, rfl, i4, T.cl, T.nL, fs.l, .inl ⟨rfl, _, SqL.of l4⟩, _, rfl, Nat.zero_le _, fun e he => ?_⟩
    have S5 : Same H4 (upd H4 e (.tup [])) := same_new he
    have e5 : upd H4 e (.tup []) e = some (.tup []) := upd_same
    generalize upd H4 e (.tup []) = H5 at S5 e5
    refine ⟨.tuple (o.map fun k => PyData.int ((k : Nat) : Int)), .tuple [], .tup (SqT.of (S5 _ _ (tup4 _ _ hk))) (ints_dp o), .tup (SqT.of e5) .nil, ints_shaped o, rfl, _, rfl, ?_⟩
    rw [ints_nil]
    refine iteY (by rw [decide_eq_false hne]; rfl) ?_
    have hk5 : H5 t = some (.tup (iL o)) := S5 _ _ (tup4 _ _ hk)
    refine ⟨_, rfl, t, rfl, ⟨_, SqT.of hk5⟩, fun D hD => lc_tup (K := K) (a := t) (xs := iL o) (fun i H' => Same H5 H' ∧ H' D = some (.lst ((o.take i).map fun k => V.bl (lostB [S.T k])))) ⟨same_new hD, upd_same⟩ (fun i H' _ z => SqT.of (z.1 _ _ hk5)) ?_ ?_⟩
    · rintro i x H' hi ⟨S6, hD6⟩
      obtain ⟨k, rfl, hki⟩ := ints_get hi
      have hkl := hol k (List.mem_of_getElem? hki)
      have hil := (List.getElem?_eq_some_iff.mp hki).1
      have hol2 : o.length = M.length := hoM.length_eq
      refine ⟨rfl, _, rfl, R.g, C, R.dx, R.fs, _, rfl, S6 _ _ (S5 _ _ i4), T.cl, T.nL, fs.l, _, rfl, R.ll, _, _, _, rfl, rfl, SqL.of (S6 _ _ (S5 _ _ l4)), GAt.ls (R := R) (C := C) (H := H) ok hkl, _, hD6, ?_, ?_, ?_⟩
      · rw [List.length_map, List.length_take, sizeLine_eq]; omega
      · exact (But.own (S := []) (But.of_same S6) hD).same
      · rw [upd_same, List.take_succ, hki, List.map_append]
        rfl
    rintro H6 ⟨S6, hD6⟩
    have et : o.take (iL o).length = o := List.take_of_length_le (by rw [ints_len]; exact Nat.le_refl _)
    rw [et] at hD6
    refine ⟨D, o.map (fun k => lostB [S.T k]), rfl, SqL.of (by rw [hD6, List.map_map]; rfl), _, rfl, ?_⟩
    have S46 := S5.trans S6
    have l6 := S46 _ _ l4
    have vl : (!(o.map fun k => lostB [S.T k]).any id) = lostB [Tr.nd (o.map S.T)] := by
      rw [lost_new, decide_eq_false hne, List.any_map]
      rfl
    rw [vl]
    have tl : S.tr.length = S.n := ok.len
    refine ⟨R.ll, _, _, rfl, rfl, l6, by rw [List.length_map, tl]; exact hn, ?_⟩
    have nD : ∀ b ob, H4 b = some ob → b ≠ R.ll → upd H6 R.ll (.lst ((S.tr.map fun t => V.bl (lostB [t])) ++ [.bl (lostB [Tr.nd (o.map S.T)])])) b = some ob := fun b ob e n => by rw [upd_ne n]; exact S46 _ _ e
    have hfin : upd H6 R.ll (.lst ((S.tr.map fun t => V.bl (lostB [t])) ++ [.bl (lostB [Tr.nd (o.map S.T)])])) R.ll = some (.lst ((S.add o).tr.map fun t => V.bl (lostB [t]))) := by
      rw [upd_same]
      show _ = some (HO.lst ((S.tr ++ [Tr.nd (o.map S.T)]).map fun t => V.bl (lostB [t])))
      rw [List.map_append]
      rfl
    have B6 : But R.own H2 (upd H6 R.ll (.lst ((S.tr.map fun t => V.bl (lostB [t])) ++ [.bl (lostB [Tr.nd (o.map S.T)])]))) := (B4.trans (But.of_same S46)).put (by simp)
    generalize upd H6 R.ll (.lst ((S.tr.map fun t => V.bl (lostB [t])) ++ [.bl (lostB [Tr.nd (o.map S.T)])])) = H7 at nD hfin B6
    have tup7 : ∀ (b : Addr) (xs : List V), H2 b = some (.tup xs) → H7 b = some (.tup xs) := fun b xs e => B6 _ _ e (G2.tup e)
    have G7 : GAt C R (S.add o) H7 := by
      refine ⟨nD _ _ i4 g0.2.2.1, ⟨ps ++ [t], nD _ _ o4 G2.dll, ((h2.imp fun p _ o' _ e => tup7 _ _ e).snoc (tup7 _ _ hk))⟩, ⟨_, nD _ _ d4 (Ne.symm dpl), ?_, ?_, ?_⟩, hfin, ⟨ms, nD _ _ s4 (Ne.symm dsl), m2⟩, G2.dll, G2.ddd⟩
      · show _ ≤ (S.os ++ [o]).length
        rw [List.length_append, List.length_singleton, putK_new _ hv, List.length_append, List.length_singleton]
        exact Nat.succ_le_succ p2
      · intro o' v e
        rw [valV_put] at e
        by_cases z : kO o' = kO o
        · rw [if_pos z] at e
          rw [kO_inj z]
          refine ⟨S.n, ?_, (Option.some.inj e).symm⟩
          show (S.os ++ [o])[S.os.length]? = some o
          rw [List.getElem?_append_right (Nat.le_refl _), Nat.sub_self]
          rfl
        · rw [if_neg z] at e
          obtain ⟨i, hi, ev⟩ := p3 _ _ e
          exact ⟨i, pre_get ⟨[o], rfl⟩ hi, ev⟩
      · intro o' ho'
        rw [valV_put]
        by_cases z : kO o' = kO o
        · rw [if_pos z]
          rfl
        · rw [if_neg z]
          rcases List.mem_append.mp ho' with y | y
          · exact p4 _ y
          · exact absurd (by rw [List.mem_singleton.mp y]) z
    have fin : valV (putK ks (kO o) (.int S.n)) (kO o) = some (.int S.n) := by rw [valV_put, if_pos rfl]
    exact ⟨_, rfl, R.g, C, R.dx, R.fs, _, rfl, G7.ins, T.cl, T.nP, fs.p, _, rfl, R.dp, _, rfl, fin ▸ DGet.t (nD _ _ d4 (Ne.symm dpl)) (tup7 _ _ hk'), q o (S.add o) S.n H7 hoM hsorted (.inr ⟨rfl, rfl, hno⟩) ((But.of_same S2).trans B6) G7⟩
end
end K59
end

section
set_option Elab.async false
set_option linter.all false
set_option maxRecDepth 100000
set_option maxHeartbeats 8000000
/-! fits, make. -/
namespace K59
open PySem L2 PyProof.Rows
theorem MadeOk.of_same {S : GS} {o M : List Nat} {k : Nat} (m : MadeOk S o k) (h : ∀ x, x ∈ o ↔ x ∈ M) : MadeOk S M k := by
  refine ⟨m.lt, m.eq.trans (eqv_same fun s => ?_), ?_⟩
  · constructor
    · intro z
      obtain ⟨x, hx, rfl⟩ := List.mem_map.mp (show s ∈ o.map S.T from z)
      exact List.mem_map_of_mem ((h x).mp hx)
    · intro z
      obtain ⟨x, hx, rfl⟩ := List.mem_map.mp (show s ∈ M.map S.T from z)
      exact List.mem_map_of_mem ((h x).mpr hx)
  · rcases m.how with ⟨L, e, hn, hs⟩ | ⟨one, h1, h2⟩
    · exact .inl ⟨L, e, hn, fun x hx => (h x).mp (hs x hx)⟩
    · exact .inr ⟨one, (h one).mp h1, h2⟩
section
variable {P : Program} {w : World} {K : PySem.W.Frag} {mg : Str → Option Value} {base : Heap}
def spFits (K : PySem.W.Frag) (C : Addr) : Sp := fun vs H Q _ => ∃ (R : GR) (S : GS) (a : Addr) (M : List Nat) (g : Nat), vs = [.ref R.g, .ref a, .int g] ∧ GFs R ∧ GAt C R S H ∧ GOk S ∧ H a = some (.lst (iL M)) ∧ (∀ x ∈ M, x < S.n) ∧ M.length ≤ 1000 ∧ g < S.n ∧
  ∀ H', Same H H' → Q (.bl (fitsB S M g)) H'
theorem scFits : FnScope ["self", "some", "goal", "inside", "one"] ["self", "some", "goal"] (defScope sFits) := ⟨rfl, rfl, rfl, by decide +kernel, rfl, by decide +kernel, by decide +kernel⟩
theorem ok_fits {f C : Addr} {fd : FuncData} (F : Fun K "fits" "Grove.fits" sFits f fd) (B : Blt mg) (T : GTx K mg C) : FnOk P w K mg base CX0 1 f fd ["self", "some", "goal"] (spFits K C) := by
  refine F.ok scFits (fun vs H Q E h => ?_) (fun cdv A outer s H vs Q E hr h => ?_)
  · obtain ⟨R, S, a, M, g, rfl, _⟩ := h
    rfl
  obtain ⟨R, S, a, M, g, rfl, fs, hG, ok, ha, hM, hM1, hg, q⟩ := h
  have nd := scFits.nd
  refine ⟨_, pss_cons (ps_set (i := 3) nd rfl (.inr rfl) (pe_ix ix_list (pe_fld (pv 0) rfl) (pv 2) (fun _ _ => rfl)))
    (pss_cons (ps_if (pt_not (pt_val (pe_callB (cr_all rfl) (by rfl) B.all (by decide +kernel) (pa_cons
        (pe_lc (own := [("one", 4)]) (g := gName 4) (tt := tYes) rfl nd (pi_tup (pv 3)) (blkOk_by (N := ["self", "some", "goal", "inside", "one"]) (sc := defScope sFits) (by decide +kernel)) (fun _ _ _ _ _ => pg_name (i := 4) nd rfl (.inl rfl)) (fun _ _ _ _ _ => pts_nil)
          (fun _ _ _ _ _ => pe_cmpR (r := rIn K false) op_in_seq (pv 4) (pv 1) (by rfl))) pa_nil))))
      (pss_one (ps_ret pe_bl)) pss_nil)
    (pss_cons (ps_if (pt_not (pt_val (pe_callB (cr_all rfl) (by rfl) B.all (by decide +kernel) (pa_cons
        (pe_lc (own := [("one", 4)]) (g := gName 4) (tt := tYes) rfl nd (pi_list (pv 1)) (blkOk_by (N := ["self", "some", "goal", "inside", "one"]) (sc := defScope sFits) (by decide +kernel)) (fun _ _ _ _ _ => pg_name (i := 4) nd rfl (.inl rfl)) (fun _ _ _ _ _ => pts_nil)
          (fun _ _ _ _ _ => pe_or (pe_cmpR (r := rIn K false) op_in_seq (pv 4) (pv 3) (by rfl)) (pe_one (pe_cmpR (r := rIn K false) op_in_seq (pv 2) (pe_ix (r := rIxL K) ix_list (pe_fldK (K := K) rfl (pv 0) rfl) (pv 4) (fun _ _ => rfl)) (by rfl))))) pa_nil))))
      (pss_one (ps_ret pe_bl)) pss_nil)
    (pss_one (ps_ret (pe_or (pe_cmpR op_ne (pv 2) pe_int (nomark _)) (pe_one (pe_callB (cr_any rfl) (by rfl) B.any (by decide +kernel) (pa_cons
        (pe_lc (own := [("one", 4)]) (g := gName 4) (tt := tYes) rfl nd (pi_list (pv 1)) (blkOk_by (N := ["self", "some", "goal", "inside", "one"]) (sc := defScope sFits) (by decide +kernel)) (fun _ _ _ _ _ => pg_name (i := 4) nd rfl (.inl rfl)) (fun _ _ _ _ _ => pts_nil)
          (fun _ _ _ _ _ => pe_ix (r := rIxL K) ix_list (pe_fldK (K := K) rfl (pv 0) rfl) (pv 4) (fun _ _ => rfl))) pa_nil)))))))), ?_⟩
  have eg := S.o_get hg
  obtain ⟨ps, p, h1, h2, h3⟩ := hG.op eg
  have hw := ok.wid _ (List.mem_of_getElem? eg)
  refine ⟨_, rfl, R.g, C, R.dx, R.fs, _, rfl, hG.ins, T.cl, T.nO, fs.o, _, rfl, R.lo, _, _, _, rfl, rfl, SqL.of h1, h2, ?_⟩
  refine ⟨_, rfl, p, rfl, ⟨_, SqT.of h3⟩, fun D hD => lc_tup (K := K) (a := p) (xs := iL (S.o g)) (fun i H' => Same H H' ∧ H' D = some (.lst (((S.o g).take i).map fun k => V.bl (M.contains k)))) ⟨same_new hD, upd_same⟩ (fun i H' _ z => SqT.of (z.1 _ _ h3)) ?_ ?_⟩
  · rintro i x H' hi ⟨S1, hD1⟩
    obtain ⟨k, rfl, hki⟩ := ints_get hi
    refine ⟨rfl, _, rfl, _, rfl, a, _, rfl, .inl (SqL.of (S1 _ _ ha)), rfl, ints_flat M, ?_⟩
    have e : (if false = true then !inV (V.int (k : Nat)) (iL M) else inV (V.int (k : Nat)) (iL M)) = M.contains k := ints_in k M
    rw [e]
    refine ⟨_, hD1, ?_, ?_, ?_⟩
    · rw [List.length_map, List.length_take, sizeLine_eq]; omega
    · exact (But.own (S := []) (But.of_same S1) hD).same
    · rw [upd_same, List.take_succ, hki, List.map_append]
      rfl
  rintro H1 ⟨S1, hD1⟩
  have et : (S.o g).take (iL (S.o g)).length = S.o g := List.take_of_length_le (by rw [ints_len]; exact Nat.le_refl _)
  rw [et] at hD1
  refine ⟨D, (S.o g).map (fun k => M.contains k), rfl, SqL.of (by rw [hD1, List.map_map]; rfl), _, rfl, ?_⟩
  have e1 : ((S.o g).map fun k => M.contains k).all id = fits1 S M g := by rw [List.all_map]; rfl
  rw [e1]
  have G1 := hG.same S1
  cases c1 : fits1 S M g with
  | false =>
    refine iteY rfl ?_
    have e : fitsB S M g = false := by unfold fitsB; rw [c1]; rfl
    rw [← e]
    exact q H1 S1
  | true =>
  refine iteN rfl ?_
  refine ⟨_, rfl, a, rfl, ⟨_, SqL.of (S1 _ _ ha)⟩, fun D2 hD2 => lc_list (K := K) (a := a) (xs := iL M) (fun i H' => Same H1 H' ∧ H' D2 = some (.lst ((M.take i).map fun k => V.bl ((S.o g).contains k || (S.o k).contains g)))) ⟨same_new hD2, upd_same⟩ (fun i H' _ z => SqL.of (z.1 _ _ (S1 _ _ ha))) ?_ ?_⟩
  · rintro i x H' hi ⟨S2, hD3⟩
    obtain ⟨k, rfl, hki⟩ := ints_get hi
    have hk := hM k (List.mem_of_getElem? hki)
    have hil := (List.getElem?_eq_some_iff.mp hki).1
    have fin : ∀ b, b = ((S.o g).contains k || (S.o k).contains g) → ∃ acc, H' D2 = some (.lst acc) ∧ acc.length < sizeLine ∧ Same H1 (upd H' D2 (.lst (acc ++ [V.bl b]))) ∧ upd H' D2 (.lst (acc ++ [V.bl b])) D2 = some (.lst ((M.take (i + 1)).map fun k => V.bl ((S.o g).contains k || (S.o k).contains g))) := fun b hb => by
      refine ⟨_, hD3, ?_, ?_, ?_⟩
      · rw [List.length_map, List.length_take, sizeLine_eq]; omega
      · exact (But.own (S := []) (But.of_same S2) hD2).same
      · rw [upd_same, List.take_succ, hki, List.map_append, hb]
        rfl
    refine ⟨rfl, _, rfl, _, rfl, p, _, rfl, .inr (SqT.of (S2 _ _ (S1 _ _ h3))), rfl, ints_flat _, (S.o g).contains k, by rw [← ints_in]; rfl, ?_⟩
    have eb : inV (V.int (k : Nat)) (iL (S.o g)) = (S.o g).contains k := ints_in k _
    cases c : (S.o g).contains k with
    | true => exact iteT (fin true (by rw [c]; rfl))
    | false =>
      refine iteF ?_
      obtain ⟨ps', p', j1, j2, j3⟩ := (G1.same S2).op (S.o_get hk)
      refine ⟨_, rfl, _, rfl, R.g, C, R.dx, R.fs, _, rfl, (G1.same S2).ins, T.cl, T.nO, fs.o, _, rfl, R.lo, _, _, _, rfl, rfl, SqL.of j1, j2, p', _, rfl, .inr (SqT.of j3), rfl, ints_flat _, ?_⟩
      exact fin _ (by rw [c, Bool.false_or]; exact ints_in g _)
  rintro H2 ⟨S2, hD3⟩
  have et2 : M.take (iL M).length = M := List.take_of_length_le (by rw [ints_len]; exact Nat.le_refl _)
  rw [et2] at hD3
  refine ⟨D2, M.map (fun k => (S.o g).contains k || (S.o k).contains g), rfl, SqL.of (by rw [hD3, List.map_map]; rfl), _, rfl, ?_⟩
  have e2 : (M.map fun k => (S.o g).contains k || (S.o k).contains g).all id = fits2 S M g := by rw [List.all_map]; rfl
  rw [e2]
  have G2 := G1.same S2
  have S12 := S1.trans S2
  cases c2 : fits2 S M g with
  | false =>
    refine iteY rfl ?_
    have e : fitsB S M g = false := by unfold fitsB; rw [c1, c2]; rfl
    rw [← e]
    exact q H2 S12
  | true =>
  refine iteN rfl ?_
  have e3 : fitsB S M g = fits3 S M g := by unfold fitsB; rw [c1, c2]; rfl
  refine ⟨_, rfl, rfl, g != 0, ?_, ?_⟩
  · show V.bl (!decide (V.int ((g : Nat) : Int) = V.int 0)) = V.bl (g != 0)
    rw [dec_int]
    congr 1
    show (!(((g : Nat) : Int) == 0)) = !(g == 0)
    congr 1
    rw [Bool.eq_iff_iff, beq_iff_eq, beq_iff_eq]
    omega
  cases c3 : (g != 0) with
  | true =>
    refine iteT ?_
    have e : fitsB S M g = true := by rw [e3]; unfold fits3; rw [c3]; rfl
    rw [← e]
    exact q H2 S12
  | false =>
  refine iteF ?_
  refine ⟨_, rfl, a, rfl, ⟨_, SqL.of (S12 _ _ ha)⟩, fun D3 hD4 => lc_list (K := K) (a := a) (xs := iL M) (fun i H' => Same H2 H' ∧ H' D3 = some (.lst ((M.take i).map fun k => V.bl (lostB [S.T k])))) ⟨same_new hD4, upd_same⟩ (fun i H' _ z => SqL.of (z.1 _ _ (S12 _ _ ha))) ?_ ?_⟩
  · rintro i x H' hi ⟨S3, hD5⟩
    obtain ⟨k, rfl, hki⟩ := ints_get hi
    have hk := hM k (List.mem_of_getElem? hki)
    have hil := (List.getElem?_eq_some_iff.mp hki).1
    have G3 := G2.same S3
    refine ⟨rfl, _, rfl, R.g, C, R.dx, R.fs, _, rfl, G3.ins, T.cl, T.nL, fs.l, _, rfl, R.ll, _, _, _, rfl, rfl, SqL.of G3.lst, GAt.ls (R := R) (C := C) (H := H) ok hk, _, hD5, ?_, ?_, ?_⟩
    · rw [List.length_map, List.length_take, sizeLine_eq]; omega
    · exact (But.own (S := []) (But.of_same S3) hD4).same
    · rw [upd_same, List.take_succ, hki, List.map_append]
      rfl
  rintro H3 ⟨S3, hD5⟩
  rw [et2] at hD5
  refine ⟨D3, M.map (fun k => lostB [S.T k]), rfl, SqL.of (by rw [hD5, List.map_map]; rfl), ?_⟩
  have e4 : (M.map fun k => lostB [S.T k]).any id = fitsB S M g := by
    rw [e3, List.any_map]
    unfold fits3
    rw [c3]
    rfl
  rw [e4]
  exact q H3 (S12.trans S3)
/-! ### make -/
def spMake (K : PySem.W.Frag) (C : Addr) : Sp := fun vs H Q _ => ∃ (R : GR) (S : GS) (a : Addr) (M : List Nat), vs = [.ref R.g, .ref a] ∧ GFs R ∧ GAt C R S H ∧ GOk S ∧ SqL K H a (iL M) ∧ (∀ x ∈ M, x < S.n) ∧ M.length ≤ 63 ∧ S.n < sizeLine ∧
  ∀ (S' : GS) (k : Nat) H', GOk S' → Ext 0 S S' → S'.n ≤ S.n + 1 → S'.sm = S.sm → MadeOk S' M k → But R.own H H' → GAt C R S' H' → Q (.int k) H'
theorem scMake : FnScope ["self", "some", "one", "goal"] ["self", "some"] (defScope sMake) := ⟨rfl, rfl, rfl, by decide +kernel, rfl, by decide +kernel, by decide +kernel⟩
structure Mth (K : PySem.W.Frag) (C : Addr) (nm qn : Str) (st : Stmt) (ps : List Str) (f : Addr) (fd : FuncData) : Prop where
  F : Fun K nm qn st f fd
  b : Binds K fd ps []
  m : Meth K C nm f
theorem ok_make {f C fP fF : Addr} {fd fdP fdF : FuncData} (F : Fun K "make" "Grove.make" sMake f fd) (B : Blt mg) (T : GTx K mg C)
    (MP : Mth K C "place" "Grove.place" sPlace ["self", "some"] fP fdP) (MF : Mth K C "fits" "Grove.fits" sFits ["self", "some", "goal"] fF fdF) : FnOk P w K mg base CX0 2 f fd ["self", "some"] (spMake K C) := by
  have GP : FnOk P w K mg base CX0 1 fP fdP ["self", "some"] (spPlace K C) := ok_place MP.F B T
  have GF : FnOk P w K mg base CX0 1 fF fdF ["self", "some", "goal"] (spFits K C) := ok_fits MF.F B T
  refine F.ok scMake (fun vs H Q E h => ?_) (fun cdv A outer s H vs Q E hr h => ?_)
  · obtain ⟨R, S, a, M, rfl, _⟩ := h
    rfl
  obtain ⟨R, S, a, M, rfl, fs, hG, ok, ha, hM, hM1, hn, q⟩ := h
  have nd := scMake.nd
  refine ⟨_, pss_cons (ps_set (i := 1) nd rfl (.inl rfl) (pe_callB (r := rSortedSet w) (cr_sortedSet rfl) (by rfl) B.sorted (by decide +kernel) (pa_cons (pe_callTy (r := rSetI K w) (cr_setI rfl) (by rfl) B.set (by decide +kernel) (pa_cons (pv 1) pa_nil)) pa_nil)))
    (pss_cons (ps_for PassesOwn.never rfl (pi_list (pv 1)) (pg_name (i := 2) nd rfl (.inl rfl))
      (pss_one (ps_for PassesOwn.never rfl (pi_tup (pe_ix ix_list (pe_fld (pv 0) rfl) (pv 2) (fun _ _ => rfl))) (pg_name (i := 3) nd rfl (.inl rfl))
        (pss_one (ps_if (pt_val (pe_meth (pv 0) T.cl MF.m GF hr MF.b .nil pass0 (pa_cons (pv 1) (pa_cons (pv 3) pa_nil)))) (pss_one (ps_ret (pv 3))) pss_nil)))))
    (pss_one (ps_ret (pe_meth (pv 0) T.cl MP.m GP hr MP.b .nil pass0 (pa_cons (pv 1) pa_nil))))), ?_⟩
  refine ⟨_, rfl, a, M.map (fun k => ((k : Nat) : Int)), rfl, by rw [ints_int]; exact ha, by rw [List.length_map]; omega, fun sa c hsa hc => ⟨sa, _, c, rfl, upd_same, by rw [List.length_map] at hc; omega, fun ns p hsort hmem hlen hp => ?_⟩⟩
  obtain ⟨o, eo, ho⟩ := ints_of (ns := ns) (M := M) fun x hx => by
    have := of_decide_eq_true ((hmem x).mp hx)
    obtain ⟨k, hk, e⟩ := List.mem_map.mp this
    exact ⟨k, hk, e.symm⟩
  have hoM : ∀ x, x ∈ o ↔ x ∈ M := fun x => by
    refine ⟨ho x, fun hx => ?_⟩
    have h1 : ((x : Nat) : Int) ∈ ns := (hmem _).mpr (decide_eq_true (List.mem_map_of_mem hx))
    rw [eo] at h1
    obtain ⟨y, hy, e⟩ := List.mem_map.mp h1
    have : y = x := by omega
    rw [← this]; exact hy
  have hon : o.Nodup := by
    rw [eo, List.pairwise_map] at hsort
    exact hsort.imp fun h e => by rw [e] at h; omega
  have hol : o.length ≤ 63 := Nat.le_trans (nodup_le hon ho) hM1
  have hos : ∀ x ∈ o, x < S.n := fun x hx => hM x (ho x hx)
  rw [eo, ints_int]
  have S1 : Same H (upd (upd H sa (SetO w sa (fun j => decide (j ∈ M.map fun k => ((k : Nat) : Int))) c)) p (.lst (iL o))) := (same_new hsa).trans (same_new hp)
  have hp1 : upd (upd H sa (SetO w sa (fun j => decide (j ∈ M.map fun k => ((k : Nat) : Int))) c)) p (.lst (iL o)) p = some (.lst (iL o)) := upd_same
  generalize upd (upd H sa (SetO w sa (fun j => decide (j ∈ M.map fun k => ((k : Nat) : Int))) c)) p (.lst (iL o)) = H1 at S1 hp1
  have G1 := hG.same S1
  refine ⟨_, rfl, p, rfl, ⟨_, SqL.of hp1⟩, for_list (K := K) (a := p) (xs := iL o) (fun i σ H' => ∃ v2 v3, σ = [some (.ref R.g), some (.ref p), v2, v3] ∧ Same H1 H') ⟨none, none, rfl, fun _ _ e => e⟩ (fun i σ H' _ ⟨_, _, _, z⟩ => SqL.of (z _ _ hp1)) ?_ ?_⟩
  · rintro i x σ H' hi ⟨v2, v3, rfl, S2⟩
    obtain ⟨one, rfl, hone⟩ := ints_get hi
    have h1m := List.mem_of_getElem? hone
    have G2 := G1.same S2
    have e1 := S.o_get (hos one h1m)
    obtain ⟨ps, pp, j1, j2, j3⟩ := G2.op e1
    refine ⟨_, rfl, R.g, C, R.dx, R.fs, _, rfl, G2.ins, T.cl, T.nO, fs.o, _, rfl, R.lo, _, _, _, rfl, rfl, SqL.of j1, j2, pp, rfl, ⟨_, SqT.of j3⟩, for_tup (K := K) (a := pp) (xs := iL (S.o one)) (fun i σ H2 => ∃ v3, σ = [some (.ref R.g), some (.ref p), some (.int one), v3] ∧ Same H' H2) ⟨_, rfl, fun _ _ e => e⟩ (fun i σ H2 _ ⟨_, _, z⟩ => SqT.of (z _ _ j3)) ?_ ?_⟩
    · rintro j y σ H2 hj ⟨v3, rfl, S3⟩
      obtain ⟨g, rfl, hg⟩ := ints_get hj
      have hgm := List.mem_of_getElem? hg
      have hgl := ok.lt e1 hgm
      have G3 := G2.same S3
      refine ⟨_, rfl, R.g, R.dx, R.fs, rfl, G3.ins, fs.mFits, _, rfl, _, rfl, R, S, p, o, g, rfl, fs, G3, ok, S3 _ _ (S2 _ _ hp1), hos, by omega, hgl, fun H4 S4 => ⟨_, rfl, ?_⟩⟩
      cases cf : fitsB S o g with
      | true =>
        refine iteT ⟨_, rfl, ?_⟩
        exact q S g H4 ok (Ext.refl 0 S) (Nat.le_succ _) rfl ((made_goal ok hos h1m hgm cf).of_same hoM) (But.of_same (((S1.trans S2).trans S3).trans S4)) (G3.same S4)
      | false => exact iteF ⟨_, rfl, S3.trans S4⟩
    · rintro σ H2 ⟨v3, rfl, S3⟩
      exact ⟨_, _, rfl, S2.trans S3⟩
  · rintro σ H' ⟨v2, v3, rfl, S2⟩
    have G2 := G1.same S2
    refine ⟨_, rfl, R.g, R.dx, R.fs, rfl, G2.ins, fs.mPlace, _, rfl, R, S, p, o, rfl, fs, G2, ok, SqL.of (S2 _ _ hp1), hos, by omega, hn, fun o' S' k H4 hperm hsort' hpl B4 G4 => ?_⟩
    have hB : But R.own H H4 := (But.of_same (S1.trans S2)).trans B4
    have hm' : ∀ x, x ∈ o' ↔ x ∈ M := fun x => hperm.mem_iff.trans (hoM x)
    have hn' : o'.Nodup := hperm.nodup_iff.mpr hon
    rcases hpl with ⟨rfl, hk⟩ | ⟨rfl, rfl, hno⟩
    · exact q S' k H4 ok (Ext.refl 0 S') (Nat.le_succ _) rfl (made_place ok hk hn' hm') hB G4
    · obtain ⟨ok2, x2⟩ := add_ok ok hno (fun x hx => hM x ((hm' x).mp hx)) (by rw [hperm.length_eq]; exact hol)
      refine q _ _ H4 ok2 x2 ?_ rfl (made_place ok2 ?_ hn' hm') hB G4
      · show (S.os ++ [o']).length ≤ _
        rw [List.length_append]
        exact Nat.le_refl _
      · show (S.os ++ [o'])[S.os.length]? = some o'
        rw [List.getElem?_append_right (Nat.le_refl _), Nat.sub_self]
        rfl
end
end K59
end

section
set_option Elab.async false
set_option linter.all false
set_option maxRecDepth 100000
set_option maxHeartbeats 8000000
/-! read, add. -/
namespace K59
open PySem L2 PyProof.Rows
theorem nns_take (l : List Tr) {i : Nat} {u : Tr} (h : l[i]? = some u) : Tr.nns (l.take (i + 1)) = Tr.nns (l.take i) + u.nn ∧ Tr.nns (l.take (i + 1)) ≤ Tr.nns l := by
  have e : l.take (i + 1) = l.take i ++ [u] := by rw [List.take_succ, h]; rfl
  have e2 : Tr.nns (l.take (i + 1) ++ l.drop (i + 1)) = Tr.nns l := by rw [List.take_append_drop]
  rw [nns_app] at e2
  refine ⟨?_, by omega⟩
  rw [e, nns_app, Tr.nns, Tr.nns]
  omega
/-- a set of indexes with all that is under them -/
def Clo (S : GS) (A : Nat → Prop) : Prop := ∀ x, A x → x < S.n ∧ ∀ o : List Nat, S.os[x]? = some o → ∀ y ∈ o, A y
theorem Clo.ext {S S' : GS} {A : Nat → Prop} {h : Nat} (c : Clo S A) (x : Ext h S S') : Clo S' A := fun i hi => by
  obtain ⟨h1, h2⟩ := c i hi
  refine ⟨Nat.lt_of_lt_of_le h1 x.n, fun o e y hy => ?_⟩
  have e1 := S.o_get h1
  have e2 := pre_get x.os e1
  rw [e] at e2
  cases e2
  exact h2 _ e1 y hy
/-- the count -/
structure Cnt (S : GS) (A D : Nat → Prop) (Kk : List (Nat × Nat)) (c : Nat) : Prop where
  ca : Clo S A
  cd : Clo S D
  pr : ∀ x y, A x → D y → (min x y, max x y) ∈ Kk
  sub : ∀ e ∈ S.sm, e.1 ∈ Kk
  cap : S.n ≤ c + S.sm.length
  big : c + Kk.length < sizeLine
theorem Cnt.n {S : GS} {A D : Nat → Prop} {Kk : List (Nat × Nat)} {c : Nat} (k : Cnt S A D Kk c) (ok : GOk S) : S.n < sizeLine ∧ S.sm.length ≤ Kk.length := by
  have h1 : S.sm.length ≤ Kk.length := by
    have := nodup_le ok.keys (m := Kk) fun x hx => by
      obtain ⟨e, he, rfl⟩ := List.mem_map.mp hx
      exact k.sub e he
    rwa [List.length_map] at this
  have h2 := k.cap
  have h3 := k.big
  exact ⟨by omega, h1⟩
theorem IsSum.min {S : GS} {k i j : Nat} (h : IsSum S k (min i j) (max i j)) : IsSum S k i j := by
  rcases Nat.le_total i j with z | z
  · rwa [Nat.min_eq_left z, Nat.max_eq_right z] at h
  · rw [Nat.min_eq_right z, Nat.max_eq_left z] at h
    exact h.swap
theorem IsSum.to_min {S : GS} {k i j : Nat} (h : IsSum S k i j) : IsSum S k (Min.min i j) (Max.max i j) := by
  rcases Nat.le_total i j with z | z
  · rwa [Nat.min_eq_left z, Nat.max_eq_right z]
  · rw [Nat.min_eq_right z, Nat.max_eq_left z]
    exact h.swap
section
variable {P : Program} {w : World} {K : PySem.W.Frag} {mg : Str → Option Value} {base : Heap}
def spRead (C : Addr) (k : Nat) : Sp := fun vs H Q _ => ∃ (R : GR) (S : GS) (v : V) (t : Tr), vs = [.ref R.g, v] ∧ GFs R ∧ GAt C R S H ∧ GOk S ∧ TrAt H v t ∧ t.ht < k ∧ Nar 63 t ∧ S.n + t.nn ≤ sizeLine ∧
  ∀ (S' : GS) (r : Nat) H', GOk S' → Ext 0 S S' → S'.n ≤ S.n + t.nn → S'.sm = S.sm → IsTr S' r t → But R.own H H' → GAt C R S' H' → Q (.int r) H'
theorem scRead : FnScope ["self", "tree", "option"] ["self", "tree"] (defScope sRead) := ⟨rfl, rfl, rfl, by decide +kernel, rfl, by decide +kernel, by decide +kernel⟩
theorem ok_read {f C fM fP fF : Addr} {fd fdM fdP fdF : FuncData} (MR : Mth K C "read" "Grove.read" sRead ["self", "tree"] f fd) (B : Blt mg) (T : GTx K mg C)
    (MM : Mth K C "make" "Grove.make" sMake ["self", "some"] fM fdM) (MP : Mth K C "place" "Grove.place" sPlace ["self", "some"] fP fdP) (MF : Mth K C "fits" "Grove.fits" sFits ["self", "some", "goal"] fF fdF) :
    ∀ k, FnOk P w K mg base CX0 (k + 2) f fd ["self", "tree"] (spRead C k)
  | 0 => by
    have no : ∀ vs H Q E, ¬ spRead C 0 vs H Q E := fun vs H Q E ⟨R, S, v, t, _, _, _, _, _, h, _⟩ => Nat.not_lt_zero _ h
    exact ⟨fun vs H Q E h => absurd h (no vs H Q E), fun A outer s H args us vs Q E _ _ _ _ h => absurd h (no vs H Q E)⟩
  | k + 1 => by
    have G := ok_read MR B T MM MP MF k
    have GM : FnOk P w K mg base CX0 2 fM fdM ["self", "some"] (spMake K C) := ok_make MM.F B T MP MF
    refine MR.F.ok scRead (fun vs H Q E h => ?_) (fun cdv A outer s H vs Q E hr h => ?_)
    · obtain ⟨R, S, v, t, rfl, _⟩ := h
      rfl
    obtain ⟨R, S, v, t, rfl, fs, hG, ok, ht, hk, hnar, hbig, q⟩ := h
    obtain ⟨a, rfl⟩ := ht.ref
    obtain ⟨xs, ha, hxs, hx1⟩ := ht.tup
    have nd := scRead.nd
    refine ⟨_, pss_one (ps_ret (pe_meth (pv 0) T.cl MM.m GM (hr.mono (by omega)) MM.b .nil pass0 (pa_cons
      (pe_lc (own := [("option", 2)]) (g := gName 2) (tt := tYes) rfl nd (pi_tup (pv 1)) (blkOk_by (N := ["self", "tree", "option"]) (sc := defScope sRead) (by decide +kernel)) (fun _ _ _ _ _ => pg_name (i := 2) nd rfl (.inl rfl)) (fun _ _ _ _ _ => pts_nil)
        (fun _ _ _ _ _ => pe_meth (pv 0) T.cl MR.m G hr MR.b .nil pass0 (pa_cons (pv 2) pa_nil))) pa_nil))), ?_⟩
    have et : t.nn = Tr.nns t.os + 1 := by
      cases t with
      | nd l =>
        rw [Tr.nn]
        rfl
    refine ⟨_, rfl, R.g, R.dx, R.fs, rfl, hG.ins, fs.mMake, _, rfl, a, rfl, ⟨_, SqT.of ha⟩, fun D hD => ?_⟩
    have hDo := hG.none hD
    refine lc_tup (K := K) (a := a) (xs := xs) (fun i H' => ∃ (Si : GS) (ys : List Nat), GOk Si ∧ Ext 0 S Si ∧ Si.n ≤ S.n + Tr.nns (t.os.take i) ∧ Si.sm = S.sm ∧ Each (fun x t => IsTr Si x t) ys (t.os.take i) ∧ But R.own H H' ∧ GAt C R Si H' ∧ H' D = some (.lst (iL ys)))
      ⟨S, [], ok, Ext.refl 0 S, Nat.le_refl _, rfl, Each.nil, But.of_same (same_new hD), hG.same (same_new hD), upd_same⟩ (fun i H' _ ⟨_, _, _, _, _, _, _, z, _⟩ => SqT.of (hG.tups z _ _ ha)) ?_ ?_
    · rintro i x H' hi ⟨Si, ys, oki, xi, ni, si, ei, Bi, Gi, hDi⟩
      obtain ⟨u, hu, hx⟩ := hxs.get hi
      have hum := List.mem_of_getElem? hu
      have huh := Tr.ht_os hum
      obtain ⟨n1, n2⟩ := nns_take t.os hu
      have hi1 := (List.getElem?_eq_some_iff.mp hi).1
      have hyl : ys.length ≤ 1000 := by
        rw [ei.1, List.length_take]
        have := hxs.len
        omega
      refine ⟨rfl, _, rfl, R.g, R.dx, R.fs, rfl, Gi.ins, fs.mRead, _, rfl, R, Si, x, u, rfl, fs, Gi, oki, hx.tups (hG.tups Bi), by omega, hnar.sub hum, by omega, fun S' r H2 ok2 x2 nn2 s2 is2 B2 G2 => ?_⟩
      have hDn : D ∉ R.own := hDo
      have hD2 : H2 D = some (.lst (iL ys)) := B2 _ _ hDi hDn
      refine ⟨_, hD2, by rw [ints_len, sizeLine_eq]; omega, S', ys ++ [r], ok2, xi.trans x2 oki, by omega, s2.trans si, ?_, (Bi.trans B2).own hD, ?_, ?_⟩
      · have e : t.os.take (i + 1) = t.os.take i ++ [u] := by rw [List.take_succ, hu]; rfl
        rw [e]
        exact (ei.imp fun x _ y _ z => z.ext x2 oki).snoc is2
      · exact G2.put hD2 hDn (fun _ _ _ z => by cases z) (fun _ z => by cases z)
      · rw [upd_same]
        unfold iL
        rw [List.map_append]
        rfl
    · rintro H' ⟨Si, ys, oki, xi, ni, si, ei, Bi, Gi, hDi⟩
      have e : t.os.take xs.length = t.os := List.take_of_length_le (by rw [hxs.len]; exact Nat.le_refl _)
      rw [e] at ni ei
      have hw := hnar.len
      refine ⟨R, Si, D, ys, rfl, fs, Gi, oki, SqL.of hDi, fun x hx => ?_, by rw [ei.1]; exact hw, by omega, fun S' r H2 ok2 x2 nn2 s2 md B2 G2 => ?_⟩
      · obtain ⟨_, _, z⟩ := ei.left hx
        exact z.lt
      · refine q S' r H2 ok2 (xi.trans x2 oki) (by omega) (s2.trans si) ?_ (Bi.trans B2) G2
        have := tree_made (ei.imp fun x _ y _ z => z.ext x2 oki) md
        rwa [Tr.eta] at this
/-! ### add -/
def spAdd (C : Addr) (k : Nat) : Sp := fun vs H Q _ => ∃ (R : GR) (S : GS) (i j a b : Nat) (A D : Nat → Prop) (Kk : List (Nat × Nat)) (c : Nat), vs = [.ref R.g, .int i, .int j] ∧ GFs R ∧ GAt C R S H ∧ GOk S ∧ A i ∧ D j ∧ Cnt S A D Kk c ∧
  (S.T i).ht + (S.T j).ht < k ∧ Nar a (S.T i) ∧ Nar b (S.T j) ∧ a + b ≤ 63 ∧
  ∀ (S' : GS) (r : Nat) H', GOk S' → Ext ((S.T i).ht + (S.T j).ht + 1) S S' → Cnt S' A D Kk c → IsSum S' r i j → But R.own H H' → GAt C R S' H' → Q (.int r) H'
theorem scAdd : FnScope ["self", "one", "other", "key", "some", "told"] ["self", "one", "other"] (defScope sAdd) := ⟨rfl, rfl, rfl, by decide +kernel, rfl, by decide +kernel, by decide +kernel⟩
theorem min_ite (i j : Nat) : (if ((j : Nat) : Int) < ((i : Nat) : Int) then V.int ((j : Nat) : Int) else V.int ((i : Nat) : Int)) = V.int ((min i j : Nat) : Int) := by
  by_cases h : j < i
  · rw [if_pos (by omega), Nat.min_eq_right (by omega)]
  · rw [if_neg (by omega), Nat.min_eq_left (by omega)]
theorem ok_add {f C fM fP fF : Addr} {fd fdM fdP fdF : FuncData} (MA : Mth K C "add" "Grove.add" sAdd ["self", "one", "other"] f fd) (B : Blt mg) (T : GTx K mg C)
    (MM : Mth K C "make" "Grove.make" sMake ["self", "some"] fM fdM) (MP : Mth K C "place" "Grove.place" sPlace ["self", "some"] fP fdP) (MF : Mth K C "fits" "Grove.fits" sFits ["self", "some", "goal"] fF fdF) :
    ∀ k, FnOk P w K mg base CX0 (k + 2) f fd ["self", "one", "other"] (spAdd C k)
  | 0 => by
    have no : ∀ vs H Q E, ¬ spAdd C 0 vs H Q E := fun vs H Q E ⟨R, S, i, j, a, b, A, D, Kk, c, _, _, _, _, _, _, _, h, _⟩ => Nat.not_lt_zero _ h
    exact ⟨fun vs H Q E h => absurd h (no vs H Q E), fun A outer s H args us vs Q E _ _ _ _ h => absurd h (no vs H Q E)⟩
  | k + 1 => by
    have G := ok_add MA B T MM MP MF k
    have GM : FnOk P w K mg base CX0 2 fM fdM ["self", "some"] (spMake K C) := ok_make MM.F B T MP MF
    refine MA.F.ok scAdd (fun vs H Q E h => ?_) (fun cdv A0 outer s H vs Q E hr h => ?_)
    · obtain ⟨R, S, i, j, a, b, A, D, Kk, c, rfl, _⟩ := h
      rfl
    obtain ⟨R, S, i, j, na, nb, A, D, Kk, c, rfl, fs, hG, ok, hA, hD, cnt, hk, hna, hnb, hab, q⟩ := h
    have nd := scAdd.nd
    have hu := hr.units
    have hu1 : (A0.deeper (envOfC "Grove.add" (defScope sAdd) s.heap.objs.size f cdv)).units + 1 < cLine := by omega
    refine ⟨_, pss_cons (ps_if (pw_or (pt_cmpR op_eq (pv 1) pe_int (nomark _)) (pw_or1 (pt_cmpR op_eq (pv 2) pe_int (nomark _)))).pt
        (pss_one (ps_ret (pe_op op_add (pv 1) (pv 2)))) pss_nil)
      (pss_cons (ps_set (i := 3) nd rfl (.inl rfl) (pe_tup (pa_cons (pe_callB (call_min2 rfl) (by rfl) B.min (by decide +kernel) (pa_cons (pv 1) (pa_cons (pv 2) pa_nil))) (pa_cons (pe_callB (call_max2 rfl) (by rfl) B.max (by decide +kernel) (pa_cons (pv 1) (pa_cons (pv 2) pa_nil))) pa_nil))))
      (pss_cons (ps_if (pt_cmp (pc_dnotin hu1 (pv 3) (pe_fld (pv 0) rfl)))
        (pss_cons (ps_setLc (i := 4) (own := [("told", 5)]) (g := gName 5) (tt := tYes) rfl nd rfl rfl (sw_true rfl rfl rfl (by decide +kernel)) (pi_tup (pe_ix ix_list (pe_fld (pv 0) rfl) (pv 1) (fun _ _ => rfl))) (blkOk_by (N := ["self", "one", "other", "key", "some", "told"]) (sc := defScope sAdd) (by decide +kernel)) (fun _ _ _ _ _ => pg_name (i := 5) nd rfl (.inl rfl)) (fun _ _ _ _ _ => pts_nil)
            (fun _ _ _ _ _ => pe_meth (pv 0) T.cl MA.m G hr MA.b .nil pass0 (pa_cons (pv 5) (pa_cons (pv 2) pa_nil))))
        (pss_cons (ps_expr (pe_bm PySem.F.plainAttrs_list PySem.F.slot_list_extend PySem.F.type_list_extend mt_extend (pv 4) (pa_cons
          (pe_lc (own := [("told", 5)]) (g := gName 5) (tt := tYes) rfl nd (pi_tup (pe_ix ix_list (pe_fld (pv 0) rfl) (pv 2) (fun _ _ => rfl))) (blkOk_by (N := ["self", "one", "other", "key", "some", "told"]) (sc := defScope sAdd) (by decide +kernel)) (fun _ _ _ _ _ => pg_name (i := 5) nd rfl (.inl rfl)) (fun _ _ _ _ _ => pts_nil)
            (fun _ _ _ _ _ => pe_meth (pv 0) T.cl MA.m G hr MA.b .nil pass0 (pa_cons (pv 1) (pa_cons (pv 5) pa_nil)))) pa_nil)))
        (pss_one (ps_dput hu1 (pe_fld (pv 0) rfl) (pv 3) (pe_meth (pv 0) T.cl MM.m GM (hr.mono (by omega)) MM.b .nil pass0 (pa_cons (pv 4) pa_nil)) rfl)))) pss_nil)
      (pss_one (ps_ret (pe_dget hu1 (pe_fld (pv 0) rfl) (pv 3) (fun _ _ => rfl)))))), ?_⟩
    obtain ⟨hi, ciO⟩ := cnt.ca i hA
    obtain ⟨hj, cjO⟩ := cnt.cd j hD
    have z_of : ∀ n : Nat, decide (V.int ((n : Nat) : Int) = V.int 0) = decide (n = 0) := fun n => by
      rw [dec_int, Bool.eq_iff_iff, beq_iff_eq, decide_eq_true_eq]
      omega
    refine ⟨_, rfl, rfl, _, rfl, ?_⟩
    rw [z_of]
    by_cases i0 : i = 0
    · subst i0
      refine iteY (by rfl) ?_
      refine iteT ?_
      refine ⟨_, rfl, _, rfl, _, _, rfl, rfl, ?_⟩
      show Q (.int (((0 : Nat) : Int) + ((j : Nat) : Int))) H
      have e : ((0 : Nat) : Int) + ((j : Nat) : Int) = ((j : Nat) : Int) := by omega
      rw [e]
      exact q S j H ok (Ext.refl _ S) cnt (IsSum.zero ok hj) (But.refl H) hG
    refine iteN (decide_eq_false i0) ?_
    refine ⟨_, rfl, rfl, _, rfl, ?_⟩
    rw [z_of]
    by_cases j0 : j = 0
    · subst j0
      refine iteY (by rfl) ?_
      refine ⟨_, rfl, _, rfl, _, _, rfl, rfl, ?_⟩
      show Q (.int (((i : Nat) : Int) + ((0 : Nat) : Int))) H
      have e : ((i : Nat) : Int) + ((0 : Nat) : Int) = ((i : Nat) : Int) := by omega
      rw [e]
      exact q S i H ok (Ext.refl _ S) cnt (IsSum.zero ok hi).swap (But.refl H) hG
    refine iteN (decide_eq_false j0) ?_
    refine ⟨_, rfl, _, rfl, _, _, rfl, _, rfl, _, rfl, _, _, rfl, by show 2 ≤ sizeLine; decide, fun t ht => ?_⟩
    have ekey : ([.int (if ((j : Nat) : Int) < ((i : Nat) : Int) then ((j : Nat) : Int) else ((i : Nat) : Int)), .int (if ((j : Nat) : Int) > ((i : Nat) : Int) then ((j : Nat) : Int) else ((i : Nat) : Int))] : List V) = iL [min i j, max i j] := by
      have e1 : (if ((j : Nat) : Int) < ((i : Nat) : Int) then ((j : Nat) : Int) else ((i : Nat) : Int)) = ((min i j : Nat) : Int) := by
        by_cases h : j < i
        · rw [if_pos (by omega), Nat.min_eq_right (by omega)]
        · rw [if_neg (by omega), Nat.min_eq_left (by omega)]
      have e2 : (if ((j : Nat) : Int) > ((i : Nat) : Int) then ((j : Nat) : Int) else ((i : Nat) : Int)) = ((max i j : Nat) : Int) := by
        by_cases h : i < j
        · rw [if_pos (by omega), Nat.max_eq_right (by omega)]
        · rw [if_neg (by omega), Nat.max_eq_left (by omega)]
      rw [e1, e2]
      rfl
    rw [ekey]
    have S1 : Same H (upd H t (.tup (iL [min i j, max i j]))) := same_new ht
    have hkk : upd H t (.tup (iL [min i j, max i j])) t = some (.tup (iL [min i j, max i j])) := upd_same
    generalize upd H t (.tup (iL [min i j, max i j])) = H1 at S1 hkk
    have G1 := hG.same S1
    have hkk' : H1 t = some (.tup ((kO [min i j, max i j]).map kV)) := by rw [kO_ints]; exact hkk
    have hto := G1.tup hkk
    obtain ⟨ms, m1, m2, m3, m4⟩ := G1.sms
    refine ⟨_, rfl, _, rfl, R.g, C, R.dx, R.fs, _, rfl, G1.ins, T.cl, T.nS, fs.s, R.ds, _, rfl, DGet.t m1 hkk', _, rfl, ?_⟩
    cases hv : valV ms (kO [min i j, max i j]) with
    | some v =>
      refine iteN rfl ?_
      obtain ⟨r, hr1, rfl⟩ := m3 _ _ _ hv
      exact ⟨_, rfl, R.g, C, R.dx, R.fs, _, rfl, G1.ins, T.cl, T.nS, fs.s, _, rfl, R.ds, _, rfl, hv ▸ DGet.t m1 hkk', q S r H1 ok (Ext.refl _ S) cnt (ok.sums _ hr1).is.min (But.of_same S1) G1⟩
    | none =>
    refine iteY rfl ?_
    have hno : (min i j, max i j) ∉ S.sm.map (·.1) := fun z => by
      obtain ⟨e, he, ee⟩ := List.mem_map.mp z
      have := m4 e he
      rw [ee, hv] at this
      cases this
    have ei := S.o_get hi
    have ej := S.o_get hj
    have wi := ok.wid _ (List.mem_of_getElem? ei)
    have wj := ok.wid _ (List.mem_of_getElem? ej)
    have ti := os_of ok ei
    have tj := os_of ok ej
    obtain ⟨ps, p, j1, j2, j3⟩ := G1.op ei
    refine ⟨_, rfl, R.g, C, R.dx, R.fs, _, rfl, G1.ins, T.cl, T.nO, fs.o, _, rfl, R.lo, _, _, _, rfl, rfl, SqL.of j1, j2, p, rfl, ⟨_, SqT.of j3⟩, fun D1 hD1 => ?_⟩
    have nD1 := G1.none hD1
    refine lc_tup (K := K) (a := p) (xs := iL (S.o i)) (fun m H' => ∃ (Si : GS) (ys : List Nat), GOk Si ∧ Ext ((S.T i).ht + (S.T j).ht) S Si ∧ Cnt Si A D Kk c ∧ Each (fun x a => IsSum Si x a j) ys ((S.o i).take m) ∧ But R.own H1 H' ∧ GAt C R Si H' ∧ H' D1 = some (.lst (iL ys)))
      ⟨S, [], ok, Ext.refl _ S, cnt, Each.nil, But.of_same (same_new hD1), G1.same (same_new hD1), upd_same⟩ (fun m H' _ ⟨_, _, _, _, _, _, z, _⟩ => SqT.of (G1.tups z _ _ j3)) ?_ ?_
    · rintro m x H' hm ⟨Si, ys, oki, xi, ci, Ei, Bi, Gi, hDi⟩
      obtain ⟨told, rfl, hto2⟩ := ints_get hm
      have htm := List.mem_of_getElem? hto2
      have hAt := ciO _ ei told htm
      have htl := (cnt.ca told hAt).1
      have hth : (S.T told).ht + 1 ≤ (S.T i).ht := Tr.ht_os (by rw [ti]; exact List.mem_map_of_mem htm)
      have eT : Si.T told = S.T told := xi.T ok htl
      have eJ : Si.T j = S.T j := xi.T ok hj
      refine ⟨rfl, _, rfl, R.g, R.dx, R.fs, rfl, Gi.ins, fs.mAdd, _, rfl, _, rfl, R, Si, told, j, na, nb, A, D, Kk, c, rfl, fs, Gi, oki, hAt, hD, ci, by rw [eT, eJ]; omega, by rw [eT]; exact hna.sub (by rw [ti]; exact List.mem_map_of_mem htm), by rw [eJ]; exact hnb, hab, fun S' r H2 ok2 x2 c2 is2 B2 G2 => ?_⟩
      rw [eT, eJ] at x2
      have hD2 : H2 D1 = some (.lst (iL ys)) := B2 _ _ hDi nD1
      have hyl : ys.length ≤ 63 := by rw [Ei.1, List.length_take]; omega
      have x2' := x2.mono (show (S.T told).ht + (S.T j).ht + 1 ≤ (S.T i).ht + (S.T j).ht by omega)
      refine ⟨_, hD2, by rw [ints_len, sizeLine_eq]; omega, S', ys ++ [r], ok2, xi.trans x2' oki, c2, ?_, (Bi.trans B2).own hD1, G2.put hD2 nD1 (fun _ _ _ z => by cases z) (fun _ z => by cases z), ?_⟩
      · have e : (S.o i).take (m + 1) = (S.o i).take m ++ [told] := by rw [List.take_succ, hto2]; rfl
        rw [e]
        exact (Ei.imp fun x _ y hy z => z.ext x2 oki (Nat.lt_of_lt_of_le (cnt.ca y (ciO _ ei y (List.mem_of_mem_take hy))).1 xi.n) (Nat.lt_of_lt_of_le hj xi.n)).snoc is2
      · rw [upd_same]
        unfold iL
        rw [List.map_append]
        rfl
    rintro H2 ⟨Si, ys, oki, xi, ci, Ei, Bi, Gi, hDi⟩
    have et : (S.o i).take (iL (S.o i)).length = S.o i := List.take_of_length_le (by rw [ints_len]; exact Nat.le_refl _)
    rw [et] at Ei
    have hyl : ys.length ≤ 63 := by rw [Ei.1]; exact wi
    have ej2 := pre_get xi.os ej
    obtain ⟨ps', p', i1, i2, i3⟩ := Gi.op ej2
    refine ⟨_, rfl, .inl ⟨rfl, _, SqL.of hDi⟩, ?_⟩
    refine ⟨_, rfl, R.g, C, R.dx, R.fs, _, rfl, Gi.ins, T.cl, T.nO, fs.o, _, rfl, R.lo, _, _, _, rfl, rfl, SqL.of i1, i2, p', rfl, ⟨_, SqT.of i3⟩, fun D2 hD2 => ?_⟩
    have nD2 := Gi.none hD2
    have nD12 : D1 ≠ D2 := ne_of_none hDi hD2
    refine lc_tup (K := K) (a := p') (xs := iL (S.o j)) (fun m H' => ∃ (Sj : GS) (zs : List Nat), GOk Sj ∧ Ext ((S.T i).ht + (S.T j).ht) S Sj ∧ Cnt Sj A D Kk c ∧ Each (fun x a => IsSum Sj x a j) ys (S.o i) ∧ Each (fun y b => IsSum Sj y i b) zs ((S.o j).take m) ∧ But R.own H2 H' ∧ GAt C R Sj H' ∧ H' D1 = some (.lst (iL ys)) ∧ H' D2 = some (.lst (iL zs)))
      ⟨Si, [], oki, xi, ci, Ei, Each.nil, But.of_same (same_new hD2), Gi.same (same_new hD2), (same_new hD2) _ _ hDi, upd_same⟩ (fun m H' _ ⟨_, _, _, _, _, _, _, z, _⟩ => SqT.of (Gi.tups z _ _ i3)) ?_ ?_
    · rintro m x H' hm ⟨Sj, zs, okj, xj, cj, Ej, Fj, Bj, Gj, hDj, hDk⟩
      obtain ⟨told, rfl, hto2⟩ := ints_get hm
      have htm := List.mem_of_getElem? hto2
      have hDt := cjO _ ej told htm
      have htl := (cnt.cd told hDt).1
      have hth : (S.T told).ht + 1 ≤ (S.T j).ht := Tr.ht_os (by rw [tj]; exact List.mem_map_of_mem htm)
      have eT : Sj.T told = S.T told := xj.T ok htl
      have eI : Sj.T i = S.T i := xj.T ok hi
      refine ⟨rfl, _, rfl, R.g, R.dx, R.fs, rfl, Gj.ins, fs.mAdd, _, rfl, _, rfl, R, Sj, i, told, na, nb, A, D, Kk, c, rfl, fs, Gj, okj, hA, hDt, cj, by rw [eT, eI]; omega, by rw [eI]; exact hna, by rw [eT]; exact hnb.sub (by rw [tj]; exact List.mem_map_of_mem htm), hab, fun S' r H3 ok2 x2 c2 is2 B2 G2 => ?_⟩
      rw [eT, eI] at x2
      have hD3 : H3 D1 = some (.lst (iL ys)) := B2 _ _ hDj nD1
      have hD4 : H3 D2 = some (.lst (iL zs)) := B2 _ _ hDk nD2
      have hzl : zs.length ≤ 63 := by rw [Fj.1, List.length_take]; omega
      have x2' := x2.mono (show (S.T i).ht + (S.T told).ht + 1 ≤ (S.T i).ht + (S.T j).ht by omega)
      refine ⟨_, hD4, by rw [ints_len, sizeLine_eq]; omega, S', zs ++ [r], ok2, xj.trans x2' okj, c2, ?_, ?_, (Bj.trans B2).own hD2, G2.put hD4 nD2 (fun _ _ _ z => by cases z) (fun _ z => by cases z), by rw [upd_ne nD12]; exact hD3, ?_⟩
      · exact Ej.imp fun x _ y hy z => z.ext x2 okj (Nat.lt_of_lt_of_le (cnt.ca y (ciO _ ei y hy)).1 xj.n) (Nat.lt_of_lt_of_le hj xj.n)
      · have e : (S.o j).take (m + 1) = (S.o j).take m ++ [told] := by rw [List.take_succ, hto2]; rfl
        rw [e]
        exact (Fj.imp fun x _ y hy z => z.ext x2 okj (Nat.lt_of_lt_of_le hi xj.n) (Nat.lt_of_lt_of_le (cnt.cd y (cjO _ ej y (List.mem_of_mem_take hy))).1 xj.n)).snoc is2
      · rw [upd_same]
        unfold iL
        rw [List.map_append]
        rfl
    rintro H3 ⟨Sj, zs, okj, xj, cj, Ej, Fj, Bj, Gj, hDj, hDk⟩
    have et2 : (S.o j).take (iL (S.o j)).length = S.o j := List.take_of_length_le (by rw [ints_len]; exact Nat.le_refl _)
    rw [et2] at Fj
    have hzl : zs.length ≤ 63 := by rw [Fj.1]; exact wj
    refine ⟨D1, D2, _, _, rfl, rfl, hDj, hDk, by rw [ints_len, ints_len, sizeLine_eq]; omega, ?_⟩
    have eapp : iL ys ++ iL zs = iL (ys ++ zs) := by unfold iL; rw [List.map_append]
    rw [eapp]
    have G4 := Gj.put (o' := .lst (iL (ys ++ zs))) hDj nD1 (fun _ _ _ z => by cases z) (fun _ z => by cases z)
    have hD5 : upd H3 D1 (.lst (iL (ys ++ zs))) D1 = some (.lst (iL (ys ++ zs))) := upd_same
    have B4 : But R.own H1 (upd H3 D1 (.lst (iL (ys ++ zs)))) := (Bi.trans Bj).own hD1
    generalize upd H3 D1 (.lst (iL (ys ++ zs))) = H4 at G4 hD5 B4
    obtain ⟨cn, cl⟩ := cj.n okj
    have hna2 := hna.len
    have hnb2 := hnb.len
    rw [ti, List.length_map] at hna2
    rw [tj, List.length_map] at hnb2
    refine ⟨_, rfl, R.g, R.dx, R.fs, rfl, G4.ins, fs.mMake, _, rfl, R, Sj, D1, ys ++ zs, rfl, fs, G4, okj, SqL.of hD5, fun x hx => ?_, by rw [List.length_append, Ej.1, Fj.1]; omega, cn, fun S' r H5 ok5 x5 n5 sm5 md B5 G5 => ?_⟩
    · rcases List.mem_append.mp hx with z | z
      · obtain ⟨_, _, y⟩ := Ej.left z
        exact y.lt
      · obtain ⟨_, _, y⟩ := Fj.left z
        exact y.lt
    have xa : Ext ((S.T i).ht + (S.T j).ht) S S' := xj.trans (x5.mono (Nat.zero_le _)) okj
    have hi' := Nat.lt_of_lt_of_le hi xa.n
    have hj' := Nat.lt_of_lt_of_le hj xa.n
    have is5 : IsSum S' r i j := sum_made ok5 (pre_get xa.os ei) (pre_get xa.os ej)
      (Ej.imp fun x _ y hy z => z.ext x5 okj (Nat.lt_of_lt_of_le (cnt.ca y (ciO _ ei y hy)).1 xj.n) (Nat.lt_of_lt_of_le hj xj.n))
      (Fj.imp fun x _ y hy z => z.ext x5 okj (Nat.lt_of_lt_of_le hi xj.n) (Nat.lt_of_lt_of_le (cnt.cd y (cjO _ ej y hy)).1 xj.n)) md
    have hsum : (S'.T (min i j)).ht + (S'.T (max i j)).ht = (S.T i).ht + (S.T j).ht := by
      rcases Nat.le_total i j with z | z
      · rw [Nat.min_eq_left z, Nat.max_eq_right z, xa.T ok hi, xa.T ok hj]
      · rw [Nat.min_eq_right z, Nat.max_eq_left z, xa.T ok hi, xa.T ok hj, Nat.add_comm]
    have hno5 : (min i j, max i j) ∉ S'.sm.map (·.1) := fun z => by
      obtain ⟨e, he, ee⟩ := List.mem_map.mp z
      rcases xa.new e he with y | y
      · exact hno (by rw [← ee]; exact List.mem_map_of_mem y)
      · rw [ee] at y
        replace y : (S'.T (min i j)).ht + (S'.T (max i j)).ht < _ := y
        omega
    have hmin : min i j < S'.n := Nat.lt_of_le_of_lt (Nat.min_le_left _ _) hi'
    have hmax : max i j < S'.n := Nat.max_lt.mpr ⟨hi', hj'⟩
    obtain ⟨ok6, x6⟩ := sum_ok (h := (S.T i).ht + (S.T j).ht + 1) ok5 (is5.to_min.ok hmin hmax) hno5 (by show (S'.T (min i j)).ht + (S'.T (max i j)).ht < _; omega)
    obtain ⟨ms5, w1, w2, w3, w4⟩ := G5.sms
    have hk5 : H5 t = some (.tup ((kO [min i j, max i j]).map kV)) := B5 _ _ (B4 _ _ hkk' hto) hto
    have hv5 : valV ms5 (kO [min i j, max i j]) = none := by
      cases z : valV ms5 (kO [min i j, max i j]) with
      | none => rfl
      | some v =>
        obtain ⟨r', hr', _⟩ := w3 _ _ _ z
        exact absurd (List.mem_map_of_mem (f := (·.1)) hr') hno5
    have gnd : R.g ≠ R.ds := fun z => G5.insn (by rw [z]; simp)
    refine ⟨_, rfl, R.g, C, R.dx, R.fs, _, rfl, G5.ins, T.cl, T.nS, fs.s, _, rfl, R.ds, _, rfl, DPut.t w1 hk5 (by rw [sm5] at w2; have := cj.big; omega), ?_⟩
    have dsl : R.lo ≠ R.ds := fun z => by obtain ⟨_, y, _⟩ := G5.ops; rw [z, w1] at y; cases y
    have dsl2 : R.ll ≠ R.ds := fun z => by have y := G5.lst; rw [z, w1] at y; cases y
    have tnd : t ≠ R.ds := fun z => hto (by rw [z]; simp)
    have B6 : But R.own H1 (upd H5 R.ds (.dT (putK ms5 (kO [min i j, max i j]) (.int r)))) := (B4.trans B5).put (by simp)
    have G6 : GAt C R (S'.sum ((min i j, max i j), r)) (upd H5 R.ds (.dT (putK ms5 (kO [min i j, max i j]) (.int r)))) := by
      obtain ⟨ps5, u1, u2⟩ := G5.ops
      obtain ⟨ks5, p1, p2⟩ := G5.pls
      refine ⟨by rw [upd_ne gnd]; exact G5.ins, ⟨ps5, by rw [upd_ne dsl]; exact u1, u2.imp fun b _ o _ e => ?_⟩, ⟨ks5, by rw [upd_ne G5.ddd]; exact p1, p2⟩, by rw [upd_ne dsl2]; exact G5.lst, ⟨_, upd_same, ?_, ?_, ?_⟩, G5.dll, G5.ddd⟩
      · rw [upd_ne]
        · exact e
        · intro z
          rw [z, w1] at e
          cases e
      · show _ ≤ (S'.sm ++ [_]).length
        rw [putK_new _ hv5, List.length_append, List.length_append]
        exact Nat.add_le_add_right w2 _
      · intro x y v e
        rw [valV_put] at e
        by_cases z : kO [x, y] = kO [min i j, max i j]
        · rw [if_pos z] at e
          have e2 := kO_inj z
          injection e2 with a1 a2
          injection a2 with a2 a3
          rw [a1, a2]
          exact ⟨r, List.mem_append_right _ (List.mem_singleton.mpr rfl), (Option.some.inj e).symm⟩
        · rw [if_neg z] at e
          obtain ⟨r', hr', ev⟩ := w3 _ _ _ e
          exact ⟨r', List.mem_append_left _ hr', ev⟩
      · intro e he
        rw [valV_put]
        by_cases z : kO [e.1.1, e.1.2] = kO [min i j, max i j]
        · rw [if_pos z]
          rfl
        · rw [if_neg z]
          rcases List.mem_append.mp he with y | y
          · exact w4 _ y
          · exact absurd (by rw [List.mem_singleton.mp y]) z
    have c6 : Cnt (S'.sum ((min i j, max i j), r)) A D Kk c := by
      refine ⟨(cnt.ca.ext xa).ext x6, (cnt.cd.ext xa).ext x6, cnt.pr, fun e he => ?_, ?_, cnt.big⟩
      · rcases List.mem_append.mp he with y | y
        · rw [sm5] at y
          exact cj.sub e y
        · rw [List.mem_singleton.mp y]
          exact cnt.pr i j hA hD
      · show S'.os.length ≤ c + (S'.sm ++ [_]).length
        have h1 : S'.os.length ≤ Sj.os.length + 1 := n5
        have h2 : Sj.os.length ≤ c + Sj.sm.length := cj.cap
        rw [List.length_append, List.length_singleton, sm5]
        omega
    have fin : valV (putK ms5 (kO [min i j, max i j]) (.int r)) (kO [min i j, max i j]) = some (.int r) := by rw [valV_put, if_pos rfl]
    have hk6 : upd H5 R.ds (.dT (putK ms5 (kO [min i j, max i j]) (.int r))) t = some (.tup ((kO [min i j, max i j]).map kV)) := by rw [upd_ne tnd]; exact hk5
    exact ⟨_, rfl, R.g, C, R.dx, R.fs, _, rfl, G6.ins, T.cl, T.nS, fs.s, _, rfl, R.ds, _, rfl, fin ▸ DGet.t upd_same hk6, q _ r _ ok6 ((xa.mono (Nat.le_succ _)).trans x6 ok5) c6 (is5.ext x6 ok5 hi' hj') ((But.of_same S1).trans B6) G6⟩
end
end K59
end

section
set_option Elab.async false
set_option linter.all false
set_option maxRecDepth 100000
set_option maxHeartbeats 8000000
/-! heap, nodes, height, written, form. -/
namespace K59
open PySem L2 PyProof.Rows
/-! ### heaps' groves -/
theorem le_one : ∀ {l m : List Nat}, l.Pairwise (· ≤ ·) → m.Pairwise (· ≤ ·) → l.Perm m → l = m
  | [], m, _, _, p => (List.perm_nil.mp p.symm).symm ▸ rfl
  | a :: l, [], _, _, p => absurd p.length_eq (by simp)
  | a :: l, b :: m, ha, hb, p => by
    have ha' := List.pairwise_cons.mp ha
    have hb' := List.pairwise_cons.mp hb
    have e : a = b := by
      rcases List.mem_cons.mp (p.mem_iff.mp List.mem_cons_self) with z | z
      · exact z
      rcases List.mem_cons.mp (p.mem_iff.mpr (List.mem_cons_self (a := b) (l := m))) with y | y
      · exact y.symm
      · have h1 := ha'.1 b y
        have h2 := hb'.1 a z
        omega
    subst e
    rw [le_one ha'.2 hb'.2 ((List.perm_cons a).mp p)]
theorem range_sorted (n : Nat) : (List.range n).Pairwise (· ≤ ·) := List.pairwise_lt_range.imp fun h => Nat.le_of_lt h
theorem piles_range : ∀ n, piles n = (List.range n).map pile
  | 0 => by rw [piles]; rfl
  | n + 1 => by
    rw [piles, List.range_succ, List.map_append, piles_range n]
    show _ ++ [Tr.nd ((List.range n).map pile)] = _ ++ [pile n]
    rw [pile, piles_range n]
def HS (m : Nat) : GS := ⟨(List.range (m + 1)).map List.range, (List.range (m + 1)).map pile, []⟩
theorem hs_T (m : Nat) {x : Nat} (h : x ≤ m) : (HS m).T x = pile x := by
  show ((List.range (m + 1)).map pile).getD x _ = _
  rw [List.getD_eq_getElem?_getD, List.getElem?_map, List.getElem?_range (by omega)]
  rfl
theorem hs_n (m : Nat) : (HS m).n = m + 1 := by
  show ((List.range (m + 1)).map List.range).length = _
  rw [List.length_map, List.length_range]
theorem hs_zero : HS 0 = S0 := by
  show GS.mk _ _ _ = GS.mk _ _ _
  have e : pile 0 = .nd [] := pile_zero
  show GS.mk [List.range 0] [pile 0] [] = GS.mk [[]] [.nd []] []
  rw [e]
  rfl
theorem hs_add (m : Nat) : (HS m).add (List.range (m + 1)) = HS (m + 1) := by
  show GS.mk _ _ _ = GS.mk _ _ _
  have e1 : (List.range (m + 1)).map (HS m).T = (List.range (m + 1)).map pile := List.map_congr_left fun x hx => hs_T m (by have := List.mem_range.mp hx; omega)
  rw [e1]
  have e2 : List.range (m + 1 + 1) = List.range (m + 1) ++ [m + 1] := List.range_succ
  rw [e2, List.map_append, List.map_append]
  show GS.mk (_ ++ [List.range (m + 1)]) (_ ++ [Tr.nd ((List.range (m + 1)).map pile)]) [] = GS.mk (_ ++ [List.range (m + 1)]) (_ ++ [pile (m + 1)]) []
  have e3 : pile (m + 1) = Tr.nd ((List.range (m + 1)).map pile) := by rw [pile, piles_range]
  rw [e3]
  rfl
theorem hs_os (m : Nat) {k : Nat} {o : List Nat} (e : (HS m).os[k]? = some o) : k ≤ m ∧ o = List.range k := by
  have e' : ((List.range (m + 1)).map List.range)[k]? = some o := e
  have h := (List.getElem?_eq_some_iff.mp e').1
  rw [List.length_map, List.length_range] at h
  rw [List.getElem?_map, List.getElem?_range h] at e'
  exact ⟨by omega, (Option.some.inj e').symm⟩
theorem hs_ok : ∀ m, m ≤ 60 → GOk (HS m)
  | 0, _ => by rw [hs_zero]; exact s0_ok
  | m + 1, h => by
    rw [← hs_add]
    refine (add_ok (hs_ok m (by omega)) (fun z => ?_) (fun k hk => ?_) ?_).1
    · obtain ⟨i, hi, e⟩ := List.getElem_of_mem z
      have e2 : (HS m).os[i]? = some (List.range (m + 1)) := by rw [List.getElem?_eq_getElem hi, e]
      obtain ⟨h1, h2⟩ := hs_os m e2
      have := congrArg List.length h2
      rw [List.length_range, List.length_range] at this
      omega
    · rw [hs_n]; exact List.mem_range.mp hk
    · rw [List.length_range]; omega
/-- one turn of heap -/
theorem hs_placed {i k : Nat} {o : List Nat} {S' : GS} (hp : o.Perm (List.range i)) (hs : o.Pairwise (· ≤ ·)) (h : Placed (HS (i - 1)) S' o k) : S' = HS i ∧ k = i := by
  have e := le_one hs (range_sorted i) hp
  subst e
  rcases h with ⟨rfl, hk⟩ | ⟨rfl, rfl, hno⟩
  · obtain ⟨h1, h2⟩ := hs_os _ hk
    have := congrArg List.length h2
    rw [List.length_range, List.length_range] at this
    have : i = 0 := by omega
    subst this
    exact ⟨rfl, by omega⟩
  · cases i with
    | zero => exact absurd (List.mem_of_getElem? s0_ok.pos) (by rw [← hs_zero]; exact hno)
    | succ i =>
      rw [Nat.add_sub_cancel, hs_add, hs_n]
      exact ⟨rfl, rfl⟩
theorem sum_nns : ∀ l : List Tr, (l.map fun t => (t.nn : Int)).sum = (Tr.nns l : Nat) := nns_sum
/-- the greatest of 0 and the heights, each and 1 -/
theorem max_hts : ∀ (l : List Tr) (m : Int), (m = 0 ∨ ∃ t ∈ l, m = 1 + (t.ht : Nat)) → 0 ≤ m → (∀ t ∈ l, 1 + ((t.ht : Nat) : Int) ≤ m) → m = (Tr.hts l : Nat) := by
  intro l m h1 h0 h2
  have a : Tr.hts l ≤ m.toNat := Tr.hts_le fun t ht => by have := h2 t ht; omega
  rcases h1 with e | ⟨t, ht, e⟩
  · omega
  · have := Tr.ht_mem ht
    omega
section
variable {P : Program} {w : World} {K : PySem.W.Frag} {mg : Str → Option Value} {base : Heap}
def spHeap (C : Addr) : Sp := fun vs H Q _ => ∃ (R : GR) (n : Nat), vs = [.ref R.g, .int n] ∧ GFs R ∧ GAt C R S0 H ∧ n ≤ 40 ∧ ∀ H', But R.own H H' → GAt C R (HS n) H' → Q (.int n) H'
theorem scHeap : FnScope ["self", "size", "found", "at"] ["self", "size"] (defScope sHeap) := ⟨rfl, rfl, rfl, by decide +kernel, rfl, by decide +kernel, by decide +kernel⟩
theorem ok_heap {f C fP : Addr} {fd fdP : FuncData} (F : Fun K "heap" "Grove.heap" sHeap f fd) (B : Blt mg) (T : GTx K mg C)
    (MP : Mth K C "place" "Grove.place" sPlace ["self", "some"] fP fdP) : FnOk P w K mg base CX0 2 f fd ["self", "size"] (spHeap C) := by
  have GP : FnOk P w K mg base CX0 1 fP fdP ["self", "some"] (spPlace K C) := ok_place MP.F B T
  refine F.ok scHeap (fun vs H Q E h => ?_) (fun cdv A outer s H vs Q E hr h => ?_)
  · obtain ⟨R, n, rfl, _⟩ := h
    rfl
  obtain ⟨R, n, rfl, fs, hG, hn, q⟩ := h
  have nd := scHeap.nd
  refine ⟨_, pss_cons (ps_set (i := 2) nd rfl (.inl rfl) (pe_lst pa_nil))
    (pss_cons (ps_for PassesOwn.never rfl (pi_range1 rfl B.range (pa_cons (pv 1) pa_nil)) (pg_name (i := 3) nd rfl (.inl rfl))
      (pss_one (ps_expr (pe_bm PySem.F.plainAttrs_list PySem.F.slot_list_append PySem.F.type_list_append mt_append (pv 2) (pa_cons (pe_meth (pv 0) T.cl MP.m GP hr MP.b .nil pass0 (pa_cons (pv 2) pa_nil)) pa_nil)))))
    (pss_one (ps_ret (pe_meth (pv 0) T.cl MP.m GP hr MP.b .nil pass0 (pa_cons (pv 2) pa_nil))))), ?_⟩
  refine ⟨Nat.zero_le _, fun l hl => ⟨_, rfl, (n : Int), rfl, by omega, by omega, ?_⟩⟩
  have en : ((n : Nat) : Int).toNat = n := by omega
  rw [en]
  have nl := hG.none hl
  refine for_range (n := n) (fun i σ H' => ∃ (v : Option V), σ = [some (.ref R.g), some (.int n), some (.ref l), v] ∧ But R.own H H' ∧ GAt C R (HS (i - 1)) H' ∧ H' l = some (.lst (iL (List.range i)))) ⟨none, rfl, But.of_same (same_new hl), by show GAt C R (HS 0) _; rw [hs_zero]; exact hG.same (same_new hl), upd_same⟩ ?_ ?_
  · rintro i σ H' hi ⟨v, rfl, Bi, Gi, hli⟩
    refine ⟨_, rfl, .inl ⟨rfl, _, SqL.of hli⟩, _, rfl, R.g, R.dx, R.fs, rfl, Gi.ins, fs.mPlace, _, rfl, R, HS (i - 1), l, List.range i, rfl, fs, Gi, hs_ok _ (by omega), SqL.of hli, fun x hx => ?_, by rw [List.length_range]; omega, by rw [hs_n, sizeLine_eq]; omega, fun o S' k H2 hp hs hpl B2 G2 => ?_⟩
    · have := List.mem_range.mp hx
      rw [hs_n]
      omega
    obtain ⟨rfl, rfl⟩ := hs_placed hp hs hpl
    have hl2 : H2 l = some (.lst (iL (List.range k))) := B2 _ _ hli nl
    refine ⟨l, _, _, rfl, rfl, hl2, by rw [ints_len, List.length_range, sizeLine_eq]; omega, _, rfl, (Bi.trans B2).own hl, G2.put hl2 nl (fun _ _ _ z => by cases z) (fun _ z => by cases z), ?_⟩
    rw [upd_same, List.range_succ]
    unfold iL
    rw [List.map_append]
    rfl
  · rintro σ H' ⟨v, rfl, Bi, Gi, hli⟩
    refine ⟨_, rfl, R.g, R.dx, R.fs, rfl, Gi.ins, fs.mPlace, _, rfl, R, HS (n - 1), l, List.range n, rfl, fs, Gi, hs_ok _ (by omega), SqL.of hli, fun x hx => ?_, by rw [List.length_range]; omega, by rw [hs_n, sizeLine_eq]; omega, fun o S' k H2 hp hs hpl B2 G2 => ?_⟩
    · have := List.mem_range.mp hx
      rw [hs_n]
      omega
    obtain ⟨rfl, rfl⟩ := hs_placed hp hs hpl
    exact q H2 (Bi.trans B2) G2
/-! ### nodes, height -/
def knE (S : GS) (g : Tr → Nat) (ks : List Nat) : List (Key × V) := ks.map fun k => (Sum.inl ((k : Nat) : Int), V.int (g (S.T k)))
theorem kn_val (S : GS) (g : Tr → Nat) (i : Nat) : ∀ ks : List Nat, valV (knE S g ks) (Sum.inl ((i : Nat) : Int)) = if i ∈ ks then some (V.int (g (S.T i))) else none
  | [] => rfl
  | k :: ks => by
    show valV ((Sum.inl ((k : Nat) : Int), V.int (g (S.T k))) :: knE S g ks) _ = _
    by_cases h : k = i
    · subst h
      rw [valV_pos rfl, if_pos List.mem_cons_self]
    · have hne : ¬ (Sum.inl ((k : Nat) : Int) : Key) = Sum.inl ((i : Nat) : Int) := fun z => by injection z with z; omega
      rw [valV_neg (p := (Sum.inl ((k : Nat) : Int), V.int (g (S.T k)))) hne, kn_val S g i ks]
      by_cases h2 : i ∈ ks
      · rw [if_pos h2, if_pos (List.mem_cons_of_mem _ h2)]
      · rw [if_neg h2, if_neg fun z => by rcases List.mem_cons.mp z with y | y; exact h y.symm; exact h2 y]
def KnI (S : GS) (g : Tr → Nat) (H : Hp) (d : Addr) : Prop := ∃ ks : List Nat, H d = some (.dK (knE S g ks)) ∧ ks.Nodup ∧ ∀ k ∈ ks, k < S.n
theorem kn_same (S : GS) (g : Tr → Nat) (i : Nat) (ks : List Nat) : ((knE S g ks).map fun kv => if kv.1 = Sum.inl ((i : Nat) : Int) then (kv.1, V.int (g (S.T i))) else kv) = knE S g ks := by
  unfold knE
  rw [List.map_map]
  refine List.map_congr_left fun k _ => ?_
  show (if (Sum.inl ((k : Nat) : Int) : Key) = Sum.inl ((i : Nat) : Int) then ((Sum.inl ((k : Nat) : Int) : Key), V.int (g (S.T i))) else _) = _
  by_cases h : k = i
  · subst h
    rw [if_pos rfl]
  · rw [if_neg fun z => by injection z with z; omega]
theorem KnI.put {S : GS} {g : Tr → Nat} {H : Hp} {d : Addr} {ks : List Nat} {i : Nat} (hn : ks.Nodup) (hl : ∀ k ∈ ks, k < S.n) (hb : i < S.n) : KnI S g (upd H d (.dK (putK (knE S g ks) (Sum.inl ((i : Nat) : Int)) (.int (g (S.T i)))))) d := by
  by_cases hi : i ∈ ks
  · refine ⟨ks, ?_, hn, hl⟩
    rw [upd_same]
    unfold putK
    rw [valV_any, kn_val, if_pos hi]
    show some (HO.dK ((knE S g ks).map fun kv => if kv.1 = Sum.inl ((i : Nat) : Int) then (kv.1, V.int (g (S.T i))) else kv)) = _
    rw [kn_same]
  refine ⟨ks ++ [i], ?_, ?_, ?_⟩
  · have e : valV (knE S g ks) (Sum.inl ((i : Nat) : Int)) = none := by rw [kn_val, if_neg hi]
    rw [upd_same, putK_new _ e]
    unfold knE
    rw [List.map_append]
    rfl
  · refine List.nodup_append.mpr ⟨hn, List.nodup_cons.mpr ⟨by simp, List.nodup_nil⟩, fun a ha b hb e => ?_⟩
    rw [List.mem_singleton] at hb
    exact hi (by rw [← hb, ← e]; exact ha)
  · intro k hk
    rcases List.mem_append.mp hk with z | z
    · exact hl k z
    · rw [List.mem_singleton.mp z]; exact hb
theorem dgetI {H : Hp} {d : Addr} {kvs : List (Key × V)} {i : Int} {v : V} (e : H d = some (.dK kvs)) (hv : valV kvs (Sum.inl i) = some v) : DGet H d (.int i) (some v) := by
  rw [← hv]
  exact DGet.k (k := Sum.inl i) e
/-- a dict of numbers beside the grove is written -/
theorem GAt.keepD {C : Addr} {R : GR} {S : GS} {H H' : Hp} {d : Addr} {kvs : List (Key × V)} (h : GAt C R S H) (hd : H d = some (.dK kvs)) (k : But [d] H H') : GAt C R S H' := by
  have kk : ∀ b o, H b = some o → (∀ kvs, o ≠ .dK kvs) → H' b = some o := fun b o e n => k b o e fun z => by
    rw [List.mem_singleton.mp z, hd] at e
    cases e
    exact n _ rfl
  obtain ⟨ps, h1, h2⟩ := h.ops
  obtain ⟨ks, p1, p2⟩ := h.pls
  obtain ⟨ms, m1, m2⟩ := h.sms
  exact ⟨kk _ _ h.ins fun _ z => (by cases z), ⟨ps, kk _ _ h1 fun _ z => (by cases z), h2.imp fun p _ o _ e => kk _ _ e fun _ z => (by cases z)⟩, ⟨ks, kk _ _ p1 fun _ z => (by cases z), p2⟩, kk _ _ h.lst fun _ z => (by cases z), ⟨ms, kk _ _ m1 fun _ z => (by cases z), m2⟩, h.dll, h.ddd⟩
def spNum (g : Tr → Nat) (C : Addr) (k : Nat) : Sp := fun vs H Q _ => ∃ (R : GR) (S : GS) (i : Nat) (d : Addr), vs = [.ref R.g, .int i, .ref d] ∧ GFs R ∧ GAt C R S H ∧ GOk S ∧ i < S.n ∧ (S.T i).ht < k ∧ S.n < sizeLine ∧ KnI S g H d ∧
  ∀ H', But [d] H H' → KnI S g H' d → Q (.int (g (S.T i))) H'
theorem scNodes : FnScope ["self", "one", "known", "told"] ["self", "one", "known"] (defScope sNodes) := ⟨rfl, rfl, rfl, by decide +kernel, rfl, by decide +kernel, by decide +kernel⟩
theorem ok_nodes {f C : Addr} {fd : FuncData} (MN : Mth K C "nodes" "Grove.nodes" sNodes ["self", "one", "known"] f fd) (B : Blt mg) (T : GTx K mg C) : ∀ k, FnOk P w K mg base CX0 k f fd ["self", "one", "known"] (spNum Tr.nn C k)
  | 0 => by
    have no : ∀ vs H Q E, ¬ spNum Tr.nn C 0 vs H Q E := fun vs H Q E ⟨R, S, i, d, _, _, _, _, _, h, _⟩ => Nat.not_lt_zero _ h
    exact ⟨fun vs H Q E h => absurd h (no vs H Q E), fun A outer s H args us vs Q E _ _ _ _ h => absurd h (no vs H Q E)⟩
  | k + 1 => by
    have G := ok_nodes MN B T k
    refine MN.F.ok scNodes (fun vs H Q E h => ?_) (fun cdv A outer s H vs Q E hr h => ?_)
    · obtain ⟨R, S, i, d, rfl, _⟩ := h
      rfl
    obtain ⟨R, S, i, d, rfl, fs, hG, ok, hi, hk, hsz, ⟨ks, hd, hnd, hks⟩, q⟩ := h
    have nd := scNodes.nd
    have hu := hr.units
    have hu1 : (A.deeper (envOfC "Grove.nodes" (defScope sNodes) s.heap.objs.size f cdv)).units + 1 < cLine := by omega
    refine ⟨_, pss_cons (ps_if (pt_cmp (pc_dnotin hu1 (pv 1) (pv 2)))
        (pss_one (ps_dput hu1 (pv 2) (pv 1) (pe_op op_add pe_int (pe_callB (cr_sum rfl) (by rfl) B.sum (by decide +kernel) (pa_cons
          (pe_lc (own := [("told", 3)]) (g := gName 3) (tt := tYes) rfl nd (pi_tup (pe_ix ix_list (pe_fld (pv 0) rfl) (pv 1) (fun _ _ => rfl))) (blkOk_by (N := ["self", "one", "known", "told"]) (sc := defScope sNodes) (by decide +kernel)) (fun _ _ _ _ _ => pg_name (i := 3) nd rfl (.inl rfl)) (fun _ _ _ _ _ => pts_nil)
            (fun _ _ _ _ _ => pe_meth (pv 0) T.cl MN.m G hr MN.b .nil pass0 (pa_cons (pv 3) (pa_cons (pv 2) pa_nil)))) pa_nil))) rfl)) pss_nil)
      (pss_one (ps_ret (pe_dget hu1 (pv 2) (pv 1) (fun _ _ => rfl)))), ?_⟩
    have hv := kn_val S Tr.nn i ks
    refine ⟨_, rfl, _, rfl, d, _, rfl, DGet.k (k := Sum.inl ((i : Nat) : Int)) hd, _, rfl, ?_⟩
    by_cases hik : i ∈ ks
    · rw [if_pos hik] at hv
      refine iteN (by rw [hv]; rfl) ?_
      exact ⟨_, rfl, _, rfl, d, _, rfl, dgetI hd hv, q H (But.refl H) ⟨ks, hd, hnd, hks⟩⟩
    rw [if_neg hik] at hv
    refine iteY (by rw [hv]; rfl) ?_
    have ei := S.o_get hi
    have wi := ok.wid _ (List.mem_of_getElem? ei)
    have ti := os_of ok ei
    obtain ⟨ps, p, j1, j2, j3⟩ := hG.op ei
    have hdp : d ≠ p := fun z => by rw [z, j3] at hd; cases hd
    refine ⟨_, rfl, R.g, C, R.dx, R.fs, _, rfl, hG.ins, T.cl, T.nO, fs.o, _, rfl, R.lo, _, _, _, rfl, rfl, SqL.of j1, j2, p, rfl, ⟨_, SqT.of j3⟩, fun D hD => ?_⟩
    have nDd : D ≠ d := fun z => by rw [z, hd] at hD; cases hD
    refine lc_tup (K := K) (a := p) (xs := iL (S.o i)) (fun m H' => But [d] H H' ∧ KnI S Tr.nn H' d ∧ H' D = some (.lst (((S.o i).take m).map fun k => V.int ((S.T k).nn : Nat))))
      ⟨But.of_same (same_new hD), ⟨ks, by rw [upd_ne (Ne.symm nDd)]; exact hd, hnd, hks⟩, upd_same⟩ (fun m H' _ z => SqT.of (z.1 _ _ j3 (by simpa using Ne.symm hdp))) ?_ ?_
    · rintro m x H' hm ⟨Bi, ⟨ks', hd', hn', hk'⟩, hDi⟩
      obtain ⟨told, rfl, hto⟩ := ints_get hm
      have htm := List.mem_of_getElem? hto
      have htl := ok.lt ei htm
      have hth : (S.T told).ht + 1 ≤ (S.T i).ht := Tr.ht_os (by rw [ti]; exact List.mem_map_of_mem htm)
      have Gi := hG.keepD hd Bi
      refine ⟨rfl, _, rfl, R.g, R.dx, R.fs, rfl, Gi.ins, fs.mNodes, _, rfl, _, rfl, R, S, told, d, rfl, fs, Gi, ok, htl, by omega, hsz, ⟨ks', hd', hn', hk'⟩, fun H2 B2 K2 => ?_⟩
      have hD2 : H2 D = _ := B2 _ _ hDi (by simpa using nDd)
      obtain ⟨ks2, a1, a2, a3⟩ := K2
      refine ⟨_, hD2, by rw [List.length_map, List.length_take, sizeLine_eq]; omega, (Bi.trans B2).own hD, ⟨ks2, by rw [upd_ne (Ne.symm nDd)]; exact a1, a2, a3⟩, ?_⟩
      rw [upd_same, List.take_succ, hto, List.map_append]
      rfl
    rintro H2 ⟨B2, ⟨ks2, a1, a2, a3⟩, hD2⟩
    have et : (S.o i).take (iL (S.o i)).length = S.o i := List.take_of_length_le (by rw [ints_len]; exact Nat.le_refl _)
    rw [et] at hD2
    have lks : ks2.length ≤ S.n := by
      have := nodup_le a2 (m := List.range S.n) fun x hx => List.mem_range.mpr (a3 x hx)
      rwa [List.length_range] at this
    refine ⟨D, (S.o i).map fun k => (((S.T k).nn : Nat) : Int), rfl, SqL.of (by rw [hD2, List.map_map]; rfl), _, _, rfl, rfl, _, rfl, _, rfl, d, _, rfl, DPut.k (k := Sum.inl ((i : Nat) : Int)) a1 (by unfold knE; rw [List.length_map]; omega), ?_⟩
    have es : (1 : Int) + ((S.o i).map fun k => (((S.T k).nn : Nat) : Int)).sum = (((S.T i).nn : Nat) : Int) := by
      have h1 : ((S.o i).map fun k => (((S.T k).nn : Nat) : Int)) = ((S.T i).os).map fun t => ((t.nn : Nat) : Int) := by rw [ti, List.map_map]; rfl
      have h2 : (S.T i).nn = Tr.nns (S.T i).os + 1 := by
        cases S.T i with
        | nd l =>
          rw [Tr.nn]
          rfl
      rw [h1, nns_sum, h2]
      omega
    have es2 : (fun i j : Int => V.int (i + j)) 1 ((S.o i).map fun k => (((S.T k).nn : Nat) : Int)).sum = V.int (((S.T i).nn : Nat) : Int) := congrArg V.int es
    rw [es2]
    have kn := KnI.put (S := S) (g := Tr.nn) (H := H2) (d := d) a2 a3 hi
    obtain ⟨ks3, b1, b2, b3⟩ := id kn
    have hv3 : valV (putK (knE S Tr.nn ks2) (Sum.inl ((i : Nat) : Int)) (.int ((S.T i).nn : Nat))) (Sum.inl ((i : Nat) : Int)) = some (.int ((S.T i).nn : Nat)) := by rw [valV_put, if_pos rfl]
    exact ⟨_, rfl, _, rfl, d, _, rfl, dgetI upd_same hv3, q _ ((B2.put (by simp))) kn⟩
end
end K59
end

section
set_option Elab.async false
set_option linter.all false
set_option maxRecDepth 100000
set_option maxHeartbeats 8000000
/-! height, written, form. -/
namespace K59
open PySem L2 PyProof.Rows
section
variable {P : Program} {w : World} {K : PySem.W.Frag} {mg : Str → Option Value} {base : Heap}
theorem scHeight : FnScope ["self", "one", "known", "told"] ["self", "one", "known"] (defScope sHeight) := ⟨rfl, rfl, rfl, by decide +kernel, rfl, by decide +kernel, by decide +kernel⟩
theorem ok_height {f C : Addr} {fd : FuncData} (MN : Mth K C "height" "Grove.height" sHeight ["self", "one", "known"] f fd) (B : Blt mg) (T : GTx K mg C) : ∀ k, FnOk P w K mg base CX0 k f fd ["self", "one", "known"] (spNum Tr.ht C k)
  | 0 => by
    have no : ∀ vs H Q E, ¬ spNum Tr.ht C 0 vs H Q E := fun vs H Q E ⟨R, S, i, d, _, _, _, _, _, h, _⟩ => Nat.not_lt_zero _ h
    exact ⟨fun vs H Q E h => absurd h (no vs H Q E), fun A outer s H args us vs Q E _ _ _ _ h => absurd h (no vs H Q E)⟩
  | k + 1 => by
    have G := ok_height MN B T k
    refine MN.F.ok scHeight (fun vs H Q E h => ?_) (fun cdv A outer s H vs Q E hr h => ?_)
    · obtain ⟨R, S, i, d, rfl, _⟩ := h
      rfl
    obtain ⟨R, S, i, d, rfl, fs, hG, ok, hi, hk, hsz, ⟨ks, hd, hnd, hks⟩, q⟩ := h
    have nd := scHeight.nd
    have hu := hr.units
    have hu1 : (A.deeper (envOfC "Grove.height" (defScope sHeight) s.heap.objs.size f cdv)).units + 1 < cLine := by omega
    refine ⟨_, pss_cons (ps_if (pt_cmp (pc_dnotin hu1 (pv 1) (pv 2)))
        (pss_one (ps_dput hu1 (pv 2) (pv 1) (pe_callB (cr_max rfl) (by rfl) B.max (by decide +kernel) (pa_cons (pe_op op_cat (pe_lst (pa_cons pe_int pa_nil))
          (pe_lc (own := [("told", 3)]) (g := gName 3) (tt := tYes) rfl nd (pi_tup (pe_ix ix_list (pe_fld (pv 0) rfl) (pv 1) (fun _ _ => rfl))) (blkOk_by (N := ["self", "one", "known", "told"]) (sc := defScope sHeight) (by decide +kernel)) (fun _ _ _ _ _ => pg_name (i := 3) nd rfl (.inl rfl)) (fun _ _ _ _ _ => pts_nil)
            (fun _ _ _ _ _ => pe_op op_add pe_int (pe_meth (pv 0) T.cl MN.m G hr MN.b .nil pass0 (pa_cons (pv 3) (pa_cons (pv 2) pa_nil)))))) pa_nil)) rfl)) pss_nil)
      (pss_one (ps_ret (pe_dget hu1 (pv 2) (pv 1) (fun _ _ => rfl)))), ?_⟩
    have hv := kn_val S Tr.ht i ks
    refine ⟨_, rfl, _, rfl, d, _, rfl, DGet.k (k := Sum.inl ((i : Nat) : Int)) hd, _, rfl, ?_⟩
    by_cases hik : i ∈ ks
    · rw [if_pos hik] at hv
      refine iteN (by rw [hv]; rfl) ?_
      exact ⟨_, rfl, _, rfl, d, _, rfl, dgetI hd hv, q H (But.refl H) ⟨ks, hd, hnd, hks⟩⟩
    rw [if_neg hik] at hv
    refine iteY (by rw [hv]; rfl) ?_
    refine ⟨by show 1 ≤ sizeLine; decide, fun z0 hz0 => ?_⟩
    have S0' : Same H (upd H z0 (.lst [.int 0])) := same_new hz0
    have hz1 : upd H z0 (.lst [.int 0]) z0 = some (.lst [.int 0]) := upd_same
    generalize upd H z0 (.lst [.int 0]) = H0 at S0' hz1
    have G0 := hG.same S0'
    have hd0 := S0' _ _ hd
    have ei := S.o_get hi
    have wi := ok.wid _ (List.mem_of_getElem? ei)
    have ti := os_of ok ei
    obtain ⟨ps, p, j1, j2, j3⟩ := G0.op ei
    have hdp : d ≠ p := fun z => by rw [z, j3] at hd0; cases hd0
    have hdz : z0 ≠ d := fun z => by rw [z, hd] at hz0; cases hz0
    refine ⟨_, rfl, R.g, C, R.dx, R.fs, _, rfl, G0.ins, T.cl, T.nO, fs.o, _, rfl, R.lo, _, _, _, rfl, rfl, SqL.of j1, j2, p, rfl, ⟨_, SqT.of j3⟩, fun D hD => ?_⟩
    have nDd : D ≠ d := fun z => by rw [z, hd0] at hD; cases hD
    refine lc_tup (K := K) (a := p) (xs := iL (S.o i)) (fun m H' => But [d] H0 H' ∧ KnI S Tr.ht H' d ∧ H' D = some (.lst (((S.o i).take m).map fun k => V.int (1 + ((S.T k).ht : Nat)))))
      ⟨But.of_same (same_new hD), ⟨ks, by rw [upd_ne (Ne.symm nDd)]; exact hd0, hnd, hks⟩, upd_same⟩ (fun m H' _ z => SqT.of (z.1 _ _ j3 (by simpa using Ne.symm hdp))) ?_ ?_
    · rintro m x H' hm ⟨Bi, ⟨ks', hd', hn', hk'⟩, hDi⟩
      obtain ⟨told, rfl, hto⟩ := ints_get hm
      have htm := List.mem_of_getElem? hto
      have htl := ok.lt ei htm
      have hth : (S.T told).ht + 1 ≤ (S.T i).ht := Tr.ht_os (by rw [ti]; exact List.mem_map_of_mem htm)
      have Gi := G0.keepD hd0 Bi
      refine ⟨rfl, _, rfl, R.g, R.dx, R.fs, rfl, Gi.ins, fs.mHeight, _, rfl, _, rfl, R, S, told, d, rfl, fs, Gi, ok, htl, by omega, hsz, ⟨ks', hd', hn', hk'⟩, fun H2 B2 K2 => ⟨_, _, rfl, rfl, ?_⟩⟩
      have hD2 : H2 D = _ := B2 _ _ hDi (by simpa using nDd)
      obtain ⟨ks2, a1, a2, a3⟩ := K2
      refine ⟨_, hD2, by rw [List.length_map, List.length_take, sizeLine_eq]; omega, (Bi.trans B2).own hD, ⟨ks2, by rw [upd_ne (Ne.symm nDd)]; exact a1, a2, a3⟩, ?_⟩
      rw [upd_same, List.take_succ, hto, List.map_append]
      rfl
    rintro H2 ⟨B2, ⟨ks2, a1, a2, a3⟩, hD2⟩
    have et : (S.o i).take (iL (S.o i)).length = S.o i := List.take_of_length_le (by rw [ints_len]; exact Nat.le_refl _)
    rw [et] at hD2
    have lks : ks2.length ≤ S.n := by
      have := nodup_le a2 (m := List.range S.n) fun x hx => List.mem_range.mpr (a3 x hx)
      rwa [List.length_range] at this
    have hz2 : H2 z0 = some (.lst [.int 0]) := B2 _ _ hz1 (by simpa using hdz)
    refine ⟨z0, D, _, _, rfl, rfl, hz2, hD2, by rw [List.length_map, sizeLine_eq]; show 1 + _ ≤ _; omega, fun u hu' => ?_⟩
    have S3 : Same H2 (upd H2 u (.lst ([V.int 0] ++ (S.o i).map fun k => V.int (1 + ((S.T k).ht : Nat))))) := same_new hu'
    refine ⟨u, (0 : Int) :: (S.o i).map (fun k => 1 + (((S.T k).ht : Nat) : Int)), rfl, SqL.of (by rw [upd_same, List.map_cons, List.map_map]; rfl), Nat.succ_pos _, fun m hm hle => ?_⟩
    have em : m = (((S.T i).ht : Nat) : Int) := by
      have e2 : (S.T i).ht = Tr.hts (S.T i).os := by
        cases S.T i with
        | nd l =>
          rw [Tr.ht]
          rfl
      rw [e2]
      refine max_hts _ m ?_ (hle 0 List.mem_cons_self) fun t ht => ?_
      · rcases List.mem_cons.mp hm with z | z
        · exact .inl z
        · obtain ⟨k', hk', e⟩ := List.mem_map.mp z
          exact .inr ⟨S.T k', by rw [ti]; exact List.mem_map_of_mem hk', e.symm⟩
      · rw [ti] at ht
        obtain ⟨k', hk', rfl⟩ := List.mem_map.mp ht
        exact hle _ (List.mem_cons_of_mem _ (List.mem_map_of_mem (f := fun k => 1 + (((S.T k).ht : Nat) : Int)) hk'))
    rw [em]
    have B3 : But [d] H (upd H2 u (.lst ([V.int 0] ++ (S.o i).map fun k => V.int (1 + ((S.T k).ht : Nat))))) := ((But.of_same S0').trans B2).trans (But.of_same S3)
    have a4 := S3 _ _ a1
    generalize upd H2 u (.lst ([V.int 0] ++ (S.o i).map fun k => V.int (1 + ((S.T k).ht : Nat)))) = H3 at B3 a4
    refine ⟨_, rfl, _, rfl, d, _, rfl, DPut.k (k := Sum.inl ((i : Nat) : Int)) a4 (by unfold knE; rw [List.length_map]; omega), ?_⟩
    have kn := KnI.put (S := S) (g := Tr.ht) (H := H3) (d := d) a2 a3 hi
    have hv3 : valV (putK (knE S Tr.ht ks2) (Sum.inl ((i : Nat) : Int)) (.int ((S.T i).ht : Nat))) (Sum.inl ((i : Nat) : Int)) = some (.int ((S.T i).ht : Nat)) := by rw [valV_put, if_pos rfl]
    exact ⟨_, rfl, _, rfl, d, _, rfl, dgetI upd_same hv3, q _ ((B3.put (by simp))) kn⟩
/-! ### written -/
def spWritten (C : Addr) (k : Nat) : Sp := fun vs H Q _ => ∃ (R : GR) (S : GS) (i : Nat), vs = [.ref R.g, .int i] ∧ GFs R ∧ GAt C R S H ∧ GOk S ∧ i < S.n ∧ (S.T i).ht < k ∧ (S.T i).ht ≤ 30 ∧ Fine (S.T i) ∧
  ∀ v H', Same H H' → TrAt H' v (S.T i) → Q v H'
theorem scWritten : FnScope ["self", "one", "told"] ["self", "one"] (defScope sWritten) := ⟨rfl, rfl, rfl, by decide +kernel, rfl, by decide +kernel, by decide +kernel⟩
theorem ok_written {f C : Addr} {fd : FuncData} (MN : Mth K C "written" "Grove.written" sWritten ["self", "one"] f fd) (B : Blt mg) (T : GTx K mg C) : ∀ k, FnOk P w K mg base CX0 k f fd ["self", "one"] (spWritten C k)
  | 0 => by
    have no : ∀ vs H Q E, ¬ spWritten C 0 vs H Q E := fun vs H Q E ⟨R, S, i, _, _, _, _, _, h, _⟩ => Nat.not_lt_zero _ h
    exact ⟨fun vs H Q E h => absurd h (no vs H Q E), fun A outer s H args us vs Q E _ _ _ _ h => absurd h (no vs H Q E)⟩
  | k + 1 => by
    have G := ok_written MN B T k
    refine MN.F.ok scWritten (fun vs H Q E h => ?_) (fun cdv A outer s H vs Q E hr h => ?_)
    · obtain ⟨R, S, i, rfl, _⟩ := h
      rfl
    obtain ⟨R, S, i, rfl, fs, hG, ok, hi, hk, h30, hf, q⟩ := h
    have nd := scWritten.nd
    have hu := hr.units
    refine ⟨_, pss_one (ps_ret (pe_callTy call_tuple_of (by rfl) B.tuple (by decide +kernel) (pa_cons (pe_callB (cr_sortTr hu) (by rfl) B.sorted (by decide +kernel) (pa_cons
      (pe_lc (own := [("told", 2)]) (g := gName 2) (tt := tYes) rfl nd (pi_tup (pe_ix ix_list (pe_fld (pv 0) rfl) (pv 1) (fun _ _ => rfl))) (blkOk_by (N := ["self", "one", "told"]) (sc := defScope sWritten) (by decide +kernel)) (fun _ _ _ _ _ => pg_name (i := 2) nd rfl (.inl rfl)) (fun _ _ _ _ _ => pts_nil)
        (fun _ _ _ _ _ => pe_meth (pv 0) T.cl MN.m G hr MN.b .nil pass0 (pa_cons (pv 2) pa_nil))) pa_nil)) pa_nil))), ?_⟩
    have ei := S.o_get hi
    have wi := ok.wid _ (List.mem_of_getElem? ei)
    have ti := os_of ok ei
    obtain ⟨ps, p, j1, j2, j3⟩ := hG.op ei
    refine ⟨_, rfl, R.g, C, R.dx, R.fs, _, rfl, hG.ins, T.cl, T.nO, fs.o, _, rfl, R.lo, _, _, _, rfl, rfl, SqL.of j1, j2, p, rfl, ⟨_, SqT.of j3⟩, fun D hD => ?_⟩
    refine lc_tup (K := K) (a := p) (xs := iL (S.o i)) (fun m H' => Same H H' ∧ ∃ xs : List V, H' D = some (.lst xs) ∧ TrsAt H' xs (((S.o i).take m).map S.T))
      ⟨same_new hD, [], upd_same, .nil⟩ (fun m H' _ z => SqT.of (z.1 _ _ j3)) ?_ ?_
    · rintro m x H' hm ⟨Si, xs, hDi, hxs⟩
      obtain ⟨told, rfl, hto⟩ := ints_get hm
      have htm := List.mem_of_getElem? hto
      have htl := ok.lt ei htm
      have hto2 : S.T told ∈ (S.T i).os := by rw [ti]; exact List.mem_map_of_mem htm
      have hth : (S.T told).ht + 1 ≤ (S.T i).ht := Tr.ht_os hto2
      have Gi := hG.same Si
      refine ⟨rfl, _, rfl, R.g, R.dx, R.fs, rfl, Gi.ins, fs.mWritten, _, rfl, R, S, told, rfl, fs, Gi, ok, htl, by omega, by omega, hf.sub hto2, fun v H2 S2 hv => ?_⟩
      have hD2 := S2 _ _ hDi
      have T3 : Tups H2 (upd H2 D (.lst (xs ++ [v]))) := tups_upd fun ys z => by rw [hD2] at z; cases z
      refine ⟨_, hD2, by rw [hxs.len, List.length_map, List.length_take, sizeLine_eq]; omega, (But.own (S := []) (But.of_same (Si.trans S2)) hD).same, xs ++ [v], upd_same, ?_⟩
      rw [List.take_succ, hto, List.map_append]
      exact ((hxs.tups (same_tups S2)).tups T3).append (.cons (hv.tups T3) .nil)
    rintro H2 ⟨S2, xs, hD2, hxs⟩
    have et : (S.o i).take (iL (S.o i)).length = S.o i := List.take_of_length_le (by rw [ints_len]; exact Nat.le_refl _)
    rw [et, ← ti] at hxs
    have hol : (S.T i).os.length = (S.o i).length := by rw [ti, List.length_map]
    refine ⟨D, xs, (S.T i).os, rfl, .inl (SqL.of hD2), hxs, fun t ht => by have := Tr.ht_os ht; omega, by rw [hol, sizeLine_eq]; omega, fun l ys hl hys => ?_⟩
    rw [tsort_of_asc hf.asc (List.Perm.refl _)] at hys
    refine ⟨l, ys, rfl, .inl ⟨SqL.of upd_same, fun t ht => ?_⟩⟩
    have S3 : Same H2 (upd (upd H2 l (.lst ys)) t (.tup ys)) := (same_new hl).trans (same_new ht)
    refine q _ _ (S2.trans S3) ?_
    have := TrAt.nd' (n := 63) upd_same (hys.tups (same_tups S3)) (by rw [hol]; exact wi) (by decide)
    rwa [Tr.eta] at this
/-! ### form -/
def spForm (C : Addr) : Sp := fun vs H Q _ => ∃ (R : GR) (S : GS) (i : Nat), vs = [.ref R.g, .int i] ∧ GFs R ∧ GAt C R S H ∧ GOk S ∧ i < S.n ∧ (S.T i).ht ≤ 10 ∧ (S.T i).nn ≤ 2000 ∧ S.n < sizeLine ∧ Fine (S.T i) ∧
  ∀ v H', Same H H' → TrAt H' v (S.T i) → Q v H'
theorem scForm : FnScope ["self", "one"] ["self", "one"] (defScope sForm) := ⟨rfl, rfl, rfl, by decide +kernel, rfl, by decide +kernel, by decide +kernel⟩
theorem ok_form {f C fN fH fW : Addr} {fd fdN fdH fdW : FuncData} (F : Fun K "form" "Grove.form" sForm f fd) (B : Blt mg) (L : Lim mg) (T : GTx K mg C)
    (MN : Mth K C "nodes" "Grove.nodes" sNodes ["self", "one", "known"] fN fdN) (MH : Mth K C "height" "Grove.height" sHeight ["self", "one", "known"] fH fdH) (MW : Mth K C "written" "Grove.written" sWritten ["self", "one"] fW fdW) :
    FnOk P w K mg base CX0 12 f fd ["self", "one"] (spForm C) := by
  have GN : FnOk P w K mg base CX0 11 fN fdN ["self", "one", "known"] (spNum Tr.nn C 11) := ok_nodes MN B T 11
  have GH : FnOk P w K mg base CX0 11 fH fdH ["self", "one", "known"] (spNum Tr.ht C 11) := ok_height MH B T 11
  have GW : FnOk P w K mg base CX0 11 fW fdW ["self", "one"] (spWritten C 11) := ok_written MW B T 11
  refine F.ok scForm (fun vs H Q E h => ?_) (fun cdv A outer s H vs Q E hr h => ?_)
  · obtain ⟨R, S, i, rfl, _⟩ := h
    rfl
  obtain ⟨R, S, i, rfl, fs, hG, ok, hi, hh, hn, hsz, hf, q⟩ := h
  have nd := scForm.nd
  obtain ⟨tN, mN⟩ := L.gn
  obtain ⟨tH, mH⟩ := L.gh
  refine ⟨_, pss_cons (ps_if (pw_or (pt_cmpR op_gt (pe_meth (pv 0) T.cl MN.m GN hr MN.b .nil pass0 (pa_cons (pv 1) (pa_cons pe_dnewK pa_nil))) (pe_glob (v := .int 2000) (by rfl) mN ⟨tN, rfl⟩) (nomark _))
        (pw_or1 (pt_cmpR op_gt (pe_meth (pv 0) T.cl MH.m GH hr MH.b .nil pass0 (pa_cons (pv 1) (pa_cons pe_dnewK pa_nil))) (pe_glob (v := .int 40) (by rfl) mH ⟨tH, rfl⟩) (nomark _)))).pt
      (pss_one ps_never) pss_nil)
    (pss_one (ps_ret (pe_meth (pv 0) T.cl MW.m GW hr MW.b .nil pass0 (pa_cons (pv 1) pa_nil)))), ?_⟩
  refine ⟨_, rfl, R.g, R.dx, R.fs, rfl, hG.ins, fs.mNodes, _, rfl, fun d hd => ?_⟩
  have S1 : Same H (upd H d (.dK [])) := same_new hd
  have G1 := hG.same S1
  refine ⟨R, S, i, d, rfl, fs, G1, ok, hi, by omega, hsz, ⟨[], upd_same, List.nodup_nil, fun k hk => by cases hk⟩, fun H2 B2 K2 => ?_⟩
  have G2 := G1.keepD upd_same B2
  have S2 : Same H H2 := (fun b o e => B2 _ _ (S1 _ _ e) (by simpa using (ne_of_none e hd)))
  refine ⟨_, _, rfl, rfl, _, rfl, iteN (decide_eq_false (by omega)) ?_⟩
  refine ⟨_, rfl, R.g, R.dx, R.fs, rfl, G2.ins, fs.mHeight, _, rfl, fun d2 hd2 => ?_⟩
  have S3 : Same H2 (upd H2 d2 (.dK [])) := same_new hd2
  have G3 := G2.same S3
  refine ⟨R, S, i, d2, rfl, fs, G3, ok, hi, by omega, hsz, ⟨[], upd_same, List.nodup_nil, fun k hk => by cases hk⟩, fun H4 B4 K4 => ?_⟩
  have G4 := G3.keepD upd_same B4
  have S4 : Same H2 H4 := (fun b o e => B4 _ _ (S3 _ _ e) (by simpa using (ne_of_none e hd2)))
  refine ⟨_, _, rfl, rfl, _, rfl, iteN (decide_eq_false (by omega)) ?_⟩
  exact ⟨_, rfl, R.g, R.dx, R.fs, rfl, G4.ins, fs.mWritten, _, rfl, R, S, i, rfl, fs, G4, ok, hi, by omega, by omega, hf, fun v H5 S5 hv => q v H5 ((S2.trans S4).trans S5) hv⟩
end
end K59
end

section
set_option Elab.async false
set_option linter.all false
set_option maxRecDepth 100000
set_option maxHeartbeats 8000000
/-! need_number, heap_tree, is_lost. -/
namespace K59
open PySem L2 PyProof.Rows
theorem pile_ht_eq (n : Nat) : (pile n).ht ≤ n := pile_ht n
theorem nar_pile (m : Nat) : ∀ n, n ≤ m → Nar m (pile n) := by
  intro n
  induction n using Nat.strongRecOn with
  | ind n ih =>
    intro h
    rw [pile]
    refine .nd (by rw [piles_len]; exact h) fun u hu => ?_
    obtain ⟨k, hk, rfl⟩ := mem_piles.mp hu
    exact ih k hk (by omega)
/-- sums of so many trees: how many -/
def kb : Nat → Nat
  | 0 => 0
  | i + 1 => kb i + (1 + 32 * i + kb i) * 32
theorem kb_fits : ∀ i, i < 4 → 1 + 32 * (i + 1) + kb (i + 1) < 16777216
  | 0, _ => by decide
  | 1, _ => by decide
  | 2, _ => by decide
  | 3, _ => by decide
  | i + 4, h => absurd h (by omega)
theorem flat_len {β : Type} (f : Nat → List β) (m : Nat) : ∀ l : List Nat, (∀ x ∈ l, (f x).length ≤ m) → (l.flatMap f).length ≤ l.length * m
  | [], _ => by simp
  | x :: l, h => by
    have h1 := h x List.mem_cons_self
    have h2 := flat_len f m l fun y hy => h y (List.mem_cons_of_mem _ hy)
    rw [List.flatMap_cons, List.length_append, List.length_cons, Nat.succ_mul]
    omega
/-- the state behind i trees -/
structure Tot (S : GS) (ts : List Tr) (i r : Nat) (Kk : List (Nat × Nat)) : Prop where
  ok : GOk S
  lt : r < S.n
  eq : Eqv [S.T r] (ts.take i)
  ht : (S.T r).ht ≤ 5 * i
  nar : Nar (15 * i) (S.T r)
  sub : ∀ e ∈ S.sm, e.1 ∈ Kk
  cap : S.n ≤ 1 + 32 * i + S.sm.length
  few : Kk.length ≤ kb i
theorem Tot.start (ts : List Tr) : Tot S0 ts 0 0 [] := by
  refine ⟨s0_ok, Nat.one_pos, ?_, ?_, ?_, fun e he => (by cases he), Nat.le_refl _, Nat.le_refl _⟩
  · rw [s0_ok.leaf]
    exact eqv_leaf []
  · rw [s0_ok.leaf]
    exact Nat.le_refl _
  · rw [s0_ok.leaf]
    exact .nd (Nat.le_refl _) fun u hu => by cases hu
/-- what add may be asked, the tree read -/
theorem Tot.cnt {S S' : GS} {ts : List Tr} {i r r' : Nat} {Kk : List (Nat × Nat)} {t : Tr} (h : Tot S ts i r Kk) (hi : i < 4) (ok' : GOk S') (x : Ext 0 S S') (hn : S'.n ≤ S.n + t.nn) (hs : S'.sm = S.sm) (ht : IsTr S' r' t) (hnn : t.nn ≤ 32) :
    ∃ (A D : Nat → Prop) (K2 : List (Nat × Nat)), A r ∧ D r' ∧ Cnt S' A D K2 (1 + 32 * (i + 1)) ∧ K2.length ≤ kb (i + 1) := by
  obtain ⟨Dl, d1, d2, d3, d4⟩ := closure ok' (r' + 1) r' (Nat.lt_succ_self _) ht.lt
  have hd : Dl.length ≤ 32 := by have := ht.nn; omega
  have hsl : S.sm.length ≤ Kk.length := by
    have := nodup_le h.ok.keys (m := Kk) fun x hx => by
      obtain ⟨e, he, rfl⟩ := List.mem_map.mp hx
      exact h.sub e he
    rwa [List.length_map] at this
  have hSn : S.n ≤ 1 + 32 * i + kb i := by have := h.cap; have := h.few; omega
  have hK2 : (Kk ++ (List.range S.n).flatMap fun a => Dl.map fun b => (min a b, max a b)).length ≤ kb (i + 1) := by
    rw [List.length_append]
    have h1 := flat_len (fun a => Dl.map fun b => (min a b, max a b)) 32 (List.range S.n) fun a _ => by rw [List.length_map]; exact hd
    rw [List.length_range] at h1
    have h2 : S.n * 32 ≤ (1 + 32 * i + kb i) * 32 := Nat.mul_le_mul_right _ (by omega)
    have h3 := h.few
    show _ ≤ kb i + (1 + 32 * i + kb i) * 32
    omega
  refine ⟨fun a => a < S.n, fun b => b ∈ Dl, Kk ++ (List.range S.n).flatMap fun a => Dl.map fun b => (min a b, max a b), h.lt, d1, ⟨fun a ha => ?_, fun b hb => ⟨d2 b hb, d3 b hb⟩, fun a b ha hb => ?_, fun e he => ?_, ?_, ?_⟩, hK2⟩
  · refine ⟨Nat.lt_of_lt_of_le ha x.n, fun o e y hy => ?_⟩
    have := ok'.low a o e y hy
    exact Nat.lt_trans this ha
  · exact List.mem_append_right _ (List.mem_flatMap.mpr ⟨a, List.mem_range.mpr ha, List.mem_map_of_mem hb⟩)
  · rw [hs] at he
    exact List.mem_append_left _ (h.sub e he)
  · have := h.cap
    rw [hs]
    omega
  · have := kb_fits i hi
    rw [sizeLine_eq]
    omega
theorem Tot.next {S S' S2 : GS} {ts : List Tr} {i r r' k h2 : Nat} {Kk K2 : List (Nat × Nat)} {A D : Nat → Prop} {t : Tr} (h : Tot S ts i r Kk) (ht : ts[i]? = some t) (x : Ext 0 S S') (ok' : GOk S') (h5 : t.ht ≤ 5) (hw : Nar 15 t)
    (it : IsTr S' r' t) (ok2 : GOk S2) (x2 : Ext h2 S' S2) (c2 : Cnt S2 A D K2 (1 + 32 * (i + 1))) (hk : K2.length ≤ kb (i + 1)) (is : IsSum S2 k r r') : Tot S2 ts (i + 1) k K2 := by
  have hr' : r < S'.n := Nat.lt_of_lt_of_le h.lt x.n
  have eR : S2.T r = S.T r := (x2.T ok' hr').trans (x.T h.ok h.lt)
  have eR' : S2.T r' = S'.T r' := x2.T ok' it.lt
  refine ⟨ok2, is.lt, ?_, ?_, ?_, c2.sub, c2.cap, hk⟩
  · have e1 := is.eq
    rw [eR, eR'] at e1
    have e2 : ts.take (i + 1) = ts.take i ++ [t] := by rw [List.take_succ, ht]; rfl
    rw [e2]
    exact e1.trans ((h.eq.right [S'.T r']).trans (it.eq.left (ts.take i)))
  · have := is.ht
    rw [eR, eR'] at this
    have := h.ht
    have := it.ht
    omega
  · have e : 15 * (i + 1) = 15 * i + 15 := by omega
    rw [e]
    exact is.nar _ _ (by rw [eR]; exact h.nar) (by rw [eR']; exact it.nar 15 hw)
section
variable {P : Program} {w : World} {K : PySem.W.Frag} {mg : Str → Option Value} {base : Heap}
/-- a def of the module -/
structure Dfn (K : PySem.W.Frag) (mg : Str → Option Value) (nm : Str) (st : Stmt) (ps : List Str) (f : Addr) (fd : FuncData) : Prop where
  F : Fun K nm nm st f fd
  b : Binds K fd ps []
  m : mg nm = some (.ref f)
def spIsInt : Sp := fun vs H Q _ => ∃ n : Int, vs = [.int n] ∧ Q (.bl true) H
theorem scIsInt : FnScope ["value"] ["value"] (defScope sIsInt) := ⟨rfl, rfl, rfl, by decide +kernel, rfl, by decide +kernel, by decide +kernel⟩
theorem ok_isInt {f : Addr} {fd : FuncData} (F : Fun K "is_int" "is_int" sIsInt f fd) (B : Blt mg) : FnOk P w K mg base CX0 1 f fd ["value"] spIsInt := by
  refine F.ok scIsInt (fun vs H Q E h => ?_) (fun cdv A outer s H vs Q E hr h => ?_)
  · obtain ⟨n, rfl, _⟩ := h
    rfl
  obtain ⟨n, rfl, q⟩ := h
  refine ⟨_, pss_one (ps_ret (pe_and (pe_callB call_isi (by rfl) B.isi (by decide +kernel) (pa_cons (pv 0) (pa_cons (pe_bltn (v := .ty "int") (by rfl) B.int (by decide +kernel) rfl) pa_nil)))
    (pe_one (pe_not (pe_callB call_isi (by rfl) B.isi (by decide +kernel) (pa_cons (pv 0) (pa_cons (pe_bltn (v := .ty "bool") (by rfl) B.bool (by decide +kernel) rfl) pa_nil))))))), ?_⟩
  refine ⟨_, rfl, _, _, .type "int", _, true, rfl, .ty "int", .base (.int _), kit_ty (by decide +kernel), true, rfl, ?_⟩
  refine iteT ?_
  exact ⟨_, rfl, _, _, .type "int", _, false, rfl, .ty "bool", .base (.int _), kit_ty (by decide +kernel), false, rfl, q⟩
def spIsIn : Sp := fun vs H Q _ => ∃ n a b : Int, vs = [.int n, .int a, .int b] ∧ a ≤ n ∧ n ≤ b ∧ Q (.bl true) H
theorem scIsIn : FnScope ["value", "least", "most"] ["value", "least", "most"] (defScope sIsIn) := ⟨rfl, rfl, rfl, by decide +kernel, rfl, by decide +kernel, by decide +kernel⟩
theorem ok_isIn {f fI : Addr} {fd fdI : FuncData} (F : Fun K "is_in" "is_in" sIsIn f fd) (B : Blt mg) (DI : Dfn K mg "is_int" sIsInt ["value"] fI fdI) : FnOk P w K mg base CX0 2 f fd ["value", "least", "most"] spIsIn := by
  have GI : FnOk P w K mg base CX0 1 fI fdI ["value"] spIsInt := ok_isInt DI.F B
  refine F.ok scIsIn (fun vs H Q E h => ?_) (fun cdv A outer s H vs Q E hr h => ?_)
  · obtain ⟨n, a, b, rfl, _⟩ := h
    rfl
  obtain ⟨n, a, b, rfl, h1, h2, q⟩ := h
  refine ⟨_, pss_one (ps_ret (pe_and (pe_call GI hr (by rfl) DI.m DI.F.kp DI.b .nil pass0 (pa_cons (pv 0) pa_nil)) (pe_one (pe_chain op_le op_le (pv 1) (pv 0) (pv 2))))), ?_⟩
  refine ⟨_, rfl, n, rfl, true, rfl, iteT ?_⟩
  refine ⟨_, rfl, _, rfl, _, _, rfl, rfl, _, rfl, ?_⟩
  refine iteY (decide_eq_true h1) ?_
  refine ⟨_, rfl, _, _, rfl, rfl, ?_⟩
  have e : decide (n ≤ b) = true := decide_eq_true h2
  show Q (.bl (decide (n ≤ b))) H
  rw [e]
  exact q
def spNeed : Sp := fun vs H Q _ => ∃ n a b : Int, vs = [.int n, .int a, .int b] ∧ a ≤ n ∧ n ≤ b ∧ Q .non H
theorem scNeed : FnScope ["value", "least", "most"] ["value", "least", "most"] (defScope sNeed) := ⟨rfl, rfl, rfl, by decide +kernel, rfl, by decide +kernel, by decide +kernel⟩
theorem ok_need {f fN fI : Addr} {fd fdN fdI : FuncData} (F : Fun K "need_number" "need_number" sNeed f fd) (B : Blt mg) (DN : Dfn K mg "is_in" sIsIn ["value", "least", "most"] fN fdN) (DI : Dfn K mg "is_int" sIsInt ["value"] fI fdI) : FnOk P w K mg base CX0 3 f fd ["value", "least", "most"] spNeed := by
  have GI : FnOk P w K mg base CX0 2 fN fdN ["value", "least", "most"] spIsIn := ok_isIn DN.F B DI
  refine F.ok scNeed (fun vs H Q E h => ?_) (fun cdv A outer s H vs Q E hr h => ?_)
  · obtain ⟨n, a, b, rfl, _⟩ := h
    rfl
  obtain ⟨n, a, b, rfl, h1, h2, q⟩ := h
  refine ⟨_, pss_one (ps_if (pt_not (pt_val (pe_call GI hr (by rfl) DN.m DN.F.kp DN.b .nil pass0 (pa_cons (pv 0) (pa_cons (pv 1) (pa_cons (pv 2) pa_nil)))))) (pss_one ps_never) pss_nil), ?_⟩
  exact ⟨_, rfl, _, rfl, _, rfl, n, a, b, rfl, h1, h2, true, rfl, iteF q⟩
/-! ### heap_tree -/
structure Grv (K : PySem.W.Frag) (mg : Str → Option Value) (C fI fP fF fM fR fA fH fN fT fO fW : Addr) (dI dP dF dM dR dA dH dN dT dO dW : FuncData) : Prop where
  T : GTx K mg C
  M : Mk K C fI
  I : Fun K "__init__" "Grove.__init__" sGInit fI dI
  bI : Binds K dI ["self"] []
  P : Mth K C "place" "Grove.place" sPlace ["self", "some"] fP dP
  F : Mth K C "fits" "Grove.fits" sFits ["self", "some", "goal"] fF dF
  Mm : Mth K C "make" "Grove.make" sMake ["self", "some"] fM dM
  R : Mth K C "read" "Grove.read" sRead ["self", "tree"] fR dR
  A : Mth K C "add" "Grove.add" sAdd ["self", "one", "other"] fA dA
  H : Mth K C "heap" "Grove.heap" sHeap ["self", "size"] fH dH
  N : Mth K C "nodes" "Grove.nodes" sNodes ["self", "one", "known"] fN dN
  Ht : Mth K C "height" "Grove.height" sHeight ["self", "one", "known"] fT dT
  O : Mth K C "form" "Grove.form" sForm ["self", "one"] fO dO
  W : Mth K C "written" "Grove.written" sWritten ["self", "one"] fW dW
variable {C fI fP fF fM fR fA fH fN fT fO fW : Addr} {dI dP dF dM dR dA dH dN dT dO dW : FuncData}
def spHeapTree : Sp := fun vs H Q _ => ∃ n : Nat, vs = [.int n] ∧ n ≤ 6 ∧ ∀ v H', Same H H' → TrAt H' v (pile n) → Q v H'
theorem scHeapTree : FnScope ["size", "grove"] ["size"] (defScope sHeapTree) := ⟨rfl, rfl, rfl, by decide +kernel, rfl, by decide +kernel, by decide +kernel⟩
theorem ok_heapTree {f g1 g2 g3 : Addr} {fd d1 d2 d3 : FuncData} (F : Fun K "heap_tree" "heap_tree" sHeapTree f fd) (B : Blt mg) (L : Lim mg) (V : Grv K mg C fI fP fF fM fR fA fH fN fT fO fW dI dP dF dM dR dA dH dN dT dO dW)
    (DD : Dfn K mg "need_number" sNeed ["value", "least", "most"] g1 d1) (DN : Dfn K mg "is_in" sIsIn ["value", "least", "most"] g2 d2) (DI : Dfn K mg "is_int" sIsInt ["value"] g3 d3) : FnOk P w K mg base CX0 13 f fd ["size"] spHeapTree := by
  have GN : FnOk P w K mg base CX0 3 g1 d1 ["value", "least", "most"] spNeed := ok_need DD.F B DN DI
  have GI : FnOk P w K mg base CX0 1 fI dI ["self"] (spGInit C) := ok_ginit V.I V.T
  have GH : FnOk P w K mg base CX0 2 fH dH ["self", "size"] (spHeap C) := ok_heap V.H.F B V.T V.P
  have GO : FnOk P w K mg base CX0 12 fO dO ["self", "one"] (spForm C) := ok_form V.O.F B L V.T V.N V.Ht V.W
  refine F.ok scHeapTree (fun vs H Q E h => ?_) (fun cdv A outer s H vs Q E hr h => ?_)
  · obtain ⟨n, rfl, _⟩ := h
    rfl
  obtain ⟨n, rfl, hn, q⟩ := h
  have nd := scHeapTree.nd
  obtain ⟨tH, mH⟩ := L.heap
  refine ⟨_, pss_cons (ps_expr (pe_call GN (hr.mono (by decide)) (by rfl) DD.m DD.F.kp DD.b .nil pass0 (pa_cons (pv 0) (pa_cons pe_int (pa_cons (pe_glob (v := .int 6) (by rfl) mH ⟨tH, rfl⟩) pa_nil)))))
    (pss_cons (ps_set (i := 1) nd rfl (.inl rfl) (pe_make0 V.M GI (hr.mono (by decide)) (by rfl) V.T.mgC V.bI .nil pass0))
    (pss_one (ps_ret (pe_meth (pv 1) V.T.cl V.O.m GO hr V.O.b .nil pass0 (pa_cons (pe_meth (pv 1) V.T.cl V.H.m GH (hr.mono (by decide)) V.H.b .nil pass0 (pa_cons (pv 0) pa_nil)) pa_nil))))), ?_⟩
  refine ⟨_, rfl, _, 0, 6, rfl, by omega, by omega, ?_⟩
  intro x dx nx ndx nex
  have s1 : Same H (upd (upd H dx (.own x)) x (.ins C dx [])) := fun b o e => by
    rw [upd_ne (ne_of_none e nx), upd_ne (ne_of_none e ndx)]
    exact e
  refine ⟨x, dx, rfl, upd_same, fun R H2 eg B2 own2 fs G2 => ⟨rfl, ?_⟩⟩
  subst eg
  have S2 : Same H H2 := fun b o e => B2 _ _ (s1 _ _ e) (by simpa using ne_of_none e nx)
  have G2' := G2.ins
  refine ⟨_, rfl, R.g, R.dx, R.fs, rfl, G2.ins, fs.mForm, _, rfl, R.g, R.dx, R.fs, rfl, G2.ins, fs.mHeap, _, rfl, R, n, rfl, fs, G2, by omega, fun H3 B3 G3 => ?_⟩
  have eT := hs_T n (Nat.le_refl n)
  have h1 := pile_ht n
  have h2 : 2 ^ n ≤ 2 ^ 6 := Nat.pow_le_pow_right (by decide) hn
  have own0 : ∀ a ∈ R.own, H a = none := fun a ha => by
    have := own2 a ha
    cases e : H a with
    | none => rfl
    | some o => rw [s1 _ _ e] at this; cases this
  have S3 : Same H H3 := fun b o e => B3 _ _ (S2 _ _ e) fun z => by rw [own0 b z] at e; cases e
  refine ⟨R, HS n, n, rfl, fs, G3, hs_ok n (by omega), by rw [hs_n]; omega, by rw [eT]; omega, by rw [eT, pile_nn]; omega, by rw [hs_n, sizeLine_eq]; omega, by rw [eT]; exact fine_pile n, fun v H4 S4 hv => ?_⟩
  rw [eT] at hv
  exact q v H4 (S3.trans S4) hv
/-! ### is_lost -/
def spIsLost : Sp := fun vs H Q _ => ∃ (a : Addr) (xs : List V) (ts : List Tr), vs = [.ref a] ∧ H a = some (.tup xs) ∧ TrsAt H xs ts ∧ ts.length ≤ 4 ∧ (∀ t ∈ ts, Fine t ∧ t.ht ≤ 5 ∧ t.nn ≤ 32 ∧ Nar 15 t) ∧ ∀ H', Same H H' → Q (.bl (lostB ts)) H'
theorem scIsLost : FnScope ["trees", "index", "tree", "grove", "total"] ["trees"] (defScope sIsLost) := ⟨rfl, rfl, rfl, by decide +kernel, rfl, by decide +kernel, by decide +kernel⟩
theorem ok_isLost {f g1 g2 : Addr} {fd d1 d2 : FuncData} (F : Fun K "is_lost" "is_lost" sIsLost f fd) (B : Blt mg) (L : Lim mg) (V : Grv K mg C fI fP fF fM fR fA fH fN fT fO fW dI dP dF dM dR dA dH dN dT dO dW)
    (DT : Dfn K mg "is_tree" sIsTree ["value"] g1 d1) (DA : Dfn K mg "is_ascending" sIsAsc ["tree"] g2 d2) : FnOk P w K mg base CX0 25 f fd ["trees"] spIsLost := by
  have GT : FnOk P w K mg base CX0 14 g1 d1 ["value"] spIsTree := ok_isTree DT.F B L DA.F DA.b DA.m
  have GI : FnOk P w K mg base CX0 1 fI dI ["self"] (spGInit C) := ok_ginit V.I V.T
  have GR : FnOk P w K mg base CX0 8 fR dR ["self", "tree"] (spRead C 6) := ok_read V.R B V.T V.Mm V.P V.F 6
  have GA : FnOk P w K mg base CX0 23 fA dA ["self", "one", "other"] (spAdd C 21) := ok_add V.A B V.T V.Mm V.P V.F 21
  refine F.ok scIsLost (fun vs H Q E h => ?_) (fun cdv A0 outer s H vs Q E hr h => ?_)
  · obtain ⟨a, xs, ts, rfl, _⟩ := h
    rfl
  obtain ⟨a, xs, ts, rfl, ha, hxs, h4, hall, q⟩ := h
  have nd := scIsLost.nd
  obtain ⟨tM, mM⟩ := L.trees
  refine ⟨_, pss_cons (ps_if (pw_or (pt_not (pt_val (pe_callB call_isi (by rfl) B.isi (by decide +kernel) (pa_cons (pv 0) (pa_cons (pe_bltn (v := .ty "tuple") (by rfl) B.tuple (by decide +kernel) rfl) pa_nil)))))
        (pw_or1 (pt_cmpR op_gt (pe_callB call_len_seq (by rfl) B.len PySem.boot_len (pa_cons (pv 0) pa_nil)) (pe_glob (v := .int 4) (by rfl) mM ⟨tM, rfl⟩) (nomark _)))).pt (pss_one ps_never) pss_nil)
    (pss_cons (ps_for PassesOwn.never rfl (pi_enumT (by rfl) B.enum (pa_cons (pv 0) pa_nil)) (pg_tup rfl (pgs_cons (pg_name (i := 1) nd rfl (.inl rfl)) (pgs_cons (pg_name (i := 2) nd rfl (.inl rfl)) pgs_nil)))
      (pss_one (ps_if (pt_not (pt_val (pe_call GT (hr.mono (by decide)) (by rfl) DT.m DT.F.kp DT.b .nil pass0 (pa_cons (pv 2) pa_nil)))) (pss_one ps_never) pss_nil)))
    (pss_cons (ps_par (i := 3) (j := 4) rfl nd rfl rfl (by decide) rfl rfl (pa_cons (pe_make0 V.M GI (hr.mono (by decide)) (by rfl) V.T.mgC V.bI .nil pass0) (pa_cons pe_int pa_nil)) rfl)
    (pss_cons (ps_for PassesOwn.never rfl (pi_tup (pv 0)) (pg_name (i := 2) nd rfl (.inl rfl))
      (pss_one (ps_set (i := 4) nd rfl (.inl rfl) (pe_meth (pv 3) V.T.cl V.A.m GA (hr.mono (by decide)) V.A.b .nil pass0 (pa_cons (pv 4) (pa_cons (pe_meth (pv 3) V.T.cl V.R.m GR (hr.mono (by decide)) V.R.b .nil pass0 (pa_cons (pv 2) pa_nil)) pa_nil))))))
    (pss_one (ps_ret (pe_ix ix_list (pe_fld (pv 3) rfl) (pv 4) (fun _ _ => rfl))))))), ?_⟩
  refine ⟨_, rfl, _, _, .type "tuple", _, true, rfl, .ty "tuple", .base (.tup ha), kit_ty (by decide +kernel), true, rfl, ?_⟩
  refine ⟨_, rfl, a, xs, rfl, .inr (SqT.of ha), _, _, rfl, rfl, _, rfl, iteN (decide_eq_false (by rw [hxs.len]; omega)) ?_⟩
  refine ⟨_, rfl, a, xs, rfl, SqT.of ha, for_it (walk_enumT (K := K) (a := a) (xs := xs)) (fun i σ H' => ∃ v1 v2 v3 v4, σ = [some (.ref a), v1, v2, v3, v4] ∧ v3 = none ∧ v4 = none ∧ Same H H') ⟨none, none, none, none, rfl, rfl, rfl, fun _ _ e => e⟩ (fun i σ H' _ ⟨_, _, _, _, _, _, _, z⟩ => z _ _ ha) ?_ ?_⟩
  · rintro i x σ H1 H2 hi ⟨v1, v2, v3, v4, rfl, rfl, rfl, S1⟩ ⟨t, y1, y2, rfl, ht, rfl, hy1, hy2⟩
    obtain ⟨u, hu, hy⟩ := hxs.get hy2
    cases hy1
    have S2 : Same H1 (upd H1 t (.tup [.int (i : Nat), y2])) := same_new ht
    obtain ⟨a1, a2, a3, a4⟩ := hall u (List.mem_of_getElem? hu)
    refine ⟨t, _, rfl, SqT.of upd_same, rfl, _, _, rfl, _, _, rfl, rfl, ?_⟩
    refine ⟨_, rfl, y2, u, rfl, hy.tups (same_tups (S1.trans S2)), a1, by omega, by omega, fun H3 S3 => ⟨true, rfl, iteF ?_⟩⟩
    exact ⟨_, _, _, _, rfl, rfl, rfl, (S1.trans S2).trans S3⟩
  rintro σ H1 ⟨v1, v2, v3, v4, rfl, rfl, rfl, S1⟩
  intro x dx nx ndx nex
  have s1 : Same H1 (upd (upd H1 dx (.own x)) x (.ins C dx [])) := fun b o e => by
    rw [upd_ne (ne_of_none e nx), upd_ne (ne_of_none e ndx)]
    exact e
  refine ⟨x, dx, rfl, upd_same, fun R H2 eg B2 own2 fs G2 => ⟨rfl, ?_⟩⟩
  subst eg
  have S2 : Same H1 H2 := fun b o e => B2 _ _ (s1 _ _ e) (by simpa using ne_of_none e nx)
  have S12 := S1.trans S2
  have own0 : ∀ a ∈ R.own, H a = none := fun a ha => by
    have := own2 a ha
    cases e : H a with
    | none => rfl
    | some o => rw [s1 _ _ (S1 _ _ e)] at this; cases this
  have sm : ∀ {H3 : Hp}, But R.own H2 H3 → Same H H3 := fun B3 b o e => B3 _ _ (S12 _ _ e) fun z => by rw [own0 b z] at e; cases e
  refine ⟨_, _, rfl, ?_⟩
  refine ⟨_, rfl, a, rfl, ⟨_, SqT.of (S12 _ _ ha)⟩, for_tup (K := K) (a := a) (xs := xs) (fun i σ H' => ∃ (v1 v2 : Option L2.V) (r : Nat) (S : GS) (Kk : List (Nat × Nat)), σ = [some (.ref a), v1, v2, some (.ref R.g), some (.int r)] ∧ Tot S ts i r Kk ∧ But R.own H2 H' ∧ GAt C R S H') ⟨_, _, 0, S0, [], rfl, Tot.start ts, But.refl _, G2⟩ (fun i σ H' _ ⟨_, _, _, _, _, _, _, z, _⟩ => SqT.of (sm z _ _ ha)) ?_ ?_⟩
  · rintro i y σ H3 hi ⟨v1, v2, r, S, Kk, rfl, tot, B3, G3⟩
    obtain ⟨t, ht, hy⟩ := hxs.get hi
    have hi4 : i < 4 := by
      have := (List.getElem?_eq_some_iff.mp ht).1
      omega
    obtain ⟨a1, a2, a3, a4⟩ := hall t (List.mem_of_getElem? ht)
    have hSn : S.n ≤ 1 + 32 * i + kb i := by
      have hsl : S.sm.length ≤ Kk.length := by
        have := nodup_le tot.ok.keys (m := Kk) fun x hx => by
          obtain ⟨e, he, rfl⟩ := List.mem_map.mp hx
          exact tot.sub e he
        rwa [List.length_map] at this
      have := tot.cap
      have := tot.few
      omega
    have hkb : kb i ≤ kb (i + 1) := Nat.le_add_right _ _
    have hfit := kb_fits i hi4
    refine ⟨_, rfl, R.g, R.dx, R.fs, rfl, G3.ins, fs.mAdd, _, rfl, _, rfl, R.g, R.dx, R.fs, rfl, G3.ins, fs.mRead, _, rfl, R, S, y, t, rfl, fs, G3, tot.ok, hy.tups (same_tups (sm B3)), by omega, a4.mono (by decide), by rw [sizeLine_eq]; omega, fun S' r' H4 ok4 x4 n4 s4 it B4 G4 => ?_⟩
    obtain ⟨A, D, K2, hA, hD, cnt, hk2⟩ := tot.cnt hi4 ok4 x4 n4 s4 it a3
    have eT : S'.T r = S.T r := x4.T tot.ok tot.lt
    have h1 := tot.ht
    have h2 := it.ht
    refine ⟨R, S', r, r', 15 * i, 15, A, D, K2, 1 + 32 * (i + 1), rfl, fs, G4, ok4, hA, hD, cnt, by rw [eT]; omega, by rw [eT]; exact tot.nar, it.nar 15 a4, by omega, fun S2 k H5 ok5 x5 c5 is5 B5 G5 => ?_⟩
    exact ⟨_, _, k, S2, K2, rfl, tot.next ht x4 ok4 a2 a4 it ok5 x5 c5 hk2 is5, (B3.trans B4).trans B5, G5⟩
  · rintro σ H3 ⟨v1, v2, r, S, Kk, rfl, tot, B3, G3⟩
    refine ⟨_, rfl, R.g, C, R.dx, R.fs, _, rfl, G3.ins, V.T.cl, V.T.nL, fs.l, _, rfl, R.ll, _, _, _, rfl, rfl, SqL.of G3.lst, GAt.ls (R := R) (C := C) (H := H) tot.ok tot.lt, ?_⟩
    have e1 := tot.eq
    rw [hxs.len, List.take_length] at e1
    rw [lostB_eqv e1]
    exact q H3 (sm B3)
end
end K59
end

section
set_option Elab.async false
set_option linter.all false
set_option maxRecDepth 100000
set_option maxHeartbeats 8000000
/-! _law_falls. -/
namespace K59
open PySem L2 PyProof.Rows
def htS (L : List Tr) : Nat := (L.map Tr.ht).sum
theorem htS_perm {L M : List Tr} (h : L.Perm M) : htS L = htS M := by
  unfold htS
  induction h with
  | nil => rfl
  | cons x _ ih => simp only [List.map_cons, List.sum_cons, ih]
  | swap x y l => simp only [List.map_cons, List.sum_cons]; omega
  | trans _ _ a b => exact a.trans b
theorem htS_app (L M : List Tr) : htS (L ++ M) = htS L + htS M := by unfold htS; rw [List.map_append, List.sum_append]
def rst (L : List Tr) (a : Nat) : List Tr := L.take a ++ L.drop (a + 1)
def lat (L : List Tr) (a : Nat) (o : Tr) : List Tr := rst L a ++ [o]
theorem rst_perm {L : List Tr} {a : Nat} {t : Tr} (h : L[a]? = some t) : L.Perm (t :: rst L a) := by
  obtain ⟨ha, e⟩ := List.getElem?_eq_some_iff.mp h
  have e2 : L = L.take a ++ (t :: L.drop (a + 1)) := by
    rw [← e, ← List.drop_eq_getElem_cons ha, List.take_append_drop]
  unfold rst
  conv => lhs; rw [e2]
  exact List.perm_middle
theorem lat_perm (L : List Tr) (a : Nat) (o : Tr) : (lat L a o).Perm (o :: rst L a) := by
  unfold lat
  exact List.perm_append_comm
theorem mv_lat {L : List Tr} {a : Nat} {t o : Tr} (h : L[a]? = some t) (ho : o ∈ t.os) : Mv L (o :: rst L a) := ⟨t, rst L a, o, rst_perm h, ho, rfl⟩
theorem lat_mv {L M : List Tr} (h : Mv L M) : ∃ (a : Nat) (t o : Tr), L[a]? = some t ∧ o ∈ t.os ∧ M.Perm (lat L a o) := by
  obtain ⟨t, R, o, p, ho, rfl⟩ := h
  have ht : t ∈ L := p.mem_iff.mpr List.mem_cons_self
  obtain ⟨a, ha, e⟩ := List.getElem_of_mem ht
  have ea : L[a]? = some t := by rw [List.getElem?_eq_getElem ha, e]
  have q := (rst_perm ea).symm.trans p
  refine ⟨a, t, o, ea, ho, ?_⟩
  exact (List.Perm.cons o ((List.perm_cons t).mp q).symm).trans (lat_perm L a o).symm
theorem lat_ht {L : List Tr} {a : Nat} {t o : Tr} (h : L[a]? = some t) (ho : o ∈ t.os) : htS (lat L a o) < htS L ∧ htS (rst L a) < htS L := by
  have h1 := htS_perm (rst_perm h)
  have h2 := htS_perm (lat_perm L a o)
  have h3 := Tr.ht_os ho
  have e1 : htS (t :: rst L a) = t.ht + htS (rst L a) := by unfold htS; rw [List.map_cons, List.sum_cons]
  have e2 : htS (o :: rst L a) = o.ht + htS (rst L a) := by unfold htS; rw [List.map_cons, List.sum_cons]
  omega
theorem rst_len {L : List Tr} {a : Nat} (h : a < L.length) : (rst L a).length + 1 = L.length := by
  unfold rst
  rw [List.length_append, List.length_take, List.length_drop]
  omega
theorem rst_sub {L : List Tr} {a : Nat} {x : Tr} (h : x ∈ rst L a) : x ∈ L := by
  unfold rst at h
  rcases List.mem_append.mp h with z | z
  · exact List.mem_of_mem_take z
  · exact List.mem_of_mem_drop z
def pt (L : List Tr) (a : Nat) : Tr := L.getD a (.nd [])
theorem pt_of {L : List Tr} {a : Nat} {t : Tr} (h : L[a]? = some t) : pt L a = t := by
  unfold pt
  rw [List.getD_eq_getElem?_getD, h]
  rfl
noncomputable def fF (L : List Tr) (a : Nat) : Bool := (pt L a).os.all fun o => !lostB (lat L a o)
def fG (L : List Tr) (a : Nat) : Bool := !(pt L a).os.isEmpty
theorem falls_eq (L : List Tr) : lostB L = ((List.range L.length).all (fF L) && (List.range L.length).any (fG L)) := by
  rw [Bool.eq_iff_iff, lostB_iff, lost_iff, Bool.and_eq_true, List.all_eq_true, List.any_eq_true, And.comm]
  constructor
  · rintro ⟨h1, M, hM⟩
    refine ⟨fun a ha => ?_, ?_⟩
    · have ha' := List.mem_range.mp ha
      have e : L[a]? = some (pt L a) := by rw [List.getElem?_eq_getElem ha', pt_of (List.getElem?_eq_getElem ha')]
      unfold fF
      rw [List.all_eq_true]
      intro o ho
      have := h1 _ (mv_lat e ho)
      rw [Bool.not_eq_true', ← Bool.not_eq_true, lostB_iff]
      intro z
      exact this ((lost_perm (lat_perm L a o)).mp z)
    · obtain ⟨a, t, o, ea, ho, _⟩ := lat_mv hM
      refine ⟨a, List.mem_range.mpr (List.getElem?_eq_some_iff.mp ea).1, ?_⟩
      unfold fG
      rw [pt_of ea]
      cases h : t.os with
      | nil => rw [h] at ho; cases ho
      | cons _ _ => rfl
  · rintro ⟨h1, a, ha, hg⟩
    refine ⟨fun M hM hl => ?_, ?_⟩
    · obtain ⟨b, t, o, eb, ho, p⟩ := lat_mv hM
      have := h1 b (List.mem_range.mpr (List.getElem?_eq_some_iff.mp eb).1)
      unfold fF at this
      rw [List.all_eq_true, pt_of eb] at this
      have h2 := this o ho
      rw [Bool.not_eq_true', ← Bool.not_eq_true, lostB_iff] at h2
      exact h2 ((lost_perm p).mp hl)
    · have ha' := List.mem_range.mp ha
      have e : L[a]? = some (pt L a) := by rw [List.getElem?_eq_getElem ha', pt_of (List.getElem?_eq_getElem ha')]
      unfold fG at hg
      cases h : (pt L a).os with
      | nil => rw [h] at hg; cases hg
      | cons o _ => exact ⟨_, mv_lat e (o := o) (by rw [h]; exact List.mem_cons_self)⟩
/-- what is known -/
structure KnF (P : Program) (w : World) (Dl : List Tr) (H : Hp) (d : Addr) (m : List Row) : Prop where
  at_ : KnownAt P w H d m
  rows : ∀ x ∈ m, x.2.2 = lostB x.1.os ∧ x.1.os.length ≤ 4 ∧ ∀ t ∈ x.1.os, t ∈ Dl
  nod : (m.map (·.1)).Nodup
theorem KnF.same {P : Program} {w : World} {Dl : List Tr} {H H' : Hp} {d : Addr} {m : List Row} (h : KnF P w Dl H d m) (k : Same H H') : KnF P w Dl H' d m :=
  ⟨⟨k _ _ h.at_.ob, fun x hx => (h.at_.keys x hx).tups (same_tups k), h.at_.low⟩, h.rows, h.nod⟩
theorem KnF.len {P : Program} {w : World} {Dl : List Tr} {H : Hp} {d : Addr} {m : List Row} (h : KnF P w Dl H d m) (hd : Dl.length ≤ 56) : m.length < sizeLine := by
  have h1 := nodup_le h.nod (m := (lists Dl 4).map Tr.nd) fun t ht => by
    obtain ⟨x, hx, rfl⟩ := List.mem_map.mp ht
    obtain ⟨_, b, c⟩ := h.rows x hx
    exact List.mem_map.mpr ⟨x.1.os, mem_lists b c, Tr.eta _⟩
  rw [List.length_map, List.length_map, lists_len] at h1
  have h2 := listsLen_mono hd 4
  have h3 : listsLen 56 4 = 10013305 := by decide
  rw [sizeLine_eq]
  omega
theorem KnF.ndn {P : Program} {w : World} {Dl : List Tr} {H : Hp} {d : Addr} {m : List Row} (h : KnF P w Dl H d m) {a : Addr} {xs : List V} (ha : H a = some (.tup xs)) : a ≠ d := fun z => by
  have := h.at_.ob
  rw [← z, ha] at this
  cases this
/-- closed letters -/
structure Abc (Dl : List Tr) : Prop where
  len : Dl.length ≤ 56
  ht : ∀ t ∈ Dl, t.ht ≤ 4
  sub : ∀ t ∈ Dl, ∀ o ∈ t.os, o ∈ Dl
section
variable {P : Program} {w : World} {K : PySem.W.Frag} {mg : Str → Option Value} {base : Heap}
def spFalls (P : Program) (w : World) (k : Nat) : Sp := fun vs H Q _ => ∃ (d p : Addr) (m : List Row) (L Dl : List Tr), vs = [.ref d, .ref p] ∧ KnF P w Dl H d m ∧ TrAt H (.ref p) (.nd L) ∧ L.length ≤ 4 ∧ Abc Dl ∧ (∀ t ∈ L, t ∈ Dl) ∧ htS L < k ∧
  ∀ m' H', But [d] H H' → KnF P w Dl H' d m' → (∀ x ∈ m', x ∈ m ∨ htS x.1.os ≤ htS L) → Q (.bl (lostB L)) H'
theorem scFalls : FnScope ["_law_known", "_law_parts", "_law_found", "_law_moved", "_law_at", "_law_option", "_law_rest", "_law_later"] ["_law_known", "_law_parts"] (defScope sFalls) := ⟨rfl, rfl, rfl, by decide +kernel, rfl, by decide +kernel, by decide +kernel⟩
theorem cut_pre (xs : List V) {i : Nat} (h : i < xs.length) : cutV xs none (some ((i : Nat) : Int)) = xs.take i := by
  unfold cutV
  rw [HT.sIx_none, HT.sIx_nat, Nat.min_eq_left (Nat.le_of_lt h), Nat.sub_zero, List.drop_zero]
theorem cut_suf (xs : List V) {i : Nat} (h : i < xs.length) : cutV xs (some ((i + 1 : Nat) : Int)) none = xs.drop (i + 1) := by
  unfold cutV
  rw [HT.sIx_none, HT.sIx_nat, Nat.min_eq_left h]
  exact List.take_of_length_le (by rw [List.length_drop]; exact Nat.le_refl _)
theorem TrsAt.mem_ht {H : Hp} {Dl L : List Tr} (a : Abc Dl) (h : ∀ t ∈ L, t ∈ Dl) : (Tr.nd L).ht ≤ 5 := by
  rw [Tr.ht]
  exact Tr.hts_le fun t ht => by have := a.ht t (h t ht); omega
theorem nil_or (t : Tr) : (t = .nd [] ∧ t.os = []) ∨ t.os ≠ [] := by
  cases t with
  | nd l =>
    cases l with
    | nil => exact .inl ⟨rfl, rfl⟩
    | cons _ _ => exact .inr (fun z => nomatch z)
theorem dat_leaf (t : Tr) : (!PyData.eqv (dat t) (.tuple [])) = !decide (t.os = []) := by
  cases t with
  | nd l =>
    rw [dat]
    cases l with
    | nil => rw [dats]; rfl
    | cons a l => rw [dats]; rfl
theorem shaped_tr {t : Tr} (h : t.ht ≤ 30) : SeqAt.shaped (dat t) = true := by
  unfold SeqAt.shaped
  rw [dat_shaped0, dat_depth]
  simp only [Bool.true_and, decide_eq_true_eq]
  omega
theorem same_refl (H : Hp) : Same H H := fun _ _ e => e
def rCatS : R2 := fun x y H Q => ∃ a b xs ys, x = .ref a ∧ y = .ref b ∧ H a = some (.tup xs) ∧ H b = some (.tup ys) ∧ xs.length + ys.length ≤ sizeLine ∧ ∀ p H', Same H H' → H' p = some (.tup (xs ++ ys)) → Q (.ref p) H'
theorem op_catS {X : Cx} : OpR X (binaryOp .Add) rCatS := by
  intro pins s σ H x y v u Q I rx ry h
  obtain ⟨a, b, xs, ys, rfl, rfl, ha, hb, hz, q⟩ := h
  exact op_catA pins s σ H _ _ v u Q I rx ry ⟨a, b, xs, ys, rfl, rfl, SqT.of ha, SqT.of hb, hz, fun e => q b H (same_refl H) (by rw [hb, e]; rfl), fun _ e => q a H (same_refl H) (by rw [ha, e, List.append_nil]), fun _ _ p hp => q p _ (same_new hp) upd_same⟩
def rSlS : V → Option Int → Option Int → Hp → VK → Prop := fun x lo hi H Q => ∃ a xs, x = .ref a ∧ H a = some (.tup xs) ∧ ∀ p H', Same H H' → H' p = some (.tup (cutV xs lo hi)) → Q (.ref p) H'
theorem sl_tupS {X : Cx} : SlR X rSlS := by
  intro pins s σ H x v vl vu lo hi sl Q I rx hs pl pu h
  obtain ⟨a, xs, rfl, hx, q⟩ := h
  refine sl_tupA pins s σ H _ v vl vu lo hi sl Q I rx hs pl pu ⟨a, xs, rfl, SqT.of hx, fun z => q a H (same_refl H) ?_, fun _ p hp => q p _ (same_new hp) upd_same⟩
  rw [hx]
  unfold cutV
  rw [z.1, z.2, List.drop_zero, Nat.sub_zero, List.take_length]
theorem pe_imp {X : Cx} {e : Expr} {t t' : TE} (h : PE X e t) (f : ∀ σ H Q, t' σ H Q → t σ H Q) : PE X e t' := ⟨fun pins s σ H Q I q => h.run pins s σ H Q I (f σ H Q q)⟩
/-- the rest with the option, in order; an option without options is left out -/
def tLater : TE := fun σ H Q => ∃ (o : Tr) (y : V) (r : Addr) (zs : List V) (R : List Tr), σ[5]? = some (some y) ∧ σ[6]? = some (some (.ref r)) ∧ TrAt H y o ∧ H r = some (.tup zs) ∧ TrsAt H zs R ∧ R.length ≤ 3 ∧ (∀ t ∈ R, t.ht ≤ 4) ∧ o.ht ≤ 4 ∧
  ∀ (q : Addr) (H' : Hp) (Lt : List Tr), Same H H' → TrAt H' (.ref q) (.nd Lt) → Lt.length ≤ R.length + 1 → (∀ t ∈ Lt, t ∈ R ∨ t = o) → htS Lt ≤ htS (R ++ [o]) → lostB Lt = lostB (R ++ [o]) → Q (.ref q) H'
def tBoth : TE := fun σ H Q => ∃ a b : Bool, σ[2]? = some (some (.bl a)) ∧ σ[3]? = some (some (.bl b)) ∧ Q (.bl (a && b)) H
theorem both_imp (σ : L2.St) (H : Hp) (Q : VK) (h : tBoth σ H Q) : tAndV (tVar 2) (tVar 3) σ H Q := by
  obtain ⟨a, b, h2, h3, q⟩ := h
  refine ⟨_, h2, a, rfl, ?_⟩
  cases a with
  | true => exact iteT ⟨_, h3, q⟩
  | false => exact iteF q
theorem later_imp (σ : L2.St) (H : Hp) (Q : VK) (h : tLater σ H Q) : tIf (tTest (tOp (rNeD K) (tVar 5) (tTup tNil))) (tCB (fun xs H Q => ∃ p ys, xs = [.ref p] ∧ ((SqL K H p ys ∧ ∀ l, H l = none → Q (.ref l) (upd H l (.tup ys))) ∨ (SqT K H p ys ∧ Q (.ref p) H))) (tCons (tCB (rSortTr K) (tCons (tOp rCatS (tVar 6) (tTup (tCons (tVar 5) tNil))) tNil)) tNil)) (tVar 6) σ H Q := by
  obtain ⟨o, y, r, zs, R, h5, h6, hy, hr, hz, hl, hR, ho, q⟩ := h
  refine ⟨y, h5, Nat.zero_le _, fun e he => ?_⟩
  have S1 : Same H (upd H e (.tup [])) := same_new he
  refine ⟨dat o, .tuple [], (hy.tups (same_tups S1)).dp _ _, .tup (SqT.of upd_same) .nil, shaped_tr (by omega), rfl, _, rfl, ?_⟩
  rw [dat_leaf]
  have hy1 := hy.tups (same_tups S1)
  have hr1 := S1 _ _ hr
  have hz1 := hz.tups (same_tups S1)
  generalize upd H e (.tup []) = H1 at S1 hy1 hr1 hz1
  rcases nil_or o with ⟨rfl, h0⟩ | h0
  · refine iteN (by rw [decide_eq_true h0]; rfl) ?_
    refine ⟨_, h6, q r H1 R S1 (TrAt.nd' hr1 hz1 (n := 3) hl (by decide)) (Nat.le_succ _) (fun t ht => .inl ht) (by rw [htS_app]; omega) ?_⟩
    exact lostB_eqv ((eqv_leaf R).symm.trans (Eqv.of_perm (List.perm_append_comm (l₁ := [Tr.nd []]) (l₂ := R))))
  · refine iteY (by rw [decide_eq_false h0]; rfl) ?_
    refine ⟨_, h6, _, h5, by show 1 ≤ sizeLine; decide, fun t ht => ?_⟩
    have S2 : Same H1 (upd H1 t (.tup [y])) := same_new ht
    refine ⟨r, t, zs, [y], rfl, rfl, S2 _ _ hr1, upd_same, by rw [hz.len, sizeLine_eq]; show R.length + 1 ≤ _; omega, fun p H' S3 hp => ?_⟩
    have T3 := same_tups (S2.trans S3)
    refine ⟨p, _, R ++ [o], rfl, .inr (SqT.of hp), (hz1.tups T3).append (.cons (hy1.tups T3) .nil), fun u hu => ?_, by rw [List.length_append, sizeLine_eq]; show R.length + 1 ≤ _; omega, fun l ys hl' hys => ?_⟩
    · rcases List.mem_append.mp hu with z | z
      · have := hR u z; omega
      · rw [List.mem_singleton.mp z]; omega
    refine ⟨l, ys, rfl, .inl ⟨SqL.of upd_same, fun t2 ht2 => ?_⟩⟩
    have S4 : Same H' (upd (upd H' l (.lst ys)) t2 (.tup ys)) := (same_new hl').trans (same_new ht2)
    have pm := tsort_perm (R ++ [o])
    refine q t2 _ (tsort (R ++ [o])) (((S1.trans S2).trans S3).trans S4) (TrAt.nd' (n := 4) upd_same (hys.tups (same_tups S4)) (by rw [pm.length_eq, List.length_append]; show R.length + 1 ≤ 4; omega) (by decide)) (by rw [pm.length_eq, List.length_append]; exact Nat.le_refl _) (fun u hu => ?_) (Nat.le_of_eq (htS_perm pm)) (lostB_eqv (Eqv.of_perm pm))
    rcases List.mem_append.mp (pm.mem_iff.mp hu) with z | z
    · exact .inl z
    · exact .inr (List.mem_singleton.mp z)
theorem ok_falls {f : Addr} {fd : FuncData} (D : Dfn K mg "_law_falls" sFalls ["_law_known", "_law_parts"] f fd) (B : Blt mg) : ∀ k, FnOk P w K mg base CX0 k f fd ["_law_known", "_law_parts"] (spFalls P w k)
  | 0 => by
    have no : ∀ vs H Q E, ¬ spFalls P w 0 vs H Q E := fun vs H Q E ⟨d, p, m, L, Dl, _, _, _, _, _, _, h, _⟩ => Nat.not_lt_zero _ h
    exact ⟨fun vs H Q E h => absurd h (no vs H Q E), fun A outer s H args us vs Q E _ _ _ _ h => absurd h (no vs H Q E)⟩
  | k + 1 => by
    have G := ok_falls D B k
    refine D.F.ok scFalls (fun vs H Q E h => ?_) (fun cdv A outer s H vs Q E hr h => ?_)
    · obtain ⟨d, p, m, L, Dl, rfl, _⟩ := h
      rfl
    obtain ⟨d, p, m, L, Dl, rfl, hK, hp, h4, abc, hL, hk, q⟩ := h
    have nd := scFalls.nd
    have hu := hr.units
    refine ⟨_, pss_cons (ps_if (pt_cmp (pc_notInN hu (pv 1) (pv 0)))
        (pss_cons (ps_asg (pe_tup (pa_cons pe_bl (pa_cons pe_bl pa_nil))) (pg_tup rfl (pgs_cons (pg_name (i := 2) nd rfl (.inl rfl)) (pgs_cons (pg_name (i := 3) nd rfl (.inl rfl)) pgs_nil))))
        (pss_cons (ps_for PassesOwn.never rfl (pi_range1 rfl B.range (pa_cons (pe_callB call_len_seq (by rfl) B.len PySem.boot_len (pa_cons (pv 1) pa_nil)) pa_nil)) (pg_name (i := 4) nd rfl (.inl rfl))
          (pss_one (ps_for PassesOwn.never rfl (pi_tup (pe_ix ix_tup (pv 1) (pv 4) (fun _ _ => rfl))) (pg_name (i := 5) nd rfl (.inl rfl))
            (pss_cons (ps_set (i := 3) nd rfl (.inl rfl) pe_bl)
            (pss_cons (ps_set (i := 6) nd rfl (.inl rfl) (pe_op op_catS (pe_slice sl_tupS (pv 1) po_none (po_some (pv 4))) (pe_slice sl_tupS (pv 1) (po_some (pe_op op_add (pv 4) pe_int)) po_none)))
            (pss_cons (ps_set (i := 7) nd rfl (.inl rfl) (pe_imp (t' := tLater) (pe_ifExp (pt_cmpR (op_neD hu) (pv 5) (pe_tup pa_nil) (nomark _))
                (pe_callTy call_tuple_of (by rfl) B.tuple (by decide +kernel) (pa_cons (pe_callB (cr_sortTr hu) (by rfl) B.sorted (by decide +kernel) (pa_cons (pe_op op_catS (pv 6) (pe_tup (pa_cons (pv 5) pa_nil))) pa_nil)) pa_nil)) (pv 6)) (later_imp (K := K))))
            (pss_one (ps_if (pw_and (pt_val (pv 2)) (pw_and1 (pt_val (pe_call G hr (by rfl) D.m D.F.kp D.b .nil pass0 (pa_cons (pv 0) (pa_cons (pv 7) pa_nil)))))).pt
              (pss_one (ps_set (i := 2) nd rfl (.inl rfl) pe_bl)) pss_nil))))))))
        (pss_one (ps_putN hu (pv 0) (pv 1) (pe_imp (t' := tBoth) (pe_and (pv 2) (pe_one (pv 3))) both_imp) rfl)))) pss_nil)
      (pss_one (ps_ret (pe_getN hu (pv 0) (pv 1) (fun _ _ => rfl)))), ?_⟩
    have hh5 : (Tr.nd L).ht ≤ 5 := TrsAt.mem_ht (H := H) abc hL
    obtain ⟨xs, hpx, hxs, hx1⟩ := hp.tup
    have hxl : xs.length = L.length := hxs.len
    refine ⟨_, rfl, _, rfl, d, p, m, .nd L, rfl, rfl, hK.at_, hp, by omega, _, rfl, ?_⟩
    cases hlk : lookN m (.nd L) with
    | some r =>
      refine iteN rfl ?_
      obtain ⟨r1, r2⟩ := lookN_some hlk
      obtain ⟨r3, _, _⟩ := hK.rows r r1
      refine ⟨_, rfl, _, rfl, d, p, m, .nd L, r, rfl, rfl, hK.at_, hp, by omega, hlk, ?_⟩
      rw [r3, r2]
      exact q m H (But.refl H) hK fun x hx => .inl hx
    | none =>
    refine iteY rfl ?_
    have hnm := lookN_none hlk
    refine ⟨by show 2 ≤ sizeLine; decide, fun t ht => ⟨t, _, rfl, SqT.of upd_same, rfl, _, _, rfl, _, _, rfl, rfl, ?_⟩⟩
    have S1 : Same H (upd H t (.tup [.bl true, .bl false])) := same_new ht
    generalize upd H t (.tup [.bl true, .bl false]) = H1 at S1
    have hdp : p ≠ d := hK.ndn hpx
    have hK1 := hK.same S1
    have hpx1 : H1 p = some (.tup xs) := S1 _ _ hpx
    refine ⟨_, rfl, p, xs, rfl, .inr (SqT.of hpx1), (L.length : Int), by rw [hxl], by omega, by omega, ?_⟩
    have en : ((L.length : Nat) : Int).toNat = L.length := by omega
    rw [en]
    refine for_range (n := L.length) (fun i σ H' => ∃ (v4 v5 v6 v7 : Option V) (m' : List Row), σ = [some (.ref d), some (.ref p), some (.bl ((List.range i).all (fF L))), some (.bl ((List.range i).any (fG L))), v4, v5, v6, v7] ∧ But [d] H1 H' ∧ KnF P w Dl H' d m' ∧ ∀ x ∈ m', x ∈ m ∨ htS x.1.os < htS L)
      ⟨none, none, none, none, m, rfl, But.refl H1, hK1, fun x hx => .inl hx⟩ ?_ ?_
    · rintro i σ H2 hi ⟨v4, v5, v6, v7, m2, rfl, B2, K2, N2⟩
      have hix : i < xs.length := by omega
      have hpx2 : H2 p = some (.tup xs) := B2 _ _ hpx1 (by simpa using hdp)
      have tup2 : Tups H1 H2 := fun a ys e => B2 _ _ e (by simpa using hK1.ndn e)
      have hxs2 : TrsAt H2 xs L := (hxs.tups (same_tups S1)).tups tup2
      obtain ⟨u, hu1, hu2⟩ := hxs2.get (List.getElem?_eq_getElem hix)
      obtain ⟨b, hb⟩ := hu2.ref
      rw [hb] at hu2
      obtain ⟨ys, hbx, hys, _⟩ := hu2.tup
      have huD := hL u (List.mem_of_getElem? hu1)
      have hat : atI xs (0 + ((i : Nat) : Int)) = some (.ref b) := by
        rw [Int.zero_add, ← hb]
        exact atI_nat (List.getElem?_eq_getElem hix)
      have hbd : b ≠ d := K2.ndn hbx
      refine ⟨_, rfl, _, rfl, p, xs, _, _, rfl, rfl, SqT.of hpx2, hat, b, rfl, ⟨_, SqT.of hbx⟩, for_tup (K := K) (a := b) (xs := ys) (fun j σ H' => ∃ (v5 v6 v7 : Option V) (m' : List Row), σ = [some (.ref d), some (.ref p), some (.bl ((List.range i).all (fF L) && (u.os.take j).all fun o => !lostB (lat L i o))), some (.bl ((List.range i).any (fG L) || decide (0 < j))), some (.int (0 + ((i : Nat) : Int))), v5, v6, v7] ∧ But [d] H2 H' ∧ KnF P w Dl H' d m' ∧ ∀ x ∈ m', x ∈ m ∨ htS x.1.os < htS L)
        ⟨v5, v6, v7, m2, by rw [List.take_zero, List.all_nil, Bool.and_true, decide_eq_false (Nat.lt_irrefl 0), Bool.or_false]; rfl, But.refl H2, K2, N2⟩ (fun j σ H' _ ⟨_, _, _, _, _, z, _⟩ => SqT.of (z _ _ hbx (by simpa using hbd))) ?_ ?_⟩
      · rintro j y σ H3 hj ⟨v5, v6, v7, m3, rfl, B3, K3, N3⟩
        obtain ⟨o, ho1, hy⟩ := hys.get hj
        have hou := List.mem_of_getElem? ho1
        have hoD := abc.sub u huD o hou
        have hpx3 : H3 p = some (.tup xs) := B3 _ _ hpx2 (by simpa using hdp)
        have tup3 : Tups H2 H3 := fun a zs e => B3 _ _ e (by simpa using K2.ndn e)
        have hxs3 := hxs2.tups tup3
        have hy3 := hy.tups tup3
        obtain ⟨hl1, hl2⟩ := lat_ht hu1 hou
        have hiL : i < L.length := hi
        have fin : ∀ (v6 v7 : Option V) (H' : Hp) (m' : List Row) (fb : Bool), fb = ((List.range i).all (fF L) && (u.os.take (j + 1)).all fun o => !lostB (lat L i o)) → But [d] H2 H' → KnF P w Dl H' d m' → (∀ x ∈ m', x ∈ m ∨ htS x.1.os < htS L) →
            ∃ (w5 w6 w7 : Option V) (m' : List Row), [some (V.ref d), some (V.ref p), some (V.bl fb), some (V.bl true), some (V.int (0 + ((i : Nat) : Int))), some y, v6, v7] = [some (V.ref d), some (V.ref p), some (V.bl ((List.range i).all (fF L) && (u.os.take (j + 1)).all fun o => !lostB (lat L i o))), some (V.bl ((List.range i).any (fG L) || decide (0 < j + 1))), some (V.int (0 + ((i : Nat) : Int))), w5, w6, w7] ∧ But [d] H2 H' ∧ KnF P w Dl H' d m' ∧ ∀ x ∈ m', x ∈ m ∨ htS x.1.os < htS L := fun v6 v7 H' m' fb e b kn nw => by
          refine ⟨some y, v6, v7, m', ?_, b, kn, nw⟩
          rw [e, decide_eq_true (Nat.succ_pos j), Bool.or_true]
        have estep : (u.os.take (j + 1)).all (fun o => !lostB (lat L i o)) = ((u.os.take j).all (fun o => !lostB (lat L i o)) && !lostB (lat L i o)) := by
          rw [List.take_succ, ho1, List.all_append]
          show (_ && ((!lostB (lat L i o)) && true)) = _
          rw [Bool.and_true]
        refine ⟨_, rfl, _, rfl, _, rfl, p, xs, rfl, hpx3, fun p1 H4 S4 hp1 => ?_⟩
        refine ⟨_, rfl, _, rfl, _, _, rfl, rfl, _, rfl, p, xs, rfl, S4 _ _ hpx3, fun p2 H5 S5 hp2 => ?_⟩
        have ec1 : cutV xs none (some (0 + ((i : Nat) : Int))) = xs.take i := by rw [Int.zero_add]; exact cut_pre xs hix
        have ec2 : cutV xs (some (0 + ((i : Nat) : Int) + 1)) none = xs.drop (i + 1) := by
          have e : 0 + ((i : Nat) : Int) + 1 = ((i + 1 : Nat) : Int) := by omega
          rw [e]
          exact cut_suf xs hix
        rw [ec1] at hp1
        have hp2' : H5 p2 = some (.tup (xs.drop (i + 1))) := by rw [← ec2]; exact hp2
        refine ⟨p1, p2, _, _, rfl, rfl, S5 _ _ hp1, hp2', by rw [List.length_take, List.length_drop, sizeLine_eq]; omega, fun r H6 S6 hr6 => ?_⟩
        have S36 := (S4.trans S5).trans S6
        have hrst : TrsAt H6 (xs.take i ++ xs.drop (i + 1)) (rst L i) := ((hxs3.take i).append (hxs3.drop (i + 1))).tups (same_tups S36)
        have hrl := rst_len (L := L) hiL
        refine ⟨o, y, r, _, rst L i, rfl, rfl, hy3.tups (same_tups S36), hr6, hrst, by omega, fun t ht => abc.ht t (hL t (rst_sub ht)), abc.ht o hoD, fun l H7 Lt S7 hlt hll hlm hlh hlo => ?_⟩
        have S37 := S36.trans S7
        have K7 := K3.same S37
        have B7 : But [d] H2 H7 := B3.trans (But.of_same S37)
        have hlo' : lostB Lt = lostB (lat L i o) := hlo
        have hLt : ∀ t ∈ Lt, t ∈ Dl := fun t ht => by
          rcases hlm t ht with z | z
          · exact hL t (rst_sub z)
          · rw [z]; exact hoD
        have hhs : htS Lt < htS L := Nat.lt_of_le_of_lt hlh hl1
        refine ⟨_, rfl, _, rfl, ?_⟩
        cases cf : ((List.range i).all (fF L) && (u.os.take j).all fun o => !lostB (lat L i o)) with
        | false =>
          refine iteN rfl (iteF ?_)
          exact fin _ _ H7 m3 _ (by rw [estep, ← Bool.and_assoc, cf]; rfl) B7 K7 N3
        | true =>
          refine iteY rfl ?_
          refine ⟨_, rfl, _, rfl, d, l, m3, Lt, Dl, rfl, K7, hlt, by omega, abc, hLt, by omega, fun m8 H8 B8 K8 N8 => ⟨_, rfl, ?_⟩⟩
          have N8' : ∀ x ∈ m8, x ∈ m ∨ htS x.1.os < htS L := fun x hx => by
            rcases N8 x hx with z | z
            · exact N3 x z
            · exact .inr (Nat.lt_of_le_of_lt z hhs)
          rw [hlo']
          cases cl : lostB (lat L i o) with
          | true =>
            refine iteT ?_
            exact fin _ _ H8 m8 false (by rw [estep, cl, ← Bool.and_assoc, cf]; rfl) (B7.trans B8) K8 N8'
          | false =>
            refine iteF ?_
            exact fin _ _ H8 m8 true (by rw [estep, cl, ← Bool.and_assoc, cf]; rfl) (B7.trans B8) K8 N8'
      · rintro σ H3 ⟨v5, v6, v7, m3, rfl, B3, K3, N3⟩
        have eu : pt L i = u := pt_of hu1
        refine ⟨some (.int (0 + ((i : Nat) : Int))), v5, v6, v7, m3, ?_, B2.trans B3, K3, N3⟩
        have e1 : (List.range (i + 1)).all (fF L) = ((List.range i).all (fF L) && (u.os.take ys.length).all fun o => !lostB (lat L i o)) := by
          rw [List.range_succ, List.all_append, hys.len, List.take_length]
          show (_ && (fF L i && true)) = _
          rw [Bool.and_true]
          unfold fF
          rw [eu]
        have e2 : (List.range (i + 1)).any (fG L) = ((List.range i).any (fG L) || decide (0 < ys.length)) := by
          rw [List.range_succ, List.any_append, hys.len]
          show (_ || (fG L i || false)) = _
          rw [Bool.or_false]
          unfold fG
          rw [eu]
          cases u.os with
          | nil => rfl
          | cons _ _ => rfl
        rw [e1, e2]
    · rintro σ H2 ⟨v4, v5, v6, v7, m2, rfl, B2, K2, N2⟩
      have hpx2 : H2 p = some (.tup xs) := B2 _ _ hpx1 (by simpa using hdp)
      have tup2 : Tups H1 H2 := fun a ys e => B2 _ _ e (by simpa using hK1.ndn e)
      have hp2 : TrAt H2 (.ref p) (.nd L) := (hp.tups (same_tups S1)).tups tup2
      have hno : lookN m2 (.nd L) = none := by
        cases z : lookN m2 (.nd L) with
        | none => rfl
        | some r =>
          obtain ⟨r1, r2⟩ := lookN_some z
          rcases N2 r r1 with y | y
          · exact absurd (List.mem_map.mpr ⟨r, y, r2⟩) hnm
          · rw [r2] at y
            exact absurd y (Nat.lt_irrefl _)
      have hno2 := lookN_none hno
      refine ⟨_, _, rfl, rfl, _, rfl, _, rfl, d, p, m2, .nd L, _, rfl, rfl, rfl, K2.at_, hp2, by omega, hno, K2.len abc.len, fun KA => ?_⟩
      rw [← falls_eq] at KA ⊢
      have KN : KnF P w Dl (upd H2 d (DNO P w d (m2 ++ [(Tr.nd L, p, lostB L)]))) d (m2 ++ [(Tr.nd L, p, lostB L)]) := by
        refine ⟨KA, fun x hx => ?_, ?_⟩
        · rcases List.mem_append.mp hx with z | z
          · exact K2.rows x z
          · rw [List.mem_singleton.mp z]
            exact ⟨rfl, h4, hL⟩
        · rw [List.map_append]
          refine List.nodup_append.mpr ⟨K2.nod, List.nodup_cons.mpr ⟨by simp, List.nodup_nil⟩, fun a ha b hb e => ?_⟩
          have hb' : b = Tr.nd L := by simpa using hb
          exact hno2 (by rw [← hb', ← e]; exact ha)
      have hfd : ∃ r, lookN (m2 ++ [(Tr.nd L, p, lostB L)]) (.nd L) = some r := by
        cases z : lookN (m2 ++ [(Tr.nd L, p, lostB L)]) (.nd L) with
        | some r => exact ⟨r, rfl⟩
        | none => exact absurd (List.mem_map.mpr ⟨(Tr.nd L, p, lostB L), List.mem_append_right _ (List.mem_singleton.mpr rfl), rfl⟩) (lookN_none z)
      obtain ⟨r, hr1⟩ := hfd
      obtain ⟨r1, r2⟩ := lookN_some hr1
      obtain ⟨r3, _, _⟩ := KN.rows r r1
      have T5 : Tups H2 (upd H2 d (DNO P w d (m2 ++ [(Tr.nd L, p, lostB L)]))) := tups_upd fun ys z => by rw [K2.at_.ob] at z; cases z
      refine ⟨_, rfl, _, rfl, d, p, _, .nd L, r, rfl, rfl, KA, hp2.tups T5, by omega, hr1, ?_⟩
      rw [r3, r2]
      refine q _ _ (((But.of_same S1).trans B2).put (by simp)) KN fun x hx => ?_
      rcases List.mem_append.mp hx with z | z
      · exact (N2 x z).imp id Nat.le_of_lt
      · rw [List.mem_singleton.mp z]
        exact .inr (Nat.le_refl _)
end
end K59
end

section
set_option Elab.async false
set_option linter.all false
set_option maxRecDepth 100000
set_option maxHeartbeats 8000000
/-! _law_lost, law. -/
namespace K59
open PySem L2 PyProof.Rows
theorem subs_ht {u : Tr} : ∀ (n : Nat) (t : Tr), t.nn ≤ n → u ∈ subs t → u.ht ≤ t.ht
  | 0, t, h, _ => absurd h (by have := t.nn_pos; omega)
  | n + 1, .nd l, h, hu => by
    rw [subs] at hu
    rcases List.mem_cons.mp hu with e | hu
    · rw [e]; exact Nat.le_refl _
    · obtain ⟨t, ht, hu⟩ := mem_subsAll.mp hu
      have h1 : t.nn < (Tr.nd l).nn := Tr.nn_os (t := .nd l) ht
      have h2 : t.ht + 1 ≤ (Tr.nd l).ht := Tr.ht_os (t := .nd l) ht
      have := subs_ht n t (by omega) hu
      omega
theorem abc_of {ts : List Tr} (h1 : ∀ t ∈ ts, t.ht ≤ 4 ∧ t.nn ≤ 14) (h2 : ts.length ≤ 4) : Abc (subsAll ts) := by
  refine ⟨?_, fun u hu => ?_, fun u hu o ho => subsAll_step hu ho⟩
  · rw [subsAll_len]
    have g : ∀ l : List Tr, (∀ t ∈ l, t.nn ≤ 14) → Tr.nns l ≤ l.length * 14 := by
      intro l
      induction l with
      | nil => intro _; exact Nat.zero_le _
      | cons t l ih =>
        intro h
        have a := h t List.mem_cons_self
        have b := ih fun u hu => h u (List.mem_cons_of_mem _ hu)
        rw [Tr.nns, List.length_cons, Nat.succ_mul]
        omega
    have := g ts fun t ht => (h1 t ht).2
    have : ts.length * 14 ≤ 4 * 14 := Nat.mul_le_mul_right _ h2
    omega
  · obtain ⟨t, ht, hu⟩ := mem_subsAll.mp hu
    have := subs_ht _ t (Nat.le_refl _) hu
    have := (h1 t ht).1
    omega
def live (ts : List Tr) : List Tr := ts.filter fun t => !decide (t.os = [])
theorem live_eqv : ∀ ts : List Tr, Eqv (live ts) ts
  | [] => Eqv.refl _
  | t :: ts => by
    have ih := live_eqv ts
    rcases nil_or t with ⟨rfl, h0⟩ | h0
    · have e : live (Tr.nd [] :: ts) = live ts := by
        unfold live
        rw [List.filter_cons_of_neg (by simp [Tr.os])]
      rw [e]
      exact ih.trans (eqv_leaf ts).symm
    · have e : live (t :: ts) = t :: live ts := by
        unfold live
        rw [List.filter_cons_of_pos (by simpa using h0)]
      rw [e]
      exact ih.left [t]
theorem htS_le (n : Nat) : ∀ l : List Tr, (∀ t ∈ l, t.ht ≤ n) → htS l ≤ l.length * n
  | [], _ => Nat.zero_le _
  | t :: l, h => by
    have a := h t List.mem_cons_self
    have b := htS_le n l fun u hu => h u (List.mem_cons_of_mem _ hu)
    have e : htS (t :: l) = t.ht + htS l := by unfold htS; rw [List.map_cons, List.sum_cons]
    rw [e, List.length_cons, Nat.succ_mul]
    omega
/-- what is due of heaps -/
theorem due_of (ss : List Nat) (m : Int) (hl : ss.length ≤ 4) (hm : m ∈ (0 : Int) :: ss.map fun k => ((k : Nat) : Int)) (hle : ∀ y ∈ (0 : Int) :: ss.map (fun k => ((k : Nat) : Int)), y ≤ m) :
    (if m > 1 then decide (ss.foldl (· ^^^ ·) 0 = 0) else decide ((ss.map fun k => ((k : Nat) : Int)).sum % 2 = 1)) = due4 (ss.getD 0 0) (ss.getD 1 0) (ss.getD 2 0) (ss.getD 3 0) := by
  have hge : ∀ k ∈ ss, ((k : Nat) : Int) ≤ m := fun k hk => hle _ (List.mem_cons_of_mem _ (List.mem_map_of_mem (f := fun k => ((k : Nat) : Int)) hk))
  have hm' : m = 0 ∨ ∃ k ∈ ss, m = ((k : Nat) : Int) := by
    rcases List.mem_cons.mp hm with e | e
    · exact .inl e
    · obtain ⟨k, hk, e⟩ := List.mem_map.mp e
      exact .inr ⟨k, hk, e.symm⟩
  have key : ∀ a b c d : Nat, (m > 1 ↔ max (max a b) (max c d) > 1) → (ss.foldl (· ^^^ ·) 0 = a ^^^ b ^^^ c ^^^ d) → ((ss.map fun k => ((k : Nat) : Int)).sum = ((a + b + c + d : Nat) : Int)) →
      (if m > 1 then decide (ss.foldl (· ^^^ ·) 0 = 0) else decide ((ss.map fun k => ((k : Nat) : Int)).sum % 2 = 1)) = due4 a b c d := fun a b c d h1 h2 h3 => by
    unfold due4
    by_cases h : m > 1
    · rw [if_pos h, if_pos (h1.mp h), h2, Bool.eq_iff_iff, decide_eq_true_eq, beq_iff_eq]
    · rw [if_neg h, if_neg fun z => h (h1.mpr z), h3, Bool.eq_iff_iff, decide_eq_true_eq, beq_iff_eq]
      omega
  match ss, hl with
  | [], _ =>
    refine key 0 0 0 0 ?_ rfl rfl
    rcases hm' with e | ⟨k, hk, _⟩
    · constructor
      · intro z; omega
      · intro z; simp at z
    · cases hk
  | [a], _ =>
    refine key a 0 0 0 ?_ (by simp) (by simp)
    have := hge a (by simp)
    rcases hm' with e | ⟨k, hk, e⟩
    · constructor <;> intro z <;> omega
    · simp at hk; subst hk; constructor <;> intro z <;> omega
  | [a, b], _ =>
    refine key a b 0 0 ?_ (by simp) (by simp)
    have := hge a (by simp)
    have := hge b (by simp)
    rcases hm' with e | ⟨k, hk, e⟩
    · constructor <;> intro z <;> omega
    · simp at hk; rcases hk with rfl | rfl <;> constructor <;> intro z <;> omega
  | [a, b, c], _ =>
    refine key a b c 0 ?_ (by simp) (by simp; omega)
    have := hge a (by simp)
    have := hge b (by simp)
    have := hge c (by simp)
    rcases hm' with e | ⟨k, hk, e⟩
    · constructor <;> intro z <;> omega
    · simp at hk; rcases hk with rfl | rfl | rfl <;> constructor <;> intro z <;> omega
  | [a, b, c, d], _ =>
    refine key a b c d ?_ (by simp) (by simp; omega)
    have := hge a (by simp)
    have := hge b (by simp)
    have := hge c (by simp)
    have := hge d (by simp)
    rcases hm' with e | ⟨k, hk, e⟩
    · constructor <;> intro z <;> omega
    · simp at hk; rcases hk with rfl | rfl | rfl | rfl <;> constructor <;> intro z <;> omega
  | _ :: _ :: _ :: _ :: _ :: _, h => exact absurd h (by simp)
section
variable {P : Program} {w : World} {K : PySem.W.Frag} {mg : Str → Option Value} {base : Heap}
def spLost (P : Program) (w : World) : Sp := fun vs H Q _ => ∃ (d a : Addr) (xs : List V) (ts : List Tr), vs = [.ref d, .ref a] ∧ H d = some (DNO P w d []) ∧ H a = some (.tup xs) ∧ TrsAt H xs ts ∧ ts.length ≤ 4 ∧ (∀ t ∈ ts, t.ht ≤ 4 ∧ t.nn ≤ 14) ∧ ∀ H', But [d] H H' → Q (.bl (lostB ts)) H'
theorem scLost : FnScope ["_law_known", "_law_trees", "_law_tree"] ["_law_known", "_law_trees"] (defScope sLost) := ⟨rfl, rfl, rfl, by decide +kernel, rfl, by decide +kernel, by decide +kernel⟩
theorem ok_lost {f g : Addr} {fd gd : FuncData} (F : Fun K "_law_lost" "_law_lost" sLost f fd) (B : Blt mg) (D : Dfn K mg "_law_falls" sFalls ["_law_known", "_law_parts"] g gd) : FnOk P w K mg base CX0 18 f fd ["_law_known", "_law_trees"] (spLost P w) := by
  have G : FnOk P w K mg base CX0 17 g gd ["_law_known", "_law_parts"] (spFalls P w 17) := ok_falls D B 17
  refine F.ok scLost (fun vs H Q E h => ?_) (fun cdv A outer s H vs Q E hr h => ?_)
  · obtain ⟨d, a, xs, ts, rfl, _⟩ := h
    rfl
  obtain ⟨d, a, xs, ts, rfl, hd, ha, hxs, h4, hall, q⟩ := h
  have nd := scLost.nd
  have hu := hr.units
  refine ⟨_, pss_one (ps_ret (pe_call G hr (by rfl) D.m D.F.kp D.b .nil pass0 (pa_cons (pv 0) (pa_cons (pe_callTy call_tuple_of (by rfl) B.tuple (by decide +kernel) (pa_cons (pe_callB (cr_sortTr hu) (by rfl) B.sorted (by decide +kernel) (pa_cons
      (pe_lc (own := [("_law_tree", 2)]) (g := gName 2) (tt := tTest (tOp (rNeD K) (tVar 2) (tTup tNil))) rfl nd (pi_tup (pv 1)) (blkOk_by (N := ["_law_known", "_law_trees", "_law_tree"]) (sc := defScope sLost) (by decide +kernel)) (fun _ _ _ _ _ => pg_name (i := 2) nd rfl (.inl rfl))
        (fun _ _ _ _ _ => pts_one (pt_cmpR (r := rNeD K) (op_neD hu) (pv 2) (pe_tup pa_nil) (nomark _)))
        (fun _ _ _ _ _ => pv 2)) pa_nil)) pa_nil)) pa_nil)))), ?_⟩
  refine ⟨_, rfl, _, rfl, a, rfl, ⟨_, SqT.of ha⟩, fun D1 hD1 => lc_tup (K := K) (a := a) (xs := xs) (fun i H' => Same H H' ∧ ∃ ys : List V, H' D1 = some (.lst ys) ∧ TrsAt H' ys (live (ts.take i))) ⟨same_new hD1, [], upd_same, .nil⟩ (fun i H' _ z => SqT.of (z.1 _ _ ha)) ?_ ?_⟩
  · rintro i x H' hi ⟨S1, ys, hDy, hys⟩
    obtain ⟨t, ht, hx⟩ := hxs.get hi
    have htm := List.mem_of_getElem? ht
    have hi1 := (List.getElem?_eq_some_iff.mp ht).1
    obtain ⟨a1, a2⟩ := hall t htm
    have e : ts.take (i + 1) = ts.take i ++ [t] := by rw [List.take_succ, ht]; rfl
    have el : live (ts.take (i + 1)) = live (ts.take i) ++ live [t] := by rw [e]; unfold live; rw [List.filter_append]
    refine ⟨rfl, _, rfl, Nat.zero_le _, fun u hu' => ?_⟩
    have S2 : Same H' (upd H' u (.tup [])) := same_new hu'
    refine ⟨dat t, .tuple [], (hx.tups (same_tups (S1.trans S2))).dp _ _, .tup (SqT.of upd_same) .nil, shaped_tr (by omega), rfl, _, rfl, ?_⟩
    rw [dat_leaf]
    have hDy2 := S2 _ _ hDy
    have hys2 := hys.tups (same_tups S2)
    have S12 := S1.trans S2
    generalize upd H' u (.tup []) = H2 at S12 S2 hDy2 hys2
    by_cases h0 : t.os = []
    · refine iteN (by rw [decide_eq_true h0]; rfl) ?_
      refine ⟨S12, ys, hDy2, ?_⟩
      rw [el]
      have : live [t] = [] := by unfold live; rw [List.filter_cons_of_neg (by simpa using h0)]; rfl
      rw [this, List.append_nil]
      exact hys2
    · refine iteY (by rw [decide_eq_false h0]; rfl) ?_
      have ll : (live (ts.take i)).length ≤ i := Nat.le_trans (List.length_filter_le _ _) (by rw [List.length_take]; omega)
      have T3 : Tups H2 (upd H2 D1 (.lst (ys ++ [x]))) := tups_upd fun zs z => by rw [hDy2] at z; cases z
      refine ⟨_, rfl, ys, hDy2, by rw [hys2.len, sizeLine_eq]; omega, (But.own (S := []) (But.of_same S12) hD1).same, ys ++ [x], upd_same, ?_⟩
      rw [el]
      have : live [t] = [t] := by unfold live; rw [List.filter_cons_of_pos (by simpa using h0)]; rfl
      rw [this]
      exact (hys2.tups T3).append (.cons ((hx.tups (same_tups S12)).tups T3) .nil)
  · rintro H' ⟨S1, ys, hDy, hys⟩
    have e : ts.take xs.length = ts := List.take_of_length_le (by rw [hxs.len]; exact Nat.le_refl _)
    rw [e] at hys
    have hsub : ∀ t ∈ live ts, t ∈ ts := fun t ht => (List.mem_filter.mp ht).1
    have hll : (live ts).length ≤ 4 := Nat.le_trans (List.length_filter_le _ _) h4
    refine ⟨D1, ys, live ts, rfl, .inl (SqL.of hDy), hys, fun t ht => by have := (hall t (hsub t ht)).1; omega, by rw [sizeLine_eq]; omega, fun l zs hl hzs => ?_⟩
    refine ⟨l, zs, rfl, .inl ⟨SqL.of upd_same, fun t2 ht2 => ?_⟩⟩
    have S2 : Same H' (upd (upd H' l (.lst zs)) t2 (.tup zs)) := (same_new hl).trans (same_new ht2)
    have ht2s : upd (upd H' l (.lst zs)) t2 (.tup zs) t2 = some (.tup zs) := upd_same
    have hzs2 := hzs.tups (same_tups S2)
    have S12 := S1.trans S2
    generalize upd (upd H' l (.lst zs)) t2 (.tup zs) = H2 at S12 ht2s hzs2
    have pm := tsort_perm (live ts)
    have hmem : ∀ t ∈ tsort (live ts), t ∈ ts := fun t ht => hsub t (pm.mem_iff.mp ht)
    have K0 : KnF P w (subsAll ts) H2 d [] := ⟨⟨S12 _ _ hd, fun x hx => (by cases hx), fun x hx => (by cases hx)⟩, fun x hx => (by cases hx), List.nodup_nil⟩
    have hs := htS_le 4 (tsort (live ts)) fun t ht => (hall t (hmem t ht)).1
    have hl4 : (tsort (live ts)).length ≤ 4 := by rw [pm.length_eq]; exact hll
    have : (tsort (live ts)).length * 4 ≤ 4 * 4 := Nat.mul_le_mul_right _ hl4
    refine ⟨d, t2, [], tsort (live ts), subsAll ts, rfl, K0, TrAt.nd' (n := 4) ht2s hzs2 hl4 (by decide), hl4, abc_of hall h4, fun t ht => mem_subsAll.mpr ⟨t, hmem t ht, subs_self t⟩, by omega, fun m' H3 B3 K3 N3 => ?_⟩
    have ee : lostB (tsort (live ts)) = lostB ts := lostB_eqv ((Eqv.of_perm pm).trans (live_eqv ts))
    rw [ee]
    exact q H3 ((But.of_same S12).trans B3)
end
end K59
end

section
set_option Elab.async false
set_option linter.all false
set_option maxRecDepth 100000
set_option maxHeartbeats 8000000
/-! law. -/
namespace K59
open PySem L2 PyProof.Rows
theorem xor_fold {ss : List Nat} (h : ∀ n ∈ ss, n < 6) (i : Nat) : (ss.take i).foldl (· ^^^ ·) 0 < 8 := by
  have g : ∀ (l : List Nat) (a : Nat), a < 8 → (∀ n ∈ l, n < 6) → l.foldl (· ^^^ ·) a < 8 := by
    intro l
    induction l with
    | nil => intro a ha _; exact ha
    | cons x l ih =>
      intro a ha hl
      have hx : x < 2 ^ 3 := Nat.lt_trans (hl x List.mem_cons_self) (by decide)
      have ha' : a < 2 ^ 3 := ha
      exact ih (a ^^^ x) (Nat.xor_lt_two_pow ha' hx) fun n hn => hl n (List.mem_cons_of_mem _ hn)
  exact g _ 0 (by decide) fun n hn => h n (List.mem_of_mem_take hn)
section
variable {P : Program} {w : World} {K : PySem.W.Frag} {mg : Str → Option Value} {base : Heap}
variable {C fI fP fF fM fR fA fH fN fT fO fW : Addr} {dI dP dF dM dR dA dH dN dT dO dW : FuncData}
/-- the law's helpers -/
structure Hlp (K : PySem.W.Frag) (mg : Str → Option Value) (a1 a2 a3 a4 a5 a6 a7 a8 a9 b1 b2 b3 b4 b5 b6 b7 : Addr) (d1 d2 d3 d4 d5 d6 d7 d8 d9 e1 e2 e3 e4 e5 e6 e7 : FuncData) : Prop where
  taken : Dfn K mg "_law_taken" sTaken ["_law_row", "_law_many"] a1 d1
  is : Dfn K mg "_law_is" sLawIs ["_law_found", "_law_due"] a2 d2
  xor : Dfn K mg "_law_xor" sXor ["_law_one", "_law_other"] a3 d3
  falls : Dfn K mg "_law_falls" sFalls ["_law_known", "_law_parts"] a4 d4
  lost : Dfn K mg "_law_lost" sLost ["_law_known", "_law_trees"] a5 d5
  pile : Dfn K mg "_law_pile" sPile ["_law_size"] a6 d6
  twig : Dfn K mg "_law_twig" sTwig ["_law_row", "_law_deep"] a7 d7
  leaves : Dfn K mg "_law_leaves" sLeaves ["_law_tree"] a8 d8
  bush : Dfn K mg "_law_bush" sBush ["_law_row", "_law_deep", "_law_most"] a9 d9
  isInt : Dfn K mg "is_int" sIsInt ["value"] b1 e1
  isIn : Dfn K mg "is_in" sIsIn ["value", "least", "most"] b2 e2
  need : Dfn K mg "need_number" sNeed ["value", "least", "most"] b3 e3
  isTree : Dfn K mg "is_tree" sIsTree ["value"] b4 e4
  isAsc : Dfn K mg "is_ascending" sIsAsc ["tree"] b5 e5
  heapTree : Dfn K mg "heap_tree" sHeapTree ["size"] b6 e6
  isLost : Dfn K mg "is_lost" sIsLost ["trees"] b7 e7
variable {a1 a2 a3 a4 a5 a6 a7 a8 a9 b1 b2 b3 b4 b5 b6 b7 : Addr} {d1 d2 d3 d4 d5 d6 d7 d8 d9 e1 e2 e3 e4 e5 e6 e7 : FuncData}
def spLaw (K : PySem.W.Frag) : Sp := fun vs H Q _ => ∃ (sc : Addr) (ns : List Int), vs = [.ref sc] ∧ ScAt K H sc ns ∧ ∀ H', Q (.bl true) H'
theorem scLaw : FnScope ["_law_script", "_law_row", "_law_at", "_law_trees", "_law_sizes", "_law_size", "_law_heaps", "_law_total", "_law_due"] ["_law_script"] (defScope sLaw) := ⟨rfl, rfl, rfl, by decide +kernel, rfl, by decide +kernel, by decide +kernel⟩
theorem ok_law {f : Addr} {fd : FuncData} (F : Fun K "law" "law" sLaw f fd) (B : Blt mg) (L : Lim mg) (GV : Grv K mg C fI fP fF fM fR fA fH fN fT fO fW dI dP dF dM dR dA dH dN dT dO dW)
    (U : Hlp K mg a1 a2 a3 a4 a5 a6 a7 a8 a9 b1 b2 b3 b4 b5 b6 b7 d1 d2 d3 d4 d5 d6 d7 d8 d9 e1 e2 e3 e4 e5 e6 e7) : FnOk P w K mg base CX0 26 f fd ["_law_script"] (spLaw K) := by
  have GT : FnOk P w K mg base CX0 1 a1 d1 ["_law_row", "_law_many"] (spTaken' K) := ok_taken' U.taken.F B
  have GS : FnOk P w K mg base CX0 1 a2 d2 ["_law_found", "_law_due"] spIs := ok_is U.is.F B
  have GX : FnOk P w K mg base CX0 1 a3 d3 ["_law_one", "_law_other"] spXor := ok_xor U.xor.F B
  have GL : FnOk P w K mg base CX0 18 a5 d5 ["_law_known", "_law_trees"] (spLost P w) := ok_lost U.lost.F B U.falls
  have GP : FnOk P w K mg base CX0 1 a6 d6 ["_law_size"] spPile := ok_pile U.pile.F B
  have GB : FnOk P w K mg base CX0 6 a9 d9 ["_law_row", "_law_deep", "_law_most"] (spBush K) := ok_bush U.bush.F B U.taken.F U.taken.b U.taken.m U.pile.F U.pile.b U.pile.m U.twig.F U.twig.b U.twig.m U.leaves.F U.leaves.b U.leaves.m
  have GH : FnOk P w K mg base CX0 13 b6 e6 ["size"] spHeapTree := ok_heapTree U.heapTree.F B L GV U.need U.isIn U.isInt
  have GI : FnOk P w K mg base CX0 25 b7 e7 ["trees"] spIsLost := ok_isLost U.isLost.F B L GV U.isTree U.isAsc
  refine F.ok scLaw (fun vs H Q E h => ?_) (fun cdv A outer s H vs Q E hr h => ?_)
  · obtain ⟨sc, ns, rfl, _⟩ := h
    rfl
  obtain ⟨sc, ns, rfl, hS, q⟩ := h
  have nd := scLaw.nd
  have hu := hr.units
  have hr1 := hr.mono (show 1 ≤ 25 by decide)
  refine ⟨_, pss_cons (ps_set (i := 1) nd rfl (.inr rfl) (pe_lst (pa_cons (pv 0) (pa_cons pe_int (pa_cons pe_int (pa_cons pe_int pa_nil))))))
    (pss_cons (ps_set (i := 3) nd rfl (.inl rfl) (pe_callTy call_tuple_of (by rfl) B.tuple (by decide +kernel) (pa_cons
      (pe_lc (own := [("_law_at", 2)]) (g := gName 2) (tt := tYes) rfl nd (pi_range1 rfl B.range (pa_cons (pe_call GT hr1 (by rfl) U.taken.m U.taken.F.kp U.taken.b .nil pass0 (pa_cons (pv 1) (pa_cons pe_int pa_nil))) pa_nil))
          (blkOk_by (N := ["_law_script", "_law_row", "_law_at", "_law_trees", "_law_sizes", "_law_size", "_law_heaps", "_law_total", "_law_due"]) (sc := defScope sLaw) (by decide +kernel)) (fun _ _ _ _ _ => pg_name (i := 2) nd rfl (.inl rfl)) (fun _ _ _ _ _ => pts_nil)
          (fun _ _ _ _ _ => pe_call GB (hr.mono (by decide)) (by rfl) U.bush.m U.bush.F.kp U.bush.b .nil pass0 (pa_cons (pv 1) (pa_cons pe_int (pa_cons pe_int pa_nil))))) pa_nil)))
    (pss_cons (ps_if (pt_not (pt_val (pe_call GS hr1 (by rfl) U.is.m U.is.F.kp U.is.b .nil pass0 (pa_cons (pe_call GI hr (by rfl) U.isLost.m U.isLost.F.kp U.isLost.b .nil pass0 (pa_cons (pv 3) pa_nil))
        (pa_cons (pe_call GL (hr.mono (by decide)) (by rfl) U.lost.m U.lost.F.kp U.lost.b .nil pass0 (pa_cons pe_dnewN (pa_cons (pv 3) pa_nil))) pa_nil))))) (pss_one (ps_ret pe_bl)) pss_nil)
    (pss_cons (ps_setLc (i := 4) (own := [("_law_at", 2)]) (g := gName 2) (tt := tYes) rfl nd rfl rfl (sw_true rfl rfl rfl (by decide +kernel)) (pi_range1 rfl B.range (pa_cons (pe_call GT hr1 (by rfl) U.taken.m U.taken.F.kp U.taken.b .nil pass0 (pa_cons (pv 1) (pa_cons pe_int pa_nil))) pa_nil))
          (blkOk_by (N := ["_law_script", "_law_row", "_law_at", "_law_trees", "_law_sizes", "_law_size", "_law_heaps", "_law_total", "_law_due"]) (sc := defScope sLaw) (by decide +kernel)) (fun _ _ _ _ _ => pg_name (i := 2) nd rfl (.inl rfl)) (fun _ _ _ _ _ => pts_nil)
          (fun _ _ _ _ _ => pe_call GT hr1 (by rfl) U.taken.m U.taken.F.kp U.taken.b .nil pass0 (pa_cons (pv 1) (pa_cons pe_int pa_nil))))
    (pss_cons (ps_par (i := 6) (j := 7) rfl nd rfl rfl (by decide) rfl rfl (pa_cons (pe_callTy call_tuple_of (by rfl) B.tuple (by decide +kernel) (pa_cons
      (pe_lc (own := [("_law_size", 5)]) (g := gName 5) (tt := tYes) rfl nd (pi_list (pv 4))
          (blkOk_by (N := ["_law_script", "_law_row", "_law_at", "_law_trees", "_law_sizes", "_law_size", "_law_heaps", "_law_total", "_law_due"]) (sc := defScope sLaw) (by decide +kernel)) (fun _ _ _ _ _ => pg_name (i := 5) nd rfl (.inl rfl)) (fun _ _ _ _ _ => pts_nil)
          (fun _ _ _ _ _ => pe_call GH (hr.mono (by decide)) (by rfl) U.heapTree.m U.heapTree.F.kp U.heapTree.b .nil pass0 (pa_cons (pv 5) pa_nil))) pa_nil)) (pa_cons pe_int pa_nil)) rfl)
    (pss_cons (ps_if (pt_cmpR (op_neD hu) (pv 6) (pe_callTy call_tuple_of (by rfl) B.tuple (by decide +kernel) (pa_cons
      (pe_lc (own := [("_law_size", 5)]) (g := gName 5) (tt := tYes) rfl nd (pi_list (pv 4))
          (blkOk_by (N := ["_law_script", "_law_row", "_law_at", "_law_trees", "_law_sizes", "_law_size", "_law_heaps", "_law_total", "_law_due"]) (sc := defScope sLaw) (by decide +kernel)) (fun _ _ _ _ _ => pg_name (i := 5) nd rfl (.inl rfl)) (fun _ _ _ _ _ => pts_nil)
          (fun _ _ _ _ _ => pe_call GP hr1 (by rfl) U.pile.m U.pile.F.kp U.pile.b .nil pass0 (pa_cons (pv 5) pa_nil))) pa_nil)) (nomark _)) (pss_one (ps_ret pe_bl)) pss_nil)
    (pss_cons (ps_for PassesOwn.never rfl (pi_list (pv 4)) (pg_name (i := 5) nd rfl (.inl rfl))
      (pss_one (ps_set (i := 7) nd rfl (.inl rfl) (pe_call GX hr1 (by rfl) U.xor.m U.xor.F.kp U.xor.b .nil pass0 (pa_cons (pv 7) (pa_cons (pv 5) pa_nil))))))
    (pss_cons (ps_set (i := 8) nd rfl (.inl rfl) (pe_ifExp (pt_cmpR op_gt (pe_callB (cr_max rfl) (by rfl) B.max (by decide +kernel) (pa_cons (pe_op op_cat (pe_lst (pa_cons pe_int pa_nil)) (pv 4)) pa_nil)) pe_int (nomark _))
        (pe_cmpR op_eq (pv 7) pe_int (nomark _)) (pe_cmpR op_eq (pe_op op_mod (pe_callTy call_int1 (by rfl) B.int (by decide +kernel) (pa_cons (pe_callB (cr_sum rfl) (by rfl) B.sum (by decide +kernel) (pa_cons (pv 4) pa_nil)) pa_nil)) pe_int) pe_int (nomark _))))
    (pss_one (ps_ret (pe_call GS hr1 (by rfl) U.is.m U.is.F.kp U.is.b .nil pass0 (pa_cons (pe_call GI hr (by rfl) U.isLost.m U.isLost.F.kp U.isLost.b .nil pass0 (pa_cons (pv 6) pa_nil)) (pa_cons (pv 8) pa_nil)))))))))))), ?_⟩
  have rl := hr
  refine ⟨_, rfl, by show 4 ≤ sizeLine; decide, fun r hr0 => ?_⟩
  have S1 : Same H (upd H r (.lst [.ref sc, .int 0, .int 3159, .int 0])) := same_new hr0
  have R1 : RowAt K (upd H r (.lst [.ref sc, .int 0, .int 3159, .int 0])) r sc ns := ⟨0, 3159, 0, upd_same, ⟨by decide, by decide, by decide, by decide⟩, hS.same S1⟩
  generalize upd H r (.lst [.ref sc, .int 0, .int 3159, .int 0]) = H1 at R1
  refine ⟨_, rfl, r, sc, ns, 5, rfl, R1, by decide, by decide, fun k1 H2 hk1 B2 R2 => ⟨(k1 : Int), rfl, by omega, by omega, ?_⟩⟩
  have ek1 : ((k1 : Nat) : Int).toNat = k1 := by omega
  rw [ek1]
  intro D hD
  have hDr : D ≠ r := R2.some hD
  refine lc_range (n := k1) (fun i H' => RowAt K H' r sc ns ∧ ∃ (xs : List V) (ts : List Tr), H' D = some (.lst xs) ∧ TrsAt H' xs ts ∧ ts.length = i ∧ ∀ t ∈ ts, Fine t ∧ t.ht ≤ 4 ∧ t.nn ≤ 14)
    ⟨R2.same (same_new hD), [], [], upd_same, .nil, rfl, fun t ht => by cases ht⟩ ?_ ?_
  · rintro i H' hi ⟨RH, xs, ts, hDx, hts, hlen, hall⟩
    refine ⟨rfl, _, rfl, r, sc, ns, rfl, RH, fun v H3 t B3 R3 hv hf hh hn => ?_⟩
    have hD3 : H3 D = some (.lst xs) := B3 _ _ hDx (by simpa using hDr)
    have T3 : Tups H3 (upd H3 D (.lst (xs ++ [v]))) := tups_upd fun ys z => by rw [hD3] at z; cases z
    refine ⟨xs, hD3, by rw [hts.len, hlen, sizeLine_eq]; omega, R3.put hD3 hDr, xs ++ [v], ts ++ [t], upd_same, ((hts.tups (RH.tups B3)).tups T3).append (.cons (hv.tups T3) .nil), by rw [List.length_append, hlen]; rfl, fun u hu' => ?_⟩
    rcases List.mem_append.mp hu' with z | z
    · exact hall u z
    · rw [List.mem_singleton.mp z]; exact ⟨hf, hh, hn⟩
  rintro H3 ⟨R3, xs, ts, hDx, hts, hlen, hall⟩
  refine ⟨D, xs, rfl, .inl ⟨SqL.of hDx, fun t ht => ?_⟩⟩
  have S4 : Same H3 (upd H3 t (.tup xs)) := same_new ht
  have ht4 : upd H3 t (.tup xs) t = some (.tup xs) := upd_same
  have R4 := R3.same S4
  have hts4 := hts.tups (same_tups S4)
  generalize upd H3 t (.tup xs) = H4 at ht4 R4 hts4
  have h4 : ts.length ≤ 4 := by omega
  refine ⟨_, rfl, t, xs, ts, rfl, ht4, hts4, h4, fun u hu' => ?_, fun H5 S5 => ?_⟩
  · obtain ⟨x1, x2, x3⟩ := hall u hu'
    exact ⟨x1, by omega, by omega, nar_nn u 15 (by omega)⟩
  intro d hd
  have S6 : Same H5 (upd H5 d (DNO P w d [])) := same_new hd
  refine ⟨_, rfl, d, t, xs, ts, rfl, upd_same, S6 _ _ (S5 _ _ ht4), hts4.tups (same_tups (S5.trans S6)), h4, fun u hu' => (hall u hu').2, fun H7 B7 => ?_⟩
  refine ⟨lostB ts, lostB ts, rfl, _, rfl, iteN (by rw [beq_self_eq_true]; rfl) ?_⟩
  have S57 : Same H5 H7 := fun b o e => B7 _ _ (S6 _ _ e) (by simpa using ne_of_none e hd)
  have R7 := (R4.same S5).same S57
  -- the sizes
  refine ⟨_, rfl, r, sc, ns, 5, rfl, R7, by decide, by decide, fun k2 H8 hk2 B8 R8 => ⟨(k2 : Int), rfl, by omega, by omega, ?_⟩⟩
  have ek2 : ((k2 : Nat) : Int).toNat = k2 := by omega
  rw [ek2]
  intro D2 hD2
  have hD2r : D2 ≠ r := R8.some hD2
  refine lc_range (n := k2) (fun i H' => RowAt K H' r sc ns ∧ ∃ ss : List Nat, H' D2 = some (.lst (iL ss)) ∧ ss.length = i ∧ ∀ n ∈ ss, n < 6)
    ⟨R8.same (same_new hD2), [], upd_same, rfl, fun n hn => by cases hn⟩ ?_ ?_
  · rintro i H' hi ⟨RH, ss, hDs, hlen2, hss⟩
    refine ⟨rfl, _, rfl, r, sc, ns, 6, rfl, RH, by decide, by decide, fun k3 H9 hk3 B9 R9 => ?_⟩
    have hD9 : H9 D2 = some (.lst (iL ss)) := B9 _ _ hDs (by simpa using hD2r)
    refine ⟨_, hD9, by rw [ints_len, hlen2, sizeLine_eq]; omega, R9.put hD9 hD2r, ss ++ [k3], ?_, by rw [List.length_append, hlen2]; rfl, fun n hn => ?_⟩
    · rw [upd_same]
      unfold iL
      rw [List.map_append]
      rfl
    · rcases List.mem_append.mp hn with z | z
      · exact hss n z
      · rw [List.mem_singleton.mp z]; omega
  rintro H9 ⟨R9, ss, hDs, hlen2, hss⟩
  have hs4 : ss.length ≤ 4 := by omega
  have take_all : ∀ {α : Type} (l : List α) (n : Nat), n = l.length → l.take n = l := fun l n e => List.take_of_length_le (by omega)
  -- the heaps
  refine ⟨_, rfl, D2, rfl, ⟨_, SqL.of hDs⟩, fun D3 hD3 => lc_list (K := K) (a := D2) (xs := iL ss) (fun i H' => Same H9 H' ∧ ∃ xs : List V, H' D3 = some (.lst xs) ∧ TrsAt H' xs ((ss.take i).map pile)) ⟨same_new hD3, [], upd_same, .nil⟩ (fun i H' _ z => SqL.of (z.1 _ _ hDs)) ?_ ?_⟩
  · rintro i x H' hi ⟨Si, xs, hDx, hxs⟩
    obtain ⟨n, rfl, hn⟩ := ints_get hi
    have hn6 := hss n (List.mem_of_getElem? hn)
    refine ⟨rfl, _, rfl, n, rfl, by omega, fun v H2 S2 hv => ?_⟩
    have hD4 := S2 _ _ hDx
    have T3 : Tups H2 (upd H2 D3 (.lst (xs ++ [v]))) := tups_upd fun ys z => by rw [hD4] at z; cases z
    refine ⟨xs, hD4, by rw [hxs.len, List.length_map, List.length_take, sizeLine_eq]; omega, (But.own (S := []) (But.of_same (Si.trans S2)) hD3).same, xs ++ [v], upd_same, ?_⟩
    rw [List.take_succ, hn, List.map_append]
    exact ((hxs.tups (same_tups S2)).tups T3).append (.cons (hv.tups T3) .nil)
  rintro H10 ⟨S10, xs3, hD10, hxs3⟩
  rw [take_all ss _ (ints_len ss)] at hxs3
  refine ⟨D3, xs3, rfl, .inl ⟨SqL.of hD10, fun t3 ht3 => ⟨_, _, rfl, ?_⟩⟩⟩
  have S11 : Same H10 (upd H10 t3 (.tup xs3)) := same_new ht3
  have ht11 : upd H10 t3 (.tup xs3) t3 = some (.tup xs3) := upd_same
  have hDs11 := S11 _ _ (S10 _ _ hDs)
  have hxs11 := hxs3.tups (same_tups S11)
  generalize upd H10 t3 (.tup xs3) = H11 at ht11 hDs11 hxs11
  -- the piles
  refine ⟨_, rfl, _, rfl, D2, rfl, ⟨_, SqL.of hDs11⟩, fun D4 hD4 => lc_list (K := K) (a := D2) (xs := iL ss) (fun i H' => Same H11 H' ∧ ∃ xs : List V, H' D4 = some (.lst xs) ∧ TrsAt H' xs ((ss.take i).map pile)) ⟨same_new hD4, [], upd_same, .nil⟩ (fun i H' _ z => SqL.of (z.1 _ _ hDs11)) ?_ ?_⟩
  · rintro i x H' hi ⟨Si, xs, hDx, hxs⟩
    obtain ⟨n, rfl, hn⟩ := ints_get hi
    have hn6 := hss n (List.mem_of_getElem? hn)
    refine ⟨rfl, _, rfl, n, rfl, by omega, fun v H2 S2 hv => ?_⟩
    have hD5 := S2 _ _ hDx
    have T3 : Tups H2 (upd H2 D4 (.lst (xs ++ [v]))) := tups_upd fun ys z => by rw [hD5] at z; cases z
    refine ⟨xs, hD5, by rw [hxs.len, List.length_map, List.length_take, sizeLine_eq]; omega, (But.own (S := []) (But.of_same (Si.trans S2)) hD4).same, xs ++ [v], upd_same, ?_⟩
    rw [List.take_succ, hn, List.map_append]
    exact ((hxs.tups (same_tups S2)).tups T3).append (.cons (hv.tups T3) .nil)
  rintro H12 ⟨S12, xs4, hD12, hxs4⟩
  rw [take_all ss _ (ints_len ss)] at hxs4
  refine ⟨D4, xs4, rfl, .inl ⟨SqL.of hD12, fun t4 ht4' => ?_⟩⟩
  have S13 : Same H12 (upd H12 t4 (.tup xs4)) := same_new ht4'
  have hpl : (ss.map pile).length ≤ 4 := by rw [List.length_map]; exact hs4
  have u4 : TrAt (upd H12 t4 (.tup xs4)) (.ref t4) (.nd (ss.map pile)) := TrAt.nd' upd_same (hxs4.tups (same_tups S13)) hpl (by decide)
  have S1213 := S12.trans S13
  have ht13 := S1213 _ _ ht11
  have hDs13 := S1213 _ _ hDs11
  have hxs13 := hxs11.tups (same_tups S1213)
  generalize upd H12 t4 (.tup xs4) = H13 at u4 ht13 hDs13 hxs13
  have u3 : TrAt H13 (.ref t3) (.nd (ss.map pile)) := TrAt.nd' ht13 hxs13 hpl (by decide)
  have hh6 : (Tr.nd (ss.map pile)).ht ≤ 30 := by
    rw [Tr.ht]
    refine Tr.hts_le fun u hu' => ?_
    obtain ⟨n, hn, rfl⟩ := List.mem_map.mp hu'
    have := hss n hn
    have := pile_ht n
    omega
  refine ⟨_, _, u3.dp _ _, u4.dp _ _, shaped_tr hh6, shaped_tr hh6, _, rfl, iteN (by rw [SeqAt.eqv_refl _ (dat_shaped0 _)]; rfl) ?_⟩
  -- the sum without carries
  refine ⟨_, rfl, D2, rfl, ⟨_, SqL.of hDs13⟩, for_list (K := K) (a := D2) (xs := iL ss) (fun i σ H' => ∃ v5, σ = [some (.ref sc), some (.ref r), none, some (.ref t), some (.ref D2), v5, some (.ref t3), some (.int (((ss.take i).foldl (· ^^^ ·) 0 : Nat) : Int)), none] ∧ Same H13 H') ⟨none, rfl, same_refl H13⟩ (fun i σ H' _ ⟨_, _, z⟩ => SqL.of (z _ _ hDs13)) ?_ ?_⟩
  · rintro i x σ H' hi ⟨v5, rfl, Si⟩
    obtain ⟨n, rfl, hn⟩ := ints_get hi
    have hn6 := hss n (List.mem_of_getElem? hn)
    refine ⟨_, rfl, _, rfl, (ss.take i).foldl (· ^^^ ·) 0, n, rfl, xor_fold hss i, by omega, fun H2 S2 => ?_⟩
    refine ⟨some (.int n), ?_, Si.trans S2⟩
    rw [List.take_succ, hn, List.foldl_append]
    rfl
  rintro σ H14 ⟨v5, rfl, S14⟩
  rw [take_all ss _ (ints_len ss)]
  refine ⟨by show 1 ≤ sizeLine; decide, fun z hz => ?_⟩
  have S15 : Same H14 (upd H14 z (.lst [.int 0])) := same_new hz
  have hz15 : upd H14 z (.lst [.int 0]) z = some (.lst [.int 0]) := upd_same
  generalize upd H14 z (.lst [.int 0]) = H15 at S15 hz15
  have S135 := S14.trans S15
  refine ⟨_, rfl, z, D2, _, _, rfl, rfl, hz15, S135 _ _ hDs13, by rw [ints_len, sizeLine_eq]; show 1 + _ ≤ _; omega, fun u hu' => ?_⟩
  have S16 : Same H15 (upd H15 u (.lst ([V.int 0] ++ iL ss))) := same_new hu'
  have hu16 : upd H15 u (.lst ([V.int 0] ++ iL ss)) u = some (.lst ([V.int 0] ++ iL ss)) := upd_same
  generalize upd H15 u (.lst ([V.int 0] ++ iL ss)) = H16 at S16 hu16
  have S136 := S135.trans S16
  refine ⟨u, (0 : Int) :: ss.map (fun k => ((k : Nat) : Int)), rfl, SqL.of (by rw [hu16, List.map_cons, ints_int]; rfl), Nat.succ_pos _, fun m hm hle => ⟨_, _, rfl, rfl, _, rfl, ?_⟩⟩
  have hdue := due_of ss m hs4 hm hle
  have hlost : lostB (ss.map pile) = due4 (ss.getD 0 0) (ss.getD 1 0) (ss.getD 2 0) (ss.getD 3 0) := by
    rw [Bool.eq_iff_iff, lostB_iff]
    exact nim_list ss hs4 hss
  have hallp : ∀ t ∈ ss.map pile, Fine t ∧ t.ht ≤ 5 ∧ t.nn ≤ 32 ∧ Nar 15 t := fun t ht => by
    obtain ⟨n, hn, rfl⟩ := List.mem_map.mp ht
    have h6 := hss n hn
    have h1 := pile_ht n
    have h2 : 2 ^ n ≤ 2 ^ 5 := Nat.pow_le_pow_right (by decide) (by omega)
    exact ⟨fine_pile n, by omega, by rw [pile_nn]; omega, nar_pile 15 n (by omega)⟩
  have ht16 := S136 _ _ ht13
  have hxs16 := hxs13.tups (same_tups S136)
  by_cases h1 : m > 1
  · refine iteY (decide_eq_true h1) ?_
    rw [if_pos h1] at hdue
    refine ⟨_, rfl, rfl, ?_⟩
    refine ⟨_, rfl, t3, xs3, ss.map pile, rfl, ht16, hxs16, hpl, hallp, fun H17 S17 => ⟨_, rfl, lostB (ss.map pile), _, rfl, ?_⟩⟩
    have e : decide (V.int ((ss.foldl (· ^^^ ·) 0 : Nat) : Int) = V.int 0) = decide (ss.foldl (· ^^^ ·) 0 = 0) := by
      rw [dec_int, Bool.eq_iff_iff, beq_iff_eq, decide_eq_true_eq]
      omega
    have e2 : (lostB (ss.map pile) == decide (V.int ((ss.foldl (· ^^^ ·) 0 : Nat) : Int) = V.int 0)) = true := by rw [e, hdue, hlost, beq_self_eq_true]
    show Q (.bl (lostB (ss.map pile) == decide (V.int ((ss.foldl (· ^^^ ·) 0 : Nat) : Int) = V.int 0))) H17
    rw [e2]
    exact q H17
  · refine iteN (decide_eq_false h1) ?_
    rw [if_neg h1] at hdue
    refine ⟨_, rfl, D2, ss.map (fun k => ((k : Nat) : Int)), rfl, SqL.of (by rw [ints_int]; exact S136 _ _ hDs13), .inl ⟨_, rfl, _, _, rfl, rfl, by show (0 : Int) < 2; decide, rfl, ?_⟩⟩
    refine ⟨_, rfl, t3, xs3, ss.map pile, rfl, ht16, hxs16, hpl, hallp, fun H17 S17 => ⟨_, rfl, lostB (ss.map pile), _, rfl, ?_⟩⟩
    have e : decide (V.int ((ss.map fun k => ((k : Nat) : Int)).sum % 2) = V.int 1) = decide ((ss.map fun k => ((k : Nat) : Int)).sum % 2 = 1) := by
      rw [dec_int, Bool.eq_iff_iff, beq_iff_eq, decide_eq_true_eq]
    have e2 : (lostB (ss.map pile) == decide (V.int ((ss.map fun k => ((k : Nat) : Int)).sum % 2) = V.int 1)) = true := by rw [e, hdue, hlost, beq_self_eq_true]
    show Q (.bl (lostB (ss.map pile) == decide (V.int ((ss.map fun k => ((k : Nat) : Int)).sum % 2) = V.int 1))) H17
    rw [e2]
    exact q H17
end
end K59
end

set_option Elab.async false
set_option linter.all false
set_option maxRecDepth 100000
set_option maxHeartbeats 8000000
/-! ### the module's facts, the head -/
namespace K59
open PySem L2 PyProof.Rows
theorem all_mk {l : PySem.W.OpenLaw} {w : World} {K : PySem.W.Frag} {h : Heap} {mg : Str → Option Value} {fa C g_mI g_mP g_mF g_mM g_mR g_mA g_mH g_mN g_mT g_mO g_mW g_f1 g_f2 g_f3 g_f4 g_f5 g_f6 g_f7 g_f8 g_f9 g_f10 g_f11 g_f12 g_f13 g_f14 g_f15 g_f16 g_f17 : Addr} (X : K.In h) (G : h.Ns mainGlobals mg) (hfa : mg "law" = some (.ref fa))
    {od_mI an_mI od_mP an_mP od_mF an_mF od_mM an_mM od_mR an_mR od_mA an_mA od_mH an_mH od_mN an_mN od_mT an_mT od_mO an_mO od_mW an_mW od_f1 an_f1 od_f2 an_f2 od_f3 an_f3 od_f4 an_f4 od_f5 an_f5 od_f6 an_f6 od_f7 an_f7 od_f8 an_f8 od_f9 an_f9 od_f10 an_f10 od_f11 an_f11 od_f12 an_f12 od_f13 an_f13 od_f14 an_f14 od_f15 an_f15 od_f16 an_f16 od_f17 an_f17 : Option Addr} {sl_mI sl_mP sl_mF sl_mM sl_mR sl_mA sl_mH sl_mN sl_mT sl_mO sl_mW sl_f1 sl_f2 sl_f3 sl_f4 sl_f5 sl_f6 sl_f7 sl_f8 sl_f9 sl_f10 sl_f11 sl_f12 sl_f13 sl_f14 sl_f15 sl_f16 sl_f17 : Array (Option Value)}
    {oc_mI kV_mI dc_mI pm_mI cd_mI ct_mI oc_mP kV_mP dc_mP pm_mP cd_mP ct_mP oc_mF kV_mF dc_mF pm_mF cd_mF ct_mF oc_mM kV_mM dc_mM pm_mM cd_mM ct_mM oc_mR kV_mR dc_mR pm_mR cd_mR ct_mR oc_mA kV_mA dc_mA pm_mA cd_mA ct_mA oc_mH kV_mH dc_mH pm_mH cd_mH ct_mH oc_mN kV_mN dc_mN pm_mN cd_mN ct_mN oc_mT kV_mT dc_mT pm_mT cd_mT ct_mT oc_mO kV_mO dc_mO pm_mO cd_mO ct_mO oc_mW kV_mW dc_mW pm_mW cd_mW ct_mW oc_f1 kV_f1 dc_f1 pm_f1 cd_f1 ct_f1 oc_f2 kV_f2 dc_f2 pm_f2 cd_f2 ct_f2 oc_f3 kV_f3 dc_f3 pm_f3 cd_f3 ct_f3 oc_f4 kV_f4 dc_f4 pm_f4 cd_f4 ct_f4 oc_f5 kV_f5 dc_f5 pm_f5 cd_f5 ct_f5 oc_f6 kV_f6 dc_f6 pm_f6 cd_f6 ct_f6 oc_f7 kV_f7 dc_f7 pm_f7 cd_f7 ct_f7 oc_f8 kV_f8 dc_f8 pm_f8 cd_f8 ct_f8 oc_f9 kV_f9 dc_f9 pm_f9 cd_f9 ct_f9 oc_f10 kV_f10 dc_f10 pm_f10 cd_f10 ct_f10 oc_f11 kV_f11 dc_f11 pm_f11 cd_f11 ct_f11 oc_f12 kV_f12 dc_f12 pm_f12 cd_f12 ct_f12 oc_f13 kV_f13 dc_f13 pm_f13 cd_f13 ct_f13 oc_f14 kV_f14 dc_f14 pm_f14 cd_f14 ct_f14 oc_f15 kV_f15 dc_f15 pm_f15 cd_f15 ct_f15 oc_f16 kV_f16 dc_f16 pm_f16 cd_f16 ct_f16 oc_f17 kV_f17 dc_f17 pm_f17 cd_f17 ct_f17 : Value} {t_nodes t_height t_trees t_heap t_gn t_gh : Tok}
    (aC : PySem.W.nsIn K mainGlobals "Grove" = some (some (.ref C)))
    (a_mI : PySem.W.findIn K (.ref C) "__init__" = some (some (.ref g_mI)))
    (i_mI : PySem.W.isFn K (.ref g_mI) = true)
    (l_mI : K.lookup g_mI = some ⟨oc_mI, od_mI, .func (PySem.W.fnOf "__init__" "Grove.__init__" (defArgs sGInit) (defBody sGInit) (defScope sGInit) .none kV_mI dc_mI pm_mI an_mI cd_mI ct_mI), sl_mI⟩)
    (c_mI : PySem.W.codeIn K cd_mI "Grove.__init__" = true)
    (k_mI : PySem.W.keepIn K (.ref g_mI) = true)
    (a_mP : PySem.W.findIn K (.ref C) "place" = some (some (.ref g_mP)))
    (i_mP : PySem.W.isFn K (.ref g_mP) = true)
    (l_mP : K.lookup g_mP = some ⟨oc_mP, od_mP, .func (PySem.W.fnOf "place" "Grove.place" (defArgs sPlace) (defBody sPlace) (defScope sPlace) .none kV_mP dc_mP pm_mP an_mP cd_mP ct_mP), sl_mP⟩)
    (c_mP : PySem.W.codeIn K cd_mP "Grove.place" = true)
    (k_mP : PySem.W.keepIn K (.ref g_mP) = true)
    (a_mF : PySem.W.findIn K (.ref C) "fits" = some (some (.ref g_mF)))
    (i_mF : PySem.W.isFn K (.ref g_mF) = true)
    (l_mF : K.lookup g_mF = some ⟨oc_mF, od_mF, .func (PySem.W.fnOf "fits" "Grove.fits" (defArgs sFits) (defBody sFits) (defScope sFits) .none kV_mF dc_mF pm_mF an_mF cd_mF ct_mF), sl_mF⟩)
    (c_mF : PySem.W.codeIn K cd_mF "Grove.fits" = true)
    (k_mF : PySem.W.keepIn K (.ref g_mF) = true)
    (a_mM : PySem.W.findIn K (.ref C) "make" = some (some (.ref g_mM)))
    (i_mM : PySem.W.isFn K (.ref g_mM) = true)
    (l_mM : K.lookup g_mM = some ⟨oc_mM, od_mM, .func (PySem.W.fnOf "make" "Grove.make" (defArgs sMake) (defBody sMake) (defScope sMake) .none kV_mM dc_mM pm_mM an_mM cd_mM ct_mM), sl_mM⟩)
    (c_mM : PySem.W.codeIn K cd_mM "Grove.make" = true)
    (k_mM : PySem.W.keepIn K (.ref g_mM) = true)
    (a_mR : PySem.W.findIn K (.ref C) "read" = some (some (.ref g_mR)))
    (i_mR : PySem.W.isFn K (.ref g_mR) = true)
    (l_mR : K.lookup g_mR = some ⟨oc_mR, od_mR, .func (PySem.W.fnOf "read" "Grove.read" (defArgs sRead) (defBody sRead) (defScope sRead) .none kV_mR dc_mR pm_mR an_mR cd_mR ct_mR), sl_mR⟩)
    (c_mR : PySem.W.codeIn K cd_mR "Grove.read" = true)
    (k_mR : PySem.W.keepIn K (.ref g_mR) = true)
    (a_mA : PySem.W.findIn K (.ref C) "add" = some (some (.ref g_mA)))
    (i_mA : PySem.W.isFn K (.ref g_mA) = true)
    (l_mA : K.lookup g_mA = some ⟨oc_mA, od_mA, .func (PySem.W.fnOf "add" "Grove.add" (defArgs sAdd) (defBody sAdd) (defScope sAdd) .none kV_mA dc_mA pm_mA an_mA cd_mA ct_mA), sl_mA⟩)
    (c_mA : PySem.W.codeIn K cd_mA "Grove.add" = true)
    (k_mA : PySem.W.keepIn K (.ref g_mA) = true)
    (a_mH : PySem.W.findIn K (.ref C) "heap" = some (some (.ref g_mH)))
    (i_mH : PySem.W.isFn K (.ref g_mH) = true)
    (l_mH : K.lookup g_mH = some ⟨oc_mH, od_mH, .func (PySem.W.fnOf "heap" "Grove.heap" (defArgs sHeap) (defBody sHeap) (defScope sHeap) .none kV_mH dc_mH pm_mH an_mH cd_mH ct_mH), sl_mH⟩)
    (c_mH : PySem.W.codeIn K cd_mH "Grove.heap" = true)
    (k_mH : PySem.W.keepIn K (.ref g_mH) = true)
    (a_mN : PySem.W.findIn K (.ref C) "nodes" = some (some (.ref g_mN)))
    (i_mN : PySem.W.isFn K (.ref g_mN) = true)
    (l_mN : K.lookup g_mN = some ⟨oc_mN, od_mN, .func (PySem.W.fnOf "nodes" "Grove.nodes" (defArgs sNodes) (defBody sNodes) (defScope sNodes) .none kV_mN dc_mN pm_mN an_mN cd_mN ct_mN), sl_mN⟩)
    (c_mN : PySem.W.codeIn K cd_mN "Grove.nodes" = true)
    (k_mN : PySem.W.keepIn K (.ref g_mN) = true)
    (a_mT : PySem.W.findIn K (.ref C) "height" = some (some (.ref g_mT)))
    (i_mT : PySem.W.isFn K (.ref g_mT) = true)
    (l_mT : K.lookup g_mT = some ⟨oc_mT, od_mT, .func (PySem.W.fnOf "height" "Grove.height" (defArgs sHeight) (defBody sHeight) (defScope sHeight) .none kV_mT dc_mT pm_mT an_mT cd_mT ct_mT), sl_mT⟩)
    (c_mT : PySem.W.codeIn K cd_mT "Grove.height" = true)
    (k_mT : PySem.W.keepIn K (.ref g_mT) = true)
    (a_mO : PySem.W.findIn K (.ref C) "form" = some (some (.ref g_mO)))
    (i_mO : PySem.W.isFn K (.ref g_mO) = true)
    (l_mO : K.lookup g_mO = some ⟨oc_mO, od_mO, .func (PySem.W.fnOf "form" "Grove.form" (defArgs sForm) (defBody sForm) (defScope sForm) .none kV_mO dc_mO pm_mO an_mO cd_mO ct_mO), sl_mO⟩)
    (c_mO : PySem.W.codeIn K cd_mO "Grove.form" = true)
    (k_mO : PySem.W.keepIn K (.ref g_mO) = true)
    (a_mW : PySem.W.findIn K (.ref C) "written" = some (some (.ref g_mW)))
    (i_mW : PySem.W.isFn K (.ref g_mW) = true)
    (l_mW : K.lookup g_mW = some ⟨oc_mW, od_mW, .func (PySem.W.fnOf "written" "Grove.written" (defArgs sWritten) (defBody sWritten) (defScope sWritten) .none kV_mW dc_mW pm_mW an_mW cd_mW ct_mW), sl_mW⟩)
    (c_mW : PySem.W.codeIn K cd_mW "Grove.written" = true)
    (k_mW : PySem.W.keepIn K (.ref g_mW) = true)
    (a_f1 : PySem.W.nsIn K mainGlobals "_law_taken" = some (some (.ref g_f1)))
    (l_f1 : K.lookup g_f1 = some ⟨oc_f1, od_f1, .func (PySem.W.fnOf "_law_taken" "_law_taken" (defArgs sTaken) (defBody sTaken) (defScope sTaken) .none kV_f1 dc_f1 pm_f1 an_f1 cd_f1 ct_f1), sl_f1⟩)
    (c_f1 : PySem.W.codeIn K cd_f1 "_law_taken" = true)
    (k_f1 : PySem.W.keepIn K (.ref g_f1) = true)
    (a_f2 : PySem.W.nsIn K mainGlobals "_law_is" = some (some (.ref g_f2)))
    (l_f2 : K.lookup g_f2 = some ⟨oc_f2, od_f2, .func (PySem.W.fnOf "_law_is" "_law_is" (defArgs sLawIs) (defBody sLawIs) (defScope sLawIs) .none kV_f2 dc_f2 pm_f2 an_f2 cd_f2 ct_f2), sl_f2⟩)
    (c_f2 : PySem.W.codeIn K cd_f2 "_law_is" = true)
    (k_f2 : PySem.W.keepIn K (.ref g_f2) = true)
    (a_f3 : PySem.W.nsIn K mainGlobals "_law_xor" = some (some (.ref g_f3)))
    (l_f3 : K.lookup g_f3 = some ⟨oc_f3, od_f3, .func (PySem.W.fnOf "_law_xor" "_law_xor" (defArgs sXor) (defBody sXor) (defScope sXor) .none kV_f3 dc_f3 pm_f3 an_f3 cd_f3 ct_f3), sl_f3⟩)
    (c_f3 : PySem.W.codeIn K cd_f3 "_law_xor" = true)
    (k_f3 : PySem.W.keepIn K (.ref g_f3) = true)
    (a_f4 : PySem.W.nsIn K mainGlobals "_law_falls" = some (some (.ref g_f4)))
    (l_f4 : K.lookup g_f4 = some ⟨oc_f4, od_f4, .func (PySem.W.fnOf "_law_falls" "_law_falls" (defArgs sFalls) (defBody sFalls) (defScope sFalls) .none kV_f4 dc_f4 pm_f4 an_f4 cd_f4 ct_f4), sl_f4⟩)
    (c_f4 : PySem.W.codeIn K cd_f4 "_law_falls" = true)
    (k_f4 : PySem.W.keepIn K (.ref g_f4) = true)
    (a_f5 : PySem.W.nsIn K mainGlobals "_law_lost" = some (some (.ref g_f5)))
    (l_f5 : K.lookup g_f5 = some ⟨oc_f5, od_f5, .func (PySem.W.fnOf "_law_lost" "_law_lost" (defArgs sLost) (defBody sLost) (defScope sLost) .none kV_f5 dc_f5 pm_f5 an_f5 cd_f5 ct_f5), sl_f5⟩)
    (c_f5 : PySem.W.codeIn K cd_f5 "_law_lost" = true)
    (k_f5 : PySem.W.keepIn K (.ref g_f5) = true)
    (a_f6 : PySem.W.nsIn K mainGlobals "_law_pile" = some (some (.ref g_f6)))
    (l_f6 : K.lookup g_f6 = some ⟨oc_f6, od_f6, .func (PySem.W.fnOf "_law_pile" "_law_pile" (defArgs sPile) (defBody sPile) (defScope sPile) .none kV_f6 dc_f6 pm_f6 an_f6 cd_f6 ct_f6), sl_f6⟩)
    (c_f6 : PySem.W.codeIn K cd_f6 "_law_pile" = true)
    (k_f6 : PySem.W.keepIn K (.ref g_f6) = true)
    (a_f7 : PySem.W.nsIn K mainGlobals "_law_twig" = some (some (.ref g_f7)))
    (l_f7 : K.lookup g_f7 = some ⟨oc_f7, od_f7, .func (PySem.W.fnOf "_law_twig" "_law_twig" (defArgs sTwig) (defBody sTwig) (defScope sTwig) .none kV_f7 dc_f7 pm_f7 an_f7 cd_f7 ct_f7), sl_f7⟩)
    (c_f7 : PySem.W.codeIn K cd_f7 "_law_twig" = true)
    (k_f7 : PySem.W.keepIn K (.ref g_f7) = true)
    (a_f8 : PySem.W.nsIn K mainGlobals "_law_leaves" = some (some (.ref g_f8)))
    (l_f8 : K.lookup g_f8 = some ⟨oc_f8, od_f8, .func (PySem.W.fnOf "_law_leaves" "_law_leaves" (defArgs sLeaves) (defBody sLeaves) (defScope sLeaves) .none kV_f8 dc_f8 pm_f8 an_f8 cd_f8 ct_f8), sl_f8⟩)
    (c_f8 : PySem.W.codeIn K cd_f8 "_law_leaves" = true)
    (k_f8 : PySem.W.keepIn K (.ref g_f8) = true)
    (a_f9 : PySem.W.nsIn K mainGlobals "_law_bush" = some (some (.ref g_f9)))
    (l_f9 : K.lookup g_f9 = some ⟨oc_f9, od_f9, .func (PySem.W.fnOf "_law_bush" "_law_bush" (defArgs sBush) (defBody sBush) (defScope sBush) .none kV_f9 dc_f9 pm_f9 an_f9 cd_f9 ct_f9), sl_f9⟩)
    (c_f9 : PySem.W.codeIn K cd_f9 "_law_bush" = true)
    (k_f9 : PySem.W.keepIn K (.ref g_f9) = true)
    (a_f10 : PySem.W.nsIn K mainGlobals "is_int" = some (some (.ref g_f10)))
    (l_f10 : K.lookup g_f10 = some ⟨oc_f10, od_f10, .func (PySem.W.fnOf "is_int" "is_int" (defArgs sIsInt) (defBody sIsInt) (defScope sIsInt) .none kV_f10 dc_f10 pm_f10 an_f10 cd_f10 ct_f10), sl_f10⟩)
    (c_f10 : PySem.W.codeIn K cd_f10 "is_int" = true)
    (k_f10 : PySem.W.keepIn K (.ref g_f10) = true)
    (a_f11 : PySem.W.nsIn K mainGlobals "is_in" = some (some (.ref g_f11)))
    (l_f11 : K.lookup g_f11 = some ⟨oc_f11, od_f11, .func (PySem.W.fnOf "is_in" "is_in" (defArgs sIsIn) (defBody sIsIn) (defScope sIsIn) .none kV_f11 dc_f11 pm_f11 an_f11 cd_f11 ct_f11), sl_f11⟩)
    (c_f11 : PySem.W.codeIn K cd_f11 "is_in" = true)
    (k_f11 : PySem.W.keepIn K (.ref g_f11) = true)
    (a_f12 : PySem.W.nsIn K mainGlobals "need_number" = some (some (.ref g_f12)))
    (l_f12 : K.lookup g_f12 = some ⟨oc_f12, od_f12, .func (PySem.W.fnOf "need_number" "need_number" (defArgs sNeed) (defBody sNeed) (defScope sNeed) .none kV_f12 dc_f12 pm_f12 an_f12 cd_f12 ct_f12), sl_f12⟩)
    (c_f12 : PySem.W.codeIn K cd_f12 "need_number" = true)
    (k_f12 : PySem.W.keepIn K (.ref g_f12) = true)
    (a_f13 : PySem.W.nsIn K mainGlobals "is_tree" = some (some (.ref g_f13)))
    (l_f13 : K.lookup g_f13 = some ⟨oc_f13, od_f13, .func (PySem.W.fnOf "is_tree" "is_tree" (defArgs sIsTree) (defBody sIsTree) (defScope sIsTree) .none kV_f13 dc_f13 pm_f13 an_f13 cd_f13 ct_f13), sl_f13⟩)
    (c_f13 : PySem.W.codeIn K cd_f13 "is_tree" = true)
    (k_f13 : PySem.W.keepIn K (.ref g_f13) = true)
    (a_f14 : PySem.W.nsIn K mainGlobals "is_ascending" = some (some (.ref g_f14)))
    (l_f14 : K.lookup g_f14 = some ⟨oc_f14, od_f14, .func (PySem.W.fnOf "is_ascending" "is_ascending" (defArgs sIsAsc) (defBody sIsAsc) (defScope sIsAsc) .none kV_f14 dc_f14 pm_f14 an_f14 cd_f14 ct_f14), sl_f14⟩)
    (c_f14 : PySem.W.codeIn K cd_f14 "is_ascending" = true)
    (k_f14 : PySem.W.keepIn K (.ref g_f14) = true)
    (a_f15 : PySem.W.nsIn K mainGlobals "heap_tree" = some (some (.ref g_f15)))
    (l_f15 : K.lookup g_f15 = some ⟨oc_f15, od_f15, .func (PySem.W.fnOf "heap_tree" "heap_tree" (defArgs sHeapTree) (defBody sHeapTree) (defScope sHeapTree) .none kV_f15 dc_f15 pm_f15 an_f15 cd_f15 ct_f15), sl_f15⟩)
    (c_f15 : PySem.W.codeIn K cd_f15 "heap_tree" = true)
    (k_f15 : PySem.W.keepIn K (.ref g_f15) = true)
    (a_f16 : PySem.W.nsIn K mainGlobals "is_lost" = some (some (.ref g_f16)))
    (l_f16 : K.lookup g_f16 = some ⟨oc_f16, od_f16, .func (PySem.W.fnOf "is_lost" "is_lost" (defArgs sIsLost) (defBody sIsLost) (defScope sIsLost) .none kV_f16 dc_f16 pm_f16 an_f16 cd_f16 ct_f16), sl_f16⟩)
    (c_f16 : PySem.W.codeIn K cd_f16 "is_lost" = true)
    (k_f16 : PySem.W.keepIn K (.ref g_f16) = true)
    (a_f17 : PySem.W.nsIn K mainGlobals "law" = some (some (.ref g_f17)))
    (l_f17 : K.lookup g_f17 = some ⟨oc_f17, od_f17, .func (PySem.W.fnOf "law" "law" (defArgs sLaw) (defBody sLaw) (defScope sLaw) .none kV_f17 dc_f17 pm_f17 an_f17 cd_f17 ct_f17), sl_f17⟩)
    (c_f17 : PySem.W.codeIn K cd_f17 "law" = true)
    (k_f17 : PySem.W.keepIn K (.ref g_f17) = true)
    (pg : PySem.W.plainGet K C Str.empty = true)
    (hd : PySem.W.hasDictIn K C = true)
    (po : PySem.W.plainOver K C = true)
    (sa : PySem.W.findIn K (.ref C) "__setattr__" = some (some (.builtin "object.__setattr__")))
    (mk : PySem.W.makesIn K C = true)
    (kc : PySem.W.keepIn K (.ref C) = true)
    (nO : PySem.W.findIn K (.ref C) "options" = some none)
    (nP : PySem.W.findIn K (.ref C) "places" = some none)
    (nL : PySem.W.findIn K (.ref C) "lost" = some none)
    (nS : PySem.W.findIn K (.ref C) "sums" = some none)
    (nM : PySem.W.findIn K (.ref C) "mates" = some none)
    (nT : PySem.W.findIn K (.ref C) "lates" = some none)
    (z_isi : PySem.W.nsIn K mainGlobals "isinstance" = some none)
    (z_int : PySem.W.nsIn K mainGlobals "int" = some none)
    (z_bool : PySem.W.nsIn K mainGlobals "bool" = some none)
    (z_tuple : PySem.W.nsIn K mainGlobals "tuple" = some none)
    (z_sorted : PySem.W.nsIn K mainGlobals "sorted" = some none)
    (z_set : PySem.W.nsIn K mainGlobals "set" = some none)
    (z_len : PySem.W.nsIn K mainGlobals "len" = some none)
    (z_any : PySem.W.nsIn K mainGlobals "any" = some none)
    (z_all : PySem.W.nsIn K mainGlobals "all" = some none)
    (z_min : PySem.W.nsIn K mainGlobals "min" = some none)
    (z_max : PySem.W.nsIn K mainGlobals "max" = some none)
    (z_sum : PySem.W.nsIn K mainGlobals "sum" = some none)
    (z_range : PySem.W.nsIn K mainGlobals "range" = some none)
    (z_enum : PySem.W.nsIn K mainGlobals "enumerate" = some none)
    (v_nodes : PySem.W.nsIn K mainGlobals "MOST_TREE_NODES" = some (some (.int 400 t_nodes)))
    (v_height : PySem.W.nsIn K mainGlobals "MOST_TREE_HEIGHT" = some (some (.int 12 t_height)))
    (v_trees : PySem.W.nsIn K mainGlobals "MOST_TREES" = some (some (.int 4 t_trees)))
    (v_heap : PySem.W.nsIn K mainGlobals "MOST_HEAP" = some (some (.int 6 t_heap)))
    (v_gn : PySem.W.nsIn K mainGlobals "MOST_NODES" = some (some (.int 2000 t_gn)))
    (v_gh : PySem.W.nsIn K mainGlobals "MOST_HEIGHT" = some (some (.int 40 t_gh)))
    : ∃ fd : FuncData, (∀ (s : Shared) (v : Value), BindsTo s fd ⟨[v], []⟩ [("_law_script", v)]) ∧ ∀ base : Heap, K.In base → base.Ns mainGlobals mg → FnOk l.prog w K mg base CX0 26 fa fd ["_law_script"] (spLaw K) := by
  have e := hfa.symm.trans (PySem.W.mg_of X G a_f17)
  cases e
  have B : Blt mg := ⟨PySem.W.mg_none_of X G z_isi, PySem.W.mg_none_of X G z_int, PySem.W.mg_none_of X G z_bool, PySem.W.mg_none_of X G z_tuple, PySem.W.mg_none_of X G z_sorted, PySem.W.mg_none_of X G z_set, PySem.W.mg_none_of X G z_len, PySem.W.mg_none_of X G z_any, PySem.W.mg_none_of X G z_all, PySem.W.mg_none_of X G z_min, PySem.W.mg_none_of X G z_max, PySem.W.mg_none_of X G z_sum, PySem.W.mg_none_of X G z_range, PySem.W.mg_none_of X G z_enum⟩
  have L : Lim mg := ⟨⟨_, PySem.W.mg_of X G v_nodes⟩, ⟨_, PySem.W.mg_of X G v_height⟩, ⟨_, PySem.W.mg_of X G v_trees⟩, ⟨_, PySem.W.mg_of X G v_heap⟩, ⟨_, PySem.W.mg_of X G v_gn⟩, ⟨_, PySem.W.mg_of X G v_gh⟩⟩
  have T : GTx K mg C := ⟨⟨pg, hd, po, sa⟩, nO, nP, nL, nS, nM, nT, PySem.W.mg_of X G aC⟩
  have F_mI := fun_mk (st := sGInit) l_mI c_mI k_mI
  have b_mI := F_mI.binds (ps := ["self"]) fun _ _ _ _ _ _ us hl => match us, hl with | [_], _ => rfl
  have F_mP := fun_mk (st := sPlace) l_mP c_mP k_mP
  have b_mP := F_mP.binds (ps := ["self", "some"]) fun _ _ _ _ _ _ us hl => match us, hl with | [_, _], _ => rfl
  have F_mF := fun_mk (st := sFits) l_mF c_mF k_mF
  have b_mF := F_mF.binds (ps := ["self", "some", "goal"]) fun _ _ _ _ _ _ us hl => match us, hl with | [_, _, _], _ => rfl
  have F_mM := fun_mk (st := sMake) l_mM c_mM k_mM
  have b_mM := F_mM.binds (ps := ["self", "some"]) fun _ _ _ _ _ _ us hl => match us, hl with | [_, _], _ => rfl
  have F_mR := fun_mk (st := sRead) l_mR c_mR k_mR
  have b_mR := F_mR.binds (ps := ["self", "tree"]) fun _ _ _ _ _ _ us hl => match us, hl with | [_, _], _ => rfl
  have F_mA := fun_mk (st := sAdd) l_mA c_mA k_mA
  have b_mA := F_mA.binds (ps := ["self", "one", "other"]) fun _ _ _ _ _ _ us hl => match us, hl with | [_, _, _], _ => rfl
  have F_mH := fun_mk (st := sHeap) l_mH c_mH k_mH
  have b_mH := F_mH.binds (ps := ["self", "size"]) fun _ _ _ _ _ _ us hl => match us, hl with | [_, _], _ => rfl
  have F_mN := fun_mk (st := sNodes) l_mN c_mN k_mN
  have b_mN := F_mN.binds (ps := ["self", "one", "known"]) fun _ _ _ _ _ _ us hl => match us, hl with | [_, _, _], _ => rfl
  have F_mT := fun_mk (st := sHeight) l_mT c_mT k_mT
  have b_mT := F_mT.binds (ps := ["self", "one", "known"]) fun _ _ _ _ _ _ us hl => match us, hl with | [_, _, _], _ => rfl
  have F_mO := fun_mk (st := sForm) l_mO c_mO k_mO
  have b_mO := F_mO.binds (ps := ["self", "one"]) fun _ _ _ _ _ _ us hl => match us, hl with | [_, _], _ => rfl
  have F_mW := fun_mk (st := sWritten) l_mW c_mW k_mW
  have b_mW := F_mW.binds (ps := ["self", "one"]) fun _ _ _ _ _ _ us hl => match us, hl with | [_, _], _ => rfl
  have F_f1 := fun_mk (st := sTaken) l_f1 c_f1 k_f1
  have b_f1 := F_f1.binds (ps := ["_law_row", "_law_many"]) fun _ _ _ _ _ _ us hl => match us, hl with | [_, _], _ => rfl
  have F_f2 := fun_mk (st := sLawIs) l_f2 c_f2 k_f2
  have b_f2 := F_f2.binds (ps := ["_law_found", "_law_due"]) fun _ _ _ _ _ _ us hl => match us, hl with | [_, _], _ => rfl
  have F_f3 := fun_mk (st := sXor) l_f3 c_f3 k_f3
  have b_f3 := F_f3.binds (ps := ["_law_one", "_law_other"]) fun _ _ _ _ _ _ us hl => match us, hl with | [_, _], _ => rfl
  have F_f4 := fun_mk (st := sFalls) l_f4 c_f4 k_f4
  have b_f4 := F_f4.binds (ps := ["_law_known", "_law_parts"]) fun _ _ _ _ _ _ us hl => match us, hl with | [_, _], _ => rfl
  have F_f5 := fun_mk (st := sLost) l_f5 c_f5 k_f5
  have b_f5 := F_f5.binds (ps := ["_law_known", "_law_trees"]) fun _ _ _ _ _ _ us hl => match us, hl with | [_, _], _ => rfl
  have F_f6 := fun_mk (st := sPile) l_f6 c_f6 k_f6
  have b_f6 := F_f6.binds (ps := ["_law_size"]) fun _ _ _ _ _ _ us hl => match us, hl with | [_], _ => rfl
  have F_f7 := fun_mk (st := sTwig) l_f7 c_f7 k_f7
  have b_f7 := F_f7.binds (ps := ["_law_row", "_law_deep"]) fun _ _ _ _ _ _ us hl => match us, hl with | [_, _], _ => rfl
  have F_f8 := fun_mk (st := sLeaves) l_f8 c_f8 k_f8
  have b_f8 := F_f8.binds (ps := ["_law_tree"]) fun _ _ _ _ _ _ us hl => match us, hl with | [_], _ => rfl
  have F_f9 := fun_mk (st := sBush) l_f9 c_f9 k_f9
  have b_f9 := F_f9.binds (ps := ["_law_row", "_law_deep", "_law_most"]) fun _ _ _ _ _ _ us hl => match us, hl with | [_, _, _], _ => rfl
  have F_f10 := fun_mk (st := sIsInt) l_f10 c_f10 k_f10
  have b_f10 := F_f10.binds (ps := ["value"]) fun _ _ _ _ _ _ us hl => match us, hl with | [_], _ => rfl
  have F_f11 := fun_mk (st := sIsIn) l_f11 c_f11 k_f11
  have b_f11 := F_f11.binds (ps := ["value", "least", "most"]) fun _ _ _ _ _ _ us hl => match us, hl with | [_, _, _], _ => rfl
  have F_f12 := fun_mk (st := sNeed) l_f12 c_f12 k_f12
  have b_f12 := F_f12.binds (ps := ["value", "least", "most"]) fun _ _ _ _ _ _ us hl => match us, hl with | [_, _, _], _ => rfl
  have F_f13 := fun_mk (st := sIsTree) l_f13 c_f13 k_f13
  have b_f13 := F_f13.binds (ps := ["value"]) fun _ _ _ _ _ _ us hl => match us, hl with | [_], _ => rfl
  have F_f14 := fun_mk (st := sIsAsc) l_f14 c_f14 k_f14
  have b_f14 := F_f14.binds (ps := ["tree"]) fun _ _ _ _ _ _ us hl => match us, hl with | [_], _ => rfl
  have F_f15 := fun_mk (st := sHeapTree) l_f15 c_f15 k_f15
  have b_f15 := F_f15.binds (ps := ["size"]) fun _ _ _ _ _ _ us hl => match us, hl with | [_], _ => rfl
  have F_f16 := fun_mk (st := sIsLost) l_f16 c_f16 k_f16
  have b_f16 := F_f16.binds (ps := ["trees"]) fun _ _ _ _ _ _ us hl => match us, hl with | [_], _ => rfl
  have V := Grv.mk (K := K) (mg := mg) (C := C) T ⟨mk, a_mI, i_mI, kc⟩ F_mI b_mI ⟨F_mP, b_mP, ⟨a_mP, i_mP, k_mP⟩⟩ ⟨F_mF, b_mF, ⟨a_mF, i_mF, k_mF⟩⟩ ⟨F_mM, b_mM, ⟨a_mM, i_mM, k_mM⟩⟩ ⟨F_mR, b_mR, ⟨a_mR, i_mR, k_mR⟩⟩ ⟨F_mA, b_mA, ⟨a_mA, i_mA, k_mA⟩⟩ ⟨F_mH, b_mH, ⟨a_mH, i_mH, k_mH⟩⟩ ⟨F_mN, b_mN, ⟨a_mN, i_mN, k_mN⟩⟩ ⟨F_mT, b_mT, ⟨a_mT, i_mT, k_mT⟩⟩ ⟨F_mO, b_mO, ⟨a_mO, i_mO, k_mO⟩⟩ ⟨F_mW, b_mW, ⟨a_mW, i_mW, k_mW⟩⟩
  have U := Hlp.mk (K := K) (mg := mg) ⟨F_f1, b_f1, PySem.W.mg_of X G a_f1⟩ ⟨F_f2, b_f2, PySem.W.mg_of X G a_f2⟩ ⟨F_f3, b_f3, PySem.W.mg_of X G a_f3⟩ ⟨F_f4, b_f4, PySem.W.mg_of X G a_f4⟩ ⟨F_f5, b_f5, PySem.W.mg_of X G a_f5⟩ ⟨F_f6, b_f6, PySem.W.mg_of X G a_f6⟩ ⟨F_f7, b_f7, PySem.W.mg_of X G a_f7⟩ ⟨F_f8, b_f8, PySem.W.mg_of X G a_f8⟩ ⟨F_f9, b_f9, PySem.W.mg_of X G a_f9⟩ ⟨F_f10, b_f10, PySem.W.mg_of X G a_f10⟩ ⟨F_f11, b_f11, PySem.W.mg_of X G a_f11⟩ ⟨F_f12, b_f12, PySem.W.mg_of X G a_f12⟩ ⟨F_f13, b_f13, PySem.W.mg_of X G a_f13⟩ ⟨F_f14, b_f14, PySem.W.mg_of X G a_f14⟩ ⟨F_f15, b_f15, PySem.W.mg_of X G a_f15⟩ ⟨F_f16, b_f16, PySem.W.mg_of X G a_f16⟩
  exact ⟨PySem.W.fnOf "law" "law" (defArgs sLaw) (defBody sLaw) (defScope sLaw) .none kV_f17 dc_f17 pm_f17 an_f17 cd_f17 ct_f17, fun s v => .of_eq rfl, fun base _ _ =>
    ok_law (fun_mk (st := sLaw) l_f17 c_f17 k_f17) B L V U⟩
theorem sc_of {K : PySem.W.Frag} {H : Hp} {a : Addr} {ns : List Int} (hO : Only H) (hS : SqL K H a (ns.map V.int)) : ScAt K H a ns := by
  rcases hS with (h | ⟨o, h⟩) | h
  · rcases hO a with z | ⟨o, xs, z⟩
    · rw [z] at h; cases h
    · rw [z] at h; cases h
  · exact .inl ⟨o, h⟩
  · exact .inr h
theorem walk {l : PySem.W.OpenLaw} {q : Program} {loose : List Str} {XP : (Str → Option Value) → Heap → Prop} {YP : World → Heap → Prop} {d : DefRec} {K : Params → PySem.W.Frag} (hn : l.most = some 63) (hdf : d.params.defaults = [])
    (hY : ∀ (w : World) (h : Heap), YP w h → (K w.params).In h)
    (F : ∀ (w : World) (mg : Str → Option Value) (fa : Addr) (h : Heap), (K w.params).In h → h.Ns mainGlobals mg → mg d.name = some (.ref fa) →
      ∃ fd : FuncData, (∀ (s : Shared) (u : Value), BindsTo s fd ⟨[u], []⟩ [("_law_script", u)]) ∧ ∀ base : Heap, (K w.params).In base → base.Ns mainGlobals mg → FnOk l.prog w (K w.params) mg base CX0 26 fa fd ["_law_script"] (spLaw (K w.params))) :
    PySem.W.WalkO q loose XP YP l.row.toRowW d [] (fun f vs => PySem.call f vs) :=
  L2.walk_of (n := 63) (k := 26) (x := "_law_script") (CX := fun _ => CX0) (sp := fun w => spLaw (K w.params)) hn (by decide) hdf ⟨rfl, by decide, by decide⟩ hY F (fun _ _ a ns hl hO hS => ⟨a, ns, rfl, sc_of hO hS, fun _ => rfl⟩) fun _ _ _ _ _ z => z
end K59

open PySem PySem.W PyProof.Rows in
set_option maxRecDepth 100000 in
set_option maxHeartbeats 0 in
theorem PySem.Challenge.cw_thermogames_k59_whole_lost_sums_holds : PySem.Challenge.rw_thermogames_k59_whole_lost_sums.Holds := by
  w_on; o_law; k_head; (case hw => w_witness2)
  k_fill
  refine K59.walk (l := PySem.Challenge.rw_thermogames_k59_whole_lost_sums) rfl rfl (fun w h Y => PySem.W.kIn_of Y) ?F
  case F =>
    intro w mg fa h KX G hmg
    refine' K59.all_mk KX G hmg ?aC ?a_mI ?i_mI ?l_mI ?c_mI ?k_mI ?a_mP ?i_mP ?l_mP ?c_mP ?k_mP ?a_mF ?i_mF ?l_mF ?c_mF ?k_mF ?a_mM ?i_mM ?l_mM ?c_mM ?k_mM ?a_mR ?i_mR ?l_mR ?c_mR ?k_mR ?a_mA ?i_mA ?l_mA ?c_mA ?k_mA ?a_mH ?i_mH ?l_mH ?c_mH ?k_mH ?a_mN ?i_mN ?l_mN ?c_mN ?k_mN ?a_mT ?i_mT ?l_mT ?c_mT ?k_mT ?a_mO ?i_mO ?l_mO ?c_mO ?k_mO ?a_mW ?i_mW ?l_mW ?c_mW ?k_mW ?a_f1 ?l_f1 ?c_f1 ?k_f1 ?a_f2 ?l_f2 ?c_f2 ?k_f2 ?a_f3 ?l_f3 ?c_f3 ?k_f3 ?a_f4 ?l_f4 ?c_f4 ?k_f4 ?a_f5 ?l_f5 ?c_f5 ?k_f5 ?a_f6 ?l_f6 ?c_f6 ?k_f6 ?a_f7 ?l_f7 ?c_f7 ?k_f7 ?a_f8 ?l_f8 ?c_f8 ?k_f8 ?a_f9 ?l_f9 ?c_f9 ?k_f9 ?a_f10 ?l_f10 ?c_f10 ?k_f10 ?a_f11 ?l_f11 ?c_f11 ?k_f11 ?a_f12 ?l_f12 ?c_f12 ?k_f12 ?a_f13 ?l_f13 ?c_f13 ?k_f13 ?a_f14 ?l_f14 ?c_f14 ?k_f14 ?a_f15 ?l_f15 ?c_f15 ?k_f15 ?a_f16 ?l_f16 ?c_f16 ?k_f16 ?a_f17 ?l_f17 ?c_f17 ?k_f17 ?pg ?hd ?po ?sa ?mk ?kc ?nO ?nP ?nL ?nS ?nM ?nT ?z_isi ?z_int ?z_bool ?z_tuple ?z_sorted ?z_set ?z_len ?z_any ?z_all ?z_min ?z_max ?z_sum ?z_range ?z_enum ?v_nodes ?v_height ?v_trees ?v_heap ?v_gn ?v_gh
    (case aC => k_is)
    (case a_mI => k_is)
    (case i_mI => k_is)
    (case l_mI => k_is)
    (case c_mI => k_is)
    (case k_mI => k_is)
    (case a_mP => k_is)
    (case i_mP => k_is)
    (case l_mP => k_is)
    (case c_mP => k_is)
    (case k_mP => k_is)
    (case a_mF => k_is)
    (case i_mF => k_is)
    (case l_mF => k_is)
    (case c_mF => k_is)
    (case k_mF => k_is)
    (case a_mM => k_is)
    (case i_mM => k_is)
    (case l_mM => k_is)
    (case c_mM => k_is)
    (case k_mM => k_is)
    (case a_mR => k_is)
    (case i_mR => k_is)
    (case l_mR => k_is)
    (case c_mR => k_is)
    (case k_mR => k_is)
    (case a_mA => k_is)
    (case i_mA => k_is)
    (case l_mA => k_is)
    (case c_mA => k_is)
    (case k_mA => k_is)
    (case a_mH => k_is)
    (case i_mH => k_is)
    (case l_mH => k_is)
    (case c_mH => k_is)
    (case k_mH => k_is)
    (case a_mN => k_is)
    (case i_mN => k_is)
    (case l_mN => k_is)
    (case c_mN => k_is)
    (case k_mN => k_is)
    (case a_mT => k_is)
    (case i_mT => k_is)
    (case l_mT => k_is)
    (case c_mT => k_is)
    (case k_mT => k_is)
    (case a_mO => k_is)
    (case i_mO => k_is)
    (case l_mO => k_is)
    (case c_mO => k_is)
    (case k_mO => k_is)
    (case a_mW => k_is)
    (case i_mW => k_is)
    (case l_mW => k_is)
    (case c_mW => k_is)
    (case k_mW => k_is)
    (case a_f1 => k_is)
    (case l_f1 => k_is)
    (case c_f1 => k_is)
    (case k_f1 => k_is)
    (case a_f2 => k_is)
    (case l_f2 => k_is)
    (case c_f2 => k_is)
    (case k_f2 => k_is)
    (case a_f3 => k_is)
    (case l_f3 => k_is)
    (case c_f3 => k_is)
    (case k_f3 => k_is)
    (case a_f4 => k_is)
    (case l_f4 => k_is)
    (case c_f4 => k_is)
    (case k_f4 => k_is)
    (case a_f5 => k_is)
    (case l_f5 => k_is)
    (case c_f5 => k_is)
    (case k_f5 => k_is)
    (case a_f6 => k_is)
    (case l_f6 => k_is)
    (case c_f6 => k_is)
    (case k_f6 => k_is)
    (case a_f7 => k_is)
    (case l_f7 => k_is)
    (case c_f7 => k_is)
    (case k_f7 => k_is)
    (case a_f8 => k_is)
    (case l_f8 => k_is)
    (case c_f8 => k_is)
    (case k_f8 => k_is)
    (case a_f9 => k_is)
    (case l_f9 => k_is)
    (case c_f9 => k_is)
    (case k_f9 => k_is)
    (case a_f10 => k_is)
    (case l_f10 => k_is)
    (case c_f10 => k_is)
    (case k_f10 => k_is)
    (case a_f11 => k_is)
    (case l_f11 => k_is)
    (case c_f11 => k_is)
    (case k_f11 => k_is)
    (case a_f12 => k_is)
    (case l_f12 => k_is)
    (case c_f12 => k_is)
    (case k_f12 => k_is)
    (case a_f13 => k_is)
    (case l_f13 => k_is)
    (case c_f13 => k_is)
    (case k_f13 => k_is)
    (case a_f14 => k_is)
    (case l_f14 => k_is)
    (case c_f14 => k_is)
    (case k_f14 => k_is)
    (case a_f15 => k_is)
    (case l_f15 => k_is)
    (case c_f15 => k_is)
    (case k_f15 => k_is)
    (case a_f16 => k_is)
    (case l_f16 => k_is)
    (case c_f16 => k_is)
    (case k_f16 => k_is)
    (case a_f17 => k_is)
    (case l_f17 => k_is)
    (case c_f17 => k_is)
    (case k_f17 => k_is)
    (case pg => k_is)
    (case hd => k_is)
    (case po => k_is)
    (case sa => k_is)
    (case mk => k_is)
    (case kc => k_is)
    (case nO => k_is)
    (case nP => k_is)
    (case nL => k_is)
    (case nS => k_is)
    (case nM => k_is)
    (case nT => k_is)
    (case z_isi => k_is)
    (case z_int => k_is)
    (case z_bool => k_is)
    (case z_tuple => k_is)
    (case z_sorted => k_is)
    (case z_set => k_is)
    (case z_len => k_is)
    (case z_any => k_is)
    (case z_all => k_is)
    (case z_min => k_is)
    (case z_max => k_is)
    (case z_sum => k_is)
    (case z_range => k_is)
    (case z_enum => k_is)
    (case v_nodes => k_is)
    (case v_height => k_is)
    (case v_trees => k_is)
    (case v_heap => k_is)
    (case v_gn => k_is)
    (case v_gh => k_is)
