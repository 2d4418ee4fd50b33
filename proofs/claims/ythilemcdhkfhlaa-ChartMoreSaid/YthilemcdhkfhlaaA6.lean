/- The law ChartMore returns true for every input, and its arguments read afterwards as before. Part 6 of 6. -/
import Derived.Test.YthilemcdhkfhlaaA5
set_option linter.unusedVariables false
set_option linter.unusedSimpArgs false
set_option maxRecDepth 100000
set_option maxHeartbeats 20000000
namespace Go.Proofs.Ythilemcdhkfhlaa
open Go Go.Gc Go.Proofs
theorem rise_pre {a b : List Int} {x : Int} (h : (rise (a ++ b) x).isSome = true) : (rise a x).isSome = true := by
  rw [rise_app] at h
  cases e : rise a x with
  | none => rw [e] at h; cases h
  | some y => rfl
theorem take_rules {g : Grammar} {j : Nat} (h : ∀ i, i < j → RuleP g i) : ∀ r ∈ g.rules.take j, r.right.length ≤ 8 := by
  intro r hr
  obtain ⟨i, hi, rfl⟩ := List.getElem_of_mem hr
  rw [List.length_take] at hi
  rw [List.getElem_take]
  obtain ⟨_, _, _, h8, _⟩ := h i (by omega)
  exact h8
theorem rules_ref {k : Nat} (hk : 1000000 ≤ k) (g : Grammar) (hg : Bnd g) :
    ∃ x, iter (fun (s : (Int × Int × Int)) => ref03_Good_b2 k g s.1 s.2.1 s.2.2) k (0, 0, 0) = some x ∧
      match x with
      | .inl _ => ¬ ((∀ i, i < g.rules.length → RuleP g i) ∧ (rise (g.rules.map fun r => r.left) (g.terms.length : Int)).isSome = true ∧ (rise (termsOf (g.terms.length : Int) g.rules) 0).isSome = true)
      | .inr y => (∀ i, i < g.rules.length → RuleP g i) ∧ rise (g.rules.map fun r => r.left) (g.terms.length : Int) = some ((g.terms.length : Int) + y.1) ∧ rise (termsOf (g.terms.length : Int) g.rules) 0 = some y.2 := by
  have b1 := hg.tl
  have b2 := hg.nl
  have b3 := hg.rl
  have hw : IntKind.wrap .i64 ((g.terms.length : Int) + (g.names.length : Int)) = (g.terms.length : Int) + (g.names.length : Int) := wrap_id (by omega) (by omega)
  refine iter_up (body := fun (s : (Int × Int × Int)) => ref03_Good_b2 k g s.1 s.2.1 s.2.2) (k := k) g.rules.length
    (fun j s => s.2.2 = (j : Int) ∧ (∀ i, i < j → RuleP g i) ∧ rise ((g.rules.take j).map fun r => r.left) (g.terms.length : Int) = some ((g.terms.length : Int) + s.1) ∧ rise (termsOf (g.terms.length : Int) (g.rules.take j)) 0 = some s.2.1) _ ?_ ?_
    (Nat.zero_le _) (i := 0) (s := (0, 0, 0)) ⟨rfl, by omega, by simp [rise], by simp [rise, termsOf]⟩ (by omega)
  · rintro j ⟨sn, st, i⟩ hj ⟨hi, hall, hl, ht⟩
    simp only at hi hall hl ht
    subst hi
    have le1 := rise_le hl
    have le2 := rise_le ht
    rw [List.length_map, List.length_take] at le1
    have le3 := termsOf_len (g.terms.length : Int) (g.rules.take j) (take_rules hall)
    rw [List.length_take] at le3
    have hr := hg.rz _ (List.getElem_mem hj)
    have tk : g.rules.take (j + 1) = g.rules.take j ++ [g.rules[j]] := List.take_succ_eq_append_getElem hj
    have wl : g.rules = g.rules.take (j + 1) ++ g.rules.drop (j + 1) := (List.take_append_drop (j + 1) _).symm
    have s1 : rise ((g.rules.take (j + 1)).map fun r => r.left) (g.terms.length : Int) = rise [g.rules[j].left] ((g.terms.length : Int) + sn) := by rw [tk, List.map_append, rise_app, hl]; rfl
    have s2 : rise (termsOf (g.terms.length : Int) (g.rules.take (j + 1))) 0 = rise (termsOf (g.terms.length : Int) [g.rules[j]]) st := by rw [tk, termsOf_app, rise_app, ht]; rfl
    have f1 : (rise (g.rules.map fun r => r.left) (g.terms.length : Int)).isSome = true → (rise [g.rules[j].left] ((g.terms.length : Int) + sn)).isSome = true := fun h => by
      rw [wl, List.map_append] at h
      have := rise_pre h
      rwa [s1] at this
    have f2 : (rise (termsOf (g.terms.length : Int) g.rules) 0).isSome = true → (rise (termsOf (g.terms.length : Int) [g.rules[j]]) st).isSome = true := fun h => by
      rw [wl, termsOf_app] at h
      have := rise_pre h
      rwa [s2] at this
    have hw2 : IntKind.wrap .i64 ((g.terms.length : Int) + sn) = (g.terms.length : Int) + sn := wrap_id (by omega) (by omega)
    have hcond : (if (decide (g.rules[j].left < (g.terms.length : Int))) = true then (some true) else (if (decide ((IntKind.wrap .i64 ((g.terms.length : Int) + sn)) < g.rules[j].left)) = true then (some true) else (if (decide ((IntKind.wrap .i64 ((g.terms.length : Int) + (g.names.length : Int))) ≤ g.rules[j].left)) = true then (some true) else (if (decide ((8 : Int) < (g.rules[j].right.length : Int))) = true then (some true) else (if 0 ≤ (0 : Int) ∧ (0 : Int) ≤ (j : Int) ∧ (j : Int) ≤ (g.rules.length : Int) then ((ref03_has k (cutl g.rules (0 : Int).toNat (j : Int).toNat) g.rules[j]).bind fun r1059 => some r1059) else none))))) =
        some (!(decide ((g.terms.length : Int) ≤ g.rules[j].left) && decide (g.rules[j].left ≤ (g.terms.length : Int) + sn) && decide (g.rules[j].left < (g.terms.length : Int) + (g.names.length : Int)) && decide (g.rules[j].right.length ≤ 8) && !hasB (g.rules.take j) g.rules[j])) := by
      rw [hw, hw2]
      by_cases e1 : g.rules[j].left < (g.terms.length : Int)
      · rw [ift e1]; simp [show ¬ ((g.terms.length : Int) ≤ g.rules[j].left) by omega]
      · rw [iff_ e1]
        by_cases e2 : (g.terms.length : Int) + sn < g.rules[j].left
        · rw [ift e2]; simp [show ¬ (g.rules[j].left ≤ (g.terms.length : Int) + sn) by omega]
        · rw [iff_ e2]
          by_cases e3 : (g.terms.length : Int) + (g.names.length : Int) ≤ g.rules[j].left
          · rw [ift e3]; simp [show ¬ (g.rules[j].left < (g.terms.length : Int) + (g.names.length : Int)) by omega]
          · rw [iff_ e3]
            by_cases e4 : (8 : Int) < (g.rules[j].right.length : Int)
            · rw [ift e4]; simp [show ¬ (g.rules[j].right.length ≤ 8) by omega]
            · rw [iff_ e4, if_pos (by omega), cutl_take, has_ref hk _ _ (by rw [List.length_take]; omega) (fun x hx => hg.rz x (List.mem_of_mem_take hx)) hr]
              simp [show (g.terms.length : Int) ≤ g.rules[j].left by omega, show g.rules[j].left ≤ (g.terms.length : Int) + sn by omega, show g.rules[j].left < (g.terms.length : Int) + (g.names.length : Int) by omega, show g.rules[j].right.length ≤ 8 by omega]
    simp only [ref03_Good_b2]
    rw [ift (by omega), at_lt hj]
    simp only [Option.bind_some]
    rw [hcond]
    simp only [Option.bind_some]
    by_cases hc : (decide ((g.terms.length : Int) ≤ g.rules[j].left) && decide (g.rules[j].left ≤ (g.terms.length : Int) + sn) && decide (g.rules[j].left < (g.terms.length : Int) + (g.names.length : Int)) && decide (g.rules[j].right.length ≤ 8) && !hasB (g.rules.take j) g.rules[j]) = true
    · rw [hc, if_neg (by simp)]
      simp only [Bool.and_eq_true, decide_eq_true_eq, Bool.not_eq_true'] at hc
      obtain ⟨⟨⟨⟨c1, c2⟩, c3⟩, c4⟩, c5⟩ := hc
      have hx : ∃ sn', (if (g.rules[j].left == (IntKind.wrap .i64 ((g.terms.length : Int) + sn))) = true then (some (IntKind.wrap .i64 (sn + (1 : Int)))) else (some sn)) = some sn' ∧ rise [g.rules[j].left] ((g.terms.length : Int) + sn) = some ((g.terms.length : Int) + sn') := by
        rw [hw2]
        by_cases e : g.rules[j].left = (g.terms.length : Int) + sn
        · rw [if_pos (by simpa using e), wrap_id (by omega) (by omega)]
          refine ⟨_, rfl, ?_⟩
          simp only [rise]
          rw [if_neg (by omega), if_pos e, Option.some.injEq]
          omega
        · rw [if_neg (by simpa using e)]
          refine ⟨_, rfl, ?_⟩
          simp only [rise]
          rw [if_neg (by omega), if_neg e]
      obtain ⟨sn', hx1, hx2⟩ := hx
      rw [hx1]
      simp only [Option.bind_some, succ_wrap hj (by omega)]
      obtain ⟨y, hy, hp⟩ := right_ref hk g hg g.rules[j] hr st (by omega) (by omega)
      rw [hy]
      cases y with
      | inl u =>
        refine ⟨_, rfl, fun h => hp ⟨?_, f2 h.2.2⟩⟩
        obtain ⟨_, _, _, _, _, h⟩ := h.1 j hj
        exact h
      | inr st' =>
        simp only at hp
        refine ⟨_, rfl, by simp only; omega, fun i hi => ?_, by rw [s1]; exact hx2, by rw [s2]; exact hp.2⟩
        by_cases e : i = j
        · subst e; exact ⟨hj, c1, c3, c4, c5, hp.1⟩
        · exact hall i (by omega)
    · rw [eq_false_of_ne_true hc, if_pos (show (!false) = true from rfl)]
      refine ⟨_, rfl, fun h => hc ?_⟩
      obtain ⟨_, c1, c3, c4, c5, _⟩ := h.1 j hj
      have := f1 h.2.1
      simp only [rise] at this
      have c2 : g.rules[j].left ≤ (g.terms.length : Int) + sn := by
        by_cases e : (g.terms.length : Int) + sn < g.rules[j].left
        · rw [if_pos e] at this; cases this
        · omega
      simp [c1, c2, c3, c4, c5]
  · rintro ⟨sn, st, i⟩ ⟨hi, hall, hl, ht⟩
    simp only at hi hall hl ht
    subst hi
    rw [List.take_length] at hl ht
    simp only [ref03_Good_b2]
    rw [iff_ (by omega)]
    exact ⟨_, rfl, hall, hl, ht⟩
theorem good_ref {k : Nat} (hk : 1000000 ≤ k) (g : Grammar) (hg : Bnd g) : ∃ b, ref03_Good k g = some b ∧ (b = true ↔ GoodP g) := by
  have b1 := hg.tl
  have b2 := hg.nl
  have b3 := hg.rl
  unfold ref03_Good
  have hc : (if (decide ((g.names.length : Int) < (1 : Int))) = true then (some true) else (if (decide ((40 : Int) < (g.names.length : Int))) = true then (some true) else (if (decide ((40 : Int) < (g.terms.length : Int))) = true then (some true) else (if (decide ((g.rules.length : Int) < (1 : Int))) = true then (some true) else (some (decide ((60 : Int) < (g.rules.length : Int)))))))) =
      some (!(decide (1 ≤ g.names.length) && decide (g.names.length ≤ 40) && decide (g.terms.length ≤ 40) && decide (1 ≤ g.rules.length) && decide (g.rules.length ≤ 60))) := by
    by_cases e1 : (g.names.length : Int) < 1
    · rw [ift e1]; simp [show ¬ (1 ≤ g.names.length) by omega]
    · rw [iff_ e1]
      by_cases e2 : (40 : Int) < (g.names.length : Int)
      · rw [ift e2]; simp [show ¬ (g.names.length ≤ 40) by omega]
      · rw [iff_ e2]
        by_cases e3 : (40 : Int) < (g.terms.length : Int)
        · rw [ift e3]; simp [show ¬ (g.terms.length ≤ 40) by omega]
        · rw [iff_ e3]
          by_cases e4 : (g.rules.length : Int) < 1
          · rw [ift e4]; simp [show ¬ (1 ≤ g.rules.length) by omega]
          · rw [iff_ e4, Option.some.injEq]
            simp only [decide_eq_true (show 1 ≤ g.names.length by omega), decide_eq_true (show g.names.length ≤ 40 by omega), decide_eq_true (show g.terms.length ≤ 40 by omega), decide_eq_true (show 1 ≤ g.rules.length by omega), Bool.true_and]
            rw [Bool.eq_iff_iff]
            simp
            omega
  rw [hc]
  simp only [Option.bind_some]
  by_cases h : (decide (1 ≤ g.names.length) && decide (g.names.length ≤ 40) && decide (g.terms.length ≤ 40) && decide (1 ≤ g.rules.length) && decide (g.rules.length ≤ 60)) = true
  · rw [h, if_neg (by simp)]
    simp only [Bool.and_eq_true, decide_eq_true_eq] at h
    obtain ⟨⟨⟨⟨c1, c2⟩, c3⟩, c4⟩, c5⟩ := h
    rcases distinct_ref hk g.names NameP (ref01_IsName k) b2 (fun s hs => isName_ref hk s (hg.nz s hs)) (body := fun s => ref03_Good_b0 k g s) (fun y => rfl) with ⟨h1, p1⟩ | ⟨h1, p1⟩
    · rw [h1]
      exact ⟨false, rfl, by simp, fun h => absurd h.ns p1⟩
    · rw [h1]
      simp only [Option.bind_some, scase_r]
      rcases distinct_ref hk g.terms TermP (ref01_IsTerm k) b1 (fun s hs => isTerm_ref hk s (hg.tz s hs)) (body := fun s => ref03_Good_b1 k g s) (fun y => rfl) with ⟨h2, p2⟩ | ⟨h2, p2⟩
      · rw [h2]
        exact ⟨false, rfl, by simp, fun h => absurd h.ts p2⟩
      · rw [h2]
        simp only [Option.bind_some, scase_r]
        obtain ⟨x, h3, p3⟩ := rules_ref hk g hg
        rw [h3]
        cases x with
        | inl u =>
          exact ⟨false, rfl, by simp, fun h => absurd ⟨h.rs, by rw [h.rl]; rfl, by rw [h.rt]; rfl⟩ p3⟩
        | inr y =>
          simp only [Option.bind_some, scase_r]
          simp only at p3
          obtain ⟨q1, q2, q3⟩ := p3
          by_cases e : y.1 = (g.names.length : Int)
          · rw [if_pos (by simpa using e)]
            refine ⟨_, rfl, ?_⟩
            rw [beq_iff_eq]
            constructor
            · intro e2
              exact ⟨c1, c2, c3, c4, c5, p1, p2, q1, by rw [q2, e], by rw [q3, e2]⟩
            · intro hG
              have := hG.rt
              rw [q3, Option.some.injEq] at this
              exact this
          · rw [if_neg (by simpa using e)]
            refine ⟨_, rfl, by simp, fun hG => ?_⟩
            have := hG.rl
            rw [q2, Option.some.injEq] at this
            omega
  · rw [eq_false_of_ne_true h, if_pos (show (!false) = true from rfl)]
    exact ⟨false, rfl, by simp, fun hG => absurd (by simp [hG.n1, hG.n2, hG.t2, hG.r1, hG.r2]) h⟩
theorem ruled_lex {k : Nat} (hk : 1000000 ≤ k) (g : Grammar) (hg : Bnd g) : ∃ b, grammar_ruled k g = some b ∧ (b = true ↔ 1 ≤ g.rules.length ∧ g.rules.length ≤ 60 ∧ ∀ i, i < g.rules.length → RuleP g i) := by
  have b1 := hg.tl
  have b2 := hg.nl
  have b3 := hg.rl
  have hw : IntKind.wrap .i64 ((g.terms.length : Int) + (g.names.length : Int)) = (g.terms.length : Int) + (g.names.length : Int) := wrap_id (by omega) (by omega)
  have key := all_loop' (body := fun s => grammar_ruled_b0 k g s) (k := k) g.rules.length (fun i => RuleP g i)
    (fun j hj => by
      simp only [grammar_ruled_b0]
      rw [ift (by omega), at_lt hj, hw]
      simp only [Option.bind_some, succ_wrap hj (by omega)]
      by_cases e1 : g.rules[j].left < (g.terms.length : Int)
      · rw [ift e1]; exact .inr ⟨fun ⟨_, h, _⟩ => by omega, rfl⟩
      · rw [iff_ e1]
        by_cases e2 : (g.terms.length : Int) + (g.names.length : Int) ≤ g.rules[j].left
        · rw [ift e2]; exact .inr ⟨fun ⟨_, _, h, _⟩ => by omega, rfl⟩
        · rw [iff_ e2]
          by_cases e3 : (8 : Int) < (g.rules[j].right.length : Int)
          · rw [ift e3]; exact .inr ⟨fun ⟨_, _, _, h, _⟩ => by omega, rfl⟩
          · rw [iff_ e3, if_pos (by omega), cutl_take, has_lex hk _ _ (by rw [List.length_take]; omega) (fun x hx => hg.rz x (List.mem_of_mem_take hx))]
            simp only [Option.bind_some]
            by_cases e4 : hasB (g.rules.take j) g.rules[j] = true
            · rw [if_pos e4]; exact .inr ⟨fun ⟨_, _, _, _, h, _⟩ => (by rw [e4] at h; cases h), rfl⟩
            · rw [if_neg e4]
              have e4' : hasB (g.rules.take j) g.rules[j] = false := by simpa using e4
              have key2 := find_loop (body := fun i => slices_IndexFunc_1_b0 k g.rules[j].right ((g.terms.length : Int) + (g.names.length : Int)) i) g.rules[j].right.length (fun i => if h : i < g.rules[j].right.length then decide (g.rules[j].right[i] < 0) || decide ((g.terms.length : Int) + (g.names.length : Int) ≤ g.rules[j].right[i]) else false) (k := k)
                (fun i hi => by
                  simp only [slices_IndexFunc_1_b0, grammar_ruled_1]
                  rw [ift (by omega), at_lt hi]
                  simp only [Option.bind_some, dif_pos hi, succ_wrap hi (by omega)]
                  by_cases a1 : g.rules[j].right[i] < 0
                  · rw [ift a1]; simp [a1]
                  · rw [iff_ a1]
                    by_cases a2 : (g.terms.length : Int) + (g.names.length : Int) ≤ g.rules[j].right[i]
                    · simp [a1, a2]
                    · simp [a1, a2])
                (by simp [slices_IndexFunc_1_b0]) (by omega)
              unfold slices_ContainsFunc_1 slices_IndexFunc_1
              rcases key2 with ⟨q, hq, hql, hqp, -⟩ | ⟨hq, hqp⟩
              · rw [hq]
                rw [dif_pos hql] at hqp
                simp only [Bool.or_eq_true, decide_eq_true_eq] at hqp
                refine .inr ⟨fun ⟨_, _, _, _, _, h⟩ => ?_, ?_⟩
                · have := h _ (List.getElem_mem hql); omega
                · simp only [Option.bind_some, scase_l]
                  rw [ift (by omega)]
              · rw [hq]
                refine .inl ⟨⟨hj, by omega, by omega, by omega, e4', fun s hs => ?_⟩, rfl⟩
                obtain ⟨i, hi, rfl⟩ := List.getElem_of_mem hs
                have := hqp i hi
                rw [dif_pos hi] at this
                simp only [Bool.or_eq_false_iff, decide_eq_false_iff_not] at this
                omega)
    (by simp [grammar_ruled_b0]) (by omega)
  unfold grammar_ruled
  have hc : (if (decide ((g.rules.length : Int) < (1 : Int))) = true then (some true) else (some (decide ((60 : Int) < (g.rules.length : Int))))) = some (!(decide (1 ≤ g.rules.length) && decide (g.rules.length ≤ 60))) := by
    by_cases e1 : (g.rules.length : Int) < 1
    · rw [ift e1]; simp [show ¬ (1 ≤ g.rules.length) by omega]
    · rw [iff_ e1, Option.some.injEq, decide_eq_true (show 1 ≤ g.rules.length by omega), Bool.true_and, Bool.eq_iff_iff]
      simp
      omega
  rw [hc]
  simp only [Option.bind_some]
  by_cases h : (decide (1 ≤ g.rules.length) && decide (g.rules.length ≤ 60)) = true
  · rw [h, if_neg (by simp)]
    simp only [Bool.and_eq_true, decide_eq_true_eq] at h
    rcases key with ⟨h1, p1⟩ | ⟨h1, p1⟩
    · rw [h1]
      exact ⟨false, rfl, by simp, fun h => absurd h.2.2 p1⟩
    · rw [h1]
      exact ⟨true, rfl, fun _ => ⟨h.1, h.2, p1⟩, fun _ => rfl⟩
  · rw [eq_false_of_ne_true h, if_pos (show (!false) = true from rfl)]
    exact ⟨false, rfl, by simp, fun hG => absurd (by simp [hG.1, hG.2.1]) h⟩
theorem collect_in {k : Nat} (hk : 1000000 ≤ k) (g : Grammar) (r : Rule) (l0 : List Int) (hl : l0.length ≤ 900000) (hr : r.right.length ≤ 4000) :
    iter (fun (s : (Int × (List Int))) => grammar_Good_b1 k g r s.1 s.2) k (0, l0) = some (l0 ++ termsOf (g.terms.length : Int) [r]) := by
  let F := fun s : Int => decide (0 ≤ s) && decide (s < (g.terms.length : Int))
  obtain ⟨x, hx, hp⟩ := iter_up (body := fun (s : (Int × (List Int))) => grammar_Good_b1 k g r s.1 s.2) (k := k) r.right.length
    (fun j s => s.1 = (j : Int) ∧ s.2 = l0 ++ (r.right.take j).filter F) (fun x => x = l0 ++ termsOf (g.terms.length : Int) [r])
    (by
      rintro j ⟨i, l⟩ hj ⟨hi, he⟩
      simp only at hi he
      subst hi he
      have hfl := List.length_filter_le F (r.right.take j)
      rw [List.length_take] at hfl
      have tk : r.right.take (j + 1) = r.right.take j ++ [r.right[j]] := List.take_succ_eq_append_getElem hj
      have hT : grammar_Term k g r.right[j] = some (F r.right[j]) := by
        unfold grammar_Term
        by_cases e : 0 ≤ r.right[j]
        · rw [ift e]; simp [F, e]
        · rw [iff_ e]; simp [F, e]
      simp only [grammar_Good_b1]
      rw [ift (by omega), at_lt hj]
      simp only [Option.bind_some]
      rw [hT]
      simp only [Option.bind_some, succ_wrap hj (by omega)]
      by_cases e : F r.right[j] = true
      · rw [if_pos e, if_pos (by simp only [List.length_append, List.length_singleton]; omega)]
        refine ⟨_, rfl, by simp only; omega, ?_⟩
        simp only
        rw [tk, List.filter_append, List.append_assoc]
        simp [e]
      · rw [if_neg e]
        refine ⟨_, rfl, by simp only; omega, ?_⟩
        simp only
        rw [tk, List.filter_append]
        simp [e])
    (by
      rintro ⟨i, l⟩ ⟨hi, he⟩
      simp only at hi he
      subst hi he
      simp only [grammar_Good_b1]
      rw [iff_ (by omega), List.take_length]
      exact ⟨_, rfl, by rw [termsOf_one]⟩)
    (Nat.zero_le _) (i := 0) (s := (0, l0)) ⟨rfl, by simp⟩ (by omega)
  rw [hx, hp]
theorem collect_lex {k : Nat} (hk : 1000000 ≤ k) (g : Grammar) (hg : Bnd g) (hr : ∀ i, i < g.rules.length → RuleP g i) :
    iter (fun (s : (Int × (List Int) × (List Int))) => grammar_Good_b0 k g s.1 s.2.1 s.2.2) k (0, [], []) = some (g.rules.map (fun r => r.left), termsOf (g.terms.length : Int) g.rules) := by
  have b3 := hg.rl
  obtain ⟨x, hx, hp⟩ := iter_up (body := fun (s : (Int × (List Int) × (List Int))) => grammar_Good_b0 k g s.1 s.2.1 s.2.2) (k := k) g.rules.length
    (fun j s => s.1 = (j : Int) ∧ s.2.1 = (g.rules.take j).map (fun r => r.left) ∧ s.2.2 = termsOf (g.terms.length : Int) (g.rules.take j)) (fun x => x = (g.rules.map (fun r => r.left), termsOf (g.terms.length : Int) g.rules))
    (by
      rintro j ⟨i, l1, l2⟩ hj ⟨hi, he1, he2⟩
      simp only at hi he1 he2
      subst hi he1 he2
      have le3 := termsOf_len (g.terms.length : Int) (g.rules.take j) (take_rules fun i hi => hr i (by omega))
      rw [List.length_take] at le3
      have tk : g.rules.take (j + 1) = g.rules.take j ++ [g.rules[j]] := List.take_succ_eq_append_getElem hj
      simp only [grammar_Good_b0]
      rw [ift (by omega), at_lt hj]
      simp only [Option.bind_some]
      rw [if_pos (by simp only [List.length_map, List.length_take, List.length_singleton]; omega), collect_in hk g g.rules[j] _ (by omega) (hg.rz _ (List.getElem_mem hj))]
      simp only [Option.bind_some, succ_wrap hj (by omega)]
      refine ⟨_, rfl, by simp only; omega, ?_, ?_⟩
      · simp only; rw [tk, List.map_append]; rfl
      · simp only; rw [tk, termsOf_app])
    (by
      rintro ⟨i, l1, l2⟩ ⟨hi, he1, he2⟩
      simp only at hi he1 he2
      subst hi he1 he2
      simp only [grammar_Good_b0]
      rw [iff_ (by omega), List.take_length]
      exact ⟨_, rfl, rfl⟩)
    (Nat.zero_le _) (i := 0) (s := (0, [], [])) ⟨rfl, rfl, rfl⟩ (by omega)
  rw [hx, hp]
theorem good_lex {k : Nat} (hk : 1000000 ≤ k) (g : Grammar) (hg : Bnd g) : ∃ b, grammar_Good k g = some b ∧ (b = true ↔ GoodP g) := by
  have b1 := hg.tl
  have b2 := hg.nl
  have b3 := hg.rl
  unfold grammar_Good grammar_distinct grammar_distinct_1
  rcases distinct_lex hk g.names NameP (lex_IsName k) b2 (fun s hs => isName_iff hk s (hg.nz s hs)) (body := fun s => grammar_distinct_b0 k g.names s) (fun y => rfl) with ⟨h1, p1⟩ | ⟨h1, p1⟩
  · rw [h1]
    exact ⟨false, rfl, by simp, fun h => absurd h.ns p1⟩
  rw [h1]
  simp only [Option.bind_some, scase_r]
  have hn : (if (decide ((1 : Int) ≤ (g.names.length : Int))) = true then (some (decide ((g.names.length : Int) ≤ (40 : Int)))) else (some false)) = some (decide (1 ≤ g.names.length ∧ g.names.length ≤ 40)) := by
    by_cases e : (1 : Int) ≤ (g.names.length : Int)
    · rw [ift e, Option.some.injEq, Bool.eq_iff_iff]; simp; omega
    · rw [iff_ e, Option.some.injEq, Bool.eq_iff_iff]; simp; omega
  rw [hn]
  simp only [Option.bind_some]
  by_cases c1 : 1 ≤ g.names.length ∧ g.names.length ≤ 40
  rotate_left
  · rw [decide_eq_false c1]
    exact ⟨false, rfl, by simp, fun h => absurd ⟨h.n1, h.n2⟩ c1⟩
  rw [decide_eq_true c1, if_neg (by simp)]
  rcases distinct_lex hk g.terms TermP (lex_IsTerm k) b1 (fun s hs => isTerm_iff hk s (hg.tz s hs)) (body := fun s => grammar_distinct_1_b0 k g.terms s) (fun y => rfl) with ⟨h2, p2⟩ | ⟨h2, p2⟩
  · rw [h2]
    exact ⟨false, rfl, by simp, fun h => absurd h.ts p2⟩
  rw [h2]
  simp only [Option.bind_some, scase_r]
  rw [ift (by omega : (0 : Int) ≤ (g.terms.length : Int))]
  simp only [Option.bind_some]
  by_cases c2 : g.terms.length ≤ 40
  rotate_left
  · rw [decide_eq_false (show ¬ ((g.terms.length : Int) ≤ 40) by omega)]
    exact ⟨false, rfl, by simp, fun h => absurd h.t2 c2⟩
  rw [decide_eq_true (show ((g.terms.length : Int) ≤ 40) by omega), if_neg (by simp)]
  obtain ⟨b, h3, p3⟩ := ruled_lex hk g hg
  rw [h3]
  simp only [Option.bind_some]
  cases b with
  | false => exact ⟨false, rfl, by simp, fun h => by have := p3.2 ⟨h.r1, h.r2, h.rs⟩; cases this⟩
  | true =>
    obtain ⟨c3, c4, c5⟩ := p3.1 rfl
    rw [if_neg (by simp), collect_lex hk g hg c5]
    simp only [Option.bind_some]
    rw [wrap_id (x := (g.terms.length : Int) + (g.names.length : Int)) (by omega) (by omega), rise_lex hk _ _ _ (by rw [List.length_map]; omega) (by omega) (by omega)]
    simp only [Option.bind_some]
    have le3 := termsOf_len (g.terms.length : Int) (g.rules.take g.rules.length) (take_rules c5)
    rw [List.take_length] at le3
    by_cases c6 : rise (g.rules.map fun r => r.left) (g.terms.length : Int) = some ((g.terms.length : Int) + (g.names.length : Int))
    · rw [decide_eq_true c6, if_pos rfl, rise_lex hk _ _ _ (by omega) (by omega) (by omega)]
      refine ⟨_, rfl, ?_⟩
      rw [decide_eq_true_eq]
      exact ⟨fun h => ⟨c1.1, c1.2, c2, c3, c4, p1, p2, c5, c6, h⟩, fun h => h.rt⟩
    · rw [decide_eq_false c6]
      exact ⟨false, rfl, by simp, fun h => absurd h.rl c6⟩
end Go.Proofs.Ythilemcdhkfhlaa
namespace ChartMath
abbrev Rs := List (Int × List Int)
inductive It where
  | sym (s : Int) (i j : Nat)
  | part (k d i j : Nat)
inductive Dv (rs : Rs) (w : List Int) (t : Int) : It → Prop where
  | tok {i : Nat} {s : Int} : w[i]? = some s → 0 ≤ s → s < t → Dv rs w t (.sym s i (i + 1))
  | rule {k i j : Nat} {r : Int × List Int} : rs[k]? = some r → Dv rs w t (.part k r.2.length i j) → Dv rs w t (.sym r.1 i j)
  | nil {k i : Nat} {r : Int × List Int} : rs[k]? = some r → i ≤ w.length → Dv rs w t (.part k 0 i i)
  | next {k d i m j : Nat} {s : Int} {r : Int × List Int} : rs[k]? = some r → r.2[d]? = some s → Dv rs w t (.part k d i m) → Dv rs w t (.sym s m j) → Dv rs w t (.part k (d + 1) i j)
def It.ok (rs : Rs) (n : Nat) : It → Prop
  | .sym _ i j => i ≤ j ∧ j ≤ n
  | .part k d i j => i ≤ j ∧ j ≤ n ∧ ∃ r, rs[k]? = some r ∧ d ≤ r.2.length
theorem Dv.ok {rs : Rs} {w : List Int} {t : Int} {x : It} (h : Dv rs w t x) : x.ok rs w.length := by
  induction h with
  | tok h _ _ =>
    have := (List.getElem?_eq_some_iff.1 h).1
    exact ⟨by omega, by omega⟩
  | rule _ _ ih => exact ⟨ih.1, ih.2.1⟩
  | nil h hi => exact ⟨Nat.le_refl _, hi, _, h, Nat.zero_le _⟩
  | next h hs _ _ ih1 ih2 =>
    refine ⟨Nat.le_trans ih1.1 ih2.1, ih2.2, _, h, ?_⟩
    exact (List.getElem?_eq_some_iff.1 hs).1
theorem Dv.more {rs : Rs} {w : List Int} {t : Int} {x : It} (ex : Rs) (h : Dv rs w t x) : Dv (rs ++ ex) w t x := by
  have up : ∀ {k : Nat} {r : Int × List Int}, rs[k]? = some r → (rs ++ ex)[k]? = some r := fun h => by
    rw [List.getElem?_append_left (List.getElem?_eq_some_iff.1 h).1]; exact h
  induction h with
  | tok h h0 h1 => exact .tok h h0 h1
  | rule h _ ih => exact .rule (up h) ih
  | nil h hi => exact .nil (up h) hi
  | next h hs _ _ ih1 ih2 => exact .next (up h) hs ih1 ih2
theorem Dv.term {rs : Rs} {w : List Int} {t : Int} (hl : ∀ (k : Nat) (r : Int × List Int), rs[k]? = some r → t ≤ r.1) {s : Int} {i j : Nat} (h : Dv rs w t (.sym s i j)) (hs : s < t) : w[i]? = some s ∧ j = i + 1 ∧ 0 ≤ s := by
  cases h with
  | tok h h0 _ => exact ⟨h, rfl, h0⟩
  | rule h _ => have := hl _ _ h; omega
def tells (sy : Int → Nat → Nat → Prop) (pa : Nat → Nat → Nat → Nat → Prop) : It → Prop
  | .sym s i j => sy s i j
  | .part k d i j => pa k d i j
theorem complete {rs : Rs} {w : List Int} {t : Int} {sy : Int → Nat → Nat → Prop} {pa : Nat → Nat → Nat → Nat → Prop}
    (htok : ∀ i s, w[i]? = some s → 0 ≤ s → s < t → sy s i (i + 1))
    (hnil : ∀ k i r, rs[k]? = some r → i ≤ w.length → pa k 0 i i)
    (hrule : ∀ k i j r, rs[k]? = some r → pa k r.2.length i j → sy r.1 i j)
    (hnext : ∀ k d i m j s r, rs[k]? = some r → r.2[d]? = some s → pa k d i m → sy s m j → pa k (d + 1) i j)
    {x : It} (h : Dv rs w t x) : tells sy pa x := by
  induction h with
  | tok h h0 h1 => exact htok _ _ h h0 h1
  | rule h _ ih => exact hrule _ _ _ _ h ih
  | nil h hi => exact hnil _ _ _ h hi
  | next h hs _ _ ih1 ih2 => exact hnext _ _ _ _ _ _ _ h hs ih1 ih2
end ChartMath
namespace Go.Proofs.Ythilemcdhkfhlaa
open Go Go.Gc Go.Proofs ChartMath
structure Fit (g : Grammar) : Prop where
  t2 : g.terms.length ≤ 40
  n2 : g.names.length ≤ 40
  r2 : g.rules.length ≤ 60
  ok : ∀ k, (h : k < g.rules.length) → (g.terms.length : Int) ≤ g.rules[k].left ∧ g.rules[k].left < (g.terms.length : Int) + (g.names.length : Int) ∧ g.rules[k].right.length ≤ 8 ∧ ∀ s ∈ g.rules[k].right, 0 ≤ s ∧ s < (g.terms.length : Int) + (g.names.length : Int)
theorem GoodP.fit {g : Grammar} (h : GoodP g) : Fit g := ⟨h.t2, h.n2, h.r2, fun k hk => by
  obtain ⟨_, a, b, c, _, d⟩ := h.rs k hk
  exact ⟨a, b, c, d⟩⟩
def rowBase (rs : List Rule) (k : Nat) : Nat := ((rs.take k).map fun r => r.right.length + 1).sum
theorem rowBase_succ {rs : List Rule} {k : Nat} (h : k < rs.length) : rowBase rs (k + 1) = rowBase rs k + (rs[k].right.length + 1) := by
  unfold rowBase
  rw [List.take_succ_eq_append_getElem h, List.map_append, List.sum_append]
  simp
theorem rowBase_mono {rs : List Rule} {k m : Nat} (h : k < m) (hm : m ≤ rs.length) : rowBase rs k + (rs[k]'(by omega)).right.length + 1 ≤ rowBase rs m := by
  induction m with
  | zero => omega
  | succ m ih =>
    rw [rowBase_succ (by omega : m < rs.length)]
    by_cases e : k = m
    · subst e; omega
    · have := ih (by omega) (by omega); omega
theorem rowBase_le {g : Grammar} (hf : Fit g) {k : Nat} (h : k ≤ g.rules.length) : rowBase g.rules k ≤ 9 * k := by
  induction k with
  | zero => simp [rowBase]
  | succ k ih =>
    rw [rowBase_succ (by omega : k < g.rules.length)]
    have := ih (by omega)
    have := (hf.ok k (by omega)).2.2.1
    omega
def bases (rs : List Rule) : List Int := (List.range rs.length).map fun k => (rowBase rs k : Int)
theorem bases_at {rs : List Rule} {k : Nat} (h : k < rs.length) : at? (bases rs) (k : Int) = some (rowBase rs k : Int) := by
  rw [at_lt (by simp [bases]; exact h)]
  simp [bases]
def idx (n row i j : Nat) : Nat := (row * (n + 1) + i) * (n + 1) + j
theorem wrapN {a : Nat} (h : a ≤ 9223372036854775807) : IntKind.wrap .i64 (a : Int) = (a : Int) := wrap_id (by omega) (by omega)
theorem idx_int {n row i j : Nat} (hn : n ≤ 40) (hr : row ≤ 1000) (hi : i ≤ 41) (hj : j ≤ 41) :
    IntKind.wrap .i64 ((IntKind.wrap .i64 ((IntKind.wrap .i64 ((IntKind.wrap .i64 ((row : Int) * (IntKind.wrap .i64 ((n : Int) + (1 : Int))))) + (i : Int))) * (IntKind.wrap .i64 ((n : Int) + (1 : Int))))) + (j : Int)) = ((idx n row i j : Nat) : Int) := by
  have e1 : IntKind.wrap .i64 ((n : Int) + (1 : Int)) = ((n + 1 : Nat) : Int) := wrap_id (by omega) (by omega)
  have b1 : row * (n + 1) ≤ 1000 * 41 := Nat.mul_le_mul hr (by omega)
  have b2 : (row * (n + 1) + i) * (n + 1) ≤ 41041 * 41 := Nat.mul_le_mul (by omega) (by omega)
  rw [e1, show (row : Int) * ((n + 1 : Nat) : Int) = ((row * (n + 1) : Nat) : Int) by simp, wrapN (by omega), show ((row * (n + 1) : Nat) : Int) + (i : Int) = ((row * (n + 1) + i : Nat) : Int) by omega, wrapN (by omega),
    show ((row * (n + 1) + i : Nat) : Int) * ((n + 1 : Nat) : Int) = (((row * (n + 1) + i) * (n + 1) : Nat) : Int) by simp, wrapN (by omega), show (((row * (n + 1) + i) * (n + 1) : Nat) : Int) + (j : Int) = (((row * (n + 1) + i) * (n + 1) + j : Nat) : Int) by omega, wrapN (by omega)]
  rfl
theorem idx_lt {n row i j R : Nat} (hr : row < R) (hi : i ≤ n) (hj : j ≤ n) : idx n row i j < R * ((n + 1) * (n + 1)) := by
  unfold idx
  have h1 : (row * (n + 1) + i) + 1 ≤ R * (n + 1) := by
    have : (row + 1) * (n + 1) ≤ R * (n + 1) := Nat.mul_le_mul_right _ hr
    rw [Nat.add_mul] at this
    omega
  have h2 : ((row * (n + 1) + i) + 1) * (n + 1) ≤ R * (n + 1) * (n + 1) := Nat.mul_le_mul_right _ h1
  rw [Nat.add_mul (row * (n + 1) + i) 1 (n + 1)] at h2
  rw [← Nat.mul_assoc]
  omega
theorem pair_inj {N a b c d : Nat} (hb : b < N) (hd : d < N) (h : a * N + b = c * N + d) : a = c ∧ b = d := by
  have hN : 0 < N := by omega
  have h1 : (a * N + b) / N = a := by rw [Nat.mul_comm, Nat.mul_add_div hN, Nat.div_eq_of_lt hb, Nat.add_zero]
  have h2 : (c * N + d) / N = c := by rw [Nat.mul_comm, Nat.mul_add_div hN, Nat.div_eq_of_lt hd, Nat.add_zero]
  rw [h, h2] at h1
  subst h1
  exact ⟨rfl, by omega⟩
theorem idx_inj {n r1 i1 j1 r2 i2 j2 : Nat} (hi1 : i1 ≤ n) (hj1 : j1 ≤ n) (hi2 : i2 ≤ n) (hj2 : j2 ≤ n) (h : idx n r1 i1 j1 = idx n r2 i2 j2) : r1 = r2 ∧ i1 = i2 ∧ j1 = j2 := by
  obtain ⟨h1, h2⟩ := pair_inj (by omega) (by omega) h
  obtain ⟨h3, h4⟩ := pair_inj (by omega) (by omega) h1
  exact ⟨h3, h4, h2⟩
def VP (g : Grammar) (n k d i j : Nat) : Prop := ∃ h : k < g.rules.length, d ≤ g.rules[k].right.length ∧ i ≤ n ∧ j ≤ n
def rows (g : Grammar) : Nat := rowBase g.rules g.rules.length
theorem VP.row {g : Grammar} {n k d i j : Nat} (h : VP g n k d i j) : rowBase g.rules k + d < rows g := by
  obtain ⟨hk, hd, _⟩ := h
  have := rowBase_mono hk (Nat.le_refl _)
  unfold rows
  omega
theorem row_inj {g : Grammar} {n k d i j k' d' i' j' : Nat} (h : VP g n k d i j) (h' : VP g n k' d' i' j') (e : rowBase g.rules k + d = rowBase g.rules k' + d') : k = k' ∧ d = d' := by
  obtain ⟨hk, hd, _⟩ := h
  obtain ⟨hk', hd', _⟩ := h'
  rcases Nat.lt_trichotomy k k' with c | c | c
  · have := rowBase_mono c (by omega : k' ≤ g.rules.length); omega
  · subst c; exact ⟨rfl, by omega⟩
  · have := rowBase_mono c (by omega : k ≤ g.rules.length); omega
def PaT (g : Grammar) (n : Nat) (pa : List Bool) (k d i j : Nat) : Prop := pa[idx n (rowBase g.rules k + d) i j]? = some true
def SyT (n : Nat) (sy : List Bool) (s i j : Nat) : Prop := sy[idx n s i j]? = some true
def P4 (k d i j : Nat) : Part := ⟨(k : Int), (d : Int), (i : Int), (j : Int)⟩
theorem P4_inj {k d i j k' d' i' j' : Nat} (h : P4 k d i j = P4 k' d' i' j') : k = k' ∧ d = d' ∧ i = i' ∧ j = j' := by
  unfold P4 at h
  injection h with h1 h2 h3 h4
  omega
def nf (l : List Bool) : Nat := l.countP fun b => !b
theorem nf_set {l : List Bool} {a : Nat} (h : l[a]? = some false) : nf (l.set a true) + 1 = nf l := by
  induction l generalizing a with
  | nil => simp at h
  | cons b l ih =>
    cases a with
    | zero =>
      simp only [List.getElem?_cons_zero, Option.some.injEq] at h
      subst h
      simp [nf]
    | succ a =>
      rw [List.getElem?_cons_succ] at h
      have := ih h
      simp only [nf, List.set_cons_succ, List.countP_cons] at this ⊢
      omega
def rsOf (g : Grammar) : Rs := g.rules.map fun r => (r.left, r.right)
theorem rsOf_at {g : Grammar} {k : Nat} (h : k < g.rules.length) : (rsOf g)[k]? = some (g.rules[k].left, g.rules[k].right) := by simp [rsOf, h]
theorem rsOf_inv {g : Grammar} {k : Nat} {r : Int × List Int} (h : (rsOf g)[k]? = some r) : ∃ hk : k < g.rules.length, r = (g.rules[k].left, g.rules[k].right) := by
  have hk : k < g.rules.length := by have := (List.getElem?_eq_some_iff.1 h).1; simpa [rsOf] using this
  rw [rsOf_at hk, Option.some.injEq] at h
  exact ⟨hk, h.symm⟩
abbrev DvG (g : Grammar) (w : List Int) : It → Prop := Dv (rsOf g) w (g.terms.length : Int)
def Closed (g : Grammar) (n : Nat) (sy pa : List Bool) (k d i j : Nat) : Prop := ∀ h : k < g.rules.length, (d = g.rules[k].right.length → SyT n sy g.rules[k].left.toNat i j) ∧
  ∀ (hd : d < g.rules[k].right.length) (m : Nat), m ≤ n → SyT n sy (g.rules[k].right[d]).toNat j m → PaT g n pa k (d + 1) i m
structure TI (g : Grammar) (w : List Int) (sy pa : List Bool) (todo : List Part) (X : Nat → Nat → Nat → Nat → Prop) : Prop where
  ls : sy.length = (g.terms.length + g.names.length) * ((w.length + 1) * (w.length + 1))
  lp : pa.length = rows g * ((w.length + 1) * (w.length + 1))
  ss : ∀ s i j, s < g.terms.length + g.names.length → i ≤ w.length → j ≤ w.length → SyT w.length sy s i j → DvG g w (.sym (s : Int) i j)
  ps : ∀ k d i j, VP g w.length k d i j → PaT g w.length pa k d i j → DvG g w (.part k d i j)
  td : ∀ p ∈ todo, ∃ k d i j, VP g w.length k d i j ∧ p = P4 k d i j ∧ PaT g w.length pa k d i j
  cl : ∀ k d i j, VP g w.length k d i j → PaT g w.length pa k d i j → P4 k d i j ∉ todo → ¬ X k d i j → Closed g w.length sy pa k d i j
  cn : todo.length + nf pa ≤ pa.length
structure Grow (g : Grammar) (w : List Int) (pa : List Bool) (todo : List Part) (pa' : List Bool) (todo' : List Part) : Prop where
  pm : ∀ x : Nat, pa[x]? = some true → pa'[x]? = some true
  nw : ∀ k d i j, VP g w.length k d i j → PaT g w.length pa' k d i j → PaT g w.length pa k d i j ∨ P4 k d i j ∈ todo'
  td : ∀ p ∈ todo, p ∈ todo'
  cn : todo'.length + nf pa' = todo.length + nf pa
theorem Grow.refl {g : Grammar} {w : List Int} {pa : List Bool} {todo : List Part} : Grow g w pa todo pa todo := ⟨fun _ h => h, fun _ _ _ _ _ h => .inl h, fun _ h => h, rfl⟩
theorem Grow.trans {g : Grammar} {w : List Int} {pa pa' pa'' : List Bool} {todo todo' todo'' : List Part} (a : Grow g w pa todo pa' todo') (b : Grow g w pa' todo' pa'' todo'') : Grow g w pa todo pa'' todo'' :=
  ⟨fun x h => b.pm x (a.pm x h), fun k d i j hv h => by
    rcases b.nw k d i j hv h with h | h
    · rcases a.nw k d i j hv h with h | h
      · exact .inl h
      · exact .inr (b.td _ h)
    · exact .inr h, fun p h => b.td p (a.td p h), by rw [b.cn, a.cn]⟩
theorem set_true {l : List Bool} {a x : Nat} (h : l[x]? = some true) : (l.set a true)[x]? = some true := by
  rw [List.getElem?_set]
  have := (List.getElem?_eq_some_iff.1 h).1
  split
  · rw [if_pos (by omega)]
  · exact h
theorem set_inv {l : List Bool} {a x : Nat} (h : (l.set a true)[x]? = some true) : a = x ∨ l[x]? = some true := by
  rw [List.getElem?_set] at h
  split at h
  · exact .inl (by assumption)
  · exact .inr h
theorem set_here {l : List Bool} {a : Nat} (h : a < l.length) : (l.set a true)[a]? = some true := by
  rw [List.getElem?_set, if_pos rfl, if_pos h]
theorem part_spec {g : Grammar} (hf : Fit g) {w : List Int} (hn : w.length ≤ 40) {sy pa : List Bool} {todo : List Part} {X : Nat → Nat → Nat → Nat → Prop} (hT : TI g w sy pa todo X) {k d i j : Nat} (hv : VP g w.length k d i j) (hd : DvG g w (.part k d i j)) (K : Nat) (sya : List Bool) (ch : List Part) :
    ∃ pa' todo', chart_Chart_part K (P4 k d i j) g.terms g.names g.rules (w.length : Int) sya pa (bases g.rules) todo 1 ch = some (pa', todo') ∧ TI g w sy pa' todo' X ∧ PaT g w.length pa' k d i j ∧ Grow g w pa todo pa' todo' := by
  obtain ⟨hk, hdl, hi, hj⟩ := id hv
  have hr := hv.row
  have h9 := rowBase_le hf (Nat.le_refl g.rules.length)
  have hr2 := hf.r2
  have hrb : rowBase g.rules k + d ≤ 1000 := by unfold rows at hr; omega
  have hlt : idx w.length (rowBase g.rules k + d) i j < pa.length := by rw [hT.lp]; exact idx_lt hr hi hj
  have hN : (w.length + 1) * (w.length + 1) ≤ 41 * 41 := Nat.mul_le_mul (by omega) (by omega)
  have hpl : pa.length ≤ 540 * (41 * 41) := by rw [hT.lp]; exact Nat.mul_le_mul (by unfold rows; omega) hN
  have e : IntKind.wrap .i64 ((rowBase g.rules k : Int) + (d : Int)) = ((rowBase g.rules k + d : Nat) : Int) := by rw [wrap_id (by omega) (by omega)]; omega
  unfold chart_Chart_part
  simp only [P4]
  rw [bases_at hk]
  simp only [Option.bind_some, chart_Chart_at, e]
  rw [idx_int hn hrb (by omega) (by omega), at_lt hlt]
  simp only [Option.bind_some, Int.toNat_natCast]
  cases hb : pa[idx w.length (rowBase g.rules k + d) i j] with
  | true =>
    rw [if_neg (by simp)]
    exact ⟨_, _, rfl, hT, by unfold PaT; rw [List.getElem?_eq_getElem hlt, hb], .refl⟩
  | false =>
    have hcn := hT.cn
    rw [if_pos (by simp)]
    unfold chart_queue_put
    rw [if_pos (by simp only [List.length_singleton]; omega)]
    have hpf : pa[idx w.length (rowBase g.rules k + d) i j]? = some false := by rw [List.getElem?_eq_getElem hlt, hb]
    have hnf := nf_set hpf
    have hinv : ∀ k' d' i' j', VP g w.length k' d' i' j' → PaT g w.length (pa.set (idx w.length (rowBase g.rules k + d) i j) true) k' d' i' j' → PaT g w.length pa k' d' i' j' ∨ (k' = k ∧ d' = d ∧ i' = i ∧ j' = j) := fun k' d' i' j' hv' h => by
      rcases set_inv h with h | h
      · obtain ⟨_, _, hi', hj'⟩ := id hv'
        obtain ⟨a, b, c⟩ := idx_inj hi hj hi' hj' h
        obtain ⟨a1, a2⟩ := row_inj hv hv' a
        exact .inr ⟨a1.symm, a2.symm, b.symm, c.symm⟩
      · exact .inl h
    refine ⟨_, _, rfl, ⟨hT.ls, by rw [List.length_set]; exact hT.lp, hT.ss, ?_, ?_, ?_, ?_⟩, set_here hlt, ⟨fun x h => set_true h, ?_, fun p h => List.mem_append_left _ h, ?_⟩⟩
    · intro k' d' i' j' hv' h
      rcases hinv k' d' i' j' hv' h with h | ⟨rfl, rfl, rfl, rfl⟩
      · exact hT.ps _ _ _ _ hv' h
      · exact hd
    · intro p hp
      rw [List.mem_append] at hp
      rcases hp with hp | hp
      · obtain ⟨k', d', i', j', hv', hp', h'⟩ := hT.td p hp
        exact ⟨k', d', i', j', hv', hp', set_true h'⟩
      · rw [List.mem_singleton] at hp
        exact ⟨k, d, i, j, hv, hp, set_here hlt⟩
    · intro k' d' i' j' hv' h hnt hX
      rw [List.mem_append, List.mem_singleton] at hnt
      rcases hinv k' d' i' j' hv' h with h | ⟨rfl, rfl, rfl, rfl⟩
      · intro hk'
        obtain ⟨c1, c2⟩ := hT.cl k' d' i' j' hv' h (fun x => hnt (.inl x)) hX hk'
        exact ⟨c1, fun hd' m hm hs => set_true (c2 hd' m hm hs)⟩
      · exact absurd (.inr rfl) hnt
    · rw [List.length_set, List.length_append, List.length_singleton]; omega
    · intro k' d' i' j' hv' h
      rcases hinv k' d' i' j' hv' h with h | ⟨rfl, rfl, rfl, rfl⟩
      · exact .inl h
      · exact .inr (List.mem_append_right _ (List.mem_singleton.2 rfl))
    · rw [List.length_append, List.length_singleton]; omega
end Go.Proofs.Ythilemcdhkfhlaa
namespace Go.Proofs.Ythilemcdhkfhlaa
open Go Go.Gc Go.Proofs ChartMath
theorem nat_of {x : Int} (h : 0 ≤ x) : ∃ n : Nat, x = (n : Int) := ⟨x.toNat, by omega⟩
theorem sym_in2 {g : Grammar} (hf : Fit g) {w : List Int} (hn : w.length ≤ 40) {sy : List Bool} {X : Nat → Nat → Nat → Nat → Prop} {s i j : Nat} (hi : i ≤ w.length) (hj : j ≤ w.length) (hs : DvG g w (.sym (s : Int) i j))
    {k d : Nat} (hk : k < g.rules.length) (hd : d < g.rules[k].right.length) (hsd : g.rules[k].right[d] = (s : Int)) {pa : List Bool} {todo : List Part} (hT : TI g w sy pa todo X) {K : Nat} (hK : 1000000 ≤ K) (sya : List Bool) (ch : List Part) :
    ∃ pa' todo', iter (fun (s_1 : (Int × (List Bool) × (List Part))) => chart_Chart_sym_b2 K (⟨(s : Int), (i : Int), (j : Int)⟩ : Span) g.terms g.names g.rules (w.length : Int) (bases g.rules) 1 ch (k : Int) sya (d : Int) s_1.1 s_1.2.1 s_1.2.2) K (0, pa, todo) = some (pa', todo') ∧ TI g w sy pa' todo' X ∧ Grow g w pa todo pa' todo' ∧
      ∀ m, m ≤ i → PaT g w.length pa k d m i → PaT g w.length pa' k (d + 1) m j := by
  have hr2 := hf.r2
  have h9 := rowBase_le hf (Nat.le_of_lt hk)
  have h8 := (hf.ok k hk).2.2.1
  obtain ⟨x, hx, hp⟩ := iter_up (body := fun (s_1 : (Int × (List Bool) × (List Part))) => chart_Chart_sym_b2 K (⟨(s : Int), (i : Int), (j : Int)⟩ : Span) g.terms g.names g.rules (w.length : Int) (bases g.rules) 1 ch (k : Int) sya (d : Int) s_1.1 s_1.2.1 s_1.2.2) (k := K) (i + 1)
    (fun q st => st.1 = (q : Int) ∧ TI g w sy st.2.1 st.2.2 X ∧ Grow g w pa todo st.2.1 st.2.2 ∧ ∀ m, m < q → PaT g w.length pa k d m i → PaT g w.length st.2.1 k (d + 1) m j)
    (fun x => TI g w sy x.1 x.2 X ∧ Grow g w pa todo x.1 x.2 ∧ ∀ m, m ≤ i → PaT g w.length pa k d m i → PaT g w.length x.1 k (d + 1) m j)
    (by
      rintro q ⟨y, pa1, td1⟩ hq ⟨hy, hT1, hG1, hP1⟩
      simp only at hy hT1 hG1 hP1
      subst hy
      have hv : VP g w.length k d q i := ⟨hk, by omega, by omega, hi⟩
      have hlt : idx w.length (rowBase g.rules k + d) q i < pa1.length := by rw [hT1.lp]; exact idx_lt hv.row (by omega) hi
      have e : IntKind.wrap .i64 ((rowBase g.rules k : Int) + (d : Int)) = ((rowBase g.rules k + d : Nat) : Int) := by rw [wrap_id (by omega) (by omega)]; omega
      have e2 : IntKind.wrap .i64 ((d : Int) + 1) = ((d + 1 : Nat) : Int) := by rw [wrap_id (by omega) (by omega)]; omega
      simp only [chart_Chart_sym_b2]
      rw [ift (by rw [wrap_id (by omega) (by omega)]; omega), bases_at hk]
      simp only [Option.bind_some, chart_Chart_at, e]
      rw [idx_int hn (by omega) (by omega) (by omega), at_lt hlt]
      simp only [Option.bind_some, succ_wrap (show q < 1000000 by omega) (by omega), e2]
      cases hb : pa1[idx w.length (rowBase g.rules k + d) q i] with
      | true =>
        rw [if_pos rfl]
        have hPq : PaT g w.length pa1 k d q i := by unfold PaT; rw [List.getElem?_eq_getElem hlt, hb]
        have hD : DvG g w (.part k (d + 1) q j) := .next (rsOf_at hk) (by show g.rules[k].right[d]? = _; rw [List.getElem?_eq_getElem hd, hsd]) (hT1.ps _ _ _ _ hv hPq) hs
        obtain ⟨pa2, td2, h2, hT2, hP2, hG2⟩ := part_spec hf hn hT1 (k := k) (d := d + 1) (i := q) (j := j) ⟨hk, by omega, by omega, hj⟩ hD K sya ch
        rw [show (⟨(k : Int), ((d + 1 : Nat) : Int), (q : Int), (j : Int)⟩ : Part) = P4 k (d + 1) q j from rfl, h2]
        refine ⟨_, rfl, by simp only; omega, hT2, hG1.trans hG2, fun m hm h => ?_⟩
        by_cases e : m = q
        · subst e; exact hP2
        · exact hG2.pm _ (hP1 m (by omega) h)
      | false =>
        rw [if_neg (by simp)]
        refine ⟨_, rfl, by simp only; omega, hT1, hG1, fun m hm h => ?_⟩
        by_cases e : m = q
        · subst e
          have := hG1.pm _ h
          rw [List.getElem?_eq_getElem hlt, hb] at this
          cases this
        · exact hP1 m (by omega) h)
    (by
      rintro ⟨y, pa1, td1⟩ ⟨hy, hT1, hG1, hP1⟩
      simp only at hy hT1 hG1 hP1
      subst hy
      simp only [chart_Chart_sym_b2]
      rw [iff_ (by rw [wrap_id (by omega) (by omega)]; omega)]
      exact ⟨_, rfl, hT1, hG1, fun m hm h => hP1 m (by omega) h⟩)
    (Nat.zero_le _) (i := 0) (s := (0, pa, todo)) ⟨rfl, hT, .refl, by omega⟩ (by omega)
  exact ⟨x.1, x.2, hx, hp⟩
theorem sym_in1 {g : Grammar} (hf : Fit g) {w : List Int} (hn : w.length ≤ 40) {sy : List Bool} {X : Nat → Nat → Nat → Nat → Prop} {s i j : Nat} (hi : i ≤ w.length) (hj : j ≤ w.length) (hs : DvG g w (.sym (s : Int) i j))
    {k : Nat} (hk : k < g.rules.length) {pa : List Bool} {todo : List Part} (hT : TI g w sy pa todo X) {K : Nat} (hK : 1000000 ≤ K) (sya : List Bool) (ch : List Part) :
    ∃ pa' todo', iter (fun (s_1 : (Int × (List Bool) × (List Part))) => chart_Chart_sym_b1 K (⟨(s : Int), (i : Int), (j : Int)⟩ : Span) g.terms g.names g.rules (w.length : Int) (bases g.rules) 1 ch (k : Int) sya g.rules[k] s_1.1 s_1.2.1 s_1.2.2) K (0, pa, todo) = some (pa', todo') ∧ TI g w sy pa' todo' X ∧ Grow g w pa todo pa' todo' ∧
      ∀ d, (hd : d < g.rules[k].right.length) → g.rules[k].right[d] = (s : Int) → ∀ m, m ≤ i → PaT g w.length pa k d m i → PaT g w.length pa' k (d + 1) m j := by
  have h8 := (hf.ok k hk).2.2.1
  obtain ⟨x, hx, hp⟩ := iter_up (body := fun (s_1 : (Int × (List Bool) × (List Part))) => chart_Chart_sym_b1 K (⟨(s : Int), (i : Int), (j : Int)⟩ : Span) g.terms g.names g.rules (w.length : Int) (bases g.rules) 1 ch (k : Int) sya g.rules[k] s_1.1 s_1.2.1 s_1.2.2) (k := K) g.rules[k].right.length
    (fun q st => st.1 = (q : Int) ∧ TI g w sy st.2.1 st.2.2 X ∧ Grow g w pa todo st.2.1 st.2.2 ∧ ∀ d, d < q → (hd : d < g.rules[k].right.length) → g.rules[k].right[d] = (s : Int) → ∀ m, m ≤ i → PaT g w.length pa k d m i → PaT g w.length st.2.1 k (d + 1) m j)
    (fun x => TI g w sy x.1 x.2 X ∧ Grow g w pa todo x.1 x.2 ∧ ∀ d, (hd : d < g.rules[k].right.length) → g.rules[k].right[d] = (s : Int) → ∀ m, m ≤ i → PaT g w.length pa k d m i → PaT g w.length x.1 k (d + 1) m j)
    (by
      rintro q ⟨y, pa1, td1⟩ hq ⟨hy, hT1, hG1, hP1⟩
      simp only at hy hT1 hG1 hP1
      subst hy
      simp only [chart_Chart_sym_b1]
      rw [ift (by omega), at_lt hq]
      simp only [Option.bind_some, succ_wrap hq (by omega)]
      by_cases e : g.rules[k].right[q] = (s : Int)
      · rw [if_neg (by simp [e])]
        obtain ⟨pa2, td2, h2, hT2, hG2, hP2⟩ := sym_in2 hf hn hi hj hs hk hq e hT1 hK sya ch
        rw [h2]
        refine ⟨_, rfl, by simp only; omega, hT2, hG1.trans hG2, fun d hd hdl hds m hm h => ?_⟩
        by_cases e : d = q
        · subst e; exact hP2 m hm (hG1.pm _ h)
        · exact hG2.pm _ (hP1 d (by omega) hdl hds m hm h)
      · rw [if_pos (by simpa using e)]
        refine ⟨_, rfl, by simp only; omega, hT1, hG1, fun d hd hdl hds m hm h => ?_⟩
        by_cases e : d = q
        · subst e; contradiction
        · exact hP1 d (by omega) hdl hds m hm h)
    (by
      rintro ⟨y, pa1, td1⟩ ⟨hy, hT1, hG1, hP1⟩
      simp only at hy hT1 hG1 hP1
      subst hy
      simp only [chart_Chart_sym_b1]
      rw [iff_ (by omega)]
      exact ⟨_, rfl, hT1, hG1, fun d hd hds m hm h => hP1 d hd hd hds m hm h⟩)
    (Nat.zero_le _) (i := 0) (s := (0, pa, todo)) ⟨rfl, hT, .refl, by omega⟩ (by omega)
  exact ⟨x.1, x.2, hx, hp⟩
theorem sym_in0 {g : Grammar} (hf : Fit g) {w : List Int} (hn : w.length ≤ 40) {sy : List Bool} {X : Nat → Nat → Nat → Nat → Prop} {s i j : Nat} (hi : i ≤ w.length) (hj : j ≤ w.length) (hs : DvG g w (.sym (s : Int) i j))
    {pa : List Bool} {todo : List Part} (hT : TI g w sy pa todo X) {K : Nat} (hK : 1000000 ≤ K) (sya : List Bool) (ch : List Part) :
    ∃ pa' todo', iter (fun (s_1 : (Int × (List Bool) × (List Bool) × (List Part))) => chart_Chart_sym_b0 K (⟨(s : Int), (i : Int), (j : Int)⟩ : Span) g.terms g.names g.rules (w.length : Int) (bases g.rules) 1 ch s_1.1 s_1.2.1 s_1.2.2.1 s_1.2.2.2) K (0, sya, pa, todo) = some (sya, pa', todo') ∧ TI g w sy pa' todo' X ∧ Grow g w pa todo pa' todo' ∧
      ∀ k, (hk : k < g.rules.length) → ∀ d, (hd : d < g.rules[k].right.length) → g.rules[k].right[d] = (s : Int) → ∀ m, m ≤ i → PaT g w.length pa k d m i → PaT g w.length pa' k (d + 1) m j := by
  have hr2 := hf.r2
  obtain ⟨x, hx, hp0, hp⟩ := iter_up (body := fun (s_1 : (Int × (List Bool) × (List Bool) × (List Part))) => chart_Chart_sym_b0 K (⟨(s : Int), (i : Int), (j : Int)⟩ : Span) g.terms g.names g.rules (w.length : Int) (bases g.rules) 1 ch s_1.1 s_1.2.1 s_1.2.2.1 s_1.2.2.2) (k := K) g.rules.length
    (fun q st => st.1 = (q : Int) ∧ st.2.1 = sya ∧ TI g w sy st.2.2.1 st.2.2.2 X ∧ Grow g w pa todo st.2.2.1 st.2.2.2 ∧ ∀ k, k < q → (hk : k < g.rules.length) → ∀ d, (hd : d < g.rules[k].right.length) → g.rules[k].right[d] = (s : Int) → ∀ m, m ≤ i → PaT g w.length pa k d m i → PaT g w.length st.2.2.1 k (d + 1) m j)
    (fun x => x.1 = sya ∧ TI g w sy x.2.1 x.2.2 X ∧ Grow g w pa todo x.2.1 x.2.2 ∧ ∀ k, (hk : k < g.rules.length) → ∀ d, (hd : d < g.rules[k].right.length) → g.rules[k].right[d] = (s : Int) → ∀ m, m ≤ i → PaT g w.length pa k d m i → PaT g w.length x.2.1 k (d + 1) m j)
    (by
      rintro q ⟨y, s1, pa1, td1⟩ hq ⟨hy, hs1, hT1, hG1, hP1⟩
      simp only at hy hs1 hT1 hG1 hP1
      subst hy
      subst hs1
      simp only [chart_Chart_sym_b0]
      rw [ift (by omega), at_lt hq]
      simp only [Option.bind_some, succ_wrap hq (by omega)]
      obtain ⟨pa2, td2, h2, hT2, hG2, hP2⟩ := sym_in1 hf hn hi hj hs hq hT1 hK s1 ch
      rw [h2]
      refine ⟨_, rfl, by simp only; omega, rfl, hT2, hG1.trans hG2, fun k hk hkl d hd hds m hm h => ?_⟩
      by_cases e : k = q
      · subst e; exact hP2 d hd hds m hm (hG1.pm _ h)
      · exact hG2.pm _ (hP1 k (by omega) hkl d hd hds m hm h))
    (by
      rintro ⟨y, s1, pa1, td1⟩ ⟨hy, hs1, hT1, hG1, hP1⟩
      simp only at hy hs1 hT1 hG1 hP1
      subst hy
      simp only [chart_Chart_sym_b0]
      rw [iff_ (by omega)]
      exact ⟨_, rfl, hs1, hT1, hG1, fun k hk d hd hds m hm h => hP1 k hk hk d hd hds m hm h⟩)
    (Nat.zero_le _) (i := 0) (s := (0, sya, pa, todo)) ⟨rfl, rfl, hT, .refl, by omega⟩ (by omega)
  refine ⟨x.2.1, x.2.2, ?_, hp⟩
  rw [hx, ← hp0]
theorem sym_spec {g : Grammar} (hf : Fit g) {w : List Int} (hn : w.length ≤ 40) {sy : List Bool} {X : Nat → Nat → Nat → Nat → Prop} {s i j : Nat} (hsl : s < g.terms.length + g.names.length) (hi : i ≤ w.length) (hj : j ≤ w.length) (hs : DvG g w (.sym (s : Int) i j))
    {pa : List Bool} {todo : List Part} (hT : TI g w sy pa todo X) {K : Nat} (hK : 1000000 ≤ K) (ch : List Part) :
    ∃ sy' pa' todo', chart_Chart_sym K (⟨(s : Int), (i : Int), (j : Int)⟩ : Span) g.terms g.names g.rules (w.length : Int) sy pa (bases g.rules) todo 1 ch = some (sy', pa', todo') ∧ TI g w sy' pa' todo' X ∧ SyT w.length sy' s i j ∧ (∀ x : Nat, sy[x]? = some true → sy'[x]? = some true) ∧ Grow g w pa todo pa' todo' := by
  have ht2 := hf.t2
  have hn2 := hf.n2
  have hlt : idx w.length s i j < sy.length := by rw [hT.ls]; exact idx_lt hsl hi hj
  unfold chart_Chart_sym
  simp only [chart_Chart_at, Option.bind_some]
  rw [idx_int hn (by omega) (by omega) (by omega), at_lt hlt]
  simp only [Option.bind_some, Int.toNat_natCast]
  cases hb : sy[idx w.length s i j] with
  | true =>
    rw [if_pos rfl]
    exact ⟨_, _, _, rfl, hT, by unfold SyT; rw [List.getElem?_eq_getElem hlt, hb], fun _ h => h, .refl⟩
  | false =>
    rw [if_neg (by simp)]
    obtain ⟨pa', td', h1, hT1, hG1, hP1⟩ := sym_in0 hf hn hi hj hs hT hK (sy.set (idx w.length s i j) true) ch
    rw [h1]
    refine ⟨_, _, _, rfl, ⟨by rw [List.length_set]; exact hT1.ls, hT1.lp, ?_, hT1.ps, hT1.td, ?_, hT1.cn⟩, set_here hlt, fun x h => set_true h, hG1⟩
    · intro s' i' j' hs' hi' hj' h
      rcases set_inv h with h | h
      · obtain ⟨rfl, rfl, rfl⟩ := idx_inj hi hj hi' hj' h
        exact hs
      · exact hT1.ss s' i' j' hs' hi' hj' h
    · intro k d i' j' hv h hnt hX hk
      obtain ⟨_, hdl, hi', hj'⟩ := id hv
      obtain ⟨c1, c2⟩ := hT1.cl k d i' j' hv h hnt hX hk
      refine ⟨fun e => set_true (c1 e), fun hd m hm hsy => ?_⟩
      rcases set_inv hsy with e | e
      · obtain ⟨e1, e2, e3⟩ := idx_inj hi hj hj' hm e
        subst e2
        subst e3
        have hok := (hf.ok k hk).2.2.2 _ (List.getElem_mem hd)
        rcases hG1.nw k d i' i hv h with h0 | h0
        · exact hP1 k hk d hd (by omega) i' (by have := (hT.ps _ _ _ _ hv h0).ok; exact this.1) h0
        · exact absurd h0 hnt
      · exact c2 hd m hm e
theorem follow_spec {g : Grammar} (hf : Fit g) {w : List Int} (hn : w.length ≤ 40) {sy pa : List Bool} {todo : List Part} {k d i j : Nat} (hv : VP g w.length k d i j) (hP : PaT g w.length pa k d i j) (hT : TI g w sy pa todo (fun k' d' i' j' => k' = k ∧ d' = d ∧ i' = i ∧ j' = j)) {K : Nat} (hK : 1000000 ≤ K) (ch : List Part) :
    ∃ sy' pa' todo', chart_Chart_follow K (P4 k d i j) g.terms g.names g.rules (w.length : Int) sy pa (bases g.rules) todo 1 ch = some (sy', pa', todo') ∧ TI g w sy' pa' todo' (fun _ _ _ _ => False) ∧ (∀ x : Nat, sy[x]? = some true → sy'[x]? = some true) ∧ Grow g w pa todo pa' todo' := by
  obtain ⟨hk, hdl, hi, hj⟩ := id hv
  have ht2 := hf.t2
  have hn2 := hf.n2
  obtain ⟨o1, o2, o3, o4⟩ := hf.ok k hk
  have hD := hT.ps _ _ _ _ hv hP
  rw [show P4 k d i j = (⟨(k : Int), (d : Int), (i : Int), (j : Int)⟩ : Part) from rfl]
  unfold chart_Chart_follow chart_Chart_right
  dsimp only
  rw [at_lt hk]
  simp only [Option.bind_some]
  by_cases e : d = g.rules[k].right.length
  · rw [if_pos (by rw [beq_iff_eq]; omega)]
    obtain ⟨s, hs⟩ := nat_of (x := g.rules[k].left) (by omega)
    rw [hs]
    have hDs : DvG g w (.sym (s : Int) i j) := by
      rw [← hs]
      exact Dv.rule (r := (g.rules[k].left, g.rules[k].right)) (rsOf_at hk) (by rw [e] at hD; exact hD)
    obtain ⟨sy', pa', td', h1, hT1, hS1, hm1, hG1⟩ := sym_spec hf hn (by omega) hi hj hDs hT hK ch
    rw [h1]
    refine ⟨_, _, _, rfl, ⟨hT1.ls, hT1.lp, hT1.ss, hT1.ps, hT1.td, ?_, hT1.cn⟩, hm1, hG1⟩
    intro k' d' i' j' hv' h' hnt _
    by_cases hX : k' = k ∧ d' = d ∧ i' = i ∧ j' = j
    · obtain ⟨rfl, rfl, rfl, rfl⟩ := hX
      intro hk'
      exact ⟨fun _ => by rw [hs]; exact hS1, fun hd' => by omega⟩
    · exact hT1.cl k' d' i' j' hv' h' hnt hX
  · rw [if_neg (by rw [beq_iff_eq]; omega)]
    have hd : d < g.rules[k].right.length := by omega
    obtain ⟨so1, so2⟩ := o4 _ (List.getElem_mem hd)
    obtain ⟨s, hs⟩ := nat_of (x := g.rules[k].right[d]) so1
    have hij := hD.ok
    have e2 : IntKind.wrap .i64 ((d : Int) + 1) = ((d + 1 : Nat) : Int) := by rw [wrap_id (by omega) (by omega)]; omega
    obtain ⟨x, hx, hp⟩ := iter_up (body := fun (s_1 : (Int × (List Bool) × (List Part))) => chart_Chart_follow_b0 K (⟨(k : Int), (d : Int), (i : Int), (j : Int)⟩ : Part) g.terms g.names g.rules (w.length : Int) sy (bases g.rules) 1 ch g.rules[k].right s_1.1 s_1.2.1 s_1.2.2) (k := K) (w.length + 1)
      (fun q st => st.1 = (q : Int) ∧ TI g w sy st.2.1 st.2.2 (fun k' d' i' j' => k' = k ∧ d' = d ∧ i' = i ∧ j' = j) ∧ Grow g w pa todo st.2.1 st.2.2 ∧ ∀ m, j ≤ m → m < q → SyT w.length sy s j m → PaT g w.length st.2.1 k (d + 1) i m)
      (fun x => TI g w sy x.1 x.2 (fun k' d' i' j' => k' = k ∧ d' = d ∧ i' = i ∧ j' = j) ∧ Grow g w pa todo x.1 x.2 ∧ ∀ m, j ≤ m → m ≤ w.length → SyT w.length sy s j m → PaT g w.length x.1 k (d + 1) i m)
      (by
        rintro q ⟨y, pa1, td1⟩ hq ⟨hy, hT1, hG1, hP1⟩
        simp only at hy hT1 hG1 hP1
        subst hy
        have hlt : idx w.length s j q < sy.length := by rw [hT.ls]; exact idx_lt (by omega) hj (by omega)
        simp only [chart_Chart_follow_b0]
        rw [ift (by omega), at_lt hd, hs]
        simp only [Option.bind_some, chart_Chart_at]
        rw [idx_int hn (by omega) (by omega) (by omega), at_lt hlt]
        simp only [Option.bind_some, succ_wrap (show q < 1000000 by omega) (by omega), e2]
        cases hb : sy[idx w.length s j q] with
        | true =>
          rw [if_pos rfl]
          have hS : SyT w.length sy s j q := by unfold SyT; rw [List.getElem?_eq_getElem hlt, hb]
          have hDn : DvG g w (.part k (d + 1) i q) := .next (rsOf_at hk) (by show g.rules[k].right[d]? = _; rw [List.getElem?_eq_getElem hd, hs]) hD (hT.ss s j q (by omega) hj (by omega) hS)
          obtain ⟨pa2, td2, h2, hT2, hP2, hG2⟩ := part_spec hf hn hT1 (k := k) (d := d + 1) (i := i) (j := q) ⟨hk, by omega, hi, by omega⟩ hDn K sy ch
          rw [show (⟨(k : Int), ((d + 1 : Nat) : Int), (i : Int), (q : Int)⟩ : Part) = P4 k (d + 1) i q from rfl, h2]
          refine ⟨_, rfl, by simp only; omega, hT2, hG1.trans hG2, fun m hjm hm h => ?_⟩
          by_cases e : m = q
          · subst e; exact hP2
          · exact hG2.pm _ (hP1 m hjm (by omega) h)
        | false =>
          rw [if_neg (by simp)]
          refine ⟨_, rfl, by simp only; omega, hT1, hG1, fun m hjm hm h => ?_⟩
          by_cases e : m = q
          · subst e
            unfold SyT at h
            rw [List.getElem?_eq_getElem hlt, hb] at h
            cases h
          · exact hP1 m hjm (by omega) h)
      (by
        rintro ⟨y, pa1, td1⟩ ⟨hy, hT1, hG1, hP1⟩
        simp only at hy hT1 hG1 hP1
        subst hy
        simp only [chart_Chart_follow_b0]
        rw [iff_ (by omega)]
        exact ⟨_, rfl, hT1, hG1, fun m hjm hm h => hP1 m hjm (by omega) h⟩)
      (i := j) (s := ((j : Int), pa, todo)) (by omega) ⟨rfl, hT, .refl, by omega⟩ (by omega)
    rw [hx]
    obtain ⟨hT1, hG1, hP1⟩ := hp
    refine ⟨_, _, _, rfl, ⟨hT1.ls, hT1.lp, hT1.ss, hT1.ps, hT1.td, ?_, hT1.cn⟩, fun _ h => h, hG1⟩
    intro k' d' i' j' hv' h' hnt _
    by_cases hX : k' = k ∧ d' = d ∧ i' = i ∧ j' = j
    · obtain ⟨rfl, rfl, rfl, rfl⟩ := hX
      intro hk'
      refine ⟨fun e' => absurd e' e, fun hd' m hm hS => ?_⟩
      rw [hs] at hS
      exact hP1 m (by have := (hT.ss s j' m (by omega) hj hm hS).ok; exact this.1) hm hS
    · exact hT1.cl k' d' i' j' hv' h' hnt hX
end Go.Proofs.Ythilemcdhkfhlaa
namespace Go.Proofs.Ythilemcdhkfhlaa
open Go Go.Gc Go.Proofs ChartMath
theorem of_rows {K : Nat} (hK : 1000000 ≤ K) {g : Grammar} (hf : Fit g) : iter (fun (s : (Int × Int × (List Int))) => chart_Of_b0 K g s.1 s.2.1 s.2.2) K ((0 : Int), (0 : Int), []) = some ((rows g : Int), bases g.rules) := by
  have hr2 := hf.r2
  obtain ⟨x, hx, hp⟩ := iter_up (body := fun (s : (Int × Int × (List Int))) => chart_Of_b0 K g s.1 s.2.1 s.2.2) (k := K) g.rules.length
    (fun j s => s.1 = (rowBase g.rules j : Int) ∧ s.2.1 = (j : Int) ∧ s.2.2 = (List.range j).map fun k => (rowBase g.rules k : Int)) (fun x => x = ((rows g : Int), bases g.rules))
    (by
      rintro j ⟨a, i, l⟩ hj ⟨h1, h2, h3⟩
      simp only at h1 h2 h3
      subst h1 h2 h3
      have h9 := rowBase_le hf (Nat.le_of_lt hj)
      have h8 := (hf.ok j hj).2.2.1
      simp only [chart_Of_b0]
      rw [ift (by omega), at_lt hj]
      simp only [Option.bind_some]
      rw [if_pos (by simp only [List.length_map, List.length_range, List.length_singleton]; omega)]
      refine ⟨_, rfl, ?_, ?_, ?_⟩
      · simp only
        rw [rowBase_succ hj, wrap_id (x := (g.rules[j].right.length : Int) + 1) (by omega) (by omega), wrap_id (by omega) (by omega)]
        omega
      · simp only
        rw [succ_wrap hj (by omega)]
        omega
      · simp only
        rw [List.range_succ, List.map_append]
        rfl)
    (by
      rintro ⟨a, i, l⟩ ⟨h1, h2, h3⟩
      simp only at h1 h2 h3
      subst h1 h2 h3
      simp only [chart_Of_b0]
      rw [iff_ (by omega)]
      exact ⟨_, rfl, rfl⟩)
    (Nat.zero_le _) (i := 0) (s := (0, 0, [])) ⟨rfl, rfl, rfl⟩ (by omega)
  rw [hx, hp]
theorem term_eq (K : Nat) (g : Grammar) (s : Int) : grammar_Term K g s = some (decide (0 ≤ s ∧ s < (g.terms.length : Int))) := by
  unfold grammar_Term
  by_cases e : 0 ≤ s
  · rw [ift e]; simp [e]
  · rw [iff_ e]; simp [e]
theorem rep_none {n x : Nat} : (List.replicate n false)[x]? ≠ some true := by
  rw [List.getElem?_replicate]
  split <;> simp
theorem nf_rep (n : Nat) : nf (List.replicate n false) = n := by rw [nf, List.countP_replicate]; rfl
theorem of_toks {K : Nat} (hK : 1000000 ≤ K) {g : Grammar} (hf : Fit g) {w : List Int} (hn : w.length ≤ 40) (x253 : (Int × (List Int))) :
    ∃ sy, iter (fun (s : (Int × (List Bool) × (List Part))) => chart_Of_b1 K g w x253 s.1 s.2.1 s.2.2) K ((0 : Int), List.replicate ((g.terms.length + g.names.length) * ((w.length + 1) * (w.length + 1))) false, []) = some (sy, []) ∧
      sy.length = (g.terms.length + g.names.length) * ((w.length + 1) * (w.length + 1)) ∧
      (∀ s i j, s < g.terms.length + g.names.length → i ≤ w.length → j ≤ w.length → SyT w.length sy s i j → DvG g w (.sym (s : Int) i j)) ∧
      ∀ i s, w[i]? = some s → 0 ≤ s → s < (g.terms.length : Int) → SyT w.length sy s.toNat i (i + 1) := by
  have ht2 := hf.t2
  have hn2 := hf.n2
  obtain ⟨x, hx, hp0, hp⟩ := iter_up (body := fun (s : (Int × (List Bool) × (List Part))) => chart_Of_b1 K g w x253 s.1 s.2.1 s.2.2) (k := K) w.length
    (fun q st => st.1 = (q : Int) ∧ st.2.2 = [] ∧ st.2.1.length = (g.terms.length + g.names.length) * ((w.length + 1) * (w.length + 1)) ∧
      (∀ s i j, s < g.terms.length + g.names.length → i ≤ w.length → j ≤ w.length → SyT w.length st.2.1 s i j → DvG g w (.sym (s : Int) i j)) ∧
      ∀ i s, i < q → w[i]? = some s → 0 ≤ s → s < (g.terms.length : Int) → SyT w.length st.2.1 s.toNat i (i + 1))
    (fun x => x.2 = [] ∧ x.1.length = (g.terms.length + g.names.length) * ((w.length + 1) * (w.length + 1)) ∧
      (∀ s i j, s < g.terms.length + g.names.length → i ≤ w.length → j ≤ w.length → SyT w.length x.1 s i j → DvG g w (.sym (s : Int) i j)) ∧
      ∀ i s, w[i]? = some s → 0 ≤ s → s < (g.terms.length : Int) → SyT w.length x.1 s.toNat i (i + 1))
    (by
      rintro q ⟨y, sy, l⟩ hq ⟨h1, h2, h3, h4, h5⟩
      simp only at h1 h2 h3 h4 h5
      subst h1 h2
      simp only [chart_Of_b1]
      rw [ift (by omega), at_lt hq]
      simp only [Option.bind_some]
      rw [term_eq]
      simp only [Option.bind_some]
      by_cases e : 0 ≤ w[q] ∧ w[q] < (g.terms.length : Int)
      · rw [decide_eq_true e, if_pos rfl]
        obtain ⟨s, hs⟩ := nat_of e.1
        rw [hs] at e
        have e1 : IntKind.wrap .i64 ((q : Int) + 1) = ((q + 1 : Nat) : Int) := by rw [wrap_id (by omega) (by omega)]; omega
        have hlt : idx w.length s q (q + 1) < sy.length := by rw [h3]; exact idx_lt (by omega) (by omega) (by omega)
        simp only [chart_Chart_at, Option.bind_some, hs, e1]
        rw [idx_int hn (by omega) (by omega) (by omega), at_lt hlt]
        simp only [Option.bind_some, Int.toNat_natCast]
        refine ⟨_, rfl, rfl, rfl, by simp only; rw [List.length_set]; exact h3, fun s' i j hs' hi hj h => ?_, fun i s' hi hw h0 hl => ?_⟩
        · rcases set_inv h with h | h
          · obtain ⟨rfl, rfl, rfl⟩ := idx_inj (by omega) (by omega) hi hj h
            exact .tok (by rw [List.getElem?_eq_getElem hq, hs]) (by omega) (by omega)
          · exact h4 s' i j hs' hi hj h
        · by_cases ei : i = q
          · subst ei
            rw [List.getElem?_eq_getElem hq, hs, Option.some.injEq] at hw
            subst hw
            exact set_here hlt
          · exact set_true (h5 i s' (by omega) hw h0 hl)
      · rw [decide_eq_false e, if_neg (by simp)]
        refine ⟨_, rfl, by simp only; rw [wrap_id (by omega) (by omega)]; omega, rfl, h3, h4, fun i s' hi hw h0 hl => ?_⟩
        by_cases ei : i = q
        · subst ei
          rw [List.getElem?_eq_getElem hq, Option.some.injEq] at hw
          subst hw
          exact absurd ⟨h0, hl⟩ e
        · exact h5 i s' (by omega) hw h0 hl)
    (by
      rintro ⟨y, sy, l⟩ ⟨h1, h2, h3, h4, h5⟩
      simp only at h1 h2 h3 h4 h5
      subst h1 h2
      simp only [chart_Of_b1]
      rw [iff_ (by omega)]
      exact ⟨_, rfl, rfl, h3, h4, fun i s hw h0 hl => h5 i s (List.getElem?_eq_some_iff.1 hw).1 hw h0 hl⟩)
    (Nat.zero_le _) (i := 0) (s := (0, List.replicate ((g.terms.length + g.names.length) * ((w.length + 1) * (w.length + 1))) false, [])) ⟨rfl, rfl, by simp, fun s i j _ _ _ h => absurd h rep_none, by omega⟩ (by omega)
  exact ⟨x.1, by rw [hx, ← hp0], hp⟩
theorem of_nil1 {K : Nat} (hK : 1000000 ≤ K) {g : Grammar} (hf : Fit g) {w : List Int} (hn : w.length ≤ 40) {sy pa : List Bool} {todo : List Part} {X : Nat → Nat → Nat → Nat → Prop} (hT : TI g w sy pa todo X) {k : Nat} (hk : k < g.rules.length) (r : Int) (x565 : ((List Bool) × (List Part))) :
    ∃ pa' todo', iter (fun (s : (Int × (List Bool) × (List Part))) => chart_Of_b3 K g w (r, bases g.rules) x565 (k : Int) s.1 s.2.1 s.2.2) K ((0 : Int), pa, todo) = some (pa', todo') ∧ TI g w sy pa' todo' X ∧ Grow g w pa todo pa' todo' ∧ ∀ i, i ≤ w.length → PaT g w.length pa' k 0 i i := by
  obtain ⟨x, hx, hp⟩ := iter_up (body := fun (s : (Int × (List Bool) × (List Part))) => chart_Of_b3 K g w (r, bases g.rules) x565 (k : Int) s.1 s.2.1 s.2.2) (k := K) (w.length + 1)
    (fun q st => st.1 = (q : Int) ∧ TI g w sy st.2.1 st.2.2 X ∧ Grow g w pa todo st.2.1 st.2.2 ∧ ∀ i, i < q → PaT g w.length st.2.1 k 0 i i)
    (fun x => TI g w sy x.1 x.2 X ∧ Grow g w pa todo x.1 x.2 ∧ ∀ i, i ≤ w.length → PaT g w.length x.1 k 0 i i)
    (by
      rintro q ⟨y, pa1, td1⟩ hq ⟨h1, h2, h3, h4⟩
      simp only at h1 h2 h3 h4
      subst h1
      simp only [chart_Of_b3]
      rw [ift (by rw [wrap_id (by omega) (by omega)]; omega)]
      obtain ⟨pa2, td2, e, hT2, hP2, hG2⟩ := part_spec hf hn h2 (k := k) (d := 0) (i := q) (j := q) ⟨hk, by omega, by omega, by omega⟩ (.nil (rsOf_at hk) (by omega)) K x565.1 ([] : List Part)
      rw [show (⟨(k : Int), (0 : Int), (q : Int), (q : Int)⟩ : Part) = P4 k 0 q q from rfl, e]
      simp only [Option.bind_some, succ_wrap (show q < 1000000 by omega) (by omega)]
      refine ⟨_, rfl, by simp only; omega, hT2, h3.trans hG2, fun i hi => ?_⟩
      by_cases ei : i = q
      · subst ei; exact hP2
      · exact hG2.pm _ (h4 i (by omega)))
    (by
      rintro ⟨y, pa1, td1⟩ ⟨h1, h2, h3, h4⟩
      simp only at h1 h2 h3 h4
      subst h1
      simp only [chart_Of_b3]
      rw [iff_ (by rw [wrap_id (by omega) (by omega)]; omega)]
      exact ⟨_, rfl, h2, h3, fun i hi => h4 i (by omega)⟩)
    (Nat.zero_le _) (i := 0) (s := (0, pa, todo)) ⟨rfl, hT, .refl, by omega⟩ (by omega)
  exact ⟨x.1, x.2, hx, hp⟩
theorem of_nil {K : Nat} (hK : 1000000 ≤ K) {g : Grammar} (hf : Fit g) {w : List Int} (hn : w.length ≤ 40) {sy pa : List Bool} {todo : List Part} {X : Nat → Nat → Nat → Nat → Prop} (hT : TI g w sy pa todo X) (r : Int) (x565 : ((List Bool) × (List Part))) :
    ∃ pa' todo', iter (fun (s : (Int × (List Bool) × (List Part))) => chart_Of_b2 K g w (r, bases g.rules) x565 s.1 s.2.1 s.2.2) K ((0 : Int), pa, todo) = some (pa', todo') ∧ TI g w sy pa' todo' X ∧ Grow g w pa todo pa' todo' ∧ ∀ k, k < g.rules.length → ∀ i, i ≤ w.length → PaT g w.length pa' k 0 i i := by
  have hr2 := hf.r2
  obtain ⟨x, hx, hp⟩ := iter_up (body := fun (s : (Int × (List Bool) × (List Part))) => chart_Of_b2 K g w (r, bases g.rules) x565 s.1 s.2.1 s.2.2) (k := K) g.rules.length
    (fun q st => st.1 = (q : Int) ∧ TI g w sy st.2.1 st.2.2 X ∧ Grow g w pa todo st.2.1 st.2.2 ∧ ∀ k, k < q → ∀ i, i ≤ w.length → PaT g w.length st.2.1 k 0 i i)
    (fun x => TI g w sy x.1 x.2 X ∧ Grow g w pa todo x.1 x.2 ∧ ∀ k, k < g.rules.length → ∀ i, i ≤ w.length → PaT g w.length x.1 k 0 i i)
    (by
      rintro q ⟨y, pa1, td1⟩ hq ⟨h1, h2, h3, h4⟩
      simp only at h1 h2 h3 h4
      subst h1
      simp only [chart_Of_b2]
      rw [ift (by omega)]
      obtain ⟨pa2, td2, e, hT2, hG2, hP2⟩ := of_nil1 hK hf hn h2 hq r x565
      rw [e]
      simp only [Option.bind_some, succ_wrap hq (by omega)]
      refine ⟨_, rfl, by simp only; omega, hT2, h3.trans hG2, fun k hk i hi => ?_⟩
      by_cases ei : k = q
      · subst ei; exact hP2 i hi
      · exact hG2.pm _ (h4 k (by omega) i hi))
    (by
      rintro ⟨y, pa1, td1⟩ ⟨h1, h2, h3, h4⟩
      simp only at h1 h2 h3 h4
      subst h1
      simp only [chart_Of_b2]
      rw [iff_ (by omega)]
      exact ⟨_, rfl, h2, h3, h4⟩)
    (Nat.zero_le _) (i := 0) (s := (0, pa, todo)) ⟨rfl, hT, .refl, by omega⟩ (by omega)
  exact ⟨x.1, x.2, hx, hp⟩
theorem take_nil (K : Nat) (g : Grammar) (n : Int) (sy pa : List Bool) (b : List Int) : chart_queue_take K g.terms g.names g.rules n sy pa b [] 1 [] = some (0, 0, 0, 0, false, [], []) := by
  unfold chart_queue_take
  rw [iff_ (by simp)]
  rfl
theorem take_one (K : Nat) (g : Grammar) (n : Int) (sy pa : List Bool) (b : List Int) (l : List Part) (p : Part) (hl : l.length ≤ 1000000000) : chart_queue_take K g.terms g.names g.rules n sy pa b (l ++ [p]) 1 [] = some (p.rule, p.dot, p.i, p.j, true, [], l) := by
  unfold chart_queue_take
  have e : IntKind.wrap .i64 (((l ++ [p]).length : Int) - 1) = (l.length : Int) := by
    rw [List.length_append, List.length_singleton, wrap_id (by omega) (by omega)]
    omega
  rw [ift (by rw [List.length_append, List.length_singleton]; omega), e, at_lt (by rw [List.length_append, List.length_singleton]; omega)]
  simp only [Option.bind_some, List.getElem_concat_length]
  rw [if_pos (by simp), if_pos (by rw [List.length_append, List.length_singleton]; omega), cutl_take, List.nil_append]
  simp only [lcase]
  rw [if_pos (by rfl), List.take_left]
theorem of_run {K : Nat} (hK : 1000000 ≤ K) {g : Grammar} (hf : Fit g) {w : List Int} (hn : w.length ≤ 40) {sy pa : List Bool} {todo : List Part} (hT : TI g w sy pa todo (fun _ _ _ _ => False)) (r : Int) :
    ∃ sy' pa', iter (fun (s : ((List Bool) × (List Bool) × (List Part) × (List Part))) => chart_Of_b4 K g w (r, bases g.rules) s.1 s.2.1 s.2.2.1 s.2.2.2) K (sy, pa, todo, ([] : List Part)) = some (sy', pa', [], []) ∧ TI g w sy' pa' [] (fun _ _ _ _ => False) ∧
      (∀ x : Nat, sy[x]? = some true → sy'[x]? = some true) ∧ ∀ x : Nat, pa[x]? = some true → pa'[x]? = some true := by
  have hr2 := hf.r2
  have h9 := rowBase_le hf (Nat.le_refl g.rules.length)
  have hN : (w.length + 1) * (w.length + 1) ≤ 41 * 41 := Nat.mul_le_mul (by omega) (by omega)
  have hpl : pa.length ≤ 540 * (41 * 41) := by rw [hT.lp]; exact Nat.mul_le_mul (by unfold rows; omega) hN
  obtain ⟨x, hx, hp1, hp2, hp⟩ := iter_ind (body := fun (s : ((List Bool) × (List Bool) × (List Part) × (List Part))) => chart_Of_b4 K g w (r, bases g.rules) s.1 s.2.1 s.2.2.1 s.2.2.2)
    (fun m s => m = s.2.2.1.length + nf s.2.1 ∧ s.2.2.2 = [] ∧ TI g w s.1 s.2.1 s.2.2.1 (fun _ _ _ _ => False) ∧ (∀ x : Nat, sy[x]? = some true → s.1[x]? = some true) ∧ ∀ x : Nat, pa[x]? = some true → s.2.1[x]? = some true)
    (fun x => x.2.2.1 = [] ∧ x.2.2.2 = [] ∧ TI g w x.1 x.2.1 [] (fun _ _ _ _ => False) ∧ (∀ y : Nat, sy[y]? = some true → x.1[y]? = some true) ∧ ∀ y : Nat, pa[y]? = some true → x.2.1[y]? = some true)
    (by
      rintro m ⟨sy1, pa1, td1, ch⟩ ⟨h1, h2, h3, h4, h5⟩
      simp only at h1 h2 h3 h4 h5
      subst h2
      simp only [chart_Of_b4]
      rcases List.eq_nil_or_concat td1 with rfl | ⟨l, p, rfl⟩
      · rw [take_nil]
        exact ⟨_, rfl, rfl, rfl, h3, h4, h5⟩
      · obtain ⟨k, d, i, j, hv, rfl, hP⟩ := h3.td p (by simp)
        have hcn := h3.cn
        have hlp := h3.lp
        have hpl1 : pa1.length ≤ 540 * (41 * 41) := by rw [hlp]; exact Nat.mul_le_mul (by unfold rows; omega) hN
        rw [List.concat_eq_append] at *
        rw [List.length_append, List.length_singleton] at hcn h1
        rw [take_one _ _ _ _ _ _ _ _ (by omega)]
        simp only [Option.bind_some]
        rw [if_neg (by simp)]
        obtain ⟨sy2, pa2, td2, e, hT2, hm2, hG2⟩ := follow_spec hf hn hv hP (sy := sy1) (pa := pa1) (todo := l)
          ⟨h3.ls, h3.lp, h3.ss, h3.ps, fun p hp => h3.td p (List.mem_append_left _ hp), fun k' d' i' j' hv' hP' hnt hX => h3.cl k' d' i' j' hv' hP' (fun hm => by
            rw [List.mem_append, List.mem_singleton] at hm
            rcases hm with hm | hm
            · exact hnt hm
            · exact hX (P4_inj hm)) (fun h => h), by omega⟩ hK []
        rw [show (⟨(P4 k d i j).rule, (P4 k d i j).dot, (P4 k d i j).i, (P4 k d i j).j⟩ : Part) = P4 k d i j from rfl, e]
        refine ⟨_, rfl, td2.length + nf pa2, ?_, rfl, rfl, hT2, fun x h => hm2 x (h4 x h), fun x h => hG2.pm x (h5 x h)⟩
        rw [hG2.cn]
        omega)
    (todo.length + nf pa) (sy, pa, todo, []) ⟨rfl, rfl, hT, fun _ h => h, fun _ h => h⟩ K (by have := hT.cn; omega)
  obtain ⟨x1, x2, x3, x4⟩ := x
  simp only at hp1 hp2
  subst hp1 hp2
  exact ⟨x1, x2, hx, hp⟩
structure Full (g : Grammar) (w : List Int) (sy pa : List Bool) : Prop where
  ls : sy.length = (g.terms.length + g.names.length) * ((w.length + 1) * (w.length + 1))
  lp : pa.length = rows g * ((w.length + 1) * (w.length + 1))
  sy : ∀ s i j, s < g.terms.length + g.names.length → i ≤ w.length → j ≤ w.length → (SyT w.length sy s i j ↔ DvG g w (.sym (s : Int) i j))
  pa : ∀ k d i j, VP g w.length k d i j → (PaT g w.length pa k d i j ↔ DvG g w (.part k d i j))
theorem of_spec {K : Nat} (hK : 1000000 ≤ K) {g : Grammar} (hg : Bnd g) (hG : GoodP g) {w : List Int} (hn : w.length ≤ 40) :
    ∃ sy pa, chart_Of K g w = some (.inr (sy, pa, bases g.rules, [], [])) ∧ Full g w sy pa := by
  have hf := hG.fit
  have ht2 := hf.t2
  have hn2 := hf.n2
  have hr2 := hf.r2
  have h9 := rowBase_le hf (Nat.le_refl g.rules.length)
  have hN : (w.length + 1) * (w.length + 1) ≤ 41 * 41 := Nat.mul_le_mul (by omega) (by omega)
  have hN2 : (g.terms.length + g.names.length) * ((w.length + 1) * (w.length + 1)) ≤ 80 * (41 * 41) := Nat.mul_le_mul (by omega) hN
  have hN3 : rows g * ((w.length + 1) * (w.length + 1)) ≤ 540 * (41 * 41) := Nat.mul_le_mul (by unfold rows; omega) hN
  have hrw : rows g ≤ 540 := by unfold rows; omega
  obtain ⟨b, hb, hbg⟩ := good_lex hK g hg
  have e1 : IntKind.wrap .i64 ((w.length : Int) + (1 : Int)) = ((w.length + 1 : Nat) : Int) := wrap_id (by omega) (by omega)
  have e2 : IntKind.wrap .i64 (((w.length + 1 : Nat) : Int) * ((w.length + 1 : Nat) : Int)) = (((w.length + 1) * (w.length + 1) : Nat) : Int) := by
    rw [show ((w.length + 1 : Nat) : Int) * ((w.length + 1 : Nat) : Int) = (((w.length + 1) * (w.length + 1) : Nat) : Int) by simp, wrapN (by omega)]
  have e3 : IntKind.wrap .i64 ((g.terms.length : Int) + (g.names.length : Int)) = ((g.terms.length + g.names.length : Nat) : Int) := by rw [wrap_id (by omega) (by omega)]; omega
  have e4 : IntKind.wrap .i64 (((g.terms.length + g.names.length : Nat) : Int) * (((w.length + 1) * (w.length + 1) : Nat) : Int)) = (((g.terms.length + g.names.length) * ((w.length + 1) * (w.length + 1)) : Nat) : Int) := by
    rw [← Int.natCast_mul, wrapN (by omega)]
  have e5 : IntKind.wrap .i64 ((rows g : Int) * (((w.length + 1) * (w.length + 1) : Nat) : Int)) = ((rows g * ((w.length + 1) * (w.length + 1)) : Nat) : Int) := by
    rw [← Int.natCast_mul, wrapN (by omega)]
  unfold chart_Of
  rw [hb, hbg.2 hG]
  simp only [Option.bind_some]
  rw [if_neg (by simp), iff_ (by omega), of_rows hK hf]
  simp only [Option.bind_some, e1, e2, e3, e4, e5]
  rw [if_pos (by omega), if_pos (by omega)]
  simp only [Int.toNat_natCast]
  obtain ⟨sy1, h1, l1, s1, t1⟩ := of_toks hK hf hn ((rows g : Int), bases g.rules)
  rw [h1]
  simp only [Option.bind_some]
  have hT0 : TI g w sy1 (List.replicate (rows g * ((w.length + 1) * (w.length + 1))) false) [] (fun _ _ _ _ => False) :=
    ⟨l1, by simp, s1, fun k d i j _ h => absurd h rep_none, fun p hp => by simp at hp, fun k d i j _ h => absurd h rep_none, by rw [nf_rep]; simp⟩
  obtain ⟨pa2, td2, h2, hT2, hG2, n2⟩ := of_nil hK hf hn hT0 (rows g : Int) (sy1, [])
  rw [h2]
  simp only [Option.bind_some]
  obtain ⟨sy3, pa3, h3, hT3, ms, mp⟩ := of_run hK hf hn hT2 (rows g : Int)
  rw [h3]
  refine ⟨sy3, pa3, rfl, hT3.ls, hT3.lp, ?_, ?_⟩
  all_goals
    have cm := fun (x : It) (hx : DvG g w x) => complete
      (sy := fun s i j => 0 ≤ s ∧ s < (g.terms.length : Int) + (g.names.length : Int) ∧ i ≤ w.length ∧ j ≤ w.length ∧ SyT w.length sy3 s.toNat i j) (pa := fun k d i j => VP g w.length k d i j ∧ PaT g w.length pa3 k d i j)
      (fun i s hw h0 hl => by
        have := (List.getElem?_eq_some_iff.1 hw).1
        exact ⟨h0, by omega, by omega, by omega, ms _ (t1 i s hw h0 hl)⟩)
      (fun k i r hr hi => by
        obtain ⟨hk, rfl⟩ := rsOf_inv hr
        exact ⟨⟨hk, by omega, hi, hi⟩, mp _ (n2 k hk i hi)⟩)
      (fun k i j r hr hp => by
        obtain ⟨hk, rfl⟩ := rsOf_inv hr
        obtain ⟨hv, hP⟩ := hp
        obtain ⟨o1, o2, _⟩ := hf.ok k hk
        obtain ⟨_, _, hi, hj⟩ := id hv
        refine ⟨?_, ?_, hi, hj, (hT3.cl k _ i j hv hP (by simp) (fun h => h) hk).1 rfl⟩
        · show 0 ≤ g.rules[k].left; omega
        · exact o2)
      (fun k d i m j s r hr hs hp hq => by
        obtain ⟨hk, rfl⟩ := rsOf_inv hr
        obtain ⟨hv, hP⟩ := hp
        obtain ⟨hdl, hse⟩ := List.getElem?_eq_some_iff.1 hs
        obtain ⟨_, _, hi, hm⟩ := id hv
        obtain ⟨q1, q2, q3, q4, q5⟩ := hq
        refine ⟨⟨hk, hdl, hi, q4⟩, (hT3.cl k d i m hv hP (by simp) (fun h => h) hk).2 hdl j q4 ?_⟩
        have hse' : g.rules[k].right[d] = s := hse
        rw [hse']
        exact q5) hx
  · intro s i j hs hi hj
    refine ⟨hT3.ss s i j hs hi hj, fun h => ?_⟩
    obtain ⟨_, _, _, _, h5⟩ := cm _ h
    rwa [Int.toNat_natCast] at h5
  · intro k d i j hv
    exact ⟨hT3.ps k d i j hv, fun h => by obtain ⟨_, h2⟩ := cm _ h; exact h2⟩
end Go.Proofs.Ythilemcdhkfhlaa
namespace Go.Proofs.Ythilemcdhkfhlaa
open Go Go.Gc Go.Proofs ChartMath
theorem dv_range {g : Grammar} (hf : Fit g) {w : List Int} {s : Int} {i j : Nat} (h : DvG g w (.sym s i j)) : 0 ≤ s ∧ s < (g.terms.length : Int) + (g.names.length : Int) := by
  cases h with
  | tok _ h0 h1 => omega
  | @rule k _ _ r h _ =>
    obtain ⟨hk, rfl⟩ := rsOf_inv h
    obtain ⟨o1, o2, _⟩ := hf.ok k hk
    exact ⟨by show 0 ≤ g.rules[k].left; omega, o2⟩
theorem sym_tells {g : Grammar} (hf : Fit g) {w : List Int} (hn : w.length ≤ 40) {sy pa : List Bool} (hF : Full g w sy pa) (K : Nat) (p : Span) (bs : List Int) (td : List Part) (c : Nat) (ch : List Part) :
    ∃ b, chart_Chart_Sym K p g.terms g.names g.rules (w.length : Int) sy pa bs td c ch = some b ∧ (b = true ↔ ∃ i j : Nat, p.i = (i : Int) ∧ p.j = (j : Int) ∧ DvG g w (.sym p.sym i j)) := by
  have ht2 := hf.t2
  have hn2 := hf.n2
  have hin : chart_Chart_in K p.i p.j g.terms g.names g.rules (w.length : Int) sy pa bs td c ch = some (decide (0 ≤ p.i ∧ 0 ≤ p.j ∧ p.i ≤ (w.length : Int) ∧ p.j ≤ (w.length : Int))) := by
    unfold chart_Chart_in
    by_cases e1 : 0 ≤ p.i
    · rw [ift e1]
      by_cases e2 : 0 ≤ p.j
      · rw [ift e2]
        by_cases e3 : p.i ≤ (w.length : Int)
        · rw [ift e3]; simp [e1, e2, e3]
        · rw [iff_ e3]; simp [e3]
      · rw [iff_ e2]; simp [e2]
    · rw [iff_ e1]; simp [e1]
  unfold chart_Chart_Sym
  rw [hin]
  simp only [Option.bind_some]
  by_cases h : 0 ≤ p.i ∧ 0 ≤ p.j ∧ p.i ≤ (w.length : Int) ∧ p.j ≤ (w.length : Int)
  · rw [decide_eq_true h, if_neg (by simp)]
    obtain ⟨i, hi⟩ := nat_of h.1
    obtain ⟨j, hj⟩ := nat_of h.2.1
    have hnm : ∃ x, grammar_Name K (⟨g.terms, g.names, g.rules⟩ : Grammar) p.sym = some (x, decide (0 ≤ p.sym ∧ p.sym < (g.terms.length : Int) + (g.names.length : Int))) := by
      unfold grammar_Name
      dsimp only
      rw [wrap_id (x := (g.terms.length : Int) + (g.names.length : Int)) (by omega) (by omega)]
      by_cases e1 : p.sym < 0
      · rw [ift e1, decide_eq_false (show ¬ (0 ≤ p.sym ∧ p.sym < (g.terms.length : Int) + (g.names.length : Int)) by omega)]; exact ⟨_, rfl⟩
      · rw [iff_ e1]
        by_cases e2 : (g.terms.length : Int) + (g.names.length : Int) ≤ p.sym
        · rw [ift e2, decide_eq_false (show ¬ (0 ≤ p.sym ∧ p.sym < (g.terms.length : Int) + (g.names.length : Int)) by omega)]; exact ⟨_, rfl⟩
        · rw [iff_ e2, decide_eq_true (show 0 ≤ p.sym ∧ p.sym < (g.terms.length : Int) + (g.names.length : Int) by omega)]
          by_cases e3 : p.sym < (g.terms.length : Int)
          · rw [ift e3, at_ge (by omega) e3]; exact ⟨_, rfl⟩
          · rw [iff_ e3, wrap_id (by omega) (by omega), at_ge (by omega) (by omega)]; exact ⟨_, rfl⟩
    obtain ⟨x, hx⟩ := hnm
    rw [hx]
    simp only [Option.bind_some]
    by_cases hs : 0 ≤ p.sym ∧ p.sym < (g.terms.length : Int) + (g.names.length : Int)
    · rw [decide_eq_true hs, if_pos rfl]
      obtain ⟨s, hse⟩ := nat_of hs.1
      have hlt : idx w.length s i j < sy.length := by rw [hF.ls]; exact idx_lt (by omega) (by omega) (by omega)
      simp only [chart_Chart_at, Option.bind_some]
      rw [hse, hi, hj, idx_int hn (by omega) (by omega) (by omega), at_lt hlt]
      refine ⟨_, rfl, ?_⟩
      have := hF.sy s i j (by omega) (by omega) (by omega)
      unfold SyT at this
      rw [List.getElem?_eq_getElem hlt, Option.some.injEq] at this
      rw [this]
      constructor
      · intro hd; exact ⟨i, j, rfl, rfl, hd⟩
      · rintro ⟨i', j', hi', hj', hd⟩
        have ei : i' = i := by omega
        have ej : j' = j := by omega
        subst ei ej
        exact hd
    · rw [decide_eq_false hs, if_neg (by simp)]
      refine ⟨_, rfl, by simp, ?_⟩
      rintro ⟨i', j', _, _, hd⟩
      exact absurd (dv_range hf hd) hs
  · rw [decide_eq_false h, if_pos (by rfl)]
    refine ⟨_, rfl, by simp, ?_⟩
    rintro ⟨i', j', hi', hj', hd⟩
    have := hd.ok
    exact absurd (by have h1 := this.1; have h2 := this.2; omega) h
def RowP (g : Grammar) (w : List Int) (x : Span) : Prop := ∃ s i j : Nat, x = (⟨(s : Int), (i : Int), (j : Int)⟩ : Span) ∧ g.terms.length ≤ s ∧ s < g.terms.length + g.names.length ∧ DvG g w (.sym (s : Int) i j)
theorem spans_in2 {g : Grammar} (hf : Fit g) {w : List Int} (hn : w.length ≤ 40) {sy pa : List Bool} (hF : Full g w sy pa) {K : Nat} (hK : 1000000 ≤ K) (bs : List Int) (td : List Part) (c : Nat) (ch : List Part) {q i : Nat} (hq : q < g.names.length) (hi : i ≤ w.length) (l0 : List Span) (hl0 : l0.length ≤ 900000) :
    ∃ l, iter (fun (s : (Int × (List Span))) => chart_Chart_Spans_b2 K g.terms g.names g.rules (w.length : Int) sy pa bs td c ch (q : Int) (i : Int) s.1 s.2) K ((i : Int), l0) = some (l0 ++ l) ∧ l.length ≤ 41 ∧ (∀ x ∈ l, RowP g w x) ∧ ∀ j, j ≤ w.length → DvG g w (.sym (((g.terms.length + q : Nat)) : Int) i j) → (⟨(((g.terms.length + q : Nat)) : Int), (i : Int), (j : Int)⟩ : Span) ∈ l := by
  have ht2 := hf.t2
  have hn2 := hf.n2
  have e0 : IntKind.wrap .i64 ((g.terms.length : Int) + (q : Int)) = ((g.terms.length + q : Nat) : Int) := by rw [wrap_id (by omega) (by omega)]; omega
  obtain ⟨x, hx, l, hp, hp1, hp2, hp3⟩ := iter_up (body := fun (s : (Int × (List Span))) => chart_Chart_Spans_b2 K g.terms g.names g.rules (w.length : Int) sy pa bs td c ch (q : Int) (i : Int) s.1 s.2) (k := K) (w.length + 1)
    (fun m st => st.1 = (m : Int) ∧ i ≤ m ∧ ∃ l, st.2 = l0 ++ l ∧ l.length ≤ m - i ∧ (∀ x ∈ l, RowP g w x) ∧ ∀ j, i ≤ j → j < m → DvG g w (.sym (((g.terms.length + q : Nat)) : Int) i j) → (⟨(((g.terms.length + q : Nat)) : Int), (i : Int), (j : Int)⟩ : Span) ∈ l)
    (fun x => ∃ l, x = l0 ++ l ∧ l.length ≤ 41 ∧ (∀ x ∈ l, RowP g w x) ∧ ∀ j, i ≤ j → j ≤ w.length → DvG g w (.sym (((g.terms.length + q : Nat)) : Int) i j) → (⟨(((g.terms.length + q : Nat)) : Int), (i : Int), (j : Int)⟩ : Span) ∈ l)
    (by
      rintro m ⟨y, l1⟩ hm ⟨h1, h2, l, h3, h4, h5, h6⟩
      simp only at h1 h3
      subst h1 h3
      simp only [chart_Chart_Spans_b2]
      rw [ift (by omega)]
      obtain ⟨b, hb, hbd⟩ := sym_tells hf hn hF K (⟨IntKind.wrap .i64 ((g.terms.length : Int) + (q : Int)), (i : Int), (m : Int)⟩ : Span) bs td c ch
      rw [hb]
      simp only [Option.bind_some, succ_wrap (show m < 1000000 by omega) (by omega), e0] at hbd ⊢
      cases b with
      | true =>
        obtain ⟨i', j', a1, a2, hd⟩ := hbd.1 rfl
        have ei : i' = i := by omega
        have ej : j' = m := by omega
        subst ei ej
        rw [if_pos rfl, if_pos (by simp only [List.length_append, List.length_singleton]; omega), List.append_assoc]
        refine ⟨_, rfl, by simp only; omega, by omega, _, rfl, by rw [List.length_append, List.length_singleton]; omega, fun x hx => ?_, fun j hj1 hj2 hjd => ?_⟩
        · rw [List.mem_append, List.mem_singleton] at hx
          rcases hx with hx | rfl
          · exact h5 x hx
          · exact ⟨_, _, _, rfl, by omega, by omega, hd⟩
        · rw [List.mem_append, List.mem_singleton]
          by_cases e : j = j'
          · subst e; exact .inr rfl
          · exact .inl (h6 j hj1 (by omega) hjd)
      | false =>
        rw [if_neg (by simp)]
        refine ⟨_, rfl, by simp only; omega, by omega, _, rfl, by omega, h5, fun j hj1 hj2 hjd => ?_⟩
        by_cases e : j = m
        · subst e
          have := hbd.2 ⟨i, j, rfl, rfl, hjd⟩
          cases this
        · exact h6 j hj1 (by omega) hjd)
    (by
      rintro ⟨y, l1⟩ ⟨h1, h2, l, h3, h4, h5, h6⟩
      simp only at h1 h3
      subst h1 h3
      simp only [chart_Chart_Spans_b2]
      rw [iff_ (by omega)]
      exact ⟨_, rfl, _, rfl, by omega, h5, fun j hj1 hj2 hjd => h6 j hj1 (by omega) hjd⟩)
    (i := i) (s := ((i : Int), l0)) (by omega) ⟨rfl, by omega, [], by simp, by simp, by simp, fun j a b => by omega⟩ (by omega)
  refine ⟨l, by rw [hx, hp], hp1, hp2, fun j hj hd => hp3 j (by have := hd.ok; exact this.1) hj hd⟩
theorem spans_in1 {g : Grammar} (hf : Fit g) {w : List Int} (hn : w.length ≤ 40) {sy pa : List Bool} (hF : Full g w sy pa) {K : Nat} (hK : 1000000 ≤ K) (bs : List Int) (td : List Part) (c : Nat) (ch : List Part) {q : Nat} (hq : q < g.names.length) (l0 : List Span) (hl0 : l0.length ≤ 800000) :
    ∃ l, iter (fun (s : (Int × (List Span))) => chart_Chart_Spans_b1 K g.terms g.names g.rules (w.length : Int) sy pa bs td c ch (q : Int) s.1 s.2) K ((0 : Int), l0) = some (l0 ++ l) ∧ l.length ≤ 1681 ∧ (∀ x ∈ l, RowP g w x) ∧ ∀ i j : Nat, i ≤ w.length → j ≤ w.length → DvG g w (.sym (((g.terms.length + q : Nat)) : Int) i j) → (⟨(((g.terms.length + q : Nat)) : Int), (i : Int), (j : Int)⟩ : Span) ∈ l := by
  have ht2 := hf.t2
  have hn2 := hf.n2
  obtain ⟨x, hx, l, hp, hp1, hp2, hp3⟩ := iter_up (body := fun (s : (Int × (List Span))) => chart_Chart_Spans_b1 K g.terms g.names g.rules (w.length : Int) sy pa bs td c ch (q : Int) s.1 s.2) (k := K) (w.length + 1)
    (fun m st => st.1 = (m : Int) ∧ ∃ l, st.2 = l0 ++ l ∧ l.length ≤ m * 41 ∧ (∀ x ∈ l, RowP g w x) ∧ ∀ i j : Nat, i < m → j ≤ w.length → DvG g w (.sym (((g.terms.length + q : Nat)) : Int) i j) → (⟨(((g.terms.length + q : Nat)) : Int), (i : Int), (j : Int)⟩ : Span) ∈ l)
    (fun x => ∃ l, x = l0 ++ l ∧ l.length ≤ 1681 ∧ (∀ x ∈ l, RowP g w x) ∧ ∀ i j : Nat, i ≤ w.length → j ≤ w.length → DvG g w (.sym (((g.terms.length + q : Nat)) : Int) i j) → (⟨(((g.terms.length + q : Nat)) : Int), (i : Int), (j : Int)⟩ : Span) ∈ l)
    (by
      rintro m ⟨y, l1⟩ hm ⟨h1, l, h3, h4, h5, h6⟩
      simp only at h1 h3
      subst h1 h3
      simp only [chart_Chart_Spans_b1]
      rw [ift (by rw [wrap_id (by omega) (by omega)]; omega)]
      obtain ⟨l2, e, f1, f2, f3⟩ := spans_in2 hf hn hF hK bs td c ch hq (i := m) (by omega) (l0 ++ l) (by rw [List.length_append]; omega)
      rw [e]
      simp only [Option.bind_some, succ_wrap (show m < 1000000 by omega) (by omega), List.append_assoc]
      refine ⟨_, rfl, by simp only; omega, _, rfl, by rw [List.length_append]; omega, fun x hx => ?_, fun i j hi hj hd => ?_⟩
      · rw [List.mem_append] at hx
        rcases hx with hx | hx
        · exact h5 x hx
        · exact f2 x hx
      · rw [List.mem_append]
        by_cases e : i = m
        · subst e; exact .inr (f3 j hj hd)
        · exact .inl (h6 i j (by omega) hj hd))
    (by
      rintro ⟨y, l1⟩ ⟨h1, l, h3, h4, h5, h6⟩
      simp only at h1 h3
      subst h1 h3
      simp only [chart_Chart_Spans_b1]
      rw [iff_ (by rw [wrap_id (by omega) (by omega)]; omega)]
      exact ⟨_, rfl, _, rfl, by omega, h5, fun i j hi hj hd => h6 i j (by omega) hj hd⟩)
    (Nat.zero_le _) (i := 0) (s := ((0 : Int), l0)) ⟨rfl, [], by simp, by simp, by simp, by omega⟩ (by omega)
  exact ⟨l, by rw [hx, hp], hp1, hp2, hp3⟩
theorem spans_spec {g : Grammar} (hf : Fit g) {w : List Int} (hn : w.length ≤ 40) {sy pa : List Bool} (hF : Full g w sy pa) {K : Nat} (hK : 1000000 ≤ K) (bs : List Int) (td : List Part) (c : Nat) (ch : List Part) :
    ∃ l, chart_Chart_Spans K g.terms g.names g.rules (w.length : Int) sy pa bs td c ch = some l ∧ l.length ≤ 67240 ∧ (∀ x ∈ l, RowP g w x) ∧ ∀ x, RowP g w x → x ∈ l := by
  have ht2 := hf.t2
  have hn2 := hf.n2
  obtain ⟨l, hx, hp1, hp2, hp3⟩ := iter_up (body := fun (s : (Int × (List Span))) => chart_Chart_Spans_b0 K g.terms g.names g.rules (w.length : Int) sy pa bs td c ch s.1 s.2) (k := K) g.names.length
    (fun m st => st.1 = (m : Int) ∧ st.2.length ≤ m * 1681 ∧ (∀ x ∈ st.2, RowP g w x) ∧ ∀ q i j : Nat, q < m → i ≤ w.length → j ≤ w.length → DvG g w (.sym (((g.terms.length + q : Nat)) : Int) i j) → (⟨(((g.terms.length + q : Nat)) : Int), (i : Int), (j : Int)⟩ : Span) ∈ st.2)
    (fun l => l.length ≤ 67240 ∧ (∀ x ∈ l, RowP g w x) ∧ ∀ q i j : Nat, q < g.names.length → i ≤ w.length → j ≤ w.length → DvG g w (.sym (((g.terms.length + q : Nat)) : Int) i j) → (⟨(((g.terms.length + q : Nat)) : Int), (i : Int), (j : Int)⟩ : Span) ∈ l)
    (by
      rintro m ⟨y, l1⟩ hm ⟨h1, h4, h5, h6⟩
      simp only at h1 h4 h5 h6
      subst h1
      simp only [chart_Chart_Spans_b0]
      rw [ift (by omega)]
      obtain ⟨l2, e, f1, f2, f3⟩ := spans_in1 hf hn hF hK bs td c ch hm l1 (by omega)
      rw [e]
      simp only [Option.bind_some, succ_wrap hm (by omega)]
      refine ⟨_, rfl, by simp only; omega, by simp only; rw [List.length_append]; omega, fun x hx => ?_, fun q i j hq hi hj hd => ?_⟩
      · rw [List.mem_append] at hx
        rcases hx with hx | hx
        · exact h5 x hx
        · exact f2 x hx
      · rw [List.mem_append]
        by_cases e : q = m
        · subst e; exact .inr (f3 i j hi hj hd)
        · exact .inl (h6 q i j (by omega) hi hj hd))
    (by
      rintro ⟨y, l1⟩ ⟨h1, h4, h5, h6⟩
      simp only at h1 h4 h5 h6
      subst h1
      simp only [chart_Chart_Spans_b0]
      rw [iff_ (by omega)]
      exact ⟨_, rfl, by omega, h5, h6⟩)
    (Nat.zero_le _) (i := 0) (s := ((0 : Int), [])) ⟨rfl, by simp, by simp, by omega⟩ (by omega)
  refine ⟨l, by unfold chart_Chart_Spans; rw [hx]; rfl, hp1, hp2, fun x hx => ?_⟩
  obtain ⟨s, i, j, rfl, h1, h2, hd⟩ := hx
  have hok := hd.ok
  have := hp3 (s - g.terms.length) i j (by omega) (by have := hok.1; have := hok.2; omega) hok.2
  rw [show g.terms.length + (s - g.terms.length) = s by omega] at this
  exact this hd
end Go.Proofs.Ythilemcdhkfhlaa
namespace Go.Proofs.Ythilemcdhkfhlaa
open Go Go.RowKit Go.Gc Go.Proofs
theorem wakes_true : law24_wakes 1000000 = some true := by kernel_rfl
end Go.Proofs.Ythilemcdhkfhlaa
namespace Go.Proofs.Ythilemcdhkfhlaa
open Go Go.Gc Go.Proofs ChartMath
theorem mod_eq (k : Nat) (x m : Int) (h0 : 1 ≤ m) (h1 : m ≤ 1000) : ∃ v, keep_Mod k x m = some v ∧ 0 ≤ v ∧ v < m := by
  have a1 := Int.emod_nonneg x (show m ≠ 0 by omega)
  have a2 := Int.emod_lt_of_pos x (show 0 < m by omega)
  have c1 : -m < x.tmod m := by
    have := Int.lt_tmod_of_pos x (show 0 < m by omega)
    exact this
  have c2 : x.tmod m < m := Int.tmod_lt_of_pos x (by omega)
  unfold keep_Mod
  rw [iff_ (by omega), if_neg (by omega), if_neg (by omega), wrap_id (by omega) (by omega)]
  exact ⟨_, rfl, Int.tmod_nonneg _ (by omega), Int.tmod_lt_of_pos _ (by omega)⟩
theorem own_eq {k : Nat} (hk : 1000000 ≤ k) (g : Grammar) (hg : Bnd g) : keep_Own k g = some g.rules := by
  have b1 := hg.tl
  have b2 := hg.nl
  have b3 := hg.rl
  obtain ⟨x, hx, hp⟩ := iter_up (body := fun (s : (Int × (List Rule))) => keep_Own_b0 k g s.1 s.2) (k := k) g.rules.length
    (fun j s => s.1 = (j : Int) ∧ s.2 = g.rules.take j) (fun x => x = g.rules)
    (by
      rintro j ⟨i, l⟩ hj ⟨h1, h2⟩
      simp only at h1 h2
      subst h1 h2
      have hr := hg.rz _ (List.getElem_mem hj)
      simp only [keep_Own_b0]
      rw [ift (by omega), at_lt hj]
      simp only [Option.bind_some]
      rw [if_pos (by simp only [List.length_nil]; omega), if_pos (by simp only [List.length_take, List.length_singleton]; omega)]
      refine ⟨_, rfl, by simp only; rw [succ_wrap hj (by omega)]; omega, ?_⟩
      simp only
      rw [List.take_succ_eq_append_getElem hj, List.nil_append])
    (by
      rintro ⟨i, l⟩ ⟨h1, h2⟩
      simp only at h1 h2
      subst h1 h2
      simp only [keep_Own_b0]
      rw [iff_ (by omega), List.take_length]
      exact ⟨_, rfl, rfl⟩)
    (Nat.zero_le _) (i := 0) (s := (0, [])) ⟨rfl, by simp⟩ (by omega)
  unfold keep_Own
  rw [if_pos (by simp only [List.length_nil]; omega), if_pos (by simp only [List.length_nil]; omega), hx, hp]
  rfl
theorem mods_eq {k : Nat} (hk : 1000000 ≤ k) (g : Grammar) (hG : GoodP g) (r : Rule) (hr : r.right.length ≤ 8) :
    ∃ l, iter (fun (s : (Int × (List Int))) => law24_ChartMore_b0 k g r s.1 s.2) k ((0 : Int), []) = some l ∧ l.length ≤ 8 := by
  have b1 := hG.t2
  have b2 := hG.n1
  have b3 := hG.n2
  obtain ⟨x, hx, hp⟩ := iter_up (body := fun (s : (Int × (List Int))) => law24_ChartMore_b0 k g r s.1 s.2) (k := k) r.right.length
    (fun j s => s.1 = (j : Int) ∧ s.2.length = j) (fun x => x.length ≤ 8)
    (by
      rintro j ⟨i, l⟩ hj ⟨h1, h2⟩
      simp only at h1 h2
      subst h1
      simp only [law24_ChartMore_b0]
      rw [ift (by omega), at_lt hj]
      simp only [Option.bind_some]
      rw [wrap_id (x := (g.terms.length : Int) + (g.names.length : Int)) (by omega) (by omega)]
      obtain ⟨v, hv, _, _⟩ := mod_eq k r.right[j] ((g.terms.length : Int) + (g.names.length : Int)) (by omega) (by omega)
      rw [hv]
      simp only [Option.bind_some]
      rw [if_pos (by simp only [List.length_singleton]; omega)]
      refine ⟨_, rfl, by simp only; rw [succ_wrap hj (by omega)]; omega, by simp only; rw [List.length_append, List.length_singleton]; omega⟩)
    (by
      rintro ⟨i, l⟩ ⟨h1, h2⟩
      simp only at h1 h2
      subst h1
      simp only [law24_ChartMore_b0]
      rw [iff_ (by omega)]
      exact ⟨_, rfl, by omega⟩)
    (Nat.zero_le _) (i := 0) (s := (0, [])) ⟨rfl, rfl⟩ (by omega)
  exact ⟨x, hx, hp⟩
theorem small_spec {k : Nat} (hk : 1000000 ≤ k) (g : Grammar) (w : List Int) : ∃ b, law24_Small k g w = some b ∧ (b = true → Bnd g) := by
  obtain ⟨b, hb, h⟩ := large_spec hk g
  unfold law24_Small
  rw [hb]
  simp only [Option.bind_some]
  cases b with
  | true => exact ⟨false, rfl, by simp⟩
  | false =>
    have hg := h rfl
    obtain ⟨b2, h2, _⟩ := good_ref hk g hg
    rw [if_pos (by rfl), h2]
    simp only [Option.bind_some]
    suffices H : ∃ b, (if (!b2) = true then (if (decide ((w.length : Int) ≤ (9 : Int))) = true then (some true) else (if (decide ((40 : Int) < (w.length : Int))) = true then (some (decide ((w.length : Int) ≤ (100 : Int)))) else (some false))) else (if (decide ((g.rules.length : Int) ≤ (20 : Int))) = true then (if (decide ((w.length : Int) ≤ (9 : Int))) = true then (some true) else (if (decide ((40 : Int) < (w.length : Int))) = true then (some (decide ((w.length : Int) ≤ (100 : Int)))) else (some false))) else (some false))) = some b by
      obtain ⟨b, hb⟩ := H
      exact ⟨b, hb, fun _ => hg⟩
    (repeat' split) <;> exact ⟨_, rfl⟩
theorem PureChartMore (g : Grammar) (w : List Int) (r : Rule) (_ : okGrammar g) (_ : w.length ≤ maxLen ∧ ∀ y ∈ w, (Lit.int .i64 y).wf = true) (_ : okRule r) : ∃ k, law24_ChartMore k g w r = some true := by
  obtain ⟨k, hk, hw⟩ : ∃ k, 1000000 ≤ k ∧ law24_wakes k = some true := ⟨1000000, Nat.le_refl _, wakes_true⟩
  refine ⟨k, ?_⟩
  unfold law24_ChartMore
  obtain ⟨b1, h1, hb1⟩ := small_spec hk g w
  rw [h1]
  simp only [Option.bind_some]
  cases b1 with
  | false =>
    rw [if_pos (show (!false) = true from rfl)]
    simp only [Option.bind_some, if_true, hw]
  | true =>
  have hg := hb1 rfl
  rw [if_neg (show ¬ (!true) = true by simp)]
  obtain ⟨b2, h2, hb2⟩ := good_ref hk g hg
  rw [h2]
  simp only [Option.bind_some]
  cases b2 with
  | false =>
    rw [if_pos (show (!false) = true from rfl)]
    simp only [Option.bind_some, if_true, hw]
  | true =>
  have hG := hb2.1 rfl
  have t2 := hG.t2
  have n1 := hG.n1
  have n2 := hG.n2
  have r1 := hG.r1
  rw [if_neg (show ¬ (!true) = true by simp)]
  by_cases e1 : (6 : Int) < (w.length : Int)
  · rw [ift e1]
    simp only [Option.bind_some, if_true, hw]
  rw [iff_ e1]
  by_cases e2 : (8 : Int) < (r.right.length : Int)
  · rw [ift e2]
    simp only [Option.bind_some, if_true, hw]
  rw [iff_ e2]
  simp only [Option.bind_some]
  by_cases e3 : (20 : Int) ≤ (g.rules.length : Int)
  · rw [decide_eq_true e3, if_pos rfl, hw]; rfl
  rw [decide_eq_false e3, if_neg (by simp), own_eq hk g hg]
  simp only [Option.bind_some]
  obtain ⟨v, hv, v0, v1⟩ := mod_eq k r.left (g.names.length : Int) (by omega) (by omega)
  rw [hv]
  simp only [Option.bind_some]
  obtain ⟨l, hl, hl8⟩ := mods_eq hk g hG r (by omega)
  rw [hl]
  simp only [Option.bind_some]
  rw [if_pos (by simp only [List.length_singleton]; omega)]
  simp only [List.nil_append]
  generalize hg2 : (⟨g.terms, g.names, g.rules ++ [(⟨IntKind.wrap .i64 ((g.terms.length : Int) + v), l⟩ : Rule)]⟩ : Grammar) = g2
  have et : g2.terms = g.terms := by subst hg2; rfl
  have en : g2.names = g.names := by subst hg2; rfl
  have er : g2.rules = g.rules ++ [(⟨IntKind.wrap .i64 ((g.terms.length : Int) + v), l⟩ : Rule)] := by subst hg2; rfl
  have hg2b : Bnd g2 := ⟨by rw [et]; exact hg.tl, by rw [en]; exact hg.nl, by rw [er, List.length_append, List.length_singleton]; omega, by rw [et]; exact hg.tz, by rw [en]; exact hg.nz, by
    rw [er]
    intro x hx
    rw [List.mem_append, List.mem_singleton] at hx
    rcases hx with hx | rfl
    · exact hg.rz x hx
    · show l.length ≤ 4000; omega⟩
  obtain ⟨b3, h3, hb3⟩ := good_ref hk g2 hg2b
  rw [h3]
  simp only [Option.bind_some]
  cases b3 with
  | false => rw [if_pos (show (!false) = true from rfl), hw]; rfl
  | true =>
  have hG2 := hb3.1 rfl
  rw [if_neg (show ¬ (!true) = true by simp)]
  obtain ⟨sy, pa, h4, hF⟩ := of_spec hk hg hG (w := w) (by omega)
  obtain ⟨sy2, pa2, h5, hF2⟩ := of_spec hk hg2b hG2 (w := w) (by omega)
  have hf := hG.fit
  have hf2 := hG2.fit
  rw [h4]
  simp only [Option.bind_some, scase_r]
  rw [h5]
  simp only [Option.bind_some, scase_r]
  rw [if_neg (show ¬ ((0 : Int) != (0 : Int)) = true by decide)]
  simp only [Option.bind_some]
  rw [if_neg (by simp)]
  obtain ⟨sp, h6, s1, s2, _⟩ := spans_spec hf (w := w) (by omega) hF hk (bases g.rules) [] 1 []
  rw [h6]
  simp only [Option.bind_some]
  have ww : IntKind.wrap .i64 ((g.terms.length : Int) + (g.names.length : Int)) = (g.terms.length : Int) + (g.names.length : Int) := wrap_id (by omega) (by omega)
  have up : ∀ x, DvG g w x → DvG g2 w x := fun x hx => by
    have := hx.more [(IntKind.wrap .i64 ((g.terms.length : Int) + v), l)]
    unfold DvG
    rw [et, show rsOf g2 = rsOf g ++ [(IntKind.wrap .i64 ((g.terms.length : Int) + v), l)] by unfold rsOf; rw [er, List.map_append]; rfl]
    exact this
  have L1 : iter (fun (s : Int) => law24_ChartMore_b1 k g w g.rules v l (sy2, pa2, bases g2.rules, [], []) sp s) k 0 = some (.inr ()) := by
    rcases all_loop' (body := fun (s : Int) => law24_ChartMore_b1 k g w g.rules v l (sy2, pa2, bases g2.rules, [], []) sp s) (k := k) sp.length (fun _ => True)
      (fun i hi => by
        refine .inl ⟨trivial, ?_⟩
        obtain ⟨s, i', j', hx, o1, o2, hd⟩ := s2 _ (List.getElem_mem hi)
        simp only [law24_ChartMore_b1, List.nil_append]
        rw [← er]
        rw [ift (by omega), at_lt hi]
        simp only [Option.bind_some]
        obtain ⟨b, hb, hbd⟩ := sym_tells hf2 (w := w) (by omega) hF2 k sp[i] (bases g2.rules) [] 1 []
        rw [hx] at hb hbd
        rw [et, en] at hb
        rw [hx, hb, hbd.2 ⟨i', j', rfl, rfl, up _ hd⟩]
        simp only [Option.bind_some]
        rw [if_neg (show ¬ (!true) = true by simp), iff_ (by omega), ww, iff_ (by omega), succ_wrap hi (by omega)])
      (by simp [law24_ChartMore_b1]) (by omega) with ⟨_, h⟩ | ⟨h, _⟩
    · exact absurd (fun _ _ => trivial) h
    · exact h
  rw [L1]
  simp only [Option.bind_some, scase_r]
  have lft : ∀ (q : Nat) (x : Int × List Int), (rsOf g)[q]? = some x → (g.terms.length : Int) ≤ x.1 := fun q x hx => by
    obtain ⟨hq, rfl⟩ := rsOf_inv hx
    exact (hf.ok q hq).1
  have L2 : iter (fun (s : Int) => law24_ChartMore_b2 k g w (sy, pa, bases g.rules, [], []) s) k 0 = some (.inr ()) := by
    rcases all_loop' (body := fun (s : Int) => law24_ChartMore_b2 k g w (sy, pa, bases g.rules, [], []) s) (k := k) w.length (fun _ => True)
      (fun i hi => by
        refine .inl ⟨trivial, ?_⟩
        simp only [law24_ChartMore_b2]
        rw [ift (by omega)]
        have L3 : iter (fun (s : Int) => law24_ChartMore_b3 k g w (sy, pa, bases g.rules, [], []) (i : Int) s) k 0 = some (.inr ()) := by
          rcases all_loop' (body := fun (s : Int) => law24_ChartMore_b3 k g w (sy, pa, bases g.rules, [], []) (i : Int) s) (k := k) g.terms.length (fun _ => True)
            (fun q hq => by
              refine .inl ⟨trivial, ?_⟩
              simp only [law24_ChartMore_b3]
              rw [ift (by omega), succ_wrap hi (by omega)]
              obtain ⟨b, hb, hbd⟩ := sym_tells hf (w := w) (by omega) hF k (⟨(q : Int), (i : Int), (i : Int) + 1⟩ : Span) (bases g.rules) [] 1 []
              obtain ⟨b', hb', hbd'⟩ := sym_tells hf (w := w) (by omega) hF k (⟨(q : Int), (i : Int), (i : Int)⟩ : Span) (bases g.rules) [] 1 []
              rw [hb, at_lt hi]
              simp only [Option.bind_some]
              have eb : b = (w[i] == (q : Int)) := by
                rw [Bool.eq_iff_iff, hbd, beq_iff_eq]
                constructor
                · rintro ⟨i', j', a1, a2, hd⟩
                  dsimp only at a1 a2
                  have := hd.term lft (by show (q : Int) < _; omega)
                  have ei : i' = i := by omega
                  subst ei
                  have := this.1
                  rw [List.getElem?_eq_getElem hi, Option.some.injEq] at this
                  exact this
                · intro e
                  exact ⟨i, i + 1, rfl, by simp, .tok (by rw [List.getElem?_eq_getElem hi, e]) (by show 0 ≤ (q : Int); omega) (by show (q : Int) < _; omega)⟩
              have eb' : b' = false := by
                rw [Bool.eq_false_iff]
                intro h
                obtain ⟨i', j', a1, a2, hd⟩ := hbd'.1 h
                have := (hd.term lft (by show (q : Int) < _; omega)).2.1
                simp only at a1 a2
                omega
              rw [eb, if_neg (by simp), hb', eb']
              simp only [Option.bind_some]
              rw [if_neg (by simp), succ_wrap hq (by omega)])
            (by simp [law24_ChartMore_b3]) (by omega) with ⟨_, h⟩ | ⟨h, _⟩
          · exact absurd (fun _ _ => trivial) h
          · exact h
        rw [L3]
        simp only [Option.bind_some, scase_r, succ_wrap hi (by omega)])
      (by simp [law24_ChartMore_b2]) (by omega) with ⟨_, h⟩ | ⟨h, _⟩
    · exact absurd (fun _ _ => trivial) h
    · exact h
  rw [L2]
  simp only [Option.bind_some, scase_r]
  rw [hw]
  rfl
end Go.Proofs.Ythilemcdhkfhlaa
namespace Go.Proofs.Ythilemcdhkfhlaa.chartMore
open Go Go.RowKit Go.Gc Go.Proofs Go.Proofs.Ythilemcdhkfhlaa Go.ChangeShapes Go.WideShapes Go.ChangeAt
set_option maxRecDepth 100000 in
theorem lifted (os : Os) (started : os.Started) (H : Type) (enc : TypeId × Value → H) :
    ReturnsInHanded {} Try.checked os 3 .any (Rows.chartMoreSpec.pre6 enc Try.prog Try.f3 Rows.chartMoreRow.domain false) (Rows.chartMoreSpec.post enc Try.prog Try.f3 false true false false) := by
  refine returnsInHanded_of_change_sized (C := Try.checked) own started (by kernel_rfl) Try.func3
    (ChangeSpec.witness6 (enc := enc) (C := Try.checked) false ⟨#[], #[.agg #[.slice none 0 0, .slice none 0 0, .slice none 0 0], .slice none 0 0, .agg #[.int .i64 0, .slice none 0 0]], []⟩ 8 (by kernel_rfl) (by kernel_rfl) (by kernel_rfl) (by kernel_rfl)) ?_
  intro W base args ds gs before hval0 hW hcnd hsz0 _
  have hval : ∀ (j : Nat) t v, Try.f3.params[j]? = some t → args[j]? = some v → Value.okWide Try.prog W .any base t v := hval0
  have hW' := hW
  obtain ⟨p, q, hA0, hV, rfl, hfz, hnd⟩ := hW
  have hA : DataW.TrodAll enc Try.prog W 0 (fun _ => true) true Try.f3.params.toList args.toList ds p := hA0
  rw [Try.params3] at hA hval
  obtain ⟨v0, vs0, d0, ds0, p0, q0, hargs, rfl, rfl, h0, r0⟩ := trodAll_cons hA
  obtain ⟨v1, vs1, d1, ds1, p1, q1, rfl, rfl, rfl, h1, r1⟩ := trodAll_cons r0
  obtain ⟨v2, vs2, d2, ds2, p2, q2, rfl, rfl, rfl, h2, r2⟩ := trodAll_cons r1
  obtain ⟨rfl, rfl, rfl⟩ := trodAll_nil r2
  obtain rfl : args = #[v0, v1, v2] := by cases args; simp_all
  obtain ⟨rfl, rfl⟩ := trodVars_none hV
  have k0 := h0
  have lt0 : ∀ x ∈ p0, x.block < W.heap.size := by obtain ⟨m, hm⟩ := k0; exact DataW.trod_lt m _ _ _ hm
  obtain ⟨x0, m0, ok0⟩ := (opn_25 : Opn Try.prog 25 tyGrammar _).arg h0
  obtain ⟨cs0, rfl, hz0⟩ := okWide_struct Try.underlying25 (hval 0 25 v0 rfl rfl)
  obtain ⟨a0_0, c0_0, a0_1, c0_1, a0_2, c0_2, e0, i0_0, i0_1, i0_2⟩ := Grammar_open m0
  obtain rfl : cs0 = #[_, _, _] := by have z : cs0.toList = _ := e0; cases cs0; simp only at z; subst z; rfl
  have k1 := h1
  have lt1 : ∀ x ∈ p1, x.block < W.heap.size := by obtain ⟨m, hm⟩ := k1; exact DataW.trod_lt m _ _ _ hm
  obtain ⟨x1, m1, ok1⟩ := ((opn_slice (hE := by decide) Try.underlying26 (by kernel_rfl) (opn_int Try.underlying3 (by kernel_rfl))) : Opn Try.prog 26 (tSlice 3 (tInt .i64) (by decide)) _).arg h1
  obtain ⟨a1, l1, c1, rfl⟩ := okWide_slice Try.underlying26 (hval 1 26 v1 rfl rfl)
  have k2 := h2
  have lt2 : ∀ x ∈ p2, x.block < W.heap.size := by obtain ⟨m, hm⟩ := k2; exact DataW.trod_lt m _ _ _ hm
  obtain ⟨x2, m2, ok2⟩ := (opn_28 : Opn Try.prog 28 tyRule _).arg h2
  obtain ⟨cs2, rfl, hz2⟩ := okWide_struct Try.underlying28 (hval 2 28 v2 rfl rfl)
  obtain ⟨a2_1, c2_1, e2, i2_1⟩ := Rule_open m2
  obtain rfl : cs2 = #[_, _] := by have z : cs2.toList = _ := e2; cases cs2; simp only at z; subst z; rfl
  obtain ⟨k, hk⟩ := PureChartMore x0 x1 x2 ok0 ok1 ok2
  clear hA0 hval0 hsz0
  refine (law24_ChartMore_calls (k := k) (r := true) hk (w0 := W) (o0 := all0) hown_all0 i0_0 i0_1 i0_2 m1 i2_1).mono fun e W' hR => ?_
  obtain ⟨o', he, tr⟩ := hR
  have bel : Below W.heap.size W W' := tr.below0
  subst he
  exact ⟨_, rfl, _, _, _, [], _, [], hW', trodAll_mk1 (shut_bool Try.underlying4 _), (trodAll_cons_mk (Below.trod laidOut (by kernel_rfl) (of_decide_eq_true (by kernel_rfl)) k0 bel lt0) (trodAll_cons_mk (Below.trod laidOut (by kernel_rfl) (of_decide_eq_true (by kernel_rfl)) k1 bel lt1) (trodAll_cons_mk (Below.trod laidOut (by kernel_rfl) (of_decide_eq_true (by kernel_rfl)) k2 bel lt2) trodAll_mk0))), rfl, bel.frame _, fun h => by cases h⟩
theorem joined : joinedFacts Try.prog 3 Try.f3 Rows.chartMoreSpec Rows.chartMoreRow = true := by
  simp only [joinedFacts, Bool.and_eq_true]
  refine ⟨⟨⟨⟨⟨⟨⟨⟨⟨⟨⟨⟨⟨⟨⟨⟨⟨⟨⟨⟨⟨⟨⟨⟨⟨⟨⟨⟨⟨⟨⟨?_, ?_⟩, ?_⟩, ?_⟩, ?_⟩, ?_⟩, ?_⟩, ?_⟩, ?_⟩, ?_⟩, ?_⟩, ?_⟩, ?_⟩, ?_⟩, ?_⟩, ?_⟩, ?_⟩, ?_⟩, ?_⟩, ?_⟩, ?_⟩, ?_⟩, ?_⟩, ?_⟩, ?_⟩, enters⟩, (by rw [lifts]; rfl)⟩, (by rw [made]; rfl)⟩, ?_⟩, ?_⟩, ?_⟩, ?_⟩
  all_goals as_aux_lemma => kernel_rfl
theorem named : Try.prog.funcNamed Rows.chartMoreRow.func = some 3 := by kernel_rfl
theorem inst : Try.f3.isInstance Try.prog Rows.chartMoreRow.origin Rows.chartMoreRow.targs := of_decide_eq_true (by kernel_rfl)
theorem wrap : Try.f3.isWrapper Try.prog Rows.chartMoreRow.wrapper Rows.chartMoreRow.mainSum := by
  unfold Func.isWrapper
  first | (rw [if_pos (by decide +kernel)]; kernel_rfl) | (rw [if_neg (by decide +kernel)]; exact ⟨rfl, rfl⟩)
theorem over : Rows.chartMoreRow.holds Try.pinned (OpenSpec.ofChange Rows.chartMoreSpec) :=
  OpenClaim.holds_of_wide 3 Try.f3 rfl rfl rfl rfl rfl rfl rfl ⟨rfl, rfl, rfl, rfl, rfl⟩ rfl rfl rfl rfl rfl named Try.func3 joined inst wrap
    (fun os started H enc _ => lifted os started H enc)
end Go.Proofs.Ythilemcdhkfhlaa.chartMore
namespace Go.Proofs.Ythilemcdhkfhlaa
theorem chartMore_holds : Rows.ChartMoreSaid := chartMore.over
end Go.Proofs.Ythilemcdhkfhlaa
