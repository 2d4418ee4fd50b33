/- The law ChartMore returns true for every input, and its arguments read afterwards as before. Part 4 of 6. -/
import Derived.Test.YthilemcdhkfhlaaA3
set_option linter.unusedVariables false
set_option linter.unusedSimpArgs false
set_option maxRecDepth 100000
set_option maxHeartbeats 20000000
namespace Go.Proofs.Ythilemcdhkfhlaa
open Go Go.RowKit Go.Gc Go.Proofs
def ref03_Good_b0 (k : Nat) (p1 : Grammar) (y93 : Int) : Option (Int ⊕ (Unit ⊕ Unit)) :=
  if (decide (y93 < (p1.names.length : Int))) = true then ((at? p1.names y93).bind fun x161 => (ref01_IsName k x161).bind fun r171 => if (!r171) = true then (some (.inr (.inl ()))) else ((at? p1.names y93).bind fun x184 => (ref03_at k p1.names x184).bind fun r194 => if (r194 != y93) = true then (some (.inr (.inl ()))) else (some (.inl (IntKind.wrap .i64 (y93 + (1 : Int))))))) else (some (.inr (.inr ())))
def ref03_Good_b1 (k : Nat) (p1 : Grammar) (y274 : Int) : Option (Int ⊕ (Unit ⊕ Unit)) :=
  if (decide (y274 < (p1.terms.length : Int))) = true then ((at? p1.terms y274).bind fun x342 => (ref01_IsTerm k x342).bind fun r352 => if (!r352) = true then (some (.inr (.inl ()))) else ((at? p1.terms y274).bind fun x365 => (ref03_at k p1.terms x365).bind fun r375 => if (r375 != y274) = true then (some (.inr (.inl ()))) else (some (.inl (IntKind.wrap .i64 (y274 + (1 : Int))))))) else (some (.inr (.inr ())))
def ref03_Good_b3 (k : Nat) (p1 : Grammar) (x934 : Rule) (y1123 : Int) (y1124 : Int) : Option ((Int × Int) ⊕ (Unit ⊕ Int)) :=
  if (decide (y1124 < (x934.right.length : Int))) = true then ((at? x934.right y1124).bind fun x1160 => if (decide (x1160 < (0 : Int))) = true then (some (.inr (.inl ()))) else (if (decide ((IntKind.wrap .i64 ((p1.terms.length : Int) + (p1.names.length : Int))) ≤ x1160)) = true then (some (.inr (.inl ()))) else (if (decide (x1160 < (p1.terms.length : Int))) = true then (if (decide (y1123 < x1160)) = true then (some (.inr (.inl ()))) else (if (x1160 == y1123) = true then (some (.inl (IntKind.wrap .i64 (y1123 + (1 : Int)), IntKind.wrap .i64 (y1124 + (1 : Int))))) else (some (.inl (y1123, IntKind.wrap .i64 (y1124 + (1 : Int))))))) else (if (x1160 == y1123) = true then (some (.inl (y1123, IntKind.wrap .i64 (y1124 + (1 : Int))))) else (some (.inl (y1123, IntKind.wrap .i64 (y1124 + (1 : Int))))))))) else (some (.inr (.inr y1123)))
def ref03_Good_b2 (k : Nat) (p1 : Grammar) (y658 : Int) (y659 : Int) (y660 : Int) : Option ((Int × Int × Int) ⊕ (Unit ⊕ (Int × Int))) :=
  if (decide (y660 < (p1.rules.length : Int))) = true then ((at? p1.rules y660).bind fun x934 => (if (decide (x934.left < (p1.terms.length : Int))) = true then (some true) else (if (decide ((IntKind.wrap .i64 ((p1.terms.length : Int) + y658)) < x934.left)) = true then (some true) else (if (decide ((IntKind.wrap .i64 ((p1.terms.length : Int) + (p1.names.length : Int))) ≤ x934.left)) = true then (some true) else (if (decide ((8 : Int) < (x934.right.length : Int))) = true then (some true) else (if 0 ≤ (0 : Int) ∧ (0 : Int) ≤ y660 ∧ y660 ≤ (p1.rules.length : Int) then ((ref03_has k (cutl p1.rules (0 : Int).toNat y660.toNat) x934).bind fun r1059 => some r1059) else none))))).bind fun x1038 => if x1038 = true then (some (.inr (.inl ()))) else ((if (x934.left == (IntKind.wrap .i64 ((p1.terms.length : Int) + y658))) = true then (some (IntKind.wrap .i64 (y658 + (1 : Int)))) else (some y658)).bind fun x1092 => (iter (fun (s : (Int × Int)) => ref03_Good_b3 k p1 x934 s.1 s.2) k (y659, (0 : Int))).bind fun x1170 => scase x1170 (fun x1170 => some (.inr (.inl ()))) (fun x1170 => some (.inl (x1092, x1170, IntKind.wrap .i64 (y660 + (1 : Int))))))) else (some (.inr (.inr (y658, y659))))
def ref03_Good (k : Nat) (p1 : Grammar) : Option Bool :=
  (if (decide ((p1.names.length : Int) < (1 : Int))) = true then (some true) else (if (decide ((40 : Int) < (p1.names.length : Int))) = true then (some true) else (if (decide ((40 : Int) < (p1.terms.length : Int))) = true then (some true) else (if (decide ((p1.rules.length : Int) < (1 : Int))) = true then (some true) else (some (decide ((60 : Int) < (p1.rules.length : Int)))))))).bind fun x29 => if x29 = true then (some false) else ((iter (fun (s : Int) => ref03_Good_b0 k p1 s) k (0 : Int)).bind fun x207 => scase x207 (fun x207 => some false) (fun x207 => (iter (fun (s : Int) => ref03_Good_b1 k p1 s) k (0 : Int)).bind fun x388 => scase x388 (fun x388 => some false) (fun x388 => (iter (fun (s : (Int × Int × Int)) => ref03_Good_b2 k p1 s.1 s.2.1 s.2.2) k ((0 : Int), (0 : Int), (0 : Int))).bind fun x1184 => scase x1184 (fun x1184 => some false) (fun x1184 => if (x1184.1 == (p1.names.length : Int)) = true then (some (x1184.2 == (p1.terms.length : Int))) else (some false)))))
theorem ref03_Good_calls {k : Nat} {p1 : Grammar} {v2 : Value} {v5 : Value} {v8 : Value} {r : Bool} (h : ref03_Good k p1 = some r) {w0 : World} {o0 : Own} (hown : Hown o0)
    (i4 : ((tSlice 9 tStr (by decide))).im w0 (L o0 0) p1.terms [v2])
    (i7 : ((tSlice 9 tStr (by decide))).im w0 (L o0 0) p1.names [v5])
    (i10 : ((tSlice 28 tyRule (by decide))).im w0 (L o0 0) p1.rules [v8]) :
    Calls Try.prog 25 #[.agg #[v2, v5, v8]] w0 (fun e w => ∃ (o1194 : Own), e = .returned (.bool r) ∧ Tr (Ls o0 []) w0 o0 w o1194) := by
 unfold ref03_Good at h
 refine startM Try.func25 rfl Try.ntmps25 (show 1 ≤ 192 by decide) fun a M => ?_
 have M : MB 192 [] [(0, .agg #[v2, v5, v8])] a := M
 obtain ⟨A11, c12, hzc12, -⟩ := im_form i4
 subst hzc12
 obtain ⟨A13, c14, hzc14, -⟩ := im_form i7
 subst hzc14
 obtain ⟨A15, c16, hzc16, -⟩ := im_form i10
 subst hzc16
 have T0 : Tr (Ls o0 []) w0 o0 w0 o0 := Tr.refl _ _ _
 refine c_seq <| c_reg ?_
 obtain ⟨g17, w18, o19, r20, b21, t22⟩ := b_box (P := Try.prog) (T := 25) (M.e 0 rfl) w0 o0 100
 refine ov rfl rfl M (r20 _ _ _ _ _) fun a M => pn (j := 2) E 1 M rfl rfl fun a M => x_end rfl <| q_then <| c_seq <| draw_p E mixed [0, 1, 3, 0, 8, 24, 7, 127] (by kernel_rfl) rfl M [(1, .slice A11 p1.terms.length c12), (4, .slice A13 p1.names.length c14)] rfl rfl rfl o19 ⟨fun a w o M G r => qv rfl rfl M rfl (x_load ld_22 (G.e 0 rfl rfl) ((b21.kn r).cell (n := 0) rfl)),
   fun a w o M G r => qv rfl rfl M rfl (x_load ld_22 (G.e 3 rfl rfl) ((b21.kn r).cell (n := 1) rfl)),
   trivial⟩ ?_
 intro a w24 o25 M t26
 refine q_then <| c_seq <| c_seq ?_
 obtain ⟨x29, hx30, h⟩ := bind_some h
 refine cut_c (fun (x : Bool) (e : Exit) (a : Act) (w : World) => (e = .normal ∧ ∃ (o28 : Own), MB 192 [] [(1, .pointer (some ⟨g17, 0, none⟩)), (3, .int .i64 (p1.terms.length : Int)), (4, .int .i64 (p1.names.length : Int)), (40, .bool x)] a ∧ Box w o28 100 g17 25 #[.slice A11 p1.terms.length c12, .slice A13 p1.names.length c14, .slice A15 p1.rules.length c16] ∧ ((tSlice 9 tStr (by decide))).im w (L o28 0) p1.terms [.slice A11 p1.terms.length c12] ∧ ((tSlice 9 tStr (by decide))).im w (L o28 0) p1.names [.slice A13 p1.names.length c14] ∧ ((tSlice 28 tyRule (by decide))).im w (L o28 0) p1.rules [.slice A15 p1.rules.length c16] ∧ Tr (Ls o0 []) w0 o0 w o28)) x29 ?_ ?_
 ·replace h := hx30
  refine c_reg <| pn (j := 3) E 3 M rfl rfl fun a M => ?_
  by_cases hk10 : (decide ((p1.names.length : Int) < (1 : Int))) = true
  ·rw [if_pos hk10] at h
   have M := M.k 21 rfl hk10
   refine pn (j := 22) E 19 M rfl rfl fun a M => x_end rfl ?_
   obtain rfl := sj h
   have u11 := (T0.kn t22).kn t26
   exact ⟨rfl, ⟨o25, (M.pk [31, 28, 29, 0] rfl), (b21.kn t26), (iN (iN i4 t22) t26), (iN (iN i7 t22) t26), (iN (iN i10 t22) t26), u11⟩⟩
  rw [if_neg hk10] at h
  have hk10 := nott hk10
  have M := M.k 21 rfl hk10
  refine pn (j := 7) E 4 M rfl rfl fun a M => ?_
  by_cases hk12 : (decide ((40 : Int) < (p1.names.length : Int))) = true
  ·rw [if_pos hk12] at h
   have M := M.k 25 rfl hk12
   refine pn (j := 22) E 15 M rfl rfl fun a M => x_end rfl ?_
   obtain rfl := sj h
   have u13 := (T0.kn t22).kn t26
   exact ⟨rfl, ⟨o25, (M.pk [31, 28, 29, 0] rfl), (b21.kn t26), (iN (iN i4 t22) t26), (iN (iN i7 t22) t26), (iN (iN i10 t22) t26), u13⟩⟩
  rw [if_neg hk12] at h
  have hk12 := nott hk12
  have M := M.k 25 rfl hk12
  refine pn (j := 11) E 4 M rfl rfl fun a M => ?_
  by_cases hk14 : (decide ((40 : Int) < (p1.terms.length : Int))) = true
  ·rw [if_pos hk14] at h
   have M := M.k 29 rfl hk14
   refine pn (j := 22) E 11 M rfl rfl fun a M => x_end rfl ?_
   obtain rfl := sj h
   have u15 := (T0.kn t22).kn t26
   exact ⟨rfl, ⟨o25, (M.pk [31, 28, 29, 0] rfl), (b21.kn t26), (iN (iN i4 t22) t26), (iN (iN i7 t22) t26), (iN (iN i10 t22) t26), u15⟩⟩
  rw [if_neg hk14] at h
  have hk14 := nott hk14
  have M := M.k 29 rfl hk14
  refine pn (j := 12) E 1 M rfl rfl fun a M => ow rfl (wanted_yes rfl rfl (M.t 1 rfl)) rfl rfl M (x_load ld_23 (M.e 0 rfl) ((b21.kn t26).cell (n := 2) rfl)) fun a M => pn (j := 17) E 4 M rfl rfl fun a M => ?_
  by_cases hk16 : (decide ((p1.rules.length : Int) < (1 : Int))) = true
  ·rw [if_pos hk16] at h
   have M := M.k 35 rfl hk16
   refine pn (j := 22) E 5 M rfl rfl fun a M => x_end rfl ?_
   obtain rfl := sj h
   have u17 := (T0.kn t22).kn t26
   exact ⟨rfl, ⟨o25, (M.pk [31, 28, 29, 0] rfl), (b21.kn t26), (iN (iN i4 t22) t26), (iN (iN i7 t22) t26), (iN (iN i10 t22) t26), u17⟩⟩
  rw [if_neg hk16] at h
  have hk16 := nott hk16
  have M := M.k 35 rfl hk16
  refine pn (j := 18) E 1 M rfl rfl fun a M => ow rfl (wanted_yes rfl rfl (M.t 1 rfl)) rfl rfl M (x_load ld_23 (M.e 0 rfl) ((b21.kn t26).cell (n := 2) rfl)) fun a M => pn (j := 22) E 3 M rfl rfl fun a M => x_end rfl ?_
  obtain rfl := sj h
  have u18 := (T0.kn t22).kn t26
  exact ⟨rfl, ⟨o25, (M.pk [31, 28, 29, 0] rfl), (b21.kn t26), (iN (iN i4 t22) t26), (iN (iN i7 t22) t26), (iN (iN i10 t22) t26), u18⟩⟩
 intro e19 a w31 hO32
 obtain ⟨he33, hO32⟩ := hO32
 subst he33
 obtain ⟨o34, M, q35, i36, i37, i38, T39⟩ := hO32
 refine q_then ?_
 by_cases hk20 : x29 = true
 ·rw [if_pos hk20] at h
  have M := M.k 40 rfl hk20
  refine c_true (M.e 3 rfl) <| c_seq <| c_reg <| pn (j := 1) E 1 M rfl rfl fun a M => x_end rfl <| q_then <| wp_ret <| q_then_ret ?_
  obtain rfl := sj h
  exact ⟨M.f.defers, _, (res1 Try.results25 (rv_tmp (M.t 0 rfl))), ⟨o34, rfl, T39⟩⟩
 rw [if_neg hk20] at h
 have hk20 := nott hk20
 have M := M.k 40 rfl hk20
 refine c_false (M.e 3 rfl) <| wp_skip <| q_then <| c_seq <| c_seq <| c_reg <| pn (j := 1) E 1 M rfl rfl fun a M => x_end rfl <| q_then <| wp_block ?_
 obtain ⟨x207, hx208, h⟩ := bind_some h
 refine loop_iter (S := Int) (X := (Unit ⊕ Unit)) (fun (s : Int) => ref03_Good_b0 k p1 s) (fun (s : Int) (a : Act) (w : World) => ∃ (o148 : Own), MB 192 [] [(1, .pointer (some ⟨g17, 0, none⟩)), (3, .int .i64 (p1.terms.length : Int)), (4, .int .i64 (p1.names.length : Int)), (5, .int .i64 s)] a ∧ Box w o148 100 g17 25 #[.slice A11 p1.terms.length c12, .slice A13 p1.names.length c14, .slice A15 p1.rules.length c16] ∧ ((tSlice 9 tStr (by decide))).im w (L o148 0) p1.terms [.slice A11 p1.terms.length c12] ∧ ((tSlice 9 tStr (by decide))).im w (L o148 0) p1.names [.slice A13 p1.names.length c14] ∧ ((tSlice 28 tyRule (by decide))).im w (L o148 0) p1.rules [.slice A15 p1.rules.length c16] ∧ Tr (Ls o0 []) w0 o0 w o148) (fun (x : (Unit ⊕ Unit)) (e : Exit) (a : Act) (w : World) => (match x with | .inl x => (e = .ret ∧ ∃ (o149 : Own), MB 192 [] [(2, .bool false)] a ∧ Tr (Ls o0 []) w0 o0 w o149) | .inr x => (e = .exit 0 ∧ ∃ (o150 : Own), MB 192 [] [(1, .pointer (some ⟨g17, 0, none⟩)), (3, .int .i64 (p1.terms.length : Int)), (4, .int .i64 (p1.names.length : Int))] a ∧ Box w o150 100 g17 25 #[.slice A11 p1.terms.length c12, .slice A13 p1.names.length c14, .slice A15 p1.rules.length c16] ∧ ((tSlice 9 tStr (by decide))).im w (L o150 0) p1.terms [.slice A11 p1.terms.length c12] ∧ ((tSlice 9 tStr (by decide))).im w (L o150 0) p1.names [.slice A13 p1.names.length c14] ∧ ((tSlice 28 tyRule (by decide))).im w (L o150 0) p1.rules [.slice A15 p1.rules.length c16] ∧ Tr (Ls o0 []) w0 o0 w o150))) ?_ hx208 ⟨o34, (M.pk [1, 2, 3, 0] rfl), q35, i36, i37, i38, T39⟩ ?_
 ·rintro y93 a w151 r152 hI153 h
  replace h : ref03_Good_b0 k p1 y93 = some r152 := h
  unfold ref03_Good_b0 at h
  obtain ⟨o154, M, q155, i156, i157, i158, T159⟩ := hI153
  refine c_seq <| c_seq <| c_reg <| pn (j := 3) E 3 M rfl rfl fun a M => x_end rfl <| q_then ?_
  by_cases hk46 : (decide (y93 < (p1.names.length : Int))) = true
  ·rw [if_pos hk46] at h
   have M := M.k 43 rfl hk46
   refine c_true (M.e 0 rfl) <| wp_skip <| q_then <| c_seq <| wp_block <| c_seq ?_
   obtain ⟨x161, hx162, h⟩ := bind_some h
   obtain ⟨hx1620, hx1621, hx1622⟩ := at_some hx162
   obtain ⟨g163, f164, c165, ds166, hv167, hd168, he169⟩ := im_elem i157 hx1621
   have hsds166 : ds166 = [.string x161] := hd168
   subst hsds166
   have he169 : ElemAt w151 o154 0 g163 f164 (y93).toNat 1 [.string x161] := he169
   obtain ⟨r171, hr172, h⟩ := bind_some h
   by_cases hk51 : (!r171) = true
   ·rw [if_pos hk51] at h
    refine draw_p E mixed [0, 1, 0, 7, 15, 31, 63, 127, 255, 511, 255, 1279, 255, 7423, 15615, 32767, 255, 131071, 262143] (by kernel_rfl) rfl M [(1, .slice A13 p1.names.length c14), (3, .pointer (some ⟨g163, f164 + (y93).toNat * 1, none⟩)), (4, .string x161), (5, .bool r171), (6, .bool true)] rfl rfl rfl o154 ⟨fun a w o M G r => qv rfl rfl M rfl (x_load ld_22 (G.e 0 rfl rfl) ((q155.kn r).cell (n := 1) rfl)),
   fun a w o M G r => qv rfl rfl M rfl (x_indexAddr Try.underlying22 sz_9 ((G.e 1 rfl rfl).trans hv167) (G.e 2 rfl rfl) hx1620 hx1622),
   fun a w o M G r => qv rfl rfl M rfl (x_load ld_9 (G.e 3 rfl rfl) ((he169.kn r).2 0 _ rfl)),
   ?_,
   ?_,
   trivial⟩ ?_
    ·intro a w o M G r
     refine dc rfl (wp0 rfl) rfl rfl M (x_call cf_74 (m1 (G.e 4 rfl rfl))) (ref01_IsName_calls hr172 (lko_own (T := [(0, 0)]) (o := o) rfl)) (fun e52 w173 hp174 => ?_)
     obtain ⟨o175, he176, T177⟩ := hp174
     obtain ⟨o178, ho179⟩ := ex (mrg w o [(0, 0)] o175)
     have t180 := T177.r0 ho179
     refine ⟨_, he176, fun a' p => ?_⟩
     exact ⟨o178, _, _, rfl, p, t180⟩
    ·intro a w o M G r
     refine dv rfl rfl M (x_not (G.e 5 rfl rfl)) fun a' p => ?_
     exact ⟨o, _, _, rfl, putb p hk51, Tr.refl _ _ _⟩
    intro a w181 o182 M t183
    refine q_then <| c_true (M.e 18 rfl) <| c_seq <| c_reg <| pn (j := 1) E 1 M rfl rfl fun a M => x_end rfl <| q_then <| wp_ret <| q_blk_ret <| q_then_ret ?_
    obtain rfl := sj h
    have u53 := T159.kn t183
    exact lq_ret ⟨rfl, ⟨o182, (M.pk [0] rfl), u53⟩⟩
   rw [if_neg hk51] at h
   have hk51 := nott hk51
   obtain ⟨x184, hx185, h⟩ := bind_some h
   obtain ⟨hx1850, hx1851, hx1852⟩ := at_some hx185
   obtain ⟨g186, f187, c188, ds189, hv190, hd191, he192⟩ := im_elem i157 hx1851
   have hsds189 : ds189 = [.string x184] := hd191
   subst hsds189
   have he192 : ElemAt w151 o154 0 g186 f187 (y93).toNat 1 [.string x184] := he192
   obtain ⟨r194, hr195, h⟩ := bind_some h
   refine draw_p E mixed [0, 1, 0, 7, 15, 31, 63, 127, 255, 511, 255, 1279, 255, 7423, 15615, 32767, 255, 131071, 262143] (by kernel_rfl) rfl M [(1, .slice A13 p1.names.length c14), (3, .pointer (some ⟨g163, f164 + (y93).toNat * 1, none⟩)), (4, .string x161), (5, .bool r171), (6, .bool false), (9, .slice A13 p1.names.length c14), (11, .slice A13 p1.names.length c14), (13, .pointer (some ⟨g186, f187 + (y93).toNat * 1, none⟩)), (14, .string x184), (15, .int .i64 r194)] rfl rfl rfl o154 ⟨fun a w o M G r => qv rfl rfl M rfl (x_load ld_22 (G.e 0 rfl rfl) ((q155.kn r).cell (n := 1) rfl)),
   fun a w o M G r => qv rfl rfl M rfl (x_indexAddr Try.underlying22 sz_9 ((G.e 1 rfl rfl).trans hv167) (G.e 2 rfl rfl) hx1620 hx1622),
   fun a w o M G r => qv rfl rfl M rfl (x_load ld_9 (G.e 3 rfl rfl) ((he169.kn r).2 0 _ rfl)),
   ?_,
   ?_,
   fun a w o M G r => qw rfl (wanted_yes rfl rfl (G.t 7 rfl rfl)) rfl rfl M rfl (x_load ld_22 (G.e 8 rfl rfl) ((q155.kn r).cell (n := 1) rfl)),
   fun a w o M G r => qw rfl (wanted_yes rfl rfl (G.t 7 rfl rfl)) rfl rfl M rfl (x_load ld_22 (G.e 10 rfl rfl) ((q155.kn r).cell (n := 1) rfl)),
   fun a w o M G r => qw rfl (wanted_yes rfl rfl (G.t 7 rfl rfl)) rfl rfl M rfl (x_indexAddr Try.underlying22 sz_9 ((G.e 11 rfl rfl).trans hv190) (G.e 12 rfl rfl) hx1850 hx1852),
   fun a w o M G r => qw rfl (wanted_yes rfl rfl (G.t 7 rfl rfl)) rfl rfl M rfl (x_load ld_9 (G.e 13 rfl rfl) ((he192.kn r).2 0 _ rfl)),
   ?_,
   trivial⟩ ?_
   ·intro a w o M G r
    refine dc rfl (wp0 rfl) rfl rfl M (x_call cf_74 (m1 (G.e 4 rfl rfl))) (ref01_IsName_calls hr172 (lko_own (T := [(0, 0)]) (o := o) rfl)) (fun e55 w173 hp174 => ?_)
    obtain ⟨o175, he176, T177⟩ := hp174
    obtain ⟨o178, ho179⟩ := ex (mrg w o [(0, 0)] o175)
    have t180 := T177.r0 ho179
    refine ⟨_, he176, fun a' p => ?_⟩
    exact ⟨o178, _, _, rfl, p, t180⟩
   ·intro a w o M G r
    refine dv rfl rfl M (x_not (G.e 5 rfl rfl)) fun a' p => ?_
    exact ⟨o, _, _, rfl, putb p hk51, Tr.refl _ _ _⟩
   ·intro a w o M G r
    refine dc rfl (wanted_yes rfl rfl (G.t 7 rfl rfl)) rfl rfl M (x_call cf_75 (m2 (G.e 9 rfl rfl) (G.e 14 rfl rfl))) (ref03_at_calls hr195 (lko_own (T := [(0, 0)]) (o := o) rfl) (sL (iN i157 r) rfl)) (fun e56 w196 hp197 => ?_)
    obtain ⟨o198, he199, T200⟩ := hp197
    obtain ⟨o201, ho202⟩ := ex (mrg w o [(0, 0)] o198)
    have t203 := T200.r0 ho202
    refine ⟨_, he199, fun a' p => ?_⟩
    exact ⟨o201, _, _, rfl, p, t203⟩
   intro a w204 o205 M t206
   refine q_then ?_
   by_cases hk57 : (r194 != y93) = true
   ·rw [if_pos hk57] at h
    have M := M.k 64 rfl hk57
    refine c_true (M.e 18 rfl) <| c_seq <| c_reg <| pn (j := 1) E 1 M rfl rfl fun a M => x_end rfl <| q_then <| wp_ret <| q_blk_ret <| q_then_ret ?_
    obtain rfl := sj h
    have u58 := T159.kn t206
    exact lq_ret ⟨rfl, ⟨o205, (M.pk [0] rfl), u58⟩⟩
   rw [if_neg hk57] at h
   have hk57 := nott hk57
   have M := M.k 64 rfl hk57
   refine c_false (M.e 18 rfl) <| wp_skip <| q_blk <| q_then <| c_reg <| pn (j := 2) E 2 M rfl rfl fun a M => ?_
   have M := M.pk [0, 1, 10, 11, 12, 13, 14, 15, 16, 17, 18, 19, 24, 25, 26] rfl
   refine pn (j := 3) E 1 M rfl rfl fun a M => x_end rfl ?_
   obtain rfl := sj h
   have u59 := T159.kn t206
   exact lq_next ⟨o205, (M.pk [13, 14, 15, 0] rfl), (q155.kn t206), (iN i156 t206), (iN i157 t206), (iN i158 t206), u59⟩
  rw [if_neg hk46] at h
  have hk46 := nott hk46
  have M := M.k 43 rfl hk46
  refine c_false (M.e 0 rfl) <| wp_exit <| q_then_exit ?_
  obtain rfl := sj h
  exact lq_exit ⟨rfl, ⟨o154, (M.pk [3, 4, 5] rfl), q155, i156, i157, i158, T159⟩⟩
 intro e60 a w209 hO210
 rcases x207 with x207 | x207
 ·rw [scase_l] at h
  obtain ⟨he211, hO210⟩ := hO210
  subst he211
  obtain ⟨o212, M, T213⟩ := hO210
  refine q_blk_ret <| q_then_ret ?_
  obtain rfl := sj h
  exact ⟨M.f.defers, _, (res1 Try.results25 (rv_tmp (M.t 0 rfl))), ⟨o212, rfl, T213⟩⟩
 rw [scase_r] at h
 obtain ⟨he214, hO210⟩ := hO210
 subst he214
 obtain ⟨o215, M, q216, i217, i218, i219, T220⟩ := hO210
 refine q_blk_here <| q_then <| c_seq <| c_seq <| c_reg <| pn (j := 1) E 1 M rfl rfl fun a M => x_end rfl <| q_then <| wp_block ?_
 obtain ⟨x388, hx389, h⟩ := bind_some h
 refine loop_iter (S := Int) (X := (Unit ⊕ Unit)) (fun (s : Int) => ref03_Good_b1 k p1 s) (fun (s : Int) (a : Act) (w : World) => ∃ (o329 : Own), MB 192 [] [(1, .pointer (some ⟨g17, 0, none⟩)), (3, .int .i64 (p1.terms.length : Int)), (4, .int .i64 (p1.names.length : Int)), (6, .int .i64 s)] a ∧ Box w o329 100 g17 25 #[.slice A11 p1.terms.length c12, .slice A13 p1.names.length c14, .slice A15 p1.rules.length c16] ∧ ((tSlice 9 tStr (by decide))).im w (L o329 0) p1.terms [.slice A11 p1.terms.length c12] ∧ ((tSlice 9 tStr (by decide))).im w (L o329 0) p1.names [.slice A13 p1.names.length c14] ∧ ((tSlice 28 tyRule (by decide))).im w (L o329 0) p1.rules [.slice A15 p1.rules.length c16] ∧ Tr (Ls o0 []) w0 o0 w o329) (fun (x : (Unit ⊕ Unit)) (e : Exit) (a : Act) (w : World) => (match x with | .inl x => (e = .ret ∧ ∃ (o330 : Own), MB 192 [] [(2, .bool false)] a ∧ Tr (Ls o0 []) w0 o0 w o330) | .inr x => (e = .exit 2 ∧ ∃ (o331 : Own), MB 192 [] [(1, .pointer (some ⟨g17, 0, none⟩)), (3, .int .i64 (p1.terms.length : Int)), (4, .int .i64 (p1.names.length : Int))] a ∧ Box w o331 100 g17 25 #[.slice A11 p1.terms.length c12, .slice A13 p1.names.length c14, .slice A15 p1.rules.length c16] ∧ ((tSlice 9 tStr (by decide))).im w (L o331 0) p1.terms [.slice A11 p1.terms.length c12] ∧ ((tSlice 9 tStr (by decide))).im w (L o331 0) p1.names [.slice A13 p1.names.length c14] ∧ ((tSlice 28 tyRule (by decide))).im w (L o331 0) p1.rules [.slice A15 p1.rules.length c16] ∧ Tr (Ls o0 []) w0 o0 w o331))) ?_ hx389 ⟨o215, (M.pk [1, 2, 3, 0] rfl), q216, i217, i218, i219, T220⟩ ?_
 ·rintro y274 a w332 r333 hI334 h
  replace h : ref03_Good_b1 k p1 y274 = some r333 := h
  unfold ref03_Good_b1 at h
  obtain ⟨o335, M, q336, i337, i338, i339, T340⟩ := hI334
  refine c_seq <| c_seq <| c_reg <| pn (j := 3) E 3 M rfl rfl fun a M => x_end rfl <| q_then ?_
  by_cases hk86 : (decide (y274 < (p1.terms.length : Int))) = true
  ·rw [if_pos hk86] at h
   have M := M.k 67 rfl hk86
   refine c_true (M.e 0 rfl) <| wp_skip <| q_then <| c_seq <| wp_block <| c_seq ?_
   obtain ⟨x342, hx343, h⟩ := bind_some h
   obtain ⟨hx3430, hx3431, hx3432⟩ := at_some hx343
   obtain ⟨g344, f345, c346, ds347, hv348, hd349, he350⟩ := im_elem i337 hx3431
   have hsds347 : ds347 = [.string x342] := hd349
   subst hsds347
   have he350 : ElemAt w332 o335 0 g344 f345 (y274).toNat 1 [.string x342] := he350
   obtain ⟨r352, hr353, h⟩ := bind_some h
   by_cases hk91 : (!r352) = true
   ·rw [if_pos hk91] at h
    refine draw_p E mixed [0, 1, 0, 7, 15, 31, 63, 127, 255, 511, 255, 1279, 255, 7423, 15615, 32767, 255, 131071, 262143] (by kernel_rfl) rfl M [(1, .slice A11 p1.terms.length c12), (3, .pointer (some ⟨g344, f345 + (y274).toNat * 1, none⟩)), (4, .string x342), (5, .bool r352), (6, .bool true)] rfl rfl rfl o335 ⟨fun a w o M G r => qv rfl rfl M rfl (x_load ld_22 (G.e 0 rfl rfl) ((q336.kn r).cell (n := 0) rfl)),
   fun a w o M G r => qv rfl rfl M rfl (x_indexAddr Try.underlying22 sz_9 ((G.e 1 rfl rfl).trans hv348) (G.e 2 rfl rfl) hx3430 hx3432),
   fun a w o M G r => qv rfl rfl M rfl (x_load ld_9 (G.e 3 rfl rfl) ((he350.kn r).2 0 _ rfl)),
   ?_,
   ?_,
   trivial⟩ ?_
    ·intro a w o M G r
     refine dc rfl (wp0 rfl) rfl rfl M (x_call cf_76 (m1 (G.e 4 rfl rfl))) (ref01_IsTerm_calls hr353 (lko_own (T := [(0, 0)]) (o := o) rfl)) (fun e92 w354 hp355 => ?_)
     obtain ⟨o356, he357, T358⟩ := hp355
     obtain ⟨o359, ho360⟩ := ex (mrg w o [(0, 0)] o356)
     have t361 := T358.r0 ho360
     refine ⟨_, he357, fun a' p => ?_⟩
     exact ⟨o359, _, _, rfl, p, t361⟩
    ·intro a w o M G r
     refine dv rfl rfl M (x_not (G.e 5 rfl rfl)) fun a' p => ?_
     exact ⟨o, _, _, rfl, putb p hk91, Tr.refl _ _ _⟩
    intro a w362 o363 M t364
    refine q_then <| c_true (M.e 18 rfl) <| c_seq <| c_reg <| pn (j := 1) E 1 M rfl rfl fun a M => x_end rfl <| q_then <| wp_ret <| q_blk_ret <| q_then_ret ?_
    obtain rfl := sj h
    have u93 := T340.kn t364
    exact lq_ret ⟨rfl, ⟨o363, (M.pk [0] rfl), u93⟩⟩
   rw [if_neg hk91] at h
   have hk91 := nott hk91
   obtain ⟨x365, hx366, h⟩ := bind_some h
   obtain ⟨hx3660, hx3661, hx3662⟩ := at_some hx366
   obtain ⟨g367, f368, c369, ds370, hv371, hd372, he373⟩ := im_elem i337 hx3661
   have hsds370 : ds370 = [.string x365] := hd372
   subst hsds370
   have he373 : ElemAt w332 o335 0 g367 f368 (y274).toNat 1 [.string x365] := he373
   obtain ⟨r375, hr376, h⟩ := bind_some h
   refine draw_p E mixed [0, 1, 0, 7, 15, 31, 63, 127, 255, 511, 255, 1279, 255, 7423, 15615, 32767, 255, 131071, 262143] (by kernel_rfl) rfl M [(1, .slice A11 p1.terms.length c12), (3, .pointer (some ⟨g344, f345 + (y274).toNat * 1, none⟩)), (4, .string x342), (5, .bool r352), (6, .bool false), (9, .slice A11 p1.terms.length c12), (11, .slice A11 p1.terms.length c12), (13, .pointer (some ⟨g367, f368 + (y274).toNat * 1, none⟩)), (14, .string x365), (15, .int .i64 r375)] rfl rfl rfl o335 ⟨fun a w o M G r => qv rfl rfl M rfl (x_load ld_22 (G.e 0 rfl rfl) ((q336.kn r).cell (n := 0) rfl)),
   fun a w o M G r => qv rfl rfl M rfl (x_indexAddr Try.underlying22 sz_9 ((G.e 1 rfl rfl).trans hv348) (G.e 2 rfl rfl) hx3430 hx3432),
   fun a w o M G r => qv rfl rfl M rfl (x_load ld_9 (G.e 3 rfl rfl) ((he350.kn r).2 0 _ rfl)),
   ?_,
   ?_,
   fun a w o M G r => qw rfl (wanted_yes rfl rfl (G.t 7 rfl rfl)) rfl rfl M rfl (x_load ld_22 (G.e 8 rfl rfl) ((q336.kn r).cell (n := 0) rfl)),
   fun a w o M G r => qw rfl (wanted_yes rfl rfl (G.t 7 rfl rfl)) rfl rfl M rfl (x_load ld_22 (G.e 10 rfl rfl) ((q336.kn r).cell (n := 0) rfl)),
   fun a w o M G r => qw rfl (wanted_yes rfl rfl (G.t 7 rfl rfl)) rfl rfl M rfl (x_indexAddr Try.underlying22 sz_9 ((G.e 11 rfl rfl).trans hv371) (G.e 12 rfl rfl) hx3660 hx3662),
   fun a w o M G r => qw rfl (wanted_yes rfl rfl (G.t 7 rfl rfl)) rfl rfl M rfl (x_load ld_9 (G.e 13 rfl rfl) ((he373.kn r).2 0 _ rfl)),
   ?_,
   trivial⟩ ?_
   ·intro a w o M G r
    refine dc rfl (wp0 rfl) rfl rfl M (x_call cf_76 (m1 (G.e 4 rfl rfl))) (ref01_IsTerm_calls hr353 (lko_own (T := [(0, 0)]) (o := o) rfl)) (fun e95 w354 hp355 => ?_)
    obtain ⟨o356, he357, T358⟩ := hp355
    obtain ⟨o359, ho360⟩ := ex (mrg w o [(0, 0)] o356)
    have t361 := T358.r0 ho360
    refine ⟨_, he357, fun a' p => ?_⟩
    exact ⟨o359, _, _, rfl, p, t361⟩
   ·intro a w o M G r
    refine dv rfl rfl M (x_not (G.e 5 rfl rfl)) fun a' p => ?_
    exact ⟨o, _, _, rfl, putb p hk91, Tr.refl _ _ _⟩
   ·intro a w o M G r
    refine dc rfl (wanted_yes rfl rfl (G.t 7 rfl rfl)) rfl rfl M (x_call cf_75 (m2 (G.e 9 rfl rfl) (G.e 14 rfl rfl))) (ref03_at_calls hr376 (lko_own (T := [(0, 0)]) (o := o) rfl) (sL (iN i337 r) rfl)) (fun e96 w377 hp378 => ?_)
    obtain ⟨o379, he380, T381⟩ := hp378
    obtain ⟨o382, ho383⟩ := ex (mrg w o [(0, 0)] o379)
    have t384 := T381.r0 ho383
    refine ⟨_, he380, fun a' p => ?_⟩
    exact ⟨o382, _, _, rfl, p, t384⟩
   intro a w385 o386 M t387
   refine q_then ?_
   by_cases hk97 : (r375 != y274) = true
   ·rw [if_pos hk97] at h
    have M := M.k 88 rfl hk97
    refine c_true (M.e 18 rfl) <| c_seq <| c_reg <| pn (j := 1) E 1 M rfl rfl fun a M => x_end rfl <| q_then <| wp_ret <| q_blk_ret <| q_then_ret ?_
    obtain rfl := sj h
    have u98 := T340.kn t387
    exact lq_ret ⟨rfl, ⟨o386, (M.pk [0] rfl), u98⟩⟩
   rw [if_neg hk97] at h
   have hk97 := nott hk97
   have M := M.k 88 rfl hk97
   refine c_false (M.e 18 rfl) <| wp_skip <| q_blk <| q_then <| c_reg <| pn (j := 2) E 2 M rfl rfl fun a M => ?_
   have M := M.pk [0, 1, 10, 11, 12, 13, 14, 15, 16, 17, 18, 19, 24, 25, 26] rfl
   refine pn (j := 3) E 1 M rfl rfl fun a M => x_end rfl ?_
   obtain rfl := sj h
   have u99 := T340.kn t387
   exact lq_next ⟨o386, (M.pk [13, 14, 15, 0] rfl), (q336.kn t387), (iN i337 t387), (iN i338 t387), (iN i339 t387), u99⟩
  rw [if_neg hk86] at h
  have hk86 := nott hk86
  have M := M.k 67 rfl hk86
  refine c_false (M.e 0 rfl) <| wp_exit <| q_then_exit ?_
  obtain rfl := sj h
  exact lq_exit ⟨rfl, ⟨o335, (M.pk [3, 4, 5] rfl), q336, i337, i338, i339, T340⟩⟩
 intro e100 a w390 hO391
 rcases x388 with x388 | x388
 ·rw [scase_l] at h
  obtain ⟨he392, hO391⟩ := hO391
  subst he392
  obtain ⟨o393, M, T394⟩ := hO391
  refine q_blk_ret <| q_then_ret ?_
  obtain rfl := sj h
  exact ⟨M.f.defers, _, (res1 Try.results25 (rv_tmp (M.t 0 rfl))), ⟨o393, rfl, T394⟩⟩
 rw [scase_r] at h
 obtain ⟨he395, hO391⟩ := hO391
 subst he395
 obtain ⟨o396, M, q397, i398, i399, i400, T401⟩ := hO391
 refine q_blk_here <| q_then <| c_seq <| c_reg <| pn (j := 2) E 2 M rfl rfl fun a M => x_end rfl <| q_then <| c_seq <| c_seq <| c_reg <| pn (j := 1) E 1 M rfl rfl fun a M => x_end rfl <| q_then <| wp_block ?_
 obtain ⟨x1184, hx1185, h⟩ := bind_some h
 refine loop_iter (S := (Int × Int × Int)) (X := (Unit ⊕ (Int × Int))) (fun (s : (Int × Int × Int)) => ref03_Good_b2 k p1 s.1 s.2.1 s.2.2) (fun (s : (Int × Int × Int)) (a : Act) (w : World) => ∃ (o922 : Own), MB 192 [] [(1, .pointer (some ⟨g17, 0, none⟩)), (3, .int .i64 (p1.terms.length : Int)), (4, .int .i64 (p1.names.length : Int)), (7, .int .i64 s.1), (8, .int .i64 s.2.1), (9, .int .i64 s.2.2)] a ∧ Box w o922 100 g17 25 #[.slice A11 p1.terms.length c12, .slice A13 p1.names.length c14, .slice A15 p1.rules.length c16] ∧ ((tSlice 9 tStr (by decide))).im w (L o922 0) p1.terms [.slice A11 p1.terms.length c12] ∧ ((tSlice 9 tStr (by decide))).im w (L o922 0) p1.names [.slice A13 p1.names.length c14] ∧ ((tSlice 28 tyRule (by decide))).im w (L o922 0) p1.rules [.slice A15 p1.rules.length c16] ∧ Tr (Ls o0 []) w0 o0 w o922) (fun (x : (Unit ⊕ (Int × Int))) (e : Exit) (a : Act) (w : World) => (match x with | .inl x => (e = .ret ∧ ∃ (o923 : Own), MB 192 [] [(2, .bool false)] a ∧ Tr (Ls o0 []) w0 o0 w o923) | .inr x => (e = .exit 4 ∧ ∃ (o924 : Own), MB 192 [] [(3, .int .i64 (p1.terms.length : Int)), (4, .int .i64 (p1.names.length : Int)), (7, .int .i64 x.1), (8, .int .i64 x.2)] a ∧ Tr (Ls o0 []) w0 o0 w o924))) ?_ hx1185 ⟨o396, (M.pk [3, 4, 5, 2, 1, 0] rfl), q397, i398, i399, i400, T401⟩ ?_
 ·rintro ⟨y658, y659, y660⟩ a w925 r926 hI927 h
  replace h : ref03_Good_b2 k p1 y658 y659 y660 = some r926 := h
  unfold ref03_Good_b2 at h
  obtain ⟨o928, M, q929, i930, i931, i932, T933⟩ := hI927
  refine c_seq <| c_seq <| c_reg <| pn (j := 2) E 2 M rfl rfl fun a M => ov rfl rfl M (x_load ld_23 (M.e 0 rfl) (q929.cell (n := 2) rfl)) fun a M => pn (j := 5) E 2 M rfl rfl fun a M => x_end rfl <| q_then ?_
  by_cases hk330 : (decide (y660 < (p1.rules.length : Int))) = true
  ·rw [if_pos hk330] at h
   have M := M.k 93 rfl hk330
   refine c_true (M.e 0 rfl) <| wp_skip <| q_then <| c_seq <| wp_block <| c_seq <| c_reg <| pn (j := 1) E 1 M rfl rfl fun a M => ov rfl rfl M (x_load ld_23 (M.e 0 rfl) (q929.cell (n := 2) rfl)) fun a M => pn (j := 3) E 1 M rfl rfl fun a M => ?_
   obtain ⟨x934, hx935, h⟩ := bind_some h
   obtain ⟨hx9350, hx9351, hx9352⟩ := at_some hx935
   obtain ⟨g936, f937, c938, ds939, hv940, hd941, he942⟩ := im_elem i932 hx9351
   obtain ⟨A943, c944, rfl, i945⟩ := Rule_open hd941
   have he942 : ElemAt w925 o928 0 g936 f937 (y660).toNat 2 [.int .i64 x934.left, .slice A943 x934.right.length c944] := he942
   refine ov rfl rfl M (x_indexAddr Try.underlying23 sz_28 ((M.e 1 rfl).trans hv940) (M.e 0 rfl) hx9350 hx9352) fun a M => ov rfl rfl M (x_loadN (ldn_28 _ rfl) (M.e 0 rfl) he942.all) fun a M => ?_
   obtain ⟨g948, w949, o950, r951, b952, t953⟩ := b_alloc zv_28 a w925 o928 101
   refine ov rfl rfl M (r951 _ _ _ _ _) fun a M => ?_
   obtain ⟨w954, r955, b956, t957⟩ := b_storeN (P := Try.prog) (all' := #[.int .i64 x934.left, .slice A943 x934.right.length c944]) (.inr trivial) (stn_28 _ rfl) (M.e 0 rfl) (M.e 1 rfl) b952 (show 2 ≤ 2 by decide) (by simp [Value.oneCell']) rfl
   have b956 : Box w954 o950 101 g948 28 #[.int .i64 x934.left, .slice A943 x934.right.length c944] := b956
   refine os rfl (wp0 rfl) rfl (r955 _ _ _ _ _) <| x_end rfl <| q_then <| c_seq <| c_seq ?_
   obtain ⟨x1038, hx1039, h⟩ := bind_some h
   refine cut_c (fun (x : Bool) (e : Exit) (a : Act) (w : World) => (e = .normal ∧ ∃ (o1037 : Own), MB 192 [] [(1, .pointer (some ⟨g17, 0, none⟩)), (3, .int .i64 (p1.terms.length : Int)), (4, .int .i64 (p1.names.length : Int)), (7, .int .i64 y658), (8, .int .i64 y659), (9, .int .i64 y660), (10, .pointer (some ⟨g948, 0, none⟩)), (134, .bool x)] a ∧ Box w o1037 100 g17 25 #[.slice A11 p1.terms.length c12, .slice A13 p1.names.length c14, .slice A15 p1.rules.length c16] ∧ Box w o1037 101 g948 28 #[.int .i64 x934.left, .slice A943 x934.right.length c944] ∧ ((tSlice 9 tStr (by decide))).im w (L o1037 0) p1.terms [.slice A11 p1.terms.length c12] ∧ ((tSlice 9 tStr (by decide))).im w (L o1037 0) p1.names [.slice A13 p1.names.length c14] ∧ ((tSlice 28 tyRule (by decide))).im w (L o1037 0) p1.rules [.slice A15 p1.rules.length c16] ∧ ((tSlice 3 (tInt .i64) (by decide))).im w (L o1037 0) x934.right [.slice A943 x934.right.length c944] ∧ Tr (Ls o0 []) w0 o0 w o1037)) x1038 ?_ ?_
   ·replace h := hx1039
    by_cases hk361 : (decide (x934.left < (p1.terms.length : Int))) = true
    ·rw [if_pos hk361] at h
     refine draw_p E mixed [0, 1, 0, 7, 15, 31, 63, 31, 31, 415, 1023, 2047, 4095, 8191, 16383, 8191, 8191, 106495, 262143, 524287, 1048575, 2097151, 4194303, 8388607, 16777215, 33554431, 67108863, 134217727, 268435455, 134217727, 1073741823, 134217727, 4294967295, 8589934591] (by kernel_rfl) rfl M [(1, .int .i64 x934.left), (3, .bool true)] rfl rfl rfl o950 ⟨fun a w o M G r => qv rfl rfl M rfl (x_load ld_3 (G.e 0 rfl rfl) ((b956.kn r).cell (n := 0) rfl)),
   ?_,
   trivial⟩ ?_
     ·intro a w o M G r
      refine dv rfl rfl M (x_lss (G.e 1 rfl rfl) (G.e 2 rfl rfl)) fun a' p => ?_
      exact ⟨o, _, _, rfl, putb p hk361, Tr.refl _ _ _⟩
     intro a w1041 o1042 M t1043
     obtain rfl := sj h
     have u362 := iN (iK (iN i930 t953) t957 rfl) t1043
     have u363 := iN (iK (iN i931 t953) t957 rfl) t1043
     have u364 := iN (iK (iN i932 t953) t957 rfl) t1043
     have u365 := iN (iK (iN i945 t953) t957 rfl) t1043
     have u366 := ((q929.kn t953).kk t957 rfl).kn t1043
     have u367 := ((T933.kn t953).kk t957 hown rfl).kn t1043
     exact ⟨rfl, ⟨o1042, (M.pk [45, 46, 47, 48, 49, 50, 34, 33] rfl), u366, (b956.kn t1043), u362, u363, u364, u365, u367⟩⟩
    rw [if_neg hk361] at h
    have hk361 := nott hk361
    by_cases hk368 : (decide ((IntKind.wrap .i64 ((p1.terms.length : Int) + y658)) < x934.left)) = true
    ·rw [if_pos hk368] at h
     refine draw_p E mixed [0, 1, 0, 7, 15, 31, 63, 31, 31, 415, 1023, 2047, 4095, 8191, 16383, 8191, 8191, 106495, 262143, 524287, 1048575, 2097151, 4194303, 8388607, 16777215, 33554431, 67108863, 134217727, 268435455, 134217727, 1073741823, 134217727, 4294967295, 8589934591] (by kernel_rfl) rfl M [(1, .int .i64 x934.left), (3, .bool false), (6, .int .i64 x934.left), (10, .bool true), (11, .bool true)] rfl rfl rfl o950 ⟨fun a w o M G r => qv rfl rfl M rfl (x_load ld_3 (G.e 0 rfl rfl) ((b956.kn r).cell (n := 0) rfl)),
   ?_,
   fun a w o M G r => qw rfl (wanted_yes rfl rfl (G.t 4 rfl rfl)) rfl rfl M rfl (x_load ld_3 (G.e 5 rfl rfl) ((b956.kn r).cell (n := 0) rfl)),
   ?_,
   fun a w o M G r => qv rfl rfl M rfl (x_pick0 (y := (.const (.bool true))) (G.t 4 rfl rfl) (G.e 10 rfl rfl)),
   trivial⟩ ?_
     ·intro a w o M G r
      refine dv rfl rfl M (x_lss (G.e 1 rfl rfl) (G.e 2 rfl rfl)) fun a' p => ?_
      exact ⟨o, _, _, rfl, putb p hk361, Tr.refl _ _ _⟩
     ·intro a w o M G r
      refine dw rfl (wanted_yes rfl rfl (G.t 4 rfl rfl)) rfl rfl M (x_gtr (G.e 6 rfl rfl) (G.e 9 rfl rfl)) fun a' p => ?_
      exact ⟨o, _, _, rfl, putb p hk368, Tr.refl _ _ _⟩
     intro a w1044 o1045 M t1046
     obtain rfl := sj h
     have u369 := iN (iK (iN i930 t953) t957 rfl) t1046
     have u370 := iN (iK (iN i931 t953) t957 rfl) t1046
     have u371 := iN (iK (iN i932 t953) t957 rfl) t1046
     have u372 := iN (iK (iN i945 t953) t957 rfl) t1046
     have u373 := ((q929.kn t953).kk t957 rfl).kn t1046
     have u374 := ((T933.kn t953).kk t957 hown rfl).kn t1046
     exact ⟨rfl, ⟨o1045, (M.pk [45, 46, 47, 48, 49, 50, 34, 33] rfl), u373, (b956.kn t1046), u369, u370, u371, u372, u374⟩⟩
    rw [if_neg hk368] at h
    have hk368 := nott hk368
    by_cases hk375 : (decide ((IntKind.wrap .i64 ((p1.terms.length : Int) + (p1.names.length : Int))) ≤ x934.left)) = true
    ·rw [if_pos hk375] at h
     refine draw_p E mixed [0, 1, 0, 7, 15, 31, 63, 31, 31, 415, 1023, 2047, 4095, 8191, 16383, 8191, 8191, 106495, 262143, 524287, 1048575, 2097151, 4194303, 8388607, 16777215, 33554431, 67108863, 134217727, 268435455, 134217727, 1073741823, 134217727, 4294967295, 8589934591] (by kernel_rfl) rfl M [(1, .int .i64 x934.left), (3, .bool false), (6, .int .i64 x934.left), (10, .bool false), (11, .bool false), (14, .int .i64 x934.left), (18, .bool true), (19, .bool true)] rfl rfl rfl o950 ⟨fun a w o M G r => qv rfl rfl M rfl (x_load ld_3 (G.e 0 rfl rfl) ((b956.kn r).cell (n := 0) rfl)),
   ?_,
   fun a w o M G r => qw rfl (wanted_yes rfl rfl (G.t 4 rfl rfl)) rfl rfl M rfl (x_load ld_3 (G.e 5 rfl rfl) ((b956.kn r).cell (n := 0) rfl)),
   ?_,
   fun a w o M G r => qv rfl rfl M rfl (x_pick0 (y := (.const (.bool true))) (G.t 4 rfl rfl) (G.e 10 rfl rfl)),
   fun a w o M G r => qw rfl (wanted_yes rfl rfl (G.t 12 rfl rfl)) rfl rfl M rfl (x_load ld_3 (G.e 13 rfl rfl) ((b956.kn r).cell (n := 0) rfl)),
   ?_,
   fun a w o M G r => qv rfl rfl M rfl (x_pick0 (y := (.const (.bool true))) (G.t 12 rfl rfl) (G.e 18 rfl rfl)),
   trivial⟩ ?_
     ·intro a w o M G r
      refine dv rfl rfl M (x_lss (G.e 1 rfl rfl) (G.e 2 rfl rfl)) fun a' p => ?_
      exact ⟨o, _, _, rfl, putb p hk361, Tr.refl _ _ _⟩
     ·intro a w o M G r
      refine dw rfl (wanted_yes rfl rfl (G.t 4 rfl rfl)) rfl rfl M (x_gtr (G.e 6 rfl rfl) (G.e 9 rfl rfl)) fun a' p => ?_
      exact ⟨o, _, _, rfl, putb p hk368, Tr.refl _ _ _⟩
     ·intro a w o M G r
      refine dw rfl (wanted_yes rfl rfl (G.t 12 rfl rfl)) rfl rfl M (x_geq (G.e 14 rfl rfl) (G.e 17 rfl rfl)) fun a' p => ?_
      exact ⟨o, _, _, rfl, putb p hk375, Tr.refl _ _ _⟩
     intro a w1047 o1048 M t1049
     obtain rfl := sj h
     have u376 := iN (iK (iN i930 t953) t957 rfl) t1049
     have u377 := iN (iK (iN i931 t953) t957 rfl) t1049
     have u378 := iN (iK (iN i932 t953) t957 rfl) t1049
     have u379 := iN (iK (iN i945 t953) t957 rfl) t1049
     have u380 := ((q929.kn t953).kk t957 rfl).kn t1049
     have u381 := ((T933.kn t953).kk t957 hown rfl).kn t1049
     exact ⟨rfl, ⟨o1048, (M.pk [45, 46, 47, 48, 49, 50, 34, 33] rfl), u380, (b956.kn t1049), u376, u377, u378, u379, u381⟩⟩
    rw [if_neg hk375] at h
    have hk375 := nott hk375
    by_cases hk382 : (decide ((8 : Int) < (x934.right.length : Int))) = true
    ·rw [if_pos hk382] at h
     refine draw_p E mixed [0, 1, 0, 7, 15, 31, 63, 31, 31, 415, 1023, 2047, 4095, 8191, 16383, 8191, 8191, 106495, 262143, 524287, 1048575, 2097151, 4194303, 8388607, 16777215, 33554431, 67108863, 134217727, 268435455, 134217727, 1073741823, 134217727, 4294967295, 8589934591] (by kernel_rfl) rfl M [(1, .int .i64 x934.left), (3, .bool false), (6, .int .i64 x934.left), (10, .bool false), (11, .bool false), (14, .int .i64 x934.left), (18, .bool false), (19, .bool false), (22, .slice A943 x934.right.length c944), (24, .bool true), (25, .bool true)] rfl rfl rfl o950 ⟨fun a w o M G r => qv rfl rfl M rfl (x_load ld_3 (G.e 0 rfl rfl) ((b956.kn r).cell (n := 0) rfl)),
   ?_,
   fun a w o M G r => qw rfl (wanted_yes rfl rfl (G.t 4 rfl rfl)) rfl rfl M rfl (x_load ld_3 (G.e 5 rfl rfl) ((b956.kn r).cell (n := 0) rfl)),
   ?_,
   fun a w o M G r => qv rfl rfl M rfl (x_pick0 (y := (.const (.bool true))) (G.t 4 rfl rfl) (G.e 10 rfl rfl)),
   fun a w o M G r => qw rfl (wanted_yes rfl rfl (G.t 12 rfl rfl)) rfl rfl M rfl (x_load ld_3 (G.e 13 rfl rfl) ((b956.kn r).cell (n := 0) rfl)),
   ?_,
   fun a w o M G r => qv rfl rfl M rfl (x_pick0 (y := (.const (.bool true))) (G.t 12 rfl rfl) (G.e 18 rfl rfl)),
   fun a w o M G r => qw rfl (wanted_yes rfl rfl (G.t 20 rfl rfl)) rfl rfl M rfl (x_load ld_26 (G.e 21 rfl rfl) ((b956.kn r).cell (n := 1) rfl)),
   ?_,
   fun a w o M G r => qv rfl rfl M rfl (x_pick0 (y := (.const (.bool true))) (G.t 20 rfl rfl) (G.e 24 rfl rfl)),
   trivial⟩ ?_
     ·intro a w o M G r
      refine dv rfl rfl M (x_lss (G.e 1 rfl rfl) (G.e 2 rfl rfl)) fun a' p => ?_
      exact ⟨o, _, _, rfl, putb p hk361, Tr.refl _ _ _⟩
     ·intro a w o M G r
      refine dw rfl (wanted_yes rfl rfl (G.t 4 rfl rfl)) rfl rfl M (x_gtr (G.e 6 rfl rfl) (G.e 9 rfl rfl)) fun a' p => ?_
      exact ⟨o, _, _, rfl, putb p hk368, Tr.refl _ _ _⟩
     ·intro a w o M G r
      refine dw rfl (wanted_yes rfl rfl (G.t 12 rfl rfl)) rfl rfl M (x_geq (G.e 14 rfl rfl) (G.e 17 rfl rfl)) fun a' p => ?_
      exact ⟨o, _, _, rfl, putb p hk375, Tr.refl _ _ _⟩
     ·intro a w o M G r
      refine dw rfl (wanted_yes rfl rfl (G.t 20 rfl rfl)) rfl rfl M (x_gtr (G.e 23 rfl rfl) (e_const (v := .int .i64 (8 : Int)))) fun a' p => ?_
      exact ⟨o, _, _, rfl, putb p hk382, Tr.refl _ _ _⟩
     intro a w1050 o1051 M t1052
     obtain rfl := sj h
     have u383 := iN (iK (iN i930 t953) t957 rfl) t1052
     have u384 := iN (iK (iN i931 t953) t957 rfl) t1052
     have u385 := iN (iK (iN i932 t953) t957 rfl) t1052
     have u386 := iN (iK (iN i945 t953) t957 rfl) t1052
     have u387 := ((q929.kn t953).kk t957 rfl).kn t1052
     have u388 := ((T933.kn t953).kk t957 hown rfl).kn t1052
     exact ⟨rfl, ⟨o1051, (M.pk [45, 46, 47, 48, 49, 50, 34, 33] rfl), u387, (b956.kn t1052), u383, u384, u385, u386, u388⟩⟩
    rw [if_neg hk382] at h
    have hk382 := nott hk382
    obtain ⟨hc1053, h⟩ := ifs h
    obtain ⟨r1059, hr1060, h⟩ := bind_some h
    have u391 := (T933.kn t953).kk t957 hown rfl
    refine draw_m mixed [0, 1, 0, 7, 15, 31, 63, 31, 31, 415, 1023, 2047, 4095, 8191, 16383, 8191, 8191, 106495, 262143, 524287, 1048575, 2097151, 4194303, 8388607, 16777215, 33554431, 67108863, 134217727, 268435455, 134217727, 1073741823, 134217727, 4294967295, 8589934591] (by kernel_rfl) rfl M (fun U a w => ∃ (o : Own) (A1054 : Option Addr) (c1055 : Nat), Tab [(0, 101, .pointer (some ⟨g948, 0, none⟩)), (1, 102, .int .i64 x934.left), (2, 103, .int .i64 (p1.terms.length : Int)), (3, 104, .bool (decide (x934.left < (p1.terms.length : Int)))), (4, 105, .bool (decide (x934.left < (p1.terms.length : Int)))), (5, 106, .pointer (some ⟨g948, 0, none⟩)), (6, 107, .int .i64 x934.left), (7, 108, .int .i64 (p1.terms.length : Int)), (8, 109, .int .i64 y658), (9, 110, .int .i64 (IntKind.wrap .i64 ((p1.terms.length : Int) + y658))), (10, 111, .bool (decide ((IntKind.wrap .i64 ((p1.terms.length : Int) + y658)) < x934.left))), (11, 112, .bool (decide ((IntKind.wrap .i64 ((p1.terms.length : Int) + y658)) < x934.left))), (12, 113, .bool (decide ((IntKind.wrap .i64 ((p1.terms.length : Int) + y658)) < x934.left))), (13, 114, .pointer (some ⟨g948, 0, none⟩)), (14, 115, .int .i64 x934.left), (15, 116, .int .i64 (p1.terms.length : Int)), (16, 117, .int .i64 (p1.names.length : Int)), (17, 118, .int .i64 (IntKind.wrap .i64 ((p1.terms.length : Int) + (p1.names.length : Int)))), (18, 119, .bool (decide ((IntKind.wrap .i64 ((p1.terms.length : Int) + (p1.names.length : Int))) ≤ x934.left))), (19, 120, .bool (decide ((IntKind.wrap .i64 ((p1.terms.length : Int) + (p1.names.length : Int))) ≤ x934.left))), (20, 121, .bool (decide ((IntKind.wrap .i64 ((p1.terms.length : Int) + (p1.names.length : Int))) ≤ x934.left))), (21, 122, .pointer (some ⟨g948, 1, none⟩)), (22, 123, .slice A943 x934.right.length c944), (23, 124, .int .i64 (x934.right.length : Int)), (24, 125, .bool (decide ((8 : Int) < (x934.right.length : Int)))), (25, 126, .bool (decide ((8 : Int) < (x934.right.length : Int)))), (26, 127, .bool (decide ((8 : Int) < (x934.right.length : Int)))), (27, 128, .pointer (some ⟨g17, 2, none⟩)), (28, 129, .slice A15 p1.rules.length c16), (29, 130, .int .i64 y660), (31, 132, .agg #[.int .i64 x934.left, .slice A943 x934.right.length c944]), (32, 133, .bool r1059), (33, 134, .bool r1059)] U a ∧ Tab [(30, 131, .slice A1054 (cutl p1.rules (0 : Int).toNat y660.toNat).length c1055)] U a ∧ Tr (FL [] o950 U) w954 o950 w o ∧ (U 30 = true → (tSlice 28 tyRule (by decide)).im w (L o 0) (cutl p1.rules (0 : Int).toNat y660.toNat) [.slice A1054 (cutl p1.rules (0 : Int).toNat y660.toNat).length c1055])) ?_ ⟨?_, ?_, ?_, ?_, ?_, ?_, ?_, ?_, ?_, ?_, ?_, ?_, ?_, ?_, ?_, ?_, ?_, ?_, ?_, ?_, ?_, ?_, ?_, ?_, ?_, ?_, ?_, ?_, ?_, ?_, ?_, ?_, ?_, ?_, trivial⟩ ?_
    ·exact ⟨o950, none, 0, Tab.start, Tab.start, FL.start (tr_drew _ _), fun h => Bool.noConfusion h⟩
    ·intro U a w M hL hA hD hI
     obtain ⟨o, A1054, c1055, TG0, TG1, tr, FE0⟩ := hI
     refine dv rfl rfl M (x_fieldAddr fa_28_0 (M.e 0 rfl) rfl) fun a' p => ?_
     exact ⟨M.st p rfl, o, A1054, c1055, (TG0.step p 0 rfl rfl), (TG1.other p rfl), (FL.idle tr), FE0⟩
    ·intro U a w M hL hA hD hI
     obtain ⟨o, A1054, c1055, TG0, TG1, tr, FE0⟩ := hI
     refine dv rfl rfl M (x_load ld_3 (e_tmp (TG0.get 0 rfl (hA 0 rfl))) ((b956.keep_ (FL.same tr trivial)).cell (n := 0) rfl)) fun a' p => ?_
     exact ⟨M.st p rfl, o, A1054, c1055, (TG0.step p 1 rfl rfl), (TG1.other p rfl), (FL.idle tr), FE0⟩
    ·intro U a w M hL hA hD hI
     obtain ⟨o, A1054, c1055, TG0, TG1, tr, FE0⟩ := hI
     refine dv rfl rfl M (x_move (M.e 12 rfl)) fun a' p => ?_
     exact ⟨M.st p rfl, o, A1054, c1055, (TG0.step p 2 rfl rfl), (TG1.other p rfl), (FL.idle tr), FE0⟩
    ·intro U a w M hL hA hD hI
     obtain ⟨o, A1054, c1055, TG0, TG1, tr, FE0⟩ := hI
     refine dv rfl rfl M (x_lss (e_tmp (TG0.get 1 rfl (hA 1 rfl))) (e_tmp (TG0.get 2 rfl (hA 2 rfl)))) fun a' p => ?_
     exact ⟨M.st p rfl, o, A1054, c1055, (TG0.step p 3 rfl rfl), (TG1.other p rfl), (FL.idle tr), FE0⟩
    ·intro U a w M hL hA hD hI
     obtain ⟨o, A1054, c1055, TG0, TG1, tr, FE0⟩ := hI
     refine dv rfl rfl M (x_move (e_tmp (TG0.get 3 rfl (hA 3 rfl)))) fun a' p => ?_
     exact ⟨M.st p rfl, o, A1054, c1055, (TG0.step p 4 rfl rfl), (TG1.other p rfl), (FL.idle tr), FE0⟩
    ·intro U a w M hL hA hD hI
     obtain ⟨o, A1054, c1055, TG0, TG1, tr, FE0⟩ := hI
     refine dw rfl (wanted_yes rfl rfl (bt (TG0.get 4 rfl (hA 4 rfl)) hk361)) rfl rfl M (x_fieldAddr fa_28_0 (M.e 0 rfl) rfl) fun a' p => ?_
     exact ⟨M.st p rfl, o, A1054, c1055, (TG0.step p 5 rfl rfl), (TG1.other p rfl), (FL.idle tr), FE0⟩
    ·intro U a w M hL hA hD hI
     obtain ⟨o, A1054, c1055, TG0, TG1, tr, FE0⟩ := hI
     refine dw rfl (wanted_yes rfl rfl (bt (TG0.get 4 rfl (hA 4 rfl)) hk361)) rfl rfl M (x_load ld_3 (e_tmp (TG0.get 5 rfl (hA 5 rfl))) ((b956.keep_ (FL.same tr trivial)).cell (n := 0) rfl)) fun a' p => ?_
     exact ⟨M.st p rfl, o, A1054, c1055, (TG0.step p 6 rfl rfl), (TG1.other p rfl), (FL.idle tr), FE0⟩
    ·intro U a w M hL hA hD hI
     obtain ⟨o, A1054, c1055, TG0, TG1, tr, FE0⟩ := hI
     refine dw rfl (wanted_yes rfl rfl (bt (TG0.get 4 rfl (hA 4 rfl)) hk361)) rfl rfl M (x_move (M.e 12 rfl)) fun a' p => ?_
     exact ⟨M.st p rfl, o, A1054, c1055, (TG0.step p 7 rfl rfl), (TG1.other p rfl), (FL.idle tr), FE0⟩
    ·intro U a w M hL hA hD hI
     obtain ⟨o, A1054, c1055, TG0, TG1, tr, FE0⟩ := hI
     refine dw rfl (wanted_yes rfl rfl (bt (TG0.get 4 rfl (hA 4 rfl)) hk361)) rfl rfl M (x_move (M.e 14 rfl)) fun a' p => ?_
     exact ⟨M.st p rfl, o, A1054, c1055, (TG0.step p 8 rfl rfl), (TG1.other p rfl), (FL.idle tr), FE0⟩
    ·intro U a w M hL hA hD hI
     obtain ⟨o, A1054, c1055, TG0, TG1, tr, FE0⟩ := hI
     refine dw rfl (wanted_yes rfl rfl (bt (TG0.get 4 rfl (hA 4 rfl)) hk361)) rfl rfl M (x_add (e_tmp (TG0.get 7 rfl (hA 7 rfl))) (e_tmp (TG0.get 8 rfl (hA 8 rfl)))) fun a' p => ?_
     exact ⟨M.st p rfl, o, A1054, c1055, (TG0.step p 9 rfl rfl), (TG1.other p rfl), (FL.idle tr), FE0⟩
    ·intro U a w M hL hA hD hI
     obtain ⟨o, A1054, c1055, TG0, TG1, tr, FE0⟩ := hI
     refine dw rfl (wanted_yes rfl rfl (bt (TG0.get 4 rfl (hA 4 rfl)) hk361)) rfl rfl M (x_gtr (e_tmp (TG0.get 6 rfl (hA 6 rfl))) (e_tmp (TG0.get 9 rfl (hA 9 rfl)))) fun a' p => ?_
     exact ⟨M.st p rfl, o, A1054, c1055, (TG0.step p 10 rfl rfl), (TG1.other p rfl), (FL.idle tr), FE0⟩
    ·intro U a w M hL hA hD hI
     obtain ⟨o, A1054, c1055, TG0, TG1, tr, FE0⟩ := hI
     refine dv rfl rfl M (x_pick0 (y := (.const (.bool true))) (bt (TG0.get 4 rfl (hA 4 rfl)) hk361) (e_tmp (TG0.get 10 rfl (hA 10 rfl)))) fun a' p => ?_
     exact ⟨M.st p rfl, o, A1054, c1055, (TG0.step p 11 rfl rfl), (TG1.other p rfl), (FL.idle tr), FE0⟩
    ·intro U a w M hL hA hD hI
     obtain ⟨o, A1054, c1055, TG0, TG1, tr, FE0⟩ := hI
     refine dv rfl rfl M (x_move (e_tmp (TG0.get 11 rfl (hA 11 rfl)))) fun a' p => ?_
     exact ⟨M.st p rfl, o, A1054, c1055, (TG0.step p 12 rfl rfl), (TG1.other p rfl), (FL.idle tr), FE0⟩
    ·intro U a w M hL hA hD hI
     obtain ⟨o, A1054, c1055, TG0, TG1, tr, FE0⟩ := hI
     refine dw rfl (wanted_yes rfl rfl (bt (TG0.get 12 rfl (hA 12 rfl)) hk368)) rfl rfl M (x_fieldAddr fa_28_0 (M.e 0 rfl) rfl) fun a' p => ?_
     exact ⟨M.st p rfl, o, A1054, c1055, (TG0.step p 13 rfl rfl), (TG1.other p rfl), (FL.idle tr), FE0⟩
    ·intro U a w M hL hA hD hI
     obtain ⟨o, A1054, c1055, TG0, TG1, tr, FE0⟩ := hI
     refine dw rfl (wanted_yes rfl rfl (bt (TG0.get 12 rfl (hA 12 rfl)) hk368)) rfl rfl M (x_load ld_3 (e_tmp (TG0.get 13 rfl (hA 13 rfl))) ((b956.keep_ (FL.same tr trivial)).cell (n := 0) rfl)) fun a' p => ?_
     exact ⟨M.st p rfl, o, A1054, c1055, (TG0.step p 14 rfl rfl), (TG1.other p rfl), (FL.idle tr), FE0⟩
    ·intro U a w M hL hA hD hI
     obtain ⟨o, A1054, c1055, TG0, TG1, tr, FE0⟩ := hI
     refine dw rfl (wanted_yes rfl rfl (bt (TG0.get 12 rfl (hA 12 rfl)) hk368)) rfl rfl M (x_move (M.e 12 rfl)) fun a' p => ?_
     exact ⟨M.st p rfl, o, A1054, c1055, (TG0.step p 15 rfl rfl), (TG1.other p rfl), (FL.idle tr), FE0⟩
    ·intro U a w M hL hA hD hI
     obtain ⟨o, A1054, c1055, TG0, TG1, tr, FE0⟩ := hI
     refine dw rfl (wanted_yes rfl rfl (bt (TG0.get 12 rfl (hA 12 rfl)) hk368)) rfl rfl M (x_move (M.e 13 rfl)) fun a' p => ?_
     exact ⟨M.st p rfl, o, A1054, c1055, (TG0.step p 16 rfl rfl), (TG1.other p rfl), (FL.idle tr), FE0⟩
    ·intro U a w M hL hA hD hI
     obtain ⟨o, A1054, c1055, TG0, TG1, tr, FE0⟩ := hI
     refine dw rfl (wanted_yes rfl rfl (bt (TG0.get 12 rfl (hA 12 rfl)) hk368)) rfl rfl M (x_add (e_tmp (TG0.get 15 rfl (hA 15 rfl))) (e_tmp (TG0.get 16 rfl (hA 16 rfl)))) fun a' p => ?_
     exact ⟨M.st p rfl, o, A1054, c1055, (TG0.step p 17 rfl rfl), (TG1.other p rfl), (FL.idle tr), FE0⟩
    ·intro U a w M hL hA hD hI
     obtain ⟨o, A1054, c1055, TG0, TG1, tr, FE0⟩ := hI
     refine dw rfl (wanted_yes rfl rfl (bt (TG0.get 12 rfl (hA 12 rfl)) hk368)) rfl rfl M (x_geq (e_tmp (TG0.get 14 rfl (hA 14 rfl))) (e_tmp (TG0.get 17 rfl (hA 17 rfl)))) fun a' p => ?_
     exact ⟨M.st p rfl, o, A1054, c1055, (TG0.step p 18 rfl rfl), (TG1.other p rfl), (FL.idle tr), FE0⟩
    ·intro U a w M hL hA hD hI
     obtain ⟨o, A1054, c1055, TG0, TG1, tr, FE0⟩ := hI
     refine dv rfl rfl M (x_pick0 (y := (.const (.bool true))) (bt (TG0.get 12 rfl (hA 12 rfl)) hk368) (e_tmp (TG0.get 18 rfl (hA 18 rfl)))) fun a' p => ?_
     exact ⟨M.st p rfl, o, A1054, c1055, (TG0.step p 19 rfl rfl), (TG1.other p rfl), (FL.idle tr), FE0⟩
    ·intro U a w M hL hA hD hI
     obtain ⟨o, A1054, c1055, TG0, TG1, tr, FE0⟩ := hI
     refine dv rfl rfl M (x_move (e_tmp (TG0.get 19 rfl (hA 19 rfl)))) fun a' p => ?_
     exact ⟨M.st p rfl, o, A1054, c1055, (TG0.step p 20 rfl rfl), (TG1.other p rfl), (FL.idle tr), FE0⟩
    ·intro U a w M hL hA hD hI
     obtain ⟨o, A1054, c1055, TG0, TG1, tr, FE0⟩ := hI
     refine dw rfl (wanted_yes rfl rfl (bt (TG0.get 20 rfl (hA 20 rfl)) hk375)) rfl rfl M (x_fieldAddr fa_28_1 (M.e 0 rfl) rfl) fun a' p => ?_
     exact ⟨M.st p rfl, o, A1054, c1055, (TG0.step p 21 rfl rfl), (TG1.other p rfl), (FL.idle tr), FE0⟩
    ·intro U a w M hL hA hD hI
     obtain ⟨o, A1054, c1055, TG0, TG1, tr, FE0⟩ := hI
     refine dw rfl (wanted_yes rfl rfl (bt (TG0.get 20 rfl (hA 20 rfl)) hk375)) rfl rfl M (x_load ld_26 (e_tmp (TG0.get 21 rfl (hA 21 rfl))) ((b956.keep_ (FL.same tr trivial)).cell (n := 1) rfl)) fun a' p => ?_
     exact ⟨M.st p rfl, o, A1054, c1055, (TG0.step p 22 rfl rfl), (TG1.other p rfl), (FL.idle tr), FE0⟩
    ·intro U a w M hL hA hD hI
     obtain ⟨o, A1054, c1055, TG0, TG1, tr, FE0⟩ := hI
     refine dw rfl (wanted_yes rfl rfl (bt (TG0.get 20 rfl (hA 20 rfl)) hk375)) rfl rfl M (x_lenSlice Try.underlying26 (e_tmp (TG0.get 22 rfl (hA 22 rfl)))) fun a' p => ?_
     exact ⟨M.st p rfl, o, A1054, c1055, (TG0.step p 23 rfl rfl), (TG1.other p rfl), (FL.idle tr), FE0⟩
    ·intro U a w M hL hA hD hI
     obtain ⟨o, A1054, c1055, TG0, TG1, tr, FE0⟩ := hI
     refine dw rfl (wanted_yes rfl rfl (bt (TG0.get 20 rfl (hA 20 rfl)) hk375)) rfl rfl M (x_gtr (e_tmp (TG0.get 23 rfl (hA 23 rfl))) (e_const (v := .int .i64 (8 : Int)))) fun a' p => ?_
     exact ⟨M.st p rfl, o, A1054, c1055, (TG0.step p 24 rfl rfl), (TG1.other p rfl), (FL.idle tr), FE0⟩
    ·intro U a w M hL hA hD hI
     obtain ⟨o, A1054, c1055, TG0, TG1, tr, FE0⟩ := hI
     refine dv rfl rfl M (x_pick0 (y := (.const (.bool true))) (bt (TG0.get 20 rfl (hA 20 rfl)) hk375) (e_tmp (TG0.get 24 rfl (hA 24 rfl)))) fun a' p => ?_
     exact ⟨M.st p rfl, o, A1054, c1055, (TG0.step p 25 rfl rfl), (TG1.other p rfl), (FL.idle tr), FE0⟩
    ·intro U a w M hL hA hD hI
     obtain ⟨o, A1054, c1055, TG0, TG1, tr, FE0⟩ := hI
     refine dv rfl rfl M (x_move (e_tmp (TG0.get 25 rfl (hA 25 rfl)))) fun a' p => ?_
     exact ⟨M.st p rfl, o, A1054, c1055, (TG0.step p 26 rfl rfl), (TG1.other p rfl), (FL.idle tr), FE0⟩
    ·intro U a w M hL hA hD hI
     obtain ⟨o, A1054, c1055, TG0, TG1, tr, FE0⟩ := hI
     refine dw rfl (wanted_yes rfl rfl (bt (TG0.get 26 rfl (hA 26 rfl)) hk382)) rfl rfl M (x_fieldAddr fa_25_2 (M.e 11 rfl) rfl) fun a' p => ?_
     exact ⟨M.st p rfl, o, A1054, c1055, (TG0.step p 27 rfl rfl), (TG1.other p rfl), (FL.idle tr), FE0⟩
    ·intro U a w M hL hA hD hI
     obtain ⟨o, A1054, c1055, TG0, TG1, tr, FE0⟩ := hI
     refine dw rfl (wanted_yes rfl rfl (bt (TG0.get 26 rfl (hA 26 rfl)) hk382)) rfl rfl M (x_load ld_23 (e_tmp (TG0.get 27 rfl (hA 27 rfl))) ((((q929.kn t953).kk t957 rfl).keep_ (FL.same tr trivial)).cell (n := 2) rfl)) fun a' p => ?_
     exact ⟨M.st p rfl, o, A1054, c1055, (TG0.step p 28 rfl rfl), (TG1.other p rfl), (FL.idle tr), FE0⟩
    ·intro U a w M hL hA hD hI
     obtain ⟨o, A1054, c1055, TG0, TG1, tr, FE0⟩ := hI
     refine dw rfl (wanted_yes rfl rfl (bt (TG0.get 26 rfl (hA 26 rfl)) hk382)) rfl rfl M (x_move (M.e 16 rfl)) fun a' p => ?_
     exact ⟨M.st p rfl, o, A1054, c1055, (TG0.step p 29 rfl rfl), (TG1.other p rfl), (FL.idle tr), FE0⟩
    ·intro U a w M hL hA hD hI
     obtain ⟨o, A1054, c1055, TG0, TG1, tr, FE0⟩ := hI
     obtain ⟨A1054, c1055, r1056, b1057⟩ := b_cutH (P := Try.prog) (w := w) (l := p1.rules) (e := 28) (sz := 2) (T := 23) (R := fun v => (tSlice 28 tyRule (by decide)).im w (L o 0) (cutl p1.rules (0 : Int).toNat y660.toNat) [v]) Try.underlying23 sz_28 (e_tmp (TG0.get 28 rfl (hA 28 rfl))) (e_tmp (TG0.get 29 rfl (hA 29 rfl))) (im_cap (Ty.loc _ (FL.same tr trivial) (iK (iN i932 t953) t957 rfl))) hc1053 (cutIm (Ty.loc _ (FL.same tr trivial) (iK (iN i932 t953) t957 rfl)) hc1053)
     have b1057 : (tSlice 28 tyRule (by decide)).im w (L o 0) (cutl p1.rules (0 : Int).toNat y660.toNat) [.slice A1054 (cutl p1.rules (0 : Int).toNat y660.toNat).length c1055] := b1057
     refine dw rfl (wanted_yes rfl rfl (bt (TG0.get 26 rfl (hA 26 rfl)) hk382)) rfl rfl M (r1056 _ _ _ _ _) fun a' p => ?_
     exact ⟨M.st p rfl, o, A1054, c1055, (TG0.other p rfl), (Tab.mk hD p 0 rfl rfl), (FL.idle tr), (fun _ => b1057)⟩
    ·intro U a w M hL hA hD hI
     obtain ⟨o, A1054, c1055, TG0, TG1, tr, FE0⟩ := hI
     refine dw rfl (wanted_yes rfl rfl (bt (TG0.get 26 rfl (hA 26 rfl)) hk382)) rfl rfl M (x_loadN (ldn_28 _ rfl) (M.e 0 rfl) ((b956.keep_ (FL.same tr trivial)).sub (cs := #[.int .i64 x934.left, .slice A943 x934.right.length c944]) 0 rfl)) fun a' p => ?_
     exact ⟨M.st p rfl, o, A1054, c1055, (TG0.step p 30 rfl rfl), (TG1.other p rfl), (FL.idle tr), FE0⟩
    ·intro U a w M hL hA hD hI
     obtain ⟨o, A1054, c1055, TG0, TG1, tr, FE0⟩ := hI
     refine dc rfl (wanted_yes rfl rfl (bt (TG0.get 26 rfl (hA 26 rfl)) hk382)) rfl rfl M (x_call cf_77 (m2 (e_tmp (TG1.get 0 rfl (hA 30 rfl))) (e_tmp (TG0.get 30 rfl (hA 31 rfl))))) (ref03_has_calls hr1060 (lko_own (T := [(0, 0)]) (o := o) rfl) (sL (FE0 (hA 30 rfl)) rfl) (sL (Ty.loc _ (FL.same tr trivial) (iK (iN i945 t953) t957 rfl)) rfl)) (fun e390 w1061 hp1062 => ?_)
     obtain ⟨o1063, he1064, T1065⟩ := hp1062
     obtain ⟨o1066, ho1067⟩ := ex (mrg w o [(0, 0)] o1063)
     have t1068 := T1065.r0 ho1067
     refine ⟨_, he1064, fun a' p => ?_⟩
     exact ⟨M.st p rfl, o1066, A1054, c1055, (TG0.step p 31 rfl rfl), (TG1.other p rfl), (FL.stepNo tr t1068), (fun h0 => Ty.loc _ (t1068.sameNo) (FE0 h0))⟩
    ·intro U a w M hL hA hD hI
     obtain ⟨o, A1054, c1055, TG0, TG1, tr, FE0⟩ := hI
     refine dv rfl rfl M (x_pick0 (y := (.const (.bool true))) (bt (TG0.get 26 rfl (hA 26 rfl)) hk382) (e_tmp (TG0.get 31 rfl (hA 32 rfl)))) fun a' p => ?_
     exact ⟨M.st p rfl, o, A1054, c1055, (TG0.step p 32 rfl rfl), (TG1.other p rfl), (FL.idle tr), FE0⟩
    intro U a w1069 M hA hI
    obtain ⟨o1070, A1054, c1055, TG0, TG1, tr, FE0⟩ := hI
    have M := M.ad (TG0.get 5 rfl (hA 5 rfl))
    have M := M.ad (TG0.get 6 rfl (hA 6 rfl))
    have M := M.ad (TG0.get 7 rfl (hA 7 rfl))
    have M := M.ad (TG0.get 8 rfl (hA 8 rfl))
    have M := M.ad (TG0.get 9 rfl (hA 9 rfl))
    have M := M.ad (TG0.get 10 rfl (hA 10 rfl))
    have M := M.ad (TG0.get 13 rfl (hA 13 rfl))
    have M := M.ad (TG0.get 14 rfl (hA 14 rfl))
    have M := M.ad (TG0.get 15 rfl (hA 15 rfl))
    have M := M.ad (TG0.get 16 rfl (hA 16 rfl))
    have M := M.ad (TG0.get 17 rfl (hA 17 rfl))
    have M := M.ad (TG0.get 18 rfl (hA 18 rfl))
    have M := M.ad (TG0.get 21 rfl (hA 21 rfl))
    have M := M.ad (TG0.get 22 rfl (hA 22 rfl))
    have M := M.ad (TG0.get 23 rfl (hA 23 rfl))
    have M := M.ad (TG0.get 24 rfl (hA 24 rfl))
    have M := M.ad (TG0.get 27 rfl (hA 27 rfl))
    have M := M.ad (TG0.get 28 rfl (hA 28 rfl))
    have M := M.ad (TG0.get 29 rfl (hA 29 rfl))
    have M := M.ad (TG1.get 0 rfl (hA 30 rfl))
    have M := M.ad (TG0.get 30 rfl (hA 31 rfl))
    have M := M.ad (TG0.get 31 rfl (hA 32 rfl))
    have M := M.ad (TG0.get 32 rfl (hA 33 rfl))
    have q1071 := (((q929.kn t953).kk t957 rfl).keep_ (FL.same tr trivial))
    have q1072 := (b956.keep_ (FL.same tr trivial))
    have i1073 := (Ty.loc _ (FL.same tr trivial) (iK (iN i930 t953) t957 rfl))
    have i1074 := (Ty.loc _ (FL.same tr trivial) (iK (iN i931 t953) t957 rfl))
    have i1075 := (Ty.loc _ (FL.same tr trivial) (iK (iN i932 t953) t957 rfl))
    have i1076 := (Ty.loc _ (FL.same tr trivial) (iK (iN i945 t953) t957 rfl))
    have i1077 := (FE0 (hA 30 rfl))
    have T1078 := Tr.kf u391 tr hown rfl
    clear hA TG0 TG1 tr FE0
    obtain rfl := sj h
    exact ⟨rfl, ⟨o1070, (M.pk [34, 35, 36, 37, 38, 39, 23, 0] rfl), q1071, q1072, i1073, i1074, i1075, i1076, T1078⟩⟩
   intro e392 a w1079 hO1080
   obtain ⟨he1081, hO1080⟩ := hO1080
   subst he1081
   obtain ⟨o1082, M, q1083, q1084, i1085, i1086, i1087, i1088, T1089⟩ := hO1080
   refine q_then ?_
   by_cases hk393 : x1038 = true
   ·rw [if_pos hk393] at h
    have M := M.k 134 rfl hk393
    refine c_true (M.e 7 rfl) <| c_seq <| c_reg <| pn (j := 1) E 1 M rfl rfl fun a M => x_end rfl <| q_then <| wp_ret <| q_then_ret <| q_blk_ret <| q_then_ret ?_
    obtain rfl := sj h
    exact lq_ret ⟨rfl, ⟨o1082, (M.pk [0] rfl), T1089⟩⟩
   rw [if_neg hk393] at h
   have hk393 := nott hk393
   have M := M.k 134 rfl hk393
   refine c_false (M.e 7 rfl) <| wp_skip <| q_then <| c_seq ?_
   obtain ⟨x1092, hx1093, h⟩ := bind_some h
   refine cut_c (fun (x : Int) (e : Exit) (a : Act) (w : World) => (e = .normal ∧ ∃ (o1091 : Own), MB 192 [] [(1, .pointer (some ⟨g17, 0, none⟩)), (3, .int .i64 (p1.terms.length : Int)), (4, .int .i64 (p1.names.length : Int)), (7, .int .i64 x), (8, .int .i64 y659), (9, .int .i64 y660), (10, .pointer (some ⟨g948, 0, none⟩))] a ∧ Box w o1091 100 g17 25 #[.slice A11 p1.terms.length c12, .slice A13 p1.names.length c14, .slice A15 p1.rules.length c16] ∧ Box w o1091 101 g948 28 #[.int .i64 x934.left, .slice A943 x934.right.length c944] ∧ ((tSlice 9 tStr (by decide))).im w (L o1091 0) p1.terms [.slice A11 p1.terms.length c12] ∧ ((tSlice 9 tStr (by decide))).im w (L o1091 0) p1.names [.slice A13 p1.names.length c14] ∧ ((tSlice 28 tyRule (by decide))).im w (L o1091 0) p1.rules [.slice A15 p1.rules.length c16] ∧ ((tSlice 3 (tInt .i64) (by decide))).im w (L o1091 0) x934.right [.slice A943 x934.right.length c944] ∧ Tr (Ls o0 []) w0 o0 w o1091)) x1092 ?_ ?_
   ·replace h := hx1093
    refine c_seq <| c_reg <| pn (j := 1) E 1 M rfl rfl fun a M => ov rfl rfl M (x_load ld_3 (M.e 0 rfl) (q1084.cell (n := 0) rfl)) fun a M => pn (j := 6) E 4 M rfl rfl fun a M => x_end rfl <| q_then ?_
    by_cases hk395 : (x934.left == (IntKind.wrap .i64 ((p1.terms.length : Int) + y658))) = true
    ·rw [if_pos hk395] at h
     have M := M.k 140 rfl hk395
     refine c_true (M.e 0 rfl) <| c_reg <| pn (j := 2) E 2 M rfl rfl fun a M => ?_
     have M := M.pk [0, 1, 8, 9, 10, 12, 13, 14] rfl
     refine pn (j := 3) E 1 M rfl rfl fun a M => x_end rfl ?_
     obtain rfl := sj h
     exact ⟨rfl, ⟨o1082, (M.pk [3, 4, 5, 0, 6, 7, 8] rfl), q1083, q1084, i1085, i1086, i1087, i1088, T1089⟩⟩
    rw [if_neg hk395] at h
    have hk395 := nott hk395
    have M := M.k 140 rfl hk395
    refine c_false (M.e 0 rfl) <| wp_skip ?_
    obtain rfl := sj h
    exact ⟨rfl, ⟨o1082, (M.pk [6, 7, 8, 9, 10, 11, 12] rfl), q1083, q1084, i1085, i1086, i1087, i1088, T1089⟩⟩
   intro e396 a w1094 hO1095
   obtain ⟨he1096, hO1095⟩ := hO1095
   subst he1096
   obtain ⟨o1097, M, q1098, q1099, i1100, i1101, i1102, i1103, T1104⟩ := hO1095
   refine q_then <| c_seq <| c_reg <| pn (j := 1) E 1 M rfl rfl fun a M => x_end rfl <| q_then <| wp_block ?_
   obtain ⟨x1170, hx1171, h⟩ := bind_some h
   refine loop_iter (S := (Int × Int)) (X := (Unit ⊕ Int)) (fun (s : (Int × Int)) => ref03_Good_b3 k p1 x934 s.1 s.2) (fun (s : (Int × Int)) (a : Act) (w : World) => ∃ (o1146 : Own), MB 192 [] [(1, .pointer (some ⟨g17, 0, none⟩)), (3, .int .i64 (p1.terms.length : Int)), (4, .int .i64 (p1.names.length : Int)), (7, .int .i64 x1092), (8, .int .i64 s.1), (9, .int .i64 y660), (10, .pointer (some ⟨g948, 0, none⟩)), (11, .int .i64 s.2)] a ∧ Box w o1146 100 g17 25 #[.slice A11 p1.terms.length c12, .slice A13 p1.names.length c14, .slice A15 p1.rules.length c16] ∧ Box w o1146 101 g948 28 #[.int .i64 x934.left, .slice A943 x934.right.length c944] ∧ ((tSlice 9 tStr (by decide))).im w (L o1146 0) p1.terms [.slice A11 p1.terms.length c12] ∧ ((tSlice 9 tStr (by decide))).im w (L o1146 0) p1.names [.slice A13 p1.names.length c14] ∧ ((tSlice 28 tyRule (by decide))).im w (L o1146 0) p1.rules [.slice A15 p1.rules.length c16] ∧ ((tSlice 3 (tInt .i64) (by decide))).im w (L o1146 0) x934.right [.slice A943 x934.right.length c944] ∧ Tr (Ls o0 []) w0 o0 w o1146) (fun (x : (Unit ⊕ Int)) (e : Exit) (a : Act) (w : World) => (match x with | .inl x => (e = .ret ∧ ∃ (o1147 : Own), MB 192 [] [(2, .bool false)] a ∧ Tr (Ls o0 []) w0 o0 w o1147) | .inr x => (e = .exit 6 ∧ ∃ (o1148 : Own), MB 192 [] [(1, .pointer (some ⟨g17, 0, none⟩)), (3, .int .i64 (p1.terms.length : Int)), (4, .int .i64 (p1.names.length : Int)), (7, .int .i64 x1092), (8, .int .i64 x), (9, .int .i64 y660)] a ∧ Box w o1148 100 g17 25 #[.slice A11 p1.terms.length c12, .slice A13 p1.names.length c14, .slice A15 p1.rules.length c16] ∧ ((tSlice 9 tStr (by decide))).im w (L o1148 0) p1.terms [.slice A11 p1.terms.length c12] ∧ ((tSlice 9 tStr (by decide))).im w (L o1148 0) p1.names [.slice A13 p1.names.length c14] ∧ ((tSlice 28 tyRule (by decide))).im w (L o1148 0) p1.rules [.slice A15 p1.rules.length c16] ∧ Tr (Ls o0 []) w0 o0 w o1148))) ?_ hx1171 ⟨o1097, (M.pk [1, 2, 3, 4, 5, 6, 7, 0] rfl), q1098, q1099, i1100, i1101, i1102, i1103, T1104⟩ ?_
   ·rintro ⟨y1123, y1124⟩ a w1149 r1150 hI1151 h
    replace h : ref03_Good_b3 k p1 x934 y1123 y1124 = some r1150 := h
    unfold ref03_Good_b3 at h
    obtain ⟨o1152, M, q1153, q1154, i1155, i1156, i1157, i1158, T1159⟩ := hI1151
    refine c_seq <| c_seq <| c_reg <| pn (j := 2) E 2 M rfl rfl fun a M => ov rfl rfl M (x_load ld_26 (M.e 0 rfl) (q1154.cell (n := 1) rfl)) fun a M => pn (j := 5) E 2 M rfl rfl fun a M => x_end rfl <| q_then ?_
    by_cases hk428 : (decide (y1124 < (x934.right.length : Int))) = true
    ·rw [if_pos hk428] at h
     have M := M.k 147 rfl hk428
     refine c_true (M.e 0 rfl) <| wp_skip <| q_then <| c_seq <| wp_block <| c_seq <| c_reg <| pn (j := 1) E 1 M rfl rfl fun a M => ov rfl rfl M (x_load ld_26 (M.e 0 rfl) (q1154.cell (n := 1) rfl)) fun a M => pn (j := 3) E 1 M rfl rfl fun a M => ?_
     obtain ⟨x1160, hx1161, h⟩ := bind_some h
     obtain ⟨hx11610, hx11611, hx11612⟩ := at_some hx1161
     obtain ⟨g1162, f1163, c1164, ds1165, hv1166, hd1167, he1168⟩ := im_elem i1158 hx11611
     have hsds1165 : ds1165 = [.int .i64 x1160] := hd1167
     subst hsds1165
     have he1168 : ElemAt w1149 o1152 0 g1162 f1163 (y1124).toNat 1 [.int .i64 x1160] := he1168
     refine ov rfl rfl M (x_indexAddr Try.underlying26 sz_3 ((M.e 1 rfl).trans hv1166) (M.e 0 rfl) hx11610 hx11612) fun a M => ov rfl rfl M (x_load ld_3 (M.e 0 rfl) (he1168.2 0 _ rfl)) fun a M => pn (j := 6) E 1 M rfl rfl fun a M => x_end rfl <| q_then <| c_seq <| c_seq <| c_reg <| pn (j := 3) E 3 M rfl rfl fun a M => ?_
     by_cases hk436 : (decide (x1160 < (0 : Int))) = true
     ·rw [if_pos hk436] at h
      have M := M.k 157 rfl hk436
      refine pn (j := 19) E 16 M rfl rfl fun a M => x_end rfl <| q_then <| c_true (M.e 0 rfl) <| c_seq <| c_reg <| pn (j := 1) E 1 M rfl rfl fun a M => x_end rfl <| q_then <| wp_ret <| q_then_ret <| q_blk_ret <| q_then_ret ?_
      obtain rfl := sj h
      exact lq_ret ⟨rfl, ⟨o1152, (M.pk [0] rfl), T1159⟩⟩
     rw [if_neg hk436] at h
     have hk436 := nott hk436
     have M := M.k 157 rfl hk436
     refine pn (j := 10) E 7 M rfl rfl fun a M => ?_
     by_cases hk437 : (decide ((IntKind.wrap .i64 ((p1.terms.length : Int) + (p1.names.length : Int))) ≤ x1160)) = true
     ·rw [if_pos hk437] at h
      have M := M.k 164 rfl hk437
      refine pn (j := 19) E 9 M rfl rfl fun a M => x_end rfl <| q_then <| c_true (M.e 0 rfl) <| c_seq <| c_reg <| pn (j := 1) E 1 M rfl rfl fun a M => x_end rfl <| q_then <| wp_ret <| q_then_ret <| q_blk_ret <| q_then_ret ?_
      obtain rfl := sj h
      exact lq_ret ⟨rfl, ⟨o1152, (M.pk [0] rfl), T1159⟩⟩
     rw [if_neg hk437] at h
     have hk437 := nott hk437
     have M := M.k 164 rfl hk437
     refine pn (j := 14) E 4 M rfl rfl fun a M => ?_
     by_cases hk438 : (decide (x1160 < (p1.terms.length : Int))) = true
     ·rw [if_pos hk438] at h
      have M := M.k 168 rfl hk438
      refine pn (j := 19) E 5 M rfl rfl fun a M => x_end rfl <| q_then ?_
      by_cases hk439 : (decide (y1123 < x1160)) = true
      ·rw [if_pos hk439] at h
       have M := M.k 173 rfl hk439
       refine c_true (M.e 0 rfl) <| c_seq <| c_reg <| pn (j := 1) E 1 M rfl rfl fun a M => x_end rfl <| q_then <| wp_ret <| q_then_ret <| q_blk_ret <| q_then_ret ?_
       obtain rfl := sj h
       exact lq_ret ⟨rfl, ⟨o1152, (M.pk [0] rfl), T1159⟩⟩
      rw [if_neg hk439] at h
      have hk439 := nott hk439
      have M := M.k 173 rfl hk439
      refine c_false (M.e 0 rfl) <| wp_skip <| q_then <| c_seq <| c_reg <| pn (j := 4) E 4 M rfl rfl fun a M => ?_
      by_cases hk440 : (x1160 == y1123) = true
      ·rw [if_pos hk440] at h
       have M := M.k 177 rfl hk440
       refine pn (j := 8) E 4 M rfl rfl fun a M => x_end rfl <| q_then ?_
       have M := M.k 181 rfl hk438
       refine c_true (M.e 0 rfl) <| c_reg <| pn (j := 2) E 2 M rfl rfl fun a M => ?_
       have M := M.pk [0, 1, 3, 4, 5, 11, 12, 13, 14, 15, 16, 17, 18, 21, 22, 23, 24, 25, 40, 41, 42, 43, 45, 46, 47] rfl
       refine pn (j := 3) E 1 M rfl rfl fun a M => x_end rfl <| q_blk <| q_then <| c_reg <| pn (j := 2) E 2 M rfl rfl fun a M => ?_
       have M := M.pk [0, 1, 2, 5, 6, 7, 8, 9, 10, 11, 12, 13, 14, 15, 16, 17, 18, 19, 20, 21, 22, 23, 24, 25, 26] rfl
       refine pn (j := 3) E 1 M rfl rfl fun a M => x_end rfl ?_
       obtain rfl := sj h
       exact lq_next ⟨o1152, (M.pk [20, 21, 22, 23, 3, 24, 25, 0] rfl), q1153, q1154, i1155, i1156, i1157, i1158, T1159⟩
      rw [if_neg hk440] at h
      have hk440 := nott hk440
      have M := M.k 177 rfl hk440
      refine pn (j := 8) E 4 M rfl rfl fun a M => x_end rfl <| q_then <| c_false (M.e 0 rfl) <| wp_skip <| q_blk <| q_then <| c_reg <| pn (j := 2) E 2 M rfl rfl fun a M => ?_
      have M := M.pk [0, 1, 3, 4, 5, 11, 12, 13, 14, 15, 16, 17, 18, 21, 22, 23, 24, 25, 40, 41, 42, 43, 44, 45, 46] rfl
      refine pn (j := 3) E 1 M rfl rfl fun a M => x_end rfl ?_
      obtain rfl := sj h
      exact lq_next ⟨o1152, (M.pk [19, 20, 21, 22, 23, 24, 25, 0] rfl), q1153, q1154, i1155, i1156, i1157, i1158, T1159⟩
     rw [if_neg hk438] at h
     have hk438 := nott hk438
     have M := M.k 168 rfl hk438
     refine pn (j := 19) E 5 M rfl rfl fun a M => x_end rfl <| q_then <| c_false (M.e 0 rfl) <| wp_skip <| q_then <| c_seq <| c_reg <| pn (j := 4) E 4 M rfl rfl fun a M => ?_
     by_cases hk441 : (x1160 == y1123) = true
     ·rw [if_pos hk441] at h
      have M := M.k 177 rfl hk441
      refine pn (j := 8) E 4 M rfl rfl fun a M => x_end rfl <| q_then ?_
      have M := M.k 181 rfl hk438
      refine c_false (M.e 0 rfl) <| wp_skip <| q_blk <| q_then <| c_reg <| pn (j := 2) E 2 M rfl rfl fun a M => ?_
      have M := M.pk [0, 1, 3, 4, 5, 11, 12, 13, 14, 15, 16, 17, 18, 21, 22, 23, 24, 25, 40, 41, 42, 43, 44, 45, 46] rfl
      refine pn (j := 3) E 1 M rfl rfl fun a M => x_end rfl ?_
      obtain rfl := sj h
      exact lq_next ⟨o1152, (M.pk [19, 20, 21, 22, 23, 24, 25, 0] rfl), q1153, q1154, i1155, i1156, i1157, i1158, T1159⟩
     rw [if_neg hk441] at h
     have hk441 := nott hk441
     have M := M.k 177 rfl hk441
     refine pn (j := 8) E 4 M rfl rfl fun a M => x_end rfl <| q_then <| c_false (M.e 0 rfl) <| wp_skip <| q_blk <| q_then <| c_reg <| pn (j := 2) E 2 M rfl rfl fun a M => ?_
     have M := M.pk [0, 1, 3, 4, 5, 11, 12, 13, 14, 15, 16, 17, 18, 21, 22, 23, 24, 25, 40, 41, 42, 43, 44, 45, 46] rfl
     refine pn (j := 3) E 1 M rfl rfl fun a M => x_end rfl ?_
     obtain rfl := sj h
     exact lq_next ⟨o1152, (M.pk [19, 20, 21, 22, 23, 24, 25, 0] rfl), q1153, q1154, i1155, i1156, i1157, i1158, T1159⟩
    rw [if_neg hk428] at h
    have hk428 := nott hk428
    have M := M.k 147 rfl hk428
    refine c_false (M.e 0 rfl) <| wp_exit <| q_then_exit ?_
    obtain rfl := sj h
    exact lq_exit ⟨rfl, ⟨o1152, (M.pk [5, 6, 7, 8, 9, 10] rfl), q1153, i1155, i1156, i1157, T1159⟩⟩
   intro e442 a w1172 hO1173
   rcases x1170 with x1170 | x1170
   ·rw [scase_l] at h
    obtain ⟨he1174, hO1173⟩ := hO1173
    subst he1174
    obtain ⟨o1175, M, T1176⟩ := hO1173
    refine q_blk_ret <| q_blk_ret <| q_then_ret ?_
    obtain rfl := sj h
    exact lq_ret ⟨rfl, ⟨o1175, (M.pk [0] rfl), T1176⟩⟩
   rw [scase_r] at h
   obtain ⟨he1177, hO1173⟩ := hO1173
   subst he1177
   obtain ⟨o1178, M, q1179, i1180, i1181, i1182, T1183⟩ := hO1173
   refine q_blk_here <| q_blk <| q_then <| c_reg <| pn (j := 2) E 2 M rfl rfl fun a M => ?_
   have M := M.pk [0, 1, 2, 3, 4, 5, 6] rfl
   refine pn (j := 3) E 1 M rfl rfl fun a M => x_end rfl ?_
   obtain rfl := sj h
   exact lq_next ⟨o1178, (M.pk [3, 4, 5, 6, 7, 0] rfl), q1179, i1180, i1181, i1182, T1183⟩
  rw [if_neg hk330] at h
  have hk330 := nott hk330
  have M := M.k 93 rfl hk330
  refine c_false (M.e 0 rfl) <| wp_exit <| q_then_exit ?_
  obtain rfl := sj h
  exact lq_exit ⟨rfl, ⟨o928, (M.pk [6, 7, 8, 9] rfl), T933⟩⟩
 intro e443 a w1186 hO1187
 rcases x1184 with x1184 | x1184
 ·rw [scase_l] at h
  obtain ⟨he1188, hO1187⟩ := hO1187
  subst he1188
  obtain ⟨o1189, M, T1190⟩ := hO1187
  refine q_blk_ret <| q_then_ret ?_
  obtain rfl := sj h
  exact ⟨M.f.defers, _, (res1 Try.results25 (rv_tmp (M.t 0 rfl))), ⟨o1189, rfl, T1190⟩⟩
 rw [scase_r] at h
 obtain ⟨he1191, hO1187⟩ := hO1187
 subst he1191
 obtain ⟨o1192, M, T1193⟩ := hO1187
 refine q_blk_here <| q_then <| c_seq <| c_reg <| pn (j := 4) E 4 M rfl rfl fun a M => ?_
 by_cases hk444 : (x1184.1 == (p1.names.length : Int)) = true
 ·rw [if_pos hk444] at h
  have M := M.k 187 rfl hk444
  refine pn (j := 9) E 5 M rfl rfl fun a M => x_end rfl <| q_then <| wp_ret ?_
  obtain rfl := sj h
  exact ⟨M.f.defers, _, (res1 Try.results25 (rv_tmp (M.t 0 rfl))), ⟨o1192, rfl, T1193⟩⟩
 rw [if_neg hk444] at h
 have hk444 := nott hk444
 have M := M.k 187 rfl hk444
 refine pn (j := 9) E 5 M rfl rfl fun a M => x_end rfl <| q_then <| wp_ret ?_
 obtain rfl := sj h
 exact ⟨M.f.defers, _, (res1 Try.results25 (rv_tmp (M.t 0 rfl))), ⟨o1192, rfl, T1193⟩⟩
end Go.Proofs.Ythilemcdhkfhlaa
namespace Go.Proofs.Ythilemcdhkfhlaa
open Go Go.RowKit Go.Gc Go.Proofs
def law24_Small (k : Nat) (p1 : Grammar) (p11 : List Int) : Option Bool :=
  (keep_LargeGrammar k p1).bind fun r29 => if (!r29) = true then ((ref03_Good k p1).bind fun r39 => if (!r39) = true then (if (decide ((p11.length : Int) ≤ (9 : Int))) = true then (some true) else (if (decide ((40 : Int) < (p11.length : Int))) = true then (some (decide ((p11.length : Int) ≤ (100 : Int)))) else (some false))) else (if (decide ((p1.rules.length : Int) ≤ (20 : Int))) = true then (if (decide ((p11.length : Int) ≤ (9 : Int))) = true then (some true) else (if (decide ((40 : Int) < (p11.length : Int))) = true then (some (decide ((p11.length : Int) ≤ (100 : Int)))) else (some false))) else (some false))) else (some false)
theorem law24_Small_calls {k : Nat} {p1 : Grammar} {v2 : Value} {v5 : Value} {v8 : Value} {p11 : List Int} {v12 : Value} {r : Bool} (h : law24_Small k p1 p11 = some r) {w0 : World} {o0 : Own} (hown : Hown o0)
    (i4 : ((tSlice 9 tStr (by decide))).im w0 (L o0 0) p1.terms [v2])
    (i7 : ((tSlice 9 tStr (by decide))).im w0 (L o0 0) p1.names [v5])
    (i10 : ((tSlice 28 tyRule (by decide))).im w0 (L o0 0) p1.rules [v8])
    (i14 : ((tSlice 3 (tInt .i64) (by decide))).im w0 (L o0 0) p11 [v12]) :
    Calls Try.prog 24 #[.agg #[v2, v5, v8], v12] w0 (fun e w => ∃ (o49 : Own), e = .returned (.bool r) ∧ Tr (Ls o0 []) w0 o0 w o49) := by
 unfold law24_Small at h
 refine startM Try.func24 rfl Try.ntmps24 (show 2 ≤ 34 by decide) fun a M => ?_
 have M : MB 34 [] [(0, .agg #[v2, v5, v8]), (1, v12)] a := M
 obtain ⟨A15, c16, hzc16, -⟩ := im_form i4
 subst hzc16
 obtain ⟨A17, c18, hzc18, -⟩ := im_form i7
 subst hzc18
 obtain ⟨A19, c20, hzc20, -⟩ := im_form i10
 subst hzc20
 obtain ⟨A21, c22, hzc22, -⟩ := im_form i14
 subst hzc22
 have T0 : Tr (Ls o0 []) w0 o0 w0 o0 := Tr.refl _ _ _
 refine c_seq <| c_reg ?_
 obtain ⟨g23, w24, o25, r26, b27, t28⟩ := b_box (P := Try.prog) (T := 25) (M.e 0 rfl) w0 o0 100
 refine ov rfl rfl M (r26 _ _ _ _ _) fun a M => pn (j := 2) E 1 M rfl rfl fun a M => x_end rfl <| q_then <| c_seq <| c_reg <| ov rfl rfl M (x_loadN (ldn_25 _ rfl) (M.e 1 rfl) (b27.sub (cs := #[.slice A15 p1.terms.length c16, .slice A17 p1.names.length c18, .slice A19 p1.rules.length c20]) 0 rfl)) fun a M => ?_
 obtain ⟨r29, hr30, h⟩ := bind_some h
 refine oc rfl (wp0 rfl) rfl rfl M (x_call cf_56 (m1 (M.e 0 rfl))) (keep_LargeGrammar_calls hr30 (lko_own (T := [(0, 0)]) (o := o25) rfl) (sL (iN i4 t28) rfl) (sL (iN i7 t28) rfl) (sL (iN i10 t28) rfl)) (fun e1 w31 hp32 => ?_)
 obtain ⟨o33, he34, T35⟩ := hp32
 obtain ⟨o36, ho37⟩ := ex (mrg w24 o25 [(0, 0)] o33)
 have t38 := T35.r0 ho37
 refine ⟨_, he34, fun a M => ?_⟩
 refine pn (j := 4) E 2 M rfl rfl fun a M => ?_
 by_cases hk2 : (!r29) = true
 ·rw [if_pos hk2] at h
  have M := M.k 8 rfl hk2
  refine ow rfl (wanted_yes rfl rfl (M.t 0 rfl)) rfl rfl M (x_loadN (ldn_25 _ rfl) (M.e 5 rfl) ((b27.kn t38).sub (cs := #[.slice A15 p1.terms.length c16, .slice A17 p1.names.length c18, .slice A19 p1.rules.length c20]) 0 rfl)) fun a M => ?_
  obtain ⟨r39, hr40, h⟩ := bind_some h
  refine oc rfl (wanted_yes rfl rfl (M.t 1 rfl)) rfl rfl M (x_call cf_25 (m1 (M.e 0 rfl))) (ref03_Good_calls hr40 (lko_own (T := [(0, 0)]) (o := o36) rfl) (sL (iN (iN i4 t28) t38) rfl) (sL (iN (iN i7 t28) t38) rfl) (sL (iN (iN i10 t28) t38) rfl)) (fun e3 w41 hp42 => ?_)
  obtain ⟨o43, he44, T45⟩ := hp42
  obtain ⟨o46, ho47⟩ := ex (mrg w31 o36 [(0, 0)] o43)
  have t48 := T45.r0 ho47
  refine ⟨_, he44, fun a M => ?_⟩
  refine pn (j := 8) E 2 M rfl rfl fun a M => ?_
  by_cases hk4 : (!r39) = true
  ·rw [if_pos hk4] at h
   have M := M.k 12 rfl hk4
   refine pn (j := 19) E 11 M rfl rfl fun a M => ?_
   by_cases hk5 : (decide ((p11.length : Int) ≤ (9 : Int))) = true
   ·rw [if_pos hk5] at h
    have M := M.k 23 rfl hk5
    refine pn (j := 29) E 10 M rfl rfl fun a M => ?_
    have M := M.pk [0, 1, 2, 3, 4, 5, 6, 7, 8, 9, 10, 11, 12, 13, 14, 15, 16, 17, 18, 19, 20, 21, 22, 23, 24, 25, 26, 27, 28, 30, 32] rfl
    refine pn (j := 30) E 1 M rfl rfl fun a M => x_end rfl <| q_then <| wp_ret ?_
    have u6 := ((T0.kn t28).kn t38).kn t48
    obtain rfl := sj h
    exact ⟨M.f.defers, _, (res1 Try.results24 (rv_tmp (M.t 0 rfl))), ⟨o46, rfl, u6⟩⟩
   rw [if_neg hk5] at h
   have hk5 := nott hk5
   have M := M.k 23 rfl hk5
   refine pn (j := 23) E 4 M rfl rfl fun a M => ?_
   by_cases hk7 : (decide ((40 : Int) < (p11.length : Int))) = true
   ·rw [if_pos hk7] at h
    have M := M.k 27 rfl hk7
    refine pn (j := 29) E 6 M rfl rfl fun a M => ?_
    have M := M.pk [0, 1, 2, 3, 4, 5, 6, 7, 8, 9, 10, 11, 12, 13, 14, 15, 16, 17, 18, 19, 20, 21, 22, 23, 24, 25, 26, 27, 28, 30, 32] rfl
    refine pn (j := 30) E 1 M rfl rfl fun a M => x_end rfl <| q_then <| wp_ret ?_
    have u8 := ((T0.kn t28).kn t38).kn t48
    obtain rfl := sj h
    exact ⟨M.f.defers, _, (res1 Try.results24 (rv_tmp (M.t 0 rfl))), ⟨o46, rfl, u8⟩⟩
   rw [if_neg hk7] at h
   have hk7 := nott hk7
   have M := M.k 27 rfl hk7
   refine pn (j := 29) E 6 M rfl rfl fun a M => ?_
   have M := M.pk [0, 1, 2, 3, 4, 5, 6, 7, 8, 9, 10, 11, 12, 13, 14, 15, 16, 17, 18, 19, 20, 21, 22, 23, 24, 25, 26, 27, 28, 30, 32] rfl
   refine pn (j := 30) E 1 M rfl rfl fun a M => x_end rfl <| q_then <| wp_ret ?_
   have u9 := ((T0.kn t28).kn t38).kn t48
   obtain rfl := sj h
   exact ⟨M.f.defers, _, (res1 Try.results24 (rv_tmp (M.t 0 rfl))), ⟨o46, rfl, u9⟩⟩
  rw [if_neg hk4] at h
  have hk4 := nott hk4
  have M := M.k 12 rfl hk4
  refine pn (j := 9) E 1 M rfl rfl fun a M => ow rfl (wanted_yes rfl rfl (M.t 1 rfl)) rfl rfl M (x_load ld_23 (M.e 0 rfl) (((b27.kn t38).kn t48).cell (n := 2) rfl)) fun a M => pn (j := 15) E 5 M rfl rfl fun a M => ?_
  by_cases hk10 : (decide ((p1.rules.length : Int) ≤ (20 : Int))) = true
  ·rw [if_pos hk10] at h
   have M := M.k 19 rfl hk10
   refine pn (j := 19) E 4 M rfl rfl fun a M => ?_
   by_cases hk11 : (decide ((p11.length : Int) ≤ (9 : Int))) = true
   ·rw [if_pos hk11] at h
    have M := M.k 23 rfl hk11
    refine pn (j := 29) E 10 M rfl rfl fun a M => ?_
    have M := M.pk [0, 1, 2, 3, 4, 5, 6, 7, 8, 9, 10, 11, 12, 13, 14, 15, 16, 17, 18, 19, 20, 21, 22, 23, 24, 25, 26, 27, 28, 30, 32] rfl
    refine pn (j := 30) E 1 M rfl rfl fun a M => x_end rfl <| q_then <| wp_ret ?_
    have u12 := ((T0.kn t28).kn t38).kn t48
    obtain rfl := sj h
    exact ⟨M.f.defers, _, (res1 Try.results24 (rv_tmp (M.t 0 rfl))), ⟨o46, rfl, u12⟩⟩
   rw [if_neg hk11] at h
   have hk11 := nott hk11
   have M := M.k 23 rfl hk11
   refine pn (j := 23) E 4 M rfl rfl fun a M => ?_
   by_cases hk13 : (decide ((40 : Int) < (p11.length : Int))) = true
   ·rw [if_pos hk13] at h
    have M := M.k 27 rfl hk13
    refine pn (j := 29) E 6 M rfl rfl fun a M => ?_
    have M := M.pk [0, 1, 2, 3, 4, 5, 6, 7, 8, 9, 10, 11, 12, 13, 14, 15, 16, 17, 18, 19, 20, 21, 22, 23, 24, 25, 26, 27, 28, 30, 32] rfl
    refine pn (j := 30) E 1 M rfl rfl fun a M => x_end rfl <| q_then <| wp_ret ?_
    have u14 := ((T0.kn t28).kn t38).kn t48
    obtain rfl := sj h
    exact ⟨M.f.defers, _, (res1 Try.results24 (rv_tmp (M.t 0 rfl))), ⟨o46, rfl, u14⟩⟩
   rw [if_neg hk13] at h
   have hk13 := nott hk13
   have M := M.k 27 rfl hk13
   refine pn (j := 29) E 6 M rfl rfl fun a M => ?_
   have M := M.pk [0, 1, 2, 3, 4, 5, 6, 7, 8, 9, 10, 11, 12, 13, 14, 15, 16, 17, 18, 19, 20, 21, 22, 23, 24, 25, 26, 27, 28, 30, 32] rfl
   refine pn (j := 30) E 1 M rfl rfl fun a M => x_end rfl <| q_then <| wp_ret ?_
   have u15 := ((T0.kn t28).kn t38).kn t48
   obtain rfl := sj h
   exact ⟨M.f.defers, _, (res1 Try.results24 (rv_tmp (M.t 0 rfl))), ⟨o46, rfl, u15⟩⟩
  rw [if_neg hk10] at h
  have hk10 := nott hk10
  have M := M.k 19 rfl hk10
  refine pn (j := 29) E 14 M rfl rfl fun a M => ?_
  have M := M.pk [0, 1, 2, 3, 4, 5, 6, 7, 8, 9, 10, 11, 12, 13, 14, 15, 16, 17, 18, 19, 20, 21, 22, 23, 24, 25, 26, 27, 28, 30, 32] rfl
  refine pn (j := 30) E 1 M rfl rfl fun a M => x_end rfl <| q_then <| wp_ret ?_
  have u16 := ((T0.kn t28).kn t38).kn t48
  obtain rfl := sj h
  exact ⟨M.f.defers, _, (res1 Try.results24 (rv_tmp (M.t 0 rfl))), ⟨o46, rfl, u16⟩⟩
 rw [if_neg hk2] at h
 have hk2 := nott hk2
 have M := M.k 8 rfl hk2
 refine pn (j := 29) E 25 M rfl rfl fun a M => ?_
 have M := M.pk [0, 1, 2, 3, 4, 5, 6, 7, 8, 9, 10, 11, 12, 13, 14, 15, 16, 17, 18, 19, 20, 21, 22, 23, 24, 25, 26, 27, 28, 30, 32] rfl
 refine pn (j := 30) E 1 M rfl rfl fun a M => x_end rfl <| q_then <| wp_ret ?_
 have u17 := (T0.kn t28).kn t38
 obtain rfl := sj h
 exact ⟨M.f.defers, _, (res1 Try.results24 (rv_tmp (M.t 0 rfl))), ⟨o36, rfl, u17⟩⟩
end Go.Proofs.Ythilemcdhkfhlaa
namespace Go.Proofs.Ythilemcdhkfhlaa
open Go Go.RowKit Go.Gc Go.Proofs
def chart_Chart_Part (k : Nat) (p1 : Part) (p3 : List ByteArray) (p7 : List ByteArray) (p11 : List Rule) (p15 : Int) (p18 : List Bool) (p21 : List Bool) (p24 : List Int) (p27 : List Part) (c30 : Nat) (p31 : List Part) : Option Bool :=
  ((chart_Chart_in k p1.i p1.j p3 p7 p11 p15 p18 p21 p24 p27 c30 p31).bind fun r162 => if (!r162) = true then (some true) else (if (decide (p1.rule < (0 : Int))) = true then (some true) else (if (decide ((p11.length : Int) ≤ p1.rule)) = true then (some true) else (if (decide (p1.dot < (0 : Int))) = true then (some true) else ((chart_Chart_right k p1.rule p3 p7 p11 p15 p18 p21 p24 p27 c30 p31).bind fun r184 => some (decide ((r184.length : Int) < p1.dot))))))).bind fun x159 => if x159 = true then (some false) else ((at? p24 p1.rule).bind fun x229 => (chart_Chart_at k (IntKind.wrap .i64 (x229 + p1.dot)) p1.i p1.j p3 p7 p11 p15 p18 p21 p24 p27 c30 p31).bind fun r239 => (at? p21 (IntKind.wrap .i64 ((IntKind.wrap .i64 ((IntKind.wrap .i64 ((IntKind.wrap .i64 ((IntKind.wrap .i64 (x229 + p1.dot)) * (IntKind.wrap .i64 (p15 + (1 : Int))))) + p1.i)) * (IntKind.wrap .i64 (p15 + (1 : Int))))) + p1.j))).bind fun x249 => some x249)
theorem chart_Chart_Part_calls {k : Nat} {p1 : Part} {g2 : Nat} {p3 : List ByteArray} {v4 : Value} {p7 : List ByteArray} {v8 : Value} {p11 : List Rule} {v12 : Value} {p15 : Int} {v17 : Value} {p18 : List Bool} {v20 : Value} {p21 : List Bool} {v23 : Value} {p24 : List Int} {v26 : Value} {p27 : List Part} {g29 : Nat} {c30 : Nat} {p31 : List Part} {r : Bool} (h : chart_Chart_Part k p1 p3 p7 p11 p15 p18 p21 p24 p27 c30 p31 = some r) {w0 : World} {o0 : Own} (hown : Hown o0)
    (i6 : ((tSlice 9 tStr (by decide))).im w0 (L o0 0) p3 [v4])
    (i10 : ((tSlice 9 tStr (by decide))).im w0 (L o0 0) p7 [v8])
    (i14 : ((tSlice 28 tyRule (by decide))).im w0 (L o0 0) p11 [v12])
    (q16 : Box w0 o0 1 g2 116 #[v4, v8, v12, .int .i64 p15, v17, v20, v23, v26, .chan (some g29)])
    (q19 : Row tBool 4 w0 o0 2 v17 p18)
    (q22 : Row tBool 4 w0 o0 3 v20 p21)
    (q25 : Row (tInt .i64) 3 w0 o0 4 v23 p24)
    (q28 : Row tyPart 46 w0 o0 5 v26 p27)
    (q32 : Chan w0 o0 6 g29 c30 (p31.map cv_46)) :
    Calls Try.prog 32 #[.pointer (some ⟨g2, 0, none⟩), .agg #[.int .i64 p1.rule, .int .i64 p1.dot, .int .i64 p1.i, .int .i64 p1.j]] w0 (fun e w => ∃ (o262 : Own), e = .returned (.bool r) ∧ Tr (Ls o0 []) w0 o0 w o262) := by
 unfold chart_Chart_Part at h
 refine startM Try.func32 rfl Try.ntmps32 (show 2 ≤ 70 by decide) fun a M => ?_
 have M : MB 70 [] [(0, .pointer (some ⟨g2, 0, none⟩)), (1, .agg #[.int .i64 p1.rule, .int .i64 p1.dot, .int .i64 p1.i, .int .i64 p1.j])] a := M
 obtain ⟨A33, c34, hzc34, -⟩ := q19.form
 subst hzc34
 obtain ⟨A35, c36, hzc36, -⟩ := q22.form
 subst hzc36
 obtain ⟨A37, c38, hzc38, -⟩ := q25.form
 subst hzc38
 obtain ⟨A39, c40, hzc40, -⟩ := q28.form
 subst hzc40
 obtain ⟨A41, c42, hzc42, -⟩ := im_form i6
 subst hzc42
 obtain ⟨A43, c44, hzc44, -⟩ := im_form i10
 subst hzc44
 obtain ⟨A45, c46, hzc46, -⟩ := im_form i14
 subst hzc46
 have T0 : Tr (Ls o0 []) w0 o0 w0 o0 := Tr.refl _ _ _
 refine c_seq <| c_reg ?_
 obtain ⟨g47, w48, o49, r50, b51, t52⟩ := b_box (P := Try.prog) (T := 46) (M.e 1 rfl) w0 o0 100
 refine ov rfl rfl M (r50 _ _ _ _ _) fun a M => pn (j := 2) E 1 M rfl rfl fun a M => x_end rfl <| q_then <| c_seq <| c_seq ?_
 obtain ⟨x159, hx160, h⟩ := bind_some h
 refine cut_c (fun (x : Bool) (e : Exit) (a : Act) (w : World) => (e = .normal ∧ ∃ (o158 : Own), MB 70 [] [(0, .pointer (some ⟨g2, 0, none⟩)), (3, .pointer (some ⟨g47, 0, none⟩)), (46, .bool x)] a ∧ Box w o158 1 g2 116 #[.slice A41 p3.length c42, .slice A43 p7.length c44, .slice A45 p11.length c46, .int .i64 p15, .slice A33 p18.length c34, .slice A35 p21.length c36, .slice A37 p24.length c38, .slice A39 p27.length c40, .chan (some g29)] ∧ Box w o158 100 g47 46 #[.int .i64 p1.rule, .int .i64 p1.dot, .int .i64 p1.i, .int .i64 p1.j] ∧ Row tBool 4 w o158 2 (.slice A33 p18.length c34) p18 ∧ Row tBool 4 w o158 3 (.slice A35 p21.length c36) p21 ∧ Row (tInt .i64) 3 w o158 4 (.slice A37 p24.length c38) p24 ∧ Row tyPart 46 w o158 5 (.slice A39 p27.length c40) p27 ∧ Chan w o158 6 g29 c30 (p31.map cv_46) ∧ ((tSlice 9 tStr (by decide))).im w (L o158 0) p3 [.slice A41 p3.length c42] ∧ ((tSlice 9 tStr (by decide))).im w (L o158 0) p7 [.slice A43 p7.length c44] ∧ ((tSlice 28 tyRule (by decide))).im w (L o158 0) p11 [.slice A45 p11.length c46] ∧ Tr (Ls o0 []) w0 o0 w o158)) x159 ?_ ?_
 ·replace h := hx160
  obtain ⟨r162, hr163, h⟩ := bind_some h
  by_cases hk47 : (!r162) = true
  ·rw [if_pos hk47] at h
   refine draw_p E mixed [0, 1, 3, 7, 7, 23, 7, 71, 255, 511, 1023, 2047, 4095, 8191, 16383, 32767, 65535, 131071, 262143, 131071, 655359, 1703935, 3801087, 7995391, 16383999, 33554431, 67108863, 134217727, 268435455, 536870911, 1073741823, 2147483647, 4294967295, 8589934591, 17179869183, 8589934591, 8589934591, 77309411327, 249108103167, 523986010111, 1099511627775, 2199023255551] (by kernel_rfl) rfl M [(5, .int .i64 p1.i), (7, .int .i64 p1.j), (8, .bool r162), (9, .bool true), (10, .bool true)] rfl rfl rfl o49 ⟨fun a w o M G r => qw rfl (wanted_yes rfl rfl (G.t 2 rfl rfl)) rfl rfl M rfl (x_load ld_3 (G.e 4 rfl rfl) ((b51.kn r).cell (n := 2) rfl)),
   fun a w o M G r => qw rfl (wanted_yes rfl rfl (G.t 2 rfl rfl)) rfl rfl M rfl (x_load ld_3 (G.e 6 rfl rfl) ((b51.kn r).cell (n := 3) rfl)),
   ?_,
   ?_,
   fun a w o M G r => qv rfl rfl M rfl (x_pick0 (y := (.const (.bool true))) (G.t 2 rfl rfl) (G.e 9 rfl rfl)),
   trivial⟩ ?_
   ·intro a w o M G r
    refine dc rfl (wanted_yes rfl rfl (G.t 2 rfl rfl)) rfl rfl M (x_call cf_85 (m3 (G.e 3 rfl rfl) (G.e 5 rfl rfl) (G.e 7 rfl rfl))) (chart_Chart_in_calls hr163 (lko_own (T := [(0, 0), (1, 1), (2, 2), (3, 3), (4, 4), (5, 5), (6, 6)]) (o := o) rfl) (sL (iN (iN i6 t52) r) rfl) (sL (iN (iN i10 t52) r) rfl) (sL (iN (iN i14 t52) r) rfl) (((q16.kn t52).kn r).l rfl) (((q19.kn t52).kn r).l rfl rfl) (((q22.kn t52).kn r).l rfl rfl) (((q25.kn t52).kn r).l rfl rfl) (((q28.kn t52).kn r).l rfl rfl) (((q32.kn t52).kn r).l rfl)) (fun e48 w164 hp165 => ?_)
    obtain ⟨o166, he167, T168⟩ := hp165
    obtain ⟨o169, ho170⟩ := ex (mrg w o [(0, 0), (1, 1), (2, 2), (3, 3), (4, 4), (5, 5), (6, 6)] o166)
    have t171 := T168.r0 ho170
    refine ⟨_, he167, fun a' p => ?_⟩
    exact ⟨o169, _, _, rfl, p, t171⟩
   ·intro a w o M G r
    refine dw rfl (wanted_yes rfl rfl (G.t 2 rfl rfl)) rfl rfl M (x_not (G.e 8 rfl rfl)) fun a' p => ?_
    exact ⟨o, _, _, rfl, putb p hk47, Tr.refl _ _ _⟩
   intro a w172 o173 M t174
   obtain rfl := sj h
   have u49 := (T0.kn t52).kn t174
   exact ⟨rfl, ⟨o173, (M.pk [44, 43, 41] rfl), ((q16.kn t52).kn t174), (b51.kn t174), ((q19.kn t52).kn t174), ((q22.kn t52).kn t174), ((q25.kn t52).kn t174), ((q28.kn t52).kn t174), ((q32.kn t52).kn t174), (iN (iN i6 t52) t174), (iN (iN i10 t52) t174), (iN (iN i14 t52) t174), u49⟩⟩
  rw [if_neg hk47] at h
  have hk47 := nott hk47
  by_cases hk50 : (decide (p1.rule < (0 : Int))) = true
  ·rw [if_pos hk50] at h
   refine draw_p E mixed [0, 1, 3, 7, 7, 23, 7, 71, 255, 511, 1023, 2047, 4095, 8191, 16383, 32767, 65535, 131071, 262143, 131071, 655359, 1703935, 3801087, 7995391, 16383999, 33554431, 67108863, 134217727, 268435455, 536870911, 1073741823, 2147483647, 4294967295, 8589934591, 17179869183, 8589934591, 8589934591, 77309411327, 249108103167, 523986010111, 1099511627775, 2199023255551] (by kernel_rfl) rfl M [(5, .int .i64 p1.i), (7, .int .i64 p1.j), (8, .bool r162), (9, .bool false), (10, .bool false), (13, .int .i64 p1.rule), (14, .bool true), (15, .bool true)] rfl rfl rfl o49 ⟨fun a w o M G r => qw rfl (wanted_yes rfl rfl (G.t 2 rfl rfl)) rfl rfl M rfl (x_load ld_3 (G.e 4 rfl rfl) ((b51.kn r).cell (n := 2) rfl)),
   fun a w o M G r => qw rfl (wanted_yes rfl rfl (G.t 2 rfl rfl)) rfl rfl M rfl (x_load ld_3 (G.e 6 rfl rfl) ((b51.kn r).cell (n := 3) rfl)),
   ?_,
   ?_,
   fun a w o M G r => qv rfl rfl M rfl (x_pick0 (y := (.const (.bool true))) (G.t 2 rfl rfl) (G.e 9 rfl rfl)),
   fun a w o M G r => qw rfl (wanted_yes rfl rfl (G.t 11 rfl rfl)) rfl rfl M rfl (x_load ld_3 (G.e 12 rfl rfl) ((b51.kn r).cell (n := 0) rfl)),
   ?_,
   fun a w o M G r => qv rfl rfl M rfl (x_pick0 (y := (.const (.bool true))) (G.t 11 rfl rfl) (G.e 14 rfl rfl)),
   trivial⟩ ?_
   ·intro a w o M G r
    refine dc rfl (wanted_yes rfl rfl (G.t 2 rfl rfl)) rfl rfl M (x_call cf_85 (m3 (G.e 3 rfl rfl) (G.e 5 rfl rfl) (G.e 7 rfl rfl))) (chart_Chart_in_calls hr163 (lko_own (T := [(0, 0), (1, 1), (2, 2), (3, 3), (4, 4), (5, 5), (6, 6)]) (o := o) rfl) (sL (iN (iN i6 t52) r) rfl) (sL (iN (iN i10 t52) r) rfl) (sL (iN (iN i14 t52) r) rfl) (((q16.kn t52).kn r).l rfl) (((q19.kn t52).kn r).l rfl rfl) (((q22.kn t52).kn r).l rfl rfl) (((q25.kn t52).kn r).l rfl rfl) (((q28.kn t52).kn r).l rfl rfl) (((q32.kn t52).kn r).l rfl)) (fun e51 w164 hp165 => ?_)
    obtain ⟨o166, he167, T168⟩ := hp165
    obtain ⟨o169, ho170⟩ := ex (mrg w o [(0, 0), (1, 1), (2, 2), (3, 3), (4, 4), (5, 5), (6, 6)] o166)
    have t171 := T168.r0 ho170
    refine ⟨_, he167, fun a' p => ?_⟩
    exact ⟨o169, _, _, rfl, p, t171⟩
   ·intro a w o M G r
    refine dw rfl (wanted_yes rfl rfl (G.t 2 rfl rfl)) rfl rfl M (x_not (G.e 8 rfl rfl)) fun a' p => ?_
    exact ⟨o, _, _, rfl, putb p hk47, Tr.refl _ _ _⟩
   ·intro a w o M G r
    refine dw rfl (wanted_yes rfl rfl (G.t 11 rfl rfl)) rfl rfl M (x_lss (G.e 13 rfl rfl) (e_const (v := .int .i64 (0 : Int)))) fun a' p => ?_
    exact ⟨o, _, _, rfl, putb p hk50, Tr.refl _ _ _⟩
   intro a w175 o176 M t177
   obtain rfl := sj h
   have u52 := (T0.kn t52).kn t177
   exact ⟨rfl, ⟨o176, (M.pk [44, 43, 41] rfl), ((q16.kn t52).kn t177), (b51.kn t177), ((q19.kn t52).kn t177), ((q22.kn t52).kn t177), ((q25.kn t52).kn t177), ((q28.kn t52).kn t177), ((q32.kn t52).kn t177), (iN (iN i6 t52) t177), (iN (iN i10 t52) t177), (iN (iN i14 t52) t177), u52⟩⟩
  rw [if_neg hk50] at h
  have hk50 := nott hk50
  by_cases hk53 : (decide ((p11.length : Int) ≤ p1.rule)) = true
  ·rw [if_pos hk53] at h
   refine draw_p E mixed [0, 1, 3, 7, 7, 23, 7, 71, 255, 511, 1023, 2047, 4095, 8191, 16383, 32767, 65535, 131071, 262143, 131071, 655359, 1703935, 3801087, 7995391, 16383999, 33554431, 67108863, 134217727, 268435455, 536870911, 1073741823, 2147483647, 4294967295, 8589934591, 17179869183, 8589934591, 8589934591, 77309411327, 249108103167, 523986010111, 1099511627775, 2199023255551] (by kernel_rfl) rfl M [(5, .int .i64 p1.i), (7, .int .i64 p1.j), (8, .bool r162), (9, .bool false), (10, .bool false), (13, .int .i64 p1.rule), (14, .bool false), (15, .bool false), (18, .int .i64 p1.rule), (23, .slice A45 p11.length c46), (25, .bool true), (26, .bool true)] rfl rfl rfl o49 ⟨fun a w o M G r => qw rfl (wanted_yes rfl rfl (G.t 2 rfl rfl)) rfl rfl M rfl (x_load ld_3 (G.e 4 rfl rfl) ((b51.kn r).cell (n := 2) rfl)),
   fun a w o M G r => qw rfl (wanted_yes rfl rfl (G.t 2 rfl rfl)) rfl rfl M rfl (x_load ld_3 (G.e 6 rfl rfl) ((b51.kn r).cell (n := 3) rfl)),
   ?_,
   ?_,
   fun a w o M G r => qv rfl rfl M rfl (x_pick0 (y := (.const (.bool true))) (G.t 2 rfl rfl) (G.e 9 rfl rfl)),
   fun a w o M G r => qw rfl (wanted_yes rfl rfl (G.t 11 rfl rfl)) rfl rfl M rfl (x_load ld_3 (G.e 12 rfl rfl) ((b51.kn r).cell (n := 0) rfl)),
   ?_,
   fun a w o M G r => qv rfl rfl M rfl (x_pick0 (y := (.const (.bool true))) (G.t 11 rfl rfl) (G.e 14 rfl rfl)),
   fun a w o M G r => qw rfl (wanted_yes rfl rfl (G.t 16 rfl rfl)) rfl rfl M rfl (x_load ld_3 (G.e 17 rfl rfl) ((b51.kn r).cell (n := 0) rfl)),
   fun a w o M G r => qw rfl (wanted_yes rfl rfl (G.t 16 rfl rfl)) rfl rfl M rfl (x_load ld_23 (G.e 22 rfl rfl) (((q16.kn t52).kn r).cell (n := 2) rfl)),
   ?_,
   fun a w o M G r => qv rfl rfl M rfl (x_pick0 (y := (.const (.bool true))) (G.t 16 rfl rfl) (G.e 25 rfl rfl)),
   trivial⟩ ?_
   ·intro a w o M G r
    refine dc rfl (wanted_yes rfl rfl (G.t 2 rfl rfl)) rfl rfl M (x_call cf_85 (m3 (G.e 3 rfl rfl) (G.e 5 rfl rfl) (G.e 7 rfl rfl))) (chart_Chart_in_calls hr163 (lko_own (T := [(0, 0), (1, 1), (2, 2), (3, 3), (4, 4), (5, 5), (6, 6)]) (o := o) rfl) (sL (iN (iN i6 t52) r) rfl) (sL (iN (iN i10 t52) r) rfl) (sL (iN (iN i14 t52) r) rfl) (((q16.kn t52).kn r).l rfl) (((q19.kn t52).kn r).l rfl rfl) (((q22.kn t52).kn r).l rfl rfl) (((q25.kn t52).kn r).l rfl rfl) (((q28.kn t52).kn r).l rfl rfl) (((q32.kn t52).kn r).l rfl)) (fun e54 w164 hp165 => ?_)
    obtain ⟨o166, he167, T168⟩ := hp165
    obtain ⟨o169, ho170⟩ := ex (mrg w o [(0, 0), (1, 1), (2, 2), (3, 3), (4, 4), (5, 5), (6, 6)] o166)
    have t171 := T168.r0 ho170
    refine ⟨_, he167, fun a' p => ?_⟩
    exact ⟨o169, _, _, rfl, p, t171⟩
   ·intro a w o M G r
    refine dw rfl (wanted_yes rfl rfl (G.t 2 rfl rfl)) rfl rfl M (x_not (G.e 8 rfl rfl)) fun a' p => ?_
    exact ⟨o, _, _, rfl, putb p hk47, Tr.refl _ _ _⟩
   ·intro a w o M G r
    refine dw rfl (wanted_yes rfl rfl (G.t 11 rfl rfl)) rfl rfl M (x_lss (G.e 13 rfl rfl) (e_const (v := .int .i64 (0 : Int)))) fun a' p => ?_
    exact ⟨o, _, _, rfl, putb p hk50, Tr.refl _ _ _⟩
   ·intro a w o M G r
    refine dw rfl (wanted_yes rfl rfl (G.t 16 rfl rfl)) rfl rfl M (x_geq (G.e 18 rfl rfl) (G.e 24 rfl rfl)) fun a' p => ?_
    exact ⟨o, _, _, rfl, putb p hk53, Tr.refl _ _ _⟩
   intro a w178 o179 M t180
   obtain rfl := sj h
   have u55 := (T0.kn t52).kn t180
   exact ⟨rfl, ⟨o179, (M.pk [44, 43, 41] rfl), ((q16.kn t52).kn t180), (b51.kn t180), ((q19.kn t52).kn t180), ((q22.kn t52).kn t180), ((q25.kn t52).kn t180), ((q28.kn t52).kn t180), ((q32.kn t52).kn t180), (iN (iN i6 t52) t180), (iN (iN i10 t52) t180), (iN (iN i14 t52) t180), u55⟩⟩
  rw [if_neg hk53] at h
  have hk53 := nott hk53
  by_cases hk56 : (decide (p1.dot < (0 : Int))) = true
  ·rw [if_pos hk56] at h
   refine draw_p E mixed [0, 1, 3, 7, 7, 23, 7, 71, 255, 511, 1023, 2047, 4095, 8191, 16383, 32767, 65535, 131071, 262143, 131071, 655359, 1703935, 3801087, 7995391, 16383999, 33554431, 67108863, 134217727, 268435455, 536870911, 1073741823, 2147483647, 4294967295, 8589934591, 17179869183, 8589934591, 8589934591, 77309411327, 249108103167, 523986010111, 1099511627775, 2199023255551] (by kernel_rfl) rfl M [(5, .int .i64 p1.i), (7, .int .i64 p1.j), (8, .bool r162), (9, .bool false), (10, .bool false), (13, .int .i64 p1.rule), (14, .bool false), (15, .bool false), (18, .int .i64 p1.rule), (23, .slice A45 p11.length c46), (25, .bool false), (26, .bool false), (29, .int .i64 p1.dot), (30, .bool true), (31, .bool true)] rfl rfl rfl o49 ⟨fun a w o M G r => qw rfl (wanted_yes rfl rfl (G.t 2 rfl rfl)) rfl rfl M rfl (x_load ld_3 (G.e 4 rfl rfl) ((b51.kn r).cell (n := 2) rfl)),
   fun a w o M G r => qw rfl (wanted_yes rfl rfl (G.t 2 rfl rfl)) rfl rfl M rfl (x_load ld_3 (G.e 6 rfl rfl) ((b51.kn r).cell (n := 3) rfl)),
   ?_,
   ?_,
   fun a w o M G r => qv rfl rfl M rfl (x_pick0 (y := (.const (.bool true))) (G.t 2 rfl rfl) (G.e 9 rfl rfl)),
   fun a w o M G r => qw rfl (wanted_yes rfl rfl (G.t 11 rfl rfl)) rfl rfl M rfl (x_load ld_3 (G.e 12 rfl rfl) ((b51.kn r).cell (n := 0) rfl)),
   ?_,
   fun a w o M G r => qv rfl rfl M rfl (x_pick0 (y := (.const (.bool true))) (G.t 11 rfl rfl) (G.e 14 rfl rfl)),
   fun a w o M G r => qw rfl (wanted_yes rfl rfl (G.t 16 rfl rfl)) rfl rfl M rfl (x_load ld_3 (G.e 17 rfl rfl) ((b51.kn r).cell (n := 0) rfl)),
   fun a w o M G r => qw rfl (wanted_yes rfl rfl (G.t 16 rfl rfl)) rfl rfl M rfl (x_load ld_23 (G.e 22 rfl rfl) (((q16.kn t52).kn r).cell (n := 2) rfl)),
   ?_,
   fun a w o M G r => qv rfl rfl M rfl (x_pick0 (y := (.const (.bool true))) (G.t 16 rfl rfl) (G.e 25 rfl rfl)),
   fun a w o M G r => qw rfl (wanted_yes rfl rfl (G.t 27 rfl rfl)) rfl rfl M rfl (x_load ld_3 (G.e 28 rfl rfl) ((b51.kn r).cell (n := 1) rfl)),
   ?_,
   fun a w o M G r => qv rfl rfl M rfl (x_pick0 (y := (.const (.bool true))) (G.t 27 rfl rfl) (G.e 30 rfl rfl)),
   trivial⟩ ?_
   ·intro a w o M G r
    refine dc rfl (wanted_yes rfl rfl (G.t 2 rfl rfl)) rfl rfl M (x_call cf_85 (m3 (G.e 3 rfl rfl) (G.e 5 rfl rfl) (G.e 7 rfl rfl))) (chart_Chart_in_calls hr163 (lko_own (T := [(0, 0), (1, 1), (2, 2), (3, 3), (4, 4), (5, 5), (6, 6)]) (o := o) rfl) (sL (iN (iN i6 t52) r) rfl) (sL (iN (iN i10 t52) r) rfl) (sL (iN (iN i14 t52) r) rfl) (((q16.kn t52).kn r).l rfl) (((q19.kn t52).kn r).l rfl rfl) (((q22.kn t52).kn r).l rfl rfl) (((q25.kn t52).kn r).l rfl rfl) (((q28.kn t52).kn r).l rfl rfl) (((q32.kn t52).kn r).l rfl)) (fun e57 w164 hp165 => ?_)
    obtain ⟨o166, he167, T168⟩ := hp165
    obtain ⟨o169, ho170⟩ := ex (mrg w o [(0, 0), (1, 1), (2, 2), (3, 3), (4, 4), (5, 5), (6, 6)] o166)
    have t171 := T168.r0 ho170
    refine ⟨_, he167, fun a' p => ?_⟩
    exact ⟨o169, _, _, rfl, p, t171⟩
   ·intro a w o M G r
    refine dw rfl (wanted_yes rfl rfl (G.t 2 rfl rfl)) rfl rfl M (x_not (G.e 8 rfl rfl)) fun a' p => ?_
    exact ⟨o, _, _, rfl, putb p hk47, Tr.refl _ _ _⟩
   ·intro a w o M G r
    refine dw rfl (wanted_yes rfl rfl (G.t 11 rfl rfl)) rfl rfl M (x_lss (G.e 13 rfl rfl) (e_const (v := .int .i64 (0 : Int)))) fun a' p => ?_
    exact ⟨o, _, _, rfl, putb p hk50, Tr.refl _ _ _⟩
   ·intro a w o M G r
    refine dw rfl (wanted_yes rfl rfl (G.t 16 rfl rfl)) rfl rfl M (x_geq (G.e 18 rfl rfl) (G.e 24 rfl rfl)) fun a' p => ?_
    exact ⟨o, _, _, rfl, putb p hk53, Tr.refl _ _ _⟩
   ·intro a w o M G r
    refine dw rfl (wanted_yes rfl rfl (G.t 27 rfl rfl)) rfl rfl M (x_lss (G.e 29 rfl rfl) (e_const (v := .int .i64 (0 : Int)))) fun a' p => ?_
    exact ⟨o, _, _, rfl, putb p hk56, Tr.refl _ _ _⟩
   intro a w181 o182 M t183
   obtain rfl := sj h
   have u58 := (T0.kn t52).kn t183
   exact ⟨rfl, ⟨o182, (M.pk [44, 43, 41] rfl), ((q16.kn t52).kn t183), (b51.kn t183), ((q19.kn t52).kn t183), ((q22.kn t52).kn t183), ((q25.kn t52).kn t183), ((q28.kn t52).kn t183), ((q32.kn t52).kn t183), (iN (iN i6 t52) t183), (iN (iN i10 t52) t183), (iN (iN i14 t52) t183), u58⟩⟩
  rw [if_neg hk56] at h
  have hk56 := nott hk56
  obtain ⟨r184, hr185, h⟩ := bind_some h
  have u62 := T0.kn t52
  refine draw_m mixed [0, 1, 3, 7, 7, 23, 7, 71, 255, 511, 1023, 2047, 4095, 8191, 16383, 32767, 65535, 131071, 262143, 131071, 655359, 1703935, 3801087, 7995391, 16383999, 33554431, 67108863, 134217727, 268435455, 536870911, 1073741823, 2147483647, 4294967295, 8589934591, 17179869183, 8589934591, 8589934591, 77309411327, 249108103167, 523986010111, 1099511627775, 2199023255551] (by kernel_rfl) rfl M (fun U a w => ∃ (o : Own) (A198 : Option Addr) (c199 : Nat), Tab [(0, 5, .pointer (some ⟨g2, 0, none⟩)), (1, 6, .bool false), (2, 7, .bool false), (3, 8, .pointer (some ⟨g2, 0, none⟩)), (4, 9, .pointer (some ⟨g47, 2, none⟩)), (5, 10, .int .i64 p1.i), (6, 11, .pointer (some ⟨g47, 3, none⟩)), (7, 12, .int .i64 p1.j), (8, 13, .bool r162), (9, 14, .bool (!r162)), (10, 15, .bool (!r162)), (11, 16, .bool (!r162)), (12, 17, .pointer (some ⟨g47, 0, none⟩)), (13, 18, .int .i64 p1.rule), (14, 19, .bool (decide (p1.rule < (0 : Int)))), (15, 20, .bool (decide (p1.rule < (0 : Int)))), (16, 21, .bool (decide (p1.rule < (0 : Int)))), (17, 22, .pointer (some ⟨g47, 0, none⟩)), (18, 23, .int .i64 p1.rule), (19, 24, .pointer (some ⟨g2, 0, none⟩)), (20, 25, .pointer (some ⟨g2, 0, none⟩)), (21, 26, .pointer (some ⟨g2, 0, none⟩)), (22, 27, .pointer (some ⟨g2, 2, none⟩)), (23, 28, .slice A45 p11.length c46), (24, 29, .int .i64 (p11.length : Int)), (25, 30, .bool (decide ((p11.length : Int) ≤ p1.rule))), (26, 31, .bool (decide ((p11.length : Int) ≤ p1.rule))), (27, 32, .bool (decide ((p11.length : Int) ≤ p1.rule))), (28, 33, .pointer (some ⟨g47, 1, none⟩)), (29, 34, .int .i64 p1.dot), (30, 35, .bool (decide (p1.dot < (0 : Int)))), (31, 36, .bool (decide (p1.dot < (0 : Int)))), (32, 37, .bool (decide (p1.dot < (0 : Int)))), (33, 38, .pointer (some ⟨g47, 1, none⟩)), (34, 39, .int .i64 p1.dot), (35, 40, .pointer (some ⟨g2, 0, none⟩)), (36, 41, .pointer (some ⟨g47, 0, none⟩)), (37, 42, .int .i64 p1.rule), (39, 44, .int .i64 (r184.length : Int)), (40, 45, .bool (decide ((r184.length : Int) < p1.dot))), (41, 46, .bool (decide ((r184.length : Int) < p1.dot)))] U a ∧ Tab [(38, 43, .slice A198 r184.length c199)] U a ∧ Tr (FL [] o49 U) w48 o49 w o ∧ (U 38 = true → (tSlice 3 (tInt .i64) (by decide)).im w (L o 0) r184 [.slice A198 r184.length c199])) ?_ ⟨?_, ?_, ?_, ?_, ?_, ?_, ?_, ?_, ?_, ?_, ?_, ?_, ?_, ?_, ?_, ?_, ?_, ?_, ?_, ?_, ?_, ?_, ?_, ?_, ?_, ?_, ?_, ?_, ?_, ?_, ?_, ?_, ?_, ?_, ?_, ?_, ?_, ?_, ?_, ?_, ?_, ?_, trivial⟩ ?_
  ·exact ⟨o49, none, 0, Tab.start, Tab.start, FL.start (tr_drew _ _), fun h => Bool.noConfusion h⟩
  ·intro U a w M hL hA hD hI
   obtain ⟨o, A198, c199, TG0, TG1, tr, FE0⟩ := hI
   refine dv rfl rfl M (x_move (M.e 2 rfl)) fun a' p => ?_
   exact ⟨M.st p rfl, o, A198, c199, (TG0.step p 0 rfl rfl), (TG1.other p rfl), (FL.idle tr), FE0⟩
  ·intro U a w M hL hA hD hI
   obtain ⟨o, A198, c199, TG0, TG1, tr, FE0⟩ := hI
   refine dv rfl rfl M (x_eqlpn Try.underlying34 (e_tmp (TG0.get 0 rfl (hA 0 rfl)))) fun a' p => ?_
   exact ⟨M.st p rfl, o, A198, c199, (TG0.step p 1 rfl rfl), (TG1.other p rfl), (FL.idle tr), FE0⟩
  ·intro U a w M hL hA hD hI
   obtain ⟨o, A198, c199, TG0, TG1, tr, FE0⟩ := hI
   refine dv rfl rfl M (x_move (e_tmp (TG0.get 1 rfl (hA 1 rfl)))) fun a' p => ?_
   exact ⟨M.st p rfl, o, A198, c199, (TG0.step p 2 rfl rfl), (TG1.other p rfl), (FL.idle tr), FE0⟩
  ·intro U a w M hL hA hD hI
   obtain ⟨o, A198, c199, TG0, TG1, tr, FE0⟩ := hI
   refine dw rfl (wanted_yes rfl rfl (TG0.get 2 rfl (hA 2 rfl))) rfl rfl M (x_move (M.e 2 rfl)) fun a' p => ?_
   exact ⟨M.st p rfl, o, A198, c199, (TG0.step p 3 rfl rfl), (TG1.other p rfl), (FL.idle tr), FE0⟩
  ·intro U a w M hL hA hD hI
   obtain ⟨o, A198, c199, TG0, TG1, tr, FE0⟩ := hI
   refine dw rfl (wanted_yes rfl rfl (TG0.get 2 rfl (hA 2 rfl))) rfl rfl M (x_fieldAddr fa_46_2 (M.e 1 rfl) rfl) fun a' p => ?_
   exact ⟨M.st p rfl, o, A198, c199, (TG0.step p 4 rfl rfl), (TG1.other p rfl), (FL.idle tr), FE0⟩
  ·intro U a w M hL hA hD hI
   obtain ⟨o, A198, c199, TG0, TG1, tr, FE0⟩ := hI
   refine dw rfl (wanted_yes rfl rfl (TG0.get 2 rfl (hA 2 rfl))) rfl rfl M (x_load ld_3 (e_tmp (TG0.get 4 rfl (hA 4 rfl))) ((b51.keep_ (FL.same tr trivial)).cell (n := 2) rfl)) fun a' p => ?_
   exact ⟨M.st p rfl, o, A198, c199, (TG0.step p 5 rfl rfl), (TG1.other p rfl), (FL.idle tr), FE0⟩
  ·intro U a w M hL hA hD hI
   obtain ⟨o, A198, c199, TG0, TG1, tr, FE0⟩ := hI
   refine dw rfl (wanted_yes rfl rfl (TG0.get 2 rfl (hA 2 rfl))) rfl rfl M (x_fieldAddr fa_46_3 (M.e 1 rfl) rfl) fun a' p => ?_
   exact ⟨M.st p rfl, o, A198, c199, (TG0.step p 6 rfl rfl), (TG1.other p rfl), (FL.idle tr), FE0⟩
  ·intro U a w M hL hA hD hI
   obtain ⟨o, A198, c199, TG0, TG1, tr, FE0⟩ := hI
   refine dw rfl (wanted_yes rfl rfl (TG0.get 2 rfl (hA 2 rfl))) rfl rfl M (x_load ld_3 (e_tmp (TG0.get 6 rfl (hA 6 rfl))) ((b51.keep_ (FL.same tr trivial)).cell (n := 3) rfl)) fun a' p => ?_
   exact ⟨M.st p rfl, o, A198, c199, (TG0.step p 7 rfl rfl), (TG1.other p rfl), (FL.idle tr), FE0⟩
  ·intro U a w M hL hA hD hI
   obtain ⟨o, A198, c199, TG0, TG1, tr, FE0⟩ := hI
   refine dc rfl (wanted_yes rfl rfl (TG0.get 2 rfl (hA 2 rfl))) rfl rfl M (x_call cf_85 (m3 (e_tmp (TG0.get 3 rfl (hA 3 rfl))) (e_tmp (TG0.get 5 rfl (hA 5 rfl))) (e_tmp (TG0.get 7 rfl (hA 7 rfl))))) (chart_Chart_in_calls hr163 (lko_own (T := [(0, 0), (1, 1), (2, 2), (3, 3), (4, 4), (5, 5), (6, 6)]) (o := o) rfl) (sL (Ty.loc _ (FL.same tr trivial) (iN i6 t52)) rfl) (sL (Ty.loc _ (FL.same tr trivial) (iN i10 t52)) rfl) (sL (Ty.loc _ (FL.same tr trivial) (iN i14 t52)) rfl) (((q16.kn t52).keep_ (FL.same tr trivial)).l rfl) (((q19.kn t52).keep_ (FL.same tr trivial) (FL.same tr trivial)).l rfl rfl) (((q22.kn t52).keep_ (FL.same tr trivial) (FL.same tr trivial)).l rfl rfl) (((q25.kn t52).keep_ (FL.same tr trivial) (FL.same tr trivial)).l rfl rfl) (((q28.kn t52).keep_ (FL.same tr trivial) (FL.same tr trivial)).l rfl rfl) (((q32.kn t52).keep_ (FL.same tr trivial)).l rfl)) (fun e60 w164 hp165 => ?_)
   obtain ⟨o166, he167, T168⟩ := hp165
   obtain ⟨o169, ho170⟩ := ex (mrg w o [(0, 0), (1, 1), (2, 2), (3, 3), (4, 4), (5, 5), (6, 6)] o166)
   have t171 := T168.r0 ho170
   refine ⟨_, he167, fun a' p => ?_⟩
   exact ⟨M.st p rfl, o169, A198, c199, (TG0.step p 8 rfl rfl), (TG1.other p rfl), (FL.stepNo tr t171), (fun h => ab (hD 38 rfl) rfl h)⟩
  ·intro U a w M hL hA hD hI
   obtain ⟨o, A198, c199, TG0, TG1, tr, FE0⟩ := hI
   refine dw rfl (wanted_yes rfl rfl (TG0.get 2 rfl (hA 2 rfl))) rfl rfl M (x_not (e_tmp (TG0.get 8 rfl (hA 8 rfl)))) fun a' p => ?_
   exact ⟨M.st p rfl, o, A198, c199, (TG0.step p 9 rfl rfl), (TG1.other p rfl), (FL.idle tr), FE0⟩
  ·intro U a w M hL hA hD hI
   obtain ⟨o, A198, c199, TG0, TG1, tr, FE0⟩ := hI
   refine dv rfl rfl M (x_pick0 (y := (.const (.bool true))) (TG0.get 2 rfl (hA 2 rfl)) (e_tmp (TG0.get 9 rfl (hA 9 rfl)))) fun a' p => ?_
   exact ⟨M.st p rfl, o, A198, c199, (TG0.step p 10 rfl rfl), (TG1.other p rfl), (FL.idle tr), FE0⟩
  ·intro U a w M hL hA hD hI
   obtain ⟨o, A198, c199, TG0, TG1, tr, FE0⟩ := hI
   refine dv rfl rfl M (x_move (e_tmp (TG0.get 10 rfl (hA 10 rfl)))) fun a' p => ?_
   exact ⟨M.st p rfl, o, A198, c199, (TG0.step p 11 rfl rfl), (TG1.other p rfl), (FL.idle tr), FE0⟩
  ·intro U a w M hL hA hD hI
   obtain ⟨o, A198, c199, TG0, TG1, tr, FE0⟩ := hI
   refine dw rfl (wanted_yes rfl rfl (bt (TG0.get 11 rfl (hA 11 rfl)) hk47)) rfl rfl M (x_fieldAddr fa_46_0 (M.e 1 rfl) rfl) fun a' p => ?_
   exact ⟨M.st p rfl, o, A198, c199, (TG0.step p 12 rfl rfl), (TG1.other p rfl), (FL.idle tr), FE0⟩
  ·intro U a w M hL hA hD hI
   obtain ⟨o, A198, c199, TG0, TG1, tr, FE0⟩ := hI
   refine dw rfl (wanted_yes rfl rfl (bt (TG0.get 11 rfl (hA 11 rfl)) hk47)) rfl rfl M (x_load ld_3 (e_tmp (TG0.get 12 rfl (hA 12 rfl))) ((b51.keep_ (FL.same tr trivial)).cell (n := 0) rfl)) fun a' p => ?_
   exact ⟨M.st p rfl, o, A198, c199, (TG0.step p 13 rfl rfl), (TG1.other p rfl), (FL.idle tr), FE0⟩
  ·intro U a w M hL hA hD hI
   obtain ⟨o, A198, c199, TG0, TG1, tr, FE0⟩ := hI
   refine dw rfl (wanted_yes rfl rfl (bt (TG0.get 11 rfl (hA 11 rfl)) hk47)) rfl rfl M (x_lss (e_tmp (TG0.get 13 rfl (hA 13 rfl))) (e_const (v := .int .i64 (0 : Int)))) fun a' p => ?_
   exact ⟨M.st p rfl, o, A198, c199, (TG0.step p 14 rfl rfl), (TG1.other p rfl), (FL.idle tr), FE0⟩
  ·intro U a w M hL hA hD hI
   obtain ⟨o, A198, c199, TG0, TG1, tr, FE0⟩ := hI
   refine dv rfl rfl M (x_pick0 (y := (.const (.bool true))) (bt (TG0.get 11 rfl (hA 11 rfl)) hk47) (e_tmp (TG0.get 14 rfl (hA 14 rfl)))) fun a' p => ?_
   exact ⟨M.st p rfl, o, A198, c199, (TG0.step p 15 rfl rfl), (TG1.other p rfl), (FL.idle tr), FE0⟩
  ·intro U a w M hL hA hD hI
   obtain ⟨o, A198, c199, TG0, TG1, tr, FE0⟩ := hI
   refine dv rfl rfl M (x_move (e_tmp (TG0.get 15 rfl (hA 15 rfl)))) fun a' p => ?_
   exact ⟨M.st p rfl, o, A198, c199, (TG0.step p 16 rfl rfl), (TG1.other p rfl), (FL.idle tr), FE0⟩
  ·intro U a w M hL hA hD hI
   obtain ⟨o, A198, c199, TG0, TG1, tr, FE0⟩ := hI
   refine dw rfl (wanted_yes rfl rfl (bt (TG0.get 16 rfl (hA 16 rfl)) hk50)) rfl rfl M (x_fieldAddr fa_46_0 (M.e 1 rfl) rfl) fun a' p => ?_
   exact ⟨M.st p rfl, o, A198, c199, (TG0.step p 17 rfl rfl), (TG1.other p rfl), (FL.idle tr), FE0⟩
  ·intro U a w M hL hA hD hI
   obtain ⟨o, A198, c199, TG0, TG1, tr, FE0⟩ := hI
   refine dw rfl (wanted_yes rfl rfl (bt (TG0.get 16 rfl (hA 16 rfl)) hk50)) rfl rfl M (x_load ld_3 (e_tmp (TG0.get 17 rfl (hA 17 rfl))) ((b51.keep_ (FL.same tr trivial)).cell (n := 0) rfl)) fun a' p => ?_
   exact ⟨M.st p rfl, o, A198, c199, (TG0.step p 18 rfl rfl), (TG1.other p rfl), (FL.idle tr), FE0⟩
  ·intro U a w M hL hA hD hI
   obtain ⟨o, A198, c199, TG0, TG1, tr, FE0⟩ := hI
   refine dw rfl (wanted_yes rfl rfl (bt (TG0.get 16 rfl (hA 16 rfl)) hk50)) rfl rfl M (x_move (M.e 2 rfl)) fun a' p => ?_
   exact ⟨M.st p rfl, o, A198, c199, (TG0.step p 19 rfl rfl), (TG1.other p rfl), (FL.idle tr), FE0⟩
  ·intro U a w M hL hA hD hI
   obtain ⟨o, A198, c199, TG0, TG1, tr, FE0⟩ := hI
   refine dw rfl (wanted_yes rfl rfl (bt (TG0.get 16 rfl (hA 16 rfl)) hk50)) rfl rfl M (x_nilCheck (e_tmp (TG0.get 19 rfl (hA 19 rfl)))) fun a' p => ?_
   exact ⟨M.st p rfl, o, A198, c199, (TG0.step p 20 rfl rfl), (TG1.other p rfl), (FL.idle tr), FE0⟩
  ·intro U a w M hL hA hD hI
   obtain ⟨o, A198, c199, TG0, TG1, tr, FE0⟩ := hI
   refine dw rfl (wanted_yes rfl rfl (bt (TG0.get 16 rfl (hA 16 rfl)) hk50)) rfl rfl M (x_fieldAddr fa_116_0 (e_tmp (TG0.get 20 rfl (hA 20 rfl))) rfl) fun a' p => ?_
   exact ⟨M.st p rfl, o, A198, c199, (TG0.step p 21 rfl rfl), (TG1.other p rfl), (FL.idle tr), FE0⟩
  ·intro U a w M hL hA hD hI
   obtain ⟨o, A198, c199, TG0, TG1, tr, FE0⟩ := hI
   refine dw rfl (wanted_yes rfl rfl (bt (TG0.get 16 rfl (hA 16 rfl)) hk50)) rfl rfl M (x_fieldAddr fa_25_2 (e_tmp (TG0.get 21 rfl (hA 21 rfl))) rfl) fun a' p => ?_
   exact ⟨M.st p rfl, o, A198, c199, (TG0.step p 22 rfl rfl), (TG1.other p rfl), (FL.idle tr), FE0⟩
  ·intro U a w M hL hA hD hI
   obtain ⟨o, A198, c199, TG0, TG1, tr, FE0⟩ := hI
   refine dw rfl (wanted_yes rfl rfl (bt (TG0.get 16 rfl (hA 16 rfl)) hk50)) rfl rfl M (x_load ld_23 (e_tmp (TG0.get 22 rfl (hA 22 rfl))) (((q16.kn t52).keep_ (FL.same tr trivial)).cell (n := 2) rfl)) fun a' p => ?_
   exact ⟨M.st p rfl, o, A198, c199, (TG0.step p 23 rfl rfl), (TG1.other p rfl), (FL.idle tr), FE0⟩
  ·intro U a w M hL hA hD hI
   obtain ⟨o, A198, c199, TG0, TG1, tr, FE0⟩ := hI
   refine dw rfl (wanted_yes rfl rfl (bt (TG0.get 16 rfl (hA 16 rfl)) hk50)) rfl rfl M (x_lenSlice Try.underlying23 (e_tmp (TG0.get 23 rfl (hA 23 rfl)))) fun a' p => ?_
   exact ⟨M.st p rfl, o, A198, c199, (TG0.step p 24 rfl rfl), (TG1.other p rfl), (FL.idle tr), FE0⟩
  ·intro U a w M hL hA hD hI
   obtain ⟨o, A198, c199, TG0, TG1, tr, FE0⟩ := hI
   refine dw rfl (wanted_yes rfl rfl (bt (TG0.get 16 rfl (hA 16 rfl)) hk50)) rfl rfl M (x_geq (e_tmp (TG0.get 18 rfl (hA 18 rfl))) (e_tmp (TG0.get 24 rfl (hA 24 rfl)))) fun a' p => ?_
   exact ⟨M.st p rfl, o, A198, c199, (TG0.step p 25 rfl rfl), (TG1.other p rfl), (FL.idle tr), FE0⟩
  ·intro U a w M hL hA hD hI
   obtain ⟨o, A198, c199, TG0, TG1, tr, FE0⟩ := hI
   refine dv rfl rfl M (x_pick0 (y := (.const (.bool true))) (bt (TG0.get 16 rfl (hA 16 rfl)) hk50) (e_tmp (TG0.get 25 rfl (hA 25 rfl)))) fun a' p => ?_
   exact ⟨M.st p rfl, o, A198, c199, (TG0.step p 26 rfl rfl), (TG1.other p rfl), (FL.idle tr), FE0⟩
  ·intro U a w M hL hA hD hI
   obtain ⟨o, A198, c199, TG0, TG1, tr, FE0⟩ := hI
   refine dv rfl rfl M (x_move (e_tmp (TG0.get 26 rfl (hA 26 rfl)))) fun a' p => ?_
   exact ⟨M.st p rfl, o, A198, c199, (TG0.step p 27 rfl rfl), (TG1.other p rfl), (FL.idle tr), FE0⟩
  ·intro U a w M hL hA hD hI
   obtain ⟨o, A198, c199, TG0, TG1, tr, FE0⟩ := hI
   refine dw rfl (wanted_yes rfl rfl (bt (TG0.get 27 rfl (hA 27 rfl)) hk53)) rfl rfl M (x_fieldAddr fa_46_1 (M.e 1 rfl) rfl) fun a' p => ?_
   exact ⟨M.st p rfl, o, A198, c199, (TG0.step p 28 rfl rfl), (TG1.other p rfl), (FL.idle tr), FE0⟩
  ·intro U a w M hL hA hD hI
   obtain ⟨o, A198, c199, TG0, TG1, tr, FE0⟩ := hI
   refine dw rfl (wanted_yes rfl rfl (bt (TG0.get 27 rfl (hA 27 rfl)) hk53)) rfl rfl M (x_load ld_3 (e_tmp (TG0.get 28 rfl (hA 28 rfl))) ((b51.keep_ (FL.same tr trivial)).cell (n := 1) rfl)) fun a' p => ?_
   exact ⟨M.st p rfl, o, A198, c199, (TG0.step p 29 rfl rfl), (TG1.other p rfl), (FL.idle tr), FE0⟩
  ·intro U a w M hL hA hD hI
   obtain ⟨o, A198, c199, TG0, TG1, tr, FE0⟩ := hI
   refine dw rfl (wanted_yes rfl rfl (bt (TG0.get 27 rfl (hA 27 rfl)) hk53)) rfl rfl M (x_lss (e_tmp (TG0.get 29 rfl (hA 29 rfl))) (e_const (v := .int .i64 (0 : Int)))) fun a' p => ?_
   exact ⟨M.st p rfl, o, A198, c199, (TG0.step p 30 rfl rfl), (TG1.other p rfl), (FL.idle tr), FE0⟩
  ·intro U a w M hL hA hD hI
   obtain ⟨o, A198, c199, TG0, TG1, tr, FE0⟩ := hI
   refine dv rfl rfl M (x_pick0 (y := (.const (.bool true))) (bt (TG0.get 27 rfl (hA 27 rfl)) hk53) (e_tmp (TG0.get 30 rfl (hA 30 rfl)))) fun a' p => ?_
   exact ⟨M.st p rfl, o, A198, c199, (TG0.step p 31 rfl rfl), (TG1.other p rfl), (FL.idle tr), FE0⟩
  ·intro U a w M hL hA hD hI
   obtain ⟨o, A198, c199, TG0, TG1, tr, FE0⟩ := hI
   refine dv rfl rfl M (x_move (e_tmp (TG0.get 31 rfl (hA 31 rfl)))) fun a' p => ?_
   exact ⟨M.st p rfl, o, A198, c199, (TG0.step p 32 rfl rfl), (TG1.other p rfl), (FL.idle tr), FE0⟩
  ·intro U a w M hL hA hD hI
   obtain ⟨o, A198, c199, TG0, TG1, tr, FE0⟩ := hI
   refine dw rfl (wanted_yes rfl rfl (bt (TG0.get 32 rfl (hA 32 rfl)) hk56)) rfl rfl M (x_fieldAddr fa_46_1 (M.e 1 rfl) rfl) fun a' p => ?_
   exact ⟨M.st p rfl, o, A198, c199, (TG0.step p 33 rfl rfl), (TG1.other p rfl), (FL.idle tr), FE0⟩
  ·intro U a w M hL hA hD hI
   obtain ⟨o, A198, c199, TG0, TG1, tr, FE0⟩ := hI
   refine dw rfl (wanted_yes rfl rfl (bt (TG0.get 32 rfl (hA 32 rfl)) hk56)) rfl rfl M (x_load ld_3 (e_tmp (TG0.get 33 rfl (hA 33 rfl))) ((b51.keep_ (FL.same tr trivial)).cell (n := 1) rfl)) fun a' p => ?_
   exact ⟨M.st p rfl, o, A198, c199, (TG0.step p 34 rfl rfl), (TG1.other p rfl), (FL.idle tr), FE0⟩
  ·intro U a w M hL hA hD hI
   obtain ⟨o, A198, c199, TG0, TG1, tr, FE0⟩ := hI
   refine dw rfl (wanted_yes rfl rfl (bt (TG0.get 32 rfl (hA 32 rfl)) hk56)) rfl rfl M (x_move (M.e 2 rfl)) fun a' p => ?_
   exact ⟨M.st p rfl, o, A198, c199, (TG0.step p 35 rfl rfl), (TG1.other p rfl), (FL.idle tr), FE0⟩
  ·intro U a w M hL hA hD hI
   obtain ⟨o, A198, c199, TG0, TG1, tr, FE0⟩ := hI
   refine dw rfl (wanted_yes rfl rfl (bt (TG0.get 32 rfl (hA 32 rfl)) hk56)) rfl rfl M (x_fieldAddr fa_46_0 (M.e 1 rfl) rfl) fun a' p => ?_
   exact ⟨M.st p rfl, o, A198, c199, (TG0.step p 36 rfl rfl), (TG1.other p rfl), (FL.idle tr), FE0⟩
  ·intro U a w M hL hA hD hI
   obtain ⟨o, A198, c199, TG0, TG1, tr, FE0⟩ := hI
   refine dw rfl (wanted_yes rfl rfl (bt (TG0.get 32 rfl (hA 32 rfl)) hk56)) rfl rfl M (x_load ld_3 (e_tmp (TG0.get 36 rfl (hA 36 rfl))) ((b51.keep_ (FL.same tr trivial)).cell (n := 0) rfl)) fun a' p => ?_
   exact ⟨M.st p rfl, o, A198, c199, (TG0.step p 37 rfl rfl), (TG1.other p rfl), (FL.idle tr), FE0⟩
  ·intro U a w M hL hA hD hI
   obtain ⟨o, A198, c199, TG0, TG1, tr, FE0⟩ := hI
   refine dc rfl (wanted_yes rfl rfl (bt (TG0.get 32 rfl (hA 32 rfl)) hk56)) rfl rfl M (x_call cf_87 (m2 (e_tmp (TG0.get 35 rfl (hA 35 rfl))) (e_tmp (TG0.get 37 rfl (hA 37 rfl))))) (chart_Chart_right_calls hr185 (lko_own (T := [(0, 0), (1, 1), (2, 2), (3, 3), (4, 4), (5, 5), (6, 6)]) (o := o) rfl) (sL (Ty.loc _ (FL.same tr trivial) (iN i6 t52)) rfl) (sL (Ty.loc _ (FL.same tr trivial) (iN i10 t52)) rfl) (sL (Ty.loc _ (FL.same tr trivial) (iN i14 t52)) rfl) (((q16.kn t52).keep_ (FL.same tr trivial)).l rfl) (((q19.kn t52).keep_ (FL.same tr trivial) (FL.same tr trivial)).l rfl rfl) (((q22.kn t52).keep_ (FL.same tr trivial) (FL.same tr trivial)).l rfl rfl) (((q25.kn t52).keep_ (FL.same tr trivial) (FL.same tr trivial)).l rfl rfl) (((q28.kn t52).keep_ (FL.same tr trivial) (FL.same tr trivial)).l rfl rfl) (((q32.kn t52).keep_ (FL.same tr trivial)).l rfl)) (fun e61 w186 hp187 => ?_)
   obtain ⟨o189, z188, he190, i191, T192⟩ := hp187
   obtain ⟨o193, ho194⟩ := ex (mrg w o [(0, 0), (1, 1), (2, 2), (3, 3), (4, 4), (5, 5), (6, 6)] o189)
   have t195 := T192.r0 ho194
   have i196 := iR i191 T192 ho194 rfl rfl
   refine ⟨_, he190, fun a' p => ?_⟩
   obtain ⟨A198, c199, hzc199, -⟩ := im_form i196
   subst hzc199
   exact ⟨M.st p rfl, o193, A198, c199, (TG0.other p rfl), (Tab.mk hD p 0 rfl rfl), (FL.stepNo tr t195), (fun _ => i196)⟩
  ·intro U a w M hL hA hD hI
   obtain ⟨o, A198, c199, TG0, TG1, tr, FE0⟩ := hI
   refine dw rfl (wanted_yes rfl rfl (bt (TG0.get 32 rfl (hA 32 rfl)) hk56)) rfl rfl M (x_lenSlice Try.underlying26 (e_tmp (TG1.get 0 rfl (hA 38 rfl)))) fun a' p => ?_
   exact ⟨M.st p rfl, o, A198, c199, (TG0.step p 38 rfl rfl), (TG1.other p rfl), (FL.idle tr), FE0⟩
  ·intro U a w M hL hA hD hI
   obtain ⟨o, A198, c199, TG0, TG1, tr, FE0⟩ := hI
   refine dw rfl (wanted_yes rfl rfl (bt (TG0.get 32 rfl (hA 32 rfl)) hk56)) rfl rfl M (x_gtr (e_tmp (TG0.get 34 rfl (hA 34 rfl))) (e_tmp (TG0.get 38 rfl (hA 39 rfl)))) fun a' p => ?_
   exact ⟨M.st p rfl, o, A198, c199, (TG0.step p 39 rfl rfl), (TG1.other p rfl), (FL.idle tr), FE0⟩
  ·intro U a w M hL hA hD hI
   obtain ⟨o, A198, c199, TG0, TG1, tr, FE0⟩ := hI
   refine dv rfl rfl M (x_pick0 (y := (.const (.bool true))) (bt (TG0.get 32 rfl (hA 32 rfl)) hk56) (e_tmp (TG0.get 39 rfl (hA 40 rfl)))) fun a' p => ?_
   exact ⟨M.st p rfl, o, A198, c199, (TG0.step p 40 rfl rfl), (TG1.other p rfl), (FL.idle tr), FE0⟩
  intro U a w200 M hA hI
  obtain ⟨o201, A198, c199, TG0, TG1, tr, FE0⟩ := hI
  have M := M.ad (TG0.get 40 rfl (hA 41 rfl))
  have q202 := ((q16.kn t52).keep_ (FL.same tr trivial))
  have q203 := ((q19.kn t52).keep_ (FL.same tr trivial) (FL.same tr trivial))
  have q204 := ((q22.kn t52).keep_ (FL.same tr trivial) (FL.same tr trivial))
  have q205 := ((q25.kn t52).keep_ (FL.same tr trivial) (FL.same tr trivial))
  have q206 := ((q28.kn t52).keep_ (FL.same tr trivial) (FL.same tr trivial))
  have q207 := ((q32.kn t52).keep_ (FL.same tr trivial))
  have q208 := (b51.keep_ (FL.same tr trivial))
  have i209 := (Ty.loc _ (FL.same tr trivial) (iN i6 t52))
  have i210 := (Ty.loc _ (FL.same tr trivial) (iN i10 t52))
  have i211 := (Ty.loc _ (FL.same tr trivial) (iN i14 t52))
  have T212 := Tr.kf u62 tr hown rfl
  clear hA TG0 TG1 tr FE0
  obtain rfl := sj h
  exact ⟨rfl, ⟨o201, (M.pk [3, 2, 0] rfl), q202, q208, q203, q204, q205, q206, q207, i209, i210, i211, T212⟩⟩
 intro e63 a w213 hO214
 obtain ⟨he215, hO214⟩ := hO214
 subst he215
 obtain ⟨o216, M, q217, q218, q219, q220, q221, q222, q223, i224, i225, i226, T227⟩ := hO214
 refine q_then ?_
 by_cases hk64 : x159 = true
 ·rw [if_pos hk64] at h
  have M := M.k 46 rfl hk64
  refine c_true (M.e 2 rfl) <| c_seq <| c_reg <| pn (j := 1) E 1 M rfl rfl fun a M => x_end rfl <| q_then <| wp_ret <| q_then_ret ?_
  obtain rfl := sj h
  exact ⟨M.f.defers, _, (res1 Try.results32 (rv_tmp (M.t 0 rfl))), ⟨o216, rfl, T227⟩⟩
 rw [if_neg hk64] at h
 have hk64 := nott hk64
 have M := M.k 46 rfl hk64
 refine c_false (M.e 2 rfl) <| wp_skip <| q_then <| c_seq ?_
 obtain ⟨x229, hx230, h⟩ := bind_some h
 obtain ⟨hx2300, hx2301, hx2302⟩ := at_some hx230
 obtain ⟨g231, f232, c233, ds234, hv235, hd236, he237⟩ := Row.elem q221 hx2301
 have hsds234 : ds234 = [.int .i64 x229] := hd236
 subst hsds234
 have he237 : ElemAt w213 o216 4 g231 f232 (p1.rule).toNat 1 [.int .i64 x229] := he237
 obtain ⟨r239, hr240, h⟩ := bind_some h
 obtain ⟨x249, hx250, h⟩ := bind_some h
 obtain ⟨hx2500, hx2501, hx2502⟩ := at_some hx250
 obtain ⟨g251, f252, c253, ds254, hv255, hd256, he257⟩ := Row.elem q220 hx2501
 have hsds254 : ds254 = [.bool x249] := hd256
 subst hsds254
 have he257 : ElemAt w213 o216 3 g251 f252 (IntKind.wrap .i64 ((IntKind.wrap .i64 ((IntKind.wrap .i64 ((IntKind.wrap .i64 ((IntKind.wrap .i64 (x229 + p1.dot)) * (IntKind.wrap .i64 (p15 + (1 : Int))))) + p1.i)) * (IntKind.wrap .i64 (p15 + (1 : Int))))) + p1.j)).toNat 1 [.bool x249] := he257
 refine draw_p E mixed [0, 1, 3, 7, 0, 0, 32, 96, 224, 0, 512, 2016, 4064, 0, 8192, 32736, 0, 65536, 0, 262144, 1048560, 2097151, 4194303, 8388607] (by kernel_rfl) rfl M [(3, .slice A35 p21.length c36), (8, .slice A37 p24.length c38), (10, .int .i64 p1.rule), (11, .pointer (some ⟨g231, f232 + (p1.rule).toNat * 1, none⟩)), (12, .int .i64 x229), (14, .int .i64 p1.dot), (17, .int .i64 p1.i), (19, .int .i64 p1.j), (20, .int .i64 (IntKind.wrap .i64 ((IntKind.wrap .i64 ((IntKind.wrap .i64 ((IntKind.wrap .i64 ((IntKind.wrap .i64 (x229 + p1.dot)) * (IntKind.wrap .i64 (p15 + (1 : Int))))) + p1.i)) * (IntKind.wrap .i64 (p15 + (1 : Int))))) + p1.j))), (21, .pointer (some ⟨g251, f252 + (IntKind.wrap .i64 ((IntKind.wrap .i64 ((IntKind.wrap .i64 ((IntKind.wrap .i64 ((IntKind.wrap .i64 (x229 + p1.dot)) * (IntKind.wrap .i64 (p15 + (1 : Int))))) + p1.i)) * (IntKind.wrap .i64 (p15 + (1 : Int))))) + p1.j)).toNat * 1, none⟩)), (22, .bool x249)] rfl rfl rfl o216 ⟨fun a w o M G r => qv rfl rfl M rfl (x_load ld_48 (G.e 2 rfl rfl) ((q217.kn r).cell (n := 5) rfl)),
   fun a w o M G r => qv rfl rfl M rfl (x_load ld_26 (G.e 7 rfl rfl) ((q217.kn r).cell (n := 6) rfl)),
   fun a w o M G r => qv rfl rfl M rfl (x_load ld_3 (G.e 9 rfl rfl) ((q218.kn r).cell (n := 0) rfl)),
   fun a w o M G r => qv rfl rfl M rfl (x_indexAddr Try.underlying26 sz_3 ((G.e 8 rfl rfl).trans hv235) (G.e 10 rfl rfl) hx2300 hx2302),
   fun a w o M G r => qv rfl rfl M rfl (x_load ld_3 (G.e 11 rfl rfl) ((he237.kn r).2 0 _ rfl)),
   fun a w o M G r => qv rfl rfl M rfl (x_load ld_3 (G.e 13 rfl rfl) ((q218.kn r).cell (n := 1) rfl)),
   fun a w o M G r => qv rfl rfl M rfl (x_load ld_3 (G.e 16 rfl rfl) ((q218.kn r).cell (n := 2) rfl)),
   fun a w o M G r => qv rfl rfl M rfl (x_load ld_3 (G.e 18 rfl rfl) ((q218.kn r).cell (n := 3) rfl)),
   ?_,
   fun a w o M G r => qv rfl rfl M rfl (x_indexAddr Try.underlying48 sz_4 ((G.e 3 rfl rfl).trans hv255) (G.e 20 rfl rfl) hx2500 hx2502),
   fun a w o M G r => qv rfl rfl M rfl (x_load ld_4 (G.e 21 rfl rfl) ((he257.kn r).2 0 _ rfl)),
   trivial⟩ ?_
 ·intro a w o M G r
  refine dc rfl (wp0 rfl) rfl rfl M (x_call cf_81 (m4 (G.e 4 rfl rfl) (G.e 15 rfl rfl) (G.e 17 rfl rfl) (G.e 19 rfl rfl))) (chart_Chart_at_calls hr240 (lko_own (T := [(0, 0), (1, 1), (2, 2), (3, 3), (4, 4), (5, 5), (6, 6)]) (o := o) rfl) (sL (iN i224 r) rfl) (sL (iN i225 r) rfl) (sL (iN i226 r) rfl) ((q217.kn r).l rfl) ((q219.kn r).l rfl rfl) ((q220.kn r).l rfl rfl) ((q221.kn r).l rfl rfl) ((q222.kn r).l rfl rfl) ((q223.kn r).l rfl)) (fun e67 w241 hp242 => ?_)
  obtain ⟨o243, he244, T245⟩ := hp242
  obtain ⟨o246, ho247⟩ := ex (mrg w o [(0, 0), (1, 1), (2, 2), (3, 3), (4, 4), (5, 5), (6, 6)] o243)
  have t248 := T245.r0 ho247
  refine ⟨_, he244, fun a' p => ?_⟩
  exact ⟨o246, _, _, rfl, p, t248⟩
 intro a w259 o260 M t261
 refine q_then <| wp_ret ?_
 have u68 := T227.kn t261
 obtain rfl := sj h
 exact ⟨M.f.defers, _, (res1 Try.results32 (rv_tmp (M.t 23 rfl))), ⟨o260, rfl, u68⟩⟩
end Go.Proofs.Ythilemcdhkfhlaa
namespace Go.Proofs.Ythilemcdhkfhlaa
open Go Go.RowKit Go.Gc Go.Proofs
def chart_Chart_Pivots_b0 (k : Nat) (p1 : Part) (p3 : List ByteArray) (p7 : List ByteArray) (p11 : List Rule) (p15 : Int) (p18 : List Bool) (p21 : List Bool) (p24 : List Int) (p27 : List Part) (c30 : Nat) (p31 : List Part) (x119 : Int) (y213 : Int) (y214 : List Int) : Option ((Int × (List Int)) ⊕ (List Int)) :=
  if (decide (y213 ≤ p1.j)) = true then ((chart_Chart_Sym k (⟨x119, y213, p1.j⟩ : Span) p3 p7 p11 p15 p18 p21 p24 p27 c30 p31).bind fun r338 => if r338 = true then ((chart_Chart_Part k (⟨p1.rule, IntKind.wrap .i64 (p1.dot - (1 : Int)), p1.i, y213⟩ : Part) p3 p7 p11 p15 p18 p21 p24 p27 c30 p31).bind fun r349 => if r349 = true then (if y214.length + [y213].length ≤ 1000000000 then (some (.inl (IntKind.wrap .i64 (y213 + (1 : Int)), y214 ++ [y213]))) else none) else (some (.inl (IntKind.wrap .i64 (y213 + (1 : Int)), y214)))) else (some (.inl (IntKind.wrap .i64 (y213 + (1 : Int)), y214)))) else (some (.inr y214))
def chart_Chart_Pivots (k : Nat) (p1 : Part) (p3 : List ByteArray) (p7 : List ByteArray) (p11 : List Rule) (p15 : Int) (p18 : List Bool) (p21 : List Bool) (p24 : List Int) (p27 : List Part) (c30 : Nat) (p31 : List Part) : Option (List Int) :=
  (if (decide (p1.dot < (1 : Int))) = true then (some true) else ((chart_Chart_Part k p1 p3 p7 p11 p15 p18 p21 p24 p27 c30 p31).bind fun r77 => some (!r77))).bind fun x75 => if x75 = true then (some []) else ((chart_Chart_right k p1.rule p3 p7 p11 p15 p18 p21 p24 p27 c30 p31).bind fun r103 => (at? r103 (IntKind.wrap .i64 (p1.dot - (1 : Int)))).bind fun x119 => (iter (fun (s : (Int × (List Int))) => chart_Chart_Pivots_b0 k p1 p3 p7 p11 p15 p18 p21 p24 p27 c30 p31 x119 s.1 s.2) k (p1.i, [])).bind fun x374 => some x374)
theorem chart_Chart_Pivots_calls {k : Nat} {p1 : Part} {g2 : Nat} {p3 : List ByteArray} {v4 : Value} {p7 : List ByteArray} {v8 : Value} {p11 : List Rule} {v12 : Value} {p15 : Int} {v17 : Value} {p18 : List Bool} {v20 : Value} {p21 : List Bool} {v23 : Value} {p24 : List Int} {v26 : Value} {p27 : List Part} {g29 : Nat} {c30 : Nat} {p31 : List Part} {r : (List Int)} (h : chart_Chart_Pivots k p1 p3 p7 p11 p15 p18 p21 p24 p27 c30 p31 = some r) {w0 : World} {o0 : Own} (hown : Hown o0)
    (i6 : ((tSlice 9 tStr (by decide))).im w0 (L o0 0) p3 [v4])
    (i10 : ((tSlice 9 tStr (by decide))).im w0 (L o0 0) p7 [v8])
    (i14 : ((tSlice 28 tyRule (by decide))).im w0 (L o0 0) p11 [v12])
    (q16 : Box w0 o0 1 g2 116 #[v4, v8, v12, .int .i64 p15, v17, v20, v23, v26, .chan (some g29)])
    (q19 : Row tBool 4 w0 o0 2 v17 p18)
    (q22 : Row tBool 4 w0 o0 3 v20 p21)
    (q25 : Row (tInt .i64) 3 w0 o0 4 v23 p24)
    (q28 : Row tyPart 46 w0 o0 5 v26 p27)
    (q32 : Chan w0 o0 6 g29 c30 (p31.map cv_46)) :
    Calls Try.prog 34 #[.pointer (some ⟨g2, 0, none⟩), .agg #[.int .i64 p1.rule, .int .i64 p1.dot, .int .i64 p1.i, .int .i64 p1.j]] w0 (fun e w => ∃ (o406 : Own) (z407 : Value), e = .returned (z407) ∧ Row (tInt .i64) 3 w o406 50 z407 r ∧ Tr (Ls o0 []) w0 o0 w o406) := by
 unfold chart_Chart_Pivots at h
 refine startM Try.func34 rfl Try.ntmps34 (show 2 ≤ 59 by decide) fun a M => ?_
 have M : MB 59 [] [(0, .pointer (some ⟨g2, 0, none⟩)), (1, .agg #[.int .i64 p1.rule, .int .i64 p1.dot, .int .i64 p1.i, .int .i64 p1.j])] a := M
 obtain ⟨A33, c34, hzc34, -⟩ := q19.form
 subst hzc34
 obtain ⟨A35, c36, hzc36, -⟩ := q22.form
 subst hzc36
 obtain ⟨A37, c38, hzc38, -⟩ := q25.form
 subst hzc38
 obtain ⟨A39, c40, hzc40, -⟩ := q28.form
 subst hzc40
 obtain ⟨A41, c42, hzc42, -⟩ := im_form i6
 subst hzc42
 obtain ⟨A43, c44, hzc44, -⟩ := im_form i10
 subst hzc44
 obtain ⟨A45, c46, hzc46, -⟩ := im_form i14
 subst hzc46
 have T0 : Tr (Ls o0 []) w0 o0 w0 o0 := Tr.refl _ _ _
 refine c_seq <| c_reg ?_
 obtain ⟨g47, w48, o49, r50, b51, t52⟩ := b_box (P := Try.prog) (T := 46) (M.e 1 rfl) w0 o0 100
 refine ov rfl rfl M (r50 _ _ _ _ _) fun a M => pn (j := 2) E 1 M rfl rfl fun a M => x_end rfl <| q_then <| c_seq <| c_seq ?_
 obtain ⟨x75, hx76, h⟩ := bind_some h
 refine cut_c (fun (x : Bool) (e : Exit) (a : Act) (w : World) => (e = .normal ∧ ∃ (o74 : Own), MB 59 [] [(0, .pointer (some ⟨g2, 0, none⟩)), (3, .pointer (some ⟨g47, 0, none⟩)), (16, .bool x)] a ∧ Box w o74 1 g2 116 #[.slice A41 p3.length c42, .slice A43 p7.length c44, .slice A45 p11.length c46, .int .i64 p15, .slice A33 p18.length c34, .slice A35 p21.length c36, .slice A37 p24.length c38, .slice A39 p27.length c40, .chan (some g29)] ∧ Box w o74 100 g47 46 #[.int .i64 p1.rule, .int .i64 p1.dot, .int .i64 p1.i, .int .i64 p1.j] ∧ Row tBool 4 w o74 2 (.slice A33 p18.length c34) p18 ∧ Row tBool 4 w o74 3 (.slice A35 p21.length c36) p21 ∧ Row (tInt .i64) 3 w o74 4 (.slice A37 p24.length c38) p24 ∧ Row tyPart 46 w o74 5 (.slice A39 p27.length c40) p27 ∧ Chan w o74 6 g29 c30 (p31.map cv_46) ∧ ((tSlice 9 tStr (by decide))).im w (L o74 0) p3 [.slice A41 p3.length c42] ∧ ((tSlice 9 tStr (by decide))).im w (L o74 0) p7 [.slice A43 p7.length c44] ∧ ((tSlice 28 tyRule (by decide))).im w (L o74 0) p11 [.slice A45 p11.length c46] ∧ Tr (Ls o0 []) w0 o0 w o74)) x75 ?_ ?_
 ·replace h := hx76
  refine c_reg <| pn (j := 1) E 1 M rfl rfl fun a M => ov rfl rfl M (x_load ld_3 (M.e 0 rfl) (b51.cell (n := 1) rfl)) fun a M => pn (j := 4) E 2 M rfl rfl fun a M => ?_
  by_cases hk6 : (decide (p1.dot < (1 : Int))) = true
  ·rw [if_pos hk6] at h
   have M := M.k 11 rfl hk6
   refine pn (j := 9) E 5 M rfl rfl fun a M => x_end rfl ?_
   obtain rfl := sj h
   have u7 := T0.kn t52
   exact ⟨rfl, ⟨o49, (M.pk [11, 10, 0] rfl), (q16.kn t52), b51, (q19.kn t52), (q22.kn t52), (q25.kn t52), (q28.kn t52), (q32.kn t52), (iN i6 t52), (iN i10 t52), (iN i14 t52), u7⟩⟩
  rw [if_neg hk6] at h
  have hk6 := nott hk6
  have M := M.k 11 rfl hk6
  refine pn (j := 5) E 1 M rfl rfl fun a M => ow rfl (wanted_yes rfl rfl (M.t 1 rfl)) rfl rfl M (x_loadN (ldn_46 _ rfl) (M.e 6 rfl) (b51.sub (cs := #[.int .i64 p1.rule, .int .i64 p1.dot, .int .i64 p1.i, .int .i64 p1.j]) 0 rfl)) fun a M => ?_
  obtain ⟨r77, hr78, h⟩ := bind_some h
  refine oc rfl (wanted_yes rfl rfl (M.t 2 rfl)) rfl rfl M (x_call cf_32 (m2 (M.e 1 rfl) (M.e 0 rfl))) (chart_Chart_Part_calls hr78 (lko_own (T := [(0, 0), (1, 1), (2, 2), (3, 3), (4, 4), (5, 5), (6, 6)]) (o := o49) rfl) (sL (iN i6 t52) rfl) (sL (iN i10 t52) rfl) (sL (iN i14 t52) rfl) ((q16.kn t52).l rfl) ((q19.kn t52).l rfl rfl) ((q22.kn t52).l rfl rfl) ((q25.kn t52).l rfl rfl) ((q28.kn t52).l rfl rfl) ((q32.kn t52).l rfl)) (fun e8 w79 hp80 => ?_)
  obtain ⟨o81, he82, T83⟩ := hp80
  obtain ⟨o84, ho85⟩ := ex (mrg w48 o49 [(0, 0), (1, 1), (2, 2), (3, 3), (4, 4), (5, 5), (6, 6)] o81)
  have t86 := T83.r0 ho85
  refine ⟨_, he82, fun a M => ?_⟩
  refine pn (j := 9) E 2 M rfl rfl fun a M => x_end rfl ?_
  obtain rfl := sj h
  have u9 := (T0.kn t52).kn t86
  exact ⟨rfl, ⟨o84, (M.pk [11, 10, 0] rfl), ((q16.kn t52).kn t86), (b51.kn t86), ((q19.kn t52).kn t86), ((q22.kn t52).kn t86), ((q25.kn t52).kn t86), ((q28.kn t52).kn t86), ((q32.kn t52).kn t86), (iN (iN i6 t52) t86), (iN (iN i10 t52) t86), (iN (iN i14 t52) t86), u9⟩⟩
 intro e10 a w87 hO88
 obtain ⟨he89, hO88⟩ := hO88
 subst he89
 obtain ⟨o90, M, q91, q92, q93, q94, q95, q96, q97, i98, i99, i100, T101⟩ := hO88
 refine q_then ?_
 by_cases hk11 : x75 = true
 ·rw [if_pos hk11] at h
  have M := M.k 16 rfl hk11
  refine c_true (M.e 2 rfl) <| c_seq <| c_reg <| pn (j := 1) E 1 M rfl rfl fun a M => x_end rfl <| q_then <| wp_ret <| q_then_ret ?_
  obtain rfl := sj h
  exact ⟨M.f.defers, _, (res1 Try.results34 (rv_tmp (M.t 0 rfl))), ⟨o90, (.slice none 0 0), rfl, (Row.nil (tInt .i64) 3 w87 o90 50), T101⟩⟩
 rw [if_neg hk11] at h
 have hk11 := nott hk11
 have M := M.k 16 rfl hk11
 refine c_false (M.e 2 rfl) <| wp_skip <| q_then <| c_seq <| c_reg <| pn (j := 1) E 1 M rfl rfl fun a M => x_end rfl <| q_then <| c_seq ?_
 obtain ⟨r103, hr104, h⟩ := bind_some h
 obtain ⟨x119, hx120, h⟩ := bind_some h
 obtain ⟨hx1200, hx1201, hx1202⟩ := at_some hx120
 refine draw_m mixed [0, 0, 2, 7, 0, 16, 48, 127, 255, 511] (by kernel_rfl) rfl M (fun U a w => ∃ (o : Own) (A117 : Option Addr) (c118 : Nat) (g121 : Nat) (f122 : Nat), Tab [(0, 17, .pointer (some ⟨g2, 0, none⟩)), (1, 18, .pointer (some ⟨g47, 0, none⟩)), (2, 19, .int .i64 p1.rule), (4, 21, .pointer (some ⟨g47, 1, none⟩)), (5, 22, .int .i64 p1.dot), (6, 23, .int .i64 (IntKind.wrap .i64 (p1.dot - (1 : Int)))), (8, 25, .int .i64 x119), (9, 6, .int .i64 x119)] U a ∧ Tab [(3, 20, .slice A117 r103.length c118)] U a ∧ Tab [(7, 24, .pointer (some ⟨g121, f122 + (IntKind.wrap .i64 (p1.dot - (1 : Int))).toNat * 1, none⟩))] U a ∧ Tr (FL [] o90 U) w87 o90 w o ∧ (U 3 = true → (tSlice 3 (tInt .i64) (by decide)).im w (L o 0) r103 [.slice A117 r103.length c118]) ∧ (U 7 = true → ElemAt w o 0 g121 f122 (IntKind.wrap .i64 (p1.dot - (1 : Int))).toNat 1 [.int .i64 x119])) ?_ ⟨?_, ?_, ?_, ?_, ?_, ?_, ?_, ?_, ?_, ?_, trivial⟩ ?_
 ·exact ⟨o90, none, 0, 0, 0, Tab.start, Tab.start, Tab.start, FL.start (tr_drew _ _), fun h => Bool.noConfusion h, fun h => Bool.noConfusion h⟩
 ·intro U a w M hL hA hD hI
  obtain ⟨o, A117, c118, g121, f122, TG0, TG1, TG2, tr, FE0, FE1⟩ := hI
  refine dv rfl rfl M (x_move (M.e 1 rfl)) fun a' p => ?_
  exact ⟨M.st p rfl, o, A117, c118, g121, f122, (TG0.step p 0 rfl rfl), (TG1.other p rfl), (TG2.other p rfl), (FL.idle tr), FE0, FE1⟩
 ·intro U a w M hL hA hD hI
  obtain ⟨o, A117, c118, g121, f122, TG0, TG1, TG2, tr, FE0, FE1⟩ := hI
  refine dv rfl rfl M (x_fieldAddr fa_46_0 (M.e 2 rfl) rfl) fun a' p => ?_
  exact ⟨M.st p rfl, o, A117, c118, g121, f122, (TG0.step p 1 rfl rfl), (TG1.other p rfl), (TG2.other p rfl), (FL.idle tr), FE0, FE1⟩
 ·intro U a w M hL hA hD hI
  obtain ⟨o, A117, c118, g121, f122, TG0, TG1, TG2, tr, FE0, FE1⟩ := hI
  refine dv rfl rfl M (x_load ld_3 (e_tmp (TG0.get 1 rfl (hA 1 rfl))) ((q92.keep_ (FL.same tr trivial)).cell (n := 0) rfl)) fun a' p => ?_
  exact ⟨M.st p rfl, o, A117, c118, g121, f122, (TG0.step p 2 rfl rfl), (TG1.other p rfl), (TG2.other p rfl), (FL.idle tr), FE0, FE1⟩
 ·intro U a w M hL hA hD hI
  obtain ⟨o, A117, c118, g121, f122, TG0, TG1, TG2, tr, FE0, FE1⟩ := hI
  refine dc rfl (wp0 rfl) rfl rfl M (x_call cf_87 (m2 (e_tmp (TG0.get 0 rfl (hA 0 rfl))) (e_tmp (TG0.get 2 rfl (hA 2 rfl))))) (chart_Chart_right_calls hr104 (lko_own (T := [(0, 0), (1, 1), (2, 2), (3, 3), (4, 4), (5, 5), (6, 6)]) (o := o) rfl) (sL (Ty.loc _ (FL.same tr trivial) i98) rfl) (sL (Ty.loc _ (FL.same tr trivial) i99) rfl) (sL (Ty.loc _ (FL.same tr trivial) i100) rfl) ((q91.keep_ (FL.same tr trivial)).l rfl) ((q93.keep_ (FL.same tr trivial) (FL.same tr trivial)).l rfl rfl) ((q94.keep_ (FL.same tr trivial) (FL.same tr trivial)).l rfl rfl) ((q95.keep_ (FL.same tr trivial) (FL.same tr trivial)).l rfl rfl) ((q96.keep_ (FL.same tr trivial) (FL.same tr trivial)).l rfl rfl) ((q97.keep_ (FL.same tr trivial)).l rfl)) (fun e14 w105 hp106 => ?_)
  obtain ⟨o108, z107, he109, i110, T111⟩ := hp106
  obtain ⟨o112, ho113⟩ := ex (mrg w o [(0, 0), (1, 1), (2, 2), (3, 3), (4, 4), (5, 5), (6, 6)] o108)
  have t114 := T111.r0 ho113
  have i115 := iR i110 T111 ho113 rfl rfl
  refine ⟨_, he109, fun a' p => ?_⟩
  obtain ⟨A117, c118, hzc118, -⟩ := im_form i115
  subst hzc118
  exact ⟨M.st p rfl, o112, A117, c118, g121, f122, (TG0.other p rfl), (Tab.mk hD p 0 rfl rfl), (TG2.other p rfl), (FL.stepNo tr t114), (fun _ => i115), (fun h => ab (hD 7 rfl) rfl h)⟩
 ·intro U a w M hL hA hD hI
  obtain ⟨o, A117, c118, g121, f122, TG0, TG1, TG2, tr, FE0, FE1⟩ := hI
  refine dv rfl rfl M (x_fieldAddr fa_46_1 (M.e 2 rfl) rfl) fun a' p => ?_
  exact ⟨M.st p rfl, o, A117, c118, g121, f122, (TG0.step p 3 rfl rfl), (TG1.other p rfl), (TG2.other p rfl), (FL.idle tr), FE0, FE1⟩
 ·intro U a w M hL hA hD hI
  obtain ⟨o, A117, c118, g121, f122, TG0, TG1, TG2, tr, FE0, FE1⟩ := hI
  refine dv rfl rfl M (x_load ld_3 (e_tmp (TG0.get 3 rfl (hA 4 rfl))) ((q92.keep_ (FL.same tr trivial)).cell (n := 1) rfl)) fun a' p => ?_
  exact ⟨M.st p rfl, o, A117, c118, g121, f122, (TG0.step p 4 rfl rfl), (TG1.other p rfl), (TG2.other p rfl), (FL.idle tr), FE0, FE1⟩
 ·intro U a w M hL hA hD hI
  obtain ⟨o, A117, c118, g121, f122, TG0, TG1, TG2, tr, FE0, FE1⟩ := hI
  refine dv rfl rfl M (x_sub (e_tmp (TG0.get 4 rfl (hA 5 rfl))) (e_const (v := .int .i64 (1 : Int)))) fun a' p => ?_
  exact ⟨M.st p rfl, o, A117, c118, g121, f122, (TG0.step p 5 rfl rfl), (TG1.other p rfl), (TG2.other p rfl), (FL.idle tr), FE0, FE1⟩
 ·intro U a w M hL hA hD hI
  obtain ⟨o, A117, c118, g121, f122, TG0, TG1, TG2, tr, FE0, FE1⟩ := hI
  obtain ⟨g121, f122, c123, ds124, hv125, hd126, he127⟩ := im_elem (FE0 (hA 3 rfl)) hx1201
  have hsds124 : ds124 = [.int .i64 x119] := hd126
  subst hsds124
  have he127 : ElemAt w o 0 g121 f122 (IntKind.wrap .i64 (p1.dot - (1 : Int))).toNat 1 [.int .i64 x119] := he127
  refine dv rfl rfl M (x_indexAddr Try.underlying26 sz_3 ((e_tmp (TG1.get 0 rfl (hA 3 rfl))).trans hv125) (e_tmp (TG0.get 5 rfl (hA 6 rfl))) hx1200 hx1202) fun a' p => ?_
  exact ⟨M.st p rfl, o, A117, c118, g121, f122, (TG0.other p rfl), (TG1.other p rfl), (Tab.mk hD p 0 rfl rfl), (FL.idle tr), FE0, (fun _ => he127)⟩
 ·intro U a w M hL hA hD hI
  obtain ⟨o, A117, c118, g121, f122, TG0, TG1, TG2, tr, FE0, FE1⟩ := hI
  refine dv rfl rfl M (x_load ld_3 (e_tmp (TG2.get 0 rfl (hA 7 rfl))) ((FE1 (hA 7 rfl)).2 0 _ rfl)) fun a' p => ?_
  exact ⟨M.st p rfl, o, A117, c118, g121, f122, (TG0.step p 6 rfl rfl), (TG1.other p rfl), (TG2.other p rfl), (FL.idle tr), FE0, FE1⟩
 ·intro U a w M hL hA hD hI
  obtain ⟨o, A117, c118, g121, f122, TG0, TG1, TG2, tr, FE0, FE1⟩ := hI
  refine dv rfl rfl M (x_assign (e_tmp (TG0.get 6 rfl (hA 8 rfl)))) fun a' p => ?_
  exact ⟨M.st p rfl, o, A117, c118, g121, f122, (TG0.step p 7 rfl rfl), (TG1.other p rfl), (TG2.other p rfl), (FL.idle tr), FE0, FE1⟩
 intro U a w129 M hA hI
 obtain ⟨o130, A117, c118, g121, f122, TG0, TG1, TG2, tr, FE0, FE1⟩ := hI
 have M := M.ad (TG0.get 7 rfl (hA 9 rfl))
 have q131 := (q91.keep_ (FL.same tr trivial))
 have q132 := (q92.keep_ (FL.same tr trivial))
 have q133 := (q93.keep_ (FL.same tr trivial) (FL.same tr trivial))
 have q134 := (q94.keep_ (FL.same tr trivial) (FL.same tr trivial))
 have q135 := (q95.keep_ (FL.same tr trivial) (FL.same tr trivial))
 have q136 := (q96.keep_ (FL.same tr trivial) (FL.same tr trivial))
 have q137 := (q97.keep_ (FL.same tr trivial))
 have i138 := (Ty.loc _ (FL.same tr trivial) i98)
 have i139 := (Ty.loc _ (FL.same tr trivial) i99)
 have i140 := (Ty.loc _ (FL.same tr trivial) i100)
 have T141 := Tr.kf T101 tr hown rfl
 clear hA TG0 TG1 TG2 tr FE0 FE1
 refine q_then <| c_seq <| c_seq <| c_reg <| pn (j := 1) E 1 M rfl rfl fun a M => ov rfl rfl M (x_load ld_3 (M.e 0 rfl) (q132.cell (n := 2) rfl)) fun a M => pn (j := 3) E 1 M rfl rfl fun a M => x_end rfl <| q_then <| wp_block ?_
 obtain ⟨x374, hx375, h⟩ := bind_some h
 refine loop_iter (S := (Int × (List Int))) (X := (List Int)) (fun (s : (Int × (List Int))) => chart_Chart_Pivots_b0 k p1 p3 p7 p11 p15 p18 p21 p24 p27 c30 p31 x119 s.1 s.2) (fun (s : (Int × (List Int))) (a : Act) (w : World) => ∃ (o295 : Own) (z215 : Value), MB 59 [] [(0, .pointer (some ⟨g2, 0, none⟩)), (3, .pointer (some ⟨g47, 0, none⟩)), (5, z215), (6, .int .i64 x119), (7, .int .i64 s.1)] a ∧ Box w o295 1 g2 116 #[.slice A41 p3.length c42, .slice A43 p7.length c44, .slice A45 p11.length c46, .int .i64 p15, .slice A33 p18.length c34, .slice A35 p21.length c36, .slice A37 p24.length c38, .slice A39 p27.length c40, .chan (some g29)] ∧ Box w o295 100 g47 46 #[.int .i64 p1.rule, .int .i64 p1.dot, .int .i64 p1.i, .int .i64 p1.j] ∧ Row (tInt .i64) 3 w o295 102 z215 s.2 ∧ Row tBool 4 w o295 2 (.slice A33 p18.length c34) p18 ∧ Row tBool 4 w o295 3 (.slice A35 p21.length c36) p21 ∧ Row (tInt .i64) 3 w o295 4 (.slice A37 p24.length c38) p24 ∧ Row tyPart 46 w o295 5 (.slice A39 p27.length c40) p27 ∧ Chan w o295 6 g29 c30 (p31.map cv_46) ∧ ((tSlice 9 tStr (by decide))).im w (L o295 0) p3 [.slice A41 p3.length c42] ∧ ((tSlice 9 tStr (by decide))).im w (L o295 0) p7 [.slice A43 p7.length c44] ∧ ((tSlice 28 tyRule (by decide))).im w (L o295 0) p11 [.slice A45 p11.length c46] ∧ Tr (Ls o0 []) w0 o0 w o295) (fun (x : (List Int)) (e : Exit) (a : Act) (w : World) => (e = .exit 0 ∧ ∃ (o296 : Own) (z294 : Value), MB 59 [] [(5, z294)] a ∧ Row (tInt .i64) 3 w o296 102 z294 x ∧ Box w o296 1 g2 116 #[.slice A41 p3.length c42, .slice A43 p7.length c44, .slice A45 p11.length c46, .int .i64 p15, .slice A33 p18.length c34, .slice A35 p21.length c36, .slice A37 p24.length c38, .slice A39 p27.length c40, .chan (some g29)] ∧ Row tBool 4 w o296 2 (.slice A33 p18.length c34) p18 ∧ Row tBool 4 w o296 3 (.slice A35 p21.length c36) p21 ∧ Row (tInt .i64) 3 w o296 4 (.slice A37 p24.length c38) p24 ∧ Row tyPart 46 w o296 5 (.slice A39 p27.length c40) p27 ∧ Chan w o296 6 g29 c30 (p31.map cv_46) ∧ ((tSlice 9 tStr (by decide))).im w (L o296 0) p3 [.slice A41 p3.length c42] ∧ ((tSlice 9 tStr (by decide))).im w (L o296 0) p7 [.slice A43 p7.length c44] ∧ ((tSlice 28 tyRule (by decide))).im w (L o296 0) p11 [.slice A45 p11.length c46] ∧ Tr (Ls o0 []) w0 o0 w o296)) ?_ hx375 ⟨o130, (.slice none 0 0), (M.pk [5, 6, 4, 3, 0] rfl), q131, q132, (Row.nil (tInt .i64) 3 w129 o130 102), q133, q134, q135, q136, q137, i138, i139, i140, T141⟩ ?_
 ·rintro ⟨y213, y214⟩ a w297 r298 hI299 h
  replace h : chart_Chart_Pivots_b0 k p1 p3 p7 p11 p15 p18 p21 p24 p27 c30 p31 x119 y213 y214 = some r298 := h
  unfold chart_Chart_Pivots_b0 at h
  obtain ⟨o300, z215, M, q301, q302, q303, q304, q305, q306, q307, q308, i309, i310, i311, T312⟩ := hI299
  obtain ⟨A313, c314, hzc314, -⟩ := q303.form
  subst hzc314
  refine c_seq <| c_seq <| c_reg <| pn (j := 2) E 2 M rfl rfl fun a M => ov rfl rfl M (x_load ld_3 (M.e 0 rfl) (q302.cell (n := 3) rfl)) fun a M => pn (j := 4) E 1 M rfl rfl fun a M => x_end rfl <| q_then ?_
  by_cases hk35 : (decide (y213 ≤ p1.j)) = true
  ·rw [if_pos hk35] at h
   have M := M.k 31 rfl hk35
   refine c_true (M.e 0 rfl) <| wp_skip <| q_then <| c_seq <| wp_block <| c_seq <| c_reg <| pn (j := 4) E 4 M rfl rfl fun a M => ov rfl rfl M (x_load ld_3 (M.e 0 rfl) (q302.cell (n := 3) rfl)) fun a M => ?_
   have hb337 : ∀ w : World, (Instr.build 42 #[(0, .int .i64 x119), (1, .int .i64 y213), (2, .int .i64 p1.j)]).run Try.prog w = .ok (.agg #[.int .i64 x119, .int .i64 y213, .int .i64 p1.j]) w := fun w => by go_simp
   refine ov rfl rfl M (x_build (l3 (M.e 3 rfl) (M.e 2 rfl) (M.e 0 rfl)) hb337) fun a M => ?_
   obtain ⟨r338, hr339, h⟩ := bind_some h
   refine oc rfl (wp0 rfl) rfl rfl M (x_call cf_31 (m2 (M.e 5 rfl) (M.e 0 rfl))) (chart_Chart_Sym_calls hr339 (lko_own (T := [(0, 0), (1, 1), (2, 2), (3, 3), (4, 4), (5, 5), (6, 6)]) (o := o300) rfl) (sL i309 rfl) (sL i310 rfl) (sL i311 rfl) (q301.l rfl) (q304.l rfl rfl) (q305.l rfl rfl) (q306.l rfl rfl) (q307.l rfl rfl) (q308.l rfl)) (fun e39 w340 hp341 => ?_)
   obtain ⟨o342, he343, T344⟩ := hp341
   obtain ⟨o345, ho346⟩ := ex (mrg w297 o300 [(0, 0), (1, 1), (2, 2), (3, 3), (4, 4), (5, 5), (6, 6)] o342)
   have t347 := T344.r0 ho346
   refine ⟨_, he343, fun a M => ?_⟩
   refine pn (j := 8) E 1 M rfl rfl fun a M => ?_
   by_cases hk40 : r338 = true
   ·rw [if_pos hk40] at h
    have M := M.k 41 rfl hk40
    refine pn (j := 10) E 2 M rfl rfl fun a M => ow rfl (wanted_yes rfl rfl (M.t 2 rfl)) rfl rfl M (x_load ld_3 (M.e 0 rfl) ((q302.kn t347).cell (n := 0) rfl)) fun a M => pn (j := 12) E 1 M rfl rfl fun a M => ow rfl (wanted_yes rfl rfl (M.t 4 rfl)) rfl rfl M (x_load ld_3 (M.e 0 rfl) ((q302.kn t347).cell (n := 1) rfl)) fun a M => pn (j := 15) E 2 M rfl rfl fun a M => ow rfl (wanted_yes rfl rfl (M.t 7 rfl)) rfl rfl M (x_load ld_3 (M.e 0 rfl) ((q302.kn t347).cell (n := 2) rfl)) fun a M => pn (j := 17) E 1 M rfl rfl fun a M => ?_
    have hb348 : ∀ w : World, (Instr.build 46 #[(0, .int .i64 p1.rule), (1, .int .i64 (IntKind.wrap .i64 (p1.dot - (1 : Int)))), (2, .int .i64 p1.i), (3, .int .i64 y213)]).run Try.prog w = .ok (.agg #[.int .i64 p1.rule, .int .i64 (IntKind.wrap .i64 (p1.dot - (1 : Int))), .int .i64 p1.i, .int .i64 y213]) w := fun w => by go_simp
    refine ow rfl (wanted_yes rfl rfl (M.t 9 rfl)) rfl rfl M (x_build (l4 (M.e 6 rfl) (M.e 3 rfl) (M.e 1 rfl) (M.e 0 rfl)) hb348) fun a M => ?_
    obtain ⟨r349, hr350, h⟩ := bind_some h
    refine oc rfl (wanted_yes rfl rfl (M.t 10 rfl)) rfl rfl M (x_call cf_32 (m2 (M.e 9 rfl) (M.e 0 rfl))) (chart_Chart_Part_calls hr350 (lko_own (T := [(0, 0), (1, 1), (2, 2), (3, 3), (4, 4), (5, 5), (6, 6)]) (o := o345) rfl) (sL (iN i309 t347) rfl) (sL (iN i310 t347) rfl) (sL (iN i311 t347) rfl) ((q301.kn t347).l rfl) ((q304.kn t347).l rfl rfl) ((q305.kn t347).l rfl rfl) ((q306.kn t347).l rfl rfl) ((q307.kn t347).l rfl rfl) ((q308.kn t347).l rfl)) (fun e41 w351 hp352 => ?_)
    obtain ⟨o353, he354, T355⟩ := hp352
    obtain ⟨o356, ho357⟩ := ex (mrg w340 o345 [(0, 0), (1, 1), (2, 2), (3, 3), (4, 4), (5, 5), (6, 6)] o353)
    have t358 := T355.r0 ho357
    refine ⟨_, he354, fun a M => ?_⟩
    refine pn (j := 20) E 1 M rfl rfl fun a M => x_end rfl <| q_then ?_
    by_cases hk42 : r349 = true
    ·rw [if_pos hk42] at h
     have M := M.k 53 rfl hk42
     refine c_true (M.e 0 rfl) <| c_reg <| pn (j := 2) E 2 M rfl rfl fun a M => ?_
     have r361 : (Instr.buildSlice 26 1 #[(0, .int .i64 y213)]).run Try.prog w351 = .ok (.slice (some ⟨w351.heap.size, 0, none⟩) 1 1) (w351.alloc (.cells ([.int .i64 y213] : List Value).toArray 3)) := by go_simp
     obtain ⟨b362, t363⟩ := Row.lit (E := (tInt .i64)) (e := 3) (l := [y213]) (by decide) w351 o356 101 (cs := [.int .i64 y213]) ⟨[.int .i64 y213], _, rfl, rfl, rfl⟩ (by simp)
     generalize hww359 : w351.alloc _ = w359 at r361 b362 t363
     generalize upd o356 _ 101 = o360 at b362 t363
     generalize hgg364 : w351.heap.size = g364 at r361 b362
     clear hww359 hgg364
     refine ov rfl rfl M (x_buildSlice (l1 (M.e 0 rfl)) r361) fun a M => ?_
     obtain ⟨hc365, h⟩ := ifs h
     have u43 := ((q303.kn t347).kn t358).kn t363
     obtain ⟨v366, w367, o368, r369, b370, t371⟩ := run_append el_3 Try.underlying26 26 u43 (by decide) (Src.row b362) hc365
     obtain ⟨A372, c373, rfl, -⟩ := b370.form
     refine ov rfl rfl M (x_append (M.e 2 rfl) (M.e 0 rfl) r369) fun a M => ?_
     have M := M.pk [0, 1, 2, 3, 5, 6, 7, 8, 9, 10, 11, 12, 13, 14, 15, 28, 29, 31, 32] rfl
     refine pn (j := 5) E 1 M rfl rfl fun a M => x_end rfl <| q_blk <| q_then <| c_reg <| pn (j := 2) E 2 M rfl rfl fun a M => ?_
     have M := M.pk [0, 1, 2, 7, 8, 9, 10, 11, 12, 13, 14, 15, 16, 17, 18, 19, 20] rfl
     refine pn (j := 3) E 1 M rfl rfl fun a M => x_end rfl ?_
     obtain rfl := sj h
     have u44 := iK (iN (iN (iN i309 t347) t358) t363) t371 rfl
     have u45 := iK (iN (iN (iN i310 t347) t358) t363) t371 rfl
     have u46 := iK (iN (iN (iN i311 t347) t358) t363) t371 rfl
     have u47 := (((q301.kn t347).kn t358).kn t363).kk t371 rfl
     have u48 := (((q302.kn t347).kn t358).kn t363).kk t371 rfl
     have u49 := (((q304.kn t347).kn t358).kn t363).kk t371 rfl rfl
     have u50 := (((q305.kn t347).kn t358).kn t363).kk t371 rfl rfl
     have u51 := (((q306.kn t347).kn t358).kn t363).kk t371 rfl rfl
     have u52 := (((q307.kn t347).kn t358).kn t363).kk t371 rfl rfl
     have u53 := (((q308.kn t347).kn t358).kn t363).kk t371 rfl
     have u54 := (((T312.kn t347).kn t358).kn t363).kk t371 hown rfl
     exact lq_next ⟨o368, (.slice A372 (y214 ++ [y213]).length c373), (M.pk [15, 16, 3, 17, 0] rfl), u47, u48, b370, u49, u50, u51, u52, u53, u44, u45, u46, u54⟩
    rw [if_neg hk42] at h
    have hk42 := nott hk42
    have M := M.k 53 rfl hk42
    refine c_false (M.e 0 rfl) <| wp_skip <| q_blk <| q_then <| c_reg <| pn (j := 2) E 2 M rfl rfl fun a M => ?_
    have M := M.pk [0, 1, 3, 4, 5, 6, 7, 8, 9, 10, 11, 12, 13, 26, 27, 28, 29] rfl
    refine pn (j := 3) E 1 M rfl rfl fun a M => x_end rfl ?_
    obtain rfl := sj h
    have u55 := (T312.kn t347).kn t358
    exact lq_next ⟨o356, (.slice A313 y214.length c314), (M.pk [14, 15, 16, 17, 0] rfl), ((q301.kn t347).kn t358), ((q302.kn t347).kn t358), ((q303.kn t347).kn t358), ((q304.kn t347).kn t358), ((q305.kn t347).kn t358), ((q306.kn t347).kn t358), ((q307.kn t347).kn t358), ((q308.kn t347).kn t358), (iN (iN i309 t347) t358), (iN (iN i310 t347) t358), (iN (iN i311 t347) t358), u55⟩
   rw [if_neg hk40] at h
   have hk40 := nott hk40
   have M := M.k 41 rfl hk40
   refine pn (j := 20) E 12 M rfl rfl fun a M => x_end rfl <| q_then <| c_false (M.e 0 rfl) <| wp_skip <| q_blk <| q_then <| c_reg <| pn (j := 2) E 2 M rfl rfl fun a M => ?_
   have M := M.pk [0, 1, 3, 4, 5, 6, 7, 8, 9, 10, 11, 12, 13, 26, 27, 28, 29] rfl
   refine pn (j := 3) E 1 M rfl rfl fun a M => x_end rfl ?_
   obtain rfl := sj h
   have u56 := T312.kn t347
   exact lq_next ⟨o345, (.slice A313 y214.length c314), (M.pk [14, 15, 16, 17, 0] rfl), (q301.kn t347), (q302.kn t347), (q303.kn t347), (q304.kn t347), (q305.kn t347), (q306.kn t347), (q307.kn t347), (q308.kn t347), (iN i309 t347), (iN i310 t347), (iN i311 t347), u56⟩
  rw [if_neg hk35] at h
  have hk35 := nott hk35
  have M := M.k 31 rfl hk35
  refine c_false (M.e 0 rfl) <| wp_exit <| q_then_exit ?_
  obtain rfl := sj h
  exact lq_exit ⟨rfl, ⟨o300, (.slice A313 y214.length c314), (M.pk [6] rfl), q303, q301, q304, q305, q306, q307, q308, i309, i310, i311, T312⟩⟩
 intro e57 a w376 hO377
 obtain ⟨he378, hO377⟩ := hO377
 subst he378
 obtain ⟨o379, z294, M, q380, q381, q382, q383, q384, q385, q386, i387, i388, i389, T390⟩ := hO377
 obtain ⟨A391, c392, hzc392, -⟩ := q380.form
 subst hzc392
 refine q_blk_here <| q_then <| c_seq <| c_reg <| pn (j := 2) E 2 M rfl rfl fun a M => x_end rfl <| q_then <| wp_ret ?_
 obtain ⟨o393, ho394⟩ := ex (lro [(102, 50)] o379)
 have T395 := T390.kw hown ho394 rfl
 have i396 := iW i387 ho394 rfl
 have i397 := iW i388 ho394 rfl
 have i398 := iW i389 ho394 rfl
 have q399 := q380.kw ho394 50 rfl rfl
 have q400 := q381.kw ho394 1 rfl
 have q401 := q382.kw ho394 2 rfl rfl
 have q402 := q383.kw ho394 3 rfl rfl
 have q403 := q384.kw ho394 4 rfl rfl
 have q404 := q385.kw ho394 5 rfl rfl
 have q405 := q386.kw ho394 6 rfl
 obtain rfl := sj h
 exact ⟨M.f.defers, _, (res1 Try.results34 (rv_tmp (M.t 0 rfl))), ⟨o393, (.slice A391 x374.length c392), rfl, q399, T395⟩⟩
end Go.Proofs.Ythilemcdhkfhlaa
namespace Go.Proofs.Ythilemcdhkfhlaa
open Go Go.RowKit Go.Gc Go.Proofs
def grammar_added_1 (k : Nat) (p1 : ByteArray) (p3 : List ByteArray) : Option (List ByteArray) :=
  (slices_Contains_1 k p3 p1).bind fun r7 => if r7 = true then (some p3) else (if p3.length + [p1].length ≤ 1000000000 then (some (p3 ++ [p1])) else none)
theorem grammar_added_1_calls {k : Nat} {p1 : ByteArray} {v2 : Value} {p3 : List ByteArray} {r : (List ByteArray)} (h : grammar_added_1 k p1 p3 = some r) {w0 : World} {o0 : Own} (hown : Hown o0)
    (q4 : Row tStr 9 w0 o0 1 v2 p3) :
    Calls Try.prog 126 #[v2, .string p1] w0 (fun e w => ∃ (o32 : Own) (z33 : Value), e = .returned (z33) ∧ Row tStr 9 w o32 1 z33 r ∧ Tr (Ls o0 [1]) w0 o0 w o32) := by
 unfold grammar_added_1 at h
 refine startM Try.func126 rfl Try.ntmps126 (show 2 ≤ 13 by decide) fun a M => ?_
 have M : MB 13 [] [(0, v2), (1, .string p1)] a := M
 obtain ⟨A5, c6, hzc6, -⟩ := q4.form
 subst hzc6
 have T0 : Tr (Ls o0 [1]) w0 o0 w0 o0 := Tr.refl _ _ _
 refine c_seq <| c_reg <| pn (j := 1) E 1 M rfl rfl fun a M => x_end rfl <| q_then <| c_seq <| c_seq <| c_reg <| pn (j := 2) E 2 M rfl rfl fun a M => ?_
 obtain ⟨r7, hr8, h⟩ := bind_some h
 refine oc rfl (wp0 rfl) rfl rfl M (x_call cf_165 (m2 (M.e 1 rfl) (M.e 0 rfl))) (slices_Contains_1_calls hr8 (lko_own (T := [(0, 0), (1, 0)]) (o := o0) rfl) (q4.lend rfl rfl)) (fun e1 w9 hp10 => ?_)
 obtain ⟨o11, he12, T13⟩ := hp10
 obtain ⟨o14, ho15⟩ := ex (mrg w0 o0 [(0, 0)] o11)
 have t16 := T13.r0 ho15
 refine ⟨_, he12, fun a M => ?_⟩
 refine x_end rfl <| q_then ?_
 by_cases hk2 : r7 = true
 ·rw [if_pos hk2] at h
  have M := M.k 7 rfl hk2
  refine c_true (M.e 0 rfl) <| c_seq <| c_reg <| pn (j := 1) E 1 M rfl rfl fun a M => ?_
  have M := M.pk [0, 5] rfl
  refine pn (j := 2) E 1 M rfl rfl fun a M => x_end rfl <| q_then <| wp_ret <| q_then_ret ?_
  have u3 := T0.kn t16
  obtain rfl := sj h
  exact ⟨M.f.defers, _, (res1 Try.results126 (rv_tmp (M.t 0 rfl))), ⟨o14, (.slice A5 p3.length c6), rfl, (q4.kn t16), u3⟩⟩
 rw [if_neg hk2] at h
 have hk2 := nott hk2
 have M := M.k 7 rfl hk2
 refine c_false (M.e 0 rfl) <| wp_skip <| q_then <| c_seq <| c_reg <| pn (j := 2) E 2 M rfl rfl fun a M => ?_
 have r19 : (Instr.buildSlice 22 1 #[(0, .string p1)]).run Try.prog w9 = .ok (.slice (some ⟨w9.heap.size, 0, none⟩) 1 1) (w9.alloc (.cells ([.string p1] : List Value).toArray 9)) := by go_simp
 obtain ⟨b20, t21⟩ := Row.lit (E := tStr) (e := 9) (l := [p1]) (by decide) w9 o14 100 (cs := [.string p1]) ⟨[.string p1], _, rfl, rfl, rfl⟩ (by simp)
 generalize hww17 : w9.alloc _ = w17 at r19 b20 t21
 generalize upd o14 _ 100 = o18 at b20 t21
 generalize hgg22 : w9.heap.size = g22 at r19 b20
 clear hww17 hgg22
 refine ov rfl rfl M (x_buildSlice (l1 (M.e 0 rfl)) r19) fun a M => ?_
 obtain ⟨hc23, h⟩ := ifs h
 obtain ⟨v24, w25, o26, r27, b28, t29⟩ := run_append el_9 Try.underlying22 22 ((q4.kn t16).kn t21) (by decide) (Src.row b20) hc23
 obtain ⟨A30, c31, rfl, -⟩ := b28.form
 refine ov rfl rfl M (x_append (M.e 2 rfl) (M.e 0 rfl) r27) fun a M => ?_
 have M := M.pk [0, 1, 2, 3, 8, 9] rfl
 refine pn (j := 5) E 1 M rfl rfl fun a M => x_end rfl <| q_then <| wp_ret ?_
 have u4 := ((T0.kn t16).kn t21).kk t29 hown rfl
 obtain rfl := sj h
 exact ⟨M.f.defers, _, (res1 Try.results126 (rv_tmp (M.t 0 rfl))), ⟨o26, (.slice A30 (p3 ++ [p1]).length c31), rfl, b28, u4⟩⟩
end Go.Proofs.Ythilemcdhkfhlaa
namespace Go.Proofs.Ythilemcdhkfhlaa
open Go Go.RowKit Go.Gc Go.Proofs
def grammar_check (k : Nat) (p1 : Fault) : Option Unit :=
  if (p1.e != (0 : Int)) = true then (none) else (some ())
theorem grammar_check_calls {k : Nat} {p1 : Fault} {r : Unit} (h : grammar_check k p1 = some r) {w0 : World} {o0 : Own} (hown : Hown o0) :
    Calls Try.prog 124 #[.agg #[.int .i64 p1.e, .int .i64 p1.at_]] w0 (fun e w => ∃ (o8 : Own), e = .returned (.tuple #[]) ∧ Tr (Ls o0 []) w0 o0 w o8) := by
 unfold grammar_check at h
 refine startM Try.func124 rfl Try.ntmps124 (show 1 ≤ 7 by decide) fun a M => ?_
 have M : MB 7 [] [(0, .agg #[.int .i64 p1.e, .int .i64 p1.at_])] a := M
 have T0 : Tr (Ls o0 []) w0 o0 w0 o0 := Tr.refl _ _ _
 refine c_seq <| c_reg ?_
 obtain ⟨g2, w3, o4, r5, b6, t7⟩ := b_box (P := Try.prog) (T := 108) (M.e 0 rfl) w0 o0 100
 refine ov rfl rfl M (r5 _ _ _ _ _) fun a M => x_end rfl <| q_then <| c_seq <| c_reg <| pn (j := 1) E 1 M rfl rfl fun a M => ov rfl rfl M (x_load ld_35 (M.e 0 rfl) (b6.cell (n := 0) rfl)) fun a M => pn (j := 3) E 1 M rfl rfl fun a M => x_end rfl <| q_then ?_
 by_cases hk1 : (p1.e != (0 : Int)) = true
 ·rw [if_pos hk1] at h
  have M := M.k 4 rfl hk1
  refine c_true (M.e 0 rfl) ?_
  exact absurd h (by simp)
 rw [if_neg hk1] at h
 have hk1 := nott hk1
 have M := M.k 4 rfl hk1
 refine c_false (M.e 0 rfl) <| wp_skip ?_
 have u2 := T0.kn t7
 obtain rfl := sj h
 exact ⟨M.f.defers, _, (res0 Try.results124 ), ⟨o4, rfl, u2⟩⟩
end Go.Proofs.Ythilemcdhkfhlaa
namespace Go.Proofs.Ythilemcdhkfhlaa
open Go Go.RowKit Go.Gc Go.Proofs
def grammar_numbered_b0 (k : Nat) (p1 : Grammar) (p11 : Alt) (y214 : Int) (y215 : List Int) : Option ((Int × (List Int)) ⊕ (List Int)) :=
  if (decide (y214 < (p11.right.length : Int))) = true then ((at? p11.right y214).bind fun x382 => if (x382.kind == (2 : Int)) = true then ((slices_Index_1 k p1.terms x382.text).bind fun r444 => if y215.length + [r444].length ≤ 1000000000 then (some (.inl (IntKind.wrap .i64 (y214 + (1 : Int)), y215 ++ [r444]))) else none) else ((slices_Index_1 k p1.names x382.text).bind fun r484 => if (decide (r484 < (0 : Int))) = true then (none) else (if y215.length + [IntKind.wrap .i64 ((p1.terms.length : Int) + r484)].length ≤ 1000000000 then (some (.inl (IntKind.wrap .i64 (y214 + (1 : Int)), y215 ++ [IntKind.wrap .i64 ((p1.terms.length : Int) + r484)]))) else none))) else (some (.inr y215))
def grammar_numbered (k : Nat) (p1 : Grammar) (p11 : Alt) : Option (Int × (List Int)) :=
  (slices_Index_1 k p1.names p11.left.text).bind fun r42 => (iter (fun (s : (Int × (List Int))) => grammar_numbered_b0 k p1 p11 s.1 s.2) k ((0 : Int), [])).bind fun x513 => some (IntKind.wrap .i64 ((p1.terms.length : Int) + r42), x513)
theorem grammar_numbered_calls {k : Nat} {p1 : Grammar} {v2 : Value} {v5 : Value} {v8 : Value} {p11 : Alt} {v12 : Value} {r : (Int × (List Int))} (h : grammar_numbered k p1 p11 = some r) {w0 : World} {o0 : Own} (hown : Hown o0)
    (i4 : ((tSlice 9 tStr (by decide))).im w0 (L o0 0) p1.terms [v2])
    (i7 : ((tSlice 9 tStr (by decide))).im w0 (L o0 0) p1.names [v5])
    (i10 : ((tSlice 28 tyRule (by decide))).im w0 (L o0 0) p1.rules [v8])
    (i14 : ((tSlice 183 tyToken (by decide))).im w0 (L o0 0) p11.right [v12]) :
    Calls Try.prog 127 #[.agg #[v2, v5, v8], .agg #[.int .i64 p11.left.kind, .string p11.left.text, .int .i64 p11.left.at_, v12]] w0 (fun e w => ∃ (o534 : Own) (z536 : Value), e = .returned (.agg #[.int .i64 r.1, z536]) ∧ Row (tInt .i64) 3 w o534 50 z536 r.2 ∧ Tr (Ls o0 []) w0 o0 w o534) := by
 unfold grammar_numbered at h
 refine startM Try.func127 rfl Try.ntmps127 (show 2 ≤ 63 by decide) fun a M => ?_
 have M : MB 63 [] [(0, .agg #[v2, v5, v8]), (1, .agg #[.int .i64 p11.left.kind, .string p11.left.text, .int .i64 p11.left.at_, v12])] a := M
 obtain ⟨A15, c16, hzc16, -⟩ := im_form i4
 subst hzc16
 obtain ⟨A17, c18, hzc18, -⟩ := im_form i7
 subst hzc18
 obtain ⟨A19, c20, hzc20, -⟩ := im_form i10
 subst hzc20
 obtain ⟨A21, c22, hzc22, -⟩ := im_form i14
 subst hzc22
 have T0 : Tr (Ls o0 []) w0 o0 w0 o0 := Tr.refl _ _ _
 refine c_seq <| c_reg ?_
 obtain ⟨g23, w24, o25, r26, b27, t28⟩ := b_box (P := Try.prog) (T := 25) (M.e 0 rfl) w0 o0 100
 refine ov rfl rfl M (r26 _ _ _ _ _) fun a M => ?_
 obtain ⟨g29, w30, o31, r32, b33, t34⟩ := b_box (P := Try.prog) (T := 185) (M.e 2 rfl) w24 o25 101
 refine ov rfl rfl M (r32 _ _ _ _ _) fun a M => ?_
 obtain ⟨g35, w36, o37, r38, b39, t40⟩ := b_alloc zv_28 a w30 o31 102
 refine ov rfl rfl M (r38 _ _ _ _ _) fun a M => x_end rfl <| q_then <| c_seq ?_
 have u3 := iN (iN (iN i7 t28) t34) t40
 obtain ⟨r42, hr43, h⟩ := bind_some h
 have u5 := iN (iN (iN i4 t28) t34) t40
 have u6 := iN (iN (iN i7 t28) t34) t40
 have u7 := iN (iN (iN i10 t28) t34) t40
 have u8 := iN (iN (iN i14 t28) t34) t40
 have u10 := ((T0.kn t28).kn t34).kn t40
 refine draw_m mixed [0, 1, 3, 0, 8, 0, 32, 96, 248, 511, 1023, 0, 4095] (by kernel_rfl) rfl M (fun U a w => ∃ (o : Own) (g53 : Nat), Tab [(0, 9, .pointer (some ⟨g23, 0, none⟩)), (1, 10, .slice A15 p1.terms.length c16), (2, 11, .int .i64 (p1.terms.length : Int)), (3, 12, .pointer (some ⟨g23, 1, none⟩)), (4, 13, .slice A17 p1.names.length c18), (5, 14, .pointer (some ⟨g29, 0, none⟩)), (6, 15, .pointer (some ⟨g29, 1, none⟩)), (7, 16, .string p11.left.text), (8, 17, .int .i64 r42), (9, 18, .int .i64 (IntKind.wrap .i64 ((p1.terms.length : Int) + r42))), (10, 19, .agg #[.int .i64 (IntKind.wrap .i64 ((p1.terms.length : Int) + r42)), .slice none 0 0])] U a ∧ Tab [(11, 5, .pointer (some ⟨g53, 0, none⟩))] U a ∧ Tr (FL [(12, 103)] o37 U) w36 o37 w o ∧ (U 11 = true → U 12 = false → Box w o 103 g53 28 #[.int .i64 (0 : Int), .slice none 0 0]) ∧ (U 12 = true → Box w o 103 g53 28 #[.int .i64 (IntKind.wrap .i64 ((p1.terms.length : Int) + r42)), .slice none 0 0])) ?_ ⟨?_, ?_, ?_, ?_, ?_, ?_, ?_, ?_, ?_, ?_, ?_, ?_, ?_, trivial⟩ ?_
 ·exact ⟨o37, 0, Tab.start, Tab.start, FL.start (tr_drew _ _), fun h => Bool.noConfusion h, fun h => Bool.noConfusion h⟩
 ·intro U a w M hL hA hD hI
  obtain ⟨o, g53, TG0, TG1, tr, FE0, FE1⟩ := hI
  refine dv rfl rfl M (x_fieldAddr fa_25_0 (M.e 2 rfl) rfl) fun a' p => ?_
  exact ⟨M.st p rfl, o, g53, (TG0.step p 0 rfl rfl), (TG1.other p rfl), (FL.idle tr), FE0, FE1⟩
 ·intro U a w M hL hA hD hI
  obtain ⟨o, g53, TG0, TG1, tr, FE0, FE1⟩ := hI
  refine dv rfl rfl M (x_load ld_22 (e_tmp (TG0.get 0 rfl (hA 0 rfl))) ((((b27.kn t34).kn t40).keep_ (FL.same tr ⟨fun h => absurd h (ne rfl), trivial⟩)).cell (n := 0) rfl)) fun a' p => ?_
  exact ⟨M.st p rfl, o, g53, (TG0.step p 1 rfl rfl), (TG1.other p rfl), (FL.idle tr), FE0, FE1⟩
 ·intro U a w M hL hA hD hI
  obtain ⟨o, g53, TG0, TG1, tr, FE0, FE1⟩ := hI
  refine dv rfl rfl M (x_lenSlice Try.underlying22 (e_tmp (TG0.get 1 rfl (hA 1 rfl)))) fun a' p => ?_
  exact ⟨M.st p rfl, o, g53, (TG0.step p 2 rfl rfl), (TG1.other p rfl), (FL.idle tr), FE0, FE1⟩
 ·intro U a w M hL hA hD hI
  obtain ⟨o, g53, TG0, TG1, tr, FE0, FE1⟩ := hI
  refine dv rfl rfl M (x_fieldAddr fa_25_1 (M.e 2 rfl) rfl) fun a' p => ?_
  exact ⟨M.st p rfl, o, g53, (TG0.step p 3 rfl rfl), (TG1.other p rfl), (FL.idle tr), FE0, FE1⟩
 ·intro U a w M hL hA hD hI
  obtain ⟨o, g53, TG0, TG1, tr, FE0, FE1⟩ := hI
  refine dv rfl rfl M (x_load ld_22 (e_tmp (TG0.get 3 rfl (hA 3 rfl))) ((((b27.kn t34).kn t40).keep_ (FL.same tr ⟨fun h => absurd h (ne rfl), trivial⟩)).cell (n := 1) rfl)) fun a' p => ?_
  exact ⟨M.st p rfl, o, g53, (TG0.step p 4 rfl rfl), (TG1.other p rfl), (FL.idle tr), FE0, FE1⟩
 ·intro U a w M hL hA hD hI
  obtain ⟨o, g53, TG0, TG1, tr, FE0, FE1⟩ := hI
  refine dv rfl rfl M (x_fieldAddr fa_185_0 (M.e 1 rfl) rfl) fun a' p => ?_
  exact ⟨M.st p rfl, o, g53, (TG0.step p 5 rfl rfl), (TG1.other p rfl), (FL.idle tr), FE0, FE1⟩
 ·intro U a w M hL hA hD hI
  obtain ⟨o, g53, TG0, TG1, tr, FE0, FE1⟩ := hI
  refine dv rfl rfl M (x_fieldAddr fa_183_1 (e_tmp (TG0.get 5 rfl (hA 5 rfl))) rfl) fun a' p => ?_
  exact ⟨M.st p rfl, o, g53, (TG0.step p 6 rfl rfl), (TG1.other p rfl), (FL.idle tr), FE0, FE1⟩
 ·intro U a w M hL hA hD hI
  obtain ⟨o, g53, TG0, TG1, tr, FE0, FE1⟩ := hI
  refine dv rfl rfl M (x_load ld_9 (e_tmp (TG0.get 6 rfl (hA 6 rfl))) (((b33.kn t40).keep_ (FL.same tr ⟨fun h => absurd h (ne rfl), trivial⟩)).cell (n := 1) rfl)) fun a' p => ?_
  exact ⟨M.st p rfl, o, g53, (TG0.step p 7 rfl rfl), (TG1.other p rfl), (FL.idle tr), FE0, FE1⟩
 ·intro U a w M hL hA hD hI
  obtain ⟨o, g53, TG0, TG1, tr, FE0, FE1⟩ := hI
  refine dc rfl (wp0 rfl) rfl rfl M (x_call cf_166 (m2 (e_tmp (TG0.get 4 rfl (hA 4 rfl))) (e_tmp (TG0.get 7 rfl (hA 7 rfl))))) (slices_Index_1_calls hr43 (lko_own (T := [(0, 0)]) (o := o) rfl) (sL (Ty.loc _ (FL.same tr ⟨fun h => absurd h (ne rfl), trivial⟩) u6) rfl)) (fun e9 w44 hp45 => ?_)
  obtain ⟨o46, he47, T48⟩ := hp45
  obtain ⟨o49, ho50⟩ := ex (mrg w o [(0, 0)] o46)
  have t51 := T48.r0 ho50
  refine ⟨_, he47, fun a' p => ?_⟩
  exact ⟨M.st p rfl, o49, g53, (TG0.step p 8 rfl rfl), (TG1.other p rfl), (FL.stepNo tr t51), (fun h0 h1 => (FE0 h0 h1).keep_ (t51.sameNo)), (fun h => ab (hD 12 rfl) rfl h)⟩
 ·intro U a w M hL hA hD hI
  obtain ⟨o, g53, TG0, TG1, tr, FE0, FE1⟩ := hI
  refine dv rfl rfl M (x_add (e_tmp (TG0.get 2 rfl (hA 2 rfl))) (e_tmp (TG0.get 8 rfl (hA 8 rfl)))) fun a' p => ?_
  exact ⟨M.st p rfl, o, g53, (TG0.step p 9 rfl rfl), (TG1.other p rfl), (FL.idle tr), FE0, FE1⟩
 ·intro U a w M hL hA hD hI
  obtain ⟨o, g53, TG0, TG1, tr, FE0, FE1⟩ := hI
  have hb52 : ∀ w : World, (Instr.build 28 #[(0, .int .i64 (IntKind.wrap .i64 ((p1.terms.length : Int) + r42)))]).run Try.prog w = .ok (.agg #[.int .i64 (IntKind.wrap .i64 ((p1.terms.length : Int) + r42)), .slice none 0 0]) w := fun w => by go_simp
  refine dv rfl rfl M (x_build (l1 (e_tmp (TG0.get 9 rfl (hA 9 rfl)))) hb52) fun a' p => ?_
  exact ⟨M.st p rfl, o, g53, (TG0.step p 10 rfl rfl), (TG1.other p rfl), (FL.idle tr), FE0, FE1⟩
 ·intro U a w M hL hA hD hI
  obtain ⟨o, g53, TG0, TG1, tr, FE0, FE1⟩ := hI
  obtain ⟨g53, w54, o55, r56, b57, t58⟩ := b_alloc zv_28 a w o 103
  refine dv rfl rfl M (r56 _ _ _ _ _) fun a' p => ?_
  exact ⟨M.st p rfl, o55, g53, (TG0.other p rfl), (Tab.mk hD p 0 rfl rfl), (FL.stepNo tr t58), (fun _ _ => b57), (fun h => ab (hD 12 rfl) rfl h)⟩
 ·intro U a w M hL hA hD hI
  obtain ⟨o, g53, TG0, TG1, tr, FE0, FE1⟩ := hI
  obtain ⟨w59, r60, b61, t62⟩ := b_storeN (P := Try.prog) (all' := #[.int .i64 (IntKind.wrap .i64 ((p1.terms.length : Int) + r42)), .slice none 0 0]) (.inr trivial) (stn_28 _ rfl) (e_tmp (TG1.get 0 rfl (hA 11 rfl))) (e_tmp (TG0.get 10 rfl (hA 10 rfl))) (FE0 (hA 11 rfl) hL) (show 2 ≤ 2 by decide) (by simp [Value.oneCell']) rfl
  have b61 : Box w59 o 103 g53 28 #[.int .i64 (IntKind.wrap .i64 ((p1.terms.length : Int) + r42)), .slice none 0 0] := b61
  refine o_skip rfl (wp0 rfl) rfl (r60 _ _ _ _ _) ?_
  exact ⟨M, o, g53, (TG0.idle rfl), (TG1.idle rfl), (FL.stk tr t62 rfl), (fun _ h => Bool.noConfusion h), (fun _ => b61)⟩
 intro U a w63 M hA hI
 obtain ⟨o64, g53, TG0, TG1, tr, FE0, FE1⟩ := hI
 have M := M.ad (TG1.get 0 rfl (hA 11 rfl))
 have q65 := (((b27.kn t34).kn t40).keep_ (FL.same tr ⟨fun h => absurd h (ne rfl), trivial⟩))
 have q66 := ((b33.kn t40).keep_ (FL.same tr ⟨fun h => absurd h (ne rfl), trivial⟩))
 have q67 := (b39.keep_ (FL.same tr ⟨fun h => absurd h (ne rfl), trivial⟩))
 have q68 := (FE1 (hA 12 rfl))
 have i69 := (Ty.loc _ (FL.same tr ⟨fun h => absurd h (ne rfl), trivial⟩) u5)
 have i70 := (Ty.loc _ (FL.same tr ⟨fun h => absurd h (ne rfl), trivial⟩) u6)
 have i71 := (Ty.loc _ (FL.same tr ⟨fun h => absurd h (ne rfl), trivial⟩) u7)
 have i72 := (Ty.loc _ (FL.same tr ⟨fun h => absurd h (ne rfl), trivial⟩) u8)
 have T73 := Tr.kf u10 tr hown rfl
 clear hA TG0 TG1 tr FE0 FE1
 refine q_then <| c_seq <| c_seq <| c_reg <| pn (j := 1) E 1 M rfl rfl fun a M => ov rfl rfl M (x_load ld_175 (M.e 0 rfl) (q66.cell (n := 3) rfl)) fun a M => pn (j := 4) E 2 M rfl rfl fun a M => x_end rfl <| q_then <| wp_block ?_
 obtain ⟨x513, hx514, h⟩ := bind_some h
 refine loop_iter (S := (Int × (List Int))) (X := (List Int)) (fun (s : (Int × (List Int))) => grammar_numbered_b0 k p1 p11 s.1 s.2) (fun (s : (Int × (List Int))) (a : Act) (w : World) => ∃ (o365 : Own) (z216 : Value), MB 63 [] [(2, .pointer (some ⟨g23, 0, none⟩)), (4, .pointer (some ⟨g35, 0, none⟩)), (5, .pointer (some ⟨g53, 0, none⟩)), (21, .slice A21 p11.right.length c22), (22, .int .i64 (p11.right.length : Int)), (23, .int .i64 s.1)] a ∧ Box w o365 100 g23 25 #[.slice A15 p1.terms.length c16, .slice A17 p1.names.length c18, .slice A19 p1.rules.length c20] ∧ Box w o365 102 g35 28 #[.int .i64 (0 : Int), .slice none 0 0] ∧ Box w o365 103 g53 28 #[.int .i64 (IntKind.wrap .i64 ((p1.terms.length : Int) + r42)), z216] ∧ Row (tInt .i64) 3 w o365 105 z216 s.2 ∧ ((tSlice 183 tyToken (by decide))).im w (L o365 0) p11.right [.slice A21 p11.right.length c22] ∧ ((tSlice 9 tStr (by decide))).im w (L o365 0) p1.terms [.slice A15 p1.terms.length c16] ∧ ((tSlice 9 tStr (by decide))).im w (L o365 0) p1.names [.slice A17 p1.names.length c18] ∧ ((tSlice 28 tyRule (by decide))).im w (L o365 0) p1.rules [.slice A19 p1.rules.length c20] ∧ Tr (Ls o0 []) w0 o0 w o365) (fun (x : (List Int)) (e : Exit) (a : Act) (w : World) => (e = .exit 0 ∧ ∃ (o366 : Own) (z364 : Value), MB 63 [] [(4, .pointer (some ⟨g35, 0, none⟩)), (5, .pointer (some ⟨g53, 0, none⟩))] a ∧ Box w o366 102 g35 28 #[.int .i64 (0 : Int), .slice none 0 0] ∧ Box w o366 103 g53 28 #[.int .i64 (IntKind.wrap .i64 ((p1.terms.length : Int) + r42)), z364] ∧ Row (tInt .i64) 3 w o366 105 z364 x ∧ Tr (Ls o0 []) w0 o0 w o366)) ?_ hx514 ⟨o64, (.slice none 0 0), (M.pk [7, 5, 4, 2, 1, 0] rfl), q65, q67, q68, (Row.nil (tInt .i64) 3 w63 o64 105), i72, i69, i70, i71, T73⟩ ?_
 ·rintro ⟨y214, y215⟩ a w367 r368 hI369 h
  replace h : grammar_numbered_b0 k p1 p11 y214 y215 = some r368 := h
  unfold grammar_numbered_b0 at h
  obtain ⟨o370, z216, M, q371, q372, q373, q374, i375, i376, i377, i378, T379⟩ := hI369
  obtain ⟨A380, c381, hzc381, -⟩ := q374.form
  subst hzc381
  refine c_seq <| c_reg <| pn (j := 1) E 1 M rfl rfl fun a M => x_end rfl <| q_then <| c_seq ?_
  by_cases hk47 : (decide (y214 < (p11.right.length : Int))) = true
  ·rw [if_pos hk47] at h
   have M := M.k 24 rfl hk47
   refine c_true (M.e 0 rfl) <| wp_skip <| q_then <| c_seq <| wp_block <| c_seq <| c_reg ?_
   obtain ⟨x382, hx383, h⟩ := bind_some h
   obtain ⟨hx3830, hx3831, hx3832⟩ := at_some hx383
   obtain ⟨g384, f385, c386, ds387, hv388, hd389, he390⟩ := im_elem i375 hx3831
   have hsds387 := Token_open hd389
   subst hsds387
   have he390 : ElemAt w367 o370 0 g384 f385 (y214).toNat 3 [.int .i64 x382.kind, .string x382.text, .int .i64 x382.at_] := he390
   refine ov rfl rfl M (x_indexAddr Try.underlying175 sz_183 ((M.e 4 rfl).trans hv388) (M.e 6 rfl) hx3830 hx3832) fun a M => ov rfl rfl M (x_loadN (ldn_183 _ rfl) (M.e 0 rfl) he390.all) fun a M => ?_
   obtain ⟨g392, w393, o394, r395, b396, t397⟩ := b_alloc zv_183 a w367 o370 101
   refine ov rfl rfl M (r395 _ _ _ _ _) fun a M => ?_
   obtain ⟨w398, r399, b400, t401⟩ := b_storeN (P := Try.prog) (all' := #[.int .i64 x382.kind, .string x382.text, .int .i64 x382.at_]) (.inr trivial) (stn_183 _ rfl) (M.e 0 rfl) (M.e 1 rfl) b396 (show 3 ≤ 3 by decide) (by simp [Value.oneCell']) rfl
   have b400 : Box w398 o394 101 g392 183 #[.int .i64 x382.kind, .string x382.text, .int .i64 x382.at_] := b400
   refine os rfl (wp0 rfl) rfl (r399 _ _ _ _ _) <| x_end rfl <| q_then <| c_seq <| c_seq <| c_reg <| pn (j := 1) E 1 M rfl rfl fun a M => ov rfl rfl M (x_load ld_3 (M.e 0 rfl) (b400.cell (n := 0) rfl)) fun a M => pn (j := 3) E 1 M rfl rfl fun a M => x_end rfl <| q_then ?_
   by_cases hk53 : (x382.kind == (2 : Int)) = true
   ·rw [if_pos hk53] at h
    have M := M.k 29 rfl hk53
    refine c_true (M.e 0 rfl) <| c_seq ?_
    obtain ⟨r444, hr445, h⟩ := bind_some h
    obtain ⟨hc460, h⟩ := ifs h
    have u57 := (T379.kn t397).kk t401 hown rfl
    refine draw_m mixed [0, 1, 0, 4, 0, 16, 60, 124, 255, 511, 1023] (by kernel_rfl) rfl M (fun U a w => ∃ (o : Own) (g459 : Nat) (A467 : Option Addr) (c468 : Nat), Tab [(0, 30, .pointer (some ⟨g53, 1, none⟩)), (1, 31, .slice A380 y215.length c381), (2, 32, .pointer (some ⟨g23, 0, none⟩)), (3, 33, .slice A15 p1.terms.length c16), (4, 34, .pointer (some ⟨g392, 1, none⟩)), (5, 35, .string x382.text), (6, 36, .int .i64 r444), (9, 39, .pointer (some ⟨g53, 1, none⟩))] U a ∧ Tab [(7, 37, .slice (some ⟨g459, 0, none⟩) 1 1)] U a ∧ Tab [(8, 38, .slice A467 (y215 ++ [r444]).length c468)] U a ∧ Tr (FL [(8, 105), (10, 103)] o394 U) w398 o394 w o ∧ (U 7 = true → Row (tInt .i64) 3 w o 104 (.slice (some ⟨g459, 0, none⟩) 1 1) [r444]) ∧ (U 8 = true → Row (tInt .i64) 3 w o 105 (.slice A467 (y215 ++ [r444]).length c468) (y215 ++ [r444])) ∧ (U 10 = true → Box w o 103 g53 28 #[.int .i64 (IntKind.wrap .i64 ((p1.terms.length : Int) + r42)), .slice A467 (y215 ++ [r444]).length c468])) ?_ ⟨?_, ?_, ?_, ?_, ?_, ?_, ?_, ?_, ?_, ?_, ?_, trivial⟩ ?_
    ·exact ⟨o394, 0, none, 0, Tab.start, Tab.start, Tab.start, FL.start (tr_drew _ _), fun h => Bool.noConfusion h, fun h => Bool.noConfusion h, fun h => Bool.noConfusion h⟩
    ·intro U a w M hL hA hD hI
     obtain ⟨o, g459, A467, c468, TG0, TG1, TG2, tr, FE0, FE1, FE2⟩ := hI
     refine dv rfl rfl M (x_fieldAddr fa_28_1 (M.e 9 rfl) rfl) fun a' p => ?_
     exact ⟨M.st p rfl, o, g459, A467, c468, (TG0.step p 0 rfl rfl), (TG1.other p rfl), (TG2.other p rfl), (FL.idle tr), FE0, FE1, FE2⟩
    ·intro U a w M hL hA hD hI
     obtain ⟨o, g459, A467, c468, TG0, TG1, TG2, tr, FE0, FE1, FE2⟩ := hI
     refine dv rfl rfl M (x_load ld_26 (e_tmp (TG0.get 0 rfl (hA 0 rfl))) ((((q373.kn t397).kk t401 rfl).keep_ (FL.same tr ⟨fun h => absurd h (ne rfl), ⟨fun _ => (hD 10 rfl), trivial⟩⟩)).cell (n := 1) rfl)) fun a' p => ?_
     exact ⟨M.st p rfl, o, g459, A467, c468, (TG0.step p 1 rfl rfl), (TG1.other p rfl), (TG2.other p rfl), (FL.idle tr), FE0, FE1, FE2⟩
    ·intro U a w M hL hA hD hI
     obtain ⟨o, g459, A467, c468, TG0, TG1, TG2, tr, FE0, FE1, FE2⟩ := hI
     refine dv rfl rfl M (x_fieldAddr fa_25_0 (M.e 7 rfl) rfl) fun a' p => ?_
     exact ⟨M.st p rfl, o, g459, A467, c468, (TG0.step p 2 rfl rfl), (TG1.other p rfl), (TG2.other p rfl), (FL.idle tr), FE0, FE1, FE2⟩
    ·intro U a w M hL hA hD hI
     obtain ⟨o, g459, A467, c468, TG0, TG1, TG2, tr, FE0, FE1, FE2⟩ := hI
     refine dv rfl rfl M (x_load ld_22 (e_tmp (TG0.get 2 rfl (hA 2 rfl))) ((((q371.kn t397).kk t401 rfl).keep_ (FL.same tr ⟨fun h => absurd h (ne rfl), ⟨fun h => absurd h (ne rfl), trivial⟩⟩)).cell (n := 0) rfl)) fun a' p => ?_
     exact ⟨M.st p rfl, o, g459, A467, c468, (TG0.step p 3 rfl rfl), (TG1.other p rfl), (TG2.other p rfl), (FL.idle tr), FE0, FE1, FE2⟩
    ·intro U a w M hL hA hD hI
     obtain ⟨o, g459, A467, c468, TG0, TG1, TG2, tr, FE0, FE1, FE2⟩ := hI
     refine dv rfl rfl M (x_fieldAddr fa_183_1 (M.e 3 rfl) rfl) fun a' p => ?_
     exact ⟨M.st p rfl, o, g459, A467, c468, (TG0.step p 4 rfl rfl), (TG1.other p rfl), (TG2.other p rfl), (FL.idle tr), FE0, FE1, FE2⟩
    ·intro U a w M hL hA hD hI
     obtain ⟨o, g459, A467, c468, TG0, TG1, TG2, tr, FE0, FE1, FE2⟩ := hI
     refine dv rfl rfl M (x_load ld_9 (e_tmp (TG0.get 4 rfl (hA 4 rfl))) ((b400.keep_ (FL.same tr ⟨fun h => absurd h (ne rfl), ⟨fun h => absurd h (ne rfl), trivial⟩⟩)).cell (n := 1) rfl)) fun a' p => ?_
     exact ⟨M.st p rfl, o, g459, A467, c468, (TG0.step p 5 rfl rfl), (TG1.other p rfl), (TG2.other p rfl), (FL.idle tr), FE0, FE1, FE2⟩
    ·intro U a w M hL hA hD hI
     obtain ⟨o, g459, A467, c468, TG0, TG1, TG2, tr, FE0, FE1, FE2⟩ := hI
     refine dc rfl (wp0 rfl) rfl rfl M (x_call cf_166 (m2 (e_tmp (TG0.get 3 rfl (hA 3 rfl))) (e_tmp (TG0.get 5 rfl (hA 5 rfl))))) (slices_Index_1_calls hr445 (lko_own (T := [(0, 0)]) (o := o) rfl) (sL (Ty.loc _ (FL.same tr ⟨fun h => absurd h (ne rfl), ⟨fun h => absurd h (ne rfl), trivial⟩⟩) (iK (iN i376 t397) t401 rfl)) rfl)) (fun e56 w446 hp447 => ?_)
     obtain ⟨o448, he449, T450⟩ := hp447
     obtain ⟨o451, ho452⟩ := ex (mrg w o [(0, 0)] o448)
     have t453 := T450.r0 ho452
     refine ⟨_, he449, fun a' p => ?_⟩
     exact ⟨M.st p rfl, o451, g459, A467, c468, (TG0.step p 6 rfl rfl), (TG1.other p rfl), (TG2.other p rfl), (FL.stepNo tr t453), (fun h => ab (hD 7 rfl) rfl h), (fun h => ab (hD 8 rfl) rfl h), (fun h => ab (hD 10 rfl) rfl h)⟩
    ·intro U a w M hL hA hD hI
     obtain ⟨o, g459, A467, c468, TG0, TG1, TG2, tr, FE0, FE1, FE2⟩ := hI
     have r456 : (Instr.buildSlice 26 1 #[(0, .int .i64 r444)]).run Try.prog w = .ok (.slice (some ⟨w.heap.size, 0, none⟩) 1 1) (w.alloc (.cells ([.int .i64 r444] : List Value).toArray 3)) := by go_simp
     obtain ⟨b457, t458⟩ := Row.lit (E := (tInt .i64)) (e := 3) (l := [r444]) (by decide) w o 104 (cs := [.int .i64 r444]) ⟨[.int .i64 r444], _, rfl, rfl, rfl⟩ (by simp)
     generalize hww454 : w.alloc _ = w454 at r456 b457 t458
     generalize upd o _ 104 = o455 at b457 t458
     generalize hgg459 : w.heap.size = g459 at r456 b457
     clear hww454 hgg459
     refine dv rfl rfl M (x_buildSlice (l1 (e_tmp (TG0.get 6 rfl (hA 6 rfl)))) r456) fun a' p => ?_
     exact ⟨M.st p rfl, o455, g459, A467, c468, (TG0.other p rfl), (Tab.mk hD p 0 rfl rfl), (TG2.other p rfl), (FL.stepNo tr t458), (fun _ => b457), (fun h => ab (hD 8 rfl) rfl h), (fun h => ab (hD 10 rfl) rfl h)⟩
    ·intro U a w M hL hA hD hI
     obtain ⟨o, g459, A467, c468, TG0, TG1, TG2, tr, FE0, FE1, FE2⟩ := hI
     obtain ⟨v461, w462, o463, r464, b465, t466⟩ := run_append el_3 Try.underlying26 26 (((q374.kn t397).kk t401 rfl rfl).keep_ (FL.same tr ⟨fun _ => hL, ⟨fun h => absurd h (ne rfl), trivial⟩⟩) (FL.same tr ⟨fun h => absurd h (ne rfl), ⟨fun h => absurd h (ne rfl), trivial⟩⟩)) (by decide) (Src.row (FE0 (hA 7 rfl))) hc460
     obtain ⟨A467, c468, rfl, -⟩ := b465.form
     refine dv rfl rfl M (x_append (e_tmp (TG0.get 1 rfl (hA 1 rfl))) (e_tmp (TG1.get 0 rfl (hA 7 rfl))) r464) fun a' p => ?_
     exact ⟨M.st p rfl, o463, g459, A467, c468, (TG0.other p rfl), (TG1.other p rfl), (Tab.mk hD p 0 rfl rfl), (FL.stk tr t466 rfl), (fun h0 => (FE0 h0).keep_ (t466.sameK (ne rfl)) (t466.sameK (ne rfl))), (fun _ => b465), (fun h => ab (hD 10 rfl) rfl h)⟩
    ·intro U a w M hL hA hD hI
     obtain ⟨o, g459, A467, c468, TG0, TG1, TG2, tr, FE0, FE1, FE2⟩ := hI
     refine dv rfl rfl M (x_fieldAddr fa_28_1 (M.e 9 rfl) rfl) fun a' p => ?_
     exact ⟨M.st p rfl, o, g459, A467, c468, (TG0.step p 7 rfl rfl), (TG1.other p rfl), (TG2.other p rfl), (FL.idle tr), FE0, FE1, FE2⟩
    ·intro U a w M hL hA hD hI
     obtain ⟨o, g459, A467, c468, TG0, TG1, TG2, tr, FE0, FE1, FE2⟩ := hI
     obtain ⟨w469, r470, b471, t472⟩ := b_store (P := Try.prog) st_26 (e_tmp (TG0.get 7 rfl (hA 9 rfl))) (e_tmp (TG2.get 0 rfl (hA 8 rfl))) (((q373.kn t397).kk t401 rfl).keep_ (FL.same tr ⟨fun h => absurd h (ne rfl), ⟨fun _ => hL, trivial⟩⟩)) (show 1 < 2 by decide) rfl rfl
     have b471 : Box w469 o 103 g53 28 #[.int .i64 (IntKind.wrap .i64 ((p1.terms.length : Int) + r42)), .slice A467 (y215 ++ [r444]).length c468] := b471
     refine o_skip rfl (wp0 rfl) rfl (r470 _ _ _ _ _) ?_
     exact ⟨M, o, g459, A467, c468, (TG0.idle rfl), (TG1.idle rfl), (TG2.idle rfl), (FL.stk tr t472 rfl), (fun h0 => (FE0 h0).keep_ (t472.sameK (ne rfl)) (t472.sameK (ne rfl))), (fun h0 => (FE1 h0).keep_ (t472.sameK (ne rfl)) (t472.sameK (ne rfl))), (fun _ => b471)⟩
    intro U a w473 M hA hI
    obtain ⟨o474, g459, A467, c468, TG0, TG1, TG2, tr, FE0, FE1, FE2⟩ := hI
    have q475 := (((q371.kn t397).kk t401 rfl).keep_ (FL.same tr ⟨fun h => absurd h (ne rfl), ⟨fun h => absurd h (ne rfl), trivial⟩⟩))
    have q476 := (((q372.kn t397).kk t401 rfl).keep_ (FL.same tr ⟨fun h => absurd h (ne rfl), ⟨fun h => absurd h (ne rfl), trivial⟩⟩))
    have q477 := (FE2 (hA 10 rfl))
    have q478 := (FE1 (hA 8 rfl))
    have i479 := (Ty.loc _ (FL.same tr ⟨fun h => absurd h (ne rfl), ⟨fun h => absurd h (ne rfl), trivial⟩⟩) (iK (iN i375 t397) t401 rfl))
    have i480 := (Ty.loc _ (FL.same tr ⟨fun h => absurd h (ne rfl), ⟨fun h => absurd h (ne rfl), trivial⟩⟩) (iK (iN i376 t397) t401 rfl))
    have i481 := (Ty.loc _ (FL.same tr ⟨fun h => absurd h (ne rfl), ⟨fun h => absurd h (ne rfl), trivial⟩⟩) (iK (iN i377 t397) t401 rfl))
    have i482 := (Ty.loc _ (FL.same tr ⟨fun h => absurd h (ne rfl), ⟨fun h => absurd h (ne rfl), trivial⟩⟩) (iK (iN i378 t397) t401 rfl))
    have T483 := Tr.kf u57 tr hown rfl
    clear hA TG0 TG1 TG2 tr FE0 FE1 FE2
    refine q_then <| wp_exit <| q_then_exit <| q_blk_here <| q_then <| c_reg <| pn (j := 1) E 1 M rfl rfl fun a M => ?_
    have M := M.pk [0, 8, 9, 10, 11, 12] rfl
    refine pn (j := 2) E 1 M rfl rfl fun a M => x_end rfl ?_
    obtain rfl := sj h
    exact lq_next ⟨o474, (.slice A467 (y215 ++ [r444]).length c468), (M.pk [2, 3, 4, 5, 6, 0] rfl), q475, q476, q477, q478, i479, i480, i481, i482, T483⟩
   rw [if_neg hk53] at h
   have hk53 := nott hk53
   have M := M.k 29 rfl hk53
   refine c_false (M.e 0 rfl) <| wp_skip <| q_then <| c_seq <| c_reg <| pn (j := 1) E 1 M rfl rfl fun a M => ov rfl rfl M (x_load ld_22 (M.e 0 rfl) (((q371.kn t397).kk t401 rfl).cell (n := 1) rfl)) fun a M => pn (j := 3) E 1 M rfl rfl fun a M => ov rfl rfl M (x_load ld_9 (M.e 0 rfl) (b400.cell (n := 1) rfl)) fun a M => ?_
   obtain ⟨r484, hr485, h⟩ := bind_some h
   refine oc rfl (wp0 rfl) rfl rfl M (x_call cf_166 (m2 (M.e 2 rfl) (M.e 0 rfl))) (slices_Index_1_calls hr485 (lko_own (T := [(0, 0)]) (o := o394) rfl) (sL (iK (iN i377 t397) t401 rfl) rfl)) (fun e58 w486 hp487 => ?_)
   obtain ⟨o488, he489, T490⟩ := hp487
   obtain ⟨o491, ho492⟩ := ex (mrg w398 o394 [(0, 0)] o488)
   have t493 := T490.r0 ho492
   refine ⟨_, he489, fun a M => ?_⟩
   refine pn (j := 6) E 1 M rfl rfl fun a M => x_end rfl <| q_then <| c_seq <| c_seq <| c_reg <| pn (j := 2) E 2 M rfl rfl fun a M => x_end rfl <| q_then ?_
   by_cases hk60 : (decide (r484 < (0 : Int))) = true
   ·rw [if_pos hk60] at h
    have M := M.k 46 rfl hk60
    refine c_true (M.e 0 rfl) ?_
    exact absurd h (by simp)
   rw [if_neg hk60] at h
   have hk60 := nott hk60
   have M := M.k 46 rfl hk60
   refine c_false (M.e 0 rfl) <| wp_skip <| q_then <| c_reg <| pn (j := 1) E 1 M rfl rfl fun a M => ?_
   have u61 := ((q373.kn t397).kk t401 rfl).kn t493
   refine ov rfl rfl M (x_load ld_26 (M.e 0 rfl) (u61.cell (n := 1) rfl)) fun a M => pn (j := 3) E 1 M rfl rfl fun a M => ?_
   have u62 := ((q371.kn t397).kk t401 rfl).kn t493
   refine ov rfl rfl M (x_load ld_22 (M.e 0 rfl) (u62.cell (n := 0) rfl)) fun a M => pn (j := 7) E 3 M rfl rfl fun a M => ?_
   have r496 : (Instr.buildSlice 26 1 #[(0, .int .i64 (IntKind.wrap .i64 ((p1.terms.length : Int) + r484)))]).run Try.prog w486 = .ok (.slice (some ⟨w486.heap.size, 0, none⟩) 1 1) (w486.alloc (.cells ([.int .i64 (IntKind.wrap .i64 ((p1.terms.length : Int) + r484))] : List Value).toArray 3)) := by go_simp
   obtain ⟨b497, t498⟩ := Row.lit (E := (tInt .i64)) (e := 3) (l := [IntKind.wrap .i64 ((p1.terms.length : Int) + r484)]) (by decide) w486 o491 101 (cs := [.int .i64 (IntKind.wrap .i64 ((p1.terms.length : Int) + r484))]) ⟨[.int .i64 (IntKind.wrap .i64 ((p1.terms.length : Int) + r484))], _, rfl, rfl, rfl⟩ (by simp)
   generalize hww494 : w486.alloc _ = w494 at r496 b497 t498
   generalize upd o491 _ 101 = o495 at b497 t498
   generalize hgg499 : w486.heap.size = g499 at r496 b497
   clear hww494 hgg499
   refine ov rfl rfl M (x_buildSlice (l1 (M.e 0 rfl)) r496) fun a M => ?_
   obtain ⟨hc500, h⟩ := ifs h
   have u63 := (((q374.kn t397).kk t401 rfl rfl).kn t493).kn t498
   obtain ⟨v501, w502, o503, r504, b505, t506⟩ := run_append el_3 Try.underlying26 26 u63 (by decide) (Src.row b497) hc500
   obtain ⟨A507, c508, rfl, -⟩ := b505.form
   refine ov rfl rfl M (x_append (M.e 6 rfl) (M.e 0 rfl) r504) fun a M => pn (j := 10) E 1 M rfl rfl fun a M => ?_
   obtain ⟨w509, r510, b511, t512⟩ := b_store (P := Try.prog) st_26 (M.e 0 rfl) (M.e 1 rfl) ((u61.kn t498).kk t506 rfl) (show 1 < 2 by decide) rfl rfl
   have b511 : Box w509 o503 103 g53 28 #[.int .i64 (IntKind.wrap .i64 ((p1.terms.length : Int) + r42)), .slice A507 (y215 ++ [IntKind.wrap .i64 ((p1.terms.length : Int) + r484)]).length c508] := b511
   refine os rfl (wp0 rfl) rfl (r510 _ _ _ _ _) <| x_end rfl <| q_blk <| q_then <| c_reg <| pn (j := 1) E 1 M rfl rfl fun a M => ?_
   have M := M.pk [0, 26, 27, 28, 29, 30] rfl
   refine pn (j := 2) E 1 M rfl rfl fun a M => x_end rfl ?_
   obtain rfl := sj h
   have u64 := iK (iK (iN (iN (iK (iN i375 t397) t401 rfl) t493) t498) t506 rfl) t512 rfl
   have u65 := iK (iK (iN (iN (iK (iN i376 t397) t401 rfl) t493) t498) t506 rfl) t512 rfl
   have u66 := iK (iK (iN (iN (iK (iN i377 t397) t401 rfl) t493) t498) t506 rfl) t512 rfl
   have u67 := iK (iK (iN (iN (iK (iN i378 t397) t401 rfl) t493) t498) t506 rfl) t512 rfl
   have u68 := ((u62.kn t498).kk t506 rfl).kk t512 rfl
   have u69 := (((((q372.kn t397).kk t401 rfl).kn t493).kn t498).kk t506 rfl).kk t512 rfl
   have u70 := (((((T379.kn t397).kk t401 hown rfl).kn t493).kn t498).kk t506 hown rfl).kk t512 hown rfl
   exact lq_next ⟨o503, (.slice A507 (y215 ++ [IntKind.wrap .i64 ((p1.terms.length : Int) + r484)]).length c508), (M.pk [2, 3, 4, 5, 6, 0] rfl), u68, u69, b511, (b505.kk t512 rfl rfl), u64, u65, u66, u67, u70⟩
  rw [if_neg hk47] at h
  have hk47 := nott hk47
  have M := M.k 24 rfl hk47
  refine c_false (M.e 0 rfl) <| wp_exit <| q_then_exit ?_
  obtain rfl := sj h
  exact lq_exit ⟨rfl, ⟨o370, (.slice A380 y215.length c381), (M.pk [2, 3] rfl), q372, q373, q374, T379⟩⟩
 intro e71 a w515 hO516
 obtain ⟨he517, hO516⟩ := hO516
 subst he517
 obtain ⟨o518, z364, M, q519, q520, q521, T522⟩ := hO516
 obtain ⟨A523, c524, hzc524, -⟩ := q521.form
 subst hzc524
 refine q_blk_here <| q_then <| c_seq <| c_reg <| ov rfl rfl M (x_loadN (ldn_28 _ rfl) (M.e 1 rfl) (q520.sub (cs := #[.int .i64 (IntKind.wrap .i64 ((p1.terms.length : Int) + r42)), .slice A523 x513.length c524]) 0 rfl)) fun a M => ?_
 obtain ⟨w525, r526, b527, t528⟩ := b_storeN (P := Try.prog) (all' := #[.int .i64 (IntKind.wrap .i64 ((p1.terms.length : Int) + r42)), .slice A523 x513.length c524]) (.inr trivial) (stn_28 _ rfl) (M.e 1 rfl) (M.e 0 rfl) q519 (show 2 ≤ 2 by decide) (by simp [Value.oneCell']) rfl
 have b527 : Box w525 o518 102 g35 28 #[.int .i64 (IntKind.wrap .i64 ((p1.terms.length : Int) + r42)), .slice A523 x513.length c524] := b527
 refine os rfl (wp0 rfl) rfl (r526 _ _ _ _ _) <| x_end rfl <| q_then <| wp_ret ?_
 have u72 := q521.kk t528 rfl rfl
 have u73 := T522.kk t528 hown rfl
 obtain ⟨o529, ho530⟩ := ex (lro [(105, 50)] o518)
 have T531 := u73.kw hown ho530 rfl
 have q532 := b527.kw ho530 102 rfl
 have q533 := u72.kw ho530 50 rfl rfl
 obtain rfl := sj h
 exact ⟨M.f.defers, _, (res1 Try.results127 (rv_cellN (ldn_28 _ rfl) (M.t 1 rfl) (q532.sub (cs := #[.int .i64 (IntKind.wrap .i64 ((p1.terms.length : Int) + r42)), .slice A523 x513.length c524]) 0 rfl))), ⟨o529, (.slice A523 x513.length c524), rfl, q533, T531⟩⟩
end Go.Proofs.Ythilemcdhkfhlaa
namespace Go.Proofs.Ythilemcdhkfhlaa
open Go Go.RowKit Go.Gc Go.Proofs
def lex_skipped_1 (k : Nat) (p1 : Int) : Option Unit :=
  some ()
theorem lex_skipped_1_calls {k : Nat} {p1 : Int} {r : Unit} (h : lex_skipped_1 k p1 = some r) {w0 : World} {o0 : Own} (hown : Hown o0) :
    Calls Try.prog 186 #[.int .u8 p1] w0 (fun e w => ∃ (o2 : Own), e = .returned (.bool (p1 != (10 : Int))) ∧ Tr (Ls o0 []) w0 o0 w o2) := by
 unfold lex_skipped_1 at h
 refine startM Try.func186 rfl Try.ntmps186 (show 1 ≤ 5 by decide) fun a M => ?_
 have M : MB 5 [] [(0, .int .u8 p1)] a := M
 have T0 : Tr (Ls o0 []) w0 o0 w0 o0 := Tr.refl _ _ _
 refine c_seq <| c_reg <| pn (j := 1) E 1 M rfl rfl fun a M => x_end rfl <| q_then <| c_seq <| c_reg <| pn (j := 2) E 2 M rfl rfl fun a M => ?_
 have M := M.pk [0, 1, 3] rfl
 refine pn (j := 3) E 1 M rfl rfl fun a M => x_end rfl <| q_then <| wp_ret ?_
 obtain rfl := sj h
 exact ⟨M.f.defers, _, (res1 Try.results186 (rv_tmp (M.t 0 rfl))), ⟨o0, rfl, T0⟩⟩
end Go.Proofs.Ythilemcdhkfhlaa
namespace Go.Proofs.Ythilemcdhkfhlaa
open Go Go.RowKit Go.Gc Go.Proofs
def lex_run_b0 (k : Nat) (p1 : ByteArray) (y16 : Int) : Option (Int ⊕ Int) :=
  if (decide (y16 < (p1.size : Int))) = true then ((at? p1.data.toList y16).bind fun x40 => (lex_skipped_1 k (x40.toNat : Int)).bind fun r42 => if ((x40.toNat : Int) != (10 : Int)) = true then (some (.inl (IntKind.wrap .i64 (y16 + (1 : Int))))) else (some (.inr y16))) else (some (.inr y16))
def lex_run (k : Nat) (p1 : ByteArray) : Option Int :=
  (iter (fun (s : Int) => lex_run_b0 k p1 s) k (0 : Int)).bind fun x52 => some x52
theorem lex_run_calls {k : Nat} {p1 : ByteArray} {r : Int} (h : lex_run k p1 = some r) {w0 : World} {o0 : Own} (hown : Hown o0) :
    Calls Try.prog 171 #[.string p1, .func (.func 186) #[] #[]] w0 (fun e w => ∃ (o59 : Own), e = .returned (.int .i64 r) ∧ Tr (Ls o0 []) w0 o0 w o59) := by
 unfold lex_run at h
 refine startM Try.func171 rfl Try.ntmps171 (show 2 ≤ 20 by decide) fun a M => ?_
 have M : MB 20 [] [(0, .string p1), (1, .func (.func 186) #[] #[])] a := M
 have T0 : Tr (Ls o0 []) w0 o0 w0 o0 := Tr.refl _ _ _
 refine c_seq <| c_reg <| pn (j := 1) E 1 M rfl rfl fun a M => x_end rfl <| q_then <| c_seq <| c_reg <| pn (j := 1) E 1 M rfl rfl fun a M => x_end rfl <| q_then <| c_seq <| wp_block ?_
 obtain ⟨x52, hx53, h⟩ := bind_some h
 refine loop_iter (S := Int) (X := Int) (fun (s : Int) => lex_run_b0 k p1 s) (fun (s : Int) (a : Act) (w : World) => ∃ (o33 : Own), MB 20 [] [(0, .string p1), (1, .func (.func 186) #[] #[]), (5, .int .i64 s)] a ∧ Tr (Ls o0 []) w0 o0 w o33) (fun (x : Int) (e : Exit) (a : Act) (w : World) => (e = .exit 0 ∧ ∃ (o34 : Own), MB 20 [] [(5, .int .i64 x)] a ∧ Tr (Ls o0 []) w0 o0 w o34)) ?_ hx53 ⟨o0, (M.pk [2, 3, 0] rfl), T0⟩ ?_
 ·rintro y16 a w35 r36 hI37 h
  replace h : lex_run_b0 k p1 y16 = some r36 := h
  unfold lex_run_b0 at h
  obtain ⟨o38, M, T39⟩ := hI37
  refine c_seq <| c_seq <| c_reg <| pn (j := 5) E 5 M rfl rfl fun a M => ?_
  by_cases hk7 : (decide (y16 < (p1.size : Int))) = true
  ·rw [if_pos hk7] at h
   have M := M.k 10 rfl hk7
   refine pn (j := 8) E 3 M rfl rfl fun a M => ?_
   obtain ⟨x40, hx41, h⟩ := bind_some h
   obtain ⟨hx410, hx411, hx412⟩ := at_some hx41
   refine ow rfl (wanted_yes rfl rfl (M.t 3 rfl)) rfl rfl M (x_index Try.underlying9 (M.e 1 rfl) (M.e 0 rfl) hx410 hx411) fun a M => ?_
   obtain ⟨r42, hr43, h⟩ := bind_some h
   refine oc rfl (wanted_yes rfl rfl (M.t 4 rfl)) rfl rfl M (x_callv cf_186 (M.e 3 rfl) (m1 (M.e 0 rfl))) (lex_skipped_1_calls hr43 (lko_own (T := [(0, 0)]) (o := o38) rfl)) (fun e8 w44 hp45 => ?_)
   obtain ⟨o46, he47, T48⟩ := hp45
   obtain ⟨o49, ho50⟩ := ex (mrg w35 o38 [(0, 0)] o46)
   have t51 := T48.r0 ho50
   refine ⟨_, he47, fun a M => ?_⟩
   refine pn (j := 11) E 1 M rfl rfl fun a M => x_end rfl <| q_then ?_
   by_cases hk9 : ((x40.toNat : Int) != (10 : Int)) = true
   ·rw [if_pos hk9] at h
    have M := M.k 16 rfl hk9
    refine c_true (M.e 0 rfl) <| wp_skip <| q_then <| wp_block <| c_reg <| pn (j := 2) E 2 M rfl rfl fun a M => ?_
    have M := M.pk [0, 1, 3, 4, 5, 6, 7, 13, 14] rfl
    refine pn (j := 3) E 1 M rfl rfl fun a M => x_end rfl <| q_blk ?_
    obtain rfl := sj h
    have u10 := T39.kn t51
    exact lq_next ⟨o49, (M.pk [8, 9, 0] rfl), u10⟩
   rw [if_neg hk9] at h
   have hk9 := nott hk9
   have M := M.k 16 rfl hk9
   refine c_false (M.e 0 rfl) <| wp_exit <| q_then_exit ?_
   obtain rfl := sj h
   have u11 := T39.kn t51
   exact lq_exit ⟨rfl, ⟨o49, (M.pk [13] rfl), u11⟩⟩
  rw [if_neg hk7] at h
  have hk7 := nott hk7
  have M := M.k 10 rfl hk7
  refine pn (j := 11) E 6 M rfl rfl fun a M => x_end rfl <| q_then <| c_false (M.e 0 rfl) <| wp_exit <| q_then_exit ?_
  obtain rfl := sj h
  exact lq_exit ⟨rfl, ⟨o38, (M.pk [13] rfl), T39⟩⟩
 intro e12 a w54 hO55
 obtain ⟨he56, hO55⟩ := hO55
 subst he56
 obtain ⟨o57, M, T58⟩ := hO55
 refine q_blk_here <| q_then <| c_seq <| c_reg <| pn (j := 2) E 2 M rfl rfl fun a M => x_end rfl <| q_then <| wp_ret ?_
 obtain rfl := sj h
 exact ⟨M.f.defers, _, (res1 Try.results171 (rv_tmp (M.t 0 rfl))), ⟨o57, rfl, T58⟩⟩
end Go.Proofs.Ythilemcdhkfhlaa
namespace Go.Proofs.Ythilemcdhkfhlaa
open Go Go.RowKit Go.Gc Go.Proofs
def lex_skipped_b0 (k : Nat) (p1 : ByteArray) (y17 : Int) : Option (Int ⊕ (Int ⊕ Int)) :=
  if (decide (y17 < (p1.size : Int))) = true then ((at? p1.data.toList y17).bind fun x44 => if ((x44.toNat : Int) == (32 : Int)) = true then (some (.inl (IntKind.wrap .i64 (y17 + (1 : Int))))) else (if ((x44.toNat : Int) == (9 : Int)) = true then (some (.inl (IntKind.wrap .i64 (y17 + (1 : Int))))) else (if ((x44.toNat : Int) == (10 : Int)) = true then (some (.inl (IntKind.wrap .i64 (y17 + (1 : Int))))) else (if ((x44.toNat : Int) == (35 : Int)) = true then (if 0 ≤ y17 ∧ y17 ≤ (p1.size : Int) ∧ (p1.size : Int) ≤ (p1.size : Int) then ((lex_run k (cuts p1 y17 (p1.size : Int))).bind fun r47 => some (.inl (IntKind.wrap .i64 (y17 + r47)))) else none) else (some (.inr (.inl y17))))))) else (some (.inr (.inr y17)))
def lex_skipped (k : Nat) (p1 : ByteArray) : Option Int :=
  (iter (fun (s : Int) => lex_skipped_b0 k p1 s) k (0 : Int)).bind fun x57 => scase x57 (fun x57 => some x57) (fun x57 => some x57)
theorem lex_skipped_calls {k : Nat} {p1 : ByteArray} {r : Int} (h : lex_skipped k p1 = some r) {w0 : World} {o0 : Own} (hown : Hown o0) :
    Calls Try.prog 161 #[.string p1] w0 (fun e w => ∃ (o67 : Own), e = .returned (.int .i64 r) ∧ Tr (Ls o0 []) w0 o0 w o67) := by
 unfold lex_skipped at h
 refine startM Try.func161 rfl Try.ntmps161 (show 1 ≤ 27 by decide) fun a M => ?_
 have M : MB 27 [] [(0, .string p1)] a := M
 have T0 : Tr (Ls o0 []) w0 o0 w0 o0 := Tr.refl _ _ _
 refine c_seq <| c_reg <| pn (j := 1) E 1 M rfl rfl fun a M => x_end rfl <| q_then <| c_seq <| c_reg <| pn (j := 1) E 1 M rfl rfl fun a M => x_end rfl <| q_then <| c_seq <| wp_block ?_
 obtain ⟨x57, hx58, h⟩ := bind_some h
 refine loop_iter (S := Int) (X := (Int ⊕ Int)) (fun (s : Int) => lex_skipped_b0 k p1 s) (fun (s : Int) (a : Act) (w : World) => ∃ (o36 : Own), MB 27 [] [(0, .string p1), (3, .int .i64 s)] a ∧ Tr (Ls o0 []) w0 o0 w o36) (fun (x : (Int ⊕ Int)) (e : Exit) (a : Act) (w : World) => (match x with | .inl x => (e = .ret ∧ ∃ (o37 : Own), MB 27 [] [(2, .int .i64 x)] a ∧ Tr (Ls o0 []) w0 o0 w o37) | .inr x => (e = .exit 0 ∧ ∃ (o38 : Own), MB 27 [] [(3, .int .i64 x)] a ∧ Tr (Ls o0 []) w0 o0 w o38))) ?_ hx58 ⟨o0, (M.pk [2, 0] rfl), T0⟩ ?_
 ·rintro y17 a w39 r40 hI41 h
  replace h : lex_skipped_b0 k p1 y17 = some r40 := h
  unfold lex_skipped_b0 at h
  obtain ⟨o42, M, T43⟩ := hI41
  refine c_seq <| c_seq <| c_reg <| pn (j := 4) E 4 M rfl rfl fun a M => x_end rfl <| q_then ?_
  by_cases hk20 : (decide (y17 < (p1.size : Int))) = true
  ·rw [if_pos hk20] at h
   have M := M.k 7 rfl hk20
   refine c_true (M.e 0 rfl) <| wp_skip <| q_then <| wp_block <| c_seq <| c_reg <| pn (j := 2) E 2 M rfl rfl fun a M => ?_
   obtain ⟨x44, hx45, h⟩ := bind_some h
   obtain ⟨hx450, hx451, hx452⟩ := at_some hx45
   refine ov rfl rfl M (x_index Try.underlying9 (M.e 1 rfl) (M.e 0 rfl) hx450 hx451) fun a M => x_end rfl <| q_then <| wp_block <| c_seq <| c_seq <| c_reg <| pn (j := 2) E 2 M rfl rfl fun a M => x_end rfl <| q_then ?_
   by_cases hk23 : ((x44.toNat : Int) == (32 : Int)) = true
   ·rw [if_pos hk23] at h
    have M := M.k 12 rfl hk23
    refine c_true (M.e 0 rfl) <| wp_skip <| q_then <| c_true (M.e 0 rfl) <| c_reg <| pn (j := 2) E 2 M rfl rfl fun a M => ?_
    have M := M.pk [0, 1, 11] rfl
    refine pn (j := 3) E 1 M rfl rfl fun a M => x_end rfl <| q_blk <| q_blk ?_
    obtain rfl := sj h
    exact lq_next ⟨o42, (M.pk [3, 0] rfl), T43⟩
   rw [if_neg hk23] at h
   have hk23 := nott hk23
   have M := M.k 12 rfl hk23
   refine c_false (M.e 0 rfl) <| c_seq <| c_reg <| pn (j := 1) E 1 M rfl rfl fun a M => ?_
   have M := M.pk [0, 3, 10, 11] rfl
   refine pn (j := 2) E 1 M rfl rfl fun a M => x_end rfl <| q_then ?_
   by_cases hk24 : ((x44.toNat : Int) == (9 : Int)) = true
   ·rw [if_pos hk24] at h
    have M := M.k 12 rfl hk24
    refine c_true (M.e 0 rfl) <| wp_skip <| q_then <| c_true (M.e 0 rfl) <| c_reg <| pn (j := 2) E 2 M rfl rfl fun a M => ?_
    have M := M.pk [0, 1, 5] rfl
    refine pn (j := 3) E 1 M rfl rfl fun a M => x_end rfl <| q_blk <| q_blk ?_
    obtain rfl := sj h
    exact lq_next ⟨o42, (M.pk [3, 0] rfl), T43⟩
   rw [if_neg hk24] at h
   have hk24 := nott hk24
   have M := M.k 12 rfl hk24
   refine c_false (M.e 0 rfl) <| c_reg <| pn (j := 1) E 1 M rfl rfl fun a M => ?_
   have M := M.pk [0, 3, 4, 5] rfl
   refine pn (j := 2) E 1 M rfl rfl fun a M => x_end rfl <| q_then ?_
   by_cases hk25 : ((x44.toNat : Int) == (10 : Int)) = true
   ·rw [if_pos hk25] at h
    have M := M.k 12 rfl hk25
    refine c_true (M.e 0 rfl) <| c_reg <| pn (j := 2) E 2 M rfl rfl fun a M => ?_
    have M := M.pk [0, 1, 5] rfl
    refine pn (j := 3) E 1 M rfl rfl fun a M => x_end rfl <| q_blk <| q_blk ?_
    obtain rfl := sj h
    exact lq_next ⟨o42, (M.pk [3, 0] rfl), T43⟩
   rw [if_neg hk25] at h
   have hk25 := nott hk25
   have M := M.k 12 rfl hk25
   refine c_false (M.e 0 rfl) <| c_seq <| c_reg <| pn (j := 2) E 2 M rfl rfl fun a M => x_end rfl <| q_then ?_
   by_cases hk26 : ((x44.toNat : Int) == (35 : Int)) = true
   ·rw [if_pos hk26] at h
    have M := M.k 18 rfl hk26
    refine c_true (M.e 0 rfl) <| c_reg <| pn (j := 3) E 3 M rfl rfl fun a M => ?_
    obtain ⟨hc46, h⟩ := ifs h
    refine ov rfl rfl M (x_cutsL Try.underlying9 (M.e 1 rfl) (M.e 0 rfl) hc46) fun a M => ?_
    obtain ⟨r47, hr48, h⟩ := bind_some h
    refine oc rfl (wp0 rfl) rfl rfl M (x_call cf_171 (m2 (M.e 0 rfl) e_func)) (lex_run_calls hr48 (lko_own (T := [(0, 0)]) (o := o42) rfl)) (fun e27 w49 hp50 => ?_)
    obtain ⟨o51, he52, T53⟩ := hp50
    obtain ⟨o54, ho55⟩ := ex (mrg w39 o42 [(0, 0)] o51)
    have t56 := T53.r0 ho55
    refine ⟨_, he52, fun a M => ?_⟩
    refine pn (j := 6) E 1 M rfl rfl fun a M => ?_
    have M := M.pk [0, 1, 2, 3, 4, 5, 11] rfl
    refine pn (j := 7) E 1 M rfl rfl fun a M => x_end rfl <| q_blk <| q_blk ?_
    obtain rfl := sj h
    have u28 := T43.kn t56
    exact lq_next ⟨o54, (M.pk [7, 0] rfl), u28⟩
   rw [if_neg hk26] at h
   have hk26 := nott hk26
   have M := M.k 18 rfl hk26
   refine c_false (M.e 0 rfl) <| c_seq <| c_reg <| pn (j := 2) E 2 M rfl rfl fun a M => x_end rfl <| q_then <| wp_ret <| q_blk_ret <| q_blk_ret ?_
   obtain rfl := sj h
   exact lq_ret ⟨rfl, ⟨o42, (M.pk [0] rfl), T43⟩⟩
  rw [if_neg hk20] at h
  have hk20 := nott hk20
  have M := M.k 7 rfl hk20
  refine c_false (M.e 0 rfl) <| wp_exit <| q_then_exit ?_
  obtain rfl := sj h
  exact lq_exit ⟨rfl, ⟨o42, (M.pk [5] rfl), T43⟩⟩
 intro e29 a w59 hO60
 rcases x57 with x57 | x57
 ·rw [scase_l] at h
  obtain ⟨he61, hO60⟩ := hO60
  subst he61
  obtain ⟨o62, M, T63⟩ := hO60
  refine q_blk_ret <| q_then_ret ?_
  obtain rfl := sj h
  exact ⟨M.f.defers, _, (res1 Try.results161 (rv_tmp (M.t 0 rfl))), ⟨o62, rfl, T63⟩⟩
 rw [scase_r] at h
 obtain ⟨he64, hO60⟩ := hO60
 subst he64
 obtain ⟨o65, M, T66⟩ := hO60
 refine q_blk_here <| q_then <| c_seq <| c_reg <| pn (j := 2) E 2 M rfl rfl fun a M => x_end rfl <| q_then <| wp_ret ?_
 obtain rfl := sj h
 exact ⟨M.f.defers, _, (res1 Try.results161 (rv_tmp (M.t 0 rfl))), ⟨o65, rfl, T66⟩⟩
end Go.Proofs.Ythilemcdhkfhlaa
namespace Go.Proofs.Ythilemcdhkfhlaa
open Go Go.RowKit Go.Gc Go.Proofs
def lex_signs (k : Nat) (p1 : Int) : Option Int :=
  if (p1 == (61 : Int)) = true then (some (3 : Int)) else (if (p1 == (124 : Int)) = true then (some (4 : Int)) else (if (p1 == (59 : Int)) = true then (some (5 : Int)) else (some (0 : Int))))
theorem lex_signs_calls {k : Nat} {p1 : Int} {r : Int} (h : lex_signs k p1 = some r) {w0 : World} {o0 : Own} (hown : Hown o0) :
    Calls Try.prog 187 #[.int .u8 p1] w0 (fun e w => ∃ (o2 : Own), e = .returned (.int .i64 r) ∧ Tr (Ls o0 []) w0 o0 w o2) := by
 unfold lex_signs at h
 refine startM Try.func187 rfl Try.ntmps187 (show 1 ≤ 10 by decide) fun a M => ?_
 have M : MB 10 [] [(0, .int .u8 p1)] a := M
 have T0 : Tr (Ls o0 []) w0 o0 w0 o0 := Tr.refl _ _ _
 refine c_seq <| c_reg <| pn (j := 1) E 1 M rfl rfl fun a M => x_end rfl <| q_then <| c_seq <| c_seq <| c_reg <| pn (j := 1) E 1 M rfl rfl fun a M => x_end rfl <| q_then <| wp_block <| c_seq <| c_reg <| pn (j := 2) E 2 M rfl rfl fun a M => x_end rfl <| q_then ?_
 by_cases hk1 : (p1 == (61 : Int)) = true
 ·rw [if_pos hk1] at h
  have M := M.k 4 rfl hk1
  refine c_true (M.e 0 rfl) <| c_seq <| c_reg ?_
  have M := M.pk [] rfl
  refine pn (j := 1) E 1 M rfl rfl fun a M => x_end rfl <| q_then <| wp_ret <| q_blk_ret <| q_then_ret ?_
  obtain rfl := sj h
  exact ⟨M.f.defers, _, (res1 Try.results187 (rv_tmp (M.t 0 rfl))), ⟨o0, rfl, T0⟩⟩
 rw [if_neg hk1] at h
 have hk1 := nott hk1
 have M := M.k 4 rfl hk1
 refine c_false (M.e 0 rfl) <| c_seq <| c_reg <| pn (j := 2) E 2 M rfl rfl fun a M => x_end rfl <| q_then ?_
 by_cases hk2 : (p1 == (124 : Int)) = true
 ·rw [if_pos hk2] at h
  have M := M.k 6 rfl hk2
  refine c_true (M.e 0 rfl) <| c_seq <| c_reg ?_
  have M := M.pk [] rfl
  refine pn (j := 1) E 1 M rfl rfl fun a M => x_end rfl <| q_then <| wp_ret <| q_blk_ret <| q_then_ret ?_
  obtain rfl := sj h
  exact ⟨M.f.defers, _, (res1 Try.results187 (rv_tmp (M.t 0 rfl))), ⟨o0, rfl, T0⟩⟩
 rw [if_neg hk2] at h
 have hk2 := nott hk2
 have M := M.k 6 rfl hk2
 refine c_false (M.e 0 rfl) <| c_seq <| c_reg <| pn (j := 2) E 2 M rfl rfl fun a M => x_end rfl <| q_then ?_
 by_cases hk3 : (p1 == (59 : Int)) = true
 ·rw [if_pos hk3] at h
  have M := M.k 8 rfl hk3
  refine c_true (M.e 0 rfl) <| c_seq <| c_reg ?_
  have M := M.pk [] rfl
  refine pn (j := 1) E 1 M rfl rfl fun a M => x_end rfl <| q_then <| wp_ret <| q_blk_ret <| q_then_ret ?_
  obtain rfl := sj h
  exact ⟨M.f.defers, _, (res1 Try.results187 (rv_tmp (M.t 0 rfl))), ⟨o0, rfl, T0⟩⟩
 rw [if_neg hk3] at h
 have hk3 := nott hk3
 have M := M.k 8 rfl hk3
 refine c_false (M.e 0 rfl) <| wp_skip <| q_blk <| q_then <| c_seq <| c_reg ?_
 have M := M.pk [] rfl
 refine pn (j := 1) E 1 M rfl rfl fun a M => x_end rfl <| q_then <| wp_ret ?_
 obtain rfl := sj h
 exact ⟨M.f.defers, _, (res1 Try.results187 (rv_tmp (M.t 0 rfl))), ⟨o0, rfl, T0⟩⟩
end Go.Proofs.Ythilemcdhkfhlaa
namespace Go.Proofs.Ythilemcdhkfhlaa
open Go Go.RowKit Go.Gc Go.Proofs
def lex_token (k : Nat) (p1 : ByteArray) (p2 : Int) : Option (Int × ByteArray × Int) :=
  (at? p1.data.toList (0 : Int)).bind fun x9 => (lex_letter k (x9.toNat : Int)).bind fun r11 => if r11 = true then ((lex_run_1 k p1).bind fun r21 => if 0 ≤ (0 : Int) ∧ (0 : Int) ≤ r21 ∧ r21 ≤ (p1.size : Int) then ((lex_IsName k (cuts p1 (0 : Int) r21)).bind fun r43 => if (!r43) = true then (none) else (if 0 ≤ (0 : Int) ∧ (0 : Int) ≤ r21 ∧ r21 ≤ (p1.size : Int) then (some ((1 : Int), cuts p1 (0 : Int) r21, r21)) else none)) else none) else ((at? p1.data.toList (0 : Int)).bind fun x59 => if ((x59.toNat : Int) == (39 : Int)) = true then (if 0 ≤ (1 : Int) ∧ (1 : Int) ≤ (p1.size : Int) ∧ (p1.size : Int) ≤ (p1.size : Int) then ((lex_run_2 k (cuts p1 (1 : Int) (p1.size : Int))).bind fun r62 => if 0 ≤ (1 : Int) ∧ (1 : Int) ≤ (IntKind.wrap .i64 (r62 + (1 : Int))) ∧ (IntKind.wrap .i64 (r62 + (1 : Int))) ≤ (p1.size : Int) then ((lex_IsTerm k (cuts p1 (1 : Int) (IntKind.wrap .i64 (r62 + (1 : Int))))).bind fun r99 => if (!r99) = true then (none) else (if ((IntKind.wrap .i64 (r62 + (1 : Int))) == (p1.size : Int)) = true then (none) else ((at? p1.data.toList (IntKind.wrap .i64 (r62 + (1 : Int)))).bind fun x109 => if ((x109.toNat : Int) != (39 : Int)) = true then (none) else (if 0 ≤ (1 : Int) ∧ (1 : Int) ≤ (IntKind.wrap .i64 (r62 + (1 : Int))) ∧ (IntKind.wrap .i64 (r62 + (1 : Int))) ≤ (p1.size : Int) then (some ((2 : Int), cuts p1 (1 : Int) (IntKind.wrap .i64 (r62 + (1 : Int))), IntKind.wrap .i64 (r62 + (2 : Int)))) else none)))) else none) else none) else ((at? p1.data.toList (0 : Int)).bind fun x117 => (lex_signs k (x117.toNat : Int)).bind fun r119 => if (r119 != (0 : Int)) = true then ((at? p1.data.toList (0 : Int)).bind fun x130 => (lex_signs k (x130.toNat : Int)).bind fun r132 => if 0 ≤ (0 : Int) ∧ (0 : Int) ≤ (1 : Int) ∧ (1 : Int) ≤ (p1.size : Int) then (some (r132, cuts p1 (0 : Int) (1 : Int), (1 : Int))) else none) else (none)))
theorem lex_token_calls {k : Nat} {p1 : ByteArray} {p2 : Int} {r : (Int × ByteArray × Int)} (h : lex_token k p1 p2 = some r) {w0 : World} {o0 : Own} (hown : Hown o0) :
    Calls Try.prog 162 #[.string p1, .int .i64 p2] w0 (fun e w => ∃ (o152 : Own), e = .returned (.tuple #[.agg #[.int .i64 r.1, .string r.2.1, .int .i64 p2], .int .i64 r.2.2]) ∧ Tr (Ls o0 []) w0 o0 w o152) := by
 unfold lex_token at h
 refine startM Try.func162 rfl Try.ntmps162 (show 2 ≤ 81 by decide) fun a M => ?_
 have M : MB 81 [] [(0, .string p1), (1, .int .i64 p2)] a := M
 have T0 : Tr (Ls o0 []) w0 o0 w0 o0 := Tr.refl _ _ _
 refine c_seq <| c_reg ?_
 obtain ⟨g3, w4, o5, r6, b7, t8⟩ := b_alloc zv_183 a w0 o0 100
 refine ov rfl rfl M (r6 _ _ _ _ _) fun a M => pn (j := 2) E 1 M rfl rfl fun a M => x_end rfl <| q_then <| c_seq <| wp_block <| c_seq <| c_reg <| pn (j := 1) E 1 M rfl rfl fun a M => ?_
 obtain ⟨x9, hx10, h⟩ := bind_some h
 obtain ⟨hx100, hx101, hx102⟩ := at_some hx10
 refine ov rfl rfl M (x_index Try.underlying9 (M.e 0 rfl) (e_const (v := .int .i64 (0 : Int))) hx100 hx101) fun a M => ?_
 obtain ⟨r11, hr12, h⟩ := bind_some h
 refine oc rfl (wp0 rfl) rfl rfl M (x_call cf_170 (m1 (M.e 0 rfl))) (lex_letter_calls hr12 (lko_own (T := [(0, 0)]) (o := o5) rfl)) (fun e1 w13 hp14 => ?_)
 obtain ⟨o15, he16, T17⟩ := hp14
 obtain ⟨o18, ho19⟩ := ex (mrg w4 o5 [(0, 0)] o15)
 have t20 := T17.r0 ho19
 refine ⟨_, he16, fun a M => ?_⟩
 refine pn (j := 4) E 1 M rfl rfl fun a M => x_end rfl <| q_then ?_
 by_cases hk2 : r11 = true
 ·rw [if_pos hk2] at h
  have M := M.k 8 rfl hk2
  refine c_true (M.e 0 rfl) <| c_seq <| c_reg <| pn (j := 1) E 1 M rfl rfl fun a M => ?_
  obtain ⟨r21, hr22, h⟩ := bind_some h
  refine oc rfl (wp0 rfl) rfl rfl M (x_call cf_171 (m2 (M.e 0 rfl) e_func)) (lex_run_1_calls hr22 (lko_own (T := [(0, 0)]) (o := o18) rfl)) (fun e3 w23 hp24 => ?_)
  obtain ⟨o25, he26, T27⟩ := hp24
  obtain ⟨o28, ho29⟩ := ex (mrg w13 o18 [(0, 0)] o25)
  have t30 := T27.r0 ho29
  refine ⟨_, he26, fun a M => ?_⟩
  refine pn (j := 3) E 1 M rfl rfl fun a M => x_end rfl <| q_then <| c_seq <| c_seq <| c_reg <| pn (j := 2) E 2 M rfl rfl fun a M => ?_
  obtain ⟨hc42, h⟩ := ifs h
  refine ov rfl rfl M (x_cutsH Try.underlying9 (M.e 1 rfl) (M.e 0 rfl) hc42) fun a M => ?_
  obtain ⟨r43, hr44, h⟩ := bind_some h
  refine oc rfl (wp0 rfl) rfl rfl M (x_call cf_130 (m1 (M.e 0 rfl))) (lex_IsName_calls hr44 (lko_own (T := [(0, 0)]) (o := o28) rfl)) (fun e6 w45 hp46 => ?_)
  obtain ⟨o47, he48, T49⟩ := hp46
  obtain ⟨o50, ho51⟩ := ex (mrg w23 o28 [(0, 0)] o47)
  have t52 := T49.r0 ho51
  refine ⟨_, he48, fun a M => ?_⟩
  refine pn (j := 5) E 1 M rfl rfl fun a M => x_end rfl <| q_then ?_
  by_cases hk7 : (!r43) = true
  ·rw [if_pos hk7] at h
   have M := M.k 18 rfl hk7
   refine c_true (M.e 0 rfl) ?_
   exact absurd h (by simp)
  rw [if_neg hk7] at h
  have hk7 := nott hk7
  have M := M.k 18 rfl hk7
  refine c_false (M.e 0 rfl) <| wp_skip <| q_then <| c_seq <| c_reg <| pn (j := 2) E 2 M rfl rfl fun a M => ?_
  obtain ⟨hc53, h⟩ := ifs h
  refine ov rfl rfl M (x_cutsH Try.underlying9 (M.e 1 rfl) (M.e 0 rfl) hc53) fun a M => pn (j := 4) E 1 M rfl rfl fun a M => ?_
  have hb54 : ∀ w : World, (Instr.build 183 #[(0, .int .i64 (1 : Int)), (1, .string (cuts p1 (0 : Int) r21)), (2, .int .i64 p2)]).run Try.prog w = .ok (.agg #[.int .i64 (1 : Int), .string (cuts p1 (0 : Int) r21), .int .i64 p2]) w := fun w => by go_simp
  refine ov rfl rfl M (x_build (l3 (e_const (v := .int .i64 (1 : Int))) (M.e 1 rfl) (M.e 0 rfl)) hb54) fun a M => pn (j := 6) E 1 M rfl rfl fun a M => ?_
  have u8 := ((b7.kn t20).kn t30).kn t52
  obtain ⟨w55, r56, b57, t58⟩ := b_storeN (P := Try.prog) (all' := #[.int .i64 (1 : Int), .string (cuts p1 (0 : Int) r21), .int .i64 p2]) (.inr trivial) (stn_183 _ rfl) (M.e 19 rfl) (M.e 1 rfl) u8 (show 3 ≤ 3 by decide) (by simp [Value.oneCell']) rfl
  have b57 : Box w55 o50 100 g3 183 #[.int .i64 (1 : Int), .string (cuts p1 (0 : Int) r21), .int .i64 p2] := b57
  refine os rfl (wp0 rfl) rfl (r56 _ _ _ _ _) ?_
  have M := M.pk [0, 1, 2, 3, 4, 5, 11, 19, 20, 21] rfl
  refine pn (j := 8) E 1 M rfl rfl fun a M => x_end rfl <| q_then <| wp_ret <| q_blk_ret <| q_then_ret ?_
  have u9 := ((((T0.kn t8).kn t20).kn t30).kn t52).kk t58 hown rfl
  obtain rfl := sj h
  exact ⟨M.f.defers, _, (res2 Try.results162 (rv_cellN (ldn_183 _ rfl) (M.t 8 rfl) (b57.sub (cs := #[.int .i64 (1 : Int), .string (cuts p1 (0 : Int) r21), .int .i64 p2]) 0 rfl)) (rv_tmp (M.t 0 rfl))), ⟨o50, rfl, u9⟩⟩
 rw [if_neg hk2] at h
 have hk2 := nott hk2
 have M := M.k 8 rfl hk2
 refine c_false (M.e 0 rfl) <| c_seq <| c_reg <| pn (j := 1) E 1 M rfl rfl fun a M => ?_
 obtain ⟨x59, hx60, h⟩ := bind_some h
 obtain ⟨hx600, hx601, hx602⟩ := at_some hx60
 refine ov rfl rfl M (x_index Try.underlying9 (M.e 0 rfl) (e_const (v := .int .i64 (0 : Int))) hx600 hx601) fun a M => pn (j := 4) E 2 M rfl rfl fun a M => x_end rfl <| q_then ?_
 by_cases hk10 : ((x59.toNat : Int) == (39 : Int)) = true
 ·rw [if_pos hk10] at h
  have M := M.k 28 rfl hk10
  refine c_true (M.e 0 rfl) <| c_seq <| c_reg <| pn (j := 1) E 1 M rfl rfl fun a M => ?_
  obtain ⟨hc61, h⟩ := ifs h
  refine ov rfl rfl M (x_cutsL Try.underlying9 (M.e 0 rfl) (e_const (v := .int .i64 (1 : Int))) hc61) fun a M => ?_
  obtain ⟨r62, hr63, h⟩ := bind_some h
  refine oc rfl (wp0 rfl) rfl rfl M (x_call cf_171 (m2 (M.e 0 rfl) e_func)) (lex_run_2_calls hr63 (lko_own (T := [(0, 0)]) (o := o18) rfl)) (fun e11 w64 hp65 => ?_)
  obtain ⟨o66, he67, T68⟩ := hp65
  obtain ⟨o69, ho70⟩ := ex (mrg w13 o18 [(0, 0)] o66)
  have t71 := T68.r0 ho70
  refine ⟨_, he67, fun a M => ?_⟩
  refine pn (j := 4) E 1 M rfl rfl fun a M => x_end rfl <| q_then <| c_seq <| c_seq <| c_reg <| pn (j := 3) E 3 M rfl rfl fun a M => ?_
  obtain ⟨hc98, h⟩ := ifs h
  refine ov rfl rfl M (x_cutsLH Try.underlying9 (M.e 2 rfl) (e_const (v := .int .i64 (1 : Int))) (M.e 0 rfl) hc98) fun a M => ?_
  obtain ⟨r99, hr100, h⟩ := bind_some h
  refine oc rfl (wp0 rfl) rfl rfl M (x_call cf_131 (m1 (M.e 0 rfl))) (lex_IsTerm_calls hr100 (lko_own (T := [(0, 0)]) (o := o69) rfl)) (fun e19 w101 hp102 => ?_)
  obtain ⟨o103, he104, T105⟩ := hp102
  obtain ⟨o106, ho107⟩ := ex (mrg w64 o69 [(0, 0)] o103)
  have t108 := T105.r0 ho107
  refine ⟨_, he104, fun a M => ?_⟩
  refine pn (j := 7) E 2 M rfl rfl fun a M => ?_
  by_cases hk20 : (!r99) = true
  ·rw [if_pos hk20] at h
   have M := M.k 41 rfl hk20
   refine pn (j := 20) E 13 M rfl rfl fun a M => x_end rfl <| q_then <| c_true (M.e 0 rfl) ?_
   exact absurd h (by simp)
  rw [if_neg hk20] at h
  have hk20 := nott hk20
  have M := M.k 41 rfl hk20
  refine pn (j := 14) E 7 M rfl rfl fun a M => ?_
  by_cases hk21 : ((IntKind.wrap .i64 (r62 + (1 : Int))) == (p1.size : Int)) = true
  ·rw [if_pos hk21] at h
   have M := M.k 48 rfl hk21
   refine pn (j := 20) E 6 M rfl rfl fun a M => x_end rfl <| q_then <| c_true (M.e 0 rfl) ?_
   exact absurd h (by simp)
  rw [if_neg hk21] at h
  have hk21 := nott hk21
  have M := M.k 48 rfl hk21
  refine pn (j := 17) E 3 M rfl rfl fun a M => ?_
  obtain ⟨x109, hx110, h⟩ := bind_some h
  obtain ⟨hx1100, hx1101, hx1102⟩ := at_some hx110
  refine ow rfl (wanted_yes rfl rfl (M.t 3 rfl)) rfl rfl M (x_index Try.underlying9 (M.e 2 rfl) (M.e 0 rfl) hx1100 hx1101) fun a M => pn (j := 20) E 2 M rfl rfl fun a M => x_end rfl <| q_then ?_
  by_cases hk22 : ((x109.toNat : Int) != (39 : Int)) = true
  ·rw [if_pos hk22] at h
   have M := M.k 54 rfl hk22
   refine c_true (M.e 0 rfl) ?_
   exact absurd h (by simp)
  rw [if_neg hk22] at h
  have hk22 := nott hk22
  have M := M.k 54 rfl hk22
  refine c_false (M.e 0 rfl) <| wp_skip <| q_then <| c_seq <| c_reg <| pn (j := 3) E 3 M rfl rfl fun a M => ?_
  obtain ⟨hc111, h⟩ := ifs h
  refine ov rfl rfl M (x_cutsLH Try.underlying9 (M.e 2 rfl) (e_const (v := .int .i64 (1 : Int))) (M.e 0 rfl) hc111) fun a M => pn (j := 5) E 1 M rfl rfl fun a M => ?_
  have hb112 : ∀ w : World, (Instr.build 183 #[(0, .int .i64 (2 : Int)), (1, .string (cuts p1 (1 : Int) (IntKind.wrap .i64 (r62 + (1 : Int))))), (2, .int .i64 p2)]).run Try.prog w = .ok (.agg #[.int .i64 (2 : Int), .string (cuts p1 (1 : Int) (IntKind.wrap .i64 (r62 + (1 : Int)))), .int .i64 p2]) w := fun w => by go_simp
  refine ov rfl rfl M (x_build (l3 (e_const (v := .int .i64 (2 : Int))) (M.e 1 rfl) (M.e 0 rfl)) hb112) fun a M => pn (j := 8) E 2 M rfl rfl fun a M => ?_
  have u23 := ((b7.kn t20).kn t71).kn t108
  obtain ⟨w113, r114, b115, t116⟩ := b_storeN (P := Try.prog) (all' := #[.int .i64 (2 : Int), .string (cuts p1 (1 : Int) (IntKind.wrap .i64 (r62 + (1 : Int)))), .int .i64 p2]) (.inr trivial) (stn_183 _ rfl) (M.e 41 rfl) (M.e 2 rfl) u23 (show 3 ≤ 3 by decide) (by simp [Value.oneCell']) rfl
  have b115 : Box w113 o106 100 g3 183 #[.int .i64 (2 : Int), .string (cuts p1 (1 : Int) (IntKind.wrap .i64 (r62 + (1 : Int)))), .int .i64 p2] := b115
  refine os rfl (wp0 rfl) rfl (r114 _ _ _ _ _) ?_
  have M := M.pk [0, 1, 2, 3, 4, 5, 6, 7, 28, 41, 42, 43] rfl
  refine pn (j := 10) E 1 M rfl rfl fun a M => x_end rfl <| q_then <| wp_ret <| q_blk_ret <| q_then_ret ?_
  have u24 := ((((T0.kn t8).kn t20).kn t71).kn t108).kk t116 hown rfl
  obtain rfl := sj h
  exact ⟨M.f.defers, _, (res2 Try.results162 (rv_cellN (ldn_183 _ rfl) (M.t 10 rfl) (b115.sub (cs := #[.int .i64 (2 : Int), .string (cuts p1 (1 : Int) (IntKind.wrap .i64 (r62 + (1 : Int)))), .int .i64 p2]) 0 rfl)) (rv_tmp (M.t 0 rfl))), ⟨o106, rfl, u24⟩⟩
 rw [if_neg hk10] at h
 have hk10 := nott hk10
 have M := M.k 28 rfl hk10
 refine c_false (M.e 0 rfl) <| c_seq <| c_reg <| pn (j := 1) E 1 M rfl rfl fun a M => ?_
 obtain ⟨x117, hx118, h⟩ := bind_some h
 obtain ⟨hx1180, hx1181, hx1182⟩ := at_some hx118
 refine ov rfl rfl M (x_index Try.underlying9 (M.e 0 rfl) (e_const (v := .int .i64 (0 : Int))) hx1180 hx1181) fun a M => ?_
 obtain ⟨r119, hr120, h⟩ := bind_some h
 refine oc rfl (wp0 rfl) rfl rfl M (x_call cf_187 (m1 (M.e 0 rfl))) (lex_signs_calls hr120 (lko_own (T := [(0, 0)]) (o := o18) rfl)) (fun e25 w121 hp122 => ?_)
 obtain ⟨o123, he124, T125⟩ := hp122
 obtain ⟨o126, ho127⟩ := ex (mrg w13 o18 [(0, 0)] o123)
 have t128 := T125.r0 ho127
 refine ⟨_, he124, fun a M => ?_⟩
 refine pn (j := 5) E 2 M rfl rfl fun a M => x_end rfl <| q_then ?_
 by_cases hk26 : (r119 != (0 : Int)) = true
 ·rw [if_pos hk26] at h
  have M := M.k 66 rfl hk26
  refine c_true (M.e 0 rfl) <| c_seq ?_
  have M := M.pk [14, 15, 16] rfl
  obtain ⟨x130, hx131, h⟩ := bind_some h
  obtain ⟨hx1310, hx1311, hx1312⟩ := at_some hx131
  obtain ⟨r132, hr133, h⟩ := bind_some h
  obtain ⟨hc142, h⟩ := ifs h
  have u30 := ((T0.kn t8).kn t20).kn t128
  refine draw_m mixed [0, 1, 3, 0, 8, 0, 63, 127, 255] (by kernel_rfl) rfl M (fun U a w => ∃ (o : Own), Tab [(0, 71, .string p1), (1, 72, .int .u8 (x130.toNat : Int)), (2, 73, .int .i64 r132), (3, 74, .string p1), (4, 75, .string (cuts p1 (0 : Int) (1 : Int))), (5, 76, .int .i64 p2), (6, 77, .agg #[.int .i64 r132, .string (cuts p1 (0 : Int) (1 : Int)), .int .i64 p2]), (8, 5, .int .i64 (1 : Int))] U a ∧ Tr (FL [(7, 100)] o126 U) w121 o126 w o ∧ (U 7 = true → Box w o 100 g3 183 #[.int .i64 r132, .string (cuts p1 (0 : Int) (1 : Int)), .int .i64 p2])) ?_ ⟨?_, ?_, ?_, ?_, ?_, ?_, ?_, ?_, ?_, trivial⟩ ?_
  ·exact ⟨o126, Tab.start, FL.start (tr_drew _ _), fun h => Bool.noConfusion h⟩
  ·intro U a w M hL hA hD hI
   obtain ⟨o, TG0, tr, FE0⟩ := hI
   refine dv rfl rfl M (x_move (M.e 1 rfl)) fun a' p => ?_
   exact ⟨M.st p rfl, o, (TG0.step p 0 rfl rfl), (FL.idle tr), FE0⟩
  ·intro U a w M hL hA hD hI
   obtain ⟨o, TG0, tr, FE0⟩ := hI
   refine dv rfl rfl M (x_index Try.underlying9 (e_tmp (TG0.get 0 rfl (hA 0 rfl))) (e_const (v := .int .i64 (0 : Int))) hx1310 hx1311) fun a' p => ?_
   exact ⟨M.st p rfl, o, (TG0.step p 1 rfl rfl), (FL.idle tr), FE0⟩
  ·intro U a w M hL hA hD hI
   obtain ⟨o, TG0, tr, FE0⟩ := hI
   refine dc rfl (wp0 rfl) rfl rfl M (x_call cf_187 (m1 (e_tmp (TG0.get 1 rfl (hA 1 rfl))))) (lex_signs_calls hr133 (lko_own (T := [(0, 0)]) (o := o) rfl)) (fun e29 w134 hp135 => ?_)
   obtain ⟨o136, he137, T138⟩ := hp135
   obtain ⟨o139, ho140⟩ := ex (mrg w o [(0, 0)] o136)
   have t141 := T138.r0 ho140
   refine ⟨_, he137, fun a' p => ?_⟩
   exact ⟨M.st p rfl, o139, (TG0.step p 2 rfl rfl), (FL.stepNo tr t141), (fun h => ab (hD 7 rfl) rfl h)⟩
  ·intro U a w M hL hA hD hI
   obtain ⟨o, TG0, tr, FE0⟩ := hI
   refine dv rfl rfl M (x_move (M.e 1 rfl)) fun a' p => ?_
   exact ⟨M.st p rfl, o, (TG0.step p 3 rfl rfl), (FL.idle tr), FE0⟩
  ·intro U a w M hL hA hD hI
   obtain ⟨o, TG0, tr, FE0⟩ := hI
   refine dv rfl rfl M (x_cutsH Try.underlying9 (e_tmp (TG0.get 3 rfl (hA 3 rfl))) (e_const (v := .int .i64 (1 : Int))) hc142) fun a' p => ?_
   exact ⟨M.st p rfl, o, (TG0.step p 4 rfl rfl), (FL.idle tr), FE0⟩
  ·intro U a w M hL hA hD hI
   obtain ⟨o, TG0, tr, FE0⟩ := hI
   refine dv rfl rfl M (x_move (M.e 2 rfl)) fun a' p => ?_
   exact ⟨M.st p rfl, o, (TG0.step p 5 rfl rfl), (FL.idle tr), FE0⟩
  ·intro U a w M hL hA hD hI
   obtain ⟨o, TG0, tr, FE0⟩ := hI
   have hb143 : ∀ w : World, (Instr.build 183 #[(0, .int .i64 r132), (1, .string (cuts p1 (0 : Int) (1 : Int))), (2, .int .i64 p2)]).run Try.prog w = .ok (.agg #[.int .i64 r132, .string (cuts p1 (0 : Int) (1 : Int)), .int .i64 p2]) w := fun w => by go_simp
   refine dv rfl rfl M (x_build (l3 (e_tmp (TG0.get 2 rfl (hA 2 rfl))) (e_tmp (TG0.get 4 rfl (hA 4 rfl))) (e_tmp (TG0.get 5 rfl (hA 5 rfl)))) hb143) fun a' p => ?_
   exact ⟨M.st p rfl, o, (TG0.step p 6 rfl rfl), (FL.idle tr), FE0⟩
  ·intro U a w M hL hA hD hI
   obtain ⟨o, TG0, tr, FE0⟩ := hI
   obtain ⟨w144, r145, b146, t147⟩ := b_storeN (P := Try.prog) (all' := #[.int .i64 r132, .string (cuts p1 (0 : Int) (1 : Int)), .int .i64 p2]) (.inr trivial) (stn_183 _ rfl) (M.e 0 rfl) (e_tmp (TG0.get 6 rfl (hA 6 rfl))) (((b7.kn t20).kn t128).keep_ (FL.same tr ⟨fun _ => hL, trivial⟩)) (show 3 ≤ 3 by decide) (by simp [Value.oneCell']) rfl
   have b146 : Box w144 o 100 g3 183 #[.int .i64 r132, .string (cuts p1 (0 : Int) (1 : Int)), .int .i64 p2] := b146
   refine o_skip rfl (wp0 rfl) rfl (r145 _ _ _ _ _) ?_
   exact ⟨M, o, (TG0.idle rfl), (FL.stk tr t147 rfl), (fun _ => b146)⟩
  ·intro U a w M hL hA hD hI
   obtain ⟨o, TG0, tr, FE0⟩ := hI
   refine dv rfl rfl M (x_assign (e_const (v := .int .i64 (1 : Int)))) fun a' p => ?_
   exact ⟨M.st p rfl, o, (TG0.step p 7 rfl rfl), (FL.idle tr), FE0⟩
  intro U a w148 M hA hI
  obtain ⟨o149, TG0, tr, FE0⟩ := hI
  have M := M.ad (TG0.get 7 rfl (hA 8 rfl))
  have q150 := (FE0 (hA 7 rfl))
  have T151 := Tr.kf u30 tr hown rfl
  clear hA TG0 tr FE0
  refine q_then <| wp_ret <| q_blk_ret <| q_then_ret ?_
  obtain rfl := sj h
  exact ⟨M.f.defers, _, (res2 Try.results162 (rv_cellN (ldn_183 _ rfl) (M.t 1 rfl) (q150.sub (cs := #[.int .i64 r132, .string (cuts p1 (0 : Int) (1 : Int)), .int .i64 p2]) 0 rfl)) (rv_tmp (M.t 0 rfl))), ⟨o149, rfl, T151⟩⟩
 rw [if_neg hk26] at h
 have hk26 := nott hk26
 have M := M.k 66 rfl hk26
 refine c_false (M.e 0 rfl) <| wp_skip <| q_blk <| q_then ?_
 exact absurd h (by simp)
end Go.Proofs.Ythilemcdhkfhlaa
namespace Go.Proofs.Ythilemcdhkfhlaa
open Go Go.RowKit Go.Gc Go.Proofs
def lex_Tokens_b0 (k : Nat) (p1 : ByteArray) (y97 : Int) (y98 : List Token) : Option ((Int × (List Token)) ⊕ (List Token)) :=
  if (decide (y97 < (p1.size : Int))) = true then (if 0 ≤ y97 ∧ y97 ≤ (p1.size : Int) ∧ (p1.size : Int) ≤ (p1.size : Int) then ((lex_token k (cuts p1 y97 (p1.size : Int)) y97).bind fun r176 => if y98.length + [(⟨r176.1, r176.2.1, y97⟩ : Token)].length ≤ 1000000000 then (if 0 ≤ (IntKind.wrap .i64 (y97 + r176.2.2)) ∧ (IntKind.wrap .i64 (y97 + r176.2.2)) ≤ (p1.size : Int) ∧ (p1.size : Int) ≤ (p1.size : Int) then ((lex_skipped k (cuts p1 (IntKind.wrap .i64 (y97 + r176.2.2)) (p1.size : Int))).bind fun r216 => some (.inl (IntKind.wrap .i64 ((IntKind.wrap .i64 (y97 + r176.2.2)) + r216), y98 ++ [(⟨r176.1, r176.2.1, y97⟩ : Token)]))) else none) else none) else none) else (some (.inr y98))
def lex_Tokens (k : Nat) (p1 : ByteArray) : Option (Int × (List Token)) :=
  if (decide ((2000 : Int) < (p1.size : Int))) = true then (some ((14 : Int), [])) else ((lex_skipped k p1).bind fun r32 => (iter (fun (s : (Int × (List Token))) => lex_Tokens_b0 k p1 s.1 s.2) k (r32, [])).bind fun x226 => some ((0 : Int), x226))
theorem lex_Tokens_calls {k : Nat} {p1 : ByteArray} {r : (Int × (List Token))} (h : lex_Tokens k p1 = some r) {w0 : World} {o0 : Own} (hown : Hown o0) :
    Calls Try.prog 123 #[.string p1] w0 (fun e w => ∃ (o253 : Own) (z255 : Value), e = .returned (.tuple #[z255, .agg #[.int .i64 r.1, .int .i64 (0 : Int)]]) ∧ Row tyToken 183 w o253 50 z255 r.2 ∧ Tr (Ls o0 []) w0 o0 w o253) := by
 unfold lex_Tokens at h
 refine startM_d Try.func123 rfl Try.ntmps123 (show 1 ≤ 41 by decide) fun a M => ?_
 have M : MB 41 [] [(0, .string p1)] a := M
 have T0 : Tr (Ls o0 []) w0 o0 w0 o0 := Tr.refl _ _ _
 refine c_seq <| c_reg ?_
 obtain ⟨g2, w3, o4, r5, b6, t7⟩ := b_alloc zv_175 a w0 o0 100
 refine ov rfl rfl M (r5 _ _ _ _ _) fun a M => ?_
 obtain ⟨g8, w9, o10, r11, b12, t13⟩ := b_alloc zv_108 a w3 o4 101
 refine ov rfl rfl M (r11 _ _ _ _ _) fun a M => x_end rfl <| q_then <| c_seq <| c_seq <| c_reg <| pn (j := 3) E 3 M rfl rfl fun a M => x_end rfl <| q_then ?_
 by_cases hk2 : (decide ((2000 : Int) < (p1.size : Int))) = true
 ·rw [if_pos hk2] at h
  have M := M.k 9 rfl hk2
  refine c_true (M.e 0 rfl) <| c_seq <| c_reg ?_
  have hb23 : ∀ w : World, (Instr.build 108 #[(0, .int .i64 (14 : Int))]).run Try.prog w = .ok (.agg #[.int .i64 (14 : Int), .int .i64 (0 : Int)]) w := fun w => by go_simp
  refine ov rfl rfl M (x_build (l1 (e_const (v := .int .i64 (14 : Int)))) hb23) fun a M => ?_
  obtain ⟨w24, r25, b26, t27⟩ := b_store (P := Try.prog) st_175 (M.e 5 rfl) (e_const (v := .slice none 0 0)) (b6.kn t13) (show 0 < 1 by decide) rfl rfl
  have b26 : Box w24 o10 100 g2 175 #[.slice none 0 0] := b26
  refine os rfl (wp0 rfl) rfl (r25 _ _ _ _ _) ?_
  obtain ⟨w28, r29, b30, t31⟩ := b_storeN (P := Try.prog) (all' := #[.int .i64 (14 : Int), .int .i64 (0 : Int)]) (.inr trivial) (stn_108 _ rfl) (M.e 4 rfl) (M.e 0 rfl) (b12.kk t27 rfl) (show 2 ≤ 2 by decide) (by simp [Value.oneCell']) rfl
  have b30 : Box w28 o10 101 g8 108 #[.int .i64 (14 : Int), .int .i64 (0 : Int)] := b30
  refine os rfl (wp0 rfl) rfl (r29 _ _ _ _ _) <| x_end rfl <| q_then <| wp_ret <| q_then_ret ?_
  have u3 := (((T0.kn t7).kn t13).kk t27 hown rfl).kk t31 hown rfl
  obtain rfl := sj h
  exact (show Leaves _ _ _ _ _ _ _ by rw [M.f.defers]; exact ⟨_, (res2 Try.results123 (rv_cell ld_175 (M.t 5 rfl) ((b26.kk t31 rfl).cell (n := 0) rfl)) (rv_cellN (ldn_108 _ rfl) (M.t 4 rfl) (b30.sub (cs := #[.int .i64 (14 : Int), .int .i64 (0 : Int)]) 0 rfl))), ⟨o10, (.slice none 0 0), rfl, (Row.nil tyToken 183 w28 o10 50), u3⟩⟩)
 rw [if_neg hk2] at h
 have hk2 := nott hk2
 have M := M.k 9 rfl hk2
 refine c_false (M.e 0 rfl) <| wp_skip <| q_then <| c_seq <| c_reg <| ov rfl rfl M (x_makeFunc m0 (m2 (M.e 4 rfl) (M.e 3 rfl))) fun a M => x_next (lt rfl) (o_defer rfl (wp0 rfl) (M.e 0 rfl) M.f (fun a f he => ?_))
 have M := M.df f he
 refine x_end rfl <| q_then <| c_seq <| c_seq <| c_reg <| pn (j := 1) E 1 M rfl rfl fun a M => ?_
 obtain ⟨r32, hr33, h⟩ := bind_some h
 refine oc rfl (wp0 rfl) rfl rfl M (x_call cf_161 (m1 (M.e 0 rfl))) (lex_skipped_calls hr33 (lko_own (T := [(0, 0)]) (o := o10) rfl)) (fun e4 w34 hp35 => ?_)
 obtain ⟨o36, he37, T38⟩ := hp35
 obtain ⟨o39, ho40⟩ := ex (mrg w9 o10 [(0, 0)] o36)
 have t41 := T38.r0 ho40
 refine ⟨_, he37, fun a M => ?_⟩
 refine pn (j := 3) E 1 M rfl rfl fun a M => x_end rfl <| q_then <| wp_block ?_
 have u16 := ((T0.kn t7).kn t13).kn t41
 obtain ⟨x226, hx227, h⟩ := bind_some h
 refine loop_iter (S := (Int × (List Token))) (X := (List Token)) (fun (s : (Int × (List Token))) => lex_Tokens_b0 k p1 s.1 s.2) (fun (s : (Int × (List Token))) (a : Act) (w : World) => ∃ (o163 : Own) (z99 : Value), MB 41 [⟨.fn (.func 160) #[.pointer (some ⟨g2, 0, none⟩), .pointer (some ⟨g8, 0, none⟩)], #[]⟩] [(0, .string p1), (2, .pointer (some ⟨g2, 0, none⟩)), (3, .pointer (some ⟨g8, 0, none⟩)), (4, .int .i64 s.1)] a ∧ Box w o163 100 g2 175 #[z99] ∧ Box w o163 101 g8 108 #[.int .i64 (0 : Int), .int .i64 (0 : Int)] ∧ Row tyToken 183 w o163 104 z99 s.2 ∧ Tr (Ls o0 []) w0 o0 w o163) (fun (x : (List Token)) (e : Exit) (a : Act) (w : World) => (e = .exit 0 ∧ ∃ (o164 : Own) (z162 : Value), MB 41 [⟨.fn (.func 160) #[.pointer (some ⟨g2, 0, none⟩), .pointer (some ⟨g8, 0, none⟩)], #[]⟩] [(2, .pointer (some ⟨g2, 0, none⟩)), (3, .pointer (some ⟨g8, 0, none⟩))] a ∧ Box w o164 100 g2 175 #[z162] ∧ Box w o164 101 g8 108 #[.int .i64 (0 : Int), .int .i64 (0 : Int)] ∧ Row tyToken 183 w o164 104 z162 x ∧ Tr (Ls o0 []) w0 o0 w o164)) ?_ hx227 ⟨o39, (.slice none 0 0), (M.pk [9, 8, 7, 0] rfl), ((b6.kn t13).kn t41), (b12.kn t41), (Row.nil tyToken 183 w34 o39 104), u16⟩ ?_
 ·rintro ⟨y97, y98⟩ a w165 r166 hI167 h
  replace h : lex_Tokens_b0 k p1 y97 y98 = some r166 := h
  unfold lex_Tokens_b0 at h
  obtain ⟨o168, z99, M, q169, q170, q171, T172⟩ := hI167
  obtain ⟨A173, c174, hzc174, -⟩ := q171.form
  subst hzc174
  refine c_seq <| c_seq <| c_reg <| pn (j := 4) E 4 M rfl rfl fun a M => x_end rfl <| q_then ?_
  by_cases hk18 : (decide (y97 < (p1.size : Int))) = true
  ·rw [if_pos hk18] at h
   have M := M.k 17 rfl hk18
   refine c_true (M.e 0 rfl) <| wp_skip <| q_then <| c_seq <| wp_block <| c_seq <| c_reg <| pn (j := 2) E 2 M rfl rfl fun a M => ?_
   obtain ⟨hc175, h⟩ := ifs h
   refine ov rfl rfl M (x_cutsL Try.underlying9 (M.e 1 rfl) (M.e 0 rfl) hc175) fun a M => pn (j := 4) E 1 M rfl rfl fun a M => ?_
   obtain ⟨r176, hr177, h⟩ := bind_some h
   refine oc rfl (wp0 rfl) rfl rfl M (x_call cf_162 (m2 (M.e 1 rfl) (M.e 0 rfl))) (lex_token_calls hr177 (lko_own (T := [(0, 0)]) (o := o168) rfl)) (fun e19 w178 hp179 => ?_)
   obtain ⟨o180, he181, T182⟩ := hp179
   obtain ⟨o183, ho184⟩ := ex (mrg w165 o168 [(0, 0)] o180)
   have t185 := T182.r0 ho184
   refine ⟨_, he181, fun a M => ?_⟩
   refine pn (j := 8) E 3 M rfl rfl fun a M => ?_
   obtain ⟨g186, w187, o188, r189, b190, t191⟩ := b_alloc zv_183 a w178 o183 102
   refine ov rfl rfl M (r189 _ _ _ _ _) fun a M => ?_
   obtain ⟨w192, r193, b194, t195⟩ := b_storeN (P := Try.prog) (all' := #[.int .i64 r176.1, .string r176.2.1, .int .i64 y97]) (.inr trivial) (stn_183 _ rfl) (M.e 0 rfl) (M.e 2 rfl) b190 (show 3 ≤ 3 by decide) (by simp [Value.oneCell']) rfl
   have b194 : Box w192 o188 102 g186 183 #[.int .i64 r176.1, .string r176.2.1, .int .i64 y97] := b194
   refine os rfl (wp0 rfl) rfl (r193 _ _ _ _ _) <| pn (j := 11) E 1 M rfl rfl fun a M => x_end rfl <| q_then <| c_seq <| c_reg ?_
   have u20 := ((q169.kn t185).kn t191).kk t195 rfl
   refine ov rfl rfl M (x_load ld_175 (M.e 15 rfl) (u20.cell (n := 0) rfl)) fun a M => ov rfl rfl M (x_loadN (ldn_183 _ rfl) (M.e 2 rfl) (b194.sub (cs := #[.int .i64 r176.1, .string r176.2.1, .int .i64 y97]) 0 rfl)) fun a M => ?_
   have r198 : (Instr.buildSlice 175 1 #[(0, .agg #[.int .i64 r176.1, .string r176.2.1, .int .i64 y97])]).run Try.prog w192 = .ok (.slice (some ⟨w192.heap.size, 0, none⟩) 1 1) (w192.alloc (.cells ([.int .i64 r176.1, .string r176.2.1, .int .i64 y97] : List Value).toArray 183)) := by go_simp
   obtain ⟨b199, t200⟩ := Row.lit (E := tyToken) (e := 183) (l := [(⟨r176.1, r176.2.1, y97⟩ : Token)]) (by decide) w192 o188 103 (cs := [.int .i64 r176.1, .string r176.2.1, .int .i64 y97]) ⟨[.int .i64 r176.1, .string r176.2.1, .int .i64 y97], _, rfl, (Token_mk w192 o188 (⟨r176.1, r176.2.1, y97⟩ : Token) ), rfl⟩ (by simp)
   generalize hww196 : w192.alloc _ = w196 at r198 b199 t200
   generalize upd o188 _ 103 = o197 at b199 t200
   generalize hgg201 : w192.heap.size = g201 at r198 b199
   clear hww196 hgg201
   refine ov rfl rfl M (x_buildSlice (l1 (M.e 0 rfl)) r198) fun a M => ?_
   obtain ⟨hc202, h⟩ := ifs h
   have u21 := (((q171.kn t185).kn t191).kk t195 rfl rfl).kn t200
   obtain ⟨v203, w204, o205, r206, b207, t208⟩ := run_append el_183 Try.underlying175 175 u21 (by decide) (Src.row b199) hc202
   obtain ⟨A209, c210, rfl, -⟩ := b207.form
   refine ov rfl rfl M (x_append (M.e 2 rfl) (M.e 0 rfl) r206) fun a M => ?_
   obtain ⟨w211, r212, b213, t214⟩ := b_store (P := Try.prog) st_175 (M.e 19 rfl) (M.e 0 rfl) ((u20.kn t200).kk t208 rfl) (show 0 < 1 by decide) rfl rfl
   have b213 : Box w211 o205 100 g2 175 #[.slice A209 (y98 ++ [(⟨r176.1, r176.2.1, y97⟩ : Token)]).length c210] := b213
   refine os rfl (wp0 rfl) rfl (r212 _ _ _ _ _) <| x_end rfl <| q_then <| c_reg <| pn (j := 3) E 3 M rfl rfl fun a M => ?_
   have M := M.pk [0, 1, 2, 7, 21, 22, 23] rfl
   refine pn (j := 4) E 1 M rfl rfl fun a M => x_end rfl <| q_blk <| q_then <| c_reg <| pn (j := 3) E 3 M rfl rfl fun a M => ?_
   obtain ⟨hc215, h⟩ := ifs h
   refine ov rfl rfl M (x_cutsL Try.underlying9 (M.e 1 rfl) (M.e 0 rfl) hc215) fun a M => ?_
   obtain ⟨r216, hr217, h⟩ := bind_some h
   refine oc rfl (wp0 rfl) rfl rfl M (x_call cf_161 (m1 (M.e 0 rfl))) (lex_skipped_calls hr217 (lko_own (T := [(0, 0)]) (o := o205) rfl)) (fun e22 w218 hp219 => ?_)
   obtain ⟨o220, he221, T222⟩ := hp219
   obtain ⟨o223, ho224⟩ := ex (mrg w211 o205 [(0, 0)] o220)
   have t225 := T222.r0 ho224
   refine ⟨_, he221, fun a M => ?_⟩
   refine pn (j := 6) E 1 M rfl rfl fun a M => ?_
   have M := M.pk [0, 1, 2, 3, 4, 5, 11, 12, 13] rfl
   refine pn (j := 7) E 1 M rfl rfl fun a M => x_end rfl ?_
   obtain rfl := sj h
   have u23 := ((((((q170.kn t185).kn t191).kk t195 rfl).kn t200).kk t208 rfl).kk t214 rfl).kn t225
   have u24 := ((((((T172.kn t185).kn t191).kk t195 hown rfl).kn t200).kk t208 hown rfl).kk t214 hown rfl).kn t225
   exact lq_next ⟨o223, (.slice A209 (y98 ++ [(⟨r176.1, r176.2.1, y97⟩ : Token)]).length c210), (M.pk [7, 8, 9, 0] rfl), (b213.kn t225), u23, ((b207.kk t214 rfl rfl).kn t225), u24⟩
  rw [if_neg hk18] at h
  have hk18 := nott hk18
  have M := M.k 17 rfl hk18
  refine c_false (M.e 0 rfl) <| wp_exit <| q_then_exit ?_
  obtain rfl := sj h
  exact lq_exit ⟨rfl, ⟨o168, (.slice A173 y98.length c174), (M.pk [5, 6] rfl), q169, q170, q171, T172⟩⟩
 intro e25 a w228 hO229
 obtain ⟨he230, hO229⟩ := hO229
 subst he230
 obtain ⟨o231, z162, M, q232, q233, q234, T235⟩ := hO229
 obtain ⟨A236, c237, hzc237, -⟩ := q234.form
 subst hzc237
 refine q_blk_here <| q_then <| c_seq <| c_reg <| ov rfl rfl M (x_load ld_175 (M.e 0 rfl) (q232.cell (n := 0) rfl)) fun a M => ?_
 have hb238 : ∀ w : World, (Instr.build 108 #[]).run Try.prog w = .ok (.agg #[.int .i64 (0 : Int), .int .i64 (0 : Int)]) w := fun w => by go_simp
 refine ov rfl rfl M (x_build l0 hb238) fun a M => ?_
 obtain ⟨w239, r240, b241, t242⟩ := b_store (P := Try.prog) st_175 (M.e 2 rfl) (M.e 1 rfl) q232 (show 0 < 1 by decide) rfl rfl
 have b241 : Box w239 o231 100 g2 175 #[.slice A236 x226.length c237] := b241
 refine os rfl (wp0 rfl) rfl (r240 _ _ _ _ _) ?_
 obtain ⟨w243, r244, b245, t246⟩ := b_storeN (P := Try.prog) (all' := #[.int .i64 (0 : Int), .int .i64 (0 : Int)]) (.inr trivial) (stn_108 _ rfl) (M.e 3 rfl) (M.e 0 rfl) (q233.kk t242 rfl) (show 2 ≤ 2 by decide) (by simp [Value.oneCell']) rfl
 have b245 : Box w243 o231 101 g8 108 #[.int .i64 (0 : Int), .int .i64 (0 : Int)] := b245
 refine os rfl (wp0 rfl) rfl (r244 _ _ _ _ _) <| x_end rfl <| q_then <| wp_ret ?_
 have u26 := b241.kk t246 rfl
 have u27 := (q234.kk t242 rfl rfl).kk t246 rfl rfl
 have u28 := (T235.kk t242 hown rfl).kk t246 hown rfl
 obtain ⟨o247, ho248⟩ := ex (lro [(104, 50)] o231)
 have T249 := u28.kw hown ho248 rfl
 have q250 := u26.kw ho248 100 rfl
 have q251 := b245.kw ho248 101 rfl
 have q252 := u27.kw ho248 50 rfl rfl
 obtain rfl := sj h
 exact (show Leaves _ _ _ _ _ _ _ by rw [M.f.defers]; exact leave_one cf_160 (idles_160 _ _) (res2 Try.results123 (rv_cell ld_175 (M.t 2 rfl) (q250.cell (n := 0) rfl)) (rv_cellN (ldn_108 _ rfl) (M.t 3 rfl) (q251.sub (cs := #[.int .i64 (0 : Int), .int .i64 (0 : Int)]) 0 rfl))) ⟨o247, (.slice A236 x226.length c237), rfl, q252, T249⟩)
end Go.Proofs.Ythilemcdhkfhlaa
namespace Go.Proofs.Ythilemcdhkfhlaa
open Go Go.RowKit Go.Gc Go.Proofs
def slices_Index_b0 (k : Nat) (p1 : List Int) (p5 : Int) (y21 : Int) : Option (Int ⊕ (Int ⊕ Unit)) :=
  if (decide (y21 < (p1.length : Int))) = true then ((at? p1 y21).bind fun x46 => if (p5 == x46) = true then (some (.inr (.inl y21))) else (some (.inl (IntKind.wrap .i64 (y21 + (1 : Int)))))) else (some (.inr (.inr ())))
def slices_Index (k : Nat) (p1 : List Int) (p5 : Int) : Option Int :=
  (iter (fun (s : Int) => slices_Index_b0 k p1 p5 s) k (0 : Int)).bind fun x56 => scase x56 (fun x56 => some x56) (fun x56 => some (-1 : Int))
theorem slices_Index_calls {k : Nat} {p1 : List Int} {v2 : Value} {p5 : Int} {r : Int} (h : slices_Index k p1 p5 = some r) {w0 : World} {o0 : Own} (hown : Hown o0)
    (i4 : ((tSlice 3 (tInt .i64) (by decide))).im w0 (L o0 0) p1 [v2]) :
    Calls Try.prog 150 #[v2, .int .i64 p5] w0 (fun e w => ∃ (o66 : Own), e = .returned (.int .i64 r) ∧ Tr (Ls o0 []) w0 o0 w o66) := by
 unfold slices_Index at h
 refine startM Try.func150 rfl Try.ntmps150 (show 2 ≤ 19 by decide) fun a M => ?_
 have M : MB 19 [] [(0, v2), (1, .int .i64 p5)] a := M
 obtain ⟨A6, c7, hzc7, -⟩ := im_form i4
 subst hzc7
 have T0 : Tr (Ls o0 []) w0 o0 w0 o0 := Tr.refl _ _ _
 refine c_seq <| c_reg <| pn (j := 1) E 1 M rfl rfl fun a M => x_end rfl <| q_then <| c_seq <| c_seq <| c_reg <| pn (j := 3) E 3 M rfl rfl fun a M => x_end rfl <| q_then <| wp_block ?_
 obtain ⟨x56, hx57, h⟩ := bind_some h
 refine loop_iter (S := Int) (X := (Int ⊕ Unit)) (fun (s : Int) => slices_Index_b0 k p1 p5 s) (fun (s : Int) (a : Act) (w : World) => ∃ (o37 : Own), MB 19 [] [(0, .slice A6 p1.length c7), (1, .int .i64 p5), (7, .int .i64 (p1.length : Int)), (8, .int .i64 s)] a ∧ ((tSlice 3 (tInt .i64) (by decide))).im w (L o37 0) p1 [.slice A6 p1.length c7] ∧ Tr (Ls o0 []) w0 o0 w o37) (fun (x : (Int ⊕ Unit)) (e : Exit) (a : Act) (w : World) => (match x with | .inl x => (e = .ret ∧ ∃ (o38 : Own), MB 19 [] [(4, .int .i64 x)] a ∧ Tr (Ls o0 []) w0 o0 w o38) | .inr x => (e = .exit 0 ∧ ∃ (o39 : Own), MB 19 [] [] a ∧ Tr (Ls o0 []) w0 o0 w o39))) ?_ hx57 ⟨o0, (M.pk [4, 5, 1, 0] rfl), i4, T0⟩ ?_
 ·rintro y21 a w40 r41 hI42 h
  replace h : slices_Index_b0 k p1 p5 y21 = some r41 := h
  unfold slices_Index_b0 at h
  obtain ⟨o43, M, i44, T45⟩ := hI42
  refine c_seq <| c_reg <| pn (j := 1) E 1 M rfl rfl fun a M => x_end rfl <| q_then <| c_seq ?_
  by_cases hk8 : (decide (y21 < (p1.length : Int))) = true
  ·rw [if_pos hk8] at h
   have M := M.k 9 rfl hk8
   refine c_true (M.e 0 rfl) <| wp_skip <| q_then <| c_seq <| wp_block <| c_seq <| c_reg <| pn (j := 2) E 2 M rfl rfl fun a M => x_end rfl <| q_then <| c_seq <| c_reg <| pn (j := 3) E 3 M rfl rfl fun a M => ?_
   obtain ⟨x46, hx47, h⟩ := bind_some h
   obtain ⟨hx470, hx471, hx472⟩ := at_some hx47
   obtain ⟨g48, f49, c50, ds51, hv52, hd53, he54⟩ := im_elem i44 hx471
   have hsds51 : ds51 = [.int .i64 x46] := hd53
   subst hsds51
   have he54 : ElemAt w40 o43 0 g48 f49 (y21).toNat 1 [.int .i64 x46] := he54
   refine ov rfl rfl M (x_indexAddr Try.underlying26 sz_3 ((M.e 1 rfl).trans hv52) (M.e 0 rfl) hx470 hx472) fun a M => ov rfl rfl M (x_load ld_3 (M.e 0 rfl) (he54.2 0 _ rfl)) fun a M => pn (j := 6) E 1 M rfl rfl fun a M => x_end rfl <| q_then ?_
   by_cases hk9 : (p5 == x46) = true
   ·rw [if_pos hk9] at h
    have M := M.k 16 rfl hk9
    refine c_true (M.e 0 rfl) <| c_seq <| c_reg <| pn (j := 2) E 2 M rfl rfl fun a M => x_end rfl <| q_then <| wp_ret <| q_blk_ret <| q_then_ret ?_
    obtain rfl := sj h
    exact lq_ret ⟨rfl, ⟨o43, (M.pk [0] rfl), T45⟩⟩
   rw [if_neg hk9] at h
   have hk9 := nott hk9
   have M := M.k 16 rfl hk9
   refine c_false (M.e 0 rfl) <| wp_skip <| q_blk <| q_then <| c_reg <| pn (j := 1) E 1 M rfl rfl fun a M => ?_
   have M := M.pk [0, 10, 11, 12] rfl
   refine pn (j := 2) E 1 M rfl rfl fun a M => x_end rfl ?_
   obtain rfl := sj h
   exact lq_next ⟨o43, (M.pk [2, 3, 4, 0] rfl), i44, T45⟩
  rw [if_neg hk8] at h
  have hk8 := nott hk8
  have M := M.k 9 rfl hk8
  refine c_false (M.e 0 rfl) <| wp_exit <| q_then_exit ?_
  obtain rfl := sj h
  exact lq_exit ⟨rfl, ⟨o43, (M.pk [] rfl), T45⟩⟩
 intro e10 a w58 hO59
 rcases x56 with x56 | x56
 ·rw [scase_l] at h
  obtain ⟨he60, hO59⟩ := hO59
  subst he60
  obtain ⟨o61, M, T62⟩ := hO59
  refine q_blk_ret <| q_then_ret ?_
  obtain rfl := sj h
  exact ⟨M.f.defers, _, (res1 Try.results150 (rv_tmp (M.t 0 rfl))), ⟨o61, rfl, T62⟩⟩
 rw [scase_r] at h
 obtain ⟨he63, hO59⟩ := hO59
 subst he63
 obtain ⟨o64, M, T65⟩ := hO59
 refine q_blk_here <| q_then <| c_seq <| c_reg <| pn (j := 1) E 1 M rfl rfl fun a M => x_end rfl <| q_then <| wp_ret ?_
 obtain rfl := sj h
 exact ⟨M.f.defers, _, (res1 Try.results150 (rv_tmp (M.t 0 rfl))), ⟨o64, rfl, T65⟩⟩
end Go.Proofs.Ythilemcdhkfhlaa
namespace Go.Proofs.Ythilemcdhkfhlaa
open Go Go.RowKit Go.Gc Go.Proofs
def slices_Contains (k : Nat) (p1 : List Int) (p5 : Int) : Option Bool :=
  (slices_Index k p1 p5).bind fun r8 => some (decide ((0 : Int) ≤ r8))
theorem slices_Contains_calls {k : Nat} {p1 : List Int} {v2 : Value} {p5 : Int} {r : Bool} (h : slices_Contains k p1 p5 = some r) {w0 : World} {o0 : Own} (hown : Hown o0)
    (i4 : ((tSlice 3 (tInt .i64) (by decide))).im w0 (L o0 0) p1 [v2]) :
    Calls Try.prog 111 #[v2, .int .i64 p5] w0 (fun e w => ∃ (o18 : Own), e = .returned (.bool r) ∧ Tr (Ls o0 []) w0 o0 w o18) := by
 unfold slices_Contains at h
 refine startM Try.func111 rfl Try.ntmps111 (show 2 ≤ 9 by decide) fun a M => ?_
 have M : MB 9 [] [(0, v2), (1, .int .i64 p5)] a := M
 obtain ⟨A6, c7, hzc7, -⟩ := im_form i4
 subst hzc7
 have T0 : Tr (Ls o0 []) w0 o0 w0 o0 := Tr.refl _ _ _
 refine c_seq <| c_reg <| pn (j := 1) E 1 M rfl rfl fun a M => x_end rfl <| q_then <| c_seq <| c_reg <| pn (j := 2) E 2 M rfl rfl fun a M => ?_
 obtain ⟨r8, hr9, h⟩ := bind_some h
 refine oc rfl (wp0 rfl) rfl rfl M (x_call cf_150 (m2 (M.e 1 rfl) (M.e 0 rfl))) (slices_Index_calls hr9 (lko_own (T := [(0, 0)]) (o := o0) rfl) (sL i4 rfl)) (fun e1 w10 hp11 => ?_)
 obtain ⟨o12, he13, T14⟩ := hp11
 obtain ⟨o15, ho16⟩ := ex (mrg w0 o0 [(0, 0)] o12)
 have t17 := T14.r0 ho16
 refine ⟨_, he13, fun a M => ?_⟩
 refine pn (j := 4) E 1 M rfl rfl fun a M => ?_
 have M := M.pk [0, 1, 2, 3, 5, 6] rfl
 refine pn (j := 5) E 1 M rfl rfl fun a M => x_end rfl <| q_then <| wp_ret ?_
 have u2 := T0.kn t17
 obtain rfl := sj h
 exact ⟨M.f.defers, _, (res1 Try.results111 (rv_tmp (M.t 0 rfl))), ⟨o15, rfl, u2⟩⟩
end Go.Proofs.Ythilemcdhkfhlaa
namespace Go.Proofs.Ythilemcdhkfhlaa
open Go Go.RowKit Go.Gc Go.Proofs
def read_reader_next (k : Nat) (p1 : List Int) (p6 : List Token) (p10 : Int) (p13 : List Alt) : Option (Int × ByteArray × Int) :=
  if ((p6.length : Int) == (0 : Int)) = true then (none) else ((at? p6 (0 : Int)).bind fun x27 => (slices_Contains k p1 x27.kind).bind fun r47 => if (!r47) = true then (none) else (if 0 ≤ (1 : Int) ∧ (1 : Int) ≤ (p6.length : Int) ∧ (p6.length : Int) ≤ (p6.length : Int) then (some (x27.kind, x27.text, x27.at_)) else none))
theorem read_reader_next_calls {k : Nat} {p1 : List Int} {v2 : Value} {g5 : Nat} {p6 : List Token} {v7 : Value} {p10 : Int} {v12 : Value} {p13 : List Alt} {r : (Int × ByteArray × Int)} (h : read_reader_next k p1 p6 p10 p13 = some r) {w0 : World} {o0 : Own} (hown : Hown o0)
    (i4 : ((tSlice 3 (tInt .i64) (by decide))).im w0 (L o0 0) p1 [v2])
    (i9 : ((tSlice 183 tyToken (by decide))).im w0 (L o0 0) p6 [v7])
    (q11 : Box w0 o0 1 g5 220 #[v7, .int .i64 p10, v12])
    (q14 : Row tyAlt 185 w0 o0 2 v12 p13) :
    Calls Try.prog 188 #[.pointer (some ⟨g5, 0, none⟩), v2] w0 (fun e w => ∃ (o71 : Own) (z74 : Value) (z76 : Value), e = .returned (.agg #[.int .i64 r.1, .string r.2.1, .int .i64 r.2.2]) ∧ Box w o71 1 g5 220 #[z74, .int .i64 p10, z76] ∧ Row tyAlt 185 w o71 2 z76 p13 ∧ (tSlice 183 tyToken (by decide)).im w (L o71 0) (cutl p6 (1 : Int).toNat (p6.length : Int).toNat) [z74] ∧ Tr (Ls o0 [1]) w0 o0 w o71) := by
 unfold read_reader_next at h
 refine startM Try.func188 rfl Try.ntmps188 (show 2 ≤ 42 by decide) fun a M => ?_
 have M : MB 42 [] [(0, .pointer (some ⟨g5, 0, none⟩)), (1, v2)] a := M
 obtain ⟨A15, c16, hzc16, -⟩ := q14.form
 subst hzc16
 obtain ⟨A17, c18, hzc18, -⟩ := im_form i4
 subst hzc18
 obtain ⟨A19, c20, hzc20, -⟩ := im_form i9
 subst hzc20
 have T0 : Tr (Ls o0 [1]) w0 o0 w0 o0 := Tr.refl _ _ _
 refine c_seq <| c_reg ?_
 obtain ⟨g21, w22, o23, r24, b25, t26⟩ := b_alloc zv_183 a w0 o0 100
 refine ov rfl rfl M (r24 _ _ _ _ _) fun a M => x_end rfl <| q_then <| c_seq <| c_seq <| c_reg <| pn (j := 3) E 3 M rfl rfl fun a M => ov rfl rfl M (x_load ld_175 (M.e 0 rfl) ((q11.kn t26).cell (n := 0) rfl)) fun a M => pn (j := 6) E 2 M rfl rfl fun a M => x_end rfl <| q_then ?_
 by_cases hk2 : ((p6.length : Int) == (0 : Int)) = true
 ·rw [if_pos hk2] at h
  have M := M.k 11 rfl hk2
  refine c_true (M.e 0 rfl) ?_
  exact absurd h (by simp)
 rw [if_neg hk2] at h
 have hk2 := nott hk2
 have M := M.k 11 rfl hk2
 refine c_false (M.e 0 rfl) <| wp_skip <| q_then <| c_seq <| c_reg <| pn (j := 3) E 3 M rfl rfl fun a M => ov rfl rfl M (x_load ld_175 (M.e 0 rfl) ((q11.kn t26).cell (n := 0) rfl)) fun a M => ?_
 obtain ⟨x27, hx28, h⟩ := bind_some h
 obtain ⟨hx280, hx281, hx282⟩ := at_some hx28
 obtain ⟨g29, f30, c31, ds32, hv33, hd34, he35⟩ := im_elem (iN i9 t26) hx281
 have hsds32 := Token_open hd34
 subst hsds32
 have he35 : ElemAt w22 o23 0 g29 f30 ((0 : Int)).toNat 3 [.int .i64 x27.kind, .string x27.text, .int .i64 x27.at_] := he35
 refine ov rfl rfl M (x_indexAddr Try.underlying175 sz_183 ((M.e 0 rfl).trans hv33) (e_const (v := .int .i64 (0 : Int))) hx280 hx282) fun a M => ov rfl rfl M (x_loadN (ldn_183 _ rfl) (M.e 0 rfl) he35.all) fun a M => ?_
 obtain ⟨g37, w38, o39, r40, b41, t42⟩ := b_alloc zv_183 a w22 o23 101
 refine ov rfl rfl M (r40 _ _ _ _ _) fun a M => ?_
 obtain ⟨w43, r44, b45, t46⟩ := b_storeN (P := Try.prog) (all' := #[.int .i64 x27.kind, .string x27.text, .int .i64 x27.at_]) (.inr trivial) (stn_183 _ rfl) (M.e 0 rfl) (M.e 1 rfl) b41 (show 3 ≤ 3 by decide) (by simp [Value.oneCell']) rfl
 have b45 : Box w43 o39 101 g37 183 #[.int .i64 x27.kind, .string x27.text, .int .i64 x27.at_] := b45
 refine os rfl (wp0 rfl) rfl (r44 _ _ _ _ _) <| x_end rfl <| q_then <| c_seq <| c_seq <| c_reg <| pn (j := 2) E 2 M rfl rfl fun a M => ov rfl rfl M (x_load ld_3 (M.e 0 rfl) (b45.cell (n := 0) rfl)) fun a M => ?_
 have u3 := iK (iN (iN i4 t26) t42) t46 rfl
 obtain ⟨r47, hr48, h⟩ := bind_some h
 refine oc rfl (wp0 rfl) rfl rfl M (x_call cf_111 (m2 (M.e 2 rfl) (M.e 0 rfl))) (slices_Contains_calls hr48 (lko_own (T := [(0, 0)]) (o := o39) rfl) (sL u3 rfl)) (fun e4 w49 hp50 => ?_)
 obtain ⟨o51, he52, T53⟩ := hp50
 obtain ⟨o54, ho55⟩ := ex (mrg w43 o39 [(0, 0)] o51)
 have t56 := T53.r0 ho55
 refine ⟨_, he52, fun a M => ?_⟩
 refine pn (j := 5) E 1 M rfl rfl fun a M => x_end rfl <| q_then ?_
 by_cases hk5 : (!r47) = true
 ·rw [if_pos hk5] at h
  have M := M.k 28 rfl hk5
  refine c_true (M.e 0 rfl) ?_
  exact absurd h (by simp)
 rw [if_neg hk5] at h
 have hk5 := nott hk5
 have M := M.k 28 rfl hk5
 refine c_false (M.e 0 rfl) <| wp_skip <| q_then <| c_seq <| c_reg <| pn (j := 4) E 4 M rfl rfl fun a M => ?_
 have u6 := (((q11.kn t26).kn t42).kk t46 rfl).kn t56
 refine ov rfl rfl M (x_load ld_175 (M.e 0 rfl) (u6.cell (n := 0) rfl)) fun a M => ?_
 obtain ⟨hc57, h⟩ := ifs h
 have u7 := iN (iK (iN (iN i9 t26) t42) t46 rfl) t56
 obtain ⟨A58, c59, r60, b61⟩ := b_cutL (P := Try.prog) (w := w49) (l := p6) (e := 183) (sz := 3) (T := 175) (R := fun v => (tSlice 183 tyToken (by decide)).im w49 (L o54 0) (cutl p6 (1 : Int).toNat (p6.length : Int).toNat) [v]) Try.underlying175 sz_183 (M.e 0 rfl) (e_const (v := .int .i64 (1 : Int))) (im_cap u7) hc57 (cutIm u7 hc57)
 have b61 : (tSlice 183 tyToken (by decide)).im w49 (L o54 0) (cutl p6 (1 : Int).toNat (p6.length : Int).toNat) [.slice A58 (cutl p6 (1 : Int).toNat (p6.length : Int).toNat).length c59] := b61
 refine ov rfl rfl M (r60 _ _ _ _ _) fun a M => pn (j := 8) E 2 M rfl rfl fun a M => ?_
 obtain ⟨w63, r64, b65, t66⟩ := b_store (P := Try.prog) st_175 (M.e 0 rfl) (M.e 2 rfl) u6 (show 0 < 3 by decide) rfl rfl
 have b65 : Box w63 o54 1 g5 220 #[.slice A58 (cutl p6 (1 : Int).toNat (p6.length : Int).toNat).length c59, .int .i64 p10, .slice A15 p13.length c16] := b65
 refine os rfl (wp0 rfl) rfl (r64 _ _ _ _ _) <| x_end rfl <| q_then <| c_seq <| c_reg <| ov rfl rfl M (x_loadN (ldn_183 _ rfl) (M.e 13 rfl) (((b45.kn t56).kk t66 rfl).sub (cs := #[.int .i64 x27.kind, .string x27.text, .int .i64 x27.at_]) 0 rfl)) fun a M => ?_
 have u8 := (((b25.kn t42).kk t46 rfl).kn t56).kk t66 rfl
 obtain ⟨w67, r68, b69, t70⟩ := b_storeN (P := Try.prog) (all' := #[.int .i64 x27.kind, .string x27.text, .int .i64 x27.at_]) (.inr trivial) (stn_183 _ rfl) (M.e 27 rfl) (M.e 0 rfl) u8 (show 3 ≤ 3 by decide) (by simp [Value.oneCell']) rfl
 have b69 : Box w67 o54 100 g21 183 #[.int .i64 x27.kind, .string x27.text, .int .i64 x27.at_] := b69
 refine os rfl (wp0 rfl) rfl (r68 _ _ _ _ _) <| x_end rfl <| q_then <| wp_ret ?_
 have u9 := (((((q14.kn t26).kn t42).kk t46 rfl rfl).kn t56).kk t66 rfl rfl).kk t70 rfl rfl
 have u10 := (((((T0.kn t26).kn t42).kk t46 hown rfl).kn t56).kk t66 hown rfl).kk t70 hown rfl
 obtain rfl := sj h
 exact ⟨M.f.defers, _, (res1 Try.results188 (rv_cellN (ldn_183 _ rfl) (M.t 27 rfl) (b69.sub (cs := #[.int .i64 x27.kind, .string x27.text, .int .i64 x27.at_]) 0 rfl))), ⟨o54, (.slice A58 (cutl p6 (1 : Int).toNat (p6.length : Int).toNat).length c59), (.slice A15 p13.length c16), rfl, (b65.kk t70 rfl), u9, (iK (iK b61 t66 rfl) t70 rfl), u10⟩⟩
end Go.Proofs.Ythilemcdhkfhlaa
namespace Go.Proofs.Ythilemcdhkfhlaa
open Go Go.RowKit Go.Gc Go.Proofs
def read_reader_alt_b0 (k : Nat) (p1 : Token) (p7 : Int) (p10 : List Alt) (y192 : List Token) (y196 : List Token) : Option (((List Token) × (List Token)) ⊕ (Bool × (List Token) × (List Alt))) :=
  (read_reader_next k [(1 : Int), (2 : Int), (4 : Int), (5 : Int)] y192 p7 p10).bind fun r423 => if (r423.1 == (1 : Int)) = true then (if y196.length + [(⟨r423.1, r423.2.1, r423.2.2⟩ : Token)].length ≤ 1000000000 then (some (.inl (cutl y192 (1 : Int).toNat (y192.length : Int).toNat, y196 ++ [(⟨r423.1, r423.2.1, r423.2.2⟩ : Token)]))) else none) else (if (r423.1 == (2 : Int)) = true then (if y196.length + [(⟨r423.1, r423.2.1, r423.2.2⟩ : Token)].length ≤ 1000000000 then (some (.inl (cutl y192 (1 : Int).toNat (y192.length : Int).toNat, y196 ++ [(⟨r423.1, r423.2.1, r423.2.2⟩ : Token)]))) else none) else (if (decide ((60 : Int) ≤ (p10.length : Int))) = true then (none) else (if (decide ((8 : Int) < (y196.length : Int))) = true then (none) else (if p10.length + [(⟨p1, y196⟩ : Alt)].length ≤ 1000000000 then (some (.inr (r423.1 == (4 : Int), cutl y192 (1 : Int).toNat (y192.length : Int).toNat, p10 ++ [(⟨p1, y196⟩ : Alt)]))) else none))))
def read_reader_alt (k : Nat) (p1 : Token) (p3 : List Token) (p7 : Int) (p10 : List Alt) : Option (Bool × (List Token) × (List Alt)) :=
  (iter (fun (s : ((List Token) × (List Token))) => read_reader_alt_b0 k p1 p7 p10 s.1 s.2) k (p3, [])).bind fun x569 => some (x569.1, x569.2.1, x569.2.2)
theorem read_reader_alt_calls {k : Nat} {p1 : Token} {g2 : Nat} {p3 : List Token} {v4 : Value} {p7 : Int} {v9 : Value} {p10 : List Alt} {r : (Bool × (List Token) × (List Alt))} (h : read_reader_alt k p1 p3 p7 p10 = some r) {w0 : World} {o0 : Own} (hown : Hown o0)
    (i6 : ((tSlice 183 tyToken (by decide))).im w0 (L o0 0) p3 [v4])
    (q8 : Box w0 o0 1 g2 220 #[v4, .int .i64 p7, v9])
    (q11 : Row tyAlt 185 w0 o0 2 v9 p10) :
    Calls Try.prog 189 #[.pointer (some ⟨g2, 0, none⟩), .agg #[.int .i64 p1.kind, .string p1.text, .int .i64 p1.at_]] w0 (fun e w => ∃ (o583 : Own) (z585 : Value) (z588 : Value), e = .returned (.bool r.1) ∧ Box w o583 1 g2 220 #[z585, .int .i64 p7, z588] ∧ Row tyAlt 185 w o583 2 z588 r.2.2 ∧ (tSlice 183 tyToken (by decide)).im w (L o583 0) r.2.1 [z585] ∧ Tr (Ls o0 [1, 2]) w0 o0 w o583) := by
 unfold read_reader_alt at h
 refine startM Try.func189 rfl Try.ntmps189 (show 2 ≤ 55 by decide) fun a M => ?_
 have M : MB 55 [] [(0, .pointer (some ⟨g2, 0, none⟩)), (1, .agg #[.int .i64 p1.kind, .string p1.text, .int .i64 p1.at_])] a := M
 obtain ⟨A12, c13, hzc13, -⟩ := q11.form
 subst hzc13
 obtain ⟨A14, c15, hzc15, -⟩ := im_form i6
 subst hzc15
 have T0 : Tr (Ls o0 [1, 2]) w0 o0 w0 o0 := Tr.refl _ _ _
 refine c_seq <| c_reg ?_
 obtain ⟨g16, w17, o18, r19, b20, t21⟩ := b_box (P := Try.prog) (T := 183) (M.e 1 rfl) w0 o0 100
 refine ov rfl rfl M (r19 _ _ _ _ _) fun a M => pn (j := 2) E 1 M rfl rfl fun a M => x_end rfl <| q_then <| c_seq <| c_reg <| ov rfl rfl M (x_loadN (ldn_183 _ rfl) (M.e 1 rfl) (b20.sub (cs := #[.int .i64 p1.kind, .string p1.text, .int .i64 p1.at_]) 0 rfl)) fun a M => ?_
 have hb22 : ∀ w : World, (Instr.build 185 #[(0, .agg #[.int .i64 p1.kind, .string p1.text, .int .i64 p1.at_])]).run Try.prog w = .ok (.agg #[.int .i64 p1.kind, .string p1.text, .int .i64 p1.at_, .slice none 0 0]) w := fun w => by go_simp
 refine ov rfl rfl M (x_build (l1 (M.e 0 rfl)) hb22) fun a M => ?_
 obtain ⟨g23, w24, o25, r26, b27, t28⟩ := b_alloc zv_185 a w17 o18 101
 refine ov rfl rfl M (r26 _ _ _ _ _) fun a M => ?_
 obtain ⟨w29, r30, b31, t32⟩ := b_storeN (P := Try.prog) (all' := #[.int .i64 p1.kind, .string p1.text, .int .i64 p1.at_, .slice none 0 0]) (.inr trivial) (stn_185 _ rfl) (M.e 0 rfl) (M.e 1 rfl) b27 (show 4 ≤ 4 by decide) (by simp [Value.oneCell']) rfl
 have b31 : Box w29 o25 101 g23 185 #[.int .i64 p1.kind, .string p1.text, .int .i64 p1.at_, .slice none 0 0] := b31
 refine os rfl (wp0 rfl) rfl (r30 _ _ _ _ _) <| x_end rfl <| q_then <| wp_block ?_
 have u62 := iK (iN (iN i6 t21) t28) t32 rfl
 have u63 := ((q8.kn t21).kn t28).kk t32 rfl
 have u64 := ((q11.kn t21).kn t28).kk t32 rfl rfl
 have u65 := ((T0.kn t21).kn t28).kk t32 hown rfl
 obtain ⟨x569, hx570, h⟩ := bind_some h
 refine loop_iter (S := ((List Token) × (List Token))) (X := (Bool × (List Token) × (List Alt))) (fun (s : ((List Token) × (List Token))) => read_reader_alt_b0 k p1 p7 p10 s.1 s.2) (fun (s : ((List Token) × (List Token))) (a : Act) (w : World) => ∃ (o387 : Own) (z193 : Value) (z195 : Value) (z197 : Value), MB 55 [] [(0, .pointer (some ⟨g2, 0, none⟩)), (3, .pointer (some ⟨g16, 0, none⟩)), (5, .pointer (some ⟨g23, 0, none⟩))] a ∧ Box w o387 1 g2 220 #[z193, .int .i64 p7, z195] ∧ Box w o387 100 g16 183 #[.int .i64 p1.kind, .string p1.text, .int .i64 p1.at_] ∧ Box w o387 101 g23 185 #[.int .i64 p1.kind, .string p1.text, .int .i64 p1.at_, z197] ∧ Row tyAlt 185 w o387 2 z195 p10 ∧ Row tyToken 183 w o387 104 z197 s.2 ∧ (tSlice 183 tyToken (by decide)).im w (L o387 0) s.1 [z193] ∧ Tr (Ls o0 [1, 2]) w0 o0 w o387) (fun (x : (Bool × (List Token) × (List Alt))) (e : Exit) (a : Act) (w : World) => (e = .ret ∧ ∃ (o388 : Own) (z383 : Value) (z386 : Value), MB 55 [] [(4, .bool x.1)] a ∧ Box w o388 1 g2 220 #[z383, .int .i64 p7, z386] ∧ Row tyAlt 185 w o388 2 z386 x.2.2 ∧ (tSlice 183 tyToken (by decide)).im w (L o388 0) x.2.1 [z383] ∧ Tr (Ls o0 [1, 2]) w0 o0 w o388)) ?_ hx570 ⟨o25, (.slice A14 p3.length c15), (.slice A12 p10.length c13), (.slice none 0 0), (M.pk [5, 4, 0] rfl), u63, ((b20.kn t28).kk t32 rfl), b31, u64, (Row.nil tyToken 183 w29 o25 104), u62, u65⟩ ?_
 ·rintro ⟨y192, y196⟩ a w389 r390 hI391 h
  replace h : read_reader_alt_b0 k p1 p7 p10 y192 y196 = some r390 := h
  unfold read_reader_alt_b0 at h
  obtain ⟨o392, z193, z195, z197, M, q393, q394, q395, q396, q397, i398, T399⟩ := hI391
  obtain ⟨A400, c401, hzc401, -⟩ := q396.form
  subst hzc401
  obtain ⟨A402, c403, hzc403, -⟩ := q397.form
  subst hzc403
  obtain ⟨A404, c405, hzc405, -⟩ := im_form i398
  subst hzc405
  refine wp_block <| c_seq <| c_reg <| pn (j := 1) E 1 M rfl rfl fun a M => ?_
  have r408 : (Instr.buildSlice 26 4 #[(0, .int .i64 (1 : Int)), (1, .int .i64 (2 : Int)), (2, .int .i64 (4 : Int)), (3, .int .i64 (5 : Int))]).run Try.prog w389 = .ok (.slice (some ⟨w389.heap.size, 0, none⟩) 4 4) (w389.alloc (.cells ([.int .i64 (1 : Int), .int .i64 (2 : Int), .int .i64 (4 : Int), .int .i64 (5 : Int)] : List Value).toArray 3)) := by go_simp
  obtain ⟨b409, t410⟩ := Row.lit (E := (tInt .i64)) (e := 3) (l := [(1 : Int), (2 : Int), (4 : Int), (5 : Int)]) (by decide) w389 o392 102 (cs := [.int .i64 (1 : Int), .int .i64 (2 : Int), .int .i64 (4 : Int), .int .i64 (5 : Int)]) ⟨[.int .i64 (1 : Int)], _, rfl, rfl, ⟨[.int .i64 (2 : Int)], _, rfl, rfl, ⟨[.int .i64 (4 : Int)], _, rfl, rfl, ⟨[.int .i64 (5 : Int)], _, rfl, rfl, rfl⟩⟩⟩⟩ (by simp)
  generalize hww406 : w389.alloc _ = w406 at r408 b409 t410
  generalize upd o392 _ 102 = o407 at b409 t410
  generalize hgg411 : w389.heap.size = g411 at r408 b409
  clear hww406 hgg411
  refine ov rfl rfl M (x_buildSlice (l4 (e_const (v := .int .i64 (1 : Int))) (e_const (v := .int .i64 (2 : Int))) (e_const (v := .int .i64 (4 : Int))) (e_const (v := .int .i64 (5 : Int)))) r408) fun a M => ?_
  have u66 := q393.kn t410
  have u67 := q394.kn t410
  have u68 := q395.kn t410
  have u69 := q396.kn t410
  have u70 := q397.kn t410
  have u71 := iN i398 t410
  have u72 := T399.kn t410
  obtain ⟨o412, ho413⟩ := ex (lro [(102, 0)] o407)
  have T414 := u72.kw hown ho413 rfl
  have i415 := iW u71 ho413 rfl
  have q416 := u66.kw ho413 1 rfl
  have q417 := u67.kw ho413 100 rfl
  have q418 := u68.kw ho413 101 rfl
  have q419 := u69.kw ho413 2 rfl rfl
  have q420 := u70.kw ho413 104 rfl rfl
  have q421 := b409.kz (hE := by decide) ho413 rfl rfl
  obtain ⟨r423, hr424, h⟩ := bind_some h
  refine oc rfl (wp0 rfl) rfl rfl M (x_call cf_188 (m2 (M.e 1 rfl) (M.e 0 rfl))) (read_reader_next_calls hr424 (lko_own (T := [(0, 0), (1, 1), (2, 2)]) (o := o412) rfl) (sL q421 rfl) (sL i415 rfl) (q416.l rfl) (q419.l rfl rfl)) (fun e73 w425 hp426 => ?_)
  obtain ⟨o429, z427, z428, he430, q431, q432, i433, T434⟩ := hp426
  obtain ⟨o435, ho436⟩ := ex (mrg w406 o412 [(0, 0), (1, 1), (2, 2)] o429)
  have t437 := T434.r1 ho436 1 rfl rfl
  have q438 := q431.r T434 ho436 1 rfl rfl
  have q439 := q432.r T434 ho436 2 rfl rfl rfl rfl
  have i440 := iR i433 T434 ho436 rfl rfl
  refine ⟨_, he430, fun a M => ?_⟩
  obtain ⟨A442, c443, hzc443, -⟩ := q439.form
  subst hzc443
  obtain ⟨A444, c445, hzc445, -⟩ := im_form i440
  subst hzc445
  obtain ⟨g446, w447, o448, r449, b450, t451⟩ := b_alloc zv_183 a w425 o435 102
  refine ov rfl rfl M (r449 _ _ _ _ _) fun a M => ?_
  obtain ⟨w452, r453, b454, t455⟩ := b_storeN (P := Try.prog) (all' := #[.int .i64 r423.1, .string r423.2.1, .int .i64 r423.2.2]) (.inr trivial) (stn_183 _ rfl) (M.e 0 rfl) (M.e 1 rfl) b450 (show 3 ≤ 3 by decide) (by simp [Value.oneCell']) rfl
  have b454 : Box w452 o448 102 g446 183 #[.int .i64 r423.1, .string r423.2.1, .int .i64 r423.2.2] := b454
  refine os rfl (wp0 rfl) rfl (r453 _ _ _ _ _) <| x_end rfl <| q_then <| c_seq <| c_seq <| c_reg <| pn (j := 1) E 1 M rfl rfl fun a M => ov rfl rfl M (x_load ld_3 (M.e 0 rfl) (b454.cell (n := 0) rfl)) fun a M => pn (j := 4) E 2 M rfl rfl fun a M => ?_
  by_cases hk82 : (r423.1 == (1 : Int)) = true
  ·rw [if_pos hk82] at h
   have M := M.k 15 rfl hk82
   refine pn (j := 8) E 4 M rfl rfl fun a M => x_end rfl <| q_then <| c_true (M.e 0 rfl) <| c_seq <| c_reg <| pn (j := 1) E 1 M rfl rfl fun a M => ?_
   have u83 := ((q418.kk t437 rfl).kn t451).kk t455 rfl
   refine ov rfl rfl M (x_load ld_175 (M.e 0 rfl) (u83.cell (n := 3) rfl)) fun a M => ov rfl rfl M (x_loadN (ldn_183 _ rfl) (M.e 10 rfl) (b454.sub (cs := #[.int .i64 r423.1, .string r423.2.1, .int .i64 r423.2.2]) 0 rfl)) fun a M => ?_
   have r496 : (Instr.buildSlice 175 1 #[(0, .agg #[.int .i64 r423.1, .string r423.2.1, .int .i64 r423.2.2])]).run Try.prog w452 = .ok (.slice (some ⟨w452.heap.size, 0, none⟩) 1 1) (w452.alloc (.cells ([.int .i64 r423.1, .string r423.2.1, .int .i64 r423.2.2] : List Value).toArray 183)) := by go_simp
   obtain ⟨b497, t498⟩ := Row.lit (E := tyToken) (e := 183) (l := [(⟨r423.1, r423.2.1, r423.2.2⟩ : Token)]) (by decide) w452 o448 103 (cs := [.int .i64 r423.1, .string r423.2.1, .int .i64 r423.2.2]) ⟨[.int .i64 r423.1, .string r423.2.1, .int .i64 r423.2.2], _, rfl, (Token_mk w452 o448 (⟨r423.1, r423.2.1, r423.2.2⟩ : Token) ), rfl⟩ (by simp)
   generalize hww494 : w452.alloc _ = w494 at r496 b497 t498
   generalize upd o448 _ 103 = o495 at b497 t498
   generalize hgg499 : w452.heap.size = g499 at r496 b497
   clear hww494 hgg499
   refine ov rfl rfl M (x_buildSlice (l1 (M.e 0 rfl)) r496) fun a M => ?_
   obtain ⟨hc500, h⟩ := ifs h
   have u84 := (((q420.kk t437 rfl rfl).kn t451).kk t455 rfl rfl).kn t498
   obtain ⟨v501, w502, o503, r504, b505, t506⟩ := run_append el_183 Try.underlying175 175 u84 (by decide) (Src.row b497) hc500
   obtain ⟨A507, c508, rfl, -⟩ := b505.form
   refine ov rfl rfl M (x_append (M.e 2 rfl) (M.e 0 rfl) r504) fun a M => pn (j := 6) E 1 M rfl rfl fun a M => ?_
   obtain ⟨w509, r510, b511, t512⟩ := b_store (P := Try.prog) st_175 (M.e 0 rfl) (M.e 1 rfl) ((u83.kn t498).kk t506 rfl) (show 3 < 4 by decide) rfl rfl
   have b511 : Box w509 o503 101 g23 185 #[.int .i64 p1.kind, .string p1.text, .int .i64 p1.at_, .slice A507 (y196 ++ [(⟨r423.1, r423.2.1, r423.2.2⟩ : Token)]).length c508] := b511
   refine os rfl (wp0 rfl) rfl (r510 _ _ _ _ _) <| x_end rfl <| q_then <| wp_exit <| q_then_exit <| q_blk_here ?_
   obtain rfl := sj h
   have u85 := iK (iK (iN (iK (iN i440 t451) t455 rfl) t498) t506 rfl) t512 rfl
   have u86 := ((((q438.kn t451).kk t455 rfl).kn t498).kk t506 rfl).kk t512 rfl
   have u87 := (((((q417.kk t437 rfl).kn t451).kk t455 rfl).kn t498).kk t506 rfl).kk t512 rfl
   have u88 := ((((q439.kn t451).kk t455 rfl rfl).kn t498).kk t506 rfl rfl).kk t512 rfl rfl
   have u89 := (((((T414.kk t437 hown rfl).kn t451).kk t455 hown rfl).kn t498).kk t506 hown rfl).kk t512 hown rfl
   exact lq_next ⟨o503, (.slice A444 (cutl y192 (1 : Int).toNat (y192.length : Int).toNat).length c445), (.slice A442 p10.length c443), (.slice A507 (y196 ++ [(⟨r423.1, r423.2.1, r423.2.2⟩ : Token)]).length c508), (M.pk [18, 19, 20] rfl), u86, u87, b511, u88, (b505.kk t512 rfl rfl), u85, u89⟩
  rw [if_neg hk82] at h
  have hk82 := nott hk82
  have M := M.k 15 rfl hk82
  refine pn (j := 5) E 1 M rfl rfl fun a M => ow rfl (wanted_yes rfl rfl (M.t 1 rfl)) rfl rfl M (x_load ld_3 (M.e 0 rfl) (b454.cell (n := 0) rfl)) fun a M => pn (j := 8) E 2 M rfl rfl fun a M => x_end rfl <| q_then ?_
  by_cases hk90 : (r423.1 == (2 : Int)) = true
  ·rw [if_pos hk90] at h
   have M := M.k 19 rfl hk90
   refine c_true (M.e 0 rfl) <| c_seq <| c_reg <| pn (j := 1) E 1 M rfl rfl fun a M => ?_
   have u91 := ((q418.kk t437 rfl).kn t451).kk t455 rfl
   refine ov rfl rfl M (x_load ld_175 (M.e 0 rfl) (u91.cell (n := 3) rfl)) fun a M => ov rfl rfl M (x_loadN (ldn_183 _ rfl) (M.e 10 rfl) (b454.sub (cs := #[.int .i64 r423.1, .string r423.2.1, .int .i64 r423.2.2]) 0 rfl)) fun a M => ?_
   have r515 : (Instr.buildSlice 175 1 #[(0, .agg #[.int .i64 r423.1, .string r423.2.1, .int .i64 r423.2.2])]).run Try.prog w452 = .ok (.slice (some ⟨w452.heap.size, 0, none⟩) 1 1) (w452.alloc (.cells ([.int .i64 r423.1, .string r423.2.1, .int .i64 r423.2.2] : List Value).toArray 183)) := by go_simp
   obtain ⟨b516, t517⟩ := Row.lit (E := tyToken) (e := 183) (l := [(⟨r423.1, r423.2.1, r423.2.2⟩ : Token)]) (by decide) w452 o448 103 (cs := [.int .i64 r423.1, .string r423.2.1, .int .i64 r423.2.2]) ⟨[.int .i64 r423.1, .string r423.2.1, .int .i64 r423.2.2], _, rfl, (Token_mk w452 o448 (⟨r423.1, r423.2.1, r423.2.2⟩ : Token) ), rfl⟩ (by simp)
   generalize hww513 : w452.alloc _ = w513 at r515 b516 t517
   generalize upd o448 _ 103 = o514 at b516 t517
   generalize hgg518 : w452.heap.size = g518 at r515 b516
   clear hww513 hgg518
   refine ov rfl rfl M (x_buildSlice (l1 (M.e 0 rfl)) r515) fun a M => ?_
   obtain ⟨hc519, h⟩ := ifs h
   have u92 := (((q420.kk t437 rfl rfl).kn t451).kk t455 rfl rfl).kn t517
   obtain ⟨v520, w521, o522, r523, b524, t525⟩ := run_append el_183 Try.underlying175 175 u92 (by decide) (Src.row b516) hc519
   obtain ⟨A526, c527, rfl, -⟩ := b524.form
   refine ov rfl rfl M (x_append (M.e 2 rfl) (M.e 0 rfl) r523) fun a M => pn (j := 6) E 1 M rfl rfl fun a M => ?_
   obtain ⟨w528, r529, b530, t531⟩ := b_store (P := Try.prog) st_175 (M.e 0 rfl) (M.e 1 rfl) ((u91.kn t517).kk t525 rfl) (show 3 < 4 by decide) rfl rfl
   have b530 : Box w528 o522 101 g23 185 #[.int .i64 p1.kind, .string p1.text, .int .i64 p1.at_, .slice A526 (y196 ++ [(⟨r423.1, r423.2.1, r423.2.2⟩ : Token)]).length c527] := b530
   refine os rfl (wp0 rfl) rfl (r529 _ _ _ _ _) <| x_end rfl <| q_then <| wp_exit <| q_then_exit <| q_blk_here ?_
   obtain rfl := sj h
   have u93 := iK (iK (iN (iK (iN i440 t451) t455 rfl) t517) t525 rfl) t531 rfl
   have u94 := ((((q438.kn t451).kk t455 rfl).kn t517).kk t525 rfl).kk t531 rfl
   have u95 := (((((q417.kk t437 rfl).kn t451).kk t455 rfl).kn t517).kk t525 rfl).kk t531 rfl
   have u96 := ((((q439.kn t451).kk t455 rfl rfl).kn t517).kk t525 rfl rfl).kk t531 rfl rfl
   have u97 := (((((T414.kk t437 hown rfl).kn t451).kk t455 hown rfl).kn t517).kk t525 hown rfl).kk t531 hown rfl
   exact lq_next ⟨o522, (.slice A444 (cutl y192 (1 : Int).toNat (y192.length : Int).toNat).length c445), (.slice A442 p10.length c443), (.slice A526 (y196 ++ [(⟨r423.1, r423.2.1, r423.2.2⟩ : Token)]).length c527), (M.pk [18, 19, 20] rfl), u94, u95, b530, u96, (b524.kk t531 rfl rfl), u93, u97⟩
  rw [if_neg hk90] at h
  have hk90 := nott hk90
  have M := M.k 19 rfl hk90
  refine c_false (M.e 0 rfl) <| wp_skip <| q_then <| c_seq <| c_seq <| c_reg <| pn (j := 3) E 3 M rfl rfl fun a M => ov rfl rfl M (x_load ld_179 (M.e 0 rfl) (((q438.kn t451).kk t455 rfl).cell (n := 2) rfl)) fun a M => pn (j := 7) E 3 M rfl rfl fun a M => ?_
  by_cases hk103 : (decide ((60 : Int) ≤ (p10.length : Int))) = true
  ·rw [if_pos hk103] at h
   have M := M.k 32 rfl hk103
   refine pn (j := 12) E 5 M rfl rfl fun a M => x_end rfl <| q_then <| c_true (M.e 0 rfl) ?_
   exact absurd h (by simp)
  rw [if_neg hk103] at h
  have hk103 := nott hk103
  have M := M.k 32 rfl hk103
  refine pn (j := 8) E 1 M rfl rfl fun a M => ?_
  have u104 := ((q418.kk t437 rfl).kn t451).kk t455 rfl
  refine ow rfl (wanted_yes rfl rfl (M.t 1 rfl)) rfl rfl M (x_load ld_175 (M.e 0 rfl) (u104.cell (n := 3) rfl)) fun a M => pn (j := 12) E 3 M rfl rfl fun a M => x_end rfl <| q_then ?_
  by_cases hk105 : (decide ((8 : Int) < (y196.length : Int))) = true
  ·rw [if_pos hk105] at h
   have M := M.k 37 rfl hk105
   refine c_true (M.e 0 rfl) ?_
   exact absurd h (by simp)
  rw [if_neg hk105] at h
  have hk105 := nott hk105
  have M := M.k 37 rfl hk105
  refine c_false (M.e 0 rfl) <| wp_skip <| q_then <| c_seq ?_
  have u106 := ((q420.kk t437 rfl rfl).kn t451).kk t455 rfl rfl
  have u107 := (q438.kn t451).kk t455 rfl
  have u108 := (q439.kn t451).kk t455 rfl rfl
  have u109 := iK (iN i440 t451) t455 rfl
  have u110 := ((T414.kk t437 hown rfl).kn t451).kk t455 hown rfl
  obtain ⟨o532, ho533⟩ := ex (lro [(104, 0)] o448)
  have T534 := u110.kw hown ho533 rfl
  have i535 := iW u109 ho533 rfl
  have q536 := u104.kw ho533 101 rfl
  have q537 := u106.kz (hE := by decide) ho533 rfl rfl
  have q539 := u107.kw ho533 1 rfl
  have q540 := u108.kw ho533 2 rfl rfl
  have q541 := b454.kw ho533 102 rfl
  obtain ⟨hc549, h⟩ := ifs h
  refine draw_m mixed [0, 0, 2, 6, 14, 0, 32, 126, 255, 511, 1023] (by kernel_rfl) rfl M (fun U a w => ∃ (o : Own) (g548 : Nat) (A556 : Option Addr) (c557 : Nat), Tab [(0, 42, .pointer (some ⟨g2, 0, none⟩)), (1, 43, .pointer (some ⟨g2, 0, none⟩)), (2, 44, .pointer (some ⟨g2, 0, none⟩)), (3, 45, .pointer (some ⟨g2, 2, none⟩)), (4, 46, .slice A442 p10.length c443), (5, 47, .agg #[.int .i64 p1.kind, .string p1.text, .int .i64 p1.at_, .slice A402 y196.length c403]), (8, 50, .pointer (some ⟨g2, 0, none⟩)), (9, 51, .pointer (some ⟨g2, 2, none⟩))] U a ∧ Tab [(6, 48, .slice (some ⟨g548, 0, none⟩) 1 1)] U a ∧ Tab [(7, 49, .slice A556 (p10 ++ [(⟨p1, y196⟩ : Alt)]).length c557)] U a ∧ Tr (FL [(7, 2), (10, 1)] o532 U) w452 o532 w o ∧ (U 6 = true → Row tyAlt 185 w o 100 (.slice (some ⟨g548, 0, none⟩) 1 1) [(⟨p1, y196⟩ : Alt)]) ∧ (U 7 = true → Row tyAlt 185 w o 2 (.slice A556 (p10 ++ [(⟨p1, y196⟩ : Alt)]).length c557) (p10 ++ [(⟨p1, y196⟩ : Alt)])) ∧ (U 10 = true → Box w o 1 g2 220 #[.slice A444 (cutl y192 (1 : Int).toNat (y192.length : Int).toNat).length c445, .int .i64 p7, .slice A556 (p10 ++ [(⟨p1, y196⟩ : Alt)]).length c557])) ?_ ⟨?_, ?_, ?_, ?_, ?_, ?_, ?_, ?_, ?_, ?_, ?_, trivial⟩ ?_
  ·exact ⟨o532, 0, none, 0, Tab.start, Tab.start, Tab.start, FL.start (tr_drew _ _), fun h => Bool.noConfusion h, fun h => Bool.noConfusion h, fun h => Bool.noConfusion h⟩
  ·intro U a w M hL hA hD hI
   obtain ⟨o, g548, A556, c557, TG0, TG1, TG2, tr, FE0, FE1, FE2⟩ := hI
   refine dv rfl rfl M (x_move (M.e 24 rfl)) fun a' p => ?_
   exact ⟨M.st p rfl, o, g548, A556, c557, (TG0.step p 0 rfl rfl), (TG1.other p rfl), (TG2.other p rfl), (FL.idle tr), FE0, FE1, FE2⟩
  ·intro U a w M hL hA hD hI
   obtain ⟨o, g548, A556, c557, TG0, TG1, TG2, tr, FE0, FE1, FE2⟩ := hI
   refine dv rfl rfl M (x_move (M.e 24 rfl)) fun a' p => ?_
   exact ⟨M.st p rfl, o, g548, A556, c557, (TG0.step p 1 rfl rfl), (TG1.other p rfl), (TG2.other p rfl), (FL.idle tr), FE0, FE1, FE2⟩
  ·intro U a w M hL hA hD hI
   obtain ⟨o, g548, A556, c557, TG0, TG1, TG2, tr, FE0, FE1, FE2⟩ := hI
   refine dv rfl rfl M (x_nilCheck (e_tmp (TG0.get 1 rfl (hA 1 rfl)))) fun a' p => ?_
   exact ⟨M.st p rfl, o, g548, A556, c557, (TG0.step p 2 rfl rfl), (TG1.other p rfl), (TG2.other p rfl), (FL.idle tr), FE0, FE1, FE2⟩
  ·intro U a w M hL hA hD hI
   obtain ⟨o, g548, A556, c557, TG0, TG1, TG2, tr, FE0, FE1, FE2⟩ := hI
   refine dv rfl rfl M (x_fieldAddr fa_220_2 (e_tmp (TG0.get 2 rfl (hA 2 rfl))) rfl) fun a' p => ?_
   exact ⟨M.st p rfl, o, g548, A556, c557, (TG0.step p 3 rfl rfl), (TG1.other p rfl), (TG2.other p rfl), (FL.idle tr), FE0, FE1, FE2⟩
  ·intro U a w M hL hA hD hI
   obtain ⟨o, g548, A556, c557, TG0, TG1, TG2, tr, FE0, FE1, FE2⟩ := hI
   refine dv rfl rfl M (x_load ld_179 (e_tmp (TG0.get 3 rfl (hA 3 rfl))) ((q539.keep_ (FL.same tr ⟨fun h => absurd h (ne rfl), ⟨fun _ => (hD 10 rfl), trivial⟩⟩)).cell (n := 2) rfl)) fun a' p => ?_
   exact ⟨M.st p rfl, o, g548, A556, c557, (TG0.step p 4 rfl rfl), (TG1.other p rfl), (TG2.other p rfl), (FL.idle tr), FE0, FE1, FE2⟩
  ·intro U a w M hL hA hD hI
   obtain ⟨o, g548, A556, c557, TG0, TG1, TG2, tr, FE0, FE1, FE2⟩ := hI
   refine dv rfl rfl M (x_loadN (ldn_185 _ rfl) (M.e 26 rfl) ((q536.keep_ (FL.same tr ⟨fun h => absurd h (ne rfl), ⟨fun h => absurd h (ne rfl), trivial⟩⟩)).sub (cs := #[.int .i64 p1.kind, .string p1.text, .int .i64 p1.at_, .slice A402 y196.length c403]) 0 rfl)) fun a' p => ?_
   exact ⟨M.st p rfl, o, g548, A556, c557, (TG0.step p 5 rfl rfl), (TG1.other p rfl), (TG2.other p rfl), (FL.idle tr), FE0, FE1, FE2⟩
  ·intro U a w M hL hA hD hI
   obtain ⟨o, g548, A556, c557, TG0, TG1, TG2, tr, FE0, FE1, FE2⟩ := hI
   have r545 : (Instr.buildSlice 179 1 #[(0, .agg #[.int .i64 p1.kind, .string p1.text, .int .i64 p1.at_, .slice A402 y196.length c403])]).run Try.prog w = .ok (.slice (some ⟨w.heap.size, 0, none⟩) 1 1) (w.alloc (.cells ([.int .i64 p1.kind, .string p1.text, .int .i64 p1.at_, .slice A402 y196.length c403] : List Value).toArray 185)) := by go_simp
   obtain ⟨b546, t547⟩ := Row.lit (E := tyAlt) (e := 185) (l := [(⟨p1, y196⟩ : Alt)]) (by decide) w o 100 (cs := [.int .i64 p1.kind, .string p1.text, .int .i64 p1.at_, .slice A402 y196.length c403]) ⟨[.int .i64 p1.kind, .string p1.text, .int .i64 p1.at_, .slice A402 y196.length c403], _, rfl, (Alt_mk w o (⟨p1, y196⟩ : Alt) (Ty.loc _ (FL.same tr ⟨fun h => absurd h (ne rfl), ⟨fun h => absurd h (ne rfl), trivial⟩⟩) q537)), rfl⟩ (by simp)
   generalize hww543 : w.alloc _ = w543 at r545 b546 t547
   generalize upd o _ 100 = o544 at b546 t547
   generalize hgg548 : w.heap.size = g548 at r545 b546
   clear hww543 hgg548
   refine dv rfl rfl M (x_buildSlice (l1 (e_tmp (TG0.get 5 rfl (hA 5 rfl)))) r545) fun a' p => ?_
   exact ⟨M.st p rfl, o544, g548, A556, c557, (TG0.other p rfl), (Tab.mk hD p 0 rfl rfl), (TG2.other p rfl), (FL.stepNo tr t547), (fun _ => b546), (fun h => ab (hD 7 rfl) rfl h), (fun h => ab (hD 10 rfl) rfl h)⟩
  ·intro U a w M hL hA hD hI
   obtain ⟨o, g548, A556, c557, TG0, TG1, TG2, tr, FE0, FE1, FE2⟩ := hI
   obtain ⟨v550, w551, o552, r553, b554, t555⟩ := run_append el_185 Try.underlying179 179 (q540.keep_ (FL.same tr ⟨fun _ => hL, ⟨fun h => absurd h (ne rfl), trivial⟩⟩) (FL.same tr ⟨fun h => absurd h (ne rfl), ⟨fun h => absurd h (ne rfl), trivial⟩⟩)) (by decide) (Src.row (FE0 (hA 6 rfl))) hc549
   obtain ⟨A556, c557, rfl, -⟩ := b554.form
   refine dv rfl rfl M (x_append (e_tmp (TG0.get 4 rfl (hA 4 rfl))) (e_tmp (TG1.get 0 rfl (hA 6 rfl))) r553) fun a' p => ?_
   exact ⟨M.st p rfl, o552, g548, A556, c557, (TG0.other p rfl), (TG1.other p rfl), (Tab.mk hD p 0 rfl rfl), (FL.stk tr t555 rfl), (fun h0 => (FE0 h0).keep_ (t555.sameK (ne rfl)) (t555.sameK (ne rfl))), (fun _ => b554), (fun h => ab (hD 10 rfl) rfl h)⟩
  ·intro U a w M hL hA hD hI
   obtain ⟨o, g548, A556, c557, TG0, TG1, TG2, tr, FE0, FE1, FE2⟩ := hI
   refine dv rfl rfl M (x_nilCheck (e_tmp (TG0.get 0 rfl (hA 0 rfl)))) fun a' p => ?_
   exact ⟨M.st p rfl, o, g548, A556, c557, (TG0.step p 6 rfl rfl), (TG1.other p rfl), (TG2.other p rfl), (FL.idle tr), FE0, FE1, FE2⟩
  ·intro U a w M hL hA hD hI
   obtain ⟨o, g548, A556, c557, TG0, TG1, TG2, tr, FE0, FE1, FE2⟩ := hI
   refine dv rfl rfl M (x_fieldAddr fa_220_2 (e_tmp (TG0.get 6 rfl (hA 8 rfl))) rfl) fun a' p => ?_
   exact ⟨M.st p rfl, o, g548, A556, c557, (TG0.step p 7 rfl rfl), (TG1.other p rfl), (TG2.other p rfl), (FL.idle tr), FE0, FE1, FE2⟩
  ·intro U a w M hL hA hD hI
   obtain ⟨o, g548, A556, c557, TG0, TG1, TG2, tr, FE0, FE1, FE2⟩ := hI
   obtain ⟨w558, r559, b560, t561⟩ := b_store (P := Try.prog) st_179 (e_tmp (TG0.get 7 rfl (hA 9 rfl))) (e_tmp (TG2.get 0 rfl (hA 7 rfl))) (q539.keep_ (FL.same tr ⟨fun h => absurd h (ne rfl), ⟨fun _ => hL, trivial⟩⟩)) (show 2 < 3 by decide) rfl rfl
   have b560 : Box w558 o 1 g2 220 #[.slice A444 (cutl y192 (1 : Int).toNat (y192.length : Int).toNat).length c445, .int .i64 p7, .slice A556 (p10 ++ [(⟨p1, y196⟩ : Alt)]).length c557] := b560
   refine o_skip rfl (wp0 rfl) rfl (r559 _ _ _ _ _) ?_
   exact ⟨M, o, g548, A556, c557, (TG0.idle rfl), (TG1.idle rfl), (TG2.idle rfl), (FL.stk tr t561 rfl), (fun h0 => (FE0 h0).keep_ (t561.sameK (ne rfl)) (t561.sameK (ne rfl))), (fun h0 => (FE1 h0).keep_ (t561.sameK (ne rfl)) (t561.sameK (ne rfl))), (fun _ => b560)⟩
  intro U a w562 M hA hI
  obtain ⟨o563, g548, A556, c557, TG0, TG1, TG2, tr, FE0, FE1, FE2⟩ := hI
  have q564 := (FE2 (hA 10 rfl))
  have q565 := (FE1 (hA 7 rfl))
  have q566 := (q541.keep_ (FL.same tr ⟨fun h => absurd h (ne rfl), ⟨fun h => absurd h (ne rfl), trivial⟩⟩))
  have i567 := (Ty.loc _ (FL.same tr ⟨fun h => absurd h (ne rfl), ⟨fun h => absurd h (ne rfl), trivial⟩⟩) i535)
  have T568 := Tr.kf T534 tr hown rfl
  clear hA TG0 TG1 TG2 tr FE0 FE1 FE2
  refine q_then <| c_seq <| c_reg <| pn (j := 1) E 1 M rfl rfl fun a M => ov rfl rfl M (x_load ld_3 (M.e 0 rfl) (q566.cell (n := 0) rfl)) fun a M => pn (j := 4) E 2 M rfl rfl fun a M => x_end rfl <| q_then <| wp_ret <| q_blk_ret ?_
  obtain rfl := sj h
  exact lq_ret ⟨rfl, ⟨o563, (.slice A444 (cutl y192 (1 : Int).toNat (y192.length : Int).toNat).length c445), (.slice A556 (p10 ++ [(⟨p1, y196⟩ : Alt)]).length c557), (M.pk [0] rfl), q564, q565, i567, T568⟩⟩
 intro e111 a w571 hO572
 obtain ⟨he573, hO572⟩ := hO572
 subst he573
 obtain ⟨o574, z383, z386, M, q575, q576, i577, T578⟩ := hO572
 obtain ⟨A579, c580, hzc580, -⟩ := q576.form
 subst hzc580
 obtain ⟨A581, c582, hzc582, -⟩ := im_form i577
 subst hzc582
 refine q_blk_ret ?_
 obtain rfl := sj h
 exact ⟨M.f.defers, _, (res1 Try.results189 (rv_tmp (M.t 0 rfl))), ⟨o574, (.slice A581 x569.2.1.length c582), (.slice A579 x569.2.2.length c580), rfl, q575, q576, i577, T578⟩⟩
end Go.Proofs.Ythilemcdhkfhlaa
