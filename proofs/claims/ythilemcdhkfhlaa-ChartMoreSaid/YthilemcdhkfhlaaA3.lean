/- The law ChartMore returns true for every input, and its arguments read afterwards as before. Part 3 of 6. -/
import Derived.Test.YthilemcdhkfhlaaA2
set_option linter.unusedVariables false
set_option linter.unusedSimpArgs false
set_option maxRecDepth 100000
set_option maxHeartbeats 20000000
namespace Go.Proofs.Ythilemcdhkfhlaa
open Go Go.RowKit Go.Gc Go.Proofs
def grammar_ruled_b0 (k : Nat) (p1 : Grammar) (y198 : Int) : Option (Int ⊕ (Unit ⊕ Unit)) :=
  if (decide (y198 < (p1.rules.length : Int))) = true then ((at? p1.rules y198).bind fun x365 => if (decide (x365.left < (p1.terms.length : Int))) = true then (some (.inr (.inl ()))) else (if (decide ((IntKind.wrap .i64 ((p1.terms.length : Int) + (p1.names.length : Int))) ≤ x365.left)) = true then (some (.inr (.inl ()))) else (if (decide ((8 : Int) < (x365.right.length : Int))) = true then (some (.inr (.inl ()))) else (if 0 ≤ (0 : Int) ∧ (0 : Int) ≤ y198 ∧ y198 ≤ (p1.rules.length : Int) then ((grammar_has k (cutl p1.rules (0 : Int).toNat y198.toNat) x365).bind fun r479 => if r479 = true then (some (.inr (.inl ()))) else ((slices_ContainsFunc_1 k x365.right (IntKind.wrap .i64 ((p1.terms.length : Int) + (p1.names.length : Int)))).bind fun r500 => if r500 = true then (some (.inr (.inl ()))) else (some (.inl (IntKind.wrap .i64 (y198 + (1 : Int))))))) else none)))) else (some (.inr (.inr ())))
def grammar_ruled (k : Nat) (p1 : Grammar) : Option Bool :=
  (if (decide ((p1.rules.length : Int) < (1 : Int))) = true then (some true) else (some (decide ((60 : Int) < (p1.rules.length : Int))))).bind fun x25 => if x25 = true then (some false) else ((iter (fun (s : Int) => grammar_ruled_b0 k p1 s) k (0 : Int)).bind fun x510 => scase x510 (fun x510 => some false) (fun x510 => some true))
theorem grammar_ruled_calls {k : Nat} {p1 : Grammar} {v2 : Value} {v5 : Value} {v8 : Value} {r : Bool} (h : grammar_ruled k p1 = some r) {w0 : World} {o0 : Own} (hown : Hown o0)
    (i4 : ((tSlice 9 tStr (by decide))).im w0 (L o0 0) p1.terms [v2])
    (i7 : ((tSlice 9 tStr (by decide))).im w0 (L o0 0) p1.names [v5])
    (i10 : ((tSlice 28 tyRule (by decide))).im w0 (L o0 0) p1.rules [v8]) :
    Calls Try.prog 132 #[.agg #[v2, v5, v8]] w0 (fun e w => ∃ (o520 : Own), e = .returned (.bool r) ∧ Tr (Ls o0 []) w0 o0 w o520) := by
 unfold grammar_ruled at h
 refine startM Try.func132 rfl Try.ntmps132 (show 1 ≤ 62 by decide) fun a M => ?_
 have M : MB 62 [] [(0, .agg #[v2, v5, v8])] a := M
 obtain ⟨A11, c12, hzc12, -⟩ := im_form i4
 subst hzc12
 obtain ⟨A13, c14, hzc14, -⟩ := im_form i7
 subst hzc14
 obtain ⟨A15, c16, hzc16, -⟩ := im_form i10
 subst hzc16
 have T0 : Tr (Ls o0 []) w0 o0 w0 o0 := Tr.refl _ _ _
 refine c_seq <| c_reg ?_
 obtain ⟨g17, w18, o19, r20, b21, t22⟩ := b_box (P := Try.prog) (T := 25) (M.e 0 rfl) w0 o0 100
 refine ov rfl rfl M (r20 _ _ _ _ _) fun a M => pn (j := 2) E 1 M rfl rfl fun a M => x_end rfl <| q_then <| c_seq <| c_seq ?_
 obtain ⟨x25, hx26, h⟩ := bind_some h
 refine cut_c (fun (x : Bool) (e : Exit) (a : Act) (w : World) => (e = .normal ∧ ∃ (o24 : Own), MB 62 [] [(1, .pointer (some ⟨g17, 0, none⟩)), (15, .bool x)] a ∧ Box w o24 100 g17 25 #[.slice A11 p1.terms.length c12, .slice A13 p1.names.length c14, .slice A15 p1.rules.length c16] ∧ ((tSlice 9 tStr (by decide))).im w (L o24 0) p1.terms [.slice A11 p1.terms.length c12] ∧ ((tSlice 9 tStr (by decide))).im w (L o24 0) p1.names [.slice A13 p1.names.length c14] ∧ ((tSlice 28 tyRule (by decide))).im w (L o24 0) p1.rules [.slice A15 p1.rules.length c16] ∧ Tr (Ls o0 []) w0 o0 w o24)) x25 ?_ ?_
 ·replace h := hx26
  refine c_reg <| pn (j := 1) E 1 M rfl rfl fun a M => ov rfl rfl M (x_load ld_23 (M.e 0 rfl) (b21.cell (n := 2) rfl)) fun a M => pn (j := 5) E 3 M rfl rfl fun a M => ?_
  by_cases hk4 : (decide ((p1.rules.length : Int) < (1 : Int))) = true
  ·rw [if_pos hk4] at h
   have M := M.k 10 rfl hk4
   refine pn (j := 10) E 5 M rfl rfl fun a M => x_end rfl ?_
   obtain rfl := sj h
   have u5 := T0.kn t22
   exact ⟨rfl, ⟨o19, (M.pk [11, 0] rfl), b21, (iN i4 t22), (iN i7 t22), (iN i10 t22), u5⟩⟩
  rw [if_neg hk4] at h
  have hk4 := nott hk4
  have M := M.k 10 rfl hk4
  refine pn (j := 6) E 1 M rfl rfl fun a M => ow rfl (wanted_yes rfl rfl (M.t 1 rfl)) rfl rfl M (x_load ld_23 (M.e 0 rfl) (b21.cell (n := 2) rfl)) fun a M => pn (j := 10) E 3 M rfl rfl fun a M => x_end rfl ?_
  obtain rfl := sj h
  have u6 := T0.kn t22
  exact ⟨rfl, ⟨o19, (M.pk [11, 0] rfl), b21, (iN i4 t22), (iN i7 t22), (iN i10 t22), u6⟩⟩
 intro e7 a w27 hO28
 obtain ⟨he29, hO28⟩ := hO28
 subst he29
 obtain ⟨o30, M, q31, i32, i33, i34, T35⟩ := hO28
 refine q_then ?_
 by_cases hk8 : x25 = true
 ·rw [if_pos hk8] at h
  have M := M.k 15 rfl hk8
  refine c_true (M.e 1 rfl) <| c_seq <| c_reg <| pn (j := 1) E 1 M rfl rfl fun a M => x_end rfl <| q_then <| wp_ret <| q_then_ret ?_
  obtain rfl := sj h
  exact ⟨M.f.defers, _, (res1 Try.results132 (rv_tmp (M.t 0 rfl))), ⟨o30, rfl, T35⟩⟩
 rw [if_neg hk8] at h
 have hk8 := nott hk8
 have M := M.k 15 rfl hk8
 refine c_false (M.e 1 rfl) <| wp_skip <| q_then <| c_seq <| c_reg <| pn (j := 1) E 1 M rfl rfl fun a M => ov rfl rfl M (x_load ld_22 (M.e 0 rfl) (q31.cell (n := 0) rfl)) fun a M => pn (j := 4) E 2 M rfl rfl fun a M => ov rfl rfl M (x_load ld_22 (M.e 0 rfl) (q31.cell (n := 1) rfl)) fun a M => pn (j := 7) E 2 M rfl rfl fun a M => ?_
 obtain ⟨g36, w37, o38, r39, b40, t41⟩ := b_alloc zv_3 a w27 o30 101
 refine ov rfl rfl M (r39 _ _ _ _ _) fun a M => ?_
 obtain ⟨w42, r43, b44, t45⟩ := b_store (P := Try.prog) st_3 (M.e 0 rfl) (M.e 1 rfl) b40 (show 0 < 1 by decide) rfl rfl
 have b44 : Box w42 o38 101 g36 3 #[.int .i64 (IntKind.wrap .i64 ((p1.terms.length : Int) + (p1.names.length : Int)))] := b44
 refine os rfl (wp0 rfl) rfl (r43 _ _ _ _ _) <| x_end rfl <| q_then <| c_seq <| c_seq <| c_reg <| pn (j := 1) E 1 M rfl rfl fun a M => ov rfl rfl M (x_load ld_23 (M.e 0 rfl) (((q31.kn t41).kk t45 rfl).cell (n := 2) rfl)) fun a M => pn (j := 4) E 2 M rfl rfl fun a M => x_end rfl <| q_then <| wp_block ?_
 have u81 := (T35.kn t41).kk t45 hown rfl
 obtain ⟨x510, hx511, h⟩ := bind_some h
 refine loop_iter (S := Int) (X := (Unit ⊕ Unit)) (fun (s : Int) => grammar_ruled_b0 k p1 s) (fun (s : Int) (a : Act) (w : World) => ∃ (o352 : Own), MB 62 [] [(1, .pointer (some ⟨g17, 0, none⟩)), (3, .pointer (some ⟨g36, 0, none⟩)), (24, .slice A15 p1.rules.length c16), (25, .int .i64 (p1.rules.length : Int)), (26, .int .i64 s)] a ∧ Box w o352 100 g17 25 #[.slice A11 p1.terms.length c12, .slice A13 p1.names.length c14, .slice A15 p1.rules.length c16] ∧ Box w o352 101 g36 3 #[.int .i64 (IntKind.wrap .i64 ((p1.terms.length : Int) + (p1.names.length : Int)))] ∧ ((tSlice 28 tyRule (by decide))).im w (L o352 0) p1.rules [.slice A15 p1.rules.length c16] ∧ ((tSlice 9 tStr (by decide))).im w (L o352 0) p1.terms [.slice A11 p1.terms.length c12] ∧ ((tSlice 9 tStr (by decide))).im w (L o352 0) p1.names [.slice A13 p1.names.length c14] ∧ Tr (Ls o0 []) w0 o0 w o352) (fun (x : (Unit ⊕ Unit)) (e : Exit) (a : Act) (w : World) => (match x with | .inl x => (e = .ret ∧ ∃ (o353 : Own), MB 62 [] [(2, .bool false)] a ∧ Tr (Ls o0 []) w0 o0 w o353) | .inr x => (e = .exit 0 ∧ ∃ (o354 : Own), MB 62 [] [] a ∧ Tr (Ls o0 []) w0 o0 w o354))) ?_ hx511 ⟨o38, (M.pk [12, 4, 2, 1, 0] rfl), ((q31.kn t41).kk t45 rfl), b44, (iK (iN i34 t41) t45 rfl), (iK (iN i32 t41) t45 rfl), (iK (iN i33 t41) t45 rfl), u81⟩ ?_
 ·rintro y198 a w355 r356 hI357 h
  replace h : grammar_ruled_b0 k p1 y198 = some r356 := h
  unfold grammar_ruled_b0 at h
  obtain ⟨o358, M, q359, q360, i361, i362, i363, T364⟩ := hI357
  refine c_seq <| c_reg <| pn (j := 1) E 1 M rfl rfl fun a M => x_end rfl <| q_then <| c_seq ?_
  by_cases hk83 : (decide (y198 < (p1.rules.length : Int))) = true
  ·rw [if_pos hk83] at h
   have M := M.k 27 rfl hk83
   refine c_true (M.e 0 rfl) <| wp_skip <| q_then <| c_seq <| wp_block <| c_seq <| c_reg <| pn (j := 1) E 1 M rfl rfl fun a M => ?_
   obtain ⟨x365, hx366, h⟩ := bind_some h
   obtain ⟨hx3660, hx3661, hx3662⟩ := at_some hx366
   obtain ⟨g367, f368, c369, ds370, hv371, hd372, he373⟩ := im_elem i361 hx3661
   obtain ⟨A374, c375, rfl, i376⟩ := Rule_open hd372
   have he373 : ElemAt w355 o358 0 g367 f368 (y198).toNat 2 [.int .i64 x365.left, .slice A374 x365.right.length c375] := he373
   refine ov rfl rfl M (x_indexAddr Try.underlying23 sz_28 ((M.e 4 rfl).trans hv371) (M.e 6 rfl) hx3660 hx3662) fun a M => ov rfl rfl M (x_loadN (ldn_28 _ rfl) (M.e 0 rfl) he373.all) fun a M => ?_
   obtain ⟨g379, w380, o381, r382, b383, t384⟩ := b_alloc zv_28 a w355 o358 102
   refine ov rfl rfl M (r382 _ _ _ _ _) fun a M => pn (j := 5) E 1 M rfl rfl fun a M => ?_
   obtain ⟨w385, r386, b387, t388⟩ := b_storeN (P := Try.prog) (all' := #[.int .i64 x365.left, .slice A374 x365.right.length c375]) (.inr trivial) (stn_28 _ rfl) (M.e 1 rfl) (M.e 2 rfl) b383 (show 2 ≤ 2 by decide) (by simp [Value.oneCell']) rfl
   have b387 : Box w385 o381 102 g379 28 #[.int .i64 x365.left, .slice A374 x365.right.length c375] := b387
   refine os rfl (wp0 rfl) rfl (r386 _ _ _ _ _) <| x_end rfl <| q_then <| c_seq <| c_seq ?_
   by_cases hk109 : (decide (x365.left < (p1.terms.length : Int))) = true
   ·rw [if_pos hk109] at h
    refine draw_p E mixed [0, 1, 0, 4, 12, 31, 63, 127, 255, 127, 1023, 2047, 4095, 8191, 16383, 32767, 65535, 131071, 262143, 524287, 1048575, 524287, 4194303, 524287, 16777215, 33554431] (by kernel_rfl) rfl M [(1, .int .i64 x365.left), (3, .slice A11 p1.terms.length c12), (5, .bool true)] rfl rfl rfl o381 ⟨fun a w o M G r => qv rfl rfl M rfl (x_load ld_3 (G.e 0 rfl rfl) ((b387.kn r).cell (n := 0) rfl)),
   fun a w o M G r => qv rfl rfl M rfl (x_load ld_22 (G.e 2 rfl rfl) ((((q359.kn t384).kk t388 rfl).kn r).cell (n := 0) rfl)),
   ?_,
   trivial⟩ ?_
    ·intro a w o M G r
     refine dv rfl rfl M (x_lss (G.e 1 rfl rfl) (G.e 4 rfl rfl)) fun a' p => ?_
     exact ⟨o, _, _, rfl, putb p hk109, Tr.refl _ _ _⟩
    intro a w464 o465 M t466
    refine q_then <| c_true (M.e 25 rfl) <| c_seq <| c_reg <| pn (j := 1) E 1 M rfl rfl fun a M => x_end rfl <| q_then <| wp_ret <| q_then_ret <| q_blk_ret <| q_then_ret ?_
    obtain rfl := sj h
    have u110 := ((T364.kn t384).kk t388 hown rfl).kn t466
    exact lq_ret ⟨rfl, ⟨o465, (M.pk [0] rfl), u110⟩⟩
   rw [if_neg hk109] at h
   have hk109 := nott hk109
   by_cases hk111 : (decide ((IntKind.wrap .i64 ((p1.terms.length : Int) + (p1.names.length : Int))) ≤ x365.left)) = true
   ·rw [if_pos hk111] at h
    refine draw_p E mixed [0, 1, 0, 4, 12, 31, 63, 127, 255, 127, 1023, 2047, 4095, 8191, 16383, 32767, 65535, 131071, 262143, 524287, 1048575, 524287, 4194303, 524287, 16777215, 33554431] (by kernel_rfl) rfl M [(1, .int .i64 x365.left), (3, .slice A11 p1.terms.length c12), (5, .bool false), (8, .int .i64 x365.left), (9, .int .i64 (IntKind.wrap .i64 ((p1.terms.length : Int) + (p1.names.length : Int)))), (10, .bool true), (11, .bool true)] rfl rfl rfl o381 ⟨fun a w o M G r => qv rfl rfl M rfl (x_load ld_3 (G.e 0 rfl rfl) ((b387.kn r).cell (n := 0) rfl)),
   fun a w o M G r => qv rfl rfl M rfl (x_load ld_22 (G.e 2 rfl rfl) ((((q359.kn t384).kk t388 rfl).kn r).cell (n := 0) rfl)),
   ?_,
   fun a w o M G r => qw rfl (wanted_yes rfl rfl (G.t 6 rfl rfl)) rfl rfl M rfl (x_load ld_3 (G.e 7 rfl rfl) ((b387.kn r).cell (n := 0) rfl)),
   fun a w o M G r => qw rfl (wanted_yes rfl rfl (G.t 6 rfl rfl)) rfl rfl M rfl (x_load ld_3 (M.e 7 rfl) ((((q360.kn t384).kk t388 rfl).kn r).cell (n := 0) rfl)),
   ?_,
   fun a w o M G r => qv rfl rfl M rfl (x_pick0 (y := (.const (.bool true))) (G.t 6 rfl rfl) (G.e 10 rfl rfl)),
   trivial⟩ ?_
    ·intro a w o M G r
     refine dv rfl rfl M (x_lss (G.e 1 rfl rfl) (G.e 4 rfl rfl)) fun a' p => ?_
     exact ⟨o, _, _, rfl, putb p hk109, Tr.refl _ _ _⟩
    ·intro a w o M G r
     refine dw rfl (wanted_yes rfl rfl (G.t 6 rfl rfl)) rfl rfl M (x_geq (G.e 8 rfl rfl) (G.e 9 rfl rfl)) fun a' p => ?_
     exact ⟨o, _, _, rfl, putb p hk111, Tr.refl _ _ _⟩
    intro a w467 o468 M t469
    refine q_then <| c_true (M.e 25 rfl) <| c_seq <| c_reg <| pn (j := 1) E 1 M rfl rfl fun a M => x_end rfl <| q_then <| wp_ret <| q_then_ret <| q_blk_ret <| q_then_ret ?_
    obtain rfl := sj h
    have u112 := ((T364.kn t384).kk t388 hown rfl).kn t469
    exact lq_ret ⟨rfl, ⟨o468, (M.pk [0] rfl), u112⟩⟩
   rw [if_neg hk111] at h
   have hk111 := nott hk111
   by_cases hk113 : (decide ((8 : Int) < (x365.right.length : Int))) = true
   ·rw [if_pos hk113] at h
    refine draw_p E mixed [0, 1, 0, 4, 12, 31, 63, 127, 255, 127, 1023, 2047, 4095, 8191, 16383, 32767, 65535, 131071, 262143, 524287, 1048575, 524287, 4194303, 524287, 16777215, 33554431] (by kernel_rfl) rfl M [(1, .int .i64 x365.left), (3, .slice A11 p1.terms.length c12), (5, .bool false), (8, .int .i64 x365.left), (9, .int .i64 (IntKind.wrap .i64 ((p1.terms.length : Int) + (p1.names.length : Int)))), (10, .bool false), (11, .bool false), (14, .slice A374 x365.right.length c375), (16, .bool true), (17, .bool true)] rfl rfl rfl o381 ⟨fun a w o M G r => qv rfl rfl M rfl (x_load ld_3 (G.e 0 rfl rfl) ((b387.kn r).cell (n := 0) rfl)),
   fun a w o M G r => qv rfl rfl M rfl (x_load ld_22 (G.e 2 rfl rfl) ((((q359.kn t384).kk t388 rfl).kn r).cell (n := 0) rfl)),
   ?_,
   fun a w o M G r => qw rfl (wanted_yes rfl rfl (G.t 6 rfl rfl)) rfl rfl M rfl (x_load ld_3 (G.e 7 rfl rfl) ((b387.kn r).cell (n := 0) rfl)),
   fun a w o M G r => qw rfl (wanted_yes rfl rfl (G.t 6 rfl rfl)) rfl rfl M rfl (x_load ld_3 (M.e 7 rfl) ((((q360.kn t384).kk t388 rfl).kn r).cell (n := 0) rfl)),
   ?_,
   fun a w o M G r => qv rfl rfl M rfl (x_pick0 (y := (.const (.bool true))) (G.t 6 rfl rfl) (G.e 10 rfl rfl)),
   fun a w o M G r => qw rfl (wanted_yes rfl rfl (G.t 12 rfl rfl)) rfl rfl M rfl (x_load ld_26 (G.e 13 rfl rfl) ((b387.kn r).cell (n := 1) rfl)),
   ?_,
   fun a w o M G r => qv rfl rfl M rfl (x_pick0 (y := (.const (.bool true))) (G.t 12 rfl rfl) (G.e 16 rfl rfl)),
   trivial⟩ ?_
    ·intro a w o M G r
     refine dv rfl rfl M (x_lss (G.e 1 rfl rfl) (G.e 4 rfl rfl)) fun a' p => ?_
     exact ⟨o, _, _, rfl, putb p hk109, Tr.refl _ _ _⟩
    ·intro a w o M G r
     refine dw rfl (wanted_yes rfl rfl (G.t 6 rfl rfl)) rfl rfl M (x_geq (G.e 8 rfl rfl) (G.e 9 rfl rfl)) fun a' p => ?_
     exact ⟨o, _, _, rfl, putb p hk111, Tr.refl _ _ _⟩
    ·intro a w o M G r
     refine dw rfl (wanted_yes rfl rfl (G.t 12 rfl rfl)) rfl rfl M (x_gtr (G.e 15 rfl rfl) (e_const (v := .int .i64 (8 : Int)))) fun a' p => ?_
     exact ⟨o, _, _, rfl, putb p hk113, Tr.refl _ _ _⟩
    intro a w470 o471 M t472
    refine q_then <| c_true (M.e 25 rfl) <| c_seq <| c_reg <| pn (j := 1) E 1 M rfl rfl fun a M => x_end rfl <| q_then <| wp_ret <| q_then_ret <| q_blk_ret <| q_then_ret ?_
    obtain rfl := sj h
    have u114 := ((T364.kn t384).kk t388 hown rfl).kn t472
    exact lq_ret ⟨rfl, ⟨o471, (M.pk [0] rfl), u114⟩⟩
   rw [if_neg hk113] at h
   have hk113 := nott hk113
   obtain ⟨hc473, h⟩ := ifs h
   obtain ⟨r479, hr480, h⟩ := bind_some h
   have u117 := (T364.kn t384).kk t388 hown rfl
   refine draw_m mixed [0, 1, 0, 4, 12, 31, 63, 127, 255, 127, 1023, 2047, 4095, 8191, 16383, 32767, 65535, 131071, 262143, 524287, 1048575, 524287, 4194303, 524287, 16777215, 33554431] (by kernel_rfl) rfl M (fun U a w => ∃ (o : Own) (A474 : Option Addr) (c475 : Nat), Tab [(0, 31, .pointer (some ⟨g379, 0, none⟩)), (1, 32, .int .i64 x365.left), (2, 33, .pointer (some ⟨g17, 0, none⟩)), (3, 34, .slice A11 p1.terms.length c12), (4, 35, .int .i64 (p1.terms.length : Int)), (5, 36, .bool (decide (x365.left < (p1.terms.length : Int)))), (6, 37, .bool (decide (x365.left < (p1.terms.length : Int)))), (7, 38, .pointer (some ⟨g379, 0, none⟩)), (8, 39, .int .i64 x365.left), (9, 40, .int .i64 (IntKind.wrap .i64 ((p1.terms.length : Int) + (p1.names.length : Int)))), (10, 41, .bool (decide ((IntKind.wrap .i64 ((p1.terms.length : Int) + (p1.names.length : Int))) ≤ x365.left))), (11, 42, .bool (decide ((IntKind.wrap .i64 ((p1.terms.length : Int) + (p1.names.length : Int))) ≤ x365.left))), (12, 43, .bool (decide ((IntKind.wrap .i64 ((p1.terms.length : Int) + (p1.names.length : Int))) ≤ x365.left))), (13, 44, .pointer (some ⟨g379, 1, none⟩)), (14, 45, .slice A374 x365.right.length c375), (15, 46, .int .i64 (x365.right.length : Int)), (16, 47, .bool (decide ((8 : Int) < (x365.right.length : Int)))), (17, 48, .bool (decide ((8 : Int) < (x365.right.length : Int)))), (18, 49, .bool (decide ((8 : Int) < (x365.right.length : Int)))), (19, 50, .pointer (some ⟨g17, 2, none⟩)), (20, 51, .slice A15 p1.rules.length c16), (21, 52, .int .i64 y198), (23, 54, .agg #[.int .i64 x365.left, .slice A374 x365.right.length c375]), (24, 55, .bool r479), (25, 56, .bool r479)] U a ∧ Tab [(22, 53, .slice A474 (cutl p1.rules (0 : Int).toNat y198.toNat).length c475)] U a ∧ Tr (FL [] o381 U) w385 o381 w o ∧ (U 22 = true → (tSlice 28 tyRule (by decide)).im w (L o 0) (cutl p1.rules (0 : Int).toNat y198.toNat) [.slice A474 (cutl p1.rules (0 : Int).toNat y198.toNat).length c475])) ?_ ⟨?_, ?_, ?_, ?_, ?_, ?_, ?_, ?_, ?_, ?_, ?_, ?_, ?_, ?_, ?_, ?_, ?_, ?_, ?_, ?_, ?_, ?_, ?_, ?_, ?_, ?_, trivial⟩ ?_
   ·exact ⟨o381, none, 0, Tab.start, Tab.start, FL.start (tr_drew _ _), fun h => Bool.noConfusion h⟩
   ·intro U a w M hL hA hD hI
    obtain ⟨o, A474, c475, TG0, TG1, tr, FE0⟩ := hI
    refine dv rfl rfl M (x_fieldAddr fa_28_0 (M.e 1 rfl) rfl) fun a' p => ?_
    exact ⟨M.st p rfl, o, A474, c475, (TG0.step p 0 rfl rfl), (TG1.other p rfl), (FL.idle tr), FE0⟩
   ·intro U a w M hL hA hD hI
    obtain ⟨o, A474, c475, TG0, TG1, tr, FE0⟩ := hI
    refine dv rfl rfl M (x_load ld_3 (e_tmp (TG0.get 0 rfl (hA 0 rfl))) ((b387.keep_ (FL.same tr trivial)).cell (n := 0) rfl)) fun a' p => ?_
    exact ⟨M.st p rfl, o, A474, c475, (TG0.step p 1 rfl rfl), (TG1.other p rfl), (FL.idle tr), FE0⟩
   ·intro U a w M hL hA hD hI
    obtain ⟨o, A474, c475, TG0, TG1, tr, FE0⟩ := hI
    refine dv rfl rfl M (x_fieldAddr fa_25_0 (M.e 6 rfl) rfl) fun a' p => ?_
    exact ⟨M.st p rfl, o, A474, c475, (TG0.step p 2 rfl rfl), (TG1.other p rfl), (FL.idle tr), FE0⟩
   ·intro U a w M hL hA hD hI
    obtain ⟨o, A474, c475, TG0, TG1, tr, FE0⟩ := hI
    refine dv rfl rfl M (x_load ld_22 (e_tmp (TG0.get 2 rfl (hA 2 rfl))) ((((q359.kn t384).kk t388 rfl).keep_ (FL.same tr trivial)).cell (n := 0) rfl)) fun a' p => ?_
    exact ⟨M.st p rfl, o, A474, c475, (TG0.step p 3 rfl rfl), (TG1.other p rfl), (FL.idle tr), FE0⟩
   ·intro U a w M hL hA hD hI
    obtain ⟨o, A474, c475, TG0, TG1, tr, FE0⟩ := hI
    refine dv rfl rfl M (x_lenSlice Try.underlying22 (e_tmp (TG0.get 3 rfl (hA 3 rfl)))) fun a' p => ?_
    exact ⟨M.st p rfl, o, A474, c475, (TG0.step p 4 rfl rfl), (TG1.other p rfl), (FL.idle tr), FE0⟩
   ·intro U a w M hL hA hD hI
    obtain ⟨o, A474, c475, TG0, TG1, tr, FE0⟩ := hI
    refine dv rfl rfl M (x_lss (e_tmp (TG0.get 1 rfl (hA 1 rfl))) (e_tmp (TG0.get 4 rfl (hA 4 rfl)))) fun a' p => ?_
    exact ⟨M.st p rfl, o, A474, c475, (TG0.step p 5 rfl rfl), (TG1.other p rfl), (FL.idle tr), FE0⟩
   ·intro U a w M hL hA hD hI
    obtain ⟨o, A474, c475, TG0, TG1, tr, FE0⟩ := hI
    refine dv rfl rfl M (x_move (e_tmp (TG0.get 5 rfl (hA 5 rfl)))) fun a' p => ?_
    exact ⟨M.st p rfl, o, A474, c475, (TG0.step p 6 rfl rfl), (TG1.other p rfl), (FL.idle tr), FE0⟩
   ·intro U a w M hL hA hD hI
    obtain ⟨o, A474, c475, TG0, TG1, tr, FE0⟩ := hI
    refine dw rfl (wanted_yes rfl rfl (bt (TG0.get 6 rfl (hA 6 rfl)) hk109)) rfl rfl M (x_fieldAddr fa_28_0 (M.e 1 rfl) rfl) fun a' p => ?_
    exact ⟨M.st p rfl, o, A474, c475, (TG0.step p 7 rfl rfl), (TG1.other p rfl), (FL.idle tr), FE0⟩
   ·intro U a w M hL hA hD hI
    obtain ⟨o, A474, c475, TG0, TG1, tr, FE0⟩ := hI
    refine dw rfl (wanted_yes rfl rfl (bt (TG0.get 6 rfl (hA 6 rfl)) hk109)) rfl rfl M (x_load ld_3 (e_tmp (TG0.get 7 rfl (hA 7 rfl))) ((b387.keep_ (FL.same tr trivial)).cell (n := 0) rfl)) fun a' p => ?_
    exact ⟨M.st p rfl, o, A474, c475, (TG0.step p 8 rfl rfl), (TG1.other p rfl), (FL.idle tr), FE0⟩
   ·intro U a w M hL hA hD hI
    obtain ⟨o, A474, c475, TG0, TG1, tr, FE0⟩ := hI
    refine dw rfl (wanted_yes rfl rfl (bt (TG0.get 6 rfl (hA 6 rfl)) hk109)) rfl rfl M (x_load ld_3 (M.e 7 rfl) ((((q360.kn t384).kk t388 rfl).keep_ (FL.same tr trivial)).cell (n := 0) rfl)) fun a' p => ?_
    exact ⟨M.st p rfl, o, A474, c475, (TG0.step p 9 rfl rfl), (TG1.other p rfl), (FL.idle tr), FE0⟩
   ·intro U a w M hL hA hD hI
    obtain ⟨o, A474, c475, TG0, TG1, tr, FE0⟩ := hI
    refine dw rfl (wanted_yes rfl rfl (bt (TG0.get 6 rfl (hA 6 rfl)) hk109)) rfl rfl M (x_geq (e_tmp (TG0.get 8 rfl (hA 8 rfl))) (e_tmp (TG0.get 9 rfl (hA 9 rfl)))) fun a' p => ?_
    exact ⟨M.st p rfl, o, A474, c475, (TG0.step p 10 rfl rfl), (TG1.other p rfl), (FL.idle tr), FE0⟩
   ·intro U a w M hL hA hD hI
    obtain ⟨o, A474, c475, TG0, TG1, tr, FE0⟩ := hI
    refine dv rfl rfl M (x_pick0 (y := (.const (.bool true))) (bt (TG0.get 6 rfl (hA 6 rfl)) hk109) (e_tmp (TG0.get 10 rfl (hA 10 rfl)))) fun a' p => ?_
    exact ⟨M.st p rfl, o, A474, c475, (TG0.step p 11 rfl rfl), (TG1.other p rfl), (FL.idle tr), FE0⟩
   ·intro U a w M hL hA hD hI
    obtain ⟨o, A474, c475, TG0, TG1, tr, FE0⟩ := hI
    refine dv rfl rfl M (x_move (e_tmp (TG0.get 11 rfl (hA 11 rfl)))) fun a' p => ?_
    exact ⟨M.st p rfl, o, A474, c475, (TG0.step p 12 rfl rfl), (TG1.other p rfl), (FL.idle tr), FE0⟩
   ·intro U a w M hL hA hD hI
    obtain ⟨o, A474, c475, TG0, TG1, tr, FE0⟩ := hI
    refine dw rfl (wanted_yes rfl rfl (bt (TG0.get 12 rfl (hA 12 rfl)) hk111)) rfl rfl M (x_fieldAddr fa_28_1 (M.e 1 rfl) rfl) fun a' p => ?_
    exact ⟨M.st p rfl, o, A474, c475, (TG0.step p 13 rfl rfl), (TG1.other p rfl), (FL.idle tr), FE0⟩
   ·intro U a w M hL hA hD hI
    obtain ⟨o, A474, c475, TG0, TG1, tr, FE0⟩ := hI
    refine dw rfl (wanted_yes rfl rfl (bt (TG0.get 12 rfl (hA 12 rfl)) hk111)) rfl rfl M (x_load ld_26 (e_tmp (TG0.get 13 rfl (hA 13 rfl))) ((b387.keep_ (FL.same tr trivial)).cell (n := 1) rfl)) fun a' p => ?_
    exact ⟨M.st p rfl, o, A474, c475, (TG0.step p 14 rfl rfl), (TG1.other p rfl), (FL.idle tr), FE0⟩
   ·intro U a w M hL hA hD hI
    obtain ⟨o, A474, c475, TG0, TG1, tr, FE0⟩ := hI
    refine dw rfl (wanted_yes rfl rfl (bt (TG0.get 12 rfl (hA 12 rfl)) hk111)) rfl rfl M (x_lenSlice Try.underlying26 (e_tmp (TG0.get 14 rfl (hA 14 rfl)))) fun a' p => ?_
    exact ⟨M.st p rfl, o, A474, c475, (TG0.step p 15 rfl rfl), (TG1.other p rfl), (FL.idle tr), FE0⟩
   ·intro U a w M hL hA hD hI
    obtain ⟨o, A474, c475, TG0, TG1, tr, FE0⟩ := hI
    refine dw rfl (wanted_yes rfl rfl (bt (TG0.get 12 rfl (hA 12 rfl)) hk111)) rfl rfl M (x_gtr (e_tmp (TG0.get 15 rfl (hA 15 rfl))) (e_const (v := .int .i64 (8 : Int)))) fun a' p => ?_
    exact ⟨M.st p rfl, o, A474, c475, (TG0.step p 16 rfl rfl), (TG1.other p rfl), (FL.idle tr), FE0⟩
   ·intro U a w M hL hA hD hI
    obtain ⟨o, A474, c475, TG0, TG1, tr, FE0⟩ := hI
    refine dv rfl rfl M (x_pick0 (y := (.const (.bool true))) (bt (TG0.get 12 rfl (hA 12 rfl)) hk111) (e_tmp (TG0.get 16 rfl (hA 16 rfl)))) fun a' p => ?_
    exact ⟨M.st p rfl, o, A474, c475, (TG0.step p 17 rfl rfl), (TG1.other p rfl), (FL.idle tr), FE0⟩
   ·intro U a w M hL hA hD hI
    obtain ⟨o, A474, c475, TG0, TG1, tr, FE0⟩ := hI
    refine dv rfl rfl M (x_move (e_tmp (TG0.get 17 rfl (hA 17 rfl)))) fun a' p => ?_
    exact ⟨M.st p rfl, o, A474, c475, (TG0.step p 18 rfl rfl), (TG1.other p rfl), (FL.idle tr), FE0⟩
   ·intro U a w M hL hA hD hI
    obtain ⟨o, A474, c475, TG0, TG1, tr, FE0⟩ := hI
    refine dw rfl (wanted_yes rfl rfl (bt (TG0.get 18 rfl (hA 18 rfl)) hk113)) rfl rfl M (x_fieldAddr fa_25_2 (M.e 6 rfl) rfl) fun a' p => ?_
    exact ⟨M.st p rfl, o, A474, c475, (TG0.step p 19 rfl rfl), (TG1.other p rfl), (FL.idle tr), FE0⟩
   ·intro U a w M hL hA hD hI
    obtain ⟨o, A474, c475, TG0, TG1, tr, FE0⟩ := hI
    refine dw rfl (wanted_yes rfl rfl (bt (TG0.get 18 rfl (hA 18 rfl)) hk113)) rfl rfl M (x_load ld_23 (e_tmp (TG0.get 19 rfl (hA 19 rfl))) ((((q359.kn t384).kk t388 rfl).keep_ (FL.same tr trivial)).cell (n := 2) rfl)) fun a' p => ?_
    exact ⟨M.st p rfl, o, A474, c475, (TG0.step p 20 rfl rfl), (TG1.other p rfl), (FL.idle tr), FE0⟩
   ·intro U a w M hL hA hD hI
    obtain ⟨o, A474, c475, TG0, TG1, tr, FE0⟩ := hI
    refine dw rfl (wanted_yes rfl rfl (bt (TG0.get 18 rfl (hA 18 rfl)) hk113)) rfl rfl M (x_move (M.e 0 rfl)) fun a' p => ?_
    exact ⟨M.st p rfl, o, A474, c475, (TG0.step p 21 rfl rfl), (TG1.other p rfl), (FL.idle tr), FE0⟩
   ·intro U a w M hL hA hD hI
    obtain ⟨o, A474, c475, TG0, TG1, tr, FE0⟩ := hI
    obtain ⟨A474, c475, r476, b477⟩ := b_cutH (P := Try.prog) (w := w) (l := p1.rules) (e := 28) (sz := 2) (T := 23) (R := fun v => (tSlice 28 tyRule (by decide)).im w (L o 0) (cutl p1.rules (0 : Int).toNat y198.toNat) [v]) Try.underlying23 sz_28 (e_tmp (TG0.get 20 rfl (hA 20 rfl))) (e_tmp (TG0.get 21 rfl (hA 21 rfl))) (im_cap (Ty.loc _ (FL.same tr trivial) (iK (iN i361 t384) t388 rfl))) hc473 (cutIm (Ty.loc _ (FL.same tr trivial) (iK (iN i361 t384) t388 rfl)) hc473)
    have b477 : (tSlice 28 tyRule (by decide)).im w (L o 0) (cutl p1.rules (0 : Int).toNat y198.toNat) [.slice A474 (cutl p1.rules (0 : Int).toNat y198.toNat).length c475] := b477
    refine dw rfl (wanted_yes rfl rfl (bt (TG0.get 18 rfl (hA 18 rfl)) hk113)) rfl rfl M (r476 _ _ _ _ _) fun a' p => ?_
    exact ⟨M.st p rfl, o, A474, c475, (TG0.other p rfl), (Tab.mk hD p 0 rfl rfl), (FL.idle tr), (fun _ => b477)⟩
   ·intro U a w M hL hA hD hI
    obtain ⟨o, A474, c475, TG0, TG1, tr, FE0⟩ := hI
    refine dw rfl (wanted_yes rfl rfl (bt (TG0.get 18 rfl (hA 18 rfl)) hk113)) rfl rfl M (x_loadN (ldn_28 _ rfl) (M.e 1 rfl) ((b387.keep_ (FL.same tr trivial)).sub (cs := #[.int .i64 x365.left, .slice A374 x365.right.length c375]) 0 rfl)) fun a' p => ?_
    exact ⟨M.st p rfl, o, A474, c475, (TG0.step p 22 rfl rfl), (TG1.other p rfl), (FL.idle tr), FE0⟩
   ·intro U a w M hL hA hD hI
    obtain ⟨o, A474, c475, TG0, TG1, tr, FE0⟩ := hI
    refine dc rfl (wanted_yes rfl rfl (bt (TG0.get 18 rfl (hA 18 rfl)) hk113)) rfl rfl M (x_call cf_128 (m2 (e_tmp (TG1.get 0 rfl (hA 22 rfl))) (e_tmp (TG0.get 22 rfl (hA 23 rfl))))) (grammar_has_calls hr480 (lko_own (T := [(0, 0)]) (o := o) rfl) (sL (FE0 (hA 22 rfl)) rfl) (sL (Ty.loc _ (FL.same tr trivial) (iK (iN i376 t384) t388 rfl)) rfl)) (fun e116 w481 hp482 => ?_)
    obtain ⟨o483, he484, T485⟩ := hp482
    obtain ⟨o486, ho487⟩ := ex (mrg w o [(0, 0)] o483)
    have t488 := T485.r0 ho487
    refine ⟨_, he484, fun a' p => ?_⟩
    exact ⟨M.st p rfl, o486, A474, c475, (TG0.step p 23 rfl rfl), (TG1.other p rfl), (FL.stepNo tr t488), (fun h0 => Ty.loc _ (t488.sameNo) (FE0 h0))⟩
   ·intro U a w M hL hA hD hI
    obtain ⟨o, A474, c475, TG0, TG1, tr, FE0⟩ := hI
    refine dv rfl rfl M (x_pick0 (y := (.const (.bool true))) (bt (TG0.get 18 rfl (hA 18 rfl)) hk113) (e_tmp (TG0.get 23 rfl (hA 24 rfl)))) fun a' p => ?_
    exact ⟨M.st p rfl, o, A474, c475, (TG0.step p 24 rfl rfl), (TG1.other p rfl), (FL.idle tr), FE0⟩
   intro U a w489 M hA hI
   obtain ⟨o490, A474, c475, TG0, TG1, tr, FE0⟩ := hI
   have M := M.ad (TG0.get 7 rfl (hA 7 rfl))
   have M := M.ad (TG0.get 8 rfl (hA 8 rfl))
   have M := M.ad (TG0.get 9 rfl (hA 9 rfl))
   have M := M.ad (TG0.get 10 rfl (hA 10 rfl))
   have M := M.ad (TG0.get 13 rfl (hA 13 rfl))
   have M := M.ad (TG0.get 14 rfl (hA 14 rfl))
   have M := M.ad (TG0.get 15 rfl (hA 15 rfl))
   have M := M.ad (TG0.get 16 rfl (hA 16 rfl))
   have M := M.ad (TG0.get 19 rfl (hA 19 rfl))
   have M := M.ad (TG0.get 20 rfl (hA 20 rfl))
   have M := M.ad (TG0.get 21 rfl (hA 21 rfl))
   have M := M.ad (TG1.get 0 rfl (hA 22 rfl))
   have M := M.ad (TG0.get 22 rfl (hA 23 rfl))
   have M := M.ad (TG0.get 23 rfl (hA 24 rfl))
   have M := M.ad (TG0.get 24 rfl (hA 25 rfl))
   have q491 := (((q359.kn t384).kk t388 rfl).keep_ (FL.same tr trivial))
   have q492 := (((q360.kn t384).kk t388 rfl).keep_ (FL.same tr trivial))
   have q493 := (b387.keep_ (FL.same tr trivial))
   have i494 := (Ty.loc _ (FL.same tr trivial) (iK (iN i361 t384) t388 rfl))
   have i495 := (Ty.loc _ (FL.same tr trivial) (iK (iN i362 t384) t388 rfl))
   have i496 := (Ty.loc _ (FL.same tr trivial) (iK (iN i363 t384) t388 rfl))
   have i497 := (Ty.loc _ (FL.same tr trivial) (iK (iN i376 t384) t388 rfl))
   have i498 := (FE0 (hA 22 rfl))
   have T499 := Tr.kf u117 tr hown rfl
   clear hA TG0 TG1 tr FE0
   refine q_then ?_
   by_cases hk118 : r479 = true
   ·rw [if_pos hk118] at h
    have M := M.k 56 rfl hk118
    refine c_true (M.e 0 rfl) <| c_seq <| c_reg <| pn (j := 1) E 1 M rfl rfl fun a M => x_end rfl <| q_then <| wp_ret <| q_then_ret <| q_blk_ret <| q_then_ret ?_
    obtain rfl := sj h
    exact lq_ret ⟨rfl, ⟨o490, (M.pk [0] rfl), T499⟩⟩
   rw [if_neg hk118] at h
   have hk118 := nott hk118
   have M := M.k 56 rfl hk118
   refine c_false (M.e 0 rfl) <| wp_skip <| q_then <| c_seq <| c_reg <| pn (j := 1) E 1 M rfl rfl fun a M => ov rfl rfl M (x_load ld_26 (M.e 0 rfl) (q493.cell (n := 1) rfl)) fun a M => ov rfl rfl M (x_makeFunc m0 (m1 (M.e 24 rfl))) fun a M => ?_
   obtain ⟨r500, hr501, h⟩ := bind_some h
   refine oc rfl (wp0 rfl) rfl rfl M (x_call cf_174 (m2 (M.e 1 rfl) (M.e 0 rfl))) (slices_ContainsFunc_1_calls hr501 (lko_own (T := [(0, 0), (101, 1)]) (o := o490) rfl) (sL i497 rfl) (q492.l rfl)) (fun e119 w502 hp503 => ?_)
   obtain ⟨o504, he505, T506⟩ := hp503
   obtain ⟨o507, ho508⟩ := ex (mrg w489 o490 [(0, 0), (1, 101)] o504)
   have t509 := T506.r0 ho508
   refine ⟨_, he505, fun a M => ?_⟩
   refine x_end rfl <| q_then ?_
   by_cases hk120 : r500 = true
   ·rw [if_pos hk120] at h
    have M := M.k 60 rfl hk120
    refine c_true (M.e 0 rfl) <| c_seq <| c_reg <| pn (j := 1) E 1 M rfl rfl fun a M => x_end rfl <| q_then <| wp_ret <| q_blk_ret <| q_then_ret ?_
    obtain rfl := sj h
    have u121 := T499.kn t509
    exact lq_ret ⟨rfl, ⟨o507, (M.pk [0] rfl), u121⟩⟩
   rw [if_neg hk120] at h
   have hk120 := nott hk120
   have M := M.k 60 rfl hk120
   refine c_false (M.e 0 rfl) <| wp_skip <| q_blk <| q_then <| c_reg <| pn (j := 1) E 1 M rfl rfl fun a M => ?_
   have M := M.pk [0, 6, 7, 8, 9, 10, 11, 12, 13, 14, 15, 16, 17, 18, 19, 26, 27, 28, 29] rfl
   refine pn (j := 2) E 1 M rfl rfl fun a M => x_end rfl ?_
   obtain rfl := sj h
   have u122 := T499.kn t509
   exact lq_next ⟨o507, (M.pk [16, 17, 18, 19, 0] rfl), (q491.kn t509), (q492.kn t509), (iN i494 t509), (iN i495 t509), (iN i496 t509), u122⟩
  rw [if_neg hk83] at h
  have hk83 := nott hk83
  have M := M.k 27 rfl hk83
  refine c_false (M.e 0 rfl) <| wp_exit <| q_then_exit ?_
  obtain rfl := sj h
  exact lq_exit ⟨rfl, ⟨o358, (M.pk [] rfl), T364⟩⟩
 intro e123 a w512 hO513
 rcases x510 with x510 | x510
 ·rw [scase_l] at h
  obtain ⟨he514, hO513⟩ := hO513
  subst he514
  obtain ⟨o515, M, T516⟩ := hO513
  refine q_blk_ret <| q_then_ret ?_
  obtain rfl := sj h
  exact ⟨M.f.defers, _, (res1 Try.results132 (rv_tmp (M.t 0 rfl))), ⟨o515, rfl, T516⟩⟩
 rw [scase_r] at h
 obtain ⟨he517, hO513⟩ := hO513
 subst he517
 obtain ⟨o518, M, T519⟩ := hO513
 refine q_blk_here <| q_then <| c_seq <| c_reg <| pn (j := 1) E 1 M rfl rfl fun a M => x_end rfl <| q_then <| wp_ret ?_
 obtain rfl := sj h
 exact ⟨M.f.defers, _, (res1 Try.results132 (rv_tmp (M.t 0 rfl))), ⟨o518, rfl, T519⟩⟩
end Go.Proofs.Ythilemcdhkfhlaa
namespace Go.Proofs.Ythilemcdhkfhlaa
open Go Go.RowKit Go.Gc Go.Proofs
def grammar_Good_b1 (k : Nat) (p1 : Grammar) (x580 : Rule) (y663 : Int) (y664 : List Int) : Option ((Int × (List Int)) ⊕ (List Int)) :=
  if (decide (y663 < (x580.right.length : Int))) = true then ((at? x580.right y663).bind fun x733 => (grammar_Term k p1 x733).bind fun r743 => if r743 = true then (if y664.length + [x733].length ≤ 1000000000 then (some (.inl (IntKind.wrap .i64 (y663 + (1 : Int)), y664 ++ [x733]))) else none) else (some (.inl (IntKind.wrap .i64 (y663 + (1 : Int)), y664)))) else (some (.inr y664))
def grammar_Good_b0 (k : Nat) (p1 : Grammar) (y334 : Int) (y335 : List Int) (y337 : List Int) : Option ((Int × (List Int) × (List Int)) ⊕ ((List Int) × (List Int))) :=
  if (decide (y334 < (p1.rules.length : Int))) = true then ((at? p1.rules y334).bind fun x580 => if y335.length + [x580.left].length ≤ 1000000000 then ((iter (fun (s : (Int × (List Int))) => grammar_Good_b1 k p1 x580 s.1 s.2) k ((0 : Int), y337)).bind fun x768 => some (.inl (IntKind.wrap .i64 (y334 + (1 : Int)), y335 ++ [x580.left], x768))) else none) else (some (.inr (y335, y337)))
def grammar_Good (k : Nat) (p1 : Grammar) : Option Bool :=
  ((grammar_distinct k p1.names (1 : Int) (40 : Int)).bind fun r87 => if (!r87) = true then (some true) else ((grammar_distinct_1 k p1.terms (0 : Int) (40 : Int)).bind fun r97 => if (!r97) = true then (some true) else ((grammar_ruled k p1).bind fun r107 => some (!r107)))).bind fun x85 => if x85 = true then (some false) else ((iter (fun (s : (Int × (List Int) × (List Int))) => grammar_Good_b0 k p1 s.1 s.2.1 s.2.2) k ((0 : Int), [], [])).bind fun x783 => (grammar_rising k x783.1 (p1.terms.length : Int) (IntKind.wrap .i64 ((p1.terms.length : Int) + (p1.names.length : Int)))).bind fun r800 => if r800 = true then ((grammar_rising k x783.2 (0 : Int) (p1.terms.length : Int)).bind fun r810 => some r810) else (some false))
theorem grammar_Good_calls {k : Nat} {p1 : Grammar} {v2 : Value} {v5 : Value} {v8 : Value} {r : Bool} (h : grammar_Good k p1 = some r) {w0 : World} {o0 : Own} (hown : Hown o0)
    (i4 : ((tSlice 9 tStr (by decide))).im w0 (L o0 0) p1.terms [v2])
    (i7 : ((tSlice 9 tStr (by decide))).im w0 (L o0 0) p1.names [v5])
    (i10 : ((tSlice 28 tyRule (by decide))).im w0 (L o0 0) p1.rules [v8]) :
    Calls Try.prog 79 #[.agg #[v2, v5, v8]] w0 (fun e w => ∃ (o820 : Own), e = .returned (.bool r) ∧ Tr (Ls o0 []) w0 o0 w o820) := by
 unfold grammar_Good at h
 refine startM Try.func79 rfl Try.ntmps79 (show 1 ≤ 69 by decide) fun a M => ?_
 have M : MB 69 [] [(0, .agg #[v2, v5, v8])] a := M
 obtain ⟨A11, c12, hzc12, -⟩ := im_form i4
 subst hzc12
 obtain ⟨A13, c14, hzc14, -⟩ := im_form i7
 subst hzc14
 obtain ⟨A15, c16, hzc16, -⟩ := im_form i10
 subst hzc16
 have T0 : Tr (Ls o0 []) w0 o0 w0 o0 := Tr.refl _ _ _
 refine c_seq <| c_reg ?_
 obtain ⟨g17, w18, o19, r20, b21, t22⟩ := b_box (P := Try.prog) (T := 25) (M.e 0 rfl) w0 o0 100
 refine ov rfl rfl M (r20 _ _ _ _ _) fun a M => pn (j := 2) E 1 M rfl rfl fun a M => x_end rfl <| q_then <| c_seq <| c_seq ?_
 obtain ⟨x85, hx86, h⟩ := bind_some h
 refine cut_c (fun (x : Bool) (e : Exit) (a : Act) (w : World) => (e = .normal ∧ ∃ (o84 : Own), MB 69 [] [(1, .pointer (some ⟨g17, 0, none⟩)), (24, .bool x)] a ∧ Box w o84 100 g17 25 #[.slice A11 p1.terms.length c12, .slice A13 p1.names.length c14, .slice A15 p1.rules.length c16] ∧ ((tSlice 9 tStr (by decide))).im w (L o84 0) p1.terms [.slice A11 p1.terms.length c12] ∧ ((tSlice 9 tStr (by decide))).im w (L o84 0) p1.names [.slice A13 p1.names.length c14] ∧ ((tSlice 28 tyRule (by decide))).im w (L o84 0) p1.rules [.slice A15 p1.rules.length c16] ∧ Tr (Ls o0 []) w0 o0 w o84)) x85 ?_ ?_
 ·replace h := hx86
  refine c_reg <| pn (j := 1) E 1 M rfl rfl fun a M => ov rfl rfl M (x_load ld_22 (M.e 0 rfl) (b21.cell (n := 1) rfl)) fun a M => ?_
  obtain ⟨r87, hr88, h⟩ := bind_some h
  refine oc rfl (wp0 rfl) rfl rfl M (x_call cf_129 (m4 (M.e 0 rfl) (e_const (v := .int .i64 (1 : Int))) (e_const (v := .int .i64 (40 : Int))) e_func)) (grammar_distinct_calls hr88 (lko_own (T := [(0, 0)]) (o := o19) rfl) (sL (iN i7 t22) rfl)) (fun e18 w89 hp90 => ?_)
  obtain ⟨o91, he92, T93⟩ := hp90
  obtain ⟨o94, ho95⟩ := ex (mrg w18 o19 [(0, 0)] o91)
  have t96 := T93.r0 ho95
  refine ⟨_, he92, fun a M => ?_⟩
  refine pn (j := 5) E 2 M rfl rfl fun a M => ?_
  by_cases hk19 : (!r87) = true
  ·rw [if_pos hk19] at h
   have M := M.k 14 rfl hk19
   refine pn (j := 15) E 10 M rfl rfl fun a M => x_end rfl ?_
   obtain rfl := sj h
   have u20 := (T0.kn t22).kn t96
   exact ⟨rfl, ⟨o94, (M.pk [16, 0] rfl), (b21.kn t96), (iN (iN i4 t22) t96), (iN (iN i7 t22) t96), (iN (iN i10 t22) t96), u20⟩⟩
  rw [if_neg hk19] at h
  have hk19 := nott hk19
  have M := M.k 14 rfl hk19
  refine pn (j := 6) E 1 M rfl rfl fun a M => ow rfl (wanted_yes rfl rfl (M.t 1 rfl)) rfl rfl M (x_load ld_22 (M.e 0 rfl) ((b21.kn t96).cell (n := 0) rfl)) fun a M => ?_
  obtain ⟨r97, hr98, h⟩ := bind_some h
  refine oc rfl (wanted_yes rfl rfl (M.t 2 rfl)) rfl rfl M (x_call cf_129 (m4 (M.e 0 rfl) (e_const (v := .int .i64 (0 : Int))) (e_const (v := .int .i64 (40 : Int))) e_func)) (grammar_distinct_1_calls hr98 (lko_own (T := [(0, 0)]) (o := o94) rfl) (sL (iN (iN i4 t22) t96) rfl)) (fun e21 w99 hp100 => ?_)
  obtain ⟨o101, he102, T103⟩ := hp100
  obtain ⟨o104, ho105⟩ := ex (mrg w89 o94 [(0, 0)] o101)
  have t106 := T103.r0 ho105
  refine ⟨_, he102, fun a M => ?_⟩
  refine pn (j := 11) E 3 M rfl rfl fun a M => ?_
  by_cases hk22 : (!r97) = true
  ·rw [if_pos hk22] at h
   have M := M.k 20 rfl hk22
   refine pn (j := 15) E 4 M rfl rfl fun a M => x_end rfl ?_
   obtain rfl := sj h
   have u23 := iN (iN (iN i4 t22) t96) t106
   have u24 := iN (iN (iN i7 t22) t96) t106
   have u25 := iN (iN (iN i10 t22) t96) t106
   have u26 := ((T0.kn t22).kn t96).kn t106
   exact ⟨rfl, ⟨o104, (M.pk [16, 0] rfl), ((b21.kn t96).kn t106), u23, u24, u25, u26⟩⟩
  rw [if_neg hk22] at h
  have hk22 := nott hk22
  have M := M.k 20 rfl hk22
  refine ow rfl (wanted_yes rfl rfl (M.t 0 rfl)) rfl rfl M (x_loadN (ldn_25 _ rfl) (M.e 12 rfl) (((b21.kn t96).kn t106).sub (cs := #[.slice A11 p1.terms.length c12, .slice A13 p1.names.length c14, .slice A15 p1.rules.length c16]) 0 rfl)) fun a M => ?_
  have u27 := iN (iN (iN i4 t22) t96) t106
  have u28 := iN (iN (iN i7 t22) t96) t106
  have u29 := iN (iN (iN i10 t22) t96) t106
  obtain ⟨r107, hr108, h⟩ := bind_some h
  refine oc rfl (wanted_yes rfl rfl (M.t 1 rfl)) rfl rfl M (x_call cf_132 (m1 (M.e 0 rfl))) (grammar_ruled_calls hr108 (lko_own (T := [(0, 0)]) (o := o104) rfl) (sL u27 rfl) (sL u28 rfl) (sL u29 rfl)) (fun e30 w109 hp110 => ?_)
  obtain ⟨o111, he112, T113⟩ := hp110
  obtain ⟨o114, ho115⟩ := ex (mrg w99 o104 [(0, 0)] o111)
  have t116 := T113.r0 ho115
  refine ⟨_, he112, fun a M => ?_⟩
  refine pn (j := 15) E 2 M rfl rfl fun a M => x_end rfl ?_
  obtain rfl := sj h
  have u31 := ((b21.kn t96).kn t106).kn t116
  have u32 := (((T0.kn t22).kn t96).kn t106).kn t116
  exact ⟨rfl, ⟨o114, (M.pk [16, 0] rfl), u31, (iN u27 t116), (iN u28 t116), (iN u29 t116), u32⟩⟩
 intro e33 a w117 hO118
 obtain ⟨he119, hO118⟩ := hO118
 subst he119
 obtain ⟨o120, M, q121, i122, i123, i124, T125⟩ := hO118
 refine q_then ?_
 by_cases hk34 : x85 = true
 ·rw [if_pos hk34] at h
  have M := M.k 24 rfl hk34
  refine c_true (M.e 1 rfl) <| c_seq <| c_reg <| pn (j := 1) E 1 M rfl rfl fun a M => x_end rfl <| q_then <| wp_ret <| q_then_ret ?_
  obtain rfl := sj h
  exact ⟨M.f.defers, _, (res1 Try.results79 (rv_tmp (M.t 0 rfl))), ⟨o120, rfl, T125⟩⟩
 rw [if_neg hk34] at h
 have hk34 := nott hk34
 have M := M.k 24 rfl hk34
 refine c_false (M.e 1 rfl) <| wp_skip <| q_then <| c_seq <| c_reg <| pn (j := 2) E 2 M rfl rfl fun a M => x_end rfl <| q_then <| c_seq <| c_seq <| c_reg <| pn (j := 1) E 1 M rfl rfl fun a M => ov rfl rfl M (x_load ld_23 (M.e 0 rfl) (q121.cell (n := 2) rfl)) fun a M => pn (j := 4) E 2 M rfl rfl fun a M => x_end rfl <| q_then <| wp_block ?_
 obtain ⟨x783, hx784, h⟩ := bind_some h
 refine loop_iter (S := (Int × (List Int) × (List Int))) (X := ((List Int) × (List Int))) (fun (s : (Int × (List Int) × (List Int))) => grammar_Good_b0 k p1 s.1 s.2.1 s.2.2) (fun (s : (Int × (List Int) × (List Int))) (a : Act) (w : World) => ∃ (o563 : Own) (z336 : Value) (z338 : Value), MB 69 [] [(1, .pointer (some ⟨g17, 0, none⟩)), (3, z336), (4, z338), (26, .slice A15 p1.rules.length c16), (27, .int .i64 (p1.rules.length : Int)), (28, .int .i64 s.1)] a ∧ Box w o563 100 g17 25 #[.slice A11 p1.terms.length c12, .slice A13 p1.names.length c14, .slice A15 p1.rules.length c16] ∧ Row (tInt .i64) 3 w o563 103 z336 s.2.1 ∧ Row (tInt .i64) 3 w o563 102 z338 s.2.2 ∧ ((tSlice 28 tyRule (by decide))).im w (L o563 0) p1.rules [.slice A15 p1.rules.length c16] ∧ ((tSlice 9 tStr (by decide))).im w (L o563 0) p1.terms [.slice A11 p1.terms.length c12] ∧ ((tSlice 9 tStr (by decide))).im w (L o563 0) p1.names [.slice A13 p1.names.length c14] ∧ Tr (Ls o0 []) w0 o0 w o563) (fun (x : ((List Int) × (List Int))) (e : Exit) (a : Act) (w : World) => (e = .exit 0 ∧ ∃ (o564 : Own) (z560 : Value) (z562 : Value), MB 69 [] [(1, .pointer (some ⟨g17, 0, none⟩)), (3, z560), (4, z562)] a ∧ Box w o564 100 g17 25 #[.slice A11 p1.terms.length c12, .slice A13 p1.names.length c14, .slice A15 p1.rules.length c16] ∧ Row (tInt .i64) 3 w o564 103 z560 x.1 ∧ Row (tInt .i64) 3 w o564 102 z562 x.2 ∧ ((tSlice 9 tStr (by decide))).im w (L o564 0) p1.terms [.slice A11 p1.terms.length c12] ∧ ((tSlice 9 tStr (by decide))).im w (L o564 0) p1.names [.slice A13 p1.names.length c14] ∧ ((tSlice 28 tyRule (by decide))).im w (L o564 0) p1.rules [.slice A15 p1.rules.length c16] ∧ Tr (Ls o0 []) w0 o0 w o564)) ?_ hx784 ⟨o120, (.slice none 0 0), (.slice none 0 0), (M.pk [6, 5, 4, 2, 1, 0] rfl), q121, (Row.nil (tInt .i64) 3 w117 o120 103), (Row.nil (tInt .i64) 3 w117 o120 102), i124, i122, i123, T125⟩ ?_
 ·rintro ⟨y334, y335, y337⟩ a w565 r566 hI567 h
  replace h : grammar_Good_b0 k p1 y334 y335 y337 = some r566 := h
  unfold grammar_Good_b0 at h
  obtain ⟨o568, z336, z338, M, q569, q570, q571, i572, i573, i574, T575⟩ := hI567
  obtain ⟨A576, c577, hzc577, -⟩ := q570.form
  subst hzc577
  obtain ⟨A578, c579, hzc579, -⟩ := q571.form
  subst hzc579
  refine c_seq <| c_reg <| pn (j := 1) E 1 M rfl rfl fun a M => x_end rfl <| q_then <| c_seq ?_
  by_cases hk96 : (decide (y334 < (p1.rules.length : Int))) = true
  ·rw [if_pos hk96] at h
   have M := M.k 29 rfl hk96
   refine c_true (M.e 0 rfl) <| wp_skip <| q_then <| c_seq <| wp_block <| c_seq <| c_reg ?_
   obtain ⟨x580, hx581, h⟩ := bind_some h
   obtain ⟨hx5810, hx5811, hx5812⟩ := at_some hx581
   obtain ⟨g582, f583, c584, ds585, hv586, hd587, he588⟩ := im_elem i572 hx5811
   obtain ⟨A589, c590, rfl, i591⟩ := Rule_open hd587
   have he588 : ElemAt w565 o568 0 g582 f583 (y334).toNat 2 [.int .i64 x580.left, .slice A589 x580.right.length c590] := he588
   refine ov rfl rfl M (x_indexAddr Try.underlying23 sz_28 ((M.e 4 rfl).trans hv586) (M.e 6 rfl) hx5810 hx5812) fun a M => ov rfl rfl M (x_loadN (ldn_28 _ rfl) (M.e 0 rfl) he588.all) fun a M => ?_
   obtain ⟨g594, w595, o596, r597, b598, t599⟩ := b_alloc zv_28 a w565 o568 101
   refine ov rfl rfl M (r597 _ _ _ _ _) fun a M => ?_
   obtain ⟨w600, r601, b602, t603⟩ := b_storeN (P := Try.prog) (all' := #[.int .i64 x580.left, .slice A589 x580.right.length c590]) (.inr trivial) (stn_28 _ rfl) (M.e 0 rfl) (M.e 1 rfl) b598 (show 2 ≤ 2 by decide) (by simp [Value.oneCell']) rfl
   have b602 : Box w600 o596 101 g594 28 #[.int .i64 x580.left, .slice A589 x580.right.length c590] := b602
   refine os rfl (wp0 rfl) rfl (r601 _ _ _ _ _) <| x_end rfl <| q_then <| c_seq <| c_reg <| pn (j := 2) E 2 M rfl rfl fun a M => ov rfl rfl M (x_load ld_3 (M.e 0 rfl) (b602.cell (n := 0) rfl)) fun a M => ?_
   have r606 : (Instr.buildSlice 26 1 #[(0, .int .i64 x580.left)]).run Try.prog w600 = .ok (.slice (some ⟨w600.heap.size, 0, none⟩) 1 1) (w600.alloc (.cells ([.int .i64 x580.left] : List Value).toArray 3)) := by go_simp
   obtain ⟨b607, t608⟩ := Row.lit (E := (tInt .i64)) (e := 3) (l := [x580.left]) (by decide) w600 o596 104 (cs := [.int .i64 x580.left]) ⟨[.int .i64 x580.left], _, rfl, rfl, rfl⟩ (by simp)
   generalize hww604 : w600.alloc _ = w604 at r606 b607 t608
   generalize upd o596 _ 104 = o605 at b607 t608
   generalize hgg609 : w600.heap.size = g609 at r606 b607
   clear hww604 hgg609
   refine ov rfl rfl M (x_buildSlice (l1 (M.e 0 rfl)) r606) fun a M => ?_
   obtain ⟨hc610, h⟩ := ifs h
   have u97 := ((q570.kn t599).kk t603 rfl rfl).kn t608
   obtain ⟨v611, w612, o613, r614, b615, t616⟩ := run_append el_3 Try.underlying26 26 u97 (by decide) (Src.row b607) hc610
   obtain ⟨A617, c618, rfl, -⟩ := b615.form
   refine ov rfl rfl M (x_append (M.e 3 rfl) (M.e 0 rfl) r614) fun a M => ?_
   have M := M.pk [0, 1, 2, 3, 4, 5, 9, 11, 12, 13, 14] rfl
   refine pn (j := 6) E 1 M rfl rfl fun a M => x_end rfl <| q_then <| c_seq <| c_reg <| pn (j := 1) E 1 M rfl rfl fun a M => ov rfl rfl M (x_load ld_26 (M.e 0 rfl) (((b602.kn t608).kk t616 rfl).cell (n := 1) rfl)) fun a M => pn (j := 4) E 2 M rfl rfl fun a M => x_end rfl <| q_then <| wp_block ?_
   have u106 := iK (iN (iK (iN i572 t599) t603 rfl) t608) t616 rfl
   have u107 := iK (iN (iK (iN i591 t599) t603 rfl) t608) t616 rfl
   have u108 := iK (iN (iK (iN i573 t599) t603 rfl) t608) t616 rfl
   have u109 := iK (iN (iK (iN i574 t599) t603 rfl) t608) t616 rfl
   have u110 := (((q569.kn t599).kk t603 rfl).kn t608).kk t616 rfl
   have u111 := (((q571.kn t599).kk t603 rfl rfl).kn t608).kk t616 rfl rfl
   have u112 := (((T575.kn t599).kk t603 hown rfl).kn t608).kk t616 hown rfl
   obtain ⟨x768, hx769, h⟩ := bind_some h
   refine loop_iter (S := (Int × (List Int))) (X := (List Int)) (fun (s : (Int × (List Int))) => grammar_Good_b1 k p1 x580 s.1 s.2) (fun (s : (Int × (List Int))) (a : Act) (w : World) => ∃ (o717 : Own) (z665 : Value), MB 69 [] [(1, .pointer (some ⟨g17, 0, none⟩)), (3, .slice A617 (y335 ++ [x580.left]).length c618), (4, z665), (26, .slice A15 p1.rules.length c16), (27, .int .i64 (p1.rules.length : Int)), (28, .int .i64 y334), (38, .slice A589 x580.right.length c590), (39, .int .i64 (x580.right.length : Int)), (40, .int .i64 s.1)] a ∧ Box w o717 100 g17 25 #[.slice A11 p1.terms.length c12, .slice A13 p1.names.length c14, .slice A15 p1.rules.length c16] ∧ Row (tInt .i64) 3 w o717 103 (.slice A617 (y335 ++ [x580.left]).length c618) (y335 ++ [x580.left]) ∧ Row (tInt .i64) 3 w o717 102 z665 s.2 ∧ ((tSlice 28 tyRule (by decide))).im w (L o717 0) p1.rules [.slice A15 p1.rules.length c16] ∧ ((tSlice 3 (tInt .i64) (by decide))).im w (L o717 0) x580.right [.slice A589 x580.right.length c590] ∧ ((tSlice 9 tStr (by decide))).im w (L o717 0) p1.terms [.slice A11 p1.terms.length c12] ∧ ((tSlice 9 tStr (by decide))).im w (L o717 0) p1.names [.slice A13 p1.names.length c14] ∧ Tr (Ls o0 []) w0 o0 w o717) (fun (x : (List Int)) (e : Exit) (a : Act) (w : World) => (e = .exit 2 ∧ ∃ (o718 : Own) (z716 : Value), MB 69 [] [(1, .pointer (some ⟨g17, 0, none⟩)), (3, .slice A617 (y335 ++ [x580.left]).length c618), (4, z716), (26, .slice A15 p1.rules.length c16), (27, .int .i64 (p1.rules.length : Int)), (28, .int .i64 y334)] a ∧ Box w o718 100 g17 25 #[.slice A11 p1.terms.length c12, .slice A13 p1.names.length c14, .slice A15 p1.rules.length c16] ∧ Row (tInt .i64) 3 w o718 103 (.slice A617 (y335 ++ [x580.left]).length c618) (y335 ++ [x580.left]) ∧ Row (tInt .i64) 3 w o718 102 z716 x ∧ ((tSlice 28 tyRule (by decide))).im w (L o718 0) p1.rules [.slice A15 p1.rules.length c16] ∧ ((tSlice 9 tStr (by decide))).im w (L o718 0) p1.terms [.slice A11 p1.terms.length c12] ∧ ((tSlice 9 tStr (by decide))).im w (L o718 0) p1.names [.slice A13 p1.names.length c14] ∧ Tr (Ls o0 []) w0 o0 w o718)) ?_ hx769 ⟨o613, (.slice A578 y337.length c579), (M.pk [11, 4, 12, 13, 14, 15, 2, 1, 0] rfl), u110, b615, u111, u106, u107, u108, u109, u112⟩ ?_
   ·rintro ⟨y663, y664⟩ a w719 r720 hI721 h
    replace h : grammar_Good_b1 k p1 x580 y663 y664 = some r720 := h
    unfold grammar_Good_b1 at h
    obtain ⟨o722, z665, M, q723, q724, q725, i726, i727, i728, i729, T730⟩ := hI721
    obtain ⟨A731, c732, hzc732, -⟩ := q725.form
    subst hzc732
    refine c_seq <| c_reg <| pn (j := 1) E 1 M rfl rfl fun a M => x_end rfl <| q_then <| c_seq ?_
    by_cases hk114 : (decide (y663 < (x580.right.length : Int))) = true
    ·rw [if_pos hk114] at h
     have M := M.k 41 rfl hk114
     refine c_true (M.e 0 rfl) <| wp_skip <| q_then <| c_seq <| wp_block <| c_seq <| c_reg ?_
     obtain ⟨x733, hx734, h⟩ := bind_some h
     obtain ⟨hx7340, hx7341, hx7342⟩ := at_some hx734
     obtain ⟨g735, f736, c737, ds738, hv739, hd740, he741⟩ := im_elem i727 hx7341
     have hsds738 : ds738 = [.int .i64 x733] := hd740
     subst hsds738
     have he741 : ElemAt w719 o722 0 g735 f736 (y663).toNat 1 [.int .i64 x733] := he741
     refine ov rfl rfl M (x_indexAddr Try.underlying26 sz_3 ((M.e 7 rfl).trans hv739) (M.e 9 rfl) hx7340 hx7342) fun a M => ov rfl rfl M (x_load ld_3 (M.e 0 rfl) (he741.2 0 _ rfl)) fun a M => pn (j := 3) E 1 M rfl rfl fun a M => x_end rfl <| q_then <| c_seq <| c_reg <| ov rfl rfl M (x_loadN (ldn_25 _ rfl) (M.e 4 rfl) (q723.sub (cs := #[.slice A11 p1.terms.length c12, .slice A13 p1.names.length c14, .slice A15 p1.rules.length c16]) 0 rfl)) fun a M => pn (j := 2) E 1 M rfl rfl fun a M => ?_
     obtain ⟨r743, hr744, h⟩ := bind_some h
     refine oc rfl (wp0 rfl) rfl rfl M (x_call cf_80 (m2 (M.e 1 rfl) (M.e 0 rfl))) (grammar_Term_calls hr744 (lko_own (T := [(0, 0)]) (o := o722) rfl) (sL i728 rfl) (sL i729 rfl) (sL i726 rfl)) (fun e115 w745 hp746 => ?_)
     obtain ⟨o747, he748, T749⟩ := hp746
     obtain ⟨o750, ho751⟩ := ex (mrg w719 o722 [(0, 0)] o747)
     have t752 := T749.r0 ho751
     refine ⟨_, he748, fun a M => ?_⟩
     refine x_end rfl <| q_then ?_
     by_cases hk116 : r743 = true
     ·rw [if_pos hk116] at h
      have M := M.k 46 rfl hk116
      refine c_true (M.e 0 rfl) <| c_reg <| pn (j := 2) E 2 M rfl rfl fun a M => ?_
      have r755 : (Instr.buildSlice 26 1 #[(0, .int .i64 x733)]).run Try.prog w745 = .ok (.slice (some ⟨w745.heap.size, 0, none⟩) 1 1) (w745.alloc (.cells ([.int .i64 x733] : List Value).toArray 3)) := by go_simp
      obtain ⟨b756, t757⟩ := Row.lit (E := (tInt .i64)) (e := 3) (l := [x733]) (by decide) w745 o750 101 (cs := [.int .i64 x733]) ⟨[.int .i64 x733], _, rfl, rfl, rfl⟩ (by simp)
      generalize hww753 : w745.alloc _ = w753 at r755 b756 t757
      generalize upd o750 _ 101 = o754 at b756 t757
      generalize hgg758 : w745.heap.size = g758 at r755 b756
      clear hww753 hgg758
      refine ov rfl rfl M (x_buildSlice (l1 (M.e 0 rfl)) r755) fun a M => ?_
      obtain ⟨hc759, h⟩ := ifs h
      obtain ⟨v760, w761, o762, r763, b764, t765⟩ := run_append el_3 Try.underlying26 26 ((q725.kn t752).kn t757) (by decide) (Src.row b756) hc759
      obtain ⟨A766, c767, rfl, -⟩ := b764.form
      refine ov rfl rfl M (x_append (M.e 2 rfl) (M.e 0 rfl) r763) fun a M => ?_
      have M := M.pk [0, 1, 2, 3, 7, 11, 12, 14, 15, 16, 17, 18, 19] rfl
      refine pn (j := 5) E 1 M rfl rfl fun a M => x_end rfl <| q_blk <| q_then <| c_reg <| pn (j := 1) E 1 M rfl rfl fun a M => ?_
      have M := M.pk [0, 1, 7, 8, 9, 10, 11, 12, 13] rfl
      refine pn (j := 2) E 1 M rfl rfl fun a M => x_end rfl ?_
      obtain rfl := sj h
      have u117 := iK (iN (iN i726 t752) t757) t765 rfl
      have u118 := iK (iN (iN i727 t752) t757) t765 rfl
      have u119 := iK (iN (iN i728 t752) t757) t765 rfl
      have u120 := iK (iN (iN i729 t752) t757) t765 rfl
      have u121 := ((q723.kn t752).kn t757).kk t765 rfl
      have u122 := ((q724.kn t752).kn t757).kk t765 rfl rfl
      have u123 := ((T730.kn t752).kn t757).kk t765 hown rfl
      exact lq_next ⟨o762, (.slice A766 (y664 ++ [x733]).length c767), (M.pk [3, 4, 2, 5, 6, 7, 8, 9, 0] rfl), u121, u122, b764, u117, u118, u119, u120, u123⟩
     rw [if_neg hk116] at h
     have hk116 := nott hk116
     have M := M.k 46 rfl hk116
     refine c_false (M.e 0 rfl) <| wp_skip <| q_blk <| q_then <| c_reg <| pn (j := 1) E 1 M rfl rfl fun a M => ?_
     have M := M.pk [0, 8, 9, 10, 11, 12, 13, 14, 15] rfl
     refine pn (j := 2) E 1 M rfl rfl fun a M => x_end rfl ?_
     obtain rfl := sj h
     have u124 := T730.kn t752
     exact lq_next ⟨o750, (.slice A731 y664.length c732), (M.pk [2, 3, 4, 5, 6, 7, 8, 9, 0] rfl), (q723.kn t752), (q724.kn t752), (q725.kn t752), (iN i726 t752), (iN i727 t752), (iN i728 t752), (iN i729 t752), u124⟩
    rw [if_neg hk114] at h
    have hk114 := nott hk114
    have M := M.k 41 rfl hk114
    refine c_false (M.e 0 rfl) <| wp_exit <| q_then_exit ?_
    obtain rfl := sj h
    exact lq_exit ⟨rfl, ⟨o722, (.slice A731 y664.length c732), (M.pk [1, 2, 3, 4, 5, 6] rfl), q723, q724, q725, i726, i728, i729, T730⟩⟩
   intro e125 a w770 hO771
   obtain ⟨he772, hO771⟩ := hO771
   subst he772
   obtain ⟨o773, z716, M, q774, q775, q776, i777, i778, i779, T780⟩ := hO771
   obtain ⟨A781, c782, hzc782, -⟩ := q776.form
   subst hzc782
   refine q_blk_here <| q_blk <| q_then <| c_reg <| pn (j := 1) E 1 M rfl rfl fun a M => ?_
   have M := M.pk [0, 1, 2, 3, 4, 5] rfl
   refine pn (j := 2) E 1 M rfl rfl fun a M => x_end rfl ?_
   obtain rfl := sj h
   exact lq_next ⟨o773, (.slice A617 (y335 ++ [x580.left]).length c618), (.slice A781 x768.length c782), (M.pk [2, 3, 4, 5, 6, 0] rfl), q774, q775, q776, i777, i778, i779, T780⟩
  rw [if_neg hk96] at h
  have hk96 := nott hk96
  have M := M.k 29 rfl hk96
  refine c_false (M.e 0 rfl) <| wp_exit <| q_then_exit ?_
  obtain rfl := sj h
  exact lq_exit ⟨rfl, ⟨o568, (.slice A576 y335.length c577), (.slice A578 y337.length c579), (M.pk [1, 2, 3] rfl), q569, q570, q571, i573, i574, i572, T575⟩⟩
 intro e126 a w785 hO786
 obtain ⟨he787, hO786⟩ := hO786
 subst he787
 obtain ⟨o788, z560, z562, M, q789, q790, q791, i792, i793, i794, T795⟩ := hO786
 obtain ⟨A796, c797, hzc797, -⟩ := q790.form
 subst hzc797
 obtain ⟨A798, c799, hzc799, -⟩ := q791.form
 subst hzc799
 refine q_blk_here <| q_then <| c_seq <| c_reg <| pn (j := 1) E 1 M rfl rfl fun a M => ov rfl rfl M (x_load ld_22 (M.e 0 rfl) (q789.cell (n := 0) rfl)) fun a M => pn (j := 4) E 2 M rfl rfl fun a M => x_end rfl <| q_then <| c_seq <| c_reg <| pn (j := 4) E 4 M rfl rfl fun a M => ov rfl rfl M (x_load ld_22 (M.e 0 rfl) (q789.cell (n := 1) rfl)) fun a M => pn (j := 7) E 2 M rfl rfl fun a M => ?_
 obtain ⟨r800, hr801, h⟩ := bind_some h
 refine oc rfl (wp0 rfl) rfl rfl M (x_call cf_133 (m3 (M.e 6 rfl) (M.e 5 rfl) (M.e 0 rfl))) (grammar_rising_calls hr801 (lko_own (T := [(0, 0), (103, 0)]) (o := o788) rfl) (q790.lend rfl rfl)) (fun e127 w802 hp803 => ?_)
 obtain ⟨o804, he805, T806⟩ := hp803
 obtain ⟨o807, ho808⟩ := ex (mrg w785 o788 [(0, 0)] o804)
 have t809 := T806.r0 ho808
 refine ⟨_, he805, fun a M => ?_⟩
 refine pn (j := 9) E 1 M rfl rfl fun a M => ?_
 by_cases hk128 : r800 = true
 ·rw [if_pos hk128] at h
  have M := M.k 64 rfl hk128
  refine pn (j := 11) E 2 M rfl rfl fun a M => ?_
  obtain ⟨r810, hr811, h⟩ := bind_some h
  refine oc rfl (wanted_yes rfl rfl (M.t 2 rfl)) rfl rfl M (x_call cf_133 (m3 (M.e 1 rfl) (e_const (v := .int .i64 (0 : Int))) (M.e 0 rfl))) (grammar_rising_calls hr811 (lko_own (T := [(0, 0), (102, 0)]) (o := o807) rfl) ((q791.kn t809).lend rfl rfl)) (fun e129 w812 hp813 => ?_)
  obtain ⟨o814, he815, T816⟩ := hp813
  obtain ⟨o817, ho818⟩ := ex (mrg w802 o807 [(0, 0)] o814)
  have t819 := T816.r0 ho818
  refine ⟨_, he815, fun a M => ?_⟩
  refine pn (j := 14) E 2 M rfl rfl fun a M => x_end rfl <| q_then <| wp_ret ?_
  have u130 := (T795.kn t809).kn t819
  obtain rfl := sj h
  exact ⟨M.f.defers, _, (res1 Try.results79 (rv_tmp (M.t 0 rfl))), ⟨o817, rfl, u130⟩⟩
 rw [if_neg hk128] at h
 have hk128 := nott hk128
 have M := M.k 64 rfl hk128
 refine pn (j := 14) E 5 M rfl rfl fun a M => x_end rfl <| q_then <| wp_ret ?_
 have u131 := T795.kn t809
 obtain rfl := sj h
 exact ⟨M.f.defers, _, (res1 Try.results79 (rv_tmp (M.t 0 rfl))), ⟨o807, rfl, u131⟩⟩
end Go.Proofs.Ythilemcdhkfhlaa
namespace Go.Proofs.Ythilemcdhkfhlaa
open Go Go.RowKit Go.Gc Go.Proofs
def chart_Of_b0 (k : Nat) (p1 : Grammar) (y127 : Int) (y128 : Int) (y129 : List Int) : Option ((Int × Int × (List Int)) ⊕ (Int × (List Int))) :=
  if (decide (y128 < (p1.rules.length : Int))) = true then ((at? p1.rules y128).bind fun x210 => if y129.length + [y127].length ≤ 1000000000 then (some (.inl (IntKind.wrap .i64 (y127 + (IntKind.wrap .i64 ((x210.right.length : Int) + (1 : Int)))), IntKind.wrap .i64 (y128 + (1 : Int)), y129 ++ [y127]))) else none) else (some (.inr (y127, y129)))
def chart_Of_b1 (k : Nat) (p1 : Grammar) (p11 : List Int) (x253 : (Int × (List Int))) (y388 : Int) (y389 : List Bool) (y391 : List Part) : Option ((Int × (List Bool) × (List Part)) ⊕ ((List Bool) × (List Part))) :=
  if (decide (y388 < (p11.length : Int))) = true then ((at? p11 y388).bind fun x503 => (grammar_Term k p1 x503).bind fun r513 => if r513 = true then ((chart_Chart_at k x503 y388 (IntKind.wrap .i64 (y388 + (1 : Int))) p1.terms p1.names p1.rules (p11.length : Int) y389 (List.replicate (IntKind.wrap .i64 (x253.1 * (IntKind.wrap .i64 ((IntKind.wrap .i64 ((p11.length : Int) + (1 : Int))) * (IntKind.wrap .i64 ((p11.length : Int) + (1 : Int))))))).toNat false) x253.2 y391 1 ([] : List Part)).bind fun r524 => (at? y389 (IntKind.wrap .i64 ((IntKind.wrap .i64 ((IntKind.wrap .i64 ((IntKind.wrap .i64 (x503 * (IntKind.wrap .i64 ((p11.length : Int) + (1 : Int))))) + y388)) * (IntKind.wrap .i64 ((p11.length : Int) + (1 : Int))))) + (IntKind.wrap .i64 (y388 + (1 : Int)))))).bind fun x534 => some (.inl (IntKind.wrap .i64 (y388 + (1 : Int)), y389.set (IntKind.wrap .i64 ((IntKind.wrap .i64 ((IntKind.wrap .i64 ((IntKind.wrap .i64 (x503 * (IntKind.wrap .i64 ((p11.length : Int) + (1 : Int))))) + y388)) * (IntKind.wrap .i64 ((p11.length : Int) + (1 : Int))))) + (IntKind.wrap .i64 (y388 + (1 : Int))))).toNat true, y391))) else (some (.inl (IntKind.wrap .i64 (y388 + (1 : Int)), y389, y391)))) else (some (.inr (y389, y391)))
def chart_Of_b3 (k : Nat) (p1 : Grammar) (p11 : List Int) (x253 : (Int × (List Int))) (x565 : ((List Bool) × (List Part))) (y890 : Int) (y1340 : Int) (y1348 : List Bool) (y1351 : List Part) : Option ((Int × (List Bool) × (List Part)) ⊕ ((List Bool) × (List Part))) :=
  if (decide (y1340 < (IntKind.wrap .i64 ((p11.length : Int) + (1 : Int))))) = true then ((chart_Chart_part k (⟨y890, (0 : Int), y1340, y1340⟩ : Part) p1.terms p1.names p1.rules (p11.length : Int) x565.1 y1348 x253.2 y1351 1 ([] : List Part)).bind fun r1487 => some (.inl (IntKind.wrap .i64 (y1340 + (1 : Int)), r1487.1, r1487.2))) else (some (.inr (y1348, y1351)))
def chart_Of_b2 (k : Nat) (p1 : Grammar) (p11 : List Int) (x253 : (Int × (List Int))) (x565 : ((List Bool) × (List Part))) (y890 : Int) (y898 : List Bool) (y901 : List Part) : Option ((Int × (List Bool) × (List Part)) ⊕ ((List Bool) × (List Part))) :=
  if (decide (y890 < (p1.rules.length : Int))) = true then ((iter (fun (s : (Int × (List Bool) × (List Part))) => chart_Of_b3 k p1 p11 x253 x565 y890 s.1 s.2.1 s.2.2) k ((0 : Int), y898, y901)).bind fun x1539 => some (.inl (IntKind.wrap .i64 (y890 + (1 : Int)), x1539.1, x1539.2))) else (some (.inr (y898, y901)))
def chart_Of_b4 (k : Nat) (p1 : Grammar) (p11 : List Int) (x253 : (Int × (List Int))) (y1730 : List Bool) (y1732 : List Bool) (y1735 : List Part) (y1737 : List Part) : Option (((List Bool) × (List Bool) × (List Part) × (List Part)) ⊕ ((List Bool) × (List Bool) × (List Part) × (List Part))) :=
  (chart_queue_take k p1.terms p1.names p1.rules (p11.length : Int) y1730 y1732 x253.2 y1735 1 y1737).bind fun r1935 => if (!r1935.2.2.2.2.1) = true then (some (.inr (y1730, y1732, r1935.2.2.2.2.2.2, r1935.2.2.2.2.2.1))) else ((chart_Chart_follow k (⟨r1935.1, r1935.2.1, r1935.2.2.1, r1935.2.2.2.1⟩ : Part) p1.terms p1.names p1.rules (p11.length : Int) y1730 y1732 x253.2 r1935.2.2.2.2.2.2 1 r1935.2.2.2.2.2.1).bind fun r1997 => some (.inl (r1997.1, r1997.2.1, r1997.2.2, r1935.2.2.2.2.2.1)))
def chart_Of (k : Nat) (p1 : Grammar) (p11 : List Int) : Option (Int ⊕ ((List Bool) × (List Bool) × (List Int) × (List Part) × (List Part))) :=
  (grammar_Good k p1).bind fun r39 => if (!r39) = true then (some (.inl (16 : Int))) else (if (decide ((40 : Int) < (p11.length : Int))) = true then (some (.inl (14 : Int))) else ((iter (fun (s : (Int × Int × (List Int))) => chart_Of_b0 k p1 s.1 s.2.1 s.2.2) k ((0 : Int), (0 : Int), [])).bind fun x253 => if 0 ≤ (IntKind.wrap .i64 ((IntKind.wrap .i64 ((p1.terms.length : Int) + (p1.names.length : Int))) * (IntKind.wrap .i64 ((IntKind.wrap .i64 ((p11.length : Int) + (1 : Int))) * (IntKind.wrap .i64 ((p11.length : Int) + (1 : Int))))))) ∧ (IntKind.wrap .i64 ((IntKind.wrap .i64 ((p1.terms.length : Int) + (p1.names.length : Int))) * (IntKind.wrap .i64 ((IntKind.wrap .i64 ((p11.length : Int) + (1 : Int))) * (IntKind.wrap .i64 ((p11.length : Int) + (1 : Int))))))) ≤ 1000000000 then (if 0 ≤ (IntKind.wrap .i64 (x253.1 * (IntKind.wrap .i64 ((IntKind.wrap .i64 ((p11.length : Int) + (1 : Int))) * (IntKind.wrap .i64 ((p11.length : Int) + (1 : Int))))))) ∧ (IntKind.wrap .i64 (x253.1 * (IntKind.wrap .i64 ((IntKind.wrap .i64 ((p11.length : Int) + (1 : Int))) * (IntKind.wrap .i64 ((p11.length : Int) + (1 : Int))))))) ≤ 1000000000 then ((iter (fun (s : (Int × (List Bool) × (List Part))) => chart_Of_b1 k p1 p11 x253 s.1 s.2.1 s.2.2) k ((0 : Int), List.replicate (IntKind.wrap .i64 ((IntKind.wrap .i64 ((p1.terms.length : Int) + (p1.names.length : Int))) * (IntKind.wrap .i64 ((IntKind.wrap .i64 ((p11.length : Int) + (1 : Int))) * (IntKind.wrap .i64 ((p11.length : Int) + (1 : Int))))))).toNat false, [])).bind fun x565 => (iter (fun (s : (Int × (List Bool) × (List Part))) => chart_Of_b2 k p1 p11 x253 x565 s.1 s.2.1 s.2.2) k ((0 : Int), List.replicate (IntKind.wrap .i64 (x253.1 * (IntKind.wrap .i64 ((IntKind.wrap .i64 ((p11.length : Int) + (1 : Int))) * (IntKind.wrap .i64 ((p11.length : Int) + (1 : Int))))))).toNat false, x565.2)).bind fun x1569 => (iter (fun (s : ((List Bool) × (List Bool) × (List Part) × (List Part))) => chart_Of_b4 k p1 p11 x253 s.1 s.2.1 s.2.2.1 s.2.2.2) k (x565.1, x1569.1, x1569.2, ([] : List Part))).bind fun x2049 => some (.inr (x2049.1, x2049.2.1, x253.2, x2049.2.2.1, x2049.2.2.2))) else none) else none))
theorem chart_Of_calls {k : Nat} {p1 : Grammar} {v2 : Value} {v5 : Value} {v8 : Value} {p11 : List Int} {v12 : Value} {r : (Int ⊕ ((List Bool) × (List Bool) × (List Int) × (List Part) × (List Part)))} (h : chart_Of k p1 p11 = some r) {w0 : World} {o0 : Own} (hown : Hown o0)
    (i4 : ((tSlice 9 tStr (by decide))).im w0 (L o0 0) p1.terms [v2])
    (i7 : ((tSlice 9 tStr (by decide))).im w0 (L o0 0) p1.names [v5])
    (i10 : ((tSlice 28 tyRule (by decide))).im w0 (L o0 0) p1.rules [v8])
    (i14 : ((tSlice 3 (tInt .i64) (by decide))).im w0 (L o0 0) p11 [v12]) :
    Calls Try.prog 29 #[.agg #[v2, v5, v8], v12] w0 (fun e w => (match r with | .inl r => ∃ (o2091 : Own), e = .returned (.tuple #[.pointer none, .int .i64 r]) ∧ Tr (Ls o0 []) w0 o0 w o2091 | .inr r => ∃ (o2092 : Own) (z2092 : Nat) (z2093 : Value) (z2095 : Value) (z2097 : Value) (z2100 : Value) (z2102 : Value) (z2104 : Value) (z2106 : Value) (z2107 : Nat), e = .returned (.tuple #[.pointer (some ⟨z2092, 0, none⟩), .int .i64 (0 : Int)]) ∧ Box w o2092 50 z2092 116 #[z2093, z2095, z2097, .int .i64 (p11.length : Int), z2100, z2102, z2104, z2106, .chan (some z2107)] ∧ Row tBool 4 w o2092 51 z2100 r.1 ∧ Row tBool 4 w o2092 52 z2102 r.2.1 ∧ Row (tInt .i64) 3 w o2092 53 z2104 r.2.2.1 ∧ Row tyPart 46 w o2092 54 z2106 r.2.2.2.1 ∧ Chan w o2092 55 z2107 1 (r.2.2.2.2.map cv_46) ∧ (tSlice 9 tStr (by decide)).im w (L o2092 0) p1.terms [z2093] ∧ (tSlice 9 tStr (by decide)).im w (L o2092 0) p1.names [z2095] ∧ (tSlice 28 tyRule (by decide)).im w (L o2092 0) p1.rules [z2097] ∧ Tr (Ls o0 []) w0 o0 w o2092)) := by
 unfold chart_Of at h
 refine startM Try.func29 rfl Try.ntmps29 (show 2 ≤ 144 by decide) fun a M => ?_
 have M : MB 144 [] [(0, .agg #[v2, v5, v8]), (1, v12)] a := M
 obtain ⟨A15, c16, hzc16, -⟩ := im_form i4
 subst hzc16
 obtain ⟨A17, c18, hzc18, -⟩ := im_form i7
 subst hzc18
 obtain ⟨A19, c20, hzc20, -⟩ := im_form i10
 subst hzc20
 obtain ⟨A21, c22, hzc22, -⟩ := im_form i14
 subst hzc22
 have T0 : Tr (Ls o0 []) w0 o0 w0 o0 := Tr.refl _ _ _
 refine c_seq <| c_reg ?_
 obtain ⟨g23, w24, o25, r26, b27, t28⟩ := b_box (P := Try.prog) (T := 25) (M.e 0 rfl) w0 o0 100
 refine ov rfl rfl M (r26 _ _ _ _ _) fun a M => pn (j := 3) E 2 M rfl rfl fun a M => x_end rfl <| q_then <| c_seq <| wp_block <| c_seq <| c_reg <| ov rfl rfl M (x_loadN (ldn_25 _ rfl) (M.e 2 rfl) (b27.sub (cs := #[.slice A15 p1.terms.length c16, .slice A17 p1.names.length c18, .slice A19 p1.rules.length c20]) 0 rfl)) fun a M => ?_
 obtain ⟨r39, hr40, h⟩ := bind_some h
 refine oc rfl (wp0 rfl) rfl rfl M (x_call cf_79 (m1 (M.e 0 rfl))) (grammar_Good_calls hr40 (lko_own (T := [(0, 0)]) (o := o25) rfl) (sL (iN i4 t28) rfl) (sL (iN i7 t28) rfl) (sL (iN i10 t28) rfl)) (fun e4 w41 hp42 => ?_)
 obtain ⟨o43, he44, T45⟩ := hp42
 obtain ⟨o46, ho47⟩ := ex (mrg w24 o25 [(0, 0)] o43)
 have t48 := T45.r0 ho47
 refine ⟨_, he44, fun a M => ?_⟩
 refine pn (j := 4) E 2 M rfl rfl fun a M => x_end rfl <| q_then ?_
 by_cases hk5 : (!r39) = true
 ·rw [if_pos hk5] at h
  have M := M.k 17 rfl hk5
  refine c_true (M.e 0 rfl) <| c_seq <| c_reg ?_
  have M := M.pk [] rfl
  refine pn (j := 2) E 2 M rfl rfl fun a M => x_end rfl <| q_then <| wp_ret <| q_blk_ret <| q_then_ret ?_
  have u6 := (T0.kn t28).kn t48
  obtain rfl := sj h
  exact ⟨M.f.defers, _, (res2 Try.results29 (rv_tmp (M.t 1 rfl)) (rv_tmp (M.t 0 rfl))), ⟨o46, rfl, u6⟩⟩
 rw [if_neg hk5] at h
 have hk5 := nott hk5
 have M := M.k 17 rfl hk5
 refine c_false (M.e 0 rfl) <| c_seq <| c_reg <| pn (j := 4) E 4 M rfl rfl fun a M => x_end rfl <| q_then ?_
 by_cases hk7 : (decide ((40 : Int) < (p11.length : Int))) = true
 ·rw [if_pos hk7] at h
  have M := M.k 21 rfl hk7
  refine c_true (M.e 0 rfl) <| c_seq <| c_reg ?_
  have M := M.pk [] rfl
  refine pn (j := 2) E 2 M rfl rfl fun a M => x_end rfl <| q_then <| wp_ret <| q_blk_ret <| q_then_ret ?_
  have u8 := (T0.kn t28).kn t48
  obtain rfl := sj h
  exact ⟨M.f.defers, _, (res2 Try.results29 (rv_tmp (M.t 1 rfl)) (rv_tmp (M.t 0 rfl))), ⟨o46, rfl, u8⟩⟩
 rw [if_neg hk7] at h
 have hk7 := nott hk7
 have M := M.k 21 rfl hk7
 refine c_false (M.e 0 rfl) <| wp_skip <| q_blk <| q_then <| c_seq ?_
 have hc50 : 0 ≤ (1 : Int) ∧ (1 : Int) ≤ 1000000000 := by decide
 have u9 := (T0.kn t28).kn t48
 refine draw_m mixed [0, 0, 2, 0, 8, 31, 63, 127] (by kernel_rfl) rfl M (fun U a w => ∃ (o : Own) (g51 : Nat) (g59 : Nat), Tab [(0, 25, .agg #[.slice A15 p1.terms.length c16, .slice A17 p1.names.length c18, .slice A19 p1.rules.length c20]), (1, 26, .slice A21 p11.length c22), (2, 27, .int .i64 (p11.length : Int))] U a ∧ Tab [(3, 28, .chan (some g51)), (4, 29, .agg #[.slice none 0 0, .chan (some g51)]), (5, 30, .agg #[.slice A15 p1.terms.length c16, .slice A17 p1.names.length c18, .slice A19 p1.rules.length c20, .int .i64 (p11.length : Int), .slice none 0 0, .slice none 0 0, .slice none 0 0, .slice none 0 0, .chan (some g51)])] U a ∧ Tab [(6, 31, .pointer (some ⟨g59, 0, none⟩)), (7, 6, .pointer (some ⟨g59, 0, none⟩))] U a ∧ Tr (FL [] o46 U) w41 o46 w o ∧ (U 3 = true → Chan w o 101 g51 1 (([] : List Part).map cv_46)) ∧ (U 6 = true → Box w o 102 g59 116 #[.slice A15 p1.terms.length c16, .slice A17 p1.names.length c18, .slice A19 p1.rules.length c20, .int .i64 (p11.length : Int), .slice none 0 0, .slice none 0 0, .slice none 0 0, .slice none 0 0, .chan (some g51)])) ?_ ⟨?_, ?_, ?_, ?_, ?_, ?_, ?_, ?_, trivial⟩ ?_
 ·exact ⟨o46, 0, 0, Tab.start, Tab.start, Tab.start, FL.start (tr_drew _ _), fun h => Bool.noConfusion h, fun h => Bool.noConfusion h⟩
 ·intro U a w M hL hA hD hI
  obtain ⟨o, g51, g59, TG0, TG1, TG2, tr, FE0, FE1⟩ := hI
  refine dv rfl rfl M (x_loadN (ldn_25 _ rfl) (M.e 10 rfl) (((b27.kn t48).keep_ (FL.same tr trivial)).sub (cs := #[.slice A15 p1.terms.length c16, .slice A17 p1.names.length c18, .slice A19 p1.rules.length c20]) 0 rfl)) fun a' p => ?_
  exact ⟨M.st p rfl, o, g51, g59, (TG0.step p 0 rfl rfl), (TG1.other p rfl), (TG2.other p rfl), (FL.idle tr), FE0, FE1⟩
 ·intro U a w M hL hA hD hI
  obtain ⟨o, g51, g59, TG0, TG1, TG2, tr, FE0, FE1⟩ := hI
  refine dv rfl rfl M (x_move (M.e 12 rfl)) fun a' p => ?_
  exact ⟨M.st p rfl, o, g51, g59, (TG0.step p 1 rfl rfl), (TG1.other p rfl), (TG2.other p rfl), (FL.idle tr), FE0, FE1⟩
 ·intro U a w M hL hA hD hI
  obtain ⟨o, g51, g59, TG0, TG1, TG2, tr, FE0, FE1⟩ := hI
  refine dv rfl rfl M (x_lenSlice Try.underlying26 (e_tmp (TG0.get 1 rfl (hA 1 rfl)))) fun a' p => ?_
  exact ⟨M.st p rfl, o, g51, g59, (TG0.step p 2 rfl rfl), (TG1.other p rfl), (TG2.other p rfl), (FL.idle tr), FE0, FE1⟩
 ·intro U a w M hL hA hD hI
  obtain ⟨o, g51, g59, TG0, TG1, TG2, tr, FE0, FE1⟩ := hI
  obtain ⟨g51, w52, o53, r54, b55, t56⟩ := b_chan Try.underlying111 (el_46).bytes (e_const (v := .int .i64 (1 : Int))) hc50.1 hc50.2 w o 101
  have b55 : Chan w52 o53 101 g51 1 (([] : List Part).map cv_46) := b55
  refine dv rfl rfl M (r54 _ _ _ _ _) fun a' p => ?_
  exact ⟨M.st p rfl, o53, g51, g59, (TG0.other p rfl), (Tab.mk hD p 0 rfl rfl), (TG2.other p rfl), (FL.stepNo tr t56), (fun _ => b55), (fun h => ab (hD 6 rfl) rfl h)⟩
 ·intro U a w M hL hA hD hI
  obtain ⟨o, g51, g59, TG0, TG1, TG2, tr, FE0, FE1⟩ := hI
  have hb57 : ∀ w : World, (Instr.build 114 #[(1, .chan (some g51))]).run Try.prog w = .ok (.agg #[.slice none 0 0, .chan (some g51)]) w := fun w => by go_simp
  refine dv rfl rfl M (x_build (l1 (e_tmp (TG1.get 0 rfl (hA 3 rfl)))) hb57) fun a' p => ?_
  exact ⟨M.st p rfl, o, g51, g59, (TG0.other p rfl), (TG1.step p 1 rfl rfl), (TG2.other p rfl), (FL.idle tr), FE0, FE1⟩
 ·intro U a w M hL hA hD hI
  obtain ⟨o, g51, g59, TG0, TG1, TG2, tr, FE0, FE1⟩ := hI
  have hb58 : ∀ w : World, (Instr.build 116 #[(0, .agg #[.slice A15 p1.terms.length c16, .slice A17 p1.names.length c18, .slice A19 p1.rules.length c20]), (1, .int .i64 (p11.length : Int)), (5, .agg #[.slice none 0 0, .chan (some g51)])]).run Try.prog w = .ok (.agg #[.slice A15 p1.terms.length c16, .slice A17 p1.names.length c18, .slice A19 p1.rules.length c20, .int .i64 (p11.length : Int), .slice none 0 0, .slice none 0 0, .slice none 0 0, .slice none 0 0, .chan (some g51)]) w := fun w => by go_simp
  refine dv rfl rfl M (x_build (l3 (e_tmp (TG0.get 0 rfl (hA 0 rfl))) (e_tmp (TG0.get 2 rfl (hA 2 rfl))) (e_tmp (TG1.get 1 rfl (hA 4 rfl)))) hb58) fun a' p => ?_
  exact ⟨M.st p rfl, o, g51, g59, (TG0.other p rfl), (TG1.step p 2 rfl rfl), (TG2.other p rfl), (FL.idle tr), FE0, FE1⟩
 ·intro U a w M hL hA hD hI
  obtain ⟨o, g51, g59, TG0, TG1, TG2, tr, FE0, FE1⟩ := hI
  obtain ⟨g59, w60, o61, r62, b63, t64⟩ := b_box (P := Try.prog) (T := 116) (e_tmp (TG1.get 2 rfl (hA 5 rfl))) w o 102
  refine dv rfl rfl M (r62 _ _ _ _ _) fun a' p => ?_
  exact ⟨M.st p rfl, o61, g51, g59, (TG0.other p rfl), (TG1.other p rfl), (Tab.mk hD p 0 rfl rfl), (FL.stepNo tr t64), (fun h0 => (FE0 h0).keep_ (t64.sameNo)), (fun _ => b63)⟩
 ·intro U a w M hL hA hD hI
  obtain ⟨o, g51, g59, TG0, TG1, TG2, tr, FE0, FE1⟩ := hI
  refine dv rfl rfl M (x_assign (e_tmp (TG2.get 0 rfl (hA 6 rfl)))) fun a' p => ?_
  exact ⟨M.st p rfl, o, g51, g59, (TG0.other p rfl), (TG1.other p rfl), (TG2.step p 1 rfl rfl), (FL.idle tr), FE0, FE1⟩
 intro U a w65 M hA hI
 obtain ⟨o66, g51, g59, TG0, TG1, TG2, tr, FE0, FE1⟩ := hI
 have M := M.ad (TG2.get 1 rfl (hA 7 rfl))
 have q67 := ((b27.kn t48).keep_ (FL.same tr trivial))
 have q68 := (FE0 (hA 3 rfl))
 have q69 := (FE1 (hA 6 rfl))
 have i70 := (Ty.loc _ (FL.same tr trivial) (iN (iN i4 t28) t48))
 have i71 := (Ty.loc _ (FL.same tr trivial) (iN (iN i7 t28) t48))
 have i72 := (Ty.loc _ (FL.same tr trivial) (iN (iN i10 t28) t48))
 have i73 := (Ty.loc _ (FL.same tr trivial) (iN (iN i14 t28) t48))
 have T74 := Tr.kf u9 tr hown rfl
 clear hA TG0 TG1 TG2 tr FE0 FE1
 refine q_then <| c_seq <| c_reg <| pn (j := 1) E 1 M rfl rfl fun a M => x_end rfl <| q_then <| c_seq <| c_seq <| c_reg <| pn (j := 1) E 1 M rfl rfl fun a M => ov rfl rfl M (x_load ld_23 (M.e 0 rfl) (q67.cell (n := 2) rfl)) fun a M => pn (j := 4) E 2 M rfl rfl fun a M => x_end rfl <| q_then <| wp_block ?_
 obtain ⟨x253, hx254, h⟩ := bind_some h
 refine loop_iter (S := (Int × Int × (List Int))) (X := (Int × (List Int))) (fun (s : (Int × Int × (List Int))) => chart_Of_b0 k p1 s.1 s.2.1 s.2.2) (fun (s : (Int × Int × (List Int))) (a : Act) (w : World) => ∃ (o193 : Own) (z130 : Value), MB 144 [] [(1, .slice A21 p11.length c22), (2, .pointer (some ⟨g23, 0, none⟩)), (6, .pointer (some ⟨g59, 0, none⟩)), (7, .int .i64 s.1), (33, .slice A19 p1.rules.length c20), (34, .int .i64 (p1.rules.length : Int)), (35, .int .i64 s.2.1)] a ∧ Box w o193 100 g23 25 #[.slice A15 p1.terms.length c16, .slice A17 p1.names.length c18, .slice A19 p1.rules.length c20] ∧ Box w o193 102 g59 116 #[.slice A15 p1.terms.length c16, .slice A17 p1.names.length c18, .slice A19 p1.rules.length c20, .int .i64 (p11.length : Int), .slice none 0 0, .slice none 0 0, z130, .slice none 0 0, .chan (some g51)] ∧ Row (tInt .i64) 3 w o193 105 z130 s.2.2 ∧ Chan w o193 101 g51 1 (([] : List Part).map cv_46) ∧ ((tSlice 3 (tInt .i64) (by decide))).im w (L o193 0) p11 [.slice A21 p11.length c22] ∧ ((tSlice 28 tyRule (by decide))).im w (L o193 0) p1.rules [.slice A19 p1.rules.length c20] ∧ ((tSlice 9 tStr (by decide))).im w (L o193 0) p1.terms [.slice A15 p1.terms.length c16] ∧ ((tSlice 9 tStr (by decide))).im w (L o193 0) p1.names [.slice A17 p1.names.length c18] ∧ Tr (Ls o0 []) w0 o0 w o193) (fun (x : (Int × (List Int))) (e : Exit) (a : Act) (w : World) => (e = .exit 1 ∧ ∃ (o194 : Own) (z192 : Value), MB 144 [] [(1, .slice A21 p11.length c22), (2, .pointer (some ⟨g23, 0, none⟩)), (6, .pointer (some ⟨g59, 0, none⟩)), (7, .int .i64 x.1)] a ∧ Box w o194 100 g23 25 #[.slice A15 p1.terms.length c16, .slice A17 p1.names.length c18, .slice A19 p1.rules.length c20] ∧ Box w o194 102 g59 116 #[.slice A15 p1.terms.length c16, .slice A17 p1.names.length c18, .slice A19 p1.rules.length c20, .int .i64 (p11.length : Int), .slice none 0 0, .slice none 0 0, z192, .slice none 0 0, .chan (some g51)] ∧ Row (tInt .i64) 3 w o194 105 z192 x.2 ∧ Chan w o194 101 g51 1 (([] : List Part).map cv_46) ∧ ((tSlice 3 (tInt .i64) (by decide))).im w (L o194 0) p11 [.slice A21 p11.length c22] ∧ ((tSlice 9 tStr (by decide))).im w (L o194 0) p1.terms [.slice A15 p1.terms.length c16] ∧ ((tSlice 9 tStr (by decide))).im w (L o194 0) p1.names [.slice A17 p1.names.length c18] ∧ ((tSlice 28 tyRule (by decide))).im w (L o194 0) p1.rules [.slice A19 p1.rules.length c20] ∧ Tr (Ls o0 []) w0 o0 w o194)) ?_ hx254 ⟨o66, (.slice none 0 0), (M.pk [18, 16, 5, 4, 2, 1, 0] rfl), q67, q69, (Row.nil (tInt .i64) 3 w65 o66 105), q68, i73, i72, i70, i71, T74⟩ ?_
 ·rintro ⟨y127, y128, y129⟩ a w195 r196 hI197 h
  replace h : chart_Of_b0 k p1 y127 y128 y129 = some r196 := h
  unfold chart_Of_b0 at h
  obtain ⟨o198, z130, M, q199, q200, q201, q202, i203, i204, i205, i206, T207⟩ := hI197
  obtain ⟨A208, c209, hzc209, -⟩ := q201.form
  subst hzc209
  refine c_seq <| c_reg <| pn (j := 1) E 1 M rfl rfl fun a M => x_end rfl <| q_then <| c_seq ?_
  by_cases hk20 : (decide (y128 < (p1.rules.length : Int))) = true
  ·rw [if_pos hk20] at h
   have M := M.k 36 rfl hk20
   refine c_true (M.e 0 rfl) <| wp_skip <| q_then <| c_seq <| wp_block <| c_seq <| c_reg ?_
   obtain ⟨x210, hx211, h⟩ := bind_some h
   obtain ⟨hx2110, hx2111, hx2112⟩ := at_some hx211
   obtain ⟨g212, f213, c214, ds215, hv216, hd217, he218⟩ := im_elem i204 hx2111
   obtain ⟨A219, c220, rfl, i221⟩ := Rule_open hd217
   have he218 : ElemAt w195 o198 0 g212 f213 (y128).toNat 2 [.int .i64 x210.left, .slice A219 x210.right.length c220] := he218
   refine ov rfl rfl M (x_indexAddr Try.underlying23 sz_28 ((M.e 5 rfl).trans hv216) (M.e 7 rfl) hx2110 hx2112) fun a M => ov rfl rfl M (x_loadN (ldn_28 _ rfl) (M.e 0 rfl) he218.all) fun a M => ?_
   obtain ⟨g224, w225, o226, r227, b228, t229⟩ := b_alloc zv_28 a w195 o198 103
   refine ov rfl rfl M (r227 _ _ _ _ _) fun a M => ?_
   obtain ⟨w230, r231, b232, t233⟩ := b_storeN (P := Try.prog) (all' := #[.int .i64 x210.left, .slice A219 x210.right.length c220]) (.inr trivial) (stn_28 _ rfl) (M.e 0 rfl) (M.e 1 rfl) b228 (show 2 ≤ 2 by decide) (by simp [Value.oneCell']) rfl
   have b232 : Box w230 o226 103 g224 28 #[.int .i64 x210.left, .slice A219 x210.right.length c220] := b232
   refine os rfl (wp0 rfl) rfl (r231 _ _ _ _ _) <| x_end rfl <| q_then <| c_seq <| c_reg <| pn (j := 4) E 4 M rfl rfl fun a M => ov rfl rfl M (x_load ld_26 (M.e 0 rfl) (((q200.kn t229).kk t233 rfl).cell (n := 6) rfl)) fun a M => pn (j := 6) E 1 M rfl rfl fun a M => ?_
   have r236 : (Instr.buildSlice 26 1 #[(0, .int .i64 y127)]).run Try.prog w230 = .ok (.slice (some ⟨w230.heap.size, 0, none⟩) 1 1) (w230.alloc (.cells ([.int .i64 y127] : List Value).toArray 3)) := by go_simp
   obtain ⟨b237, t238⟩ := Row.lit (E := (tInt .i64)) (e := 3) (l := [y127]) (by decide) w230 o226 104 (cs := [.int .i64 y127]) ⟨[.int .i64 y127], _, rfl, rfl, rfl⟩ (by simp)
   generalize hww234 : w230.alloc _ = w234 at r236 b237 t238
   generalize upd o226 _ 104 = o235 at b237 t238
   generalize hgg239 : w230.heap.size = g239 at r236 b237
   clear hww234 hgg239
   refine ov rfl rfl M (x_buildSlice (l1 (M.e 0 rfl)) r236) fun a M => ?_
   obtain ⟨hc240, h⟩ := ifs h
   have u21 := ((q201.kn t229).kk t233 rfl rfl).kn t238
   obtain ⟨v241, w242, o243, r244, b245, t246⟩ := run_append el_3 Try.underlying26 26 u21 (by decide) (Src.row b237) hc240
   obtain ⟨A247, c248, rfl, -⟩ := b245.form
   refine ov rfl rfl M (x_append (M.e 2 rfl) (M.e 0 rfl) r244) fun a M => pn (j := 10) E 2 M rfl rfl fun a M => ?_
   have u22 := (((q200.kn t229).kk t233 rfl).kn t238).kk t246 rfl
   obtain ⟨w249, r250, b251, t252⟩ := b_store (P := Try.prog) st_26 (M.e 0 rfl) (M.e 2 rfl) u22 (show 6 < 9 by decide) rfl rfl
   have b251 : Box w249 o243 102 g59 116 #[.slice A15 p1.terms.length c16, .slice A17 p1.names.length c18, .slice A19 p1.rules.length c20, .int .i64 (p11.length : Int), .slice none 0 0, .slice none 0 0, .slice A247 (y129 ++ [y127]).length c248, .slice none 0 0, .chan (some g51)] := b251
   refine os rfl (wp0 rfl) rfl (r250 _ _ _ _ _) <| x_end rfl <| q_then <| c_reg <| pn (j := 2) E 2 M rfl rfl fun a M => ?_
   have u23 := ((b232.kn t238).kk t246 rfl).kk t252 rfl
   refine ov rfl rfl M (x_load ld_26 (M.e 0 rfl) (u23.cell (n := 1) rfl)) fun a M => pn (j := 6) E 3 M rfl rfl fun a M => ?_
   have M := M.pk [0, 1, 2, 3, 4, 5, 16, 20, 21, 22, 24, 25, 26] rfl
   refine pn (j := 7) E 1 M rfl rfl fun a M => x_end rfl <| q_blk <| q_then <| c_reg <| pn (j := 1) E 1 M rfl rfl fun a M => ?_
   have M := M.pk [0, 1, 9, 10, 11, 12, 13] rfl
   refine pn (j := 2) E 1 M rfl rfl fun a M => x_end rfl ?_
   obtain rfl := sj h
   have u24 := iK (iK (iN (iK (iN i203 t229) t233 rfl) t238) t246 rfl) t252 rfl
   have u25 := iK (iK (iN (iK (iN i204 t229) t233 rfl) t238) t246 rfl) t252 rfl
   have u26 := iK (iK (iN (iK (iN i205 t229) t233 rfl) t238) t246 rfl) t252 rfl
   have u27 := iK (iK (iN (iK (iN i206 t229) t233 rfl) t238) t246 rfl) t252 rfl
   have u28 := ((((q199.kn t229).kk t233 rfl).kn t238).kk t246 rfl).kk t252 rfl
   have u29 := ((((q202.kn t229).kk t233 rfl).kn t238).kk t246 rfl).kk t252 rfl
   have u30 := ((((T207.kn t229).kk t233 hown rfl).kn t238).kk t246 hown rfl).kk t252 hown rfl
   exact lq_next ⟨o243, (.slice A247 (y129 ++ [y127]).length c248), (M.pk [3, 4, 5, 2, 6, 7, 0] rfl), u28, b251, (b245.kk t252 rfl rfl), u29, u24, u25, u26, u27, u30⟩
  rw [if_neg hk20] at h
  have hk20 := nott hk20
  have M := M.k 36 rfl hk20
  refine c_false (M.e 0 rfl) <| wp_exit <| q_then_exit ?_
  obtain rfl := sj h
  exact lq_exit ⟨rfl, ⟨o198, (.slice A208 y129.length c209), (M.pk [1, 2, 3, 4] rfl), q199, q200, q201, q202, i203, i205, i206, i204, T207⟩⟩
 intro e31 a w255 hO256
 obtain ⟨he257, hO256⟩ := hO256
 subst he257
 obtain ⟨o258, z192, M, q259, q260, q261, q262, i263, i264, i265, i266, T267⟩ := hO256
 obtain ⟨A268, c269, hzc269, -⟩ := q261.form
 subst hzc269
 refine q_blk_here <| q_then <| c_seq <| draw_p E mixed [0, 1, 3, 7, 15, 0, 32, 96, 224, 480, 1023, 2047] (by kernel_rfl) rfl M [(3, .int .i64 (p11.length : Int)), (8, .int .i64 (p11.length : Int))] rfl rfl rfl o258 ⟨fun a w o M G r => qv rfl rfl M rfl (x_load ld_3 (G.e 2 rfl rfl) ((q260.kn r).cell (n := 3) rfl)),
   fun a w o M G r => qv rfl rfl M rfl (x_load ld_3 (G.e 7 rfl rfl) ((q260.kn r).cell (n := 3) rfl)),
   trivial⟩ ?_
 intro a w271 o272 M t273
 refine q_then <| c_seq ?_
 obtain ⟨hc275, h⟩ := ifs h
 obtain ⟨hc284, h⟩ := ifs h
 have u32 := T267.kn t273
 refine draw_m mixed [0, 0, 0, 4, 12, 0, 32, 96, 252, 0, 1020, 2044, 0, 0, 12288, 28672, 4093, 69629, 200701, 524287, 1048575, 2097151] (by kernel_rfl) rfl M (fun U a w => ∃ (o : Own) (A282 : Option Addr) (c283 : Nat) (A291 : Option Addr) (c292 : Nat), Tab [(0, 67, .pointer (some ⟨g59, 0, none⟩)), (1, 68, .pointer (some ⟨g59, 0, none⟩)), (2, 69, .pointer (some ⟨g23, 0, none⟩)), (3, 70, .slice A15 p1.terms.length c16), (4, 71, .int .i64 (p1.terms.length : Int)), (5, 72, .pointer (some ⟨g23, 1, none⟩)), (6, 73, .slice A17 p1.names.length c18), (7, 74, .int .i64 (p1.names.length : Int)), (8, 75, .int .i64 (IntKind.wrap .i64 ((p1.terms.length : Int) + (p1.names.length : Int)))), (9, 76, .int .i64 (IntKind.wrap .i64 ((IntKind.wrap .i64 ((p11.length : Int) + (1 : Int))) * (IntKind.wrap .i64 ((p11.length : Int) + (1 : Int)))))), (10, 77, .int .i64 (IntKind.wrap .i64 ((IntKind.wrap .i64 ((p1.terms.length : Int) + (p1.names.length : Int))) * (IntKind.wrap .i64 ((IntKind.wrap .i64 ((p11.length : Int) + (1 : Int))) * (IntKind.wrap .i64 ((p11.length : Int) + (1 : Int)))))))), (12, 79, .int .i64 x253.1), (13, 80, .int .i64 (IntKind.wrap .i64 ((IntKind.wrap .i64 ((p11.length : Int) + (1 : Int))) * (IntKind.wrap .i64 ((p11.length : Int) + (1 : Int)))))), (14, 81, .int .i64 (IntKind.wrap .i64 (x253.1 * (IntKind.wrap .i64 ((IntKind.wrap .i64 ((p11.length : Int) + (1 : Int))) * (IntKind.wrap .i64 ((p11.length : Int) + (1 : Int)))))))), (16, 83, .pointer (some ⟨g59, 0, none⟩)), (17, 84, .pointer (some ⟨g59, 4, none⟩)), (19, 85, .pointer (some ⟨g59, 0, none⟩)), (20, 86, .pointer (some ⟨g59, 5, none⟩))] U a ∧ Tab [(11, 78, .slice A282 (List.replicate (IntKind.wrap .i64 ((IntKind.wrap .i64 ((p1.terms.length : Int) + (p1.names.length : Int))) * (IntKind.wrap .i64 ((IntKind.wrap .i64 ((p11.length : Int) + (1 : Int))) * (IntKind.wrap .i64 ((p11.length : Int) + (1 : Int))))))).toNat false).length c283)] U a ∧ Tab [(15, 82, .slice A291 (List.replicate (IntKind.wrap .i64 (x253.1 * (IntKind.wrap .i64 ((IntKind.wrap .i64 ((p11.length : Int) + (1 : Int))) * (IntKind.wrap .i64 ((p11.length : Int) + (1 : Int))))))).toNat false).length c292)] U a ∧ Tr (FL [(18, 102), (21, 102)] o272 U) w271 o272 w o ∧ (U 11 = true → Row tBool 4 w o 103 (.slice A282 (List.replicate (IntKind.wrap .i64 ((IntKind.wrap .i64 ((p1.terms.length : Int) + (p1.names.length : Int))) * (IntKind.wrap .i64 ((IntKind.wrap .i64 ((p11.length : Int) + (1 : Int))) * (IntKind.wrap .i64 ((p11.length : Int) + (1 : Int))))))).toNat false).length c283) (List.replicate (IntKind.wrap .i64 ((IntKind.wrap .i64 ((p1.terms.length : Int) + (p1.names.length : Int))) * (IntKind.wrap .i64 ((IntKind.wrap .i64 ((p11.length : Int) + (1 : Int))) * (IntKind.wrap .i64 ((p11.length : Int) + (1 : Int))))))).toNat false)) ∧ (U 15 = true → Row tBool 4 w o 104 (.slice A291 (List.replicate (IntKind.wrap .i64 (x253.1 * (IntKind.wrap .i64 ((IntKind.wrap .i64 ((p11.length : Int) + (1 : Int))) * (IntKind.wrap .i64 ((p11.length : Int) + (1 : Int))))))).toNat false).length c292) (List.replicate (IntKind.wrap .i64 (x253.1 * (IntKind.wrap .i64 ((IntKind.wrap .i64 ((p11.length : Int) + (1 : Int))) * (IntKind.wrap .i64 ((p11.length : Int) + (1 : Int))))))).toNat false)) ∧ (U 18 = true → U 21 = false → Box w o 102 g59 116 #[.slice A15 p1.terms.length c16, .slice A17 p1.names.length c18, .slice A19 p1.rules.length c20, .int .i64 (p11.length : Int), .slice A282 (List.replicate (IntKind.wrap .i64 ((IntKind.wrap .i64 ((p1.terms.length : Int) + (p1.names.length : Int))) * (IntKind.wrap .i64 ((IntKind.wrap .i64 ((p11.length : Int) + (1 : Int))) * (IntKind.wrap .i64 ((p11.length : Int) + (1 : Int))))))).toNat false).length c283, .slice none 0 0, .slice A268 x253.2.length c269, .slice none 0 0, .chan (some g51)]) ∧ (U 21 = true → Box w o 102 g59 116 #[.slice A15 p1.terms.length c16, .slice A17 p1.names.length c18, .slice A19 p1.rules.length c20, .int .i64 (p11.length : Int), .slice A282 (List.replicate (IntKind.wrap .i64 ((IntKind.wrap .i64 ((p1.terms.length : Int) + (p1.names.length : Int))) * (IntKind.wrap .i64 ((IntKind.wrap .i64 ((p11.length : Int) + (1 : Int))) * (IntKind.wrap .i64 ((p11.length : Int) + (1 : Int))))))).toNat false).length c283, .slice A291 (List.replicate (IntKind.wrap .i64 (x253.1 * (IntKind.wrap .i64 ((IntKind.wrap .i64 ((p11.length : Int) + (1 : Int))) * (IntKind.wrap .i64 ((p11.length : Int) + (1 : Int))))))).toNat false).length c292, .slice A268 x253.2.length c269, .slice none 0 0, .chan (some g51)])) ?_ ⟨?_, ?_, ?_, ?_, ?_, ?_, ?_, ?_, ?_, ?_, ?_, ?_, ?_, ?_, ?_, ?_, ?_, ?_, ?_, ?_, ?_, ?_, trivial⟩ ?_
 ·exact ⟨o272, none, 0, none, 0, Tab.start, Tab.start, Tab.start, FL.start (tr_drew _ _), fun h => Bool.noConfusion h, fun h => Bool.noConfusion h, fun h => Bool.noConfusion h, fun h => Bool.noConfusion h⟩
 ·intro U a w M hL hA hD hI
  obtain ⟨o, A282, c283, A291, c292, TG0, TG1, TG2, tr, FE0, FE1, FE2, FE3⟩ := hI
  refine dv rfl rfl M (x_move (M.e 14 rfl)) fun a' p => ?_
  exact ⟨M.st p rfl, o, A282, c283, A291, c292, (TG0.step p 0 rfl rfl), (TG1.other p rfl), (TG2.other p rfl), (FL.idle tr), FE0, FE1, FE2, FE3⟩
 ·intro U a w M hL hA hD hI
  obtain ⟨o, A282, c283, A291, c292, TG0, TG1, TG2, tr, FE0, FE1, FE2, FE3⟩ := hI
  refine dv rfl rfl M (x_move (M.e 14 rfl)) fun a' p => ?_
  exact ⟨M.st p rfl, o, A282, c283, A291, c292, (TG0.step p 1 rfl rfl), (TG1.other p rfl), (TG2.other p rfl), (FL.idle tr), FE0, FE1, FE2, FE3⟩
 ·intro U a w M hL hA hD hI
  obtain ⟨o, A282, c283, A291, c292, TG0, TG1, TG2, tr, FE0, FE1, FE2, FE3⟩ := hI
  refine dv rfl rfl M (x_fieldAddr fa_25_0 (M.e 13 rfl) rfl) fun a' p => ?_
  exact ⟨M.st p rfl, o, A282, c283, A291, c292, (TG0.step p 2 rfl rfl), (TG1.other p rfl), (TG2.other p rfl), (FL.idle tr), FE0, FE1, FE2, FE3⟩
 ·intro U a w M hL hA hD hI
  obtain ⟨o, A282, c283, A291, c292, TG0, TG1, TG2, tr, FE0, FE1, FE2, FE3⟩ := hI
  refine dv rfl rfl M (x_load ld_22 (e_tmp (TG0.get 2 rfl (hA 2 rfl))) (((q259.kn t273).keep_ (FL.same tr ⟨fun h => absurd h (ne rfl), ⟨fun h => absurd h (ne rfl), trivial⟩⟩)).cell (n := 0) rfl)) fun a' p => ?_
  exact ⟨M.st p rfl, o, A282, c283, A291, c292, (TG0.step p 3 rfl rfl), (TG1.other p rfl), (TG2.other p rfl), (FL.idle tr), FE0, FE1, FE2, FE3⟩
 ·intro U a w M hL hA hD hI
  obtain ⟨o, A282, c283, A291, c292, TG0, TG1, TG2, tr, FE0, FE1, FE2, FE3⟩ := hI
  refine dv rfl rfl M (x_lenSlice Try.underlying22 (e_tmp (TG0.get 3 rfl (hA 3 rfl)))) fun a' p => ?_
  exact ⟨M.st p rfl, o, A282, c283, A291, c292, (TG0.step p 4 rfl rfl), (TG1.other p rfl), (TG2.other p rfl), (FL.idle tr), FE0, FE1, FE2, FE3⟩
 ·intro U a w M hL hA hD hI
  obtain ⟨o, A282, c283, A291, c292, TG0, TG1, TG2, tr, FE0, FE1, FE2, FE3⟩ := hI
  refine dv rfl rfl M (x_fieldAddr fa_25_1 (M.e 13 rfl) rfl) fun a' p => ?_
  exact ⟨M.st p rfl, o, A282, c283, A291, c292, (TG0.step p 5 rfl rfl), (TG1.other p rfl), (TG2.other p rfl), (FL.idle tr), FE0, FE1, FE2, FE3⟩
 ·intro U a w M hL hA hD hI
  obtain ⟨o, A282, c283, A291, c292, TG0, TG1, TG2, tr, FE0, FE1, FE2, FE3⟩ := hI
  refine dv rfl rfl M (x_load ld_22 (e_tmp (TG0.get 5 rfl (hA 5 rfl))) (((q259.kn t273).keep_ (FL.same tr ⟨fun h => absurd h (ne rfl), ⟨fun h => absurd h (ne rfl), trivial⟩⟩)).cell (n := 1) rfl)) fun a' p => ?_
  exact ⟨M.st p rfl, o, A282, c283, A291, c292, (TG0.step p 6 rfl rfl), (TG1.other p rfl), (TG2.other p rfl), (FL.idle tr), FE0, FE1, FE2, FE3⟩
 ·intro U a w M hL hA hD hI
  obtain ⟨o, A282, c283, A291, c292, TG0, TG1, TG2, tr, FE0, FE1, FE2, FE3⟩ := hI
  refine dv rfl rfl M (x_lenSlice Try.underlying22 (e_tmp (TG0.get 6 rfl (hA 6 rfl)))) fun a' p => ?_
  exact ⟨M.st p rfl, o, A282, c283, A291, c292, (TG0.step p 7 rfl rfl), (TG1.other p rfl), (TG2.other p rfl), (FL.idle tr), FE0, FE1, FE2, FE3⟩
 ·intro U a w M hL hA hD hI
  obtain ⟨o, A282, c283, A291, c292, TG0, TG1, TG2, tr, FE0, FE1, FE2, FE3⟩ := hI
  refine dv rfl rfl M (x_add (e_tmp (TG0.get 4 rfl (hA 4 rfl))) (e_tmp (TG0.get 7 rfl (hA 7 rfl)))) fun a' p => ?_
  exact ⟨M.st p rfl, o, A282, c283, A291, c292, (TG0.step p 8 rfl rfl), (TG1.other p rfl), (TG2.other p rfl), (FL.idle tr), FE0, FE1, FE2, FE3⟩
 ·intro U a w M hL hA hD hI
  obtain ⟨o, A282, c283, A291, c292, TG0, TG1, TG2, tr, FE0, FE1, FE2, FE3⟩ := hI
  refine dv rfl rfl M (x_move (M.e 11 rfl)) fun a' p => ?_
  exact ⟨M.st p rfl, o, A282, c283, A291, c292, (TG0.step p 9 rfl rfl), (TG1.other p rfl), (TG2.other p rfl), (FL.idle tr), FE0, FE1, FE2, FE3⟩
 ·intro U a w M hL hA hD hI
  obtain ⟨o, A282, c283, A291, c292, TG0, TG1, TG2, tr, FE0, FE1, FE2, FE3⟩ := hI
  refine dv rfl rfl M (x_mul (e_tmp (TG0.get 8 rfl (hA 8 rfl))) (e_tmp (TG0.get 9 rfl (hA 9 rfl)))) fun a' p => ?_
  exact ⟨M.st p rfl, o, A282, c283, A291, c292, (TG0.step p 10 rfl rfl), (TG1.other p rfl), (TG2.other p rfl), (FL.idle tr), FE0, FE1, FE2, FE3⟩
 ·intro U a w M hL hA hD hI
  obtain ⟨o, A282, c283, A291, c292, TG0, TG1, TG2, tr, FE0, FE1, FE2, FE3⟩ := hI
  obtain ⟨v276, w277, o278, r279, b280, t281⟩ := run_make_row el_4 Try.underlying48 w o 103 .i64 .i64 (IntKind.wrap .i64 ((IntKind.wrap .i64 ((p1.terms.length : Int) + (p1.names.length : Int))) * (IntKind.wrap .i64 ((IntKind.wrap .i64 ((p11.length : Int) + (1 : Int))) * (IntKind.wrap .i64 ((p11.length : Int) + (1 : Int))))))) hc275.1 hc275.2
  obtain ⟨A282, c283, rfl, -⟩ := b280.form
  refine dv rfl rfl M (x_makeSlice (e_tmp (TG0.get 10 rfl (hA 10 rfl))) (e_tmp (TG0.get 10 rfl (hA 10 rfl))) r279) fun a' p => ?_
  exact ⟨M.st p rfl, o278, A282, c283, A291, c292, (TG0.other p rfl), (Tab.mk hD p 0 rfl rfl), (TG2.other p rfl), (FL.stepNo tr t281), (fun _ => b280), (fun h0 => (FE1 h0).keep_ (t281.sameNo) (t281.sameNo)), (fun h _ => ab (hD 18 rfl) rfl h), (fun h => ab (hD 21 rfl) rfl h)⟩
 ·intro U a w M hL hA hD hI
  obtain ⟨o, A282, c283, A291, c292, TG0, TG1, TG2, tr, FE0, FE1, FE2, FE3⟩ := hI
  refine dv rfl rfl M (x_move (M.e 15 rfl)) fun a' p => ?_
  exact ⟨M.st p rfl, o, A282, c283, A291, c292, (TG0.step p 11 rfl rfl), (TG1.other p rfl), (TG2.other p rfl), (FL.idle tr), FE0, FE1, FE2, FE3⟩
 ·intro U a w M hL hA hD hI
  obtain ⟨o, A282, c283, A291, c292, TG0, TG1, TG2, tr, FE0, FE1, FE2, FE3⟩ := hI
  refine dv rfl rfl M (x_move (M.e 11 rfl)) fun a' p => ?_
  exact ⟨M.st p rfl, o, A282, c283, A291, c292, (TG0.step p 12 rfl rfl), (TG1.other p rfl), (TG2.other p rfl), (FL.idle tr), FE0, FE1, FE2, FE3⟩
 ·intro U a w M hL hA hD hI
  obtain ⟨o, A282, c283, A291, c292, TG0, TG1, TG2, tr, FE0, FE1, FE2, FE3⟩ := hI
  refine dv rfl rfl M (x_mul (e_tmp (TG0.get 11 rfl (hA 12 rfl))) (e_tmp (TG0.get 12 rfl (hA 13 rfl)))) fun a' p => ?_
  exact ⟨M.st p rfl, o, A282, c283, A291, c292, (TG0.step p 13 rfl rfl), (TG1.other p rfl), (TG2.other p rfl), (FL.idle tr), FE0, FE1, FE2, FE3⟩
 ·intro U a w M hL hA hD hI
  obtain ⟨o, A282, c283, A291, c292, TG0, TG1, TG2, tr, FE0, FE1, FE2, FE3⟩ := hI
  obtain ⟨v285, w286, o287, r288, b289, t290⟩ := run_make_row el_4 Try.underlying48 w o 104 .i64 .i64 (IntKind.wrap .i64 (x253.1 * (IntKind.wrap .i64 ((IntKind.wrap .i64 ((p11.length : Int) + (1 : Int))) * (IntKind.wrap .i64 ((p11.length : Int) + (1 : Int))))))) hc284.1 hc284.2
  obtain ⟨A291, c292, rfl, -⟩ := b289.form
  refine dv rfl rfl M (x_makeSlice (e_tmp (TG0.get 13 rfl (hA 14 rfl))) (e_tmp (TG0.get 13 rfl (hA 14 rfl))) r288) fun a' p => ?_
  exact ⟨M.st p rfl, o287, A282, c283, A291, c292, (TG0.other p rfl), (TG1.other p rfl), (Tab.mk hD p 0 rfl rfl), (FL.stepNo tr t290), (fun h0 => (FE0 h0).keep_ (t290.sameNo) (t290.sameNo)), (fun _ => b289), (fun h0 h1 => (FE2 h0 h1).keep_ (t290.sameNo)), (fun h => ab (hD 21 rfl) rfl h)⟩
 ·intro U a w M hL hA hD hI
  obtain ⟨o, A282, c283, A291, c292, TG0, TG1, TG2, tr, FE0, FE1, FE2, FE3⟩ := hI
  refine dv rfl rfl M (x_nilCheck (e_tmp (TG0.get 0 rfl (hA 0 rfl)))) fun a' p => ?_
  exact ⟨M.st p rfl, o, A282, c283, A291, c292, (TG0.step p 14 rfl rfl), (TG1.other p rfl), (TG2.other p rfl), (FL.idle tr), FE0, FE1, FE2, FE3⟩
 ·intro U a w M hL hA hD hI
  obtain ⟨o, A282, c283, A291, c292, TG0, TG1, TG2, tr, FE0, FE1, FE2, FE3⟩ := hI
  refine dv rfl rfl M (x_fieldAddr fa_116_2 (e_tmp (TG0.get 14 rfl (hA 16 rfl))) rfl) fun a' p => ?_
  exact ⟨M.st p rfl, o, A282, c283, A291, c292, (TG0.step p 15 rfl rfl), (TG1.other p rfl), (TG2.other p rfl), (FL.idle tr), FE0, FE1, FE2, FE3⟩
 ·intro U a w M hL hA hD hI
  obtain ⟨o, A282, c283, A291, c292, TG0, TG1, TG2, tr, FE0, FE1, FE2, FE3⟩ := hI
  obtain ⟨w293, r294, b295, t296⟩ := b_store (P := Try.prog) st_48 (e_tmp (TG0.get 15 rfl (hA 17 rfl))) (e_tmp (TG1.get 0 rfl (hA 11 rfl))) ((q260.kn t273).keep_ (FL.same tr ⟨fun _ => hL, ⟨fun _ => (hD 21 rfl), trivial⟩⟩)) (show 4 < 9 by decide) rfl rfl
  have b295 : Box w293 o 102 g59 116 #[.slice A15 p1.terms.length c16, .slice A17 p1.names.length c18, .slice A19 p1.rules.length c20, .int .i64 (p11.length : Int), .slice A282 (List.replicate (IntKind.wrap .i64 ((IntKind.wrap .i64 ((p1.terms.length : Int) + (p1.names.length : Int))) * (IntKind.wrap .i64 ((IntKind.wrap .i64 ((p11.length : Int) + (1 : Int))) * (IntKind.wrap .i64 ((p11.length : Int) + (1 : Int))))))).toNat false).length c283, .slice none 0 0, .slice A268 x253.2.length c269, .slice none 0 0, .chan (some g51)] := b295
  refine o_skip rfl (wp0 rfl) rfl (r294 _ _ _ _ _) ?_
  exact ⟨M, o, A282, c283, A291, c292, (TG0.idle rfl), (TG1.idle rfl), (TG2.idle rfl), (FL.stk tr t296 rfl), (fun h0 => (FE0 h0).keep_ (t296.sameK (ne rfl)) (t296.sameK (ne rfl))), (fun h0 => (FE1 h0).keep_ (t296.sameK (ne rfl)) (t296.sameK (ne rfl))), (fun _ _ => b295), (fun h => ab (hD 21 rfl) rfl h)⟩
 ·intro U a w M hL hA hD hI
  obtain ⟨o, A282, c283, A291, c292, TG0, TG1, TG2, tr, FE0, FE1, FE2, FE3⟩ := hI
  refine dv rfl rfl M (x_nilCheck (e_tmp (TG0.get 1 rfl (hA 1 rfl)))) fun a' p => ?_
  exact ⟨M.st p rfl, o, A282, c283, A291, c292, (TG0.step p 16 rfl rfl), (TG1.other p rfl), (TG2.other p rfl), (FL.idle tr), FE0, FE1, FE2, FE3⟩
 ·intro U a w M hL hA hD hI
  obtain ⟨o, A282, c283, A291, c292, TG0, TG1, TG2, tr, FE0, FE1, FE2, FE3⟩ := hI
  refine dv rfl rfl M (x_fieldAddr fa_116_3 (e_tmp (TG0.get 16 rfl (hA 19 rfl))) rfl) fun a' p => ?_
  exact ⟨M.st p rfl, o, A282, c283, A291, c292, (TG0.step p 17 rfl rfl), (TG1.other p rfl), (TG2.other p rfl), (FL.idle tr), FE0, FE1, FE2, FE3⟩
 ·intro U a w M hL hA hD hI
  obtain ⟨o, A282, c283, A291, c292, TG0, TG1, TG2, tr, FE0, FE1, FE2, FE3⟩ := hI
  obtain ⟨w297, r298, b299, t300⟩ := b_store (P := Try.prog) st_48 (e_tmp (TG0.get 17 rfl (hA 20 rfl))) (e_tmp (TG2.get 0 rfl (hA 15 rfl))) (FE2 (hA 18 rfl) hL) (show 5 < 9 by decide) rfl rfl
  have b299 : Box w297 o 102 g59 116 #[.slice A15 p1.terms.length c16, .slice A17 p1.names.length c18, .slice A19 p1.rules.length c20, .int .i64 (p11.length : Int), .slice A282 (List.replicate (IntKind.wrap .i64 ((IntKind.wrap .i64 ((p1.terms.length : Int) + (p1.names.length : Int))) * (IntKind.wrap .i64 ((IntKind.wrap .i64 ((p11.length : Int) + (1 : Int))) * (IntKind.wrap .i64 ((p11.length : Int) + (1 : Int))))))).toNat false).length c283, .slice A291 (List.replicate (IntKind.wrap .i64 (x253.1 * (IntKind.wrap .i64 ((IntKind.wrap .i64 ((p11.length : Int) + (1 : Int))) * (IntKind.wrap .i64 ((p11.length : Int) + (1 : Int))))))).toNat false).length c292, .slice A268 x253.2.length c269, .slice none 0 0, .chan (some g51)] := b299
  refine o_skip rfl (wp0 rfl) rfl (r298 _ _ _ _ _) ?_
  exact ⟨M, o, A282, c283, A291, c292, (TG0.idle rfl), (TG1.idle rfl), (TG2.idle rfl), (FL.stk tr t300 rfl), (fun h0 => (FE0 h0).keep_ (t300.sameK (ne rfl)) (t300.sameK (ne rfl))), (fun h0 => (FE1 h0).keep_ (t300.sameK (ne rfl)) (t300.sameK (ne rfl))), (fun _ h => Bool.noConfusion h), (fun _ => b299)⟩
 intro U a w301 M hA hI
 obtain ⟨o302, A282, c283, A291, c292, TG0, TG1, TG2, tr, FE0, FE1, FE2, FE3⟩ := hI
 have q303 := ((q259.kn t273).keep_ (FL.same tr ⟨fun h => absurd h (ne rfl), ⟨fun h => absurd h (ne rfl), trivial⟩⟩))
 have q304 := (FE3 (hA 21 rfl))
 have q305 := ((q261.kn t273).keep_ (FL.same tr ⟨fun h => absurd h (ne rfl), ⟨fun h => absurd h (ne rfl), trivial⟩⟩) (FL.same tr ⟨fun h => absurd h (ne rfl), ⟨fun h => absurd h (ne rfl), trivial⟩⟩))
 have q306 := ((q262.kn t273).keep_ (FL.same tr ⟨fun h => absurd h (ne rfl), ⟨fun h => absurd h (ne rfl), trivial⟩⟩))
 have q307 := (FE0 (hA 11 rfl))
 have q308 := (FE1 (hA 15 rfl))
 have i309 := (Ty.loc _ (FL.same tr ⟨fun h => absurd h (ne rfl), ⟨fun h => absurd h (ne rfl), trivial⟩⟩) (iN i263 t273))
 have i310 := (Ty.loc _ (FL.same tr ⟨fun h => absurd h (ne rfl), ⟨fun h => absurd h (ne rfl), trivial⟩⟩) (iN i264 t273))
 have i311 := (Ty.loc _ (FL.same tr ⟨fun h => absurd h (ne rfl), ⟨fun h => absurd h (ne rfl), trivial⟩⟩) (iN i265 t273))
 have i312 := (Ty.loc _ (FL.same tr ⟨fun h => absurd h (ne rfl), ⟨fun h => absurd h (ne rfl), trivial⟩⟩) (iN i266 t273))
 have T313 := Tr.kf u32 tr hown rfl
 clear hA TG0 TG1 TG2 tr FE0 FE1 FE2 FE3
 refine q_then <| c_seq <| c_seq <| c_reg <| pn (j := 3) E 3 M rfl rfl fun a M => x_end rfl <| q_then <| wp_block ?_
 obtain ⟨x565, hx566, h⟩ := bind_some h
 refine loop_iter (S := (Int × (List Bool) × (List Part))) (X := ((List Bool) × (List Part))) (fun (s : (Int × (List Bool) × (List Part))) => chart_Of_b1 k p1 p11 x253 s.1 s.2.1 s.2.2) (fun (s : (Int × (List Bool) × (List Part))) (a : Act) (w : World) => ∃ (o481 : Own) (z390 : Value) (z392 : Value), MB 144 [] [(2, .pointer (some ⟨g23, 0, none⟩)), (6, .pointer (some ⟨g59, 0, none⟩)), (87, .slice A21 p11.length c22), (88, .int .i64 (p11.length : Int)), (89, .int .i64 s.1)] a ∧ Box w o481 100 g23 25 #[.slice A15 p1.terms.length c16, .slice A17 p1.names.length c18, .slice A19 p1.rules.length c20] ∧ Box w o481 102 g59 116 #[.slice A15 p1.terms.length c16, .slice A17 p1.names.length c18, .slice A19 p1.rules.length c20, .int .i64 (p11.length : Int), z390, .slice A291 (List.replicate (IntKind.wrap .i64 (x253.1 * (IntKind.wrap .i64 ((IntKind.wrap .i64 ((p11.length : Int) + (1 : Int))) * (IntKind.wrap .i64 ((p11.length : Int) + (1 : Int))))))).toNat false).length c292, .slice A268 x253.2.length c269, z392, .chan (some g51)] ∧ Row tBool 4 w o481 103 z390 s.2.1 ∧ Row tBool 4 w o481 104 (.slice A291 (List.replicate (IntKind.wrap .i64 (x253.1 * (IntKind.wrap .i64 ((IntKind.wrap .i64 ((p11.length : Int) + (1 : Int))) * (IntKind.wrap .i64 ((p11.length : Int) + (1 : Int))))))).toNat false).length c292) (List.replicate (IntKind.wrap .i64 (x253.1 * (IntKind.wrap .i64 ((IntKind.wrap .i64 ((p11.length : Int) + (1 : Int))) * (IntKind.wrap .i64 ((p11.length : Int) + (1 : Int))))))).toNat false) ∧ Row (tInt .i64) 3 w o481 105 (.slice A268 x253.2.length c269) x253.2 ∧ Row tyPart 46 w o481 106 z392 s.2.2 ∧ Chan w o481 101 g51 1 (([] : List Part).map cv_46) ∧ ((tSlice 3 (tInt .i64) (by decide))).im w (L o481 0) p11 [.slice A21 p11.length c22] ∧ ((tSlice 9 tStr (by decide))).im w (L o481 0) p1.terms [.slice A15 p1.terms.length c16] ∧ ((tSlice 9 tStr (by decide))).im w (L o481 0) p1.names [.slice A17 p1.names.length c18] ∧ ((tSlice 28 tyRule (by decide))).im w (L o481 0) p1.rules [.slice A19 p1.rules.length c20] ∧ Tr (Ls o0 []) w0 o0 w o481) (fun (x : ((List Bool) × (List Part))) (e : Exit) (a : Act) (w : World) => (e = .exit 3 ∧ ∃ (o482 : Own) (z478 : Value) (z480 : Value), MB 144 [] [(2, .pointer (some ⟨g23, 0, none⟩)), (6, .pointer (some ⟨g59, 0, none⟩))] a ∧ Box w o482 100 g23 25 #[.slice A15 p1.terms.length c16, .slice A17 p1.names.length c18, .slice A19 p1.rules.length c20] ∧ Box w o482 102 g59 116 #[.slice A15 p1.terms.length c16, .slice A17 p1.names.length c18, .slice A19 p1.rules.length c20, .int .i64 (p11.length : Int), z478, .slice A291 (List.replicate (IntKind.wrap .i64 (x253.1 * (IntKind.wrap .i64 ((IntKind.wrap .i64 ((p11.length : Int) + (1 : Int))) * (IntKind.wrap .i64 ((p11.length : Int) + (1 : Int))))))).toNat false).length c292, .slice A268 x253.2.length c269, z480, .chan (some g51)] ∧ Row tBool 4 w o482 103 z478 x.1 ∧ Row tBool 4 w o482 104 (.slice A291 (List.replicate (IntKind.wrap .i64 (x253.1 * (IntKind.wrap .i64 ((IntKind.wrap .i64 ((p11.length : Int) + (1 : Int))) * (IntKind.wrap .i64 ((p11.length : Int) + (1 : Int))))))).toNat false).length c292) (List.replicate (IntKind.wrap .i64 (x253.1 * (IntKind.wrap .i64 ((IntKind.wrap .i64 ((p11.length : Int) + (1 : Int))) * (IntKind.wrap .i64 ((p11.length : Int) + (1 : Int))))))).toNat false) ∧ Row (tInt .i64) 3 w o482 105 (.slice A268 x253.2.length c269) x253.2 ∧ Row tyPart 46 w o482 106 z480 x.2 ∧ Chan w o482 101 g51 1 (([] : List Part).map cv_46) ∧ ((tSlice 9 tStr (by decide))).im w (L o482 0) p1.terms [.slice A15 p1.terms.length c16] ∧ ((tSlice 9 tStr (by decide))).im w (L o482 0) p1.names [.slice A17 p1.names.length c18] ∧ ((tSlice 28 tyRule (by decide))).im w (L o482 0) p1.rules [.slice A19 p1.rules.length c20] ∧ Tr (Ls o0 []) w0 o0 w o482)) ?_ hx566 ⟨o302, (.slice A282 (List.replicate (IntKind.wrap .i64 ((IntKind.wrap .i64 ((p1.terms.length : Int) + (p1.names.length : Int))) * (IntKind.wrap .i64 ((IntKind.wrap .i64 ((p11.length : Int) + (1 : Int))) * (IntKind.wrap .i64 ((p11.length : Int) + (1 : Int))))))).toNat false).length c283), (.slice none 0 0), (M.pk [16, 17, 2, 1, 0] rfl), q303, q304, q307, q308, q305, (Row.nil tyPart 46 w301 o302 106), q306, i309, i310, i311, i312, T313⟩ ?_
 ·rintro ⟨y388, y389, y391⟩ a w483 r484 hI485 h
  replace h : chart_Of_b1 k p1 p11 x253 y388 y389 y391 = some r484 := h
  unfold chart_Of_b1 at h
  obtain ⟨o486, z390, z392, M, q487, q488, q489, q490, q491, q492, q493, i494, i495, i496, i497, T498⟩ := hI485
  obtain ⟨A499, c500, hzc500, -⟩ := q489.form
  subst hzc500
  obtain ⟨A501, c502, hzc502, -⟩ := q492.form
  subst hzc502
  refine c_seq <| c_reg <| pn (j := 1) E 1 M rfl rfl fun a M => x_end rfl <| q_then <| c_seq ?_
  by_cases hk50 : (decide (y388 < (p11.length : Int))) = true
  ·rw [if_pos hk50] at h
   have M := M.k 90 rfl hk50
   refine c_true (M.e 0 rfl) <| wp_skip <| q_then <| c_seq <| wp_block <| c_seq <| c_reg <| pn (j := 1) E 1 M rfl rfl fun a M => ?_
   obtain ⟨x503, hx504, h⟩ := bind_some h
   obtain ⟨hx5040, hx5041, hx5042⟩ := at_some hx504
   obtain ⟨g505, f506, c507, ds508, hv509, hd510, he511⟩ := im_elem i494 hx5041
   have hsds508 : ds508 = [.int .i64 x503] := hd510
   subst hsds508
   have he511 : ElemAt w483 o486 0 g505 f506 (y388).toNat 1 [.int .i64 x503] := he511
   refine ov rfl rfl M (x_indexAddr Try.underlying26 sz_3 ((M.e 4 rfl).trans hv509) (M.e 6 rfl) hx5040 hx5042) fun a M => ov rfl rfl M (x_load ld_3 (M.e 0 rfl) (he511.2 0 _ rfl)) fun a M => pn (j := 5) E 2 M rfl rfl fun a M => x_end rfl <| q_then <| c_seq <| c_reg <| ov rfl rfl M (x_loadN (ldn_25 _ rfl) (M.e 6 rfl) (q487.sub (cs := #[.slice A15 p1.terms.length c16, .slice A17 p1.names.length c18, .slice A19 p1.rules.length c20]) 0 rfl)) fun a M => pn (j := 2) E 1 M rfl rfl fun a M => ?_
   obtain ⟨r513, hr514, h⟩ := bind_some h
   refine oc rfl (wp0 rfl) rfl rfl M (x_call cf_80 (m2 (M.e 1 rfl) (M.e 0 rfl))) (grammar_Term_calls hr514 (lko_own (T := [(0, 0)]) (o := o486) rfl) (sL i495 rfl) (sL i496 rfl) (sL i497 rfl)) (fun e51 w515 hp516 => ?_)
   obtain ⟨o517, he518, T519⟩ := hp516
   obtain ⟨o520, ho521⟩ := ex (mrg w483 o486 [(0, 0)] o517)
   have t522 := T519.r0 ho521
   refine ⟨_, he518, fun a M => ?_⟩
   refine x_end rfl <| q_then ?_
   by_cases hk52 : r513 = true
   ·rw [if_pos hk52] at h
    have M := M.k 96 rfl hk52
    refine c_true (M.e 0 rfl) ?_
    obtain ⟨r524, hr525, h⟩ := bind_some h
    obtain ⟨x534, hx535, h⟩ := bind_some h
    obtain ⟨hx5350, hx5351, hx5352⟩ := at_some hx535
    obtain ⟨g536, f537, c538, ds539, hv540, hd541, he542⟩ := Row.elem (q489.kn t522) hx5351
    have hsds539 : ds539 = [.bool x534] := hd541
    subst hsds539
    have he542 : ElemAt w515 o520 103 g536 f537 (IntKind.wrap .i64 ((IntKind.wrap .i64 ((IntKind.wrap .i64 ((IntKind.wrap .i64 (x503 * (IntKind.wrap .i64 ((p11.length : Int) + (1 : Int))))) + y388)) * (IntKind.wrap .i64 ((p11.length : Int) + (1 : Int))))) + (IntKind.wrap .i64 (y388 + (1 : Int))))).toNat 1 [.bool x534] := he542
    have u56 := T498.kn t522
    refine draw_m mixed [0, 1, 3, 7, 0, 0, 0, 0, 128, 496, 1023, 2047] (by kernel_rfl) rfl M (fun U a w => ∃ (o : Own), Tab [(0, 97, .pointer (some ⟨g59, 0, none⟩)), (1, 98, .pointer (some ⟨g59, 0, none⟩)), (2, 99, .pointer (some ⟨g59, 4, none⟩)), (3, 100, .slice A499 y389.length c500), (4, 101, .pointer (some ⟨g59, 0, none⟩)), (5, 102, .int .i64 x503), (6, 103, .int .i64 y388), (7, 104, .int .i64 y388), (8, 105, .int .i64 (IntKind.wrap .i64 (y388 + (1 : Int)))), (9, 106, .int .i64 (IntKind.wrap .i64 ((IntKind.wrap .i64 ((IntKind.wrap .i64 ((IntKind.wrap .i64 (x503 * (IntKind.wrap .i64 ((p11.length : Int) + (1 : Int))))) + y388)) * (IntKind.wrap .i64 ((p11.length : Int) + (1 : Int))))) + (IntKind.wrap .i64 (y388 + (1 : Int)))))), (10, 107, .pointer (some ⟨g536, f537 + (IntKind.wrap .i64 ((IntKind.wrap .i64 ((IntKind.wrap .i64 ((IntKind.wrap .i64 (x503 * (IntKind.wrap .i64 ((p11.length : Int) + (1 : Int))))) + y388)) * (IntKind.wrap .i64 ((p11.length : Int) + (1 : Int))))) + (IntKind.wrap .i64 (y388 + (1 : Int))))).toNat * 1, none⟩))] U a ∧ Tr (FL [(11, 103)] o520 U) w515 o520 w o ∧ (U 11 = true → Row tBool 4 w o 103 (.slice A499 y389.length c500) (y389.set (IntKind.wrap .i64 ((IntKind.wrap .i64 ((IntKind.wrap .i64 ((IntKind.wrap .i64 (x503 * (IntKind.wrap .i64 ((p11.length : Int) + (1 : Int))))) + y388)) * (IntKind.wrap .i64 ((p11.length : Int) + (1 : Int))))) + (IntKind.wrap .i64 (y388 + (1 : Int))))).toNat true))) ?_ ⟨?_, ?_, ?_, ?_, ?_, ?_, ?_, ?_, ?_, ?_, ?_, ?_, trivial⟩ ?_
    ·exact ⟨o520, Tab.start, FL.start (tr_drew _ _), fun h => Bool.noConfusion h⟩
    ·intro U a w M hL hA hD hI
     obtain ⟨o, TG0, tr, FE0⟩ := hI
     refine dv rfl rfl M (x_move (M.e 10 rfl)) fun a' p => ?_
     exact ⟨M.st p rfl, o, (TG0.step p 0 rfl rfl), (FL.idle tr), FE0⟩
    ·intro U a w M hL hA hD hI
     obtain ⟨o, TG0, tr, FE0⟩ := hI
     refine dv rfl rfl M (x_nilCheck (e_tmp (TG0.get 0 rfl (hA 0 rfl)))) fun a' p => ?_
     exact ⟨M.st p rfl, o, (TG0.step p 1 rfl rfl), (FL.idle tr), FE0⟩
    ·intro U a w M hL hA hD hI
     obtain ⟨o, TG0, tr, FE0⟩ := hI
     refine dv rfl rfl M (x_fieldAddr fa_116_2 (e_tmp (TG0.get 1 rfl (hA 1 rfl))) rfl) fun a' p => ?_
     exact ⟨M.st p rfl, o, (TG0.step p 2 rfl rfl), (FL.idle tr), FE0⟩
    ·intro U a w M hL hA hD hI
     obtain ⟨o, TG0, tr, FE0⟩ := hI
     refine dv rfl rfl M (x_load ld_48 (e_tmp (TG0.get 2 rfl (hA 2 rfl))) (((q488.kn t522).keep_ (FL.same tr ⟨fun h => absurd h (ne rfl), trivial⟩)).cell (n := 4) rfl)) fun a' p => ?_
     exact ⟨M.st p rfl, o, (TG0.step p 3 rfl rfl), (FL.idle tr), FE0⟩
    ·intro U a w M hL hA hD hI
     obtain ⟨o, TG0, tr, FE0⟩ := hI
     refine dv rfl rfl M (x_move (M.e 10 rfl)) fun a' p => ?_
     exact ⟨M.st p rfl, o, (TG0.step p 4 rfl rfl), (FL.idle tr), FE0⟩
    ·intro U a w M hL hA hD hI
     obtain ⟨o, TG0, tr, FE0⟩ := hI
     refine dv rfl rfl M (x_move (M.e 3 rfl)) fun a' p => ?_
     exact ⟨M.st p rfl, o, (TG0.step p 5 rfl rfl), (FL.idle tr), FE0⟩
    ·intro U a w M hL hA hD hI
     obtain ⟨o, TG0, tr, FE0⟩ := hI
     refine dv rfl rfl M (x_move (M.e 4 rfl)) fun a' p => ?_
     exact ⟨M.st p rfl, o, (TG0.step p 6 rfl rfl), (FL.idle tr), FE0⟩
    ·intro U a w M hL hA hD hI
     obtain ⟨o, TG0, tr, FE0⟩ := hI
     refine dv rfl rfl M (x_move (M.e 4 rfl)) fun a' p => ?_
     exact ⟨M.st p rfl, o, (TG0.step p 7 rfl rfl), (FL.idle tr), FE0⟩
    ·intro U a w M hL hA hD hI
     obtain ⟨o, TG0, tr, FE0⟩ := hI
     refine dv rfl rfl M (x_add (e_tmp (TG0.get 7 rfl (hA 7 rfl))) (e_const (v := .int .i64 (1 : Int)))) fun a' p => ?_
     exact ⟨M.st p rfl, o, (TG0.step p 8 rfl rfl), (FL.idle tr), FE0⟩
    ·intro U a w M hL hA hD hI
     obtain ⟨o, TG0, tr, FE0⟩ := hI
     refine dc rfl (wp0 rfl) rfl rfl M (x_call cf_81 (m4 (e_tmp (TG0.get 4 rfl (hA 4 rfl))) (e_tmp (TG0.get 5 rfl (hA 5 rfl))) (e_tmp (TG0.get 6 rfl (hA 6 rfl))) (e_tmp (TG0.get 8 rfl (hA 8 rfl))))) (chart_Chart_at_calls hr525 (lko_own (T := [(0, 0), (101, 6), (102, 1), (103, 2), (104, 3), (105, 4), (106, 5)]) (o := o) rfl) (sL (Ty.loc _ (FL.same tr ⟨fun h => absurd h (ne rfl), trivial⟩) (iN i495 t522)) rfl) (sL (Ty.loc _ (FL.same tr ⟨fun h => absurd h (ne rfl), trivial⟩) (iN i496 t522)) rfl) (sL (Ty.loc _ (FL.same tr ⟨fun h => absurd h (ne rfl), trivial⟩) (iN i497 t522)) rfl) (((q488.kn t522).keep_ (FL.same tr ⟨fun h => absurd h (ne rfl), trivial⟩)).l rfl) (((q489.kn t522).keep_ (FL.same tr ⟨fun _ => (hD 11 rfl), trivial⟩) (FL.same tr ⟨fun h => absurd h (ne rfl), trivial⟩)).l rfl rfl) (((q490.kn t522).keep_ (FL.same tr ⟨fun h => absurd h (ne rfl), trivial⟩) (FL.same tr ⟨fun h => absurd h (ne rfl), trivial⟩)).l rfl rfl) (((q491.kn t522).keep_ (FL.same tr ⟨fun h => absurd h (ne rfl), trivial⟩) (FL.same tr ⟨fun h => absurd h (ne rfl), trivial⟩)).l rfl rfl) (((q492.kn t522).keep_ (FL.same tr ⟨fun h => absurd h (ne rfl), trivial⟩) (FL.same tr ⟨fun h => absurd h (ne rfl), trivial⟩)).l rfl rfl) (((q493.kn t522).keep_ (FL.same tr ⟨fun h => absurd h (ne rfl), trivial⟩)).l rfl)) (fun e55 w526 hp527 => ?_)
     obtain ⟨o528, he529, T530⟩ := hp527
     obtain ⟨o531, ho532⟩ := ex (mrg w o [(0, 0), (1, 102), (2, 103), (3, 104), (4, 105), (5, 106), (6, 101)] o528)
     have t533 := T530.r0 ho532
     refine ⟨_, he529, fun a' p => ?_⟩
     exact ⟨M.st p rfl, o531, (TG0.step p 9 rfl rfl), (FL.stepNo tr t533), (fun h => ab (hD 11 rfl) rfl h)⟩
    ·intro U a w M hL hA hD hI
     obtain ⟨o, TG0, tr, FE0⟩ := hI
     refine dv rfl rfl M (x_indexAddr Try.underlying48 sz_4 ((e_tmp (TG0.get 3 rfl (hA 3 rfl))).trans hv540) (e_tmp (TG0.get 9 rfl (hA 9 rfl))) hx5350 hx5352) fun a' p => ?_
     exact ⟨M.st p rfl, o, (TG0.step p 10 rfl rfl), (FL.idle tr), FE0⟩
    ·intro U a w M hL hA hD hI
     obtain ⟨o, TG0, tr, FE0⟩ := hI
     have hy549 : ∀ ds, (tBool).im w (L o 0) x534 ds → (tBool).im w (L o 0) true (ds.set 0 (.bool true)) := fun ds hds => by have hds : ds = _ := hds; subst hds; rfl
     obtain ⟨⟨uhq548, huhq548⟩, hfhq548, b546, t547⟩ := ((q489.kn t522).keep_ (FL.same tr ⟨fun _ => hL, trivial⟩) (FL.same tr ⟨fun h => absurd h (ne rfl), trivial⟩)).put (by decide) hv540 hx5351 (show 0 < 1 by decide) hy549
     obtain ⟨w544, r550, b546, t547⟩ : ∃ w' : World, (∀ (dst : Option Tmp) (ty : TypeId) (pos : String) (af : Array Edge) (gd : Option (Nat × Bool)), (execOp a.eval ⟨dst, .store 4 (.tmp 107) (.const (.bool true)), ty, pos, af, gd⟩).run Try.prog w = .ok .skip w') ∧ Row tBool 4 w' o 103 (.slice A499 y389.length c500) (y389.set (IntKind.wrap .i64 ((IntKind.wrap .i64 ((IntKind.wrap .i64 ((IntKind.wrap .i64 (x503 * (IntKind.wrap .i64 ((p11.length : Int) + (1 : Int))))) + y388)) * (IntKind.wrap .i64 ((p11.length : Int) + (1 : Int))))) + (IntKind.wrap .i64 (y388 + (1 : Int))))).toNat true) ∧ Tr (L o 103) w o w' o := ⟨_, fun _ _ _ _ _ => x_store st_4 (e_tmp (TG0.get 10 rfl (hA 10 rfl))) (e_const (v := .bool true)) huhq548 hfhq548 rfl rfl, b546, t547⟩
     refine o_skip rfl (wp0 rfl) rfl (r550 _ _ _ _ _) ?_
     exact ⟨M, o, (TG0.idle rfl), (FL.stk tr t547 rfl), (fun _ => b546)⟩
    intro U a w551 M hA hI
    obtain ⟨o552, TG0, tr, FE0⟩ := hI
    have q553 := ((q487.kn t522).keep_ (FL.same tr ⟨fun h => absurd h (ne rfl), trivial⟩))
    have q554 := ((q488.kn t522).keep_ (FL.same tr ⟨fun h => absurd h (ne rfl), trivial⟩))
    have q555 := (FE0 (hA 11 rfl))
    have q556 := ((q490.kn t522).keep_ (FL.same tr ⟨fun h => absurd h (ne rfl), trivial⟩) (FL.same tr ⟨fun h => absurd h (ne rfl), trivial⟩))
    have q557 := ((q491.kn t522).keep_ (FL.same tr ⟨fun h => absurd h (ne rfl), trivial⟩) (FL.same tr ⟨fun h => absurd h (ne rfl), trivial⟩))
    have q558 := ((q492.kn t522).keep_ (FL.same tr ⟨fun h => absurd h (ne rfl), trivial⟩) (FL.same tr ⟨fun h => absurd h (ne rfl), trivial⟩))
    have q559 := ((q493.kn t522).keep_ (FL.same tr ⟨fun h => absurd h (ne rfl), trivial⟩))
    have i560 := (Ty.loc _ (FL.same tr ⟨fun h => absurd h (ne rfl), trivial⟩) (iN i494 t522))
    have i561 := (Ty.loc _ (FL.same tr ⟨fun h => absurd h (ne rfl), trivial⟩) (iN i495 t522))
    have i562 := (Ty.loc _ (FL.same tr ⟨fun h => absurd h (ne rfl), trivial⟩) (iN i496 t522))
    have i563 := (Ty.loc _ (FL.same tr ⟨fun h => absurd h (ne rfl), trivial⟩) (iN i497 t522))
    have T564 := Tr.kf u56 tr hown rfl
    clear hA TG0 tr FE0
    refine q_blk <| q_then <| c_reg <| pn (j := 1) E 1 M rfl rfl fun a M => ?_
    have M := M.pk [0, 10, 11, 12, 13] rfl
    refine pn (j := 2) E 1 M rfl rfl fun a M => x_end rfl ?_
    obtain rfl := sj h
    exact lq_next ⟨o552, (.slice A499 y389.length c500), (.slice A501 y391.length c502), (M.pk [2, 3, 4, 5, 0] rfl), q553, q554, q555, q556, q557, q558, q559, i560, i561, i562, i563, T564⟩
   rw [if_neg hk52] at h
   have hk52 := nott hk52
   have M := M.k 96 rfl hk52
   refine c_false (M.e 0 rfl) <| wp_skip <| q_blk <| q_then <| c_reg <| pn (j := 1) E 1 M rfl rfl fun a M => ?_
   have M := M.pk [0, 10, 11, 12, 13] rfl
   refine pn (j := 2) E 1 M rfl rfl fun a M => x_end rfl ?_
   obtain rfl := sj h
   have u57 := T498.kn t522
   exact lq_next ⟨o520, (.slice A499 y389.length c500), (.slice A501 y391.length c502), (M.pk [2, 3, 4, 5, 0] rfl), (q487.kn t522), (q488.kn t522), (q489.kn t522), (q490.kn t522), (q491.kn t522), (q492.kn t522), (q493.kn t522), (iN i494 t522), (iN i495 t522), (iN i496 t522), (iN i497 t522), u57⟩
  rw [if_neg hk50] at h
  have hk50 := nott hk50
  have M := M.k 90 rfl hk50
  refine c_false (M.e 0 rfl) <| wp_exit <| q_then_exit ?_
  obtain rfl := sj h
  exact lq_exit ⟨rfl, ⟨o486, (.slice A499 y389.length c500), (.slice A501 y391.length c502), (M.pk [1, 2] rfl), q487, q488, q489, q490, q491, q492, q493, i495, i496, i497, T498⟩⟩
 intro e58 a w567 hO568
 obtain ⟨he569, hO568⟩ := hO568
 subst he569
 obtain ⟨o570, z478, z480, M, q571, q572, q573, q574, q575, q576, q577, i578, i579, i580, T581⟩ := hO568
 obtain ⟨A582, c583, hzc583, -⟩ := q573.form
 subst hzc583
 obtain ⟨A584, c585, hzc585, -⟩ := q576.form
 subst hzc585
 refine q_blk_here <| q_then <| c_seq <| c_seq <| c_reg <| pn (j := 1) E 1 M rfl rfl fun a M => ov rfl rfl M (x_load ld_23 (M.e 0 rfl) (q571.cell (n := 2) rfl)) fun a M => pn (j := 4) E 2 M rfl rfl fun a M => x_end rfl <| q_then <| wp_block ?_
 obtain ⟨x1569, hx1570, h⟩ := bind_some h
 refine loop_iter (S := (Int × (List Bool) × (List Part))) (X := ((List Bool) × (List Part))) (fun (s : (Int × (List Bool) × (List Part))) => chart_Of_b2 k p1 p11 x253 x565 s.1 s.2.1 s.2.2) (fun (s : (Int × (List Bool) × (List Part))) (a : Act) (w : World) => ∃ (o1246 : Own) (z891 : Value) (z893 : Value) (z895 : Value) (z897 : Value) (z899 : Value) (z900 : Value) (z902 : Value), MB 144 [] [(6, .pointer (some ⟨g59, 0, none⟩)), (111, .int .i64 (p1.rules.length : Int)), (112, .int .i64 s.1)] a ∧ Box w o1246 102 g59 116 #[z891, z893, z895, .int .i64 (p11.length : Int), z897, z899, z900, z902, .chan (some g51)] ∧ Row tBool 4 w o1246 103 z897 x565.1 ∧ Row tBool 4 w o1246 104 z899 s.2.1 ∧ Row (tInt .i64) 3 w o1246 105 z900 x253.2 ∧ Row tyPart 46 w o1246 106 z902 s.2.2 ∧ Chan w o1246 101 g51 1 (([] : List Part).map cv_46) ∧ (tSlice 9 tStr (by decide)).im w (L o1246 0) p1.terms [z891] ∧ (tSlice 9 tStr (by decide)).im w (L o1246 0) p1.names [z893] ∧ (tSlice 28 tyRule (by decide)).im w (L o1246 0) p1.rules [z895] ∧ Tr (Ls o0 []) w0 o0 w o1246) (fun (x : ((List Bool) × (List Part))) (e : Exit) (a : Act) (w : World) => (e = .exit 5 ∧ ∃ (o1247 : Own) (z1234 : Value) (z1236 : Value) (z1238 : Value) (z1240 : Value) (z1242 : Value) (z1243 : Value) (z1245 : Value), MB 144 [] [(6, .pointer (some ⟨g59, 0, none⟩))] a ∧ Box w o1247 102 g59 116 #[z1234, z1236, z1238, .int .i64 (p11.length : Int), z1240, z1242, z1243, z1245, .chan (some g51)] ∧ Row tBool 4 w o1247 103 z1240 x565.1 ∧ Row tBool 4 w o1247 104 z1242 x.1 ∧ Row (tInt .i64) 3 w o1247 105 z1243 x253.2 ∧ Row tyPart 46 w o1247 106 z1245 x.2 ∧ Chan w o1247 101 g51 1 (([] : List Part).map cv_46) ∧ (tSlice 9 tStr (by decide)).im w (L o1247 0) p1.terms [z1234] ∧ (tSlice 9 tStr (by decide)).im w (L o1247 0) p1.names [z1236] ∧ (tSlice 28 tyRule (by decide)).im w (L o1247 0) p1.rules [z1238] ∧ Tr (Ls o0 []) w0 o0 w o1247)) ?_ hx1570 ⟨o570, (.slice A15 p1.terms.length c16), (.slice A17 p1.names.length c18), (.slice A19 p1.rules.length c20), (.slice A582 x565.1.length c583), (.slice A291 (List.replicate (IntKind.wrap .i64 (x253.1 * (IntKind.wrap .i64 ((IntKind.wrap .i64 ((p11.length : Int) + (1 : Int))) * (IntKind.wrap .i64 ((p11.length : Int) + (1 : Int))))))).toNat false).length c292), (.slice A268 x253.2.length c269), (.slice A584 x565.2.length c585), (M.pk [5, 1, 0] rfl), q572, q573, q574, q575, q576, q577, i578, i579, i580, T581⟩ ?_
 ·rintro ⟨y890, y898, y901⟩ a w1248 r1249 hI1250 h
  replace h : chart_Of_b2 k p1 p11 x253 x565 y890 y898 y901 = some r1249 := h
  unfold chart_Of_b2 at h
  obtain ⟨o1251, z891, z893, z895, z897, z899, z900, z902, M, q1252, q1253, q1254, q1255, q1256, q1257, i1258, i1259, i1260, T1261⟩ := hI1250
  obtain ⟨A1262, c1263, hzc1263, -⟩ := q1253.form
  subst hzc1263
  obtain ⟨A1264, c1265, hzc1265, -⟩ := q1254.form
  subst hzc1265
  obtain ⟨A1266, c1267, hzc1267, -⟩ := q1255.form
  subst hzc1267
  obtain ⟨A1268, c1269, hzc1269, -⟩ := q1256.form
  subst hzc1269
  obtain ⟨A1270, c1271, hzc1271, -⟩ := im_form i1258
  subst hzc1271
  obtain ⟨A1272, c1273, hzc1273, -⟩ := im_form i1259
  subst hzc1273
  obtain ⟨A1274, c1275, hzc1275, -⟩ := im_form i1260
  subst hzc1275
  refine c_seq <| c_reg <| pn (j := 1) E 1 M rfl rfl fun a M => x_end rfl <| q_then <| c_seq ?_
  by_cases hk86 : (decide (y890 < (p1.rules.length : Int))) = true
  ·rw [if_pos hk86] at h
   have M := M.k 113 rfl hk86
   refine c_true (M.e 0 rfl) <| wp_skip <| q_then <| c_seq <| wp_block <| c_seq <| c_reg <| pn (j := 2) E 2 M rfl rfl fun a M => x_end rfl <| q_then <| c_seq <| c_reg <| pn (j := 3) E 3 M rfl rfl fun a M => ov rfl rfl M (x_load ld_3 (M.e 0 rfl) (q1252.cell (n := 3) rfl)) fun a M => pn (j := 6) E 2 M rfl rfl fun a M => x_end rfl <| q_then <| wp_block ?_
   obtain ⟨x1539, hx1540, h⟩ := bind_some h
   refine loop_iter (S := (Int × (List Bool) × (List Part))) (X := ((List Bool) × (List Part))) (fun (s : (Int × (List Bool) × (List Part))) => chart_Of_b3 k p1 p11 x253 x565 y890 s.1 s.2.1 s.2.2) (fun (s : (Int × (List Bool) × (List Part))) (a : Act) (w : World) => ∃ (o1456 : Own) (z1341 : Value) (z1343 : Value) (z1345 : Value) (z1347 : Value) (z1349 : Value) (z1350 : Value) (z1352 : Value), MB 144 [] [(6, .pointer (some ⟨g59, 0, none⟩)), (13, .int .i64 y890), (111, .int .i64 (p1.rules.length : Int)), (112, .int .i64 y890), (119, .int .i64 (IntKind.wrap .i64 ((p11.length : Int) + (1 : Int)))), (120, .int .i64 s.1)] a ∧ Box w o1456 102 g59 116 #[z1341, z1343, z1345, .int .i64 (p11.length : Int), z1347, z1349, z1350, z1352, .chan (some g51)] ∧ Row tBool 4 w o1456 103 z1347 x565.1 ∧ Row tBool 4 w o1456 104 z1349 s.2.1 ∧ Row (tInt .i64) 3 w o1456 105 z1350 x253.2 ∧ Row tyPart 46 w o1456 106 z1352 s.2.2 ∧ Chan w o1456 101 g51 1 (([] : List Part).map cv_46) ∧ (tSlice 9 tStr (by decide)).im w (L o1456 0) p1.terms [z1341] ∧ (tSlice 9 tStr (by decide)).im w (L o1456 0) p1.names [z1343] ∧ (tSlice 28 tyRule (by decide)).im w (L o1456 0) p1.rules [z1345] ∧ Tr (Ls o0 []) w0 o0 w o1456) (fun (x : ((List Bool) × (List Part))) (e : Exit) (a : Act) (w : World) => (e = .exit 7 ∧ ∃ (o1457 : Own) (z1444 : Value) (z1446 : Value) (z1448 : Value) (z1450 : Value) (z1452 : Value) (z1453 : Value) (z1455 : Value), MB 144 [] [(6, .pointer (some ⟨g59, 0, none⟩)), (111, .int .i64 (p1.rules.length : Int)), (112, .int .i64 y890)] a ∧ Box w o1457 102 g59 116 #[z1444, z1446, z1448, .int .i64 (p11.length : Int), z1450, z1452, z1453, z1455, .chan (some g51)] ∧ Row tBool 4 w o1457 103 z1450 x565.1 ∧ Row tBool 4 w o1457 104 z1452 x.1 ∧ Row (tInt .i64) 3 w o1457 105 z1453 x253.2 ∧ Row tyPart 46 w o1457 106 z1455 x.2 ∧ Chan w o1457 101 g51 1 (([] : List Part).map cv_46) ∧ (tSlice 9 tStr (by decide)).im w (L o1457 0) p1.terms [z1444] ∧ (tSlice 9 tStr (by decide)).im w (L o1457 0) p1.names [z1446] ∧ (tSlice 28 tyRule (by decide)).im w (L o1457 0) p1.rules [z1448] ∧ Tr (Ls o0 []) w0 o0 w o1457)) ?_ hx1540 ⟨o1251, (.slice A1270 p1.terms.length c1271), (.slice A1272 p1.names.length c1273), (.slice A1274 p1.rules.length c1275), (.slice A1262 x565.1.length c1263), (.slice A1264 y898.length c1265), (.slice A1266 x253.2.length c1267), (.slice A1268 y901.length c1269), (M.pk [9, 6, 10, 11, 1, 0] rfl), q1252, q1253, q1254, q1255, q1256, q1257, i1258, i1259, i1260, T1261⟩ ?_
   ·rintro ⟨y1340, y1348, y1351⟩ a w1458 r1459 hI1460 h
    replace h : chart_Of_b3 k p1 p11 x253 x565 y890 y1340 y1348 y1351 = some r1459 := h
    unfold chart_Of_b3 at h
    obtain ⟨o1461, z1341, z1343, z1345, z1347, z1349, z1350, z1352, M, q1462, q1463, q1464, q1465, q1466, q1467, i1468, i1469, i1470, T1471⟩ := hI1460
    obtain ⟨A1472, c1473, hzc1473, -⟩ := q1463.form
    subst hzc1473
    obtain ⟨A1474, c1475, hzc1475, -⟩ := q1464.form
    subst hzc1475
    obtain ⟨A1476, c1477, hzc1477, -⟩ := q1465.form
    subst hzc1477
    obtain ⟨A1478, c1479, hzc1479, -⟩ := q1466.form
    subst hzc1479
    obtain ⟨A1480, c1481, hzc1481, -⟩ := im_form i1468
    subst hzc1481
    obtain ⟨A1482, c1483, hzc1483, -⟩ := im_form i1469
    subst hzc1483
    obtain ⟨A1484, c1485, hzc1485, -⟩ := im_form i1470
    subst hzc1485
    refine c_seq <| c_reg <| pn (j := 1) E 1 M rfl rfl fun a M => x_end rfl <| q_then <| c_seq ?_
    by_cases hk94 : (decide (y1340 < (IntKind.wrap .i64 ((p11.length : Int) + (1 : Int))))) = true
    ·rw [if_pos hk94] at h
     have M := M.k 121 rfl hk94
     refine c_true (M.e 0 rfl) <| wp_skip <| q_then <| c_seq <| wp_block <| c_seq <| c_reg <| pn (j := 2) E 2 M rfl rfl fun a M => x_end rfl <| q_then <| c_reg <| pn (j := 4) E 4 M rfl rfl fun a M => ?_
     have hb1486 : ∀ w : World, (Instr.build 46 #[(0, .int .i64 y890), (2, .int .i64 y1340), (3, .int .i64 y1340)]).run Try.prog w = .ok (.agg #[.int .i64 y890, .int .i64 (0 : Int), .int .i64 y1340, .int .i64 y1340]) w := fun w => by go_simp
     refine ov rfl rfl M (x_build (l3 (M.e 2 rfl) (M.e 1 rfl) (M.e 0 rfl)) hb1486) fun a M => ?_
     obtain ⟨r1487, hr1488, h⟩ := bind_some h
     refine oc rfl (wp0 rfl) rfl rfl M (x_call cf_82 (m2 (M.e 4 rfl) (M.e 0 rfl))) (chart_Chart_part_calls hr1488 (lko_own (T := [(0, 0), (101, 6), (102, 1), (103, 2), (104, 3), (105, 4), (106, 5)]) (o := o1461) rfl) (sL i1468 rfl) (sL i1469 rfl) (sL i1470 rfl) (q1462.l rfl) (q1463.l rfl rfl) (q1464.l rfl rfl) (q1465.l rfl rfl) (q1466.l rfl rfl) (q1467.l rfl)) (fun e95 w1489 hp1490 => ?_)
     obtain ⟨o1498, z1491, z1492, z1493, z1494, z1495, z1496, z1497, he1499, q1500, q1501, q1502, q1503, q1504, q1505, i1506, i1507, i1508, T1509⟩ := hp1490
     obtain ⟨o1510, ho1511⟩ := ex (mrg w1458 o1461 [(0, 0), (1, 102), (2, 103), (3, 104), (4, 105), (5, 106), (6, 101)] o1498)
     have t1512 := T1509.r ho1511 [102, 104, 106] rfl rfl
     have q1513 := q1500.r T1509 ho1511 102 rfl rfl
     have q1514 := q1501.r T1509 ho1511 104 rfl rfl rfl rfl
     have q1515 := q1502.r T1509 ho1511 106 rfl rfl rfl rfl
     have q1516 := q1503.r T1509 ho1511 103 rfl rfl rfl rfl
     have q1517 := q1504.r T1509 ho1511 105 rfl rfl rfl rfl
     have q1518 := q1505.r T1509 ho1511 101 rfl rfl
     have i1519 := iR i1506 T1509 ho1511 rfl rfl
     have i1521 := iR i1507 T1509 ho1511 rfl rfl
     have i1523 := iR i1508 T1509 ho1511 rfl rfl
     refine ⟨_, he1499, fun a M => ?_⟩
     obtain ⟨A1525, c1526, hzc1526, -⟩ := q1514.form
     subst hzc1526
     obtain ⟨A1527, c1528, hzc1528, -⟩ := q1515.form
     subst hzc1528
     obtain ⟨A1529, c1530, hzc1530, -⟩ := q1516.form
     subst hzc1530
     obtain ⟨A1531, c1532, hzc1532, -⟩ := q1517.form
     subst hzc1532
     obtain ⟨A1533, c1534, hzc1534, -⟩ := im_form i1519
     subst hzc1534
     obtain ⟨A1535, c1536, hzc1536, -⟩ := im_form i1521
     subst hzc1536
     obtain ⟨A1537, c1538, hzc1538, -⟩ := im_form i1523
     subst hzc1538
     refine x_end rfl <| q_blk <| q_then <| c_reg <| pn (j := 1) E 1 M rfl rfl fun a M => ?_
     have M := M.pk [0, 10, 11, 12, 13, 14] rfl
     refine pn (j := 2) E 1 M rfl rfl fun a M => x_end rfl ?_
     obtain rfl := sj h
     have u96 := T1471.km t1512 hown rfl
     exact lq_next ⟨o1510, (.slice A1533 p1.terms.length c1534), (.slice A1535 p1.names.length c1536), (.slice A1537 p1.rules.length c1538), (.slice A1529 x565.1.length c1530), (.slice A1525 r1487.1.length c1526), (.slice A1531 x253.2.length c1532), (.slice A1527 r1487.2.length c1528), (M.pk [2, 3, 4, 5, 6, 0] rfl), q1513, q1516, q1514, q1517, q1515, q1518, i1519, i1521, i1523, u96⟩
    rw [if_neg hk94] at h
    have hk94 := nott hk94
    have M := M.k 121 rfl hk94
    refine c_false (M.e 0 rfl) <| wp_exit <| q_then_exit ?_
    obtain rfl := sj h
    exact lq_exit ⟨rfl, ⟨o1461, (.slice A1480 p1.terms.length c1481), (.slice A1482 p1.names.length c1483), (.slice A1484 p1.rules.length c1485), (.slice A1472 x565.1.length c1473), (.slice A1474 y1348.length c1475), (.slice A1476 x253.2.length c1477), (.slice A1478 y1351.length c1479), (M.pk [1, 3, 4] rfl), q1462, q1463, q1464, q1465, q1466, q1467, i1468, i1469, i1470, T1471⟩⟩
   intro e97 a w1541 hO1542
   obtain ⟨he1543, hO1542⟩ := hO1542
   subst he1543
   obtain ⟨o1544, z1444, z1446, z1448, z1450, z1452, z1453, z1455, M, q1545, q1546, q1547, q1548, q1549, q1550, i1551, i1552, i1553, T1554⟩ := hO1542
   obtain ⟨A1555, c1556, hzc1556, -⟩ := q1546.form
   subst hzc1556
   obtain ⟨A1557, c1558, hzc1558, -⟩ := q1547.form
   subst hzc1558
   obtain ⟨A1559, c1560, hzc1560, -⟩ := q1548.form
   subst hzc1560
   obtain ⟨A1561, c1562, hzc1562, -⟩ := q1549.form
   subst hzc1562
   obtain ⟨A1563, c1564, hzc1564, -⟩ := im_form i1551
   subst hzc1564
   obtain ⟨A1565, c1566, hzc1566, -⟩ := im_form i1552
   subst hzc1566
   obtain ⟨A1567, c1568, hzc1568, -⟩ := im_form i1553
   subst hzc1568
   refine q_blk_here <| q_blk <| q_then <| c_reg <| pn (j := 1) E 1 M rfl rfl fun a M => ?_
   have M := M.pk [0, 1, 2] rfl
   refine pn (j := 2) E 1 M rfl rfl fun a M => x_end rfl ?_
   obtain rfl := sj h
   exact lq_next ⟨o1544, (.slice A1563 p1.terms.length c1564), (.slice A1565 p1.names.length c1566), (.slice A1567 p1.rules.length c1568), (.slice A1555 x565.1.length c1556), (.slice A1557 x1539.1.length c1558), (.slice A1559 x253.2.length c1560), (.slice A1561 x1539.2.length c1562), (M.pk [2, 3, 0] rfl), q1545, q1546, q1547, q1548, q1549, q1550, i1551, i1552, i1553, T1554⟩
  rw [if_neg hk86] at h
  have hk86 := nott hk86
  have M := M.k 113 rfl hk86
  refine c_false (M.e 0 rfl) <| wp_exit <| q_then_exit ?_
  obtain rfl := sj h
  exact lq_exit ⟨rfl, ⟨o1251, (.slice A1270 p1.terms.length c1271), (.slice A1272 p1.names.length c1273), (.slice A1274 p1.rules.length c1275), (.slice A1262 x565.1.length c1263), (.slice A1264 y898.length c1265), (.slice A1266 x253.2.length c1267), (.slice A1268 y901.length c1269), (M.pk [1] rfl), q1252, q1253, q1254, q1255, q1256, q1257, i1258, i1259, i1260, T1261⟩⟩
 intro e98 a w1571 hO1572
 obtain ⟨he1573, hO1572⟩ := hO1572
 subst he1573
 obtain ⟨o1574, z1234, z1236, z1238, z1240, z1242, z1243, z1245, M, q1575, q1576, q1577, q1578, q1579, q1580, i1581, i1582, i1583, T1584⟩ := hO1572
 obtain ⟨A1585, c1586, hzc1586, -⟩ := q1576.form
 subst hzc1586
 obtain ⟨A1587, c1588, hzc1588, -⟩ := q1577.form
 subst hzc1588
 obtain ⟨A1589, c1590, hzc1590, -⟩ := q1578.form
 subst hzc1590
 obtain ⟨A1591, c1592, hzc1592, -⟩ := q1579.form
 subst hzc1592
 obtain ⟨A1593, c1594, hzc1594, -⟩ := im_form i1581
 subst hzc1594
 obtain ⟨A1595, c1596, hzc1596, -⟩ := im_form i1582
 subst hzc1596
 obtain ⟨A1597, c1598, hzc1598, -⟩ := im_form i1583
 subst hzc1598
 refine q_blk_here <| q_then <| wp_block ?_
 obtain ⟨x2049, hx2050, h⟩ := bind_some h
 refine loop_iter (S := ((List Bool) × (List Bool) × (List Part) × (List Part))) (X := ((List Bool) × (List Bool) × (List Part) × (List Part))) (fun (s : ((List Bool) × (List Bool) × (List Part) × (List Part))) => chart_Of_b4 k p1 p11 x253 s.1 s.2.1 s.2.2.1 s.2.2.2) (fun (s : ((List Bool) × (List Bool) × (List Part) × (List Part))) (a : Act) (w : World) => ∃ (o1905 : Own) (z1724 : Value) (z1726 : Value) (z1728 : Value) (z1731 : Value) (z1733 : Value) (z1734 : Value) (z1736 : Value), MB 144 [] [(6, .pointer (some ⟨g59, 0, none⟩))] a ∧ Box w o1905 102 g59 116 #[z1724, z1726, z1728, .int .i64 (p11.length : Int), z1731, z1733, z1734, z1736, .chan (some g51)] ∧ Row tBool 4 w o1905 103 z1731 s.1 ∧ Row tBool 4 w o1905 104 z1733 s.2.1 ∧ Row (tInt .i64) 3 w o1905 105 z1734 x253.2 ∧ Row tyPart 46 w o1905 106 z1736 s.2.2.1 ∧ Chan w o1905 101 g51 1 (s.2.2.2.map cv_46) ∧ (tSlice 9 tStr (by decide)).im w (L o1905 0) p1.terms [z1724] ∧ (tSlice 9 tStr (by decide)).im w (L o1905 0) p1.names [z1726] ∧ (tSlice 28 tyRule (by decide)).im w (L o1905 0) p1.rules [z1728] ∧ Tr (Ls o0 []) w0 o0 w o1905) (fun (x : ((List Bool) × (List Bool) × (List Part) × (List Part))) (e : Exit) (a : Act) (w : World) => (e = .ret ∧ ∃ (o1906 : Own) (z1891 : Value) (z1893 : Value) (z1895 : Value) (z1898 : Value) (z1900 : Value) (z1901 : Value) (z1903 : Value), MB 144 [] [(4, .pointer (some ⟨g59, 0, none⟩)), (5, .int .i64 (0 : Int))] a ∧ Box w o1906 102 g59 116 #[z1891, z1893, z1895, .int .i64 (p11.length : Int), z1898, z1900, z1901, z1903, .chan (some g51)] ∧ Row tBool 4 w o1906 103 z1898 x.1 ∧ Row tBool 4 w o1906 104 z1900 x.2.1 ∧ Row (tInt .i64) 3 w o1906 105 z1901 x253.2 ∧ Row tyPart 46 w o1906 106 z1903 x.2.2.1 ∧ Chan w o1906 101 g51 1 (x.2.2.2.map cv_46) ∧ (tSlice 9 tStr (by decide)).im w (L o1906 0) p1.terms [z1891] ∧ (tSlice 9 tStr (by decide)).im w (L o1906 0) p1.names [z1893] ∧ (tSlice 28 tyRule (by decide)).im w (L o1906 0) p1.rules [z1895] ∧ Tr (Ls o0 []) w0 o0 w o1906)) ?_ hx2050 ⟨o1574, (.slice A1593 p1.terms.length c1594), (.slice A1595 p1.names.length c1596), (.slice A1597 p1.rules.length c1598), (.slice A1585 x565.1.length c1586), (.slice A1587 x1569.1.length c1588), (.slice A1589 x253.2.length c1590), (.slice A1591 x1569.2.length c1592), (M.pk [0] rfl), q1575, q1576, q1577, q1578, q1579, q1580, i1581, i1582, i1583, T1584⟩ ?_
 ·rintro ⟨y1730, y1732, y1735, y1737⟩ a w1907 r1908 hI1909 h
  replace h : chart_Of_b4 k p1 p11 x253 y1730 y1732 y1735 y1737 = some r1908 := h
  unfold chart_Of_b4 at h
  obtain ⟨o1910, z1724, z1726, z1728, z1731, z1733, z1734, z1736, M, q1911, q1912, q1913, q1914, q1915, q1916, i1917, i1918, i1919, T1920⟩ := hI1909
  obtain ⟨A1921, c1922, hzc1922, -⟩ := q1912.form
  subst hzc1922
  obtain ⟨A1923, c1924, hzc1924, -⟩ := q1913.form
  subst hzc1924
  obtain ⟨A1925, c1926, hzc1926, -⟩ := q1914.form
  subst hzc1926
  obtain ⟨A1927, c1928, hzc1928, -⟩ := q1915.form
  subst hzc1928
  obtain ⟨A1929, c1930, hzc1930, -⟩ := im_form i1917
  subst hzc1930
  obtain ⟨A1931, c1932, hzc1932, -⟩ := im_form i1918
  subst hzc1932
  obtain ⟨A1933, c1934, hzc1934, -⟩ := im_form i1919
  subst hzc1934
  refine wp_block <| c_seq <| c_reg <| pn (j := 3) E 3 M rfl rfl fun a M => ?_
  obtain ⟨r1935, hr1936, h⟩ := bind_some h
  refine oc rfl (wp0 rfl) rfl rfl M (x_call cf_83 (m1 (M.e 0 rfl))) (chart_queue_take_calls hr1936 (lko_own (T := [(0, 0), (101, 6), (102, 1), (103, 2), (104, 3), (105, 4), (106, 5)]) (o := o1910) rfl) (sL i1917 rfl) (sL i1918 rfl) (sL i1919 rfl) (q1911.l rfl) (q1912.l rfl rfl) (q1913.l rfl rfl) (q1914.l rfl rfl) (q1915.l rfl rfl) (q1916.l rfl)) (fun e105 w1937 hp1938 => ?_)
  obtain ⟨o1946, z1939, z1940, z1941, z1942, z1943, z1944, z1945, he1947, q1948, q1949, q1950, q1951, q1952, q1953, i1954, i1955, i1956, T1957⟩ := hp1938
  obtain ⟨o1958, ho1959⟩ := ex (mrg w1907 o1910 [(0, 0), (1, 102), (2, 103), (3, 104), (4, 105), (5, 106), (6, 101)] o1946)
  have t1960 := T1957.r ho1959 [101, 102] rfl rfl
  have q1961 := q1948.r T1957 ho1959 102 rfl rfl
  have q1962 := q1949.r T1957 ho1959 101 rfl rfl
  have q1963 := q1950.r T1957 ho1959 103 rfl rfl rfl rfl
  have q1964 := q1951.r T1957 ho1959 104 rfl rfl rfl rfl
  have q1965 := q1952.r T1957 ho1959 105 rfl rfl rfl rfl
  have q1966 := q1953.r T1957 ho1959 106 rfl rfl rfl rfl
  have i1967 := iR i1954 T1957 ho1959 rfl rfl
  have i1969 := iR i1955 T1957 ho1959 rfl rfl
  have i1971 := iR i1956 T1957 ho1959 rfl rfl
  refine ⟨_, he1947, fun a M => ?_⟩
  obtain ⟨A1973, c1974, hzc1974, -⟩ := q1963.form
  subst hzc1974
  obtain ⟨A1975, c1976, hzc1976, -⟩ := q1964.form
  subst hzc1976
  obtain ⟨A1977, c1978, hzc1978, -⟩ := q1965.form
  subst hzc1978
  obtain ⟨A1979, c1980, hzc1980, -⟩ := q1966.form
  subst hzc1980
  obtain ⟨A1981, c1982, hzc1982, -⟩ := im_form i1967
  subst hzc1982
  obtain ⟨A1983, c1984, hzc1984, -⟩ := im_form i1969
  subst hzc1984
  obtain ⟨A1985, c1986, hzc1986, -⟩ := im_form i1971
  subst hzc1986
  refine pn (j := 7) E 3 M rfl rfl fun a M => ?_
  obtain ⟨g1987, w1988, o1989, r1990, b1991, t1992⟩ := b_alloc zv_46 a w1937 o1958 100
  refine ov rfl rfl M (r1990 _ _ _ _ _) fun a M => ?_
  obtain ⟨w1993, r1994, b1995, t1996⟩ := b_storeN (P := Try.prog) (all' := #[.int .i64 r1935.1, .int .i64 r1935.2.1, .int .i64 r1935.2.2.1, .int .i64 r1935.2.2.2.1]) (.inr trivial) (stn_46 _ rfl) (M.e 0 rfl) (M.e 2 rfl) b1991 (show 4 ≤ 4 by decide) (by simp [Value.oneCell']) rfl
  have b1995 : Box w1993 o1989 100 g1987 46 #[.int .i64 r1935.1, .int .i64 r1935.2.1, .int .i64 r1935.2.2.1, .int .i64 r1935.2.2.2.1] := b1995
  refine os rfl (wp0 rfl) rfl (r1994 _ _ _ _ _) <| pn (j := 10) E 1 M rfl rfl fun a M => x_end rfl <| q_then <| c_seq <| c_seq <| c_reg <| pn (j := 2) E 2 M rfl rfl fun a M => x_end rfl <| q_then ?_
  by_cases hk106 : (!r1935.2.2.2.2.1) = true
  ·rw [if_pos hk106] at h
   have M := M.k 139 rfl hk106
   refine c_true (M.e 0 rfl) <| c_seq <| c_reg <| pn (j := 3) E 3 M rfl rfl fun a M => x_end rfl <| q_then <| wp_ret <| q_then_ret <| q_blk_ret ?_
   obtain rfl := sj h
   have u107 := ((T1920.km t1960 hown rfl).kn t1992).kk t1996 hown rfl
   exact lq_ret ⟨rfl, ⟨o1989, (.slice A1981 p1.terms.length c1982), (.slice A1983 p1.names.length c1984), (.slice A1985 p1.rules.length c1986), (.slice A1973 y1730.length c1974), (.slice A1975 y1732.length c1976), (.slice A1977 x253.2.length c1978), (.slice A1979 r1935.2.2.2.2.2.2.length c1980), (M.pk [1, 0] rfl), ((q1961.kn t1992).kk t1996 rfl), ((q1963.kn t1992).kk t1996 rfl rfl), ((q1964.kn t1992).kk t1996 rfl rfl), ((q1965.kn t1992).kk t1996 rfl rfl), ((q1966.kn t1992).kk t1996 rfl rfl), ((q1962.kn t1992).kk t1996 rfl), (iK (iN i1967 t1992) t1996 rfl), (iK (iN i1969 t1992) t1996 rfl), (iK (iN i1971 t1992) t1996 rfl), u107⟩⟩
  rw [if_neg hk106] at h
  have hk106 := nott hk106
  have M := M.k 139 rfl hk106
  refine c_false (M.e 0 rfl) <| wp_skip <| q_then <| c_reg <| pn (j := 1) E 1 M rfl rfl fun a M => ov rfl rfl M (x_loadN (ldn_46 _ rfl) (M.e 4 rfl) (b1995.sub (cs := #[.int .i64 r1935.1, .int .i64 r1935.2.1, .int .i64 r1935.2.2.1, .int .i64 r1935.2.2.2.1]) 0 rfl)) fun a M => ?_
  obtain ⟨r1997, hr1998, h⟩ := bind_some h
  refine oc rfl (wp0 rfl) rfl rfl M (x_call cf_84 (m2 (M.e 1 rfl) (M.e 0 rfl))) (chart_Chart_follow_calls hr1998 (lko_own (T := [(0, 0), (101, 6), (102, 1), (103, 2), (104, 3), (105, 4), (106, 5)]) (o := o1989) rfl) (sL (iK (iN i1967 t1992) t1996 rfl) rfl) (sL (iK (iN i1969 t1992) t1996 rfl) rfl) (sL (iK (iN i1971 t1992) t1996 rfl) rfl) (((q1961.kn t1992).kk t1996 rfl).l rfl) (((q1963.kn t1992).kk t1996 rfl rfl).l rfl rfl) (((q1964.kn t1992).kk t1996 rfl rfl).l rfl rfl) (((q1965.kn t1992).kk t1996 rfl rfl).l rfl rfl) (((q1966.kn t1992).kk t1996 rfl rfl).l rfl rfl) (((q1962.kn t1992).kk t1996 rfl).l rfl)) (fun e108 w1999 hp2000 => ?_)
  obtain ⟨o2008, z2001, z2002, z2003, z2004, z2005, z2006, z2007, he2009, q2010, q2011, q2012, q2013, q2014, q2015, i2016, i2017, i2018, T2019⟩ := hp2000
  obtain ⟨o2020, ho2021⟩ := ex (mrg w1993 o1989 [(0, 0), (1, 102), (2, 103), (3, 104), (4, 105), (5, 106), (6, 101)] o2008)
  have t2022 := T2019.r ho2021 [102, 103, 104, 106] rfl rfl
  have q2023 := q2010.r T2019 ho2021 102 rfl rfl
  have q2024 := q2011.r T2019 ho2021 103 rfl rfl rfl rfl
  have q2025 := q2012.r T2019 ho2021 104 rfl rfl rfl rfl
  have q2026 := q2013.r T2019 ho2021 106 rfl rfl rfl rfl
  have q2027 := q2014.r T2019 ho2021 105 rfl rfl rfl rfl
  have q2028 := q2015.r T2019 ho2021 101 rfl rfl
  have i2029 := iR i2016 T2019 ho2021 rfl rfl
  have i2031 := iR i2017 T2019 ho2021 rfl rfl
  have i2033 := iR i2018 T2019 ho2021 rfl rfl
  refine ⟨_, he2009, fun a M => ?_⟩
  obtain ⟨A2035, c2036, hzc2036, -⟩ := q2024.form
  subst hzc2036
  obtain ⟨A2037, c2038, hzc2038, -⟩ := q2025.form
  subst hzc2038
  obtain ⟨A2039, c2040, hzc2040, -⟩ := q2026.form
  subst hzc2040
  obtain ⟨A2041, c2042, hzc2042, -⟩ := q2027.form
  subst hzc2042
  obtain ⟨A2043, c2044, hzc2044, -⟩ := im_form i2029
  subst hzc2044
  obtain ⟨A2045, c2046, hzc2046, -⟩ := im_form i2031
  subst hzc2046
  obtain ⟨A2047, c2048, hzc2048, -⟩ := im_form i2033
  subst hzc2048
  refine x_end rfl <| q_blk ?_
  obtain rfl := sj h
  have u109 := (((T1920.km t1960 hown rfl).kn t1992).kk t1996 hown rfl).km t2022 hown rfl
  exact lq_next ⟨o2020, (.slice A2043 p1.terms.length c2044), (.slice A2045 p1.names.length c2046), (.slice A2047 p1.rules.length c2048), (.slice A2035 r1997.1.length c2036), (.slice A2037 r1997.2.1.length c2038), (.slice A2041 x253.2.length c2042), (.slice A2039 r1997.2.2.length c2040), (M.pk [14] rfl), q2023, q2024, q2025, q2027, q2026, q2028, i2029, i2031, i2033, u109⟩
 intro e110 a w2051 hO2052
 obtain ⟨he2053, hO2052⟩ := hO2052
 subst he2053
 obtain ⟨o2054, z1891, z1893, z1895, z1898, z1900, z1901, z1903, M, q2055, q2056, q2057, q2058, q2059, q2060, i2061, i2062, i2063, T2064⟩ := hO2052
 obtain ⟨A2065, c2066, hzc2066, -⟩ := q2056.form
 subst hzc2066
 obtain ⟨A2067, c2068, hzc2068, -⟩ := q2057.form
 subst hzc2068
 obtain ⟨A2069, c2070, hzc2070, -⟩ := q2058.form
 subst hzc2070
 obtain ⟨A2071, c2072, hzc2072, -⟩ := q2059.form
 subst hzc2072
 obtain ⟨A2073, c2074, hzc2074, -⟩ := im_form i2061
 subst hzc2074
 obtain ⟨A2075, c2076, hzc2076, -⟩ := im_form i2062
 subst hzc2076
 obtain ⟨A2077, c2078, hzc2078, -⟩ := im_form i2063
 subst hzc2078
 refine q_blk_ret ?_
 obtain ⟨o2079, ho2080⟩ := ex (lro [(101, 55), (102, 50), (103, 51), (104, 52), (105, 53), (106, 54)] o2054)
 have T2081 := T2064.kw hown ho2080 rfl
 have i2082 := iW i2061 ho2080 rfl
 have i2083 := iW i2062 ho2080 rfl
 have i2084 := iW i2063 ho2080 rfl
 have q2085 := q2055.kw ho2080 50 rfl
 have q2086 := q2056.kw ho2080 51 rfl rfl
 have q2087 := q2057.kw ho2080 52 rfl rfl
 have q2088 := q2058.kw ho2080 53 rfl rfl
 have q2089 := q2059.kw ho2080 54 rfl rfl
 have q2090 := q2060.kw ho2080 55 rfl
 obtain rfl := sj h
 exact ⟨M.f.defers, _, (res2 Try.results29 (rv_tmp (M.t 0 rfl)) (rv_tmp (M.t 1 rfl))), ⟨o2079, g59, (.slice A2073 p1.terms.length c2074), (.slice A2075 p1.names.length c2076), (.slice A2077 p1.rules.length c2078), (.slice A2065 x2049.1.length c2066), (.slice A2067 x2049.2.1.length c2068), (.slice A2069 x253.2.length c2070), (.slice A2071 x2049.2.2.1.length c2072), g51, rfl, q2085, q2086, q2087, q2088, q2089, q2090, i2082, i2083, i2084, T2081⟩⟩
end Go.Proofs.Ythilemcdhkfhlaa
namespace Go.Proofs.Ythilemcdhkfhlaa
open Go Go.RowKit Go.Gc Go.Proofs
def keep_Mod (k : Nat) (p1 : Int) (p2 : Int) : Option Int :=
  if (decide (p2 < (1 : Int))) = true then (some (0 : Int)) else (if p2 = 0 then none else (if p2 = 0 then none else (some ((IntKind.wrap .i64 ((p1.tmod p2) + p2)).tmod p2))))
theorem keep_Mod_calls {k : Nat} {p1 : Int} {p2 : Int} {r : Int} (h : keep_Mod k p1 p2 = some r) {w0 : World} {o0 : Own} (hown : Hown o0) :
    Calls Try.prog 28 #[.int .i64 p1, .int .i64 p2] w0 (fun e w => ∃ (o5 : Own), e = .returned (.int .i64 r) ∧ Tr (Ls o0 []) w0 o0 w o5) := by
 unfold keep_Mod at h
 refine startM Try.func28 rfl Try.ntmps28 (show 2 ≤ 14 by decide) fun a M => ?_
 have M : MB 14 [] [(0, .int .i64 p1), (1, .int .i64 p2)] a := M
 have T0 : Tr (Ls o0 []) w0 o0 w0 o0 := Tr.refl _ _ _
 refine c_seq <| c_reg <| pn (j := 1) E 1 M rfl rfl fun a M => x_end rfl <| q_then <| c_seq <| c_seq <| c_reg <| pn (j := 2) E 2 M rfl rfl fun a M => x_end rfl <| q_then ?_
 by_cases hk1 : (decide (p2 < (1 : Int))) = true
 ·rw [if_pos hk1] at h
  have M := M.k 6 rfl hk1
  refine c_true (M.e 0 rfl) <| c_seq <| c_reg ?_
  have M := M.pk [] rfl
  refine pn (j := 1) E 1 M rfl rfl fun a M => x_end rfl <| q_then <| wp_ret <| q_then_ret ?_
  obtain rfl := sj h
  exact ⟨M.f.defers, _, (res1 Try.results28 (rv_tmp (M.t 0 rfl))), ⟨o0, rfl, T0⟩⟩
 rw [if_neg hk1] at h
 have hk1 := nott hk1
 have M := M.k 6 rfl hk1
 refine c_false (M.e 0 rfl) <| wp_skip <| q_then <| c_seq <| c_reg <| pn (j := 2) E 2 M rfl rfl fun a M => ?_
 obtain ⟨hn3, h⟩ := ifn h
 refine ov rfl rfl M (x_rem (M.e 1 rfl) (M.e 0 rfl) hn3) fun a M => pn (j := 6) E 3 M rfl rfl fun a M => ?_
 obtain ⟨hn4, h⟩ := ifn h
 refine ov rfl rfl M (x_rem (M.e 1 rfl) (M.e 0 rfl) hn4) fun a M => ?_
 have M := M.pk [0, 1, 2, 3, 4, 5, 6, 10, 11] rfl
 refine pn (j := 8) E 1 M rfl rfl fun a M => x_end rfl <| q_then <| wp_ret ?_
 obtain rfl := sj h
 exact ⟨M.f.defers, _, (res1 Try.results28 (rv_tmp (M.t 0 rfl))), ⟨o0, rfl, T0⟩⟩
end Go.Proofs.Ythilemcdhkfhlaa
namespace Go.Proofs.Ythilemcdhkfhlaa
open Go Go.RowKit Go.Gc Go.Proofs
def keep_Own_b0 (k : Nat) (p1 : Grammar) (y184 : Int) (y185 : List Rule) : Option ((Int × (List Rule)) ⊕ (List Rule)) :=
  if (decide (y184 < (p1.rules.length : Int))) = true then ((at? p1.rules y184).bind fun x330 => (at? p1.rules y184).bind fun x350 => if ([] : List Int).length + x350.right.length ≤ 1000000000 then (if y185.length + [(⟨x330.left, ([] : List Int) ++ x350.right⟩ : Rule)].length ≤ 1000000000 then (some (.inl (IntKind.wrap .i64 (y184 + (1 : Int)), y185 ++ [(⟨x330.left, ([] : List Int) ++ x350.right⟩ : Rule)]))) else none) else none) else (some (.inr y185))
def keep_Own (k : Nat) (p1 : Grammar) : Option (List Rule) :=
  if ([] : List ByteArray).length + p1.terms.length ≤ 1000000000 then (if ([] : List ByteArray).length + p1.names.length ≤ 1000000000 then ((iter (fun (s : (Int × (List Rule))) => keep_Own_b0 k p1 s.1 s.2) k ((0 : Int), [])).bind fun x409 => some x409) else none) else none
theorem keep_Own_calls {k : Nat} {p1 : Grammar} {v2 : Value} {v5 : Value} {v8 : Value} {r : (List Rule)} (h : keep_Own k p1 = some r) {w0 : World} {o0 : Own} (hown : Hown o0)
    (i4 : ((tSlice 9 tStr (by decide))).im w0 (L o0 0) p1.terms [v2])
    (i7 : ((tSlice 9 tStr (by decide))).im w0 (L o0 0) p1.names [v5])
    (i10 : ((tSlice 28 tyRule (by decide))).im w0 (L o0 0) p1.rules [v8]) :
    Calls Try.prog 27 #[.agg #[v2, v5, v8]] w0 (fun e w => ∃ (o434 : Own) (z434 : Value) (z435 : Value) (z437 : Value), e = .returned (.agg #[z434, z435, z437]) ∧ Row tStr 9 w o434 50 z434 (([] : List ByteArray) ++ p1.terms) ∧ Row tStr 9 w o434 51 z435 (([] : List ByteArray) ++ p1.names) ∧ Row tyRule 28 w o434 52 z437 r ∧ Tr (Ls o0 []) w0 o0 w o434) := by
 unfold keep_Own at h
 refine startM Try.func27 rfl Try.ntmps27 (show 1 ≤ 42 by decide) fun a M => ?_
 have M : MB 42 [] [(0, .agg #[v2, v5, v8])] a := M
 obtain ⟨A11, c12, hzc12, -⟩ := im_form i4
 subst hzc12
 obtain ⟨A13, c14, hzc14, -⟩ := im_form i7
 subst hzc14
 obtain ⟨A15, c16, hzc16, -⟩ := im_form i10
 subst hzc16
 have T0 : Tr (Ls o0 []) w0 o0 w0 o0 := Tr.refl _ _ _
 refine c_seq <| c_reg ?_
 obtain ⟨g17, w18, o19, r20, b21, t22⟩ := b_box (P := Try.prog) (T := 25) (M.e 0 rfl) w0 o0 100
 refine ov rfl rfl M (r20 _ _ _ _ _) fun a M => ?_
 obtain ⟨g23, w24, o25, r26, b27, t28⟩ := b_alloc zv_25 a w18 o19 101
 refine ov rfl rfl M (r26 _ _ _ _ _) fun a M => x_end rfl <| q_then <| c_seq ?_
 obtain ⟨hc36, h⟩ := ifs h
 obtain ⟨hc51, h⟩ := ifs h
 have u1 := (T0.kn t22).kn t28
 refine draw_m mixed [0, 0, 2, 7, 0, 0, 32, 127, 255, 0, 1023] (by kernel_rfl) rfl M (fun U a w => ∃ (o : Own) (g35 : Nat) (A43 : Option Addr) (c44 : Nat) (g50 : Nat) (A58 : Option Addr) (c59 : Nat) (g61 : Nat), Tab [(1, 6, .pointer (some ⟨g17, 0, none⟩)), (2, 7, .slice A11 p1.terms.length c12), (5, 10, .pointer (some ⟨g17, 1, none⟩)), (6, 11, .slice A13 p1.names.length c14)] U a ∧ Tab [(0, 5, .slice (some ⟨g35, 0, none⟩) 0 0)] U a ∧ Tab [(3, 8, .slice A43 (([] : List ByteArray) ++ p1.terms).length c44)] U a ∧ Tab [(8, 13, .agg #[.slice A43 (([] : List ByteArray) ++ p1.terms).length c44, .slice A58 (([] : List ByteArray) ++ p1.names).length c59, .slice none 0 0])] U a ∧ Tab [(4, 9, .slice (some ⟨g50, 0, none⟩) 0 0)] U a ∧ Tab [(7, 12, .slice A58 (([] : List ByteArray) ++ p1.names).length c59)] U a ∧ Tab [(9, 3, .pointer (some ⟨g61, 0, none⟩))] U a ∧ Tr (FL [(3, 102), (7, 103), (10, 104)] o25 U) w24 o25 w o ∧ (U 0 = true → U 3 = false → Row tStr 9 w o 102 (.slice (some ⟨g35, 0, none⟩) 0 0) ([] : List ByteArray)) ∧ (U 3 = true → Row tStr 9 w o 102 (.slice A43 (([] : List ByteArray) ++ p1.terms).length c44) (([] : List ByteArray) ++ p1.terms)) ∧ (U 4 = true → U 7 = false → Row tStr 9 w o 103 (.slice (some ⟨g50, 0, none⟩) 0 0) ([] : List ByteArray)) ∧ (U 7 = true → Row tStr 9 w o 103 (.slice A58 (([] : List ByteArray) ++ p1.names).length c59) (([] : List ByteArray) ++ p1.names)) ∧ (U 9 = true → U 10 = false → Box w o 104 g61 25 #[.slice none 0 0, .slice none 0 0, .slice none 0 0]) ∧ (U 10 = true → Box w o 104 g61 25 #[.slice A43 (([] : List ByteArray) ++ p1.terms).length c44, .slice A58 (([] : List ByteArray) ++ p1.names).length c59, .slice none 0 0])) ?_ ⟨?_, ?_, ?_, ?_, ?_, ?_, ?_, ?_, ?_, ?_, ?_, trivial⟩ ?_
 ·exact ⟨o25, 0, none, 0, 0, none, 0, 0, Tab.start, Tab.start, Tab.start, Tab.start, Tab.start, Tab.start, Tab.start, FL.start (tr_drew _ _), fun h => Bool.noConfusion h, fun h => Bool.noConfusion h, fun h => Bool.noConfusion h, fun h => Bool.noConfusion h, fun h => Bool.noConfusion h, fun h => Bool.noConfusion h⟩
 ·intro U a w M hL hA hD hI
  obtain ⟨o, g35, A43, c44, g50, A58, c59, g61, TG0, TG1, TG2, TG3, TG4, TG5, TG6, tr, FE0, FE1, FE2, FE3, FE4, FE5⟩ := hI
  have r32 : (Instr.buildSlice 22 0 #[]).run Try.prog w = .ok (.slice (some ⟨w.heap.size, 0, none⟩) 0 0) (w.alloc (.cells ([] : List Value).toArray 9)) := by go_simp
  obtain ⟨b33, t34⟩ := Row.lit (E := tStr) (e := 9) (l := ([] : List ByteArray)) (by decide) w o 102 (cs := []) rfl (by simp)
  generalize hww30 : w.alloc _ = w30 at r32 b33 t34
  generalize upd o _ 102 = o31 at b33 t34
  generalize hgg35 : w.heap.size = g35 at r32 b33
  clear hww30 hgg35
  refine dv rfl rfl M (x_buildSlice l0 r32) fun a' p => ?_
  exact ⟨M.st p rfl, o31, g35, A43, c44, g50, A58, c59, g61, (TG0.other p rfl), (Tab.mk hD p 0 rfl rfl), (TG2.other p rfl), (TG3.other p rfl), (TG4.other p rfl), (TG5.other p rfl), (TG6.other p rfl), (FL.stepNo tr t34), (fun _ _ => b33), (fun h => ab (hD 3 rfl) rfl h), (fun h0 h1 => (FE2 h0 h1).keep_ (t34.sameNo) (t34.sameNo)), (fun h => ab (hD 7 rfl) rfl h), (fun h0 h1 => (FE4 h0 h1).keep_ (t34.sameNo)), (fun h => ab (hD 10 rfl) rfl h)⟩
 ·intro U a w M hL hA hD hI
  obtain ⟨o, g35, A43, c44, g50, A58, c59, g61, TG0, TG1, TG2, TG3, TG4, TG5, TG6, tr, FE0, FE1, FE2, FE3, FE4, FE5⟩ := hI
  refine dv rfl rfl M (x_fieldAddr fa_25_0 (M.e 1 rfl) rfl) fun a' p => ?_
  exact ⟨M.st p rfl, o, g35, A43, c44, g50, A58, c59, g61, (TG0.step p 0 rfl rfl), (TG1.other p rfl), (TG2.other p rfl), (TG3.other p rfl), (TG4.other p rfl), (TG5.other p rfl), (TG6.other p rfl), (FL.idle tr), FE0, FE1, FE2, FE3, FE4, FE5⟩
 ·intro U a w M hL hA hD hI
  obtain ⟨o, g35, A43, c44, g50, A58, c59, g61, TG0, TG1, TG2, TG3, TG4, TG5, TG6, tr, FE0, FE1, FE2, FE3, FE4, FE5⟩ := hI
  refine dv rfl rfl M (x_load ld_22 (e_tmp (TG0.get 0 rfl (hA 1 rfl))) (((b21.kn t28).keep_ (FL.same tr ⟨fun h => absurd h (ne rfl), ⟨fun h => absurd h (ne rfl), ⟨fun h => absurd h (ne rfl), trivial⟩⟩⟩)).cell (n := 0) rfl)) fun a' p => ?_
  exact ⟨M.st p rfl, o, g35, A43, c44, g50, A58, c59, g61, (TG0.step p 1 rfl rfl), (TG1.other p rfl), (TG2.other p rfl), (TG3.other p rfl), (TG4.other p rfl), (TG5.other p rfl), (TG6.other p rfl), (FL.idle tr), FE0, FE1, FE2, FE3, FE4, FE5⟩
 ·intro U a w M hL hA hD hI
  obtain ⟨o, g35, A43, c44, g50, A58, c59, g61, TG0, TG1, TG2, TG3, TG4, TG5, TG6, tr, FE0, FE1, FE2, FE3, FE4, FE5⟩ := hI
  obtain ⟨v37, w38, o39, r40, b41, t42⟩ := run_append el_9 Try.underlying22 22 (FE0 (hA 0 rfl) hL) (by decide) (Src.im (Ty.loc _ (FL.same tr ⟨fun h => absurd h (ne rfl), ⟨fun h => absurd h (ne rfl), ⟨fun h => absurd h (ne rfl), trivial⟩⟩⟩) (iN (iN i4 t22) t28))) hc36
  obtain ⟨A43, c44, rfl, -⟩ := b41.form
  refine dv rfl rfl M (x_append (e_tmp (TG1.get 0 rfl (hA 0 rfl))) (e_tmp (TG0.get 1 rfl (hA 2 rfl))) r40) fun a' p => ?_
  exact ⟨M.st p rfl, o39, g35, A43, c44, g50, A58, c59, g61, (TG0.other p rfl), (TG1.other p rfl), (Tab.mk hD p 0 rfl rfl), (Tab.wt hD rfl), (TG4.other p rfl), (TG5.other p rfl), (TG6.other p rfl), (FL.stk tr t42 rfl), (fun _ h => Bool.noConfusion h), (fun _ => b41), (fun h0 h1 => (FE2 h0 h1).keep_ (t42.sameK (ne rfl)) (t42.sameK (ne rfl))), (fun h => ab (hD 7 rfl) rfl h), (fun h0 h1 => (FE4 h0 h1).keep_ (t42.sameK (ne rfl))), (fun h => ab (hD 10 rfl) rfl h)⟩
 ·intro U a w M hL hA hD hI
  obtain ⟨o, g35, A43, c44, g50, A58, c59, g61, TG0, TG1, TG2, TG3, TG4, TG5, TG6, tr, FE0, FE1, FE2, FE3, FE4, FE5⟩ := hI
  have r47 : (Instr.buildSlice 22 0 #[]).run Try.prog w = .ok (.slice (some ⟨w.heap.size, 0, none⟩) 0 0) (w.alloc (.cells ([] : List Value).toArray 9)) := by go_simp
  obtain ⟨b48, t49⟩ := Row.lit (E := tStr) (e := 9) (l := ([] : List ByteArray)) (by decide) w o 103 (cs := []) rfl (by simp)
  generalize hww45 : w.alloc _ = w45 at r47 b48 t49
  generalize upd o _ 103 = o46 at b48 t49
  generalize hgg50 : w.heap.size = g50 at r47 b48
  clear hww45 hgg50
  refine dv rfl rfl M (x_buildSlice l0 r47) fun a' p => ?_
  exact ⟨M.st p rfl, o46, g35, A43, c44, g50, A58, c59, g61, (TG0.other p rfl), (TG1.other p rfl), (TG2.other p rfl), (TG3.other p rfl), (Tab.mk hD p 0 rfl rfl), (TG5.other p rfl), (TG6.other p rfl), (FL.stepNo tr t49), (fun h0 h1 => (FE0 h0 h1).keep_ (t49.sameNo) (t49.sameNo)), (fun h0 => (FE1 h0).keep_ (t49.sameNo) (t49.sameNo)), (fun _ _ => b48), (fun h => ab (hD 7 rfl) rfl h), (fun h0 h1 => (FE4 h0 h1).keep_ (t49.sameNo)), (fun h => ab (hD 10 rfl) rfl h)⟩
 ·intro U a w M hL hA hD hI
  obtain ⟨o, g35, A43, c44, g50, A58, c59, g61, TG0, TG1, TG2, TG3, TG4, TG5, TG6, tr, FE0, FE1, FE2, FE3, FE4, FE5⟩ := hI
  refine dv rfl rfl M (x_fieldAddr fa_25_1 (M.e 1 rfl) rfl) fun a' p => ?_
  exact ⟨M.st p rfl, o, g35, A43, c44, g50, A58, c59, g61, (TG0.step p 2 rfl rfl), (TG1.other p rfl), (TG2.other p rfl), (TG3.other p rfl), (TG4.other p rfl), (TG5.other p rfl), (TG6.other p rfl), (FL.idle tr), FE0, FE1, FE2, FE3, FE4, FE5⟩
 ·intro U a w M hL hA hD hI
  obtain ⟨o, g35, A43, c44, g50, A58, c59, g61, TG0, TG1, TG2, TG3, TG4, TG5, TG6, tr, FE0, FE1, FE2, FE3, FE4, FE5⟩ := hI
  refine dv rfl rfl M (x_load ld_22 (e_tmp (TG0.get 2 rfl (hA 5 rfl))) (((b21.kn t28).keep_ (FL.same tr ⟨fun h => absurd h (ne rfl), ⟨fun h => absurd h (ne rfl), ⟨fun h => absurd h (ne rfl), trivial⟩⟩⟩)).cell (n := 1) rfl)) fun a' p => ?_
  exact ⟨M.st p rfl, o, g35, A43, c44, g50, A58, c59, g61, (TG0.step p 3 rfl rfl), (TG1.other p rfl), (TG2.other p rfl), (TG3.other p rfl), (TG4.other p rfl), (TG5.other p rfl), (TG6.other p rfl), (FL.idle tr), FE0, FE1, FE2, FE3, FE4, FE5⟩
 ·intro U a w M hL hA hD hI
  obtain ⟨o, g35, A43, c44, g50, A58, c59, g61, TG0, TG1, TG2, TG3, TG4, TG5, TG6, tr, FE0, FE1, FE2, FE3, FE4, FE5⟩ := hI
  obtain ⟨v52, w53, o54, r55, b56, t57⟩ := run_append el_9 Try.underlying22 22 (FE2 (hA 4 rfl) hL) (by decide) (Src.im (Ty.loc _ (FL.same tr ⟨fun h => absurd h (ne rfl), ⟨fun h => absurd h (ne rfl), ⟨fun h => absurd h (ne rfl), trivial⟩⟩⟩) (iN (iN i7 t22) t28))) hc51
  obtain ⟨A58, c59, rfl, -⟩ := b56.form
  refine dv rfl rfl M (x_append (e_tmp (TG4.get 0 rfl (hA 4 rfl))) (e_tmp (TG0.get 3 rfl (hA 6 rfl))) r55) fun a' p => ?_
  exact ⟨M.st p rfl, o54, g35, A43, c44, g50, A58, c59, g61, (TG0.other p rfl), (TG1.other p rfl), (TG2.other p rfl), (Tab.wt hD rfl), (TG4.other p rfl), (Tab.mk hD p 0 rfl rfl), (TG6.other p rfl), (FL.stk tr t57 rfl), (fun _ h => ac (hA 3 rfl) rfl h), (fun h0 => (FE1 h0).keep_ (t57.sameK (ne rfl)) (t57.sameK (ne rfl))), (fun _ h => Bool.noConfusion h), (fun _ => b56), (fun h0 h1 => (FE4 h0 h1).keep_ (t57.sameK (ne rfl))), (fun h => ab (hD 10 rfl) rfl h)⟩
 ·intro U a w M hL hA hD hI
  obtain ⟨o, g35, A43, c44, g50, A58, c59, g61, TG0, TG1, TG2, TG3, TG4, TG5, TG6, tr, FE0, FE1, FE2, FE3, FE4, FE5⟩ := hI
  have hb60 : ∀ w : World, (Instr.build 25 #[(0, .slice A43 (([] : List ByteArray) ++ p1.terms).length c44), (1, .slice A58 (([] : List ByteArray) ++ p1.names).length c59)]).run Try.prog w = .ok (.agg #[.slice A43 (([] : List ByteArray) ++ p1.terms).length c44, .slice A58 (([] : List ByteArray) ++ p1.names).length c59, .slice none 0 0]) w := fun w => by go_simp
  refine dv rfl rfl M (x_build (l2 (e_tmp (TG2.get 0 rfl (hA 3 rfl))) (e_tmp (TG5.get 0 rfl (hA 7 rfl)))) hb60) fun a' p => ?_
  exact ⟨M.st p rfl, o, g35, A43, c44, g50, A58, c59, g61, (TG0.other p rfl), (TG1.other p rfl), (TG2.other p rfl), (TG3.step p 0 rfl rfl), (TG4.other p rfl), (TG5.other p rfl), (TG6.other p rfl), (FL.idle tr), FE0, FE1, FE2, FE3, FE4, FE5⟩
 ·intro U a w M hL hA hD hI
  obtain ⟨o, g35, A43, c44, g50, A58, c59, g61, TG0, TG1, TG2, TG3, TG4, TG5, TG6, tr, FE0, FE1, FE2, FE3, FE4, FE5⟩ := hI
  obtain ⟨g61, w62, o63, r64, b65, t66⟩ := b_alloc zv_25 a w o 104
  refine dv rfl rfl M (r64 _ _ _ _ _) fun a' p => ?_
  exact ⟨M.st p rfl, o63, g35, A43, c44, g50, A58, c59, g61, (TG0.other p rfl), (TG1.other p rfl), (TG2.other p rfl), (TG3.other p rfl), (TG4.other p rfl), (TG5.other p rfl), (Tab.mk hD p 0 rfl rfl), (FL.stepNo tr t66), (fun h0 h1 => (FE0 h0 h1).keep_ (t66.sameNo) (t66.sameNo)), (fun h0 => (FE1 h0).keep_ (t66.sameNo) (t66.sameNo)), (fun h0 h1 => (FE2 h0 h1).keep_ (t66.sameNo) (t66.sameNo)), (fun h0 => (FE3 h0).keep_ (t66.sameNo) (t66.sameNo)), (fun _ _ => b65), (fun h => ab (hD 10 rfl) rfl h)⟩
 ·intro U a w M hL hA hD hI
  obtain ⟨o, g35, A43, c44, g50, A58, c59, g61, TG0, TG1, TG2, TG3, TG4, TG5, TG6, tr, FE0, FE1, FE2, FE3, FE4, FE5⟩ := hI
  obtain ⟨w67, r68, b69, t70⟩ := b_storeN (P := Try.prog) (all' := #[.slice A43 (([] : List ByteArray) ++ p1.terms).length c44, .slice A58 (([] : List ByteArray) ++ p1.names).length c59, .slice none 0 0]) (.inr trivial) (stn_25 _ rfl) (e_tmp (TG6.get 0 rfl (hA 9 rfl))) (e_tmp (TG3.get 0 rfl (hA 8 rfl))) (FE4 (hA 9 rfl) hL) (show 3 ≤ 3 by decide) (by simp [Value.oneCell']) rfl
  have b69 : Box w67 o 104 g61 25 #[.slice A43 (([] : List ByteArray) ++ p1.terms).length c44, .slice A58 (([] : List ByteArray) ++ p1.names).length c59, .slice none 0 0] := b69
  refine o_skip rfl (wp0 rfl) rfl (r68 _ _ _ _ _) ?_
  exact ⟨M, o, g35, A43, c44, g50, A58, c59, g61, (TG0.idle rfl), (TG1.idle rfl), (TG2.idle rfl), (TG3.idle rfl), (TG4.idle rfl), (TG5.idle rfl), (TG6.idle rfl), (FL.stk tr t70 rfl), (fun _ h => ac (hA 3 rfl) rfl h), (fun h0 => (FE1 h0).keep_ (t70.sameK (ne rfl)) (t70.sameK (ne rfl))), (fun _ h => ac (hA 7 rfl) rfl h), (fun h0 => (FE3 h0).keep_ (t70.sameK (ne rfl)) (t70.sameK (ne rfl))), (fun _ h => Bool.noConfusion h), (fun _ => b69)⟩
 intro U a w71 M hA hI
 obtain ⟨o72, g35, A43, c44, g50, A58, c59, g61, TG0, TG1, TG2, TG3, TG4, TG5, TG6, tr, FE0, FE1, FE2, FE3, FE4, FE5⟩ := hI
 have M := M.ad (TG6.get 0 rfl (hA 9 rfl))
 have q73 := ((b21.kn t28).keep_ (FL.same tr ⟨fun h => absurd h (ne rfl), ⟨fun h => absurd h (ne rfl), ⟨fun h => absurd h (ne rfl), trivial⟩⟩⟩))
 have q74 := (b27.keep_ (FL.same tr ⟨fun h => absurd h (ne rfl), ⟨fun h => absurd h (ne rfl), ⟨fun h => absurd h (ne rfl), trivial⟩⟩⟩))
 have q75 := (FE1 (hA 3 rfl))
 have q76 := (FE3 (hA 7 rfl))
 have q77 := (FE5 (hA 10 rfl))
 have i78 := (Ty.loc _ (FL.same tr ⟨fun h => absurd h (ne rfl), ⟨fun h => absurd h (ne rfl), ⟨fun h => absurd h (ne rfl), trivial⟩⟩⟩) (iN (iN i4 t22) t28))
 have i79 := (Ty.loc _ (FL.same tr ⟨fun h => absurd h (ne rfl), ⟨fun h => absurd h (ne rfl), ⟨fun h => absurd h (ne rfl), trivial⟩⟩⟩) (iN (iN i7 t22) t28))
 have i80 := (Ty.loc _ (FL.same tr ⟨fun h => absurd h (ne rfl), ⟨fun h => absurd h (ne rfl), ⟨fun h => absurd h (ne rfl), trivial⟩⟩⟩) (iN (iN i10 t22) t28))
 have T81 := Tr.kf u1 tr hown rfl
 clear hA TG0 TG1 TG2 TG3 TG4 TG5 TG6 tr FE0 FE1 FE2 FE3 FE4 FE5
 refine q_then <| c_seq <| c_seq <| c_reg <| pn (j := 1) E 1 M rfl rfl fun a M => x_end rfl <| q_then <| wp_block ?_
 obtain ⟨x409, hx410, h⟩ := bind_some h
 refine loop_iter (S := (Int × (List Rule))) (X := (List Rule)) (fun (s : (Int × (List Rule))) => keep_Own_b0 k p1 s.1 s.2) (fun (s : (Int × (List Rule))) (a : Act) (w : World) => ∃ (o298 : Own) (z186 : Value), MB 42 [] [(1, .pointer (some ⟨g17, 0, none⟩)), (2, .pointer (some ⟨g23, 0, none⟩)), (3, .pointer (some ⟨g61, 0, none⟩)), (4, .int .i64 s.1)] a ∧ Box w o298 100 g17 25 #[.slice A11 p1.terms.length c12, .slice A13 p1.names.length c14, .slice A15 p1.rules.length c16] ∧ Box w o298 101 g23 25 #[.slice none 0 0, .slice none 0 0, .slice none 0 0] ∧ Box w o298 104 g61 25 #[.slice A43 (([] : List ByteArray) ++ p1.terms).length c44, .slice A58 (([] : List ByteArray) ++ p1.names).length c59, z186] ∧ Row tStr 9 w o298 102 (.slice A43 (([] : List ByteArray) ++ p1.terms).length c44) (([] : List ByteArray) ++ p1.terms) ∧ Row tStr 9 w o298 103 (.slice A58 (([] : List ByteArray) ++ p1.names).length c59) (([] : List ByteArray) ++ p1.names) ∧ Row tyRule 28 w o298 105 z186 s.2 ∧ ((tSlice 9 tStr (by decide))).im w (L o298 0) p1.terms [.slice A11 p1.terms.length c12] ∧ ((tSlice 9 tStr (by decide))).im w (L o298 0) p1.names [.slice A13 p1.names.length c14] ∧ ((tSlice 28 tyRule (by decide))).im w (L o298 0) p1.rules [.slice A15 p1.rules.length c16] ∧ Tr (Ls o0 []) w0 o0 w o298) (fun (x : (List Rule)) (e : Exit) (a : Act) (w : World) => (e = .exit 0 ∧ ∃ (o299 : Own) (z297 : Value), MB 42 [] [(2, .pointer (some ⟨g23, 0, none⟩)), (3, .pointer (some ⟨g61, 0, none⟩))] a ∧ Box w o299 101 g23 25 #[.slice none 0 0, .slice none 0 0, .slice none 0 0] ∧ Box w o299 104 g61 25 #[.slice A43 (([] : List ByteArray) ++ p1.terms).length c44, .slice A58 (([] : List ByteArray) ++ p1.names).length c59, z297] ∧ Row tStr 9 w o299 102 (.slice A43 (([] : List ByteArray) ++ p1.terms).length c44) (([] : List ByteArray) ++ p1.terms) ∧ Row tStr 9 w o299 103 (.slice A58 (([] : List ByteArray) ++ p1.names).length c59) (([] : List ByteArray) ++ p1.names) ∧ Row tyRule 28 w o299 105 z297 x ∧ Tr (Ls o0 []) w0 o0 w o299)) ?_ hx410 ⟨o72, (.slice none 0 0), (M.pk [3, 2, 1, 0] rfl), q73, q74, q77, q75, q76, (Row.nil tyRule 28 w71 o72 105), i78, i79, i80, T81⟩ ?_
 ·rintro ⟨y184, y185⟩ a w300 r301 hI302 h
  replace h : keep_Own_b0 k p1 y184 y185 = some r301 := h
  unfold keep_Own_b0 at h
  obtain ⟨o303, z186, M, q304, q305, q306, q307, q308, q309, i310, i311, i312, T313⟩ := hI302
  obtain ⟨A314, c315, hzc315, -⟩ := q309.form
  subst hzc315
  refine c_seq <| c_seq <| c_reg <| pn (j := 2) E 2 M rfl rfl fun a M => ov rfl rfl M (x_load ld_23 (M.e 0 rfl) (q304.cell (n := 2) rfl)) fun a M => pn (j := 5) E 2 M rfl rfl fun a M => x_end rfl <| q_then ?_
  by_cases hk7 : (decide (y184 < (p1.rules.length : Int))) = true
  ·rw [if_pos hk7] at h
   have M := M.k 18 rfl hk7
   refine c_true (M.e 0 rfl) <| wp_skip <| q_then <| c_seq <| wp_block ?_
   obtain ⟨o316, ho317⟩ := ex (clo [100, 101, 102, 103, 104, 105] o303)
   have T318 := T313.kc hown ho317
   have hcl319 := hcl ho317
   have i320 := iC i310 ho317
   have i321 := iC i311 ho317
   have i322 := iC i312 ho317
   have q323 := q304.kc ho317 rfl
   have q324 := q305.kc ho317 rfl
   have q325 := q306.kc ho317 rfl
   have q326 := q307.kc ho317 rfl
   have q327 := q308.kc ho317 rfl
   have q328 := q309.kc ho317 rfl
   obtain ⟨x330, hx331, h⟩ := bind_some h
   obtain ⟨hx3310, hx3311, hx3312⟩ := at_some hx331
   obtain ⟨g332, f333, c334, ds335, hv336, hd337, he338⟩ := im_elem i322 hx3311
   obtain ⟨A339, c340, rfl, i341⟩ := Rule_open hd337
   have he338 : ElemAt w300 o316 0 g332 f333 (y184).toNat 2 [.int .i64 x330.left, .slice A339 x330.right.length c340] := he338
   obtain ⟨x350, hx351, h⟩ := bind_some h
   obtain ⟨hx3510, hx3511, hx3512⟩ := at_some hx351
   obtain ⟨g352, f353, c354, ds355, hv356, hd357, he358⟩ := im_elem i322 hx3511
   obtain ⟨A359, c360, rfl, i361⟩ := Rule_open hd357
   have he358 : ElemAt w300 o316 0 g352 f353 (y184).toNat 2 [.int .i64 x350.left, .slice A359 x350.right.length c360] := he358
   obtain ⟨hc364, h⟩ := ifs h
   obtain ⟨hc384, h⟩ := ifs h
   refine draw_m mixed [0, 1, 0, 4, 0, 28, 60, 124, 0, 0, 512, 0, 3584, 7680, 15872, 32512, 65532, 131068, 262143, 524287, 1048575] (by kernel_rfl) rfl M (fun U a w => ∃ (o : Own) (g349 : Nat) (A371 : Option Addr) (c372 : Nat) (g383 : Nat) (A391 : Option Addr) (c392 : Nat), Tab [(0, 21, .pointer (some ⟨g61, 2, none⟩)), (1, 22, .slice A314 y185.length c315), (2, 23, .pointer (some ⟨g17, 2, none⟩)), (3, 24, .slice A15 p1.rules.length c16), (4, 25, .int .i64 y184), (5, 26, .pointer (some ⟨g332, f333 + (y184).toNat * 2, none⟩)), (6, 27, .pointer (some ⟨g332, f333 + (y184).toNat * 2, none⟩)), (7, 28, .int .i64 x330.left), (9, 30, .pointer (some ⟨g17, 2, none⟩)), (10, 31, .slice A15 p1.rules.length c16), (11, 32, .int .i64 y184), (12, 33, .pointer (some ⟨g352, f353 + (y184).toNat * 2, none⟩)), (13, 34, .pointer (some ⟨g352, f353 + ((y184).toNat * 2 + 1), none⟩)), (14, 35, .slice A359 x350.right.length c360), (19, 40, .pointer (some ⟨g61, 2, none⟩))] U a ∧ Tab [(8, 29, .slice (some ⟨g349, 0, none⟩) 0 0)] U a ∧ Tab [(15, 36, .slice A371 (([] : List Int) ++ x350.right).length c372), (16, 37, .agg #[.int .i64 x330.left, .slice A371 (([] : List Int) ++ x350.right).length c372])] U a ∧ Tab [(17, 38, .slice (some ⟨g383, 0, none⟩) 1 1)] U a ∧ Tab [(18, 39, .slice A391 (y185 ++ [(⟨x330.left, ([] : List Int) ++ x350.right⟩ : Rule)]).length c392)] U a ∧ Tr (FL [(15, 106), (18, 105), (20, 104)] o316 U) w300 o316 w o ∧ (U 8 = true → U 15 = false → Row (tInt .i64) 3 w o 106 (.slice (some ⟨g349, 0, none⟩) 0 0) ([] : List Int)) ∧ (U 15 = true → U 17 = false → Row (tInt .i64) 3 w o 106 (.slice A371 (([] : List Int) ++ x350.right).length c372) (([] : List Int) ++ x350.right)) ∧ (U 17 = true → Row tyRule 28 w o 107 (.slice (some ⟨g383, 0, none⟩) 1 1) [(⟨x330.left, ([] : List Int) ++ x350.right⟩ : Rule)]) ∧ (U 18 = true → Row tyRule 28 w o 105 (.slice A391 (y185 ++ [(⟨x330.left, ([] : List Int) ++ x350.right⟩ : Rule)]).length c392) (y185 ++ [(⟨x330.left, ([] : List Int) ++ x350.right⟩ : Rule)])) ∧ (U 20 = true → Box w o 104 g61 25 #[.slice A43 (([] : List ByteArray) ++ p1.terms).length c44, .slice A58 (([] : List ByteArray) ++ p1.names).length c59, .slice A391 (y185 ++ [(⟨x330.left, ([] : List Int) ++ x350.right⟩ : Rule)]).length c392]) ∧ (U 17 = true → (tSlice 3 (tInt .i64) (by decide)).im w (L o 0) (([] : List Int) ++ x350.right) [.slice A371 (([] : List Int) ++ x350.right).length c372])) ?_ ⟨?_, ?_, ?_, ?_, ?_, ?_, ?_, ?_, ?_, ?_, ?_, ?_, ?_, ?_, ?_, ?_, ?_, ?_, ?_, ?_, ?_, trivial⟩ ?_
   ·exact ⟨o316, 0, none, 0, 0, none, 0, Tab.start, Tab.start, Tab.start, Tab.start, Tab.start, FL.start (tr_drew _ _), fun h => Bool.noConfusion h, fun h => Bool.noConfusion h, fun h => Bool.noConfusion h, fun h => Bool.noConfusion h, fun h => Bool.noConfusion h, fun h => Bool.noConfusion h⟩
   ·intro U a w M hL hA hD hI
    obtain ⟨o, g349, A371, c372, g383, A391, c392, TG0, TG1, TG2, TG3, TG4, tr, FE0, FE1, FE2, FE3, FE4, FE5⟩ := hI
    refine dv rfl rfl M (x_fieldAddr fa_25_2 (M.e 7 rfl) rfl) fun a' p => ?_
    exact ⟨M.st p rfl, o, g349, A371, c372, g383, A391, c392, (TG0.step p 0 rfl rfl), (TG1.other p rfl), (TG2.other p rfl), (TG3.other p rfl), (TG4.other p rfl), (FL.idle tr), FE0, FE1, FE2, FE3, FE4, FE5⟩
   ·intro U a w M hL hA hD hI
    obtain ⟨o, g349, A371, c372, g383, A391, c392, TG0, TG1, TG2, TG3, TG4, tr, FE0, FE1, FE2, FE3, FE4, FE5⟩ := hI
    refine dv rfl rfl M (x_load ld_23 (e_tmp (TG0.get 0 rfl (hA 0 rfl))) ((q325.keep_ (FL.same tr ⟨fun h => absurd h (ne rfl), ⟨fun h => absurd h (ne rfl), ⟨fun _ => (hD 20 rfl), trivial⟩⟩⟩)).cell (n := 2) rfl)) fun a' p => ?_
    exact ⟨M.st p rfl, o, g349, A371, c372, g383, A391, c392, (TG0.step p 1 rfl rfl), (TG1.other p rfl), (TG2.other p rfl), (TG3.other p rfl), (TG4.other p rfl), (FL.idle tr), FE0, FE1, FE2, FE3, FE4, FE5⟩
   ·intro U a w M hL hA hD hI
    obtain ⟨o, g349, A371, c372, g383, A391, c392, TG0, TG1, TG2, TG3, TG4, tr, FE0, FE1, FE2, FE3, FE4, FE5⟩ := hI
    refine dv rfl rfl M (x_fieldAddr fa_25_2 (M.e 5 rfl) rfl) fun a' p => ?_
    exact ⟨M.st p rfl, o, g349, A371, c372, g383, A391, c392, (TG0.step p 2 rfl rfl), (TG1.other p rfl), (TG2.other p rfl), (TG3.other p rfl), (TG4.other p rfl), (FL.idle tr), FE0, FE1, FE2, FE3, FE4, FE5⟩
   ·intro U a w M hL hA hD hI
    obtain ⟨o, g349, A371, c372, g383, A391, c392, TG0, TG1, TG2, TG3, TG4, tr, FE0, FE1, FE2, FE3, FE4, FE5⟩ := hI
    refine dv rfl rfl M (x_load ld_23 (e_tmp (TG0.get 2 rfl (hA 2 rfl))) ((q323.keep_ (FL.same tr ⟨fun h => absurd h (ne rfl), ⟨fun h => absurd h (ne rfl), ⟨fun h => absurd h (ne rfl), trivial⟩⟩⟩)).cell (n := 2) rfl)) fun a' p => ?_
    exact ⟨M.st p rfl, o, g349, A371, c372, g383, A391, c392, (TG0.step p 3 rfl rfl), (TG1.other p rfl), (TG2.other p rfl), (TG3.other p rfl), (TG4.other p rfl), (FL.idle tr), FE0, FE1, FE2, FE3, FE4, FE5⟩
   ·intro U a w M hL hA hD hI
    obtain ⟨o, g349, A371, c372, g383, A391, c392, TG0, TG1, TG2, TG3, TG4, tr, FE0, FE1, FE2, FE3, FE4, FE5⟩ := hI
    refine dv rfl rfl M (x_move (M.e 8 rfl)) fun a' p => ?_
    exact ⟨M.st p rfl, o, g349, A371, c372, g383, A391, c392, (TG0.step p 4 rfl rfl), (TG1.other p rfl), (TG2.other p rfl), (TG3.other p rfl), (TG4.other p rfl), (FL.idle tr), FE0, FE1, FE2, FE3, FE4, FE5⟩
   ·intro U a w M hL hA hD hI
    obtain ⟨o, g349, A371, c372, g383, A391, c392, TG0, TG1, TG2, TG3, TG4, tr, FE0, FE1, FE2, FE3, FE4, FE5⟩ := hI
    refine dv rfl rfl M (x_indexAddr Try.underlying23 sz_28 ((e_tmp (TG0.get 3 rfl (hA 3 rfl))).trans hv336) (e_tmp (TG0.get 4 rfl (hA 4 rfl))) hx3310 hx3312) fun a' p => ?_
    exact ⟨M.st p rfl, o, g349, A371, c372, g383, A391, c392, (TG0.step p 5 rfl rfl), (TG1.other p rfl), (TG2.other p rfl), (TG3.other p rfl), (TG4.other p rfl), (FL.idle tr), FE0, FE1, FE2, FE3, FE4, FE5⟩
   ·intro U a w M hL hA hD hI
    obtain ⟨o, g349, A371, c372, g383, A391, c392, TG0, TG1, TG2, TG3, TG4, tr, FE0, FE1, FE2, FE3, FE4, FE5⟩ := hI
    refine dv rfl rfl M (x_fieldAddr (m := f333 + (y184).toNat * 2) fa_28_0 (e_tmp (TG0.get 5 rfl (hA 5 rfl))) (by omega)) fun a' p => ?_
    exact ⟨M.st p rfl, o, g349, A371, c372, g383, A391, c392, (TG0.step p 6 rfl rfl), (TG1.other p rfl), (TG2.other p rfl), (TG3.other p rfl), (TG4.other p rfl), (FL.idle tr), FE0, FE1, FE2, FE3, FE4, FE5⟩
   ·intro U a w M hL hA hD hI
    obtain ⟨o, g349, A371, c372, g383, A391, c392, TG0, TG1, TG2, TG3, TG4, tr, FE0, FE1, FE2, FE3, FE4, FE5⟩ := hI
    refine dv rfl rfl M (x_load ld_3 (e_tmp (TG0.get 6 rfl (hA 6 rfl))) ((he338.keep_ (Nat.succ_pos _) (FL.same tr ⟨fun h => absurd h (ne rfl), ⟨fun h => absurd h (ne rfl), ⟨fun h => absurd h (ne rfl), trivial⟩⟩⟩)).2 0 _ rfl)) fun a' p => ?_
    exact ⟨M.st p rfl, o, g349, A371, c372, g383, A391, c392, (TG0.step p 7 rfl rfl), (TG1.other p rfl), (TG2.other p rfl), (TG3.other p rfl), (TG4.other p rfl), (FL.idle tr), FE0, FE1, FE2, FE3, FE4, FE5⟩
   ·intro U a w M hL hA hD hI
    obtain ⟨o, g349, A371, c372, g383, A391, c392, TG0, TG1, TG2, TG3, TG4, tr, FE0, FE1, FE2, FE3, FE4, FE5⟩ := hI
    have r346 : (Instr.buildSlice 26 0 #[]).run Try.prog w = .ok (.slice (some ⟨w.heap.size, 0, none⟩) 0 0) (w.alloc (.cells ([] : List Value).toArray 3)) := by go_simp
    obtain ⟨b347, t348⟩ := Row.lit (E := (tInt .i64)) (e := 3) (l := ([] : List Int)) (by decide) w o 106 (cs := []) rfl (by simp)
    generalize hww344 : w.alloc _ = w344 at r346 b347 t348
    generalize upd o _ 106 = o345 at b347 t348
    generalize hgg349 : w.heap.size = g349 at r346 b347
    clear hww344 hgg349
    refine dv rfl rfl M (x_buildSlice l0 r346) fun a' p => ?_
    exact ⟨M.st p rfl, o345, g349, A371, c372, g383, A391, c392, (TG0.other p rfl), (Tab.mk hD p 0 rfl rfl), (TG2.other p rfl), (TG3.other p rfl), (TG4.other p rfl), (FL.stepNo tr t348), (fun _ _ => b347), (fun h _ => ab (hD 15 rfl) rfl h), (fun h => ab (hD 17 rfl) rfl h), (fun h => ab (hD 18 rfl) rfl h), (fun h => ab (hD 20 rfl) rfl h), (fun h => ab (hD 17 rfl) rfl h)⟩
   ·intro U a w M hL hA hD hI
    obtain ⟨o, g349, A371, c372, g383, A391, c392, TG0, TG1, TG2, TG3, TG4, tr, FE0, FE1, FE2, FE3, FE4, FE5⟩ := hI
    refine dv rfl rfl M (x_fieldAddr fa_25_2 (M.e 5 rfl) rfl) fun a' p => ?_
    exact ⟨M.st p rfl, o, g349, A371, c372, g383, A391, c392, (TG0.step p 8 rfl rfl), (TG1.other p rfl), (TG2.other p rfl), (TG3.other p rfl), (TG4.other p rfl), (FL.idle tr), FE0, FE1, FE2, FE3, FE4, FE5⟩
   ·intro U a w M hL hA hD hI
    obtain ⟨o, g349, A371, c372, g383, A391, c392, TG0, TG1, TG2, TG3, TG4, tr, FE0, FE1, FE2, FE3, FE4, FE5⟩ := hI
    refine dv rfl rfl M (x_load ld_23 (e_tmp (TG0.get 8 rfl (hA 9 rfl))) ((q323.keep_ (FL.same tr ⟨fun h => absurd h (ne rfl), ⟨fun h => absurd h (ne rfl), ⟨fun h => absurd h (ne rfl), trivial⟩⟩⟩)).cell (n := 2) rfl)) fun a' p => ?_
    exact ⟨M.st p rfl, o, g349, A371, c372, g383, A391, c392, (TG0.step p 9 rfl rfl), (TG1.other p rfl), (TG2.other p rfl), (TG3.other p rfl), (TG4.other p rfl), (FL.idle tr), FE0, FE1, FE2, FE3, FE4, FE5⟩
   ·intro U a w M hL hA hD hI
    obtain ⟨o, g349, A371, c372, g383, A391, c392, TG0, TG1, TG2, TG3, TG4, tr, FE0, FE1, FE2, FE3, FE4, FE5⟩ := hI
    refine dv rfl rfl M (x_move (M.e 8 rfl)) fun a' p => ?_
    exact ⟨M.st p rfl, o, g349, A371, c372, g383, A391, c392, (TG0.step p 10 rfl rfl), (TG1.other p rfl), (TG2.other p rfl), (TG3.other p rfl), (TG4.other p rfl), (FL.idle tr), FE0, FE1, FE2, FE3, FE4, FE5⟩
   ·intro U a w M hL hA hD hI
    obtain ⟨o, g349, A371, c372, g383, A391, c392, TG0, TG1, TG2, TG3, TG4, tr, FE0, FE1, FE2, FE3, FE4, FE5⟩ := hI
    refine dv rfl rfl M (x_indexAddr Try.underlying23 sz_28 ((e_tmp (TG0.get 9 rfl (hA 10 rfl))).trans hv356) (e_tmp (TG0.get 10 rfl (hA 11 rfl))) hx3510 hx3512) fun a' p => ?_
    exact ⟨M.st p rfl, o, g349, A371, c372, g383, A391, c392, (TG0.step p 11 rfl rfl), (TG1.other p rfl), (TG2.other p rfl), (TG3.other p rfl), (TG4.other p rfl), (FL.idle tr), FE0, FE1, FE2, FE3, FE4, FE5⟩
   ·intro U a w M hL hA hD hI
    obtain ⟨o, g349, A371, c372, g383, A391, c392, TG0, TG1, TG2, TG3, TG4, tr, FE0, FE1, FE2, FE3, FE4, FE5⟩ := hI
    refine dv rfl rfl M (x_fieldAddr (m := f353 + ((y184).toNat * 2 + 1)) fa_28_1 (e_tmp (TG0.get 11 rfl (hA 12 rfl))) (by omega)) fun a' p => ?_
    exact ⟨M.st p rfl, o, g349, A371, c372, g383, A391, c392, (TG0.step p 12 rfl rfl), (TG1.other p rfl), (TG2.other p rfl), (TG3.other p rfl), (TG4.other p rfl), (FL.idle tr), FE0, FE1, FE2, FE3, FE4, FE5⟩
   ·intro U a w M hL hA hD hI
    obtain ⟨o, g349, A371, c372, g383, A391, c392, TG0, TG1, TG2, TG3, TG4, tr, FE0, FE1, FE2, FE3, FE4, FE5⟩ := hI
    refine dv rfl rfl M (x_load ld_26 (e_tmp (TG0.get 12 rfl (hA 13 rfl))) ((he358.keep_ (Nat.succ_pos _) (FL.same tr ⟨fun h => absurd h (ne rfl), ⟨fun h => absurd h (ne rfl), ⟨fun h => absurd h (ne rfl), trivial⟩⟩⟩)).2 1 _ rfl)) fun a' p => ?_
    exact ⟨M.st p rfl, o, g349, A371, c372, g383, A391, c392, (TG0.step p 13 rfl rfl), (TG1.other p rfl), (TG2.other p rfl), (TG3.other p rfl), (TG4.other p rfl), (FL.idle tr), FE0, FE1, FE2, FE3, FE4, FE5⟩
   ·intro U a w M hL hA hD hI
    obtain ⟨o, g349, A371, c372, g383, A391, c392, TG0, TG1, TG2, TG3, TG4, tr, FE0, FE1, FE2, FE3, FE4, FE5⟩ := hI
    obtain ⟨v365, w366, o367, r368, b369, t370⟩ := run_append el_3 Try.underlying26 26 (FE0 (hA 8 rfl) hL) (by decide) (Src.im (Ty.loc _ (FL.same tr ⟨fun h => absurd h (ne rfl), ⟨fun h => absurd h (ne rfl), ⟨fun h => absurd h (ne rfl), trivial⟩⟩⟩) i361)) hc364
    obtain ⟨A371, c372, rfl, -⟩ := b369.form
    refine dv rfl rfl M (x_append (e_tmp (TG1.get 0 rfl (hA 8 rfl))) (e_tmp (TG0.get 13 rfl (hA 14 rfl))) r368) fun a' p => ?_
    exact ⟨M.st p rfl, o367, g349, A371, c372, g383, A391, c392, (TG0.other p rfl), (TG1.other p rfl), (Tab.mk hD p 0 rfl rfl), (TG3.other p rfl), (TG4.other p rfl), (FL.stk tr t370 rfl), (fun _ h => Bool.noConfusion h), (fun _ _ => b369), (fun h => ab (hD 17 rfl) rfl h), (fun h => ab (hD 18 rfl) rfl h), (fun h => ab (hD 20 rfl) rfl h), (fun h => ab (hD 17 rfl) rfl h)⟩
   ·intro U a w M hL hA hD hI
    obtain ⟨o, g349, A371, c372, g383, A391, c392, TG0, TG1, TG2, TG3, TG4, tr, FE0, FE1, FE2, FE3, FE4, FE5⟩ := hI
    have hb373 : ∀ w : World, (Instr.build 28 #[(0, .int .i64 x330.left), (1, .slice A371 (([] : List Int) ++ x350.right).length c372)]).run Try.prog w = .ok (.agg #[.int .i64 x330.left, .slice A371 (([] : List Int) ++ x350.right).length c372]) w := fun w => by go_simp
    refine dv rfl rfl M (x_build (l2 (e_tmp (TG0.get 7 rfl (hA 7 rfl))) (e_tmp (TG2.get 0 rfl (hA 15 rfl)))) hb373) fun a' p => ?_
    exact ⟨M.st p rfl, o, g349, A371, c372, g383, A391, c392, (TG0.other p rfl), (TG1.other p rfl), (TG2.step p 1 rfl rfl), (TG3.other p rfl), (TG4.other p rfl), (FL.idle tr), FE0, FE1, FE2, FE3, FE4, FE5⟩
   ·intro U a w M hL hA hD hI
    obtain ⟨o, g349, A371, c372, g383, A391, c392, TG0, TG1, TG2, TG3, TG4, tr, FE0, FE1, FE2, FE3, FE4, FE5⟩ := hI
    obtain ⟨o379, ho380⟩ := ex (lro [(106, 0)] o)
    have t381 := FL.kw tr hcl319 ho380 rfl
    have r376 : (Instr.buildSlice 23 1 #[(0, .agg #[.int .i64 x330.left, .slice A371 (([] : List Int) ++ x350.right).length c372])]).run Try.prog w = .ok (.slice (some ⟨w.heap.size, 0, none⟩) 1 1) (w.alloc (.cells ([.int .i64 x330.left, .slice A371 (([] : List Int) ++ x350.right).length c372] : List Value).toArray 28)) := by go_simp
    obtain ⟨b377, t378⟩ := Row.lit (E := tyRule) (e := 28) (l := [(⟨x330.left, ([] : List Int) ++ x350.right⟩ : Rule)]) (by decide) w o379 107 (cs := [.int .i64 x330.left, .slice A371 (([] : List Int) ++ x350.right).length c372]) ⟨[.int .i64 x330.left, .slice A371 (([] : List Int) ++ x350.right).length c372], _, rfl, (Rule_mk w o379 (⟨x330.left, ([] : List Int) ++ x350.right⟩ : Rule) (Row.kz (hE := by decide) (FE1 (hA 15 rfl) hL) ho380 rfl rfl)), rfl⟩ (by simp)
    generalize hww374 : w.alloc _ = w374 at r376 b377 t378
    generalize upd o379 _ 107 = o375 at b377 t378
    generalize hgg383 : w.heap.size = g383 at r376 b377
    clear hww374 hgg383
    refine dv rfl rfl M (x_buildSlice (l1 (e_tmp (TG2.get 1 rfl (hA 16 rfl)))) r376) fun a' p => ?_
    exact ⟨M.st p rfl, o375, g349, A371, c372, g383, A391, c392, (TG0.other p rfl), (TG1.other p rfl), (TG2.other p rfl), (Tab.mk hD p 0 rfl rfl), (TG4.other p rfl), (FL.stepNo t381 t378), (fun _ h => ac (hA 15 rfl) rfl h), (fun _ h => Bool.noConfusion h), (fun _ => b377), (fun h => ab (hD 18 rfl) rfl h), (fun h => ab (hD 20 rfl) rfl h), (fun _ => (Ty.loc _ (t378.sameNo) (Row.kz (hE := by decide) (FE1 (hA 15 rfl) hL) ho380 rfl rfl)))⟩
   ·intro U a w M hL hA hD hI
    obtain ⟨o, g349, A371, c372, g383, A391, c392, TG0, TG1, TG2, TG3, TG4, tr, FE0, FE1, FE2, FE3, FE4, FE5⟩ := hI
    obtain ⟨v385, w386, o387, r388, b389, t390⟩ := run_append el_28 Try.underlying23 23 (q328.keep_ (FL.same tr ⟨fun h => absurd h (ne rfl), ⟨fun _ => hL, ⟨fun h => absurd h (ne rfl), trivial⟩⟩⟩) (FL.same tr ⟨fun h => absurd h (ne rfl), ⟨fun h => absurd h (ne rfl), ⟨fun h => absurd h (ne rfl), trivial⟩⟩⟩)) (by decide) (Src.row (FE2 (hA 17 rfl))) hc384
    obtain ⟨A391, c392, rfl, -⟩ := b389.form
    refine dv rfl rfl M (x_append (e_tmp (TG0.get 1 rfl (hA 1 rfl))) (e_tmp (TG3.get 0 rfl (hA 17 rfl))) r388) fun a' p => ?_
    exact ⟨M.st p rfl, o387, g349, A371, c372, g383, A391, c392, (TG0.other p rfl), (TG1.other p rfl), (TG2.other p rfl), (TG3.other p rfl), (Tab.mk hD p 0 rfl rfl), (FL.stk tr t390 rfl), (fun _ h => ac (hA 15 rfl) rfl h), (fun _ h => ac (hA 17 rfl) rfl h), (fun h0 => (FE2 h0).keep_ (t390.sameK (ne rfl)) (t390.sameK (ne rfl))), (fun _ => b389), (fun h => ab (hD 20 rfl) rfl h), (fun h0 => Ty.loc _ (t390.sameK (ne rfl)) (FE5 h0))⟩
   ·intro U a w M hL hA hD hI
    obtain ⟨o, g349, A371, c372, g383, A391, c392, TG0, TG1, TG2, TG3, TG4, tr, FE0, FE1, FE2, FE3, FE4, FE5⟩ := hI
    refine dv rfl rfl M (x_fieldAddr fa_25_2 (M.e 7 rfl) rfl) fun a' p => ?_
    exact ⟨M.st p rfl, o, g349, A371, c372, g383, A391, c392, (TG0.step p 14 rfl rfl), (TG1.other p rfl), (TG2.other p rfl), (TG3.other p rfl), (TG4.other p rfl), (FL.idle tr), FE0, FE1, FE2, FE3, FE4, FE5⟩
   ·intro U a w M hL hA hD hI
    obtain ⟨o, g349, A371, c372, g383, A391, c392, TG0, TG1, TG2, TG3, TG4, tr, FE0, FE1, FE2, FE3, FE4, FE5⟩ := hI
    obtain ⟨w393, r394, b395, t396⟩ := b_store (P := Try.prog) st_23 (e_tmp (TG0.get 14 rfl (hA 19 rfl))) (e_tmp (TG4.get 0 rfl (hA 18 rfl))) (q325.keep_ (FL.same tr ⟨fun h => absurd h (ne rfl), ⟨fun h => absurd h (ne rfl), ⟨fun _ => hL, trivial⟩⟩⟩)) (show 2 < 3 by decide) rfl rfl
    have b395 : Box w393 o 104 g61 25 #[.slice A43 (([] : List ByteArray) ++ p1.terms).length c44, .slice A58 (([] : List ByteArray) ++ p1.names).length c59, .slice A391 (y185 ++ [(⟨x330.left, ([] : List Int) ++ x350.right⟩ : Rule)]).length c392] := b395
    refine o_skip rfl (wp0 rfl) rfl (r394 _ _ _ _ _) ?_
    exact ⟨M, o, g349, A371, c372, g383, A391, c392, (TG0.idle rfl), (TG1.idle rfl), (TG2.idle rfl), (TG3.idle rfl), (TG4.idle rfl), (FL.stk tr t396 rfl), (fun _ h => ac (hA 15 rfl) rfl h), (fun _ h => ac (hA 17 rfl) rfl h), (fun h0 => (FE2 h0).keep_ (t396.sameK (ne rfl)) (t396.sameK (ne rfl))), (fun h0 => (FE3 h0).keep_ (t396.sameK (ne rfl)) (t396.sameK (ne rfl))), (fun _ => b395), (fun h0 => Ty.loc _ (t396.sameK (ne rfl)) (FE5 h0))⟩
   intro U a w397 M hA hI
   obtain ⟨o398, g349, A371, c372, g383, A391, c392, TG0, TG1, TG2, TG3, TG4, tr, FE0, FE1, FE2, FE3, FE4, FE5⟩ := hI
   have q399 := (q323.keep_ (FL.same tr ⟨fun h => absurd h (ne rfl), ⟨fun h => absurd h (ne rfl), ⟨fun h => absurd h (ne rfl), trivial⟩⟩⟩))
   have q400 := (q324.keep_ (FL.same tr ⟨fun h => absurd h (ne rfl), ⟨fun h => absurd h (ne rfl), ⟨fun h => absurd h (ne rfl), trivial⟩⟩⟩))
   have q401 := (FE4 (hA 20 rfl))
   have q402 := (q326.keep_ (FL.same tr ⟨fun h => absurd h (ne rfl), ⟨fun h => absurd h (ne rfl), ⟨fun h => absurd h (ne rfl), trivial⟩⟩⟩) (FL.same tr ⟨fun h => absurd h (ne rfl), ⟨fun h => absurd h (ne rfl), ⟨fun h => absurd h (ne rfl), trivial⟩⟩⟩))
   have q403 := (q327.keep_ (FL.same tr ⟨fun h => absurd h (ne rfl), ⟨fun h => absurd h (ne rfl), ⟨fun h => absurd h (ne rfl), trivial⟩⟩⟩) (FL.same tr ⟨fun h => absurd h (ne rfl), ⟨fun h => absurd h (ne rfl), ⟨fun h => absurd h (ne rfl), trivial⟩⟩⟩))
   have q404 := (FE3 (hA 18 rfl))
   have i405 := (Ty.loc _ (FL.same tr ⟨fun h => absurd h (ne rfl), ⟨fun h => absurd h (ne rfl), ⟨fun h => absurd h (ne rfl), trivial⟩⟩⟩) i320)
   have i406 := (Ty.loc _ (FL.same tr ⟨fun h => absurd h (ne rfl), ⟨fun h => absurd h (ne rfl), ⟨fun h => absurd h (ne rfl), trivial⟩⟩⟩) i321)
   have i407 := (Ty.loc _ (FL.same tr ⟨fun h => absurd h (ne rfl), ⟨fun h => absurd h (ne rfl), ⟨fun h => absurd h (ne rfl), trivial⟩⟩⟩) i322)
   have T408 := Tr.kf T318 tr hown rfl
   clear hA TG0 TG1 TG2 TG3 TG4 tr FE0 FE1 FE2 FE3 FE4 FE5
   refine q_blk <| q_then <| c_reg <| pn (j := 2) E 2 M rfl rfl fun a M => ?_
   have M := M.pk [0, 1, 7, 8, 9] rfl
   refine pn (j := 3) E 1 M rfl rfl fun a M => x_end rfl ?_
   obtain rfl := sj h
   exact lq_next ⟨o398, (.slice A391 (y185 ++ [(⟨x330.left, ([] : List Int) ++ x350.right⟩ : Rule)]).length c392), (M.pk [3, 4, 5, 0] rfl), q399, q400, q401, q402, q403, q404, i405, i406, i407, T408⟩
  rw [if_neg hk7] at h
  have hk7 := nott hk7
  have M := M.k 18 rfl hk7
  refine c_false (M.e 0 rfl) <| wp_exit <| q_then_exit ?_
  obtain rfl := sj h
  exact lq_exit ⟨rfl, ⟨o303, (.slice A314 y185.length c315), (M.pk [6, 7] rfl), q305, q306, q307, q308, q309, T313⟩⟩
 intro e8 a w411 hO412
 obtain ⟨he413, hO412⟩ := hO412
 subst he413
 obtain ⟨o414, z297, M, q415, q416, q417, q418, q419, T420⟩ := hO412
 obtain ⟨A421, c422, hzc422, -⟩ := q419.form
 subst hzc422
 refine q_blk_here <| q_then <| c_seq <| c_reg <| ov rfl rfl M (x_loadN (ldn_25 _ rfl) (M.e 1 rfl) (q416.sub (cs := #[.slice A43 (([] : List ByteArray) ++ p1.terms).length c44, .slice A58 (([] : List ByteArray) ++ p1.names).length c59, .slice A421 x409.length c422]) 0 rfl)) fun a M => ?_
 obtain ⟨w423, r424, b425, t426⟩ := b_storeN (P := Try.prog) (all' := #[.slice A43 (([] : List ByteArray) ++ p1.terms).length c44, .slice A58 (([] : List ByteArray) ++ p1.names).length c59, .slice A421 x409.length c422]) (.inr trivial) (stn_25 _ rfl) (M.e 1 rfl) (M.e 0 rfl) q415 (show 3 ≤ 3 by decide) (by simp [Value.oneCell']) rfl
 have b425 : Box w423 o414 101 g23 25 #[.slice A43 (([] : List ByteArray) ++ p1.terms).length c44, .slice A58 (([] : List ByteArray) ++ p1.names).length c59, .slice A421 x409.length c422] := b425
 refine os rfl (wp0 rfl) rfl (r424 _ _ _ _ _) <| x_end rfl <| q_then <| wp_ret ?_
 have u9 := q417.kk t426 rfl rfl
 have u10 := q418.kk t426 rfl rfl
 have u11 := q419.kk t426 rfl rfl
 have u12 := T420.kk t426 hown rfl
 obtain ⟨o427, ho428⟩ := ex (lro [(102, 50), (103, 51), (105, 52)] o414)
 have T429 := u12.kw hown ho428 rfl
 have q430 := b425.kw ho428 101 rfl
 have q431 := u9.kw ho428 50 rfl rfl
 have q432 := u10.kw ho428 51 rfl rfl
 have q433 := u11.kw ho428 52 rfl rfl
 obtain rfl := sj h
 exact ⟨M.f.defers, _, (res1 Try.results27 (rv_cellN (ldn_25 _ rfl) (M.t 1 rfl) (q430.sub (cs := #[.slice A43 (([] : List ByteArray) ++ p1.terms).length c44, .slice A58 (([] : List ByteArray) ++ p1.names).length c59, .slice A421 x409.length c422]) 0 rfl))), ⟨o427, (.slice A43 (([] : List ByteArray) ++ p1.terms).length c44), (.slice A58 (([] : List ByteArray) ++ p1.names).length c59), (.slice A421 x409.length c422), rfl, q431, q432, q433, T429⟩⟩
end Go.Proofs.Ythilemcdhkfhlaa
namespace Go.Proofs.Ythilemcdhkfhlaa
open Go Go.RowKit Go.Gc Go.Proofs
def keep_LargeGrammar_b0 (k : Nat) (p1 : Grammar) (y39 : Int) (y40 : Int) : Option ((Int × Int) ⊕ Int) :=
  if (decide (y40 < (p1.terms.length : Int))) = true then (if (decide (y39 ≤ (4000 : Int))) = true then ((at? p1.terms y40).bind fun x71 => some (.inl (IntKind.wrap .i64 (y39 + (IntKind.wrap .i64 ((1 : Int) + (if (4000 : Int) < (x71.size : Int) then (4000 : Int) else (x71.size : Int))))), IntKind.wrap .i64 (y40 + (1 : Int))))) else (some (.inr y39))) else (some (.inr y39))
def keep_LargeGrammar_b1 (k : Nat) (p1 : Grammar) (y108 : Int) (y109 : Int) : Option ((Int × Int) ⊕ Int) :=
  if (decide (y109 < (p1.names.length : Int))) = true then (if (decide (y108 ≤ (4000 : Int))) = true then ((at? p1.names y109).bind fun x140 => some (.inl (IntKind.wrap .i64 (y108 + (IntKind.wrap .i64 ((1 : Int) + (if (4000 : Int) < (x140.size : Int) then (4000 : Int) else (x140.size : Int))))), IntKind.wrap .i64 (y109 + (1 : Int))))) else (some (.inr y108))) else (some (.inr y108))
def keep_LargeGrammar_b2 (k : Nat) (p1 : Grammar) (y181 : Int) (y182 : Int) : Option ((Int × Int) ⊕ Int) :=
  if (decide (y182 < (p1.rules.length : Int))) = true then (if (decide (y181 ≤ (4000 : Int))) = true then ((at? p1.rules y182).bind fun x217 => some (.inl (IntKind.wrap .i64 (y181 + (IntKind.wrap .i64 ((1 : Int) + (if (4000 : Int) < (x217.right.length : Int) then (4000 : Int) else (x217.right.length : Int))))), IntKind.wrap .i64 (y182 + (1 : Int))))) else (some (.inr y181))) else (some (.inr y181))
def keep_LargeGrammar (k : Nat) (p1 : Grammar) : Option Bool :=
  (iter (fun (s : (Int × Int)) => keep_LargeGrammar_b0 k p1 s.1 s.2) k ((0 : Int), (0 : Int))).bind fun x81 => (iter (fun (s : (Int × Int)) => keep_LargeGrammar_b1 k p1 s.1 s.2) k (x81, (0 : Int))).bind fun x150 => (iter (fun (s : (Int × Int)) => keep_LargeGrammar_b2 k p1 s.1 s.2) k (x150, (0 : Int))).bind fun x231 => if (decide ((4000 : Int) < x231)) = true then (some true) else (some (decide ((200 : Int) < (p1.rules.length : Int))))
theorem keep_LargeGrammar_calls {k : Nat} {p1 : Grammar} {v2 : Value} {v5 : Value} {v8 : Value} {r : Bool} (h : keep_LargeGrammar k p1 = some r) {w0 : World} {o0 : Own} (hown : Hown o0)
    (i4 : ((tSlice 9 tStr (by decide))).im w0 (L o0 0) p1.terms [v2])
    (i7 : ((tSlice 9 tStr (by decide))).im w0 (L o0 0) p1.names [v5])
    (i10 : ((tSlice 28 tyRule (by decide))).im w0 (L o0 0) p1.rules [v8]) :
    Calls Try.prog 56 #[.agg #[v2, v5, v8]] w0 (fun e w => ∃ (o242 : Own), e = .returned (.bool r) ∧ Tr (Ls o0 []) w0 o0 w o242) := by
 unfold keep_LargeGrammar at h
 refine startM Try.func56 rfl Try.ntmps56 (show 1 ≤ 79 by decide) fun a M => ?_
 have M : MB 79 [] [(0, .agg #[v2, v5, v8])] a := M
 obtain ⟨A11, c12, hzc12, -⟩ := im_form i4
 subst hzc12
 obtain ⟨A13, c14, hzc14, -⟩ := im_form i7
 subst hzc14
 obtain ⟨A15, c16, hzc16, -⟩ := im_form i10
 subst hzc16
 have T0 : Tr (Ls o0 []) w0 o0 w0 o0 := Tr.refl _ _ _
 refine c_seq <| c_reg ?_
 obtain ⟨g17, w18, o19, r20, b21, t22⟩ := b_box (P := Try.prog) (T := 25) (M.e 0 rfl) w0 o0 100
 refine ov rfl rfl M (r20 _ _ _ _ _) fun a M => pn (j := 2) E 1 M rfl rfl fun a M => x_end rfl <| q_then <| c_seq <| c_reg <| pn (j := 1) E 1 M rfl rfl fun a M => x_end rfl <| q_then <| c_seq <| c_seq <| c_reg <| pn (j := 1) E 1 M rfl rfl fun a M => x_end rfl <| q_then <| wp_block ?_
 have u11 := T0.kn t22
 obtain ⟨x81, hx82, h⟩ := bind_some h
 refine loop_iter (S := (Int × Int)) (X := Int) (fun (s : (Int × Int)) => keep_LargeGrammar_b0 k p1 s.1 s.2) (fun (s : (Int × Int)) (a : Act) (w : World) => ∃ (o60 : Own), MB 79 [] [(1, .pointer (some ⟨g17, 0, none⟩)), (3, .int .i64 s.1), (4, .int .i64 s.2)] a ∧ Box w o60 100 g17 25 #[.slice A11 p1.terms.length c12, .slice A13 p1.names.length c14, .slice A15 p1.rules.length c16] ∧ ((tSlice 9 tStr (by decide))).im w (L o60 0) p1.terms [.slice A11 p1.terms.length c12] ∧ ((tSlice 9 tStr (by decide))).im w (L o60 0) p1.names [.slice A13 p1.names.length c14] ∧ ((tSlice 28 tyRule (by decide))).im w (L o60 0) p1.rules [.slice A15 p1.rules.length c16] ∧ Tr (Ls o0 []) w0 o0 w o60) (fun (x : Int) (e : Exit) (a : Act) (w : World) => (e = .exit 0 ∧ ∃ (o61 : Own), MB 79 [] [(1, .pointer (some ⟨g17, 0, none⟩)), (3, .int .i64 x)] a ∧ Box w o61 100 g17 25 #[.slice A11 p1.terms.length c12, .slice A13 p1.names.length c14, .slice A15 p1.rules.length c16] ∧ ((tSlice 9 tStr (by decide))).im w (L o61 0) p1.terms [.slice A11 p1.terms.length c12] ∧ ((tSlice 9 tStr (by decide))).im w (L o61 0) p1.names [.slice A13 p1.names.length c14] ∧ ((tSlice 28 tyRule (by decide))).im w (L o61 0) p1.rules [.slice A15 p1.rules.length c16] ∧ Tr (Ls o0 []) w0 o0 w o61)) ?_ hx82 ⟨o19, (M.pk [3, 1, 0] rfl), b21, (iN i4 t22), (iN i7 t22), (iN i10 t22), u11⟩ ?_
 ·rintro ⟨y39, y40⟩ a w62 r63 hI64 h
  replace h : keep_LargeGrammar_b0 k p1 y39 y40 = some r63 := h
  unfold keep_LargeGrammar_b0 at h
  obtain ⟨o65, M, q66, i67, i68, i69, T70⟩ := hI64
  refine c_seq <| c_seq <| c_reg <| pn (j := 2) E 2 M rfl rfl fun a M => ov rfl rfl M (x_load ld_22 (M.e 0 rfl) (q66.cell (n := 0) rfl)) fun a M => pn (j := 6) E 3 M rfl rfl fun a M => ?_
  by_cases hk15 : (decide (y40 < (p1.terms.length : Int))) = true
  ·rw [if_pos hk15] at h
   have M := M.k 12 rfl hk15
   refine pn (j := 9) E 3 M rfl rfl fun a M => x_end rfl <| q_then ?_
   by_cases hk16 : (decide (y39 ≤ (4000 : Int))) = true
   ·rw [if_pos hk16] at h
    have M := M.k 15 rfl hk16
    refine c_true (M.e 0 rfl) <| wp_skip <| q_then <| c_seq <| wp_block <| c_reg <| pn (j := 2) E 2 M rfl rfl fun a M => ov rfl rfl M (x_load ld_22 (M.e 0 rfl) (q66.cell (n := 0) rfl)) fun a M => pn (j := 4) E 1 M rfl rfl fun a M => ?_
    obtain ⟨x71, hx72, h⟩ := bind_some h
    obtain ⟨hx720, hx721, hx722⟩ := at_some hx72
    obtain ⟨g73, f74, c75, ds76, hv77, hd78, he79⟩ := im_elem i67 hx721
    have hsds76 : ds76 = [.string x71] := hd78
    subst hsds76
    have he79 : ElemAt w62 o65 0 g73 f74 (y40).toNat 1 [.string x71] := he79
    refine ov rfl rfl M (x_indexAddr Try.underlying22 sz_9 ((M.e 1 rfl).trans hv77) (M.e 0 rfl) hx720 hx722) fun a M => ov rfl rfl M (x_load ld_9 (M.e 0 rfl) (he79.2 0 _ rfl)) fun a M => pn (j := 7) E 1 M rfl rfl fun a M => ov rfl rfl M (x_min (M.e 0 rfl) (e_const (v := .int .i64 (4000 : Int)))) fun a M => pn (j := 10) E 2 M rfl rfl fun a M => ?_
    have M := M.pk [0, 1, 2, 3, 4, 5, 6, 7, 8, 9, 11, 12, 19, 21] rfl
    refine pn (j := 11) E 1 M rfl rfl fun a M => x_end rfl <| q_blk <| q_then <| c_reg <| pn (j := 2) E 2 M rfl rfl fun a M => ?_
    have M := M.pk [0, 1, 2, 13, 14, 15] rfl
    refine pn (j := 3) E 1 M rfl rfl fun a M => x_end rfl ?_
    obtain rfl := sj h
    exact lq_next ⟨o65, (M.pk [6, 3, 0] rfl), q66, i67, i68, i69, T70⟩
   rw [if_neg hk16] at h
   have hk16 := nott hk16
   have M := M.k 15 rfl hk16
   refine c_false (M.e 0 rfl) <| wp_exit <| q_then_exit ?_
   obtain rfl := sj h
   exact lq_exit ⟨rfl, ⟨o65, (M.pk [9, 10] rfl), q66, i67, i68, i69, T70⟩⟩
  rw [if_neg hk15] at h
  have hk15 := nott hk15
  have M := M.k 12 rfl hk15
  refine pn (j := 9) E 3 M rfl rfl fun a M => x_end rfl <| q_then <| c_false (M.e 0 rfl) <| wp_exit <| q_then_exit ?_
  obtain rfl := sj h
  exact lq_exit ⟨rfl, ⟨o65, (M.pk [9, 10] rfl), q66, i67, i68, i69, T70⟩⟩
 intro e17 a w83 hO84
 obtain ⟨he85, hO84⟩ := hO84
 subst he85
 obtain ⟨o86, M, q87, i88, i89, i90, T91⟩ := hO84
 refine q_blk_here <| q_then <| c_seq <| c_seq <| c_reg <| pn (j := 1) E 1 M rfl rfl fun a M => x_end rfl <| q_then <| wp_block ?_
 obtain ⟨x150, hx151, h⟩ := bind_some h
 refine loop_iter (S := (Int × Int)) (X := Int) (fun (s : (Int × Int)) => keep_LargeGrammar_b1 k p1 s.1 s.2) (fun (s : (Int × Int)) (a : Act) (w : World) => ∃ (o129 : Own), MB 79 [] [(1, .pointer (some ⟨g17, 0, none⟩)), (3, .int .i64 s.1), (5, .int .i64 s.2)] a ∧ Box w o129 100 g17 25 #[.slice A11 p1.terms.length c12, .slice A13 p1.names.length c14, .slice A15 p1.rules.length c16] ∧ ((tSlice 9 tStr (by decide))).im w (L o129 0) p1.terms [.slice A11 p1.terms.length c12] ∧ ((tSlice 9 tStr (by decide))).im w (L o129 0) p1.names [.slice A13 p1.names.length c14] ∧ ((tSlice 28 tyRule (by decide))).im w (L o129 0) p1.rules [.slice A15 p1.rules.length c16] ∧ Tr (Ls o0 []) w0 o0 w o129) (fun (x : Int) (e : Exit) (a : Act) (w : World) => (e = .exit 2 ∧ ∃ (o130 : Own), MB 79 [] [(1, .pointer (some ⟨g17, 0, none⟩)), (3, .int .i64 x)] a ∧ Box w o130 100 g17 25 #[.slice A11 p1.terms.length c12, .slice A13 p1.names.length c14, .slice A15 p1.rules.length c16] ∧ ((tSlice 9 tStr (by decide))).im w (L o130 0) p1.terms [.slice A11 p1.terms.length c12] ∧ ((tSlice 9 tStr (by decide))).im w (L o130 0) p1.names [.slice A13 p1.names.length c14] ∧ ((tSlice 28 tyRule (by decide))).im w (L o130 0) p1.rules [.slice A15 p1.rules.length c16] ∧ Tr (Ls o0 []) w0 o0 w o130)) ?_ hx151 ⟨o86, (M.pk [1, 2, 0] rfl), q87, i88, i89, i90, T91⟩ ?_
 ·rintro ⟨y108, y109⟩ a w131 r132 hI133 h
  replace h : keep_LargeGrammar_b1 k p1 y108 y109 = some r132 := h
  unfold keep_LargeGrammar_b1 at h
  obtain ⟨o134, M, q135, i136, i137, i138, T139⟩ := hI133
  refine c_seq <| c_seq <| c_reg <| pn (j := 2) E 2 M rfl rfl fun a M => ov rfl rfl M (x_load ld_22 (M.e 0 rfl) (q135.cell (n := 1) rfl)) fun a M => pn (j := 6) E 3 M rfl rfl fun a M => ?_
  by_cases hk31 : (decide (y109 < (p1.names.length : Int))) = true
  ·rw [if_pos hk31] at h
   have M := M.k 33 rfl hk31
   refine pn (j := 9) E 3 M rfl rfl fun a M => x_end rfl <| q_then ?_
   by_cases hk32 : (decide (y108 ≤ (4000 : Int))) = true
   ·rw [if_pos hk32] at h
    have M := M.k 36 rfl hk32
    refine c_true (M.e 0 rfl) <| wp_skip <| q_then <| c_seq <| wp_block <| c_reg <| pn (j := 2) E 2 M rfl rfl fun a M => ov rfl rfl M (x_load ld_22 (M.e 0 rfl) (q135.cell (n := 1) rfl)) fun a M => pn (j := 4) E 1 M rfl rfl fun a M => ?_
    obtain ⟨x140, hx141, h⟩ := bind_some h
    obtain ⟨hx1410, hx1411, hx1412⟩ := at_some hx141
    obtain ⟨g142, f143, c144, ds145, hv146, hd147, he148⟩ := im_elem i137 hx1411
    have hsds145 : ds145 = [.string x140] := hd147
    subst hsds145
    have he148 : ElemAt w131 o134 0 g142 f143 (y109).toNat 1 [.string x140] := he148
    refine ov rfl rfl M (x_indexAddr Try.underlying22 sz_9 ((M.e 1 rfl).trans hv146) (M.e 0 rfl) hx1410 hx1412) fun a M => ov rfl rfl M (x_load ld_9 (M.e 0 rfl) (he148.2 0 _ rfl)) fun a M => pn (j := 7) E 1 M rfl rfl fun a M => ov rfl rfl M (x_min (M.e 0 rfl) (e_const (v := .int .i64 (4000 : Int)))) fun a M => pn (j := 10) E 2 M rfl rfl fun a M => ?_
    have M := M.pk [0, 1, 2, 3, 4, 5, 6, 7, 8, 9, 11, 12, 19, 21] rfl
    refine pn (j := 11) E 1 M rfl rfl fun a M => x_end rfl <| q_blk <| q_then <| c_reg <| pn (j := 2) E 2 M rfl rfl fun a M => ?_
    have M := M.pk [0, 1, 2, 13, 14, 15] rfl
    refine pn (j := 3) E 1 M rfl rfl fun a M => x_end rfl ?_
    obtain rfl := sj h
    exact lq_next ⟨o134, (M.pk [6, 3, 0] rfl), q135, i136, i137, i138, T139⟩
   rw [if_neg hk32] at h
   have hk32 := nott hk32
   have M := M.k 36 rfl hk32
   refine c_false (M.e 0 rfl) <| wp_exit <| q_then_exit ?_
   obtain rfl := sj h
   exact lq_exit ⟨rfl, ⟨o134, (M.pk [9, 10] rfl), q135, i136, i137, i138, T139⟩⟩
  rw [if_neg hk31] at h
  have hk31 := nott hk31
  have M := M.k 33 rfl hk31
  refine pn (j := 9) E 3 M rfl rfl fun a M => x_end rfl <| q_then <| c_false (M.e 0 rfl) <| wp_exit <| q_then_exit ?_
  obtain rfl := sj h
  exact lq_exit ⟨rfl, ⟨o134, (M.pk [9, 10] rfl), q135, i136, i137, i138, T139⟩⟩
 intro e33 a w152 hO153
 obtain ⟨he154, hO153⟩ := hO153
 subst he154
 obtain ⟨o155, M, q156, i157, i158, i159, T160⟩ := hO153
 refine q_blk_here <| q_then <| c_seq <| c_seq <| c_reg <| pn (j := 1) E 1 M rfl rfl fun a M => x_end rfl <| q_then <| wp_block ?_
 obtain ⟨x231, hx232, h⟩ := bind_some h
 refine loop_iter (S := (Int × Int)) (X := Int) (fun (s : (Int × Int)) => keep_LargeGrammar_b2 k p1 s.1 s.2) (fun (s : (Int × Int)) (a : Act) (w : World) => ∃ (o206 : Own), MB 79 [] [(1, .pointer (some ⟨g17, 0, none⟩)), (3, .int .i64 s.1), (6, .int .i64 s.2)] a ∧ Box w o206 100 g17 25 #[.slice A11 p1.terms.length c12, .slice A13 p1.names.length c14, .slice A15 p1.rules.length c16] ∧ ((tSlice 9 tStr (by decide))).im w (L o206 0) p1.terms [.slice A11 p1.terms.length c12] ∧ ((tSlice 9 tStr (by decide))).im w (L o206 0) p1.names [.slice A13 p1.names.length c14] ∧ ((tSlice 28 tyRule (by decide))).im w (L o206 0) p1.rules [.slice A15 p1.rules.length c16] ∧ Tr (Ls o0 []) w0 o0 w o206) (fun (x : Int) (e : Exit) (a : Act) (w : World) => (e = .exit 4 ∧ ∃ (o207 : Own), MB 79 [] [(1, .pointer (some ⟨g17, 0, none⟩)), (3, .int .i64 x)] a ∧ Box w o207 100 g17 25 #[.slice A11 p1.terms.length c12, .slice A13 p1.names.length c14, .slice A15 p1.rules.length c16] ∧ ((tSlice 9 tStr (by decide))).im w (L o207 0) p1.terms [.slice A11 p1.terms.length c12] ∧ ((tSlice 9 tStr (by decide))).im w (L o207 0) p1.names [.slice A13 p1.names.length c14] ∧ ((tSlice 28 tyRule (by decide))).im w (L o207 0) p1.rules [.slice A15 p1.rules.length c16] ∧ Tr (Ls o0 []) w0 o0 w o207)) ?_ hx232 ⟨o155, (M.pk [1, 2, 0] rfl), q156, i157, i158, i159, T160⟩ ?_
 ·rintro ⟨y181, y182⟩ a w208 r209 hI210 h
  replace h : keep_LargeGrammar_b2 k p1 y181 y182 = some r209 := h
  unfold keep_LargeGrammar_b2 at h
  obtain ⟨o211, M, q212, i213, i214, i215, T216⟩ := hI210
  refine c_seq <| c_seq <| c_reg <| pn (j := 2) E 2 M rfl rfl fun a M => ov rfl rfl M (x_load ld_23 (M.e 0 rfl) (q212.cell (n := 2) rfl)) fun a M => pn (j := 6) E 3 M rfl rfl fun a M => ?_
  by_cases hk47 : (decide (y182 < (p1.rules.length : Int))) = true
  ·rw [if_pos hk47] at h
   have M := M.k 54 rfl hk47
   refine pn (j := 9) E 3 M rfl rfl fun a M => x_end rfl <| q_then ?_
   by_cases hk48 : (decide (y181 ≤ (4000 : Int))) = true
   ·rw [if_pos hk48] at h
    have M := M.k 57 rfl hk48
    refine c_true (M.e 0 rfl) <| wp_skip <| q_then <| c_seq <| wp_block <| c_reg <| pn (j := 2) E 2 M rfl rfl fun a M => ov rfl rfl M (x_load ld_23 (M.e 0 rfl) (q212.cell (n := 2) rfl)) fun a M => pn (j := 4) E 1 M rfl rfl fun a M => ?_
    obtain ⟨x217, hx218, h⟩ := bind_some h
    obtain ⟨hx2180, hx2181, hx2182⟩ := at_some hx218
    obtain ⟨g219, f220, c221, ds222, hv223, hd224, he225⟩ := im_elem i215 hx2181
    obtain ⟨A226, c227, rfl, i228⟩ := Rule_open hd224
    have he225 : ElemAt w208 o211 0 g219 f220 (y182).toNat 2 [.int .i64 x217.left, .slice A226 x217.right.length c227] := he225
    refine ov rfl rfl M (x_indexAddr Try.underlying23 sz_28 ((M.e 1 rfl).trans hv223) (M.e 0 rfl) hx2180 hx2182) fun a M => ov rfl rfl M (x_fieldAddr (m := f220 + ((y182).toNat * 2 + 1)) fa_28_1 (M.e 0 rfl) (by omega)) fun a M => ov rfl rfl M (x_load ld_26 (M.e 0 rfl) (he225.2 1 _ rfl)) fun a M => pn (j := 8) E 1 M rfl rfl fun a M => ov rfl rfl M (x_min (M.e 0 rfl) (e_const (v := .int .i64 (4000 : Int)))) fun a M => pn (j := 11) E 2 M rfl rfl fun a M => ?_
    have M := M.pk [0, 1, 2, 3, 4, 5, 6, 7, 8, 9, 10, 12, 13, 20, 22] rfl
    refine pn (j := 12) E 1 M rfl rfl fun a M => x_end rfl <| q_blk <| q_then <| c_reg <| pn (j := 2) E 2 M rfl rfl fun a M => ?_
    have M := M.pk [0, 1, 2, 14, 15, 16] rfl
    refine pn (j := 3) E 1 M rfl rfl fun a M => x_end rfl ?_
    obtain rfl := sj h
    exact lq_next ⟨o211, (M.pk [6, 3, 0] rfl), q212, i213, i214, i215, T216⟩
   rw [if_neg hk48] at h
   have hk48 := nott hk48
   have M := M.k 57 rfl hk48
   refine c_false (M.e 0 rfl) <| wp_exit <| q_then_exit ?_
   obtain rfl := sj h
   exact lq_exit ⟨rfl, ⟨o211, (M.pk [9, 10] rfl), q212, i213, i214, i215, T216⟩⟩
  rw [if_neg hk47] at h
  have hk47 := nott hk47
  have M := M.k 54 rfl hk47
  refine pn (j := 9) E 3 M rfl rfl fun a M => x_end rfl <| q_then <| c_false (M.e 0 rfl) <| wp_exit <| q_then_exit ?_
  obtain rfl := sj h
  exact lq_exit ⟨rfl, ⟨o211, (M.pk [9, 10] rfl), q212, i213, i214, i215, T216⟩⟩
 intro e49 a w233 hO234
 obtain ⟨he235, hO234⟩ := hO234
 subst he235
 obtain ⟨o236, M, q237, i238, i239, i240, T241⟩ := hO234
 refine q_blk_here <| q_then <| c_seq <| c_reg <| pn (j := 3) E 3 M rfl rfl fun a M => ?_
 by_cases hk50 : (decide ((4000 : Int) < x231)) = true
 ·rw [if_pos hk50] at h
  have M := M.k 73 rfl hk50
  refine pn (j := 9) E 6 M rfl rfl fun a M => x_end rfl <| q_then <| wp_ret ?_
  obtain rfl := sj h
  exact ⟨M.f.defers, _, (res1 Try.results56 (rv_tmp (M.t 0 rfl))), ⟨o236, rfl, T241⟩⟩
 rw [if_neg hk50] at h
 have hk50 := nott hk50
 have M := M.k 73 rfl hk50
 refine pn (j := 4) E 1 M rfl rfl fun a M => ow rfl (wanted_yes rfl rfl (M.t 1 rfl)) rfl rfl M (x_load ld_23 (M.e 0 rfl) (q237.cell (n := 2) rfl)) fun a M => pn (j := 9) E 4 M rfl rfl fun a M => x_end rfl <| q_then <| wp_ret ?_
 obtain rfl := sj h
 exact ⟨M.f.defers, _, (res1 Try.results56 (rv_tmp (M.t 0 rfl))), ⟨o236, rfl, T241⟩⟩
end Go.Proofs.Ythilemcdhkfhlaa
namespace Go.Proofs.Ythilemcdhkfhlaa
open Go Go.RowKit Go.Gc Go.Proofs
def ref01_letter (k : Nat) (p1 : Int) : Option Bool :=
  if (decide ((97 : Int) ≤ p1)) = true then (if (decide (p1 ≤ (122 : Int))) = true then (some true) else (if (decide ((65 : Int) ≤ p1)) = true then (some (decide (p1 ≤ (90 : Int)))) else (some false))) else (if (decide ((65 : Int) ≤ p1)) = true then (some (decide (p1 ≤ (90 : Int)))) else (some false))
theorem ref01_letter_calls {k : Nat} {p1 : Int} {r : Bool} (h : ref01_letter k p1 = some r) {w0 : World} {o0 : Own} (hown : Hown o0) :
    Calls Try.prog 121 #[.int .u8 p1] w0 (fun e w => ∃ (o2 : Own), e = .returned (.bool r) ∧ Tr (Ls o0 []) w0 o0 w o2) := by
 unfold ref01_letter at h
 refine startM Try.func121 rfl Try.ntmps121 (show 1 ≤ 17 by decide) fun a M => ?_
 have M : MB 17 [] [(0, .int .u8 p1)] a := M
 have T0 : Tr (Ls o0 []) w0 o0 w0 o0 := Tr.refl _ _ _
 refine c_seq <| c_reg <| pn (j := 1) E 1 M rfl rfl fun a M => x_end rfl <| q_then <| c_seq <| c_reg <| pn (j := 3) E 3 M rfl rfl fun a M => ?_
 by_cases hk1 : (decide ((97 : Int) ≤ p1)) = true
 ·rw [if_pos hk1] at h
  have M := M.k 5 rfl hk1
  refine pn (j := 7) E 4 M rfl rfl fun a M => ?_
  by_cases hk2 : (decide (p1 ≤ (122 : Int))) = true
  ·rw [if_pos hk2] at h
   have M := M.k 9 rfl hk2
   refine pn (j := 14) E 7 M rfl rfl fun a M => ?_
   have M := M.pk [0, 1, 2, 3, 4, 5, 6, 7, 8, 9, 10, 11, 12, 13, 15] rfl
   refine pn (j := 15) E 1 M rfl rfl fun a M => x_end rfl <| q_then <| wp_ret ?_
   obtain rfl := sj h
   exact ⟨M.f.defers, _, (res1 Try.results121 (rv_tmp (M.t 0 rfl))), ⟨o0, rfl, T0⟩⟩
  rw [if_neg hk2] at h
  have hk2 := nott hk2
  have M := M.k 9 rfl hk2
  refine pn (j := 10) E 3 M rfl rfl fun a M => ?_
  by_cases hk3 : (decide ((65 : Int) ≤ p1)) = true
  ·rw [if_pos hk3] at h
   have M := M.k 12 rfl hk3
   refine pn (j := 14) E 4 M rfl rfl fun a M => ?_
   have M := M.pk [0, 1, 2, 3, 4, 5, 6, 7, 8, 9, 10, 11, 12, 13, 15] rfl
   refine pn (j := 15) E 1 M rfl rfl fun a M => x_end rfl <| q_then <| wp_ret ?_
   obtain rfl := sj h
   exact ⟨M.f.defers, _, (res1 Try.results121 (rv_tmp (M.t 0 rfl))), ⟨o0, rfl, T0⟩⟩
  rw [if_neg hk3] at h
  have hk3 := nott hk3
  have M := M.k 12 rfl hk3
  refine pn (j := 14) E 4 M rfl rfl fun a M => ?_
  have M := M.pk [0, 1, 2, 3, 4, 5, 6, 7, 8, 9, 10, 11, 12, 13, 15] rfl
  refine pn (j := 15) E 1 M rfl rfl fun a M => x_end rfl <| q_then <| wp_ret ?_
  obtain rfl := sj h
  exact ⟨M.f.defers, _, (res1 Try.results121 (rv_tmp (M.t 0 rfl))), ⟨o0, rfl, T0⟩⟩
 rw [if_neg hk1] at h
 have hk1 := nott hk1
 have M := M.k 5 rfl hk1
 refine pn (j := 10) E 7 M rfl rfl fun a M => ?_
 by_cases hk4 : (decide ((65 : Int) ≤ p1)) = true
 ·rw [if_pos hk4] at h
  have M := M.k 12 rfl hk4
  refine pn (j := 14) E 4 M rfl rfl fun a M => ?_
  have M := M.pk [0, 1, 2, 3, 4, 5, 6, 7, 8, 9, 10, 11, 12, 13, 15] rfl
  refine pn (j := 15) E 1 M rfl rfl fun a M => x_end rfl <| q_then <| wp_ret ?_
  obtain rfl := sj h
  exact ⟨M.f.defers, _, (res1 Try.results121 (rv_tmp (M.t 0 rfl))), ⟨o0, rfl, T0⟩⟩
 rw [if_neg hk4] at h
 have hk4 := nott hk4
 have M := M.k 12 rfl hk4
 refine pn (j := 14) E 4 M rfl rfl fun a M => ?_
 have M := M.pk [0, 1, 2, 3, 4, 5, 6, 7, 8, 9, 10, 11, 12, 13, 15] rfl
 refine pn (j := 15) E 1 M rfl rfl fun a M => x_end rfl <| q_then <| wp_ret ?_
 obtain rfl := sj h
 exact ⟨M.f.defers, _, (res1 Try.results121 (rv_tmp (M.t 0 rfl))), ⟨o0, rfl, T0⟩⟩
end Go.Proofs.Ythilemcdhkfhlaa
namespace Go.Proofs.Ythilemcdhkfhlaa
open Go Go.RowKit Go.Gc Go.Proofs
def ref01_more (k : Nat) (p1 : Int) : Option Bool :=
  (ref01_letter k p1).bind fun r2 => if r2 = true then (some true) else (if (decide ((48 : Int) ≤ p1)) = true then (if (decide (p1 ≤ (57 : Int))) = true then (some true) else (some (p1 == (95 : Int)))) else (some (p1 == (95 : Int))))
theorem ref01_more_calls {k : Nat} {p1 : Int} {r : Bool} (h : ref01_more k p1 = some r) {w0 : World} {o0 : Own} (hown : Hown o0) :
    Calls Try.prog 120 #[.int .u8 p1] w0 (fun e w => ∃ (o12 : Own), e = .returned (.bool r) ∧ Tr (Ls o0 []) w0 o0 w o12) := by
 unfold ref01_more at h
 refine startM Try.func120 rfl Try.ntmps120 (show 1 ≤ 17 by decide) fun a M => ?_
 have M : MB 17 [] [(0, .int .u8 p1)] a := M
 have T0 : Tr (Ls o0 []) w0 o0 w0 o0 := Tr.refl _ _ _
 refine c_seq <| c_reg <| pn (j := 1) E 1 M rfl rfl fun a M => x_end rfl <| q_then <| c_seq <| c_reg <| pn (j := 1) E 1 M rfl rfl fun a M => ?_
 obtain ⟨r2, hr3, h⟩ := bind_some h
 refine oc rfl (wp0 rfl) rfl rfl M (x_call cf_121 (m1 (M.e 0 rfl))) (ref01_letter_calls hr3 (lko_own (T := [(0, 0)]) (o := o0) rfl)) (fun e1 w4 hp5 => ?_)
 obtain ⟨o6, he7, T8⟩ := hp5
 obtain ⟨o9, ho10⟩ := ex (mrg w0 o0 [(0, 0)] o6)
 have t11 := T8.r0 ho10
 refine ⟨_, he7, fun a M => ?_⟩
 refine pn (j := 3) E 1 M rfl rfl fun a M => ?_
 by_cases hk2 : r2 = true
 ·rw [if_pos hk2] at h
  have M := M.k 5 rfl hk2
  refine pn (j := 14) E 11 M rfl rfl fun a M => ?_
  have M := M.pk [0, 1, 2, 3, 4, 5, 6, 7, 8, 9, 10, 11, 12, 13, 15] rfl
  refine pn (j := 15) E 1 M rfl rfl fun a M => x_end rfl <| q_then <| wp_ret ?_
  have u3 := T0.kn t11
  obtain rfl := sj h
  exact ⟨M.f.defers, _, (res1 Try.results120 (rv_tmp (M.t 0 rfl))), ⟨o9, rfl, u3⟩⟩
 rw [if_neg hk2] at h
 have hk2 := nott hk2
 have M := M.k 5 rfl hk2
 refine pn (j := 6) E 3 M rfl rfl fun a M => ?_
 by_cases hk4 : (decide ((48 : Int) ≤ p1)) = true
 ·rw [if_pos hk4] at h
  have M := M.k 8 rfl hk4
  refine pn (j := 11) E 5 M rfl rfl fun a M => ?_
  by_cases hk5 : (decide (p1 ≤ (57 : Int))) = true
  ·rw [if_pos hk5] at h
   have M := M.k 13 rfl hk5
   refine pn (j := 14) E 3 M rfl rfl fun a M => ?_
   have M := M.pk [0, 1, 2, 3, 4, 5, 6, 7, 8, 9, 10, 11, 12, 13, 15] rfl
   refine pn (j := 15) E 1 M rfl rfl fun a M => x_end rfl <| q_then <| wp_ret ?_
   have u6 := T0.kn t11
   obtain rfl := sj h
   exact ⟨M.f.defers, _, (res1 Try.results120 (rv_tmp (M.t 0 rfl))), ⟨o9, rfl, u6⟩⟩
  rw [if_neg hk5] at h
  have hk5 := nott hk5
  have M := M.k 13 rfl hk5
  refine pn (j := 14) E 3 M rfl rfl fun a M => ?_
  have M := M.pk [0, 1, 2, 3, 4, 5, 6, 7, 8, 9, 10, 11, 12, 13, 15] rfl
  refine pn (j := 15) E 1 M rfl rfl fun a M => x_end rfl <| q_then <| wp_ret ?_
  have u7 := T0.kn t11
  obtain rfl := sj h
  exact ⟨M.f.defers, _, (res1 Try.results120 (rv_tmp (M.t 0 rfl))), ⟨o9, rfl, u7⟩⟩
 rw [if_neg hk4] at h
 have hk4 := nott hk4
 have M := M.k 8 rfl hk4
 refine pn (j := 14) E 8 M rfl rfl fun a M => ?_
 have M := M.pk [0, 1, 2, 3, 4, 5, 6, 7, 8, 9, 10, 11, 12, 13, 15] rfl
 refine pn (j := 15) E 1 M rfl rfl fun a M => x_end rfl <| q_then <| wp_ret ?_
 have u8 := T0.kn t11
 obtain rfl := sj h
 exact ⟨M.f.defers, _, (res1 Try.results120 (rv_tmp (M.t 0 rfl))), ⟨o9, rfl, u8⟩⟩
end Go.Proofs.Ythilemcdhkfhlaa
namespace Go.Proofs.Ythilemcdhkfhlaa
open Go Go.RowKit Go.Gc Go.Proofs
def ref01_IsName_b0 (k : Nat) (p1 : ByteArray) (y16 : Int) : Option (Int ⊕ (Unit ⊕ Unit)) :=
  if (decide (y16 < (p1.size : Int))) = true then ((at? p1.data.toList y16).bind fun x40 => (ref01_more k (x40.toNat : Int)).bind fun r42 => if (!r42) = true then (some (.inr (.inl ()))) else (some (.inl (IntKind.wrap .i64 (y16 + (1 : Int)))))) else (some (.inr (.inr ())))
def ref01_IsName (k : Nat) (p1 : ByteArray) : Option Bool :=
  (iter (fun (s : Int) => ref01_IsName_b0 k p1 s) k (0 : Int)).bind fun x52 => scase x52 (fun x52 => some false) (fun x52 => if (decide ((1 : Int) ≤ (p1.size : Int))) = true then (if (decide ((p1.size : Int) ≤ (16 : Int))) = true then ((at? p1.data.toList (0 : Int)).bind fun x62 => (ref01_letter k (x62.toNat : Int)).bind fun r64 => some r64) else (some false)) else (some false))
theorem ref01_IsName_calls {k : Nat} {p1 : ByteArray} {r : Bool} (h : ref01_IsName k p1 = some r) {w0 : World} {o0 : Own} (hown : Hown o0) :
    Calls Try.prog 74 #[.string p1] w0 (fun e w => ∃ (o74 : Own), e = .returned (.bool r) ∧ Tr (Ls o0 []) w0 o0 w o74) := by
 unfold ref01_IsName at h
 refine startM Try.func74 rfl Try.ntmps74 (show 1 ≤ 28 by decide) fun a M => ?_
 have M : MB 28 [] [(0, .string p1)] a := M
 have T0 : Tr (Ls o0 []) w0 o0 w0 o0 := Tr.refl _ _ _
 refine c_seq <| c_reg <| pn (j := 1) E 1 M rfl rfl fun a M => x_end rfl <| q_then <| c_seq <| c_seq <| c_reg <| pn (j := 1) E 1 M rfl rfl fun a M => x_end rfl <| q_then <| wp_block ?_
 obtain ⟨x52, hx53, h⟩ := bind_some h
 refine loop_iter (S := Int) (X := (Unit ⊕ Unit)) (fun (s : Int) => ref01_IsName_b0 k p1 s) (fun (s : Int) (a : Act) (w : World) => ∃ (o32 : Own), MB 28 [] [(0, .string p1), (3, .int .i64 s)] a ∧ Tr (Ls o0 []) w0 o0 w o32) (fun (x : (Unit ⊕ Unit)) (e : Exit) (a : Act) (w : World) => (match x with | .inl x => (e = .ret ∧ ∃ (o33 : Own), MB 28 [] [(2, .bool false)] a ∧ Tr (Ls o0 []) w0 o0 w o33) | .inr x => (e = .exit 0 ∧ ∃ (o34 : Own), MB 28 [] [(0, .string p1)] a ∧ Tr (Ls o0 []) w0 o0 w o34))) ?_ hx53 ⟨o0, (M.pk [2, 0] rfl), T0⟩ ?_
 ·rintro y16 a w35 r36 hI37 h
  replace h : ref01_IsName_b0 k p1 y16 = some r36 := h
  unfold ref01_IsName_b0 at h
  obtain ⟨o38, M, T39⟩ := hI37
  refine c_seq <| c_seq <| c_reg <| pn (j := 4) E 4 M rfl rfl fun a M => x_end rfl <| q_then ?_
  by_cases hk10 : (decide (y16 < (p1.size : Int))) = true
  ·rw [if_pos hk10] at h
   have M := M.k 7 rfl hk10
   refine c_true (M.e 0 rfl) <| wp_skip <| q_then <| c_seq <| wp_block <| c_seq <| c_reg <| pn (j := 2) E 2 M rfl rfl fun a M => ?_
   obtain ⟨x40, hx41, h⟩ := bind_some h
   obtain ⟨hx410, hx411, hx412⟩ := at_some hx41
   refine ov rfl rfl M (x_index Try.underlying9 (M.e 1 rfl) (M.e 0 rfl) hx410 hx411) fun a M => ?_
   obtain ⟨r42, hr43, h⟩ := bind_some h
   refine oc rfl (wp0 rfl) rfl rfl M (x_call cf_120 (m1 (M.e 0 rfl))) (ref01_more_calls hr43 (lko_own (T := [(0, 0)]) (o := o38) rfl)) (fun e11 w44 hp45 => ?_)
   obtain ⟨o46, he47, T48⟩ := hp45
   obtain ⟨o49, ho50⟩ := ex (mrg w35 o38 [(0, 0)] o46)
   have t51 := T48.r0 ho50
   refine ⟨_, he47, fun a M => ?_⟩
   refine pn (j := 5) E 1 M rfl rfl fun a M => x_end rfl <| q_then ?_
   by_cases hk12 : (!r42) = true
   ·rw [if_pos hk12] at h
    have M := M.k 14 rfl hk12
    refine c_true (M.e 0 rfl) <| c_seq <| c_reg <| pn (j := 1) E 1 M rfl rfl fun a M => x_end rfl <| q_then <| wp_ret <| q_blk_ret <| q_then_ret ?_
    obtain rfl := sj h
    have u13 := T39.kn t51
    exact lq_ret ⟨rfl, ⟨o49, (M.pk [0] rfl), u13⟩⟩
   rw [if_neg hk12] at h
   have hk12 := nott hk12
   have M := M.k 14 rfl hk12
   refine c_false (M.e 0 rfl) <| wp_skip <| q_blk <| q_then <| c_reg <| pn (j := 2) E 2 M rfl rfl fun a M => ?_
   have M := M.pk [0, 1, 11] rfl
   refine pn (j := 3) E 1 M rfl rfl fun a M => x_end rfl ?_
   obtain rfl := sj h
   have u14 := T39.kn t51
   exact lq_next ⟨o49, (M.pk [3, 0] rfl), u14⟩
  rw [if_neg hk10] at h
  have hk10 := nott hk10
  have M := M.k 7 rfl hk10
  refine c_false (M.e 0 rfl) <| wp_exit <| q_then_exit ?_
  obtain rfl := sj h
  exact lq_exit ⟨rfl, ⟨o38, (M.pk [4] rfl), T39⟩⟩
 intro e15 a w54 hO55
 rcases x52 with x52 | x52
 ·rw [scase_l] at h
  obtain ⟨he56, hO55⟩ := hO55
  subst he56
  obtain ⟨o57, M, T58⟩ := hO55
  refine q_blk_ret <| q_then_ret ?_
  obtain rfl := sj h
  exact ⟨M.f.defers, _, (res1 Try.results74 (rv_tmp (M.t 0 rfl))), ⟨o57, rfl, T58⟩⟩
 rw [scase_r] at h
 obtain ⟨he59, hO55⟩ := hO55
 subst he59
 obtain ⟨o60, M, T61⟩ := hO55
 refine q_blk_here <| q_then <| c_seq <| c_reg <| pn (j := 4) E 4 M rfl rfl fun a M => ?_
 by_cases hk16 : (decide ((1 : Int) ≤ (p1.size : Int))) = true
 ·rw [if_pos hk16] at h
  have M := M.k 18 rfl hk16
  refine pn (j := 9) E 5 M rfl rfl fun a M => ?_
  by_cases hk17 : (decide ((p1.size : Int) ≤ (16 : Int))) = true
  ·rw [if_pos hk17] at h
   have M := M.k 23 rfl hk17
   refine pn (j := 10) E 1 M rfl rfl fun a M => ?_
   obtain ⟨x62, hx63, h⟩ := bind_some h
   obtain ⟨hx630, hx631, hx632⟩ := at_some hx63
   refine ow rfl (wanted_yes rfl rfl (M.t 1 rfl)) rfl rfl M (x_index Try.underlying9 (M.e 0 rfl) (e_const (v := .int .i64 (0 : Int))) hx630 hx631) fun a M => ?_
   obtain ⟨r64, hr65, h⟩ := bind_some h
   refine oc rfl (wanted_yes rfl rfl (M.t 2 rfl)) rfl rfl M (x_call cf_121 (m1 (M.e 0 rfl))) (ref01_letter_calls hr65 (lko_own (T := [(0, 0)]) (o := o60) rfl)) (fun e18 w66 hp67 => ?_)
   obtain ⟨o68, he69, T70⟩ := hp67
   obtain ⟨o71, ho72⟩ := ex (mrg w54 o60 [(0, 0)] o68)
   have t73 := T70.r0 ho72
   refine ⟨_, he69, fun a M => ?_⟩
   refine pn (j := 14) E 2 M rfl rfl fun a M => x_end rfl <| q_then <| wp_ret ?_
   have u19 := T61.kn t73
   obtain rfl := sj h
   exact ⟨M.f.defers, _, (res1 Try.results74 (rv_tmp (M.t 0 rfl))), ⟨o71, rfl, u19⟩⟩
  rw [if_neg hk17] at h
  have hk17 := nott hk17
  have M := M.k 23 rfl hk17
  refine pn (j := 14) E 5 M rfl rfl fun a M => x_end rfl <| q_then <| wp_ret ?_
  obtain rfl := sj h
  exact ⟨M.f.defers, _, (res1 Try.results74 (rv_tmp (M.t 0 rfl))), ⟨o60, rfl, T61⟩⟩
 rw [if_neg hk16] at h
 have hk16 := nott hk16
 have M := M.k 18 rfl hk16
 refine pn (j := 14) E 10 M rfl rfl fun a M => x_end rfl <| q_then <| wp_ret ?_
 obtain rfl := sj h
 exact ⟨M.f.defers, _, (res1 Try.results74 (rv_tmp (M.t 0 rfl))), ⟨o60, rfl, T61⟩⟩
end Go.Proofs.Ythilemcdhkfhlaa
namespace Go.Proofs.Ythilemcdhkfhlaa
open Go Go.RowKit Go.Gc Go.Proofs
def ref01_IsTerm_b0 (k : Nat) (p1 : ByteArray) (y10 : Int) : Option (Int ⊕ (Unit ⊕ Unit)) :=
  if (decide (y10 < (p1.size : Int))) = true then ((at? p1.data.toList y10).bind fun x28 => if (decide ((x28.toNat : Int) < (32 : Int))) = true then (some (.inr (.inl ()))) else ((at? p1.data.toList y10).bind fun x30 => if (decide ((126 : Int) < (x30.toNat : Int))) = true then (some (.inr (.inl ()))) else ((at? p1.data.toList y10).bind fun x32 => if ((x32.toNat : Int) == (39 : Int)) = true then (some (.inr (.inl ()))) else (some (.inl (IntKind.wrap .i64 (y10 + (1 : Int)))))))) else (some (.inr (.inr ())))
def ref01_IsTerm (k : Nat) (p1 : ByteArray) : Option Bool :=
  (iter (fun (s : Int) => ref01_IsTerm_b0 k p1 s) k (0 : Int)).bind fun x34 => scase x34 (fun x34 => some false) (fun x34 => if (decide ((1 : Int) ≤ (p1.size : Int))) = true then (some (decide ((p1.size : Int) ≤ (16 : Int)))) else (some false))
theorem ref01_IsTerm_calls {k : Nat} {p1 : ByteArray} {r : Bool} (h : ref01_IsTerm k p1 = some r) {w0 : World} {o0 : Own} (hown : Hown o0) :
    Calls Try.prog 76 #[.string p1] w0 (fun e w => ∃ (o44 : Own), e = .returned (.bool r) ∧ Tr (Ls o0 []) w0 o0 w o44) := by
 unfold ref01_IsTerm at h
 refine startM Try.func76 rfl Try.ntmps76 (show 1 ≤ 34 by decide) fun a M => ?_
 have M : MB 34 [] [(0, .string p1)] a := M
 have T0 : Tr (Ls o0 []) w0 o0 w0 o0 := Tr.refl _ _ _
 refine c_seq <| c_reg <| pn (j := 1) E 1 M rfl rfl fun a M => x_end rfl <| q_then <| c_seq <| c_seq <| c_reg <| pn (j := 1) E 1 M rfl rfl fun a M => x_end rfl <| q_then <| wp_block ?_
 obtain ⟨x34, hx35, h⟩ := bind_some h
 refine loop_iter (S := Int) (X := (Unit ⊕ Unit)) (fun (s : Int) => ref01_IsTerm_b0 k p1 s) (fun (s : Int) (a : Act) (w : World) => ∃ (o20 : Own), MB 34 [] [(0, .string p1), (3, .int .i64 s)] a ∧ Tr (Ls o0 []) w0 o0 w o20) (fun (x : (Unit ⊕ Unit)) (e : Exit) (a : Act) (w : World) => (match x with | .inl x => (e = .ret ∧ ∃ (o21 : Own), MB 34 [] [(2, .bool false)] a ∧ Tr (Ls o0 []) w0 o0 w o21) | .inr x => (e = .exit 0 ∧ ∃ (o22 : Own), MB 34 [] [(0, .string p1)] a ∧ Tr (Ls o0 []) w0 o0 w o22))) ?_ hx35 ⟨o0, (M.pk [2, 0] rfl), T0⟩ ?_
 ·rintro y10 a w23 r24 hI25 h
  replace h : ref01_IsTerm_b0 k p1 y10 = some r24 := h
  unfold ref01_IsTerm_b0 at h
  obtain ⟨o26, M, T27⟩ := hI25
  refine c_seq <| c_seq <| c_reg <| pn (j := 4) E 4 M rfl rfl fun a M => x_end rfl <| q_then ?_
  by_cases hk12 : (decide (y10 < (p1.size : Int))) = true
  ·rw [if_pos hk12] at h
   have M := M.k 7 rfl hk12
   refine c_true (M.e 0 rfl) <| wp_skip <| q_then <| c_seq <| wp_block <| c_seq <| c_reg <| pn (j := 2) E 2 M rfl rfl fun a M => ?_
   obtain ⟨x28, hx29, h⟩ := bind_some h
   obtain ⟨hx290, hx291, hx292⟩ := at_some hx29
   refine ov rfl rfl M (x_index Try.underlying9 (M.e 1 rfl) (M.e 0 rfl) hx290 hx291) fun a M => pn (j := 5) E 2 M rfl rfl fun a M => ?_
   by_cases hk13 : (decide ((x28.toNat : Int) < (32 : Int))) = true
   ·rw [if_pos hk13] at h
    have M := M.k 14 rfl hk13
    refine pn (j := 16) E 11 M rfl rfl fun a M => x_end rfl <| q_then <| c_true (M.e 0 rfl) <| c_seq <| c_reg <| pn (j := 1) E 1 M rfl rfl fun a M => x_end rfl <| q_then <| wp_ret <| q_blk_ret <| q_then_ret ?_
    obtain rfl := sj h
    exact lq_ret ⟨rfl, ⟨o26, (M.pk [0] rfl), T27⟩⟩
   rw [if_neg hk13] at h
   have hk13 := nott hk13
   have M := M.k 14 rfl hk13
   refine pn (j := 7) E 2 M rfl rfl fun a M => ?_
   obtain ⟨x30, hx31, h⟩ := bind_some h
   obtain ⟨hx310, hx311, hx312⟩ := at_some hx31
   refine ow rfl (wanted_yes rfl rfl (M.t 2 rfl)) rfl rfl M (x_index Try.underlying9 (M.e 1 rfl) (M.e 0 rfl) hx310 hx311) fun a M => pn (j := 11) E 3 M rfl rfl fun a M => ?_
   by_cases hk14 : (decide ((126 : Int) < (x30.toNat : Int))) = true
   ·rw [if_pos hk14] at h
    have M := M.k 20 rfl hk14
    refine pn (j := 16) E 5 M rfl rfl fun a M => x_end rfl <| q_then <| c_true (M.e 0 rfl) <| c_seq <| c_reg <| pn (j := 1) E 1 M rfl rfl fun a M => x_end rfl <| q_then <| wp_ret <| q_blk_ret <| q_then_ret ?_
    obtain rfl := sj h
    exact lq_ret ⟨rfl, ⟨o26, (M.pk [0] rfl), T27⟩⟩
   rw [if_neg hk14] at h
   have hk14 := nott hk14
   have M := M.k 20 rfl hk14
   refine pn (j := 13) E 2 M rfl rfl fun a M => ?_
   obtain ⟨x32, hx33, h⟩ := bind_some h
   obtain ⟨hx330, hx331, hx332⟩ := at_some hx33
   refine ow rfl (wanted_yes rfl rfl (M.t 2 rfl)) rfl rfl M (x_index Try.underlying9 (M.e 1 rfl) (M.e 0 rfl) hx330 hx331) fun a M => pn (j := 16) E 2 M rfl rfl fun a M => x_end rfl <| q_then ?_
   by_cases hk15 : ((x32.toNat : Int) == (39 : Int)) = true
   ·rw [if_pos hk15] at h
    have M := M.k 25 rfl hk15
    refine c_true (M.e 0 rfl) <| c_seq <| c_reg <| pn (j := 1) E 1 M rfl rfl fun a M => x_end rfl <| q_then <| wp_ret <| q_blk_ret <| q_then_ret ?_
    obtain rfl := sj h
    exact lq_ret ⟨rfl, ⟨o26, (M.pk [0] rfl), T27⟩⟩
   rw [if_neg hk15] at h
   have hk15 := nott hk15
   have M := M.k 25 rfl hk15
   refine c_false (M.e 0 rfl) <| wp_skip <| q_blk <| q_then <| c_reg <| pn (j := 2) E 2 M rfl rfl fun a M => ?_
   have M := M.pk [0, 1, 3, 4, 5, 6, 9, 10, 11, 12, 22] rfl
   refine pn (j := 3) E 1 M rfl rfl fun a M => x_end rfl ?_
   obtain rfl := sj h
   exact lq_next ⟨o26, (M.pk [11, 0] rfl), T27⟩
  rw [if_neg hk12] at h
  have hk12 := nott hk12
  have M := M.k 7 rfl hk12
  refine c_false (M.e 0 rfl) <| wp_exit <| q_then_exit ?_
  obtain rfl := sj h
  exact lq_exit ⟨rfl, ⟨o26, (M.pk [4] rfl), T27⟩⟩
 intro e16 a w36 hO37
 rcases x34 with x34 | x34
 ·rw [scase_l] at h
  obtain ⟨he38, hO37⟩ := hO37
  subst he38
  obtain ⟨o39, M, T40⟩ := hO37
  refine q_blk_ret <| q_then_ret ?_
  obtain rfl := sj h
  exact ⟨M.f.defers, _, (res1 Try.results76 (rv_tmp (M.t 0 rfl))), ⟨o39, rfl, T40⟩⟩
 rw [scase_r] at h
 obtain ⟨he41, hO37⟩ := hO37
 subst he41
 obtain ⟨o42, M, T43⟩ := hO37
 refine q_blk_here <| q_then <| c_seq <| c_reg <| pn (j := 4) E 4 M rfl rfl fun a M => ?_
 by_cases hk17 : (decide ((1 : Int) ≤ (p1.size : Int))) = true
 ·rw [if_pos hk17] at h
  have M := M.k 29 rfl hk17
  refine pn (j := 9) E 5 M rfl rfl fun a M => x_end rfl <| q_then <| wp_ret ?_
  obtain rfl := sj h
  exact ⟨M.f.defers, _, (res1 Try.results76 (rv_tmp (M.t 0 rfl))), ⟨o42, rfl, T43⟩⟩
 rw [if_neg hk17] at h
 have hk17 := nott hk17
 have M := M.k 29 rfl hk17
 refine pn (j := 9) E 5 M rfl rfl fun a M => x_end rfl <| q_then <| wp_ret ?_
 obtain rfl := sj h
 exact ⟨M.f.defers, _, (res1 Try.results76 (rv_tmp (M.t 0 rfl))), ⟨o42, rfl, T43⟩⟩
end Go.Proofs.Ythilemcdhkfhlaa
namespace Go.Proofs.Ythilemcdhkfhlaa
open Go Go.RowKit Go.Gc Go.Proofs
def ref03_at_b0 (k : Nat) (p1 : List ByteArray) (p5 : ByteArray) (y21 : Int) : Option (Int ⊕ (Int ⊕ Unit)) :=
  if (decide (y21 < (p1.length : Int))) = true then ((at? p1 y21).bind fun x46 => if (seq x46 p5) = true then (some (.inr (.inl y21))) else (some (.inl (IntKind.wrap .i64 (y21 + (1 : Int)))))) else (some (.inr (.inr ())))
def ref03_at (k : Nat) (p1 : List ByteArray) (p5 : ByteArray) : Option Int :=
  (iter (fun (s : Int) => ref03_at_b0 k p1 p5 s) k (0 : Int)).bind fun x56 => scase x56 (fun x56 => some x56) (fun x56 => some (-1 : Int))
theorem ref03_at_calls {k : Nat} {p1 : List ByteArray} {v2 : Value} {p5 : ByteArray} {r : Int} (h : ref03_at k p1 p5 = some r) {w0 : World} {o0 : Own} (hown : Hown o0)
    (i4 : ((tSlice 9 tStr (by decide))).im w0 (L o0 0) p1 [v2]) :
    Calls Try.prog 75 #[v2, .string p5] w0 (fun e w => ∃ (o66 : Own), e = .returned (.int .i64 r) ∧ Tr (Ls o0 []) w0 o0 w o66) := by
 unfold ref03_at at h
 refine startM Try.func75 rfl Try.ntmps75 (show 2 ≤ 19 by decide) fun a M => ?_
 have M : MB 19 [] [(0, v2), (1, .string p5)] a := M
 obtain ⟨A6, c7, hzc7, -⟩ := im_form i4
 subst hzc7
 have T0 : Tr (Ls o0 []) w0 o0 w0 o0 := Tr.refl _ _ _
 refine c_seq <| c_reg <| pn (j := 1) E 1 M rfl rfl fun a M => x_end rfl <| q_then <| c_seq <| c_seq <| c_reg <| pn (j := 1) E 1 M rfl rfl fun a M => x_end rfl <| q_then <| wp_block ?_
 obtain ⟨x56, hx57, h⟩ := bind_some h
 refine loop_iter (S := Int) (X := (Int ⊕ Unit)) (fun (s : Int) => ref03_at_b0 k p1 p5 s) (fun (s : Int) (a : Act) (w : World) => ∃ (o37 : Own), MB 19 [] [(0, .slice A6 p1.length c7), (1, .string p5), (5, .int .i64 s)] a ∧ ((tSlice 9 tStr (by decide))).im w (L o37 0) p1 [.slice A6 p1.length c7] ∧ Tr (Ls o0 []) w0 o0 w o37) (fun (x : (Int ⊕ Unit)) (e : Exit) (a : Act) (w : World) => (match x with | .inl x => (e = .ret ∧ ∃ (o38 : Own), MB 19 [] [(4, .int .i64 x)] a ∧ Tr (Ls o0 []) w0 o0 w o38) | .inr x => (e = .exit 0 ∧ ∃ (o39 : Own), MB 19 [] [] a ∧ Tr (Ls o0 []) w0 o0 w o39))) ?_ hx57 ⟨o0, (M.pk [2, 3, 0] rfl), i4, T0⟩ ?_
 ·rintro y21 a w40 r41 hI42 h
  replace h : ref03_at_b0 k p1 p5 y21 = some r41 := h
  unfold ref03_at_b0 at h
  obtain ⟨o43, M, i44, T45⟩ := hI42
  refine c_seq <| c_seq <| c_reg <| pn (j := 4) E 4 M rfl rfl fun a M => x_end rfl <| q_then ?_
  by_cases hk5 : (decide (y21 < (p1.length : Int))) = true
  ·rw [if_pos hk5] at h
   have M := M.k 9 rfl hk5
   refine c_true (M.e 0 rfl) <| wp_skip <| q_then <| c_seq <| wp_block <| c_seq <| c_reg <| pn (j := 2) E 2 M rfl rfl fun a M => ?_
   obtain ⟨x46, hx47, h⟩ := bind_some h
   obtain ⟨hx470, hx471, hx472⟩ := at_some hx47
   obtain ⟨g48, f49, c50, ds51, hv52, hd53, he54⟩ := im_elem i44 hx471
   have hsds51 : ds51 = [.string x46] := hd53
   subst hsds51
   have he54 : ElemAt w40 o43 0 g48 f49 (y21).toNat 1 [.string x46] := he54
   refine ov rfl rfl M (x_indexAddr Try.underlying22 sz_9 ((M.e 1 rfl).trans hv52) (M.e 0 rfl) hx470 hx472) fun a M => ov rfl rfl M (x_load ld_9 (M.e 0 rfl) (he54.2 0 _ rfl)) fun a M => pn (j := 5) E 1 M rfl rfl fun a M => ov rfl rfl M (x_seq (M.e 1 rfl) (M.e 0 rfl)) fun a M => x_end rfl <| q_then ?_
   by_cases hk6 : (seq x46 p5) = true
   ·rw [if_pos hk6] at h
    have M := M.k 17 rfl hk6
    refine c_true (M.e 0 rfl) <| c_seq <| c_reg <| pn (j := 2) E 2 M rfl rfl fun a M => x_end rfl <| q_then <| wp_ret <| q_blk_ret <| q_then_ret ?_
    obtain rfl := sj h
    exact lq_ret ⟨rfl, ⟨o43, (M.pk [0] rfl), T45⟩⟩
   rw [if_neg hk6] at h
   have hk6 := nott hk6
   have M := M.k 17 rfl hk6
   refine c_false (M.e 0 rfl) <| wp_skip <| q_blk <| q_then <| c_reg <| pn (j := 2) E 2 M rfl rfl fun a M => ?_
   have M := M.pk [0, 1, 12, 13] rfl
   refine pn (j := 3) E 1 M rfl rfl fun a M => x_end rfl ?_
   obtain rfl := sj h
   exact lq_next ⟨o43, (M.pk [3, 4, 0] rfl), i44, T45⟩
  rw [if_neg hk5] at h
  have hk5 := nott hk5
  have M := M.k 9 rfl hk5
  refine c_false (M.e 0 rfl) <| wp_exit <| q_then_exit ?_
  obtain rfl := sj h
  exact lq_exit ⟨rfl, ⟨o43, (M.pk [] rfl), T45⟩⟩
 intro e7 a w58 hO59
 rcases x56 with x56 | x56
 ·rw [scase_l] at h
  obtain ⟨he60, hO59⟩ := hO59
  subst he60
  obtain ⟨o61, M, T62⟩ := hO59
  refine q_blk_ret <| q_then_ret ?_
  obtain rfl := sj h
  exact ⟨M.f.defers, _, (res1 Try.results75 (rv_tmp (M.t 0 rfl))), ⟨o61, rfl, T62⟩⟩
 rw [scase_r] at h
 obtain ⟨he63, hO59⟩ := hO59
 subst he63
 obtain ⟨o64, M, T65⟩ := hO59
 refine q_blk_here <| q_then <| c_seq <| c_reg <| pn (j := 1) E 1 M rfl rfl fun a M => x_end rfl <| q_then <| wp_ret ?_
 obtain rfl := sj h
 exact ⟨M.f.defers, _, (res1 Try.results75 (rv_tmp (M.t 0 rfl))), ⟨o64, rfl, T65⟩⟩
end Go.Proofs.Ythilemcdhkfhlaa
namespace Go.Proofs.Ythilemcdhkfhlaa
open Go Go.RowKit Go.Gc Go.Proofs
def ref03_has_b1 (k : Nat) (p1 : List Rule) (p5 : Rule) (y255 : Int) (y629 : Bool) (y630 : Int) : Option ((Bool × Int) ⊕ Bool) :=
  if (decide (y630 < (p5.right.length : Int))) = true then (if y629 = true then ((at? p1 y255).bind fun x688 => (at? x688.right y630).bind fun x702 => (at? p5.right y630).bind fun x712 => some (.inl (x702 == x712, IntKind.wrap .i64 (y630 + (1 : Int))))) else (some (.inr y629))) else (some (.inr y629))
def ref03_has_b0 (k : Nat) (p1 : List Rule) (p5 : Rule) (y255 : Int) : Option (Int ⊕ (Unit ⊕ Unit)) :=
  if (decide (y255 < (p1.length : Int))) = true then (((at? p1 y255).bind fun x544 => if (x544.left == p5.left) = true then ((at? p1 y255).bind fun x558 => some ((x558.right.length : Int) == (p5.right.length : Int))) else (some false)).bind fun x541 => (iter (fun (s : (Bool × Int)) => ref03_has_b1 k p1 p5 y255 s.1 s.2) k (x541, (0 : Int))).bind fun x725 => if x725 = true then (some (.inr (.inl ()))) else (some (.inl (IntKind.wrap .i64 (y255 + (1 : Int)))))) else (some (.inr (.inr ())))
def ref03_has (k : Nat) (p1 : List Rule) (p5 : Rule) : Option Bool :=
  (iter (fun (s : Int) => ref03_has_b0 k p1 p5 s) k (0 : Int)).bind fun x735 => scase x735 (fun x735 => some true) (fun x735 => some false)
theorem ref03_has_calls {k : Nat} {p1 : List Rule} {v2 : Value} {p5 : Rule} {v6 : Value} {r : Bool} (h : ref03_has k p1 p5 = some r) {w0 : World} {o0 : Own} (hown : Hown o0)
    (i4 : ((tSlice 28 tyRule (by decide))).im w0 (L o0 0) p1 [v2])
    (i8 : ((tSlice 3 (tInt .i64) (by decide))).im w0 (L o0 0) p5.right [v6]) :
    Calls Try.prog 77 #[v2, .agg #[.int .i64 p5.left, v6]] w0 (fun e w => ∃ (o745 : Own), e = .returned (.bool r) ∧ Tr (Ls o0 []) w0 o0 w o745) := by
 unfold ref03_has at h
 refine startM Try.func77 rfl Try.ntmps77 (show 2 ≤ 59 by decide) fun a M => ?_
 have M : MB 59 [] [(0, v2), (1, .agg #[.int .i64 p5.left, v6])] a := M
 obtain ⟨A9, c10, hzc10, -⟩ := im_form i4
 subst hzc10
 obtain ⟨A11, c12, hzc12, -⟩ := im_form i8
 subst hzc12
 have T0 : Tr (Ls o0 []) w0 o0 w0 o0 := Tr.refl _ _ _
 refine c_seq <| c_reg ?_
 obtain ⟨g13, w14, o15, r16, b17, t18⟩ := b_box (P := Try.prog) (T := 28) (M.e 1 rfl) w0 o0 100
 refine ov rfl rfl M (r16 _ _ _ _ _) fun a M => pn (j := 2) E 1 M rfl rfl fun a M => x_end rfl <| q_then <| c_seq <| c_seq <| c_reg <| pn (j := 1) E 1 M rfl rfl fun a M => x_end rfl <| q_then <| wp_block ?_
 have u55 := T0.kn t18
 obtain ⟨x735, hx736, h⟩ := bind_some h
 refine loop_iter (S := Int) (X := (Unit ⊕ Unit)) (fun (s : Int) => ref03_has_b0 k p1 p5 s) (fun (s : Int) (a : Act) (w : World) => ∃ (o493 : Own), MB 59 [] [(0, .slice A9 p1.length c10), (3, .pointer (some ⟨g13, 0, none⟩)), (5, .int .i64 s)] a ∧ Box w o493 100 g13 28 #[.int .i64 p5.left, .slice A11 p5.right.length c12] ∧ ((tSlice 28 tyRule (by decide))).im w (L o493 0) p1 [.slice A9 p1.length c10] ∧ ((tSlice 3 (tInt .i64) (by decide))).im w (L o493 0) p5.right [.slice A11 p5.right.length c12] ∧ Tr (Ls o0 []) w0 o0 w o493) (fun (x : (Unit ⊕ Unit)) (e : Exit) (a : Act) (w : World) => (match x with | .inl x => (e = .ret ∧ ∃ (o494 : Own), MB 59 [] [(4, .bool true)] a ∧ Tr (Ls o0 []) w0 o0 w o494) | .inr x => (e = .exit 0 ∧ ∃ (o495 : Own), MB 59 [] [] a ∧ Tr (Ls o0 []) w0 o0 w o495))) ?_ hx736 ⟨o15, (M.pk [3, 2, 0] rfl), b17, (iN i4 t18), (iN i8 t18), u55⟩ ?_
 ·rintro y255 a w496 r497 hI498 h
  replace h : ref03_has_b0 k p1 p5 y255 = some r497 := h
  unfold ref03_has_b0 at h
  obtain ⟨o499, M, q500, i501, i502, T503⟩ := hI498
  refine c_seq <| c_seq <| c_reg <| pn (j := 4) E 4 M rfl rfl fun a M => x_end rfl <| q_then ?_
  by_cases hk57 : (decide (y255 < (p1.length : Int))) = true
  ·rw [if_pos hk57] at h
   have M := M.k 11 rfl hk57
   refine c_true (M.e 0 rfl) <| wp_skip <| q_then <| c_seq <| wp_block <| c_seq ?_
   obtain ⟨x541, hx542, h⟩ := bind_some h
   refine cut_c (fun (x : Bool) (e : Exit) (a : Act) (w : World) => (e = .normal ∧ ∃ (o540 : Own), MB 59 [] [(0, .slice A9 p1.length c10), (3, .pointer (some ⟨g13, 0, none⟩)), (5, .int .i64 y255), (6, .bool x)] a ∧ Box w o540 100 g13 28 #[.int .i64 p5.left, .slice A11 p5.right.length c12] ∧ ((tSlice 28 tyRule (by decide))).im w (L o540 0) p1 [.slice A9 p1.length c10] ∧ ((tSlice 3 (tInt .i64) (by decide))).im w (L o540 0) p5.right [.slice A11 p5.right.length c12] ∧ Tr (Ls o0 []) w0 o0 w o540)) x541 ?_ ?_
   ·replace h := hx542
    obtain ⟨x544, hx545, h⟩ := bind_some h
    obtain ⟨hx5450, hx5451, hx5452⟩ := at_some hx545
    obtain ⟨g546, f547, c548, ds549, hv550, hd551, he552⟩ := im_elem i501 hx5451
    obtain ⟨A553, c554, rfl, i555⟩ := Rule_open hd551
    have he552 : ElemAt w496 o499 0 g546 f547 (y255).toNat 2 [.int .i64 x544.left, .slice A553 x544.right.length c554] := he552
    by_cases hk61 : (x544.left == p5.left) = true
    ·rw [if_pos hk61] at h
     obtain ⟨x558, hx559, h⟩ := bind_some h
     obtain ⟨hx5590, hx5591, hx5592⟩ := at_some hx559
     obtain ⟨g560, f561, c562, ds563, hv564, hd565, he566⟩ := im_elem i501 hx5591
     obtain ⟨A567, c568, rfl, i569⟩ := Rule_open hd565
     have he566 : ElemAt w496 o499 0 g560 f561 (y255).toNat 2 [.int .i64 x558.left, .slice A567 x558.right.length c568] := he566
     refine draw_p E mixed [0, 0, 3, 7, 15, 0, 32, 127, 255, 511, 511, 2047, 4095, 8191, 16383, 511, 33279, 98815, 262143, 524287, 1048575] (by kernel_rfl) rfl M [(2, .pointer (some ⟨g546, f547 + (y255).toNat * 2, none⟩)), (4, .int .i64 x544.left), (6, .int .i64 p5.left), (7, .bool true), (11, .pointer (some ⟨g560, f561 + (y255).toNat * 2, none⟩)), (12, .pointer (some ⟨g560, f561 + ((y255).toNat * 2 + 1), none⟩)), (13, .slice A567 x558.right.length c568), (16, .slice A11 p5.right.length c12)] rfl rfl rfl o499 ⟨fun a w o M G r => qv rfl rfl M rfl (x_indexAddr Try.underlying23 sz_28 ((G.e 0 rfl rfl).trans hv550) (G.e 1 rfl rfl) hx5450 hx5452),
   fun a w o M G r => qv rfl rfl M rfl (x_load ld_3 (G.e 3 rfl rfl) ((he552.kn r).2 0 _ rfl)),
   fun a w o M G r => qv rfl rfl M rfl (x_load ld_3 (G.e 5 rfl rfl) ((q500.kn r).cell (n := 0) rfl)),
   ?_,
   fun a w o M G r => qw rfl (wanted_yes rfl rfl (G.t 8 rfl rfl)) rfl rfl M rfl (x_indexAddr Try.underlying23 sz_28 ((G.e 9 rfl rfl).trans hv564) (G.e 10 rfl rfl) hx5590 hx5592),
   fun a w o M G r => qw rfl (wanted_yes rfl rfl (G.t 8 rfl rfl)) rfl rfl M rfl (x_fieldAddr (m := f561 + ((y255).toNat * 2 + 1)) fa_28_1 (G.e 11 rfl rfl) (by omega)),
   fun a w o M G r => qw rfl (wanted_yes rfl rfl (G.t 8 rfl rfl)) rfl rfl M rfl (x_load ld_26 (G.e 12 rfl rfl) ((he566.kn r).2 1 _ rfl)),
   fun a w o M G r => qw rfl (wanted_yes rfl rfl (G.t 8 rfl rfl)) rfl rfl M rfl (x_load ld_26 (G.e 15 rfl rfl) ((q500.kn r).cell (n := 1) rfl)),
   trivial⟩ ?_
     ·intro a w o M G r
      refine dv rfl rfl M (x_eql (G.e 4 rfl rfl) (G.e 6 rfl rfl)) fun a' p => ?_
      exact ⟨o, _, _, rfl, putb p hk61, Tr.refl _ _ _⟩
     intro a w572 o573 M t574
     obtain rfl := sj h
     have u62 := T503.kn t574
     exact ⟨rfl, ⟨o573, (M.pk [25, 26, 27, 20] rfl), (q500.kn t574), (iN i501 t574), (iN i502 t574), u62⟩⟩
    rw [if_neg hk61] at h
    have hk61 := nott hk61
    refine draw_p E mixed [0, 0, 3, 7, 15, 0, 32, 127, 255, 511, 511, 2047, 4095, 8191, 16383, 511, 33279, 98815, 262143, 524287, 1048575] (by kernel_rfl) rfl M [(2, .pointer (some ⟨g546, f547 + (y255).toNat * 2, none⟩)), (4, .int .i64 x544.left), (6, .int .i64 p5.left), (7, .bool false)] rfl rfl rfl o499 ⟨fun a w o M G r => qv rfl rfl M rfl (x_indexAddr Try.underlying23 sz_28 ((G.e 0 rfl rfl).trans hv550) (G.e 1 rfl rfl) hx5450 hx5452),
   fun a w o M G r => qv rfl rfl M rfl (x_load ld_3 (G.e 3 rfl rfl) ((he552.kn r).2 0 _ rfl)),
   fun a w o M G r => qv rfl rfl M rfl (x_load ld_3 (G.e 5 rfl rfl) ((q500.kn r).cell (n := 0) rfl)),
   ?_,
   trivial⟩ ?_
    ·intro a w o M G r
     refine dv rfl rfl M (x_eql (G.e 4 rfl rfl) (G.e 6 rfl rfl)) fun a' p => ?_
     exact ⟨o, _, _, rfl, putb p hk61, Tr.refl _ _ _⟩
    intro a w575 o576 M t577
    obtain rfl := sj h
    have u63 := T503.kn t577
    exact ⟨rfl, ⟨o576, (M.pk [25, 26, 27, 20] rfl), (q500.kn t577), (iN i501 t577), (iN i502 t577), u63⟩⟩
   intro e64 a w578 hO579
   obtain ⟨he580, hO579⟩ := hO579
   subst he580
   obtain ⟨o581, M, q582, i583, i584, T585⟩ := hO579
   refine q_then <| c_seq <| c_seq <| c_reg <| pn (j := 1) E 1 M rfl rfl fun a M => x_end rfl <| q_then <| wp_block ?_
   obtain ⟨x725, hx726, h⟩ := bind_some h
   refine loop_iter (S := (Bool × Int)) (X := Bool) (fun (s : (Bool × Int)) => ref03_has_b1 k p1 p5 y255 s.1 s.2) (fun (s : (Bool × Int)) (a : Act) (w : World) => ∃ (o677 : Own), MB 59 [] [(0, .slice A9 p1.length c10), (3, .pointer (some ⟨g13, 0, none⟩)), (5, .int .i64 y255), (6, .bool s.1), (7, .int .i64 s.2)] a ∧ Box w o677 100 g13 28 #[.int .i64 p5.left, .slice A11 p5.right.length c12] ∧ ((tSlice 28 tyRule (by decide))).im w (L o677 0) p1 [.slice A9 p1.length c10] ∧ ((tSlice 3 (tInt .i64) (by decide))).im w (L o677 0) p5.right [.slice A11 p5.right.length c12] ∧ Tr (Ls o0 []) w0 o0 w o677) (fun (x : Bool) (e : Exit) (a : Act) (w : World) => (e = .exit 2 ∧ ∃ (o678 : Own), MB 59 [] [(0, .slice A9 p1.length c10), (3, .pointer (some ⟨g13, 0, none⟩)), (5, .int .i64 y255), (6, .bool x)] a ∧ Box w o678 100 g13 28 #[.int .i64 p5.left, .slice A11 p5.right.length c12] ∧ ((tSlice 28 tyRule (by decide))).im w (L o678 0) p1 [.slice A9 p1.length c10] ∧ ((tSlice 3 (tInt .i64) (by decide))).im w (L o678 0) p5.right [.slice A11 p5.right.length c12] ∧ Tr (Ls o0 []) w0 o0 w o678)) ?_ hx726 ⟨o581, (M.pk [1, 2, 3, 4, 0] rfl), q582, i583, i584, T585⟩ ?_
   ·rintro ⟨y629, y630⟩ a w679 r680 hI681 h
    replace h : ref03_has_b1 k p1 p5 y255 y629 y630 = some r680 := h
    unfold ref03_has_b1 at h
    obtain ⟨o682, M, q683, i684, i685, T686⟩ := hI681
    refine c_seq <| c_seq <| c_reg <| pn (j := 2) E 2 M rfl rfl fun a M => ov rfl rfl M (x_load ld_26 (M.e 0 rfl) (q683.cell (n := 1) rfl)) fun a M => pn (j := 6) E 3 M rfl rfl fun a M => ?_
    by_cases hk78 : (decide (y630 < (p5.right.length : Int))) = true
    ·rw [if_pos hk78] at h
     have M := M.k 39 rfl hk78
     refine pn (j := 8) E 2 M rfl rfl fun a M => x_end rfl <| q_then ?_
     by_cases hk79 : y629 = true
     ·rw [if_pos hk79] at h
      have M := M.k 41 rfl hk79
      refine c_true (M.e 0 rfl) <| wp_skip <| q_then <| c_seq <| wp_block ?_
      have M := M.pk [1, 8, 9, 10, 12] rfl
      obtain ⟨x688, hx689, h⟩ := bind_some h
      obtain ⟨hx6890, hx6891, hx6892⟩ := at_some hx689
      obtain ⟨g690, f691, c692, ds693, hv694, hd695, he696⟩ := im_elem i684 hx6891
      obtain ⟨A697, c698, rfl, i699⟩ := Rule_open hd695
      have he696 : ElemAt w679 o682 0 g690 f691 (y255).toNat 2 [.int .i64 x688.left, .slice A697 x688.right.length c698] := he696
      obtain ⟨x702, hx703, h⟩ := bind_some h
      obtain ⟨hx7030, hx7031, hx7032⟩ := at_some hx703
      obtain ⟨g704, f705, c706, ds707, hv708, hd709, he710⟩ := im_elem i699 hx7031
      have hsds707 : ds707 = [.int .i64 x702] := hd709
      subst hsds707
      have he710 : ElemAt w679 o682 0 g704 f705 (y630).toNat 1 [.int .i64 x702] := he710
      obtain ⟨x712, hx713, h⟩ := bind_some h
      obtain ⟨hx7130, hx7131, hx7132⟩ := at_some hx713
      obtain ⟨g714, f715, c716, ds717, hv718, hd719, he720⟩ := im_elem i685 hx7131
      have hsds717 : ds717 = [.int .i64 x712] := hd719
      subst hsds717
      have he720 : ElemAt w679 o682 0 g714 f715 (y630).toNat 1 [.int .i64 x712] := he720
      have M := M.k 40 rfl hk79
      refine draw_p E mixed [0, 0, 3, 7, 15, 0, 63, 127, 0, 256, 0, 1792, 3840, 8191, 16383] (by kernel_rfl) rfl M [(2, .pointer (some ⟨g690, f691 + (y255).toNat * 2, none⟩)), (3, .pointer (some ⟨g690, f691 + ((y255).toNat * 2 + 1), none⟩)), (4, .slice A697 x688.right.length c698), (6, .pointer (some ⟨g704, f705 + (y630).toNat * 1, none⟩)), (7, .int .i64 x702), (9, .slice A11 p5.right.length c12), (11, .pointer (some ⟨g714, f715 + (y630).toNat * 1, none⟩)), (12, .int .i64 x712)] rfl rfl rfl o682 ⟨fun a w o M G r => qv rfl rfl M rfl (x_indexAddr Try.underlying23 sz_28 ((G.e 0 rfl rfl).trans hv694) (G.e 1 rfl rfl) hx6890 hx6892),
   fun a w o M G r => qv rfl rfl M rfl (x_fieldAddr (m := f691 + ((y255).toNat * 2 + 1)) fa_28_1 (G.e 2 rfl rfl) (by omega)),
   fun a w o M G r => qv rfl rfl M rfl (x_load ld_26 (G.e 3 rfl rfl) ((he696.kn r).2 1 _ rfl)),
   fun a w o M G r => qv rfl rfl M rfl (x_indexAddr Try.underlying26 sz_3 ((G.e 4 rfl rfl).trans hv708) (G.e 5 rfl rfl) hx7030 hx7032),
   fun a w o M G r => qv rfl rfl M rfl (x_load ld_3 (G.e 6 rfl rfl) ((he710.kn r).2 0 _ rfl)),
   fun a w o M G r => qv rfl rfl M rfl (x_load ld_26 (G.e 8 rfl rfl) ((q683.kn r).cell (n := 1) rfl)),
   fun a w o M G r => qv rfl rfl M rfl (x_indexAddr Try.underlying26 sz_3 ((G.e 9 rfl rfl).trans hv718) (G.e 10 rfl rfl) hx7130 hx7132),
   fun a w o M G r => qv rfl rfl M rfl (x_load ld_3 (G.e 11 rfl rfl) ((he720.kn r).2 0 _ rfl)),
   trivial⟩ ?_
      intro a w722 o723 M t724
      refine q_blk <| q_then <| c_reg <| pn (j := 2) E 2 M rfl rfl fun a M => ?_
      have M := M.pk [0, 1, 16, 17, 18, 19, 20] rfl
      refine pn (j := 3) E 1 M rfl rfl fun a M => x_end rfl ?_
      obtain rfl := sj h
      have u80 := T686.kn t724
      exact lq_next ⟨o723, (M.pk [5, 6, 7, 3, 0] rfl), (q683.kn t724), (iN i684 t724), (iN i685 t724), u80⟩
     rw [if_neg hk79] at h
     have hk79 := nott hk79
     have M := M.k 41 rfl hk79
     refine c_false (M.e 0 rfl) <| wp_exit <| q_then_exit ?_
     obtain rfl := sj h
     exact lq_exit ⟨rfl, ⟨o682, (M.pk [8, 9, 10, 11] rfl), q683, i684, i685, T686⟩⟩
    rw [if_neg hk78] at h
    have hk78 := nott hk78
    have M := M.k 39 rfl hk78
    refine pn (j := 8) E 2 M rfl rfl fun a M => x_end rfl <| q_then <| c_false (M.e 0 rfl) <| wp_exit <| q_then_exit ?_
    obtain rfl := sj h
    exact lq_exit ⟨rfl, ⟨o682, (M.pk [8, 9, 10, 11] rfl), q683, i684, i685, T686⟩⟩
   intro e81 a w727 hO728
   obtain ⟨he729, hO728⟩ := hO728
   subst he729
   obtain ⟨o730, M, q731, i732, i733, T734⟩ := hO728
   refine q_blk_here <| q_then <| c_seq <| c_reg <| pn (j := 1) E 1 M rfl rfl fun a M => x_end rfl <| q_then ?_
   by_cases hk82 : x725 = true
   ·rw [if_pos hk82] at h
    have M := M.k 58 rfl hk82
    refine c_true (M.e 0 rfl) <| c_seq <| c_reg <| pn (j := 1) E 1 M rfl rfl fun a M => x_end rfl <| q_then <| wp_ret <| q_blk_ret <| q_then_ret ?_
    obtain rfl := sj h
    exact lq_ret ⟨rfl, ⟨o730, (M.pk [0] rfl), T734⟩⟩
   rw [if_neg hk82] at h
   have hk82 := nott hk82
   have M := M.k 58 rfl hk82
   refine c_false (M.e 0 rfl) <| wp_skip <| q_blk <| q_then <| c_reg <| pn (j := 2) E 2 M rfl rfl fun a M => ?_
   have M := M.pk [0, 1, 3, 4] rfl
   refine pn (j := 3) E 1 M rfl rfl fun a M => x_end rfl ?_
   obtain rfl := sj h
   exact lq_next ⟨o730, (M.pk [3, 4, 0] rfl), q731, i732, i733, T734⟩
  rw [if_neg hk57] at h
  have hk57 := nott hk57
  have M := M.k 11 rfl hk57
  refine c_false (M.e 0 rfl) <| wp_exit <| q_then_exit ?_
  obtain rfl := sj h
  exact lq_exit ⟨rfl, ⟨o499, (M.pk [] rfl), T503⟩⟩
 intro e83 a w737 hO738
 rcases x735 with x735 | x735
 ·rw [scase_l] at h
  obtain ⟨he739, hO738⟩ := hO738
  subst he739
  obtain ⟨o740, M, T741⟩ := hO738
  refine q_blk_ret <| q_then_ret ?_
  obtain rfl := sj h
  exact ⟨M.f.defers, _, (res1 Try.results77 (rv_tmp (M.t 0 rfl))), ⟨o740, rfl, T741⟩⟩
 rw [scase_r] at h
 obtain ⟨he742, hO738⟩ := hO738
 subst he742
 obtain ⟨o743, M, T744⟩ := hO738
 refine q_blk_here <| q_then <| c_seq <| c_reg <| pn (j := 1) E 1 M rfl rfl fun a M => x_end rfl <| q_then <| wp_ret ?_
 obtain rfl := sj h
 exact ⟨M.f.defers, _, (res1 Try.results77 (rv_tmp (M.t 0 rfl))), ⟨o743, rfl, T744⟩⟩
end Go.Proofs.Ythilemcdhkfhlaa
