/- The law ChartMore returns true for every input, and its arguments read afterwards as before. Part 2 of 6. -/
import Derived.Test.YthilemcdhkfhlaaA1
set_option linter.unusedVariables false
set_option linter.unusedSimpArgs false
set_option maxRecDepth 100000
set_option maxHeartbeats 20000000
namespace Go.Proofs.Ythilemcdhkfhlaa
open Go Go.RowKit Go.Gc Go.Proofs
def chart_Chart_Spans_b2 (k : Nat) (p2 : List ByteArray) (p6 : List ByteArray) (p10 : List Rule) (p14 : Int) (p17 : List Bool) (p20 : List Bool) (p23 : List Int) (p26 : List Part) (c29 : Nat) (p30 : List Part) (y667 : Int) (y1512 : Int) (y1781 : Int) (y1782 : List Span) : Option ((Int × (List Span)) ⊕ (List Span)) :=
  if (decide (y1781 ≤ p14)) = true then ((chart_Chart_Sym k (⟨IntKind.wrap .i64 ((p2.length : Int) + y667), y1512, y1781⟩ : Span) p2 p6 p10 p14 p17 p20 p23 p26 c29 p30).bind fun r1869 => if r1869 = true then (if y1782.length + [(⟨IntKind.wrap .i64 ((p2.length : Int) + y667), y1512, y1781⟩ : Span)].length ≤ 1000000000 then (some (.inl (IntKind.wrap .i64 (y1781 + (1 : Int)), y1782 ++ [(⟨IntKind.wrap .i64 ((p2.length : Int) + y667), y1512, y1781⟩ : Span)]))) else none) else (some (.inl (IntKind.wrap .i64 (y1781 + (1 : Int)), y1782)))) else (some (.inr y1782))
def chart_Chart_Spans_b1 (k : Nat) (p2 : List ByteArray) (p6 : List ByteArray) (p10 : List Rule) (p14 : Int) (p17 : List Bool) (p20 : List Bool) (p23 : List Int) (p26 : List Part) (c29 : Nat) (p30 : List Part) (y667 : Int) (y1512 : Int) (y1513 : List Span) : Option ((Int × (List Span)) ⊕ (List Span)) :=
  if (decide (y1512 < (IntKind.wrap .i64 (p14 + (1 : Int))))) = true then ((iter (fun (s : (Int × (List Span))) => chart_Chart_Spans_b2 k p2 p6 p10 p14 p17 p20 p23 p26 c29 p30 y667 y1512 s.1 s.2) k (y1512, y1513)).bind fun x1894 => some (.inl (IntKind.wrap .i64 (y1512 + (1 : Int)), x1894))) else (some (.inr y1513))
def chart_Chart_Spans_b0 (k : Nat) (p2 : List ByteArray) (p6 : List ByteArray) (p10 : List Rule) (p14 : Int) (p17 : List Bool) (p20 : List Bool) (p23 : List Int) (p26 : List Part) (c29 : Nat) (p30 : List Part) (y667 : Int) (y668 : List Span) : Option ((Int × (List Span)) ⊕ (List Span)) :=
  if (decide (y667 < (p6.length : Int))) = true then ((iter (fun (s : (Int × (List Span))) => chart_Chart_Spans_b1 k p2 p6 p10 p14 p17 p20 p23 p26 c29 p30 y667 s.1 s.2) k ((0 : Int), y668)).bind fun x1913 => some (.inl (IntKind.wrap .i64 (y667 + (1 : Int)), x1913))) else (some (.inr y668))
def chart_Chart_Spans (k : Nat) (p2 : List ByteArray) (p6 : List ByteArray) (p10 : List Rule) (p14 : Int) (p17 : List Bool) (p20 : List Bool) (p23 : List Int) (p26 : List Part) (c29 : Nat) (p30 : List Part) : Option (List Span) :=
  (iter (fun (s : (Int × (List Span))) => chart_Chart_Spans_b0 k p2 p6 p10 p14 p17 p20 p23 p26 c29 p30 s.1 s.2) k ((0 : Int), [])).bind fun x1932 => some x1932
theorem chart_Chart_Spans_calls {k : Nat} {g1 : Nat} {p2 : List ByteArray} {v3 : Value} {p6 : List ByteArray} {v7 : Value} {p10 : List Rule} {v11 : Value} {p14 : Int} {v16 : Value} {p17 : List Bool} {v19 : Value} {p20 : List Bool} {v22 : Value} {p23 : List Int} {v25 : Value} {p26 : List Part} {g28 : Nat} {c29 : Nat} {p30 : List Part} {r : (List Span)} (h : chart_Chart_Spans k p2 p6 p10 p14 p17 p20 p23 p26 c29 p30 = some r) {w0 : World} {o0 : Own} (hown : Hown o0)
    (i5 : ((tSlice 9 tStr (by decide))).im w0 (L o0 0) p2 [v3])
    (i9 : ((tSlice 9 tStr (by decide))).im w0 (L o0 0) p6 [v7])
    (i13 : ((tSlice 28 tyRule (by decide))).im w0 (L o0 0) p10 [v11])
    (q15 : Box w0 o0 1 g1 116 #[v3, v7, v11, .int .i64 p14, v16, v19, v22, v25, .chan (some g28)])
    (q18 : Row tBool 4 w0 o0 2 v16 p17)
    (q21 : Row tBool 4 w0 o0 3 v19 p20)
    (q24 : Row (tInt .i64) 3 w0 o0 4 v22 p23)
    (q27 : Row tyPart 46 w0 o0 5 v25 p26)
    (q31 : Chan w0 o0 6 g28 c29 (p30.map cv_46)) :
    Calls Try.prog 30 #[.pointer (some ⟨g1, 0, none⟩)] w0 (fun e w => ∃ (o1964 : Own) (z1965 : Value), e = .returned (z1965) ∧ Row tySpan 42 w o1964 50 z1965 r ∧ Tr (Ls o0 []) w0 o0 w o1964) := by
 unfold chart_Chart_Spans at h
 refine startM Try.func30 rfl Try.ntmps30 (show 1 ≤ 57 by decide) fun a M => ?_
 have M : MB 57 [] [(0, .pointer (some ⟨g1, 0, none⟩))] a := M
 obtain ⟨A32, c33, hzc33, -⟩ := q18.form
 subst hzc33
 obtain ⟨A34, c35, hzc35, -⟩ := q21.form
 subst hzc35
 obtain ⟨A36, c37, hzc37, -⟩ := q24.form
 subst hzc37
 obtain ⟨A38, c39, hzc39, -⟩ := q27.form
 subst hzc39
 obtain ⟨A40, c41, hzc41, -⟩ := im_form i5
 subst hzc41
 obtain ⟨A42, c43, hzc43, -⟩ := im_form i9
 subst hzc43
 obtain ⟨A44, c45, hzc45, -⟩ := im_form i13
 subst hzc45
 have T0 : Tr (Ls o0 []) w0 o0 w0 o0 := Tr.refl _ _ _
 refine c_seq <| c_reg <| pn (j := 1) E 1 M rfl rfl fun a M => x_end rfl <| q_then <| c_seq <| c_seq <| c_reg <| pn (j := 2) E 2 M rfl rfl fun a M => x_end rfl <| q_then <| c_false (M.e 0 rfl) <| wp_skip <| q_then <| c_seq <| c_reg <| pn (j := 1) E 1 M rfl rfl fun a M => x_end rfl <| q_then <| c_seq <| c_seq <| c_reg <| pn (j := 4) E 4 M rfl rfl fun a M => ov rfl rfl M (x_load ld_22 (M.e 0 rfl) (q15.cell (n := 1) rfl)) fun a M => pn (j := 7) E 2 M rfl rfl fun a M => x_end rfl <| q_then <| wp_block ?_
 obtain ⟨x1932, hx1933, h⟩ := bind_some h
 refine loop_iter (S := (Int × (List Span))) (X := (List Span)) (fun (s : (Int × (List Span))) => chart_Chart_Spans_b0 k p2 p6 p10 p14 p17 p20 p23 p26 c29 p30 s.1 s.2) (fun (s : (Int × (List Span))) (a : Act) (w : World) => ∃ (o1301 : Own) (z669 : Value), MB 57 [] [(0, .pointer (some ⟨g1, 0, none⟩)), (3, z669), (15, .int .i64 (p6.length : Int)), (16, .int .i64 s.1)] a ∧ Box w o1301 1 g1 116 #[.slice A40 p2.length c41, .slice A42 p6.length c43, .slice A44 p10.length c45, .int .i64 p14, .slice A32 p17.length c33, .slice A34 p20.length c35, .slice A36 p23.length c37, .slice A38 p26.length c39, .chan (some g28)] ∧ Row tySpan 42 w o1301 102 z669 s.2 ∧ Row tBool 4 w o1301 2 (.slice A32 p17.length c33) p17 ∧ Row tBool 4 w o1301 3 (.slice A34 p20.length c35) p20 ∧ Row (tInt .i64) 3 w o1301 4 (.slice A36 p23.length c37) p23 ∧ Row tyPart 46 w o1301 5 (.slice A38 p26.length c39) p26 ∧ Chan w o1301 6 g28 c29 (p30.map cv_46) ∧ ((tSlice 9 tStr (by decide))).im w (L o1301 0) p2 [.slice A40 p2.length c41] ∧ ((tSlice 9 tStr (by decide))).im w (L o1301 0) p6 [.slice A42 p6.length c43] ∧ ((tSlice 28 tyRule (by decide))).im w (L o1301 0) p10 [.slice A44 p10.length c45] ∧ Tr (Ls o0 []) w0 o0 w o1301) (fun (x : (List Span)) (e : Exit) (a : Act) (w : World) => (e = .exit 0 ∧ ∃ (o1302 : Own) (z1300 : Value), MB 57 [] [(3, z1300)] a ∧ Row tySpan 42 w o1302 102 z1300 x ∧ Box w o1302 1 g1 116 #[.slice A40 p2.length c41, .slice A42 p6.length c43, .slice A44 p10.length c45, .int .i64 p14, .slice A32 p17.length c33, .slice A34 p20.length c35, .slice A36 p23.length c37, .slice A38 p26.length c39, .chan (some g28)] ∧ Row tBool 4 w o1302 2 (.slice A32 p17.length c33) p17 ∧ Row tBool 4 w o1302 3 (.slice A34 p20.length c35) p20 ∧ Row (tInt .i64) 3 w o1302 4 (.slice A36 p23.length c37) p23 ∧ Row tyPart 46 w o1302 5 (.slice A38 p26.length c39) p26 ∧ Chan w o1302 6 g28 c29 (p30.map cv_46) ∧ ((tSlice 9 tStr (by decide))).im w (L o1302 0) p2 [.slice A40 p2.length c41] ∧ ((tSlice 9 tStr (by decide))).im w (L o1302 0) p6 [.slice A42 p6.length c43] ∧ ((tSlice 28 tyRule (by decide))).im w (L o1302 0) p10 [.slice A44 p10.length c45] ∧ Tr (Ls o0 []) w0 o0 w o1302)) ?_ hx1933 ⟨o0, (.slice none 0 0), (M.pk [11, 7, 1, 0] rfl), q15, (Row.nil tySpan 42 w0 o0 102), q18, q21, q24, q27, q31, i5, i9, i13, T0⟩ ?_
 ·rintro ⟨y667, y668⟩ a w1303 r1304 hI1305 h
  replace h : chart_Chart_Spans_b0 k p2 p6 p10 p14 p17 p20 p23 p26 c29 p30 y667 y668 = some r1304 := h
  unfold chart_Chart_Spans_b0 at h
  obtain ⟨o1306, z669, M, q1307, q1308, q1309, q1310, q1311, q1312, q1313, i1314, i1315, i1316, T1317⟩ := hI1305
  obtain ⟨A1318, c1319, hzc1319, -⟩ := q1308.form
  subst hzc1319
  refine c_seq <| c_reg <| pn (j := 1) E 1 M rfl rfl fun a M => x_end rfl <| q_then <| c_seq ?_
  by_cases hk241 : (decide (y667 < (p6.length : Int))) = true
  ·rw [if_pos hk241] at h
   have M := M.k 17 rfl hk241
   refine c_true (M.e 0 rfl) <| wp_skip <| q_then <| c_seq <| wp_block <| c_seq <| c_reg <| pn (j := 2) E 2 M rfl rfl fun a M => x_end rfl <| q_then <| c_seq <| c_reg <| pn (j := 3) E 3 M rfl rfl fun a M => ov rfl rfl M (x_load ld_3 (M.e 0 rfl) (q1307.cell (n := 3) rfl)) fun a M => pn (j := 6) E 2 M rfl rfl fun a M => x_end rfl <| q_then <| wp_block ?_
   obtain ⟨x1913, hx1914, h⟩ := bind_some h
   refine loop_iter (S := (Int × (List Span))) (X := (List Span)) (fun (s : (Int × (List Span))) => chart_Chart_Spans_b1 k p2 p6 p10 p14 p17 p20 p23 p26 c29 p30 y667 s.1 s.2) (fun (s : (Int × (List Span))) (a : Act) (w : World) => ∃ (o1714 : Own) (z1514 : Value), MB 57 [] [(0, .pointer (some ⟨g1, 0, none⟩)), (3, z1514), (4, .int .i64 y667), (15, .int .i64 (p6.length : Int)), (16, .int .i64 y667), (23, .int .i64 (IntKind.wrap .i64 (p14 + (1 : Int)))), (24, .int .i64 s.1)] a ∧ Box w o1714 1 g1 116 #[.slice A40 p2.length c41, .slice A42 p6.length c43, .slice A44 p10.length c45, .int .i64 p14, .slice A32 p17.length c33, .slice A34 p20.length c35, .slice A36 p23.length c37, .slice A38 p26.length c39, .chan (some g28)] ∧ Row tySpan 42 w o1714 102 z1514 s.2 ∧ Row tBool 4 w o1714 2 (.slice A32 p17.length c33) p17 ∧ Row tBool 4 w o1714 3 (.slice A34 p20.length c35) p20 ∧ Row (tInt .i64) 3 w o1714 4 (.slice A36 p23.length c37) p23 ∧ Row tyPart 46 w o1714 5 (.slice A38 p26.length c39) p26 ∧ Chan w o1714 6 g28 c29 (p30.map cv_46) ∧ ((tSlice 9 tStr (by decide))).im w (L o1714 0) p2 [.slice A40 p2.length c41] ∧ ((tSlice 9 tStr (by decide))).im w (L o1714 0) p6 [.slice A42 p6.length c43] ∧ ((tSlice 28 tyRule (by decide))).im w (L o1714 0) p10 [.slice A44 p10.length c45] ∧ Tr (Ls o0 []) w0 o0 w o1714) (fun (x : (List Span)) (e : Exit) (a : Act) (w : World) => (e = .exit 2 ∧ ∃ (o1715 : Own) (z1713 : Value), MB 57 [] [(0, .pointer (some ⟨g1, 0, none⟩)), (3, z1713), (15, .int .i64 (p6.length : Int)), (16, .int .i64 y667)] a ∧ Box w o1715 1 g1 116 #[.slice A40 p2.length c41, .slice A42 p6.length c43, .slice A44 p10.length c45, .int .i64 p14, .slice A32 p17.length c33, .slice A34 p20.length c35, .slice A36 p23.length c37, .slice A38 p26.length c39, .chan (some g28)] ∧ Row tySpan 42 w o1715 102 z1713 x ∧ Row tBool 4 w o1715 2 (.slice A32 p17.length c33) p17 ∧ Row tBool 4 w o1715 3 (.slice A34 p20.length c35) p20 ∧ Row (tInt .i64) 3 w o1715 4 (.slice A36 p23.length c37) p23 ∧ Row tyPart 46 w o1715 5 (.slice A38 p26.length c39) p26 ∧ Chan w o1715 6 g28 c29 (p30.map cv_46) ∧ ((tSlice 9 tStr (by decide))).im w (L o1715 0) p2 [.slice A40 p2.length c41] ∧ ((tSlice 9 tStr (by decide))).im w (L o1715 0) p6 [.slice A42 p6.length c43] ∧ ((tSlice 28 tyRule (by decide))).im w (L o1715 0) p10 [.slice A44 p10.length c45] ∧ Tr (Ls o0 []) w0 o0 w o1715)) ?_ hx1914 ⟨o1306, (.slice A1318 y668.length c1319), (M.pk [9, 10, 6, 11, 12, 1, 0] rfl), q1307, q1308, q1309, q1310, q1311, q1312, q1313, i1314, i1315, i1316, T1317⟩ ?_
   ·rintro ⟨y1512, y1513⟩ a w1716 r1717 hI1718 h
    replace h : chart_Chart_Spans_b1 k p2 p6 p10 p14 p17 p20 p23 p26 c29 p30 y667 y1512 y1513 = some r1717 := h
    unfold chart_Chart_Spans_b1 at h
    obtain ⟨o1719, z1514, M, q1720, q1721, q1722, q1723, q1724, q1725, q1726, i1727, i1728, i1729, T1730⟩ := hI1718
    obtain ⟨A1731, c1732, hzc1732, -⟩ := q1721.form
    subst hzc1732
    refine c_seq <| c_reg <| pn (j := 1) E 1 M rfl rfl fun a M => x_end rfl <| q_then <| c_seq ?_
    by_cases hk321 : (decide (y1512 < (IntKind.wrap .i64 (p14 + (1 : Int))))) = true
    ·rw [if_pos hk321] at h
     have M := M.k 25 rfl hk321
     refine c_true (M.e 0 rfl) <| wp_skip <| q_then <| c_seq <| wp_block <| c_seq <| c_reg <| pn (j := 2) E 2 M rfl rfl fun a M => x_end rfl <| q_then <| c_seq <| c_reg <| pn (j := 2) E 2 M rfl rfl fun a M => x_end rfl <| q_then <| wp_block ?_
     obtain ⟨x1894, hx1895, h⟩ := bind_some h
     refine loop_iter (S := (Int × (List Span))) (X := (List Span)) (fun (s : (Int × (List Span))) => chart_Chart_Spans_b2 k p2 p6 p10 p14 p17 p20 p23 p26 c29 p30 y667 y1512 s.1 s.2) (fun (s : (Int × (List Span))) (a : Act) (w : World) => ∃ (o1839 : Own) (z1783 : Value), MB 57 [] [(0, .pointer (some ⟨g1, 0, none⟩)), (3, z1783), (4, .int .i64 y667), (5, .int .i64 y1512), (6, .int .i64 s.1), (15, .int .i64 (p6.length : Int)), (16, .int .i64 y667), (23, .int .i64 (IntKind.wrap .i64 (p14 + (1 : Int)))), (24, .int .i64 y1512)] a ∧ Box w o1839 1 g1 116 #[.slice A40 p2.length c41, .slice A42 p6.length c43, .slice A44 p10.length c45, .int .i64 p14, .slice A32 p17.length c33, .slice A34 p20.length c35, .slice A36 p23.length c37, .slice A38 p26.length c39, .chan (some g28)] ∧ Row tySpan 42 w o1839 102 z1783 s.2 ∧ Row tBool 4 w o1839 2 (.slice A32 p17.length c33) p17 ∧ Row tBool 4 w o1839 3 (.slice A34 p20.length c35) p20 ∧ Row (tInt .i64) 3 w o1839 4 (.slice A36 p23.length c37) p23 ∧ Row tyPart 46 w o1839 5 (.slice A38 p26.length c39) p26 ∧ Chan w o1839 6 g28 c29 (p30.map cv_46) ∧ ((tSlice 9 tStr (by decide))).im w (L o1839 0) p2 [.slice A40 p2.length c41] ∧ ((tSlice 9 tStr (by decide))).im w (L o1839 0) p6 [.slice A42 p6.length c43] ∧ ((tSlice 28 tyRule (by decide))).im w (L o1839 0) p10 [.slice A44 p10.length c45] ∧ Tr (Ls o0 []) w0 o0 w o1839) (fun (x : (List Span)) (e : Exit) (a : Act) (w : World) => (e = .exit 4 ∧ ∃ (o1840 : Own) (z1838 : Value), MB 57 [] [(0, .pointer (some ⟨g1, 0, none⟩)), (3, z1838), (4, .int .i64 y667), (15, .int .i64 (p6.length : Int)), (16, .int .i64 y667), (23, .int .i64 (IntKind.wrap .i64 (p14 + (1 : Int)))), (24, .int .i64 y1512)] a ∧ Box w o1840 1 g1 116 #[.slice A40 p2.length c41, .slice A42 p6.length c43, .slice A44 p10.length c45, .int .i64 p14, .slice A32 p17.length c33, .slice A34 p20.length c35, .slice A36 p23.length c37, .slice A38 p26.length c39, .chan (some g28)] ∧ Row tySpan 42 w o1840 102 z1838 x ∧ Row tBool 4 w o1840 2 (.slice A32 p17.length c33) p17 ∧ Row tBool 4 w o1840 3 (.slice A34 p20.length c35) p20 ∧ Row (tInt .i64) 3 w o1840 4 (.slice A36 p23.length c37) p23 ∧ Row tyPart 46 w o1840 5 (.slice A38 p26.length c39) p26 ∧ Chan w o1840 6 g28 c29 (p30.map cv_46) ∧ ((tSlice 9 tStr (by decide))).im w (L o1840 0) p2 [.slice A40 p2.length c41] ∧ ((tSlice 9 tStr (by decide))).im w (L o1840 0) p6 [.slice A42 p6.length c43] ∧ ((tSlice 28 tyRule (by decide))).im w (L o1840 0) p10 [.slice A44 p10.length c45] ∧ Tr (Ls o0 []) w0 o0 w o1840)) ?_ hx1895 ⟨o1719, (.slice A1731 y1513.length c1732), (M.pk [5, 6, 7, 2, 0, 8, 9, 10, 11] rfl), q1720, q1721, q1722, q1723, q1724, q1725, q1726, i1727, i1728, i1729, T1730⟩ ?_
     ·rintro ⟨y1781, y1782⟩ a w1841 r1842 hI1843 h
      replace h : chart_Chart_Spans_b2 k p2 p6 p10 p14 p17 p20 p23 p26 c29 p30 y667 y1512 y1781 y1782 = some r1842 := h
      unfold chart_Chart_Spans_b2 at h
      obtain ⟨o1844, z1783, M, q1845, q1846, q1847, q1848, q1849, q1850, q1851, i1852, i1853, i1854, T1855⟩ := hI1843
      obtain ⟨A1856, c1857, hzc1857, -⟩ := q1846.form
      subst hzc1857
      refine c_seq <| c_seq <| c_reg <| pn (j := 4) E 4 M rfl rfl fun a M => ov rfl rfl M (x_load ld_3 (M.e 0 rfl) (q1845.cell (n := 3) rfl)) fun a M => pn (j := 6) E 1 M rfl rfl fun a M => x_end rfl <| q_then ?_
      by_cases hk333 : (decide (y1781 ≤ p14)) = true
      ·rw [if_pos hk333] at h
       have M := M.k 33 rfl hk333
       refine c_true (M.e 0 rfl) <| wp_skip <| q_then <| c_seq <| wp_block <| c_seq <| c_reg <| pn (j := 4) E 4 M rfl rfl fun a M => ov rfl rfl M (x_load ld_22 (M.e 0 rfl) (q1845.cell (n := 0) rfl)) fun a M => pn (j := 10) E 5 M rfl rfl fun a M => ?_
       have hb1858 : ∀ w : World, (Instr.build 42 #[(0, .int .i64 (IntKind.wrap .i64 ((p2.length : Int) + y667))), (1, .int .i64 y1512), (2, .int .i64 y1781)]).run Try.prog w = .ok (.agg #[.int .i64 (IntKind.wrap .i64 ((p2.length : Int) + y667)), .int .i64 y1512, .int .i64 y1781]) w := fun w => by go_simp
       refine ov rfl rfl M (x_build (l3 (M.e 2 rfl) (M.e 1 rfl) (M.e 0 rfl)) hb1858) fun a M => ?_
       obtain ⟨g1859, w1860, o1861, r1862, b1863, t1864⟩ := b_alloc zv_42 a w1841 o1844 100
       refine ov rfl rfl M (r1862 _ _ _ _ _) fun a M => ?_
       obtain ⟨w1865, r1866, b1867, t1868⟩ := b_storeN (P := Try.prog) (all' := #[.int .i64 (IntKind.wrap .i64 ((p2.length : Int) + y667)), .int .i64 y1512, .int .i64 y1781]) (.inr trivial) (stn_42 _ rfl) (M.e 0 rfl) (M.e 1 rfl) b1863 (show 3 ≤ 3 by decide) (by simp [Value.oneCell']) rfl
       have b1867 : Box w1865 o1861 100 g1859 42 #[.int .i64 (IntKind.wrap .i64 ((p2.length : Int) + y667)), .int .i64 y1512, .int .i64 y1781] := b1867
       refine os rfl (wp0 rfl) rfl (r1866 _ _ _ _ _) <| x_end rfl <| q_then <| c_seq <| c_reg <| pn (j := 1) E 1 M rfl rfl fun a M => ov rfl rfl M (x_loadN (ldn_42 _ rfl) (M.e 1 rfl) (b1867.sub (cs := #[.int .i64 (IntKind.wrap .i64 ((p2.length : Int) + y667)), .int .i64 y1512, .int .i64 y1781]) 0 rfl)) fun a M => ?_
       obtain ⟨r1869, hr1870, h⟩ := bind_some h
       refine oc rfl (wp0 rfl) rfl rfl M (x_call cf_31 (m2 (M.e 1 rfl) (M.e 0 rfl))) (chart_Chart_Sym_calls hr1870 (lko_own (T := [(0, 0), (1, 1), (2, 2), (3, 3), (4, 4), (5, 5), (6, 6)]) (o := o1861) rfl) (sL (iK (iN i1852 t1864) t1868 rfl) rfl) (sL (iK (iN i1853 t1864) t1868 rfl) rfl) (sL (iK (iN i1854 t1864) t1868 rfl) rfl) (((q1845.kn t1864).kk t1868 rfl).l rfl) (((q1847.kn t1864).kk t1868 rfl rfl).l rfl rfl) (((q1848.kn t1864).kk t1868 rfl rfl).l rfl rfl) (((q1849.kn t1864).kk t1868 rfl rfl).l rfl rfl) (((q1850.kn t1864).kk t1868 rfl rfl).l rfl rfl) (((q1851.kn t1864).kk t1868 rfl).l rfl)) (fun e334 w1871 hp1872 => ?_)
       obtain ⟨o1873, he1874, T1875⟩ := hp1872
       obtain ⟨o1876, ho1877⟩ := ex (mrg w1865 o1861 [(0, 0), (1, 1), (2, 2), (3, 3), (4, 4), (5, 5), (6, 6)] o1873)
       have t1878 := T1875.r0 ho1877
       refine ⟨_, he1874, fun a M => ?_⟩
       refine x_end rfl <| q_then ?_
       by_cases hk335 : r1869 = true
       ·rw [if_pos hk335] at h
        have M := M.k 49 rfl hk335
        refine c_true (M.e 0 rfl) <| c_reg <| pn (j := 1) E 1 M rfl rfl fun a M => ov rfl rfl M (x_loadN (ldn_42 _ rfl) (M.e 4 rfl) ((b1867.kn t1878).sub (cs := #[.int .i64 (IntKind.wrap .i64 ((p2.length : Int) + y667)), .int .i64 y1512, .int .i64 y1781]) 0 rfl)) fun a M => ?_
        have r1881 : (Instr.buildSlice 38 1 #[(0, .agg #[.int .i64 (IntKind.wrap .i64 ((p2.length : Int) + y667)), .int .i64 y1512, .int .i64 y1781])]).run Try.prog w1871 = .ok (.slice (some ⟨w1871.heap.size, 0, none⟩) 1 1) (w1871.alloc (.cells ([.int .i64 (IntKind.wrap .i64 ((p2.length : Int) + y667)), .int .i64 y1512, .int .i64 y1781] : List Value).toArray 42)) := by go_simp
        obtain ⟨b1882, t1883⟩ := Row.lit (E := tySpan) (e := 42) (l := [(⟨IntKind.wrap .i64 ((p2.length : Int) + y667), y1512, y1781⟩ : Span)]) (by decide) w1871 o1876 101 (cs := [.int .i64 (IntKind.wrap .i64 ((p2.length : Int) + y667)), .int .i64 y1512, .int .i64 y1781]) ⟨[.int .i64 (IntKind.wrap .i64 ((p2.length : Int) + y667)), .int .i64 y1512, .int .i64 y1781], _, rfl, (Span_mk w1871 o1876 (⟨IntKind.wrap .i64 ((p2.length : Int) + y667), y1512, y1781⟩ : Span) ), rfl⟩ (by simp)
        generalize hww1879 : w1871.alloc _ = w1879 at r1881 b1882 t1883
        generalize upd o1876 _ 101 = o1880 at b1882 t1883
        generalize hgg1884 : w1871.heap.size = g1884 at r1881 b1882
        clear hww1879 hgg1884
        refine ov rfl rfl M (x_buildSlice (l1 (M.e 0 rfl)) r1881) fun a M => ?_
        obtain ⟨hc1885, h⟩ := ifs h
        have u336 := (((q1846.kn t1864).kk t1868 rfl rfl).kn t1878).kn t1883
        obtain ⟨v1886, w1887, o1888, r1889, b1890, t1891⟩ := run_append el_42 Try.underlying38 38 u336 (by decide) (Src.row b1882) hc1885
        obtain ⟨A1892, c1893, rfl, -⟩ := b1890.form
        refine ov rfl rfl M (x_append (M.e 2 rfl) (M.e 0 rfl) r1889) fun a M => ?_
        have M := M.pk [0, 1, 2, 3, 7, 25, 27, 28, 29, 30, 31, 32, 33] rfl
        refine pn (j := 5) E 1 M rfl rfl fun a M => x_end rfl <| q_blk <| q_then <| c_reg <| pn (j := 2) E 2 M rfl rfl fun a M => ?_
        have M := M.pk [0, 1, 2, 8, 9, 10, 12, 13, 14, 15] rfl
        refine pn (j := 3) E 1 M rfl rfl fun a M => x_end rfl ?_
        obtain rfl := sj h
        have u337 := iK (iN (iN (iK (iN i1852 t1864) t1868 rfl) t1878) t1883) t1891 rfl
        have u338 := iK (iN (iN (iK (iN i1853 t1864) t1868 rfl) t1878) t1883) t1891 rfl
        have u339 := iK (iN (iN (iK (iN i1854 t1864) t1868 rfl) t1878) t1883) t1891 rfl
        have u340 := ((((q1845.kn t1864).kk t1868 rfl).kn t1878).kn t1883).kk t1891 rfl
        have u341 := ((((q1847.kn t1864).kk t1868 rfl rfl).kn t1878).kn t1883).kk t1891 rfl rfl
        have u342 := ((((q1848.kn t1864).kk t1868 rfl rfl).kn t1878).kn t1883).kk t1891 rfl rfl
        have u343 := ((((q1849.kn t1864).kk t1868 rfl rfl).kn t1878).kn t1883).kk t1891 rfl rfl
        have u344 := ((((q1850.kn t1864).kk t1868 rfl rfl).kn t1878).kn t1883).kk t1891 rfl rfl
        have u345 := ((((q1851.kn t1864).kk t1868 rfl).kn t1878).kn t1883).kk t1891 rfl
        have u346 := ((((T1855.kn t1864).kk t1868 hown rfl).kn t1878).kn t1883).kk t1891 hown rfl
        exact lq_next ⟨o1888, (.slice A1892 (y1782 ++ [(⟨IntKind.wrap .i64 ((p2.length : Int) + y667), y1512, y1781⟩ : Span)]).length c1893), (M.pk [4, 3, 5, 6, 0, 7, 8, 9, 10] rfl), u340, b1890, u341, u342, u343, u344, u345, u337, u338, u339, u346⟩
       rw [if_neg hk335] at h
       have hk335 := nott hk335
       have M := M.k 49 rfl hk335
       refine c_false (M.e 0 rfl) <| wp_skip <| q_blk <| q_then <| c_reg <| pn (j := 2) E 2 M rfl rfl fun a M => ?_
       have M := M.pk [0, 1, 23, 24, 25, 26, 28, 29, 30, 31] rfl
       refine pn (j := 3) E 1 M rfl rfl fun a M => x_end rfl ?_
       obtain rfl := sj h
       have u347 := iN (iK (iN i1852 t1864) t1868 rfl) t1878
       have u348 := iN (iK (iN i1853 t1864) t1868 rfl) t1878
       have u349 := iN (iK (iN i1854 t1864) t1868 rfl) t1878
       have u350 := ((q1845.kn t1864).kk t1868 rfl).kn t1878
       have u351 := ((q1846.kn t1864).kk t1868 rfl rfl).kn t1878
       have u352 := ((q1847.kn t1864).kk t1868 rfl rfl).kn t1878
       have u353 := ((q1848.kn t1864).kk t1868 rfl rfl).kn t1878
       have u354 := ((q1849.kn t1864).kk t1868 rfl rfl).kn t1878
       have u355 := ((q1850.kn t1864).kk t1868 rfl rfl).kn t1878
       have u356 := ((q1851.kn t1864).kk t1868 rfl).kn t1878
       have u357 := ((T1855.kn t1864).kk t1868 hown rfl).kn t1878
       exact lq_next ⟨o1876, (.slice A1856 y1782.length c1857), (M.pk [3, 4, 5, 6, 0, 7, 8, 9, 10] rfl), u350, u351, u352, u353, u354, u355, u356, u347, u348, u349, u357⟩
      rw [if_neg hk333] at h
      have hk333 := nott hk333
      have M := M.k 33 rfl hk333
      refine c_false (M.e 0 rfl) <| wp_exit <| q_then_exit ?_
      obtain rfl := sj h
      exact lq_exit ⟨rfl, ⟨o1844, (.slice A1856 y1782.length c1857), (M.pk [6, 7, 8, 11, 12, 13, 14] rfl), q1845, q1846, q1847, q1848, q1849, q1850, q1851, i1852, i1853, i1854, T1855⟩⟩
     intro e358 a w1896 hO1897
     obtain ⟨he1898, hO1897⟩ := hO1897
     subst he1898
     obtain ⟨o1899, z1838, M, q1900, q1901, q1902, q1903, q1904, q1905, q1906, i1907, i1908, i1909, T1910⟩ := hO1897
     obtain ⟨A1911, c1912, hzc1912, -⟩ := q1901.form
     subst hzc1912
     refine q_blk_here <| q_blk <| q_then <| c_reg <| pn (j := 1) E 1 M rfl rfl fun a M => ?_
     have M := M.pk [0, 1, 2, 3, 4, 5, 6] rfl
     refine pn (j := 2) E 1 M rfl rfl fun a M => x_end rfl ?_
     obtain rfl := sj h
     exact lq_next ⟨o1899, (.slice A1911 x1894.length c1912), (M.pk [2, 3, 4, 5, 6, 7, 0] rfl), q1900, q1901, q1902, q1903, q1904, q1905, q1906, i1907, i1908, i1909, T1910⟩
    rw [if_neg hk321] at h
    have hk321 := nott hk321
    have M := M.k 25 rfl hk321
    refine c_false (M.e 0 rfl) <| wp_exit <| q_then_exit ?_
    obtain rfl := sj h
    exact lq_exit ⟨rfl, ⟨o1719, (.slice A1731 y1513.length c1732), (M.pk [1, 2, 4, 5] rfl), q1720, q1721, q1722, q1723, q1724, q1725, q1726, i1727, i1728, i1729, T1730⟩⟩
   intro e359 a w1915 hO1916
   obtain ⟨he1917, hO1916⟩ := hO1916
   subst he1917
   obtain ⟨o1918, z1713, M, q1919, q1920, q1921, q1922, q1923, q1924, q1925, i1926, i1927, i1928, T1929⟩ := hO1916
   obtain ⟨A1930, c1931, hzc1931, -⟩ := q1920.form
   subst hzc1931
   refine q_blk_here <| q_blk <| q_then <| c_reg <| pn (j := 1) E 1 M rfl rfl fun a M => ?_
   have M := M.pk [0, 1, 2, 3] rfl
   refine pn (j := 2) E 1 M rfl rfl fun a M => x_end rfl ?_
   obtain rfl := sj h
   exact lq_next ⟨o1918, (.slice A1930 x1913.length c1931), (M.pk [2, 3, 4, 0] rfl), q1919, q1920, q1921, q1922, q1923, q1924, q1925, i1926, i1927, i1928, T1929⟩
  rw [if_neg hk241] at h
  have hk241 := nott hk241
  have M := M.k 17 rfl hk241
  refine c_false (M.e 0 rfl) <| wp_exit <| q_then_exit ?_
  obtain rfl := sj h
  exact lq_exit ⟨rfl, ⟨o1306, (.slice A1318 y668.length c1319), (M.pk [2] rfl), q1308, q1307, q1309, q1310, q1311, q1312, q1313, i1314, i1315, i1316, T1317⟩⟩
 intro e360 a w1934 hO1935
 obtain ⟨he1936, hO1935⟩ := hO1935
 subst he1936
 obtain ⟨o1937, z1300, M, q1938, q1939, q1940, q1941, q1942, q1943, q1944, i1945, i1946, i1947, T1948⟩ := hO1935
 obtain ⟨A1949, c1950, hzc1950, -⟩ := q1938.form
 subst hzc1950
 refine q_blk_here <| q_then <| c_seq <| c_reg <| pn (j := 2) E 2 M rfl rfl fun a M => x_end rfl <| q_then <| wp_ret ?_
 obtain ⟨o1951, ho1952⟩ := ex (lro [(102, 50)] o1937)
 have T1953 := T1948.kw hown ho1952 rfl
 have i1954 := iW i1945 ho1952 rfl
 have i1955 := iW i1946 ho1952 rfl
 have i1956 := iW i1947 ho1952 rfl
 have q1957 := q1938.kw ho1952 50 rfl rfl
 have q1958 := q1939.kw ho1952 1 rfl
 have q1959 := q1940.kw ho1952 2 rfl rfl
 have q1960 := q1941.kw ho1952 3 rfl rfl
 have q1961 := q1942.kw ho1952 4 rfl rfl
 have q1962 := q1943.kw ho1952 5 rfl rfl
 have q1963 := q1944.kw ho1952 6 rfl
 obtain rfl := sj h
 exact ⟨M.f.defers, _, (res1 Try.results30 (rv_tmp (M.t 0 rfl))), ⟨o1951, (.slice A1949 x1932.length c1950), rfl, q1957, T1953⟩⟩
end Go.Proofs.Ythilemcdhkfhlaa
namespace Go.Proofs.Ythilemcdhkfhlaa
open Go Go.RowKit Go.Gc Go.Proofs
def chart_queue_put (k : Nat) (p1 : Part) (p3 : List ByteArray) (p7 : List ByteArray) (p11 : List Rule) (p15 : Int) (p18 : List Bool) (p21 : List Bool) (p24 : List Int) (p27 : List Part) (c30 : Nat) (p31 : List Part) : Option Unit :=
  if p27.length + [p1].length ≤ 1000000000 then (some ()) else none
theorem chart_queue_put_calls {k : Nat} {p1 : Part} {g2 : Nat} {p3 : List ByteArray} {v4 : Value} {p7 : List ByteArray} {v8 : Value} {p11 : List Rule} {v12 : Value} {p15 : Int} {v17 : Value} {p18 : List Bool} {v20 : Value} {p21 : List Bool} {v23 : Value} {p24 : List Int} {v26 : Value} {p27 : List Part} {g29 : Nat} {c30 : Nat} {p31 : List Part} {r : Unit} (h : chart_queue_put k p1 p3 p7 p11 p15 p18 p21 p24 p27 c30 p31 = some r) {w0 : World} {o0 : Own} (hown : Hown o0)
    (i6 : ((tSlice 9 tStr (by decide))).im w0 (L o0 0) p3 [v4])
    (i10 : ((tSlice 9 tStr (by decide))).im w0 (L o0 0) p7 [v8])
    (i14 : ((tSlice 28 tyRule (by decide))).im w0 (L o0 0) p11 [v12])
    (q16 : Box w0 o0 1 g2 116 #[v4, v8, v12, .int .i64 p15, v17, v20, v23, v26, .chan (some g29)])
    (q19 : Row tBool 4 w0 o0 2 v17 p18)
    (q22 : Row tBool 4 w0 o0 3 v20 p21)
    (q25 : Row (tInt .i64) 3 w0 o0 4 v23 p24)
    (q28 : Row tyPart 46 w0 o0 5 v26 p27)
    (q32 : Chan w0 o0 6 g29 c30 (p31.map cv_46)) :
    Calls Try.prog 134 #[.pointer (some ⟨g2, 7, none⟩), .agg #[.int .i64 p1.rule, .int .i64 p1.dot, .int .i64 p1.i, .int .i64 p1.j]] w0 (fun e w => ∃ (o85 : Own) (z85 : Value) (z87 : Value) (z89 : Value) (z91 : Value) (z92 : Value) (z93 : Value) (z94 : Value), e = .returned (.tuple #[]) ∧ Box w o85 1 g2 116 #[z85, z87, z89, .int .i64 p15, z92, z93, z94, z91, .chan (some g29)] ∧ Row tyPart 46 w o85 5 z91 (p27 ++ [p1]) ∧ Row tBool 4 w o85 2 z92 p18 ∧ Row tBool 4 w o85 3 z93 p21 ∧ Row (tInt .i64) 3 w o85 4 z94 p24 ∧ Chan w o85 6 g29 c30 (p31.map cv_46) ∧ (tSlice 9 tStr (by decide)).im w (L o85 0) p3 [z85] ∧ (tSlice 9 tStr (by decide)).im w (L o85 0) p7 [z87] ∧ (tSlice 28 tyRule (by decide)).im w (L o85 0) p11 [z89] ∧ Tr (Ls o0 [1, 5]) w0 o0 w o85) := by
 unfold chart_queue_put at h
 refine startM Try.func134 rfl Try.ntmps134 (show 2 ≤ 14 by decide) fun a M => ?_
 have M : MB 14 [] [(0, .pointer (some ⟨g2, 7, none⟩)), (1, .agg #[.int .i64 p1.rule, .int .i64 p1.dot, .int .i64 p1.i, .int .i64 p1.j])] a := M
 obtain ⟨A33, c34, hzc34, -⟩ := q19.form
 subst hzc34
 obtain ⟨A35, c36, hzc36, -⟩ := q22.form
 subst hzc36
 obtain ⟨A37, c38, hzc38, -⟩ := q25.form
 subst hzc38
 obtain ⟨A39, c40, hzc40, -⟩ := q28.form
 subst hzc40
 obtain ⟨A41, c42, hzc42, -⟩ := im_form i6
 subst hzc42
 obtain ⟨A43, c44, hzc44, -⟩ := im_form i10
 subst hzc44
 obtain ⟨A45, c46, hzc46, -⟩ := im_form i14
 subst hzc46
 have T0 : Tr (Ls o0 [1, 5]) w0 o0 w0 o0 := Tr.refl _ _ _
 refine c_seq <| c_reg ?_
 obtain ⟨g47, w48, o49, r50, b51, t52⟩ := b_box (P := Try.prog) (T := 46) (M.e 1 rfl) w0 o0 100
 refine ov rfl rfl M (r50 _ _ _ _ _) fun a M => x_end rfl <| q_then ?_
 obtain ⟨hc60, h⟩ := ifs h
 have u1 := T0.kn t52
 refine draw_m mixed [0, 0, 2, 6, 14, 0, 32, 126, 255, 511, 1023] (by kernel_rfl) rfl M (fun U a w => ∃ (o : Own) (g59 : Nat) (A67 : Option Addr) (c68 : Nat), Tab [(0, 4, .pointer (some ⟨g2, 7, none⟩)), (1, 5, .pointer (some ⟨g2, 7, none⟩)), (2, 6, .pointer (some ⟨g2, 7, none⟩)), (3, 7, .pointer (some ⟨g2, 7, none⟩)), (4, 8, .slice A39 p27.length c40), (5, 9, .agg #[.int .i64 p1.rule, .int .i64 p1.dot, .int .i64 p1.i, .int .i64 p1.j]), (8, 12, .pointer (some ⟨g2, 7, none⟩)), (9, 13, .pointer (some ⟨g2, 7, none⟩))] U a ∧ Tab [(6, 10, .slice (some ⟨g59, 0, none⟩) 1 1)] U a ∧ Tab [(7, 11, .slice A67 (p27 ++ [p1]).length c68)] U a ∧ Tr (FL [(7, 5), (10, 1)] o49 U) w48 o49 w o ∧ (U 6 = true → Row tyPart 46 w o 101 (.slice (some ⟨g59, 0, none⟩) 1 1) [p1]) ∧ (U 7 = true → Row tyPart 46 w o 5 (.slice A67 (p27 ++ [p1]).length c68) (p27 ++ [p1])) ∧ (U 10 = true → Box w o 1 g2 116 #[.slice A41 p3.length c42, .slice A43 p7.length c44, .slice A45 p11.length c46, .int .i64 p15, .slice A33 p18.length c34, .slice A35 p21.length c36, .slice A37 p24.length c38, .slice A67 (p27 ++ [p1]).length c68, .chan (some g29)])) ?_ ⟨?_, ?_, ?_, ?_, ?_, ?_, ?_, ?_, ?_, ?_, ?_, trivial⟩ ?_
 ·exact ⟨o49, 0, none, 0, Tab.start, Tab.start, Tab.start, FL.start (tr_drew _ _), fun h => Bool.noConfusion h, fun h => Bool.noConfusion h, fun h => Bool.noConfusion h⟩
 ·intro U a w M hL hA hD hI
  obtain ⟨o, g59, A67, c68, TG0, TG1, TG2, tr, FE0, FE1, FE2⟩ := hI
  refine dv rfl rfl M (x_move (M.e 1 rfl)) fun a' p => ?_
  exact ⟨M.st p rfl, o, g59, A67, c68, (TG0.step p 0 rfl rfl), (TG1.other p rfl), (TG2.other p rfl), (FL.idle tr), FE0, FE1, FE2⟩
 ·intro U a w M hL hA hD hI
  obtain ⟨o, g59, A67, c68, TG0, TG1, TG2, tr, FE0, FE1, FE2⟩ := hI
  refine dv rfl rfl M (x_move (M.e 1 rfl)) fun a' p => ?_
  exact ⟨M.st p rfl, o, g59, A67, c68, (TG0.step p 1 rfl rfl), (TG1.other p rfl), (TG2.other p rfl), (FL.idle tr), FE0, FE1, FE2⟩
 ·intro U a w M hL hA hD hI
  obtain ⟨o, g59, A67, c68, TG0, TG1, TG2, tr, FE0, FE1, FE2⟩ := hI
  refine dv rfl rfl M (x_nilCheck (e_tmp (TG0.get 1 rfl (hA 1 rfl)))) fun a' p => ?_
  exact ⟨M.st p rfl, o, g59, A67, c68, (TG0.step p 2 rfl rfl), (TG1.other p rfl), (TG2.other p rfl), (FL.idle tr), FE0, FE1, FE2⟩
 ·intro U a w M hL hA hD hI
  obtain ⟨o, g59, A67, c68, TG0, TG1, TG2, tr, FE0, FE1, FE2⟩ := hI
  refine dv rfl rfl M (x_fieldAddr fa_114_0 (e_tmp (TG0.get 2 rfl (hA 2 rfl))) rfl) fun a' p => ?_
  exact ⟨M.st p rfl, o, g59, A67, c68, (TG0.step p 3 rfl rfl), (TG1.other p rfl), (TG2.other p rfl), (FL.idle tr), FE0, FE1, FE2⟩
 ·intro U a w M hL hA hD hI
  obtain ⟨o, g59, A67, c68, TG0, TG1, TG2, tr, FE0, FE1, FE2⟩ := hI
  refine dv rfl rfl M (x_load ld_112 (e_tmp (TG0.get 3 rfl (hA 3 rfl))) (((q16.kn t52).keep_ (FL.same tr ⟨fun h => absurd h (ne rfl), ⟨fun _ => (hD 10 rfl), trivial⟩⟩)).cell (n := 7) rfl)) fun a' p => ?_
  exact ⟨M.st p rfl, o, g59, A67, c68, (TG0.step p 4 rfl rfl), (TG1.other p rfl), (TG2.other p rfl), (FL.idle tr), FE0, FE1, FE2⟩
 ·intro U a w M hL hA hD hI
  obtain ⟨o, g59, A67, c68, TG0, TG1, TG2, tr, FE0, FE1, FE2⟩ := hI
  refine dv rfl rfl M (x_loadN (ldn_46 _ rfl) (M.e 0 rfl) ((b51.keep_ (FL.same tr ⟨fun h => absurd h (ne rfl), ⟨fun h => absurd h (ne rfl), trivial⟩⟩)).sub (cs := #[.int .i64 p1.rule, .int .i64 p1.dot, .int .i64 p1.i, .int .i64 p1.j]) 0 rfl)) fun a' p => ?_
  exact ⟨M.st p rfl, o, g59, A67, c68, (TG0.step p 5 rfl rfl), (TG1.other p rfl), (TG2.other p rfl), (FL.idle tr), FE0, FE1, FE2⟩
 ·intro U a w M hL hA hD hI
  obtain ⟨o, g59, A67, c68, TG0, TG1, TG2, tr, FE0, FE1, FE2⟩ := hI
  have r56 : (Instr.buildSlice 112 1 #[(0, .agg #[.int .i64 p1.rule, .int .i64 p1.dot, .int .i64 p1.i, .int .i64 p1.j])]).run Try.prog w = .ok (.slice (some ⟨w.heap.size, 0, none⟩) 1 1) (w.alloc (.cells ([.int .i64 p1.rule, .int .i64 p1.dot, .int .i64 p1.i, .int .i64 p1.j] : List Value).toArray 46)) := by go_simp
  obtain ⟨b57, t58⟩ := Row.lit (E := tyPart) (e := 46) (l := [p1]) (by decide) w o 101 (cs := [.int .i64 p1.rule, .int .i64 p1.dot, .int .i64 p1.i, .int .i64 p1.j]) ⟨[.int .i64 p1.rule, .int .i64 p1.dot, .int .i64 p1.i, .int .i64 p1.j], _, rfl, (Part_mk w o p1 ), rfl⟩ (by simp)
  generalize hww54 : w.alloc _ = w54 at r56 b57 t58
  generalize upd o _ 101 = o55 at b57 t58
  generalize hgg59 : w.heap.size = g59 at r56 b57
  clear hww54 hgg59
  refine dv rfl rfl M (x_buildSlice (l1 (e_tmp (TG0.get 5 rfl (hA 5 rfl)))) r56) fun a' p => ?_
  exact ⟨M.st p rfl, o55, g59, A67, c68, (TG0.other p rfl), (Tab.mk hD p 0 rfl rfl), (TG2.other p rfl), (FL.stepNo tr t58), (fun _ => b57), (fun h => ab (hD 7 rfl) rfl h), (fun h => ab (hD 10 rfl) rfl h)⟩
 ·intro U a w M hL hA hD hI
  obtain ⟨o, g59, A67, c68, TG0, TG1, TG2, tr, FE0, FE1, FE2⟩ := hI
  obtain ⟨v61, w62, o63, r64, b65, t66⟩ := run_append el_46 Try.underlying112 112 ((q28.kn t52).keep_ (FL.same tr ⟨fun _ => hL, ⟨fun h => absurd h (ne rfl), trivial⟩⟩) (FL.same tr ⟨fun h => absurd h (ne rfl), ⟨fun h => absurd h (ne rfl), trivial⟩⟩)) (by decide) (Src.row (FE0 (hA 6 rfl))) hc60
  obtain ⟨A67, c68, rfl, -⟩ := b65.form
  refine dv rfl rfl M (x_append (e_tmp (TG0.get 4 rfl (hA 4 rfl))) (e_tmp (TG1.get 0 rfl (hA 6 rfl))) r64) fun a' p => ?_
  exact ⟨M.st p rfl, o63, g59, A67, c68, (TG0.other p rfl), (TG1.other p rfl), (Tab.mk hD p 0 rfl rfl), (FL.stk tr t66 rfl), (fun h0 => (FE0 h0).keep_ (t66.sameK (ne rfl)) (t66.sameK (ne rfl))), (fun _ => b65), (fun h => ab (hD 10 rfl) rfl h)⟩
 ·intro U a w M hL hA hD hI
  obtain ⟨o, g59, A67, c68, TG0, TG1, TG2, tr, FE0, FE1, FE2⟩ := hI
  refine dv rfl rfl M (x_nilCheck (e_tmp (TG0.get 0 rfl (hA 0 rfl)))) fun a' p => ?_
  exact ⟨M.st p rfl, o, g59, A67, c68, (TG0.step p 6 rfl rfl), (TG1.other p rfl), (TG2.other p rfl), (FL.idle tr), FE0, FE1, FE2⟩
 ·intro U a w M hL hA hD hI
  obtain ⟨o, g59, A67, c68, TG0, TG1, TG2, tr, FE0, FE1, FE2⟩ := hI
  refine dv rfl rfl M (x_fieldAddr fa_114_0 (e_tmp (TG0.get 6 rfl (hA 8 rfl))) rfl) fun a' p => ?_
  exact ⟨M.st p rfl, o, g59, A67, c68, (TG0.step p 7 rfl rfl), (TG1.other p rfl), (TG2.other p rfl), (FL.idle tr), FE0, FE1, FE2⟩
 ·intro U a w M hL hA hD hI
  obtain ⟨o, g59, A67, c68, TG0, TG1, TG2, tr, FE0, FE1, FE2⟩ := hI
  obtain ⟨w69, r70, b71, t72⟩ := b_store (P := Try.prog) st_112 (e_tmp (TG0.get 7 rfl (hA 9 rfl))) (e_tmp (TG2.get 0 rfl (hA 7 rfl))) ((q16.kn t52).keep_ (FL.same tr ⟨fun h => absurd h (ne rfl), ⟨fun _ => hL, trivial⟩⟩)) (show 7 < 9 by decide) rfl rfl
  have b71 : Box w69 o 1 g2 116 #[.slice A41 p3.length c42, .slice A43 p7.length c44, .slice A45 p11.length c46, .int .i64 p15, .slice A33 p18.length c34, .slice A35 p21.length c36, .slice A37 p24.length c38, .slice A67 (p27 ++ [p1]).length c68, .chan (some g29)] := b71
  refine o_skip rfl (wp0 rfl) rfl (r70 _ _ _ _ _) ?_
  exact ⟨M, o, g59, A67, c68, (TG0.idle rfl), (TG1.idle rfl), (TG2.idle rfl), (FL.stk tr t72 rfl), (fun h0 => (FE0 h0).keep_ (t72.sameK (ne rfl)) (t72.sameK (ne rfl))), (fun h0 => (FE1 h0).keep_ (t72.sameK (ne rfl)) (t72.sameK (ne rfl))), (fun _ => b71)⟩
 intro U a w73 M hA hI
 obtain ⟨o74, g59, A67, c68, TG0, TG1, TG2, tr, FE0, FE1, FE2⟩ := hI
 have q75 := (FE2 (hA 10 rfl))
 have q76 := ((q19.kn t52).keep_ (FL.same tr ⟨fun h => absurd h (ne rfl), ⟨fun h => absurd h (ne rfl), trivial⟩⟩) (FL.same tr ⟨fun h => absurd h (ne rfl), ⟨fun h => absurd h (ne rfl), trivial⟩⟩))
 have q77 := ((q22.kn t52).keep_ (FL.same tr ⟨fun h => absurd h (ne rfl), ⟨fun h => absurd h (ne rfl), trivial⟩⟩) (FL.same tr ⟨fun h => absurd h (ne rfl), ⟨fun h => absurd h (ne rfl), trivial⟩⟩))
 have q78 := ((q25.kn t52).keep_ (FL.same tr ⟨fun h => absurd h (ne rfl), ⟨fun h => absurd h (ne rfl), trivial⟩⟩) (FL.same tr ⟨fun h => absurd h (ne rfl), ⟨fun h => absurd h (ne rfl), trivial⟩⟩))
 have q79 := (FE1 (hA 7 rfl))
 have q80 := ((q32.kn t52).keep_ (FL.same tr ⟨fun h => absurd h (ne rfl), ⟨fun h => absurd h (ne rfl), trivial⟩⟩))
 have i81 := (Ty.loc _ (FL.same tr ⟨fun h => absurd h (ne rfl), ⟨fun h => absurd h (ne rfl), trivial⟩⟩) (iN i6 t52))
 have i82 := (Ty.loc _ (FL.same tr ⟨fun h => absurd h (ne rfl), ⟨fun h => absurd h (ne rfl), trivial⟩⟩) (iN i10 t52))
 have i83 := (Ty.loc _ (FL.same tr ⟨fun h => absurd h (ne rfl), ⟨fun h => absurd h (ne rfl), trivial⟩⟩) (iN i14 t52))
 have T84 := Tr.kf u1 tr hown rfl
 clear hA TG0 TG1 TG2 tr FE0 FE1 FE2
 obtain rfl := sj h
 exact ⟨M.f.defers, _, (res0 Try.results134 ), ⟨o74, (.slice A41 p3.length c42), (.slice A43 p7.length c44), (.slice A45 p11.length c46), (.slice A67 (p27 ++ [p1]).length c68), (.slice A33 p18.length c34), (.slice A35 p21.length c36), (.slice A37 p24.length c38), rfl, q75, q79, q76, q77, q78, q80, i81, i82, i83, T84⟩⟩
end Go.Proofs.Ythilemcdhkfhlaa
namespace Go.Proofs.Ythilemcdhkfhlaa
open Go Go.RowKit Go.Gc Go.Proofs
def chart_Chart_part (k : Nat) (p1 : Part) (p3 : List ByteArray) (p7 : List ByteArray) (p11 : List Rule) (p15 : Int) (p18 : List Bool) (p21 : List Bool) (p24 : List Int) (p27 : List Part) (c30 : Nat) (p31 : List Part) : Option ((List Bool) × (List Part)) :=
  (at? p24 p1.rule).bind fun x54 => (chart_Chart_at k (IntKind.wrap .i64 (x54 + p1.dot)) p1.i p1.j p3 p7 p11 p15 p18 p21 p24 p27 c30 p31).bind fun r64 => (at? p21 (IntKind.wrap .i64 ((IntKind.wrap .i64 ((IntKind.wrap .i64 ((IntKind.wrap .i64 ((IntKind.wrap .i64 (x54 + p1.dot)) * (IntKind.wrap .i64 (p15 + (1 : Int))))) + p1.i)) * (IntKind.wrap .i64 (p15 + (1 : Int))))) + p1.j))).bind fun x77 => if (!x77) = true then ((at? p21 (IntKind.wrap .i64 ((IntKind.wrap .i64 ((IntKind.wrap .i64 ((IntKind.wrap .i64 ((IntKind.wrap .i64 (x54 + p1.dot)) * (IntKind.wrap .i64 (p15 + (1 : Int))))) + p1.i)) * (IntKind.wrap .i64 (p15 + (1 : Int))))) + p1.j))).bind fun x87 => (chart_queue_put k p1 p3 p7 p11 p15 p18 (p21.set (IntKind.wrap .i64 ((IntKind.wrap .i64 ((IntKind.wrap .i64 ((IntKind.wrap .i64 ((IntKind.wrap .i64 (x54 + p1.dot)) * (IntKind.wrap .i64 (p15 + (1 : Int))))) + p1.i)) * (IntKind.wrap .i64 (p15 + (1 : Int))))) + p1.j)).toNat true) p24 p27 c30 p31).bind fun r105 => some ((p21.set (IntKind.wrap .i64 ((IntKind.wrap .i64 ((IntKind.wrap .i64 ((IntKind.wrap .i64 ((IntKind.wrap .i64 (x54 + p1.dot)) * (IntKind.wrap .i64 (p15 + (1 : Int))))) + p1.i)) * (IntKind.wrap .i64 (p15 + (1 : Int))))) + p1.j)).toNat true), p27 ++ [p1])) else (some (p21, p27))
theorem chart_Chart_part_calls {k : Nat} {p1 : Part} {g2 : Nat} {p3 : List ByteArray} {v4 : Value} {p7 : List ByteArray} {v8 : Value} {p11 : List Rule} {v12 : Value} {p15 : Int} {v17 : Value} {p18 : List Bool} {v20 : Value} {p21 : List Bool} {v23 : Value} {p24 : List Int} {v26 : Value} {p27 : List Part} {g29 : Nat} {c30 : Nat} {p31 : List Part} {r : ((List Bool) × (List Part))} (h : chart_Chart_part k p1 p3 p7 p11 p15 p18 p21 p24 p27 c30 p31 = some r) {w0 : World} {o0 : Own} (hown : Hown o0)
    (i6 : ((tSlice 9 tStr (by decide))).im w0 (L o0 0) p3 [v4])
    (i10 : ((tSlice 9 tStr (by decide))).im w0 (L o0 0) p7 [v8])
    (i14 : ((tSlice 28 tyRule (by decide))).im w0 (L o0 0) p11 [v12])
    (q16 : Box w0 o0 1 g2 116 #[v4, v8, v12, .int .i64 p15, v17, v20, v23, v26, .chan (some g29)])
    (q19 : Row tBool 4 w0 o0 2 v17 p18)
    (q22 : Row tBool 4 w0 o0 3 v20 p21)
    (q25 : Row (tInt .i64) 3 w0 o0 4 v23 p24)
    (q28 : Row tyPart 46 w0 o0 5 v26 p27)
    (q32 : Chan w0 o0 6 g29 c30 (p31.map cv_46)) :
    Calls Try.prog 82 #[.pointer (some ⟨g2, 0, none⟩), .agg #[.int .i64 p1.rule, .int .i64 p1.dot, .int .i64 p1.i, .int .i64 p1.j]] w0 (fun e w => ∃ (o169 : Own) (z169 : Value) (z171 : Value) (z173 : Value) (z176 : Value) (z178 : Value) (z179 : Value) (z180 : Value), e = .returned (.tuple #[]) ∧ Box w o169 1 g2 116 #[z169, z171, z173, .int .i64 p15, z179, z176, z180, z178, .chan (some g29)] ∧ Row tBool 4 w o169 3 z176 r.1 ∧ Row tyPart 46 w o169 5 z178 r.2 ∧ Row tBool 4 w o169 2 z179 p18 ∧ Row (tInt .i64) 3 w o169 4 z180 p24 ∧ Chan w o169 6 g29 c30 (p31.map cv_46) ∧ (tSlice 9 tStr (by decide)).im w (L o169 0) p3 [z169] ∧ (tSlice 9 tStr (by decide)).im w (L o169 0) p7 [z171] ∧ (tSlice 28 tyRule (by decide)).im w (L o169 0) p11 [z173] ∧ Tr (Ls o0 [1, 3, 5]) w0 o0 w o169) := by
 unfold chart_Chart_part at h
 refine startM Try.func82 rfl Try.ntmps82 (show 2 ≤ 41 by decide) fun a M => ?_
 have M : MB 41 [] [(0, .pointer (some ⟨g2, 0, none⟩)), (1, .agg #[.int .i64 p1.rule, .int .i64 p1.dot, .int .i64 p1.i, .int .i64 p1.j])] a := M
 obtain ⟨A33, c34, hzc34, -⟩ := q19.form
 subst hzc34
 obtain ⟨A35, c36, hzc36, -⟩ := q22.form
 subst hzc36
 obtain ⟨A37, c38, hzc38, -⟩ := q25.form
 subst hzc38
 obtain ⟨A39, c40, hzc40, -⟩ := q28.form
 subst hzc40
 obtain ⟨A41, c42, hzc42, -⟩ := im_form i6
 subst hzc42
 obtain ⟨A43, c44, hzc44, -⟩ := im_form i10
 subst hzc44
 obtain ⟨A45, c46, hzc46, -⟩ := im_form i14
 subst hzc46
 have T0 : Tr (Ls o0 [1, 3, 5]) w0 o0 w0 o0 := Tr.refl _ _ _
 refine c_seq <| c_reg ?_
 obtain ⟨g47, w48, o49, r50, b51, t52⟩ := b_box (P := Try.prog) (T := 46) (M.e 1 rfl) w0 o0 100
 refine ov rfl rfl M (r50 _ _ _ _ _) fun a M => x_end rfl <| q_then <| c_seq ?_
 obtain ⟨x54, hx55, h⟩ := bind_some h
 obtain ⟨hx550, hx551, hx552⟩ := at_some hx55
 obtain ⟨g56, f57, c58, ds59, hv60, hd61, he62⟩ := Row.elem (q25.kn t52) hx551
 have hsds59 : ds59 = [.int .i64 x54] := hd61
 subst hsds59
 have he62 : ElemAt w48 o49 4 g56 f57 (p1.rule).toNat 1 [.int .i64 x54] := he62
 obtain ⟨r64, hr65, h⟩ := bind_some h
 refine draw_p E mixed [0, 0, 2, 6, 14, 0, 32, 126, 254, 0, 512, 2046, 0, 4096, 0, 16384, 65535, 131071] (by kernel_rfl) rfl M [(4, .slice A37 p24.length c38), (6, .int .i64 p1.rule), (7, .pointer (some ⟨g56, f57 + (p1.rule).toNat * 1, none⟩)), (8, .int .i64 x54), (10, .int .i64 p1.dot), (13, .int .i64 p1.i), (15, .int .i64 p1.j), (16, .int .i64 (IntKind.wrap .i64 ((IntKind.wrap .i64 ((IntKind.wrap .i64 ((IntKind.wrap .i64 ((IntKind.wrap .i64 (x54 + p1.dot)) * (IntKind.wrap .i64 (p15 + (1 : Int))))) + p1.i)) * (IntKind.wrap .i64 (p15 + (1 : Int))))) + p1.j)))] rfl rfl rfl o49 ⟨fun a w o M G r => qv rfl rfl M rfl (x_load ld_26 (G.e 3 rfl rfl) (((q16.kn t52).kn r).cell (n := 6) rfl)),
   fun a w o M G r => qv rfl rfl M rfl (x_load ld_3 (G.e 5 rfl rfl) ((b51.kn r).cell (n := 0) rfl)),
   fun a w o M G r => qv rfl rfl M rfl (x_indexAddr Try.underlying26 sz_3 ((G.e 4 rfl rfl).trans hv60) (G.e 6 rfl rfl) hx550 hx552),
   fun a w o M G r => qv rfl rfl M rfl (x_load ld_3 (G.e 7 rfl rfl) ((he62.kn r).2 0 _ rfl)),
   fun a w o M G r => qv rfl rfl M rfl (x_load ld_3 (G.e 9 rfl rfl) ((b51.kn r).cell (n := 1) rfl)),
   fun a w o M G r => qv rfl rfl M rfl (x_load ld_3 (G.e 12 rfl rfl) ((b51.kn r).cell (n := 2) rfl)),
   fun a w o M G r => qv rfl rfl M rfl (x_load ld_3 (G.e 14 rfl rfl) ((b51.kn r).cell (n := 3) rfl)),
   ?_,
   trivial⟩ ?_
 ·intro a w o M G r
  refine dc rfl (wp0 rfl) rfl rfl M (x_call cf_81 (m4 (G.e 0 rfl rfl) (G.e 11 rfl rfl) (G.e 13 rfl rfl) (G.e 15 rfl rfl))) (chart_Chart_at_calls hr65 (lko_own (T := [(0, 0), (1, 1), (2, 2), (3, 3), (4, 4), (5, 5), (6, 6)]) (o := o) rfl) (sL (iN (iN i6 t52) r) rfl) (sL (iN (iN i10 t52) r) rfl) (sL (iN (iN i14 t52) r) rfl) (((q16.kn t52).kn r).l rfl) (((q19.kn t52).kn r).l rfl rfl) (((q22.kn t52).kn r).l rfl rfl) (((q25.kn t52).kn r).l rfl rfl) (((q28.kn t52).kn r).l rfl rfl) (((q32.kn t52).kn r).l rfl)) (fun e3 w66 hp67 => ?_)
  obtain ⟨o68, he69, T70⟩ := hp67
  obtain ⟨o71, ho72⟩ := ex (mrg w o [(0, 0), (1, 1), (2, 2), (3, 3), (4, 4), (5, 5), (6, 6)] o68)
  have t73 := T70.r0 ho72
  refine ⟨_, he69, fun a' p => ?_⟩
  exact ⟨o71, _, _, rfl, p, t73⟩
 intro a w74 o75 M t76
 refine q_then <| c_seq <| c_reg <| pn (j := 3) E 3 M rfl rfl fun a M => ov rfl rfl M (x_load ld_48 (M.e 0 rfl) (((q16.kn t52).kn t76).cell (n := 5) rfl)) fun a M => pn (j := 5) E 1 M rfl rfl fun a M => ?_
 obtain ⟨x77, hx78, h⟩ := bind_some h
 obtain ⟨hx780, hx781, hx782⟩ := at_some hx78
 obtain ⟨g79, f80, c81, ds82, hv83, hd84, he85⟩ := Row.elem ((q22.kn t52).kn t76) hx781
 have hsds82 : ds82 = [.bool x77] := hd84
 subst hsds82
 have he85 : ElemAt w74 o75 3 g79 f80 (IntKind.wrap .i64 ((IntKind.wrap .i64 ((IntKind.wrap .i64 ((IntKind.wrap .i64 ((IntKind.wrap .i64 (x54 + p1.dot)) * (IntKind.wrap .i64 (p15 + (1 : Int))))) + p1.i)) * (IntKind.wrap .i64 (p15 + (1 : Int))))) + p1.j)).toNat 1 [.bool x77] := he85
 refine ov rfl rfl M (x_indexAddr Try.underlying48 sz_4 ((M.e 1 rfl).trans hv83) (M.e 0 rfl) hx780 hx782) fun a M => ov rfl rfl M (x_load ld_4 (M.e 0 rfl) (he85.2 0 _ rfl)) fun a M => pn (j := 8) E 1 M rfl rfl fun a M => x_end rfl <| q_then ?_
 by_cases hk4 : (!x77) = true
 ·rw [if_pos hk4] at h
  have M := M.k 29 rfl hk4
  refine c_true (M.e 0 rfl) <| c_seq <| c_reg <| pn (j := 3) E 3 M rfl rfl fun a M => ov rfl rfl M (x_load ld_48 (M.e 0 rfl) (((q16.kn t52).kn t76).cell (n := 5) rfl)) fun a M => pn (j := 5) E 1 M rfl rfl fun a M => ?_
  obtain ⟨x87, hx88, h⟩ := bind_some h
  obtain ⟨hx880, hx881, hx882⟩ := at_some hx88
  obtain ⟨g89, f90, c91, ds92, hv93, hd94, he95⟩ := Row.elem ((q22.kn t52).kn t76) hx881
  have hsds92 : ds92 = [.bool x87] := hd94
  subst hsds92
  have he95 : ElemAt w74 o75 3 g89 f90 (IntKind.wrap .i64 ((IntKind.wrap .i64 ((IntKind.wrap .i64 ((IntKind.wrap .i64 ((IntKind.wrap .i64 (x54 + p1.dot)) * (IntKind.wrap .i64 (p15 + (1 : Int))))) + p1.i)) * (IntKind.wrap .i64 (p15 + (1 : Int))))) + p1.j)).toNat 1 [.bool x87] := he95
  refine ov rfl rfl M (x_indexAddr Try.underlying48 sz_4 ((M.e 1 rfl).trans hv93) (M.e 0 rfl) hx880 hx882) fun a M => ?_
  have hy102 : ∀ ds, (tBool).im w74 (L o75 0) x87 ds → (tBool).im w74 (L o75 0) true (ds.set 0 (.bool true)) := fun ds hds => by have hds : ds = _ := hds; subst hds; rfl
  obtain ⟨⟨uhq101, huhq101⟩, hfhq101, b99, t100⟩ := ((q22.kn t52).kn t76).put (by decide) hv93 hx881 (show 0 < 1 by decide) hy102
  obtain ⟨w97, r103, b99, t100⟩ : ∃ w' : World, (∀ (dst : Option Tmp) (ty : TypeId) (pos : String) (af : Array Edge) (gd : Option (Nat × Bool)), (execOp a.eval ⟨dst, .store 4 (.tmp 35) (.const (.bool true)), ty, pos, af, gd⟩).run Try.prog w74 = .ok .skip w') ∧ Row tBool 4 w' o75 3 (.slice A35 p21.length c36) (p21.set (IntKind.wrap .i64 ((IntKind.wrap .i64 ((IntKind.wrap .i64 ((IntKind.wrap .i64 ((IntKind.wrap .i64 (x54 + p1.dot)) * (IntKind.wrap .i64 (p15 + (1 : Int))))) + p1.i)) * (IntKind.wrap .i64 (p15 + (1 : Int))))) + p1.j)).toNat true) ∧ Tr (L o75 3) w74 o75 w' o75 := ⟨_, fun _ _ _ _ _ => x_store st_4 (M.e 0 rfl) (e_const (v := .bool true)) huhq101 hfhq101 rfl rfl, b99, t100⟩
  refine os rfl (wp0 rfl) rfl (r103 _ _ _ _ _) <| x_end rfl <| q_then ?_
  have u14 := iK (iN (iN i6 t52) t76) t100 rfl
  have u15 := iK (iN (iN i10 t52) t76) t100 rfl
  have u16 := iK (iN (iN i14 t52) t76) t100 rfl
  have u17 := ((q16.kn t52).kn t76).kk t100 rfl
  have u18 := ((q19.kn t52).kn t76).kk t100 rfl rfl
  have u19 := ((q25.kn t52).kn t76).kk t100 rfl rfl
  have u20 := ((q28.kn t52).kn t76).kk t100 rfl rfl
  have u21 := ((q32.kn t52).kn t76).kk t100 rfl
  obtain ⟨r105, hr106, h⟩ := bind_some h
  have u23 := ((q16.kn t52).kn t76).kk t100 rfl
  have u24 := ((q19.kn t52).kn t76).kk t100 rfl rfl
  have u25 := ((q25.kn t52).kn t76).kk t100 rfl rfl
  have u26 := ((q28.kn t52).kn t76).kk t100 rfl rfl
  have u27 := ((q32.kn t52).kn t76).kk t100 rfl
  have u28 := iK (iN (iN i6 t52) t76) t100 rfl
  have u29 := iK (iN (iN i10 t52) t76) t100 rfl
  have u30 := iK (iN (iN i14 t52) t76) t100 rfl
  have u32 := ((T0.kn t52).kn t76).kk t100 hown rfl
  refine draw_m mixed [0, 1, 3, 0, 15] (by kernel_rfl) rfl M (fun U a w => ∃ (o : Own) (A143 : Option Addr) (c144 : Nat) (A145 : Option Addr) (c146 : Nat) (A147 : Option Addr) (c148 : Nat) (A149 : Option Addr) (c150 : Nat) (A151 : Option Addr) (c152 : Nat) (A153 : Option Addr) (c154 : Nat) (A155 : Option Addr) (c156 : Nat), Tab [(0, 36, .pointer (some ⟨g2, 0, none⟩)), (1, 37, .pointer (some ⟨g2, 0, none⟩)), (2, 38, .pointer (some ⟨g2, 7, none⟩)), (3, 39, .agg #[.int .i64 p1.rule, .int .i64 p1.dot, .int .i64 p1.i, .int .i64 p1.j]), (4, 40, .tuple #[])] U a ∧ Tr (FL [(4, 1), (4, 5)] o75 U) w97 o75 w o ∧ (U 4 = true → Box w o 1 g2 116 #[.slice A151 p3.length c152, .slice A153 p7.length c154, .slice A155 p11.length c156, .int .i64 p15, .slice A145 p18.length c146, .slice A147 (p21.set (IntKind.wrap .i64 ((IntKind.wrap .i64 ((IntKind.wrap .i64 ((IntKind.wrap .i64 ((IntKind.wrap .i64 (x54 + p1.dot)) * (IntKind.wrap .i64 (p15 + (1 : Int))))) + p1.i)) * (IntKind.wrap .i64 (p15 + (1 : Int))))) + p1.j)).toNat true).length c148, .slice A149 p24.length c150, .slice A143 (p27 ++ [p1]).length c144, .chan (some g29)]) ∧ (U 4 = true → Row tyPart 46 w o 5 (.slice A143 (p27 ++ [p1]).length c144) (p27 ++ [p1])) ∧ (U 4 = true → Row tBool 4 w o 2 (.slice A145 p18.length c146) p18) ∧ (U 4 = true → Row tBool 4 w o 3 (.slice A147 (p21.set (IntKind.wrap .i64 ((IntKind.wrap .i64 ((IntKind.wrap .i64 ((IntKind.wrap .i64 ((IntKind.wrap .i64 (x54 + p1.dot)) * (IntKind.wrap .i64 (p15 + (1 : Int))))) + p1.i)) * (IntKind.wrap .i64 (p15 + (1 : Int))))) + p1.j)).toNat true).length c148) (p21.set (IntKind.wrap .i64 ((IntKind.wrap .i64 ((IntKind.wrap .i64 ((IntKind.wrap .i64 ((IntKind.wrap .i64 (x54 + p1.dot)) * (IntKind.wrap .i64 (p15 + (1 : Int))))) + p1.i)) * (IntKind.wrap .i64 (p15 + (1 : Int))))) + p1.j)).toNat true)) ∧ (U 4 = true → Row (tInt .i64) 3 w o 4 (.slice A149 p24.length c150) p24) ∧ (U 4 = true → (tSlice 9 tStr (by decide)).im w (L o 0) p3 [.slice A151 p3.length c152]) ∧ (U 4 = true → (tSlice 9 tStr (by decide)).im w (L o 0) p7 [.slice A153 p7.length c154]) ∧ (U 4 = true → (tSlice 28 tyRule (by decide)).im w (L o 0) p11 [.slice A155 p11.length c156])) ?_ ⟨?_, ?_, ?_, ?_, ?_, trivial⟩ ?_
  ·exact ⟨o75, none, 0, none, 0, none, 0, none, 0, none, 0, none, 0, none, 0, Tab.start, FL.start (tr_drew _ _), fun h => Bool.noConfusion h, fun h => Bool.noConfusion h, fun h => Bool.noConfusion h, fun h => Bool.noConfusion h, fun h => Bool.noConfusion h, fun h => Bool.noConfusion h, fun h => Bool.noConfusion h, fun h => Bool.noConfusion h⟩
  ·intro U a w M hL hA hD hI
   obtain ⟨o, A143, c144, A145, c146, A147, c148, A149, c150, A151, c152, A153, c154, A155, c156, TG0, tr, FE0, FE1, FE2, FE3, FE4, FE5, FE6, FE7⟩ := hI
   refine dv rfl rfl M (x_move (M.e 33 rfl)) fun a' p => ?_
   exact ⟨M.st p rfl, o, A143, c144, A145, c146, A147, c148, A149, c150, A151, c152, A153, c154, A155, c156, (TG0.step p 0 rfl rfl), (FL.idle tr), FE0, FE1, FE2, FE3, FE4, FE5, FE6, FE7⟩
  ·intro U a w M hL hA hD hI
   obtain ⟨o, A143, c144, A145, c146, A147, c148, A149, c150, A151, c152, A153, c154, A155, c156, TG0, tr, FE0, FE1, FE2, FE3, FE4, FE5, FE6, FE7⟩ := hI
   refine dv rfl rfl M (x_nilCheck (e_tmp (TG0.get 0 rfl (hA 0 rfl)))) fun a' p => ?_
   exact ⟨M.st p rfl, o, A143, c144, A145, c146, A147, c148, A149, c150, A151, c152, A153, c154, A155, c156, (TG0.step p 1 rfl rfl), (FL.idle tr), FE0, FE1, FE2, FE3, FE4, FE5, FE6, FE7⟩
  ·intro U a w M hL hA hD hI
   obtain ⟨o, A143, c144, A145, c146, A147, c148, A149, c150, A151, c152, A153, c154, A155, c156, TG0, tr, FE0, FE1, FE2, FE3, FE4, FE5, FE6, FE7⟩ := hI
   refine dv rfl rfl M (x_fieldAddr fa_116_5 (e_tmp (TG0.get 1 rfl (hA 1 rfl))) rfl) fun a' p => ?_
   exact ⟨M.st p rfl, o, A143, c144, A145, c146, A147, c148, A149, c150, A151, c152, A153, c154, A155, c156, (TG0.step p 2 rfl rfl), (FL.idle tr), FE0, FE1, FE2, FE3, FE4, FE5, FE6, FE7⟩
  ·intro U a w M hL hA hD hI
   obtain ⟨o, A143, c144, A145, c146, A147, c148, A149, c150, A151, c152, A153, c154, A155, c156, TG0, tr, FE0, FE1, FE2, FE3, FE4, FE5, FE6, FE7⟩ := hI
   refine dv rfl rfl M (x_loadN (ldn_46 _ rfl) (M.e 32 rfl) ((((b51.kn t76).kk t100 rfl).keep_ (FL.same tr ⟨fun h => absurd h (ne rfl), ⟨fun h => absurd h (ne rfl), trivial⟩⟩)).sub (cs := #[.int .i64 p1.rule, .int .i64 p1.dot, .int .i64 p1.i, .int .i64 p1.j]) 0 rfl)) fun a' p => ?_
   exact ⟨M.st p rfl, o, A143, c144, A145, c146, A147, c148, A149, c150, A151, c152, A153, c154, A155, c156, (TG0.step p 3 rfl rfl), (FL.idle tr), FE0, FE1, FE2, FE3, FE4, FE5, FE6, FE7⟩
  ·intro U a w M hL hA hD hI
   obtain ⟨o, A143, c144, A145, c146, A147, c148, A149, c150, A151, c152, A153, c154, A155, c156, TG0, tr, FE0, FE1, FE2, FE3, FE4, FE5, FE6, FE7⟩ := hI
   refine dc rfl (wp0 rfl) rfl rfl M (x_call cf_134 (m2 (e_tmp (TG0.get 2 rfl (hA 2 rfl))) (e_tmp (TG0.get 3 rfl (hA 3 rfl))))) (chart_queue_put_calls hr106 (lko_own (T := [(0, 0), (1, 1), (2, 2), (3, 3), (4, 4), (5, 5), (6, 6)]) (o := o) rfl) (sL (Ty.loc _ (FL.same tr ⟨fun h => absurd h (ne rfl), ⟨fun h => absurd h (ne rfl), trivial⟩⟩) u28) rfl) (sL (Ty.loc _ (FL.same tr ⟨fun h => absurd h (ne rfl), ⟨fun h => absurd h (ne rfl), trivial⟩⟩) u29) rfl) (sL (Ty.loc _ (FL.same tr ⟨fun h => absurd h (ne rfl), ⟨fun h => absurd h (ne rfl), trivial⟩⟩) u30) rfl) ((u23.keep_ (FL.same tr ⟨fun _ => hL, ⟨fun h => absurd h (ne rfl), trivial⟩⟩)).l rfl) ((u24.keep_ (FL.same tr ⟨fun h => absurd h (ne rfl), ⟨fun h => absurd h (ne rfl), trivial⟩⟩) (FL.same tr ⟨fun h => absurd h (ne rfl), ⟨fun h => absurd h (ne rfl), trivial⟩⟩)).l rfl rfl) ((b99.keep_ (FL.same tr ⟨fun h => absurd h (ne rfl), ⟨fun h => absurd h (ne rfl), trivial⟩⟩) (FL.same tr ⟨fun h => absurd h (ne rfl), ⟨fun h => absurd h (ne rfl), trivial⟩⟩)).l rfl rfl) ((u25.keep_ (FL.same tr ⟨fun h => absurd h (ne rfl), ⟨fun h => absurd h (ne rfl), trivial⟩⟩) (FL.same tr ⟨fun h => absurd h (ne rfl), ⟨fun h => absurd h (ne rfl), trivial⟩⟩)).l rfl rfl) ((u26.keep_ (FL.same tr ⟨fun h => absurd h (ne rfl), ⟨fun _ => hL, trivial⟩⟩) (FL.same tr ⟨fun h => absurd h (ne rfl), ⟨fun h => absurd h (ne rfl), trivial⟩⟩)).l rfl rfl) ((u27.keep_ (FL.same tr ⟨fun h => absurd h (ne rfl), ⟨fun h => absurd h (ne rfl), trivial⟩⟩)).l rfl)) (fun e31 w107 hp108 => ?_)
   obtain ⟨o116, z109, z110, z111, z112, z113, z114, z115, he117, q118, q119, q120, q121, q122, q123, i124, i125, i126, T127⟩ := hp108
   obtain ⟨o128, ho129⟩ := ex (mrg w o [(0, 0), (1, 1), (2, 2), (3, 3), (4, 4), (5, 5), (6, 6)] o116)
   have t130 := T127.r ho129 [1, 5] rfl rfl
   have q131 := q118.r T127 ho129 1 rfl rfl
   have q132 := q119.r T127 ho129 5 rfl rfl rfl rfl
   have q133 := q120.r T127 ho129 2 rfl rfl rfl rfl
   have q134 := q121.r T127 ho129 3 rfl rfl rfl rfl
   have q135 := q122.r T127 ho129 4 rfl rfl rfl rfl
   have q136 := q123.r T127 ho129 6 rfl rfl
   have i137 := iR i124 T127 ho129 rfl rfl
   have i139 := iR i125 T127 ho129 rfl rfl
   have i141 := iR i126 T127 ho129 rfl rfl
   refine ⟨_, he117, fun a' p => ?_⟩
   obtain ⟨A143, c144, hzc144, -⟩ := q132.form
   subst hzc144
   obtain ⟨A145, c146, hzc146, -⟩ := q133.form
   subst hzc146
   obtain ⟨A147, c148, hzc148, -⟩ := q134.form
   subst hzc148
   obtain ⟨A149, c150, hzc150, -⟩ := q135.form
   subst hzc150
   obtain ⟨A151, c152, hzc152, -⟩ := im_form i137
   subst hzc152
   obtain ⟨A153, c154, hzc154, -⟩ := im_form i139
   subst hzc154
   obtain ⟨A155, c156, hzc156, -⟩ := im_form i141
   subst hzc156
   exact ⟨M.st p rfl, o128, A143, c144, A145, c146, A147, c148, A149, c150, A151, c152, A153, c154, A155, c156, (TG0.step p 4 rfl rfl), (FL.stm tr t130 rfl), (fun _ => q131), (fun _ => q132), (fun _ => q133), (fun _ => q134), (fun _ => q135), (fun _ => i137), (fun _ => i139), (fun _ => i141)⟩
  intro U a w157 M hA hI
  obtain ⟨o158, A143, c144, A145, c146, A147, c148, A149, c150, A151, c152, A153, c154, A155, c156, TG0, tr, FE0, FE1, FE2, FE3, FE4, FE5, FE6, FE7⟩ := hI
  have q159 := (FE0 (hA 4 rfl))
  have q160 := (FE1 (hA 4 rfl))
  have q161 := (FE2 (hA 4 rfl))
  have q162 := (FE3 (hA 4 rfl))
  have q163 := (FE4 (hA 4 rfl))
  have q164 := (u27.keep_ (FL.same tr ⟨fun h => absurd h (ne rfl), ⟨fun h => absurd h (ne rfl), trivial⟩⟩))
  have i165 := (FE5 (hA 4 rfl))
  have i166 := (FE6 (hA 4 rfl))
  have i167 := (FE7 (hA 4 rfl))
  have T168 := Tr.kf u32 tr hown rfl
  clear hA TG0 tr FE0 FE1 FE2 FE3 FE4 FE5 FE6 FE7
  obtain rfl := sj h
  exact ⟨M.f.defers, _, (res0 Try.results82 ), ⟨o158, (.slice A151 p3.length c152), (.slice A153 p7.length c154), (.slice A155 p11.length c156), (.slice A147 (p21.set (IntKind.wrap .i64 ((IntKind.wrap .i64 ((IntKind.wrap .i64 ((IntKind.wrap .i64 ((IntKind.wrap .i64 (x54 + p1.dot)) * (IntKind.wrap .i64 (p15 + (1 : Int))))) + p1.i)) * (IntKind.wrap .i64 (p15 + (1 : Int))))) + p1.j)).toNat true).length c148), (.slice A143 (p27 ++ [p1]).length c144), (.slice A145 p18.length c146), (.slice A149 p24.length c150), rfl, q159, q162, q160, q161, q163, q164, i165, i166, i167, T168⟩⟩
 rw [if_neg hk4] at h
 have hk4 := nott hk4
 have M := M.k 29 rfl hk4
 refine c_false (M.e 0 rfl) <| wp_skip ?_
 have u33 := (T0.kn t52).kn t76
 obtain rfl := sj h
 exact ⟨M.f.defers, _, (res0 Try.results82 ), ⟨o75, (.slice A41 p3.length c42), (.slice A43 p7.length c44), (.slice A45 p11.length c46), (.slice A35 p21.length c36), (.slice A39 p27.length c40), (.slice A33 p18.length c34), (.slice A37 p24.length c38), rfl, ((q16.kn t52).kn t76), ((q22.kn t52).kn t76), ((q28.kn t52).kn t76), ((q19.kn t52).kn t76), ((q25.kn t52).kn t76), ((q32.kn t52).kn t76), (iN (iN i6 t52) t76), (iN (iN i10 t52) t76), (iN (iN i14 t52) t76), u33⟩⟩
end Go.Proofs.Ythilemcdhkfhlaa
namespace Go.Proofs.Ythilemcdhkfhlaa
open Go Go.RowKit Go.Gc Go.Proofs
def chart_Chart_right (k : Nat) (p1 : Int) (p3 : List ByteArray) (p7 : List ByteArray) (p11 : List Rule) (p15 : Int) (p18 : List Bool) (p21 : List Bool) (p24 : List Int) (p27 : List Part) (c30 : Nat) (p31 : List Part) : Option (List Int) :=
  (at? p11 p1).bind fun x47 => some x47.right
theorem chart_Chart_right_calls {k : Nat} {p1 : Int} {g2 : Nat} {p3 : List ByteArray} {v4 : Value} {p7 : List ByteArray} {v8 : Value} {p11 : List Rule} {v12 : Value} {p15 : Int} {v17 : Value} {p18 : List Bool} {v20 : Value} {p21 : List Bool} {v23 : Value} {p24 : List Int} {v26 : Value} {p27 : List Part} {g29 : Nat} {c30 : Nat} {p31 : List Part} {r : (List Int)} (h : chart_Chart_right k p1 p3 p7 p11 p15 p18 p21 p24 p27 c30 p31 = some r) {w0 : World} {o0 : Own} (hown : Hown o0)
    (i6 : ((tSlice 9 tStr (by decide))).im w0 (L o0 0) p3 [v4])
    (i10 : ((tSlice 9 tStr (by decide))).im w0 (L o0 0) p7 [v8])
    (i14 : ((tSlice 28 tyRule (by decide))).im w0 (L o0 0) p11 [v12])
    (q16 : Box w0 o0 1 g2 116 #[v4, v8, v12, .int .i64 p15, v17, v20, v23, v26, .chan (some g29)])
    (q19 : Row tBool 4 w0 o0 2 v17 p18)
    (q22 : Row tBool 4 w0 o0 3 v20 p21)
    (q25 : Row (tInt .i64) 3 w0 o0 4 v23 p24)
    (q28 : Row tyPart 46 w0 o0 5 v26 p27)
    (q32 : Chan w0 o0 6 g29 c30 (p31.map cv_46)) :
    Calls Try.prog 87 #[.pointer (some ⟨g2, 0, none⟩), .int .i64 p1] w0 (fun e w => ∃ (o61 : Own) (z62 : Value), e = .returned (z62) ∧ (tSlice 3 (tInt .i64) (by decide)).im w (L o61 0) r [z62] ∧ Tr (Ls o0 []) w0 o0 w o61) := by
 unfold chart_Chart_right at h
 refine startM Try.func87 rfl Try.ntmps87 (show 2 ≤ 14 by decide) fun a M => ?_
 have M : MB 14 [] [(0, .pointer (some ⟨g2, 0, none⟩)), (1, .int .i64 p1)] a := M
 obtain ⟨A33, c34, hzc34, -⟩ := q19.form
 subst hzc34
 obtain ⟨A35, c36, hzc36, -⟩ := q22.form
 subst hzc36
 obtain ⟨A37, c38, hzc38, -⟩ := q25.form
 subst hzc38
 obtain ⟨A39, c40, hzc40, -⟩ := q28.form
 subst hzc40
 obtain ⟨A41, c42, hzc42, -⟩ := im_form i6
 subst hzc42
 obtain ⟨A43, c44, hzc44, -⟩ := im_form i10
 subst hzc44
 obtain ⟨A45, c46, hzc46, -⟩ := im_form i14
 subst hzc46
 have T0 : Tr (Ls o0 []) w0 o0 w0 o0 := Tr.refl _ _ _
 refine c_seq <| c_reg <| pn (j := 1) E 1 M rfl rfl fun a M => x_end rfl <| q_then <| c_seq <| c_reg <| pn (j := 4) E 4 M rfl rfl fun a M => ov rfl rfl M (x_load ld_23 (M.e 0 rfl) (q16.cell (n := 2) rfl)) fun a M => pn (j := 6) E 1 M rfl rfl fun a M => ?_
 obtain ⟨x47, hx48, h⟩ := bind_some h
 obtain ⟨hx480, hx481, hx482⟩ := at_some hx48
 obtain ⟨g49, f50, c51, ds52, hv53, hd54, he55⟩ := im_elem i14 hx481
 obtain ⟨A56, c57, rfl, i58⟩ := Rule_open hd54
 have he55 : ElemAt w0 o0 0 g49 f50 (p1).toNat 2 [.int .i64 x47.left, .slice A56 x47.right.length c57] := he55
 refine ov rfl rfl M (x_indexAddr Try.underlying23 sz_28 ((M.e 1 rfl).trans hv53) (M.e 0 rfl) hx480 hx482) fun a M => ov rfl rfl M (x_fieldAddr (m := f50 + ((p1).toNat * 2 + 1)) fa_28_1 (M.e 0 rfl) (by omega)) fun a M => ov rfl rfl M (x_load ld_26 (M.e 0 rfl) (he55.2 1 _ rfl)) fun a M => ?_
 have M := M.pk [0, 1, 2, 3, 4, 5, 6, 7, 8, 10, 11] rfl
 refine pn (j := 10) E 1 M rfl rfl fun a M => x_end rfl <| q_then <| wp_ret ?_
 obtain rfl := sj h
 exact ⟨M.f.defers, _, (res1 Try.results87 (rv_tmp (M.t 0 rfl))), ⟨o0, (.slice A56 x47.right.length c57), rfl, i58, T0⟩⟩
end Go.Proofs.Ythilemcdhkfhlaa
namespace Go.Proofs.Ythilemcdhkfhlaa
open Go Go.RowKit Go.Gc Go.Proofs
def chart_Chart_sym_b2 (k : Nat) (p1 : Span) (p3 : List ByteArray) (p7 : List ByteArray) (p11 : List Rule) (p15 : Int) (p24 : List Int) (c30 : Nat) (p31 : List Part) (y1536 : Int) (y1543 : List Bool) (y3511 : Int) (y4138 : Int) (y4146 : List Bool) (y4149 : List Part) : Option ((Int × (List Bool) × (List Part)) ⊕ ((List Bool) × (List Part))) :=
  if (decide (y4138 < (IntKind.wrap .i64 (p1.i + (1 : Int))))) = true then ((at? p24 y1536).bind fun x4325 => (chart_Chart_at k (IntKind.wrap .i64 (x4325 + y3511)) y4138 p1.i p3 p7 p11 p15 y1543 y4146 p24 y4149 c30 p31).bind fun r4335 => (at? y4146 (IntKind.wrap .i64 ((IntKind.wrap .i64 ((IntKind.wrap .i64 ((IntKind.wrap .i64 ((IntKind.wrap .i64 (x4325 + y3511)) * (IntKind.wrap .i64 (p15 + (1 : Int))))) + y4138)) * (IntKind.wrap .i64 (p15 + (1 : Int))))) + p1.i))).bind fun x4345 => if x4345 = true then ((chart_Chart_part k (⟨y1536, IntKind.wrap .i64 (y3511 + (1 : Int)), y4138, p1.j⟩ : Part) p3 p7 p11 p15 y1543 y4146 p24 y4149 c30 p31).bind fun r4359 => some (.inl (IntKind.wrap .i64 (y4138 + (1 : Int)), r4359.1, r4359.2))) else (some (.inl (IntKind.wrap .i64 (y4138 + (1 : Int)), y4146, y4149)))) else (some (.inr (y4146, y4149)))
def chart_Chart_sym_b1 (k : Nat) (p1 : Span) (p3 : List ByteArray) (p7 : List ByteArray) (p11 : List Rule) (p15 : Int) (p24 : List Int) (c30 : Nat) (p31 : List Part) (y1536 : Int) (y1543 : List Bool) (x3056 : Rule) (y3511 : Int) (y3519 : List Bool) (y3522 : List Part) : Option ((Int × (List Bool) × (List Part)) ⊕ ((List Bool) × (List Part))) :=
  if (decide (y3511 < (x3056.right.length : Int))) = true then ((at? x3056.right y3511).bind fun x4027 => if (x4027 != p1.sym) = true then (some (.inl (IntKind.wrap .i64 (y3511 + (1 : Int)), y3519, y3522))) else ((iter (fun (s : (Int × (List Bool) × (List Part))) => chart_Chart_sym_b2 k p1 p3 p7 p11 p15 p24 c30 p31 y1536 y1543 y3511 s.1 s.2.1 s.2.2) k ((0 : Int), y3519, y3522)).bind fun x4411 => some (.inl (IntKind.wrap .i64 (y3511 + (1 : Int)), x4411.1, x4411.2)))) else (some (.inr (y3519, y3522)))
def chart_Chart_sym_b0 (k : Nat) (p1 : Span) (p3 : List ByteArray) (p7 : List ByteArray) (p11 : List Rule) (p15 : Int) (p24 : List Int) (c30 : Nat) (p31 : List Part) (y1536 : Int) (y1543 : List Bool) (y1545 : List Bool) (y1548 : List Part) : Option ((Int × (List Bool) × (List Bool) × (List Part)) ⊕ ((List Bool) × (List Bool) × (List Part))) :=
  if (decide (y1536 < (p11.length : Int))) = true then ((at? p11 y1536).bind fun x3056 => (iter (fun (s : (Int × (List Bool) × (List Part))) => chart_Chart_sym_b1 k p1 p3 p7 p11 p15 p24 c30 p31 y1536 y1543 x3056 s.1 s.2.1 s.2.2) k ((0 : Int), y1545, y1548)).bind fun x4444 => some (.inl (IntKind.wrap .i64 (y1536 + (1 : Int)), y1543, x4444.1, x4444.2))) else (some (.inr (y1543, y1545, y1548)))
def chart_Chart_sym (k : Nat) (p1 : Span) (p3 : List ByteArray) (p7 : List ByteArray) (p11 : List Rule) (p15 : Int) (p18 : List Bool) (p21 : List Bool) (p24 : List Int) (p27 : List Part) (c30 : Nat) (p31 : List Part) : Option ((List Bool) × (List Bool) × (List Part)) :=
  (chart_Chart_at k p1.sym p1.i p1.j p3 p7 p11 p15 p18 p21 p24 p27 c30 p31).bind fun r53 => (at? p18 (IntKind.wrap .i64 ((IntKind.wrap .i64 ((IntKind.wrap .i64 ((IntKind.wrap .i64 (p1.sym * (IntKind.wrap .i64 (p15 + (1 : Int))))) + p1.i)) * (IntKind.wrap .i64 (p15 + (1 : Int))))) + p1.j))).bind fun x73 => if x73 = true then (some (p18, p21, p27)) else ((at? p18 (IntKind.wrap .i64 ((IntKind.wrap .i64 ((IntKind.wrap .i64 ((IntKind.wrap .i64 (p1.sym * (IntKind.wrap .i64 (p15 + (1 : Int))))) + p1.i)) * (IntKind.wrap .i64 (p15 + (1 : Int))))) + p1.j))).bind fun x83 => (iter (fun (s : (Int × (List Bool) × (List Bool) × (List Part))) => chart_Chart_sym_b0 k p1 p3 p7 p11 p15 p24 c30 p31 s.1 s.2.1 s.2.2.1 s.2.2.2) k ((0 : Int), p18.set (IntKind.wrap .i64 ((IntKind.wrap .i64 ((IntKind.wrap .i64 ((IntKind.wrap .i64 (p1.sym * (IntKind.wrap .i64 (p15 + (1 : Int))))) + p1.i)) * (IntKind.wrap .i64 (p15 + (1 : Int))))) + p1.j)).toNat true, p21, p27)).bind fun x4476 => some (x4476.1, x4476.2.1, x4476.2.2))
theorem chart_Chart_sym_calls {k : Nat} {p1 : Span} {g2 : Nat} {p3 : List ByteArray} {v4 : Value} {p7 : List ByteArray} {v8 : Value} {p11 : List Rule} {v12 : Value} {p15 : Int} {v17 : Value} {p18 : List Bool} {v20 : Value} {p21 : List Bool} {v23 : Value} {p24 : List Int} {v26 : Value} {p27 : List Part} {g29 : Nat} {c30 : Nat} {p31 : List Part} {r : ((List Bool) × (List Bool) × (List Part))} (h : chart_Chart_sym k p1 p3 p7 p11 p15 p18 p21 p24 p27 c30 p31 = some r) {w0 : World} {o0 : Own} (hown : Hown o0)
    (i6 : ((tSlice 9 tStr (by decide))).im w0 (L o0 0) p3 [v4])
    (i10 : ((tSlice 9 tStr (by decide))).im w0 (L o0 0) p7 [v8])
    (i14 : ((tSlice 28 tyRule (by decide))).im w0 (L o0 0) p11 [v12])
    (q16 : Box w0 o0 1 g2 116 #[v4, v8, v12, .int .i64 p15, v17, v20, v23, v26, .chan (some g29)])
    (q19 : Row tBool 4 w0 o0 2 v17 p18)
    (q22 : Row tBool 4 w0 o0 3 v20 p21)
    (q25 : Row (tInt .i64) 3 w0 o0 4 v23 p24)
    (q28 : Row tyPart 46 w0 o0 5 v26 p27)
    (q32 : Chan w0 o0 6 g29 c30 (p31.map cv_46)) :
    Calls Try.prog 135 #[.pointer (some ⟨g2, 0, none⟩), .agg #[.int .i64 p1.sym, .int .i64 p1.i, .int .i64 p1.j]] w0 (fun e w => ∃ (o4506 : Own) (z4506 : Value) (z4508 : Value) (z4510 : Value) (z4513 : Value) (z4515 : Value) (z4517 : Value) (z4518 : Value), e = .returned (.tuple #[]) ∧ Box w o4506 1 g2 116 #[z4506, z4508, z4510, .int .i64 p15, z4513, z4515, z4518, z4517, .chan (some g29)] ∧ Row tBool 4 w o4506 2 z4513 r.1 ∧ Row tBool 4 w o4506 3 z4515 r.2.1 ∧ Row tyPart 46 w o4506 5 z4517 r.2.2 ∧ Row (tInt .i64) 3 w o4506 4 z4518 p24 ∧ Chan w o4506 6 g29 c30 (p31.map cv_46) ∧ (tSlice 9 tStr (by decide)).im w (L o4506 0) p3 [z4506] ∧ (tSlice 9 tStr (by decide)).im w (L o4506 0) p7 [z4508] ∧ (tSlice 28 tyRule (by decide)).im w (L o4506 0) p11 [z4510] ∧ Tr (Ls o0 [1, 2, 3, 5]) w0 o0 w o4506) := by
 unfold chart_Chart_sym at h
 refine startM Try.func135 rfl Try.ntmps135 (show 2 ≤ 92 by decide) fun a M => ?_
 have M : MB 92 [] [(0, .pointer (some ⟨g2, 0, none⟩)), (1, .agg #[.int .i64 p1.sym, .int .i64 p1.i, .int .i64 p1.j])] a := M
 obtain ⟨A33, c34, hzc34, -⟩ := q19.form
 subst hzc34
 obtain ⟨A35, c36, hzc36, -⟩ := q22.form
 subst hzc36
 obtain ⟨A37, c38, hzc38, -⟩ := q25.form
 subst hzc38
 obtain ⟨A39, c40, hzc40, -⟩ := q28.form
 subst hzc40
 obtain ⟨A41, c42, hzc42, -⟩ := im_form i6
 subst hzc42
 obtain ⟨A43, c44, hzc44, -⟩ := im_form i10
 subst hzc44
 obtain ⟨A45, c46, hzc46, -⟩ := im_form i14
 subst hzc46
 have T0 : Tr (Ls o0 [1, 2, 3, 5]) w0 o0 w0 o0 := Tr.refl _ _ _
 refine c_seq <| c_reg ?_
 obtain ⟨g47, w48, o49, r50, b51, t52⟩ := b_box (P := Try.prog) (T := 42) (M.e 1 rfl) w0 o0 100
 refine ov rfl rfl M (r50 _ _ _ _ _) fun a M => x_end rfl <| q_then <| c_seq <| c_reg <| pn (j := 2) E 2 M rfl rfl fun a M => ov rfl rfl M (x_load ld_3 (M.e 0 rfl) (b51.cell (n := 0) rfl)) fun a M => pn (j := 4) E 1 M rfl rfl fun a M => ov rfl rfl M (x_load ld_3 (M.e 0 rfl) (b51.cell (n := 1) rfl)) fun a M => pn (j := 6) E 1 M rfl rfl fun a M => ov rfl rfl M (x_load ld_3 (M.e 0 rfl) (b51.cell (n := 2) rfl)) fun a M => ?_
 obtain ⟨r53, hr54, h⟩ := bind_some h
 refine oc rfl (wp0 rfl) rfl rfl M (x_call cf_81 (m4 (M.e 6 rfl) (M.e 4 rfl) (M.e 2 rfl) (M.e 0 rfl))) (chart_Chart_at_calls hr54 (lko_own (T := [(0, 0), (1, 1), (2, 2), (3, 3), (4, 4), (5, 5), (6, 6)]) (o := o49) rfl) (sL (iN i6 t52) rfl) (sL (iN i10 t52) rfl) (sL (iN i14 t52) rfl) ((q16.kn t52).l rfl) ((q19.kn t52).l rfl rfl) ((q22.kn t52).l rfl rfl) ((q25.kn t52).l rfl rfl) ((q28.kn t52).l rfl rfl) ((q32.kn t52).l rfl)) (fun e1 w55 hp56 => ?_)
 obtain ⟨o57, he58, T59⟩ := hp56
 obtain ⟨o60, ho61⟩ := ex (mrg w48 o49 [(0, 0), (1, 1), (2, 2), (3, 3), (4, 4), (5, 5), (6, 6)] o57)
 have t62 := T59.r0 ho61
 refine ⟨_, he58, fun a M => ?_⟩
 refine pn (j := 9) E 1 M rfl rfl fun a M => x_end rfl <| q_then <| c_seq <| c_seq <| c_reg <| pn (j := 3) E 3 M rfl rfl fun a M => ov rfl rfl M (x_load ld_48 (M.e 0 rfl) (((q16.kn t52).kn t62).cell (n := 4) rfl)) fun a M => pn (j := 5) E 1 M rfl rfl fun a M => ?_
 obtain ⟨x73, hx74, h⟩ := bind_some h
 obtain ⟨hx740, hx741, hx742⟩ := at_some hx74
 obtain ⟨g75, f76, c77, ds78, hv79, hd80, he81⟩ := Row.elem ((q19.kn t52).kn t62) hx741
 have hsds78 : ds78 = [.bool x73] := hd80
 subst hsds78
 have he81 : ElemAt w55 o60 2 g75 f76 (IntKind.wrap .i64 ((IntKind.wrap .i64 ((IntKind.wrap .i64 ((IntKind.wrap .i64 (p1.sym * (IntKind.wrap .i64 (p15 + (1 : Int))))) + p1.i)) * (IntKind.wrap .i64 (p15 + (1 : Int))))) + p1.j)).toNat 1 [.bool x73] := he81
 refine ov rfl rfl M (x_indexAddr Try.underlying48 sz_4 ((M.e 1 rfl).trans hv79) (M.e 0 rfl) hx740 hx742) fun a M => ov rfl rfl M (x_load ld_4 (M.e 0 rfl) (he81.2 0 _ rfl)) fun a M => x_end rfl <| q_then ?_
 by_cases hk3 : x73 = true
 ·rw [if_pos hk3] at h
  have M := M.k 24 rfl hk3
  refine c_true (M.e 0 rfl) <| wp_ret <| q_then_ret ?_
  have u4 := (T0.kn t52).kn t62
  obtain rfl := sj h
  exact ⟨M.f.defers, _, (res0 Try.results135 ), ⟨o60, (.slice A41 p3.length c42), (.slice A43 p7.length c44), (.slice A45 p11.length c46), (.slice A33 p18.length c34), (.slice A35 p21.length c36), (.slice A39 p27.length c40), (.slice A37 p24.length c38), rfl, ((q16.kn t52).kn t62), ((q19.kn t52).kn t62), ((q22.kn t52).kn t62), ((q28.kn t52).kn t62), ((q25.kn t52).kn t62), ((q32.kn t52).kn t62), (iN (iN i6 t52) t62), (iN (iN i10 t52) t62), (iN (iN i14 t52) t62), u4⟩⟩
 rw [if_neg hk3] at h
 have hk3 := nott hk3
 have M := M.k 24 rfl hk3
 refine c_false (M.e 0 rfl) <| wp_skip <| q_then <| c_seq <| c_reg <| pn (j := 3) E 3 M rfl rfl fun a M => ov rfl rfl M (x_load ld_48 (M.e 0 rfl) (((q16.kn t52).kn t62).cell (n := 4) rfl)) fun a M => pn (j := 5) E 1 M rfl rfl fun a M => ?_
 obtain ⟨x83, hx84, h⟩ := bind_some h
 obtain ⟨hx840, hx841, hx842⟩ := at_some hx84
 obtain ⟨g85, f86, c87, ds88, hv89, hd90, he91⟩ := Row.elem ((q19.kn t52).kn t62) hx841
 have hsds88 : ds88 = [.bool x83] := hd90
 subst hsds88
 have he91 : ElemAt w55 o60 2 g85 f86 (IntKind.wrap .i64 ((IntKind.wrap .i64 ((IntKind.wrap .i64 ((IntKind.wrap .i64 (p1.sym * (IntKind.wrap .i64 (p15 + (1 : Int))))) + p1.i)) * (IntKind.wrap .i64 (p15 + (1 : Int))))) + p1.j)).toNat 1 [.bool x83] := he91
 refine ov rfl rfl M (x_indexAddr Try.underlying48 sz_4 ((M.e 1 rfl).trans hv89) (M.e 0 rfl) hx840 hx842) fun a M => ?_
 have hy98 : ∀ ds, (tBool).im w55 (L o60 0) x83 ds → (tBool).im w55 (L o60 0) true (ds.set 0 (.bool true)) := fun ds hds => by have hds : ds = _ := hds; subst hds; rfl
 obtain ⟨⟨uhq97, huhq97⟩, hfhq97, b95, t96⟩ := ((q19.kn t52).kn t62).put (by decide) hv89 hx841 (show 0 < 1 by decide) hy98
 obtain ⟨w93, r99, b95, t96⟩ : ∃ w' : World, (∀ (dst : Option Tmp) (ty : TypeId) (pos : String) (af : Array Edge) (gd : Option (Nat × Bool)), (execOp a.eval ⟨dst, .store 4 (.tmp 30) (.const (.bool true)), ty, pos, af, gd⟩).run Try.prog w55 = .ok .skip w') ∧ Row tBool 4 w' o60 2 (.slice A33 p18.length c34) (p18.set (IntKind.wrap .i64 ((IntKind.wrap .i64 ((IntKind.wrap .i64 ((IntKind.wrap .i64 (p1.sym * (IntKind.wrap .i64 (p15 + (1 : Int))))) + p1.i)) * (IntKind.wrap .i64 (p15 + (1 : Int))))) + p1.j)).toNat true) ∧ Tr (L o60 2) w55 o60 w' o60 := ⟨_, fun _ _ _ _ _ => x_store st_4 (M.e 0 rfl) (e_const (v := .bool true)) huhq97 hfhq97 rfl rfl, b95, t96⟩
 refine os rfl (wp0 rfl) rfl (r99 _ _ _ _ _) <| x_end rfl <| q_then <| c_seq <| c_reg <| pn (j := 4) E 4 M rfl rfl fun a M => ?_
 have u5 := ((q16.kn t52).kn t62).kk t96 rfl
 refine ov rfl rfl M (x_load ld_23 (M.e 0 rfl) (u5.cell (n := 2) rfl)) fun a M => pn (j := 7) E 2 M rfl rfl fun a M => x_end rfl <| q_then <| wp_block ?_
 have u182 := iK (iN (iN i14 t52) t62) t96 rfl
 have u183 := iK (iN (iN i6 t52) t62) t96 rfl
 have u184 := iK (iN (iN i10 t52) t62) t96 rfl
 have u185 := ((q22.kn t52).kn t62).kk t96 rfl rfl
 have u186 := ((q25.kn t52).kn t62).kk t96 rfl rfl
 have u187 := ((q28.kn t52).kn t62).kk t96 rfl rfl
 have u188 := ((q32.kn t52).kn t62).kk t96 rfl
 have u189 := ((T0.kn t52).kn t62).kk t96 hown rfl
 obtain ⟨x4476, hx4477, h⟩ := bind_some h
 refine loop_iter (S := (Int × (List Bool) × (List Bool) × (List Part))) (X := ((List Bool) × (List Bool) × (List Part))) (fun (s : (Int × (List Bool) × (List Bool) × (List Part))) => chart_Chart_sym_b0 k p1 p3 p7 p11 p15 p24 c30 p31 s.1 s.2.1 s.2.2.1 s.2.2.2) (fun (s : (Int × (List Bool) × (List Bool) × (List Part))) (a : Act) (w : World) => ∃ (o3024 : Own) (z1537 : Value) (z1539 : Value) (z1541 : Value) (z1544 : Value) (z1546 : Value) (z1547 : Value) (z1549 : Value), MB 92 [] [(0, .pointer (some ⟨g2, 0, none⟩)), (3, .pointer (some ⟨g47, 0, none⟩)), (35, .slice A45 p11.length c46), (36, .int .i64 (p11.length : Int)), (37, .int .i64 s.1)] a ∧ Box w o3024 1 g2 116 #[z1537, z1539, z1541, .int .i64 p15, z1544, z1546, z1547, z1549, .chan (some g29)] ∧ Box w o3024 100 g47 42 #[.int .i64 p1.sym, .int .i64 p1.i, .int .i64 p1.j] ∧ Row tBool 4 w o3024 2 z1544 s.2.1 ∧ Row tBool 4 w o3024 3 z1546 s.2.2.1 ∧ Row (tInt .i64) 3 w o3024 4 z1547 p24 ∧ Row tyPart 46 w o3024 5 z1549 s.2.2.2 ∧ Chan w o3024 6 g29 c30 (p31.map cv_46) ∧ ((tSlice 28 tyRule (by decide))).im w (L o3024 0) p11 [.slice A45 p11.length c46] ∧ (tSlice 9 tStr (by decide)).im w (L o3024 0) p3 [z1537] ∧ (tSlice 9 tStr (by decide)).im w (L o3024 0) p7 [z1539] ∧ (tSlice 28 tyRule (by decide)).im w (L o3024 0) p11 [z1541] ∧ Tr (Ls o0 [1, 2, 3, 5]) w0 o0 w o3024) (fun (x : ((List Bool) × (List Bool) × (List Part))) (e : Exit) (a : Act) (w : World) => (e = .exit 0 ∧ ∃ (o3025 : Own) (z3011 : Value) (z3013 : Value) (z3015 : Value) (z3018 : Value) (z3020 : Value) (z3021 : Value) (z3023 : Value), MB 92 [] [] a ∧ Box w o3025 1 g2 116 #[z3011, z3013, z3015, .int .i64 p15, z3018, z3020, z3021, z3023, .chan (some g29)] ∧ Row tBool 4 w o3025 2 z3018 x.1 ∧ Row tBool 4 w o3025 3 z3020 x.2.1 ∧ Row (tInt .i64) 3 w o3025 4 z3021 p24 ∧ Row tyPart 46 w o3025 5 z3023 x.2.2 ∧ Chan w o3025 6 g29 c30 (p31.map cv_46) ∧ (tSlice 9 tStr (by decide)).im w (L o3025 0) p3 [z3011] ∧ (tSlice 9 tStr (by decide)).im w (L o3025 0) p7 [z3013] ∧ (tSlice 28 tyRule (by decide)).im w (L o3025 0) p11 [z3015] ∧ Tr (Ls o0 [1, 2, 3, 5]) w0 o0 w o3025)) ?_ hx4477 ⟨o60, (.slice A41 p3.length c42), (.slice A43 p7.length c44), (.slice A45 p11.length c46), (.slice A33 p18.length c34), (.slice A35 p21.length c36), (.slice A37 p24.length c38), (.slice A39 p27.length c40), (M.pk [30, 29, 2, 1, 0] rfl), u5, ((b51.kn t62).kk t96 rfl), b95, u185, u186, u187, u188, u182, u183, u184, u182, u189⟩ ?_
 ·rintro ⟨y1536, y1543, y1545, y1548⟩ a w3026 r3027 hI3028 h
  replace h : chart_Chart_sym_b0 k p1 p3 p7 p11 p15 p24 c30 p31 y1536 y1543 y1545 y1548 = some r3027 := h
  unfold chart_Chart_sym_b0 at h
  obtain ⟨o3029, z1537, z1539, z1541, z1544, z1546, z1547, z1549, M, q3030, q3031, q3032, q3033, q3034, q3035, q3036, i3037, i3038, i3039, i3040, T3041⟩ := hI3028
  obtain ⟨A3042, c3043, hzc3043, -⟩ := q3032.form
  subst hzc3043
  obtain ⟨A3044, c3045, hzc3045, -⟩ := q3033.form
  subst hzc3045
  obtain ⟨A3046, c3047, hzc3047, -⟩ := q3034.form
  subst hzc3047
  obtain ⟨A3048, c3049, hzc3049, -⟩ := q3035.form
  subst hzc3049
  obtain ⟨A3050, c3051, hzc3051, -⟩ := im_form i3038
  subst hzc3051
  obtain ⟨A3052, c3053, hzc3053, -⟩ := im_form i3039
  subst hzc3053
  obtain ⟨A3054, c3055, hzc3055, -⟩ := im_form i3040
  subst hzc3055
  refine c_seq <| c_reg <| pn (j := 1) E 1 M rfl rfl fun a M => x_end rfl <| q_then <| c_seq ?_
  by_cases hk191 : (decide (y1536 < (p11.length : Int))) = true
  ·rw [if_pos hk191] at h
   have M := M.k 38 rfl hk191
   refine c_true (M.e 0 rfl) <| wp_skip <| q_then <| c_seq <| wp_block <| c_seq <| c_reg <| pn (j := 1) E 1 M rfl rfl fun a M => ?_
   obtain ⟨x3056, hx3057, h⟩ := bind_some h
   obtain ⟨hx30570, hx30571, hx30572⟩ := at_some hx3057
   obtain ⟨g3058, f3059, c3060, ds3061, hv3062, hd3063, he3064⟩ := im_elem i3037 hx30571
   obtain ⟨A3065, c3066, rfl, i3067⟩ := Rule_open hd3063
   have he3064 : ElemAt w3026 o3029 0 g3058 f3059 (y1536).toNat 2 [.int .i64 x3056.left, .slice A3065 x3056.right.length c3066] := he3064
   refine ov rfl rfl M (x_indexAddr Try.underlying23 sz_28 ((M.e 4 rfl).trans hv3062) (M.e 6 rfl) hx30570 hx30572) fun a M => ov rfl rfl M (x_loadN (ldn_28 _ rfl) (M.e 0 rfl) he3064.all) fun a M => ?_
   obtain ⟨g3070, w3071, o3072, r3073, b3074, t3075⟩ := b_alloc zv_28 a w3026 o3029 101
   refine ov rfl rfl M (r3073 _ _ _ _ _) fun a M => pn (j := 5) E 1 M rfl rfl fun a M => ?_
   obtain ⟨w3076, r3077, b3078, t3079⟩ := b_storeN (P := Try.prog) (all' := #[.int .i64 x3056.left, .slice A3065 x3056.right.length c3066]) (.inr trivial) (stn_28 _ rfl) (M.e 1 rfl) (M.e 2 rfl) b3074 (show 2 ≤ 2 by decide) (by simp [Value.oneCell']) rfl
   have b3078 : Box w3076 o3072 101 g3070 28 #[.int .i64 x3056.left, .slice A3065 x3056.right.length c3066] := b3078
   refine os rfl (wp0 rfl) rfl (r3077 _ _ _ _ _) <| x_end rfl <| q_then <| c_seq <| c_reg <| pn (j := 1) E 1 M rfl rfl fun a M => ov rfl rfl M (x_load ld_26 (M.e 0 rfl) (b3078.cell (n := 1) rfl)) fun a M => pn (j := 4) E 2 M rfl rfl fun a M => x_end rfl <| q_then <| wp_block ?_
   have u248 := (T3041.kn t3075).kk t3079 hown rfl
   obtain ⟨x4444, hx4445, h⟩ := bind_some h
   refine loop_iter (S := (Int × (List Bool) × (List Part))) (X := ((List Bool) × (List Part))) (fun (s : (Int × (List Bool) × (List Part))) => chart_Chart_sym_b1 k p1 p3 p7 p11 p15 p24 c30 p31 y1536 y1543 x3056 s.1 s.2.1 s.2.2) (fun (s : (Int × (List Bool) × (List Part))) (a : Act) (w : World) => ∃ (o3994 : Own) (z3512 : Value) (z3514 : Value) (z3516 : Value) (z3518 : Value) (z3520 : Value) (z3521 : Value) (z3523 : Value), MB 92 [] [(0, .pointer (some ⟨g2, 0, none⟩)), (3, .pointer (some ⟨g47, 0, none⟩)), (5, .int .i64 y1536), (35, .slice A45 p11.length c46), (36, .int .i64 (p11.length : Int)), (37, .int .i64 y1536), (43, .slice A3065 x3056.right.length c3066), (44, .int .i64 (x3056.right.length : Int)), (45, .int .i64 s.1)] a ∧ Box w o3994 1 g2 116 #[z3512, z3514, z3516, .int .i64 p15, z3518, z3520, z3521, z3523, .chan (some g29)] ∧ Box w o3994 100 g47 42 #[.int .i64 p1.sym, .int .i64 p1.i, .int .i64 p1.j] ∧ Row tBool 4 w o3994 2 z3518 y1543 ∧ Row tBool 4 w o3994 3 z3520 s.2.1 ∧ Row (tInt .i64) 3 w o3994 4 z3521 p24 ∧ Row tyPart 46 w o3994 5 z3523 s.2.2 ∧ Chan w o3994 6 g29 c30 (p31.map cv_46) ∧ ((tSlice 28 tyRule (by decide))).im w (L o3994 0) p11 [.slice A45 p11.length c46] ∧ ((tSlice 3 (tInt .i64) (by decide))).im w (L o3994 0) x3056.right [.slice A3065 x3056.right.length c3066] ∧ (tSlice 9 tStr (by decide)).im w (L o3994 0) p3 [z3512] ∧ (tSlice 9 tStr (by decide)).im w (L o3994 0) p7 [z3514] ∧ (tSlice 28 tyRule (by decide)).im w (L o3994 0) p11 [z3516] ∧ Tr (Ls o0 [1, 2, 3, 5]) w0 o0 w o3994) (fun (x : ((List Bool) × (List Part))) (e : Exit) (a : Act) (w : World) => (e = .exit 2 ∧ ∃ (o3995 : Own) (z3982 : Value) (z3984 : Value) (z3986 : Value) (z3988 : Value) (z3990 : Value) (z3991 : Value) (z3993 : Value), MB 92 [] [(0, .pointer (some ⟨g2, 0, none⟩)), (3, .pointer (some ⟨g47, 0, none⟩)), (35, .slice A45 p11.length c46), (36, .int .i64 (p11.length : Int)), (37, .int .i64 y1536)] a ∧ Box w o3995 1 g2 116 #[z3982, z3984, z3986, .int .i64 p15, z3988, z3990, z3991, z3993, .chan (some g29)] ∧ Box w o3995 100 g47 42 #[.int .i64 p1.sym, .int .i64 p1.i, .int .i64 p1.j] ∧ Row tBool 4 w o3995 2 z3988 y1543 ∧ Row tBool 4 w o3995 3 z3990 x.1 ∧ Row (tInt .i64) 3 w o3995 4 z3991 p24 ∧ Row tyPart 46 w o3995 5 z3993 x.2 ∧ Chan w o3995 6 g29 c30 (p31.map cv_46) ∧ ((tSlice 28 tyRule (by decide))).im w (L o3995 0) p11 [.slice A45 p11.length c46] ∧ (tSlice 9 tStr (by decide)).im w (L o3995 0) p3 [z3982] ∧ (tSlice 9 tStr (by decide)).im w (L o3995 0) p7 [z3984] ∧ (tSlice 28 tyRule (by decide)).im w (L o3995 0) p11 [z3986] ∧ Tr (Ls o0 [1, 2, 3, 5]) w0 o0 w o3995)) ?_ hx4445 ⟨o3072, (.slice A3050 p3.length c3051), (.slice A3052 p7.length c3053), (.slice A3054 p11.length c3055), (.slice A3042 y1543.length c3043), (.slice A3044 y1545.length c3045), (.slice A3046 p24.length c3047), (.slice A3048 y1548.length c3049), (M.pk [10, 11, 4, 12, 13, 14, 2, 1, 0] rfl), ((q3030.kn t3075).kk t3079 rfl), ((q3031.kn t3075).kk t3079 rfl), ((q3032.kn t3075).kk t3079 rfl rfl), ((q3033.kn t3075).kk t3079 rfl rfl), ((q3034.kn t3075).kk t3079 rfl rfl), ((q3035.kn t3075).kk t3079 rfl rfl), ((q3036.kn t3075).kk t3079 rfl), (iK (iN i3037 t3075) t3079 rfl), (iK (iN i3067 t3075) t3079 rfl), (iK (iN i3038 t3075) t3079 rfl), (iK (iN i3039 t3075) t3079 rfl), (iK (iN i3040 t3075) t3079 rfl), u248⟩ ?_
   ·rintro ⟨y3511, y3519, y3522⟩ a w3996 r3997 hI3998 h
    replace h : chart_Chart_sym_b1 k p1 p3 p7 p11 p15 p24 c30 p31 y1536 y1543 x3056 y3511 y3519 y3522 = some r3997 := h
    unfold chart_Chart_sym_b1 at h
    obtain ⟨o3999, z3512, z3514, z3516, z3518, z3520, z3521, z3523, M, q4000, q4001, q4002, q4003, q4004, q4005, q4006, i4007, i4008, i4009, i4010, i4011, T4012⟩ := hI3998
    obtain ⟨A4013, c4014, hzc4014, -⟩ := q4002.form
    subst hzc4014
    obtain ⟨A4015, c4016, hzc4016, -⟩ := q4003.form
    subst hzc4016
    obtain ⟨A4017, c4018, hzc4018, -⟩ := q4004.form
    subst hzc4018
    obtain ⟨A4019, c4020, hzc4020, -⟩ := q4005.form
    subst hzc4020
    obtain ⟨A4021, c4022, hzc4022, -⟩ := im_form i4009
    subst hzc4022
    obtain ⟨A4023, c4024, hzc4024, -⟩ := im_form i4010
    subst hzc4024
    obtain ⟨A4025, c4026, hzc4026, -⟩ := im_form i4011
    subst hzc4026
    refine c_seq <| c_reg <| pn (j := 1) E 1 M rfl rfl fun a M => x_end rfl <| q_then <| c_seq ?_
    by_cases hk250 : (decide (y3511 < (x3056.right.length : Int))) = true
    ·rw [if_pos hk250] at h
     have M := M.k 46 rfl hk250
     refine c_true (M.e 0 rfl) <| wp_skip <| q_then <| c_seq <| wp_block <| c_seq <| c_reg <| pn (j := 1) E 1 M rfl rfl fun a M => ?_
     obtain ⟨x4027, hx4028, h⟩ := bind_some h
     obtain ⟨hx40280, hx40281, hx40282⟩ := at_some hx4028
     obtain ⟨g4029, f4030, c4031, ds4032, hv4033, hd4034, he4035⟩ := im_elem i4008 hx40281
     have hsds4032 : ds4032 = [.int .i64 x4027] := hd4034
     subst hsds4032
     have he4035 : ElemAt w3996 o3999 0 g4029 f4030 (y3511).toNat 1 [.int .i64 x4027] := he4035
     refine ov rfl rfl M (x_indexAddr Try.underlying26 sz_3 ((M.e 8 rfl).trans hv4033) (M.e 10 rfl) hx40280 hx40282) fun a M => ov rfl rfl M (x_load ld_3 (M.e 0 rfl) (he4035.2 0 _ rfl)) fun a M => pn (j := 5) E 2 M rfl rfl fun a M => x_end rfl <| q_then <| c_seq <| c_seq <| c_reg <| pn (j := 2) E 2 M rfl rfl fun a M => ov rfl rfl M (x_load ld_3 (M.e 0 rfl) (q4001.cell (n := 0) rfl)) fun a M => pn (j := 4) E 1 M rfl rfl fun a M => x_end rfl <| q_then ?_
     by_cases hk252 : (x4027 != p1.sym) = true
     ·rw [if_pos hk252] at h
      have M := M.k 53 rfl hk252
      refine c_true (M.e 0 rfl) <| wp_exit <| q_then_exit <| q_blk_here <| q_then <| c_reg <| pn (j := 1) E 1 M rfl rfl fun a M => ?_
      have M := M.pk [0, 11, 12, 13, 14, 15, 16, 17, 18] rfl
      refine pn (j := 2) E 1 M rfl rfl fun a M => x_end rfl ?_
      obtain rfl := sj h
      exact lq_next ⟨o3999, (.slice A4021 p3.length c4022), (.slice A4023 p7.length c4024), (.slice A4025 p11.length c4026), (.slice A4013 y1543.length c4014), (.slice A4015 y3519.length c4016), (.slice A4017 p24.length c4018), (.slice A4019 y3522.length c4020), (M.pk [2, 3, 4, 5, 6, 7, 8, 9, 0] rfl), q4000, q4001, q4002, q4003, q4004, q4005, q4006, i4007, i4008, i4009, i4010, i4011, T4012⟩
     rw [if_neg hk252] at h
     have hk252 := nott hk252
     have M := M.k 53 rfl hk252
     refine c_false (M.e 0 rfl) <| wp_skip <| q_then <| c_seq <| c_reg <| pn (j := 1) E 1 M rfl rfl fun a M => ov rfl rfl M (x_load ld_3 (M.e 0 rfl) (q4001.cell (n := 1) rfl)) fun a M => pn (j := 4) E 2 M rfl rfl fun a M => x_end rfl <| q_then <| wp_block ?_
     obtain ⟨x4411, hx4412, h⟩ := bind_some h
     refine loop_iter (S := (Int × (List Bool) × (List Part))) (X := ((List Bool) × (List Part))) (fun (s : (Int × (List Bool) × (List Part))) => chart_Chart_sym_b2 k p1 p3 p7 p11 p15 p24 c30 p31 y1536 y1543 y3511 s.1 s.2.1 s.2.2) (fun (s : (Int × (List Bool) × (List Part))) (a : Act) (w : World) => ∃ (o4291 : Own) (z4139 : Value) (z4141 : Value) (z4143 : Value) (z4145 : Value) (z4147 : Value) (z4148 : Value) (z4150 : Value), MB 92 [] [(0, .pointer (some ⟨g2, 0, none⟩)), (3, .pointer (some ⟨g47, 0, none⟩)), (5, .int .i64 y1536), (7, .int .i64 y3511), (35, .slice A45 p11.length c46), (36, .int .i64 (p11.length : Int)), (37, .int .i64 y1536), (43, .slice A3065 x3056.right.length c3066), (44, .int .i64 (x3056.right.length : Int)), (45, .int .i64 y3511), (56, .int .i64 (IntKind.wrap .i64 (p1.i + (1 : Int)))), (57, .int .i64 s.1)] a ∧ Box w o4291 1 g2 116 #[z4139, z4141, z4143, .int .i64 p15, z4145, z4147, z4148, z4150, .chan (some g29)] ∧ Box w o4291 100 g47 42 #[.int .i64 p1.sym, .int .i64 p1.i, .int .i64 p1.j] ∧ Row tBool 4 w o4291 2 z4145 y1543 ∧ Row tBool 4 w o4291 3 z4147 s.2.1 ∧ Row (tInt .i64) 3 w o4291 4 z4148 p24 ∧ Row tyPart 46 w o4291 5 z4150 s.2.2 ∧ Chan w o4291 6 g29 c30 (p31.map cv_46) ∧ ((tSlice 28 tyRule (by decide))).im w (L o4291 0) p11 [.slice A45 p11.length c46] ∧ ((tSlice 3 (tInt .i64) (by decide))).im w (L o4291 0) x3056.right [.slice A3065 x3056.right.length c3066] ∧ (tSlice 9 tStr (by decide)).im w (L o4291 0) p3 [z4139] ∧ (tSlice 9 tStr (by decide)).im w (L o4291 0) p7 [z4141] ∧ (tSlice 28 tyRule (by decide)).im w (L o4291 0) p11 [z4143] ∧ Tr (Ls o0 [1, 2, 3, 5]) w0 o0 w o4291) (fun (x : ((List Bool) × (List Part))) (e : Exit) (a : Act) (w : World) => (e = .exit 4 ∧ ∃ (o4292 : Own) (z4279 : Value) (z4281 : Value) (z4283 : Value) (z4285 : Value) (z4287 : Value) (z4288 : Value) (z4290 : Value), MB 92 [] [(0, .pointer (some ⟨g2, 0, none⟩)), (3, .pointer (some ⟨g47, 0, none⟩)), (5, .int .i64 y1536), (35, .slice A45 p11.length c46), (36, .int .i64 (p11.length : Int)), (37, .int .i64 y1536), (43, .slice A3065 x3056.right.length c3066), (44, .int .i64 (x3056.right.length : Int)), (45, .int .i64 y3511)] a ∧ Box w o4292 1 g2 116 #[z4279, z4281, z4283, .int .i64 p15, z4285, z4287, z4288, z4290, .chan (some g29)] ∧ Box w o4292 100 g47 42 #[.int .i64 p1.sym, .int .i64 p1.i, .int .i64 p1.j] ∧ Row tBool 4 w o4292 2 z4285 y1543 ∧ Row tBool 4 w o4292 3 z4287 x.1 ∧ Row (tInt .i64) 3 w o4292 4 z4288 p24 ∧ Row tyPart 46 w o4292 5 z4290 x.2 ∧ Chan w o4292 6 g29 c30 (p31.map cv_46) ∧ ((tSlice 28 tyRule (by decide))).im w (L o4292 0) p11 [.slice A45 p11.length c46] ∧ ((tSlice 3 (tInt .i64) (by decide))).im w (L o4292 0) x3056.right [.slice A3065 x3056.right.length c3066] ∧ (tSlice 9 tStr (by decide)).im w (L o4292 0) p3 [z4279] ∧ (tSlice 9 tStr (by decide)).im w (L o4292 0) p7 [z4281] ∧ (tSlice 28 tyRule (by decide)).im w (L o4292 0) p11 [z4283] ∧ Tr (Ls o0 [1, 2, 3, 5]) w0 o0 w o4292)) ?_ hx4412 ⟨o3999, (.slice A4021 p3.length c4022), (.slice A4023 p7.length c4024), (.slice A4025 p11.length c4026), (.slice A4013 y1543.length c4014), (.slice A4015 y3519.length c4016), (.slice A4017 p24.length c4018), (.slice A4019 y3522.length c4020), (M.pk [14, 15, 16, 9, 17, 18, 19, 20, 21, 22, 1, 0] rfl), q4000, q4001, q4002, q4003, q4004, q4005, q4006, i4007, i4008, i4009, i4010, i4011, T4012⟩ ?_
     ·rintro ⟨y4138, y4146, y4149⟩ a w4293 r4294 hI4295 h
      replace h : chart_Chart_sym_b2 k p1 p3 p7 p11 p15 p24 c30 p31 y1536 y1543 y3511 y4138 y4146 y4149 = some r4294 := h
      unfold chart_Chart_sym_b2 at h
      obtain ⟨o4296, z4139, z4141, z4143, z4145, z4147, z4148, z4150, M, q4297, q4298, q4299, q4300, q4301, q4302, q4303, i4304, i4305, i4306, i4307, i4308, T4309⟩ := hI4295
      obtain ⟨A4310, c4311, hzc4311, -⟩ := q4299.form
      subst hzc4311
      obtain ⟨A4312, c4313, hzc4313, -⟩ := q4300.form
      subst hzc4313
      obtain ⟨A4314, c4315, hzc4315, -⟩ := q4301.form
      subst hzc4315
      obtain ⟨A4316, c4317, hzc4317, -⟩ := q4302.form
      subst hzc4317
      obtain ⟨A4318, c4319, hzc4319, -⟩ := im_form i4306
      subst hzc4319
      obtain ⟨A4320, c4321, hzc4321, -⟩ := im_form i4307
      subst hzc4321
      obtain ⟨A4322, c4323, hzc4323, -⟩ := im_form i4308
      subst hzc4323
      refine c_seq <| c_reg <| pn (j := 1) E 1 M rfl rfl fun a M => x_end rfl <| q_then <| c_seq ?_
      by_cases hk268 : (decide (y4138 < (IntKind.wrap .i64 (p1.i + (1 : Int))))) = true
      ·rw [if_pos hk268] at h
       have M := M.k 58 rfl hk268
       refine c_true (M.e 0 rfl) <| wp_skip <| q_then <| c_seq <| wp_block <| c_seq <| c_reg <| pn (j := 2) E 2 M rfl rfl fun a M => x_end rfl <| q_then <| c_seq ?_
       obtain ⟨x4325, hx4326, h⟩ := bind_some h
       obtain ⟨hx43260, hx43261, hx43262⟩ := at_some hx4326
       obtain ⟨g4327, f4328, c4329, ds4330, hv4331, hd4332, he4333⟩ := Row.elem q4301 hx43261
       have hsds4330 : ds4330 = [.int .i64 x4325] := hd4332
       subst hsds4330
       have he4333 : ElemAt w4293 o4296 4 g4327 f4328 (y1536).toNat 1 [.int .i64 x4325] := he4333
       obtain ⟨r4335, hr4336, h⟩ := bind_some h
       obtain ⟨x4345, hx4346, h⟩ := bind_some h
       obtain ⟨hx43460, hx43461, hx43462⟩ := at_some hx4346
       obtain ⟨g4347, f4348, c4349, ds4350, hv4351, hd4352, he4353⟩ := Row.elem q4300 hx43461
       have hsds4350 : ds4350 = [.bool x4345] := hd4352
       subst hsds4350
       have he4353 : ElemAt w4293 o4296 3 g4347 f4348 (IntKind.wrap .i64 ((IntKind.wrap .i64 ((IntKind.wrap .i64 ((IntKind.wrap .i64 ((IntKind.wrap .i64 (x4325 + y3511)) * (IntKind.wrap .i64 (p15 + (1 : Int))))) + y4138)) * (IntKind.wrap .i64 (p15 + (1 : Int))))) + p1.i)).toNat 1 [.bool x4345] := he4353
       refine draw_p E mixed [0, 1, 3, 7, 0, 0, 32, 96, 224, 0, 992, 2016, 0, 8160, 0, 0, 32768, 131056, 262143, 524287] (by kernel_rfl) rfl M [(3, .slice A4312 y4146.length c4313), (8, .slice A4314 p24.length c4315), (10, .pointer (some ⟨g4327, f4328 + (y1536).toNat * 1, none⟩)), (11, .int .i64 x4325), (16, .int .i64 p1.i), (17, .int .i64 (IntKind.wrap .i64 ((IntKind.wrap .i64 ((IntKind.wrap .i64 ((IntKind.wrap .i64 ((IntKind.wrap .i64 (x4325 + y3511)) * (IntKind.wrap .i64 (p15 + (1 : Int))))) + y4138)) * (IntKind.wrap .i64 (p15 + (1 : Int))))) + p1.i))), (18, .pointer (some ⟨g4347, f4348 + (IntKind.wrap .i64 ((IntKind.wrap .i64 ((IntKind.wrap .i64 ((IntKind.wrap .i64 ((IntKind.wrap .i64 (x4325 + y3511)) * (IntKind.wrap .i64 (p15 + (1 : Int))))) + y4138)) * (IntKind.wrap .i64 (p15 + (1 : Int))))) + p1.i)).toNat * 1, none⟩)), (19, .bool x4345)] rfl rfl rfl o4296 ⟨fun a w o M G r => qv rfl rfl M rfl (x_load ld_48 (G.e 2 rfl rfl) ((q4297.kn r).cell (n := 5) rfl)),
   fun a w o M G r => qv rfl rfl M rfl (x_load ld_26 (G.e 7 rfl rfl) ((q4297.kn r).cell (n := 6) rfl)),
   fun a w o M G r => qv rfl rfl M rfl (x_indexAddr Try.underlying26 sz_3 ((G.e 8 rfl rfl).trans hv4331) (G.e 9 rfl rfl) hx43260 hx43262),
   fun a w o M G r => qv rfl rfl M rfl (x_load ld_3 (G.e 10 rfl rfl) ((he4333.kn r).2 0 _ rfl)),
   fun a w o M G r => qv rfl rfl M rfl (x_load ld_3 (G.e 15 rfl rfl) ((q4298.kn r).cell (n := 1) rfl)),
   ?_,
   fun a w o M G r => qv rfl rfl M rfl (x_indexAddr Try.underlying48 sz_4 ((G.e 3 rfl rfl).trans hv4351) (G.e 17 rfl rfl) hx43460 hx43462),
   fun a w o M G r => qv rfl rfl M rfl (x_load ld_4 (G.e 18 rfl rfl) ((he4353.kn r).2 0 _ rfl)),
   trivial⟩ ?_
       ·intro a w o M G r
        refine dc rfl (wp0 rfl) rfl rfl M (x_call cf_81 (m4 (G.e 4 rfl rfl) (G.e 13 rfl rfl) (G.e 14 rfl rfl) (G.e 16 rfl rfl))) (chart_Chart_at_calls hr4336 (lko_own (T := [(0, 0), (1, 1), (2, 2), (3, 3), (4, 4), (5, 5), (6, 6)]) (o := o) rfl) (sL (iN i4306 r) rfl) (sL (iN i4307 r) rfl) (sL (iN i4308 r) rfl) ((q4297.kn r).l rfl) ((q4299.kn r).l rfl rfl) ((q4300.kn r).l rfl rfl) ((q4301.kn r).l rfl rfl) ((q4302.kn r).l rfl rfl) ((q4303.kn r).l rfl)) (fun e271 w4337 hp4338 => ?_)
        obtain ⟨o4339, he4340, T4341⟩ := hp4338
        obtain ⟨o4342, ho4343⟩ := ex (mrg w o [(0, 0), (1, 1), (2, 2), (3, 3), (4, 4), (5, 5), (6, 6)] o4339)
        have t4344 := T4341.r0 ho4343
        refine ⟨_, he4340, fun a' p => ?_⟩
        exact ⟨o4342, _, _, rfl, p, t4344⟩
       intro a w4355 o4356 M t4357
       refine q_then ?_
       by_cases hk272 : x4345 = true
       ·rw [if_pos hk272] at h
        have M := M.k 79 rfl hk272
        refine c_true (M.e 19 rfl) <| c_reg <| pn (j := 6) E 6 M rfl rfl fun a M => ov rfl rfl M (x_load ld_3 (M.e 0 rfl) ((q4298.kn t4357).cell (n := 2) rfl)) fun a M => ?_
        have hb4358 : ∀ w : World, (Instr.build 46 #[(0, .int .i64 y1536), (1, .int .i64 (IntKind.wrap .i64 (y3511 + (1 : Int)))), (2, .int .i64 y4138), (3, .int .i64 p1.j)]).run Try.prog w = .ok (.agg #[.int .i64 y1536, .int .i64 (IntKind.wrap .i64 (y3511 + (1 : Int))), .int .i64 y4138, .int .i64 p1.j]) w := fun w => by go_simp
        refine ov rfl rfl M (x_build (l4 (M.e 5 rfl) (M.e 3 rfl) (M.e 2 rfl) (M.e 0 rfl)) hb4358) fun a M => ?_
        obtain ⟨r4359, hr4360, h⟩ := bind_some h
        refine oc rfl (wp0 rfl) rfl rfl M (x_call cf_82 (m2 (M.e 7 rfl) (M.e 0 rfl))) (chart_Chart_part_calls hr4360 (lko_own (T := [(0, 0), (1, 1), (2, 2), (3, 3), (4, 4), (5, 5), (6, 6)]) (o := o4356) rfl) (sL (iN i4306 t4357) rfl) (sL (iN i4307 t4357) rfl) (sL (iN i4308 t4357) rfl) ((q4297.kn t4357).l rfl) ((q4299.kn t4357).l rfl rfl) ((q4300.kn t4357).l rfl rfl) ((q4301.kn t4357).l rfl rfl) ((q4302.kn t4357).l rfl rfl) ((q4303.kn t4357).l rfl)) (fun e273 w4361 hp4362 => ?_)
        obtain ⟨o4370, z4363, z4364, z4365, z4366, z4367, z4368, z4369, he4371, q4372, q4373, q4374, q4375, q4376, q4377, i4378, i4379, i4380, T4381⟩ := hp4362
        obtain ⟨o4382, ho4383⟩ := ex (mrg w4355 o4356 [(0, 0), (1, 1), (2, 2), (3, 3), (4, 4), (5, 5), (6, 6)] o4370)
        have t4384 := T4381.r ho4383 [1, 3, 5] rfl rfl
        have q4385 := q4372.r T4381 ho4383 1 rfl rfl
        have q4386 := q4373.r T4381 ho4383 3 rfl rfl rfl rfl
        have q4387 := q4374.r T4381 ho4383 5 rfl rfl rfl rfl
        have q4388 := q4375.r T4381 ho4383 2 rfl rfl rfl rfl
        have q4389 := q4376.r T4381 ho4383 4 rfl rfl rfl rfl
        have q4390 := q4377.r T4381 ho4383 6 rfl rfl
        have i4391 := iR i4378 T4381 ho4383 rfl rfl
        have i4393 := iR i4379 T4381 ho4383 rfl rfl
        have i4395 := iR i4380 T4381 ho4383 rfl rfl
        refine ⟨_, he4371, fun a M => ?_⟩
        obtain ⟨A4397, c4398, hzc4398, -⟩ := q4386.form
        subst hzc4398
        obtain ⟨A4399, c4400, hzc4400, -⟩ := q4387.form
        subst hzc4400
        obtain ⟨A4401, c4402, hzc4402, -⟩ := q4388.form
        subst hzc4402
        obtain ⟨A4403, c4404, hzc4404, -⟩ := q4389.form
        subst hzc4404
        obtain ⟨A4405, c4406, hzc4406, -⟩ := im_form i4391
        subst hzc4406
        obtain ⟨A4407, c4408, hzc4408, -⟩ := im_form i4393
        subst hzc4408
        obtain ⟨A4409, c4410, hzc4410, -⟩ := im_form i4395
        subst hzc4410
        refine x_end rfl <| q_blk <| q_then <| c_reg <| pn (j := 1) E 1 M rfl rfl fun a M => ?_
        have M := M.pk [0, 33, 34, 35, 36, 37, 38, 39, 40, 41, 42, 43] rfl
        refine pn (j := 2) E 1 M rfl rfl fun a M => x_end rfl ?_
        obtain rfl := sj h
        have u274 := (T4309.kn t4357).km t4384 hown rfl
        exact lq_next ⟨o4382, (.slice A4405 p3.length c4406), (.slice A4407 p7.length c4408), (.slice A4409 p11.length c4410), (.slice A4401 y1543.length c4402), (.slice A4397 r4359.1.length c4398), (.slice A4403 p24.length c4404), (.slice A4399 r4359.2.length c4400), (M.pk [2, 3, 4, 5, 6, 7, 8, 9, 10, 11, 12, 0] rfl), q4385, ((q4298.kn t4357).km t4384 rfl), q4388, q4386, q4389, q4387, q4390, (iM (iN i4304 t4357) t4384 rfl), (iM (iN i4305 t4357) t4384 rfl), i4391, i4393, i4395, u274⟩
       rw [if_neg hk272] at h
       have hk272 := nott hk272
       have M := M.k 79 rfl hk272
       refine c_false (M.e 19 rfl) <| wp_skip <| q_blk <| q_then <| c_reg <| pn (j := 1) E 1 M rfl rfl fun a M => ?_
       have M := M.pk [0, 24, 25, 26, 27, 28, 29, 30, 31, 32, 33, 34] rfl
       refine pn (j := 2) E 1 M rfl rfl fun a M => x_end rfl ?_
       obtain rfl := sj h
       have u275 := T4309.kn t4357
       exact lq_next ⟨o4356, (.slice A4318 p3.length c4319), (.slice A4320 p7.length c4321), (.slice A4322 p11.length c4323), (.slice A4310 y1543.length c4311), (.slice A4312 y4146.length c4313), (.slice A4314 p24.length c4315), (.slice A4316 y4149.length c4317), (M.pk [2, 3, 4, 5, 6, 7, 8, 9, 10, 11, 12, 0] rfl), (q4297.kn t4357), (q4298.kn t4357), (q4299.kn t4357), (q4300.kn t4357), (q4301.kn t4357), (q4302.kn t4357), (q4303.kn t4357), (iN i4304 t4357), (iN i4305 t4357), (iN i4306 t4357), (iN i4307 t4357), (iN i4308 t4357), u275⟩
      rw [if_neg hk268] at h
      have hk268 := nott hk268
      have M := M.k 58 rfl hk268
      refine c_false (M.e 0 rfl) <| wp_exit <| q_then_exit ?_
      obtain rfl := sj h
      exact lq_exit ⟨rfl, ⟨o4296, (.slice A4318 p3.length c4319), (.slice A4320 p7.length c4321), (.slice A4322 p11.length c4323), (.slice A4310 y1543.length c4311), (.slice A4312 y4146.length c4313), (.slice A4314 p24.length c4315), (.slice A4316 y4149.length c4317), (M.pk [1, 2, 3, 5, 6, 7, 8, 9, 10] rfl), q4297, q4298, q4299, q4300, q4301, q4302, q4303, i4304, i4305, i4306, i4307, i4308, T4309⟩⟩
     intro e276 a w4413 hO4414
     obtain ⟨he4415, hO4414⟩ := hO4414
     subst he4415
     obtain ⟨o4416, z4279, z4281, z4283, z4285, z4287, z4288, z4290, M, q4417, q4418, q4419, q4420, q4421, q4422, q4423, i4424, i4425, i4426, i4427, i4428, T4429⟩ := hO4414
     obtain ⟨A4430, c4431, hzc4431, -⟩ := q4419.form
     subst hzc4431
     obtain ⟨A4432, c4433, hzc4433, -⟩ := q4420.form
     subst hzc4433
     obtain ⟨A4434, c4435, hzc4435, -⟩ := q4421.form
     subst hzc4435
     obtain ⟨A4436, c4437, hzc4437, -⟩ := q4422.form
     subst hzc4437
     obtain ⟨A4438, c4439, hzc4439, -⟩ := im_form i4426
     subst hzc4439
     obtain ⟨A4440, c4441, hzc4441, -⟩ := im_form i4427
     subst hzc4441
     obtain ⟨A4442, c4443, hzc4443, -⟩ := im_form i4428
     subst hzc4443
     refine q_blk_here <| q_blk <| q_then <| c_reg <| pn (j := 1) E 1 M rfl rfl fun a M => ?_
     have M := M.pk [0, 1, 2, 3, 4, 5, 6, 7, 8] rfl
     refine pn (j := 2) E 1 M rfl rfl fun a M => x_end rfl ?_
     obtain rfl := sj h
     exact lq_next ⟨o4416, (.slice A4438 p3.length c4439), (.slice A4440 p7.length c4441), (.slice A4442 p11.length c4443), (.slice A4430 y1543.length c4431), (.slice A4432 x4411.1.length c4433), (.slice A4434 p24.length c4435), (.slice A4436 x4411.2.length c4437), (M.pk [2, 3, 4, 5, 6, 7, 8, 9, 0] rfl), q4417, q4418, q4419, q4420, q4421, q4422, q4423, i4424, i4425, i4426, i4427, i4428, T4429⟩
    rw [if_neg hk250] at h
    have hk250 := nott hk250
    have M := M.k 46 rfl hk250
    refine c_false (M.e 0 rfl) <| wp_exit <| q_then_exit ?_
    obtain rfl := sj h
    exact lq_exit ⟨rfl, ⟨o3999, (.slice A4021 p3.length c4022), (.slice A4023 p7.length c4024), (.slice A4025 p11.length c4026), (.slice A4013 y1543.length c4014), (.slice A4015 y3519.length c4016), (.slice A4017 p24.length c4018), (.slice A4019 y3522.length c4020), (M.pk [1, 2, 4, 5, 6] rfl), q4000, q4001, q4002, q4003, q4004, q4005, q4006, i4007, i4009, i4010, i4011, T4012⟩⟩
   intro e277 a w4446 hO4447
   obtain ⟨he4448, hO4447⟩ := hO4447
   subst he4448
   obtain ⟨o4449, z3982, z3984, z3986, z3988, z3990, z3991, z3993, M, q4450, q4451, q4452, q4453, q4454, q4455, q4456, i4457, i4458, i4459, i4460, T4461⟩ := hO4447
   obtain ⟨A4462, c4463, hzc4463, -⟩ := q4452.form
   subst hzc4463
   obtain ⟨A4464, c4465, hzc4465, -⟩ := q4453.form
   subst hzc4465
   obtain ⟨A4466, c4467, hzc4467, -⟩ := q4454.form
   subst hzc4467
   obtain ⟨A4468, c4469, hzc4469, -⟩ := q4455.form
   subst hzc4469
   obtain ⟨A4470, c4471, hzc4471, -⟩ := im_form i4458
   subst hzc4471
   obtain ⟨A4472, c4473, hzc4473, -⟩ := im_form i4459
   subst hzc4473
   obtain ⟨A4474, c4475, hzc4475, -⟩ := im_form i4460
   subst hzc4475
   refine q_blk_here <| q_blk <| q_then <| c_reg <| pn (j := 1) E 1 M rfl rfl fun a M => ?_
   have M := M.pk [0, 1, 2, 3, 4] rfl
   refine pn (j := 2) E 1 M rfl rfl fun a M => x_end rfl ?_
   obtain rfl := sj h
   exact lq_next ⟨o4449, (.slice A4470 p3.length c4471), (.slice A4472 p7.length c4473), (.slice A4474 p11.length c4475), (.slice A4462 y1543.length c4463), (.slice A4464 x4444.1.length c4465), (.slice A4466 p24.length c4467), (.slice A4468 x4444.2.length c4469), (M.pk [2, 3, 4, 5, 0] rfl), q4450, q4451, q4452, q4453, q4454, q4455, q4456, i4457, i4458, i4459, i4460, T4461⟩
  rw [if_neg hk191] at h
  have hk191 := nott hk191
  have M := M.k 38 rfl hk191
  refine c_false (M.e 0 rfl) <| wp_exit <| q_then_exit ?_
  obtain rfl := sj h
  exact lq_exit ⟨rfl, ⟨o3029, (.slice A3050 p3.length c3051), (.slice A3052 p7.length c3053), (.slice A3054 p11.length c3055), (.slice A3042 y1543.length c3043), (.slice A3044 y1545.length c3045), (.slice A3046 p24.length c3047), (.slice A3048 y1548.length c3049), (M.pk [] rfl), q3030, q3032, q3033, q3034, q3035, q3036, i3038, i3039, i3040, T3041⟩⟩
 intro e278 a w4478 hO4479
 obtain ⟨he4480, hO4479⟩ := hO4479
 subst he4480
 obtain ⟨o4481, z3011, z3013, z3015, z3018, z3020, z3021, z3023, M, q4482, q4483, q4484, q4485, q4486, q4487, i4488, i4489, i4490, T4491⟩ := hO4479
 obtain ⟨A4492, c4493, hzc4493, -⟩ := q4483.form
 subst hzc4493
 obtain ⟨A4494, c4495, hzc4495, -⟩ := q4484.form
 subst hzc4495
 obtain ⟨A4496, c4497, hzc4497, -⟩ := q4485.form
 subst hzc4497
 obtain ⟨A4498, c4499, hzc4499, -⟩ := q4486.form
 subst hzc4499
 obtain ⟨A4500, c4501, hzc4501, -⟩ := im_form i4488
 subst hzc4501
 obtain ⟨A4502, c4503, hzc4503, -⟩ := im_form i4489
 subst hzc4503
 obtain ⟨A4504, c4505, hzc4505, -⟩ := im_form i4490
 subst hzc4505
 refine q_blk_here ?_
 obtain rfl := sj h
 exact ⟨M.f.defers, _, (res0 Try.results135 ), ⟨o4481, (.slice A4500 p3.length c4501), (.slice A4502 p7.length c4503), (.slice A4504 p11.length c4505), (.slice A4492 x4476.1.length c4493), (.slice A4494 x4476.2.1.length c4495), (.slice A4498 x4476.2.2.length c4499), (.slice A4496 p24.length c4497), rfl, q4482, q4483, q4484, q4486, q4485, q4487, i4488, i4489, i4490, T4491⟩⟩
end Go.Proofs.Ythilemcdhkfhlaa
namespace Go.Proofs.Ythilemcdhkfhlaa
open Go Go.RowKit Go.Gc Go.Proofs
def chart_Chart_follow_b0 (k : Nat) (p1 : Part) (p3 : List ByteArray) (p7 : List ByteArray) (p11 : List Rule) (p15 : Int) (p18 : List Bool) (p24 : List Int) (c30 : Nat) (p31 : List Part) (r53 : (List Int)) (y329 : Int) (y337 : List Bool) (y340 : List Part) : Option ((Int × (List Bool) × (List Part)) ⊕ ((List Bool) × (List Part))) :=
  if (decide (y329 ≤ p15)) = true then ((at? r53 p1.dot).bind fun x514 => (chart_Chart_at k x514 p1.j y329 p3 p7 p11 p15 p18 y337 p24 y340 c30 p31).bind fun r524 => (at? p18 (IntKind.wrap .i64 ((IntKind.wrap .i64 ((IntKind.wrap .i64 ((IntKind.wrap .i64 (x514 * (IntKind.wrap .i64 (p15 + (1 : Int))))) + p1.j)) * (IntKind.wrap .i64 (p15 + (1 : Int))))) + y329))).bind fun x534 => if x534 = true then ((chart_Chart_part k (⟨p1.rule, IntKind.wrap .i64 (p1.dot + (1 : Int)), p1.i, y329⟩ : Part) p3 p7 p11 p15 p18 y337 p24 y340 c30 p31).bind fun r548 => some (.inl (IntKind.wrap .i64 (y329 + (1 : Int)), r548.1, r548.2))) else (some (.inl (IntKind.wrap .i64 (y329 + (1 : Int)), y337, y340)))) else (some (.inr (y337, y340)))
def chart_Chart_follow (k : Nat) (p1 : Part) (p3 : List ByteArray) (p7 : List ByteArray) (p11 : List Rule) (p15 : Int) (p18 : List Bool) (p21 : List Bool) (p24 : List Int) (p27 : List Part) (c30 : Nat) (p31 : List Part) : Option ((List Bool) × (List Bool) × (List Part)) :=
  (chart_Chart_right k p1.rule p3 p7 p11 p15 p18 p21 p24 p27 c30 p31).bind fun r53 => if (p1.dot == (r53.length : Int)) = true then ((at? p11 p1.rule).bind fun x150 => (chart_Chart_sym k (⟨x150.left, p1.i, p1.j⟩ : Span) p3 p7 p11 p15 p18 p21 p24 p27 c30 p31).bind fun r165 => some (r165.1, r165.2.1, r165.2.2)) else ((iter (fun (s : (Int × (List Bool) × (List Part))) => chart_Chart_follow_b0 k p1 p3 p7 p11 p15 p18 p24 c30 p31 r53 s.1 s.2.1 s.2.2) k (p1.j, p21, p27)).bind fun x600 => some (p18, x600.1, x600.2))
theorem chart_Chart_follow_calls {k : Nat} {p1 : Part} {g2 : Nat} {p3 : List ByteArray} {v4 : Value} {p7 : List ByteArray} {v8 : Value} {p11 : List Rule} {v12 : Value} {p15 : Int} {v17 : Value} {p18 : List Bool} {v20 : Value} {p21 : List Bool} {v23 : Value} {p24 : List Int} {v26 : Value} {p27 : List Part} {g29 : Nat} {c30 : Nat} {p31 : List Part} {r : ((List Bool) × (List Bool) × (List Part))} (h : chart_Chart_follow k p1 p3 p7 p11 p15 p18 p21 p24 p27 c30 p31 = some r) {w0 : World} {o0 : Own} (hown : Hown o0)
    (i6 : ((tSlice 9 tStr (by decide))).im w0 (L o0 0) p3 [v4])
    (i10 : ((tSlice 9 tStr (by decide))).im w0 (L o0 0) p7 [v8])
    (i14 : ((tSlice 28 tyRule (by decide))).im w0 (L o0 0) p11 [v12])
    (q16 : Box w0 o0 1 g2 116 #[v4, v8, v12, .int .i64 p15, v17, v20, v23, v26, .chan (some g29)])
    (q19 : Row tBool 4 w0 o0 2 v17 p18)
    (q22 : Row tBool 4 w0 o0 3 v20 p21)
    (q25 : Row (tInt .i64) 3 w0 o0 4 v23 p24)
    (q28 : Row tyPart 46 w0 o0 5 v26 p27)
    (q32 : Chan w0 o0 6 g29 c30 (p31.map cv_46)) :
    Calls Try.prog 84 #[.pointer (some ⟨g2, 0, none⟩), .agg #[.int .i64 p1.rule, .int .i64 p1.dot, .int .i64 p1.i, .int .i64 p1.j]] w0 (fun e w => ∃ (o630 : Own) (z630 : Value) (z632 : Value) (z634 : Value) (z637 : Value) (z639 : Value) (z641 : Value) (z642 : Value), e = .returned (.tuple #[]) ∧ Box w o630 1 g2 116 #[z630, z632, z634, .int .i64 p15, z637, z639, z642, z641, .chan (some g29)] ∧ Row tBool 4 w o630 2 z637 r.1 ∧ Row tBool 4 w o630 3 z639 r.2.1 ∧ Row tyPart 46 w o630 5 z641 r.2.2 ∧ Row (tInt .i64) 3 w o630 4 z642 p24 ∧ Chan w o630 6 g29 c30 (p31.map cv_46) ∧ (tSlice 9 tStr (by decide)).im w (L o630 0) p3 [z630] ∧ (tSlice 9 tStr (by decide)).im w (L o630 0) p7 [z632] ∧ (tSlice 28 tyRule (by decide)).im w (L o630 0) p11 [z634] ∧ Tr (Ls o0 [1, 2, 3, 5]) w0 o0 w o630) := by
 unfold chart_Chart_follow at h
 refine startM Try.func84 rfl Try.ntmps84 (show 2 ≤ 69 by decide) fun a M => ?_
 have M : MB 69 [] [(0, .pointer (some ⟨g2, 0, none⟩)), (1, .agg #[.int .i64 p1.rule, .int .i64 p1.dot, .int .i64 p1.i, .int .i64 p1.j])] a := M
 obtain ⟨A33, c34, hzc34, -⟩ := q19.form
 subst hzc34
 obtain ⟨A35, c36, hzc36, -⟩ := q22.form
 subst hzc36
 obtain ⟨A37, c38, hzc38, -⟩ := q25.form
 subst hzc38
 obtain ⟨A39, c40, hzc40, -⟩ := q28.form
 subst hzc40
 obtain ⟨A41, c42, hzc42, -⟩ := im_form i6
 subst hzc42
 obtain ⟨A43, c44, hzc44, -⟩ := im_form i10
 subst hzc44
 obtain ⟨A45, c46, hzc46, -⟩ := im_form i14
 subst hzc46
 have T0 : Tr (Ls o0 [1, 2, 3, 5]) w0 o0 w0 o0 := Tr.refl _ _ _
 refine c_seq <| c_reg ?_
 obtain ⟨g47, w48, o49, r50, b51, t52⟩ := b_box (P := Try.prog) (T := 46) (M.e 1 rfl) w0 o0 100
 refine ov rfl rfl M (r50 _ _ _ _ _) fun a M => x_end rfl <| q_then <| c_seq <| c_reg <| pn (j := 2) E 2 M rfl rfl fun a M => ov rfl rfl M (x_load ld_3 (M.e 0 rfl) (b51.cell (n := 0) rfl)) fun a M => ?_
 obtain ⟨r53, hr54, h⟩ := bind_some h
 refine oc rfl (wp0 rfl) rfl rfl M (x_call cf_87 (m2 (M.e 2 rfl) (M.e 0 rfl))) (chart_Chart_right_calls hr54 (lko_own (T := [(0, 0), (1, 1), (2, 2), (3, 3), (4, 4), (5, 5), (6, 6)]) (o := o49) rfl) (sL (iN i6 t52) rfl) (sL (iN i10 t52) rfl) (sL (iN i14 t52) rfl) ((q16.kn t52).l rfl) ((q19.kn t52).l rfl rfl) ((q22.kn t52).l rfl rfl) ((q25.kn t52).l rfl rfl) ((q28.kn t52).l rfl rfl) ((q32.kn t52).l rfl)) (fun e1 w55 hp56 => ?_)
 obtain ⟨o58, z57, he59, i60, T61⟩ := hp56
 obtain ⟨o62, ho63⟩ := ex (mrg w48 o49 [(0, 0), (1, 1), (2, 2), (3, 3), (4, 4), (5, 5), (6, 6)] o58)
 have t64 := T61.r0 ho63
 have i65 := iR i60 T61 ho63 rfl rfl
 refine ⟨_, he59, fun a M => ?_⟩
 obtain ⟨A67, c68, hzc68, -⟩ := im_form i65
 subst hzc68
 refine pn (j := 5) E 1 M rfl rfl fun a M => x_end rfl <| q_then <| c_seq <| c_seq <| c_reg <| pn (j := 1) E 1 M rfl rfl fun a M => ov rfl rfl M (x_load ld_3 (M.e 0 rfl) ((b51.kn t64).cell (n := 1) rfl)) fun a M => pn (j := 5) E 3 M rfl rfl fun a M => x_end rfl <| q_then ?_
 by_cases hk7 : (p1.dot == (r53.length : Int)) = true
 ·rw [if_pos hk7] at h
  have M := M.k 14 rfl hk7
  refine c_true (M.e 0 rfl) <| c_seq ?_
  obtain ⟨x150, hx151, h⟩ := bind_some h
  obtain ⟨hx1510, hx1511, hx1512⟩ := at_some hx151
  obtain ⟨g152, f153, c154, ds155, hv156, hd157, he158⟩ := im_elem (iN (iN i14 t52) t64) hx1511
  obtain ⟨A159, c160, rfl, i161⟩ := Rule_open hd157
  have he158 : ElemAt w55 o62 0 g152 f153 (p1.rule).toNat 2 [.int .i64 x150.left, .slice A159 x150.right.length c160] := he158
  obtain ⟨r165, hr166, h⟩ := bind_some h
  have u11 := (T0.kn t52).kn t64
  refine draw_m mixed [0, 0, 2, 6, 14, 30, 0, 64, 254, 510, 1022, 0, 2048, 0, 8192, 32766, 65535] (by kernel_rfl) rfl M (fun U a w => ∃ (o : Own) (A203 : Option Addr) (c204 : Nat) (A205 : Option Addr) (c206 : Nat) (A207 : Option Addr) (c208 : Nat) (A209 : Option Addr) (c210 : Nat) (A211 : Option Addr) (c212 : Nat) (A213 : Option Addr) (c214 : Nat) (A215 : Option Addr) (c216 : Nat), Tab [(0, 15, .pointer (some ⟨g2, 0, none⟩)), (1, 16, .pointer (some ⟨g2, 0, none⟩)), (2, 17, .pointer (some ⟨g2, 0, none⟩)), (3, 18, .pointer (some ⟨g2, 0, none⟩)), (4, 19, .pointer (some ⟨g2, 2, none⟩)), (5, 20, .slice A45 p11.length c46), (6, 21, .pointer (some ⟨g47, 0, none⟩)), (7, 22, .int .i64 p1.rule), (8, 23, .pointer (some ⟨g152, f153 + (p1.rule).toNat * 2, none⟩)), (9, 24, .pointer (some ⟨g152, f153 + (p1.rule).toNat * 2, none⟩)), (10, 25, .int .i64 x150.left), (11, 26, .pointer (some ⟨g47, 2, none⟩)), (12, 27, .int .i64 p1.i), (13, 28, .pointer (some ⟨g47, 3, none⟩)), (14, 29, .int .i64 p1.j), (15, 30, .agg #[.int .i64 x150.left, .int .i64 p1.i, .int .i64 p1.j]), (16, 31, .tuple #[])] U a ∧ Tr (FL [(16, 1), (16, 2), (16, 3), (16, 5)] o62 U) w55 o62 w o ∧ (U 16 = true → Box w o 1 g2 116 #[.slice A211 p3.length c212, .slice A213 p7.length c214, .slice A215 p11.length c216, .int .i64 p15, .slice A203 r165.1.length c204, .slice A205 r165.2.1.length c206, .slice A209 p24.length c210, .slice A207 r165.2.2.length c208, .chan (some g29)]) ∧ (U 16 = true → Row tBool 4 w o 2 (.slice A203 r165.1.length c204) r165.1) ∧ (U 16 = true → Row tBool 4 w o 3 (.slice A205 r165.2.1.length c206) r165.2.1) ∧ (U 16 = true → Row tyPart 46 w o 5 (.slice A207 r165.2.2.length c208) r165.2.2) ∧ (U 16 = true → Row (tInt .i64) 3 w o 4 (.slice A209 p24.length c210) p24) ∧ (U 16 = true → (tSlice 9 tStr (by decide)).im w (L o 0) p3 [.slice A211 p3.length c212]) ∧ (U 16 = true → (tSlice 9 tStr (by decide)).im w (L o 0) p7 [.slice A213 p7.length c214]) ∧ (U 16 = true → (tSlice 28 tyRule (by decide)).im w (L o 0) p11 [.slice A215 p11.length c216])) ?_ ⟨?_, ?_, ?_, ?_, ?_, ?_, ?_, ?_, ?_, ?_, ?_, ?_, ?_, ?_, ?_, ?_, ?_, trivial⟩ ?_
  ·exact ⟨o62, none, 0, none, 0, none, 0, none, 0, none, 0, none, 0, none, 0, Tab.start, FL.start (tr_drew _ _), fun h => Bool.noConfusion h, fun h => Bool.noConfusion h, fun h => Bool.noConfusion h, fun h => Bool.noConfusion h, fun h => Bool.noConfusion h, fun h => Bool.noConfusion h, fun h => Bool.noConfusion h, fun h => Bool.noConfusion h⟩
  ·intro U a w M hL hA hD hI
   obtain ⟨o, A203, c204, A205, c206, A207, c208, A209, c210, A211, c212, A213, c214, A215, c216, TG0, tr, FE0, FE1, FE2, FE3, FE4, FE5, FE6, FE7⟩ := hI
   refine dv rfl rfl M (x_move (M.e 11 rfl)) fun a' p => ?_
   exact ⟨M.st p rfl, o, A203, c204, A205, c206, A207, c208, A209, c210, A211, c212, A213, c214, A215, c216, (TG0.step p 0 rfl rfl), (FL.idle tr), FE0, FE1, FE2, FE3, FE4, FE5, FE6, FE7⟩
  ·intro U a w M hL hA hD hI
   obtain ⟨o, A203, c204, A205, c206, A207, c208, A209, c210, A211, c212, A213, c214, A215, c216, TG0, tr, FE0, FE1, FE2, FE3, FE4, FE5, FE6, FE7⟩ := hI
   refine dv rfl rfl M (x_move (M.e 11 rfl)) fun a' p => ?_
   exact ⟨M.st p rfl, o, A203, c204, A205, c206, A207, c208, A209, c210, A211, c212, A213, c214, A215, c216, (TG0.step p 1 rfl rfl), (FL.idle tr), FE0, FE1, FE2, FE3, FE4, FE5, FE6, FE7⟩
  ·intro U a w M hL hA hD hI
   obtain ⟨o, A203, c204, A205, c206, A207, c208, A209, c210, A211, c212, A213, c214, A215, c216, TG0, tr, FE0, FE1, FE2, FE3, FE4, FE5, FE6, FE7⟩ := hI
   refine dv rfl rfl M (x_nilCheck (e_tmp (TG0.get 1 rfl (hA 1 rfl)))) fun a' p => ?_
   exact ⟨M.st p rfl, o, A203, c204, A205, c206, A207, c208, A209, c210, A211, c212, A213, c214, A215, c216, (TG0.step p 2 rfl rfl), (FL.idle tr), FE0, FE1, FE2, FE3, FE4, FE5, FE6, FE7⟩
  ·intro U a w M hL hA hD hI
   obtain ⟨o, A203, c204, A205, c206, A207, c208, A209, c210, A211, c212, A213, c214, A215, c216, TG0, tr, FE0, FE1, FE2, FE3, FE4, FE5, FE6, FE7⟩ := hI
   refine dv rfl rfl M (x_fieldAddr fa_116_0 (e_tmp (TG0.get 2 rfl (hA 2 rfl))) rfl) fun a' p => ?_
   exact ⟨M.st p rfl, o, A203, c204, A205, c206, A207, c208, A209, c210, A211, c212, A213, c214, A215, c216, (TG0.step p 3 rfl rfl), (FL.idle tr), FE0, FE1, FE2, FE3, FE4, FE5, FE6, FE7⟩
  ·intro U a w M hL hA hD hI
   obtain ⟨o, A203, c204, A205, c206, A207, c208, A209, c210, A211, c212, A213, c214, A215, c216, TG0, tr, FE0, FE1, FE2, FE3, FE4, FE5, FE6, FE7⟩ := hI
   refine dv rfl rfl M (x_fieldAddr fa_25_2 (e_tmp (TG0.get 3 rfl (hA 3 rfl))) rfl) fun a' p => ?_
   exact ⟨M.st p rfl, o, A203, c204, A205, c206, A207, c208, A209, c210, A211, c212, A213, c214, A215, c216, (TG0.step p 4 rfl rfl), (FL.idle tr), FE0, FE1, FE2, FE3, FE4, FE5, FE6, FE7⟩
  ·intro U a w M hL hA hD hI
   obtain ⟨o, A203, c204, A205, c206, A207, c208, A209, c210, A211, c212, A213, c214, A215, c216, TG0, tr, FE0, FE1, FE2, FE3, FE4, FE5, FE6, FE7⟩ := hI
   refine dv rfl rfl M (x_load ld_23 (e_tmp (TG0.get 4 rfl (hA 4 rfl))) ((((q16.kn t52).kn t64).keep_ (FL.same tr ⟨fun _ => (hD 16 rfl), ⟨fun h => absurd h (ne rfl), ⟨fun h => absurd h (ne rfl), ⟨fun h => absurd h (ne rfl), trivial⟩⟩⟩⟩)).cell (n := 2) rfl)) fun a' p => ?_
   exact ⟨M.st p rfl, o, A203, c204, A205, c206, A207, c208, A209, c210, A211, c212, A213, c214, A215, c216, (TG0.step p 5 rfl rfl), (FL.idle tr), FE0, FE1, FE2, FE3, FE4, FE5, FE6, FE7⟩
  ·intro U a w M hL hA hD hI
   obtain ⟨o, A203, c204, A205, c206, A207, c208, A209, c210, A211, c212, A213, c214, A215, c216, TG0, tr, FE0, FE1, FE2, FE3, FE4, FE5, FE6, FE7⟩ := hI
   refine dv rfl rfl M (x_fieldAddr fa_46_0 (M.e 10 rfl) rfl) fun a' p => ?_
   exact ⟨M.st p rfl, o, A203, c204, A205, c206, A207, c208, A209, c210, A211, c212, A213, c214, A215, c216, (TG0.step p 6 rfl rfl), (FL.idle tr), FE0, FE1, FE2, FE3, FE4, FE5, FE6, FE7⟩
  ·intro U a w M hL hA hD hI
   obtain ⟨o, A203, c204, A205, c206, A207, c208, A209, c210, A211, c212, A213, c214, A215, c216, TG0, tr, FE0, FE1, FE2, FE3, FE4, FE5, FE6, FE7⟩ := hI
   refine dv rfl rfl M (x_load ld_3 (e_tmp (TG0.get 6 rfl (hA 6 rfl))) (((b51.kn t64).keep_ (FL.same tr ⟨fun h => absurd h (ne rfl), ⟨fun h => absurd h (ne rfl), ⟨fun h => absurd h (ne rfl), ⟨fun h => absurd h (ne rfl), trivial⟩⟩⟩⟩)).cell (n := 0) rfl)) fun a' p => ?_
   exact ⟨M.st p rfl, o, A203, c204, A205, c206, A207, c208, A209, c210, A211, c212, A213, c214, A215, c216, (TG0.step p 7 rfl rfl), (FL.idle tr), FE0, FE1, FE2, FE3, FE4, FE5, FE6, FE7⟩
  ·intro U a w M hL hA hD hI
   obtain ⟨o, A203, c204, A205, c206, A207, c208, A209, c210, A211, c212, A213, c214, A215, c216, TG0, tr, FE0, FE1, FE2, FE3, FE4, FE5, FE6, FE7⟩ := hI
   refine dv rfl rfl M (x_indexAddr Try.underlying23 sz_28 ((e_tmp (TG0.get 5 rfl (hA 5 rfl))).trans hv156) (e_tmp (TG0.get 7 rfl (hA 7 rfl))) hx1510 hx1512) fun a' p => ?_
   exact ⟨M.st p rfl, o, A203, c204, A205, c206, A207, c208, A209, c210, A211, c212, A213, c214, A215, c216, (TG0.step p 8 rfl rfl), (FL.idle tr), FE0, FE1, FE2, FE3, FE4, FE5, FE6, FE7⟩
  ·intro U a w M hL hA hD hI
   obtain ⟨o, A203, c204, A205, c206, A207, c208, A209, c210, A211, c212, A213, c214, A215, c216, TG0, tr, FE0, FE1, FE2, FE3, FE4, FE5, FE6, FE7⟩ := hI
   refine dv rfl rfl M (x_fieldAddr (m := f153 + (p1.rule).toNat * 2) fa_28_0 (e_tmp (TG0.get 8 rfl (hA 8 rfl))) (by omega)) fun a' p => ?_
   exact ⟨M.st p rfl, o, A203, c204, A205, c206, A207, c208, A209, c210, A211, c212, A213, c214, A215, c216, (TG0.step p 9 rfl rfl), (FL.idle tr), FE0, FE1, FE2, FE3, FE4, FE5, FE6, FE7⟩
  ·intro U a w M hL hA hD hI
   obtain ⟨o, A203, c204, A205, c206, A207, c208, A209, c210, A211, c212, A213, c214, A215, c216, TG0, tr, FE0, FE1, FE2, FE3, FE4, FE5, FE6, FE7⟩ := hI
   refine dv rfl rfl M (x_load ld_3 (e_tmp (TG0.get 9 rfl (hA 9 rfl))) ((he158.keep_ (Nat.succ_pos _) (FL.same tr ⟨fun h => absurd h (ne rfl), ⟨fun h => absurd h (ne rfl), ⟨fun h => absurd h (ne rfl), ⟨fun h => absurd h (ne rfl), trivial⟩⟩⟩⟩)).2 0 _ rfl)) fun a' p => ?_
   exact ⟨M.st p rfl, o, A203, c204, A205, c206, A207, c208, A209, c210, A211, c212, A213, c214, A215, c216, (TG0.step p 10 rfl rfl), (FL.idle tr), FE0, FE1, FE2, FE3, FE4, FE5, FE6, FE7⟩
  ·intro U a w M hL hA hD hI
   obtain ⟨o, A203, c204, A205, c206, A207, c208, A209, c210, A211, c212, A213, c214, A215, c216, TG0, tr, FE0, FE1, FE2, FE3, FE4, FE5, FE6, FE7⟩ := hI
   refine dv rfl rfl M (x_fieldAddr fa_46_2 (M.e 10 rfl) rfl) fun a' p => ?_
   exact ⟨M.st p rfl, o, A203, c204, A205, c206, A207, c208, A209, c210, A211, c212, A213, c214, A215, c216, (TG0.step p 11 rfl rfl), (FL.idle tr), FE0, FE1, FE2, FE3, FE4, FE5, FE6, FE7⟩
  ·intro U a w M hL hA hD hI
   obtain ⟨o, A203, c204, A205, c206, A207, c208, A209, c210, A211, c212, A213, c214, A215, c216, TG0, tr, FE0, FE1, FE2, FE3, FE4, FE5, FE6, FE7⟩ := hI
   refine dv rfl rfl M (x_load ld_3 (e_tmp (TG0.get 11 rfl (hA 11 rfl))) (((b51.kn t64).keep_ (FL.same tr ⟨fun h => absurd h (ne rfl), ⟨fun h => absurd h (ne rfl), ⟨fun h => absurd h (ne rfl), ⟨fun h => absurd h (ne rfl), trivial⟩⟩⟩⟩)).cell (n := 2) rfl)) fun a' p => ?_
   exact ⟨M.st p rfl, o, A203, c204, A205, c206, A207, c208, A209, c210, A211, c212, A213, c214, A215, c216, (TG0.step p 12 rfl rfl), (FL.idle tr), FE0, FE1, FE2, FE3, FE4, FE5, FE6, FE7⟩
  ·intro U a w M hL hA hD hI
   obtain ⟨o, A203, c204, A205, c206, A207, c208, A209, c210, A211, c212, A213, c214, A215, c216, TG0, tr, FE0, FE1, FE2, FE3, FE4, FE5, FE6, FE7⟩ := hI
   refine dv rfl rfl M (x_fieldAddr fa_46_3 (M.e 10 rfl) rfl) fun a' p => ?_
   exact ⟨M.st p rfl, o, A203, c204, A205, c206, A207, c208, A209, c210, A211, c212, A213, c214, A215, c216, (TG0.step p 13 rfl rfl), (FL.idle tr), FE0, FE1, FE2, FE3, FE4, FE5, FE6, FE7⟩
  ·intro U a w M hL hA hD hI
   obtain ⟨o, A203, c204, A205, c206, A207, c208, A209, c210, A211, c212, A213, c214, A215, c216, TG0, tr, FE0, FE1, FE2, FE3, FE4, FE5, FE6, FE7⟩ := hI
   refine dv rfl rfl M (x_load ld_3 (e_tmp (TG0.get 13 rfl (hA 13 rfl))) (((b51.kn t64).keep_ (FL.same tr ⟨fun h => absurd h (ne rfl), ⟨fun h => absurd h (ne rfl), ⟨fun h => absurd h (ne rfl), ⟨fun h => absurd h (ne rfl), trivial⟩⟩⟩⟩)).cell (n := 3) rfl)) fun a' p => ?_
   exact ⟨M.st p rfl, o, A203, c204, A205, c206, A207, c208, A209, c210, A211, c212, A213, c214, A215, c216, (TG0.step p 14 rfl rfl), (FL.idle tr), FE0, FE1, FE2, FE3, FE4, FE5, FE6, FE7⟩
  ·intro U a w M hL hA hD hI
   obtain ⟨o, A203, c204, A205, c206, A207, c208, A209, c210, A211, c212, A213, c214, A215, c216, TG0, tr, FE0, FE1, FE2, FE3, FE4, FE5, FE6, FE7⟩ := hI
   have hb164 : ∀ w : World, (Instr.build 42 #[(0, .int .i64 x150.left), (1, .int .i64 p1.i), (2, .int .i64 p1.j)]).run Try.prog w = .ok (.agg #[.int .i64 x150.left, .int .i64 p1.i, .int .i64 p1.j]) w := fun w => by go_simp
   refine dv rfl rfl M (x_build (l3 (e_tmp (TG0.get 10 rfl (hA 10 rfl))) (e_tmp (TG0.get 12 rfl (hA 12 rfl))) (e_tmp (TG0.get 14 rfl (hA 14 rfl)))) hb164) fun a' p => ?_
   exact ⟨M.st p rfl, o, A203, c204, A205, c206, A207, c208, A209, c210, A211, c212, A213, c214, A215, c216, (TG0.step p 15 rfl rfl), (FL.idle tr), FE0, FE1, FE2, FE3, FE4, FE5, FE6, FE7⟩
  ·intro U a w M hL hA hD hI
   obtain ⟨o, A203, c204, A205, c206, A207, c208, A209, c210, A211, c212, A213, c214, A215, c216, TG0, tr, FE0, FE1, FE2, FE3, FE4, FE5, FE6, FE7⟩ := hI
   refine dc rfl (wp0 rfl) rfl rfl M (x_call cf_135 (m2 (e_tmp (TG0.get 0 rfl (hA 0 rfl))) (e_tmp (TG0.get 15 rfl (hA 15 rfl))))) (chart_Chart_sym_calls hr166 (lko_own (T := [(0, 0), (1, 1), (2, 2), (3, 3), (4, 4), (5, 5), (6, 6)]) (o := o) rfl) (sL (Ty.loc _ (FL.same tr ⟨fun h => absurd h (ne rfl), ⟨fun h => absurd h (ne rfl), ⟨fun h => absurd h (ne rfl), ⟨fun h => absurd h (ne rfl), trivial⟩⟩⟩⟩) (iN (iN i6 t52) t64)) rfl) (sL (Ty.loc _ (FL.same tr ⟨fun h => absurd h (ne rfl), ⟨fun h => absurd h (ne rfl), ⟨fun h => absurd h (ne rfl), ⟨fun h => absurd h (ne rfl), trivial⟩⟩⟩⟩) (iN (iN i10 t52) t64)) rfl) (sL (Ty.loc _ (FL.same tr ⟨fun h => absurd h (ne rfl), ⟨fun h => absurd h (ne rfl), ⟨fun h => absurd h (ne rfl), ⟨fun h => absurd h (ne rfl), trivial⟩⟩⟩⟩) (iN (iN i14 t52) t64)) rfl) ((((q16.kn t52).kn t64).keep_ (FL.same tr ⟨fun _ => hL, ⟨fun h => absurd h (ne rfl), ⟨fun h => absurd h (ne rfl), ⟨fun h => absurd h (ne rfl), trivial⟩⟩⟩⟩)).l rfl) ((((q19.kn t52).kn t64).keep_ (FL.same tr ⟨fun h => absurd h (ne rfl), ⟨fun _ => hL, ⟨fun h => absurd h (ne rfl), ⟨fun h => absurd h (ne rfl), trivial⟩⟩⟩⟩) (FL.same tr ⟨fun h => absurd h (ne rfl), ⟨fun h => absurd h (ne rfl), ⟨fun h => absurd h (ne rfl), ⟨fun h => absurd h (ne rfl), trivial⟩⟩⟩⟩)).l rfl rfl) ((((q22.kn t52).kn t64).keep_ (FL.same tr ⟨fun h => absurd h (ne rfl), ⟨fun h => absurd h (ne rfl), ⟨fun _ => hL, ⟨fun h => absurd h (ne rfl), trivial⟩⟩⟩⟩) (FL.same tr ⟨fun h => absurd h (ne rfl), ⟨fun h => absurd h (ne rfl), ⟨fun h => absurd h (ne rfl), ⟨fun h => absurd h (ne rfl), trivial⟩⟩⟩⟩)).l rfl rfl) ((((q25.kn t52).kn t64).keep_ (FL.same tr ⟨fun h => absurd h (ne rfl), ⟨fun h => absurd h (ne rfl), ⟨fun h => absurd h (ne rfl), ⟨fun h => absurd h (ne rfl), trivial⟩⟩⟩⟩) (FL.same tr ⟨fun h => absurd h (ne rfl), ⟨fun h => absurd h (ne rfl), ⟨fun h => absurd h (ne rfl), ⟨fun h => absurd h (ne rfl), trivial⟩⟩⟩⟩)).l rfl rfl) ((((q28.kn t52).kn t64).keep_ (FL.same tr ⟨fun h => absurd h (ne rfl), ⟨fun h => absurd h (ne rfl), ⟨fun h => absurd h (ne rfl), ⟨fun _ => hL, trivial⟩⟩⟩⟩) (FL.same tr ⟨fun h => absurd h (ne rfl), ⟨fun h => absurd h (ne rfl), ⟨fun h => absurd h (ne rfl), ⟨fun h => absurd h (ne rfl), trivial⟩⟩⟩⟩)).l rfl rfl) ((((q32.kn t52).kn t64).keep_ (FL.same tr ⟨fun h => absurd h (ne rfl), ⟨fun h => absurd h (ne rfl), ⟨fun h => absurd h (ne rfl), ⟨fun h => absurd h (ne rfl), trivial⟩⟩⟩⟩)).l rfl)) (fun e10 w167 hp168 => ?_)
   obtain ⟨o176, z169, z170, z171, z172, z173, z174, z175, he177, q178, q179, q180, q181, q182, q183, i184, i185, i186, T187⟩ := hp168
   obtain ⟨o188, ho189⟩ := ex (mrg w o [(0, 0), (1, 1), (2, 2), (3, 3), (4, 4), (5, 5), (6, 6)] o176)
   have t190 := T187.r ho189 [1, 2, 3, 5] rfl rfl
   have q191 := q178.r T187 ho189 1 rfl rfl
   have q192 := q179.r T187 ho189 2 rfl rfl rfl rfl
   have q193 := q180.r T187 ho189 3 rfl rfl rfl rfl
   have q194 := q181.r T187 ho189 5 rfl rfl rfl rfl
   have q195 := q182.r T187 ho189 4 rfl rfl rfl rfl
   have q196 := q183.r T187 ho189 6 rfl rfl
   have i197 := iR i184 T187 ho189 rfl rfl
   have i199 := iR i185 T187 ho189 rfl rfl
   have i201 := iR i186 T187 ho189 rfl rfl
   refine ⟨_, he177, fun a' p => ?_⟩
   obtain ⟨A203, c204, hzc204, -⟩ := q192.form
   subst hzc204
   obtain ⟨A205, c206, hzc206, -⟩ := q193.form
   subst hzc206
   obtain ⟨A207, c208, hzc208, -⟩ := q194.form
   subst hzc208
   obtain ⟨A209, c210, hzc210, -⟩ := q195.form
   subst hzc210
   obtain ⟨A211, c212, hzc212, -⟩ := im_form i197
   subst hzc212
   obtain ⟨A213, c214, hzc214, -⟩ := im_form i199
   subst hzc214
   obtain ⟨A215, c216, hzc216, -⟩ := im_form i201
   subst hzc216
   exact ⟨M.st p rfl, o188, A203, c204, A205, c206, A207, c208, A209, c210, A211, c212, A213, c214, A215, c216, (TG0.step p 16 rfl rfl), (FL.stm tr t190 rfl), (fun _ => q191), (fun _ => q192), (fun _ => q193), (fun _ => q194), (fun _ => q195), (fun _ => i197), (fun _ => i199), (fun _ => i201)⟩
  intro U a w217 M hA hI
  obtain ⟨o218, A203, c204, A205, c206, A207, c208, A209, c210, A211, c212, A213, c214, A215, c216, TG0, tr, FE0, FE1, FE2, FE3, FE4, FE5, FE6, FE7⟩ := hI
  have q219 := (FE0 (hA 16 rfl))
  have q220 := (FE1 (hA 16 rfl))
  have q221 := (FE2 (hA 16 rfl))
  have q222 := (FE3 (hA 16 rfl))
  have q223 := (FE4 (hA 16 rfl))
  have q224 := (((q32.kn t52).kn t64).keep_ (FL.same tr ⟨fun h => absurd h (ne rfl), ⟨fun h => absurd h (ne rfl), ⟨fun h => absurd h (ne rfl), ⟨fun h => absurd h (ne rfl), trivial⟩⟩⟩⟩))
  have i225 := (FE5 (hA 16 rfl))
  have i226 := (FE6 (hA 16 rfl))
  have i227 := (FE7 (hA 16 rfl))
  have T228 := Tr.kf u11 tr hown rfl
  clear hA TG0 tr FE0 FE1 FE2 FE3 FE4 FE5 FE6 FE7
  refine q_then <| wp_ret <| q_then_ret ?_
  obtain rfl := sj h
  exact ⟨M.f.defers, _, (res0 Try.results84 ), ⟨o218, (.slice A211 p3.length c212), (.slice A213 p7.length c214), (.slice A215 p11.length c216), (.slice A203 r165.1.length c204), (.slice A205 r165.2.1.length c206), (.slice A207 r165.2.2.length c208), (.slice A209 p24.length c210), rfl, q219, q220, q221, q222, q223, q224, i225, i226, i227, T228⟩⟩
 rw [if_neg hk7] at h
 have hk7 := nott hk7
 have M := M.k 14 rfl hk7
 refine c_false (M.e 0 rfl) <| wp_skip <| q_then <| c_seq <| c_reg <| pn (j := 1) E 1 M rfl rfl fun a M => ov rfl rfl M (x_load ld_3 (M.e 0 rfl) ((b51.kn t64).cell (n := 3) rfl)) fun a M => pn (j := 3) E 1 M rfl rfl fun a M => x_end rfl <| q_then <| wp_block ?_
 have u26 := (T0.kn t52).kn t64
 obtain ⟨x600, hx601, h⟩ := bind_some h
 refine loop_iter (S := (Int × (List Bool) × (List Part))) (X := ((List Bool) × (List Part))) (fun (s : (Int × (List Bool) × (List Part))) => chart_Chart_follow_b0 k p1 p3 p7 p11 p15 p18 p24 c30 p31 r53 s.1 s.2.1 s.2.2) (fun (s : (Int × (List Bool) × (List Part))) (a : Act) (w : World) => ∃ (o481 : Own) (z330 : Value) (z332 : Value) (z334 : Value) (z336 : Value) (z338 : Value) (z339 : Value) (z341 : Value), MB 69 [] [(0, .pointer (some ⟨g2, 0, none⟩)), (3, .pointer (some ⟨g47, 0, none⟩)), (4, .slice A67 r53.length c68), (5, .int .i64 s.1)] a ∧ Box w o481 1 g2 116 #[z330, z332, z334, .int .i64 p15, z336, z338, z339, z341, .chan (some g29)] ∧ Box w o481 100 g47 46 #[.int .i64 p1.rule, .int .i64 p1.dot, .int .i64 p1.i, .int .i64 p1.j] ∧ Row tBool 4 w o481 2 z336 p18 ∧ Row tBool 4 w o481 3 z338 s.2.1 ∧ Row (tInt .i64) 3 w o481 4 z339 p24 ∧ Row tyPart 46 w o481 5 z341 s.2.2 ∧ Chan w o481 6 g29 c30 (p31.map cv_46) ∧ (tSlice 3 (tInt .i64) (by decide)).im w (L o481 0) r53 [.slice A67 r53.length c68] ∧ (tSlice 9 tStr (by decide)).im w (L o481 0) p3 [z330] ∧ (tSlice 9 tStr (by decide)).im w (L o481 0) p7 [z332] ∧ (tSlice 28 tyRule (by decide)).im w (L o481 0) p11 [z334] ∧ Tr (Ls o0 [1, 2, 3, 5]) w0 o0 w o481) (fun (x : ((List Bool) × (List Part))) (e : Exit) (a : Act) (w : World) => (e = .exit 0 ∧ ∃ (o482 : Own) (z469 : Value) (z471 : Value) (z473 : Value) (z475 : Value) (z477 : Value) (z478 : Value) (z480 : Value), MB 69 [] [] a ∧ Box w o482 1 g2 116 #[z469, z471, z473, .int .i64 p15, z475, z477, z478, z480, .chan (some g29)] ∧ Row tBool 4 w o482 2 z475 p18 ∧ Row tBool 4 w o482 3 z477 x.1 ∧ Row (tInt .i64) 3 w o482 4 z478 p24 ∧ Row tyPart 46 w o482 5 z480 x.2 ∧ Chan w o482 6 g29 c30 (p31.map cv_46) ∧ (tSlice 9 tStr (by decide)).im w (L o482 0) p3 [z469] ∧ (tSlice 9 tStr (by decide)).im w (L o482 0) p7 [z471] ∧ (tSlice 28 tyRule (by decide)).im w (L o482 0) p11 [z473] ∧ Tr (Ls o0 [1, 2, 3, 5]) w0 o0 w o482)) ?_ hx601 ⟨o62, (.slice A41 p3.length c42), (.slice A43 p7.length c44), (.slice A45 p11.length c46), (.slice A33 p18.length c34), (.slice A35 p21.length c36), (.slice A37 p24.length c38), (.slice A39 p27.length c40), (M.pk [14, 13, 8, 0] rfl), ((q16.kn t52).kn t64), (b51.kn t64), ((q19.kn t52).kn t64), ((q22.kn t52).kn t64), ((q25.kn t52).kn t64), ((q28.kn t52).kn t64), ((q32.kn t52).kn t64), i65, (iN (iN i6 t52) t64), (iN (iN i10 t52) t64), (iN (iN i14 t52) t64), u26⟩ ?_
 ·rintro ⟨y329, y337, y340⟩ a w483 r484 hI485 h
  replace h : chart_Chart_follow_b0 k p1 p3 p7 p11 p15 p18 p24 c30 p31 r53 y329 y337 y340 = some r484 := h
  unfold chart_Chart_follow_b0 at h
  obtain ⟨o486, z330, z332, z334, z336, z338, z339, z341, M, q487, q488, q489, q490, q491, q492, q493, i494, i495, i496, i497, T498⟩ := hI485
  obtain ⟨A499, c500, hzc500, -⟩ := q489.form
  subst hzc500
  obtain ⟨A501, c502, hzc502, -⟩ := q490.form
  subst hzc502
  obtain ⟨A503, c504, hzc504, -⟩ := q491.form
  subst hzc504
  obtain ⟨A505, c506, hzc506, -⟩ := q492.form
  subst hzc506
  obtain ⟨A507, c508, hzc508, -⟩ := im_form i495
  subst hzc508
  obtain ⟨A509, c510, hzc510, -⟩ := im_form i496
  subst hzc510
  obtain ⟨A511, c512, hzc512, -⟩ := im_form i497
  subst hzc512
  refine c_seq <| c_seq <| c_reg <| pn (j := 4) E 4 M rfl rfl fun a M => ov rfl rfl M (x_load ld_3 (M.e 0 rfl) (q487.cell (n := 3) rfl)) fun a M => pn (j := 6) E 1 M rfl rfl fun a M => x_end rfl <| q_then ?_
  by_cases hk28 : (decide (y329 ≤ p15)) = true
  ·rw [if_pos hk28] at h
   have M := M.k 39 rfl hk28
   refine c_true (M.e 0 rfl) <| wp_skip <| q_then <| c_seq <| wp_block <| c_seq ?_
   obtain ⟨x514, hx515, h⟩ := bind_some h
   obtain ⟨hx5150, hx5151, hx5152⟩ := at_some hx515
   obtain ⟨g516, f517, c518, ds519, hv520, hd521, he522⟩ := im_elem i494 hx5151
   have hsds519 : ds519 = [.int .i64 x514] := hd521
   subst hsds519
   have he522 : ElemAt w483 o486 0 g516 f517 (p1.dot).toNat 1 [.int .i64 x514] := he522
   obtain ⟨r524, hr525, h⟩ := bind_some h
   obtain ⟨x534, hx535, h⟩ := bind_some h
   obtain ⟨hx5350, hx5351, hx5352⟩ := at_some hx535
   obtain ⟨g536, f537, c538, ds539, hv540, hd541, he542⟩ := Row.elem q489 hx5351
   have hsds539 : ds539 = [.bool x534] := hd541
   subst hsds539
   have he542 : ElemAt w483 o486 2 g536 f537 (IntKind.wrap .i64 ((IntKind.wrap .i64 ((IntKind.wrap .i64 ((IntKind.wrap .i64 (x514 * (IntKind.wrap .i64 (p15 + (1 : Int))))) + p1.j)) * (IntKind.wrap .i64 (p15 + (1 : Int))))) + y329)).toNat 1 [.bool x534] := he542
   refine draw_p E mixed [0, 1, 3, 7, 0, 0, 0, 64, 224, 480, 0, 1024, 0, 8176, 16383, 32767] (by kernel_rfl) rfl M [(3, .slice A499 p18.length c500), (7, .int .i64 p1.dot), (8, .pointer (some ⟨g516, f517 + (p1.dot).toNat * 1, none⟩)), (9, .int .i64 x514), (11, .int .i64 p1.j), (13, .int .i64 (IntKind.wrap .i64 ((IntKind.wrap .i64 ((IntKind.wrap .i64 ((IntKind.wrap .i64 (x514 * (IntKind.wrap .i64 (p15 + (1 : Int))))) + p1.j)) * (IntKind.wrap .i64 (p15 + (1 : Int))))) + y329))), (14, .pointer (some ⟨g536, f537 + (IntKind.wrap .i64 ((IntKind.wrap .i64 ((IntKind.wrap .i64 ((IntKind.wrap .i64 (x514 * (IntKind.wrap .i64 (p15 + (1 : Int))))) + p1.j)) * (IntKind.wrap .i64 (p15 + (1 : Int))))) + y329)).toNat * 1, none⟩)), (15, .bool x534)] rfl rfl rfl o486 ⟨fun a w o M G r => qv rfl rfl M rfl (x_load ld_48 (G.e 2 rfl rfl) ((q487.kn r).cell (n := 4) rfl)),
   fun a w o M G r => qv rfl rfl M rfl (x_load ld_3 (G.e 6 rfl rfl) ((q488.kn r).cell (n := 1) rfl)),
   fun a w o M G r => qv rfl rfl M rfl (x_indexAddr Try.underlying26 sz_3 ((G.e 5 rfl rfl).trans hv520) (G.e 7 rfl rfl) hx5150 hx5152),
   fun a w o M G r => qv rfl rfl M rfl (x_load ld_3 (G.e 8 rfl rfl) ((he522.kn r).2 0 _ rfl)),
   fun a w o M G r => qv rfl rfl M rfl (x_load ld_3 (G.e 10 rfl rfl) ((q488.kn r).cell (n := 3) rfl)),
   ?_,
   fun a w o M G r => qv rfl rfl M rfl (x_indexAddr Try.underlying48 sz_4 ((G.e 3 rfl rfl).trans hv540) (G.e 13 rfl rfl) hx5350 hx5352),
   fun a w o M G r => qv rfl rfl M rfl (x_load ld_4 (G.e 14 rfl rfl) ((he542.kn r).2 0 _ rfl)),
   trivial⟩ ?_
   ·intro a w o M G r
    refine dc rfl (wp0 rfl) rfl rfl M (x_call cf_81 (m4 (G.e 4 rfl rfl) (G.e 9 rfl rfl) (G.e 11 rfl rfl) (G.e 12 rfl rfl))) (chart_Chart_at_calls hr525 (lko_own (T := [(0, 0), (1, 1), (2, 2), (3, 3), (4, 4), (5, 5), (6, 6)]) (o := o) rfl) (sL (iN i495 r) rfl) (sL (iN i496 r) rfl) (sL (iN i497 r) rfl) ((q487.kn r).l rfl) ((q489.kn r).l rfl rfl) ((q490.kn r).l rfl rfl) ((q491.kn r).l rfl rfl) ((q492.kn r).l rfl rfl) ((q493.kn r).l rfl)) (fun e31 w526 hp527 => ?_)
    obtain ⟨o528, he529, T530⟩ := hp527
    obtain ⟨o531, ho532⟩ := ex (mrg w o [(0, 0), (1, 1), (2, 2), (3, 3), (4, 4), (5, 5), (6, 6)] o528)
    have t533 := T530.r0 ho532
    refine ⟨_, he529, fun a' p => ?_⟩
    exact ⟨o531, _, _, rfl, p, t533⟩
   intro a w544 o545 M t546
   refine q_then ?_
   by_cases hk32 : x534 = true
   ·rw [if_pos hk32] at h
    have M := M.k 57 rfl hk32
    refine c_true (M.e 15 rfl) <| c_reg <| pn (j := 2) E 2 M rfl rfl fun a M => ov rfl rfl M (x_load ld_3 (M.e 0 rfl) ((q488.kn t546).cell (n := 0) rfl)) fun a M => pn (j := 4) E 1 M rfl rfl fun a M => ov rfl rfl M (x_load ld_3 (M.e 0 rfl) ((q488.kn t546).cell (n := 1) rfl)) fun a M => pn (j := 7) E 2 M rfl rfl fun a M => ov rfl rfl M (x_load ld_3 (M.e 0 rfl) ((q488.kn t546).cell (n := 2) rfl)) fun a M => pn (j := 9) E 1 M rfl rfl fun a M => ?_
    have hb547 : ∀ w : World, (Instr.build 46 #[(0, .int .i64 p1.rule), (1, .int .i64 (IntKind.wrap .i64 (p1.dot + (1 : Int)))), (2, .int .i64 p1.i), (3, .int .i64 y329)]).run Try.prog w = .ok (.agg #[.int .i64 p1.rule, .int .i64 (IntKind.wrap .i64 (p1.dot + (1 : Int))), .int .i64 p1.i, .int .i64 y329]) w := fun w => by go_simp
    refine ov rfl rfl M (x_build (l4 (M.e 6 rfl) (M.e 3 rfl) (M.e 1 rfl) (M.e 0 rfl)) hb547) fun a M => ?_
    obtain ⟨r548, hr549, h⟩ := bind_some h
    refine oc rfl (wp0 rfl) rfl rfl M (x_call cf_82 (m2 (M.e 9 rfl) (M.e 0 rfl))) (chart_Chart_part_calls hr549 (lko_own (T := [(0, 0), (1, 1), (2, 2), (3, 3), (4, 4), (5, 5), (6, 6)]) (o := o545) rfl) (sL (iN i495 t546) rfl) (sL (iN i496 t546) rfl) (sL (iN i497 t546) rfl) ((q487.kn t546).l rfl) ((q489.kn t546).l rfl rfl) ((q490.kn t546).l rfl rfl) ((q491.kn t546).l rfl rfl) ((q492.kn t546).l rfl rfl) ((q493.kn t546).l rfl)) (fun e33 w550 hp551 => ?_)
    obtain ⟨o559, z552, z553, z554, z555, z556, z557, z558, he560, q561, q562, q563, q564, q565, q566, i567, i568, i569, T570⟩ := hp551
    obtain ⟨o571, ho572⟩ := ex (mrg w544 o545 [(0, 0), (1, 1), (2, 2), (3, 3), (4, 4), (5, 5), (6, 6)] o559)
    have t573 := T570.r ho572 [1, 3, 5] rfl rfl
    have q574 := q561.r T570 ho572 1 rfl rfl
    have q575 := q562.r T570 ho572 3 rfl rfl rfl rfl
    have q576 := q563.r T570 ho572 5 rfl rfl rfl rfl
    have q577 := q564.r T570 ho572 2 rfl rfl rfl rfl
    have q578 := q565.r T570 ho572 4 rfl rfl rfl rfl
    have q579 := q566.r T570 ho572 6 rfl rfl
    have i580 := iR i567 T570 ho572 rfl rfl
    have i582 := iR i568 T570 ho572 rfl rfl
    have i584 := iR i569 T570 ho572 rfl rfl
    refine ⟨_, he560, fun a M => ?_⟩
    obtain ⟨A586, c587, hzc587, -⟩ := q575.form
    subst hzc587
    obtain ⟨A588, c589, hzc589, -⟩ := q576.form
    subst hzc589
    obtain ⟨A590, c591, hzc591, -⟩ := q577.form
    subst hzc591
    obtain ⟨A592, c593, hzc593, -⟩ := q578.form
    subst hzc593
    obtain ⟨A594, c595, hzc595, -⟩ := im_form i580
    subst hzc595
    obtain ⟨A596, c597, hzc597, -⟩ := im_form i582
    subst hzc597
    obtain ⟨A598, c599, hzc599, -⟩ := im_form i584
    subst hzc599
    refine x_end rfl <| q_blk <| q_then <| c_reg <| pn (j := 2) E 2 M rfl rfl fun a M => ?_
    have M := M.pk [0, 1, 35, 36, 37] rfl
    refine pn (j := 3) E 1 M rfl rfl fun a M => x_end rfl ?_
    obtain rfl := sj h
    have u34 := (T498.kn t546).km t573 hown rfl
    exact lq_next ⟨o571, (.slice A594 p3.length c595), (.slice A596 p7.length c597), (.slice A598 p11.length c599), (.slice A590 p18.length c591), (.slice A586 r548.1.length c587), (.slice A592 p24.length c593), (.slice A588 r548.2.length c589), (M.pk [3, 4, 5, 0] rfl), q574, ((q488.kn t546).km t573 rfl), q577, q575, q578, q576, q579, (iM (iN i494 t546) t573 rfl), i580, i582, i584, u34⟩
   rw [if_neg hk32] at h
   have hk32 := nott hk32
   have M := M.k 57 rfl hk32
   refine c_false (M.e 15 rfl) <| wp_skip <| q_blk <| q_then <| c_reg <| pn (j := 2) E 2 M rfl rfl fun a M => ?_
   have M := M.pk [0, 1, 24, 25, 26] rfl
   refine pn (j := 3) E 1 M rfl rfl fun a M => x_end rfl ?_
   obtain rfl := sj h
   have u35 := T498.kn t546
   exact lq_next ⟨o545, (.slice A507 p3.length c508), (.slice A509 p7.length c510), (.slice A511 p11.length c512), (.slice A499 p18.length c500), (.slice A501 y337.length c502), (.slice A503 p24.length c504), (.slice A505 y340.length c506), (M.pk [3, 4, 5, 0] rfl), (q487.kn t546), (q488.kn t546), (q489.kn t546), (q490.kn t546), (q491.kn t546), (q492.kn t546), (q493.kn t546), (iN i494 t546), (iN i495 t546), (iN i496 t546), (iN i497 t546), u35⟩
  rw [if_neg hk28] at h
  have hk28 := nott hk28
  have M := M.k 39 rfl hk28
  refine c_false (M.e 0 rfl) <| wp_exit <| q_then_exit ?_
  obtain rfl := sj h
  exact lq_exit ⟨rfl, ⟨o486, (.slice A507 p3.length c508), (.slice A509 p7.length c510), (.slice A511 p11.length c512), (.slice A499 p18.length c500), (.slice A501 y337.length c502), (.slice A503 p24.length c504), (.slice A505 y340.length c506), (M.pk [] rfl), q487, q489, q490, q491, q492, q493, i495, i496, i497, T498⟩⟩
 intro e36 a w602 hO603
 obtain ⟨he604, hO603⟩ := hO603
 subst he604
 obtain ⟨o605, z469, z471, z473, z475, z477, z478, z480, M, q606, q607, q608, q609, q610, q611, i612, i613, i614, T615⟩ := hO603
 obtain ⟨A616, c617, hzc617, -⟩ := q607.form
 subst hzc617
 obtain ⟨A618, c619, hzc619, -⟩ := q608.form
 subst hzc619
 obtain ⟨A620, c621, hzc621, -⟩ := q609.form
 subst hzc621
 obtain ⟨A622, c623, hzc623, -⟩ := q610.form
 subst hzc623
 obtain ⟨A624, c625, hzc625, -⟩ := im_form i612
 subst hzc625
 obtain ⟨A626, c627, hzc627, -⟩ := im_form i613
 subst hzc627
 obtain ⟨A628, c629, hzc629, -⟩ := im_form i614
 subst hzc629
 refine q_blk_here ?_
 obtain rfl := sj h
 exact ⟨M.f.defers, _, (res0 Try.results84 ), ⟨o605, (.slice A624 p3.length c625), (.slice A626 p7.length c627), (.slice A628 p11.length c629), (.slice A616 p18.length c617), (.slice A618 x600.1.length c619), (.slice A622 x600.2.length c623), (.slice A620 p24.length c621), rfl, q606, q607, q608, q610, q609, q611, i612, i613, i614, T615⟩⟩
end Go.Proofs.Ythilemcdhkfhlaa
namespace Go.Proofs.Ythilemcdhkfhlaa
open Go Go.RowKit Go.Gc Go.Proofs
def chart_queue_take (k : Nat) (p2 : List ByteArray) (p6 : List ByteArray) (p10 : List Rule) (p14 : Int) (p17 : List Bool) (p20 : List Bool) (p23 : List Int) (p26 : List Part) (c29 : Nat) (p30 : List Part) : Option (Int × Int × Int × Int × Bool × (List Part) × (List Part)) :=
  if (decide ((0 : Int) < (p26.length : Int))) = true then ((at? p26 (IntKind.wrap .i64 ((p26.length : Int) - (1 : Int)))).bind fun x90 => if p30.length < c29 then (if 0 ≤ (0 : Int) ∧ (0 : Int) ≤ (IntKind.wrap .i64 ((p26.length : Int) - (1 : Int))) ∧ (IntKind.wrap .i64 ((p26.length : Int) - (1 : Int))) ≤ (p26.length : Int) then (lcase (p30 ++ [x90]) (if ((-1 : Int) == (0 : Int)) = true then (some ((0 : Int), (0 : Int), (0 : Int), (0 : Int), true, p30 ++ [x90], cutl p26 (0 : Int).toNat (IntKind.wrap .i64 ((p26.length : Int) - (1 : Int))).toNat)) else (some ((0 : Int), (0 : Int), (0 : Int), (0 : Int), false, p30 ++ [x90], cutl p26 (0 : Int).toNat (IntKind.wrap .i64 ((p26.length : Int) - (1 : Int))).toNat))) (fun x127 x128 => if ((0 : Int) == (0 : Int)) = true then (some (x127.rule, x127.dot, x127.i, x127.j, true, x128, cutl p26 (0 : Int).toNat (IntKind.wrap .i64 ((p26.length : Int) - (1 : Int))).toNat)) else (some ((0 : Int), (0 : Int), (0 : Int), (0 : Int), false, x128, cutl p26 (0 : Int).toNat (IntKind.wrap .i64 ((p26.length : Int) - (1 : Int))).toNat)))) else none) else none) else (lcase p30 (if ((-1 : Int) == (0 : Int)) = true then (some ((0 : Int), (0 : Int), (0 : Int), (0 : Int), true, p30, p26)) else (some ((0 : Int), (0 : Int), (0 : Int), (0 : Int), false, p30, p26))) (fun x158 x159 => if ((0 : Int) == (0 : Int)) = true then (some (x158.rule, x158.dot, x158.i, x158.j, true, x159, p26)) else (some ((0 : Int), (0 : Int), (0 : Int), (0 : Int), false, x159, p26))))
theorem chart_queue_take_calls {k : Nat} {g1 : Nat} {p2 : List ByteArray} {v3 : Value} {p6 : List ByteArray} {v7 : Value} {p10 : List Rule} {v11 : Value} {p14 : Int} {v16 : Value} {p17 : List Bool} {v19 : Value} {p20 : List Bool} {v22 : Value} {p23 : List Int} {v25 : Value} {p26 : List Part} {g28 : Nat} {c29 : Nat} {p30 : List Part} {r : (Int × Int × Int × Int × Bool × (List Part) × (List Part))} (h : chart_queue_take k p2 p6 p10 p14 p17 p20 p23 p26 c29 p30 = some r) {w0 : World} {o0 : Own} (hown : Hown o0)
    (i5 : ((tSlice 9 tStr (by decide))).im w0 (L o0 0) p2 [v3])
    (i9 : ((tSlice 9 tStr (by decide))).im w0 (L o0 0) p6 [v7])
    (i13 : ((tSlice 28 tyRule (by decide))).im w0 (L o0 0) p10 [v11])
    (q15 : Box w0 o0 1 g1 116 #[v3, v7, v11, .int .i64 p14, v16, v19, v22, v25, .chan (some g28)])
    (q18 : Row tBool 4 w0 o0 2 v16 p17)
    (q21 : Row tBool 4 w0 o0 3 v19 p20)
    (q24 : Row (tInt .i64) 3 w0 o0 4 v22 p23)
    (q27 : Row tyPart 46 w0 o0 5 v25 p26)
    (q31 : Chan w0 o0 6 g28 c29 (p30.map cv_46)) :
    Calls Try.prog 83 #[.pointer (some ⟨g1, 7, none⟩)] w0 (fun e w => ∃ (o188 : Own) (z193 : Value) (z195 : Value) (z197 : Value) (z200 : Value) (z201 : Value) (z202 : Value) (z204 : Value), e = .returned (.tuple #[.agg #[.int .i64 r.1, .int .i64 r.2.1, .int .i64 r.2.2.1, .int .i64 r.2.2.2.1], .bool r.2.2.2.2.1]) ∧ Box w o188 1 g1 116 #[z193, z195, z197, .int .i64 p14, z200, z201, z202, z204, .chan (some g28)] ∧ Chan w o188 6 g28 c29 (r.2.2.2.2.2.1.map cv_46) ∧ Row tBool 4 w o188 2 z200 p17 ∧ Row tBool 4 w o188 3 z201 p20 ∧ Row (tInt .i64) 3 w o188 4 z202 p23 ∧ Row tyPart 46 w o188 5 z204 r.2.2.2.2.2.2 ∧ (tSlice 9 tStr (by decide)).im w (L o188 0) p2 [z193] ∧ (tSlice 9 tStr (by decide)).im w (L o188 0) p6 [z195] ∧ (tSlice 28 tyRule (by decide)).im w (L o188 0) p10 [z197] ∧ Tr (Ls o0 [1, 6]) w0 o0 w o188) := by
 unfold chart_queue_take at h
 refine startM Try.func83 rfl Try.ntmps83 (show 1 ≤ 44 by decide) fun a M => ?_
 have M : MB 44 [] [(0, .pointer (some ⟨g1, 7, none⟩))] a := M
 obtain ⟨A32, c33, hzc33, -⟩ := q18.form
 subst hzc33
 obtain ⟨A34, c35, hzc35, -⟩ := q21.form
 subst hzc35
 obtain ⟨A36, c37, hzc37, -⟩ := q24.form
 subst hzc37
 obtain ⟨A38, c39, hzc39, -⟩ := q27.form
 subst hzc39
 obtain ⟨A40, c41, hzc41, -⟩ := im_form i5
 subst hzc41
 obtain ⟨A42, c43, hzc43, -⟩ := im_form i9
 subst hzc43
 obtain ⟨A44, c45, hzc45, -⟩ := im_form i13
 subst hzc45
 have T0 : Tr (Ls o0 [1, 6]) w0 o0 w0 o0 := Tr.refl _ _ _
 refine c_seq <| c_reg ?_
 obtain ⟨g46, w47, o48, r49, b50, t51⟩ := b_alloc zv_46 a w0 o0 100
 refine ov rfl rfl M (r49 _ _ _ _ _) fun a M => pn (j := 2) E 1 M rfl rfl fun a M => x_end rfl <| q_then <| c_seq <| c_seq <| c_reg <| pn (j := 3) E 3 M rfl rfl fun a M => ov rfl rfl M (x_load ld_112 (M.e 0 rfl) ((q15.kn t51).cell (n := 7) rfl)) fun a M => pn (j := 6) E 2 M rfl rfl fun a M => x_end rfl <| q_then <| c_seq <| c_reg <| pn (j := 2) E 2 M rfl rfl fun a M => x_end rfl <| q_then ?_
 by_cases hk3 : (decide ((0 : Int) < (p26.length : Int))) = true
 ·rw [if_pos hk3] at h
  have M := M.k 11 rfl hk3
  refine c_true (M.e 0 rfl) <| c_seq ?_
  obtain ⟨x90, hx91, h⟩ := bind_some h
  obtain ⟨hx910, hx911, hx912⟩ := at_some hx91
  obtain ⟨g92, f93, c94, ds95, hv96, hd97, he98⟩ := Row.elem (q27.kn t51) hx911
  have hsds95 := Part_open hd97
  subst hsds95
  have he98 : ElemAt w47 o48 5 g92 f93 (IntKind.wrap .i64 ((p26.length : Int) - (1 : Int))).toNat 4 [.int .i64 x90.rule, .int .i64 x90.dot, .int .i64 x90.i, .int .i64 x90.j] := he98
  obtain ⟨hc100, h⟩ := ifs h
  have u4 := T0.kn t51
  refine draw_m mixed [0, 1, 3, 7, 0, 16, 48, 112, 0, 256, 1008, 2032, 4095] (by kernel_rfl) rfl M (fun U a w => ∃ (o : Own), Tab [(0, 12, .pointer (some ⟨g1, 7, none⟩)), (1, 13, .pointer (some ⟨g1, 7, none⟩)), (2, 14, .pointer (some ⟨g1, 8, none⟩)), (3, 15, .chan (some g28)), (4, 16, .pointer (some ⟨g1, 7, none⟩)), (5, 17, .pointer (some ⟨g1, 7, none⟩)), (6, 18, .pointer (some ⟨g1, 7, none⟩)), (7, 19, .slice A38 p26.length c39), (8, 20, .int .i64 (p26.length : Int)), (9, 21, .int .i64 (IntKind.wrap .i64 ((p26.length : Int) - (1 : Int)))), (10, 22, .pointer (some ⟨g92, f93 + (IntKind.wrap .i64 ((p26.length : Int) - (1 : Int))).toNat * 4, none⟩)), (11, 23, .agg #[.int .i64 x90.rule, .int .i64 x90.dot, .int .i64 x90.i, .int .i64 x90.j])] U a ∧ Tr (FL [(12, 6)] o48 U) w47 o48 w o ∧ (U 12 = true → Chan w o 6 g28 c29 ((p30 ++ [x90]).map cv_46))) ?_ ⟨?_, ?_, ?_, ?_, ?_, ?_, ?_, ?_, ?_, ?_, ?_, ?_, ?_, trivial⟩ ?_
  ·exact ⟨o48, Tab.start, FL.start (tr_drew _ _), fun h => Bool.noConfusion h⟩
  ·intro U a w M hL hA hD hI
   obtain ⟨o, TG0, tr, FE0⟩ := hI
   refine dv rfl rfl M (x_move (M.e 10 rfl)) fun a' p => ?_
   exact ⟨M.st p rfl, o, (TG0.step p 0 rfl rfl), (FL.idle tr), FE0⟩
  ·intro U a w M hL hA hD hI
   obtain ⟨o, TG0, tr, FE0⟩ := hI
   refine dv rfl rfl M (x_nilCheck (e_tmp (TG0.get 0 rfl (hA 0 rfl)))) fun a' p => ?_
   exact ⟨M.st p rfl, o, (TG0.step p 1 rfl rfl), (FL.idle tr), FE0⟩
  ·intro U a w M hL hA hD hI
   obtain ⟨o, TG0, tr, FE0⟩ := hI
   refine dv rfl rfl M (x_fieldAddr fa_114_1 (e_tmp (TG0.get 1 rfl (hA 1 rfl))) rfl) fun a' p => ?_
   exact ⟨M.st p rfl, o, (TG0.step p 2 rfl rfl), (FL.idle tr), FE0⟩
  ·intro U a w M hL hA hD hI
   obtain ⟨o, TG0, tr, FE0⟩ := hI
   refine dv rfl rfl M (x_load ld_111 (e_tmp (TG0.get 2 rfl (hA 2 rfl))) (((q15.kn t51).keep_ (FL.same tr ⟨fun h => absurd h (ne rfl), trivial⟩)).cell (n := 8) rfl)) fun a' p => ?_
   exact ⟨M.st p rfl, o, (TG0.step p 3 rfl rfl), (FL.idle tr), FE0⟩
  ·intro U a w M hL hA hD hI
   obtain ⟨o, TG0, tr, FE0⟩ := hI
   refine dv rfl rfl M (x_move (M.e 10 rfl)) fun a' p => ?_
   exact ⟨M.st p rfl, o, (TG0.step p 4 rfl rfl), (FL.idle tr), FE0⟩
  ·intro U a w M hL hA hD hI
   obtain ⟨o, TG0, tr, FE0⟩ := hI
   refine dv rfl rfl M (x_nilCheck (e_tmp (TG0.get 4 rfl (hA 4 rfl)))) fun a' p => ?_
   exact ⟨M.st p rfl, o, (TG0.step p 5 rfl rfl), (FL.idle tr), FE0⟩
  ·intro U a w M hL hA hD hI
   obtain ⟨o, TG0, tr, FE0⟩ := hI
   refine dv rfl rfl M (x_fieldAddr fa_114_0 (e_tmp (TG0.get 5 rfl (hA 5 rfl))) rfl) fun a' p => ?_
   exact ⟨M.st p rfl, o, (TG0.step p 6 rfl rfl), (FL.idle tr), FE0⟩
  ·intro U a w M hL hA hD hI
   obtain ⟨o, TG0, tr, FE0⟩ := hI
   refine dv rfl rfl M (x_load ld_112 (e_tmp (TG0.get 6 rfl (hA 6 rfl))) (((q15.kn t51).keep_ (FL.same tr ⟨fun h => absurd h (ne rfl), trivial⟩)).cell (n := 7) rfl)) fun a' p => ?_
   exact ⟨M.st p rfl, o, (TG0.step p 7 rfl rfl), (FL.idle tr), FE0⟩
  ·intro U a w M hL hA hD hI
   obtain ⟨o, TG0, tr, FE0⟩ := hI
   refine dv rfl rfl M (x_move (M.e 2 rfl)) fun a' p => ?_
   exact ⟨M.st p rfl, o, (TG0.step p 8 rfl rfl), (FL.idle tr), FE0⟩
  ·intro U a w M hL hA hD hI
   obtain ⟨o, TG0, tr, FE0⟩ := hI
   refine dv rfl rfl M (x_sub (e_tmp (TG0.get 8 rfl (hA 8 rfl))) (e_const (v := .int .i64 (1 : Int)))) fun a' p => ?_
   exact ⟨M.st p rfl, o, (TG0.step p 9 rfl rfl), (FL.idle tr), FE0⟩
  ·intro U a w M hL hA hD hI
   obtain ⟨o, TG0, tr, FE0⟩ := hI
   refine dv rfl rfl M (x_indexAddr Try.underlying112 sz_46 ((e_tmp (TG0.get 7 rfl (hA 7 rfl))).trans hv96) (e_tmp (TG0.get 9 rfl (hA 9 rfl))) hx910 hx912) fun a' p => ?_
   exact ⟨M.st p rfl, o, (TG0.step p 10 rfl rfl), (FL.idle tr), FE0⟩
  ·intro U a w M hL hA hD hI
   obtain ⟨o, TG0, tr, FE0⟩ := hI
   refine dv rfl rfl M (x_loadN (ldn_46 _ rfl) (e_tmp (TG0.get 10 rfl (hA 10 rfl))) (he98.keep_ (Nat.succ_pos _) (FL.same tr ⟨fun h => absurd h (ne rfl), trivial⟩)).all) fun a' p => ?_
   exact ⟨M.st p rfl, o, (TG0.step p 11 rfl rfl), (FL.idle tr), FE0⟩
  ·intro U a w M hL hA hD hI
   obtain ⟨o, TG0, tr, FE0⟩ := hI
   refine o_send rfl (wp0 rfl) (e_tmp (TG0.get 3 rfl (hA 3 rfl))) (e_tmp (TG0.get 11 rfl (hA 11 rfl))) ((q31.kn t51).keep_ (FL.same tr ⟨fun _ => hL, trivial⟩)) (by simpa using hc100) (fun w101 b102 t103 => ?_)
   have b102 : Chan w101 o 6 g28 c29 ((p30 ++ [x90]).map cv_46) := by first | exact b102 | (rw [List.map_append]; exact b102)
   exact ⟨M, o, (TG0.idle rfl), (FL.stk tr t103 rfl), (fun _ => b102)⟩
  intro U a w104 M hA hI
  obtain ⟨o105, TG0, tr, FE0⟩ := hI
  have q106 := ((q15.kn t51).keep_ (FL.same tr ⟨fun h => absurd h (ne rfl), trivial⟩))
  have q107 := ((q18.kn t51).keep_ (FL.same tr ⟨fun h => absurd h (ne rfl), trivial⟩) (FL.same tr ⟨fun h => absurd h (ne rfl), trivial⟩))
  have q108 := ((q21.kn t51).keep_ (FL.same tr ⟨fun h => absurd h (ne rfl), trivial⟩) (FL.same tr ⟨fun h => absurd h (ne rfl), trivial⟩))
  have q109 := ((q24.kn t51).keep_ (FL.same tr ⟨fun h => absurd h (ne rfl), trivial⟩) (FL.same tr ⟨fun h => absurd h (ne rfl), trivial⟩))
  have q110 := ((q27.kn t51).keep_ (FL.same tr ⟨fun h => absurd h (ne rfl), trivial⟩) (FL.same tr ⟨fun h => absurd h (ne rfl), trivial⟩))
  have q111 := (FE0 (hA 12 rfl))
  have q112 := (b50.keep_ (FL.same tr ⟨fun h => absurd h (ne rfl), trivial⟩))
  have i113 := (Ty.loc _ (FL.same tr ⟨fun h => absurd h (ne rfl), trivial⟩) (iN i5 t51))
  have i114 := (Ty.loc _ (FL.same tr ⟨fun h => absurd h (ne rfl), trivial⟩) (iN i9 t51))
  have i115 := (Ty.loc _ (FL.same tr ⟨fun h => absurd h (ne rfl), trivial⟩) (iN i13 t51))
  have T116 := Tr.kf u4 tr hown rfl
  clear hA TG0 tr FE0
  refine q_then <| c_reg <| pn (j := 4) E 4 M rfl rfl fun a M => ov rfl rfl M (x_load ld_112 (M.e 0 rfl) (q106.cell (n := 7) rfl)) fun a M => pn (j := 7) E 2 M rfl rfl fun a M => ?_
  obtain ⟨hc117, h⟩ := ifs h
  obtain ⟨A118, c119, r120, b121⟩ := b_cutH (P := Try.prog) (w := w104) (l := p26) (e := 46) (sz := 4) (T := 112) (R := fun v => Row tyPart 46 w104 o105 5 v (cutl p26 (0 : Int).toNat (IntKind.wrap .i64 ((p26.length : Int) - (1 : Int))).toNat)) Try.underlying112 sz_46 (M.e 2 rfl) (M.e 0 rfl) (Row.cap q110) hc117 (cutRow q110 hc117)
  have b121 : Row tyPart 46 w104 o105 5 (.slice A118 (cutl p26 (0 : Int).toNat (IntKind.wrap .i64 ((p26.length : Int) - (1 : Int))).toNat).length c119) (cutl p26 (0 : Int).toNat (IntKind.wrap .i64 ((p26.length : Int) - (1 : Int))).toNat) := b121
  refine ov rfl rfl M (r120 _ _ _ _ _) fun a M => pn (j := 10) E 2 M rfl rfl fun a M => ?_
  obtain ⟨w122, r123, b124, t125⟩ := b_store (P := Try.prog) st_112 (M.e 0 rfl) (M.e 2 rfl) q106 (show 7 < 9 by decide) rfl rfl
  have b124 : Box w122 o105 1 g1 116 #[.slice A40 p2.length c41, .slice A42 p6.length c43, .slice A44 p10.length c45, .int .i64 p14, .slice A32 p17.length c33, .slice A34 p20.length c35, .slice A36 p23.length c37, .slice A118 (cutl p26 (0 : Int).toNat (IntKind.wrap .i64 ((p26.length : Int) - (1 : Int))).toNat).length c119, .chan (some g28)] := b124
  refine os rfl (wp0 rfl) rfl (r123 _ _ _ _ _) <| x_end rfl <| q_then <| c_seq <| c_reg <| pn (j := 3) E 3 M rfl rfl fun a M => ov rfl rfl M (x_load ld_111 (M.e 0 rfl) (b124.cell (n := 8) rfl)) fun a M => x_end rfl <| q_then <| c_seq <| c_reg ?_
  obtain hb126 | ⟨x127, x128, hb126⟩ := list_cases (p30 ++ [x90])
  ·rw [lcase_nil hb126] at h
   have q129 : Chan w122 o105 6 g28 c29 ([]) := by have q := (q111.kk t125 rfl); rw [hb126] at q; exact q
   refine x_next (lt rfl) (o_default rfl (wp0 rfl) M.f (lt rfl) (M.e 0 rfl) zv_46 q129 (fun a p => ?_))
   have M := M.put p rfl
   refine pn (j := 3) E 2 M rfl rfl fun a M => x_end rfl <| q_then <| wp_block ?_
   by_cases hk5 : ((-1 : Int) == (0 : Int)) = true
   ·rw [if_pos hk5] at h
    have M := M.k 40 rfl hk5
    refine c_true (M.e 0 rfl) <| c_seq <| c_reg <| pn (j := 1) E 1 M rfl rfl fun a M => ?_
    obtain ⟨w130, r131, b132, t133⟩ := b_storeN (P := Try.prog) (all' := #[.int .i64 (0 : Int), .int .i64 (0 : Int), .int .i64 (0 : Int), .int .i64 (0 : Int)]) (.inr trivial) (stn_46 _ rfl) (M.e 27 rfl) (M.e 0 rfl) (q112.kk t125 rfl) (show 4 ≤ 4 by decide) (by simp [Value.oneCell']) rfl
    have b132 : Box w130 o105 100 g46 46 #[.int .i64 (0 : Int), .int .i64 (0 : Int), .int .i64 (0 : Int), .int .i64 (0 : Int)] := b132
    refine os rfl (wp0 rfl) rfl (r131 _ _ _ _ _) <| x_end rfl <| q_then <| c_seq <| c_reg <| ov rfl rfl M (x_loadN (ldn_46 _ rfl) (M.e 27 rfl) (b132.sub (cs := #[.int .i64 (0 : Int), .int .i64 (0 : Int), .int .i64 (0 : Int), .int .i64 (0 : Int)]) 0 rfl)) fun a M => ?_
    obtain ⟨w134, r135, b136, t137⟩ := b_storeN (P := Try.prog) (all' := #[.int .i64 (0 : Int), .int .i64 (0 : Int), .int .i64 (0 : Int), .int .i64 (0 : Int)]) (.inr trivial) (stn_46 _ rfl) (M.e 28 rfl) (M.e 0 rfl) b132 (show 4 ≤ 4 by decide) (by simp [Value.oneCell']) rfl
    have b136 : Box w134 o105 100 g46 46 #[.int .i64 (0 : Int), .int .i64 (0 : Int), .int .i64 (0 : Int), .int .i64 (0 : Int)] := b136
    refine os rfl (wp0 rfl) rfl (r135 _ _ _ _ _) ?_
    have M := M.pk [0, 28] rfl
    refine pn (j := 3) E 1 M rfl rfl fun a M => x_end rfl <| q_then <| wp_ret <| q_blk_ret ?_
    have u6 := iK (iK (iK i113 t125 rfl) t133 rfl) t137 rfl
    have u7 := iK (iK (iK i114 t125 rfl) t133 rfl) t137 rfl
    have u8 := iK (iK (iK i115 t125 rfl) t133 rfl) t137 rfl
    have u9 := ((q111.kk t125 rfl).kk t133 rfl).kk t137 rfl
    have u10 := ((q107.kk t125 rfl rfl).kk t133 rfl rfl).kk t137 rfl rfl
    have u11 := ((q108.kk t125 rfl rfl).kk t133 rfl rfl).kk t137 rfl rfl
    have u12 := ((q109.kk t125 rfl rfl).kk t133 rfl rfl).kk t137 rfl rfl
    have u13 := ((b121.kk t125 rfl rfl).kk t133 rfl rfl).kk t137 rfl rfl
    have u14 := ((T116.kk t125 hown rfl).kk t133 hown rfl).kk t137 hown rfl
    obtain rfl := sj h
    exact ⟨M.f.defers, _, (res2 Try.results83 (rv_cellN (ldn_46 _ rfl) (M.t 2 rfl) (b136.sub (cs := #[.int .i64 (0 : Int), .int .i64 (0 : Int), .int .i64 (0 : Int), .int .i64 (0 : Int)]) 0 rfl)) (rv_tmp (M.t 0 rfl))), ⟨o105, (.slice A40 p2.length c41), (.slice A42 p6.length c43), (.slice A44 p10.length c45), (.slice A32 p17.length c33), (.slice A34 p20.length c35), (.slice A36 p23.length c37), (.slice A118 (cutl p26 (0 : Int).toNat (IntKind.wrap .i64 ((p26.length : Int) - (1 : Int))).toNat).length c119), rfl, ((b124.kk t133 rfl).kk t137 rfl), u9, u10, u11, u12, u13, u6, u7, u8, u14⟩⟩
   rw [if_neg hk5] at h
   have hk5 := nott hk5
   have M := M.k 40 rfl hk5
   refine c_false (M.e 0 rfl) <| c_seq <| c_reg <| ov rfl rfl M (x_loadN (ldn_46 _ rfl) (M.e 26 rfl) ((q112.kk t125 rfl).sub (cs := #[.int .i64 (0 : Int), .int .i64 (0 : Int), .int .i64 (0 : Int), .int .i64 (0 : Int)]) 0 rfl)) fun a M => ?_
   obtain ⟨w138, r139, b140, t141⟩ := b_storeN (P := Try.prog) (all' := #[.int .i64 (0 : Int), .int .i64 (0 : Int), .int .i64 (0 : Int), .int .i64 (0 : Int)]) (.inr trivial) (stn_46 _ rfl) (M.e 27 rfl) (M.e 0 rfl) (q112.kk t125 rfl) (show 4 ≤ 4 by decide) (by simp [Value.oneCell']) rfl
   have b140 : Box w138 o105 100 g46 46 #[.int .i64 (0 : Int), .int .i64 (0 : Int), .int .i64 (0 : Int), .int .i64 (0 : Int)] := b140
   refine os rfl (wp0 rfl) rfl (r139 _ _ _ _ _) ?_
   have M := M.pk [0, 27] rfl
   refine pn (j := 3) E 1 M rfl rfl fun a M => x_end rfl <| q_then <| wp_ret <| q_blk_ret ?_
   have u15 := (T116.kk t125 hown rfl).kk t141 hown rfl
   obtain rfl := sj h
   exact ⟨M.f.defers, _, (res2 Try.results83 (rv_cellN (ldn_46 _ rfl) (M.t 2 rfl) (b140.sub (cs := #[.int .i64 (0 : Int), .int .i64 (0 : Int), .int .i64 (0 : Int), .int .i64 (0 : Int)]) 0 rfl)) (rv_tmp (M.t 0 rfl))), ⟨o105, (.slice A40 p2.length c41), (.slice A42 p6.length c43), (.slice A44 p10.length c45), (.slice A32 p17.length c33), (.slice A34 p20.length c35), (.slice A36 p23.length c37), (.slice A118 (cutl p26 (0 : Int).toNat (IntKind.wrap .i64 ((p26.length : Int) - (1 : Int))).toNat).length c119), rfl, (b124.kk t141 rfl), ((q111.kk t125 rfl).kk t141 rfl), ((q107.kk t125 rfl rfl).kk t141 rfl rfl), ((q108.kk t125 rfl rfl).kk t141 rfl rfl), ((q109.kk t125 rfl rfl).kk t141 rfl rfl), ((b121.kk t125 rfl rfl).kk t141 rfl rfl), (iK (iK i113 t125 rfl) t141 rfl), (iK (iK i114 t125 rfl) t141 rfl), (iK (iK i115 t125 rfl) t141 rfl), u15⟩⟩
  rw [lcase_cons hb126] at h
  have q129 : Chan w122 o105 6 g28 c29 (cv_46 x127 :: x128.map cv_46) := by have q := (q111.kk t125 rfl); rw [hb126] at q; exact q
  refine x_next (lt rfl) (o_recv rfl (wp0 rfl) M.f (lt rfl) (M.e 0 rfl) zv_46 q129 (fun a w142 p b143 t144 => ?_))
  have M := M.put p rfl
  have b143 : Chan w142 o105 6 g28 c29 (x128.map cv_46) := b143
  refine pn (j := 3) E 2 M rfl rfl fun a M => x_end rfl <| q_then <| wp_block ?_
  by_cases hk16 : ((0 : Int) == (0 : Int)) = true
  ·rw [if_pos hk16] at h
   have M := M.k 40 rfl hk16
   refine c_true (M.e 0 rfl) <| c_seq <| c_reg <| pn (j := 1) E 1 M rfl rfl fun a M => ?_
   obtain ⟨w145, r146, b147, t148⟩ := b_storeN (P := Try.prog) (all' := #[.int .i64 x127.rule, .int .i64 x127.dot, .int .i64 x127.i, .int .i64 x127.j]) (.inr trivial) (stn_46 _ rfl) (M.e 27 rfl) (M.e 0 rfl) ((q112.kk t125 rfl).kk t144 rfl) (show 4 ≤ 4 by decide) (by simp [Value.oneCell']) rfl
   have b147 : Box w145 o105 100 g46 46 #[.int .i64 x127.rule, .int .i64 x127.dot, .int .i64 x127.i, .int .i64 x127.j] := b147
   refine os rfl (wp0 rfl) rfl (r146 _ _ _ _ _) <| x_end rfl <| q_then <| c_seq <| c_reg <| ov rfl rfl M (x_loadN (ldn_46 _ rfl) (M.e 27 rfl) (b147.sub (cs := #[.int .i64 x127.rule, .int .i64 x127.dot, .int .i64 x127.i, .int .i64 x127.j]) 0 rfl)) fun a M => ?_
   obtain ⟨w149, r150, b151, t152⟩ := b_storeN (P := Try.prog) (all' := #[.int .i64 x127.rule, .int .i64 x127.dot, .int .i64 x127.i, .int .i64 x127.j]) (.inr trivial) (stn_46 _ rfl) (M.e 28 rfl) (M.e 0 rfl) b147 (show 4 ≤ 4 by decide) (by simp [Value.oneCell']) rfl
   have b151 : Box w149 o105 100 g46 46 #[.int .i64 x127.rule, .int .i64 x127.dot, .int .i64 x127.i, .int .i64 x127.j] := b151
   refine os rfl (wp0 rfl) rfl (r150 _ _ _ _ _) ?_
   have M := M.pk [0, 28] rfl
   refine pn (j := 3) E 1 M rfl rfl fun a M => x_end rfl <| q_then <| wp_ret <| q_blk_ret ?_
   have u17 := iK (iK (iK (iK i113 t125 rfl) t144 rfl) t148 rfl) t152 rfl
   have u18 := iK (iK (iK (iK i114 t125 rfl) t144 rfl) t148 rfl) t152 rfl
   have u19 := iK (iK (iK (iK i115 t125 rfl) t144 rfl) t148 rfl) t152 rfl
   have u20 := ((b124.kk t144 rfl).kk t148 rfl).kk t152 rfl
   have u21 := (((q107.kk t125 rfl rfl).kk t144 rfl rfl).kk t148 rfl rfl).kk t152 rfl rfl
   have u22 := (((q108.kk t125 rfl rfl).kk t144 rfl rfl).kk t148 rfl rfl).kk t152 rfl rfl
   have u23 := (((q109.kk t125 rfl rfl).kk t144 rfl rfl).kk t148 rfl rfl).kk t152 rfl rfl
   have u24 := (((b121.kk t125 rfl rfl).kk t144 rfl rfl).kk t148 rfl rfl).kk t152 rfl rfl
   have u25 := (((T116.kk t125 hown rfl).kk t144 hown rfl).kk t148 hown rfl).kk t152 hown rfl
   obtain rfl := sj h
   exact ⟨M.f.defers, _, (res2 Try.results83 (rv_cellN (ldn_46 _ rfl) (M.t 2 rfl) (b151.sub (cs := #[.int .i64 x127.rule, .int .i64 x127.dot, .int .i64 x127.i, .int .i64 x127.j]) 0 rfl)) (rv_tmp (M.t 0 rfl))), ⟨o105, (.slice A40 p2.length c41), (.slice A42 p6.length c43), (.slice A44 p10.length c45), (.slice A32 p17.length c33), (.slice A34 p20.length c35), (.slice A36 p23.length c37), (.slice A118 (cutl p26 (0 : Int).toNat (IntKind.wrap .i64 ((p26.length : Int) - (1 : Int))).toNat).length c119), rfl, u20, ((b143.kk t148 rfl).kk t152 rfl), u21, u22, u23, u24, u17, u18, u19, u25⟩⟩
  rw [if_neg hk16] at h
  have hk16 := nott hk16
  have M := M.k 40 rfl hk16
  refine c_false (M.e 0 rfl) <| c_seq <| c_reg <| ov rfl rfl M (x_loadN (ldn_46 _ rfl) (M.e 26 rfl) (((q112.kk t125 rfl).kk t144 rfl).sub (cs := #[.int .i64 (0 : Int), .int .i64 (0 : Int), .int .i64 (0 : Int), .int .i64 (0 : Int)]) 0 rfl)) fun a M => ?_
  obtain ⟨w153, r154, b155, t156⟩ := b_storeN (P := Try.prog) (all' := #[.int .i64 (0 : Int), .int .i64 (0 : Int), .int .i64 (0 : Int), .int .i64 (0 : Int)]) (.inr trivial) (stn_46 _ rfl) (M.e 27 rfl) (M.e 0 rfl) ((q112.kk t125 rfl).kk t144 rfl) (show 4 ≤ 4 by decide) (by simp [Value.oneCell']) rfl
  have b155 : Box w153 o105 100 g46 46 #[.int .i64 (0 : Int), .int .i64 (0 : Int), .int .i64 (0 : Int), .int .i64 (0 : Int)] := b155
  refine os rfl (wp0 rfl) rfl (r154 _ _ _ _ _) ?_
  have M := M.pk [0, 27] rfl
  refine pn (j := 3) E 1 M rfl rfl fun a M => x_end rfl <| q_then <| wp_ret <| q_blk_ret ?_
  have u26 := iK (iK (iK i113 t125 rfl) t144 rfl) t156 rfl
  have u27 := iK (iK (iK i114 t125 rfl) t144 rfl) t156 rfl
  have u28 := iK (iK (iK i115 t125 rfl) t144 rfl) t156 rfl
  have u29 := ((q107.kk t125 rfl rfl).kk t144 rfl rfl).kk t156 rfl rfl
  have u30 := ((q108.kk t125 rfl rfl).kk t144 rfl rfl).kk t156 rfl rfl
  have u31 := ((q109.kk t125 rfl rfl).kk t144 rfl rfl).kk t156 rfl rfl
  have u32 := ((b121.kk t125 rfl rfl).kk t144 rfl rfl).kk t156 rfl rfl
  have u33 := ((T116.kk t125 hown rfl).kk t144 hown rfl).kk t156 hown rfl
  obtain rfl := sj h
  exact ⟨M.f.defers, _, (res2 Try.results83 (rv_cellN (ldn_46 _ rfl) (M.t 2 rfl) (b155.sub (cs := #[.int .i64 (0 : Int), .int .i64 (0 : Int), .int .i64 (0 : Int), .int .i64 (0 : Int)]) 0 rfl)) (rv_tmp (M.t 0 rfl))), ⟨o105, (.slice A40 p2.length c41), (.slice A42 p6.length c43), (.slice A44 p10.length c45), (.slice A32 p17.length c33), (.slice A34 p20.length c35), (.slice A36 p23.length c37), (.slice A118 (cutl p26 (0 : Int).toNat (IntKind.wrap .i64 ((p26.length : Int) - (1 : Int))).toNat).length c119), rfl, ((b124.kk t144 rfl).kk t156 rfl), (b143.kk t156 rfl), u29, u30, u31, u32, u26, u27, u28, u33⟩⟩
 rw [if_neg hk3] at h
 have hk3 := nott hk3
 have M := M.k 11 rfl hk3
 refine c_false (M.e 0 rfl) <| wp_skip <| q_then <| c_seq <| c_reg <| pn (j := 3) E 3 M rfl rfl fun a M => ov rfl rfl M (x_load ld_111 (M.e 0 rfl) ((q15.kn t51).cell (n := 8) rfl)) fun a M => x_end rfl <| q_then <| c_seq <| c_reg ?_
 obtain hb157 | ⟨x158, x159, hb157⟩ := list_cases p30
 ·rw [lcase_nil hb157] at h
  have q160 : Chan w47 o48 6 g28 c29 ([]) := by have q := (q31.kn t51); rw [hb157] at q; exact q
  refine x_next (lt rfl) (o_default rfl (wp0 rfl) M.f (lt rfl) (M.e 0 rfl) zv_46 q160 (fun a p => ?_))
  have M := M.put p rfl
  refine pn (j := 3) E 2 M rfl rfl fun a M => x_end rfl <| q_then <| wp_block ?_
  by_cases hk34 : ((-1 : Int) == (0 : Int)) = true
  ·rw [if_pos hk34] at h
   have M := M.k 40 rfl hk34
   refine c_true (M.e 0 rfl) <| c_seq <| c_reg <| pn (j := 1) E 1 M rfl rfl fun a M => ?_
   obtain ⟨w161, r162, b163, t164⟩ := b_storeN (P := Try.prog) (all' := #[.int .i64 (0 : Int), .int .i64 (0 : Int), .int .i64 (0 : Int), .int .i64 (0 : Int)]) (.inr trivial) (stn_46 _ rfl) (M.e 17 rfl) (M.e 0 rfl) b50 (show 4 ≤ 4 by decide) (by simp [Value.oneCell']) rfl
   have b163 : Box w161 o48 100 g46 46 #[.int .i64 (0 : Int), .int .i64 (0 : Int), .int .i64 (0 : Int), .int .i64 (0 : Int)] := b163
   refine os rfl (wp0 rfl) rfl (r162 _ _ _ _ _) <| x_end rfl <| q_then <| c_seq <| c_reg <| ov rfl rfl M (x_loadN (ldn_46 _ rfl) (M.e 17 rfl) (b163.sub (cs := #[.int .i64 (0 : Int), .int .i64 (0 : Int), .int .i64 (0 : Int), .int .i64 (0 : Int)]) 0 rfl)) fun a M => ?_
   obtain ⟨w165, r166, b167, t168⟩ := b_storeN (P := Try.prog) (all' := #[.int .i64 (0 : Int), .int .i64 (0 : Int), .int .i64 (0 : Int), .int .i64 (0 : Int)]) (.inr trivial) (stn_46 _ rfl) (M.e 18 rfl) (M.e 0 rfl) b163 (show 4 ≤ 4 by decide) (by simp [Value.oneCell']) rfl
   have b167 : Box w165 o48 100 g46 46 #[.int .i64 (0 : Int), .int .i64 (0 : Int), .int .i64 (0 : Int), .int .i64 (0 : Int)] := b167
   refine os rfl (wp0 rfl) rfl (r166 _ _ _ _ _) ?_
   have M := M.pk [0, 18] rfl
   refine pn (j := 3) E 1 M rfl rfl fun a M => x_end rfl <| q_then <| wp_ret <| q_blk_ret ?_
   have u35 := iK (iK (iN i5 t51) t164 rfl) t168 rfl
   have u36 := iK (iK (iN i9 t51) t164 rfl) t168 rfl
   have u37 := iK (iK (iN i13 t51) t164 rfl) t168 rfl
   have u38 := ((q15.kn t51).kk t164 rfl).kk t168 rfl
   have u39 := ((q31.kn t51).kk t164 rfl).kk t168 rfl
   have u40 := ((q18.kn t51).kk t164 rfl rfl).kk t168 rfl rfl
   have u41 := ((q21.kn t51).kk t164 rfl rfl).kk t168 rfl rfl
   have u42 := ((q24.kn t51).kk t164 rfl rfl).kk t168 rfl rfl
   have u43 := ((q27.kn t51).kk t164 rfl rfl).kk t168 rfl rfl
   have u44 := ((T0.kn t51).kk t164 hown rfl).kk t168 hown rfl
   obtain rfl := sj h
   exact ⟨M.f.defers, _, (res2 Try.results83 (rv_cellN (ldn_46 _ rfl) (M.t 2 rfl) (b167.sub (cs := #[.int .i64 (0 : Int), .int .i64 (0 : Int), .int .i64 (0 : Int), .int .i64 (0 : Int)]) 0 rfl)) (rv_tmp (M.t 0 rfl))), ⟨o48, (.slice A40 p2.length c41), (.slice A42 p6.length c43), (.slice A44 p10.length c45), (.slice A32 p17.length c33), (.slice A34 p20.length c35), (.slice A36 p23.length c37), (.slice A38 p26.length c39), rfl, u38, u39, u40, u41, u42, u43, u35, u36, u37, u44⟩⟩
  rw [if_neg hk34] at h
  have hk34 := nott hk34
  have M := M.k 40 rfl hk34
  refine c_false (M.e 0 rfl) <| c_seq <| c_reg <| ov rfl rfl M (x_loadN (ldn_46 _ rfl) (M.e 16 rfl) (b50.sub (cs := #[.int .i64 (0 : Int), .int .i64 (0 : Int), .int .i64 (0 : Int), .int .i64 (0 : Int)]) 0 rfl)) fun a M => ?_
  obtain ⟨w169, r170, b171, t172⟩ := b_storeN (P := Try.prog) (all' := #[.int .i64 (0 : Int), .int .i64 (0 : Int), .int .i64 (0 : Int), .int .i64 (0 : Int)]) (.inr trivial) (stn_46 _ rfl) (M.e 17 rfl) (M.e 0 rfl) b50 (show 4 ≤ 4 by decide) (by simp [Value.oneCell']) rfl
  have b171 : Box w169 o48 100 g46 46 #[.int .i64 (0 : Int), .int .i64 (0 : Int), .int .i64 (0 : Int), .int .i64 (0 : Int)] := b171
  refine os rfl (wp0 rfl) rfl (r170 _ _ _ _ _) ?_
  have M := M.pk [0, 17] rfl
  refine pn (j := 3) E 1 M rfl rfl fun a M => x_end rfl <| q_then <| wp_ret <| q_blk_ret ?_
  have u45 := (T0.kn t51).kk t172 hown rfl
  obtain rfl := sj h
  exact ⟨M.f.defers, _, (res2 Try.results83 (rv_cellN (ldn_46 _ rfl) (M.t 2 rfl) (b171.sub (cs := #[.int .i64 (0 : Int), .int .i64 (0 : Int), .int .i64 (0 : Int), .int .i64 (0 : Int)]) 0 rfl)) (rv_tmp (M.t 0 rfl))), ⟨o48, (.slice A40 p2.length c41), (.slice A42 p6.length c43), (.slice A44 p10.length c45), (.slice A32 p17.length c33), (.slice A34 p20.length c35), (.slice A36 p23.length c37), (.slice A38 p26.length c39), rfl, ((q15.kn t51).kk t172 rfl), ((q31.kn t51).kk t172 rfl), ((q18.kn t51).kk t172 rfl rfl), ((q21.kn t51).kk t172 rfl rfl), ((q24.kn t51).kk t172 rfl rfl), ((q27.kn t51).kk t172 rfl rfl), (iK (iN i5 t51) t172 rfl), (iK (iN i9 t51) t172 rfl), (iK (iN i13 t51) t172 rfl), u45⟩⟩
 rw [lcase_cons hb157] at h
 have q160 : Chan w47 o48 6 g28 c29 (cv_46 x158 :: x159.map cv_46) := by have q := (q31.kn t51); rw [hb157] at q; exact q
 refine x_next (lt rfl) (o_recv rfl (wp0 rfl) M.f (lt rfl) (M.e 0 rfl) zv_46 q160 (fun a w173 p b174 t175 => ?_))
 have M := M.put p rfl
 have b174 : Chan w173 o48 6 g28 c29 (x159.map cv_46) := b174
 refine pn (j := 3) E 2 M rfl rfl fun a M => x_end rfl <| q_then <| wp_block ?_
 by_cases hk46 : ((0 : Int) == (0 : Int)) = true
 ·rw [if_pos hk46] at h
  have M := M.k 40 rfl hk46
  refine c_true (M.e 0 rfl) <| c_seq <| c_reg <| pn (j := 1) E 1 M rfl rfl fun a M => ?_
  obtain ⟨w176, r177, b178, t179⟩ := b_storeN (P := Try.prog) (all' := #[.int .i64 x158.rule, .int .i64 x158.dot, .int .i64 x158.i, .int .i64 x158.j]) (.inr trivial) (stn_46 _ rfl) (M.e 17 rfl) (M.e 0 rfl) (b50.kk t175 rfl) (show 4 ≤ 4 by decide) (by simp [Value.oneCell']) rfl
  have b178 : Box w176 o48 100 g46 46 #[.int .i64 x158.rule, .int .i64 x158.dot, .int .i64 x158.i, .int .i64 x158.j] := b178
  refine os rfl (wp0 rfl) rfl (r177 _ _ _ _ _) <| x_end rfl <| q_then <| c_seq <| c_reg <| ov rfl rfl M (x_loadN (ldn_46 _ rfl) (M.e 17 rfl) (b178.sub (cs := #[.int .i64 x158.rule, .int .i64 x158.dot, .int .i64 x158.i, .int .i64 x158.j]) 0 rfl)) fun a M => ?_
  obtain ⟨w180, r181, b182, t183⟩ := b_storeN (P := Try.prog) (all' := #[.int .i64 x158.rule, .int .i64 x158.dot, .int .i64 x158.i, .int .i64 x158.j]) (.inr trivial) (stn_46 _ rfl) (M.e 18 rfl) (M.e 0 rfl) b178 (show 4 ≤ 4 by decide) (by simp [Value.oneCell']) rfl
  have b182 : Box w180 o48 100 g46 46 #[.int .i64 x158.rule, .int .i64 x158.dot, .int .i64 x158.i, .int .i64 x158.j] := b182
  refine os rfl (wp0 rfl) rfl (r181 _ _ _ _ _) ?_
  have M := M.pk [0, 18] rfl
  refine pn (j := 3) E 1 M rfl rfl fun a M => x_end rfl <| q_then <| wp_ret <| q_blk_ret ?_
  have u47 := iK (iK (iK (iN i5 t51) t175 rfl) t179 rfl) t183 rfl
  have u48 := iK (iK (iK (iN i9 t51) t175 rfl) t179 rfl) t183 rfl
  have u49 := iK (iK (iK (iN i13 t51) t175 rfl) t179 rfl) t183 rfl
  have u50 := (((q15.kn t51).kk t175 rfl).kk t179 rfl).kk t183 rfl
  have u51 := (((q18.kn t51).kk t175 rfl rfl).kk t179 rfl rfl).kk t183 rfl rfl
  have u52 := (((q21.kn t51).kk t175 rfl rfl).kk t179 rfl rfl).kk t183 rfl rfl
  have u53 := (((q24.kn t51).kk t175 rfl rfl).kk t179 rfl rfl).kk t183 rfl rfl
  have u54 := (((q27.kn t51).kk t175 rfl rfl).kk t179 rfl rfl).kk t183 rfl rfl
  have u55 := (((T0.kn t51).kk t175 hown rfl).kk t179 hown rfl).kk t183 hown rfl
  obtain rfl := sj h
  exact ⟨M.f.defers, _, (res2 Try.results83 (rv_cellN (ldn_46 _ rfl) (M.t 2 rfl) (b182.sub (cs := #[.int .i64 x158.rule, .int .i64 x158.dot, .int .i64 x158.i, .int .i64 x158.j]) 0 rfl)) (rv_tmp (M.t 0 rfl))), ⟨o48, (.slice A40 p2.length c41), (.slice A42 p6.length c43), (.slice A44 p10.length c45), (.slice A32 p17.length c33), (.slice A34 p20.length c35), (.slice A36 p23.length c37), (.slice A38 p26.length c39), rfl, u50, ((b174.kk t179 rfl).kk t183 rfl), u51, u52, u53, u54, u47, u48, u49, u55⟩⟩
 rw [if_neg hk46] at h
 have hk46 := nott hk46
 have M := M.k 40 rfl hk46
 refine c_false (M.e 0 rfl) <| c_seq <| c_reg <| ov rfl rfl M (x_loadN (ldn_46 _ rfl) (M.e 16 rfl) ((b50.kk t175 rfl).sub (cs := #[.int .i64 (0 : Int), .int .i64 (0 : Int), .int .i64 (0 : Int), .int .i64 (0 : Int)]) 0 rfl)) fun a M => ?_
 obtain ⟨w184, r185, b186, t187⟩ := b_storeN (P := Try.prog) (all' := #[.int .i64 (0 : Int), .int .i64 (0 : Int), .int .i64 (0 : Int), .int .i64 (0 : Int)]) (.inr trivial) (stn_46 _ rfl) (M.e 17 rfl) (M.e 0 rfl) (b50.kk t175 rfl) (show 4 ≤ 4 by decide) (by simp [Value.oneCell']) rfl
 have b186 : Box w184 o48 100 g46 46 #[.int .i64 (0 : Int), .int .i64 (0 : Int), .int .i64 (0 : Int), .int .i64 (0 : Int)] := b186
 refine os rfl (wp0 rfl) rfl (r185 _ _ _ _ _) ?_
 have M := M.pk [0, 17] rfl
 refine pn (j := 3) E 1 M rfl rfl fun a M => x_end rfl <| q_then <| wp_ret <| q_blk_ret ?_
 have u56 := iK (iK (iN i5 t51) t175 rfl) t187 rfl
 have u57 := iK (iK (iN i9 t51) t175 rfl) t187 rfl
 have u58 := iK (iK (iN i13 t51) t175 rfl) t187 rfl
 have u59 := ((q15.kn t51).kk t175 rfl).kk t187 rfl
 have u60 := ((q18.kn t51).kk t175 rfl rfl).kk t187 rfl rfl
 have u61 := ((q21.kn t51).kk t175 rfl rfl).kk t187 rfl rfl
 have u62 := ((q24.kn t51).kk t175 rfl rfl).kk t187 rfl rfl
 have u63 := ((q27.kn t51).kk t175 rfl rfl).kk t187 rfl rfl
 have u64 := ((T0.kn t51).kk t175 hown rfl).kk t187 hown rfl
 obtain rfl := sj h
 exact ⟨M.f.defers, _, (res2 Try.results83 (rv_cellN (ldn_46 _ rfl) (M.t 2 rfl) (b186.sub (cs := #[.int .i64 (0 : Int), .int .i64 (0 : Int), .int .i64 (0 : Int), .int .i64 (0 : Int)]) 0 rfl)) (rv_tmp (M.t 0 rfl))), ⟨o48, (.slice A40 p2.length c41), (.slice A42 p6.length c43), (.slice A44 p10.length c45), (.slice A32 p17.length c33), (.slice A34 p20.length c35), (.slice A36 p23.length c37), (.slice A38 p26.length c39), rfl, u59, (b174.kk t187 rfl), u60, u61, u62, u63, u56, u57, u58, u64⟩⟩
end Go.Proofs.Ythilemcdhkfhlaa
namespace Go.Proofs.Ythilemcdhkfhlaa
open Go Go.RowKit Go.Gc Go.Proofs
def grammar_Term (k : Nat) (p1 : Grammar) (p11 : Int) : Option Bool :=
  if (decide ((0 : Int) ≤ p11)) = true then (some (decide (p11 < (p1.terms.length : Int)))) else (some false)
theorem grammar_Term_calls {k : Nat} {p1 : Grammar} {v2 : Value} {v5 : Value} {v8 : Value} {p11 : Int} {r : Bool} (h : grammar_Term k p1 p11 = some r) {w0 : World} {o0 : Own} (hown : Hown o0)
    (i4 : ((tSlice 9 tStr (by decide))).im w0 (L o0 0) p1.terms [v2])
    (i7 : ((tSlice 9 tStr (by decide))).im w0 (L o0 0) p1.names [v5])
    (i10 : ((tSlice 28 tyRule (by decide))).im w0 (L o0 0) p1.rules [v8]) :
    Calls Try.prog 80 #[.agg #[v2, v5, v8], .int .i64 p11] w0 (fun e w => ∃ (o24 : Own), e = .returned (.bool r) ∧ Tr (Ls o0 []) w0 o0 w o24) := by
 unfold grammar_Term at h
 refine startM Try.func80 rfl Try.ntmps80 (show 2 ≤ 14 by decide) fun a M => ?_
 have M : MB 14 [] [(0, .agg #[v2, v5, v8]), (1, .int .i64 p11)] a := M
 obtain ⟨A12, c13, hzc13, -⟩ := im_form i4
 subst hzc13
 obtain ⟨A14, c15, hzc15, -⟩ := im_form i7
 subst hzc15
 obtain ⟨A16, c17, hzc17, -⟩ := im_form i10
 subst hzc17
 have T0 : Tr (Ls o0 []) w0 o0 w0 o0 := Tr.refl _ _ _
 refine c_seq <| c_reg ?_
 obtain ⟨g18, w19, o20, r21, b22, t23⟩ := b_box (P := Try.prog) (T := 25) (M.e 0 rfl) w0 o0 100
 refine ov rfl rfl M (r21 _ _ _ _ _) fun a M => pn (j := 2) E 1 M rfl rfl fun a M => x_end rfl <| q_then <| c_seq <| c_reg <| pn (j := 3) E 3 M rfl rfl fun a M => ?_
 by_cases hk1 : (decide ((0 : Int) ≤ p11)) = true
 ·rw [if_pos hk1] at h
  have M := M.k 7 rfl hk1
  refine pn (j := 5) E 2 M rfl rfl fun a M => ow rfl (wanted_yes rfl rfl (M.t 2 rfl)) rfl rfl M (x_load ld_22 (M.e 0 rfl) (b22.cell (n := 0) rfl)) fun a M => pn (j := 9) E 3 M rfl rfl fun a M => ?_
  have M := M.pk [0, 1, 2, 3, 4, 5, 6, 7, 8, 10, 12] rfl
  refine pn (j := 10) E 1 M rfl rfl fun a M => x_end rfl <| q_then <| wp_ret ?_
  have u2 := T0.kn t23
  obtain rfl := sj h
  exact ⟨M.f.defers, _, (res1 Try.results80 (rv_tmp (M.t 0 rfl))), ⟨o20, rfl, u2⟩⟩
 rw [if_neg hk1] at h
 have hk1 := nott hk1
 have M := M.k 7 rfl hk1
 refine pn (j := 9) E 6 M rfl rfl fun a M => ?_
 have M := M.pk [0, 1, 2, 3, 4, 5, 6, 7, 8, 10, 12] rfl
 refine pn (j := 10) E 1 M rfl rfl fun a M => x_end rfl <| q_then <| wp_ret ?_
 have u3 := T0.kn t23
 obtain rfl := sj h
 exact ⟨M.f.defers, _, (res1 Try.results80 (rv_tmp (M.t 0 rfl))), ⟨o20, rfl, u3⟩⟩
end Go.Proofs.Ythilemcdhkfhlaa
namespace Go.Proofs.Ythilemcdhkfhlaa
open Go Go.RowKit Go.Gc Go.Proofs
def lex_letter (k : Nat) (p1 : Int) : Option Bool :=
  if (decide ((97 : Int) ≤ p1)) = true then (if (decide (p1 ≤ (122 : Int))) = true then (some true) else (if (decide ((65 : Int) ≤ p1)) = true then (some (decide (p1 ≤ (90 : Int)))) else (some false))) else (if (decide ((65 : Int) ≤ p1)) = true then (some (decide (p1 ≤ (90 : Int)))) else (some false))
theorem lex_letter_calls {k : Nat} {p1 : Int} {r : Bool} (h : lex_letter k p1 = some r) {w0 : World} {o0 : Own} (hown : Hown o0) :
    Calls Try.prog 170 #[.int .u8 p1] w0 (fun e w => ∃ (o2 : Own), e = .returned (.bool r) ∧ Tr (Ls o0 []) w0 o0 w o2) := by
 unfold lex_letter at h
 refine startM Try.func170 rfl Try.ntmps170 (show 1 ≤ 17 by decide) fun a M => ?_
 have M : MB 17 [] [(0, .int .u8 p1)] a := M
 have T0 : Tr (Ls o0 []) w0 o0 w0 o0 := Tr.refl _ _ _
 refine c_seq <| c_reg <| pn (j := 1) E 1 M rfl rfl fun a M => x_end rfl <| q_then <| c_seq <| c_reg <| pn (j := 3) E 3 M rfl rfl fun a M => ?_
 by_cases hk1 : (decide ((97 : Int) ≤ p1)) = true
 ·rw [if_pos hk1] at h
  have M := M.k 5 rfl hk1
  refine pn (j := 7) E 4 M rfl rfl fun a M => ?_
  by_cases hk2 : (decide (p1 ≤ (122 : Int))) = true
  ·rw [if_pos hk2] at h
   have M := M.k 9 rfl hk2
   refine pn (j := 14) E 7 M rfl rfl fun a M => ?_
   have M := M.pk [0, 1, 2, 3, 4, 5, 6, 7, 8, 9, 10, 11, 12, 13, 15] rfl
   refine pn (j := 15) E 1 M rfl rfl fun a M => x_end rfl <| q_then <| wp_ret ?_
   obtain rfl := sj h
   exact ⟨M.f.defers, _, (res1 Try.results170 (rv_tmp (M.t 0 rfl))), ⟨o0, rfl, T0⟩⟩
  rw [if_neg hk2] at h
  have hk2 := nott hk2
  have M := M.k 9 rfl hk2
  refine pn (j := 10) E 3 M rfl rfl fun a M => ?_
  by_cases hk3 : (decide ((65 : Int) ≤ p1)) = true
  ·rw [if_pos hk3] at h
   have M := M.k 12 rfl hk3
   refine pn (j := 14) E 4 M rfl rfl fun a M => ?_
   have M := M.pk [0, 1, 2, 3, 4, 5, 6, 7, 8, 9, 10, 11, 12, 13, 15] rfl
   refine pn (j := 15) E 1 M rfl rfl fun a M => x_end rfl <| q_then <| wp_ret ?_
   obtain rfl := sj h
   exact ⟨M.f.defers, _, (res1 Try.results170 (rv_tmp (M.t 0 rfl))), ⟨o0, rfl, T0⟩⟩
  rw [if_neg hk3] at h
  have hk3 := nott hk3
  have M := M.k 12 rfl hk3
  refine pn (j := 14) E 4 M rfl rfl fun a M => ?_
  have M := M.pk [0, 1, 2, 3, 4, 5, 6, 7, 8, 9, 10, 11, 12, 13, 15] rfl
  refine pn (j := 15) E 1 M rfl rfl fun a M => x_end rfl <| q_then <| wp_ret ?_
  obtain rfl := sj h
  exact ⟨M.f.defers, _, (res1 Try.results170 (rv_tmp (M.t 0 rfl))), ⟨o0, rfl, T0⟩⟩
 rw [if_neg hk1] at h
 have hk1 := nott hk1
 have M := M.k 5 rfl hk1
 refine pn (j := 10) E 7 M rfl rfl fun a M => ?_
 by_cases hk4 : (decide ((65 : Int) ≤ p1)) = true
 ·rw [if_pos hk4] at h
  have M := M.k 12 rfl hk4
  refine pn (j := 14) E 4 M rfl rfl fun a M => ?_
  have M := M.pk [0, 1, 2, 3, 4, 5, 6, 7, 8, 9, 10, 11, 12, 13, 15] rfl
  refine pn (j := 15) E 1 M rfl rfl fun a M => x_end rfl <| q_then <| wp_ret ?_
  obtain rfl := sj h
  exact ⟨M.f.defers, _, (res1 Try.results170 (rv_tmp (M.t 0 rfl))), ⟨o0, rfl, T0⟩⟩
 rw [if_neg hk4] at h
 have hk4 := nott hk4
 have M := M.k 12 rfl hk4
 refine pn (j := 14) E 4 M rfl rfl fun a M => ?_
 have M := M.pk [0, 1, 2, 3, 4, 5, 6, 7, 8, 9, 10, 11, 12, 13, 15] rfl
 refine pn (j := 15) E 1 M rfl rfl fun a M => x_end rfl <| q_then <| wp_ret ?_
 obtain rfl := sj h
 exact ⟨M.f.defers, _, (res1 Try.results170 (rv_tmp (M.t 0 rfl))), ⟨o0, rfl, T0⟩⟩
end Go.Proofs.Ythilemcdhkfhlaa
namespace Go.Proofs.Ythilemcdhkfhlaa
open Go Go.RowKit Go.Gc Go.Proofs
def lex_inner (k : Nat) (p1 : Int) : Option Bool :=
  (lex_letter k p1).bind fun r2 => if r2 = true then (some true) else (if (decide ((48 : Int) ≤ p1)) = true then (if (decide (p1 ≤ (57 : Int))) = true then (some true) else (some (p1 == (95 : Int)))) else (some (p1 == (95 : Int))))
theorem lex_inner_calls {k : Nat} {p1 : Int} {r : Bool} (h : lex_inner k p1 = some r) {w0 : World} {o0 : Own} (hown : Hown o0) :
    Calls Try.prog 172 #[.int .u8 p1] w0 (fun e w => ∃ (o12 : Own), e = .returned (.bool r) ∧ Tr (Ls o0 []) w0 o0 w o12) := by
 unfold lex_inner at h
 refine startM Try.func172 rfl Try.ntmps172 (show 1 ≤ 17 by decide) fun a M => ?_
 have M : MB 17 [] [(0, .int .u8 p1)] a := M
 have T0 : Tr (Ls o0 []) w0 o0 w0 o0 := Tr.refl _ _ _
 refine c_seq <| c_reg <| pn (j := 1) E 1 M rfl rfl fun a M => x_end rfl <| q_then <| c_seq <| c_reg <| pn (j := 1) E 1 M rfl rfl fun a M => ?_
 obtain ⟨r2, hr3, h⟩ := bind_some h
 refine oc rfl (wp0 rfl) rfl rfl M (x_call cf_170 (m1 (M.e 0 rfl))) (lex_letter_calls hr3 (lko_own (T := [(0, 0)]) (o := o0) rfl)) (fun e1 w4 hp5 => ?_)
 obtain ⟨o6, he7, T8⟩ := hp5
 obtain ⟨o9, ho10⟩ := ex (mrg w0 o0 [(0, 0)] o6)
 have t11 := T8.r0 ho10
 refine ⟨_, he7, fun a M => ?_⟩
 refine pn (j := 3) E 1 M rfl rfl fun a M => ?_
 by_cases hk2 : r2 = true
 ·rw [if_pos hk2] at h
  have M := M.k 5 rfl hk2
  refine pn (j := 14) E 11 M rfl rfl fun a M => ?_
  have M := M.pk [0, 1, 2, 3, 4, 5, 6, 7, 8, 9, 10, 11, 12, 13, 15] rfl
  refine pn (j := 15) E 1 M rfl rfl fun a M => x_end rfl <| q_then <| wp_ret ?_
  have u3 := T0.kn t11
  obtain rfl := sj h
  exact ⟨M.f.defers, _, (res1 Try.results172 (rv_tmp (M.t 0 rfl))), ⟨o9, rfl, u3⟩⟩
 rw [if_neg hk2] at h
 have hk2 := nott hk2
 have M := M.k 5 rfl hk2
 refine pn (j := 6) E 3 M rfl rfl fun a M => ?_
 by_cases hk4 : (decide ((48 : Int) ≤ p1)) = true
 ·rw [if_pos hk4] at h
  have M := M.k 8 rfl hk4
  refine pn (j := 11) E 5 M rfl rfl fun a M => ?_
  by_cases hk5 : (decide (p1 ≤ (57 : Int))) = true
  ·rw [if_pos hk5] at h
   have M := M.k 13 rfl hk5
   refine pn (j := 14) E 3 M rfl rfl fun a M => ?_
   have M := M.pk [0, 1, 2, 3, 4, 5, 6, 7, 8, 9, 10, 11, 12, 13, 15] rfl
   refine pn (j := 15) E 1 M rfl rfl fun a M => x_end rfl <| q_then <| wp_ret ?_
   have u6 := T0.kn t11
   obtain rfl := sj h
   exact ⟨M.f.defers, _, (res1 Try.results172 (rv_tmp (M.t 0 rfl))), ⟨o9, rfl, u6⟩⟩
  rw [if_neg hk5] at h
  have hk5 := nott hk5
  have M := M.k 13 rfl hk5
  refine pn (j := 14) E 3 M rfl rfl fun a M => ?_
  have M := M.pk [0, 1, 2, 3, 4, 5, 6, 7, 8, 9, 10, 11, 12, 13, 15] rfl
  refine pn (j := 15) E 1 M rfl rfl fun a M => x_end rfl <| q_then <| wp_ret ?_
  have u7 := T0.kn t11
  obtain rfl := sj h
  exact ⟨M.f.defers, _, (res1 Try.results172 (rv_tmp (M.t 0 rfl))), ⟨o9, rfl, u7⟩⟩
 rw [if_neg hk4] at h
 have hk4 := nott hk4
 have M := M.k 8 rfl hk4
 refine pn (j := 14) E 8 M rfl rfl fun a M => ?_
 have M := M.pk [0, 1, 2, 3, 4, 5, 6, 7, 8, 9, 10, 11, 12, 13, 15] rfl
 refine pn (j := 15) E 1 M rfl rfl fun a M => x_end rfl <| q_then <| wp_ret ?_
 have u8 := T0.kn t11
 obtain rfl := sj h
 exact ⟨M.f.defers, _, (res1 Try.results172 (rv_tmp (M.t 0 rfl))), ⟨o9, rfl, u8⟩⟩
end Go.Proofs.Ythilemcdhkfhlaa
namespace Go.Proofs.Ythilemcdhkfhlaa
open Go Go.RowKit Go.Gc Go.Proofs
def lex_run_1_b0 (k : Nat) (p1 : ByteArray) (y16 : Int) : Option (Int ⊕ Int) :=
  if (decide (y16 < (p1.size : Int))) = true then ((at? p1.data.toList y16).bind fun x40 => (lex_inner k (x40.toNat : Int)).bind fun r42 => if r42 = true then (some (.inl (IntKind.wrap .i64 (y16 + (1 : Int))))) else (some (.inr y16))) else (some (.inr y16))
def lex_run_1 (k : Nat) (p1 : ByteArray) : Option Int :=
  (iter (fun (s : Int) => lex_run_1_b0 k p1 s) k (0 : Int)).bind fun x52 => some x52
theorem lex_run_1_calls {k : Nat} {p1 : ByteArray} {r : Int} (h : lex_run_1 k p1 = some r) {w0 : World} {o0 : Own} (hown : Hown o0) :
    Calls Try.prog 171 #[.string p1, .func (.func 172) #[] #[]] w0 (fun e w => ∃ (o59 : Own), e = .returned (.int .i64 r) ∧ Tr (Ls o0 []) w0 o0 w o59) := by
 unfold lex_run_1 at h
 refine startM Try.func171 rfl Try.ntmps171 (show 2 ≤ 20 by decide) fun a M => ?_
 have M : MB 20 [] [(0, .string p1), (1, .func (.func 172) #[] #[])] a := M
 have T0 : Tr (Ls o0 []) w0 o0 w0 o0 := Tr.refl _ _ _
 refine c_seq <| c_reg <| pn (j := 1) E 1 M rfl rfl fun a M => x_end rfl <| q_then <| c_seq <| c_reg <| pn (j := 1) E 1 M rfl rfl fun a M => x_end rfl <| q_then <| c_seq <| wp_block ?_
 obtain ⟨x52, hx53, h⟩ := bind_some h
 refine loop_iter (S := Int) (X := Int) (fun (s : Int) => lex_run_1_b0 k p1 s) (fun (s : Int) (a : Act) (w : World) => ∃ (o33 : Own), MB 20 [] [(0, .string p1), (1, .func (.func 172) #[] #[]), (5, .int .i64 s)] a ∧ Tr (Ls o0 []) w0 o0 w o33) (fun (x : Int) (e : Exit) (a : Act) (w : World) => (e = .exit 0 ∧ ∃ (o34 : Own), MB 20 [] [(5, .int .i64 x)] a ∧ Tr (Ls o0 []) w0 o0 w o34)) ?_ hx53 ⟨o0, (M.pk [2, 3, 0] rfl), T0⟩ ?_
 ·rintro y16 a w35 r36 hI37 h
  replace h : lex_run_1_b0 k p1 y16 = some r36 := h
  unfold lex_run_1_b0 at h
  obtain ⟨o38, M, T39⟩ := hI37
  refine c_seq <| c_seq <| c_reg <| pn (j := 5) E 5 M rfl rfl fun a M => ?_
  by_cases hk7 : (decide (y16 < (p1.size : Int))) = true
  ·rw [if_pos hk7] at h
   have M := M.k 10 rfl hk7
   refine pn (j := 8) E 3 M rfl rfl fun a M => ?_
   obtain ⟨x40, hx41, h⟩ := bind_some h
   obtain ⟨hx410, hx411, hx412⟩ := at_some hx41
   refine ow rfl (wanted_yes rfl rfl (M.t 3 rfl)) rfl rfl M (x_index Try.underlying9 (M.e 1 rfl) (M.e 0 rfl) hx410 hx411) fun a M => ?_
   obtain ⟨r42, hr43, h⟩ := bind_some h
   refine oc rfl (wanted_yes rfl rfl (M.t 4 rfl)) rfl rfl M (x_callv cf_172 (M.e 3 rfl) (m1 (M.e 0 rfl))) (lex_inner_calls hr43 (lko_own (T := [(0, 0)]) (o := o38) rfl)) (fun e8 w44 hp45 => ?_)
   obtain ⟨o46, he47, T48⟩ := hp45
   obtain ⟨o49, ho50⟩ := ex (mrg w35 o38 [(0, 0)] o46)
   have t51 := T48.r0 ho50
   refine ⟨_, he47, fun a M => ?_⟩
   refine pn (j := 11) E 1 M rfl rfl fun a M => x_end rfl <| q_then ?_
   by_cases hk9 : r42 = true
   ·rw [if_pos hk9] at h
    have M := M.k 16 rfl hk9
    refine c_true (M.e 0 rfl) <| wp_skip <| q_then <| wp_block <| c_reg <| pn (j := 2) E 2 M rfl rfl fun a M => ?_
    have M := M.pk [0, 1, 3, 4, 5, 6, 7, 13, 14] rfl
    refine pn (j := 3) E 1 M rfl rfl fun a M => x_end rfl <| q_blk ?_
    obtain rfl := sj h
    have u10 := T39.kn t51
    exact lq_next ⟨o49, (M.pk [8, 9, 0] rfl), u10⟩
   rw [if_neg hk9] at h
   have hk9 := nott hk9
   have M := M.k 16 rfl hk9
   refine c_false (M.e 0 rfl) <| wp_exit <| q_then_exit ?_
   obtain rfl := sj h
   have u11 := T39.kn t51
   exact lq_exit ⟨rfl, ⟨o49, (M.pk [13] rfl), u11⟩⟩
  rw [if_neg hk7] at h
  have hk7 := nott hk7
  have M := M.k 10 rfl hk7
  refine pn (j := 11) E 6 M rfl rfl fun a M => x_end rfl <| q_then <| c_false (M.e 0 rfl) <| wp_exit <| q_then_exit ?_
  obtain rfl := sj h
  exact lq_exit ⟨rfl, ⟨o38, (M.pk [13] rfl), T39⟩⟩
 intro e12 a w54 hO55
 obtain ⟨he56, hO55⟩ := hO55
 subst he56
 obtain ⟨o57, M, T58⟩ := hO55
 refine q_blk_here <| q_then <| c_seq <| c_reg <| pn (j := 2) E 2 M rfl rfl fun a M => x_end rfl <| q_then <| wp_ret ?_
 obtain rfl := sj h
 exact ⟨M.f.defers, _, (res1 Try.results171 (rv_tmp (M.t 0 rfl))), ⟨o57, rfl, T58⟩⟩
end Go.Proofs.Ythilemcdhkfhlaa
namespace Go.Proofs.Ythilemcdhkfhlaa
open Go Go.RowKit Go.Gc Go.Proofs
def lex_IsName (k : Nat) (p1 : ByteArray) : Option Bool :=
  if (decide ((1 : Int) ≤ (p1.size : Int))) = true then (if (decide ((p1.size : Int) ≤ (16 : Int))) = true then ((at? p1.data.toList (0 : Int)).bind fun x2 => (lex_letter k (x2.toNat : Int)).bind fun r4 => if r4 = true then ((lex_run_1 k p1).bind fun r14 => some (r14 == (p1.size : Int))) else (some false)) else (some false)) else (some false)
theorem lex_IsName_calls {k : Nat} {p1 : ByteArray} {r : Bool} (h : lex_IsName k p1 = some r) {w0 : World} {o0 : Own} (hown : Hown o0) :
    Calls Try.prog 130 #[.string p1] w0 (fun e w => ∃ (o24 : Own), e = .returned (.bool r) ∧ Tr (Ls o0 []) w0 o0 w o24) := by
 unfold lex_IsName at h
 refine startM Try.func130 rfl Try.ntmps130 (show 1 ≤ 23 by decide) fun a M => ?_
 have M : MB 23 [] [(0, .string p1)] a := M
 have T0 : Tr (Ls o0 []) w0 o0 w0 o0 := Tr.refl _ _ _
 refine c_seq <| c_reg <| pn (j := 1) E 1 M rfl rfl fun a M => x_end rfl <| q_then <| c_seq <| c_reg <| pn (j := 4) E 4 M rfl rfl fun a M => ?_
 by_cases hk1 : (decide ((1 : Int) ≤ (p1.size : Int))) = true
 ·rw [if_pos hk1] at h
  have M := M.k 6 rfl hk1
  refine pn (j := 9) E 5 M rfl rfl fun a M => ?_
  by_cases hk2 : (decide ((p1.size : Int) ≤ (16 : Int))) = true
  ·rw [if_pos hk2] at h
   have M := M.k 11 rfl hk2
   refine pn (j := 10) E 1 M rfl rfl fun a M => ?_
   obtain ⟨x2, hx3, h⟩ := bind_some h
   obtain ⟨hx30, hx31, hx32⟩ := at_some hx3
   refine ow rfl (wanted_yes rfl rfl (M.t 1 rfl)) rfl rfl M (x_index Try.underlying9 (M.e 0 rfl) (e_const (v := .int .i64 (0 : Int))) hx30 hx31) fun a M => ?_
   obtain ⟨r4, hr5, h⟩ := bind_some h
   refine oc rfl (wanted_yes rfl rfl (M.t 2 rfl)) rfl rfl M (x_call cf_170 (m1 (M.e 0 rfl))) (lex_letter_calls hr5 (lko_own (T := [(0, 0)]) (o := o0) rfl)) (fun e3 w6 hp7 => ?_)
   obtain ⟨o8, he9, T10⟩ := hp7
   obtain ⟨o11, ho12⟩ := ex (mrg w0 o0 [(0, 0)] o8)
   have t13 := T10.r0 ho12
   refine ⟨_, he9, fun a M => ?_⟩
   refine pn (j := 14) E 2 M rfl rfl fun a M => ?_
   by_cases hk4 : r4 = true
   ·rw [if_pos hk4] at h
    have M := M.k 16 rfl hk4
    refine pn (j := 15) E 1 M rfl rfl fun a M => ?_
    obtain ⟨r14, hr15, h⟩ := bind_some h
    refine oc rfl (wanted_yes rfl rfl (M.t 1 rfl)) rfl rfl M (x_call cf_171 (m2 (M.e 0 rfl) e_func)) (lex_run_1_calls hr15 (lko_own (T := [(0, 0)]) (o := o11) rfl)) (fun e5 w16 hp17 => ?_)
    obtain ⟨o18, he19, T20⟩ := hp17
    obtain ⟨o21, ho22⟩ := ex (mrg w6 o11 [(0, 0)] o18)
    have t23 := T20.r0 ho22
    refine ⟨_, he19, fun a M => ?_⟩
    refine pn (j := 20) E 4 M rfl rfl fun a M => ?_
    have M := M.pk [0, 1, 2, 3, 4, 5, 6, 7, 8, 9, 10, 11, 12, 13, 14, 15, 16, 17, 18, 19, 21] rfl
    refine pn (j := 21) E 1 M rfl rfl fun a M => x_end rfl <| q_then <| wp_ret ?_
    have u6 := (T0.kn t13).kn t23
    obtain rfl := sj h
    exact ⟨M.f.defers, _, (res1 Try.results130 (rv_tmp (M.t 0 rfl))), ⟨o21, rfl, u6⟩⟩
   rw [if_neg hk4] at h
   have hk4 := nott hk4
   have M := M.k 16 rfl hk4
   refine pn (j := 20) E 6 M rfl rfl fun a M => ?_
   have M := M.pk [0, 1, 2, 3, 4, 5, 6, 7, 8, 9, 10, 11, 12, 13, 14, 15, 16, 17, 18, 19, 21] rfl
   refine pn (j := 21) E 1 M rfl rfl fun a M => x_end rfl <| q_then <| wp_ret ?_
   have u7 := T0.kn t13
   obtain rfl := sj h
   exact ⟨M.f.defers, _, (res1 Try.results130 (rv_tmp (M.t 0 rfl))), ⟨o11, rfl, u7⟩⟩
  rw [if_neg hk2] at h
  have hk2 := nott hk2
  have M := M.k 11 rfl hk2
  refine pn (j := 20) E 11 M rfl rfl fun a M => ?_
  have M := M.pk [0, 1, 2, 3, 4, 5, 6, 7, 8, 9, 10, 11, 12, 13, 14, 15, 16, 17, 18, 19, 21] rfl
  refine pn (j := 21) E 1 M rfl rfl fun a M => x_end rfl <| q_then <| wp_ret ?_
  obtain rfl := sj h
  exact ⟨M.f.defers, _, (res1 Try.results130 (rv_tmp (M.t 0 rfl))), ⟨o0, rfl, T0⟩⟩
 rw [if_neg hk1] at h
 have hk1 := nott hk1
 have M := M.k 6 rfl hk1
 refine pn (j := 20) E 16 M rfl rfl fun a M => ?_
 have M := M.pk [0, 1, 2, 3, 4, 5, 6, 7, 8, 9, 10, 11, 12, 13, 14, 15, 16, 17, 18, 19, 21] rfl
 refine pn (j := 21) E 1 M rfl rfl fun a M => x_end rfl <| q_then <| wp_ret ?_
 obtain rfl := sj h
 exact ⟨M.f.defers, _, (res1 Try.results130 (rv_tmp (M.t 0 rfl))), ⟨o0, rfl, T0⟩⟩
end Go.Proofs.Ythilemcdhkfhlaa
namespace Go.Proofs.Ythilemcdhkfhlaa
open Go Go.RowKit Go.Gc Go.Proofs
def slices_Index_1_b0 (k : Nat) (p1 : List ByteArray) (p5 : ByteArray) (y21 : Int) : Option (Int ⊕ (Int ⊕ Unit)) :=
  if (decide (y21 < (p1.length : Int))) = true then ((at? p1 y21).bind fun x46 => if (seq p5 x46) = true then (some (.inr (.inl y21))) else (some (.inl (IntKind.wrap .i64 (y21 + (1 : Int)))))) else (some (.inr (.inr ())))
def slices_Index_1 (k : Nat) (p1 : List ByteArray) (p5 : ByteArray) : Option Int :=
  (iter (fun (s : Int) => slices_Index_1_b0 k p1 p5 s) k (0 : Int)).bind fun x56 => scase x56 (fun x56 => some x56) (fun x56 => some (-1 : Int))
theorem slices_Index_1_calls {k : Nat} {p1 : List ByteArray} {v2 : Value} {p5 : ByteArray} {r : Int} (h : slices_Index_1 k p1 p5 = some r) {w0 : World} {o0 : Own} (hown : Hown o0)
    (i4 : ((tSlice 9 tStr (by decide))).im w0 (L o0 0) p1 [v2]) :
    Calls Try.prog 166 #[v2, .string p5] w0 (fun e w => ∃ (o66 : Own), e = .returned (.int .i64 r) ∧ Tr (Ls o0 []) w0 o0 w o66) := by
 unfold slices_Index_1 at h
 refine startM Try.func166 rfl Try.ntmps166 (show 2 ≤ 19 by decide) fun a M => ?_
 have M : MB 19 [] [(0, v2), (1, .string p5)] a := M
 obtain ⟨A6, c7, hzc7, -⟩ := im_form i4
 subst hzc7
 have T0 : Tr (Ls o0 []) w0 o0 w0 o0 := Tr.refl _ _ _
 refine c_seq <| c_reg <| pn (j := 1) E 1 M rfl rfl fun a M => x_end rfl <| q_then <| c_seq <| c_seq <| c_reg <| pn (j := 3) E 3 M rfl rfl fun a M => x_end rfl <| q_then <| wp_block ?_
 obtain ⟨x56, hx57, h⟩ := bind_some h
 refine loop_iter (S := Int) (X := (Int ⊕ Unit)) (fun (s : Int) => slices_Index_1_b0 k p1 p5 s) (fun (s : Int) (a : Act) (w : World) => ∃ (o37 : Own), MB 19 [] [(0, .slice A6 p1.length c7), (1, .string p5), (7, .int .i64 (p1.length : Int)), (8, .int .i64 s)] a ∧ ((tSlice 9 tStr (by decide))).im w (L o37 0) p1 [.slice A6 p1.length c7] ∧ Tr (Ls o0 []) w0 o0 w o37) (fun (x : (Int ⊕ Unit)) (e : Exit) (a : Act) (w : World) => (match x with | .inl x => (e = .ret ∧ ∃ (o38 : Own), MB 19 [] [(4, .int .i64 x)] a ∧ Tr (Ls o0 []) w0 o0 w o38) | .inr x => (e = .exit 0 ∧ ∃ (o39 : Own), MB 19 [] [] a ∧ Tr (Ls o0 []) w0 o0 w o39))) ?_ hx57 ⟨o0, (M.pk [4, 5, 1, 0] rfl), i4, T0⟩ ?_
 ·rintro y21 a w40 r41 hI42 h
  replace h : slices_Index_1_b0 k p1 p5 y21 = some r41 := h
  unfold slices_Index_1_b0 at h
  obtain ⟨o43, M, i44, T45⟩ := hI42
  refine c_seq <| c_reg <| pn (j := 1) E 1 M rfl rfl fun a M => x_end rfl <| q_then <| c_seq ?_
  by_cases hk8 : (decide (y21 < (p1.length : Int))) = true
  ·rw [if_pos hk8] at h
   have M := M.k 9 rfl hk8
   refine c_true (M.e 0 rfl) <| wp_skip <| q_then <| c_seq <| wp_block <| c_seq <| c_reg <| pn (j := 2) E 2 M rfl rfl fun a M => x_end rfl <| q_then <| c_seq <| c_reg <| pn (j := 3) E 3 M rfl rfl fun a M => ?_
   obtain ⟨x46, hx47, h⟩ := bind_some h
   obtain ⟨hx470, hx471, hx472⟩ := at_some hx47
   obtain ⟨g48, f49, c50, ds51, hv52, hd53, he54⟩ := im_elem i44 hx471
   have hsds51 : ds51 = [.string x46] := hd53
   subst hsds51
   have he54 : ElemAt w40 o43 0 g48 f49 (y21).toNat 1 [.string x46] := he54
   refine ov rfl rfl M (x_indexAddr Try.underlying22 sz_9 ((M.e 1 rfl).trans hv52) (M.e 0 rfl) hx470 hx472) fun a M => ov rfl rfl M (x_load ld_9 (M.e 0 rfl) (he54.2 0 _ rfl)) fun a M => ov rfl rfl M (x_seq (M.e 4 rfl) (M.e 0 rfl)) fun a M => x_end rfl <| q_then ?_
   by_cases hk9 : (seq p5 x46) = true
   ·rw [if_pos hk9] at h
    have M := M.k 16 rfl hk9
    refine c_true (M.e 0 rfl) <| c_seq <| c_reg <| pn (j := 2) E 2 M rfl rfl fun a M => x_end rfl <| q_then <| wp_ret <| q_blk_ret <| q_then_ret ?_
    obtain rfl := sj h
    exact lq_ret ⟨rfl, ⟨o43, (M.pk [0] rfl), T45⟩⟩
   rw [if_neg hk9] at h
   have hk9 := nott hk9
   have M := M.k 16 rfl hk9
   refine c_false (M.e 0 rfl) <| wp_skip <| q_blk <| q_then <| c_reg <| pn (j := 1) E 1 M rfl rfl fun a M => ?_
   have M := M.pk [0, 10, 11, 12] rfl
   refine pn (j := 2) E 1 M rfl rfl fun a M => x_end rfl ?_
   obtain rfl := sj h
   exact lq_next ⟨o43, (M.pk [2, 3, 4, 0] rfl), i44, T45⟩
  rw [if_neg hk8] at h
  have hk8 := nott hk8
  have M := M.k 9 rfl hk8
  refine c_false (M.e 0 rfl) <| wp_exit <| q_then_exit ?_
  obtain rfl := sj h
  exact lq_exit ⟨rfl, ⟨o43, (M.pk [] rfl), T45⟩⟩
 intro e10 a w58 hO59
 rcases x56 with x56 | x56
 ·rw [scase_l] at h
  obtain ⟨he60, hO59⟩ := hO59
  subst he60
  obtain ⟨o61, M, T62⟩ := hO59
  refine q_blk_ret <| q_then_ret ?_
  obtain rfl := sj h
  exact ⟨M.f.defers, _, (res1 Try.results166 (rv_tmp (M.t 0 rfl))), ⟨o61, rfl, T62⟩⟩
 rw [scase_r] at h
 obtain ⟨he63, hO59⟩ := hO59
 subst he63
 obtain ⟨o64, M, T65⟩ := hO59
 refine q_blk_here <| q_then <| c_seq <| c_reg <| pn (j := 1) E 1 M rfl rfl fun a M => x_end rfl <| q_then <| wp_ret ?_
 obtain rfl := sj h
 exact ⟨M.f.defers, _, (res1 Try.results166 (rv_tmp (M.t 0 rfl))), ⟨o64, rfl, T65⟩⟩
end Go.Proofs.Ythilemcdhkfhlaa
namespace Go.Proofs.Ythilemcdhkfhlaa
open Go Go.RowKit Go.Gc Go.Proofs
def slices_Contains_1 (k : Nat) (p1 : List ByteArray) (p5 : ByteArray) : Option Bool :=
  (slices_Index_1 k p1 p5).bind fun r8 => some (decide ((0 : Int) ≤ r8))
theorem slices_Contains_1_calls {k : Nat} {p1 : List ByteArray} {v2 : Value} {p5 : ByteArray} {r : Bool} (h : slices_Contains_1 k p1 p5 = some r) {w0 : World} {o0 : Own} (hown : Hown o0)
    (i4 : ((tSlice 9 tStr (by decide))).im w0 (L o0 0) p1 [v2]) :
    Calls Try.prog 165 #[v2, .string p5] w0 (fun e w => ∃ (o18 : Own), e = .returned (.bool r) ∧ Tr (Ls o0 []) w0 o0 w o18) := by
 unfold slices_Contains_1 at h
 refine startM Try.func165 rfl Try.ntmps165 (show 2 ≤ 9 by decide) fun a M => ?_
 have M : MB 9 [] [(0, v2), (1, .string p5)] a := M
 obtain ⟨A6, c7, hzc7, -⟩ := im_form i4
 subst hzc7
 have T0 : Tr (Ls o0 []) w0 o0 w0 o0 := Tr.refl _ _ _
 refine c_seq <| c_reg <| pn (j := 1) E 1 M rfl rfl fun a M => x_end rfl <| q_then <| c_seq <| c_reg <| pn (j := 2) E 2 M rfl rfl fun a M => ?_
 obtain ⟨r8, hr9, h⟩ := bind_some h
 refine oc rfl (wp0 rfl) rfl rfl M (x_call cf_166 (m2 (M.e 1 rfl) (M.e 0 rfl))) (slices_Index_1_calls hr9 (lko_own (T := [(0, 0)]) (o := o0) rfl) (sL i4 rfl)) (fun e1 w10 hp11 => ?_)
 obtain ⟨o12, he13, T14⟩ := hp11
 obtain ⟨o15, ho16⟩ := ex (mrg w0 o0 [(0, 0)] o12)
 have t17 := T14.r0 ho16
 refine ⟨_, he13, fun a M => ?_⟩
 refine pn (j := 4) E 1 M rfl rfl fun a M => ?_
 have M := M.pk [0, 1, 2, 3, 5, 6] rfl
 refine pn (j := 5) E 1 M rfl rfl fun a M => x_end rfl <| q_then <| wp_ret ?_
 have u2 := T0.kn t17
 obtain rfl := sj h
 exact ⟨M.f.defers, _, (res1 Try.results165 (rv_tmp (M.t 0 rfl))), ⟨o15, rfl, u2⟩⟩
end Go.Proofs.Ythilemcdhkfhlaa
namespace Go.Proofs.Ythilemcdhkfhlaa
open Go Go.RowKit Go.Gc Go.Proofs
def grammar_distinct_b0 (k : Nat) (p1 : List ByteArray) (y48 : Int) : Option (Int ⊕ (Unit ⊕ Unit)) :=
  if (decide (y48 < (p1.length : Int))) = true then ((at? p1 y48).bind fun x98 => (lex_IsName k x98).bind fun r108 => if (!r108) = true then (some (.inr (.inl ()))) else (if 0 ≤ (0 : Int) ∧ (0 : Int) ≤ y48 ∧ y48 ≤ (p1.length : Int) then ((slices_Contains_1 k (cutl p1 (0 : Int).toNat y48.toNat) x98).bind fun r124 => if r124 = true then (some (.inr (.inl ()))) else (some (.inl (IntKind.wrap .i64 (y48 + (1 : Int)))))) else none)) else (some (.inr (.inr ())))
def grammar_distinct (k : Nat) (p1 : List ByteArray) (p5 : Int) (p6 : Int) : Option Bool :=
  (iter (fun (s : Int) => grammar_distinct_b0 k p1 s) k (0 : Int)).bind fun x134 => scase x134 (fun x134 => some false) (fun x134 => if (decide (p5 ≤ (p1.length : Int))) = true then (some (decide ((p1.length : Int) ≤ p6))) else (some false))
theorem grammar_distinct_calls {k : Nat} {p1 : List ByteArray} {v2 : Value} {p5 : Int} {p6 : Int} {r : Bool} (h : grammar_distinct k p1 p5 p6 = some r) {w0 : World} {o0 : Own} (hown : Hown o0)
    (i4 : ((tSlice 9 tStr (by decide))).im w0 (L o0 0) p1 [v2]) :
    Calls Try.prog 129 #[v2, .int .i64 p5, .int .i64 p6, .func (.func 130) #[] #[]] w0 (fun e w => ∃ (o145 : Own), e = .returned (.bool r) ∧ Tr (Ls o0 []) w0 o0 w o145) := by
 unfold grammar_distinct at h
 refine startM Try.func129 rfl Try.ntmps129 (show 4 ≤ 40 by decide) fun a M => ?_
 have M : MB 40 [] [(0, v2), (1, .int .i64 p5), (2, .int .i64 p6), (3, .func (.func 130) #[] #[])] a := M
 obtain ⟨A7, c8, hzc8, -⟩ := im_form i4
 subst hzc8
 have T0 : Tr (Ls o0 []) w0 o0 w0 o0 := Tr.refl _ _ _
 refine c_seq <| c_reg <| pn (j := 1) E 1 M rfl rfl fun a M => x_end rfl <| q_then <| c_seq <| c_seq <| c_reg <| pn (j := 3) E 3 M rfl rfl fun a M => x_end rfl <| q_then <| wp_block ?_
 obtain ⟨x134, hx135, h⟩ := bind_some h
 refine loop_iter (S := Int) (X := (Unit ⊕ Unit)) (fun (s : Int) => grammar_distinct_b0 k p1 s) (fun (s : Int) (a : Act) (w : World) => ∃ (o89 : Own), MB 40 [] [(0, .slice A7 p1.length c8), (1, .int .i64 p5), (2, .int .i64 p6), (3, .func (.func 130) #[] #[]), (11, .slice A7 p1.length c8), (12, .int .i64 (p1.length : Int)), (13, .int .i64 s)] a ∧ ((tSlice 9 tStr (by decide))).im w (L o89 0) p1 [.slice A7 p1.length c8] ∧ Tr (Ls o0 []) w0 o0 w o89) (fun (x : (Unit ⊕ Unit)) (e : Exit) (a : Act) (w : World) => (match x with | .inl x => (e = .ret ∧ ∃ (o90 : Own), MB 40 [] [(8, .bool false)] a ∧ Tr (Ls o0 []) w0 o0 w o90) | .inr x => (e = .exit 0 ∧ ∃ (o91 : Own), MB 40 [] [(0, .slice A7 p1.length c8), (1, .int .i64 p5), (2, .int .i64 p6)] a ∧ ((tSlice 9 tStr (by decide))).im w (L o91 0) p1 [.slice A7 p1.length c8] ∧ Tr (Ls o0 []) w0 o0 w o91))) ?_ hx135 ⟨o0, (M.pk [4, 5, 6, 7, 2, 1, 0] rfl), i4, T0⟩ ?_
 ·rintro y48 a w92 r93 hI94 h
  replace h : grammar_distinct_b0 k p1 y48 = some r93 := h
  unfold grammar_distinct_b0 at h
  obtain ⟨o95, M, i96, T97⟩ := hI94
  refine c_seq <| c_reg <| pn (j := 1) E 1 M rfl rfl fun a M => x_end rfl <| q_then <| c_seq ?_
  by_cases hk14 : (decide (y48 < (p1.length : Int))) = true
  ·rw [if_pos hk14] at h
   have M := M.k 14 rfl hk14
   refine c_true (M.e 0 rfl) <| wp_skip <| q_then <| c_seq <| wp_block <| c_seq <| c_reg <| pn (j := 1) E 1 M rfl rfl fun a M => ?_
   obtain ⟨x98, hx99, h⟩ := bind_some h
   obtain ⟨hx990, hx991, hx992⟩ := at_some hx99
   obtain ⟨g100, f101, c102, ds103, hv104, hd105, he106⟩ := im_elem i96 hx991
   have hsds103 : ds103 = [.string x98] := hd105
   subst hsds103
   have he106 : ElemAt w92 o95 0 g100 f101 (y48).toNat 1 [.string x98] := he106
   refine ov rfl rfl M (x_indexAddr Try.underlying22 sz_9 ((M.e 6 rfl).trans hv104) (M.e 8 rfl) hx990 hx992) fun a M => ov rfl rfl M (x_load ld_9 (M.e 0 rfl) (he106.2 0 _ rfl)) fun a M => pn (j := 5) E 2 M rfl rfl fun a M => x_end rfl <| q_then <| c_seq <| c_reg <| pn (j := 2) E 2 M rfl rfl fun a M => ?_
   obtain ⟨r108, hr109, h⟩ := bind_some h
   refine oc rfl (wp0 rfl) rfl rfl M (x_callv cf_130 (M.e 1 rfl) (m1 (M.e 0 rfl))) (lex_IsName_calls hr109 (lko_own (T := [(0, 0)]) (o := o95) rfl)) (fun e15 w110 hp111 => ?_)
   obtain ⟨o112, he113, T114⟩ := hp111
   obtain ⟨o115, ho116⟩ := ex (mrg w92 o95 [(0, 0)] o112)
   have t117 := T114.r0 ho116
   refine ⟨_, he113, fun a M => ?_⟩
   refine pn (j := 5) E 2 M rfl rfl fun a M => ?_
   by_cases hk16 : (!r108) = true
   ·rw [if_pos hk16] at h
    have M := M.k 22 rfl hk16
    refine pn (j := 11) E 6 M rfl rfl fun a M => x_end rfl <| q_then <| c_true (M.e 0 rfl) <| c_seq <| c_reg <| pn (j := 1) E 1 M rfl rfl fun a M => x_end rfl <| q_then <| wp_ret <| q_blk_ret <| q_then_ret ?_
    obtain rfl := sj h
    have u17 := T97.kn t117
    exact lq_ret ⟨rfl, ⟨o115, (M.pk [0] rfl), u17⟩⟩
   rw [if_neg hk16] at h
   have hk16 := nott hk16
   have M := M.k 22 rfl hk16
   refine pn (j := 7) E 2 M rfl rfl fun a M => ?_
   obtain ⟨hc118, h⟩ := ifs h
   obtain ⟨A119, c120, r121, b122⟩ := b_cutH (P := Try.prog) (w := w110) (l := p1) (e := 9) (sz := 1) (T := 22) (R := fun v => (tSlice 9 tStr (by decide)).im w110 (L o115 0) (cutl p1 (0 : Int).toNat y48.toNat) [v]) Try.underlying22 sz_9 (M.e 1 rfl) (M.e 0 rfl) (im_cap (iN i96 t117)) hc118 (cutIm (iN i96 t117) hc118)
   have b122 : (tSlice 9 tStr (by decide)).im w110 (L o115 0) (cutl p1 (0 : Int).toNat y48.toNat) [.slice A119 (cutl p1 (0 : Int).toNat y48.toNat).length c120] := b122
   refine ow rfl (wanted_yes rfl rfl (M.t 2 rfl)) rfl rfl M (r121 _ _ _ _ _) fun a M => pn (j := 9) E 1 M rfl rfl fun a M => ?_
   obtain ⟨r124, hr125, h⟩ := bind_some h
   refine oc rfl (wanted_yes rfl rfl (M.t 4 rfl)) rfl rfl M (x_call cf_165 (m2 (M.e 1 rfl) (M.e 0 rfl))) (slices_Contains_1_calls hr125 (lko_own (T := [(0, 0)]) (o := o115) rfl) (sL b122 rfl)) (fun e18 w126 hp127 => ?_)
   obtain ⟨o128, he129, T130⟩ := hp127
   obtain ⟨o131, ho132⟩ := ex (mrg w110 o115 [(0, 0)] o128)
   have t133 := T130.r0 ho132
   refine ⟨_, he129, fun a M => ?_⟩
   refine pn (j := 11) E 1 M rfl rfl fun a M => x_end rfl <| q_then ?_
   by_cases hk19 : r124 = true
   ·rw [if_pos hk19] at h
    have M := M.k 28 rfl hk19
    refine c_true (M.e 0 rfl) <| c_seq <| c_reg <| pn (j := 1) E 1 M rfl rfl fun a M => x_end rfl <| q_then <| wp_ret <| q_blk_ret <| q_then_ret ?_
    obtain rfl := sj h
    have u20 := (T97.kn t117).kn t133
    exact lq_ret ⟨rfl, ⟨o131, (M.pk [0] rfl), u20⟩⟩
   rw [if_neg hk19] at h
   have hk19 := nott hk19
   have M := M.k 28 rfl hk19
   refine c_false (M.e 0 rfl) <| wp_skip <| q_blk <| q_then <| c_reg <| pn (j := 1) E 1 M rfl rfl fun a M => ?_
   have M := M.pk [0, 2, 3, 4, 5, 6, 18, 19, 20, 21, 22, 23] rfl
   refine pn (j := 2) E 1 M rfl rfl fun a M => x_end rfl ?_
   obtain rfl := sj h
   have u21 := (T97.kn t117).kn t133
   exact lq_next ⟨o131, (M.pk [7, 8, 9, 10, 11, 12, 0] rfl), (iN (iN i96 t117) t133), u21⟩
  rw [if_neg hk14] at h
  have hk14 := nott hk14
  have M := M.k 14 rfl hk14
  refine c_false (M.e 0 rfl) <| wp_exit <| q_then_exit ?_
  obtain rfl := sj h
  exact lq_exit ⟨rfl, ⟨o95, (M.pk [1, 2, 3] rfl), i96, T97⟩⟩
 intro e22 a w136 hO137
 rcases x134 with x134 | x134
 ·rw [scase_l] at h
  obtain ⟨he138, hO137⟩ := hO137
  subst he138
  obtain ⟨o139, M, T140⟩ := hO137
  refine q_blk_ret <| q_then_ret ?_
  obtain rfl := sj h
  exact ⟨M.f.defers, _, (res1 Try.results129 (rv_tmp (M.t 0 rfl))), ⟨o139, rfl, T140⟩⟩
 rw [scase_r] at h
 obtain ⟨he141, hO137⟩ := hO137
 subst he141
 obtain ⟨o142, M, i143, T144⟩ := hO137
 refine q_blk_here <| q_then <| c_seq <| c_reg <| pn (j := 5) E 5 M rfl rfl fun a M => ?_
 by_cases hk23 : (decide (p5 ≤ (p1.length : Int))) = true
 ·rw [if_pos hk23] at h
  have M := M.k 34 rfl hk23
  refine pn (j := 11) E 6 M rfl rfl fun a M => x_end rfl <| q_then <| wp_ret ?_
  obtain rfl := sj h
  exact ⟨M.f.defers, _, (res1 Try.results129 (rv_tmp (M.t 0 rfl))), ⟨o142, rfl, T144⟩⟩
 rw [if_neg hk23] at h
 have hk23 := nott hk23
 have M := M.k 34 rfl hk23
 refine pn (j := 11) E 6 M rfl rfl fun a M => x_end rfl <| q_then <| wp_ret ?_
 obtain rfl := sj h
 exact ⟨M.f.defers, _, (res1 Try.results129 (rv_tmp (M.t 0 rfl))), ⟨o142, rfl, T144⟩⟩
end Go.Proofs.Ythilemcdhkfhlaa
namespace Go.Proofs.Ythilemcdhkfhlaa
open Go Go.RowKit Go.Gc Go.Proofs
def lex_inside (k : Nat) (p1 : Int) : Option Bool :=
  if (decide ((32 : Int) ≤ p1)) = true then (if (decide (p1 ≤ (126 : Int))) = true then (some (p1 != (39 : Int))) else (some false)) else (some false)
theorem lex_inside_calls {k : Nat} {p1 : Int} {r : Bool} (h : lex_inside k p1 = some r) {w0 : World} {o0 : Own} (hown : Hown o0) :
    Calls Try.prog 173 #[.int .u8 p1] w0 (fun e w => ∃ (o2 : Own), e = .returned (.bool r) ∧ Tr (Ls o0 []) w0 o0 w o2) := by
 unfold lex_inside at h
 refine startM Try.func173 rfl Try.ntmps173 (show 1 ≤ 13 by decide) fun a M => ?_
 have M : MB 13 [] [(0, .int .u8 p1)] a := M
 have T0 : Tr (Ls o0 []) w0 o0 w0 o0 := Tr.refl _ _ _
 refine c_seq <| c_reg <| pn (j := 1) E 1 M rfl rfl fun a M => x_end rfl <| q_then <| c_seq <| c_reg <| pn (j := 3) E 3 M rfl rfl fun a M => ?_
 by_cases hk1 : (decide ((32 : Int) ≤ p1)) = true
 ·rw [if_pos hk1] at h
  have M := M.k 5 rfl hk1
  refine pn (j := 7) E 4 M rfl rfl fun a M => ?_
  by_cases hk2 : (decide (p1 ≤ (126 : Int))) = true
  ·rw [if_pos hk2] at h
   have M := M.k 9 rfl hk2
   refine pn (j := 10) E 3 M rfl rfl fun a M => ?_
   have M := M.pk [0, 1, 2, 3, 4, 5, 6, 7, 8, 9, 11] rfl
   refine pn (j := 11) E 1 M rfl rfl fun a M => x_end rfl <| q_then <| wp_ret ?_
   obtain rfl := sj h
   exact ⟨M.f.defers, _, (res1 Try.results173 (rv_tmp (M.t 0 rfl))), ⟨o0, rfl, T0⟩⟩
  rw [if_neg hk2] at h
  have hk2 := nott hk2
  have M := M.k 9 rfl hk2
  refine pn (j := 10) E 3 M rfl rfl fun a M => ?_
  have M := M.pk [0, 1, 2, 3, 4, 5, 6, 7, 8, 9, 11] rfl
  refine pn (j := 11) E 1 M rfl rfl fun a M => x_end rfl <| q_then <| wp_ret ?_
  obtain rfl := sj h
  exact ⟨M.f.defers, _, (res1 Try.results173 (rv_tmp (M.t 0 rfl))), ⟨o0, rfl, T0⟩⟩
 rw [if_neg hk1] at h
 have hk1 := nott hk1
 have M := M.k 5 rfl hk1
 refine pn (j := 10) E 7 M rfl rfl fun a M => ?_
 have M := M.pk [0, 1, 2, 3, 4, 5, 6, 7, 8, 9, 11] rfl
 refine pn (j := 11) E 1 M rfl rfl fun a M => x_end rfl <| q_then <| wp_ret ?_
 obtain rfl := sj h
 exact ⟨M.f.defers, _, (res1 Try.results173 (rv_tmp (M.t 0 rfl))), ⟨o0, rfl, T0⟩⟩
end Go.Proofs.Ythilemcdhkfhlaa
namespace Go.Proofs.Ythilemcdhkfhlaa
open Go Go.RowKit Go.Gc Go.Proofs
def lex_run_2_b0 (k : Nat) (p1 : ByteArray) (y16 : Int) : Option (Int ⊕ Int) :=
  if (decide (y16 < (p1.size : Int))) = true then ((at? p1.data.toList y16).bind fun x40 => (lex_inside k (x40.toNat : Int)).bind fun r42 => if r42 = true then (some (.inl (IntKind.wrap .i64 (y16 + (1 : Int))))) else (some (.inr y16))) else (some (.inr y16))
def lex_run_2 (k : Nat) (p1 : ByteArray) : Option Int :=
  (iter (fun (s : Int) => lex_run_2_b0 k p1 s) k (0 : Int)).bind fun x52 => some x52
theorem lex_run_2_calls {k : Nat} {p1 : ByteArray} {r : Int} (h : lex_run_2 k p1 = some r) {w0 : World} {o0 : Own} (hown : Hown o0) :
    Calls Try.prog 171 #[.string p1, .func (.func 173) #[] #[]] w0 (fun e w => ∃ (o59 : Own), e = .returned (.int .i64 r) ∧ Tr (Ls o0 []) w0 o0 w o59) := by
 unfold lex_run_2 at h
 refine startM Try.func171 rfl Try.ntmps171 (show 2 ≤ 20 by decide) fun a M => ?_
 have M : MB 20 [] [(0, .string p1), (1, .func (.func 173) #[] #[])] a := M
 have T0 : Tr (Ls o0 []) w0 o0 w0 o0 := Tr.refl _ _ _
 refine c_seq <| c_reg <| pn (j := 1) E 1 M rfl rfl fun a M => x_end rfl <| q_then <| c_seq <| c_reg <| pn (j := 1) E 1 M rfl rfl fun a M => x_end rfl <| q_then <| c_seq <| wp_block ?_
 obtain ⟨x52, hx53, h⟩ := bind_some h
 refine loop_iter (S := Int) (X := Int) (fun (s : Int) => lex_run_2_b0 k p1 s) (fun (s : Int) (a : Act) (w : World) => ∃ (o33 : Own), MB 20 [] [(0, .string p1), (1, .func (.func 173) #[] #[]), (5, .int .i64 s)] a ∧ Tr (Ls o0 []) w0 o0 w o33) (fun (x : Int) (e : Exit) (a : Act) (w : World) => (e = .exit 0 ∧ ∃ (o34 : Own), MB 20 [] [(5, .int .i64 x)] a ∧ Tr (Ls o0 []) w0 o0 w o34)) ?_ hx53 ⟨o0, (M.pk [2, 3, 0] rfl), T0⟩ ?_
 ·rintro y16 a w35 r36 hI37 h
  replace h : lex_run_2_b0 k p1 y16 = some r36 := h
  unfold lex_run_2_b0 at h
  obtain ⟨o38, M, T39⟩ := hI37
  refine c_seq <| c_seq <| c_reg <| pn (j := 5) E 5 M rfl rfl fun a M => ?_
  by_cases hk7 : (decide (y16 < (p1.size : Int))) = true
  ·rw [if_pos hk7] at h
   have M := M.k 10 rfl hk7
   refine pn (j := 8) E 3 M rfl rfl fun a M => ?_
   obtain ⟨x40, hx41, h⟩ := bind_some h
   obtain ⟨hx410, hx411, hx412⟩ := at_some hx41
   refine ow rfl (wanted_yes rfl rfl (M.t 3 rfl)) rfl rfl M (x_index Try.underlying9 (M.e 1 rfl) (M.e 0 rfl) hx410 hx411) fun a M => ?_
   obtain ⟨r42, hr43, h⟩ := bind_some h
   refine oc rfl (wanted_yes rfl rfl (M.t 4 rfl)) rfl rfl M (x_callv cf_173 (M.e 3 rfl) (m1 (M.e 0 rfl))) (lex_inside_calls hr43 (lko_own (T := [(0, 0)]) (o := o38) rfl)) (fun e8 w44 hp45 => ?_)
   obtain ⟨o46, he47, T48⟩ := hp45
   obtain ⟨o49, ho50⟩ := ex (mrg w35 o38 [(0, 0)] o46)
   have t51 := T48.r0 ho50
   refine ⟨_, he47, fun a M => ?_⟩
   refine pn (j := 11) E 1 M rfl rfl fun a M => x_end rfl <| q_then ?_
   by_cases hk9 : r42 = true
   ·rw [if_pos hk9] at h
    have M := M.k 16 rfl hk9
    refine c_true (M.e 0 rfl) <| wp_skip <| q_then <| wp_block <| c_reg <| pn (j := 2) E 2 M rfl rfl fun a M => ?_
    have M := M.pk [0, 1, 3, 4, 5, 6, 7, 13, 14] rfl
    refine pn (j := 3) E 1 M rfl rfl fun a M => x_end rfl <| q_blk ?_
    obtain rfl := sj h
    have u10 := T39.kn t51
    exact lq_next ⟨o49, (M.pk [8, 9, 0] rfl), u10⟩
   rw [if_neg hk9] at h
   have hk9 := nott hk9
   have M := M.k 16 rfl hk9
   refine c_false (M.e 0 rfl) <| wp_exit <| q_then_exit ?_
   obtain rfl := sj h
   have u11 := T39.kn t51
   exact lq_exit ⟨rfl, ⟨o49, (M.pk [13] rfl), u11⟩⟩
  rw [if_neg hk7] at h
  have hk7 := nott hk7
  have M := M.k 10 rfl hk7
  refine pn (j := 11) E 6 M rfl rfl fun a M => x_end rfl <| q_then <| c_false (M.e 0 rfl) <| wp_exit <| q_then_exit ?_
  obtain rfl := sj h
  exact lq_exit ⟨rfl, ⟨o38, (M.pk [13] rfl), T39⟩⟩
 intro e12 a w54 hO55
 obtain ⟨he56, hO55⟩ := hO55
 subst he56
 obtain ⟨o57, M, T58⟩ := hO55
 refine q_blk_here <| q_then <| c_seq <| c_reg <| pn (j := 2) E 2 M rfl rfl fun a M => x_end rfl <| q_then <| wp_ret ?_
 obtain rfl := sj h
 exact ⟨M.f.defers, _, (res1 Try.results171 (rv_tmp (M.t 0 rfl))), ⟨o57, rfl, T58⟩⟩
end Go.Proofs.Ythilemcdhkfhlaa
namespace Go.Proofs.Ythilemcdhkfhlaa
open Go Go.RowKit Go.Gc Go.Proofs
def lex_IsTerm (k : Nat) (p1 : ByteArray) : Option Bool :=
  if (decide ((1 : Int) ≤ (p1.size : Int))) = true then (if (decide ((p1.size : Int) ≤ (16 : Int))) = true then ((lex_run_2 k p1).bind fun r2 => some (r2 == (p1.size : Int))) else (some false)) else (some false)
theorem lex_IsTerm_calls {k : Nat} {p1 : ByteArray} {r : Bool} (h : lex_IsTerm k p1 = some r) {w0 : World} {o0 : Own} (hown : Hown o0) :
    Calls Try.prog 131 #[.string p1] w0 (fun e w => ∃ (o12 : Own), e = .returned (.bool r) ∧ Tr (Ls o0 []) w0 o0 w o12) := by
 unfold lex_IsTerm at h
 refine startM Try.func131 rfl Try.ntmps131 (show 1 ≤ 18 by decide) fun a M => ?_
 have M : MB 18 [] [(0, .string p1)] a := M
 have T0 : Tr (Ls o0 []) w0 o0 w0 o0 := Tr.refl _ _ _
 refine c_seq <| c_reg <| pn (j := 1) E 1 M rfl rfl fun a M => x_end rfl <| q_then <| c_seq <| c_reg <| pn (j := 4) E 4 M rfl rfl fun a M => ?_
 by_cases hk1 : (decide ((1 : Int) ≤ (p1.size : Int))) = true
 ·rw [if_pos hk1] at h
  have M := M.k 6 rfl hk1
  refine pn (j := 9) E 5 M rfl rfl fun a M => ?_
  by_cases hk2 : (decide ((p1.size : Int) ≤ (16 : Int))) = true
  ·rw [if_pos hk2] at h
   have M := M.k 11 rfl hk2
   refine pn (j := 10) E 1 M rfl rfl fun a M => ?_
   obtain ⟨r2, hr3, h⟩ := bind_some h
   refine oc rfl (wanted_yes rfl rfl (M.t 1 rfl)) rfl rfl M (x_call cf_171 (m2 (M.e 0 rfl) e_func)) (lex_run_2_calls hr3 (lko_own (T := [(0, 0)]) (o := o0) rfl)) (fun e3 w4 hp5 => ?_)
   obtain ⟨o6, he7, T8⟩ := hp5
   obtain ⟨o9, ho10⟩ := ex (mrg w0 o0 [(0, 0)] o6)
   have t11 := T8.r0 ho10
   refine ⟨_, he7, fun a M => ?_⟩
   refine pn (j := 15) E 4 M rfl rfl fun a M => ?_
   have M := M.pk [0, 1, 2, 3, 4, 5, 6, 7, 8, 9, 10, 11, 12, 13, 14, 16] rfl
   refine pn (j := 16) E 1 M rfl rfl fun a M => x_end rfl <| q_then <| wp_ret ?_
   have u4 := T0.kn t11
   obtain rfl := sj h
   exact ⟨M.f.defers, _, (res1 Try.results131 (rv_tmp (M.t 0 rfl))), ⟨o9, rfl, u4⟩⟩
  rw [if_neg hk2] at h
  have hk2 := nott hk2
  have M := M.k 11 rfl hk2
  refine pn (j := 15) E 6 M rfl rfl fun a M => ?_
  have M := M.pk [0, 1, 2, 3, 4, 5, 6, 7, 8, 9, 10, 11, 12, 13, 14, 16] rfl
  refine pn (j := 16) E 1 M rfl rfl fun a M => x_end rfl <| q_then <| wp_ret ?_
  obtain rfl := sj h
  exact ⟨M.f.defers, _, (res1 Try.results131 (rv_tmp (M.t 0 rfl))), ⟨o0, rfl, T0⟩⟩
 rw [if_neg hk1] at h
 have hk1 := nott hk1
 have M := M.k 6 rfl hk1
 refine pn (j := 15) E 11 M rfl rfl fun a M => ?_
 have M := M.pk [0, 1, 2, 3, 4, 5, 6, 7, 8, 9, 10, 11, 12, 13, 14, 16] rfl
 refine pn (j := 16) E 1 M rfl rfl fun a M => x_end rfl <| q_then <| wp_ret ?_
 obtain rfl := sj h
 exact ⟨M.f.defers, _, (res1 Try.results131 (rv_tmp (M.t 0 rfl))), ⟨o0, rfl, T0⟩⟩
end Go.Proofs.Ythilemcdhkfhlaa
namespace Go.Proofs.Ythilemcdhkfhlaa
open Go Go.RowKit Go.Gc Go.Proofs
def grammar_distinct_1_b0 (k : Nat) (p1 : List ByteArray) (y48 : Int) : Option (Int ⊕ (Unit ⊕ Unit)) :=
  if (decide (y48 < (p1.length : Int))) = true then ((at? p1 y48).bind fun x98 => (lex_IsTerm k x98).bind fun r108 => if (!r108) = true then (some (.inr (.inl ()))) else (if 0 ≤ (0 : Int) ∧ (0 : Int) ≤ y48 ∧ y48 ≤ (p1.length : Int) then ((slices_Contains_1 k (cutl p1 (0 : Int).toNat y48.toNat) x98).bind fun r124 => if r124 = true then (some (.inr (.inl ()))) else (some (.inl (IntKind.wrap .i64 (y48 + (1 : Int)))))) else none)) else (some (.inr (.inr ())))
def grammar_distinct_1 (k : Nat) (p1 : List ByteArray) (p5 : Int) (p6 : Int) : Option Bool :=
  (iter (fun (s : Int) => grammar_distinct_1_b0 k p1 s) k (0 : Int)).bind fun x134 => scase x134 (fun x134 => some false) (fun x134 => if (decide (p5 ≤ (p1.length : Int))) = true then (some (decide ((p1.length : Int) ≤ p6))) else (some false))
theorem grammar_distinct_1_calls {k : Nat} {p1 : List ByteArray} {v2 : Value} {p5 : Int} {p6 : Int} {r : Bool} (h : grammar_distinct_1 k p1 p5 p6 = some r) {w0 : World} {o0 : Own} (hown : Hown o0)
    (i4 : ((tSlice 9 tStr (by decide))).im w0 (L o0 0) p1 [v2]) :
    Calls Try.prog 129 #[v2, .int .i64 p5, .int .i64 p6, .func (.func 131) #[] #[]] w0 (fun e w => ∃ (o145 : Own), e = .returned (.bool r) ∧ Tr (Ls o0 []) w0 o0 w o145) := by
 unfold grammar_distinct_1 at h
 refine startM Try.func129 rfl Try.ntmps129 (show 4 ≤ 40 by decide) fun a M => ?_
 have M : MB 40 [] [(0, v2), (1, .int .i64 p5), (2, .int .i64 p6), (3, .func (.func 131) #[] #[])] a := M
 obtain ⟨A7, c8, hzc8, -⟩ := im_form i4
 subst hzc8
 have T0 : Tr (Ls o0 []) w0 o0 w0 o0 := Tr.refl _ _ _
 refine c_seq <| c_reg <| pn (j := 1) E 1 M rfl rfl fun a M => x_end rfl <| q_then <| c_seq <| c_seq <| c_reg <| pn (j := 3) E 3 M rfl rfl fun a M => x_end rfl <| q_then <| wp_block ?_
 obtain ⟨x134, hx135, h⟩ := bind_some h
 refine loop_iter (S := Int) (X := (Unit ⊕ Unit)) (fun (s : Int) => grammar_distinct_1_b0 k p1 s) (fun (s : Int) (a : Act) (w : World) => ∃ (o89 : Own), MB 40 [] [(0, .slice A7 p1.length c8), (1, .int .i64 p5), (2, .int .i64 p6), (3, .func (.func 131) #[] #[]), (11, .slice A7 p1.length c8), (12, .int .i64 (p1.length : Int)), (13, .int .i64 s)] a ∧ ((tSlice 9 tStr (by decide))).im w (L o89 0) p1 [.slice A7 p1.length c8] ∧ Tr (Ls o0 []) w0 o0 w o89) (fun (x : (Unit ⊕ Unit)) (e : Exit) (a : Act) (w : World) => (match x with | .inl x => (e = .ret ∧ ∃ (o90 : Own), MB 40 [] [(8, .bool false)] a ∧ Tr (Ls o0 []) w0 o0 w o90) | .inr x => (e = .exit 0 ∧ ∃ (o91 : Own), MB 40 [] [(0, .slice A7 p1.length c8), (1, .int .i64 p5), (2, .int .i64 p6)] a ∧ ((tSlice 9 tStr (by decide))).im w (L o91 0) p1 [.slice A7 p1.length c8] ∧ Tr (Ls o0 []) w0 o0 w o91))) ?_ hx135 ⟨o0, (M.pk [4, 5, 6, 7, 2, 1, 0] rfl), i4, T0⟩ ?_
 ·rintro y48 a w92 r93 hI94 h
  replace h : grammar_distinct_1_b0 k p1 y48 = some r93 := h
  unfold grammar_distinct_1_b0 at h
  obtain ⟨o95, M, i96, T97⟩ := hI94
  refine c_seq <| c_reg <| pn (j := 1) E 1 M rfl rfl fun a M => x_end rfl <| q_then <| c_seq ?_
  by_cases hk14 : (decide (y48 < (p1.length : Int))) = true
  ·rw [if_pos hk14] at h
   have M := M.k 14 rfl hk14
   refine c_true (M.e 0 rfl) <| wp_skip <| q_then <| c_seq <| wp_block <| c_seq <| c_reg <| pn (j := 1) E 1 M rfl rfl fun a M => ?_
   obtain ⟨x98, hx99, h⟩ := bind_some h
   obtain ⟨hx990, hx991, hx992⟩ := at_some hx99
   obtain ⟨g100, f101, c102, ds103, hv104, hd105, he106⟩ := im_elem i96 hx991
   have hsds103 : ds103 = [.string x98] := hd105
   subst hsds103
   have he106 : ElemAt w92 o95 0 g100 f101 (y48).toNat 1 [.string x98] := he106
   refine ov rfl rfl M (x_indexAddr Try.underlying22 sz_9 ((M.e 6 rfl).trans hv104) (M.e 8 rfl) hx990 hx992) fun a M => ov rfl rfl M (x_load ld_9 (M.e 0 rfl) (he106.2 0 _ rfl)) fun a M => pn (j := 5) E 2 M rfl rfl fun a M => x_end rfl <| q_then <| c_seq <| c_reg <| pn (j := 2) E 2 M rfl rfl fun a M => ?_
   obtain ⟨r108, hr109, h⟩ := bind_some h
   refine oc rfl (wp0 rfl) rfl rfl M (x_callv cf_131 (M.e 1 rfl) (m1 (M.e 0 rfl))) (lex_IsTerm_calls hr109 (lko_own (T := [(0, 0)]) (o := o95) rfl)) (fun e15 w110 hp111 => ?_)
   obtain ⟨o112, he113, T114⟩ := hp111
   obtain ⟨o115, ho116⟩ := ex (mrg w92 o95 [(0, 0)] o112)
   have t117 := T114.r0 ho116
   refine ⟨_, he113, fun a M => ?_⟩
   refine pn (j := 5) E 2 M rfl rfl fun a M => ?_
   by_cases hk16 : (!r108) = true
   ·rw [if_pos hk16] at h
    have M := M.k 22 rfl hk16
    refine pn (j := 11) E 6 M rfl rfl fun a M => x_end rfl <| q_then <| c_true (M.e 0 rfl) <| c_seq <| c_reg <| pn (j := 1) E 1 M rfl rfl fun a M => x_end rfl <| q_then <| wp_ret <| q_blk_ret <| q_then_ret ?_
    obtain rfl := sj h
    have u17 := T97.kn t117
    exact lq_ret ⟨rfl, ⟨o115, (M.pk [0] rfl), u17⟩⟩
   rw [if_neg hk16] at h
   have hk16 := nott hk16
   have M := M.k 22 rfl hk16
   refine pn (j := 7) E 2 M rfl rfl fun a M => ?_
   obtain ⟨hc118, h⟩ := ifs h
   obtain ⟨A119, c120, r121, b122⟩ := b_cutH (P := Try.prog) (w := w110) (l := p1) (e := 9) (sz := 1) (T := 22) (R := fun v => (tSlice 9 tStr (by decide)).im w110 (L o115 0) (cutl p1 (0 : Int).toNat y48.toNat) [v]) Try.underlying22 sz_9 (M.e 1 rfl) (M.e 0 rfl) (im_cap (iN i96 t117)) hc118 (cutIm (iN i96 t117) hc118)
   have b122 : (tSlice 9 tStr (by decide)).im w110 (L o115 0) (cutl p1 (0 : Int).toNat y48.toNat) [.slice A119 (cutl p1 (0 : Int).toNat y48.toNat).length c120] := b122
   refine ow rfl (wanted_yes rfl rfl (M.t 2 rfl)) rfl rfl M (r121 _ _ _ _ _) fun a M => pn (j := 9) E 1 M rfl rfl fun a M => ?_
   obtain ⟨r124, hr125, h⟩ := bind_some h
   refine oc rfl (wanted_yes rfl rfl (M.t 4 rfl)) rfl rfl M (x_call cf_165 (m2 (M.e 1 rfl) (M.e 0 rfl))) (slices_Contains_1_calls hr125 (lko_own (T := [(0, 0)]) (o := o115) rfl) (sL b122 rfl)) (fun e18 w126 hp127 => ?_)
   obtain ⟨o128, he129, T130⟩ := hp127
   obtain ⟨o131, ho132⟩ := ex (mrg w110 o115 [(0, 0)] o128)
   have t133 := T130.r0 ho132
   refine ⟨_, he129, fun a M => ?_⟩
   refine pn (j := 11) E 1 M rfl rfl fun a M => x_end rfl <| q_then ?_
   by_cases hk19 : r124 = true
   ·rw [if_pos hk19] at h
    have M := M.k 28 rfl hk19
    refine c_true (M.e 0 rfl) <| c_seq <| c_reg <| pn (j := 1) E 1 M rfl rfl fun a M => x_end rfl <| q_then <| wp_ret <| q_blk_ret <| q_then_ret ?_
    obtain rfl := sj h
    have u20 := (T97.kn t117).kn t133
    exact lq_ret ⟨rfl, ⟨o131, (M.pk [0] rfl), u20⟩⟩
   rw [if_neg hk19] at h
   have hk19 := nott hk19
   have M := M.k 28 rfl hk19
   refine c_false (M.e 0 rfl) <| wp_skip <| q_blk <| q_then <| c_reg <| pn (j := 1) E 1 M rfl rfl fun a M => ?_
   have M := M.pk [0, 2, 3, 4, 5, 6, 18, 19, 20, 21, 22, 23] rfl
   refine pn (j := 2) E 1 M rfl rfl fun a M => x_end rfl ?_
   obtain rfl := sj h
   have u21 := (T97.kn t117).kn t133
   exact lq_next ⟨o131, (M.pk [7, 8, 9, 10, 11, 12, 0] rfl), (iN (iN i96 t117) t133), u21⟩
  rw [if_neg hk14] at h
  have hk14 := nott hk14
  have M := M.k 14 rfl hk14
  refine c_false (M.e 0 rfl) <| wp_exit <| q_then_exit ?_
  obtain rfl := sj h
  exact lq_exit ⟨rfl, ⟨o95, (M.pk [1, 2, 3] rfl), i96, T97⟩⟩
 intro e22 a w136 hO137
 rcases x134 with x134 | x134
 ·rw [scase_l] at h
  obtain ⟨he138, hO137⟩ := hO137
  subst he138
  obtain ⟨o139, M, T140⟩ := hO137
  refine q_blk_ret <| q_then_ret ?_
  obtain rfl := sj h
  exact ⟨M.f.defers, _, (res1 Try.results129 (rv_tmp (M.t 0 rfl))), ⟨o139, rfl, T140⟩⟩
 rw [scase_r] at h
 obtain ⟨he141, hO137⟩ := hO137
 subst he141
 obtain ⟨o142, M, i143, T144⟩ := hO137
 refine q_blk_here <| q_then <| c_seq <| c_reg <| pn (j := 5) E 5 M rfl rfl fun a M => ?_
 by_cases hk23 : (decide (p5 ≤ (p1.length : Int))) = true
 ·rw [if_pos hk23] at h
  have M := M.k 34 rfl hk23
  refine pn (j := 11) E 6 M rfl rfl fun a M => x_end rfl <| q_then <| wp_ret ?_
  obtain rfl := sj h
  exact ⟨M.f.defers, _, (res1 Try.results129 (rv_tmp (M.t 0 rfl))), ⟨o142, rfl, T144⟩⟩
 rw [if_neg hk23] at h
 have hk23 := nott hk23
 have M := M.k 34 rfl hk23
 refine pn (j := 11) E 6 M rfl rfl fun a M => x_end rfl <| q_then <| wp_ret ?_
 obtain rfl := sj h
 exact ⟨M.f.defers, _, (res1 Try.results129 (rv_tmp (M.t 0 rfl))), ⟨o142, rfl, T144⟩⟩
end Go.Proofs.Ythilemcdhkfhlaa
namespace Go.Proofs.Ythilemcdhkfhlaa
open Go Go.RowKit Go.Gc Go.Proofs
def grammar_rising_b0 (k : Nat) (p1 : List Int) (y22 : Int) (y23 : Int) : Option ((Int × Int) ⊕ (Unit ⊕ Int)) :=
  if (decide (y23 < (p1.length : Int))) = true then ((at? p1 y23).bind fun x49 => if (decide (y22 < x49)) = true then (some (.inr (.inl ()))) else (if (x49 == y22) = true then (some (.inl (IntKind.wrap .i64 (y22 + (1 : Int)), IntKind.wrap .i64 (y23 + (1 : Int))))) else (some (.inl (y22, IntKind.wrap .i64 (y23 + (1 : Int))))))) else (some (.inr (.inr y22)))
def grammar_rising (k : Nat) (p1 : List Int) (p5 : Int) (p6 : Int) : Option Bool :=
  (iter (fun (s : (Int × Int)) => grammar_rising_b0 k p1 s.1 s.2) k (p5, (0 : Int))).bind fun x59 => scase x59 (fun x59 => some false) (fun x59 => some (x59 == p6))
theorem grammar_rising_calls {k : Nat} {p1 : List Int} {v2 : Value} {p5 : Int} {p6 : Int} {r : Bool} (h : grammar_rising k p1 p5 p6 = some r) {w0 : World} {o0 : Own} (hown : Hown o0)
    (i4 : ((tSlice 3 (tInt .i64) (by decide))).im w0 (L o0 0) p1 [v2]) :
    Calls Try.prog 133 #[v2, .int .i64 p5, .int .i64 p6] w0 (fun e w => ∃ (o69 : Own), e = .returned (.bool r) ∧ Tr (Ls o0 []) w0 o0 w o69) := by
 unfold grammar_rising at h
 refine startM Try.func133 rfl Try.ntmps133 (show 3 ≤ 27 by decide) fun a M => ?_
 have M : MB 27 [] [(0, v2), (1, .int .i64 p5), (2, .int .i64 p6)] a := M
 obtain ⟨A7, c8, hzc8, -⟩ := im_form i4
 subst hzc8
 have T0 : Tr (Ls o0 []) w0 o0 w0 o0 := Tr.refl _ _ _
 refine c_seq <| c_reg <| pn (j := 1) E 1 M rfl rfl fun a M => x_end rfl <| q_then <| c_seq <| c_seq <| c_reg <| pn (j := 3) E 3 M rfl rfl fun a M => x_end rfl <| q_then <| wp_block ?_
 obtain ⟨x59, hx60, h⟩ := bind_some h
 refine loop_iter (S := (Int × Int)) (X := (Unit ⊕ Int)) (fun (s : (Int × Int)) => grammar_rising_b0 k p1 s.1 s.2) (fun (s : (Int × Int)) (a : Act) (w : World) => ∃ (o40 : Own), MB 27 [] [(1, .int .i64 s.1), (2, .int .i64 p6), (9, .slice A7 p1.length c8), (10, .int .i64 (p1.length : Int)), (11, .int .i64 s.2)] a ∧ ((tSlice 3 (tInt .i64) (by decide))).im w (L o40 0) p1 [.slice A7 p1.length c8] ∧ Tr (Ls o0 []) w0 o0 w o40) (fun (x : (Unit ⊕ Int)) (e : Exit) (a : Act) (w : World) => (match x with | .inl x => (e = .ret ∧ ∃ (o41 : Own), MB 27 [] [(6, .bool false)] a ∧ Tr (Ls o0 []) w0 o0 w o41) | .inr x => (e = .exit 0 ∧ ∃ (o42 : Own), MB 27 [] [(1, .int .i64 x), (2, .int .i64 p6)] a ∧ Tr (Ls o0 []) w0 o0 w o42))) ?_ hx60 ⟨o0, (M.pk [5, 6, 2, 1, 0] rfl), i4, T0⟩ ?_
 ·rintro ⟨y22, y23⟩ a w43 r44 hI45 h
  replace h : grammar_rising_b0 k p1 y22 y23 = some r44 := h
  unfold grammar_rising_b0 at h
  obtain ⟨o46, M, i47, T48⟩ := hI45
  refine c_seq <| c_reg <| pn (j := 1) E 1 M rfl rfl fun a M => x_end rfl <| q_then <| c_seq ?_
  by_cases hk10 : (decide (y23 < (p1.length : Int))) = true
  ·rw [if_pos hk10] at h
   have M := M.k 12 rfl hk10
   refine c_true (M.e 0 rfl) <| wp_skip <| q_then <| c_seq <| wp_block <| c_seq <| c_reg ?_
   obtain ⟨x49, hx50, h⟩ := bind_some h
   obtain ⟨hx500, hx501, hx502⟩ := at_some hx50
   obtain ⟨g51, f52, c53, ds54, hv55, hd56, he57⟩ := im_elem i47 hx501
   have hsds54 : ds54 = [.int .i64 x49] := hd56
   subst hsds54
   have he57 : ElemAt w43 o46 0 g51 f52 (y23).toNat 1 [.int .i64 x49] := he57
   refine ov rfl rfl M (x_indexAddr Try.underlying26 sz_3 ((M.e 3 rfl).trans hv55) (M.e 5 rfl) hx500 hx502) fun a M => ov rfl rfl M (x_load ld_3 (M.e 0 rfl) (he57.2 0 _ rfl)) fun a M => pn (j := 3) E 1 M rfl rfl fun a M => x_end rfl <| q_then <| c_seq <| c_seq <| c_reg <| pn (j := 3) E 3 M rfl rfl fun a M => x_end rfl <| q_then ?_
   by_cases hk11 : (decide (y22 < x49)) = true
   ·rw [if_pos hk11] at h
    have M := M.k 17 rfl hk11
    refine c_true (M.e 0 rfl) <| c_seq <| c_reg <| pn (j := 1) E 1 M rfl rfl fun a M => x_end rfl <| q_then <| wp_ret <| q_then_ret <| q_blk_ret <| q_then_ret ?_
    obtain rfl := sj h
    exact lq_ret ⟨rfl, ⟨o46, (M.pk [0] rfl), T48⟩⟩
   rw [if_neg hk11] at h
   have hk11 := nott hk11
   have M := M.k 17 rfl hk11
   refine c_false (M.e 0 rfl) <| wp_skip <| q_then <| c_seq <| c_reg <| pn (j := 3) E 3 M rfl rfl fun a M => x_end rfl <| q_then ?_
   by_cases hk12 : (x49 == y22) = true
   ·rw [if_pos hk12] at h
    have M := M.k 20 rfl hk12
    refine c_true (M.e 0 rfl) <| c_reg <| pn (j := 2) E 2 M rfl rfl fun a M => ?_
    have M := M.pk [0, 1, 13, 14, 15, 16] rfl
    refine pn (j := 3) E 1 M rfl rfl fun a M => x_end rfl <| q_blk <| q_then <| c_reg <| pn (j := 1) E 1 M rfl rfl fun a M => ?_
    have M := M.pk [0, 1, 4, 5, 6] rfl
    refine pn (j := 2) E 1 M rfl rfl fun a M => x_end rfl ?_
    obtain rfl := sj h
    exact lq_next ⟨o46, (M.pk [2, 3, 4, 5, 0] rfl), i47, T48⟩
   rw [if_neg hk12] at h
   have hk12 := nott hk12
   have M := M.k 20 rfl hk12
   refine c_false (M.e 0 rfl) <| wp_skip <| q_blk <| q_then <| c_reg <| pn (j := 1) E 1 M rfl rfl fun a M => ?_
   have M := M.pk [0, 11, 12, 13, 14] rfl
   refine pn (j := 2) E 1 M rfl rfl fun a M => x_end rfl ?_
   obtain rfl := sj h
   exact lq_next ⟨o46, (M.pk [2, 3, 4, 5, 0] rfl), i47, T48⟩
  rw [if_neg hk10] at h
  have hk10 := nott hk10
  have M := M.k 12 rfl hk10
  refine c_false (M.e 0 rfl) <| wp_exit <| q_then_exit ?_
  obtain rfl := sj h
  exact lq_exit ⟨rfl, ⟨o46, (M.pk [1, 2] rfl), T48⟩⟩
 intro e13 a w61 hO62
 rcases x59 with x59 | x59
 ·rw [scase_l] at h
  obtain ⟨he63, hO62⟩ := hO62
  subst he63
  obtain ⟨o64, M, T65⟩ := hO62
  refine q_blk_ret <| q_then_ret ?_
  obtain rfl := sj h
  exact ⟨M.f.defers, _, (res1 Try.results133 (rv_tmp (M.t 0 rfl))), ⟨o64, rfl, T65⟩⟩
 rw [scase_r] at h
 obtain ⟨he66, hO62⟩ := hO62
 subst he66
 obtain ⟨o67, M, T68⟩ := hO62
 refine q_blk_here <| q_then <| c_seq <| c_reg <| pn (j := 4) E 4 M rfl rfl fun a M => x_end rfl <| q_then <| wp_ret ?_
 obtain rfl := sj h
 exact ⟨M.f.defers, _, (res1 Try.results133 (rv_tmp (M.t 0 rfl))), ⟨o67, rfl, T68⟩⟩
end Go.Proofs.Ythilemcdhkfhlaa
namespace Go.Proofs.Ythilemcdhkfhlaa
open Go Go.RowKit Go.Gc Go.Proofs
def slices_Equal_b0 (k : Nat) (p1 : List Int) (p5 : List Int) (y41 : Int) : Option (Int ⊕ (Unit ⊕ Unit)) :=
  if (decide (y41 < (p1.length : Int))) = true then ((at? p1 y41).bind fun x82 => (at? p5 y41).bind fun x92 => if (x82 != x92) = true then (some (.inr (.inl ()))) else (some (.inl (IntKind.wrap .i64 (y41 + (1 : Int)))))) else (some (.inr (.inr ())))
def slices_Equal (k : Nat) (p1 : List Int) (p5 : List Int) : Option Bool :=
  if ((p1.length : Int) != (p5.length : Int)) = true then (some false) else ((iter (fun (s : Int) => slices_Equal_b0 k p1 p5 s) k (0 : Int)).bind fun x105 => scase x105 (fun x105 => some false) (fun x105 => some true))
theorem slices_Equal_calls {k : Nat} {p1 : List Int} {v2 : Value} {p5 : List Int} {v6 : Value} {r : Bool} (h : slices_Equal k p1 p5 = some r) {w0 : World} {o0 : Own} (hown : Hown o0)
    (i4 : ((tSlice 3 (tInt .i64) (by decide))).im w0 (L o0 0) p1 [v2])
    (i8 : ((tSlice 3 (tInt .i64) (by decide))).im w0 (L o0 0) p5 [v6]) :
    Calls Try.prog 191 #[v2, v6] w0 (fun e w => ∃ (o115 : Own), e = .returned (.bool r) ∧ Tr (Ls o0 []) w0 o0 w o115) := by
 unfold slices_Equal at h
 refine startM Try.func191 rfl Try.ntmps191 (show 2 ≤ 26 by decide) fun a M => ?_
 have M : MB 26 [] [(0, v2), (1, v6)] a := M
 obtain ⟨A9, c10, hzc10, -⟩ := im_form i4
 subst hzc10
 obtain ⟨A11, c12, hzc12, -⟩ := im_form i8
 subst hzc12
 have T0 : Tr (Ls o0 []) w0 o0 w0 o0 := Tr.refl _ _ _
 refine c_seq <| c_reg <| pn (j := 1) E 1 M rfl rfl fun a M => x_end rfl <| q_then <| c_seq <| c_seq <| c_reg <| pn (j := 5) E 5 M rfl rfl fun a M => x_end rfl <| q_then ?_
 by_cases hk2 : ((p1.length : Int) != (p5.length : Int)) = true
 ·rw [if_pos hk2] at h
  have M := M.k 10 rfl hk2
  refine c_true (M.e 0 rfl) <| c_seq <| c_reg ?_
  have M := M.pk [] rfl
  refine pn (j := 1) E 1 M rfl rfl fun a M => x_end rfl <| q_then <| wp_ret <| q_then_ret ?_
  obtain rfl := sj h
  exact ⟨M.f.defers, _, (res1 Try.results191 (rv_tmp (M.t 0 rfl))), ⟨o0, rfl, T0⟩⟩
 rw [if_neg hk2] at h
 have hk2 := nott hk2
 have M := M.k 10 rfl hk2
 refine c_false (M.e 0 rfl) <| wp_skip <| q_then <| c_seq <| c_seq <| c_reg <| pn (j := 3) E 3 M rfl rfl fun a M => x_end rfl <| q_then <| wp_block ?_
 obtain ⟨x105, hx106, h⟩ := bind_some h
 refine loop_iter (S := Int) (X := (Unit ⊕ Unit)) (fun (s : Int) => slices_Equal_b0 k p1 p5 s) (fun (s : Int) (a : Act) (w : World) => ∃ (o71 : Own), MB 26 [] [(0, .slice A9 p1.length c10), (1, .slice A11 p5.length c12), (12, .int .i64 (p1.length : Int)), (13, .int .i64 s)] a ∧ ((tSlice 3 (tInt .i64) (by decide))).im w (L o71 0) p1 [.slice A9 p1.length c10] ∧ ((tSlice 3 (tInt .i64) (by decide))).im w (L o71 0) p5 [.slice A11 p5.length c12] ∧ Tr (Ls o0 []) w0 o0 w o71) (fun (x : (Unit ⊕ Unit)) (e : Exit) (a : Act) (w : World) => (match x with | .inl x => (e = .ret ∧ ∃ (o72 : Own), MB 26 [] [(4, .bool false)] a ∧ Tr (Ls o0 []) w0 o0 w o72) | .inr x => (e = .exit 0 ∧ ∃ (o73 : Own), MB 26 [] [] a ∧ Tr (Ls o0 []) w0 o0 w o73))) ?_ hx106 ⟨o0, (M.pk [9, 10, 1, 0] rfl), i4, i8, T0⟩ ?_
 ·rintro y41 a w74 r75 hI76 h
  replace h : slices_Equal_b0 k p1 p5 y41 = some r75 := h
  unfold slices_Equal_b0 at h
  obtain ⟨o77, M, i78, i79, T80⟩ := hI76
  refine c_seq <| c_reg <| pn (j := 1) E 1 M rfl rfl fun a M => x_end rfl <| q_then <| c_seq ?_
  by_cases hk10 : (decide (y41 < (p1.length : Int))) = true
  ·rw [if_pos hk10] at h
   have M := M.k 14 rfl hk10
   refine c_true (M.e 0 rfl) <| wp_skip <| q_then <| c_seq <| wp_block <| c_seq <| c_reg <| pn (j := 2) E 2 M rfl rfl fun a M => x_end rfl <| q_then <| c_seq ?_
   obtain ⟨x82, hx83, h⟩ := bind_some h
   obtain ⟨hx830, hx831, hx832⟩ := at_some hx83
   obtain ⟨g84, f85, c86, ds87, hv88, hd89, he90⟩ := im_elem i78 hx831
   have hsds87 : ds87 = [.int .i64 x82] := hd89
   subst hsds87
   have he90 : ElemAt w74 o77 0 g84 f85 (y41).toNat 1 [.int .i64 x82] := he90
   obtain ⟨x92, hx93, h⟩ := bind_some h
   obtain ⟨hx930, hx931, hx932⟩ := at_some hx93
   obtain ⟨g94, f95, c96, ds97, hv98, hd99, he100⟩ := im_elem i79 hx931
   have hsds97 : ds97 = [.int .i64 x92] := hd99
   subst hsds97
   have he100 : ElemAt w74 o77 0 g94 f95 (y41).toNat 1 [.int .i64 x92] := he100
   refine draw_p E mixed [0, 0, 3, 7, 0, 0, 48, 112, 255] (by kernel_rfl) rfl M [(2, .pointer (some ⟨g84, f85 + (y41).toNat * 1, none⟩)), (3, .int .i64 x82), (6, .pointer (some ⟨g94, f95 + (y41).toNat * 1, none⟩)), (7, .int .i64 x92)] rfl rfl rfl o77 ⟨fun a w o M G r => qv rfl rfl M rfl (x_indexAddr Try.underlying26 sz_3 ((G.e 0 rfl rfl).trans hv88) (G.e 1 rfl rfl) hx830 hx832),
   fun a w o M G r => qv rfl rfl M rfl (x_load ld_3 (G.e 2 rfl rfl) ((he90.kn r).2 0 _ rfl)),
   fun a w o M G r => qv rfl rfl M rfl (x_indexAddr Try.underlying26 sz_3 ((G.e 4 rfl rfl).trans hv98) (G.e 5 rfl rfl) hx930 hx932),
   fun a w o M G r => qv rfl rfl M rfl (x_load ld_3 (G.e 6 rfl rfl) ((he100.kn r).2 0 _ rfl)),
   trivial⟩ ?_
   intro a w102 o103 M t104
   refine q_then ?_
   by_cases hk11 : (x82 != x92) = true
   ·rw [if_pos hk11] at h
    have M := M.k 24 rfl hk11
    refine c_true (M.e 8 rfl) <| c_seq <| c_reg <| pn (j := 1) E 1 M rfl rfl fun a M => x_end rfl <| q_then <| wp_ret <| q_blk_ret <| q_then_ret ?_
    obtain rfl := sj h
    have u12 := T80.kn t104
    exact lq_ret ⟨rfl, ⟨o103, (M.pk [0] rfl), u12⟩⟩
   rw [if_neg hk11] at h
   have hk11 := nott hk11
   have M := M.k 24 rfl hk11
   refine c_false (M.e 8 rfl) <| wp_skip <| q_blk <| q_then <| c_reg <| pn (j := 1) E 1 M rfl rfl fun a M => ?_
   have M := M.pk [0, 13, 14, 15] rfl
   refine pn (j := 2) E 1 M rfl rfl fun a M => x_end rfl ?_
   obtain rfl := sj h
   have u13 := T80.kn t104
   exact lq_next ⟨o103, (M.pk [2, 3, 4, 0] rfl), (iN i78 t104), (iN i79 t104), u13⟩
  rw [if_neg hk10] at h
  have hk10 := nott hk10
  have M := M.k 14 rfl hk10
  refine c_false (M.e 0 rfl) <| wp_exit <| q_then_exit ?_
  obtain rfl := sj h
  exact lq_exit ⟨rfl, ⟨o77, (M.pk [] rfl), T80⟩⟩
 intro e14 a w107 hO108
 rcases x105 with x105 | x105
 ·rw [scase_l] at h
  obtain ⟨he109, hO108⟩ := hO108
  subst he109
  obtain ⟨o110, M, T111⟩ := hO108
  refine q_blk_ret <| q_then_ret ?_
  obtain rfl := sj h
  exact ⟨M.f.defers, _, (res1 Try.results191 (rv_tmp (M.t 0 rfl))), ⟨o110, rfl, T111⟩⟩
 rw [scase_r] at h
 obtain ⟨he112, hO108⟩ := hO108
 subst he112
 obtain ⟨o113, M, T114⟩ := hO108
 refine q_blk_here <| q_then <| c_seq <| c_reg <| pn (j := 1) E 1 M rfl rfl fun a M => x_end rfl <| q_then <| wp_ret ?_
 obtain rfl := sj h
 exact ⟨M.f.defers, _, (res1 Try.results191 (rv_tmp (M.t 0 rfl))), ⟨o113, rfl, T114⟩⟩
end Go.Proofs.Ythilemcdhkfhlaa
namespace Go.Proofs.Ythilemcdhkfhlaa
open Go Go.RowKit Go.Gc Go.Proofs
def grammar_alike (k : Nat) (p1 : Rule) (p5 : Rule) : Option Bool :=
  if (p1.left == p5.left) = true then ((slices_Equal k p1.right p5.right).bind fun r25 => some r25) else (some false)
theorem grammar_alike_calls {k : Nat} {p1 : Rule} {v2 : Value} {p5 : Rule} {v6 : Value} {r : Bool} (h : grammar_alike k p1 p5 = some r) {w0 : World} {o0 : Own} (hown : Hown o0)
    (i4 : ((tSlice 3 (tInt .i64) (by decide))).im w0 (L o0 0) p1.right [v2])
    (i8 : ((tSlice 3 (tInt .i64) (by decide))).im w0 (L o0 0) p5.right [v6]) :
    Calls Try.prog 169 #[.agg #[.int .i64 p1.left, v2], .agg #[.int .i64 p5.left, v6]] w0 (fun e w => ∃ (o35 : Own), e = .returned (.bool r) ∧ Tr (Ls o0 []) w0 o0 w o35) := by
 unfold grammar_alike at h
 refine startM Try.func169 rfl Try.ntmps169 (show 2 ≤ 17 by decide) fun a M => ?_
 have M : MB 17 [] [(0, .agg #[.int .i64 p1.left, v2]), (1, .agg #[.int .i64 p5.left, v6])] a := M
 obtain ⟨A9, c10, hzc10, -⟩ := im_form i4
 subst hzc10
 obtain ⟨A11, c12, hzc12, -⟩ := im_form i8
 subst hzc12
 have T0 : Tr (Ls o0 []) w0 o0 w0 o0 := Tr.refl _ _ _
 refine c_seq <| c_reg ?_
 obtain ⟨g13, w14, o15, r16, b17, t18⟩ := b_box (P := Try.prog) (T := 28) (M.e 0 rfl) w0 o0 100
 refine ov rfl rfl M (r16 _ _ _ _ _) fun a M => ?_
 obtain ⟨g19, w20, o21, r22, b23, t24⟩ := b_box (P := Try.prog) (T := 28) (M.e 2 rfl) w14 o15 101
 refine ov rfl rfl M (r22 _ _ _ _ _) fun a M => pn (j := 3) E 1 M rfl rfl fun a M => x_end rfl <| q_then <| c_seq <| c_reg <| pn (j := 1) E 1 M rfl rfl fun a M => ov rfl rfl M (x_load ld_3 (M.e 0 rfl) ((b17.kn t24).cell (n := 0) rfl)) fun a M => pn (j := 3) E 1 M rfl rfl fun a M => ov rfl rfl M (x_load ld_3 (M.e 0 rfl) (b23.cell (n := 0) rfl)) fun a M => pn (j := 6) E 2 M rfl rfl fun a M => ?_
 by_cases hk1 : (p1.left == p5.left) = true
 ·rw [if_pos hk1] at h
  have M := M.k 10 rfl hk1
  refine pn (j := 7) E 1 M rfl rfl fun a M => ow rfl (wanted_yes rfl rfl (M.t 1 rfl)) rfl rfl M (x_load ld_26 (M.e 0 rfl) ((b17.kn t24).cell (n := 1) rfl)) fun a M => pn (j := 9) E 1 M rfl rfl fun a M => ow rfl (wanted_yes rfl rfl (M.t 3 rfl)) rfl rfl M (x_load ld_26 (M.e 0 rfl) (b23.cell (n := 1) rfl)) fun a M => ?_
  obtain ⟨r25, hr26, h⟩ := bind_some h
  refine oc rfl (wanted_yes rfl rfl (M.t 4 rfl)) rfl rfl M (x_call cf_191 (m2 (M.e 2 rfl) (M.e 0 rfl))) (slices_Equal_calls hr26 (lko_own (T := [(0, 0)]) (o := o21) rfl) (sL (iN (iN i4 t18) t24) rfl) (sL (iN (iN i8 t18) t24) rfl)) (fun e2 w27 hp28 => ?_)
  obtain ⟨o29, he30, T31⟩ := hp28
  obtain ⟨o32, ho33⟩ := ex (mrg w20 o21 [(0, 0)] o29)
  have t34 := T31.r0 ho33
  refine ⟨_, he30, fun a M => ?_⟩
  refine pn (j := 12) E 1 M rfl rfl fun a M => ?_
  have M := M.pk [0, 1, 2, 3, 4, 5, 6, 7, 8, 9, 10, 11, 13, 14] rfl
  refine pn (j := 13) E 1 M rfl rfl fun a M => x_end rfl <| q_then <| wp_ret ?_
  have u3 := ((T0.kn t18).kn t24).kn t34
  obtain rfl := sj h
  exact ⟨M.f.defers, _, (res1 Try.results169 (rv_tmp (M.t 0 rfl))), ⟨o32, rfl, u3⟩⟩
 rw [if_neg hk1] at h
 have hk1 := nott hk1
 have M := M.k 10 rfl hk1
 refine pn (j := 12) E 6 M rfl rfl fun a M => ?_
 have M := M.pk [0, 1, 2, 3, 4, 5, 6, 7, 8, 9, 10, 11, 13, 14] rfl
 refine pn (j := 13) E 1 M rfl rfl fun a M => x_end rfl <| q_then <| wp_ret ?_
 have u4 := (T0.kn t18).kn t24
 obtain rfl := sj h
 exact ⟨M.f.defers, _, (res1 Try.results169 (rv_tmp (M.t 0 rfl))), ⟨o21, rfl, u4⟩⟩
end Go.Proofs.Ythilemcdhkfhlaa
namespace Go.Proofs.Ythilemcdhkfhlaa
open Go Go.RowKit Go.Gc Go.Proofs
def grammar_has_1 (k : Nat) (p1 : Rule) (p6 : Int) (p7 : List Int) : Option Bool :=
  (grammar_alike k p1 (⟨p6, p7⟩ : Rule)).bind fun r22 => some r22
theorem grammar_has_1_calls {k : Nat} {p1 : Rule} {v2 : Value} {g5 : Nat} {p6 : Int} {p7 : List Int} {v8 : Value} {r : Bool} (h : grammar_has_1 k p1 p6 p7 = some r) {w0 : World} {o0 : Own} (hown : Hown o0)
    (i4 : ((tSlice 3 (tInt .i64) (by decide))).im w0 (L o0 0) p1.right [v2])
    (i10 : ((tSlice 3 (tInt .i64) (by decide))).im w0 (L o0 0) p7 [v8])
    (q11 : Box w0 o0 1 g5 28 #[.int .i64 p6, v8]) :
    Calls Try.prog 168 #[.agg #[.int .i64 p1.left, v2], .pointer (some ⟨g5, 0, none⟩)] w0 (fun e w => ∃ (o32 : Own), e = .returned (.bool r) ∧ Tr (Ls o0 []) w0 o0 w o32) := by
 unfold grammar_has_1 at h
 refine startM Try.func168 rfl Try.ntmps168 (show 2 ≤ 7 by decide) fun a M => ?_
 have M : MB 7 [] [(0, .agg #[.int .i64 p1.left, v2]), (1, .pointer (some ⟨g5, 0, none⟩))] a := M
 obtain ⟨A12, c13, hzc13, -⟩ := im_form i4
 subst hzc13
 obtain ⟨A14, c15, hzc15, -⟩ := im_form i10
 subst hzc15
 have T0 : Tr (Ls o0 []) w0 o0 w0 o0 := Tr.refl _ _ _
 refine c_seq <| c_reg ?_
 obtain ⟨g16, w17, o18, r19, b20, t21⟩ := b_box (P := Try.prog) (T := 28) (M.e 0 rfl) w0 o0 100
 refine ov rfl rfl M (r19 _ _ _ _ _) fun a M => pn (j := 2) E 1 M rfl rfl fun a M => x_end rfl <| q_then <| c_seq <| c_reg <| ov rfl rfl M (x_loadN (ldn_28 _ rfl) (M.e 1 rfl) (b20.sub (cs := #[.int .i64 p1.left, .slice A12 p1.right.length c13]) 0 rfl)) fun a M => ov rfl rfl M (x_loadN (ldn_28 _ rfl) (M.e 4 rfl) ((q11.kn t21).sub (cs := #[.int .i64 p6, .slice A14 p7.length c15]) 0 rfl)) fun a M => ?_
 obtain ⟨r22, hr23, h⟩ := bind_some h
 refine oc rfl (wp0 rfl) rfl rfl M (x_call cf_169 (m2 (M.e 1 rfl) (M.e 0 rfl))) (grammar_alike_calls hr23 (lko_own (T := [(0, 0)]) (o := o18) rfl) (sL (iN i4 t21) rfl) (sL (iN i10 t21) rfl)) (fun e1 w24 hp25 => ?_)
 obtain ⟨o26, he27, T28⟩ := hp25
 obtain ⟨o29, ho30⟩ := ex (mrg w17 o18 [(0, 0)] o26)
 have t31 := T28.r0 ho30
 refine ⟨_, he27, fun a M => ?_⟩
 have M := M.pk [0, 1, 2, 4, 6] rfl
 refine pn (j := 4) E 1 M rfl rfl fun a M => x_end rfl <| q_then <| wp_ret ?_
 have u2 := (T0.kn t21).kn t31
 obtain rfl := sj h
 exact ⟨M.f.defers, _, (res1 Try.results168 (rv_tmp (M.t 0 rfl))), ⟨o29, rfl, u2⟩⟩
end Go.Proofs.Ythilemcdhkfhlaa
namespace Go.Proofs.Ythilemcdhkfhlaa
open Go Go.RowKit Go.Gc Go.Proofs
def slices_IndexFunc_b0 (k : Nat) (p1 : List Rule) (p6 : Int) (p7 : List Int) (y45 : Int) : Option (Int ⊕ (Int ⊕ Unit)) :=
  if (decide (y45 < (p1.length : Int))) = true then ((at? p1 y45).bind fun x88 => (grammar_has_1 k x88 p6 p7).bind fun r102 => if r102 = true then (some (.inr (.inl y45))) else (some (.inl (IntKind.wrap .i64 (y45 + (1 : Int)))))) else (some (.inr (.inr ())))
def slices_IndexFunc (k : Nat) (p1 : List Rule) (p6 : Int) (p7 : List Int) : Option Int :=
  (iter (fun (s : Int) => slices_IndexFunc_b0 k p1 p6 p7 s) k (0 : Int)).bind fun x112 => scase x112 (fun x112 => some x112) (fun x112 => some (-1 : Int))
theorem slices_IndexFunc_calls {k : Nat} {p1 : List Rule} {v2 : Value} {g5 : Nat} {p6 : Int} {p7 : List Int} {v8 : Value} {r : Int} (h : slices_IndexFunc k p1 p6 p7 = some r) {w0 : World} {o0 : Own} (hown : Hown o0)
    (i4 : ((tSlice 28 tyRule (by decide))).im w0 (L o0 0) p1 [v2])
    (i10 : ((tSlice 3 (tInt .i64) (by decide))).im w0 (L o0 0) p7 [v8])
    (q11 : Box w0 o0 1 g5 28 #[.int .i64 p6, v8]) :
    Calls Try.prog 190 #[v2, .func (.func 168) #[] #[.pointer (some ⟨g5, 0, none⟩)]] w0 (fun e w => ∃ (o126 : Own), e = .returned (.int .i64 r) ∧ Tr (Ls o0 []) w0 o0 w o126) := by
 unfold slices_IndexFunc at h
 refine startM Try.func190 rfl Try.ntmps190 (show 2 ≤ 19 by decide) fun a M => ?_
 have M : MB 19 [] [(0, v2), (1, .func (.func 168) #[] #[.pointer (some ⟨g5, 0, none⟩)])] a := M
 obtain ⟨A12, c13, hzc13, -⟩ := im_form i4
 subst hzc13
 obtain ⟨A14, c15, hzc15, -⟩ := im_form i10
 subst hzc15
 have T0 : Tr (Ls o0 []) w0 o0 w0 o0 := Tr.refl _ _ _
 refine c_seq <| c_reg <| pn (j := 1) E 1 M rfl rfl fun a M => x_end rfl <| q_then <| c_seq <| c_seq <| c_reg <| pn (j := 3) E 3 M rfl rfl fun a M => x_end rfl <| q_then <| wp_block ?_
 obtain ⟨x112, hx113, h⟩ := bind_some h
 refine loop_iter (S := Int) (X := (Int ⊕ Unit)) (fun (s : Int) => slices_IndexFunc_b0 k p1 p6 p7 s) (fun (s : Int) (a : Act) (w : World) => ∃ (o77 : Own), MB 19 [] [(0, .slice A12 p1.length c13), (1, .func (.func 168) #[] #[.pointer (some ⟨g5, 0, none⟩)]), (7, .int .i64 (p1.length : Int)), (8, .int .i64 s)] a ∧ Box w o77 1 g5 28 #[.int .i64 p6, .slice A14 p7.length c15] ∧ ((tSlice 28 tyRule (by decide))).im w (L o77 0) p1 [.slice A12 p1.length c13] ∧ ((tSlice 3 (tInt .i64) (by decide))).im w (L o77 0) p7 [.slice A14 p7.length c15] ∧ Tr (Ls o0 []) w0 o0 w o77) (fun (x : (Int ⊕ Unit)) (e : Exit) (a : Act) (w : World) => (match x with | .inl x => (e = .ret ∧ ∃ (o78 : Own), MB 19 [] [(4, .int .i64 x)] a ∧ Box w o78 1 g5 28 #[.int .i64 p6, .slice A14 p7.length c15] ∧ ((tSlice 3 (tInt .i64) (by decide))).im w (L o78 0) p7 [.slice A14 p7.length c15] ∧ Tr (Ls o0 []) w0 o0 w o78) | .inr x => (e = .exit 0 ∧ ∃ (o79 : Own), MB 19 [] [] a ∧ Box w o79 1 g5 28 #[.int .i64 p6, .slice A14 p7.length c15] ∧ ((tSlice 3 (tInt .i64) (by decide))).im w (L o79 0) p7 [.slice A14 p7.length c15] ∧ Tr (Ls o0 []) w0 o0 w o79))) ?_ hx113 ⟨o0, (M.pk [4, 5, 1, 0] rfl), q11, i4, i10, T0⟩ ?_
 ·rintro y45 a w80 r81 hI82 h
  replace h : slices_IndexFunc_b0 k p1 p6 p7 y45 = some r81 := h
  unfold slices_IndexFunc_b0 at h
  obtain ⟨o83, M, q84, i85, i86, T87⟩ := hI82
  refine c_seq <| c_reg <| pn (j := 1) E 1 M rfl rfl fun a M => x_end rfl <| q_then <| c_seq ?_
  by_cases hk10 : (decide (y45 < (p1.length : Int))) = true
  ·rw [if_pos hk10] at h
   have M := M.k 9 rfl hk10
   refine c_true (M.e 0 rfl) <| wp_skip <| q_then <| c_seq <| wp_block <| c_seq <| c_reg <| pn (j := 2) E 2 M rfl rfl fun a M => x_end rfl <| q_then <| c_seq <| c_reg <| pn (j := 3) E 3 M rfl rfl fun a M => ?_
   obtain ⟨x88, hx89, h⟩ := bind_some h
   obtain ⟨hx890, hx891, hx892⟩ := at_some hx89
   obtain ⟨g90, f91, c92, ds93, hv94, hd95, he96⟩ := im_elem i85 hx891
   obtain ⟨A97, c98, rfl, i99⟩ := Rule_open hd95
   have he96 : ElemAt w80 o83 0 g90 f91 (y45).toNat 2 [.int .i64 x88.left, .slice A97 x88.right.length c98] := he96
   refine ov rfl rfl M (x_indexAddr Try.underlying23 sz_28 ((M.e 1 rfl).trans hv94) (M.e 0 rfl) hx890 hx892) fun a M => ov rfl rfl M (x_loadN (ldn_28 _ rfl) (M.e 0 rfl) he96.all) fun a M => ?_
   obtain ⟨r102, hr103, h⟩ := bind_some h
   refine oc rfl (wp0 rfl) rfl rfl M (x_callv cf_168 (M.e 4 rfl) (m1 (M.e 0 rfl))) (grammar_has_1_calls hr103 (lko_own (T := [(0, 0), (1, 1)]) (o := o83) rfl) (sL i99 rfl) (sL i86 rfl) (q84.l rfl)) (fun e11 w104 hp105 => ?_)
   obtain ⟨o106, he107, T108⟩ := hp105
   obtain ⟨o109, ho110⟩ := ex (mrg w80 o83 [(0, 0), (1, 1)] o106)
   have t111 := T108.r0 ho110
   refine ⟨_, he107, fun a M => ?_⟩
   refine x_end rfl <| q_then ?_
   by_cases hk12 : r102 = true
   ·rw [if_pos hk12] at h
    have M := M.k 16 rfl hk12
    refine c_true (M.e 0 rfl) <| c_seq <| c_reg <| pn (j := 2) E 2 M rfl rfl fun a M => x_end rfl <| q_then <| wp_ret <| q_blk_ret <| q_then_ret ?_
    obtain rfl := sj h
    have u13 := T87.kn t111
    exact lq_ret ⟨rfl, ⟨o109, (M.pk [0] rfl), (q84.kn t111), (iN i86 t111), u13⟩⟩
   rw [if_neg hk12] at h
   have hk12 := nott hk12
   have M := M.k 16 rfl hk12
   refine c_false (M.e 0 rfl) <| wp_skip <| q_blk <| q_then <| c_reg <| pn (j := 1) E 1 M rfl rfl fun a M => ?_
   have M := M.pk [0, 10, 11, 12] rfl
   refine pn (j := 2) E 1 M rfl rfl fun a M => x_end rfl ?_
   obtain rfl := sj h
   have u14 := T87.kn t111
   exact lq_next ⟨o109, (M.pk [2, 3, 4, 0] rfl), (q84.kn t111), (iN i85 t111), (iN i86 t111), u14⟩
  rw [if_neg hk10] at h
  have hk10 := nott hk10
  have M := M.k 9 rfl hk10
  refine c_false (M.e 0 rfl) <| wp_exit <| q_then_exit ?_
  obtain rfl := sj h
  exact lq_exit ⟨rfl, ⟨o83, (M.pk [] rfl), q84, i86, T87⟩⟩
 intro e15 a w114 hO115
 rcases x112 with x112 | x112
 ·rw [scase_l] at h
  obtain ⟨he116, hO115⟩ := hO115
  subst he116
  obtain ⟨o117, M, q118, i119, T120⟩ := hO115
  refine q_blk_ret <| q_then_ret ?_
  obtain rfl := sj h
  exact ⟨M.f.defers, _, (res1 Try.results190 (rv_tmp (M.t 0 rfl))), ⟨o117, rfl, T120⟩⟩
 rw [scase_r] at h
 obtain ⟨he121, hO115⟩ := hO115
 subst he121
 obtain ⟨o122, M, q123, i124, T125⟩ := hO115
 refine q_blk_here <| q_then <| c_seq <| c_reg <| pn (j := 1) E 1 M rfl rfl fun a M => x_end rfl <| q_then <| wp_ret ?_
 obtain rfl := sj h
 exact ⟨M.f.defers, _, (res1 Try.results190 (rv_tmp (M.t 0 rfl))), ⟨o122, rfl, T125⟩⟩
end Go.Proofs.Ythilemcdhkfhlaa
namespace Go.Proofs.Ythilemcdhkfhlaa
open Go Go.RowKit Go.Gc Go.Proofs
def slices_ContainsFunc (k : Nat) (p1 : List Rule) (p6 : Int) (p7 : List Int) : Option Bool :=
  (slices_IndexFunc k p1 p6 p7).bind fun r16 => some (decide ((0 : Int) ≤ r16))
theorem slices_ContainsFunc_calls {k : Nat} {p1 : List Rule} {v2 : Value} {g5 : Nat} {p6 : Int} {p7 : List Int} {v8 : Value} {r : Bool} (h : slices_ContainsFunc k p1 p6 p7 = some r) {w0 : World} {o0 : Own} (hown : Hown o0)
    (i4 : ((tSlice 28 tyRule (by decide))).im w0 (L o0 0) p1 [v2])
    (i10 : ((tSlice 3 (tInt .i64) (by decide))).im w0 (L o0 0) p7 [v8])
    (q11 : Box w0 o0 1 g5 28 #[.int .i64 p6, v8]) :
    Calls Try.prog 167 #[v2, .func (.func 168) #[] #[.pointer (some ⟨g5, 0, none⟩)]] w0 (fun e w => ∃ (o26 : Own), e = .returned (.bool r) ∧ Tr (Ls o0 []) w0 o0 w o26) := by
 unfold slices_ContainsFunc at h
 refine startM Try.func167 rfl Try.ntmps167 (show 2 ≤ 9 by decide) fun a M => ?_
 have M : MB 9 [] [(0, v2), (1, .func (.func 168) #[] #[.pointer (some ⟨g5, 0, none⟩)])] a := M
 obtain ⟨A12, c13, hzc13, -⟩ := im_form i4
 subst hzc13
 obtain ⟨A14, c15, hzc15, -⟩ := im_form i10
 subst hzc15
 have T0 : Tr (Ls o0 []) w0 o0 w0 o0 := Tr.refl _ _ _
 refine c_seq <| c_reg <| pn (j := 1) E 1 M rfl rfl fun a M => x_end rfl <| q_then <| c_seq <| c_reg <| pn (j := 2) E 2 M rfl rfl fun a M => ?_
 obtain ⟨r16, hr17, h⟩ := bind_some h
 refine oc rfl (wp0 rfl) rfl rfl M (x_call cf_190 (m2 (M.e 1 rfl) (M.e 0 rfl))) (slices_IndexFunc_calls hr17 (lko_own (T := [(0, 0), (1, 1)]) (o := o0) rfl) (sL i4 rfl) (sL i10 rfl) (q11.l rfl)) (fun e1 w18 hp19 => ?_)
 obtain ⟨o20, he21, T22⟩ := hp19
 obtain ⟨o23, ho24⟩ := ex (mrg w0 o0 [(0, 0), (1, 1)] o20)
 have t25 := T22.r0 ho24
 refine ⟨_, he21, fun a M => ?_⟩
 refine pn (j := 4) E 1 M rfl rfl fun a M => ?_
 have M := M.pk [0, 1, 2, 3, 5, 6] rfl
 refine pn (j := 5) E 1 M rfl rfl fun a M => x_end rfl <| q_then <| wp_ret ?_
 have u2 := T0.kn t25
 obtain rfl := sj h
 exact ⟨M.f.defers, _, (res1 Try.results167 (rv_tmp (M.t 0 rfl))), ⟨o23, rfl, u2⟩⟩
end Go.Proofs.Ythilemcdhkfhlaa
namespace Go.Proofs.Ythilemcdhkfhlaa
open Go Go.RowKit Go.Gc Go.Proofs
def grammar_has (k : Nat) (p1 : List Rule) (p5 : Rule) : Option Bool :=
  (slices_ContainsFunc k p1 p5.left p5.right).bind fun r19 => some r19
theorem grammar_has_calls {k : Nat} {p1 : List Rule} {v2 : Value} {p5 : Rule} {v6 : Value} {r : Bool} (h : grammar_has k p1 p5 = some r) {w0 : World} {o0 : Own} (hown : Hown o0)
    (i4 : ((tSlice 28 tyRule (by decide))).im w0 (L o0 0) p1 [v2])
    (i8 : ((tSlice 3 (tInt .i64) (by decide))).im w0 (L o0 0) p5.right [v6]) :
    Calls Try.prog 128 #[v2, .agg #[.int .i64 p5.left, v6]] w0 (fun e w => ∃ (o29 : Own), e = .returned (.bool r) ∧ Tr (Ls o0 []) w0 o0 w o29) := by
 unfold grammar_has at h
 refine startM Try.func128 rfl Try.ntmps128 (show 2 ≤ 8 by decide) fun a M => ?_
 have M : MB 8 [] [(0, v2), (1, .agg #[.int .i64 p5.left, v6])] a := M
 obtain ⟨A9, c10, hzc10, -⟩ := im_form i4
 subst hzc10
 obtain ⟨A11, c12, hzc12, -⟩ := im_form i8
 subst hzc12
 have T0 : Tr (Ls o0 []) w0 o0 w0 o0 := Tr.refl _ _ _
 refine c_seq <| c_reg ?_
 obtain ⟨g13, w14, o15, r16, b17, t18⟩ := b_box (P := Try.prog) (T := 28) (M.e 1 rfl) w0 o0 100
 refine ov rfl rfl M (r16 _ _ _ _ _) fun a M => pn (j := 2) E 1 M rfl rfl fun a M => x_end rfl <| q_then <| c_seq <| c_reg <| pn (j := 1) E 1 M rfl rfl fun a M => ov rfl rfl M (x_makeFunc m0 (m1 (M.e 2 rfl))) fun a M => ?_
 obtain ⟨r19, hr20, h⟩ := bind_some h
 refine oc rfl (wp0 rfl) rfl rfl M (x_call cf_167 (m2 (M.e 1 rfl) (M.e 0 rfl))) (slices_ContainsFunc_calls hr20 (lko_own (T := [(0, 0), (100, 1)]) (o := o15) rfl) (sL (iN i4 t18) rfl) (sL (iN i8 t18) rfl) (b17.l rfl)) (fun e1 w21 hp22 => ?_)
 obtain ⟨o23, he24, T25⟩ := hp22
 obtain ⟨o26, ho27⟩ := ex (mrg w14 o15 [(0, 0), (1, 100)] o23)
 have t28 := T25.r0 ho27
 refine ⟨_, he24, fun a M => ?_⟩
 have M := M.pk [0, 1, 2, 4, 5] rfl
 refine pn (j := 4) E 1 M rfl rfl fun a M => x_end rfl <| q_then <| wp_ret ?_
 have u2 := (T0.kn t18).kn t28
 obtain rfl := sj h
 exact ⟨M.f.defers, _, (res1 Try.results128 (rv_tmp (M.t 0 rfl))), ⟨o26, rfl, u2⟩⟩
end Go.Proofs.Ythilemcdhkfhlaa
namespace Go.Proofs.Ythilemcdhkfhlaa
open Go Go.RowKit Go.Gc Go.Proofs
def grammar_ruled_1 (k : Nat) (p1 : Int) (p3 : Int) : Option Bool :=
  if (decide (p1 < (0 : Int))) = true then (some true) else (some (decide (p3 ≤ p1)))
theorem grammar_ruled_1_calls {k : Nat} {p1 : Int} {g2 : Nat} {p3 : Int} {r : Bool} (h : grammar_ruled_1 k p1 p3 = some r) {w0 : World} {o0 : Own} (hown : Hown o0)
    (q4 : Box w0 o0 1 g2 3 #[.int .i64 p3]) :
    Calls Try.prog 175 #[.int .i64 p1, .pointer (some ⟨g2, 0, none⟩)] w0 (fun e w => ∃ (o5 : Own), e = .returned (.bool r) ∧ Tr (Ls o0 []) w0 o0 w o5) := by
 unfold grammar_ruled_1 at h
 refine startM Try.func175 rfl Try.ntmps175 (show 2 ≤ 11 by decide) fun a M => ?_
 have M : MB 11 [] [(0, .int .i64 p1), (1, .pointer (some ⟨g2, 0, none⟩))] a := M
 have T0 : Tr (Ls o0 []) w0 o0 w0 o0 := Tr.refl _ _ _
 refine c_seq <| c_reg <| pn (j := 1) E 1 M rfl rfl fun a M => x_end rfl <| q_then <| c_seq <| c_reg <| pn (j := 3) E 3 M rfl rfl fun a M => ?_
 by_cases hk1 : (decide (p1 < (0 : Int))) = true
 ·rw [if_pos hk1] at h
  have M := M.k 6 rfl hk1
  refine pn (j := 7) E 4 M rfl rfl fun a M => ?_
  have M := M.pk [0, 1, 2, 3, 4, 5, 6, 8, 9] rfl
  refine pn (j := 8) E 1 M rfl rfl fun a M => x_end rfl <| q_then <| wp_ret ?_
  obtain rfl := sj h
  exact ⟨M.f.defers, _, (res1 Try.results175 (rv_tmp (M.t 0 rfl))), ⟨o0, rfl, T0⟩⟩
 rw [if_neg hk1] at h
 have hk1 := nott hk1
 have M := M.k 6 rfl hk1
 refine pn (j := 4) E 1 M rfl rfl fun a M => ow rfl (wanted_yes rfl rfl (M.t 1 rfl)) rfl rfl M (x_load ld_3 (M.e 6 rfl) (q4.cell (n := 0) rfl)) fun a M => pn (j := 7) E 2 M rfl rfl fun a M => ?_
 have M := M.pk [0, 1, 2, 3, 4, 5, 6, 8, 9] rfl
 refine pn (j := 8) E 1 M rfl rfl fun a M => x_end rfl <| q_then <| wp_ret ?_
 obtain rfl := sj h
 exact ⟨M.f.defers, _, (res1 Try.results175 (rv_tmp (M.t 0 rfl))), ⟨o0, rfl, T0⟩⟩
end Go.Proofs.Ythilemcdhkfhlaa
namespace Go.Proofs.Ythilemcdhkfhlaa
open Go Go.RowKit Go.Gc Go.Proofs
def slices_IndexFunc_1_b0 (k : Nat) (p1 : List Int) (p6 : Int) (y34 : Int) : Option (Int ⊕ (Int ⊕ Unit)) :=
  if (decide (y34 < (p1.length : Int))) = true then ((at? p1 y34).bind fun x71 => (grammar_ruled_1 k x71 p6).bind fun r81 => if r81 = true then (some (.inr (.inl y34))) else (some (.inl (IntKind.wrap .i64 (y34 + (1 : Int)))))) else (some (.inr (.inr ())))
def slices_IndexFunc_1 (k : Nat) (p1 : List Int) (p6 : Int) : Option Int :=
  (iter (fun (s : Int) => slices_IndexFunc_1_b0 k p1 p6 s) k (0 : Int)).bind fun x91 => scase x91 (fun x91 => some x91) (fun x91 => some (-1 : Int))
theorem slices_IndexFunc_1_calls {k : Nat} {p1 : List Int} {v2 : Value} {g5 : Nat} {p6 : Int} {r : Int} (h : slices_IndexFunc_1 k p1 p6 = some r) {w0 : World} {o0 : Own} (hown : Hown o0)
    (i4 : ((tSlice 3 (tInt .i64) (by decide))).im w0 (L o0 0) p1 [v2])
    (q7 : Box w0 o0 1 g5 3 #[.int .i64 p6]) :
    Calls Try.prog 192 #[v2, .func (.func 175) #[] #[.pointer (some ⟨g5, 0, none⟩)]] w0 (fun e w => ∃ (o103 : Own), e = .returned (.int .i64 r) ∧ Tr (Ls o0 []) w0 o0 w o103) := by
 unfold slices_IndexFunc_1 at h
 refine startM Try.func192 rfl Try.ntmps192 (show 2 ≤ 19 by decide) fun a M => ?_
 have M : MB 19 [] [(0, v2), (1, .func (.func 175) #[] #[.pointer (some ⟨g5, 0, none⟩)])] a := M
 obtain ⟨A8, c9, hzc9, -⟩ := im_form i4
 subst hzc9
 have T0 : Tr (Ls o0 []) w0 o0 w0 o0 := Tr.refl _ _ _
 refine c_seq <| c_reg <| pn (j := 1) E 1 M rfl rfl fun a M => x_end rfl <| q_then <| c_seq <| c_seq <| c_reg <| pn (j := 3) E 3 M rfl rfl fun a M => x_end rfl <| q_then <| wp_block ?_
 obtain ⟨x91, hx92, h⟩ := bind_some h
 refine loop_iter (S := Int) (X := (Int ⊕ Unit)) (fun (s : Int) => slices_IndexFunc_1_b0 k p1 p6 s) (fun (s : Int) (a : Act) (w : World) => ∃ (o61 : Own), MB 19 [] [(0, .slice A8 p1.length c9), (1, .func (.func 175) #[] #[.pointer (some ⟨g5, 0, none⟩)]), (7, .int .i64 (p1.length : Int)), (8, .int .i64 s)] a ∧ Box w o61 1 g5 3 #[.int .i64 p6] ∧ ((tSlice 3 (tInt .i64) (by decide))).im w (L o61 0) p1 [.slice A8 p1.length c9] ∧ Tr (Ls o0 []) w0 o0 w o61) (fun (x : (Int ⊕ Unit)) (e : Exit) (a : Act) (w : World) => (match x with | .inl x => (e = .ret ∧ ∃ (o62 : Own), MB 19 [] [(4, .int .i64 x)] a ∧ Box w o62 1 g5 3 #[.int .i64 p6] ∧ Tr (Ls o0 []) w0 o0 w o62) | .inr x => (e = .exit 0 ∧ ∃ (o63 : Own), MB 19 [] [] a ∧ Box w o63 1 g5 3 #[.int .i64 p6] ∧ Tr (Ls o0 []) w0 o0 w o63))) ?_ hx92 ⟨o0, (M.pk [4, 5, 1, 0] rfl), q7, i4, T0⟩ ?_
 ·rintro y34 a w64 r65 hI66 h
  replace h : slices_IndexFunc_1_b0 k p1 p6 y34 = some r65 := h
  unfold slices_IndexFunc_1_b0 at h
  obtain ⟨o67, M, q68, i69, T70⟩ := hI66
  refine c_seq <| c_reg <| pn (j := 1) E 1 M rfl rfl fun a M => x_end rfl <| q_then <| c_seq ?_
  by_cases hk10 : (decide (y34 < (p1.length : Int))) = true
  ·rw [if_pos hk10] at h
   have M := M.k 9 rfl hk10
   refine c_true (M.e 0 rfl) <| wp_skip <| q_then <| c_seq <| wp_block <| c_seq <| c_reg <| pn (j := 2) E 2 M rfl rfl fun a M => x_end rfl <| q_then <| c_seq <| c_reg <| pn (j := 3) E 3 M rfl rfl fun a M => ?_
   obtain ⟨x71, hx72, h⟩ := bind_some h
   obtain ⟨hx720, hx721, hx722⟩ := at_some hx72
   obtain ⟨g73, f74, c75, ds76, hv77, hd78, he79⟩ := im_elem i69 hx721
   have hsds76 : ds76 = [.int .i64 x71] := hd78
   subst hsds76
   have he79 : ElemAt w64 o67 0 g73 f74 (y34).toNat 1 [.int .i64 x71] := he79
   refine ov rfl rfl M (x_indexAddr Try.underlying26 sz_3 ((M.e 1 rfl).trans hv77) (M.e 0 rfl) hx720 hx722) fun a M => ov rfl rfl M (x_load ld_3 (M.e 0 rfl) (he79.2 0 _ rfl)) fun a M => ?_
   obtain ⟨r81, hr82, h⟩ := bind_some h
   refine oc rfl (wp0 rfl) rfl rfl M (x_callv cf_175 (M.e 4 rfl) (m1 (M.e 0 rfl))) (grammar_ruled_1_calls hr82 (lko_own (T := [(0, 0), (1, 1)]) (o := o67) rfl) (q68.l rfl)) (fun e11 w83 hp84 => ?_)
   obtain ⟨o85, he86, T87⟩ := hp84
   obtain ⟨o88, ho89⟩ := ex (mrg w64 o67 [(0, 0), (1, 1)] o85)
   have t90 := T87.r0 ho89
   refine ⟨_, he86, fun a M => ?_⟩
   refine x_end rfl <| q_then ?_
   by_cases hk12 : r81 = true
   ·rw [if_pos hk12] at h
    have M := M.k 16 rfl hk12
    refine c_true (M.e 0 rfl) <| c_seq <| c_reg <| pn (j := 2) E 2 M rfl rfl fun a M => x_end rfl <| q_then <| wp_ret <| q_blk_ret <| q_then_ret ?_
    obtain rfl := sj h
    have u13 := T70.kn t90
    exact lq_ret ⟨rfl, ⟨o88, (M.pk [0] rfl), (q68.kn t90), u13⟩⟩
   rw [if_neg hk12] at h
   have hk12 := nott hk12
   have M := M.k 16 rfl hk12
   refine c_false (M.e 0 rfl) <| wp_skip <| q_blk <| q_then <| c_reg <| pn (j := 1) E 1 M rfl rfl fun a M => ?_
   have M := M.pk [0, 10, 11, 12] rfl
   refine pn (j := 2) E 1 M rfl rfl fun a M => x_end rfl ?_
   obtain rfl := sj h
   have u14 := T70.kn t90
   exact lq_next ⟨o88, (M.pk [2, 3, 4, 0] rfl), (q68.kn t90), (iN i69 t90), u14⟩
  rw [if_neg hk10] at h
  have hk10 := nott hk10
  have M := M.k 9 rfl hk10
  refine c_false (M.e 0 rfl) <| wp_exit <| q_then_exit ?_
  obtain rfl := sj h
  exact lq_exit ⟨rfl, ⟨o67, (M.pk [] rfl), q68, T70⟩⟩
 intro e15 a w93 hO94
 rcases x91 with x91 | x91
 ·rw [scase_l] at h
  obtain ⟨he95, hO94⟩ := hO94
  subst he95
  obtain ⟨o96, M, q97, T98⟩ := hO94
  refine q_blk_ret <| q_then_ret ?_
  obtain rfl := sj h
  exact ⟨M.f.defers, _, (res1 Try.results192 (rv_tmp (M.t 0 rfl))), ⟨o96, rfl, T98⟩⟩
 rw [scase_r] at h
 obtain ⟨he99, hO94⟩ := hO94
 subst he99
 obtain ⟨o100, M, q101, T102⟩ := hO94
 refine q_blk_here <| q_then <| c_seq <| c_reg <| pn (j := 1) E 1 M rfl rfl fun a M => x_end rfl <| q_then <| wp_ret ?_
 obtain rfl := sj h
 exact ⟨M.f.defers, _, (res1 Try.results192 (rv_tmp (M.t 0 rfl))), ⟨o100, rfl, T102⟩⟩
end Go.Proofs.Ythilemcdhkfhlaa
namespace Go.Proofs.Ythilemcdhkfhlaa
open Go Go.RowKit Go.Gc Go.Proofs
def slices_ContainsFunc_1 (k : Nat) (p1 : List Int) (p6 : Int) : Option Bool :=
  (slices_IndexFunc_1 k p1 p6).bind fun r10 => some (decide ((0 : Int) ≤ r10))
theorem slices_ContainsFunc_1_calls {k : Nat} {p1 : List Int} {v2 : Value} {g5 : Nat} {p6 : Int} {r : Bool} (h : slices_ContainsFunc_1 k p1 p6 = some r) {w0 : World} {o0 : Own} (hown : Hown o0)
    (i4 : ((tSlice 3 (tInt .i64) (by decide))).im w0 (L o0 0) p1 [v2])
    (q7 : Box w0 o0 1 g5 3 #[.int .i64 p6]) :
    Calls Try.prog 174 #[v2, .func (.func 175) #[] #[.pointer (some ⟨g5, 0, none⟩)]] w0 (fun e w => ∃ (o20 : Own), e = .returned (.bool r) ∧ Tr (Ls o0 []) w0 o0 w o20) := by
 unfold slices_ContainsFunc_1 at h
 refine startM Try.func174 rfl Try.ntmps174 (show 2 ≤ 9 by decide) fun a M => ?_
 have M : MB 9 [] [(0, v2), (1, .func (.func 175) #[] #[.pointer (some ⟨g5, 0, none⟩)])] a := M
 obtain ⟨A8, c9, hzc9, -⟩ := im_form i4
 subst hzc9
 have T0 : Tr (Ls o0 []) w0 o0 w0 o0 := Tr.refl _ _ _
 refine c_seq <| c_reg <| pn (j := 1) E 1 M rfl rfl fun a M => x_end rfl <| q_then <| c_seq <| c_reg <| pn (j := 2) E 2 M rfl rfl fun a M => ?_
 obtain ⟨r10, hr11, h⟩ := bind_some h
 refine oc rfl (wp0 rfl) rfl rfl M (x_call cf_192 (m2 (M.e 1 rfl) (M.e 0 rfl))) (slices_IndexFunc_1_calls hr11 (lko_own (T := [(0, 0), (1, 1)]) (o := o0) rfl) (sL i4 rfl) (q7.l rfl)) (fun e1 w12 hp13 => ?_)
 obtain ⟨o14, he15, T16⟩ := hp13
 obtain ⟨o17, ho18⟩ := ex (mrg w0 o0 [(0, 0), (1, 1)] o14)
 have t19 := T16.r0 ho18
 refine ⟨_, he15, fun a M => ?_⟩
 refine pn (j := 4) E 1 M rfl rfl fun a M => ?_
 have M := M.pk [0, 1, 2, 3, 5, 6] rfl
 refine pn (j := 5) E 1 M rfl rfl fun a M => x_end rfl <| q_then <| wp_ret ?_
 have u2 := T0.kn t19
 obtain rfl := sj h
 exact ⟨M.f.defers, _, (res1 Try.results174 (rv_tmp (M.t 0 rfl))), ⟨o17, rfl, u2⟩⟩
end Go.Proofs.Ythilemcdhkfhlaa
