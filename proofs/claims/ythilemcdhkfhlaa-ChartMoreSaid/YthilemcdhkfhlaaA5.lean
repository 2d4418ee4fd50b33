/- The law ChartMore returns true for every input, and its arguments read afterwards as before. Part 5 of 6. -/
import Derived.Test.YthilemcdhkfhlaaA4
set_option linter.unusedVariables false
set_option linter.unusedSimpArgs false
set_option maxRecDepth 100000
set_option maxHeartbeats 20000000
namespace Go.Proofs.Ythilemcdhkfhlaa
open Go Go.RowKit Go.Gc Go.Proofs
def read_reader_definition_b0 (k : Nat) (p6 : Int) (r29 : (Int × ByteArray × Int)) (y129 : List Token) (y132 : List Alt) : Option (((List Token) × (List Alt)) ⊕ ((List Token) × (List Alt))) :=
  (read_reader_alt k (⟨r29.1, r29.2.1, r29.2.2⟩ : Token) y129 p6 y132).bind fun r192 => if r192.1 = true then (some (.inl (r192.2.1, r192.2.2))) else (some (.inr (r192.2.1, r192.2.2)))
def read_reader_definition (k : Nat) (p2 : List Token) (p6 : Int) (p9 : List Alt) : Option ((List Token) × (List Alt)) :=
  (read_reader_next k [(1 : Int)] p2 p6 p9).bind fun r29 => (read_reader_next k [(3 : Int)] (cutl p2 (1 : Int).toNat (p2.length : Int).toNat) p6 p9).bind fun r77 => (iter (fun (s : ((List Token) × (List Alt))) => read_reader_definition_b0 k p6 r29 s.1 s.2) k (cutl (cutl p2 (1 : Int).toNat (p2.length : Int).toNat) (1 : Int).toNat ((cutl p2 (1 : Int).toNat (p2.length : Int).toNat).length : Int).toNat, p9)).bind fun x215 => some (x215.1, x215.2)
theorem read_reader_definition_calls {k : Nat} {g1 : Nat} {p2 : List Token} {v3 : Value} {p6 : Int} {v8 : Value} {p9 : List Alt} {r : ((List Token) × (List Alt))} (h : read_reader_definition k p2 p6 p9 = some r) {w0 : World} {o0 : Own} (hown : Hown o0)
    (i5 : ((tSlice 183 tyToken (by decide))).im w0 (L o0 0) p2 [v3])
    (q7 : Box w0 o0 1 g1 220 #[v3, .int .i64 p6, v8])
    (q10 : Row tyAlt 185 w0 o0 2 v8 p9) :
    Calls Try.prog 164 #[.pointer (some ⟨g1, 0, none⟩)] w0 (fun e w => ∃ (o229 : Own) (z230 : Value) (z233 : Value), e = .returned (.tuple #[]) ∧ Box w o229 1 g1 220 #[z230, .int .i64 p6, z233] ∧ Row tyAlt 185 w o229 2 z233 r.2 ∧ (tSlice 183 tyToken (by decide)).im w (L o229 0) r.1 [z230] ∧ Tr (Ls o0 [1, 2]) w0 o0 w o229) := by
 unfold read_reader_definition at h
 refine startM Try.func164 rfl Try.ntmps164 (show 1 ≤ 12 by decide) fun a M => ?_
 have M : MB 12 [] [(0, .pointer (some ⟨g1, 0, none⟩))] a := M
 obtain ⟨A11, c12, hzc12, -⟩ := q10.form
 subst hzc12
 obtain ⟨A13, c14, hzc14, -⟩ := im_form i5
 subst hzc14
 have T0 : Tr (Ls o0 [1, 2]) w0 o0 w0 o0 := Tr.refl _ _ _
 refine c_seq <| c_reg <| pn (j := 1) E 1 M rfl rfl fun a M => ?_
 have r17 : (Instr.buildSlice 26 1 #[(0, .int .i64 (1 : Int))]).run Try.prog w0 = .ok (.slice (some ⟨w0.heap.size, 0, none⟩) 1 1) (w0.alloc (.cells ([.int .i64 (1 : Int)] : List Value).toArray 3)) := by go_simp
 obtain ⟨b18, t19⟩ := Row.lit (E := (tInt .i64)) (e := 3) (l := [(1 : Int)]) (by decide) w0 o0 100 (cs := [.int .i64 (1 : Int)]) ⟨[.int .i64 (1 : Int)], _, rfl, rfl, rfl⟩ (by simp)
 generalize hww15 : w0.alloc _ = w15 at r17 b18 t19
 generalize upd o0 _ 100 = o16 at b18 t19
 generalize hgg20 : w0.heap.size = g20 at r17 b18
 clear hww15 hgg20
 refine ov rfl rfl M (x_buildSlice (l1 (e_const (v := .int .i64 (1 : Int)))) r17) fun a M => ?_
 have u1 := q7.kn t19
 have u2 := q10.kn t19
 have u3 := iN i5 t19
 have u4 := T0.kn t19
 obtain ⟨o21, ho22⟩ := ex (lro [(100, 0)] o16)
 have T23 := u4.kw hown ho22 rfl
 have i24 := iW u3 ho22 rfl
 have q25 := u1.kw ho22 1 rfl
 have q26 := u2.kw ho22 2 rfl rfl
 have q27 := b18.kz (hE := by decide) ho22 rfl rfl
 obtain ⟨r29, hr30, h⟩ := bind_some h
 refine oc rfl (wp0 rfl) rfl rfl M (x_call cf_188 (m2 (M.e 1 rfl) (M.e 0 rfl))) (read_reader_next_calls hr30 (lko_own (T := [(0, 0), (1, 1), (2, 2)]) (o := o21) rfl) (sL q27 rfl) (sL i24 rfl) (q25.l rfl) (q26.l rfl rfl)) (fun e5 w31 hp32 => ?_)
 obtain ⟨o35, z33, z34, he36, q37, q38, i39, T40⟩ := hp32
 obtain ⟨o41, ho42⟩ := ex (mrg w15 o21 [(0, 0), (1, 1), (2, 2)] o35)
 have t43 := T40.r1 ho42 1 rfl rfl
 have q44 := q37.r T40 ho42 1 rfl rfl
 have q45 := q38.r T40 ho42 2 rfl rfl rfl rfl
 have i46 := iR i39 T40 ho42 rfl rfl
 refine ⟨_, he36, fun a M => ?_⟩
 obtain ⟨A48, c49, hzc49, -⟩ := q45.form
 subst hzc49
 obtain ⟨A50, c51, hzc51, -⟩ := im_form i46
 subst hzc51
 obtain ⟨g52, w53, o54, r55, b56, t57⟩ := b_alloc zv_183 a w31 o41 100
 refine ov rfl rfl M (r55 _ _ _ _ _) fun a M => ?_
 obtain ⟨w58, r59, b60, t61⟩ := b_storeN (P := Try.prog) (all' := #[.int .i64 r29.1, .string r29.2.1, .int .i64 r29.2.2]) (.inr trivial) (stn_183 _ rfl) (M.e 0 rfl) (M.e 1 rfl) b56 (show 3 ≤ 3 by decide) (by simp [Value.oneCell']) rfl
 have b60 : Box w58 o54 100 g52 183 #[.int .i64 r29.1, .string r29.2.1, .int .i64 r29.2.2] := b60
 refine os rfl (wp0 rfl) rfl (r59 _ _ _ _ _) <| x_end rfl <| q_then <| c_seq <| c_reg <| pn (j := 1) E 1 M rfl rfl fun a M => ?_
 have r64 : (Instr.buildSlice 26 1 #[(0, .int .i64 (3 : Int))]).run Try.prog w58 = .ok (.slice (some ⟨w58.heap.size, 0, none⟩) 1 1) (w58.alloc (.cells ([.int .i64 (3 : Int)] : List Value).toArray 3)) := by go_simp
 obtain ⟨b65, t66⟩ := Row.lit (E := (tInt .i64)) (e := 3) (l := [(3 : Int)]) (by decide) w58 o54 101 (cs := [.int .i64 (3 : Int)]) ⟨[.int .i64 (3 : Int)], _, rfl, rfl, rfl⟩ (by simp)
 generalize hww62 : w58.alloc _ = w62 at r64 b65 t66
 generalize upd o54 _ 101 = o63 at b65 t66
 generalize hgg67 : w58.heap.size = g67 at r64 b65
 clear hww62 hgg67
 refine ov rfl rfl M (x_buildSlice (l1 (e_const (v := .int .i64 (3 : Int)))) r64) fun a M => ?_
 have u6 := ((q44.kn t57).kk t61 rfl).kn t66
 have u7 := ((q45.kn t57).kk t61 rfl rfl).kn t66
 have u8 := b60.kn t66
 have u9 := iN (iK (iN i46 t57) t61 rfl) t66
 have u10 := (((T23.kk t43 hown rfl).kn t57).kk t61 hown rfl).kn t66
 obtain ⟨o68, ho69⟩ := ex (lro [(101, 0)] o63)
 have T70 := u10.kw hown ho69 rfl
 have i71 := iW u9 ho69 rfl
 have q72 := u6.kw ho69 1 rfl
 have q73 := u7.kw ho69 2 rfl rfl
 have q74 := u8.kw ho69 100 rfl
 have q75 := b65.kz (hE := by decide) ho69 rfl rfl
 obtain ⟨r77, hr78, h⟩ := bind_some h
 refine oc rfl (wp0 rfl) rfl rfl M (x_call cf_188 (m2 (M.e 1 rfl) (M.e 0 rfl))) (read_reader_next_calls hr78 (lko_own (T := [(0, 0), (1, 1), (2, 2)]) (o := o68) rfl) (sL q75 rfl) (sL i71 rfl) (q72.l rfl) (q73.l rfl rfl)) (fun e11 w79 hp80 => ?_)
 obtain ⟨o83, z81, z82, he84, q85, q86, i87, T88⟩ := hp80
 obtain ⟨o89, ho90⟩ := ex (mrg w62 o68 [(0, 0), (1, 1), (2, 2)] o83)
 have t91 := T88.r1 ho90 1 rfl rfl
 have q92 := q85.r T88 ho90 1 rfl rfl
 have q93 := q86.r T88 ho90 2 rfl rfl rfl rfl
 have i94 := iR i87 T88 ho90 rfl rfl
 refine ⟨_, he84, fun a M => ?_⟩
 obtain ⟨A96, c97, hzc97, -⟩ := q93.form
 subst hzc97
 obtain ⟨A98, c99, hzc99, -⟩ := im_form i94
 subst hzc99
 refine x_end rfl <| q_then <| wp_block ?_
 have u16 := T70.kk t91 hown rfl
 obtain ⟨x215, hx216, h⟩ := bind_some h
 refine loop_iter (S := ((List Token) × (List Alt))) (X := ((List Token) × (List Alt))) (fun (s : ((List Token) × (List Alt))) => read_reader_definition_b0 k p6 r29 s.1 s.2) (fun (s : ((List Token) × (List Alt))) (a : Act) (w : World) => ∃ (o177 : Own) (z130 : Value) (z133 : Value), MB 12 [] [(0, .pointer (some ⟨g1, 0, none⟩)), (2, .pointer (some ⟨g52, 0, none⟩))] a ∧ Box w o177 1 g1 220 #[z130, .int .i64 p6, z133] ∧ Box w o177 100 g52 183 #[.int .i64 r29.1, .string r29.2.1, .int .i64 r29.2.2] ∧ Row tyAlt 185 w o177 2 z133 s.2 ∧ (tSlice 183 tyToken (by decide)).im w (L o177 0) s.1 [z130] ∧ Tr (Ls o0 [1, 2]) w0 o0 w o177) (fun (x : ((List Token) × (List Alt))) (e : Exit) (a : Act) (w : World) => (e = .exit 0 ∧ ∃ (o178 : Own) (z173 : Value) (z176 : Value), MB 12 [] [] a ∧ Box w o178 1 g1 220 #[z173, .int .i64 p6, z176] ∧ Row tyAlt 185 w o178 2 z176 x.2 ∧ (tSlice 183 tyToken (by decide)).im w (L o178 0) x.1 [z173] ∧ Tr (Ls o0 [1, 2]) w0 o0 w o178)) ?_ hx216 ⟨o89, (.slice A98 (cutl (cutl p2 (1 : Int).toNat (p2.length : Int).toNat) (1 : Int).toNat ((cutl p2 (1 : Int).toNat (p2.length : Int).toNat).length : Int).toNat).length c99), (.slice A96 p9.length c97), (M.pk [7, 3] rfl), q92, (q74.kk t91 rfl), q93, i94, u16⟩ ?_
 ·rintro ⟨y129, y132⟩ a w179 r180 hI181 h
  replace h : read_reader_definition_b0 k p6 r29 y129 y132 = some r180 := h
  unfold read_reader_definition_b0 at h
  obtain ⟨o182, z130, z133, M, q183, q184, q185, i186, T187⟩ := hI181
  obtain ⟨A188, c189, hzc189, -⟩ := q185.form
  subst hzc189
  obtain ⟨A190, c191, hzc191, -⟩ := im_form i186
  subst hzc191
  refine c_seq <| c_seq <| c_reg <| pn (j := 1) E 1 M rfl rfl fun a M => ov rfl rfl M (x_loadN (ldn_183 _ rfl) (M.e 2 rfl) (q184.sub (cs := #[.int .i64 r29.1, .string r29.2.1, .int .i64 r29.2.2]) 0 rfl)) fun a M => ?_
  obtain ⟨r192, hr193, h⟩ := bind_some h
  refine oc rfl (wp0 rfl) rfl rfl M (x_call cf_189 (m2 (M.e 1 rfl) (M.e 0 rfl))) (read_reader_alt_calls hr193 (lko_own (T := [(0, 0), (1, 1), (2, 2)]) (o := o182) rfl) (sL i186 rfl) (q183.l rfl) (q185.l rfl rfl)) (fun e17 w194 hp195 => ?_)
  obtain ⟨o198, z196, z197, he199, q200, q201, i202, T203⟩ := hp195
  obtain ⟨o204, ho205⟩ := ex (mrg w179 o182 [(0, 0), (1, 1), (2, 2)] o198)
  have t206 := T203.r ho205 [1, 2] rfl rfl
  have q207 := q200.r T203 ho205 1 rfl rfl
  have q208 := q201.r T203 ho205 2 rfl rfl rfl rfl
  have i209 := iR i202 T203 ho205 rfl rfl
  refine ⟨_, he199, fun a M => ?_⟩
  obtain ⟨A211, c212, hzc212, -⟩ := q208.form
  subst hzc212
  obtain ⟨A213, c214, hzc214, -⟩ := im_form i209
  subst hzc214
  refine x_end rfl <| q_then ?_
  by_cases hk18 : r192.1 = true
  ·rw [if_pos hk18] at h
   have M := M.k 11 rfl hk18
   refine c_true (M.e 0 rfl) <| wp_skip <| q_then <| wp_block <| wp_exit <| q_blk_here ?_
   obtain rfl := sj h
   have u19 := T187.km t206 hown rfl
   exact lq_next ⟨o204, (.slice A213 r192.2.1.length c214), (.slice A211 r192.2.2.length c212), (M.pk [3, 4] rfl), q207, (q184.km t206 rfl), q208, i209, u19⟩
  rw [if_neg hk18] at h
  have hk18 := nott hk18
  have M := M.k 11 rfl hk18
  refine c_false (M.e 0 rfl) <| wp_exit <| q_then_exit ?_
  obtain rfl := sj h
  have u20 := T187.km t206 hown rfl
  exact lq_exit ⟨rfl, ⟨o204, (.slice A213 r192.2.1.length c214), (.slice A211 r192.2.2.length c212), (M.pk [] rfl), q207, q208, i209, u20⟩⟩
 intro e21 a w217 hO218
 obtain ⟨he219, hO218⟩ := hO218
 subst he219
 obtain ⟨o220, z173, z176, M, q221, q222, i223, T224⟩ := hO218
 obtain ⟨A225, c226, hzc226, -⟩ := q222.form
 subst hzc226
 obtain ⟨A227, c228, hzc228, -⟩ := im_form i223
 subst hzc228
 refine q_blk_here ?_
 obtain rfl := sj h
 exact ⟨M.f.defers, _, (res0 Try.results164 ), ⟨o220, (.slice A227 x215.1.length c228), (.slice A225 x215.2.length c226), rfl, q221, q222, i223, T224⟩⟩
end Go.Proofs.Ythilemcdhkfhlaa
namespace Go.Proofs.Ythilemcdhkfhlaa
open Go Go.RowKit Go.Gc Go.Proofs
def read_Alts_b0 (k : Nat) (p5 : Int) (y80 : List Token) (y83 : List Alt) : Option (((List Token) × (List Alt)) ⊕ ((List Token) × (List Alt))) :=
  if (decide ((0 : Int) < (y80.length : Int))) = true then ((read_reader_definition k y80 p5 y83).bind fun r145 => some (.inl (r145.1, r145.2))) else (some (.inr (y80, y83)))
def read_Alts (k : Nat) (p1 : List Token) (p5 : Int) : Option (List Alt) :=
  (read_reader_definition k p1 p5 ([] : List Alt)).bind fun r27 => (iter (fun (s : ((List Token) × (List Alt))) => read_Alts_b0 k p5 s.1 s.2) k (r27.1, r27.2)).bind fun x168 => some x168.2
theorem read_Alts_calls {k : Nat} {p1 : List Token} {v2 : Value} {p5 : Int} {r : (List Alt)} (h : read_Alts k p1 p5 = some r) {w0 : World} {o0 : Own} (hown : Hown o0)
    (i4 : ((tSlice 183 tyToken (by decide))).im w0 (L o0 0) p1 [v2]) :
    Calls Try.prog 125 #[v2, .int .i64 p5] w0 (fun e w => ∃ (o199 : Own) (z200 : Value), e = .returned (.tuple #[z200, .agg #[.int .i64 (0 : Int), .int .i64 (0 : Int)]]) ∧ Row tyAlt 185 w o199 50 z200 r ∧ Tr (Ls o0 []) w0 o0 w o199) := by
 unfold read_Alts at h
 refine startM_d Try.func125 rfl Try.ntmps125 (show 2 ≤ 27 by decide) fun a M => ?_
 have M : MB 27 [] [(0, v2), (1, .int .i64 p5)] a := M
 obtain ⟨A6, c7, hzc7, -⟩ := im_form i4
 subst hzc7
 have T0 : Tr (Ls o0 []) w0 o0 w0 o0 := Tr.refl _ _ _
 refine c_seq <| c_reg ?_
 obtain ⟨g8, w9, o10, r11, b12, t13⟩ := b_alloc zv_179 a w0 o0 100
 refine ov rfl rfl M (r11 _ _ _ _ _) fun a M => ?_
 obtain ⟨g14, w15, o16, r17, b18, t19⟩ := b_alloc zv_108 a w9 o10 101
 refine ov rfl rfl M (r17 _ _ _ _ _) fun a M => x_end rfl <| q_then <| c_seq <| c_reg <| ov rfl rfl M (x_makeFunc m0 (m2 (M.e 1 rfl) (M.e 0 rfl))) fun a M => x_next (lt rfl) (o_defer rfl (wp0 rfl) (M.e 0 rfl) M.f (fun a f he => ?_))
 have M := M.df f he
 refine x_end rfl <| q_then <| c_seq <| c_reg <| pn (j := 2) E 2 M rfl rfl fun a M => ?_
 have hb20 : ∀ w : World, (Instr.build 220 #[(0, .slice A6 p1.length c7), (1, .int .i64 p5)]).run Try.prog w = .ok (.agg #[.slice A6 p1.length c7, .int .i64 p5, .slice none 0 0]) w := fun w => by go_simp
 refine ov rfl rfl M (x_build (l2 (M.e 1 rfl) (M.e 0 rfl)) hb20) fun a M => ?_
 obtain ⟨g21, w22, o23, r24, b25, t26⟩ := b_box (P := Try.prog) (T := 220) (M.e 0 rfl) w15 o16 102
 refine ov rfl rfl M (r24 _ _ _ _ _) fun a M => pn (j := 5) E 1 M rfl rfl fun a M => x_end rfl <| q_then <| c_seq <| c_seq <| c_reg <| pn (j := 1) E 1 M rfl rfl fun a M => ?_
 have u1 := iN (iN (iN i4 t13) t19) t26
 obtain ⟨r27, hr28, h⟩ := bind_some h
 refine oc rfl (wp0 rfl) rfl rfl M (x_call cf_164 (m1 (M.e 0 rfl))) (read_reader_definition_calls hr28 (lko_own (T := [(0, 0), (102, 1), (103, 2)]) (o := o23) rfl) (sL u1 rfl) (b25.l rfl) ((Row.nil tyAlt 185 w22 o23 103).l rfl rfl)) (fun e2 w29 hp30 => ?_)
 obtain ⟨o33, z31, z32, he34, q35, q36, i37, T38⟩ := hp30
 obtain ⟨o39, ho40⟩ := ex (mrg w22 o23 [(0, 0), (1, 102), (2, 103)] o33)
 have t41 := T38.r ho40 [102, 103] rfl rfl
 have q42 := q35.r T38 ho40 102 rfl rfl
 have q43 := q36.r T38 ho40 103 rfl rfl rfl rfl
 have i44 := iR i37 T38 ho40 rfl rfl
 refine ⟨_, he34, fun a M => ?_⟩
 obtain ⟨A46, c47, hzc47, -⟩ := q43.form
 subst hzc47
 obtain ⟨A48, c49, hzc49, -⟩ := im_form i44
 subst hzc49
 refine x_end rfl <| q_then <| wp_block ?_
 have u7 := ((b12.kn t19).kn t26).km t41 rfl
 have u8 := (((T0.kn t13).kn t19).kn t26).km t41 hown rfl
 obtain ⟨x168, hx169, h⟩ := bind_some h
 refine loop_iter (S := ((List Token) × (List Alt))) (X := ((List Token) × (List Alt))) (fun (s : ((List Token) × (List Alt))) => read_Alts_b0 k p5 s.1 s.2) (fun (s : ((List Token) × (List Alt))) (a : Act) (w : World) => ∃ (o129 : Own) (z81 : Value) (z84 : Value), MB 27 [⟨.fn (.func 163) #[.pointer (some ⟨g8, 0, none⟩), .pointer (some ⟨g14, 0, none⟩)], #[]⟩] [(4, .pointer (some ⟨g8, 0, none⟩)), (5, .pointer (some ⟨g14, 0, none⟩)), (6, .pointer (some ⟨g21, 0, none⟩))] a ∧ Box w o129 100 g8 179 #[.slice none 0 0] ∧ Box w o129 101 g14 108 #[.int .i64 (0 : Int), .int .i64 (0 : Int)] ∧ Box w o129 102 g21 220 #[z81, .int .i64 p5, z84] ∧ Row tyAlt 185 w o129 103 z84 s.2 ∧ (tSlice 183 tyToken (by decide)).im w (L o129 0) s.1 [z81] ∧ Tr (Ls o0 []) w0 o0 w o129) (fun (x : ((List Token) × (List Alt))) (e : Exit) (a : Act) (w : World) => (e = .exit 0 ∧ ∃ (o130 : Own) (z125 : Value) (z128 : Value), MB 27 [⟨.fn (.func 163) #[.pointer (some ⟨g8, 0, none⟩), .pointer (some ⟨g14, 0, none⟩)], #[]⟩] [(4, .pointer (some ⟨g8, 0, none⟩)), (5, .pointer (some ⟨g14, 0, none⟩)), (6, .pointer (some ⟨g21, 0, none⟩))] a ∧ Box w o130 100 g8 179 #[.slice none 0 0] ∧ Box w o130 101 g14 108 #[.int .i64 (0 : Int), .int .i64 (0 : Int)] ∧ Box w o130 102 g21 220 #[z125, .int .i64 p5, z128] ∧ Row tyAlt 185 w o130 103 z128 x.2 ∧ (tSlice 183 tyToken (by decide)).im w (L o130 0) x.1 [z125] ∧ Tr (Ls o0 []) w0 o0 w o130)) ?_ hx169 ⟨o39, (.slice A48 r27.1.length c49), (.slice A46 r27.2.length c47), (M.pk [9, 8, 2] rfl), u7, ((b18.kn t26).km t41 rfl), q42, q43, i44, u8⟩ ?_
 ·rintro ⟨y80, y83⟩ a w131 r132 hI133 h
  replace h : read_Alts_b0 k p5 y80 y83 = some r132 := h
  unfold read_Alts_b0 at h
  obtain ⟨o134, z81, z84, M, q135, q136, q137, q138, i139, T140⟩ := hI133
  obtain ⟨A141, c142, hzc142, -⟩ := q138.form
  subst hzc142
  obtain ⟨A143, c144, hzc144, -⟩ := im_form i139
  subst hzc144
  refine c_seq <| c_seq <| c_reg <| pn (j := 3) E 3 M rfl rfl fun a M => ov rfl rfl M (x_load ld_175 (M.e 0 rfl) (q137.cell (n := 0) rfl)) fun a M => pn (j := 6) E 2 M rfl rfl fun a M => x_end rfl <| q_then ?_
  by_cases hk9 : (decide ((0 : Int) < (y80.length : Int))) = true
  ·rw [if_pos hk9] at h
   have M := M.k 19 rfl hk9
   refine c_true (M.e 0 rfl) <| wp_skip <| q_then <| wp_block <| c_reg <| pn (j := 1) E 1 M rfl rfl fun a M => ?_
   obtain ⟨r145, hr146, h⟩ := bind_some h
   refine oc rfl (wp0 rfl) rfl rfl M (x_call cf_164 (m1 (M.e 0 rfl))) (read_reader_definition_calls hr146 (lko_own (T := [(0, 0), (102, 1), (103, 2)]) (o := o134) rfl) (sL i139 rfl) (q137.l rfl) (q138.l rfl rfl)) (fun e10 w147 hp148 => ?_)
   obtain ⟨o151, z149, z150, he152, q153, q154, i155, T156⟩ := hp148
   obtain ⟨o157, ho158⟩ := ex (mrg w131 o134 [(0, 0), (1, 102), (2, 103)] o151)
   have t159 := T156.r ho158 [102, 103] rfl rfl
   have q160 := q153.r T156 ho158 102 rfl rfl
   have q161 := q154.r T156 ho158 103 rfl rfl rfl rfl
   have i162 := iR i155 T156 ho158 rfl rfl
   refine ⟨_, he152, fun a M => ?_⟩
   obtain ⟨A164, c165, hzc165, -⟩ := q161.form
   subst hzc165
   obtain ⟨A166, c167, hzc167, -⟩ := im_form i162
   subst hzc167
   refine x_end rfl <| q_blk ?_
   obtain rfl := sj h
   have u11 := T140.km t159 hown rfl
   exact lq_next ⟨o157, (.slice A166 r145.1.length c167), (.slice A164 r145.2.length c165), (M.pk [8, 9, 10] rfl), (q135.km t159 rfl), (q136.km t159 rfl), q160, q161, i162, u11⟩
  rw [if_neg hk9] at h
  have hk9 := nott hk9
  have M := M.k 19 rfl hk9
  refine c_false (M.e 0 rfl) <| wp_exit <| q_then_exit ?_
  obtain rfl := sj h
  exact lq_exit ⟨rfl, ⟨o134, (.slice A143 y80.length c144), (.slice A141 y83.length c142), (M.pk [6, 7, 8] rfl), q135, q136, q137, q138, i139, T140⟩⟩
 intro e12 a w170 hO171
 obtain ⟨he172, hO171⟩ := hO171
 subst he172
 obtain ⟨o173, z125, z128, M, q174, q175, q176, q177, i178, T179⟩ := hO171
 obtain ⟨A180, c181, hzc181, -⟩ := q177.form
 subst hzc181
 obtain ⟨A182, c183, hzc183, -⟩ := im_form i178
 subst hzc183
 refine q_blk_here <| q_then <| c_seq <| c_reg <| pn (j := 3) E 3 M rfl rfl fun a M => ov rfl rfl M (x_load ld_179 (M.e 0 rfl) (q176.cell (n := 2) rfl)) fun a M => ?_
 have hb184 : ∀ w : World, (Instr.build 108 #[]).run Try.prog w = .ok (.agg #[.int .i64 (0 : Int), .int .i64 (0 : Int)]) w := fun w => by go_simp
 refine ov rfl rfl M (x_build l0 hb184) fun a M => ?_
 obtain ⟨w185, r186, b187, t188⟩ := b_store (P := Try.prog) st_179 (M.e 5 rfl) (M.e 1 rfl) q174 (show 0 < 1 by decide) rfl rfl
 have b187 : Box w185 o173 100 g8 179 #[.slice A180 x168.2.length c181] := b187
 refine os rfl (wp0 rfl) rfl (r186 _ _ _ _ _) ?_
 obtain ⟨w189, r190, b191, t192⟩ := b_storeN (P := Try.prog) (all' := #[.int .i64 (0 : Int), .int .i64 (0 : Int)]) (.inr trivial) (stn_108 _ rfl) (M.e 6 rfl) (M.e 0 rfl) (q175.kk t188 rfl) (show 2 ≤ 2 by decide) (by simp [Value.oneCell']) rfl
 have b191 : Box w189 o173 101 g14 108 #[.int .i64 (0 : Int), .int .i64 (0 : Int)] := b191
 refine os rfl (wp0 rfl) rfl (r190 _ _ _ _ _) <| x_end rfl <| q_then <| wp_ret ?_
 have u13 := b187.kk t192 rfl
 have u14 := (q177.kk t188 rfl rfl).kk t192 rfl rfl
 have u15 := (T179.kk t188 hown rfl).kk t192 hown rfl
 obtain ⟨o193, ho194⟩ := ex (lro [(103, 50)] o173)
 have T195 := u15.kw hown ho194 rfl
 have q196 := u13.kw ho194 100 rfl
 have q197 := b191.kw ho194 101 rfl
 have q198 := u14.kw ho194 50 rfl rfl
 obtain rfl := sj h
 exact (show Leaves _ _ _ _ _ _ _ by rw [M.f.defers]; exact leave_one cf_163 (idles_163 _ _) (res2 Try.results125 (rv_cell ld_179 (M.t 5 rfl) (q196.cell (n := 0) rfl)) (rv_cellN (ldn_108 _ rfl) (M.t 6 rfl) (q197.sub (cs := #[.int .i64 (0 : Int), .int .i64 (0 : Int)]) 0 rfl))) ⟨o193, (.slice A180 x168.2.length c181), rfl, q198, T195⟩)
end Go.Proofs.Ythilemcdhkfhlaa
namespace Go.Proofs.Ythilemcdhkfhlaa
open Go Go.RowKit Go.Gc Go.Proofs
def grammar_Of_b1 (k : Nat) (x554 : Alt) (y644 : Int) (y645 : List ByteArray) : Option ((Int × (List ByteArray)) ⊕ (List ByteArray)) :=
  if (decide (y644 < (x554.right.length : Int))) = true then ((at? x554.right y644).bind fun x716 => if (x716.kind == (2 : Int)) = true then ((grammar_added_1 k x716.text y645).bind fun r736 => some (.inl (IntKind.wrap .i64 (y644 + (1 : Int)), r736))) else (some (.inl (IntKind.wrap .i64 (y644 + (1 : Int)), y645)))) else (some (.inr y645))
def grammar_Of_b0 (k : Nat) (r50 : (List Alt)) (y298 : Int) (y299 : List ByteArray) (y301 : List ByteArray) : Option ((Int × (List ByteArray) × (List ByteArray)) ⊕ ((List ByteArray) × (List ByteArray))) :=
  if (decide (y298 < (r50.length : Int))) = true then ((at? r50 y298).bind fun x554 => (grammar_added_1 k x554.left.text y301).bind fun r578 => (iter (fun (s : (Int × (List ByteArray))) => grammar_Of_b1 k x554 s.1 s.2) k ((0 : Int), y299)).bind fun x755 => some (.inl (IntKind.wrap .i64 (y298 + (1 : Int)), x755, r578))) else (some (.inr (y299, y301)))
def grammar_Of_b2 (k : Nat) (r50 : (List Alt)) (x769 : ((List ByteArray) × (List ByteArray))) (y881 : Int) (y882 : List Rule) : Option ((Int × (List Rule)) ⊕ (List Rule)) :=
  if (decide (y881 < (r50.length : Int))) = true then ((at? r50 y881).bind fun x1004 => (grammar_numbered k (⟨x769.1, x769.2, y882⟩ : Grammar) x1004).bind fun r1028 => (grammar_has k y882 (⟨r1028.1, r1028.2⟩ : Rule)).bind fun r1053 => if (!r1053) = true then (if y882.length + [(⟨r1028.1, r1028.2⟩ : Rule)].length ≤ 1000000000 then (some (.inl (IntKind.wrap .i64 (y881 + (1 : Int)), y882 ++ [(⟨r1028.1, r1028.2⟩ : Rule)]))) else none) else (some (.inl (IntKind.wrap .i64 (y881 + (1 : Int)), y882)))) else (some (.inr y882))
def grammar_Of (k : Nat) (p1 : ByteArray) : Option ((List ByteArray) × (List ByteArray) × (List Rule)) :=
  (lex_Tokens k p1).bind fun r14 => (grammar_check k (⟨r14.1, (0 : Int)⟩ : Fault)).bind fun r33 => (read_Alts k r14.2 (p1.size : Int)).bind fun r50 => (grammar_check k (⟨(0 : Int), (0 : Int)⟩ : Fault)).bind fun r69 => (iter (fun (s : (Int × (List ByteArray) × (List ByteArray))) => grammar_Of_b0 k r50 s.1 s.2.1 s.2.2) k ((0 : Int), [], [])).bind fun x769 => (iter (fun (s : (Int × (List Rule))) => grammar_Of_b2 k r50 x769 s.1 s.2) k ((0 : Int), [])).bind fun x1094 => if (decide ((40 : Int) < (x769.2.length : Int))) = true then ((grammar_check k (⟨(14 : Int), (0 : Int)⟩ : Fault)).bind fun r1109 => some (x769.1, x769.2, x1094)) else (if (decide ((40 : Int) < (x769.1.length : Int))) = true then ((grammar_check k (⟨(14 : Int), (0 : Int)⟩ : Fault)).bind fun r1137 => some (x769.1, x769.2, x1094)) else (some (x769.1, x769.2, x1094)))
theorem grammar_Of_calls {k : Nat} {p1 : ByteArray} {r : ((List ByteArray) × (List ByteArray) × (List Rule))} (h : grammar_Of k p1 = some r) {w0 : World} {o0 : Own} (hown : Hown o0) :
    Calls Try.prog 78 #[.string p1] w0 (fun e w => ∃ (o1181 : Own) (z1182 : Value) (z1184 : Value) (z1186 : Value), e = .returned (.tuple #[.agg #[z1182, z1184, z1186], .agg #[.int .i64 (0 : Int), .int .i64 (0 : Int)]]) ∧ Row tStr 9 w o1181 50 z1182 r.1 ∧ Row tStr 9 w o1181 51 z1184 r.2.1 ∧ Row tyRule 28 w o1181 52 z1186 r.2.2 ∧ Tr (Ls o0 []) w0 o0 w o1181) := by
 unfold grammar_Of at h
 refine startM_d Try.func78 rfl Try.ntmps78 (show 1 ≤ 96 by decide) fun a M => ?_
 have M : MB 96 [] [(0, .string p1)] a := M
 have T0 : Tr (Ls o0 []) w0 o0 w0 o0 := Tr.refl _ _ _
 refine c_seq <| c_reg ?_
 obtain ⟨g2, w3, o4, r5, b6, t7⟩ := b_alloc zv_25 a w0 o0 100
 refine ov rfl rfl M (r5 _ _ _ _ _) fun a M => ?_
 obtain ⟨g8, w9, o10, r11, b12, t13⟩ := b_alloc zv_108 a w3 o4 101
 refine ov rfl rfl M (r11 _ _ _ _ _) fun a M => x_end rfl <| q_then <| c_seq <| c_reg <| ov rfl rfl M (x_makeFunc m0 (m2 (M.e 1 rfl) (M.e 0 rfl))) fun a M => x_next (lt rfl) (o_defer rfl (wp0 rfl) (M.e 0 rfl) M.f (fun a f he => ?_))
 have M := M.df f he
 refine x_end rfl <| q_then <| c_seq <| c_reg <| pn (j := 1) E 1 M rfl rfl fun a M => ?_
 obtain ⟨r14, hr15, h⟩ := bind_some h
 refine oc rfl (wp0 rfl) rfl rfl M (x_call cf_123 (m1 (M.e 0 rfl))) (lex_Tokens_calls hr15 (lko_own (T := [(0, 0)]) (o := o10) rfl)) (fun e1 w16 hp17 => ?_)
 obtain ⟨o19, z18, he20, q21, T22⟩ := hp17
 obtain ⟨o23, ho24⟩ := ex (mrg w9 o10 [(0, 0), (50, 102)] o19)
 have t25 := T22.r0 ho24
 have q26 := q21.r T22 ho24 102 rfl rfl rfl rfl
 refine ⟨_, he20, fun a M => ?_⟩
 obtain ⟨A27, c28, hzc28, -⟩ := q26.form
 subst hzc28
 refine pn (j := 6) E 4 M rfl rfl fun a M => ?_
 obtain ⟨w29, r30, b31, t32⟩ := b_storeN (P := Try.prog) (all' := #[.int .i64 r14.1, .int .i64 (0 : Int)]) (.inr trivial) (stn_108 _ rfl) (M.e 7 rfl) (M.e 1 rfl) (b12.kn t25) (show 2 ≤ 2 by decide) (by simp [Value.oneCell']) rfl
 have b31 : Box w29 o23 101 g8 108 #[.int .i64 r14.1, .int .i64 (0 : Int)] := b31
 refine os rfl (wp0 rfl) rfl (r30 _ _ _ _ _) <| x_end rfl <| q_then <| c_seq <| c_reg <| ov rfl rfl M (x_loadN (ldn_108 _ rfl) (M.e 7 rfl) (b31.sub (cs := #[.int .i64 r14.1, .int .i64 (0 : Int)]) 0 rfl)) fun a M => ?_
 obtain ⟨r33, hr34, h⟩ := bind_some h
 refine oc rfl (wp0 rfl) rfl rfl M (x_call cf_124 (m1 (M.e 0 rfl))) (grammar_check_calls hr34 (lko_own (T := [(0, 0)]) (o := o23) rfl)) (fun e2 w35 hp36 => ?_)
 obtain ⟨o37, he38, T39⟩ := hp36
 obtain ⟨o40, ho41⟩ := ex (mrg w29 o23 [(0, 0)] o37)
 have t42 := T39.r0 ho41
 refine ⟨_, he38, fun a M => ?_⟩
 refine x_end rfl <| q_then <| c_seq <| c_reg <| pn (j := 3) E 3 M rfl rfl fun a M => ?_
 have u3 := (((b6.kn t13).kn t25).kk t32 rfl).kn t42
 have u4 := b31.kn t42
 have u5 := (q26.kk t32 rfl rfl).kn t42
 have u6 := ((((T0.kn t7).kn t13).kn t25).kk t32 hown rfl).kn t42
 obtain ⟨o43, ho44⟩ := ex (lro [(102, 0)] o40)
 have T45 := u6.kw hown ho44 rfl
 have q46 := u3.kw ho44 100 rfl
 have q47 := u4.kw ho44 101 rfl
 have q48 := u5.kz (hE := by decide) ho44 rfl rfl
 obtain ⟨r50, hr51, h⟩ := bind_some h
 refine oc rfl (wp0 rfl) rfl rfl M (x_call cf_125 (m2 (M.e 2 rfl) (M.e 0 rfl))) (read_Alts_calls hr51 (lko_own (T := [(0, 0)]) (o := o43) rfl) (sL q48 rfl)) (fun e7 w52 hp53 => ?_)
 obtain ⟨o55, z54, he56, q57, T58⟩ := hp53
 obtain ⟨o59, ho60⟩ := ex (mrg w35 o43 [(0, 0), (50, 102)] o55)
 have t61 := T58.r0 ho60
 have q62 := q57.r T58 ho60 102 rfl rfl rfl rfl
 refine ⟨_, he56, fun a M => ?_⟩
 obtain ⟨A63, c64, hzc64, -⟩ := q62.form
 subst hzc64
 refine pn (j := 8) E 4 M rfl rfl fun a M => ?_
 obtain ⟨w65, r66, b67, t68⟩ := b_storeN (P := Try.prog) (all' := #[.int .i64 (0 : Int), .int .i64 (0 : Int)]) (.inr trivial) (stn_108 _ rfl) (M.e 17 rfl) (M.e 1 rfl) (q47.kn t61) (show 2 ≤ 2 by decide) (by simp [Value.oneCell']) rfl
 have b67 : Box w65 o59 101 g8 108 #[.int .i64 (0 : Int), .int .i64 (0 : Int)] := b67
 refine os rfl (wp0 rfl) rfl (r66 _ _ _ _ _) <| x_end rfl <| q_then <| c_seq <| c_reg <| ov rfl rfl M (x_loadN (ldn_108 _ rfl) (M.e 17 rfl) (b67.sub (cs := #[.int .i64 (0 : Int), .int .i64 (0 : Int)]) 0 rfl)) fun a M => ?_
 obtain ⟨r69, hr70, h⟩ := bind_some h
 refine oc rfl (wp0 rfl) rfl rfl M (x_call cf_124 (m1 (M.e 0 rfl))) (grammar_check_calls hr70 (lko_own (T := [(0, 0)]) (o := o59) rfl)) (fun e8 w71 hp72 => ?_)
 obtain ⟨o73, he74, T75⟩ := hp72
 obtain ⟨o76, ho77⟩ := ex (mrg w65 o59 [(0, 0)] o73)
 have t78 := T75.r0 ho77
 refine ⟨_, he74, fun a M => ?_⟩
 refine x_end rfl <| q_then <| c_seq <| c_seq <| c_reg <| pn (j := 3) E 3 M rfl rfl fun a M => x_end rfl <| q_then <| wp_block ?_
 have u70 := ((q46.kn t61).kk t68 rfl).kn t78
 have u71 := ((T45.kn t61).kk t68 hown rfl).kn t78
 obtain ⟨x769, hx770, h⟩ := bind_some h
 refine loop_iter (S := (Int × (List ByteArray) × (List ByteArray))) (X := ((List ByteArray) × (List ByteArray))) (fun (s : (Int × (List ByteArray) × (List ByteArray))) => grammar_Of_b0 k r50 s.1 s.2.1 s.2.2) (fun (s : (Int × (List ByteArray) × (List ByteArray))) (a : Act) (w : World) => ∃ (o538 : Own) (z300 : Value) (z302 : Value), MB 96 [⟨.fn (.func 122) #[.pointer (some ⟨g2, 0, none⟩), .pointer (some ⟨g8, 0, none⟩)], #[]⟩] [(2, .pointer (some ⟨g2, 0, none⟩)), (3, .pointer (some ⟨g8, 0, none⟩)), (5, .slice A63 r50.length c64), (30, .slice A63 r50.length c64), (31, .int .i64 (r50.length : Int)), (32, .int .i64 s.1)] a ∧ Box w o538 100 g2 25 #[z300, z302, .slice none 0 0] ∧ Box w o538 101 g8 108 #[.int .i64 (0 : Int), .int .i64 (0 : Int)] ∧ Row tyAlt 185 w o538 102 (.slice A63 r50.length c64) r50 ∧ Row tStr 9 w o538 105 z300 s.2.1 ∧ Row tStr 9 w o538 104 z302 s.2.2 ∧ Tr (Ls o0 []) w0 o0 w o538) (fun (x : ((List ByteArray) × (List ByteArray))) (e : Exit) (a : Act) (w : World) => (e = .exit 0 ∧ ∃ (o539 : Own) (z535 : Value) (z537 : Value), MB 96 [⟨.fn (.func 122) #[.pointer (some ⟨g2, 0, none⟩), .pointer (some ⟨g8, 0, none⟩)], #[]⟩] [(2, .pointer (some ⟨g2, 0, none⟩)), (3, .pointer (some ⟨g8, 0, none⟩)), (5, .slice A63 r50.length c64)] a ∧ Box w o539 100 g2 25 #[z535, z537, .slice none 0 0] ∧ Box w o539 101 g8 108 #[.int .i64 (0 : Int), .int .i64 (0 : Int)] ∧ Row tyAlt 185 w o539 102 (.slice A63 r50.length c64) r50 ∧ Row tStr 9 w o539 105 z535 x.1 ∧ Row tStr 9 w o539 104 z537 x.2 ∧ Tr (Ls o0 []) w0 o0 w o539)) ?_ hx770 ⟨o76, (.slice none 0 0), (.slice none 0 0), (M.pk [23, 22, 5, 2, 1, 0] rfl), u70, (b67.kn t78), ((q62.kk t68 rfl rfl).kn t78), (Row.nil tStr 9 w71 o76 105), (Row.nil tStr 9 w71 o76 104), u71⟩ ?_
 ·rintro ⟨y298, y299, y301⟩ a w540 r541 hI542 h
  replace h : grammar_Of_b0 k r50 y298 y299 y301 = some r541 := h
  unfold grammar_Of_b0 at h
  obtain ⟨o543, z300, z302, M, q544, q545, q546, q547, q548, T549⟩ := hI542
  obtain ⟨A550, c551, hzc551, -⟩ := q547.form
  subst hzc551
  obtain ⟨A552, c553, hzc553, -⟩ := q548.form
  subst hzc553
  refine c_seq <| c_reg <| pn (j := 1) E 1 M rfl rfl fun a M => x_end rfl <| q_then <| c_seq ?_
  by_cases hk73 : (decide (y298 < (r50.length : Int))) = true
  ·rw [if_pos hk73] at h
   have M := M.k 33 rfl hk73
   refine c_true (M.e 0 rfl) <| wp_skip <| q_then <| c_seq <| wp_block <| c_seq <| c_reg ?_
   obtain ⟨x554, hx555, h⟩ := bind_some h
   obtain ⟨hx5550, hx5551, hx5552⟩ := at_some hx555
   obtain ⟨g556, f557, c558, ds559, hv560, hd561, he562⟩ := Row.elem q546 hx5551
   obtain ⟨A563, c564, rfl, i565⟩ := Alt_open hd561
   have he562 : ElemAt w540 o543 102 g556 f557 (y298).toNat 4 [.int .i64 x554.left.kind, .string x554.left.text, .int .i64 x554.left.at_, .slice A563 x554.right.length c564] := he562
   refine ov rfl rfl M (x_indexAddr Try.underlying179 sz_185 ((M.e 4 rfl).trans hv560) (M.e 6 rfl) hx5550 hx5552) fun a M => ov rfl rfl M (x_loadN (ldn_185 _ rfl) (M.e 0 rfl) he562.all) fun a M => ?_
   obtain ⟨g568, w569, o570, r571, b572, t573⟩ := b_alloc zv_185 a w540 o543 103
   refine ov rfl rfl M (r571 _ _ _ _ _) fun a M => ?_
   obtain ⟨w574, r575, b576, t577⟩ := b_storeN (P := Try.prog) (all' := #[.int .i64 x554.left.kind, .string x554.left.text, .int .i64 x554.left.at_, .slice A563 x554.right.length c564]) (.inr trivial) (stn_185 _ rfl) (M.e 0 rfl) (M.e 1 rfl) b572 (show 4 ≤ 4 by decide) (by simp [Value.oneCell']) rfl
   have b576 : Box w574 o570 103 g568 185 #[.int .i64 x554.left.kind, .string x554.left.text, .int .i64 x554.left.at_, .slice A563 x554.right.length c564] := b576
   refine os rfl (wp0 rfl) rfl (r575 _ _ _ _ _) <| x_end rfl <| q_then <| c_seq <| c_reg <| pn (j := 1) E 1 M rfl rfl fun a M => ov rfl rfl M (x_load ld_22 (M.e 0 rfl) (((q544.kn t573).kk t577 rfl).cell (n := 1) rfl)) fun a M => pn (j := 4) E 2 M rfl rfl fun a M => ov rfl rfl M (x_load ld_9 (M.e 0 rfl) (b576.cell (n := 1) rfl)) fun a M => ?_
   obtain ⟨r578, hr579, h⟩ := bind_some h
   refine oc rfl (wp0 rfl) rfl rfl M (x_call cf_126 (m2 (M.e 3 rfl) (M.e 0 rfl))) (grammar_added_1_calls hr579 (lko_own (T := [(0, 0), (104, 1)]) (o := o570) rfl) (((q548.kn t573).kk t577 rfl rfl).l rfl rfl)) (fun e74 w580 hp581 => ?_)
   obtain ⟨o583, z582, he584, q585, T586⟩ := hp581
   obtain ⟨o587, ho588⟩ := ex (mrg w574 o570 [(0, 0), (1, 104)] o583)
   have t589 := T586.r1 ho588 104 rfl rfl
   have q590 := q585.r T586 ho588 104 rfl rfl rfl rfl
   refine ⟨_, he584, fun a M => ?_⟩
   obtain ⟨A591, c592, hzc592, -⟩ := q590.form
   subst hzc592
   refine pn (j := 7) E 1 M rfl rfl fun a M => ?_
   have u75 := ((q544.kn t573).kk t577 rfl).kk t589 rfl
   obtain ⟨w593, r594, b595, t596⟩ := b_store (P := Try.prog) st_22 (M.e 0 rfl) (M.e 1 rfl) u75 (show 1 < 3 by decide) rfl rfl
   have b595 : Box w593 o587 100 g2 25 #[.slice A550 y299.length c551, .slice A591 r578.length c592, .slice none 0 0] := b595
   refine os rfl (wp0 rfl) rfl (r594 _ _ _ _ _) <| x_end rfl <| q_then <| c_seq <| c_reg <| pn (j := 1) E 1 M rfl rfl fun a M => ov rfl rfl M (x_load ld_175 (M.e 0 rfl) (((b576.kk t589 rfl).kk t596 rfl).cell (n := 3) rfl)) fun a M => pn (j := 4) E 2 M rfl rfl fun a M => x_end rfl <| q_then <| wp_block ?_
   have u86 := iK (iK (iK (iN i565 t573) t577 rfl) t589 rfl) t596 rfl
   have u87 := (((q545.kn t573).kk t577 rfl).kk t589 rfl).kk t596 rfl
   have u88 := (((q546.kn t573).kk t577 rfl rfl).kk t589 rfl rfl).kk t596 rfl rfl
   have u89 := (((q547.kn t573).kk t577 rfl rfl).kk t589 rfl rfl).kk t596 rfl rfl
   have u90 := (((T549.kn t573).kk t577 hown rfl).kk t589 hown rfl).kk t596 hown rfl
   obtain ⟨x755, hx756, h⟩ := bind_some h
   refine loop_iter (S := (Int × (List ByteArray))) (X := (List ByteArray)) (fun (s : (Int × (List ByteArray))) => grammar_Of_b1 k x554 s.1 s.2) (fun (s : (Int × (List ByteArray))) (a : Act) (w : World) => ∃ (o701 : Own) (z646 : Value), MB 96 [⟨.fn (.func 122) #[.pointer (some ⟨g2, 0, none⟩), .pointer (some ⟨g8, 0, none⟩)], #[]⟩] [(2, .pointer (some ⟨g2, 0, none⟩)), (3, .pointer (some ⟨g8, 0, none⟩)), (5, .slice A63 r50.length c64), (30, .slice A63 r50.length c64), (31, .int .i64 (r50.length : Int)), (32, .int .i64 y298), (44, .slice A563 x554.right.length c564), (45, .int .i64 (x554.right.length : Int)), (46, .int .i64 s.1)] a ∧ Box w o701 100 g2 25 #[z646, .slice A591 r578.length c592, .slice none 0 0] ∧ Box w o701 101 g8 108 #[.int .i64 (0 : Int), .int .i64 (0 : Int)] ∧ Row tyAlt 185 w o701 102 (.slice A63 r50.length c64) r50 ∧ Row tStr 9 w o701 105 z646 s.2 ∧ Row tStr 9 w o701 104 (.slice A591 r578.length c592) r578 ∧ ((tSlice 183 tyToken (by decide))).im w (L o701 0) x554.right [.slice A563 x554.right.length c564] ∧ Tr (Ls o0 []) w0 o0 w o701) (fun (x : (List ByteArray)) (e : Exit) (a : Act) (w : World) => (e = .exit 2 ∧ ∃ (o702 : Own) (z700 : Value), MB 96 [⟨.fn (.func 122) #[.pointer (some ⟨g2, 0, none⟩), .pointer (some ⟨g8, 0, none⟩)], #[]⟩] [(2, .pointer (some ⟨g2, 0, none⟩)), (3, .pointer (some ⟨g8, 0, none⟩)), (5, .slice A63 r50.length c64), (30, .slice A63 r50.length c64), (31, .int .i64 (r50.length : Int)), (32, .int .i64 y298)] a ∧ Box w o702 100 g2 25 #[z700, .slice A591 r578.length c592, .slice none 0 0] ∧ Box w o702 101 g8 108 #[.int .i64 (0 : Int), .int .i64 (0 : Int)] ∧ Row tyAlt 185 w o702 102 (.slice A63 r50.length c64) r50 ∧ Row tStr 9 w o702 105 z700 x ∧ Row tStr 9 w o702 104 (.slice A591 r578.length c592) r578 ∧ Tr (Ls o0 []) w0 o0 w o702)) ?_ hx756 ⟨o587, (.slice A550 y299.length c551), (M.pk [15, 16, 17, 18, 19, 20, 2, 1, 0] rfl), b595, u87, u88, u89, (q590.kk t596 rfl rfl), u86, u90⟩ ?_
   ·rintro ⟨y644, y645⟩ a w703 r704 hI705 h
    replace h : grammar_Of_b1 k x554 y644 y645 = some r704 := h
    unfold grammar_Of_b1 at h
    obtain ⟨o706, z646, M, q707, q708, q709, q710, q711, i712, T713⟩ := hI705
    obtain ⟨A714, c715, hzc715, -⟩ := q710.form
    subst hzc715
    refine c_seq <| c_reg <| pn (j := 1) E 1 M rfl rfl fun a M => x_end rfl <| q_then <| c_seq ?_
    by_cases hk92 : (decide (y644 < (x554.right.length : Int))) = true
    ·rw [if_pos hk92] at h
     have M := M.k 47 rfl hk92
     refine c_true (M.e 0 rfl) <| wp_skip <| q_then <| c_seq <| wp_block <| c_seq <| c_reg ?_
     obtain ⟨x716, hx717, h⟩ := bind_some h
     obtain ⟨hx7170, hx7171, hx7172⟩ := at_some hx717
     obtain ⟨g718, f719, c720, ds721, hv722, hd723, he724⟩ := im_elem i712 hx7171
     have hsds721 := Token_open hd723
     subst hsds721
     have he724 : ElemAt w703 o706 0 g718 f719 (y644).toNat 3 [.int .i64 x716.kind, .string x716.text, .int .i64 x716.at_] := he724
     refine ov rfl rfl M (x_indexAddr Try.underlying175 sz_183 ((M.e 7 rfl).trans hv722) (M.e 9 rfl) hx7170 hx7172) fun a M => ov rfl rfl M (x_loadN (ldn_183 _ rfl) (M.e 0 rfl) he724.all) fun a M => ?_
     obtain ⟨g726, w727, o728, r729, b730, t731⟩ := b_alloc zv_183 a w703 o706 103
     refine ov rfl rfl M (r729 _ _ _ _ _) fun a M => ?_
     obtain ⟨w732, r733, b734, t735⟩ := b_storeN (P := Try.prog) (all' := #[.int .i64 x716.kind, .string x716.text, .int .i64 x716.at_]) (.inr trivial) (stn_183 _ rfl) (M.e 0 rfl) (M.e 1 rfl) b730 (show 3 ≤ 3 by decide) (by simp [Value.oneCell']) rfl
     have b734 : Box w732 o728 103 g726 183 #[.int .i64 x716.kind, .string x716.text, .int .i64 x716.at_] := b734
     refine os rfl (wp0 rfl) rfl (r733 _ _ _ _ _) <| x_end rfl <| q_then <| c_seq <| c_reg <| pn (j := 1) E 1 M rfl rfl fun a M => ov rfl rfl M (x_load ld_3 (M.e 0 rfl) (b734.cell (n := 0) rfl)) fun a M => pn (j := 3) E 1 M rfl rfl fun a M => x_end rfl <| q_then ?_
     by_cases hk93 : (x716.kind == (2 : Int)) = true
     ·rw [if_pos hk93] at h
      have M := M.k 52 rfl hk93
      refine c_true (M.e 0 rfl) <| c_reg <| pn (j := 1) E 1 M rfl rfl fun a M => ov rfl rfl M (x_load ld_22 (M.e 0 rfl) (((q707.kn t731).kk t735 rfl).cell (n := 0) rfl)) fun a M => pn (j := 3) E 1 M rfl rfl fun a M => ov rfl rfl M (x_load ld_9 (M.e 0 rfl) (b734.cell (n := 1) rfl)) fun a M => ?_
      obtain ⟨r736, hr737, h⟩ := bind_some h
      refine oc rfl (wp0 rfl) rfl rfl M (x_call cf_126 (m2 (M.e 2 rfl) (M.e 0 rfl))) (grammar_added_1_calls hr737 (lko_own (T := [(0, 0), (105, 1)]) (o := o728) rfl) (((q710.kn t731).kk t735 rfl rfl).l rfl rfl)) (fun e94 w738 hp739 => ?_)
      obtain ⟨o741, z740, he742, q743, T744⟩ := hp739
      obtain ⟨o745, ho746⟩ := ex (mrg w732 o728 [(0, 0), (1, 105)] o741)
      have t747 := T744.r1 ho746 105 rfl rfl
      have q748 := q743.r T744 ho746 105 rfl rfl rfl rfl
      refine ⟨_, he742, fun a M => ?_⟩
      obtain ⟨A749, c750, hzc750, -⟩ := q748.form
      subst hzc750
      refine pn (j := 6) E 1 M rfl rfl fun a M => ?_
      have u95 := ((q707.kn t731).kk t735 rfl).kk t747 rfl
      obtain ⟨w751, r752, b753, t754⟩ := b_store (P := Try.prog) st_22 (M.e 0 rfl) (M.e 1 rfl) u95 (show 0 < 3 by decide) rfl rfl
      have b753 : Box w751 o745 100 g2 25 #[.slice A749 r736.length c750, .slice A591 r578.length c592, .slice none 0 0] := b753
      refine os rfl (wp0 rfl) rfl (r752 _ _ _ _ _) <| x_end rfl <| q_blk <| q_then <| c_reg <| pn (j := 1) E 1 M rfl rfl fun a M => ?_
      have M := M.pk [0, 14, 15, 16, 17, 18, 19, 20, 21] rfl
      refine pn (j := 2) E 1 M rfl rfl fun a M => x_end rfl ?_
      obtain rfl := sj h
      have u96 := iK (iK (iK (iN i712 t731) t735 rfl) t747 rfl) t754 rfl
      have u97 := (((q708.kn t731).kk t735 rfl).kk t747 rfl).kk t754 rfl
      have u98 := (((q709.kn t731).kk t735 rfl rfl).kk t747 rfl rfl).kk t754 rfl rfl
      have u99 := (((q711.kn t731).kk t735 rfl rfl).kk t747 rfl rfl).kk t754 rfl rfl
      have u100 := (((T713.kn t731).kk t735 hown rfl).kk t747 hown rfl).kk t754 hown rfl
      exact lq_next ⟨o745, (.slice A749 r736.length c750), (M.pk [2, 3, 4, 5, 6, 7, 8, 9, 0] rfl), b753, u97, u98, (q748.kk t754 rfl rfl), u99, u96, u100⟩
     rw [if_neg hk93] at h
     have hk93 := nott hk93
     have M := M.k 52 rfl hk93
     refine c_false (M.e 0 rfl) <| wp_skip <| q_blk <| q_then <| c_reg <| pn (j := 1) E 1 M rfl rfl fun a M => ?_
     have M := M.pk [0, 8, 9, 10, 11, 12, 13, 14, 15] rfl
     refine pn (j := 2) E 1 M rfl rfl fun a M => x_end rfl ?_
     obtain rfl := sj h
     have u101 := (T713.kn t731).kk t735 hown rfl
     exact lq_next ⟨o728, (.slice A714 y645.length c715), (M.pk [2, 3, 4, 5, 6, 7, 8, 9, 0] rfl), ((q707.kn t731).kk t735 rfl), ((q708.kn t731).kk t735 rfl), ((q709.kn t731).kk t735 rfl rfl), ((q710.kn t731).kk t735 rfl rfl), ((q711.kn t731).kk t735 rfl rfl), (iK (iN i712 t731) t735 rfl), u101⟩
    rw [if_neg hk92] at h
    have hk92 := nott hk92
    have M := M.k 47 rfl hk92
    refine c_false (M.e 0 rfl) <| wp_exit <| q_then_exit ?_
    obtain rfl := sj h
    exact lq_exit ⟨rfl, ⟨o706, (.slice A714 y645.length c715), (M.pk [1, 2, 3, 4, 5, 6] rfl), q707, q708, q709, q710, q711, T713⟩⟩
   intro e102 a w757 hO758
   obtain ⟨he759, hO758⟩ := hO758
   subst he759
   obtain ⟨o760, z700, M, q761, q762, q763, q764, q765, T766⟩ := hO758
   obtain ⟨A767, c768, hzc768, -⟩ := q764.form
   subst hzc768
   refine q_blk_here <| q_blk <| q_then <| c_reg <| pn (j := 1) E 1 M rfl rfl fun a M => ?_
   have M := M.pk [0, 1, 2, 3, 4, 5] rfl
   refine pn (j := 2) E 1 M rfl rfl fun a M => x_end rfl ?_
   obtain rfl := sj h
   exact lq_next ⟨o760, (.slice A767 x755.length c768), (.slice A591 r578.length c592), (M.pk [2, 3, 4, 5, 6, 0] rfl), q761, q762, q763, q764, q765, T766⟩
  rw [if_neg hk73] at h
  have hk73 := nott hk73
  have M := M.k 33 rfl hk73
  refine c_false (M.e 0 rfl) <| wp_exit <| q_then_exit ?_
  obtain rfl := sj h
  exact lq_exit ⟨rfl, ⟨o543, (.slice A550 y299.length c551), (.slice A552 y301.length c553), (M.pk [1, 2, 3] rfl), q544, q545, q546, q547, q548, T549⟩⟩
 intro e103 a w771 hO772
 obtain ⟨he773, hO772⟩ := hO772
 subst he773
 obtain ⟨o774, z535, z537, M, q775, q776, q777, q778, q779, T780⟩ := hO772
 obtain ⟨A781, c782, hzc782, -⟩ := q778.form
 subst hzc782
 obtain ⟨A783, c784, hzc784, -⟩ := q779.form
 subst hzc784
 refine q_blk_here <| q_then <| c_seq <| c_seq <| c_reg <| pn (j := 3) E 3 M rfl rfl fun a M => x_end rfl <| q_then <| wp_block ?_
 obtain ⟨x1094, hx1095, h⟩ := bind_some h
 refine loop_iter (S := (Int × (List Rule))) (X := (List Rule)) (fun (s : (Int × (List Rule))) => grammar_Of_b2 k r50 x769 s.1 s.2) (fun (s : (Int × (List Rule))) (a : Act) (w : World) => ∃ (o989 : Own) (z883 : Value), MB 96 [⟨.fn (.func 122) #[.pointer (some ⟨g2, 0, none⟩), .pointer (some ⟨g8, 0, none⟩)], #[]⟩] [(2, .pointer (some ⟨g2, 0, none⟩)), (3, .pointer (some ⟨g8, 0, none⟩)), (61, .slice A63 r50.length c64), (62, .int .i64 (r50.length : Int)), (63, .int .i64 s.1)] a ∧ Box w o989 100 g2 25 #[.slice A781 x769.1.length c782, .slice A783 x769.2.length c784, z883] ∧ Box w o989 101 g8 108 #[.int .i64 (0 : Int), .int .i64 (0 : Int)] ∧ Row tyAlt 185 w o989 102 (.slice A63 r50.length c64) r50 ∧ Row tStr 9 w o989 105 (.slice A781 x769.1.length c782) x769.1 ∧ Row tStr 9 w o989 104 (.slice A783 x769.2.length c784) x769.2 ∧ Row tyRule 28 w o989 106 z883 s.2 ∧ Tr (Ls o0 []) w0 o0 w o989) (fun (x : (List Rule)) (e : Exit) (a : Act) (w : World) => (e = .exit 4 ∧ ∃ (o990 : Own) (z988 : Value), MB 96 [⟨.fn (.func 122) #[.pointer (some ⟨g2, 0, none⟩), .pointer (some ⟨g8, 0, none⟩)], #[]⟩] [(2, .pointer (some ⟨g2, 0, none⟩)), (3, .pointer (some ⟨g8, 0, none⟩))] a ∧ Box w o990 100 g2 25 #[.slice A781 x769.1.length c782, .slice A783 x769.2.length c784, z988] ∧ Box w o990 101 g8 108 #[.int .i64 (0 : Int), .int .i64 (0 : Int)] ∧ Row tStr 9 w o990 105 (.slice A781 x769.1.length c782) x769.1 ∧ Row tStr 9 w o990 104 (.slice A783 x769.2.length c784) x769.2 ∧ Row tyRule 28 w o990 106 z988 x ∧ Tr (Ls o0 []) w0 o0 w o990)) ?_ hx1095 ⟨o774, (.slice none 0 0), (M.pk [3, 4, 2, 1, 0] rfl), q775, q776, q777, q778, q779, (Row.nil tyRule 28 w771 o774 106), T780⟩ ?_
 ·rintro ⟨y881, y882⟩ a w991 r992 hI993 h
  replace h : grammar_Of_b2 k r50 x769 y881 y882 = some r992 := h
  unfold grammar_Of_b2 at h
  obtain ⟨o994, z883, M, q995, q996, q997, q998, q999, q1000, T1001⟩ := hI993
  obtain ⟨A1002, c1003, hzc1003, -⟩ := q1000.form
  subst hzc1003
  refine c_seq <| c_reg <| pn (j := 1) E 1 M rfl rfl fun a M => x_end rfl <| q_then <| c_seq ?_
  by_cases hk135 : (decide (y881 < (r50.length : Int))) = true
  ·rw [if_pos hk135] at h
   have M := M.k 64 rfl hk135
   refine c_true (M.e 0 rfl) <| wp_skip <| q_then <| c_seq <| wp_block <| c_seq <| c_reg ?_
   obtain ⟨x1004, hx1005, h⟩ := bind_some h
   obtain ⟨hx10050, hx10051, hx10052⟩ := at_some hx1005
   obtain ⟨g1006, f1007, c1008, ds1009, hv1010, hd1011, he1012⟩ := Row.elem q997 hx10051
   obtain ⟨A1013, c1014, rfl, i1015⟩ := Alt_open hd1011
   have he1012 : ElemAt w991 o994 102 g1006 f1007 (y881).toNat 4 [.int .i64 x1004.left.kind, .string x1004.left.text, .int .i64 x1004.left.at_, .slice A1013 x1004.right.length c1014] := he1012
   refine ov rfl rfl M (x_indexAddr Try.underlying179 sz_185 ((M.e 3 rfl).trans hv1010) (M.e 5 rfl) hx10050 hx10052) fun a M => ov rfl rfl M (x_loadN (ldn_185 _ rfl) (M.e 0 rfl) he1012.all) fun a M => ?_
   obtain ⟨g1018, w1019, o1020, r1021, b1022, t1023⟩ := b_alloc zv_185 a w991 o994 103
   refine ov rfl rfl M (r1021 _ _ _ _ _) fun a M => ?_
   obtain ⟨w1024, r1025, b1026, t1027⟩ := b_storeN (P := Try.prog) (all' := #[.int .i64 x1004.left.kind, .string x1004.left.text, .int .i64 x1004.left.at_, .slice A1013 x1004.right.length c1014]) (.inr trivial) (stn_185 _ rfl) (M.e 0 rfl) (M.e 1 rfl) b1022 (show 4 ≤ 4 by decide) (by simp [Value.oneCell']) rfl
   have b1026 : Box w1024 o1020 103 g1018 185 #[.int .i64 x1004.left.kind, .string x1004.left.text, .int .i64 x1004.left.at_, .slice A1013 x1004.right.length c1014] := b1026
   refine os rfl (wp0 rfl) rfl (r1025 _ _ _ _ _) <| x_end rfl <| q_then <| c_seq <| c_reg <| ov rfl rfl M (x_loadN (ldn_25 _ rfl) (M.e 4 rfl) (((q995.kn t1023).kk t1027 rfl).sub (cs := #[.slice A781 x769.1.length c782, .slice A783 x769.2.length c784, .slice A1002 y882.length c1003]) 0 rfl)) fun a M => ov rfl rfl M (x_loadN (ldn_185 _ rfl) (M.e 1 rfl) (b1026.sub (cs := #[.int .i64 x1004.left.kind, .string x1004.left.text, .int .i64 x1004.left.at_, .slice A1013 x1004.right.length c1014]) 0 rfl)) fun a M => ?_
   obtain ⟨r1028, hr1029, h⟩ := bind_some h
   refine oc rfl (wp0 rfl) rfl rfl M (x_call cf_127 (m2 (M.e 1 rfl) (M.e 0 rfl))) (grammar_numbered_calls hr1029 (lko_own (T := [(0, 0), (104, 0), (105, 0), (106, 0)]) (o := o1020) rfl) (((q998.kn t1023).kk t1027 rfl rfl).lend rfl rfl) (((q999.kn t1023).kk t1027 rfl rfl).lend rfl rfl) (((q1000.kn t1023).kk t1027 rfl rfl).lend rfl rfl) (sL (iK (iN i1015 t1023) t1027 rfl) rfl)) (fun e136 w1030 hp1031 => ?_)
   obtain ⟨o1033, z1032, he1034, q1035, T1036⟩ := hp1031
   obtain ⟨o1037, ho1038⟩ := ex (mrg w1024 o1020 [(0, 0), (50, 107)] o1033)
   have t1039 := T1036.r0 ho1038
   have q1040 := q1035.rF (fun _ _ _ _ _ _ h => h) T1036 ho1038 107 rfl rfl
   refine ⟨_, he1034, fun a M => ?_⟩
   obtain ⟨A1041, c1042, hzc1042, -⟩ := q1040.form
   subst hzc1042
   obtain ⟨g1043, w1044, o1045, r1046, b1047, t1048⟩ := b_alloc zv_28 a w1030 o1037 108
   refine ov rfl rfl M (r1046 _ _ _ _ _) fun a M => ?_
   obtain ⟨w1049, r1050, b1051, t1052⟩ := b_storeN (P := Try.prog) (all' := #[.int .i64 r1028.1, .slice A1041 r1028.2.length c1042]) (.inr trivial) (stn_28 _ rfl) (M.e 0 rfl) (M.e 1 rfl) b1047 (show 2 ≤ 2 by decide) (by simp [Value.oneCell']) rfl
   have b1051 : Box w1049 o1045 108 g1043 28 #[.int .i64 r1028.1, .slice A1041 r1028.2.length c1042] := b1051
   refine os rfl (wp0 rfl) rfl (r1050 _ _ _ _ _) <| x_end rfl <| q_then <| c_seq <| c_reg <| pn (j := 1) E 1 M rfl rfl fun a M => ?_
   have u137 := ((((q995.kn t1023).kk t1027 rfl).kn t1039).kn t1048).kk t1052 rfl
   refine ov rfl rfl M (x_load ld_23 (M.e 0 rfl) (u137.cell (n := 2) rfl)) fun a M => ov rfl rfl M (x_loadN (ldn_28 _ rfl) (M.e 2 rfl) (b1051.sub (cs := #[.int .i64 r1028.1, .slice A1041 r1028.2.length c1042]) 0 rfl)) fun a M => ?_
   have u138 := ((((q1000.kn t1023).kk t1027 rfl rfl).kn t1039).kn t1048).kk t1052 rfl rfl
   obtain ⟨r1053, hr1054, h⟩ := bind_some h
   refine oc rfl (wp0 rfl) rfl rfl M (x_call cf_128 (m2 (M.e 1 rfl) (M.e 0 rfl))) (grammar_has_calls hr1054 (lko_own (T := [(0, 0), (106, 0), (107, 0)]) (o := o1045) rfl) (u138.lend rfl rfl) (((q1040.kn t1048).kk t1052 rfl rfl).lend rfl rfl)) (fun e139 w1055 hp1056 => ?_)
   obtain ⟨o1057, he1058, T1059⟩ := hp1056
   obtain ⟨o1060, ho1061⟩ := ex (mrg w1049 o1045 [(0, 0)] o1057)
   have t1062 := T1059.r0 ho1061
   refine ⟨_, he1058, fun a M => ?_⟩
   refine pn (j := 5) E 1 M rfl rfl fun a M => x_end rfl <| q_then ?_
   by_cases hk140 : (!r1053) = true
   ·rw [if_pos hk140] at h
    have M := M.k 74 rfl hk140
    refine c_true (M.e 0 rfl) <| c_reg <| pn (j := 1) E 1 M rfl rfl fun a M => ov rfl rfl M (x_load ld_23 (M.e 0 rfl) ((u137.kn t1062).cell (n := 2) rfl)) fun a M => ov rfl rfl M (x_loadN (ldn_28 _ rfl) (M.e 7 rfl) ((b1051.kn t1062).sub (cs := #[.int .i64 r1028.1, .slice A1041 r1028.2.length c1042]) 0 rfl)) fun a M => ?_
    have u141 := u137.kn t1062
    have u142 := (((((q996.kn t1023).kk t1027 rfl).kn t1039).kn t1048).kk t1052 rfl).kn t1062
    have u143 := (((((q997.kn t1023).kk t1027 rfl rfl).kn t1039).kn t1048).kk t1052 rfl rfl).kn t1062
    have u144 := (((((q998.kn t1023).kk t1027 rfl rfl).kn t1039).kn t1048).kk t1052 rfl rfl).kn t1062
    have u145 := (((((q999.kn t1023).kk t1027 rfl rfl).kn t1039).kn t1048).kk t1052 rfl rfl).kn t1062
    have u146 := u138.kn t1062
    have u147 := ((q1040.kn t1048).kk t1052 rfl rfl).kn t1062
    have u148 := b1051.kn t1062
    have u149 := (((((T1001.kn t1023).kk t1027 hown rfl).kn t1039).kn t1048).kk t1052 hown rfl).kn t1062
    obtain ⟨o1068, ho1069⟩ := ex (lro [(107, 0)] o1060)
    have T1070 := u149.kw hown ho1069 rfl
    have q1071 := u141.kw ho1069 100 rfl
    have q1072 := u142.kw ho1069 101 rfl
    have q1073 := u143.kw ho1069 102 rfl rfl
    have q1074 := u144.kw ho1069 105 rfl rfl
    have q1075 := u145.kw ho1069 104 rfl rfl
    have q1076 := u146.kw ho1069 106 rfl rfl
    have q1077 := u147.kz (hE := by decide) ho1069 rfl rfl
    have q1079 := u148.kw ho1069 108 rfl
    have r1065 : (Instr.buildSlice 23 1 #[(0, .agg #[.int .i64 r1028.1, .slice A1041 r1028.2.length c1042])]).run Try.prog w1055 = .ok (.slice (some ⟨w1055.heap.size, 0, none⟩) 1 1) (w1055.alloc (.cells ([.int .i64 r1028.1, .slice A1041 r1028.2.length c1042] : List Value).toArray 28)) := by go_simp
    obtain ⟨b1066, t1067⟩ := Row.lit (E := tyRule) (e := 28) (l := [(⟨r1028.1, r1028.2⟩ : Rule)]) (by decide) w1055 o1068 103 (cs := [.int .i64 r1028.1, .slice A1041 r1028.2.length c1042]) ⟨[.int .i64 r1028.1, .slice A1041 r1028.2.length c1042], _, rfl, (Rule_mk w1055 o1068 (⟨r1028.1, r1028.2⟩ : Rule) q1077), rfl⟩ (by simp)
    generalize hww1063 : w1055.alloc _ = w1063 at r1065 b1066 t1067
    generalize upd o1068 _ 103 = o1064 at b1066 t1067
    generalize hgg1080 : w1055.heap.size = g1080 at r1065 b1066
    clear hww1063 hgg1080
    refine ov rfl rfl M (x_buildSlice (l1 (M.e 0 rfl)) r1065) fun a M => ?_
    obtain ⟨hc1081, h⟩ := ifs h
    obtain ⟨v1082, w1083, o1084, r1085, b1086, t1087⟩ := run_append el_28 Try.underlying23 23 (q1076.kn t1067) (by decide) (Src.row b1066) hc1081
    obtain ⟨A1088, c1089, rfl, -⟩ := b1086.form
    refine ov rfl rfl M (x_append (M.e 2 rfl) (M.e 0 rfl) r1085) fun a M => pn (j := 6) E 1 M rfl rfl fun a M => ?_
    obtain ⟨w1090, r1091, b1092, t1093⟩ := b_store (P := Try.prog) st_23 (M.e 0 rfl) (M.e 1 rfl) ((q1071.kn t1067).kk t1087 rfl) (show 2 < 3 by decide) rfl rfl
    have b1092 : Box w1090 o1084 100 g2 25 #[.slice A781 x769.1.length c782, .slice A783 x769.2.length c784, .slice A1088 (y882 ++ [(⟨r1028.1, r1028.2⟩ : Rule)]).length c1089] := b1092
    refine os rfl (wp0 rfl) rfl (r1091 _ _ _ _ _) <| x_end rfl <| q_blk <| q_then <| c_reg <| pn (j := 1) E 1 M rfl rfl fun a M => ?_
    have M := M.pk [0, 20, 21, 22, 23] rfl
    refine pn (j := 2) E 1 M rfl rfl fun a M => x_end rfl ?_
    obtain rfl := sj h
    have u150 := ((q1072.kn t1067).kk t1087 rfl).kk t1093 rfl
    have u151 := ((q1073.kn t1067).kk t1087 rfl rfl).kk t1093 rfl rfl
    have u152 := ((q1074.kn t1067).kk t1087 rfl rfl).kk t1093 rfl rfl
    have u153 := ((q1075.kn t1067).kk t1087 rfl rfl).kk t1093 rfl rfl
    have u154 := ((T1070.kn t1067).kk t1087 hown rfl).kk t1093 hown rfl
    exact lq_next ⟨o1084, (.slice A1088 (y882 ++ [(⟨r1028.1, r1028.2⟩ : Rule)]).length c1089), (M.pk [2, 3, 4, 5, 0] rfl), b1092, u150, u151, u152, u153, (b1086.kk t1093 rfl rfl), u154⟩
   rw [if_neg hk140] at h
   have hk140 := nott hk140
   have M := M.k 74 rfl hk140
   refine c_false (M.e 0 rfl) <| wp_skip <| q_blk <| q_then <| c_reg <| pn (j := 1) E 1 M rfl rfl fun a M => ?_
   have M := M.pk [0, 14, 15, 16, 17] rfl
   refine pn (j := 2) E 1 M rfl rfl fun a M => x_end rfl ?_
   obtain rfl := sj h
   have u155 := (((((q996.kn t1023).kk t1027 rfl).kn t1039).kn t1048).kk t1052 rfl).kn t1062
   have u156 := (((((q997.kn t1023).kk t1027 rfl rfl).kn t1039).kn t1048).kk t1052 rfl rfl).kn t1062
   have u157 := (((((q998.kn t1023).kk t1027 rfl rfl).kn t1039).kn t1048).kk t1052 rfl rfl).kn t1062
   have u158 := (((((q999.kn t1023).kk t1027 rfl rfl).kn t1039).kn t1048).kk t1052 rfl rfl).kn t1062
   have u159 := (((((T1001.kn t1023).kk t1027 hown rfl).kn t1039).kn t1048).kk t1052 hown rfl).kn t1062
   exact lq_next ⟨o1060, (.slice A1002 y882.length c1003), (M.pk [2, 3, 4, 5, 0] rfl), (u137.kn t1062), u155, u156, u157, u158, (u138.kn t1062), u159⟩
  rw [if_neg hk135] at h
  have hk135 := nott hk135
  have M := M.k 64 rfl hk135
  refine c_false (M.e 0 rfl) <| wp_exit <| q_then_exit ?_
  obtain rfl := sj h
  exact lq_exit ⟨rfl, ⟨o994, (.slice A1002 y882.length c1003), (M.pk [1, 2] rfl), q995, q996, q998, q999, q1000, T1001⟩⟩
 intro e160 a w1096 hO1097
 obtain ⟨he1098, hO1097⟩ := hO1097
 subst he1098
 obtain ⟨o1099, z988, M, q1100, q1101, q1102, q1103, q1104, T1105⟩ := hO1097
 obtain ⟨A1106, c1107, hzc1107, -⟩ := q1104.form
 subst hzc1107
 refine q_blk_here <| q_then <| c_seq <| c_seq <| c_reg <| pn (j := 1) E 1 M rfl rfl fun a M => ov rfl rfl M (x_load ld_22 (M.e 0 rfl) (q1100.cell (n := 1) rfl)) fun a M => pn (j := 5) E 3 M rfl rfl fun a M => ?_
 by_cases hk162 : (decide ((40 : Int) < (x769.2.length : Int))) = true
 ·rw [if_pos hk162] at h
  have M := M.k 86 rfl hk162
  refine pn (j := 10) E 5 M rfl rfl fun a M => x_end rfl <| q_then <| c_true (M.e 0 rfl) <| c_reg ?_
  have hb1108 : ∀ w : World, (Instr.build 108 #[(0, .int .i64 (14 : Int))]).run Try.prog w = .ok (.agg #[.int .i64 (14 : Int), .int .i64 (0 : Int)]) w := fun w => by go_simp
  refine ov rfl rfl M (x_build (l1 (e_const (v := .int .i64 (14 : Int)))) hb1108) fun a M => ?_
  obtain ⟨r1109, hr1110, h⟩ := bind_some h
  refine oc rfl (wp0 rfl) rfl rfl M (x_call cf_124 (m1 (M.e 0 rfl))) (grammar_check_calls hr1110 (lko_own (T := [(0, 0)]) (o := o1099) rfl)) (fun e163 w1111 hp1112 => ?_)
  obtain ⟨o1113, he1114, T1115⟩ := hp1112
  obtain ⟨o1116, ho1117⟩ := ex (mrg w1096 o1099 [(0, 0)] o1113)
  have t1118 := T1115.r0 ho1117
  refine ⟨_, he1114, fun a M => ?_⟩
  refine x_end rfl <| q_then <| c_seq <| c_reg <| ov rfl rfl M (x_loadN (ldn_25 _ rfl) (M.e 12 rfl) ((q1100.kn t1118).sub (cs := #[.slice A781 x769.1.length c782, .slice A783 x769.2.length c784, .slice A1106 x1094.length c1107]) 0 rfl)) fun a M => ?_
  have hb1119 : ∀ w : World, (Instr.build 108 #[]).run Try.prog w = .ok (.agg #[.int .i64 (0 : Int), .int .i64 (0 : Int)]) w := fun w => by go_simp
  refine ov rfl rfl M (x_build l0 hb1119) fun a M => ?_
  obtain ⟨w1120, r1121, b1122, t1123⟩ := b_storeN (P := Try.prog) (all' := #[.slice A781 x769.1.length c782, .slice A783 x769.2.length c784, .slice A1106 x1094.length c1107]) (.inr trivial) (stn_25 _ rfl) (M.e 14 rfl) (M.e 1 rfl) (q1100.kn t1118) (show 3 ≤ 3 by decide) (by simp [Value.oneCell']) rfl
  have b1122 : Box w1120 o1116 100 g2 25 #[.slice A781 x769.1.length c782, .slice A783 x769.2.length c784, .slice A1106 x1094.length c1107] := b1122
  refine os rfl (wp0 rfl) rfl (r1121 _ _ _ _ _) ?_
  obtain ⟨w1124, r1125, b1126, t1127⟩ := b_storeN (P := Try.prog) (all' := #[.int .i64 (0 : Int), .int .i64 (0 : Int)]) (.inr trivial) (stn_108 _ rfl) (M.e 15 rfl) (M.e 0 rfl) ((q1101.kn t1118).kk t1123 rfl) (show 2 ≤ 2 by decide) (by simp [Value.oneCell']) rfl
  have b1126 : Box w1124 o1116 101 g8 108 #[.int .i64 (0 : Int), .int .i64 (0 : Int)] := b1126
  refine os rfl (wp0 rfl) rfl (r1125 _ _ _ _ _) <| x_end rfl <| q_then <| wp_ret ?_
  have u164 := b1122.kk t1127 rfl
  have u165 := ((q1102.kn t1118).kk t1123 rfl rfl).kk t1127 rfl rfl
  have u166 := ((q1103.kn t1118).kk t1123 rfl rfl).kk t1127 rfl rfl
  have u167 := ((q1104.kn t1118).kk t1123 rfl rfl).kk t1127 rfl rfl
  have u168 := ((T1105.kn t1118).kk t1123 hown rfl).kk t1127 hown rfl
  obtain ⟨o1128, ho1129⟩ := ex (lro [(104, 51), (105, 50), (106, 52)] o1116)
  have T1130 := u168.kw hown ho1129 rfl
  have q1131 := u164.kw ho1129 100 rfl
  have q1132 := b1126.kw ho1129 101 rfl
  have q1133 := u165.kw ho1129 50 rfl rfl
  have q1134 := u166.kw ho1129 51 rfl rfl
  have q1135 := u167.kw ho1129 52 rfl rfl
  obtain rfl := sj h
  exact (show Leaves _ _ _ _ _ _ _ by rw [M.f.defers]; exact leave_one cf_122 (idles_122 _ _) (res2 Try.results78 (rv_cellN (ldn_25 _ rfl) (M.t 14 rfl) (q1131.sub (cs := #[.slice A781 x769.1.length c782, .slice A783 x769.2.length c784, .slice A1106 x1094.length c1107]) 0 rfl)) (rv_cellN (ldn_108 _ rfl) (M.t 15 rfl) (q1132.sub (cs := #[.int .i64 (0 : Int), .int .i64 (0 : Int)]) 0 rfl))) ⟨o1128, (.slice A781 x769.1.length c782), (.slice A783 x769.2.length c784), (.slice A1106 x1094.length c1107), rfl, q1133, q1134, q1135, T1130⟩)
 rw [if_neg hk162] at h
 have hk162 := nott hk162
 have M := M.k 86 rfl hk162
 refine pn (j := 6) E 1 M rfl rfl fun a M => ow rfl (wanted_yes rfl rfl (M.t 1 rfl)) rfl rfl M (x_load ld_22 (M.e 0 rfl) (q1100.cell (n := 0) rfl)) fun a M => pn (j := 10) E 3 M rfl rfl fun a M => x_end rfl <| q_then ?_
 by_cases hk169 : (decide ((40 : Int) < (x769.1.length : Int))) = true
 ·rw [if_pos hk169] at h
  have M := M.k 91 rfl hk169
  refine c_true (M.e 0 rfl) <| c_reg ?_
  have hb1136 : ∀ w : World, (Instr.build 108 #[(0, .int .i64 (14 : Int))]).run Try.prog w = .ok (.agg #[.int .i64 (14 : Int), .int .i64 (0 : Int)]) w := fun w => by go_simp
  refine ov rfl rfl M (x_build (l1 (e_const (v := .int .i64 (14 : Int)))) hb1136) fun a M => ?_
  obtain ⟨r1137, hr1138, h⟩ := bind_some h
  refine oc rfl (wp0 rfl) rfl rfl M (x_call cf_124 (m1 (M.e 0 rfl))) (grammar_check_calls hr1138 (lko_own (T := [(0, 0)]) (o := o1099) rfl)) (fun e170 w1139 hp1140 => ?_)
  obtain ⟨o1141, he1142, T1143⟩ := hp1140
  obtain ⟨o1144, ho1145⟩ := ex (mrg w1096 o1099 [(0, 0)] o1141)
  have t1146 := T1143.r0 ho1145
  refine ⟨_, he1142, fun a M => ?_⟩
  refine x_end rfl <| q_then <| c_seq <| c_reg <| ov rfl rfl M (x_loadN (ldn_25 _ rfl) (M.e 12 rfl) ((q1100.kn t1146).sub (cs := #[.slice A781 x769.1.length c782, .slice A783 x769.2.length c784, .slice A1106 x1094.length c1107]) 0 rfl)) fun a M => ?_
  have hb1147 : ∀ w : World, (Instr.build 108 #[]).run Try.prog w = .ok (.agg #[.int .i64 (0 : Int), .int .i64 (0 : Int)]) w := fun w => by go_simp
  refine ov rfl rfl M (x_build l0 hb1147) fun a M => ?_
  obtain ⟨w1148, r1149, b1150, t1151⟩ := b_storeN (P := Try.prog) (all' := #[.slice A781 x769.1.length c782, .slice A783 x769.2.length c784, .slice A1106 x1094.length c1107]) (.inr trivial) (stn_25 _ rfl) (M.e 14 rfl) (M.e 1 rfl) (q1100.kn t1146) (show 3 ≤ 3 by decide) (by simp [Value.oneCell']) rfl
  have b1150 : Box w1148 o1144 100 g2 25 #[.slice A781 x769.1.length c782, .slice A783 x769.2.length c784, .slice A1106 x1094.length c1107] := b1150
  refine os rfl (wp0 rfl) rfl (r1149 _ _ _ _ _) ?_
  obtain ⟨w1152, r1153, b1154, t1155⟩ := b_storeN (P := Try.prog) (all' := #[.int .i64 (0 : Int), .int .i64 (0 : Int)]) (.inr trivial) (stn_108 _ rfl) (M.e 15 rfl) (M.e 0 rfl) ((q1101.kn t1146).kk t1151 rfl) (show 2 ≤ 2 by decide) (by simp [Value.oneCell']) rfl
  have b1154 : Box w1152 o1144 101 g8 108 #[.int .i64 (0 : Int), .int .i64 (0 : Int)] := b1154
  refine os rfl (wp0 rfl) rfl (r1153 _ _ _ _ _) <| x_end rfl <| q_then <| wp_ret ?_
  have u171 := b1150.kk t1155 rfl
  have u172 := ((q1102.kn t1146).kk t1151 rfl rfl).kk t1155 rfl rfl
  have u173 := ((q1103.kn t1146).kk t1151 rfl rfl).kk t1155 rfl rfl
  have u174 := ((q1104.kn t1146).kk t1151 rfl rfl).kk t1155 rfl rfl
  have u175 := ((T1105.kn t1146).kk t1151 hown rfl).kk t1155 hown rfl
  obtain ⟨o1156, ho1157⟩ := ex (lro [(104, 51), (105, 50), (106, 52)] o1144)
  have T1158 := u175.kw hown ho1157 rfl
  have q1159 := u171.kw ho1157 100 rfl
  have q1160 := b1154.kw ho1157 101 rfl
  have q1161 := u172.kw ho1157 50 rfl rfl
  have q1162 := u173.kw ho1157 51 rfl rfl
  have q1163 := u174.kw ho1157 52 rfl rfl
  obtain rfl := sj h
  exact (show Leaves _ _ _ _ _ _ _ by rw [M.f.defers]; exact leave_one cf_122 (idles_122 _ _) (res2 Try.results78 (rv_cellN (ldn_25 _ rfl) (M.t 14 rfl) (q1159.sub (cs := #[.slice A781 x769.1.length c782, .slice A783 x769.2.length c784, .slice A1106 x1094.length c1107]) 0 rfl)) (rv_cellN (ldn_108 _ rfl) (M.t 15 rfl) (q1160.sub (cs := #[.int .i64 (0 : Int), .int .i64 (0 : Int)]) 0 rfl))) ⟨o1156, (.slice A781 x769.1.length c782), (.slice A783 x769.2.length c784), (.slice A1106 x1094.length c1107), rfl, q1161, q1162, q1163, T1158⟩)
 rw [if_neg hk169] at h
 have hk169 := nott hk169
 have M := M.k 91 rfl hk169
 refine c_false (M.e 0 rfl) <| wp_skip <| q_then <| c_seq <| c_reg <| ov rfl rfl M (x_loadN (ldn_25 _ rfl) (M.e 10 rfl) (q1100.sub (cs := #[.slice A781 x769.1.length c782, .slice A783 x769.2.length c784, .slice A1106 x1094.length c1107]) 0 rfl)) fun a M => ?_
 have hb1164 : ∀ w : World, (Instr.build 108 #[]).run Try.prog w = .ok (.agg #[.int .i64 (0 : Int), .int .i64 (0 : Int)]) w := fun w => by go_simp
 refine ov rfl rfl M (x_build l0 hb1164) fun a M => ?_
 obtain ⟨w1165, r1166, b1167, t1168⟩ := b_storeN (P := Try.prog) (all' := #[.slice A781 x769.1.length c782, .slice A783 x769.2.length c784, .slice A1106 x1094.length c1107]) (.inr trivial) (stn_25 _ rfl) (M.e 12 rfl) (M.e 1 rfl) q1100 (show 3 ≤ 3 by decide) (by simp [Value.oneCell']) rfl
 have b1167 : Box w1165 o1099 100 g2 25 #[.slice A781 x769.1.length c782, .slice A783 x769.2.length c784, .slice A1106 x1094.length c1107] := b1167
 refine os rfl (wp0 rfl) rfl (r1166 _ _ _ _ _) ?_
 obtain ⟨w1169, r1170, b1171, t1172⟩ := b_storeN (P := Try.prog) (all' := #[.int .i64 (0 : Int), .int .i64 (0 : Int)]) (.inr trivial) (stn_108 _ rfl) (M.e 13 rfl) (M.e 0 rfl) (q1101.kk t1168 rfl) (show 2 ≤ 2 by decide) (by simp [Value.oneCell']) rfl
 have b1171 : Box w1169 o1099 101 g8 108 #[.int .i64 (0 : Int), .int .i64 (0 : Int)] := b1171
 refine os rfl (wp0 rfl) rfl (r1170 _ _ _ _ _) <| x_end rfl <| q_then <| wp_ret ?_
 have u176 := b1167.kk t1172 rfl
 have u177 := (q1102.kk t1168 rfl rfl).kk t1172 rfl rfl
 have u178 := (q1103.kk t1168 rfl rfl).kk t1172 rfl rfl
 have u179 := (q1104.kk t1168 rfl rfl).kk t1172 rfl rfl
 have u180 := (T1105.kk t1168 hown rfl).kk t1172 hown rfl
 obtain ⟨o1173, ho1174⟩ := ex (lro [(104, 51), (105, 50), (106, 52)] o1099)
 have T1175 := u180.kw hown ho1174 rfl
 have q1176 := u176.kw ho1174 100 rfl
 have q1177 := b1171.kw ho1174 101 rfl
 have q1178 := u177.kw ho1174 50 rfl rfl
 have q1179 := u178.kw ho1174 51 rfl rfl
 have q1180 := u179.kw ho1174 52 rfl rfl
 obtain rfl := sj h
 exact (show Leaves _ _ _ _ _ _ _ by rw [M.f.defers]; exact leave_one cf_122 (idles_122 _ _) (res2 Try.results78 (rv_cellN (ldn_25 _ rfl) (M.t 12 rfl) (q1176.sub (cs := #[.slice A781 x769.1.length c782, .slice A783 x769.2.length c784, .slice A1106 x1094.length c1107]) 0 rfl)) (rv_cellN (ldn_108 _ rfl) (M.t 13 rfl) (q1177.sub (cs := #[.int .i64 (0 : Int), .int .i64 (0 : Int)]) 0 rfl))) ⟨o1173, (.slice A781 x769.1.length c782), (.slice A783 x769.2.length c784), (.slice A1106 x1094.length c1107), rfl, q1178, q1179, q1180, T1175⟩)
end Go.Proofs.Ythilemcdhkfhlaa
namespace Go.Proofs.Ythilemcdhkfhlaa
open Go Go.RowKit Go.Gc Go.Proofs
def keep_Ints_b0 (k : Nat) (p1 : List Int) (p5 : List Int) (y41 : Int) : Option (Int ⊕ (Unit ⊕ Unit)) :=
  if (decide (y41 < (p1.length : Int))) = true then ((at? p1 y41).bind fun x82 => (at? p5 y41).bind fun x92 => if (x82 != x92) = true then (some (.inr (.inl ()))) else (some (.inl (IntKind.wrap .i64 (y41 + (1 : Int)))))) else (some (.inr (.inr ())))
def keep_Ints (k : Nat) (p1 : List Int) (p5 : List Int) : Option Bool :=
  if ((p1.length : Int) != (p5.length : Int)) = true then (some false) else ((iter (fun (s : Int) => keep_Ints_b0 k p1 p5 s) k (0 : Int)).bind fun x105 => scase x105 (fun x105 => some false) (fun x105 => some true))
theorem keep_Ints_calls {k : Nat} {p1 : List Int} {v2 : Value} {p5 : List Int} {v6 : Value} {r : Bool} (h : keep_Ints k p1 p5 = some r) {w0 : World} {o0 : Own} (hown : Hown o0)
    (i4 : ((tSlice 3 (tInt .i64) (by decide))).im w0 (L o0 0) p1 [v2])
    (i8 : ((tSlice 3 (tInt .i64) (by decide))).im w0 (L o0 0) p5 [v6]) :
    Calls Try.prog 40 #[v2, v6] w0 (fun e w => ∃ (o115 : Own), e = .returned (.bool r) ∧ Tr (Ls o0 []) w0 o0 w o115) := by
 unfold keep_Ints at h
 refine startM Try.func40 rfl Try.ntmps40 (show 2 ≤ 26 by decide) fun a M => ?_
 have M : MB 26 [] [(0, v2), (1, v6)] a := M
 obtain ⟨A9, c10, hzc10, -⟩ := im_form i4
 subst hzc10
 obtain ⟨A11, c12, hzc12, -⟩ := im_form i8
 subst hzc12
 have T0 : Tr (Ls o0 []) w0 o0 w0 o0 := Tr.refl _ _ _
 refine c_seq <| c_reg <| pn (j := 1) E 1 M rfl rfl fun a M => x_end rfl <| q_then <| c_seq <| c_seq <| c_reg <| pn (j := 5) E 5 M rfl rfl fun a M => x_end rfl <| q_then ?_
 by_cases hk2 : ((p1.length : Int) != (p5.length : Int)) = true
 ·rw [if_pos hk2] at h
  have M := M.k 10 rfl hk2
  refine c_true (M.e 0 rfl) <| c_seq <| c_reg ?_
  have M := M.pk [] rfl
  refine pn (j := 1) E 1 M rfl rfl fun a M => x_end rfl <| q_then <| wp_ret <| q_then_ret ?_
  obtain rfl := sj h
  exact ⟨M.f.defers, _, (res1 Try.results40 (rv_tmp (M.t 0 rfl))), ⟨o0, rfl, T0⟩⟩
 rw [if_neg hk2] at h
 have hk2 := nott hk2
 have M := M.k 10 rfl hk2
 refine c_false (M.e 0 rfl) <| wp_skip <| q_then <| c_seq <| c_seq <| c_reg <| pn (j := 1) E 1 M rfl rfl fun a M => x_end rfl <| q_then <| wp_block ?_
 obtain ⟨x105, hx106, h⟩ := bind_some h
 refine loop_iter (S := Int) (X := (Unit ⊕ Unit)) (fun (s : Int) => keep_Ints_b0 k p1 p5 s) (fun (s : Int) (a : Act) (w : World) => ∃ (o71 : Own), MB 26 [] [(0, .slice A9 p1.length c10), (1, .slice A11 p5.length c12), (5, .int .i64 s)] a ∧ ((tSlice 3 (tInt .i64) (by decide))).im w (L o71 0) p1 [.slice A9 p1.length c10] ∧ ((tSlice 3 (tInt .i64) (by decide))).im w (L o71 0) p5 [.slice A11 p5.length c12] ∧ Tr (Ls o0 []) w0 o0 w o71) (fun (x : (Unit ⊕ Unit)) (e : Exit) (a : Act) (w : World) => (match x with | .inl x => (e = .ret ∧ ∃ (o72 : Own), MB 26 [] [(4, .bool false)] a ∧ Tr (Ls o0 []) w0 o0 w o72) | .inr x => (e = .exit 0 ∧ ∃ (o73 : Own), MB 26 [] [] a ∧ Tr (Ls o0 []) w0 o0 w o73))) ?_ hx106 ⟨o0, (M.pk [7, 8, 0] rfl), i4, i8, T0⟩ ?_
 ·rintro y41 a w74 r75 hI76 h
  replace h : keep_Ints_b0 k p1 p5 y41 = some r75 := h
  unfold keep_Ints_b0 at h
  obtain ⟨o77, M, i78, i79, T80⟩ := hI76
  refine c_seq <| c_seq <| c_reg <| pn (j := 4) E 4 M rfl rfl fun a M => x_end rfl <| q_then ?_
  by_cases hk10 : (decide (y41 < (p1.length : Int))) = true
  ·rw [if_pos hk10] at h
   have M := M.k 14 rfl hk10
   refine c_true (M.e 0 rfl) <| wp_skip <| q_then <| c_seq <| wp_block <| c_seq ?_
   obtain ⟨x82, hx83, h⟩ := bind_some h
   obtain ⟨hx830, hx831, hx832⟩ := at_some hx83
   obtain ⟨g84, f85, c86, ds87, hv88, hd89, he90⟩ := im_elem i78 hx831
   have hsds87 : ds87 = [.int .i64 x82] := hd89
   subst hsds87
   have he90 : ElemAt w74 o77 0 g84 f85 (y41).toNat 1 [.int .i64 x82] := he90
   obtain ⟨x92, hx93, h⟩ := bind_some h
   obtain ⟨hx930, hx931, hx932⟩ := at_some hx93
   obtain ⟨g94, f95, c96, ds97, hv98, hd99, he100⟩ := im_elem i79 hx931
   have hsds97 : ds97 = [.int .i64 x92] := hd99
   subst hsds97
   have he100 : ElemAt w74 o77 0 g94 f95 (y41).toNat 1 [.int .i64 x92] := he100
   refine draw_p E mixed [0, 0, 3, 7, 0, 0, 48, 112, 255] (by kernel_rfl) rfl M [(2, .pointer (some ⟨g84, f85 + (y41).toNat * 1, none⟩)), (3, .int .i64 x82), (6, .pointer (some ⟨g94, f95 + (y41).toNat * 1, none⟩)), (7, .int .i64 x92)] rfl rfl rfl o77 ⟨fun a w o M G r => qv rfl rfl M rfl (x_indexAddr Try.underlying26 sz_3 ((G.e 0 rfl rfl).trans hv88) (G.e 1 rfl rfl) hx830 hx832),
   fun a w o M G r => qv rfl rfl M rfl (x_load ld_3 (G.e 2 rfl rfl) ((he90.kn r).2 0 _ rfl)),
   fun a w o M G r => qv rfl rfl M rfl (x_indexAddr Try.underlying26 sz_3 ((G.e 4 rfl rfl).trans hv98) (G.e 5 rfl rfl) hx930 hx932),
   fun a w o M G r => qv rfl rfl M rfl (x_load ld_3 (G.e 6 rfl rfl) ((he100.kn r).2 0 _ rfl)),
   trivial⟩ ?_
   intro a w102 o103 M t104
   refine q_then ?_
   by_cases hk11 : (x82 != x92) = true
   ·rw [if_pos hk11] at h
    have M := M.k 25 rfl hk11
    refine c_true (M.e 8 rfl) <| c_seq <| c_reg <| pn (j := 1) E 1 M rfl rfl fun a M => x_end rfl <| q_then <| wp_ret <| q_blk_ret <| q_then_ret ?_
    obtain rfl := sj h
    have u12 := T80.kn t104
    exact lq_ret ⟨rfl, ⟨o103, (M.pk [0] rfl), u12⟩⟩
   rw [if_neg hk11] at h
   have hk11 := nott hk11
   have M := M.k 25 rfl hk11
   refine c_false (M.e 8 rfl) <| wp_skip <| q_blk <| q_then <| c_reg <| pn (j := 2) E 2 M rfl rfl fun a M => ?_
   have M := M.pk [0, 1, 15, 16] rfl
   refine pn (j := 3) E 1 M rfl rfl fun a M => x_end rfl ?_
   obtain rfl := sj h
   have u13 := T80.kn t104
   exact lq_next ⟨o103, (M.pk [3, 4, 0] rfl), (iN i78 t104), (iN i79 t104), u13⟩
  rw [if_neg hk10] at h
  have hk10 := nott hk10
  have M := M.k 14 rfl hk10
  refine c_false (M.e 0 rfl) <| wp_exit <| q_then_exit ?_
  obtain rfl := sj h
  exact lq_exit ⟨rfl, ⟨o77, (M.pk [] rfl), T80⟩⟩
 intro e14 a w107 hO108
 rcases x105 with x105 | x105
 ·rw [scase_l] at h
  obtain ⟨he109, hO108⟩ := hO108
  subst he109
  obtain ⟨o110, M, T111⟩ := hO108
  refine q_blk_ret <| q_then_ret ?_
  obtain rfl := sj h
  exact ⟨M.f.defers, _, (res1 Try.results40 (rv_tmp (M.t 0 rfl))), ⟨o110, rfl, T111⟩⟩
 rw [scase_r] at h
 obtain ⟨he112, hO108⟩ := hO108
 subst he112
 obtain ⟨o113, M, T114⟩ := hO108
 refine q_blk_here <| q_then <| c_seq <| c_reg <| pn (j := 1) E 1 M rfl rfl fun a M => x_end rfl <| q_then <| wp_ret ?_
 obtain rfl := sj h
 exact ⟨M.f.defers, _, (res1 Try.results40 (rv_tmp (M.t 0 rfl))), ⟨o113, rfl, T114⟩⟩
end Go.Proofs.Ythilemcdhkfhlaa
namespace Go.Proofs.Ythilemcdhkfhlaa
open Go Go.RowKit Go.Gc Go.Proofs
def law24_wakes (k : Nat) : Option Bool :=
  (grammar_Of k (ByteArray.mk #[83, 32, 61, 32, 83, 32, 83, 32, 124, 32, 39, 97, 39, 32, 124, 32, 59])).bind fun r1 => (chart_Of k (⟨r1.1, r1.2.1, r1.2.2⟩ : Grammar) [(0 : Int)]).bind fun r92 => scase r92 (fun r92 => none) (fun r92 => (chart_Of k (⟨[], [], []⟩ : Grammar) []).bind fun r147 => scase r147 (fun r147 => if 0 ≤ (41 : Int) ∧ (41 : Int) ≤ 1000000000 then ((chart_Of k (⟨r1.1, r1.2.1, r1.2.2⟩ : Grammar) (List.replicate ((41 : Int)).toNat (0 : Int))).bind fun r189 => scase r189 (fun r189 => if ((0 : Int) != (0 : Int)) = true then (some false) else ((chart_Chart_Spans k ((⟨r1.1, r1.2.1, r1.2.2⟩ : Grammar).terms) ((⟨r1.1, r1.2.1, r1.2.2⟩ : Grammar).names) ((⟨r1.1, r1.2.1, r1.2.2⟩ : Grammar).rules) ([(0 : Int)].length : Int) r92.1 r92.2.1 r92.2.2.1 r92.2.2.2.1 1 r92.2.2.2.2).bind fun r212 => if ((r212.length : Int) == (3 : Int)) = true then ((at? r212 (1 : Int)).bind fun x227 => if ((x227.sym == (1 : Int)) && ((x227.i == (0 : Int)) && ((x227.j == (1 : Int)) && true))) = true then ((chart_Chart_Sym k (⟨(0 : Int), (0 : Int), (1 : Int)⟩ : Span) ((⟨r1.1, r1.2.1, r1.2.2⟩ : Grammar).terms) ((⟨r1.1, r1.2.1, r1.2.2⟩ : Grammar).names) ((⟨r1.1, r1.2.1, r1.2.2⟩ : Grammar).rules) ([(0 : Int)].length : Int) r92.1 r92.2.1 r92.2.2.1 r92.2.2.2.1 1 r92.2.2.2.2).bind fun r239 => if r239 = true then ((chart_Chart_Sym k (⟨(0 : Int), (1 : Int), (1 : Int)⟩ : Span) ((⟨r1.1, r1.2.1, r1.2.2⟩ : Grammar).terms) ((⟨r1.1, r1.2.1, r1.2.2⟩ : Grammar).names) ((⟨r1.1, r1.2.1, r1.2.2⟩ : Grammar).rules) ([(0 : Int)].length : Int) r92.1 r92.2.1 r92.2.2.1 r92.2.2.2.1 1 r92.2.2.2.2).bind fun r250 => if (!r250) = true then ((chart_Chart_Part k (⟨(0 : Int), (2 : Int), (0 : Int), (1 : Int)⟩ : Part) ((⟨r1.1, r1.2.1, r1.2.2⟩ : Grammar).terms) ((⟨r1.1, r1.2.1, r1.2.2⟩ : Grammar).names) ((⟨r1.1, r1.2.1, r1.2.2⟩ : Grammar).rules) ([(0 : Int)].length : Int) r92.1 r92.2.1 r92.2.2.1 r92.2.2.2.1 1 r92.2.2.2.2).bind fun r261 => if r261 = true then ((chart_Chart_Pivots k (⟨(0 : Int), (2 : Int), (0 : Int), (1 : Int)⟩ : Part) ((⟨r1.1, r1.2.1, r1.2.2⟩ : Grammar).terms) ((⟨r1.1, r1.2.1, r1.2.2⟩ : Grammar).names) ((⟨r1.1, r1.2.1, r1.2.2⟩ : Grammar).rules) ([(0 : Int)].length : Int) r92.1 r92.2.1 r92.2.2.1 r92.2.2.2.1 1 r92.2.2.2.2).bind fun r272 => (keep_Ints k r272 [(0 : Int), (1 : Int)]).bind fun r293 => if r293 = true then (if (r147 == (16 : Int)) = true then (some (r189 == (14 : Int))) else (some false)) else (some false)) else (some false)) else (some false)) else (some false)) else (some false)) else (some false))) (fun r189 => none)) else none) (fun r147 => none))
theorem law24_wakes_calls {k : Nat} {r : Bool} (h : law24_wakes k = some r) {w0 : World} {o0 : Own} (hown : Hown o0) :
    Calls Try.prog 26 #[] w0 (fun e w => ∃ (o303 : Own), e = .returned (.bool r) ∧ Tr (Ls o0 []) w0 o0 w o303) := by
 unfold law24_wakes at h
 refine startM Try.func26 rfl Try.ntmps26 (show 0 ≤ 85 by decide) fun a M => ?_
 have M : MB 85 [] [] a := M
 have T0 : Tr (Ls o0 []) w0 o0 w0 o0 := Tr.refl _ _ _
 refine c_seq <| c_reg <| pn (j := 1) E 1 M rfl rfl fun a M => x_end rfl <| q_then <| c_seq <| c_reg ?_
 obtain ⟨r1, hr2, h⟩ := bind_some h
 refine oc rfl (wp0 rfl) rfl rfl M (x_call cf_78 (m1 (e_const (v := .string (ByteArray.mk #[83, 32, 61, 32, 83, 32, 83, 32, 124, 32, 39, 97, 39, 32, 124, 32, 59]))))) (grammar_Of_calls hr2 (lko_own (T := [(0, 0)]) (o := o0) rfl)) (fun e1 w3 hp4 => ?_)
 obtain ⟨o8, z5, z6, z7, he9, q10, q11, q12, T13⟩ := hp4
 obtain ⟨o14, ho15⟩ := ex (mrg w0 o0 [(0, 0), (50, 100), (51, 101), (52, 102)] o8)
 have t16 := T13.r0 ho15
 have q17 := q10.r T13 ho15 100 rfl rfl rfl rfl
 have q18 := q11.r T13 ho15 101 rfl rfl rfl rfl
 have q19 := q12.r T13 ho15 102 rfl rfl rfl rfl
 refine ⟨_, he9, fun a M => ?_⟩
 obtain ⟨A20, c21, hzc21, -⟩ := q17.form
 subst hzc21
 obtain ⟨A22, c23, hzc23, -⟩ := q18.form
 subst hzc23
 obtain ⟨A24, c25, hzc25, -⟩ := q19.form
 subst hzc25
 refine pn (j := 4) E 3 M rfl rfl fun a M => ?_
 obtain ⟨g26, w27, o28, r29, b30, t31⟩ := b_alloc zv_25 a w3 o14 103
 refine ov rfl rfl M (r29 _ _ _ _ _) fun a M => ?_
 obtain ⟨g32, w33, o34, r35, b36, t37⟩ := b_alloc zv_108 a w27 o28 104
 refine ov rfl rfl M (r35 _ _ _ _ _) fun a M => ?_
 obtain ⟨w38, r39, b40, t41⟩ := b_storeN (P := Try.prog) (all' := #[.slice A20 r1.1.length c21, .slice A22 r1.2.1.length c23, .slice A24 r1.2.2.length c25]) (.inr trivial) (stn_25 _ rfl) (M.e 1 rfl) (M.e 3 rfl) (b30.kn t37) (show 3 ≤ 3 by decide) (by simp [Value.oneCell']) rfl
 have b40 : Box w38 o34 103 g26 25 #[.slice A20 r1.1.length c21, .slice A22 r1.2.1.length c23, .slice A24 r1.2.2.length c25] := b40
 refine os rfl (wp0 rfl) rfl (r39 _ _ _ _ _) ?_
 obtain ⟨w42, r43, b44, t45⟩ := b_storeN (P := Try.prog) (all' := #[.int .i64 (0 : Int), .int .i64 (0 : Int)]) (.inr trivial) (stn_108 _ rfl) (M.e 0 rfl) (M.e 2 rfl) (b36.kk t41 rfl) (show 2 ≤ 2 by decide) (by simp [Value.oneCell']) rfl
 have b44 : Box w42 o34 104 g32 108 #[.int .i64 (0 : Int), .int .i64 (0 : Int)] := b44
 refine os rfl (wp0 rfl) rfl (r43 _ _ _ _ _) <| x_end rfl <| q_then <| c_seq <| c_reg <| ov rfl rfl M (x_loadN (ldn_25 _ rfl) (M.e 1 rfl) ((b40.kk t45 rfl).sub (cs := #[.slice A20 r1.1.length c21, .slice A22 r1.2.1.length c23, .slice A24 r1.2.2.length c25]) 0 rfl)) fun a M => ?_
 have r48 : (Instr.buildSlice 26 1 #[(0, .int .i64 (0 : Int))]).run Try.prog w42 = .ok (.slice (some ⟨w42.heap.size, 0, none⟩) 1 1) (w42.alloc (.cells ([.int .i64 (0 : Int)] : List Value).toArray 3)) := by go_simp
 obtain ⟨b49, t50⟩ := Row.lit (E := (tInt .i64)) (e := 3) (l := [(0 : Int)]) (by decide) w42 o34 105 (cs := [.int .i64 (0 : Int)]) ⟨[.int .i64 (0 : Int)], _, rfl, rfl, rfl⟩ (by simp)
 generalize hww46 : w42.alloc _ = w46 at r48 b49 t50
 generalize upd o34 _ 105 = o47 at b49 t50
 generalize hgg51 : w42.heap.size = g51 at r48 b49
 clear hww46 hgg51
 refine ov rfl rfl M (x_buildSlice (l1 (e_const (v := .int .i64 (0 : Int)))) r48) fun a M => ?_
 have u2 := ((((q17.kn t31).kn t37).kk t41 rfl rfl).kk t45 rfl rfl).kn t50
 have u3 := ((((q18.kn t31).kn t37).kk t41 rfl rfl).kk t45 rfl rfl).kn t50
 have u4 := ((((q19.kn t31).kn t37).kk t41 rfl rfl).kk t45 rfl rfl).kn t50
 have u5 := (b40.kk t45 rfl).kn t50
 have u6 := b44.kn t50
 have u7 := (((((T0.kn t16).kn t31).kn t37).kk t41 hown rfl).kk t45 hown rfl).kn t50
 obtain ⟨o52, ho53⟩ := ex (lro [(100, 0)] o47)
 have T54 := u7.kw hown ho53 rfl
 have q55 := u2.kz (hE := by decide) ho53 rfl rfl
 have q57 := u3.kw ho53 101 rfl rfl
 have q58 := u4.kw ho53 102 rfl rfl
 have q59 := u5.kw ho53 103 rfl
 have q60 := u6.kw ho53 104 rfl
 have q61 := b49.kw ho53 105 rfl rfl
 obtain ⟨o62, ho63⟩ := ex (lro [(101, 0)] o52)
 have T64 := T54.kw hown ho63 rfl
 have i65 := iW q55 ho63 rfl
 have q66 := q57.kz (hE := by decide) ho63 rfl rfl
 have q68 := q58.kw ho63 102 rfl rfl
 have q69 := q59.kw ho63 103 rfl
 have q70 := q60.kw ho63 104 rfl
 have q71 := q61.kw ho63 105 rfl rfl
 obtain ⟨o72, ho73⟩ := ex (lro [(102, 0)] o62)
 have T74 := T64.kw hown ho73 rfl
 have i75 := iW i65 ho73 rfl
 have i76 := iW q66 ho73 rfl
 have q77 := q68.kz (hE := by decide) ho73 rfl rfl
 have q79 := q69.kw ho73 103 rfl
 have q80 := q70.kw ho73 104 rfl
 have q81 := q71.kw ho73 105 rfl rfl
 obtain ⟨o82, ho83⟩ := ex (lro [(105, 0)] o72)
 have T84 := T74.kw hown ho83 rfl
 have i85 := iW i75 ho83 rfl
 have i86 := iW i76 ho83 rfl
 have i87 := iW q77 ho83 rfl
 have q88 := q79.kw ho83 103 rfl
 have q89 := q80.kw ho83 104 rfl
 have q90 := q81.kz (hE := by decide) ho83 rfl rfl
 obtain ⟨r92, hr93, h⟩ := bind_some h
 refine oc rfl (wp0 rfl) rfl rfl M (x_call cf_29 (m2 (M.e 1 rfl) (M.e 0 rfl))) (chart_Of_calls hr93 (lko_own (T := [(0, 0)]) (o := o82) rfl) (sL i85 rfl) (sL i86 rfl) (sL i87 rfl) (sL q90 rfl)) (fun e8 w94 hp95 => ?_)
 rcases r92 with r92 | r92
 ·rw [scase_l] at h
  cases h
 rw [scase_r] at h
 obtain ⟨o105, z96, z97, z98, z99, z100, z101, z102, z103, z104, he106, q107, q108, q109, q110, q111, q112, i113, i114, i115, T116⟩ := hp95
 obtain ⟨o117, ho118⟩ := ex (mrg w46 o82 [(0, 0), (50, 100), (51, 101), (52, 102), (53, 105), (54, 106), (55, 107)] o105)
 have t119 := T116.r0 ho118
 have q120 := q107.r T116 ho118 100 rfl rfl
 have q121 := q108.r T116 ho118 101 rfl rfl rfl rfl
 have q122 := q109.r T116 ho118 102 rfl rfl rfl rfl
 have q123 := q110.r T116 ho118 105 rfl rfl rfl rfl
 have q124 := q111.r T116 ho118 106 rfl rfl rfl rfl
 have q125 := q112.r T116 ho118 107 rfl rfl
 have i126 := iR i113 T116 ho118 rfl rfl
 have i128 := iR i114 T116 ho118 rfl rfl
 have i130 := iR i115 T116 ho118 rfl rfl
 refine ⟨_, he106, fun a M => ?_⟩
 obtain ⟨A132, c133, hzc133, -⟩ := q121.form
 subst hzc133
 obtain ⟨A134, c135, hzc135, -⟩ := q122.form
 subst hzc135
 obtain ⟨A136, c137, hzc137, -⟩ := q123.form
 subst hzc137
 obtain ⟨A138, c139, hzc139, -⟩ := q124.form
 subst hzc139
 obtain ⟨A140, c141, hzc141, -⟩ := im_form i126
 subst hzc141
 obtain ⟨A142, c143, hzc143, -⟩ := im_form i128
 subst hzc143
 obtain ⟨A144, c145, hzc145, -⟩ := im_form i130
 subst hzc145
 refine pn (j := 8) E 5 M rfl rfl fun a M => x_end rfl <| q_then <| c_seq <| c_reg ?_
 have hb146 : ∀ w : World, (Instr.build 25 #[]).run Try.prog w = .ok (.agg #[.slice none 0 0, .slice none 0 0, .slice none 0 0]) w := fun w => by go_simp
 refine ov rfl rfl M (x_build l0 hb146) fun a M => ?_
 obtain ⟨r147, hr148, h⟩ := bind_some h
 refine oc rfl (wp0 rfl) rfl rfl M (x_call cf_29 (m2 (M.e 0 rfl) (e_const (v := .slice none 0 0)))) (chart_Of_calls hr148 (lko_own (T := [(0, 0)]) (o := o117) rfl) im_nil im_nil im_nil im_nil) (fun e9 w149 hp150 => ?_)
 rcases r147 with r147 | r147
 ·rw [scase_l] at h
  obtain ⟨o151, he152, T153⟩ := hp150
  obtain ⟨o154, ho155⟩ := ex (mrg w94 o117 [(0, 0)] o151)
  have t156 := T153.r0 ho155
  refine ⟨_, he152, fun a M => ?_⟩
  refine pn (j := 7) E 5 M rfl rfl fun a M => x_end rfl <| q_then <| c_seq ?_
  have u10 := (q88.kn t119).kn t156
  have u11 := (q89.kn t119).kn t156
  have u12 := q120.kn t156
  have u13 := q121.kn t156
  have u14 := q122.kn t156
  have u15 := q123.kn t156
  have u16 := q124.kn t156
  have u17 := q125.kn t156
  have u18 := iN (iN i85 t119) t156
  have u19 := iN (iN i86 t119) t156
  have u20 := iN (iN i87 t119) t156
  have u21 := iN i126 t156
  have u22 := iN i128 t156
  have u23 := iN i130 t156
  have u24 := (T84.kn t119).kn t156
  obtain ⟨o157, ho158⟩ := ex (clo [100, 101, 102, 103, 104, 105, 106, 107] o154)
  have T159 := u24.kc hown ho158
  have hcl160 := hcl ho158
  have i161 := iC u18 ho158
  have i162 := iC u19 ho158
  have i163 := iC u20 ho158
  have i164 := iC u21 ho158
  have i165 := iC u22 ho158
  have i166 := iC u23 ho158
  have q167 := u10.kc ho158 rfl
  have q168 := u11.kc ho158 rfl
  have q169 := u12.kc ho158 rfl
  have q170 := u13.kc ho158 rfl
  have q171 := u14.kc ho158 rfl
  have q172 := u15.kc ho158 rfl
  have q173 := u16.kc ho158 rfl
  have q174 := u17.kc ho158 rfl
  obtain ⟨hc176, h⟩ := ifs h
  obtain ⟨r189, hr190, h⟩ := bind_some h
  rcases r189 with r189 | r189
  ·rw [scase_l] at h
   refine draw_m mixed [0, 0, 3, 7, 15, 15, 31, 127] (by kernel_rfl) rfl M (fun U a w => ∃ (o : Own) (A183 : Option Addr) (c184 : Nat), Tab [(0, 26, .agg #[.slice A20 r1.1.length c21, .slice A22 r1.2.1.length c23, .slice A24 r1.2.2.length c25]), (2, 28, .tuple #[.pointer none, .int .i64 r189]), (3, 25, .tuple #[.pointer none, .int .i64 r189]), (4, 29, .pointer none), (5, 30, .int .i64 r189), (6, 7, .pointer none), (7, 8, .int .i64 r189)] U a ∧ Tab [(1, 27, .slice A183 (List.replicate ((41 : Int)).toNat (0 : Int)).length c184)] U a ∧ Tr (FL [] o157 U) w149 o157 w o ∧ (U 1 = true → U 2 = false → Row (tInt .i64) 3 w o 108 (.slice A183 (List.replicate ((41 : Int)).toNat (0 : Int)).length c184) (List.replicate ((41 : Int)).toNat (0 : Int))) ∧ (U 2 = true → (tSlice 3 (tInt .i64) (by decide)).im w (L o 0) (List.replicate ((41 : Int)).toNat (0 : Int)) [.slice A183 (List.replicate ((41 : Int)).toNat (0 : Int)).length c184])) ?_ ⟨?_, ?_, ?_, ?_, ?_, ?_, ?_, ?_, trivial⟩ ?_
   ·exact ⟨o157, none, 0, Tab.start, Tab.start, FL.start (tr_drew _ _), fun h => Bool.noConfusion h, fun h => Bool.noConfusion h⟩
   ·intro U a w M hL hA hD hI
    obtain ⟨o, A183, c184, TG0, TG1, tr, FE0, FE1⟩ := hI
    refine dv rfl rfl M (x_loadN (ldn_25 _ rfl) (M.e 16 rfl) ((q167.keep_ (FL.same tr trivial)).sub (cs := #[.slice A20 r1.1.length c21, .slice A22 r1.2.1.length c23, .slice A24 r1.2.2.length c25]) 0 rfl)) fun a' p => ?_
    exact ⟨M.st p rfl, o, A183, c184, (TG0.step p 0 rfl rfl), (TG1.other p rfl), (FL.idle tr), FE0, FE1⟩
   ·intro U a w M hL hA hD hI
    obtain ⟨o, A183, c184, TG0, TG1, tr, FE0, FE1⟩ := hI
    obtain ⟨v177, w178, o179, r180, b181, t182⟩ := run_make_row el_3 Try.underlying26 w o 108 .i64 .i64 (41 : Int) hc176.1 hc176.2
    obtain ⟨A183, c184, rfl, -⟩ := b181.form
    refine dv rfl rfl M (x_makeSlice (e_const (v := .int .i64 (41 : Int))) (e_const (v := .int .i64 (41 : Int))) r180) fun a' p => ?_
    exact ⟨M.st p rfl, o179, A183, c184, (TG0.other p rfl), (Tab.mk hD p 0 rfl rfl), (FL.stepNo tr t182), (fun _ _ => b181), (fun h => ab (hD 2 rfl) rfl h)⟩
   ·intro U a w M hL hA hD hI
    obtain ⟨o, A183, c184, TG0, TG1, tr, FE0, FE1⟩ := hI
    obtain ⟨o185, ho186⟩ := ex (lro [(108, 0)] o)
    have t187 := FL.kw tr hcl160 ho186 rfl
    refine dc rfl (wp0 rfl) rfl rfl M (x_call cf_29 (m2 (e_tmp (TG0.get 0 rfl (hA 0 rfl))) (e_tmp (TG1.get 0 rfl (hA 1 rfl))))) (chart_Of_calls hr190 (lko_own (T := [(0, 0)]) (o := o185) rfl) (sL (iW (Ty.loc _ (FL.same tr trivial) i161) ho186 rfl) rfl) (sL (iW (Ty.loc _ (FL.same tr trivial) i162) ho186 rfl) rfl) (sL (iW (Ty.loc _ (FL.same tr trivial) i163) ho186 rfl) rfl) (sL (Row.kz (hE := by decide) (FE0 (hA 1 rfl) hL) ho186 rfl rfl) rfl)) (fun e27 w191 hp192 => ?_)
    obtain ⟨o193, he194, T195⟩ := hp192
    obtain ⟨o196, ho197⟩ := ex (mrg w o185 [(0, 0)] o193)
    have t198 := T195.r0 ho197
    refine ⟨_, he194, fun a' p => ?_⟩
    exact ⟨M.st p rfl, o196, A183, c184, (TG0.step p 1 rfl rfl), (TG1.other p rfl), (FL.stepNo t187 t198), (fun _ h => Bool.noConfusion h), (fun _ => (Ty.loc _ (t198.sameNo) (Row.kz (hE := by decide) (FE0 (hA 1 rfl) hL) ho186 rfl rfl)))⟩
   ·intro U a w M hL hA hD hI
    obtain ⟨o, A183, c184, TG0, TG1, tr, FE0, FE1⟩ := hI
    refine dv rfl rfl M (x_move (e_tmp (TG0.get 1 rfl (hA 2 rfl)))) fun a' p => ?_
    exact ⟨M.st p rfl, o, A183, c184, (TG0.step p 2 rfl rfl), (TG1.other p rfl), (FL.idle tr), FE0, FE1⟩
   ·intro U a w M hL hA hD hI
    obtain ⟨o, A183, c184, TG0, TG1, tr, FE0, FE1⟩ := hI
    refine dv rfl rfl M (x_extract (e_tmp (TG0.get 2 rfl (hA 3 rfl))) rfl) fun a' p => ?_
    exact ⟨M.st p rfl, o, A183, c184, (TG0.step p 3 rfl rfl), (TG1.other p rfl), (FL.idle tr), FE0, FE1⟩
   ·intro U a w M hL hA hD hI
    obtain ⟨o, A183, c184, TG0, TG1, tr, FE0, FE1⟩ := hI
    refine dv rfl rfl M (x_extract (e_tmp (TG0.get 2 rfl (hA 3 rfl))) rfl) fun a' p => ?_
    exact ⟨M.st p rfl, o, A183, c184, (TG0.step p 4 rfl rfl), (TG1.other p rfl), (FL.idle tr), FE0, FE1⟩
   ·intro U a w M hL hA hD hI
    obtain ⟨o, A183, c184, TG0, TG1, tr, FE0, FE1⟩ := hI
    refine dv rfl rfl M (x_assign (e_tmp (TG0.get 3 rfl (hA 4 rfl)))) fun a' p => ?_
    exact ⟨M.st p rfl, o, A183, c184, (TG0.step p 5 rfl rfl), (TG1.other p rfl), (FL.idle tr), FE0, FE1⟩
   ·intro U a w M hL hA hD hI
    obtain ⟨o, A183, c184, TG0, TG1, tr, FE0, FE1⟩ := hI
    refine dv rfl rfl M (x_assign (e_tmp (TG0.get 4 rfl (hA 5 rfl)))) fun a' p => ?_
    exact ⟨M.st p rfl, o, A183, c184, (TG0.step p 6 rfl rfl), (TG1.other p rfl), (FL.idle tr), FE0, FE1⟩
   intro U a w199 M hA hI
   obtain ⟨o200, A183, c184, TG0, TG1, tr, FE0, FE1⟩ := hI
   have M := M.ad (TG0.get 6 rfl (hA 7 rfl))
   have q201 := (q168.keep_ (FL.same tr trivial))
   have q202 := (q169.keep_ (FL.same tr trivial))
   have q203 := (q170.keep_ (FL.same tr trivial) (FL.same tr trivial))
   have q204 := (q171.keep_ (FL.same tr trivial) (FL.same tr trivial))
   have q205 := (q172.keep_ (FL.same tr trivial) (FL.same tr trivial))
   have q206 := (q173.keep_ (FL.same tr trivial) (FL.same tr trivial))
   have q207 := (q174.keep_ (FL.same tr trivial))
   have i208 := (Ty.loc _ (FL.same tr trivial) i164)
   have i209 := (Ty.loc _ (FL.same tr trivial) i165)
   have i210 := (Ty.loc _ (FL.same tr trivial) i166)
   have T211 := Tr.kf T159 tr hown rfl
   clear hA TG0 TG1 tr FE0 FE1
   refine q_then <| c_seq <| c_seq <| c_reg <| pn (j := 1) E 1 M rfl rfl fun a M => ov rfl rfl M (x_load ld_35 (M.e 0 rfl) (q201.cell (n := 0) rfl)) fun a M => pn (j := 4) E 2 M rfl rfl fun a M => ?_
   by_cases hk30 : ((0 : Int) != (0 : Int)) = true
   ·rw [if_pos hk30] at h
    have M := M.k 34 rfl hk30
    refine pn (j := 11) E 7 M rfl rfl fun a M => x_end rfl <| q_then <| c_true (M.e 0 rfl) <| c_seq <| c_reg ?_
    have M := M.pk [] rfl
    refine pn (j := 1) E 1 M rfl rfl fun a M => x_end rfl <| q_then <| wp_ret <| q_then_ret ?_
    obtain rfl := sj h
    exact ⟨M.f.defers, _, (res1 Try.results26 (rv_tmp (M.t 0 rfl))), ⟨o200, rfl, T211⟩⟩
   rw [if_neg hk30] at h
   have hk30 := nott hk30
   have M := M.k 34 rfl hk30
   refine pn (j := 8) E 4 M rfl rfl fun a M => ?_
   have M := M.k 38 rfl hk30
   refine pn (j := 11) E 3 M rfl rfl fun a M => x_end rfl <| q_then <| c_false (M.e 0 rfl) <| wp_skip <| q_then <| c_seq <| c_reg <| pn (j := 1) E 1 M rfl rfl fun a M => ?_
   obtain ⟨r212, hr213, h⟩ := bind_some h
   refine oc rfl (wp0 rfl) rfl rfl M (x_call cf_30 (m1 (M.e 0 rfl))) (chart_Chart_Spans_calls hr213 (lko_own (T := [(0, 0), (100, 1), (101, 2), (102, 3), (105, 4), (106, 5), (107, 6)]) (o := o200) rfl) (sL i208 rfl) (sL i209 rfl) (sL i210 rfl) (q202.l rfl) (q203.l rfl rfl) (q204.l rfl rfl) (q205.l rfl rfl) (q206.l rfl rfl) (q207.l rfl)) (fun e31 w214 hp215 => ?_)
   obtain ⟨o217, z216, he218, q219, T220⟩ := hp215
   obtain ⟨o221, ho222⟩ := ex (mrg w199 o200 [(0, 0), (1, 100), (2, 101), (3, 102), (4, 105), (5, 106), (6, 107), (50, 103)] o217)
   have t223 := T220.r0 ho222
   have q224 := q219.r T220 ho222 103 rfl rfl rfl rfl
   refine ⟨_, he218, fun a M => ?_⟩
   obtain ⟨A225, c226, hzc226, -⟩ := q224.form
   subst hzc226
   refine pn (j := 3) E 1 M rfl rfl fun a M => x_end rfl <| q_then <| c_seq <| c_reg <| pn (j := 4) E 4 M rfl rfl fun a M => ?_
   by_cases hk32 : ((r212.length : Int) == (3 : Int)) = true
   ·rw [if_pos hk32] at h
    have M := M.k 47 rfl hk32
    refine pn (j := 5) E 1 M rfl rfl fun a M => ?_
    obtain ⟨x227, hx228, h⟩ := bind_some h
    obtain ⟨hx2280, hx2281, hx2282⟩ := at_some hx228
    obtain ⟨g229, f230, c231, ds232, hv233, hd234, he235⟩ := Row.elem q224 hx2281
    have hsds232 := Span_open hd234
    subst hsds232
    have he235 : ElemAt w214 o221 103 g229 f230 ((1 : Int)).toNat 3 [.int .i64 x227.sym, .int .i64 x227.i, .int .i64 x227.j] := he235
    refine ow rfl (wanted_yes rfl rfl (M.t 1 rfl)) rfl rfl M (x_indexAddr Try.underlying38 sz_42 ((M.e 0 rfl).trans hv233) (e_const (v := .int .i64 (1 : Int))) hx2280 hx2282) fun a M => ow rfl (wanted_yes rfl rfl (M.t 2 rfl)) rfl rfl M (x_loadN (ldn_42 _ rfl) (M.e 0 rfl) he235.all) fun a M => ?_
    have hb237 : ∀ w : World, (Instr.build 42 #[(0, .int .i64 (1 : Int)), (2, .int .i64 (1 : Int))]).run Try.prog w = .ok (.agg #[.int .i64 (1 : Int), .int .i64 (0 : Int), .int .i64 (1 : Int)]) w := fun w => by go_simp
    refine ow rfl (wanted_yes rfl rfl (M.t 3 rfl)) rfl rfl M (x_build (l2 (e_const (v := .int .i64 (1 : Int))) (e_const (v := .int .i64 (1 : Int)))) hb237) fun a M => ow rfl (wanted_yes rfl rfl (M.t 4 rfl)) rfl rfl M (x_aggeq (eq_42 _ _ _ _ _ _) ge_42 (M.e 1 rfl) (M.e 0 rfl)) fun a M => pn (j := 11) E 2 M rfl rfl fun a M => ?_
    by_cases hk33 : ((x227.sym == (1 : Int)) && ((x227.i == (0 : Int)) && ((x227.j == (1 : Int)) && true))) = true
    ·rw [if_pos hk33] at h
     have M := M.k 54 rfl hk33
     refine pn (j := 12) E 1 M rfl rfl fun a M => ?_
     have hb238 : ∀ w : World, (Instr.build 42 #[(0, .int .i64 (0 : Int)), (2, .int .i64 (1 : Int))]).run Try.prog w = .ok (.agg #[.int .i64 (0 : Int), .int .i64 (0 : Int), .int .i64 (1 : Int)]) w := fun w => by go_simp
     refine ow rfl (wanted_yes rfl rfl (M.t 1 rfl)) rfl rfl M (x_build (l2 (e_const (v := .int .i64 (0 : Int))) (e_const (v := .int .i64 (1 : Int)))) hb238) fun a M => ?_
     obtain ⟨r239, hr240, h⟩ := bind_some h
     refine oc rfl (wanted_yes rfl rfl (M.t 2 rfl)) rfl rfl M (x_call cf_31 (m2 (M.e 1 rfl) (M.e 0 rfl))) (chart_Chart_Sym_calls hr240 (lko_own (T := [(0, 0), (100, 1), (101, 2), (102, 3), (105, 4), (106, 5), (107, 6)]) (o := o221) rfl) (sL (iN i208 t223) rfl) (sL (iN i209 t223) rfl) (sL (iN i210 t223) rfl) ((q202.kn t223).l rfl) ((q203.kn t223).l rfl rfl) ((q204.kn t223).l rfl rfl) ((q205.kn t223).l rfl rfl) ((q206.kn t223).l rfl rfl) ((q207.kn t223).l rfl)) (fun e34 w241 hp242 => ?_)
     obtain ⟨o243, he244, T245⟩ := hp242
     obtain ⟨o246, ho247⟩ := ex (mrg w214 o221 [(0, 0), (1, 100), (2, 101), (3, 102), (4, 105), (5, 106), (6, 107)] o243)
     have t248 := T245.r0 ho247
     refine ⟨_, he244, fun a M => ?_⟩
     refine pn (j := 16) E 2 M rfl rfl fun a M => ?_
     by_cases hk35 : r239 = true
     ·rw [if_pos hk35] at h
      have M := M.k 59 rfl hk35
      refine pn (j := 17) E 1 M rfl rfl fun a M => ?_
      have hb249 : ∀ w : World, (Instr.build 42 #[(0, .int .i64 (0 : Int)), (1, .int .i64 (1 : Int)), (2, .int .i64 (1 : Int))]).run Try.prog w = .ok (.agg #[.int .i64 (0 : Int), .int .i64 (1 : Int), .int .i64 (1 : Int)]) w := fun w => by go_simp
      refine ow rfl (wanted_yes rfl rfl (M.t 1 rfl)) rfl rfl M (x_build (l3 (e_const (v := .int .i64 (0 : Int))) (e_const (v := .int .i64 (1 : Int))) (e_const (v := .int .i64 (1 : Int)))) hb249) fun a M => ?_
      obtain ⟨r250, hr251, h⟩ := bind_some h
      refine oc rfl (wanted_yes rfl rfl (M.t 2 rfl)) rfl rfl M (x_call cf_31 (m2 (M.e 1 rfl) (M.e 0 rfl))) (chart_Chart_Sym_calls hr251 (lko_own (T := [(0, 0), (100, 1), (101, 2), (102, 3), (105, 4), (106, 5), (107, 6)]) (o := o246) rfl) (sL (iN (iN i208 t223) t248) rfl) (sL (iN (iN i209 t223) t248) rfl) (sL (iN (iN i210 t223) t248) rfl) (((q202.kn t223).kn t248).l rfl) (((q203.kn t223).kn t248).l rfl rfl) (((q204.kn t223).kn t248).l rfl rfl) (((q205.kn t223).kn t248).l rfl rfl) (((q206.kn t223).kn t248).l rfl rfl) (((q207.kn t223).kn t248).l rfl)) (fun e36 w252 hp253 => ?_)
      obtain ⟨o254, he255, T256⟩ := hp253
      obtain ⟨o257, ho258⟩ := ex (mrg w241 o246 [(0, 0), (1, 100), (2, 101), (3, 102), (4, 105), (5, 106), (6, 107)] o254)
      have t259 := T256.r0 ho258
      refine ⟨_, he255, fun a M => ?_⟩
      refine pn (j := 22) E 3 M rfl rfl fun a M => ?_
      by_cases hk37 : (!r250) = true
      ·rw [if_pos hk37] at h
       have M := M.k 65 rfl hk37
       refine pn (j := 23) E 1 M rfl rfl fun a M => ?_
       have hb260 : ∀ w : World, (Instr.build 46 #[(0, .int .i64 (0 : Int)), (1, .int .i64 (2 : Int)), (3, .int .i64 (1 : Int))]).run Try.prog w = .ok (.agg #[.int .i64 (0 : Int), .int .i64 (2 : Int), .int .i64 (0 : Int), .int .i64 (1 : Int)]) w := fun w => by go_simp
       refine ow rfl (wanted_yes rfl rfl (M.t 1 rfl)) rfl rfl M (x_build (l3 (e_const (v := .int .i64 (0 : Int))) (e_const (v := .int .i64 (2 : Int))) (e_const (v := .int .i64 (1 : Int)))) hb260) fun a M => ?_
       have u38 := iN (iN (iN i208 t223) t248) t259
       have u39 := iN (iN (iN i209 t223) t248) t259
       have u40 := iN (iN (iN i210 t223) t248) t259
       have u41 := ((q202.kn t223).kn t248).kn t259
       have u42 := ((q203.kn t223).kn t248).kn t259
       have u43 := ((q204.kn t223).kn t248).kn t259
       have u44 := ((q205.kn t223).kn t248).kn t259
       have u45 := ((q206.kn t223).kn t248).kn t259
       have u46 := ((q207.kn t223).kn t248).kn t259
       obtain ⟨r261, hr262, h⟩ := bind_some h
       refine oc rfl (wanted_yes rfl rfl (M.t 2 rfl)) rfl rfl M (x_call cf_32 (m2 (M.e 1 rfl) (M.e 0 rfl))) (chart_Chart_Part_calls hr262 (lko_own (T := [(0, 0), (100, 1), (101, 2), (102, 3), (105, 4), (106, 5), (107, 6)]) (o := o257) rfl) (sL u38 rfl) (sL u39 rfl) (sL u40 rfl) (u41.l rfl) (u42.l rfl rfl) (u43.l rfl rfl) (u44.l rfl rfl) (u45.l rfl rfl) (u46.l rfl)) (fun e47 w263 hp264 => ?_)
       obtain ⟨o265, he266, T267⟩ := hp264
       obtain ⟨o268, ho269⟩ := ex (mrg w252 o257 [(0, 0), (1, 100), (2, 101), (3, 102), (4, 105), (5, 106), (6, 107)] o265)
       have t270 := T267.r0 ho269
       refine ⟨_, he266, fun a M => ?_⟩
       refine pn (j := 27) E 2 M rfl rfl fun a M => ?_
       by_cases hk48 : r261 = true
       ·rw [if_pos hk48] at h
        have M := M.k 70 rfl hk48
        refine pn (j := 28) E 1 M rfl rfl fun a M => ?_
        have hb271 : ∀ w : World, (Instr.build 46 #[(0, .int .i64 (0 : Int)), (1, .int .i64 (2 : Int)), (3, .int .i64 (1 : Int))]).run Try.prog w = .ok (.agg #[.int .i64 (0 : Int), .int .i64 (2 : Int), .int .i64 (0 : Int), .int .i64 (1 : Int)]) w := fun w => by go_simp
        refine ow rfl (wanted_yes rfl rfl (M.t 1 rfl)) rfl rfl M (x_build (l3 (e_const (v := .int .i64 (0 : Int))) (e_const (v := .int .i64 (2 : Int))) (e_const (v := .int .i64 (1 : Int)))) hb271) fun a M => ?_
        obtain ⟨r272, hr273, h⟩ := bind_some h
        refine oc rfl (wanted_yes rfl rfl (M.t 2 rfl)) rfl rfl M (x_call cf_34 (m2 (M.e 1 rfl) (M.e 0 rfl))) (chart_Chart_Pivots_calls hr273 (lko_own (T := [(0, 0), (100, 1), (101, 2), (102, 3), (105, 4), (106, 5), (107, 6)]) (o := o268) rfl) (sL (iN u38 t270) rfl) (sL (iN u39 t270) rfl) (sL (iN u40 t270) rfl) ((u41.kn t270).l rfl) ((u42.kn t270).l rfl rfl) ((u43.kn t270).l rfl rfl) ((u44.kn t270).l rfl rfl) ((u45.kn t270).l rfl rfl) ((u46.kn t270).l rfl)) (fun e49 w274 hp275 => ?_)
        obtain ⟨o277, z276, he278, q279, T280⟩ := hp275
        obtain ⟨o281, ho282⟩ := ex (mrg w263 o268 [(0, 0), (1, 100), (2, 101), (3, 102), (4, 105), (5, 106), (6, 107), (50, 104)] o277)
        have t283 := T280.r0 ho282
        have q284 := q279.r T280 ho282 104 rfl rfl rfl rfl
        refine ⟨_, he278, fun a M => ?_⟩
        obtain ⟨A285, c286, hzc286, -⟩ := q284.form
        subst hzc286
        have r289 : (Instr.buildSlice 26 2 #[(0, .int .i64 (0 : Int)), (1, .int .i64 (1 : Int))]).run Try.prog w274 = .ok (.slice (some ⟨w274.heap.size, 0, none⟩) 2 2) (w274.alloc (.cells ([.int .i64 (0 : Int), .int .i64 (1 : Int)] : List Value).toArray 3)) := by go_simp
        obtain ⟨b290, t291⟩ := Row.lit (E := (tInt .i64)) (e := 3) (l := [(0 : Int), (1 : Int)]) (by decide) w274 o281 108 (cs := [.int .i64 (0 : Int), .int .i64 (1 : Int)]) ⟨[.int .i64 (0 : Int)], _, rfl, rfl, ⟨[.int .i64 (1 : Int)], _, rfl, rfl, rfl⟩⟩ (by simp)
        generalize hww287 : w274.alloc _ = w287 at r289 b290 t291
        generalize upd o281 _ 108 = o288 at b290 t291
        generalize hgg292 : w274.heap.size = g292 at r289 b290
        clear hww287 hgg292
        refine ow rfl (wanted_yes rfl rfl (M.t 3 rfl)) rfl rfl M (x_buildSlice (l2 (e_const (v := .int .i64 (0 : Int))) (e_const (v := .int .i64 (1 : Int)))) r289) fun a M => ?_
        obtain ⟨r293, hr294, h⟩ := bind_some h
        refine oc rfl (wanted_yes rfl rfl (M.t 4 rfl)) rfl rfl M (x_call cf_40 (m2 (M.e 1 rfl) (M.e 0 rfl))) (keep_Ints_calls hr294 (lko_own (T := [(0, 0), (104, 0), (108, 0)]) (o := o288) rfl) ((q284.kn t291).lend rfl rfl) (b290.lend rfl rfl)) (fun e50 w295 hp296 => ?_)
        obtain ⟨o297, he298, T299⟩ := hp296
        obtain ⟨o300, ho301⟩ := ex (mrg w287 o288 [(0, 0)] o297)
        have t302 := T299.r0 ho301
        refine ⟨_, he298, fun a M => ?_⟩
        refine pn (j := 34) E 2 M rfl rfl fun a M => ?_
        by_cases hk51 : r293 = true
        ·rw [if_pos hk51] at h
         have M := M.k 77 rfl hk51
         refine pn (j := 38) E 4 M rfl rfl fun a M => ?_
         by_cases hk52 : (r147 == (16 : Int)) = true
         ·rw [if_pos hk52] at h
          have M := M.k 81 rfl hk52
          refine pn (j := 41) E 3 M rfl rfl fun a M => ?_
          have M := M.pk [0, 1, 2, 3, 4, 5, 6, 7, 8, 9, 10, 11, 12, 13, 14, 15, 16, 17, 18, 19, 20, 21, 22, 23, 24, 25, 26, 27, 28, 29, 30, 31, 32, 33, 34, 35, 36, 37, 38, 39, 40, 41, 55, 56, 64] rfl
          refine pn (j := 42) E 1 M rfl rfl fun a M => x_end rfl <| q_then <| wp_ret ?_
          have u53 := ((((((T211.kn t223).kn t248).kn t259).kn t270).kn t283).kn t291).kn t302
          obtain rfl := sj h
          exact ⟨M.f.defers, _, (res1 Try.results26 (rv_tmp (M.t 0 rfl))), ⟨o300, rfl, u53⟩⟩
         rw [if_neg hk52] at h
         have hk52 := nott hk52
         have M := M.k 81 rfl hk52
         refine pn (j := 41) E 3 M rfl rfl fun a M => ?_
         have M := M.pk [0, 1, 2, 3, 4, 5, 6, 7, 8, 9, 10, 11, 12, 13, 14, 15, 16, 17, 18, 19, 20, 21, 22, 23, 24, 25, 26, 27, 28, 29, 30, 31, 32, 33, 34, 35, 36, 37, 38, 39, 40, 41, 55, 56, 64] rfl
         refine pn (j := 42) E 1 M rfl rfl fun a M => x_end rfl <| q_then <| wp_ret ?_
         have u54 := ((((((T211.kn t223).kn t248).kn t259).kn t270).kn t283).kn t291).kn t302
         obtain rfl := sj h
         exact ⟨M.f.defers, _, (res1 Try.results26 (rv_tmp (M.t 0 rfl))), ⟨o300, rfl, u54⟩⟩
        rw [if_neg hk51] at h
        have hk51 := nott hk51
        have M := M.k 77 rfl hk51
        refine pn (j := 41) E 7 M rfl rfl fun a M => ?_
        have M := M.pk [0, 1, 2, 3, 4, 5, 6, 7, 8, 9, 10, 11, 12, 13, 14, 15, 16, 17, 18, 19, 20, 21, 22, 23, 24, 25, 26, 27, 28, 29, 30, 31, 32, 33, 34, 35, 36, 37, 38, 39, 40, 41, 55, 56, 64] rfl
        refine pn (j := 42) E 1 M rfl rfl fun a M => x_end rfl <| q_then <| wp_ret ?_
        have u55 := ((((((T211.kn t223).kn t248).kn t259).kn t270).kn t283).kn t291).kn t302
        obtain rfl := sj h
        exact ⟨M.f.defers, _, (res1 Try.results26 (rv_tmp (M.t 0 rfl))), ⟨o300, rfl, u55⟩⟩
       rw [if_neg hk48] at h
       have hk48 := nott hk48
       have M := M.k 70 rfl hk48
       refine pn (j := 41) E 14 M rfl rfl fun a M => ?_
       have M := M.pk [0, 1, 2, 3, 4, 5, 6, 7, 8, 9, 10, 11, 12, 13, 14, 15, 16, 17, 18, 19, 20, 21, 22, 23, 24, 25, 26, 27, 28, 29, 30, 31, 32, 33, 34, 35, 36, 37, 38, 39, 40, 41, 55, 56, 64] rfl
       refine pn (j := 42) E 1 M rfl rfl fun a M => x_end rfl <| q_then <| wp_ret ?_
       have u56 := (((T211.kn t223).kn t248).kn t259).kn t270
       obtain rfl := sj h
       exact ⟨M.f.defers, _, (res1 Try.results26 (rv_tmp (M.t 0 rfl))), ⟨o268, rfl, u56⟩⟩
      rw [if_neg hk37] at h
      have hk37 := nott hk37
      have M := M.k 65 rfl hk37
      refine pn (j := 41) E 19 M rfl rfl fun a M => ?_
      have M := M.pk [0, 1, 2, 3, 4, 5, 6, 7, 8, 9, 10, 11, 12, 13, 14, 15, 16, 17, 18, 19, 20, 21, 22, 23, 24, 25, 26, 27, 28, 29, 30, 31, 32, 33, 34, 35, 36, 37, 38, 39, 40, 41, 55, 56, 64] rfl
      refine pn (j := 42) E 1 M rfl rfl fun a M => x_end rfl <| q_then <| wp_ret ?_
      have u57 := ((T211.kn t223).kn t248).kn t259
      obtain rfl := sj h
      exact ⟨M.f.defers, _, (res1 Try.results26 (rv_tmp (M.t 0 rfl))), ⟨o257, rfl, u57⟩⟩
     rw [if_neg hk35] at h
     have hk35 := nott hk35
     have M := M.k 59 rfl hk35
     refine pn (j := 41) E 25 M rfl rfl fun a M => ?_
     have M := M.pk [0, 1, 2, 3, 4, 5, 6, 7, 8, 9, 10, 11, 12, 13, 14, 15, 16, 17, 18, 19, 20, 21, 22, 23, 24, 25, 26, 27, 28, 29, 30, 31, 32, 33, 34, 35, 36, 37, 38, 39, 40, 41, 55, 56, 64] rfl
     refine pn (j := 42) E 1 M rfl rfl fun a M => x_end rfl <| q_then <| wp_ret ?_
     have u58 := (T211.kn t223).kn t248
     obtain rfl := sj h
     exact ⟨M.f.defers, _, (res1 Try.results26 (rv_tmp (M.t 0 rfl))), ⟨o246, rfl, u58⟩⟩
    rw [if_neg hk33] at h
    have hk33 := nott hk33
    have M := M.k 54 rfl hk33
    refine pn (j := 41) E 30 M rfl rfl fun a M => ?_
    have M := M.pk [0, 1, 2, 3, 4, 5, 6, 7, 8, 9, 10, 11, 12, 13, 14, 15, 16, 17, 18, 19, 20, 21, 22, 23, 24, 25, 26, 27, 28, 29, 30, 31, 32, 33, 34, 35, 36, 37, 38, 39, 40, 41, 55, 56, 64] rfl
    refine pn (j := 42) E 1 M rfl rfl fun a M => x_end rfl <| q_then <| wp_ret ?_
    have u59 := T211.kn t223
    obtain rfl := sj h
    exact ⟨M.f.defers, _, (res1 Try.results26 (rv_tmp (M.t 0 rfl))), ⟨o221, rfl, u59⟩⟩
   rw [if_neg hk32] at h
   have hk32 := nott hk32
   have M := M.k 47 rfl hk32
   refine pn (j := 41) E 37 M rfl rfl fun a M => ?_
   have M := M.pk [0, 1, 2, 3, 4, 5, 6, 7, 8, 9, 10, 11, 12, 13, 14, 15, 16, 17, 18, 19, 20, 21, 22, 23, 24, 25, 26, 27, 28, 29, 30, 31, 32, 33, 34, 35, 36, 37, 38, 39, 40, 41, 55, 56, 64] rfl
   refine pn (j := 42) E 1 M rfl rfl fun a M => x_end rfl <| q_then <| wp_ret ?_
   have u60 := T211.kn t223
   obtain rfl := sj h
   exact ⟨M.f.defers, _, (res1 Try.results26 (rv_tmp (M.t 0 rfl))), ⟨o221, rfl, u60⟩⟩
  rw [scase_r] at h
  cases h
 rw [scase_r] at h
 cases h
end Go.Proofs.Ythilemcdhkfhlaa
namespace Go.Proofs.Ythilemcdhkfhlaa
open Go Go.RowKit Go.Gc Go.Proofs
def law24_ChartMore_b0 (k : Nat) (p1 : Grammar) (p15 : Rule) (y319 : Int) (y320 : List Int) : Option ((Int × (List Int)) ⊕ (List Int)) :=
  if (decide (y319 < (p15.right.length : Int))) = true then ((at? p15.right y319).bind fun x423 => (keep_Mod k x423 (IntKind.wrap .i64 ((p1.terms.length : Int) + (p1.names.length : Int)))).bind fun r433 => if y320.length + [r433].length ≤ 1000000000 then (some (.inl (IntKind.wrap .i64 (y319 + (1 : Int)), y320 ++ [r433]))) else none) else (some (.inr y320))
def law24_ChartMore_b1 (k : Nat) (p1 : Grammar) (p11 : List Int) (r177 : (List Rule)) (r213 : Int) (x478 : (List Int)) (r832 : ((List Bool) × (List Bool) × (List Int) × (List Part) × (List Part))) (r946 : (List Span)) (y1037 : Int) : Option (Int ⊕ (Unit ⊕ Unit)) :=
  if (decide (y1037 < (r946.length : Int))) = true then ((at? r946 y1037).bind fun x1148 => (chart_Chart_Sym k x1148 ((⟨([] : List ByteArray) ++ p1.terms, ([] : List ByteArray) ++ p1.names, r177 ++ [(⟨IntKind.wrap .i64 ((p1.terms.length : Int) + r213), x478⟩ : Rule)]⟩ : Grammar).terms) ((⟨([] : List ByteArray) ++ p1.terms, ([] : List ByteArray) ++ p1.names, r177 ++ [(⟨IntKind.wrap .i64 ((p1.terms.length : Int) + r213), x478⟩ : Rule)]⟩ : Grammar).names) ((⟨([] : List ByteArray) ++ p1.terms, ([] : List ByteArray) ++ p1.names, r177 ++ [(⟨IntKind.wrap .i64 ((p1.terms.length : Int) + r213), x478⟩ : Rule)]⟩ : Grammar).rules) (p11.length : Int) r832.1 r832.2.1 r832.2.2.1 r832.2.2.2.1 1 r832.2.2.2.2).bind fun r1158 => if (!r1158) = true then (some (.inr (.inl ()))) else ((at? r946 y1037).bind fun x1171 => if (decide (x1171.sym < (p1.terms.length : Int))) = true then (some (.inr (.inl ()))) else ((at? r946 y1037).bind fun x1184 => if (decide ((IntKind.wrap .i64 ((p1.terms.length : Int) + (p1.names.length : Int))) ≤ x1184.sym)) = true then (some (.inr (.inl ()))) else (some (.inl (IntKind.wrap .i64 (y1037 + (1 : Int)))))))) else (some (.inr (.inr ())))
def law24_ChartMore_b3 (k : Nat) (p1 : Grammar) (p11 : List Int) (r572 : ((List Bool) × (List Bool) × (List Int) × (List Part) × (List Part))) (y1434 : Int) (y1726 : Int) : Option (Int ⊕ (Unit ⊕ Unit)) :=
  if (decide (y1726 < (p1.terms.length : Int))) = true then ((chart_Chart_Sym k (⟨y1726, y1434, IntKind.wrap .i64 (y1434 + (1 : Int))⟩ : Span) p1.terms p1.names p1.rules (p11.length : Int) r572.1 r572.2.1 r572.2.2.1 r572.2.2.2.1 1 r572.2.2.2.2).bind fun r1807 => (at? p11 y1434).bind fun x1817 => if (!(r1807 == (x1817 == y1726))) = true then (some (.inr (.inl ()))) else ((chart_Chart_Sym k (⟨y1726, y1434, y1434⟩ : Span) p1.terms p1.names p1.rules (p11.length : Int) r572.1 r572.2.1 r572.2.2.1 r572.2.2.2.1 1 r572.2.2.2.2).bind fun r1831 => if r1831 = true then (some (.inr (.inl ()))) else (some (.inl (IntKind.wrap .i64 (y1726 + (1 : Int))))))) else (some (.inr (.inr ())))
def law24_ChartMore_b2 (k : Nat) (p1 : Grammar) (p11 : List Int) (r572 : ((List Bool) × (List Bool) × (List Int) × (List Part) × (List Part))) (y1434 : Int) : Option (Int ⊕ (Unit ⊕ Unit)) :=
  if (decide (y1434 < (p11.length : Int))) = true then ((iter (fun (s : Int) => law24_ChartMore_b3 k p1 p11 r572 y1434 s) k (0 : Int)).bind fun x1844 => scase x1844 (fun x1844 => some (.inr (.inl ()))) (fun x1844 => some (.inl (IntKind.wrap .i64 (y1434 + (1 : Int)))))) else (some (.inr (.inr ())))
def law24_ChartMore (k : Nat) (p1 : Grammar) (p11 : List Int) (p15 : Rule) : Option Bool :=
  ((law24_Small k p1 p11).bind fun r135 => if (!r135) = true then (some true) else ((ref03_Good k p1).bind fun r145 => if (!r145) = true then (some true) else (if (decide ((6 : Int) < (p11.length : Int))) = true then (some true) else (if (decide ((8 : Int) < (p15.right.length : Int))) = true then (some true) else (some (decide ((20 : Int) ≤ (p1.rules.length : Int)))))))).bind fun x133 => if x133 = true then ((law24_wakes k).bind fun r167 => some r167) else ((keep_Own k p1).bind fun r177 => (keep_Mod k p15.left (p1.names.length : Int)).bind fun r213 => (iter (fun (s : (Int × (List Int))) => law24_ChartMore_b0 k p1 p15 s.1 s.2) k ((0 : Int), [])).bind fun x478 => if r177.length + [(⟨IntKind.wrap .i64 ((p1.terms.length : Int) + r213), x478⟩ : Rule)].length ≤ 1000000000 then ((ref03_Good k (⟨([] : List ByteArray) ++ p1.terms, ([] : List ByteArray) ++ p1.names, r177 ++ [(⟨IntKind.wrap .i64 ((p1.terms.length : Int) + r213), x478⟩ : Rule)]⟩ : Grammar)).bind fun r552 => if (!r552) = true then ((law24_wakes k).bind fun r562 => some r562) else ((chart_Of k p1 p11).bind fun r572 => scase r572 (fun r572 => (chart_Of k (⟨([] : List ByteArray) ++ p1.terms, ([] : List ByteArray) ++ p1.names, r177 ++ [(⟨IntKind.wrap .i64 ((p1.terms.length : Int) + r213), x478⟩ : Rule)]⟩ : Grammar) p11).bind fun r621 => scase r621 (fun r621 => (if (r572 != (0 : Int)) = true then (some ()) else (if (r621 != (0 : Int)) = true then (some ()) else (some ()))).bind fun x632 => some false) (fun r621 => (if (r572 != (0 : Int)) = true then (some ()) else (if ((0 : Int) != (0 : Int)) = true then (some ()) else (some ()))).bind fun x695 => some false)) (fun r572 => (chart_Of k (⟨([] : List ByteArray) ++ p1.terms, ([] : List ByteArray) ++ p1.names, r177 ++ [(⟨IntKind.wrap .i64 ((p1.terms.length : Int) + r213), x478⟩ : Rule)]⟩ : Grammar) p11).bind fun r832 => scase r832 (fun r832 => (if ((0 : Int) != (0 : Int)) = true then (some ()) else (if (r832 != (0 : Int)) = true then (some ()) else (some ()))).bind fun x843 => some false) (fun r832 => (if ((0 : Int) != (0 : Int)) = true then (some true) else (some false)).bind fun x916 => if x916 = true then (some false) else ((chart_Chart_Spans k p1.terms p1.names p1.rules (p11.length : Int) r572.1 r572.2.1 r572.2.2.1 r572.2.2.2.1 1 r572.2.2.2.2).bind fun r946 => (iter (fun (s : Int) => law24_ChartMore_b1 k p1 p11 r177 r213 x478 r832 r946 s) k (0 : Int)).bind fun x1197 => scase x1197 (fun x1197 => some false) (fun x1197 => (iter (fun (s : Int) => law24_ChartMore_b2 k p1 p11 r572 s) k (0 : Int)).bind fun x1868 => scase x1868 (fun x1868 => some false) (fun x1868 => (law24_wakes k).bind fun r1878 => some r1878))))))) else none)
theorem law24_ChartMore_calls {k : Nat} {p1 : Grammar} {v2 : Value} {v5 : Value} {v8 : Value} {p11 : List Int} {v12 : Value} {p15 : Rule} {v16 : Value} {r : Bool} (h : law24_ChartMore k p1 p11 p15 = some r) {w0 : World} {o0 : Own} (hown : Hown o0)
    (i4 : ((tSlice 9 tStr (by decide))).im w0 (L o0 0) p1.terms [v2])
    (i7 : ((tSlice 9 tStr (by decide))).im w0 (L o0 0) p1.names [v5])
    (i10 : ((tSlice 28 tyRule (by decide))).im w0 (L o0 0) p1.rules [v8])
    (i14 : ((tSlice 3 (tInt .i64) (by decide))).im w0 (L o0 0) p11 [v12])
    (i18 : ((tSlice 3 (tInt .i64) (by decide))).im w0 (L o0 0) p15.right [v16]) :
    Calls Try.prog 3 #[.agg #[v2, v5, v8], v12, .agg #[.int .i64 p15.left, v16]] w0 (fun e w => ∃ (o1888 : Own), e = .returned (.bool r) ∧ Tr (Ls o0 []) w0 o0 w o1888) := by
 unfold law24_ChartMore at h
 refine startM Try.func3 rfl Try.ntmps3 (show 3 ≤ 192 by decide) fun a M => ?_
 have M : MB 192 [] [(0, .agg #[v2, v5, v8]), (1, v12), (2, .agg #[.int .i64 p15.left, v16])] a := M
 obtain ⟨A19, c20, hzc20, -⟩ := im_form i4
 subst hzc20
 obtain ⟨A21, c22, hzc22, -⟩ := im_form i7
 subst hzc22
 obtain ⟨A23, c24, hzc24, -⟩ := im_form i10
 subst hzc24
 obtain ⟨A25, c26, hzc26, -⟩ := im_form i14
 subst hzc26
 obtain ⟨A27, c28, hzc28, -⟩ := im_form i18
 subst hzc28
 have T0 : Tr (Ls o0 []) w0 o0 w0 o0 := Tr.refl _ _ _
 refine c_seq <| c_reg ?_
 obtain ⟨g29, w30, o31, r32, b33, t34⟩ := b_box (P := Try.prog) (T := 25) (M.e 0 rfl) w0 o0 100
 refine ov rfl rfl M (r32 _ _ _ _ _) fun a M => ?_
 obtain ⟨g35, w36, o37, r38, b39, t40⟩ := b_box (P := Try.prog) (T := 28) (M.e 3 rfl) w30 o31 101
 refine ov rfl rfl M (r38 _ _ _ _ _) fun a M => pn (j := 3) E 1 M rfl rfl fun a M => x_end rfl <| q_then <| c_seq <| c_seq ?_
 obtain ⟨x133, hx134, h⟩ := bind_some h
 refine cut_c (fun (x : Bool) (e : Exit) (a : Act) (w : World) => (e = .normal ∧ ∃ (o132 : Own), MB 192 [] [(1, .slice A25 p11.length c26), (3, .pointer (some ⟨g29, 0, none⟩)), (5, .pointer (some ⟨g35, 0, none⟩)), (44, .bool x)] a ∧ Box w o132 100 g29 25 #[.slice A19 p1.terms.length c20, .slice A21 p1.names.length c22, .slice A23 p1.rules.length c24] ∧ Box w o132 101 g35 28 #[.int .i64 p15.left, .slice A27 p15.right.length c28] ∧ ((tSlice 3 (tInt .i64) (by decide))).im w (L o132 0) p11 [.slice A25 p11.length c26] ∧ ((tSlice 9 tStr (by decide))).im w (L o132 0) p1.terms [.slice A19 p1.terms.length c20] ∧ ((tSlice 9 tStr (by decide))).im w (L o132 0) p1.names [.slice A21 p1.names.length c22] ∧ ((tSlice 28 tyRule (by decide))).im w (L o132 0) p1.rules [.slice A23 p1.rules.length c24] ∧ ((tSlice 3 (tInt .i64) (by decide))).im w (L o132 0) p15.right [.slice A27 p15.right.length c28] ∧ Tr (Ls o0 []) w0 o0 w o132)) x133 ?_ ?_
 ·replace h := hx134
  refine c_reg <| ov rfl rfl M (x_loadN (ldn_25 _ rfl) (M.e 2 rfl) ((b33.kn t40).sub (cs := #[.slice A19 p1.terms.length c20, .slice A21 p1.names.length c22, .slice A23 p1.rules.length c24]) 0 rfl)) fun a M => pn (j := 2) E 1 M rfl rfl fun a M => ?_
  obtain ⟨r135, hr136, h⟩ := bind_some h
  refine oc rfl (wp0 rfl) rfl rfl M (x_call cf_24 (m2 (M.e 1 rfl) (M.e 0 rfl))) (law24_Small_calls hr136 (lko_own (T := [(0, 0)]) (o := o37) rfl) (sL (iN (iN i4 t34) t40) rfl) (sL (iN (iN i7 t34) t40) rfl) (sL (iN (iN i10 t34) t40) rfl) (sL (iN (iN i14 t34) t40) rfl)) (fun e27 w137 hp138 => ?_)
  obtain ⟨o139, he140, T141⟩ := hp138
  obtain ⟨o142, ho143⟩ := ex (mrg w36 o37 [(0, 0)] o139)
  have t144 := T141.r0 ho143
  refine ⟨_, he140, fun a M => ?_⟩
  refine pn (j := 5) E 2 M rfl rfl fun a M => ?_
  by_cases hk28 : (!r135) = true
  ·rw [if_pos hk28] at h
   have M := M.k 23 rfl hk28
   refine pn (j := 26) E 21 M rfl rfl fun a M => x_end rfl ?_
   obtain rfl := sj h
   have u29 := iN (iN (iN i14 t34) t40) t144
   have u30 := iN (iN (iN i4 t34) t40) t144
   have u31 := iN (iN (iN i7 t34) t40) t144
   have u32 := iN (iN (iN i10 t34) t40) t144
   have u33 := iN (iN (iN i18 t34) t40) t144
   have u34 := ((T0.kn t34).kn t40).kn t144
   exact ⟨rfl, ⟨o142, (M.pk [30, 28, 27, 0] rfl), ((b33.kn t40).kn t144), (b39.kn t144), u29, u30, u31, u32, u33, u34⟩⟩
  rw [if_neg hk28] at h
  have hk28 := nott hk28
  have M := M.k 23 rfl hk28
  refine ow rfl (wanted_yes rfl rfl (M.t 0 rfl)) rfl rfl M (x_loadN (ldn_25 _ rfl) (M.e 7 rfl) (((b33.kn t40).kn t144).sub (cs := #[.slice A19 p1.terms.length c20, .slice A21 p1.names.length c22, .slice A23 p1.rules.length c24]) 0 rfl)) fun a M => ?_
  have u35 := iN (iN (iN i4 t34) t40) t144
  have u36 := iN (iN (iN i7 t34) t40) t144
  have u37 := iN (iN (iN i10 t34) t40) t144
  obtain ⟨r145, hr146, h⟩ := bind_some h
  refine oc rfl (wanted_yes rfl rfl (M.t 1 rfl)) rfl rfl M (x_call cf_25 (m1 (M.e 0 rfl))) (ref03_Good_calls hr146 (lko_own (T := [(0, 0)]) (o := o142) rfl) (sL u35 rfl) (sL u36 rfl) (sL u37 rfl)) (fun e38 w147 hp148 => ?_)
  obtain ⟨o149, he150, T151⟩ := hp148
  obtain ⟨o152, ho153⟩ := ex (mrg w137 o142 [(0, 0)] o149)
  have t154 := T151.r0 ho153
  refine ⟨_, he150, fun a M => ?_⟩
  refine pn (j := 10) E 3 M rfl rfl fun a M => ?_
  by_cases hk39 : (!r145) = true
  ·rw [if_pos hk39] at h
   have M := M.k 28 rfl hk39
   refine pn (j := 26) E 16 M rfl rfl fun a M => x_end rfl ?_
   obtain rfl := sj h
   have u40 := iN (iN (iN (iN i14 t34) t40) t144) t154
   have u41 := iN (iN (iN (iN i18 t34) t40) t144) t154
   have u42 := ((b33.kn t40).kn t144).kn t154
   have u43 := (((T0.kn t34).kn t40).kn t144).kn t154
   exact ⟨rfl, ⟨o152, (M.pk [30, 28, 27, 0] rfl), u42, ((b39.kn t144).kn t154), u40, (iN u35 t154), (iN u36 t154), (iN u37 t154), u41, u43⟩⟩
  rw [if_neg hk39] at h
  have hk39 := nott hk39
  have M := M.k 28 rfl hk39
  refine pn (j := 15) E 5 M rfl rfl fun a M => ?_
  by_cases hk44 : (decide ((6 : Int) < (p11.length : Int))) = true
  ·rw [if_pos hk44] at h
   have M := M.k 33 rfl hk44
   refine pn (j := 26) E 11 M rfl rfl fun a M => x_end rfl ?_
   obtain rfl := sj h
   have u45 := iN (iN (iN (iN i14 t34) t40) t144) t154
   have u46 := iN (iN (iN (iN i18 t34) t40) t144) t154
   have u47 := ((b33.kn t40).kn t144).kn t154
   have u48 := (((T0.kn t34).kn t40).kn t144).kn t154
   exact ⟨rfl, ⟨o152, (M.pk [30, 28, 27, 0] rfl), u47, ((b39.kn t144).kn t154), u45, (iN u35 t154), (iN u36 t154), (iN u37 t154), u46, u48⟩⟩
  rw [if_neg hk44] at h
  have hk44 := nott hk44
  have M := M.k 33 rfl hk44
  refine pn (j := 16) E 1 M rfl rfl fun a M => ow rfl (wanted_yes rfl rfl (M.t 1 rfl)) rfl rfl M (x_load ld_26 (M.e 0 rfl) (((b39.kn t144).kn t154).cell (n := 1) rfl)) fun a M => pn (j := 21) E 4 M rfl rfl fun a M => ?_
  by_cases hk49 : (decide ((8 : Int) < (p15.right.length : Int))) = true
  ·rw [if_pos hk49] at h
   have M := M.k 39 rfl hk49
   refine pn (j := 26) E 5 M rfl rfl fun a M => x_end rfl ?_
   obtain rfl := sj h
   have u50 := iN (iN (iN (iN i14 t34) t40) t144) t154
   have u51 := iN (iN (iN (iN i18 t34) t40) t144) t154
   have u52 := ((b33.kn t40).kn t144).kn t154
   have u53 := (((T0.kn t34).kn t40).kn t144).kn t154
   exact ⟨rfl, ⟨o152, (M.pk [30, 28, 27, 0] rfl), u52, ((b39.kn t144).kn t154), u50, (iN u35 t154), (iN u36 t154), (iN u37 t154), u51, u53⟩⟩
  rw [if_neg hk49] at h
  have hk49 := nott hk49
  have M := M.k 39 rfl hk49
  refine pn (j := 22) E 1 M rfl rfl fun a M => ?_
  have u54 := ((b33.kn t40).kn t144).kn t154
  refine ow rfl (wanted_yes rfl rfl (M.t 1 rfl)) rfl rfl M (x_load ld_23 (M.e 0 rfl) (u54.cell (n := 2) rfl)) fun a M => pn (j := 26) E 3 M rfl rfl fun a M => x_end rfl ?_
  obtain rfl := sj h
  have u55 := iN (iN (iN (iN i14 t34) t40) t144) t154
  have u56 := iN (iN (iN (iN i18 t34) t40) t144) t154
  have u57 := (((T0.kn t34).kn t40).kn t144).kn t154
  exact ⟨rfl, ⟨o152, (M.pk [30, 28, 27, 0] rfl), u54, ((b39.kn t144).kn t154), u55, (iN u35 t154), (iN u36 t154), (iN u37 t154), u56, u57⟩⟩
 intro e58 a w155 hO156
 obtain ⟨he157, hO156⟩ := hO156
 subst he157
 obtain ⟨o158, M, q159, q160, i161, i162, i163, i164, i165, T166⟩ := hO156
 refine q_then ?_
 by_cases hk59 : x133 = true
 ·rw [if_pos hk59] at h
  have M := M.k 44 rfl hk59
  refine c_true (M.e 3 rfl) <| c_seq <| c_reg ?_
  obtain ⟨r167, hr168, h⟩ := bind_some h
  refine oc rfl (wp0 rfl) rfl rfl M (x_call cf_26 m0) (law24_wakes_calls hr168 (lko_own (T := [(0, 0)]) (o := o158) rfl)) (fun e60 w169 hp170 => ?_)
  obtain ⟨o171, he172, T173⟩ := hp170
  obtain ⟨o174, ho175⟩ := ex (mrg w155 o158 [(0, 0)] o171)
  have t176 := T173.r0 ho175
  refine ⟨_, he172, fun a M => ?_⟩
  refine pn (j := 2) E 1 M rfl rfl fun a M => x_end rfl <| q_then <| wp_ret <| q_then_ret ?_
  have u61 := T166.kn t176
  obtain rfl := sj h
  exact ⟨M.f.defers, _, (res1 Try.results3 (rv_tmp (M.t 0 rfl))), ⟨o174, rfl, u61⟩⟩
 rw [if_neg hk59] at h
 have hk59 := nott hk59
 have M := M.k 44 rfl hk59
 refine c_false (M.e 3 rfl) <| wp_skip <| q_then <| c_seq <| c_reg <| ov rfl rfl M (x_loadN (ldn_25 _ rfl) (M.e 1 rfl) (q159.sub (cs := #[.slice A19 p1.terms.length c20, .slice A21 p1.names.length c22, .slice A23 p1.rules.length c24]) 0 rfl)) fun a M => ?_
 obtain ⟨r177, hr178, h⟩ := bind_some h
 refine oc rfl (wp0 rfl) rfl rfl M (x_call cf_27 (m1 (M.e 0 rfl))) (keep_Own_calls hr178 (lko_own (T := [(0, 0)]) (o := o158) rfl) (sL i162 rfl) (sL i163 rfl) (sL i164 rfl)) (fun e62 w179 hp180 => ?_)
 obtain ⟨o184, z181, z182, z183, he185, q186, q187, q188, T189⟩ := hp180
 obtain ⟨o190, ho191⟩ := ex (mrg w155 o158 [(0, 0), (50, 102), (51, 103), (52, 104)] o184)
 have t192 := T189.r0 ho191
 have q193 := q186.r T189 ho191 102 rfl rfl rfl rfl
 have q194 := q187.r T189 ho191 103 rfl rfl rfl rfl
 have q195 := q188.r T189 ho191 104 rfl rfl rfl rfl
 refine ⟨_, he185, fun a M => ?_⟩
 obtain ⟨A196, c197, hzc197, -⟩ := q193.form
 subst hzc197
 obtain ⟨A198, c199, hzc199, -⟩ := q194.form
 subst hzc199
 obtain ⟨A200, c201, hzc201, -⟩ := q195.form
 subst hzc201
 obtain ⟨g202, w203, o204, r205, b206, t207⟩ := b_alloc zv_25 a w179 o190 105
 refine ov rfl rfl M (r205 _ _ _ _ _) fun a M => ?_
 obtain ⟨w208, r209, b210, t211⟩ := b_storeN (P := Try.prog) (all' := #[.slice A196 (([] : List ByteArray) ++ p1.terms).length c197, .slice A198 (([] : List ByteArray) ++ p1.names).length c199, .slice A200 r177.length c201]) (.inr trivial) (stn_25 _ rfl) (M.e 0 rfl) (M.e 1 rfl) b206 (show 3 ≤ 3 by decide) (by simp [Value.oneCell']) rfl
 have b210 : Box w208 o204 105 g202 25 #[.slice A196 (([] : List ByteArray) ++ p1.terms).length c197, .slice A198 (([] : List ByteArray) ++ p1.names).length c199, .slice A200 r177.length c201] := b210
 refine os rfl (wp0 rfl) rfl (r209 _ _ _ _ _) <| x_end rfl <| q_then <| c_seq <| c_reg <| pn (j := 1) E 1 M rfl rfl fun a M => ?_
 have u63 := ((q159.kn t192).kn t207).kk t211 rfl
 refine ov rfl rfl M (x_load ld_22 (M.e 0 rfl) (u63.cell (n := 0) rfl)) fun a M => pn (j := 4) E 2 M rfl rfl fun a M => ov rfl rfl M (x_load ld_22 (M.e 0 rfl) (u63.cell (n := 1) rfl)) fun a M => pn (j := 8) E 3 M rfl rfl fun a M => x_end rfl <| q_then <| c_seq ?_
 have u66 := ((q160.kn t192).kn t207).kk t211 rfl
 obtain ⟨r213, hr214, h⟩ := bind_some h
 have u68 := ((q160.kn t192).kn t207).kk t211 rfl
 have u69 := iK (iN (iN i161 t192) t207) t211 rfl
 have u70 := iK (iN (iN i162 t192) t207) t211 rfl
 have u71 := iK (iN (iN i163 t192) t207) t211 rfl
 have u72 := iK (iN (iN i164 t192) t207) t211 rfl
 have u73 := iK (iN (iN i165 t192) t207) t211 rfl
 have u75 := ((T166.kn t192).kn t207).kk t211 hown rfl
 refine draw_m mixed [0, 1, 3, 0, 8, 0, 32, 96, 248, 511, 1023, 0, 4095] (by kernel_rfl) rfl M (fun U a w => ∃ (o : Own) (g224 : Nat), Tab [(0, 55, .pointer (some ⟨g29, 0, none⟩)), (1, 56, .slice A19 p1.terms.length c20), (2, 57, .int .i64 (p1.terms.length : Int)), (3, 58, .pointer (some ⟨g35, 0, none⟩)), (4, 59, .int .i64 p15.left), (5, 60, .pointer (some ⟨g29, 1, none⟩)), (6, 61, .slice A21 p1.names.length c22), (7, 62, .int .i64 (p1.names.length : Int)), (8, 63, .int .i64 r213), (9, 64, .int .i64 (IntKind.wrap .i64 ((p1.terms.length : Int) + r213))), (10, 65, .agg #[.int .i64 (IntKind.wrap .i64 ((p1.terms.length : Int) + r213)), .slice none 0 0])] U a ∧ Tab [(11, 9, .pointer (some ⟨g224, 0, none⟩))] U a ∧ Tr (FL [(12, 106)] o204 U) w208 o204 w o ∧ (U 11 = true → U 12 = false → Box w o 106 g224 28 #[.int .i64 (0 : Int), .slice none 0 0]) ∧ (U 12 = true → Box w o 106 g224 28 #[.int .i64 (IntKind.wrap .i64 ((p1.terms.length : Int) + r213)), .slice none 0 0])) ?_ ⟨?_, ?_, ?_, ?_, ?_, ?_, ?_, ?_, ?_, ?_, ?_, ?_, ?_, trivial⟩ ?_
 ·exact ⟨o204, 0, Tab.start, Tab.start, FL.start (tr_drew _ _), fun h => Bool.noConfusion h, fun h => Bool.noConfusion h⟩
 ·intro U a w M hL hA hD hI
  obtain ⟨o, g224, TG0, TG1, tr, FE0, FE1⟩ := hI
  refine dv rfl rfl M (x_fieldAddr fa_25_0 (M.e 12 rfl) rfl) fun a' p => ?_
  exact ⟨M.st p rfl, o, g224, (TG0.step p 0 rfl rfl), (TG1.other p rfl), (FL.idle tr), FE0, FE1⟩
 ·intro U a w M hL hA hD hI
  obtain ⟨o, g224, TG0, TG1, tr, FE0, FE1⟩ := hI
  refine dv rfl rfl M (x_load ld_22 (e_tmp (TG0.get 0 rfl (hA 0 rfl))) ((u63.keep_ (FL.same tr ⟨fun h => absurd h (ne rfl), trivial⟩)).cell (n := 0) rfl)) fun a' p => ?_
  exact ⟨M.st p rfl, o, g224, (TG0.step p 1 rfl rfl), (TG1.other p rfl), (FL.idle tr), FE0, FE1⟩
 ·intro U a w M hL hA hD hI
  obtain ⟨o, g224, TG0, TG1, tr, FE0, FE1⟩ := hI
  refine dv rfl rfl M (x_lenSlice Try.underlying22 (e_tmp (TG0.get 1 rfl (hA 1 rfl)))) fun a' p => ?_
  exact ⟨M.st p rfl, o, g224, (TG0.step p 2 rfl rfl), (TG1.other p rfl), (FL.idle tr), FE0, FE1⟩
 ·intro U a w M hL hA hD hI
  obtain ⟨o, g224, TG0, TG1, tr, FE0, FE1⟩ := hI
  refine dv rfl rfl M (x_fieldAddr fa_28_0 (M.e 13 rfl) rfl) fun a' p => ?_
  exact ⟨M.st p rfl, o, g224, (TG0.step p 3 rfl rfl), (TG1.other p rfl), (FL.idle tr), FE0, FE1⟩
 ·intro U a w M hL hA hD hI
  obtain ⟨o, g224, TG0, TG1, tr, FE0, FE1⟩ := hI
  refine dv rfl rfl M (x_load ld_3 (e_tmp (TG0.get 3 rfl (hA 3 rfl))) ((u68.keep_ (FL.same tr ⟨fun h => absurd h (ne rfl), trivial⟩)).cell (n := 0) rfl)) fun a' p => ?_
  exact ⟨M.st p rfl, o, g224, (TG0.step p 4 rfl rfl), (TG1.other p rfl), (FL.idle tr), FE0, FE1⟩
 ·intro U a w M hL hA hD hI
  obtain ⟨o, g224, TG0, TG1, tr, FE0, FE1⟩ := hI
  refine dv rfl rfl M (x_fieldAddr fa_25_1 (M.e 12 rfl) rfl) fun a' p => ?_
  exact ⟨M.st p rfl, o, g224, (TG0.step p 5 rfl rfl), (TG1.other p rfl), (FL.idle tr), FE0, FE1⟩
 ·intro U a w M hL hA hD hI
  obtain ⟨o, g224, TG0, TG1, tr, FE0, FE1⟩ := hI
  refine dv rfl rfl M (x_load ld_22 (e_tmp (TG0.get 5 rfl (hA 5 rfl))) ((u63.keep_ (FL.same tr ⟨fun h => absurd h (ne rfl), trivial⟩)).cell (n := 1) rfl)) fun a' p => ?_
  exact ⟨M.st p rfl, o, g224, (TG0.step p 6 rfl rfl), (TG1.other p rfl), (FL.idle tr), FE0, FE1⟩
 ·intro U a w M hL hA hD hI
  obtain ⟨o, g224, TG0, TG1, tr, FE0, FE1⟩ := hI
  refine dv rfl rfl M (x_lenSlice Try.underlying22 (e_tmp (TG0.get 6 rfl (hA 6 rfl)))) fun a' p => ?_
  exact ⟨M.st p rfl, o, g224, (TG0.step p 7 rfl rfl), (TG1.other p rfl), (FL.idle tr), FE0, FE1⟩
 ·intro U a w M hL hA hD hI
  obtain ⟨o, g224, TG0, TG1, tr, FE0, FE1⟩ := hI
  refine dc rfl (wp0 rfl) rfl rfl M (x_call cf_28 (m2 (e_tmp (TG0.get 4 rfl (hA 4 rfl))) (e_tmp (TG0.get 7 rfl (hA 7 rfl))))) (keep_Mod_calls hr214 (lko_own (T := [(0, 0)]) (o := o) rfl)) (fun e74 w215 hp216 => ?_)
  obtain ⟨o217, he218, T219⟩ := hp216
  obtain ⟨o220, ho221⟩ := ex (mrg w o [(0, 0)] o217)
  have t222 := T219.r0 ho221
  refine ⟨_, he218, fun a' p => ?_⟩
  exact ⟨M.st p rfl, o220, g224, (TG0.step p 8 rfl rfl), (TG1.other p rfl), (FL.stepNo tr t222), (fun h0 h1 => (FE0 h0 h1).keep_ (t222.sameNo)), (fun h => ab (hD 12 rfl) rfl h)⟩
 ·intro U a w M hL hA hD hI
  obtain ⟨o, g224, TG0, TG1, tr, FE0, FE1⟩ := hI
  refine dv rfl rfl M (x_add (e_tmp (TG0.get 2 rfl (hA 2 rfl))) (e_tmp (TG0.get 8 rfl (hA 8 rfl)))) fun a' p => ?_
  exact ⟨M.st p rfl, o, g224, (TG0.step p 9 rfl rfl), (TG1.other p rfl), (FL.idle tr), FE0, FE1⟩
 ·intro U a w M hL hA hD hI
  obtain ⟨o, g224, TG0, TG1, tr, FE0, FE1⟩ := hI
  have hb223 : ∀ w : World, (Instr.build 28 #[(0, .int .i64 (IntKind.wrap .i64 ((p1.terms.length : Int) + r213)))]).run Try.prog w = .ok (.agg #[.int .i64 (IntKind.wrap .i64 ((p1.terms.length : Int) + r213)), .slice none 0 0]) w := fun w => by go_simp
  refine dv rfl rfl M (x_build (l1 (e_tmp (TG0.get 9 rfl (hA 9 rfl)))) hb223) fun a' p => ?_
  exact ⟨M.st p rfl, o, g224, (TG0.step p 10 rfl rfl), (TG1.other p rfl), (FL.idle tr), FE0, FE1⟩
 ·intro U a w M hL hA hD hI
  obtain ⟨o, g224, TG0, TG1, tr, FE0, FE1⟩ := hI
  obtain ⟨g224, w225, o226, r227, b228, t229⟩ := b_alloc zv_28 a w o 106
  refine dv rfl rfl M (r227 _ _ _ _ _) fun a' p => ?_
  exact ⟨M.st p rfl, o226, g224, (TG0.other p rfl), (Tab.mk hD p 0 rfl rfl), (FL.stepNo tr t229), (fun _ _ => b228), (fun h => ab (hD 12 rfl) rfl h)⟩
 ·intro U a w M hL hA hD hI
  obtain ⟨o, g224, TG0, TG1, tr, FE0, FE1⟩ := hI
  obtain ⟨w230, r231, b232, t233⟩ := b_storeN (P := Try.prog) (all' := #[.int .i64 (IntKind.wrap .i64 ((p1.terms.length : Int) + r213)), .slice none 0 0]) (.inr trivial) (stn_28 _ rfl) (e_tmp (TG1.get 0 rfl (hA 11 rfl))) (e_tmp (TG0.get 10 rfl (hA 10 rfl))) (FE0 (hA 11 rfl) hL) (show 2 ≤ 2 by decide) (by simp [Value.oneCell']) rfl
  have b232 : Box w230 o 106 g224 28 #[.int .i64 (IntKind.wrap .i64 ((p1.terms.length : Int) + r213)), .slice none 0 0] := b232
  refine o_skip rfl (wp0 rfl) rfl (r231 _ _ _ _ _) ?_
  exact ⟨M, o, g224, (TG0.idle rfl), (TG1.idle rfl), (FL.stk tr t233 rfl), (fun _ h => Bool.noConfusion h), (fun _ => b232)⟩
 intro U a w234 M hA hI
 obtain ⟨o235, g224, TG0, TG1, tr, FE0, FE1⟩ := hI
 have M := M.ad (TG1.get 0 rfl (hA 11 rfl))
 have q236 := (u63.keep_ (FL.same tr ⟨fun h => absurd h (ne rfl), trivial⟩))
 have q237 := (u68.keep_ (FL.same tr ⟨fun h => absurd h (ne rfl), trivial⟩))
 have q238 := (((q193.kn t207).kk t211 rfl rfl).keep_ (FL.same tr ⟨fun h => absurd h (ne rfl), trivial⟩) (FL.same tr ⟨fun h => absurd h (ne rfl), trivial⟩))
 have q239 := (((q194.kn t207).kk t211 rfl rfl).keep_ (FL.same tr ⟨fun h => absurd h (ne rfl), trivial⟩) (FL.same tr ⟨fun h => absurd h (ne rfl), trivial⟩))
 have q240 := (((q195.kn t207).kk t211 rfl rfl).keep_ (FL.same tr ⟨fun h => absurd h (ne rfl), trivial⟩) (FL.same tr ⟨fun h => absurd h (ne rfl), trivial⟩))
 have q241 := (b210.keep_ (FL.same tr ⟨fun h => absurd h (ne rfl), trivial⟩))
 have q242 := (FE1 (hA 12 rfl))
 have i243 := (Ty.loc _ (FL.same tr ⟨fun h => absurd h (ne rfl), trivial⟩) u69)
 have i244 := (Ty.loc _ (FL.same tr ⟨fun h => absurd h (ne rfl), trivial⟩) u70)
 have i245 := (Ty.loc _ (FL.same tr ⟨fun h => absurd h (ne rfl), trivial⟩) u71)
 have i246 := (Ty.loc _ (FL.same tr ⟨fun h => absurd h (ne rfl), trivial⟩) u72)
 have i247 := (Ty.loc _ (FL.same tr ⟨fun h => absurd h (ne rfl), trivial⟩) u73)
 have T248 := Tr.kf u75 tr hown rfl
 clear hA TG0 TG1 tr FE0 FE1
 refine q_then <| c_seq <| c_seq <| c_reg <| pn (j := 1) E 1 M rfl rfl fun a M => x_end rfl <| q_then <| wp_block ?_
 obtain ⟨x478, hx479, h⟩ := bind_some h
 refine loop_iter (S := (Int × (List Int))) (X := (List Int)) (fun (s : (Int × (List Int))) => law24_ChartMore_b0 k p1 p15 s.1 s.2) (fun (s : (Int × (List Int))) (a : Act) (w : World) => ∃ (o400 : Own) (z321 : Value), MB 192 [] [(1, .slice A25 p11.length c26), (3, .pointer (some ⟨g29, 0, none⟩)), (5, .pointer (some ⟨g35, 0, none⟩)), (7, .pointer (some ⟨g202, 0, none⟩)), (8, .int .i64 (IntKind.wrap .i64 ((p1.terms.length : Int) + (p1.names.length : Int)))), (9, .pointer (some ⟨g224, 0, none⟩)), (10, .int .i64 s.1)] a ∧ Box w o400 100 g29 25 #[.slice A19 p1.terms.length c20, .slice A21 p1.names.length c22, .slice A23 p1.rules.length c24] ∧ Box w o400 101 g35 28 #[.int .i64 p15.left, .slice A27 p15.right.length c28] ∧ Box w o400 105 g202 25 #[.slice A196 (([] : List ByteArray) ++ p1.terms).length c197, .slice A198 (([] : List ByteArray) ++ p1.names).length c199, .slice A200 r177.length c201] ∧ Box w o400 106 g224 28 #[.int .i64 (IntKind.wrap .i64 ((p1.terms.length : Int) + r213)), z321] ∧ Row tStr 9 w o400 102 (.slice A196 (([] : List ByteArray) ++ p1.terms).length c197) (([] : List ByteArray) ++ p1.terms) ∧ Row tStr 9 w o400 103 (.slice A198 (([] : List ByteArray) ++ p1.names).length c199) (([] : List ByteArray) ++ p1.names) ∧ Row tyRule 28 w o400 104 (.slice A200 r177.length c201) r177 ∧ Row (tInt .i64) 3 w o400 108 z321 s.2 ∧ ((tSlice 3 (tInt .i64) (by decide))).im w (L o400 0) p11 [.slice A25 p11.length c26] ∧ ((tSlice 9 tStr (by decide))).im w (L o400 0) p1.terms [.slice A19 p1.terms.length c20] ∧ ((tSlice 9 tStr (by decide))).im w (L o400 0) p1.names [.slice A21 p1.names.length c22] ∧ ((tSlice 28 tyRule (by decide))).im w (L o400 0) p1.rules [.slice A23 p1.rules.length c24] ∧ ((tSlice 3 (tInt .i64) (by decide))).im w (L o400 0) p15.right [.slice A27 p15.right.length c28] ∧ Tr (Ls o0 []) w0 o0 w o400) (fun (x : (List Int)) (e : Exit) (a : Act) (w : World) => (e = .exit 0 ∧ ∃ (o401 : Own) (z399 : Value), MB 192 [] [(1, .slice A25 p11.length c26), (3, .pointer (some ⟨g29, 0, none⟩)), (7, .pointer (some ⟨g202, 0, none⟩)), (8, .int .i64 (IntKind.wrap .i64 ((p1.terms.length : Int) + (p1.names.length : Int)))), (9, .pointer (some ⟨g224, 0, none⟩))] a ∧ Box w o401 100 g29 25 #[.slice A19 p1.terms.length c20, .slice A21 p1.names.length c22, .slice A23 p1.rules.length c24] ∧ Box w o401 105 g202 25 #[.slice A196 (([] : List ByteArray) ++ p1.terms).length c197, .slice A198 (([] : List ByteArray) ++ p1.names).length c199, .slice A200 r177.length c201] ∧ Box w o401 106 g224 28 #[.int .i64 (IntKind.wrap .i64 ((p1.terms.length : Int) + r213)), z399] ∧ Row tStr 9 w o401 102 (.slice A196 (([] : List ByteArray) ++ p1.terms).length c197) (([] : List ByteArray) ++ p1.terms) ∧ Row tStr 9 w o401 103 (.slice A198 (([] : List ByteArray) ++ p1.names).length c199) (([] : List ByteArray) ++ p1.names) ∧ Row tyRule 28 w o401 104 (.slice A200 r177.length c201) r177 ∧ Row (tInt .i64) 3 w o401 108 z399 x ∧ ((tSlice 3 (tInt .i64) (by decide))).im w (L o401 0) p11 [.slice A25 p11.length c26] ∧ ((tSlice 9 tStr (by decide))).im w (L o401 0) p1.terms [.slice A19 p1.terms.length c20] ∧ ((tSlice 9 tStr (by decide))).im w (L o401 0) p1.names [.slice A21 p1.names.length c22] ∧ ((tSlice 28 tyRule (by decide))).im w (L o401 0) p1.rules [.slice A23 p1.rules.length c24] ∧ Tr (Ls o0 []) w0 o0 w o401)) ?_ hx479 ⟨o235, (.slice none 0 0), (M.pk [13, 14, 15, 10, 2, 1, 0] rfl), q236, q237, q241, q242, q238, q239, q240, (Row.nil (tInt .i64) 3 w234 o235 108), i243, i244, i245, i246, i247, T248⟩ ?_
 ·rintro ⟨y319, y320⟩ a w402 r403 hI404 h
  replace h : law24_ChartMore_b0 k p1 p15 y319 y320 = some r403 := h
  unfold law24_ChartMore_b0 at h
  obtain ⟨o405, z321, M, q406, q407, q408, q409, q410, q411, q412, q413, i414, i415, i416, i417, i418, T419⟩ := hI404
  obtain ⟨A420, c421, hzc421, -⟩ := q413.form
  subst hzc421
  refine c_seq <| c_seq <| c_reg <| pn (j := 2) E 2 M rfl rfl fun a M => ov rfl rfl M (x_load ld_26 (M.e 0 rfl) (q407.cell (n := 1) rfl)) fun a M => pn (j := 5) E 2 M rfl rfl fun a M => x_end rfl <| q_then ?_
  by_cases hk87 : (decide (y319 < (p15.right.length : Int))) = true
  ·rw [if_pos hk87] at h
   have M := M.k 70 rfl hk87
   refine c_true (M.e 0 rfl) <| wp_skip <| q_then <| c_seq <| wp_block ?_
   obtain ⟨x423, hx424, h⟩ := bind_some h
   obtain ⟨hx4240, hx4241, hx4242⟩ := at_some hx424
   obtain ⟨g425, f426, c427, ds428, hv429, hd430, he431⟩ := im_elem i418 hx4241
   have hsds428 : ds428 = [.int .i64 x423] := hd430
   subst hsds428
   have he431 : ElemAt w402 o405 0 g425 f426 (y319).toNat 1 [.int .i64 x423] := he431
   obtain ⟨r433, hr434, h⟩ := bind_some h
   obtain ⟨hc449, h⟩ := ifs h
   refine draw_m mixed [0, 1, 0, 4, 0, 28, 60, 0, 252, 508, 1023, 2047, 4095] (by kernel_rfl) rfl M (fun U a w => ∃ (o : Own) (g448 : Nat) (A456 : Option Addr) (c457 : Nat), Tab [(0, 73, .pointer (some ⟨g224, 1, none⟩)), (1, 74, .slice A420 y320.length c421), (2, 75, .pointer (some ⟨g35, 1, none⟩)), (3, 76, .slice A27 p15.right.length c28), (4, 77, .int .i64 y319), (5, 78, .pointer (some ⟨g425, f426 + (y319).toNat * 1, none⟩)), (6, 79, .int .i64 x423), (7, 80, .int .i64 (IntKind.wrap .i64 ((p1.terms.length : Int) + (p1.names.length : Int)))), (8, 81, .int .i64 r433), (11, 84, .pointer (some ⟨g224, 1, none⟩))] U a ∧ Tab [(9, 82, .slice (some ⟨g448, 0, none⟩) 1 1)] U a ∧ Tab [(10, 83, .slice A456 (y320 ++ [r433]).length c457)] U a ∧ Tr (FL [(10, 108), (12, 106)] o405 U) w402 o405 w o ∧ (U 9 = true → Row (tInt .i64) 3 w o 107 (.slice (some ⟨g448, 0, none⟩) 1 1) [r433]) ∧ (U 10 = true → Row (tInt .i64) 3 w o 108 (.slice A456 (y320 ++ [r433]).length c457) (y320 ++ [r433])) ∧ (U 12 = true → Box w o 106 g224 28 #[.int .i64 (IntKind.wrap .i64 ((p1.terms.length : Int) + r213)), .slice A456 (y320 ++ [r433]).length c457])) ?_ ⟨?_, ?_, ?_, ?_, ?_, ?_, ?_, ?_, ?_, ?_, ?_, ?_, ?_, trivial⟩ ?_
   ·exact ⟨o405, 0, none, 0, Tab.start, Tab.start, Tab.start, FL.start (tr_drew _ _), fun h => Bool.noConfusion h, fun h => Bool.noConfusion h, fun h => Bool.noConfusion h⟩
   ·intro U a w M hL hA hD hI
    obtain ⟨o, g448, A456, c457, TG0, TG1, TG2, tr, FE0, FE1, FE2⟩ := hI
    refine dv rfl rfl M (x_fieldAddr fa_28_1 (M.e 10 rfl) rfl) fun a' p => ?_
    exact ⟨M.st p rfl, o, g448, A456, c457, (TG0.step p 0 rfl rfl), (TG1.other p rfl), (TG2.other p rfl), (FL.idle tr), FE0, FE1, FE2⟩
   ·intro U a w M hL hA hD hI
    obtain ⟨o, g448, A456, c457, TG0, TG1, TG2, tr, FE0, FE1, FE2⟩ := hI
    refine dv rfl rfl M (x_load ld_26 (e_tmp (TG0.get 0 rfl (hA 0 rfl))) ((q409.keep_ (FL.same tr ⟨fun h => absurd h (ne rfl), ⟨fun _ => (hD 12 rfl), trivial⟩⟩)).cell (n := 1) rfl)) fun a' p => ?_
    exact ⟨M.st p rfl, o, g448, A456, c457, (TG0.step p 1 rfl rfl), (TG1.other p rfl), (TG2.other p rfl), (FL.idle tr), FE0, FE1, FE2⟩
   ·intro U a w M hL hA hD hI
    obtain ⟨o, g448, A456, c457, TG0, TG1, TG2, tr, FE0, FE1, FE2⟩ := hI
    refine dv rfl rfl M (x_fieldAddr fa_28_1 (M.e 7 rfl) rfl) fun a' p => ?_
    exact ⟨M.st p rfl, o, g448, A456, c457, (TG0.step p 2 rfl rfl), (TG1.other p rfl), (TG2.other p rfl), (FL.idle tr), FE0, FE1, FE2⟩
   ·intro U a w M hL hA hD hI
    obtain ⟨o, g448, A456, c457, TG0, TG1, TG2, tr, FE0, FE1, FE2⟩ := hI
    refine dv rfl rfl M (x_load ld_26 (e_tmp (TG0.get 2 rfl (hA 2 rfl))) ((q407.keep_ (FL.same tr ⟨fun h => absurd h (ne rfl), ⟨fun h => absurd h (ne rfl), trivial⟩⟩)).cell (n := 1) rfl)) fun a' p => ?_
    exact ⟨M.st p rfl, o, g448, A456, c457, (TG0.step p 3 rfl rfl), (TG1.other p rfl), (TG2.other p rfl), (FL.idle tr), FE0, FE1, FE2⟩
   ·intro U a w M hL hA hD hI
    obtain ⟨o, g448, A456, c457, TG0, TG1, TG2, tr, FE0, FE1, FE2⟩ := hI
    refine dv rfl rfl M (x_move (M.e 11 rfl)) fun a' p => ?_
    exact ⟨M.st p rfl, o, g448, A456, c457, (TG0.step p 4 rfl rfl), (TG1.other p rfl), (TG2.other p rfl), (FL.idle tr), FE0, FE1, FE2⟩
   ·intro U a w M hL hA hD hI
    obtain ⟨o, g448, A456, c457, TG0, TG1, TG2, tr, FE0, FE1, FE2⟩ := hI
    refine dv rfl rfl M (x_indexAddr Try.underlying26 sz_3 ((e_tmp (TG0.get 3 rfl (hA 3 rfl))).trans hv429) (e_tmp (TG0.get 4 rfl (hA 4 rfl))) hx4240 hx4242) fun a' p => ?_
    exact ⟨M.st p rfl, o, g448, A456, c457, (TG0.step p 5 rfl rfl), (TG1.other p rfl), (TG2.other p rfl), (FL.idle tr), FE0, FE1, FE2⟩
   ·intro U a w M hL hA hD hI
    obtain ⟨o, g448, A456, c457, TG0, TG1, TG2, tr, FE0, FE1, FE2⟩ := hI
    refine dv rfl rfl M (x_load ld_3 (e_tmp (TG0.get 5 rfl (hA 5 rfl))) ((he431.keep_ (Nat.succ_pos _) (FL.same tr ⟨fun h => absurd h (ne rfl), ⟨fun h => absurd h (ne rfl), trivial⟩⟩)).2 0 _ rfl)) fun a' p => ?_
    exact ⟨M.st p rfl, o, g448, A456, c457, (TG0.step p 6 rfl rfl), (TG1.other p rfl), (TG2.other p rfl), (FL.idle tr), FE0, FE1, FE2⟩
   ·intro U a w M hL hA hD hI
    obtain ⟨o, g448, A456, c457, TG0, TG1, TG2, tr, FE0, FE1, FE2⟩ := hI
    refine dv rfl rfl M (x_move (M.e 9 rfl)) fun a' p => ?_
    exact ⟨M.st p rfl, o, g448, A456, c457, (TG0.step p 7 rfl rfl), (TG1.other p rfl), (TG2.other p rfl), (FL.idle tr), FE0, FE1, FE2⟩
   ·intro U a w M hL hA hD hI
    obtain ⟨o, g448, A456, c457, TG0, TG1, TG2, tr, FE0, FE1, FE2⟩ := hI
    refine dc rfl (wp0 rfl) rfl rfl M (x_call cf_28 (m2 (e_tmp (TG0.get 6 rfl (hA 6 rfl))) (e_tmp (TG0.get 7 rfl (hA 7 rfl))))) (keep_Mod_calls hr434 (lko_own (T := [(0, 0)]) (o := o) rfl)) (fun e90 w435 hp436 => ?_)
    obtain ⟨o437, he438, T439⟩ := hp436
    obtain ⟨o440, ho441⟩ := ex (mrg w o [(0, 0)] o437)
    have t442 := T439.r0 ho441
    refine ⟨_, he438, fun a' p => ?_⟩
    exact ⟨M.st p rfl, o440, g448, A456, c457, (TG0.step p 8 rfl rfl), (TG1.other p rfl), (TG2.other p rfl), (FL.stepNo tr t442), (fun h => ab (hD 9 rfl) rfl h), (fun h => ab (hD 10 rfl) rfl h), (fun h => ab (hD 12 rfl) rfl h)⟩
   ·intro U a w M hL hA hD hI
    obtain ⟨o, g448, A456, c457, TG0, TG1, TG2, tr, FE0, FE1, FE2⟩ := hI
    have r445 : (Instr.buildSlice 26 1 #[(0, .int .i64 r433)]).run Try.prog w = .ok (.slice (some ⟨w.heap.size, 0, none⟩) 1 1) (w.alloc (.cells ([.int .i64 r433] : List Value).toArray 3)) := by go_simp
    obtain ⟨b446, t447⟩ := Row.lit (E := (tInt .i64)) (e := 3) (l := [r433]) (by decide) w o 107 (cs := [.int .i64 r433]) ⟨[.int .i64 r433], _, rfl, rfl, rfl⟩ (by simp)
    generalize hww443 : w.alloc _ = w443 at r445 b446 t447
    generalize upd o _ 107 = o444 at b446 t447
    generalize hgg448 : w.heap.size = g448 at r445 b446
    clear hww443 hgg448
    refine dv rfl rfl M (x_buildSlice (l1 (e_tmp (TG0.get 8 rfl (hA 8 rfl)))) r445) fun a' p => ?_
    exact ⟨M.st p rfl, o444, g448, A456, c457, (TG0.other p rfl), (Tab.mk hD p 0 rfl rfl), (TG2.other p rfl), (FL.stepNo tr t447), (fun _ => b446), (fun h => ab (hD 10 rfl) rfl h), (fun h => ab (hD 12 rfl) rfl h)⟩
   ·intro U a w M hL hA hD hI
    obtain ⟨o, g448, A456, c457, TG0, TG1, TG2, tr, FE0, FE1, FE2⟩ := hI
    obtain ⟨v450, w451, o452, r453, b454, t455⟩ := run_append el_3 Try.underlying26 26 (q413.keep_ (FL.same tr ⟨fun _ => hL, ⟨fun h => absurd h (ne rfl), trivial⟩⟩) (FL.same tr ⟨fun h => absurd h (ne rfl), ⟨fun h => absurd h (ne rfl), trivial⟩⟩)) (by decide) (Src.row (FE0 (hA 9 rfl))) hc449
    obtain ⟨A456, c457, rfl, -⟩ := b454.form
    refine dv rfl rfl M (x_append (e_tmp (TG0.get 1 rfl (hA 1 rfl))) (e_tmp (TG1.get 0 rfl (hA 9 rfl))) r453) fun a' p => ?_
    exact ⟨M.st p rfl, o452, g448, A456, c457, (TG0.other p rfl), (TG1.other p rfl), (Tab.mk hD p 0 rfl rfl), (FL.stk tr t455 rfl), (fun h0 => (FE0 h0).keep_ (t455.sameK (ne rfl)) (t455.sameK (ne rfl))), (fun _ => b454), (fun h => ab (hD 12 rfl) rfl h)⟩
   ·intro U a w M hL hA hD hI
    obtain ⟨o, g448, A456, c457, TG0, TG1, TG2, tr, FE0, FE1, FE2⟩ := hI
    refine dv rfl rfl M (x_fieldAddr fa_28_1 (M.e 10 rfl) rfl) fun a' p => ?_
    exact ⟨M.st p rfl, o, g448, A456, c457, (TG0.step p 9 rfl rfl), (TG1.other p rfl), (TG2.other p rfl), (FL.idle tr), FE0, FE1, FE2⟩
   ·intro U a w M hL hA hD hI
    obtain ⟨o, g448, A456, c457, TG0, TG1, TG2, tr, FE0, FE1, FE2⟩ := hI
    obtain ⟨w458, r459, b460, t461⟩ := b_store (P := Try.prog) st_26 (e_tmp (TG0.get 9 rfl (hA 11 rfl))) (e_tmp (TG2.get 0 rfl (hA 10 rfl))) (q409.keep_ (FL.same tr ⟨fun h => absurd h (ne rfl), ⟨fun _ => hL, trivial⟩⟩)) (show 1 < 2 by decide) rfl rfl
    have b460 : Box w458 o 106 g224 28 #[.int .i64 (IntKind.wrap .i64 ((p1.terms.length : Int) + r213)), .slice A456 (y320 ++ [r433]).length c457] := b460
    refine o_skip rfl (wp0 rfl) rfl (r459 _ _ _ _ _) ?_
    exact ⟨M, o, g448, A456, c457, (TG0.idle rfl), (TG1.idle rfl), (TG2.idle rfl), (FL.stk tr t461 rfl), (fun h0 => (FE0 h0).keep_ (t461.sameK (ne rfl)) (t461.sameK (ne rfl))), (fun h0 => (FE1 h0).keep_ (t461.sameK (ne rfl)) (t461.sameK (ne rfl))), (fun _ => b460)⟩
   intro U a w462 M hA hI
   obtain ⟨o463, g448, A456, c457, TG0, TG1, TG2, tr, FE0, FE1, FE2⟩ := hI
   have q464 := (q406.keep_ (FL.same tr ⟨fun h => absurd h (ne rfl), ⟨fun h => absurd h (ne rfl), trivial⟩⟩))
   have q465 := (q407.keep_ (FL.same tr ⟨fun h => absurd h (ne rfl), ⟨fun h => absurd h (ne rfl), trivial⟩⟩))
   have q466 := (q408.keep_ (FL.same tr ⟨fun h => absurd h (ne rfl), ⟨fun h => absurd h (ne rfl), trivial⟩⟩))
   have q467 := (FE2 (hA 12 rfl))
   have q468 := (q410.keep_ (FL.same tr ⟨fun h => absurd h (ne rfl), ⟨fun h => absurd h (ne rfl), trivial⟩⟩) (FL.same tr ⟨fun h => absurd h (ne rfl), ⟨fun h => absurd h (ne rfl), trivial⟩⟩))
   have q469 := (q411.keep_ (FL.same tr ⟨fun h => absurd h (ne rfl), ⟨fun h => absurd h (ne rfl), trivial⟩⟩) (FL.same tr ⟨fun h => absurd h (ne rfl), ⟨fun h => absurd h (ne rfl), trivial⟩⟩))
   have q470 := (q412.keep_ (FL.same tr ⟨fun h => absurd h (ne rfl), ⟨fun h => absurd h (ne rfl), trivial⟩⟩) (FL.same tr ⟨fun h => absurd h (ne rfl), ⟨fun h => absurd h (ne rfl), trivial⟩⟩))
   have q471 := (FE1 (hA 10 rfl))
   have i472 := (Ty.loc _ (FL.same tr ⟨fun h => absurd h (ne rfl), ⟨fun h => absurd h (ne rfl), trivial⟩⟩) i414)
   have i473 := (Ty.loc _ (FL.same tr ⟨fun h => absurd h (ne rfl), ⟨fun h => absurd h (ne rfl), trivial⟩⟩) i415)
   have i474 := (Ty.loc _ (FL.same tr ⟨fun h => absurd h (ne rfl), ⟨fun h => absurd h (ne rfl), trivial⟩⟩) i416)
   have i475 := (Ty.loc _ (FL.same tr ⟨fun h => absurd h (ne rfl), ⟨fun h => absurd h (ne rfl), trivial⟩⟩) i417)
   have i476 := (Ty.loc _ (FL.same tr ⟨fun h => absurd h (ne rfl), ⟨fun h => absurd h (ne rfl), trivial⟩⟩) i418)
   have T477 := Tr.kf T419 tr hown rfl
   clear hA TG0 TG1 TG2 tr FE0 FE1 FE2
   refine q_blk <| q_then <| c_reg <| pn (j := 2) E 2 M rfl rfl fun a M => ?_
   have M := M.pk [0, 1, 7, 8, 9, 10, 11, 12] rfl
   refine pn (j := 3) E 1 M rfl rfl fun a M => x_end rfl ?_
   obtain rfl := sj h
   exact lq_next ⟨o463, (.slice A456 (y320 ++ [r433]).length c457), (M.pk [3, 4, 5, 6, 7, 8, 0] rfl), q464, q465, q466, q467, q468, q469, q470, q471, i472, i473, i474, i475, i476, T477⟩
  rw [if_neg hk87] at h
  have hk87 := nott hk87
  have M := M.k 70 rfl hk87
  refine c_false (M.e 0 rfl) <| wp_exit <| q_then_exit ?_
  obtain rfl := sj h
  exact lq_exit ⟨rfl, ⟨o405, (.slice A420 y320.length c421), (M.pk [5, 6, 8, 9, 10] rfl), q406, q408, q409, q410, q411, q412, q413, i414, i415, i416, i417, T419⟩⟩
 intro e91 a w480 hO481
 obtain ⟨he482, hO481⟩ := hO481
 subst he482
 obtain ⟨o483, z399, M, q484, q485, q486, q487, q488, q489, q490, i491, i492, i493, i494, T495⟩ := hO481
 obtain ⟨A496, c497, hzc497, -⟩ := q490.form
 subst hzc497
 refine q_blk_here <| q_then <| c_seq <| c_reg <| pn (j := 1) E 1 M rfl rfl fun a M => ov rfl rfl M (x_load ld_23 (M.e 0 rfl) (q485.cell (n := 2) rfl)) fun a M => ov rfl rfl M (x_loadN (ldn_28 _ rfl) (M.e 6 rfl) (q486.sub (cs := #[.int .i64 (IntKind.wrap .i64 ((p1.terms.length : Int) + r213)), .slice A496 x478.length c497]) 0 rfl)) fun a M => ?_
 obtain ⟨o503, ho504⟩ := ex (lro [(108, 0)] o483)
 have T505 := T495.kw hown ho504 rfl
 have i506 := iW i491 ho504 rfl
 have i507 := iW i492 ho504 rfl
 have i508 := iW i493 ho504 rfl
 have i509 := iW i494 ho504 rfl
 have q510 := q484.kw ho504 100 rfl
 have q511 := q485.kw ho504 105 rfl
 have q512 := q486.kw ho504 106 rfl
 have q513 := q487.kw ho504 102 rfl rfl
 have q514 := q488.kw ho504 103 rfl rfl
 have q515 := q489.kw ho504 104 rfl rfl
 have q516 := q490.kz (hE := by decide) ho504 rfl rfl
 have r500 : (Instr.buildSlice 23 1 #[(0, .agg #[.int .i64 (IntKind.wrap .i64 ((p1.terms.length : Int) + r213)), .slice A496 x478.length c497])]).run Try.prog w480 = .ok (.slice (some ⟨w480.heap.size, 0, none⟩) 1 1) (w480.alloc (.cells ([.int .i64 (IntKind.wrap .i64 ((p1.terms.length : Int) + r213)), .slice A496 x478.length c497] : List Value).toArray 28)) := by go_simp
 obtain ⟨b501, t502⟩ := Row.lit (E := tyRule) (e := 28) (l := [(⟨IntKind.wrap .i64 ((p1.terms.length : Int) + r213), x478⟩ : Rule)]) (by decide) w480 o503 101 (cs := [.int .i64 (IntKind.wrap .i64 ((p1.terms.length : Int) + r213)), .slice A496 x478.length c497]) ⟨[.int .i64 (IntKind.wrap .i64 ((p1.terms.length : Int) + r213)), .slice A496 x478.length c497], _, rfl, (Rule_mk w480 o503 (⟨IntKind.wrap .i64 ((p1.terms.length : Int) + r213), x478⟩ : Rule) q516), rfl⟩ (by simp)
 generalize hww498 : w480.alloc _ = w498 at r500 b501 t502
 generalize upd o503 _ 101 = o499 at b501 t502
 generalize hgg518 : w480.heap.size = g518 at r500 b501
 clear hww498 hgg518
 refine ov rfl rfl M (x_buildSlice (l1 (M.e 0 rfl)) r500) fun a M => ?_
 obtain ⟨hc519, h⟩ := ifs h
 obtain ⟨v520, w521, o522, r523, b524, t525⟩ := run_append el_28 Try.underlying23 23 (q515.kn t502) (by decide) (Src.row b501) hc519
 obtain ⟨A526, c527, rfl, -⟩ := b524.form
 refine ov rfl rfl M (x_append (M.e 2 rfl) (M.e 0 rfl) r523) fun a M => pn (j := 6) E 1 M rfl rfl fun a M => ?_
 obtain ⟨w528, r529, b530, t531⟩ := b_store (P := Try.prog) st_23 (M.e 0 rfl) (M.e 1 rfl) ((q511.kn t502).kk t525 rfl) (show 2 < 3 by decide) rfl rfl
 have b530 : Box w528 o522 105 g202 25 #[.slice A196 (([] : List ByteArray) ++ p1.terms).length c197, .slice A198 (([] : List ByteArray) ++ p1.names).length c199, .slice A526 (r177 ++ [(⟨IntKind.wrap .i64 ((p1.terms.length : Int) + r213), x478⟩ : Rule)]).length c527] := b530
 refine os rfl (wp0 rfl) rfl (r529 _ _ _ _ _) <| x_end rfl <| q_then <| c_seq <| c_seq <| c_reg <| ov rfl rfl M (x_loadN (ldn_25 _ rfl) (M.e 8 rfl) (b530.sub (cs := #[.slice A196 (([] : List ByteArray) ++ p1.terms).length c197, .slice A198 (([] : List ByteArray) ++ p1.names).length c199, .slice A526 (r177 ++ [(⟨IntKind.wrap .i64 ((p1.terms.length : Int) + r213), x478⟩ : Rule)]).length c527]) 0 rfl)) fun a M => ?_
 have u97 := ((q513.kn t502).kk t525 rfl rfl).kk t531 rfl rfl
 have u98 := ((q514.kn t502).kk t525 rfl rfl).kk t531 rfl rfl
 obtain ⟨r552, hr553, h⟩ := bind_some h
 refine oc rfl (wp0 rfl) rfl rfl M (x_call cf_25 (m1 (M.e 0 rfl))) (ref03_Good_calls hr553 (lko_own (T := [(0, 0), (102, 0), (103, 0), (104, 0)]) (o := o522) rfl) (u97.lend rfl rfl) (u98.lend rfl rfl) ((b524.kk t531 rfl rfl).lend rfl rfl)) (fun e99 w554 hp555 => ?_)
 obtain ⟨o556, he557, T558⟩ := hp555
 obtain ⟨o559, ho560⟩ := ex (mrg w528 o522 [(0, 0)] o556)
 have t561 := T558.r0 ho560
 refine ⟨_, he557, fun a M => ?_⟩
 refine pn (j := 3) E 1 M rfl rfl fun a M => x_end rfl <| q_then ?_
 by_cases hk100 : (!r552) = true
 ·rw [if_pos hk100] at h
  have M := M.k 93 rfl hk100
  refine c_true (M.e 0 rfl) <| c_seq <| c_reg ?_
  obtain ⟨r562, hr563, h⟩ := bind_some h
  refine oc rfl (wp0 rfl) rfl rfl M (x_call cf_26 m0) (law24_wakes_calls hr563 (lko_own (T := [(0, 0)]) (o := o559) rfl)) (fun e101 w564 hp565 => ?_)
  obtain ⟨o566, he567, T568⟩ := hp565
  obtain ⟨o569, ho570⟩ := ex (mrg w554 o559 [(0, 0)] o566)
  have t571 := T568.r0 ho570
  refine ⟨_, he567, fun a M => ?_⟩
  refine pn (j := 2) E 1 M rfl rfl fun a M => x_end rfl <| q_then <| wp_ret <| q_then_ret ?_
  have u102 := ((((T505.kn t502).kk t525 hown rfl).kk t531 hown rfl).kn t561).kn t571
  obtain rfl := sj h
  exact ⟨M.f.defers, _, (res1 Try.results3 (rv_tmp (M.t 0 rfl))), ⟨o569, rfl, u102⟩⟩
 rw [if_neg hk100] at h
 have hk100 := nott hk100
 have M := M.k 93 rfl hk100
 refine c_false (M.e 0 rfl) <| wp_skip <| q_then <| c_seq <| c_reg ?_
 have u103 := (((q510.kn t502).kk t525 rfl).kk t531 rfl).kn t561
 refine ov rfl rfl M (x_loadN (ldn_25 _ rfl) (M.e 10 rfl) (u103.sub (cs := #[.slice A19 p1.terms.length c20, .slice A21 p1.names.length c22, .slice A23 p1.rules.length c24]) 0 rfl)) fun a M => pn (j := 2) E 1 M rfl rfl fun a M => ?_
 have u104 := iN (iK (iK (iN i507 t502) t525 rfl) t531 rfl) t561
 have u105 := iN (iK (iK (iN i508 t502) t525 rfl) t531 rfl) t561
 have u106 := iN (iK (iK (iN i509 t502) t525 rfl) t531 rfl) t561
 have u107 := iN (iK (iK (iN i506 t502) t525 rfl) t531 rfl) t561
 obtain ⟨r572, hr573, h⟩ := bind_some h
 refine oc rfl (wp0 rfl) rfl rfl M (x_call cf_29 (m2 (M.e 1 rfl) (M.e 0 rfl))) (chart_Of_calls hr573 (lko_own (T := [(0, 0)]) (o := o559) rfl) (sL u104 rfl) (sL u105 rfl) (sL u106 rfl) (sL u107 rfl)) (fun e108 w574 hp575 => ?_)
 rcases r572 with r572 | r572
 ·rw [scase_l] at h
  obtain ⟨o576, he577, T578⟩ := hp575
  obtain ⟨o579, ho580⟩ := ex (mrg w554 o559 [(0, 0)] o576)
  have t581 := T578.r0 ho580
  refine ⟨_, he577, fun a M => ?_⟩
  refine pn (j := 8) E 5 M rfl rfl fun a M => x_end rfl <| q_then <| c_seq <| c_reg <| ov rfl rfl M (x_loadN (ldn_25 _ rfl) (M.e 19 rfl) (((b530.kn t561).kn t581).sub (cs := #[.slice A196 (([] : List ByteArray) ++ p1.terms).length c197, .slice A198 (([] : List ByteArray) ++ p1.names).length c199, .slice A526 (r177 ++ [(⟨IntKind.wrap .i64 ((p1.terms.length : Int) + r213), x478⟩ : Rule)]).length c527]) 0 rfl)) fun a M => pn (j := 2) E 1 M rfl rfl fun a M => ?_
  have u109 := u103.kn t581
  have u110 := (b530.kn t561).kn t581
  have u111 := (u97.kn t561).kn t581
  have u112 := (u98.kn t561).kn t581
  have u113 := ((b524.kk t531 rfl rfl).kn t561).kn t581
  have u114 := iN u107 t581
  have u115 := iN u104 t581
  have u116 := iN u105 t581
  have u117 := iN u106 t581
  have u118 := ((((T505.kn t502).kk t525 hown rfl).kk t531 hown rfl).kn t561).kn t581
  obtain ⟨o582, ho583⟩ := ex (lro [(102, 0)] o579)
  have T584 := u118.kw hown ho583 rfl
  have i585 := iW u114 ho583 rfl
  have i586 := iW u115 ho583 rfl
  have i587 := iW u116 ho583 rfl
  have i588 := iW u117 ho583 rfl
  have q589 := u109.kw ho583 100 rfl
  have q590 := u110.kw ho583 105 rfl
  have q591 := u111.kz (hE := by decide) ho583 rfl rfl
  have q593 := u112.kw ho583 103 rfl rfl
  have q594 := u113.kw ho583 104 rfl rfl
  obtain ⟨o595, ho596⟩ := ex (lro [(103, 0)] o582)
  have T597 := T584.kw hown ho596 rfl
  have i598 := iW i585 ho596 rfl
  have i599 := iW i586 ho596 rfl
  have i600 := iW i587 ho596 rfl
  have i601 := iW i588 ho596 rfl
  have i602 := iW q591 ho596 rfl
  have q603 := q589.kw ho596 100 rfl
  have q604 := q590.kw ho596 105 rfl
  have q605 := q593.kz (hE := by decide) ho596 rfl rfl
  have q607 := q594.kw ho596 104 rfl rfl
  obtain ⟨o608, ho609⟩ := ex (lro [(104, 0)] o595)
  have T610 := T597.kw hown ho609 rfl
  have i611 := iW i598 ho609 rfl
  have i612 := iW i599 ho609 rfl
  have i613 := iW i600 ho609 rfl
  have i614 := iW i601 ho609 rfl
  have i615 := iW i602 ho609 rfl
  have i616 := iW q605 ho609 rfl
  have q617 := q603.kw ho609 100 rfl
  have q618 := q604.kw ho609 105 rfl
  have q619 := q607.kz (hE := by decide) ho609 rfl rfl
  obtain ⟨r621, hr622, h⟩ := bind_some h
  refine oc rfl (wp0 rfl) rfl rfl M (x_call cf_29 (m2 (M.e 1 rfl) (M.e 0 rfl))) (chart_Of_calls hr622 (lko_own (T := [(0, 0)]) (o := o608) rfl) (sL i615 rfl) (sL i616 rfl) (sL q619 rfl) (sL i611 rfl)) (fun e119 w623 hp624 => ?_)
  rcases r621 with r621 | r621
  ·rw [scase_l] at h
   obtain ⟨o625, he626, T627⟩ := hp624
   obtain ⟨o628, ho629⟩ := ex (mrg w574 o608 [(0, 0)] o625)
   have t630 := T627.r0 ho629
   refine ⟨_, he626, fun a M => ?_⟩
   refine pn (j := 8) E 5 M rfl rfl fun a M => x_end rfl <| q_then <| c_seq <| c_seq ?_
   obtain ⟨x632, hx633, h⟩ := bind_some h
   refine cut_c (fun (x : Unit) (e : Exit) (a : Act) (w : World) => (e = .normal ∧ ∃ (o631 : Own), MB 192 [] [(1, .slice A25 p11.length c26), (3, .pointer (some ⟨g29, 0, none⟩)), (8, .int .i64 (IntKind.wrap .i64 ((p1.terms.length : Int) + (p1.names.length : Int)))), (11, .pointer none), (13, .pointer none), (120, .bool true)] a ∧ Box w o631 100 g29 25 #[.slice A19 p1.terms.length c20, .slice A21 p1.names.length c22, .slice A23 p1.rules.length c24] ∧ ((tSlice 3 (tInt .i64) (by decide))).im w (L o631 0) p11 [.slice A25 p11.length c26] ∧ ((tSlice 9 tStr (by decide))).im w (L o631 0) p1.terms [.slice A19 p1.terms.length c20] ∧ ((tSlice 9 tStr (by decide))).im w (L o631 0) p1.names [.slice A21 p1.names.length c22] ∧ ((tSlice 28 tyRule (by decide))).im w (L o631 0) p1.rules [.slice A23 p1.rules.length c24] ∧ Tr (Ls o0 []) w0 o0 w o631)) x632 ?_ ?_
   ·replace h := hx633
    refine c_reg <| pn (j := 3) E 3 M rfl rfl fun a M => ?_
    by_cases hk124 : (r572 != (0 : Int)) = true
    ·rw [if_pos hk124] at h
     have M := M.k 109 rfl hk124
     refine pn (j := 14) E 11 M rfl rfl fun a M => x_end rfl ?_
     obtain rfl := sj h
     have u125 := T610.kn t630
     exact ⟨rfl, ⟨o628, (M.pk [39, 40, 42, 23, 15, 0] rfl), (q617.kn t630), (iN i611 t630), (iN i612 t630), (iN i613 t630), (iN i614 t630), u125⟩⟩
    rw [if_neg hk124] at h
    have hk124 := nott hk124
    have M := M.k 109 rfl hk124
    refine pn (j := 7) E 4 M rfl rfl fun a M => ?_
    by_cases hk126 : (r621 != (0 : Int)) = true
    ·rw [if_pos hk126] at h
     have M := M.k 113 rfl hk126
     refine pn (j := 14) E 7 M rfl rfl fun a M => x_end rfl ?_
     obtain rfl := sj h
     have u127 := T610.kn t630
     exact ⟨rfl, ⟨o628, (M.pk [39, 40, 42, 23, 15, 0] rfl), (q617.kn t630), (iN i611 t630), (iN i612 t630), (iN i613 t630), (iN i614 t630), u127⟩⟩
    rw [if_neg hk126] at h
    have hk126 := nott hk126
    have M := M.k 113 rfl hk126
    refine pn (j := 14) E 7 M rfl rfl fun a M => x_end rfl ?_
    obtain rfl := sj h
    have u128 := T610.kn t630
    exact ⟨rfl, ⟨o628, (M.pk [39, 40, 42, 23, 15, 0] rfl), (q617.kn t630), (iN i611 t630), (iN i612 t630), (iN i613 t630), (iN i614 t630), u128⟩⟩
   intro e129 a w634 hO635
   obtain ⟨he636, hO635⟩ := hO635
   subst he636
   obtain ⟨o637, M, q638, i639, i640, i641, i642, T643⟩ := hO635
   refine q_then <| c_true (M.e 5 rfl) <| c_seq <| c_reg <| pn (j := 1) E 1 M rfl rfl fun a M => x_end rfl <| q_then <| wp_ret <| q_then_ret ?_
   obtain rfl := sj h
   exact ⟨M.f.defers, _, (res1 Try.results3 (rv_tmp (M.t 0 rfl))), ⟨o637, rfl, T643⟩⟩
  rw [scase_r] at h
  obtain ⟨o653, z644, z645, z646, z647, z648, z649, z650, z651, z652, he654, q655, q656, q657, q658, q659, q660, i661, i662, i663, T664⟩ := hp624
  obtain ⟨o665, ho666⟩ := ex (mrg w574 o608 [(0, 0), (50, 101), (51, 102), (52, 103), (53, 104), (54, 106), (55, 107)] o653)
  have t667 := T664.r0 ho666
  have q668 := q655.r T664 ho666 101 rfl rfl
  have q669 := q656.r T664 ho666 102 rfl rfl rfl rfl
  have q670 := q657.r T664 ho666 103 rfl rfl rfl rfl
  have q671 := q658.r T664 ho666 104 rfl rfl rfl rfl
  have q672 := q659.r T664 ho666 106 rfl rfl rfl rfl
  have q673 := q660.r T664 ho666 107 rfl rfl
  have i674 := iR i661 T664 ho666 rfl rfl
  have i676 := iR i662 T664 ho666 rfl rfl
  have i678 := iR i663 T664 ho666 rfl rfl
  refine ⟨_, he654, fun a M => ?_⟩
  obtain ⟨A680, c681, hzc681, -⟩ := q669.form
  subst hzc681
  obtain ⟨A682, c683, hzc683, -⟩ := q670.form
  subst hzc683
  obtain ⟨A684, c685, hzc685, -⟩ := q671.form
  subst hzc685
  obtain ⟨A686, c687, hzc687, -⟩ := q672.form
  subst hzc687
  obtain ⟨A688, c689, hzc689, -⟩ := im_form i674
  subst hzc689
  obtain ⟨A690, c691, hzc691, -⟩ := im_form i676
  subst hzc691
  obtain ⟨A692, c693, hzc693, -⟩ := im_form i678
  subst hzc693
  refine pn (j := 8) E 5 M rfl rfl fun a M => x_end rfl <| q_then <| c_seq <| c_seq ?_
  obtain ⟨x695, hx696, h⟩ := bind_some h
  refine cut_c (fun (x : Unit) (e : Exit) (a : Act) (w : World) => (e = .normal ∧ ∃ (o694 : Own), MB 192 [] [(1, .slice A25 p11.length c26), (3, .pointer (some ⟨g29, 0, none⟩)), (8, .int .i64 (IntKind.wrap .i64 ((p1.terms.length : Int) + (p1.names.length : Int)))), (11, .pointer none), (13, .pointer (some ⟨z644, 0, none⟩)), (120, .bool true)] a ∧ Box w o694 100 g29 25 #[.slice A19 p1.terms.length c20, .slice A21 p1.names.length c22, .slice A23 p1.rules.length c24] ∧ Box w o694 101 z644 116 #[.slice A688 ((⟨([] : List ByteArray) ++ p1.terms, ([] : List ByteArray) ++ p1.names, r177 ++ [(⟨IntKind.wrap .i64 ((p1.terms.length : Int) + r213), x478⟩ : Rule)]⟩ : Grammar).terms).length c689, .slice A690 ((⟨([] : List ByteArray) ++ p1.terms, ([] : List ByteArray) ++ p1.names, r177 ++ [(⟨IntKind.wrap .i64 ((p1.terms.length : Int) + r213), x478⟩ : Rule)]⟩ : Grammar).names).length c691, .slice A692 ((⟨([] : List ByteArray) ++ p1.terms, ([] : List ByteArray) ++ p1.names, r177 ++ [(⟨IntKind.wrap .i64 ((p1.terms.length : Int) + r213), x478⟩ : Rule)]⟩ : Grammar).rules).length c693, .int .i64 (p11.length : Int), .slice A680 r621.1.length c681, .slice A682 r621.2.1.length c683, .slice A684 r621.2.2.1.length c685, .slice A686 r621.2.2.2.1.length c687, .chan (some z652)] ∧ Row tBool 4 w o694 102 (.slice A680 r621.1.length c681) r621.1 ∧ Row tBool 4 w o694 103 (.slice A682 r621.2.1.length c683) r621.2.1 ∧ Row (tInt .i64) 3 w o694 104 (.slice A684 r621.2.2.1.length c685) r621.2.2.1 ∧ Row tyPart 46 w o694 106 (.slice A686 r621.2.2.2.1.length c687) r621.2.2.2.1 ∧ Chan w o694 107 z652 1 (r621.2.2.2.2.map cv_46) ∧ ((tSlice 3 (tInt .i64) (by decide))).im w (L o694 0) p11 [.slice A25 p11.length c26] ∧ ((tSlice 9 tStr (by decide))).im w (L o694 0) p1.terms [.slice A19 p1.terms.length c20] ∧ ((tSlice 9 tStr (by decide))).im w (L o694 0) p1.names [.slice A21 p1.names.length c22] ∧ ((tSlice 28 tyRule (by decide))).im w (L o694 0) p1.rules [.slice A23 p1.rules.length c24] ∧ (tSlice 9 tStr (by decide)).im w (L o694 0) ((⟨([] : List ByteArray) ++ p1.terms, ([] : List ByteArray) ++ p1.names, r177 ++ [(⟨IntKind.wrap .i64 ((p1.terms.length : Int) + r213), x478⟩ : Rule)]⟩ : Grammar).terms) [.slice A688 ((⟨([] : List ByteArray) ++ p1.terms, ([] : List ByteArray) ++ p1.names, r177 ++ [(⟨IntKind.wrap .i64 ((p1.terms.length : Int) + r213), x478⟩ : Rule)]⟩ : Grammar).terms).length c689] ∧ (tSlice 9 tStr (by decide)).im w (L o694 0) ((⟨([] : List ByteArray) ++ p1.terms, ([] : List ByteArray) ++ p1.names, r177 ++ [(⟨IntKind.wrap .i64 ((p1.terms.length : Int) + r213), x478⟩ : Rule)]⟩ : Grammar).names) [.slice A690 ((⟨([] : List ByteArray) ++ p1.terms, ([] : List ByteArray) ++ p1.names, r177 ++ [(⟨IntKind.wrap .i64 ((p1.terms.length : Int) + r213), x478⟩ : Rule)]⟩ : Grammar).names).length c691] ∧ (tSlice 28 tyRule (by decide)).im w (L o694 0) ((⟨([] : List ByteArray) ++ p1.terms, ([] : List ByteArray) ++ p1.names, r177 ++ [(⟨IntKind.wrap .i64 ((p1.terms.length : Int) + r213), x478⟩ : Rule)]⟩ : Grammar).rules) [.slice A692 ((⟨([] : List ByteArray) ++ p1.terms, ([] : List ByteArray) ++ p1.names, r177 ++ [(⟨IntKind.wrap .i64 ((p1.terms.length : Int) + r213), x478⟩ : Rule)]⟩ : Grammar).rules).length c693] ∧ Tr (Ls o0 []) w0 o0 w o694)) x695 ?_ ?_
  ·replace h := hx696
   refine c_reg <| pn (j := 3) E 3 M rfl rfl fun a M => ?_
   by_cases hk134 : (r572 != (0 : Int)) = true
   ·rw [if_pos hk134] at h
    have M := M.k 109 rfl hk134
    refine pn (j := 14) E 11 M rfl rfl fun a M => x_end rfl ?_
    obtain rfl := sj h
    have u135 := T610.kn t667
    exact ⟨rfl, ⟨o665, (M.pk [39, 40, 42, 23, 15, 0] rfl), (q617.kn t667), q668, q669, q670, q671, q672, q673, (iN i611 t667), (iN i612 t667), (iN i613 t667), (iN i614 t667), i674, i676, i678, u135⟩⟩
   rw [if_neg hk134] at h
   have hk134 := nott hk134
   have M := M.k 109 rfl hk134
   refine pn (j := 7) E 4 M rfl rfl fun a M => ?_
   by_cases hk136 : ((0 : Int) != (0 : Int)) = true
   ·rw [if_pos hk136] at h
    have M := M.k 113 rfl hk136
    refine pn (j := 14) E 7 M rfl rfl fun a M => x_end rfl ?_
    obtain rfl := sj h
    have u137 := T610.kn t667
    exact ⟨rfl, ⟨o665, (M.pk [39, 40, 42, 23, 15, 0] rfl), (q617.kn t667), q668, q669, q670, q671, q672, q673, (iN i611 t667), (iN i612 t667), (iN i613 t667), (iN i614 t667), i674, i676, i678, u137⟩⟩
   rw [if_neg hk136] at h
   have hk136 := nott hk136
   have M := M.k 113 rfl hk136
   refine pn (j := 14) E 7 M rfl rfl fun a M => x_end rfl ?_
   obtain rfl := sj h
   have u138 := T610.kn t667
   exact ⟨rfl, ⟨o665, (M.pk [39, 40, 42, 23, 15, 0] rfl), (q617.kn t667), q668, q669, q670, q671, q672, q673, (iN i611 t667), (iN i612 t667), (iN i613 t667), (iN i614 t667), i674, i676, i678, u138⟩⟩
  intro e139 a w697 hO698
  obtain ⟨he699, hO698⟩ := hO698
  subst he699
  obtain ⟨o700, M, q701, q702, q703, q704, q705, q706, q707, i708, i709, i710, i711, i712, i713, i714, T715⟩ := hO698
  refine q_then <| c_true (M.e 5 rfl) <| c_seq <| c_reg <| pn (j := 1) E 1 M rfl rfl fun a M => x_end rfl <| q_then <| wp_ret <| q_then_ret ?_
  obtain rfl := sj h
  exact ⟨M.f.defers, _, (res1 Try.results3 (rv_tmp (M.t 0 rfl))), ⟨o700, rfl, T715⟩⟩
 rw [scase_r] at h
 obtain ⟨o725, z716, z717, z718, z719, z720, z721, z722, z723, z724, he726, q727, q728, q729, q730, q731, q732, i733, i734, i735, T736⟩ := hp575
 obtain ⟨o737, ho738⟩ := ex (mrg w554 o559 [(0, 0), (50, 101), (51, 106), (52, 107), (53, 108), (54, 109), (55, 110)] o725)
 have t739 := T736.r0 ho738
 have q740 := q727.r T736 ho738 101 rfl rfl
 have q741 := q728.r T736 ho738 106 rfl rfl rfl rfl
 have q742 := q729.r T736 ho738 107 rfl rfl rfl rfl
 have q743 := q730.r T736 ho738 108 rfl rfl rfl rfl
 have q744 := q731.r T736 ho738 109 rfl rfl rfl rfl
 have q745 := q732.r T736 ho738 110 rfl rfl
 have i746 := iR i733 T736 ho738 rfl rfl
 have i748 := iR i734 T736 ho738 rfl rfl
 have i750 := iR i735 T736 ho738 rfl rfl
 refine ⟨_, he726, fun a M => ?_⟩
 obtain ⟨A752, c753, hzc753, -⟩ := q741.form
 subst hzc753
 obtain ⟨A754, c755, hzc755, -⟩ := q742.form
 subst hzc755
 obtain ⟨A756, c757, hzc757, -⟩ := q743.form
 subst hzc757
 obtain ⟨A758, c759, hzc759, -⟩ := q744.form
 subst hzc759
 obtain ⟨A760, c761, hzc761, -⟩ := im_form i746
 subst hzc761
 obtain ⟨A762, c763, hzc763, -⟩ := im_form i748
 subst hzc763
 obtain ⟨A764, c765, hzc765, -⟩ := im_form i750
 subst hzc765
 refine pn (j := 8) E 5 M rfl rfl fun a M => x_end rfl <| q_then <| c_seq <| c_reg <| ov rfl rfl M (x_loadN (ldn_25 _ rfl) (M.e 19 rfl) (((b530.kn t561).kn t739).sub (cs := #[.slice A196 (([] : List ByteArray) ++ p1.terms).length c197, .slice A198 (([] : List ByteArray) ++ p1.names).length c199, .slice A526 (r177 ++ [(⟨IntKind.wrap .i64 ((p1.terms.length : Int) + r213), x478⟩ : Rule)]).length c527]) 0 rfl)) fun a M => pn (j := 2) E 1 M rfl rfl fun a M => ?_
 have u140 := u103.kn t739
 have u141 := (b530.kn t561).kn t739
 have u142 := (u97.kn t561).kn t739
 have u143 := (u98.kn t561).kn t739
 have u144 := ((b524.kk t531 rfl rfl).kn t561).kn t739
 have u145 := iN u107 t739
 have u146 := iN u104 t739
 have u147 := iN u105 t739
 have u148 := iN u106 t739
 have u149 := ((((T505.kn t502).kk t525 hown rfl).kk t531 hown rfl).kn t561).kn t739
 obtain ⟨o766, ho767⟩ := ex (lro [(102, 0)] o737)
 have T768 := u149.kw hown ho767 rfl
 have i769 := iW u145 ho767 rfl
 have i770 := iW u146 ho767 rfl
 have i771 := iW u147 ho767 rfl
 have i772 := iW u148 ho767 rfl
 have i773 := iW i746 ho767 rfl
 have i774 := iW i748 ho767 rfl
 have i775 := iW i750 ho767 rfl
 have q776 := u140.kw ho767 100 rfl
 have q777 := u141.kw ho767 105 rfl
 have q778 := u142.kz (hE := by decide) ho767 rfl rfl
 have q780 := u143.kw ho767 103 rfl rfl
 have q781 := u144.kw ho767 104 rfl rfl
 have q782 := q740.kw ho767 101 rfl
 have q783 := q741.kw ho767 106 rfl rfl
 have q784 := q742.kw ho767 107 rfl rfl
 have q785 := q743.kw ho767 108 rfl rfl
 have q786 := q744.kw ho767 109 rfl rfl
 have q787 := q745.kw ho767 110 rfl
 obtain ⟨o788, ho789⟩ := ex (lro [(103, 0)] o766)
 have T790 := T768.kw hown ho789 rfl
 have i791 := iW i769 ho789 rfl
 have i792 := iW i770 ho789 rfl
 have i793 := iW i771 ho789 rfl
 have i794 := iW i772 ho789 rfl
 have i795 := iW i773 ho789 rfl
 have i796 := iW i774 ho789 rfl
 have i797 := iW i775 ho789 rfl
 have i798 := iW q778 ho789 rfl
 have q799 := q776.kw ho789 100 rfl
 have q800 := q777.kw ho789 105 rfl
 have q801 := q780.kz (hE := by decide) ho789 rfl rfl
 have q803 := q781.kw ho789 104 rfl rfl
 have q804 := q782.kw ho789 101 rfl
 have q805 := q783.kw ho789 106 rfl rfl
 have q806 := q784.kw ho789 107 rfl rfl
 have q807 := q785.kw ho789 108 rfl rfl
 have q808 := q786.kw ho789 109 rfl rfl
 have q809 := q787.kw ho789 110 rfl
 obtain ⟨o810, ho811⟩ := ex (lro [(104, 0)] o788)
 have T812 := T790.kw hown ho811 rfl
 have i813 := iW i791 ho811 rfl
 have i814 := iW i792 ho811 rfl
 have i815 := iW i793 ho811 rfl
 have i816 := iW i794 ho811 rfl
 have i817 := iW i795 ho811 rfl
 have i818 := iW i796 ho811 rfl
 have i819 := iW i797 ho811 rfl
 have i820 := iW i798 ho811 rfl
 have i821 := iW q801 ho811 rfl
 have q822 := q799.kw ho811 100 rfl
 have q823 := q800.kw ho811 105 rfl
 have q824 := q803.kz (hE := by decide) ho811 rfl rfl
 have q826 := q804.kw ho811 101 rfl
 have q827 := q805.kw ho811 106 rfl rfl
 have q828 := q806.kw ho811 107 rfl rfl
 have q829 := q807.kw ho811 108 rfl rfl
 have q830 := q808.kw ho811 109 rfl rfl
 have q831 := q809.kw ho811 110 rfl
 obtain ⟨r832, hr833, h⟩ := bind_some h
 refine oc rfl (wp0 rfl) rfl rfl M (x_call cf_29 (m2 (M.e 1 rfl) (M.e 0 rfl))) (chart_Of_calls hr833 (lko_own (T := [(0, 0)]) (o := o810) rfl) (sL i820 rfl) (sL i821 rfl) (sL q824 rfl) (sL i813 rfl)) (fun e150 w834 hp835 => ?_)
 rcases r832 with r832 | r832
 ·rw [scase_l] at h
  obtain ⟨o836, he837, T838⟩ := hp835
  obtain ⟨o839, ho840⟩ := ex (mrg w574 o810 [(0, 0)] o836)
  have t841 := T838.r0 ho840
  refine ⟨_, he837, fun a M => ?_⟩
  refine pn (j := 8) E 5 M rfl rfl fun a M => x_end rfl <| q_then <| c_seq <| c_seq ?_
  obtain ⟨x843, hx844, h⟩ := bind_some h
  refine cut_c (fun (x : Unit) (e : Exit) (a : Act) (w : World) => (e = .normal ∧ ∃ (o842 : Own), MB 192 [] [(1, .slice A25 p11.length c26), (3, .pointer (some ⟨g29, 0, none⟩)), (8, .int .i64 (IntKind.wrap .i64 ((p1.terms.length : Int) + (p1.names.length : Int)))), (11, .pointer (some ⟨z716, 0, none⟩)), (13, .pointer none), (120, .bool true)] a ∧ Box w o842 100 g29 25 #[.slice A19 p1.terms.length c20, .slice A21 p1.names.length c22, .slice A23 p1.rules.length c24] ∧ Box w o842 101 z716 116 #[.slice A760 p1.terms.length c761, .slice A762 p1.names.length c763, .slice A764 p1.rules.length c765, .int .i64 (p11.length : Int), .slice A752 r572.1.length c753, .slice A754 r572.2.1.length c755, .slice A756 r572.2.2.1.length c757, .slice A758 r572.2.2.2.1.length c759, .chan (some z724)] ∧ Row tBool 4 w o842 106 (.slice A752 r572.1.length c753) r572.1 ∧ Row tBool 4 w o842 107 (.slice A754 r572.2.1.length c755) r572.2.1 ∧ Row (tInt .i64) 3 w o842 108 (.slice A756 r572.2.2.1.length c757) r572.2.2.1 ∧ Row tyPart 46 w o842 109 (.slice A758 r572.2.2.2.1.length c759) r572.2.2.2.1 ∧ Chan w o842 110 z724 1 (r572.2.2.2.2.map cv_46) ∧ ((tSlice 3 (tInt .i64) (by decide))).im w (L o842 0) p11 [.slice A25 p11.length c26] ∧ ((tSlice 9 tStr (by decide))).im w (L o842 0) p1.terms [.slice A19 p1.terms.length c20] ∧ ((tSlice 9 tStr (by decide))).im w (L o842 0) p1.names [.slice A21 p1.names.length c22] ∧ ((tSlice 28 tyRule (by decide))).im w (L o842 0) p1.rules [.slice A23 p1.rules.length c24] ∧ (tSlice 9 tStr (by decide)).im w (L o842 0) p1.terms [.slice A760 p1.terms.length c761] ∧ (tSlice 9 tStr (by decide)).im w (L o842 0) p1.names [.slice A762 p1.names.length c763] ∧ (tSlice 28 tyRule (by decide)).im w (L o842 0) p1.rules [.slice A764 p1.rules.length c765] ∧ Tr (Ls o0 []) w0 o0 w o842)) x843 ?_ ?_
  ·replace h := hx844
   refine c_reg <| pn (j := 3) E 3 M rfl rfl fun a M => ?_
   by_cases hk155 : ((0 : Int) != (0 : Int)) = true
   ·rw [if_pos hk155] at h
    have M := M.k 109 rfl hk155
    refine pn (j := 14) E 11 M rfl rfl fun a M => x_end rfl ?_
    obtain rfl := sj h
    have u156 := T812.kn t841
    exact ⟨rfl, ⟨o839, (M.pk [39, 40, 42, 23, 15, 0] rfl), (q822.kn t841), (q826.kn t841), (q827.kn t841), (q828.kn t841), (q829.kn t841), (q830.kn t841), (q831.kn t841), (iN i813 t841), (iN i814 t841), (iN i815 t841), (iN i816 t841), (iN i817 t841), (iN i818 t841), (iN i819 t841), u156⟩⟩
   rw [if_neg hk155] at h
   have hk155 := nott hk155
   have M := M.k 109 rfl hk155
   refine pn (j := 7) E 4 M rfl rfl fun a M => ?_
   by_cases hk157 : (r832 != (0 : Int)) = true
   ·rw [if_pos hk157] at h
    have M := M.k 113 rfl hk157
    refine pn (j := 14) E 7 M rfl rfl fun a M => x_end rfl ?_
    obtain rfl := sj h
    have u158 := T812.kn t841
    exact ⟨rfl, ⟨o839, (M.pk [39, 40, 42, 23, 15, 0] rfl), (q822.kn t841), (q826.kn t841), (q827.kn t841), (q828.kn t841), (q829.kn t841), (q830.kn t841), (q831.kn t841), (iN i813 t841), (iN i814 t841), (iN i815 t841), (iN i816 t841), (iN i817 t841), (iN i818 t841), (iN i819 t841), u158⟩⟩
   rw [if_neg hk157] at h
   have hk157 := nott hk157
   have M := M.k 113 rfl hk157
   refine pn (j := 14) E 7 M rfl rfl fun a M => x_end rfl ?_
   obtain rfl := sj h
   have u159 := T812.kn t841
   exact ⟨rfl, ⟨o839, (M.pk [39, 40, 42, 23, 15, 0] rfl), (q822.kn t841), (q826.kn t841), (q827.kn t841), (q828.kn t841), (q829.kn t841), (q830.kn t841), (q831.kn t841), (iN i813 t841), (iN i814 t841), (iN i815 t841), (iN i816 t841), (iN i817 t841), (iN i818 t841), (iN i819 t841), u159⟩⟩
  intro e160 a w845 hO846
  obtain ⟨he847, hO846⟩ := hO846
  subst he847
  obtain ⟨o848, M, q849, q850, q851, q852, q853, q854, q855, i856, i857, i858, i859, i860, i861, i862, T863⟩ := hO846
  refine q_then <| c_true (M.e 5 rfl) <| c_seq <| c_reg <| pn (j := 1) E 1 M rfl rfl fun a M => x_end rfl <| q_then <| wp_ret <| q_then_ret ?_
  obtain rfl := sj h
  exact ⟨M.f.defers, _, (res1 Try.results3 (rv_tmp (M.t 0 rfl))), ⟨o848, rfl, T863⟩⟩
 rw [scase_r] at h
 obtain ⟨o873, z864, z865, z866, z867, z868, z869, z870, z871, z872, he874, q875, q876, q877, q878, q879, q880, i881, i882, i883, T884⟩ := hp835
 obtain ⟨o885, ho886⟩ := ex (mrg w574 o810 [(0, 0), (50, 102), (51, 103), (52, 104), (53, 111), (54, 112), (55, 113)] o873)
 have t887 := T884.r0 ho886
 have q888 := q875.r T884 ho886 102 rfl rfl
 have q889 := q876.r T884 ho886 103 rfl rfl rfl rfl
 have q890 := q877.r T884 ho886 104 rfl rfl rfl rfl
 have q891 := q878.r T884 ho886 111 rfl rfl rfl rfl
 have q892 := q879.r T884 ho886 112 rfl rfl rfl rfl
 have q893 := q880.r T884 ho886 113 rfl rfl
 have i894 := iR i881 T884 ho886 rfl rfl
 have i896 := iR i882 T884 ho886 rfl rfl
 have i898 := iR i883 T884 ho886 rfl rfl
 refine ⟨_, he874, fun a M => ?_⟩
 obtain ⟨A900, c901, hzc901, -⟩ := q889.form
 subst hzc901
 obtain ⟨A902, c903, hzc903, -⟩ := q890.form
 subst hzc903
 obtain ⟨A904, c905, hzc905, -⟩ := q891.form
 subst hzc905
 obtain ⟨A906, c907, hzc907, -⟩ := q892.form
 subst hzc907
 obtain ⟨A908, c909, hzc909, -⟩ := im_form i894
 subst hzc909
 obtain ⟨A910, c911, hzc911, -⟩ := im_form i896
 subst hzc911
 obtain ⟨A912, c913, hzc913, -⟩ := im_form i898
 subst hzc913
 refine pn (j := 8) E 5 M rfl rfl fun a M => x_end rfl <| q_then <| c_seq <| c_seq ?_
 obtain ⟨x916, hx917, h⟩ := bind_some h
 refine cut_c (fun (x : Bool) (e : Exit) (a : Act) (w : World) => (e = .normal ∧ ∃ (o915 : Own), MB 192 [] [(1, .slice A25 p11.length c26), (3, .pointer (some ⟨g29, 0, none⟩)), (8, .int .i64 (IntKind.wrap .i64 ((p1.terms.length : Int) + (p1.names.length : Int)))), (11, .pointer (some ⟨z716, 0, none⟩)), (13, .pointer (some ⟨z864, 0, none⟩)), (120, .bool x)] a ∧ Box w o915 100 g29 25 #[.slice A19 p1.terms.length c20, .slice A21 p1.names.length c22, .slice A23 p1.rules.length c24] ∧ Box w o915 101 z716 116 #[.slice A760 p1.terms.length c761, .slice A762 p1.names.length c763, .slice A764 p1.rules.length c765, .int .i64 (p11.length : Int), .slice A752 r572.1.length c753, .slice A754 r572.2.1.length c755, .slice A756 r572.2.2.1.length c757, .slice A758 r572.2.2.2.1.length c759, .chan (some z724)] ∧ Box w o915 102 z864 116 #[.slice A908 ((⟨([] : List ByteArray) ++ p1.terms, ([] : List ByteArray) ++ p1.names, r177 ++ [(⟨IntKind.wrap .i64 ((p1.terms.length : Int) + r213), x478⟩ : Rule)]⟩ : Grammar).terms).length c909, .slice A910 ((⟨([] : List ByteArray) ++ p1.terms, ([] : List ByteArray) ++ p1.names, r177 ++ [(⟨IntKind.wrap .i64 ((p1.terms.length : Int) + r213), x478⟩ : Rule)]⟩ : Grammar).names).length c911, .slice A912 ((⟨([] : List ByteArray) ++ p1.terms, ([] : List ByteArray) ++ p1.names, r177 ++ [(⟨IntKind.wrap .i64 ((p1.terms.length : Int) + r213), x478⟩ : Rule)]⟩ : Grammar).rules).length c913, .int .i64 (p11.length : Int), .slice A900 r832.1.length c901, .slice A902 r832.2.1.length c903, .slice A904 r832.2.2.1.length c905, .slice A906 r832.2.2.2.1.length c907, .chan (some z872)] ∧ Row tBool 4 w o915 106 (.slice A752 r572.1.length c753) r572.1 ∧ Row tBool 4 w o915 107 (.slice A754 r572.2.1.length c755) r572.2.1 ∧ Row (tInt .i64) 3 w o915 108 (.slice A756 r572.2.2.1.length c757) r572.2.2.1 ∧ Row tyPart 46 w o915 109 (.slice A758 r572.2.2.2.1.length c759) r572.2.2.2.1 ∧ Chan w o915 110 z724 1 (r572.2.2.2.2.map cv_46) ∧ Row tBool 4 w o915 103 (.slice A900 r832.1.length c901) r832.1 ∧ Row tBool 4 w o915 104 (.slice A902 r832.2.1.length c903) r832.2.1 ∧ Row (tInt .i64) 3 w o915 111 (.slice A904 r832.2.2.1.length c905) r832.2.2.1 ∧ Row tyPart 46 w o915 112 (.slice A906 r832.2.2.2.1.length c907) r832.2.2.2.1 ∧ Chan w o915 113 z872 1 (r832.2.2.2.2.map cv_46) ∧ ((tSlice 3 (tInt .i64) (by decide))).im w (L o915 0) p11 [.slice A25 p11.length c26] ∧ ((tSlice 9 tStr (by decide))).im w (L o915 0) p1.terms [.slice A19 p1.terms.length c20] ∧ ((tSlice 9 tStr (by decide))).im w (L o915 0) p1.names [.slice A21 p1.names.length c22] ∧ ((tSlice 28 tyRule (by decide))).im w (L o915 0) p1.rules [.slice A23 p1.rules.length c24] ∧ (tSlice 9 tStr (by decide)).im w (L o915 0) p1.terms [.slice A760 p1.terms.length c761] ∧ (tSlice 9 tStr (by decide)).im w (L o915 0) p1.names [.slice A762 p1.names.length c763] ∧ (tSlice 28 tyRule (by decide)).im w (L o915 0) p1.rules [.slice A764 p1.rules.length c765] ∧ (tSlice 9 tStr (by decide)).im w (L o915 0) ((⟨([] : List ByteArray) ++ p1.terms, ([] : List ByteArray) ++ p1.names, r177 ++ [(⟨IntKind.wrap .i64 ((p1.terms.length : Int) + r213), x478⟩ : Rule)]⟩ : Grammar).terms) [.slice A908 ((⟨([] : List ByteArray) ++ p1.terms, ([] : List ByteArray) ++ p1.names, r177 ++ [(⟨IntKind.wrap .i64 ((p1.terms.length : Int) + r213), x478⟩ : Rule)]⟩ : Grammar).terms).length c909] ∧ (tSlice 9 tStr (by decide)).im w (L o915 0) ((⟨([] : List ByteArray) ++ p1.terms, ([] : List ByteArray) ++ p1.names, r177 ++ [(⟨IntKind.wrap .i64 ((p1.terms.length : Int) + r213), x478⟩ : Rule)]⟩ : Grammar).names) [.slice A910 ((⟨([] : List ByteArray) ++ p1.terms, ([] : List ByteArray) ++ p1.names, r177 ++ [(⟨IntKind.wrap .i64 ((p1.terms.length : Int) + r213), x478⟩ : Rule)]⟩ : Grammar).names).length c911] ∧ (tSlice 28 tyRule (by decide)).im w (L o915 0) ((⟨([] : List ByteArray) ++ p1.terms, ([] : List ByteArray) ++ p1.names, r177 ++ [(⟨IntKind.wrap .i64 ((p1.terms.length : Int) + r213), x478⟩ : Rule)]⟩ : Grammar).rules) [.slice A912 ((⟨([] : List ByteArray) ++ p1.terms, ([] : List ByteArray) ++ p1.names, r177 ++ [(⟨IntKind.wrap .i64 ((p1.terms.length : Int) + r213), x478⟩ : Rule)]⟩ : Grammar).rules).length c913] ∧ Tr (Ls o0 []) w0 o0 w o915)) x916 ?_ ?_
 ·replace h := hx917
  refine c_reg <| pn (j := 3) E 3 M rfl rfl fun a M => ?_
  by_cases hk163 : ((0 : Int) != (0 : Int)) = true
  ·rw [if_pos hk163] at h
   have M := M.k 109 rfl hk163
   refine pn (j := 14) E 11 M rfl rfl fun a M => x_end rfl ?_
   obtain rfl := sj h
   have u164 := T812.kn t887
   exact ⟨rfl, ⟨o885, (M.pk [39, 40, 42, 23, 15, 0] rfl), (q822.kn t887), (q826.kn t887), q888, (q827.kn t887), (q828.kn t887), (q829.kn t887), (q830.kn t887), (q831.kn t887), q889, q890, q891, q892, q893, (iN i813 t887), (iN i814 t887), (iN i815 t887), (iN i816 t887), (iN i817 t887), (iN i818 t887), (iN i819 t887), i894, i896, i898, u164⟩⟩
  rw [if_neg hk163] at h
  have hk163 := nott hk163
  have M := M.k 109 rfl hk163
  refine pn (j := 7) E 4 M rfl rfl fun a M => ?_
  have M := M.k 113 rfl hk163
  refine pn (j := 14) E 7 M rfl rfl fun a M => x_end rfl ?_
  obtain rfl := sj h
  have u165 := T812.kn t887
  exact ⟨rfl, ⟨o885, (M.pk [39, 40, 42, 23, 15, 0] rfl), (q822.kn t887), (q826.kn t887), q888, (q827.kn t887), (q828.kn t887), (q829.kn t887), (q830.kn t887), (q831.kn t887), q889, q890, q891, q892, q893, (iN i813 t887), (iN i814 t887), (iN i815 t887), (iN i816 t887), (iN i817 t887), (iN i818 t887), (iN i819 t887), i894, i896, i898, u165⟩⟩
 intro e166 a w918 hO919
 obtain ⟨he920, hO919⟩ := hO919
 subst he920
 obtain ⟨o921, M, q922, q923, q924, q925, q926, q927, q928, q929, q930, q931, q932, q933, q934, i935, i936, i937, i938, i939, i940, i941, i942, i943, i944, T945⟩ := hO919
 refine q_then ?_
 by_cases hk167 : x916 = true
 ·rw [if_pos hk167] at h
  have M := M.k 120 rfl hk167
  refine c_true (M.e 5 rfl) <| c_seq <| c_reg <| pn (j := 1) E 1 M rfl rfl fun a M => x_end rfl <| q_then <| wp_ret <| q_then_ret ?_
  obtain rfl := sj h
  exact ⟨M.f.defers, _, (res1 Try.results3 (rv_tmp (M.t 0 rfl))), ⟨o921, rfl, T945⟩⟩
 rw [if_neg hk167] at h
 have hk167 := nott hk167
 have M := M.k 120 rfl hk167
 refine c_false (M.e 5 rfl) <| wp_skip <| q_then <| c_seq <| c_reg <| pn (j := 1) E 1 M rfl rfl fun a M => ?_
 obtain ⟨r946, hr947, h⟩ := bind_some h
 refine oc rfl (wp0 rfl) rfl rfl M (x_call cf_30 (m1 (M.e 0 rfl))) (chart_Chart_Spans_calls hr947 (lko_own (T := [(0, 0), (101, 1), (106, 2), (107, 3), (108, 4), (109, 5), (110, 6)]) (o := o921) rfl) (sL i939 rfl) (sL i940 rfl) (sL i941 rfl) (q923.l rfl) (q925.l rfl rfl) (q926.l rfl rfl) (q927.l rfl rfl) (q928.l rfl rfl) (q929.l rfl)) (fun e168 w948 hp949 => ?_)
 obtain ⟨o951, z950, he952, q953, T954⟩ := hp949
 obtain ⟨o955, ho956⟩ := ex (mrg w918 o921 [(0, 0), (1, 101), (2, 106), (3, 107), (4, 108), (5, 109), (6, 110), (50, 105)] o951)
 have t957 := T954.r0 ho956
 have q958 := q953.r T954 ho956 105 rfl rfl rfl rfl
 refine ⟨_, he952, fun a M => ?_⟩
 obtain ⟨A959, c960, hzc960, -⟩ := q958.form
 subst hzc960
 refine pn (j := 3) E 1 M rfl rfl fun a M => x_end rfl <| q_then <| c_seq <| c_seq <| c_reg <| pn (j := 1) E 1 M rfl rfl fun a M => x_end rfl <| q_then <| wp_block ?_
 have u193 := T945.kn t957
 obtain ⟨x1197, hx1198, h⟩ := bind_some h
 refine loop_iter (S := Int) (X := (Unit ⊕ Unit)) (fun (s : Int) => law24_ChartMore_b1 k p1 p11 r177 r213 x478 r832 r946 s) (fun (s : Int) (a : Act) (w : World) => ∃ (o1115 : Own), MB 192 [] [(1, .slice A25 p11.length c26), (3, .pointer (some ⟨g29, 0, none⟩)), (8, .int .i64 (IntKind.wrap .i64 ((p1.terms.length : Int) + (p1.names.length : Int)))), (11, .pointer (some ⟨z716, 0, none⟩)), (13, .pointer (some ⟨z864, 0, none⟩)), (15, .slice A959 r946.length c960), (16, .int .i64 s)] a ∧ Box w o1115 100 g29 25 #[.slice A19 p1.terms.length c20, .slice A21 p1.names.length c22, .slice A23 p1.rules.length c24] ∧ Box w o1115 101 z716 116 #[.slice A760 p1.terms.length c761, .slice A762 p1.names.length c763, .slice A764 p1.rules.length c765, .int .i64 (p11.length : Int), .slice A752 r572.1.length c753, .slice A754 r572.2.1.length c755, .slice A756 r572.2.2.1.length c757, .slice A758 r572.2.2.2.1.length c759, .chan (some z724)] ∧ Box w o1115 102 z864 116 #[.slice A908 ((⟨([] : List ByteArray) ++ p1.terms, ([] : List ByteArray) ++ p1.names, r177 ++ [(⟨IntKind.wrap .i64 ((p1.terms.length : Int) + r213), x478⟩ : Rule)]⟩ : Grammar).terms).length c909, .slice A910 ((⟨([] : List ByteArray) ++ p1.terms, ([] : List ByteArray) ++ p1.names, r177 ++ [(⟨IntKind.wrap .i64 ((p1.terms.length : Int) + r213), x478⟩ : Rule)]⟩ : Grammar).names).length c911, .slice A912 ((⟨([] : List ByteArray) ++ p1.terms, ([] : List ByteArray) ++ p1.names, r177 ++ [(⟨IntKind.wrap .i64 ((p1.terms.length : Int) + r213), x478⟩ : Rule)]⟩ : Grammar).rules).length c913, .int .i64 (p11.length : Int), .slice A900 r832.1.length c901, .slice A902 r832.2.1.length c903, .slice A904 r832.2.2.1.length c905, .slice A906 r832.2.2.2.1.length c907, .chan (some z872)] ∧ Row tySpan 42 w o1115 105 (.slice A959 r946.length c960) r946 ∧ Row tBool 4 w o1115 106 (.slice A752 r572.1.length c753) r572.1 ∧ Row tBool 4 w o1115 107 (.slice A754 r572.2.1.length c755) r572.2.1 ∧ Row (tInt .i64) 3 w o1115 108 (.slice A756 r572.2.2.1.length c757) r572.2.2.1 ∧ Row tyPart 46 w o1115 109 (.slice A758 r572.2.2.2.1.length c759) r572.2.2.2.1 ∧ Chan w o1115 110 z724 1 (r572.2.2.2.2.map cv_46) ∧ Row tBool 4 w o1115 103 (.slice A900 r832.1.length c901) r832.1 ∧ Row tBool 4 w o1115 104 (.slice A902 r832.2.1.length c903) r832.2.1 ∧ Row (tInt .i64) 3 w o1115 111 (.slice A904 r832.2.2.1.length c905) r832.2.2.1 ∧ Row tyPart 46 w o1115 112 (.slice A906 r832.2.2.2.1.length c907) r832.2.2.2.1 ∧ Chan w o1115 113 z872 1 (r832.2.2.2.2.map cv_46) ∧ ((tSlice 3 (tInt .i64) (by decide))).im w (L o1115 0) p11 [.slice A25 p11.length c26] ∧ ((tSlice 9 tStr (by decide))).im w (L o1115 0) p1.terms [.slice A19 p1.terms.length c20] ∧ ((tSlice 9 tStr (by decide))).im w (L o1115 0) p1.names [.slice A21 p1.names.length c22] ∧ ((tSlice 28 tyRule (by decide))).im w (L o1115 0) p1.rules [.slice A23 p1.rules.length c24] ∧ (tSlice 9 tStr (by decide)).im w (L o1115 0) p1.terms [.slice A760 p1.terms.length c761] ∧ (tSlice 9 tStr (by decide)).im w (L o1115 0) p1.names [.slice A762 p1.names.length c763] ∧ (tSlice 28 tyRule (by decide)).im w (L o1115 0) p1.rules [.slice A764 p1.rules.length c765] ∧ (tSlice 9 tStr (by decide)).im w (L o1115 0) ((⟨([] : List ByteArray) ++ p1.terms, ([] : List ByteArray) ++ p1.names, r177 ++ [(⟨IntKind.wrap .i64 ((p1.terms.length : Int) + r213), x478⟩ : Rule)]⟩ : Grammar).terms) [.slice A908 ((⟨([] : List ByteArray) ++ p1.terms, ([] : List ByteArray) ++ p1.names, r177 ++ [(⟨IntKind.wrap .i64 ((p1.terms.length : Int) + r213), x478⟩ : Rule)]⟩ : Grammar).terms).length c909] ∧ (tSlice 9 tStr (by decide)).im w (L o1115 0) ((⟨([] : List ByteArray) ++ p1.terms, ([] : List ByteArray) ++ p1.names, r177 ++ [(⟨IntKind.wrap .i64 ((p1.terms.length : Int) + r213), x478⟩ : Rule)]⟩ : Grammar).names) [.slice A910 ((⟨([] : List ByteArray) ++ p1.terms, ([] : List ByteArray) ++ p1.names, r177 ++ [(⟨IntKind.wrap .i64 ((p1.terms.length : Int) + r213), x478⟩ : Rule)]⟩ : Grammar).names).length c911] ∧ (tSlice 28 tyRule (by decide)).im w (L o1115 0) ((⟨([] : List ByteArray) ++ p1.terms, ([] : List ByteArray) ++ p1.names, r177 ++ [(⟨IntKind.wrap .i64 ((p1.terms.length : Int) + r213), x478⟩ : Rule)]⟩ : Grammar).rules) [.slice A912 ((⟨([] : List ByteArray) ++ p1.terms, ([] : List ByteArray) ++ p1.names, r177 ++ [(⟨IntKind.wrap .i64 ((p1.terms.length : Int) + r213), x478⟩ : Rule)]⟩ : Grammar).rules).length c913] ∧ Tr (Ls o0 []) w0 o0 w o1115) (fun (x : (Unit ⊕ Unit)) (e : Exit) (a : Act) (w : World) => (match x with | .inl x => (e = .ret ∧ ∃ (o1116 : Own), MB 192 [] [(6, .bool false)] a ∧ Tr (Ls o0 []) w0 o0 w o1116) | .inr x => (e = .exit 2 ∧ ∃ (o1117 : Own), MB 192 [] [(1, .slice A25 p11.length c26), (3, .pointer (some ⟨g29, 0, none⟩)), (11, .pointer (some ⟨z716, 0, none⟩))] a ∧ Box w o1117 100 g29 25 #[.slice A19 p1.terms.length c20, .slice A21 p1.names.length c22, .slice A23 p1.rules.length c24] ∧ Box w o1117 101 z716 116 #[.slice A760 p1.terms.length c761, .slice A762 p1.names.length c763, .slice A764 p1.rules.length c765, .int .i64 (p11.length : Int), .slice A752 r572.1.length c753, .slice A754 r572.2.1.length c755, .slice A756 r572.2.2.1.length c757, .slice A758 r572.2.2.2.1.length c759, .chan (some z724)] ∧ Row tBool 4 w o1117 106 (.slice A752 r572.1.length c753) r572.1 ∧ Row tBool 4 w o1117 107 (.slice A754 r572.2.1.length c755) r572.2.1 ∧ Row (tInt .i64) 3 w o1117 108 (.slice A756 r572.2.2.1.length c757) r572.2.2.1 ∧ Row tyPart 46 w o1117 109 (.slice A758 r572.2.2.2.1.length c759) r572.2.2.2.1 ∧ Chan w o1117 110 z724 1 (r572.2.2.2.2.map cv_46) ∧ ((tSlice 3 (tInt .i64) (by decide))).im w (L o1117 0) p11 [.slice A25 p11.length c26] ∧ ((tSlice 9 tStr (by decide))).im w (L o1117 0) p1.terms [.slice A19 p1.terms.length c20] ∧ ((tSlice 9 tStr (by decide))).im w (L o1117 0) p1.names [.slice A21 p1.names.length c22] ∧ ((tSlice 28 tyRule (by decide))).im w (L o1117 0) p1.rules [.slice A23 p1.rules.length c24] ∧ (tSlice 9 tStr (by decide)).im w (L o1117 0) p1.terms [.slice A760 p1.terms.length c761] ∧ (tSlice 9 tStr (by decide)).im w (L o1117 0) p1.names [.slice A762 p1.names.length c763] ∧ (tSlice 28 tyRule (by decide)).im w (L o1117 0) p1.rules [.slice A764 p1.rules.length c765] ∧ Tr (Ls o0 []) w0 o0 w o1117))) ?_ hx1198 ⟨o955, (M.pk [4, 5, 6, 7, 8, 1, 0] rfl), (q922.kn t957), (q923.kn t957), (q924.kn t957), q958, (q925.kn t957), (q926.kn t957), (q927.kn t957), (q928.kn t957), (q929.kn t957), (q930.kn t957), (q931.kn t957), (q932.kn t957), (q933.kn t957), (q934.kn t957), (iN i935 t957), (iN i936 t957), (iN i937 t957), (iN i938 t957), (iN i939 t957), (iN i940 t957), (iN i941 t957), (iN i942 t957), (iN i943 t957), (iN i944 t957), u193⟩ ?_
 ·rintro y1037 a w1118 r1119 hI1120 h
  replace h : law24_ChartMore_b1 k p1 p11 r177 r213 x478 r832 r946 y1037 = some r1119 := h
  unfold law24_ChartMore_b1 at h
  obtain ⟨o1121, M, q1122, q1123, q1124, q1125, q1126, q1127, q1128, q1129, q1130, q1131, q1132, q1133, q1134, q1135, i1136, i1137, i1138, i1139, i1140, i1141, i1142, i1143, i1144, i1145, T1146⟩ := hI1120
  refine c_seq <| c_seq <| c_reg <| pn (j := 4) E 4 M rfl rfl fun a M => x_end rfl <| q_then ?_
  by_cases hk195 : (decide (y1037 < (r946.length : Int))) = true
  ·rw [if_pos hk195] at h
   have M := M.k 126 rfl hk195
   refine c_true (M.e 0 rfl) <| wp_skip <| q_then <| c_seq <| wp_block <| c_seq ?_
   obtain ⟨x1148, hx1149, h⟩ := bind_some h
   obtain ⟨hx11490, hx11491, hx11492⟩ := at_some hx1149
   obtain ⟨g1150, f1151, c1152, ds1153, hv1154, hd1155, he1156⟩ := Row.elem q1125 hx11491
   have hsds1153 := Span_open hd1155
   subst hsds1153
   have he1156 : ElemAt w1118 o1121 105 g1150 f1151 (y1037).toNat 3 [.int .i64 x1148.sym, .int .i64 x1148.i, .int .i64 x1148.j] := he1156
   obtain ⟨r1158, hr1159, h⟩ := bind_some h
   by_cases hk200 : (!r1158) = true
   ·rw [if_pos hk200] at h
    refine draw_p E mixed [0, 0, 0, 6, 14, 31, 63, 127, 255, 255, 1023, 2047, 4095, 255, 8447, 24831, 65535, 131071, 262143, 524287, 524287, 2097151, 4194303, 8388607, 524287, 33554431, 67108863] (by kernel_rfl) rfl M [(3, .pointer (some ⟨g1150, f1151 + (y1037).toNat * 3, none⟩)), (4, .agg #[.int .i64 x1148.sym, .int .i64 x1148.i, .int .i64 x1148.j]), (5, .bool r1158), (6, .bool true)] rfl rfl rfl o1121 ⟨fun a w o M G r => qv rfl rfl M rfl (x_indexAddr Try.underlying38 sz_42 ((G.e 1 rfl rfl).trans hv1154) (G.e 2 rfl rfl) hx11490 hx11492),
   fun a w o M G r => qv rfl rfl M rfl (x_loadN (ldn_42 _ rfl) (G.e 3 rfl rfl) (he1156.kn r).all),
   ?_,
   ?_,
   trivial⟩ ?_
    ·intro a w o M G r
     refine dc rfl (wp0 rfl) rfl rfl M (x_call cf_31 (m2 (G.e 0 rfl rfl) (G.e 4 rfl rfl))) (chart_Chart_Sym_calls hr1159 (lko_own (T := [(0, 0), (102, 1), (103, 2), (104, 3), (111, 4), (112, 5), (113, 6)]) (o := o) rfl) (sL (iN i1143 r) rfl) (sL (iN i1144 r) rfl) (sL (iN i1145 r) rfl) ((q1124.kn r).l rfl) ((q1131.kn r).l rfl rfl) ((q1132.kn r).l rfl rfl) ((q1133.kn r).l rfl rfl) ((q1134.kn r).l rfl rfl) ((q1135.kn r).l rfl)) (fun e201 w1160 hp1161 => ?_)
     obtain ⟨o1162, he1163, T1164⟩ := hp1161
     obtain ⟨o1165, ho1166⟩ := ex (mrg w o [(0, 0), (1, 102), (2, 103), (3, 104), (4, 111), (5, 112), (6, 113)] o1162)
     have t1167 := T1164.r0 ho1166
     refine ⟨_, he1163, fun a' p => ?_⟩
     exact ⟨o1165, _, _, rfl, p, t1167⟩
    ·intro a w o M G r
     refine dv rfl rfl M (x_not (G.e 5 rfl rfl)) fun a' p => ?_
     exact ⟨o, _, _, rfl, putb p hk200, Tr.refl _ _ _⟩
    intro a w1168 o1169 M t1170
    refine q_then <| c_true (M.e 26 rfl) <| c_seq <| c_reg <| pn (j := 1) E 1 M rfl rfl fun a M => x_end rfl <| q_then <| wp_ret <| q_blk_ret <| q_then_ret ?_
    obtain rfl := sj h
    have u202 := T1146.kn t1170
    exact lq_ret ⟨rfl, ⟨o1169, (M.pk [0] rfl), u202⟩⟩
   rw [if_neg hk200] at h
   have hk200 := nott hk200
   obtain ⟨x1171, hx1172, h⟩ := bind_some h
   obtain ⟨hx11720, hx11721, hx11722⟩ := at_some hx1172
   obtain ⟨g1173, f1174, c1175, ds1176, hv1177, hd1178, he1179⟩ := Row.elem q1125 hx11721
   have hsds1176 := Span_open hd1178
   subst hsds1176
   have he1179 : ElemAt w1118 o1121 105 g1173 f1174 (y1037).toNat 3 [.int .i64 x1171.sym, .int .i64 x1171.i, .int .i64 x1171.j] := he1179
   by_cases hk203 : (decide (x1171.sym < (p1.terms.length : Int))) = true
   ·rw [if_pos hk203] at h
    refine draw_p E mixed [0, 0, 0, 6, 14, 31, 63, 127, 255, 255, 1023, 2047, 4095, 255, 8447, 24831, 65535, 131071, 262143, 524287, 524287, 2097151, 4194303, 8388607, 524287, 33554431, 67108863] (by kernel_rfl) rfl M [(3, .pointer (some ⟨g1150, f1151 + (y1037).toNat * 3, none⟩)), (4, .agg #[.int .i64 x1148.sym, .int .i64 x1148.i, .int .i64 x1148.j]), (5, .bool r1158), (6, .bool false), (10, .pointer (some ⟨g1173, f1174 + (y1037).toNat * 3, none⟩)), (12, .int .i64 x1171.sym), (14, .slice A19 p1.terms.length c20), (16, .bool true), (17, .bool true)] rfl rfl rfl o1121 ⟨fun a w o M G r => qv rfl rfl M rfl (x_indexAddr Try.underlying38 sz_42 ((G.e 1 rfl rfl).trans hv1154) (G.e 2 rfl rfl) hx11490 hx11492),
   fun a w o M G r => qv rfl rfl M rfl (x_loadN (ldn_42 _ rfl) (G.e 3 rfl rfl) (he1156.kn r).all),
   ?_,
   ?_,
   fun a w o M G r => qw rfl (wanted_yes rfl rfl (G.t 7 rfl rfl)) rfl rfl M rfl (x_indexAddr Try.underlying38 sz_42 ((G.e 8 rfl rfl).trans hv1177) (G.e 9 rfl rfl) hx11720 hx11722),
   fun a w o M G r => qw rfl (wanted_yes rfl rfl (G.t 7 rfl rfl)) rfl rfl M rfl (x_load ld_3 (G.e 11 rfl rfl) ((he1179.kn r).2 0 _ rfl)),
   fun a w o M G r => qw rfl (wanted_yes rfl rfl (G.t 7 rfl rfl)) rfl rfl M rfl (x_load ld_22 (G.e 13 rfl rfl) ((q1122.kn r).cell (n := 0) rfl)),
   ?_,
   fun a w o M G r => qv rfl rfl M rfl (x_pick0 (y := (.const (.bool true))) (G.t 7 rfl rfl) (G.e 16 rfl rfl)),
   trivial⟩ ?_
    ·intro a w o M G r
     refine dc rfl (wp0 rfl) rfl rfl M (x_call cf_31 (m2 (G.e 0 rfl rfl) (G.e 4 rfl rfl))) (chart_Chart_Sym_calls hr1159 (lko_own (T := [(0, 0), (102, 1), (103, 2), (104, 3), (111, 4), (112, 5), (113, 6)]) (o := o) rfl) (sL (iN i1143 r) rfl) (sL (iN i1144 r) rfl) (sL (iN i1145 r) rfl) ((q1124.kn r).l rfl) ((q1131.kn r).l rfl rfl) ((q1132.kn r).l rfl rfl) ((q1133.kn r).l rfl rfl) ((q1134.kn r).l rfl rfl) ((q1135.kn r).l rfl)) (fun e204 w1160 hp1161 => ?_)
     obtain ⟨o1162, he1163, T1164⟩ := hp1161
     obtain ⟨o1165, ho1166⟩ := ex (mrg w o [(0, 0), (1, 102), (2, 103), (3, 104), (4, 111), (5, 112), (6, 113)] o1162)
     have t1167 := T1164.r0 ho1166
     refine ⟨_, he1163, fun a' p => ?_⟩
     exact ⟨o1165, _, _, rfl, p, t1167⟩
    ·intro a w o M G r
     refine dv rfl rfl M (x_not (G.e 5 rfl rfl)) fun a' p => ?_
     exact ⟨o, _, _, rfl, putb p hk200, Tr.refl _ _ _⟩
    ·intro a w o M G r
     refine dw rfl (wanted_yes rfl rfl (G.t 7 rfl rfl)) rfl rfl M (x_lss (G.e 12 rfl rfl) (G.e 15 rfl rfl)) fun a' p => ?_
     exact ⟨o, _, _, rfl, putb p hk203, Tr.refl _ _ _⟩
    intro a w1181 o1182 M t1183
    refine q_then <| c_true (M.e 26 rfl) <| c_seq <| c_reg <| pn (j := 1) E 1 M rfl rfl fun a M => x_end rfl <| q_then <| wp_ret <| q_blk_ret <| q_then_ret ?_
    obtain rfl := sj h
    have u205 := T1146.kn t1183
    exact lq_ret ⟨rfl, ⟨o1182, (M.pk [0] rfl), u205⟩⟩
   rw [if_neg hk203] at h
   have hk203 := nott hk203
   obtain ⟨x1184, hx1185, h⟩ := bind_some h
   obtain ⟨hx11850, hx11851, hx11852⟩ := at_some hx1185
   obtain ⟨g1186, f1187, c1188, ds1189, hv1190, hd1191, he1192⟩ := Row.elem q1125 hx11851
   have hsds1189 := Span_open hd1191
   subst hsds1189
   have he1192 : ElemAt w1118 o1121 105 g1186 f1187 (y1037).toNat 3 [.int .i64 x1184.sym, .int .i64 x1184.i, .int .i64 x1184.j] := he1192
   refine draw_p E mixed [0, 0, 0, 6, 14, 31, 63, 127, 255, 255, 1023, 2047, 4095, 255, 8447, 24831, 65535, 131071, 262143, 524287, 524287, 2097151, 4194303, 8388607, 524287, 33554431, 67108863] (by kernel_rfl) rfl M [(3, .pointer (some ⟨g1150, f1151 + (y1037).toNat * 3, none⟩)), (4, .agg #[.int .i64 x1148.sym, .int .i64 x1148.i, .int .i64 x1148.j]), (5, .bool r1158), (6, .bool false), (10, .pointer (some ⟨g1173, f1174 + (y1037).toNat * 3, none⟩)), (12, .int .i64 x1171.sym), (14, .slice A19 p1.terms.length c20), (16, .bool false), (17, .bool false), (21, .pointer (some ⟨g1186, f1187 + (y1037).toNat * 3, none⟩)), (23, .int .i64 x1184.sym)] rfl rfl rfl o1121 ⟨fun a w o M G r => qv rfl rfl M rfl (x_indexAddr Try.underlying38 sz_42 ((G.e 1 rfl rfl).trans hv1154) (G.e 2 rfl rfl) hx11490 hx11492),
   fun a w o M G r => qv rfl rfl M rfl (x_loadN (ldn_42 _ rfl) (G.e 3 rfl rfl) (he1156.kn r).all),
   ?_,
   ?_,
   fun a w o M G r => qw rfl (wanted_yes rfl rfl (G.t 7 rfl rfl)) rfl rfl M rfl (x_indexAddr Try.underlying38 sz_42 ((G.e 8 rfl rfl).trans hv1177) (G.e 9 rfl rfl) hx11720 hx11722),
   fun a w o M G r => qw rfl (wanted_yes rfl rfl (G.t 7 rfl rfl)) rfl rfl M rfl (x_load ld_3 (G.e 11 rfl rfl) ((he1179.kn r).2 0 _ rfl)),
   fun a w o M G r => qw rfl (wanted_yes rfl rfl (G.t 7 rfl rfl)) rfl rfl M rfl (x_load ld_22 (G.e 13 rfl rfl) ((q1122.kn r).cell (n := 0) rfl)),
   ?_,
   fun a w o M G r => qv rfl rfl M rfl (x_pick0 (y := (.const (.bool true))) (G.t 7 rfl rfl) (G.e 16 rfl rfl)),
   fun a w o M G r => qw rfl (wanted_yes rfl rfl (G.t 18 rfl rfl)) rfl rfl M rfl (x_indexAddr Try.underlying38 sz_42 ((G.e 19 rfl rfl).trans hv1190) (G.e 20 rfl rfl) hx11850 hx11852),
   fun a w o M G r => qw rfl (wanted_yes rfl rfl (G.t 18 rfl rfl)) rfl rfl M rfl (x_load ld_3 (G.e 22 rfl rfl) ((he1192.kn r).2 0 _ rfl)),
   trivial⟩ ?_
   ·intro a w o M G r
    refine dc rfl (wp0 rfl) rfl rfl M (x_call cf_31 (m2 (G.e 0 rfl rfl) (G.e 4 rfl rfl))) (chart_Chart_Sym_calls hr1159 (lko_own (T := [(0, 0), (102, 1), (103, 2), (104, 3), (111, 4), (112, 5), (113, 6)]) (o := o) rfl) (sL (iN i1143 r) rfl) (sL (iN i1144 r) rfl) (sL (iN i1145 r) rfl) ((q1124.kn r).l rfl) ((q1131.kn r).l rfl rfl) ((q1132.kn r).l rfl rfl) ((q1133.kn r).l rfl rfl) ((q1134.kn r).l rfl rfl) ((q1135.kn r).l rfl)) (fun e206 w1160 hp1161 => ?_)
    obtain ⟨o1162, he1163, T1164⟩ := hp1161
    obtain ⟨o1165, ho1166⟩ := ex (mrg w o [(0, 0), (1, 102), (2, 103), (3, 104), (4, 111), (5, 112), (6, 113)] o1162)
    have t1167 := T1164.r0 ho1166
    refine ⟨_, he1163, fun a' p => ?_⟩
    exact ⟨o1165, _, _, rfl, p, t1167⟩
   ·intro a w o M G r
    refine dv rfl rfl M (x_not (G.e 5 rfl rfl)) fun a' p => ?_
    exact ⟨o, _, _, rfl, putb p hk200, Tr.refl _ _ _⟩
   ·intro a w o M G r
    refine dw rfl (wanted_yes rfl rfl (G.t 7 rfl rfl)) rfl rfl M (x_lss (G.e 12 rfl rfl) (G.e 15 rfl rfl)) fun a' p => ?_
    exact ⟨o, _, _, rfl, putb p hk203, Tr.refl _ _ _⟩
   intro a w1194 o1195 M t1196
   refine q_then ?_
   by_cases hk207 : (decide ((IntKind.wrap .i64 ((p1.terms.length : Int) + (p1.names.length : Int))) ≤ x1184.sym)) = true
   ·rw [if_pos hk207] at h
    have M := M.k 155 rfl hk207
    refine c_true (M.e 26 rfl) <| c_seq <| c_reg <| pn (j := 1) E 1 M rfl rfl fun a M => x_end rfl <| q_then <| wp_ret <| q_blk_ret <| q_then_ret ?_
    obtain rfl := sj h
    have u208 := T1146.kn t1196
    exact lq_ret ⟨rfl, ⟨o1195, (M.pk [0] rfl), u208⟩⟩
   rw [if_neg hk207] at h
   have hk207 := nott hk207
   have M := M.k 155 rfl hk207
   refine c_false (M.e 26 rfl) <| wp_skip <| q_blk <| q_then <| c_reg <| pn (j := 2) E 2 M rfl rfl fun a M => ?_
   have M := M.pk [0, 1, 10, 11, 12, 13, 14, 15, 16, 17, 18, 21, 22, 23, 24, 25, 26, 27, 33, 34, 35, 36, 37, 38] rfl
   refine pn (j := 3) E 1 M rfl rfl fun a M => x_end rfl ?_
   obtain rfl := sj h
   have u209 := T1146.kn t1196
   exact lq_next ⟨o1195, (M.pk [19, 20, 21, 22, 23, 24, 0] rfl), (q1122.kn t1196), (q1123.kn t1196), (q1124.kn t1196), (q1125.kn t1196), (q1126.kn t1196), (q1127.kn t1196), (q1128.kn t1196), (q1129.kn t1196), (q1130.kn t1196), (q1131.kn t1196), (q1132.kn t1196), (q1133.kn t1196), (q1134.kn t1196), (q1135.kn t1196), (iN i1136 t1196), (iN i1137 t1196), (iN i1138 t1196), (iN i1139 t1196), (iN i1140 t1196), (iN i1141 t1196), (iN i1142 t1196), (iN i1143 t1196), (iN i1144 t1196), (iN i1145 t1196), u209⟩
  rw [if_neg hk195] at h
  have hk195 := nott hk195
  have M := M.k 126 rfl hk195
  refine c_false (M.e 0 rfl) <| wp_exit <| q_then_exit ?_
  obtain rfl := sj h
  exact lq_exit ⟨rfl, ⟨o1121, (M.pk [4, 5, 7] rfl), q1122, q1123, q1126, q1127, q1128, q1129, q1130, i1136, i1137, i1138, i1139, i1140, i1141, i1142, T1146⟩⟩
 intro e210 a w1199 hO1200
 rcases x1197 with x1197 | x1197
 ·rw [scase_l] at h
  obtain ⟨he1201, hO1200⟩ := hO1200
  subst he1201
  obtain ⟨o1202, M, T1203⟩ := hO1200
  refine q_blk_ret <| q_then_ret ?_
  obtain rfl := sj h
  exact ⟨M.f.defers, _, (res1 Try.results3 (rv_tmp (M.t 0 rfl))), ⟨o1202, rfl, T1203⟩⟩
 rw [scase_r] at h
 obtain ⟨he1204, hO1200⟩ := hO1200
 subst he1204
 obtain ⟨o1205, M, q1206, q1207, q1208, q1209, q1210, q1211, q1212, i1213, i1214, i1215, i1216, i1217, i1218, i1219, T1220⟩ := hO1200
 refine q_blk_here <| q_then <| c_seq <| c_seq <| c_reg <| pn (j := 1) E 1 M rfl rfl fun a M => x_end rfl <| q_then <| wp_block ?_
 obtain ⟨x1868, hx1869, h⟩ := bind_some h
 refine loop_iter (S := Int) (X := (Unit ⊕ Unit)) (fun (s : Int) => law24_ChartMore_b2 k p1 p11 r572 s) (fun (s : Int) (a : Act) (w : World) => ∃ (o1649 : Own), MB 192 [] [(1, .slice A25 p11.length c26), (3, .pointer (some ⟨g29, 0, none⟩)), (11, .pointer (some ⟨z716, 0, none⟩)), (17, .int .i64 s)] a ∧ Box w o1649 100 g29 25 #[.slice A19 p1.terms.length c20, .slice A21 p1.names.length c22, .slice A23 p1.rules.length c24] ∧ Box w o1649 101 z716 116 #[.slice A760 p1.terms.length c761, .slice A762 p1.names.length c763, .slice A764 p1.rules.length c765, .int .i64 (p11.length : Int), .slice A752 r572.1.length c753, .slice A754 r572.2.1.length c755, .slice A756 r572.2.2.1.length c757, .slice A758 r572.2.2.2.1.length c759, .chan (some z724)] ∧ Row tBool 4 w o1649 106 (.slice A752 r572.1.length c753) r572.1 ∧ Row tBool 4 w o1649 107 (.slice A754 r572.2.1.length c755) r572.2.1 ∧ Row (tInt .i64) 3 w o1649 108 (.slice A756 r572.2.2.1.length c757) r572.2.2.1 ∧ Row tyPart 46 w o1649 109 (.slice A758 r572.2.2.2.1.length c759) r572.2.2.2.1 ∧ Chan w o1649 110 z724 1 (r572.2.2.2.2.map cv_46) ∧ ((tSlice 3 (tInt .i64) (by decide))).im w (L o1649 0) p11 [.slice A25 p11.length c26] ∧ ((tSlice 9 tStr (by decide))).im w (L o1649 0) p1.terms [.slice A19 p1.terms.length c20] ∧ ((tSlice 9 tStr (by decide))).im w (L o1649 0) p1.names [.slice A21 p1.names.length c22] ∧ ((tSlice 28 tyRule (by decide))).im w (L o1649 0) p1.rules [.slice A23 p1.rules.length c24] ∧ (tSlice 9 tStr (by decide)).im w (L o1649 0) p1.terms [.slice A760 p1.terms.length c761] ∧ (tSlice 9 tStr (by decide)).im w (L o1649 0) p1.names [.slice A762 p1.names.length c763] ∧ (tSlice 28 tyRule (by decide)).im w (L o1649 0) p1.rules [.slice A764 p1.rules.length c765] ∧ Tr (Ls o0 []) w0 o0 w o1649) (fun (x : (Unit ⊕ Unit)) (e : Exit) (a : Act) (w : World) => (match x with | .inl x => (e = .ret ∧ ∃ (o1650 : Own), MB 192 [] [(6, .bool false)] a ∧ Tr (Ls o0 []) w0 o0 w o1650) | .inr x => (e = .exit 4 ∧ ∃ (o1651 : Own), MB 192 [] [] a ∧ Tr (Ls o0 []) w0 o0 w o1651))) ?_ hx1869 ⟨o1205, (M.pk [1, 2, 3, 0] rfl), q1206, q1207, q1208, q1209, q1210, q1211, q1212, i1213, i1214, i1215, i1216, i1217, i1218, i1219, T1220⟩ ?_
 ·rintro y1434 a w1652 r1653 hI1654 h
  replace h : law24_ChartMore_b2 k p1 p11 r572 y1434 = some r1653 := h
  unfold law24_ChartMore_b2 at h
  obtain ⟨o1655, M, q1656, q1657, q1658, q1659, q1660, q1661, q1662, i1663, i1664, i1665, i1666, i1667, i1668, i1669, T1670⟩ := hI1654
  refine c_seq <| c_seq <| c_reg <| pn (j := 4) E 4 M rfl rfl fun a M => x_end rfl <| q_then ?_
  by_cases hk296 : (decide (y1434 < (p11.length : Int))) = true
  ·rw [if_pos hk296] at h
   have M := M.k 159 rfl hk296
   refine c_true (M.e 0 rfl) <| wp_skip <| q_then <| c_seq <| wp_block <| c_seq <| c_reg <| pn (j := 1) E 1 M rfl rfl fun a M => x_end rfl <| q_then <| wp_block ?_
   obtain ⟨x1844, hx1845, h⟩ := bind_some h
   refine loop_iter (S := Int) (X := (Unit ⊕ Unit)) (fun (s : Int) => law24_ChartMore_b3 k p1 p11 r572 y1434 s) (fun (s : Int) (a : Act) (w : World) => ∃ (o1783 : Own), MB 192 [] [(1, .slice A25 p11.length c26), (3, .pointer (some ⟨g29, 0, none⟩)), (11, .pointer (some ⟨z716, 0, none⟩)), (17, .int .i64 y1434), (18, .int .i64 s)] a ∧ Box w o1783 100 g29 25 #[.slice A19 p1.terms.length c20, .slice A21 p1.names.length c22, .slice A23 p1.rules.length c24] ∧ Box w o1783 101 z716 116 #[.slice A760 p1.terms.length c761, .slice A762 p1.names.length c763, .slice A764 p1.rules.length c765, .int .i64 (p11.length : Int), .slice A752 r572.1.length c753, .slice A754 r572.2.1.length c755, .slice A756 r572.2.2.1.length c757, .slice A758 r572.2.2.2.1.length c759, .chan (some z724)] ∧ Row tBool 4 w o1783 106 (.slice A752 r572.1.length c753) r572.1 ∧ Row tBool 4 w o1783 107 (.slice A754 r572.2.1.length c755) r572.2.1 ∧ Row (tInt .i64) 3 w o1783 108 (.slice A756 r572.2.2.1.length c757) r572.2.2.1 ∧ Row tyPart 46 w o1783 109 (.slice A758 r572.2.2.2.1.length c759) r572.2.2.2.1 ∧ Chan w o1783 110 z724 1 (r572.2.2.2.2.map cv_46) ∧ ((tSlice 3 (tInt .i64) (by decide))).im w (L o1783 0) p11 [.slice A25 p11.length c26] ∧ ((tSlice 9 tStr (by decide))).im w (L o1783 0) p1.terms [.slice A19 p1.terms.length c20] ∧ ((tSlice 9 tStr (by decide))).im w (L o1783 0) p1.names [.slice A21 p1.names.length c22] ∧ ((tSlice 28 tyRule (by decide))).im w (L o1783 0) p1.rules [.slice A23 p1.rules.length c24] ∧ (tSlice 9 tStr (by decide)).im w (L o1783 0) p1.terms [.slice A760 p1.terms.length c761] ∧ (tSlice 9 tStr (by decide)).im w (L o1783 0) p1.names [.slice A762 p1.names.length c763] ∧ (tSlice 28 tyRule (by decide)).im w (L o1783 0) p1.rules [.slice A764 p1.rules.length c765] ∧ Tr (Ls o0 []) w0 o0 w o1783) (fun (x : (Unit ⊕ Unit)) (e : Exit) (a : Act) (w : World) => (match x with | .inl x => (e = .ret ∧ ∃ (o1784 : Own), MB 192 [] [(6, .bool false)] a ∧ Tr (Ls o0 []) w0 o0 w o1784) | .inr x => (e = .exit 6 ∧ ∃ (o1785 : Own), MB 192 [] [(1, .slice A25 p11.length c26), (3, .pointer (some ⟨g29, 0, none⟩)), (11, .pointer (some ⟨z716, 0, none⟩)), (17, .int .i64 y1434)] a ∧ Box w o1785 100 g29 25 #[.slice A19 p1.terms.length c20, .slice A21 p1.names.length c22, .slice A23 p1.rules.length c24] ∧ Box w o1785 101 z716 116 #[.slice A760 p1.terms.length c761, .slice A762 p1.names.length c763, .slice A764 p1.rules.length c765, .int .i64 (p11.length : Int), .slice A752 r572.1.length c753, .slice A754 r572.2.1.length c755, .slice A756 r572.2.2.1.length c757, .slice A758 r572.2.2.2.1.length c759, .chan (some z724)] ∧ Row tBool 4 w o1785 106 (.slice A752 r572.1.length c753) r572.1 ∧ Row tBool 4 w o1785 107 (.slice A754 r572.2.1.length c755) r572.2.1 ∧ Row (tInt .i64) 3 w o1785 108 (.slice A756 r572.2.2.1.length c757) r572.2.2.1 ∧ Row tyPart 46 w o1785 109 (.slice A758 r572.2.2.2.1.length c759) r572.2.2.2.1 ∧ Chan w o1785 110 z724 1 (r572.2.2.2.2.map cv_46) ∧ ((tSlice 3 (tInt .i64) (by decide))).im w (L o1785 0) p11 [.slice A25 p11.length c26] ∧ ((tSlice 9 tStr (by decide))).im w (L o1785 0) p1.terms [.slice A19 p1.terms.length c20] ∧ ((tSlice 9 tStr (by decide))).im w (L o1785 0) p1.names [.slice A21 p1.names.length c22] ∧ ((tSlice 28 tyRule (by decide))).im w (L o1785 0) p1.rules [.slice A23 p1.rules.length c24] ∧ (tSlice 9 tStr (by decide)).im w (L o1785 0) p1.terms [.slice A760 p1.terms.length c761] ∧ (tSlice 9 tStr (by decide)).im w (L o1785 0) p1.names [.slice A762 p1.names.length c763] ∧ (tSlice 28 tyRule (by decide)).im w (L o1785 0) p1.rules [.slice A764 p1.rules.length c765] ∧ Tr (Ls o0 []) w0 o0 w o1785))) ?_ hx1845 ⟨o1655, (M.pk [5, 6, 7, 8, 0] rfl), q1656, q1657, q1658, q1659, q1660, q1661, q1662, i1663, i1664, i1665, i1666, i1667, i1668, i1669, T1670⟩ ?_
   ·rintro y1726 a w1786 r1787 hI1788 h
    replace h : law24_ChartMore_b3 k p1 p11 r572 y1434 y1726 = some r1787 := h
    unfold law24_ChartMore_b3 at h
    obtain ⟨o1789, M, q1790, q1791, q1792, q1793, q1794, q1795, q1796, i1797, i1798, i1799, i1800, i1801, i1802, i1803, T1804⟩ := hI1788
    refine c_seq <| c_seq <| c_reg <| pn (j := 2) E 2 M rfl rfl fun a M => ov rfl rfl M (x_load ld_22 (M.e 0 rfl) (q1790.cell (n := 0) rfl)) fun a M => pn (j := 5) E 2 M rfl rfl fun a M => x_end rfl <| q_then ?_
    by_cases hk322 : (decide (y1726 < (p1.terms.length : Int))) = true
    ·rw [if_pos hk322] at h
     have M := M.k 166 rfl hk322
     refine c_true (M.e 0 rfl) <| wp_skip <| q_then <| c_seq <| wp_block <| c_seq ?_
     obtain ⟨r1807, hr1808, h⟩ := bind_some h
     obtain ⟨x1817, hx1818, h⟩ := bind_some h
     obtain ⟨hx18180, hx18181, hx18182⟩ := at_some hx1818
     obtain ⟨g1819, f1820, c1821, ds1822, hv1823, hd1824, he1825⟩ := im_elem i1797 hx18181
     have hsds1822 : ds1822 = [.int .i64 x1817] := hd1824
     subst hsds1822
     have he1825 : ElemAt w1786 o1789 0 g1819 f1820 (y1434).toNat 1 [.int .i64 x1817] := he1825
     by_cases hk327 : (!(r1807 == (x1817 == y1726))) = true
     ·rw [if_pos hk327] at h
      refine draw_p E mixed [0, 0, 0, 0, 8, 30, 63, 0, 0, 384, 896, 0, 3968, 8191, 16383, 32767, 32767, 32767, 32767, 491519, 1048575, 2097151] (by kernel_rfl) rfl M [(5, .agg #[.int .i64 y1726, .int .i64 y1434, .int .i64 (IntKind.wrap .i64 (y1434 + (1 : Int)))]), (6, .bool r1807), (9, .pointer (some ⟨g1819, f1820 + (y1434).toNat * 1, none⟩)), (10, .int .i64 x1817), (13, .bool true)] rfl rfl rfl o1789 ⟨?_,
   ?_,
   fun a w o M G r => qv rfl rfl M rfl (x_indexAddr Try.underlying26 sz_3 ((G.e 7 rfl rfl).trans hv1823) (G.e 8 rfl rfl) hx18180 hx18182),
   fun a w o M G r => qv rfl rfl M rfl (x_load ld_3 (G.e 9 rfl rfl) ((he1825.kn r).2 0 _ rfl)),
   ?_,
   trivial⟩ ?_
      ·intro a w o M G r
       have hb1806 : ∀ w : World, (Instr.build 42 #[(0, .int .i64 y1726), (1, .int .i64 y1434), (2, .int .i64 (IntKind.wrap .i64 (y1434 + (1 : Int))))]).run Try.prog w = .ok (.agg #[.int .i64 y1726, .int .i64 y1434, .int .i64 (IntKind.wrap .i64 (y1434 + (1 : Int)))]) w := fun w => by go_simp
       refine dv rfl rfl M (x_build (l3 (G.e 1 rfl rfl) (G.e 2 rfl rfl) (G.e 4 rfl rfl)) hb1806) fun a' p => ?_
       exact ⟨o, _, _, rfl, p, Tr.refl _ _ _⟩
      ·intro a w o M G r
       refine dc rfl (wp0 rfl) rfl rfl M (x_call cf_31 (m2 (G.e 0 rfl rfl) (G.e 5 rfl rfl))) (chart_Chart_Sym_calls hr1808 (lko_own (T := [(0, 0), (101, 1), (106, 2), (107, 3), (108, 4), (109, 5), (110, 6)]) (o := o) rfl) (sL (iN i1801 r) rfl) (sL (iN i1802 r) rfl) (sL (iN i1803 r) rfl) ((q1791.kn r).l rfl) ((q1792.kn r).l rfl rfl) ((q1793.kn r).l rfl rfl) ((q1794.kn r).l rfl rfl) ((q1795.kn r).l rfl rfl) ((q1796.kn r).l rfl)) (fun e328 w1809 hp1810 => ?_)
       obtain ⟨o1811, he1812, T1813⟩ := hp1810
       obtain ⟨o1814, ho1815⟩ := ex (mrg w o [(0, 0), (1, 101), (2, 106), (3, 107), (4, 108), (5, 109), (6, 110)] o1811)
       have t1816 := T1813.r0 ho1815
       refine ⟨_, he1812, fun a' p => ?_⟩
       exact ⟨o1814, _, _, rfl, p, t1816⟩
      ·intro a w o M G r
       refine dv rfl rfl M (x_bne Try.underlying4 (G.e 6 rfl rfl) (G.e 12 rfl rfl)) fun a' p => ?_
       exact ⟨o, _, _, rfl, putb p hk327, Tr.refl _ _ _⟩
      intro a w1827 o1828 M t1829
      refine q_then <| c_true (M.e 21 rfl) <| c_seq <| c_reg <| pn (j := 1) E 1 M rfl rfl fun a M => x_end rfl <| q_then <| wp_ret <| q_blk_ret <| q_then_ret ?_
      obtain rfl := sj h
      have u329 := T1804.kn t1829
      exact lq_ret ⟨rfl, ⟨o1828, (M.pk [0] rfl), u329⟩⟩
     rw [if_neg hk327] at h
     have hk327 := nott hk327
     obtain ⟨r1831, hr1832, h⟩ := bind_some h
     refine draw_p E mixed [0, 0, 0, 0, 8, 30, 63, 0, 0, 384, 896, 0, 3968, 8191, 16383, 32767, 32767, 32767, 32767, 491519, 1048575, 2097151] (by kernel_rfl) rfl M [(5, .agg #[.int .i64 y1726, .int .i64 y1434, .int .i64 (IntKind.wrap .i64 (y1434 + (1 : Int)))]), (6, .bool r1807), (9, .pointer (some ⟨g1819, f1820 + (y1434).toNat * 1, none⟩)), (10, .int .i64 x1817), (13, .bool false), (19, .agg #[.int .i64 y1726, .int .i64 y1434, .int .i64 y1434]), (20, .bool r1831)] rfl rfl rfl o1789 ⟨?_,
   ?_,
   fun a w o M G r => qv rfl rfl M rfl (x_indexAddr Try.underlying26 sz_3 ((G.e 7 rfl rfl).trans hv1823) (G.e 8 rfl rfl) hx18180 hx18182),
   fun a w o M G r => qv rfl rfl M rfl (x_load ld_3 (G.e 9 rfl rfl) ((he1825.kn r).2 0 _ rfl)),
   ?_,
   ?_,
   ?_,
   trivial⟩ ?_
     ·intro a w o M G r
      have hb1806 : ∀ w : World, (Instr.build 42 #[(0, .int .i64 y1726), (1, .int .i64 y1434), (2, .int .i64 (IntKind.wrap .i64 (y1434 + (1 : Int))))]).run Try.prog w = .ok (.agg #[.int .i64 y1726, .int .i64 y1434, .int .i64 (IntKind.wrap .i64 (y1434 + (1 : Int)))]) w := fun w => by go_simp
      refine dv rfl rfl M (x_build (l3 (G.e 1 rfl rfl) (G.e 2 rfl rfl) (G.e 4 rfl rfl)) hb1806) fun a' p => ?_
      exact ⟨o, _, _, rfl, p, Tr.refl _ _ _⟩
     ·intro a w o M G r
      refine dc rfl (wp0 rfl) rfl rfl M (x_call cf_31 (m2 (G.e 0 rfl rfl) (G.e 5 rfl rfl))) (chart_Chart_Sym_calls hr1808 (lko_own (T := [(0, 0), (101, 1), (106, 2), (107, 3), (108, 4), (109, 5), (110, 6)]) (o := o) rfl) (sL (iN i1801 r) rfl) (sL (iN i1802 r) rfl) (sL (iN i1803 r) rfl) ((q1791.kn r).l rfl) ((q1792.kn r).l rfl rfl) ((q1793.kn r).l rfl rfl) ((q1794.kn r).l rfl rfl) ((q1795.kn r).l rfl rfl) ((q1796.kn r).l rfl)) (fun e331 w1809 hp1810 => ?_)
      obtain ⟨o1811, he1812, T1813⟩ := hp1810
      obtain ⟨o1814, ho1815⟩ := ex (mrg w o [(0, 0), (1, 101), (2, 106), (3, 107), (4, 108), (5, 109), (6, 110)] o1811)
      have t1816 := T1813.r0 ho1815
      refine ⟨_, he1812, fun a' p => ?_⟩
      exact ⟨o1814, _, _, rfl, p, t1816⟩
     ·intro a w o M G r
      refine dv rfl rfl M (x_bne Try.underlying4 (G.e 6 rfl rfl) (G.e 12 rfl rfl)) fun a' p => ?_
      exact ⟨o, _, _, rfl, putb p hk327, Tr.refl _ _ _⟩
     ·intro a w o M G r
      have hb1830 : ∀ w : World, (Instr.build 42 #[(0, .int .i64 y1726), (1, .int .i64 y1434), (2, .int .i64 y1434)]).run Try.prog w = .ok (.agg #[.int .i64 y1726, .int .i64 y1434, .int .i64 y1434]) w := fun w => by go_simp
      refine dw rfl (wanted_yes rfl rfl (G.t 14 rfl rfl)) rfl rfl M (x_build (l3 (G.e 16 rfl rfl) (G.e 17 rfl rfl) (G.e 18 rfl rfl)) hb1830) fun a' p => ?_
      exact ⟨o, _, _, rfl, p, Tr.refl _ _ _⟩
     ·intro a w o M G r
      refine dc rfl (wanted_yes rfl rfl (G.t 14 rfl rfl)) rfl rfl M (x_call cf_31 (m2 (G.e 15 rfl rfl) (G.e 19 rfl rfl))) (chart_Chart_Sym_calls hr1832 (lko_own (T := [(0, 0), (101, 1), (106, 2), (107, 3), (108, 4), (109, 5), (110, 6)]) (o := o) rfl) (sL (iN i1801 r) rfl) (sL (iN i1802 r) rfl) (sL (iN i1803 r) rfl) ((q1791.kn r).l rfl) ((q1792.kn r).l rfl rfl) ((q1793.kn r).l rfl rfl) ((q1794.kn r).l rfl rfl) ((q1795.kn r).l rfl rfl) ((q1796.kn r).l rfl)) (fun e332 w1833 hp1834 => ?_)
      obtain ⟨o1835, he1836, T1837⟩ := hp1834
      obtain ⟨o1838, ho1839⟩ := ex (mrg w o [(0, 0), (1, 101), (2, 106), (3, 107), (4, 108), (5, 109), (6, 110)] o1835)
      have t1840 := T1837.r0 ho1839
      refine ⟨_, he1836, fun a' p => ?_⟩
      exact ⟨o1838, _, _, rfl, p, t1840⟩
     intro a w1841 o1842 M t1843
     refine q_then ?_
     by_cases hk333 : r1831 = true
     ·rw [if_pos hk333] at h
      have M := M.k 190 rfl hk333
      refine c_true (M.e 21 rfl) <| c_seq <| c_reg <| pn (j := 1) E 1 M rfl rfl fun a M => x_end rfl <| q_then <| wp_ret <| q_blk_ret <| q_then_ret ?_
      obtain rfl := sj h
      have u334 := T1804.kn t1843
      exact lq_ret ⟨rfl, ⟨o1842, (M.pk [0] rfl), u334⟩⟩
     rw [if_neg hk333] at h
     have hk333 := nott hk333
     have M := M.k 190 rfl hk333
     refine c_false (M.e 21 rfl) <| wp_skip <| q_blk <| q_then <| c_reg <| pn (j := 2) E 2 M rfl rfl fun a M => ?_
     have M := M.pk [0, 1, 17, 18, 19, 20, 21, 22, 29, 30, 31, 32] rfl
     refine pn (j := 3) E 1 M rfl rfl fun a M => x_end rfl ?_
     obtain rfl := sj h
     have u335 := T1804.kn t1843
     exact lq_next ⟨o1842, (M.pk [9, 10, 11, 12, 0] rfl), (q1790.kn t1843), (q1791.kn t1843), (q1792.kn t1843), (q1793.kn t1843), (q1794.kn t1843), (q1795.kn t1843), (q1796.kn t1843), (iN i1797 t1843), (iN i1798 t1843), (iN i1799 t1843), (iN i1800 t1843), (iN i1801 t1843), (iN i1802 t1843), (iN i1803 t1843), u335⟩
    rw [if_neg hk322] at h
    have hk322 := nott hk322
    have M := M.k 166 rfl hk322
    refine c_false (M.e 0 rfl) <| wp_exit <| q_then_exit ?_
    obtain rfl := sj h
    exact lq_exit ⟨rfl, ⟨o1789, (M.pk [5, 6, 7, 8] rfl), q1790, q1791, q1792, q1793, q1794, q1795, q1796, i1797, i1798, i1799, i1800, i1801, i1802, i1803, T1804⟩⟩
   intro e336 a w1846 hO1847
   rcases x1844 with x1844 | x1844
   ·rw [scase_l] at h
    obtain ⟨he1848, hO1847⟩ := hO1847
    subst he1848
    obtain ⟨o1849, M, T1850⟩ := hO1847
    refine q_blk_ret <| q_blk_ret <| q_then_ret ?_
    obtain rfl := sj h
    exact lq_ret ⟨rfl, ⟨o1849, (M.pk [0] rfl), T1850⟩⟩
   rw [scase_r] at h
   obtain ⟨he1851, hO1847⟩ := hO1847
   subst he1851
   obtain ⟨o1852, M, q1853, q1854, q1855, q1856, q1857, q1858, q1859, i1860, i1861, i1862, i1863, i1864, i1865, i1866, T1867⟩ := hO1847
   refine q_blk_here <| q_blk <| q_then <| c_reg <| pn (j := 2) E 2 M rfl rfl fun a M => ?_
   have M := M.pk [0, 1, 2, 3, 4] rfl
   refine pn (j := 3) E 1 M rfl rfl fun a M => x_end rfl ?_
   obtain rfl := sj h
   exact lq_next ⟨o1852, (M.pk [3, 4, 5, 0] rfl), q1853, q1854, q1855, q1856, q1857, q1858, q1859, i1860, i1861, i1862, i1863, i1864, i1865, i1866, T1867⟩
  rw [if_neg hk296] at h
  have hk296 := nott hk296
  have M := M.k 159 rfl hk296
  refine c_false (M.e 0 rfl) <| wp_exit <| q_then_exit ?_
  obtain rfl := sj h
  exact lq_exit ⟨rfl, ⟨o1655, (M.pk [] rfl), T1670⟩⟩
 intro e337 a w1870 hO1871
 rcases x1868 with x1868 | x1868
 ·rw [scase_l] at h
  obtain ⟨he1872, hO1871⟩ := hO1871
  subst he1872
  obtain ⟨o1873, M, T1874⟩ := hO1871
  refine q_blk_ret <| q_then_ret ?_
  obtain rfl := sj h
  exact ⟨M.f.defers, _, (res1 Try.results3 (rv_tmp (M.t 0 rfl))), ⟨o1873, rfl, T1874⟩⟩
 rw [scase_r] at h
 obtain ⟨he1875, hO1871⟩ := hO1871
 subst he1875
 obtain ⟨o1876, M, T1877⟩ := hO1871
 refine q_blk_here <| q_then <| c_seq <| c_reg ?_
 obtain ⟨r1878, hr1879, h⟩ := bind_some h
 refine oc rfl (wp0 rfl) rfl rfl M (x_call cf_26 m0) (law24_wakes_calls hr1879 (lko_own (T := [(0, 0)]) (o := o1876) rfl)) (fun e338 w1880 hp1881 => ?_)
 obtain ⟨o1882, he1883, T1884⟩ := hp1881
 obtain ⟨o1885, ho1886⟩ := ex (mrg w1870 o1876 [(0, 0)] o1882)
 have t1887 := T1884.r0 ho1886
 refine ⟨_, he1883, fun a M => ?_⟩
 refine pn (j := 2) E 1 M rfl rfl fun a M => x_end rfl <| q_then <| wp_ret ?_
 have u339 := T1877.kn t1887
 obtain rfl := sj h
 exact ⟨M.f.defers, _, (res1 Try.results3 (rv_tmp (M.t 0 rfl))), ⟨o1885, rfl, u339⟩⟩
end Go.Proofs.Ythilemcdhkfhlaa
namespace Go.Gc
open Go
theorem wrap_id {x : Int} (h : -9223372036854775808 ≤ x) (h' : x ≤ 9223372036854775807) : IntKind.wrap .i64 x = x := by
  simp [IntKind.wrap, IntKind.bits, IntKind.signed]
  omega
theorem iter_ind {S X : Type} {body : S → Option (S ⊕ X)} (Inv : Nat → S → Prop) (Post : X → Prop)
    (hs : ∀ n s, Inv n s → ∃ y, body s = some y ∧ match y with | .inl s' => ∃ n', n' < n ∧ Inv n' s' | .inr x => Post x) :
    ∀ n s, Inv n s → ∀ k, n < k → ∃ x, iter body k s = some x ∧ Post x := by
  intro n
  induction n using Nat.strongRecOn with
  | _ n ih =>
    intro s hI k hk
    obtain ⟨k, rfl⟩ : ∃ m, k = m + 1 := ⟨k - 1, by omega⟩
    obtain ⟨y, hy, hp⟩ := hs n s hI
    simp only [iter, hy, Option.bind_some]
    cases y with
    | inl s' =>
      obtain ⟨n', hn, hI'⟩ := hp
      exact ih n' hn s' hI' k (by omega)
    | inr x => exact ⟨x, rfl, hp⟩
theorem iter_up {S X : Type} {body : S → Option (S ⊕ X)} (N : Nat) (Inv : Nat → S → Prop) (Post : X → Prop)
    (hs : ∀ j s, j < N → Inv j s → ∃ y, body s = some y ∧ match y with | .inl s' => Inv (j + 1) s' | .inr x => Post x)
    (he : ∀ s, Inv N s → ∃ x, body s = some (.inr x) ∧ Post x) {i : Nat} {s : S} (hi : i ≤ N) (h0 : Inv i s) {k : Nat} (hk : N < k) : ∃ x, iter body k s = some x ∧ Post x := by
  refine iter_ind (fun n s => n ≤ N ∧ Inv (N - n) s) Post ?_ (N - i) s ⟨by omega, by rw [show N - (N - i) = i by omega]; exact h0⟩ k (by omega)
  rintro n s ⟨hn, hI⟩
  cases n with
  | zero =>
    obtain ⟨x, h1, h2⟩ := he s (by simpa using hI)
    exact ⟨.inr x, h1, h2⟩
  | succ n =>
    obtain ⟨y, h1, h2⟩ := hs (N - (n + 1)) s (by omega) hI
    refine ⟨y, h1, ?_⟩
    cases y with
    | inl s' => exact ⟨n, by omega, by omega, by rw [show N - n = N - (n + 1) + 1 by omega]; exact h2⟩
    | inr x => exact h2
theorem at_lt {α : Type} {l : List α} {i : Nat} (h : i < l.length) : at? l (i : Int) = some l[i] := by simp [at?, h]
theorem at_ge {α : Type} {l : List α} {i : Int} (h0 : 0 ≤ i) (h : i < (l.length : Int)) : at? l i = some (l[i.toNat]'(by omega)) := by
  simp [at?, h0, show i.toNat < l.length by omega]
theorem ift {α : Type} {p : Prop} [Decidable p] (h : p) (x y : α) : (if decide p = true then x else y) = x := by simp [h]
theorem iff_ {α : Type} {p : Prop} [Decidable p] (h : ¬ p) (x y : α) : (if decide p = true then x else y) = y := by simp [h]
theorem cutl_take {α : Type} (l : List α) (n : Nat) : cutl l (0 : Int).toNat (n : Int).toNat = l.take n := by simp [cutl]
theorem find_loop {body : Int → Option (Int ⊕ (Int ⊕ Unit))} (N : Nat) (p : Nat → Bool) (hb : ∀ i : Nat, i < N → body (i : Int) = some (if p i then .inr (.inl (i : Int)) else .inl ((i : Int) + 1))) (he : body (N : Int) = some (.inr (.inr ()))) {k : Nat} (hk : N < k) :
    (∃ j : Nat, iter body k 0 = some (.inl (j : Int)) ∧ j < N ∧ p j = true ∧ ∀ q, q < j → p q = false) ∨ (iter body k 0 = some (.inr ()) ∧ ∀ q, q < N → p q = false) := by
  obtain ⟨x, hx, hp⟩ := iter_up (body := body) N (fun j s => s = (j : Int) ∧ ∀ q, q < j → p q = false)
    (fun x => match x with | .inl i => ∃ j : Nat, i = (j : Int) ∧ j < N ∧ p j = true ∧ ∀ q, q < j → p q = false | .inr _ => ∀ q, q < N → p q = false)
    (by
      rintro j s hj ⟨rfl, hq⟩
      refine ⟨_, hb j hj, ?_⟩
      cases hpj : p j with
      | true => exact ⟨j, rfl, hj, hpj, hq⟩
      | false =>
        refine ⟨by omega, fun q hq' => ?_⟩
        by_cases e : q = j
        · subst e; exact hpj
        · exact hq q (by omega))
    (by rintro s ⟨rfl, hq⟩; exact ⟨_, he, hq⟩) (Nat.zero_le _) (i := 0) (s := 0) ⟨rfl, by omega⟩ hk
  cases x with
  | inl i => obtain ⟨j, rfl, h⟩ := hp; exact .inl ⟨j, hx, h⟩
  | inr u => exact .inr ⟨hx, hp⟩
theorem all_loop {body : Int → Option (Int ⊕ (Unit ⊕ Unit))} (N : Nat) (p : Nat → Bool) (hb : ∀ i : Nat, i < N → body (i : Int) = some (if p i then .inl ((i : Int) + 1) else .inr (.inl ()))) (he : body (N : Int) = some (.inr (.inr ()))) {k : Nat} (hk : N < k) :
    (iter body k 0 = some (.inl ()) ∧ ∃ j, j < N ∧ p j = false) ∨ (iter body k 0 = some (.inr ()) ∧ ∀ q, q < N → p q = true) := by
  obtain ⟨x, hx, hp⟩ := iter_up (body := body) N (fun j s => s = (j : Int) ∧ ∀ q, q < j → p q = true)
    (fun x => match x with | .inl _ => ∃ j, j < N ∧ p j = false | .inr _ => ∀ q, q < N → p q = true)
    (by
      rintro j s hj ⟨rfl, hq⟩
      refine ⟨_, hb j hj, ?_⟩
      cases hpj : p j with
      | false => exact ⟨j, hj, hpj⟩
      | true =>
        refine ⟨by omega, fun q hq' => ?_⟩
        by_cases e : q = j
        · subst e; exact hpj
        · exact hq q (by omega))
    (by rintro s ⟨rfl, hq⟩; exact ⟨_, he, hq⟩) (Nat.zero_le _) (i := 0) (s := 0) ⟨rfl, by omega⟩ hk
  cases x with
  | inl u => exact .inl ⟨hx, hp⟩
  | inr u => exact .inr ⟨hx, hp⟩
theorem succ_wrap {i N : Nat} (h : i < N) (hN : N ≤ 9223372036854775807) : IntKind.wrap .i64 ((i : Int) + 1) = (i : Int) + 1 := wrap_id (by omega) (by omega)
theorem seq_comm (x y : ByteArray) : seq x y = seq y x := by
  unfold seq
  rw [Bool.eq_iff_iff]
  simp only [beq_iff_eq]
  exact eq_comm
end Go.Gc
namespace Go.Proofs.Ythilemcdhkfhlaa
open Go Go.Gc Go.Proofs
def letterP (c : UInt8) : Prop := ref01_letter 0 (c.toNat : Int) = some true
def moreP (c : UInt8) : Prop := ref01_more 0 (c.toNat : Int) = some true
def NameP (s : ByteArray) : Prop := 1 ≤ s.size ∧ s.size ≤ 16 ∧ (∃ c, s.data.toList[0]? = some c ∧ letterP c) ∧ ∀ c ∈ s.data.toList, moreP c
def insideB (c : UInt8) : Bool := decide (32 ≤ (c.toNat : Int)) && decide ((c.toNat : Int) ≤ 126) && ((c.toNat : Int) != 39)
def TermP (s : ByteArray) : Prop := 1 ≤ s.size ∧ s.size ≤ 16 ∧ ∀ c ∈ s.data.toList, insideB c = true
theorem letter_k (k : Nat) (c : Int) : ref01_letter k c = ref01_letter 0 c := rfl
theorem more_k (k : Nat) (c : Int) : ref01_more k c = ref01_more 0 c := rfl
theorem lex_letter_eq (k : Nat) (c : Int) : lex_letter k c = ref01_letter 0 c := rfl
theorem lex_inner_eq (k : Nat) (c : Int) : lex_inner k c = ref01_more 0 c := rfl
theorem letter_some (c : Int) : ∃ b, ref01_letter 0 c = some b := by unfold ref01_letter; (repeat' split) <;> exact ⟨_, rfl⟩
theorem more_some (c : Int) : ∃ b, ref01_more 0 c = some b := by
  unfold ref01_more
  obtain ⟨b, hb⟩ := letter_some c
  rw [hb]
  simp only [Option.bind_some]
  (repeat' split) <;> exact ⟨_, rfl⟩
theorem size_list (s : ByteArray) : s.data.toList.length = s.size := by simp
theorem all_mem {s : ByteArray} {p : UInt8 → Bool} : (∀ q, (h : q < s.size) → p (s.data.toList[q]'(by rw [size_list]; exact h)) = true) ↔ ∀ c ∈ s.data.toList, p c = true := by
  constructor
  · intro h c hc
    obtain ⟨i, hi, rfl⟩ := List.getElem_of_mem hc
    exact h i (by rw [size_list] at hi; exact hi)
  · intro h q hq
    exact h _ (List.getElem_mem _)
theorem isName_ref {k : Nat} (hk : 1000000 ≤ k) (s : ByteArray) (hs : s.size ≤ 4000) : ∃ b, ref01_IsName k s = some b ∧ (b = true ↔ NameP s) := by
  have key := all_loop (body := fun s_1 => ref01_IsName_b0 k s s_1) s.size (fun i => if h : i < s.size then (ref01_more 0 ((s.data.toList[i]'(by rw [size_list]; exact h)).toNat : Int)).getD false else false) (k := k)
    (fun i hi => by
      have h1 : i < s.data.toList.length := by rw [size_list]; exact hi
      obtain ⟨b, hb⟩ := more_some ((s.data.toList[i]).toNat : Int)
      simp only [ref01_IsName_b0]
      rw [ift (by omega : (i : Int) < (s.size : Int)), at_lt h1]
      simp only [Option.bind_some, more_k k, hb, dif_pos hi, Option.getD_some]
      cases b
      · rfl
      · simp [succ_wrap hi (by omega)])
    (by simp [ref01_IsName_b0]) (by omega)
  have toM : (∀ q, q < s.size → (if h : q < s.size then (ref01_more 0 ((s.data.toList[q]'(by rw [size_list]; exact h)).toNat : Int)).getD false else false) = true) ↔ ∀ c ∈ s.data.toList, moreP c := by
    have := all_mem (s := s) (p := fun c => (ref01_more 0 (c.toNat : Int)).getD false)
    have e : ∀ c : UInt8, (ref01_more 0 (c.toNat : Int)).getD false = true ↔ moreP c := fun c => by
      obtain ⟨b, hb⟩ := more_some (c.toNat : Int)
      unfold moreP
      rw [hb]; simp
    simp only [e] at this
    rw [← this]
    constructor
    · intro h q hq
      have := h q hq
      rw [dif_pos hq] at this
      exact (e _).1 this
    · intro h q hq
      rw [dif_pos hq]
      exact (e _).2 (h q hq)
  unfold ref01_IsName
  rcases key with ⟨h, j, hj, hp⟩ | ⟨h, hp⟩
  · rw [h]
    refine ⟨false, rfl, by simp, fun hn => ?_⟩
    have := toM.2 hn.2.2.2 j hj
    rw [hp] at this
    cases this
  · rw [h]
    simp only [Option.bind_some, scase_r]
    have hm := toM.1 hp
    by_cases h1 : 1 ≤ s.size
    · rw [ift (by omega)]
      by_cases h2 : s.size ≤ 16
      · rw [ift (by omega)]
        have h0 : 0 < s.data.toList.length := by rw [size_list]; omega
        rw [show (0 : Int) = ((0 : Nat) : Int) from rfl, at_lt h0]
        obtain ⟨b, hb⟩ := letter_some ((s.data.toList[0]).toNat : Int)
        simp only [Option.bind_some, letter_k k, hb]
        refine ⟨b, rfl, fun hbt => ⟨h1, h2, ⟨_, List.getElem?_eq_getElem h0, ?_⟩, hm⟩, fun hn => ?_⟩
        · unfold letterP; rw [hb, hbt]
        · obtain ⟨_, _, ⟨c, hc, hl⟩, _⟩ := hn
          rw [List.getElem?_eq_getElem h0, Option.some.injEq] at hc
          subst hc
          unfold letterP at hl
          rw [hb] at hl
          exact Option.some.inj hl
      · rw [iff_ (by omega)]
        exact ⟨false, rfl, by simp, fun hn => absurd hn.2.1 h2⟩
    · rw [iff_ (by omega)]
      exact ⟨false, rfl, by simp, fun hn => absurd hn.1 h1⟩
theorem run_loop {k : Nat} {body : Int → Option (Int ⊕ Int)} (N : Nat) (p : Nat → Bool) (hb : ∀ i : Nat, i < N → body (i : Int) = some (if p i then .inl ((i : Int) + 1) else .inr (i : Int))) (he : body (N : Int) = some (.inr (N : Int))) (hk : N < k) :
    ∃ j : Nat, iter body k 0 = some (j : Int) ∧ j ≤ N ∧ (∀ q, q < j → p q = true) ∧ (j < N → p j = false) := by
  obtain ⟨x, hx, hp⟩ := iter_up (body := body) N (fun j s => s = (j : Int) ∧ ∀ q, q < j → p q = true)
    (fun x => ∃ j : Nat, x = (j : Int) ∧ j ≤ N ∧ (∀ q, q < j → p q = true) ∧ (j < N → p j = false))
    (by
      rintro j s hj ⟨rfl, hq⟩
      refine ⟨_, hb j hj, ?_⟩
      cases hpj : p j with
      | false => exact ⟨j, rfl, by omega, hq, fun _ => hpj⟩
      | true =>
        refine ⟨by omega, fun q hq' => ?_⟩
        by_cases e : q = j
        · subst e; exact hpj
        · exact hq q (by omega))
    (by rintro s ⟨rfl, hq⟩; exact ⟨_, he, N, rfl, by omega, hq, by omega⟩) (Nat.zero_le _) (i := 0) (s := 0) ⟨rfl, by omega⟩ hk
  obtain ⟨j, rfl, h⟩ := hp
  exact ⟨j, hx, h⟩
theorem isTerm_ref {k : Nat} (hk : 1000000 ≤ k) (s : ByteArray) (hs : s.size ≤ 4000) : ∃ b, ref01_IsTerm k s = some b ∧ (b = true ↔ TermP s) := by
  have key := all_loop (body := fun s_1 => ref01_IsTerm_b0 k s s_1) s.size (fun i => if h : i < s.size then insideB (s.data.toList[i]'(by rw [size_list]; exact h)) else false) (k := k)
    (fun i hi => by
      have h1 : i < s.data.toList.length := by rw [size_list]; exact hi
      simp only [ref01_IsTerm_b0]
      rw [ift (by omega : (i : Int) < (s.size : Int)), at_lt h1]
      simp only [Option.bind_some, dif_pos hi, insideB]
      generalize s.data.toList[i] = c
      by_cases a1 : (c.toNat : Int) < 32
      · rw [ift a1]; simp [show ¬ (32 ≤ (c.toNat : Int)) by omega]
      · rw [iff_ a1]
        by_cases a2 : 126 < (c.toNat : Int)
        · rw [ift a2]; simp [show ¬ ((c.toNat : Int) ≤ 126) by omega]
        · rw [iff_ a2]
          by_cases a3 : (c.toNat : Int) = 39
          · rw [if_pos (by simp [a3])]; simp [a3]
          · rw [if_neg (by simpa using a3)]; simp [a3, show (32 ≤ (c.toNat : Int)) by omega, show ((c.toNat : Int) ≤ 126) by omega, succ_wrap hi (by omega)])
    (by simp [ref01_IsTerm_b0]) (by omega)
  have toM : (∀ q, q < s.size → (if h : q < s.size then insideB (s.data.toList[q]'(by rw [size_list]; exact h)) else false) = true) ↔ ∀ c ∈ s.data.toList, insideB c = true := by
    rw [← all_mem]
    constructor
    · intro h q hq
      have := h q hq
      rwa [dif_pos hq] at this
    · intro h q hq
      rw [dif_pos hq]
      exact h q hq
  unfold ref01_IsTerm
  rcases key with ⟨h, j, hj, hp⟩ | ⟨h, hp⟩
  · rw [h]
    refine ⟨false, rfl, by simp, fun hn => ?_⟩
    have := toM.2 hn.2.2 j hj
    rw [hp] at this
    cases this
  · rw [h]
    simp only [Option.bind_some, scase_r]
    by_cases h1 : 1 ≤ s.size
    · rw [ift (by omega)]
      refine ⟨_, rfl, ?_⟩
      simp only [decide_eq_true_eq]
      exact ⟨fun h2 => ⟨h1, by omega, toM.1 hp⟩, fun hn => by have := hn.2.1; omega⟩
    · rw [iff_ (by omega)]
      exact ⟨false, rfl, by simp, fun hn => absurd hn.1 h1⟩
theorem lex_inside_eq (k : Nat) (c : UInt8) : lex_inside k (c.toNat : Int) = some (insideB c) := by
  unfold lex_inside insideB
  by_cases h1 : 32 ≤ (c.toNat : Int)
  · by_cases h2 : (c.toNat : Int) ≤ 126
    · simp [h1, h2]
    · simp [h1, h2]
  · simp [h1]
theorem at_ref {k : Nat} (hk : 1000000 ≤ k) (l : List ByteArray) (s : ByteArray) (hl : l.length ≤ 4000) : ∃ i, ref03_at k l s = some i ∧ ((∃ j : Nat, ∃ h : j < l.length, i = (j : Int) ∧ seq l[j] s = true ∧ ∀ q, (hq : q < j) → seq (l[q]'(by omega)) s = false) ∨ i = -1 ∧ ∀ q, (hq : q < l.length) → seq l[q] s = false) := by
  have key := find_loop (body := fun i => ref03_at_b0 k l s i) l.length (fun i => if h : i < l.length then seq l[i] s else false) (k := k)
    (fun i hi => by
      simp only [ref03_at_b0]
      rw [ift (by omega : (i : Int) < (l.length : Int)), at_lt hi]
      simp only [Option.bind_some, dif_pos hi, succ_wrap hi (by omega)]
      split <;> rfl)
    (by simp [ref03_at_b0]) (by omega)
  unfold ref03_at
  rcases key with ⟨j, h, hj, hp, hq⟩ | ⟨h, hq⟩
  · rw [h]
    refine ⟨_, rfl, .inl ⟨j, hj, rfl, by rwa [dif_pos hj] at hp, fun q hqj => ?_⟩⟩
    have := hq q hqj
    rwa [dif_pos (by omega)] at this
  · rw [h]
    refine ⟨_, rfl, .inr ⟨rfl, fun q hql => ?_⟩⟩
    have := hq q hql
    rwa [dif_pos hql] at this
end Go.Proofs.Ythilemcdhkfhlaa
namespace Go.Proofs.Ythilemcdhkfhlaa
open Go Go.Gc Go.Proofs
structure Bnd (g : Grammar) : Prop where
  tl : g.terms.length ≤ 4000
  nl : g.names.length ≤ 4000
  rl : g.rules.length ≤ 300
  tz : ∀ s ∈ g.terms, s.size ≤ 4000
  nz : ∀ s ∈ g.names, s.size ≤ 4000
  rz : ∀ r ∈ g.rules, r.right.length ≤ 4000
theorem cost_loop {α : Type} (l : List α) (sz : α → Int) (hs : ∀ x, 0 ≤ sz x) {body : Int × Int → Option ((Int × Int) ⊕ Int)} {k : Nat} (hk : 1000000 ≤ k)
    (hb : ∀ s, body s = if (decide (s.2 < (l.length : Int))) = true then (if (decide (s.1 ≤ (4000 : Int))) = true then ((at? l s.2).bind fun x71 => some (.inl (IntKind.wrap .i64 (s.1 + (IntKind.wrap .i64 ((1 : Int) + (if (4000 : Int) < sz x71 then (4000 : Int) else sz x71)))), IntKind.wrap .i64 (s.2 + (1 : Int))))) else (some (.inr s.1))) else (some (.inr s.1)))
    (y0 : Int) (h0 : 0 ≤ y0) (h1 : y0 ≤ 8001) : ∃ y, iter body k (y0, 0) = some y ∧ y0 ≤ y ∧ y ≤ 8001 ∧ (y ≤ 4000 → (l.length : Int) + y0 ≤ y ∧ ∀ x ∈ l, sz x ≤ 4000) := by
  refine iter_ind (fun n s => n = (8001 - s.1).toNat ∧ s.1 ≤ 8001 ∧ ∃ j : Nat, s.2 = (j : Int) ∧ j ≤ l.length ∧ y0 + (j : Int) ≤ s.1 ∧ (s.1 ≤ 4000 → ∀ x ∈ l.take j, sz x ≤ 4000)) _ ?_ (8001 - y0).toNat (y0, 0) ⟨rfl, h1, 0, rfl, Nat.zero_le _, by simp, by simp⟩ k (by omega)
  rintro n ⟨y, i⟩ ⟨hn, hy, j, hi, hj, hle, hall⟩
  simp only at hn hy hi hle hall ⊢
  subst hi
  rw [hb]
  simp only
  by_cases e : j < l.length
  · rw [ift (by omega)]
    by_cases e2 : y ≤ 4000
    · rw [ift e2, at_lt e]
      have hz := hs l[j]
      have hw1 : IntKind.wrap .i64 ((1 : Int) + (if (4000 : Int) < sz l[j] then (4000 : Int) else sz l[j])) = (1 : Int) + (if (4000 : Int) < sz l[j] then (4000 : Int) else sz l[j]) := by
        apply wrap_id <;> split <;> omega
      have hw2 : IntKind.wrap .i64 (y + ((1 : Int) + (if (4000 : Int) < sz l[j] then (4000 : Int) else sz l[j]))) = y + ((1 : Int) + (if (4000 : Int) < sz l[j] then (4000 : Int) else sz l[j])) := by
        apply wrap_id <;> split <;> omega
      have hw3 : IntKind.wrap .i64 ((j : Int) + 1) = ((j + 1 : Nat) : Int) := by rw [wrap_id] <;> omega
      refine ⟨_, rfl, ?_⟩
      simp only [hw1, hw2, hw3]
      refine ⟨_, ?_, rfl, ?_, j + 1, rfl, e, ?_, ?_⟩
      · split <;> omega
      · split <;> omega
      · split <;> omega
      · intro h4 x hx
        rw [List.take_succ_eq_append_getElem e, List.mem_append] at hx
        rcases hx with hx | hx
        · exact hall e2 x hx
        · rw [List.mem_singleton] at hx
          subst hx
          split at h4 <;> omega
    · rw [iff_ e2]
      exact ⟨_, rfl, by omega, hy, fun h => absurd h e2⟩
  · rw [iff_ (by omega)]
    have hjl : j = l.length := by omega
    subst hjl
    rw [List.take_length] at hall
    exact ⟨_, rfl, by omega, hy, fun h => ⟨by omega, hall h⟩⟩
theorem large_spec {k : Nat} (hk : 1000000 ≤ k) (g : Grammar) : ∃ b, keep_LargeGrammar k g = some b ∧ (b = false → Bnd g) := by
  obtain ⟨y1, e1, a1, b1, c1⟩ := cost_loop g.terms (fun x => (x.size : Int)) (fun x => by omega) (body := fun s => keep_LargeGrammar_b0 k g s.1 s.2) hk (fun s => rfl) 0 (by omega) (by omega)
  obtain ⟨y2, e2, a2, b2, c2⟩ := cost_loop g.names (fun x => (x.size : Int)) (fun x => by omega) (body := fun s => keep_LargeGrammar_b1 k g s.1 s.2) hk (fun s => rfl) y1 (by omega) (by omega)
  obtain ⟨y3, e3, a3, b3, c3⟩ := cost_loop g.rules (fun x => (x.right.length : Int)) (fun x => by omega) (body := fun s => keep_LargeGrammar_b2 k g s.1 s.2) hk (fun s => rfl) y2 (by omega) (by omega)
  unfold keep_LargeGrammar
  rw [e1]
  simp only [Option.bind_some]
  rw [e2]
  simp only [Option.bind_some]
  rw [e3]
  simp only [Option.bind_some]
  by_cases h : 4000 < y3
  · rw [ift h]
    exact ⟨_, rfl, fun h => by cases h⟩
  · rw [iff_ h]
    refine ⟨_, rfl, fun hb => ?_⟩
    have hr : ¬ ((200 : Int) < (g.rules.length : Int)) := by simpa using hb
    obtain ⟨l1, z1⟩ := c1 (by omega)
    obtain ⟨l2, z2⟩ := c2 (by omega)
    obtain ⟨l3, z3⟩ := c3 (by omega)
    exact ⟨by omega, by omega, by omega, fun s h => by have := z1 s h; omega, fun s h => by have := z2 s h; omega, fun s h => by have := z3 s h; omega⟩
theorem all_loop' {body : Int → Option (Int ⊕ (Unit ⊕ Unit))} (N : Nat) (P : Nat → Prop) (hb : ∀ i : Nat, i < N → (P i ∧ body (i : Int) = some (.inl ((i : Int) + 1))) ∨ (¬ P i ∧ body (i : Int) = some (.inr (.inl ())))) (he : body (N : Int) = some (.inr (.inr ()))) {k : Nat} (hk : N < k) :
    (iter body k 0 = some (.inl ()) ∧ ¬ ∀ q, q < N → P q) ∨ (iter body k 0 = some (.inr ()) ∧ ∀ q, q < N → P q) := by
  obtain ⟨x, hx, hp⟩ := iter_up (body := body) N (fun j s => s = (j : Int) ∧ ∀ q, q < j → P q)
    (fun x => match x with | .inl _ => ¬ ∀ q, q < N → P q | .inr _ => ∀ q, q < N → P q)
    (by
      rintro j s hj ⟨rfl, hq⟩
      rcases hb j hj with ⟨hp, h⟩ | ⟨hp, h⟩
      · refine ⟨_, h, by omega, fun q hq' => ?_⟩
        by_cases e : q = j
        · subst e; exact hp
        · exact hq q (by omega)
      · exact ⟨_, h, fun h => hp (h j hj)⟩)
    (by rintro s ⟨rfl, hq⟩; exact ⟨_, he, hq⟩) (Nat.zero_le _) (i := 0) (s := 0) ⟨rfl, by omega⟩ hk
  cases x with
  | inl u => exact .inl ⟨hx, hp⟩
  | inr u => exact .inr ⟨hx, hp⟩
theorem ints_loop {body : Int → Option (Int ⊕ (Unit ⊕ Unit))} {a b : List Int} (hl : a.length = b.length) (ha : a.length ≤ 900000) {k : Nat} (hk : 1000000 ≤ k)
    (hb : ∀ y, body y = if (decide (y < (a.length : Int))) = true then ((at? a y).bind fun x82 => (at? b y).bind fun x92 => if (x82 != x92) = true then (some (.inr (.inl ()))) else (some (.inl (IntKind.wrap .i64 (y + (1 : Int)))))) else (some (.inr (.inr ())))) :
    iter body k 0 = some (if a = b then .inr () else .inl ()) := by
  have key := all_loop' (body := body) (k := k) a.length (fun i => a[i]? = b[i]?)
    (fun i hi => by
      rw [hb, ift (by omega), at_lt hi, at_lt (by omega : i < b.length)]
      simp only [Option.bind_some, succ_wrap hi (by omega), List.getElem?_eq_getElem hi, List.getElem?_eq_getElem (by omega : i < b.length), Option.some.injEq]
      by_cases e : a[i] = b[i]
      · exact .inl ⟨e, by simp [e]⟩
      · exact .inr ⟨e, by simp [e]⟩)
    (by rw [hb, iff_ (by omega)]) (by omega)
  have toE : (∀ q, q < a.length → a[q]? = b[q]?) ↔ a = b := by
    constructor
    · intro h
      apply List.ext_getElem?
      intro i
      by_cases e : i < a.length
      · exact h i e
      · rw [List.getElem?_eq_none (by omega), List.getElem?_eq_none (by omega)]
    · rintro rfl q _; rfl
  rcases key with ⟨h, hp⟩ | ⟨h, hp⟩
  · rw [h, if_neg (fun e => hp (toE.2 e))]
  · rw [h, if_pos (toE.1 hp)]
theorem equal_eq {k : Nat} (hk : 1000000 ≤ k) (a b : List Int) (ha : a.length ≤ 900000) : slices_Equal k a b = some (decide (a = b)) := by
  unfold slices_Equal
  by_cases hl : a.length = b.length
  · rw [if_neg (by simp [hl]), ints_loop (body := fun s => slices_Equal_b0 k a b s) hl ha hk (fun y => rfl)]
    by_cases e : a = b
    · rw [if_pos e, decide_eq_true e]; rfl
    · rw [if_neg e, decide_eq_false e]; rfl
  · rw [if_pos (by rw [bne_iff_ne]; omega)]
    simp [show a ≠ b from fun e => hl (by rw [e])]
def sameR (x r : Rule) : Bool := decide (x.left = r.left) && decide (x.right = r.right)
def hasB (l : List Rule) (r : Rule) : Bool := l.any fun x => sameR x r
theorem any_true {α : Type} {l : List α} {p : α → Bool} {j : Nat} (h : j < l.length) (hp : p l[j] = true) : l.any p = true := List.any_eq_true.2 ⟨_, List.getElem_mem h, hp⟩
theorem any_false {α : Type} {l : List α} {p : α → Bool} (hp : ∀ q, (h : q < l.length) → p l[q] = false) : l.any p = false := by
  rw [Bool.eq_false_iff]
  intro h
  obtain ⟨x, hx, h⟩ := List.any_eq_true.1 h
  obtain ⟨i, hi, rfl⟩ := List.getElem_of_mem hx
  rw [hp i hi] at h
  cases h
theorem alike_eq {k : Nat} (hk : 1000000 ≤ k) (x r : Rule) (hx : x.right.length ≤ 4000) : grammar_alike k x r = some (sameR x r) := by
  unfold grammar_alike sameR
  by_cases e : x.left = r.left
  · rw [if_pos (by simpa using e), equal_eq hk _ _ (by omega)]
    simp [e]
  · rw [if_neg (by simpa using e)]
    simp [e]
theorem has_lex {k : Nat} (hk : 1000000 ≤ k) (l : List Rule) (r : Rule) (hl : l.length ≤ 4000) (hz : ∀ x ∈ l, x.right.length ≤ 4000) : grammar_has k l r = some (hasB l r) := by
  have key := find_loop (body := fun i => slices_IndexFunc_b0 k l r.left r.right i) l.length (fun i => if h : i < l.length then sameR l[i] r else false) (k := k)
    (fun i hi => by
      simp only [slices_IndexFunc_b0]
      rw [ift (by omega : (i : Int) < (l.length : Int)), at_lt hi]
      simp only [Option.bind_some, dif_pos hi, succ_wrap hi (by omega), grammar_has_1]
      rw [alike_eq hk _ _ (hz _ (List.getElem_mem hi))]
      simp only [Option.bind_some]
      split <;> rfl)
    (by simp [slices_IndexFunc_b0]) (by omega)
  unfold grammar_has slices_ContainsFunc slices_IndexFunc hasB
  rcases key with ⟨j, h, hj, hp, -⟩ | ⟨h, hq⟩
  · rw [h]
    rw [dif_pos hj] at hp
    rw [any_true (p := fun x => sameR x r) hj hp]
    exact congrArg some (decide_eq_true (by omega))
  · rw [h, any_false (fun q hql => by have := hq q hql; rwa [dif_pos hql] at this)]
    rfl
theorem has_ref_in {k : Nat} (hk : 1000000 ≤ k) (l : List Rule) (r : Rule) (i : Nat) (hi : i < l.length) (hz : ∀ x ∈ l, x.right.length ≤ 4000) (b0 : Bool) (hb0 : b0 = true → l[i].right.length = r.right.length) (hr : r.right.length ≤ 4000) :
    iter (fun (s : (Bool × Int)) => ref03_has_b1 k l r (i : Int) s.1 s.2) k (b0, 0) = some (b0 && decide (l[i].right = r.right)) := by
  have hi' : l[i].right.length ≤ 4000 := hz _ (List.getElem_mem hi)
  obtain ⟨x, hx, hp⟩ := iter_up (body := fun (s : (Bool × Int)) => ref03_has_b1 k l r (i : Int) s.1 s.2) (k := k) r.right.length
    (fun j s => s.2 = (j : Int) ∧ (s.1 = true → l[i].right.length = r.right.length) ∧ (s.1 = true ↔ b0 = true ∧ l[i].right.take j = r.right.take j))
    (fun x => x = (b0 && decide (l[i].right = r.right)))
    (by
      rintro j ⟨b, y⟩ hj ⟨hy, hl, hs⟩
      simp only at hy hl hs
      subst hy
      simp only [ref03_has_b1]
      rw [ift (by omega)]
      cases b with
      | true =>
        have hl' := hl rfl
        have hs' := hs.1 rfl
        rw [if_pos rfl, at_lt hi]
        simp only [Option.bind_some]
        rw [at_lt (by omega : j < l[i].right.length), at_lt hj]
        simp only [Option.bind_some, succ_wrap hj (by omega)]
        refine ⟨_, rfl, by simp only; omega, fun _ => hl', ?_⟩
        simp only [beq_iff_eq]
        have t1 : r.right.take (j + 1) = r.right.take j ++ [r.right[j]] := List.take_succ_eq_append_getElem hj
        have t2 : l[i].right.take (j + 1) = l[i].right.take j ++ [l[i].right[j]'(by omega)] := List.take_succ_eq_append_getElem (by omega)
        rw [t1, t2, hs'.2]
        exact ⟨fun h => ⟨hs'.1, by rw [h]⟩, fun h => List.head_eq_of_cons_eq (List.append_cancel_left h.2)⟩
      | false =>
        refine ⟨_, rfl, ?_⟩
        simp only
        symm
        rw [Bool.eq_false_iff]
        intro h
        simp only [Bool.and_eq_true, decide_eq_true_eq] at h
        have := hs.2 ⟨h.1, by rw [h.2]⟩
        cases this)
    (by
      rintro ⟨b, y⟩ ⟨hy, hl, hs⟩
      simp only at hy hl hs
      subst hy
      simp only [ref03_has_b1]
      rw [iff_ (by omega)]
      refine ⟨_, rfl, ?_⟩
      rw [Bool.eq_iff_iff, hs]
      simp only [Bool.and_eq_true, decide_eq_true_eq]
      constructor
      · rintro ⟨h1, h2⟩
        refine ⟨h1, ?_⟩
        have := hb0 h1
        rw [List.take_length, ← this, List.take_length] at h2
        exact h2
      · rintro ⟨h1, h2⟩
        exact ⟨h1, by rw [h2]⟩)
    (Nat.zero_le _) (i := 0) (s := (b0, 0)) ⟨rfl, hb0, by simp⟩ (by omega)
  rw [hx, hp]
theorem has_ref {k : Nat} (hk : 1000000 ≤ k) (l : List Rule) (r : Rule) (hl : l.length ≤ 4000) (hz : ∀ x ∈ l, x.right.length ≤ 4000) (hr : r.right.length ≤ 4000) : ref03_has k l r = some (hasB l r) := by
  have key := all_loop' (body := fun i => ref03_has_b0 k l r i) (k := k) l.length (fun i => ¬ ∃ h : i < l.length, sameR l[i] r = true)
    (fun i hi => by
      simp only [ref03_has_b0]
      rw [ift (by omega : (i : Int) < (l.length : Int)), at_lt hi]
      simp only [Option.bind_some]
      have e : (if (l[i].left == r.left) = true then some ((l[i].right.length : Int) == (r.right.length : Int)) else some false) = some (decide (l[i].left = r.left) && decide (l[i].right.length = r.right.length)) := by
        by_cases e : l[i].left = r.left
        · rw [if_pos (by simpa using e)]
          rw [Option.some.injEq, Bool.eq_iff_iff]
          simp [e]
          omega
        · rw [if_neg (by simpa using e)]
          simp [e]
      rw [e]
      simp only [Option.bind_some]
      rw [has_ref_in hk l r i hi hz _ (by simp) hr]
      simp only [Option.bind_some, succ_wrap hi (by omega)]
      have e2 : ((decide (l[i].left = r.left) && decide (l[i].right.length = r.right.length)) && decide (l[i].right = r.right)) = sameR l[i] r := by
        unfold sameR
        by_cases e : l[i].right = r.right
        · simp [e]
        · simp [e]
      rw [e2]
      by_cases e : sameR l[i] r = true
      · exact .inr ⟨fun h => h ⟨hi, e⟩, by rw [if_pos e]⟩
      · exact .inl ⟨fun ⟨_, h⟩ => e h, by rw [if_neg e]⟩)
    (by simp [ref03_has_b0]) (by omega)
  unfold ref03_has hasB
  rcases key with ⟨h, hp⟩ | ⟨h, hp⟩
  · rw [h]
    cases hb : l.any fun x => sameR x r with
    | true => rfl
    | false =>
      exfalso
      refine hp fun q hq => ?_
      rintro ⟨_, h⟩
      rw [any_true (p := fun x => sameR x r) hq h] at hb
      cases hb
  · rw [h, any_false (fun q hq => by
      cases hs : sameR l[q] r with
      | false => rfl
      | true => exact absurd ⟨hq, hs⟩ (hp q hq))]
    rfl
def rise : List Int → Int → Option Int
  | [], x => some x
  | a :: l, x => if x < a then none else if a = x then rise l (x + 1) else rise l x
theorem rise_app (a b : List Int) (x : Int) : rise (a ++ b) x = (rise a x).bind (rise b) := by
  induction a generalizing x with
  | nil => rfl
  | cons c a ih =>
    simp only [List.cons_append, rise]
    split
    · rfl
    · split <;> exact ih _
theorem rise_le {a : List Int} {x y : Int} (h : rise a x = some y) : x ≤ y ∧ y ≤ x + (a.length : Int) := by
  induction a generalizing x with
  | nil => simp only [rise, Option.some.injEq] at h; subst h; simp
  | cons c a ih =>
    simp only [rise] at h
    split at h
    · cases h
    · split at h
      · have := ih h; simp only [List.length_cons]; omega
      · have := ih h; simp only [List.length_cons]; omega
theorem rise_lex {k : Nat} (hk : 1000000 ≤ k) (l : List Int) (lo hi : Int) (hl : l.length ≤ 900000) (h0 : 0 ≤ lo) (h1 : lo ≤ 900000) : grammar_rising k l lo hi = some (decide (rise l lo = some hi)) := by
  obtain ⟨x, hx, hp⟩ := iter_up (body := fun (s : (Int × Int)) => grammar_rising_b0 k l s.1 s.2) (k := k) l.length
    (fun j s => s.2 = (j : Int) ∧ rise (l.take j) lo = some s.1)
    (fun x => match x with | .inl _ => rise l lo = none | .inr y => rise l lo = some y)
    (by
      rintro j ⟨y, i⟩ hj ⟨hi, hr⟩
      simp only at hi hr
      subst hi
      simp only [grammar_rising_b0]
      rw [ift (by omega), at_lt hj]
      simp only [Option.bind_some, succ_wrap hj (by omega)]
      have hle := rise_le hr
      rw [List.length_take] at hle
      have hs : rise (l.take (j + 1)) lo = rise [l[j]] y := by rw [List.take_succ_eq_append_getElem hj, rise_app, hr]; rfl
      by_cases e : y < l[j]
      · rw [ift e]
        refine ⟨_, rfl, ?_⟩
        simp only
        rw [← List.take_append_drop (j + 1) l, rise_app, hs]
        simp [rise, e]
      · rw [iff_ e]
        by_cases e2 : l[j] = y
        · rw [if_pos (by simpa using e2), wrap_id (by omega) (by omega)]
          refine ⟨_, rfl, by simp only; omega, ?_⟩
          simp only [hs, rise, if_neg e, if_pos e2]
        · rw [if_neg (by simpa using e2)]
          refine ⟨_, rfl, by simp only; omega, ?_⟩
          simp only [hs, rise, if_neg e, if_neg e2])
    (by
      rintro ⟨y, i⟩ ⟨hi, hr⟩
      simp only at hi hr
      subst hi
      rw [List.take_length] at hr
      simp only [grammar_rising_b0]
      rw [iff_ (by omega)]
      exact ⟨_, rfl, hr⟩)
    (Nat.zero_le _) (i := 0) (s := (lo, 0)) ⟨rfl, rfl⟩ (by omega)
  unfold grammar_rising
  rw [hx]
  cases x with
  | inl u => simp only at hp; rw [hp]; rfl
  | inr y =>
    simp only at hp
    simp only [Option.bind_some, scase_r, hp, Option.some.injEq]
    rw [Bool.eq_iff_iff]
    simp
end Go.Proofs.Ythilemcdhkfhlaa
namespace Go.Proofs.Ythilemcdhkfhlaa
open Go Go.Gc Go.Proofs
def termsOf (t : Int) (l : List Rule) : List Int := (l.map fun r => r.right.filter fun s => decide (0 ≤ s) && decide (s < t)).flatten
def Distinct (l : List ByteArray) (P : ByteArray → Prop) : Prop := ∀ i, (h : i < l.length) → P l[i] ∧ ∀ q, (hq : q < i) → seq l[q] l[i] = false
def RuleP (g : Grammar) (i : Nat) : Prop := ∃ h : i < g.rules.length, (g.terms.length : Int) ≤ g.rules[i].left ∧ g.rules[i].left < (g.terms.length : Int) + (g.names.length : Int) ∧ g.rules[i].right.length ≤ 8 ∧
  hasB (g.rules.take i) g.rules[i] = false ∧ ∀ s ∈ g.rules[i].right, 0 ≤ s ∧ s < (g.terms.length : Int) + (g.names.length : Int)
structure GoodP (g : Grammar) : Prop where
  n1 : 1 ≤ g.names.length
  n2 : g.names.length ≤ 40
  t2 : g.terms.length ≤ 40
  r1 : 1 ≤ g.rules.length
  r2 : g.rules.length ≤ 60
  ns : Distinct g.names NameP
  ts : Distinct g.terms TermP
  rs : ∀ i, i < g.rules.length → RuleP g i
  rl : rise (g.rules.map fun r => r.left) (g.terms.length : Int) = some ((g.terms.length : Int) + (g.names.length : Int))
  rt : rise (termsOf (g.terms.length : Int) g.rules) 0 = some (g.terms.length : Int)
theorem termsOf_app (t : Int) (a b : List Rule) : termsOf t (a ++ b) = termsOf t a ++ termsOf t b := by simp [termsOf]
theorem termsOf_one (t : Int) (r : Rule) : termsOf t [r] = r.right.filter fun s => decide (0 ≤ s) && decide (s < t) := by simp [termsOf]
theorem termsOf_len (t : Int) (l : List Rule) (h : ∀ r ∈ l, r.right.length ≤ 8) : (termsOf t l).length ≤ 8 * l.length := by
  induction l with
  | nil => simp [termsOf]
  | cons r l ih =>
    have e : termsOf t (r :: l) = termsOf t [r] ++ termsOf t l := by rw [← termsOf_app]; rfl
    rw [e, List.length_append, termsOf_one]
    have h1 := List.length_filter_le (fun s => decide (0 ≤ s) && decide (s < t)) r.right
    have h2 := h r (by simp)
    have h3 := ih (fun x hx => h x (by simp [hx]))
    simp only [List.length_cons]
    omega
theorem distinct_ref {k : Nat} (hk : 1000000 ≤ k) (l : List ByteArray) (P : ByteArray → Prop) (is : ByteArray → Option Bool) (hl : l.length ≤ 4000) (hi : ∀ s ∈ l, ∃ b, is s = some b ∧ (b = true ↔ P s))
    {body : Int → Option (Int ⊕ (Unit ⊕ Unit))}
    (hb : ∀ y93, body y93 = if (decide (y93 < (l.length : Int))) = true then ((at? l y93).bind fun x161 => (is x161).bind fun r171 => if (!r171) = true then (some (.inr (.inl ()))) else ((at? l y93).bind fun x184 => (ref03_at k l x184).bind fun r194 => if (r194 != y93) = true then (some (.inr (.inl ()))) else (some (.inl (IntKind.wrap .i64 (y93 + (1 : Int))))))) else (some (.inr (.inr ())))) :
    (iter body k 0 = some (.inl ()) ∧ ¬ Distinct l P) ∨ (iter body k 0 = some (.inr ()) ∧ Distinct l P) := by
  have key := all_loop' (body := body) (k := k) l.length (fun i => ∃ h : i < l.length, P l[i] ∧ ∀ q, (hq : q < i) → seq l[q] l[i] = false)
    (fun i h => by
      rw [hb, ift (by omega), at_lt h]
      simp only [Option.bind_some]
      obtain ⟨b, h1, h2⟩ := hi _ (List.getElem_mem h)
      rw [h1]
      simp only [Option.bind_some]
      cases b with
      | false => exact .inr ⟨fun ⟨_, hp, _⟩ => (by have := h2.2 hp; cases this), rfl⟩
      | true =>
        obtain ⟨r, h3, h4⟩ := at_ref hk l l[i] hl
        rw [if_neg (by simp), h3]
        simp only [Option.bind_some]
        rcases h4 with ⟨j, hj, rfl, hs, hq⟩ | ⟨rfl, hq⟩
        · by_cases e : j = i
          · subst e
            exact .inl ⟨⟨h, h2.1 rfl, hq⟩, by rw [if_neg (by simp), succ_wrap h (by omega)]⟩
          · refine .inr ⟨fun ⟨_, _, hp⟩ => ?_, by rw [if_pos (by rw [bne_iff_ne]; omega)]⟩
            by_cases e2 : j < i
            · rw [hp j e2] at hs; cases hs
            · have := hq i (by omega)
              simp [seq] at this
        · have := hq i h
          simp [seq] at this)
    (by rw [hb, iff_ (by omega)]) (by omega)
  rcases key with ⟨h, hp⟩ | ⟨h, hp⟩
  · exact .inl ⟨h, fun hd => hp fun q hq => ⟨hq, hd q hq⟩⟩
  · exact .inr ⟨h, fun i hi => (hp i hi).2⟩
theorem contains_iff {k : Nat} (hk : 1000000 ≤ k) (l : List ByteArray) (s : ByteArray) (hl : l.length ≤ 4000) : ∃ b, slices_Contains_1 k l s = some b ∧ (b = false ↔ ∀ q, (hq : q < l.length) → seq l[q] s = false) := by
  have key := find_loop (body := fun i => slices_Index_1_b0 k l s i) l.length (fun i => if h : i < l.length then seq s l[i] else false) (k := k)
    (fun i hi => by
      simp only [slices_Index_1_b0]
      rw [ift (by omega : (i : Int) < (l.length : Int)), at_lt hi]
      simp only [Option.bind_some, dif_pos hi, succ_wrap hi (by omega)]
      split <;> rfl)
    (by simp [slices_Index_1_b0]) (by omega)
  unfold slices_Contains_1 slices_Index_1
  rcases key with ⟨j, h1, hj, hp, hq⟩ | ⟨h1, hq⟩
  · rw [h1]
    refine ⟨true, congrArg some (decide_eq_true (by omega)), fun h => (by cases h), fun h => ?_⟩
    rw [dif_pos hj, seq_comm, h j hj] at hp
    cases hp
  · rw [h1]
    refine ⟨false, rfl, fun _ q hql => ?_, fun _ => rfl⟩
    have := hq q hql
    rwa [dif_pos hql, seq_comm] at this
theorem distinct_lex {k : Nat} (hk : 1000000 ≤ k) (l : List ByteArray) (P : ByteArray → Prop) (is : ByteArray → Option Bool) (hl : l.length ≤ 4000) (hi : ∀ s ∈ l, ∃ b, is s = some b ∧ (b = true ↔ P s))
    {body : Int → Option (Int ⊕ (Unit ⊕ Unit))}
    (hb : ∀ y48, body y48 = if (decide (y48 < (l.length : Int))) = true then ((at? l y48).bind fun x98 => (is x98).bind fun r108 => if (!r108) = true then (some (.inr (.inl ()))) else (if 0 ≤ (0 : Int) ∧ (0 : Int) ≤ y48 ∧ y48 ≤ (l.length : Int) then ((slices_Contains_1 k (cutl l (0 : Int).toNat y48.toNat) x98).bind fun r124 => if r124 = true then (some (.inr (.inl ()))) else (some (.inl (IntKind.wrap .i64 (y48 + (1 : Int)))))) else none)) else (some (.inr (.inr ())))) :
    (iter body k 0 = some (.inl ()) ∧ ¬ Distinct l P) ∨ (iter body k 0 = some (.inr ()) ∧ Distinct l P) := by
  have key := all_loop' (body := body) (k := k) l.length (fun i => ∃ h : i < l.length, P l[i] ∧ ∀ q, (hq : q < i) → seq l[q] l[i] = false)
    (fun i h => by
      rw [hb, ift (by omega), at_lt h]
      simp only [Option.bind_some]
      obtain ⟨b, h1, h2⟩ := hi _ (List.getElem_mem h)
      rw [h1]
      simp only [Option.bind_some]
      cases b with
      | false => exact .inr ⟨fun ⟨_, hp, _⟩ => (by have := h2.2 hp; cases this), rfl⟩
      | true =>
        obtain ⟨r, h3, h4⟩ := contains_iff hk (l.take i) l[i] (by rw [List.length_take]; omega)
        rw [if_neg (by simp), if_pos (by omega), cutl_take, h3]
        simp only [Option.bind_some]
        cases r with
        | false =>
          refine .inl ⟨⟨h, h2.1 rfl, fun q hq => ?_⟩, by rw [if_neg (by simp), succ_wrap h (by omega)]⟩
          have := h4.1 rfl q (by rw [List.length_take]; omega)
          rwa [List.getElem_take] at this
        | true =>
          refine .inr ⟨fun ⟨_, _, hp⟩ => ?_, rfl⟩
          have := h4.2 (fun q hq => by rw [List.getElem_take]; exact hp q (by rw [List.length_take] at hq; omega))
          cases this)
    (by rw [hb, iff_ (by omega)]) (by omega)
  rcases key with ⟨h, hp⟩ | ⟨h, hp⟩
  · exact .inl ⟨h, fun hd => hp fun q hq => ⟨hq, hd q hq⟩⟩
  · exact .inr ⟨h, fun i hi => (hp i hi).2⟩
theorem isName_iff {k : Nat} (hk : 1000000 ≤ k) (s : ByteArray) (hs : s.size ≤ 4000) : ∃ b, lex_IsName k s = some b ∧ (b = true ↔ NameP s) := by
  unfold lex_IsName
  by_cases h1 : 1 ≤ s.size
  · rw [ift (by omega)]
    by_cases h2 : s.size ≤ 16
    · rw [ift (by omega)]
      have h0 : 0 < s.data.toList.length := by rw [size_list]; omega
      rw [show (0 : Int) = ((0 : Nat) : Int) from rfl, at_lt h0]
      obtain ⟨b, hb⟩ := letter_some ((s.data.toList[0]).toNat : Int)
      simp only [Option.bind_some, lex_letter_eq, hb]
      cases b with
      | false =>
        refine ⟨_, rfl, by simp, fun hn => ?_⟩
        obtain ⟨_, _, ⟨c, hc, hl⟩, _⟩ := hn
        rw [List.getElem?_eq_getElem h0, Option.some.injEq] at hc
        subst hc
        unfold letterP at hl
        rw [hb] at hl
        cases hl
      | true =>
        rw [if_pos rfl]
        unfold lex_run_1
        obtain ⟨j, hj, hjn, hjt, hjf⟩ := run_loop (body := fun s_1 => lex_run_1_b0 k s s_1) s.size (fun i => if h : i < s.size then (ref01_more 0 ((s.data.toList[i]'(by rw [size_list]; exact h)).toNat : Int)).getD false else false) (k := k)
          (fun i hi => by
            have h1 : i < s.data.toList.length := by rw [size_list]; exact hi
            simp only [lex_run_1_b0]
            rw [ift (by omega : (i : Int) < (s.size : Int)), at_lt h1]
            obtain ⟨b, hb⟩ := more_some ((s.data.toList[i]).toNat : Int)
            simp only [Option.bind_some, lex_inner_eq, hb, dif_pos hi, Option.getD_some, succ_wrap hi (by omega)]
            cases b <;> rfl)
          (by simp [lex_run_1_b0]) (by omega)
        rw [hj]
        refine ⟨_, rfl, ?_⟩
        rw [beq_iff_eq]
        constructor
        · intro hjs
          have hjs : j = s.size := by omega
          refine ⟨h1, h2, ⟨_, List.getElem?_eq_getElem h0, hb⟩, fun c hc => ?_⟩
          obtain ⟨i, hi, rfl⟩ := List.getElem_of_mem hc
          have hi' : i < s.size := by rwa [size_list] at hi
          have := hjt i (by omega)
          rw [dif_pos hi'] at this
          obtain ⟨b, hb⟩ := more_some ((s.data.toList[i]).toNat : Int)
          rw [hb, Option.getD_some] at this
          subst this
          exact hb
        · intro hn
          by_cases e : j < s.size
          · have h3 := hjf e
            rw [dif_pos e] at h3
            have h4 := hn.2.2.2 _ (List.getElem_mem (by rw [size_list]; exact e : j < s.data.toList.length))
            unfold moreP at h4
            rw [h4] at h3
            cases h3
          · omega
    · rw [iff_ (by omega)]
      exact ⟨_, rfl, by simp, fun hn => absurd hn.2.1 h2⟩
  · rw [iff_ (by omega)]
    exact ⟨_, rfl, by simp, fun hn => absurd hn.1 h1⟩
theorem isTerm_iff {k : Nat} (hk : 1000000 ≤ k) (s : ByteArray) (hs : s.size ≤ 4000) : ∃ b, lex_IsTerm k s = some b ∧ (b = true ↔ TermP s) := by
  unfold lex_IsTerm
  by_cases h1 : 1 ≤ s.size
  · rw [ift (by omega)]
    by_cases h2 : s.size ≤ 16
    · rw [ift (by omega)]
      unfold lex_run_2
      obtain ⟨j, hj, hjn, hjt, hjf⟩ := run_loop (body := fun s_1 => lex_run_2_b0 k s s_1) s.size (fun i => if h : i < s.size then insideB (s.data.toList[i]'(by rw [size_list]; exact h)) else false) (k := k)
        (fun i hi => by
          have h1 : i < s.data.toList.length := by rw [size_list]; exact hi
          simp only [lex_run_2_b0]
          rw [ift (by omega : (i : Int) < (s.size : Int)), at_lt h1]
          simp only [Option.bind_some, lex_inside_eq k, dif_pos hi, succ_wrap hi (by omega)]
          split <;> rfl)
        (by simp [lex_run_2_b0]) (by omega)
      rw [hj]
      refine ⟨_, rfl, ?_⟩
      rw [beq_iff_eq]
      constructor
      · intro hjs
        have hjs : j = s.size := by omega
        refine ⟨h1, h2, fun c hc => ?_⟩
        obtain ⟨i, hi, rfl⟩ := List.getElem_of_mem hc
        have hi' : i < s.size := by rwa [size_list] at hi
        have := hjt i (by omega)
        rwa [dif_pos hi'] at this
      · intro hn
        by_cases e : j < s.size
        · have h3 := hjf e
          rw [dif_pos e] at h3
          have h4 := hn.2.2 _ (List.getElem_mem (by rw [size_list]; exact e : j < s.data.toList.length))
          rw [h4] at h3
          cases h3
        · omega
    · rw [iff_ (by omega)]
      exact ⟨_, rfl, by simp, fun hn => absurd hn.2.1 h2⟩
  · rw [iff_ (by omega)]
    exact ⟨_, rfl, by simp, fun hn => absurd hn.1 h1⟩
theorem right_ref {k : Nat} (hk : 1000000 ≤ k) (g : Grammar) (hg : Bnd g) (r : Rule) (hr : r.right.length ≤ 4000) (st : Int) (h0 : 0 ≤ st) (h1 : st ≤ 900000) :
    ∃ x, iter (fun (s : (Int × Int)) => ref03_Good_b3 k g r s.1 s.2) k (st, 0) = some x ∧
      match x with
      | .inl _ => ¬ ((∀ s ∈ r.right, 0 ≤ s ∧ s < (g.terms.length : Int) + (g.names.length : Int)) ∧ (rise (termsOf (g.terms.length : Int) [r]) st).isSome = true)
      | .inr y => (∀ s ∈ r.right, 0 ≤ s ∧ s < (g.terms.length : Int) + (g.names.length : Int)) ∧ rise (termsOf (g.terms.length : Int) [r]) st = some y := by
  have b1 := hg.tl
  have b2 := hg.nl
  have hw : IntKind.wrap .i64 ((g.terms.length : Int) + (g.names.length : Int)) = (g.terms.length : Int) + (g.names.length : Int) := wrap_id (by omega) (by omega)
  let F := fun s : Int => decide (0 ≤ s) && decide (s < (g.terms.length : Int))
  refine iter_up (body := fun (s : (Int × Int)) => ref03_Good_b3 k g r s.1 s.2) (k := k) r.right.length
    (fun j s => s.2 = (j : Int) ∧ (∀ q ∈ r.right.take j, 0 ≤ q ∧ q < (g.terms.length : Int) + (g.names.length : Int)) ∧ rise ((r.right.take j).filter F) st = some s.1) _ ?_ ?_
    (Nat.zero_le _) (i := 0) (s := (st, 0)) ⟨rfl, by simp, rfl⟩ (by omega)
  · rintro j ⟨y, i⟩ hj ⟨hi, hall, hris⟩
    simp only at hi hall hris
    subst hi
    have hle := rise_le hris
    have hfl := List.length_filter_le F (r.right.take j)
    rw [List.length_take] at hfl
    simp only [ref03_Good_b3]
    rw [ift (by omega), at_lt hj, hw]
    simp only [Option.bind_some, succ_wrap hj (by omega)]
    have ht : r.right.take (j + 1) = r.right.take j ++ [r.right[j]] := List.take_succ_eq_append_getElem hj
    have step : rise ((r.right.take (j + 1)).filter F) st = rise ([r.right[j]].filter F) y := by rw [ht, List.filter_append, rise_app, hris]; rfl
    have hall' : 0 ≤ r.right[j] → r.right[j] < (g.terms.length : Int) + (g.names.length : Int) → ∀ q ∈ r.right.take (j + 1), 0 ≤ q ∧ q < (g.terms.length : Int) + (g.names.length : Int) := fun a b q hq => by
      rw [ht, List.mem_append] at hq
      rcases hq with hq | hq
      · exact hall q hq
      · rw [List.mem_singleton] at hq; subst hq; exact ⟨a, b⟩
    by_cases e1 : r.right[j] < 0
    · rw [ift e1]
      exact ⟨_, rfl, fun h => by have := h.1 _ (List.getElem_mem hj); omega⟩
    · rw [iff_ e1]
      by_cases e2 : (g.terms.length : Int) + (g.names.length : Int) ≤ r.right[j]
      · rw [ift e2]
        exact ⟨_, rfl, fun h => by have := h.1 _ (List.getElem_mem hj); omega⟩
      · rw [iff_ e2]
        by_cases e3 : r.right[j] < (g.terms.length : Int)
        · rw [ift e3]
          have hF : [r.right[j]].filter F = [r.right[j]] := by simp only [List.filter_cons, List.filter_nil]; rw [if_pos (by simp only [F]; simp; omega)]
          rw [hF] at step
          by_cases e4 : y < r.right[j]
          · rw [ift e4]
            refine ⟨_, rfl, fun h => ?_⟩
            have h2 := h.2
            rw [termsOf_one, ← List.take_append_drop (j + 1) r.right, List.filter_append, rise_app] at h2
            change ((rise ((r.right.take (j + 1)).filter F) st).bind _).isSome = true at h2
            rw [step] at h2
            simp [rise, e4] at h2
          · rw [iff_ e4]
            by_cases e5 : r.right[j] = y
            · rw [if_pos (by simpa using e5), wrap_id (by omega) (by omega)]
              refine ⟨_, rfl, by simp only; omega, hall' (by omega) (by omega), ?_⟩
              simp only [step, rise, if_neg e4, if_pos e5]
            · rw [if_neg (by simpa using e5)]
              refine ⟨_, rfl, by simp only; omega, hall' (by omega) (by omega), ?_⟩
              simp only [step, rise, if_neg e4, if_neg e5]
        · rw [iff_ e3]
          have hF : [r.right[j]].filter F = [] := by simp only [List.filter_cons, List.filter_nil]; rw [if_neg (by simp only [F]; simp; omega)]
          rw [hF] at step
          refine ⟨.inl (y, ((j : Int) + 1)), ?_, by simp only; omega, hall' (by omega) (by omega), ?_⟩
          · split <;> rfl
          · simp only [step, rise]
  · rintro ⟨y, i⟩ ⟨hi, hall, hris⟩
    simp only at hi hall hris
    subst hi
    rw [List.take_length] at hall hris
    simp only [ref03_Good_b3]
    rw [iff_ (by omega)]
    exact ⟨_, rfl, hall, by rw [termsOf_one]; exact hris⟩
end Go.Proofs.Ythilemcdhkfhlaa
