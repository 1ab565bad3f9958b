/- Contracts of functions of the program. -/
import Derived.Test.YtlmflbcfbhppaaaGreatT5
import Derived.Test.YtlmflbcfbhppaaaGreatProg
set_option linter.all false
set_option linter.unusedVariables false
set_option linter.unusedSimpArgs false
set_option linter.unusedSectionVars false
namespace Go.Proofs.Tryz
open Go Go.X Go.RowKit Go.Sort
set_option maxRecDepth 100000
set_option maxHeartbeats 2000000
set_option linter.unusedVariables false
set_option linter.unusedSimpArgs false
theorem carapacelaw15_awake_ok (A : Nat → Prop) (w0 : World) (hA : ∀ b, w0.heap.size ≤ b → A b)   : Cal Tryz.prog 4 [].toArray w0 (fun v w' => Keep none_ w0 w' ∧ v = .bool true) := by
  have s0 : Stt A w0 none_ [] w0 := Stt.start hA none_
  refine Cal.intro (n := 78) Tryz.func4 rfl Tryz.ntmps4 rfl ?_
  refine XC.seq ?_
  refine XC.region ?_
  refine XS.vals' 1 [(0, .bool false)] (by kernel_rfl) ?_
  refine XS.done rfl (thn_norm ?_)
  refine XC.seq ?_
  refine XC.region ?_
  refine XS.vals' 5 [(6, .agg #[.int .i64 0, .int .i64 0, .int .i64 0]), (7, .agg #[.int .i64 2, .int .i64 0, .int .i64 0]), (8, .agg #[.int .i64 0, .int .i64 2, .int .i64 0]), (9, .agg #[.int .i64 2, .int .i64 2, .int .i64 0]), (10, .agg #[.int .i64 1, .int .i64 1, .int .i64 0])] (by kernel_rfl) ?_
  refine XS.op rfl rfl (XO.newSl (k := 5) (cs := [.int .i64 0, .int .i64 0, .int .i64 0, .int .i64 2, .int .i64 0, .int .i64 0, .int .i64 0, .int .i64 2, .int .i64 0, .int .i64 2, .int .i64 2, .int .i64 0, .int .i64 1, .int .i64 1, .int .i64 0]) (T := 24) s0 rfl (by decide) (fun _ => by kernel_rfl) (fun b1 w2 s2 ev2 kp2 ybb1 => ?_))
  obtain ⟨s3, ev3, hf3⟩ := Stt.freezeLit (τ := tPt) (xs := [(⟨0, 0, 0⟩ : Pt), (⟨2, 0, 0⟩ : Pt), (⟨0, 2, 0⟩ : Pt), (⟨2, 2, 0⟩ : Pt), (⟨1, 1, 0⟩ : Pt)]) s2 0 rfl (fun _ h => h.elim) rfl rfl (Els.enc _ _ [(⟨0, 0, 0⟩ : Pt), (⟨2, 0, 0⟩ : Pt), (⟨0, 2, 0⟩ : Pt), (⟨2, 2, 0⟩ : Pt), (⟨1, 1, 0⟩ : Pt)])
  refine XS.op rfl rfl (XO.callS (f := 12) (args := [(.slice (some ⟨b1, 0, none⟩) 5 5)].toArray) s3 rfl (by decide) (fun _ => by kernel_rfl) (clean_Of_flat_ok (av A _) _ s3.av_fresh ([(⟨0, 0, 0⟩ : Pt), (⟨2, 0, 0⟩ : Pt), (⟨0, 2, 0⟩ : Pt), (⟨2, 2, 0⟩ : Pt), (⟨1, 1, 0⟩ : Pt)]) (some ⟨b1, 0, none⟩) 5 hf3 (by first | exact awk_c0 | exact awkA_dim | exact awkA_k | exact awkA_2 | exact awkA_r | exact awk_c3 | exact awkB_dim | exact awkB_k | exact awkB_2 | exact awkB_r) (by first | exact awk_c0 | exact awkA_dim | exact awkA_k | exact awkA_2 | exact awkA_r | exact awk_c3 | exact awkB_dim | exact awkB_k | exact awkB_2 | exact awkB_r) (by first | exact awk_c0 | exact awkA_dim | exact awkA_k | exact awkA_2 | exact awkA_r | exact awk_c3 | exact awkB_dim | exact awkB_k | exact awkB_2 | exact awkB_r) (by first | exact awk_c0 | exact awkA_dim | exact awkA_k | exact awkA_2 | exact awkA_r | exact awk_c3 | exact awkB_dim | exact awkB_k | exact awkB_2 | exact awkB_r) (by first | exact awk_c0 | exact awkA_dim | exact awkA_k | exact awkA_2 | exact awkA_r | exact awk_c3 | exact awkB_dim | exact awkB_k | exact awkB_2 | exact awkB_r) [(⟨0, 0, 0⟩ : Pt), (⟨0, 2, 0⟩ : Pt), (⟨2, 2, 0⟩ : Pt), (⟨2, 0, 0⟩ : Pt)] [(⟨0, 0, 0⟩ : Pt), (⟨0, 2, 0⟩ : Pt), (⟨2, 0, 0⟩ : Pt), (⟨2, 2, 0⟩ : Pt)] awkA_F awk_s2) (fun _ w4 s4 ev4 kp4 hv_ => ?_))
  obtain ⟨ap0_5, cp0_6, af0_7, cf0_8, rfl, hf9, hf10⟩ := hv_
  refine XS.vals' 3 [(5, .tuple #[.agg #[.int .i64 2, .slice ap0_5 ((([(⟨0, 0, 0⟩ : Pt), (⟨0, 2, 0⟩ : Pt), (⟨2, 0, 0⟩ : Pt), (⟨2, 2, 0⟩ : Pt)])).length) cp0_6, .slice af0_7 (([([(⟨0, 0, 0⟩ : Pt), (⟨0, 2, 0⟩ : Pt), (⟨2, 2, 0⟩ : Pt), (⟨2, 0, 0⟩ : Pt)])]).length) cf0_8], .int .i64 0]), (13, .agg #[.int .i64 2, .slice ap0_5 ((([(⟨0, 0, 0⟩ : Pt), (⟨0, 2, 0⟩ : Pt), (⟨2, 0, 0⟩ : Pt), (⟨2, 2, 0⟩ : Pt)])).length) cp0_6, .slice af0_7 (([([(⟨0, 0, 0⟩ : Pt), (⟨0, 2, 0⟩ : Pt), (⟨2, 2, 0⟩ : Pt), (⟨2, 0, 0⟩ : Pt)])]).length) cf0_8]), (14, .int .i64 0)] (by kernel_rfl) ?_
  refine XS.op rfl rfl (XO.new (cs := [.int .i64 0, .slice none 0 0, .slice none 0 0]) (T := 37) s4 rfl (by decide) (fun _ => by kernel_rfl) (fun b11 w12 s12 ev12 kp12 ybb11 => ?_))
  refine XS.op rfl rfl (XO.storeS (i := 0) (v := .agg #[.int .i64 2, .slice ap0_5 ((([(⟨0, 0, 0⟩ : Pt), (⟨0, 2, 0⟩ : Pt), (⟨2, 0, 0⟩ : Pt), (⟨2, 2, 0⟩ : Pt)])).length) cp0_6, .slice af0_7 (([([(⟨0, 0, 0⟩ : Pt), (⟨0, 2, 0⟩ : Pt), (⟨2, 2, 0⟩ : Pt), (⟨2, 0, 0⟩ : Pt)])]).length) cf0_8]) (m := 3) (cs' := [.int .i64 2, .slice ap0_5 ((([(⟨0, 0, 0⟩ : Pt), (⟨0, 2, 0⟩ : Pt), (⟨2, 0, 0⟩ : Pt), (⟨2, 2, 0⟩ : Pt)])).length) cp0_6, .slice af0_7 (([([(⟨0, 0, 0⟩ : Pt), (⟨0, 2, 0⟩ : Pt), (⟨2, 2, 0⟩ : Pt), (⟨2, 0, 0⟩ : Pt)])]).length) cf0_8]) s12 rfl rfl rfl rfl rfl (by kernel_rfl) rfl rfl rfl rfl (fun w13 s13 ev13 kp13 => ?_))
  refine XS.vals' 1 [(2, .int .i64 0)] (by kernel_rfl) ?_
  refine XS.done rfl (thn_norm ?_)
  refine XC.seq ?_
  refine XC.region ?_
  refine XS.vals' 3 [(16, .agg #[.int .i64 0, .int .i64 0, .int .i64 0]), (17, .agg #[.int .i64 3, .int .i64 3, .int .i64 3]), (18, .agg #[.int .i64 1, .int .i64 1, .int .i64 1])] (by kernel_rfl) ?_
  refine XS.op rfl rfl (XO.newSl (k := 3) (cs := [.int .i64 0, .int .i64 0, .int .i64 0, .int .i64 3, .int .i64 3, .int .i64 3, .int .i64 1, .int .i64 1, .int .i64 1]) (T := 24) s13 rfl (by decide) (fun _ => by kernel_rfl) (fun b14 w15 s15 ev15 kp15 ybb14 => ?_))
  obtain ⟨s16, ev16, hf16⟩ := Stt.freezeLit (τ := tPt) (xs := [(⟨0, 0, 0⟩ : Pt), (⟨3, 3, 3⟩ : Pt), (⟨1, 1, 1⟩ : Pt)]) s15 1 rfl (fun _ h => h.elim) rfl rfl (Els.enc _ _ [(⟨0, 0, 0⟩ : Pt), (⟨3, 3, 3⟩ : Pt), (⟨1, 1, 1⟩ : Pt)])
  refine XS.op rfl rfl (XO.callS (f := 5) (args := [(.slice (some ⟨b14, 0, none⟩) 3 3)].toArray) s16 rfl (by decide) (fun _ => by kernel_rfl) (clean_Dim_ok (av A _) _ s16.av_fresh ([(⟨0, 0, 0⟩ : Pt), (⟨3, 3, 3⟩ : Pt), (⟨1, 1, 1⟩ : Pt)]) (some ⟨b14, 0, none⟩) 3 hf16 ) (fun _ w17 s17 ev17 kp17 hv_ => ?_))
  obtain rfl := hv_
  refine XS.vals' 5 [(15, .tuple #[.int .i64 (dimE ([(⟨0, 0, 0⟩ : Pt), (⟨3, 3, 3⟩ : Pt), (⟨1, 1, 1⟩ : Pt)])), .int .i64 ((chk ([(⟨0, 0, 0⟩ : Pt), (⟨3, 3, 3⟩ : Pt), (⟨1, 1, 1⟩ : Pt)])).1)]), (21, .int .i64 (dimE ([(⟨0, 0, 0⟩ : Pt), (⟨3, 3, 3⟩ : Pt), (⟨1, 1, 1⟩ : Pt)]))), (22, .int .i64 ((chk ([(⟨0, 0, 0⟩ : Pt), (⟨3, 3, 3⟩ : Pt), (⟨1, 1, 1⟩ : Pt)])).1)), (3, .int .i64 (dimE ([(⟨0, 0, 0⟩ : Pt), (⟨3, 3, 3⟩ : Pt), (⟨1, 1, 1⟩ : Pt)]))), (4, .int .i64 ((chk ([(⟨0, 0, 0⟩ : Pt), (⟨3, 3, 3⟩ : Pt), (⟨1, 1, 1⟩ : Pt)])).1))] (by kernel_rfl) ?_
  refine XS.done rfl (thn_norm ?_)
  refine XC.seq ?_
  refine XC.region ?_
  refine XS.vals' 7 [(23, .int .i64 0), (24, .bool true), (25, .bool true), (26, .int .i64 ((chk ([(⟨0, 0, 0⟩ : Pt), (⟨3, 3, 3⟩ : Pt), (⟨1, 1, 1⟩ : Pt)])).1)), (27, .bool (decide (((chk ([(⟨0, 0, 0⟩ : Pt), (⟨3, 3, 3⟩ : Pt), (⟨1, 1, 1⟩ : Pt)])).1) = 0))), (28, .bool (decide (((chk ([(⟨0, 0, 0⟩ : Pt), (⟨3, 3, 3⟩ : Pt), (⟨1, 1, 1⟩ : Pt)])).1) = 0))), (29, .bool (decide (((chk ([(⟨0, 0, 0⟩ : Pt), (⟨3, 3, 3⟩ : Pt), (⟨1, 1, 1⟩ : Pt)])).1) = 0)))] (by kernel_rfl) ?_
  refine XS.onD 29 (((chk ([(⟨0, 0, 0⟩ : Pt), (⟨3, 3, 3⟩ : Pt), (⟨1, 1, 1⟩ : Pt)])).1) = 0) rfl (fun _ => ?_) (fun h_ => absurd (by first | exact awk_cD | exact awk_D | decide) h_)
  refine XS.vals' 4 [(30, .int .i64 (dimE ([(⟨0, 0, 0⟩ : Pt), (⟨3, 3, 3⟩ : Pt), (⟨1, 1, 1⟩ : Pt)]))), (31, .bool (decide ((dimE ([(⟨0, 0, 0⟩ : Pt), (⟨3, 3, 3⟩ : Pt), (⟨1, 1, 1⟩ : Pt)])) = 1))), (32, .bool (decide ((dimE ([(⟨0, 0, 0⟩ : Pt), (⟨3, 3, 3⟩ : Pt), (⟨1, 1, 1⟩ : Pt)])) = 1))), (33, .bool (decide ((dimE ([(⟨0, 0, 0⟩ : Pt), (⟨3, 3, 3⟩ : Pt), (⟨1, 1, 1⟩ : Pt)])) = 1)))] (by kernel_rfl) ?_
  refine XS.onD 33 ((dimE ([(⟨0, 0, 0⟩ : Pt), (⟨3, 3, 3⟩ : Pt), (⟨1, 1, 1⟩ : Pt)])) = 1) rfl (fun _ => ?_) (fun h_ => absurd (by first | exact awk_cD | exact awk_D | decide) h_)
  refine XS.vals' 1 [(34, .pointer (some ⟨b11, 0, none⟩))] (by kernel_rfl) ?_
  refine XS.op_g rfl rfl rfl (XO.loadS (i := 0) (v := .int .i64 2) (g := false) (m := 1) s17 rfl rfl rfl (by decide) rfl (by kernel_rfl) (by kernel_rfl) rfl rfl rfl ?_)
  refine XS.vals' 4 [(36, .bool true), (37, .bool true), (38, .bool true), (39, .pointer (some ⟨b11, 1, none⟩))] (by kernel_rfl) ?_
  refine XS.op_g rfl rfl rfl (XO.loadS (i := 0) (v := .slice ap0_5 ((([(⟨0, 0, 0⟩ : Pt), (⟨0, 2, 0⟩ : Pt), (⟨2, 0, 0⟩ : Pt), (⟨2, 2, 0⟩ : Pt)])).length) cp0_6) (g := false) (m := 1) s17 rfl rfl rfl (by decide) rfl (by kernel_rfl) (by kernel_rfl) rfl rfl rfl ?_)
  refine XS.vals' 4 [(41, .int .i64 ((([(⟨0, 0, 0⟩ : Pt), (⟨0, 2, 0⟩ : Pt), (⟨2, 0, 0⟩ : Pt), (⟨2, 2, 0⟩ : Pt)])).length : Int)), (42, .bool (decide (((([(⟨0, 0, 0⟩ : Pt), (⟨0, 2, 0⟩ : Pt), (⟨2, 0, 0⟩ : Pt), (⟨2, 2, 0⟩ : Pt)])).length : Int) = 4))), (43, .bool (decide (((([(⟨0, 0, 0⟩ : Pt), (⟨0, 2, 0⟩ : Pt), (⟨2, 0, 0⟩ : Pt), (⟨2, 2, 0⟩ : Pt)])).length : Int) = 4))), (44, .bool (decide (((([(⟨0, 0, 0⟩ : Pt), (⟨0, 2, 0⟩ : Pt), (⟨2, 0, 0⟩ : Pt), (⟨2, 2, 0⟩ : Pt)])).length : Int) = 4)))] (by kernel_rfl) ?_
  refine XS.onD 44 (((([(⟨0, 0, 0⟩ : Pt), (⟨0, 2, 0⟩ : Pt), (⟨2, 0, 0⟩ : Pt), (⟨2, 2, 0⟩ : Pt)])).length : Int) = 4) rfl (fun _ => ?_) (fun h_ => absurd (by first | exact awk_cD | exact awk_D | decide) h_)
  refine XS.vals' 1 [(45, .pointer (some ⟨b11, 2, none⟩))] (by kernel_rfl) ?_
  refine XS.op_g rfl rfl rfl (XO.loadS (i := 0) (v := .slice af0_7 (([([(⟨0, 0, 0⟩ : Pt), (⟨0, 2, 0⟩ : Pt), (⟨2, 2, 0⟩ : Pt), (⟨2, 0, 0⟩ : Pt)])]).length) cf0_8) (g := false) (m := 1) s17 rfl rfl rfl (by decide) rfl (by kernel_rfl) (by kernel_rfl) rfl rfl rfl ?_)
  refine XS.vals' 4 [(47, .int .i64 (([([(⟨0, 0, 0⟩ : Pt), (⟨0, 2, 0⟩ : Pt), (⟨2, 2, 0⟩ : Pt), (⟨2, 0, 0⟩ : Pt)])]).length : Int)), (48, .bool (decide ((([([(⟨0, 0, 0⟩ : Pt), (⟨0, 2, 0⟩ : Pt), (⟨2, 2, 0⟩ : Pt), (⟨2, 0, 0⟩ : Pt)])]).length : Int) = 1))), (49, .bool (decide ((([([(⟨0, 0, 0⟩ : Pt), (⟨0, 2, 0⟩ : Pt), (⟨2, 2, 0⟩ : Pt), (⟨2, 0, 0⟩ : Pt)])]).length : Int) = 1))), (50, .bool (decide ((([([(⟨0, 0, 0⟩ : Pt), (⟨0, 2, 0⟩ : Pt), (⟨2, 2, 0⟩ : Pt), (⟨2, 0, 0⟩ : Pt)])]).length : Int) = 1)))] (by kernel_rfl) ?_
  refine XS.onD 50 ((([([(⟨0, 0, 0⟩ : Pt), (⟨0, 2, 0⟩ : Pt), (⟨2, 2, 0⟩ : Pt), (⟨2, 0, 0⟩ : Pt)])]).length : Int) = 1) rfl (fun _ => ?_) (fun h_ => absurd (by first | exact awk_cD | exact awk_D | decide) h_)
  refine XS.vals' 1 [(51, .pointer (some ⟨b11, 2, none⟩))] (by kernel_rfl) ?_
  refine XS.op_g rfl rfl rfl (XO.loadS (i := 0) (v := .slice af0_7 (([([(⟨0, 0, 0⟩ : Pt), (⟨0, 2, 0⟩ : Pt), (⟨2, 2, 0⟩ : Pt), (⟨2, 0, 0⟩ : Pt)])]).length) cf0_8) (g := false) (m := 1) s17 rfl rfl rfl (by decide) rfl (by kernel_rfl) (by kernel_rfl) rfl rfl rfl ?_)
  have hz22 : ([([(⟨0, 0, 0⟩ : Pt), (⟨0, 2, 0⟩ : Pt), (⟨2, 2, 0⟩ : Pt), (⟨2, 0, 0⟩ : Pt)])])[0]? = some ([(⟨0, 0, 0⟩ : Pt), (⟨0, 2, 0⟩ : Pt), (⟨2, 2, 0⟩ : Pt), (⟨2, 0, 0⟩ : Pt)]) := rfl
  refine XS.op_g rfl rfl rfl (XO.elem (i := 0) (z := ([(⟨0, 0, 0⟩ : Pt), (⟨0, 2, 0⟩ : Pt), (⟨2, 2, 0⟩ : Pt), (⟨2, 0, 0⟩ : Pt)])) (e := 22) (sz := 1) (hf10.mono (ev12.trans (ev13.trans (ev15.trans (ev16.trans ev17))))) hz22 rfl rfl (by decide) rfl rfl (by omega) (by kernel_rfl) (by kernel_rfl) ?_)
  refine XS.op_g rfl rfl rfl (XO.loadE (i := 0) (f := 0) (sz := 1) (g := false) (z := ([(⟨0, 0, 0⟩ : Pt), (⟨0, 2, 0⟩ : Pt), (⟨2, 2, 0⟩ : Pt), (⟨2, 0, 0⟩ : Pt)])) (hf10.mono (ev12.trans (ev13.trans (ev15.trans (ev16.trans ev17))))) hz22 rfl rfl (by decide) rfl (by first | rfl | omega) (by kernel_rfl) (by kernel_rfl) rfl rfl (fun cs_ hcs_ => ?_))
  obtain ⟨v_, rfl, hv_⟩ := hcs_
  obtain ⟨ea23, ec23, rfl, hSe23⟩ := Sl.shape hv_
  refine XS.vals' 4 [(55, .int .i64 ((([(⟨0, 0, 0⟩ : Pt), (⟨0, 2, 0⟩ : Pt), (⟨2, 2, 0⟩ : Pt), (⟨2, 0, 0⟩ : Pt)])).length : Int)), (56, .bool (decide (((([(⟨0, 0, 0⟩ : Pt), (⟨0, 2, 0⟩ : Pt), (⟨2, 2, 0⟩ : Pt), (⟨2, 0, 0⟩ : Pt)])).length : Int) = 4))), (57, .bool (decide (((([(⟨0, 0, 0⟩ : Pt), (⟨0, 2, 0⟩ : Pt), (⟨2, 2, 0⟩ : Pt), (⟨2, 0, 0⟩ : Pt)])).length : Int) = 4))), (58, .bool (decide (((([(⟨0, 0, 0⟩ : Pt), (⟨0, 2, 0⟩ : Pt), (⟨2, 2, 0⟩ : Pt), (⟨2, 0, 0⟩ : Pt)])).length : Int) = 4)))] (by kernel_rfl) ?_
  refine XS.onD 58 (((([(⟨0, 0, 0⟩ : Pt), (⟨0, 2, 0⟩ : Pt), (⟨2, 2, 0⟩ : Pt), (⟨2, 0, 0⟩ : Pt)])).length : Int) = 4) rfl (fun _ => ?_) (fun h_ => absurd (by first | exact awk_cD | exact awk_D | decide) h_)
  refine XS.vals' 1 [(59, .pointer (some ⟨b11, 2, none⟩))] (by kernel_rfl) ?_
  refine XS.op_g rfl rfl rfl (XO.loadS (i := 0) (v := .slice af0_7 (([([(⟨0, 0, 0⟩ : Pt), (⟨0, 2, 0⟩ : Pt), (⟨2, 2, 0⟩ : Pt), (⟨2, 0, 0⟩ : Pt)])]).length) cf0_8) (g := false) (m := 1) s17 rfl rfl rfl (by decide) rfl (by kernel_rfl) (by kernel_rfl) rfl rfl rfl ?_)
  have hz25 : ([([(⟨0, 0, 0⟩ : Pt), (⟨0, 2, 0⟩ : Pt), (⟨2, 2, 0⟩ : Pt), (⟨2, 0, 0⟩ : Pt)])])[0]? = some ([(⟨0, 0, 0⟩ : Pt), (⟨0, 2, 0⟩ : Pt), (⟨2, 2, 0⟩ : Pt), (⟨2, 0, 0⟩ : Pt)]) := rfl
  refine XS.op_g rfl rfl rfl (XO.elem (i := 0) (z := ([(⟨0, 0, 0⟩ : Pt), (⟨0, 2, 0⟩ : Pt), (⟨2, 2, 0⟩ : Pt), (⟨2, 0, 0⟩ : Pt)])) (e := 22) (sz := 1) (hf10.mono (ev12.trans (ev13.trans (ev15.trans (ev16.trans ev17))))) hz25 rfl rfl (by decide) rfl rfl (by omega) (by kernel_rfl) (by kernel_rfl) ?_)
  refine XS.op_g rfl rfl rfl (XO.loadE (i := 0) (f := 0) (sz := 1) (g := false) (z := ([(⟨0, 0, 0⟩ : Pt), (⟨0, 2, 0⟩ : Pt), (⟨2, 2, 0⟩ : Pt), (⟨2, 0, 0⟩ : Pt)])) (hf10.mono (ev12.trans (ev13.trans (ev15.trans (ev16.trans ev17))))) hz25 rfl rfl (by decide) rfl (by first | rfl | omega) (by kernel_rfl) (by kernel_rfl) rfl rfl (fun cs_ hcs_ => ?_))
  obtain ⟨v_, rfl, hv_⟩ := hcs_
  obtain ⟨ea26, ec26, rfl, hSe26⟩ := Sl.shape hv_
  have hz27 : (([(⟨0, 0, 0⟩ : Pt), (⟨0, 2, 0⟩ : Pt), (⟨2, 2, 0⟩ : Pt), (⟨2, 0, 0⟩ : Pt)]))[1]? = some (⟨0, 2, 0⟩ : Pt) := rfl
  refine XS.op_g rfl rfl rfl (XO.elem (i := 1) (z := (⟨0, 2, 0⟩ : Pt)) (e := 24) (sz := 3) hSe26 hz27 rfl rfl (by decide) rfl rfl (by omega) (by kernel_rfl) (by kernel_rfl) ?_)
  refine XS.op_g rfl rfl rfl (XO.loadE (i := 1) (f := 0) (sz := 3) (g := true) (z := (⟨0, 2, 0⟩ : Pt)) hSe26 hz27 rfl rfl (by decide) rfl (by first | rfl | omega) (by kernel_rfl) (by kernel_rfl) rfl rfl (fun cs_ hcs_ => ?_))
  obtain rfl := hcs_
  refine XS.vals' 1 [(65, .agg #[.int .i64 0, .int .i64 2, .int .i64 0])] (by kernel_rfl) ?_
  refine XS.op_g rfl rfl rfl (XO.eqlP false (a := .agg #[.int .i64 ((⟨0, 2, 0⟩ : Pt).x), .int .i64 ((⟨0, 2, 0⟩ : Pt).y), .int .i64 ((⟨0, 2, 0⟩ : Pt).z)]) (b := .agg #[.int .i64 0, .int .i64 2, .int .i64 0]) (r' := decide (((⟨0, 2, 0⟩ : Pt).x) = 0 ∧ ((⟨0, 2, 0⟩ : Pt).y) = 2 ∧ ((⟨0, 2, 0⟩ : Pt).z) = 0)) (Eql.struct rfl (by kernel_rfl) (EqlF.cons rfl (a := .int .i64 ((⟨0, 2, 0⟩ : Pt).x)) (b := .int .i64 0) (by kernel_rfl) (by kernel_rfl) (Eql.int rfl) (EqlF.cons rfl (a := .int .i64 ((⟨0, 2, 0⟩ : Pt).y)) (b := .int .i64 2) (by kernel_rfl) (by kernel_rfl) (Eql.int rfl) (EqlF.cons rfl (a := .int .i64 ((⟨0, 2, 0⟩ : Pt).z)) (b := .int .i64 0) (by kernel_rfl) (by kernel_rfl) (Eql.int rfl) EqlF.nil)))) (by rw [Bool.eq_iff_iff]; simp [ng]) rfl rfl (by decide) rfl rfl (by kernel_rfl) (fun _ => by kernel_rfl) ?_)
  refine XS.vals' 2 [(67, .bool (decide (((⟨0, 2, 0⟩ : Pt).x) = 0 ∧ ((⟨0, 2, 0⟩ : Pt).y) = 2 ∧ ((⟨0, 2, 0⟩ : Pt).z) = 0))), (68, .bool (decide (((⟨0, 2, 0⟩ : Pt).x) = 0 ∧ ((⟨0, 2, 0⟩ : Pt).y) = 2 ∧ ((⟨0, 2, 0⟩ : Pt).z) = 0)))] (by kernel_rfl) ?_
  refine XS.onD 68 (((⟨0, 2, 0⟩ : Pt).x) = 0 ∧ ((⟨0, 2, 0⟩ : Pt).y) = 2 ∧ ((⟨0, 2, 0⟩ : Pt).z) = 0) rfl (fun _ => ?_) (fun h_ => absurd (by first | exact awk_cD | exact awk_D | decide) h_)
  refine XS.op_g rfl rfl rfl (XO.loadS (i := 0) (v := .agg #[.int .i64 2, .slice ap0_5 ((([(⟨0, 0, 0⟩ : Pt), (⟨0, 2, 0⟩ : Pt), (⟨2, 0, 0⟩ : Pt), (⟨2, 2, 0⟩ : Pt)])).length) cp0_6, .slice af0_7 (([([(⟨0, 0, 0⟩ : Pt), (⟨0, 2, 0⟩ : Pt), (⟨2, 2, 0⟩ : Pt), (⟨2, 0, 0⟩ : Pt)])]).length) cf0_8]) (g := true) (m := 3) s17 rfl rfl rfl (by decide) rfl (by kernel_rfl) (by kernel_rfl) rfl rfl rfl ?_)
  refine XS.op_g rfl rfl rfl (XO.callS (f := 13) (args := [(.agg #[.int .i64 2, .slice ap0_5 ((([(⟨0, 0, 0⟩ : Pt), (⟨0, 2, 0⟩ : Pt), (⟨2, 0, 0⟩ : Pt), (⟨2, 2, 0⟩ : Pt)])).length) cp0_6, .slice af0_7 (([([(⟨0, 0, 0⟩ : Pt), (⟨0, 2, 0⟩ : Pt), (⟨2, 2, 0⟩ : Pt), (⟨2, 0, 0⟩ : Pt)])]).length) cf0_8])].toArray) s17 rfl (by decide) (fun _ => by kernel_rfl) (clean_Check_flat_ok (av A _) _ s17.av_fresh 2 ([(⟨0, 0, 0⟩ : Pt), (⟨0, 2, 0⟩ : Pt), (⟨2, 0, 0⟩ : Pt), (⟨2, 2, 0⟩ : Pt)]) ap0_5 cp0_6 (hf9.mono (ev12.trans (ev13.trans (ev15.trans (ev16.trans ev17))))) ([([(⟨0, 0, 0⟩ : Pt), (⟨0, 2, 0⟩ : Pt), (⟨2, 2, 0⟩ : Pt), (⟨2, 0, 0⟩ : Pt)])]) af0_7 cf0_8 (hf10.mono (ev12.trans (ev13.trans (ev15.trans (ev16.trans ev17))))) (by first | exact awk_c0 | exact awkA_dim | exact awkA_k | exact awkA_2 | exact awkA_r | exact awk_c3 | exact awkB_dim | exact awkB_k | exact awkB_2 | exact awkB_r) (by first | exact awk_c0 | exact awkA_dim | exact awkA_k | exact awkA_2 | exact awkA_r | exact awk_c3 | exact awkB_dim | exact awkB_k | exact awkB_2 | exact awkB_r) (by first | exact awk_c0 | exact awkA_dim | exact awkA_k | exact awkA_2 | exact awkA_r | exact awk_c3 | exact awkB_dim | exact awkB_k | exact awkB_2 | exact awkB_r) (by first | exact awk_c0 | exact awkA_dim | exact awkA_k | exact awkA_2 | exact awkA_r | exact awk_c3 | exact awkB_dim | exact awkB_k | exact awkB_2 | exact awkB_r) (by first | exact awk_c0 | exact awkA_dim | exact awkA_k | exact awkA_2 | exact awkA_r | exact awk_c3 | exact awkB_dim | exact awkB_k | exact awkB_2 | exact awkB_r) [(⟨0, 0, 0⟩ : Pt), (⟨0, 2, 0⟩ : Pt), (⟨2, 2, 0⟩ : Pt), (⟨2, 0, 0⟩ : Pt)] [(⟨0, 0, 0⟩ : Pt), (⟨0, 2, 0⟩ : Pt), (⟨2, 0, 0⟩ : Pt), (⟨2, 2, 0⟩ : Pt)] awkB_F awk_s2) (fun _ w29 s29 ev29 kp29 hv_ => ?_))
  obtain rfl := hv_
  refine XS.vals' 3 [(71, .bool (decide ((if 2 = 2 ∧ ([(⟨0, 0, 0⟩ : Pt), (⟨0, 2, 0⟩ : Pt), (⟨2, 0, 0⟩ : Pt), (⟨2, 2, 0⟩ : Pt)]) = ([(⟨0, 0, 0⟩ : Pt), (⟨0, 2, 0⟩ : Pt), (⟨2, 0, 0⟩ : Pt), (⟨2, 2, 0⟩ : Pt)]) ∧ ([([(⟨0, 0, 0⟩ : Pt), (⟨0, 2, 0⟩ : Pt), (⟨2, 2, 0⟩ : Pt), (⟨2, 0, 0⟩ : Pt)])]) = [([(⟨0, 0, 0⟩ : Pt), (⟨0, 2, 0⟩ : Pt), (⟨2, 2, 0⟩ : Pt), (⟨2, 0, 0⟩ : Pt)])] then 0 else 170) = 0))), (72, .bool (decide ((if 2 = 2 ∧ ([(⟨0, 0, 0⟩ : Pt), (⟨0, 2, 0⟩ : Pt), (⟨2, 0, 0⟩ : Pt), (⟨2, 2, 0⟩ : Pt)]) = ([(⟨0, 0, 0⟩ : Pt), (⟨0, 2, 0⟩ : Pt), (⟨2, 0, 0⟩ : Pt), (⟨2, 2, 0⟩ : Pt)]) ∧ ([([(⟨0, 0, 0⟩ : Pt), (⟨0, 2, 0⟩ : Pt), (⟨2, 2, 0⟩ : Pt), (⟨2, 0, 0⟩ : Pt)])]) = [([(⟨0, 0, 0⟩ : Pt), (⟨0, 2, 0⟩ : Pt), (⟨2, 2, 0⟩ : Pt), (⟨2, 0, 0⟩ : Pt)])] then 0 else 170) = 0))), (73, .bool (decide ((if 2 = 2 ∧ ([(⟨0, 0, 0⟩ : Pt), (⟨0, 2, 0⟩ : Pt), (⟨2, 0, 0⟩ : Pt), (⟨2, 2, 0⟩ : Pt)]) = ([(⟨0, 0, 0⟩ : Pt), (⟨0, 2, 0⟩ : Pt), (⟨2, 0, 0⟩ : Pt), (⟨2, 2, 0⟩ : Pt)]) ∧ ([([(⟨0, 0, 0⟩ : Pt), (⟨0, 2, 0⟩ : Pt), (⟨2, 2, 0⟩ : Pt), (⟨2, 0, 0⟩ : Pt)])]) = [([(⟨0, 0, 0⟩ : Pt), (⟨0, 2, 0⟩ : Pt), (⟨2, 2, 0⟩ : Pt), (⟨2, 0, 0⟩ : Pt)])] then 0 else 170) = 0)))] (by kernel_rfl) ?_
  refine XS.onD 73 ((if 2 = 2 ∧ ([(⟨0, 0, 0⟩ : Pt), (⟨0, 2, 0⟩ : Pt), (⟨2, 0, 0⟩ : Pt), (⟨2, 2, 0⟩ : Pt)]) = ([(⟨0, 0, 0⟩ : Pt), (⟨0, 2, 0⟩ : Pt), (⟨2, 0, 0⟩ : Pt), (⟨2, 2, 0⟩ : Pt)]) ∧ ([([(⟨0, 0, 0⟩ : Pt), (⟨0, 2, 0⟩ : Pt), (⟨2, 2, 0⟩ : Pt), (⟨2, 0, 0⟩ : Pt)])]) = [([(⟨0, 0, 0⟩ : Pt), (⟨0, 2, 0⟩ : Pt), (⟨2, 2, 0⟩ : Pt), (⟨2, 0, 0⟩ : Pt)])] then 0 else 170) = 0) rfl (fun _ => ?_) (fun h_ => absurd (by first | exact awk_cD | exact awk_D | decide) h_)
  refine XS.vals' 2 [(74, .agg #[.int .i64 0, .int .i64 0, .int .i64 0]), (75, .agg #[.int .i64 0, .int .i64 0, .int .i64 1])] (by kernel_rfl) ?_
  refine XS.op_g rfl rfl rfl (XO.callS (f := 10) (args := [(.agg #[.int .i64 0, .int .i64 0, .int .i64 0]), (.agg #[.int .i64 0, .int .i64 0, .int .i64 1])].toArray) s29 rfl (by decide) (fun _ => by kernel_rfl) (clean_Less_ok (av A _) _ s29.av_fresh (⟨0, 0, 0⟩ : Pt) (⟨0, 0, 1⟩ : Pt) ) (fun _ w31 s31 ev31 kp31 hv_ => ?_))
  obtain rfl := hv_
  refine XS.vals' 2 [(77, .bool (ltP (⟨0, 0, 0⟩ : Pt) (⟨0, 0, 1⟩ : Pt))), (0, .bool (ltP (⟨0, 0, 0⟩ : Pt) (⟨0, 0, 1⟩ : Pt)))] (by kernel_rfl) ?_
  refine XS.done rfl (thn_norm ?_)
  refine XC.ret ?_
  refine ⟨Or.inr rfl, .bool (ltP (⟨0, 0, 0⟩ : Pt) (⟨0, 0, 1⟩ : Pt)), fun a_ ha_ => results_t rfl ha_ rfl, s31.keep, ?_⟩
  refine congrArg Value.bool ?_
  decide

end Go.Proofs.Tryz
namespace Go.Proofs.Tryz
open Go Go.X Go.RowKit Go.Sort
set_option maxRecDepth 100000
set_option maxHeartbeats 2000000
set_option linter.unusedVariables false
set_option linter.unusedSimpArgs false
theorem CleanSorts_long_ok (A : Nat → Prop) (w0 : World) (hA : ∀ b, w0.heap.size ≤ b → A b) (n_l : Nat) (a_l : Option Addr) (c_l : Nat) (a : Pt) (b : Pt) (hl : 600 < n_l)  : Cal Tryz.prog 3 [(.slice a_l n_l c_l), (.agg #[.int .i64 a.x, .int .i64 a.y, .int .i64 a.z]), (.agg #[.int .i64 b.x, .int .i64 b.y, .int .i64 b.z])].toArray w0 (fun v w' => Keep none_ w0 w' ∧ v = .bool true) := by
  have s0 : Stt A w0 none_ [] w0 := Stt.start hA none_
  refine Cal.intro (n := 53) Tryz.func3 rfl Tryz.ntmps3 rfl ?_
  refine XC.seq ?_
  refine XC.region ?_
  refine XS.op rfl rfl (XO.new (cs := [.int .i64 a.x, .int .i64 a.y, .int .i64 a.z]) (T := 24) s0 rfl (by decide) (fun _ => by kernel_rfl) (fun b1 w2 s2 ev2 kp2 ybb1 => ?_))
  refine XS.op rfl rfl (XO.new (cs := [.int .i64 b.x, .int .i64 b.y, .int .i64 b.z]) (T := 24) s2 rfl (by decide) (fun _ => by kernel_rfl) (fun b3 w4 s4 ev4 kp4 ybb3 => ?_))
  refine XS.vals' 1 [(6, .bool false)] (by kernel_rfl) ?_
  refine XS.done rfl (thn_norm ?_)
  refine XC.seq ?_
  refine XC.seq ?_
  obtain ⟨s5, ev5⟩ := Stt.norm s4 (S' := [cellsA b1 [.int .i64 a.x, .int .i64 a.y, .int .i64 a.z] 24, cellsA b3 [.int .i64 b.x, .int .i64 b.y, .int .i64 b.z] 24]) rfl
  refine XC.region ?_
  refine XS.vals' 3 [(11, .slice a_l n_l c_l), (12, .int .i64 (n_l : Int)), (13, .bool (decide ((n_l : Int) > 600)))] (by kernel_rfl) ?_
  refine XS.done rfl (thn_norm ?_)
  refine XC.cond_t (congrArg Value.bool (decide_eq_true (by omega))) ?_
  refine XC.seq ?_
  refine XC.region ?_
  refine XS.op rfl rfl (XO.callS (f := 4) (args := [].toArray) s5 rfl (by decide) (fun _ => by kernel_rfl) (carapacelaw15_awake_ok (av A _) _ s5.av_fresh  ) (fun _ w7 s7 ev7 kp7 hv_ => ?_))
  obtain rfl := hv_
  refine XS.vals' 1 [(6, .bool true)] (by kernel_rfl) ?_
  refine XS.done rfl (thn_norm ?_)
  refine XC.ret (thn_ret ?_)
  refine ⟨Or.inr rfl, .bool true, fun a_ ha_ => results_t rfl ha_ rfl, s7.keep, ?_⟩
  rfl

theorem CleanSorts_short_ok (A : Nat → Prop) (w0 : World) (hA : ∀ b, w0.heap.size ≤ b → A b) (l : List Pt) (a_l : Option Addr) (c_l : Nat) (h_l : Sl tPt A w0 (.slice a_l l.length c_l) l) (a : Pt) (b : Pt) (hl : l.length ≤ 600)  : Cal Tryz.prog 3 [(.slice a_l l.length c_l), (.agg #[.int .i64 a.x, .int .i64 a.y, .int .i64 a.z]), (.agg #[.int .i64 b.x, .int .i64 b.y, .int .i64 b.z])].toArray w0 (fun v w' => Keep none_ w0 w' ∧ v = .bool true) := by
  have s0 : Stt A w0 none_ [] w0 := Stt.start hA none_
  have h_l_ := h_l.mono Evo.start
  refine Cal.intro (n := 53) Tryz.func3 rfl Tryz.ntmps3 rfl ?_
  refine XC.seq ?_
  refine XC.region ?_
  refine XS.op rfl rfl (XO.new (cs := [.int .i64 a.x, .int .i64 a.y, .int .i64 a.z]) (T := 24) s0 rfl (by decide) (fun _ => by kernel_rfl) (fun b1 w2 s2 ev2 kp2 ybb1 => ?_))
  refine XS.op rfl rfl (XO.new (cs := [.int .i64 b.x, .int .i64 b.y, .int .i64 b.z]) (T := 24) s2 rfl (by decide) (fun _ => by kernel_rfl) (fun b3 w4 s4 ev4 kp4 ybb3 => ?_))
  refine XS.vals' 1 [(6, .bool false)] (by kernel_rfl) ?_
  refine XS.done rfl (thn_norm ?_)
  refine XC.seq ?_
  refine XC.seq ?_
  obtain ⟨s5, ev5⟩ := Stt.norm s4 (S' := [cellsA b1 [.int .i64 a.x, .int .i64 a.y, .int .i64 a.z] 24, cellsA b3 [.int .i64 b.x, .int .i64 b.y, .int .i64 b.z] 24]) rfl
  refine XC.region ?_
  refine XS.vals' 3 [(11, .slice a_l l.length c_l), (12, .int .i64 (l.length : Int)), (13, .bool (decide ((l.length : Int) > 600)))] (by kernel_rfl) ?_
  refine XS.done rfl (thn_norm ?_)
  refine XC.cond_f (congrArg Value.bool (decide_eq_false (by omega))) ?_
  refine XC.skip (thn_norm ?_)
  refine XC.seq ?_
  refine XC.region ?_
  refine XS.vals' 1 [(16, .slice a_l l.length c_l)] (by kernel_rfl) ?_
  refine XS.op rfl rfl (XO.callS (f := 5) (args := [(.slice a_l l.length c_l)].toArray) s5 rfl (by decide) (fun _ => by kernel_rfl) (clean_Dim_ok (av A _) _ s5.av_fresh l a_l c_l (h_l_.mono (ev2.trans (ev4.trans ev5))) ) (fun _ w7 s7 ev7 kp7 hv_ => ?_))
  obtain rfl := hv_
  refine XS.vals' 5 [(15, .tuple #[.int .i64 (dimE l), .int .i64 ((chk l).1)]), (18, .int .i64 (dimE l)), (19, .int .i64 ((chk l).1)), (7, .int .i64 (dimE l)), (8, .int .i64 ((chk l).1))] (by kernel_rfl) ?_
  refine XS.done rfl (thn_norm ?_)
  refine XC.seq ?_
  obtain ⟨s8, ev8⟩ := Stt.norm s7 (S' := [cellsA b1 [.int .i64 a.x, .int .i64 a.y, .int .i64 a.z] 24, cellsA b3 [.int .i64 b.x, .int .i64 b.y, .int .i64 b.z] 24]) rfl
  refine XC.region ?_
  refine XS.vals' 1 [(21, .slice a_l l.length c_l)] (by kernel_rfl) ?_
  refine XS.op rfl rfl (XO.callS (f := 6) (args := [(.slice a_l l.length c_l)].toArray) s8 rfl (by decide) (fun _ => by kernel_rfl) (carapaceref15_Dim_ok (av A _) _ s8.av_fresh l a_l c_l (h_l_.mono (ev2.trans (ev4.trans (ev5.trans (ev7.trans ev8))))) ) (fun _ w9 s9 ev9 kp9 hv_ => ?_))
  obtain rfl := hv_
  refine XS.vals' 5 [(20, .tuple #[.int .i64 (dimRE l), .int .i64 ((chk l).1)]), (23, .int .i64 (dimRE l)), (24, .int .i64 ((chk l).1)), (9, .int .i64 (dimRE l)), (10, .int .i64 ((chk l).1))] (by kernel_rfl) ?_
  refine XS.done rfl (thn_norm ?_)
  refine XC.seq ?_
  obtain ⟨s10, ev10⟩ := Stt.norm s9 (S' := [cellsA b1 [.int .i64 a.x, .int .i64 a.y, .int .i64 a.z] 24, cellsA b3 [.int .i64 b.x, .int .i64 b.y, .int .i64 b.z] 24]) rfl
  refine XC.drawS 29 rfl (fun _ => False) 29 (by kernel_rfl) s10 (fun w11 s11 ev11 kp11 hH12 => ?_)
  refine XA.valD 0 25 (.slice a_l l.length c_l) rfl (by kernel_rfl) (by kernel_rfl) (by kernel_rfl) rfl (by kernel_rfl) rfl hH12 (fun hH13 => ?_)
  refine XA.valD 2 27 (.slice a_l l.length c_l) rfl (by kernel_rfl) (by kernel_rfl) (by kernel_rfl) rfl (by kernel_rfl) rfl hH13 (fun hH14 => ?_)
  refine XA.op (i := 1) rfl (by kernel_rfl) (by kernel_rfl) (XO.callS (f := 8) (args := [(.slice a_l l.length c_l)].toArray) s11 rfl (by decide) (fun _ => by kernel_rfl) (clean_Sort_ok (av A _) _ s11.av_fresh l a_l c_l (h_l_.mono (ev2.trans (ev4.trans (ev5.trans (ev7.trans (ev8.trans (ev9.trans (ev10.trans ev11)))))))) (by omega)) (fun _ w15 s15 ev15 kp15 hv_ => ?_))
  obtain ⟨ra0_16, rc0_17, rfl, hf18⟩ := hv_
  have hH19 := hH14.keep (i := 1) kp15 rfl
  refine ⟨hH19, ?_⟩
  refine XA.op (i := 3) rfl (by kernel_rfl) (by kernel_rfl) (XO.callS (f := 9) (args := [(.slice a_l l.length c_l)].toArray) s15 rfl (by decide) (fun _ => by kernel_rfl) (carapaceref15_Sort_ok (av A _) _ s15.av_fresh l a_l c_l (h_l_.mono (ev2.trans (ev4.trans (ev5.trans (ev7.trans (ev8.trans (ev9.trans (ev10.trans (ev11.trans ev15))))))))) (by omega)) (fun _ w20 s20 ev20 kp20 hv_ => ?_))
  obtain ⟨ra0_21, rc0_22, rfl, hf23⟩ := hv_
  have hH24 := hH19.keep (i := 3) kp20 rfl
  refine ⟨hH24, ?_⟩
  refine XA.op (i := 4) rfl (by kernel_rfl) (by kernel_rfl) (XO.callS (f := 7) (args := [(.slice ra0_16 ((sortPts l).length) rc0_17), (.slice ra0_21 ((sortPts l).length) rc0_22)].toArray) s20 rfl (by decide) (fun _ => by kernel_rfl) (carapaceref15_Compare_ok (av A _) _ s20.av_fresh (sortPts l) ra0_16 rc0_17 (hf18.mono ev20) (sortPts l) ra0_21 rc0_22 hf23 ) (fun _ w25 s25 ev25 kp25 hv_ => ?_))
  obtain rfl := hv_
  have hH26 := hH24.keep (i := 4) kp25 rfl
  refine ⟨hH26, ?_⟩
  refine XA.valD 5 30 (.bool (decide ((cmpL (sortPts l) (sortPts l)) = 0))) rfl (by kernel_rfl) (by kernel_rfl) (by kernel_rfl) rfl (by kernel_rfl) rfl hH26 (fun hH27 => ?_)
  refine XA.valD 6 31 (.bool (decide ((cmpL (sortPts l) (sortPts l)) = 0))) rfl (by kernel_rfl) (by kernel_rfl) (by kernel_rfl) rfl (by kernel_rfl) rfl hH27 (fun hH28 => ?_)
  refine XA.onD 31 ((cmpL (sortPts l) (sortPts l)) = 0) rfl (fun _ => ?_) (fun h_ => absurd (cmpL_self _) h_)
  refine XA.loadS false (j := 7) (i := 0) (v := .agg #[.int .i64 a.x, .int .i64 a.y, .int .i64 a.z]) (g := true) (m := 3) s11 rfl rfl (by kernel_rfl) (by kernel_rfl) (by kernel_rfl) rfl (by kernel_rfl) (fun _ h => h) (by kernel_rfl) rfl rfl (by decide) hH28 rfl (by kernel_rfl) (by kernel_rfl) rfl rfl rfl (fun hH30 => ?_)
  refine XA.loadS false (j := 8) (i := 1) (v := .agg #[.int .i64 b.x, .int .i64 b.y, .int .i64 b.z]) (g := true) (m := 3) s11 rfl rfl (by kernel_rfl) (by kernel_rfl) (by kernel_rfl) rfl (by kernel_rfl) (fun _ h => h) (by kernel_rfl) rfl rfl (by decide) hH30 rfl (by kernel_rfl) (by kernel_rfl) rfl rfl rfl (fun hH31 => ?_)
  refine XA.loadS false (j := 10) (i := 0) (v := .agg #[.int .i64 a.x, .int .i64 a.y, .int .i64 a.z]) (g := true) (m := 3) s11 rfl rfl (by kernel_rfl) (by kernel_rfl) (by kernel_rfl) rfl (by kernel_rfl) (fun _ h => h) (by kernel_rfl) rfl rfl (by decide) hH31 rfl (by kernel_rfl) (by kernel_rfl) rfl rfl rfl (fun hH32 => ?_)
  refine XA.loadS false (j := 11) (i := 1) (v := .agg #[.int .i64 b.x, .int .i64 b.y, .int .i64 b.z]) (g := true) (m := 3) s11 rfl rfl (by kernel_rfl) (by kernel_rfl) (by kernel_rfl) rfl (by kernel_rfl) (fun _ h => h) (by kernel_rfl) rfl rfl (by decide) hH32 rfl (by kernel_rfl) (by kernel_rfl) rfl rfl rfl (fun hH33 => ?_)
  refine XA.op (i := 9) rfl (by kernel_rfl) (by kernel_rfl) (XO.callS (f := 10) (args := [(.agg #[.int .i64 a.x, .int .i64 a.y, .int .i64 a.z]), (.agg #[.int .i64 b.x, .int .i64 b.y, .int .i64 b.z])].toArray) s25 rfl (by decide) (fun _ => by kernel_rfl) (clean_Less_ok (av A _) _ s25.av_fresh a b ) (fun _ w34 s34 ev34 kp34 hv_ => ?_))
  obtain rfl := hv_
  have hH35 := hH33.keep (i := 9) kp34 rfl
  refine ⟨hH35, ?_⟩
  refine XA.op (i := 12) rfl (by kernel_rfl) (by kernel_rfl) (XO.callS (f := 11) (args := [(.agg #[.int .i64 a.x, .int .i64 a.y, .int .i64 a.z]), (.agg #[.int .i64 b.x, .int .i64 b.y, .int .i64 b.z])].toArray) s34 rfl (by decide) (fun _ => by kernel_rfl) (carapaceref15_Less_ok (av A _) _ s34.av_fresh a b ) (fun _ w36 s36 ev36 kp36 hv_ => ?_))
  obtain rfl := hv_
  have hH37 := hH35.keep (i := 12) kp36 rfl
  refine ⟨hH37, ?_⟩
  refine XA.op (i := 13) rfl (by kernel_rfl) (by kernel_rfl) (XO.eqlP false (a := .bool (ltP a b)) (b := .bool (ltP a b)) (r' := decide ((ltP a b) = (ltP a b))) (Eql.bool rfl) (by rw [Bool.eq_iff_iff]; simp [ng]) rfl rfl (by decide) rfl rfl (by kernel_rfl) (fun _ => by kernel_rfl) ?_)
  have hH38 := (Hold.set (i := 13) (by decide)).2 hH37
  refine ⟨hH38, ?_⟩
  refine XA.valD 14 39 (.bool (decide ((ltP a b) = (ltP a b)))) rfl (by kernel_rfl) (by kernel_rfl) (by kernel_rfl) rfl (by kernel_rfl) rfl hH38 (fun hH39 => ?_)
  refine XA.valD 15 40 (.bool (decide ((ltP a b) = (ltP a b)))) rfl (by kernel_rfl) (by kernel_rfl) (by kernel_rfl) rfl (by kernel_rfl) rfl hH39 (fun hH40 => ?_)
  refine XA.onD 40 ((ltP a b) = (ltP a b)) rfl (fun _ => ?_) (fun h_ => absurd rfl h_)
  refine XA.valD 16 41 (.int .i64 (dimE l)) rfl (by kernel_rfl) (by kernel_rfl) (by kernel_rfl) rfl (by kernel_rfl) rfl hH40 (fun hH42 => ?_)
  refine XA.valD 17 42 (.int .i64 (dimRE l)) rfl (by kernel_rfl) (by kernel_rfl) (by kernel_rfl) rfl (by kernel_rfl) rfl hH42 (fun hH43 => ?_)
  refine XA.valD 18 43 (.bool (decide ((dimE l) = (dimRE l)))) rfl (by kernel_rfl) (by kernel_rfl) (by kernel_rfl) rfl (by kernel_rfl) rfl hH43 (fun hH44 => ?_)
  refine XA.valD 19 44 (.bool (decide ((dimE l) = (dimRE l)))) rfl (by kernel_rfl) (by kernel_rfl) (by kernel_rfl) rfl (by kernel_rfl) rfl hH44 (fun hH45 => ?_)
  refine XA.valD 20 45 (.bool (decide ((dimE l) = (dimRE l)))) rfl (by kernel_rfl) (by kernel_rfl) (by kernel_rfl) rfl (by kernel_rfl) rfl hH45 (fun hH46 => ?_)
  refine XA.onD 45 ((dimE l) = (dimRE l)) rfl (fun _ => ?_) (fun h_ => absurd (dimE_same _) h_)
  refine XA.valD 21 46 (.int .i64 ((chk l).1)) rfl (by kernel_rfl) (by kernel_rfl) (by kernel_rfl) rfl (by kernel_rfl) rfl hH46 (fun hH48 => ?_)
  refine XA.valD 22 47 (.int .i64 ((chk l).1)) rfl (by kernel_rfl) (by kernel_rfl) (by kernel_rfl) rfl (by kernel_rfl) rfl hH48 (fun hH49 => ?_)
  refine XA.valD 23 48 (.bool (decide (((chk l).1) = ((chk l).1)))) rfl (by kernel_rfl) (by kernel_rfl) (by kernel_rfl) rfl (by kernel_rfl) rfl hH49 (fun hH50 => ?_)
  refine XA.valD 24 49 (.bool (decide (((chk l).1) = ((chk l).1)))) rfl (by kernel_rfl) (by kernel_rfl) (by kernel_rfl) rfl (by kernel_rfl) rfl hH50 (fun hH51 => ?_)
  refine XA.valD 25 50 (.bool (decide (((chk l).1) = ((chk l).1)))) rfl (by kernel_rfl) (by kernel_rfl) (by kernel_rfl) rfl (by kernel_rfl) rfl hH51 (fun hH52 => ?_)
  refine XA.onD 50 (((chk l).1) = ((chk l).1)) rfl (fun _ => ?_) (fun h_ => absurd rfl h_)
  refine XA.op (i := 26) rfl (by kernel_rfl) (by kernel_rfl) (XO.callS (f := 4) (args := [].toArray) s36 rfl (by decide) (fun _ => by kernel_rfl) (carapacelaw15_awake_ok (av A _) _ s36.av_fresh  ) (fun _ w54 s54 ev54 kp54 hv_ => ?_))
  obtain rfl := hv_
  have hH55 := hH52.keep (i := 26) kp54 rfl
  refine ⟨hH55, ?_⟩
  refine XA.valD 27 52 (.bool true) rfl (by kernel_rfl) (by kernel_rfl) (by kernel_rfl) rfl (by kernel_rfl) rfl hH55 (fun hH56 => ?_)
  refine XA.valD 28 6 (.bool true) rfl (by kernel_rfl) (by kernel_rfl) (by kernel_rfl) rfl (by kernel_rfl) rfl hH56 (fun hH57 => ?_)
  refine XA.done (by kernel_rfl) (thn_norm ?_)
  refine XC.ret ?_
  refine ⟨Or.inr rfl, .bool true, fun a_ ha_ => results_t rfl ha_ rfl, s54.keep, ?_⟩
  rfl

end Go.Proofs.Tryz
