/- Contracts of functions of the program. -/
import Derived.Test.YtlmflbcfbhppaaaGreatT3
import Derived.Test.YtlmflbcfbhppaaaGreatProg
set_option linter.all false
set_option linter.unusedVariables false
set_option linter.unusedSimpArgs false
set_option linter.unusedSectionVars false
namespace Go.Proofs.Tryz
open Go Go.X Go.RowKit Go.Sort
set_option maxRecDepth 100000
set_option linter.unusedVariables false
theorem carapaceref15_has_ok (A : Nat → Prop) (w0 : World) (hA : ∀ b, w0.heap.size ≤ b → A b) (l : List Pt) (a_l : Option Addr) (c_l : Nat) (h_l : Sl tPt A w0 (.slice a_l l.length c_l) l) (p : Pt)  : Cal Tryz.prog 22 [(.slice a_l l.length c_l), (.agg #[.int .i64 p.x, .int .i64 p.y, .int .i64 p.z])].toArray w0 (fun v w' => Keep none_ w0 w' ∧ v = .bool (decide (p ∈ l))) := by
  have s0 : Stt A w0 none_ [] w0 := Stt.start hA none_
  have h_l_ := h_l.mono Evo.start
  refine Cal.intro (n := 18) Tryz.func22 rfl Tryz.ntmps22 rfl ?_
  refine XC.seq ?_
  refine XC.region ?_
  refine XS.op rfl rfl (XO.new (cs := [.int .i64 p.x, .int .i64 p.y, .int .i64 p.z]) (T := 24) s0 rfl (by decide) (fun _ => by kernel_rfl) (fun b1 w2 s2 ev2 kp2 ybb1 => ?_))
  refine XS.vals' 1 [(4, .bool false)] (by kernel_rfl) ?_
  refine XS.done rfl (thn_norm ?_)
  refine XC.seq ?_
  refine XC.seq ?_
  refine XC.region ?_
  refine XS.vals' 1 [(5, .int .i64 0)] (by kernel_rfl) ?_
  refine XS.done rfl (thn_norm ?_)
  refine XC.block ?_
  refine XC.loop (fun ρ_ w_ m_ => ∃ (i : Nat), Has ρ_ [(0, .slice a_l l.length c_l), (3, .pointer (some ⟨b1, 0, none⟩)), (4, .bool false), (5, .int .i64 (i : Int))] ∧ Stt A w0 none_ [cellsA b1 [.int .i64 p.x, .int .i64 p.y, .int .i64 p.z] 24] w_ ∧ Evo (av A [cellsA b1 [.int .i64 p.x, .int .i64 p.y, .int .i64 p.z] 24]) w2 (av A [cellsA b1 [.int .i64 p.x, .int .i64 p.y, .int .i64 p.z] 24]) w_ ∧ (i ≤ l.length) ∧ (∀ y ∈ l.take i, y ≠ p) ∧ m_ = l.length - i) (l.length - 0) ?_ ?_
  · skip
    exact ⟨0, ⟨rfl, rfl, rfl, (congrArg (Value.int .i64) (by first | rfl | omega : (0 : Int) = _)), trivial⟩, s2, Evo.refl _ _, (by omega), (by simp), rfl⟩
  rintro _ ρw3 w3 ⟨i, hh3, s3, ev3, hi, hall, rfl⟩
  refine XC.rebase hh3 ?_
  refine XC.seq ?_
  refine XC.seq ?_
  refine XC.region ?_
  refine XS.vals' 4 [(6, .int .i64 (i : Int)), (7, .slice a_l l.length c_l), (8, .int .i64 (l.length : Int)), (9, .bool (decide ((i : Int) < (l.length : Int))))] (by kernel_rfl) ?_
  refine XS.done rfl (thn_norm ?_)
  refine XC.cond_d ((i : Int) < (l.length : Int)) rfl (fun hc4 => ?_) (fun hc4 => ?_)
  · skip
    refine XC.skip (thn_norm ?_)
    refine XC.seq ?_
    refine XC.block ?_
    refine XC.seq ?_
    refine XC.drawS 6 rfl (fun _ => False) 6 (by kernel_rfl) s3 (fun w5 s5 ev5 kp5 hH6 => ?_)
    refine XA.valD 0 12 (.slice a_l l.length c_l) rfl (by kernel_rfl) (by kernel_rfl) (by kernel_rfl) rfl (by kernel_rfl) rfl hH6 (fun hH7 => ?_)
    refine XA.valD 1 13 (.int .i64 (i : Int)) rfl (by kernel_rfl) (by kernel_rfl) (by kernel_rfl) rfl (by kernel_rfl) rfl hH7 (fun hH8 => ?_)
    obtain ⟨z10, hz10⟩ := get_some (xs := l) (i := i) (by (have hm_ := h_l_.elim; obtain ⟨_, _, _, _, hm_⟩ := hm_; omega))
    refine XA.elemD (p := 2) (i := i) (z := z10) (e := 24) (sz := 3) (h_l_.mono (ev2.trans (ev3.trans ev5))) hz10 rfl (by kernel_rfl) (by kernel_rfl) (by kernel_rfl) rfl (by kernel_rfl) rfl rfl (by decide) rfl rfl (by omega) (by kernel_rfl) (by kernel_rfl) hH8 (fun hH9 => ?_)
    refine XA.loadD (p := 3) (i := i) (f := 0) (sz := 3) (g := true) (z := z10) (h_l_.mono (ev2.trans (ev3.trans ev5))) hz10 (fun _ _ h => h) rfl (by kernel_rfl) (by kernel_rfl) (by kernel_rfl) rfl (by kernel_rfl) rfl rfl (by decide) hH9 rfl (by first | rfl | omega) (by kernel_rfl) (by kernel_rfl) rfl rfl rfl (fun cs_ hcs_ hH11 => ?_)
    obtain rfl := hcs_
    refine XA.loadS false (j := 4) (i := 0) (v := .agg #[.int .i64 p.x, .int .i64 p.y, .int .i64 p.z]) (g := true) (m := 3) s5 rfl rfl (by kernel_rfl) (by kernel_rfl) (by kernel_rfl) rfl (by kernel_rfl) (fun _ h => h) (by kernel_rfl) rfl rfl (by decide) hH11 rfl (by kernel_rfl) (by kernel_rfl) rfl rfl rfl (fun hH12 => ?_)
    refine XA.op (i := 5) rfl (by kernel_rfl) (by kernel_rfl) (XO.eqlP false (a := .agg #[.int .i64 z10.x, .int .i64 z10.y, .int .i64 z10.z]) (b := .agg #[.int .i64 p.x, .int .i64 p.y, .int .i64 p.z]) (r' := decide (z10.x = p.x ∧ z10.y = p.y ∧ z10.z = p.z)) (Eql.struct rfl (by kernel_rfl) (EqlF.cons rfl (a := .int .i64 z10.x) (b := .int .i64 p.x) (by kernel_rfl) (by kernel_rfl) (Eql.int rfl) (EqlF.cons rfl (a := .int .i64 z10.y) (b := .int .i64 p.y) (by kernel_rfl) (by kernel_rfl) (Eql.int rfl) (EqlF.cons rfl (a := .int .i64 z10.z) (b := .int .i64 p.z) (by kernel_rfl) (by kernel_rfl) (Eql.int rfl) EqlF.nil)))) (by rw [Bool.eq_iff_iff]; simp [ng]) rfl rfl (by decide) rfl rfl (by kernel_rfl) (fun _ => by kernel_rfl) ?_)
    have hH13 := (Hold.set (i := 5) (by decide)).2 hH12
    refine ⟨hH13, ?_⟩
    refine XA.done (by kernel_rfl) (thn_norm ?_)
    refine XC.cond_d (z10.x = p.x ∧ z10.y = p.y ∧ z10.z = p.z) rfl (fun hc14 => ?_) (fun hc14 => ?_)
    · skip
      refine XC.seq ?_
      refine XC.region ?_
      refine XS.vals' 1 [(4, .bool true)] (by kernel_rfl) ?_
      refine XS.done rfl (thn_norm ?_)
      refine XC.ret (inBlk_ret (thn_ret (thn_ret (inBlk_ret (thn_ret ?_)))))
      refine ⟨Or.inr rfl, .bool true, fun a_ ha_ => results_t rfl ha_ rfl, s5.keep, ?_⟩
      refine congrArg Value.bool ?_
      symm; rw [decide_eq_true_eq]
      rw [← (Pt.eq_iff _ _).2 hc14]
      exact List.mem_of_getElem? hz10
    · skip
      refine XC.skip (inBlk_norm (thn_norm ?_))
      refine XC.region ?_
      refine XS.vals' 1 [(10, .int .i64 (i : Int))] (by kernel_rfl) ?_
      refine XS.op rfl rfl (XO.arith (k := .i64) (r := (i : Int) + 1) rfl (by decide) (fun _ => by kernel_rfl) (wrap_i64 (by (have hm_ := h_l_.elim; obtain ⟨_, _, _, _, hm_⟩ := hm_; omega))) ?_)
      refine XS.vals' 1 [(5, .int .i64 ((i : Int) + 1))] (by kernel_rfl) ?_
      refine XS.done rfl (thn_norm ?_)
      refine ⟨l.length - (i + 1), ?_, ?_⟩
      · omega
      exact ⟨i + 1, ⟨rfl, rfl, rfl, (congrArg (Value.int .i64) (by first | rfl | omega : ((i : Int) + 1 : Int) = _)), trivial⟩, s5, (ev3.trans ev5), (by omega), (take_succ_all hz10 (by rw [Ne, Pt.eq_iff]; exact hc14) hall), rfl⟩
  · skip
    refine XC.exit (thn_exit (thn_exit (inBlk_hit (thn_norm ?_))))
    refine XC.seq ?_
    refine XC.region ?_
    refine XS.vals' 1 [(4, .bool false)] (by kernel_rfl) ?_
    refine XS.done rfl (thn_norm ?_)
    refine XC.ret ?_
    refine ⟨Or.inr rfl, .bool false, fun a_ ha_ => results_t rfl ha_ rfl, s3.keep, ?_⟩
    refine congrArg Value.bool ?_
    symm; rw [decide_eq_false_iff_not]
    intro hm_
    exact hall p (by rw [List.take_of_length_le (by omega)]; exact hm_) rfl

end Go.Proofs.Tryz
namespace Go.Proofs.Tryz
open Go Go.X Go.RowKit Go.Sort
set_option maxRecDepth 100000
set_option linter.unusedVariables false
theorem carapaceref15_Compare_ok (A : Nat → Prop) (w0 : World) (hA : ∀ b, w0.heap.size ≤ b → A b) (l : List Pt) (a_l : Option Addr) (c_l : Nat) (h_l : Sl tPt A w0 (.slice a_l l.length c_l) l) (m : List Pt) (a_m : Option Addr) (c_m : Nat) (h_m : Sl tPt A w0 (.slice a_m m.length c_m) m)  : Cal Tryz.prog 7 [(.slice a_l l.length c_l), (.slice a_m m.length c_m)].toArray w0 (fun v w' => Keep none_ w0 w' ∧ v = .int .i64 (cmpL l m)) := by
  have s0 : Stt A w0 none_ [] w0 := Stt.start hA none_
  have h_l_ := h_l.mono Evo.start
  have h_m_ := h_m.mono Evo.start
  refine Cal.intro (n := 48) Tryz.func7 rfl Tryz.ntmps7 rfl ?_
  refine XC.seq ?_
  refine XC.region ?_
  refine XS.vals' 1 [(4, .int .i64 0)] (by kernel_rfl) ?_
  refine XS.done rfl (thn_norm ?_)
  refine XC.seq ?_
  refine XC.seq ?_
  refine XC.region ?_
  refine XS.vals' 1 [(5, .int .i64 0)] (by kernel_rfl) ?_
  refine XS.done rfl (thn_norm ?_)
  refine XC.block ?_
  refine XC.loop (fun ρ_ w_ m_ => ∃ (i : Nat), Has ρ_ [(0, .slice a_l l.length c_l), (1, .slice a_m m.length c_m), (4, .int .i64 0), (5, .int .i64 (i : Int))] ∧ Stt A w0 none_ [] w_ ∧ Evo (av A []) w0 (av A []) w_ ∧ (i ≤ l.length) ∧ (i ≤ m.length) ∧ (cmpL (l.drop i) (m.drop i) = cmpL l m) ∧ m_ = l.length - i) (l.length - 0) ?_ ?_
  · skip
    exact ⟨0, ⟨rfl, rfl, rfl, (congrArg (Value.int .i64) (by first | rfl | omega : (0 : Int) = _)), trivial⟩, s0, Evo.refl _ _, (by omega), (by omega), (by simp), rfl⟩
  rintro _ ρw1 w1 ⟨i, hh1, s1, ev1, hi, him, hI, rfl⟩
  refine XC.rebase hh1 ?_
  refine XC.seq ?_
  refine XC.seq ?_
  refine XC.region ?_
  refine XS.vals' 5 [(6, .int .i64 (i : Int)), (7, .slice a_l l.length c_l), (8, .int .i64 (l.length : Int)), (9, .bool (decide ((i : Int) < (l.length : Int)))), (10, .bool (decide ((i : Int) < (l.length : Int))))] (by kernel_rfl) ?_
  refine XS.onD 10 ((i : Int) < (l.length : Int)) rfl (fun hg2 => ?_) (fun hg2 => ?_)
  · skip
    refine XS.vals' 5 [(11, .int .i64 (i : Int)), (12, .slice a_m m.length c_m), (13, .int .i64 (m.length : Int)), (14, .bool (decide ((i : Int) < (m.length : Int)))), (15, .bool (decide ((i : Int) < (m.length : Int))))] (by kernel_rfl) ?_
    refine XS.done rfl (thn_norm ?_)
    refine XC.cond_d ((i : Int) < (m.length : Int)) rfl (fun hc3 => ?_) (fun hc3 => ?_)
    · skip
      refine XC.skip (thn_norm ?_)
      refine XC.seq ?_
      refine XC.block ?_
      refine XC.seq ?_
      refine XC.seq ?_
      refine XC.drawS 9 rfl (fun _ => False) 9 (by kernel_rfl) s1 (fun w4 s4 ev4 kp4 hH5 => ?_)
      refine XA.valD 0 18 (.slice a_l l.length c_l) rfl (by kernel_rfl) (by kernel_rfl) (by kernel_rfl) rfl (by kernel_rfl) rfl hH5 (fun hH6 => ?_)
      refine XA.valD 1 19 (.int .i64 (i : Int)) rfl (by kernel_rfl) (by kernel_rfl) (by kernel_rfl) rfl (by kernel_rfl) rfl hH6 (fun hH7 => ?_)
      obtain ⟨z9, hz9⟩ := get_some (xs := l) (i := i) (by (have h1_ := h_l_.elim; have h2_ := h_m_.elim; obtain ⟨_, _, _, _, h1_⟩ := h1_; obtain ⟨_, _, _, _, h2_⟩ := h2_; omega))
      refine XA.elemD (p := 2) (i := i) (z := z9) (e := 24) (sz := 3) (h_l_.mono (ev1.trans ev4)) hz9 rfl (by kernel_rfl) (by kernel_rfl) (by kernel_rfl) rfl (by kernel_rfl) rfl rfl (by decide) rfl rfl (by omega) (by kernel_rfl) (by kernel_rfl) hH7 (fun hH8 => ?_)
      refine XA.loadD (p := 3) (i := i) (f := 0) (sz := 3) (g := true) (z := z9) (h_l_.mono (ev1.trans ev4)) hz9 (fun _ _ h => h) rfl (by kernel_rfl) (by kernel_rfl) (by kernel_rfl) rfl (by kernel_rfl) rfl rfl (by decide) hH8 rfl (by first | rfl | omega) (by kernel_rfl) (by kernel_rfl) rfl rfl rfl (fun cs_ hcs_ hH10 => ?_)
      obtain rfl := hcs_
      refine XA.valD 4 22 (.slice a_m m.length c_m) rfl (by kernel_rfl) (by kernel_rfl) (by kernel_rfl) rfl (by kernel_rfl) rfl hH10 (fun hH11 => ?_)
      refine XA.valD 5 23 (.int .i64 (i : Int)) rfl (by kernel_rfl) (by kernel_rfl) (by kernel_rfl) rfl (by kernel_rfl) rfl hH11 (fun hH12 => ?_)
      obtain ⟨z14, hz14⟩ := get_some (xs := m) (i := i) (by (have h1_ := h_l_.elim; have h2_ := h_m_.elim; obtain ⟨_, _, _, _, h1_⟩ := h1_; obtain ⟨_, _, _, _, h2_⟩ := h2_; omega))
      refine XA.elemD (p := 6) (i := i) (z := z14) (e := 24) (sz := 3) (h_m_.mono (ev1.trans ev4)) hz14 rfl (by kernel_rfl) (by kernel_rfl) (by kernel_rfl) rfl (by kernel_rfl) rfl rfl (by decide) rfl rfl (by omega) (by kernel_rfl) (by kernel_rfl) hH12 (fun hH13 => ?_)
      refine XA.loadD (p := 7) (i := i) (f := 0) (sz := 3) (g := true) (z := z14) (h_m_.mono (ev1.trans ev4)) hz14 (fun _ _ h => h) rfl (by kernel_rfl) (by kernel_rfl) (by kernel_rfl) rfl (by kernel_rfl) rfl rfl (by decide) hH13 rfl (by first | rfl | omega) (by kernel_rfl) (by kernel_rfl) rfl rfl rfl (fun cs_ hcs_ hH15 => ?_)
      obtain rfl := hcs_
      refine XA.op (i := 8) rfl (by kernel_rfl) (by kernel_rfl) (XO.callS (f := 11) (args := [(.agg #[.int .i64 z9.x, .int .i64 z9.y, .int .i64 z9.z]), (.agg #[.int .i64 z14.x, .int .i64 z14.y, .int .i64 z14.z])].toArray) s4 rfl (by decide) (fun _ => by kernel_rfl) (carapaceref15_Less_ok (av A _) _ s4.av_fresh z9 z14 ) (fun _ w16 s16 ev16 kp16 hv_ => ?_))
      obtain rfl := hv_
      have hH17 := hH15.keep (i := 8) kp16 rfl
      refine ⟨hH17, ?_⟩
      refine XA.done (by kernel_rfl) (thn_norm ?_)
      refine XC.cond (ltP z9 z14) rfl (fun hc18 => ?_) (fun hc18 => ?_)
      · skip
        refine XC.seq ?_
        refine XC.region ?_
        refine XS.vals' 1 [(4, .int .i64 (-1))] (by kernel_rfl) ?_
        refine XS.done rfl (thn_norm ?_)
        refine XC.ret (thn_ret (inBlk_ret (thn_ret (thn_ret (inBlk_ret (thn_ret ?_))))))
        refine ⟨Or.inr rfl, .int .i64 (-1), fun a_ ha_ => results_t rfl ha_ rfl, s16.keep, ?_⟩
        rw [← hI, cmpL_lt hz9 hz14 hc18]
      · skip
        refine XC.skip (thn_norm ?_)
        refine XC.seq ?_
        refine XC.drawS 9 rfl (fun _ => False) 9 (by kernel_rfl) s16 (fun w19 s19 ev19 kp19 hH20 => ?_)
        refine XA.valD 0 27 (.slice a_m m.length c_m) rfl (by kernel_rfl) (by kernel_rfl) (by kernel_rfl) rfl (by kernel_rfl) rfl hH20 (fun hH21 => ?_)
        refine XA.valD 1 28 (.int .i64 (i : Int)) rfl (by kernel_rfl) (by kernel_rfl) (by kernel_rfl) rfl (by kernel_rfl) rfl hH21 (fun hH22 => ?_)
        obtain ⟨z24, hz24⟩ := get_some (xs := m) (i := i) (by (have h1_ := h_l_.elim; have h2_ := h_m_.elim; obtain ⟨_, _, _, _, h1_⟩ := h1_; obtain ⟨_, _, _, _, h2_⟩ := h2_; omega))
        refine XA.elemD (p := 2) (i := i) (z := z24) (e := 24) (sz := 3) (h_m_.mono (ev1.trans (ev4.trans (ev16.trans ev19)))) hz24 rfl (by kernel_rfl) (by kernel_rfl) (by kernel_rfl) rfl (by kernel_rfl) rfl rfl (by decide) rfl rfl (by omega) (by kernel_rfl) (by kernel_rfl) hH22 (fun hH23 => ?_)
        refine XA.loadD (p := 3) (i := i) (f := 0) (sz := 3) (g := true) (z := z24) (h_m_.mono (ev1.trans (ev4.trans (ev16.trans ev19)))) hz24 (fun _ _ h => h) rfl (by kernel_rfl) (by kernel_rfl) (by kernel_rfl) rfl (by kernel_rfl) rfl rfl (by decide) hH23 rfl (by first | rfl | omega) (by kernel_rfl) (by kernel_rfl) rfl rfl rfl (fun cs_ hcs_ hH25 => ?_)
        obtain rfl := hcs_
        refine XA.valD 4 31 (.slice a_l l.length c_l) rfl (by kernel_rfl) (by kernel_rfl) (by kernel_rfl) rfl (by kernel_rfl) rfl hH25 (fun hH26 => ?_)
        refine XA.valD 5 32 (.int .i64 (i : Int)) rfl (by kernel_rfl) (by kernel_rfl) (by kernel_rfl) rfl (by kernel_rfl) rfl hH26 (fun hH27 => ?_)
        obtain ⟨z29, hz29⟩ := get_some (xs := l) (i := i) (by (have h1_ := h_l_.elim; have h2_ := h_m_.elim; obtain ⟨_, _, _, _, h1_⟩ := h1_; obtain ⟨_, _, _, _, h2_⟩ := h2_; omega))
        refine XA.elemD (p := 6) (i := i) (z := z29) (e := 24) (sz := 3) (h_l_.mono (ev1.trans (ev4.trans (ev16.trans ev19)))) hz29 rfl (by kernel_rfl) (by kernel_rfl) (by kernel_rfl) rfl (by kernel_rfl) rfl rfl (by decide) rfl rfl (by omega) (by kernel_rfl) (by kernel_rfl) hH27 (fun hH28 => ?_)
        refine XA.loadD (p := 7) (i := i) (f := 0) (sz := 3) (g := true) (z := z29) (h_l_.mono (ev1.trans (ev4.trans (ev16.trans ev19)))) hz29 (fun _ _ h => h) rfl (by kernel_rfl) (by kernel_rfl) (by kernel_rfl) rfl (by kernel_rfl) rfl rfl (by decide) hH28 rfl (by first | rfl | omega) (by kernel_rfl) (by kernel_rfl) rfl rfl rfl (fun cs_ hcs_ hH30 => ?_)
        obtain rfl := hcs_
        refine XA.op (i := 8) rfl (by kernel_rfl) (by kernel_rfl) (XO.callS (f := 11) (args := [(.agg #[.int .i64 z24.x, .int .i64 z24.y, .int .i64 z24.z]), (.agg #[.int .i64 z29.x, .int .i64 z29.y, .int .i64 z29.z])].toArray) s19 rfl (by decide) (fun _ => by kernel_rfl) (carapaceref15_Less_ok (av A _) _ s19.av_fresh z24 z29 ) (fun _ w31 s31 ev31 kp31 hv_ => ?_))
        obtain rfl := hv_
        have hH32 := hH30.keep (i := 8) kp31 rfl
        refine ⟨hH32, ?_⟩
        refine XA.done (by kernel_rfl) (thn_norm ?_)
        refine XC.cond (ltP z24 z29) rfl (fun hc33 => ?_) (fun hc33 => ?_)
        · skip
          refine XC.seq ?_
          refine XC.region ?_
          refine XS.vals' 1 [(4, .int .i64 1)] (by kernel_rfl) ?_
          refine XS.done rfl (thn_norm ?_)
          refine XC.ret (inBlk_ret (thn_ret (thn_ret (inBlk_ret (thn_ret ?_)))))
          refine ⟨Or.inr rfl, .int .i64 1, fun a_ ha_ => results_t rfl ha_ rfl, s31.keep, ?_⟩
          have e3 := Option.some.inj (hz14.symm.trans hz24)
          have e4 := Option.some.inj (hz9.symm.trans hz29)
          have hb_ := hc33
          rw [← e3, ← e4] at hb_
          rw [← hI, cmpL_gt hz9 hz14 hc18 hb_]
        · skip
          refine XC.skip (inBlk_norm (thn_norm ?_))
          refine XC.region ?_
          refine XS.vals' 1 [(16, .int .i64 (i : Int))] (by kernel_rfl) ?_
          refine XS.op rfl rfl (XO.arith (k := .i64) (r := (i : Int) + 1) rfl (by decide) (fun _ => by kernel_rfl) (wrap_i64 (by (have h1_ := h_l_.elim; have h2_ := h_m_.elim; obtain ⟨_, _, _, _, h1_⟩ := h1_; obtain ⟨_, _, _, _, h2_⟩ := h2_; omega))) ?_)
          refine XS.vals' 1 [(5, .int .i64 ((i : Int) + 1))] (by kernel_rfl) ?_
          refine XS.done rfl (thn_norm ?_)
          refine ⟨l.length - (i + 1), ?_, ?_⟩
          · omega
          exact ⟨i + 1, ⟨rfl, rfl, rfl, (congrArg (Value.int .i64) (by first | rfl | omega : ((i : Int) + 1 : Int) = _)), trivial⟩, s31, (ev1.trans (ev4.trans (ev16.trans (ev19.trans ev31)))), (by omega), (by omega), ((by have e3 := Option.some.inj (hz14.symm.trans hz24); have e4 := Option.some.inj (hz9.symm.trans hz29); have ha_ := hc18; have hb_ := hc33; rw [← e3, ← e4] at hb_; exact (cmpL_go hz9 hz14 ha_ hb_).trans hI)), rfl⟩
    · skip
      refine XC.exit (thn_exit (thn_exit (inBlk_hit (thn_norm ?_))))
      refine XC.seq ?_
      refine XC.block ?_
      refine XC.seq ?_
      refine XC.region ?_
      refine XS.vals' 6 [(37, .slice a_l l.length c_l), (38, .int .i64 (l.length : Int)), (39, .slice a_m m.length c_m), (40, .int .i64 (m.length : Int)), (41, .bool (decide ((l.length : Int) < (m.length : Int)))), (36, .bool (decide ((l.length : Int) < (m.length : Int))))] (by kernel_rfl) ?_
      refine XS.done rfl (thn_norm ?_)
      refine XC.cond_d ((l.length : Int) < (m.length : Int)) rfl (fun hc34 => ?_) (fun hc34 => ?_)
      · skip
        refine XC.seq ?_
        refine XC.region ?_
        refine XS.vals' 1 [(4, .int .i64 (-1))] (by kernel_rfl) ?_
        refine XS.done rfl (thn_norm ?_)
        refine XC.ret (inBlk_ret (thn_ret ?_))
        refine ⟨Or.inr rfl, .int .i64 (-1), fun a_ ha_ => results_t rfl ha_ rfl, s1.keep, ?_⟩
        rw [← hI]
        refine congrArg (Value.int .i64) ?_
        symm
        exact cmpL_end (by omega) (by first | (left; exact ⟨rfl, by omega, by omega⟩) | (right; left; exact ⟨rfl, by omega, by omega⟩) | (right; right; exact ⟨rfl, by omega, by omega⟩))
      · skip
        refine XC.seq ?_
        refine XC.region ?_
        refine XS.vals' 6 [(43, .slice a_l l.length c_l), (44, .int .i64 (l.length : Int)), (45, .slice a_m m.length c_m), (46, .int .i64 (m.length : Int)), (47, .bool (decide ((l.length : Int) > (m.length : Int)))), (42, .bool (decide ((l.length : Int) > (m.length : Int))))] (by kernel_rfl) ?_
        refine XS.done rfl (thn_norm ?_)
        refine XC.cond_d ((l.length : Int) > (m.length : Int)) rfl (fun hc35 => ?_) (fun hc35 => ?_)
        · skip
          refine XC.seq ?_
          refine XC.region ?_
          refine XS.vals' 1 [(4, .int .i64 1)] (by kernel_rfl) ?_
          refine XS.done rfl (thn_norm ?_)
          refine XC.ret (inBlk_ret (thn_ret ?_))
          refine ⟨Or.inr rfl, .int .i64 1, fun a_ ha_ => results_t rfl ha_ rfl, s1.keep, ?_⟩
          rw [← hI]
          refine congrArg (Value.int .i64) ?_
          symm
          exact cmpL_end (by omega) (by first | (left; exact ⟨rfl, by omega, by omega⟩) | (right; left; exact ⟨rfl, by omega, by omega⟩) | (right; right; exact ⟨rfl, by omega, by omega⟩))
        · skip
          refine XC.skip (inBlk_norm (thn_norm ?_))
          refine XC.seq ?_
          refine XC.region ?_
          refine XS.vals' 1 [(4, .int .i64 0)] (by kernel_rfl) ?_
          refine XS.done rfl (thn_norm ?_)
          refine XC.ret ?_
          refine ⟨Or.inr rfl, .int .i64 0, fun a_ ha_ => results_t rfl ha_ rfl, s1.keep, ?_⟩
          rw [← hI]
          refine congrArg (Value.int .i64) ?_
          symm
          exact cmpL_end (by omega) (by first | (left; exact ⟨rfl, by omega, by omega⟩) | (right; left; exact ⟨rfl, by omega, by omega⟩) | (right; right; exact ⟨rfl, by omega, by omega⟩))
  · skip
    refine XS.vals' 5 [(11, undef), (12, undef), (13, undef), (14, undef), (15, .bool false)] (by kernel_rfl) ?_
    refine XS.done rfl (thn_norm ?_)
    refine XC.cond_f rfl ?_
    refine XC.exit (thn_exit (thn_exit (inBlk_hit (thn_norm ?_))))
    refine XC.seq ?_
    refine XC.block ?_
    refine XC.seq ?_
    refine XC.region ?_
    refine XS.vals' 6 [(37, .slice a_l l.length c_l), (38, .int .i64 (l.length : Int)), (39, .slice a_m m.length c_m), (40, .int .i64 (m.length : Int)), (41, .bool (decide ((l.length : Int) < (m.length : Int)))), (36, .bool (decide ((l.length : Int) < (m.length : Int))))] (by kernel_rfl) ?_
    refine XS.done rfl (thn_norm ?_)
    refine XC.cond_d ((l.length : Int) < (m.length : Int)) rfl (fun hc36 => ?_) (fun hc36 => ?_)
    · skip
      refine XC.seq ?_
      refine XC.region ?_
      refine XS.vals' 1 [(4, .int .i64 (-1))] (by kernel_rfl) ?_
      refine XS.done rfl (thn_norm ?_)
      refine XC.ret (inBlk_ret (thn_ret ?_))
      refine ⟨Or.inr rfl, .int .i64 (-1), fun a_ ha_ => results_t rfl ha_ rfl, s1.keep, ?_⟩
      rw [← hI]
      refine congrArg (Value.int .i64) ?_
      symm
      exact cmpL_end (by omega) (by first | (left; exact ⟨rfl, by omega, by omega⟩) | (right; left; exact ⟨rfl, by omega, by omega⟩) | (right; right; exact ⟨rfl, by omega, by omega⟩))
    · skip
      refine XC.seq ?_
      refine XC.region ?_
      refine XS.vals' 6 [(43, .slice a_l l.length c_l), (44, .int .i64 (l.length : Int)), (45, .slice a_m m.length c_m), (46, .int .i64 (m.length : Int)), (47, .bool (decide ((l.length : Int) > (m.length : Int)))), (42, .bool (decide ((l.length : Int) > (m.length : Int))))] (by kernel_rfl) ?_
      refine XS.done rfl (thn_norm ?_)
      refine XC.cond_d ((l.length : Int) > (m.length : Int)) rfl (fun hc37 => ?_) (fun hc37 => ?_)
      · skip
        refine XC.seq ?_
        refine XC.region ?_
        refine XS.vals' 1 [(4, .int .i64 1)] (by kernel_rfl) ?_
        refine XS.done rfl (thn_norm ?_)
        refine XC.ret (inBlk_ret (thn_ret ?_))
        refine ⟨Or.inr rfl, .int .i64 1, fun a_ ha_ => results_t rfl ha_ rfl, s1.keep, ?_⟩
        rw [← hI]
        refine congrArg (Value.int .i64) ?_
        symm
        exact cmpL_end (by omega) (by first | (left; exact ⟨rfl, by omega, by omega⟩) | (right; left; exact ⟨rfl, by omega, by omega⟩) | (right; right; exact ⟨rfl, by omega, by omega⟩))
      · skip
        refine XC.skip (inBlk_norm (thn_norm ?_))
        refine XC.seq ?_
        refine XC.region ?_
        refine XS.vals' 1 [(4, .int .i64 0)] (by kernel_rfl) ?_
        refine XS.done rfl (thn_norm ?_)
        refine XC.ret ?_
        refine ⟨Or.inr rfl, .int .i64 0, fun a_ ha_ => results_t rfl ha_ rfl, s1.keep, ?_⟩
        rw [← hI]
        refine congrArg (Value.int .i64) ?_
        symm
        exact cmpL_end (by omega) (by first | (left; exact ⟨rfl, by omega, by omega⟩) | (right; left; exact ⟨rfl, by omega, by omega⟩) | (right; right; exact ⟨rfl, by omega, by omega⟩))

end Go.Proofs.Tryz
namespace Go.Proofs.Tryz
open Go Go.X Go.RowKit Go.Sort
set_option maxRecDepth 100000
set_option linter.unusedVariables false
theorem carapaceref1_Neg_ok (A : Nat → Prop) (w0 : World) (hA : ∀ b, w0.heap.size ≤ b → A b) (x : Int)  : Cal Tryz.prog 162 [(.agg #[.int .u64 (hiU x), .int .u64 (loU x)])].toArray w0 (fun v w' => Keep none_ w0 w' ∧ v = .agg #[.int .u64 (hiU (0 - x)), .int .u64 (loU (0 - x))]) := by
  have s0 : Stt A w0 none_ [] w0 := Stt.start hA none_
  refine Cal.intro (n := 12) Tryz.func162 rfl Tryz.ntmps162 rfl ?_
  refine XC.seq ?_
  refine XC.region ?_
  refine XS.op rfl rfl (XO.new (cs := [.int .u64 (hiU x), .int .u64 (loU x)]) (T := 142) s0 rfl (by decide) (fun _ => by kernel_rfl) (fun b1 w2 s2 ev2 kp2 ybb1 => ?_))
  refine XS.op rfl rfl (XO.new (cs := [.int .u64 0, .int .u64 0]) (T := 142) s2 rfl (by decide) (fun _ => by kernel_rfl) (fun b3 w4 s4 ev4 kp4 ybb3 => ?_))
  refine XS.done rfl (thn_norm ?_)
  refine XC.seq ?_
  refine XC.region ?_
  refine XS.vals' 1 [(3, .pointer (some ⟨b1, 0, none⟩))] (by kernel_rfl) ?_
  refine XS.op rfl rfl (XO.loadS (i := 0) (v := .int .u64 (hiU x)) (g := false) (m := 1) s4 rfl rfl rfl (by decide) rfl (by kernel_rfl) (by kernel_rfl) rfl rfl rfl ?_)
  refine XS.op rfl rfl (XO.name (k := .u64) (e := IntKind.u64.wrap ((BitVec.ofInt 64 18446744073709551615 ^^^ BitVec.ofInt 64 (hiU x)).toNat : Int)) rfl (by decide) (by kernel_rfl) (fun x5 hx5 => ?_))
  obtain rfl : x5 = hiU (-1 - x) := hx5.trans (not_hi _)
  refine XS.vals' 1 [(6, .pointer (some ⟨b1, 1, none⟩))] (by kernel_rfl) ?_
  refine XS.op rfl rfl (XO.loadS (i := 0) (v := .int .u64 (loU x)) (g := false) (m := 1) s4 rfl rfl rfl (by decide) rfl (by kernel_rfl) (by kernel_rfl) rfl rfl rfl ?_)
  refine XS.op rfl rfl (XO.name (k := .u64) (e := IntKind.u64.wrap ((BitVec.ofInt 64 18446744073709551615 ^^^ BitVec.ofInt 64 (loU x)).toNat : Int)) rfl (by decide) (by kernel_rfl) (fun x6 hx6 => ?_))
  obtain rfl : x6 = loU (-1 - x) := hx6.trans (not_lo _)
  refine XS.vals' 2 [(9, .agg #[.int .u64 (hiU (-1 - x)), .int .u64 (loU (-1 - x))]), (10, .agg #[.int .u64 0, .int .u64 1])] (by kernel_rfl) ?_
  refine XS.op rfl rfl (XO.callS (f := 163) (args := [(.agg #[.int .u64 (hiU (-1 - x)), .int .u64 (loU (-1 - x))]), (.agg #[.int .u64 0, .int .u64 1])].toArray) s4 rfl (by decide) (fun _ => by kernel_rfl) (carapaceref1_Add_ok (av A _) _ s4.av_fresh (-1 - x) 1 ) (fun _ w7 s7 ev7 kp7 hv_ => ?_))
  obtain rfl := hv_
  refine XS.op rfl rfl (XO.storeS (i := 1) (v := .agg #[.int .u64 (hiU ((-1 - x) + 1)), .int .u64 (loU ((-1 - x) + 1))]) (m := 2) (cs' := [.int .u64 (hiU ((-1 - x) + 1)), .int .u64 (loU ((-1 - x) + 1))]) s7 rfl rfl rfl rfl rfl (by kernel_rfl) rfl rfl rfl rfl (fun w8 s8 ev8 kp8 => ?_))
  refine XS.done rfl (thn_norm ?_)
  refine XC.ret ?_
  refine ⟨Or.inr rfl, .agg #[.int .u64 (hiU ((-1 - x) + 1)), .int .u64 (loU ((-1 - x) + 1))], fun a_ ha_ => results_c rfl (res_cell (b := b3) (cs := [.int .u64 (hiU ((-1 - x) + 1)), .int .u64 (loU ((-1 - x) + 1))]) (g := true) (sz := 2) (v := .agg #[.int .u64 (hiU ((-1 - x) + 1)), .int .u64 (loU ((-1 - x) + 1))]) ha_ rfl (s8.at_ (i := 1) rfl) (by kernel_rfl) (by kernel_rfl) rfl rfl rfl), s8.keep, ?_⟩
  rw [show -1 - x + 1 = 0 - x by omega]

theorem carapaceref1_words_ok (A : Nat → Prop) (w0 : World) (hA : ∀ b, w0.heap.size ≤ b → A b) (a : Int) (b : Int) (ha : 0 ≤ a ∧ a < 18446744073709551616) (hb : 0 ≤ b ∧ b < 18446744073709551616)  : Cal Tryz.prog 183 [(.int .u64 a), (.int .u64 b)].toArray w0 (fun v w' => Keep none_ w0 w' ∧ v = .agg #[.int .u64 (hiU (a * b)), .int .u64 (loU (a * b))]) := by
  have s0 : Stt A w0 none_ [] w0 := Stt.start hA none_
  obtain ⟨hW1, hW2, hWx, hWy, hWz, hWa, hWl⟩ := words_spec a b _ _ _ _ ha hb rfl rfl rfl rfl
  refine Cal.intro (n := 53) Tryz.func183 rfl Tryz.ntmps183 rfl ?_
  refine XC.seq ?_
  refine XC.region ?_
  refine XS.op rfl rfl (XO.new (cs := [.int .u64 0, .int .u64 0]) (T := 142) s0 rfl (by decide) (fun _ => by kernel_rfl) (fun b1 w2 s2 ev2 kp2 ybb1 => ?_))
  refine XS.done rfl (thn_norm ?_)
  refine XC.seq ?_
  refine XC.region ?_
  refine XS.vals' 1 [(9, .int .u64 a)] (by kernel_rfl) ?_
  refine XS.op rfl rfl (XO.valE (k := .u64) (r := Int.tmod a 4294967296) (r' := a % 4294967296) rfl (by decide) (fun _ => by kernel_rfl) (by rw [Int.tmod_eq_emod_of_nonneg (by omega)]) ?_)
  refine XS.vals' 1 [(11, .int .u64 b)] (by kernel_rfl) ?_
  refine XS.op rfl rfl (XO.valE (k := .u64) (r := Int.tmod b 4294967296) (r' := b % 4294967296) rfl (by decide) (fun _ => by kernel_rfl) (by rw [Int.tmod_eq_emod_of_nonneg (by omega)]) ?_)
  refine XS.op rfl rfl (XO.arith (k := .u64) (r := (a % 4294967296) * (b % 4294967296)) rfl (by decide) (fun _ => by kernel_rfl) (wrap_u64 (by omega)) ?_)
  refine XS.vals' 1 [(5, .int .u64 ((a % 4294967296) * (b % 4294967296)))] (by kernel_rfl) ?_
  refine XS.done rfl (thn_norm ?_)
  refine XC.seq ?_
  refine XC.region ?_
  refine XS.vals' 1 [(14, .int .u64 a)] (by kernel_rfl) ?_
  refine XS.op rfl rfl (XO.arithE (k := .u64) (r := Int.tdiv a 4294967296) (r' := a / 4294967296) rfl (by decide) (fun _ => by kernel_rfl) (by rw [Int.tdiv_eq_ediv_of_nonneg (by omega)]; exact wrap_u64 (by omega)) ?_)
  refine XS.vals' 1 [(16, .int .u64 b)] (by kernel_rfl) ?_
  refine XS.op rfl rfl (XO.valE (k := .u64) (r := Int.tmod b 4294967296) (r' := b % 4294967296) rfl (by decide) (fun _ => by kernel_rfl) (by rw [Int.tmod_eq_emod_of_nonneg (by omega)]) ?_)
  refine XS.op rfl rfl (XO.arith (k := .u64) (r := (a / 4294967296) * (b % 4294967296)) rfl (by decide) (fun _ => by kernel_rfl) (wrap_u64 (by omega)) ?_)
  refine XS.vals' 1 [(6, .int .u64 ((a / 4294967296) * (b % 4294967296)))] (by kernel_rfl) ?_
  refine XS.done rfl (thn_norm ?_)
  refine XC.seq ?_
  refine XC.region ?_
  refine XS.vals' 1 [(19, .int .u64 a)] (by kernel_rfl) ?_
  refine XS.op rfl rfl (XO.valE (k := .u64) (r := Int.tmod a 4294967296) (r' := a % 4294967296) rfl (by decide) (fun _ => by kernel_rfl) (by rw [Int.tmod_eq_emod_of_nonneg (by omega)]) ?_)
  refine XS.vals' 1 [(21, .int .u64 b)] (by kernel_rfl) ?_
  refine XS.op rfl rfl (XO.arithE (k := .u64) (r := Int.tdiv b 4294967296) (r' := b / 4294967296) rfl (by decide) (fun _ => by kernel_rfl) (by rw [Int.tdiv_eq_ediv_of_nonneg (by omega)]; exact wrap_u64 (by omega)) ?_)
  refine XS.op rfl rfl (XO.arith (k := .u64) (r := (a % 4294967296) * (b / 4294967296)) rfl (by decide) (fun _ => by kernel_rfl) (wrap_u64 (by omega)) ?_)
  refine XS.vals' 1 [(7, .int .u64 ((a % 4294967296) * (b / 4294967296)))] (by kernel_rfl) ?_
  refine XS.done rfl (thn_norm ?_)
  refine XC.seq ?_
  refine XC.region ?_
  refine XS.vals' 1 [(24, .int .u64 ((a % 4294967296) * (b % 4294967296)))] (by kernel_rfl) ?_
  refine XS.op rfl rfl (XO.arithE (k := .u64) (r := Int.tdiv ((a % 4294967296) * (b % 4294967296)) 4294967296) (r' := ((a % 4294967296) * (b % 4294967296)) / 4294967296) rfl (by decide) (fun _ => by kernel_rfl) (by rw [Int.tdiv_eq_ediv_of_nonneg (by omega)]; exact wrap_u64 (by omega)) ?_)
  refine XS.vals' 1 [(26, .int .u64 ((a / 4294967296) * (b % 4294967296)))] (by kernel_rfl) ?_
  refine XS.op rfl rfl (XO.valE (k := .u64) (r := Int.tmod ((a / 4294967296) * (b % 4294967296)) 4294967296) (r' := ((a / 4294967296) * (b % 4294967296)) % 4294967296) rfl (by decide) (fun _ => by kernel_rfl) (by rw [Int.tmod_eq_emod_of_nonneg (by omega)]) ?_)
  refine XS.op rfl rfl (XO.arith (k := .u64) (r := (((a % 4294967296) * (b % 4294967296)) / 4294967296) + (((a / 4294967296) * (b % 4294967296)) % 4294967296)) rfl (by decide) (fun _ => by kernel_rfl) (wrap_u64 (by omega)) ?_)
  refine XS.vals' 1 [(29, .int .u64 ((a % 4294967296) * (b / 4294967296)))] (by kernel_rfl) ?_
  refine XS.op rfl rfl (XO.valE (k := .u64) (r := Int.tmod ((a % 4294967296) * (b / 4294967296)) 4294967296) (r' := ((a % 4294967296) * (b / 4294967296)) % 4294967296) rfl (by decide) (fun _ => by kernel_rfl) (by rw [Int.tmod_eq_emod_of_nonneg (by omega)]) ?_)
  refine XS.op rfl rfl (XO.arith (k := .u64) (r := ((((a % 4294967296) * (b % 4294967296)) / 4294967296) + (((a / 4294967296) * (b % 4294967296)) % 4294967296)) + (((a % 4294967296) * (b / 4294967296)) % 4294967296)) rfl (by decide) (fun _ => by kernel_rfl) (wrap_u64 (by omega)) ?_)
  refine XS.vals' 1 [(8, .int .u64 (((((a % 4294967296) * (b % 4294967296)) / 4294967296) + (((a / 4294967296) * (b % 4294967296)) % 4294967296)) + (((a % 4294967296) * (b / 4294967296)) % 4294967296)))] (by kernel_rfl) ?_
  refine XS.done rfl (thn_norm ?_)
  refine XC.seq ?_
  refine XC.region ?_
  refine XS.vals' 1 [(32, .int .u64 a)] (by kernel_rfl) ?_
  refine XS.op rfl rfl (XO.arithE (k := .u64) (r := Int.tdiv a 4294967296) (r' := a / 4294967296) rfl (by decide) (fun _ => by kernel_rfl) (by rw [Int.tdiv_eq_ediv_of_nonneg (by omega)]; exact wrap_u64 (by omega)) ?_)
  refine XS.vals' 1 [(34, .int .u64 b)] (by kernel_rfl) ?_
  refine XS.op rfl rfl (XO.arithE (k := .u64) (r := Int.tdiv b 4294967296) (r' := b / 4294967296) rfl (by decide) (fun _ => by kernel_rfl) (by rw [Int.tdiv_eq_ediv_of_nonneg (by omega)]; exact wrap_u64 (by omega)) ?_)
  refine XS.op rfl rfl (XO.arith (k := .u64) (r := (a / 4294967296) * (b / 4294967296)) rfl (by decide) (fun _ => by kernel_rfl) (wrap_u64 (by omega)) ?_)
  refine XS.vals' 1 [(37, .int .u64 ((a / 4294967296) * (b % 4294967296)))] (by kernel_rfl) ?_
  refine XS.op rfl rfl (XO.arithE (k := .u64) (r := Int.tdiv ((a / 4294967296) * (b % 4294967296)) 4294967296) (r' := ((a / 4294967296) * (b % 4294967296)) / 4294967296) rfl (by decide) (fun _ => by kernel_rfl) (by rw [Int.tdiv_eq_ediv_of_nonneg (by omega)]; exact wrap_u64 (by omega)) ?_)
  refine XS.op rfl rfl (XO.arith (k := .u64) (r := ((a / 4294967296) * (b / 4294967296)) + (((a / 4294967296) * (b % 4294967296)) / 4294967296)) rfl (by decide) (fun _ => by kernel_rfl) (wrap_u64 (by omega)) ?_)
  refine XS.vals' 1 [(40, .int .u64 ((a % 4294967296) * (b / 4294967296)))] (by kernel_rfl) ?_
  refine XS.op rfl rfl (XO.arithE (k := .u64) (r := Int.tdiv ((a % 4294967296) * (b / 4294967296)) 4294967296) (r' := ((a % 4294967296) * (b / 4294967296)) / 4294967296) rfl (by decide) (fun _ => by kernel_rfl) (by rw [Int.tdiv_eq_ediv_of_nonneg (by omega)]; exact wrap_u64 (by omega)) ?_)
  refine XS.op rfl rfl (XO.arith (k := .u64) (r := (((a / 4294967296) * (b / 4294967296)) + (((a / 4294967296) * (b % 4294967296)) / 4294967296)) + (((a % 4294967296) * (b / 4294967296)) / 4294967296)) rfl (by decide) (fun _ => by kernel_rfl) (wrap_u64 (by omega)) ?_)
  refine XS.vals' 1 [(43, .int .u64 (((((a % 4294967296) * (b % 4294967296)) / 4294967296) + (((a / 4294967296) * (b % 4294967296)) % 4294967296)) + (((a % 4294967296) * (b / 4294967296)) % 4294967296)))] (by kernel_rfl) ?_
  refine XS.op rfl rfl (XO.arithE (k := .u64) (r := Int.tdiv (((((a % 4294967296) * (b % 4294967296)) / 4294967296) + (((a / 4294967296) * (b % 4294967296)) % 4294967296)) + (((a % 4294967296) * (b / 4294967296)) % 4294967296)) 4294967296) (r' := (((((a % 4294967296) * (b % 4294967296)) / 4294967296) + (((a / 4294967296) * (b % 4294967296)) % 4294967296)) + (((a % 4294967296) * (b / 4294967296)) % 4294967296)) / 4294967296) rfl (by decide) (fun _ => by kernel_rfl) (by rw [Int.tdiv_eq_ediv_of_nonneg (by omega)]; exact wrap_u64 (by omega)) ?_)
  refine XS.op rfl rfl (XO.arith (k := .u64) (r := ((((a / 4294967296) * (b / 4294967296)) + (((a / 4294967296) * (b % 4294967296)) / 4294967296)) + (((a % 4294967296) * (b / 4294967296)) / 4294967296)) + ((((((a % 4294967296) * (b % 4294967296)) / 4294967296) + (((a / 4294967296) * (b % 4294967296)) % 4294967296)) + (((a % 4294967296) * (b / 4294967296)) % 4294967296)) / 4294967296)) rfl (by decide) (fun _ => by kernel_rfl) (wrap_u64 (by omega)) ?_)
  refine XS.vals' 1 [(46, .int .u64 (((((a % 4294967296) * (b % 4294967296)) / 4294967296) + (((a / 4294967296) * (b % 4294967296)) % 4294967296)) + (((a % 4294967296) * (b / 4294967296)) % 4294967296)))] (by kernel_rfl) ?_
  refine XS.op rfl rfl (XO.valE (k := .u64) (r := Int.tmod (((((a % 4294967296) * (b % 4294967296)) / 4294967296) + (((a / 4294967296) * (b % 4294967296)) % 4294967296)) + (((a % 4294967296) * (b / 4294967296)) % 4294967296)) 4294967296) (r' := (((((a % 4294967296) * (b % 4294967296)) / 4294967296) + (((a / 4294967296) * (b % 4294967296)) % 4294967296)) + (((a % 4294967296) * (b / 4294967296)) % 4294967296)) % 4294967296) rfl (by decide) (fun _ => by kernel_rfl) (by rw [Int.tmod_eq_emod_of_nonneg (by omega)]) ?_)
  refine XS.op rfl rfl (XO.arith (k := .u64) (r := ((((((a % 4294967296) * (b % 4294967296)) / 4294967296) + (((a / 4294967296) * (b % 4294967296)) % 4294967296)) + (((a % 4294967296) * (b / 4294967296)) % 4294967296)) % 4294967296) * 4294967296) rfl (by decide) (fun _ => by kernel_rfl) (wrap_u64 (by omega)) ?_)
  refine XS.vals' 1 [(49, .int .u64 ((a % 4294967296) * (b % 4294967296)))] (by kernel_rfl) ?_
  refine XS.op rfl rfl (XO.valE (k := .u64) (r := Int.tmod ((a % 4294967296) * (b % 4294967296)) 4294967296) (r' := ((a % 4294967296) * (b % 4294967296)) % 4294967296) rfl (by decide) (fun _ => by kernel_rfl) (by rw [Int.tmod_eq_emod_of_nonneg (by omega)]) ?_)
  refine XS.op rfl rfl (XO.arith (k := .u64) (r := (((((((a % 4294967296) * (b % 4294967296)) / 4294967296) + (((a / 4294967296) * (b % 4294967296)) % 4294967296)) + (((a % 4294967296) * (b / 4294967296)) % 4294967296)) % 4294967296) * 4294967296) + (((a % 4294967296) * (b % 4294967296)) % 4294967296)) rfl (by decide) (fun _ => by kernel_rfl) (wrap_u64 (by omega)) ?_)
  refine XS.vals' 1 [(52, .agg #[.int .u64 (((((a / 4294967296) * (b / 4294967296)) + (((a / 4294967296) * (b % 4294967296)) / 4294967296)) + (((a % 4294967296) * (b / 4294967296)) / 4294967296)) + ((((((a % 4294967296) * (b % 4294967296)) / 4294967296) + (((a / 4294967296) * (b % 4294967296)) % 4294967296)) + (((a % 4294967296) * (b / 4294967296)) % 4294967296)) / 4294967296)), .int .u64 ((((((((a % 4294967296) * (b % 4294967296)) / 4294967296) + (((a / 4294967296) * (b % 4294967296)) % 4294967296)) + (((a % 4294967296) * (b / 4294967296)) % 4294967296)) % 4294967296) * 4294967296) + (((a % 4294967296) * (b % 4294967296)) % 4294967296))])] (by kernel_rfl) ?_
  refine XS.op rfl rfl (XO.storeS (i := 0) (v := .agg #[.int .u64 (((((a / 4294967296) * (b / 4294967296)) + (((a / 4294967296) * (b % 4294967296)) / 4294967296)) + (((a % 4294967296) * (b / 4294967296)) / 4294967296)) + ((((((a % 4294967296) * (b % 4294967296)) / 4294967296) + (((a / 4294967296) * (b % 4294967296)) % 4294967296)) + (((a % 4294967296) * (b / 4294967296)) % 4294967296)) / 4294967296)), .int .u64 ((((((((a % 4294967296) * (b % 4294967296)) / 4294967296) + (((a / 4294967296) * (b % 4294967296)) % 4294967296)) + (((a % 4294967296) * (b / 4294967296)) % 4294967296)) % 4294967296) * 4294967296) + (((a % 4294967296) * (b % 4294967296)) % 4294967296))]) (m := 2) (cs' := [.int .u64 (((((a / 4294967296) * (b / 4294967296)) + (((a / 4294967296) * (b % 4294967296)) / 4294967296)) + (((a % 4294967296) * (b / 4294967296)) / 4294967296)) + ((((((a % 4294967296) * (b % 4294967296)) / 4294967296) + (((a / 4294967296) * (b % 4294967296)) % 4294967296)) + (((a % 4294967296) * (b / 4294967296)) % 4294967296)) / 4294967296)), .int .u64 ((((((((a % 4294967296) * (b % 4294967296)) / 4294967296) + (((a / 4294967296) * (b % 4294967296)) % 4294967296)) + (((a % 4294967296) * (b / 4294967296)) % 4294967296)) % 4294967296) * 4294967296) + (((a % 4294967296) * (b % 4294967296)) % 4294967296))]) s2 rfl rfl rfl rfl rfl (by kernel_rfl) rfl rfl rfl rfl (fun w3 s3 ev3 kp3 => ?_))
  refine XS.done rfl (thn_norm ?_)
  refine XC.ret ?_
  refine ⟨Or.inr rfl, .agg #[.int .u64 (((((a / 4294967296) * (b / 4294967296)) + (((a / 4294967296) * (b % 4294967296)) / 4294967296)) + (((a % 4294967296) * (b / 4294967296)) / 4294967296)) + ((((((a % 4294967296) * (b % 4294967296)) / 4294967296) + (((a / 4294967296) * (b % 4294967296)) % 4294967296)) + (((a % 4294967296) * (b / 4294967296)) % 4294967296)) / 4294967296)), .int .u64 ((((((((a % 4294967296) * (b % 4294967296)) / 4294967296) + (((a / 4294967296) * (b % 4294967296)) % 4294967296)) + (((a % 4294967296) * (b / 4294967296)) % 4294967296)) % 4294967296) * 4294967296) + (((a % 4294967296) * (b % 4294967296)) % 4294967296))], fun a_ ha_ => results_c rfl (res_cell (b := b1) (cs := [.int .u64 (((((a / 4294967296) * (b / 4294967296)) + (((a / 4294967296) * (b % 4294967296)) / 4294967296)) + (((a % 4294967296) * (b / 4294967296)) / 4294967296)) + ((((((a % 4294967296) * (b % 4294967296)) / 4294967296) + (((a / 4294967296) * (b % 4294967296)) % 4294967296)) + (((a % 4294967296) * (b / 4294967296)) % 4294967296)) / 4294967296)), .int .u64 ((((((((a % 4294967296) * (b % 4294967296)) / 4294967296) + (((a / 4294967296) * (b % 4294967296)) % 4294967296)) + (((a % 4294967296) * (b / 4294967296)) % 4294967296)) % 4294967296) * 4294967296) + (((a % 4294967296) * (b % 4294967296)) % 4294967296))]) (g := true) (sz := 2) (v := .agg #[.int .u64 (((((a / 4294967296) * (b / 4294967296)) + (((a / 4294967296) * (b % 4294967296)) / 4294967296)) + (((a % 4294967296) * (b / 4294967296)) / 4294967296)) + ((((((a % 4294967296) * (b % 4294967296)) / 4294967296) + (((a / 4294967296) * (b % 4294967296)) % 4294967296)) + (((a % 4294967296) * (b / 4294967296)) % 4294967296)) / 4294967296)), .int .u64 ((((((((a % 4294967296) * (b % 4294967296)) / 4294967296) + (((a / 4294967296) * (b % 4294967296)) % 4294967296)) + (((a % 4294967296) * (b / 4294967296)) % 4294967296)) % 4294967296) * 4294967296) + (((a % 4294967296) * (b % 4294967296)) % 4294967296))]) ha_ rfl (s3.at_ (i := 0) rfl) (by kernel_rfl) (by kernel_rfl) rfl rfl rfl), s3.keep, ?_⟩
  rw [hW1, hW2, ← hiU_of (mulU_rng ha hb)]
  rfl

theorem carapaceref1_Mul_ok (A : Nat → Prop) (w0 : World) (hA : ∀ b, w0.heap.size ≤ b → A b) (x : Int) (y : Int)  : Cal Tryz.prog 159 [(.agg #[.int .u64 (hiU x), .int .u64 (loU x)]), (.agg #[.int .u64 (hiU y), .int .u64 (loU y)])].toArray w0 (fun v w' => Keep none_ w0 w' ∧ v = .agg #[.int .u64 (hiU (x * y)), .int .u64 (loU (x * y))]) := by
  have s0 : Stt A w0 none_ [] w0 := Stt.start hA none_
  refine Cal.intro (n := 27) Tryz.func159 rfl Tryz.ntmps159 rfl ?_
  refine XC.seq ?_
  refine XC.region ?_
  refine XS.op rfl rfl (XO.new (cs := [.int .u64 (hiU x), .int .u64 (loU x)]) (T := 142) s0 rfl (by decide) (fun _ => by kernel_rfl) (fun b1 w2 s2 ev2 kp2 ybb1 => ?_))
  refine XS.op rfl rfl (XO.new (cs := [.int .u64 (hiU y), .int .u64 (loU y)]) (T := 142) s2 rfl (by decide) (fun _ => by kernel_rfl) (fun b3 w4 s4 ev4 kp4 ybb3 => ?_))
  refine XS.op rfl rfl (XO.new (cs := [.int .u64 0, .int .u64 0]) (T := 142) s4 rfl (by decide) (fun _ => by kernel_rfl) (fun b5 w6 s6 ev6 kp6 ybb5 => ?_))
  refine XS.done rfl (thn_norm ?_)
  refine XC.seq ?_
  refine XC.region ?_
  refine XS.vals' 1 [(6, .pointer (some ⟨b1, 1, none⟩))] (by kernel_rfl) ?_
  refine XS.op rfl rfl (XO.loadS (i := 0) (v := .int .u64 (loU x)) (g := false) (m := 1) s6 rfl rfl rfl (by decide) rfl (by kernel_rfl) (by kernel_rfl) rfl rfl rfl ?_)
  refine XS.vals' 1 [(8, .pointer (some ⟨b3, 1, none⟩))] (by kernel_rfl) ?_
  refine XS.op rfl rfl (XO.loadS (i := 1) (v := .int .u64 (loU y)) (g := false) (m := 1) s6 rfl rfl rfl (by decide) rfl (by kernel_rfl) (by kernel_rfl) rfl rfl rfl ?_)
  refine XS.op rfl rfl (XO.callS (f := 183) (args := [(.int .u64 (loU x)), (.int .u64 (loU y))].toArray) s6 rfl (by decide) (fun _ => by kernel_rfl) (carapaceref1_words_ok (av A _) _ s6.av_fresh (loU x) (loU y) (by first | exact loU_rng _ | exact hiU_rng _) (by first | exact loU_rng _ | exact hiU_rng _)) (fun _ w7 s7 ev7 kp7 hv_ => ?_))
  obtain rfl := hv_
  refine XS.op rfl rfl (XO.new (cs := [.int .u64 0, .int .u64 0]) (T := 142) s7 rfl (by decide) (fun _ => by kernel_rfl) (fun b8 w9 s9 ev9 kp9 ybb8 => ?_))
  refine XS.op rfl rfl (XO.storeS (i := 3) (v := .agg #[.int .u64 (hiU ((loU x) * (loU y))), .int .u64 (loU ((loU x) * (loU y)))]) (m := 2) (cs' := [.int .u64 (hiU ((loU x) * (loU y))), .int .u64 (loU ((loU x) * (loU y)))]) s9 rfl rfl rfl rfl rfl (by kernel_rfl) rfl rfl rfl rfl (fun w10 s10 ev10 kp10 => ?_))
  refine XS.done rfl (thn_norm ?_)
  refine XC.seq ?_
  refine XC.region ?_
  refine XS.vals' 1 [(11, .pointer (some ⟨b8, 0, none⟩))] (by kernel_rfl) ?_
  refine XS.op rfl rfl (XO.loadS (i := 3) (v := .int .u64 (hiU ((loU x) * (loU y)))) (g := false) (m := 1) s10 rfl rfl rfl (by decide) rfl (by kernel_rfl) (by kernel_rfl) rfl rfl rfl ?_)
  refine XS.vals' 1 [(13, .pointer (some ⟨b1, 0, none⟩))] (by kernel_rfl) ?_
  refine XS.op rfl rfl (XO.loadS (i := 0) (v := .int .u64 (hiU x)) (g := false) (m := 1) s10 rfl rfl rfl (by decide) rfl (by kernel_rfl) (by kernel_rfl) rfl rfl rfl ?_)
  refine XS.vals' 1 [(15, .pointer (some ⟨b3, 1, none⟩))] (by kernel_rfl) ?_
  refine XS.op rfl rfl (XO.loadS (i := 1) (v := .int .u64 (loU y)) (g := false) (m := 1) s10 rfl rfl rfl (by decide) rfl (by kernel_rfl) (by kernel_rfl) rfl rfl rfl ?_)
  refine XS.vals' 3 [(17, .int .u64 (IntKind.u64.wrap ((hiU x) * (loU y)))), (18, .int .u64 (IntKind.u64.wrap ((hiU ((loU x) * (loU y))) + (IntKind.u64.wrap ((hiU x) * (loU y)))))), (19, .pointer (some ⟨b1, 1, none⟩))] (by kernel_rfl) ?_
  refine XS.op rfl rfl (XO.loadS (i := 0) (v := .int .u64 (loU x)) (g := false) (m := 1) s10 rfl rfl rfl (by decide) rfl (by kernel_rfl) (by kernel_rfl) rfl rfl rfl ?_)
  refine XS.vals' 1 [(21, .pointer (some ⟨b3, 0, none⟩))] (by kernel_rfl) ?_
  refine XS.op rfl rfl (XO.loadS (i := 1) (v := .int .u64 (hiU y)) (g := false) (m := 1) s10 rfl rfl rfl (by decide) rfl (by kernel_rfl) (by kernel_rfl) rfl rfl rfl ?_)
  refine XS.vals' 3 [(23, .int .u64 (IntKind.u64.wrap ((loU x) * (hiU y)))), (24, .int .u64 (IntKind.u64.wrap ((IntKind.u64.wrap ((hiU ((loU x) * (loU y))) + (IntKind.u64.wrap ((hiU x) * (loU y))))) + (IntKind.u64.wrap ((loU x) * (hiU y)))))), (25, .pointer (some ⟨b8, 0, none⟩))] (by kernel_rfl) ?_
  refine XS.op rfl rfl (XO.storeS (i := 3) (v := .int .u64 (IntKind.u64.wrap ((IntKind.u64.wrap ((hiU ((loU x) * (loU y))) + (IntKind.u64.wrap ((hiU x) * (loU y))))) + (IntKind.u64.wrap ((loU x) * (hiU y)))))) (m := 1) (cs' := [.int .u64 (IntKind.u64.wrap ((IntKind.u64.wrap ((hiU ((loU x) * (loU y))) + (IntKind.u64.wrap ((hiU x) * (loU y))))) + (IntKind.u64.wrap ((loU x) * (hiU y))))), .int .u64 (loU ((loU x) * (loU y)))]) s10 rfl rfl rfl rfl rfl (by kernel_rfl) rfl rfl rfl rfl (fun w11 s11 ev11 kp11 => ?_))
  refine XS.done rfl (thn_norm ?_)
  refine XC.seq ?_
  refine XC.region ?_
  refine XS.op rfl rfl (XO.loadS (i := 3) (v := .agg #[.int .u64 (IntKind.u64.wrap ((IntKind.u64.wrap ((hiU ((loU x) * (loU y))) + (IntKind.u64.wrap ((hiU x) * (loU y))))) + (IntKind.u64.wrap ((loU x) * (hiU y))))), .int .u64 (loU ((loU x) * (loU y)))]) (g := true) (m := 2) s11 rfl rfl rfl (by decide) rfl (by kernel_rfl) (by kernel_rfl) rfl rfl rfl ?_)
  refine XS.op rfl rfl (XO.storeS (i := 2) (v := .agg #[.int .u64 (IntKind.u64.wrap ((IntKind.u64.wrap ((hiU ((loU x) * (loU y))) + (IntKind.u64.wrap ((hiU x) * (loU y))))) + (IntKind.u64.wrap ((loU x) * (hiU y))))), .int .u64 (loU ((loU x) * (loU y)))]) (m := 2) (cs' := [.int .u64 (IntKind.u64.wrap ((IntKind.u64.wrap ((hiU ((loU x) * (loU y))) + (IntKind.u64.wrap ((hiU x) * (loU y))))) + (IntKind.u64.wrap ((loU x) * (hiU y))))), .int .u64 (loU ((loU x) * (loU y)))]) s11 rfl rfl rfl rfl rfl (by kernel_rfl) rfl rfl rfl rfl (fun w12 s12 ev12 kp12 => ?_))
  refine XS.done rfl (thn_norm ?_)
  refine XC.ret ?_
  refine ⟨Or.inr rfl, .agg #[.int .u64 (IntKind.u64.wrap ((IntKind.u64.wrap ((hiU ((loU x) * (loU y))) + (IntKind.u64.wrap ((hiU x) * (loU y))))) + (IntKind.u64.wrap ((loU x) * (hiU y))))), .int .u64 (loU ((loU x) * (loU y)))], fun a_ ha_ => results_c rfl (res_cell (b := b5) (cs := [.int .u64 (IntKind.u64.wrap ((IntKind.u64.wrap ((hiU ((loU x) * (loU y))) + (IntKind.u64.wrap ((hiU x) * (loU y))))) + (IntKind.u64.wrap ((loU x) * (hiU y))))), .int .u64 (loU ((loU x) * (loU y)))]) (g := true) (sz := 2) (v := .agg #[.int .u64 (IntKind.u64.wrap ((IntKind.u64.wrap ((hiU ((loU x) * (loU y))) + (IntKind.u64.wrap ((hiU x) * (loU y))))) + (IntKind.u64.wrap ((loU x) * (hiU y))))), .int .u64 (loU ((loU x) * (loU y)))]) ha_ rfl (s12.at_ (i := 2) rfl) (by kernel_rfl) (by kernel_rfl) rfl rfl rfl), s12.keep, ?_⟩
  obtain ⟨e1, e2⟩ := mulU x y
  rw [e1, e2]

theorem carapaceref1_Prod_ok (A : Nat → Prop) (w0 : World) (hA : ∀ b, w0.heap.size ≤ b → A b) (n : Int) (m : Int) (hn : -9223372036854775808 ≤ n ∧ n ≤ 9223372036854775807) (hm : -9223372036854775808 ≤ m ∧ m ≤ 9223372036854775807)  : Cal Tryz.prog 126 [(.int .i64 n), (.int .i64 m)].toArray w0 (fun v w' => Keep none_ w0 w' ∧ v = .agg #[.int .u64 (hiU (n * m)), .int .u64 (loU (n * m))]) := by
  have s0 : Stt A w0 none_ [] w0 := Stt.start hA none_
  refine Cal.intro (n := 10) Tryz.func126 rfl Tryz.ntmps126 rfl ?_
  refine XC.seq ?_
  refine XC.region ?_
  refine XS.op rfl rfl (XO.new (cs := [.int .u64 0, .int .u64 0]) (T := 142) s0 rfl (by decide) (fun _ => by kernel_rfl) (fun b1 w2 s2 ev2 kp2 ybb1 => ?_))
  refine XS.done rfl (thn_norm ?_)
  refine XC.seq ?_
  refine XC.region ?_
  refine XS.vals' 1 [(5, .int .i64 n)] (by kernel_rfl) ?_
  refine XS.op rfl rfl (XO.callS (f := 160) (args := [(.int .i64 n)].toArray) s2 rfl (by decide) (fun _ => by kernel_rfl) (carapaceref1_Of_ok (av A _) _ s2.av_fresh n (by assumption)) (fun _ w3 s3 ev3 kp3 hv_ => ?_))
  obtain rfl := hv_
  refine XS.vals' 1 [(7, .int .i64 m)] (by kernel_rfl) ?_
  refine XS.op rfl rfl (XO.callS (f := 160) (args := [(.int .i64 m)].toArray) s3 rfl (by decide) (fun _ => by kernel_rfl) (carapaceref1_Of_ok (av A _) _ s3.av_fresh m (by assumption)) (fun _ w4 s4 ev4 kp4 hv_ => ?_))
  obtain rfl := hv_
  refine XS.op rfl rfl (XO.callS (f := 159) (args := [(.agg #[.int .u64 (hiU n), .int .u64 (loU n)]), (.agg #[.int .u64 (hiU m), .int .u64 (loU m)])].toArray) s4 rfl (by decide) (fun _ => by kernel_rfl) (carapaceref1_Mul_ok (av A _) _ s4.av_fresh n m ) (fun _ w5 s5 ev5 kp5 hv_ => ?_))
  obtain rfl := hv_
  refine XS.op rfl rfl (XO.storeS (i := 0) (v := .agg #[.int .u64 (hiU (n * m)), .int .u64 (loU (n * m))]) (m := 2) (cs' := [.int .u64 (hiU (n * m)), .int .u64 (loU (n * m))]) s5 rfl rfl rfl rfl rfl (by kernel_rfl) rfl rfl rfl rfl (fun w6 s6 ev6 kp6 => ?_))
  refine XS.done rfl (thn_norm ?_)
  refine XC.ret ?_
  refine ⟨Or.inr rfl, .agg #[.int .u64 (hiU (n * m)), .int .u64 (loU (n * m))], fun a_ ha_ => results_c rfl (res_cell (b := b1) (cs := [.int .u64 (hiU (n * m)), .int .u64 (loU (n * m))]) (g := true) (sz := 2) (v := .agg #[.int .u64 (hiU (n * m)), .int .u64 (loU (n * m))]) ha_ rfl (s6.at_ (i := 0) rfl) (by kernel_rfl) (by kernel_rfl) rfl rfl rfl), s6.keep, ?_⟩
  rfl

theorem carapaceref1_Sign_ok (A : Nat → Prop) (w0 : World) (hA : ∀ b, w0.heap.size ≤ b → A b) (x : Int)  : Cal Tryz.prog 91 [(.agg #[.int .u64 (hiU x), .int .u64 (loU x)])].toArray w0 (fun v w' => Keep none_ w0 w' ∧ v = .int .i64 (sgnU x)) := by
  have s0 : Stt A w0 none_ [] w0 := Stt.start hA none_
  refine Cal.intro (n := 15) Tryz.func91 rfl Tryz.ntmps91 rfl ?_
  refine XC.seq ?_
  refine XC.region ?_
  refine XS.op rfl rfl (XO.new (cs := [.int .u64 (hiU x), .int .u64 (loU x)]) (T := 142) s0 rfl (by decide) (fun _ => by kernel_rfl) (fun b1 w2 s2 ev2 kp2 ybb1 => ?_))
  refine XS.vals' 1 [(2, .int .i64 0)] (by kernel_rfl) ?_
  refine XS.done rfl (thn_norm ?_)
  refine XC.seq ?_
  refine XC.seq ?_
  refine XC.region ?_
  refine XS.vals' 1 [(3, .pointer (some ⟨b1, 0, none⟩))] (by kernel_rfl) ?_
  refine XS.op rfl rfl (XO.loadS (i := 0) (v := .int .u64 (hiU x)) (g := false) (m := 1) s2 rfl rfl rfl (by decide) rfl (by kernel_rfl) (by kernel_rfl) rfl rfl rfl ?_)
  refine XS.vals' 2 [(5, .int .u64 (Int.fdiv (hiU x) 9223372036854775808)), (6, .bool (decide ((Int.fdiv (hiU x) 9223372036854775808) = 1)))] (by kernel_rfl) ?_
  refine XS.done rfl (thn_norm ?_)
  refine XC.cond_d ((Int.fdiv (hiU x) 9223372036854775808) = 1) rfl (fun hc3 => ?_) (fun hc3 => ?_)
  · skip
    refine XC.seq ?_
    refine XC.region ?_
    refine XS.vals' 1 [(2, .int .i64 (-1))] (by kernel_rfl) ?_
    refine XS.done rfl (thn_norm ?_)
    refine XC.ret (thn_ret ?_)
    refine ⟨Or.inr rfl, .int .i64 (-1), fun a_ ha_ => results_t rfl ha_ rfl, s2.keep, ?_⟩
    refine congrArg (Value.int .i64) ?_
    unfold sgnU; (repeat' split) <;> first | rfl | (exfalso; omega) | (exfalso; rw [fdiv63] at *; omega)
  · skip
    refine XC.skip (thn_norm ?_)
    refine XC.seq ?_
    refine XC.seq ?_
    refine XC.region ?_
    refine XS.vals' 1 [(7, .pointer (some ⟨b1, 0, none⟩))] (by kernel_rfl) ?_
    refine XS.op rfl rfl (XO.loadS (i := 0) (v := .int .u64 (hiU x)) (g := false) (m := 1) s2 rfl rfl rfl (by decide) rfl (by kernel_rfl) (by kernel_rfl) rfl rfl rfl ?_)
    refine XS.vals' 2 [(9, .bool (decide ((hiU x) = 0))), (10, .bool (decide ((hiU x) = 0)))] (by kernel_rfl) ?_
    refine XS.onD 10 ((hiU x) = 0) rfl (fun hg4 => ?_) (fun hg4 => ?_)
    · skip
      refine XS.vals' 1 [(11, .pointer (some ⟨b1, 1, none⟩))] (by kernel_rfl) ?_
      refine XS.op_g rfl rfl rfl (XO.loadS (i := 0) (v := .int .u64 (loU x)) (g := false) (m := 1) s2 rfl rfl rfl (by decide) rfl (by kernel_rfl) (by kernel_rfl) rfl rfl rfl ?_)
      refine XS.vals' 2 [(13, .bool (decide ((loU x) = 0))), (14, .bool (decide ((loU x) = 0)))] (by kernel_rfl) ?_
      refine XS.done rfl (thn_norm ?_)
      refine XC.cond_d ((loU x) = 0) rfl (fun hc5 => ?_) (fun hc5 => ?_)
      · skip
        refine XC.seq ?_
        refine XC.region ?_
        refine XS.vals' 1 [(2, .int .i64 0)] (by kernel_rfl) ?_
        refine XS.done rfl (thn_norm ?_)
        refine XC.ret (thn_ret ?_)
        refine ⟨Or.inr rfl, .int .i64 0, fun a_ ha_ => results_t rfl ha_ rfl, s2.keep, ?_⟩
        refine congrArg (Value.int .i64) ?_
        unfold sgnU; (repeat' split) <;> first | rfl | (exfalso; omega) | (exfalso; rw [fdiv63] at *; omega)
      · skip
        refine XC.skip (thn_norm ?_)
        refine XC.seq ?_
        refine XC.region ?_
        refine XS.vals' 1 [(2, .int .i64 1)] (by kernel_rfl) ?_
        refine XS.done rfl (thn_norm ?_)
        refine XC.ret ?_
        refine ⟨Or.inr rfl, .int .i64 1, fun a_ ha_ => results_t rfl ha_ rfl, s2.keep, ?_⟩
        refine congrArg (Value.int .i64) ?_
        unfold sgnU; (repeat' split) <;> first | rfl | (exfalso; omega) | (exfalso; rw [fdiv63] at *; omega)
    · skip
      refine XS.vals' 4 [(11, undef), (12, undef), (13, undef), (14, .bool false)] (by kernel_rfl) ?_
      refine XS.done rfl (thn_norm ?_)
      refine XC.cond_f rfl ?_
      refine XC.skip (thn_norm ?_)
      refine XC.seq ?_
      refine XC.region ?_
      refine XS.vals' 1 [(2, .int .i64 1)] (by kernel_rfl) ?_
      refine XS.done rfl (thn_norm ?_)
      refine XC.ret ?_
      refine ⟨Or.inr rfl, .int .i64 1, fun a_ ha_ => results_t rfl ha_ rfl, s2.keep, ?_⟩
      refine congrArg (Value.int .i64) ?_
      unfold sgnU; (repeat' split) <;> first | rfl | (exfalso; omega) | (exfalso; rw [fdiv63] at *; omega)

end Go.Proofs.Tryz
namespace Go.Proofs.Tryz
open Go Go.X Go.RowKit Go.Sort
set_option maxRecDepth 100000
set_option linter.unusedVariables false
theorem carapaceref2_row_ok (A : Nat → Prop) (w0 : World) (hA : ∀ b, w0.heap.size ≤ b → A b) (p : Pt)  : Cal Tryz.prog 128 [(.agg #[.int .i64 p.x, .int .i64 p.y, .int .i64 p.z])].toArray w0 (fun v w' => Keep none_ w0 w' ∧ v = .agg #[.int .i64 p.row.x, .int .i64 p.row.y, .int .i64 p.row.z, .int .i64 p.row.w]) := by
  have s0 : Stt A w0 none_ [] w0 := Stt.start hA none_
  refine Cal.intro (n := 10) Tryz.func128 rfl Tryz.ntmps128 rfl ?_
  refine XC.seq ?_
  refine XC.region ?_
  refine XS.op rfl rfl (XO.new (cs := [.int .i64 p.x, .int .i64 p.y, .int .i64 p.z]) (T := 24) s0 rfl (by decide) (fun _ => by kernel_rfl) (fun b1 w2 s2 ev2 kp2 ybb1 => ?_))
  refine XS.op rfl rfl (XO.new (cs := [.int .i64 0, .int .i64 0, .int .i64 0, .int .i64 0]) (T := 184) s2 rfl (by decide) (fun _ => by kernel_rfl) (fun b3 w4 s4 ev4 kp4 ybb3 => ?_))
  refine XS.done rfl (thn_norm ?_)
  refine XC.seq ?_
  refine XC.region ?_
  refine XS.vals' 1 [(3, .pointer (some ⟨b1, 0, none⟩))] (by kernel_rfl) ?_
  refine XS.op rfl rfl (XO.loadS (i := 0) (v := .int .i64 p.x) (g := false) (m := 1) s4 rfl rfl rfl (by decide) rfl (by kernel_rfl) (by kernel_rfl) rfl rfl rfl ?_)
  refine XS.vals' 1 [(5, .pointer (some ⟨b1, 1, none⟩))] (by kernel_rfl) ?_
  refine XS.op rfl rfl (XO.loadS (i := 0) (v := .int .i64 p.y) (g := false) (m := 1) s4 rfl rfl rfl (by decide) rfl (by kernel_rfl) (by kernel_rfl) rfl rfl rfl ?_)
  refine XS.vals' 1 [(7, .pointer (some ⟨b1, 2, none⟩))] (by kernel_rfl) ?_
  refine XS.op rfl rfl (XO.loadS (i := 0) (v := .int .i64 p.z) (g := false) (m := 1) s4 rfl rfl rfl (by decide) rfl (by kernel_rfl) (by kernel_rfl) rfl rfl rfl ?_)
  refine XS.vals' 1 [(9, .agg #[.int .i64 p.x, .int .i64 p.y, .int .i64 p.z, .int .i64 1])] (by kernel_rfl) ?_
  refine XS.op rfl rfl (XO.storeS (i := 1) (v := .agg #[.int .i64 p.x, .int .i64 p.y, .int .i64 p.z, .int .i64 1]) (m := 4) (cs' := [.int .i64 p.x, .int .i64 p.y, .int .i64 p.z, .int .i64 1]) s4 rfl rfl rfl rfl rfl (by kernel_rfl) rfl rfl rfl rfl (fun w5 s5 ev5 kp5 => ?_))
  refine XS.done rfl (thn_norm ?_)
  refine XC.ret ?_
  refine ⟨Or.inr rfl, .agg #[.int .i64 p.x, .int .i64 p.y, .int .i64 p.z, .int .i64 1], fun a_ ha_ => results_c rfl (res_cell (b := b3) (cs := [.int .i64 p.x, .int .i64 p.y, .int .i64 p.z, .int .i64 1]) (g := true) (sz := 4) (v := .agg #[.int .i64 p.x, .int .i64 p.y, .int .i64 p.z, .int .i64 1]) ha_ rfl (s5.at_ (i := 1) rfl) (by kernel_rfl) (by kernel_rfl) rfl rfl rfl), s5.keep, ?_⟩
  rfl

theorem carapaceref2_three_ok (A : Nat → Prop) (w0 : World) (hA : ∀ b, w0.heap.size ≤ b → A b) (p : RW) (q : RW) (r : RW) (hp : p.ok) (hq : q.ok) (hr : r.ok)  : Cal Tryz.prog 161 [(.agg #[.int .i64 p.x, .int .i64 p.y, .int .i64 p.z, .int .i64 p.w]), (.agg #[.int .i64 q.x, .int .i64 q.y, .int .i64 q.z, .int .i64 q.w]), (.agg #[.int .i64 r.x, .int .i64 r.y, .int .i64 r.z, .int .i64 r.w])].toArray w0 (fun v w' => Keep none_ w0 w' ∧ v = .agg #[.int .u64 (hiU (det3R p q r)), .int .u64 (loU (det3R p q r))]) := by
  have s0 : Stt A w0 none_ [] w0 := Stt.start hA none_
  obtain ⟨hp1, hp2, hp3⟩ := hp
  obtain ⟨hq1, hq2, hq3⟩ := hq
  obtain ⟨hr1, hr2, hr3⟩ := hr
  have m23 := mulC hq2 hr3
  have m32 := mulC hq3 hr2
  have m31 := mulC hq3 hr1
  have m13 := mulC hq1 hr3
  have m12 := mulC hq1 hr2
  have m21 := mulC hq2 hr1
  unfold inC at *
  refine Cal.intro (n := 57) Tryz.func161 rfl Tryz.ntmps161 rfl ?_
  refine XC.seq ?_
  refine XC.region ?_
  refine XS.op rfl rfl (XO.new (cs := [.int .i64 p.x, .int .i64 p.y, .int .i64 p.z, .int .i64 p.w]) (T := 184) s0 rfl (by decide) (fun _ => by kernel_rfl) (fun b1 w2 s2 ev2 kp2 ybb1 => ?_))
  refine XS.op rfl rfl (XO.new (cs := [.int .i64 q.x, .int .i64 q.y, .int .i64 q.z, .int .i64 q.w]) (T := 184) s2 rfl (by decide) (fun _ => by kernel_rfl) (fun b3 w4 s4 ev4 kp4 ybb3 => ?_))
  refine XS.op rfl rfl (XO.new (cs := [.int .i64 r.x, .int .i64 r.y, .int .i64 r.z, .int .i64 r.w]) (T := 184) s4 rfl (by decide) (fun _ => by kernel_rfl) (fun b5 w6 s6 ev6 kp6 ybb5 => ?_))
  refine XS.op rfl rfl (XO.new (cs := [.int .u64 0, .int .u64 0]) (T := 142) s6 rfl (by decide) (fun _ => by kernel_rfl) (fun b7 w8 s8 ev8 kp8 ybb7 => ?_))
  refine XS.done rfl (thn_norm ?_)
  refine XC.seq ?_
  refine XC.region ?_
  refine XS.vals' 1 [(10, .pointer (some ⟨b1, 0, none⟩))] (by kernel_rfl) ?_
  refine XS.op rfl rfl (XO.loadS (i := 0) (v := .int .i64 p.x) (g := false) (m := 1) s8 rfl rfl rfl (by decide) rfl (by kernel_rfl) (by kernel_rfl) rfl rfl rfl ?_)
  refine XS.vals' 1 [(12, .pointer (some ⟨b3, 1, none⟩))] (by kernel_rfl) ?_
  refine XS.op rfl rfl (XO.loadS (i := 1) (v := .int .i64 q.y) (g := false) (m := 1) s8 rfl rfl rfl (by decide) rfl (by kernel_rfl) (by kernel_rfl) rfl rfl rfl ?_)
  refine XS.vals' 1 [(14, .pointer (some ⟨b5, 2, none⟩))] (by kernel_rfl) ?_
  refine XS.op rfl rfl (XO.loadS (i := 2) (v := .int .i64 r.z) (g := false) (m := 1) s8 rfl rfl rfl (by decide) rfl (by kernel_rfl) (by kernel_rfl) rfl rfl rfl ?_)
  refine XS.op rfl rfl (XO.arith (k := .i64) (r := q.y * r.z) rfl (by decide) (fun _ => by kernel_rfl) (wrap_i64 (by omega)) ?_)
  refine XS.vals' 1 [(17, .pointer (some ⟨b3, 2, none⟩))] (by kernel_rfl) ?_
  refine XS.op rfl rfl (XO.loadS (i := 1) (v := .int .i64 q.z) (g := false) (m := 1) s8 rfl rfl rfl (by decide) rfl (by kernel_rfl) (by kernel_rfl) rfl rfl rfl ?_)
  refine XS.vals' 1 [(19, .pointer (some ⟨b5, 1, none⟩))] (by kernel_rfl) ?_
  refine XS.op rfl rfl (XO.loadS (i := 2) (v := .int .i64 r.y) (g := false) (m := 1) s8 rfl rfl rfl (by decide) rfl (by kernel_rfl) (by kernel_rfl) rfl rfl rfl ?_)
  refine XS.op rfl rfl (XO.arith (k := .i64) (r := q.z * r.y) rfl (by decide) (fun _ => by kernel_rfl) (wrap_i64 (by omega)) ?_)
  refine XS.op rfl rfl (XO.arith (k := .i64) (r := (q.y * r.z) - (q.z * r.y)) rfl (by decide) (fun _ => by kernel_rfl) (wrap_i64 (by omega)) ?_)
  refine XS.op rfl rfl (XO.callS (f := 126) (args := [(.int .i64 p.x), (.int .i64 ((q.y * r.z) - (q.z * r.y)))].toArray) s8 rfl (by decide) (fun _ => by kernel_rfl) (carapaceref1_Prod_ok (av A _) _ s8.av_fresh p.x ((q.y * r.z) - (q.z * r.y)) (by omega) (by omega)) (fun _ w9 s9 ev9 kp9 hv_ => ?_))
  obtain rfl := hv_
  refine XS.op rfl rfl (XO.new (cs := [.int .u64 0, .int .u64 0]) (T := 142) s9 rfl (by decide) (fun _ => by kernel_rfl) (fun b10 w11 s11 ev11 kp11 ybb10 => ?_))
  refine XS.op rfl rfl (XO.storeS (i := 4) (v := .agg #[.int .u64 (hiU (p.x * ((q.y * r.z) - (q.z * r.y)))), .int .u64 (loU (p.x * ((q.y * r.z) - (q.z * r.y))))]) (m := 2) (cs' := [.int .u64 (hiU (p.x * ((q.y * r.z) - (q.z * r.y)))), .int .u64 (loU (p.x * ((q.y * r.z) - (q.z * r.y))))]) s11 rfl rfl rfl rfl rfl (by kernel_rfl) rfl rfl rfl rfl (fun w12 s12 ev12 kp12 => ?_))
  refine XS.done rfl (thn_norm ?_)
  refine XC.seq ?_
  refine XC.region ?_
  refine XS.vals' 1 [(24, .pointer (some ⟨b1, 1, none⟩))] (by kernel_rfl) ?_
  refine XS.op rfl rfl (XO.loadS (i := 0) (v := .int .i64 p.y) (g := false) (m := 1) s12 rfl rfl rfl (by decide) rfl (by kernel_rfl) (by kernel_rfl) rfl rfl rfl ?_)
  refine XS.vals' 1 [(26, .pointer (some ⟨b3, 2, none⟩))] (by kernel_rfl) ?_
  refine XS.op rfl rfl (XO.loadS (i := 1) (v := .int .i64 q.z) (g := false) (m := 1) s12 rfl rfl rfl (by decide) rfl (by kernel_rfl) (by kernel_rfl) rfl rfl rfl ?_)
  refine XS.vals' 1 [(28, .pointer (some ⟨b5, 0, none⟩))] (by kernel_rfl) ?_
  refine XS.op rfl rfl (XO.loadS (i := 2) (v := .int .i64 r.x) (g := false) (m := 1) s12 rfl rfl rfl (by decide) rfl (by kernel_rfl) (by kernel_rfl) rfl rfl rfl ?_)
  refine XS.op rfl rfl (XO.arith (k := .i64) (r := q.z * r.x) rfl (by decide) (fun _ => by kernel_rfl) (wrap_i64 (by omega)) ?_)
  refine XS.vals' 1 [(31, .pointer (some ⟨b3, 0, none⟩))] (by kernel_rfl) ?_
  refine XS.op rfl rfl (XO.loadS (i := 1) (v := .int .i64 q.x) (g := false) (m := 1) s12 rfl rfl rfl (by decide) rfl (by kernel_rfl) (by kernel_rfl) rfl rfl rfl ?_)
  refine XS.vals' 1 [(33, .pointer (some ⟨b5, 2, none⟩))] (by kernel_rfl) ?_
  refine XS.op rfl rfl (XO.loadS (i := 2) (v := .int .i64 r.z) (g := false) (m := 1) s12 rfl rfl rfl (by decide) rfl (by kernel_rfl) (by kernel_rfl) rfl rfl rfl ?_)
  refine XS.op rfl rfl (XO.arith (k := .i64) (r := q.x * r.z) rfl (by decide) (fun _ => by kernel_rfl) (wrap_i64 (by omega)) ?_)
  refine XS.op rfl rfl (XO.arith (k := .i64) (r := (q.z * r.x) - (q.x * r.z)) rfl (by decide) (fun _ => by kernel_rfl) (wrap_i64 (by omega)) ?_)
  refine XS.op rfl rfl (XO.callS (f := 126) (args := [(.int .i64 p.y), (.int .i64 ((q.z * r.x) - (q.x * r.z)))].toArray) s12 rfl (by decide) (fun _ => by kernel_rfl) (carapaceref1_Prod_ok (av A _) _ s12.av_fresh p.y ((q.z * r.x) - (q.x * r.z)) (by omega) (by omega)) (fun _ w13 s13 ev13 kp13 hv_ => ?_))
  obtain rfl := hv_
  refine XS.op rfl rfl (XO.new (cs := [.int .u64 0, .int .u64 0]) (T := 142) s13 rfl (by decide) (fun _ => by kernel_rfl) (fun b14 w15 s15 ev15 kp15 ybb14 => ?_))
  refine XS.op rfl rfl (XO.storeS (i := 5) (v := .agg #[.int .u64 (hiU (p.y * ((q.z * r.x) - (q.x * r.z)))), .int .u64 (loU (p.y * ((q.z * r.x) - (q.x * r.z))))]) (m := 2) (cs' := [.int .u64 (hiU (p.y * ((q.z * r.x) - (q.x * r.z)))), .int .u64 (loU (p.y * ((q.z * r.x) - (q.x * r.z))))]) s15 rfl rfl rfl rfl rfl (by kernel_rfl) rfl rfl rfl rfl (fun w16 s16 ev16 kp16 => ?_))
  refine XS.done rfl (thn_norm ?_)
  refine XC.seq ?_
  refine XC.region ?_
  refine XS.vals' 1 [(38, .pointer (some ⟨b1, 2, none⟩))] (by kernel_rfl) ?_
  refine XS.op rfl rfl (XO.loadS (i := 0) (v := .int .i64 p.z) (g := false) (m := 1) s16 rfl rfl rfl (by decide) rfl (by kernel_rfl) (by kernel_rfl) rfl rfl rfl ?_)
  refine XS.vals' 1 [(40, .pointer (some ⟨b3, 0, none⟩))] (by kernel_rfl) ?_
  refine XS.op rfl rfl (XO.loadS (i := 1) (v := .int .i64 q.x) (g := false) (m := 1) s16 rfl rfl rfl (by decide) rfl (by kernel_rfl) (by kernel_rfl) rfl rfl rfl ?_)
  refine XS.vals' 1 [(42, .pointer (some ⟨b5, 1, none⟩))] (by kernel_rfl) ?_
  refine XS.op rfl rfl (XO.loadS (i := 2) (v := .int .i64 r.y) (g := false) (m := 1) s16 rfl rfl rfl (by decide) rfl (by kernel_rfl) (by kernel_rfl) rfl rfl rfl ?_)
  refine XS.op rfl rfl (XO.arith (k := .i64) (r := q.x * r.y) rfl (by decide) (fun _ => by kernel_rfl) (wrap_i64 (by omega)) ?_)
  refine XS.vals' 1 [(45, .pointer (some ⟨b3, 1, none⟩))] (by kernel_rfl) ?_
  refine XS.op rfl rfl (XO.loadS (i := 1) (v := .int .i64 q.y) (g := false) (m := 1) s16 rfl rfl rfl (by decide) rfl (by kernel_rfl) (by kernel_rfl) rfl rfl rfl ?_)
  refine XS.vals' 1 [(47, .pointer (some ⟨b5, 0, none⟩))] (by kernel_rfl) ?_
  refine XS.op rfl rfl (XO.loadS (i := 2) (v := .int .i64 r.x) (g := false) (m := 1) s16 rfl rfl rfl (by decide) rfl (by kernel_rfl) (by kernel_rfl) rfl rfl rfl ?_)
  refine XS.op rfl rfl (XO.arith (k := .i64) (r := q.y * r.x) rfl (by decide) (fun _ => by kernel_rfl) (wrap_i64 (by omega)) ?_)
  refine XS.op rfl rfl (XO.arith (k := .i64) (r := (q.x * r.y) - (q.y * r.x)) rfl (by decide) (fun _ => by kernel_rfl) (wrap_i64 (by omega)) ?_)
  refine XS.op rfl rfl (XO.callS (f := 126) (args := [(.int .i64 p.z), (.int .i64 ((q.x * r.y) - (q.y * r.x)))].toArray) s16 rfl (by decide) (fun _ => by kernel_rfl) (carapaceref1_Prod_ok (av A _) _ s16.av_fresh p.z ((q.x * r.y) - (q.y * r.x)) (by omega) (by omega)) (fun _ w17 s17 ev17 kp17 hv_ => ?_))
  obtain rfl := hv_
  refine XS.op rfl rfl (XO.new (cs := [.int .u64 0, .int .u64 0]) (T := 142) s17 rfl (by decide) (fun _ => by kernel_rfl) (fun b18 w19 s19 ev19 kp19 ybb18 => ?_))
  refine XS.op rfl rfl (XO.storeS (i := 6) (v := .agg #[.int .u64 (hiU (p.z * ((q.x * r.y) - (q.y * r.x)))), .int .u64 (loU (p.z * ((q.x * r.y) - (q.y * r.x))))]) (m := 2) (cs' := [.int .u64 (hiU (p.z * ((q.x * r.y) - (q.y * r.x)))), .int .u64 (loU (p.z * ((q.x * r.y) - (q.y * r.x))))]) s19 rfl rfl rfl rfl rfl (by kernel_rfl) rfl rfl rfl rfl (fun w20 s20 ev20 kp20 => ?_))
  refine XS.done rfl (thn_norm ?_)
  refine XC.seq ?_
  refine XC.drawS 6 rfl (fun x => x = b7) 5 (by kernel_rfl) s20 (fun w21 s21 ev21 kp21 hH22 => ?_)
  refine XA.loadS true (j := 0) (i := 4) (v := .agg #[.int .u64 (hiU (p.x * ((q.y * r.z) - (q.z * r.y)))), .int .u64 (loU (p.x * ((q.y * r.z) - (q.z * r.y))))]) (g := true) (m := 2) s21 rfl rfl (by kernel_rfl) (by kernel_rfl) (by kernel_rfl) rfl (by kernel_rfl) (fun h => by cases h) (by kernel_rfl) rfl rfl (by decide) hH22 rfl (by kernel_rfl) (by kernel_rfl) rfl rfl rfl (fun hH23 => ?_)
  refine XA.loadS true (j := 1) (i := 5) (v := .agg #[.int .u64 (hiU (p.y * ((q.z * r.x) - (q.x * r.z)))), .int .u64 (loU (p.y * ((q.z * r.x) - (q.x * r.z))))]) (g := true) (m := 2) s21 rfl rfl (by kernel_rfl) (by kernel_rfl) (by kernel_rfl) rfl (by kernel_rfl) (fun h => by cases h) (by kernel_rfl) rfl rfl (by decide) hH23 rfl (by kernel_rfl) (by kernel_rfl) rfl rfl rfl (fun hH24 => ?_)
  refine XA.loadS true (j := 3) (i := 6) (v := .agg #[.int .u64 (hiU (p.z * ((q.x * r.y) - (q.y * r.x)))), .int .u64 (loU (p.z * ((q.x * r.y) - (q.y * r.x))))]) (g := true) (m := 2) s21 rfl rfl (by kernel_rfl) (by kernel_rfl) (by kernel_rfl) rfl (by kernel_rfl) (fun h => by cases h) (by kernel_rfl) rfl rfl (by decide) hH24 rfl (by kernel_rfl) (by kernel_rfl) rfl rfl rfl (fun hH25 => ?_)
  refine XA.op (i := 2) rfl (by kernel_rfl) (by kernel_rfl) (XO.callS (f := 163) (args := [(.agg #[.int .u64 (hiU (p.x * ((q.y * r.z) - (q.z * r.y)))), .int .u64 (loU (p.x * ((q.y * r.z) - (q.z * r.y))))]), (.agg #[.int .u64 (hiU (p.y * ((q.z * r.x) - (q.x * r.z)))), .int .u64 (loU (p.y * ((q.z * r.x) - (q.x * r.z))))])].toArray) s21 rfl (by decide) (fun _ => by kernel_rfl) (carapaceref1_Add_ok (av A _) _ s21.av_fresh (p.x * ((q.y * r.z) - (q.z * r.y))) (p.y * ((q.z * r.x) - (q.x * r.z))) ) (fun _ w26 s26 ev26 kp26 hv_ => ?_))
  obtain rfl := hv_
  have hH27 := hH25.keep (i := 2) kp26 rfl
  refine ⟨hH27, ?_⟩
  refine XA.op (i := 4) rfl (by kernel_rfl) (by kernel_rfl) (XO.callS (f := 163) (args := [(.agg #[.int .u64 (hiU ((p.x * ((q.y * r.z) - (q.z * r.y))) + (p.y * ((q.z * r.x) - (q.x * r.z))))), .int .u64 (loU ((p.x * ((q.y * r.z) - (q.z * r.y))) + (p.y * ((q.z * r.x) - (q.x * r.z)))))]), (.agg #[.int .u64 (hiU (p.z * ((q.x * r.y) - (q.y * r.x)))), .int .u64 (loU (p.z * ((q.x * r.y) - (q.y * r.x))))])].toArray) s26 rfl (by decide) (fun _ => by kernel_rfl) (carapaceref1_Add_ok (av A _) _ s26.av_fresh ((p.x * ((q.y * r.z) - (q.z * r.y))) + (p.y * ((q.z * r.x) - (q.x * r.z)))) (p.z * ((q.x * r.y) - (q.y * r.x))) ) (fun _ w28 s28 ev28 kp28 hv_ => ?_))
  obtain rfl := hv_
  have hH29 := hH27.keep (i := 4) kp28 rfl
  refine ⟨hH29, ?_⟩
  refine XA.op (i := 5) rfl (by kernel_rfl) (by kernel_rfl) (XO.storeS (i := 3) (v := .agg #[.int .u64 (hiU (((p.x * ((q.y * r.z) - (q.z * r.y))) + (p.y * ((q.z * r.x) - (q.x * r.z)))) + (p.z * ((q.x * r.y) - (q.y * r.x))))), .int .u64 (loU (((p.x * ((q.y * r.z) - (q.z * r.y))) + (p.y * ((q.z * r.x) - (q.x * r.z)))) + (p.z * ((q.x * r.y) - (q.y * r.x)))))]) (m := 2) (cs' := [.int .u64 (hiU (((p.x * ((q.y * r.z) - (q.z * r.y))) + (p.y * ((q.z * r.x) - (q.x * r.z)))) + (p.z * ((q.x * r.y) - (q.y * r.x))))), .int .u64 (loU (((p.x * ((q.y * r.z) - (q.z * r.y))) + (p.y * ((q.z * r.x) - (q.x * r.z)))) + (p.z * ((q.x * r.y) - (q.y * r.x)))))]) s28 rfl rfl rfl rfl rfl (by kernel_rfl) rfl rfl rfl rfl (fun w30 s30 ev30 kp30 => ?_))
  have hH31 := hH29.turn (i := 5) kp30 (fun b_ _ e_ => by first | exact e_ | (subst e_; simp)) rfl
  refine ⟨hH31, ?_⟩
  refine XA.done (by kernel_rfl) (thn_norm ?_)
  refine XC.ret ?_
  refine ⟨Or.inr rfl, .agg #[.int .u64 (hiU (((p.x * ((q.y * r.z) - (q.z * r.y))) + (p.y * ((q.z * r.x) - (q.x * r.z)))) + (p.z * ((q.x * r.y) - (q.y * r.x))))), .int .u64 (loU (((p.x * ((q.y * r.z) - (q.z * r.y))) + (p.y * ((q.z * r.x) - (q.x * r.z)))) + (p.z * ((q.x * r.y) - (q.y * r.x)))))], fun a_ ha_ => results_c rfl (res_cell (b := b7) (cs := [.int .u64 (hiU (((p.x * ((q.y * r.z) - (q.z * r.y))) + (p.y * ((q.z * r.x) - (q.x * r.z)))) + (p.z * ((q.x * r.y) - (q.y * r.x))))), .int .u64 (loU (((p.x * ((q.y * r.z) - (q.z * r.y))) + (p.y * ((q.z * r.x) - (q.x * r.z)))) + (p.z * ((q.x * r.y) - (q.y * r.x)))))]) (g := true) (sz := 2) (v := .agg #[.int .u64 (hiU (((p.x * ((q.y * r.z) - (q.z * r.y))) + (p.y * ((q.z * r.x) - (q.x * r.z)))) + (p.z * ((q.x * r.y) - (q.y * r.x))))), .int .u64 (loU (((p.x * ((q.y * r.z) - (q.z * r.y))) + (p.y * ((q.z * r.x) - (q.x * r.z)))) + (p.z * ((q.x * r.y) - (q.y * r.x)))))]) ha_ rfl (s30.at_ (i := 3) rfl) (by kernel_rfl) (by kernel_rfl) rfl rfl rfl), s30.keep, ?_⟩
  rfl

theorem carapaceref2_same_ok (A : Nat → Prop) (w0 : World) (hA : ∀ b, w0.heap.size ≤ b → A b) (a : Int) (b : Int) (c : Int) (d : Int) (ha : (a).natAbs ≤ 4294967296) (hb : (b).natAbs ≤ 4294967296) (hc : (c).natAbs ≤ 4294967296) (hd : (d).natAbs ≤ 4294967296)  : Cal Tryz.prog 90 [(.int .i64 a), (.int .i64 b), (.int .i64 c), (.int .i64 d)].toArray w0 (fun v w' => Keep none_ w0 w' ∧ v = .bool (decide (a * b = c * d))) := by
  have s0 : Stt A w0 none_ [] w0 := Stt.start hA none_
  refine Cal.intro (n := 16) Tryz.func90 rfl Tryz.ntmps90 rfl ?_
  refine XC.seq ?_
  refine XC.region ?_
  refine XS.vals' 1 [(8, .bool false)] (by kernel_rfl) ?_
  refine XS.done rfl (thn_norm ?_)
  refine XC.seq ?_
  refine XC.region ?_
  refine XS.vals' 2 [(9, .int .i64 a), (10, .int .i64 b)] (by kernel_rfl) ?_
  refine XS.op rfl rfl (XO.callS (f := 126) (args := [(.int .i64 a), (.int .i64 b)].toArray) s0 rfl (by decide) (fun _ => by kernel_rfl) (carapaceref1_Prod_ok (av A _) _ s0.av_fresh a b (by omega) (by omega)) (fun _ w1 s1 ev1 kp1 hv_ => ?_))
  obtain rfl := hv_
  refine XS.vals' 2 [(12, .int .i64 c), (13, .int .i64 d)] (by kernel_rfl) ?_
  refine XS.op rfl rfl (XO.callS (f := 126) (args := [(.int .i64 c), (.int .i64 d)].toArray) s1 rfl (by decide) (fun _ => by kernel_rfl) (carapaceref1_Prod_ok (av A _) _ s1.av_fresh c d (by omega) (by omega)) (fun _ w2 s2 ev2 kp2 hv_ => ?_))
  obtain rfl := hv_
  refine XS.op rfl rfl (XO.eqlP false (a := .agg #[.int .u64 (hiU (a * b)), .int .u64 (loU (a * b))]) (b := .agg #[.int .u64 (hiU (c * d)), .int .u64 (loU (c * d))]) (r' := decide ((hiU (a * b)) = (hiU (c * d)) ∧ (loU (a * b)) = (loU (c * d)))) (Eql.struct rfl (by kernel_rfl) (EqlF.cons rfl (a := .int .u64 (hiU (a * b))) (b := .int .u64 (hiU (c * d))) (by kernel_rfl) (by kernel_rfl) (Eql.int rfl) (EqlF.cons rfl (a := .int .u64 (loU (a * b))) (b := .int .u64 (loU (c * d))) (by kernel_rfl) (by kernel_rfl) (Eql.int rfl) EqlF.nil))) (by rw [Bool.eq_iff_iff]; simp [ng]) rfl rfl (by decide) rfl rfl (by kernel_rfl) (fun _ => by kernel_rfl) ?_)
  refine XS.vals' 1 [(8, .bool (decide ((hiU (a * b)) = (hiU (c * d)) ∧ (loU (a * b)) = (loU (c * d)))))] (by kernel_rfl) ?_
  refine XS.done rfl (thn_norm ?_)
  refine XC.ret ?_
  refine ⟨Or.inr rfl, .bool (decide ((hiU (a * b)) = (hiU (c * d)) ∧ (loU (a * b)) = (loU (c * d)))), fun a_ ha_ => results_t rfl ha_ rfl, s2.keep, ?_⟩
  refine congrArg Value.bool ?_
  rw [decide_eq_decide]; exact eqU' (mul_rng ha hb) (mul_rng hc hd)

theorem carapaceref2_Straight_ok (A : Nat → Prop) (w0 : World) (hA : ∀ b, w0.heap.size ≤ b → A b) (a : Pt) (b : Pt) (c : Pt) (ha : a.ok) (hb : b.ok) (hc : c.ok)  : Cal Tryz.prog 58 [(.agg #[.int .i64 a.x, .int .i64 a.y, .int .i64 a.z]), (.agg #[.int .i64 b.x, .int .i64 b.y, .int .i64 b.z]), (.agg #[.int .i64 c.x, .int .i64 c.y, .int .i64 c.z])].toArray w0 (fun v w' => Keep none_ w0 w' ∧ v = .bool (decide (lineOn a b c))) := by
  have s0 : Stt A w0 none_ [] w0 := Stt.start hA none_
  refine Cal.intro (n := 62) Tryz.func58 rfl Tryz.ntmps58 rfl ?_
  refine XC.seq ?_
  refine XC.region ?_
  refine XS.op rfl rfl (XO.new (cs := [.int .i64 a.x, .int .i64 a.y, .int .i64 a.z]) (T := 24) s0 rfl (by decide) (fun _ => by kernel_rfl) (fun b1 w2 s2 ev2 kp2 ybb1 => ?_))
  refine XS.op rfl rfl (XO.new (cs := [.int .i64 b.x, .int .i64 b.y, .int .i64 b.z]) (T := 24) s2 rfl (by decide) (fun _ => by kernel_rfl) (fun b3 w4 s4 ev4 kp4 ybb3 => ?_))
  refine XS.op rfl rfl (XO.new (cs := [.int .i64 c.x, .int .i64 c.y, .int .i64 c.z]) (T := 24) s4 rfl (by decide) (fun _ => by kernel_rfl) (fun b5 w6 s6 ev6 kp6 ybb5 => ?_))
  refine XS.vals' 1 [(6, .bool false)] (by kernel_rfl) ?_
  refine XS.done rfl (thn_norm ?_)
  refine XC.seq ?_
  refine XC.region ?_
  refine XS.vals' 1 [(13, .pointer (some ⟨b3, 0, none⟩))] (by kernel_rfl) ?_
  refine XS.op rfl rfl (XO.loadS (i := 1) (v := .int .i64 b.x) (g := false) (m := 1) s6 rfl rfl rfl (by decide) rfl (by kernel_rfl) (by kernel_rfl) rfl rfl rfl ?_)
  refine XS.vals' 1 [(15, .pointer (some ⟨b1, 0, none⟩))] (by kernel_rfl) ?_
  refine XS.op rfl rfl (XO.loadS (i := 0) (v := .int .i64 a.x) (g := false) (m := 1) s6 rfl rfl rfl (by decide) rfl (by kernel_rfl) (by kernel_rfl) rfl rfl rfl ?_)
  refine XS.op rfl rfl (XO.arith (k := .i64) (r := b.x - a.x) rfl (by decide) (fun _ => by kernel_rfl) (wrap_i64 (by (unfold Pt.ok inC at *; omega))) ?_)
  refine XS.vals' 1 [(7, .int .i64 (b.x - a.x))] (by kernel_rfl) ?_
  refine XS.done rfl (thn_norm ?_)
  refine XC.seq ?_
  refine XC.region ?_
  refine XS.vals' 1 [(18, .pointer (some ⟨b3, 1, none⟩))] (by kernel_rfl) ?_
  refine XS.op rfl rfl (XO.loadS (i := 1) (v := .int .i64 b.y) (g := false) (m := 1) s6 rfl rfl rfl (by decide) rfl (by kernel_rfl) (by kernel_rfl) rfl rfl rfl ?_)
  refine XS.vals' 1 [(20, .pointer (some ⟨b1, 1, none⟩))] (by kernel_rfl) ?_
  refine XS.op rfl rfl (XO.loadS (i := 0) (v := .int .i64 a.y) (g := false) (m := 1) s6 rfl rfl rfl (by decide) rfl (by kernel_rfl) (by kernel_rfl) rfl rfl rfl ?_)
  refine XS.op rfl rfl (XO.arith (k := .i64) (r := b.y - a.y) rfl (by decide) (fun _ => by kernel_rfl) (wrap_i64 (by (unfold Pt.ok inC at *; omega))) ?_)
  refine XS.vals' 1 [(8, .int .i64 (b.y - a.y))] (by kernel_rfl) ?_
  refine XS.done rfl (thn_norm ?_)
  refine XC.seq ?_
  refine XC.region ?_
  refine XS.vals' 1 [(23, .pointer (some ⟨b3, 2, none⟩))] (by kernel_rfl) ?_
  refine XS.op rfl rfl (XO.loadS (i := 1) (v := .int .i64 b.z) (g := false) (m := 1) s6 rfl rfl rfl (by decide) rfl (by kernel_rfl) (by kernel_rfl) rfl rfl rfl ?_)
  refine XS.vals' 1 [(25, .pointer (some ⟨b1, 2, none⟩))] (by kernel_rfl) ?_
  refine XS.op rfl rfl (XO.loadS (i := 0) (v := .int .i64 a.z) (g := false) (m := 1) s6 rfl rfl rfl (by decide) rfl (by kernel_rfl) (by kernel_rfl) rfl rfl rfl ?_)
  refine XS.op rfl rfl (XO.arith (k := .i64) (r := b.z - a.z) rfl (by decide) (fun _ => by kernel_rfl) (wrap_i64 (by (unfold Pt.ok inC at *; omega))) ?_)
  refine XS.vals' 1 [(9, .int .i64 (b.z - a.z))] (by kernel_rfl) ?_
  refine XS.done rfl (thn_norm ?_)
  refine XC.seq ?_
  refine XC.region ?_
  refine XS.vals' 1 [(28, .pointer (some ⟨b5, 0, none⟩))] (by kernel_rfl) ?_
  refine XS.op rfl rfl (XO.loadS (i := 2) (v := .int .i64 c.x) (g := false) (m := 1) s6 rfl rfl rfl (by decide) rfl (by kernel_rfl) (by kernel_rfl) rfl rfl rfl ?_)
  refine XS.vals' 1 [(30, .pointer (some ⟨b1, 0, none⟩))] (by kernel_rfl) ?_
  refine XS.op rfl rfl (XO.loadS (i := 0) (v := .int .i64 a.x) (g := false) (m := 1) s6 rfl rfl rfl (by decide) rfl (by kernel_rfl) (by kernel_rfl) rfl rfl rfl ?_)
  refine XS.op rfl rfl (XO.arith (k := .i64) (r := c.x - a.x) rfl (by decide) (fun _ => by kernel_rfl) (wrap_i64 (by (unfold Pt.ok inC at *; omega))) ?_)
  refine XS.vals' 1 [(10, .int .i64 (c.x - a.x))] (by kernel_rfl) ?_
  refine XS.done rfl (thn_norm ?_)
  refine XC.seq ?_
  refine XC.region ?_
  refine XS.vals' 1 [(33, .pointer (some ⟨b5, 1, none⟩))] (by kernel_rfl) ?_
  refine XS.op rfl rfl (XO.loadS (i := 2) (v := .int .i64 c.y) (g := false) (m := 1) s6 rfl rfl rfl (by decide) rfl (by kernel_rfl) (by kernel_rfl) rfl rfl rfl ?_)
  refine XS.vals' 1 [(35, .pointer (some ⟨b1, 1, none⟩))] (by kernel_rfl) ?_
  refine XS.op rfl rfl (XO.loadS (i := 0) (v := .int .i64 a.y) (g := false) (m := 1) s6 rfl rfl rfl (by decide) rfl (by kernel_rfl) (by kernel_rfl) rfl rfl rfl ?_)
  refine XS.op rfl rfl (XO.arith (k := .i64) (r := c.y - a.y) rfl (by decide) (fun _ => by kernel_rfl) (wrap_i64 (by (unfold Pt.ok inC at *; omega))) ?_)
  refine XS.vals' 1 [(11, .int .i64 (c.y - a.y))] (by kernel_rfl) ?_
  refine XS.done rfl (thn_norm ?_)
  refine XC.seq ?_
  refine XC.region ?_
  refine XS.vals' 1 [(38, .pointer (some ⟨b5, 2, none⟩))] (by kernel_rfl) ?_
  refine XS.op rfl rfl (XO.loadS (i := 2) (v := .int .i64 c.z) (g := false) (m := 1) s6 rfl rfl rfl (by decide) rfl (by kernel_rfl) (by kernel_rfl) rfl rfl rfl ?_)
  refine XS.vals' 1 [(40, .pointer (some ⟨b1, 2, none⟩))] (by kernel_rfl) ?_
  refine XS.op rfl rfl (XO.loadS (i := 0) (v := .int .i64 a.z) (g := false) (m := 1) s6 rfl rfl rfl (by decide) rfl (by kernel_rfl) (by kernel_rfl) rfl rfl rfl ?_)
  refine XS.op rfl rfl (XO.arith (k := .i64) (r := c.z - a.z) rfl (by decide) (fun _ => by kernel_rfl) (wrap_i64 (by (unfold Pt.ok inC at *; omega))) ?_)
  refine XS.vals' 1 [(12, .int .i64 (c.z - a.z))] (by kernel_rfl) ?_
  refine XS.done rfl (thn_norm ?_)
  refine XC.seq ?_
  refine XC.region ?_
  refine XS.vals' 4 [(43, .int .i64 (b.x - a.x)), (44, .int .i64 (c.y - a.y)), (45, .int .i64 (b.y - a.y)), (46, .int .i64 (c.x - a.x))] (by kernel_rfl) ?_
  refine XS.op rfl rfl (XO.callS (f := 90) (args := [(.int .i64 (b.x - a.x)), (.int .i64 (c.y - a.y)), (.int .i64 (b.y - a.y)), (.int .i64 (c.x - a.x))].toArray) s6 rfl (by decide) (fun _ => by kernel_rfl) (carapaceref2_same_ok (av A _) _ s6.av_fresh (b.x - a.x) (c.y - a.y) (b.y - a.y) (c.x - a.x) (by (unfold Pt.ok inC at *; omega)) (by (unfold Pt.ok inC at *; omega)) (by (unfold Pt.ok inC at *; omega)) (by (unfold Pt.ok inC at *; omega))) (fun _ w7 s7 ev7 kp7 hv_ => ?_))
  obtain rfl := hv_
  refine XS.vals' 1 [(48, .bool (decide ((b.x - a.x) * (c.y - a.y) = (b.y - a.y) * (c.x - a.x))))] (by kernel_rfl) ?_
  refine XS.onD 48 ((b.x - a.x) * (c.y - a.y) = (b.y - a.y) * (c.x - a.x)) rfl (fun hg8 => ?_) (fun hg8 => ?_)
  · skip
    refine XS.vals' 4 [(49, .int .i64 (b.y - a.y)), (50, .int .i64 (c.z - a.z)), (51, .int .i64 (b.z - a.z)), (52, .int .i64 (c.y - a.y))] (by kernel_rfl) ?_
    refine XS.op_g rfl rfl rfl (XO.callS (f := 90) (args := [(.int .i64 (b.y - a.y)), (.int .i64 (c.z - a.z)), (.int .i64 (b.z - a.z)), (.int .i64 (c.y - a.y))].toArray) s7 rfl (by decide) (fun _ => by kernel_rfl) (carapaceref2_same_ok (av A _) _ s7.av_fresh (b.y - a.y) (c.z - a.z) (b.z - a.z) (c.y - a.y) (by (unfold Pt.ok inC at *; omega)) (by (unfold Pt.ok inC at *; omega)) (by (unfold Pt.ok inC at *; omega)) (by (unfold Pt.ok inC at *; omega))) (fun _ w9 s9 ev9 kp9 hv_ => ?_))
    obtain rfl := hv_
    refine XS.vals' 2 [(54, .bool (decide ((b.y - a.y) * (c.z - a.z) = (b.z - a.z) * (c.y - a.y)))), (55, .bool (decide ((b.y - a.y) * (c.z - a.z) = (b.z - a.z) * (c.y - a.y))))] (by kernel_rfl) ?_
    refine XS.onD 55 ((b.y - a.y) * (c.z - a.z) = (b.z - a.z) * (c.y - a.y)) rfl (fun hg10 => ?_) (fun hg10 => ?_)
    · skip
      refine XS.vals' 4 [(56, .int .i64 (b.x - a.x)), (57, .int .i64 (c.z - a.z)), (58, .int .i64 (b.z - a.z)), (59, .int .i64 (c.x - a.x))] (by kernel_rfl) ?_
      refine XS.op_g rfl rfl rfl (XO.callS (f := 90) (args := [(.int .i64 (b.x - a.x)), (.int .i64 (c.z - a.z)), (.int .i64 (b.z - a.z)), (.int .i64 (c.x - a.x))].toArray) s9 rfl (by decide) (fun _ => by kernel_rfl) (carapaceref2_same_ok (av A _) _ s9.av_fresh (b.x - a.x) (c.z - a.z) (b.z - a.z) (c.x - a.x) (by (unfold Pt.ok inC at *; omega)) (by (unfold Pt.ok inC at *; omega)) (by (unfold Pt.ok inC at *; omega)) (by (unfold Pt.ok inC at *; omega))) (fun _ w11 s11 ev11 kp11 hv_ => ?_))
      obtain rfl := hv_
      refine XS.vals' 2 [(61, .bool (decide ((b.x - a.x) * (c.z - a.z) = (b.z - a.z) * (c.x - a.x)))), (6, .bool (decide ((b.x - a.x) * (c.z - a.z) = (b.z - a.z) * (c.x - a.x))))] (by kernel_rfl) ?_
      refine XS.done rfl (thn_norm ?_)
      refine XC.ret ?_
      refine ⟨Or.inr rfl, .bool (decide ((b.x - a.x) * (c.z - a.z) = (b.z - a.z) * (c.x - a.x))), fun a_ ha_ => results_t rfl ha_ rfl, s11.keep, ?_⟩
      refine congrArg Value.bool ?_
      rw [decide_eq_decide]
      unfold lineOn
      constructor <;> intro hh_ <;> (try refine ⟨?_, ?_, ?_⟩) <;> grind
    · skip
      refine XS.vals' 7 [(56, undef), (57, undef), (58, undef), (59, undef), (60, undef), (61, .bool false), (6, .bool false)] (by kernel_rfl) ?_
      refine XS.done rfl (thn_norm ?_)
      refine XC.ret ?_
      refine ⟨Or.inr rfl, .bool false, fun a_ ha_ => results_t rfl ha_ rfl, s9.keep, ?_⟩
      refine congrArg Value.bool ?_
      symm; rw [decide_eq_false_iff_not]
      unfold lineOn
      rintro ⟨e1, e2, e3⟩
      grind
  · skip
    refine XS.vals' 14 [(49, undef), (50, undef), (51, undef), (52, undef), (53, undef), (54, .bool false), (55, .bool false), (56, undef), (57, undef), (58, undef), (59, undef), (60, undef), (61, .bool false), (6, .bool false)] (by kernel_rfl) ?_
    refine XS.done rfl (thn_norm ?_)
    refine XC.ret ?_
    refine ⟨Or.inr rfl, .bool false, fun a_ ha_ => results_t rfl ha_ rfl, s7.keep, ?_⟩
    refine congrArg Value.bool ?_
    symm; rw [decide_eq_false_iff_not]
    unfold lineOn
    rintro ⟨e1, e2, e3⟩
    grind

end Go.Proofs.Tryz
namespace Go.Proofs.Tryz
open Go Go.X Go.RowKit Go.Sort
set_option maxRecDepth 100000
set_option maxHeartbeats 2000000
set_option linter.unusedVariables false
set_option linter.unusedSimpArgs false
theorem carapaceref2_four_ok (A : Nat → Prop) (w0 : World) (hA : ∀ b, w0.heap.size ≤ b → A b) (r0 : RW) (r1 : RW) (r2 : RW) (r3 : RW) (a_l : Option Addr) (c_l : Nat) (h_l : Sl tRW A w0 (.slice a_l 4 c_l) [r0, r1, r2, r3]) (hok : r0.ok ∧ r1.ok ∧ r2.ok ∧ r3.ok) (hw : r0.w = 1 ∧ r1.w = 1 ∧ r2.w = 1 ∧ r3.w = 1)  : Cal Tryz.prog 127 [(.slice a_l 4 c_l)].toArray w0 (fun v w' => Keep none_ w0 w' ∧ v = .agg #[.int .u64 (hiU (four4 r0 r1 r2 r3)), .int .u64 (loU (four4 r0 r1 r2 r3))]) := by
  have s0 : Stt A w0 none_ [] w0 := Stt.start hA none_
  have h_l_ := h_l.mono Evo.start
  have hn_r0 : ¬ r0.w = 0 := by omega
  have hn_r1 : ¬ r1.w = 0 := by omega
  have hn_r2 : ¬ r2.w = 0 := by omega
  have hn_r3 : ¬ r3.w = 0 := by omega
  refine Cal.intro (n := 51) Tryz.func127 rfl Tryz.ntmps127 rfl ?_
  refine XC.seq ?_
  refine XC.region ?_
  refine XS.op rfl rfl (XO.new (cs := [.int .u64 0, .int .u64 0]) (T := 142) s0 rfl (by decide) (fun _ => by kernel_rfl) (fun b1 w2 s2 ev2 kp2 ybb1 => ?_))
  refine XS.done rfl (thn_norm ?_)
  refine XC.seq ?_
  refine XC.region ?_
  refine XS.op rfl rfl (XO.new (cs := [.int .u64 0, .int .u64 0]) (T := 142) s2 rfl (by decide) (fun _ => by kernel_rfl) (fun b3 w4 s4 ev4 kp4 ybb3 => ?_))
  refine XS.done rfl (thn_norm ?_)
  refine XC.seq ?_
  refine XC.seq ?_
  obtain ⟨s5, ev5⟩ := Stt.norm s4 (S' := [cellsA b1 [.int .u64 0, .int .u64 0] 142, cellsA b3 [.int .u64 0, .int .u64 0] 142]) rfl
  refine XC.region ?_
  refine XS.vals' 1 [(4, .int .i64 0)] (by kernel_rfl) ?_
  refine XS.done rfl (thn_norm ?_)
  refine XC.block ?_
  refine XC.unroll 40 ?_
  refine XR.succ ?_
  refine XC.seq ?_
  refine XC.seq ?_
  refine XC.region ?_
  refine XS.vals' 2 [(8, .int .i64 0), (9, .bool true)] (by kernel_rfl) ?_
  refine XS.done rfl (thn_norm ?_)
  refine XC.cond_t rfl ?_
  refine XC.skip (thn_norm ?_)
  refine XC.seq ?_
  refine XC.block ?_
  refine XC.seq ?_
  refine XC.seq ?_
  refine XC.region ?_
  refine XS.vals' 2 [(12, .slice a_l 4 c_l), (13, .int .i64 0)] (by kernel_rfl) ?_
  have hz6 : ([r0, r1, r2, r3])[0]? = some r0 := rfl
  refine XS.op rfl rfl (XO.elem (i := 0) (z := r0) (e := 184) (sz := 4) (h_l_.mono (ev2.trans (ev4.trans ev5))) hz6 rfl rfl (by decide) rfl rfl (by omega) (by kernel_rfl) (by kernel_rfl) ?_)
  refine XS.op rfl rfl (XO.fieldE' (sz := 1) (fo := 3) (ft := 3) (h_l_.mono (ev2.trans (ev4.trans ev5))) hz6 rfl rfl (by decide) rfl (by kernel_rfl) (by kernel_rfl) rfl ?_)
  refine XS.op rfl rfl (XO.loadE (i := 0) (f := 3) (sz := 1) (g := false) (z := r0) (h_l_.mono (ev2.trans (ev4.trans ev5))) hz6 rfl rfl (by decide) rfl (by first | rfl | omega) (by kernel_rfl) (by kernel_rfl) rfl rfl (fun cs_ hcs_ => ?_))
  obtain rfl := hcs_
  refine XS.vals' 1 [(17, .bool (decide (r0.w = 0)))] (by kernel_rfl) ?_
  refine XS.done rfl (thn_norm ?_)
  refine XC.cond_f (congrArg Value.bool (decide_eq_false hn_r0)) ?_
  refine XC.skip (thn_norm ?_)
  refine XC.seq ?_
  refine XC.region ?_
  refine XS.vals' 1 [(5, .slice none 0 0)] (by kernel_rfl) ?_
  refine XS.done rfl (thn_norm ?_)
  refine XC.seq ?_
  refine XC.seq ?_
  refine XC.region ?_
  refine XS.vals' 1 [(6, .int .i64 0)] (by kernel_rfl) ?_
  refine XS.done rfl (thn_norm ?_)
  refine XC.block ?_
  refine XC.unroll 40 ?_
  refine XR.succ ?_
  refine XC.seq ?_
  refine XC.seq ?_
  refine XC.region ?_
  refine XS.vals' 2 [(18, .int .i64 0), (19, .bool true)] (by kernel_rfl) ?_
  refine XS.done rfl (thn_norm ?_)
  refine XC.cond_t rfl ?_
  refine XC.skip (thn_norm ?_)
  refine XC.seq ?_
  refine XC.block ?_
  refine XC.seq ?_
  refine XC.region ?_
  refine XS.vals' 3 [(22, .int .i64 0), (23, .int .i64 0), (24, .bool false)] (by kernel_rfl) ?_
  refine XS.done rfl (thn_norm ?_)
  refine XC.cond_f rfl ?_
  refine XC.skip (inBlk_norm (thn_norm ?_))
  refine XC.region ?_
  refine XS.vals' 3 [(20, .int .i64 0), (21, .int .i64 1), (6, .int .i64 1)] (by kernel_rfl) ?_
  refine XS.done rfl (thn_norm ?_)
  refine XR.succ ?_
  refine XC.seq ?_
  refine XC.seq ?_
  refine XC.region ?_
  refine XS.vals' 2 [(18, .int .i64 1), (19, .bool true)] (by kernel_rfl) ?_
  refine XS.done rfl (thn_norm ?_)
  refine XC.cond_t rfl ?_
  refine XC.skip (thn_norm ?_)
  refine XC.seq ?_
  refine XC.block ?_
  refine XC.seq ?_
  refine XC.region ?_
  refine XS.vals' 3 [(22, .int .i64 1), (23, .int .i64 0), (24, .bool true)] (by kernel_rfl) ?_
  refine XS.done rfl (thn_norm ?_)
  refine XC.cond_t rfl ?_
  refine XC.region ?_
  refine XS.vals' 3 [(25, .slice none 0 0), (26, .slice a_l 4 c_l), (27, .int .i64 1)] (by kernel_rfl) ?_
  have hz8 : ([r0, r1, r2, r3])[1]? = some r1 := rfl
  refine XS.op rfl rfl (XO.elem (i := 1) (z := r1) (e := 184) (sz := 4) (h_l_.mono (ev2.trans (ev4.trans ev5))) hz8 rfl rfl (by decide) rfl rfl (by omega) (by kernel_rfl) (by kernel_rfl) ?_)
  refine XS.op rfl rfl (XO.loadE (i := 1) (f := 0) (sz := 4) (g := true) (z := r1) (h_l_.mono (ev2.trans (ev4.trans ev5))) hz8 rfl rfl (by decide) rfl (by first | rfl | omega) (by kernel_rfl) (by kernel_rfl) rfl rfl (fun cs_ hcs_ => ?_))
  obtain rfl := hcs_
  refine XS.op rfl rfl (XO.newSl (k := 1) (cs := [.int .i64 r1.x, .int .i64 r1.y, .int .i64 r1.z, .int .i64 r1.w]) (T := 184) s5 rfl (by decide) (fun _ => by kernel_rfl) (fun b9 w10 s10 ev10 kp10 ybb9 => ?_))
  have s11 := Stt.nilRow s10 184 4
  have ev11 := Evo.nilRow s10 184 4
  have hroom13 : (0 + 1) * 32 ≤ 140737488355328 := by (first | omega | (simp; done) | (simp; omega))
  refine XS.op rfl rfl (XO.append (k' := [r1].length) (i := 3) (cs := ([])) (new := [.int .i64 r1.x, .int .i64 r1.y, .int .i64 r1.z, .int .i64 r1.w]) (sz := 4) (bytes := 32) (z := .agg #[.int .i64 0, .int .i64 0, .int .i64 0, .int .i64 0]) (k := 0) (m := 1) (by first | rfl | (simp only [List.length_append, List.length_cons, List.length_nil]; done) | (simp only [List.length_append, List.length_cons, List.length_nil]; omega) | (simp only [List.length_append, List.length_take, List.length_cons, List.length_nil]; omega)) s11 rfl rfl rfl (by decide) rfl rfl (by kernel_rfl) (by kernel_rfl) (by kernel_rfl) (by kernel_rfl) rfl rfl (Src.cells (o := 0) (m := 1) (s11.at_ (i := 2) rfl) (Nat.le_of_ble_eq_true rfl)) rfl (by exact hroom13) (fun ra14 rc15 w12 s12 ev12 kp12 => ?_))
  have hel16 : Els tRW (av A [cellsA b1 [.int .u64 0, .int .u64 0] 142, cellsA b3 [.int .u64 0, .int .u64 0] 142, cellsA b9 [.int .i64 r1.x, .int .i64 r1.y, .int .i64 r1.z, .int .i64 r1.w] 184, rowA (.slice ra14 ([r1].length) rc15) ([r1].length) ([.int .i64 r1.x, .int .i64 r1.y, .int .i64 r1.z, .int .i64 r1.w]) 184 4]) w12 ([.int .i64 r1.x, .int .i64 r1.y, .int .i64 r1.z, .int .i64 r1.w]) ([r1]) := Els.snoc ((Els.nil (τ := tRW))) (show Tp.R tRW _ _ _ r1 from rfl)
  refine XS.vals' 1 [(5, .slice ra14 ([r1].length) rc15)] (by kernel_rfl) ?_
  refine XS.done rfl (inBlk_norm (thn_norm ?_))
  obtain ⟨s17, ev17⟩ := Stt.norm s12 (S' := [cellsA b1 [.int .u64 0, .int .u64 0] 142, cellsA b3 [.int .u64 0, .int .u64 0] 142, cellsA b9 [.int .i64 r1.x, .int .i64 r1.y, .int .i64 r1.z, .int .i64 r1.w] 184, rowA (.slice ra14 ([r1].length) rc15) ([r1].length) ([.int .i64 r1.x, .int .i64 r1.y, .int .i64 r1.z, .int .i64 r1.w]) 184 4]) rfl
  refine XC.region ?_
  refine XS.vals' 3 [(20, .int .i64 1), (21, .int .i64 2), (6, .int .i64 2)] (by kernel_rfl) ?_
  refine XS.done rfl (thn_norm ?_)
  refine XR.succ ?_
  refine XC.seq ?_
  refine XC.seq ?_
  refine XC.region ?_
  refine XS.vals' 2 [(18, .int .i64 2), (19, .bool true)] (by kernel_rfl) ?_
  refine XS.done rfl (thn_norm ?_)
  refine XC.cond_t rfl ?_
  refine XC.skip (thn_norm ?_)
  refine XC.seq ?_
  refine XC.block ?_
  refine XC.seq ?_
  refine XC.region ?_
  refine XS.vals' 3 [(22, .int .i64 2), (23, .int .i64 0), (24, .bool true)] (by kernel_rfl) ?_
  refine XS.done rfl (thn_norm ?_)
  refine XC.cond_t rfl ?_
  refine XC.region ?_
  refine XS.vals' 3 [(25, .slice ra14 ([r1].length) rc15), (26, .slice a_l 4 c_l), (27, .int .i64 2)] (by kernel_rfl) ?_
  have hz18 : ([r0, r1, r2, r3])[2]? = some r2 := rfl
  refine XS.op rfl rfl (XO.elem (i := 2) (z := r2) (e := 184) (sz := 4) (h_l_.mono (ev2.trans (ev4.trans (ev5.trans (ev10.trans (ev11.trans (ev12.trans ev17))))))) hz18 rfl rfl (by decide) rfl rfl (by omega) (by kernel_rfl) (by kernel_rfl) ?_)
  refine XS.op rfl rfl (XO.loadE (i := 2) (f := 0) (sz := 4) (g := true) (z := r2) (h_l_.mono (ev2.trans (ev4.trans (ev5.trans (ev10.trans (ev11.trans (ev12.trans ev17))))))) hz18 rfl rfl (by decide) rfl (by first | rfl | omega) (by kernel_rfl) (by kernel_rfl) rfl rfl (fun cs_ hcs_ => ?_))
  obtain rfl := hcs_
  refine XS.op rfl rfl (XO.newSl (k := 1) (cs := [.int .i64 r2.x, .int .i64 r2.y, .int .i64 r2.z, .int .i64 r2.w]) (T := 184) s17 rfl (by decide) (fun _ => by kernel_rfl) (fun b19 w20 s20 ev20 kp20 ybb19 => ?_))
  have hroom22 : ([r1].length + 1) * 32 ≤ 140737488355328 := by (first | omega | (simp; done) | (simp; omega))
  refine XS.op rfl rfl (XO.append (k' := [r1, r2].length) (i := 3) (cs := ([.int .i64 r1.x, .int .i64 r1.y, .int .i64 r1.z, .int .i64 r1.w])) (new := [.int .i64 r2.x, .int .i64 r2.y, .int .i64 r2.z, .int .i64 r2.w]) (sz := 4) (bytes := 32) (z := .agg #[.int .i64 0, .int .i64 0, .int .i64 0, .int .i64 0]) (k := ([r1].length)) (m := 1) (by first | rfl | (simp only [List.length_append, List.length_cons, List.length_nil]; done) | (simp only [List.length_append, List.length_cons, List.length_nil]; omega) | (simp only [List.length_append, List.length_take, List.length_cons, List.length_nil]; omega)) s20 rfl rfl rfl (by decide) rfl rfl (by kernel_rfl) (by kernel_rfl) (by kernel_rfl) (by kernel_rfl) rfl rfl (Src.cells (o := 0) (m := 1) (s20.at_ (i := 4) rfl) (Nat.le_of_ble_eq_true rfl)) rfl (by exact hroom22) (fun ra23 rc24 w21 s21 ev21 kp21 => ?_))
  have hel25 : Els tRW (av A [cellsA b1 [.int .u64 0, .int .u64 0] 142, cellsA b3 [.int .u64 0, .int .u64 0] 142, cellsA b9 [.int .i64 r1.x, .int .i64 r1.y, .int .i64 r1.z, .int .i64 r1.w] 184, rowA (.slice ra23 ([r1, r2].length) rc24) ([r1, r2].length) ([.int .i64 r1.x, .int .i64 r1.y, .int .i64 r1.z, .int .i64 r1.w, .int .i64 r2.x, .int .i64 r2.y, .int .i64 r2.z, .int .i64 r2.w]) 184 4, cellsA b19 [.int .i64 r2.x, .int .i64 r2.y, .int .i64 r2.z, .int .i64 r2.w] 184]) w21 ([.int .i64 r1.x, .int .i64 r1.y, .int .i64 r1.z, .int .i64 r1.w, .int .i64 r2.x, .int .i64 r2.y, .int .i64 r2.z, .int .i64 r2.w]) ([r1, r2]) := Els.snoc (((hel16.mono (ev17.trans ev20))).mono ev21) (show Tp.R tRW _ _ _ r2 from rfl)
  refine XS.vals' 1 [(5, .slice ra23 ([r1, r2].length) rc24)] (by kernel_rfl) ?_
  refine XS.done rfl (inBlk_norm (thn_norm ?_))
  obtain ⟨s26, ev26⟩ := Stt.norm s21 (S' := [cellsA b1 [.int .u64 0, .int .u64 0] 142, cellsA b3 [.int .u64 0, .int .u64 0] 142, cellsA b9 [.int .i64 r1.x, .int .i64 r1.y, .int .i64 r1.z, .int .i64 r1.w] 184, rowA (.slice ra23 ([r1, r2].length) rc24) ([r1, r2].length) ([.int .i64 r1.x, .int .i64 r1.y, .int .i64 r1.z, .int .i64 r1.w, .int .i64 r2.x, .int .i64 r2.y, .int .i64 r2.z, .int .i64 r2.w]) 184 4, cellsA b19 [.int .i64 r2.x, .int .i64 r2.y, .int .i64 r2.z, .int .i64 r2.w] 184]) rfl
  refine XC.region ?_
  refine XS.vals' 3 [(20, .int .i64 2), (21, .int .i64 3), (6, .int .i64 3)] (by kernel_rfl) ?_
  refine XS.done rfl (thn_norm ?_)
  refine XR.succ ?_
  refine XC.seq ?_
  refine XC.seq ?_
  refine XC.region ?_
  refine XS.vals' 2 [(18, .int .i64 3), (19, .bool true)] (by kernel_rfl) ?_
  refine XS.done rfl (thn_norm ?_)
  refine XC.cond_t rfl ?_
  refine XC.skip (thn_norm ?_)
  refine XC.seq ?_
  refine XC.block ?_
  refine XC.seq ?_
  refine XC.region ?_
  refine XS.vals' 3 [(22, .int .i64 3), (23, .int .i64 0), (24, .bool true)] (by kernel_rfl) ?_
  refine XS.done rfl (thn_norm ?_)
  refine XC.cond_t rfl ?_
  refine XC.region ?_
  refine XS.vals' 3 [(25, .slice ra23 ([r1, r2].length) rc24), (26, .slice a_l 4 c_l), (27, .int .i64 3)] (by kernel_rfl) ?_
  have hz27 : ([r0, r1, r2, r3])[3]? = some r3 := rfl
  refine XS.op rfl rfl (XO.elem (i := 3) (z := r3) (e := 184) (sz := 4) (h_l_.mono (ev2.trans (ev4.trans (ev5.trans (ev10.trans (ev11.trans (ev12.trans (ev17.trans (ev20.trans (ev21.trans ev26)))))))))) hz27 rfl rfl (by decide) rfl rfl (by omega) (by kernel_rfl) (by kernel_rfl) ?_)
  refine XS.op rfl rfl (XO.loadE (i := 3) (f := 0) (sz := 4) (g := true) (z := r3) (h_l_.mono (ev2.trans (ev4.trans (ev5.trans (ev10.trans (ev11.trans (ev12.trans (ev17.trans (ev20.trans (ev21.trans ev26)))))))))) hz27 rfl rfl (by decide) rfl (by first | rfl | omega) (by kernel_rfl) (by kernel_rfl) rfl rfl (fun cs_ hcs_ => ?_))
  obtain rfl := hcs_
  refine XS.op rfl rfl (XO.newSl (k := 1) (cs := [.int .i64 r3.x, .int .i64 r3.y, .int .i64 r3.z, .int .i64 r3.w]) (T := 184) s26 rfl (by decide) (fun _ => by kernel_rfl) (fun b28 w29 s29 ev29 kp29 ybb28 => ?_))
  have hroom31 : ([r1, r2].length + 1) * 32 ≤ 140737488355328 := by (first | omega | (simp; done) | (simp; omega))
  refine XS.op rfl rfl (XO.append (k' := [r1, r2, r3].length) (i := 3) (cs := ([.int .i64 r1.x, .int .i64 r1.y, .int .i64 r1.z, .int .i64 r1.w, .int .i64 r2.x, .int .i64 r2.y, .int .i64 r2.z, .int .i64 r2.w])) (new := [.int .i64 r3.x, .int .i64 r3.y, .int .i64 r3.z, .int .i64 r3.w]) (sz := 4) (bytes := 32) (z := .agg #[.int .i64 0, .int .i64 0, .int .i64 0, .int .i64 0]) (k := ([r1, r2].length)) (m := 1) (by first | rfl | (simp only [List.length_append, List.length_cons, List.length_nil]; done) | (simp only [List.length_append, List.length_cons, List.length_nil]; omega) | (simp only [List.length_append, List.length_take, List.length_cons, List.length_nil]; omega)) s29 rfl rfl rfl (by decide) rfl rfl (by kernel_rfl) (by kernel_rfl) (by kernel_rfl) (by kernel_rfl) rfl rfl (Src.cells (o := 0) (m := 1) (s29.at_ (i := 5) rfl) (Nat.le_of_ble_eq_true rfl)) rfl (by exact hroom31) (fun ra32 rc33 w30 s30 ev30 kp30 => ?_))
  have hel34 : Els tRW (av A [cellsA b1 [.int .u64 0, .int .u64 0] 142, cellsA b3 [.int .u64 0, .int .u64 0] 142, cellsA b9 [.int .i64 r1.x, .int .i64 r1.y, .int .i64 r1.z, .int .i64 r1.w] 184, rowA (.slice ra32 ([r1, r2, r3].length) rc33) ([r1, r2, r3].length) ([.int .i64 r1.x, .int .i64 r1.y, .int .i64 r1.z, .int .i64 r1.w, .int .i64 r2.x, .int .i64 r2.y, .int .i64 r2.z, .int .i64 r2.w, .int .i64 r3.x, .int .i64 r3.y, .int .i64 r3.z, .int .i64 r3.w]) 184 4, cellsA b19 [.int .i64 r2.x, .int .i64 r2.y, .int .i64 r2.z, .int .i64 r2.w] 184, cellsA b28 [.int .i64 r3.x, .int .i64 r3.y, .int .i64 r3.z, .int .i64 r3.w] 184]) w30 ([.int .i64 r1.x, .int .i64 r1.y, .int .i64 r1.z, .int .i64 r1.w, .int .i64 r2.x, .int .i64 r2.y, .int .i64 r2.z, .int .i64 r2.w, .int .i64 r3.x, .int .i64 r3.y, .int .i64 r3.z, .int .i64 r3.w]) ([r1, r2, r3]) := Els.snoc (((hel25.mono (ev26.trans ev29))).mono ev30) (show Tp.R tRW _ _ _ r3 from rfl)
  refine XS.vals' 1 [(5, .slice ra32 ([r1, r2, r3].length) rc33)] (by kernel_rfl) ?_
  refine XS.done rfl (inBlk_norm (thn_norm ?_))
  obtain ⟨s35, ev35⟩ := Stt.norm s30 (S' := [cellsA b1 [.int .u64 0, .int .u64 0] 142, cellsA b3 [.int .u64 0, .int .u64 0] 142, cellsA b9 [.int .i64 r1.x, .int .i64 r1.y, .int .i64 r1.z, .int .i64 r1.w] 184, rowA (.slice ra32 ([r1, r2, r3].length) rc33) ([r1, r2, r3].length) ([.int .i64 r1.x, .int .i64 r1.y, .int .i64 r1.z, .int .i64 r1.w, .int .i64 r2.x, .int .i64 r2.y, .int .i64 r2.z, .int .i64 r2.w, .int .i64 r3.x, .int .i64 r3.y, .int .i64 r3.z, .int .i64 r3.w]) 184 4, cellsA b19 [.int .i64 r2.x, .int .i64 r2.y, .int .i64 r2.z, .int .i64 r2.w] 184, cellsA b28 [.int .i64 r3.x, .int .i64 r3.y, .int .i64 r3.z, .int .i64 r3.w] 184]) rfl
  refine XC.region ?_
  refine XS.vals' 3 [(20, .int .i64 3), (21, .int .i64 4), (6, .int .i64 4)] (by kernel_rfl) ?_
  refine XS.done rfl (thn_norm ?_)
  refine XR.succ ?_
  refine XC.seq ?_
  refine XC.seq ?_
  refine XC.region ?_
  refine XS.vals' 2 [(18, .int .i64 4), (19, .bool false)] (by kernel_rfl) ?_
  refine XS.done rfl (thn_norm ?_)
  refine XC.cond_f rfl ?_
  refine XC.exit (thn_exit (thn_exit (inBlk_hit (thn_norm ?_))))
  obtain ⟨rb36, ro37, rfl⟩ := row_addr (s35.at_ (i := 3) rfl) (by (first | omega | (simp; done) | (simp; omega)))
  refine XC.cut (fun ρ_ w_ => ∃ b52_ : Nat, Has ρ_ [(0, .slice a_l 4 c_l), (2, .pointer (some ⟨b1, 0, none⟩)), (3, .pointer (some ⟨b3, 0, none⟩)), (4, .int .i64 0), (5, .slice (some ⟨rb36, ro37, none⟩) ([r1, r2, r3].length) rc33), (6, .int .i64 4), (7, .pointer (some ⟨b52_, 0, none⟩)), (8, .int .i64 0), (9, .bool true), (12, .slice a_l 4 c_l), (13, .int .i64 0), (14, elemP a_l (0 * 4)), (15, elemP a_l ((0 * 4) + 3)), (16, .int .i64 r0.w), (17, .bool (decide (r0.w = 0))), (18, .int .i64 4), (19, .bool false), (20, .int .i64 3), (21, .int .i64 4), (22, .int .i64 3), (23, .int .i64 0), (24, .bool true), (25, .slice ra23 ([r1, r2].length) rc24), (26, .slice a_l 4 c_l), (27, .int .i64 3), (28, elemP a_l (3 * 4)), (29, .agg #[.int .i64 r3.x, .int .i64 r3.y, .int .i64 r3.z, .int .i64 r3.w]), (30, .slice (some ⟨b28, 0, none⟩) 1 1), (31, .slice (some ⟨rb36, ro37, none⟩) ([r1, r2, r3].length) rc33), (32, .slice (some ⟨rb36, ro37, none⟩) ([r1, r2, r3].length) rc33), (33, .pointer (some ⟨rb36, ro37 + 0 * 4, none⟩)), (34, .agg #[.int .i64 r1.x, .int .i64 r1.y, .int .i64 r1.z, .int .i64 r1.w]), (35, .slice (some ⟨rb36, ro37, none⟩) ([r1, r2, r3].length) rc33), (36, .pointer (some ⟨rb36, ro37 + 1 * 4, none⟩)), (37, .agg #[.int .i64 r2.x, .int .i64 r2.y, .int .i64 r2.z, .int .i64 r2.w]), (38, .slice (some ⟨rb36, ro37, none⟩) ([r1, r2, r3].length) rc33), (39, .pointer (some ⟨rb36, ro37 + 2 * 4, none⟩)), (40, .agg #[.int .i64 r3.x, .int .i64 r3.y, .int .i64 r3.z, .int .i64 r3.w]), (41, .agg #[.int .u64 (hiU (det3R r1 r2 r3)), .int .u64 (loU (det3R r1 r2 r3))])] ∧ Stt A w0 none_ [cellsA b1 [.int .u64 0, .int .u64 0] 142, cellsA b3 [.int .u64 0, .int .u64 0] 142, cellsA b9 [.int .i64 r1.x, .int .i64 r1.y, .int .i64 r1.z, .int .i64 r1.w] 184, rowA (.slice (some ⟨rb36, ro37, none⟩) ([r1, r2, r3].length) rc33) ([r1, r2, r3].length) ([.int .i64 r1.x, .int .i64 r1.y, .int .i64 r1.z, .int .i64 r1.w, .int .i64 r2.x, .int .i64 r2.y, .int .i64 r2.z, .int .i64 r2.w, .int .i64 r3.x, .int .i64 r3.y, .int .i64 r3.z, .int .i64 r3.w]) 184 4, cellsA b19 [.int .i64 r2.x, .int .i64 r2.y, .int .i64 r2.z, .int .i64 r2.w] 184, cellsA b28 [.int .i64 r3.x, .int .i64 r3.y, .int .i64 r3.z, .int .i64 r3.w] 184, cellsA b52_ [.int .u64 (hiU (det3R r1 r2 r3)), .int .u64 (loU (det3R r1 r2 r3))] 142] w_ ∧ Evo (av A [cellsA b1 [.int .u64 0, .int .u64 0] 142, cellsA b3 [.int .u64 0, .int .u64 0] 142, cellsA b9 [.int .i64 r1.x, .int .i64 r1.y, .int .i64 r1.z, .int .i64 r1.w] 184, rowA (.slice (some ⟨rb36, ro37, none⟩) ([r1, r2, r3].length) rc33) ([r1, r2, r3].length) ([.int .i64 r1.x, .int .i64 r1.y, .int .i64 r1.z, .int .i64 r1.w, .int .i64 r2.x, .int .i64 r2.y, .int .i64 r2.z, .int .i64 r2.w, .int .i64 r3.x, .int .i64 r3.y, .int .i64 r3.z, .int .i64 r3.w]) 184 4, cellsA b19 [.int .i64 r2.x, .int .i64 r2.y, .int .i64 r2.z, .int .i64 r2.w] 184, cellsA b28 [.int .i64 r3.x, .int .i64 r3.y, .int .i64 r3.z, .int .i64 r3.w] 184]) w30 (av A [cellsA b1 [.int .u64 0, .int .u64 0] 142, cellsA b3 [.int .u64 0, .int .u64 0] 142, cellsA b9 [.int .i64 r1.x, .int .i64 r1.y, .int .i64 r1.z, .int .i64 r1.w] 184, rowA (.slice (some ⟨rb36, ro37, none⟩) ([r1, r2, r3].length) rc33) ([r1, r2, r3].length) ([.int .i64 r1.x, .int .i64 r1.y, .int .i64 r1.z, .int .i64 r1.w, .int .i64 r2.x, .int .i64 r2.y, .int .i64 r2.z, .int .i64 r2.w, .int .i64 r3.x, .int .i64 r3.y, .int .i64 r3.z, .int .i64 r3.w]) 184 4, cellsA b19 [.int .i64 r2.x, .int .i64 r2.y, .int .i64 r2.z, .int .i64 r2.w] 184, cellsA b28 [.int .i64 r3.x, .int .i64 r3.y, .int .i64 r3.z, .int .i64 r3.w] 184, cellsA b52_ [.int .u64 (hiU (det3R r1 r2 r3)), .int .u64 (loU (det3R r1 r2 r3))] 142]) w_) ?_ ?_
  · skip
    refine XC.drawS 12 rfl (fun _ => False) 12 (by kernel_rfl) s35 (fun w38 s38 ev38 kp38 hH39 => ?_)
    refine XA.valD 0 32 (.slice (some ⟨rb36, ro37, none⟩) ([r1, r2, r3].length) rc33) rfl (by kernel_rfl) (by kernel_rfl) (by kernel_rfl) rfl (by kernel_rfl) rfl hH39 (fun hH40 => ?_)
    refine XA.index (p := 1) (i := 0) (e := 184) (sz := 4) rfl (by kernel_rfl) (by kernel_rfl) (by kernel_rfl) rfl (by kernel_rfl) rfl rfl (by decide) rfl rfl (by omega) (by (first | omega | (simp; done) | (simp; omega))) (by kernel_rfl) (by kernel_rfl) hH40 (fun hH41 => ?_)
    have hz43 : ([r1, r2, r3])[0]? = some r1 := rfl
    refine XA.loadRow false (p := 2) (q := 3) (j := 0) (z := r1) (g := true) s38 rfl (hel34.mono (ev35.trans ev38)) rfl hz43 rfl rfl (by kernel_rfl) (by kernel_rfl) (by kernel_rfl) rfl rfl (fun _ h => h) (by kernel_rfl) rfl rfl (by decide) hH41 rfl (by first | rfl | omega) (by kernel_rfl) (by kernel_rfl) rfl (fun cs_ hcs_ hH42 => ?_)
    obtain rfl := hcs_
    refine XA.valD 3 35 (.slice (some ⟨rb36, ro37, none⟩) ([r1, r2, r3].length) rc33) rfl (by kernel_rfl) (by kernel_rfl) (by kernel_rfl) rfl (by kernel_rfl) rfl hH42 (fun hH44 => ?_)
    refine XA.index (p := 4) (i := 1) (e := 184) (sz := 4) rfl (by kernel_rfl) (by kernel_rfl) (by kernel_rfl) rfl (by kernel_rfl) rfl rfl (by decide) rfl rfl (by omega) (by (first | omega | (simp; done) | (simp; omega))) (by kernel_rfl) (by kernel_rfl) hH44 (fun hH45 => ?_)
    have hz47 : ([r1, r2, r3])[1]? = some r2 := rfl
    refine XA.loadRow false (p := 5) (q := 3) (j := 1) (z := r2) (g := true) s38 rfl (hel34.mono (ev35.trans ev38)) rfl hz47 rfl rfl (by kernel_rfl) (by kernel_rfl) (by kernel_rfl) rfl rfl (fun _ h => h) (by kernel_rfl) rfl rfl (by decide) hH45 rfl (by first | rfl | omega) (by kernel_rfl) (by kernel_rfl) rfl (fun cs_ hcs_ hH46 => ?_)
    obtain rfl := hcs_
    refine XA.valD 6 38 (.slice (some ⟨rb36, ro37, none⟩) ([r1, r2, r3].length) rc33) rfl (by kernel_rfl) (by kernel_rfl) (by kernel_rfl) rfl (by kernel_rfl) rfl hH46 (fun hH48 => ?_)
    refine XA.index (p := 7) (i := 2) (e := 184) (sz := 4) rfl (by kernel_rfl) (by kernel_rfl) (by kernel_rfl) rfl (by kernel_rfl) rfl rfl (by decide) rfl rfl (by omega) (by (first | omega | (simp; done) | (simp; omega))) (by kernel_rfl) (by kernel_rfl) hH48 (fun hH49 => ?_)
    have hz51 : ([r1, r2, r3])[2]? = some r3 := rfl
    refine XA.loadRow false (p := 8) (q := 3) (j := 2) (z := r3) (g := true) s38 rfl (hel34.mono (ev35.trans ev38)) rfl hz51 rfl rfl (by kernel_rfl) (by kernel_rfl) (by kernel_rfl) rfl rfl (fun _ h => h) (by kernel_rfl) rfl rfl (by decide) hH49 rfl (by first | rfl | omega) (by kernel_rfl) (by kernel_rfl) rfl (fun cs_ hcs_ hH50 => ?_)
    obtain rfl := hcs_
    refine XA.op2 (i := 9) (j := 10) rfl rfl (by kernel_rfl) (by kernel_rfl) (by kernel_rfl) ?_ ?_
    · skip
      refine XO.callS (f := 161) (args := [(.agg #[.int .i64 r1.x, .int .i64 r1.y, .int .i64 r1.z, .int .i64 r1.w]), (.agg #[.int .i64 r2.x, .int .i64 r2.y, .int .i64 r2.z, .int .i64 r2.w]), (.agg #[.int .i64 r3.x, .int .i64 r3.y, .int .i64 r3.z, .int .i64 r3.w])].toArray) s38 rfl (by decide) (fun _ => by kernel_rfl) (carapaceref2_three_ok (av A _) _ s38.av_fresh r1 r2 r3 (by first | exact hok.1 | exact hok.2.1 | exact hok.2.2.1 | exact hok.2.2.2) (by first | exact hok.1 | exact hok.2.1 | exact hok.2.2.1 | exact hok.2.2.2) (by first | exact hok.1 | exact hok.2.1 | exact hok.2.2.1 | exact hok.2.2.2)) (fun _ w52 s52 ev52 kp52 hv_ => ?_)
      obtain rfl := hv_
      have hH53 := hH50.keep (i := 9) kp52 rfl
      refine ⟨hH53, ?_⟩
      refine XA.op (i := 10) rfl (by kernel_rfl) (by kernel_rfl) (XO.new (cs := [.int .u64 0, .int .u64 0]) (T := 142) s52 rfl (by decide) (fun _ => by kernel_rfl) (fun b54 w55 s55 ev55 kp55 ybb54 => ?_))
      have hH56 := hH53.keep (i := 10) kp55 rfl
      refine ⟨hH56, ?_⟩
      refine XA.op (i := 11) rfl (by kernel_rfl) (by kernel_rfl) (XO.storeS (i := 6) (v := .agg #[.int .u64 (hiU (det3R r1 r2 r3)), .int .u64 (loU (det3R r1 r2 r3))]) (m := 2) (cs' := [.int .u64 (hiU (det3R r1 r2 r3)), .int .u64 (loU (det3R r1 r2 r3))]) s55 rfl rfl rfl rfl rfl (by kernel_rfl) rfl rfl rfl rfl (fun w57 s57 ev57 kp57 => ?_))
      have hH58 := hH56.young (i := 11) kp57 (by exact (Nat.le_trans hH53.1 ybb54)) rfl
      refine ⟨hH58, ?_⟩
      refine XA.done (by kernel_rfl) (thn_norm ?_)
      exact ⟨b54, ⟨rfl, rfl, rfl, rfl, rfl, rfl, rfl, rfl, rfl, rfl, rfl, rfl, rfl, rfl, rfl, rfl, rfl, rfl, rfl, rfl, rfl, rfl, rfl, rfl, rfl, rfl, rfl, rfl, rfl, rfl, rfl, rfl, rfl, rfl, rfl, rfl, rfl, rfl, rfl, trivial⟩, s57, (ev38.trans (ev52.trans (ev55.trans ev57)))⟩
    · skip
      refine XO.new (cs := [.int .u64 0, .int .u64 0]) (T := 142) s38 rfl (by decide) (fun _ => by kernel_rfl) (fun b59 w60 s60 ev60 kp60 ybb59 => ?_)
      have hH61 := hH50.keep (i := 10) kp60 rfl
      refine ⟨hH61, ?_⟩
      refine XA.op (i := 9) rfl (by kernel_rfl) (by kernel_rfl) (XO.callS (f := 161) (args := [(.agg #[.int .i64 r1.x, .int .i64 r1.y, .int .i64 r1.z, .int .i64 r1.w]), (.agg #[.int .i64 r2.x, .int .i64 r2.y, .int .i64 r2.z, .int .i64 r2.w]), (.agg #[.int .i64 r3.x, .int .i64 r3.y, .int .i64 r3.z, .int .i64 r3.w])].toArray) s60 rfl (by decide) (fun _ => by kernel_rfl) (carapaceref2_three_ok (av A _) _ s60.av_fresh r1 r2 r3 (by first | exact hok.1 | exact hok.2.1 | exact hok.2.2.1 | exact hok.2.2.2) (by first | exact hok.1 | exact hok.2.1 | exact hok.2.2.1 | exact hok.2.2.2) (by first | exact hok.1 | exact hok.2.1 | exact hok.2.2.1 | exact hok.2.2.2)) (fun _ w62 s62 ev62 kp62 hv_ => ?_))
      obtain rfl := hv_
      have hH63 := hH61.keep (i := 9) kp62 rfl
      refine ⟨hH63, ?_⟩
      refine XA.op (i := 11) rfl (by kernel_rfl) (by kernel_rfl) (XO.storeS (i := 6) (v := .agg #[.int .u64 (hiU (det3R r1 r2 r3)), .int .u64 (loU (det3R r1 r2 r3))]) (m := 2) (cs' := [.int .u64 (hiU (det3R r1 r2 r3)), .int .u64 (loU (det3R r1 r2 r3))]) s62 rfl rfl rfl rfl rfl (by kernel_rfl) rfl rfl rfl rfl (fun w64 s64 ev64 kp64 => ?_))
      have hH65 := hH63.young (i := 11) kp64 (by exact (Nat.le_trans hH50.1 ybb59)) rfl
      refine ⟨hH65, ?_⟩
      refine XA.done (by kernel_rfl) (thn_norm ?_)
      exact ⟨b59, ⟨rfl, rfl, rfl, rfl, rfl, rfl, rfl, rfl, rfl, rfl, rfl, rfl, rfl, rfl, rfl, rfl, rfl, rfl, rfl, rfl, rfl, rfl, rfl, rfl, rfl, rfl, rfl, rfl, rfl, rfl, rfl, rfl, rfl, rfl, rfl, rfl, rfl, rfl, rfl, trivial⟩, s64, (ev38.trans (ev60.trans (ev62.trans ev64)))⟩
  intro ρw66 w66 hJ_
  obtain ⟨b52_, hh66, s66, ev66⟩ := hJ_
  refine XC.rebase hh66 ?_
  refine XC.seq ?_
  refine XC.seq ?_
  obtain ⟨s67, ev67⟩ := Stt.norm s66 (S' := [cellsA b1 [.int .u64 0, .int .u64 0] 142, cellsA b3 [.int .u64 0, .int .u64 0] 142, cellsA b9 [.int .i64 r1.x, .int .i64 r1.y, .int .i64 r1.z, .int .i64 r1.w] 184, rowA (.slice (some ⟨rb36, ro37, none⟩) ([r1, r2, r3].length) rc33) ([r1, r2, r3].length) ([.int .i64 r1.x, .int .i64 r1.y, .int .i64 r1.z, .int .i64 r1.w, .int .i64 r2.x, .int .i64 r2.y, .int .i64 r2.z, .int .i64 r2.w, .int .i64 r3.x, .int .i64 r3.y, .int .i64 r3.z, .int .i64 r3.w]) 184 4, cellsA b19 [.int .i64 r2.x, .int .i64 r2.y, .int .i64 r2.z, .int .i64 r2.w] 184, cellsA b28 [.int .i64 r3.x, .int .i64 r3.y, .int .i64 r3.z, .int .i64 r3.w] 184, cellsA b52_ [.int .u64 (hiU (det3R r1 r2 r3)), .int .u64 (loU (det3R r1 r2 r3))] 142]) rfl
  refine XC.region ?_
  refine XS.vals' 3 [(42, .int .i64 0), (43, .int .i64 0), (44, .bool true)] (by kernel_rfl) ?_
  refine XS.done rfl (thn_norm ?_)
  refine XC.cond_t rfl ?_
  refine XC.region ?_
  refine XS.op rfl rfl (XO.loadS (i := 6) (v := .agg #[.int .u64 (hiU (det3R r1 r2 r3)), .int .u64 (loU (det3R r1 r2 r3))]) (g := true) (m := 2) s67 rfl rfl rfl (by decide) rfl (by kernel_rfl) (by kernel_rfl) rfl rfl rfl ?_)
  refine XS.op rfl rfl (XO.callS (f := 162) (args := [(.agg #[.int .u64 (hiU (det3R r1 r2 r3)), .int .u64 (loU (det3R r1 r2 r3))])].toArray) s67 rfl (by decide) (fun _ => by kernel_rfl) (carapaceref1_Neg_ok (av A _) _ s67.av_fresh (det3R r1 r2 r3) ) (fun _ w68 s68 ev68 kp68 hv_ => ?_))
  obtain rfl := hv_
  refine XS.op rfl rfl (XO.storeS (i := 6) (v := .agg #[.int .u64 (hiU (0 - (det3R r1 r2 r3))), .int .u64 (loU (0 - (det3R r1 r2 r3)))]) (m := 2) (cs' := [.int .u64 (hiU (0 - (det3R r1 r2 r3))), .int .u64 (loU (0 - (det3R r1 r2 r3)))]) s68 rfl rfl rfl rfl rfl (by kernel_rfl) rfl rfl rfl rfl (fun w69 s69 ev69 kp69 => ?_))
  refine XS.done rfl (thn_norm ?_)
  obtain ⟨s70, ev70⟩ := Stt.norm s69 (S' := [cellsA b1 [.int .u64 0, .int .u64 0] 142, cellsA b3 [.int .u64 0, .int .u64 0] 142, cellsA b9 [.int .i64 r1.x, .int .i64 r1.y, .int .i64 r1.z, .int .i64 r1.w] 184, rowA (.slice (some ⟨rb36, ro37, none⟩) ([r1, r2, r3].length) rc33) ([r1, r2, r3].length) ([.int .i64 r1.x, .int .i64 r1.y, .int .i64 r1.z, .int .i64 r1.w, .int .i64 r2.x, .int .i64 r2.y, .int .i64 r2.z, .int .i64 r2.w, .int .i64 r3.x, .int .i64 r3.y, .int .i64 r3.z, .int .i64 r3.w]) 184 4, cellsA b19 [.int .i64 r2.x, .int .i64 r2.y, .int .i64 r2.z, .int .i64 r2.w] 184, cellsA b28 [.int .i64 r3.x, .int .i64 r3.y, .int .i64 r3.z, .int .i64 r3.w] 184, cellsA b52_ [.int .u64 (hiU (0 - (det3R r1 r2 r3))), .int .u64 (loU (0 - (det3R r1 r2 r3)))] 142]) rfl
  refine XC.region ?_
  refine XS.op rfl rfl (XO.loadS (i := 1) (v := .agg #[.int .u64 0, .int .u64 0]) (g := true) (m := 2) s70 rfl rfl rfl (by decide) rfl (by kernel_rfl) (by kernel_rfl) rfl rfl rfl ?_)
  refine XS.op rfl rfl (XO.loadS (i := 6) (v := .agg #[.int .u64 (hiU (0 - (det3R r1 r2 r3))), .int .u64 (loU (0 - (det3R r1 r2 r3)))]) (g := true) (m := 2) s70 rfl rfl rfl (by decide) rfl (by kernel_rfl) (by kernel_rfl) rfl rfl rfl ?_)
  refine XS.op rfl rfl (XO.callS (f := 163) (args := [(.agg #[.int .u64 0, .int .u64 0]), (.agg #[.int .u64 (hiU (0 - (det3R r1 r2 r3))), .int .u64 (loU (0 - (det3R r1 r2 r3)))])].toArray) s70 rfl (by decide) (fun _ => by kernel_rfl) (carapaceref1_Add_ok (av A _) _ s70.av_fresh 0 (0 - (det3R r1 r2 r3)) ) (fun _ w71 s71 ev71 kp71 hv_ => ?_))
  obtain rfl := hv_
  refine XS.op rfl rfl (XO.storeS (i := 1) (v := .agg #[.int .u64 (hiU (0 + (0 - (det3R r1 r2 r3)))), .int .u64 (loU (0 + (0 - (det3R r1 r2 r3))))]) (m := 2) (cs' := [.int .u64 (hiU (0 + (0 - (det3R r1 r2 r3)))), .int .u64 (loU (0 + (0 - (det3R r1 r2 r3))))]) s71 rfl rfl rfl rfl rfl (by kernel_rfl) rfl rfl rfl rfl (fun w72 s72 ev72 kp72 => ?_))
  refine XS.done rfl (inBlk_norm (thn_norm ?_))
  obtain ⟨s73, ev73⟩ := Stt.norm s72 (S' := [cellsA b1 [.int .u64 0, .int .u64 0] 142, cellsA b3 [.int .u64 (hiU (0 + (0 - (det3R r1 r2 r3)))), .int .u64 (loU (0 + (0 - (det3R r1 r2 r3))))] 142, cellsA b9 [.int .i64 r1.x, .int .i64 r1.y, .int .i64 r1.z, .int .i64 r1.w] 184, rowA (.slice (some ⟨rb36, ro37, none⟩) ([r1, r2, r3].length) rc33) ([r1, r2, r3].length) ([.int .i64 r1.x, .int .i64 r1.y, .int .i64 r1.z, .int .i64 r1.w, .int .i64 r2.x, .int .i64 r2.y, .int .i64 r2.z, .int .i64 r2.w, .int .i64 r3.x, .int .i64 r3.y, .int .i64 r3.z, .int .i64 r3.w]) 184 4, cellsA b19 [.int .i64 r2.x, .int .i64 r2.y, .int .i64 r2.z, .int .i64 r2.w] 184, cellsA b28 [.int .i64 r3.x, .int .i64 r3.y, .int .i64 r3.z, .int .i64 r3.w] 184, cellsA b52_ [.int .u64 (hiU (0 - (det3R r1 r2 r3))), .int .u64 (loU (0 - (det3R r1 r2 r3)))] 142]) rfl
  refine XC.region ?_
  refine XS.vals' 3 [(10, .int .i64 0), (11, .int .i64 1), (4, .int .i64 1)] (by kernel_rfl) ?_
  refine XS.done rfl (thn_norm ?_)
  refine XR.succ ?_
  refine XC.seq ?_
  refine XC.seq ?_
  refine XC.region ?_
  refine XS.vals' 2 [(8, .int .i64 1), (9, .bool true)] (by kernel_rfl) ?_
  refine XS.done rfl (thn_norm ?_)
  refine XC.cond_t rfl ?_
  refine XC.skip (thn_norm ?_)
  refine XC.seq ?_
  refine XC.block ?_
  refine XC.seq ?_
  refine XC.seq ?_
  refine XC.region ?_
  refine XS.vals' 2 [(12, .slice a_l 4 c_l), (13, .int .i64 1)] (by kernel_rfl) ?_
  have hz74 : ([r0, r1, r2, r3])[1]? = some r1 := rfl
  refine XS.op rfl rfl (XO.elem (i := 1) (z := r1) (e := 184) (sz := 4) (h_l_.mono (ev2.trans (ev4.trans (ev5.trans (ev10.trans (ev11.trans (ev12.trans (ev17.trans (ev20.trans (ev21.trans (ev26.trans (ev29.trans (ev30.trans (ev35.trans (ev66.trans (ev67.trans (ev68.trans (ev69.trans (ev70.trans (ev71.trans (ev72.trans ev73))))))))))))))))))))) hz74 rfl rfl (by decide) rfl rfl (by omega) (by kernel_rfl) (by kernel_rfl) ?_)
  refine XS.op rfl rfl (XO.fieldE' (sz := 1) (fo := 3) (ft := 3) (h_l_.mono (ev2.trans (ev4.trans (ev5.trans (ev10.trans (ev11.trans (ev12.trans (ev17.trans (ev20.trans (ev21.trans (ev26.trans (ev29.trans (ev30.trans (ev35.trans (ev66.trans (ev67.trans (ev68.trans (ev69.trans (ev70.trans (ev71.trans (ev72.trans ev73))))))))))))))))))))) hz74 rfl rfl (by decide) rfl (by kernel_rfl) (by kernel_rfl) rfl ?_)
  refine XS.op rfl rfl (XO.loadE (i := 1) (f := 3) (sz := 1) (g := false) (z := r1) (h_l_.mono (ev2.trans (ev4.trans (ev5.trans (ev10.trans (ev11.trans (ev12.trans (ev17.trans (ev20.trans (ev21.trans (ev26.trans (ev29.trans (ev30.trans (ev35.trans (ev66.trans (ev67.trans (ev68.trans (ev69.trans (ev70.trans (ev71.trans (ev72.trans ev73))))))))))))))))))))) hz74 rfl rfl (by decide) rfl (by first | rfl | omega) (by kernel_rfl) (by kernel_rfl) rfl rfl (fun cs_ hcs_ => ?_))
  obtain rfl := hcs_
  refine XS.vals' 1 [(17, .bool (decide (r1.w = 0)))] (by kernel_rfl) ?_
  refine XS.done rfl (thn_norm ?_)
  refine XC.cond_f (congrArg Value.bool (decide_eq_false hn_r1)) ?_
  refine XC.skip (thn_norm ?_)
  refine XC.seq ?_
  refine XC.region ?_
  refine XS.vals' 1 [(5, .slice none 0 0)] (by kernel_rfl) ?_
  refine XS.done rfl (thn_norm ?_)
  refine XC.seq ?_
  refine XC.seq ?_
  refine XC.region ?_
  refine XS.vals' 1 [(6, .int .i64 0)] (by kernel_rfl) ?_
  refine XS.done rfl (thn_norm ?_)
  refine XC.block ?_
  refine XC.unroll 40 ?_
  refine XR.succ ?_
  refine XC.seq ?_
  refine XC.seq ?_
  refine XC.region ?_
  refine XS.vals' 2 [(18, .int .i64 0), (19, .bool true)] (by kernel_rfl) ?_
  refine XS.done rfl (thn_norm ?_)
  refine XC.cond_t rfl ?_
  refine XC.skip (thn_norm ?_)
  refine XC.seq ?_
  refine XC.block ?_
  refine XC.seq ?_
  refine XC.region ?_
  refine XS.vals' 3 [(22, .int .i64 0), (23, .int .i64 1), (24, .bool true)] (by kernel_rfl) ?_
  refine XS.done rfl (thn_norm ?_)
  refine XC.cond_t rfl ?_
  refine XC.region ?_
  refine XS.vals' 3 [(25, .slice none 0 0), (26, .slice a_l 4 c_l), (27, .int .i64 0)] (by kernel_rfl) ?_
  have hz76 : ([r0, r1, r2, r3])[0]? = some r0 := rfl
  refine XS.op rfl rfl (XO.elem (i := 0) (z := r0) (e := 184) (sz := 4) (h_l_.mono (ev2.trans (ev4.trans (ev5.trans (ev10.trans (ev11.trans (ev12.trans (ev17.trans (ev20.trans (ev21.trans (ev26.trans (ev29.trans (ev30.trans (ev35.trans (ev66.trans (ev67.trans (ev68.trans (ev69.trans (ev70.trans (ev71.trans (ev72.trans ev73))))))))))))))))))))) hz76 rfl rfl (by decide) rfl rfl (by omega) (by kernel_rfl) (by kernel_rfl) ?_)
  refine XS.op rfl rfl (XO.loadE (i := 0) (f := 0) (sz := 4) (g := true) (z := r0) (h_l_.mono (ev2.trans (ev4.trans (ev5.trans (ev10.trans (ev11.trans (ev12.trans (ev17.trans (ev20.trans (ev21.trans (ev26.trans (ev29.trans (ev30.trans (ev35.trans (ev66.trans (ev67.trans (ev68.trans (ev69.trans (ev70.trans (ev71.trans (ev72.trans ev73))))))))))))))))))))) hz76 rfl rfl (by decide) rfl (by first | rfl | omega) (by kernel_rfl) (by kernel_rfl) rfl rfl (fun cs_ hcs_ => ?_))
  obtain rfl := hcs_
  refine XS.op rfl rfl (XO.newSl (k := 1) (cs := [.int .i64 r0.x, .int .i64 r0.y, .int .i64 r0.z, .int .i64 r0.w]) (T := 184) s73 rfl (by decide) (fun _ => by kernel_rfl) (fun b77 w78 s78 ev78 kp78 ybb77 => ?_))
  have s79 := Stt.nilRow s78 184 4
  have ev79 := Evo.nilRow s78 184 4
  have hroom81 : (0 + 1) * 32 ≤ 140737488355328 := by (first | omega | (simp; done) | (simp; omega))
  refine XS.op rfl rfl (XO.append (k' := [r0].length) (i := 8) (cs := ([])) (new := [.int .i64 r0.x, .int .i64 r0.y, .int .i64 r0.z, .int .i64 r0.w]) (sz := 4) (bytes := 32) (z := .agg #[.int .i64 0, .int .i64 0, .int .i64 0, .int .i64 0]) (k := 0) (m := 1) (by first | rfl | (simp only [List.length_append, List.length_cons, List.length_nil]; done) | (simp only [List.length_append, List.length_cons, List.length_nil]; omega) | (simp only [List.length_append, List.length_take, List.length_cons, List.length_nil]; omega)) s79 rfl rfl rfl (by decide) rfl rfl (by kernel_rfl) (by kernel_rfl) (by kernel_rfl) (by kernel_rfl) rfl rfl (Src.cells (o := 0) (m := 1) (s79.at_ (i := 7) rfl) (Nat.le_of_ble_eq_true rfl)) rfl (by exact hroom81) (fun ra82 rc83 w80 s80 ev80 kp80 => ?_))
  have hel84 : Els tRW (av A [cellsA b1 [.int .u64 0, .int .u64 0] 142, cellsA b3 [.int .u64 (hiU (0 + (0 - (det3R r1 r2 r3)))), .int .u64 (loU (0 + (0 - (det3R r1 r2 r3))))] 142, cellsA b9 [.int .i64 r1.x, .int .i64 r1.y, .int .i64 r1.z, .int .i64 r1.w] 184, rowA (.slice (some ⟨rb36, ro37, none⟩) ([r1, r2, r3].length) rc33) ([r1, r2, r3].length) ([.int .i64 r1.x, .int .i64 r1.y, .int .i64 r1.z, .int .i64 r1.w, .int .i64 r2.x, .int .i64 r2.y, .int .i64 r2.z, .int .i64 r2.w, .int .i64 r3.x, .int .i64 r3.y, .int .i64 r3.z, .int .i64 r3.w]) 184 4, cellsA b19 [.int .i64 r2.x, .int .i64 r2.y, .int .i64 r2.z, .int .i64 r2.w] 184, cellsA b28 [.int .i64 r3.x, .int .i64 r3.y, .int .i64 r3.z, .int .i64 r3.w] 184, cellsA b52_ [.int .u64 (hiU (0 - (det3R r1 r2 r3))), .int .u64 (loU (0 - (det3R r1 r2 r3)))] 142, cellsA b77 [.int .i64 r0.x, .int .i64 r0.y, .int .i64 r0.z, .int .i64 r0.w] 184, rowA (.slice ra82 ([r0].length) rc83) ([r0].length) ([.int .i64 r0.x, .int .i64 r0.y, .int .i64 r0.z, .int .i64 r0.w]) 184 4]) w80 ([.int .i64 r0.x, .int .i64 r0.y, .int .i64 r0.z, .int .i64 r0.w]) ([r0]) := Els.snoc ((Els.nil (τ := tRW))) (show Tp.R tRW _ _ _ r0 from rfl)
  refine XS.vals' 1 [(5, .slice ra82 ([r0].length) rc83)] (by kernel_rfl) ?_
  refine XS.done rfl (inBlk_norm (thn_norm ?_))
  obtain ⟨s85, ev85⟩ := Stt.norm s80 (S' := [cellsA b1 [.int .u64 0, .int .u64 0] 142, cellsA b3 [.int .u64 (hiU (0 + (0 - (det3R r1 r2 r3)))), .int .u64 (loU (0 + (0 - (det3R r1 r2 r3))))] 142, cellsA b9 [.int .i64 r1.x, .int .i64 r1.y, .int .i64 r1.z, .int .i64 r1.w] 184, rowA (.slice (some ⟨rb36, ro37, none⟩) ([r1, r2, r3].length) rc33) ([r1, r2, r3].length) ([.int .i64 r1.x, .int .i64 r1.y, .int .i64 r1.z, .int .i64 r1.w, .int .i64 r2.x, .int .i64 r2.y, .int .i64 r2.z, .int .i64 r2.w, .int .i64 r3.x, .int .i64 r3.y, .int .i64 r3.z, .int .i64 r3.w]) 184 4, cellsA b19 [.int .i64 r2.x, .int .i64 r2.y, .int .i64 r2.z, .int .i64 r2.w] 184, cellsA b28 [.int .i64 r3.x, .int .i64 r3.y, .int .i64 r3.z, .int .i64 r3.w] 184, cellsA b52_ [.int .u64 (hiU (0 - (det3R r1 r2 r3))), .int .u64 (loU (0 - (det3R r1 r2 r3)))] 142, cellsA b77 [.int .i64 r0.x, .int .i64 r0.y, .int .i64 r0.z, .int .i64 r0.w] 184, rowA (.slice ra82 ([r0].length) rc83) ([r0].length) ([.int .i64 r0.x, .int .i64 r0.y, .int .i64 r0.z, .int .i64 r0.w]) 184 4]) rfl
  refine XC.region ?_
  refine XS.vals' 3 [(20, .int .i64 0), (21, .int .i64 1), (6, .int .i64 1)] (by kernel_rfl) ?_
  refine XS.done rfl (thn_norm ?_)
  refine XR.succ ?_
  refine XC.seq ?_
  refine XC.seq ?_
  refine XC.region ?_
  refine XS.vals' 2 [(18, .int .i64 1), (19, .bool true)] (by kernel_rfl) ?_
  refine XS.done rfl (thn_norm ?_)
  refine XC.cond_t rfl ?_
  refine XC.skip (thn_norm ?_)
  refine XC.seq ?_
  refine XC.block ?_
  refine XC.seq ?_
  refine XC.region ?_
  refine XS.vals' 3 [(22, .int .i64 1), (23, .int .i64 1), (24, .bool false)] (by kernel_rfl) ?_
  refine XS.done rfl (thn_norm ?_)
  refine XC.cond_f rfl ?_
  refine XC.skip (inBlk_norm (thn_norm ?_))
  refine XC.region ?_
  refine XS.vals' 3 [(20, .int .i64 1), (21, .int .i64 2), (6, .int .i64 2)] (by kernel_rfl) ?_
  refine XS.done rfl (thn_norm ?_)
  refine XR.succ ?_
  refine XC.seq ?_
  refine XC.seq ?_
  refine XC.region ?_
  refine XS.vals' 2 [(18, .int .i64 2), (19, .bool true)] (by kernel_rfl) ?_
  refine XS.done rfl (thn_norm ?_)
  refine XC.cond_t rfl ?_
  refine XC.skip (thn_norm ?_)
  refine XC.seq ?_
  refine XC.block ?_
  refine XC.seq ?_
  refine XC.region ?_
  refine XS.vals' 3 [(22, .int .i64 2), (23, .int .i64 1), (24, .bool true)] (by kernel_rfl) ?_
  refine XS.done rfl (thn_norm ?_)
  refine XC.cond_t rfl ?_
  refine XC.region ?_
  refine XS.vals' 3 [(25, .slice ra82 ([r0].length) rc83), (26, .slice a_l 4 c_l), (27, .int .i64 2)] (by kernel_rfl) ?_
  have hz86 : ([r0, r1, r2, r3])[2]? = some r2 := rfl
  refine XS.op rfl rfl (XO.elem (i := 2) (z := r2) (e := 184) (sz := 4) (h_l_.mono (ev2.trans (ev4.trans (ev5.trans (ev10.trans (ev11.trans (ev12.trans (ev17.trans (ev20.trans (ev21.trans (ev26.trans (ev29.trans (ev30.trans (ev35.trans (ev66.trans (ev67.trans (ev68.trans (ev69.trans (ev70.trans (ev71.trans (ev72.trans (ev73.trans (ev78.trans (ev79.trans (ev80.trans ev85))))))))))))))))))))))))) hz86 rfl rfl (by decide) rfl rfl (by omega) (by kernel_rfl) (by kernel_rfl) ?_)
  refine XS.op rfl rfl (XO.loadE (i := 2) (f := 0) (sz := 4) (g := true) (z := r2) (h_l_.mono (ev2.trans (ev4.trans (ev5.trans (ev10.trans (ev11.trans (ev12.trans (ev17.trans (ev20.trans (ev21.trans (ev26.trans (ev29.trans (ev30.trans (ev35.trans (ev66.trans (ev67.trans (ev68.trans (ev69.trans (ev70.trans (ev71.trans (ev72.trans (ev73.trans (ev78.trans (ev79.trans (ev80.trans ev85))))))))))))))))))))))))) hz86 rfl rfl (by decide) rfl (by first | rfl | omega) (by kernel_rfl) (by kernel_rfl) rfl rfl (fun cs_ hcs_ => ?_))
  obtain rfl := hcs_
  refine XS.op rfl rfl (XO.newSl (k := 1) (cs := [.int .i64 r2.x, .int .i64 r2.y, .int .i64 r2.z, .int .i64 r2.w]) (T := 184) s85 rfl (by decide) (fun _ => by kernel_rfl) (fun b87 w88 s88 ev88 kp88 ybb87 => ?_))
  have hroom90 : ([r0].length + 1) * 32 ≤ 140737488355328 := by (first | omega | (simp; done) | (simp; omega))
  refine XS.op rfl rfl (XO.append (k' := [r0, r2].length) (i := 8) (cs := ([.int .i64 r0.x, .int .i64 r0.y, .int .i64 r0.z, .int .i64 r0.w])) (new := [.int .i64 r2.x, .int .i64 r2.y, .int .i64 r2.z, .int .i64 r2.w]) (sz := 4) (bytes := 32) (z := .agg #[.int .i64 0, .int .i64 0, .int .i64 0, .int .i64 0]) (k := ([r0].length)) (m := 1) (by first | rfl | (simp only [List.length_append, List.length_cons, List.length_nil]; done) | (simp only [List.length_append, List.length_cons, List.length_nil]; omega) | (simp only [List.length_append, List.length_take, List.length_cons, List.length_nil]; omega)) s88 rfl rfl rfl (by decide) rfl rfl (by kernel_rfl) (by kernel_rfl) (by kernel_rfl) (by kernel_rfl) rfl rfl (Src.cells (o := 0) (m := 1) (s88.at_ (i := 9) rfl) (Nat.le_of_ble_eq_true rfl)) rfl (by exact hroom90) (fun ra91 rc92 w89 s89 ev89 kp89 => ?_))
  have hel93 : Els tRW (av A [cellsA b1 [.int .u64 0, .int .u64 0] 142, cellsA b3 [.int .u64 (hiU (0 + (0 - (det3R r1 r2 r3)))), .int .u64 (loU (0 + (0 - (det3R r1 r2 r3))))] 142, cellsA b9 [.int .i64 r1.x, .int .i64 r1.y, .int .i64 r1.z, .int .i64 r1.w] 184, rowA (.slice (some ⟨rb36, ro37, none⟩) ([r1, r2, r3].length) rc33) ([r1, r2, r3].length) ([.int .i64 r1.x, .int .i64 r1.y, .int .i64 r1.z, .int .i64 r1.w, .int .i64 r2.x, .int .i64 r2.y, .int .i64 r2.z, .int .i64 r2.w, .int .i64 r3.x, .int .i64 r3.y, .int .i64 r3.z, .int .i64 r3.w]) 184 4, cellsA b19 [.int .i64 r2.x, .int .i64 r2.y, .int .i64 r2.z, .int .i64 r2.w] 184, cellsA b28 [.int .i64 r3.x, .int .i64 r3.y, .int .i64 r3.z, .int .i64 r3.w] 184, cellsA b52_ [.int .u64 (hiU (0 - (det3R r1 r2 r3))), .int .u64 (loU (0 - (det3R r1 r2 r3)))] 142, cellsA b77 [.int .i64 r0.x, .int .i64 r0.y, .int .i64 r0.z, .int .i64 r0.w] 184, rowA (.slice ra91 ([r0, r2].length) rc92) ([r0, r2].length) ([.int .i64 r0.x, .int .i64 r0.y, .int .i64 r0.z, .int .i64 r0.w, .int .i64 r2.x, .int .i64 r2.y, .int .i64 r2.z, .int .i64 r2.w]) 184 4, cellsA b87 [.int .i64 r2.x, .int .i64 r2.y, .int .i64 r2.z, .int .i64 r2.w] 184]) w89 ([.int .i64 r0.x, .int .i64 r0.y, .int .i64 r0.z, .int .i64 r0.w, .int .i64 r2.x, .int .i64 r2.y, .int .i64 r2.z, .int .i64 r2.w]) ([r0, r2]) := Els.snoc (((hel84.mono (ev85.trans ev88))).mono ev89) (show Tp.R tRW _ _ _ r2 from rfl)
  refine XS.vals' 1 [(5, .slice ra91 ([r0, r2].length) rc92)] (by kernel_rfl) ?_
  refine XS.done rfl (inBlk_norm (thn_norm ?_))
  obtain ⟨s94, ev94⟩ := Stt.norm s89 (S' := [cellsA b1 [.int .u64 0, .int .u64 0] 142, cellsA b3 [.int .u64 (hiU (0 + (0 - (det3R r1 r2 r3)))), .int .u64 (loU (0 + (0 - (det3R r1 r2 r3))))] 142, cellsA b9 [.int .i64 r1.x, .int .i64 r1.y, .int .i64 r1.z, .int .i64 r1.w] 184, rowA (.slice (some ⟨rb36, ro37, none⟩) ([r1, r2, r3].length) rc33) ([r1, r2, r3].length) ([.int .i64 r1.x, .int .i64 r1.y, .int .i64 r1.z, .int .i64 r1.w, .int .i64 r2.x, .int .i64 r2.y, .int .i64 r2.z, .int .i64 r2.w, .int .i64 r3.x, .int .i64 r3.y, .int .i64 r3.z, .int .i64 r3.w]) 184 4, cellsA b19 [.int .i64 r2.x, .int .i64 r2.y, .int .i64 r2.z, .int .i64 r2.w] 184, cellsA b28 [.int .i64 r3.x, .int .i64 r3.y, .int .i64 r3.z, .int .i64 r3.w] 184, cellsA b52_ [.int .u64 (hiU (0 - (det3R r1 r2 r3))), .int .u64 (loU (0 - (det3R r1 r2 r3)))] 142, cellsA b77 [.int .i64 r0.x, .int .i64 r0.y, .int .i64 r0.z, .int .i64 r0.w] 184, rowA (.slice ra91 ([r0, r2].length) rc92) ([r0, r2].length) ([.int .i64 r0.x, .int .i64 r0.y, .int .i64 r0.z, .int .i64 r0.w, .int .i64 r2.x, .int .i64 r2.y, .int .i64 r2.z, .int .i64 r2.w]) 184 4, cellsA b87 [.int .i64 r2.x, .int .i64 r2.y, .int .i64 r2.z, .int .i64 r2.w] 184]) rfl
  refine XC.region ?_
  refine XS.vals' 3 [(20, .int .i64 2), (21, .int .i64 3), (6, .int .i64 3)] (by kernel_rfl) ?_
  refine XS.done rfl (thn_norm ?_)
  refine XR.succ ?_
  refine XC.seq ?_
  refine XC.seq ?_
  refine XC.region ?_
  refine XS.vals' 2 [(18, .int .i64 3), (19, .bool true)] (by kernel_rfl) ?_
  refine XS.done rfl (thn_norm ?_)
  refine XC.cond_t rfl ?_
  refine XC.skip (thn_norm ?_)
  refine XC.seq ?_
  refine XC.block ?_
  refine XC.seq ?_
  refine XC.region ?_
  refine XS.vals' 3 [(22, .int .i64 3), (23, .int .i64 1), (24, .bool true)] (by kernel_rfl) ?_
  refine XS.done rfl (thn_norm ?_)
  refine XC.cond_t rfl ?_
  refine XC.region ?_
  refine XS.vals' 3 [(25, .slice ra91 ([r0, r2].length) rc92), (26, .slice a_l 4 c_l), (27, .int .i64 3)] (by kernel_rfl) ?_
  have hz95 : ([r0, r1, r2, r3])[3]? = some r3 := rfl
  refine XS.op rfl rfl (XO.elem (i := 3) (z := r3) (e := 184) (sz := 4) (h_l_.mono (ev2.trans (ev4.trans (ev5.trans (ev10.trans (ev11.trans (ev12.trans (ev17.trans (ev20.trans (ev21.trans (ev26.trans (ev29.trans (ev30.trans (ev35.trans (ev66.trans (ev67.trans (ev68.trans (ev69.trans (ev70.trans (ev71.trans (ev72.trans (ev73.trans (ev78.trans (ev79.trans (ev80.trans (ev85.trans (ev88.trans (ev89.trans ev94)))))))))))))))))))))))))))) hz95 rfl rfl (by decide) rfl rfl (by omega) (by kernel_rfl) (by kernel_rfl) ?_)
  refine XS.op rfl rfl (XO.loadE (i := 3) (f := 0) (sz := 4) (g := true) (z := r3) (h_l_.mono (ev2.trans (ev4.trans (ev5.trans (ev10.trans (ev11.trans (ev12.trans (ev17.trans (ev20.trans (ev21.trans (ev26.trans (ev29.trans (ev30.trans (ev35.trans (ev66.trans (ev67.trans (ev68.trans (ev69.trans (ev70.trans (ev71.trans (ev72.trans (ev73.trans (ev78.trans (ev79.trans (ev80.trans (ev85.trans (ev88.trans (ev89.trans ev94)))))))))))))))))))))))))))) hz95 rfl rfl (by decide) rfl (by first | rfl | omega) (by kernel_rfl) (by kernel_rfl) rfl rfl (fun cs_ hcs_ => ?_))
  obtain rfl := hcs_
  refine XS.op rfl rfl (XO.newSl (k := 1) (cs := [.int .i64 r3.x, .int .i64 r3.y, .int .i64 r3.z, .int .i64 r3.w]) (T := 184) s94 rfl (by decide) (fun _ => by kernel_rfl) (fun b96 w97 s97 ev97 kp97 ybb96 => ?_))
  have hroom99 : ([r0, r2].length + 1) * 32 ≤ 140737488355328 := by (first | omega | (simp; done) | (simp; omega))
  refine XS.op rfl rfl (XO.append (k' := [r0, r2, r3].length) (i := 8) (cs := ([.int .i64 r0.x, .int .i64 r0.y, .int .i64 r0.z, .int .i64 r0.w, .int .i64 r2.x, .int .i64 r2.y, .int .i64 r2.z, .int .i64 r2.w])) (new := [.int .i64 r3.x, .int .i64 r3.y, .int .i64 r3.z, .int .i64 r3.w]) (sz := 4) (bytes := 32) (z := .agg #[.int .i64 0, .int .i64 0, .int .i64 0, .int .i64 0]) (k := ([r0, r2].length)) (m := 1) (by first | rfl | (simp only [List.length_append, List.length_cons, List.length_nil]; done) | (simp only [List.length_append, List.length_cons, List.length_nil]; omega) | (simp only [List.length_append, List.length_take, List.length_cons, List.length_nil]; omega)) s97 rfl rfl rfl (by decide) rfl rfl (by kernel_rfl) (by kernel_rfl) (by kernel_rfl) (by kernel_rfl) rfl rfl (Src.cells (o := 0) (m := 1) (s97.at_ (i := 10) rfl) (Nat.le_of_ble_eq_true rfl)) rfl (by exact hroom99) (fun ra100 rc101 w98 s98 ev98 kp98 => ?_))
  have hel102 : Els tRW (av A [cellsA b1 [.int .u64 0, .int .u64 0] 142, cellsA b3 [.int .u64 (hiU (0 + (0 - (det3R r1 r2 r3)))), .int .u64 (loU (0 + (0 - (det3R r1 r2 r3))))] 142, cellsA b9 [.int .i64 r1.x, .int .i64 r1.y, .int .i64 r1.z, .int .i64 r1.w] 184, rowA (.slice (some ⟨rb36, ro37, none⟩) ([r1, r2, r3].length) rc33) ([r1, r2, r3].length) ([.int .i64 r1.x, .int .i64 r1.y, .int .i64 r1.z, .int .i64 r1.w, .int .i64 r2.x, .int .i64 r2.y, .int .i64 r2.z, .int .i64 r2.w, .int .i64 r3.x, .int .i64 r3.y, .int .i64 r3.z, .int .i64 r3.w]) 184 4, cellsA b19 [.int .i64 r2.x, .int .i64 r2.y, .int .i64 r2.z, .int .i64 r2.w] 184, cellsA b28 [.int .i64 r3.x, .int .i64 r3.y, .int .i64 r3.z, .int .i64 r3.w] 184, cellsA b52_ [.int .u64 (hiU (0 - (det3R r1 r2 r3))), .int .u64 (loU (0 - (det3R r1 r2 r3)))] 142, cellsA b77 [.int .i64 r0.x, .int .i64 r0.y, .int .i64 r0.z, .int .i64 r0.w] 184, rowA (.slice ra100 ([r0, r2, r3].length) rc101) ([r0, r2, r3].length) ([.int .i64 r0.x, .int .i64 r0.y, .int .i64 r0.z, .int .i64 r0.w, .int .i64 r2.x, .int .i64 r2.y, .int .i64 r2.z, .int .i64 r2.w, .int .i64 r3.x, .int .i64 r3.y, .int .i64 r3.z, .int .i64 r3.w]) 184 4, cellsA b87 [.int .i64 r2.x, .int .i64 r2.y, .int .i64 r2.z, .int .i64 r2.w] 184, cellsA b96 [.int .i64 r3.x, .int .i64 r3.y, .int .i64 r3.z, .int .i64 r3.w] 184]) w98 ([.int .i64 r0.x, .int .i64 r0.y, .int .i64 r0.z, .int .i64 r0.w, .int .i64 r2.x, .int .i64 r2.y, .int .i64 r2.z, .int .i64 r2.w, .int .i64 r3.x, .int .i64 r3.y, .int .i64 r3.z, .int .i64 r3.w]) ([r0, r2, r3]) := Els.snoc (((hel93.mono (ev94.trans ev97))).mono ev98) (show Tp.R tRW _ _ _ r3 from rfl)
  refine XS.vals' 1 [(5, .slice ra100 ([r0, r2, r3].length) rc101)] (by kernel_rfl) ?_
  refine XS.done rfl (inBlk_norm (thn_norm ?_))
  obtain ⟨s103, ev103⟩ := Stt.norm s98 (S' := [cellsA b1 [.int .u64 0, .int .u64 0] 142, cellsA b3 [.int .u64 (hiU (0 + (0 - (det3R r1 r2 r3)))), .int .u64 (loU (0 + (0 - (det3R r1 r2 r3))))] 142, cellsA b9 [.int .i64 r1.x, .int .i64 r1.y, .int .i64 r1.z, .int .i64 r1.w] 184, rowA (.slice (some ⟨rb36, ro37, none⟩) ([r1, r2, r3].length) rc33) ([r1, r2, r3].length) ([.int .i64 r1.x, .int .i64 r1.y, .int .i64 r1.z, .int .i64 r1.w, .int .i64 r2.x, .int .i64 r2.y, .int .i64 r2.z, .int .i64 r2.w, .int .i64 r3.x, .int .i64 r3.y, .int .i64 r3.z, .int .i64 r3.w]) 184 4, cellsA b19 [.int .i64 r2.x, .int .i64 r2.y, .int .i64 r2.z, .int .i64 r2.w] 184, cellsA b28 [.int .i64 r3.x, .int .i64 r3.y, .int .i64 r3.z, .int .i64 r3.w] 184, cellsA b52_ [.int .u64 (hiU (0 - (det3R r1 r2 r3))), .int .u64 (loU (0 - (det3R r1 r2 r3)))] 142, cellsA b77 [.int .i64 r0.x, .int .i64 r0.y, .int .i64 r0.z, .int .i64 r0.w] 184, rowA (.slice ra100 ([r0, r2, r3].length) rc101) ([r0, r2, r3].length) ([.int .i64 r0.x, .int .i64 r0.y, .int .i64 r0.z, .int .i64 r0.w, .int .i64 r2.x, .int .i64 r2.y, .int .i64 r2.z, .int .i64 r2.w, .int .i64 r3.x, .int .i64 r3.y, .int .i64 r3.z, .int .i64 r3.w]) 184 4, cellsA b87 [.int .i64 r2.x, .int .i64 r2.y, .int .i64 r2.z, .int .i64 r2.w] 184, cellsA b96 [.int .i64 r3.x, .int .i64 r3.y, .int .i64 r3.z, .int .i64 r3.w] 184]) rfl
  refine XC.region ?_
  refine XS.vals' 3 [(20, .int .i64 3), (21, .int .i64 4), (6, .int .i64 4)] (by kernel_rfl) ?_
  refine XS.done rfl (thn_norm ?_)
  refine XR.succ ?_
  refine XC.seq ?_
  refine XC.seq ?_
  refine XC.region ?_
  refine XS.vals' 2 [(18, .int .i64 4), (19, .bool false)] (by kernel_rfl) ?_
  refine XS.done rfl (thn_norm ?_)
  refine XC.cond_f rfl ?_
  refine XC.exit (thn_exit (thn_exit (inBlk_hit (thn_norm ?_))))
  obtain ⟨rb104, ro105, rfl⟩ := row_addr (s103.at_ (i := 8) rfl) (by (first | omega | (simp; done) | (simp; omega)))
  refine XC.cut (fun ρ_ w_ => ∃ b120_ : Nat, Has ρ_ [(0, .slice a_l 4 c_l), (2, .pointer (some ⟨b1, 0, none⟩)), (3, .pointer (some ⟨b3, 0, none⟩)), (4, .int .i64 1), (5, .slice (some ⟨rb104, ro105, none⟩) ([r0, r2, r3].length) rc101), (6, .int .i64 4), (7, .pointer (some ⟨b120_, 0, none⟩)), (8, .int .i64 1), (9, .bool true), (10, .int .i64 0), (11, .int .i64 1), (12, .slice a_l 4 c_l), (13, .int .i64 1), (14, elemP a_l (1 * 4)), (15, elemP a_l ((1 * 4) + 3)), (16, .int .i64 r1.w), (17, .bool (decide (r1.w = 0))), (18, .int .i64 4), (19, .bool false), (20, .int .i64 3), (21, .int .i64 4), (22, .int .i64 3), (23, .int .i64 1), (24, .bool true), (25, .slice ra91 ([r0, r2].length) rc92), (26, .slice a_l 4 c_l), (27, .int .i64 3), (28, elemP a_l (3 * 4)), (29, .agg #[.int .i64 r3.x, .int .i64 r3.y, .int .i64 r3.z, .int .i64 r3.w]), (30, .slice (some ⟨b96, 0, none⟩) 1 1), (31, .slice (some ⟨rb104, ro105, none⟩) ([r0, r2, r3].length) rc101), (32, .slice (some ⟨rb104, ro105, none⟩) ([r0, r2, r3].length) rc101), (33, .pointer (some ⟨rb104, ro105 + 0 * 4, none⟩)), (34, .agg #[.int .i64 r0.x, .int .i64 r0.y, .int .i64 r0.z, .int .i64 r0.w]), (35, .slice (some ⟨rb104, ro105, none⟩) ([r0, r2, r3].length) rc101), (36, .pointer (some ⟨rb104, ro105 + 1 * 4, none⟩)), (37, .agg #[.int .i64 r2.x, .int .i64 r2.y, .int .i64 r2.z, .int .i64 r2.w]), (38, .slice (some ⟨rb104, ro105, none⟩) ([r0, r2, r3].length) rc101), (39, .pointer (some ⟨rb104, ro105 + 2 * 4, none⟩)), (40, .agg #[.int .i64 r3.x, .int .i64 r3.y, .int .i64 r3.z, .int .i64 r3.w]), (41, .agg #[.int .u64 (hiU (det3R r0 r2 r3)), .int .u64 (loU (det3R r0 r2 r3))]), (42, .int .i64 0), (43, .int .i64 0), (44, .bool true), (45, .agg #[.int .u64 (hiU (det3R r1 r2 r3)), .int .u64 (loU (det3R r1 r2 r3))]), (46, .agg #[.int .u64 (hiU (0 - (det3R r1 r2 r3))), .int .u64 (loU (0 - (det3R r1 r2 r3)))]), (47, .agg #[.int .u64 0, .int .u64 0]), (48, .agg #[.int .u64 (hiU (0 - (det3R r1 r2 r3))), .int .u64 (loU (0 - (det3R r1 r2 r3)))]), (49, .agg #[.int .u64 (hiU (0 + (0 - (det3R r1 r2 r3)))), .int .u64 (loU (0 + (0 - (det3R r1 r2 r3))))])] ∧ Stt A w0 none_ [cellsA b1 [.int .u64 0, .int .u64 0] 142, cellsA b3 [.int .u64 (hiU (0 + (0 - (det3R r1 r2 r3)))), .int .u64 (loU (0 + (0 - (det3R r1 r2 r3))))] 142, cellsA b9 [.int .i64 r1.x, .int .i64 r1.y, .int .i64 r1.z, .int .i64 r1.w] 184, rowA (.slice (some ⟨rb36, ro37, none⟩) ([r1, r2, r3].length) rc33) ([r1, r2, r3].length) ([.int .i64 r1.x, .int .i64 r1.y, .int .i64 r1.z, .int .i64 r1.w, .int .i64 r2.x, .int .i64 r2.y, .int .i64 r2.z, .int .i64 r2.w, .int .i64 r3.x, .int .i64 r3.y, .int .i64 r3.z, .int .i64 r3.w]) 184 4, cellsA b19 [.int .i64 r2.x, .int .i64 r2.y, .int .i64 r2.z, .int .i64 r2.w] 184, cellsA b28 [.int .i64 r3.x, .int .i64 r3.y, .int .i64 r3.z, .int .i64 r3.w] 184, cellsA b52_ [.int .u64 (hiU (0 - (det3R r1 r2 r3))), .int .u64 (loU (0 - (det3R r1 r2 r3)))] 142, cellsA b77 [.int .i64 r0.x, .int .i64 r0.y, .int .i64 r0.z, .int .i64 r0.w] 184, rowA (.slice (some ⟨rb104, ro105, none⟩) ([r0, r2, r3].length) rc101) ([r0, r2, r3].length) ([.int .i64 r0.x, .int .i64 r0.y, .int .i64 r0.z, .int .i64 r0.w, .int .i64 r2.x, .int .i64 r2.y, .int .i64 r2.z, .int .i64 r2.w, .int .i64 r3.x, .int .i64 r3.y, .int .i64 r3.z, .int .i64 r3.w]) 184 4, cellsA b87 [.int .i64 r2.x, .int .i64 r2.y, .int .i64 r2.z, .int .i64 r2.w] 184, cellsA b96 [.int .i64 r3.x, .int .i64 r3.y, .int .i64 r3.z, .int .i64 r3.w] 184, cellsA b120_ [.int .u64 (hiU (det3R r0 r2 r3)), .int .u64 (loU (det3R r0 r2 r3))] 142] w_ ∧ Evo (av A [cellsA b1 [.int .u64 0, .int .u64 0] 142, cellsA b3 [.int .u64 (hiU (0 + (0 - (det3R r1 r2 r3)))), .int .u64 (loU (0 + (0 - (det3R r1 r2 r3))))] 142, cellsA b9 [.int .i64 r1.x, .int .i64 r1.y, .int .i64 r1.z, .int .i64 r1.w] 184, rowA (.slice (some ⟨rb36, ro37, none⟩) ([r1, r2, r3].length) rc33) ([r1, r2, r3].length) ([.int .i64 r1.x, .int .i64 r1.y, .int .i64 r1.z, .int .i64 r1.w, .int .i64 r2.x, .int .i64 r2.y, .int .i64 r2.z, .int .i64 r2.w, .int .i64 r3.x, .int .i64 r3.y, .int .i64 r3.z, .int .i64 r3.w]) 184 4, cellsA b19 [.int .i64 r2.x, .int .i64 r2.y, .int .i64 r2.z, .int .i64 r2.w] 184, cellsA b28 [.int .i64 r3.x, .int .i64 r3.y, .int .i64 r3.z, .int .i64 r3.w] 184, cellsA b52_ [.int .u64 (hiU (0 - (det3R r1 r2 r3))), .int .u64 (loU (0 - (det3R r1 r2 r3)))] 142, cellsA b77 [.int .i64 r0.x, .int .i64 r0.y, .int .i64 r0.z, .int .i64 r0.w] 184, rowA (.slice (some ⟨rb104, ro105, none⟩) ([r0, r2, r3].length) rc101) ([r0, r2, r3].length) ([.int .i64 r0.x, .int .i64 r0.y, .int .i64 r0.z, .int .i64 r0.w, .int .i64 r2.x, .int .i64 r2.y, .int .i64 r2.z, .int .i64 r2.w, .int .i64 r3.x, .int .i64 r3.y, .int .i64 r3.z, .int .i64 r3.w]) 184 4, cellsA b87 [.int .i64 r2.x, .int .i64 r2.y, .int .i64 r2.z, .int .i64 r2.w] 184, cellsA b96 [.int .i64 r3.x, .int .i64 r3.y, .int .i64 r3.z, .int .i64 r3.w] 184]) w98 (av A [cellsA b1 [.int .u64 0, .int .u64 0] 142, cellsA b3 [.int .u64 (hiU (0 + (0 - (det3R r1 r2 r3)))), .int .u64 (loU (0 + (0 - (det3R r1 r2 r3))))] 142, cellsA b9 [.int .i64 r1.x, .int .i64 r1.y, .int .i64 r1.z, .int .i64 r1.w] 184, rowA (.slice (some ⟨rb36, ro37, none⟩) ([r1, r2, r3].length) rc33) ([r1, r2, r3].length) ([.int .i64 r1.x, .int .i64 r1.y, .int .i64 r1.z, .int .i64 r1.w, .int .i64 r2.x, .int .i64 r2.y, .int .i64 r2.z, .int .i64 r2.w, .int .i64 r3.x, .int .i64 r3.y, .int .i64 r3.z, .int .i64 r3.w]) 184 4, cellsA b19 [.int .i64 r2.x, .int .i64 r2.y, .int .i64 r2.z, .int .i64 r2.w] 184, cellsA b28 [.int .i64 r3.x, .int .i64 r3.y, .int .i64 r3.z, .int .i64 r3.w] 184, cellsA b52_ [.int .u64 (hiU (0 - (det3R r1 r2 r3))), .int .u64 (loU (0 - (det3R r1 r2 r3)))] 142, cellsA b77 [.int .i64 r0.x, .int .i64 r0.y, .int .i64 r0.z, .int .i64 r0.w] 184, rowA (.slice (some ⟨rb104, ro105, none⟩) ([r0, r2, r3].length) rc101) ([r0, r2, r3].length) ([.int .i64 r0.x, .int .i64 r0.y, .int .i64 r0.z, .int .i64 r0.w, .int .i64 r2.x, .int .i64 r2.y, .int .i64 r2.z, .int .i64 r2.w, .int .i64 r3.x, .int .i64 r3.y, .int .i64 r3.z, .int .i64 r3.w]) 184 4, cellsA b87 [.int .i64 r2.x, .int .i64 r2.y, .int .i64 r2.z, .int .i64 r2.w] 184, cellsA b96 [.int .i64 r3.x, .int .i64 r3.y, .int .i64 r3.z, .int .i64 r3.w] 184, cellsA b120_ [.int .u64 (hiU (det3R r0 r2 r3)), .int .u64 (loU (det3R r0 r2 r3))] 142]) w_) ?_ ?_
  · skip
    refine XC.drawS 12 rfl (fun _ => False) 12 (by kernel_rfl) s103 (fun w106 s106 ev106 kp106 hH107 => ?_)
    refine XA.valD 0 32 (.slice (some ⟨rb104, ro105, none⟩) ([r0, r2, r3].length) rc101) rfl (by kernel_rfl) (by kernel_rfl) (by kernel_rfl) rfl (by kernel_rfl) rfl hH107 (fun hH108 => ?_)
    refine XA.index (p := 1) (i := 0) (e := 184) (sz := 4) rfl (by kernel_rfl) (by kernel_rfl) (by kernel_rfl) rfl (by kernel_rfl) rfl rfl (by decide) rfl rfl (by omega) (by (first | omega | (simp; done) | (simp; omega))) (by kernel_rfl) (by kernel_rfl) hH108 (fun hH109 => ?_)
    have hz111 : ([r0, r2, r3])[0]? = some r0 := rfl
    refine XA.loadRow false (p := 2) (q := 8) (j := 0) (z := r0) (g := true) s106 rfl (hel102.mono (ev103.trans ev106)) rfl hz111 rfl rfl (by kernel_rfl) (by kernel_rfl) (by kernel_rfl) rfl rfl (fun _ h => h) (by kernel_rfl) rfl rfl (by decide) hH109 rfl (by first | rfl | omega) (by kernel_rfl) (by kernel_rfl) rfl (fun cs_ hcs_ hH110 => ?_)
    obtain rfl := hcs_
    refine XA.valD 3 35 (.slice (some ⟨rb104, ro105, none⟩) ([r0, r2, r3].length) rc101) rfl (by kernel_rfl) (by kernel_rfl) (by kernel_rfl) rfl (by kernel_rfl) rfl hH110 (fun hH112 => ?_)
    refine XA.index (p := 4) (i := 1) (e := 184) (sz := 4) rfl (by kernel_rfl) (by kernel_rfl) (by kernel_rfl) rfl (by kernel_rfl) rfl rfl (by decide) rfl rfl (by omega) (by (first | omega | (simp; done) | (simp; omega))) (by kernel_rfl) (by kernel_rfl) hH112 (fun hH113 => ?_)
    have hz115 : ([r0, r2, r3])[1]? = some r2 := rfl
    refine XA.loadRow false (p := 5) (q := 8) (j := 1) (z := r2) (g := true) s106 rfl (hel102.mono (ev103.trans ev106)) rfl hz115 rfl rfl (by kernel_rfl) (by kernel_rfl) (by kernel_rfl) rfl rfl (fun _ h => h) (by kernel_rfl) rfl rfl (by decide) hH113 rfl (by first | rfl | omega) (by kernel_rfl) (by kernel_rfl) rfl (fun cs_ hcs_ hH114 => ?_)
    obtain rfl := hcs_
    refine XA.valD 6 38 (.slice (some ⟨rb104, ro105, none⟩) ([r0, r2, r3].length) rc101) rfl (by kernel_rfl) (by kernel_rfl) (by kernel_rfl) rfl (by kernel_rfl) rfl hH114 (fun hH116 => ?_)
    refine XA.index (p := 7) (i := 2) (e := 184) (sz := 4) rfl (by kernel_rfl) (by kernel_rfl) (by kernel_rfl) rfl (by kernel_rfl) rfl rfl (by decide) rfl rfl (by omega) (by (first | omega | (simp; done) | (simp; omega))) (by kernel_rfl) (by kernel_rfl) hH116 (fun hH117 => ?_)
    have hz119 : ([r0, r2, r3])[2]? = some r3 := rfl
    refine XA.loadRow false (p := 8) (q := 8) (j := 2) (z := r3) (g := true) s106 rfl (hel102.mono (ev103.trans ev106)) rfl hz119 rfl rfl (by kernel_rfl) (by kernel_rfl) (by kernel_rfl) rfl rfl (fun _ h => h) (by kernel_rfl) rfl rfl (by decide) hH117 rfl (by first | rfl | omega) (by kernel_rfl) (by kernel_rfl) rfl (fun cs_ hcs_ hH118 => ?_)
    obtain rfl := hcs_
    refine XA.op2 (i := 9) (j := 10) rfl rfl (by kernel_rfl) (by kernel_rfl) (by kernel_rfl) ?_ ?_
    · skip
      refine XO.callS (f := 161) (args := [(.agg #[.int .i64 r0.x, .int .i64 r0.y, .int .i64 r0.z, .int .i64 r0.w]), (.agg #[.int .i64 r2.x, .int .i64 r2.y, .int .i64 r2.z, .int .i64 r2.w]), (.agg #[.int .i64 r3.x, .int .i64 r3.y, .int .i64 r3.z, .int .i64 r3.w])].toArray) s106 rfl (by decide) (fun _ => by kernel_rfl) (carapaceref2_three_ok (av A _) _ s106.av_fresh r0 r2 r3 (by first | exact hok.1 | exact hok.2.1 | exact hok.2.2.1 | exact hok.2.2.2) (by first | exact hok.1 | exact hok.2.1 | exact hok.2.2.1 | exact hok.2.2.2) (by first | exact hok.1 | exact hok.2.1 | exact hok.2.2.1 | exact hok.2.2.2)) (fun _ w120 s120 ev120 kp120 hv_ => ?_)
      obtain rfl := hv_
      have hH121 := hH118.keep (i := 9) kp120 rfl
      refine ⟨hH121, ?_⟩
      refine XA.op (i := 10) rfl (by kernel_rfl) (by kernel_rfl) (XO.new (cs := [.int .u64 0, .int .u64 0]) (T := 142) s120 rfl (by decide) (fun _ => by kernel_rfl) (fun b122 w123 s123 ev123 kp123 ybb122 => ?_))
      have hH124 := hH121.keep (i := 10) kp123 rfl
      refine ⟨hH124, ?_⟩
      refine XA.op (i := 11) rfl (by kernel_rfl) (by kernel_rfl) (XO.storeS (i := 11) (v := .agg #[.int .u64 (hiU (det3R r0 r2 r3)), .int .u64 (loU (det3R r0 r2 r3))]) (m := 2) (cs' := [.int .u64 (hiU (det3R r0 r2 r3)), .int .u64 (loU (det3R r0 r2 r3))]) s123 rfl rfl rfl rfl rfl (by kernel_rfl) rfl rfl rfl rfl (fun w125 s125 ev125 kp125 => ?_))
      have hH126 := hH124.young (i := 11) kp125 (by exact (Nat.le_trans hH121.1 ybb122)) rfl
      refine ⟨hH126, ?_⟩
      refine XA.done (by kernel_rfl) (thn_norm ?_)
      exact ⟨b122, ⟨rfl, rfl, rfl, rfl, rfl, rfl, rfl, rfl, rfl, rfl, rfl, rfl, rfl, rfl, rfl, rfl, rfl, rfl, rfl, rfl, rfl, rfl, rfl, rfl, rfl, rfl, rfl, rfl, rfl, rfl, rfl, rfl, rfl, rfl, rfl, rfl, rfl, rfl, rfl, rfl, rfl, rfl, rfl, rfl, rfl, rfl, rfl, rfl, rfl, trivial⟩, s125, (ev106.trans (ev120.trans (ev123.trans ev125)))⟩
    · skip
      refine XO.new (cs := [.int .u64 0, .int .u64 0]) (T := 142) s106 rfl (by decide) (fun _ => by kernel_rfl) (fun b127 w128 s128 ev128 kp128 ybb127 => ?_)
      have hH129 := hH118.keep (i := 10) kp128 rfl
      refine ⟨hH129, ?_⟩
      refine XA.op (i := 9) rfl (by kernel_rfl) (by kernel_rfl) (XO.callS (f := 161) (args := [(.agg #[.int .i64 r0.x, .int .i64 r0.y, .int .i64 r0.z, .int .i64 r0.w]), (.agg #[.int .i64 r2.x, .int .i64 r2.y, .int .i64 r2.z, .int .i64 r2.w]), (.agg #[.int .i64 r3.x, .int .i64 r3.y, .int .i64 r3.z, .int .i64 r3.w])].toArray) s128 rfl (by decide) (fun _ => by kernel_rfl) (carapaceref2_three_ok (av A _) _ s128.av_fresh r0 r2 r3 (by first | exact hok.1 | exact hok.2.1 | exact hok.2.2.1 | exact hok.2.2.2) (by first | exact hok.1 | exact hok.2.1 | exact hok.2.2.1 | exact hok.2.2.2) (by first | exact hok.1 | exact hok.2.1 | exact hok.2.2.1 | exact hok.2.2.2)) (fun _ w130 s130 ev130 kp130 hv_ => ?_))
      obtain rfl := hv_
      have hH131 := hH129.keep (i := 9) kp130 rfl
      refine ⟨hH131, ?_⟩
      refine XA.op (i := 11) rfl (by kernel_rfl) (by kernel_rfl) (XO.storeS (i := 11) (v := .agg #[.int .u64 (hiU (det3R r0 r2 r3)), .int .u64 (loU (det3R r0 r2 r3))]) (m := 2) (cs' := [.int .u64 (hiU (det3R r0 r2 r3)), .int .u64 (loU (det3R r0 r2 r3))]) s130 rfl rfl rfl rfl rfl (by kernel_rfl) rfl rfl rfl rfl (fun w132 s132 ev132 kp132 => ?_))
      have hH133 := hH131.young (i := 11) kp132 (by exact (Nat.le_trans hH118.1 ybb127)) rfl
      refine ⟨hH133, ?_⟩
      refine XA.done (by kernel_rfl) (thn_norm ?_)
      exact ⟨b127, ⟨rfl, rfl, rfl, rfl, rfl, rfl, rfl, rfl, rfl, rfl, rfl, rfl, rfl, rfl, rfl, rfl, rfl, rfl, rfl, rfl, rfl, rfl, rfl, rfl, rfl, rfl, rfl, rfl, rfl, rfl, rfl, rfl, rfl, rfl, rfl, rfl, rfl, rfl, rfl, rfl, rfl, rfl, rfl, rfl, rfl, rfl, rfl, rfl, rfl, trivial⟩, s132, (ev106.trans (ev128.trans (ev130.trans ev132)))⟩
  intro ρw134 w134 hJ_
  obtain ⟨b120_, hh134, s134, ev134⟩ := hJ_
  refine XC.rebase hh134 ?_
  refine XC.seq ?_
  refine XC.seq ?_
  obtain ⟨s135, ev135⟩ := Stt.norm s134 (S' := [cellsA b1 [.int .u64 0, .int .u64 0] 142, cellsA b3 [.int .u64 (hiU (0 + (0 - (det3R r1 r2 r3)))), .int .u64 (loU (0 + (0 - (det3R r1 r2 r3))))] 142, cellsA b9 [.int .i64 r1.x, .int .i64 r1.y, .int .i64 r1.z, .int .i64 r1.w] 184, rowA (.slice (some ⟨rb36, ro37, none⟩) ([r1, r2, r3].length) rc33) ([r1, r2, r3].length) ([.int .i64 r1.x, .int .i64 r1.y, .int .i64 r1.z, .int .i64 r1.w, .int .i64 r2.x, .int .i64 r2.y, .int .i64 r2.z, .int .i64 r2.w, .int .i64 r3.x, .int .i64 r3.y, .int .i64 r3.z, .int .i64 r3.w]) 184 4, cellsA b19 [.int .i64 r2.x, .int .i64 r2.y, .int .i64 r2.z, .int .i64 r2.w] 184, cellsA b28 [.int .i64 r3.x, .int .i64 r3.y, .int .i64 r3.z, .int .i64 r3.w] 184, cellsA b52_ [.int .u64 (hiU (0 - (det3R r1 r2 r3))), .int .u64 (loU (0 - (det3R r1 r2 r3)))] 142, cellsA b77 [.int .i64 r0.x, .int .i64 r0.y, .int .i64 r0.z, .int .i64 r0.w] 184, rowA (.slice (some ⟨rb104, ro105, none⟩) ([r0, r2, r3].length) rc101) ([r0, r2, r3].length) ([.int .i64 r0.x, .int .i64 r0.y, .int .i64 r0.z, .int .i64 r0.w, .int .i64 r2.x, .int .i64 r2.y, .int .i64 r2.z, .int .i64 r2.w, .int .i64 r3.x, .int .i64 r3.y, .int .i64 r3.z, .int .i64 r3.w]) 184 4, cellsA b87 [.int .i64 r2.x, .int .i64 r2.y, .int .i64 r2.z, .int .i64 r2.w] 184, cellsA b96 [.int .i64 r3.x, .int .i64 r3.y, .int .i64 r3.z, .int .i64 r3.w] 184, cellsA b120_ [.int .u64 (hiU (det3R r0 r2 r3)), .int .u64 (loU (det3R r0 r2 r3))] 142]) rfl
  refine XC.region ?_
  refine XS.vals' 3 [(42, .int .i64 1), (43, .int .i64 1), (44, .bool false)] (by kernel_rfl) ?_
  refine XS.done rfl (thn_norm ?_)
  refine XC.cond_f rfl ?_
  refine XC.skip (thn_norm ?_)
  refine XC.region ?_
  refine XS.op rfl rfl (XO.loadS (i := 1) (v := .agg #[.int .u64 (hiU (0 + (0 - (det3R r1 r2 r3)))), .int .u64 (loU (0 + (0 - (det3R r1 r2 r3))))]) (g := true) (m := 2) s135 rfl rfl rfl (by decide) rfl (by kernel_rfl) (by kernel_rfl) rfl rfl rfl ?_)
  refine XS.op rfl rfl (XO.loadS (i := 11) (v := .agg #[.int .u64 (hiU (det3R r0 r2 r3)), .int .u64 (loU (det3R r0 r2 r3))]) (g := true) (m := 2) s135 rfl rfl rfl (by decide) rfl (by kernel_rfl) (by kernel_rfl) rfl rfl rfl ?_)
  refine XS.op rfl rfl (XO.callS (f := 163) (args := [(.agg #[.int .u64 (hiU (0 + (0 - (det3R r1 r2 r3)))), .int .u64 (loU (0 + (0 - (det3R r1 r2 r3))))]), (.agg #[.int .u64 (hiU (det3R r0 r2 r3)), .int .u64 (loU (det3R r0 r2 r3))])].toArray) s135 rfl (by decide) (fun _ => by kernel_rfl) (carapaceref1_Add_ok (av A _) _ s135.av_fresh (0 + (0 - (det3R r1 r2 r3))) (det3R r0 r2 r3) ) (fun _ w136 s136 ev136 kp136 hv_ => ?_))
  obtain rfl := hv_
  refine XS.op rfl rfl (XO.storeS (i := 1) (v := .agg #[.int .u64 (hiU ((0 + (0 - (det3R r1 r2 r3))) + (det3R r0 r2 r3))), .int .u64 (loU ((0 + (0 - (det3R r1 r2 r3))) + (det3R r0 r2 r3)))]) (m := 2) (cs' := [.int .u64 (hiU ((0 + (0 - (det3R r1 r2 r3))) + (det3R r0 r2 r3))), .int .u64 (loU ((0 + (0 - (det3R r1 r2 r3))) + (det3R r0 r2 r3)))]) s136 rfl rfl rfl rfl rfl (by kernel_rfl) rfl rfl rfl rfl (fun w137 s137 ev137 kp137 => ?_))
  refine XS.done rfl (inBlk_norm (thn_norm ?_))
  obtain ⟨s138, ev138⟩ := Stt.norm s137 (S' := [cellsA b1 [.int .u64 0, .int .u64 0] 142, cellsA b3 [.int .u64 (hiU ((0 + (0 - (det3R r1 r2 r3))) + (det3R r0 r2 r3))), .int .u64 (loU ((0 + (0 - (det3R r1 r2 r3))) + (det3R r0 r2 r3)))] 142, cellsA b9 [.int .i64 r1.x, .int .i64 r1.y, .int .i64 r1.z, .int .i64 r1.w] 184, rowA (.slice (some ⟨rb36, ro37, none⟩) ([r1, r2, r3].length) rc33) ([r1, r2, r3].length) ([.int .i64 r1.x, .int .i64 r1.y, .int .i64 r1.z, .int .i64 r1.w, .int .i64 r2.x, .int .i64 r2.y, .int .i64 r2.z, .int .i64 r2.w, .int .i64 r3.x, .int .i64 r3.y, .int .i64 r3.z, .int .i64 r3.w]) 184 4, cellsA b19 [.int .i64 r2.x, .int .i64 r2.y, .int .i64 r2.z, .int .i64 r2.w] 184, cellsA b28 [.int .i64 r3.x, .int .i64 r3.y, .int .i64 r3.z, .int .i64 r3.w] 184, cellsA b52_ [.int .u64 (hiU (0 - (det3R r1 r2 r3))), .int .u64 (loU (0 - (det3R r1 r2 r3)))] 142, cellsA b77 [.int .i64 r0.x, .int .i64 r0.y, .int .i64 r0.z, .int .i64 r0.w] 184, rowA (.slice (some ⟨rb104, ro105, none⟩) ([r0, r2, r3].length) rc101) ([r0, r2, r3].length) ([.int .i64 r0.x, .int .i64 r0.y, .int .i64 r0.z, .int .i64 r0.w, .int .i64 r2.x, .int .i64 r2.y, .int .i64 r2.z, .int .i64 r2.w, .int .i64 r3.x, .int .i64 r3.y, .int .i64 r3.z, .int .i64 r3.w]) 184 4, cellsA b87 [.int .i64 r2.x, .int .i64 r2.y, .int .i64 r2.z, .int .i64 r2.w] 184, cellsA b96 [.int .i64 r3.x, .int .i64 r3.y, .int .i64 r3.z, .int .i64 r3.w] 184, cellsA b120_ [.int .u64 (hiU (det3R r0 r2 r3)), .int .u64 (loU (det3R r0 r2 r3))] 142]) rfl
  refine XC.region ?_
  refine XS.vals' 3 [(10, .int .i64 1), (11, .int .i64 2), (4, .int .i64 2)] (by kernel_rfl) ?_
  refine XS.done rfl (thn_norm ?_)
  refine XR.succ ?_
  refine XC.seq ?_
  refine XC.seq ?_
  refine XC.region ?_
  refine XS.vals' 2 [(8, .int .i64 2), (9, .bool true)] (by kernel_rfl) ?_
  refine XS.done rfl (thn_norm ?_)
  refine XC.cond_t rfl ?_
  refine XC.skip (thn_norm ?_)
  refine XC.seq ?_
  refine XC.block ?_
  refine XC.seq ?_
  refine XC.seq ?_
  refine XC.region ?_
  refine XS.vals' 2 [(12, .slice a_l 4 c_l), (13, .int .i64 2)] (by kernel_rfl) ?_
  have hz139 : ([r0, r1, r2, r3])[2]? = some r2 := rfl
  refine XS.op rfl rfl (XO.elem (i := 2) (z := r2) (e := 184) (sz := 4) (h_l_.mono (ev2.trans (ev4.trans (ev5.trans (ev10.trans (ev11.trans (ev12.trans (ev17.trans (ev20.trans (ev21.trans (ev26.trans (ev29.trans (ev30.trans (ev35.trans (ev66.trans (ev67.trans (ev68.trans (ev69.trans (ev70.trans (ev71.trans (ev72.trans (ev73.trans (ev78.trans (ev79.trans (ev80.trans (ev85.trans (ev88.trans (ev89.trans (ev94.trans (ev97.trans (ev98.trans (ev103.trans (ev134.trans (ev135.trans (ev136.trans (ev137.trans ev138)))))))))))))))))))))))))))))))))))) hz139 rfl rfl (by decide) rfl rfl (by omega) (by kernel_rfl) (by kernel_rfl) ?_)
  refine XS.op rfl rfl (XO.fieldE' (sz := 1) (fo := 3) (ft := 3) (h_l_.mono (ev2.trans (ev4.trans (ev5.trans (ev10.trans (ev11.trans (ev12.trans (ev17.trans (ev20.trans (ev21.trans (ev26.trans (ev29.trans (ev30.trans (ev35.trans (ev66.trans (ev67.trans (ev68.trans (ev69.trans (ev70.trans (ev71.trans (ev72.trans (ev73.trans (ev78.trans (ev79.trans (ev80.trans (ev85.trans (ev88.trans (ev89.trans (ev94.trans (ev97.trans (ev98.trans (ev103.trans (ev134.trans (ev135.trans (ev136.trans (ev137.trans ev138)))))))))))))))))))))))))))))))))))) hz139 rfl rfl (by decide) rfl (by kernel_rfl) (by kernel_rfl) rfl ?_)
  refine XS.op rfl rfl (XO.loadE (i := 2) (f := 3) (sz := 1) (g := false) (z := r2) (h_l_.mono (ev2.trans (ev4.trans (ev5.trans (ev10.trans (ev11.trans (ev12.trans (ev17.trans (ev20.trans (ev21.trans (ev26.trans (ev29.trans (ev30.trans (ev35.trans (ev66.trans (ev67.trans (ev68.trans (ev69.trans (ev70.trans (ev71.trans (ev72.trans (ev73.trans (ev78.trans (ev79.trans (ev80.trans (ev85.trans (ev88.trans (ev89.trans (ev94.trans (ev97.trans (ev98.trans (ev103.trans (ev134.trans (ev135.trans (ev136.trans (ev137.trans ev138)))))))))))))))))))))))))))))))))))) hz139 rfl rfl (by decide) rfl (by first | rfl | omega) (by kernel_rfl) (by kernel_rfl) rfl rfl (fun cs_ hcs_ => ?_))
  obtain rfl := hcs_
  refine XS.vals' 1 [(17, .bool (decide (r2.w = 0)))] (by kernel_rfl) ?_
  refine XS.done rfl (thn_norm ?_)
  refine XC.cond_f (congrArg Value.bool (decide_eq_false hn_r2)) ?_
  refine XC.skip (thn_norm ?_)
  refine XC.seq ?_
  refine XC.region ?_
  refine XS.vals' 1 [(5, .slice none 0 0)] (by kernel_rfl) ?_
  refine XS.done rfl (thn_norm ?_)
  refine XC.seq ?_
  refine XC.seq ?_
  refine XC.region ?_
  refine XS.vals' 1 [(6, .int .i64 0)] (by kernel_rfl) ?_
  refine XS.done rfl (thn_norm ?_)
  refine XC.block ?_
  refine XC.unroll 40 ?_
  refine XR.succ ?_
  refine XC.seq ?_
  refine XC.seq ?_
  refine XC.region ?_
  refine XS.vals' 2 [(18, .int .i64 0), (19, .bool true)] (by kernel_rfl) ?_
  refine XS.done rfl (thn_norm ?_)
  refine XC.cond_t rfl ?_
  refine XC.skip (thn_norm ?_)
  refine XC.seq ?_
  refine XC.block ?_
  refine XC.seq ?_
  refine XC.region ?_
  refine XS.vals' 3 [(22, .int .i64 0), (23, .int .i64 2), (24, .bool true)] (by kernel_rfl) ?_
  refine XS.done rfl (thn_norm ?_)
  refine XC.cond_t rfl ?_
  refine XC.region ?_
  refine XS.vals' 3 [(25, .slice none 0 0), (26, .slice a_l 4 c_l), (27, .int .i64 0)] (by kernel_rfl) ?_
  have hz141 : ([r0, r1, r2, r3])[0]? = some r0 := rfl
  refine XS.op rfl rfl (XO.elem (i := 0) (z := r0) (e := 184) (sz := 4) (h_l_.mono (ev2.trans (ev4.trans (ev5.trans (ev10.trans (ev11.trans (ev12.trans (ev17.trans (ev20.trans (ev21.trans (ev26.trans (ev29.trans (ev30.trans (ev35.trans (ev66.trans (ev67.trans (ev68.trans (ev69.trans (ev70.trans (ev71.trans (ev72.trans (ev73.trans (ev78.trans (ev79.trans (ev80.trans (ev85.trans (ev88.trans (ev89.trans (ev94.trans (ev97.trans (ev98.trans (ev103.trans (ev134.trans (ev135.trans (ev136.trans (ev137.trans ev138)))))))))))))))))))))))))))))))))))) hz141 rfl rfl (by decide) rfl rfl (by omega) (by kernel_rfl) (by kernel_rfl) ?_)
  refine XS.op rfl rfl (XO.loadE (i := 0) (f := 0) (sz := 4) (g := true) (z := r0) (h_l_.mono (ev2.trans (ev4.trans (ev5.trans (ev10.trans (ev11.trans (ev12.trans (ev17.trans (ev20.trans (ev21.trans (ev26.trans (ev29.trans (ev30.trans (ev35.trans (ev66.trans (ev67.trans (ev68.trans (ev69.trans (ev70.trans (ev71.trans (ev72.trans (ev73.trans (ev78.trans (ev79.trans (ev80.trans (ev85.trans (ev88.trans (ev89.trans (ev94.trans (ev97.trans (ev98.trans (ev103.trans (ev134.trans (ev135.trans (ev136.trans (ev137.trans ev138)))))))))))))))))))))))))))))))))))) hz141 rfl rfl (by decide) rfl (by first | rfl | omega) (by kernel_rfl) (by kernel_rfl) rfl rfl (fun cs_ hcs_ => ?_))
  obtain rfl := hcs_
  refine XS.op rfl rfl (XO.newSl (k := 1) (cs := [.int .i64 r0.x, .int .i64 r0.y, .int .i64 r0.z, .int .i64 r0.w]) (T := 184) s138 rfl (by decide) (fun _ => by kernel_rfl) (fun b142 w143 s143 ev143 kp143 ybb142 => ?_))
  have s144 := Stt.nilRow s143 184 4
  have ev144 := Evo.nilRow s143 184 4
  have hroom146 : (0 + 1) * 32 ≤ 140737488355328 := by (first | omega | (simp; done) | (simp; omega))
  refine XS.op rfl rfl (XO.append (k' := [r0].length) (i := 13) (cs := ([])) (new := [.int .i64 r0.x, .int .i64 r0.y, .int .i64 r0.z, .int .i64 r0.w]) (sz := 4) (bytes := 32) (z := .agg #[.int .i64 0, .int .i64 0, .int .i64 0, .int .i64 0]) (k := 0) (m := 1) (by first | rfl | (simp only [List.length_append, List.length_cons, List.length_nil]; done) | (simp only [List.length_append, List.length_cons, List.length_nil]; omega) | (simp only [List.length_append, List.length_take, List.length_cons, List.length_nil]; omega)) s144 rfl rfl rfl (by decide) rfl rfl (by kernel_rfl) (by kernel_rfl) (by kernel_rfl) (by kernel_rfl) rfl rfl (Src.cells (o := 0) (m := 1) (s144.at_ (i := 12) rfl) (Nat.le_of_ble_eq_true rfl)) rfl (by exact hroom146) (fun ra147 rc148 w145 s145 ev145 kp145 => ?_))
  have hel149 : Els tRW (av A [cellsA b1 [.int .u64 0, .int .u64 0] 142, cellsA b3 [.int .u64 (hiU ((0 + (0 - (det3R r1 r2 r3))) + (det3R r0 r2 r3))), .int .u64 (loU ((0 + (0 - (det3R r1 r2 r3))) + (det3R r0 r2 r3)))] 142, cellsA b9 [.int .i64 r1.x, .int .i64 r1.y, .int .i64 r1.z, .int .i64 r1.w] 184, rowA (.slice (some ⟨rb36, ro37, none⟩) ([r1, r2, r3].length) rc33) ([r1, r2, r3].length) ([.int .i64 r1.x, .int .i64 r1.y, .int .i64 r1.z, .int .i64 r1.w, .int .i64 r2.x, .int .i64 r2.y, .int .i64 r2.z, .int .i64 r2.w, .int .i64 r3.x, .int .i64 r3.y, .int .i64 r3.z, .int .i64 r3.w]) 184 4, cellsA b19 [.int .i64 r2.x, .int .i64 r2.y, .int .i64 r2.z, .int .i64 r2.w] 184, cellsA b28 [.int .i64 r3.x, .int .i64 r3.y, .int .i64 r3.z, .int .i64 r3.w] 184, cellsA b52_ [.int .u64 (hiU (0 - (det3R r1 r2 r3))), .int .u64 (loU (0 - (det3R r1 r2 r3)))] 142, cellsA b77 [.int .i64 r0.x, .int .i64 r0.y, .int .i64 r0.z, .int .i64 r0.w] 184, rowA (.slice (some ⟨rb104, ro105, none⟩) ([r0, r2, r3].length) rc101) ([r0, r2, r3].length) ([.int .i64 r0.x, .int .i64 r0.y, .int .i64 r0.z, .int .i64 r0.w, .int .i64 r2.x, .int .i64 r2.y, .int .i64 r2.z, .int .i64 r2.w, .int .i64 r3.x, .int .i64 r3.y, .int .i64 r3.z, .int .i64 r3.w]) 184 4, cellsA b87 [.int .i64 r2.x, .int .i64 r2.y, .int .i64 r2.z, .int .i64 r2.w] 184, cellsA b96 [.int .i64 r3.x, .int .i64 r3.y, .int .i64 r3.z, .int .i64 r3.w] 184, cellsA b120_ [.int .u64 (hiU (det3R r0 r2 r3)), .int .u64 (loU (det3R r0 r2 r3))] 142, cellsA b142 [.int .i64 r0.x, .int .i64 r0.y, .int .i64 r0.z, .int .i64 r0.w] 184, rowA (.slice ra147 ([r0].length) rc148) ([r0].length) ([.int .i64 r0.x, .int .i64 r0.y, .int .i64 r0.z, .int .i64 r0.w]) 184 4]) w145 ([.int .i64 r0.x, .int .i64 r0.y, .int .i64 r0.z, .int .i64 r0.w]) ([r0]) := Els.snoc ((Els.nil (τ := tRW))) (show Tp.R tRW _ _ _ r0 from rfl)
  refine XS.vals' 1 [(5, .slice ra147 ([r0].length) rc148)] (by kernel_rfl) ?_
  refine XS.done rfl (inBlk_norm (thn_norm ?_))
  obtain ⟨s150, ev150⟩ := Stt.norm s145 (S' := [cellsA b1 [.int .u64 0, .int .u64 0] 142, cellsA b3 [.int .u64 (hiU ((0 + (0 - (det3R r1 r2 r3))) + (det3R r0 r2 r3))), .int .u64 (loU ((0 + (0 - (det3R r1 r2 r3))) + (det3R r0 r2 r3)))] 142, cellsA b9 [.int .i64 r1.x, .int .i64 r1.y, .int .i64 r1.z, .int .i64 r1.w] 184, rowA (.slice (some ⟨rb36, ro37, none⟩) ([r1, r2, r3].length) rc33) ([r1, r2, r3].length) ([.int .i64 r1.x, .int .i64 r1.y, .int .i64 r1.z, .int .i64 r1.w, .int .i64 r2.x, .int .i64 r2.y, .int .i64 r2.z, .int .i64 r2.w, .int .i64 r3.x, .int .i64 r3.y, .int .i64 r3.z, .int .i64 r3.w]) 184 4, cellsA b19 [.int .i64 r2.x, .int .i64 r2.y, .int .i64 r2.z, .int .i64 r2.w] 184, cellsA b28 [.int .i64 r3.x, .int .i64 r3.y, .int .i64 r3.z, .int .i64 r3.w] 184, cellsA b52_ [.int .u64 (hiU (0 - (det3R r1 r2 r3))), .int .u64 (loU (0 - (det3R r1 r2 r3)))] 142, cellsA b77 [.int .i64 r0.x, .int .i64 r0.y, .int .i64 r0.z, .int .i64 r0.w] 184, rowA (.slice (some ⟨rb104, ro105, none⟩) ([r0, r2, r3].length) rc101) ([r0, r2, r3].length) ([.int .i64 r0.x, .int .i64 r0.y, .int .i64 r0.z, .int .i64 r0.w, .int .i64 r2.x, .int .i64 r2.y, .int .i64 r2.z, .int .i64 r2.w, .int .i64 r3.x, .int .i64 r3.y, .int .i64 r3.z, .int .i64 r3.w]) 184 4, cellsA b87 [.int .i64 r2.x, .int .i64 r2.y, .int .i64 r2.z, .int .i64 r2.w] 184, cellsA b96 [.int .i64 r3.x, .int .i64 r3.y, .int .i64 r3.z, .int .i64 r3.w] 184, cellsA b120_ [.int .u64 (hiU (det3R r0 r2 r3)), .int .u64 (loU (det3R r0 r2 r3))] 142, cellsA b142 [.int .i64 r0.x, .int .i64 r0.y, .int .i64 r0.z, .int .i64 r0.w] 184, rowA (.slice ra147 ([r0].length) rc148) ([r0].length) ([.int .i64 r0.x, .int .i64 r0.y, .int .i64 r0.z, .int .i64 r0.w]) 184 4]) rfl
  refine XC.region ?_
  refine XS.vals' 3 [(20, .int .i64 0), (21, .int .i64 1), (6, .int .i64 1)] (by kernel_rfl) ?_
  refine XS.done rfl (thn_norm ?_)
  refine XR.succ ?_
  refine XC.seq ?_
  refine XC.seq ?_
  refine XC.region ?_
  refine XS.vals' 2 [(18, .int .i64 1), (19, .bool true)] (by kernel_rfl) ?_
  refine XS.done rfl (thn_norm ?_)
  refine XC.cond_t rfl ?_
  refine XC.skip (thn_norm ?_)
  refine XC.seq ?_
  refine XC.block ?_
  refine XC.seq ?_
  refine XC.region ?_
  refine XS.vals' 3 [(22, .int .i64 1), (23, .int .i64 2), (24, .bool true)] (by kernel_rfl) ?_
  refine XS.done rfl (thn_norm ?_)
  refine XC.cond_t rfl ?_
  refine XC.region ?_
  refine XS.vals' 3 [(25, .slice ra147 ([r0].length) rc148), (26, .slice a_l 4 c_l), (27, .int .i64 1)] (by kernel_rfl) ?_
  have hz151 : ([r0, r1, r2, r3])[1]? = some r1 := rfl
  refine XS.op rfl rfl (XO.elem (i := 1) (z := r1) (e := 184) (sz := 4) (h_l_.mono (ev2.trans (ev4.trans (ev5.trans (ev10.trans (ev11.trans (ev12.trans (ev17.trans (ev20.trans (ev21.trans (ev26.trans (ev29.trans (ev30.trans (ev35.trans (ev66.trans (ev67.trans (ev68.trans (ev69.trans (ev70.trans (ev71.trans (ev72.trans (ev73.trans (ev78.trans (ev79.trans (ev80.trans (ev85.trans (ev88.trans (ev89.trans (ev94.trans (ev97.trans (ev98.trans (ev103.trans (ev134.trans (ev135.trans (ev136.trans (ev137.trans (ev138.trans (ev143.trans (ev144.trans (ev145.trans ev150)))))))))))))))))))))))))))))))))))))))) hz151 rfl rfl (by decide) rfl rfl (by omega) (by kernel_rfl) (by kernel_rfl) ?_)
  refine XS.op rfl rfl (XO.loadE (i := 1) (f := 0) (sz := 4) (g := true) (z := r1) (h_l_.mono (ev2.trans (ev4.trans (ev5.trans (ev10.trans (ev11.trans (ev12.trans (ev17.trans (ev20.trans (ev21.trans (ev26.trans (ev29.trans (ev30.trans (ev35.trans (ev66.trans (ev67.trans (ev68.trans (ev69.trans (ev70.trans (ev71.trans (ev72.trans (ev73.trans (ev78.trans (ev79.trans (ev80.trans (ev85.trans (ev88.trans (ev89.trans (ev94.trans (ev97.trans (ev98.trans (ev103.trans (ev134.trans (ev135.trans (ev136.trans (ev137.trans (ev138.trans (ev143.trans (ev144.trans (ev145.trans ev150)))))))))))))))))))))))))))))))))))))))) hz151 rfl rfl (by decide) rfl (by first | rfl | omega) (by kernel_rfl) (by kernel_rfl) rfl rfl (fun cs_ hcs_ => ?_))
  obtain rfl := hcs_
  refine XS.op rfl rfl (XO.newSl (k := 1) (cs := [.int .i64 r1.x, .int .i64 r1.y, .int .i64 r1.z, .int .i64 r1.w]) (T := 184) s150 rfl (by decide) (fun _ => by kernel_rfl) (fun b152 w153 s153 ev153 kp153 ybb152 => ?_))
  have hroom155 : ([r0].length + 1) * 32 ≤ 140737488355328 := by (first | omega | (simp; done) | (simp; omega))
  refine XS.op rfl rfl (XO.append (k' := [r0, r1].length) (i := 13) (cs := ([.int .i64 r0.x, .int .i64 r0.y, .int .i64 r0.z, .int .i64 r0.w])) (new := [.int .i64 r1.x, .int .i64 r1.y, .int .i64 r1.z, .int .i64 r1.w]) (sz := 4) (bytes := 32) (z := .agg #[.int .i64 0, .int .i64 0, .int .i64 0, .int .i64 0]) (k := ([r0].length)) (m := 1) (by first | rfl | (simp only [List.length_append, List.length_cons, List.length_nil]; done) | (simp only [List.length_append, List.length_cons, List.length_nil]; omega) | (simp only [List.length_append, List.length_take, List.length_cons, List.length_nil]; omega)) s153 rfl rfl rfl (by decide) rfl rfl (by kernel_rfl) (by kernel_rfl) (by kernel_rfl) (by kernel_rfl) rfl rfl (Src.cells (o := 0) (m := 1) (s153.at_ (i := 14) rfl) (Nat.le_of_ble_eq_true rfl)) rfl (by exact hroom155) (fun ra156 rc157 w154 s154 ev154 kp154 => ?_))
  have hel158 : Els tRW (av A [cellsA b1 [.int .u64 0, .int .u64 0] 142, cellsA b3 [.int .u64 (hiU ((0 + (0 - (det3R r1 r2 r3))) + (det3R r0 r2 r3))), .int .u64 (loU ((0 + (0 - (det3R r1 r2 r3))) + (det3R r0 r2 r3)))] 142, cellsA b9 [.int .i64 r1.x, .int .i64 r1.y, .int .i64 r1.z, .int .i64 r1.w] 184, rowA (.slice (some ⟨rb36, ro37, none⟩) ([r1, r2, r3].length) rc33) ([r1, r2, r3].length) ([.int .i64 r1.x, .int .i64 r1.y, .int .i64 r1.z, .int .i64 r1.w, .int .i64 r2.x, .int .i64 r2.y, .int .i64 r2.z, .int .i64 r2.w, .int .i64 r3.x, .int .i64 r3.y, .int .i64 r3.z, .int .i64 r3.w]) 184 4, cellsA b19 [.int .i64 r2.x, .int .i64 r2.y, .int .i64 r2.z, .int .i64 r2.w] 184, cellsA b28 [.int .i64 r3.x, .int .i64 r3.y, .int .i64 r3.z, .int .i64 r3.w] 184, cellsA b52_ [.int .u64 (hiU (0 - (det3R r1 r2 r3))), .int .u64 (loU (0 - (det3R r1 r2 r3)))] 142, cellsA b77 [.int .i64 r0.x, .int .i64 r0.y, .int .i64 r0.z, .int .i64 r0.w] 184, rowA (.slice (some ⟨rb104, ro105, none⟩) ([r0, r2, r3].length) rc101) ([r0, r2, r3].length) ([.int .i64 r0.x, .int .i64 r0.y, .int .i64 r0.z, .int .i64 r0.w, .int .i64 r2.x, .int .i64 r2.y, .int .i64 r2.z, .int .i64 r2.w, .int .i64 r3.x, .int .i64 r3.y, .int .i64 r3.z, .int .i64 r3.w]) 184 4, cellsA b87 [.int .i64 r2.x, .int .i64 r2.y, .int .i64 r2.z, .int .i64 r2.w] 184, cellsA b96 [.int .i64 r3.x, .int .i64 r3.y, .int .i64 r3.z, .int .i64 r3.w] 184, cellsA b120_ [.int .u64 (hiU (det3R r0 r2 r3)), .int .u64 (loU (det3R r0 r2 r3))] 142, cellsA b142 [.int .i64 r0.x, .int .i64 r0.y, .int .i64 r0.z, .int .i64 r0.w] 184, rowA (.slice ra156 ([r0, r1].length) rc157) ([r0, r1].length) ([.int .i64 r0.x, .int .i64 r0.y, .int .i64 r0.z, .int .i64 r0.w, .int .i64 r1.x, .int .i64 r1.y, .int .i64 r1.z, .int .i64 r1.w]) 184 4, cellsA b152 [.int .i64 r1.x, .int .i64 r1.y, .int .i64 r1.z, .int .i64 r1.w] 184]) w154 ([.int .i64 r0.x, .int .i64 r0.y, .int .i64 r0.z, .int .i64 r0.w, .int .i64 r1.x, .int .i64 r1.y, .int .i64 r1.z, .int .i64 r1.w]) ([r0, r1]) := Els.snoc (((hel149.mono (ev150.trans ev153))).mono ev154) (show Tp.R tRW _ _ _ r1 from rfl)
  refine XS.vals' 1 [(5, .slice ra156 ([r0, r1].length) rc157)] (by kernel_rfl) ?_
  refine XS.done rfl (inBlk_norm (thn_norm ?_))
  obtain ⟨s159, ev159⟩ := Stt.norm s154 (S' := [cellsA b1 [.int .u64 0, .int .u64 0] 142, cellsA b3 [.int .u64 (hiU ((0 + (0 - (det3R r1 r2 r3))) + (det3R r0 r2 r3))), .int .u64 (loU ((0 + (0 - (det3R r1 r2 r3))) + (det3R r0 r2 r3)))] 142, cellsA b9 [.int .i64 r1.x, .int .i64 r1.y, .int .i64 r1.z, .int .i64 r1.w] 184, rowA (.slice (some ⟨rb36, ro37, none⟩) ([r1, r2, r3].length) rc33) ([r1, r2, r3].length) ([.int .i64 r1.x, .int .i64 r1.y, .int .i64 r1.z, .int .i64 r1.w, .int .i64 r2.x, .int .i64 r2.y, .int .i64 r2.z, .int .i64 r2.w, .int .i64 r3.x, .int .i64 r3.y, .int .i64 r3.z, .int .i64 r3.w]) 184 4, cellsA b19 [.int .i64 r2.x, .int .i64 r2.y, .int .i64 r2.z, .int .i64 r2.w] 184, cellsA b28 [.int .i64 r3.x, .int .i64 r3.y, .int .i64 r3.z, .int .i64 r3.w] 184, cellsA b52_ [.int .u64 (hiU (0 - (det3R r1 r2 r3))), .int .u64 (loU (0 - (det3R r1 r2 r3)))] 142, cellsA b77 [.int .i64 r0.x, .int .i64 r0.y, .int .i64 r0.z, .int .i64 r0.w] 184, rowA (.slice (some ⟨rb104, ro105, none⟩) ([r0, r2, r3].length) rc101) ([r0, r2, r3].length) ([.int .i64 r0.x, .int .i64 r0.y, .int .i64 r0.z, .int .i64 r0.w, .int .i64 r2.x, .int .i64 r2.y, .int .i64 r2.z, .int .i64 r2.w, .int .i64 r3.x, .int .i64 r3.y, .int .i64 r3.z, .int .i64 r3.w]) 184 4, cellsA b87 [.int .i64 r2.x, .int .i64 r2.y, .int .i64 r2.z, .int .i64 r2.w] 184, cellsA b96 [.int .i64 r3.x, .int .i64 r3.y, .int .i64 r3.z, .int .i64 r3.w] 184, cellsA b120_ [.int .u64 (hiU (det3R r0 r2 r3)), .int .u64 (loU (det3R r0 r2 r3))] 142, cellsA b142 [.int .i64 r0.x, .int .i64 r0.y, .int .i64 r0.z, .int .i64 r0.w] 184, rowA (.slice ra156 ([r0, r1].length) rc157) ([r0, r1].length) ([.int .i64 r0.x, .int .i64 r0.y, .int .i64 r0.z, .int .i64 r0.w, .int .i64 r1.x, .int .i64 r1.y, .int .i64 r1.z, .int .i64 r1.w]) 184 4, cellsA b152 [.int .i64 r1.x, .int .i64 r1.y, .int .i64 r1.z, .int .i64 r1.w] 184]) rfl
  refine XC.region ?_
  refine XS.vals' 3 [(20, .int .i64 1), (21, .int .i64 2), (6, .int .i64 2)] (by kernel_rfl) ?_
  refine XS.done rfl (thn_norm ?_)
  refine XR.succ ?_
  refine XC.seq ?_
  refine XC.seq ?_
  refine XC.region ?_
  refine XS.vals' 2 [(18, .int .i64 2), (19, .bool true)] (by kernel_rfl) ?_
  refine XS.done rfl (thn_norm ?_)
  refine XC.cond_t rfl ?_
  refine XC.skip (thn_norm ?_)
  refine XC.seq ?_
  refine XC.block ?_
  refine XC.seq ?_
  refine XC.region ?_
  refine XS.vals' 3 [(22, .int .i64 2), (23, .int .i64 2), (24, .bool false)] (by kernel_rfl) ?_
  refine XS.done rfl (thn_norm ?_)
  refine XC.cond_f rfl ?_
  refine XC.skip (inBlk_norm (thn_norm ?_))
  refine XC.region ?_
  refine XS.vals' 3 [(20, .int .i64 2), (21, .int .i64 3), (6, .int .i64 3)] (by kernel_rfl) ?_
  refine XS.done rfl (thn_norm ?_)
  refine XR.succ ?_
  refine XC.seq ?_
  refine XC.seq ?_
  refine XC.region ?_
  refine XS.vals' 2 [(18, .int .i64 3), (19, .bool true)] (by kernel_rfl) ?_
  refine XS.done rfl (thn_norm ?_)
  refine XC.cond_t rfl ?_
  refine XC.skip (thn_norm ?_)
  refine XC.seq ?_
  refine XC.block ?_
  refine XC.seq ?_
  refine XC.region ?_
  refine XS.vals' 3 [(22, .int .i64 3), (23, .int .i64 2), (24, .bool true)] (by kernel_rfl) ?_
  refine XS.done rfl (thn_norm ?_)
  refine XC.cond_t rfl ?_
  refine XC.region ?_
  refine XS.vals' 3 [(25, .slice ra156 ([r0, r1].length) rc157), (26, .slice a_l 4 c_l), (27, .int .i64 3)] (by kernel_rfl) ?_
  have hz160 : ([r0, r1, r2, r3])[3]? = some r3 := rfl
  refine XS.op rfl rfl (XO.elem (i := 3) (z := r3) (e := 184) (sz := 4) (h_l_.mono (ev2.trans (ev4.trans (ev5.trans (ev10.trans (ev11.trans (ev12.trans (ev17.trans (ev20.trans (ev21.trans (ev26.trans (ev29.trans (ev30.trans (ev35.trans (ev66.trans (ev67.trans (ev68.trans (ev69.trans (ev70.trans (ev71.trans (ev72.trans (ev73.trans (ev78.trans (ev79.trans (ev80.trans (ev85.trans (ev88.trans (ev89.trans (ev94.trans (ev97.trans (ev98.trans (ev103.trans (ev134.trans (ev135.trans (ev136.trans (ev137.trans (ev138.trans (ev143.trans (ev144.trans (ev145.trans (ev150.trans (ev153.trans (ev154.trans ev159))))))))))))))))))))))))))))))))))))))))))) hz160 rfl rfl (by decide) rfl rfl (by omega) (by kernel_rfl) (by kernel_rfl) ?_)
  refine XS.op rfl rfl (XO.loadE (i := 3) (f := 0) (sz := 4) (g := true) (z := r3) (h_l_.mono (ev2.trans (ev4.trans (ev5.trans (ev10.trans (ev11.trans (ev12.trans (ev17.trans (ev20.trans (ev21.trans (ev26.trans (ev29.trans (ev30.trans (ev35.trans (ev66.trans (ev67.trans (ev68.trans (ev69.trans (ev70.trans (ev71.trans (ev72.trans (ev73.trans (ev78.trans (ev79.trans (ev80.trans (ev85.trans (ev88.trans (ev89.trans (ev94.trans (ev97.trans (ev98.trans (ev103.trans (ev134.trans (ev135.trans (ev136.trans (ev137.trans (ev138.trans (ev143.trans (ev144.trans (ev145.trans (ev150.trans (ev153.trans (ev154.trans ev159))))))))))))))))))))))))))))))))))))))))))) hz160 rfl rfl (by decide) rfl (by first | rfl | omega) (by kernel_rfl) (by kernel_rfl) rfl rfl (fun cs_ hcs_ => ?_))
  obtain rfl := hcs_
  refine XS.op rfl rfl (XO.newSl (k := 1) (cs := [.int .i64 r3.x, .int .i64 r3.y, .int .i64 r3.z, .int .i64 r3.w]) (T := 184) s159 rfl (by decide) (fun _ => by kernel_rfl) (fun b161 w162 s162 ev162 kp162 ybb161 => ?_))
  have hroom164 : ([r0, r1].length + 1) * 32 ≤ 140737488355328 := by (first | omega | (simp; done) | (simp; omega))
  refine XS.op rfl rfl (XO.append (k' := [r0, r1, r3].length) (i := 13) (cs := ([.int .i64 r0.x, .int .i64 r0.y, .int .i64 r0.z, .int .i64 r0.w, .int .i64 r1.x, .int .i64 r1.y, .int .i64 r1.z, .int .i64 r1.w])) (new := [.int .i64 r3.x, .int .i64 r3.y, .int .i64 r3.z, .int .i64 r3.w]) (sz := 4) (bytes := 32) (z := .agg #[.int .i64 0, .int .i64 0, .int .i64 0, .int .i64 0]) (k := ([r0, r1].length)) (m := 1) (by first | rfl | (simp only [List.length_append, List.length_cons, List.length_nil]; done) | (simp only [List.length_append, List.length_cons, List.length_nil]; omega) | (simp only [List.length_append, List.length_take, List.length_cons, List.length_nil]; omega)) s162 rfl rfl rfl (by decide) rfl rfl (by kernel_rfl) (by kernel_rfl) (by kernel_rfl) (by kernel_rfl) rfl rfl (Src.cells (o := 0) (m := 1) (s162.at_ (i := 15) rfl) (Nat.le_of_ble_eq_true rfl)) rfl (by exact hroom164) (fun ra165 rc166 w163 s163 ev163 kp163 => ?_))
  have hel167 : Els tRW (av A [cellsA b1 [.int .u64 0, .int .u64 0] 142, cellsA b3 [.int .u64 (hiU ((0 + (0 - (det3R r1 r2 r3))) + (det3R r0 r2 r3))), .int .u64 (loU ((0 + (0 - (det3R r1 r2 r3))) + (det3R r0 r2 r3)))] 142, cellsA b9 [.int .i64 r1.x, .int .i64 r1.y, .int .i64 r1.z, .int .i64 r1.w] 184, rowA (.slice (some ⟨rb36, ro37, none⟩) ([r1, r2, r3].length) rc33) ([r1, r2, r3].length) ([.int .i64 r1.x, .int .i64 r1.y, .int .i64 r1.z, .int .i64 r1.w, .int .i64 r2.x, .int .i64 r2.y, .int .i64 r2.z, .int .i64 r2.w, .int .i64 r3.x, .int .i64 r3.y, .int .i64 r3.z, .int .i64 r3.w]) 184 4, cellsA b19 [.int .i64 r2.x, .int .i64 r2.y, .int .i64 r2.z, .int .i64 r2.w] 184, cellsA b28 [.int .i64 r3.x, .int .i64 r3.y, .int .i64 r3.z, .int .i64 r3.w] 184, cellsA b52_ [.int .u64 (hiU (0 - (det3R r1 r2 r3))), .int .u64 (loU (0 - (det3R r1 r2 r3)))] 142, cellsA b77 [.int .i64 r0.x, .int .i64 r0.y, .int .i64 r0.z, .int .i64 r0.w] 184, rowA (.slice (some ⟨rb104, ro105, none⟩) ([r0, r2, r3].length) rc101) ([r0, r2, r3].length) ([.int .i64 r0.x, .int .i64 r0.y, .int .i64 r0.z, .int .i64 r0.w, .int .i64 r2.x, .int .i64 r2.y, .int .i64 r2.z, .int .i64 r2.w, .int .i64 r3.x, .int .i64 r3.y, .int .i64 r3.z, .int .i64 r3.w]) 184 4, cellsA b87 [.int .i64 r2.x, .int .i64 r2.y, .int .i64 r2.z, .int .i64 r2.w] 184, cellsA b96 [.int .i64 r3.x, .int .i64 r3.y, .int .i64 r3.z, .int .i64 r3.w] 184, cellsA b120_ [.int .u64 (hiU (det3R r0 r2 r3)), .int .u64 (loU (det3R r0 r2 r3))] 142, cellsA b142 [.int .i64 r0.x, .int .i64 r0.y, .int .i64 r0.z, .int .i64 r0.w] 184, rowA (.slice ra165 ([r0, r1, r3].length) rc166) ([r0, r1, r3].length) ([.int .i64 r0.x, .int .i64 r0.y, .int .i64 r0.z, .int .i64 r0.w, .int .i64 r1.x, .int .i64 r1.y, .int .i64 r1.z, .int .i64 r1.w, .int .i64 r3.x, .int .i64 r3.y, .int .i64 r3.z, .int .i64 r3.w]) 184 4, cellsA b152 [.int .i64 r1.x, .int .i64 r1.y, .int .i64 r1.z, .int .i64 r1.w] 184, cellsA b161 [.int .i64 r3.x, .int .i64 r3.y, .int .i64 r3.z, .int .i64 r3.w] 184]) w163 ([.int .i64 r0.x, .int .i64 r0.y, .int .i64 r0.z, .int .i64 r0.w, .int .i64 r1.x, .int .i64 r1.y, .int .i64 r1.z, .int .i64 r1.w, .int .i64 r3.x, .int .i64 r3.y, .int .i64 r3.z, .int .i64 r3.w]) ([r0, r1, r3]) := Els.snoc (((hel158.mono (ev159.trans ev162))).mono ev163) (show Tp.R tRW _ _ _ r3 from rfl)
  refine XS.vals' 1 [(5, .slice ra165 ([r0, r1, r3].length) rc166)] (by kernel_rfl) ?_
  refine XS.done rfl (inBlk_norm (thn_norm ?_))
  obtain ⟨s168, ev168⟩ := Stt.norm s163 (S' := [cellsA b1 [.int .u64 0, .int .u64 0] 142, cellsA b3 [.int .u64 (hiU ((0 + (0 - (det3R r1 r2 r3))) + (det3R r0 r2 r3))), .int .u64 (loU ((0 + (0 - (det3R r1 r2 r3))) + (det3R r0 r2 r3)))] 142, cellsA b9 [.int .i64 r1.x, .int .i64 r1.y, .int .i64 r1.z, .int .i64 r1.w] 184, rowA (.slice (some ⟨rb36, ro37, none⟩) ([r1, r2, r3].length) rc33) ([r1, r2, r3].length) ([.int .i64 r1.x, .int .i64 r1.y, .int .i64 r1.z, .int .i64 r1.w, .int .i64 r2.x, .int .i64 r2.y, .int .i64 r2.z, .int .i64 r2.w, .int .i64 r3.x, .int .i64 r3.y, .int .i64 r3.z, .int .i64 r3.w]) 184 4, cellsA b19 [.int .i64 r2.x, .int .i64 r2.y, .int .i64 r2.z, .int .i64 r2.w] 184, cellsA b28 [.int .i64 r3.x, .int .i64 r3.y, .int .i64 r3.z, .int .i64 r3.w] 184, cellsA b52_ [.int .u64 (hiU (0 - (det3R r1 r2 r3))), .int .u64 (loU (0 - (det3R r1 r2 r3)))] 142, cellsA b77 [.int .i64 r0.x, .int .i64 r0.y, .int .i64 r0.z, .int .i64 r0.w] 184, rowA (.slice (some ⟨rb104, ro105, none⟩) ([r0, r2, r3].length) rc101) ([r0, r2, r3].length) ([.int .i64 r0.x, .int .i64 r0.y, .int .i64 r0.z, .int .i64 r0.w, .int .i64 r2.x, .int .i64 r2.y, .int .i64 r2.z, .int .i64 r2.w, .int .i64 r3.x, .int .i64 r3.y, .int .i64 r3.z, .int .i64 r3.w]) 184 4, cellsA b87 [.int .i64 r2.x, .int .i64 r2.y, .int .i64 r2.z, .int .i64 r2.w] 184, cellsA b96 [.int .i64 r3.x, .int .i64 r3.y, .int .i64 r3.z, .int .i64 r3.w] 184, cellsA b120_ [.int .u64 (hiU (det3R r0 r2 r3)), .int .u64 (loU (det3R r0 r2 r3))] 142, cellsA b142 [.int .i64 r0.x, .int .i64 r0.y, .int .i64 r0.z, .int .i64 r0.w] 184, rowA (.slice ra165 ([r0, r1, r3].length) rc166) ([r0, r1, r3].length) ([.int .i64 r0.x, .int .i64 r0.y, .int .i64 r0.z, .int .i64 r0.w, .int .i64 r1.x, .int .i64 r1.y, .int .i64 r1.z, .int .i64 r1.w, .int .i64 r3.x, .int .i64 r3.y, .int .i64 r3.z, .int .i64 r3.w]) 184 4, cellsA b152 [.int .i64 r1.x, .int .i64 r1.y, .int .i64 r1.z, .int .i64 r1.w] 184, cellsA b161 [.int .i64 r3.x, .int .i64 r3.y, .int .i64 r3.z, .int .i64 r3.w] 184]) rfl
  refine XC.region ?_
  refine XS.vals' 3 [(20, .int .i64 3), (21, .int .i64 4), (6, .int .i64 4)] (by kernel_rfl) ?_
  refine XS.done rfl (thn_norm ?_)
  refine XR.succ ?_
  refine XC.seq ?_
  refine XC.seq ?_
  refine XC.region ?_
  refine XS.vals' 2 [(18, .int .i64 4), (19, .bool false)] (by kernel_rfl) ?_
  refine XS.done rfl (thn_norm ?_)
  refine XC.cond_f rfl ?_
  refine XC.exit (thn_exit (thn_exit (inBlk_hit (thn_norm ?_))))
  obtain ⟨rb169, ro170, rfl⟩ := row_addr (s168.at_ (i := 13) rfl) (by (first | omega | (simp; done) | (simp; omega)))
  refine XC.cut (fun ρ_ w_ => ∃ b185_ : Nat, Has ρ_ [(0, .slice a_l 4 c_l), (2, .pointer (some ⟨b1, 0, none⟩)), (3, .pointer (some ⟨b3, 0, none⟩)), (4, .int .i64 2), (5, .slice (some ⟨rb169, ro170, none⟩) ([r0, r1, r3].length) rc166), (6, .int .i64 4), (7, .pointer (some ⟨b185_, 0, none⟩)), (8, .int .i64 2), (9, .bool true), (10, .int .i64 1), (11, .int .i64 2), (12, .slice a_l 4 c_l), (13, .int .i64 2), (14, elemP a_l (2 * 4)), (15, elemP a_l ((2 * 4) + 3)), (16, .int .i64 r2.w), (17, .bool (decide (r2.w = 0))), (18, .int .i64 4), (19, .bool false), (20, .int .i64 3), (21, .int .i64 4), (22, .int .i64 3), (23, .int .i64 2), (24, .bool true), (25, .slice ra156 ([r0, r1].length) rc157), (26, .slice a_l 4 c_l), (27, .int .i64 3), (28, elemP a_l (3 * 4)), (29, .agg #[.int .i64 r3.x, .int .i64 r3.y, .int .i64 r3.z, .int .i64 r3.w]), (30, .slice (some ⟨b161, 0, none⟩) 1 1), (31, .slice (some ⟨rb169, ro170, none⟩) ([r0, r1, r3].length) rc166), (32, .slice (some ⟨rb169, ro170, none⟩) ([r0, r1, r3].length) rc166), (33, .pointer (some ⟨rb169, ro170 + 0 * 4, none⟩)), (34, .agg #[.int .i64 r0.x, .int .i64 r0.y, .int .i64 r0.z, .int .i64 r0.w]), (35, .slice (some ⟨rb169, ro170, none⟩) ([r0, r1, r3].length) rc166), (36, .pointer (some ⟨rb169, ro170 + 1 * 4, none⟩)), (37, .agg #[.int .i64 r1.x, .int .i64 r1.y, .int .i64 r1.z, .int .i64 r1.w]), (38, .slice (some ⟨rb169, ro170, none⟩) ([r0, r1, r3].length) rc166), (39, .pointer (some ⟨rb169, ro170 + 2 * 4, none⟩)), (40, .agg #[.int .i64 r3.x, .int .i64 r3.y, .int .i64 r3.z, .int .i64 r3.w]), (41, .agg #[.int .u64 (hiU (det3R r0 r1 r3)), .int .u64 (loU (det3R r0 r1 r3))]), (42, .int .i64 1), (43, .int .i64 1), (44, .bool false), (45, .agg #[.int .u64 (hiU (det3R r1 r2 r3)), .int .u64 (loU (det3R r1 r2 r3))]), (46, .agg #[.int .u64 (hiU (0 - (det3R r1 r2 r3))), .int .u64 (loU (0 - (det3R r1 r2 r3)))]), (47, .agg #[.int .u64 (hiU (0 + (0 - (det3R r1 r2 r3)))), .int .u64 (loU (0 + (0 - (det3R r1 r2 r3))))]), (48, .agg #[.int .u64 (hiU (det3R r0 r2 r3)), .int .u64 (loU (det3R r0 r2 r3))]), (49, .agg #[.int .u64 (hiU ((0 + (0 - (det3R r1 r2 r3))) + (det3R r0 r2 r3))), .int .u64 (loU ((0 + (0 - (det3R r1 r2 r3))) + (det3R r0 r2 r3)))])] ∧ Stt A w0 none_ [cellsA b1 [.int .u64 0, .int .u64 0] 142, cellsA b3 [.int .u64 (hiU ((0 + (0 - (det3R r1 r2 r3))) + (det3R r0 r2 r3))), .int .u64 (loU ((0 + (0 - (det3R r1 r2 r3))) + (det3R r0 r2 r3)))] 142, cellsA b9 [.int .i64 r1.x, .int .i64 r1.y, .int .i64 r1.z, .int .i64 r1.w] 184, rowA (.slice (some ⟨rb36, ro37, none⟩) ([r1, r2, r3].length) rc33) ([r1, r2, r3].length) ([.int .i64 r1.x, .int .i64 r1.y, .int .i64 r1.z, .int .i64 r1.w, .int .i64 r2.x, .int .i64 r2.y, .int .i64 r2.z, .int .i64 r2.w, .int .i64 r3.x, .int .i64 r3.y, .int .i64 r3.z, .int .i64 r3.w]) 184 4, cellsA b19 [.int .i64 r2.x, .int .i64 r2.y, .int .i64 r2.z, .int .i64 r2.w] 184, cellsA b28 [.int .i64 r3.x, .int .i64 r3.y, .int .i64 r3.z, .int .i64 r3.w] 184, cellsA b52_ [.int .u64 (hiU (0 - (det3R r1 r2 r3))), .int .u64 (loU (0 - (det3R r1 r2 r3)))] 142, cellsA b77 [.int .i64 r0.x, .int .i64 r0.y, .int .i64 r0.z, .int .i64 r0.w] 184, rowA (.slice (some ⟨rb104, ro105, none⟩) ([r0, r2, r3].length) rc101) ([r0, r2, r3].length) ([.int .i64 r0.x, .int .i64 r0.y, .int .i64 r0.z, .int .i64 r0.w, .int .i64 r2.x, .int .i64 r2.y, .int .i64 r2.z, .int .i64 r2.w, .int .i64 r3.x, .int .i64 r3.y, .int .i64 r3.z, .int .i64 r3.w]) 184 4, cellsA b87 [.int .i64 r2.x, .int .i64 r2.y, .int .i64 r2.z, .int .i64 r2.w] 184, cellsA b96 [.int .i64 r3.x, .int .i64 r3.y, .int .i64 r3.z, .int .i64 r3.w] 184, cellsA b120_ [.int .u64 (hiU (det3R r0 r2 r3)), .int .u64 (loU (det3R r0 r2 r3))] 142, cellsA b142 [.int .i64 r0.x, .int .i64 r0.y, .int .i64 r0.z, .int .i64 r0.w] 184, rowA (.slice (some ⟨rb169, ro170, none⟩) ([r0, r1, r3].length) rc166) ([r0, r1, r3].length) ([.int .i64 r0.x, .int .i64 r0.y, .int .i64 r0.z, .int .i64 r0.w, .int .i64 r1.x, .int .i64 r1.y, .int .i64 r1.z, .int .i64 r1.w, .int .i64 r3.x, .int .i64 r3.y, .int .i64 r3.z, .int .i64 r3.w]) 184 4, cellsA b152 [.int .i64 r1.x, .int .i64 r1.y, .int .i64 r1.z, .int .i64 r1.w] 184, cellsA b161 [.int .i64 r3.x, .int .i64 r3.y, .int .i64 r3.z, .int .i64 r3.w] 184, cellsA b185_ [.int .u64 (hiU (det3R r0 r1 r3)), .int .u64 (loU (det3R r0 r1 r3))] 142] w_ ∧ Evo (av A [cellsA b1 [.int .u64 0, .int .u64 0] 142, cellsA b3 [.int .u64 (hiU ((0 + (0 - (det3R r1 r2 r3))) + (det3R r0 r2 r3))), .int .u64 (loU ((0 + (0 - (det3R r1 r2 r3))) + (det3R r0 r2 r3)))] 142, cellsA b9 [.int .i64 r1.x, .int .i64 r1.y, .int .i64 r1.z, .int .i64 r1.w] 184, rowA (.slice (some ⟨rb36, ro37, none⟩) ([r1, r2, r3].length) rc33) ([r1, r2, r3].length) ([.int .i64 r1.x, .int .i64 r1.y, .int .i64 r1.z, .int .i64 r1.w, .int .i64 r2.x, .int .i64 r2.y, .int .i64 r2.z, .int .i64 r2.w, .int .i64 r3.x, .int .i64 r3.y, .int .i64 r3.z, .int .i64 r3.w]) 184 4, cellsA b19 [.int .i64 r2.x, .int .i64 r2.y, .int .i64 r2.z, .int .i64 r2.w] 184, cellsA b28 [.int .i64 r3.x, .int .i64 r3.y, .int .i64 r3.z, .int .i64 r3.w] 184, cellsA b52_ [.int .u64 (hiU (0 - (det3R r1 r2 r3))), .int .u64 (loU (0 - (det3R r1 r2 r3)))] 142, cellsA b77 [.int .i64 r0.x, .int .i64 r0.y, .int .i64 r0.z, .int .i64 r0.w] 184, rowA (.slice (some ⟨rb104, ro105, none⟩) ([r0, r2, r3].length) rc101) ([r0, r2, r3].length) ([.int .i64 r0.x, .int .i64 r0.y, .int .i64 r0.z, .int .i64 r0.w, .int .i64 r2.x, .int .i64 r2.y, .int .i64 r2.z, .int .i64 r2.w, .int .i64 r3.x, .int .i64 r3.y, .int .i64 r3.z, .int .i64 r3.w]) 184 4, cellsA b87 [.int .i64 r2.x, .int .i64 r2.y, .int .i64 r2.z, .int .i64 r2.w] 184, cellsA b96 [.int .i64 r3.x, .int .i64 r3.y, .int .i64 r3.z, .int .i64 r3.w] 184, cellsA b120_ [.int .u64 (hiU (det3R r0 r2 r3)), .int .u64 (loU (det3R r0 r2 r3))] 142, cellsA b142 [.int .i64 r0.x, .int .i64 r0.y, .int .i64 r0.z, .int .i64 r0.w] 184, rowA (.slice (some ⟨rb169, ro170, none⟩) ([r0, r1, r3].length) rc166) ([r0, r1, r3].length) ([.int .i64 r0.x, .int .i64 r0.y, .int .i64 r0.z, .int .i64 r0.w, .int .i64 r1.x, .int .i64 r1.y, .int .i64 r1.z, .int .i64 r1.w, .int .i64 r3.x, .int .i64 r3.y, .int .i64 r3.z, .int .i64 r3.w]) 184 4, cellsA b152 [.int .i64 r1.x, .int .i64 r1.y, .int .i64 r1.z, .int .i64 r1.w] 184, cellsA b161 [.int .i64 r3.x, .int .i64 r3.y, .int .i64 r3.z, .int .i64 r3.w] 184]) w163 (av A [cellsA b1 [.int .u64 0, .int .u64 0] 142, cellsA b3 [.int .u64 (hiU ((0 + (0 - (det3R r1 r2 r3))) + (det3R r0 r2 r3))), .int .u64 (loU ((0 + (0 - (det3R r1 r2 r3))) + (det3R r0 r2 r3)))] 142, cellsA b9 [.int .i64 r1.x, .int .i64 r1.y, .int .i64 r1.z, .int .i64 r1.w] 184, rowA (.slice (some ⟨rb36, ro37, none⟩) ([r1, r2, r3].length) rc33) ([r1, r2, r3].length) ([.int .i64 r1.x, .int .i64 r1.y, .int .i64 r1.z, .int .i64 r1.w, .int .i64 r2.x, .int .i64 r2.y, .int .i64 r2.z, .int .i64 r2.w, .int .i64 r3.x, .int .i64 r3.y, .int .i64 r3.z, .int .i64 r3.w]) 184 4, cellsA b19 [.int .i64 r2.x, .int .i64 r2.y, .int .i64 r2.z, .int .i64 r2.w] 184, cellsA b28 [.int .i64 r3.x, .int .i64 r3.y, .int .i64 r3.z, .int .i64 r3.w] 184, cellsA b52_ [.int .u64 (hiU (0 - (det3R r1 r2 r3))), .int .u64 (loU (0 - (det3R r1 r2 r3)))] 142, cellsA b77 [.int .i64 r0.x, .int .i64 r0.y, .int .i64 r0.z, .int .i64 r0.w] 184, rowA (.slice (some ⟨rb104, ro105, none⟩) ([r0, r2, r3].length) rc101) ([r0, r2, r3].length) ([.int .i64 r0.x, .int .i64 r0.y, .int .i64 r0.z, .int .i64 r0.w, .int .i64 r2.x, .int .i64 r2.y, .int .i64 r2.z, .int .i64 r2.w, .int .i64 r3.x, .int .i64 r3.y, .int .i64 r3.z, .int .i64 r3.w]) 184 4, cellsA b87 [.int .i64 r2.x, .int .i64 r2.y, .int .i64 r2.z, .int .i64 r2.w] 184, cellsA b96 [.int .i64 r3.x, .int .i64 r3.y, .int .i64 r3.z, .int .i64 r3.w] 184, cellsA b120_ [.int .u64 (hiU (det3R r0 r2 r3)), .int .u64 (loU (det3R r0 r2 r3))] 142, cellsA b142 [.int .i64 r0.x, .int .i64 r0.y, .int .i64 r0.z, .int .i64 r0.w] 184, rowA (.slice (some ⟨rb169, ro170, none⟩) ([r0, r1, r3].length) rc166) ([r0, r1, r3].length) ([.int .i64 r0.x, .int .i64 r0.y, .int .i64 r0.z, .int .i64 r0.w, .int .i64 r1.x, .int .i64 r1.y, .int .i64 r1.z, .int .i64 r1.w, .int .i64 r3.x, .int .i64 r3.y, .int .i64 r3.z, .int .i64 r3.w]) 184 4, cellsA b152 [.int .i64 r1.x, .int .i64 r1.y, .int .i64 r1.z, .int .i64 r1.w] 184, cellsA b161 [.int .i64 r3.x, .int .i64 r3.y, .int .i64 r3.z, .int .i64 r3.w] 184, cellsA b185_ [.int .u64 (hiU (det3R r0 r1 r3)), .int .u64 (loU (det3R r0 r1 r3))] 142]) w_) ?_ ?_
  · skip
    refine XC.drawS 12 rfl (fun _ => False) 12 (by kernel_rfl) s168 (fun w171 s171 ev171 kp171 hH172 => ?_)
    refine XA.valD 0 32 (.slice (some ⟨rb169, ro170, none⟩) ([r0, r1, r3].length) rc166) rfl (by kernel_rfl) (by kernel_rfl) (by kernel_rfl) rfl (by kernel_rfl) rfl hH172 (fun hH173 => ?_)
    refine XA.index (p := 1) (i := 0) (e := 184) (sz := 4) rfl (by kernel_rfl) (by kernel_rfl) (by kernel_rfl) rfl (by kernel_rfl) rfl rfl (by decide) rfl rfl (by omega) (by (first | omega | (simp; done) | (simp; omega))) (by kernel_rfl) (by kernel_rfl) hH173 (fun hH174 => ?_)
    have hz176 : ([r0, r1, r3])[0]? = some r0 := rfl
    refine XA.loadRow false (p := 2) (q := 13) (j := 0) (z := r0) (g := true) s171 rfl (hel167.mono (ev168.trans ev171)) rfl hz176 rfl rfl (by kernel_rfl) (by kernel_rfl) (by kernel_rfl) rfl rfl (fun _ h => h) (by kernel_rfl) rfl rfl (by decide) hH174 rfl (by first | rfl | omega) (by kernel_rfl) (by kernel_rfl) rfl (fun cs_ hcs_ hH175 => ?_)
    obtain rfl := hcs_
    refine XA.valD 3 35 (.slice (some ⟨rb169, ro170, none⟩) ([r0, r1, r3].length) rc166) rfl (by kernel_rfl) (by kernel_rfl) (by kernel_rfl) rfl (by kernel_rfl) rfl hH175 (fun hH177 => ?_)
    refine XA.index (p := 4) (i := 1) (e := 184) (sz := 4) rfl (by kernel_rfl) (by kernel_rfl) (by kernel_rfl) rfl (by kernel_rfl) rfl rfl (by decide) rfl rfl (by omega) (by (first | omega | (simp; done) | (simp; omega))) (by kernel_rfl) (by kernel_rfl) hH177 (fun hH178 => ?_)
    have hz180 : ([r0, r1, r3])[1]? = some r1 := rfl
    refine XA.loadRow false (p := 5) (q := 13) (j := 1) (z := r1) (g := true) s171 rfl (hel167.mono (ev168.trans ev171)) rfl hz180 rfl rfl (by kernel_rfl) (by kernel_rfl) (by kernel_rfl) rfl rfl (fun _ h => h) (by kernel_rfl) rfl rfl (by decide) hH178 rfl (by first | rfl | omega) (by kernel_rfl) (by kernel_rfl) rfl (fun cs_ hcs_ hH179 => ?_)
    obtain rfl := hcs_
    refine XA.valD 6 38 (.slice (some ⟨rb169, ro170, none⟩) ([r0, r1, r3].length) rc166) rfl (by kernel_rfl) (by kernel_rfl) (by kernel_rfl) rfl (by kernel_rfl) rfl hH179 (fun hH181 => ?_)
    refine XA.index (p := 7) (i := 2) (e := 184) (sz := 4) rfl (by kernel_rfl) (by kernel_rfl) (by kernel_rfl) rfl (by kernel_rfl) rfl rfl (by decide) rfl rfl (by omega) (by (first | omega | (simp; done) | (simp; omega))) (by kernel_rfl) (by kernel_rfl) hH181 (fun hH182 => ?_)
    have hz184 : ([r0, r1, r3])[2]? = some r3 := rfl
    refine XA.loadRow false (p := 8) (q := 13) (j := 2) (z := r3) (g := true) s171 rfl (hel167.mono (ev168.trans ev171)) rfl hz184 rfl rfl (by kernel_rfl) (by kernel_rfl) (by kernel_rfl) rfl rfl (fun _ h => h) (by kernel_rfl) rfl rfl (by decide) hH182 rfl (by first | rfl | omega) (by kernel_rfl) (by kernel_rfl) rfl (fun cs_ hcs_ hH183 => ?_)
    obtain rfl := hcs_
    refine XA.op2 (i := 9) (j := 10) rfl rfl (by kernel_rfl) (by kernel_rfl) (by kernel_rfl) ?_ ?_
    · skip
      refine XO.callS (f := 161) (args := [(.agg #[.int .i64 r0.x, .int .i64 r0.y, .int .i64 r0.z, .int .i64 r0.w]), (.agg #[.int .i64 r1.x, .int .i64 r1.y, .int .i64 r1.z, .int .i64 r1.w]), (.agg #[.int .i64 r3.x, .int .i64 r3.y, .int .i64 r3.z, .int .i64 r3.w])].toArray) s171 rfl (by decide) (fun _ => by kernel_rfl) (carapaceref2_three_ok (av A _) _ s171.av_fresh r0 r1 r3 (by first | exact hok.1 | exact hok.2.1 | exact hok.2.2.1 | exact hok.2.2.2) (by first | exact hok.1 | exact hok.2.1 | exact hok.2.2.1 | exact hok.2.2.2) (by first | exact hok.1 | exact hok.2.1 | exact hok.2.2.1 | exact hok.2.2.2)) (fun _ w185 s185 ev185 kp185 hv_ => ?_)
      obtain rfl := hv_
      have hH186 := hH183.keep (i := 9) kp185 rfl
      refine ⟨hH186, ?_⟩
      refine XA.op (i := 10) rfl (by kernel_rfl) (by kernel_rfl) (XO.new (cs := [.int .u64 0, .int .u64 0]) (T := 142) s185 rfl (by decide) (fun _ => by kernel_rfl) (fun b187 w188 s188 ev188 kp188 ybb187 => ?_))
      have hH189 := hH186.keep (i := 10) kp188 rfl
      refine ⟨hH189, ?_⟩
      refine XA.op (i := 11) rfl (by kernel_rfl) (by kernel_rfl) (XO.storeS (i := 16) (v := .agg #[.int .u64 (hiU (det3R r0 r1 r3)), .int .u64 (loU (det3R r0 r1 r3))]) (m := 2) (cs' := [.int .u64 (hiU (det3R r0 r1 r3)), .int .u64 (loU (det3R r0 r1 r3))]) s188 rfl rfl rfl rfl rfl (by kernel_rfl) rfl rfl rfl rfl (fun w190 s190 ev190 kp190 => ?_))
      have hH191 := hH189.young (i := 11) kp190 (by exact (Nat.le_trans hH186.1 ybb187)) rfl
      refine ⟨hH191, ?_⟩
      refine XA.done (by kernel_rfl) (thn_norm ?_)
      exact ⟨b187, ⟨rfl, rfl, rfl, rfl, rfl, rfl, rfl, rfl, rfl, rfl, rfl, rfl, rfl, rfl, rfl, rfl, rfl, rfl, rfl, rfl, rfl, rfl, rfl, rfl, rfl, rfl, rfl, rfl, rfl, rfl, rfl, rfl, rfl, rfl, rfl, rfl, rfl, rfl, rfl, rfl, rfl, rfl, rfl, rfl, rfl, rfl, rfl, rfl, rfl, trivial⟩, s190, (ev171.trans (ev185.trans (ev188.trans ev190)))⟩
    · skip
      refine XO.new (cs := [.int .u64 0, .int .u64 0]) (T := 142) s171 rfl (by decide) (fun _ => by kernel_rfl) (fun b192 w193 s193 ev193 kp193 ybb192 => ?_)
      have hH194 := hH183.keep (i := 10) kp193 rfl
      refine ⟨hH194, ?_⟩
      refine XA.op (i := 9) rfl (by kernel_rfl) (by kernel_rfl) (XO.callS (f := 161) (args := [(.agg #[.int .i64 r0.x, .int .i64 r0.y, .int .i64 r0.z, .int .i64 r0.w]), (.agg #[.int .i64 r1.x, .int .i64 r1.y, .int .i64 r1.z, .int .i64 r1.w]), (.agg #[.int .i64 r3.x, .int .i64 r3.y, .int .i64 r3.z, .int .i64 r3.w])].toArray) s193 rfl (by decide) (fun _ => by kernel_rfl) (carapaceref2_three_ok (av A _) _ s193.av_fresh r0 r1 r3 (by first | exact hok.1 | exact hok.2.1 | exact hok.2.2.1 | exact hok.2.2.2) (by first | exact hok.1 | exact hok.2.1 | exact hok.2.2.1 | exact hok.2.2.2) (by first | exact hok.1 | exact hok.2.1 | exact hok.2.2.1 | exact hok.2.2.2)) (fun _ w195 s195 ev195 kp195 hv_ => ?_))
      obtain rfl := hv_
      have hH196 := hH194.keep (i := 9) kp195 rfl
      refine ⟨hH196, ?_⟩
      refine XA.op (i := 11) rfl (by kernel_rfl) (by kernel_rfl) (XO.storeS (i := 16) (v := .agg #[.int .u64 (hiU (det3R r0 r1 r3)), .int .u64 (loU (det3R r0 r1 r3))]) (m := 2) (cs' := [.int .u64 (hiU (det3R r0 r1 r3)), .int .u64 (loU (det3R r0 r1 r3))]) s195 rfl rfl rfl rfl rfl (by kernel_rfl) rfl rfl rfl rfl (fun w197 s197 ev197 kp197 => ?_))
      have hH198 := hH196.young (i := 11) kp197 (by exact (Nat.le_trans hH183.1 ybb192)) rfl
      refine ⟨hH198, ?_⟩
      refine XA.done (by kernel_rfl) (thn_norm ?_)
      exact ⟨b192, ⟨rfl, rfl, rfl, rfl, rfl, rfl, rfl, rfl, rfl, rfl, rfl, rfl, rfl, rfl, rfl, rfl, rfl, rfl, rfl, rfl, rfl, rfl, rfl, rfl, rfl, rfl, rfl, rfl, rfl, rfl, rfl, rfl, rfl, rfl, rfl, rfl, rfl, rfl, rfl, rfl, rfl, rfl, rfl, rfl, rfl, rfl, rfl, rfl, rfl, trivial⟩, s197, (ev171.trans (ev193.trans (ev195.trans ev197)))⟩
  intro ρw199 w199 hJ_
  obtain ⟨b185_, hh199, s199, ev199⟩ := hJ_
  refine XC.rebase hh199 ?_
  refine XC.seq ?_
  refine XC.seq ?_
  obtain ⟨s200, ev200⟩ := Stt.norm s199 (S' := [cellsA b1 [.int .u64 0, .int .u64 0] 142, cellsA b3 [.int .u64 (hiU ((0 + (0 - (det3R r1 r2 r3))) + (det3R r0 r2 r3))), .int .u64 (loU ((0 + (0 - (det3R r1 r2 r3))) + (det3R r0 r2 r3)))] 142, cellsA b9 [.int .i64 r1.x, .int .i64 r1.y, .int .i64 r1.z, .int .i64 r1.w] 184, rowA (.slice (some ⟨rb36, ro37, none⟩) ([r1, r2, r3].length) rc33) ([r1, r2, r3].length) ([.int .i64 r1.x, .int .i64 r1.y, .int .i64 r1.z, .int .i64 r1.w, .int .i64 r2.x, .int .i64 r2.y, .int .i64 r2.z, .int .i64 r2.w, .int .i64 r3.x, .int .i64 r3.y, .int .i64 r3.z, .int .i64 r3.w]) 184 4, cellsA b19 [.int .i64 r2.x, .int .i64 r2.y, .int .i64 r2.z, .int .i64 r2.w] 184, cellsA b28 [.int .i64 r3.x, .int .i64 r3.y, .int .i64 r3.z, .int .i64 r3.w] 184, cellsA b52_ [.int .u64 (hiU (0 - (det3R r1 r2 r3))), .int .u64 (loU (0 - (det3R r1 r2 r3)))] 142, cellsA b77 [.int .i64 r0.x, .int .i64 r0.y, .int .i64 r0.z, .int .i64 r0.w] 184, rowA (.slice (some ⟨rb104, ro105, none⟩) ([r0, r2, r3].length) rc101) ([r0, r2, r3].length) ([.int .i64 r0.x, .int .i64 r0.y, .int .i64 r0.z, .int .i64 r0.w, .int .i64 r2.x, .int .i64 r2.y, .int .i64 r2.z, .int .i64 r2.w, .int .i64 r3.x, .int .i64 r3.y, .int .i64 r3.z, .int .i64 r3.w]) 184 4, cellsA b87 [.int .i64 r2.x, .int .i64 r2.y, .int .i64 r2.z, .int .i64 r2.w] 184, cellsA b96 [.int .i64 r3.x, .int .i64 r3.y, .int .i64 r3.z, .int .i64 r3.w] 184, cellsA b120_ [.int .u64 (hiU (det3R r0 r2 r3)), .int .u64 (loU (det3R r0 r2 r3))] 142, cellsA b142 [.int .i64 r0.x, .int .i64 r0.y, .int .i64 r0.z, .int .i64 r0.w] 184, rowA (.slice (some ⟨rb169, ro170, none⟩) ([r0, r1, r3].length) rc166) ([r0, r1, r3].length) ([.int .i64 r0.x, .int .i64 r0.y, .int .i64 r0.z, .int .i64 r0.w, .int .i64 r1.x, .int .i64 r1.y, .int .i64 r1.z, .int .i64 r1.w, .int .i64 r3.x, .int .i64 r3.y, .int .i64 r3.z, .int .i64 r3.w]) 184 4, cellsA b152 [.int .i64 r1.x, .int .i64 r1.y, .int .i64 r1.z, .int .i64 r1.w] 184, cellsA b161 [.int .i64 r3.x, .int .i64 r3.y, .int .i64 r3.z, .int .i64 r3.w] 184, cellsA b185_ [.int .u64 (hiU (det3R r0 r1 r3)), .int .u64 (loU (det3R r0 r1 r3))] 142]) rfl
  refine XC.region ?_
  refine XS.vals' 3 [(42, .int .i64 2), (43, .int .i64 0), (44, .bool true)] (by kernel_rfl) ?_
  refine XS.done rfl (thn_norm ?_)
  refine XC.cond_t rfl ?_
  refine XC.region ?_
  refine XS.op rfl rfl (XO.loadS (i := 16) (v := .agg #[.int .u64 (hiU (det3R r0 r1 r3)), .int .u64 (loU (det3R r0 r1 r3))]) (g := true) (m := 2) s200 rfl rfl rfl (by decide) rfl (by kernel_rfl) (by kernel_rfl) rfl rfl rfl ?_)
  refine XS.op rfl rfl (XO.callS (f := 162) (args := [(.agg #[.int .u64 (hiU (det3R r0 r1 r3)), .int .u64 (loU (det3R r0 r1 r3))])].toArray) s200 rfl (by decide) (fun _ => by kernel_rfl) (carapaceref1_Neg_ok (av A _) _ s200.av_fresh (det3R r0 r1 r3) ) (fun _ w201 s201 ev201 kp201 hv_ => ?_))
  obtain rfl := hv_
  refine XS.op rfl rfl (XO.storeS (i := 16) (v := .agg #[.int .u64 (hiU (0 - (det3R r0 r1 r3))), .int .u64 (loU (0 - (det3R r0 r1 r3)))]) (m := 2) (cs' := [.int .u64 (hiU (0 - (det3R r0 r1 r3))), .int .u64 (loU (0 - (det3R r0 r1 r3)))]) s201 rfl rfl rfl rfl rfl (by kernel_rfl) rfl rfl rfl rfl (fun w202 s202 ev202 kp202 => ?_))
  refine XS.done rfl (thn_norm ?_)
  obtain ⟨s203, ev203⟩ := Stt.norm s202 (S' := [cellsA b1 [.int .u64 0, .int .u64 0] 142, cellsA b3 [.int .u64 (hiU ((0 + (0 - (det3R r1 r2 r3))) + (det3R r0 r2 r3))), .int .u64 (loU ((0 + (0 - (det3R r1 r2 r3))) + (det3R r0 r2 r3)))] 142, cellsA b9 [.int .i64 r1.x, .int .i64 r1.y, .int .i64 r1.z, .int .i64 r1.w] 184, rowA (.slice (some ⟨rb36, ro37, none⟩) ([r1, r2, r3].length) rc33) ([r1, r2, r3].length) ([.int .i64 r1.x, .int .i64 r1.y, .int .i64 r1.z, .int .i64 r1.w, .int .i64 r2.x, .int .i64 r2.y, .int .i64 r2.z, .int .i64 r2.w, .int .i64 r3.x, .int .i64 r3.y, .int .i64 r3.z, .int .i64 r3.w]) 184 4, cellsA b19 [.int .i64 r2.x, .int .i64 r2.y, .int .i64 r2.z, .int .i64 r2.w] 184, cellsA b28 [.int .i64 r3.x, .int .i64 r3.y, .int .i64 r3.z, .int .i64 r3.w] 184, cellsA b52_ [.int .u64 (hiU (0 - (det3R r1 r2 r3))), .int .u64 (loU (0 - (det3R r1 r2 r3)))] 142, cellsA b77 [.int .i64 r0.x, .int .i64 r0.y, .int .i64 r0.z, .int .i64 r0.w] 184, rowA (.slice (some ⟨rb104, ro105, none⟩) ([r0, r2, r3].length) rc101) ([r0, r2, r3].length) ([.int .i64 r0.x, .int .i64 r0.y, .int .i64 r0.z, .int .i64 r0.w, .int .i64 r2.x, .int .i64 r2.y, .int .i64 r2.z, .int .i64 r2.w, .int .i64 r3.x, .int .i64 r3.y, .int .i64 r3.z, .int .i64 r3.w]) 184 4, cellsA b87 [.int .i64 r2.x, .int .i64 r2.y, .int .i64 r2.z, .int .i64 r2.w] 184, cellsA b96 [.int .i64 r3.x, .int .i64 r3.y, .int .i64 r3.z, .int .i64 r3.w] 184, cellsA b120_ [.int .u64 (hiU (det3R r0 r2 r3)), .int .u64 (loU (det3R r0 r2 r3))] 142, cellsA b142 [.int .i64 r0.x, .int .i64 r0.y, .int .i64 r0.z, .int .i64 r0.w] 184, rowA (.slice (some ⟨rb169, ro170, none⟩) ([r0, r1, r3].length) rc166) ([r0, r1, r3].length) ([.int .i64 r0.x, .int .i64 r0.y, .int .i64 r0.z, .int .i64 r0.w, .int .i64 r1.x, .int .i64 r1.y, .int .i64 r1.z, .int .i64 r1.w, .int .i64 r3.x, .int .i64 r3.y, .int .i64 r3.z, .int .i64 r3.w]) 184 4, cellsA b152 [.int .i64 r1.x, .int .i64 r1.y, .int .i64 r1.z, .int .i64 r1.w] 184, cellsA b161 [.int .i64 r3.x, .int .i64 r3.y, .int .i64 r3.z, .int .i64 r3.w] 184, cellsA b185_ [.int .u64 (hiU (0 - (det3R r0 r1 r3))), .int .u64 (loU (0 - (det3R r0 r1 r3)))] 142]) rfl
  refine XC.region ?_
  refine XS.op rfl rfl (XO.loadS (i := 1) (v := .agg #[.int .u64 (hiU ((0 + (0 - (det3R r1 r2 r3))) + (det3R r0 r2 r3))), .int .u64 (loU ((0 + (0 - (det3R r1 r2 r3))) + (det3R r0 r2 r3)))]) (g := true) (m := 2) s203 rfl rfl rfl (by decide) rfl (by kernel_rfl) (by kernel_rfl) rfl rfl rfl ?_)
  refine XS.op rfl rfl (XO.loadS (i := 16) (v := .agg #[.int .u64 (hiU (0 - (det3R r0 r1 r3))), .int .u64 (loU (0 - (det3R r0 r1 r3)))]) (g := true) (m := 2) s203 rfl rfl rfl (by decide) rfl (by kernel_rfl) (by kernel_rfl) rfl rfl rfl ?_)
  refine XS.op rfl rfl (XO.callS (f := 163) (args := [(.agg #[.int .u64 (hiU ((0 + (0 - (det3R r1 r2 r3))) + (det3R r0 r2 r3))), .int .u64 (loU ((0 + (0 - (det3R r1 r2 r3))) + (det3R r0 r2 r3)))]), (.agg #[.int .u64 (hiU (0 - (det3R r0 r1 r3))), .int .u64 (loU (0 - (det3R r0 r1 r3)))])].toArray) s203 rfl (by decide) (fun _ => by kernel_rfl) (carapaceref1_Add_ok (av A _) _ s203.av_fresh ((0 + (0 - (det3R r1 r2 r3))) + (det3R r0 r2 r3)) (0 - (det3R r0 r1 r3)) ) (fun _ w204 s204 ev204 kp204 hv_ => ?_))
  obtain rfl := hv_
  refine XS.op rfl rfl (XO.storeS (i := 1) (v := .agg #[.int .u64 (hiU (((0 + (0 - (det3R r1 r2 r3))) + (det3R r0 r2 r3)) + (0 - (det3R r0 r1 r3)))), .int .u64 (loU (((0 + (0 - (det3R r1 r2 r3))) + (det3R r0 r2 r3)) + (0 - (det3R r0 r1 r3))))]) (m := 2) (cs' := [.int .u64 (hiU (((0 + (0 - (det3R r1 r2 r3))) + (det3R r0 r2 r3)) + (0 - (det3R r0 r1 r3)))), .int .u64 (loU (((0 + (0 - (det3R r1 r2 r3))) + (det3R r0 r2 r3)) + (0 - (det3R r0 r1 r3))))]) s204 rfl rfl rfl rfl rfl (by kernel_rfl) rfl rfl rfl rfl (fun w205 s205 ev205 kp205 => ?_))
  refine XS.done rfl (inBlk_norm (thn_norm ?_))
  obtain ⟨s206, ev206⟩ := Stt.norm s205 (S' := [cellsA b1 [.int .u64 0, .int .u64 0] 142, cellsA b3 [.int .u64 (hiU (((0 + (0 - (det3R r1 r2 r3))) + (det3R r0 r2 r3)) + (0 - (det3R r0 r1 r3)))), .int .u64 (loU (((0 + (0 - (det3R r1 r2 r3))) + (det3R r0 r2 r3)) + (0 - (det3R r0 r1 r3))))] 142, cellsA b9 [.int .i64 r1.x, .int .i64 r1.y, .int .i64 r1.z, .int .i64 r1.w] 184, rowA (.slice (some ⟨rb36, ro37, none⟩) ([r1, r2, r3].length) rc33) ([r1, r2, r3].length) ([.int .i64 r1.x, .int .i64 r1.y, .int .i64 r1.z, .int .i64 r1.w, .int .i64 r2.x, .int .i64 r2.y, .int .i64 r2.z, .int .i64 r2.w, .int .i64 r3.x, .int .i64 r3.y, .int .i64 r3.z, .int .i64 r3.w]) 184 4, cellsA b19 [.int .i64 r2.x, .int .i64 r2.y, .int .i64 r2.z, .int .i64 r2.w] 184, cellsA b28 [.int .i64 r3.x, .int .i64 r3.y, .int .i64 r3.z, .int .i64 r3.w] 184, cellsA b52_ [.int .u64 (hiU (0 - (det3R r1 r2 r3))), .int .u64 (loU (0 - (det3R r1 r2 r3)))] 142, cellsA b77 [.int .i64 r0.x, .int .i64 r0.y, .int .i64 r0.z, .int .i64 r0.w] 184, rowA (.slice (some ⟨rb104, ro105, none⟩) ([r0, r2, r3].length) rc101) ([r0, r2, r3].length) ([.int .i64 r0.x, .int .i64 r0.y, .int .i64 r0.z, .int .i64 r0.w, .int .i64 r2.x, .int .i64 r2.y, .int .i64 r2.z, .int .i64 r2.w, .int .i64 r3.x, .int .i64 r3.y, .int .i64 r3.z, .int .i64 r3.w]) 184 4, cellsA b87 [.int .i64 r2.x, .int .i64 r2.y, .int .i64 r2.z, .int .i64 r2.w] 184, cellsA b96 [.int .i64 r3.x, .int .i64 r3.y, .int .i64 r3.z, .int .i64 r3.w] 184, cellsA b120_ [.int .u64 (hiU (det3R r0 r2 r3)), .int .u64 (loU (det3R r0 r2 r3))] 142, cellsA b142 [.int .i64 r0.x, .int .i64 r0.y, .int .i64 r0.z, .int .i64 r0.w] 184, rowA (.slice (some ⟨rb169, ro170, none⟩) ([r0, r1, r3].length) rc166) ([r0, r1, r3].length) ([.int .i64 r0.x, .int .i64 r0.y, .int .i64 r0.z, .int .i64 r0.w, .int .i64 r1.x, .int .i64 r1.y, .int .i64 r1.z, .int .i64 r1.w, .int .i64 r3.x, .int .i64 r3.y, .int .i64 r3.z, .int .i64 r3.w]) 184 4, cellsA b152 [.int .i64 r1.x, .int .i64 r1.y, .int .i64 r1.z, .int .i64 r1.w] 184, cellsA b161 [.int .i64 r3.x, .int .i64 r3.y, .int .i64 r3.z, .int .i64 r3.w] 184, cellsA b185_ [.int .u64 (hiU (0 - (det3R r0 r1 r3))), .int .u64 (loU (0 - (det3R r0 r1 r3)))] 142]) rfl
  refine XC.region ?_
  refine XS.vals' 3 [(10, .int .i64 2), (11, .int .i64 3), (4, .int .i64 3)] (by kernel_rfl) ?_
  refine XS.done rfl (thn_norm ?_)
  refine XR.succ ?_
  refine XC.seq ?_
  refine XC.seq ?_
  refine XC.region ?_
  refine XS.vals' 2 [(8, .int .i64 3), (9, .bool true)] (by kernel_rfl) ?_
  refine XS.done rfl (thn_norm ?_)
  refine XC.cond_t rfl ?_
  refine XC.skip (thn_norm ?_)
  refine XC.seq ?_
  refine XC.block ?_
  refine XC.seq ?_
  refine XC.seq ?_
  refine XC.region ?_
  refine XS.vals' 2 [(12, .slice a_l 4 c_l), (13, .int .i64 3)] (by kernel_rfl) ?_
  have hz207 : ([r0, r1, r2, r3])[3]? = some r3 := rfl
  refine XS.op rfl rfl (XO.elem (i := 3) (z := r3) (e := 184) (sz := 4) (h_l_.mono (ev2.trans (ev4.trans (ev5.trans (ev10.trans (ev11.trans (ev12.trans (ev17.trans (ev20.trans (ev21.trans (ev26.trans (ev29.trans (ev30.trans (ev35.trans (ev66.trans (ev67.trans (ev68.trans (ev69.trans (ev70.trans (ev71.trans (ev72.trans (ev73.trans (ev78.trans (ev79.trans (ev80.trans (ev85.trans (ev88.trans (ev89.trans (ev94.trans (ev97.trans (ev98.trans (ev103.trans (ev134.trans (ev135.trans (ev136.trans (ev137.trans (ev138.trans (ev143.trans (ev144.trans (ev145.trans (ev150.trans (ev153.trans (ev154.trans (ev159.trans (ev162.trans (ev163.trans (ev168.trans (ev199.trans (ev200.trans (ev201.trans (ev202.trans (ev203.trans (ev204.trans (ev205.trans ev206)))))))))))))))))))))))))))))))))))))))))))))))))))))) hz207 rfl rfl (by decide) rfl rfl (by omega) (by kernel_rfl) (by kernel_rfl) ?_)
  refine XS.op rfl rfl (XO.fieldE' (sz := 1) (fo := 3) (ft := 3) (h_l_.mono (ev2.trans (ev4.trans (ev5.trans (ev10.trans (ev11.trans (ev12.trans (ev17.trans (ev20.trans (ev21.trans (ev26.trans (ev29.trans (ev30.trans (ev35.trans (ev66.trans (ev67.trans (ev68.trans (ev69.trans (ev70.trans (ev71.trans (ev72.trans (ev73.trans (ev78.trans (ev79.trans (ev80.trans (ev85.trans (ev88.trans (ev89.trans (ev94.trans (ev97.trans (ev98.trans (ev103.trans (ev134.trans (ev135.trans (ev136.trans (ev137.trans (ev138.trans (ev143.trans (ev144.trans (ev145.trans (ev150.trans (ev153.trans (ev154.trans (ev159.trans (ev162.trans (ev163.trans (ev168.trans (ev199.trans (ev200.trans (ev201.trans (ev202.trans (ev203.trans (ev204.trans (ev205.trans ev206)))))))))))))))))))))))))))))))))))))))))))))))))))))) hz207 rfl rfl (by decide) rfl (by kernel_rfl) (by kernel_rfl) rfl ?_)
  refine XS.op rfl rfl (XO.loadE (i := 3) (f := 3) (sz := 1) (g := false) (z := r3) (h_l_.mono (ev2.trans (ev4.trans (ev5.trans (ev10.trans (ev11.trans (ev12.trans (ev17.trans (ev20.trans (ev21.trans (ev26.trans (ev29.trans (ev30.trans (ev35.trans (ev66.trans (ev67.trans (ev68.trans (ev69.trans (ev70.trans (ev71.trans (ev72.trans (ev73.trans (ev78.trans (ev79.trans (ev80.trans (ev85.trans (ev88.trans (ev89.trans (ev94.trans (ev97.trans (ev98.trans (ev103.trans (ev134.trans (ev135.trans (ev136.trans (ev137.trans (ev138.trans (ev143.trans (ev144.trans (ev145.trans (ev150.trans (ev153.trans (ev154.trans (ev159.trans (ev162.trans (ev163.trans (ev168.trans (ev199.trans (ev200.trans (ev201.trans (ev202.trans (ev203.trans (ev204.trans (ev205.trans ev206)))))))))))))))))))))))))))))))))))))))))))))))))))))) hz207 rfl rfl (by decide) rfl (by first | rfl | omega) (by kernel_rfl) (by kernel_rfl) rfl rfl (fun cs_ hcs_ => ?_))
  obtain rfl := hcs_
  refine XS.vals' 1 [(17, .bool (decide (r3.w = 0)))] (by kernel_rfl) ?_
  refine XS.done rfl (thn_norm ?_)
  refine XC.cond_f (congrArg Value.bool (decide_eq_false hn_r3)) ?_
  refine XC.skip (thn_norm ?_)
  refine XC.seq ?_
  refine XC.region ?_
  refine XS.vals' 1 [(5, .slice none 0 0)] (by kernel_rfl) ?_
  refine XS.done rfl (thn_norm ?_)
  refine XC.seq ?_
  refine XC.seq ?_
  refine XC.region ?_
  refine XS.vals' 1 [(6, .int .i64 0)] (by kernel_rfl) ?_
  refine XS.done rfl (thn_norm ?_)
  refine XC.block ?_
  refine XC.unroll 40 ?_
  refine XR.succ ?_
  refine XC.seq ?_
  refine XC.seq ?_
  refine XC.region ?_
  refine XS.vals' 2 [(18, .int .i64 0), (19, .bool true)] (by kernel_rfl) ?_
  refine XS.done rfl (thn_norm ?_)
  refine XC.cond_t rfl ?_
  refine XC.skip (thn_norm ?_)
  refine XC.seq ?_
  refine XC.block ?_
  refine XC.seq ?_
  refine XC.region ?_
  refine XS.vals' 3 [(22, .int .i64 0), (23, .int .i64 3), (24, .bool true)] (by kernel_rfl) ?_
  refine XS.done rfl (thn_norm ?_)
  refine XC.cond_t rfl ?_
  refine XC.region ?_
  refine XS.vals' 3 [(25, .slice none 0 0), (26, .slice a_l 4 c_l), (27, .int .i64 0)] (by kernel_rfl) ?_
  have hz209 : ([r0, r1, r2, r3])[0]? = some r0 := rfl
  refine XS.op rfl rfl (XO.elem (i := 0) (z := r0) (e := 184) (sz := 4) (h_l_.mono (ev2.trans (ev4.trans (ev5.trans (ev10.trans (ev11.trans (ev12.trans (ev17.trans (ev20.trans (ev21.trans (ev26.trans (ev29.trans (ev30.trans (ev35.trans (ev66.trans (ev67.trans (ev68.trans (ev69.trans (ev70.trans (ev71.trans (ev72.trans (ev73.trans (ev78.trans (ev79.trans (ev80.trans (ev85.trans (ev88.trans (ev89.trans (ev94.trans (ev97.trans (ev98.trans (ev103.trans (ev134.trans (ev135.trans (ev136.trans (ev137.trans (ev138.trans (ev143.trans (ev144.trans (ev145.trans (ev150.trans (ev153.trans (ev154.trans (ev159.trans (ev162.trans (ev163.trans (ev168.trans (ev199.trans (ev200.trans (ev201.trans (ev202.trans (ev203.trans (ev204.trans (ev205.trans ev206)))))))))))))))))))))))))))))))))))))))))))))))))))))) hz209 rfl rfl (by decide) rfl rfl (by omega) (by kernel_rfl) (by kernel_rfl) ?_)
  refine XS.op rfl rfl (XO.loadE (i := 0) (f := 0) (sz := 4) (g := true) (z := r0) (h_l_.mono (ev2.trans (ev4.trans (ev5.trans (ev10.trans (ev11.trans (ev12.trans (ev17.trans (ev20.trans (ev21.trans (ev26.trans (ev29.trans (ev30.trans (ev35.trans (ev66.trans (ev67.trans (ev68.trans (ev69.trans (ev70.trans (ev71.trans (ev72.trans (ev73.trans (ev78.trans (ev79.trans (ev80.trans (ev85.trans (ev88.trans (ev89.trans (ev94.trans (ev97.trans (ev98.trans (ev103.trans (ev134.trans (ev135.trans (ev136.trans (ev137.trans (ev138.trans (ev143.trans (ev144.trans (ev145.trans (ev150.trans (ev153.trans (ev154.trans (ev159.trans (ev162.trans (ev163.trans (ev168.trans (ev199.trans (ev200.trans (ev201.trans (ev202.trans (ev203.trans (ev204.trans (ev205.trans ev206)))))))))))))))))))))))))))))))))))))))))))))))))))))) hz209 rfl rfl (by decide) rfl (by first | rfl | omega) (by kernel_rfl) (by kernel_rfl) rfl rfl (fun cs_ hcs_ => ?_))
  obtain rfl := hcs_
  refine XS.op rfl rfl (XO.newSl (k := 1) (cs := [.int .i64 r0.x, .int .i64 r0.y, .int .i64 r0.z, .int .i64 r0.w]) (T := 184) s206 rfl (by decide) (fun _ => by kernel_rfl) (fun b210 w211 s211 ev211 kp211 ybb210 => ?_))
  have s212 := Stt.nilRow s211 184 4
  have ev212 := Evo.nilRow s211 184 4
  have hroom214 : (0 + 1) * 32 ≤ 140737488355328 := by (first | omega | (simp; done) | (simp; omega))
  refine XS.op rfl rfl (XO.append (k' := [r0].length) (i := 18) (cs := ([])) (new := [.int .i64 r0.x, .int .i64 r0.y, .int .i64 r0.z, .int .i64 r0.w]) (sz := 4) (bytes := 32) (z := .agg #[.int .i64 0, .int .i64 0, .int .i64 0, .int .i64 0]) (k := 0) (m := 1) (by first | rfl | (simp only [List.length_append, List.length_cons, List.length_nil]; done) | (simp only [List.length_append, List.length_cons, List.length_nil]; omega) | (simp only [List.length_append, List.length_take, List.length_cons, List.length_nil]; omega)) s212 rfl rfl rfl (by decide) rfl rfl (by kernel_rfl) (by kernel_rfl) (by kernel_rfl) (by kernel_rfl) rfl rfl (Src.cells (o := 0) (m := 1) (s212.at_ (i := 17) rfl) (Nat.le_of_ble_eq_true rfl)) rfl (by exact hroom214) (fun ra215 rc216 w213 s213 ev213 kp213 => ?_))
  have hel217 : Els tRW (av A [cellsA b1 [.int .u64 0, .int .u64 0] 142, cellsA b3 [.int .u64 (hiU (((0 + (0 - (det3R r1 r2 r3))) + (det3R r0 r2 r3)) + (0 - (det3R r0 r1 r3)))), .int .u64 (loU (((0 + (0 - (det3R r1 r2 r3))) + (det3R r0 r2 r3)) + (0 - (det3R r0 r1 r3))))] 142, cellsA b9 [.int .i64 r1.x, .int .i64 r1.y, .int .i64 r1.z, .int .i64 r1.w] 184, rowA (.slice (some ⟨rb36, ro37, none⟩) ([r1, r2, r3].length) rc33) ([r1, r2, r3].length) ([.int .i64 r1.x, .int .i64 r1.y, .int .i64 r1.z, .int .i64 r1.w, .int .i64 r2.x, .int .i64 r2.y, .int .i64 r2.z, .int .i64 r2.w, .int .i64 r3.x, .int .i64 r3.y, .int .i64 r3.z, .int .i64 r3.w]) 184 4, cellsA b19 [.int .i64 r2.x, .int .i64 r2.y, .int .i64 r2.z, .int .i64 r2.w] 184, cellsA b28 [.int .i64 r3.x, .int .i64 r3.y, .int .i64 r3.z, .int .i64 r3.w] 184, cellsA b52_ [.int .u64 (hiU (0 - (det3R r1 r2 r3))), .int .u64 (loU (0 - (det3R r1 r2 r3)))] 142, cellsA b77 [.int .i64 r0.x, .int .i64 r0.y, .int .i64 r0.z, .int .i64 r0.w] 184, rowA (.slice (some ⟨rb104, ro105, none⟩) ([r0, r2, r3].length) rc101) ([r0, r2, r3].length) ([.int .i64 r0.x, .int .i64 r0.y, .int .i64 r0.z, .int .i64 r0.w, .int .i64 r2.x, .int .i64 r2.y, .int .i64 r2.z, .int .i64 r2.w, .int .i64 r3.x, .int .i64 r3.y, .int .i64 r3.z, .int .i64 r3.w]) 184 4, cellsA b87 [.int .i64 r2.x, .int .i64 r2.y, .int .i64 r2.z, .int .i64 r2.w] 184, cellsA b96 [.int .i64 r3.x, .int .i64 r3.y, .int .i64 r3.z, .int .i64 r3.w] 184, cellsA b120_ [.int .u64 (hiU (det3R r0 r2 r3)), .int .u64 (loU (det3R r0 r2 r3))] 142, cellsA b142 [.int .i64 r0.x, .int .i64 r0.y, .int .i64 r0.z, .int .i64 r0.w] 184, rowA (.slice (some ⟨rb169, ro170, none⟩) ([r0, r1, r3].length) rc166) ([r0, r1, r3].length) ([.int .i64 r0.x, .int .i64 r0.y, .int .i64 r0.z, .int .i64 r0.w, .int .i64 r1.x, .int .i64 r1.y, .int .i64 r1.z, .int .i64 r1.w, .int .i64 r3.x, .int .i64 r3.y, .int .i64 r3.z, .int .i64 r3.w]) 184 4, cellsA b152 [.int .i64 r1.x, .int .i64 r1.y, .int .i64 r1.z, .int .i64 r1.w] 184, cellsA b161 [.int .i64 r3.x, .int .i64 r3.y, .int .i64 r3.z, .int .i64 r3.w] 184, cellsA b185_ [.int .u64 (hiU (0 - (det3R r0 r1 r3))), .int .u64 (loU (0 - (det3R r0 r1 r3)))] 142, cellsA b210 [.int .i64 r0.x, .int .i64 r0.y, .int .i64 r0.z, .int .i64 r0.w] 184, rowA (.slice ra215 ([r0].length) rc216) ([r0].length) ([.int .i64 r0.x, .int .i64 r0.y, .int .i64 r0.z, .int .i64 r0.w]) 184 4]) w213 ([.int .i64 r0.x, .int .i64 r0.y, .int .i64 r0.z, .int .i64 r0.w]) ([r0]) := Els.snoc ((Els.nil (τ := tRW))) (show Tp.R tRW _ _ _ r0 from rfl)
  refine XS.vals' 1 [(5, .slice ra215 ([r0].length) rc216)] (by kernel_rfl) ?_
  refine XS.done rfl (inBlk_norm (thn_norm ?_))
  obtain ⟨s218, ev218⟩ := Stt.norm s213 (S' := [cellsA b1 [.int .u64 0, .int .u64 0] 142, cellsA b3 [.int .u64 (hiU (((0 + (0 - (det3R r1 r2 r3))) + (det3R r0 r2 r3)) + (0 - (det3R r0 r1 r3)))), .int .u64 (loU (((0 + (0 - (det3R r1 r2 r3))) + (det3R r0 r2 r3)) + (0 - (det3R r0 r1 r3))))] 142, cellsA b9 [.int .i64 r1.x, .int .i64 r1.y, .int .i64 r1.z, .int .i64 r1.w] 184, rowA (.slice (some ⟨rb36, ro37, none⟩) ([r1, r2, r3].length) rc33) ([r1, r2, r3].length) ([.int .i64 r1.x, .int .i64 r1.y, .int .i64 r1.z, .int .i64 r1.w, .int .i64 r2.x, .int .i64 r2.y, .int .i64 r2.z, .int .i64 r2.w, .int .i64 r3.x, .int .i64 r3.y, .int .i64 r3.z, .int .i64 r3.w]) 184 4, cellsA b19 [.int .i64 r2.x, .int .i64 r2.y, .int .i64 r2.z, .int .i64 r2.w] 184, cellsA b28 [.int .i64 r3.x, .int .i64 r3.y, .int .i64 r3.z, .int .i64 r3.w] 184, cellsA b52_ [.int .u64 (hiU (0 - (det3R r1 r2 r3))), .int .u64 (loU (0 - (det3R r1 r2 r3)))] 142, cellsA b77 [.int .i64 r0.x, .int .i64 r0.y, .int .i64 r0.z, .int .i64 r0.w] 184, rowA (.slice (some ⟨rb104, ro105, none⟩) ([r0, r2, r3].length) rc101) ([r0, r2, r3].length) ([.int .i64 r0.x, .int .i64 r0.y, .int .i64 r0.z, .int .i64 r0.w, .int .i64 r2.x, .int .i64 r2.y, .int .i64 r2.z, .int .i64 r2.w, .int .i64 r3.x, .int .i64 r3.y, .int .i64 r3.z, .int .i64 r3.w]) 184 4, cellsA b87 [.int .i64 r2.x, .int .i64 r2.y, .int .i64 r2.z, .int .i64 r2.w] 184, cellsA b96 [.int .i64 r3.x, .int .i64 r3.y, .int .i64 r3.z, .int .i64 r3.w] 184, cellsA b120_ [.int .u64 (hiU (det3R r0 r2 r3)), .int .u64 (loU (det3R r0 r2 r3))] 142, cellsA b142 [.int .i64 r0.x, .int .i64 r0.y, .int .i64 r0.z, .int .i64 r0.w] 184, rowA (.slice (some ⟨rb169, ro170, none⟩) ([r0, r1, r3].length) rc166) ([r0, r1, r3].length) ([.int .i64 r0.x, .int .i64 r0.y, .int .i64 r0.z, .int .i64 r0.w, .int .i64 r1.x, .int .i64 r1.y, .int .i64 r1.z, .int .i64 r1.w, .int .i64 r3.x, .int .i64 r3.y, .int .i64 r3.z, .int .i64 r3.w]) 184 4, cellsA b152 [.int .i64 r1.x, .int .i64 r1.y, .int .i64 r1.z, .int .i64 r1.w] 184, cellsA b161 [.int .i64 r3.x, .int .i64 r3.y, .int .i64 r3.z, .int .i64 r3.w] 184, cellsA b185_ [.int .u64 (hiU (0 - (det3R r0 r1 r3))), .int .u64 (loU (0 - (det3R r0 r1 r3)))] 142, cellsA b210 [.int .i64 r0.x, .int .i64 r0.y, .int .i64 r0.z, .int .i64 r0.w] 184, rowA (.slice ra215 ([r0].length) rc216) ([r0].length) ([.int .i64 r0.x, .int .i64 r0.y, .int .i64 r0.z, .int .i64 r0.w]) 184 4]) rfl
  refine XC.region ?_
  refine XS.vals' 3 [(20, .int .i64 0), (21, .int .i64 1), (6, .int .i64 1)] (by kernel_rfl) ?_
  refine XS.done rfl (thn_norm ?_)
  refine XR.succ ?_
  refine XC.seq ?_
  refine XC.seq ?_
  refine XC.region ?_
  refine XS.vals' 2 [(18, .int .i64 1), (19, .bool true)] (by kernel_rfl) ?_
  refine XS.done rfl (thn_norm ?_)
  refine XC.cond_t rfl ?_
  refine XC.skip (thn_norm ?_)
  refine XC.seq ?_
  refine XC.block ?_
  refine XC.seq ?_
  refine XC.region ?_
  refine XS.vals' 3 [(22, .int .i64 1), (23, .int .i64 3), (24, .bool true)] (by kernel_rfl) ?_
  refine XS.done rfl (thn_norm ?_)
  refine XC.cond_t rfl ?_
  refine XC.region ?_
  refine XS.vals' 3 [(25, .slice ra215 ([r0].length) rc216), (26, .slice a_l 4 c_l), (27, .int .i64 1)] (by kernel_rfl) ?_
  have hz219 : ([r0, r1, r2, r3])[1]? = some r1 := rfl
  refine XS.op rfl rfl (XO.elem (i := 1) (z := r1) (e := 184) (sz := 4) (h_l_.mono (ev2.trans (ev4.trans (ev5.trans (ev10.trans (ev11.trans (ev12.trans (ev17.trans (ev20.trans (ev21.trans (ev26.trans (ev29.trans (ev30.trans (ev35.trans (ev66.trans (ev67.trans (ev68.trans (ev69.trans (ev70.trans (ev71.trans (ev72.trans (ev73.trans (ev78.trans (ev79.trans (ev80.trans (ev85.trans (ev88.trans (ev89.trans (ev94.trans (ev97.trans (ev98.trans (ev103.trans (ev134.trans (ev135.trans (ev136.trans (ev137.trans (ev138.trans (ev143.trans (ev144.trans (ev145.trans (ev150.trans (ev153.trans (ev154.trans (ev159.trans (ev162.trans (ev163.trans (ev168.trans (ev199.trans (ev200.trans (ev201.trans (ev202.trans (ev203.trans (ev204.trans (ev205.trans (ev206.trans (ev211.trans (ev212.trans (ev213.trans ev218)))))))))))))))))))))))))))))))))))))))))))))))))))))))))) hz219 rfl rfl (by decide) rfl rfl (by omega) (by kernel_rfl) (by kernel_rfl) ?_)
  refine XS.op rfl rfl (XO.loadE (i := 1) (f := 0) (sz := 4) (g := true) (z := r1) (h_l_.mono (ev2.trans (ev4.trans (ev5.trans (ev10.trans (ev11.trans (ev12.trans (ev17.trans (ev20.trans (ev21.trans (ev26.trans (ev29.trans (ev30.trans (ev35.trans (ev66.trans (ev67.trans (ev68.trans (ev69.trans (ev70.trans (ev71.trans (ev72.trans (ev73.trans (ev78.trans (ev79.trans (ev80.trans (ev85.trans (ev88.trans (ev89.trans (ev94.trans (ev97.trans (ev98.trans (ev103.trans (ev134.trans (ev135.trans (ev136.trans (ev137.trans (ev138.trans (ev143.trans (ev144.trans (ev145.trans (ev150.trans (ev153.trans (ev154.trans (ev159.trans (ev162.trans (ev163.trans (ev168.trans (ev199.trans (ev200.trans (ev201.trans (ev202.trans (ev203.trans (ev204.trans (ev205.trans (ev206.trans (ev211.trans (ev212.trans (ev213.trans ev218)))))))))))))))))))))))))))))))))))))))))))))))))))))))))) hz219 rfl rfl (by decide) rfl (by first | rfl | omega) (by kernel_rfl) (by kernel_rfl) rfl rfl (fun cs_ hcs_ => ?_))
  obtain rfl := hcs_
  refine XS.op rfl rfl (XO.newSl (k := 1) (cs := [.int .i64 r1.x, .int .i64 r1.y, .int .i64 r1.z, .int .i64 r1.w]) (T := 184) s218 rfl (by decide) (fun _ => by kernel_rfl) (fun b220 w221 s221 ev221 kp221 ybb220 => ?_))
  have hroom223 : ([r0].length + 1) * 32 ≤ 140737488355328 := by (first | omega | (simp; done) | (simp; omega))
  refine XS.op rfl rfl (XO.append (k' := [r0, r1].length) (i := 18) (cs := ([.int .i64 r0.x, .int .i64 r0.y, .int .i64 r0.z, .int .i64 r0.w])) (new := [.int .i64 r1.x, .int .i64 r1.y, .int .i64 r1.z, .int .i64 r1.w]) (sz := 4) (bytes := 32) (z := .agg #[.int .i64 0, .int .i64 0, .int .i64 0, .int .i64 0]) (k := ([r0].length)) (m := 1) (by first | rfl | (simp only [List.length_append, List.length_cons, List.length_nil]; done) | (simp only [List.length_append, List.length_cons, List.length_nil]; omega) | (simp only [List.length_append, List.length_take, List.length_cons, List.length_nil]; omega)) s221 rfl rfl rfl (by decide) rfl rfl (by kernel_rfl) (by kernel_rfl) (by kernel_rfl) (by kernel_rfl) rfl rfl (Src.cells (o := 0) (m := 1) (s221.at_ (i := 19) rfl) (Nat.le_of_ble_eq_true rfl)) rfl (by exact hroom223) (fun ra224 rc225 w222 s222 ev222 kp222 => ?_))
  have hel226 : Els tRW (av A [cellsA b1 [.int .u64 0, .int .u64 0] 142, cellsA b3 [.int .u64 (hiU (((0 + (0 - (det3R r1 r2 r3))) + (det3R r0 r2 r3)) + (0 - (det3R r0 r1 r3)))), .int .u64 (loU (((0 + (0 - (det3R r1 r2 r3))) + (det3R r0 r2 r3)) + (0 - (det3R r0 r1 r3))))] 142, cellsA b9 [.int .i64 r1.x, .int .i64 r1.y, .int .i64 r1.z, .int .i64 r1.w] 184, rowA (.slice (some ⟨rb36, ro37, none⟩) ([r1, r2, r3].length) rc33) ([r1, r2, r3].length) ([.int .i64 r1.x, .int .i64 r1.y, .int .i64 r1.z, .int .i64 r1.w, .int .i64 r2.x, .int .i64 r2.y, .int .i64 r2.z, .int .i64 r2.w, .int .i64 r3.x, .int .i64 r3.y, .int .i64 r3.z, .int .i64 r3.w]) 184 4, cellsA b19 [.int .i64 r2.x, .int .i64 r2.y, .int .i64 r2.z, .int .i64 r2.w] 184, cellsA b28 [.int .i64 r3.x, .int .i64 r3.y, .int .i64 r3.z, .int .i64 r3.w] 184, cellsA b52_ [.int .u64 (hiU (0 - (det3R r1 r2 r3))), .int .u64 (loU (0 - (det3R r1 r2 r3)))] 142, cellsA b77 [.int .i64 r0.x, .int .i64 r0.y, .int .i64 r0.z, .int .i64 r0.w] 184, rowA (.slice (some ⟨rb104, ro105, none⟩) ([r0, r2, r3].length) rc101) ([r0, r2, r3].length) ([.int .i64 r0.x, .int .i64 r0.y, .int .i64 r0.z, .int .i64 r0.w, .int .i64 r2.x, .int .i64 r2.y, .int .i64 r2.z, .int .i64 r2.w, .int .i64 r3.x, .int .i64 r3.y, .int .i64 r3.z, .int .i64 r3.w]) 184 4, cellsA b87 [.int .i64 r2.x, .int .i64 r2.y, .int .i64 r2.z, .int .i64 r2.w] 184, cellsA b96 [.int .i64 r3.x, .int .i64 r3.y, .int .i64 r3.z, .int .i64 r3.w] 184, cellsA b120_ [.int .u64 (hiU (det3R r0 r2 r3)), .int .u64 (loU (det3R r0 r2 r3))] 142, cellsA b142 [.int .i64 r0.x, .int .i64 r0.y, .int .i64 r0.z, .int .i64 r0.w] 184, rowA (.slice (some ⟨rb169, ro170, none⟩) ([r0, r1, r3].length) rc166) ([r0, r1, r3].length) ([.int .i64 r0.x, .int .i64 r0.y, .int .i64 r0.z, .int .i64 r0.w, .int .i64 r1.x, .int .i64 r1.y, .int .i64 r1.z, .int .i64 r1.w, .int .i64 r3.x, .int .i64 r3.y, .int .i64 r3.z, .int .i64 r3.w]) 184 4, cellsA b152 [.int .i64 r1.x, .int .i64 r1.y, .int .i64 r1.z, .int .i64 r1.w] 184, cellsA b161 [.int .i64 r3.x, .int .i64 r3.y, .int .i64 r3.z, .int .i64 r3.w] 184, cellsA b185_ [.int .u64 (hiU (0 - (det3R r0 r1 r3))), .int .u64 (loU (0 - (det3R r0 r1 r3)))] 142, cellsA b210 [.int .i64 r0.x, .int .i64 r0.y, .int .i64 r0.z, .int .i64 r0.w] 184, rowA (.slice ra224 ([r0, r1].length) rc225) ([r0, r1].length) ([.int .i64 r0.x, .int .i64 r0.y, .int .i64 r0.z, .int .i64 r0.w, .int .i64 r1.x, .int .i64 r1.y, .int .i64 r1.z, .int .i64 r1.w]) 184 4, cellsA b220 [.int .i64 r1.x, .int .i64 r1.y, .int .i64 r1.z, .int .i64 r1.w] 184]) w222 ([.int .i64 r0.x, .int .i64 r0.y, .int .i64 r0.z, .int .i64 r0.w, .int .i64 r1.x, .int .i64 r1.y, .int .i64 r1.z, .int .i64 r1.w]) ([r0, r1]) := Els.snoc (((hel217.mono (ev218.trans ev221))).mono ev222) (show Tp.R tRW _ _ _ r1 from rfl)
  refine XS.vals' 1 [(5, .slice ra224 ([r0, r1].length) rc225)] (by kernel_rfl) ?_
  refine XS.done rfl (inBlk_norm (thn_norm ?_))
  obtain ⟨s227, ev227⟩ := Stt.norm s222 (S' := [cellsA b1 [.int .u64 0, .int .u64 0] 142, cellsA b3 [.int .u64 (hiU (((0 + (0 - (det3R r1 r2 r3))) + (det3R r0 r2 r3)) + (0 - (det3R r0 r1 r3)))), .int .u64 (loU (((0 + (0 - (det3R r1 r2 r3))) + (det3R r0 r2 r3)) + (0 - (det3R r0 r1 r3))))] 142, cellsA b9 [.int .i64 r1.x, .int .i64 r1.y, .int .i64 r1.z, .int .i64 r1.w] 184, rowA (.slice (some ⟨rb36, ro37, none⟩) ([r1, r2, r3].length) rc33) ([r1, r2, r3].length) ([.int .i64 r1.x, .int .i64 r1.y, .int .i64 r1.z, .int .i64 r1.w, .int .i64 r2.x, .int .i64 r2.y, .int .i64 r2.z, .int .i64 r2.w, .int .i64 r3.x, .int .i64 r3.y, .int .i64 r3.z, .int .i64 r3.w]) 184 4, cellsA b19 [.int .i64 r2.x, .int .i64 r2.y, .int .i64 r2.z, .int .i64 r2.w] 184, cellsA b28 [.int .i64 r3.x, .int .i64 r3.y, .int .i64 r3.z, .int .i64 r3.w] 184, cellsA b52_ [.int .u64 (hiU (0 - (det3R r1 r2 r3))), .int .u64 (loU (0 - (det3R r1 r2 r3)))] 142, cellsA b77 [.int .i64 r0.x, .int .i64 r0.y, .int .i64 r0.z, .int .i64 r0.w] 184, rowA (.slice (some ⟨rb104, ro105, none⟩) ([r0, r2, r3].length) rc101) ([r0, r2, r3].length) ([.int .i64 r0.x, .int .i64 r0.y, .int .i64 r0.z, .int .i64 r0.w, .int .i64 r2.x, .int .i64 r2.y, .int .i64 r2.z, .int .i64 r2.w, .int .i64 r3.x, .int .i64 r3.y, .int .i64 r3.z, .int .i64 r3.w]) 184 4, cellsA b87 [.int .i64 r2.x, .int .i64 r2.y, .int .i64 r2.z, .int .i64 r2.w] 184, cellsA b96 [.int .i64 r3.x, .int .i64 r3.y, .int .i64 r3.z, .int .i64 r3.w] 184, cellsA b120_ [.int .u64 (hiU (det3R r0 r2 r3)), .int .u64 (loU (det3R r0 r2 r3))] 142, cellsA b142 [.int .i64 r0.x, .int .i64 r0.y, .int .i64 r0.z, .int .i64 r0.w] 184, rowA (.slice (some ⟨rb169, ro170, none⟩) ([r0, r1, r3].length) rc166) ([r0, r1, r3].length) ([.int .i64 r0.x, .int .i64 r0.y, .int .i64 r0.z, .int .i64 r0.w, .int .i64 r1.x, .int .i64 r1.y, .int .i64 r1.z, .int .i64 r1.w, .int .i64 r3.x, .int .i64 r3.y, .int .i64 r3.z, .int .i64 r3.w]) 184 4, cellsA b152 [.int .i64 r1.x, .int .i64 r1.y, .int .i64 r1.z, .int .i64 r1.w] 184, cellsA b161 [.int .i64 r3.x, .int .i64 r3.y, .int .i64 r3.z, .int .i64 r3.w] 184, cellsA b185_ [.int .u64 (hiU (0 - (det3R r0 r1 r3))), .int .u64 (loU (0 - (det3R r0 r1 r3)))] 142, cellsA b210 [.int .i64 r0.x, .int .i64 r0.y, .int .i64 r0.z, .int .i64 r0.w] 184, rowA (.slice ra224 ([r0, r1].length) rc225) ([r0, r1].length) ([.int .i64 r0.x, .int .i64 r0.y, .int .i64 r0.z, .int .i64 r0.w, .int .i64 r1.x, .int .i64 r1.y, .int .i64 r1.z, .int .i64 r1.w]) 184 4, cellsA b220 [.int .i64 r1.x, .int .i64 r1.y, .int .i64 r1.z, .int .i64 r1.w] 184]) rfl
  refine XC.region ?_
  refine XS.vals' 3 [(20, .int .i64 1), (21, .int .i64 2), (6, .int .i64 2)] (by kernel_rfl) ?_
  refine XS.done rfl (thn_norm ?_)
  refine XR.succ ?_
  refine XC.seq ?_
  refine XC.seq ?_
  refine XC.region ?_
  refine XS.vals' 2 [(18, .int .i64 2), (19, .bool true)] (by kernel_rfl) ?_
  refine XS.done rfl (thn_norm ?_)
  refine XC.cond_t rfl ?_
  refine XC.skip (thn_norm ?_)
  refine XC.seq ?_
  refine XC.block ?_
  refine XC.seq ?_
  refine XC.region ?_
  refine XS.vals' 3 [(22, .int .i64 2), (23, .int .i64 3), (24, .bool true)] (by kernel_rfl) ?_
  refine XS.done rfl (thn_norm ?_)
  refine XC.cond_t rfl ?_
  refine XC.region ?_
  refine XS.vals' 3 [(25, .slice ra224 ([r0, r1].length) rc225), (26, .slice a_l 4 c_l), (27, .int .i64 2)] (by kernel_rfl) ?_
  have hz228 : ([r0, r1, r2, r3])[2]? = some r2 := rfl
  refine XS.op rfl rfl (XO.elem (i := 2) (z := r2) (e := 184) (sz := 4) (h_l_.mono (ev2.trans (ev4.trans (ev5.trans (ev10.trans (ev11.trans (ev12.trans (ev17.trans (ev20.trans (ev21.trans (ev26.trans (ev29.trans (ev30.trans (ev35.trans (ev66.trans (ev67.trans (ev68.trans (ev69.trans (ev70.trans (ev71.trans (ev72.trans (ev73.trans (ev78.trans (ev79.trans (ev80.trans (ev85.trans (ev88.trans (ev89.trans (ev94.trans (ev97.trans (ev98.trans (ev103.trans (ev134.trans (ev135.trans (ev136.trans (ev137.trans (ev138.trans (ev143.trans (ev144.trans (ev145.trans (ev150.trans (ev153.trans (ev154.trans (ev159.trans (ev162.trans (ev163.trans (ev168.trans (ev199.trans (ev200.trans (ev201.trans (ev202.trans (ev203.trans (ev204.trans (ev205.trans (ev206.trans (ev211.trans (ev212.trans (ev213.trans (ev218.trans (ev221.trans (ev222.trans ev227))))))))))))))))))))))))))))))))))))))))))))))))))))))))))))) hz228 rfl rfl (by decide) rfl rfl (by omega) (by kernel_rfl) (by kernel_rfl) ?_)
  refine XS.op rfl rfl (XO.loadE (i := 2) (f := 0) (sz := 4) (g := true) (z := r2) (h_l_.mono (ev2.trans (ev4.trans (ev5.trans (ev10.trans (ev11.trans (ev12.trans (ev17.trans (ev20.trans (ev21.trans (ev26.trans (ev29.trans (ev30.trans (ev35.trans (ev66.trans (ev67.trans (ev68.trans (ev69.trans (ev70.trans (ev71.trans (ev72.trans (ev73.trans (ev78.trans (ev79.trans (ev80.trans (ev85.trans (ev88.trans (ev89.trans (ev94.trans (ev97.trans (ev98.trans (ev103.trans (ev134.trans (ev135.trans (ev136.trans (ev137.trans (ev138.trans (ev143.trans (ev144.trans (ev145.trans (ev150.trans (ev153.trans (ev154.trans (ev159.trans (ev162.trans (ev163.trans (ev168.trans (ev199.trans (ev200.trans (ev201.trans (ev202.trans (ev203.trans (ev204.trans (ev205.trans (ev206.trans (ev211.trans (ev212.trans (ev213.trans (ev218.trans (ev221.trans (ev222.trans ev227))))))))))))))))))))))))))))))))))))))))))))))))))))))))))))) hz228 rfl rfl (by decide) rfl (by first | rfl | omega) (by kernel_rfl) (by kernel_rfl) rfl rfl (fun cs_ hcs_ => ?_))
  obtain rfl := hcs_
  refine XS.op rfl rfl (XO.newSl (k := 1) (cs := [.int .i64 r2.x, .int .i64 r2.y, .int .i64 r2.z, .int .i64 r2.w]) (T := 184) s227 rfl (by decide) (fun _ => by kernel_rfl) (fun b229 w230 s230 ev230 kp230 ybb229 => ?_))
  have hroom232 : ([r0, r1].length + 1) * 32 ≤ 140737488355328 := by (first | omega | (simp; done) | (simp; omega))
  refine XS.op rfl rfl (XO.append (k' := [r0, r1, r2].length) (i := 18) (cs := ([.int .i64 r0.x, .int .i64 r0.y, .int .i64 r0.z, .int .i64 r0.w, .int .i64 r1.x, .int .i64 r1.y, .int .i64 r1.z, .int .i64 r1.w])) (new := [.int .i64 r2.x, .int .i64 r2.y, .int .i64 r2.z, .int .i64 r2.w]) (sz := 4) (bytes := 32) (z := .agg #[.int .i64 0, .int .i64 0, .int .i64 0, .int .i64 0]) (k := ([r0, r1].length)) (m := 1) (by first | rfl | (simp only [List.length_append, List.length_cons, List.length_nil]; done) | (simp only [List.length_append, List.length_cons, List.length_nil]; omega) | (simp only [List.length_append, List.length_take, List.length_cons, List.length_nil]; omega)) s230 rfl rfl rfl (by decide) rfl rfl (by kernel_rfl) (by kernel_rfl) (by kernel_rfl) (by kernel_rfl) rfl rfl (Src.cells (o := 0) (m := 1) (s230.at_ (i := 20) rfl) (Nat.le_of_ble_eq_true rfl)) rfl (by exact hroom232) (fun ra233 rc234 w231 s231 ev231 kp231 => ?_))
  have hel235 : Els tRW (av A [cellsA b1 [.int .u64 0, .int .u64 0] 142, cellsA b3 [.int .u64 (hiU (((0 + (0 - (det3R r1 r2 r3))) + (det3R r0 r2 r3)) + (0 - (det3R r0 r1 r3)))), .int .u64 (loU (((0 + (0 - (det3R r1 r2 r3))) + (det3R r0 r2 r3)) + (0 - (det3R r0 r1 r3))))] 142, cellsA b9 [.int .i64 r1.x, .int .i64 r1.y, .int .i64 r1.z, .int .i64 r1.w] 184, rowA (.slice (some ⟨rb36, ro37, none⟩) ([r1, r2, r3].length) rc33) ([r1, r2, r3].length) ([.int .i64 r1.x, .int .i64 r1.y, .int .i64 r1.z, .int .i64 r1.w, .int .i64 r2.x, .int .i64 r2.y, .int .i64 r2.z, .int .i64 r2.w, .int .i64 r3.x, .int .i64 r3.y, .int .i64 r3.z, .int .i64 r3.w]) 184 4, cellsA b19 [.int .i64 r2.x, .int .i64 r2.y, .int .i64 r2.z, .int .i64 r2.w] 184, cellsA b28 [.int .i64 r3.x, .int .i64 r3.y, .int .i64 r3.z, .int .i64 r3.w] 184, cellsA b52_ [.int .u64 (hiU (0 - (det3R r1 r2 r3))), .int .u64 (loU (0 - (det3R r1 r2 r3)))] 142, cellsA b77 [.int .i64 r0.x, .int .i64 r0.y, .int .i64 r0.z, .int .i64 r0.w] 184, rowA (.slice (some ⟨rb104, ro105, none⟩) ([r0, r2, r3].length) rc101) ([r0, r2, r3].length) ([.int .i64 r0.x, .int .i64 r0.y, .int .i64 r0.z, .int .i64 r0.w, .int .i64 r2.x, .int .i64 r2.y, .int .i64 r2.z, .int .i64 r2.w, .int .i64 r3.x, .int .i64 r3.y, .int .i64 r3.z, .int .i64 r3.w]) 184 4, cellsA b87 [.int .i64 r2.x, .int .i64 r2.y, .int .i64 r2.z, .int .i64 r2.w] 184, cellsA b96 [.int .i64 r3.x, .int .i64 r3.y, .int .i64 r3.z, .int .i64 r3.w] 184, cellsA b120_ [.int .u64 (hiU (det3R r0 r2 r3)), .int .u64 (loU (det3R r0 r2 r3))] 142, cellsA b142 [.int .i64 r0.x, .int .i64 r0.y, .int .i64 r0.z, .int .i64 r0.w] 184, rowA (.slice (some ⟨rb169, ro170, none⟩) ([r0, r1, r3].length) rc166) ([r0, r1, r3].length) ([.int .i64 r0.x, .int .i64 r0.y, .int .i64 r0.z, .int .i64 r0.w, .int .i64 r1.x, .int .i64 r1.y, .int .i64 r1.z, .int .i64 r1.w, .int .i64 r3.x, .int .i64 r3.y, .int .i64 r3.z, .int .i64 r3.w]) 184 4, cellsA b152 [.int .i64 r1.x, .int .i64 r1.y, .int .i64 r1.z, .int .i64 r1.w] 184, cellsA b161 [.int .i64 r3.x, .int .i64 r3.y, .int .i64 r3.z, .int .i64 r3.w] 184, cellsA b185_ [.int .u64 (hiU (0 - (det3R r0 r1 r3))), .int .u64 (loU (0 - (det3R r0 r1 r3)))] 142, cellsA b210 [.int .i64 r0.x, .int .i64 r0.y, .int .i64 r0.z, .int .i64 r0.w] 184, rowA (.slice ra233 ([r0, r1, r2].length) rc234) ([r0, r1, r2].length) ([.int .i64 r0.x, .int .i64 r0.y, .int .i64 r0.z, .int .i64 r0.w, .int .i64 r1.x, .int .i64 r1.y, .int .i64 r1.z, .int .i64 r1.w, .int .i64 r2.x, .int .i64 r2.y, .int .i64 r2.z, .int .i64 r2.w]) 184 4, cellsA b220 [.int .i64 r1.x, .int .i64 r1.y, .int .i64 r1.z, .int .i64 r1.w] 184, cellsA b229 [.int .i64 r2.x, .int .i64 r2.y, .int .i64 r2.z, .int .i64 r2.w] 184]) w231 ([.int .i64 r0.x, .int .i64 r0.y, .int .i64 r0.z, .int .i64 r0.w, .int .i64 r1.x, .int .i64 r1.y, .int .i64 r1.z, .int .i64 r1.w, .int .i64 r2.x, .int .i64 r2.y, .int .i64 r2.z, .int .i64 r2.w]) ([r0, r1, r2]) := Els.snoc (((hel226.mono (ev227.trans ev230))).mono ev231) (show Tp.R tRW _ _ _ r2 from rfl)
  refine XS.vals' 1 [(5, .slice ra233 ([r0, r1, r2].length) rc234)] (by kernel_rfl) ?_
  refine XS.done rfl (inBlk_norm (thn_norm ?_))
  obtain ⟨s236, ev236⟩ := Stt.norm s231 (S' := [cellsA b1 [.int .u64 0, .int .u64 0] 142, cellsA b3 [.int .u64 (hiU (((0 + (0 - (det3R r1 r2 r3))) + (det3R r0 r2 r3)) + (0 - (det3R r0 r1 r3)))), .int .u64 (loU (((0 + (0 - (det3R r1 r2 r3))) + (det3R r0 r2 r3)) + (0 - (det3R r0 r1 r3))))] 142, cellsA b9 [.int .i64 r1.x, .int .i64 r1.y, .int .i64 r1.z, .int .i64 r1.w] 184, rowA (.slice (some ⟨rb36, ro37, none⟩) ([r1, r2, r3].length) rc33) ([r1, r2, r3].length) ([.int .i64 r1.x, .int .i64 r1.y, .int .i64 r1.z, .int .i64 r1.w, .int .i64 r2.x, .int .i64 r2.y, .int .i64 r2.z, .int .i64 r2.w, .int .i64 r3.x, .int .i64 r3.y, .int .i64 r3.z, .int .i64 r3.w]) 184 4, cellsA b19 [.int .i64 r2.x, .int .i64 r2.y, .int .i64 r2.z, .int .i64 r2.w] 184, cellsA b28 [.int .i64 r3.x, .int .i64 r3.y, .int .i64 r3.z, .int .i64 r3.w] 184, cellsA b52_ [.int .u64 (hiU (0 - (det3R r1 r2 r3))), .int .u64 (loU (0 - (det3R r1 r2 r3)))] 142, cellsA b77 [.int .i64 r0.x, .int .i64 r0.y, .int .i64 r0.z, .int .i64 r0.w] 184, rowA (.slice (some ⟨rb104, ro105, none⟩) ([r0, r2, r3].length) rc101) ([r0, r2, r3].length) ([.int .i64 r0.x, .int .i64 r0.y, .int .i64 r0.z, .int .i64 r0.w, .int .i64 r2.x, .int .i64 r2.y, .int .i64 r2.z, .int .i64 r2.w, .int .i64 r3.x, .int .i64 r3.y, .int .i64 r3.z, .int .i64 r3.w]) 184 4, cellsA b87 [.int .i64 r2.x, .int .i64 r2.y, .int .i64 r2.z, .int .i64 r2.w] 184, cellsA b96 [.int .i64 r3.x, .int .i64 r3.y, .int .i64 r3.z, .int .i64 r3.w] 184, cellsA b120_ [.int .u64 (hiU (det3R r0 r2 r3)), .int .u64 (loU (det3R r0 r2 r3))] 142, cellsA b142 [.int .i64 r0.x, .int .i64 r0.y, .int .i64 r0.z, .int .i64 r0.w] 184, rowA (.slice (some ⟨rb169, ro170, none⟩) ([r0, r1, r3].length) rc166) ([r0, r1, r3].length) ([.int .i64 r0.x, .int .i64 r0.y, .int .i64 r0.z, .int .i64 r0.w, .int .i64 r1.x, .int .i64 r1.y, .int .i64 r1.z, .int .i64 r1.w, .int .i64 r3.x, .int .i64 r3.y, .int .i64 r3.z, .int .i64 r3.w]) 184 4, cellsA b152 [.int .i64 r1.x, .int .i64 r1.y, .int .i64 r1.z, .int .i64 r1.w] 184, cellsA b161 [.int .i64 r3.x, .int .i64 r3.y, .int .i64 r3.z, .int .i64 r3.w] 184, cellsA b185_ [.int .u64 (hiU (0 - (det3R r0 r1 r3))), .int .u64 (loU (0 - (det3R r0 r1 r3)))] 142, cellsA b210 [.int .i64 r0.x, .int .i64 r0.y, .int .i64 r0.z, .int .i64 r0.w] 184, rowA (.slice ra233 ([r0, r1, r2].length) rc234) ([r0, r1, r2].length) ([.int .i64 r0.x, .int .i64 r0.y, .int .i64 r0.z, .int .i64 r0.w, .int .i64 r1.x, .int .i64 r1.y, .int .i64 r1.z, .int .i64 r1.w, .int .i64 r2.x, .int .i64 r2.y, .int .i64 r2.z, .int .i64 r2.w]) 184 4, cellsA b220 [.int .i64 r1.x, .int .i64 r1.y, .int .i64 r1.z, .int .i64 r1.w] 184, cellsA b229 [.int .i64 r2.x, .int .i64 r2.y, .int .i64 r2.z, .int .i64 r2.w] 184]) rfl
  refine XC.region ?_
  refine XS.vals' 3 [(20, .int .i64 2), (21, .int .i64 3), (6, .int .i64 3)] (by kernel_rfl) ?_
  refine XS.done rfl (thn_norm ?_)
  refine XR.succ ?_
  refine XC.seq ?_
  refine XC.seq ?_
  refine XC.region ?_
  refine XS.vals' 2 [(18, .int .i64 3), (19, .bool true)] (by kernel_rfl) ?_
  refine XS.done rfl (thn_norm ?_)
  refine XC.cond_t rfl ?_
  refine XC.skip (thn_norm ?_)
  refine XC.seq ?_
  refine XC.block ?_
  refine XC.seq ?_
  refine XC.region ?_
  refine XS.vals' 3 [(22, .int .i64 3), (23, .int .i64 3), (24, .bool false)] (by kernel_rfl) ?_
  refine XS.done rfl (thn_norm ?_)
  refine XC.cond_f rfl ?_
  refine XC.skip (inBlk_norm (thn_norm ?_))
  refine XC.region ?_
  refine XS.vals' 3 [(20, .int .i64 3), (21, .int .i64 4), (6, .int .i64 4)] (by kernel_rfl) ?_
  refine XS.done rfl (thn_norm ?_)
  refine XR.succ ?_
  refine XC.seq ?_
  refine XC.seq ?_
  refine XC.region ?_
  refine XS.vals' 2 [(18, .int .i64 4), (19, .bool false)] (by kernel_rfl) ?_
  refine XS.done rfl (thn_norm ?_)
  refine XC.cond_f rfl ?_
  refine XC.exit (thn_exit (thn_exit (inBlk_hit (thn_norm ?_))))
  obtain ⟨rb237, ro238, rfl⟩ := row_addr (s236.at_ (i := 18) rfl) (by (first | omega | (simp; done) | (simp; omega)))
  refine XC.cut (fun ρ_ w_ => ∃ b253_ : Nat, Has ρ_ [(0, .slice a_l 4 c_l), (2, .pointer (some ⟨b1, 0, none⟩)), (3, .pointer (some ⟨b3, 0, none⟩)), (4, .int .i64 3), (5, .slice (some ⟨rb237, ro238, none⟩) ([r0, r1, r2].length) rc234), (6, .int .i64 4), (7, .pointer (some ⟨b253_, 0, none⟩)), (8, .int .i64 3), (9, .bool true), (10, .int .i64 2), (11, .int .i64 3), (12, .slice a_l 4 c_l), (13, .int .i64 3), (14, elemP a_l (3 * 4)), (15, elemP a_l ((3 * 4) + 3)), (16, .int .i64 r3.w), (17, .bool (decide (r3.w = 0))), (18, .int .i64 4), (19, .bool false), (20, .int .i64 3), (21, .int .i64 4), (22, .int .i64 3), (23, .int .i64 3), (24, .bool false), (25, .slice ra224 ([r0, r1].length) rc225), (26, .slice a_l 4 c_l), (27, .int .i64 2), (28, elemP a_l (2 * 4)), (29, .agg #[.int .i64 r2.x, .int .i64 r2.y, .int .i64 r2.z, .int .i64 r2.w]), (30, .slice (some ⟨b229, 0, none⟩) 1 1), (31, .slice (some ⟨rb237, ro238, none⟩) ([r0, r1, r2].length) rc234), (32, .slice (some ⟨rb237, ro238, none⟩) ([r0, r1, r2].length) rc234), (33, .pointer (some ⟨rb237, ro238 + 0 * 4, none⟩)), (34, .agg #[.int .i64 r0.x, .int .i64 r0.y, .int .i64 r0.z, .int .i64 r0.w]), (35, .slice (some ⟨rb237, ro238, none⟩) ([r0, r1, r2].length) rc234), (36, .pointer (some ⟨rb237, ro238 + 1 * 4, none⟩)), (37, .agg #[.int .i64 r1.x, .int .i64 r1.y, .int .i64 r1.z, .int .i64 r1.w]), (38, .slice (some ⟨rb237, ro238, none⟩) ([r0, r1, r2].length) rc234), (39, .pointer (some ⟨rb237, ro238 + 2 * 4, none⟩)), (40, .agg #[.int .i64 r2.x, .int .i64 r2.y, .int .i64 r2.z, .int .i64 r2.w]), (41, .agg #[.int .u64 (hiU (det3R r0 r1 r2)), .int .u64 (loU (det3R r0 r1 r2))]), (42, .int .i64 2), (43, .int .i64 0), (44, .bool true), (45, .agg #[.int .u64 (hiU (det3R r0 r1 r3)), .int .u64 (loU (det3R r0 r1 r3))]), (46, .agg #[.int .u64 (hiU (0 - (det3R r0 r1 r3))), .int .u64 (loU (0 - (det3R r0 r1 r3)))]), (47, .agg #[.int .u64 (hiU ((0 + (0 - (det3R r1 r2 r3))) + (det3R r0 r2 r3))), .int .u64 (loU ((0 + (0 - (det3R r1 r2 r3))) + (det3R r0 r2 r3)))]), (48, .agg #[.int .u64 (hiU (0 - (det3R r0 r1 r3))), .int .u64 (loU (0 - (det3R r0 r1 r3)))]), (49, .agg #[.int .u64 (hiU (((0 + (0 - (det3R r1 r2 r3))) + (det3R r0 r2 r3)) + (0 - (det3R r0 r1 r3)))), .int .u64 (loU (((0 + (0 - (det3R r1 r2 r3))) + (det3R r0 r2 r3)) + (0 - (det3R r0 r1 r3))))])] ∧ Stt A w0 none_ [cellsA b1 [.int .u64 0, .int .u64 0] 142, cellsA b3 [.int .u64 (hiU (((0 + (0 - (det3R r1 r2 r3))) + (det3R r0 r2 r3)) + (0 - (det3R r0 r1 r3)))), .int .u64 (loU (((0 + (0 - (det3R r1 r2 r3))) + (det3R r0 r2 r3)) + (0 - (det3R r0 r1 r3))))] 142, cellsA b9 [.int .i64 r1.x, .int .i64 r1.y, .int .i64 r1.z, .int .i64 r1.w] 184, rowA (.slice (some ⟨rb36, ro37, none⟩) ([r1, r2, r3].length) rc33) ([r1, r2, r3].length) ([.int .i64 r1.x, .int .i64 r1.y, .int .i64 r1.z, .int .i64 r1.w, .int .i64 r2.x, .int .i64 r2.y, .int .i64 r2.z, .int .i64 r2.w, .int .i64 r3.x, .int .i64 r3.y, .int .i64 r3.z, .int .i64 r3.w]) 184 4, cellsA b19 [.int .i64 r2.x, .int .i64 r2.y, .int .i64 r2.z, .int .i64 r2.w] 184, cellsA b28 [.int .i64 r3.x, .int .i64 r3.y, .int .i64 r3.z, .int .i64 r3.w] 184, cellsA b52_ [.int .u64 (hiU (0 - (det3R r1 r2 r3))), .int .u64 (loU (0 - (det3R r1 r2 r3)))] 142, cellsA b77 [.int .i64 r0.x, .int .i64 r0.y, .int .i64 r0.z, .int .i64 r0.w] 184, rowA (.slice (some ⟨rb104, ro105, none⟩) ([r0, r2, r3].length) rc101) ([r0, r2, r3].length) ([.int .i64 r0.x, .int .i64 r0.y, .int .i64 r0.z, .int .i64 r0.w, .int .i64 r2.x, .int .i64 r2.y, .int .i64 r2.z, .int .i64 r2.w, .int .i64 r3.x, .int .i64 r3.y, .int .i64 r3.z, .int .i64 r3.w]) 184 4, cellsA b87 [.int .i64 r2.x, .int .i64 r2.y, .int .i64 r2.z, .int .i64 r2.w] 184, cellsA b96 [.int .i64 r3.x, .int .i64 r3.y, .int .i64 r3.z, .int .i64 r3.w] 184, cellsA b120_ [.int .u64 (hiU (det3R r0 r2 r3)), .int .u64 (loU (det3R r0 r2 r3))] 142, cellsA b142 [.int .i64 r0.x, .int .i64 r0.y, .int .i64 r0.z, .int .i64 r0.w] 184, rowA (.slice (some ⟨rb169, ro170, none⟩) ([r0, r1, r3].length) rc166) ([r0, r1, r3].length) ([.int .i64 r0.x, .int .i64 r0.y, .int .i64 r0.z, .int .i64 r0.w, .int .i64 r1.x, .int .i64 r1.y, .int .i64 r1.z, .int .i64 r1.w, .int .i64 r3.x, .int .i64 r3.y, .int .i64 r3.z, .int .i64 r3.w]) 184 4, cellsA b152 [.int .i64 r1.x, .int .i64 r1.y, .int .i64 r1.z, .int .i64 r1.w] 184, cellsA b161 [.int .i64 r3.x, .int .i64 r3.y, .int .i64 r3.z, .int .i64 r3.w] 184, cellsA b185_ [.int .u64 (hiU (0 - (det3R r0 r1 r3))), .int .u64 (loU (0 - (det3R r0 r1 r3)))] 142, cellsA b210 [.int .i64 r0.x, .int .i64 r0.y, .int .i64 r0.z, .int .i64 r0.w] 184, rowA (.slice (some ⟨rb237, ro238, none⟩) ([r0, r1, r2].length) rc234) ([r0, r1, r2].length) ([.int .i64 r0.x, .int .i64 r0.y, .int .i64 r0.z, .int .i64 r0.w, .int .i64 r1.x, .int .i64 r1.y, .int .i64 r1.z, .int .i64 r1.w, .int .i64 r2.x, .int .i64 r2.y, .int .i64 r2.z, .int .i64 r2.w]) 184 4, cellsA b220 [.int .i64 r1.x, .int .i64 r1.y, .int .i64 r1.z, .int .i64 r1.w] 184, cellsA b229 [.int .i64 r2.x, .int .i64 r2.y, .int .i64 r2.z, .int .i64 r2.w] 184, cellsA b253_ [.int .u64 (hiU (det3R r0 r1 r2)), .int .u64 (loU (det3R r0 r1 r2))] 142] w_ ∧ Evo (av A [cellsA b1 [.int .u64 0, .int .u64 0] 142, cellsA b3 [.int .u64 (hiU (((0 + (0 - (det3R r1 r2 r3))) + (det3R r0 r2 r3)) + (0 - (det3R r0 r1 r3)))), .int .u64 (loU (((0 + (0 - (det3R r1 r2 r3))) + (det3R r0 r2 r3)) + (0 - (det3R r0 r1 r3))))] 142, cellsA b9 [.int .i64 r1.x, .int .i64 r1.y, .int .i64 r1.z, .int .i64 r1.w] 184, rowA (.slice (some ⟨rb36, ro37, none⟩) ([r1, r2, r3].length) rc33) ([r1, r2, r3].length) ([.int .i64 r1.x, .int .i64 r1.y, .int .i64 r1.z, .int .i64 r1.w, .int .i64 r2.x, .int .i64 r2.y, .int .i64 r2.z, .int .i64 r2.w, .int .i64 r3.x, .int .i64 r3.y, .int .i64 r3.z, .int .i64 r3.w]) 184 4, cellsA b19 [.int .i64 r2.x, .int .i64 r2.y, .int .i64 r2.z, .int .i64 r2.w] 184, cellsA b28 [.int .i64 r3.x, .int .i64 r3.y, .int .i64 r3.z, .int .i64 r3.w] 184, cellsA b52_ [.int .u64 (hiU (0 - (det3R r1 r2 r3))), .int .u64 (loU (0 - (det3R r1 r2 r3)))] 142, cellsA b77 [.int .i64 r0.x, .int .i64 r0.y, .int .i64 r0.z, .int .i64 r0.w] 184, rowA (.slice (some ⟨rb104, ro105, none⟩) ([r0, r2, r3].length) rc101) ([r0, r2, r3].length) ([.int .i64 r0.x, .int .i64 r0.y, .int .i64 r0.z, .int .i64 r0.w, .int .i64 r2.x, .int .i64 r2.y, .int .i64 r2.z, .int .i64 r2.w, .int .i64 r3.x, .int .i64 r3.y, .int .i64 r3.z, .int .i64 r3.w]) 184 4, cellsA b87 [.int .i64 r2.x, .int .i64 r2.y, .int .i64 r2.z, .int .i64 r2.w] 184, cellsA b96 [.int .i64 r3.x, .int .i64 r3.y, .int .i64 r3.z, .int .i64 r3.w] 184, cellsA b120_ [.int .u64 (hiU (det3R r0 r2 r3)), .int .u64 (loU (det3R r0 r2 r3))] 142, cellsA b142 [.int .i64 r0.x, .int .i64 r0.y, .int .i64 r0.z, .int .i64 r0.w] 184, rowA (.slice (some ⟨rb169, ro170, none⟩) ([r0, r1, r3].length) rc166) ([r0, r1, r3].length) ([.int .i64 r0.x, .int .i64 r0.y, .int .i64 r0.z, .int .i64 r0.w, .int .i64 r1.x, .int .i64 r1.y, .int .i64 r1.z, .int .i64 r1.w, .int .i64 r3.x, .int .i64 r3.y, .int .i64 r3.z, .int .i64 r3.w]) 184 4, cellsA b152 [.int .i64 r1.x, .int .i64 r1.y, .int .i64 r1.z, .int .i64 r1.w] 184, cellsA b161 [.int .i64 r3.x, .int .i64 r3.y, .int .i64 r3.z, .int .i64 r3.w] 184, cellsA b185_ [.int .u64 (hiU (0 - (det3R r0 r1 r3))), .int .u64 (loU (0 - (det3R r0 r1 r3)))] 142, cellsA b210 [.int .i64 r0.x, .int .i64 r0.y, .int .i64 r0.z, .int .i64 r0.w] 184, rowA (.slice (some ⟨rb237, ro238, none⟩) ([r0, r1, r2].length) rc234) ([r0, r1, r2].length) ([.int .i64 r0.x, .int .i64 r0.y, .int .i64 r0.z, .int .i64 r0.w, .int .i64 r1.x, .int .i64 r1.y, .int .i64 r1.z, .int .i64 r1.w, .int .i64 r2.x, .int .i64 r2.y, .int .i64 r2.z, .int .i64 r2.w]) 184 4, cellsA b220 [.int .i64 r1.x, .int .i64 r1.y, .int .i64 r1.z, .int .i64 r1.w] 184, cellsA b229 [.int .i64 r2.x, .int .i64 r2.y, .int .i64 r2.z, .int .i64 r2.w] 184]) w231 (av A [cellsA b1 [.int .u64 0, .int .u64 0] 142, cellsA b3 [.int .u64 (hiU (((0 + (0 - (det3R r1 r2 r3))) + (det3R r0 r2 r3)) + (0 - (det3R r0 r1 r3)))), .int .u64 (loU (((0 + (0 - (det3R r1 r2 r3))) + (det3R r0 r2 r3)) + (0 - (det3R r0 r1 r3))))] 142, cellsA b9 [.int .i64 r1.x, .int .i64 r1.y, .int .i64 r1.z, .int .i64 r1.w] 184, rowA (.slice (some ⟨rb36, ro37, none⟩) ([r1, r2, r3].length) rc33) ([r1, r2, r3].length) ([.int .i64 r1.x, .int .i64 r1.y, .int .i64 r1.z, .int .i64 r1.w, .int .i64 r2.x, .int .i64 r2.y, .int .i64 r2.z, .int .i64 r2.w, .int .i64 r3.x, .int .i64 r3.y, .int .i64 r3.z, .int .i64 r3.w]) 184 4, cellsA b19 [.int .i64 r2.x, .int .i64 r2.y, .int .i64 r2.z, .int .i64 r2.w] 184, cellsA b28 [.int .i64 r3.x, .int .i64 r3.y, .int .i64 r3.z, .int .i64 r3.w] 184, cellsA b52_ [.int .u64 (hiU (0 - (det3R r1 r2 r3))), .int .u64 (loU (0 - (det3R r1 r2 r3)))] 142, cellsA b77 [.int .i64 r0.x, .int .i64 r0.y, .int .i64 r0.z, .int .i64 r0.w] 184, rowA (.slice (some ⟨rb104, ro105, none⟩) ([r0, r2, r3].length) rc101) ([r0, r2, r3].length) ([.int .i64 r0.x, .int .i64 r0.y, .int .i64 r0.z, .int .i64 r0.w, .int .i64 r2.x, .int .i64 r2.y, .int .i64 r2.z, .int .i64 r2.w, .int .i64 r3.x, .int .i64 r3.y, .int .i64 r3.z, .int .i64 r3.w]) 184 4, cellsA b87 [.int .i64 r2.x, .int .i64 r2.y, .int .i64 r2.z, .int .i64 r2.w] 184, cellsA b96 [.int .i64 r3.x, .int .i64 r3.y, .int .i64 r3.z, .int .i64 r3.w] 184, cellsA b120_ [.int .u64 (hiU (det3R r0 r2 r3)), .int .u64 (loU (det3R r0 r2 r3))] 142, cellsA b142 [.int .i64 r0.x, .int .i64 r0.y, .int .i64 r0.z, .int .i64 r0.w] 184, rowA (.slice (some ⟨rb169, ro170, none⟩) ([r0, r1, r3].length) rc166) ([r0, r1, r3].length) ([.int .i64 r0.x, .int .i64 r0.y, .int .i64 r0.z, .int .i64 r0.w, .int .i64 r1.x, .int .i64 r1.y, .int .i64 r1.z, .int .i64 r1.w, .int .i64 r3.x, .int .i64 r3.y, .int .i64 r3.z, .int .i64 r3.w]) 184 4, cellsA b152 [.int .i64 r1.x, .int .i64 r1.y, .int .i64 r1.z, .int .i64 r1.w] 184, cellsA b161 [.int .i64 r3.x, .int .i64 r3.y, .int .i64 r3.z, .int .i64 r3.w] 184, cellsA b185_ [.int .u64 (hiU (0 - (det3R r0 r1 r3))), .int .u64 (loU (0 - (det3R r0 r1 r3)))] 142, cellsA b210 [.int .i64 r0.x, .int .i64 r0.y, .int .i64 r0.z, .int .i64 r0.w] 184, rowA (.slice (some ⟨rb237, ro238, none⟩) ([r0, r1, r2].length) rc234) ([r0, r1, r2].length) ([.int .i64 r0.x, .int .i64 r0.y, .int .i64 r0.z, .int .i64 r0.w, .int .i64 r1.x, .int .i64 r1.y, .int .i64 r1.z, .int .i64 r1.w, .int .i64 r2.x, .int .i64 r2.y, .int .i64 r2.z, .int .i64 r2.w]) 184 4, cellsA b220 [.int .i64 r1.x, .int .i64 r1.y, .int .i64 r1.z, .int .i64 r1.w] 184, cellsA b229 [.int .i64 r2.x, .int .i64 r2.y, .int .i64 r2.z, .int .i64 r2.w] 184, cellsA b253_ [.int .u64 (hiU (det3R r0 r1 r2)), .int .u64 (loU (det3R r0 r1 r2))] 142]) w_) ?_ ?_
  · skip
    refine XC.drawS 12 rfl (fun _ => False) 12 (by kernel_rfl) s236 (fun w239 s239 ev239 kp239 hH240 => ?_)
    refine XA.valD 0 32 (.slice (some ⟨rb237, ro238, none⟩) ([r0, r1, r2].length) rc234) rfl (by kernel_rfl) (by kernel_rfl) (by kernel_rfl) rfl (by kernel_rfl) rfl hH240 (fun hH241 => ?_)
    refine XA.index (p := 1) (i := 0) (e := 184) (sz := 4) rfl (by kernel_rfl) (by kernel_rfl) (by kernel_rfl) rfl (by kernel_rfl) rfl rfl (by decide) rfl rfl (by omega) (by (first | omega | (simp; done) | (simp; omega))) (by kernel_rfl) (by kernel_rfl) hH241 (fun hH242 => ?_)
    have hz244 : ([r0, r1, r2])[0]? = some r0 := rfl
    refine XA.loadRow false (p := 2) (q := 18) (j := 0) (z := r0) (g := true) s239 rfl (hel235.mono (ev236.trans ev239)) rfl hz244 rfl rfl (by kernel_rfl) (by kernel_rfl) (by kernel_rfl) rfl rfl (fun _ h => h) (by kernel_rfl) rfl rfl (by decide) hH242 rfl (by first | rfl | omega) (by kernel_rfl) (by kernel_rfl) rfl (fun cs_ hcs_ hH243 => ?_)
    obtain rfl := hcs_
    refine XA.valD 3 35 (.slice (some ⟨rb237, ro238, none⟩) ([r0, r1, r2].length) rc234) rfl (by kernel_rfl) (by kernel_rfl) (by kernel_rfl) rfl (by kernel_rfl) rfl hH243 (fun hH245 => ?_)
    refine XA.index (p := 4) (i := 1) (e := 184) (sz := 4) rfl (by kernel_rfl) (by kernel_rfl) (by kernel_rfl) rfl (by kernel_rfl) rfl rfl (by decide) rfl rfl (by omega) (by (first | omega | (simp; done) | (simp; omega))) (by kernel_rfl) (by kernel_rfl) hH245 (fun hH246 => ?_)
    have hz248 : ([r0, r1, r2])[1]? = some r1 := rfl
    refine XA.loadRow false (p := 5) (q := 18) (j := 1) (z := r1) (g := true) s239 rfl (hel235.mono (ev236.trans ev239)) rfl hz248 rfl rfl (by kernel_rfl) (by kernel_rfl) (by kernel_rfl) rfl rfl (fun _ h => h) (by kernel_rfl) rfl rfl (by decide) hH246 rfl (by first | rfl | omega) (by kernel_rfl) (by kernel_rfl) rfl (fun cs_ hcs_ hH247 => ?_)
    obtain rfl := hcs_
    refine XA.valD 6 38 (.slice (some ⟨rb237, ro238, none⟩) ([r0, r1, r2].length) rc234) rfl (by kernel_rfl) (by kernel_rfl) (by kernel_rfl) rfl (by kernel_rfl) rfl hH247 (fun hH249 => ?_)
    refine XA.index (p := 7) (i := 2) (e := 184) (sz := 4) rfl (by kernel_rfl) (by kernel_rfl) (by kernel_rfl) rfl (by kernel_rfl) rfl rfl (by decide) rfl rfl (by omega) (by (first | omega | (simp; done) | (simp; omega))) (by kernel_rfl) (by kernel_rfl) hH249 (fun hH250 => ?_)
    have hz252 : ([r0, r1, r2])[2]? = some r2 := rfl
    refine XA.loadRow false (p := 8) (q := 18) (j := 2) (z := r2) (g := true) s239 rfl (hel235.mono (ev236.trans ev239)) rfl hz252 rfl rfl (by kernel_rfl) (by kernel_rfl) (by kernel_rfl) rfl rfl (fun _ h => h) (by kernel_rfl) rfl rfl (by decide) hH250 rfl (by first | rfl | omega) (by kernel_rfl) (by kernel_rfl) rfl (fun cs_ hcs_ hH251 => ?_)
    obtain rfl := hcs_
    refine XA.op2 (i := 9) (j := 10) rfl rfl (by kernel_rfl) (by kernel_rfl) (by kernel_rfl) ?_ ?_
    · skip
      refine XO.callS (f := 161) (args := [(.agg #[.int .i64 r0.x, .int .i64 r0.y, .int .i64 r0.z, .int .i64 r0.w]), (.agg #[.int .i64 r1.x, .int .i64 r1.y, .int .i64 r1.z, .int .i64 r1.w]), (.agg #[.int .i64 r2.x, .int .i64 r2.y, .int .i64 r2.z, .int .i64 r2.w])].toArray) s239 rfl (by decide) (fun _ => by kernel_rfl) (carapaceref2_three_ok (av A _) _ s239.av_fresh r0 r1 r2 (by first | exact hok.1 | exact hok.2.1 | exact hok.2.2.1 | exact hok.2.2.2) (by first | exact hok.1 | exact hok.2.1 | exact hok.2.2.1 | exact hok.2.2.2) (by first | exact hok.1 | exact hok.2.1 | exact hok.2.2.1 | exact hok.2.2.2)) (fun _ w253 s253 ev253 kp253 hv_ => ?_)
      obtain rfl := hv_
      have hH254 := hH251.keep (i := 9) kp253 rfl
      refine ⟨hH254, ?_⟩
      refine XA.op (i := 10) rfl (by kernel_rfl) (by kernel_rfl) (XO.new (cs := [.int .u64 0, .int .u64 0]) (T := 142) s253 rfl (by decide) (fun _ => by kernel_rfl) (fun b255 w256 s256 ev256 kp256 ybb255 => ?_))
      have hH257 := hH254.keep (i := 10) kp256 rfl
      refine ⟨hH257, ?_⟩
      refine XA.op (i := 11) rfl (by kernel_rfl) (by kernel_rfl) (XO.storeS (i := 21) (v := .agg #[.int .u64 (hiU (det3R r0 r1 r2)), .int .u64 (loU (det3R r0 r1 r2))]) (m := 2) (cs' := [.int .u64 (hiU (det3R r0 r1 r2)), .int .u64 (loU (det3R r0 r1 r2))]) s256 rfl rfl rfl rfl rfl (by kernel_rfl) rfl rfl rfl rfl (fun w258 s258 ev258 kp258 => ?_))
      have hH259 := hH257.young (i := 11) kp258 (by exact (Nat.le_trans hH254.1 ybb255)) rfl
      refine ⟨hH259, ?_⟩
      refine XA.done (by kernel_rfl) (thn_norm ?_)
      exact ⟨b255, ⟨rfl, rfl, rfl, rfl, rfl, rfl, rfl, rfl, rfl, rfl, rfl, rfl, rfl, rfl, rfl, rfl, rfl, rfl, rfl, rfl, rfl, rfl, rfl, rfl, rfl, rfl, rfl, rfl, rfl, rfl, rfl, rfl, rfl, rfl, rfl, rfl, rfl, rfl, rfl, rfl, rfl, rfl, rfl, rfl, rfl, rfl, rfl, rfl, rfl, trivial⟩, s258, (ev239.trans (ev253.trans (ev256.trans ev258)))⟩
    · skip
      refine XO.new (cs := [.int .u64 0, .int .u64 0]) (T := 142) s239 rfl (by decide) (fun _ => by kernel_rfl) (fun b260 w261 s261 ev261 kp261 ybb260 => ?_)
      have hH262 := hH251.keep (i := 10) kp261 rfl
      refine ⟨hH262, ?_⟩
      refine XA.op (i := 9) rfl (by kernel_rfl) (by kernel_rfl) (XO.callS (f := 161) (args := [(.agg #[.int .i64 r0.x, .int .i64 r0.y, .int .i64 r0.z, .int .i64 r0.w]), (.agg #[.int .i64 r1.x, .int .i64 r1.y, .int .i64 r1.z, .int .i64 r1.w]), (.agg #[.int .i64 r2.x, .int .i64 r2.y, .int .i64 r2.z, .int .i64 r2.w])].toArray) s261 rfl (by decide) (fun _ => by kernel_rfl) (carapaceref2_three_ok (av A _) _ s261.av_fresh r0 r1 r2 (by first | exact hok.1 | exact hok.2.1 | exact hok.2.2.1 | exact hok.2.2.2) (by first | exact hok.1 | exact hok.2.1 | exact hok.2.2.1 | exact hok.2.2.2) (by first | exact hok.1 | exact hok.2.1 | exact hok.2.2.1 | exact hok.2.2.2)) (fun _ w263 s263 ev263 kp263 hv_ => ?_))
      obtain rfl := hv_
      have hH264 := hH262.keep (i := 9) kp263 rfl
      refine ⟨hH264, ?_⟩
      refine XA.op (i := 11) rfl (by kernel_rfl) (by kernel_rfl) (XO.storeS (i := 21) (v := .agg #[.int .u64 (hiU (det3R r0 r1 r2)), .int .u64 (loU (det3R r0 r1 r2))]) (m := 2) (cs' := [.int .u64 (hiU (det3R r0 r1 r2)), .int .u64 (loU (det3R r0 r1 r2))]) s263 rfl rfl rfl rfl rfl (by kernel_rfl) rfl rfl rfl rfl (fun w265 s265 ev265 kp265 => ?_))
      have hH266 := hH264.young (i := 11) kp265 (by exact (Nat.le_trans hH251.1 ybb260)) rfl
      refine ⟨hH266, ?_⟩
      refine XA.done (by kernel_rfl) (thn_norm ?_)
      exact ⟨b260, ⟨rfl, rfl, rfl, rfl, rfl, rfl, rfl, rfl, rfl, rfl, rfl, rfl, rfl, rfl, rfl, rfl, rfl, rfl, rfl, rfl, rfl, rfl, rfl, rfl, rfl, rfl, rfl, rfl, rfl, rfl, rfl, rfl, rfl, rfl, rfl, rfl, rfl, rfl, rfl, rfl, rfl, rfl, rfl, rfl, rfl, rfl, rfl, rfl, rfl, trivial⟩, s265, (ev239.trans (ev261.trans (ev263.trans ev265)))⟩
  intro ρw267 w267 hJ_
  obtain ⟨b253_, hh267, s267, ev267⟩ := hJ_
  refine XC.rebase hh267 ?_
  refine XC.seq ?_
  refine XC.seq ?_
  obtain ⟨s268, ev268⟩ := Stt.norm s267 (S' := [cellsA b1 [.int .u64 0, .int .u64 0] 142, cellsA b3 [.int .u64 (hiU (((0 + (0 - (det3R r1 r2 r3))) + (det3R r0 r2 r3)) + (0 - (det3R r0 r1 r3)))), .int .u64 (loU (((0 + (0 - (det3R r1 r2 r3))) + (det3R r0 r2 r3)) + (0 - (det3R r0 r1 r3))))] 142, cellsA b9 [.int .i64 r1.x, .int .i64 r1.y, .int .i64 r1.z, .int .i64 r1.w] 184, rowA (.slice (some ⟨rb36, ro37, none⟩) ([r1, r2, r3].length) rc33) ([r1, r2, r3].length) ([.int .i64 r1.x, .int .i64 r1.y, .int .i64 r1.z, .int .i64 r1.w, .int .i64 r2.x, .int .i64 r2.y, .int .i64 r2.z, .int .i64 r2.w, .int .i64 r3.x, .int .i64 r3.y, .int .i64 r3.z, .int .i64 r3.w]) 184 4, cellsA b19 [.int .i64 r2.x, .int .i64 r2.y, .int .i64 r2.z, .int .i64 r2.w] 184, cellsA b28 [.int .i64 r3.x, .int .i64 r3.y, .int .i64 r3.z, .int .i64 r3.w] 184, cellsA b52_ [.int .u64 (hiU (0 - (det3R r1 r2 r3))), .int .u64 (loU (0 - (det3R r1 r2 r3)))] 142, cellsA b77 [.int .i64 r0.x, .int .i64 r0.y, .int .i64 r0.z, .int .i64 r0.w] 184, rowA (.slice (some ⟨rb104, ro105, none⟩) ([r0, r2, r3].length) rc101) ([r0, r2, r3].length) ([.int .i64 r0.x, .int .i64 r0.y, .int .i64 r0.z, .int .i64 r0.w, .int .i64 r2.x, .int .i64 r2.y, .int .i64 r2.z, .int .i64 r2.w, .int .i64 r3.x, .int .i64 r3.y, .int .i64 r3.z, .int .i64 r3.w]) 184 4, cellsA b87 [.int .i64 r2.x, .int .i64 r2.y, .int .i64 r2.z, .int .i64 r2.w] 184, cellsA b96 [.int .i64 r3.x, .int .i64 r3.y, .int .i64 r3.z, .int .i64 r3.w] 184, cellsA b120_ [.int .u64 (hiU (det3R r0 r2 r3)), .int .u64 (loU (det3R r0 r2 r3))] 142, cellsA b142 [.int .i64 r0.x, .int .i64 r0.y, .int .i64 r0.z, .int .i64 r0.w] 184, rowA (.slice (some ⟨rb169, ro170, none⟩) ([r0, r1, r3].length) rc166) ([r0, r1, r3].length) ([.int .i64 r0.x, .int .i64 r0.y, .int .i64 r0.z, .int .i64 r0.w, .int .i64 r1.x, .int .i64 r1.y, .int .i64 r1.z, .int .i64 r1.w, .int .i64 r3.x, .int .i64 r3.y, .int .i64 r3.z, .int .i64 r3.w]) 184 4, cellsA b152 [.int .i64 r1.x, .int .i64 r1.y, .int .i64 r1.z, .int .i64 r1.w] 184, cellsA b161 [.int .i64 r3.x, .int .i64 r3.y, .int .i64 r3.z, .int .i64 r3.w] 184, cellsA b185_ [.int .u64 (hiU (0 - (det3R r0 r1 r3))), .int .u64 (loU (0 - (det3R r0 r1 r3)))] 142, cellsA b210 [.int .i64 r0.x, .int .i64 r0.y, .int .i64 r0.z, .int .i64 r0.w] 184, rowA (.slice (some ⟨rb237, ro238, none⟩) ([r0, r1, r2].length) rc234) ([r0, r1, r2].length) ([.int .i64 r0.x, .int .i64 r0.y, .int .i64 r0.z, .int .i64 r0.w, .int .i64 r1.x, .int .i64 r1.y, .int .i64 r1.z, .int .i64 r1.w, .int .i64 r2.x, .int .i64 r2.y, .int .i64 r2.z, .int .i64 r2.w]) 184 4, cellsA b220 [.int .i64 r1.x, .int .i64 r1.y, .int .i64 r1.z, .int .i64 r1.w] 184, cellsA b229 [.int .i64 r2.x, .int .i64 r2.y, .int .i64 r2.z, .int .i64 r2.w] 184, cellsA b253_ [.int .u64 (hiU (det3R r0 r1 r2)), .int .u64 (loU (det3R r0 r1 r2))] 142]) rfl
  refine XC.region ?_
  refine XS.vals' 3 [(42, .int .i64 3), (43, .int .i64 1), (44, .bool false)] (by kernel_rfl) ?_
  refine XS.done rfl (thn_norm ?_)
  refine XC.cond_f rfl ?_
  refine XC.skip (thn_norm ?_)
  refine XC.region ?_
  refine XS.op rfl rfl (XO.loadS (i := 1) (v := .agg #[.int .u64 (hiU (((0 + (0 - (det3R r1 r2 r3))) + (det3R r0 r2 r3)) + (0 - (det3R r0 r1 r3)))), .int .u64 (loU (((0 + (0 - (det3R r1 r2 r3))) + (det3R r0 r2 r3)) + (0 - (det3R r0 r1 r3))))]) (g := true) (m := 2) s268 rfl rfl rfl (by decide) rfl (by kernel_rfl) (by kernel_rfl) rfl rfl rfl ?_)
  refine XS.op rfl rfl (XO.loadS (i := 21) (v := .agg #[.int .u64 (hiU (det3R r0 r1 r2)), .int .u64 (loU (det3R r0 r1 r2))]) (g := true) (m := 2) s268 rfl rfl rfl (by decide) rfl (by kernel_rfl) (by kernel_rfl) rfl rfl rfl ?_)
  refine XS.op rfl rfl (XO.callS (f := 163) (args := [(.agg #[.int .u64 (hiU (((0 + (0 - (det3R r1 r2 r3))) + (det3R r0 r2 r3)) + (0 - (det3R r0 r1 r3)))), .int .u64 (loU (((0 + (0 - (det3R r1 r2 r3))) + (det3R r0 r2 r3)) + (0 - (det3R r0 r1 r3))))]), (.agg #[.int .u64 (hiU (det3R r0 r1 r2)), .int .u64 (loU (det3R r0 r1 r2))])].toArray) s268 rfl (by decide) (fun _ => by kernel_rfl) (carapaceref1_Add_ok (av A _) _ s268.av_fresh (((0 + (0 - (det3R r1 r2 r3))) + (det3R r0 r2 r3)) + (0 - (det3R r0 r1 r3))) (det3R r0 r1 r2) ) (fun _ w269 s269 ev269 kp269 hv_ => ?_))
  obtain rfl := hv_
  refine XS.op rfl rfl (XO.storeS (i := 1) (v := .agg #[.int .u64 (hiU ((((0 + (0 - (det3R r1 r2 r3))) + (det3R r0 r2 r3)) + (0 - (det3R r0 r1 r3))) + (det3R r0 r1 r2))), .int .u64 (loU ((((0 + (0 - (det3R r1 r2 r3))) + (det3R r0 r2 r3)) + (0 - (det3R r0 r1 r3))) + (det3R r0 r1 r2)))]) (m := 2) (cs' := [.int .u64 (hiU ((((0 + (0 - (det3R r1 r2 r3))) + (det3R r0 r2 r3)) + (0 - (det3R r0 r1 r3))) + (det3R r0 r1 r2))), .int .u64 (loU ((((0 + (0 - (det3R r1 r2 r3))) + (det3R r0 r2 r3)) + (0 - (det3R r0 r1 r3))) + (det3R r0 r1 r2)))]) s269 rfl rfl rfl rfl rfl (by kernel_rfl) rfl rfl rfl rfl (fun w270 s270 ev270 kp270 => ?_))
  refine XS.done rfl (inBlk_norm (thn_norm ?_))
  obtain ⟨s271, ev271⟩ := Stt.norm s270 (S' := [cellsA b1 [.int .u64 0, .int .u64 0] 142, cellsA b3 [.int .u64 (hiU ((((0 + (0 - (det3R r1 r2 r3))) + (det3R r0 r2 r3)) + (0 - (det3R r0 r1 r3))) + (det3R r0 r1 r2))), .int .u64 (loU ((((0 + (0 - (det3R r1 r2 r3))) + (det3R r0 r2 r3)) + (0 - (det3R r0 r1 r3))) + (det3R r0 r1 r2)))] 142, cellsA b9 [.int .i64 r1.x, .int .i64 r1.y, .int .i64 r1.z, .int .i64 r1.w] 184, rowA (.slice (some ⟨rb36, ro37, none⟩) ([r1, r2, r3].length) rc33) ([r1, r2, r3].length) ([.int .i64 r1.x, .int .i64 r1.y, .int .i64 r1.z, .int .i64 r1.w, .int .i64 r2.x, .int .i64 r2.y, .int .i64 r2.z, .int .i64 r2.w, .int .i64 r3.x, .int .i64 r3.y, .int .i64 r3.z, .int .i64 r3.w]) 184 4, cellsA b19 [.int .i64 r2.x, .int .i64 r2.y, .int .i64 r2.z, .int .i64 r2.w] 184, cellsA b28 [.int .i64 r3.x, .int .i64 r3.y, .int .i64 r3.z, .int .i64 r3.w] 184, cellsA b52_ [.int .u64 (hiU (0 - (det3R r1 r2 r3))), .int .u64 (loU (0 - (det3R r1 r2 r3)))] 142, cellsA b77 [.int .i64 r0.x, .int .i64 r0.y, .int .i64 r0.z, .int .i64 r0.w] 184, rowA (.slice (some ⟨rb104, ro105, none⟩) ([r0, r2, r3].length) rc101) ([r0, r2, r3].length) ([.int .i64 r0.x, .int .i64 r0.y, .int .i64 r0.z, .int .i64 r0.w, .int .i64 r2.x, .int .i64 r2.y, .int .i64 r2.z, .int .i64 r2.w, .int .i64 r3.x, .int .i64 r3.y, .int .i64 r3.z, .int .i64 r3.w]) 184 4, cellsA b87 [.int .i64 r2.x, .int .i64 r2.y, .int .i64 r2.z, .int .i64 r2.w] 184, cellsA b96 [.int .i64 r3.x, .int .i64 r3.y, .int .i64 r3.z, .int .i64 r3.w] 184, cellsA b120_ [.int .u64 (hiU (det3R r0 r2 r3)), .int .u64 (loU (det3R r0 r2 r3))] 142, cellsA b142 [.int .i64 r0.x, .int .i64 r0.y, .int .i64 r0.z, .int .i64 r0.w] 184, rowA (.slice (some ⟨rb169, ro170, none⟩) ([r0, r1, r3].length) rc166) ([r0, r1, r3].length) ([.int .i64 r0.x, .int .i64 r0.y, .int .i64 r0.z, .int .i64 r0.w, .int .i64 r1.x, .int .i64 r1.y, .int .i64 r1.z, .int .i64 r1.w, .int .i64 r3.x, .int .i64 r3.y, .int .i64 r3.z, .int .i64 r3.w]) 184 4, cellsA b152 [.int .i64 r1.x, .int .i64 r1.y, .int .i64 r1.z, .int .i64 r1.w] 184, cellsA b161 [.int .i64 r3.x, .int .i64 r3.y, .int .i64 r3.z, .int .i64 r3.w] 184, cellsA b185_ [.int .u64 (hiU (0 - (det3R r0 r1 r3))), .int .u64 (loU (0 - (det3R r0 r1 r3)))] 142, cellsA b210 [.int .i64 r0.x, .int .i64 r0.y, .int .i64 r0.z, .int .i64 r0.w] 184, rowA (.slice (some ⟨rb237, ro238, none⟩) ([r0, r1, r2].length) rc234) ([r0, r1, r2].length) ([.int .i64 r0.x, .int .i64 r0.y, .int .i64 r0.z, .int .i64 r0.w, .int .i64 r1.x, .int .i64 r1.y, .int .i64 r1.z, .int .i64 r1.w, .int .i64 r2.x, .int .i64 r2.y, .int .i64 r2.z, .int .i64 r2.w]) 184 4, cellsA b220 [.int .i64 r1.x, .int .i64 r1.y, .int .i64 r1.z, .int .i64 r1.w] 184, cellsA b229 [.int .i64 r2.x, .int .i64 r2.y, .int .i64 r2.z, .int .i64 r2.w] 184, cellsA b253_ [.int .u64 (hiU (det3R r0 r1 r2)), .int .u64 (loU (det3R r0 r1 r2))] 142]) rfl
  refine XC.region ?_
  refine XS.vals' 3 [(10, .int .i64 3), (11, .int .i64 4), (4, .int .i64 4)] (by kernel_rfl) ?_
  refine XS.done rfl (thn_norm ?_)
  refine XR.succ ?_
  refine XC.seq ?_
  refine XC.seq ?_
  refine XC.region ?_
  refine XS.vals' 2 [(8, .int .i64 4), (9, .bool false)] (by kernel_rfl) ?_
  refine XS.done rfl (thn_norm ?_)
  refine XC.cond_f rfl ?_
  refine XC.exit (thn_exit (thn_exit (inBlk_hit (thn_norm ?_))))
  refine XC.seq ?_
  refine XC.region ?_
  refine XS.op rfl rfl (XO.loadS (i := 1) (v := .agg #[.int .u64 (hiU ((((0 + (0 - (det3R r1 r2 r3))) + (det3R r0 r2 r3)) + (0 - (det3R r0 r1 r3))) + (det3R r0 r1 r2))), .int .u64 (loU ((((0 + (0 - (det3R r1 r2 r3))) + (det3R r0 r2 r3)) + (0 - (det3R r0 r1 r3))) + (det3R r0 r1 r2)))]) (g := true) (m := 2) s271 rfl rfl rfl (by decide) rfl (by kernel_rfl) (by kernel_rfl) rfl rfl rfl ?_)
  refine XS.op rfl rfl (XO.storeS (i := 0) (v := .agg #[.int .u64 (hiU ((((0 + (0 - (det3R r1 r2 r3))) + (det3R r0 r2 r3)) + (0 - (det3R r0 r1 r3))) + (det3R r0 r1 r2))), .int .u64 (loU ((((0 + (0 - (det3R r1 r2 r3))) + (det3R r0 r2 r3)) + (0 - (det3R r0 r1 r3))) + (det3R r0 r1 r2)))]) (m := 2) (cs' := [.int .u64 (hiU ((((0 + (0 - (det3R r1 r2 r3))) + (det3R r0 r2 r3)) + (0 - (det3R r0 r1 r3))) + (det3R r0 r1 r2))), .int .u64 (loU ((((0 + (0 - (det3R r1 r2 r3))) + (det3R r0 r2 r3)) + (0 - (det3R r0 r1 r3))) + (det3R r0 r1 r2)))]) s271 rfl rfl rfl rfl rfl (by kernel_rfl) rfl rfl rfl rfl (fun w272 s272 ev272 kp272 => ?_))
  refine XS.done rfl (thn_norm ?_)
  refine XC.ret ?_
  refine ⟨Or.inr rfl, .agg #[.int .u64 (hiU ((((0 + (0 - (det3R r1 r2 r3))) + (det3R r0 r2 r3)) + (0 - (det3R r0 r1 r3))) + (det3R r0 r1 r2))), .int .u64 (loU ((((0 + (0 - (det3R r1 r2 r3))) + (det3R r0 r2 r3)) + (0 - (det3R r0 r1 r3))) + (det3R r0 r1 r2)))], fun a_ ha_ => results_c rfl (res_cell (b := b1) (cs := [.int .u64 (hiU ((((0 + (0 - (det3R r1 r2 r3))) + (det3R r0 r2 r3)) + (0 - (det3R r0 r1 r3))) + (det3R r0 r1 r2))), .int .u64 (loU ((((0 + (0 - (det3R r1 r2 r3))) + (det3R r0 r2 r3)) + (0 - (det3R r0 r1 r3))) + (det3R r0 r1 r2)))]) (g := true) (sz := 2) (v := .agg #[.int .u64 (hiU ((((0 + (0 - (det3R r1 r2 r3))) + (det3R r0 r2 r3)) + (0 - (det3R r0 r1 r3))) + (det3R r0 r1 r2))), .int .u64 (loU ((((0 + (0 - (det3R r1 r2 r3))) + (det3R r0 r2 r3)) + (0 - (det3R r0 r1 r3))) + (det3R r0 r1 r2)))]) ha_ rfl (s272.at_ (i := 0) rfl) (by kernel_rfl) (by kernel_rfl) rfl rfl rfl), s272.keep, ?_⟩
  rfl

end Go.Proofs.Tryz
namespace Go.Proofs.Tryz
open Go Go.X Go.RowKit Go.Sort
set_option maxRecDepth 100000
set_option maxHeartbeats 2000000
set_option linter.unusedVariables false
theorem carapaceref2_Det_ok (A : Nat → Prop) (w0 : World) (hA : ∀ b, w0.heap.size ≤ b → A b) (a : Pt) (b : Pt) (c : Pt) (d : Pt) (ha : a.ok) (hb : b.ok) (hc : c.ok) (hd : d.ok)  : Cal Tryz.prog 92 [(.agg #[.int .i64 a.x, .int .i64 a.y, .int .i64 a.z]), (.agg #[.int .i64 b.x, .int .i64 b.y, .int .i64 b.z]), (.agg #[.int .i64 c.x, .int .i64 c.y, .int .i64 c.z]), (.agg #[.int .i64 d.x, .int .i64 d.y, .int .i64 d.z])].toArray w0 (fun v w' => Keep none_ w0 w' ∧ v = .agg #[.int .u64 (hiU (det4 a b c d)), .int .u64 (loU (det4 a b c d))]) := by
  have s0 : Stt A w0 none_ [] w0 := Stt.start hA none_
  refine Cal.intro (n := 19) Tryz.func92 rfl Tryz.ntmps92 rfl ?_
  refine XC.seq ?_
  refine XC.region ?_
  refine XS.op rfl rfl (XO.new (cs := [.int .i64 a.x, .int .i64 a.y, .int .i64 a.z]) (T := 24) s0 rfl (by decide) (fun _ => by kernel_rfl) (fun b1 w2 s2 ev2 kp2 ybb1 => ?_))
  refine XS.op rfl rfl (XO.new (cs := [.int .i64 b.x, .int .i64 b.y, .int .i64 b.z]) (T := 24) s2 rfl (by decide) (fun _ => by kernel_rfl) (fun b3 w4 s4 ev4 kp4 ybb3 => ?_))
  refine XS.op rfl rfl (XO.new (cs := [.int .i64 c.x, .int .i64 c.y, .int .i64 c.z]) (T := 24) s4 rfl (by decide) (fun _ => by kernel_rfl) (fun b5 w6 s6 ev6 kp6 ybb5 => ?_))
  refine XS.op rfl rfl (XO.new (cs := [.int .i64 d.x, .int .i64 d.y, .int .i64 d.z]) (T := 24) s6 rfl (by decide) (fun _ => by kernel_rfl) (fun b7 w8 s8 ev8 kp8 ybb7 => ?_))
  refine XS.op rfl rfl (XO.new (cs := [.int .u64 0, .int .u64 0]) (T := 142) s8 rfl (by decide) (fun _ => by kernel_rfl) (fun b9 w10 s10 ev10 kp10 ybb9 => ?_))
  refine XS.done rfl (thn_norm ?_)
  refine XC.seq ?_
  refine XC.drawS 11 rfl (fun x => x = b9) 10 (by kernel_rfl) s10 (fun w11 s11 ev11 kp11 hH12 => ?_)
  refine XA.loadS true (j := 0) (i := 0) (v := .agg #[.int .i64 a.x, .int .i64 a.y, .int .i64 a.z]) (g := true) (m := 3) s11 rfl rfl (by kernel_rfl) (by kernel_rfl) (by kernel_rfl) rfl (by kernel_rfl) (fun h => by cases h) (by kernel_rfl) rfl rfl (by decide) hH12 rfl (by kernel_rfl) (by kernel_rfl) rfl rfl rfl (fun hH13 => ?_)
  refine XA.loadS true (j := 2) (i := 1) (v := .agg #[.int .i64 b.x, .int .i64 b.y, .int .i64 b.z]) (g := true) (m := 3) s11 rfl rfl (by kernel_rfl) (by kernel_rfl) (by kernel_rfl) rfl (by kernel_rfl) (fun h => by cases h) (by kernel_rfl) rfl rfl (by decide) hH13 rfl (by kernel_rfl) (by kernel_rfl) rfl rfl rfl (fun hH14 => ?_)
  refine XA.loadS true (j := 4) (i := 2) (v := .agg #[.int .i64 c.x, .int .i64 c.y, .int .i64 c.z]) (g := true) (m := 3) s11 rfl rfl (by kernel_rfl) (by kernel_rfl) (by kernel_rfl) rfl (by kernel_rfl) (fun h => by cases h) (by kernel_rfl) rfl rfl (by decide) hH14 rfl (by kernel_rfl) (by kernel_rfl) rfl rfl rfl (fun hH15 => ?_)
  refine XA.loadS true (j := 6) (i := 3) (v := .agg #[.int .i64 d.x, .int .i64 d.y, .int .i64 d.z]) (g := true) (m := 3) s11 rfl rfl (by kernel_rfl) (by kernel_rfl) (by kernel_rfl) rfl (by kernel_rfl) (fun h => by cases h) (by kernel_rfl) rfl rfl (by decide) hH15 rfl (by kernel_rfl) (by kernel_rfl) rfl rfl rfl (fun hH16 => ?_)
  refine XA.op (i := 1) rfl (by kernel_rfl) (by kernel_rfl) (XO.callS (f := 128) (args := [(.agg #[.int .i64 a.x, .int .i64 a.y, .int .i64 a.z])].toArray) s11 rfl (by decide) (fun _ => by kernel_rfl) (carapaceref2_row_ok (av A _) _ s11.av_fresh a ) (fun _ w17 s17 ev17 kp17 hv_ => ?_))
  obtain rfl := hv_
  have hH18 := hH16.keep (i := 1) kp17 rfl
  refine ⟨hH18, ?_⟩
  refine XA.op (i := 3) rfl (by kernel_rfl) (by kernel_rfl) (XO.callS (f := 128) (args := [(.agg #[.int .i64 b.x, .int .i64 b.y, .int .i64 b.z])].toArray) s17 rfl (by decide) (fun _ => by kernel_rfl) (carapaceref2_row_ok (av A _) _ s17.av_fresh b ) (fun _ w19 s19 ev19 kp19 hv_ => ?_))
  obtain rfl := hv_
  have hH20 := hH18.keep (i := 3) kp19 rfl
  refine ⟨hH20, ?_⟩
  refine XA.op (i := 5) rfl (by kernel_rfl) (by kernel_rfl) (XO.callS (f := 128) (args := [(.agg #[.int .i64 c.x, .int .i64 c.y, .int .i64 c.z])].toArray) s19 rfl (by decide) (fun _ => by kernel_rfl) (carapaceref2_row_ok (av A _) _ s19.av_fresh c ) (fun _ w21 s21 ev21 kp21 hv_ => ?_))
  obtain rfl := hv_
  have hH22 := hH20.keep (i := 5) kp21 rfl
  refine ⟨hH22, ?_⟩
  refine XA.op (i := 7) rfl (by kernel_rfl) (by kernel_rfl) (XO.callS (f := 128) (args := [(.agg #[.int .i64 d.x, .int .i64 d.y, .int .i64 d.z])].toArray) s21 rfl (by decide) (fun _ => by kernel_rfl) (carapaceref2_row_ok (av A _) _ s21.av_fresh d ) (fun _ w23 s23 ev23 kp23 hv_ => ?_))
  obtain rfl := hv_
  have hH24 := hH22.keep (i := 7) kp23 rfl
  refine ⟨hH24, ?_⟩
  refine XA.op (i := 8) rfl (by kernel_rfl) (by kernel_rfl) (XO.newSl (k := 4) (cs := [.int .i64 a.row.x, .int .i64 a.row.y, .int .i64 a.row.z, .int .i64 a.row.w, .int .i64 b.row.x, .int .i64 b.row.y, .int .i64 b.row.z, .int .i64 b.row.w, .int .i64 c.row.x, .int .i64 c.row.y, .int .i64 c.row.z, .int .i64 c.row.w, .int .i64 d.row.x, .int .i64 d.row.y, .int .i64 d.row.z, .int .i64 d.row.w]) (T := 184) s23 rfl (by decide) (fun _ => by kernel_rfl) (fun b25 w26 s26 ev26 kp26 ybb25 => ?_))
  have hH27 := hH24.keep (i := 8) kp26 rfl
  refine ⟨hH27, ?_⟩
  obtain ⟨s28, ev28, hf28⟩ := Stt.freezeLit (τ := tRW) (xs := [a.row, b.row, c.row, d.row]) s26 5 rfl (fun _ h => h.elim) rfl rfl (Els.enc _ _ [a.row, b.row, c.row, d.row])
  refine XA.op (i := 9) rfl (by kernel_rfl) (by kernel_rfl) (XO.callS (f := 127) (args := [(.slice (some ⟨b25, 0, none⟩) 4 4)].toArray) s28 rfl (by decide) (fun _ => by kernel_rfl) (carapaceref2_four_ok (av A _) _ s28.av_fresh a.row b.row c.row d.row (some ⟨b25, 0, none⟩) 4 hf28 (by first | exact ⟨Pt.row_ok ha, Pt.row_ok hb, Pt.row_ok hc, Pt.row_ok hd⟩ | exact ⟨rfl, rfl, rfl, rfl⟩) (by first | exact ⟨Pt.row_ok ha, Pt.row_ok hb, Pt.row_ok hc, Pt.row_ok hd⟩ | exact ⟨rfl, rfl, rfl, rfl⟩)) (fun _ w29 s29 ev29 kp29 hv_ => ?_))
  obtain rfl := hv_
  have hH30 := hH27.keep (i := 9) kp29 rfl
  refine ⟨hH30, ?_⟩
  refine XA.op (i := 10) rfl (by kernel_rfl) (by kernel_rfl) (XO.storeS (i := 4) (v := .agg #[.int .u64 (hiU (four4 a.row b.row c.row d.row)), .int .u64 (loU (four4 a.row b.row c.row d.row))]) (m := 2) (cs' := [.int .u64 (hiU (four4 a.row b.row c.row d.row)), .int .u64 (loU (four4 a.row b.row c.row d.row))]) s29 rfl rfl rfl rfl rfl (by kernel_rfl) rfl rfl rfl rfl (fun w31 s31 ev31 kp31 => ?_))
  have hH32 := hH30.turn (i := 10) kp31 (fun b_ _ e_ => by first | exact e_ | (subst e_; simp)) rfl
  refine ⟨hH32, ?_⟩
  refine XA.done (by kernel_rfl) (thn_norm ?_)
  refine XC.ret ?_
  refine ⟨Or.inr rfl, .agg #[.int .u64 (hiU (four4 a.row b.row c.row d.row)), .int .u64 (loU (four4 a.row b.row c.row d.row))], fun a_ ha_ => results_c rfl (res_cell (b := b9) (cs := [.int .u64 (hiU (four4 a.row b.row c.row d.row)), .int .u64 (loU (four4 a.row b.row c.row d.row))]) (g := true) (sz := 2) (v := .agg #[.int .u64 (hiU (four4 a.row b.row c.row d.row)), .int .u64 (loU (four4 a.row b.row c.row d.row))]) ha_ rfl (s31.at_ (i := 4) rfl) (by kernel_rfl) (by kernel_rfl) rfl rfl rfl), s31.keep, ?_⟩
  rw [four4_det]

theorem carapaceref2_Side_ok (A : Nat → Prop) (w0 : World) (hA : ∀ b, w0.heap.size ≤ b → A b) (a : Pt) (b : Pt) (c : Pt) (d : Pt) (ha : a.ok) (hb : b.ok) (hc : c.ok) (hd : d.ok)  : Cal Tryz.prog 59 [(.agg #[.int .i64 a.x, .int .i64 a.y, .int .i64 a.z]), (.agg #[.int .i64 b.x, .int .i64 b.y, .int .i64 b.z]), (.agg #[.int .i64 c.x, .int .i64 c.y, .int .i64 c.z]), (.agg #[.int .i64 d.x, .int .i64 d.y, .int .i64 d.z])].toArray w0 (fun v w' => Keep none_ w0 w' ∧ v = .int .i64 (sgnU (det4 a b c d))) := by
  have s0 : Stt A w0 none_ [] w0 := Stt.start hA none_
  refine Cal.intro (n := 15) Tryz.func59 rfl Tryz.ntmps59 rfl ?_
  refine XC.seq ?_
  refine XC.region ?_
  refine XS.op rfl rfl (XO.new (cs := [.int .i64 a.x, .int .i64 a.y, .int .i64 a.z]) (T := 24) s0 rfl (by decide) (fun _ => by kernel_rfl) (fun b1 w2 s2 ev2 kp2 ybb1 => ?_))
  refine XS.op rfl rfl (XO.new (cs := [.int .i64 b.x, .int .i64 b.y, .int .i64 b.z]) (T := 24) s2 rfl (by decide) (fun _ => by kernel_rfl) (fun b3 w4 s4 ev4 kp4 ybb3 => ?_))
  refine XS.op rfl rfl (XO.new (cs := [.int .i64 c.x, .int .i64 c.y, .int .i64 c.z]) (T := 24) s4 rfl (by decide) (fun _ => by kernel_rfl) (fun b5 w6 s6 ev6 kp6 ybb5 => ?_))
  refine XS.op rfl rfl (XO.new (cs := [.int .i64 d.x, .int .i64 d.y, .int .i64 d.z]) (T := 24) s6 rfl (by decide) (fun _ => by kernel_rfl) (fun b7 w8 s8 ev8 kp8 ybb7 => ?_))
  refine XS.vals' 1 [(8, .int .i64 0)] (by kernel_rfl) ?_
  refine XS.done rfl (thn_norm ?_)
  refine XC.seq ?_
  refine XC.region ?_
  refine XS.op rfl rfl (XO.loadS (i := 0) (v := .agg #[.int .i64 a.x, .int .i64 a.y, .int .i64 a.z]) (g := true) (m := 3) s8 rfl rfl rfl (by decide) rfl (by kernel_rfl) (by kernel_rfl) rfl rfl rfl ?_)
  refine XS.op rfl rfl (XO.loadS (i := 1) (v := .agg #[.int .i64 b.x, .int .i64 b.y, .int .i64 b.z]) (g := true) (m := 3) s8 rfl rfl rfl (by decide) rfl (by kernel_rfl) (by kernel_rfl) rfl rfl rfl ?_)
  refine XS.op rfl rfl (XO.loadS (i := 2) (v := .agg #[.int .i64 c.x, .int .i64 c.y, .int .i64 c.z]) (g := true) (m := 3) s8 rfl rfl rfl (by decide) rfl (by kernel_rfl) (by kernel_rfl) rfl rfl rfl ?_)
  refine XS.op rfl rfl (XO.loadS (i := 3) (v := .agg #[.int .i64 d.x, .int .i64 d.y, .int .i64 d.z]) (g := true) (m := 3) s8 rfl rfl rfl (by decide) rfl (by kernel_rfl) (by kernel_rfl) rfl rfl rfl ?_)
  refine XS.op rfl rfl (XO.callS (f := 92) (args := [(.agg #[.int .i64 a.x, .int .i64 a.y, .int .i64 a.z]), (.agg #[.int .i64 b.x, .int .i64 b.y, .int .i64 b.z]), (.agg #[.int .i64 c.x, .int .i64 c.y, .int .i64 c.z]), (.agg #[.int .i64 d.x, .int .i64 d.y, .int .i64 d.z])].toArray) s8 rfl (by decide) (fun _ => by kernel_rfl) (carapaceref2_Det_ok (av A _) _ s8.av_fresh a b c d (by assumption) (by assumption) (by assumption) (by assumption)) (fun _ w9 s9 ev9 kp9 hv_ => ?_))
  obtain rfl := hv_
  refine XS.op rfl rfl (XO.callS (f := 91) (args := [(.agg #[.int .u64 (hiU (det4 a b c d)), .int .u64 (loU (det4 a b c d))])].toArray) s9 rfl (by decide) (fun _ => by kernel_rfl) (carapaceref1_Sign_ok (av A _) _ s9.av_fresh (det4 a b c d) ) (fun _ w10 s10 ev10 kp10 hv_ => ?_))
  obtain rfl := hv_
  refine XS.vals' 1 [(8, .int .i64 (sgnU (det4 a b c d)))] (by kernel_rfl) ?_
  refine XS.done rfl (thn_norm ?_)
  refine XC.ret ?_
  refine ⟨Or.inr rfl, .int .i64 (sgnU (det4 a b c d)), fun a_ ha_ => results_t rfl ha_ rfl, s10.keep, ?_⟩
  rfl

end Go.Proofs.Tryz
