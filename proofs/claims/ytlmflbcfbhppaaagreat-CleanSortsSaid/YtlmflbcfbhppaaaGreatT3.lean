/- Contracts of functions of the program. -/
import Derived.Test.YtlmflbcfbhppaaaGreatT2
import Derived.Test.YtlmflbcfbhppaaaGreatProg
set_option linter.all false
set_option linter.unusedVariables false
set_option linter.unusedSimpArgs false
set_option linter.unusedSectionVars false
namespace Go.Proofs.Tryz
open Go Go.X Go.RowKit Go.Sort
set_option maxRecDepth 100000
set_option linter.unusedVariables false
theorem clean_base_ok (A : Nat → Prop) (w0 : World) (hA : ∀ b, w0.heap.size ≤ b → A b) (l : List Pt) (a_l : Option Addr) (c_l : Nat) (h_l : Sl tPt A w0 (.slice a_l l.length c_l) l) (hall : ∀ p ∈ l, p.ok)  : Cal Tryz.prog 15 [(.slice a_l l.length c_l)].toArray w0 (fun v w' => Keep none_ w0 w' ∧ v = .tuple #[(.int .i64 (dimOf l)), (.agg #[.int .i64 ((((baseOf l)).p0).x), .int .i64 ((((baseOf l)).p0).y), .int .i64 ((((baseOf l)).p0).z), .int .i64 ((((baseOf l)).p1).x), .int .i64 ((((baseOf l)).p1).y), .int .i64 ((((baseOf l)).p1).z), .int .i64 ((((baseOf l)).p2).x), .int .i64 ((((baseOf l)).p2).y), .int .i64 ((((baseOf l)).p2).z), .int .i64 ((((baseOf l)).p3).x), .int .i64 ((((baseOf l)).p3).y), .int .i64 ((((baseOf l)).p3).z)])]) := by
  have s0 : Stt A w0 none_ [] w0 := Stt.start hA none_
  have h_l_ := h_l.mono Evo.start
  refine Cal.intro (n := 70) Tryz.func15 rfl Tryz.ntmps15 rfl ?_
  refine XC.seq ?_
  refine XC.region ?_
  refine XS.vals' 1 [(2, .int .i64 0)] (by kernel_rfl) ?_
  refine XS.op rfl rfl (XO.new (cs := [.int .i64 0, .int .i64 0, .int .i64 0, .int .i64 0, .int .i64 0, .int .i64 0, .int .i64 0, .int .i64 0, .int .i64 0, .int .i64 0, .int .i64 0, .int .i64 0]) (T := 43) s0 rfl (by decide) (fun _ => by kernel_rfl) (fun b1 w2 s2 ev2 kp2 ybb1 => ?_))
  refine XS.done rfl (thn_norm ?_)
  refine XC.seq ?_
  refine XC.region ?_
  refine XS.op rfl rfl (XO.new (cs := [.int .i64 0, .int .i64 0, .int .i64 0, .int .i64 0, .int .i64 0, .int .i64 0, .int .i64 0, .int .i64 0, .int .i64 0, .int .i64 0, .int .i64 0, .int .i64 0]) (T := 43) s2 rfl (by decide) (fun _ => by kernel_rfl) (fun b3 w4 s4 ev4 kp4 ybb3 => ?_))
  refine XS.done rfl (thn_norm ?_)
  refine XC.seq ?_
  refine XC.seq ?_
  refine XC.region ?_
  refine XS.vals' 3 [(12, .slice a_l l.length c_l), (13, .int .i64 (l.length : Int)), (14, .bool (decide ((l.length : Int) = 0)))] (by kernel_rfl) ?_
  refine XS.done rfl (thn_norm ?_)
  refine XC.cond_d ((l.length : Int) = 0) rfl (fun hc5 => ?_) (fun hc5 => ?_)
  · skip
    refine XC.seq ?_
    refine XC.drawS 3 rfl (fun x => x = b1) 2 (by kernel_rfl) s4 (fun w6 s6 ev6 kp6 hH7 => ?_)
    refine XA.loadS true (j := 0) (i := 1) (v := .agg #[.int .i64 0, .int .i64 0, .int .i64 0, .int .i64 0, .int .i64 0, .int .i64 0, .int .i64 0, .int .i64 0, .int .i64 0, .int .i64 0, .int .i64 0, .int .i64 0]) (g := true) (m := 12) s6 rfl rfl (by kernel_rfl) (by kernel_rfl) (by kernel_rfl) rfl (by kernel_rfl) (fun h => by cases h) (by kernel_rfl) rfl rfl (by decide) hH7 rfl (by kernel_rfl) (by kernel_rfl) rfl rfl rfl (fun hH8 => ?_)
    refine XA.valD 1 2 (.int .i64 (-1)) rfl (by kernel_rfl) (by kernel_rfl) (by kernel_rfl) rfl (by kernel_rfl) rfl hH8 (fun hH9 => ?_)
    refine XA.op (i := 2) rfl (by kernel_rfl) (by kernel_rfl) (XO.storeS (i := 0) (v := .agg #[.int .i64 0, .int .i64 0, .int .i64 0, .int .i64 0, .int .i64 0, .int .i64 0, .int .i64 0, .int .i64 0, .int .i64 0, .int .i64 0, .int .i64 0, .int .i64 0]) (m := 12) (cs' := [.int .i64 0, .int .i64 0, .int .i64 0, .int .i64 0, .int .i64 0, .int .i64 0, .int .i64 0, .int .i64 0, .int .i64 0, .int .i64 0, .int .i64 0, .int .i64 0]) s6 rfl rfl rfl rfl rfl (by kernel_rfl) rfl rfl rfl rfl (fun w10 s10 ev10 kp10 => ?_))
    have hH11 := hH9.turn (i := 2) kp10 (fun b_ _ e_ => by first | exact e_ | (subst e_; simp)) rfl
    refine ⟨hH11, ?_⟩
    refine XA.done (by kernel_rfl) (thn_norm ?_)
    refine XC.ret (thn_ret ?_)
    refine ⟨Or.inr rfl, .tuple #[(.int .i64 (-1)), (.agg #[.int .i64 0, .int .i64 0, .int .i64 0, .int .i64 0, .int .i64 0, .int .i64 0, .int .i64 0, .int .i64 0, .int .i64 0, .int .i64 0, .int .i64 0, .int .i64 0])], fun a_ ha_ => results_tc rfl (res_cell (b := b1) (cs := [.int .i64 0, .int .i64 0, .int .i64 0, .int .i64 0, .int .i64 0, .int .i64 0, .int .i64 0, .int .i64 0, .int .i64 0, .int .i64 0, .int .i64 0, .int .i64 0]) (g := true) (sz := 12) (v := .agg #[.int .i64 0, .int .i64 0, .int .i64 0, .int .i64 0, .int .i64 0, .int .i64 0, .int .i64 0, .int .i64 0, .int .i64 0, .int .i64 0, .int .i64 0, .int .i64 0]) ha_ rfl (s10.at_ (i := 0) rfl) (by kernel_rfl) (by kernel_rfl) rfl rfl rfl) ha_ rfl, s10.keep, ?_⟩
    obtain rfl : l = [] := List.eq_nil_of_length_eq_zero (by omega)
    rfl
  · skip
    refine XC.skip (thn_norm ?_)
    refine XC.seq ?_
    refine XC.region ?_
    refine XS.vals' 1 [(16, .slice a_l l.length c_l)] (by kernel_rfl) ?_
    obtain ⟨z12, hz12⟩ := get_some (xs := l) (i := 0) (by (have hm_ := h_l_.elim; obtain ⟨_, _, _, _, hm_⟩ := hm_; omega))
    refine XS.op rfl rfl (XO.elem (i := 0) (z := z12) (e := 24) (sz := 3) (h_l_.mono (ev2.trans ev4)) hz12 rfl rfl (by decide) rfl rfl (by omega) (by kernel_rfl) (by kernel_rfl) ?_)
    refine XS.op rfl rfl (XO.loadE (i := 0) (f := 0) (sz := 3) (g := true) (z := z12) (h_l_.mono (ev2.trans ev4)) hz12 rfl rfl (by decide) rfl (by first | rfl | omega) (by kernel_rfl) (by kernel_rfl) rfl rfl (fun cs_ hcs_ => ?_))
    obtain rfl := hcs_
    refine XS.vals' 1 [(19, .pointer (some ⟨b3, 0, none⟩))] (by kernel_rfl) ?_
    refine XS.op rfl rfl (XO.storeS (i := 1) (v := .agg #[.int .i64 z12.x, .int .i64 z12.y, .int .i64 z12.z]) (m := 3) (cs' := [.int .i64 z12.x, .int .i64 z12.y, .int .i64 z12.z, .int .i64 0, .int .i64 0, .int .i64 0, .int .i64 0, .int .i64 0, .int .i64 0, .int .i64 0, .int .i64 0, .int .i64 0]) s4 rfl rfl rfl rfl rfl (by kernel_rfl) rfl rfl rfl rfl (fun w13 s13 ev13 kp13 => ?_))
    refine XS.done rfl (thn_norm ?_)
    refine XC.seq ?_
    refine XC.region ?_
    refine XS.vals' 1 [(5, .int .i64 0)] (by kernel_rfl) ?_
    refine XS.done rfl (thn_norm ?_)
    refine XC.seq ?_
    refine XC.seq ?_
    refine XC.region ?_
    refine XS.vals' 3 [(20, .slice a_l l.length c_l), (21, .int .i64 (l.length : Int)), (22, .int .i64 0)] (by kernel_rfl) ?_
    refine XS.done rfl (thn_norm ?_)
    refine XC.block ?_
    refine XC.loop (fun ρ_ w_ m_ => ∃ (i dd : Nat) (q0 q1 q2 q3 : Pt), Has ρ_ [(2, .int .i64 0), (3, .pointer (some ⟨b1, 0, none⟩)), (4, .pointer (some ⟨b3, 0, none⟩)), (5, .int .i64 (dd : Int)), (20, .slice a_l l.length c_l), (21, .int .i64 (l.length : Int)), (22, .int .i64 (i : Int))] ∧ Stt A w0 none_ [cellsA b1 [.int .i64 0, .int .i64 0, .int .i64 0, .int .i64 0, .int .i64 0, .int .i64 0, .int .i64 0, .int .i64 0, .int .i64 0, .int .i64 0, .int .i64 0, .int .i64 0] 43, cellsA b3 [.int .i64 q0.x, .int .i64 q0.y, .int .i64 q0.z, .int .i64 q1.x, .int .i64 q1.y, .int .i64 q1.z, .int .i64 q2.x, .int .i64 q2.y, .int .i64 q2.z, .int .i64 q3.x, .int .i64 q3.y, .int .i64 q3.z] 43] w_ ∧ Evo (av A [cellsA b1 [.int .i64 0, .int .i64 0, .int .i64 0, .int .i64 0, .int .i64 0, .int .i64 0, .int .i64 0, .int .i64 0, .int .i64 0, .int .i64 0, .int .i64 0, .int .i64 0] 43, cellsA b3 [.int .i64 z12.x, .int .i64 z12.y, .int .i64 z12.z, .int .i64 0, .int .i64 0, .int .i64 0, .int .i64 0, .int .i64 0, .int .i64 0, .int .i64 0, .int .i64 0, .int .i64 0] 43]) w13 (av A [cellsA b1 [.int .i64 0, .int .i64 0, .int .i64 0, .int .i64 0, .int .i64 0, .int .i64 0, .int .i64 0, .int .i64 0, .int .i64 0, .int .i64 0, .int .i64 0, .int .i64 0] 43, cellsA b3 [.int .i64 q0.x, .int .i64 q0.y, .int .i64 q0.z, .int .i64 q1.x, .int .i64 q1.y, .int .i64 q1.z, .int .i64 q2.x, .int .i64 q2.y, .int .i64 q2.z, .int .i64 q3.x, .int .i64 q3.y, .int .i64 q3.z] 43]) w_ ∧ (i ≤ l.length) ∧ (dd = 0 ∨ dd = 1 ∨ dd = 2 ∨ dd = 3) ∧ (q0.ok ∧ q1.ok ∧ q2.ok ∧ q3.ok) ∧ ((l.take i).foldl bstep ⟨0, l.headD z0, z0, z0, z0⟩ = ⟨dd, q0, q1, q2, q3⟩) ∧ m_ = l.length - i) (l.length - 0) ?_ ?_
    · skip
      exact ⟨0, 0, z12, (⟨0, 0, 0⟩ : Pt), (⟨0, 0, 0⟩ : Pt), (⟨0, 0, 0⟩ : Pt), ⟨rfl, rfl, rfl, (congrArg (Value.int .i64) (by first | rfl | omega : (0 : Int) = _)), rfl, rfl, (congrArg (Value.int .i64) (by first | rfl | omega : (0 : Int) = _)), trivial⟩, s13, Evo.refl _ _, (by omega), (by omega), (⟨hall _ (List.mem_of_getElem? hz12), by decide, by decide, by decide⟩), (by rw [headD_of hz12]; rfl), rfl⟩
    rintro _ ρw14 w14 ⟨i, dd, q0, q1, q2, q3, hh14, s14, ev14, hi, hd, hq, hI, rfl⟩
    refine XC.rebase hh14 ?_
    rcases hd with rfl | rfl | rfl | rfl
    · skip
      refine XC.seq ?_
      refine XC.region ?_
      refine XS.vals' 1 [(23, .bool (decide ((i : Int) < (l.length : Int))))] (by kernel_rfl) ?_
      refine XS.done rfl (thn_norm ?_)
      refine XC.seq ?_
      refine XC.cond_d ((i : Int) < (l.length : Int)) rfl (fun hc15 => ?_) (fun hc15 => ?_)
      · skip
        refine XC.skip (thn_norm ?_)
        refine XC.seq ?_
        refine XC.block ?_
        refine XC.seq ?_
        refine XC.region ?_
        obtain ⟨z16, hz16⟩ := get_some (xs := l) (i := i) (by (have hm_ := h_l_.elim; obtain ⟨_, _, _, _, hm_⟩ := hm_; omega))
        refine XS.op rfl rfl (XO.elem (i := i) (z := z16) (e := 24) (sz := 3) (h_l_.mono (ev2.trans (ev4.trans (ev13.trans ev14)))) hz16 rfl rfl (by decide) rfl rfl (by omega) (by kernel_rfl) (by kernel_rfl) ?_)
        refine XS.op rfl rfl (XO.loadE (i := i) (f := 0) (sz := 3) (g := true) (z := z16) (h_l_.mono (ev2.trans (ev4.trans (ev13.trans ev14)))) hz16 rfl rfl (by decide) rfl (by first | rfl | omega) (by kernel_rfl) (by kernel_rfl) rfl rfl (fun cs_ hcs_ => ?_))
        obtain rfl := hcs_
        refine XS.op rfl rfl (XO.new (cs := [.int .i64 0, .int .i64 0, .int .i64 0]) (T := 24) s14 rfl (by decide) (fun _ => by kernel_rfl) (fun b17 w18 s18 ev18 kp18 ybb17 => ?_))
        refine XS.op rfl rfl (XO.storeS (i := 2) (v := .agg #[.int .i64 z16.x, .int .i64 z16.y, .int .i64 z16.z]) (m := 3) (cs' := [.int .i64 z16.x, .int .i64 z16.y, .int .i64 z16.z]) s18 rfl rfl rfl rfl rfl (by kernel_rfl) rfl rfl rfl rfl (fun w19 s19 ev19 kp19 => ?_))
        refine XS.done rfl (thn_norm ?_)
        refine XC.seq ?_
        refine XC.seq ?_
        refine XC.region ?_
        refine XS.vals' 1 [(26, .int .i64 0)] (by kernel_rfl) ?_
        refine XS.done rfl (thn_norm ?_)
        refine XC.block ?_
        refine XC.seq ?_
        refine XC.region ?_
        refine XS.vals' 2 [(30, .bool true), (29, .bool true)] (by kernel_rfl) ?_
        refine XS.done rfl (thn_norm ?_)
        refine XC.cond_t rfl ?_
        refine XC.seq ?_
        refine XC.region ?_
        refine XS.op rfl rfl (XO.loadS (i := 2) (v := .agg #[.int .i64 z16.x, .int .i64 z16.y, .int .i64 z16.z]) (g := true) (m := 3) s19 rfl rfl rfl (by decide) rfl (by kernel_rfl) (by kernel_rfl) rfl rfl rfl ?_)
        refine XS.vals' 1 [(32, .pointer (some ⟨b3, 0, none⟩))] (by kernel_rfl) ?_
        refine XS.op rfl rfl (XO.loadS (i := 1) (v := .agg #[.int .i64 q0.x, .int .i64 q0.y, .int .i64 q0.z]) (g := true) (m := 3) s19 rfl rfl rfl (by decide) rfl (by kernel_rfl) (by kernel_rfl) rfl rfl rfl ?_)
        refine XS.op rfl rfl (XO.eqlP false (a := .agg #[.int .i64 z16.x, .int .i64 z16.y, .int .i64 z16.z]) (b := .agg #[.int .i64 q0.x, .int .i64 q0.y, .int .i64 q0.z]) (r' := decide (z16.x = q0.x ∧ z16.y = q0.y ∧ z16.z = q0.z)) (Eql.struct rfl (by kernel_rfl) (EqlF.cons rfl (a := .int .i64 z16.x) (b := .int .i64 q0.x) (by kernel_rfl) (by kernel_rfl) (Eql.int rfl) (EqlF.cons rfl (a := .int .i64 z16.y) (b := .int .i64 q0.y) (by kernel_rfl) (by kernel_rfl) (Eql.int rfl) (EqlF.cons rfl (a := .int .i64 z16.z) (b := .int .i64 q0.z) (by kernel_rfl) (by kernel_rfl) (Eql.int rfl) EqlF.nil)))) (by rw [Bool.eq_iff_iff]; simp [ng]) rfl rfl (by decide) rfl rfl (by kernel_rfl) (fun _ => by kernel_rfl) ?_)
        refine XS.done rfl (thn_norm ?_)
        refine XC.cond_d (z16.x = q0.x ∧ z16.y = q0.y ∧ z16.z = q0.z) rfl (fun hc20 => ?_) (fun hc20 => ?_)
        · skip
          refine XC.exit (inBlk_miss (by decide) (thn_exit (inBlk_hit (thn_norm ?_))))
          refine XC.region ?_
          refine XS.op rfl rfl (XO.arith (k := .i64) (r := (i : Int) + 1) rfl (by decide) (fun _ => by kernel_rfl) (wrap_i64 (by (have hm_ := h_l_.elim; obtain ⟨_, _, _, _, hm_⟩ := hm_; omega))) ?_)
          refine XS.vals' 1 [(22, .int .i64 ((i : Int) + 1))] (by kernel_rfl) ?_
          refine XS.done rfl (thn_norm ?_)
          refine ⟨l.length - (i + 1), ?_, ?_⟩
          · omega
          exact ⟨(i + 1), 0, q0, q1, q2, q3, ⟨rfl, rfl, rfl, (congrArg (Value.int .i64) (by first | rfl | omega : (0 : Int) = _)), rfl, rfl, (congrArg (Value.int .i64) (by first | rfl | omega : ((i : Int) + 1 : Int) = _)), trivial⟩, (s19.drop (.cons_cons _ (.cons_cons _ (.cons _ List.Sublist.slnil)))), (Evo.trans (ev14.trans (ev18.trans ev19)) (Evo.drop (.cons_cons _ (.cons_cons _ (.cons _ List.Sublist.slnil))))), (by omega), ((by omega)), ((by have hz_ := hall z16 (List.mem_of_getElem? hz16); exact ⟨by first | exact hq.1 | exact hz_, by first | exact hq.2.1 | exact hz_, by first | exact hq.2.2.1 | exact hz_, by first | exact hq.2.2.2 | exact hz_⟩)), ((by have hz_ := hall z16 (List.mem_of_getElem? hz16); exact (by have hb_ := bfold_snoc hz16 hI; have hh_ := hc20; rw [hb_]; simp only [bstep]; first | (rw [← Pt.eq_iff] at hh_; simp [hh_]; done) | (simp [hh_]; done) | (rw [cmp128_zero _ (det4_rng hq.1 hq.2.1 hq.2.2.1 hz_)] at hh_; simp [hh_]; done) | grind))), rfl⟩
        · skip
          refine XC.skip (inBlk_norm (thn_norm ?_))
          refine XC.seq ?_
          refine XC.region ?_
          refine XS.vals' 3 [(62, .int .i64 0), (63, .int .i64 1), (5, .int .i64 1)] (by kernel_rfl) ?_
          refine XS.done rfl (thn_norm ?_)
          refine XC.region ?_
          refine XS.vals' 1 [(64, .int .i64 1)] (by kernel_rfl) ?_
          refine XS.op rfl rfl (XO.loadS (i := 2) (v := .agg #[.int .i64 z16.x, .int .i64 z16.y, .int .i64 z16.z]) (g := true) (m := 3) s19 rfl rfl rfl (by decide) rfl (by kernel_rfl) (by kernel_rfl) rfl rfl rfl ?_)
          refine XS.vals' 1 [(66, .pointer (some ⟨b3, 3, none⟩))] (by kernel_rfl) ?_
          refine XS.op rfl rfl (XO.storeS (i := 1) (v := .agg #[.int .i64 z16.x, .int .i64 z16.y, .int .i64 z16.z]) (m := 3) (cs' := [.int .i64 q0.x, .int .i64 q0.y, .int .i64 q0.z, .int .i64 z16.x, .int .i64 z16.y, .int .i64 z16.z, .int .i64 q2.x, .int .i64 q2.y, .int .i64 q2.z, .int .i64 q3.x, .int .i64 q3.y, .int .i64 q3.z]) s19 rfl rfl rfl rfl rfl (by kernel_rfl) rfl rfl rfl rfl (fun w21 s21 ev21 kp21 => ?_))
          refine XS.done rfl (inBlk_norm (thn_norm ?_))
          refine XC.region ?_
          refine XS.op rfl rfl (XO.arith (k := .i64) (r := (i : Int) + 1) rfl (by decide) (fun _ => by kernel_rfl) (wrap_i64 (by (have hm_ := h_l_.elim; obtain ⟨_, _, _, _, hm_⟩ := hm_; omega))) ?_)
          refine XS.vals' 1 [(22, .int .i64 ((i : Int) + 1))] (by kernel_rfl) ?_
          refine XS.done rfl (thn_norm ?_)
          refine ⟨l.length - (i + 1), ?_, ?_⟩
          · omega
          exact ⟨(i + 1), 1, q0, z16, q2, q3, ⟨rfl, rfl, rfl, (congrArg (Value.int .i64) (by first | rfl | omega : (1 : Int) = _)), rfl, rfl, (congrArg (Value.int .i64) (by first | rfl | omega : ((i : Int) + 1 : Int) = _)), trivial⟩, (s21.drop (.cons_cons _ (.cons_cons _ (.cons _ List.Sublist.slnil)))), (Evo.trans (ev14.trans (ev18.trans (ev19.trans ev21))) (Evo.drop (.cons_cons _ (.cons_cons _ (.cons _ List.Sublist.slnil))))), (by omega), ((by omega)), ((by have hz_ := hall z16 (List.mem_of_getElem? hz16); exact ⟨by first | exact hq.1 | exact hz_, by first | exact hq.2.1 | exact hz_, by first | exact hq.2.2.1 | exact hz_, by first | exact hq.2.2.2 | exact hz_⟩)), ((by have hz_ := hall z16 (List.mem_of_getElem? hz16); exact (by have hb_ := bfold_snoc hz16 hI; have hh_ := hc20; rw [hb_]; simp only [bstep]; first | (rw [← Pt.eq_iff] at hh_; simp [hh_]; done) | (simp [hh_]; done) | (rw [cmp128_zero _ (det4_rng hq.1 hq.2.1 hq.2.2.1 hz_)] at hh_; simp [hh_]; done) | grind))), rfl⟩
      · skip
        refine XC.exit (thn_exit (thn_exit (inBlk_hit (thn_norm ?_))))
        refine XC.seq ?_
        refine XC.drawS 4 rfl (fun x => x = b1) 3 (by kernel_rfl) s14 (fun w22 s22 ev22 kp22 hH23 => ?_)
        refine XA.valD 0 68 (.int .i64 0) rfl (by kernel_rfl) (by kernel_rfl) (by kernel_rfl) rfl (by kernel_rfl) rfl hH23 (fun hH24 => ?_)
        refine XA.loadS true (j := 1) (i := 1) (v := .agg #[.int .i64 q0.x, .int .i64 q0.y, .int .i64 q0.z, .int .i64 q1.x, .int .i64 q1.y, .int .i64 q1.z, .int .i64 q2.x, .int .i64 q2.y, .int .i64 q2.z, .int .i64 q3.x, .int .i64 q3.y, .int .i64 q3.z]) (g := true) (m := 12) s22 rfl rfl (by kernel_rfl) (by kernel_rfl) (by kernel_rfl) rfl (by kernel_rfl) (fun h => by cases h) (by kernel_rfl) rfl rfl (by decide) hH24 rfl (by kernel_rfl) (by kernel_rfl) rfl rfl rfl (fun hH25 => ?_)
        refine XA.valD 2 2 (.int .i64 0) rfl (by kernel_rfl) (by kernel_rfl) (by kernel_rfl) rfl (by kernel_rfl) rfl hH25 (fun hH26 => ?_)
        refine XA.op (i := 3) rfl (by kernel_rfl) (by kernel_rfl) (XO.storeS (i := 0) (v := .agg #[.int .i64 q0.x, .int .i64 q0.y, .int .i64 q0.z, .int .i64 q1.x, .int .i64 q1.y, .int .i64 q1.z, .int .i64 q2.x, .int .i64 q2.y, .int .i64 q2.z, .int .i64 q3.x, .int .i64 q3.y, .int .i64 q3.z]) (m := 12) (cs' := [.int .i64 q0.x, .int .i64 q0.y, .int .i64 q0.z, .int .i64 q1.x, .int .i64 q1.y, .int .i64 q1.z, .int .i64 q2.x, .int .i64 q2.y, .int .i64 q2.z, .int .i64 q3.x, .int .i64 q3.y, .int .i64 q3.z]) s22 rfl rfl rfl rfl rfl (by kernel_rfl) rfl rfl rfl rfl (fun w27 s27 ev27 kp27 => ?_))
        have hH28 := hH26.turn (i := 3) kp27 (fun b_ _ e_ => by first | exact e_ | (subst e_; simp)) rfl
        refine ⟨hH28, ?_⟩
        refine XA.done (by kernel_rfl) (thn_norm ?_)
        refine XC.ret ?_
        refine ⟨Or.inr rfl, .tuple #[(.int .i64 0), (.agg #[.int .i64 q0.x, .int .i64 q0.y, .int .i64 q0.z, .int .i64 q1.x, .int .i64 q1.y, .int .i64 q1.z, .int .i64 q2.x, .int .i64 q2.y, .int .i64 q2.z, .int .i64 q3.x, .int .i64 q3.y, .int .i64 q3.z])], fun a_ ha_ => results_tc rfl (res_cell (b := b1) (cs := [.int .i64 q0.x, .int .i64 q0.y, .int .i64 q0.z, .int .i64 q1.x, .int .i64 q1.y, .int .i64 q1.z, .int .i64 q2.x, .int .i64 q2.y, .int .i64 q2.z, .int .i64 q3.x, .int .i64 q3.y, .int .i64 q3.z]) (g := true) (sz := 12) (v := .agg #[.int .i64 q0.x, .int .i64 q0.y, .int .i64 q0.z, .int .i64 q1.x, .int .i64 q1.y, .int .i64 q1.z, .int .i64 q2.x, .int .i64 q2.y, .int .i64 q2.z, .int .i64 q3.x, .int .i64 q3.y, .int .i64 q3.z]) ha_ rfl (s27.at_ (i := 0) rfl) (by kernel_rfl) (by kernel_rfl) rfl rfl rfl) ha_ rfl, s27.keep, ?_⟩
        have hb_ := baseOf_end (by omega) (by omega) hI
        rw [dimOf_eq (by omega) hb_, hb_]
        try rfl
    · skip
      refine XC.seq ?_
      refine XC.region ?_
      refine XS.vals' 1 [(23, .bool (decide ((i : Int) < (l.length : Int))))] (by kernel_rfl) ?_
      refine XS.done rfl (thn_norm ?_)
      refine XC.seq ?_
      refine XC.cond_d ((i : Int) < (l.length : Int)) rfl (fun hc29 => ?_) (fun hc29 => ?_)
      · skip
        refine XC.skip (thn_norm ?_)
        refine XC.seq ?_
        refine XC.block ?_
        refine XC.seq ?_
        refine XC.region ?_
        obtain ⟨z30, hz30⟩ := get_some (xs := l) (i := i) (by (have hm_ := h_l_.elim; obtain ⟨_, _, _, _, hm_⟩ := hm_; omega))
        refine XS.op rfl rfl (XO.elem (i := i) (z := z30) (e := 24) (sz := 3) (h_l_.mono (ev2.trans (ev4.trans (ev13.trans ev14)))) hz30 rfl rfl (by decide) rfl rfl (by omega) (by kernel_rfl) (by kernel_rfl) ?_)
        refine XS.op rfl rfl (XO.loadE (i := i) (f := 0) (sz := 3) (g := true) (z := z30) (h_l_.mono (ev2.trans (ev4.trans (ev13.trans ev14)))) hz30 rfl rfl (by decide) rfl (by first | rfl | omega) (by kernel_rfl) (by kernel_rfl) rfl rfl (fun cs_ hcs_ => ?_))
        obtain rfl := hcs_
        refine XS.op rfl rfl (XO.new (cs := [.int .i64 0, .int .i64 0, .int .i64 0]) (T := 24) s14 rfl (by decide) (fun _ => by kernel_rfl) (fun b31 w32 s32 ev32 kp32 ybb31 => ?_))
        refine XS.op rfl rfl (XO.storeS (i := 2) (v := .agg #[.int .i64 z30.x, .int .i64 z30.y, .int .i64 z30.z]) (m := 3) (cs' := [.int .i64 z30.x, .int .i64 z30.y, .int .i64 z30.z]) s32 rfl rfl rfl rfl rfl (by kernel_rfl) rfl rfl rfl rfl (fun w33 s33 ev33 kp33 => ?_))
        refine XS.done rfl (thn_norm ?_)
        refine XC.seq ?_
        refine XC.seq ?_
        refine XC.region ?_
        refine XS.vals' 1 [(26, .int .i64 1)] (by kernel_rfl) ?_
        refine XS.done rfl (thn_norm ?_)
        refine XC.block ?_
        refine XC.seq ?_
        refine XC.region ?_
        refine XS.vals' 2 [(30, .bool false), (29, .bool false)] (by kernel_rfl) ?_
        refine XS.done rfl (thn_norm ?_)
        refine XC.cond_f rfl ?_
        refine XC.seq ?_
        refine XC.region ?_
        refine XS.vals' 2 [(36, .bool true), (35, .bool true)] (by kernel_rfl) ?_
        refine XS.done rfl (thn_norm ?_)
        refine XC.cond_t rfl ?_
        refine XC.seq ?_
        refine XC.region ?_
        refine XS.vals' 1 [(38, .pointer (some ⟨b3, 0, none⟩))] (by kernel_rfl) ?_
        refine XS.op rfl rfl (XO.loadS (i := 1) (v := .agg #[.int .i64 q0.x, .int .i64 q0.y, .int .i64 q0.z]) (g := true) (m := 3) s33 rfl rfl rfl (by decide) rfl (by kernel_rfl) (by kernel_rfl) rfl rfl rfl ?_)
        refine XS.vals' 1 [(40, .pointer (some ⟨b3, 3, none⟩))] (by kernel_rfl) ?_
        refine XS.op rfl rfl (XO.loadS (i := 1) (v := .agg #[.int .i64 q1.x, .int .i64 q1.y, .int .i64 q1.z]) (g := true) (m := 3) s33 rfl rfl rfl (by decide) rfl (by kernel_rfl) (by kernel_rfl) rfl rfl rfl ?_)
        refine XS.op rfl rfl (XO.loadS (i := 2) (v := .agg #[.int .i64 z30.x, .int .i64 z30.y, .int .i64 z30.z]) (g := true) (m := 3) s33 rfl rfl rfl (by decide) rfl (by kernel_rfl) (by kernel_rfl) rfl rfl rfl ?_)
        refine XS.op rfl rfl (XO.callS (f := 29) (args := [(.agg #[.int .i64 q0.x, .int .i64 q0.y, .int .i64 q0.z]), (.agg #[.int .i64 q1.x, .int .i64 q1.y, .int .i64 q1.z]), (.agg #[.int .i64 z30.x, .int .i64 z30.y, .int .i64 z30.z])].toArray) s33 rfl (by decide) (fun _ => by kernel_rfl) (orient_Line_ok (av A _) _ s33.av_fresh q0 q1 z30 (by first | assumption | exact hq.1 | exact hq.2.1 | exact hq.2.2.1 | exact hq.2.2.2 | exact hall _ (List.mem_of_getElem? (by assumption))) (by first | assumption | exact hq.1 | exact hq.2.1 | exact hq.2.2.1 | exact hq.2.2.2 | exact hall _ (List.mem_of_getElem? (by assumption))) (by first | assumption | exact hq.1 | exact hq.2.1 | exact hq.2.2.1 | exact hq.2.2.2 | exact hall _ (List.mem_of_getElem? (by assumption)))) (fun _ w34 s34 ev34 kp34 hv_ => ?_))
        obtain rfl := hv_
        refine XS.vals' 5 [(37, .tuple #[.bool (decide (lineOn q0 q1 z30)), .bool (decide (True))]), (44, .bool (decide (lineOn q0 q1 z30))), (45, .bool (decide (True))), (8, .bool (decide (lineOn q0 q1 z30))), (9, .bool (decide (True)))] (by kernel_rfl) ?_
        refine XS.done rfl (thn_norm ?_)
        refine XC.seq ?_
        refine XC.region ?_
        refine XS.vals' 1 [(46, .bool (decide (lineOn q0 q1 z30)))] (by kernel_rfl) ?_
        refine XS.done rfl (thn_norm ?_)
        refine XC.cond_d (lineOn q0 q1 z30) rfl (fun hc35 => ?_) (fun hc35 => ?_)
        · skip
          refine XC.exit (inBlk_miss (by decide) (thn_exit (inBlk_hit (thn_norm ?_))))
          refine XC.region ?_
          refine XS.op rfl rfl (XO.arith (k := .i64) (r := (i : Int) + 1) rfl (by decide) (fun _ => by kernel_rfl) (wrap_i64 (by (have hm_ := h_l_.elim; obtain ⟨_, _, _, _, hm_⟩ := hm_; omega))) ?_)
          refine XS.vals' 1 [(22, .int .i64 ((i : Int) + 1))] (by kernel_rfl) ?_
          refine XS.done rfl (thn_norm ?_)
          refine ⟨l.length - (i + 1), ?_, ?_⟩
          · omega
          exact ⟨(i + 1), 1, q0, q1, q2, q3, ⟨rfl, rfl, rfl, (congrArg (Value.int .i64) (by first | rfl | omega : (1 : Int) = _)), rfl, rfl, (congrArg (Value.int .i64) (by first | rfl | omega : ((i : Int) + 1 : Int) = _)), trivial⟩, (s34.drop (.cons_cons _ (.cons_cons _ (.cons _ List.Sublist.slnil)))), (Evo.trans (ev14.trans (ev32.trans (ev33.trans ev34))) (Evo.drop (.cons_cons _ (.cons_cons _ (.cons _ List.Sublist.slnil))))), (by omega), ((by omega)), ((by have hz_ := hall z30 (List.mem_of_getElem? hz30); exact ⟨by first | exact hq.1 | exact hz_, by first | exact hq.2.1 | exact hz_, by first | exact hq.2.2.1 | exact hz_, by first | exact hq.2.2.2 | exact hz_⟩)), ((by have hz_ := hall z30 (List.mem_of_getElem? hz30); exact (by have hb_ := bfold_snoc hz30 hI; have hh_ := hc35; rw [hb_]; simp only [bstep]; first | (rw [← Pt.eq_iff] at hh_; simp [hh_]; done) | (simp [hh_]; done) | (rw [cmp128_zero _ (det4_rng hq.1 hq.2.1 hq.2.2.1 hz_)] at hh_; simp [hh_]; done) | grind))), rfl⟩
        · skip
          refine XC.skip (inBlk_norm (thn_norm ?_))
          refine XC.seq ?_
          refine XC.region ?_
          refine XS.vals' 3 [(62, .int .i64 1), (63, .int .i64 2), (5, .int .i64 2)] (by kernel_rfl) ?_
          refine XS.done rfl (thn_norm ?_)
          refine XC.region ?_
          refine XS.vals' 1 [(64, .int .i64 2)] (by kernel_rfl) ?_
          refine XS.op rfl rfl (XO.loadS (i := 2) (v := .agg #[.int .i64 z30.x, .int .i64 z30.y, .int .i64 z30.z]) (g := true) (m := 3) s34 rfl rfl rfl (by decide) rfl (by kernel_rfl) (by kernel_rfl) rfl rfl rfl ?_)
          refine XS.vals' 1 [(66, .pointer (some ⟨b3, 6, none⟩))] (by kernel_rfl) ?_
          refine XS.op rfl rfl (XO.storeS (i := 1) (v := .agg #[.int .i64 z30.x, .int .i64 z30.y, .int .i64 z30.z]) (m := 3) (cs' := [.int .i64 q0.x, .int .i64 q0.y, .int .i64 q0.z, .int .i64 q1.x, .int .i64 q1.y, .int .i64 q1.z, .int .i64 z30.x, .int .i64 z30.y, .int .i64 z30.z, .int .i64 q3.x, .int .i64 q3.y, .int .i64 q3.z]) s34 rfl rfl rfl rfl rfl (by kernel_rfl) rfl rfl rfl rfl (fun w36 s36 ev36 kp36 => ?_))
          refine XS.done rfl (inBlk_norm (thn_norm ?_))
          refine XC.region ?_
          refine XS.op rfl rfl (XO.arith (k := .i64) (r := (i : Int) + 1) rfl (by decide) (fun _ => by kernel_rfl) (wrap_i64 (by (have hm_ := h_l_.elim; obtain ⟨_, _, _, _, hm_⟩ := hm_; omega))) ?_)
          refine XS.vals' 1 [(22, .int .i64 ((i : Int) + 1))] (by kernel_rfl) ?_
          refine XS.done rfl (thn_norm ?_)
          refine ⟨l.length - (i + 1), ?_, ?_⟩
          · omega
          exact ⟨(i + 1), 2, q0, q1, z30, q3, ⟨rfl, rfl, rfl, (congrArg (Value.int .i64) (by first | rfl | omega : (2 : Int) = _)), rfl, rfl, (congrArg (Value.int .i64) (by first | rfl | omega : ((i : Int) + 1 : Int) = _)), trivial⟩, (s36.drop (.cons_cons _ (.cons_cons _ (.cons _ List.Sublist.slnil)))), (Evo.trans (ev14.trans (ev32.trans (ev33.trans (ev34.trans ev36)))) (Evo.drop (.cons_cons _ (.cons_cons _ (.cons _ List.Sublist.slnil))))), (by omega), ((by omega)), ((by have hz_ := hall z30 (List.mem_of_getElem? hz30); exact ⟨by first | exact hq.1 | exact hz_, by first | exact hq.2.1 | exact hz_, by first | exact hq.2.2.1 | exact hz_, by first | exact hq.2.2.2 | exact hz_⟩)), ((by have hz_ := hall z30 (List.mem_of_getElem? hz30); exact (by have hb_ := bfold_snoc hz30 hI; have hh_ := hc35; rw [hb_]; simp only [bstep]; first | (rw [← Pt.eq_iff] at hh_; simp [hh_]; done) | (simp [hh_]; done) | (rw [cmp128_zero _ (det4_rng hq.1 hq.2.1 hq.2.2.1 hz_)] at hh_; simp [hh_]; done) | grind))), rfl⟩
      · skip
        refine XC.exit (thn_exit (thn_exit (inBlk_hit (thn_norm ?_))))
        refine XC.seq ?_
        refine XC.drawS 4 rfl (fun x => x = b1) 3 (by kernel_rfl) s14 (fun w37 s37 ev37 kp37 hH38 => ?_)
        refine XA.valD 0 68 (.int .i64 1) rfl (by kernel_rfl) (by kernel_rfl) (by kernel_rfl) rfl (by kernel_rfl) rfl hH38 (fun hH39 => ?_)
        refine XA.loadS true (j := 1) (i := 1) (v := .agg #[.int .i64 q0.x, .int .i64 q0.y, .int .i64 q0.z, .int .i64 q1.x, .int .i64 q1.y, .int .i64 q1.z, .int .i64 q2.x, .int .i64 q2.y, .int .i64 q2.z, .int .i64 q3.x, .int .i64 q3.y, .int .i64 q3.z]) (g := true) (m := 12) s37 rfl rfl (by kernel_rfl) (by kernel_rfl) (by kernel_rfl) rfl (by kernel_rfl) (fun h => by cases h) (by kernel_rfl) rfl rfl (by decide) hH39 rfl (by kernel_rfl) (by kernel_rfl) rfl rfl rfl (fun hH40 => ?_)
        refine XA.valD 2 2 (.int .i64 1) rfl (by kernel_rfl) (by kernel_rfl) (by kernel_rfl) rfl (by kernel_rfl) rfl hH40 (fun hH41 => ?_)
        refine XA.op (i := 3) rfl (by kernel_rfl) (by kernel_rfl) (XO.storeS (i := 0) (v := .agg #[.int .i64 q0.x, .int .i64 q0.y, .int .i64 q0.z, .int .i64 q1.x, .int .i64 q1.y, .int .i64 q1.z, .int .i64 q2.x, .int .i64 q2.y, .int .i64 q2.z, .int .i64 q3.x, .int .i64 q3.y, .int .i64 q3.z]) (m := 12) (cs' := [.int .i64 q0.x, .int .i64 q0.y, .int .i64 q0.z, .int .i64 q1.x, .int .i64 q1.y, .int .i64 q1.z, .int .i64 q2.x, .int .i64 q2.y, .int .i64 q2.z, .int .i64 q3.x, .int .i64 q3.y, .int .i64 q3.z]) s37 rfl rfl rfl rfl rfl (by kernel_rfl) rfl rfl rfl rfl (fun w42 s42 ev42 kp42 => ?_))
        have hH43 := hH41.turn (i := 3) kp42 (fun b_ _ e_ => by first | exact e_ | (subst e_; simp)) rfl
        refine ⟨hH43, ?_⟩
        refine XA.done (by kernel_rfl) (thn_norm ?_)
        refine XC.ret ?_
        refine ⟨Or.inr rfl, .tuple #[(.int .i64 1), (.agg #[.int .i64 q0.x, .int .i64 q0.y, .int .i64 q0.z, .int .i64 q1.x, .int .i64 q1.y, .int .i64 q1.z, .int .i64 q2.x, .int .i64 q2.y, .int .i64 q2.z, .int .i64 q3.x, .int .i64 q3.y, .int .i64 q3.z])], fun a_ ha_ => results_tc rfl (res_cell (b := b1) (cs := [.int .i64 q0.x, .int .i64 q0.y, .int .i64 q0.z, .int .i64 q1.x, .int .i64 q1.y, .int .i64 q1.z, .int .i64 q2.x, .int .i64 q2.y, .int .i64 q2.z, .int .i64 q3.x, .int .i64 q3.y, .int .i64 q3.z]) (g := true) (sz := 12) (v := .agg #[.int .i64 q0.x, .int .i64 q0.y, .int .i64 q0.z, .int .i64 q1.x, .int .i64 q1.y, .int .i64 q1.z, .int .i64 q2.x, .int .i64 q2.y, .int .i64 q2.z, .int .i64 q3.x, .int .i64 q3.y, .int .i64 q3.z]) ha_ rfl (s42.at_ (i := 0) rfl) (by kernel_rfl) (by kernel_rfl) rfl rfl rfl) ha_ rfl, s42.keep, ?_⟩
        have hb_ := baseOf_end (by omega) (by omega) hI
        rw [dimOf_eq (by omega) hb_, hb_]
        try rfl
    · skip
      refine XC.seq ?_
      refine XC.region ?_
      refine XS.vals' 1 [(23, .bool (decide ((i : Int) < (l.length : Int))))] (by kernel_rfl) ?_
      refine XS.done rfl (thn_norm ?_)
      refine XC.seq ?_
      refine XC.cond_d ((i : Int) < (l.length : Int)) rfl (fun hc44 => ?_) (fun hc44 => ?_)
      · skip
        refine XC.skip (thn_norm ?_)
        refine XC.seq ?_
        refine XC.block ?_
        refine XC.seq ?_
        refine XC.region ?_
        obtain ⟨z45, hz45⟩ := get_some (xs := l) (i := i) (by (have hm_ := h_l_.elim; obtain ⟨_, _, _, _, hm_⟩ := hm_; omega))
        refine XS.op rfl rfl (XO.elem (i := i) (z := z45) (e := 24) (sz := 3) (h_l_.mono (ev2.trans (ev4.trans (ev13.trans ev14)))) hz45 rfl rfl (by decide) rfl rfl (by omega) (by kernel_rfl) (by kernel_rfl) ?_)
        refine XS.op rfl rfl (XO.loadE (i := i) (f := 0) (sz := 3) (g := true) (z := z45) (h_l_.mono (ev2.trans (ev4.trans (ev13.trans ev14)))) hz45 rfl rfl (by decide) rfl (by first | rfl | omega) (by kernel_rfl) (by kernel_rfl) rfl rfl (fun cs_ hcs_ => ?_))
        obtain rfl := hcs_
        refine XS.op rfl rfl (XO.new (cs := [.int .i64 0, .int .i64 0, .int .i64 0]) (T := 24) s14 rfl (by decide) (fun _ => by kernel_rfl) (fun b46 w47 s47 ev47 kp47 ybb46 => ?_))
        refine XS.op rfl rfl (XO.storeS (i := 2) (v := .agg #[.int .i64 z45.x, .int .i64 z45.y, .int .i64 z45.z]) (m := 3) (cs' := [.int .i64 z45.x, .int .i64 z45.y, .int .i64 z45.z]) s47 rfl rfl rfl rfl rfl (by kernel_rfl) rfl rfl rfl rfl (fun w48 s48 ev48 kp48 => ?_))
        refine XS.done rfl (thn_norm ?_)
        refine XC.seq ?_
        refine XC.seq ?_
        refine XC.region ?_
        refine XS.vals' 1 [(26, .int .i64 2)] (by kernel_rfl) ?_
        refine XS.done rfl (thn_norm ?_)
        refine XC.block ?_
        refine XC.seq ?_
        refine XC.region ?_
        refine XS.vals' 2 [(30, .bool false), (29, .bool false)] (by kernel_rfl) ?_
        refine XS.done rfl (thn_norm ?_)
        refine XC.cond_f rfl ?_
        refine XC.seq ?_
        refine XC.region ?_
        refine XS.vals' 2 [(36, .bool false), (35, .bool false)] (by kernel_rfl) ?_
        refine XS.done rfl (thn_norm ?_)
        refine XC.cond_f rfl ?_
        refine XC.seq ?_
        refine XC.region ?_
        refine XS.vals' 2 [(48, .bool true), (47, .bool true)] (by kernel_rfl) ?_
        refine XS.done rfl (thn_norm ?_)
        refine XC.cond_t rfl ?_
        refine XC.seq ?_
        refine XC.region ?_
        refine XS.vals' 1 [(50, .pointer (some ⟨b3, 0, none⟩))] (by kernel_rfl) ?_
        refine XS.op rfl rfl (XO.loadS (i := 1) (v := .agg #[.int .i64 q0.x, .int .i64 q0.y, .int .i64 q0.z]) (g := true) (m := 3) s48 rfl rfl rfl (by decide) rfl (by kernel_rfl) (by kernel_rfl) rfl rfl rfl ?_)
        refine XS.vals' 1 [(52, .pointer (some ⟨b3, 3, none⟩))] (by kernel_rfl) ?_
        refine XS.op rfl rfl (XO.loadS (i := 1) (v := .agg #[.int .i64 q1.x, .int .i64 q1.y, .int .i64 q1.z]) (g := true) (m := 3) s48 rfl rfl rfl (by decide) rfl (by kernel_rfl) (by kernel_rfl) rfl rfl rfl ?_)
        refine XS.vals' 1 [(54, .pointer (some ⟨b3, 6, none⟩))] (by kernel_rfl) ?_
        refine XS.op rfl rfl (XO.loadS (i := 1) (v := .agg #[.int .i64 q2.x, .int .i64 q2.y, .int .i64 q2.z]) (g := true) (m := 3) s48 rfl rfl rfl (by decide) rfl (by kernel_rfl) (by kernel_rfl) rfl rfl rfl ?_)
        refine XS.op rfl rfl (XO.loadS (i := 2) (v := .agg #[.int .i64 z45.x, .int .i64 z45.y, .int .i64 z45.z]) (g := true) (m := 3) s48 rfl rfl rfl (by decide) rfl (by kernel_rfl) (by kernel_rfl) rfl rfl rfl ?_)
        refine XS.op rfl rfl (XO.callS (f := 30) (args := [(.agg #[.int .i64 q0.x, .int .i64 q0.y, .int .i64 q0.z]), (.agg #[.int .i64 q1.x, .int .i64 q1.y, .int .i64 q1.z]), (.agg #[.int .i64 q2.x, .int .i64 q2.y, .int .i64 q2.z]), (.agg #[.int .i64 z45.x, .int .i64 z45.y, .int .i64 z45.z])].toArray) s48 rfl (by decide) (fun _ => by kernel_rfl) (orient_Exact_ok (av A _) _ s48.av_fresh q0 q1 q2 z45 (by first | assumption | exact hq.1 | exact hq.2.1 | exact hq.2.2.1 | exact hq.2.2.2 | exact hall _ (List.mem_of_getElem? (by assumption))) (by first | assumption | exact hq.1 | exact hq.2.1 | exact hq.2.2.1 | exact hq.2.2.2 | exact hall _ (List.mem_of_getElem? (by assumption))) (by first | assumption | exact hq.1 | exact hq.2.1 | exact hq.2.2.1 | exact hq.2.2.2 | exact hall _ (List.mem_of_getElem? (by assumption))) (by first | assumption | exact hq.1 | exact hq.2.1 | exact hq.2.2.1 | exact hq.2.2.2 | exact hall _ (List.mem_of_getElem? (by assumption)))) (fun _ w49 s49 ev49 kp49 hv_ => ?_))
        obtain rfl := hv_
        refine XS.vals' 5 [(49, .tuple #[.int .i64 (cmp128 (det4 q0 q1 q2 z45) 0), .bool (decide (True))]), (58, .int .i64 (cmp128 (det4 q0 q1 q2 z45) 0)), (59, .bool (decide (True))), (10, .int .i64 (cmp128 (det4 q0 q1 q2 z45) 0)), (11, .bool (decide (True)))] (by kernel_rfl) ?_
        refine XS.done rfl (thn_norm ?_)
        refine XC.seq ?_
        refine XC.region ?_
        refine XS.vals' 2 [(60, .int .i64 (cmp128 (det4 q0 q1 q2 z45) 0)), (61, .bool (decide ((cmp128 (det4 q0 q1 q2 z45) 0) = 0)))] (by kernel_rfl) ?_
        refine XS.done rfl (thn_norm ?_)
        refine XC.cond_d ((cmp128 (det4 q0 q1 q2 z45) 0) = 0) rfl (fun hc50 => ?_) (fun hc50 => ?_)
        · skip
          refine XC.exit (inBlk_miss (by decide) (thn_exit (inBlk_hit (thn_norm ?_))))
          refine XC.region ?_
          refine XS.op rfl rfl (XO.arith (k := .i64) (r := (i : Int) + 1) rfl (by decide) (fun _ => by kernel_rfl) (wrap_i64 (by (have hm_ := h_l_.elim; obtain ⟨_, _, _, _, hm_⟩ := hm_; omega))) ?_)
          refine XS.vals' 1 [(22, .int .i64 ((i : Int) + 1))] (by kernel_rfl) ?_
          refine XS.done rfl (thn_norm ?_)
          refine ⟨l.length - (i + 1), ?_, ?_⟩
          · omega
          exact ⟨(i + 1), 2, q0, q1, q2, q3, ⟨rfl, rfl, rfl, (congrArg (Value.int .i64) (by first | rfl | omega : (2 : Int) = _)), rfl, rfl, (congrArg (Value.int .i64) (by first | rfl | omega : ((i : Int) + 1 : Int) = _)), trivial⟩, (s49.drop (.cons_cons _ (.cons_cons _ (.cons _ List.Sublist.slnil)))), (Evo.trans (ev14.trans (ev47.trans (ev48.trans ev49))) (Evo.drop (.cons_cons _ (.cons_cons _ (.cons _ List.Sublist.slnil))))), (by omega), ((by omega)), ((by have hz_ := hall z45 (List.mem_of_getElem? hz45); exact ⟨by first | exact hq.1 | exact hz_, by first | exact hq.2.1 | exact hz_, by first | exact hq.2.2.1 | exact hz_, by first | exact hq.2.2.2 | exact hz_⟩)), ((by have hz_ := hall z45 (List.mem_of_getElem? hz45); exact (by have hb_ := bfold_snoc hz45 hI; have hh_ := hc50; rw [hb_]; simp only [bstep]; first | (rw [← Pt.eq_iff] at hh_; simp [hh_]; done) | (simp [hh_]; done) | (rw [cmp128_zero _ (det4_rng hq.1 hq.2.1 hq.2.2.1 hz_)] at hh_; simp [hh_]; done) | grind))), rfl⟩
        · skip
          refine XC.skip (inBlk_norm (thn_norm ?_))
          refine XC.seq ?_
          refine XC.region ?_
          refine XS.vals' 3 [(62, .int .i64 2), (63, .int .i64 3), (5, .int .i64 3)] (by kernel_rfl) ?_
          refine XS.done rfl (thn_norm ?_)
          refine XC.region ?_
          refine XS.vals' 1 [(64, .int .i64 3)] (by kernel_rfl) ?_
          refine XS.op rfl rfl (XO.loadS (i := 2) (v := .agg #[.int .i64 z45.x, .int .i64 z45.y, .int .i64 z45.z]) (g := true) (m := 3) s49 rfl rfl rfl (by decide) rfl (by kernel_rfl) (by kernel_rfl) rfl rfl rfl ?_)
          refine XS.vals' 1 [(66, .pointer (some ⟨b3, 9, none⟩))] (by kernel_rfl) ?_
          refine XS.op rfl rfl (XO.storeS (i := 1) (v := .agg #[.int .i64 z45.x, .int .i64 z45.y, .int .i64 z45.z]) (m := 3) (cs' := [.int .i64 q0.x, .int .i64 q0.y, .int .i64 q0.z, .int .i64 q1.x, .int .i64 q1.y, .int .i64 q1.z, .int .i64 q2.x, .int .i64 q2.y, .int .i64 q2.z, .int .i64 z45.x, .int .i64 z45.y, .int .i64 z45.z]) s49 rfl rfl rfl rfl rfl (by kernel_rfl) rfl rfl rfl rfl (fun w51 s51 ev51 kp51 => ?_))
          refine XS.done rfl (inBlk_norm (thn_norm ?_))
          refine XC.region ?_
          refine XS.op rfl rfl (XO.arith (k := .i64) (r := (i : Int) + 1) rfl (by decide) (fun _ => by kernel_rfl) (wrap_i64 (by (have hm_ := h_l_.elim; obtain ⟨_, _, _, _, hm_⟩ := hm_; omega))) ?_)
          refine XS.vals' 1 [(22, .int .i64 ((i : Int) + 1))] (by kernel_rfl) ?_
          refine XS.done rfl (thn_norm ?_)
          refine ⟨l.length - (i + 1), ?_, ?_⟩
          · omega
          exact ⟨(i + 1), 3, q0, q1, q2, z45, ⟨rfl, rfl, rfl, (congrArg (Value.int .i64) (by first | rfl | omega : (3 : Int) = _)), rfl, rfl, (congrArg (Value.int .i64) (by first | rfl | omega : ((i : Int) + 1 : Int) = _)), trivial⟩, (s51.drop (.cons_cons _ (.cons_cons _ (.cons _ List.Sublist.slnil)))), (Evo.trans (ev14.trans (ev47.trans (ev48.trans (ev49.trans ev51)))) (Evo.drop (.cons_cons _ (.cons_cons _ (.cons _ List.Sublist.slnil))))), (by omega), ((by omega)), ((by have hz_ := hall z45 (List.mem_of_getElem? hz45); exact ⟨by first | exact hq.1 | exact hz_, by first | exact hq.2.1 | exact hz_, by first | exact hq.2.2.1 | exact hz_, by first | exact hq.2.2.2 | exact hz_⟩)), ((by have hz_ := hall z45 (List.mem_of_getElem? hz45); exact (by have hb_ := bfold_snoc hz45 hI; have hh_ := hc50; rw [hb_]; simp only [bstep]; first | (rw [← Pt.eq_iff] at hh_; simp [hh_]; done) | (simp [hh_]; done) | (rw [cmp128_zero _ (det4_rng hq.1 hq.2.1 hq.2.2.1 hz_)] at hh_; simp [hh_]; done) | grind))), rfl⟩
      · skip
        refine XC.exit (thn_exit (thn_exit (inBlk_hit (thn_norm ?_))))
        refine XC.seq ?_
        refine XC.drawS 4 rfl (fun x => x = b1) 3 (by kernel_rfl) s14 (fun w52 s52 ev52 kp52 hH53 => ?_)
        refine XA.valD 0 68 (.int .i64 2) rfl (by kernel_rfl) (by kernel_rfl) (by kernel_rfl) rfl (by kernel_rfl) rfl hH53 (fun hH54 => ?_)
        refine XA.loadS true (j := 1) (i := 1) (v := .agg #[.int .i64 q0.x, .int .i64 q0.y, .int .i64 q0.z, .int .i64 q1.x, .int .i64 q1.y, .int .i64 q1.z, .int .i64 q2.x, .int .i64 q2.y, .int .i64 q2.z, .int .i64 q3.x, .int .i64 q3.y, .int .i64 q3.z]) (g := true) (m := 12) s52 rfl rfl (by kernel_rfl) (by kernel_rfl) (by kernel_rfl) rfl (by kernel_rfl) (fun h => by cases h) (by kernel_rfl) rfl rfl (by decide) hH54 rfl (by kernel_rfl) (by kernel_rfl) rfl rfl rfl (fun hH55 => ?_)
        refine XA.valD 2 2 (.int .i64 2) rfl (by kernel_rfl) (by kernel_rfl) (by kernel_rfl) rfl (by kernel_rfl) rfl hH55 (fun hH56 => ?_)
        refine XA.op (i := 3) rfl (by kernel_rfl) (by kernel_rfl) (XO.storeS (i := 0) (v := .agg #[.int .i64 q0.x, .int .i64 q0.y, .int .i64 q0.z, .int .i64 q1.x, .int .i64 q1.y, .int .i64 q1.z, .int .i64 q2.x, .int .i64 q2.y, .int .i64 q2.z, .int .i64 q3.x, .int .i64 q3.y, .int .i64 q3.z]) (m := 12) (cs' := [.int .i64 q0.x, .int .i64 q0.y, .int .i64 q0.z, .int .i64 q1.x, .int .i64 q1.y, .int .i64 q1.z, .int .i64 q2.x, .int .i64 q2.y, .int .i64 q2.z, .int .i64 q3.x, .int .i64 q3.y, .int .i64 q3.z]) s52 rfl rfl rfl rfl rfl (by kernel_rfl) rfl rfl rfl rfl (fun w57 s57 ev57 kp57 => ?_))
        have hH58 := hH56.turn (i := 3) kp57 (fun b_ _ e_ => by first | exact e_ | (subst e_; simp)) rfl
        refine ⟨hH58, ?_⟩
        refine XA.done (by kernel_rfl) (thn_norm ?_)
        refine XC.ret ?_
        refine ⟨Or.inr rfl, .tuple #[(.int .i64 2), (.agg #[.int .i64 q0.x, .int .i64 q0.y, .int .i64 q0.z, .int .i64 q1.x, .int .i64 q1.y, .int .i64 q1.z, .int .i64 q2.x, .int .i64 q2.y, .int .i64 q2.z, .int .i64 q3.x, .int .i64 q3.y, .int .i64 q3.z])], fun a_ ha_ => results_tc rfl (res_cell (b := b1) (cs := [.int .i64 q0.x, .int .i64 q0.y, .int .i64 q0.z, .int .i64 q1.x, .int .i64 q1.y, .int .i64 q1.z, .int .i64 q2.x, .int .i64 q2.y, .int .i64 q2.z, .int .i64 q3.x, .int .i64 q3.y, .int .i64 q3.z]) (g := true) (sz := 12) (v := .agg #[.int .i64 q0.x, .int .i64 q0.y, .int .i64 q0.z, .int .i64 q1.x, .int .i64 q1.y, .int .i64 q1.z, .int .i64 q2.x, .int .i64 q2.y, .int .i64 q2.z, .int .i64 q3.x, .int .i64 q3.y, .int .i64 q3.z]) ha_ rfl (s57.at_ (i := 0) rfl) (by kernel_rfl) (by kernel_rfl) rfl rfl rfl) ha_ rfl, s57.keep, ?_⟩
        have hb_ := baseOf_end (by omega) (by omega) hI
        rw [dimOf_eq (by omega) hb_, hb_]
        try rfl
    · skip
      refine XC.seq ?_
      refine XC.region ?_
      refine XS.vals' 1 [(23, .bool (decide ((i : Int) < (l.length : Int))))] (by kernel_rfl) ?_
      refine XS.done rfl (thn_norm ?_)
      refine XC.seq ?_
      refine XC.cond_d ((i : Int) < (l.length : Int)) rfl (fun hc59 => ?_) (fun hc59 => ?_)
      · skip
        refine XC.skip (thn_norm ?_)
        refine XC.seq ?_
        refine XC.block ?_
        refine XC.seq ?_
        refine XC.region ?_
        obtain ⟨z60, hz60⟩ := get_some (xs := l) (i := i) (by (have hm_ := h_l_.elim; obtain ⟨_, _, _, _, hm_⟩ := hm_; omega))
        refine XS.op rfl rfl (XO.elem (i := i) (z := z60) (e := 24) (sz := 3) (h_l_.mono (ev2.trans (ev4.trans (ev13.trans ev14)))) hz60 rfl rfl (by decide) rfl rfl (by omega) (by kernel_rfl) (by kernel_rfl) ?_)
        refine XS.op rfl rfl (XO.loadE (i := i) (f := 0) (sz := 3) (g := true) (z := z60) (h_l_.mono (ev2.trans (ev4.trans (ev13.trans ev14)))) hz60 rfl rfl (by decide) rfl (by first | rfl | omega) (by kernel_rfl) (by kernel_rfl) rfl rfl (fun cs_ hcs_ => ?_))
        obtain rfl := hcs_
        refine XS.op rfl rfl (XO.new (cs := [.int .i64 0, .int .i64 0, .int .i64 0]) (T := 24) s14 rfl (by decide) (fun _ => by kernel_rfl) (fun b61 w62 s62 ev62 kp62 ybb61 => ?_))
        refine XS.op rfl rfl (XO.storeS (i := 2) (v := .agg #[.int .i64 z60.x, .int .i64 z60.y, .int .i64 z60.z]) (m := 3) (cs' := [.int .i64 z60.x, .int .i64 z60.y, .int .i64 z60.z]) s62 rfl rfl rfl rfl rfl (by kernel_rfl) rfl rfl rfl rfl (fun w63 s63 ev63 kp63 => ?_))
        refine XS.done rfl (thn_norm ?_)
        refine XC.seq ?_
        refine XC.seq ?_
        refine XC.region ?_
        refine XS.vals' 1 [(26, .int .i64 3)] (by kernel_rfl) ?_
        refine XS.done rfl (thn_norm ?_)
        refine XC.block ?_
        refine XC.seq ?_
        refine XC.region ?_
        refine XS.vals' 2 [(30, .bool false), (29, .bool false)] (by kernel_rfl) ?_
        refine XS.done rfl (thn_norm ?_)
        refine XC.cond_f rfl ?_
        refine XC.seq ?_
        refine XC.region ?_
        refine XS.vals' 2 [(36, .bool false), (35, .bool false)] (by kernel_rfl) ?_
        refine XS.done rfl (thn_norm ?_)
        refine XC.cond_f rfl ?_
        refine XC.seq ?_
        refine XC.region ?_
        refine XS.vals' 2 [(48, .bool false), (47, .bool false)] (by kernel_rfl) ?_
        refine XS.done rfl (thn_norm ?_)
        refine XC.cond_f rfl ?_
        refine XC.seq ?_
        refine XC.drawS 4 rfl (fun x => x = b1) 3 (by kernel_rfl) s63 (fun w64 s64 ev64 kp64 hH65 => ?_)
        refine XA.valD 0 27 (.int .i64 3) rfl (by kernel_rfl) (by kernel_rfl) (by kernel_rfl) rfl (by kernel_rfl) rfl hH65 (fun hH66 => ?_)
        refine XA.loadS true (j := 1) (i := 1) (v := .agg #[.int .i64 q0.x, .int .i64 q0.y, .int .i64 q0.z, .int .i64 q1.x, .int .i64 q1.y, .int .i64 q1.z, .int .i64 q2.x, .int .i64 q2.y, .int .i64 q2.z, .int .i64 q3.x, .int .i64 q3.y, .int .i64 q3.z]) (g := true) (m := 12) s64 rfl rfl (by kernel_rfl) (by kernel_rfl) (by kernel_rfl) rfl (by kernel_rfl) (fun h => by cases h) (by kernel_rfl) rfl rfl (by decide) hH66 rfl (by kernel_rfl) (by kernel_rfl) rfl rfl rfl (fun hH67 => ?_)
        refine XA.valD 2 2 (.int .i64 3) rfl (by kernel_rfl) (by kernel_rfl) (by kernel_rfl) rfl (by kernel_rfl) rfl hH67 (fun hH68 => ?_)
        refine XA.op (i := 3) rfl (by kernel_rfl) (by kernel_rfl) (XO.storeS (i := 0) (v := .agg #[.int .i64 q0.x, .int .i64 q0.y, .int .i64 q0.z, .int .i64 q1.x, .int .i64 q1.y, .int .i64 q1.z, .int .i64 q2.x, .int .i64 q2.y, .int .i64 q2.z, .int .i64 q3.x, .int .i64 q3.y, .int .i64 q3.z]) (m := 12) (cs' := [.int .i64 q0.x, .int .i64 q0.y, .int .i64 q0.z, .int .i64 q1.x, .int .i64 q1.y, .int .i64 q1.z, .int .i64 q2.x, .int .i64 q2.y, .int .i64 q2.z, .int .i64 q3.x, .int .i64 q3.y, .int .i64 q3.z]) s64 rfl rfl rfl rfl rfl (by kernel_rfl) rfl rfl rfl rfl (fun w69 s69 ev69 kp69 => ?_))
        have hH70 := hH68.turn (i := 3) kp69 (fun b_ _ e_ => by first | exact e_ | (subst e_; simp)) rfl
        refine ⟨hH70, ?_⟩
        refine XA.done (by kernel_rfl) (thn_norm ?_)
        refine XC.ret (inBlk_ret (thn_ret (inBlk_ret (thn_ret (thn_ret (inBlk_ret (thn_ret ?_)))))))
        refine ⟨Or.inr rfl, .tuple #[(.int .i64 3), (.agg #[.int .i64 q0.x, .int .i64 q0.y, .int .i64 q0.z, .int .i64 q1.x, .int .i64 q1.y, .int .i64 q1.z, .int .i64 q2.x, .int .i64 q2.y, .int .i64 q2.z, .int .i64 q3.x, .int .i64 q3.y, .int .i64 q3.z])], fun a_ ha_ => results_tc rfl (res_cell (b := b1) (cs := [.int .i64 q0.x, .int .i64 q0.y, .int .i64 q0.z, .int .i64 q1.x, .int .i64 q1.y, .int .i64 q1.z, .int .i64 q2.x, .int .i64 q2.y, .int .i64 q2.z, .int .i64 q3.x, .int .i64 q3.y, .int .i64 q3.z]) (g := true) (sz := 12) (v := .agg #[.int .i64 q0.x, .int .i64 q0.y, .int .i64 q0.z, .int .i64 q1.x, .int .i64 q1.y, .int .i64 q1.z, .int .i64 q2.x, .int .i64 q2.y, .int .i64 q2.z, .int .i64 q3.x, .int .i64 q3.y, .int .i64 q3.z]) ha_ rfl (s69.at_ (i := 0) rfl) (by kernel_rfl) (by kernel_rfl) rfl rfl rfl) ha_ rfl, s69.keep, ?_⟩
        have hb_ := baseOf_3 (by omega) rfl hI
        rw [dimOf_eq (by omega) hb_, hb_]
        rfl
      · skip
        refine XC.exit (thn_exit (thn_exit (inBlk_hit (thn_norm ?_))))
        refine XC.seq ?_
        refine XC.drawS 4 rfl (fun x => x = b1) 3 (by kernel_rfl) s14 (fun w71 s71 ev71 kp71 hH72 => ?_)
        refine XA.valD 0 68 (.int .i64 3) rfl (by kernel_rfl) (by kernel_rfl) (by kernel_rfl) rfl (by kernel_rfl) rfl hH72 (fun hH73 => ?_)
        refine XA.loadS true (j := 1) (i := 1) (v := .agg #[.int .i64 q0.x, .int .i64 q0.y, .int .i64 q0.z, .int .i64 q1.x, .int .i64 q1.y, .int .i64 q1.z, .int .i64 q2.x, .int .i64 q2.y, .int .i64 q2.z, .int .i64 q3.x, .int .i64 q3.y, .int .i64 q3.z]) (g := true) (m := 12) s71 rfl rfl (by kernel_rfl) (by kernel_rfl) (by kernel_rfl) rfl (by kernel_rfl) (fun h => by cases h) (by kernel_rfl) rfl rfl (by decide) hH73 rfl (by kernel_rfl) (by kernel_rfl) rfl rfl rfl (fun hH74 => ?_)
        refine XA.valD 2 2 (.int .i64 3) rfl (by kernel_rfl) (by kernel_rfl) (by kernel_rfl) rfl (by kernel_rfl) rfl hH74 (fun hH75 => ?_)
        refine XA.op (i := 3) rfl (by kernel_rfl) (by kernel_rfl) (XO.storeS (i := 0) (v := .agg #[.int .i64 q0.x, .int .i64 q0.y, .int .i64 q0.z, .int .i64 q1.x, .int .i64 q1.y, .int .i64 q1.z, .int .i64 q2.x, .int .i64 q2.y, .int .i64 q2.z, .int .i64 q3.x, .int .i64 q3.y, .int .i64 q3.z]) (m := 12) (cs' := [.int .i64 q0.x, .int .i64 q0.y, .int .i64 q0.z, .int .i64 q1.x, .int .i64 q1.y, .int .i64 q1.z, .int .i64 q2.x, .int .i64 q2.y, .int .i64 q2.z, .int .i64 q3.x, .int .i64 q3.y, .int .i64 q3.z]) s71 rfl rfl rfl rfl rfl (by kernel_rfl) rfl rfl rfl rfl (fun w76 s76 ev76 kp76 => ?_))
        have hH77 := hH75.turn (i := 3) kp76 (fun b_ _ e_ => by first | exact e_ | (subst e_; simp)) rfl
        refine ⟨hH77, ?_⟩
        refine XA.done (by kernel_rfl) (thn_norm ?_)
        refine XC.ret ?_
        refine ⟨Or.inr rfl, .tuple #[(.int .i64 3), (.agg #[.int .i64 q0.x, .int .i64 q0.y, .int .i64 q0.z, .int .i64 q1.x, .int .i64 q1.y, .int .i64 q1.z, .int .i64 q2.x, .int .i64 q2.y, .int .i64 q2.z, .int .i64 q3.x, .int .i64 q3.y, .int .i64 q3.z])], fun a_ ha_ => results_tc rfl (res_cell (b := b1) (cs := [.int .i64 q0.x, .int .i64 q0.y, .int .i64 q0.z, .int .i64 q1.x, .int .i64 q1.y, .int .i64 q1.z, .int .i64 q2.x, .int .i64 q2.y, .int .i64 q2.z, .int .i64 q3.x, .int .i64 q3.y, .int .i64 q3.z]) (g := true) (sz := 12) (v := .agg #[.int .i64 q0.x, .int .i64 q0.y, .int .i64 q0.z, .int .i64 q1.x, .int .i64 q1.y, .int .i64 q1.z, .int .i64 q2.x, .int .i64 q2.y, .int .i64 q2.z, .int .i64 q3.x, .int .i64 q3.y, .int .i64 q3.z]) ha_ rfl (s76.at_ (i := 0) rfl) (by kernel_rfl) (by kernel_rfl) rfl rfl rfl) ha_ rfl, s76.keep, ?_⟩
        have hb_ := baseOf_end (by omega) (by omega) hI
        rw [dimOf_eq (by omega) hb_, hb_]
        try rfl

end Go.Proofs.Tryz
namespace Go.Proofs.Tryz
open Go Go.X Go.RowKit Go.Sort
set_option maxRecDepth 100000
set_option linter.unusedVariables false
theorem clean_Dim_ok (A : Nat → Prop) (w0 : World) (hA : ∀ b, w0.heap.size ≤ b → A b) (l : List Pt) (a_l : Option Addr) (c_l : Nat) (h_l : Sl tPt A w0 (.slice a_l l.length c_l) l)  : Cal Tryz.prog 5 [(.slice a_l l.length c_l)].toArray w0 (fun v w' => Keep none_ w0 w' ∧ v = .tuple #[(.int .i64 (dimE l)), (.int .i64 ((chk l).1))]) := by
  have s0 : Stt A w0 none_ [] w0 := Stt.start hA none_
  have h_l_ := h_l.mono Evo.start
  refine Cal.intro (n := 22) Tryz.func5 rfl Tryz.ntmps5 rfl ?_
  refine XC.seq ?_
  refine XC.region ?_
  refine XS.vals' 2 [(2, .int .i64 0), (3, .int .i64 0)] (by kernel_rfl) ?_
  refine XS.done rfl (thn_norm ?_)
  refine XC.seq ?_
  refine XC.seq ?_
  refine XC.region ?_
  refine XS.vals' 1 [(9, .slice a_l l.length c_l)] (by kernel_rfl) ?_
  refine XS.op rfl rfl (XO.callS (f := 14) (args := [(.slice a_l l.length c_l)].toArray) s0 rfl (by decide) (fun _ => by kernel_rfl) (seqhull_Check_ok (av A _) _ s0.av_fresh l a_l c_l h_l_ ) (fun _ w1 s1 ev1 kp1 hv_ => ?_))
  obtain rfl := hv_
  refine XS.vals' 5 [(8, .tuple #[.int .i64 ((chk l).1), .int .i64 ((chk l).2)]), (11, .int .i64 ((chk l).1)), (12, .int .i64 ((chk l).2)), (4, .int .i64 ((chk l).1)), (5, .int .i64 ((chk l).2))] (by kernel_rfl) ?_
  refine XS.done rfl (thn_norm ?_)
  refine XC.seq ?_
  refine XC.region ?_
  refine XS.vals' 2 [(13, .int .i64 ((chk l).1)), (14, .bool (!decide (((chk l).1) = 0)))] (by kernel_rfl) ?_
  refine XS.done rfl (thn_norm ?_)
  refine XC.cond_nd (((chk l).1) = 0) rfl (fun hc2 => ?_) (fun hc2 => ?_)
  · skip
    refine XC.seq ?_
    refine XC.region ?_
    refine XS.vals' 3 [(15, .int .i64 ((chk l).1)), (2, .int .i64 0), (3, .int .i64 ((chk l).1))] (by kernel_rfl) ?_
    refine XS.done rfl (thn_norm ?_)
    refine XC.ret (thn_ret ?_)
    refine ⟨Or.inr rfl, .tuple #[(.int .i64 0), (.int .i64 ((chk l).1))], fun a_ ha_ => results_tt rfl ha_ rfl rfl, s1.keep, ?_⟩
    unfold dimE; simp [*]
  · skip
    refine XC.skip (thn_norm ?_)
    refine XC.seq ?_
    refine XC.region ?_
    refine XS.vals' 1 [(17, .slice a_l l.length c_l)] (by kernel_rfl) ?_
    refine XS.op rfl rfl (XO.callS (f := 15) (args := [(.slice a_l l.length c_l)].toArray) s1 rfl (by decide) (fun _ => by kernel_rfl) (clean_base_ok (av A _) _ s1.av_fresh l a_l c_l (h_l_.mono ev1) (by first | exact chk_all (by omega) | omega)) (fun _ w3 s3 ev3 kp3 hv_ => ?_))
    obtain rfl := hv_
    refine XS.vals' 3 [(16, .tuple #[.int .i64 (dimOf l), .agg #[.int .i64 ((((baseOf l)).p0).x), .int .i64 ((((baseOf l)).p0).y), .int .i64 ((((baseOf l)).p0).z), .int .i64 ((((baseOf l)).p1).x), .int .i64 ((((baseOf l)).p1).y), .int .i64 ((((baseOf l)).p1).z), .int .i64 ((((baseOf l)).p2).x), .int .i64 ((((baseOf l)).p2).y), .int .i64 ((((baseOf l)).p2).z), .int .i64 ((((baseOf l)).p3).x), .int .i64 ((((baseOf l)).p3).y), .int .i64 ((((baseOf l)).p3).z)]]), (19, .int .i64 (dimOf l)), (20, .agg #[.int .i64 ((((baseOf l)).p0).x), .int .i64 ((((baseOf l)).p0).y), .int .i64 ((((baseOf l)).p0).z), .int .i64 ((((baseOf l)).p1).x), .int .i64 ((((baseOf l)).p1).y), .int .i64 ((((baseOf l)).p1).z), .int .i64 ((((baseOf l)).p2).x), .int .i64 ((((baseOf l)).p2).y), .int .i64 ((((baseOf l)).p2).z), .int .i64 ((((baseOf l)).p3).x), .int .i64 ((((baseOf l)).p3).y), .int .i64 ((((baseOf l)).p3).z)])] (by kernel_rfl) ?_
    refine XS.op rfl rfl (XO.new (cs := [.int .i64 0, .int .i64 0, .int .i64 0, .int .i64 0, .int .i64 0, .int .i64 0, .int .i64 0, .int .i64 0, .int .i64 0, .int .i64 0, .int .i64 0, .int .i64 0]) (T := 43) s3 rfl (by decide) (fun _ => by kernel_rfl) (fun b4 w5 s5 ev5 kp5 ybb4 => ?_))
    refine XS.vals' 1 [(6, .int .i64 (dimOf l))] (by kernel_rfl) ?_
    refine XS.op rfl rfl (XO.storeS (i := 0) (v := .agg #[.int .i64 ((((baseOf l)).p0).x), .int .i64 ((((baseOf l)).p0).y), .int .i64 ((((baseOf l)).p0).z), .int .i64 ((((baseOf l)).p1).x), .int .i64 ((((baseOf l)).p1).y), .int .i64 ((((baseOf l)).p1).z), .int .i64 ((((baseOf l)).p2).x), .int .i64 ((((baseOf l)).p2).y), .int .i64 ((((baseOf l)).p2).z), .int .i64 ((((baseOf l)).p3).x), .int .i64 ((((baseOf l)).p3).y), .int .i64 ((((baseOf l)).p3).z)]) (m := 12) (cs' := [.int .i64 ((((baseOf l)).p0).x), .int .i64 ((((baseOf l)).p0).y), .int .i64 ((((baseOf l)).p0).z), .int .i64 ((((baseOf l)).p1).x), .int .i64 ((((baseOf l)).p1).y), .int .i64 ((((baseOf l)).p1).z), .int .i64 ((((baseOf l)).p2).x), .int .i64 ((((baseOf l)).p2).y), .int .i64 ((((baseOf l)).p2).z), .int .i64 ((((baseOf l)).p3).x), .int .i64 ((((baseOf l)).p3).y), .int .i64 ((((baseOf l)).p3).z)]) s5 rfl rfl rfl rfl rfl (by kernel_rfl) rfl rfl rfl rfl (fun w6 s6 ev6 kp6 => ?_))
    refine XS.done rfl (thn_norm ?_)
    refine XC.seq ?_
    refine XC.region ?_
    refine XS.vals' 3 [(21, .int .i64 (dimOf l)), (2, .int .i64 (dimOf l)), (3, .int .i64 0)] (by kernel_rfl) ?_
    refine XS.done rfl (thn_norm ?_)
    refine XC.ret ?_
    refine ⟨Or.inr rfl, .tuple #[(.int .i64 (dimOf l)), (.int .i64 0)], fun a_ ha_ => results_tt rfl ha_ rfl rfl, s6.keep, ?_⟩
    unfold dimE; simp [*]

end Go.Proofs.Tryz
namespace Go.Proofs.Tryz
open Go Go.X Go.RowKit Go.Sort
set_option maxRecDepth 100000
set_option linter.unusedVariables false
theorem clean_normal_1_ok (A : Nat → Prop) (w0 : World) (hA : ∀ b, w0.heap.size ≤ b → A b) (a : Int) (b : Int) (c : Int) (d : Int) (ha : -9223372036854775808 ≤ a ∧ a ≤ 9223372036854775807) (hb : -9223372036854775808 ≤ b ∧ b ≤ 9223372036854775807) (hc : -9223372036854775808 ≤ c ∧ c ≤ 9223372036854775807) (hd : -9223372036854775808 ≤ d ∧ d ≤ 9223372036854775807)  : Cal Tryz.prog 49 [(.int .i64 a), (.int .i64 b), (.int .i64 c), (.int .i64 d)].toArray w0 (fun v w' => Keep none_ w0 w' ∧ v = .agg #[.int .i64 (hi128 (a * d - b * c)), .int .u64 (lo128 (a * d - b * c))]) := by
  have s0 : Stt A w0 none_ [] w0 := Stt.start hA none_
  refine Cal.intro (n := 16) Tryz.func49 rfl Tryz.ntmps49 rfl ?_
  refine XC.seq ?_
  refine XC.region ?_
  refine XS.op rfl rfl (XO.new (cs := [.int .i64 0, .int .u64 0]) (T := 55) s0 rfl (by decide) (fun _ => by kernel_rfl) (fun b1 w2 s2 ev2 kp2 ybb1 => ?_))
  refine XS.done rfl (thn_norm ?_)
  refine XC.seq ?_
  refine XC.region ?_
  refine XS.vals' 2 [(9, .int .i64 a), (10, .int .i64 d)] (by kernel_rfl) ?_
  refine XS.op rfl rfl (XO.callS (f := 51) (args := [(.int .i64 a), (.int .i64 d)].toArray) s2 rfl (by decide) (fun _ => by kernel_rfl) (limb_Prod_ok (av A _) _ s2.av_fresh a d (by assumption) (by assumption)) (fun _ w3 s3 ev3 kp3 hv_ => ?_))
  obtain rfl := hv_
  refine XS.vals' 2 [(12, .int .i64 b), (13, .int .i64 c)] (by kernel_rfl) ?_
  refine XS.op rfl rfl (XO.callS (f := 51) (args := [(.int .i64 b), (.int .i64 c)].toArray) s3 rfl (by decide) (fun _ => by kernel_rfl) (limb_Prod_ok (av A _) _ s3.av_fresh b c (by assumption) (by assumption)) (fun _ w4 s4 ev4 kp4 hv_ => ?_))
  obtain rfl := hv_
  refine XS.op rfl rfl (XO.callS (f := 50) (args := [(.agg #[.int .i64 (hi128 (a * d)), .int .u64 (lo128 (a * d))]), (.agg #[.int .i64 (hi128 (b * c)), .int .u64 (lo128 (b * c))])].toArray) s4 rfl (by decide) (fun _ => by kernel_rfl) (limb_Sub_ok (av A _) _ s4.av_fresh (a * d) (b * c) ) (fun _ w5 s5 ev5 kp5 hv_ => ?_))
  obtain rfl := hv_
  refine XS.op rfl rfl (XO.storeS (i := 0) (v := .agg #[.int .i64 (hi128 ((a * d) - (b * c))), .int .u64 (lo128 ((a * d) - (b * c)))]) (m := 2) (cs' := [.int .i64 (hi128 ((a * d) - (b * c))), .int .u64 (lo128 ((a * d) - (b * c)))]) s5 rfl rfl rfl rfl rfl (by kernel_rfl) rfl rfl rfl rfl (fun w6 s6 ev6 kp6 => ?_))
  refine XS.done rfl (thn_norm ?_)
  refine XC.ret ?_
  refine ⟨Or.inr rfl, .agg #[.int .i64 (hi128 ((a * d) - (b * c))), .int .u64 (lo128 ((a * d) - (b * c)))], fun a_ ha_ => results_c rfl (res_cell (b := b1) (cs := [.int .i64 (hi128 ((a * d) - (b * c))), .int .u64 (lo128 ((a * d) - (b * c)))]) (g := true) (sz := 2) (v := .agg #[.int .i64 (hi128 ((a * d) - (b * c))), .int .u64 (lo128 ((a * d) - (b * c)))]) ha_ rfl (s6.at_ (i := 0) rfl) (by kernel_rfl) (by kernel_rfl) rfl rfl rfl), s6.keep, ?_⟩
  rfl

theorem clean_normal_ok (A : Nat → Prop) (w0 : World) (hA : ∀ b, w0.heap.size ≤ b → A b) (a : Pt) (b : Pt) (c : Pt) (ha : a.ok) (hb : b.ok) (hc : c.ok)  : Cal Tryz.prog 26 [(.agg #[.int .i64 a.x, .int .i64 a.y, .int .i64 a.z]), (.agg #[.int .i64 b.x, .int .i64 b.y, .int .i64 b.z]), (.agg #[.int .i64 c.x, .int .i64 c.y, .int .i64 c.z])].toArray w0 (fun v w' => Keep none_ w0 w' ∧ v = .agg #[.int .i64 (hi128 ((nrmOf a b c).x)), .int .u64 (lo128 ((nrmOf a b c).x)), .int .i64 (hi128 ((nrmOf a b c).y)), .int .u64 (lo128 ((nrmOf a b c).y)), .int .i64 (hi128 ((nrmOf a b c).z)), .int .u64 (lo128 ((nrmOf a b c).z))]) := by
  have s0 : Stt A w0 none_ [] w0 := Stt.start hA none_
  refine Cal.intro (n := 63) Tryz.func26 rfl Tryz.ntmps26 rfl ?_
  refine XC.seq ?_
  refine XC.region ?_
  refine XS.op rfl rfl (XO.new (cs := [.int .i64 a.x, .int .i64 a.y, .int .i64 a.z]) (T := 24) s0 rfl (by decide) (fun _ => by kernel_rfl) (fun b1 w2 s2 ev2 kp2 ybb1 => ?_))
  refine XS.op rfl rfl (XO.new (cs := [.int .i64 b.x, .int .i64 b.y, .int .i64 b.z]) (T := 24) s2 rfl (by decide) (fun _ => by kernel_rfl) (fun b3 w4 s4 ev4 kp4 ybb3 => ?_))
  refine XS.op rfl rfl (XO.new (cs := [.int .i64 c.x, .int .i64 c.y, .int .i64 c.z]) (T := 24) s4 rfl (by decide) (fun _ => by kernel_rfl) (fun b5 w6 s6 ev6 kp6 ybb5 => ?_))
  refine XS.op rfl rfl (XO.new (cs := [.int .i64 0, .int .u64 0, .int .i64 0, .int .u64 0, .int .i64 0, .int .u64 0]) (T := 56) s6 rfl (by decide) (fun _ => by kernel_rfl) (fun b7 w8 s8 ev8 kp8 ybb7 => ?_))
  refine XS.done rfl (thn_norm ?_)
  refine XC.seq ?_
  refine XC.drawS 18 rfl (fun _ => False) 18 (by kernel_rfl) s8 (fun w9 s9 ev9 kp9 hH10 => ?_)
  refine XA.valD 0 14 (.pointer (some ⟨b3, 0, none⟩)) rfl (by kernel_rfl) (by kernel_rfl) (by kernel_rfl) rfl (by kernel_rfl) rfl hH10 (fun hH11 => ?_)
  refine XA.loadS false (j := 1) (i := 1) (v := .int .i64 b.x) (g := false) (m := 1) s9 rfl rfl (by kernel_rfl) (by kernel_rfl) (by kernel_rfl) rfl (by kernel_rfl) (fun _ h => h) (by kernel_rfl) rfl rfl (by decide) hH11 rfl (by kernel_rfl) (by kernel_rfl) rfl rfl rfl (fun hH12 => ?_)
  refine XA.valD 2 16 (.pointer (some ⟨b1, 0, none⟩)) rfl (by kernel_rfl) (by kernel_rfl) (by kernel_rfl) rfl (by kernel_rfl) rfl hH12 (fun hH13 => ?_)
  refine XA.loadS false (j := 3) (i := 0) (v := .int .i64 a.x) (g := false) (m := 1) s9 rfl rfl (by kernel_rfl) (by kernel_rfl) (by kernel_rfl) rfl (by kernel_rfl) (fun _ h => h) (by kernel_rfl) rfl rfl (by decide) hH13 rfl (by kernel_rfl) (by kernel_rfl) rfl rfl rfl (fun hH14 => ?_)
  refine XA.arith (p := 4) (k := .i64) (r := b.x - a.x) rfl (by kernel_rfl) (by kernel_rfl) (by kernel_rfl) rfl (by kernel_rfl) rfl (by decide) (fun _ => by kernel_rfl) (wrap_i64 (by (unfold Pt.ok inC at *; omega))) hH14 (fun hH15 => ?_)
  refine XA.valD 5 19 (.pointer (some ⟨b3, 1, none⟩)) rfl (by kernel_rfl) (by kernel_rfl) (by kernel_rfl) rfl (by kernel_rfl) rfl hH15 (fun hH16 => ?_)
  refine XA.loadS false (j := 6) (i := 1) (v := .int .i64 b.y) (g := false) (m := 1) s9 rfl rfl (by kernel_rfl) (by kernel_rfl) (by kernel_rfl) rfl (by kernel_rfl) (fun _ h => h) (by kernel_rfl) rfl rfl (by decide) hH16 rfl (by kernel_rfl) (by kernel_rfl) rfl rfl rfl (fun hH17 => ?_)
  refine XA.valD 7 21 (.pointer (some ⟨b1, 1, none⟩)) rfl (by kernel_rfl) (by kernel_rfl) (by kernel_rfl) rfl (by kernel_rfl) rfl hH17 (fun hH18 => ?_)
  refine XA.loadS false (j := 8) (i := 0) (v := .int .i64 a.y) (g := false) (m := 1) s9 rfl rfl (by kernel_rfl) (by kernel_rfl) (by kernel_rfl) rfl (by kernel_rfl) (fun _ h => h) (by kernel_rfl) rfl rfl (by decide) hH18 rfl (by kernel_rfl) (by kernel_rfl) rfl rfl rfl (fun hH19 => ?_)
  refine XA.arith (p := 9) (k := .i64) (r := b.y - a.y) rfl (by kernel_rfl) (by kernel_rfl) (by kernel_rfl) rfl (by kernel_rfl) rfl (by decide) (fun _ => by kernel_rfl) (wrap_i64 (by (unfold Pt.ok inC at *; omega))) hH19 (fun hH20 => ?_)
  refine XA.valD 10 24 (.pointer (some ⟨b3, 2, none⟩)) rfl (by kernel_rfl) (by kernel_rfl) (by kernel_rfl) rfl (by kernel_rfl) rfl hH20 (fun hH21 => ?_)
  refine XA.loadS false (j := 11) (i := 1) (v := .int .i64 b.z) (g := false) (m := 1) s9 rfl rfl (by kernel_rfl) (by kernel_rfl) (by kernel_rfl) rfl (by kernel_rfl) (fun _ h => h) (by kernel_rfl) rfl rfl (by decide) hH21 rfl (by kernel_rfl) (by kernel_rfl) rfl rfl rfl (fun hH22 => ?_)
  refine XA.valD 12 26 (.pointer (some ⟨b1, 2, none⟩)) rfl (by kernel_rfl) (by kernel_rfl) (by kernel_rfl) rfl (by kernel_rfl) rfl hH22 (fun hH23 => ?_)
  refine XA.loadS false (j := 13) (i := 0) (v := .int .i64 a.z) (g := false) (m := 1) s9 rfl rfl (by kernel_rfl) (by kernel_rfl) (by kernel_rfl) rfl (by kernel_rfl) (fun _ h => h) (by kernel_rfl) rfl rfl (by decide) hH23 rfl (by kernel_rfl) (by kernel_rfl) rfl rfl rfl (fun hH24 => ?_)
  refine XA.arith (p := 14) (k := .i64) (r := b.z - a.z) rfl (by kernel_rfl) (by kernel_rfl) (by kernel_rfl) rfl (by kernel_rfl) rfl (by decide) (fun _ => by kernel_rfl) (wrap_i64 (by (unfold Pt.ok inC at *; omega))) hH24 (fun hH25 => ?_)
  refine XA.valD 15 7 (.int .i64 (b.x - a.x)) rfl (by kernel_rfl) (by kernel_rfl) (by kernel_rfl) rfl (by kernel_rfl) rfl hH25 (fun hH26 => ?_)
  refine XA.valD 16 8 (.int .i64 (b.y - a.y)) rfl (by kernel_rfl) (by kernel_rfl) (by kernel_rfl) rfl (by kernel_rfl) rfl hH26 (fun hH27 => ?_)
  refine XA.valD 17 9 (.int .i64 (b.z - a.z)) rfl (by kernel_rfl) (by kernel_rfl) (by kernel_rfl) rfl (by kernel_rfl) rfl hH27 (fun hH28 => ?_)
  refine XA.done (by kernel_rfl) (thn_norm ?_)
  refine XC.seq ?_
  refine XC.drawS 18 rfl (fun _ => False) 18 (by kernel_rfl) s9 (fun w29 s29 ev29 kp29 hH30 => ?_)
  refine XA.valD 0 29 (.pointer (some ⟨b5, 0, none⟩)) rfl (by kernel_rfl) (by kernel_rfl) (by kernel_rfl) rfl (by kernel_rfl) rfl hH30 (fun hH31 => ?_)
  refine XA.loadS false (j := 1) (i := 2) (v := .int .i64 c.x) (g := false) (m := 1) s29 rfl rfl (by kernel_rfl) (by kernel_rfl) (by kernel_rfl) rfl (by kernel_rfl) (fun _ h => h) (by kernel_rfl) rfl rfl (by decide) hH31 rfl (by kernel_rfl) (by kernel_rfl) rfl rfl rfl (fun hH32 => ?_)
  refine XA.valD 2 31 (.pointer (some ⟨b1, 0, none⟩)) rfl (by kernel_rfl) (by kernel_rfl) (by kernel_rfl) rfl (by kernel_rfl) rfl hH32 (fun hH33 => ?_)
  refine XA.loadS false (j := 3) (i := 0) (v := .int .i64 a.x) (g := false) (m := 1) s29 rfl rfl (by kernel_rfl) (by kernel_rfl) (by kernel_rfl) rfl (by kernel_rfl) (fun _ h => h) (by kernel_rfl) rfl rfl (by decide) hH33 rfl (by kernel_rfl) (by kernel_rfl) rfl rfl rfl (fun hH34 => ?_)
  refine XA.arith (p := 4) (k := .i64) (r := c.x - a.x) rfl (by kernel_rfl) (by kernel_rfl) (by kernel_rfl) rfl (by kernel_rfl) rfl (by decide) (fun _ => by kernel_rfl) (wrap_i64 (by (unfold Pt.ok inC at *; omega))) hH34 (fun hH35 => ?_)
  refine XA.valD 5 34 (.pointer (some ⟨b5, 1, none⟩)) rfl (by kernel_rfl) (by kernel_rfl) (by kernel_rfl) rfl (by kernel_rfl) rfl hH35 (fun hH36 => ?_)
  refine XA.loadS false (j := 6) (i := 2) (v := .int .i64 c.y) (g := false) (m := 1) s29 rfl rfl (by kernel_rfl) (by kernel_rfl) (by kernel_rfl) rfl (by kernel_rfl) (fun _ h => h) (by kernel_rfl) rfl rfl (by decide) hH36 rfl (by kernel_rfl) (by kernel_rfl) rfl rfl rfl (fun hH37 => ?_)
  refine XA.valD 7 36 (.pointer (some ⟨b1, 1, none⟩)) rfl (by kernel_rfl) (by kernel_rfl) (by kernel_rfl) rfl (by kernel_rfl) rfl hH37 (fun hH38 => ?_)
  refine XA.loadS false (j := 8) (i := 0) (v := .int .i64 a.y) (g := false) (m := 1) s29 rfl rfl (by kernel_rfl) (by kernel_rfl) (by kernel_rfl) rfl (by kernel_rfl) (fun _ h => h) (by kernel_rfl) rfl rfl (by decide) hH38 rfl (by kernel_rfl) (by kernel_rfl) rfl rfl rfl (fun hH39 => ?_)
  refine XA.arith (p := 9) (k := .i64) (r := c.y - a.y) rfl (by kernel_rfl) (by kernel_rfl) (by kernel_rfl) rfl (by kernel_rfl) rfl (by decide) (fun _ => by kernel_rfl) (wrap_i64 (by (unfold Pt.ok inC at *; omega))) hH39 (fun hH40 => ?_)
  refine XA.valD 10 39 (.pointer (some ⟨b5, 2, none⟩)) rfl (by kernel_rfl) (by kernel_rfl) (by kernel_rfl) rfl (by kernel_rfl) rfl hH40 (fun hH41 => ?_)
  refine XA.loadS false (j := 11) (i := 2) (v := .int .i64 c.z) (g := false) (m := 1) s29 rfl rfl (by kernel_rfl) (by kernel_rfl) (by kernel_rfl) rfl (by kernel_rfl) (fun _ h => h) (by kernel_rfl) rfl rfl (by decide) hH41 rfl (by kernel_rfl) (by kernel_rfl) rfl rfl rfl (fun hH42 => ?_)
  refine XA.valD 12 41 (.pointer (some ⟨b1, 2, none⟩)) rfl (by kernel_rfl) (by kernel_rfl) (by kernel_rfl) rfl (by kernel_rfl) rfl hH42 (fun hH43 => ?_)
  refine XA.loadS false (j := 13) (i := 0) (v := .int .i64 a.z) (g := false) (m := 1) s29 rfl rfl (by kernel_rfl) (by kernel_rfl) (by kernel_rfl) rfl (by kernel_rfl) (fun _ h => h) (by kernel_rfl) rfl rfl (by decide) hH43 rfl (by kernel_rfl) (by kernel_rfl) rfl rfl rfl (fun hH44 => ?_)
  refine XA.arith (p := 14) (k := .i64) (r := c.z - a.z) rfl (by kernel_rfl) (by kernel_rfl) (by kernel_rfl) rfl (by kernel_rfl) rfl (by decide) (fun _ => by kernel_rfl) (wrap_i64 (by (unfold Pt.ok inC at *; omega))) hH44 (fun hH45 => ?_)
  refine XA.valD 15 10 (.int .i64 (c.x - a.x)) rfl (by kernel_rfl) (by kernel_rfl) (by kernel_rfl) rfl (by kernel_rfl) rfl hH45 (fun hH46 => ?_)
  refine XA.valD 16 11 (.int .i64 (c.y - a.y)) rfl (by kernel_rfl) (by kernel_rfl) (by kernel_rfl) rfl (by kernel_rfl) rfl hH46 (fun hH47 => ?_)
  refine XA.valD 17 12 (.int .i64 (c.z - a.z)) rfl (by kernel_rfl) (by kernel_rfl) (by kernel_rfl) rfl (by kernel_rfl) rfl hH47 (fun hH48 => ?_)
  refine XA.done (by kernel_rfl) (thn_norm ?_)
  refine XC.seq ?_
  refine XC.region ?_
  refine XS.vals' 1 [(13, .func (.func 49) #[] #[])] (by kernel_rfl) ?_
  refine XS.done rfl (thn_norm ?_)
  refine XC.seq ?_
  refine XC.region ?_
  refine XS.vals' 5 [(44, .func (.func 49) #[] #[]), (45, .int .i64 (b.y - a.y)), (46, .int .i64 (b.z - a.z)), (47, .int .i64 (c.y - a.y)), (48, .int .i64 (c.z - a.z))] (by kernel_rfl) ?_
  refine XS.op rfl rfl (XO.callS (f := 49) (args := [(.int .i64 (b.y - a.y)), (.int .i64 (b.z - a.z)), (.int .i64 (c.y - a.y)), (.int .i64 (c.z - a.z))].toArray) s29 rfl (by decide) (fun _ => by kernel_rfl) (clean_normal_1_ok (av A _) _ s29.av_fresh (b.y - a.y) (b.z - a.z) (c.y - a.y) (c.z - a.z) (by (unfold Pt.ok inC at *; omega)) (by (unfold Pt.ok inC at *; omega)) (by (unfold Pt.ok inC at *; omega)) (by (unfold Pt.ok inC at *; omega))) (fun _ w49 s49 ev49 kp49 hv_ => ?_))
  obtain rfl := hv_
  refine XS.vals' 5 [(50, .func (.func 49) #[] #[]), (51, .int .i64 (b.z - a.z)), (52, .int .i64 (b.x - a.x)), (53, .int .i64 (c.z - a.z)), (54, .int .i64 (c.x - a.x))] (by kernel_rfl) ?_
  refine XS.op rfl rfl (XO.callS (f := 49) (args := [(.int .i64 (b.z - a.z)), (.int .i64 (b.x - a.x)), (.int .i64 (c.z - a.z)), (.int .i64 (c.x - a.x))].toArray) s49 rfl (by decide) (fun _ => by kernel_rfl) (clean_normal_1_ok (av A _) _ s49.av_fresh (b.z - a.z) (b.x - a.x) (c.z - a.z) (c.x - a.x) (by (unfold Pt.ok inC at *; omega)) (by (unfold Pt.ok inC at *; omega)) (by (unfold Pt.ok inC at *; omega)) (by (unfold Pt.ok inC at *; omega))) (fun _ w50 s50 ev50 kp50 hv_ => ?_))
  obtain rfl := hv_
  refine XS.vals' 5 [(56, .func (.func 49) #[] #[]), (57, .int .i64 (b.x - a.x)), (58, .int .i64 (b.y - a.y)), (59, .int .i64 (c.x - a.x)), (60, .int .i64 (c.y - a.y))] (by kernel_rfl) ?_
  refine XS.op rfl rfl (XO.callS (f := 49) (args := [(.int .i64 (b.x - a.x)), (.int .i64 (b.y - a.y)), (.int .i64 (c.x - a.x)), (.int .i64 (c.y - a.y))].toArray) s50 rfl (by decide) (fun _ => by kernel_rfl) (clean_normal_1_ok (av A _) _ s50.av_fresh (b.x - a.x) (b.y - a.y) (c.x - a.x) (c.y - a.y) (by (unfold Pt.ok inC at *; omega)) (by (unfold Pt.ok inC at *; omega)) (by (unfold Pt.ok inC at *; omega)) (by (unfold Pt.ok inC at *; omega))) (fun _ w51 s51 ev51 kp51 hv_ => ?_))
  obtain rfl := hv_
  refine XS.vals' 1 [(62, .agg #[.int .i64 (hi128 ((b.y - a.y) * (c.z - a.z) - (b.z - a.z) * (c.y - a.y))), .int .u64 (lo128 ((b.y - a.y) * (c.z - a.z) - (b.z - a.z) * (c.y - a.y))), .int .i64 (hi128 ((b.z - a.z) * (c.x - a.x) - (b.x - a.x) * (c.z - a.z))), .int .u64 (lo128 ((b.z - a.z) * (c.x - a.x) - (b.x - a.x) * (c.z - a.z))), .int .i64 (hi128 ((b.x - a.x) * (c.y - a.y) - (b.y - a.y) * (c.x - a.x))), .int .u64 (lo128 ((b.x - a.x) * (c.y - a.y) - (b.y - a.y) * (c.x - a.x)))])] (by kernel_rfl) ?_
  refine XS.op rfl rfl (XO.storeS (i := 3) (v := .agg #[.int .i64 (hi128 ((b.y - a.y) * (c.z - a.z) - (b.z - a.z) * (c.y - a.y))), .int .u64 (lo128 ((b.y - a.y) * (c.z - a.z) - (b.z - a.z) * (c.y - a.y))), .int .i64 (hi128 ((b.z - a.z) * (c.x - a.x) - (b.x - a.x) * (c.z - a.z))), .int .u64 (lo128 ((b.z - a.z) * (c.x - a.x) - (b.x - a.x) * (c.z - a.z))), .int .i64 (hi128 ((b.x - a.x) * (c.y - a.y) - (b.y - a.y) * (c.x - a.x))), .int .u64 (lo128 ((b.x - a.x) * (c.y - a.y) - (b.y - a.y) * (c.x - a.x)))]) (m := 6) (cs' := [.int .i64 (hi128 ((b.y - a.y) * (c.z - a.z) - (b.z - a.z) * (c.y - a.y))), .int .u64 (lo128 ((b.y - a.y) * (c.z - a.z) - (b.z - a.z) * (c.y - a.y))), .int .i64 (hi128 ((b.z - a.z) * (c.x - a.x) - (b.x - a.x) * (c.z - a.z))), .int .u64 (lo128 ((b.z - a.z) * (c.x - a.x) - (b.x - a.x) * (c.z - a.z))), .int .i64 (hi128 ((b.x - a.x) * (c.y - a.y) - (b.y - a.y) * (c.x - a.x))), .int .u64 (lo128 ((b.x - a.x) * (c.y - a.y) - (b.y - a.y) * (c.x - a.x)))]) s51 rfl rfl rfl rfl rfl (by kernel_rfl) rfl rfl rfl rfl (fun w52 s52 ev52 kp52 => ?_))
  refine XS.done rfl (thn_norm ?_)
  refine XC.ret ?_
  refine ⟨Or.inr rfl, .agg #[.int .i64 (hi128 ((b.y - a.y) * (c.z - a.z) - (b.z - a.z) * (c.y - a.y))), .int .u64 (lo128 ((b.y - a.y) * (c.z - a.z) - (b.z - a.z) * (c.y - a.y))), .int .i64 (hi128 ((b.z - a.z) * (c.x - a.x) - (b.x - a.x) * (c.z - a.z))), .int .u64 (lo128 ((b.z - a.z) * (c.x - a.x) - (b.x - a.x) * (c.z - a.z))), .int .i64 (hi128 ((b.x - a.x) * (c.y - a.y) - (b.y - a.y) * (c.x - a.x))), .int .u64 (lo128 ((b.x - a.x) * (c.y - a.y) - (b.y - a.y) * (c.x - a.x)))], fun a_ ha_ => results_c rfl (res_cell (b := b7) (cs := [.int .i64 (hi128 ((b.y - a.y) * (c.z - a.z) - (b.z - a.z) * (c.y - a.y))), .int .u64 (lo128 ((b.y - a.y) * (c.z - a.z) - (b.z - a.z) * (c.y - a.y))), .int .i64 (hi128 ((b.z - a.z) * (c.x - a.x) - (b.x - a.x) * (c.z - a.z))), .int .u64 (lo128 ((b.z - a.z) * (c.x - a.x) - (b.x - a.x) * (c.z - a.z))), .int .i64 (hi128 ((b.x - a.x) * (c.y - a.y) - (b.y - a.y) * (c.x - a.x))), .int .u64 (lo128 ((b.x - a.x) * (c.y - a.y) - (b.y - a.y) * (c.x - a.x)))]) (g := true) (sz := 6) (v := .agg #[.int .i64 (hi128 ((b.y - a.y) * (c.z - a.z) - (b.z - a.z) * (c.y - a.y))), .int .u64 (lo128 ((b.y - a.y) * (c.z - a.z) - (b.z - a.z) * (c.y - a.y))), .int .i64 (hi128 ((b.z - a.z) * (c.x - a.x) - (b.x - a.x) * (c.z - a.z))), .int .u64 (lo128 ((b.z - a.z) * (c.x - a.x) - (b.x - a.x) * (c.z - a.z))), .int .i64 (hi128 ((b.x - a.x) * (c.y - a.y) - (b.y - a.y) * (c.x - a.x))), .int .u64 (lo128 ((b.x - a.x) * (c.y - a.y) - (b.y - a.y) * (c.x - a.x)))]) ha_ rfl (s52.at_ (i := 3) rfl) (by kernel_rfl) (by kernel_rfl) rfl rfl rfl), s52.keep, ?_⟩
  rfl

end Go.Proofs.Tryz
namespace Go.Proofs.Tryz
open Go Go.X Go.RowKit Go.Sort
set_option maxRecDepth 100000
set_option linter.unusedVariables false
theorem clean_round_side0_ok (A : Nat → Prop) (w0 : World) (hA : ∀ b, w0.heap.size ≤ b → A b) (a : Pt) (b : Pt) (c : Pt) (b_k : Nat) (T_k : TypeId) (hb_k : w0.heap[b_k]? = some (.cells [.int .i64 0].toArray T_k (0, 0))) (n : Pt) (b_n : Nat) (T_n : TypeId) (hb_n : w0.heap[b_n]? = some (.cells [.int .i64 (hi128 n.x), .int .u64 (lo128 n.x), .int .i64 (hi128 n.y), .int .u64 (lo128 n.y), .int .i64 (hi128 n.z), .int .u64 (lo128 n.z)].toArray T_n (0, 0))) (ha : a.ok) (hb : b.ok) (hc : c.ok)  : Cal Tryz.prog 46 [(.agg #[.int .i64 a.x, .int .i64 a.y, .int .i64 a.z]), (.agg #[.int .i64 b.x, .int .i64 b.y, .int .i64 b.z]), (.agg #[.int .i64 c.x, .int .i64 c.y, .int .i64 c.z]), (.pointer (some ⟨b_k, 0, none⟩)), (.pointer (some ⟨b_n, 0, none⟩))].toArray w0 (fun v w' => Keep none_ w0 w' ∧ v = .int .i64 (cmp128 ((nrmOf a b c).at 0) 0 * cmp128 (n.at 0) 0)) := by
  have s0 : Stt A w0 none_ [] w0 := Stt.start hA none_
  refine Cal.intro (n := 21) Tryz.func46 rfl Tryz.ntmps46 rfl ?_
  refine XC.seq ?_
  refine XC.region ?_
  refine XS.op rfl rfl (XO.new (cs := [.int .i64 a.x, .int .i64 a.y, .int .i64 a.z]) (T := 24) s0 rfl (by decide) (fun _ => by kernel_rfl) (fun b1 w2 s2 ev2 kp2 ybb1 => ?_))
  refine XS.op rfl rfl (XO.new (cs := [.int .i64 b.x, .int .i64 b.y, .int .i64 b.z]) (T := 24) s2 rfl (by decide) (fun _ => by kernel_rfl) (fun b3 w4 s4 ev4 kp4 ybb3 => ?_))
  refine XS.op rfl rfl (XO.new (cs := [.int .i64 c.x, .int .i64 c.y, .int .i64 c.z]) (T := 24) s4 rfl (by decide) (fun _ => by kernel_rfl) (fun b5 w6 s6 ev6 kp6 ybb5 => ?_))
  refine XS.vals' 1 [(8, .int .i64 0)] (by kernel_rfl) ?_
  refine XS.done rfl (thn_norm ?_)
  refine XC.cut (fun ρ_ w_ => Has ρ_ [(8, .int .i64 ((cmp128 ((nrmOf a b c).x) 0) * (cmp128 n.x 0)))] ∧ Stt A w0 none_ [cellsA b1 [.int .i64 a.x, .int .i64 a.y, .int .i64 a.z] 24, cellsA b3 [.int .i64 b.x, .int .i64 b.y, .int .i64 b.z] 24, cellsA b5 [.int .i64 c.x, .int .i64 c.y, .int .i64 c.z] 24] w_ ∧ Evo (av A [cellsA b1 [.int .i64 a.x, .int .i64 a.y, .int .i64 a.z] 24, cellsA b3 [.int .i64 b.x, .int .i64 b.y, .int .i64 b.z] 24, cellsA b5 [.int .i64 c.x, .int .i64 c.y, .int .i64 c.z] 24]) w6 (av A [cellsA b1 [.int .i64 a.x, .int .i64 a.y, .int .i64 a.z] 24, cellsA b3 [.int .i64 b.x, .int .i64 b.y, .int .i64 b.z] 24, cellsA b5 [.int .i64 c.x, .int .i64 c.y, .int .i64 c.z] 24]) w_) ?_ ?_
  · skip
    refine XC.drawS 13 rfl (fun _ => False) 13 (by kernel_rfl) s6 (fun w7 s7 ev7 kp7 hH8 => ?_)
    refine XA.loadS false (j := 0) (i := 0) (v := .agg #[.int .i64 a.x, .int .i64 a.y, .int .i64 a.z]) (g := true) (m := 3) s7 rfl rfl (by kernel_rfl) (by kernel_rfl) (by kernel_rfl) rfl (by kernel_rfl) (fun _ h => h) (by kernel_rfl) rfl rfl (by decide) hH8 rfl (by kernel_rfl) (by kernel_rfl) rfl rfl rfl (fun hH9 => ?_)
    refine XA.loadS false (j := 1) (i := 1) (v := .agg #[.int .i64 b.x, .int .i64 b.y, .int .i64 b.z]) (g := true) (m := 3) s7 rfl rfl (by kernel_rfl) (by kernel_rfl) (by kernel_rfl) rfl (by kernel_rfl) (fun _ h => h) (by kernel_rfl) rfl rfl (by decide) hH9 rfl (by kernel_rfl) (by kernel_rfl) rfl rfl rfl (fun hH10 => ?_)
    refine XA.loadS false (j := 2) (i := 2) (v := .agg #[.int .i64 c.x, .int .i64 c.y, .int .i64 c.z]) (g := true) (m := 3) s7 rfl rfl (by kernel_rfl) (by kernel_rfl) (by kernel_rfl) rfl (by kernel_rfl) (fun _ h => h) (by kernel_rfl) rfl rfl (by decide) hH10 rfl (by kernel_rfl) (by kernel_rfl) rfl rfl rfl (fun hH11 => ?_)
    refine XA.op3 (i := 3) (j := 4) (k := 7) rfl rfl rfl (by kernel_rfl) (by kernel_rfl) (by kernel_rfl) (by kernel_rfl) ?_ ?_ ?_
    · skip
      refine XO.callS (f := 26) (args := [(.agg #[.int .i64 a.x, .int .i64 a.y, .int .i64 a.z]), (.agg #[.int .i64 b.x, .int .i64 b.y, .int .i64 b.z]), (.agg #[.int .i64 c.x, .int .i64 c.y, .int .i64 c.z])].toArray) s7 rfl (by decide) (fun _ => by kernel_rfl) (clean_normal_ok (av A _) _ s7.av_fresh a b c (by assumption) (by assumption) (by assumption)) (fun _ w12 s12 ev12 kp12 hv_ => ?_)
      obtain rfl := hv_
      have hH13 := hH11.keep (i := 3) kp12 rfl
      refine ⟨hH13, ?_⟩
      refine XA.op2 (i := 4) (j := 7) rfl rfl (by kernel_rfl) (by kernel_rfl) (by kernel_rfl) ?_ ?_
      · skip
        refine XO.loadB (v := .int .i64 0) (g := false) (m := 1) s12 hb_k rfl rfl (by decide) rfl (by kernel_rfl) (by kernel_rfl) rfl rfl rfl ?_
        have hH14 := (Hold.set (i := 4) (by decide)).2 hH13
        refine ⟨hH14, ?_⟩
        refine XA.valD 5 14 (.agg #[.int .i64 (hi128 ((nrmOf a b c).x)), .int .u64 (lo128 ((nrmOf a b c).x))]) rfl (by kernel_rfl) (by kernel_rfl) (by kernel_rfl) rfl (by kernel_rfl) rfl hH14 (fun hH15 => ?_)
        refine XA.op2 (i := 6) (j := 7) rfl rfl (by kernel_rfl) (by kernel_rfl) (by kernel_rfl) ?_ ?_
        · skip
          refine XO.callS (f := 45) (args := [(.agg #[.int .i64 (hi128 ((nrmOf a b c).x)), .int .u64 (lo128 ((nrmOf a b c).x))])].toArray) s12 rfl (by decide) (fun _ => by kernel_rfl) (limb_Sign_ok (av A _) _ s12.av_fresh ((nrmOf a b c).x) ) (fun _ w16 s16 ev16 kp16 hv_ => ?_)
          obtain rfl := hv_
          have hH17 := hH15.keep (i := 6) kp16 rfl
          refine ⟨hH17, ?_⟩
          refine XA.op (i := 7) rfl (by kernel_rfl) (by kernel_rfl) (XO.loadB (v := .int .i64 0) (g := false) (m := 1) s16 hb_k rfl rfl (by decide) rfl (by kernel_rfl) (by kernel_rfl) rfl rfl rfl ?_)
          have hH18 := (Hold.set (i := 7) (by decide)).2 hH17
          refine ⟨hH18, ?_⟩
          refine XA.valD 8 17 (.pointer (some ⟨b_n, 0, none⟩)) rfl (by kernel_rfl) (by kernel_rfl) (by kernel_rfl) rfl (by kernel_rfl) rfl hH18 (fun hH19 => ?_)
          refine XA.op (i := 9) rfl (by kernel_rfl) (by kernel_rfl) (XO.loadB (v := .agg #[.int .i64 (hi128 n.x), .int .u64 (lo128 n.x)]) (g := true) (m := 2) s16 hb_n rfl rfl (by decide) rfl (by kernel_rfl) (by kernel_rfl) rfl rfl rfl ?_)
          have hH20 := (Hold.set (i := 9) (by decide)).2 hH19
          refine ⟨hH20, ?_⟩
          refine XA.op (i := 10) rfl (by kernel_rfl) (by kernel_rfl) (XO.callS (f := 45) (args := [(.agg #[.int .i64 (hi128 n.x), .int .u64 (lo128 n.x)])].toArray) s16 rfl (by decide) (fun _ => by kernel_rfl) (limb_Sign_ok (av A _) _ s16.av_fresh n.x ) (fun _ w21 s21 ev21 kp21 hv_ => ?_))
          obtain rfl := hv_
          have hH22 := hH20.keep (i := 10) kp21 rfl
          refine ⟨hH22, ?_⟩
          refine XA.arith (p := 11) (k := .i64) (r := (cmp128 ((nrmOf a b c).x) 0) * (cmp128 n.x 0)) rfl (by kernel_rfl) (by kernel_rfl) (by kernel_rfl) rfl (by kernel_rfl) rfl (by decide) (fun _ => by kernel_rfl) (wrap_i64 (by (first | exact cmp_mul_rng _ _ _ _ | omega))) hH22 (fun hH23 => ?_)
          refine XA.valD 12 8 (.int .i64 ((cmp128 ((nrmOf a b c).x) 0) * (cmp128 n.x 0))) rfl (by kernel_rfl) (by kernel_rfl) (by kernel_rfl) rfl (by kernel_rfl) rfl hH23 (fun hH24 => ?_)
          refine XA.done (by kernel_rfl) (thn_norm ?_)
          exact ⟨⟨rfl, trivial⟩, s21, (ev7.trans (ev12.trans (ev16.trans ev21)))⟩
        · skip
          refine XO.loadB (v := .int .i64 0) (g := false) (m := 1) s12 hb_k rfl rfl (by decide) rfl (by kernel_rfl) (by kernel_rfl) rfl rfl rfl ?_
          have hH25 := (Hold.set (i := 7) (by decide)).2 hH15
          refine ⟨hH25, ?_⟩
          refine XA.valD 8 17 (.pointer (some ⟨b_n, 0, none⟩)) rfl (by kernel_rfl) (by kernel_rfl) (by kernel_rfl) rfl (by kernel_rfl) rfl hH25 (fun hH26 => ?_)
          refine XA.op2 (i := 6) (j := 9) rfl rfl (by kernel_rfl) (by kernel_rfl) (by kernel_rfl) ?_ ?_
          · skip
            refine XO.callS (f := 45) (args := [(.agg #[.int .i64 (hi128 ((nrmOf a b c).x)), .int .u64 (lo128 ((nrmOf a b c).x))])].toArray) s12 rfl (by decide) (fun _ => by kernel_rfl) (limb_Sign_ok (av A _) _ s12.av_fresh ((nrmOf a b c).x) ) (fun _ w27 s27 ev27 kp27 hv_ => ?_)
            obtain rfl := hv_
            have hH28 := hH26.keep (i := 6) kp27 rfl
            refine ⟨hH28, ?_⟩
            refine XA.op (i := 9) rfl (by kernel_rfl) (by kernel_rfl) (XO.loadB (v := .agg #[.int .i64 (hi128 n.x), .int .u64 (lo128 n.x)]) (g := true) (m := 2) s27 hb_n rfl rfl (by decide) rfl (by kernel_rfl) (by kernel_rfl) rfl rfl rfl ?_)
            have hH29 := (Hold.set (i := 9) (by decide)).2 hH28
            refine ⟨hH29, ?_⟩
            refine XA.op (i := 10) rfl (by kernel_rfl) (by kernel_rfl) (XO.callS (f := 45) (args := [(.agg #[.int .i64 (hi128 n.x), .int .u64 (lo128 n.x)])].toArray) s27 rfl (by decide) (fun _ => by kernel_rfl) (limb_Sign_ok (av A _) _ s27.av_fresh n.x ) (fun _ w30 s30 ev30 kp30 hv_ => ?_))
            obtain rfl := hv_
            have hH31 := hH29.keep (i := 10) kp30 rfl
            refine ⟨hH31, ?_⟩
            refine XA.arith (p := 11) (k := .i64) (r := (cmp128 ((nrmOf a b c).x) 0) * (cmp128 n.x 0)) rfl (by kernel_rfl) (by kernel_rfl) (by kernel_rfl) rfl (by kernel_rfl) rfl (by decide) (fun _ => by kernel_rfl) (wrap_i64 (by (first | exact cmp_mul_rng _ _ _ _ | omega))) hH31 (fun hH32 => ?_)
            refine XA.valD 12 8 (.int .i64 ((cmp128 ((nrmOf a b c).x) 0) * (cmp128 n.x 0))) rfl (by kernel_rfl) (by kernel_rfl) (by kernel_rfl) rfl (by kernel_rfl) rfl hH32 (fun hH33 => ?_)
            refine XA.done (by kernel_rfl) (thn_norm ?_)
            exact ⟨⟨rfl, trivial⟩, s30, (ev7.trans (ev12.trans (ev27.trans ev30)))⟩
          · skip
            refine XO.loadB (v := .agg #[.int .i64 (hi128 n.x), .int .u64 (lo128 n.x)]) (g := true) (m := 2) s12 hb_n rfl rfl (by decide) rfl (by kernel_rfl) (by kernel_rfl) rfl rfl rfl ?_
            have hH34 := (Hold.set (i := 9) (by decide)).2 hH26
            refine ⟨hH34, ?_⟩
            refine XA.op (i := 6) rfl (by kernel_rfl) (by kernel_rfl) (XO.callS (f := 45) (args := [(.agg #[.int .i64 (hi128 ((nrmOf a b c).x)), .int .u64 (lo128 ((nrmOf a b c).x))])].toArray) s12 rfl (by decide) (fun _ => by kernel_rfl) (limb_Sign_ok (av A _) _ s12.av_fresh ((nrmOf a b c).x) ) (fun _ w35 s35 ev35 kp35 hv_ => ?_))
            obtain rfl := hv_
            have hH36 := hH34.keep (i := 6) kp35 rfl
            refine ⟨hH36, ?_⟩
            refine XA.op (i := 10) rfl (by kernel_rfl) (by kernel_rfl) (XO.callS (f := 45) (args := [(.agg #[.int .i64 (hi128 n.x), .int .u64 (lo128 n.x)])].toArray) s35 rfl (by decide) (fun _ => by kernel_rfl) (limb_Sign_ok (av A _) _ s35.av_fresh n.x ) (fun _ w37 s37 ev37 kp37 hv_ => ?_))
            obtain rfl := hv_
            have hH38 := hH36.keep (i := 10) kp37 rfl
            refine ⟨hH38, ?_⟩
            refine XA.arith (p := 11) (k := .i64) (r := (cmp128 ((nrmOf a b c).x) 0) * (cmp128 n.x 0)) rfl (by kernel_rfl) (by kernel_rfl) (by kernel_rfl) rfl (by kernel_rfl) rfl (by decide) (fun _ => by kernel_rfl) (wrap_i64 (by (first | exact cmp_mul_rng _ _ _ _ | omega))) hH38 (fun hH39 => ?_)
            refine XA.valD 12 8 (.int .i64 ((cmp128 ((nrmOf a b c).x) 0) * (cmp128 n.x 0))) rfl (by kernel_rfl) (by kernel_rfl) (by kernel_rfl) rfl (by kernel_rfl) rfl hH39 (fun hH40 => ?_)
            refine XA.done (by kernel_rfl) (thn_norm ?_)
            exact ⟨⟨rfl, trivial⟩, s37, (ev7.trans (ev12.trans (ev35.trans ev37)))⟩
      · skip
        refine XO.loadB (v := .int .i64 0) (g := false) (m := 1) s12 hb_k rfl rfl (by decide) rfl (by kernel_rfl) (by kernel_rfl) rfl rfl rfl ?_
        have hH41 := (Hold.set (i := 7) (by decide)).2 hH13
        refine ⟨hH41, ?_⟩
        refine XA.valD 8 17 (.pointer (some ⟨b_n, 0, none⟩)) rfl (by kernel_rfl) (by kernel_rfl) (by kernel_rfl) rfl (by kernel_rfl) rfl hH41 (fun hH42 => ?_)
        refine XA.op2 (i := 4) (j := 9) rfl rfl (by kernel_rfl) (by kernel_rfl) (by kernel_rfl) ?_ ?_
        · skip
          refine XO.loadB (v := .int .i64 0) (g := false) (m := 1) s12 hb_k rfl rfl (by decide) rfl (by kernel_rfl) (by kernel_rfl) rfl rfl rfl ?_
          have hH43 := (Hold.set (i := 4) (by decide)).2 hH42
          refine ⟨hH43, ?_⟩
          refine XA.valD 5 14 (.agg #[.int .i64 (hi128 ((nrmOf a b c).x)), .int .u64 (lo128 ((nrmOf a b c).x))]) rfl (by kernel_rfl) (by kernel_rfl) (by kernel_rfl) rfl (by kernel_rfl) rfl hH43 (fun hH44 => ?_)
          refine XA.op2 (i := 6) (j := 9) rfl rfl (by kernel_rfl) (by kernel_rfl) (by kernel_rfl) ?_ ?_
          · skip
            refine XO.callS (f := 45) (args := [(.agg #[.int .i64 (hi128 ((nrmOf a b c).x)), .int .u64 (lo128 ((nrmOf a b c).x))])].toArray) s12 rfl (by decide) (fun _ => by kernel_rfl) (limb_Sign_ok (av A _) _ s12.av_fresh ((nrmOf a b c).x) ) (fun _ w45 s45 ev45 kp45 hv_ => ?_)
            obtain rfl := hv_
            have hH46 := hH44.keep (i := 6) kp45 rfl
            refine ⟨hH46, ?_⟩
            refine XA.op (i := 9) rfl (by kernel_rfl) (by kernel_rfl) (XO.loadB (v := .agg #[.int .i64 (hi128 n.x), .int .u64 (lo128 n.x)]) (g := true) (m := 2) s45 hb_n rfl rfl (by decide) rfl (by kernel_rfl) (by kernel_rfl) rfl rfl rfl ?_)
            have hH47 := (Hold.set (i := 9) (by decide)).2 hH46
            refine ⟨hH47, ?_⟩
            refine XA.op (i := 10) rfl (by kernel_rfl) (by kernel_rfl) (XO.callS (f := 45) (args := [(.agg #[.int .i64 (hi128 n.x), .int .u64 (lo128 n.x)])].toArray) s45 rfl (by decide) (fun _ => by kernel_rfl) (limb_Sign_ok (av A _) _ s45.av_fresh n.x ) (fun _ w48 s48 ev48 kp48 hv_ => ?_))
            obtain rfl := hv_
            have hH49 := hH47.keep (i := 10) kp48 rfl
            refine ⟨hH49, ?_⟩
            refine XA.arith (p := 11) (k := .i64) (r := (cmp128 ((nrmOf a b c).x) 0) * (cmp128 n.x 0)) rfl (by kernel_rfl) (by kernel_rfl) (by kernel_rfl) rfl (by kernel_rfl) rfl (by decide) (fun _ => by kernel_rfl) (wrap_i64 (by (first | exact cmp_mul_rng _ _ _ _ | omega))) hH49 (fun hH50 => ?_)
            refine XA.valD 12 8 (.int .i64 ((cmp128 ((nrmOf a b c).x) 0) * (cmp128 n.x 0))) rfl (by kernel_rfl) (by kernel_rfl) (by kernel_rfl) rfl (by kernel_rfl) rfl hH50 (fun hH51 => ?_)
            refine XA.done (by kernel_rfl) (thn_norm ?_)
            exact ⟨⟨rfl, trivial⟩, s48, (ev7.trans (ev12.trans (ev45.trans ev48)))⟩
          · skip
            refine XO.loadB (v := .agg #[.int .i64 (hi128 n.x), .int .u64 (lo128 n.x)]) (g := true) (m := 2) s12 hb_n rfl rfl (by decide) rfl (by kernel_rfl) (by kernel_rfl) rfl rfl rfl ?_
            have hH52 := (Hold.set (i := 9) (by decide)).2 hH44
            refine ⟨hH52, ?_⟩
            refine XA.op (i := 6) rfl (by kernel_rfl) (by kernel_rfl) (XO.callS (f := 45) (args := [(.agg #[.int .i64 (hi128 ((nrmOf a b c).x)), .int .u64 (lo128 ((nrmOf a b c).x))])].toArray) s12 rfl (by decide) (fun _ => by kernel_rfl) (limb_Sign_ok (av A _) _ s12.av_fresh ((nrmOf a b c).x) ) (fun _ w53 s53 ev53 kp53 hv_ => ?_))
            obtain rfl := hv_
            have hH54 := hH52.keep (i := 6) kp53 rfl
            refine ⟨hH54, ?_⟩
            refine XA.op (i := 10) rfl (by kernel_rfl) (by kernel_rfl) (XO.callS (f := 45) (args := [(.agg #[.int .i64 (hi128 n.x), .int .u64 (lo128 n.x)])].toArray) s53 rfl (by decide) (fun _ => by kernel_rfl) (limb_Sign_ok (av A _) _ s53.av_fresh n.x ) (fun _ w55 s55 ev55 kp55 hv_ => ?_))
            obtain rfl := hv_
            have hH56 := hH54.keep (i := 10) kp55 rfl
            refine ⟨hH56, ?_⟩
            refine XA.arith (p := 11) (k := .i64) (r := (cmp128 ((nrmOf a b c).x) 0) * (cmp128 n.x 0)) rfl (by kernel_rfl) (by kernel_rfl) (by kernel_rfl) rfl (by kernel_rfl) rfl (by decide) (fun _ => by kernel_rfl) (wrap_i64 (by (first | exact cmp_mul_rng _ _ _ _ | omega))) hH56 (fun hH57 => ?_)
            refine XA.valD 12 8 (.int .i64 ((cmp128 ((nrmOf a b c).x) 0) * (cmp128 n.x 0))) rfl (by kernel_rfl) (by kernel_rfl) (by kernel_rfl) rfl (by kernel_rfl) rfl hH57 (fun hH58 => ?_)
            refine XA.done (by kernel_rfl) (thn_norm ?_)
            exact ⟨⟨rfl, trivial⟩, s55, (ev7.trans (ev12.trans (ev53.trans ev55)))⟩
        · skip
          refine XO.loadB (v := .agg #[.int .i64 (hi128 n.x), .int .u64 (lo128 n.x)]) (g := true) (m := 2) s12 hb_n rfl rfl (by decide) rfl (by kernel_rfl) (by kernel_rfl) rfl rfl rfl ?_
          have hH59 := (Hold.set (i := 9) (by decide)).2 hH42
          refine ⟨hH59, ?_⟩
          refine XA.op (i := 4) rfl (by kernel_rfl) (by kernel_rfl) (XO.loadB (v := .int .i64 0) (g := false) (m := 1) s12 hb_k rfl rfl (by decide) rfl (by kernel_rfl) (by kernel_rfl) rfl rfl rfl ?_)
          have hH60 := (Hold.set (i := 4) (by decide)).2 hH59
          refine ⟨hH60, ?_⟩
          refine XA.valD 5 14 (.agg #[.int .i64 (hi128 ((nrmOf a b c).x)), .int .u64 (lo128 ((nrmOf a b c).x))]) rfl (by kernel_rfl) (by kernel_rfl) (by kernel_rfl) rfl (by kernel_rfl) rfl hH60 (fun hH61 => ?_)
          refine XA.op (i := 6) rfl (by kernel_rfl) (by kernel_rfl) (XO.callS (f := 45) (args := [(.agg #[.int .i64 (hi128 ((nrmOf a b c).x)), .int .u64 (lo128 ((nrmOf a b c).x))])].toArray) s12 rfl (by decide) (fun _ => by kernel_rfl) (limb_Sign_ok (av A _) _ s12.av_fresh ((nrmOf a b c).x) ) (fun _ w62 s62 ev62 kp62 hv_ => ?_))
          obtain rfl := hv_
          have hH63 := hH61.keep (i := 6) kp62 rfl
          refine ⟨hH63, ?_⟩
          refine XA.op (i := 10) rfl (by kernel_rfl) (by kernel_rfl) (XO.callS (f := 45) (args := [(.agg #[.int .i64 (hi128 n.x), .int .u64 (lo128 n.x)])].toArray) s62 rfl (by decide) (fun _ => by kernel_rfl) (limb_Sign_ok (av A _) _ s62.av_fresh n.x ) (fun _ w64 s64 ev64 kp64 hv_ => ?_))
          obtain rfl := hv_
          have hH65 := hH63.keep (i := 10) kp64 rfl
          refine ⟨hH65, ?_⟩
          refine XA.arith (p := 11) (k := .i64) (r := (cmp128 ((nrmOf a b c).x) 0) * (cmp128 n.x 0)) rfl (by kernel_rfl) (by kernel_rfl) (by kernel_rfl) rfl (by kernel_rfl) rfl (by decide) (fun _ => by kernel_rfl) (wrap_i64 (by (first | exact cmp_mul_rng _ _ _ _ | omega))) hH65 (fun hH66 => ?_)
          refine XA.valD 12 8 (.int .i64 ((cmp128 ((nrmOf a b c).x) 0) * (cmp128 n.x 0))) rfl (by kernel_rfl) (by kernel_rfl) (by kernel_rfl) rfl (by kernel_rfl) rfl hH66 (fun hH67 => ?_)
          refine XA.done (by kernel_rfl) (thn_norm ?_)
          exact ⟨⟨rfl, trivial⟩, s64, (ev7.trans (ev12.trans (ev62.trans ev64)))⟩
    · skip
      refine XO.loadB (v := .int .i64 0) (g := false) (m := 1) s7 hb_k rfl rfl (by decide) rfl (by kernel_rfl) (by kernel_rfl) rfl rfl rfl ?_
      have hH68 := (Hold.set (i := 4) (by decide)).2 hH11
      refine ⟨hH68, ?_⟩
      refine XA.op2 (i := 3) (j := 7) rfl rfl (by kernel_rfl) (by kernel_rfl) (by kernel_rfl) ?_ ?_
      · skip
        refine XO.callS (f := 26) (args := [(.agg #[.int .i64 a.x, .int .i64 a.y, .int .i64 a.z]), (.agg #[.int .i64 b.x, .int .i64 b.y, .int .i64 b.z]), (.agg #[.int .i64 c.x, .int .i64 c.y, .int .i64 c.z])].toArray) s7 rfl (by decide) (fun _ => by kernel_rfl) (clean_normal_ok (av A _) _ s7.av_fresh a b c (by assumption) (by assumption) (by assumption)) (fun _ w69 s69 ev69 kp69 hv_ => ?_)
        obtain rfl := hv_
        have hH70 := hH68.keep (i := 3) kp69 rfl
        refine ⟨hH70, ?_⟩
        refine XA.valD 5 14 (.agg #[.int .i64 (hi128 ((nrmOf a b c).x)), .int .u64 (lo128 ((nrmOf a b c).x))]) rfl (by kernel_rfl) (by kernel_rfl) (by kernel_rfl) rfl (by kernel_rfl) rfl hH70 (fun hH71 => ?_)
        refine XA.op2 (i := 6) (j := 7) rfl rfl (by kernel_rfl) (by kernel_rfl) (by kernel_rfl) ?_ ?_
        · skip
          refine XO.callS (f := 45) (args := [(.agg #[.int .i64 (hi128 ((nrmOf a b c).x)), .int .u64 (lo128 ((nrmOf a b c).x))])].toArray) s69 rfl (by decide) (fun _ => by kernel_rfl) (limb_Sign_ok (av A _) _ s69.av_fresh ((nrmOf a b c).x) ) (fun _ w72 s72 ev72 kp72 hv_ => ?_)
          obtain rfl := hv_
          have hH73 := hH71.keep (i := 6) kp72 rfl
          refine ⟨hH73, ?_⟩
          refine XA.op (i := 7) rfl (by kernel_rfl) (by kernel_rfl) (XO.loadB (v := .int .i64 0) (g := false) (m := 1) s72 hb_k rfl rfl (by decide) rfl (by kernel_rfl) (by kernel_rfl) rfl rfl rfl ?_)
          have hH74 := (Hold.set (i := 7) (by decide)).2 hH73
          refine ⟨hH74, ?_⟩
          refine XA.valD 8 17 (.pointer (some ⟨b_n, 0, none⟩)) rfl (by kernel_rfl) (by kernel_rfl) (by kernel_rfl) rfl (by kernel_rfl) rfl hH74 (fun hH75 => ?_)
          refine XA.op (i := 9) rfl (by kernel_rfl) (by kernel_rfl) (XO.loadB (v := .agg #[.int .i64 (hi128 n.x), .int .u64 (lo128 n.x)]) (g := true) (m := 2) s72 hb_n rfl rfl (by decide) rfl (by kernel_rfl) (by kernel_rfl) rfl rfl rfl ?_)
          have hH76 := (Hold.set (i := 9) (by decide)).2 hH75
          refine ⟨hH76, ?_⟩
          refine XA.op (i := 10) rfl (by kernel_rfl) (by kernel_rfl) (XO.callS (f := 45) (args := [(.agg #[.int .i64 (hi128 n.x), .int .u64 (lo128 n.x)])].toArray) s72 rfl (by decide) (fun _ => by kernel_rfl) (limb_Sign_ok (av A _) _ s72.av_fresh n.x ) (fun _ w77 s77 ev77 kp77 hv_ => ?_))
          obtain rfl := hv_
          have hH78 := hH76.keep (i := 10) kp77 rfl
          refine ⟨hH78, ?_⟩
          refine XA.arith (p := 11) (k := .i64) (r := (cmp128 ((nrmOf a b c).x) 0) * (cmp128 n.x 0)) rfl (by kernel_rfl) (by kernel_rfl) (by kernel_rfl) rfl (by kernel_rfl) rfl (by decide) (fun _ => by kernel_rfl) (wrap_i64 (by (first | exact cmp_mul_rng _ _ _ _ | omega))) hH78 (fun hH79 => ?_)
          refine XA.valD 12 8 (.int .i64 ((cmp128 ((nrmOf a b c).x) 0) * (cmp128 n.x 0))) rfl (by kernel_rfl) (by kernel_rfl) (by kernel_rfl) rfl (by kernel_rfl) rfl hH79 (fun hH80 => ?_)
          refine XA.done (by kernel_rfl) (thn_norm ?_)
          exact ⟨⟨rfl, trivial⟩, s77, (ev7.trans (ev69.trans (ev72.trans ev77)))⟩
        · skip
          refine XO.loadB (v := .int .i64 0) (g := false) (m := 1) s69 hb_k rfl rfl (by decide) rfl (by kernel_rfl) (by kernel_rfl) rfl rfl rfl ?_
          have hH81 := (Hold.set (i := 7) (by decide)).2 hH71
          refine ⟨hH81, ?_⟩
          refine XA.valD 8 17 (.pointer (some ⟨b_n, 0, none⟩)) rfl (by kernel_rfl) (by kernel_rfl) (by kernel_rfl) rfl (by kernel_rfl) rfl hH81 (fun hH82 => ?_)
          refine XA.op2 (i := 6) (j := 9) rfl rfl (by kernel_rfl) (by kernel_rfl) (by kernel_rfl) ?_ ?_
          · skip
            refine XO.callS (f := 45) (args := [(.agg #[.int .i64 (hi128 ((nrmOf a b c).x)), .int .u64 (lo128 ((nrmOf a b c).x))])].toArray) s69 rfl (by decide) (fun _ => by kernel_rfl) (limb_Sign_ok (av A _) _ s69.av_fresh ((nrmOf a b c).x) ) (fun _ w83 s83 ev83 kp83 hv_ => ?_)
            obtain rfl := hv_
            have hH84 := hH82.keep (i := 6) kp83 rfl
            refine ⟨hH84, ?_⟩
            refine XA.op (i := 9) rfl (by kernel_rfl) (by kernel_rfl) (XO.loadB (v := .agg #[.int .i64 (hi128 n.x), .int .u64 (lo128 n.x)]) (g := true) (m := 2) s83 hb_n rfl rfl (by decide) rfl (by kernel_rfl) (by kernel_rfl) rfl rfl rfl ?_)
            have hH85 := (Hold.set (i := 9) (by decide)).2 hH84
            refine ⟨hH85, ?_⟩
            refine XA.op (i := 10) rfl (by kernel_rfl) (by kernel_rfl) (XO.callS (f := 45) (args := [(.agg #[.int .i64 (hi128 n.x), .int .u64 (lo128 n.x)])].toArray) s83 rfl (by decide) (fun _ => by kernel_rfl) (limb_Sign_ok (av A _) _ s83.av_fresh n.x ) (fun _ w86 s86 ev86 kp86 hv_ => ?_))
            obtain rfl := hv_
            have hH87 := hH85.keep (i := 10) kp86 rfl
            refine ⟨hH87, ?_⟩
            refine XA.arith (p := 11) (k := .i64) (r := (cmp128 ((nrmOf a b c).x) 0) * (cmp128 n.x 0)) rfl (by kernel_rfl) (by kernel_rfl) (by kernel_rfl) rfl (by kernel_rfl) rfl (by decide) (fun _ => by kernel_rfl) (wrap_i64 (by (first | exact cmp_mul_rng _ _ _ _ | omega))) hH87 (fun hH88 => ?_)
            refine XA.valD 12 8 (.int .i64 ((cmp128 ((nrmOf a b c).x) 0) * (cmp128 n.x 0))) rfl (by kernel_rfl) (by kernel_rfl) (by kernel_rfl) rfl (by kernel_rfl) rfl hH88 (fun hH89 => ?_)
            refine XA.done (by kernel_rfl) (thn_norm ?_)
            exact ⟨⟨rfl, trivial⟩, s86, (ev7.trans (ev69.trans (ev83.trans ev86)))⟩
          · skip
            refine XO.loadB (v := .agg #[.int .i64 (hi128 n.x), .int .u64 (lo128 n.x)]) (g := true) (m := 2) s69 hb_n rfl rfl (by decide) rfl (by kernel_rfl) (by kernel_rfl) rfl rfl rfl ?_
            have hH90 := (Hold.set (i := 9) (by decide)).2 hH82
            refine ⟨hH90, ?_⟩
            refine XA.op (i := 6) rfl (by kernel_rfl) (by kernel_rfl) (XO.callS (f := 45) (args := [(.agg #[.int .i64 (hi128 ((nrmOf a b c).x)), .int .u64 (lo128 ((nrmOf a b c).x))])].toArray) s69 rfl (by decide) (fun _ => by kernel_rfl) (limb_Sign_ok (av A _) _ s69.av_fresh ((nrmOf a b c).x) ) (fun _ w91 s91 ev91 kp91 hv_ => ?_))
            obtain rfl := hv_
            have hH92 := hH90.keep (i := 6) kp91 rfl
            refine ⟨hH92, ?_⟩
            refine XA.op (i := 10) rfl (by kernel_rfl) (by kernel_rfl) (XO.callS (f := 45) (args := [(.agg #[.int .i64 (hi128 n.x), .int .u64 (lo128 n.x)])].toArray) s91 rfl (by decide) (fun _ => by kernel_rfl) (limb_Sign_ok (av A _) _ s91.av_fresh n.x ) (fun _ w93 s93 ev93 kp93 hv_ => ?_))
            obtain rfl := hv_
            have hH94 := hH92.keep (i := 10) kp93 rfl
            refine ⟨hH94, ?_⟩
            refine XA.arith (p := 11) (k := .i64) (r := (cmp128 ((nrmOf a b c).x) 0) * (cmp128 n.x 0)) rfl (by kernel_rfl) (by kernel_rfl) (by kernel_rfl) rfl (by kernel_rfl) rfl (by decide) (fun _ => by kernel_rfl) (wrap_i64 (by (first | exact cmp_mul_rng _ _ _ _ | omega))) hH94 (fun hH95 => ?_)
            refine XA.valD 12 8 (.int .i64 ((cmp128 ((nrmOf a b c).x) 0) * (cmp128 n.x 0))) rfl (by kernel_rfl) (by kernel_rfl) (by kernel_rfl) rfl (by kernel_rfl) rfl hH95 (fun hH96 => ?_)
            refine XA.done (by kernel_rfl) (thn_norm ?_)
            exact ⟨⟨rfl, trivial⟩, s93, (ev7.trans (ev69.trans (ev91.trans ev93)))⟩
      · skip
        refine XO.loadB (v := .int .i64 0) (g := false) (m := 1) s7 hb_k rfl rfl (by decide) rfl (by kernel_rfl) (by kernel_rfl) rfl rfl rfl ?_
        have hH97 := (Hold.set (i := 7) (by decide)).2 hH68
        refine ⟨hH97, ?_⟩
        refine XA.valD 8 17 (.pointer (some ⟨b_n, 0, none⟩)) rfl (by kernel_rfl) (by kernel_rfl) (by kernel_rfl) rfl (by kernel_rfl) rfl hH97 (fun hH98 => ?_)
        refine XA.op2 (i := 3) (j := 9) rfl rfl (by kernel_rfl) (by kernel_rfl) (by kernel_rfl) ?_ ?_
        · skip
          refine XO.callS (f := 26) (args := [(.agg #[.int .i64 a.x, .int .i64 a.y, .int .i64 a.z]), (.agg #[.int .i64 b.x, .int .i64 b.y, .int .i64 b.z]), (.agg #[.int .i64 c.x, .int .i64 c.y, .int .i64 c.z])].toArray) s7 rfl (by decide) (fun _ => by kernel_rfl) (clean_normal_ok (av A _) _ s7.av_fresh a b c (by assumption) (by assumption) (by assumption)) (fun _ w99 s99 ev99 kp99 hv_ => ?_)
          obtain rfl := hv_
          have hH100 := hH98.keep (i := 3) kp99 rfl
          refine ⟨hH100, ?_⟩
          refine XA.valD 5 14 (.agg #[.int .i64 (hi128 ((nrmOf a b c).x)), .int .u64 (lo128 ((nrmOf a b c).x))]) rfl (by kernel_rfl) (by kernel_rfl) (by kernel_rfl) rfl (by kernel_rfl) rfl hH100 (fun hH101 => ?_)
          refine XA.op2 (i := 6) (j := 9) rfl rfl (by kernel_rfl) (by kernel_rfl) (by kernel_rfl) ?_ ?_
          · skip
            refine XO.callS (f := 45) (args := [(.agg #[.int .i64 (hi128 ((nrmOf a b c).x)), .int .u64 (lo128 ((nrmOf a b c).x))])].toArray) s99 rfl (by decide) (fun _ => by kernel_rfl) (limb_Sign_ok (av A _) _ s99.av_fresh ((nrmOf a b c).x) ) (fun _ w102 s102 ev102 kp102 hv_ => ?_)
            obtain rfl := hv_
            have hH103 := hH101.keep (i := 6) kp102 rfl
            refine ⟨hH103, ?_⟩
            refine XA.op (i := 9) rfl (by kernel_rfl) (by kernel_rfl) (XO.loadB (v := .agg #[.int .i64 (hi128 n.x), .int .u64 (lo128 n.x)]) (g := true) (m := 2) s102 hb_n rfl rfl (by decide) rfl (by kernel_rfl) (by kernel_rfl) rfl rfl rfl ?_)
            have hH104 := (Hold.set (i := 9) (by decide)).2 hH103
            refine ⟨hH104, ?_⟩
            refine XA.op (i := 10) rfl (by kernel_rfl) (by kernel_rfl) (XO.callS (f := 45) (args := [(.agg #[.int .i64 (hi128 n.x), .int .u64 (lo128 n.x)])].toArray) s102 rfl (by decide) (fun _ => by kernel_rfl) (limb_Sign_ok (av A _) _ s102.av_fresh n.x ) (fun _ w105 s105 ev105 kp105 hv_ => ?_))
            obtain rfl := hv_
            have hH106 := hH104.keep (i := 10) kp105 rfl
            refine ⟨hH106, ?_⟩
            refine XA.arith (p := 11) (k := .i64) (r := (cmp128 ((nrmOf a b c).x) 0) * (cmp128 n.x 0)) rfl (by kernel_rfl) (by kernel_rfl) (by kernel_rfl) rfl (by kernel_rfl) rfl (by decide) (fun _ => by kernel_rfl) (wrap_i64 (by (first | exact cmp_mul_rng _ _ _ _ | omega))) hH106 (fun hH107 => ?_)
            refine XA.valD 12 8 (.int .i64 ((cmp128 ((nrmOf a b c).x) 0) * (cmp128 n.x 0))) rfl (by kernel_rfl) (by kernel_rfl) (by kernel_rfl) rfl (by kernel_rfl) rfl hH107 (fun hH108 => ?_)
            refine XA.done (by kernel_rfl) (thn_norm ?_)
            exact ⟨⟨rfl, trivial⟩, s105, (ev7.trans (ev99.trans (ev102.trans ev105)))⟩
          · skip
            refine XO.loadB (v := .agg #[.int .i64 (hi128 n.x), .int .u64 (lo128 n.x)]) (g := true) (m := 2) s99 hb_n rfl rfl (by decide) rfl (by kernel_rfl) (by kernel_rfl) rfl rfl rfl ?_
            have hH109 := (Hold.set (i := 9) (by decide)).2 hH101
            refine ⟨hH109, ?_⟩
            refine XA.op (i := 6) rfl (by kernel_rfl) (by kernel_rfl) (XO.callS (f := 45) (args := [(.agg #[.int .i64 (hi128 ((nrmOf a b c).x)), .int .u64 (lo128 ((nrmOf a b c).x))])].toArray) s99 rfl (by decide) (fun _ => by kernel_rfl) (limb_Sign_ok (av A _) _ s99.av_fresh ((nrmOf a b c).x) ) (fun _ w110 s110 ev110 kp110 hv_ => ?_))
            obtain rfl := hv_
            have hH111 := hH109.keep (i := 6) kp110 rfl
            refine ⟨hH111, ?_⟩
            refine XA.op (i := 10) rfl (by kernel_rfl) (by kernel_rfl) (XO.callS (f := 45) (args := [(.agg #[.int .i64 (hi128 n.x), .int .u64 (lo128 n.x)])].toArray) s110 rfl (by decide) (fun _ => by kernel_rfl) (limb_Sign_ok (av A _) _ s110.av_fresh n.x ) (fun _ w112 s112 ev112 kp112 hv_ => ?_))
            obtain rfl := hv_
            have hH113 := hH111.keep (i := 10) kp112 rfl
            refine ⟨hH113, ?_⟩
            refine XA.arith (p := 11) (k := .i64) (r := (cmp128 ((nrmOf a b c).x) 0) * (cmp128 n.x 0)) rfl (by kernel_rfl) (by kernel_rfl) (by kernel_rfl) rfl (by kernel_rfl) rfl (by decide) (fun _ => by kernel_rfl) (wrap_i64 (by (first | exact cmp_mul_rng _ _ _ _ | omega))) hH113 (fun hH114 => ?_)
            refine XA.valD 12 8 (.int .i64 ((cmp128 ((nrmOf a b c).x) 0) * (cmp128 n.x 0))) rfl (by kernel_rfl) (by kernel_rfl) (by kernel_rfl) rfl (by kernel_rfl) rfl hH114 (fun hH115 => ?_)
            refine XA.done (by kernel_rfl) (thn_norm ?_)
            exact ⟨⟨rfl, trivial⟩, s112, (ev7.trans (ev99.trans (ev110.trans ev112)))⟩
        · skip
          refine XO.loadB (v := .agg #[.int .i64 (hi128 n.x), .int .u64 (lo128 n.x)]) (g := true) (m := 2) s7 hb_n rfl rfl (by decide) rfl (by kernel_rfl) (by kernel_rfl) rfl rfl rfl ?_
          have hH116 := (Hold.set (i := 9) (by decide)).2 hH98
          refine ⟨hH116, ?_⟩
          refine XA.op (i := 3) rfl (by kernel_rfl) (by kernel_rfl) (XO.callS (f := 26) (args := [(.agg #[.int .i64 a.x, .int .i64 a.y, .int .i64 a.z]), (.agg #[.int .i64 b.x, .int .i64 b.y, .int .i64 b.z]), (.agg #[.int .i64 c.x, .int .i64 c.y, .int .i64 c.z])].toArray) s7 rfl (by decide) (fun _ => by kernel_rfl) (clean_normal_ok (av A _) _ s7.av_fresh a b c (by assumption) (by assumption) (by assumption)) (fun _ w117 s117 ev117 kp117 hv_ => ?_))
          obtain rfl := hv_
          have hH118 := hH116.keep (i := 3) kp117 rfl
          refine ⟨hH118, ?_⟩
          refine XA.valD 5 14 (.agg #[.int .i64 (hi128 ((nrmOf a b c).x)), .int .u64 (lo128 ((nrmOf a b c).x))]) rfl (by kernel_rfl) (by kernel_rfl) (by kernel_rfl) rfl (by kernel_rfl) rfl hH118 (fun hH119 => ?_)
          refine XA.op (i := 6) rfl (by kernel_rfl) (by kernel_rfl) (XO.callS (f := 45) (args := [(.agg #[.int .i64 (hi128 ((nrmOf a b c).x)), .int .u64 (lo128 ((nrmOf a b c).x))])].toArray) s117 rfl (by decide) (fun _ => by kernel_rfl) (limb_Sign_ok (av A _) _ s117.av_fresh ((nrmOf a b c).x) ) (fun _ w120 s120 ev120 kp120 hv_ => ?_))
          obtain rfl := hv_
          have hH121 := hH119.keep (i := 6) kp120 rfl
          refine ⟨hH121, ?_⟩
          refine XA.op (i := 10) rfl (by kernel_rfl) (by kernel_rfl) (XO.callS (f := 45) (args := [(.agg #[.int .i64 (hi128 n.x), .int .u64 (lo128 n.x)])].toArray) s120 rfl (by decide) (fun _ => by kernel_rfl) (limb_Sign_ok (av A _) _ s120.av_fresh n.x ) (fun _ w122 s122 ev122 kp122 hv_ => ?_))
          obtain rfl := hv_
          have hH123 := hH121.keep (i := 10) kp122 rfl
          refine ⟨hH123, ?_⟩
          refine XA.arith (p := 11) (k := .i64) (r := (cmp128 ((nrmOf a b c).x) 0) * (cmp128 n.x 0)) rfl (by kernel_rfl) (by kernel_rfl) (by kernel_rfl) rfl (by kernel_rfl) rfl (by decide) (fun _ => by kernel_rfl) (wrap_i64 (by (first | exact cmp_mul_rng _ _ _ _ | omega))) hH123 (fun hH124 => ?_)
          refine XA.valD 12 8 (.int .i64 ((cmp128 ((nrmOf a b c).x) 0) * (cmp128 n.x 0))) rfl (by kernel_rfl) (by kernel_rfl) (by kernel_rfl) rfl (by kernel_rfl) rfl hH124 (fun hH125 => ?_)
          refine XA.done (by kernel_rfl) (thn_norm ?_)
          exact ⟨⟨rfl, trivial⟩, s122, (ev7.trans (ev117.trans (ev120.trans ev122)))⟩
    · skip
      refine XO.loadB (v := .int .i64 0) (g := false) (m := 1) s7 hb_k rfl rfl (by decide) rfl (by kernel_rfl) (by kernel_rfl) rfl rfl rfl ?_
      have hH126 := (Hold.set (i := 7) (by decide)).2 hH11
      refine ⟨hH126, ?_⟩
      refine XA.valD 8 17 (.pointer (some ⟨b_n, 0, none⟩)) rfl (by kernel_rfl) (by kernel_rfl) (by kernel_rfl) rfl (by kernel_rfl) rfl hH126 (fun hH127 => ?_)
      refine XA.op3 (i := 3) (j := 4) (k := 9) rfl rfl rfl (by kernel_rfl) (by kernel_rfl) (by kernel_rfl) (by kernel_rfl) ?_ ?_ ?_
      · skip
        refine XO.callS (f := 26) (args := [(.agg #[.int .i64 a.x, .int .i64 a.y, .int .i64 a.z]), (.agg #[.int .i64 b.x, .int .i64 b.y, .int .i64 b.z]), (.agg #[.int .i64 c.x, .int .i64 c.y, .int .i64 c.z])].toArray) s7 rfl (by decide) (fun _ => by kernel_rfl) (clean_normal_ok (av A _) _ s7.av_fresh a b c (by assumption) (by assumption) (by assumption)) (fun _ w128 s128 ev128 kp128 hv_ => ?_)
        obtain rfl := hv_
        have hH129 := hH127.keep (i := 3) kp128 rfl
        refine ⟨hH129, ?_⟩
        refine XA.op2 (i := 4) (j := 9) rfl rfl (by kernel_rfl) (by kernel_rfl) (by kernel_rfl) ?_ ?_
        · skip
          refine XO.loadB (v := .int .i64 0) (g := false) (m := 1) s128 hb_k rfl rfl (by decide) rfl (by kernel_rfl) (by kernel_rfl) rfl rfl rfl ?_
          have hH130 := (Hold.set (i := 4) (by decide)).2 hH129
          refine ⟨hH130, ?_⟩
          refine XA.valD 5 14 (.agg #[.int .i64 (hi128 ((nrmOf a b c).x)), .int .u64 (lo128 ((nrmOf a b c).x))]) rfl (by kernel_rfl) (by kernel_rfl) (by kernel_rfl) rfl (by kernel_rfl) rfl hH130 (fun hH131 => ?_)
          refine XA.op2 (i := 6) (j := 9) rfl rfl (by kernel_rfl) (by kernel_rfl) (by kernel_rfl) ?_ ?_
          · skip
            refine XO.callS (f := 45) (args := [(.agg #[.int .i64 (hi128 ((nrmOf a b c).x)), .int .u64 (lo128 ((nrmOf a b c).x))])].toArray) s128 rfl (by decide) (fun _ => by kernel_rfl) (limb_Sign_ok (av A _) _ s128.av_fresh ((nrmOf a b c).x) ) (fun _ w132 s132 ev132 kp132 hv_ => ?_)
            obtain rfl := hv_
            have hH133 := hH131.keep (i := 6) kp132 rfl
            refine ⟨hH133, ?_⟩
            refine XA.op (i := 9) rfl (by kernel_rfl) (by kernel_rfl) (XO.loadB (v := .agg #[.int .i64 (hi128 n.x), .int .u64 (lo128 n.x)]) (g := true) (m := 2) s132 hb_n rfl rfl (by decide) rfl (by kernel_rfl) (by kernel_rfl) rfl rfl rfl ?_)
            have hH134 := (Hold.set (i := 9) (by decide)).2 hH133
            refine ⟨hH134, ?_⟩
            refine XA.op (i := 10) rfl (by kernel_rfl) (by kernel_rfl) (XO.callS (f := 45) (args := [(.agg #[.int .i64 (hi128 n.x), .int .u64 (lo128 n.x)])].toArray) s132 rfl (by decide) (fun _ => by kernel_rfl) (limb_Sign_ok (av A _) _ s132.av_fresh n.x ) (fun _ w135 s135 ev135 kp135 hv_ => ?_))
            obtain rfl := hv_
            have hH136 := hH134.keep (i := 10) kp135 rfl
            refine ⟨hH136, ?_⟩
            refine XA.arith (p := 11) (k := .i64) (r := (cmp128 ((nrmOf a b c).x) 0) * (cmp128 n.x 0)) rfl (by kernel_rfl) (by kernel_rfl) (by kernel_rfl) rfl (by kernel_rfl) rfl (by decide) (fun _ => by kernel_rfl) (wrap_i64 (by (first | exact cmp_mul_rng _ _ _ _ | omega))) hH136 (fun hH137 => ?_)
            refine XA.valD 12 8 (.int .i64 ((cmp128 ((nrmOf a b c).x) 0) * (cmp128 n.x 0))) rfl (by kernel_rfl) (by kernel_rfl) (by kernel_rfl) rfl (by kernel_rfl) rfl hH137 (fun hH138 => ?_)
            refine XA.done (by kernel_rfl) (thn_norm ?_)
            exact ⟨⟨rfl, trivial⟩, s135, (ev7.trans (ev128.trans (ev132.trans ev135)))⟩
          · skip
            refine XO.loadB (v := .agg #[.int .i64 (hi128 n.x), .int .u64 (lo128 n.x)]) (g := true) (m := 2) s128 hb_n rfl rfl (by decide) rfl (by kernel_rfl) (by kernel_rfl) rfl rfl rfl ?_
            have hH139 := (Hold.set (i := 9) (by decide)).2 hH131
            refine ⟨hH139, ?_⟩
            refine XA.op (i := 6) rfl (by kernel_rfl) (by kernel_rfl) (XO.callS (f := 45) (args := [(.agg #[.int .i64 (hi128 ((nrmOf a b c).x)), .int .u64 (lo128 ((nrmOf a b c).x))])].toArray) s128 rfl (by decide) (fun _ => by kernel_rfl) (limb_Sign_ok (av A _) _ s128.av_fresh ((nrmOf a b c).x) ) (fun _ w140 s140 ev140 kp140 hv_ => ?_))
            obtain rfl := hv_
            have hH141 := hH139.keep (i := 6) kp140 rfl
            refine ⟨hH141, ?_⟩
            refine XA.op (i := 10) rfl (by kernel_rfl) (by kernel_rfl) (XO.callS (f := 45) (args := [(.agg #[.int .i64 (hi128 n.x), .int .u64 (lo128 n.x)])].toArray) s140 rfl (by decide) (fun _ => by kernel_rfl) (limb_Sign_ok (av A _) _ s140.av_fresh n.x ) (fun _ w142 s142 ev142 kp142 hv_ => ?_))
            obtain rfl := hv_
            have hH143 := hH141.keep (i := 10) kp142 rfl
            refine ⟨hH143, ?_⟩
            refine XA.arith (p := 11) (k := .i64) (r := (cmp128 ((nrmOf a b c).x) 0) * (cmp128 n.x 0)) rfl (by kernel_rfl) (by kernel_rfl) (by kernel_rfl) rfl (by kernel_rfl) rfl (by decide) (fun _ => by kernel_rfl) (wrap_i64 (by (first | exact cmp_mul_rng _ _ _ _ | omega))) hH143 (fun hH144 => ?_)
            refine XA.valD 12 8 (.int .i64 ((cmp128 ((nrmOf a b c).x) 0) * (cmp128 n.x 0))) rfl (by kernel_rfl) (by kernel_rfl) (by kernel_rfl) rfl (by kernel_rfl) rfl hH144 (fun hH145 => ?_)
            refine XA.done (by kernel_rfl) (thn_norm ?_)
            exact ⟨⟨rfl, trivial⟩, s142, (ev7.trans (ev128.trans (ev140.trans ev142)))⟩
        · skip
          refine XO.loadB (v := .agg #[.int .i64 (hi128 n.x), .int .u64 (lo128 n.x)]) (g := true) (m := 2) s128 hb_n rfl rfl (by decide) rfl (by kernel_rfl) (by kernel_rfl) rfl rfl rfl ?_
          have hH146 := (Hold.set (i := 9) (by decide)).2 hH129
          refine ⟨hH146, ?_⟩
          refine XA.op (i := 4) rfl (by kernel_rfl) (by kernel_rfl) (XO.loadB (v := .int .i64 0) (g := false) (m := 1) s128 hb_k rfl rfl (by decide) rfl (by kernel_rfl) (by kernel_rfl) rfl rfl rfl ?_)
          have hH147 := (Hold.set (i := 4) (by decide)).2 hH146
          refine ⟨hH147, ?_⟩
          refine XA.valD 5 14 (.agg #[.int .i64 (hi128 ((nrmOf a b c).x)), .int .u64 (lo128 ((nrmOf a b c).x))]) rfl (by kernel_rfl) (by kernel_rfl) (by kernel_rfl) rfl (by kernel_rfl) rfl hH147 (fun hH148 => ?_)
          refine XA.op (i := 6) rfl (by kernel_rfl) (by kernel_rfl) (XO.callS (f := 45) (args := [(.agg #[.int .i64 (hi128 ((nrmOf a b c).x)), .int .u64 (lo128 ((nrmOf a b c).x))])].toArray) s128 rfl (by decide) (fun _ => by kernel_rfl) (limb_Sign_ok (av A _) _ s128.av_fresh ((nrmOf a b c).x) ) (fun _ w149 s149 ev149 kp149 hv_ => ?_))
          obtain rfl := hv_
          have hH150 := hH148.keep (i := 6) kp149 rfl
          refine ⟨hH150, ?_⟩
          refine XA.op (i := 10) rfl (by kernel_rfl) (by kernel_rfl) (XO.callS (f := 45) (args := [(.agg #[.int .i64 (hi128 n.x), .int .u64 (lo128 n.x)])].toArray) s149 rfl (by decide) (fun _ => by kernel_rfl) (limb_Sign_ok (av A _) _ s149.av_fresh n.x ) (fun _ w151 s151 ev151 kp151 hv_ => ?_))
          obtain rfl := hv_
          have hH152 := hH150.keep (i := 10) kp151 rfl
          refine ⟨hH152, ?_⟩
          refine XA.arith (p := 11) (k := .i64) (r := (cmp128 ((nrmOf a b c).x) 0) * (cmp128 n.x 0)) rfl (by kernel_rfl) (by kernel_rfl) (by kernel_rfl) rfl (by kernel_rfl) rfl (by decide) (fun _ => by kernel_rfl) (wrap_i64 (by (first | exact cmp_mul_rng _ _ _ _ | omega))) hH152 (fun hH153 => ?_)
          refine XA.valD 12 8 (.int .i64 ((cmp128 ((nrmOf a b c).x) 0) * (cmp128 n.x 0))) rfl (by kernel_rfl) (by kernel_rfl) (by kernel_rfl) rfl (by kernel_rfl) rfl hH153 (fun hH154 => ?_)
          refine XA.done (by kernel_rfl) (thn_norm ?_)
          exact ⟨⟨rfl, trivial⟩, s151, (ev7.trans (ev128.trans (ev149.trans ev151)))⟩
      · skip
        refine XO.loadB (v := .int .i64 0) (g := false) (m := 1) s7 hb_k rfl rfl (by decide) rfl (by kernel_rfl) (by kernel_rfl) rfl rfl rfl ?_
        have hH155 := (Hold.set (i := 4) (by decide)).2 hH127
        refine ⟨hH155, ?_⟩
        refine XA.op2 (i := 3) (j := 9) rfl rfl (by kernel_rfl) (by kernel_rfl) (by kernel_rfl) ?_ ?_
        · skip
          refine XO.callS (f := 26) (args := [(.agg #[.int .i64 a.x, .int .i64 a.y, .int .i64 a.z]), (.agg #[.int .i64 b.x, .int .i64 b.y, .int .i64 b.z]), (.agg #[.int .i64 c.x, .int .i64 c.y, .int .i64 c.z])].toArray) s7 rfl (by decide) (fun _ => by kernel_rfl) (clean_normal_ok (av A _) _ s7.av_fresh a b c (by assumption) (by assumption) (by assumption)) (fun _ w156 s156 ev156 kp156 hv_ => ?_)
          obtain rfl := hv_
          have hH157 := hH155.keep (i := 3) kp156 rfl
          refine ⟨hH157, ?_⟩
          refine XA.valD 5 14 (.agg #[.int .i64 (hi128 ((nrmOf a b c).x)), .int .u64 (lo128 ((nrmOf a b c).x))]) rfl (by kernel_rfl) (by kernel_rfl) (by kernel_rfl) rfl (by kernel_rfl) rfl hH157 (fun hH158 => ?_)
          refine XA.op2 (i := 6) (j := 9) rfl rfl (by kernel_rfl) (by kernel_rfl) (by kernel_rfl) ?_ ?_
          · skip
            refine XO.callS (f := 45) (args := [(.agg #[.int .i64 (hi128 ((nrmOf a b c).x)), .int .u64 (lo128 ((nrmOf a b c).x))])].toArray) s156 rfl (by decide) (fun _ => by kernel_rfl) (limb_Sign_ok (av A _) _ s156.av_fresh ((nrmOf a b c).x) ) (fun _ w159 s159 ev159 kp159 hv_ => ?_)
            obtain rfl := hv_
            have hH160 := hH158.keep (i := 6) kp159 rfl
            refine ⟨hH160, ?_⟩
            refine XA.op (i := 9) rfl (by kernel_rfl) (by kernel_rfl) (XO.loadB (v := .agg #[.int .i64 (hi128 n.x), .int .u64 (lo128 n.x)]) (g := true) (m := 2) s159 hb_n rfl rfl (by decide) rfl (by kernel_rfl) (by kernel_rfl) rfl rfl rfl ?_)
            have hH161 := (Hold.set (i := 9) (by decide)).2 hH160
            refine ⟨hH161, ?_⟩
            refine XA.op (i := 10) rfl (by kernel_rfl) (by kernel_rfl) (XO.callS (f := 45) (args := [(.agg #[.int .i64 (hi128 n.x), .int .u64 (lo128 n.x)])].toArray) s159 rfl (by decide) (fun _ => by kernel_rfl) (limb_Sign_ok (av A _) _ s159.av_fresh n.x ) (fun _ w162 s162 ev162 kp162 hv_ => ?_))
            obtain rfl := hv_
            have hH163 := hH161.keep (i := 10) kp162 rfl
            refine ⟨hH163, ?_⟩
            refine XA.arith (p := 11) (k := .i64) (r := (cmp128 ((nrmOf a b c).x) 0) * (cmp128 n.x 0)) rfl (by kernel_rfl) (by kernel_rfl) (by kernel_rfl) rfl (by kernel_rfl) rfl (by decide) (fun _ => by kernel_rfl) (wrap_i64 (by (first | exact cmp_mul_rng _ _ _ _ | omega))) hH163 (fun hH164 => ?_)
            refine XA.valD 12 8 (.int .i64 ((cmp128 ((nrmOf a b c).x) 0) * (cmp128 n.x 0))) rfl (by kernel_rfl) (by kernel_rfl) (by kernel_rfl) rfl (by kernel_rfl) rfl hH164 (fun hH165 => ?_)
            refine XA.done (by kernel_rfl) (thn_norm ?_)
            exact ⟨⟨rfl, trivial⟩, s162, (ev7.trans (ev156.trans (ev159.trans ev162)))⟩
          · skip
            refine XO.loadB (v := .agg #[.int .i64 (hi128 n.x), .int .u64 (lo128 n.x)]) (g := true) (m := 2) s156 hb_n rfl rfl (by decide) rfl (by kernel_rfl) (by kernel_rfl) rfl rfl rfl ?_
            have hH166 := (Hold.set (i := 9) (by decide)).2 hH158
            refine ⟨hH166, ?_⟩
            refine XA.op (i := 6) rfl (by kernel_rfl) (by kernel_rfl) (XO.callS (f := 45) (args := [(.agg #[.int .i64 (hi128 ((nrmOf a b c).x)), .int .u64 (lo128 ((nrmOf a b c).x))])].toArray) s156 rfl (by decide) (fun _ => by kernel_rfl) (limb_Sign_ok (av A _) _ s156.av_fresh ((nrmOf a b c).x) ) (fun _ w167 s167 ev167 kp167 hv_ => ?_))
            obtain rfl := hv_
            have hH168 := hH166.keep (i := 6) kp167 rfl
            refine ⟨hH168, ?_⟩
            refine XA.op (i := 10) rfl (by kernel_rfl) (by kernel_rfl) (XO.callS (f := 45) (args := [(.agg #[.int .i64 (hi128 n.x), .int .u64 (lo128 n.x)])].toArray) s167 rfl (by decide) (fun _ => by kernel_rfl) (limb_Sign_ok (av A _) _ s167.av_fresh n.x ) (fun _ w169 s169 ev169 kp169 hv_ => ?_))
            obtain rfl := hv_
            have hH170 := hH168.keep (i := 10) kp169 rfl
            refine ⟨hH170, ?_⟩
            refine XA.arith (p := 11) (k := .i64) (r := (cmp128 ((nrmOf a b c).x) 0) * (cmp128 n.x 0)) rfl (by kernel_rfl) (by kernel_rfl) (by kernel_rfl) rfl (by kernel_rfl) rfl (by decide) (fun _ => by kernel_rfl) (wrap_i64 (by (first | exact cmp_mul_rng _ _ _ _ | omega))) hH170 (fun hH171 => ?_)
            refine XA.valD 12 8 (.int .i64 ((cmp128 ((nrmOf a b c).x) 0) * (cmp128 n.x 0))) rfl (by kernel_rfl) (by kernel_rfl) (by kernel_rfl) rfl (by kernel_rfl) rfl hH171 (fun hH172 => ?_)
            refine XA.done (by kernel_rfl) (thn_norm ?_)
            exact ⟨⟨rfl, trivial⟩, s169, (ev7.trans (ev156.trans (ev167.trans ev169)))⟩
        · skip
          refine XO.loadB (v := .agg #[.int .i64 (hi128 n.x), .int .u64 (lo128 n.x)]) (g := true) (m := 2) s7 hb_n rfl rfl (by decide) rfl (by kernel_rfl) (by kernel_rfl) rfl rfl rfl ?_
          have hH173 := (Hold.set (i := 9) (by decide)).2 hH155
          refine ⟨hH173, ?_⟩
          refine XA.op (i := 3) rfl (by kernel_rfl) (by kernel_rfl) (XO.callS (f := 26) (args := [(.agg #[.int .i64 a.x, .int .i64 a.y, .int .i64 a.z]), (.agg #[.int .i64 b.x, .int .i64 b.y, .int .i64 b.z]), (.agg #[.int .i64 c.x, .int .i64 c.y, .int .i64 c.z])].toArray) s7 rfl (by decide) (fun _ => by kernel_rfl) (clean_normal_ok (av A _) _ s7.av_fresh a b c (by assumption) (by assumption) (by assumption)) (fun _ w174 s174 ev174 kp174 hv_ => ?_))
          obtain rfl := hv_
          have hH175 := hH173.keep (i := 3) kp174 rfl
          refine ⟨hH175, ?_⟩
          refine XA.valD 5 14 (.agg #[.int .i64 (hi128 ((nrmOf a b c).x)), .int .u64 (lo128 ((nrmOf a b c).x))]) rfl (by kernel_rfl) (by kernel_rfl) (by kernel_rfl) rfl (by kernel_rfl) rfl hH175 (fun hH176 => ?_)
          refine XA.op (i := 6) rfl (by kernel_rfl) (by kernel_rfl) (XO.callS (f := 45) (args := [(.agg #[.int .i64 (hi128 ((nrmOf a b c).x)), .int .u64 (lo128 ((nrmOf a b c).x))])].toArray) s174 rfl (by decide) (fun _ => by kernel_rfl) (limb_Sign_ok (av A _) _ s174.av_fresh ((nrmOf a b c).x) ) (fun _ w177 s177 ev177 kp177 hv_ => ?_))
          obtain rfl := hv_
          have hH178 := hH176.keep (i := 6) kp177 rfl
          refine ⟨hH178, ?_⟩
          refine XA.op (i := 10) rfl (by kernel_rfl) (by kernel_rfl) (XO.callS (f := 45) (args := [(.agg #[.int .i64 (hi128 n.x), .int .u64 (lo128 n.x)])].toArray) s177 rfl (by decide) (fun _ => by kernel_rfl) (limb_Sign_ok (av A _) _ s177.av_fresh n.x ) (fun _ w179 s179 ev179 kp179 hv_ => ?_))
          obtain rfl := hv_
          have hH180 := hH178.keep (i := 10) kp179 rfl
          refine ⟨hH180, ?_⟩
          refine XA.arith (p := 11) (k := .i64) (r := (cmp128 ((nrmOf a b c).x) 0) * (cmp128 n.x 0)) rfl (by kernel_rfl) (by kernel_rfl) (by kernel_rfl) rfl (by kernel_rfl) rfl (by decide) (fun _ => by kernel_rfl) (wrap_i64 (by (first | exact cmp_mul_rng _ _ _ _ | omega))) hH180 (fun hH181 => ?_)
          refine XA.valD 12 8 (.int .i64 ((cmp128 ((nrmOf a b c).x) 0) * (cmp128 n.x 0))) rfl (by kernel_rfl) (by kernel_rfl) (by kernel_rfl) rfl (by kernel_rfl) rfl hH181 (fun hH182 => ?_)
          refine XA.done (by kernel_rfl) (thn_norm ?_)
          exact ⟨⟨rfl, trivial⟩, s179, (ev7.trans (ev174.trans (ev177.trans ev179)))⟩
      · skip
        refine XO.loadB (v := .agg #[.int .i64 (hi128 n.x), .int .u64 (lo128 n.x)]) (g := true) (m := 2) s7 hb_n rfl rfl (by decide) rfl (by kernel_rfl) (by kernel_rfl) rfl rfl rfl ?_
        have hH183 := (Hold.set (i := 9) (by decide)).2 hH127
        refine ⟨hH183, ?_⟩
        refine XA.op2 (i := 3) (j := 4) rfl rfl (by kernel_rfl) (by kernel_rfl) (by kernel_rfl) ?_ ?_
        · skip
          refine XO.callS (f := 26) (args := [(.agg #[.int .i64 a.x, .int .i64 a.y, .int .i64 a.z]), (.agg #[.int .i64 b.x, .int .i64 b.y, .int .i64 b.z]), (.agg #[.int .i64 c.x, .int .i64 c.y, .int .i64 c.z])].toArray) s7 rfl (by decide) (fun _ => by kernel_rfl) (clean_normal_ok (av A _) _ s7.av_fresh a b c (by assumption) (by assumption) (by assumption)) (fun _ w184 s184 ev184 kp184 hv_ => ?_)
          obtain rfl := hv_
          have hH185 := hH183.keep (i := 3) kp184 rfl
          refine ⟨hH185, ?_⟩
          refine XA.op (i := 4) rfl (by kernel_rfl) (by kernel_rfl) (XO.loadB (v := .int .i64 0) (g := false) (m := 1) s184 hb_k rfl rfl (by decide) rfl (by kernel_rfl) (by kernel_rfl) rfl rfl rfl ?_)
          have hH186 := (Hold.set (i := 4) (by decide)).2 hH185
          refine ⟨hH186, ?_⟩
          refine XA.valD 5 14 (.agg #[.int .i64 (hi128 ((nrmOf a b c).x)), .int .u64 (lo128 ((nrmOf a b c).x))]) rfl (by kernel_rfl) (by kernel_rfl) (by kernel_rfl) rfl (by kernel_rfl) rfl hH186 (fun hH187 => ?_)
          refine XA.op (i := 6) rfl (by kernel_rfl) (by kernel_rfl) (XO.callS (f := 45) (args := [(.agg #[.int .i64 (hi128 ((nrmOf a b c).x)), .int .u64 (lo128 ((nrmOf a b c).x))])].toArray) s184 rfl (by decide) (fun _ => by kernel_rfl) (limb_Sign_ok (av A _) _ s184.av_fresh ((nrmOf a b c).x) ) (fun _ w188 s188 ev188 kp188 hv_ => ?_))
          obtain rfl := hv_
          have hH189 := hH187.keep (i := 6) kp188 rfl
          refine ⟨hH189, ?_⟩
          refine XA.op (i := 10) rfl (by kernel_rfl) (by kernel_rfl) (XO.callS (f := 45) (args := [(.agg #[.int .i64 (hi128 n.x), .int .u64 (lo128 n.x)])].toArray) s188 rfl (by decide) (fun _ => by kernel_rfl) (limb_Sign_ok (av A _) _ s188.av_fresh n.x ) (fun _ w190 s190 ev190 kp190 hv_ => ?_))
          obtain rfl := hv_
          have hH191 := hH189.keep (i := 10) kp190 rfl
          refine ⟨hH191, ?_⟩
          refine XA.arith (p := 11) (k := .i64) (r := (cmp128 ((nrmOf a b c).x) 0) * (cmp128 n.x 0)) rfl (by kernel_rfl) (by kernel_rfl) (by kernel_rfl) rfl (by kernel_rfl) rfl (by decide) (fun _ => by kernel_rfl) (wrap_i64 (by (first | exact cmp_mul_rng _ _ _ _ | omega))) hH191 (fun hH192 => ?_)
          refine XA.valD 12 8 (.int .i64 ((cmp128 ((nrmOf a b c).x) 0) * (cmp128 n.x 0))) rfl (by kernel_rfl) (by kernel_rfl) (by kernel_rfl) rfl (by kernel_rfl) rfl hH192 (fun hH193 => ?_)
          refine XA.done (by kernel_rfl) (thn_norm ?_)
          exact ⟨⟨rfl, trivial⟩, s190, (ev7.trans (ev184.trans (ev188.trans ev190)))⟩
        · skip
          refine XO.loadB (v := .int .i64 0) (g := false) (m := 1) s7 hb_k rfl rfl (by decide) rfl (by kernel_rfl) (by kernel_rfl) rfl rfl rfl ?_
          have hH194 := (Hold.set (i := 4) (by decide)).2 hH183
          refine ⟨hH194, ?_⟩
          refine XA.op (i := 3) rfl (by kernel_rfl) (by kernel_rfl) (XO.callS (f := 26) (args := [(.agg #[.int .i64 a.x, .int .i64 a.y, .int .i64 a.z]), (.agg #[.int .i64 b.x, .int .i64 b.y, .int .i64 b.z]), (.agg #[.int .i64 c.x, .int .i64 c.y, .int .i64 c.z])].toArray) s7 rfl (by decide) (fun _ => by kernel_rfl) (clean_normal_ok (av A _) _ s7.av_fresh a b c (by assumption) (by assumption) (by assumption)) (fun _ w195 s195 ev195 kp195 hv_ => ?_))
          obtain rfl := hv_
          have hH196 := hH194.keep (i := 3) kp195 rfl
          refine ⟨hH196, ?_⟩
          refine XA.valD 5 14 (.agg #[.int .i64 (hi128 ((nrmOf a b c).x)), .int .u64 (lo128 ((nrmOf a b c).x))]) rfl (by kernel_rfl) (by kernel_rfl) (by kernel_rfl) rfl (by kernel_rfl) rfl hH196 (fun hH197 => ?_)
          refine XA.op (i := 6) rfl (by kernel_rfl) (by kernel_rfl) (XO.callS (f := 45) (args := [(.agg #[.int .i64 (hi128 ((nrmOf a b c).x)), .int .u64 (lo128 ((nrmOf a b c).x))])].toArray) s195 rfl (by decide) (fun _ => by kernel_rfl) (limb_Sign_ok (av A _) _ s195.av_fresh ((nrmOf a b c).x) ) (fun _ w198 s198 ev198 kp198 hv_ => ?_))
          obtain rfl := hv_
          have hH199 := hH197.keep (i := 6) kp198 rfl
          refine ⟨hH199, ?_⟩
          refine XA.op (i := 10) rfl (by kernel_rfl) (by kernel_rfl) (XO.callS (f := 45) (args := [(.agg #[.int .i64 (hi128 n.x), .int .u64 (lo128 n.x)])].toArray) s198 rfl (by decide) (fun _ => by kernel_rfl) (limb_Sign_ok (av A _) _ s198.av_fresh n.x ) (fun _ w200 s200 ev200 kp200 hv_ => ?_))
          obtain rfl := hv_
          have hH201 := hH199.keep (i := 10) kp200 rfl
          refine ⟨hH201, ?_⟩
          refine XA.arith (p := 11) (k := .i64) (r := (cmp128 ((nrmOf a b c).x) 0) * (cmp128 n.x 0)) rfl (by kernel_rfl) (by kernel_rfl) (by kernel_rfl) rfl (by kernel_rfl) rfl (by decide) (fun _ => by kernel_rfl) (wrap_i64 (by (first | exact cmp_mul_rng _ _ _ _ | omega))) hH201 (fun hH202 => ?_)
          refine XA.valD 12 8 (.int .i64 ((cmp128 ((nrmOf a b c).x) 0) * (cmp128 n.x 0))) rfl (by kernel_rfl) (by kernel_rfl) (by kernel_rfl) rfl (by kernel_rfl) rfl hH202 (fun hH203 => ?_)
          refine XA.done (by kernel_rfl) (thn_norm ?_)
          exact ⟨⟨rfl, trivial⟩, s200, (ev7.trans (ev195.trans (ev198.trans ev200)))⟩
  intro ρw204 w204 hJ_
  obtain ⟨hh204, s204, ev204⟩ := hJ_
  refine XC.rebase hh204 ?_
  refine XC.ret ?_
  refine ⟨Or.inr rfl, .int .i64 ((cmp128 ((nrmOf a b c).x) 0) * (cmp128 n.x 0)), fun a_ ha_ => results_t rfl ha_ rfl, s204.keep, ?_⟩
  rfl

theorem clean_round_side1_ok (A : Nat → Prop) (w0 : World) (hA : ∀ b, w0.heap.size ≤ b → A b) (a : Pt) (b : Pt) (c : Pt) (b_k : Nat) (T_k : TypeId) (hb_k : w0.heap[b_k]? = some (.cells [.int .i64 1].toArray T_k (0, 0))) (n : Pt) (b_n : Nat) (T_n : TypeId) (hb_n : w0.heap[b_n]? = some (.cells [.int .i64 (hi128 n.x), .int .u64 (lo128 n.x), .int .i64 (hi128 n.y), .int .u64 (lo128 n.y), .int .i64 (hi128 n.z), .int .u64 (lo128 n.z)].toArray T_n (0, 0))) (ha : a.ok) (hb : b.ok) (hc : c.ok)  : Cal Tryz.prog 46 [(.agg #[.int .i64 a.x, .int .i64 a.y, .int .i64 a.z]), (.agg #[.int .i64 b.x, .int .i64 b.y, .int .i64 b.z]), (.agg #[.int .i64 c.x, .int .i64 c.y, .int .i64 c.z]), (.pointer (some ⟨b_k, 0, none⟩)), (.pointer (some ⟨b_n, 0, none⟩))].toArray w0 (fun v w' => Keep none_ w0 w' ∧ v = .int .i64 (cmp128 ((nrmOf a b c).at 1) 0 * cmp128 (n.at 1) 0)) := by
  have s0 : Stt A w0 none_ [] w0 := Stt.start hA none_
  refine Cal.intro (n := 21) Tryz.func46 rfl Tryz.ntmps46 rfl ?_
  refine XC.seq ?_
  refine XC.region ?_
  refine XS.op rfl rfl (XO.new (cs := [.int .i64 a.x, .int .i64 a.y, .int .i64 a.z]) (T := 24) s0 rfl (by decide) (fun _ => by kernel_rfl) (fun b1 w2 s2 ev2 kp2 ybb1 => ?_))
  refine XS.op rfl rfl (XO.new (cs := [.int .i64 b.x, .int .i64 b.y, .int .i64 b.z]) (T := 24) s2 rfl (by decide) (fun _ => by kernel_rfl) (fun b3 w4 s4 ev4 kp4 ybb3 => ?_))
  refine XS.op rfl rfl (XO.new (cs := [.int .i64 c.x, .int .i64 c.y, .int .i64 c.z]) (T := 24) s4 rfl (by decide) (fun _ => by kernel_rfl) (fun b5 w6 s6 ev6 kp6 ybb5 => ?_))
  refine XS.vals' 1 [(8, .int .i64 0)] (by kernel_rfl) ?_
  refine XS.done rfl (thn_norm ?_)
  refine XC.cut (fun ρ_ w_ => Has ρ_ [(8, .int .i64 ((cmp128 ((nrmOf a b c).y) 0) * (cmp128 n.y 0)))] ∧ Stt A w0 none_ [cellsA b1 [.int .i64 a.x, .int .i64 a.y, .int .i64 a.z] 24, cellsA b3 [.int .i64 b.x, .int .i64 b.y, .int .i64 b.z] 24, cellsA b5 [.int .i64 c.x, .int .i64 c.y, .int .i64 c.z] 24] w_ ∧ Evo (av A [cellsA b1 [.int .i64 a.x, .int .i64 a.y, .int .i64 a.z] 24, cellsA b3 [.int .i64 b.x, .int .i64 b.y, .int .i64 b.z] 24, cellsA b5 [.int .i64 c.x, .int .i64 c.y, .int .i64 c.z] 24]) w6 (av A [cellsA b1 [.int .i64 a.x, .int .i64 a.y, .int .i64 a.z] 24, cellsA b3 [.int .i64 b.x, .int .i64 b.y, .int .i64 b.z] 24, cellsA b5 [.int .i64 c.x, .int .i64 c.y, .int .i64 c.z] 24]) w_) ?_ ?_
  · skip
    refine XC.drawS 13 rfl (fun _ => False) 13 (by kernel_rfl) s6 (fun w7 s7 ev7 kp7 hH8 => ?_)
    refine XA.loadS false (j := 0) (i := 0) (v := .agg #[.int .i64 a.x, .int .i64 a.y, .int .i64 a.z]) (g := true) (m := 3) s7 rfl rfl (by kernel_rfl) (by kernel_rfl) (by kernel_rfl) rfl (by kernel_rfl) (fun _ h => h) (by kernel_rfl) rfl rfl (by decide) hH8 rfl (by kernel_rfl) (by kernel_rfl) rfl rfl rfl (fun hH9 => ?_)
    refine XA.loadS false (j := 1) (i := 1) (v := .agg #[.int .i64 b.x, .int .i64 b.y, .int .i64 b.z]) (g := true) (m := 3) s7 rfl rfl (by kernel_rfl) (by kernel_rfl) (by kernel_rfl) rfl (by kernel_rfl) (fun _ h => h) (by kernel_rfl) rfl rfl (by decide) hH9 rfl (by kernel_rfl) (by kernel_rfl) rfl rfl rfl (fun hH10 => ?_)
    refine XA.loadS false (j := 2) (i := 2) (v := .agg #[.int .i64 c.x, .int .i64 c.y, .int .i64 c.z]) (g := true) (m := 3) s7 rfl rfl (by kernel_rfl) (by kernel_rfl) (by kernel_rfl) rfl (by kernel_rfl) (fun _ h => h) (by kernel_rfl) rfl rfl (by decide) hH10 rfl (by kernel_rfl) (by kernel_rfl) rfl rfl rfl (fun hH11 => ?_)
    refine XA.op3 (i := 3) (j := 4) (k := 7) rfl rfl rfl (by kernel_rfl) (by kernel_rfl) (by kernel_rfl) (by kernel_rfl) ?_ ?_ ?_
    · skip
      refine XO.callS (f := 26) (args := [(.agg #[.int .i64 a.x, .int .i64 a.y, .int .i64 a.z]), (.agg #[.int .i64 b.x, .int .i64 b.y, .int .i64 b.z]), (.agg #[.int .i64 c.x, .int .i64 c.y, .int .i64 c.z])].toArray) s7 rfl (by decide) (fun _ => by kernel_rfl) (clean_normal_ok (av A _) _ s7.av_fresh a b c (by assumption) (by assumption) (by assumption)) (fun _ w12 s12 ev12 kp12 hv_ => ?_)
      obtain rfl := hv_
      have hH13 := hH11.keep (i := 3) kp12 rfl
      refine ⟨hH13, ?_⟩
      refine XA.op2 (i := 4) (j := 7) rfl rfl (by kernel_rfl) (by kernel_rfl) (by kernel_rfl) ?_ ?_
      · skip
        refine XO.loadB (v := .int .i64 1) (g := false) (m := 1) s12 hb_k rfl rfl (by decide) rfl (by kernel_rfl) (by kernel_rfl) rfl rfl rfl ?_
        have hH14 := (Hold.set (i := 4) (by decide)).2 hH13
        refine ⟨hH14, ?_⟩
        refine XA.valD 5 14 (.agg #[.int .i64 (hi128 ((nrmOf a b c).y)), .int .u64 (lo128 ((nrmOf a b c).y))]) rfl (by kernel_rfl) (by kernel_rfl) (by kernel_rfl) rfl (by kernel_rfl) rfl hH14 (fun hH15 => ?_)
        refine XA.op2 (i := 6) (j := 7) rfl rfl (by kernel_rfl) (by kernel_rfl) (by kernel_rfl) ?_ ?_
        · skip
          refine XO.callS (f := 45) (args := [(.agg #[.int .i64 (hi128 ((nrmOf a b c).y)), .int .u64 (lo128 ((nrmOf a b c).y))])].toArray) s12 rfl (by decide) (fun _ => by kernel_rfl) (limb_Sign_ok (av A _) _ s12.av_fresh ((nrmOf a b c).y) ) (fun _ w16 s16 ev16 kp16 hv_ => ?_)
          obtain rfl := hv_
          have hH17 := hH15.keep (i := 6) kp16 rfl
          refine ⟨hH17, ?_⟩
          refine XA.op (i := 7) rfl (by kernel_rfl) (by kernel_rfl) (XO.loadB (v := .int .i64 1) (g := false) (m := 1) s16 hb_k rfl rfl (by decide) rfl (by kernel_rfl) (by kernel_rfl) rfl rfl rfl ?_)
          have hH18 := (Hold.set (i := 7) (by decide)).2 hH17
          refine ⟨hH18, ?_⟩
          refine XA.valD 8 17 (.pointer (some ⟨b_n, 2, none⟩)) rfl (by kernel_rfl) (by kernel_rfl) (by kernel_rfl) rfl (by kernel_rfl) rfl hH18 (fun hH19 => ?_)
          refine XA.op (i := 9) rfl (by kernel_rfl) (by kernel_rfl) (XO.loadB (v := .agg #[.int .i64 (hi128 n.y), .int .u64 (lo128 n.y)]) (g := true) (m := 2) s16 hb_n rfl rfl (by decide) rfl (by kernel_rfl) (by kernel_rfl) rfl rfl rfl ?_)
          have hH20 := (Hold.set (i := 9) (by decide)).2 hH19
          refine ⟨hH20, ?_⟩
          refine XA.op (i := 10) rfl (by kernel_rfl) (by kernel_rfl) (XO.callS (f := 45) (args := [(.agg #[.int .i64 (hi128 n.y), .int .u64 (lo128 n.y)])].toArray) s16 rfl (by decide) (fun _ => by kernel_rfl) (limb_Sign_ok (av A _) _ s16.av_fresh n.y ) (fun _ w21 s21 ev21 kp21 hv_ => ?_))
          obtain rfl := hv_
          have hH22 := hH20.keep (i := 10) kp21 rfl
          refine ⟨hH22, ?_⟩
          refine XA.arith (p := 11) (k := .i64) (r := (cmp128 ((nrmOf a b c).y) 0) * (cmp128 n.y 0)) rfl (by kernel_rfl) (by kernel_rfl) (by kernel_rfl) rfl (by kernel_rfl) rfl (by decide) (fun _ => by kernel_rfl) (wrap_i64 (by (first | exact cmp_mul_rng _ _ _ _ | omega))) hH22 (fun hH23 => ?_)
          refine XA.valD 12 8 (.int .i64 ((cmp128 ((nrmOf a b c).y) 0) * (cmp128 n.y 0))) rfl (by kernel_rfl) (by kernel_rfl) (by kernel_rfl) rfl (by kernel_rfl) rfl hH23 (fun hH24 => ?_)
          refine XA.done (by kernel_rfl) (thn_norm ?_)
          exact ⟨⟨rfl, trivial⟩, s21, (ev7.trans (ev12.trans (ev16.trans ev21)))⟩
        · skip
          refine XO.loadB (v := .int .i64 1) (g := false) (m := 1) s12 hb_k rfl rfl (by decide) rfl (by kernel_rfl) (by kernel_rfl) rfl rfl rfl ?_
          have hH25 := (Hold.set (i := 7) (by decide)).2 hH15
          refine ⟨hH25, ?_⟩
          refine XA.valD 8 17 (.pointer (some ⟨b_n, 2, none⟩)) rfl (by kernel_rfl) (by kernel_rfl) (by kernel_rfl) rfl (by kernel_rfl) rfl hH25 (fun hH26 => ?_)
          refine XA.op2 (i := 6) (j := 9) rfl rfl (by kernel_rfl) (by kernel_rfl) (by kernel_rfl) ?_ ?_
          · skip
            refine XO.callS (f := 45) (args := [(.agg #[.int .i64 (hi128 ((nrmOf a b c).y)), .int .u64 (lo128 ((nrmOf a b c).y))])].toArray) s12 rfl (by decide) (fun _ => by kernel_rfl) (limb_Sign_ok (av A _) _ s12.av_fresh ((nrmOf a b c).y) ) (fun _ w27 s27 ev27 kp27 hv_ => ?_)
            obtain rfl := hv_
            have hH28 := hH26.keep (i := 6) kp27 rfl
            refine ⟨hH28, ?_⟩
            refine XA.op (i := 9) rfl (by kernel_rfl) (by kernel_rfl) (XO.loadB (v := .agg #[.int .i64 (hi128 n.y), .int .u64 (lo128 n.y)]) (g := true) (m := 2) s27 hb_n rfl rfl (by decide) rfl (by kernel_rfl) (by kernel_rfl) rfl rfl rfl ?_)
            have hH29 := (Hold.set (i := 9) (by decide)).2 hH28
            refine ⟨hH29, ?_⟩
            refine XA.op (i := 10) rfl (by kernel_rfl) (by kernel_rfl) (XO.callS (f := 45) (args := [(.agg #[.int .i64 (hi128 n.y), .int .u64 (lo128 n.y)])].toArray) s27 rfl (by decide) (fun _ => by kernel_rfl) (limb_Sign_ok (av A _) _ s27.av_fresh n.y ) (fun _ w30 s30 ev30 kp30 hv_ => ?_))
            obtain rfl := hv_
            have hH31 := hH29.keep (i := 10) kp30 rfl
            refine ⟨hH31, ?_⟩
            refine XA.arith (p := 11) (k := .i64) (r := (cmp128 ((nrmOf a b c).y) 0) * (cmp128 n.y 0)) rfl (by kernel_rfl) (by kernel_rfl) (by kernel_rfl) rfl (by kernel_rfl) rfl (by decide) (fun _ => by kernel_rfl) (wrap_i64 (by (first | exact cmp_mul_rng _ _ _ _ | omega))) hH31 (fun hH32 => ?_)
            refine XA.valD 12 8 (.int .i64 ((cmp128 ((nrmOf a b c).y) 0) * (cmp128 n.y 0))) rfl (by kernel_rfl) (by kernel_rfl) (by kernel_rfl) rfl (by kernel_rfl) rfl hH32 (fun hH33 => ?_)
            refine XA.done (by kernel_rfl) (thn_norm ?_)
            exact ⟨⟨rfl, trivial⟩, s30, (ev7.trans (ev12.trans (ev27.trans ev30)))⟩
          · skip
            refine XO.loadB (v := .agg #[.int .i64 (hi128 n.y), .int .u64 (lo128 n.y)]) (g := true) (m := 2) s12 hb_n rfl rfl (by decide) rfl (by kernel_rfl) (by kernel_rfl) rfl rfl rfl ?_
            have hH34 := (Hold.set (i := 9) (by decide)).2 hH26
            refine ⟨hH34, ?_⟩
            refine XA.op (i := 6) rfl (by kernel_rfl) (by kernel_rfl) (XO.callS (f := 45) (args := [(.agg #[.int .i64 (hi128 ((nrmOf a b c).y)), .int .u64 (lo128 ((nrmOf a b c).y))])].toArray) s12 rfl (by decide) (fun _ => by kernel_rfl) (limb_Sign_ok (av A _) _ s12.av_fresh ((nrmOf a b c).y) ) (fun _ w35 s35 ev35 kp35 hv_ => ?_))
            obtain rfl := hv_
            have hH36 := hH34.keep (i := 6) kp35 rfl
            refine ⟨hH36, ?_⟩
            refine XA.op (i := 10) rfl (by kernel_rfl) (by kernel_rfl) (XO.callS (f := 45) (args := [(.agg #[.int .i64 (hi128 n.y), .int .u64 (lo128 n.y)])].toArray) s35 rfl (by decide) (fun _ => by kernel_rfl) (limb_Sign_ok (av A _) _ s35.av_fresh n.y ) (fun _ w37 s37 ev37 kp37 hv_ => ?_))
            obtain rfl := hv_
            have hH38 := hH36.keep (i := 10) kp37 rfl
            refine ⟨hH38, ?_⟩
            refine XA.arith (p := 11) (k := .i64) (r := (cmp128 ((nrmOf a b c).y) 0) * (cmp128 n.y 0)) rfl (by kernel_rfl) (by kernel_rfl) (by kernel_rfl) rfl (by kernel_rfl) rfl (by decide) (fun _ => by kernel_rfl) (wrap_i64 (by (first | exact cmp_mul_rng _ _ _ _ | omega))) hH38 (fun hH39 => ?_)
            refine XA.valD 12 8 (.int .i64 ((cmp128 ((nrmOf a b c).y) 0) * (cmp128 n.y 0))) rfl (by kernel_rfl) (by kernel_rfl) (by kernel_rfl) rfl (by kernel_rfl) rfl hH39 (fun hH40 => ?_)
            refine XA.done (by kernel_rfl) (thn_norm ?_)
            exact ⟨⟨rfl, trivial⟩, s37, (ev7.trans (ev12.trans (ev35.trans ev37)))⟩
      · skip
        refine XO.loadB (v := .int .i64 1) (g := false) (m := 1) s12 hb_k rfl rfl (by decide) rfl (by kernel_rfl) (by kernel_rfl) rfl rfl rfl ?_
        have hH41 := (Hold.set (i := 7) (by decide)).2 hH13
        refine ⟨hH41, ?_⟩
        refine XA.valD 8 17 (.pointer (some ⟨b_n, 2, none⟩)) rfl (by kernel_rfl) (by kernel_rfl) (by kernel_rfl) rfl (by kernel_rfl) rfl hH41 (fun hH42 => ?_)
        refine XA.op2 (i := 4) (j := 9) rfl rfl (by kernel_rfl) (by kernel_rfl) (by kernel_rfl) ?_ ?_
        · skip
          refine XO.loadB (v := .int .i64 1) (g := false) (m := 1) s12 hb_k rfl rfl (by decide) rfl (by kernel_rfl) (by kernel_rfl) rfl rfl rfl ?_
          have hH43 := (Hold.set (i := 4) (by decide)).2 hH42
          refine ⟨hH43, ?_⟩
          refine XA.valD 5 14 (.agg #[.int .i64 (hi128 ((nrmOf a b c).y)), .int .u64 (lo128 ((nrmOf a b c).y))]) rfl (by kernel_rfl) (by kernel_rfl) (by kernel_rfl) rfl (by kernel_rfl) rfl hH43 (fun hH44 => ?_)
          refine XA.op2 (i := 6) (j := 9) rfl rfl (by kernel_rfl) (by kernel_rfl) (by kernel_rfl) ?_ ?_
          · skip
            refine XO.callS (f := 45) (args := [(.agg #[.int .i64 (hi128 ((nrmOf a b c).y)), .int .u64 (lo128 ((nrmOf a b c).y))])].toArray) s12 rfl (by decide) (fun _ => by kernel_rfl) (limb_Sign_ok (av A _) _ s12.av_fresh ((nrmOf a b c).y) ) (fun _ w45 s45 ev45 kp45 hv_ => ?_)
            obtain rfl := hv_
            have hH46 := hH44.keep (i := 6) kp45 rfl
            refine ⟨hH46, ?_⟩
            refine XA.op (i := 9) rfl (by kernel_rfl) (by kernel_rfl) (XO.loadB (v := .agg #[.int .i64 (hi128 n.y), .int .u64 (lo128 n.y)]) (g := true) (m := 2) s45 hb_n rfl rfl (by decide) rfl (by kernel_rfl) (by kernel_rfl) rfl rfl rfl ?_)
            have hH47 := (Hold.set (i := 9) (by decide)).2 hH46
            refine ⟨hH47, ?_⟩
            refine XA.op (i := 10) rfl (by kernel_rfl) (by kernel_rfl) (XO.callS (f := 45) (args := [(.agg #[.int .i64 (hi128 n.y), .int .u64 (lo128 n.y)])].toArray) s45 rfl (by decide) (fun _ => by kernel_rfl) (limb_Sign_ok (av A _) _ s45.av_fresh n.y ) (fun _ w48 s48 ev48 kp48 hv_ => ?_))
            obtain rfl := hv_
            have hH49 := hH47.keep (i := 10) kp48 rfl
            refine ⟨hH49, ?_⟩
            refine XA.arith (p := 11) (k := .i64) (r := (cmp128 ((nrmOf a b c).y) 0) * (cmp128 n.y 0)) rfl (by kernel_rfl) (by kernel_rfl) (by kernel_rfl) rfl (by kernel_rfl) rfl (by decide) (fun _ => by kernel_rfl) (wrap_i64 (by (first | exact cmp_mul_rng _ _ _ _ | omega))) hH49 (fun hH50 => ?_)
            refine XA.valD 12 8 (.int .i64 ((cmp128 ((nrmOf a b c).y) 0) * (cmp128 n.y 0))) rfl (by kernel_rfl) (by kernel_rfl) (by kernel_rfl) rfl (by kernel_rfl) rfl hH50 (fun hH51 => ?_)
            refine XA.done (by kernel_rfl) (thn_norm ?_)
            exact ⟨⟨rfl, trivial⟩, s48, (ev7.trans (ev12.trans (ev45.trans ev48)))⟩
          · skip
            refine XO.loadB (v := .agg #[.int .i64 (hi128 n.y), .int .u64 (lo128 n.y)]) (g := true) (m := 2) s12 hb_n rfl rfl (by decide) rfl (by kernel_rfl) (by kernel_rfl) rfl rfl rfl ?_
            have hH52 := (Hold.set (i := 9) (by decide)).2 hH44
            refine ⟨hH52, ?_⟩
            refine XA.op (i := 6) rfl (by kernel_rfl) (by kernel_rfl) (XO.callS (f := 45) (args := [(.agg #[.int .i64 (hi128 ((nrmOf a b c).y)), .int .u64 (lo128 ((nrmOf a b c).y))])].toArray) s12 rfl (by decide) (fun _ => by kernel_rfl) (limb_Sign_ok (av A _) _ s12.av_fresh ((nrmOf a b c).y) ) (fun _ w53 s53 ev53 kp53 hv_ => ?_))
            obtain rfl := hv_
            have hH54 := hH52.keep (i := 6) kp53 rfl
            refine ⟨hH54, ?_⟩
            refine XA.op (i := 10) rfl (by kernel_rfl) (by kernel_rfl) (XO.callS (f := 45) (args := [(.agg #[.int .i64 (hi128 n.y), .int .u64 (lo128 n.y)])].toArray) s53 rfl (by decide) (fun _ => by kernel_rfl) (limb_Sign_ok (av A _) _ s53.av_fresh n.y ) (fun _ w55 s55 ev55 kp55 hv_ => ?_))
            obtain rfl := hv_
            have hH56 := hH54.keep (i := 10) kp55 rfl
            refine ⟨hH56, ?_⟩
            refine XA.arith (p := 11) (k := .i64) (r := (cmp128 ((nrmOf a b c).y) 0) * (cmp128 n.y 0)) rfl (by kernel_rfl) (by kernel_rfl) (by kernel_rfl) rfl (by kernel_rfl) rfl (by decide) (fun _ => by kernel_rfl) (wrap_i64 (by (first | exact cmp_mul_rng _ _ _ _ | omega))) hH56 (fun hH57 => ?_)
            refine XA.valD 12 8 (.int .i64 ((cmp128 ((nrmOf a b c).y) 0) * (cmp128 n.y 0))) rfl (by kernel_rfl) (by kernel_rfl) (by kernel_rfl) rfl (by kernel_rfl) rfl hH57 (fun hH58 => ?_)
            refine XA.done (by kernel_rfl) (thn_norm ?_)
            exact ⟨⟨rfl, trivial⟩, s55, (ev7.trans (ev12.trans (ev53.trans ev55)))⟩
        · skip
          refine XO.loadB (v := .agg #[.int .i64 (hi128 n.y), .int .u64 (lo128 n.y)]) (g := true) (m := 2) s12 hb_n rfl rfl (by decide) rfl (by kernel_rfl) (by kernel_rfl) rfl rfl rfl ?_
          have hH59 := (Hold.set (i := 9) (by decide)).2 hH42
          refine ⟨hH59, ?_⟩
          refine XA.op (i := 4) rfl (by kernel_rfl) (by kernel_rfl) (XO.loadB (v := .int .i64 1) (g := false) (m := 1) s12 hb_k rfl rfl (by decide) rfl (by kernel_rfl) (by kernel_rfl) rfl rfl rfl ?_)
          have hH60 := (Hold.set (i := 4) (by decide)).2 hH59
          refine ⟨hH60, ?_⟩
          refine XA.valD 5 14 (.agg #[.int .i64 (hi128 ((nrmOf a b c).y)), .int .u64 (lo128 ((nrmOf a b c).y))]) rfl (by kernel_rfl) (by kernel_rfl) (by kernel_rfl) rfl (by kernel_rfl) rfl hH60 (fun hH61 => ?_)
          refine XA.op (i := 6) rfl (by kernel_rfl) (by kernel_rfl) (XO.callS (f := 45) (args := [(.agg #[.int .i64 (hi128 ((nrmOf a b c).y)), .int .u64 (lo128 ((nrmOf a b c).y))])].toArray) s12 rfl (by decide) (fun _ => by kernel_rfl) (limb_Sign_ok (av A _) _ s12.av_fresh ((nrmOf a b c).y) ) (fun _ w62 s62 ev62 kp62 hv_ => ?_))
          obtain rfl := hv_
          have hH63 := hH61.keep (i := 6) kp62 rfl
          refine ⟨hH63, ?_⟩
          refine XA.op (i := 10) rfl (by kernel_rfl) (by kernel_rfl) (XO.callS (f := 45) (args := [(.agg #[.int .i64 (hi128 n.y), .int .u64 (lo128 n.y)])].toArray) s62 rfl (by decide) (fun _ => by kernel_rfl) (limb_Sign_ok (av A _) _ s62.av_fresh n.y ) (fun _ w64 s64 ev64 kp64 hv_ => ?_))
          obtain rfl := hv_
          have hH65 := hH63.keep (i := 10) kp64 rfl
          refine ⟨hH65, ?_⟩
          refine XA.arith (p := 11) (k := .i64) (r := (cmp128 ((nrmOf a b c).y) 0) * (cmp128 n.y 0)) rfl (by kernel_rfl) (by kernel_rfl) (by kernel_rfl) rfl (by kernel_rfl) rfl (by decide) (fun _ => by kernel_rfl) (wrap_i64 (by (first | exact cmp_mul_rng _ _ _ _ | omega))) hH65 (fun hH66 => ?_)
          refine XA.valD 12 8 (.int .i64 ((cmp128 ((nrmOf a b c).y) 0) * (cmp128 n.y 0))) rfl (by kernel_rfl) (by kernel_rfl) (by kernel_rfl) rfl (by kernel_rfl) rfl hH66 (fun hH67 => ?_)
          refine XA.done (by kernel_rfl) (thn_norm ?_)
          exact ⟨⟨rfl, trivial⟩, s64, (ev7.trans (ev12.trans (ev62.trans ev64)))⟩
    · skip
      refine XO.loadB (v := .int .i64 1) (g := false) (m := 1) s7 hb_k rfl rfl (by decide) rfl (by kernel_rfl) (by kernel_rfl) rfl rfl rfl ?_
      have hH68 := (Hold.set (i := 4) (by decide)).2 hH11
      refine ⟨hH68, ?_⟩
      refine XA.op2 (i := 3) (j := 7) rfl rfl (by kernel_rfl) (by kernel_rfl) (by kernel_rfl) ?_ ?_
      · skip
        refine XO.callS (f := 26) (args := [(.agg #[.int .i64 a.x, .int .i64 a.y, .int .i64 a.z]), (.agg #[.int .i64 b.x, .int .i64 b.y, .int .i64 b.z]), (.agg #[.int .i64 c.x, .int .i64 c.y, .int .i64 c.z])].toArray) s7 rfl (by decide) (fun _ => by kernel_rfl) (clean_normal_ok (av A _) _ s7.av_fresh a b c (by assumption) (by assumption) (by assumption)) (fun _ w69 s69 ev69 kp69 hv_ => ?_)
        obtain rfl := hv_
        have hH70 := hH68.keep (i := 3) kp69 rfl
        refine ⟨hH70, ?_⟩
        refine XA.valD 5 14 (.agg #[.int .i64 (hi128 ((nrmOf a b c).y)), .int .u64 (lo128 ((nrmOf a b c).y))]) rfl (by kernel_rfl) (by kernel_rfl) (by kernel_rfl) rfl (by kernel_rfl) rfl hH70 (fun hH71 => ?_)
        refine XA.op2 (i := 6) (j := 7) rfl rfl (by kernel_rfl) (by kernel_rfl) (by kernel_rfl) ?_ ?_
        · skip
          refine XO.callS (f := 45) (args := [(.agg #[.int .i64 (hi128 ((nrmOf a b c).y)), .int .u64 (lo128 ((nrmOf a b c).y))])].toArray) s69 rfl (by decide) (fun _ => by kernel_rfl) (limb_Sign_ok (av A _) _ s69.av_fresh ((nrmOf a b c).y) ) (fun _ w72 s72 ev72 kp72 hv_ => ?_)
          obtain rfl := hv_
          have hH73 := hH71.keep (i := 6) kp72 rfl
          refine ⟨hH73, ?_⟩
          refine XA.op (i := 7) rfl (by kernel_rfl) (by kernel_rfl) (XO.loadB (v := .int .i64 1) (g := false) (m := 1) s72 hb_k rfl rfl (by decide) rfl (by kernel_rfl) (by kernel_rfl) rfl rfl rfl ?_)
          have hH74 := (Hold.set (i := 7) (by decide)).2 hH73
          refine ⟨hH74, ?_⟩
          refine XA.valD 8 17 (.pointer (some ⟨b_n, 2, none⟩)) rfl (by kernel_rfl) (by kernel_rfl) (by kernel_rfl) rfl (by kernel_rfl) rfl hH74 (fun hH75 => ?_)
          refine XA.op (i := 9) rfl (by kernel_rfl) (by kernel_rfl) (XO.loadB (v := .agg #[.int .i64 (hi128 n.y), .int .u64 (lo128 n.y)]) (g := true) (m := 2) s72 hb_n rfl rfl (by decide) rfl (by kernel_rfl) (by kernel_rfl) rfl rfl rfl ?_)
          have hH76 := (Hold.set (i := 9) (by decide)).2 hH75
          refine ⟨hH76, ?_⟩
          refine XA.op (i := 10) rfl (by kernel_rfl) (by kernel_rfl) (XO.callS (f := 45) (args := [(.agg #[.int .i64 (hi128 n.y), .int .u64 (lo128 n.y)])].toArray) s72 rfl (by decide) (fun _ => by kernel_rfl) (limb_Sign_ok (av A _) _ s72.av_fresh n.y ) (fun _ w77 s77 ev77 kp77 hv_ => ?_))
          obtain rfl := hv_
          have hH78 := hH76.keep (i := 10) kp77 rfl
          refine ⟨hH78, ?_⟩
          refine XA.arith (p := 11) (k := .i64) (r := (cmp128 ((nrmOf a b c).y) 0) * (cmp128 n.y 0)) rfl (by kernel_rfl) (by kernel_rfl) (by kernel_rfl) rfl (by kernel_rfl) rfl (by decide) (fun _ => by kernel_rfl) (wrap_i64 (by (first | exact cmp_mul_rng _ _ _ _ | omega))) hH78 (fun hH79 => ?_)
          refine XA.valD 12 8 (.int .i64 ((cmp128 ((nrmOf a b c).y) 0) * (cmp128 n.y 0))) rfl (by kernel_rfl) (by kernel_rfl) (by kernel_rfl) rfl (by kernel_rfl) rfl hH79 (fun hH80 => ?_)
          refine XA.done (by kernel_rfl) (thn_norm ?_)
          exact ⟨⟨rfl, trivial⟩, s77, (ev7.trans (ev69.trans (ev72.trans ev77)))⟩
        · skip
          refine XO.loadB (v := .int .i64 1) (g := false) (m := 1) s69 hb_k rfl rfl (by decide) rfl (by kernel_rfl) (by kernel_rfl) rfl rfl rfl ?_
          have hH81 := (Hold.set (i := 7) (by decide)).2 hH71
          refine ⟨hH81, ?_⟩
          refine XA.valD 8 17 (.pointer (some ⟨b_n, 2, none⟩)) rfl (by kernel_rfl) (by kernel_rfl) (by kernel_rfl) rfl (by kernel_rfl) rfl hH81 (fun hH82 => ?_)
          refine XA.op2 (i := 6) (j := 9) rfl rfl (by kernel_rfl) (by kernel_rfl) (by kernel_rfl) ?_ ?_
          · skip
            refine XO.callS (f := 45) (args := [(.agg #[.int .i64 (hi128 ((nrmOf a b c).y)), .int .u64 (lo128 ((nrmOf a b c).y))])].toArray) s69 rfl (by decide) (fun _ => by kernel_rfl) (limb_Sign_ok (av A _) _ s69.av_fresh ((nrmOf a b c).y) ) (fun _ w83 s83 ev83 kp83 hv_ => ?_)
            obtain rfl := hv_
            have hH84 := hH82.keep (i := 6) kp83 rfl
            refine ⟨hH84, ?_⟩
            refine XA.op (i := 9) rfl (by kernel_rfl) (by kernel_rfl) (XO.loadB (v := .agg #[.int .i64 (hi128 n.y), .int .u64 (lo128 n.y)]) (g := true) (m := 2) s83 hb_n rfl rfl (by decide) rfl (by kernel_rfl) (by kernel_rfl) rfl rfl rfl ?_)
            have hH85 := (Hold.set (i := 9) (by decide)).2 hH84
            refine ⟨hH85, ?_⟩
            refine XA.op (i := 10) rfl (by kernel_rfl) (by kernel_rfl) (XO.callS (f := 45) (args := [(.agg #[.int .i64 (hi128 n.y), .int .u64 (lo128 n.y)])].toArray) s83 rfl (by decide) (fun _ => by kernel_rfl) (limb_Sign_ok (av A _) _ s83.av_fresh n.y ) (fun _ w86 s86 ev86 kp86 hv_ => ?_))
            obtain rfl := hv_
            have hH87 := hH85.keep (i := 10) kp86 rfl
            refine ⟨hH87, ?_⟩
            refine XA.arith (p := 11) (k := .i64) (r := (cmp128 ((nrmOf a b c).y) 0) * (cmp128 n.y 0)) rfl (by kernel_rfl) (by kernel_rfl) (by kernel_rfl) rfl (by kernel_rfl) rfl (by decide) (fun _ => by kernel_rfl) (wrap_i64 (by (first | exact cmp_mul_rng _ _ _ _ | omega))) hH87 (fun hH88 => ?_)
            refine XA.valD 12 8 (.int .i64 ((cmp128 ((nrmOf a b c).y) 0) * (cmp128 n.y 0))) rfl (by kernel_rfl) (by kernel_rfl) (by kernel_rfl) rfl (by kernel_rfl) rfl hH88 (fun hH89 => ?_)
            refine XA.done (by kernel_rfl) (thn_norm ?_)
            exact ⟨⟨rfl, trivial⟩, s86, (ev7.trans (ev69.trans (ev83.trans ev86)))⟩
          · skip
            refine XO.loadB (v := .agg #[.int .i64 (hi128 n.y), .int .u64 (lo128 n.y)]) (g := true) (m := 2) s69 hb_n rfl rfl (by decide) rfl (by kernel_rfl) (by kernel_rfl) rfl rfl rfl ?_
            have hH90 := (Hold.set (i := 9) (by decide)).2 hH82
            refine ⟨hH90, ?_⟩
            refine XA.op (i := 6) rfl (by kernel_rfl) (by kernel_rfl) (XO.callS (f := 45) (args := [(.agg #[.int .i64 (hi128 ((nrmOf a b c).y)), .int .u64 (lo128 ((nrmOf a b c).y))])].toArray) s69 rfl (by decide) (fun _ => by kernel_rfl) (limb_Sign_ok (av A _) _ s69.av_fresh ((nrmOf a b c).y) ) (fun _ w91 s91 ev91 kp91 hv_ => ?_))
            obtain rfl := hv_
            have hH92 := hH90.keep (i := 6) kp91 rfl
            refine ⟨hH92, ?_⟩
            refine XA.op (i := 10) rfl (by kernel_rfl) (by kernel_rfl) (XO.callS (f := 45) (args := [(.agg #[.int .i64 (hi128 n.y), .int .u64 (lo128 n.y)])].toArray) s91 rfl (by decide) (fun _ => by kernel_rfl) (limb_Sign_ok (av A _) _ s91.av_fresh n.y ) (fun _ w93 s93 ev93 kp93 hv_ => ?_))
            obtain rfl := hv_
            have hH94 := hH92.keep (i := 10) kp93 rfl
            refine ⟨hH94, ?_⟩
            refine XA.arith (p := 11) (k := .i64) (r := (cmp128 ((nrmOf a b c).y) 0) * (cmp128 n.y 0)) rfl (by kernel_rfl) (by kernel_rfl) (by kernel_rfl) rfl (by kernel_rfl) rfl (by decide) (fun _ => by kernel_rfl) (wrap_i64 (by (first | exact cmp_mul_rng _ _ _ _ | omega))) hH94 (fun hH95 => ?_)
            refine XA.valD 12 8 (.int .i64 ((cmp128 ((nrmOf a b c).y) 0) * (cmp128 n.y 0))) rfl (by kernel_rfl) (by kernel_rfl) (by kernel_rfl) rfl (by kernel_rfl) rfl hH95 (fun hH96 => ?_)
            refine XA.done (by kernel_rfl) (thn_norm ?_)
            exact ⟨⟨rfl, trivial⟩, s93, (ev7.trans (ev69.trans (ev91.trans ev93)))⟩
      · skip
        refine XO.loadB (v := .int .i64 1) (g := false) (m := 1) s7 hb_k rfl rfl (by decide) rfl (by kernel_rfl) (by kernel_rfl) rfl rfl rfl ?_
        have hH97 := (Hold.set (i := 7) (by decide)).2 hH68
        refine ⟨hH97, ?_⟩
        refine XA.valD 8 17 (.pointer (some ⟨b_n, 2, none⟩)) rfl (by kernel_rfl) (by kernel_rfl) (by kernel_rfl) rfl (by kernel_rfl) rfl hH97 (fun hH98 => ?_)
        refine XA.op2 (i := 3) (j := 9) rfl rfl (by kernel_rfl) (by kernel_rfl) (by kernel_rfl) ?_ ?_
        · skip
          refine XO.callS (f := 26) (args := [(.agg #[.int .i64 a.x, .int .i64 a.y, .int .i64 a.z]), (.agg #[.int .i64 b.x, .int .i64 b.y, .int .i64 b.z]), (.agg #[.int .i64 c.x, .int .i64 c.y, .int .i64 c.z])].toArray) s7 rfl (by decide) (fun _ => by kernel_rfl) (clean_normal_ok (av A _) _ s7.av_fresh a b c (by assumption) (by assumption) (by assumption)) (fun _ w99 s99 ev99 kp99 hv_ => ?_)
          obtain rfl := hv_
          have hH100 := hH98.keep (i := 3) kp99 rfl
          refine ⟨hH100, ?_⟩
          refine XA.valD 5 14 (.agg #[.int .i64 (hi128 ((nrmOf a b c).y)), .int .u64 (lo128 ((nrmOf a b c).y))]) rfl (by kernel_rfl) (by kernel_rfl) (by kernel_rfl) rfl (by kernel_rfl) rfl hH100 (fun hH101 => ?_)
          refine XA.op2 (i := 6) (j := 9) rfl rfl (by kernel_rfl) (by kernel_rfl) (by kernel_rfl) ?_ ?_
          · skip
            refine XO.callS (f := 45) (args := [(.agg #[.int .i64 (hi128 ((nrmOf a b c).y)), .int .u64 (lo128 ((nrmOf a b c).y))])].toArray) s99 rfl (by decide) (fun _ => by kernel_rfl) (limb_Sign_ok (av A _) _ s99.av_fresh ((nrmOf a b c).y) ) (fun _ w102 s102 ev102 kp102 hv_ => ?_)
            obtain rfl := hv_
            have hH103 := hH101.keep (i := 6) kp102 rfl
            refine ⟨hH103, ?_⟩
            refine XA.op (i := 9) rfl (by kernel_rfl) (by kernel_rfl) (XO.loadB (v := .agg #[.int .i64 (hi128 n.y), .int .u64 (lo128 n.y)]) (g := true) (m := 2) s102 hb_n rfl rfl (by decide) rfl (by kernel_rfl) (by kernel_rfl) rfl rfl rfl ?_)
            have hH104 := (Hold.set (i := 9) (by decide)).2 hH103
            refine ⟨hH104, ?_⟩
            refine XA.op (i := 10) rfl (by kernel_rfl) (by kernel_rfl) (XO.callS (f := 45) (args := [(.agg #[.int .i64 (hi128 n.y), .int .u64 (lo128 n.y)])].toArray) s102 rfl (by decide) (fun _ => by kernel_rfl) (limb_Sign_ok (av A _) _ s102.av_fresh n.y ) (fun _ w105 s105 ev105 kp105 hv_ => ?_))
            obtain rfl := hv_
            have hH106 := hH104.keep (i := 10) kp105 rfl
            refine ⟨hH106, ?_⟩
            refine XA.arith (p := 11) (k := .i64) (r := (cmp128 ((nrmOf a b c).y) 0) * (cmp128 n.y 0)) rfl (by kernel_rfl) (by kernel_rfl) (by kernel_rfl) rfl (by kernel_rfl) rfl (by decide) (fun _ => by kernel_rfl) (wrap_i64 (by (first | exact cmp_mul_rng _ _ _ _ | omega))) hH106 (fun hH107 => ?_)
            refine XA.valD 12 8 (.int .i64 ((cmp128 ((nrmOf a b c).y) 0) * (cmp128 n.y 0))) rfl (by kernel_rfl) (by kernel_rfl) (by kernel_rfl) rfl (by kernel_rfl) rfl hH107 (fun hH108 => ?_)
            refine XA.done (by kernel_rfl) (thn_norm ?_)
            exact ⟨⟨rfl, trivial⟩, s105, (ev7.trans (ev99.trans (ev102.trans ev105)))⟩
          · skip
            refine XO.loadB (v := .agg #[.int .i64 (hi128 n.y), .int .u64 (lo128 n.y)]) (g := true) (m := 2) s99 hb_n rfl rfl (by decide) rfl (by kernel_rfl) (by kernel_rfl) rfl rfl rfl ?_
            have hH109 := (Hold.set (i := 9) (by decide)).2 hH101
            refine ⟨hH109, ?_⟩
            refine XA.op (i := 6) rfl (by kernel_rfl) (by kernel_rfl) (XO.callS (f := 45) (args := [(.agg #[.int .i64 (hi128 ((nrmOf a b c).y)), .int .u64 (lo128 ((nrmOf a b c).y))])].toArray) s99 rfl (by decide) (fun _ => by kernel_rfl) (limb_Sign_ok (av A _) _ s99.av_fresh ((nrmOf a b c).y) ) (fun _ w110 s110 ev110 kp110 hv_ => ?_))
            obtain rfl := hv_
            have hH111 := hH109.keep (i := 6) kp110 rfl
            refine ⟨hH111, ?_⟩
            refine XA.op (i := 10) rfl (by kernel_rfl) (by kernel_rfl) (XO.callS (f := 45) (args := [(.agg #[.int .i64 (hi128 n.y), .int .u64 (lo128 n.y)])].toArray) s110 rfl (by decide) (fun _ => by kernel_rfl) (limb_Sign_ok (av A _) _ s110.av_fresh n.y ) (fun _ w112 s112 ev112 kp112 hv_ => ?_))
            obtain rfl := hv_
            have hH113 := hH111.keep (i := 10) kp112 rfl
            refine ⟨hH113, ?_⟩
            refine XA.arith (p := 11) (k := .i64) (r := (cmp128 ((nrmOf a b c).y) 0) * (cmp128 n.y 0)) rfl (by kernel_rfl) (by kernel_rfl) (by kernel_rfl) rfl (by kernel_rfl) rfl (by decide) (fun _ => by kernel_rfl) (wrap_i64 (by (first | exact cmp_mul_rng _ _ _ _ | omega))) hH113 (fun hH114 => ?_)
            refine XA.valD 12 8 (.int .i64 ((cmp128 ((nrmOf a b c).y) 0) * (cmp128 n.y 0))) rfl (by kernel_rfl) (by kernel_rfl) (by kernel_rfl) rfl (by kernel_rfl) rfl hH114 (fun hH115 => ?_)
            refine XA.done (by kernel_rfl) (thn_norm ?_)
            exact ⟨⟨rfl, trivial⟩, s112, (ev7.trans (ev99.trans (ev110.trans ev112)))⟩
        · skip
          refine XO.loadB (v := .agg #[.int .i64 (hi128 n.y), .int .u64 (lo128 n.y)]) (g := true) (m := 2) s7 hb_n rfl rfl (by decide) rfl (by kernel_rfl) (by kernel_rfl) rfl rfl rfl ?_
          have hH116 := (Hold.set (i := 9) (by decide)).2 hH98
          refine ⟨hH116, ?_⟩
          refine XA.op (i := 3) rfl (by kernel_rfl) (by kernel_rfl) (XO.callS (f := 26) (args := [(.agg #[.int .i64 a.x, .int .i64 a.y, .int .i64 a.z]), (.agg #[.int .i64 b.x, .int .i64 b.y, .int .i64 b.z]), (.agg #[.int .i64 c.x, .int .i64 c.y, .int .i64 c.z])].toArray) s7 rfl (by decide) (fun _ => by kernel_rfl) (clean_normal_ok (av A _) _ s7.av_fresh a b c (by assumption) (by assumption) (by assumption)) (fun _ w117 s117 ev117 kp117 hv_ => ?_))
          obtain rfl := hv_
          have hH118 := hH116.keep (i := 3) kp117 rfl
          refine ⟨hH118, ?_⟩
          refine XA.valD 5 14 (.agg #[.int .i64 (hi128 ((nrmOf a b c).y)), .int .u64 (lo128 ((nrmOf a b c).y))]) rfl (by kernel_rfl) (by kernel_rfl) (by kernel_rfl) rfl (by kernel_rfl) rfl hH118 (fun hH119 => ?_)
          refine XA.op (i := 6) rfl (by kernel_rfl) (by kernel_rfl) (XO.callS (f := 45) (args := [(.agg #[.int .i64 (hi128 ((nrmOf a b c).y)), .int .u64 (lo128 ((nrmOf a b c).y))])].toArray) s117 rfl (by decide) (fun _ => by kernel_rfl) (limb_Sign_ok (av A _) _ s117.av_fresh ((nrmOf a b c).y) ) (fun _ w120 s120 ev120 kp120 hv_ => ?_))
          obtain rfl := hv_
          have hH121 := hH119.keep (i := 6) kp120 rfl
          refine ⟨hH121, ?_⟩
          refine XA.op (i := 10) rfl (by kernel_rfl) (by kernel_rfl) (XO.callS (f := 45) (args := [(.agg #[.int .i64 (hi128 n.y), .int .u64 (lo128 n.y)])].toArray) s120 rfl (by decide) (fun _ => by kernel_rfl) (limb_Sign_ok (av A _) _ s120.av_fresh n.y ) (fun _ w122 s122 ev122 kp122 hv_ => ?_))
          obtain rfl := hv_
          have hH123 := hH121.keep (i := 10) kp122 rfl
          refine ⟨hH123, ?_⟩
          refine XA.arith (p := 11) (k := .i64) (r := (cmp128 ((nrmOf a b c).y) 0) * (cmp128 n.y 0)) rfl (by kernel_rfl) (by kernel_rfl) (by kernel_rfl) rfl (by kernel_rfl) rfl (by decide) (fun _ => by kernel_rfl) (wrap_i64 (by (first | exact cmp_mul_rng _ _ _ _ | omega))) hH123 (fun hH124 => ?_)
          refine XA.valD 12 8 (.int .i64 ((cmp128 ((nrmOf a b c).y) 0) * (cmp128 n.y 0))) rfl (by kernel_rfl) (by kernel_rfl) (by kernel_rfl) rfl (by kernel_rfl) rfl hH124 (fun hH125 => ?_)
          refine XA.done (by kernel_rfl) (thn_norm ?_)
          exact ⟨⟨rfl, trivial⟩, s122, (ev7.trans (ev117.trans (ev120.trans ev122)))⟩
    · skip
      refine XO.loadB (v := .int .i64 1) (g := false) (m := 1) s7 hb_k rfl rfl (by decide) rfl (by kernel_rfl) (by kernel_rfl) rfl rfl rfl ?_
      have hH126 := (Hold.set (i := 7) (by decide)).2 hH11
      refine ⟨hH126, ?_⟩
      refine XA.valD 8 17 (.pointer (some ⟨b_n, 2, none⟩)) rfl (by kernel_rfl) (by kernel_rfl) (by kernel_rfl) rfl (by kernel_rfl) rfl hH126 (fun hH127 => ?_)
      refine XA.op3 (i := 3) (j := 4) (k := 9) rfl rfl rfl (by kernel_rfl) (by kernel_rfl) (by kernel_rfl) (by kernel_rfl) ?_ ?_ ?_
      · skip
        refine XO.callS (f := 26) (args := [(.agg #[.int .i64 a.x, .int .i64 a.y, .int .i64 a.z]), (.agg #[.int .i64 b.x, .int .i64 b.y, .int .i64 b.z]), (.agg #[.int .i64 c.x, .int .i64 c.y, .int .i64 c.z])].toArray) s7 rfl (by decide) (fun _ => by kernel_rfl) (clean_normal_ok (av A _) _ s7.av_fresh a b c (by assumption) (by assumption) (by assumption)) (fun _ w128 s128 ev128 kp128 hv_ => ?_)
        obtain rfl := hv_
        have hH129 := hH127.keep (i := 3) kp128 rfl
        refine ⟨hH129, ?_⟩
        refine XA.op2 (i := 4) (j := 9) rfl rfl (by kernel_rfl) (by kernel_rfl) (by kernel_rfl) ?_ ?_
        · skip
          refine XO.loadB (v := .int .i64 1) (g := false) (m := 1) s128 hb_k rfl rfl (by decide) rfl (by kernel_rfl) (by kernel_rfl) rfl rfl rfl ?_
          have hH130 := (Hold.set (i := 4) (by decide)).2 hH129
          refine ⟨hH130, ?_⟩
          refine XA.valD 5 14 (.agg #[.int .i64 (hi128 ((nrmOf a b c).y)), .int .u64 (lo128 ((nrmOf a b c).y))]) rfl (by kernel_rfl) (by kernel_rfl) (by kernel_rfl) rfl (by kernel_rfl) rfl hH130 (fun hH131 => ?_)
          refine XA.op2 (i := 6) (j := 9) rfl rfl (by kernel_rfl) (by kernel_rfl) (by kernel_rfl) ?_ ?_
          · skip
            refine XO.callS (f := 45) (args := [(.agg #[.int .i64 (hi128 ((nrmOf a b c).y)), .int .u64 (lo128 ((nrmOf a b c).y))])].toArray) s128 rfl (by decide) (fun _ => by kernel_rfl) (limb_Sign_ok (av A _) _ s128.av_fresh ((nrmOf a b c).y) ) (fun _ w132 s132 ev132 kp132 hv_ => ?_)
            obtain rfl := hv_
            have hH133 := hH131.keep (i := 6) kp132 rfl
            refine ⟨hH133, ?_⟩
            refine XA.op (i := 9) rfl (by kernel_rfl) (by kernel_rfl) (XO.loadB (v := .agg #[.int .i64 (hi128 n.y), .int .u64 (lo128 n.y)]) (g := true) (m := 2) s132 hb_n rfl rfl (by decide) rfl (by kernel_rfl) (by kernel_rfl) rfl rfl rfl ?_)
            have hH134 := (Hold.set (i := 9) (by decide)).2 hH133
            refine ⟨hH134, ?_⟩
            refine XA.op (i := 10) rfl (by kernel_rfl) (by kernel_rfl) (XO.callS (f := 45) (args := [(.agg #[.int .i64 (hi128 n.y), .int .u64 (lo128 n.y)])].toArray) s132 rfl (by decide) (fun _ => by kernel_rfl) (limb_Sign_ok (av A _) _ s132.av_fresh n.y ) (fun _ w135 s135 ev135 kp135 hv_ => ?_))
            obtain rfl := hv_
            have hH136 := hH134.keep (i := 10) kp135 rfl
            refine ⟨hH136, ?_⟩
            refine XA.arith (p := 11) (k := .i64) (r := (cmp128 ((nrmOf a b c).y) 0) * (cmp128 n.y 0)) rfl (by kernel_rfl) (by kernel_rfl) (by kernel_rfl) rfl (by kernel_rfl) rfl (by decide) (fun _ => by kernel_rfl) (wrap_i64 (by (first | exact cmp_mul_rng _ _ _ _ | omega))) hH136 (fun hH137 => ?_)
            refine XA.valD 12 8 (.int .i64 ((cmp128 ((nrmOf a b c).y) 0) * (cmp128 n.y 0))) rfl (by kernel_rfl) (by kernel_rfl) (by kernel_rfl) rfl (by kernel_rfl) rfl hH137 (fun hH138 => ?_)
            refine XA.done (by kernel_rfl) (thn_norm ?_)
            exact ⟨⟨rfl, trivial⟩, s135, (ev7.trans (ev128.trans (ev132.trans ev135)))⟩
          · skip
            refine XO.loadB (v := .agg #[.int .i64 (hi128 n.y), .int .u64 (lo128 n.y)]) (g := true) (m := 2) s128 hb_n rfl rfl (by decide) rfl (by kernel_rfl) (by kernel_rfl) rfl rfl rfl ?_
            have hH139 := (Hold.set (i := 9) (by decide)).2 hH131
            refine ⟨hH139, ?_⟩
            refine XA.op (i := 6) rfl (by kernel_rfl) (by kernel_rfl) (XO.callS (f := 45) (args := [(.agg #[.int .i64 (hi128 ((nrmOf a b c).y)), .int .u64 (lo128 ((nrmOf a b c).y))])].toArray) s128 rfl (by decide) (fun _ => by kernel_rfl) (limb_Sign_ok (av A _) _ s128.av_fresh ((nrmOf a b c).y) ) (fun _ w140 s140 ev140 kp140 hv_ => ?_))
            obtain rfl := hv_
            have hH141 := hH139.keep (i := 6) kp140 rfl
            refine ⟨hH141, ?_⟩
            refine XA.op (i := 10) rfl (by kernel_rfl) (by kernel_rfl) (XO.callS (f := 45) (args := [(.agg #[.int .i64 (hi128 n.y), .int .u64 (lo128 n.y)])].toArray) s140 rfl (by decide) (fun _ => by kernel_rfl) (limb_Sign_ok (av A _) _ s140.av_fresh n.y ) (fun _ w142 s142 ev142 kp142 hv_ => ?_))
            obtain rfl := hv_
            have hH143 := hH141.keep (i := 10) kp142 rfl
            refine ⟨hH143, ?_⟩
            refine XA.arith (p := 11) (k := .i64) (r := (cmp128 ((nrmOf a b c).y) 0) * (cmp128 n.y 0)) rfl (by kernel_rfl) (by kernel_rfl) (by kernel_rfl) rfl (by kernel_rfl) rfl (by decide) (fun _ => by kernel_rfl) (wrap_i64 (by (first | exact cmp_mul_rng _ _ _ _ | omega))) hH143 (fun hH144 => ?_)
            refine XA.valD 12 8 (.int .i64 ((cmp128 ((nrmOf a b c).y) 0) * (cmp128 n.y 0))) rfl (by kernel_rfl) (by kernel_rfl) (by kernel_rfl) rfl (by kernel_rfl) rfl hH144 (fun hH145 => ?_)
            refine XA.done (by kernel_rfl) (thn_norm ?_)
            exact ⟨⟨rfl, trivial⟩, s142, (ev7.trans (ev128.trans (ev140.trans ev142)))⟩
        · skip
          refine XO.loadB (v := .agg #[.int .i64 (hi128 n.y), .int .u64 (lo128 n.y)]) (g := true) (m := 2) s128 hb_n rfl rfl (by decide) rfl (by kernel_rfl) (by kernel_rfl) rfl rfl rfl ?_
          have hH146 := (Hold.set (i := 9) (by decide)).2 hH129
          refine ⟨hH146, ?_⟩
          refine XA.op (i := 4) rfl (by kernel_rfl) (by kernel_rfl) (XO.loadB (v := .int .i64 1) (g := false) (m := 1) s128 hb_k rfl rfl (by decide) rfl (by kernel_rfl) (by kernel_rfl) rfl rfl rfl ?_)
          have hH147 := (Hold.set (i := 4) (by decide)).2 hH146
          refine ⟨hH147, ?_⟩
          refine XA.valD 5 14 (.agg #[.int .i64 (hi128 ((nrmOf a b c).y)), .int .u64 (lo128 ((nrmOf a b c).y))]) rfl (by kernel_rfl) (by kernel_rfl) (by kernel_rfl) rfl (by kernel_rfl) rfl hH147 (fun hH148 => ?_)
          refine XA.op (i := 6) rfl (by kernel_rfl) (by kernel_rfl) (XO.callS (f := 45) (args := [(.agg #[.int .i64 (hi128 ((nrmOf a b c).y)), .int .u64 (lo128 ((nrmOf a b c).y))])].toArray) s128 rfl (by decide) (fun _ => by kernel_rfl) (limb_Sign_ok (av A _) _ s128.av_fresh ((nrmOf a b c).y) ) (fun _ w149 s149 ev149 kp149 hv_ => ?_))
          obtain rfl := hv_
          have hH150 := hH148.keep (i := 6) kp149 rfl
          refine ⟨hH150, ?_⟩
          refine XA.op (i := 10) rfl (by kernel_rfl) (by kernel_rfl) (XO.callS (f := 45) (args := [(.agg #[.int .i64 (hi128 n.y), .int .u64 (lo128 n.y)])].toArray) s149 rfl (by decide) (fun _ => by kernel_rfl) (limb_Sign_ok (av A _) _ s149.av_fresh n.y ) (fun _ w151 s151 ev151 kp151 hv_ => ?_))
          obtain rfl := hv_
          have hH152 := hH150.keep (i := 10) kp151 rfl
          refine ⟨hH152, ?_⟩
          refine XA.arith (p := 11) (k := .i64) (r := (cmp128 ((nrmOf a b c).y) 0) * (cmp128 n.y 0)) rfl (by kernel_rfl) (by kernel_rfl) (by kernel_rfl) rfl (by kernel_rfl) rfl (by decide) (fun _ => by kernel_rfl) (wrap_i64 (by (first | exact cmp_mul_rng _ _ _ _ | omega))) hH152 (fun hH153 => ?_)
          refine XA.valD 12 8 (.int .i64 ((cmp128 ((nrmOf a b c).y) 0) * (cmp128 n.y 0))) rfl (by kernel_rfl) (by kernel_rfl) (by kernel_rfl) rfl (by kernel_rfl) rfl hH153 (fun hH154 => ?_)
          refine XA.done (by kernel_rfl) (thn_norm ?_)
          exact ⟨⟨rfl, trivial⟩, s151, (ev7.trans (ev128.trans (ev149.trans ev151)))⟩
      · skip
        refine XO.loadB (v := .int .i64 1) (g := false) (m := 1) s7 hb_k rfl rfl (by decide) rfl (by kernel_rfl) (by kernel_rfl) rfl rfl rfl ?_
        have hH155 := (Hold.set (i := 4) (by decide)).2 hH127
        refine ⟨hH155, ?_⟩
        refine XA.op2 (i := 3) (j := 9) rfl rfl (by kernel_rfl) (by kernel_rfl) (by kernel_rfl) ?_ ?_
        · skip
          refine XO.callS (f := 26) (args := [(.agg #[.int .i64 a.x, .int .i64 a.y, .int .i64 a.z]), (.agg #[.int .i64 b.x, .int .i64 b.y, .int .i64 b.z]), (.agg #[.int .i64 c.x, .int .i64 c.y, .int .i64 c.z])].toArray) s7 rfl (by decide) (fun _ => by kernel_rfl) (clean_normal_ok (av A _) _ s7.av_fresh a b c (by assumption) (by assumption) (by assumption)) (fun _ w156 s156 ev156 kp156 hv_ => ?_)
          obtain rfl := hv_
          have hH157 := hH155.keep (i := 3) kp156 rfl
          refine ⟨hH157, ?_⟩
          refine XA.valD 5 14 (.agg #[.int .i64 (hi128 ((nrmOf a b c).y)), .int .u64 (lo128 ((nrmOf a b c).y))]) rfl (by kernel_rfl) (by kernel_rfl) (by kernel_rfl) rfl (by kernel_rfl) rfl hH157 (fun hH158 => ?_)
          refine XA.op2 (i := 6) (j := 9) rfl rfl (by kernel_rfl) (by kernel_rfl) (by kernel_rfl) ?_ ?_
          · skip
            refine XO.callS (f := 45) (args := [(.agg #[.int .i64 (hi128 ((nrmOf a b c).y)), .int .u64 (lo128 ((nrmOf a b c).y))])].toArray) s156 rfl (by decide) (fun _ => by kernel_rfl) (limb_Sign_ok (av A _) _ s156.av_fresh ((nrmOf a b c).y) ) (fun _ w159 s159 ev159 kp159 hv_ => ?_)
            obtain rfl := hv_
            have hH160 := hH158.keep (i := 6) kp159 rfl
            refine ⟨hH160, ?_⟩
            refine XA.op (i := 9) rfl (by kernel_rfl) (by kernel_rfl) (XO.loadB (v := .agg #[.int .i64 (hi128 n.y), .int .u64 (lo128 n.y)]) (g := true) (m := 2) s159 hb_n rfl rfl (by decide) rfl (by kernel_rfl) (by kernel_rfl) rfl rfl rfl ?_)
            have hH161 := (Hold.set (i := 9) (by decide)).2 hH160
            refine ⟨hH161, ?_⟩
            refine XA.op (i := 10) rfl (by kernel_rfl) (by kernel_rfl) (XO.callS (f := 45) (args := [(.agg #[.int .i64 (hi128 n.y), .int .u64 (lo128 n.y)])].toArray) s159 rfl (by decide) (fun _ => by kernel_rfl) (limb_Sign_ok (av A _) _ s159.av_fresh n.y ) (fun _ w162 s162 ev162 kp162 hv_ => ?_))
            obtain rfl := hv_
            have hH163 := hH161.keep (i := 10) kp162 rfl
            refine ⟨hH163, ?_⟩
            refine XA.arith (p := 11) (k := .i64) (r := (cmp128 ((nrmOf a b c).y) 0) * (cmp128 n.y 0)) rfl (by kernel_rfl) (by kernel_rfl) (by kernel_rfl) rfl (by kernel_rfl) rfl (by decide) (fun _ => by kernel_rfl) (wrap_i64 (by (first | exact cmp_mul_rng _ _ _ _ | omega))) hH163 (fun hH164 => ?_)
            refine XA.valD 12 8 (.int .i64 ((cmp128 ((nrmOf a b c).y) 0) * (cmp128 n.y 0))) rfl (by kernel_rfl) (by kernel_rfl) (by kernel_rfl) rfl (by kernel_rfl) rfl hH164 (fun hH165 => ?_)
            refine XA.done (by kernel_rfl) (thn_norm ?_)
            exact ⟨⟨rfl, trivial⟩, s162, (ev7.trans (ev156.trans (ev159.trans ev162)))⟩
          · skip
            refine XO.loadB (v := .agg #[.int .i64 (hi128 n.y), .int .u64 (lo128 n.y)]) (g := true) (m := 2) s156 hb_n rfl rfl (by decide) rfl (by kernel_rfl) (by kernel_rfl) rfl rfl rfl ?_
            have hH166 := (Hold.set (i := 9) (by decide)).2 hH158
            refine ⟨hH166, ?_⟩
            refine XA.op (i := 6) rfl (by kernel_rfl) (by kernel_rfl) (XO.callS (f := 45) (args := [(.agg #[.int .i64 (hi128 ((nrmOf a b c).y)), .int .u64 (lo128 ((nrmOf a b c).y))])].toArray) s156 rfl (by decide) (fun _ => by kernel_rfl) (limb_Sign_ok (av A _) _ s156.av_fresh ((nrmOf a b c).y) ) (fun _ w167 s167 ev167 kp167 hv_ => ?_))
            obtain rfl := hv_
            have hH168 := hH166.keep (i := 6) kp167 rfl
            refine ⟨hH168, ?_⟩
            refine XA.op (i := 10) rfl (by kernel_rfl) (by kernel_rfl) (XO.callS (f := 45) (args := [(.agg #[.int .i64 (hi128 n.y), .int .u64 (lo128 n.y)])].toArray) s167 rfl (by decide) (fun _ => by kernel_rfl) (limb_Sign_ok (av A _) _ s167.av_fresh n.y ) (fun _ w169 s169 ev169 kp169 hv_ => ?_))
            obtain rfl := hv_
            have hH170 := hH168.keep (i := 10) kp169 rfl
            refine ⟨hH170, ?_⟩
            refine XA.arith (p := 11) (k := .i64) (r := (cmp128 ((nrmOf a b c).y) 0) * (cmp128 n.y 0)) rfl (by kernel_rfl) (by kernel_rfl) (by kernel_rfl) rfl (by kernel_rfl) rfl (by decide) (fun _ => by kernel_rfl) (wrap_i64 (by (first | exact cmp_mul_rng _ _ _ _ | omega))) hH170 (fun hH171 => ?_)
            refine XA.valD 12 8 (.int .i64 ((cmp128 ((nrmOf a b c).y) 0) * (cmp128 n.y 0))) rfl (by kernel_rfl) (by kernel_rfl) (by kernel_rfl) rfl (by kernel_rfl) rfl hH171 (fun hH172 => ?_)
            refine XA.done (by kernel_rfl) (thn_norm ?_)
            exact ⟨⟨rfl, trivial⟩, s169, (ev7.trans (ev156.trans (ev167.trans ev169)))⟩
        · skip
          refine XO.loadB (v := .agg #[.int .i64 (hi128 n.y), .int .u64 (lo128 n.y)]) (g := true) (m := 2) s7 hb_n rfl rfl (by decide) rfl (by kernel_rfl) (by kernel_rfl) rfl rfl rfl ?_
          have hH173 := (Hold.set (i := 9) (by decide)).2 hH155
          refine ⟨hH173, ?_⟩
          refine XA.op (i := 3) rfl (by kernel_rfl) (by kernel_rfl) (XO.callS (f := 26) (args := [(.agg #[.int .i64 a.x, .int .i64 a.y, .int .i64 a.z]), (.agg #[.int .i64 b.x, .int .i64 b.y, .int .i64 b.z]), (.agg #[.int .i64 c.x, .int .i64 c.y, .int .i64 c.z])].toArray) s7 rfl (by decide) (fun _ => by kernel_rfl) (clean_normal_ok (av A _) _ s7.av_fresh a b c (by assumption) (by assumption) (by assumption)) (fun _ w174 s174 ev174 kp174 hv_ => ?_))
          obtain rfl := hv_
          have hH175 := hH173.keep (i := 3) kp174 rfl
          refine ⟨hH175, ?_⟩
          refine XA.valD 5 14 (.agg #[.int .i64 (hi128 ((nrmOf a b c).y)), .int .u64 (lo128 ((nrmOf a b c).y))]) rfl (by kernel_rfl) (by kernel_rfl) (by kernel_rfl) rfl (by kernel_rfl) rfl hH175 (fun hH176 => ?_)
          refine XA.op (i := 6) rfl (by kernel_rfl) (by kernel_rfl) (XO.callS (f := 45) (args := [(.agg #[.int .i64 (hi128 ((nrmOf a b c).y)), .int .u64 (lo128 ((nrmOf a b c).y))])].toArray) s174 rfl (by decide) (fun _ => by kernel_rfl) (limb_Sign_ok (av A _) _ s174.av_fresh ((nrmOf a b c).y) ) (fun _ w177 s177 ev177 kp177 hv_ => ?_))
          obtain rfl := hv_
          have hH178 := hH176.keep (i := 6) kp177 rfl
          refine ⟨hH178, ?_⟩
          refine XA.op (i := 10) rfl (by kernel_rfl) (by kernel_rfl) (XO.callS (f := 45) (args := [(.agg #[.int .i64 (hi128 n.y), .int .u64 (lo128 n.y)])].toArray) s177 rfl (by decide) (fun _ => by kernel_rfl) (limb_Sign_ok (av A _) _ s177.av_fresh n.y ) (fun _ w179 s179 ev179 kp179 hv_ => ?_))
          obtain rfl := hv_
          have hH180 := hH178.keep (i := 10) kp179 rfl
          refine ⟨hH180, ?_⟩
          refine XA.arith (p := 11) (k := .i64) (r := (cmp128 ((nrmOf a b c).y) 0) * (cmp128 n.y 0)) rfl (by kernel_rfl) (by kernel_rfl) (by kernel_rfl) rfl (by kernel_rfl) rfl (by decide) (fun _ => by kernel_rfl) (wrap_i64 (by (first | exact cmp_mul_rng _ _ _ _ | omega))) hH180 (fun hH181 => ?_)
          refine XA.valD 12 8 (.int .i64 ((cmp128 ((nrmOf a b c).y) 0) * (cmp128 n.y 0))) rfl (by kernel_rfl) (by kernel_rfl) (by kernel_rfl) rfl (by kernel_rfl) rfl hH181 (fun hH182 => ?_)
          refine XA.done (by kernel_rfl) (thn_norm ?_)
          exact ⟨⟨rfl, trivial⟩, s179, (ev7.trans (ev174.trans (ev177.trans ev179)))⟩
      · skip
        refine XO.loadB (v := .agg #[.int .i64 (hi128 n.y), .int .u64 (lo128 n.y)]) (g := true) (m := 2) s7 hb_n rfl rfl (by decide) rfl (by kernel_rfl) (by kernel_rfl) rfl rfl rfl ?_
        have hH183 := (Hold.set (i := 9) (by decide)).2 hH127
        refine ⟨hH183, ?_⟩
        refine XA.op2 (i := 3) (j := 4) rfl rfl (by kernel_rfl) (by kernel_rfl) (by kernel_rfl) ?_ ?_
        · skip
          refine XO.callS (f := 26) (args := [(.agg #[.int .i64 a.x, .int .i64 a.y, .int .i64 a.z]), (.agg #[.int .i64 b.x, .int .i64 b.y, .int .i64 b.z]), (.agg #[.int .i64 c.x, .int .i64 c.y, .int .i64 c.z])].toArray) s7 rfl (by decide) (fun _ => by kernel_rfl) (clean_normal_ok (av A _) _ s7.av_fresh a b c (by assumption) (by assumption) (by assumption)) (fun _ w184 s184 ev184 kp184 hv_ => ?_)
          obtain rfl := hv_
          have hH185 := hH183.keep (i := 3) kp184 rfl
          refine ⟨hH185, ?_⟩
          refine XA.op (i := 4) rfl (by kernel_rfl) (by kernel_rfl) (XO.loadB (v := .int .i64 1) (g := false) (m := 1) s184 hb_k rfl rfl (by decide) rfl (by kernel_rfl) (by kernel_rfl) rfl rfl rfl ?_)
          have hH186 := (Hold.set (i := 4) (by decide)).2 hH185
          refine ⟨hH186, ?_⟩
          refine XA.valD 5 14 (.agg #[.int .i64 (hi128 ((nrmOf a b c).y)), .int .u64 (lo128 ((nrmOf a b c).y))]) rfl (by kernel_rfl) (by kernel_rfl) (by kernel_rfl) rfl (by kernel_rfl) rfl hH186 (fun hH187 => ?_)
          refine XA.op (i := 6) rfl (by kernel_rfl) (by kernel_rfl) (XO.callS (f := 45) (args := [(.agg #[.int .i64 (hi128 ((nrmOf a b c).y)), .int .u64 (lo128 ((nrmOf a b c).y))])].toArray) s184 rfl (by decide) (fun _ => by kernel_rfl) (limb_Sign_ok (av A _) _ s184.av_fresh ((nrmOf a b c).y) ) (fun _ w188 s188 ev188 kp188 hv_ => ?_))
          obtain rfl := hv_
          have hH189 := hH187.keep (i := 6) kp188 rfl
          refine ⟨hH189, ?_⟩
          refine XA.op (i := 10) rfl (by kernel_rfl) (by kernel_rfl) (XO.callS (f := 45) (args := [(.agg #[.int .i64 (hi128 n.y), .int .u64 (lo128 n.y)])].toArray) s188 rfl (by decide) (fun _ => by kernel_rfl) (limb_Sign_ok (av A _) _ s188.av_fresh n.y ) (fun _ w190 s190 ev190 kp190 hv_ => ?_))
          obtain rfl := hv_
          have hH191 := hH189.keep (i := 10) kp190 rfl
          refine ⟨hH191, ?_⟩
          refine XA.arith (p := 11) (k := .i64) (r := (cmp128 ((nrmOf a b c).y) 0) * (cmp128 n.y 0)) rfl (by kernel_rfl) (by kernel_rfl) (by kernel_rfl) rfl (by kernel_rfl) rfl (by decide) (fun _ => by kernel_rfl) (wrap_i64 (by (first | exact cmp_mul_rng _ _ _ _ | omega))) hH191 (fun hH192 => ?_)
          refine XA.valD 12 8 (.int .i64 ((cmp128 ((nrmOf a b c).y) 0) * (cmp128 n.y 0))) rfl (by kernel_rfl) (by kernel_rfl) (by kernel_rfl) rfl (by kernel_rfl) rfl hH192 (fun hH193 => ?_)
          refine XA.done (by kernel_rfl) (thn_norm ?_)
          exact ⟨⟨rfl, trivial⟩, s190, (ev7.trans (ev184.trans (ev188.trans ev190)))⟩
        · skip
          refine XO.loadB (v := .int .i64 1) (g := false) (m := 1) s7 hb_k rfl rfl (by decide) rfl (by kernel_rfl) (by kernel_rfl) rfl rfl rfl ?_
          have hH194 := (Hold.set (i := 4) (by decide)).2 hH183
          refine ⟨hH194, ?_⟩
          refine XA.op (i := 3) rfl (by kernel_rfl) (by kernel_rfl) (XO.callS (f := 26) (args := [(.agg #[.int .i64 a.x, .int .i64 a.y, .int .i64 a.z]), (.agg #[.int .i64 b.x, .int .i64 b.y, .int .i64 b.z]), (.agg #[.int .i64 c.x, .int .i64 c.y, .int .i64 c.z])].toArray) s7 rfl (by decide) (fun _ => by kernel_rfl) (clean_normal_ok (av A _) _ s7.av_fresh a b c (by assumption) (by assumption) (by assumption)) (fun _ w195 s195 ev195 kp195 hv_ => ?_))
          obtain rfl := hv_
          have hH196 := hH194.keep (i := 3) kp195 rfl
          refine ⟨hH196, ?_⟩
          refine XA.valD 5 14 (.agg #[.int .i64 (hi128 ((nrmOf a b c).y)), .int .u64 (lo128 ((nrmOf a b c).y))]) rfl (by kernel_rfl) (by kernel_rfl) (by kernel_rfl) rfl (by kernel_rfl) rfl hH196 (fun hH197 => ?_)
          refine XA.op (i := 6) rfl (by kernel_rfl) (by kernel_rfl) (XO.callS (f := 45) (args := [(.agg #[.int .i64 (hi128 ((nrmOf a b c).y)), .int .u64 (lo128 ((nrmOf a b c).y))])].toArray) s195 rfl (by decide) (fun _ => by kernel_rfl) (limb_Sign_ok (av A _) _ s195.av_fresh ((nrmOf a b c).y) ) (fun _ w198 s198 ev198 kp198 hv_ => ?_))
          obtain rfl := hv_
          have hH199 := hH197.keep (i := 6) kp198 rfl
          refine ⟨hH199, ?_⟩
          refine XA.op (i := 10) rfl (by kernel_rfl) (by kernel_rfl) (XO.callS (f := 45) (args := [(.agg #[.int .i64 (hi128 n.y), .int .u64 (lo128 n.y)])].toArray) s198 rfl (by decide) (fun _ => by kernel_rfl) (limb_Sign_ok (av A _) _ s198.av_fresh n.y ) (fun _ w200 s200 ev200 kp200 hv_ => ?_))
          obtain rfl := hv_
          have hH201 := hH199.keep (i := 10) kp200 rfl
          refine ⟨hH201, ?_⟩
          refine XA.arith (p := 11) (k := .i64) (r := (cmp128 ((nrmOf a b c).y) 0) * (cmp128 n.y 0)) rfl (by kernel_rfl) (by kernel_rfl) (by kernel_rfl) rfl (by kernel_rfl) rfl (by decide) (fun _ => by kernel_rfl) (wrap_i64 (by (first | exact cmp_mul_rng _ _ _ _ | omega))) hH201 (fun hH202 => ?_)
          refine XA.valD 12 8 (.int .i64 ((cmp128 ((nrmOf a b c).y) 0) * (cmp128 n.y 0))) rfl (by kernel_rfl) (by kernel_rfl) (by kernel_rfl) rfl (by kernel_rfl) rfl hH202 (fun hH203 => ?_)
          refine XA.done (by kernel_rfl) (thn_norm ?_)
          exact ⟨⟨rfl, trivial⟩, s200, (ev7.trans (ev195.trans (ev198.trans ev200)))⟩
  intro ρw204 w204 hJ_
  obtain ⟨hh204, s204, ev204⟩ := hJ_
  refine XC.rebase hh204 ?_
  refine XC.ret ?_
  refine ⟨Or.inr rfl, .int .i64 ((cmp128 ((nrmOf a b c).y) 0) * (cmp128 n.y 0)), fun a_ ha_ => results_t rfl ha_ rfl, s204.keep, ?_⟩
  rfl

theorem clean_round_side2_ok (A : Nat → Prop) (w0 : World) (hA : ∀ b, w0.heap.size ≤ b → A b) (a : Pt) (b : Pt) (c : Pt) (b_k : Nat) (T_k : TypeId) (hb_k : w0.heap[b_k]? = some (.cells [.int .i64 2].toArray T_k (0, 0))) (n : Pt) (b_n : Nat) (T_n : TypeId) (hb_n : w0.heap[b_n]? = some (.cells [.int .i64 (hi128 n.x), .int .u64 (lo128 n.x), .int .i64 (hi128 n.y), .int .u64 (lo128 n.y), .int .i64 (hi128 n.z), .int .u64 (lo128 n.z)].toArray T_n (0, 0))) (ha : a.ok) (hb : b.ok) (hc : c.ok)  : Cal Tryz.prog 46 [(.agg #[.int .i64 a.x, .int .i64 a.y, .int .i64 a.z]), (.agg #[.int .i64 b.x, .int .i64 b.y, .int .i64 b.z]), (.agg #[.int .i64 c.x, .int .i64 c.y, .int .i64 c.z]), (.pointer (some ⟨b_k, 0, none⟩)), (.pointer (some ⟨b_n, 0, none⟩))].toArray w0 (fun v w' => Keep none_ w0 w' ∧ v = .int .i64 (cmp128 ((nrmOf a b c).at 2) 0 * cmp128 (n.at 2) 0)) := by
  have s0 : Stt A w0 none_ [] w0 := Stt.start hA none_
  refine Cal.intro (n := 21) Tryz.func46 rfl Tryz.ntmps46 rfl ?_
  refine XC.seq ?_
  refine XC.region ?_
  refine XS.op rfl rfl (XO.new (cs := [.int .i64 a.x, .int .i64 a.y, .int .i64 a.z]) (T := 24) s0 rfl (by decide) (fun _ => by kernel_rfl) (fun b1 w2 s2 ev2 kp2 ybb1 => ?_))
  refine XS.op rfl rfl (XO.new (cs := [.int .i64 b.x, .int .i64 b.y, .int .i64 b.z]) (T := 24) s2 rfl (by decide) (fun _ => by kernel_rfl) (fun b3 w4 s4 ev4 kp4 ybb3 => ?_))
  refine XS.op rfl rfl (XO.new (cs := [.int .i64 c.x, .int .i64 c.y, .int .i64 c.z]) (T := 24) s4 rfl (by decide) (fun _ => by kernel_rfl) (fun b5 w6 s6 ev6 kp6 ybb5 => ?_))
  refine XS.vals' 1 [(8, .int .i64 0)] (by kernel_rfl) ?_
  refine XS.done rfl (thn_norm ?_)
  refine XC.cut (fun ρ_ w_ => Has ρ_ [(8, .int .i64 ((cmp128 ((nrmOf a b c).z) 0) * (cmp128 n.z 0)))] ∧ Stt A w0 none_ [cellsA b1 [.int .i64 a.x, .int .i64 a.y, .int .i64 a.z] 24, cellsA b3 [.int .i64 b.x, .int .i64 b.y, .int .i64 b.z] 24, cellsA b5 [.int .i64 c.x, .int .i64 c.y, .int .i64 c.z] 24] w_ ∧ Evo (av A [cellsA b1 [.int .i64 a.x, .int .i64 a.y, .int .i64 a.z] 24, cellsA b3 [.int .i64 b.x, .int .i64 b.y, .int .i64 b.z] 24, cellsA b5 [.int .i64 c.x, .int .i64 c.y, .int .i64 c.z] 24]) w6 (av A [cellsA b1 [.int .i64 a.x, .int .i64 a.y, .int .i64 a.z] 24, cellsA b3 [.int .i64 b.x, .int .i64 b.y, .int .i64 b.z] 24, cellsA b5 [.int .i64 c.x, .int .i64 c.y, .int .i64 c.z] 24]) w_) ?_ ?_
  · skip
    refine XC.drawS 13 rfl (fun _ => False) 13 (by kernel_rfl) s6 (fun w7 s7 ev7 kp7 hH8 => ?_)
    refine XA.loadS false (j := 0) (i := 0) (v := .agg #[.int .i64 a.x, .int .i64 a.y, .int .i64 a.z]) (g := true) (m := 3) s7 rfl rfl (by kernel_rfl) (by kernel_rfl) (by kernel_rfl) rfl (by kernel_rfl) (fun _ h => h) (by kernel_rfl) rfl rfl (by decide) hH8 rfl (by kernel_rfl) (by kernel_rfl) rfl rfl rfl (fun hH9 => ?_)
    refine XA.loadS false (j := 1) (i := 1) (v := .agg #[.int .i64 b.x, .int .i64 b.y, .int .i64 b.z]) (g := true) (m := 3) s7 rfl rfl (by kernel_rfl) (by kernel_rfl) (by kernel_rfl) rfl (by kernel_rfl) (fun _ h => h) (by kernel_rfl) rfl rfl (by decide) hH9 rfl (by kernel_rfl) (by kernel_rfl) rfl rfl rfl (fun hH10 => ?_)
    refine XA.loadS false (j := 2) (i := 2) (v := .agg #[.int .i64 c.x, .int .i64 c.y, .int .i64 c.z]) (g := true) (m := 3) s7 rfl rfl (by kernel_rfl) (by kernel_rfl) (by kernel_rfl) rfl (by kernel_rfl) (fun _ h => h) (by kernel_rfl) rfl rfl (by decide) hH10 rfl (by kernel_rfl) (by kernel_rfl) rfl rfl rfl (fun hH11 => ?_)
    refine XA.op3 (i := 3) (j := 4) (k := 7) rfl rfl rfl (by kernel_rfl) (by kernel_rfl) (by kernel_rfl) (by kernel_rfl) ?_ ?_ ?_
    · skip
      refine XO.callS (f := 26) (args := [(.agg #[.int .i64 a.x, .int .i64 a.y, .int .i64 a.z]), (.agg #[.int .i64 b.x, .int .i64 b.y, .int .i64 b.z]), (.agg #[.int .i64 c.x, .int .i64 c.y, .int .i64 c.z])].toArray) s7 rfl (by decide) (fun _ => by kernel_rfl) (clean_normal_ok (av A _) _ s7.av_fresh a b c (by assumption) (by assumption) (by assumption)) (fun _ w12 s12 ev12 kp12 hv_ => ?_)
      obtain rfl := hv_
      have hH13 := hH11.keep (i := 3) kp12 rfl
      refine ⟨hH13, ?_⟩
      refine XA.op2 (i := 4) (j := 7) rfl rfl (by kernel_rfl) (by kernel_rfl) (by kernel_rfl) ?_ ?_
      · skip
        refine XO.loadB (v := .int .i64 2) (g := false) (m := 1) s12 hb_k rfl rfl (by decide) rfl (by kernel_rfl) (by kernel_rfl) rfl rfl rfl ?_
        have hH14 := (Hold.set (i := 4) (by decide)).2 hH13
        refine ⟨hH14, ?_⟩
        refine XA.valD 5 14 (.agg #[.int .i64 (hi128 ((nrmOf a b c).z)), .int .u64 (lo128 ((nrmOf a b c).z))]) rfl (by kernel_rfl) (by kernel_rfl) (by kernel_rfl) rfl (by kernel_rfl) rfl hH14 (fun hH15 => ?_)
        refine XA.op2 (i := 6) (j := 7) rfl rfl (by kernel_rfl) (by kernel_rfl) (by kernel_rfl) ?_ ?_
        · skip
          refine XO.callS (f := 45) (args := [(.agg #[.int .i64 (hi128 ((nrmOf a b c).z)), .int .u64 (lo128 ((nrmOf a b c).z))])].toArray) s12 rfl (by decide) (fun _ => by kernel_rfl) (limb_Sign_ok (av A _) _ s12.av_fresh ((nrmOf a b c).z) ) (fun _ w16 s16 ev16 kp16 hv_ => ?_)
          obtain rfl := hv_
          have hH17 := hH15.keep (i := 6) kp16 rfl
          refine ⟨hH17, ?_⟩
          refine XA.op (i := 7) rfl (by kernel_rfl) (by kernel_rfl) (XO.loadB (v := .int .i64 2) (g := false) (m := 1) s16 hb_k rfl rfl (by decide) rfl (by kernel_rfl) (by kernel_rfl) rfl rfl rfl ?_)
          have hH18 := (Hold.set (i := 7) (by decide)).2 hH17
          refine ⟨hH18, ?_⟩
          refine XA.valD 8 17 (.pointer (some ⟨b_n, 4, none⟩)) rfl (by kernel_rfl) (by kernel_rfl) (by kernel_rfl) rfl (by kernel_rfl) rfl hH18 (fun hH19 => ?_)
          refine XA.op (i := 9) rfl (by kernel_rfl) (by kernel_rfl) (XO.loadB (v := .agg #[.int .i64 (hi128 n.z), .int .u64 (lo128 n.z)]) (g := true) (m := 2) s16 hb_n rfl rfl (by decide) rfl (by kernel_rfl) (by kernel_rfl) rfl rfl rfl ?_)
          have hH20 := (Hold.set (i := 9) (by decide)).2 hH19
          refine ⟨hH20, ?_⟩
          refine XA.op (i := 10) rfl (by kernel_rfl) (by kernel_rfl) (XO.callS (f := 45) (args := [(.agg #[.int .i64 (hi128 n.z), .int .u64 (lo128 n.z)])].toArray) s16 rfl (by decide) (fun _ => by kernel_rfl) (limb_Sign_ok (av A _) _ s16.av_fresh n.z ) (fun _ w21 s21 ev21 kp21 hv_ => ?_))
          obtain rfl := hv_
          have hH22 := hH20.keep (i := 10) kp21 rfl
          refine ⟨hH22, ?_⟩
          refine XA.arith (p := 11) (k := .i64) (r := (cmp128 ((nrmOf a b c).z) 0) * (cmp128 n.z 0)) rfl (by kernel_rfl) (by kernel_rfl) (by kernel_rfl) rfl (by kernel_rfl) rfl (by decide) (fun _ => by kernel_rfl) (wrap_i64 (by (first | exact cmp_mul_rng _ _ _ _ | omega))) hH22 (fun hH23 => ?_)
          refine XA.valD 12 8 (.int .i64 ((cmp128 ((nrmOf a b c).z) 0) * (cmp128 n.z 0))) rfl (by kernel_rfl) (by kernel_rfl) (by kernel_rfl) rfl (by kernel_rfl) rfl hH23 (fun hH24 => ?_)
          refine XA.done (by kernel_rfl) (thn_norm ?_)
          exact ⟨⟨rfl, trivial⟩, s21, (ev7.trans (ev12.trans (ev16.trans ev21)))⟩
        · skip
          refine XO.loadB (v := .int .i64 2) (g := false) (m := 1) s12 hb_k rfl rfl (by decide) rfl (by kernel_rfl) (by kernel_rfl) rfl rfl rfl ?_
          have hH25 := (Hold.set (i := 7) (by decide)).2 hH15
          refine ⟨hH25, ?_⟩
          refine XA.valD 8 17 (.pointer (some ⟨b_n, 4, none⟩)) rfl (by kernel_rfl) (by kernel_rfl) (by kernel_rfl) rfl (by kernel_rfl) rfl hH25 (fun hH26 => ?_)
          refine XA.op2 (i := 6) (j := 9) rfl rfl (by kernel_rfl) (by kernel_rfl) (by kernel_rfl) ?_ ?_
          · skip
            refine XO.callS (f := 45) (args := [(.agg #[.int .i64 (hi128 ((nrmOf a b c).z)), .int .u64 (lo128 ((nrmOf a b c).z))])].toArray) s12 rfl (by decide) (fun _ => by kernel_rfl) (limb_Sign_ok (av A _) _ s12.av_fresh ((nrmOf a b c).z) ) (fun _ w27 s27 ev27 kp27 hv_ => ?_)
            obtain rfl := hv_
            have hH28 := hH26.keep (i := 6) kp27 rfl
            refine ⟨hH28, ?_⟩
            refine XA.op (i := 9) rfl (by kernel_rfl) (by kernel_rfl) (XO.loadB (v := .agg #[.int .i64 (hi128 n.z), .int .u64 (lo128 n.z)]) (g := true) (m := 2) s27 hb_n rfl rfl (by decide) rfl (by kernel_rfl) (by kernel_rfl) rfl rfl rfl ?_)
            have hH29 := (Hold.set (i := 9) (by decide)).2 hH28
            refine ⟨hH29, ?_⟩
            refine XA.op (i := 10) rfl (by kernel_rfl) (by kernel_rfl) (XO.callS (f := 45) (args := [(.agg #[.int .i64 (hi128 n.z), .int .u64 (lo128 n.z)])].toArray) s27 rfl (by decide) (fun _ => by kernel_rfl) (limb_Sign_ok (av A _) _ s27.av_fresh n.z ) (fun _ w30 s30 ev30 kp30 hv_ => ?_))
            obtain rfl := hv_
            have hH31 := hH29.keep (i := 10) kp30 rfl
            refine ⟨hH31, ?_⟩
            refine XA.arith (p := 11) (k := .i64) (r := (cmp128 ((nrmOf a b c).z) 0) * (cmp128 n.z 0)) rfl (by kernel_rfl) (by kernel_rfl) (by kernel_rfl) rfl (by kernel_rfl) rfl (by decide) (fun _ => by kernel_rfl) (wrap_i64 (by (first | exact cmp_mul_rng _ _ _ _ | omega))) hH31 (fun hH32 => ?_)
            refine XA.valD 12 8 (.int .i64 ((cmp128 ((nrmOf a b c).z) 0) * (cmp128 n.z 0))) rfl (by kernel_rfl) (by kernel_rfl) (by kernel_rfl) rfl (by kernel_rfl) rfl hH32 (fun hH33 => ?_)
            refine XA.done (by kernel_rfl) (thn_norm ?_)
            exact ⟨⟨rfl, trivial⟩, s30, (ev7.trans (ev12.trans (ev27.trans ev30)))⟩
          · skip
            refine XO.loadB (v := .agg #[.int .i64 (hi128 n.z), .int .u64 (lo128 n.z)]) (g := true) (m := 2) s12 hb_n rfl rfl (by decide) rfl (by kernel_rfl) (by kernel_rfl) rfl rfl rfl ?_
            have hH34 := (Hold.set (i := 9) (by decide)).2 hH26
            refine ⟨hH34, ?_⟩
            refine XA.op (i := 6) rfl (by kernel_rfl) (by kernel_rfl) (XO.callS (f := 45) (args := [(.agg #[.int .i64 (hi128 ((nrmOf a b c).z)), .int .u64 (lo128 ((nrmOf a b c).z))])].toArray) s12 rfl (by decide) (fun _ => by kernel_rfl) (limb_Sign_ok (av A _) _ s12.av_fresh ((nrmOf a b c).z) ) (fun _ w35 s35 ev35 kp35 hv_ => ?_))
            obtain rfl := hv_
            have hH36 := hH34.keep (i := 6) kp35 rfl
            refine ⟨hH36, ?_⟩
            refine XA.op (i := 10) rfl (by kernel_rfl) (by kernel_rfl) (XO.callS (f := 45) (args := [(.agg #[.int .i64 (hi128 n.z), .int .u64 (lo128 n.z)])].toArray) s35 rfl (by decide) (fun _ => by kernel_rfl) (limb_Sign_ok (av A _) _ s35.av_fresh n.z ) (fun _ w37 s37 ev37 kp37 hv_ => ?_))
            obtain rfl := hv_
            have hH38 := hH36.keep (i := 10) kp37 rfl
            refine ⟨hH38, ?_⟩
            refine XA.arith (p := 11) (k := .i64) (r := (cmp128 ((nrmOf a b c).z) 0) * (cmp128 n.z 0)) rfl (by kernel_rfl) (by kernel_rfl) (by kernel_rfl) rfl (by kernel_rfl) rfl (by decide) (fun _ => by kernel_rfl) (wrap_i64 (by (first | exact cmp_mul_rng _ _ _ _ | omega))) hH38 (fun hH39 => ?_)
            refine XA.valD 12 8 (.int .i64 ((cmp128 ((nrmOf a b c).z) 0) * (cmp128 n.z 0))) rfl (by kernel_rfl) (by kernel_rfl) (by kernel_rfl) rfl (by kernel_rfl) rfl hH39 (fun hH40 => ?_)
            refine XA.done (by kernel_rfl) (thn_norm ?_)
            exact ⟨⟨rfl, trivial⟩, s37, (ev7.trans (ev12.trans (ev35.trans ev37)))⟩
      · skip
        refine XO.loadB (v := .int .i64 2) (g := false) (m := 1) s12 hb_k rfl rfl (by decide) rfl (by kernel_rfl) (by kernel_rfl) rfl rfl rfl ?_
        have hH41 := (Hold.set (i := 7) (by decide)).2 hH13
        refine ⟨hH41, ?_⟩
        refine XA.valD 8 17 (.pointer (some ⟨b_n, 4, none⟩)) rfl (by kernel_rfl) (by kernel_rfl) (by kernel_rfl) rfl (by kernel_rfl) rfl hH41 (fun hH42 => ?_)
        refine XA.op2 (i := 4) (j := 9) rfl rfl (by kernel_rfl) (by kernel_rfl) (by kernel_rfl) ?_ ?_
        · skip
          refine XO.loadB (v := .int .i64 2) (g := false) (m := 1) s12 hb_k rfl rfl (by decide) rfl (by kernel_rfl) (by kernel_rfl) rfl rfl rfl ?_
          have hH43 := (Hold.set (i := 4) (by decide)).2 hH42
          refine ⟨hH43, ?_⟩
          refine XA.valD 5 14 (.agg #[.int .i64 (hi128 ((nrmOf a b c).z)), .int .u64 (lo128 ((nrmOf a b c).z))]) rfl (by kernel_rfl) (by kernel_rfl) (by kernel_rfl) rfl (by kernel_rfl) rfl hH43 (fun hH44 => ?_)
          refine XA.op2 (i := 6) (j := 9) rfl rfl (by kernel_rfl) (by kernel_rfl) (by kernel_rfl) ?_ ?_
          · skip
            refine XO.callS (f := 45) (args := [(.agg #[.int .i64 (hi128 ((nrmOf a b c).z)), .int .u64 (lo128 ((nrmOf a b c).z))])].toArray) s12 rfl (by decide) (fun _ => by kernel_rfl) (limb_Sign_ok (av A _) _ s12.av_fresh ((nrmOf a b c).z) ) (fun _ w45 s45 ev45 kp45 hv_ => ?_)
            obtain rfl := hv_
            have hH46 := hH44.keep (i := 6) kp45 rfl
            refine ⟨hH46, ?_⟩
            refine XA.op (i := 9) rfl (by kernel_rfl) (by kernel_rfl) (XO.loadB (v := .agg #[.int .i64 (hi128 n.z), .int .u64 (lo128 n.z)]) (g := true) (m := 2) s45 hb_n rfl rfl (by decide) rfl (by kernel_rfl) (by kernel_rfl) rfl rfl rfl ?_)
            have hH47 := (Hold.set (i := 9) (by decide)).2 hH46
            refine ⟨hH47, ?_⟩
            refine XA.op (i := 10) rfl (by kernel_rfl) (by kernel_rfl) (XO.callS (f := 45) (args := [(.agg #[.int .i64 (hi128 n.z), .int .u64 (lo128 n.z)])].toArray) s45 rfl (by decide) (fun _ => by kernel_rfl) (limb_Sign_ok (av A _) _ s45.av_fresh n.z ) (fun _ w48 s48 ev48 kp48 hv_ => ?_))
            obtain rfl := hv_
            have hH49 := hH47.keep (i := 10) kp48 rfl
            refine ⟨hH49, ?_⟩
            refine XA.arith (p := 11) (k := .i64) (r := (cmp128 ((nrmOf a b c).z) 0) * (cmp128 n.z 0)) rfl (by kernel_rfl) (by kernel_rfl) (by kernel_rfl) rfl (by kernel_rfl) rfl (by decide) (fun _ => by kernel_rfl) (wrap_i64 (by (first | exact cmp_mul_rng _ _ _ _ | omega))) hH49 (fun hH50 => ?_)
            refine XA.valD 12 8 (.int .i64 ((cmp128 ((nrmOf a b c).z) 0) * (cmp128 n.z 0))) rfl (by kernel_rfl) (by kernel_rfl) (by kernel_rfl) rfl (by kernel_rfl) rfl hH50 (fun hH51 => ?_)
            refine XA.done (by kernel_rfl) (thn_norm ?_)
            exact ⟨⟨rfl, trivial⟩, s48, (ev7.trans (ev12.trans (ev45.trans ev48)))⟩
          · skip
            refine XO.loadB (v := .agg #[.int .i64 (hi128 n.z), .int .u64 (lo128 n.z)]) (g := true) (m := 2) s12 hb_n rfl rfl (by decide) rfl (by kernel_rfl) (by kernel_rfl) rfl rfl rfl ?_
            have hH52 := (Hold.set (i := 9) (by decide)).2 hH44
            refine ⟨hH52, ?_⟩
            refine XA.op (i := 6) rfl (by kernel_rfl) (by kernel_rfl) (XO.callS (f := 45) (args := [(.agg #[.int .i64 (hi128 ((nrmOf a b c).z)), .int .u64 (lo128 ((nrmOf a b c).z))])].toArray) s12 rfl (by decide) (fun _ => by kernel_rfl) (limb_Sign_ok (av A _) _ s12.av_fresh ((nrmOf a b c).z) ) (fun _ w53 s53 ev53 kp53 hv_ => ?_))
            obtain rfl := hv_
            have hH54 := hH52.keep (i := 6) kp53 rfl
            refine ⟨hH54, ?_⟩
            refine XA.op (i := 10) rfl (by kernel_rfl) (by kernel_rfl) (XO.callS (f := 45) (args := [(.agg #[.int .i64 (hi128 n.z), .int .u64 (lo128 n.z)])].toArray) s53 rfl (by decide) (fun _ => by kernel_rfl) (limb_Sign_ok (av A _) _ s53.av_fresh n.z ) (fun _ w55 s55 ev55 kp55 hv_ => ?_))
            obtain rfl := hv_
            have hH56 := hH54.keep (i := 10) kp55 rfl
            refine ⟨hH56, ?_⟩
            refine XA.arith (p := 11) (k := .i64) (r := (cmp128 ((nrmOf a b c).z) 0) * (cmp128 n.z 0)) rfl (by kernel_rfl) (by kernel_rfl) (by kernel_rfl) rfl (by kernel_rfl) rfl (by decide) (fun _ => by kernel_rfl) (wrap_i64 (by (first | exact cmp_mul_rng _ _ _ _ | omega))) hH56 (fun hH57 => ?_)
            refine XA.valD 12 8 (.int .i64 ((cmp128 ((nrmOf a b c).z) 0) * (cmp128 n.z 0))) rfl (by kernel_rfl) (by kernel_rfl) (by kernel_rfl) rfl (by kernel_rfl) rfl hH57 (fun hH58 => ?_)
            refine XA.done (by kernel_rfl) (thn_norm ?_)
            exact ⟨⟨rfl, trivial⟩, s55, (ev7.trans (ev12.trans (ev53.trans ev55)))⟩
        · skip
          refine XO.loadB (v := .agg #[.int .i64 (hi128 n.z), .int .u64 (lo128 n.z)]) (g := true) (m := 2) s12 hb_n rfl rfl (by decide) rfl (by kernel_rfl) (by kernel_rfl) rfl rfl rfl ?_
          have hH59 := (Hold.set (i := 9) (by decide)).2 hH42
          refine ⟨hH59, ?_⟩
          refine XA.op (i := 4) rfl (by kernel_rfl) (by kernel_rfl) (XO.loadB (v := .int .i64 2) (g := false) (m := 1) s12 hb_k rfl rfl (by decide) rfl (by kernel_rfl) (by kernel_rfl) rfl rfl rfl ?_)
          have hH60 := (Hold.set (i := 4) (by decide)).2 hH59
          refine ⟨hH60, ?_⟩
          refine XA.valD 5 14 (.agg #[.int .i64 (hi128 ((nrmOf a b c).z)), .int .u64 (lo128 ((nrmOf a b c).z))]) rfl (by kernel_rfl) (by kernel_rfl) (by kernel_rfl) rfl (by kernel_rfl) rfl hH60 (fun hH61 => ?_)
          refine XA.op (i := 6) rfl (by kernel_rfl) (by kernel_rfl) (XO.callS (f := 45) (args := [(.agg #[.int .i64 (hi128 ((nrmOf a b c).z)), .int .u64 (lo128 ((nrmOf a b c).z))])].toArray) s12 rfl (by decide) (fun _ => by kernel_rfl) (limb_Sign_ok (av A _) _ s12.av_fresh ((nrmOf a b c).z) ) (fun _ w62 s62 ev62 kp62 hv_ => ?_))
          obtain rfl := hv_
          have hH63 := hH61.keep (i := 6) kp62 rfl
          refine ⟨hH63, ?_⟩
          refine XA.op (i := 10) rfl (by kernel_rfl) (by kernel_rfl) (XO.callS (f := 45) (args := [(.agg #[.int .i64 (hi128 n.z), .int .u64 (lo128 n.z)])].toArray) s62 rfl (by decide) (fun _ => by kernel_rfl) (limb_Sign_ok (av A _) _ s62.av_fresh n.z ) (fun _ w64 s64 ev64 kp64 hv_ => ?_))
          obtain rfl := hv_
          have hH65 := hH63.keep (i := 10) kp64 rfl
          refine ⟨hH65, ?_⟩
          refine XA.arith (p := 11) (k := .i64) (r := (cmp128 ((nrmOf a b c).z) 0) * (cmp128 n.z 0)) rfl (by kernel_rfl) (by kernel_rfl) (by kernel_rfl) rfl (by kernel_rfl) rfl (by decide) (fun _ => by kernel_rfl) (wrap_i64 (by (first | exact cmp_mul_rng _ _ _ _ | omega))) hH65 (fun hH66 => ?_)
          refine XA.valD 12 8 (.int .i64 ((cmp128 ((nrmOf a b c).z) 0) * (cmp128 n.z 0))) rfl (by kernel_rfl) (by kernel_rfl) (by kernel_rfl) rfl (by kernel_rfl) rfl hH66 (fun hH67 => ?_)
          refine XA.done (by kernel_rfl) (thn_norm ?_)
          exact ⟨⟨rfl, trivial⟩, s64, (ev7.trans (ev12.trans (ev62.trans ev64)))⟩
    · skip
      refine XO.loadB (v := .int .i64 2) (g := false) (m := 1) s7 hb_k rfl rfl (by decide) rfl (by kernel_rfl) (by kernel_rfl) rfl rfl rfl ?_
      have hH68 := (Hold.set (i := 4) (by decide)).2 hH11
      refine ⟨hH68, ?_⟩
      refine XA.op2 (i := 3) (j := 7) rfl rfl (by kernel_rfl) (by kernel_rfl) (by kernel_rfl) ?_ ?_
      · skip
        refine XO.callS (f := 26) (args := [(.agg #[.int .i64 a.x, .int .i64 a.y, .int .i64 a.z]), (.agg #[.int .i64 b.x, .int .i64 b.y, .int .i64 b.z]), (.agg #[.int .i64 c.x, .int .i64 c.y, .int .i64 c.z])].toArray) s7 rfl (by decide) (fun _ => by kernel_rfl) (clean_normal_ok (av A _) _ s7.av_fresh a b c (by assumption) (by assumption) (by assumption)) (fun _ w69 s69 ev69 kp69 hv_ => ?_)
        obtain rfl := hv_
        have hH70 := hH68.keep (i := 3) kp69 rfl
        refine ⟨hH70, ?_⟩
        refine XA.valD 5 14 (.agg #[.int .i64 (hi128 ((nrmOf a b c).z)), .int .u64 (lo128 ((nrmOf a b c).z))]) rfl (by kernel_rfl) (by kernel_rfl) (by kernel_rfl) rfl (by kernel_rfl) rfl hH70 (fun hH71 => ?_)
        refine XA.op2 (i := 6) (j := 7) rfl rfl (by kernel_rfl) (by kernel_rfl) (by kernel_rfl) ?_ ?_
        · skip
          refine XO.callS (f := 45) (args := [(.agg #[.int .i64 (hi128 ((nrmOf a b c).z)), .int .u64 (lo128 ((nrmOf a b c).z))])].toArray) s69 rfl (by decide) (fun _ => by kernel_rfl) (limb_Sign_ok (av A _) _ s69.av_fresh ((nrmOf a b c).z) ) (fun _ w72 s72 ev72 kp72 hv_ => ?_)
          obtain rfl := hv_
          have hH73 := hH71.keep (i := 6) kp72 rfl
          refine ⟨hH73, ?_⟩
          refine XA.op (i := 7) rfl (by kernel_rfl) (by kernel_rfl) (XO.loadB (v := .int .i64 2) (g := false) (m := 1) s72 hb_k rfl rfl (by decide) rfl (by kernel_rfl) (by kernel_rfl) rfl rfl rfl ?_)
          have hH74 := (Hold.set (i := 7) (by decide)).2 hH73
          refine ⟨hH74, ?_⟩
          refine XA.valD 8 17 (.pointer (some ⟨b_n, 4, none⟩)) rfl (by kernel_rfl) (by kernel_rfl) (by kernel_rfl) rfl (by kernel_rfl) rfl hH74 (fun hH75 => ?_)
          refine XA.op (i := 9) rfl (by kernel_rfl) (by kernel_rfl) (XO.loadB (v := .agg #[.int .i64 (hi128 n.z), .int .u64 (lo128 n.z)]) (g := true) (m := 2) s72 hb_n rfl rfl (by decide) rfl (by kernel_rfl) (by kernel_rfl) rfl rfl rfl ?_)
          have hH76 := (Hold.set (i := 9) (by decide)).2 hH75
          refine ⟨hH76, ?_⟩
          refine XA.op (i := 10) rfl (by kernel_rfl) (by kernel_rfl) (XO.callS (f := 45) (args := [(.agg #[.int .i64 (hi128 n.z), .int .u64 (lo128 n.z)])].toArray) s72 rfl (by decide) (fun _ => by kernel_rfl) (limb_Sign_ok (av A _) _ s72.av_fresh n.z ) (fun _ w77 s77 ev77 kp77 hv_ => ?_))
          obtain rfl := hv_
          have hH78 := hH76.keep (i := 10) kp77 rfl
          refine ⟨hH78, ?_⟩
          refine XA.arith (p := 11) (k := .i64) (r := (cmp128 ((nrmOf a b c).z) 0) * (cmp128 n.z 0)) rfl (by kernel_rfl) (by kernel_rfl) (by kernel_rfl) rfl (by kernel_rfl) rfl (by decide) (fun _ => by kernel_rfl) (wrap_i64 (by (first | exact cmp_mul_rng _ _ _ _ | omega))) hH78 (fun hH79 => ?_)
          refine XA.valD 12 8 (.int .i64 ((cmp128 ((nrmOf a b c).z) 0) * (cmp128 n.z 0))) rfl (by kernel_rfl) (by kernel_rfl) (by kernel_rfl) rfl (by kernel_rfl) rfl hH79 (fun hH80 => ?_)
          refine XA.done (by kernel_rfl) (thn_norm ?_)
          exact ⟨⟨rfl, trivial⟩, s77, (ev7.trans (ev69.trans (ev72.trans ev77)))⟩
        · skip
          refine XO.loadB (v := .int .i64 2) (g := false) (m := 1) s69 hb_k rfl rfl (by decide) rfl (by kernel_rfl) (by kernel_rfl) rfl rfl rfl ?_
          have hH81 := (Hold.set (i := 7) (by decide)).2 hH71
          refine ⟨hH81, ?_⟩
          refine XA.valD 8 17 (.pointer (some ⟨b_n, 4, none⟩)) rfl (by kernel_rfl) (by kernel_rfl) (by kernel_rfl) rfl (by kernel_rfl) rfl hH81 (fun hH82 => ?_)
          refine XA.op2 (i := 6) (j := 9) rfl rfl (by kernel_rfl) (by kernel_rfl) (by kernel_rfl) ?_ ?_
          · skip
            refine XO.callS (f := 45) (args := [(.agg #[.int .i64 (hi128 ((nrmOf a b c).z)), .int .u64 (lo128 ((nrmOf a b c).z))])].toArray) s69 rfl (by decide) (fun _ => by kernel_rfl) (limb_Sign_ok (av A _) _ s69.av_fresh ((nrmOf a b c).z) ) (fun _ w83 s83 ev83 kp83 hv_ => ?_)
            obtain rfl := hv_
            have hH84 := hH82.keep (i := 6) kp83 rfl
            refine ⟨hH84, ?_⟩
            refine XA.op (i := 9) rfl (by kernel_rfl) (by kernel_rfl) (XO.loadB (v := .agg #[.int .i64 (hi128 n.z), .int .u64 (lo128 n.z)]) (g := true) (m := 2) s83 hb_n rfl rfl (by decide) rfl (by kernel_rfl) (by kernel_rfl) rfl rfl rfl ?_)
            have hH85 := (Hold.set (i := 9) (by decide)).2 hH84
            refine ⟨hH85, ?_⟩
            refine XA.op (i := 10) rfl (by kernel_rfl) (by kernel_rfl) (XO.callS (f := 45) (args := [(.agg #[.int .i64 (hi128 n.z), .int .u64 (lo128 n.z)])].toArray) s83 rfl (by decide) (fun _ => by kernel_rfl) (limb_Sign_ok (av A _) _ s83.av_fresh n.z ) (fun _ w86 s86 ev86 kp86 hv_ => ?_))
            obtain rfl := hv_
            have hH87 := hH85.keep (i := 10) kp86 rfl
            refine ⟨hH87, ?_⟩
            refine XA.arith (p := 11) (k := .i64) (r := (cmp128 ((nrmOf a b c).z) 0) * (cmp128 n.z 0)) rfl (by kernel_rfl) (by kernel_rfl) (by kernel_rfl) rfl (by kernel_rfl) rfl (by decide) (fun _ => by kernel_rfl) (wrap_i64 (by (first | exact cmp_mul_rng _ _ _ _ | omega))) hH87 (fun hH88 => ?_)
            refine XA.valD 12 8 (.int .i64 ((cmp128 ((nrmOf a b c).z) 0) * (cmp128 n.z 0))) rfl (by kernel_rfl) (by kernel_rfl) (by kernel_rfl) rfl (by kernel_rfl) rfl hH88 (fun hH89 => ?_)
            refine XA.done (by kernel_rfl) (thn_norm ?_)
            exact ⟨⟨rfl, trivial⟩, s86, (ev7.trans (ev69.trans (ev83.trans ev86)))⟩
          · skip
            refine XO.loadB (v := .agg #[.int .i64 (hi128 n.z), .int .u64 (lo128 n.z)]) (g := true) (m := 2) s69 hb_n rfl rfl (by decide) rfl (by kernel_rfl) (by kernel_rfl) rfl rfl rfl ?_
            have hH90 := (Hold.set (i := 9) (by decide)).2 hH82
            refine ⟨hH90, ?_⟩
            refine XA.op (i := 6) rfl (by kernel_rfl) (by kernel_rfl) (XO.callS (f := 45) (args := [(.agg #[.int .i64 (hi128 ((nrmOf a b c).z)), .int .u64 (lo128 ((nrmOf a b c).z))])].toArray) s69 rfl (by decide) (fun _ => by kernel_rfl) (limb_Sign_ok (av A _) _ s69.av_fresh ((nrmOf a b c).z) ) (fun _ w91 s91 ev91 kp91 hv_ => ?_))
            obtain rfl := hv_
            have hH92 := hH90.keep (i := 6) kp91 rfl
            refine ⟨hH92, ?_⟩
            refine XA.op (i := 10) rfl (by kernel_rfl) (by kernel_rfl) (XO.callS (f := 45) (args := [(.agg #[.int .i64 (hi128 n.z), .int .u64 (lo128 n.z)])].toArray) s91 rfl (by decide) (fun _ => by kernel_rfl) (limb_Sign_ok (av A _) _ s91.av_fresh n.z ) (fun _ w93 s93 ev93 kp93 hv_ => ?_))
            obtain rfl := hv_
            have hH94 := hH92.keep (i := 10) kp93 rfl
            refine ⟨hH94, ?_⟩
            refine XA.arith (p := 11) (k := .i64) (r := (cmp128 ((nrmOf a b c).z) 0) * (cmp128 n.z 0)) rfl (by kernel_rfl) (by kernel_rfl) (by kernel_rfl) rfl (by kernel_rfl) rfl (by decide) (fun _ => by kernel_rfl) (wrap_i64 (by (first | exact cmp_mul_rng _ _ _ _ | omega))) hH94 (fun hH95 => ?_)
            refine XA.valD 12 8 (.int .i64 ((cmp128 ((nrmOf a b c).z) 0) * (cmp128 n.z 0))) rfl (by kernel_rfl) (by kernel_rfl) (by kernel_rfl) rfl (by kernel_rfl) rfl hH95 (fun hH96 => ?_)
            refine XA.done (by kernel_rfl) (thn_norm ?_)
            exact ⟨⟨rfl, trivial⟩, s93, (ev7.trans (ev69.trans (ev91.trans ev93)))⟩
      · skip
        refine XO.loadB (v := .int .i64 2) (g := false) (m := 1) s7 hb_k rfl rfl (by decide) rfl (by kernel_rfl) (by kernel_rfl) rfl rfl rfl ?_
        have hH97 := (Hold.set (i := 7) (by decide)).2 hH68
        refine ⟨hH97, ?_⟩
        refine XA.valD 8 17 (.pointer (some ⟨b_n, 4, none⟩)) rfl (by kernel_rfl) (by kernel_rfl) (by kernel_rfl) rfl (by kernel_rfl) rfl hH97 (fun hH98 => ?_)
        refine XA.op2 (i := 3) (j := 9) rfl rfl (by kernel_rfl) (by kernel_rfl) (by kernel_rfl) ?_ ?_
        · skip
          refine XO.callS (f := 26) (args := [(.agg #[.int .i64 a.x, .int .i64 a.y, .int .i64 a.z]), (.agg #[.int .i64 b.x, .int .i64 b.y, .int .i64 b.z]), (.agg #[.int .i64 c.x, .int .i64 c.y, .int .i64 c.z])].toArray) s7 rfl (by decide) (fun _ => by kernel_rfl) (clean_normal_ok (av A _) _ s7.av_fresh a b c (by assumption) (by assumption) (by assumption)) (fun _ w99 s99 ev99 kp99 hv_ => ?_)
          obtain rfl := hv_
          have hH100 := hH98.keep (i := 3) kp99 rfl
          refine ⟨hH100, ?_⟩
          refine XA.valD 5 14 (.agg #[.int .i64 (hi128 ((nrmOf a b c).z)), .int .u64 (lo128 ((nrmOf a b c).z))]) rfl (by kernel_rfl) (by kernel_rfl) (by kernel_rfl) rfl (by kernel_rfl) rfl hH100 (fun hH101 => ?_)
          refine XA.op2 (i := 6) (j := 9) rfl rfl (by kernel_rfl) (by kernel_rfl) (by kernel_rfl) ?_ ?_
          · skip
            refine XO.callS (f := 45) (args := [(.agg #[.int .i64 (hi128 ((nrmOf a b c).z)), .int .u64 (lo128 ((nrmOf a b c).z))])].toArray) s99 rfl (by decide) (fun _ => by kernel_rfl) (limb_Sign_ok (av A _) _ s99.av_fresh ((nrmOf a b c).z) ) (fun _ w102 s102 ev102 kp102 hv_ => ?_)
            obtain rfl := hv_
            have hH103 := hH101.keep (i := 6) kp102 rfl
            refine ⟨hH103, ?_⟩
            refine XA.op (i := 9) rfl (by kernel_rfl) (by kernel_rfl) (XO.loadB (v := .agg #[.int .i64 (hi128 n.z), .int .u64 (lo128 n.z)]) (g := true) (m := 2) s102 hb_n rfl rfl (by decide) rfl (by kernel_rfl) (by kernel_rfl) rfl rfl rfl ?_)
            have hH104 := (Hold.set (i := 9) (by decide)).2 hH103
            refine ⟨hH104, ?_⟩
            refine XA.op (i := 10) rfl (by kernel_rfl) (by kernel_rfl) (XO.callS (f := 45) (args := [(.agg #[.int .i64 (hi128 n.z), .int .u64 (lo128 n.z)])].toArray) s102 rfl (by decide) (fun _ => by kernel_rfl) (limb_Sign_ok (av A _) _ s102.av_fresh n.z ) (fun _ w105 s105 ev105 kp105 hv_ => ?_))
            obtain rfl := hv_
            have hH106 := hH104.keep (i := 10) kp105 rfl
            refine ⟨hH106, ?_⟩
            refine XA.arith (p := 11) (k := .i64) (r := (cmp128 ((nrmOf a b c).z) 0) * (cmp128 n.z 0)) rfl (by kernel_rfl) (by kernel_rfl) (by kernel_rfl) rfl (by kernel_rfl) rfl (by decide) (fun _ => by kernel_rfl) (wrap_i64 (by (first | exact cmp_mul_rng _ _ _ _ | omega))) hH106 (fun hH107 => ?_)
            refine XA.valD 12 8 (.int .i64 ((cmp128 ((nrmOf a b c).z) 0) * (cmp128 n.z 0))) rfl (by kernel_rfl) (by kernel_rfl) (by kernel_rfl) rfl (by kernel_rfl) rfl hH107 (fun hH108 => ?_)
            refine XA.done (by kernel_rfl) (thn_norm ?_)
            exact ⟨⟨rfl, trivial⟩, s105, (ev7.trans (ev99.trans (ev102.trans ev105)))⟩
          · skip
            refine XO.loadB (v := .agg #[.int .i64 (hi128 n.z), .int .u64 (lo128 n.z)]) (g := true) (m := 2) s99 hb_n rfl rfl (by decide) rfl (by kernel_rfl) (by kernel_rfl) rfl rfl rfl ?_
            have hH109 := (Hold.set (i := 9) (by decide)).2 hH101
            refine ⟨hH109, ?_⟩
            refine XA.op (i := 6) rfl (by kernel_rfl) (by kernel_rfl) (XO.callS (f := 45) (args := [(.agg #[.int .i64 (hi128 ((nrmOf a b c).z)), .int .u64 (lo128 ((nrmOf a b c).z))])].toArray) s99 rfl (by decide) (fun _ => by kernel_rfl) (limb_Sign_ok (av A _) _ s99.av_fresh ((nrmOf a b c).z) ) (fun _ w110 s110 ev110 kp110 hv_ => ?_))
            obtain rfl := hv_
            have hH111 := hH109.keep (i := 6) kp110 rfl
            refine ⟨hH111, ?_⟩
            refine XA.op (i := 10) rfl (by kernel_rfl) (by kernel_rfl) (XO.callS (f := 45) (args := [(.agg #[.int .i64 (hi128 n.z), .int .u64 (lo128 n.z)])].toArray) s110 rfl (by decide) (fun _ => by kernel_rfl) (limb_Sign_ok (av A _) _ s110.av_fresh n.z ) (fun _ w112 s112 ev112 kp112 hv_ => ?_))
            obtain rfl := hv_
            have hH113 := hH111.keep (i := 10) kp112 rfl
            refine ⟨hH113, ?_⟩
            refine XA.arith (p := 11) (k := .i64) (r := (cmp128 ((nrmOf a b c).z) 0) * (cmp128 n.z 0)) rfl (by kernel_rfl) (by kernel_rfl) (by kernel_rfl) rfl (by kernel_rfl) rfl (by decide) (fun _ => by kernel_rfl) (wrap_i64 (by (first | exact cmp_mul_rng _ _ _ _ | omega))) hH113 (fun hH114 => ?_)
            refine XA.valD 12 8 (.int .i64 ((cmp128 ((nrmOf a b c).z) 0) * (cmp128 n.z 0))) rfl (by kernel_rfl) (by kernel_rfl) (by kernel_rfl) rfl (by kernel_rfl) rfl hH114 (fun hH115 => ?_)
            refine XA.done (by kernel_rfl) (thn_norm ?_)
            exact ⟨⟨rfl, trivial⟩, s112, (ev7.trans (ev99.trans (ev110.trans ev112)))⟩
        · skip
          refine XO.loadB (v := .agg #[.int .i64 (hi128 n.z), .int .u64 (lo128 n.z)]) (g := true) (m := 2) s7 hb_n rfl rfl (by decide) rfl (by kernel_rfl) (by kernel_rfl) rfl rfl rfl ?_
          have hH116 := (Hold.set (i := 9) (by decide)).2 hH98
          refine ⟨hH116, ?_⟩
          refine XA.op (i := 3) rfl (by kernel_rfl) (by kernel_rfl) (XO.callS (f := 26) (args := [(.agg #[.int .i64 a.x, .int .i64 a.y, .int .i64 a.z]), (.agg #[.int .i64 b.x, .int .i64 b.y, .int .i64 b.z]), (.agg #[.int .i64 c.x, .int .i64 c.y, .int .i64 c.z])].toArray) s7 rfl (by decide) (fun _ => by kernel_rfl) (clean_normal_ok (av A _) _ s7.av_fresh a b c (by assumption) (by assumption) (by assumption)) (fun _ w117 s117 ev117 kp117 hv_ => ?_))
          obtain rfl := hv_
          have hH118 := hH116.keep (i := 3) kp117 rfl
          refine ⟨hH118, ?_⟩
          refine XA.valD 5 14 (.agg #[.int .i64 (hi128 ((nrmOf a b c).z)), .int .u64 (lo128 ((nrmOf a b c).z))]) rfl (by kernel_rfl) (by kernel_rfl) (by kernel_rfl) rfl (by kernel_rfl) rfl hH118 (fun hH119 => ?_)
          refine XA.op (i := 6) rfl (by kernel_rfl) (by kernel_rfl) (XO.callS (f := 45) (args := [(.agg #[.int .i64 (hi128 ((nrmOf a b c).z)), .int .u64 (lo128 ((nrmOf a b c).z))])].toArray) s117 rfl (by decide) (fun _ => by kernel_rfl) (limb_Sign_ok (av A _) _ s117.av_fresh ((nrmOf a b c).z) ) (fun _ w120 s120 ev120 kp120 hv_ => ?_))
          obtain rfl := hv_
          have hH121 := hH119.keep (i := 6) kp120 rfl
          refine ⟨hH121, ?_⟩
          refine XA.op (i := 10) rfl (by kernel_rfl) (by kernel_rfl) (XO.callS (f := 45) (args := [(.agg #[.int .i64 (hi128 n.z), .int .u64 (lo128 n.z)])].toArray) s120 rfl (by decide) (fun _ => by kernel_rfl) (limb_Sign_ok (av A _) _ s120.av_fresh n.z ) (fun _ w122 s122 ev122 kp122 hv_ => ?_))
          obtain rfl := hv_
          have hH123 := hH121.keep (i := 10) kp122 rfl
          refine ⟨hH123, ?_⟩
          refine XA.arith (p := 11) (k := .i64) (r := (cmp128 ((nrmOf a b c).z) 0) * (cmp128 n.z 0)) rfl (by kernel_rfl) (by kernel_rfl) (by kernel_rfl) rfl (by kernel_rfl) rfl (by decide) (fun _ => by kernel_rfl) (wrap_i64 (by (first | exact cmp_mul_rng _ _ _ _ | omega))) hH123 (fun hH124 => ?_)
          refine XA.valD 12 8 (.int .i64 ((cmp128 ((nrmOf a b c).z) 0) * (cmp128 n.z 0))) rfl (by kernel_rfl) (by kernel_rfl) (by kernel_rfl) rfl (by kernel_rfl) rfl hH124 (fun hH125 => ?_)
          refine XA.done (by kernel_rfl) (thn_norm ?_)
          exact ⟨⟨rfl, trivial⟩, s122, (ev7.trans (ev117.trans (ev120.trans ev122)))⟩
    · skip
      refine XO.loadB (v := .int .i64 2) (g := false) (m := 1) s7 hb_k rfl rfl (by decide) rfl (by kernel_rfl) (by kernel_rfl) rfl rfl rfl ?_
      have hH126 := (Hold.set (i := 7) (by decide)).2 hH11
      refine ⟨hH126, ?_⟩
      refine XA.valD 8 17 (.pointer (some ⟨b_n, 4, none⟩)) rfl (by kernel_rfl) (by kernel_rfl) (by kernel_rfl) rfl (by kernel_rfl) rfl hH126 (fun hH127 => ?_)
      refine XA.op3 (i := 3) (j := 4) (k := 9) rfl rfl rfl (by kernel_rfl) (by kernel_rfl) (by kernel_rfl) (by kernel_rfl) ?_ ?_ ?_
      · skip
        refine XO.callS (f := 26) (args := [(.agg #[.int .i64 a.x, .int .i64 a.y, .int .i64 a.z]), (.agg #[.int .i64 b.x, .int .i64 b.y, .int .i64 b.z]), (.agg #[.int .i64 c.x, .int .i64 c.y, .int .i64 c.z])].toArray) s7 rfl (by decide) (fun _ => by kernel_rfl) (clean_normal_ok (av A _) _ s7.av_fresh a b c (by assumption) (by assumption) (by assumption)) (fun _ w128 s128 ev128 kp128 hv_ => ?_)
        obtain rfl := hv_
        have hH129 := hH127.keep (i := 3) kp128 rfl
        refine ⟨hH129, ?_⟩
        refine XA.op2 (i := 4) (j := 9) rfl rfl (by kernel_rfl) (by kernel_rfl) (by kernel_rfl) ?_ ?_
        · skip
          refine XO.loadB (v := .int .i64 2) (g := false) (m := 1) s128 hb_k rfl rfl (by decide) rfl (by kernel_rfl) (by kernel_rfl) rfl rfl rfl ?_
          have hH130 := (Hold.set (i := 4) (by decide)).2 hH129
          refine ⟨hH130, ?_⟩
          refine XA.valD 5 14 (.agg #[.int .i64 (hi128 ((nrmOf a b c).z)), .int .u64 (lo128 ((nrmOf a b c).z))]) rfl (by kernel_rfl) (by kernel_rfl) (by kernel_rfl) rfl (by kernel_rfl) rfl hH130 (fun hH131 => ?_)
          refine XA.op2 (i := 6) (j := 9) rfl rfl (by kernel_rfl) (by kernel_rfl) (by kernel_rfl) ?_ ?_
          · skip
            refine XO.callS (f := 45) (args := [(.agg #[.int .i64 (hi128 ((nrmOf a b c).z)), .int .u64 (lo128 ((nrmOf a b c).z))])].toArray) s128 rfl (by decide) (fun _ => by kernel_rfl) (limb_Sign_ok (av A _) _ s128.av_fresh ((nrmOf a b c).z) ) (fun _ w132 s132 ev132 kp132 hv_ => ?_)
            obtain rfl := hv_
            have hH133 := hH131.keep (i := 6) kp132 rfl
            refine ⟨hH133, ?_⟩
            refine XA.op (i := 9) rfl (by kernel_rfl) (by kernel_rfl) (XO.loadB (v := .agg #[.int .i64 (hi128 n.z), .int .u64 (lo128 n.z)]) (g := true) (m := 2) s132 hb_n rfl rfl (by decide) rfl (by kernel_rfl) (by kernel_rfl) rfl rfl rfl ?_)
            have hH134 := (Hold.set (i := 9) (by decide)).2 hH133
            refine ⟨hH134, ?_⟩
            refine XA.op (i := 10) rfl (by kernel_rfl) (by kernel_rfl) (XO.callS (f := 45) (args := [(.agg #[.int .i64 (hi128 n.z), .int .u64 (lo128 n.z)])].toArray) s132 rfl (by decide) (fun _ => by kernel_rfl) (limb_Sign_ok (av A _) _ s132.av_fresh n.z ) (fun _ w135 s135 ev135 kp135 hv_ => ?_))
            obtain rfl := hv_
            have hH136 := hH134.keep (i := 10) kp135 rfl
            refine ⟨hH136, ?_⟩
            refine XA.arith (p := 11) (k := .i64) (r := (cmp128 ((nrmOf a b c).z) 0) * (cmp128 n.z 0)) rfl (by kernel_rfl) (by kernel_rfl) (by kernel_rfl) rfl (by kernel_rfl) rfl (by decide) (fun _ => by kernel_rfl) (wrap_i64 (by (first | exact cmp_mul_rng _ _ _ _ | omega))) hH136 (fun hH137 => ?_)
            refine XA.valD 12 8 (.int .i64 ((cmp128 ((nrmOf a b c).z) 0) * (cmp128 n.z 0))) rfl (by kernel_rfl) (by kernel_rfl) (by kernel_rfl) rfl (by kernel_rfl) rfl hH137 (fun hH138 => ?_)
            refine XA.done (by kernel_rfl) (thn_norm ?_)
            exact ⟨⟨rfl, trivial⟩, s135, (ev7.trans (ev128.trans (ev132.trans ev135)))⟩
          · skip
            refine XO.loadB (v := .agg #[.int .i64 (hi128 n.z), .int .u64 (lo128 n.z)]) (g := true) (m := 2) s128 hb_n rfl rfl (by decide) rfl (by kernel_rfl) (by kernel_rfl) rfl rfl rfl ?_
            have hH139 := (Hold.set (i := 9) (by decide)).2 hH131
            refine ⟨hH139, ?_⟩
            refine XA.op (i := 6) rfl (by kernel_rfl) (by kernel_rfl) (XO.callS (f := 45) (args := [(.agg #[.int .i64 (hi128 ((nrmOf a b c).z)), .int .u64 (lo128 ((nrmOf a b c).z))])].toArray) s128 rfl (by decide) (fun _ => by kernel_rfl) (limb_Sign_ok (av A _) _ s128.av_fresh ((nrmOf a b c).z) ) (fun _ w140 s140 ev140 kp140 hv_ => ?_))
            obtain rfl := hv_
            have hH141 := hH139.keep (i := 6) kp140 rfl
            refine ⟨hH141, ?_⟩
            refine XA.op (i := 10) rfl (by kernel_rfl) (by kernel_rfl) (XO.callS (f := 45) (args := [(.agg #[.int .i64 (hi128 n.z), .int .u64 (lo128 n.z)])].toArray) s140 rfl (by decide) (fun _ => by kernel_rfl) (limb_Sign_ok (av A _) _ s140.av_fresh n.z ) (fun _ w142 s142 ev142 kp142 hv_ => ?_))
            obtain rfl := hv_
            have hH143 := hH141.keep (i := 10) kp142 rfl
            refine ⟨hH143, ?_⟩
            refine XA.arith (p := 11) (k := .i64) (r := (cmp128 ((nrmOf a b c).z) 0) * (cmp128 n.z 0)) rfl (by kernel_rfl) (by kernel_rfl) (by kernel_rfl) rfl (by kernel_rfl) rfl (by decide) (fun _ => by kernel_rfl) (wrap_i64 (by (first | exact cmp_mul_rng _ _ _ _ | omega))) hH143 (fun hH144 => ?_)
            refine XA.valD 12 8 (.int .i64 ((cmp128 ((nrmOf a b c).z) 0) * (cmp128 n.z 0))) rfl (by kernel_rfl) (by kernel_rfl) (by kernel_rfl) rfl (by kernel_rfl) rfl hH144 (fun hH145 => ?_)
            refine XA.done (by kernel_rfl) (thn_norm ?_)
            exact ⟨⟨rfl, trivial⟩, s142, (ev7.trans (ev128.trans (ev140.trans ev142)))⟩
        · skip
          refine XO.loadB (v := .agg #[.int .i64 (hi128 n.z), .int .u64 (lo128 n.z)]) (g := true) (m := 2) s128 hb_n rfl rfl (by decide) rfl (by kernel_rfl) (by kernel_rfl) rfl rfl rfl ?_
          have hH146 := (Hold.set (i := 9) (by decide)).2 hH129
          refine ⟨hH146, ?_⟩
          refine XA.op (i := 4) rfl (by kernel_rfl) (by kernel_rfl) (XO.loadB (v := .int .i64 2) (g := false) (m := 1) s128 hb_k rfl rfl (by decide) rfl (by kernel_rfl) (by kernel_rfl) rfl rfl rfl ?_)
          have hH147 := (Hold.set (i := 4) (by decide)).2 hH146
          refine ⟨hH147, ?_⟩
          refine XA.valD 5 14 (.agg #[.int .i64 (hi128 ((nrmOf a b c).z)), .int .u64 (lo128 ((nrmOf a b c).z))]) rfl (by kernel_rfl) (by kernel_rfl) (by kernel_rfl) rfl (by kernel_rfl) rfl hH147 (fun hH148 => ?_)
          refine XA.op (i := 6) rfl (by kernel_rfl) (by kernel_rfl) (XO.callS (f := 45) (args := [(.agg #[.int .i64 (hi128 ((nrmOf a b c).z)), .int .u64 (lo128 ((nrmOf a b c).z))])].toArray) s128 rfl (by decide) (fun _ => by kernel_rfl) (limb_Sign_ok (av A _) _ s128.av_fresh ((nrmOf a b c).z) ) (fun _ w149 s149 ev149 kp149 hv_ => ?_))
          obtain rfl := hv_
          have hH150 := hH148.keep (i := 6) kp149 rfl
          refine ⟨hH150, ?_⟩
          refine XA.op (i := 10) rfl (by kernel_rfl) (by kernel_rfl) (XO.callS (f := 45) (args := [(.agg #[.int .i64 (hi128 n.z), .int .u64 (lo128 n.z)])].toArray) s149 rfl (by decide) (fun _ => by kernel_rfl) (limb_Sign_ok (av A _) _ s149.av_fresh n.z ) (fun _ w151 s151 ev151 kp151 hv_ => ?_))
          obtain rfl := hv_
          have hH152 := hH150.keep (i := 10) kp151 rfl
          refine ⟨hH152, ?_⟩
          refine XA.arith (p := 11) (k := .i64) (r := (cmp128 ((nrmOf a b c).z) 0) * (cmp128 n.z 0)) rfl (by kernel_rfl) (by kernel_rfl) (by kernel_rfl) rfl (by kernel_rfl) rfl (by decide) (fun _ => by kernel_rfl) (wrap_i64 (by (first | exact cmp_mul_rng _ _ _ _ | omega))) hH152 (fun hH153 => ?_)
          refine XA.valD 12 8 (.int .i64 ((cmp128 ((nrmOf a b c).z) 0) * (cmp128 n.z 0))) rfl (by kernel_rfl) (by kernel_rfl) (by kernel_rfl) rfl (by kernel_rfl) rfl hH153 (fun hH154 => ?_)
          refine XA.done (by kernel_rfl) (thn_norm ?_)
          exact ⟨⟨rfl, trivial⟩, s151, (ev7.trans (ev128.trans (ev149.trans ev151)))⟩
      · skip
        refine XO.loadB (v := .int .i64 2) (g := false) (m := 1) s7 hb_k rfl rfl (by decide) rfl (by kernel_rfl) (by kernel_rfl) rfl rfl rfl ?_
        have hH155 := (Hold.set (i := 4) (by decide)).2 hH127
        refine ⟨hH155, ?_⟩
        refine XA.op2 (i := 3) (j := 9) rfl rfl (by kernel_rfl) (by kernel_rfl) (by kernel_rfl) ?_ ?_
        · skip
          refine XO.callS (f := 26) (args := [(.agg #[.int .i64 a.x, .int .i64 a.y, .int .i64 a.z]), (.agg #[.int .i64 b.x, .int .i64 b.y, .int .i64 b.z]), (.agg #[.int .i64 c.x, .int .i64 c.y, .int .i64 c.z])].toArray) s7 rfl (by decide) (fun _ => by kernel_rfl) (clean_normal_ok (av A _) _ s7.av_fresh a b c (by assumption) (by assumption) (by assumption)) (fun _ w156 s156 ev156 kp156 hv_ => ?_)
          obtain rfl := hv_
          have hH157 := hH155.keep (i := 3) kp156 rfl
          refine ⟨hH157, ?_⟩
          refine XA.valD 5 14 (.agg #[.int .i64 (hi128 ((nrmOf a b c).z)), .int .u64 (lo128 ((nrmOf a b c).z))]) rfl (by kernel_rfl) (by kernel_rfl) (by kernel_rfl) rfl (by kernel_rfl) rfl hH157 (fun hH158 => ?_)
          refine XA.op2 (i := 6) (j := 9) rfl rfl (by kernel_rfl) (by kernel_rfl) (by kernel_rfl) ?_ ?_
          · skip
            refine XO.callS (f := 45) (args := [(.agg #[.int .i64 (hi128 ((nrmOf a b c).z)), .int .u64 (lo128 ((nrmOf a b c).z))])].toArray) s156 rfl (by decide) (fun _ => by kernel_rfl) (limb_Sign_ok (av A _) _ s156.av_fresh ((nrmOf a b c).z) ) (fun _ w159 s159 ev159 kp159 hv_ => ?_)
            obtain rfl := hv_
            have hH160 := hH158.keep (i := 6) kp159 rfl
            refine ⟨hH160, ?_⟩
            refine XA.op (i := 9) rfl (by kernel_rfl) (by kernel_rfl) (XO.loadB (v := .agg #[.int .i64 (hi128 n.z), .int .u64 (lo128 n.z)]) (g := true) (m := 2) s159 hb_n rfl rfl (by decide) rfl (by kernel_rfl) (by kernel_rfl) rfl rfl rfl ?_)
            have hH161 := (Hold.set (i := 9) (by decide)).2 hH160
            refine ⟨hH161, ?_⟩
            refine XA.op (i := 10) rfl (by kernel_rfl) (by kernel_rfl) (XO.callS (f := 45) (args := [(.agg #[.int .i64 (hi128 n.z), .int .u64 (lo128 n.z)])].toArray) s159 rfl (by decide) (fun _ => by kernel_rfl) (limb_Sign_ok (av A _) _ s159.av_fresh n.z ) (fun _ w162 s162 ev162 kp162 hv_ => ?_))
            obtain rfl := hv_
            have hH163 := hH161.keep (i := 10) kp162 rfl
            refine ⟨hH163, ?_⟩
            refine XA.arith (p := 11) (k := .i64) (r := (cmp128 ((nrmOf a b c).z) 0) * (cmp128 n.z 0)) rfl (by kernel_rfl) (by kernel_rfl) (by kernel_rfl) rfl (by kernel_rfl) rfl (by decide) (fun _ => by kernel_rfl) (wrap_i64 (by (first | exact cmp_mul_rng _ _ _ _ | omega))) hH163 (fun hH164 => ?_)
            refine XA.valD 12 8 (.int .i64 ((cmp128 ((nrmOf a b c).z) 0) * (cmp128 n.z 0))) rfl (by kernel_rfl) (by kernel_rfl) (by kernel_rfl) rfl (by kernel_rfl) rfl hH164 (fun hH165 => ?_)
            refine XA.done (by kernel_rfl) (thn_norm ?_)
            exact ⟨⟨rfl, trivial⟩, s162, (ev7.trans (ev156.trans (ev159.trans ev162)))⟩
          · skip
            refine XO.loadB (v := .agg #[.int .i64 (hi128 n.z), .int .u64 (lo128 n.z)]) (g := true) (m := 2) s156 hb_n rfl rfl (by decide) rfl (by kernel_rfl) (by kernel_rfl) rfl rfl rfl ?_
            have hH166 := (Hold.set (i := 9) (by decide)).2 hH158
            refine ⟨hH166, ?_⟩
            refine XA.op (i := 6) rfl (by kernel_rfl) (by kernel_rfl) (XO.callS (f := 45) (args := [(.agg #[.int .i64 (hi128 ((nrmOf a b c).z)), .int .u64 (lo128 ((nrmOf a b c).z))])].toArray) s156 rfl (by decide) (fun _ => by kernel_rfl) (limb_Sign_ok (av A _) _ s156.av_fresh ((nrmOf a b c).z) ) (fun _ w167 s167 ev167 kp167 hv_ => ?_))
            obtain rfl := hv_
            have hH168 := hH166.keep (i := 6) kp167 rfl
            refine ⟨hH168, ?_⟩
            refine XA.op (i := 10) rfl (by kernel_rfl) (by kernel_rfl) (XO.callS (f := 45) (args := [(.agg #[.int .i64 (hi128 n.z), .int .u64 (lo128 n.z)])].toArray) s167 rfl (by decide) (fun _ => by kernel_rfl) (limb_Sign_ok (av A _) _ s167.av_fresh n.z ) (fun _ w169 s169 ev169 kp169 hv_ => ?_))
            obtain rfl := hv_
            have hH170 := hH168.keep (i := 10) kp169 rfl
            refine ⟨hH170, ?_⟩
            refine XA.arith (p := 11) (k := .i64) (r := (cmp128 ((nrmOf a b c).z) 0) * (cmp128 n.z 0)) rfl (by kernel_rfl) (by kernel_rfl) (by kernel_rfl) rfl (by kernel_rfl) rfl (by decide) (fun _ => by kernel_rfl) (wrap_i64 (by (first | exact cmp_mul_rng _ _ _ _ | omega))) hH170 (fun hH171 => ?_)
            refine XA.valD 12 8 (.int .i64 ((cmp128 ((nrmOf a b c).z) 0) * (cmp128 n.z 0))) rfl (by kernel_rfl) (by kernel_rfl) (by kernel_rfl) rfl (by kernel_rfl) rfl hH171 (fun hH172 => ?_)
            refine XA.done (by kernel_rfl) (thn_norm ?_)
            exact ⟨⟨rfl, trivial⟩, s169, (ev7.trans (ev156.trans (ev167.trans ev169)))⟩
        · skip
          refine XO.loadB (v := .agg #[.int .i64 (hi128 n.z), .int .u64 (lo128 n.z)]) (g := true) (m := 2) s7 hb_n rfl rfl (by decide) rfl (by kernel_rfl) (by kernel_rfl) rfl rfl rfl ?_
          have hH173 := (Hold.set (i := 9) (by decide)).2 hH155
          refine ⟨hH173, ?_⟩
          refine XA.op (i := 3) rfl (by kernel_rfl) (by kernel_rfl) (XO.callS (f := 26) (args := [(.agg #[.int .i64 a.x, .int .i64 a.y, .int .i64 a.z]), (.agg #[.int .i64 b.x, .int .i64 b.y, .int .i64 b.z]), (.agg #[.int .i64 c.x, .int .i64 c.y, .int .i64 c.z])].toArray) s7 rfl (by decide) (fun _ => by kernel_rfl) (clean_normal_ok (av A _) _ s7.av_fresh a b c (by assumption) (by assumption) (by assumption)) (fun _ w174 s174 ev174 kp174 hv_ => ?_))
          obtain rfl := hv_
          have hH175 := hH173.keep (i := 3) kp174 rfl
          refine ⟨hH175, ?_⟩
          refine XA.valD 5 14 (.agg #[.int .i64 (hi128 ((nrmOf a b c).z)), .int .u64 (lo128 ((nrmOf a b c).z))]) rfl (by kernel_rfl) (by kernel_rfl) (by kernel_rfl) rfl (by kernel_rfl) rfl hH175 (fun hH176 => ?_)
          refine XA.op (i := 6) rfl (by kernel_rfl) (by kernel_rfl) (XO.callS (f := 45) (args := [(.agg #[.int .i64 (hi128 ((nrmOf a b c).z)), .int .u64 (lo128 ((nrmOf a b c).z))])].toArray) s174 rfl (by decide) (fun _ => by kernel_rfl) (limb_Sign_ok (av A _) _ s174.av_fresh ((nrmOf a b c).z) ) (fun _ w177 s177 ev177 kp177 hv_ => ?_))
          obtain rfl := hv_
          have hH178 := hH176.keep (i := 6) kp177 rfl
          refine ⟨hH178, ?_⟩
          refine XA.op (i := 10) rfl (by kernel_rfl) (by kernel_rfl) (XO.callS (f := 45) (args := [(.agg #[.int .i64 (hi128 n.z), .int .u64 (lo128 n.z)])].toArray) s177 rfl (by decide) (fun _ => by kernel_rfl) (limb_Sign_ok (av A _) _ s177.av_fresh n.z ) (fun _ w179 s179 ev179 kp179 hv_ => ?_))
          obtain rfl := hv_
          have hH180 := hH178.keep (i := 10) kp179 rfl
          refine ⟨hH180, ?_⟩
          refine XA.arith (p := 11) (k := .i64) (r := (cmp128 ((nrmOf a b c).z) 0) * (cmp128 n.z 0)) rfl (by kernel_rfl) (by kernel_rfl) (by kernel_rfl) rfl (by kernel_rfl) rfl (by decide) (fun _ => by kernel_rfl) (wrap_i64 (by (first | exact cmp_mul_rng _ _ _ _ | omega))) hH180 (fun hH181 => ?_)
          refine XA.valD 12 8 (.int .i64 ((cmp128 ((nrmOf a b c).z) 0) * (cmp128 n.z 0))) rfl (by kernel_rfl) (by kernel_rfl) (by kernel_rfl) rfl (by kernel_rfl) rfl hH181 (fun hH182 => ?_)
          refine XA.done (by kernel_rfl) (thn_norm ?_)
          exact ⟨⟨rfl, trivial⟩, s179, (ev7.trans (ev174.trans (ev177.trans ev179)))⟩
      · skip
        refine XO.loadB (v := .agg #[.int .i64 (hi128 n.z), .int .u64 (lo128 n.z)]) (g := true) (m := 2) s7 hb_n rfl rfl (by decide) rfl (by kernel_rfl) (by kernel_rfl) rfl rfl rfl ?_
        have hH183 := (Hold.set (i := 9) (by decide)).2 hH127
        refine ⟨hH183, ?_⟩
        refine XA.op2 (i := 3) (j := 4) rfl rfl (by kernel_rfl) (by kernel_rfl) (by kernel_rfl) ?_ ?_
        · skip
          refine XO.callS (f := 26) (args := [(.agg #[.int .i64 a.x, .int .i64 a.y, .int .i64 a.z]), (.agg #[.int .i64 b.x, .int .i64 b.y, .int .i64 b.z]), (.agg #[.int .i64 c.x, .int .i64 c.y, .int .i64 c.z])].toArray) s7 rfl (by decide) (fun _ => by kernel_rfl) (clean_normal_ok (av A _) _ s7.av_fresh a b c (by assumption) (by assumption) (by assumption)) (fun _ w184 s184 ev184 kp184 hv_ => ?_)
          obtain rfl := hv_
          have hH185 := hH183.keep (i := 3) kp184 rfl
          refine ⟨hH185, ?_⟩
          refine XA.op (i := 4) rfl (by kernel_rfl) (by kernel_rfl) (XO.loadB (v := .int .i64 2) (g := false) (m := 1) s184 hb_k rfl rfl (by decide) rfl (by kernel_rfl) (by kernel_rfl) rfl rfl rfl ?_)
          have hH186 := (Hold.set (i := 4) (by decide)).2 hH185
          refine ⟨hH186, ?_⟩
          refine XA.valD 5 14 (.agg #[.int .i64 (hi128 ((nrmOf a b c).z)), .int .u64 (lo128 ((nrmOf a b c).z))]) rfl (by kernel_rfl) (by kernel_rfl) (by kernel_rfl) rfl (by kernel_rfl) rfl hH186 (fun hH187 => ?_)
          refine XA.op (i := 6) rfl (by kernel_rfl) (by kernel_rfl) (XO.callS (f := 45) (args := [(.agg #[.int .i64 (hi128 ((nrmOf a b c).z)), .int .u64 (lo128 ((nrmOf a b c).z))])].toArray) s184 rfl (by decide) (fun _ => by kernel_rfl) (limb_Sign_ok (av A _) _ s184.av_fresh ((nrmOf a b c).z) ) (fun _ w188 s188 ev188 kp188 hv_ => ?_))
          obtain rfl := hv_
          have hH189 := hH187.keep (i := 6) kp188 rfl
          refine ⟨hH189, ?_⟩
          refine XA.op (i := 10) rfl (by kernel_rfl) (by kernel_rfl) (XO.callS (f := 45) (args := [(.agg #[.int .i64 (hi128 n.z), .int .u64 (lo128 n.z)])].toArray) s188 rfl (by decide) (fun _ => by kernel_rfl) (limb_Sign_ok (av A _) _ s188.av_fresh n.z ) (fun _ w190 s190 ev190 kp190 hv_ => ?_))
          obtain rfl := hv_
          have hH191 := hH189.keep (i := 10) kp190 rfl
          refine ⟨hH191, ?_⟩
          refine XA.arith (p := 11) (k := .i64) (r := (cmp128 ((nrmOf a b c).z) 0) * (cmp128 n.z 0)) rfl (by kernel_rfl) (by kernel_rfl) (by kernel_rfl) rfl (by kernel_rfl) rfl (by decide) (fun _ => by kernel_rfl) (wrap_i64 (by (first | exact cmp_mul_rng _ _ _ _ | omega))) hH191 (fun hH192 => ?_)
          refine XA.valD 12 8 (.int .i64 ((cmp128 ((nrmOf a b c).z) 0) * (cmp128 n.z 0))) rfl (by kernel_rfl) (by kernel_rfl) (by kernel_rfl) rfl (by kernel_rfl) rfl hH192 (fun hH193 => ?_)
          refine XA.done (by kernel_rfl) (thn_norm ?_)
          exact ⟨⟨rfl, trivial⟩, s190, (ev7.trans (ev184.trans (ev188.trans ev190)))⟩
        · skip
          refine XO.loadB (v := .int .i64 2) (g := false) (m := 1) s7 hb_k rfl rfl (by decide) rfl (by kernel_rfl) (by kernel_rfl) rfl rfl rfl ?_
          have hH194 := (Hold.set (i := 4) (by decide)).2 hH183
          refine ⟨hH194, ?_⟩
          refine XA.op (i := 3) rfl (by kernel_rfl) (by kernel_rfl) (XO.callS (f := 26) (args := [(.agg #[.int .i64 a.x, .int .i64 a.y, .int .i64 a.z]), (.agg #[.int .i64 b.x, .int .i64 b.y, .int .i64 b.z]), (.agg #[.int .i64 c.x, .int .i64 c.y, .int .i64 c.z])].toArray) s7 rfl (by decide) (fun _ => by kernel_rfl) (clean_normal_ok (av A _) _ s7.av_fresh a b c (by assumption) (by assumption) (by assumption)) (fun _ w195 s195 ev195 kp195 hv_ => ?_))
          obtain rfl := hv_
          have hH196 := hH194.keep (i := 3) kp195 rfl
          refine ⟨hH196, ?_⟩
          refine XA.valD 5 14 (.agg #[.int .i64 (hi128 ((nrmOf a b c).z)), .int .u64 (lo128 ((nrmOf a b c).z))]) rfl (by kernel_rfl) (by kernel_rfl) (by kernel_rfl) rfl (by kernel_rfl) rfl hH196 (fun hH197 => ?_)
          refine XA.op (i := 6) rfl (by kernel_rfl) (by kernel_rfl) (XO.callS (f := 45) (args := [(.agg #[.int .i64 (hi128 ((nrmOf a b c).z)), .int .u64 (lo128 ((nrmOf a b c).z))])].toArray) s195 rfl (by decide) (fun _ => by kernel_rfl) (limb_Sign_ok (av A _) _ s195.av_fresh ((nrmOf a b c).z) ) (fun _ w198 s198 ev198 kp198 hv_ => ?_))
          obtain rfl := hv_
          have hH199 := hH197.keep (i := 6) kp198 rfl
          refine ⟨hH199, ?_⟩
          refine XA.op (i := 10) rfl (by kernel_rfl) (by kernel_rfl) (XO.callS (f := 45) (args := [(.agg #[.int .i64 (hi128 n.z), .int .u64 (lo128 n.z)])].toArray) s198 rfl (by decide) (fun _ => by kernel_rfl) (limb_Sign_ok (av A _) _ s198.av_fresh n.z ) (fun _ w200 s200 ev200 kp200 hv_ => ?_))
          obtain rfl := hv_
          have hH201 := hH199.keep (i := 10) kp200 rfl
          refine ⟨hH201, ?_⟩
          refine XA.arith (p := 11) (k := .i64) (r := (cmp128 ((nrmOf a b c).z) 0) * (cmp128 n.z 0)) rfl (by kernel_rfl) (by kernel_rfl) (by kernel_rfl) rfl (by kernel_rfl) rfl (by decide) (fun _ => by kernel_rfl) (wrap_i64 (by (first | exact cmp_mul_rng _ _ _ _ | omega))) hH201 (fun hH202 => ?_)
          refine XA.valD 12 8 (.int .i64 ((cmp128 ((nrmOf a b c).z) 0) * (cmp128 n.z 0))) rfl (by kernel_rfl) (by kernel_rfl) (by kernel_rfl) rfl (by kernel_rfl) rfl hH202 (fun hH203 => ?_)
          refine XA.done (by kernel_rfl) (thn_norm ?_)
          exact ⟨⟨rfl, trivial⟩, s200, (ev7.trans (ev195.trans (ev198.trans ev200)))⟩
  intro ρw204 w204 hJ_
  obtain ⟨hh204, s204, ev204⟩ := hJ_
  refine XC.rebase hh204 ?_
  refine XC.ret ?_
  refine ⟨Or.inr rfl, .int .i64 ((cmp128 ((nrmOf a b c).z) 0) * (cmp128 n.z 0)), fun a_ ha_ => results_t rfl ha_ rfl, s204.keep, ?_⟩
  rfl

end Go.Proofs.Tryz
namespace Go.Proofs.Tryz
open Go Go.X Go.RowKit Go.Sort
set_option maxRecDepth 100000
set_option linter.unusedVariables false
theorem slices_Reverse___api_Point_api_Point__ok (A : Nat → Prop) (w0 : World) (hA : ∀ b, w0.heap.size ≤ b → A b) (b_s off_s n_s cap_s : Nat) (s : Array Pt) (T_s : TypeId) (hn_s : s.size = n_s) (hd_s : (arrA Pt.enc 3 b_s off_s s T_s).holds w0)  (hlen : 1 ≤ n_s ∧ n_s ≤ 1048576) : Cal Tryz.prog 27 [(.slice (some ⟨b_s, off_s, none⟩) n_s cap_s)].toArray w0 (fun v w' => Keep (fun x => x = b_s) w0 w' ∧ ∃ (s' : Array Pt), v = .tuple #[] ∧ s'.size = n_s ∧ s'.toList = s.toList.reverse ∧ (arrA Pt.enc 3 b_s off_s s' T_s).holds w') := by
  have s0 : Stt A w0 (fun x => x = b_s) [arrA Pt.enc 3 b_s off_s s T_s] w0 := Stt.start1 hA _ hd_s
  refine Cal.intro (n := 28) Tryz.func27 rfl Tryz.ntmps27 rfl ?_
  refine XC.seq ?_
  refine XC.region ?_
  refine XS.vals' 2 [(4, .slice (some ⟨b_s, off_s, none⟩) n_s cap_s), (5, .int .i64 (n_s : Int))] (by kernel_rfl) ?_
  refine XS.op rfl rfl (XO.arith (k := .i64) (r := (n_s : Int) - 1) rfl (by decide) (fun _ => by kernel_rfl) (wrap_i64 (by omega)) ?_)
  refine XS.vals' 2 [(2, .int .i64 0), (3, .int .i64 ((n_s : Int) - 1))] (by kernel_rfl) ?_
  refine XS.done rfl (thn_norm ?_)
  refine XC.block ?_
  refine XC.loop (fun ρ_ w_ m_ => ∃ (ii : Nat) (jj : Nat) (dd : Array Pt), Has ρ_ [(0, .slice (some ⟨b_s, off_s, none⟩) n_s cap_s), (2, .int .i64 (ii : Int)), (3, .int .i64 (jj : Int))] ∧ Stt A w0 (fun x => x = b_s) [arrA Pt.enc 3 b_s off_s dd T_s] w_ ∧ Evo (av A [arrA Pt.enc 3 b_s off_s s T_s]) w0 (av A [arrA Pt.enc 3 b_s off_s dd T_s]) w_ ∧ (dd.size = n_s) ∧ (ii + jj + 1 = n_s) ∧ (∀ k, k < n_s → dd[k]! = if ii ≤ k ∧ k ≤ jj then s[k]! else s[n_s - 1 - k]!) ∧ m_ = jj + 1) (n_s - 1 + 1) ?_ ?_
  · skip
    exact ⟨0, (n_s - 1), s, ⟨rfl, (congrArg (Value.int .i64) (by first | rfl | omega : (0 : Int) = _)), (congrArg (Value.int .i64) (by first | rfl | omega : ((n_s : Int) - 1 : Int) = _)), trivial⟩, s0, Evo.refl _ _, (hn_s), (by omega), (fun k hk => by rw [if_pos (by omega)]), rfl⟩
  rintro _ ρw1 w1 ⟨ii, jj, dd, hh1, s1, ev1, hsz, hij, hI, rfl⟩
  refine XC.rebase hh1 ?_
  refine XC.seq ?_
  refine XC.seq ?_
  refine XC.region ?_
  refine XS.vals' 3 [(7, .int .i64 (ii : Int)), (8, .int .i64 (jj : Int)), (9, .bool (decide ((ii : Int) < (jj : Int))))] (by kernel_rfl) ?_
  refine XS.done rfl (thn_norm ?_)
  refine XC.cond_d ((ii : Int) < (jj : Int)) rfl (fun hc2 => ?_) (fun hc2 => ?_)
  · skip
    refine XC.skip (thn_norm ?_)
    refine XC.seq ?_
    refine XC.block ?_
    refine XC.drawS 16 rfl (fun x => x = b_s) 13 (by kernel_rfl) s1 (fun w3 s3 ev3 kp3 hH4 => ?_)
    refine XA.valD 0 14 (.slice (some ⟨b_s, off_s, none⟩) n_s cap_s) rfl (by kernel_rfl) (by kernel_rfl) (by kernel_rfl) rfl (by kernel_rfl) rfl hH4 (fun hH5 => ?_)
    refine XA.valD 1 15 (.int .i64 (ii : Int)) rfl (by kernel_rfl) (by kernel_rfl) (by kernel_rfl) rfl (by kernel_rfl) rfl hH5 (fun hH6 => ?_)
    refine XA.valD 2 16 (.slice (some ⟨b_s, off_s, none⟩) n_s cap_s) rfl (by kernel_rfl) (by kernel_rfl) (by kernel_rfl) rfl (by kernel_rfl) rfl hH6 (fun hH7 => ?_)
    refine XA.valD 3 17 (.int .i64 (jj : Int)) rfl (by kernel_rfl) (by kernel_rfl) (by kernel_rfl) rfl (by kernel_rfl) rfl hH7 (fun hH8 => ?_)
    refine XA.valD 4 18 (.slice (some ⟨b_s, off_s, none⟩) n_s cap_s) rfl (by kernel_rfl) (by kernel_rfl) (by kernel_rfl) rfl (by kernel_rfl) rfl hH8 (fun hH9 => ?_)
    refine XA.valD 5 19 (.int .i64 (jj : Int)) rfl (by kernel_rfl) (by kernel_rfl) (by kernel_rfl) rfl (by kernel_rfl) rfl hH9 (fun hH10 => ?_)
    refine XA.index (p := 6) (i := jj) (e := 24) (sz := 3) rfl (by kernel_rfl) (by kernel_rfl) (by kernel_rfl) rfl (by kernel_rfl) rfl rfl (by decide) rfl rfl (by omega) (by omega) (by kernel_rfl) (by kernel_rfl) hH10 (fun hH11 => ?_)
    refine XA.loadArr true (p := 7) (q := 0) (i := jj) (sz := 3) (g := true) s3 rfl (by (have h_ := hsz; omega)) rfl rfl (by kernel_rfl) (by kernel_rfl) (by kernel_rfl) rfl (by kernel_rfl) (fun h => by cases h) (by kernel_rfl) rfl rfl (by decide) hH11 rfl (by first | rfl | omega) (by kernel_rfl) (by kernel_rfl) rfl (fun hH12 => ?_)
    refine XA.valD 8 22 (.slice (some ⟨b_s, off_s, none⟩) n_s cap_s) rfl (by kernel_rfl) (by kernel_rfl) (by kernel_rfl) rfl (by kernel_rfl) rfl hH12 (fun hH13 => ?_)
    refine XA.valD 9 23 (.int .i64 (ii : Int)) rfl (by kernel_rfl) (by kernel_rfl) (by kernel_rfl) rfl (by kernel_rfl) rfl hH13 (fun hH14 => ?_)
    refine XA.index (p := 10) (i := ii) (e := 24) (sz := 3) rfl (by kernel_rfl) (by kernel_rfl) (by kernel_rfl) rfl (by kernel_rfl) rfl rfl (by decide) rfl rfl (by omega) (by omega) (by kernel_rfl) (by kernel_rfl) hH14 (fun hH15 => ?_)
    refine XA.loadArr true (p := 11) (q := 0) (i := ii) (sz := 3) (g := true) s3 rfl (by (have h_ := hsz; omega)) rfl rfl (by kernel_rfl) (by kernel_rfl) (by kernel_rfl) rfl (by kernel_rfl) (fun h => by cases h) (by kernel_rfl) rfl rfl (by decide) hH15 rfl (by first | rfl | omega) (by kernel_rfl) (by kernel_rfl) rfl (fun hH16 => ?_)
    refine XA.index (p := 12) (i := ii) (e := 24) (sz := 3) rfl (by kernel_rfl) (by kernel_rfl) (by kernel_rfl) rfl (by kernel_rfl) rfl rfl (by decide) rfl rfl (by omega) (by omega) (by kernel_rfl) (by kernel_rfl) hH16 (fun hH17 => ?_)
    refine XA.op (i := 13) rfl (by kernel_rfl) (by kernel_rfl) (XO.storeArr (q := 0) (i := ii) (sz := 3) ((dd)[jj]!) s3 rfl (fun _ => rfl) (by (have h_ := hsz; omega)) rfl rfl rfl rfl (by first | rfl | omega) rfl (by kernel_rfl) rfl rfl (fun w18 s18 ev18 kp18 => ?_))
    have hs19 : (dd.setIfInBounds ii ((dd)[jj]!)).size = n_s := by rw [Array.size_setIfInBounds]; exact hsz
    have hH20 := hH17.turn (i := 13) kp18 (fun b_ _ e_ => by first | exact e_ | (subst e_; simp)) rfl
    refine ⟨hH20, ?_⟩
    refine XA.index (p := 14) (i := jj) (e := 24) (sz := 3) rfl (by kernel_rfl) (by kernel_rfl) (by kernel_rfl) rfl (by kernel_rfl) rfl rfl (by decide) rfl rfl (by omega) (by omega) (by kernel_rfl) (by kernel_rfl) hH20 (fun hH21 => ?_)
    refine XA.op (i := 15) rfl (by kernel_rfl) (by kernel_rfl) (XO.storeArr (q := 0) (i := jj) (sz := 3) ((dd)[ii]!) s18 rfl (fun _ => rfl) (by (have h_ := hs19; omega)) rfl rfl rfl rfl (by first | rfl | omega) rfl (by kernel_rfl) rfl rfl (fun w22 s22 ev22 kp22 => ?_))
    have hs23 : ((dd.setIfInBounds ii ((dd)[jj]!)).setIfInBounds jj ((dd)[ii]!)).size = n_s := by rw [Array.size_setIfInBounds]; exact hs19
    have hH24 := hH21.turn (i := 15) kp22 (fun b_ _ e_ => by first | exact e_ | (subst e_; simp)) rfl
    refine ⟨hH24, ?_⟩
    refine XA.done (by kernel_rfl) (inBlk_norm (thn_norm ?_))
    refine XC.region ?_
    refine XS.vals' 1 [(10, .int .i64 (ii : Int))] (by kernel_rfl) ?_
    refine XS.op rfl rfl (XO.arith (k := .i64) (r := (ii : Int) + 1) rfl (by decide) (fun _ => by kernel_rfl) (wrap_i64 (by omega)) ?_)
    refine XS.vals' 1 [(12, .int .i64 (jj : Int))] (by kernel_rfl) ?_
    refine XS.op rfl rfl (XO.arith (k := .i64) (r := (jj : Int) - 1) rfl (by decide) (fun _ => by kernel_rfl) (wrap_i64 (by omega)) ?_)
    refine XS.vals' 2 [(2, .int .i64 ((ii : Int) + 1)), (3, .int .i64 ((jj : Int) - 1))] (by kernel_rfl) ?_
    refine XS.done rfl (thn_norm ?_)
    refine ⟨jj - 1 + 1, ?_, ?_⟩
    · omega
    exact ⟨(ii + 1), (jj - 1 : Nat), ((dd.setIfInBounds ii ((dd)[jj]!)).setIfInBounds jj ((dd)[ii]!)), ⟨rfl, (congrArg (Value.int .i64) (by first | rfl | omega : ((ii : Int) + 1 : Int) = _)), (congrArg (Value.int .i64) (by first | rfl | omega : ((jj : Int) - 1 : Int) = _)), trivial⟩, s22, (ev1.trans (ev3.trans (ev18.trans ev22))), (hs23), (by omega), (rev_step hsz (by omega) hij hI), rfl⟩
  · skip
    refine XC.exit (thn_exit (thn_exit (inBlk_hit ?_)))
    refine ⟨Or.inl rfl, .tuple #[], fun a_ ha_ => results_0 rfl, s1.keep, ?_⟩
    refine ⟨dd, ?_, hsz, ?_, s1.at_ (i := 0) rfl⟩
    · rfl
    · refine rev_end hsz hn_s ?_
      intro k hk
      rw [hI k hk]
      split
      · congr 1; omega
      · rfl

end Go.Proofs.Tryz
namespace Go.Proofs.Tryz
open Go Go.X Go.RowKit Go.Sort
set_option maxRecDepth 100000
set_option linter.unusedVariables false
theorem slices_Equal___api_Point_api_Point__ok (A : Nat → Prop) (w0 : World) (hA : ∀ b, w0.heap.size ≤ b → A b) (l : List Pt) (a_l : Option Addr) (c_l : Nat) (h_l : Sl tPt A w0 (.slice a_l l.length c_l) l) (m : List Pt) (a_m : Option Addr) (c_m : Nat) (h_m : Sl tPt A w0 (.slice a_m m.length c_m) m)  : Cal Tryz.prog 44 [(.slice a_l l.length c_l), (.slice a_m m.length c_m)].toArray w0 (fun v w' => Keep none_ w0 w' ∧ v = .bool (decide (l = m))) := by
  have s0 : Stt A w0 none_ [] w0 := Stt.start hA none_
  have h_l_ := h_l.mono Evo.start
  have h_m_ := h_m.mono Evo.start
  refine Cal.intro (n := 26) Tryz.func44 rfl Tryz.ntmps44 rfl ?_
  refine XC.seq ?_
  refine XC.region ?_
  refine XS.vals' 1 [(4, .bool false)] (by kernel_rfl) ?_
  refine XS.done rfl (thn_norm ?_)
  refine XC.seq ?_
  refine XC.seq ?_
  refine XC.region ?_
  refine XS.vals' 5 [(6, .slice a_l l.length c_l), (7, .int .i64 (l.length : Int)), (8, .slice a_m m.length c_m), (9, .int .i64 (m.length : Int)), (10, .bool (!decide ((l.length : Int) = (m.length : Int))))] (by kernel_rfl) ?_
  refine XS.done rfl (thn_norm ?_)
  refine XC.cond_nd ((l.length : Int) = (m.length : Int)) rfl (fun hc1 => ?_) (fun hc1 => ?_)
  · skip
    refine XC.seq ?_
    refine XC.region ?_
    refine XS.vals' 1 [(4, .bool false)] (by kernel_rfl) ?_
    refine XS.done rfl (thn_norm ?_)
    refine XC.ret (thn_ret ?_)
    refine ⟨Or.inr rfl, .bool false, fun a_ ha_ => results_t rfl ha_ rfl, s0.keep, ?_⟩
    refine congrArg Value.bool ?_
    symm; rw [decide_eq_false_iff_not]
    rintro rfl
    omega
  · skip
    refine XC.skip (thn_norm ?_)
    refine XC.seq ?_
    refine XC.seq ?_
    refine XC.region ?_
    refine XS.vals' 3 [(11, .slice a_l l.length c_l), (12, .int .i64 (l.length : Int)), (13, .int .i64 0)] (by kernel_rfl) ?_
    refine XS.done rfl (thn_norm ?_)
    refine XC.block ?_
    refine XC.loop (fun ρ_ w_ m_ => ∃ (i : Nat), Has ρ_ [(0, .slice a_l l.length c_l), (1, .slice a_m m.length c_m), (4, .bool false), (12, .int .i64 (l.length : Int)), (13, .int .i64 (i : Int))] ∧ Stt A w0 none_ [] w_ ∧ Evo (av A []) w0 (av A []) w_ ∧ (i ≤ l.length) ∧ (l.take i = m.take i) ∧ m_ = l.length - i) (l.length - 0) ?_ ?_
    · skip
      exact ⟨0, ⟨rfl, rfl, rfl, rfl, (congrArg (Value.int .i64) (by first | rfl | omega : (0 : Int) = _)), trivial⟩, s0, Evo.refl _ _, (by omega), (by simp), rfl⟩
    rintro _ ρw2 w2 ⟨i, hh2, s2, ev2, hi, hI, rfl⟩
    refine XC.rebase hh2 ?_
    refine XC.seq ?_
    refine XC.region ?_
    refine XS.vals' 1 [(14, .bool (decide ((i : Int) < (l.length : Int))))] (by kernel_rfl) ?_
    refine XS.done rfl (thn_norm ?_)
    refine XC.seq ?_
    refine XC.cond_d ((i : Int) < (l.length : Int)) rfl (fun hc3 => ?_) (fun hc3 => ?_)
    · skip
      refine XC.skip (thn_norm ?_)
      refine XC.seq ?_
      refine XC.block ?_
      refine XC.seq ?_
      refine XC.region ?_
      refine XS.vals' 2 [(15, .int .i64 (i : Int)), (5, .int .i64 (i : Int))] (by kernel_rfl) ?_
      refine XS.done rfl (thn_norm ?_)
      refine XC.seq ?_
      refine XC.drawS 9 rfl (fun _ => False) 9 (by kernel_rfl) s2 (fun w4 s4 ev4 kp4 hH5 => ?_)
      refine XA.valD 0 16 (.slice a_l l.length c_l) rfl (by kernel_rfl) (by kernel_rfl) (by kernel_rfl) rfl (by kernel_rfl) rfl hH5 (fun hH6 => ?_)
      refine XA.valD 1 17 (.int .i64 (i : Int)) rfl (by kernel_rfl) (by kernel_rfl) (by kernel_rfl) rfl (by kernel_rfl) rfl hH6 (fun hH7 => ?_)
      obtain ⟨z9, hz9⟩ := get_some (xs := l) (i := i) (by (have h1_ := h_l_.elim; have h2_ := h_m_.elim; obtain ⟨_, _, _, _, h1_⟩ := h1_; obtain ⟨_, _, _, _, h2_⟩ := h2_; omega))
      refine XA.elemD (p := 2) (i := i) (z := z9) (e := 24) (sz := 3) (h_l_.mono (ev2.trans ev4)) hz9 rfl (by kernel_rfl) (by kernel_rfl) (by kernel_rfl) rfl (by kernel_rfl) rfl rfl (by decide) rfl rfl (by omega) (by kernel_rfl) (by kernel_rfl) hH7 (fun hH8 => ?_)
      refine XA.loadD (p := 3) (i := i) (f := 0) (sz := 3) (g := true) (z := z9) (h_l_.mono (ev2.trans ev4)) hz9 (fun _ _ h => h) rfl (by kernel_rfl) (by kernel_rfl) (by kernel_rfl) rfl (by kernel_rfl) rfl rfl (by decide) hH8 rfl (by first | rfl | omega) (by kernel_rfl) (by kernel_rfl) rfl rfl rfl (fun cs_ hcs_ hH10 => ?_)
      obtain rfl := hcs_
      refine XA.valD 4 20 (.slice a_m m.length c_m) rfl (by kernel_rfl) (by kernel_rfl) (by kernel_rfl) rfl (by kernel_rfl) rfl hH10 (fun hH11 => ?_)
      refine XA.valD 5 21 (.int .i64 (i : Int)) rfl (by kernel_rfl) (by kernel_rfl) (by kernel_rfl) rfl (by kernel_rfl) rfl hH11 (fun hH12 => ?_)
      obtain ⟨z14, hz14⟩ := get_some (xs := m) (i := i) (by (have h1_ := h_l_.elim; have h2_ := h_m_.elim; obtain ⟨_, _, _, _, h1_⟩ := h1_; obtain ⟨_, _, _, _, h2_⟩ := h2_; omega))
      refine XA.elemD (p := 6) (i := i) (z := z14) (e := 24) (sz := 3) (h_m_.mono (ev2.trans ev4)) hz14 rfl (by kernel_rfl) (by kernel_rfl) (by kernel_rfl) rfl (by kernel_rfl) rfl rfl (by decide) rfl rfl (by omega) (by kernel_rfl) (by kernel_rfl) hH12 (fun hH13 => ?_)
      refine XA.loadD (p := 7) (i := i) (f := 0) (sz := 3) (g := true) (z := z14) (h_m_.mono (ev2.trans ev4)) hz14 (fun _ _ h => h) rfl (by kernel_rfl) (by kernel_rfl) (by kernel_rfl) rfl (by kernel_rfl) rfl rfl (by decide) hH13 rfl (by first | rfl | omega) (by kernel_rfl) (by kernel_rfl) rfl rfl rfl (fun cs_ hcs_ hH15 => ?_)
      obtain rfl := hcs_
      refine XA.op (i := 8) rfl (by kernel_rfl) (by kernel_rfl) (XO.eqlP true (a := .agg #[.int .i64 z9.x, .int .i64 z9.y, .int .i64 z9.z]) (b := .agg #[.int .i64 z14.x, .int .i64 z14.y, .int .i64 z14.z]) (r' := !decide (z9.x = z14.x ∧ z9.y = z14.y ∧ z9.z = z14.z)) (Eql.struct rfl (by kernel_rfl) (EqlF.cons rfl (a := .int .i64 z9.x) (b := .int .i64 z14.x) (by kernel_rfl) (by kernel_rfl) (Eql.int rfl) (EqlF.cons rfl (a := .int .i64 z9.y) (b := .int .i64 z14.y) (by kernel_rfl) (by kernel_rfl) (Eql.int rfl) (EqlF.cons rfl (a := .int .i64 z9.z) (b := .int .i64 z14.z) (by kernel_rfl) (by kernel_rfl) (Eql.int rfl) EqlF.nil)))) (by rw [Bool.eq_iff_iff]; simp [ng]) rfl rfl (by decide) rfl rfl (by kernel_rfl) (fun _ => by kernel_rfl) ?_)
      have hH16 := (Hold.set (i := 8) (by decide)).2 hH15
      refine ⟨hH16, ?_⟩
      refine XA.done (by kernel_rfl) (thn_norm ?_)
      refine XC.cond_nd (z9.x = z14.x ∧ z9.y = z14.y ∧ z9.z = z14.z) rfl (fun hc17 => ?_) (fun hc17 => ?_)
      · skip
        refine XC.seq ?_
        refine XC.region ?_
        refine XS.vals' 1 [(4, .bool false)] (by kernel_rfl) ?_
        refine XS.done rfl (thn_norm ?_)
        refine XC.ret (inBlk_ret (thn_ret (thn_ret (inBlk_ret (thn_ret ?_)))))
        refine ⟨Or.inr rfl, .bool false, fun a_ ha_ => results_t rfl ha_ rfl, s4.keep, ?_⟩
        refine congrArg Value.bool ?_
        symm; rw [decide_eq_false_iff_not]
        rintro rfl
        rw [hz9] at hz14; cases hz14
        exact absurd ⟨rfl, rfl, rfl⟩ hc17
      · skip
        refine XC.skip (inBlk_norm (thn_norm ?_))
        refine XC.region ?_
        refine XS.op rfl rfl (XO.arith (k := .i64) (r := (i : Int) + 1) rfl (by decide) (fun _ => by kernel_rfl) (wrap_i64 (by (have h1_ := h_l_.elim; have h2_ := h_m_.elim; obtain ⟨_, _, _, _, h1_⟩ := h1_; obtain ⟨_, _, _, _, h2_⟩ := h2_; omega))) ?_)
        refine XS.vals' 1 [(13, .int .i64 ((i : Int) + 1))] (by kernel_rfl) ?_
        refine XS.done rfl (thn_norm ?_)
        refine ⟨l.length - (i + 1), ?_, ?_⟩
        · omega
        exact ⟨i + 1, ⟨rfl, rfl, rfl, rfl, (congrArg (Value.int .i64) (by first | rfl | omega : ((i : Int) + 1 : Int) = _)), trivial⟩, s4, (ev2.trans ev4), (by omega), (take_both hz9 hz14 ((Pt.eq_iff _ _).2 hc17) hI), rfl⟩
    · skip
      refine XC.exit (thn_exit (thn_exit (inBlk_hit (thn_norm ?_))))
      refine XC.seq ?_
      refine XC.region ?_
      refine XS.vals' 1 [(4, .bool true)] (by kernel_rfl) ?_
      refine XS.done rfl (thn_norm ?_)
      refine XC.ret ?_
      refine ⟨Or.inr rfl, .bool true, fun a_ ha_ => results_t rfl ha_ rfl, s2.keep, ?_⟩
      refine congrArg Value.bool ?_
      symm; rw [decide_eq_true_eq]
      exact eq_of_take (by omega) (by omega) hI

end Go.Proofs.Tryz
namespace Go.Proofs.Tryz
open Go Go.X Go.RowKit Go.Sort
set_option maxRecDepth 100000
set_option linter.unusedVariables false
theorem carapaceref2_fit_ok (A : Nat → Prop) (w0 : World) (hA : ∀ b, w0.heap.size ≤ b → A b) (n : Int)  : Cal Tryz.prog 57 [(.int .i64 n)].toArray w0 (fun v w' => Keep none_ w0 w' ∧ v = .bool (decide (inC n))) := by
  have s0 : Stt A w0 none_ [] w0 := Stt.start hA none_
  refine Cal.intro (n := 9) Tryz.func57 rfl Tryz.ntmps57 rfl ?_
  refine XC.seq ?_
  refine XC.region ?_
  refine XS.vals' 1 [(2, .bool false)] (by kernel_rfl) ?_
  refine XS.done rfl (thn_norm ?_)
  refine XC.seq ?_
  refine XC.region ?_
  refine XS.vals' 3 [(3, .int .i64 n), (4, .bool (decide (n ≥ (-1073741824)))), (5, .bool (decide (n ≥ (-1073741824))))] (by kernel_rfl) ?_
  refine XS.onD 5 (n ≥ (-1073741824)) rfl (fun hg1 => ?_) (fun hg1 => ?_)
  · skip
    refine XS.vals' 4 [(6, .int .i64 n), (7, .bool (decide (n ≤ 1073741824))), (8, .bool (decide (n ≤ 1073741824))), (2, .bool (decide (n ≤ 1073741824)))] (by kernel_rfl) ?_
    refine XS.done rfl (thn_norm ?_)
    refine XC.ret ?_
    refine ⟨Or.inr rfl, .bool (decide (n ≤ 1073741824)), fun a_ ha_ => results_t rfl ha_ rfl, s0.keep, ?_⟩
    refine congrArg Value.bool ?_
    unfold inC at *
    first | (simp [*]; done) | (rw [Bool.eq_iff_iff]; simp; omega) | (symm; rw [decide_eq_true_eq]; omega) | (symm; rw [decide_eq_false_iff_not]; omega)
  · skip
    refine XS.vals' 4 [(6, undef), (7, undef), (8, .bool false), (2, .bool false)] (by kernel_rfl) ?_
    refine XS.done rfl (thn_norm ?_)
    refine XC.ret ?_
    refine ⟨Or.inr rfl, .bool false, fun a_ ha_ => results_t rfl ha_ rfl, s0.keep, ?_⟩
    refine congrArg Value.bool ?_
    unfold inC at *
    first | (simp [*]; done) | (rw [Bool.eq_iff_iff]; simp; omega) | (symm; rw [decide_eq_true_eq]; omega) | (symm; rw [decide_eq_false_iff_not]; omega)

theorem carapaceref2_Fit_ok (A : Nat → Prop) (w0 : World) (hA : ∀ b, w0.heap.size ≤ b → A b) (p : Pt)  : Cal Tryz.prog 31 [(.agg #[.int .i64 p.x, .int .i64 p.y, .int .i64 p.z])].toArray w0 (fun v w' => Keep none_ w0 w' ∧ v = .bool (decide (p.ok))) := by
  have s0 : Stt A w0 none_ [] w0 := Stt.start hA none_
  refine Cal.intro (n := 16) Tryz.func31 rfl Tryz.ntmps31 rfl ?_
  refine XC.seq ?_
  refine XC.region ?_
  refine XS.op rfl rfl (XO.new (cs := [.int .i64 p.x, .int .i64 p.y, .int .i64 p.z]) (T := 24) s0 rfl (by decide) (fun _ => by kernel_rfl) (fun b1 w2 s2 ev2 kp2 ybb1 => ?_))
  refine XS.vals' 1 [(2, .bool false)] (by kernel_rfl) ?_
  refine XS.done rfl (thn_norm ?_)
  refine XC.seq ?_
  refine XC.region ?_
  refine XS.vals' 1 [(3, .pointer (some ⟨b1, 0, none⟩))] (by kernel_rfl) ?_
  refine XS.op rfl rfl (XO.loadS (i := 0) (v := .int .i64 p.x) (g := false) (m := 1) s2 rfl rfl rfl (by decide) rfl (by kernel_rfl) (by kernel_rfl) rfl rfl rfl ?_)
  refine XS.op rfl rfl (XO.callS (f := 57) (args := [(.int .i64 p.x)].toArray) s2 rfl (by decide) (fun _ => by kernel_rfl) (carapaceref2_fit_ok (av A _) _ s2.av_fresh p.x ) (fun _ w3 s3 ev3 kp3 hv_ => ?_))
  obtain rfl := hv_
  refine XS.vals' 1 [(6, .bool (decide (inC p.x)))] (by kernel_rfl) ?_
  refine XS.onD 6 (inC p.x) rfl (fun hg4 => ?_) (fun hg4 => ?_)
  · skip
    refine XS.vals' 1 [(7, .pointer (some ⟨b1, 1, none⟩))] (by kernel_rfl) ?_
    refine XS.op_g rfl rfl rfl (XO.loadS (i := 0) (v := .int .i64 p.y) (g := false) (m := 1) s3 rfl rfl rfl (by decide) rfl (by kernel_rfl) (by kernel_rfl) rfl rfl rfl ?_)
    refine XS.op_g rfl rfl rfl (XO.callS (f := 57) (args := [(.int .i64 p.y)].toArray) s3 rfl (by decide) (fun _ => by kernel_rfl) (carapaceref2_fit_ok (av A _) _ s3.av_fresh p.y ) (fun _ w5 s5 ev5 kp5 hv_ => ?_))
    obtain rfl := hv_
    refine XS.vals' 2 [(10, .bool (decide (inC p.y))), (11, .bool (decide (inC p.y)))] (by kernel_rfl) ?_
    refine XS.onD 11 (inC p.y) rfl (fun hg6 => ?_) (fun hg6 => ?_)
    · skip
      refine XS.vals' 1 [(12, .pointer (some ⟨b1, 2, none⟩))] (by kernel_rfl) ?_
      refine XS.op_g rfl rfl rfl (XO.loadS (i := 0) (v := .int .i64 p.z) (g := false) (m := 1) s5 rfl rfl rfl (by decide) rfl (by kernel_rfl) (by kernel_rfl) rfl rfl rfl ?_)
      refine XS.op_g rfl rfl rfl (XO.callS (f := 57) (args := [(.int .i64 p.z)].toArray) s5 rfl (by decide) (fun _ => by kernel_rfl) (carapaceref2_fit_ok (av A _) _ s5.av_fresh p.z ) (fun _ w7 s7 ev7 kp7 hv_ => ?_))
      obtain rfl := hv_
      refine XS.vals' 2 [(15, .bool (decide (inC p.z))), (2, .bool (decide (inC p.z)))] (by kernel_rfl) ?_
      refine XS.done rfl (thn_norm ?_)
      refine XC.ret ?_
      refine ⟨Or.inr rfl, .bool (decide (inC p.z)), fun a_ ha_ => results_t rfl ha_ rfl, s7.keep, ?_⟩
      refine congrArg Value.bool ?_
      unfold Pt.ok at *
      first | (simp [*]; done) | (rw [Bool.eq_iff_iff]; simp; omega) | (symm; rw [decide_eq_true_eq]; omega) | (symm; rw [decide_eq_false_iff_not]; omega)
    · skip
      refine XS.vals' 5 [(12, undef), (13, undef), (14, undef), (15, .bool false), (2, .bool false)] (by kernel_rfl) ?_
      refine XS.done rfl (thn_norm ?_)
      refine XC.ret ?_
      refine ⟨Or.inr rfl, .bool false, fun a_ ha_ => results_t rfl ha_ rfl, s5.keep, ?_⟩
      refine congrArg Value.bool ?_
      unfold Pt.ok at *
      first | (simp [*]; done) | (rw [Bool.eq_iff_iff]; simp; omega) | (symm; rw [decide_eq_true_eq]; omega) | (symm; rw [decide_eq_false_iff_not]; omega)
  · skip
    refine XS.vals' 10 [(7, undef), (8, undef), (9, undef), (10, .bool false), (11, .bool false), (12, undef), (13, undef), (14, undef), (15, .bool false), (2, .bool false)] (by kernel_rfl) ?_
    refine XS.done rfl (thn_norm ?_)
    refine XC.ret ?_
    refine ⟨Or.inr rfl, .bool false, fun a_ ha_ => results_t rfl ha_ rfl, s3.keep, ?_⟩
    refine congrArg Value.bool ?_
    unfold Pt.ok at *
    first | (simp [*]; done) | (rw [Bool.eq_iff_iff]; simp; omega) | (symm; rw [decide_eq_true_eq]; omega) | (symm; rw [decide_eq_false_iff_not]; omega)

theorem carapaceref15_Less_ok (A : Nat → Prop) (w0 : World) (hA : ∀ b, w0.heap.size ≤ b → A b) (a : Pt) (b : Pt)  : Cal Tryz.prog 11 [(.agg #[.int .i64 a.x, .int .i64 a.y, .int .i64 a.z]), (.agg #[.int .i64 b.x, .int .i64 b.y, .int .i64 b.z])].toArray w0 (fun v w' => Keep none_ w0 w' ∧ v = .bool (ltP a b)) := by
  have s0 : Stt A w0 none_ [] w0 := Stt.start hA none_
  refine Cal.intro (n := 32) Tryz.func11 rfl Tryz.ntmps11 rfl ?_
  refine XC.seq ?_
  refine XC.region ?_
  refine XS.op rfl rfl (XO.new (cs := [.int .i64 a.x, .int .i64 a.y, .int .i64 a.z]) (T := 24) s0 rfl (by decide) (fun _ => by kernel_rfl) (fun b1 w2 s2 ev2 kp2 ybb1 => ?_))
  refine XS.op rfl rfl (XO.new (cs := [.int .i64 b.x, .int .i64 b.y, .int .i64 b.z]) (T := 24) s2 rfl (by decide) (fun _ => by kernel_rfl) (fun b3 w4 s4 ev4 kp4 ybb3 => ?_))
  refine XS.vals' 1 [(4, .bool false)] (by kernel_rfl) ?_
  refine XS.done rfl (thn_norm ?_)
  refine XC.seq ?_
  refine XC.block ?_
  refine XC.seq ?_
  refine XC.region ?_
  refine XS.vals' 1 [(6, .pointer (some ⟨b1, 0, none⟩))] (by kernel_rfl) ?_
  refine XS.op rfl rfl (XO.loadS (i := 0) (v := .int .i64 a.x) (g := false) (m := 1) s4 rfl rfl rfl (by decide) rfl (by kernel_rfl) (by kernel_rfl) rfl rfl rfl ?_)
  refine XS.vals' 1 [(8, .pointer (some ⟨b3, 0, none⟩))] (by kernel_rfl) ?_
  refine XS.op rfl rfl (XO.loadS (i := 1) (v := .int .i64 b.x) (g := false) (m := 1) s4 rfl rfl rfl (by decide) rfl (by kernel_rfl) (by kernel_rfl) rfl rfl rfl ?_)
  refine XS.vals' 2 [(10, .bool (!decide (a.x = b.x))), (5, .bool (!decide (a.x = b.x)))] (by kernel_rfl) ?_
  refine XS.done rfl (thn_norm ?_)
  refine XC.cond_nd (a.x = b.x) rfl (fun hc5 => ?_) (fun hc5 => ?_)
  · skip
    refine XC.seq ?_
    refine XC.region ?_
    refine XS.vals' 1 [(11, .pointer (some ⟨b1, 0, none⟩))] (by kernel_rfl) ?_
    refine XS.op rfl rfl (XO.loadS (i := 0) (v := .int .i64 a.x) (g := false) (m := 1) s4 rfl rfl rfl (by decide) rfl (by kernel_rfl) (by kernel_rfl) rfl rfl rfl ?_)
    refine XS.vals' 1 [(13, .pointer (some ⟨b3, 0, none⟩))] (by kernel_rfl) ?_
    refine XS.op rfl rfl (XO.loadS (i := 1) (v := .int .i64 b.x) (g := false) (m := 1) s4 rfl rfl rfl (by decide) rfl (by kernel_rfl) (by kernel_rfl) rfl rfl rfl ?_)
    refine XS.vals' 2 [(15, .bool (decide (a.x < b.x))), (4, .bool (decide (a.x < b.x)))] (by kernel_rfl) ?_
    refine XS.done rfl (thn_norm ?_)
    refine XC.ret (inBlk_ret (thn_ret ?_))
    refine ⟨Or.inr rfl, .bool (decide (a.x < b.x)), fun a_ ha_ => results_t rfl ha_ rfl, s4.keep, ?_⟩
    refine congrArg Value.bool ?_
    rw [Bool.eq_iff_iff, ltP_iff]
    first | (simp only [decide_eq_true_eq]; omega) | (simp; omega)
  · skip
    refine XC.seq ?_
    refine XC.region ?_
    refine XS.vals' 1 [(17, .pointer (some ⟨b1, 1, none⟩))] (by kernel_rfl) ?_
    refine XS.op rfl rfl (XO.loadS (i := 0) (v := .int .i64 a.y) (g := false) (m := 1) s4 rfl rfl rfl (by decide) rfl (by kernel_rfl) (by kernel_rfl) rfl rfl rfl ?_)
    refine XS.vals' 1 [(19, .pointer (some ⟨b3, 1, none⟩))] (by kernel_rfl) ?_
    refine XS.op rfl rfl (XO.loadS (i := 1) (v := .int .i64 b.y) (g := false) (m := 1) s4 rfl rfl rfl (by decide) rfl (by kernel_rfl) (by kernel_rfl) rfl rfl rfl ?_)
    refine XS.vals' 2 [(21, .bool (!decide (a.y = b.y))), (16, .bool (!decide (a.y = b.y)))] (by kernel_rfl) ?_
    refine XS.done rfl (thn_norm ?_)
    refine XC.cond_nd (a.y = b.y) rfl (fun hc6 => ?_) (fun hc6 => ?_)
    · skip
      refine XC.seq ?_
      refine XC.region ?_
      refine XS.vals' 1 [(22, .pointer (some ⟨b1, 1, none⟩))] (by kernel_rfl) ?_
      refine XS.op rfl rfl (XO.loadS (i := 0) (v := .int .i64 a.y) (g := false) (m := 1) s4 rfl rfl rfl (by decide) rfl (by kernel_rfl) (by kernel_rfl) rfl rfl rfl ?_)
      refine XS.vals' 1 [(24, .pointer (some ⟨b3, 1, none⟩))] (by kernel_rfl) ?_
      refine XS.op rfl rfl (XO.loadS (i := 1) (v := .int .i64 b.y) (g := false) (m := 1) s4 rfl rfl rfl (by decide) rfl (by kernel_rfl) (by kernel_rfl) rfl rfl rfl ?_)
      refine XS.vals' 2 [(26, .bool (decide (a.y < b.y))), (4, .bool (decide (a.y < b.y)))] (by kernel_rfl) ?_
      refine XS.done rfl (thn_norm ?_)
      refine XC.ret (inBlk_ret (thn_ret ?_))
      refine ⟨Or.inr rfl, .bool (decide (a.y < b.y)), fun a_ ha_ => results_t rfl ha_ rfl, s4.keep, ?_⟩
      refine congrArg Value.bool ?_
      rw [Bool.eq_iff_iff, ltP_iff]
      first | (simp only [decide_eq_true_eq]; omega) | (simp; omega)
    · skip
      refine XC.skip (inBlk_norm (thn_norm ?_))
      refine XC.seq ?_
      refine XC.region ?_
      refine XS.vals' 1 [(27, .pointer (some ⟨b1, 2, none⟩))] (by kernel_rfl) ?_
      refine XS.op rfl rfl (XO.loadS (i := 0) (v := .int .i64 a.z) (g := false) (m := 1) s4 rfl rfl rfl (by decide) rfl (by kernel_rfl) (by kernel_rfl) rfl rfl rfl ?_)
      refine XS.vals' 1 [(29, .pointer (some ⟨b3, 2, none⟩))] (by kernel_rfl) ?_
      refine XS.op rfl rfl (XO.loadS (i := 1) (v := .int .i64 b.z) (g := false) (m := 1) s4 rfl rfl rfl (by decide) rfl (by kernel_rfl) (by kernel_rfl) rfl rfl rfl ?_)
      refine XS.vals' 2 [(31, .bool (decide (a.z < b.z))), (4, .bool (decide (a.z < b.z)))] (by kernel_rfl) ?_
      refine XS.done rfl (thn_norm ?_)
      refine XC.ret ?_
      refine ⟨Or.inr rfl, .bool (decide (a.z < b.z)), fun a_ ha_ => results_t rfl ha_ rfl, s4.keep, ?_⟩
      refine congrArg Value.bool ?_
      rw [Bool.eq_iff_iff, ltP_iff]
      first | (simp only [decide_eq_true_eq]; omega) | (simp; omega)

theorem carapaceref6_Check_ok (A : Nat → Prop) (w0 : World) (hA : ∀ b, w0.heap.size ≤ b → A b) (l : List Pt) (a_l : Option Addr) (c_l : Nat) (h_l : Sl tPt A w0 (.slice a_l l.length c_l) l)  : Cal Tryz.prog 16 [(.slice a_l l.length c_l)].toArray w0 (fun v w' => Keep none_ w0 w' ∧ v = .tuple #[(.int .i64 ((chk l).1)), (.int .i64 ((chk l).2))]) := by
  have s0 : Stt A w0 none_ [] w0 := Stt.start hA none_
  have h_l_ := h_l.mono Evo.start
  refine Cal.intro (n := 21) Tryz.func16 rfl Tryz.ntmps16 rfl ?_
  refine XC.seq ?_
  refine XC.region ?_
  refine XS.vals' 2 [(2, .int .i64 0), (3, .int .i64 0)] (by kernel_rfl) ?_
  refine XS.done rfl (thn_norm ?_)
  refine XC.seq ?_
  refine XC.seq ?_
  refine XC.region ?_
  refine XS.vals' 3 [(5, .slice a_l l.length c_l), (6, .int .i64 (l.length : Int)), (7, .bool (decide ((l.length : Int) > 512)))] (by kernel_rfl) ?_
  refine XS.done rfl (thn_norm ?_)
  refine XC.cond_d ((l.length : Int) > 512) rfl (fun hc1 => ?_) (fun hc1 => ?_)
  · skip
    refine XC.seq ?_
    refine XC.region ?_
    refine XS.vals' 2 [(2, .int .i64 90), (3, .int .i64 0)] (by kernel_rfl) ?_
    refine XS.done rfl (thn_norm ?_)
    refine XC.ret (thn_ret ?_)
    refine ⟨Or.inr rfl, .tuple #[(.int .i64 90), (.int .i64 0)], fun a_ ha_ => results_tt rfl ha_ rfl rfl, s0.keep, ?_⟩
    rw [chk_long (by assumption)]
  · skip
    refine XC.skip (thn_norm ?_)
    refine XC.seq ?_
    refine XC.seq ?_
    refine XC.region ?_
    refine XS.vals' 1 [(4, .int .i64 0)] (by kernel_rfl) ?_
    refine XS.done rfl (thn_norm ?_)
    refine XC.block ?_
    refine XC.loop (fun ρ_ w_ m_ => ∃ (i : Nat), Has ρ_ [(0, .slice a_l l.length c_l), (2, .int .i64 0), (3, .int .i64 0), (4, .int .i64 (i : Int))] ∧ Stt A w0 none_ [] w_ ∧ Evo (av A []) w0 (av A []) w_ ∧ (i ≤ l.length) ∧ (∀ y ∈ l.take i, y.ok) ∧ m_ = l.length - i) (l.length - 0) ?_ ?_
    · skip
      exact ⟨0, ⟨rfl, rfl, rfl, (congrArg (Value.int .i64) (by first | rfl | omega : (0 : Int) = _)), trivial⟩, s0, Evo.refl _ _, (by omega), (by simp), rfl⟩
    rintro _ ρw2 w2 ⟨i, hh2, s2, ev2, hi, hall, rfl⟩
    refine XC.rebase hh2 ?_
    refine XC.seq ?_
    refine XC.seq ?_
    refine XC.region ?_
    refine XS.vals' 4 [(8, .int .i64 (i : Int)), (9, .slice a_l l.length c_l), (10, .int .i64 (l.length : Int)), (11, .bool (decide ((i : Int) < (l.length : Int))))] (by kernel_rfl) ?_
    refine XS.done rfl (thn_norm ?_)
    refine XC.cond_d ((i : Int) < (l.length : Int)) rfl (fun hc3 => ?_) (fun hc3 => ?_)
    · skip
      refine XC.skip (thn_norm ?_)
      refine XC.seq ?_
      refine XC.block ?_
      refine XC.seq ?_
      refine XC.region ?_
      refine XS.vals' 2 [(14, .slice a_l l.length c_l), (15, .int .i64 (i : Int))] (by kernel_rfl) ?_
      obtain ⟨z4, hz4⟩ := get_some (xs := l) (i := i) (by (have hm_ := h_l_.elim; obtain ⟨_, _, _, _, hm_⟩ := hm_; omega))
      refine XS.op rfl rfl (XO.elem (i := i) (z := z4) (e := 24) (sz := 3) (h_l_.mono ev2) hz4 rfl rfl (by decide) rfl rfl (by omega) (by kernel_rfl) (by kernel_rfl) ?_)
      refine XS.op rfl rfl (XO.loadE (i := i) (f := 0) (sz := 3) (g := true) (z := z4) (h_l_.mono ev2) hz4 rfl rfl (by decide) rfl (by first | rfl | omega) (by kernel_rfl) (by kernel_rfl) rfl rfl (fun cs_ hcs_ => ?_))
      obtain rfl := hcs_
      refine XS.op rfl rfl (XO.callS (f := 31) (args := [(.agg #[.int .i64 z4.x, .int .i64 z4.y, .int .i64 z4.z])].toArray) s2 rfl (by decide) (fun _ => by kernel_rfl) (carapaceref2_Fit_ok (av A _) _ s2.av_fresh z4 ) (fun _ w5 s5 ev5 kp5 hv_ => ?_))
      obtain rfl := hv_
      refine XS.vals' 1 [(19, .bool (!decide (z4.ok)))] (by kernel_rfl) ?_
      refine XS.done rfl (thn_norm ?_)
      refine XC.cond_nd (z4.ok) rfl (fun hc6 => ?_) (fun hc6 => ?_)
      · skip
        refine XC.seq ?_
        refine XC.region ?_
        refine XS.vals' 3 [(20, .int .i64 (i : Int)), (2, .int .i64 20), (3, .int .i64 (i : Int))] (by kernel_rfl) ?_
        refine XS.done rfl (thn_norm ?_)
        refine XC.ret (inBlk_ret (thn_ret (thn_ret (inBlk_ret (thn_ret ?_)))))
        refine ⟨Or.inr rfl, .tuple #[(.int .i64 20), (.int .i64 (i : Int))], fun a_ ha_ => results_tt rfl ha_ rfl rfl, s5.keep, ?_⟩
        rw [chk_bad (by assumption) hz4 (by first | assumption | simpa using hc6) hall]
      · skip
        refine XC.skip (inBlk_norm (thn_norm ?_))
        refine XC.region ?_
        refine XS.vals' 1 [(12, .int .i64 (i : Int))] (by kernel_rfl) ?_
        refine XS.op rfl rfl (XO.arith (k := .i64) (r := (i : Int) + 1) rfl (by decide) (fun _ => by kernel_rfl) (wrap_i64 (by (have hm_ := h_l_.elim; obtain ⟨_, _, _, _, hm_⟩ := hm_; omega))) ?_)
        refine XS.vals' 1 [(4, .int .i64 ((i : Int) + 1))] (by kernel_rfl) ?_
        refine XS.done rfl (thn_norm ?_)
        refine ⟨l.length - (i + 1), ?_, ?_⟩
        · omega
        exact ⟨i + 1, ⟨rfl, rfl, rfl, (congrArg (Value.int .i64) (by first | rfl | omega : ((i : Int) + 1 : Int) = _)), trivial⟩, s5, (ev2.trans ev5), (by omega), (take_succ_all hz4 (by first | assumption | simpa using hc6) hall), rfl⟩
    · skip
      refine XC.exit (thn_exit (thn_exit (inBlk_hit (thn_norm ?_))))
      refine XC.seq ?_
      refine XC.region ?_
      refine XS.vals' 2 [(2, .int .i64 0), (3, .int .i64 0)] (by kernel_rfl) ?_
      refine XS.done rfl (thn_norm ?_)
      refine XC.ret ?_
      refine ⟨Or.inr rfl, .tuple #[(.int .i64 0), (.int .i64 0)], fun a_ ha_ => results_tt rfl ha_ rfl rfl, s2.keep, ?_⟩
      rw [chk_ok (by assumption) (fun y hy => hall y (by rw [List.take_of_length_le (by omega)]; exact hy))]

end Go.Proofs.Tryz
namespace Go.Proofs.Tryz
open Go Go.X Go.RowKit Go.Sort
set_option maxRecDepth 100000
set_option linter.unusedVariables false
theorem carapaceref1_Of_ok (A : Nat → Prop) (w0 : World) (hA : ∀ b, w0.heap.size ≤ b → A b) (n : Int) (h : -9223372036854775808 ≤ n ∧ n ≤ 9223372036854775807)  : Cal Tryz.prog 160 [(.int .i64 n)].toArray w0 (fun v w' => Keep none_ w0 w' ∧ v = .agg #[.int .u64 (hiU n), .int .u64 (loU n)]) := by
  have s0 : Stt A w0 none_ [] w0 := Stt.start hA none_
  refine Cal.intro (n := 11) Tryz.func160 rfl Tryz.ntmps160 rfl ?_
  refine XC.seq ?_
  refine XC.region ?_
  refine XS.op rfl rfl (XO.new (cs := [.int .u64 0, .int .u64 0]) (T := 142) s0 rfl (by decide) (fun _ => by kernel_rfl) (fun b1 w2 s2 ev2 kp2 ybb1 => ?_))
  refine XS.done rfl (thn_norm ?_)
  refine XC.seq ?_
  refine XC.seq ?_
  refine XC.region ?_
  refine XS.vals' 2 [(3, .int .i64 n), (4, .bool (decide (n < 0)))] (by kernel_rfl) ?_
  refine XS.done rfl (thn_norm ?_)
  refine XC.cond_d (n < 0) rfl (fun hc3 => ?_) (fun hc3 => ?_)
  · skip
    refine XC.seq ?_
    refine XC.region ?_
    refine XS.vals' 3 [(5, .int .i64 n), (6, .int .u64 (IntKind.u64.wrap n)), (7, .agg #[.int .u64 18446744073709551615, .int .u64 (IntKind.u64.wrap n)])] (by kernel_rfl) ?_
    refine XS.op rfl rfl (XO.storeS (i := 0) (v := .agg #[.int .u64 18446744073709551615, .int .u64 (IntKind.u64.wrap n)]) (m := 2) (cs' := [.int .u64 18446744073709551615, .int .u64 (IntKind.u64.wrap n)]) s2 rfl rfl rfl rfl rfl (by kernel_rfl) rfl rfl rfl rfl (fun w4 s4 ev4 kp4 => ?_))
    refine XS.done rfl (thn_norm ?_)
    refine XC.ret (thn_ret ?_)
    refine ⟨Or.inr rfl, .agg #[.int .u64 18446744073709551615, .int .u64 (IntKind.u64.wrap n)], fun a_ ha_ => results_c rfl (res_cell (b := b1) (cs := [.int .u64 18446744073709551615, .int .u64 (IntKind.u64.wrap n)]) (g := true) (sz := 2) (v := .agg #[.int .u64 18446744073709551615, .int .u64 (IntKind.u64.wrap n)]) ha_ rfl (s4.at_ (i := 0) rfl) (by kernel_rfl) (by kernel_rfl) rfl rfl rfl), s4.keep, ?_⟩
    first | (obtain ⟨e1, e2⟩ := ofU_neg (n := n) (by omega); rw [e1, e2]; done) | (obtain ⟨e1, e2⟩ := ofU_pos (n := n) (by omega); rw [e1, e2])
  · skip
    refine XC.skip (thn_norm ?_)
    refine XC.seq ?_
    refine XC.region ?_
    refine XS.vals' 3 [(8, .int .i64 n), (9, .int .u64 (IntKind.u64.wrap n)), (10, .agg #[.int .u64 0, .int .u64 (IntKind.u64.wrap n)])] (by kernel_rfl) ?_
    refine XS.op rfl rfl (XO.storeS (i := 0) (v := .agg #[.int .u64 0, .int .u64 (IntKind.u64.wrap n)]) (m := 2) (cs' := [.int .u64 0, .int .u64 (IntKind.u64.wrap n)]) s2 rfl rfl rfl rfl rfl (by kernel_rfl) rfl rfl rfl rfl (fun w5 s5 ev5 kp5 => ?_))
    refine XS.done rfl (thn_norm ?_)
    refine XC.ret ?_
    refine ⟨Or.inr rfl, .agg #[.int .u64 0, .int .u64 (IntKind.u64.wrap n)], fun a_ ha_ => results_c rfl (res_cell (b := b1) (cs := [.int .u64 0, .int .u64 (IntKind.u64.wrap n)]) (g := true) (sz := 2) (v := .agg #[.int .u64 0, .int .u64 (IntKind.u64.wrap n)]) ha_ rfl (s5.at_ (i := 0) rfl) (by kernel_rfl) (by kernel_rfl) rfl rfl rfl), s5.keep, ?_⟩
    first | (obtain ⟨e1, e2⟩ := ofU_neg (n := n) (by omega); rw [e1, e2]; done) | (obtain ⟨e1, e2⟩ := ofU_pos (n := n) (by omega); rw [e1, e2])

theorem carapaceref1_Add_ok (A : Nat → Prop) (w0 : World) (hA : ∀ b, w0.heap.size ≤ b → A b) (x : Int) (y : Int)  : Cal Tryz.prog 163 [(.agg #[.int .u64 (hiU x), .int .u64 (loU x)]), (.agg #[.int .u64 (hiU y), .int .u64 (loU y)])].toArray w0 (fun v w' => Keep none_ w0 w' ∧ v = .agg #[.int .u64 (hiU (x + y)), .int .u64 (loU (x + y))]) := by
  have s0 : Stt A w0 none_ [] w0 := Stt.start hA none_
  refine Cal.intro (n := 26) Tryz.func163 rfl Tryz.ntmps163 rfl ?_
  refine XC.seq ?_
  refine XC.region ?_
  refine XS.op rfl rfl (XO.new (cs := [.int .u64 (hiU x), .int .u64 (loU x)]) (T := 142) s0 rfl (by decide) (fun _ => by kernel_rfl) (fun b1 w2 s2 ev2 kp2 ybb1 => ?_))
  refine XS.op rfl rfl (XO.new (cs := [.int .u64 (hiU y), .int .u64 (loU y)]) (T := 142) s2 rfl (by decide) (fun _ => by kernel_rfl) (fun b3 w4 s4 ev4 kp4 ybb3 => ?_))
  refine XS.op rfl rfl (XO.new (cs := [.int .u64 0, .int .u64 0]) (T := 142) s4 rfl (by decide) (fun _ => by kernel_rfl) (fun b5 w6 s6 ev6 kp6 ybb5 => ?_))
  refine XS.done rfl (thn_norm ?_)
  refine XC.seq ?_
  refine XC.region ?_
  refine XS.vals' 1 [(7, .pointer (some ⟨b1, 1, none⟩))] (by kernel_rfl) ?_
  refine XS.op rfl rfl (XO.loadS (i := 0) (v := .int .u64 (loU x)) (g := false) (m := 1) s6 rfl rfl rfl (by decide) rfl (by kernel_rfl) (by kernel_rfl) rfl rfl rfl ?_)
  refine XS.vals' 1 [(9, .pointer (some ⟨b3, 1, none⟩))] (by kernel_rfl) ?_
  refine XS.op rfl rfl (XO.loadS (i := 1) (v := .int .u64 (loU y)) (g := false) (m := 1) s6 rfl rfl rfl (by decide) rfl (by kernel_rfl) (by kernel_rfl) rfl rfl rfl ?_)
  refine XS.vals' 2 [(11, .int .u64 (IntKind.u64.wrap ((loU x) + (loU y)))), (5, .int .u64 (IntKind.u64.wrap ((loU x) + (loU y))))] (by kernel_rfl) ?_
  refine XS.done rfl (thn_norm ?_)
  refine XC.seq ?_
  refine XC.region ?_
  refine XS.vals' 1 [(12, .pointer (some ⟨b1, 0, none⟩))] (by kernel_rfl) ?_
  refine XS.op rfl rfl (XO.loadS (i := 0) (v := .int .u64 (hiU x)) (g := false) (m := 1) s6 rfl rfl rfl (by decide) rfl (by kernel_rfl) (by kernel_rfl) rfl rfl rfl ?_)
  refine XS.vals' 1 [(14, .pointer (some ⟨b3, 0, none⟩))] (by kernel_rfl) ?_
  refine XS.op rfl rfl (XO.loadS (i := 1) (v := .int .u64 (hiU y)) (g := false) (m := 1) s6 rfl rfl rfl (by decide) rfl (by kernel_rfl) (by kernel_rfl) rfl rfl rfl ?_)
  refine XS.vals' 2 [(16, .int .u64 (IntKind.u64.wrap ((hiU x) + (hiU y)))), (6, .int .u64 (IntKind.u64.wrap ((hiU x) + (hiU y))))] (by kernel_rfl) ?_
  refine XS.done rfl (thn_norm ?_)
  refine XC.seq ?_
  refine XC.seq ?_
  refine XC.region ?_
  refine XS.vals' 2 [(17, .int .u64 (IntKind.u64.wrap ((loU x) + (loU y)))), (18, .pointer (some ⟨b1, 1, none⟩))] (by kernel_rfl) ?_
  refine XS.op rfl rfl (XO.loadS (i := 0) (v := .int .u64 (loU x)) (g := false) (m := 1) s6 rfl rfl rfl (by decide) rfl (by kernel_rfl) (by kernel_rfl) rfl rfl rfl ?_)
  refine XS.vals' 1 [(20, .bool (decide ((IntKind.u64.wrap ((loU x) + (loU y))) < (loU x))))] (by kernel_rfl) ?_
  refine XS.done rfl (thn_norm ?_)
  refine XC.cond_d ((IntKind.u64.wrap ((loU x) + (loU y))) < (loU x)) rfl (fun hc7 => ?_) (fun hc7 => ?_)
  · skip
    refine XC.region ?_
    refine XS.vals' 3 [(21, .int .u64 (IntKind.u64.wrap ((hiU x) + (hiU y)))), (22, .int .u64 (IntKind.u64.wrap ((IntKind.u64.wrap ((hiU x) + (hiU y))) + 1))), (6, .int .u64 (IntKind.u64.wrap ((IntKind.u64.wrap ((hiU x) + (hiU y))) + 1)))] (by kernel_rfl) ?_
    refine XS.done rfl (thn_norm ?_)
    refine XC.seq ?_
    refine XC.region ?_
    refine XS.vals' 3 [(23, .int .u64 (IntKind.u64.wrap ((IntKind.u64.wrap ((hiU x) + (hiU y))) + 1))), (24, .int .u64 (IntKind.u64.wrap ((loU x) + (loU y)))), (25, .agg #[.int .u64 (IntKind.u64.wrap ((IntKind.u64.wrap ((hiU x) + (hiU y))) + 1)), .int .u64 (IntKind.u64.wrap ((loU x) + (loU y)))])] (by kernel_rfl) ?_
    refine XS.op rfl rfl (XO.storeS (i := 2) (v := .agg #[.int .u64 (IntKind.u64.wrap ((IntKind.u64.wrap ((hiU x) + (hiU y))) + 1)), .int .u64 (IntKind.u64.wrap ((loU x) + (loU y)))]) (m := 2) (cs' := [.int .u64 (IntKind.u64.wrap ((IntKind.u64.wrap ((hiU x) + (hiU y))) + 1)), .int .u64 (IntKind.u64.wrap ((loU x) + (loU y)))]) s6 rfl rfl rfl rfl rfl (by kernel_rfl) rfl rfl rfl rfl (fun w8 s8 ev8 kp8 => ?_))
    refine XS.done rfl (thn_norm ?_)
    refine XC.ret ?_
    refine ⟨Or.inr rfl, .agg #[.int .u64 (IntKind.u64.wrap ((IntKind.u64.wrap ((hiU x) + (hiU y))) + 1)), .int .u64 (IntKind.u64.wrap ((loU x) + (loU y)))], fun a_ ha_ => results_c rfl (res_cell (b := b5) (cs := [.int .u64 (IntKind.u64.wrap ((IntKind.u64.wrap ((hiU x) + (hiU y))) + 1)), .int .u64 (IntKind.u64.wrap ((loU x) + (loU y)))]) (g := true) (sz := 2) (v := .agg #[.int .u64 (IntKind.u64.wrap ((IntKind.u64.wrap ((hiU x) + (hiU y))) + 1)), .int .u64 (IntKind.u64.wrap ((loU x) + (loU y)))]) ha_ rfl (s8.at_ (i := 2) rfl) (by kernel_rfl) (by kernel_rfl) rfl rfl rfl), s8.keep, ?_⟩
    have hh_ := hc7
    rw [loU_add] at hh_
    rw [loU_add]
    first | rw [hiU_add_c x y hh_] | rw [hiU_add_n x y hh_]
  · skip
    refine XC.skip (thn_norm ?_)
    refine XC.seq ?_
    refine XC.region ?_
    refine XS.vals' 3 [(23, .int .u64 (IntKind.u64.wrap ((hiU x) + (hiU y)))), (24, .int .u64 (IntKind.u64.wrap ((loU x) + (loU y)))), (25, .agg #[.int .u64 (IntKind.u64.wrap ((hiU x) + (hiU y))), .int .u64 (IntKind.u64.wrap ((loU x) + (loU y)))])] (by kernel_rfl) ?_
    refine XS.op rfl rfl (XO.storeS (i := 2) (v := .agg #[.int .u64 (IntKind.u64.wrap ((hiU x) + (hiU y))), .int .u64 (IntKind.u64.wrap ((loU x) + (loU y)))]) (m := 2) (cs' := [.int .u64 (IntKind.u64.wrap ((hiU x) + (hiU y))), .int .u64 (IntKind.u64.wrap ((loU x) + (loU y)))]) s6 rfl rfl rfl rfl rfl (by kernel_rfl) rfl rfl rfl rfl (fun w9 s9 ev9 kp9 => ?_))
    refine XS.done rfl (thn_norm ?_)
    refine XC.ret ?_
    refine ⟨Or.inr rfl, .agg #[.int .u64 (IntKind.u64.wrap ((hiU x) + (hiU y))), .int .u64 (IntKind.u64.wrap ((loU x) + (loU y)))], fun a_ ha_ => results_c rfl (res_cell (b := b5) (cs := [.int .u64 (IntKind.u64.wrap ((hiU x) + (hiU y))), .int .u64 (IntKind.u64.wrap ((loU x) + (loU y)))]) (g := true) (sz := 2) (v := .agg #[.int .u64 (IntKind.u64.wrap ((hiU x) + (hiU y))), .int .u64 (IntKind.u64.wrap ((loU x) + (loU y)))]) ha_ rfl (s9.at_ (i := 2) rfl) (by kernel_rfl) (by kernel_rfl) rfl rfl rfl), s9.keep, ?_⟩
    have hh_ := hc7
    rw [loU_add] at hh_
    rw [loU_add]
    first | rw [hiU_add_c x y hh_] | rw [hiU_add_n x y hh_]

end Go.Proofs.Tryz
