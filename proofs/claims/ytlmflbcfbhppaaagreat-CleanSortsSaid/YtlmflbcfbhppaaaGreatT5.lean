/- Contracts of functions of the program. -/
import Derived.Test.YtlmflbcfbhppaaaGreatT4
import Derived.Test.YtlmflbcfbhppaaaGreatProg
set_option linter.all false
set_option linter.unusedVariables false
set_option linter.unusedSimpArgs false
set_option linter.unusedSectionVars false
namespace Go.Proofs.Tryz
open Go Go.X Go.RowKit Go.Sort
set_option maxRecDepth 100000
set_option maxHeartbeats 2000000
set_option linter.unusedVariables false
theorem carapaceref15_off_ok (A : Nat → Prop) (w0 : World) (hA : ∀ b, w0.heap.size ≤ b → A b) (l : List Pt) (a_l : Option Addr) (c_l : Nat) (h_l : Sl tPt A w0 (.slice a_l l.length c_l) l) (hok : ∀ p ∈ l, p.ok)  : Cal Tryz.prog 32 [(.slice a_l l.length c_l)].toArray w0 (fun v w' => Keep none_ w0 w' ∧ v = .int .i64 (offI l)) := by
  have s0 : Stt A w0 none_ [] w0 := Stt.start hA none_
  have h_l_ := h_l.mono Evo.start
  refine Cal.intro (n := 26) Tryz.func32 rfl Tryz.ntmps32 rfl ?_
  refine XC.seq ?_
  refine XC.region ?_
  refine XS.vals' 1 [(2, .int .i64 0)] (by kernel_rfl) ?_
  refine XS.done rfl (thn_norm ?_)
  refine XC.seq ?_
  refine XC.seq ?_
  refine XC.region ?_
  refine XS.vals' 1 [(3, .int .i64 0)] (by kernel_rfl) ?_
  refine XS.done rfl (thn_norm ?_)
  refine XC.block ?_
  refine XC.loop (fun ρ_ w_ m_ => ∃ (i : Nat), Has ρ_ [(0, .slice a_l l.length c_l), (2, .int .i64 0), (3, .int .i64 (i : Int))] ∧ Stt A w0 none_ [] w_ ∧ Evo (av A []) w0 (av A []) w_ ∧ (i ≤ l.length) ∧ (∀ y ∈ l.take i, lineOn (l.headD z0) (l.getLastD z0) y) ∧ m_ = l.length - i) (l.length - 0) ?_ ?_
  · skip
    exact ⟨0, ⟨rfl, rfl, (congrArg (Value.int .i64) (by first | rfl | omega : (0 : Int) = _)), trivial⟩, s0, Evo.refl _ _, (by omega), (by simp), rfl⟩
  rintro _ ρw1 w1 ⟨i, hh1, s1, ev1, hi, hall, rfl⟩
  refine XC.rebase hh1 ?_
  refine XC.seq ?_
  refine XC.seq ?_
  refine XC.region ?_
  refine XS.vals' 4 [(4, .int .i64 (i : Int)), (5, .slice a_l l.length c_l), (6, .int .i64 (l.length : Int)), (7, .bool (decide ((i : Int) < (l.length : Int))))] (by kernel_rfl) ?_
  refine XS.done rfl (thn_norm ?_)
  refine XC.cond_d ((i : Int) < (l.length : Int)) rfl (fun hc2 => ?_) (fun hc2 => ?_)
  · skip
    refine XC.skip (thn_norm ?_)
    refine XC.seq ?_
    refine XC.block ?_
    refine XC.seq ?_
    refine XC.drawS 15 rfl (fun _ => False) 15 (by kernel_rfl) s1 (fun w3 s3 ev3 kp3 hH4 => ?_)
    refine XA.valD 0 10 (.slice a_l l.length c_l) rfl (by kernel_rfl) (by kernel_rfl) (by kernel_rfl) rfl (by kernel_rfl) rfl hH4 (fun hH5 => ?_)
    obtain ⟨z7, hz7⟩ := get_some (xs := l) (i := 0) (by (have hm_ := h_l_.elim; obtain ⟨_, _, _, _, hm_⟩ := hm_; omega))
    refine XA.elemD (p := 1) (i := 0) (z := z7) (e := 24) (sz := 3) (h_l_.mono (ev1.trans ev3)) hz7 rfl (by kernel_rfl) (by kernel_rfl) (by kernel_rfl) rfl (by kernel_rfl) rfl rfl (by decide) rfl rfl (by omega) (by kernel_rfl) (by kernel_rfl) hH5 (fun hH6 => ?_)
    refine XA.loadD (p := 2) (i := 0) (f := 0) (sz := 3) (g := true) (z := z7) (h_l_.mono (ev1.trans ev3)) hz7 (fun _ _ h => h) rfl (by kernel_rfl) (by kernel_rfl) (by kernel_rfl) rfl (by kernel_rfl) rfl rfl (by decide) hH6 rfl (by first | rfl | omega) (by kernel_rfl) (by kernel_rfl) rfl rfl rfl (fun cs_ hcs_ hH8 => ?_)
    obtain rfl := hcs_
    refine XA.valD 3 13 (.slice a_l l.length c_l) rfl (by kernel_rfl) (by kernel_rfl) (by kernel_rfl) rfl (by kernel_rfl) rfl hH8 (fun hH9 => ?_)
    refine XA.valD 4 14 (.slice a_l l.length c_l) rfl (by kernel_rfl) (by kernel_rfl) (by kernel_rfl) rfl (by kernel_rfl) rfl hH9 (fun hH10 => ?_)
    refine XA.valD 5 15 (.int .i64 (l.length : Int)) rfl (by kernel_rfl) (by kernel_rfl) (by kernel_rfl) rfl (by kernel_rfl) rfl hH10 (fun hH11 => ?_)
    refine XA.arith (p := 6) (k := .i64) (r := (l.length : Int) - 1) rfl (by kernel_rfl) (by kernel_rfl) (by kernel_rfl) rfl (by kernel_rfl) rfl (by decide) (fun _ => by kernel_rfl) (wrap_i64 (by (have hm_ := h_l_.elim; obtain ⟨_, _, _, _, hm_⟩ := hm_; omega))) hH11 (fun hH12 => ?_)
    obtain ⟨z14, hz14⟩ := get_some (xs := l) (i := l.length - 1) (by (have hm_ := h_l_.elim; obtain ⟨_, _, _, _, hm_⟩ := hm_; omega))
    refine XA.elemD (p := 7) (i := (l.length - 1)) (z := z14) (e := 24) (sz := 3) (h_l_.mono (ev1.trans ev3)) hz14 rfl (by kernel_rfl) (by kernel_rfl) (by kernel_rfl) rfl (by kernel_rfl) rfl rfl (by decide) rfl rfl (by omega) (by kernel_rfl) (by kernel_rfl) hH12 (fun hH13 => ?_)
    refine XA.loadD (p := 8) (i := (l.length - 1)) (f := 0) (sz := 3) (g := true) (z := z14) (h_l_.mono (ev1.trans ev3)) hz14 (fun _ _ h => h) rfl (by kernel_rfl) (by kernel_rfl) (by kernel_rfl) rfl (by kernel_rfl) rfl rfl (by decide) hH13 rfl (by first | rfl | omega) (by kernel_rfl) (by kernel_rfl) rfl rfl rfl (fun cs_ hcs_ hH15 => ?_)
    obtain rfl := hcs_
    refine XA.valD 9 19 (.slice a_l l.length c_l) rfl (by kernel_rfl) (by kernel_rfl) (by kernel_rfl) rfl (by kernel_rfl) rfl hH15 (fun hH16 => ?_)
    refine XA.valD 10 20 (.int .i64 (i : Int)) rfl (by kernel_rfl) (by kernel_rfl) (by kernel_rfl) rfl (by kernel_rfl) rfl hH16 (fun hH17 => ?_)
    obtain ⟨z19, hz19⟩ := get_some (xs := l) (i := i) (by (have hm_ := h_l_.elim; obtain ⟨_, _, _, _, hm_⟩ := hm_; omega))
    refine XA.elemD (p := 11) (i := i) (z := z19) (e := 24) (sz := 3) (h_l_.mono (ev1.trans ev3)) hz19 rfl (by kernel_rfl) (by kernel_rfl) (by kernel_rfl) rfl (by kernel_rfl) rfl rfl (by decide) rfl rfl (by omega) (by kernel_rfl) (by kernel_rfl) hH17 (fun hH18 => ?_)
    refine XA.loadD (p := 12) (i := i) (f := 0) (sz := 3) (g := true) (z := z19) (h_l_.mono (ev1.trans ev3)) hz19 (fun _ _ h => h) rfl (by kernel_rfl) (by kernel_rfl) (by kernel_rfl) rfl (by kernel_rfl) rfl rfl (by decide) hH18 rfl (by first | rfl | omega) (by kernel_rfl) (by kernel_rfl) rfl rfl rfl (fun cs_ hcs_ hH20 => ?_)
    obtain rfl := hcs_
    refine XA.op (i := 13) rfl (by kernel_rfl) (by kernel_rfl) (XO.callS (f := 58) (args := [(.agg #[.int .i64 z7.x, .int .i64 z7.y, .int .i64 z7.z]), (.agg #[.int .i64 z14.x, .int .i64 z14.y, .int .i64 z14.z]), (.agg #[.int .i64 z19.x, .int .i64 z19.y, .int .i64 z19.z])].toArray) s3 rfl (by decide) (fun _ => by kernel_rfl) (carapaceref2_Straight_ok (av A _) _ s3.av_fresh z7 z14 z19 (by first | assumption | exact hok _ (List.mem_of_getElem? (by assumption))) (by first | assumption | exact hok _ (List.mem_of_getElem? (by assumption))) (by first | assumption | exact hok _ (List.mem_of_getElem? (by assumption)))) (fun _ w21 s21 ev21 kp21 hv_ => ?_))
    obtain rfl := hv_
    have hH22 := hH20.keep (i := 13) kp21 rfl
    refine ⟨hH22, ?_⟩
    refine XA.valD 14 24 (.bool (!decide (lineOn z7 z14 z19))) rfl (by kernel_rfl) (by kernel_rfl) (by kernel_rfl) rfl (by kernel_rfl) rfl hH22 (fun hH23 => ?_)
    refine XA.done (by kernel_rfl) (thn_norm ?_)
    refine XC.cond_nd (lineOn z7 z14 z19) rfl (fun hc24 => ?_) (fun hc24 => ?_)
    · skip
      refine XC.seq ?_
      refine XC.region ?_
      refine XS.vals' 2 [(25, .int .i64 (i : Int)), (2, .int .i64 (i : Int))] (by kernel_rfl) ?_
      refine XS.done rfl (thn_norm ?_)
      refine XC.ret (inBlk_ret (thn_ret (thn_ret (inBlk_ret (thn_ret ?_)))))
      refine ⟨Or.inr rfl, .int .i64 (i : Int), fun a_ ha_ => results_t rfl ha_ rfl, s21.keep, ?_⟩
      refine congrArg (Value.int .i64) ?_
      symm; exact off_hit hz7 hz14 hz19 hc24 hall
    · skip
      refine XC.skip (inBlk_norm (thn_norm ?_))
      refine XC.region ?_
      refine XS.vals' 1 [(8, .int .i64 (i : Int))] (by kernel_rfl) ?_
      refine XS.op rfl rfl (XO.arith (k := .i64) (r := (i : Int) + 1) rfl (by decide) (fun _ => by kernel_rfl) (wrap_i64 (by (have hm_ := h_l_.elim; obtain ⟨_, _, _, _, hm_⟩ := hm_; omega))) ?_)
      refine XS.vals' 1 [(3, .int .i64 ((i : Int) + 1))] (by kernel_rfl) ?_
      refine XS.done rfl (thn_norm ?_)
      refine ⟨l.length - (i + 1), ?_, ?_⟩
      · omega
      exact ⟨i + 1, ⟨rfl, rfl, (congrArg (Value.int .i64) (by first | rfl | omega : ((i : Int) + 1 : Int) = _)), trivial⟩, s21, (ev1.trans (ev3.trans ev21)), (by omega), (take_succ_all hz19 (by rw [headD_of hz7, lastD_of hz14]; exact hc24) hall), rfl⟩
  · skip
    refine XC.exit (thn_exit (thn_exit (inBlk_hit (thn_norm ?_))))
    refine XC.seq ?_
    refine XC.region ?_
    refine XS.vals' 1 [(2, .int .i64 (-1))] (by kernel_rfl) ?_
    refine XS.done rfl (thn_norm ?_)
    refine XC.ret ?_
    refine ⟨Or.inr rfl, .int .i64 (-1), fun a_ ha_ => results_t rfl ha_ rfl, s1.keep, ?_⟩
    refine congrArg (Value.int .i64) ?_
    symm; exact off_none (fun y hy => hall y (by rw [List.take_of_length_le (by omega)]; exact hy))

end Go.Proofs.Tryz
namespace Go.Proofs.Tryz
open Go Go.X Go.RowKit Go.Sort
set_option maxRecDepth 100000
set_option maxHeartbeats 2000000
set_option linter.unusedVariables false
theorem carapaceref15_away_ok (A : Nat → Prop) (w0 : World) (hA : ∀ b, w0.heap.size ≤ b → A b) (l : List Pt) (a_l : Option Addr) (c_l : Nat) (h_l : Sl tPt A w0 (.slice a_l l.length c_l) l) (a : Pt) (b : Pt) (c : Pt) (hok : ∀ p ∈ l, p.ok) (ha : a.ok) (hb : b.ok) (hc : c.ok)  : Cal Tryz.prog 33 [(.slice a_l l.length c_l), (.agg #[.int .i64 a.x, .int .i64 a.y, .int .i64 a.z]), (.agg #[.int .i64 b.x, .int .i64 b.y, .int .i64 b.z]), (.agg #[.int .i64 c.x, .int .i64 c.y, .int .i64 c.z])].toArray w0 (fun v w' => Keep none_ w0 w' ∧ v = .tuple #[(.agg #[.int .i64 ((awayP l a b c).x), .int .i64 ((awayP l a b c).y), .int .i64 ((awayP l a b c).z)]), (.bool (awayB l a b c))]) := by
  have s0 : Stt A w0 none_ [] w0 := Stt.start hA none_
  have h_l_ := h_l.mono Evo.start
  refine Cal.intro (n := 31) Tryz.func33 rfl Tryz.ntmps33 rfl ?_
  refine XC.seq ?_
  refine XC.region ?_
  refine XS.op rfl rfl (XO.new (cs := [.int .i64 a.x, .int .i64 a.y, .int .i64 a.z]) (T := 24) s0 rfl (by decide) (fun _ => by kernel_rfl) (fun b1 w2 s2 ev2 kp2 ybb1 => ?_))
  refine XS.op rfl rfl (XO.new (cs := [.int .i64 b.x, .int .i64 b.y, .int .i64 b.z]) (T := 24) s2 rfl (by decide) (fun _ => by kernel_rfl) (fun b3 w4 s4 ev4 kp4 ybb3 => ?_))
  refine XS.op rfl rfl (XO.new (cs := [.int .i64 c.x, .int .i64 c.y, .int .i64 c.z]) (T := 24) s4 rfl (by decide) (fun _ => by kernel_rfl) (fun b5 w6 s6 ev6 kp6 ybb5 => ?_))
  refine XS.op rfl rfl (XO.new (cs := [.int .i64 0, .int .i64 0, .int .i64 0]) (T := 24) s6 rfl (by decide) (fun _ => by kernel_rfl) (fun b7 w8 s8 ev8 kp8 ybb7 => ?_))
  refine XS.vals' 1 [(9, .bool false)] (by kernel_rfl) ?_
  refine XS.done rfl (thn_norm ?_)
  refine XC.seq ?_
  refine XC.seq ?_
  refine XC.region ?_
  refine XS.vals' 1 [(10, .int .i64 0)] (by kernel_rfl) ?_
  refine XS.done rfl (thn_norm ?_)
  refine XC.block ?_
  refine XC.loop (fun ρ_ w_ m_ => ∃ (i : Nat), Has ρ_ [(0, .slice a_l l.length c_l), (5, .pointer (some ⟨b1, 0, none⟩)), (6, .pointer (some ⟨b3, 0, none⟩)), (7, .pointer (some ⟨b5, 0, none⟩)), (8, .pointer (some ⟨b7, 0, none⟩)), (9, .bool false), (10, .int .i64 (i : Int))] ∧ Stt A w0 none_ [cellsA b1 [.int .i64 a.x, .int .i64 a.y, .int .i64 a.z] 24, cellsA b3 [.int .i64 b.x, .int .i64 b.y, .int .i64 b.z] 24, cellsA b5 [.int .i64 c.x, .int .i64 c.y, .int .i64 c.z] 24, cellsA b7 [.int .i64 0, .int .i64 0, .int .i64 0] 24] w_ ∧ Evo (av A [cellsA b1 [.int .i64 a.x, .int .i64 a.y, .int .i64 a.z] 24, cellsA b3 [.int .i64 b.x, .int .i64 b.y, .int .i64 b.z] 24, cellsA b5 [.int .i64 c.x, .int .i64 c.y, .int .i64 c.z] 24, cellsA b7 [.int .i64 0, .int .i64 0, .int .i64 0] 24]) w8 (av A [cellsA b1 [.int .i64 a.x, .int .i64 a.y, .int .i64 a.z] 24, cellsA b3 [.int .i64 b.x, .int .i64 b.y, .int .i64 b.z] 24, cellsA b5 [.int .i64 c.x, .int .i64 c.y, .int .i64 c.z] 24, cellsA b7 [.int .i64 0, .int .i64 0, .int .i64 0] 24]) w_ ∧ (i ≤ l.length) ∧ (∀ y ∈ l.take i, det4 a b c y = 0) ∧ m_ = l.length - i) (l.length - 0) ?_ ?_
  · skip
    exact ⟨0, ⟨rfl, rfl, rfl, rfl, rfl, rfl, (congrArg (Value.int .i64) (by first | rfl | omega : (0 : Int) = _)), trivial⟩, s8, Evo.refl _ _, (by omega), (by simp), rfl⟩
  rintro _ ρw9 w9 ⟨i, hh9, s9, ev9, hi, hall, rfl⟩
  refine XC.rebase hh9 ?_
  refine XC.seq ?_
  refine XC.seq ?_
  refine XC.region ?_
  refine XS.vals' 4 [(11, .int .i64 (i : Int)), (12, .slice a_l l.length c_l), (13, .int .i64 (l.length : Int)), (14, .bool (decide ((i : Int) < (l.length : Int))))] (by kernel_rfl) ?_
  refine XS.done rfl (thn_norm ?_)
  refine XC.cond_d ((i : Int) < (l.length : Int)) rfl (fun hc10 => ?_) (fun hc10 => ?_)
  · skip
    refine XC.skip (thn_norm ?_)
    refine XC.seq ?_
    refine XC.block ?_
    refine XC.seq ?_
    refine XC.drawS 9 rfl (fun _ => False) 9 (by kernel_rfl) s9 (fun w11 s11 ev11 kp11 hH12 => ?_)
    refine XA.loadS false (j := 0) (i := 0) (v := .agg #[.int .i64 a.x, .int .i64 a.y, .int .i64 a.z]) (g := true) (m := 3) s11 rfl rfl (by kernel_rfl) (by kernel_rfl) (by kernel_rfl) rfl (by kernel_rfl) (fun _ h => h) (by kernel_rfl) rfl rfl (by decide) hH12 rfl (by kernel_rfl) (by kernel_rfl) rfl rfl rfl (fun hH13 => ?_)
    refine XA.loadS false (j := 1) (i := 1) (v := .agg #[.int .i64 b.x, .int .i64 b.y, .int .i64 b.z]) (g := true) (m := 3) s11 rfl rfl (by kernel_rfl) (by kernel_rfl) (by kernel_rfl) rfl (by kernel_rfl) (fun _ h => h) (by kernel_rfl) rfl rfl (by decide) hH13 rfl (by kernel_rfl) (by kernel_rfl) rfl rfl rfl (fun hH14 => ?_)
    refine XA.loadS false (j := 2) (i := 2) (v := .agg #[.int .i64 c.x, .int .i64 c.y, .int .i64 c.z]) (g := true) (m := 3) s11 rfl rfl (by kernel_rfl) (by kernel_rfl) (by kernel_rfl) rfl (by kernel_rfl) (fun _ h => h) (by kernel_rfl) rfl rfl (by decide) hH14 rfl (by kernel_rfl) (by kernel_rfl) rfl rfl rfl (fun hH15 => ?_)
    refine XA.valD 3 20 (.slice a_l l.length c_l) rfl (by kernel_rfl) (by kernel_rfl) (by kernel_rfl) rfl (by kernel_rfl) rfl hH15 (fun hH16 => ?_)
    refine XA.valD 4 21 (.int .i64 (i : Int)) rfl (by kernel_rfl) (by kernel_rfl) (by kernel_rfl) rfl (by kernel_rfl) rfl hH16 (fun hH17 => ?_)
    obtain ⟨z19, hz19⟩ := get_some (xs := l) (i := i) (by (have hm_ := h_l_.elim; obtain ⟨_, _, _, _, hm_⟩ := hm_; omega))
    refine XA.elemD (p := 5) (i := i) (z := z19) (e := 24) (sz := 3) (h_l_.mono (ev2.trans (ev4.trans (ev6.trans (ev8.trans (ev9.trans ev11)))))) hz19 rfl (by kernel_rfl) (by kernel_rfl) (by kernel_rfl) rfl (by kernel_rfl) rfl rfl (by decide) rfl rfl (by omega) (by kernel_rfl) (by kernel_rfl) hH17 (fun hH18 => ?_)
    refine XA.loadD (p := 6) (i := i) (f := 0) (sz := 3) (g := true) (z := z19) (h_l_.mono (ev2.trans (ev4.trans (ev6.trans (ev8.trans (ev9.trans ev11)))))) hz19 (fun _ _ h => h) rfl (by kernel_rfl) (by kernel_rfl) (by kernel_rfl) rfl (by kernel_rfl) rfl rfl (by decide) hH18 rfl (by first | rfl | omega) (by kernel_rfl) (by kernel_rfl) rfl rfl rfl (fun cs_ hcs_ hH20 => ?_)
    obtain rfl := hcs_
    refine XA.op (i := 7) rfl (by kernel_rfl) (by kernel_rfl) (XO.callS (f := 59) (args := [(.agg #[.int .i64 a.x, .int .i64 a.y, .int .i64 a.z]), (.agg #[.int .i64 b.x, .int .i64 b.y, .int .i64 b.z]), (.agg #[.int .i64 c.x, .int .i64 c.y, .int .i64 c.z]), (.agg #[.int .i64 z19.x, .int .i64 z19.y, .int .i64 z19.z])].toArray) s11 rfl (by decide) (fun _ => by kernel_rfl) (carapaceref2_Side_ok (av A _) _ s11.av_fresh a b c z19 (by first | assumption | exact hok _ (List.mem_of_getElem? (by assumption))) (by first | assumption | exact hok _ (List.mem_of_getElem? (by assumption))) (by first | assumption | exact hok _ (List.mem_of_getElem? (by assumption))) (by first | assumption | exact hok _ (List.mem_of_getElem? (by assumption)))) (fun _ w21 s21 ev21 kp21 hv_ => ?_))
    obtain rfl := hv_
    have hH22 := hH20.keep (i := 7) kp21 rfl
    refine ⟨hH22, ?_⟩
    refine XA.valD 8 25 (.bool (!decide ((sgnU (det4 a b c z19)) = 0))) rfl (by kernel_rfl) (by kernel_rfl) (by kernel_rfl) rfl (by kernel_rfl) rfl hH22 (fun hH23 => ?_)
    refine XA.done (by kernel_rfl) (thn_norm ?_)
    refine XC.cond_nd ((sgnU (det4 a b c z19)) = 0) rfl (fun hc24 => ?_) (fun hc24 => ?_)
    · skip
      refine XC.seq ?_
      refine XC.region ?_
      refine XS.vals' 2 [(26, .slice a_l l.length c_l), (27, .int .i64 (i : Int))] (by kernel_rfl) ?_
      obtain ⟨z25, hz25⟩ := get_some (xs := l) (i := i) (by (have hm_ := h_l_.elim; obtain ⟨_, _, _, _, hm_⟩ := hm_; omega))
      refine XS.op rfl rfl (XO.elem (i := i) (z := z25) (e := 24) (sz := 3) (h_l_.mono (ev2.trans (ev4.trans (ev6.trans (ev8.trans (ev9.trans (ev11.trans ev21))))))) hz25 rfl rfl (by decide) rfl rfl (by omega) (by kernel_rfl) (by kernel_rfl) ?_)
      refine XS.op rfl rfl (XO.loadE (i := i) (f := 0) (sz := 3) (g := true) (z := z25) (h_l_.mono (ev2.trans (ev4.trans (ev6.trans (ev8.trans (ev9.trans (ev11.trans ev21))))))) hz25 rfl rfl (by decide) rfl (by first | rfl | omega) (by kernel_rfl) (by kernel_rfl) rfl rfl (fun cs_ hcs_ => ?_))
      obtain rfl := hcs_
      refine XS.op rfl rfl (XO.storeS (i := 3) (v := .agg #[.int .i64 z25.x, .int .i64 z25.y, .int .i64 z25.z]) (m := 3) (cs' := [.int .i64 z25.x, .int .i64 z25.y, .int .i64 z25.z]) s21 rfl rfl rfl rfl rfl (by kernel_rfl) rfl rfl rfl rfl (fun w26 s26 ev26 kp26 => ?_))
      refine XS.vals' 1 [(9, .bool true)] (by kernel_rfl) ?_
      refine XS.done rfl (thn_norm ?_)
      refine XC.ret (inBlk_ret (thn_ret (thn_ret (inBlk_ret (thn_ret ?_)))))
      refine ⟨Or.inr rfl, .tuple #[(.agg #[.int .i64 z25.x, .int .i64 z25.y, .int .i64 z25.z]), (.bool true)], fun a_ ha_ => results_ct rfl (res_cell (b := b7) (cs := [.int .i64 z25.x, .int .i64 z25.y, .int .i64 z25.z]) (g := true) (sz := 3) (v := .agg #[.int .i64 z25.x, .int .i64 z25.y, .int .i64 z25.z]) ha_ rfl (s26.at_ (i := 3) rfl) (by kernel_rfl) (by kernel_rfl) rfl rfl rfl) ha_ rfl, s26.keep, ?_⟩
      have hh_ := hc24
      rw [sgnU_zero _ (det4_rng ha hb hc (hok _ (List.mem_of_getElem? hz19)))] at hh_
      obtain ⟨e1, e2⟩ := away_hit hz19 hh_ hall
      rw [e1, e2]
      have e3 := Option.some.inj (hz19.symm.trans hz25)
      subst e3; rfl
    · skip
      refine XC.skip (inBlk_norm (thn_norm ?_))
      refine XC.region ?_
      refine XS.vals' 1 [(15, .int .i64 (i : Int))] (by kernel_rfl) ?_
      refine XS.op rfl rfl (XO.arith (k := .i64) (r := (i : Int) + 1) rfl (by decide) (fun _ => by kernel_rfl) (wrap_i64 (by (have hm_ := h_l_.elim; obtain ⟨_, _, _, _, hm_⟩ := hm_; omega))) ?_)
      refine XS.vals' 1 [(10, .int .i64 ((i : Int) + 1))] (by kernel_rfl) ?_
      refine XS.done rfl (thn_norm ?_)
      refine ⟨l.length - (i + 1), ?_, ?_⟩
      · omega
      exact ⟨i + 1, ⟨rfl, rfl, rfl, rfl, rfl, rfl, (congrArg (Value.int .i64) (by first | rfl | omega : ((i : Int) + 1 : Int) = _)), trivial⟩, s21, (ev9.trans (ev11.trans ev21)), (by omega), (take_succ_all hz19 (by have hh_ := hc24; rw [sgnU_zero _ (det4_rng ha hb hc (hok _ (List.mem_of_getElem? hz19)))] at hh_; exact hh_) hall), rfl⟩
  · skip
    refine XC.exit (thn_exit (thn_exit (inBlk_hit (thn_norm ?_))))
    refine XC.seq ?_
    refine XC.region ?_
    refine XS.vals' 1 [(30, .agg #[.int .i64 0, .int .i64 0, .int .i64 0])] (by kernel_rfl) ?_
    refine XS.op rfl rfl (XO.storeS (i := 3) (v := .agg #[.int .i64 0, .int .i64 0, .int .i64 0]) (m := 3) (cs' := [.int .i64 0, .int .i64 0, .int .i64 0]) s9 rfl rfl rfl rfl rfl (by kernel_rfl) rfl rfl rfl rfl (fun w27 s27 ev27 kp27 => ?_))
    refine XS.vals' 1 [(9, .bool false)] (by kernel_rfl) ?_
    refine XS.done rfl (thn_norm ?_)
    refine XC.ret ?_
    refine ⟨Or.inr rfl, .tuple #[(.agg #[.int .i64 0, .int .i64 0, .int .i64 0]), (.bool false)], fun a_ ha_ => results_ct rfl (res_cell (b := b7) (cs := [.int .i64 0, .int .i64 0, .int .i64 0]) (g := true) (sz := 3) (v := .agg #[.int .i64 0, .int .i64 0, .int .i64 0]) ha_ rfl (s27.at_ (i := 3) rfl) (by kernel_rfl) (by kernel_rfl) rfl rfl rfl) ha_ rfl, s27.keep, ?_⟩
    obtain ⟨e1, e2⟩ := away_none (l := l) (fun y hy => hall y (by rw [List.take_of_length_le (by omega)]; exact hy))
    rw [e1, e2]; rfl

end Go.Proofs.Tryz
namespace Go.Proofs.Tryz
open Go Go.X Go.RowKit Go.Sort
set_option maxRecDepth 100000
set_option maxHeartbeats 2000000
set_option linter.unusedVariables false
theorem carapaceref15_dim_ok (A : Nat → Prop) (w0 : World) (hA : ∀ b, w0.heap.size ≤ b → A b) (l : List Pt) (a_l : Option Addr) (c_l : Nat) (h_l : Sl tPt A w0 (.slice a_l l.length c_l) l) (hok : ∀ p ∈ l, p.ok)  : Cal Tryz.prog 17 [(.slice a_l l.length c_l)].toArray w0 (fun v w' => Keep none_ w0 w' ∧ v = .int .i64 (dimR l)) := by
  have s0 : Stt A w0 none_ [] w0 := Stt.start hA none_
  have h_l_ := h_l.mono Evo.start
  refine Cal.intro (n := 35) Tryz.func17 rfl Tryz.ntmps17 rfl ?_
  refine XC.seq ?_
  refine XC.region ?_
  refine XS.vals' 1 [(2, .int .i64 0)] (by kernel_rfl) ?_
  refine XS.done rfl (thn_norm ?_)
  refine XC.seq ?_
  refine XC.seq ?_
  refine XC.region ?_
  refine XS.vals' 3 [(6, .slice a_l l.length c_l), (7, .int .i64 (l.length : Int)), (8, .bool (decide ((l.length : Int) < 2)))] (by kernel_rfl) ?_
  refine XS.done rfl (thn_norm ?_)
  refine XC.cond_d ((l.length : Int) < 2) rfl (fun hc1 => ?_) (fun hc1 => ?_)
  · skip
    refine XC.seq ?_
    refine XC.region ?_
    refine XS.vals' 2 [(9, .slice a_l l.length c_l), (10, .int .i64 (l.length : Int))] (by kernel_rfl) ?_
    refine XS.op rfl rfl (XO.arith (k := .i64) (r := (l.length : Int) - 1) rfl (by decide) (fun _ => by kernel_rfl) (wrap_i64 (by (have hm_ := h_l_.elim; obtain ⟨_, _, _, _, hm_⟩ := hm_; have ho_ := off_lt l; omega))) ?_)
    refine XS.vals' 1 [(2, .int .i64 ((l.length : Int) - 1))] (by kernel_rfl) ?_
    refine XS.done rfl (thn_norm ?_)
    refine XC.ret (thn_ret ?_)
    refine ⟨Or.inr rfl, .int .i64 ((l.length : Int) - 1), fun a_ ha_ => results_t rfl ha_ rfl, s0.keep, ?_⟩
    refine congrArg (Value.int .i64) ?_
    unfold dimR
    rw [if_pos (by omega)]
  · skip
    refine XC.skip (thn_norm ?_)
    refine XC.seq ?_
    refine XC.region ?_
    refine XS.vals' 1 [(12, .slice a_l l.length c_l)] (by kernel_rfl) ?_
    refine XS.op rfl rfl (XO.callS (f := 32) (args := [(.slice a_l l.length c_l)].toArray) s0 rfl (by decide) (fun _ => by kernel_rfl) (carapaceref15_off_ok (av A _) _ s0.av_fresh l a_l c_l h_l_ (by first | assumption | exact hok _ (List.mem_of_getElem? (by assumption)))) (fun _ w2 s2 ev2 kp2 hv_ => ?_))
    obtain rfl := hv_
    refine XS.vals' 1 [(3, .int .i64 (offI l))] (by kernel_rfl) ?_
    refine XS.done rfl (thn_norm ?_)
    refine XC.seq ?_
    refine XC.seq ?_
    refine XC.region ?_
    refine XS.vals' 2 [(14, .int .i64 (offI l)), (15, .bool (decide ((offI l) < 0)))] (by kernel_rfl) ?_
    refine XS.done rfl (thn_norm ?_)
    refine XC.cond_d ((offI l) < 0) rfl (fun hc3 => ?_) (fun hc3 => ?_)
    · skip
      refine XC.seq ?_
      refine XC.region ?_
      refine XS.vals' 1 [(2, .int .i64 1)] (by kernel_rfl) ?_
      refine XS.done rfl (thn_norm ?_)
      refine XC.ret (thn_ret ?_)
      refine ⟨Or.inr rfl, .int .i64 1, fun a_ ha_ => results_t rfl ha_ rfl, s2.keep, ?_⟩
      refine congrArg (Value.int .i64) ?_
      unfold dimR
      rw [if_neg (by omega), if_pos (by assumption)]
    · skip
      refine XC.skip (thn_norm ?_)
      refine XC.seq ?_
      obtain ⟨z4, hz4⟩ := get_some (xs := l) (i := 0) (by (have hm_ := h_l_.elim; obtain ⟨_, _, _, _, hm_⟩ := hm_; have ho_ := off_lt l; omega))
      obtain ⟨z5, hz5⟩ := get_some (xs := l) (i := l.length - 1) (by (have hm_ := h_l_.elim; obtain ⟨_, _, _, _, hm_⟩ := hm_; have ho_ := off_lt l; omega))
      obtain ⟨z6, hz6⟩ := get_some (xs := l) (i := (offI l).toNat) (by (have hm_ := h_l_.elim; obtain ⟨_, _, _, _, hm_⟩ := hm_; have ho_ := off_lt l; omega))
      refine XC.cut (fun ρ_ w_ => ∃ b26_ : Nat, Has ρ_ [(2, .int .i64 0), (5, .bool (awayB l z4 z5 z6))] ∧ Stt A w0 none_ [cellsA b26_ [.int .i64 ((awayP l z4 z5 z6).x), .int .i64 ((awayP l z4 z5 z6).y), .int .i64 ((awayP l z4 z5 z6).z)] 24] w_ ∧ Evo (av A []) w2 (av A [cellsA b26_ [.int .i64 ((awayP l z4 z5 z6).x), .int .i64 ((awayP l z4 z5 z6).y), .int .i64 ((awayP l z4 z5 z6).z)] 24]) w_) ?_ ?_
      · skip
        refine XC.drawS 21 rfl (fun _ => False) 21 (by kernel_rfl) s2 (fun w7 s7 ev7 kp7 hH8 => ?_)
        refine XA.valD 0 17 (.slice a_l l.length c_l) rfl (by kernel_rfl) (by kernel_rfl) (by kernel_rfl) rfl (by kernel_rfl) rfl hH8 (fun hH9 => ?_)
        refine XA.valD 1 18 (.slice a_l l.length c_l) rfl (by kernel_rfl) (by kernel_rfl) (by kernel_rfl) rfl (by kernel_rfl) rfl hH9 (fun hH10 => ?_)
        refine XA.elemD (p := 2) (i := 0) (z := z4) (e := 24) (sz := 3) (h_l_.mono (ev2.trans ev7)) hz4 rfl (by kernel_rfl) (by kernel_rfl) (by kernel_rfl) rfl (by kernel_rfl) rfl rfl (by decide) rfl rfl (by omega) (by kernel_rfl) (by kernel_rfl) hH10 (fun hH11 => ?_)
        refine XA.loadD (p := 3) (i := 0) (f := 0) (sz := 3) (g := true) (z := z4) (h_l_.mono (ev2.trans ev7)) hz4 (fun _ _ h => h) rfl (by kernel_rfl) (by kernel_rfl) (by kernel_rfl) rfl (by kernel_rfl) rfl rfl (by decide) hH11 rfl (by first | rfl | omega) (by kernel_rfl) (by kernel_rfl) rfl rfl rfl (fun cs_ hcs_ hH12 => ?_)
        obtain rfl := hcs_
        refine XA.valD 4 21 (.slice a_l l.length c_l) rfl (by kernel_rfl) (by kernel_rfl) (by kernel_rfl) rfl (by kernel_rfl) rfl hH12 (fun hH13 => ?_)
        refine XA.valD 5 22 (.slice a_l l.length c_l) rfl (by kernel_rfl) (by kernel_rfl) (by kernel_rfl) rfl (by kernel_rfl) rfl hH13 (fun hH14 => ?_)
        refine XA.valD 6 23 (.int .i64 (l.length : Int)) rfl (by kernel_rfl) (by kernel_rfl) (by kernel_rfl) rfl (by kernel_rfl) rfl hH14 (fun hH15 => ?_)
        refine XA.arith (p := 7) (k := .i64) (r := (l.length : Int) - 1) rfl (by kernel_rfl) (by kernel_rfl) (by kernel_rfl) rfl (by kernel_rfl) rfl (by decide) (fun _ => by kernel_rfl) (wrap_i64 (by (have hm_ := h_l_.elim; obtain ⟨_, _, _, _, hm_⟩ := hm_; have ho_ := off_lt l; omega))) hH15 (fun hH16 => ?_)
        refine XA.elemD (p := 8) (i := (l.length - 1)) (z := z5) (e := 24) (sz := 3) (h_l_.mono (ev2.trans ev7)) hz5 rfl (by kernel_rfl) (by kernel_rfl) (by kernel_rfl) rfl (by kernel_rfl) rfl rfl (by decide) rfl rfl (by omega) (by kernel_rfl) (by kernel_rfl) hH16 (fun hH17 => ?_)
        refine XA.loadD (p := 9) (i := (l.length - 1)) (f := 0) (sz := 3) (g := true) (z := z5) (h_l_.mono (ev2.trans ev7)) hz5 (fun _ _ h => h) rfl (by kernel_rfl) (by kernel_rfl) (by kernel_rfl) rfl (by kernel_rfl) rfl rfl (by decide) hH17 rfl (by first | rfl | omega) (by kernel_rfl) (by kernel_rfl) rfl rfl rfl (fun cs_ hcs_ hH18 => ?_)
        obtain rfl := hcs_
        refine XA.valD 10 27 (.slice a_l l.length c_l) rfl (by kernel_rfl) (by kernel_rfl) (by kernel_rfl) rfl (by kernel_rfl) rfl hH18 (fun hH19 => ?_)
        refine XA.valD 11 28 (.int .i64 (offI l)) rfl (by kernel_rfl) (by kernel_rfl) (by kernel_rfl) rfl (by kernel_rfl) rfl hH19 (fun hH20 => ?_)
        refine XA.elemD (p := 12) (i := ((offI l).toNat)) (z := z6) (e := 24) (sz := 3) (h_l_.mono (ev2.trans ev7)) hz6 rfl (by kernel_rfl) (by kernel_rfl) (by kernel_rfl) rfl (by kernel_rfl) rfl rfl (by decide) rfl rfl (by omega) (by kernel_rfl) (by kernel_rfl) hH20 (fun hH21 => ?_)
        refine XA.loadD (p := 13) (i := ((offI l).toNat)) (f := 0) (sz := 3) (g := true) (z := z6) (h_l_.mono (ev2.trans ev7)) hz6 (fun _ _ h => h) rfl (by kernel_rfl) (by kernel_rfl) (by kernel_rfl) rfl (by kernel_rfl) rfl rfl (by decide) hH21 rfl (by first | rfl | omega) (by kernel_rfl) (by kernel_rfl) rfl rfl rfl (fun cs_ hcs_ hH22 => ?_)
        obtain rfl := hcs_
        refine XA.op2 (i := 14) (j := 18) rfl rfl (by kernel_rfl) (by kernel_rfl) (by kernel_rfl) ?_ ?_
        · skip
          refine XO.callS (f := 33) (args := [(.slice a_l l.length c_l), (.agg #[.int .i64 z4.x, .int .i64 z4.y, .int .i64 z4.z]), (.agg #[.int .i64 z5.x, .int .i64 z5.y, .int .i64 z5.z]), (.agg #[.int .i64 z6.x, .int .i64 z6.y, .int .i64 z6.z])].toArray) s7 rfl (by decide) (fun _ => by kernel_rfl) (carapaceref15_away_ok (av A _) _ s7.av_fresh l a_l c_l (h_l_.mono (ev2.trans ev7)) z4 z5 z6 (by first | assumption | exact hok _ (List.mem_of_getElem? (by assumption))) (by first | assumption | exact hok _ (List.mem_of_getElem? (by assumption))) (by first | assumption | exact hok _ (List.mem_of_getElem? (by assumption))) (by first | assumption | exact hok _ (List.mem_of_getElem? (by assumption)))) (fun _ w23 s23 ev23 kp23 hv_ => ?_)
          obtain rfl := hv_
          have hH24 := hH22.keep (i := 14) kp23 rfl
          refine ⟨hH24, ?_⟩
          refine XA.valD 15 16 (.tuple #[.agg #[.int .i64 ((awayP l z4 z5 z6).x), .int .i64 ((awayP l z4 z5 z6).y), .int .i64 ((awayP l z4 z5 z6).z)], .bool (awayB l z4 z5 z6)]) rfl (by kernel_rfl) (by kernel_rfl) (by kernel_rfl) rfl (by kernel_rfl) rfl hH24 (fun hH25 => ?_)
          refine XA.valD 16 32 (.agg #[.int .i64 ((awayP l z4 z5 z6).x), .int .i64 ((awayP l z4 z5 z6).y), .int .i64 ((awayP l z4 z5 z6).z)]) rfl (by kernel_rfl) (by kernel_rfl) (by kernel_rfl) rfl (by kernel_rfl) rfl hH25 (fun hH26 => ?_)
          refine XA.valD 17 33 (.bool (awayB l z4 z5 z6)) rfl (by kernel_rfl) (by kernel_rfl) (by kernel_rfl) rfl (by kernel_rfl) rfl hH26 (fun hH27 => ?_)
          refine XA.op (i := 18) rfl (by kernel_rfl) (by kernel_rfl) (XO.new (cs := [.int .i64 0, .int .i64 0, .int .i64 0]) (T := 24) s23 rfl (by decide) (fun _ => by kernel_rfl) (fun b28 w29 s29 ev29 kp29 ybb28 => ?_))
          have hH30 := hH27.keep (i := 18) kp29 rfl
          refine ⟨hH30, ?_⟩
          refine XA.op (i := 19) rfl (by kernel_rfl) (by kernel_rfl) (XO.storeS (i := 0) (v := .agg #[.int .i64 ((awayP l z4 z5 z6).x), .int .i64 ((awayP l z4 z5 z6).y), .int .i64 ((awayP l z4 z5 z6).z)]) (m := 3) (cs' := [.int .i64 ((awayP l z4 z5 z6).x), .int .i64 ((awayP l z4 z5 z6).y), .int .i64 ((awayP l z4 z5 z6).z)]) s29 rfl rfl rfl rfl rfl (by kernel_rfl) rfl rfl rfl rfl (fun w31 s31 ev31 kp31 => ?_))
          have hH32 := hH30.young (i := 19) kp31 (by exact (Nat.le_trans hH27.1 ybb28)) rfl
          refine ⟨hH32, ?_⟩
          refine XA.valD 20 5 (.bool (awayB l z4 z5 z6)) rfl (by kernel_rfl) (by kernel_rfl) (by kernel_rfl) rfl (by kernel_rfl) rfl hH32 (fun hH33 => ?_)
          refine XA.done (by kernel_rfl) (thn_norm ?_)
          exact ⟨b28, ⟨rfl, rfl, trivial⟩, s31, (ev7.trans (ev23.trans (ev29.trans ev31)))⟩
        · skip
          refine XO.new (cs := [.int .i64 0, .int .i64 0, .int .i64 0]) (T := 24) s7 rfl (by decide) (fun _ => by kernel_rfl) (fun b34 w35 s35 ev35 kp35 ybb34 => ?_)
          have hH36 := hH22.keep (i := 18) kp35 rfl
          refine ⟨hH36, ?_⟩
          refine XA.op (i := 14) rfl (by kernel_rfl) (by kernel_rfl) (XO.callS (f := 33) (args := [(.slice a_l l.length c_l), (.agg #[.int .i64 z4.x, .int .i64 z4.y, .int .i64 z4.z]), (.agg #[.int .i64 z5.x, .int .i64 z5.y, .int .i64 z5.z]), (.agg #[.int .i64 z6.x, .int .i64 z6.y, .int .i64 z6.z])].toArray) s35 rfl (by decide) (fun _ => by kernel_rfl) (carapaceref15_away_ok (av A _) _ s35.av_fresh l a_l c_l (h_l_.mono (ev2.trans (ev7.trans ev35))) z4 z5 z6 (by first | assumption | exact hok _ (List.mem_of_getElem? (by assumption))) (by first | assumption | exact hok _ (List.mem_of_getElem? (by assumption))) (by first | assumption | exact hok _ (List.mem_of_getElem? (by assumption))) (by first | assumption | exact hok _ (List.mem_of_getElem? (by assumption)))) (fun _ w37 s37 ev37 kp37 hv_ => ?_))
          obtain rfl := hv_
          have hH38 := hH36.keep (i := 14) kp37 rfl
          refine ⟨hH38, ?_⟩
          refine XA.valD 15 16 (.tuple #[.agg #[.int .i64 ((awayP l z4 z5 z6).x), .int .i64 ((awayP l z4 z5 z6).y), .int .i64 ((awayP l z4 z5 z6).z)], .bool (awayB l z4 z5 z6)]) rfl (by kernel_rfl) (by kernel_rfl) (by kernel_rfl) rfl (by kernel_rfl) rfl hH38 (fun hH39 => ?_)
          refine XA.valD 16 32 (.agg #[.int .i64 ((awayP l z4 z5 z6).x), .int .i64 ((awayP l z4 z5 z6).y), .int .i64 ((awayP l z4 z5 z6).z)]) rfl (by kernel_rfl) (by kernel_rfl) (by kernel_rfl) rfl (by kernel_rfl) rfl hH39 (fun hH40 => ?_)
          refine XA.valD 17 33 (.bool (awayB l z4 z5 z6)) rfl (by kernel_rfl) (by kernel_rfl) (by kernel_rfl) rfl (by kernel_rfl) rfl hH40 (fun hH41 => ?_)
          refine XA.op (i := 19) rfl (by kernel_rfl) (by kernel_rfl) (XO.storeS (i := 0) (v := .agg #[.int .i64 ((awayP l z4 z5 z6).x), .int .i64 ((awayP l z4 z5 z6).y), .int .i64 ((awayP l z4 z5 z6).z)]) (m := 3) (cs' := [.int .i64 ((awayP l z4 z5 z6).x), .int .i64 ((awayP l z4 z5 z6).y), .int .i64 ((awayP l z4 z5 z6).z)]) s37 rfl rfl rfl rfl rfl (by kernel_rfl) rfl rfl rfl rfl (fun w42 s42 ev42 kp42 => ?_))
          have hH43 := hH41.young (i := 19) kp42 (by exact (Nat.le_trans hH22.1 ybb34)) rfl
          refine ⟨hH43, ?_⟩
          refine XA.valD 20 5 (.bool (awayB l z4 z5 z6)) rfl (by kernel_rfl) (by kernel_rfl) (by kernel_rfl) rfl (by kernel_rfl) rfl hH43 (fun hH44 => ?_)
          refine XA.done (by kernel_rfl) (thn_norm ?_)
          exact ⟨b34, ⟨rfl, rfl, trivial⟩, s42, (ev7.trans (ev35.trans (ev37.trans ev42)))⟩
      intro ρw45 w45 hJ_
      obtain ⟨b26_, hh45, s45, ev45⟩ := hJ_
      refine XC.rebase hh45 ?_
      refine XC.seq ?_
      refine XC.region ?_
      refine XS.vals' 1 [(34, .bool (awayB l z4 z5 z6))] (by kernel_rfl) ?_
      refine XS.done rfl (thn_norm ?_)
      refine XC.cond ((awayB l z4 z5 z6)) rfl (fun hc46 => ?_) (fun hc46 => ?_)
      · skip
        refine XC.seq ?_
        refine XC.region ?_
        refine XS.vals' 1 [(2, .int .i64 3)] (by kernel_rfl) ?_
        refine XS.done rfl (thn_norm ?_)
        refine XC.ret (thn_ret ?_)
        refine ⟨Or.inr rfl, .int .i64 3, fun a_ ha_ => results_t rfl ha_ rfl, s45.keep, ?_⟩
        refine congrArg (Value.int .i64) ?_
        unfold dimR
        rw [if_neg (by omega), if_neg (by assumption), headD_of hz4, lastD_of hz5, List.getD_eq_getElem?_getD, hz6, Option.getD_some, hc46]; rfl
      · skip
        refine XC.skip (thn_norm ?_)
        refine XC.seq ?_
        refine XC.region ?_
        refine XS.vals' 1 [(2, .int .i64 2)] (by kernel_rfl) ?_
        refine XS.done rfl (thn_norm ?_)
        refine XC.ret ?_
        refine ⟨Or.inr rfl, .int .i64 2, fun a_ ha_ => results_t rfl ha_ rfl, s45.keep, ?_⟩
        refine congrArg (Value.int .i64) ?_
        unfold dimR
        rw [if_neg (by omega), if_neg (by assumption), headD_of hz4, lastD_of hz5, List.getD_eq_getElem?_getD, hz6, Option.getD_some, hc46]; rfl

end Go.Proofs.Tryz
namespace Go.Proofs.Tryz
open Go Go.X Go.RowKit Go.Sort
set_option maxRecDepth 100000
set_option maxHeartbeats 2000000
set_option linter.unusedVariables false
theorem carapaceref15_Sort_ok (A : Nat → Prop) (w0 : World) (hA : ∀ b, w0.heap.size ≤ b → A b) (l : List Pt) (a_l : Option Addr) (c_l : Nat) (h_l : Sl tPt A w0 (.slice a_l l.length c_l) l) (hlen : l.length ≤ 1048576)  : Cal Tryz.prog 9 [(.slice a_l l.length c_l)].toArray w0 (fun v w' => Keep none_ w0 w' ∧ ∃ (ra0 : Option Addr) (rc0 : Nat), v = .slice ra0 ((sortPts l).length) rc0 ∧ Sl tPt A w' (.slice ra0 (sortPts l).length rc0) (sortPts l)) := by
  have s0 : Stt A w0 none_ [] w0 := Stt.start hA none_
  have h_l_ := h_l.mono Evo.start
  refine Cal.intro (n := 59) Tryz.func9 rfl Tryz.ntmps9 rfl ?_
  refine XC.seq ?_
  refine XC.region ?_
  refine XS.vals' 1 [(2, .slice none 0 0)] (by kernel_rfl) ?_
  refine XS.done rfl (thn_norm ?_)
  refine XC.seq ?_
  refine XC.region ?_
  refine XS.vals' 1 [(3, .slice none 0 0)] (by kernel_rfl) ?_
  refine XS.done rfl (thn_norm ?_)
  refine XC.seq ?_
  refine XC.seq ?_
  refine XC.region ?_
  refine XS.vals' 1 [(4, .int .i64 0)] (by kernel_rfl) ?_
  refine XS.done rfl (thn_norm ?_)
  refine XC.block ?_
  have s1 := Stt.nilRow s0 24 3
  have ev1 := Evo.nilRow s0 24 3
  refine XC.loop (fun ρ_ w_ m_ => ∃ (i : Nat) (ra2 : Option Addr) (rc2 : Nat) (rcs2 : List Value), Has ρ_ [(0, .slice a_l l.length c_l), (2, .slice none 0 0), (3, .slice ra2 ((sortI l i).length) rc2), (4, .int .i64 (i : Int))] ∧ Stt A w0 none_ [rowA (.slice ra2 ((sortI l i).length) rc2) ((sortI l i).length) rcs2 24 3] w_ ∧ Evo (av A [rowA (.slice none 0 0) 0 ([]) 24 3]) w0 (av A [rowA (.slice ra2 ((sortI l i).length) rc2) ((sortI l i).length) rcs2 24 3]) w_ ∧ (i ≤ l.length) ∧ (Els tPt (av A [rowA (.slice ra2 ((sortI l i).length) rc2) ((sortI l i).length) rcs2 24 3]) w_ rcs2 (sortI l i)) ∧ m_ = l.length - i) (l.length - 0) ?_ ?_
  · skip
    exact ⟨0, none, 0, [], ⟨rfl, rfl, rfl, (congrArg (Value.int .i64) (by first | rfl | omega : (0 : Int) = _)), trivial⟩, s1, Evo.refl _ _, (by omega), ((Els.nil (τ := tPt))), rfl⟩
  rintro _ ρw3 w3 ⟨i, ra2, rc2, rcs2, hh3, s3, ev3, hi, hel2, rfl⟩
  refine XC.rebase hh3 ?_
  refine XC.seq ?_
  refine XC.seq ?_
  refine XC.region ?_
  refine XS.vals' 4 [(6, .int .i64 (i : Int)), (7, .slice a_l l.length c_l), (8, .int .i64 (l.length : Int)), (9, .bool (decide ((i : Int) < (l.length : Int))))] (by kernel_rfl) ?_
  refine XS.done rfl (thn_norm ?_)
  refine XC.cond_d ((i : Int) < (l.length : Int)) rfl (fun hc4 => ?_) (fun hc4 => ?_)
  · skip
    refine XC.skip (thn_norm ?_)
    refine XC.seq ?_
    refine XC.block ?_
    refine XC.seq ?_
    refine XC.seq ?_
    refine XC.region ?_
    refine XS.vals' 3 [(12, .slice ra2 ((sortI l i).length) rc2), (13, .slice a_l l.length c_l), (14, .int .i64 (i : Int))] (by kernel_rfl) ?_
    obtain ⟨z5, hz5⟩ := get_some (xs := l) (i := i) (by (have hs1_ := sortI_len l i; first | omega | (rw [holed_len _ _ _ hk]; omega) | (rw [List.length_append]; simp only [List.length_cons, List.length_nil]; omega) | (rw [List.length_set, holed_len _ _ _ hk]; omega)))
    refine XS.op rfl rfl (XO.elem (i := i) (z := z5) (e := 24) (sz := 3) (h_l_.mono (ev1.trans ev3)) hz5 rfl rfl (by decide) rfl rfl (by omega) (by kernel_rfl) (by kernel_rfl) ?_)
    refine XS.op rfl rfl (XO.loadE (i := i) (f := 0) (sz := 3) (g := true) (z := z5) (h_l_.mono (ev1.trans ev3)) hz5 rfl rfl (by decide) rfl (by first | rfl | omega) (by kernel_rfl) (by kernel_rfl) rfl rfl (fun cs_ hcs_ => ?_))
    obtain rfl := hcs_
    obtain ⟨sl6, evl6, hfl6⟩ := Stt.freeze s3 0 rfl (fun _ h => h.elim) rfl (by (have hs1_ := sortI_len l i; omega)) (hel2)
    refine XS.op rfl rfl (XO.callS (f := 22) (args := [(.slice ra2 ((sortI l i).length) rc2), (.agg #[.int .i64 z5.x, .int .i64 z5.y, .int .i64 z5.z])].toArray) s3 rfl (by decide) (fun _ => by kernel_rfl) (carapaceref15_has_ok (av A _) _ sl6.av_fresh (sortI l i) ra2 rc2 hfl6 z5 ) (fun _ w7 s7 ev7 kp7 hv_ => ?_))
    obtain rfl := hv_
    refine XS.done rfl (thn_norm ?_)
    refine XC.cond_d (z5 ∈ (sortI l i)) rfl (fun hc8 => ?_) (fun hc8 => ?_)
    · skip
      refine XC.exit (thn_exit (inBlk_hit (thn_norm ?_)))
      refine XC.region ?_
      refine XS.vals' 1 [(10, .int .i64 (i : Int))] (by kernel_rfl) ?_
      refine XS.op rfl rfl (XO.arith (k := .i64) (r := (i : Int) + 1) rfl (by decide) (fun _ => by kernel_rfl) (wrap_i64 (by (have hs1_ := sortI_len l i; first | omega | (rw [holed_len _ _ _ hk]; omega) | (rw [List.length_append]; simp only [List.length_cons, List.length_nil]; omega) | (rw [List.length_set, holed_len _ _ _ hk]; omega)))) ?_)
      refine XS.vals' 1 [(4, .int .i64 ((i : Int) + 1))] (by kernel_rfl) ?_
      refine XS.done rfl (thn_norm ?_)
      have heq9 : (sortI l i) = sortI l (i + 1) := (sortI_have hz5 hc8)
      have hln10 : (sortI l (i + 1)).length = (sortI l i).length := by first | (rw [← heq9]; done) | (rw [← heq9]; symm; exact rfl)
      refine ⟨l.length - (i + 1), ?_, ?_⟩
      · omega
      exact ⟨i + 1, ra2, rc2, rcs2, ⟨rfl, rfl, (by rw [hln10] <;> rfl), (congrArg (Value.int .i64) (by first | rfl | omega : ((i : Int) + 1 : Int) = _)), trivial⟩, (by rw [hln10]; exact s7), (by rw [hln10]; exact (ev3.trans ev7)), (by omega), ((by rw [← heq9]; exact (hel2.mono ev7))), rfl⟩
    · skip
      refine XC.skip (thn_norm ?_)
      refine XC.seq ?_
      refine XC.region ?_
      refine XS.vals' 3 [(18, .slice ra2 ((sortI l i).length) rc2), (19, .int .i64 ((sortI l i).length : Int)), (5, .int .i64 ((sortI l i).length : Int))] (by kernel_rfl) ?_
      refine XS.done rfl (thn_norm ?_)
      refine XC.seq ?_
      refine XC.region ?_
      refine XS.vals' 3 [(20, .slice ra2 ((sortI l i).length) rc2), (21, .slice a_l l.length c_l), (22, .int .i64 (i : Int))] (by kernel_rfl) ?_
      obtain ⟨z11, hz11⟩ := get_some (xs := l) (i := i) (by (have hs1_ := sortI_len l i; first | omega | (rw [holed_len _ _ _ hk]; omega) | (rw [List.length_append]; simp only [List.length_cons, List.length_nil]; omega) | (rw [List.length_set, holed_len _ _ _ hk]; omega)))
      refine XS.op rfl rfl (XO.elem (i := i) (z := z11) (e := 24) (sz := 3) (h_l_.mono (ev1.trans (ev3.trans ev7))) hz11 rfl rfl (by decide) rfl rfl (by omega) (by kernel_rfl) (by kernel_rfl) ?_)
      refine XS.op rfl rfl (XO.loadE (i := i) (f := 0) (sz := 3) (g := true) (z := z11) (h_l_.mono (ev1.trans (ev3.trans ev7))) hz11 rfl rfl (by decide) rfl (by first | rfl | omega) (by kernel_rfl) (by kernel_rfl) rfl rfl (fun cs_ hcs_ => ?_))
      obtain rfl := hcs_
      refine XS.op rfl rfl (XO.newSl (k := 1) (cs := [.int .i64 z11.x, .int .i64 z11.y, .int .i64 z11.z]) (T := 24) s7 rfl (by decide) (fun _ => by kernel_rfl) (fun b12 w13 s13 ev13 kp13 ybb12 => ?_))
      have hroom15 : ((sortI l i).length + 1) * 24 ≤ 140737488355328 := by (have hs1_ := sortI_len l i; first | omega | (rw [holed_len _ _ _ hk]; omega) | (rw [List.length_append]; simp only [List.length_cons, List.length_nil]; omega) | (rw [List.length_set, holed_len _ _ _ hk]; omega))
      refine XS.op rfl rfl (XO.append (k' := ((sortI l i) ++ [z11]).length) (i := 0) (cs := rcs2) (new := [.int .i64 z11.x, .int .i64 z11.y, .int .i64 z11.z]) (sz := 3) (bytes := 24) (z := .agg #[.int .i64 0, .int .i64 0, .int .i64 0]) (k := ((sortI l i).length)) (m := 1) (by first | rfl | (simp only [List.length_append, List.length_cons, List.length_nil]; done) | (simp only [List.length_append, List.length_cons, List.length_nil]; omega)) s13 rfl rfl rfl (by decide) rfl rfl (by kernel_rfl) (by kernel_rfl) (by kernel_rfl) (by kernel_rfl) rfl rfl (Src.cells (o := 0) (m := 1) (s13.at_ (i := 1) rfl) (Nat.le_of_ble_eq_true rfl)) rfl (by exact hroom15) (fun ra16 rc17 w14 s14 ev14 kp14 => ?_))
      have hel18 := Els.snoc (((hel2.mono (ev7.trans ev13))).mono ev14) (show Tp.R tPt _ _ _ z11 from rfl)
      refine XS.vals' 1 [(3, .slice ra16 (((sortI l i) ++ [z11]).length) rc17)] (by kernel_rfl) ?_
      refine XS.done rfl (thn_norm ?_)
      refine XC.seq ?_
      refine XC.block ?_
      refine XC.loop (fun ρ_ w_ m_ => ∃ (k : Nat) (gg : Pt) (ra19 : Option Addr) (rc19 : Nat) (rcs19 : List Value), Has ρ_ [(0, .slice a_l l.length c_l), (2, .slice none 0 0), (3, .slice ra19 ((holed (sortI l i) k gg).length) rc19), (4, .int .i64 (i : Int)), (5, .int .i64 (k : Int)), (6, .int .i64 (i : Int)), (7, .slice a_l l.length c_l), (8, .int .i64 (l.length : Int)), (9, .bool (decide ((i : Int) < (l.length : Int)))), (13, .slice a_l l.length c_l), (14, .int .i64 (i : Int)), (15, elemP a_l (i * 3)), (16, .agg #[.int .i64 z5.x, .int .i64 z5.y, .int .i64 z5.z]), (17, .bool (decide (z5 ∈ (sortI l i)))), (19, .int .i64 ((sortI l i).length : Int)), (21, .slice a_l l.length c_l), (22, .int .i64 (i : Int)), (23, elemP a_l (i * 3)), (24, .agg #[.int .i64 z11.x, .int .i64 z11.y, .int .i64 z11.z]), (25, .slice (some ⟨b12, 0, none⟩) 1 1), (26, .slice ra19 ((holed (sortI l i) k gg).length) rc19)] ∧ Stt A w0 none_ [rowA (.slice ra19 ((holed (sortI l i) k gg).length) rc19) ((holed (sortI l i) k gg).length) rcs19 24 3, cellsA b12 [.int .i64 z11.x, .int .i64 z11.y, .int .i64 z11.z] 24] w_ ∧ Evo (av A [rowA (.slice ra16 (((sortI l i) ++ [z11]).length) rc17) (((sortI l i) ++ [z11]).length) (rcs2 ++ [.int .i64 z11.x, .int .i64 z11.y, .int .i64 z11.z]) 24 3, cellsA b12 [.int .i64 z11.x, .int .i64 z11.y, .int .i64 z11.z] 24]) w14 (av A [rowA (.slice ra19 ((holed (sortI l i) k gg).length) rc19) ((holed (sortI l i) k gg).length) rcs19 24 3, cellsA b12 [.int .i64 z11.x, .int .i64 z11.y, .int .i64 z11.z] 24]) w_ ∧ (k ≤ (sortI l i).length) ∧ (Above l i (sortI l i) k) ∧ (Els tPt (av A [rowA (.slice ra19 ((holed (sortI l i) k gg).length) rc19) ((holed (sortI l i) k gg).length) rcs19 24 3, cellsA b12 [.int .i64 z11.x, .int .i64 z11.y, .int .i64 z11.z] 24]) w_ rcs19 (holed (sortI l i) k gg)) ∧ m_ = k + 1) ((sortI l i).length + 1) ?_ ?_
      · skip
        have heq20 : ((sortI l i) ++ [z11]) = holed (sortI l i) ((sortI l i).length) z11 := (holed_end _ _).symm
        have hln21 : (holed (sortI l i) ((sortI l i).length) z11).length = ((sortI l i) ++ [z11]).length := by first | (rw [← heq20]; done) | (rw [← heq20]; symm; exact rfl)
        exact ⟨(sortI l i).length, z11, ra16, rc17, (rcs2 ++ [.int .i64 z11.x, .int .i64 z11.y, .int .i64 z11.z]), ⟨rfl, rfl, (by rw [hln21] <;> rfl), rfl, (congrArg (Value.int .i64) (by first | rfl | omega : (((sortI l i).length : Int) : Int) = _)), rfl, rfl, rfl, rfl, rfl, rfl, rfl, rfl, rfl, rfl, rfl, rfl, rfl, rfl, rfl, (by rw [hln21] <;> rfl), trivial⟩, (by rw [hln21]; exact s14), (by rw [hln21]; exact Evo.refl _ _), (Nat.le_refl _), (Above.start _ _ _), ((by rw [← heq20]; exact hel18)), rfl⟩
      rintro _ ρw22 w22 ⟨k, gg, ra19, rc19, rcs19, hh22, s22, ev22, hk, hab, hel19, rfl⟩
      refine XC.rebase hh22 ?_
      refine XC.seq ?_
      obtain ⟨z23, hz23⟩ := get_some (xs := l) (i := i) (by (have hs1_ := sortI_len l i; first | omega | (rw [holed_len _ _ _ hk]; omega) | (rw [List.length_append]; simp only [List.length_cons, List.length_nil]; omega) | (rw [List.length_set, holed_len _ _ _ hk]; omega)))
      obtain ⟨z24, hz24⟩ := get_some (xs := (holed (sortI l i) k gg)) (i := k - 1) (by (have hs1_ := sortI_len l i; first | omega | (rw [holed_len _ _ _ hk]; omega) | (rw [List.length_append]; simp only [List.length_cons, List.length_nil]; omega) | (rw [List.length_set, holed_len _ _ _ hk]; omega)))
      obtain ⟨rb25, ro26, rfl⟩ := row_addr (s22.at_ (i := 0) rfl) (by (have hs1_ := sortI_len l i; first | omega | (rw [holed_len _ _ _ hk]; omega) | (rw [List.length_append]; simp only [List.length_cons, List.length_nil]; omega) | (rw [List.length_set, holed_len _ _ _ hk]; omega)))
      refine XC.seq ?_
      refine XC.drawS 14 rfl (fun _ => False) 14 (by kernel_rfl) s22 (fun w27 s27 ev27 kp27 hH28 => ?_)
      refine XA.valD 0 27 (.int .i64 (k : Int)) rfl (by kernel_rfl) (by kernel_rfl) (by kernel_rfl) rfl (by kernel_rfl) rfl hH28 (fun hH29 => ?_)
      refine XA.valD 1 28 (.bool (decide ((k : Int) > 0))) rfl (by kernel_rfl) (by kernel_rfl) (by kernel_rfl) rfl (by kernel_rfl) rfl hH29 (fun hH30 => ?_)
      refine XA.valD 2 29 (.bool (decide ((k : Int) > 0))) rfl (by kernel_rfl) (by kernel_rfl) (by kernel_rfl) rfl (by kernel_rfl) rfl hH30 (fun hH31 => ?_)
      refine XA.onD 29 ((k : Int) > 0) rfl (fun hg32 => ?_) (fun hg32 => ?_)
      · skip
        refine XA.valD 3 30 (.slice a_l l.length c_l) rfl (by kernel_rfl) (by kernel_rfl) (by kernel_rfl) rfl (by kernel_rfl) rfl hH31 (fun hH33 => ?_)
        refine XA.valD 4 31 (.int .i64 (i : Int)) rfl (by kernel_rfl) (by kernel_rfl) (by kernel_rfl) rfl (by kernel_rfl) rfl hH33 (fun hH34 => ?_)
        refine XA.elemD (p := 5) (i := i) (z := z23) (e := 24) (sz := 3) (h_l_.mono (ev1.trans (ev3.trans (ev7.trans (ev13.trans (ev14.trans (ev22.trans ev27))))))) hz23 rfl (by kernel_rfl) (by kernel_rfl) (by kernel_rfl) rfl (by kernel_rfl) rfl rfl (by decide) rfl rfl (by omega) (by kernel_rfl) (by kernel_rfl) hH34 (fun hH35 => ?_)
        refine XA.loadD (p := 6) (i := i) (f := 0) (sz := 3) (g := true) (z := z23) (h_l_.mono (ev1.trans (ev3.trans (ev7.trans (ev13.trans (ev14.trans (ev22.trans ev27))))))) hz23 (fun _ _ h => h) rfl (by kernel_rfl) (by kernel_rfl) (by kernel_rfl) rfl (by kernel_rfl) rfl rfl (by decide) hH35 rfl (by first | rfl | omega) (by kernel_rfl) (by kernel_rfl) rfl rfl rfl (fun cs_ hcs_ hH36 => ?_)
        obtain rfl := hcs_
        refine XA.valD 7 34 (.slice (some ⟨rb25, ro26, none⟩) ((holed (sortI l i) k gg).length) rc19) rfl (by kernel_rfl) (by kernel_rfl) (by kernel_rfl) rfl (by kernel_rfl) rfl hH36 (fun hH37 => ?_)
        refine XA.valD 8 35 (.int .i64 (k : Int)) rfl (by kernel_rfl) (by kernel_rfl) (by kernel_rfl) rfl (by kernel_rfl) rfl hH37 (fun hH38 => ?_)
        refine XA.arith (p := 9) (k := .i64) (r := (k : Int) - 1) rfl (by kernel_rfl) (by kernel_rfl) (by kernel_rfl) rfl (by kernel_rfl) rfl (by decide) (fun _ => by kernel_rfl) (wrap_i64 (by (have hs1_ := sortI_len l i; first | omega | (rw [holed_len _ _ _ hk]; omega) | (rw [List.length_append]; simp only [List.length_cons, List.length_nil]; omega) | (rw [List.length_set, holed_len _ _ _ hk]; omega)))) hH38 (fun hH39 => ?_)
        refine XA.index (p := 10) (i := (k - 1)) (e := 24) (sz := 3) rfl (by kernel_rfl) (by kernel_rfl) (by kernel_rfl) rfl (by kernel_rfl) rfl rfl (by decide) rfl rfl (by omega) (by (have hs1_ := sortI_len l i; first | omega | (rw [holed_len _ _ _ hk]; omega) | (rw [List.length_append]; simp only [List.length_cons, List.length_nil]; omega) | (rw [List.length_set, holed_len _ _ _ hk]; omega))) (by kernel_rfl) (by kernel_rfl) hH39 (fun hH40 => ?_)
        refine XA.loadRow false (p := 11) (q := 0) (j := (k - 1)) (z := z24) (g := true) s27 rfl (hel19.mono ev27) rfl hz24 rfl rfl (by kernel_rfl) (by kernel_rfl) (by kernel_rfl) rfl rfl (fun _ h => h) (by kernel_rfl) rfl rfl (by decide) hH40 rfl (by first | rfl | omega) (by kernel_rfl) (by kernel_rfl) rfl (fun cs_ hcs_ hH41 => ?_)
        obtain rfl := hcs_
        refine XA.op (i := 12) rfl (by kernel_rfl) (by kernel_rfl) (XO.callS (f := 11) (args := [(.agg #[.int .i64 z23.x, .int .i64 z23.y, .int .i64 z23.z]), (.agg #[.int .i64 z24.x, .int .i64 z24.y, .int .i64 z24.z])].toArray) s27 rfl (by decide) (fun _ => by kernel_rfl) (carapaceref15_Less_ok (av A _) _ s27.av_fresh z23 z24 ) (fun _ w42 s42 ev42 kp42 hv_ => ?_))
        obtain rfl := hv_
        have hH43 := hH41.keep (i := 12) kp42 rfl
        refine ⟨hH43, ?_⟩
        refine XA.valD 13 40 (.bool (ltP z23 z24)) rfl (by kernel_rfl) (by kernel_rfl) (by kernel_rfl) rfl (by kernel_rfl) rfl hH43 (fun hH44 => ?_)
        refine XA.done (by kernel_rfl) (thn_norm ?_)
        refine XC.cond (ltP z23 z24) rfl (fun hc45 => ?_) (fun hc45 => ?_)
        · skip
          refine XC.skip (thn_norm ?_)
          refine XC.block ?_
          refine XC.seq ?_
          refine XC.region ?_
          refine XS.vals' 4 [(41, .slice (some ⟨rb25, ro26, none⟩) ((holed (sortI l i) k gg).length) rc19), (42, .int .i64 (k : Int)), (43, .slice (some ⟨rb25, ro26, none⟩) ((holed (sortI l i) k gg).length) rc19), (44, .int .i64 (k : Int))] (by kernel_rfl) ?_
          refine XS.op rfl rfl (XO.arith (k := .i64) (r := (k : Int) - 1) rfl (by decide) (fun _ => by kernel_rfl) (wrap_i64 (by (have hs1_ := sortI_len l i; first | omega | (rw [holed_len _ _ _ hk]; omega) | (rw [List.length_append]; simp only [List.length_cons, List.length_nil]; omega) | (rw [List.length_set, holed_len _ _ _ hk]; omega)))) ?_)
          refine XS.op rfl rfl (XO.index (i := (k - 1)) (e := 24) (sz := 3) rfl rfl (by decide) rfl rfl (by omega) (by (have hs1_ := sortI_len l i; first | omega | (rw [holed_len _ _ _ hk]; omega) | (rw [List.length_append]; simp only [List.length_cons, List.length_nil]; omega) | (rw [List.length_set, holed_len _ _ _ hk]; omega))) (by kernel_rfl) (by kernel_rfl) ?_)
          refine XS.op rfl rfl (XO.loadRow (q := 0) (j := (k - 1)) (z := z24) (g := true) s42 rfl (hel19.mono (ev27.trans ev42)) rfl hz24 rfl rfl rfl (by decide) rfl (by first | rfl | omega) (by kernel_rfl) (by kernel_rfl) rfl (fun cs_ hcs_ => ?_))
          obtain rfl := hcs_
          refine XS.op rfl rfl (XO.index (i := k) (e := 24) (sz := 3) rfl rfl (by decide) rfl rfl (by omega) (by (have hs1_ := sortI_len l i; first | omega | (rw [holed_len _ _ _ hk]; omega) | (rw [List.length_append]; simp only [List.length_cons, List.length_nil]; omega) | (rw [List.length_set, holed_len _ _ _ hk]; omega))) (by kernel_rfl) (by kernel_rfl) ?_)
          refine XS.op rfl rfl (XO.storeRow (q := 0) (j := k) (vs := Pt.enc z24) s42 rfl (by (have hs1_ := sortI_len l i; first | omega | (rw [holed_len _ _ _ hk]; omega) | (rw [List.length_append]; simp only [List.length_cons, List.length_nil]; omega) | (rw [List.length_set, holed_len _ _ _ hk]; omega))) rfl rfl rfl (by first | rfl | omega) rfl (by kernel_rfl) rfl rfl rfl (fun w46 s46 ev46 kp46 => ?_))
          have hel47 := Els.set (((hel19.mono (ev27.trans ev42))).mono ev46) (j := k) (z := z24) (by (have hs1_ := sortI_len l i; first | omega | (rw [holed_len _ _ _ hk]; omega) | (rw [List.length_append]; simp only [List.length_cons, List.length_nil]; omega) | (rw [List.length_set, holed_len _ _ _ hk]; omega))) rfl
          refine XS.done rfl (thn_norm ?_)
          refine XC.region ?_
          refine XS.vals' 1 [(49, .int .i64 (k : Int))] (by kernel_rfl) ?_
          refine XS.op rfl rfl (XO.arith (k := .i64) (r := (k : Int) - 1) rfl (by decide) (fun _ => by kernel_rfl) (wrap_i64 (by (have hs1_ := sortI_len l i; first | omega | (rw [holed_len _ _ _ hk]; omega) | (rw [List.length_append]; simp only [List.length_cons, List.length_nil]; omega) | (rw [List.length_set, holed_len _ _ _ hk]; omega)))) ?_)
          refine XS.vals' 1 [(5, .int .i64 ((k : Int) - 1))] (by kernel_rfl) ?_
          refine XS.done rfl (inBlk_norm (thn_norm ?_))
          have heq49 : (List.set (holed (sortI l i) k gg) k z24) = holed (sortI l i) (k - 1 : Nat) z24 := (holed_dn (by omega) hk hz24)
          have hln50 : (holed (sortI l i) (k - 1 : Nat) z24).length = (holed (sortI l i) k gg).length := by first | (rw [← heq49]; done) | (rw [← heq49]; symm; exact (by rw [List.length_set]))
          refine ⟨k - 1 + 1, ?_, ?_⟩
          · omega
          exact ⟨(k - 1 : Nat), z24, (some ⟨rb25, ro26, none⟩), rc19, (over rcs19 (k * 3) (Pt.enc z24)), ⟨rfl, rfl, (by rw [hln50] <;> rfl), rfl, (congrArg (Value.int .i64) (by first | rfl | omega : ((k : Int) - 1 : Int) = _)), rfl, rfl, rfl, rfl, rfl, rfl, rfl, rfl, rfl, rfl, rfl, rfl, rfl, rfl, rfl, (by rw [hln50] <;> rfl), trivial⟩, (by rw [hln50]; exact s46), (by rw [hln50]; exact (ev22.trans (ev27.trans (ev42.trans ev46)))), (by omega), (hab.dn (by omega) hk hz23 hz24 hc45), ((by rw [← heq49]; exact hel47)), rfl⟩
        · skip
          refine XC.exit (thn_exit (thn_exit (inBlk_hit (thn_norm ?_))))
          refine XC.region ?_
          refine XS.vals' 4 [(51, .slice (some ⟨rb25, ro26, none⟩) ((holed (sortI l i) k gg).length) rc19), (52, .int .i64 (k : Int)), (53, .slice a_l l.length c_l), (54, .int .i64 (i : Int))] (by kernel_rfl) ?_
          refine XS.op rfl rfl (XO.elem (i := i) (z := z23) (e := 24) (sz := 3) (h_l_.mono (ev1.trans (ev3.trans (ev7.trans (ev13.trans (ev14.trans (ev22.trans (ev27.trans ev42)))))))) hz23 rfl rfl (by decide) rfl rfl (by omega) (by kernel_rfl) (by kernel_rfl) ?_)
          refine XS.op rfl rfl (XO.loadE (i := i) (f := 0) (sz := 3) (g := true) (z := z23) (h_l_.mono (ev1.trans (ev3.trans (ev7.trans (ev13.trans (ev14.trans (ev22.trans (ev27.trans ev42)))))))) hz23 rfl rfl (by decide) rfl (by first | rfl | omega) (by kernel_rfl) (by kernel_rfl) rfl rfl (fun cs_ hcs_ => ?_))
          obtain rfl := hcs_
          refine XS.op rfl rfl (XO.index (i := k) (e := 24) (sz := 3) rfl rfl (by decide) rfl rfl (by omega) (by (have hs1_ := sortI_len l i; first | omega | (rw [holed_len _ _ _ hk]; omega) | (rw [List.length_append]; simp only [List.length_cons, List.length_nil]; omega) | (rw [List.length_set, holed_len _ _ _ hk]; omega))) (by kernel_rfl) (by kernel_rfl) ?_)
          refine XS.op rfl rfl (XO.storeRow (q := 0) (j := k) (vs := Pt.enc z23) s42 rfl (by (have hs1_ := sortI_len l i; first | omega | (rw [holed_len _ _ _ hk]; omega) | (rw [List.length_append]; simp only [List.length_cons, List.length_nil]; omega) | (rw [List.length_set, holed_len _ _ _ hk]; omega))) rfl rfl rfl (by first | rfl | omega) rfl (by kernel_rfl) rfl rfl rfl (fun w51 s51 ev51 kp51 => ?_))
          have hel52 := Els.set (((hel19.mono (ev27.trans ev42))).mono ev51) (j := k) (z := z23) (by (have hs1_ := sortI_len l i; first | omega | (rw [holed_len _ _ _ hk]; omega) | (rw [List.length_append]; simp only [List.length_cons, List.length_nil]; omega) | (rw [List.length_set, holed_len _ _ _ hk]; omega))) rfl
          refine XS.done rfl (inBlk_norm (thn_norm ?_))
          refine XC.region ?_
          refine XS.vals' 1 [(10, .int .i64 (i : Int))] (by kernel_rfl) ?_
          refine XS.op rfl rfl (XO.arith (k := .i64) (r := (i : Int) + 1) rfl (by decide) (fun _ => by kernel_rfl) (wrap_i64 (by (have hs1_ := sortI_len l i; first | omega | (rw [holed_len _ _ _ hk]; omega) | (rw [List.length_append]; simp only [List.length_cons, List.length_nil]; omega) | (rw [List.length_set, holed_len _ _ _ hk]; omega)))) ?_)
          refine XS.vals' 1 [(4, .int .i64 ((i : Int) + 1))] (by kernel_rfl) ?_
          refine XS.done rfl (thn_norm ?_)
          have heq54 : (List.set (holed (sortI l i) k gg) k z23) = sortI l (i + 1) := (by have e_ := Option.some.inj (hz23.symm.trans hz5); subst e_; exact sortI_put hz23 hc8 hk hab (.inr ⟨_, _, hz24, hz23, hc45⟩))
          have hln55 : (sortI l (i + 1)).length = (holed (sortI l i) k gg).length := by first | (rw [← heq54]; done) | (rw [← heq54]; symm; exact (by rw [List.length_set]))
          refine ⟨l.length - (i + 1), ?_, ?_⟩
          · omega
          exact ⟨i + 1, (some ⟨rb25, ro26, none⟩), rc19, (over rcs19 (k * 3) (Pt.enc z23)), ⟨rfl, rfl, (by rw [hln55] <;> rfl), (congrArg (Value.int .i64) (by first | rfl | omega : ((i : Int) + 1 : Int) = _)), trivial⟩, (by rw [hln55]; exact (s51.drop (.cons_cons _ (.cons _ List.Sublist.slnil)))), (by rw [hln55]; exact (Evo.trans (ev3.trans (ev7.trans (ev13.trans (ev14.trans (ev22.trans (ev27.trans (ev42.trans ev51))))))) (Evo.drop (.cons_cons _ (.cons _ List.Sublist.slnil))))), (by omega), ((by rw [← heq54]; exact hel52)), rfl⟩
      · skip
        refine XA.valD 3 30 (undef) rfl (by kernel_rfl) (by kernel_rfl) (by kernel_rfl) rfl (by kernel_rfl) rfl hH31 (fun hH56 => ?_)
        refine XA.valD 4 31 (undef) rfl (by kernel_rfl) (by kernel_rfl) (by kernel_rfl) rfl (by kernel_rfl) rfl hH56 (fun hH57 => ?_)
        refine XA.valD 5 32 (undef) rfl (by kernel_rfl) (by kernel_rfl) (by kernel_rfl) rfl (by kernel_rfl) rfl hH57 (fun hH58 => ?_)
        refine XA.valD 6 33 (undef) rfl (by kernel_rfl) (by kernel_rfl) (by kernel_rfl) rfl (by kernel_rfl) rfl hH58 (fun hH59 => ?_)
        refine XA.valD 7 34 (undef) rfl (by kernel_rfl) (by kernel_rfl) (by kernel_rfl) rfl (by kernel_rfl) rfl hH59 (fun hH60 => ?_)
        refine XA.valD 8 35 (undef) rfl (by kernel_rfl) (by kernel_rfl) (by kernel_rfl) rfl (by kernel_rfl) rfl hH60 (fun hH61 => ?_)
        refine XA.valD 9 36 (undef) rfl (by kernel_rfl) (by kernel_rfl) (by kernel_rfl) rfl (by kernel_rfl) rfl hH61 (fun hH62 => ?_)
        refine XA.valD 10 37 (undef) rfl (by kernel_rfl) (by kernel_rfl) (by kernel_rfl) rfl (by kernel_rfl) rfl hH62 (fun hH63 => ?_)
        refine XA.valD 11 38 (undef) rfl (by kernel_rfl) (by kernel_rfl) (by kernel_rfl) rfl (by kernel_rfl) rfl hH63 (fun hH64 => ?_)
        refine XA.valD 12 39 (undef) rfl (by kernel_rfl) (by kernel_rfl) (by kernel_rfl) rfl (by kernel_rfl) rfl hH64 (fun hH65 => ?_)
        refine XA.valD 13 40 (.bool false) rfl (by kernel_rfl) (by kernel_rfl) (by kernel_rfl) rfl (by kernel_rfl) rfl hH65 (fun hH66 => ?_)
        refine XA.done (by kernel_rfl) (thn_norm ?_)
        refine XC.cond_f rfl ?_
        refine XC.exit (thn_exit (thn_exit (inBlk_hit (thn_norm ?_))))
        refine XC.region ?_
        refine XS.vals' 4 [(51, .slice (some ⟨rb25, ro26, none⟩) ((holed (sortI l i) k gg).length) rc19), (52, .int .i64 (k : Int)), (53, .slice a_l l.length c_l), (54, .int .i64 (i : Int))] (by kernel_rfl) ?_
        refine XS.op rfl rfl (XO.elem (i := i) (z := z23) (e := 24) (sz := 3) (h_l_.mono (ev1.trans (ev3.trans (ev7.trans (ev13.trans (ev14.trans (ev22.trans ev27))))))) hz23 rfl rfl (by decide) rfl rfl (by omega) (by kernel_rfl) (by kernel_rfl) ?_)
        refine XS.op rfl rfl (XO.loadE (i := i) (f := 0) (sz := 3) (g := true) (z := z23) (h_l_.mono (ev1.trans (ev3.trans (ev7.trans (ev13.trans (ev14.trans (ev22.trans ev27))))))) hz23 rfl rfl (by decide) rfl (by first | rfl | omega) (by kernel_rfl) (by kernel_rfl) rfl rfl (fun cs_ hcs_ => ?_))
        obtain rfl := hcs_
        refine XS.op rfl rfl (XO.index (i := k) (e := 24) (sz := 3) rfl rfl (by decide) rfl rfl (by omega) (by (have hs1_ := sortI_len l i; first | omega | (rw [holed_len _ _ _ hk]; omega) | (rw [List.length_append]; simp only [List.length_cons, List.length_nil]; omega) | (rw [List.length_set, holed_len _ _ _ hk]; omega))) (by kernel_rfl) (by kernel_rfl) ?_)
        refine XS.op rfl rfl (XO.storeRow (q := 0) (j := k) (vs := Pt.enc z23) s27 rfl (by (have hs1_ := sortI_len l i; first | omega | (rw [holed_len _ _ _ hk]; omega) | (rw [List.length_append]; simp only [List.length_cons, List.length_nil]; omega) | (rw [List.length_set, holed_len _ _ _ hk]; omega))) rfl rfl rfl (by first | rfl | omega) rfl (by kernel_rfl) rfl rfl rfl (fun w67 s67 ev67 kp67 => ?_))
        have hel68 := Els.set (((hel19.mono ev27)).mono ev67) (j := k) (z := z23) (by (have hs1_ := sortI_len l i; first | omega | (rw [holed_len _ _ _ hk]; omega) | (rw [List.length_append]; simp only [List.length_cons, List.length_nil]; omega) | (rw [List.length_set, holed_len _ _ _ hk]; omega))) rfl
        refine XS.done rfl (inBlk_norm (thn_norm ?_))
        refine XC.region ?_
        refine XS.vals' 1 [(10, .int .i64 (i : Int))] (by kernel_rfl) ?_
        refine XS.op rfl rfl (XO.arith (k := .i64) (r := (i : Int) + 1) rfl (by decide) (fun _ => by kernel_rfl) (wrap_i64 (by (have hs1_ := sortI_len l i; first | omega | (rw [holed_len _ _ _ hk]; omega) | (rw [List.length_append]; simp only [List.length_cons, List.length_nil]; omega) | (rw [List.length_set, holed_len _ _ _ hk]; omega)))) ?_)
        refine XS.vals' 1 [(4, .int .i64 ((i : Int) + 1))] (by kernel_rfl) ?_
        refine XS.done rfl (thn_norm ?_)
        have heq70 : (List.set (holed (sortI l i) k gg) k z23) = sortI l (i + 1) := (by have e_ := Option.some.inj (hz23.symm.trans hz5); subst e_; exact sortI_put hz23 hc8 hk hab (.inl (by omega)))
        have hln71 : (sortI l (i + 1)).length = (holed (sortI l i) k gg).length := by first | (rw [← heq70]; done) | (rw [← heq70]; symm; exact (by rw [List.length_set]))
        refine ⟨l.length - (i + 1), ?_, ?_⟩
        · omega
        exact ⟨i + 1, (some ⟨rb25, ro26, none⟩), rc19, (over rcs19 (k * 3) (Pt.enc z23)), ⟨rfl, rfl, (by rw [hln71] <;> rfl), (congrArg (Value.int .i64) (by first | rfl | omega : ((i : Int) + 1 : Int) = _)), trivial⟩, (by rw [hln71]; exact (s67.drop (.cons_cons _ (.cons _ List.Sublist.slnil)))), (by rw [hln71]; exact (Evo.trans (ev3.trans (ev7.trans (ev13.trans (ev14.trans (ev22.trans (ev27.trans ev67)))))) (Evo.drop (.cons_cons _ (.cons _ List.Sublist.slnil))))), (by omega), ((by rw [← heq70]; exact hel68)), rfl⟩
  · skip
    refine XC.exit (thn_exit (thn_exit (inBlk_hit (thn_norm ?_))))
    refine XC.seq ?_
    refine XC.region ?_
    refine XS.vals' 2 [(58, .slice ra2 ((sortI l i).length) rc2), (2, .slice ra2 ((sortI l i).length) rc2)] (by kernel_rfl) ?_
    refine XS.done rfl (thn_norm ?_)
    refine XC.ret ?_
    refine ⟨Or.inr rfl, .slice ra2 ((sortI l i).length) rc2, fun a_ ha_ => results_t rfl ha_ rfl, s3.keep, ?_⟩
    have hS0_ := Sl.fin (s3.rowOut (τ := tPt) 0 rfl rfl (by (have hs1_ := sortI_len l i; omega)) hel2) (show _ = sortPts l from (by rw [sortI_eq, List.take_of_length_le (by omega)]))
    obtain ⟨ra0, rc0, he0_, hS0_⟩ := hS0_
    rw [he0_]
    refine ⟨ra0, rc0, ?_, hS0_⟩
    rfl

end Go.Proofs.Tryz
namespace Go.Proofs.Tryz
open Go Go.X Go.RowKit Go.Sort
set_option maxRecDepth 100000
set_option maxHeartbeats 2000000
set_option linter.unusedVariables false
theorem carapaceref15_Dim_ok (A : Nat → Prop) (w0 : World) (hA : ∀ b, w0.heap.size ≤ b → A b) (l : List Pt) (a_l : Option Addr) (c_l : Nat) (h_l : Sl tPt A w0 (.slice a_l l.length c_l) l)  : Cal Tryz.prog 6 [(.slice a_l l.length c_l)].toArray w0 (fun v w' => Keep none_ w0 w' ∧ v = .tuple #[(.int .i64 (dimRE l)), (.int .i64 ((chk l).1))]) := by
  have s0 : Stt A w0 none_ [] w0 := Stt.start hA none_
  have h_l_ := h_l.mono Evo.start
  refine Cal.intro (n := 17) Tryz.func6 rfl Tryz.ntmps6 rfl ?_
  refine XC.seq ?_
  refine XC.region ?_
  refine XS.vals' 2 [(2, .int .i64 0), (3, .int .i64 0)] (by kernel_rfl) ?_
  refine XS.done rfl (thn_norm ?_)
  refine XC.seq ?_
  refine XC.seq ?_
  refine XC.region ?_
  refine XS.vals' 1 [(7, .slice a_l l.length c_l)] (by kernel_rfl) ?_
  refine XS.op rfl rfl (XO.callS (f := 16) (args := [(.slice a_l l.length c_l)].toArray) s0 rfl (by decide) (fun _ => by kernel_rfl) (carapaceref6_Check_ok (av A _) _ s0.av_fresh l a_l c_l h_l_ ) (fun _ w1 s1 ev1 kp1 hv_ => ?_))
  obtain rfl := hv_
  refine XS.vals' 5 [(6, .tuple #[.int .i64 ((chk l).1), .int .i64 ((chk l).2)]), (9, .int .i64 ((chk l).1)), (10, .int .i64 ((chk l).2)), (4, .int .i64 ((chk l).1)), (5, .int .i64 ((chk l).2))] (by kernel_rfl) ?_
  refine XS.done rfl (thn_norm ?_)
  refine XC.seq ?_
  refine XC.region ?_
  refine XS.vals' 2 [(11, .int .i64 ((chk l).1)), (12, .bool (!decide (((chk l).1) = 0)))] (by kernel_rfl) ?_
  refine XS.done rfl (thn_norm ?_)
  refine XC.cond_nd (((chk l).1) = 0) rfl (fun hc2 => ?_) (fun hc2 => ?_)
  · skip
    refine XC.seq ?_
    refine XC.region ?_
    refine XS.vals' 3 [(13, .int .i64 ((chk l).1)), (2, .int .i64 0), (3, .int .i64 ((chk l).1))] (by kernel_rfl) ?_
    refine XS.done rfl (thn_norm ?_)
    refine XC.ret (thn_ret ?_)
    refine ⟨Or.inr rfl, .tuple #[(.int .i64 0), (.int .i64 ((chk l).1))], fun a_ ha_ => results_tt rfl ha_ rfl rfl, s1.keep, ?_⟩
    unfold dimRE; simp [*]
  · skip
    refine XC.skip (thn_norm ?_)
    refine XC.seq ?_
    refine XC.region ?_
    refine XS.vals' 1 [(14, .slice a_l l.length c_l)] (by kernel_rfl) ?_
    refine XS.op rfl rfl (XO.callS (f := 9) (args := [(.slice a_l l.length c_l)].toArray) s1 rfl (by decide) (fun _ => by kernel_rfl) (carapaceref15_Sort_ok (av A _) _ s1.av_fresh l a_l c_l (h_l_.mono ev1) (by first | exact sortPts_ok (chk_all (by omega)) | (have hc_ := chk_len (l := l) (by omega); omega))) (fun _ w3 s3 ev3 kp3 hv_ => ?_))
    obtain ⟨ra0_4, rc0_5, rfl, hf6⟩ := hv_
    refine XS.op rfl rfl (XO.callS (f := 17) (args := [(.slice ra0_4 ((sortPts l).length) rc0_5)].toArray) s3 rfl (by decide) (fun _ => by kernel_rfl) (carapaceref15_dim_ok (av A _) _ s3.av_fresh (sortPts l) ra0_4 rc0_5 hf6 (by first | exact sortPts_ok (chk_all (by omega)) | (have hc_ := chk_len (l := l) (by omega); omega))) (fun _ w7 s7 ev7 kp7 hv_ => ?_))
    obtain rfl := hv_
    refine XS.vals' 2 [(2, .int .i64 (dimR (sortPts l))), (3, .int .i64 0)] (by kernel_rfl) ?_
    refine XS.done rfl (thn_norm ?_)
    refine XC.ret ?_
    refine ⟨Or.inr rfl, .tuple #[(.int .i64 (dimR (sortPts l))), (.int .i64 0)], fun a_ ha_ => results_tt rfl ha_ rfl rfl, s7.keep, ?_⟩
    unfold dimRE; simp [*]

end Go.Proofs.Tryz
namespace Go.Proofs.Tryz
open Go Go.X Go.RowKit Go.Sort
set_option maxRecDepth 100000
set_option maxHeartbeats 2000000
set_option linter.unusedVariables false
theorem clean_round_half0_ok (A : Nat → Prop) (w0 : World) (hA : ∀ b, w0.heap.size ≤ b → A b) (l : List Pt) (n_l : Nat) (e_l : n_l = l.length) (a_l : Option Addr) (c_l : Nat) (h_l : Sl tPt A w0 (.slice a_l l.length c_l) l) (n : Pt) (b_s b_k b_n : Nat) (T_s T_k T_n : TypeId) (hb_s : w0.heap[b_s]? = some (.cells [.func (.func 46) #[] #[.pointer (some ⟨b_k, 0, none⟩), .pointer (some ⟨b_n, 0, none⟩)]].toArray T_s (0, 0))) (hb_k : w0.heap[b_k]? = some (.cells [.int .i64 0].toArray T_k (0, 0))) (hb_n : w0.heap[b_n]? = some (.cells [.int .i64 (hi128 n.x), .int .u64 (lo128 n.x), .int .i64 (hi128 n.y), .int .u64 (lo128 n.y), .int .i64 (hi128 n.z), .int .u64 (lo128 n.z)].toArray T_n (0, 0))) (hok : ∀ p ∈ l, p.ok) (hlen : l.length ≤ 1048576)  : Cal Tryz.prog 47 [(.slice a_l n_l c_l), (.pointer (some ⟨b_s, 0, none⟩))].toArray w0 (fun v w' => Keep none_ w0 w' ∧ ∃ (ra0 : Option Addr) (rc0 : Nat) (rs0 : List Value), v = .slice ra0 ((halfOf (sideOf 0 n) l).length) rc0 ∧ (rowA (.slice ra0 (halfOf (sideOf 0 n) l).length rc0) (halfOf (sideOf 0 n) l).length rs0 24 3).holds w' ∧ (∀ b, (rowA (.slice ra0 (halfOf (sideOf 0 n) l).length rc0) (halfOf (sideOf 0 n) l).length rs0 24 3).blk b → w0.heap.size ≤ b) ∧ Els tPt A w' rs0 (halfOf (sideOf 0 n) l)) := by
  subst e_l
  have s0 : Stt A w0 none_ [] w0 := Stt.start hA none_
  have h_l_ := h_l.mono Evo.start
  refine Cal.intro (n := 45) Tryz.func47 rfl Tryz.ntmps47 rfl ?_
  refine XC.seq ?_
  refine XC.region ?_
  refine XS.vals' 1 [(3, .slice none 0 0)] (by kernel_rfl) ?_
  refine XS.done rfl (thn_norm ?_)
  refine XC.seq ?_
  refine XC.region ?_
  refine XS.vals' 1 [(4, .slice none 0 0)] (by kernel_rfl) ?_
  refine XS.done rfl (thn_norm ?_)
  refine XC.seq ?_
  refine XC.seq ?_
  refine XC.region ?_
  refine XS.vals' 3 [(7, .slice a_l l.length c_l), (8, .int .i64 (l.length : Int)), (9, .int .i64 0)] (by kernel_rfl) ?_
  refine XS.done rfl (thn_norm ?_)
  refine XC.block ?_
  have s1 := Stt.nilRow s0 24 3
  have ev1 := Evo.nilRow s0 24 3
  refine XC.loop (fun ρ_ w_ m_ => ∃ (i : Nat) (ra2 : Option Addr) (rc2 : Nat) (rcs2 : List Value), Has ρ_ [(1, .pointer (some ⟨b_s, 0, none⟩)), (3, .slice none 0 0), (4, .slice ra2 ((halfOf (sideOf 0 n) (l.take i)).length) rc2), (7, .slice a_l l.length c_l), (8, .int .i64 (l.length : Int)), (9, .int .i64 (i : Int))] ∧ Stt A w0 none_ [rowA (.slice ra2 ((halfOf (sideOf 0 n) (l.take i)).length) rc2) ((halfOf (sideOf 0 n) (l.take i)).length) rcs2 24 3] w_ ∧ Evo (av A [rowA (.slice none 0 0) 0 ([]) 24 3]) w0 (av A [rowA (.slice ra2 ((halfOf (sideOf 0 n) (l.take i)).length) rc2) ((halfOf (sideOf 0 n) (l.take i)).length) rcs2 24 3]) w_ ∧ (i ≤ l.length) ∧ (Els tPt (av A [rowA (.slice ra2 ((halfOf (sideOf 0 n) (l.take i)).length) rc2) ((halfOf (sideOf 0 n) (l.take i)).length) rcs2 24 3]) w_ rcs2 (halfOf (sideOf 0 n) (l.take i))) ∧ m_ = l.length - i) (l.length - 0) ?_ ?_
  · skip
    exact ⟨0, none, 0, [], ⟨rfl, rfl, rfl, rfl, rfl, (congrArg (Value.int .i64) (by first | rfl | omega : (0 : Int) = _)), trivial⟩, s1, Evo.refl _ _, (by omega), ((Els.nil (τ := tPt))), rfl⟩
  rintro _ ρw3 w3 ⟨i, ra2, rc2, rcs2, hh3, s3, ev3, hi, hel2, rfl⟩
  refine XC.rebase hh3 ?_
  refine XC.seq ?_
  refine XC.region ?_
  refine XS.vals' 1 [(10, .bool (decide ((i : Int) < (l.length : Int))))] (by kernel_rfl) ?_
  refine XS.done rfl (thn_norm ?_)
  refine XC.seq ?_
  refine XC.cond_d ((i : Int) < (l.length : Int)) rfl (fun hc4 => ?_) (fun hc4 => ?_)
  · skip
    refine XC.skip (thn_norm ?_)
    refine XC.seq ?_
    refine XC.block ?_
    refine XC.seq ?_
    refine XC.region ?_
    obtain ⟨z5, hz5⟩ := get_some (xs := l) (i := i) (by (have hs1_ := half_len2 (sideOf 0 n) l i; first | omega | (rw [List.length_append]; simp only [List.length_cons, List.length_nil]; omega)))
    refine XS.op rfl rfl (XO.elem (i := i) (z := z5) (e := 24) (sz := 3) (h_l_.mono (ev1.trans ev3)) hz5 rfl rfl (by decide) rfl rfl (by omega) (by kernel_rfl) (by kernel_rfl) ?_)
    refine XS.op rfl rfl (XO.loadE (i := i) (f := 0) (sz := 3) (g := true) (z := z5) (h_l_.mono (ev1.trans ev3)) hz5 rfl rfl (by decide) rfl (by first | rfl | omega) (by kernel_rfl) (by kernel_rfl) rfl rfl (fun cs_ hcs_ => ?_))
    obtain rfl := hcs_
    refine XS.op rfl rfl (XO.new (cs := [.int .i64 0, .int .i64 0, .int .i64 0]) (T := 24) s3 rfl (by decide) (fun _ => by kernel_rfl) (fun b6 w7 s7 ev7 kp7 ybb6 => ?_))
    refine XS.op rfl rfl (XO.storeS (i := 1) (v := .agg #[.int .i64 z5.x, .int .i64 z5.y, .int .i64 z5.z]) (m := 3) (cs' := [.int .i64 z5.x, .int .i64 z5.y, .int .i64 z5.z]) s7 rfl rfl rfl rfl rfl (by kernel_rfl) rfl rfl rfl rfl (fun w8 s8 ev8 kp8 => ?_))
    refine XS.done rfl (thn_norm ?_)
    refine XC.seq ?_
    refine XC.block ?_
    refine XC.loop (fun ρ_ w_ m_ => ∃ (cur : List Pt) (ra9 : Option Addr) (rc9 : Nat) (rcs9 : List Value), Has ρ_ [(1, .pointer (some ⟨b_s, 0, none⟩)), (3, .slice none 0 0), (4, .slice ra9 ((cur).length) rc9), (6, .pointer (some ⟨b6, 0, none⟩)), (7, .slice a_l l.length c_l), (8, .int .i64 (l.length : Int)), (9, .int .i64 (i : Int)), (10, .bool (decide ((i : Int) < (l.length : Int)))), (11, elemP a_l (i * 3)), (12, .agg #[.int .i64 z5.x, .int .i64 z5.y, .int .i64 z5.z])] ∧ Stt A w0 none_ [rowA (.slice ra9 ((cur).length) rc9) ((cur).length) rcs9 24 3, cellsA b6 [.int .i64 z5.x, .int .i64 z5.y, .int .i64 z5.z] 24] w_ ∧ Evo (av A [rowA (.slice ra2 ((halfOf (sideOf 0 n) (l.take i)).length) rc2) ((halfOf (sideOf 0 n) (l.take i)).length) rcs2 24 3, cellsA b6 [.int .i64 z5.x, .int .i64 z5.y, .int .i64 z5.z] 24]) w8 (av A [rowA (.slice ra9 ((cur).length) rc9) ((cur).length) rcs9 24 3, cellsA b6 [.int .i64 z5.x, .int .i64 z5.y, .int .i64 z5.z] 24]) w_ ∧ (cur.length ≤ l.length ∧ cur.length ≤ i) ∧ (∀ p ∈ cur, p ∈ l) ∧ (pop (sideOf 0 n) z5 cur = pop (sideOf 0 n) z5 (halfOf (sideOf 0 n) (l.take i))) ∧ (Els tPt (av A [rowA (.slice ra9 ((cur).length) rc9) ((cur).length) rcs9 24 3, cellsA b6 [.int .i64 z5.x, .int .i64 z5.y, .int .i64 z5.z] 24]) w_ rcs9 (cur)) ∧ m_ = cur.length + 1) ((halfOf (sideOf 0 n) (l.take i)).length + 1) ?_ ?_
    · skip
      exact ⟨(halfOf (sideOf 0 n) (l.take i)), ra2, rc2, rcs2, ⟨rfl, rfl, rfl, rfl, rfl, rfl, rfl, rfl, rfl, rfl, trivial⟩, s8, Evo.refl _ _, (half_len2 _ _ _), (half_sub _ _ _), (rfl), ((hel2.mono (ev7.trans ev8))), rfl⟩
    rintro _ ρw10 w10 ⟨cur, ra9, rc9, rcs9, hh10, s10, ev10, hcl, hcm, hI, hel9, rfl⟩
    refine XC.rebase hh10 ?_
    refine XC.seq ?_
    refine XC.seq ?_
    refine XC.drawS 21 rfl (fun _ => False) 21 (by kernel_rfl) s10 (fun w11 s11 ev11 kp11 hH12 => ?_)
    refine XA.valD 0 13 (.slice ra9 ((cur).length) rc9) rfl (by kernel_rfl) (by kernel_rfl) (by kernel_rfl) rfl (by kernel_rfl) rfl hH12 (fun hH13 => ?_)
    refine XA.valD 1 14 (.int .i64 ((cur).length : Int)) rfl (by kernel_rfl) (by kernel_rfl) (by kernel_rfl) rfl (by kernel_rfl) rfl hH13 (fun hH14 => ?_)
    refine XA.valD 2 15 (.bool (decide (((cur).length : Int) > 1))) rfl (by kernel_rfl) (by kernel_rfl) (by kernel_rfl) rfl (by kernel_rfl) rfl hH14 (fun hH15 => ?_)
    refine XA.valD 3 16 (.bool (decide (((cur).length : Int) > 1))) rfl (by kernel_rfl) (by kernel_rfl) (by kernel_rfl) rfl (by kernel_rfl) rfl hH15 (fun hH16 => ?_)
    refine XA.onD 16 (((cur).length : Int) > 1) rfl (fun hg17 => ?_) (fun hg17 => ?_)
    · skip
      refine XA.loadB (j := 4) (v := .func (.func 46) #[] #[.pointer (some ⟨b_k, 0, none⟩), .pointer (some ⟨b_n, 0, none⟩)]) (g := false) (m := 1) s11 hb_s rfl (by kernel_rfl) (by kernel_rfl) (by kernel_rfl) rfl (fun h => h) (by kernel_rfl) rfl rfl (by decide) hH16 rfl (by kernel_rfl) (by kernel_rfl) rfl rfl rfl (fun hH18 => ?_)
      refine XA.valD 5 18 (.slice ra9 ((cur).length) rc9) rfl (by kernel_rfl) (by kernel_rfl) (by kernel_rfl) rfl (by kernel_rfl) rfl hH18 (fun hH19 => ?_)
      refine XA.valD 6 19 (.slice ra9 ((cur).length) rc9) rfl (by kernel_rfl) (by kernel_rfl) (by kernel_rfl) rfl (by kernel_rfl) rfl hH19 (fun hH20 => ?_)
      refine XA.valD 7 20 (.int .i64 ((cur).length : Int)) rfl (by kernel_rfl) (by kernel_rfl) (by kernel_rfl) rfl (by kernel_rfl) rfl hH20 (fun hH21 => ?_)
      refine XA.arith (p := 8) (k := .i64) (r := ((cur).length : Int) - 2) rfl (by kernel_rfl) (by kernel_rfl) (by kernel_rfl) rfl (by kernel_rfl) rfl (by decide) (fun _ => by kernel_rfl) (wrap_i64 (by (have hs1_ := half_len2 (sideOf 0 n) l i; first | omega | (rw [List.length_append]; simp only [List.length_cons, List.length_nil]; omega)))) hH21 (fun hH22 => ?_)
      obtain ⟨rb24, ro25, rfl⟩ := row_addr (s11.at_ (i := 0) rfl) (by (have hs1_ := half_len2 (sideOf 0 n) l i; first | omega | (rw [List.length_append]; simp only [List.length_cons, List.length_nil]; omega)))
      refine XA.index (p := 9) (i := ((cur).length - 2)) (e := 24) (sz := 3) rfl (by kernel_rfl) (by kernel_rfl) (by kernel_rfl) rfl (by kernel_rfl) rfl rfl (by decide) rfl rfl (by omega) (by (have hs1_ := half_len2 (sideOf 0 n) l i; first | omega | (rw [List.length_append]; simp only [List.length_cons, List.length_nil]; omega))) (by kernel_rfl) (by kernel_rfl) hH22 (fun hH23 => ?_)
      obtain ⟨z27, hz27⟩ := get_some (xs := (cur)) (i := (cur).length - 2) (by (have hs1_ := half_len2 (sideOf 0 n) l i; first | omega | (rw [List.length_append]; simp only [List.length_cons, List.length_nil]; omega)))
      refine XA.loadRow false (p := 10) (q := 0) (j := ((cur).length - 2)) (z := z27) (g := true) s11 rfl (hel9.mono ev11) rfl hz27 rfl rfl (by kernel_rfl) (by kernel_rfl) (by kernel_rfl) rfl rfl (fun _ h => h) (by kernel_rfl) rfl rfl (by decide) hH23 rfl (by first | rfl | omega) (by kernel_rfl) (by kernel_rfl) rfl (fun cs_ hcs_ hH26 => ?_)
      obtain rfl := hcs_
      refine XA.valD 11 24 (.slice (some ⟨rb24, ro25, none⟩) ((cur).length) rc9) rfl (by kernel_rfl) (by kernel_rfl) (by kernel_rfl) rfl (by kernel_rfl) rfl hH26 (fun hH28 => ?_)
      refine XA.valD 12 25 (.slice (some ⟨rb24, ro25, none⟩) ((cur).length) rc9) rfl (by kernel_rfl) (by kernel_rfl) (by kernel_rfl) rfl (by kernel_rfl) rfl hH28 (fun hH29 => ?_)
      refine XA.valD 13 26 (.int .i64 ((cur).length : Int)) rfl (by kernel_rfl) (by kernel_rfl) (by kernel_rfl) rfl (by kernel_rfl) rfl hH29 (fun hH30 => ?_)
      refine XA.arith (p := 14) (k := .i64) (r := ((cur).length : Int) - 1) rfl (by kernel_rfl) (by kernel_rfl) (by kernel_rfl) rfl (by kernel_rfl) rfl (by decide) (fun _ => by kernel_rfl) (wrap_i64 (by (have hs1_ := half_len2 (sideOf 0 n) l i; first | omega | (rw [List.length_append]; simp only [List.length_cons, List.length_nil]; omega)))) hH30 (fun hH31 => ?_)
      refine XA.index (p := 15) (i := ((cur).length - 1)) (e := 24) (sz := 3) rfl (by kernel_rfl) (by kernel_rfl) (by kernel_rfl) rfl (by kernel_rfl) rfl rfl (by decide) rfl rfl (by omega) (by (have hs1_ := half_len2 (sideOf 0 n) l i; first | omega | (rw [List.length_append]; simp only [List.length_cons, List.length_nil]; omega))) (by kernel_rfl) (by kernel_rfl) hH31 (fun hH32 => ?_)
      obtain ⟨z34, hz34⟩ := get_some (xs := (cur)) (i := (cur).length - 1) (by (have hs1_ := half_len2 (sideOf 0 n) l i; first | omega | (rw [List.length_append]; simp only [List.length_cons, List.length_nil]; omega)))
      refine XA.loadRow false (p := 16) (q := 0) (j := ((cur).length - 1)) (z := z34) (g := true) s11 rfl (hel9.mono ev11) rfl hz34 rfl rfl (by kernel_rfl) (by kernel_rfl) (by kernel_rfl) rfl rfl (fun _ h => h) (by kernel_rfl) rfl rfl (by decide) hH32 rfl (by first | rfl | omega) (by kernel_rfl) (by kernel_rfl) rfl (fun cs_ hcs_ hH33 => ?_)
      obtain rfl := hcs_
      refine XA.loadS false (j := 17) (i := 1) (v := .agg #[.int .i64 z5.x, .int .i64 z5.y, .int .i64 z5.z]) (g := true) (m := 3) s11 rfl rfl (by kernel_rfl) (by kernel_rfl) (by kernel_rfl) rfl (by kernel_rfl) (fun _ h => h) (by kernel_rfl) rfl rfl (by decide) hH33 rfl (by kernel_rfl) (by kernel_rfl) rfl rfl rfl (fun hH35 => ?_)
      refine XA.op (i := 18) rfl (by kernel_rfl) (by kernel_rfl) (XO.callS (f := 46) (args := [(.agg #[.int .i64 z27.x, .int .i64 z27.y, .int .i64 z27.z]), (.agg #[.int .i64 z34.x, .int .i64 z34.y, .int .i64 z34.z]), (.agg #[.int .i64 z5.x, .int .i64 z5.y, .int .i64 z5.z]), (.pointer (some ⟨b_k, 0, none⟩)), (.pointer (some ⟨b_n, 0, none⟩))].toArray) s11 rfl (by decide) (fun _ => by kernel_rfl) (clean_round_side0_ok (av A _) _ s11.av_fresh z27 z34 z5 b_k _ (s11.keep.at_ hb_k) n b_n _ (s11.keep.at_ hb_n) (by first | assumption | exact hok _ (List.mem_of_getElem? (by assumption)) | exact hok _ (hcm _ (List.mem_of_getElem? (by assumption)))) (by first | assumption | exact hok _ (List.mem_of_getElem? (by assumption)) | exact hok _ (hcm _ (List.mem_of_getElem? (by assumption)))) (by first | assumption | exact hok _ (List.mem_of_getElem? (by assumption)) | exact hok _ (hcm _ (List.mem_of_getElem? (by assumption))))) (fun _ w36 s36 ev36 kp36 hv_ => ?_))
      obtain rfl := hv_
      have hH37 := hH35.keep (i := 18) kp36 rfl
      refine ⟨hH37, ?_⟩
      refine XA.valD 19 32 (.bool (decide ((cmp128 ((nrmOf z27 z34 z5).at 0) 0 * cmp128 (n.at 0) 0) ≤ 0))) rfl (by kernel_rfl) (by kernel_rfl) (by kernel_rfl) rfl (by kernel_rfl) rfl hH37 (fun hH38 => ?_)
      refine XA.valD 20 33 (.bool (decide ((cmp128 ((nrmOf z27 z34 z5).at 0) 0 * cmp128 (n.at 0) 0) ≤ 0))) rfl (by kernel_rfl) (by kernel_rfl) (by kernel_rfl) rfl (by kernel_rfl) rfl hH38 (fun hH39 => ?_)
      refine XA.done (by kernel_rfl) (thn_norm ?_)
      refine XC.cond_d ((cmp128 ((nrmOf z27 z34 z5).at 0) 0 * cmp128 (n.at 0) 0) ≤ 0) rfl (fun hc40 => ?_) (fun hc40 => ?_)
      · skip
        refine XC.skip (thn_norm ?_)
        refine XC.block ?_
        refine XC.region ?_
        refine XS.vals' 3 [(34, .slice (some ⟨rb24, ro25, none⟩) ((cur).length) rc9), (35, .slice (some ⟨rb24, ro25, none⟩) ((cur).length) rc9), (36, .int .i64 ((cur).length : Int))] (by kernel_rfl) ?_
        refine XS.op rfl rfl (XO.arith (k := .i64) (r := ((cur).length : Int) - 1) rfl (by decide) (fun _ => by kernel_rfl) (wrap_i64 (by (have hs1_ := half_len2 (sideOf 0 n) l i; first | omega | (rw [List.length_append]; simp only [List.length_cons, List.length_nil]; omega)))) ?_)
        refine XS.op rfl rfl (XO.rowHi (i := 0) (h := ((cur).length - 1)) (e := 24) (sz' := 3) s36 rfl rfl rfl (by decide) rfl rfl (by omega) (by (have hs1_ := half_len2 (sideOf 0 n) l i; first | omega | (rw [List.length_append]; simp only [List.length_cons, List.length_nil]; omega))) (by kernel_rfl) (by kernel_rfl) (fun s41 ev41 => ?_))
        have hel42 := Els.take (((hel9.mono (ev11.trans ev36))).mono ev41) ((cur).length - 1)
        refine XS.vals' 1 [(4, .slice (some ⟨rb24, ro25, none⟩) ((cur).length - 1) rc9)] (by kernel_rfl) ?_
        refine XS.done rfl (inBlk_norm (thn_norm ?_))
        have heq43 : (List.take ((cur).length - 1) (cur)) = (List.take (cur.length - 1) cur) := (by rfl)
        have hln44 : ((List.take (cur.length - 1) cur)).length = (cur).length - 1 := by first | (rw [← heq43]; done) | (rw [← heq43]; symm; exact (by simp only [List.length_take]; (have hs1_ := half_len2 (sideOf 0 n) l i; first | omega | (rw [List.length_append]; simp only [List.length_cons, List.length_nil]; omega))))
        refine ⟨(List.take (cur.length - 1) cur).length + 1, ?_, ?_⟩
        · rw [List.length_take]; omega
        exact ⟨(List.take (cur.length - 1) cur), (some ⟨rb24, ro25, none⟩), rc9, (List.take (((cur).length - 1) * 3) rcs9), ⟨rfl, rfl, (by rw [hln44] <;> rfl), rfl, rfl, rfl, rfl, rfl, rfl, rfl, trivial⟩, (by rw [hln44]; exact s41), (by rw [hln44]; exact (ev10.trans (ev11.trans (ev36.trans ev41)))), (by rw [List.length_take]; omega), ((fun p hp => hcm p (List.mem_of_mem_take hp))), ((pop_go' (by omega) hz27 hz34 hc40).trans hI), ((by rw [← heq43]; exact hel42)), rfl⟩
      · skip
        refine XC.exit (thn_exit (thn_exit (inBlk_hit (thn_norm ?_))))
        refine XC.region ?_
        refine XS.vals' 1 [(39, .slice (some ⟨rb24, ro25, none⟩) ((cur).length) rc9)] (by kernel_rfl) ?_
        refine XS.op rfl rfl (XO.loadS (i := 1) (v := .agg #[.int .i64 z5.x, .int .i64 z5.y, .int .i64 z5.z]) (g := true) (m := 3) s36 rfl rfl rfl (by decide) rfl (by kernel_rfl) (by kernel_rfl) rfl rfl rfl ?_)
        refine XS.op rfl rfl (XO.newSl (k := 1) (cs := [.int .i64 z5.x, .int .i64 z5.y, .int .i64 z5.z]) (T := 24) s36 rfl (by decide) (fun _ => by kernel_rfl) (fun b45 w46 s46 ev46 kp46 ybb45 => ?_))
        have hroom48 : ((cur).length + 1) * 24 ≤ 140737488355328 := by (have hs1_ := half_len2 (sideOf 0 n) l i; first | omega | (rw [List.length_append]; simp only [List.length_cons, List.length_nil]; omega))
        refine XS.op rfl rfl (XO.append (k' := ((cur) ++ [z5]).length) (i := 0) (cs := rcs9) (new := [.int .i64 z5.x, .int .i64 z5.y, .int .i64 z5.z]) (sz := 3) (bytes := 24) (z := .agg #[.int .i64 0, .int .i64 0, .int .i64 0]) (k := ((cur).length)) (m := 1) (by first | rfl | (simp only [List.length_append, List.length_cons, List.length_nil]; done) | (simp only [List.length_append, List.length_cons, List.length_nil]; omega)) s46 rfl rfl rfl (by decide) rfl rfl (by kernel_rfl) (by kernel_rfl) (by kernel_rfl) (by kernel_rfl) rfl rfl (Src.cells (o := 0) (m := 1) (s46.at_ (i := 2) rfl) (Nat.le_of_ble_eq_true rfl)) rfl (by exact hroom48) (fun ra49 rc50 w47 s47 ev47 kp47 => ?_))
        have hel51 := Els.snoc (((hel9.mono (ev11.trans (ev36.trans ev46)))).mono ev47) (show Tp.R tPt _ _ _ z5 from rfl)
        refine XS.vals' 1 [(4, .slice ra49 (((cur) ++ [z5]).length) rc50)] (by kernel_rfl) ?_
        refine XS.done rfl (inBlk_norm (thn_norm ?_))
        refine XC.region ?_
        refine XS.op rfl rfl (XO.arith (k := .i64) (r := (i : Int) + 1) rfl (by decide) (fun _ => by kernel_rfl) (wrap_i64 (by (have hs1_ := half_len2 (sideOf 0 n) l i; first | omega | (rw [List.length_append]; simp only [List.length_cons, List.length_nil]; omega)))) ?_)
        refine XS.vals' 1 [(9, .int .i64 ((i : Int) + 1))] (by kernel_rfl) ?_
        refine XS.done rfl (thn_norm ?_)
        have heq52 : ((cur) ++ [z5]) = halfOf (sideOf 0 n) (l.take (i + 1)) := (half_step hz5 hI (pop_stop' (by omega) hz27 hz34 hc40))
        have hln53 : (halfOf (sideOf 0 n) (l.take (i + 1))).length = ((cur) ++ [z5]).length := by first | (rw [← heq52]; done) | (rw [← heq52]; symm; exact rfl)
        refine ⟨l.length - (i + 1), ?_, ?_⟩
        · omega
        exact ⟨i + 1, ra49, rc50, (rcs9 ++ [.int .i64 z5.x, .int .i64 z5.y, .int .i64 z5.z]), ⟨rfl, rfl, (by rw [hln53] <;> rfl), rfl, rfl, (congrArg (Value.int .i64) (by first | rfl | omega : ((i : Int) + 1 : Int) = _)), trivial⟩, (by rw [hln53]; exact (s47.drop (.cons_cons _ (.cons _ (.cons _ List.Sublist.slnil))))), (by rw [hln53]; exact (Evo.trans (ev3.trans (ev7.trans (ev8.trans (ev10.trans (ev11.trans (ev36.trans (ev46.trans ev47))))))) (Evo.drop (.cons_cons _ (.cons _ (.cons _ List.Sublist.slnil)))))), (by omega), ((by rw [← heq52]; exact hel51)), rfl⟩
    · skip
      refine XA.valD 4 17 (undef) rfl (by kernel_rfl) (by kernel_rfl) (by kernel_rfl) rfl (by kernel_rfl) rfl hH16 (fun hH54 => ?_)
      refine XA.valD 5 18 (undef) rfl (by kernel_rfl) (by kernel_rfl) (by kernel_rfl) rfl (by kernel_rfl) rfl hH54 (fun hH55 => ?_)
      refine XA.valD 6 19 (undef) rfl (by kernel_rfl) (by kernel_rfl) (by kernel_rfl) rfl (by kernel_rfl) rfl hH55 (fun hH56 => ?_)
      refine XA.valD 7 20 (undef) rfl (by kernel_rfl) (by kernel_rfl) (by kernel_rfl) rfl (by kernel_rfl) rfl hH56 (fun hH57 => ?_)
      refine XA.valD 8 21 (undef) rfl (by kernel_rfl) (by kernel_rfl) (by kernel_rfl) rfl (by kernel_rfl) rfl hH57 (fun hH58 => ?_)
      refine XA.valD 9 22 (undef) rfl (by kernel_rfl) (by kernel_rfl) (by kernel_rfl) rfl (by kernel_rfl) rfl hH58 (fun hH59 => ?_)
      refine XA.valD 10 23 (undef) rfl (by kernel_rfl) (by kernel_rfl) (by kernel_rfl) rfl (by kernel_rfl) rfl hH59 (fun hH60 => ?_)
      refine XA.valD 11 24 (undef) rfl (by kernel_rfl) (by kernel_rfl) (by kernel_rfl) rfl (by kernel_rfl) rfl hH60 (fun hH61 => ?_)
      refine XA.valD 12 25 (undef) rfl (by kernel_rfl) (by kernel_rfl) (by kernel_rfl) rfl (by kernel_rfl) rfl hH61 (fun hH62 => ?_)
      refine XA.valD 13 26 (undef) rfl (by kernel_rfl) (by kernel_rfl) (by kernel_rfl) rfl (by kernel_rfl) rfl hH62 (fun hH63 => ?_)
      refine XA.valD 14 27 (undef) rfl (by kernel_rfl) (by kernel_rfl) (by kernel_rfl) rfl (by kernel_rfl) rfl hH63 (fun hH64 => ?_)
      refine XA.valD 15 28 (undef) rfl (by kernel_rfl) (by kernel_rfl) (by kernel_rfl) rfl (by kernel_rfl) rfl hH64 (fun hH65 => ?_)
      refine XA.valD 16 29 (undef) rfl (by kernel_rfl) (by kernel_rfl) (by kernel_rfl) rfl (by kernel_rfl) rfl hH65 (fun hH66 => ?_)
      refine XA.valD 17 30 (undef) rfl (by kernel_rfl) (by kernel_rfl) (by kernel_rfl) rfl (by kernel_rfl) rfl hH66 (fun hH67 => ?_)
      refine XA.valD 18 31 (undef) rfl (by kernel_rfl) (by kernel_rfl) (by kernel_rfl) rfl (by kernel_rfl) rfl hH67 (fun hH68 => ?_)
      refine XA.valD 19 32 (undef) rfl (by kernel_rfl) (by kernel_rfl) (by kernel_rfl) rfl (by kernel_rfl) rfl hH68 (fun hH69 => ?_)
      refine XA.valD 20 33 (.bool false) rfl (by kernel_rfl) (by kernel_rfl) (by kernel_rfl) rfl (by kernel_rfl) rfl hH69 (fun hH70 => ?_)
      refine XA.done (by kernel_rfl) (thn_norm ?_)
      refine XC.cond_f rfl ?_
      refine XC.exit (thn_exit (thn_exit (inBlk_hit (thn_norm ?_))))
      refine XC.region ?_
      refine XS.vals' 1 [(39, .slice ra9 ((cur).length) rc9)] (by kernel_rfl) ?_
      refine XS.op rfl rfl (XO.loadS (i := 1) (v := .agg #[.int .i64 z5.x, .int .i64 z5.y, .int .i64 z5.z]) (g := true) (m := 3) s11 rfl rfl rfl (by decide) rfl (by kernel_rfl) (by kernel_rfl) rfl rfl rfl ?_)
      refine XS.op rfl rfl (XO.newSl (k := 1) (cs := [.int .i64 z5.x, .int .i64 z5.y, .int .i64 z5.z]) (T := 24) s11 rfl (by decide) (fun _ => by kernel_rfl) (fun b71 w72 s72 ev72 kp72 ybb71 => ?_))
      have hroom74 : ((cur).length + 1) * 24 ≤ 140737488355328 := by (have hs1_ := half_len2 (sideOf 0 n) l i; first | omega | (rw [List.length_append]; simp only [List.length_cons, List.length_nil]; omega))
      refine XS.op rfl rfl (XO.append (k' := ((cur) ++ [z5]).length) (i := 0) (cs := rcs9) (new := [.int .i64 z5.x, .int .i64 z5.y, .int .i64 z5.z]) (sz := 3) (bytes := 24) (z := .agg #[.int .i64 0, .int .i64 0, .int .i64 0]) (k := ((cur).length)) (m := 1) (by first | rfl | (simp only [List.length_append, List.length_cons, List.length_nil]; done) | (simp only [List.length_append, List.length_cons, List.length_nil]; omega)) s72 rfl rfl rfl (by decide) rfl rfl (by kernel_rfl) (by kernel_rfl) (by kernel_rfl) (by kernel_rfl) rfl rfl (Src.cells (o := 0) (m := 1) (s72.at_ (i := 2) rfl) (Nat.le_of_ble_eq_true rfl)) rfl (by exact hroom74) (fun ra75 rc76 w73 s73 ev73 kp73 => ?_))
      have hel77 := Els.snoc (((hel9.mono (ev11.trans ev72))).mono ev73) (show Tp.R tPt _ _ _ z5 from rfl)
      refine XS.vals' 1 [(4, .slice ra75 (((cur) ++ [z5]).length) rc76)] (by kernel_rfl) ?_
      refine XS.done rfl (inBlk_norm (thn_norm ?_))
      refine XC.region ?_
      refine XS.op rfl rfl (XO.arith (k := .i64) (r := (i : Int) + 1) rfl (by decide) (fun _ => by kernel_rfl) (wrap_i64 (by (have hs1_ := half_len2 (sideOf 0 n) l i; first | omega | (rw [List.length_append]; simp only [List.length_cons, List.length_nil]; omega)))) ?_)
      refine XS.vals' 1 [(9, .int .i64 ((i : Int) + 1))] (by kernel_rfl) ?_
      refine XS.done rfl (thn_norm ?_)
      have heq78 : ((cur) ++ [z5]) = halfOf (sideOf 0 n) (l.take (i + 1)) := (half_step hz5 hI (pop_short (by omega)))
      have hln79 : (halfOf (sideOf 0 n) (l.take (i + 1))).length = ((cur) ++ [z5]).length := by first | (rw [← heq78]; done) | (rw [← heq78]; symm; exact rfl)
      refine ⟨l.length - (i + 1), ?_, ?_⟩
      · omega
      exact ⟨i + 1, ra75, rc76, (rcs9 ++ [.int .i64 z5.x, .int .i64 z5.y, .int .i64 z5.z]), ⟨rfl, rfl, (by rw [hln79] <;> rfl), rfl, rfl, (congrArg (Value.int .i64) (by first | rfl | omega : ((i : Int) + 1 : Int) = _)), trivial⟩, (by rw [hln79]; exact (s73.drop (.cons_cons _ (.cons _ (.cons _ List.Sublist.slnil))))), (by rw [hln79]; exact (Evo.trans (ev3.trans (ev7.trans (ev8.trans (ev10.trans (ev11.trans (ev72.trans ev73)))))) (Evo.drop (.cons_cons _ (.cons _ (.cons _ List.Sublist.slnil)))))), (by omega), ((by rw [← heq78]; exact hel77)), rfl⟩
  · skip
    refine XC.exit (thn_exit (thn_exit (inBlk_hit (thn_norm ?_))))
    refine XC.seq ?_
    refine XC.region ?_
    refine XS.vals' 2 [(44, .slice ra2 ((halfOf (sideOf 0 n) (l.take i)).length) rc2), (3, .slice ra2 ((halfOf (sideOf 0 n) (l.take i)).length) rc2)] (by kernel_rfl) ?_
    refine XS.done rfl (thn_norm ?_)
    refine XC.ret ?_
    refine ⟨Or.inr rfl, .slice ra2 ((halfOf (sideOf 0 n) (l.take i)).length) rc2, fun a_ ha_ => results_t rfl ha_ rfl, s3.keep, ?_⟩
    have heq_ : (halfOf (sideOf 0 n) (l.take i)) = halfOf (sideOf 0 n) l := (by rw [List.take_of_length_le (by omega)])
    have hn_ : (halfOf (sideOf 0 n) (l.take i)).length = (halfOf (sideOf 0 n) l).length := by first | (rw [← heq_]; done) | (rw [← heq_]; exact rfl)
    have hr_ := Stt.rowNew s3 (i := 0) rfl
    have hel_ : Els tPt (av A [rowA (.slice ra2 ((halfOf (sideOf 0 n) (l.take i)).length) rc2) ((halfOf (sideOf 0 n) (l.take i)).length) rcs2 24 3]) w3 rcs2 (halfOf (sideOf 0 n) l) := by rw [← heq_]; exact hel2
    rw [hn_] at hr_
    try rw [hn_]
    exact ⟨_, _, _, rfl, hr_.1, hr_.2, hel_.mono Evo.out⟩

theorem clean_round_half1_ok (A : Nat → Prop) (w0 : World) (hA : ∀ b, w0.heap.size ≤ b → A b) (l : List Pt) (n_l : Nat) (e_l : n_l = l.length) (a_l : Option Addr) (c_l : Nat) (h_l : Sl tPt A w0 (.slice a_l l.length c_l) l) (n : Pt) (b_s b_k b_n : Nat) (T_s T_k T_n : TypeId) (hb_s : w0.heap[b_s]? = some (.cells [.func (.func 46) #[] #[.pointer (some ⟨b_k, 0, none⟩), .pointer (some ⟨b_n, 0, none⟩)]].toArray T_s (0, 0))) (hb_k : w0.heap[b_k]? = some (.cells [.int .i64 1].toArray T_k (0, 0))) (hb_n : w0.heap[b_n]? = some (.cells [.int .i64 (hi128 n.x), .int .u64 (lo128 n.x), .int .i64 (hi128 n.y), .int .u64 (lo128 n.y), .int .i64 (hi128 n.z), .int .u64 (lo128 n.z)].toArray T_n (0, 0))) (hok : ∀ p ∈ l, p.ok) (hlen : l.length ≤ 1048576)  : Cal Tryz.prog 47 [(.slice a_l n_l c_l), (.pointer (some ⟨b_s, 0, none⟩))].toArray w0 (fun v w' => Keep none_ w0 w' ∧ ∃ (ra0 : Option Addr) (rc0 : Nat) (rs0 : List Value), v = .slice ra0 ((halfOf (sideOf 1 n) l).length) rc0 ∧ (rowA (.slice ra0 (halfOf (sideOf 1 n) l).length rc0) (halfOf (sideOf 1 n) l).length rs0 24 3).holds w' ∧ (∀ b, (rowA (.slice ra0 (halfOf (sideOf 1 n) l).length rc0) (halfOf (sideOf 1 n) l).length rs0 24 3).blk b → w0.heap.size ≤ b) ∧ Els tPt A w' rs0 (halfOf (sideOf 1 n) l)) := by
  subst e_l
  have s0 : Stt A w0 none_ [] w0 := Stt.start hA none_
  have h_l_ := h_l.mono Evo.start
  refine Cal.intro (n := 45) Tryz.func47 rfl Tryz.ntmps47 rfl ?_
  refine XC.seq ?_
  refine XC.region ?_
  refine XS.vals' 1 [(3, .slice none 0 0)] (by kernel_rfl) ?_
  refine XS.done rfl (thn_norm ?_)
  refine XC.seq ?_
  refine XC.region ?_
  refine XS.vals' 1 [(4, .slice none 0 0)] (by kernel_rfl) ?_
  refine XS.done rfl (thn_norm ?_)
  refine XC.seq ?_
  refine XC.seq ?_
  refine XC.region ?_
  refine XS.vals' 3 [(7, .slice a_l l.length c_l), (8, .int .i64 (l.length : Int)), (9, .int .i64 0)] (by kernel_rfl) ?_
  refine XS.done rfl (thn_norm ?_)
  refine XC.block ?_
  have s1 := Stt.nilRow s0 24 3
  have ev1 := Evo.nilRow s0 24 3
  refine XC.loop (fun ρ_ w_ m_ => ∃ (i : Nat) (ra2 : Option Addr) (rc2 : Nat) (rcs2 : List Value), Has ρ_ [(1, .pointer (some ⟨b_s, 0, none⟩)), (3, .slice none 0 0), (4, .slice ra2 ((halfOf (sideOf 1 n) (l.take i)).length) rc2), (7, .slice a_l l.length c_l), (8, .int .i64 (l.length : Int)), (9, .int .i64 (i : Int))] ∧ Stt A w0 none_ [rowA (.slice ra2 ((halfOf (sideOf 1 n) (l.take i)).length) rc2) ((halfOf (sideOf 1 n) (l.take i)).length) rcs2 24 3] w_ ∧ Evo (av A [rowA (.slice none 0 0) 0 ([]) 24 3]) w0 (av A [rowA (.slice ra2 ((halfOf (sideOf 1 n) (l.take i)).length) rc2) ((halfOf (sideOf 1 n) (l.take i)).length) rcs2 24 3]) w_ ∧ (i ≤ l.length) ∧ (Els tPt (av A [rowA (.slice ra2 ((halfOf (sideOf 1 n) (l.take i)).length) rc2) ((halfOf (sideOf 1 n) (l.take i)).length) rcs2 24 3]) w_ rcs2 (halfOf (sideOf 1 n) (l.take i))) ∧ m_ = l.length - i) (l.length - 0) ?_ ?_
  · skip
    exact ⟨0, none, 0, [], ⟨rfl, rfl, rfl, rfl, rfl, (congrArg (Value.int .i64) (by first | rfl | omega : (0 : Int) = _)), trivial⟩, s1, Evo.refl _ _, (by omega), ((Els.nil (τ := tPt))), rfl⟩
  rintro _ ρw3 w3 ⟨i, ra2, rc2, rcs2, hh3, s3, ev3, hi, hel2, rfl⟩
  refine XC.rebase hh3 ?_
  refine XC.seq ?_
  refine XC.region ?_
  refine XS.vals' 1 [(10, .bool (decide ((i : Int) < (l.length : Int))))] (by kernel_rfl) ?_
  refine XS.done rfl (thn_norm ?_)
  refine XC.seq ?_
  refine XC.cond_d ((i : Int) < (l.length : Int)) rfl (fun hc4 => ?_) (fun hc4 => ?_)
  · skip
    refine XC.skip (thn_norm ?_)
    refine XC.seq ?_
    refine XC.block ?_
    refine XC.seq ?_
    refine XC.region ?_
    obtain ⟨z5, hz5⟩ := get_some (xs := l) (i := i) (by (have hs1_ := half_len2 (sideOf 1 n) l i; first | omega | (rw [List.length_append]; simp only [List.length_cons, List.length_nil]; omega)))
    refine XS.op rfl rfl (XO.elem (i := i) (z := z5) (e := 24) (sz := 3) (h_l_.mono (ev1.trans ev3)) hz5 rfl rfl (by decide) rfl rfl (by omega) (by kernel_rfl) (by kernel_rfl) ?_)
    refine XS.op rfl rfl (XO.loadE (i := i) (f := 0) (sz := 3) (g := true) (z := z5) (h_l_.mono (ev1.trans ev3)) hz5 rfl rfl (by decide) rfl (by first | rfl | omega) (by kernel_rfl) (by kernel_rfl) rfl rfl (fun cs_ hcs_ => ?_))
    obtain rfl := hcs_
    refine XS.op rfl rfl (XO.new (cs := [.int .i64 0, .int .i64 0, .int .i64 0]) (T := 24) s3 rfl (by decide) (fun _ => by kernel_rfl) (fun b6 w7 s7 ev7 kp7 ybb6 => ?_))
    refine XS.op rfl rfl (XO.storeS (i := 1) (v := .agg #[.int .i64 z5.x, .int .i64 z5.y, .int .i64 z5.z]) (m := 3) (cs' := [.int .i64 z5.x, .int .i64 z5.y, .int .i64 z5.z]) s7 rfl rfl rfl rfl rfl (by kernel_rfl) rfl rfl rfl rfl (fun w8 s8 ev8 kp8 => ?_))
    refine XS.done rfl (thn_norm ?_)
    refine XC.seq ?_
    refine XC.block ?_
    refine XC.loop (fun ρ_ w_ m_ => ∃ (cur : List Pt) (ra9 : Option Addr) (rc9 : Nat) (rcs9 : List Value), Has ρ_ [(1, .pointer (some ⟨b_s, 0, none⟩)), (3, .slice none 0 0), (4, .slice ra9 ((cur).length) rc9), (6, .pointer (some ⟨b6, 0, none⟩)), (7, .slice a_l l.length c_l), (8, .int .i64 (l.length : Int)), (9, .int .i64 (i : Int)), (10, .bool (decide ((i : Int) < (l.length : Int)))), (11, elemP a_l (i * 3)), (12, .agg #[.int .i64 z5.x, .int .i64 z5.y, .int .i64 z5.z])] ∧ Stt A w0 none_ [rowA (.slice ra9 ((cur).length) rc9) ((cur).length) rcs9 24 3, cellsA b6 [.int .i64 z5.x, .int .i64 z5.y, .int .i64 z5.z] 24] w_ ∧ Evo (av A [rowA (.slice ra2 ((halfOf (sideOf 1 n) (l.take i)).length) rc2) ((halfOf (sideOf 1 n) (l.take i)).length) rcs2 24 3, cellsA b6 [.int .i64 z5.x, .int .i64 z5.y, .int .i64 z5.z] 24]) w8 (av A [rowA (.slice ra9 ((cur).length) rc9) ((cur).length) rcs9 24 3, cellsA b6 [.int .i64 z5.x, .int .i64 z5.y, .int .i64 z5.z] 24]) w_ ∧ (cur.length ≤ l.length ∧ cur.length ≤ i) ∧ (∀ p ∈ cur, p ∈ l) ∧ (pop (sideOf 1 n) z5 cur = pop (sideOf 1 n) z5 (halfOf (sideOf 1 n) (l.take i))) ∧ (Els tPt (av A [rowA (.slice ra9 ((cur).length) rc9) ((cur).length) rcs9 24 3, cellsA b6 [.int .i64 z5.x, .int .i64 z5.y, .int .i64 z5.z] 24]) w_ rcs9 (cur)) ∧ m_ = cur.length + 1) ((halfOf (sideOf 1 n) (l.take i)).length + 1) ?_ ?_
    · skip
      exact ⟨(halfOf (sideOf 1 n) (l.take i)), ra2, rc2, rcs2, ⟨rfl, rfl, rfl, rfl, rfl, rfl, rfl, rfl, rfl, rfl, trivial⟩, s8, Evo.refl _ _, (half_len2 _ _ _), (half_sub _ _ _), (rfl), ((hel2.mono (ev7.trans ev8))), rfl⟩
    rintro _ ρw10 w10 ⟨cur, ra9, rc9, rcs9, hh10, s10, ev10, hcl, hcm, hI, hel9, rfl⟩
    refine XC.rebase hh10 ?_
    refine XC.seq ?_
    refine XC.seq ?_
    refine XC.drawS 21 rfl (fun _ => False) 21 (by kernel_rfl) s10 (fun w11 s11 ev11 kp11 hH12 => ?_)
    refine XA.valD 0 13 (.slice ra9 ((cur).length) rc9) rfl (by kernel_rfl) (by kernel_rfl) (by kernel_rfl) rfl (by kernel_rfl) rfl hH12 (fun hH13 => ?_)
    refine XA.valD 1 14 (.int .i64 ((cur).length : Int)) rfl (by kernel_rfl) (by kernel_rfl) (by kernel_rfl) rfl (by kernel_rfl) rfl hH13 (fun hH14 => ?_)
    refine XA.valD 2 15 (.bool (decide (((cur).length : Int) > 1))) rfl (by kernel_rfl) (by kernel_rfl) (by kernel_rfl) rfl (by kernel_rfl) rfl hH14 (fun hH15 => ?_)
    refine XA.valD 3 16 (.bool (decide (((cur).length : Int) > 1))) rfl (by kernel_rfl) (by kernel_rfl) (by kernel_rfl) rfl (by kernel_rfl) rfl hH15 (fun hH16 => ?_)
    refine XA.onD 16 (((cur).length : Int) > 1) rfl (fun hg17 => ?_) (fun hg17 => ?_)
    · skip
      refine XA.loadB (j := 4) (v := .func (.func 46) #[] #[.pointer (some ⟨b_k, 0, none⟩), .pointer (some ⟨b_n, 0, none⟩)]) (g := false) (m := 1) s11 hb_s rfl (by kernel_rfl) (by kernel_rfl) (by kernel_rfl) rfl (fun h => h) (by kernel_rfl) rfl rfl (by decide) hH16 rfl (by kernel_rfl) (by kernel_rfl) rfl rfl rfl (fun hH18 => ?_)
      refine XA.valD 5 18 (.slice ra9 ((cur).length) rc9) rfl (by kernel_rfl) (by kernel_rfl) (by kernel_rfl) rfl (by kernel_rfl) rfl hH18 (fun hH19 => ?_)
      refine XA.valD 6 19 (.slice ra9 ((cur).length) rc9) rfl (by kernel_rfl) (by kernel_rfl) (by kernel_rfl) rfl (by kernel_rfl) rfl hH19 (fun hH20 => ?_)
      refine XA.valD 7 20 (.int .i64 ((cur).length : Int)) rfl (by kernel_rfl) (by kernel_rfl) (by kernel_rfl) rfl (by kernel_rfl) rfl hH20 (fun hH21 => ?_)
      refine XA.arith (p := 8) (k := .i64) (r := ((cur).length : Int) - 2) rfl (by kernel_rfl) (by kernel_rfl) (by kernel_rfl) rfl (by kernel_rfl) rfl (by decide) (fun _ => by kernel_rfl) (wrap_i64 (by (have hs1_ := half_len2 (sideOf 1 n) l i; first | omega | (rw [List.length_append]; simp only [List.length_cons, List.length_nil]; omega)))) hH21 (fun hH22 => ?_)
      obtain ⟨rb24, ro25, rfl⟩ := row_addr (s11.at_ (i := 0) rfl) (by (have hs1_ := half_len2 (sideOf 1 n) l i; first | omega | (rw [List.length_append]; simp only [List.length_cons, List.length_nil]; omega)))
      refine XA.index (p := 9) (i := ((cur).length - 2)) (e := 24) (sz := 3) rfl (by kernel_rfl) (by kernel_rfl) (by kernel_rfl) rfl (by kernel_rfl) rfl rfl (by decide) rfl rfl (by omega) (by (have hs1_ := half_len2 (sideOf 1 n) l i; first | omega | (rw [List.length_append]; simp only [List.length_cons, List.length_nil]; omega))) (by kernel_rfl) (by kernel_rfl) hH22 (fun hH23 => ?_)
      obtain ⟨z27, hz27⟩ := get_some (xs := (cur)) (i := (cur).length - 2) (by (have hs1_ := half_len2 (sideOf 1 n) l i; first | omega | (rw [List.length_append]; simp only [List.length_cons, List.length_nil]; omega)))
      refine XA.loadRow false (p := 10) (q := 0) (j := ((cur).length - 2)) (z := z27) (g := true) s11 rfl (hel9.mono ev11) rfl hz27 rfl rfl (by kernel_rfl) (by kernel_rfl) (by kernel_rfl) rfl rfl (fun _ h => h) (by kernel_rfl) rfl rfl (by decide) hH23 rfl (by first | rfl | omega) (by kernel_rfl) (by kernel_rfl) rfl (fun cs_ hcs_ hH26 => ?_)
      obtain rfl := hcs_
      refine XA.valD 11 24 (.slice (some ⟨rb24, ro25, none⟩) ((cur).length) rc9) rfl (by kernel_rfl) (by kernel_rfl) (by kernel_rfl) rfl (by kernel_rfl) rfl hH26 (fun hH28 => ?_)
      refine XA.valD 12 25 (.slice (some ⟨rb24, ro25, none⟩) ((cur).length) rc9) rfl (by kernel_rfl) (by kernel_rfl) (by kernel_rfl) rfl (by kernel_rfl) rfl hH28 (fun hH29 => ?_)
      refine XA.valD 13 26 (.int .i64 ((cur).length : Int)) rfl (by kernel_rfl) (by kernel_rfl) (by kernel_rfl) rfl (by kernel_rfl) rfl hH29 (fun hH30 => ?_)
      refine XA.arith (p := 14) (k := .i64) (r := ((cur).length : Int) - 1) rfl (by kernel_rfl) (by kernel_rfl) (by kernel_rfl) rfl (by kernel_rfl) rfl (by decide) (fun _ => by kernel_rfl) (wrap_i64 (by (have hs1_ := half_len2 (sideOf 1 n) l i; first | omega | (rw [List.length_append]; simp only [List.length_cons, List.length_nil]; omega)))) hH30 (fun hH31 => ?_)
      refine XA.index (p := 15) (i := ((cur).length - 1)) (e := 24) (sz := 3) rfl (by kernel_rfl) (by kernel_rfl) (by kernel_rfl) rfl (by kernel_rfl) rfl rfl (by decide) rfl rfl (by omega) (by (have hs1_ := half_len2 (sideOf 1 n) l i; first | omega | (rw [List.length_append]; simp only [List.length_cons, List.length_nil]; omega))) (by kernel_rfl) (by kernel_rfl) hH31 (fun hH32 => ?_)
      obtain ⟨z34, hz34⟩ := get_some (xs := (cur)) (i := (cur).length - 1) (by (have hs1_ := half_len2 (sideOf 1 n) l i; first | omega | (rw [List.length_append]; simp only [List.length_cons, List.length_nil]; omega)))
      refine XA.loadRow false (p := 16) (q := 0) (j := ((cur).length - 1)) (z := z34) (g := true) s11 rfl (hel9.mono ev11) rfl hz34 rfl rfl (by kernel_rfl) (by kernel_rfl) (by kernel_rfl) rfl rfl (fun _ h => h) (by kernel_rfl) rfl rfl (by decide) hH32 rfl (by first | rfl | omega) (by kernel_rfl) (by kernel_rfl) rfl (fun cs_ hcs_ hH33 => ?_)
      obtain rfl := hcs_
      refine XA.loadS false (j := 17) (i := 1) (v := .agg #[.int .i64 z5.x, .int .i64 z5.y, .int .i64 z5.z]) (g := true) (m := 3) s11 rfl rfl (by kernel_rfl) (by kernel_rfl) (by kernel_rfl) rfl (by kernel_rfl) (fun _ h => h) (by kernel_rfl) rfl rfl (by decide) hH33 rfl (by kernel_rfl) (by kernel_rfl) rfl rfl rfl (fun hH35 => ?_)
      refine XA.op (i := 18) rfl (by kernel_rfl) (by kernel_rfl) (XO.callS (f := 46) (args := [(.agg #[.int .i64 z27.x, .int .i64 z27.y, .int .i64 z27.z]), (.agg #[.int .i64 z34.x, .int .i64 z34.y, .int .i64 z34.z]), (.agg #[.int .i64 z5.x, .int .i64 z5.y, .int .i64 z5.z]), (.pointer (some ⟨b_k, 0, none⟩)), (.pointer (some ⟨b_n, 0, none⟩))].toArray) s11 rfl (by decide) (fun _ => by kernel_rfl) (clean_round_side1_ok (av A _) _ s11.av_fresh z27 z34 z5 b_k _ (s11.keep.at_ hb_k) n b_n _ (s11.keep.at_ hb_n) (by first | assumption | exact hok _ (List.mem_of_getElem? (by assumption)) | exact hok _ (hcm _ (List.mem_of_getElem? (by assumption)))) (by first | assumption | exact hok _ (List.mem_of_getElem? (by assumption)) | exact hok _ (hcm _ (List.mem_of_getElem? (by assumption)))) (by first | assumption | exact hok _ (List.mem_of_getElem? (by assumption)) | exact hok _ (hcm _ (List.mem_of_getElem? (by assumption))))) (fun _ w36 s36 ev36 kp36 hv_ => ?_))
      obtain rfl := hv_
      have hH37 := hH35.keep (i := 18) kp36 rfl
      refine ⟨hH37, ?_⟩
      refine XA.valD 19 32 (.bool (decide ((cmp128 ((nrmOf z27 z34 z5).at 1) 0 * cmp128 (n.at 1) 0) ≤ 0))) rfl (by kernel_rfl) (by kernel_rfl) (by kernel_rfl) rfl (by kernel_rfl) rfl hH37 (fun hH38 => ?_)
      refine XA.valD 20 33 (.bool (decide ((cmp128 ((nrmOf z27 z34 z5).at 1) 0 * cmp128 (n.at 1) 0) ≤ 0))) rfl (by kernel_rfl) (by kernel_rfl) (by kernel_rfl) rfl (by kernel_rfl) rfl hH38 (fun hH39 => ?_)
      refine XA.done (by kernel_rfl) (thn_norm ?_)
      refine XC.cond_d ((cmp128 ((nrmOf z27 z34 z5).at 1) 0 * cmp128 (n.at 1) 0) ≤ 0) rfl (fun hc40 => ?_) (fun hc40 => ?_)
      · skip
        refine XC.skip (thn_norm ?_)
        refine XC.block ?_
        refine XC.region ?_
        refine XS.vals' 3 [(34, .slice (some ⟨rb24, ro25, none⟩) ((cur).length) rc9), (35, .slice (some ⟨rb24, ro25, none⟩) ((cur).length) rc9), (36, .int .i64 ((cur).length : Int))] (by kernel_rfl) ?_
        refine XS.op rfl rfl (XO.arith (k := .i64) (r := ((cur).length : Int) - 1) rfl (by decide) (fun _ => by kernel_rfl) (wrap_i64 (by (have hs1_ := half_len2 (sideOf 1 n) l i; first | omega | (rw [List.length_append]; simp only [List.length_cons, List.length_nil]; omega)))) ?_)
        refine XS.op rfl rfl (XO.rowHi (i := 0) (h := ((cur).length - 1)) (e := 24) (sz' := 3) s36 rfl rfl rfl (by decide) rfl rfl (by omega) (by (have hs1_ := half_len2 (sideOf 1 n) l i; first | omega | (rw [List.length_append]; simp only [List.length_cons, List.length_nil]; omega))) (by kernel_rfl) (by kernel_rfl) (fun s41 ev41 => ?_))
        have hel42 := Els.take (((hel9.mono (ev11.trans ev36))).mono ev41) ((cur).length - 1)
        refine XS.vals' 1 [(4, .slice (some ⟨rb24, ro25, none⟩) ((cur).length - 1) rc9)] (by kernel_rfl) ?_
        refine XS.done rfl (inBlk_norm (thn_norm ?_))
        have heq43 : (List.take ((cur).length - 1) (cur)) = (List.take (cur.length - 1) cur) := (by rfl)
        have hln44 : ((List.take (cur.length - 1) cur)).length = (cur).length - 1 := by first | (rw [← heq43]; done) | (rw [← heq43]; symm; exact (by simp only [List.length_take]; (have hs1_ := half_len2 (sideOf 1 n) l i; first | omega | (rw [List.length_append]; simp only [List.length_cons, List.length_nil]; omega))))
        refine ⟨(List.take (cur.length - 1) cur).length + 1, ?_, ?_⟩
        · rw [List.length_take]; omega
        exact ⟨(List.take (cur.length - 1) cur), (some ⟨rb24, ro25, none⟩), rc9, (List.take (((cur).length - 1) * 3) rcs9), ⟨rfl, rfl, (by rw [hln44] <;> rfl), rfl, rfl, rfl, rfl, rfl, rfl, rfl, trivial⟩, (by rw [hln44]; exact s41), (by rw [hln44]; exact (ev10.trans (ev11.trans (ev36.trans ev41)))), (by rw [List.length_take]; omega), ((fun p hp => hcm p (List.mem_of_mem_take hp))), ((pop_go' (by omega) hz27 hz34 hc40).trans hI), ((by rw [← heq43]; exact hel42)), rfl⟩
      · skip
        refine XC.exit (thn_exit (thn_exit (inBlk_hit (thn_norm ?_))))
        refine XC.region ?_
        refine XS.vals' 1 [(39, .slice (some ⟨rb24, ro25, none⟩) ((cur).length) rc9)] (by kernel_rfl) ?_
        refine XS.op rfl rfl (XO.loadS (i := 1) (v := .agg #[.int .i64 z5.x, .int .i64 z5.y, .int .i64 z5.z]) (g := true) (m := 3) s36 rfl rfl rfl (by decide) rfl (by kernel_rfl) (by kernel_rfl) rfl rfl rfl ?_)
        refine XS.op rfl rfl (XO.newSl (k := 1) (cs := [.int .i64 z5.x, .int .i64 z5.y, .int .i64 z5.z]) (T := 24) s36 rfl (by decide) (fun _ => by kernel_rfl) (fun b45 w46 s46 ev46 kp46 ybb45 => ?_))
        have hroom48 : ((cur).length + 1) * 24 ≤ 140737488355328 := by (have hs1_ := half_len2 (sideOf 1 n) l i; first | omega | (rw [List.length_append]; simp only [List.length_cons, List.length_nil]; omega))
        refine XS.op rfl rfl (XO.append (k' := ((cur) ++ [z5]).length) (i := 0) (cs := rcs9) (new := [.int .i64 z5.x, .int .i64 z5.y, .int .i64 z5.z]) (sz := 3) (bytes := 24) (z := .agg #[.int .i64 0, .int .i64 0, .int .i64 0]) (k := ((cur).length)) (m := 1) (by first | rfl | (simp only [List.length_append, List.length_cons, List.length_nil]; done) | (simp only [List.length_append, List.length_cons, List.length_nil]; omega)) s46 rfl rfl rfl (by decide) rfl rfl (by kernel_rfl) (by kernel_rfl) (by kernel_rfl) (by kernel_rfl) rfl rfl (Src.cells (o := 0) (m := 1) (s46.at_ (i := 2) rfl) (Nat.le_of_ble_eq_true rfl)) rfl (by exact hroom48) (fun ra49 rc50 w47 s47 ev47 kp47 => ?_))
        have hel51 := Els.snoc (((hel9.mono (ev11.trans (ev36.trans ev46)))).mono ev47) (show Tp.R tPt _ _ _ z5 from rfl)
        refine XS.vals' 1 [(4, .slice ra49 (((cur) ++ [z5]).length) rc50)] (by kernel_rfl) ?_
        refine XS.done rfl (inBlk_norm (thn_norm ?_))
        refine XC.region ?_
        refine XS.op rfl rfl (XO.arith (k := .i64) (r := (i : Int) + 1) rfl (by decide) (fun _ => by kernel_rfl) (wrap_i64 (by (have hs1_ := half_len2 (sideOf 1 n) l i; first | omega | (rw [List.length_append]; simp only [List.length_cons, List.length_nil]; omega)))) ?_)
        refine XS.vals' 1 [(9, .int .i64 ((i : Int) + 1))] (by kernel_rfl) ?_
        refine XS.done rfl (thn_norm ?_)
        have heq52 : ((cur) ++ [z5]) = halfOf (sideOf 1 n) (l.take (i + 1)) := (half_step hz5 hI (pop_stop' (by omega) hz27 hz34 hc40))
        have hln53 : (halfOf (sideOf 1 n) (l.take (i + 1))).length = ((cur) ++ [z5]).length := by first | (rw [← heq52]; done) | (rw [← heq52]; symm; exact rfl)
        refine ⟨l.length - (i + 1), ?_, ?_⟩
        · omega
        exact ⟨i + 1, ra49, rc50, (rcs9 ++ [.int .i64 z5.x, .int .i64 z5.y, .int .i64 z5.z]), ⟨rfl, rfl, (by rw [hln53] <;> rfl), rfl, rfl, (congrArg (Value.int .i64) (by first | rfl | omega : ((i : Int) + 1 : Int) = _)), trivial⟩, (by rw [hln53]; exact (s47.drop (.cons_cons _ (.cons _ (.cons _ List.Sublist.slnil))))), (by rw [hln53]; exact (Evo.trans (ev3.trans (ev7.trans (ev8.trans (ev10.trans (ev11.trans (ev36.trans (ev46.trans ev47))))))) (Evo.drop (.cons_cons _ (.cons _ (.cons _ List.Sublist.slnil)))))), (by omega), ((by rw [← heq52]; exact hel51)), rfl⟩
    · skip
      refine XA.valD 4 17 (undef) rfl (by kernel_rfl) (by kernel_rfl) (by kernel_rfl) rfl (by kernel_rfl) rfl hH16 (fun hH54 => ?_)
      refine XA.valD 5 18 (undef) rfl (by kernel_rfl) (by kernel_rfl) (by kernel_rfl) rfl (by kernel_rfl) rfl hH54 (fun hH55 => ?_)
      refine XA.valD 6 19 (undef) rfl (by kernel_rfl) (by kernel_rfl) (by kernel_rfl) rfl (by kernel_rfl) rfl hH55 (fun hH56 => ?_)
      refine XA.valD 7 20 (undef) rfl (by kernel_rfl) (by kernel_rfl) (by kernel_rfl) rfl (by kernel_rfl) rfl hH56 (fun hH57 => ?_)
      refine XA.valD 8 21 (undef) rfl (by kernel_rfl) (by kernel_rfl) (by kernel_rfl) rfl (by kernel_rfl) rfl hH57 (fun hH58 => ?_)
      refine XA.valD 9 22 (undef) rfl (by kernel_rfl) (by kernel_rfl) (by kernel_rfl) rfl (by kernel_rfl) rfl hH58 (fun hH59 => ?_)
      refine XA.valD 10 23 (undef) rfl (by kernel_rfl) (by kernel_rfl) (by kernel_rfl) rfl (by kernel_rfl) rfl hH59 (fun hH60 => ?_)
      refine XA.valD 11 24 (undef) rfl (by kernel_rfl) (by kernel_rfl) (by kernel_rfl) rfl (by kernel_rfl) rfl hH60 (fun hH61 => ?_)
      refine XA.valD 12 25 (undef) rfl (by kernel_rfl) (by kernel_rfl) (by kernel_rfl) rfl (by kernel_rfl) rfl hH61 (fun hH62 => ?_)
      refine XA.valD 13 26 (undef) rfl (by kernel_rfl) (by kernel_rfl) (by kernel_rfl) rfl (by kernel_rfl) rfl hH62 (fun hH63 => ?_)
      refine XA.valD 14 27 (undef) rfl (by kernel_rfl) (by kernel_rfl) (by kernel_rfl) rfl (by kernel_rfl) rfl hH63 (fun hH64 => ?_)
      refine XA.valD 15 28 (undef) rfl (by kernel_rfl) (by kernel_rfl) (by kernel_rfl) rfl (by kernel_rfl) rfl hH64 (fun hH65 => ?_)
      refine XA.valD 16 29 (undef) rfl (by kernel_rfl) (by kernel_rfl) (by kernel_rfl) rfl (by kernel_rfl) rfl hH65 (fun hH66 => ?_)
      refine XA.valD 17 30 (undef) rfl (by kernel_rfl) (by kernel_rfl) (by kernel_rfl) rfl (by kernel_rfl) rfl hH66 (fun hH67 => ?_)
      refine XA.valD 18 31 (undef) rfl (by kernel_rfl) (by kernel_rfl) (by kernel_rfl) rfl (by kernel_rfl) rfl hH67 (fun hH68 => ?_)
      refine XA.valD 19 32 (undef) rfl (by kernel_rfl) (by kernel_rfl) (by kernel_rfl) rfl (by kernel_rfl) rfl hH68 (fun hH69 => ?_)
      refine XA.valD 20 33 (.bool false) rfl (by kernel_rfl) (by kernel_rfl) (by kernel_rfl) rfl (by kernel_rfl) rfl hH69 (fun hH70 => ?_)
      refine XA.done (by kernel_rfl) (thn_norm ?_)
      refine XC.cond_f rfl ?_
      refine XC.exit (thn_exit (thn_exit (inBlk_hit (thn_norm ?_))))
      refine XC.region ?_
      refine XS.vals' 1 [(39, .slice ra9 ((cur).length) rc9)] (by kernel_rfl) ?_
      refine XS.op rfl rfl (XO.loadS (i := 1) (v := .agg #[.int .i64 z5.x, .int .i64 z5.y, .int .i64 z5.z]) (g := true) (m := 3) s11 rfl rfl rfl (by decide) rfl (by kernel_rfl) (by kernel_rfl) rfl rfl rfl ?_)
      refine XS.op rfl rfl (XO.newSl (k := 1) (cs := [.int .i64 z5.x, .int .i64 z5.y, .int .i64 z5.z]) (T := 24) s11 rfl (by decide) (fun _ => by kernel_rfl) (fun b71 w72 s72 ev72 kp72 ybb71 => ?_))
      have hroom74 : ((cur).length + 1) * 24 ≤ 140737488355328 := by (have hs1_ := half_len2 (sideOf 1 n) l i; first | omega | (rw [List.length_append]; simp only [List.length_cons, List.length_nil]; omega))
      refine XS.op rfl rfl (XO.append (k' := ((cur) ++ [z5]).length) (i := 0) (cs := rcs9) (new := [.int .i64 z5.x, .int .i64 z5.y, .int .i64 z5.z]) (sz := 3) (bytes := 24) (z := .agg #[.int .i64 0, .int .i64 0, .int .i64 0]) (k := ((cur).length)) (m := 1) (by first | rfl | (simp only [List.length_append, List.length_cons, List.length_nil]; done) | (simp only [List.length_append, List.length_cons, List.length_nil]; omega)) s72 rfl rfl rfl (by decide) rfl rfl (by kernel_rfl) (by kernel_rfl) (by kernel_rfl) (by kernel_rfl) rfl rfl (Src.cells (o := 0) (m := 1) (s72.at_ (i := 2) rfl) (Nat.le_of_ble_eq_true rfl)) rfl (by exact hroom74) (fun ra75 rc76 w73 s73 ev73 kp73 => ?_))
      have hel77 := Els.snoc (((hel9.mono (ev11.trans ev72))).mono ev73) (show Tp.R tPt _ _ _ z5 from rfl)
      refine XS.vals' 1 [(4, .slice ra75 (((cur) ++ [z5]).length) rc76)] (by kernel_rfl) ?_
      refine XS.done rfl (inBlk_norm (thn_norm ?_))
      refine XC.region ?_
      refine XS.op rfl rfl (XO.arith (k := .i64) (r := (i : Int) + 1) rfl (by decide) (fun _ => by kernel_rfl) (wrap_i64 (by (have hs1_ := half_len2 (sideOf 1 n) l i; first | omega | (rw [List.length_append]; simp only [List.length_cons, List.length_nil]; omega)))) ?_)
      refine XS.vals' 1 [(9, .int .i64 ((i : Int) + 1))] (by kernel_rfl) ?_
      refine XS.done rfl (thn_norm ?_)
      have heq78 : ((cur) ++ [z5]) = halfOf (sideOf 1 n) (l.take (i + 1)) := (half_step hz5 hI (pop_short (by omega)))
      have hln79 : (halfOf (sideOf 1 n) (l.take (i + 1))).length = ((cur) ++ [z5]).length := by first | (rw [← heq78]; done) | (rw [← heq78]; symm; exact rfl)
      refine ⟨l.length - (i + 1), ?_, ?_⟩
      · omega
      exact ⟨i + 1, ra75, rc76, (rcs9 ++ [.int .i64 z5.x, .int .i64 z5.y, .int .i64 z5.z]), ⟨rfl, rfl, (by rw [hln79] <;> rfl), rfl, rfl, (congrArg (Value.int .i64) (by first | rfl | omega : ((i : Int) + 1 : Int) = _)), trivial⟩, (by rw [hln79]; exact (s73.drop (.cons_cons _ (.cons _ (.cons _ List.Sublist.slnil))))), (by rw [hln79]; exact (Evo.trans (ev3.trans (ev7.trans (ev8.trans (ev10.trans (ev11.trans (ev72.trans ev73)))))) (Evo.drop (.cons_cons _ (.cons _ (.cons _ List.Sublist.slnil)))))), (by omega), ((by rw [← heq78]; exact hel77)), rfl⟩
  · skip
    refine XC.exit (thn_exit (thn_exit (inBlk_hit (thn_norm ?_))))
    refine XC.seq ?_
    refine XC.region ?_
    refine XS.vals' 2 [(44, .slice ra2 ((halfOf (sideOf 1 n) (l.take i)).length) rc2), (3, .slice ra2 ((halfOf (sideOf 1 n) (l.take i)).length) rc2)] (by kernel_rfl) ?_
    refine XS.done rfl (thn_norm ?_)
    refine XC.ret ?_
    refine ⟨Or.inr rfl, .slice ra2 ((halfOf (sideOf 1 n) (l.take i)).length) rc2, fun a_ ha_ => results_t rfl ha_ rfl, s3.keep, ?_⟩
    have heq_ : (halfOf (sideOf 1 n) (l.take i)) = halfOf (sideOf 1 n) l := (by rw [List.take_of_length_le (by omega)])
    have hn_ : (halfOf (sideOf 1 n) (l.take i)).length = (halfOf (sideOf 1 n) l).length := by first | (rw [← heq_]; done) | (rw [← heq_]; exact rfl)
    have hr_ := Stt.rowNew s3 (i := 0) rfl
    have hel_ : Els tPt (av A [rowA (.slice ra2 ((halfOf (sideOf 1 n) (l.take i)).length) rc2) ((halfOf (sideOf 1 n) (l.take i)).length) rcs2 24 3]) w3 rcs2 (halfOf (sideOf 1 n) l) := by rw [← heq_]; exact hel2
    rw [hn_] at hr_
    try rw [hn_]
    exact ⟨_, _, _, rfl, hr_.1, hr_.2, hel_.mono Evo.out⟩

theorem clean_round_half2_ok (A : Nat → Prop) (w0 : World) (hA : ∀ b, w0.heap.size ≤ b → A b) (l : List Pt) (n_l : Nat) (e_l : n_l = l.length) (a_l : Option Addr) (c_l : Nat) (h_l : Sl tPt A w0 (.slice a_l l.length c_l) l) (n : Pt) (b_s b_k b_n : Nat) (T_s T_k T_n : TypeId) (hb_s : w0.heap[b_s]? = some (.cells [.func (.func 46) #[] #[.pointer (some ⟨b_k, 0, none⟩), .pointer (some ⟨b_n, 0, none⟩)]].toArray T_s (0, 0))) (hb_k : w0.heap[b_k]? = some (.cells [.int .i64 2].toArray T_k (0, 0))) (hb_n : w0.heap[b_n]? = some (.cells [.int .i64 (hi128 n.x), .int .u64 (lo128 n.x), .int .i64 (hi128 n.y), .int .u64 (lo128 n.y), .int .i64 (hi128 n.z), .int .u64 (lo128 n.z)].toArray T_n (0, 0))) (hok : ∀ p ∈ l, p.ok) (hlen : l.length ≤ 1048576)  : Cal Tryz.prog 47 [(.slice a_l n_l c_l), (.pointer (some ⟨b_s, 0, none⟩))].toArray w0 (fun v w' => Keep none_ w0 w' ∧ ∃ (ra0 : Option Addr) (rc0 : Nat) (rs0 : List Value), v = .slice ra0 ((halfOf (sideOf 2 n) l).length) rc0 ∧ (rowA (.slice ra0 (halfOf (sideOf 2 n) l).length rc0) (halfOf (sideOf 2 n) l).length rs0 24 3).holds w' ∧ (∀ b, (rowA (.slice ra0 (halfOf (sideOf 2 n) l).length rc0) (halfOf (sideOf 2 n) l).length rs0 24 3).blk b → w0.heap.size ≤ b) ∧ Els tPt A w' rs0 (halfOf (sideOf 2 n) l)) := by
  subst e_l
  have s0 : Stt A w0 none_ [] w0 := Stt.start hA none_
  have h_l_ := h_l.mono Evo.start
  refine Cal.intro (n := 45) Tryz.func47 rfl Tryz.ntmps47 rfl ?_
  refine XC.seq ?_
  refine XC.region ?_
  refine XS.vals' 1 [(3, .slice none 0 0)] (by kernel_rfl) ?_
  refine XS.done rfl (thn_norm ?_)
  refine XC.seq ?_
  refine XC.region ?_
  refine XS.vals' 1 [(4, .slice none 0 0)] (by kernel_rfl) ?_
  refine XS.done rfl (thn_norm ?_)
  refine XC.seq ?_
  refine XC.seq ?_
  refine XC.region ?_
  refine XS.vals' 3 [(7, .slice a_l l.length c_l), (8, .int .i64 (l.length : Int)), (9, .int .i64 0)] (by kernel_rfl) ?_
  refine XS.done rfl (thn_norm ?_)
  refine XC.block ?_
  have s1 := Stt.nilRow s0 24 3
  have ev1 := Evo.nilRow s0 24 3
  refine XC.loop (fun ρ_ w_ m_ => ∃ (i : Nat) (ra2 : Option Addr) (rc2 : Nat) (rcs2 : List Value), Has ρ_ [(1, .pointer (some ⟨b_s, 0, none⟩)), (3, .slice none 0 0), (4, .slice ra2 ((halfOf (sideOf 2 n) (l.take i)).length) rc2), (7, .slice a_l l.length c_l), (8, .int .i64 (l.length : Int)), (9, .int .i64 (i : Int))] ∧ Stt A w0 none_ [rowA (.slice ra2 ((halfOf (sideOf 2 n) (l.take i)).length) rc2) ((halfOf (sideOf 2 n) (l.take i)).length) rcs2 24 3] w_ ∧ Evo (av A [rowA (.slice none 0 0) 0 ([]) 24 3]) w0 (av A [rowA (.slice ra2 ((halfOf (sideOf 2 n) (l.take i)).length) rc2) ((halfOf (sideOf 2 n) (l.take i)).length) rcs2 24 3]) w_ ∧ (i ≤ l.length) ∧ (Els tPt (av A [rowA (.slice ra2 ((halfOf (sideOf 2 n) (l.take i)).length) rc2) ((halfOf (sideOf 2 n) (l.take i)).length) rcs2 24 3]) w_ rcs2 (halfOf (sideOf 2 n) (l.take i))) ∧ m_ = l.length - i) (l.length - 0) ?_ ?_
  · skip
    exact ⟨0, none, 0, [], ⟨rfl, rfl, rfl, rfl, rfl, (congrArg (Value.int .i64) (by first | rfl | omega : (0 : Int) = _)), trivial⟩, s1, Evo.refl _ _, (by omega), ((Els.nil (τ := tPt))), rfl⟩
  rintro _ ρw3 w3 ⟨i, ra2, rc2, rcs2, hh3, s3, ev3, hi, hel2, rfl⟩
  refine XC.rebase hh3 ?_
  refine XC.seq ?_
  refine XC.region ?_
  refine XS.vals' 1 [(10, .bool (decide ((i : Int) < (l.length : Int))))] (by kernel_rfl) ?_
  refine XS.done rfl (thn_norm ?_)
  refine XC.seq ?_
  refine XC.cond_d ((i : Int) < (l.length : Int)) rfl (fun hc4 => ?_) (fun hc4 => ?_)
  · skip
    refine XC.skip (thn_norm ?_)
    refine XC.seq ?_
    refine XC.block ?_
    refine XC.seq ?_
    refine XC.region ?_
    obtain ⟨z5, hz5⟩ := get_some (xs := l) (i := i) (by (have hs1_ := half_len2 (sideOf 2 n) l i; first | omega | (rw [List.length_append]; simp only [List.length_cons, List.length_nil]; omega)))
    refine XS.op rfl rfl (XO.elem (i := i) (z := z5) (e := 24) (sz := 3) (h_l_.mono (ev1.trans ev3)) hz5 rfl rfl (by decide) rfl rfl (by omega) (by kernel_rfl) (by kernel_rfl) ?_)
    refine XS.op rfl rfl (XO.loadE (i := i) (f := 0) (sz := 3) (g := true) (z := z5) (h_l_.mono (ev1.trans ev3)) hz5 rfl rfl (by decide) rfl (by first | rfl | omega) (by kernel_rfl) (by kernel_rfl) rfl rfl (fun cs_ hcs_ => ?_))
    obtain rfl := hcs_
    refine XS.op rfl rfl (XO.new (cs := [.int .i64 0, .int .i64 0, .int .i64 0]) (T := 24) s3 rfl (by decide) (fun _ => by kernel_rfl) (fun b6 w7 s7 ev7 kp7 ybb6 => ?_))
    refine XS.op rfl rfl (XO.storeS (i := 1) (v := .agg #[.int .i64 z5.x, .int .i64 z5.y, .int .i64 z5.z]) (m := 3) (cs' := [.int .i64 z5.x, .int .i64 z5.y, .int .i64 z5.z]) s7 rfl rfl rfl rfl rfl (by kernel_rfl) rfl rfl rfl rfl (fun w8 s8 ev8 kp8 => ?_))
    refine XS.done rfl (thn_norm ?_)
    refine XC.seq ?_
    refine XC.block ?_
    refine XC.loop (fun ρ_ w_ m_ => ∃ (cur : List Pt) (ra9 : Option Addr) (rc9 : Nat) (rcs9 : List Value), Has ρ_ [(1, .pointer (some ⟨b_s, 0, none⟩)), (3, .slice none 0 0), (4, .slice ra9 ((cur).length) rc9), (6, .pointer (some ⟨b6, 0, none⟩)), (7, .slice a_l l.length c_l), (8, .int .i64 (l.length : Int)), (9, .int .i64 (i : Int)), (10, .bool (decide ((i : Int) < (l.length : Int)))), (11, elemP a_l (i * 3)), (12, .agg #[.int .i64 z5.x, .int .i64 z5.y, .int .i64 z5.z])] ∧ Stt A w0 none_ [rowA (.slice ra9 ((cur).length) rc9) ((cur).length) rcs9 24 3, cellsA b6 [.int .i64 z5.x, .int .i64 z5.y, .int .i64 z5.z] 24] w_ ∧ Evo (av A [rowA (.slice ra2 ((halfOf (sideOf 2 n) (l.take i)).length) rc2) ((halfOf (sideOf 2 n) (l.take i)).length) rcs2 24 3, cellsA b6 [.int .i64 z5.x, .int .i64 z5.y, .int .i64 z5.z] 24]) w8 (av A [rowA (.slice ra9 ((cur).length) rc9) ((cur).length) rcs9 24 3, cellsA b6 [.int .i64 z5.x, .int .i64 z5.y, .int .i64 z5.z] 24]) w_ ∧ (cur.length ≤ l.length ∧ cur.length ≤ i) ∧ (∀ p ∈ cur, p ∈ l) ∧ (pop (sideOf 2 n) z5 cur = pop (sideOf 2 n) z5 (halfOf (sideOf 2 n) (l.take i))) ∧ (Els tPt (av A [rowA (.slice ra9 ((cur).length) rc9) ((cur).length) rcs9 24 3, cellsA b6 [.int .i64 z5.x, .int .i64 z5.y, .int .i64 z5.z] 24]) w_ rcs9 (cur)) ∧ m_ = cur.length + 1) ((halfOf (sideOf 2 n) (l.take i)).length + 1) ?_ ?_
    · skip
      exact ⟨(halfOf (sideOf 2 n) (l.take i)), ra2, rc2, rcs2, ⟨rfl, rfl, rfl, rfl, rfl, rfl, rfl, rfl, rfl, rfl, trivial⟩, s8, Evo.refl _ _, (half_len2 _ _ _), (half_sub _ _ _), (rfl), ((hel2.mono (ev7.trans ev8))), rfl⟩
    rintro _ ρw10 w10 ⟨cur, ra9, rc9, rcs9, hh10, s10, ev10, hcl, hcm, hI, hel9, rfl⟩
    refine XC.rebase hh10 ?_
    refine XC.seq ?_
    refine XC.seq ?_
    refine XC.drawS 21 rfl (fun _ => False) 21 (by kernel_rfl) s10 (fun w11 s11 ev11 kp11 hH12 => ?_)
    refine XA.valD 0 13 (.slice ra9 ((cur).length) rc9) rfl (by kernel_rfl) (by kernel_rfl) (by kernel_rfl) rfl (by kernel_rfl) rfl hH12 (fun hH13 => ?_)
    refine XA.valD 1 14 (.int .i64 ((cur).length : Int)) rfl (by kernel_rfl) (by kernel_rfl) (by kernel_rfl) rfl (by kernel_rfl) rfl hH13 (fun hH14 => ?_)
    refine XA.valD 2 15 (.bool (decide (((cur).length : Int) > 1))) rfl (by kernel_rfl) (by kernel_rfl) (by kernel_rfl) rfl (by kernel_rfl) rfl hH14 (fun hH15 => ?_)
    refine XA.valD 3 16 (.bool (decide (((cur).length : Int) > 1))) rfl (by kernel_rfl) (by kernel_rfl) (by kernel_rfl) rfl (by kernel_rfl) rfl hH15 (fun hH16 => ?_)
    refine XA.onD 16 (((cur).length : Int) > 1) rfl (fun hg17 => ?_) (fun hg17 => ?_)
    · skip
      refine XA.loadB (j := 4) (v := .func (.func 46) #[] #[.pointer (some ⟨b_k, 0, none⟩), .pointer (some ⟨b_n, 0, none⟩)]) (g := false) (m := 1) s11 hb_s rfl (by kernel_rfl) (by kernel_rfl) (by kernel_rfl) rfl (fun h => h) (by kernel_rfl) rfl rfl (by decide) hH16 rfl (by kernel_rfl) (by kernel_rfl) rfl rfl rfl (fun hH18 => ?_)
      refine XA.valD 5 18 (.slice ra9 ((cur).length) rc9) rfl (by kernel_rfl) (by kernel_rfl) (by kernel_rfl) rfl (by kernel_rfl) rfl hH18 (fun hH19 => ?_)
      refine XA.valD 6 19 (.slice ra9 ((cur).length) rc9) rfl (by kernel_rfl) (by kernel_rfl) (by kernel_rfl) rfl (by kernel_rfl) rfl hH19 (fun hH20 => ?_)
      refine XA.valD 7 20 (.int .i64 ((cur).length : Int)) rfl (by kernel_rfl) (by kernel_rfl) (by kernel_rfl) rfl (by kernel_rfl) rfl hH20 (fun hH21 => ?_)
      refine XA.arith (p := 8) (k := .i64) (r := ((cur).length : Int) - 2) rfl (by kernel_rfl) (by kernel_rfl) (by kernel_rfl) rfl (by kernel_rfl) rfl (by decide) (fun _ => by kernel_rfl) (wrap_i64 (by (have hs1_ := half_len2 (sideOf 2 n) l i; first | omega | (rw [List.length_append]; simp only [List.length_cons, List.length_nil]; omega)))) hH21 (fun hH22 => ?_)
      obtain ⟨rb24, ro25, rfl⟩ := row_addr (s11.at_ (i := 0) rfl) (by (have hs1_ := half_len2 (sideOf 2 n) l i; first | omega | (rw [List.length_append]; simp only [List.length_cons, List.length_nil]; omega)))
      refine XA.index (p := 9) (i := ((cur).length - 2)) (e := 24) (sz := 3) rfl (by kernel_rfl) (by kernel_rfl) (by kernel_rfl) rfl (by kernel_rfl) rfl rfl (by decide) rfl rfl (by omega) (by (have hs1_ := half_len2 (sideOf 2 n) l i; first | omega | (rw [List.length_append]; simp only [List.length_cons, List.length_nil]; omega))) (by kernel_rfl) (by kernel_rfl) hH22 (fun hH23 => ?_)
      obtain ⟨z27, hz27⟩ := get_some (xs := (cur)) (i := (cur).length - 2) (by (have hs1_ := half_len2 (sideOf 2 n) l i; first | omega | (rw [List.length_append]; simp only [List.length_cons, List.length_nil]; omega)))
      refine XA.loadRow false (p := 10) (q := 0) (j := ((cur).length - 2)) (z := z27) (g := true) s11 rfl (hel9.mono ev11) rfl hz27 rfl rfl (by kernel_rfl) (by kernel_rfl) (by kernel_rfl) rfl rfl (fun _ h => h) (by kernel_rfl) rfl rfl (by decide) hH23 rfl (by first | rfl | omega) (by kernel_rfl) (by kernel_rfl) rfl (fun cs_ hcs_ hH26 => ?_)
      obtain rfl := hcs_
      refine XA.valD 11 24 (.slice (some ⟨rb24, ro25, none⟩) ((cur).length) rc9) rfl (by kernel_rfl) (by kernel_rfl) (by kernel_rfl) rfl (by kernel_rfl) rfl hH26 (fun hH28 => ?_)
      refine XA.valD 12 25 (.slice (some ⟨rb24, ro25, none⟩) ((cur).length) rc9) rfl (by kernel_rfl) (by kernel_rfl) (by kernel_rfl) rfl (by kernel_rfl) rfl hH28 (fun hH29 => ?_)
      refine XA.valD 13 26 (.int .i64 ((cur).length : Int)) rfl (by kernel_rfl) (by kernel_rfl) (by kernel_rfl) rfl (by kernel_rfl) rfl hH29 (fun hH30 => ?_)
      refine XA.arith (p := 14) (k := .i64) (r := ((cur).length : Int) - 1) rfl (by kernel_rfl) (by kernel_rfl) (by kernel_rfl) rfl (by kernel_rfl) rfl (by decide) (fun _ => by kernel_rfl) (wrap_i64 (by (have hs1_ := half_len2 (sideOf 2 n) l i; first | omega | (rw [List.length_append]; simp only [List.length_cons, List.length_nil]; omega)))) hH30 (fun hH31 => ?_)
      refine XA.index (p := 15) (i := ((cur).length - 1)) (e := 24) (sz := 3) rfl (by kernel_rfl) (by kernel_rfl) (by kernel_rfl) rfl (by kernel_rfl) rfl rfl (by decide) rfl rfl (by omega) (by (have hs1_ := half_len2 (sideOf 2 n) l i; first | omega | (rw [List.length_append]; simp only [List.length_cons, List.length_nil]; omega))) (by kernel_rfl) (by kernel_rfl) hH31 (fun hH32 => ?_)
      obtain ⟨z34, hz34⟩ := get_some (xs := (cur)) (i := (cur).length - 1) (by (have hs1_ := half_len2 (sideOf 2 n) l i; first | omega | (rw [List.length_append]; simp only [List.length_cons, List.length_nil]; omega)))
      refine XA.loadRow false (p := 16) (q := 0) (j := ((cur).length - 1)) (z := z34) (g := true) s11 rfl (hel9.mono ev11) rfl hz34 rfl rfl (by kernel_rfl) (by kernel_rfl) (by kernel_rfl) rfl rfl (fun _ h => h) (by kernel_rfl) rfl rfl (by decide) hH32 rfl (by first | rfl | omega) (by kernel_rfl) (by kernel_rfl) rfl (fun cs_ hcs_ hH33 => ?_)
      obtain rfl := hcs_
      refine XA.loadS false (j := 17) (i := 1) (v := .agg #[.int .i64 z5.x, .int .i64 z5.y, .int .i64 z5.z]) (g := true) (m := 3) s11 rfl rfl (by kernel_rfl) (by kernel_rfl) (by kernel_rfl) rfl (by kernel_rfl) (fun _ h => h) (by kernel_rfl) rfl rfl (by decide) hH33 rfl (by kernel_rfl) (by kernel_rfl) rfl rfl rfl (fun hH35 => ?_)
      refine XA.op (i := 18) rfl (by kernel_rfl) (by kernel_rfl) (XO.callS (f := 46) (args := [(.agg #[.int .i64 z27.x, .int .i64 z27.y, .int .i64 z27.z]), (.agg #[.int .i64 z34.x, .int .i64 z34.y, .int .i64 z34.z]), (.agg #[.int .i64 z5.x, .int .i64 z5.y, .int .i64 z5.z]), (.pointer (some ⟨b_k, 0, none⟩)), (.pointer (some ⟨b_n, 0, none⟩))].toArray) s11 rfl (by decide) (fun _ => by kernel_rfl) (clean_round_side2_ok (av A _) _ s11.av_fresh z27 z34 z5 b_k _ (s11.keep.at_ hb_k) n b_n _ (s11.keep.at_ hb_n) (by first | assumption | exact hok _ (List.mem_of_getElem? (by assumption)) | exact hok _ (hcm _ (List.mem_of_getElem? (by assumption)))) (by first | assumption | exact hok _ (List.mem_of_getElem? (by assumption)) | exact hok _ (hcm _ (List.mem_of_getElem? (by assumption)))) (by first | assumption | exact hok _ (List.mem_of_getElem? (by assumption)) | exact hok _ (hcm _ (List.mem_of_getElem? (by assumption))))) (fun _ w36 s36 ev36 kp36 hv_ => ?_))
      obtain rfl := hv_
      have hH37 := hH35.keep (i := 18) kp36 rfl
      refine ⟨hH37, ?_⟩
      refine XA.valD 19 32 (.bool (decide ((cmp128 ((nrmOf z27 z34 z5).at 2) 0 * cmp128 (n.at 2) 0) ≤ 0))) rfl (by kernel_rfl) (by kernel_rfl) (by kernel_rfl) rfl (by kernel_rfl) rfl hH37 (fun hH38 => ?_)
      refine XA.valD 20 33 (.bool (decide ((cmp128 ((nrmOf z27 z34 z5).at 2) 0 * cmp128 (n.at 2) 0) ≤ 0))) rfl (by kernel_rfl) (by kernel_rfl) (by kernel_rfl) rfl (by kernel_rfl) rfl hH38 (fun hH39 => ?_)
      refine XA.done (by kernel_rfl) (thn_norm ?_)
      refine XC.cond_d ((cmp128 ((nrmOf z27 z34 z5).at 2) 0 * cmp128 (n.at 2) 0) ≤ 0) rfl (fun hc40 => ?_) (fun hc40 => ?_)
      · skip
        refine XC.skip (thn_norm ?_)
        refine XC.block ?_
        refine XC.region ?_
        refine XS.vals' 3 [(34, .slice (some ⟨rb24, ro25, none⟩) ((cur).length) rc9), (35, .slice (some ⟨rb24, ro25, none⟩) ((cur).length) rc9), (36, .int .i64 ((cur).length : Int))] (by kernel_rfl) ?_
        refine XS.op rfl rfl (XO.arith (k := .i64) (r := ((cur).length : Int) - 1) rfl (by decide) (fun _ => by kernel_rfl) (wrap_i64 (by (have hs1_ := half_len2 (sideOf 2 n) l i; first | omega | (rw [List.length_append]; simp only [List.length_cons, List.length_nil]; omega)))) ?_)
        refine XS.op rfl rfl (XO.rowHi (i := 0) (h := ((cur).length - 1)) (e := 24) (sz' := 3) s36 rfl rfl rfl (by decide) rfl rfl (by omega) (by (have hs1_ := half_len2 (sideOf 2 n) l i; first | omega | (rw [List.length_append]; simp only [List.length_cons, List.length_nil]; omega))) (by kernel_rfl) (by kernel_rfl) (fun s41 ev41 => ?_))
        have hel42 := Els.take (((hel9.mono (ev11.trans ev36))).mono ev41) ((cur).length - 1)
        refine XS.vals' 1 [(4, .slice (some ⟨rb24, ro25, none⟩) ((cur).length - 1) rc9)] (by kernel_rfl) ?_
        refine XS.done rfl (inBlk_norm (thn_norm ?_))
        have heq43 : (List.take ((cur).length - 1) (cur)) = (List.take (cur.length - 1) cur) := (by rfl)
        have hln44 : ((List.take (cur.length - 1) cur)).length = (cur).length - 1 := by first | (rw [← heq43]; done) | (rw [← heq43]; symm; exact (by simp only [List.length_take]; (have hs1_ := half_len2 (sideOf 2 n) l i; first | omega | (rw [List.length_append]; simp only [List.length_cons, List.length_nil]; omega))))
        refine ⟨(List.take (cur.length - 1) cur).length + 1, ?_, ?_⟩
        · rw [List.length_take]; omega
        exact ⟨(List.take (cur.length - 1) cur), (some ⟨rb24, ro25, none⟩), rc9, (List.take (((cur).length - 1) * 3) rcs9), ⟨rfl, rfl, (by rw [hln44] <;> rfl), rfl, rfl, rfl, rfl, rfl, rfl, rfl, trivial⟩, (by rw [hln44]; exact s41), (by rw [hln44]; exact (ev10.trans (ev11.trans (ev36.trans ev41)))), (by rw [List.length_take]; omega), ((fun p hp => hcm p (List.mem_of_mem_take hp))), ((pop_go' (by omega) hz27 hz34 hc40).trans hI), ((by rw [← heq43]; exact hel42)), rfl⟩
      · skip
        refine XC.exit (thn_exit (thn_exit (inBlk_hit (thn_norm ?_))))
        refine XC.region ?_
        refine XS.vals' 1 [(39, .slice (some ⟨rb24, ro25, none⟩) ((cur).length) rc9)] (by kernel_rfl) ?_
        refine XS.op rfl rfl (XO.loadS (i := 1) (v := .agg #[.int .i64 z5.x, .int .i64 z5.y, .int .i64 z5.z]) (g := true) (m := 3) s36 rfl rfl rfl (by decide) rfl (by kernel_rfl) (by kernel_rfl) rfl rfl rfl ?_)
        refine XS.op rfl rfl (XO.newSl (k := 1) (cs := [.int .i64 z5.x, .int .i64 z5.y, .int .i64 z5.z]) (T := 24) s36 rfl (by decide) (fun _ => by kernel_rfl) (fun b45 w46 s46 ev46 kp46 ybb45 => ?_))
        have hroom48 : ((cur).length + 1) * 24 ≤ 140737488355328 := by (have hs1_ := half_len2 (sideOf 2 n) l i; first | omega | (rw [List.length_append]; simp only [List.length_cons, List.length_nil]; omega))
        refine XS.op rfl rfl (XO.append (k' := ((cur) ++ [z5]).length) (i := 0) (cs := rcs9) (new := [.int .i64 z5.x, .int .i64 z5.y, .int .i64 z5.z]) (sz := 3) (bytes := 24) (z := .agg #[.int .i64 0, .int .i64 0, .int .i64 0]) (k := ((cur).length)) (m := 1) (by first | rfl | (simp only [List.length_append, List.length_cons, List.length_nil]; done) | (simp only [List.length_append, List.length_cons, List.length_nil]; omega)) s46 rfl rfl rfl (by decide) rfl rfl (by kernel_rfl) (by kernel_rfl) (by kernel_rfl) (by kernel_rfl) rfl rfl (Src.cells (o := 0) (m := 1) (s46.at_ (i := 2) rfl) (Nat.le_of_ble_eq_true rfl)) rfl (by exact hroom48) (fun ra49 rc50 w47 s47 ev47 kp47 => ?_))
        have hel51 := Els.snoc (((hel9.mono (ev11.trans (ev36.trans ev46)))).mono ev47) (show Tp.R tPt _ _ _ z5 from rfl)
        refine XS.vals' 1 [(4, .slice ra49 (((cur) ++ [z5]).length) rc50)] (by kernel_rfl) ?_
        refine XS.done rfl (inBlk_norm (thn_norm ?_))
        refine XC.region ?_
        refine XS.op rfl rfl (XO.arith (k := .i64) (r := (i : Int) + 1) rfl (by decide) (fun _ => by kernel_rfl) (wrap_i64 (by (have hs1_ := half_len2 (sideOf 2 n) l i; first | omega | (rw [List.length_append]; simp only [List.length_cons, List.length_nil]; omega)))) ?_)
        refine XS.vals' 1 [(9, .int .i64 ((i : Int) + 1))] (by kernel_rfl) ?_
        refine XS.done rfl (thn_norm ?_)
        have heq52 : ((cur) ++ [z5]) = halfOf (sideOf 2 n) (l.take (i + 1)) := (half_step hz5 hI (pop_stop' (by omega) hz27 hz34 hc40))
        have hln53 : (halfOf (sideOf 2 n) (l.take (i + 1))).length = ((cur) ++ [z5]).length := by first | (rw [← heq52]; done) | (rw [← heq52]; symm; exact rfl)
        refine ⟨l.length - (i + 1), ?_, ?_⟩
        · omega
        exact ⟨i + 1, ra49, rc50, (rcs9 ++ [.int .i64 z5.x, .int .i64 z5.y, .int .i64 z5.z]), ⟨rfl, rfl, (by rw [hln53] <;> rfl), rfl, rfl, (congrArg (Value.int .i64) (by first | rfl | omega : ((i : Int) + 1 : Int) = _)), trivial⟩, (by rw [hln53]; exact (s47.drop (.cons_cons _ (.cons _ (.cons _ List.Sublist.slnil))))), (by rw [hln53]; exact (Evo.trans (ev3.trans (ev7.trans (ev8.trans (ev10.trans (ev11.trans (ev36.trans (ev46.trans ev47))))))) (Evo.drop (.cons_cons _ (.cons _ (.cons _ List.Sublist.slnil)))))), (by omega), ((by rw [← heq52]; exact hel51)), rfl⟩
    · skip
      refine XA.valD 4 17 (undef) rfl (by kernel_rfl) (by kernel_rfl) (by kernel_rfl) rfl (by kernel_rfl) rfl hH16 (fun hH54 => ?_)
      refine XA.valD 5 18 (undef) rfl (by kernel_rfl) (by kernel_rfl) (by kernel_rfl) rfl (by kernel_rfl) rfl hH54 (fun hH55 => ?_)
      refine XA.valD 6 19 (undef) rfl (by kernel_rfl) (by kernel_rfl) (by kernel_rfl) rfl (by kernel_rfl) rfl hH55 (fun hH56 => ?_)
      refine XA.valD 7 20 (undef) rfl (by kernel_rfl) (by kernel_rfl) (by kernel_rfl) rfl (by kernel_rfl) rfl hH56 (fun hH57 => ?_)
      refine XA.valD 8 21 (undef) rfl (by kernel_rfl) (by kernel_rfl) (by kernel_rfl) rfl (by kernel_rfl) rfl hH57 (fun hH58 => ?_)
      refine XA.valD 9 22 (undef) rfl (by kernel_rfl) (by kernel_rfl) (by kernel_rfl) rfl (by kernel_rfl) rfl hH58 (fun hH59 => ?_)
      refine XA.valD 10 23 (undef) rfl (by kernel_rfl) (by kernel_rfl) (by kernel_rfl) rfl (by kernel_rfl) rfl hH59 (fun hH60 => ?_)
      refine XA.valD 11 24 (undef) rfl (by kernel_rfl) (by kernel_rfl) (by kernel_rfl) rfl (by kernel_rfl) rfl hH60 (fun hH61 => ?_)
      refine XA.valD 12 25 (undef) rfl (by kernel_rfl) (by kernel_rfl) (by kernel_rfl) rfl (by kernel_rfl) rfl hH61 (fun hH62 => ?_)
      refine XA.valD 13 26 (undef) rfl (by kernel_rfl) (by kernel_rfl) (by kernel_rfl) rfl (by kernel_rfl) rfl hH62 (fun hH63 => ?_)
      refine XA.valD 14 27 (undef) rfl (by kernel_rfl) (by kernel_rfl) (by kernel_rfl) rfl (by kernel_rfl) rfl hH63 (fun hH64 => ?_)
      refine XA.valD 15 28 (undef) rfl (by kernel_rfl) (by kernel_rfl) (by kernel_rfl) rfl (by kernel_rfl) rfl hH64 (fun hH65 => ?_)
      refine XA.valD 16 29 (undef) rfl (by kernel_rfl) (by kernel_rfl) (by kernel_rfl) rfl (by kernel_rfl) rfl hH65 (fun hH66 => ?_)
      refine XA.valD 17 30 (undef) rfl (by kernel_rfl) (by kernel_rfl) (by kernel_rfl) rfl (by kernel_rfl) rfl hH66 (fun hH67 => ?_)
      refine XA.valD 18 31 (undef) rfl (by kernel_rfl) (by kernel_rfl) (by kernel_rfl) rfl (by kernel_rfl) rfl hH67 (fun hH68 => ?_)
      refine XA.valD 19 32 (undef) rfl (by kernel_rfl) (by kernel_rfl) (by kernel_rfl) rfl (by kernel_rfl) rfl hH68 (fun hH69 => ?_)
      refine XA.valD 20 33 (.bool false) rfl (by kernel_rfl) (by kernel_rfl) (by kernel_rfl) rfl (by kernel_rfl) rfl hH69 (fun hH70 => ?_)
      refine XA.done (by kernel_rfl) (thn_norm ?_)
      refine XC.cond_f rfl ?_
      refine XC.exit (thn_exit (thn_exit (inBlk_hit (thn_norm ?_))))
      refine XC.region ?_
      refine XS.vals' 1 [(39, .slice ra9 ((cur).length) rc9)] (by kernel_rfl) ?_
      refine XS.op rfl rfl (XO.loadS (i := 1) (v := .agg #[.int .i64 z5.x, .int .i64 z5.y, .int .i64 z5.z]) (g := true) (m := 3) s11 rfl rfl rfl (by decide) rfl (by kernel_rfl) (by kernel_rfl) rfl rfl rfl ?_)
      refine XS.op rfl rfl (XO.newSl (k := 1) (cs := [.int .i64 z5.x, .int .i64 z5.y, .int .i64 z5.z]) (T := 24) s11 rfl (by decide) (fun _ => by kernel_rfl) (fun b71 w72 s72 ev72 kp72 ybb71 => ?_))
      have hroom74 : ((cur).length + 1) * 24 ≤ 140737488355328 := by (have hs1_ := half_len2 (sideOf 2 n) l i; first | omega | (rw [List.length_append]; simp only [List.length_cons, List.length_nil]; omega))
      refine XS.op rfl rfl (XO.append (k' := ((cur) ++ [z5]).length) (i := 0) (cs := rcs9) (new := [.int .i64 z5.x, .int .i64 z5.y, .int .i64 z5.z]) (sz := 3) (bytes := 24) (z := .agg #[.int .i64 0, .int .i64 0, .int .i64 0]) (k := ((cur).length)) (m := 1) (by first | rfl | (simp only [List.length_append, List.length_cons, List.length_nil]; done) | (simp only [List.length_append, List.length_cons, List.length_nil]; omega)) s72 rfl rfl rfl (by decide) rfl rfl (by kernel_rfl) (by kernel_rfl) (by kernel_rfl) (by kernel_rfl) rfl rfl (Src.cells (o := 0) (m := 1) (s72.at_ (i := 2) rfl) (Nat.le_of_ble_eq_true rfl)) rfl (by exact hroom74) (fun ra75 rc76 w73 s73 ev73 kp73 => ?_))
      have hel77 := Els.snoc (((hel9.mono (ev11.trans ev72))).mono ev73) (show Tp.R tPt _ _ _ z5 from rfl)
      refine XS.vals' 1 [(4, .slice ra75 (((cur) ++ [z5]).length) rc76)] (by kernel_rfl) ?_
      refine XS.done rfl (inBlk_norm (thn_norm ?_))
      refine XC.region ?_
      refine XS.op rfl rfl (XO.arith (k := .i64) (r := (i : Int) + 1) rfl (by decide) (fun _ => by kernel_rfl) (wrap_i64 (by (have hs1_ := half_len2 (sideOf 2 n) l i; first | omega | (rw [List.length_append]; simp only [List.length_cons, List.length_nil]; omega)))) ?_)
      refine XS.vals' 1 [(9, .int .i64 ((i : Int) + 1))] (by kernel_rfl) ?_
      refine XS.done rfl (thn_norm ?_)
      have heq78 : ((cur) ++ [z5]) = halfOf (sideOf 2 n) (l.take (i + 1)) := (half_step hz5 hI (pop_short (by omega)))
      have hln79 : (halfOf (sideOf 2 n) (l.take (i + 1))).length = ((cur) ++ [z5]).length := by first | (rw [← heq78]; done) | (rw [← heq78]; symm; exact rfl)
      refine ⟨l.length - (i + 1), ?_, ?_⟩
      · omega
      exact ⟨i + 1, ra75, rc76, (rcs9 ++ [.int .i64 z5.x, .int .i64 z5.y, .int .i64 z5.z]), ⟨rfl, rfl, (by rw [hln79] <;> rfl), rfl, rfl, (congrArg (Value.int .i64) (by first | rfl | omega : ((i : Int) + 1 : Int) = _)), trivial⟩, (by rw [hln79]; exact (s73.drop (.cons_cons _ (.cons _ (.cons _ List.Sublist.slnil))))), (by rw [hln79]; exact (Evo.trans (ev3.trans (ev7.trans (ev8.trans (ev10.trans (ev11.trans (ev72.trans ev73)))))) (Evo.drop (.cons_cons _ (.cons _ (.cons _ List.Sublist.slnil)))))), (by omega), ((by rw [← heq78]; exact hel77)), rfl⟩
  · skip
    refine XC.exit (thn_exit (thn_exit (inBlk_hit (thn_norm ?_))))
    refine XC.seq ?_
    refine XC.region ?_
    refine XS.vals' 2 [(44, .slice ra2 ((halfOf (sideOf 2 n) (l.take i)).length) rc2), (3, .slice ra2 ((halfOf (sideOf 2 n) (l.take i)).length) rc2)] (by kernel_rfl) ?_
    refine XS.done rfl (thn_norm ?_)
    refine XC.ret ?_
    refine ⟨Or.inr rfl, .slice ra2 ((halfOf (sideOf 2 n) (l.take i)).length) rc2, fun a_ ha_ => results_t rfl ha_ rfl, s3.keep, ?_⟩
    have heq_ : (halfOf (sideOf 2 n) (l.take i)) = halfOf (sideOf 2 n) l := (by rw [List.take_of_length_le (by omega)])
    have hn_ : (halfOf (sideOf 2 n) (l.take i)).length = (halfOf (sideOf 2 n) l).length := by first | (rw [← heq_]; done) | (rw [← heq_]; exact rfl)
    have hr_ := Stt.rowNew s3 (i := 0) rfl
    have hel_ : Els tPt (av A [rowA (.slice ra2 ((halfOf (sideOf 2 n) (l.take i)).length) rc2) ((halfOf (sideOf 2 n) (l.take i)).length) rcs2 24 3]) w3 rcs2 (halfOf (sideOf 2 n) l) := by rw [← heq_]; exact hel2
    rw [hn_] at hr_
    try rw [hn_]
    exact ⟨_, _, _, rfl, hr_.1, hr_.2, hel_.mono Evo.out⟩

end Go.Proofs.Tryz
namespace Go.Proofs.Tryz
open Go Go.X Go.RowKit Go.Sort
set_option maxRecDepth 100000
set_option maxHeartbeats 2000000
set_option linter.unusedVariables false
theorem slices_Clone_row_ok (A : Nat → Prop) (w0 : World) (hA : ∀ b, w0.heap.size ≤ b → A b) (l : List Pt) (a_l : Option Addr) (c_l : Nat) (h_l : Sl tPt A w0 (.slice a_l l.length c_l) l) (hlen : 0 < l.length ∧ l.length ≤ 1048576)  : Cal Tryz.prog 48 [(.slice a_l l.length c_l)].toArray w0 (fun v w' => Keep none_ w0 w' ∧ ∃ (ra0 : Option Addr) (rc0 : Nat) (rs0 : List Value), v = .slice ra0 ((l).length) rc0 ∧ (rowA (.slice ra0 (l).length rc0) (l).length rs0 24 3).holds w' ∧ (∀ b, (rowA (.slice ra0 (l).length rc0) (l).length rs0 24 3).blk b → w0.heap.size ≤ b) ∧ Els tPt A w' rs0 (l)) := by
  have s0 : Stt A w0 none_ [] w0 := Stt.start hA none_
  have h_l_ := h_l.mono Evo.start
  refine Cal.intro (n := 8) Tryz.func48 rfl Tryz.ntmps48 rfl ?_
  refine XC.seq ?_
  refine XC.region ?_
  refine XS.vals' 1 [(2, .slice none 0 0)] (by kernel_rfl) ?_
  refine XS.done rfl (thn_norm ?_)
  refine XC.seq ?_
  refine XC.seq ?_
  refine XC.region ?_
  refine XS.vals' 1 [(3, .slice a_l l.length c_l)] (by kernel_rfl) ?_
  rcases a_l with _ | ad1
  · skip
    refine XS.op rfl rfl (XO.run rfl (by decide) (w' := w0) (v := .bool true) (by kernel_rfl) ?_)
    refine XS.done rfl (thn_norm ?_)
    refine XC.cond_t rfl ?_
    refine XC.seq ?_
    refine XC.region ?_
    refine XS.vals' 1 [(2, .slice none 0 0)] (by kernel_rfl) ?_
    refine XS.done rfl (thn_norm ?_)
    refine XC.ret (thn_ret ?_)
    refine ⟨Or.inr rfl, .slice none 0 0, fun a_ ha_ => results_t rfl ha_ rfl, s0.keep, ?_⟩
    exfalso; have e_ := Sl.nil_eq h_l; subst e_; simp at hlen
  · skip
    refine XS.op rfl rfl (XO.run rfl (by decide) (w' := w0) (v := .bool false) (by kernel_rfl) ?_)
    refine XS.done rfl (thn_norm ?_)
    refine XC.cond_f rfl ?_
    refine XC.skip (thn_norm ?_)
    refine XC.seq ?_
    refine XC.region ?_
    refine XS.op rfl rfl (XO.newSl (k := 0) (cs := []) (T := 24) s0 rfl (by decide) (fun _ => by kernel_rfl) (fun b2 w3 s3 ev3 kp3 ybb2 => ?_))
    refine XS.vals' 1 [(6, .slice (some ad1) l.length c_l)] (by kernel_rfl) ?_
    obtain ⟨s4, ev4⟩ := Stt.litRow (k := 0) (sz := 3) s3 0 rfl rfl
    obtain ⟨cs5, hsrc6, he7⟩ := Sl.src (P := Tryz.prog) (h_l_.mono (ev3.trans ev4)) (by decide)
    have hroom9 : (0 + l.length) * 24 ≤ 140737488355328 := by omega
    refine XS.op rfl rfl (XO.append (k' := ([] ++ l).length) (i := 0) (cs := ([])) (new := cs5) (sz := 3) (bytes := 24) (z := .agg #[.int .i64 0, .int .i64 0, .int .i64 0]) (k := 0) (m := l.length) (by first | rfl | (simp only [List.length_append, List.length_nil]; done) | (simp only [List.length_append, List.length_nil]; omega)) s4 rfl rfl rfl (by decide) rfl rfl (by kernel_rfl) (by kernel_rfl) (by kernel_rfl) (by kernel_rfl) rfl rfl hsrc6 (Els.one1 he7 (fun c_ x_ h_ => by have h_ : c_ = _ := h_; subst h_; rfl)) (by exact hroom9) (fun ra10 rc11 w8 s8 ev8 kp8 => ?_))
    have hel12 : Els tPt (av A [rowA (.slice ra10 (([] ++ l).length) rc11) (([] ++ l).length) ([] ++ cs5) 24 3]) w8 ([] ++ cs5) ([] ++ l) := Els.append ((Els.nil (τ := tPt))) ((he7).mono ev8)
    refine XS.vals' 1 [(2, .slice ra10 (([] ++ l).length) rc11)] (by kernel_rfl) ?_
    refine XS.done rfl (thn_norm ?_)
    refine XC.ret ?_
    refine ⟨Or.inr rfl, .slice ra10 (([] ++ l).length) rc11, fun a_ ha_ => results_t rfl ha_ rfl, s8.keep, ?_⟩
    have heq_ : ([] ++ l) = l := rfl
    have hn_ : ([] ++ l).length = (l).length := by first | (rw [← heq_]; done) | (rw [← heq_]; exact rfl)
    have hr_ := Stt.rowNew s8 (i := 0) rfl
    have hel_ : Els tPt (av A [rowA (.slice ra10 (([] ++ l).length) rc11) (([] ++ l).length) ([] ++ cs5) 24 3]) w8 ([] ++ cs5) (l) := by rw [← heq_]; exact hel12
    rw [hn_] at hr_
    try rw [hn_]
    exact ⟨_, _, _, rfl, hr_.1, hr_.2, hel_.mono Evo.out⟩

end Go.Proofs.Tryz
namespace Go.Proofs.Tryz
open Go Go.X Go.RowKit Go.Sort
set_option maxRecDepth 100000
set_option maxHeartbeats 2000000
set_option linter.unusedVariables false
theorem clean_round_ok (A : Nat → Prop) (w0 : World) (hA : ∀ b, w0.heap.size ≤ b → A b) (l : List Pt) (a_l : Option Addr) (c_l : Nat) (h_l : Sl tPt A w0 (.slice a_l l.length c_l) l) (n : Pt) (hok : ∀ p ∈ l, p.ok) (hlen : 0 < l.length ∧ l.length ≤ 1048576) (hk : ¬ cmp128 n.x 0 = 0 ∨ ¬ cmp128 n.y 0 = 0 ∨ ¬ cmp128 n.z 0 = 0)  : Cal Tryz.prog 25 [(.slice a_l l.length c_l), (.agg #[.int .i64 (hi128 n.x), .int .u64 (lo128 n.x), .int .i64 (hi128 n.y), .int .u64 (lo128 n.y), .int .i64 (hi128 n.z), .int .u64 (lo128 n.z)])].toArray w0 (fun v w' => Keep none_ w0 w' ∧ ∃ (ra0 : Option Addr) (rc0 : Nat), v = .slice ra0 ((roundOf l n).length) rc0 ∧ Sl tPt A w' (.slice ra0 (roundOf l n).length rc0) (roundOf l n)) := by
  have s0 : Stt A w0 none_ [] w0 := Stt.start hA none_
  have h_l_ := h_l.mono Evo.start
  refine Cal.intro (n := 43) Tryz.func25 rfl Tryz.ntmps25 rfl ?_
  refine XC.seq ?_
  refine XC.region ?_
  refine XS.op rfl rfl (XO.new (cs := [.int .i64 (hi128 n.x), .int .u64 (lo128 n.x), .int .i64 (hi128 n.y), .int .u64 (lo128 n.y), .int .i64 (hi128 n.z), .int .u64 (lo128 n.z)]) (T := 56) s0 rfl (by decide) (fun _ => by kernel_rfl) (fun b1 w2 s2 ev2 kp2 ybb1 => ?_))
  refine XS.vals' 1 [(4, .slice none 0 0)] (by kernel_rfl) ?_
  refine XS.done rfl (thn_norm ?_)
  refine XC.seq ?_
  refine XC.region ?_
  refine XS.op rfl rfl (XO.new (cs := [.int .i64 0]) (T := 3) s2 rfl (by decide) (fun _ => by kernel_rfl) (fun b3 w4 s4 ev4 kp4 ybb3 => ?_))
  refine XS.op rfl rfl (XO.storeS (i := 1) (v := .int .i64 0) (m := 1) (cs' := [.int .i64 0]) s4 rfl rfl rfl rfl rfl (by kernel_rfl) rfl rfl rfl rfl (fun w5 s5 ev5 kp5 => ?_))
  refine XS.done rfl (thn_norm ?_)
  refine XC.seq ?_
  refine XC.block ?_
  refine XC.unroll 40 ?_
  refine XR.succ ?_
  refine XC.seq ?_
  refine XC.seq ?_
  obtain ⟨s6, ev6⟩ := Stt.norm s5 (S' := [cellsA b1 [.int .i64 (hi128 n.x), .int .u64 (lo128 n.x), .int .i64 (hi128 n.y), .int .u64 (lo128 n.y), .int .i64 (hi128 n.z), .int .u64 (lo128 n.z)] 56, cellsA b3 [.int .i64 0] 3]) rfl
  refine XC.region ?_
  refine XS.op rfl rfl (XO.loadS (i := 1) (v := .int .i64 0) (g := false) (m := 1) s6 rfl rfl rfl (by decide) rfl (by kernel_rfl) (by kernel_rfl) rfl rfl rfl ?_)
  refine XS.vals' 1 [(11, .pointer (some ⟨b1, 0, none⟩))] (by kernel_rfl) ?_
  refine XS.op rfl rfl (XO.loadS (i := 0) (v := .agg #[.int .i64 (hi128 n.x), .int .u64 (lo128 n.x)]) (g := true) (m := 2) s6 rfl rfl rfl (by decide) rfl (by kernel_rfl) (by kernel_rfl) rfl rfl rfl ?_)
  refine XS.op rfl rfl (XO.callS (f := 45) (args := [(.agg #[.int .i64 (hi128 n.x), .int .u64 (lo128 n.x)])].toArray) s6 rfl (by decide) (fun _ => by kernel_rfl) (limb_Sign_ok (av A _) _ s6.av_fresh n.x ) (fun _ w7 s7 ev7 kp7 hv_ => ?_))
  obtain rfl := hv_
  refine XS.vals' 1 [(14, .bool (decide ((cmp128 n.x 0) = 0)))] (by kernel_rfl) ?_
  refine XS.done rfl (thn_norm ?_)
  refine XC.cond_d ((cmp128 n.x 0) = 0) rfl (fun hc8 => ?_) (fun hc8 => ?_)
  · skip
    refine XC.skip (thn_norm ?_)
    refine XC.block ?_
    obtain ⟨s9, ev9⟩ := Stt.norm s7 (S' := [cellsA b1 [.int .i64 (hi128 n.x), .int .u64 (lo128 n.x), .int .i64 (hi128 n.y), .int .u64 (lo128 n.y), .int .i64 (hi128 n.z), .int .u64 (lo128 n.z)] 56, cellsA b3 [.int .i64 0] 3]) rfl
    refine XC.region ?_
    refine XS.op rfl rfl (XO.loadS (i := 1) (v := .int .i64 0) (g := false) (m := 1) s9 rfl rfl rfl (by decide) rfl (by kernel_rfl) (by kernel_rfl) rfl rfl rfl ?_)
    refine XS.vals' 1 [(16, .int .i64 1)] (by kernel_rfl) ?_
    refine XS.op rfl rfl (XO.storeS (i := 1) (v := .int .i64 1) (m := 1) (cs' := [.int .i64 1]) s9 rfl rfl rfl rfl rfl (by kernel_rfl) rfl rfl rfl rfl (fun w10 s10 ev10 kp10 => ?_))
    refine XS.done rfl (inBlk_norm (thn_norm ?_))
    refine XR.succ ?_
    refine XC.seq ?_
    refine XC.seq ?_
    obtain ⟨s11, ev11⟩ := Stt.norm s10 (S' := [cellsA b1 [.int .i64 (hi128 n.x), .int .u64 (lo128 n.x), .int .i64 (hi128 n.y), .int .u64 (lo128 n.y), .int .i64 (hi128 n.z), .int .u64 (lo128 n.z)] 56, cellsA b3 [.int .i64 1] 3]) rfl
    refine XC.region ?_
    refine XS.op rfl rfl (XO.loadS (i := 1) (v := .int .i64 1) (g := false) (m := 1) s11 rfl rfl rfl (by decide) rfl (by kernel_rfl) (by kernel_rfl) rfl rfl rfl ?_)
    refine XS.vals' 1 [(11, .pointer (some ⟨b1, 2, none⟩))] (by kernel_rfl) ?_
    refine XS.op rfl rfl (XO.loadS (i := 0) (v := .agg #[.int .i64 (hi128 n.y), .int .u64 (lo128 n.y)]) (g := true) (m := 2) s11 rfl rfl rfl (by decide) rfl (by kernel_rfl) (by kernel_rfl) rfl rfl rfl ?_)
    refine XS.op rfl rfl (XO.callS (f := 45) (args := [(.agg #[.int .i64 (hi128 n.y), .int .u64 (lo128 n.y)])].toArray) s11 rfl (by decide) (fun _ => by kernel_rfl) (limb_Sign_ok (av A _) _ s11.av_fresh n.y ) (fun _ w12 s12 ev12 kp12 hv_ => ?_))
    obtain rfl := hv_
    refine XS.vals' 1 [(14, .bool (decide ((cmp128 n.y 0) = 0)))] (by kernel_rfl) ?_
    refine XS.done rfl (thn_norm ?_)
    refine XC.cond_d ((cmp128 n.y 0) = 0) rfl (fun hc13 => ?_) (fun hc13 => ?_)
    · skip
      refine XC.skip (thn_norm ?_)
      refine XC.block ?_
      obtain ⟨s14, ev14⟩ := Stt.norm s12 (S' := [cellsA b1 [.int .i64 (hi128 n.x), .int .u64 (lo128 n.x), .int .i64 (hi128 n.y), .int .u64 (lo128 n.y), .int .i64 (hi128 n.z), .int .u64 (lo128 n.z)] 56, cellsA b3 [.int .i64 1] 3]) rfl
      refine XC.region ?_
      refine XS.op rfl rfl (XO.loadS (i := 1) (v := .int .i64 1) (g := false) (m := 1) s14 rfl rfl rfl (by decide) rfl (by kernel_rfl) (by kernel_rfl) rfl rfl rfl ?_)
      refine XS.vals' 1 [(16, .int .i64 2)] (by kernel_rfl) ?_
      refine XS.op rfl rfl (XO.storeS (i := 1) (v := .int .i64 2) (m := 1) (cs' := [.int .i64 2]) s14 rfl rfl rfl rfl rfl (by kernel_rfl) rfl rfl rfl rfl (fun w15 s15 ev15 kp15 => ?_))
      refine XS.done rfl (inBlk_norm (thn_norm ?_))
      refine XR.succ ?_
      refine XC.seq ?_
      refine XC.seq ?_
      obtain ⟨s16, ev16⟩ := Stt.norm s15 (S' := [cellsA b1 [.int .i64 (hi128 n.x), .int .u64 (lo128 n.x), .int .i64 (hi128 n.y), .int .u64 (lo128 n.y), .int .i64 (hi128 n.z), .int .u64 (lo128 n.z)] 56, cellsA b3 [.int .i64 2] 3]) rfl
      refine XC.region ?_
      refine XS.op rfl rfl (XO.loadS (i := 1) (v := .int .i64 2) (g := false) (m := 1) s16 rfl rfl rfl (by decide) rfl (by kernel_rfl) (by kernel_rfl) rfl rfl rfl ?_)
      refine XS.vals' 1 [(11, .pointer (some ⟨b1, 4, none⟩))] (by kernel_rfl) ?_
      refine XS.op rfl rfl (XO.loadS (i := 0) (v := .agg #[.int .i64 (hi128 n.z), .int .u64 (lo128 n.z)]) (g := true) (m := 2) s16 rfl rfl rfl (by decide) rfl (by kernel_rfl) (by kernel_rfl) rfl rfl rfl ?_)
      refine XS.op rfl rfl (XO.callS (f := 45) (args := [(.agg #[.int .i64 (hi128 n.z), .int .u64 (lo128 n.z)])].toArray) s16 rfl (by decide) (fun _ => by kernel_rfl) (limb_Sign_ok (av A _) _ s16.av_fresh n.z ) (fun _ w17 s17 ev17 kp17 hv_ => ?_))
      obtain rfl := hv_
      refine XS.vals' 1 [(14, .bool (decide ((cmp128 n.z 0) = 0)))] (by kernel_rfl) ?_
      refine XS.done rfl (thn_norm ?_)
      refine XC.cond_f (congrArg Value.bool (decide_eq_false (fun h_ => by rcases hk with h | h | h <;> exact h (by assumption)))) ?_
      refine XC.exit (thn_exit (thn_exit (inBlk_hit (thn_norm ?_))))
      refine XC.seq ?_
      obtain ⟨s19, ev19⟩ := Stt.norm s17 (S' := [cellsA b1 [.int .i64 (hi128 n.x), .int .u64 (lo128 n.x), .int .i64 (hi128 n.y), .int .u64 (lo128 n.y), .int .i64 (hi128 n.z), .int .u64 (lo128 n.z)] 56, cellsA b3 [.int .i64 2] 3]) rfl
      refine XC.region ?_
      refine XS.vals' 1 [(17, .func (.func 46) #[] #[.pointer (some ⟨b3, 0, none⟩), .pointer (some ⟨b1, 0, none⟩)])] (by kernel_rfl) ?_
      refine XS.op rfl rfl (XO.new (cs := [.nilFunc]) (T := 85) s19 rfl (by decide) (fun _ => by kernel_rfl) (fun b20 w21 s21 ev21 kp21 ybb20 => ?_))
      refine XS.op rfl rfl (XO.storeS (i := 2) (v := .func (.func 46) #[] #[.pointer (some ⟨b3, 0, none⟩), .pointer (some ⟨b1, 0, none⟩)]) (m := 1) (cs' := [.func (.func 46) #[] #[.pointer (some ⟨b3, 0, none⟩), .pointer (some ⟨b1, 0, none⟩)]]) s21 rfl rfl rfl rfl rfl (by kernel_rfl) rfl rfl rfl rfl (fun w22 s22 ev22 kp22 => ?_))
      refine XS.done rfl (thn_norm ?_)
      refine XC.seq ?_
      obtain ⟨s23, ev23⟩ := Stt.norm s22 (S' := [cellsA b1 [.int .i64 (hi128 n.x), .int .u64 (lo128 n.x), .int .i64 (hi128 n.y), .int .u64 (lo128 n.y), .int .i64 (hi128 n.z), .int .u64 (lo128 n.z)] 56, cellsA b3 [.int .i64 2] 3, cellsA b20 [.func (.func 46) #[] #[.pointer (some ⟨b3, 0, none⟩), .pointer (some ⟨b1, 0, none⟩)]] 85]) rfl
      refine XC.region ?_
      refine XS.vals' 2 [(18, .func (.func 47) #[] #[.pointer (some ⟨b20, 0, none⟩)]), (7, .func (.func 47) #[] #[.pointer (some ⟨b20, 0, none⟩)])] (by kernel_rfl) ?_
      refine XS.done rfl (thn_norm ?_)
      refine XC.seq ?_
      refine XC.region ?_
      refine XS.vals' 2 [(19, .func (.func 47) #[] #[.pointer (some ⟨b20, 0, none⟩)]), (20, .slice a_l l.length c_l)] (by kernel_rfl) ?_
      refine XS.op rfl rfl (XO.callS (f := 47) (args := [(.slice a_l l.length c_l), (.pointer (some ⟨b20, 0, none⟩))].toArray) s23 rfl (by decide) (fun _ => by kernel_rfl) (clean_round_half2_ok (av A _) _ s23.av_fresh l l.length rfl a_l c_l (h_l_.mono (ev2.trans (ev4.trans (ev5.trans (ev6.trans (ev7.trans (ev9.trans (ev10.trans (ev11.trans (ev12.trans (ev14.trans (ev15.trans (ev16.trans (ev17.trans (ev19.trans (ev21.trans (ev22.trans ev23))))))))))))))))) n b20 b3 b1 85 3 56 (s23.at_ (i := 2) rfl) (s23.at_ (i := 1) rfl) (s23.at_ (i := 0) rfl) (by first | assumption | omega | (intro p hp_; exact hok p (by simpa using hp_)) | (rw [List.length_reverse]; omega)) (by first | assumption | omega | (intro p hp_; exact hok p (by simpa using hp_)) | (rw [List.length_reverse]; omega))) (fun _ w24 s24 ev24 kp24 hv_ => ?_))
      obtain ⟨ra0_25, rc0_26, rs0_27, rfl, hf28, hf29, hf30⟩ := hv_
      obtain ⟨H31, hH31⟩ : ∃ H_, H_ = halfOf (sideOf 2 n) l := ⟨_, rfl⟩
      rw [← hH31] at hf28 hf29 hf30
      rw [← hH31]
      have hbH31 : 0 < H31.length ∧ H31.length ≤ l.length := by rw [hH31]; exact ⟨half_ne _ (by first | exact hlen.1 | (rw [List.length_reverse]; exact hlen.1)), Nat.le_trans (half_le _ _) (by simp)⟩
      obtain ⟨srs24, evrev24⟩ := s23.gotRow kp24 hf28 hf29
      have hel32 := (show Els tPt (av A [cellsA b1 [.int .i64 (hi128 n.x), .int .u64 (lo128 n.x), .int .i64 (hi128 n.y), .int .u64 (lo128 n.y), .int .i64 (hi128 n.z), .int .u64 (lo128 n.z)] 56, cellsA b3 [.int .i64 2] 3, cellsA b20 [.func (.func 46) #[] #[.pointer (some ⟨b3, 0, none⟩), .pointer (some ⟨b1, 0, none⟩)]] 85, rowA (.slice ra0_25 H31.length rc0_26) H31.length rs0_27 24 3]) w24 rs0_27 (H31) from hf30)
      refine XS.vals' 1 [(8, .slice ra0_25 H31.length rc0_26)] (by kernel_rfl) ?_
      refine XS.done rfl (thn_norm ?_)
      refine XC.seq ?_
      obtain ⟨s33, ev33⟩ := Stt.norm srs24 (S' := [cellsA b1 [.int .i64 (hi128 n.x), .int .u64 (lo128 n.x), .int .i64 (hi128 n.y), .int .u64 (lo128 n.y), .int .i64 (hi128 n.z), .int .u64 (lo128 n.z)] 56, cellsA b3 [.int .i64 2] 3, cellsA b20 [.func (.func 46) #[] #[.pointer (some ⟨b3, 0, none⟩), .pointer (some ⟨b1, 0, none⟩)]] 85, rowA (.slice ra0_25 H31.length rc0_26) H31.length rs0_27 24 3]) rfl
      refine XC.region ?_
      refine XS.vals' 1 [(22, .slice a_l l.length c_l)] (by kernel_rfl) ?_
      refine XS.op rfl rfl (XO.callS (f := 48) (args := [(.slice a_l l.length c_l)].toArray) s33 rfl (by decide) (fun _ => by kernel_rfl) (slices_Clone_row_ok (av A _) _ s33.av_fresh l a_l c_l (h_l_.mono (ev2.trans (ev4.trans (ev5.trans (ev6.trans (ev7.trans (ev9.trans (ev10.trans (ev11.trans (ev12.trans (ev14.trans (ev15.trans (ev16.trans (ev17.trans (ev19.trans (ev21.trans (ev22.trans (ev23.trans (evrev24.trans ev33))))))))))))))))))) (by first | assumption | omega | (intro p hp_; exact hok p (by simpa using hp_)) | (rw [List.length_reverse]; omega))) (fun _ w34 s34 ev34 kp34 hv_ => ?_))
      obtain ⟨ra0_35, rc0_36, rs0_37, rfl, hf38, hf39, hf40⟩ := hv_
      obtain ⟨srs34, evrev34⟩ := s33.gotRow kp34 hf38 hf39
      have hel41 := (show Els tPt (av A [cellsA b1 [.int .i64 (hi128 n.x), .int .u64 (lo128 n.x), .int .i64 (hi128 n.y), .int .u64 (lo128 n.y), .int .i64 (hi128 n.z), .int .u64 (lo128 n.z)] 56, cellsA b3 [.int .i64 2] 3, cellsA b20 [.func (.func 46) #[] #[.pointer (some ⟨b3, 0, none⟩), .pointer (some ⟨b1, 0, none⟩)]] 85, rowA (.slice ra0_25 H31.length rc0_26) H31.length rs0_27 24 3, rowA (.slice ra0_35 ((l).length) rc0_36) ((l).length) rs0_37 24 3]) w34 rs0_37 (l) from hf40)
      refine XS.vals' 1 [(9, .slice ra0_35 ((l).length) rc0_36)] (by kernel_rfl) ?_
      refine XS.done rfl (thn_norm ?_)
      refine XC.seq ?_
      obtain ⟨s42, ev42⟩ := Stt.norm srs34 (S' := [cellsA b1 [.int .i64 (hi128 n.x), .int .u64 (lo128 n.x), .int .i64 (hi128 n.y), .int .u64 (lo128 n.y), .int .i64 (hi128 n.z), .int .u64 (lo128 n.z)] 56, cellsA b3 [.int .i64 2] 3, cellsA b20 [.func (.func 46) #[] #[.pointer (some ⟨b3, 0, none⟩), .pointer (some ⟨b1, 0, none⟩)]] 85, rowA (.slice ra0_25 H31.length rc0_26) H31.length rs0_27 24 3, rowA (.slice ra0_35 ((l).length) rc0_36) ((l).length) rs0_37 24 3]) rfl
      refine XC.region ?_
      refine XS.vals' 1 [(24, .slice ra0_35 ((l).length) rc0_36)] (by kernel_rfl) ?_
      obtain ⟨rb43, ro44, rfl⟩ := row_addr (s42.at_ (i := 4) rfl) (by first | omega | (rw [List.length_take]; omega) | (simp only [List.length_take, List.length_append]; omega))
      obtain ⟨hcap45, s45, ev45⟩ := Stt.rowArr (enc := Pt.enc) s42 4 rfl rfl ((hel41.mono ev42))
      have hs46 : (List.toArray (l)).size = (l).length := by first | rfl | (rw [List.size_toArray]; done) | (rw [List.size_toArray]; symm; exact rfl)
      refine XS.op rfl rfl (XO.callM (q := 4) (f := 27) (args := [(.slice (some ⟨rb43, ro44, none⟩) ((l).length) rc0_36)].toArray) s45 rfl rfl (by decide) (fun _ => by kernel_rfl) (slices_Reverse___api_Point_api_Point__ok (av A _) _ s45.av_fresh rb43 ro44 (l).length rc0_36 (List.toArray (l)) 24 hs46 (s45.at_ (i := 4) rfl)  (by have h_ := hs46; first | assumption | omega | (intro p hp_; exact hok p (by simpa using hp_)) | (rw [List.length_reverse]; omega))) (fun _ w47 kp47 hv_ => ?_))
      obtain ⟨sn48, rfl, hs49, hp50, hh51⟩ := hv_
      have s47 := s45.set (i := 4) (Y := (arrA Pt.enc 3 rb43 ro44 sn48 24)) rfl kp47 hh51 (fun _ h => .inl h)
      have ev47 := Evo.set s45 (i := 4) (Y := (arrA Pt.enc 3 rb43 ro44 sn48 24)) rfl kp47 (fun _ h => .inl h)
      have hq52 : (sn48.toList.take ((l).length)) = (List.reverse (l)) := by rw [hp50]; exact List.take_of_length_le (by simp)
      refine XS.done rfl (thn_norm ?_)
      refine XC.seq ?_
      obtain ⟨s53, ev53⟩ := Stt.norm s47 (S' := [cellsA b1 [.int .i64 (hi128 n.x), .int .u64 (lo128 n.x), .int .i64 (hi128 n.y), .int .u64 (lo128 n.y), .int .i64 (hi128 n.z), .int .u64 (lo128 n.z)] 56, cellsA b3 [.int .i64 2] 3, cellsA b20 [.func (.func 46) #[] #[.pointer (some ⟨b3, 0, none⟩), .pointer (some ⟨b1, 0, none⟩)]] 85, rowA (.slice ra0_25 H31.length rc0_26) H31.length rs0_27 24 3, arrA Pt.enc 3 rb43 ro44 sn48 24]) rfl
      refine XC.region ?_
      refine XS.vals' 2 [(26, .func (.func 47) #[] #[.pointer (some ⟨b20, 0, none⟩)]), (27, .slice (some ⟨rb43, ro44, none⟩) ((l).length) rc0_36)] (by kernel_rfl) ?_
      obtain ⟨s54, ev54, hf54⟩ := Stt.thaw (enc := Pt.enc) (k := 3) s53 4 ((l).length) rc0_36 (fun _ => rfl) rfl (fun _ h => h.elim) (by (have h_ := hs49; first | omega | (rw [List.length_take]; omega) | (simp only [List.length_take, List.length_append]; omega))) (by (have h_ := hs49; first | omega | (rw [List.length_take]; omega) | (simp only [List.length_take, List.length_append]; omega))) (by (have h_ := hs49; first | omega | (rw [List.length_take]; omega) | (simp only [List.length_take, List.length_append]; omega)))
      obtain ⟨hn56, hf55⟩ := Sl.as hf54 hq52
      refine XS.op rfl rfl (XO.callS (f := 47) (args := [(.slice (some ⟨rb43, ro44, none⟩) ((l).length) rc0_36), (.pointer (some ⟨b20, 0, none⟩))].toArray) s54 rfl (by decide) (fun _ => by kernel_rfl) (clean_round_half2_ok (av A _) _ s54.av_fresh (List.reverse (l)) ((l).length) hn56 (some ⟨rb43, ro44, none⟩) rc0_36 hf55 n b20 b3 b1 85 3 56 (s54.at_ (i := 2) rfl) (s54.at_ (i := 1) rfl) (s54.at_ (i := 0) rfl) (by first | assumption | omega | (intro p hp_; exact hok p (by simpa using hp_)) | (rw [List.length_reverse]; omega)) (by first | assumption | omega | (intro p hp_; exact hok p (by simpa using hp_)) | (rw [List.length_reverse]; omega))) (fun _ w57 s57 ev57 kp57 hv_ => ?_))
      obtain ⟨ra0_58, rc0_59, rs0_60, rfl, hf61, hf62, hf63⟩ := hv_
      obtain ⟨H64, hH64⟩ : ∃ H_, H_ = halfOf (sideOf 2 n) (List.reverse (l)) := ⟨_, rfl⟩
      rw [← hH64] at hf61 hf62 hf63
      rw [← hH64]
      have hbH64 : 0 < H64.length ∧ H64.length ≤ l.length := by rw [hH64]; exact ⟨half_ne _ (by first | exact hlen.1 | (rw [List.length_reverse]; exact hlen.1)), Nat.le_trans (half_le _ _) (by simp)⟩
      obtain ⟨srs57, evrev57⟩ := s54.gotRow kp57 hf61 hf62
      have hel65 := (show Els tPt (av A [cellsA b1 [.int .i64 (hi128 n.x), .int .u64 (lo128 n.x), .int .i64 (hi128 n.y), .int .u64 (lo128 n.y), .int .i64 (hi128 n.z), .int .u64 (lo128 n.z)] 56, cellsA b3 [.int .i64 2] 3, cellsA b20 [.func (.func 46) #[] #[.pointer (some ⟨b3, 0, none⟩), .pointer (some ⟨b1, 0, none⟩)]] 85, rowA (.slice ra0_25 H31.length rc0_26) H31.length rs0_27 24 3, rowA (.slice ra0_58 H64.length rc0_59) H64.length rs0_60 24 3]) w57 rs0_60 (H64) from hf63)
      refine XS.vals' 1 [(9, .slice ra0_58 H64.length rc0_59)] (by kernel_rfl) ?_
      refine XS.done rfl (thn_norm ?_)
      refine XC.seq ?_
      obtain ⟨s66, ev66⟩ := Stt.norm srs57 (S' := [cellsA b1 [.int .i64 (hi128 n.x), .int .u64 (lo128 n.x), .int .i64 (hi128 n.y), .int .u64 (lo128 n.y), .int .i64 (hi128 n.z), .int .u64 (lo128 n.z)] 56, cellsA b3 [.int .i64 2] 3, cellsA b20 [.func (.func 46) #[] #[.pointer (some ⟨b3, 0, none⟩), .pointer (some ⟨b1, 0, none⟩)]] 85, rowA (.slice ra0_25 H31.length rc0_26) H31.length rs0_27 24 3, rowA (.slice ra0_58 H64.length rc0_59) H64.length rs0_60 24 3]) rfl
      obtain ⟨rb67, ro68, rfl⟩ := row_addr (s66.at_ (i := 3) rfl) (by first | omega | (rw [List.length_take]; omega) | (simp only [List.length_take, List.length_append]; omega))
      refine XC.drawS 15 rfl (fun x => x = rb67) 13 (by kernel_rfl) s66 (fun w69 s69 ev69 kp69 hH70 => ?_)
      refine XA.valD 0 29 (.slice (some ⟨rb67, ro68, none⟩) H31.length rc0_26) rfl (by kernel_rfl) (by kernel_rfl) (by kernel_rfl) rfl (by kernel_rfl) rfl hH70 (fun hH71 => ?_)
      refine XA.valD 1 30 (.slice (some ⟨rb67, ro68, none⟩) H31.length rc0_26) rfl (by kernel_rfl) (by kernel_rfl) (by kernel_rfl) rfl (by kernel_rfl) rfl hH71 (fun hH72 => ?_)
      refine XA.valD 2 31 (.int .i64 (H31.length : Int)) rfl (by kernel_rfl) (by kernel_rfl) (by kernel_rfl) rfl (by kernel_rfl) rfl hH72 (fun hH73 => ?_)
      refine XA.arith (p := 3) (k := .i64) (r := (H31.length : Int) - 1) rfl (by kernel_rfl) (by kernel_rfl) (by kernel_rfl) rfl (by kernel_rfl) rfl (by decide) (fun _ => by kernel_rfl) (wrap_i64 (by first | omega | (rw [List.length_take]; omega) | (simp only [List.length_take, List.length_append]; omega))) hH73 (fun hH74 => ?_)
      refine XA.valD 4 33 (.slice (some ⟨rb67, ro68, none⟩) H31.length rc0_26) rfl (by kernel_rfl) (by kernel_rfl) (by kernel_rfl) rfl (by kernel_rfl) rfl hH74 (fun hH75 => ?_)
      refine XA.valD 5 34 (.int .i64 (H31.length : Int)) rfl (by kernel_rfl) (by kernel_rfl) (by kernel_rfl) rfl (by kernel_rfl) rfl hH75 (fun hH76 => ?_)
      refine XA.arith (p := 6) (k := .i64) (r := (H31.length : Int) - 1) rfl (by kernel_rfl) (by kernel_rfl) (by kernel_rfl) rfl (by kernel_rfl) rfl (by decide) (fun _ => by kernel_rfl) (wrap_i64 (by first | omega | (rw [List.length_take]; omega) | (simp only [List.length_take, List.length_append]; omega))) hH76 (fun hH77 => ?_)
      refine XA.valD 8 37 (.slice ra0_58 H64.length rc0_59) rfl (by kernel_rfl) (by kernel_rfl) (by kernel_rfl) rfl (by kernel_rfl) rfl hH77 (fun hH78 => ?_)
      refine XA.valD 9 38 (.slice ra0_58 H64.length rc0_59) rfl (by kernel_rfl) (by kernel_rfl) (by kernel_rfl) rfl (by kernel_rfl) rfl hH78 (fun hH79 => ?_)
      refine XA.valD 10 39 (.int .i64 (H64.length : Int)) rfl (by kernel_rfl) (by kernel_rfl) (by kernel_rfl) rfl (by kernel_rfl) rfl hH79 (fun hH80 => ?_)
      refine XA.arith (p := 11) (k := .i64) (r := (H64.length : Int) - 1) rfl (by kernel_rfl) (by kernel_rfl) (by kernel_rfl) rfl (by kernel_rfl) rfl (by decide) (fun _ => by kernel_rfl) (wrap_i64 (by first | omega | (rw [List.length_take]; omega) | (simp only [List.length_take, List.length_append]; omega))) hH80 (fun hH81 => ?_)
      refine XA.op2 (i := 7) (j := 12) rfl rfl (by kernel_rfl) (by kernel_rfl) (by kernel_rfl) ?_ ?_
      · skip
        refine XO.rowHi3 (i := 3) (h := (H31.length - 1)) (e := 24) (sz' := 3) s69 rfl rfl rfl (by decide) rfl rfl rfl (by omega) (by omega) (by first | omega | (rw [List.length_take]; omega) | (simp only [List.length_take, List.length_append]; omega)) (by kernel_rfl) (by kernel_rfl) (fun s82 ev82 => ?_)
        have hel83 := Els.take (((hel32.mono (ev33.trans (evrev34.trans (ev42.trans (ev45.trans (ev47.trans (ev53.trans (ev54.trans (evrev57.trans (ev66.trans ev69))))))))))).mono ev82) (H31.length - 1)
        have hH84 := (Hold.set (i := 7) (by decide)).2 hH81
        refine ⟨hH84, ?_⟩
        obtain ⟨rb85, ro86, rfl⟩ := row_addr (s82.at_ (i := 4) rfl) (by first | omega | (rw [List.length_take]; omega) | (simp only [List.length_take, List.length_append]; omega))
        refine XA.op (i := 12) rfl (by kernel_rfl) (by kernel_rfl) (XO.rowHi (i := 4) (h := (H64.length - 1)) (e := 24) (sz' := 3) s82 rfl rfl rfl (by decide) rfl rfl (by omega) (by first | omega | (rw [List.length_take]; omega) | (simp only [List.length_take, List.length_append]; omega)) (by kernel_rfl) (by kernel_rfl) (fun s87 ev87 => ?_))
        have hel88 := Els.take (((hel65.mono (ev66.trans (ev69.trans ev82)))).mono ev87) (H64.length - 1)
        have hH89 := (Hold.set (i := 12) (by decide)).2 hH84
        refine ⟨hH89, ?_⟩
        have hnn90 : H64.length - 1 = ((List.take (H64.length - 1) (H64))).length := (by simp only [List.length_take]; first | omega | (rw [List.length_take]; omega) | (simp only [List.length_take, List.length_append]; omega))
        obtain ⟨s91, ev91, hf91⟩ := Stt.freeze s87 4 rfl (fun _ h => h.elim) hnn90 (by have h_ := hnn90; first | omega | (simp only [List.length_take, List.length_append]; omega)) (hel88)
        have hq_ := Sl.fin hf91 rfl
        obtain ⟨ra92, rc93, he95, hf94⟩ := hq_
        obtain ⟨cs96, hsrc97, he98⟩ := Sl.src (P := Tryz.prog) hf91 (by decide)
        have hroom100 : (H31.length - 1 + (List.take (H64.length - 1) (H64)).length) * 24 ≤ 140737488355328 := by first | omega | (rw [List.length_take]; omega) | (simp only [List.length_take, List.length_append]; omega)
        refine XA.op (i := 13) rfl (by kernel_rfl) (by kernel_rfl) (XO.append (k' := ((List.take (H31.length - 1) (H31)) ++ (List.take (H64.length - 1) (H64))).length) (i := 3) (cs := (List.take ((H31.length - 1) * 3) rs0_27)) (new := cs96) (sz := 3) (bytes := 24) (z := .agg #[.int .i64 0, .int .i64 0, .int .i64 0]) (k := (H31.length - 1)) (m := ((List.take (H64.length - 1) (H64)).length)) (by first | rfl | (simp only [List.length_append, List.length_nil]; done) | (simp only [List.length_append, List.length_nil]; omega) | (simp only [List.length_append, List.length_take, List.length_cons, List.length_nil]; omega)) s91 rfl rfl rfl (by decide) rfl rfl (by kernel_rfl) (by kernel_rfl) (by kernel_rfl) (by kernel_rfl) rfl rfl hsrc97 (Els.one1 he98 (fun c_ x_ h_ => by have h_ : c_ = _ := h_; subst h_; rfl)) (by exact hroom100) (fun ra101 rc102 w99 s99 ev99 kp99 => ?_))
        have hel103 := Els.append (((hel83.mono (ev87.trans ev91))).mono ev99) ((he98).mono ev99)
        have hH104 := hH89.turn (i := 13) kp99 (fun b_ _ e_ => by obtain ⟨_, _, _, h_⟩ := e_; cases h_; first | rfl | simp) rfl
        refine ⟨hH104, ?_⟩
        refine XA.valD 14 4 (.slice ra101 (((List.take (H31.length - 1) (H31)) ++ (List.take (H64.length - 1) (H64))).length) rc102) rfl (by kernel_rfl) (by kernel_rfl) (by kernel_rfl) rfl (by kernel_rfl) rfl hH104 (fun hH105 => ?_)
        refine XA.done (by kernel_rfl) (thn_norm ?_)
        refine XC.ret ?_
        refine ⟨Or.inr rfl, .slice ra101 (((List.take (H31.length - 1) (H31)) ++ (List.take (H64.length - 1) (H64))).length) rc102, fun a_ ha_ => results_t rfl ha_ rfl, s99.keep, ?_⟩
        have hS0_ := Sl.fin (s99.rowOut (τ := tPt) 3 rfl rfl (by first | omega | (simp only [List.length_take, List.length_append]; omega)) hel103) (show _ = roundOf l n from (by subst hH31 hH64; exact roundOf_k (kOf_2 hc8 hc13)))
        obtain ⟨ra0, rc0, he0_, hS0_⟩ := hS0_
        rw [he0_]
        refine ⟨ra0, rc0, ?_, hS0_⟩
        rfl
      · skip
        obtain ⟨rb106, ro107, rfl⟩ := row_addr (s69.at_ (i := 4) rfl) (by first | omega | (rw [List.length_take]; omega) | (simp only [List.length_take, List.length_append]; omega))
        refine XO.rowHi (i := 4) (h := (H64.length - 1)) (e := 24) (sz' := 3) s69 rfl rfl rfl (by decide) rfl rfl (by omega) (by first | omega | (rw [List.length_take]; omega) | (simp only [List.length_take, List.length_append]; omega)) (by kernel_rfl) (by kernel_rfl) (fun s108 ev108 => ?_)
        have hel109 := Els.take (((hel65.mono (ev66.trans ev69))).mono ev108) (H64.length - 1)
        have hH110 := (Hold.set (i := 12) (by decide)).2 hH81
        refine ⟨hH110, ?_⟩
        refine XA.op (i := 7) rfl (by kernel_rfl) (by kernel_rfl) (XO.rowHi3 (i := 3) (h := (H31.length - 1)) (e := 24) (sz' := 3) s108 rfl rfl rfl (by decide) rfl rfl rfl (by omega) (by omega) (by first | omega | (rw [List.length_take]; omega) | (simp only [List.length_take, List.length_append]; omega)) (by kernel_rfl) (by kernel_rfl) (fun s111 ev111 => ?_))
        have hel112 := Els.take (((hel32.mono (ev33.trans (evrev34.trans (ev42.trans (ev45.trans (ev47.trans (ev53.trans (ev54.trans (evrev57.trans (ev66.trans (ev69.trans ev108)))))))))))).mono ev111) (H31.length - 1)
        have hH113 := (Hold.set (i := 7) (by decide)).2 hH110
        refine ⟨hH113, ?_⟩
        have hnn114 : H64.length - 1 = ((List.take (H64.length - 1) (H64))).length := (by simp only [List.length_take]; first | omega | (rw [List.length_take]; omega) | (simp only [List.length_take, List.length_append]; omega))
        obtain ⟨s115, ev115, hf115⟩ := Stt.freeze s111 4 rfl (fun _ h => h.elim) hnn114 (by have h_ := hnn114; first | omega | (simp only [List.length_take, List.length_append]; omega)) ((hel109.mono ev111))
        have hq_ := Sl.fin hf115 rfl
        obtain ⟨ra116, rc117, he119, hf118⟩ := hq_
        obtain ⟨cs120, hsrc121, he122⟩ := Sl.src (P := Tryz.prog) hf115 (by decide)
        have hroom124 : (H31.length - 1 + (List.take (H64.length - 1) (H64)).length) * 24 ≤ 140737488355328 := by first | omega | (rw [List.length_take]; omega) | (simp only [List.length_take, List.length_append]; omega)
        refine XA.op (i := 13) rfl (by kernel_rfl) (by kernel_rfl) (XO.append (k' := ((List.take (H31.length - 1) (H31)) ++ (List.take (H64.length - 1) (H64))).length) (i := 3) (cs := (List.take ((H31.length - 1) * 3) rs0_27)) (new := cs120) (sz := 3) (bytes := 24) (z := .agg #[.int .i64 0, .int .i64 0, .int .i64 0]) (k := (H31.length - 1)) (m := ((List.take (H64.length - 1) (H64)).length)) (by first | rfl | (simp only [List.length_append, List.length_nil]; done) | (simp only [List.length_append, List.length_nil]; omega) | (simp only [List.length_append, List.length_take, List.length_cons, List.length_nil]; omega)) s115 rfl rfl rfl (by decide) rfl rfl (by kernel_rfl) (by kernel_rfl) (by kernel_rfl) (by kernel_rfl) rfl rfl hsrc121 (Els.one1 he122 (fun c_ x_ h_ => by have h_ : c_ = _ := h_; subst h_; rfl)) (by exact hroom124) (fun ra125 rc126 w123 s123 ev123 kp123 => ?_))
        have hel127 := Els.append (((hel112.mono ev115)).mono ev123) ((he122).mono ev123)
        have hH128 := hH113.turn (i := 13) kp123 (fun b_ _ e_ => by obtain ⟨_, _, _, h_⟩ := e_; cases h_; first | rfl | simp) rfl
        refine ⟨hH128, ?_⟩
        refine XA.valD 14 4 (.slice ra125 (((List.take (H31.length - 1) (H31)) ++ (List.take (H64.length - 1) (H64))).length) rc126) rfl (by kernel_rfl) (by kernel_rfl) (by kernel_rfl) rfl (by kernel_rfl) rfl hH128 (fun hH129 => ?_)
        refine XA.done (by kernel_rfl) (thn_norm ?_)
        refine XC.ret ?_
        refine ⟨Or.inr rfl, .slice ra125 (((List.take (H31.length - 1) (H31)) ++ (List.take (H64.length - 1) (H64))).length) rc126, fun a_ ha_ => results_t rfl ha_ rfl, s123.keep, ?_⟩
        have hS0_ := Sl.fin (s123.rowOut (τ := tPt) 3 rfl rfl (by first | omega | (simp only [List.length_take, List.length_append]; omega)) hel127) (show _ = roundOf l n from (by subst hH31 hH64; exact roundOf_k (kOf_2 hc8 hc13)))
        obtain ⟨ra0, rc0, he0_, hS0_⟩ := hS0_
        rw [he0_]
        refine ⟨ra0, rc0, ?_, hS0_⟩
        rfl
    · skip
      refine XC.exit (thn_exit (thn_exit (inBlk_hit (thn_norm ?_))))
      refine XC.seq ?_
      obtain ⟨s130, ev130⟩ := Stt.norm s12 (S' := [cellsA b1 [.int .i64 (hi128 n.x), .int .u64 (lo128 n.x), .int .i64 (hi128 n.y), .int .u64 (lo128 n.y), .int .i64 (hi128 n.z), .int .u64 (lo128 n.z)] 56, cellsA b3 [.int .i64 1] 3]) rfl
      refine XC.region ?_
      refine XS.vals' 1 [(17, .func (.func 46) #[] #[.pointer (some ⟨b3, 0, none⟩), .pointer (some ⟨b1, 0, none⟩)])] (by kernel_rfl) ?_
      refine XS.op rfl rfl (XO.new (cs := [.nilFunc]) (T := 85) s130 rfl (by decide) (fun _ => by kernel_rfl) (fun b131 w132 s132 ev132 kp132 ybb131 => ?_))
      refine XS.op rfl rfl (XO.storeS (i := 2) (v := .func (.func 46) #[] #[.pointer (some ⟨b3, 0, none⟩), .pointer (some ⟨b1, 0, none⟩)]) (m := 1) (cs' := [.func (.func 46) #[] #[.pointer (some ⟨b3, 0, none⟩), .pointer (some ⟨b1, 0, none⟩)]]) s132 rfl rfl rfl rfl rfl (by kernel_rfl) rfl rfl rfl rfl (fun w133 s133 ev133 kp133 => ?_))
      refine XS.done rfl (thn_norm ?_)
      refine XC.seq ?_
      obtain ⟨s134, ev134⟩ := Stt.norm s133 (S' := [cellsA b1 [.int .i64 (hi128 n.x), .int .u64 (lo128 n.x), .int .i64 (hi128 n.y), .int .u64 (lo128 n.y), .int .i64 (hi128 n.z), .int .u64 (lo128 n.z)] 56, cellsA b3 [.int .i64 1] 3, cellsA b131 [.func (.func 46) #[] #[.pointer (some ⟨b3, 0, none⟩), .pointer (some ⟨b1, 0, none⟩)]] 85]) rfl
      refine XC.region ?_
      refine XS.vals' 2 [(18, .func (.func 47) #[] #[.pointer (some ⟨b131, 0, none⟩)]), (7, .func (.func 47) #[] #[.pointer (some ⟨b131, 0, none⟩)])] (by kernel_rfl) ?_
      refine XS.done rfl (thn_norm ?_)
      refine XC.seq ?_
      refine XC.region ?_
      refine XS.vals' 2 [(19, .func (.func 47) #[] #[.pointer (some ⟨b131, 0, none⟩)]), (20, .slice a_l l.length c_l)] (by kernel_rfl) ?_
      refine XS.op rfl rfl (XO.callS (f := 47) (args := [(.slice a_l l.length c_l), (.pointer (some ⟨b131, 0, none⟩))].toArray) s134 rfl (by decide) (fun _ => by kernel_rfl) (clean_round_half1_ok (av A _) _ s134.av_fresh l l.length rfl a_l c_l (h_l_.mono (ev2.trans (ev4.trans (ev5.trans (ev6.trans (ev7.trans (ev9.trans (ev10.trans (ev11.trans (ev12.trans (ev130.trans (ev132.trans (ev133.trans ev134))))))))))))) n b131 b3 b1 85 3 56 (s134.at_ (i := 2) rfl) (s134.at_ (i := 1) rfl) (s134.at_ (i := 0) rfl) (by first | assumption | omega | (intro p hp_; exact hok p (by simpa using hp_)) | (rw [List.length_reverse]; omega)) (by first | assumption | omega | (intro p hp_; exact hok p (by simpa using hp_)) | (rw [List.length_reverse]; omega))) (fun _ w135 s135 ev135 kp135 hv_ => ?_))
      obtain ⟨ra0_136, rc0_137, rs0_138, rfl, hf139, hf140, hf141⟩ := hv_
      obtain ⟨H142, hH142⟩ : ∃ H_, H_ = halfOf (sideOf 1 n) l := ⟨_, rfl⟩
      rw [← hH142] at hf139 hf140 hf141
      rw [← hH142]
      have hbH142 : 0 < H142.length ∧ H142.length ≤ l.length := by rw [hH142]; exact ⟨half_ne _ (by first | exact hlen.1 | (rw [List.length_reverse]; exact hlen.1)), Nat.le_trans (half_le _ _) (by simp)⟩
      obtain ⟨srs135, evrev135⟩ := s134.gotRow kp135 hf139 hf140
      have hel143 := (show Els tPt (av A [cellsA b1 [.int .i64 (hi128 n.x), .int .u64 (lo128 n.x), .int .i64 (hi128 n.y), .int .u64 (lo128 n.y), .int .i64 (hi128 n.z), .int .u64 (lo128 n.z)] 56, cellsA b3 [.int .i64 1] 3, cellsA b131 [.func (.func 46) #[] #[.pointer (some ⟨b3, 0, none⟩), .pointer (some ⟨b1, 0, none⟩)]] 85, rowA (.slice ra0_136 H142.length rc0_137) H142.length rs0_138 24 3]) w135 rs0_138 (H142) from hf141)
      refine XS.vals' 1 [(8, .slice ra0_136 H142.length rc0_137)] (by kernel_rfl) ?_
      refine XS.done rfl (thn_norm ?_)
      refine XC.seq ?_
      obtain ⟨s144, ev144⟩ := Stt.norm srs135 (S' := [cellsA b1 [.int .i64 (hi128 n.x), .int .u64 (lo128 n.x), .int .i64 (hi128 n.y), .int .u64 (lo128 n.y), .int .i64 (hi128 n.z), .int .u64 (lo128 n.z)] 56, cellsA b3 [.int .i64 1] 3, cellsA b131 [.func (.func 46) #[] #[.pointer (some ⟨b3, 0, none⟩), .pointer (some ⟨b1, 0, none⟩)]] 85, rowA (.slice ra0_136 H142.length rc0_137) H142.length rs0_138 24 3]) rfl
      refine XC.region ?_
      refine XS.vals' 1 [(22, .slice a_l l.length c_l)] (by kernel_rfl) ?_
      refine XS.op rfl rfl (XO.callS (f := 48) (args := [(.slice a_l l.length c_l)].toArray) s144 rfl (by decide) (fun _ => by kernel_rfl) (slices_Clone_row_ok (av A _) _ s144.av_fresh l a_l c_l (h_l_.mono (ev2.trans (ev4.trans (ev5.trans (ev6.trans (ev7.trans (ev9.trans (ev10.trans (ev11.trans (ev12.trans (ev130.trans (ev132.trans (ev133.trans (ev134.trans (evrev135.trans ev144))))))))))))))) (by first | assumption | omega | (intro p hp_; exact hok p (by simpa using hp_)) | (rw [List.length_reverse]; omega))) (fun _ w145 s145 ev145 kp145 hv_ => ?_))
      obtain ⟨ra0_146, rc0_147, rs0_148, rfl, hf149, hf150, hf151⟩ := hv_
      obtain ⟨srs145, evrev145⟩ := s144.gotRow kp145 hf149 hf150
      have hel152 := (show Els tPt (av A [cellsA b1 [.int .i64 (hi128 n.x), .int .u64 (lo128 n.x), .int .i64 (hi128 n.y), .int .u64 (lo128 n.y), .int .i64 (hi128 n.z), .int .u64 (lo128 n.z)] 56, cellsA b3 [.int .i64 1] 3, cellsA b131 [.func (.func 46) #[] #[.pointer (some ⟨b3, 0, none⟩), .pointer (some ⟨b1, 0, none⟩)]] 85, rowA (.slice ra0_136 H142.length rc0_137) H142.length rs0_138 24 3, rowA (.slice ra0_146 ((l).length) rc0_147) ((l).length) rs0_148 24 3]) w145 rs0_148 (l) from hf151)
      refine XS.vals' 1 [(9, .slice ra0_146 ((l).length) rc0_147)] (by kernel_rfl) ?_
      refine XS.done rfl (thn_norm ?_)
      refine XC.seq ?_
      obtain ⟨s153, ev153⟩ := Stt.norm srs145 (S' := [cellsA b1 [.int .i64 (hi128 n.x), .int .u64 (lo128 n.x), .int .i64 (hi128 n.y), .int .u64 (lo128 n.y), .int .i64 (hi128 n.z), .int .u64 (lo128 n.z)] 56, cellsA b3 [.int .i64 1] 3, cellsA b131 [.func (.func 46) #[] #[.pointer (some ⟨b3, 0, none⟩), .pointer (some ⟨b1, 0, none⟩)]] 85, rowA (.slice ra0_136 H142.length rc0_137) H142.length rs0_138 24 3, rowA (.slice ra0_146 ((l).length) rc0_147) ((l).length) rs0_148 24 3]) rfl
      refine XC.region ?_
      refine XS.vals' 1 [(24, .slice ra0_146 ((l).length) rc0_147)] (by kernel_rfl) ?_
      obtain ⟨rb154, ro155, rfl⟩ := row_addr (s153.at_ (i := 4) rfl) (by first | omega | (rw [List.length_take]; omega) | (simp only [List.length_take, List.length_append]; omega))
      obtain ⟨hcap156, s156, ev156⟩ := Stt.rowArr (enc := Pt.enc) s153 4 rfl rfl ((hel152.mono ev153))
      have hs157 : (List.toArray (l)).size = (l).length := by first | rfl | (rw [List.size_toArray]; done) | (rw [List.size_toArray]; symm; exact rfl)
      refine XS.op rfl rfl (XO.callM (q := 4) (f := 27) (args := [(.slice (some ⟨rb154, ro155, none⟩) ((l).length) rc0_147)].toArray) s156 rfl rfl (by decide) (fun _ => by kernel_rfl) (slices_Reverse___api_Point_api_Point__ok (av A _) _ s156.av_fresh rb154 ro155 (l).length rc0_147 (List.toArray (l)) 24 hs157 (s156.at_ (i := 4) rfl)  (by have h_ := hs157; first | assumption | omega | (intro p hp_; exact hok p (by simpa using hp_)) | (rw [List.length_reverse]; omega))) (fun _ w158 kp158 hv_ => ?_))
      obtain ⟨sn159, rfl, hs160, hp161, hh162⟩ := hv_
      have s158 := s156.set (i := 4) (Y := (arrA Pt.enc 3 rb154 ro155 sn159 24)) rfl kp158 hh162 (fun _ h => .inl h)
      have ev158 := Evo.set s156 (i := 4) (Y := (arrA Pt.enc 3 rb154 ro155 sn159 24)) rfl kp158 (fun _ h => .inl h)
      have hq163 : (sn159.toList.take ((l).length)) = (List.reverse (l)) := by rw [hp161]; exact List.take_of_length_le (by simp)
      refine XS.done rfl (thn_norm ?_)
      refine XC.seq ?_
      obtain ⟨s164, ev164⟩ := Stt.norm s158 (S' := [cellsA b1 [.int .i64 (hi128 n.x), .int .u64 (lo128 n.x), .int .i64 (hi128 n.y), .int .u64 (lo128 n.y), .int .i64 (hi128 n.z), .int .u64 (lo128 n.z)] 56, cellsA b3 [.int .i64 1] 3, cellsA b131 [.func (.func 46) #[] #[.pointer (some ⟨b3, 0, none⟩), .pointer (some ⟨b1, 0, none⟩)]] 85, rowA (.slice ra0_136 H142.length rc0_137) H142.length rs0_138 24 3, arrA Pt.enc 3 rb154 ro155 sn159 24]) rfl
      refine XC.region ?_
      refine XS.vals' 2 [(26, .func (.func 47) #[] #[.pointer (some ⟨b131, 0, none⟩)]), (27, .slice (some ⟨rb154, ro155, none⟩) ((l).length) rc0_147)] (by kernel_rfl) ?_
      obtain ⟨s165, ev165, hf165⟩ := Stt.thaw (enc := Pt.enc) (k := 3) s164 4 ((l).length) rc0_147 (fun _ => rfl) rfl (fun _ h => h.elim) (by (have h_ := hs160; first | omega | (rw [List.length_take]; omega) | (simp only [List.length_take, List.length_append]; omega))) (by (have h_ := hs160; first | omega | (rw [List.length_take]; omega) | (simp only [List.length_take, List.length_append]; omega))) (by (have h_ := hs160; first | omega | (rw [List.length_take]; omega) | (simp only [List.length_take, List.length_append]; omega)))
      obtain ⟨hn167, hf166⟩ := Sl.as hf165 hq163
      refine XS.op rfl rfl (XO.callS (f := 47) (args := [(.slice (some ⟨rb154, ro155, none⟩) ((l).length) rc0_147), (.pointer (some ⟨b131, 0, none⟩))].toArray) s165 rfl (by decide) (fun _ => by kernel_rfl) (clean_round_half1_ok (av A _) _ s165.av_fresh (List.reverse (l)) ((l).length) hn167 (some ⟨rb154, ro155, none⟩) rc0_147 hf166 n b131 b3 b1 85 3 56 (s165.at_ (i := 2) rfl) (s165.at_ (i := 1) rfl) (s165.at_ (i := 0) rfl) (by first | assumption | omega | (intro p hp_; exact hok p (by simpa using hp_)) | (rw [List.length_reverse]; omega)) (by first | assumption | omega | (intro p hp_; exact hok p (by simpa using hp_)) | (rw [List.length_reverse]; omega))) (fun _ w168 s168 ev168 kp168 hv_ => ?_))
      obtain ⟨ra0_169, rc0_170, rs0_171, rfl, hf172, hf173, hf174⟩ := hv_
      obtain ⟨H175, hH175⟩ : ∃ H_, H_ = halfOf (sideOf 1 n) (List.reverse (l)) := ⟨_, rfl⟩
      rw [← hH175] at hf172 hf173 hf174
      rw [← hH175]
      have hbH175 : 0 < H175.length ∧ H175.length ≤ l.length := by rw [hH175]; exact ⟨half_ne _ (by first | exact hlen.1 | (rw [List.length_reverse]; exact hlen.1)), Nat.le_trans (half_le _ _) (by simp)⟩
      obtain ⟨srs168, evrev168⟩ := s165.gotRow kp168 hf172 hf173
      have hel176 := (show Els tPt (av A [cellsA b1 [.int .i64 (hi128 n.x), .int .u64 (lo128 n.x), .int .i64 (hi128 n.y), .int .u64 (lo128 n.y), .int .i64 (hi128 n.z), .int .u64 (lo128 n.z)] 56, cellsA b3 [.int .i64 1] 3, cellsA b131 [.func (.func 46) #[] #[.pointer (some ⟨b3, 0, none⟩), .pointer (some ⟨b1, 0, none⟩)]] 85, rowA (.slice ra0_136 H142.length rc0_137) H142.length rs0_138 24 3, rowA (.slice ra0_169 H175.length rc0_170) H175.length rs0_171 24 3]) w168 rs0_171 (H175) from hf174)
      refine XS.vals' 1 [(9, .slice ra0_169 H175.length rc0_170)] (by kernel_rfl) ?_
      refine XS.done rfl (thn_norm ?_)
      refine XC.seq ?_
      obtain ⟨s177, ev177⟩ := Stt.norm srs168 (S' := [cellsA b1 [.int .i64 (hi128 n.x), .int .u64 (lo128 n.x), .int .i64 (hi128 n.y), .int .u64 (lo128 n.y), .int .i64 (hi128 n.z), .int .u64 (lo128 n.z)] 56, cellsA b3 [.int .i64 1] 3, cellsA b131 [.func (.func 46) #[] #[.pointer (some ⟨b3, 0, none⟩), .pointer (some ⟨b1, 0, none⟩)]] 85, rowA (.slice ra0_136 H142.length rc0_137) H142.length rs0_138 24 3, rowA (.slice ra0_169 H175.length rc0_170) H175.length rs0_171 24 3]) rfl
      obtain ⟨rb178, ro179, rfl⟩ := row_addr (s177.at_ (i := 3) rfl) (by first | omega | (rw [List.length_take]; omega) | (simp only [List.length_take, List.length_append]; omega))
      refine XC.drawS 15 rfl (fun x => x = rb178) 13 (by kernel_rfl) s177 (fun w180 s180 ev180 kp180 hH181 => ?_)
      refine XA.valD 0 29 (.slice (some ⟨rb178, ro179, none⟩) H142.length rc0_137) rfl (by kernel_rfl) (by kernel_rfl) (by kernel_rfl) rfl (by kernel_rfl) rfl hH181 (fun hH182 => ?_)
      refine XA.valD 1 30 (.slice (some ⟨rb178, ro179, none⟩) H142.length rc0_137) rfl (by kernel_rfl) (by kernel_rfl) (by kernel_rfl) rfl (by kernel_rfl) rfl hH182 (fun hH183 => ?_)
      refine XA.valD 2 31 (.int .i64 (H142.length : Int)) rfl (by kernel_rfl) (by kernel_rfl) (by kernel_rfl) rfl (by kernel_rfl) rfl hH183 (fun hH184 => ?_)
      refine XA.arith (p := 3) (k := .i64) (r := (H142.length : Int) - 1) rfl (by kernel_rfl) (by kernel_rfl) (by kernel_rfl) rfl (by kernel_rfl) rfl (by decide) (fun _ => by kernel_rfl) (wrap_i64 (by first | omega | (rw [List.length_take]; omega) | (simp only [List.length_take, List.length_append]; omega))) hH184 (fun hH185 => ?_)
      refine XA.valD 4 33 (.slice (some ⟨rb178, ro179, none⟩) H142.length rc0_137) rfl (by kernel_rfl) (by kernel_rfl) (by kernel_rfl) rfl (by kernel_rfl) rfl hH185 (fun hH186 => ?_)
      refine XA.valD 5 34 (.int .i64 (H142.length : Int)) rfl (by kernel_rfl) (by kernel_rfl) (by kernel_rfl) rfl (by kernel_rfl) rfl hH186 (fun hH187 => ?_)
      refine XA.arith (p := 6) (k := .i64) (r := (H142.length : Int) - 1) rfl (by kernel_rfl) (by kernel_rfl) (by kernel_rfl) rfl (by kernel_rfl) rfl (by decide) (fun _ => by kernel_rfl) (wrap_i64 (by first | omega | (rw [List.length_take]; omega) | (simp only [List.length_take, List.length_append]; omega))) hH187 (fun hH188 => ?_)
      refine XA.valD 8 37 (.slice ra0_169 H175.length rc0_170) rfl (by kernel_rfl) (by kernel_rfl) (by kernel_rfl) rfl (by kernel_rfl) rfl hH188 (fun hH189 => ?_)
      refine XA.valD 9 38 (.slice ra0_169 H175.length rc0_170) rfl (by kernel_rfl) (by kernel_rfl) (by kernel_rfl) rfl (by kernel_rfl) rfl hH189 (fun hH190 => ?_)
      refine XA.valD 10 39 (.int .i64 (H175.length : Int)) rfl (by kernel_rfl) (by kernel_rfl) (by kernel_rfl) rfl (by kernel_rfl) rfl hH190 (fun hH191 => ?_)
      refine XA.arith (p := 11) (k := .i64) (r := (H175.length : Int) - 1) rfl (by kernel_rfl) (by kernel_rfl) (by kernel_rfl) rfl (by kernel_rfl) rfl (by decide) (fun _ => by kernel_rfl) (wrap_i64 (by first | omega | (rw [List.length_take]; omega) | (simp only [List.length_take, List.length_append]; omega))) hH191 (fun hH192 => ?_)
      refine XA.op2 (i := 7) (j := 12) rfl rfl (by kernel_rfl) (by kernel_rfl) (by kernel_rfl) ?_ ?_
      · skip
        refine XO.rowHi3 (i := 3) (h := (H142.length - 1)) (e := 24) (sz' := 3) s180 rfl rfl rfl (by decide) rfl rfl rfl (by omega) (by omega) (by first | omega | (rw [List.length_take]; omega) | (simp only [List.length_take, List.length_append]; omega)) (by kernel_rfl) (by kernel_rfl) (fun s193 ev193 => ?_)
        have hel194 := Els.take (((hel143.mono (ev144.trans (evrev145.trans (ev153.trans (ev156.trans (ev158.trans (ev164.trans (ev165.trans (evrev168.trans (ev177.trans ev180))))))))))).mono ev193) (H142.length - 1)
        have hH195 := (Hold.set (i := 7) (by decide)).2 hH192
        refine ⟨hH195, ?_⟩
        obtain ⟨rb196, ro197, rfl⟩ := row_addr (s193.at_ (i := 4) rfl) (by first | omega | (rw [List.length_take]; omega) | (simp only [List.length_take, List.length_append]; omega))
        refine XA.op (i := 12) rfl (by kernel_rfl) (by kernel_rfl) (XO.rowHi (i := 4) (h := (H175.length - 1)) (e := 24) (sz' := 3) s193 rfl rfl rfl (by decide) rfl rfl (by omega) (by first | omega | (rw [List.length_take]; omega) | (simp only [List.length_take, List.length_append]; omega)) (by kernel_rfl) (by kernel_rfl) (fun s198 ev198 => ?_))
        have hel199 := Els.take (((hel176.mono (ev177.trans (ev180.trans ev193)))).mono ev198) (H175.length - 1)
        have hH200 := (Hold.set (i := 12) (by decide)).2 hH195
        refine ⟨hH200, ?_⟩
        have hnn201 : H175.length - 1 = ((List.take (H175.length - 1) (H175))).length := (by simp only [List.length_take]; first | omega | (rw [List.length_take]; omega) | (simp only [List.length_take, List.length_append]; omega))
        obtain ⟨s202, ev202, hf202⟩ := Stt.freeze s198 4 rfl (fun _ h => h.elim) hnn201 (by have h_ := hnn201; first | omega | (simp only [List.length_take, List.length_append]; omega)) (hel199)
        have hq_ := Sl.fin hf202 rfl
        obtain ⟨ra203, rc204, he206, hf205⟩ := hq_
        obtain ⟨cs207, hsrc208, he209⟩ := Sl.src (P := Tryz.prog) hf202 (by decide)
        have hroom211 : (H142.length - 1 + (List.take (H175.length - 1) (H175)).length) * 24 ≤ 140737488355328 := by first | omega | (rw [List.length_take]; omega) | (simp only [List.length_take, List.length_append]; omega)
        refine XA.op (i := 13) rfl (by kernel_rfl) (by kernel_rfl) (XO.append (k' := ((List.take (H142.length - 1) (H142)) ++ (List.take (H175.length - 1) (H175))).length) (i := 3) (cs := (List.take ((H142.length - 1) * 3) rs0_138)) (new := cs207) (sz := 3) (bytes := 24) (z := .agg #[.int .i64 0, .int .i64 0, .int .i64 0]) (k := (H142.length - 1)) (m := ((List.take (H175.length - 1) (H175)).length)) (by first | rfl | (simp only [List.length_append, List.length_nil]; done) | (simp only [List.length_append, List.length_nil]; omega) | (simp only [List.length_append, List.length_take, List.length_cons, List.length_nil]; omega)) s202 rfl rfl rfl (by decide) rfl rfl (by kernel_rfl) (by kernel_rfl) (by kernel_rfl) (by kernel_rfl) rfl rfl hsrc208 (Els.one1 he209 (fun c_ x_ h_ => by have h_ : c_ = _ := h_; subst h_; rfl)) (by exact hroom211) (fun ra212 rc213 w210 s210 ev210 kp210 => ?_))
        have hel214 := Els.append (((hel194.mono (ev198.trans ev202))).mono ev210) ((he209).mono ev210)
        have hH215 := hH200.turn (i := 13) kp210 (fun b_ _ e_ => by obtain ⟨_, _, _, h_⟩ := e_; cases h_; first | rfl | simp) rfl
        refine ⟨hH215, ?_⟩
        refine XA.valD 14 4 (.slice ra212 (((List.take (H142.length - 1) (H142)) ++ (List.take (H175.length - 1) (H175))).length) rc213) rfl (by kernel_rfl) (by kernel_rfl) (by kernel_rfl) rfl (by kernel_rfl) rfl hH215 (fun hH216 => ?_)
        refine XA.done (by kernel_rfl) (thn_norm ?_)
        refine XC.ret ?_
        refine ⟨Or.inr rfl, .slice ra212 (((List.take (H142.length - 1) (H142)) ++ (List.take (H175.length - 1) (H175))).length) rc213, fun a_ ha_ => results_t rfl ha_ rfl, s210.keep, ?_⟩
        have hS0_ := Sl.fin (s210.rowOut (τ := tPt) 3 rfl rfl (by first | omega | (simp only [List.length_take, List.length_append]; omega)) hel214) (show _ = roundOf l n from (by subst hH142 hH175; exact roundOf_k (kOf_1 hc8 hc13)))
        obtain ⟨ra0, rc0, he0_, hS0_⟩ := hS0_
        rw [he0_]
        refine ⟨ra0, rc0, ?_, hS0_⟩
        rfl
      · skip
        obtain ⟨rb217, ro218, rfl⟩ := row_addr (s180.at_ (i := 4) rfl) (by first | omega | (rw [List.length_take]; omega) | (simp only [List.length_take, List.length_append]; omega))
        refine XO.rowHi (i := 4) (h := (H175.length - 1)) (e := 24) (sz' := 3) s180 rfl rfl rfl (by decide) rfl rfl (by omega) (by first | omega | (rw [List.length_take]; omega) | (simp only [List.length_take, List.length_append]; omega)) (by kernel_rfl) (by kernel_rfl) (fun s219 ev219 => ?_)
        have hel220 := Els.take (((hel176.mono (ev177.trans ev180))).mono ev219) (H175.length - 1)
        have hH221 := (Hold.set (i := 12) (by decide)).2 hH192
        refine ⟨hH221, ?_⟩
        refine XA.op (i := 7) rfl (by kernel_rfl) (by kernel_rfl) (XO.rowHi3 (i := 3) (h := (H142.length - 1)) (e := 24) (sz' := 3) s219 rfl rfl rfl (by decide) rfl rfl rfl (by omega) (by omega) (by first | omega | (rw [List.length_take]; omega) | (simp only [List.length_take, List.length_append]; omega)) (by kernel_rfl) (by kernel_rfl) (fun s222 ev222 => ?_))
        have hel223 := Els.take (((hel143.mono (ev144.trans (evrev145.trans (ev153.trans (ev156.trans (ev158.trans (ev164.trans (ev165.trans (evrev168.trans (ev177.trans (ev180.trans ev219)))))))))))).mono ev222) (H142.length - 1)
        have hH224 := (Hold.set (i := 7) (by decide)).2 hH221
        refine ⟨hH224, ?_⟩
        have hnn225 : H175.length - 1 = ((List.take (H175.length - 1) (H175))).length := (by simp only [List.length_take]; first | omega | (rw [List.length_take]; omega) | (simp only [List.length_take, List.length_append]; omega))
        obtain ⟨s226, ev226, hf226⟩ := Stt.freeze s222 4 rfl (fun _ h => h.elim) hnn225 (by have h_ := hnn225; first | omega | (simp only [List.length_take, List.length_append]; omega)) ((hel220.mono ev222))
        have hq_ := Sl.fin hf226 rfl
        obtain ⟨ra227, rc228, he230, hf229⟩ := hq_
        obtain ⟨cs231, hsrc232, he233⟩ := Sl.src (P := Tryz.prog) hf226 (by decide)
        have hroom235 : (H142.length - 1 + (List.take (H175.length - 1) (H175)).length) * 24 ≤ 140737488355328 := by first | omega | (rw [List.length_take]; omega) | (simp only [List.length_take, List.length_append]; omega)
        refine XA.op (i := 13) rfl (by kernel_rfl) (by kernel_rfl) (XO.append (k' := ((List.take (H142.length - 1) (H142)) ++ (List.take (H175.length - 1) (H175))).length) (i := 3) (cs := (List.take ((H142.length - 1) * 3) rs0_138)) (new := cs231) (sz := 3) (bytes := 24) (z := .agg #[.int .i64 0, .int .i64 0, .int .i64 0]) (k := (H142.length - 1)) (m := ((List.take (H175.length - 1) (H175)).length)) (by first | rfl | (simp only [List.length_append, List.length_nil]; done) | (simp only [List.length_append, List.length_nil]; omega) | (simp only [List.length_append, List.length_take, List.length_cons, List.length_nil]; omega)) s226 rfl rfl rfl (by decide) rfl rfl (by kernel_rfl) (by kernel_rfl) (by kernel_rfl) (by kernel_rfl) rfl rfl hsrc232 (Els.one1 he233 (fun c_ x_ h_ => by have h_ : c_ = _ := h_; subst h_; rfl)) (by exact hroom235) (fun ra236 rc237 w234 s234 ev234 kp234 => ?_))
        have hel238 := Els.append (((hel223.mono ev226)).mono ev234) ((he233).mono ev234)
        have hH239 := hH224.turn (i := 13) kp234 (fun b_ _ e_ => by obtain ⟨_, _, _, h_⟩ := e_; cases h_; first | rfl | simp) rfl
        refine ⟨hH239, ?_⟩
        refine XA.valD 14 4 (.slice ra236 (((List.take (H142.length - 1) (H142)) ++ (List.take (H175.length - 1) (H175))).length) rc237) rfl (by kernel_rfl) (by kernel_rfl) (by kernel_rfl) rfl (by kernel_rfl) rfl hH239 (fun hH240 => ?_)
        refine XA.done (by kernel_rfl) (thn_norm ?_)
        refine XC.ret ?_
        refine ⟨Or.inr rfl, .slice ra236 (((List.take (H142.length - 1) (H142)) ++ (List.take (H175.length - 1) (H175))).length) rc237, fun a_ ha_ => results_t rfl ha_ rfl, s234.keep, ?_⟩
        have hS0_ := Sl.fin (s234.rowOut (τ := tPt) 3 rfl rfl (by first | omega | (simp only [List.length_take, List.length_append]; omega)) hel238) (show _ = roundOf l n from (by subst hH142 hH175; exact roundOf_k (kOf_1 hc8 hc13)))
        obtain ⟨ra0, rc0, he0_, hS0_⟩ := hS0_
        rw [he0_]
        refine ⟨ra0, rc0, ?_, hS0_⟩
        rfl
  · skip
    refine XC.exit (thn_exit (thn_exit (inBlk_hit (thn_norm ?_))))
    refine XC.seq ?_
    obtain ⟨s241, ev241⟩ := Stt.norm s7 (S' := [cellsA b1 [.int .i64 (hi128 n.x), .int .u64 (lo128 n.x), .int .i64 (hi128 n.y), .int .u64 (lo128 n.y), .int .i64 (hi128 n.z), .int .u64 (lo128 n.z)] 56, cellsA b3 [.int .i64 0] 3]) rfl
    refine XC.region ?_
    refine XS.vals' 1 [(17, .func (.func 46) #[] #[.pointer (some ⟨b3, 0, none⟩), .pointer (some ⟨b1, 0, none⟩)])] (by kernel_rfl) ?_
    refine XS.op rfl rfl (XO.new (cs := [.nilFunc]) (T := 85) s241 rfl (by decide) (fun _ => by kernel_rfl) (fun b242 w243 s243 ev243 kp243 ybb242 => ?_))
    refine XS.op rfl rfl (XO.storeS (i := 2) (v := .func (.func 46) #[] #[.pointer (some ⟨b3, 0, none⟩), .pointer (some ⟨b1, 0, none⟩)]) (m := 1) (cs' := [.func (.func 46) #[] #[.pointer (some ⟨b3, 0, none⟩), .pointer (some ⟨b1, 0, none⟩)]]) s243 rfl rfl rfl rfl rfl (by kernel_rfl) rfl rfl rfl rfl (fun w244 s244 ev244 kp244 => ?_))
    refine XS.done rfl (thn_norm ?_)
    refine XC.seq ?_
    obtain ⟨s245, ev245⟩ := Stt.norm s244 (S' := [cellsA b1 [.int .i64 (hi128 n.x), .int .u64 (lo128 n.x), .int .i64 (hi128 n.y), .int .u64 (lo128 n.y), .int .i64 (hi128 n.z), .int .u64 (lo128 n.z)] 56, cellsA b3 [.int .i64 0] 3, cellsA b242 [.func (.func 46) #[] #[.pointer (some ⟨b3, 0, none⟩), .pointer (some ⟨b1, 0, none⟩)]] 85]) rfl
    refine XC.region ?_
    refine XS.vals' 2 [(18, .func (.func 47) #[] #[.pointer (some ⟨b242, 0, none⟩)]), (7, .func (.func 47) #[] #[.pointer (some ⟨b242, 0, none⟩)])] (by kernel_rfl) ?_
    refine XS.done rfl (thn_norm ?_)
    refine XC.seq ?_
    refine XC.region ?_
    refine XS.vals' 2 [(19, .func (.func 47) #[] #[.pointer (some ⟨b242, 0, none⟩)]), (20, .slice a_l l.length c_l)] (by kernel_rfl) ?_
    refine XS.op rfl rfl (XO.callS (f := 47) (args := [(.slice a_l l.length c_l), (.pointer (some ⟨b242, 0, none⟩))].toArray) s245 rfl (by decide) (fun _ => by kernel_rfl) (clean_round_half0_ok (av A _) _ s245.av_fresh l l.length rfl a_l c_l (h_l_.mono (ev2.trans (ev4.trans (ev5.trans (ev6.trans (ev7.trans (ev241.trans (ev243.trans (ev244.trans ev245))))))))) n b242 b3 b1 85 3 56 (s245.at_ (i := 2) rfl) (s245.at_ (i := 1) rfl) (s245.at_ (i := 0) rfl) (by first | assumption | omega | (intro p hp_; exact hok p (by simpa using hp_)) | (rw [List.length_reverse]; omega)) (by first | assumption | omega | (intro p hp_; exact hok p (by simpa using hp_)) | (rw [List.length_reverse]; omega))) (fun _ w246 s246 ev246 kp246 hv_ => ?_))
    obtain ⟨ra0_247, rc0_248, rs0_249, rfl, hf250, hf251, hf252⟩ := hv_
    obtain ⟨H253, hH253⟩ : ∃ H_, H_ = halfOf (sideOf 0 n) l := ⟨_, rfl⟩
    rw [← hH253] at hf250 hf251 hf252
    rw [← hH253]
    have hbH253 : 0 < H253.length ∧ H253.length ≤ l.length := by rw [hH253]; exact ⟨half_ne _ (by first | exact hlen.1 | (rw [List.length_reverse]; exact hlen.1)), Nat.le_trans (half_le _ _) (by simp)⟩
    obtain ⟨srs246, evrev246⟩ := s245.gotRow kp246 hf250 hf251
    have hel254 := (show Els tPt (av A [cellsA b1 [.int .i64 (hi128 n.x), .int .u64 (lo128 n.x), .int .i64 (hi128 n.y), .int .u64 (lo128 n.y), .int .i64 (hi128 n.z), .int .u64 (lo128 n.z)] 56, cellsA b3 [.int .i64 0] 3, cellsA b242 [.func (.func 46) #[] #[.pointer (some ⟨b3, 0, none⟩), .pointer (some ⟨b1, 0, none⟩)]] 85, rowA (.slice ra0_247 H253.length rc0_248) H253.length rs0_249 24 3]) w246 rs0_249 (H253) from hf252)
    refine XS.vals' 1 [(8, .slice ra0_247 H253.length rc0_248)] (by kernel_rfl) ?_
    refine XS.done rfl (thn_norm ?_)
    refine XC.seq ?_
    obtain ⟨s255, ev255⟩ := Stt.norm srs246 (S' := [cellsA b1 [.int .i64 (hi128 n.x), .int .u64 (lo128 n.x), .int .i64 (hi128 n.y), .int .u64 (lo128 n.y), .int .i64 (hi128 n.z), .int .u64 (lo128 n.z)] 56, cellsA b3 [.int .i64 0] 3, cellsA b242 [.func (.func 46) #[] #[.pointer (some ⟨b3, 0, none⟩), .pointer (some ⟨b1, 0, none⟩)]] 85, rowA (.slice ra0_247 H253.length rc0_248) H253.length rs0_249 24 3]) rfl
    refine XC.region ?_
    refine XS.vals' 1 [(22, .slice a_l l.length c_l)] (by kernel_rfl) ?_
    refine XS.op rfl rfl (XO.callS (f := 48) (args := [(.slice a_l l.length c_l)].toArray) s255 rfl (by decide) (fun _ => by kernel_rfl) (slices_Clone_row_ok (av A _) _ s255.av_fresh l a_l c_l (h_l_.mono (ev2.trans (ev4.trans (ev5.trans (ev6.trans (ev7.trans (ev241.trans (ev243.trans (ev244.trans (ev245.trans (evrev246.trans ev255))))))))))) (by first | assumption | omega | (intro p hp_; exact hok p (by simpa using hp_)) | (rw [List.length_reverse]; omega))) (fun _ w256 s256 ev256 kp256 hv_ => ?_))
    obtain ⟨ra0_257, rc0_258, rs0_259, rfl, hf260, hf261, hf262⟩ := hv_
    obtain ⟨srs256, evrev256⟩ := s255.gotRow kp256 hf260 hf261
    have hel263 := (show Els tPt (av A [cellsA b1 [.int .i64 (hi128 n.x), .int .u64 (lo128 n.x), .int .i64 (hi128 n.y), .int .u64 (lo128 n.y), .int .i64 (hi128 n.z), .int .u64 (lo128 n.z)] 56, cellsA b3 [.int .i64 0] 3, cellsA b242 [.func (.func 46) #[] #[.pointer (some ⟨b3, 0, none⟩), .pointer (some ⟨b1, 0, none⟩)]] 85, rowA (.slice ra0_247 H253.length rc0_248) H253.length rs0_249 24 3, rowA (.slice ra0_257 ((l).length) rc0_258) ((l).length) rs0_259 24 3]) w256 rs0_259 (l) from hf262)
    refine XS.vals' 1 [(9, .slice ra0_257 ((l).length) rc0_258)] (by kernel_rfl) ?_
    refine XS.done rfl (thn_norm ?_)
    refine XC.seq ?_
    obtain ⟨s264, ev264⟩ := Stt.norm srs256 (S' := [cellsA b1 [.int .i64 (hi128 n.x), .int .u64 (lo128 n.x), .int .i64 (hi128 n.y), .int .u64 (lo128 n.y), .int .i64 (hi128 n.z), .int .u64 (lo128 n.z)] 56, cellsA b3 [.int .i64 0] 3, cellsA b242 [.func (.func 46) #[] #[.pointer (some ⟨b3, 0, none⟩), .pointer (some ⟨b1, 0, none⟩)]] 85, rowA (.slice ra0_247 H253.length rc0_248) H253.length rs0_249 24 3, rowA (.slice ra0_257 ((l).length) rc0_258) ((l).length) rs0_259 24 3]) rfl
    refine XC.region ?_
    refine XS.vals' 1 [(24, .slice ra0_257 ((l).length) rc0_258)] (by kernel_rfl) ?_
    obtain ⟨rb265, ro266, rfl⟩ := row_addr (s264.at_ (i := 4) rfl) (by first | omega | (rw [List.length_take]; omega) | (simp only [List.length_take, List.length_append]; omega))
    obtain ⟨hcap267, s267, ev267⟩ := Stt.rowArr (enc := Pt.enc) s264 4 rfl rfl ((hel263.mono ev264))
    have hs268 : (List.toArray (l)).size = (l).length := by first | rfl | (rw [List.size_toArray]; done) | (rw [List.size_toArray]; symm; exact rfl)
    refine XS.op rfl rfl (XO.callM (q := 4) (f := 27) (args := [(.slice (some ⟨rb265, ro266, none⟩) ((l).length) rc0_258)].toArray) s267 rfl rfl (by decide) (fun _ => by kernel_rfl) (slices_Reverse___api_Point_api_Point__ok (av A _) _ s267.av_fresh rb265 ro266 (l).length rc0_258 (List.toArray (l)) 24 hs268 (s267.at_ (i := 4) rfl)  (by have h_ := hs268; first | assumption | omega | (intro p hp_; exact hok p (by simpa using hp_)) | (rw [List.length_reverse]; omega))) (fun _ w269 kp269 hv_ => ?_))
    obtain ⟨sn270, rfl, hs271, hp272, hh273⟩ := hv_
    have s269 := s267.set (i := 4) (Y := (arrA Pt.enc 3 rb265 ro266 sn270 24)) rfl kp269 hh273 (fun _ h => .inl h)
    have ev269 := Evo.set s267 (i := 4) (Y := (arrA Pt.enc 3 rb265 ro266 sn270 24)) rfl kp269 (fun _ h => .inl h)
    have hq274 : (sn270.toList.take ((l).length)) = (List.reverse (l)) := by rw [hp272]; exact List.take_of_length_le (by simp)
    refine XS.done rfl (thn_norm ?_)
    refine XC.seq ?_
    obtain ⟨s275, ev275⟩ := Stt.norm s269 (S' := [cellsA b1 [.int .i64 (hi128 n.x), .int .u64 (lo128 n.x), .int .i64 (hi128 n.y), .int .u64 (lo128 n.y), .int .i64 (hi128 n.z), .int .u64 (lo128 n.z)] 56, cellsA b3 [.int .i64 0] 3, cellsA b242 [.func (.func 46) #[] #[.pointer (some ⟨b3, 0, none⟩), .pointer (some ⟨b1, 0, none⟩)]] 85, rowA (.slice ra0_247 H253.length rc0_248) H253.length rs0_249 24 3, arrA Pt.enc 3 rb265 ro266 sn270 24]) rfl
    refine XC.region ?_
    refine XS.vals' 2 [(26, .func (.func 47) #[] #[.pointer (some ⟨b242, 0, none⟩)]), (27, .slice (some ⟨rb265, ro266, none⟩) ((l).length) rc0_258)] (by kernel_rfl) ?_
    obtain ⟨s276, ev276, hf276⟩ := Stt.thaw (enc := Pt.enc) (k := 3) s275 4 ((l).length) rc0_258 (fun _ => rfl) rfl (fun _ h => h.elim) (by (have h_ := hs271; first | omega | (rw [List.length_take]; omega) | (simp only [List.length_take, List.length_append]; omega))) (by (have h_ := hs271; first | omega | (rw [List.length_take]; omega) | (simp only [List.length_take, List.length_append]; omega))) (by (have h_ := hs271; first | omega | (rw [List.length_take]; omega) | (simp only [List.length_take, List.length_append]; omega)))
    obtain ⟨hn278, hf277⟩ := Sl.as hf276 hq274
    refine XS.op rfl rfl (XO.callS (f := 47) (args := [(.slice (some ⟨rb265, ro266, none⟩) ((l).length) rc0_258), (.pointer (some ⟨b242, 0, none⟩))].toArray) s276 rfl (by decide) (fun _ => by kernel_rfl) (clean_round_half0_ok (av A _) _ s276.av_fresh (List.reverse (l)) ((l).length) hn278 (some ⟨rb265, ro266, none⟩) rc0_258 hf277 n b242 b3 b1 85 3 56 (s276.at_ (i := 2) rfl) (s276.at_ (i := 1) rfl) (s276.at_ (i := 0) rfl) (by first | assumption | omega | (intro p hp_; exact hok p (by simpa using hp_)) | (rw [List.length_reverse]; omega)) (by first | assumption | omega | (intro p hp_; exact hok p (by simpa using hp_)) | (rw [List.length_reverse]; omega))) (fun _ w279 s279 ev279 kp279 hv_ => ?_))
    obtain ⟨ra0_280, rc0_281, rs0_282, rfl, hf283, hf284, hf285⟩ := hv_
    obtain ⟨H286, hH286⟩ : ∃ H_, H_ = halfOf (sideOf 0 n) (List.reverse (l)) := ⟨_, rfl⟩
    rw [← hH286] at hf283 hf284 hf285
    rw [← hH286]
    have hbH286 : 0 < H286.length ∧ H286.length ≤ l.length := by rw [hH286]; exact ⟨half_ne _ (by first | exact hlen.1 | (rw [List.length_reverse]; exact hlen.1)), Nat.le_trans (half_le _ _) (by simp)⟩
    obtain ⟨srs279, evrev279⟩ := s276.gotRow kp279 hf283 hf284
    have hel287 := (show Els tPt (av A [cellsA b1 [.int .i64 (hi128 n.x), .int .u64 (lo128 n.x), .int .i64 (hi128 n.y), .int .u64 (lo128 n.y), .int .i64 (hi128 n.z), .int .u64 (lo128 n.z)] 56, cellsA b3 [.int .i64 0] 3, cellsA b242 [.func (.func 46) #[] #[.pointer (some ⟨b3, 0, none⟩), .pointer (some ⟨b1, 0, none⟩)]] 85, rowA (.slice ra0_247 H253.length rc0_248) H253.length rs0_249 24 3, rowA (.slice ra0_280 H286.length rc0_281) H286.length rs0_282 24 3]) w279 rs0_282 (H286) from hf285)
    refine XS.vals' 1 [(9, .slice ra0_280 H286.length rc0_281)] (by kernel_rfl) ?_
    refine XS.done rfl (thn_norm ?_)
    refine XC.seq ?_
    obtain ⟨s288, ev288⟩ := Stt.norm srs279 (S' := [cellsA b1 [.int .i64 (hi128 n.x), .int .u64 (lo128 n.x), .int .i64 (hi128 n.y), .int .u64 (lo128 n.y), .int .i64 (hi128 n.z), .int .u64 (lo128 n.z)] 56, cellsA b3 [.int .i64 0] 3, cellsA b242 [.func (.func 46) #[] #[.pointer (some ⟨b3, 0, none⟩), .pointer (some ⟨b1, 0, none⟩)]] 85, rowA (.slice ra0_247 H253.length rc0_248) H253.length rs0_249 24 3, rowA (.slice ra0_280 H286.length rc0_281) H286.length rs0_282 24 3]) rfl
    obtain ⟨rb289, ro290, rfl⟩ := row_addr (s288.at_ (i := 3) rfl) (by first | omega | (rw [List.length_take]; omega) | (simp only [List.length_take, List.length_append]; omega))
    refine XC.drawS 15 rfl (fun x => x = rb289) 13 (by kernel_rfl) s288 (fun w291 s291 ev291 kp291 hH292 => ?_)
    refine XA.valD 0 29 (.slice (some ⟨rb289, ro290, none⟩) H253.length rc0_248) rfl (by kernel_rfl) (by kernel_rfl) (by kernel_rfl) rfl (by kernel_rfl) rfl hH292 (fun hH293 => ?_)
    refine XA.valD 1 30 (.slice (some ⟨rb289, ro290, none⟩) H253.length rc0_248) rfl (by kernel_rfl) (by kernel_rfl) (by kernel_rfl) rfl (by kernel_rfl) rfl hH293 (fun hH294 => ?_)
    refine XA.valD 2 31 (.int .i64 (H253.length : Int)) rfl (by kernel_rfl) (by kernel_rfl) (by kernel_rfl) rfl (by kernel_rfl) rfl hH294 (fun hH295 => ?_)
    refine XA.arith (p := 3) (k := .i64) (r := (H253.length : Int) - 1) rfl (by kernel_rfl) (by kernel_rfl) (by kernel_rfl) rfl (by kernel_rfl) rfl (by decide) (fun _ => by kernel_rfl) (wrap_i64 (by first | omega | (rw [List.length_take]; omega) | (simp only [List.length_take, List.length_append]; omega))) hH295 (fun hH296 => ?_)
    refine XA.valD 4 33 (.slice (some ⟨rb289, ro290, none⟩) H253.length rc0_248) rfl (by kernel_rfl) (by kernel_rfl) (by kernel_rfl) rfl (by kernel_rfl) rfl hH296 (fun hH297 => ?_)
    refine XA.valD 5 34 (.int .i64 (H253.length : Int)) rfl (by kernel_rfl) (by kernel_rfl) (by kernel_rfl) rfl (by kernel_rfl) rfl hH297 (fun hH298 => ?_)
    refine XA.arith (p := 6) (k := .i64) (r := (H253.length : Int) - 1) rfl (by kernel_rfl) (by kernel_rfl) (by kernel_rfl) rfl (by kernel_rfl) rfl (by decide) (fun _ => by kernel_rfl) (wrap_i64 (by first | omega | (rw [List.length_take]; omega) | (simp only [List.length_take, List.length_append]; omega))) hH298 (fun hH299 => ?_)
    refine XA.valD 8 37 (.slice ra0_280 H286.length rc0_281) rfl (by kernel_rfl) (by kernel_rfl) (by kernel_rfl) rfl (by kernel_rfl) rfl hH299 (fun hH300 => ?_)
    refine XA.valD 9 38 (.slice ra0_280 H286.length rc0_281) rfl (by kernel_rfl) (by kernel_rfl) (by kernel_rfl) rfl (by kernel_rfl) rfl hH300 (fun hH301 => ?_)
    refine XA.valD 10 39 (.int .i64 (H286.length : Int)) rfl (by kernel_rfl) (by kernel_rfl) (by kernel_rfl) rfl (by kernel_rfl) rfl hH301 (fun hH302 => ?_)
    refine XA.arith (p := 11) (k := .i64) (r := (H286.length : Int) - 1) rfl (by kernel_rfl) (by kernel_rfl) (by kernel_rfl) rfl (by kernel_rfl) rfl (by decide) (fun _ => by kernel_rfl) (wrap_i64 (by first | omega | (rw [List.length_take]; omega) | (simp only [List.length_take, List.length_append]; omega))) hH302 (fun hH303 => ?_)
    refine XA.op2 (i := 7) (j := 12) rfl rfl (by kernel_rfl) (by kernel_rfl) (by kernel_rfl) ?_ ?_
    · skip
      refine XO.rowHi3 (i := 3) (h := (H253.length - 1)) (e := 24) (sz' := 3) s291 rfl rfl rfl (by decide) rfl rfl rfl (by omega) (by omega) (by first | omega | (rw [List.length_take]; omega) | (simp only [List.length_take, List.length_append]; omega)) (by kernel_rfl) (by kernel_rfl) (fun s304 ev304 => ?_)
      have hel305 := Els.take (((hel254.mono (ev255.trans (evrev256.trans (ev264.trans (ev267.trans (ev269.trans (ev275.trans (ev276.trans (evrev279.trans (ev288.trans ev291))))))))))).mono ev304) (H253.length - 1)
      have hH306 := (Hold.set (i := 7) (by decide)).2 hH303
      refine ⟨hH306, ?_⟩
      obtain ⟨rb307, ro308, rfl⟩ := row_addr (s304.at_ (i := 4) rfl) (by first | omega | (rw [List.length_take]; omega) | (simp only [List.length_take, List.length_append]; omega))
      refine XA.op (i := 12) rfl (by kernel_rfl) (by kernel_rfl) (XO.rowHi (i := 4) (h := (H286.length - 1)) (e := 24) (sz' := 3) s304 rfl rfl rfl (by decide) rfl rfl (by omega) (by first | omega | (rw [List.length_take]; omega) | (simp only [List.length_take, List.length_append]; omega)) (by kernel_rfl) (by kernel_rfl) (fun s309 ev309 => ?_))
      have hel310 := Els.take (((hel287.mono (ev288.trans (ev291.trans ev304)))).mono ev309) (H286.length - 1)
      have hH311 := (Hold.set (i := 12) (by decide)).2 hH306
      refine ⟨hH311, ?_⟩
      have hnn312 : H286.length - 1 = ((List.take (H286.length - 1) (H286))).length := (by simp only [List.length_take]; first | omega | (rw [List.length_take]; omega) | (simp only [List.length_take, List.length_append]; omega))
      obtain ⟨s313, ev313, hf313⟩ := Stt.freeze s309 4 rfl (fun _ h => h.elim) hnn312 (by have h_ := hnn312; first | omega | (simp only [List.length_take, List.length_append]; omega)) (hel310)
      have hq_ := Sl.fin hf313 rfl
      obtain ⟨ra314, rc315, he317, hf316⟩ := hq_
      obtain ⟨cs318, hsrc319, he320⟩ := Sl.src (P := Tryz.prog) hf313 (by decide)
      have hroom322 : (H253.length - 1 + (List.take (H286.length - 1) (H286)).length) * 24 ≤ 140737488355328 := by first | omega | (rw [List.length_take]; omega) | (simp only [List.length_take, List.length_append]; omega)
      refine XA.op (i := 13) rfl (by kernel_rfl) (by kernel_rfl) (XO.append (k' := ((List.take (H253.length - 1) (H253)) ++ (List.take (H286.length - 1) (H286))).length) (i := 3) (cs := (List.take ((H253.length - 1) * 3) rs0_249)) (new := cs318) (sz := 3) (bytes := 24) (z := .agg #[.int .i64 0, .int .i64 0, .int .i64 0]) (k := (H253.length - 1)) (m := ((List.take (H286.length - 1) (H286)).length)) (by first | rfl | (simp only [List.length_append, List.length_nil]; done) | (simp only [List.length_append, List.length_nil]; omega) | (simp only [List.length_append, List.length_take, List.length_cons, List.length_nil]; omega)) s313 rfl rfl rfl (by decide) rfl rfl (by kernel_rfl) (by kernel_rfl) (by kernel_rfl) (by kernel_rfl) rfl rfl hsrc319 (Els.one1 he320 (fun c_ x_ h_ => by have h_ : c_ = _ := h_; subst h_; rfl)) (by exact hroom322) (fun ra323 rc324 w321 s321 ev321 kp321 => ?_))
      have hel325 := Els.append (((hel305.mono (ev309.trans ev313))).mono ev321) ((he320).mono ev321)
      have hH326 := hH311.turn (i := 13) kp321 (fun b_ _ e_ => by obtain ⟨_, _, _, h_⟩ := e_; cases h_; first | rfl | simp) rfl
      refine ⟨hH326, ?_⟩
      refine XA.valD 14 4 (.slice ra323 (((List.take (H253.length - 1) (H253)) ++ (List.take (H286.length - 1) (H286))).length) rc324) rfl (by kernel_rfl) (by kernel_rfl) (by kernel_rfl) rfl (by kernel_rfl) rfl hH326 (fun hH327 => ?_)
      refine XA.done (by kernel_rfl) (thn_norm ?_)
      refine XC.ret ?_
      refine ⟨Or.inr rfl, .slice ra323 (((List.take (H253.length - 1) (H253)) ++ (List.take (H286.length - 1) (H286))).length) rc324, fun a_ ha_ => results_t rfl ha_ rfl, s321.keep, ?_⟩
      have hS0_ := Sl.fin (s321.rowOut (τ := tPt) 3 rfl rfl (by first | omega | (simp only [List.length_take, List.length_append]; omega)) hel325) (show _ = roundOf l n from (by subst hH253 hH286; exact roundOf_k (kOf_0 hc8)))
      obtain ⟨ra0, rc0, he0_, hS0_⟩ := hS0_
      rw [he0_]
      refine ⟨ra0, rc0, ?_, hS0_⟩
      rfl
    · skip
      obtain ⟨rb328, ro329, rfl⟩ := row_addr (s291.at_ (i := 4) rfl) (by first | omega | (rw [List.length_take]; omega) | (simp only [List.length_take, List.length_append]; omega))
      refine XO.rowHi (i := 4) (h := (H286.length - 1)) (e := 24) (sz' := 3) s291 rfl rfl rfl (by decide) rfl rfl (by omega) (by first | omega | (rw [List.length_take]; omega) | (simp only [List.length_take, List.length_append]; omega)) (by kernel_rfl) (by kernel_rfl) (fun s330 ev330 => ?_)
      have hel331 := Els.take (((hel287.mono (ev288.trans ev291))).mono ev330) (H286.length - 1)
      have hH332 := (Hold.set (i := 12) (by decide)).2 hH303
      refine ⟨hH332, ?_⟩
      refine XA.op (i := 7) rfl (by kernel_rfl) (by kernel_rfl) (XO.rowHi3 (i := 3) (h := (H253.length - 1)) (e := 24) (sz' := 3) s330 rfl rfl rfl (by decide) rfl rfl rfl (by omega) (by omega) (by first | omega | (rw [List.length_take]; omega) | (simp only [List.length_take, List.length_append]; omega)) (by kernel_rfl) (by kernel_rfl) (fun s333 ev333 => ?_))
      have hel334 := Els.take (((hel254.mono (ev255.trans (evrev256.trans (ev264.trans (ev267.trans (ev269.trans (ev275.trans (ev276.trans (evrev279.trans (ev288.trans (ev291.trans ev330)))))))))))).mono ev333) (H253.length - 1)
      have hH335 := (Hold.set (i := 7) (by decide)).2 hH332
      refine ⟨hH335, ?_⟩
      have hnn336 : H286.length - 1 = ((List.take (H286.length - 1) (H286))).length := (by simp only [List.length_take]; first | omega | (rw [List.length_take]; omega) | (simp only [List.length_take, List.length_append]; omega))
      obtain ⟨s337, ev337, hf337⟩ := Stt.freeze s333 4 rfl (fun _ h => h.elim) hnn336 (by have h_ := hnn336; first | omega | (simp only [List.length_take, List.length_append]; omega)) ((hel331.mono ev333))
      have hq_ := Sl.fin hf337 rfl
      obtain ⟨ra338, rc339, he341, hf340⟩ := hq_
      obtain ⟨cs342, hsrc343, he344⟩ := Sl.src (P := Tryz.prog) hf337 (by decide)
      have hroom346 : (H253.length - 1 + (List.take (H286.length - 1) (H286)).length) * 24 ≤ 140737488355328 := by first | omega | (rw [List.length_take]; omega) | (simp only [List.length_take, List.length_append]; omega)
      refine XA.op (i := 13) rfl (by kernel_rfl) (by kernel_rfl) (XO.append (k' := ((List.take (H253.length - 1) (H253)) ++ (List.take (H286.length - 1) (H286))).length) (i := 3) (cs := (List.take ((H253.length - 1) * 3) rs0_249)) (new := cs342) (sz := 3) (bytes := 24) (z := .agg #[.int .i64 0, .int .i64 0, .int .i64 0]) (k := (H253.length - 1)) (m := ((List.take (H286.length - 1) (H286)).length)) (by first | rfl | (simp only [List.length_append, List.length_nil]; done) | (simp only [List.length_append, List.length_nil]; omega) | (simp only [List.length_append, List.length_take, List.length_cons, List.length_nil]; omega)) s337 rfl rfl rfl (by decide) rfl rfl (by kernel_rfl) (by kernel_rfl) (by kernel_rfl) (by kernel_rfl) rfl rfl hsrc343 (Els.one1 he344 (fun c_ x_ h_ => by have h_ : c_ = _ := h_; subst h_; rfl)) (by exact hroom346) (fun ra347 rc348 w345 s345 ev345 kp345 => ?_))
      have hel349 := Els.append (((hel334.mono ev337)).mono ev345) ((he344).mono ev345)
      have hH350 := hH335.turn (i := 13) kp345 (fun b_ _ e_ => by obtain ⟨_, _, _, h_⟩ := e_; cases h_; first | rfl | simp) rfl
      refine ⟨hH350, ?_⟩
      refine XA.valD 14 4 (.slice ra347 (((List.take (H253.length - 1) (H253)) ++ (List.take (H286.length - 1) (H286))).length) rc348) rfl (by kernel_rfl) (by kernel_rfl) (by kernel_rfl) rfl (by kernel_rfl) rfl hH350 (fun hH351 => ?_)
      refine XA.done (by kernel_rfl) (thn_norm ?_)
      refine XC.ret ?_
      refine ⟨Or.inr rfl, .slice ra347 (((List.take (H253.length - 1) (H253)) ++ (List.take (H286.length - 1) (H286))).length) rc348, fun a_ ha_ => results_t rfl ha_ rfl, s345.keep, ?_⟩
      have hS0_ := Sl.fin (s345.rowOut (τ := tPt) 3 rfl rfl (by first | omega | (simp only [List.length_take, List.length_append]; omega)) hel349) (show _ = roundOf l n from (by subst hH253 hH286; exact roundOf_k (kOf_0 hc8)))
      obtain ⟨ra0, rc0, he0_, hS0_⟩ := hS0_
      rw [he0_]
      refine ⟨ra0, rc0, ?_, hS0_⟩
      rfl

end Go.Proofs.Tryz
namespace Go.Proofs.Tryz
open Go Go.X Go.RowKit Go.Sort
set_option maxRecDepth 100000
set_option maxHeartbeats 2000000
set_option linter.unusedVariables false
set_option linter.unusedSimpArgs false
theorem clean_Of_flat0_ok (A : Nat → Prop) (w0 : World) (hA : ∀ b, w0.heap.size ≤ b → A b) (l : List Pt) (a_l : Option Addr) (c_l : Nat) (h_l : Sl tPt A w0 (.slice a_l l.length c_l) l) (hchk : (chk l).1 = 0) (hdim : dimOf (sortPts l) = 2) (hk : ¬ cmp128 (bnrm (sortPts l)).x 0 = 0 ∨ ¬ cmp128 (bnrm (sortPts l)).y 0 = 0 ∨ ¬ cmp128 (bnrm (sortPts l)).z 0 = 0) (hF2 : 2 ≤ (flatF l).length) (hrev : ltP ((flatF l).getLastD z0) ((flatF l).getD 1 z0) = false)  : Cal Tryz.prog 12 [(.slice a_l l.length c_l)].toArray w0 (fun v w' => Keep none_ w0 w' ∧ ∃ (ap0 : Option Addr) (cp0 : Nat) (af0 : Option Addr) (cf0 : Nat), v = .tuple #[(.agg #[.int .i64 2, .slice ap0 ((sortPts (flatF l)).length) cp0, .slice af0 (([flatF l]).length) cf0]), (.int .i64 0)] ∧ Sl tPt A w' (.slice ap0 (sortPts (flatF l)).length cp0) (sortPts (flatF l)) ∧ Sl (tSl tPt) A w' (.slice af0 ([flatF l]).length cf0) ([flatF l])) := by
  have s0 : Stt A w0 none_ [] w0 := Stt.start hA none_
  have h_l_ := h_l.mono Evo.start
  refine Cal.intro (n := 105) Tryz.func12 rfl Tryz.ntmps12 rfl ?_
  refine XC.seq ?_
  refine XC.region ?_
  refine XS.op rfl rfl (XO.new (cs := [.int .i64 0, .slice none 0 0, .slice none 0 0]) (T := 37) s0 rfl (by decide) (fun _ => by kernel_rfl) (fun b1 w2 s2 ev2 kp2 ybb1 => ?_))
  refine XS.vals' 1 [(3, .int .i64 0)] (by kernel_rfl) ?_
  refine XS.done rfl (thn_norm ?_)
  refine XC.seq ?_
  refine XC.seq ?_
  refine XC.region ?_
  refine XS.vals' 1 [(15, .slice a_l l.length c_l)] (by kernel_rfl) ?_
  refine XS.op rfl rfl (XO.callS (f := 14) (args := [(.slice a_l l.length c_l)].toArray) s2 rfl (by decide) (fun _ => by kernel_rfl) (seqhull_Check_ok (av A _) _ s2.av_fresh l a_l c_l (h_l_.mono ev2) ) (fun _ w3 s3 ev3 kp3 hv_ => ?_))
  obtain rfl := hv_
  refine XS.vals' 5 [(14, .tuple #[.int .i64 ((chk l).1), .int .i64 ((chk l).2)]), (17, .int .i64 ((chk l).1)), (18, .int .i64 ((chk l).2)), (4, .int .i64 ((chk l).1)), (5, .int .i64 ((chk l).2))] (by kernel_rfl) ?_
  refine XS.done rfl (thn_norm ?_)
  refine XC.seq ?_
  refine XC.region ?_
  refine XS.vals' 2 [(19, .int .i64 ((chk l).1)), (20, .bool (!decide (((chk l).1) = 0)))] (by kernel_rfl) ?_
  refine XS.done rfl (thn_norm ?_)
  refine XC.cond_f (congrArg Value.bool (by rw [decide_eq_true hchk]; rfl)) ?_
  refine XC.skip (thn_norm ?_)
  refine XC.seq ?_
  refine XC.region ?_
  refine XS.vals' 1 [(23, .slice a_l l.length c_l)] (by kernel_rfl) ?_
  refine XS.op rfl rfl (XO.callS (f := 8) (args := [(.slice a_l l.length c_l)].toArray) s3 rfl (by decide) (fun _ => by kernel_rfl) (clean_Sort_ok (av A _) _ s3.av_fresh l a_l c_l (h_l_.mono (ev2.trans ev3)) (by first | assumption | exact hbF.2 | exact (base2_ok hchk hdim).1 | exact (base2_ok hchk hdim).2.1 | exact (base2_ok hchk hdim).2.2.1 | exact (base2_ok hchk hdim).2.2.2 | exact sortPts_ok (chk_all hchk) | (have h_ := chk_len hchk; omega))) (fun _ w5 s5 ev5 kp5 hv_ => ?_))
  obtain ⟨ra0_6, rc0_7, rfl, hf8⟩ := hv_
  refine XS.vals' 1 [(0, .slice ra0_6 ((sortPts l).length) rc0_7)] (by kernel_rfl) ?_
  refine XS.done rfl (thn_norm ?_)
  refine XC.seq ?_
  refine XC.region ?_
  refine XS.vals' 1 [(26, .slice ra0_6 ((sortPts l).length) rc0_7)] (by kernel_rfl) ?_
  refine XS.op rfl rfl (XO.callS (f := 15) (args := [(.slice ra0_6 ((sortPts l).length) rc0_7)].toArray) s5 rfl (by decide) (fun _ => by kernel_rfl) (clean_base_ok (av A _) _ s5.av_fresh (sortPts l) ra0_6 rc0_7 hf8 (by first | assumption | exact hbF.2 | exact (base2_ok hchk hdim).1 | exact (base2_ok hchk hdim).2.1 | exact (base2_ok hchk hdim).2.2.1 | exact (base2_ok hchk hdim).2.2.2 | exact sortPts_ok (chk_all hchk) | (have h_ := chk_len hchk; omega))) (fun _ w9 s9 ev9 kp9 hv_ => ?_))
  obtain rfl := hv_
  refine XS.vals' 3 [(25, .tuple #[.int .i64 (dimOf (sortPts l)), .agg #[.int .i64 ((((baseOf (sortPts l))).p0).x), .int .i64 ((((baseOf (sortPts l))).p0).y), .int .i64 ((((baseOf (sortPts l))).p0).z), .int .i64 ((((baseOf (sortPts l))).p1).x), .int .i64 ((((baseOf (sortPts l))).p1).y), .int .i64 ((((baseOf (sortPts l))).p1).z), .int .i64 ((((baseOf (sortPts l))).p2).x), .int .i64 ((((baseOf (sortPts l))).p2).y), .int .i64 ((((baseOf (sortPts l))).p2).z), .int .i64 ((((baseOf (sortPts l))).p3).x), .int .i64 ((((baseOf (sortPts l))).p3).y), .int .i64 ((((baseOf (sortPts l))).p3).z)]]), (28, .int .i64 (dimOf (sortPts l))), (29, .agg #[.int .i64 ((((baseOf (sortPts l))).p0).x), .int .i64 ((((baseOf (sortPts l))).p0).y), .int .i64 ((((baseOf (sortPts l))).p0).z), .int .i64 ((((baseOf (sortPts l))).p1).x), .int .i64 ((((baseOf (sortPts l))).p1).y), .int .i64 ((((baseOf (sortPts l))).p1).z), .int .i64 ((((baseOf (sortPts l))).p2).x), .int .i64 ((((baseOf (sortPts l))).p2).y), .int .i64 ((((baseOf (sortPts l))).p2).z), .int .i64 ((((baseOf (sortPts l))).p3).x), .int .i64 ((((baseOf (sortPts l))).p3).y), .int .i64 ((((baseOf (sortPts l))).p3).z)])] (by kernel_rfl) ?_
  refine XS.op rfl rfl (XO.new (cs := [.int .i64 0, .int .i64 0, .int .i64 0, .int .i64 0, .int .i64 0, .int .i64 0, .int .i64 0, .int .i64 0, .int .i64 0, .int .i64 0, .int .i64 0, .int .i64 0]) (T := 43) s9 rfl (by decide) (fun _ => by kernel_rfl) (fun b10 w11 s11 ev11 kp11 ybb10 => ?_))
  refine XS.vals' 1 [(6, .int .i64 (dimOf (sortPts l)))] (by kernel_rfl) ?_
  refine XS.op rfl rfl (XO.storeS (i := 1) (v := .agg #[.int .i64 ((((baseOf (sortPts l))).p0).x), .int .i64 ((((baseOf (sortPts l))).p0).y), .int .i64 ((((baseOf (sortPts l))).p0).z), .int .i64 ((((baseOf (sortPts l))).p1).x), .int .i64 ((((baseOf (sortPts l))).p1).y), .int .i64 ((((baseOf (sortPts l))).p1).z), .int .i64 ((((baseOf (sortPts l))).p2).x), .int .i64 ((((baseOf (sortPts l))).p2).y), .int .i64 ((((baseOf (sortPts l))).p2).z), .int .i64 ((((baseOf (sortPts l))).p3).x), .int .i64 ((((baseOf (sortPts l))).p3).y), .int .i64 ((((baseOf (sortPts l))).p3).z)]) (m := 12) (cs' := [.int .i64 ((((baseOf (sortPts l))).p0).x), .int .i64 ((((baseOf (sortPts l))).p0).y), .int .i64 ((((baseOf (sortPts l))).p0).z), .int .i64 ((((baseOf (sortPts l))).p1).x), .int .i64 ((((baseOf (sortPts l))).p1).y), .int .i64 ((((baseOf (sortPts l))).p1).z), .int .i64 ((((baseOf (sortPts l))).p2).x), .int .i64 ((((baseOf (sortPts l))).p2).y), .int .i64 ((((baseOf (sortPts l))).p2).z), .int .i64 ((((baseOf (sortPts l))).p3).x), .int .i64 ((((baseOf (sortPts l))).p3).y), .int .i64 ((((baseOf (sortPts l))).p3).z)]) s11 rfl rfl rfl rfl rfl (by kernel_rfl) rfl rfl rfl rfl (fun w12 s12 ev12 kp12 => ?_))
  refine XS.done rfl (thn_norm ?_)
  refine XC.seq ?_
  obtain ⟨s13, ev13⟩ := Stt.norm s12 (S' := [cellsA b1 [.int .i64 0, .slice none 0 0, .slice none 0 0] 37, cellsA b10 [.int .i64 ((((baseOf (sortPts l))).p0).x), .int .i64 ((((baseOf (sortPts l))).p0).y), .int .i64 ((((baseOf (sortPts l))).p0).z), .int .i64 ((((baseOf (sortPts l))).p1).x), .int .i64 ((((baseOf (sortPts l))).p1).y), .int .i64 ((((baseOf (sortPts l))).p1).z), .int .i64 ((((baseOf (sortPts l))).p2).x), .int .i64 ((((baseOf (sortPts l))).p2).y), .int .i64 ((((baseOf (sortPts l))).p2).z), .int .i64 ((((baseOf (sortPts l))).p3).x), .int .i64 ((((baseOf (sortPts l))).p3).y), .int .i64 ((((baseOf (sortPts l))).p3).z)] 43]) rfl
  refine XC.region ?_
  refine XS.vals' 2 [(30, .int .i64 (dimOf (sortPts l))), (31, .agg #[.int .i64 (dimOf (sortPts l)), .slice none 0 0, .slice none 0 0])] (by kernel_rfl) ?_
  refine XS.op rfl rfl (XO.new (cs := [.int .i64 0, .slice none 0 0, .slice none 0 0]) (T := 37) s13 rfl (by decide) (fun _ => by kernel_rfl) (fun b14 w15 s15 ev15 kp15 ybb14 => ?_))
  refine XS.op rfl rfl (XO.storeS (i := 2) (v := .agg #[.int .i64 (dimOf (sortPts l)), .slice none 0 0, .slice none 0 0]) (m := 3) (cs' := [.int .i64 (dimOf (sortPts l)), .slice none 0 0, .slice none 0 0]) s15 rfl rfl rfl rfl rfl (by kernel_rfl) rfl rfl rfl rfl (fun w16 s16 ev16 kp16 => ?_))
  refine XS.done rfl (thn_norm ?_)
  refine XC.seq ?_
  refine XC.seq ?_
  obtain ⟨s17, ev17⟩ := Stt.norm s16 (S' := [cellsA b1 [.int .i64 0, .slice none 0 0, .slice none 0 0] 37, cellsA b10 [.int .i64 ((((baseOf (sortPts l))).p0).x), .int .i64 ((((baseOf (sortPts l))).p0).y), .int .i64 ((((baseOf (sortPts l))).p0).z), .int .i64 ((((baseOf (sortPts l))).p1).x), .int .i64 ((((baseOf (sortPts l))).p1).y), .int .i64 ((((baseOf (sortPts l))).p1).z), .int .i64 ((((baseOf (sortPts l))).p2).x), .int .i64 ((((baseOf (sortPts l))).p2).y), .int .i64 ((((baseOf (sortPts l))).p2).z), .int .i64 ((((baseOf (sortPts l))).p3).x), .int .i64 ((((baseOf (sortPts l))).p3).y), .int .i64 ((((baseOf (sortPts l))).p3).z)] 43, cellsA b14 [.int .i64 (dimOf (sortPts l)), .slice none 0 0, .slice none 0 0] 37]) rfl
  refine XC.region ?_
  refine XS.vals' 1 [(32, .int .i64 (dimOf (sortPts l)))] (by kernel_rfl) ?_
  refine XS.done rfl (thn_norm ?_)
  refine XC.block ?_
  refine XC.seq ?_
  refine XC.region ?_
  refine XS.vals' 2 [(34, .bool (decide ((dimOf (sortPts l)) = 3))), (33, .bool (decide ((dimOf (sortPts l)) = 3)))] (by kernel_rfl) ?_
  refine XS.done rfl (thn_norm ?_)
  refine XC.cond_f (congrArg Value.bool (decide_eq_false (by rw [hdim]; decide))) ?_
  refine XC.seq ?_
  refine XC.region ?_
  refine XS.vals' 2 [(54, .bool (decide ((dimOf (sortPts l)) = 2))), (53, .bool (decide ((dimOf (sortPts l)) = 2)))] (by kernel_rfl) ?_
  refine XS.done rfl (thn_norm ?_)
  refine XC.cond_t (congrArg Value.bool (decide_eq_true hdim)) ?_
  refine XC.seq ?_
  refine XC.region ?_
  refine XS.vals' 2 [(55, .slice ra0_6 ((sortPts l).length) rc0_7), (56, .pointer (some ⟨b10, 0, none⟩))] (by kernel_rfl) ?_
  refine XS.op rfl rfl (XO.loadS (i := 1) (v := .agg #[.int .i64 ((((baseOf (sortPts l))).p0).x), .int .i64 ((((baseOf (sortPts l))).p0).y), .int .i64 ((((baseOf (sortPts l))).p0).z)]) (g := true) (m := 3) s17 rfl rfl rfl (by decide) rfl (by kernel_rfl) (by kernel_rfl) rfl rfl rfl ?_)
  refine XS.vals' 1 [(58, .pointer (some ⟨b10, 3, none⟩))] (by kernel_rfl) ?_
  refine XS.op rfl rfl (XO.loadS (i := 1) (v := .agg #[.int .i64 ((((baseOf (sortPts l))).p1).x), .int .i64 ((((baseOf (sortPts l))).p1).y), .int .i64 ((((baseOf (sortPts l))).p1).z)]) (g := true) (m := 3) s17 rfl rfl rfl (by decide) rfl (by kernel_rfl) (by kernel_rfl) rfl rfl rfl ?_)
  refine XS.vals' 1 [(60, .pointer (some ⟨b10, 6, none⟩))] (by kernel_rfl) ?_
  refine XS.op rfl rfl (XO.loadS (i := 1) (v := .agg #[.int .i64 ((((baseOf (sortPts l))).p2).x), .int .i64 ((((baseOf (sortPts l))).p2).y), .int .i64 ((((baseOf (sortPts l))).p2).z)]) (g := true) (m := 3) s17 rfl rfl rfl (by decide) rfl (by kernel_rfl) (by kernel_rfl) rfl rfl rfl ?_)
  refine XS.op rfl rfl (XO.callS (f := 26) (args := [(.agg #[.int .i64 ((((baseOf (sortPts l))).p0).x), .int .i64 ((((baseOf (sortPts l))).p0).y), .int .i64 ((((baseOf (sortPts l))).p0).z)]), (.agg #[.int .i64 ((((baseOf (sortPts l))).p1).x), .int .i64 ((((baseOf (sortPts l))).p1).y), .int .i64 ((((baseOf (sortPts l))).p1).z)]), (.agg #[.int .i64 ((((baseOf (sortPts l))).p2).x), .int .i64 ((((baseOf (sortPts l))).p2).y), .int .i64 ((((baseOf (sortPts l))).p2).z)])].toArray) s17 rfl (by decide) (fun _ => by kernel_rfl) (clean_normal_ok (av A _) _ s17.av_fresh (((baseOf (sortPts l))).p0) (((baseOf (sortPts l))).p1) (((baseOf (sortPts l))).p2) (by first | assumption | exact hbF.2 | exact (base2_ok hchk hdim).1 | exact (base2_ok hchk hdim).2.1 | exact (base2_ok hchk hdim).2.2.1 | exact (base2_ok hchk hdim).2.2.2 | exact sortPts_ok (chk_all hchk) | (have h_ := chk_len hchk; omega)) (by first | assumption | exact hbF.2 | exact (base2_ok hchk hdim).1 | exact (base2_ok hchk hdim).2.1 | exact (base2_ok hchk hdim).2.2.1 | exact (base2_ok hchk hdim).2.2.2 | exact sortPts_ok (chk_all hchk) | (have h_ := chk_len hchk; omega)) (by first | assumption | exact hbF.2 | exact (base2_ok hchk hdim).1 | exact (base2_ok hchk hdim).2.1 | exact (base2_ok hchk hdim).2.2.1 | exact (base2_ok hchk hdim).2.2.2 | exact sortPts_ok (chk_all hchk) | (have h_ := chk_len hchk; omega))) (fun _ w20 s20 ev20 kp20 hv_ => ?_))
  obtain rfl := hv_
  refine XS.op rfl rfl (XO.callS (f := 25) (args := [(.slice ra0_6 ((sortPts l).length) rc0_7), (.agg #[.int .i64 (hi128 ((nrmOf (((baseOf (sortPts l))).p0) (((baseOf (sortPts l))).p1) (((baseOf (sortPts l))).p2)).x)), .int .u64 (lo128 ((nrmOf (((baseOf (sortPts l))).p0) (((baseOf (sortPts l))).p1) (((baseOf (sortPts l))).p2)).x)), .int .i64 (hi128 ((nrmOf (((baseOf (sortPts l))).p0) (((baseOf (sortPts l))).p1) (((baseOf (sortPts l))).p2)).y)), .int .u64 (lo128 ((nrmOf (((baseOf (sortPts l))).p0) (((baseOf (sortPts l))).p1) (((baseOf (sortPts l))).p2)).y)), .int .i64 (hi128 ((nrmOf (((baseOf (sortPts l))).p0) (((baseOf (sortPts l))).p1) (((baseOf (sortPts l))).p2)).z)), .int .u64 (lo128 ((nrmOf (((baseOf (sortPts l))).p0) (((baseOf (sortPts l))).p1) (((baseOf (sortPts l))).p2)).z))])].toArray) s20 rfl (by decide) (fun _ => by kernel_rfl) (clean_round_ok (av A _) _ s20.av_fresh (sortPts l) ra0_6 rc0_7 (hf8.mono (ev9.trans (ev11.trans (ev12.trans (ev13.trans (ev15.trans (ev16.trans (ev17.trans ev20)))))))) (⟨((nrmOf (((baseOf (sortPts l))).p0) (((baseOf (sortPts l))).p1) (((baseOf (sortPts l))).p2)).x), ((nrmOf (((baseOf (sortPts l))).p0) (((baseOf (sortPts l))).p1) (((baseOf (sortPts l))).p2)).y), ((nrmOf (((baseOf (sortPts l))).p0) (((baseOf (sortPts l))).p1) (((baseOf (sortPts l))).p2)).z)⟩ : Pt) (by first | assumption | exact hbF.2 | exact (base2_ok hchk hdim).1 | exact (base2_ok hchk hdim).2.1 | exact (base2_ok hchk hdim).2.2.1 | exact (base2_ok hchk hdim).2.2.2 | exact sortPts_ok (chk_all hchk) | (have h_ := chk_len hchk; omega)) (by first | assumption | exact hbF.2 | exact (base2_ok hchk hdim).1 | exact (base2_ok hchk hdim).2.1 | exact (base2_ok hchk hdim).2.2.1 | exact (base2_ok hchk hdim).2.2.2 | exact sortPts_ok (chk_all hchk) | (have h_ := chk_len hchk; omega)) (by first | assumption | exact hbF.2 | exact (base2_ok hchk hdim).1 | exact (base2_ok hchk hdim).2.1 | exact (base2_ok hchk hdim).2.2.1 | exact (base2_ok hchk hdim).2.2.2 | exact sortPts_ok (chk_all hchk) | (have h_ := chk_len hchk; omega))) (fun _ w21 s21 ev21 kp21 hv_ => ?_))
  obtain ⟨ra0_22, rc0_23, rfl, hf24⟩ := hv_
  obtain ⟨H25, hH25⟩ : ∃ H_, H_ = roundOf (sortPts l) (⟨((nrmOf (((baseOf (sortPts l))).p0) (((baseOf (sortPts l))).p1) (((baseOf (sortPts l))).p2)).x), ((nrmOf (((baseOf (sortPts l))).p0) (((baseOf (sortPts l))).p1) (((baseOf (sortPts l))).p2)).y), ((nrmOf (((baseOf (sortPts l))).p0) (((baseOf (sortPts l))).p1) (((baseOf (sortPts l))).p2)).z)⟩ : Pt) := ⟨_, rfl⟩
  rw [← hH25] at hf24
  rw [← hH25]
  have hbF : 2 ≤ H25.length ∧ H25.length ≤ 1048576 := by rw [hH25]; exact ⟨hF2, flat_len hchk⟩
  have hbr : ltP (H25.getLastD z0) (H25.getD 1 z0) = false := by rw [hH25]; exact hrev
  refine XS.vals' 1 [(12, .slice ra0_22 H25.length rc0_23)] (by kernel_rfl) ?_
  refine XS.done rfl (thn_norm ?_)
  refine XC.seq ?_
  refine XC.seq ?_
  obtain ⟨s26, ev26⟩ := Stt.norm s21 (S' := [cellsA b1 [.int .i64 0, .slice none 0 0, .slice none 0 0] 37, cellsA b10 [.int .i64 ((((baseOf (sortPts l))).p0).x), .int .i64 ((((baseOf (sortPts l))).p0).y), .int .i64 ((((baseOf (sortPts l))).p0).z), .int .i64 ((((baseOf (sortPts l))).p1).x), .int .i64 ((((baseOf (sortPts l))).p1).y), .int .i64 ((((baseOf (sortPts l))).p1).z), .int .i64 ((((baseOf (sortPts l))).p2).x), .int .i64 ((((baseOf (sortPts l))).p2).y), .int .i64 ((((baseOf (sortPts l))).p2).z), .int .i64 ((((baseOf (sortPts l))).p3).x), .int .i64 ((((baseOf (sortPts l))).p3).y), .int .i64 ((((baseOf (sortPts l))).p3).z)] 43, cellsA b14 [.int .i64 (dimOf (sortPts l)), .slice none 0 0, .slice none 0 0] 37]) rfl
  refine XC.region ?_
  refine XS.vals' 3 [(64, .slice ra0_22 H25.length rc0_23), (65, .slice ra0_22 H25.length rc0_23), (66, .int .i64 (H25.length : Int))] (by kernel_rfl) ?_
  refine XS.op rfl rfl (XO.arith (k := .i64) (r := (H25.length : Int) - 1) rfl (by decide) (fun _ => by kernel_rfl) (wrap_i64 (by omega)) ?_)
  obtain ⟨z27, hz27⟩ := get_some (xs := H25) (i := H25.length - 1) (by omega)
  refine XS.op rfl rfl (XO.elem (i := (H25.length - 1)) (z := z27) (e := 24) (sz := 3) (hf24.mono ev26) hz27 rfl rfl (by decide) rfl rfl (by omega) (by kernel_rfl) (by kernel_rfl) ?_)
  refine XS.op rfl rfl (XO.loadE (i := (H25.length - 1)) (f := 0) (sz := 3) (g := true) (z := z27) (hf24.mono ev26) hz27 rfl rfl (by decide) rfl (by first | rfl | omega) (by kernel_rfl) (by kernel_rfl) rfl rfl (fun cs_ hcs_ => ?_))
  obtain rfl := hcs_
  refine XS.op rfl rfl (XO.new (cs := [.int .i64 0, .int .i64 0, .int .i64 0]) (T := 24) s26 rfl (by decide) (fun _ => by kernel_rfl) (fun b28 w29 s29 ev29 kp29 ybb28 => ?_))
  refine XS.op rfl rfl (XO.storeS (i := 3) (v := .agg #[.int .i64 z27.x, .int .i64 z27.y, .int .i64 z27.z]) (m := 3) (cs' := [.int .i64 z27.x, .int .i64 z27.y, .int .i64 z27.z]) s29 rfl rfl rfl rfl rfl (by kernel_rfl) rfl rfl rfl rfl (fun w30 s30 ev30 kp30 => ?_))
  refine XS.done rfl (thn_norm ?_)
  refine XC.seq ?_
  obtain ⟨s31, ev31⟩ := Stt.norm s30 (S' := [cellsA b1 [.int .i64 0, .slice none 0 0, .slice none 0 0] 37, cellsA b10 [.int .i64 ((((baseOf (sortPts l))).p0).x), .int .i64 ((((baseOf (sortPts l))).p0).y), .int .i64 ((((baseOf (sortPts l))).p0).z), .int .i64 ((((baseOf (sortPts l))).p1).x), .int .i64 ((((baseOf (sortPts l))).p1).y), .int .i64 ((((baseOf (sortPts l))).p1).z), .int .i64 ((((baseOf (sortPts l))).p2).x), .int .i64 ((((baseOf (sortPts l))).p2).y), .int .i64 ((((baseOf (sortPts l))).p2).z), .int .i64 ((((baseOf (sortPts l))).p3).x), .int .i64 ((((baseOf (sortPts l))).p3).y), .int .i64 ((((baseOf (sortPts l))).p3).z)] 43, cellsA b14 [.int .i64 (dimOf (sortPts l)), .slice none 0 0, .slice none 0 0] 37, cellsA b28 [.int .i64 z27.x, .int .i64 z27.y, .int .i64 z27.z] 24]) rfl
  refine XC.drawS 5 rfl (fun _ => False) 5 (by kernel_rfl) s31 (fun w32 s32 ev32 kp32 hH33 => ?_)
  refine XA.loadS false (j := 0) (i := 3) (v := .agg #[.int .i64 z27.x, .int .i64 z27.y, .int .i64 z27.z]) (g := true) (m := 3) s32 rfl rfl (by kernel_rfl) (by kernel_rfl) (by kernel_rfl) rfl (by kernel_rfl) (fun _ h => h) (by kernel_rfl) rfl rfl (by decide) hH33 rfl (by kernel_rfl) (by kernel_rfl) rfl rfl rfl (fun hH34 => ?_)
  refine XA.valD 1 71 (.slice ra0_22 H25.length rc0_23) rfl (by kernel_rfl) (by kernel_rfl) (by kernel_rfl) rfl (by kernel_rfl) rfl hH34 (fun hH35 => ?_)
  obtain ⟨z37, hz37⟩ := get_some (xs := H25) (i := 1) (by omega)
  refine XA.elemD (p := 2) (i := 1) (z := z37) (e := 24) (sz := 3) (hf24.mono (ev26.trans (ev29.trans (ev30.trans (ev31.trans ev32))))) hz37 rfl (by kernel_rfl) (by kernel_rfl) (by kernel_rfl) rfl (by kernel_rfl) rfl rfl (by decide) rfl rfl (by omega) (by kernel_rfl) (by kernel_rfl) hH35 (fun hH36 => ?_)
  refine XA.loadD (p := 3) (i := 1) (f := 0) (sz := 3) (g := true) (z := z37) (hf24.mono (ev26.trans (ev29.trans (ev30.trans (ev31.trans ev32))))) hz37 (fun _ _ h => h) rfl (by kernel_rfl) (by kernel_rfl) (by kernel_rfl) rfl (by kernel_rfl) rfl rfl (by decide) hH36 rfl (by first | rfl | omega) (by kernel_rfl) (by kernel_rfl) rfl rfl rfl (fun cs_ hcs_ hH38 => ?_)
  obtain rfl := hcs_
  refine XA.op (i := 4) rfl (by kernel_rfl) (by kernel_rfl) (XO.callS (f := 10) (args := [(.agg #[.int .i64 z27.x, .int .i64 z27.y, .int .i64 z27.z]), (.agg #[.int .i64 z37.x, .int .i64 z37.y, .int .i64 z37.z])].toArray) s32 rfl (by decide) (fun _ => by kernel_rfl) (clean_Less_ok (av A _) _ s32.av_fresh z27 z37 ) (fun _ w39 s39 ev39 kp39 hv_ => ?_))
  obtain rfl := hv_
  have hH40 := hH38.keep (i := 4) kp39 rfl
  refine ⟨hH40, ?_⟩
  refine XA.done (by kernel_rfl) (thn_norm ?_)
  refine XC.cond_f (congrArg Value.bool (rev_of hz27 hz37 hbr)) ?_
  refine XC.skip (thn_norm ?_)
  refine XC.seq ?_
  obtain ⟨s42, ev42⟩ := Stt.norm s39 (S' := [cellsA b1 [.int .i64 0, .slice none 0 0, .slice none 0 0] 37, cellsA b10 [.int .i64 ((((baseOf (sortPts l))).p0).x), .int .i64 ((((baseOf (sortPts l))).p0).y), .int .i64 ((((baseOf (sortPts l))).p0).z), .int .i64 ((((baseOf (sortPts l))).p1).x), .int .i64 ((((baseOf (sortPts l))).p1).y), .int .i64 ((((baseOf (sortPts l))).p1).z), .int .i64 ((((baseOf (sortPts l))).p2).x), .int .i64 ((((baseOf (sortPts l))).p2).y), .int .i64 ((((baseOf (sortPts l))).p2).z), .int .i64 ((((baseOf (sortPts l))).p3).x), .int .i64 ((((baseOf (sortPts l))).p3).y), .int .i64 ((((baseOf (sortPts l))).p3).z)] 43, cellsA b14 [.int .i64 (dimOf (sortPts l)), .slice none 0 0, .slice none 0 0] 37, cellsA b28 [.int .i64 z27.x, .int .i64 z27.y, .int .i64 z27.z] 24]) rfl
  refine XC.region ?_
  refine XS.vals' 1 [(78, .slice ra0_22 H25.length rc0_23)] (by kernel_rfl) ?_
  refine XS.op rfl rfl (XO.newSl (k := 1) (cs := [.slice ra0_22 H25.length rc0_23]) (T := 22) s42 rfl (by decide) (fun _ => by kernel_rfl) (fun b43 w44 s44 ev44 kp44 ybb43 => ?_))
  refine XS.vals' 1 [(80, .pointer (some ⟨b14, 2, none⟩))] (by kernel_rfl) ?_
  refine XS.op rfl rfl (XO.storeS (i := 2) (v := .slice (some ⟨b43, 0, none⟩) 1 1) (m := 1) (cs' := [.int .i64 (dimOf (sortPts l)), .slice none 0 0, .slice (some ⟨b43, 0, none⟩) 1 1]) s44 rfl rfl rfl rfl rfl (by kernel_rfl) rfl rfl rfl rfl (fun w45 s45 ev45 kp45 => ?_))
  refine XS.done rfl (thn_norm ?_)
  obtain ⟨s46, ev46⟩ := Stt.norm s45 (S' := [cellsA b1 [.int .i64 0, .slice none 0 0, .slice none 0 0] 37, cellsA b10 [.int .i64 ((((baseOf (sortPts l))).p0).x), .int .i64 ((((baseOf (sortPts l))).p0).y), .int .i64 ((((baseOf (sortPts l))).p0).z), .int .i64 ((((baseOf (sortPts l))).p1).x), .int .i64 ((((baseOf (sortPts l))).p1).y), .int .i64 ((((baseOf (sortPts l))).p1).z), .int .i64 ((((baseOf (sortPts l))).p2).x), .int .i64 ((((baseOf (sortPts l))).p2).y), .int .i64 ((((baseOf (sortPts l))).p2).z), .int .i64 ((((baseOf (sortPts l))).p3).x), .int .i64 ((((baseOf (sortPts l))).p3).y), .int .i64 ((((baseOf (sortPts l))).p3).z)] 43, cellsA b14 [.int .i64 (dimOf (sortPts l)), .slice none 0 0, .slice (some ⟨b43, 0, none⟩) 1 1] 37, cellsA b28 [.int .i64 z27.x, .int .i64 z27.y, .int .i64 z27.z] 24, cellsA b43 [.slice ra0_22 H25.length rc0_23] 22]) rfl
  refine XC.region ?_
  refine XS.vals' 1 [(81, .slice ra0_22 H25.length rc0_23)] (by kernel_rfl) ?_
  refine XS.op rfl rfl (XO.callS (f := 8) (args := [(.slice ra0_22 H25.length rc0_23)].toArray) s46 rfl (by decide) (fun _ => by kernel_rfl) (clean_Sort_ok (av A _) _ s46.av_fresh H25 ra0_22 rc0_23 (hf24.mono (ev26.trans (ev29.trans (ev30.trans (ev31.trans (ev32.trans (ev39.trans (ev42.trans (ev44.trans (ev45.trans ev46)))))))))) (by first | assumption | exact hbF.2 | exact (base2_ok hchk hdim).1 | exact (base2_ok hchk hdim).2.1 | exact (base2_ok hchk hdim).2.2.1 | exact (base2_ok hchk hdim).2.2.2 | exact sortPts_ok (chk_all hchk) | (have h_ := chk_len hchk; omega))) (fun _ w47 s47 ev47 kp47 hv_ => ?_))
  obtain ⟨ra0_48, rc0_49, rfl, hf50⟩ := hv_
  refine XS.vals' 1 [(83, .pointer (some ⟨b14, 1, none⟩))] (by kernel_rfl) ?_
  refine XS.op rfl rfl (XO.storeS (i := 2) (v := .slice ra0_48 ((sortPts H25).length) rc0_49) (m := 1) (cs' := [.int .i64 (dimOf (sortPts l)), .slice ra0_48 ((sortPts H25).length) rc0_49, .slice (some ⟨b43, 0, none⟩) 1 1]) s47 rfl rfl rfl rfl rfl (by kernel_rfl) rfl rfl rfl rfl (fun w51 s51 ev51 kp51 => ?_))
  refine XS.done rfl (inBlk_norm (thn_norm ?_))
  refine XC.seq ?_
  obtain ⟨s52, ev52⟩ := Stt.norm s51 (S' := [cellsA b1 [.int .i64 0, .slice none 0 0, .slice none 0 0] 37, cellsA b10 [.int .i64 ((((baseOf (sortPts l))).p0).x), .int .i64 ((((baseOf (sortPts l))).p0).y), .int .i64 ((((baseOf (sortPts l))).p0).z), .int .i64 ((((baseOf (sortPts l))).p1).x), .int .i64 ((((baseOf (sortPts l))).p1).y), .int .i64 ((((baseOf (sortPts l))).p1).z), .int .i64 ((((baseOf (sortPts l))).p2).x), .int .i64 ((((baseOf (sortPts l))).p2).y), .int .i64 ((((baseOf (sortPts l))).p2).z), .int .i64 ((((baseOf (sortPts l))).p3).x), .int .i64 ((((baseOf (sortPts l))).p3).y), .int .i64 ((((baseOf (sortPts l))).p3).z)] 43, cellsA b14 [.int .i64 (dimOf (sortPts l)), .slice ra0_48 ((sortPts H25).length) rc0_49, .slice (some ⟨b43, 0, none⟩) 1 1] 37, cellsA b28 [.int .i64 z27.x, .int .i64 z27.y, .int .i64 z27.z] 24, cellsA b43 [.slice ra0_22 H25.length rc0_23] 22]) rfl
  refine XC.region ?_
  refine XS.op rfl rfl (XO.loadS (i := 2) (v := .agg #[.int .i64 (dimOf (sortPts l)), .slice ra0_48 ((sortPts H25).length) rc0_49, .slice (some ⟨b43, 0, none⟩) 1 1]) (g := true) (m := 3) s52 rfl rfl rfl (by decide) rfl (by kernel_rfl) (by kernel_rfl) rfl rfl rfl ?_)
  refine XS.op rfl rfl (XO.storeS (i := 0) (v := .agg #[.int .i64 (dimOf (sortPts l)), .slice ra0_48 ((sortPts H25).length) rc0_49, .slice (some ⟨b43, 0, none⟩) 1 1]) (m := 3) (cs' := [.int .i64 (dimOf (sortPts l)), .slice ra0_48 ((sortPts H25).length) rc0_49, .slice (some ⟨b43, 0, none⟩) 1 1]) s52 rfl rfl rfl rfl rfl (by kernel_rfl) rfl rfl rfl rfl (fun w53 s53 ev53 kp53 => ?_))
  refine XS.vals' 1 [(3, .int .i64 0)] (by kernel_rfl) ?_
  refine XS.done rfl (thn_norm ?_)
  refine XC.ret ?_
  obtain ⟨s54, ev54, hf54⟩ := Stt.freezeOne s53 4 rfl (fun _ h => h.elim) (hf24.mono (ev26.trans (ev29.trans (ev30.trans (ev31.trans (ev32.trans (ev39.trans (ev42.trans (ev44.trans (ev45.trans (ev46.trans (ev47.trans (ev51.trans (ev52.trans ev53))))))))))))))
  refine ⟨Or.inr rfl, .tuple #[(.agg #[.int .i64 (dimOf (sortPts l)), .slice ra0_48 ((sortPts H25).length) rc0_49, .slice (some ⟨b43, 0, none⟩) 1 1]), (.int .i64 0)], fun a_ ha_ => results_ct rfl (res_cell (b := b1) (cs := [.int .i64 (dimOf (sortPts l)), .slice ra0_48 ((sortPts H25).length) rc0_49, .slice (some ⟨b43, 0, none⟩) 1 1]) (g := true) (sz := 3) (v := .agg #[.int .i64 (dimOf (sortPts l)), .slice ra0_48 ((sortPts H25).length) rc0_49, .slice (some ⟨b43, 0, none⟩) 1 1]) ha_ rfl (s54.at_ (i := 0) rfl) (by kernel_rfl) (by kernel_rfl) rfl rfl rfl) ha_ rfl, s54.keep, ?_⟩
  have hS00_ := Sl.fin ((hf50.mono (ev51.trans (ev52.trans (ev53.trans ev54)))).mono Evo.out) (show _ = sortPts (flatF l) from (by subst hH25; rfl))
  obtain ⟨ra00, rc00, he00_, hS00_⟩ := hS00_
  rw [he00_]
  have hS01_ := Sl.fin (hf54.mono Evo.out) (show _ = [flatF l] from (by subst hH25; rfl))
  obtain ⟨ra01, rc01, he01_, hS01_⟩ := hS01_
  rw [he01_]
  refine ⟨ra00, rc00, ra01, rc01, ?_, hS00_, hS01_⟩
  rw [hdim]

theorem clean_Of_flat_ok (A : Nat → Prop) (w0 : World) (hA : ∀ b, w0.heap.size ≤ b → A b) (l : List Pt) (a_l : Option Addr) (c_l : Nat) (h_l : Sl tPt A w0 (.slice a_l l.length c_l) l) (hchk : (chk l).1 = 0) (hdim : dimOf (sortPts l) = 2)
    (hk : ¬ cmp128 (bnrm (sortPts l)).x 0 = 0 ∨ ¬ cmp128 (bnrm (sortPts l)).y 0 = 0 ∨ ¬ cmp128 (bnrm (sortPts l)).z 0 = 0) (hF2 : 2 ≤ (flatF l).length) (hrev : ltP ((flatF l).getLastD z0) ((flatF l).getD 1 z0) = false)
    (F_ T_ : List Pt) (hF_ : flatF l = F_) (hT_ : sortPts F_ = T_) :
    Cal Tryz.prog 12 [(.slice a_l l.length c_l)].toArray w0 (fun v w' => Keep none_ w0 w' ∧ ∃ (ap0 : Option Addr) (cp0 : Nat) (af0 : Option Addr) (cf0 : Nat), v = .tuple #[.agg #[.int .i64 2, .slice ap0 ((T_).length) cp0, .slice af0 (([F_]).length) cf0], .int .i64 0] ∧ Sl tPt A w' (.slice ap0 (T_).length cp0) (T_) ∧ Sl (tSl tPt) A w' (.slice af0 ([F_]).length cf0) ([F_])) := by
  subst hF_; subst hT_
  exact clean_Of_flat0_ok A w0 hA l a_l c_l h_l hchk hdim hk hF2 hrev
end Go.Proofs.Tryz
namespace Go.Proofs.Tryz
open Go Go.X Go.RowKit Go.Sort
set_option maxRecDepth 100000
set_option maxHeartbeats 2000000
set_option linter.unusedVariables false
set_option linter.unusedSimpArgs false
theorem slices_EqualFunc_____api_Point_____api_Point___api_Point___api_Point__ok (A : Nat → Prop) (w0 : World) (hA : ∀ b, w0.heap.size ≤ b → A b) (l : List (List Pt)) (a_l : Option Addr) (c_l : Nat) (h_l : Sl (tSl tPt) A w0 (.slice a_l l.length c_l) l) (m : List (List Pt)) (a_m : Option Addr) (c_m : Nat) (h_m : Sl (tSl tPt) A w0 (.slice a_m m.length c_m) m)   : Cal Tryz.prog 52 [(.slice a_l l.length c_l), (.slice a_m m.length c_m), (.func (.func 44) #[] #[])].toArray w0 (fun v w' => Keep none_ w0 w' ∧ v = .bool (decide (l = m))) := by
  have s0 : Stt A w0 none_ [] w0 := Stt.start hA none_
  have h_l_ := h_l.mono Evo.start
  have h_m_ := h_m.mono Evo.start
  refine Cal.intro (n := 32) Tryz.func52 rfl Tryz.ntmps52 rfl ?_
  refine XC.seq ?_
  refine XC.region ?_
  refine XS.vals' 1 [(6, .bool false)] (by kernel_rfl) ?_
  refine XS.done rfl (thn_norm ?_)
  refine XC.seq ?_
  refine XC.seq ?_
  refine XC.region ?_
  refine XS.vals' 5 [(10, .slice a_l l.length c_l), (11, .int .i64 (l.length : Int)), (12, .slice a_m m.length c_m), (13, .int .i64 (m.length : Int)), (14, .bool (!decide ((l.length : Int) = (m.length : Int))))] (by kernel_rfl) ?_
  refine XS.done rfl (thn_norm ?_)
  refine XC.cond_nd ((l.length : Int) = (m.length : Int)) rfl (fun hc1 => ?_) (fun hc1 => ?_)
  · skip
    refine XC.seq ?_
    refine XC.region ?_
    refine XS.vals' 1 [(6, .bool false)] (by kernel_rfl) ?_
    refine XS.done rfl (thn_norm ?_)
    refine XC.ret (thn_ret ?_)
    refine ⟨Or.inr rfl, .bool false, fun a_ ha_ => results_t rfl ha_ rfl, s0.keep, ?_⟩
    refine congrArg Value.bool ?_
    symm; rw [decide_eq_false_iff_not]
    rintro rfl
    omega
  · skip
    refine XC.skip (thn_norm ?_)
    refine XC.seq ?_
    refine XC.seq ?_
    refine XC.region ?_
    refine XS.vals' 3 [(15, .slice a_l l.length c_l), (16, .int .i64 (l.length : Int)), (17, .int .i64 0)] (by kernel_rfl) ?_
    refine XS.done rfl (thn_norm ?_)
    refine XC.block ?_
    refine XC.loop (fun ρ_ w_ m_ => ∃ (i : Nat), Has ρ_ [(1, .slice a_m m.length c_m), (2, .func (.func 44) #[] #[]), (6, .bool false), (15, .slice a_l l.length c_l), (16, .int .i64 (l.length : Int)), (17, .int .i64 (i : Int))] ∧ Stt A w0 none_ [] w_ ∧ Evo (av A []) w0 (av A []) w_ ∧ (i ≤ l.length) ∧ (l.take i = m.take i) ∧ m_ = l.length - i) (l.length - 0) ?_ ?_
    · skip
      exact ⟨0, ⟨rfl, rfl, rfl, rfl, rfl, (congrArg (Value.int .i64) (by first | rfl | omega : (0 : Int) = _)), trivial⟩, s0, Evo.refl _ _, (by omega), (by simp), rfl⟩
    rintro _ ρw2 w2 ⟨i, hh2, s2, ev2, hi, hI, rfl⟩
    refine XC.rebase hh2 ?_
    refine XC.seq ?_
    refine XC.region ?_
    refine XS.vals' 1 [(18, .bool (decide ((i : Int) < (l.length : Int))))] (by kernel_rfl) ?_
    refine XS.done rfl (thn_norm ?_)
    refine XC.seq ?_
    refine XC.cond_d ((i : Int) < (l.length : Int)) rfl (fun hc3 => ?_) (fun hc3 => ?_)
    · skip
      refine XC.skip (thn_norm ?_)
      refine XC.seq ?_
      refine XC.block ?_
      refine XC.seq ?_
      refine XC.region ?_
      refine XS.vals' 1 [(19, .int .i64 (i : Int))] (by kernel_rfl) ?_
      obtain ⟨z4, hz4⟩ := get_some (xs := l) (i := i) (by (have h1_ := h_l_.elim; have h2_ := h_m_.elim; obtain ⟨_, _, _, _, h1_⟩ := h1_; obtain ⟨_, _, _, _, h2_⟩ := h2_; omega))
      refine XS.op rfl rfl (XO.elem (i := i) (z := z4) (e := 22) (sz := 1) (h_l_.mono ev2) hz4 rfl rfl (by decide) rfl rfl (by omega) (by kernel_rfl) (by kernel_rfl) ?_)
      refine XS.op rfl rfl (XO.loadE (i := i) (f := 0) (sz := 1) (g := false) (z := z4) (h_l_.mono ev2) hz4 rfl rfl (by decide) rfl (by first | rfl | omega) (by kernel_rfl) (by kernel_rfl) rfl rfl (fun cs_ hcs_ => ?_))
      obtain ⟨v_, rfl, hv_⟩ := hcs_
      obtain ⟨ea5, ec5, rfl, hSe5⟩ := Sl.shape hv_
      refine XS.vals' 2 [(7, .int .i64 (i : Int)), (8, .slice ea5 ((z4).length) ec5)] (by kernel_rfl) ?_
      refine XS.done rfl (thn_norm ?_)
      refine XC.seq ?_
      refine XC.region ?_
      refine XS.vals' 2 [(22, .slice a_m m.length c_m), (23, .int .i64 (i : Int))] (by kernel_rfl) ?_
      obtain ⟨z6, hz6⟩ := get_some (xs := m) (i := i) (by (have h1_ := h_l_.elim; have h2_ := h_m_.elim; obtain ⟨_, _, _, _, h1_⟩ := h1_; obtain ⟨_, _, _, _, h2_⟩ := h2_; omega))
      refine XS.op rfl rfl (XO.elem (i := i) (z := z6) (e := 22) (sz := 1) (h_m_.mono ev2) hz6 rfl rfl (by decide) rfl rfl (by omega) (by kernel_rfl) (by kernel_rfl) ?_)
      refine XS.op rfl rfl (XO.loadE (i := i) (f := 0) (sz := 1) (g := false) (z := z6) (h_m_.mono ev2) hz6 rfl rfl (by decide) rfl (by first | rfl | omega) (by kernel_rfl) (by kernel_rfl) rfl rfl (fun cs_ hcs_ => ?_))
      obtain ⟨v_, rfl, hv_⟩ := hcs_
      obtain ⟨ea7, ec7, rfl, hSe7⟩ := Sl.shape hv_
      refine XS.vals' 1 [(9, .slice ea7 ((z6).length) ec7)] (by kernel_rfl) ?_
      refine XS.done rfl (thn_norm ?_)
      refine XC.seq ?_
      refine XC.region ?_
      refine XS.vals' 3 [(26, .func (.func 44) #[] #[]), (27, .slice ea5 ((z4).length) ec5), (28, .slice ea7 ((z6).length) ec7)] (by kernel_rfl) ?_
      refine XS.op rfl rfl (XO.callS (f := 44) (args := [(.slice ea5 ((z4).length) ec5), (.slice ea7 ((z6).length) ec7)].toArray) s2 rfl (by decide) (fun _ => by kernel_rfl) (slices_Equal___api_Point_api_Point__ok (av A _) _ s2.av_fresh z4 ea5 ec5 hSe5 z6 ea7 ec7 hSe7 ) (fun _ w8 s8 ev8 kp8 hv_ => ?_))
      obtain rfl := hv_
      refine XS.vals' 1 [(30, .bool (!decide (z4 = z6)))] (by kernel_rfl) ?_
      refine XS.done rfl (thn_norm ?_)
      refine XC.cond_nd (z4 = z6) rfl (fun hc9 => ?_) (fun hc9 => ?_)
      · skip
        refine XC.seq ?_
        refine XC.region ?_
        refine XS.vals' 1 [(6, .bool false)] (by kernel_rfl) ?_
        refine XS.done rfl (thn_norm ?_)
        refine XC.ret (inBlk_ret (thn_ret (thn_ret (inBlk_ret (thn_ret ?_)))))
        refine ⟨Or.inr rfl, .bool false, fun a_ ha_ => results_t rfl ha_ rfl, s8.keep, ?_⟩
        refine congrArg Value.bool ?_
        symm; rw [decide_eq_false_iff_not]
        rintro rfl
        rw [hz4] at hz6; cases hz6
        exact absurd rfl hc9
      · skip
        refine XC.skip (inBlk_norm (thn_norm ?_))
        refine XC.region ?_
        refine XS.op rfl rfl (XO.arith (k := .i64) (r := (i : Int) + 1) rfl (by decide) (fun _ => by kernel_rfl) (wrap_i64 (by (have h1_ := h_l_.elim; have h2_ := h_m_.elim; obtain ⟨_, _, _, _, h1_⟩ := h1_; obtain ⟨_, _, _, _, h2_⟩ := h2_; omega))) ?_)
        refine XS.vals' 1 [(17, .int .i64 ((i : Int) + 1))] (by kernel_rfl) ?_
        refine XS.done rfl (thn_norm ?_)
        refine ⟨l.length - (i + 1), ?_, ?_⟩
        · omega
        exact ⟨i + 1, ⟨rfl, rfl, rfl, rfl, rfl, (congrArg (Value.int .i64) (by first | rfl | omega : ((i : Int) + 1 : Int) = _)), trivial⟩, s8, (ev2.trans ev8), (by omega), (take_both hz4 hz6 hc9 hI), rfl⟩
    · skip
      refine XC.exit (thn_exit (thn_exit (inBlk_hit (thn_norm ?_))))
      refine XC.seq ?_
      refine XC.region ?_
      refine XS.vals' 1 [(6, .bool true)] (by kernel_rfl) ?_
      refine XS.done rfl (thn_norm ?_)
      refine XC.ret ?_
      refine ⟨Or.inr rfl, .bool true, fun a_ ha_ => results_t rfl ha_ rfl, s2.keep, ?_⟩
      refine congrArg Value.bool ?_
      symm; rw [decide_eq_true_eq]
      exact eq_of_take (by omega) (by omega) hI

end Go.Proofs.Tryz
namespace Go.Proofs.Tryz
open Go Go.X Go.RowKit Go.Sort
set_option maxRecDepth 100000
set_option maxHeartbeats 2000000
set_option linter.unusedVariables false
set_option linter.unusedSimpArgs false
theorem clean_Same_ok (A : Nat → Prop) (w0 : World) (hA : ∀ b, w0.heap.size ≤ b → A b) (d_a : Int) (p_a : List Pt) (ap_a : Option Addr) (cp_a : Nat) (hp_a : Sl tPt A w0 (.slice ap_a p_a.length cp_a) p_a) (f_a : List (List Pt)) (af_a : Option Addr) (cf_a : Nat) (hf_a : Sl (tSl tPt) A w0 (.slice af_a f_a.length cf_a) f_a) (d_b : Int) (p_b : List Pt) (ap_b : Option Addr) (cp_b : Nat) (hp_b : Sl tPt A w0 (.slice ap_b p_b.length cp_b) p_b) (f_b : List (List Pt)) (af_b : Option Addr) (cf_b : Nat) (hf_b : Sl (tSl tPt) A w0 (.slice af_b f_b.length cf_b) f_b)  : Cal Tryz.prog 28 [(.agg #[.int .i64 d_a, .slice ap_a p_a.length cp_a, .slice af_a f_a.length cf_a]), (.agg #[.int .i64 d_b, .slice ap_b p_b.length cp_b, .slice af_b f_b.length cf_b])].toArray w0 (fun v w' => Keep none_ w0 w' ∧ v = .bool (decide (d_a = d_b ∧ p_a = p_b ∧ f_a = f_b))) := by
  have s0 : Stt A w0 none_ [] w0 := Stt.start hA none_
  have hp_a_ := hp_a.mono Evo.start
  have hf_a_ := hf_a.mono Evo.start
  have hp_b_ := hp_b.mono Evo.start
  have hf_b_ := hf_b.mono Evo.start
  refine Cal.intro (n := 24) Tryz.func28 rfl Tryz.ntmps28 rfl ?_
  refine XC.seq ?_
  refine XC.region ?_
  refine XS.op rfl rfl (XO.new (cs := [.int .i64 d_a, .slice ap_a p_a.length cp_a, .slice af_a f_a.length cf_a]) (T := 37) s0 rfl (by decide) (fun _ => by kernel_rfl) (fun b1 w2 s2 ev2 kp2 ybb1 => ?_))
  refine XS.op rfl rfl (XO.new (cs := [.int .i64 d_b, .slice ap_b p_b.length cp_b, .slice af_b f_b.length cf_b]) (T := 37) s2 rfl (by decide) (fun _ => by kernel_rfl) (fun b3 w4 s4 ev4 kp4 ybb3 => ?_))
  refine XS.vals' 1 [(4, .bool false)] (by kernel_rfl) ?_
  refine XS.done rfl (thn_norm ?_)
  refine XC.seq ?_
  obtain ⟨s5, ev5⟩ := Stt.norm s4 (S' := [cellsA b1 [.int .i64 d_a, .slice ap_a p_a.length cp_a, .slice af_a f_a.length cf_a] 37, cellsA b3 [.int .i64 d_b, .slice ap_b p_b.length cp_b, .slice af_b f_b.length cf_b] 37]) rfl
  refine XC.region ?_
  refine XS.vals' 1 [(5, .pointer (some ⟨b1, 0, none⟩))] (by kernel_rfl) ?_
  refine XS.op rfl rfl (XO.loadS (i := 0) (v := .int .i64 d_a) (g := false) (m := 1) s5 rfl rfl rfl (by decide) rfl (by kernel_rfl) (by kernel_rfl) rfl rfl rfl ?_)
  refine XS.vals' 1 [(7, .pointer (some ⟨b3, 0, none⟩))] (by kernel_rfl) ?_
  refine XS.op rfl rfl (XO.loadS (i := 1) (v := .int .i64 d_b) (g := false) (m := 1) s5 rfl rfl rfl (by decide) rfl (by kernel_rfl) (by kernel_rfl) rfl rfl rfl ?_)
  refine XS.vals' 2 [(9, .bool (decide (d_a = d_b))), (10, .bool (decide (d_a = d_b)))] (by kernel_rfl) ?_
  refine XS.onD 10 (d_a = d_b) rfl (fun hg6 => ?_) (fun hg6 => ?_)
  · skip
    refine XS.vals' 1 [(11, .pointer (some ⟨b1, 1, none⟩))] (by kernel_rfl) ?_
    refine XS.op_g rfl rfl rfl (XO.loadS (i := 0) (v := .slice ap_a p_a.length cp_a) (g := false) (m := 1) s5 rfl rfl rfl (by decide) rfl (by kernel_rfl) (by kernel_rfl) rfl rfl rfl ?_)
    refine XS.vals' 1 [(13, .pointer (some ⟨b3, 1, none⟩))] (by kernel_rfl) ?_
    refine XS.op_g rfl rfl rfl (XO.loadS (i := 1) (v := .slice ap_b p_b.length cp_b) (g := false) (m := 1) s5 rfl rfl rfl (by decide) rfl (by kernel_rfl) (by kernel_rfl) rfl rfl rfl ?_)
    refine XS.op_g rfl rfl rfl (XO.callS (f := 44) (args := [(.slice ap_a p_a.length cp_a), (.slice ap_b p_b.length cp_b)].toArray) s5 rfl (by decide) (fun _ => by kernel_rfl) (slices_Equal___api_Point_api_Point__ok (av A _) _ s5.av_fresh p_a ap_a cp_a (hp_a_.mono (ev2.trans (ev4.trans ev5))) p_b ap_b cp_b (hp_b_.mono (ev2.trans (ev4.trans ev5))) ) (fun _ w7 s7 ev7 kp7 hv_ => ?_))
    obtain rfl := hv_
    refine XS.vals' 2 [(16, .bool (decide (p_a = p_b))), (17, .bool (decide (p_a = p_b)))] (by kernel_rfl) ?_
    refine XS.onD 17 (p_a = p_b) rfl (fun hg8 => ?_) (fun hg8 => ?_)
    · skip
      refine XS.vals' 1 [(18, .pointer (some ⟨b1, 2, none⟩))] (by kernel_rfl) ?_
      refine XS.op_g rfl rfl rfl (XO.loadS (i := 0) (v := .slice af_a f_a.length cf_a) (g := false) (m := 1) s7 rfl rfl rfl (by decide) rfl (by kernel_rfl) (by kernel_rfl) rfl rfl rfl ?_)
      refine XS.vals' 1 [(20, .pointer (some ⟨b3, 2, none⟩))] (by kernel_rfl) ?_
      refine XS.op_g rfl rfl rfl (XO.loadS (i := 1) (v := .slice af_b f_b.length cf_b) (g := false) (m := 1) s7 rfl rfl rfl (by decide) rfl (by kernel_rfl) (by kernel_rfl) rfl rfl rfl ?_)
      refine XS.op_g rfl rfl rfl (XO.callS (f := 52) (args := [(.slice af_a f_a.length cf_a), (.slice af_b f_b.length cf_b), (.func (.func 44) #[] #[])].toArray) s7 rfl (by decide) (fun _ => by kernel_rfl) (slices_EqualFunc_____api_Point_____api_Point___api_Point___api_Point__ok (av A _) _ s7.av_fresh f_a af_a cf_a (hf_a_.mono (ev2.trans (ev4.trans (ev5.trans ev7)))) f_b af_b cf_b (hf_b_.mono (ev2.trans (ev4.trans (ev5.trans ev7)))) ) (fun _ w9 s9 ev9 kp9 hv_ => ?_))
      obtain rfl := hv_
      refine XS.vals' 2 [(23, .bool (decide (f_a = f_b))), (4, .bool (decide (f_a = f_b)))] (by kernel_rfl) ?_
      refine XS.done rfl (thn_norm ?_)
      refine XC.ret ?_
      refine ⟨Or.inr rfl, .bool (decide (f_a = f_b)), fun a_ ha_ => results_t rfl ha_ rfl, s9.keep, ?_⟩
      refine congrArg Value.bool ?_
      first | (simp [*]; done) | (rw [Bool.eq_iff_iff]; simp; omega) | grind
    · skip
      refine XS.vals' 7 [(18, undef), (19, undef), (20, undef), (21, undef), (22, undef), (23, .bool false), (4, .bool false)] (by kernel_rfl) ?_
      refine XS.done rfl (thn_norm ?_)
      refine XC.ret ?_
      refine ⟨Or.inr rfl, .bool false, fun a_ ha_ => results_t rfl ha_ rfl, s7.keep, ?_⟩
      refine congrArg Value.bool ?_
      first | (simp [*]; done) | (rw [Bool.eq_iff_iff]; simp; omega) | grind
  · skip
    refine XS.vals' 14 [(11, undef), (12, undef), (13, undef), (14, undef), (15, undef), (16, .bool false), (17, .bool false), (18, undef), (19, undef), (20, undef), (21, undef), (22, undef), (23, .bool false), (4, .bool false)] (by kernel_rfl) ?_
    refine XS.done rfl (thn_norm ?_)
    refine XC.ret ?_
    refine ⟨Or.inr rfl, .bool false, fun a_ ha_ => results_t rfl ha_ rfl, s5.keep, ?_⟩
    refine congrArg Value.bool ?_
    first | (simp [*]; done) | (rw [Bool.eq_iff_iff]; simp; omega) | grind

end Go.Proofs.Tryz
namespace Go.Proofs.Tryz
open Go Go.X Go.RowKit Go.Sort
set_option maxRecDepth 100000
set_option maxHeartbeats 2000000
set_option linter.unusedVariables false
set_option linter.unusedSimpArgs false
theorem clean_Check_flat_ok (A : Nat → Prop) (w0 : World) (hA : ∀ b, w0.heap.size ≤ b → A b) (d_s : Int) (p_s : List Pt) (ap_s : Option Addr) (cp_s : Nat) (hp_s : Sl tPt A w0 (.slice ap_s p_s.length cp_s) p_s) (f_s : List (List Pt)) (af_s : Option Addr) (cf_s : Nat) (hf_s : Sl (tSl tPt) A w0 (.slice af_s f_s.length cf_s) f_s) (hchk : (chk p_s).1 = 0) (hdim : dimOf (sortPts p_s) = 2) (hk : ¬ cmp128 (bnrm (sortPts p_s)).x 0 = 0 ∨ ¬ cmp128 (bnrm (sortPts p_s)).y 0 = 0 ∨ ¬ cmp128 (bnrm (sortPts p_s)).z 0 = 0) (hF2 : 2 ≤ (flatF p_s).length) (hrev : ltP ((flatF p_s).getLastD z0) ((flatF p_s).getD 1 z0) = false) (F_ T_ : List Pt) (hF_ : flatF p_s = F_) (hT_ : sortPts F_ = T_) : Cal Tryz.prog 13 [(.agg #[.int .i64 d_s, .slice ap_s p_s.length cp_s, .slice af_s f_s.length cf_s])].toArray w0 (fun v w' => Keep none_ w0 w' ∧ v = .int .i64 (if d_s = 2 ∧ p_s = T_ ∧ f_s = [F_] then 0 else 170)) := by
  have s0 : Stt A w0 none_ [] w0 := Stt.start hA none_
  have hp_s_ := hp_s.mono Evo.start
  have hf_s_ := hf_s.mono Evo.start
  refine Cal.intro (n := 19) Tryz.func13 rfl Tryz.ntmps13 rfl ?_
  refine XC.seq ?_
  refine XC.region ?_
  refine XS.op rfl rfl (XO.new (cs := [.int .i64 d_s, .slice ap_s p_s.length cp_s, .slice af_s f_s.length cf_s]) (T := 37) s0 rfl (by decide) (fun _ => by kernel_rfl) (fun b1 w2 s2 ev2 kp2 ybb1 => ?_))
  refine XS.vals' 1 [(2, .int .i64 0)] (by kernel_rfl) ?_
  refine XS.done rfl (thn_norm ?_)
  refine XC.seq ?_
  refine XC.region ?_
  refine XS.vals' 1 [(6, .pointer (some ⟨b1, 1, none⟩))] (by kernel_rfl) ?_
  refine XS.op rfl rfl (XO.loadS (i := 0) (v := .slice ap_s p_s.length cp_s) (g := false) (m := 1) s2 rfl rfl rfl (by decide) rfl (by kernel_rfl) (by kernel_rfl) rfl rfl rfl ?_)
  refine XS.op rfl rfl (XO.callS (f := 12) (args := [(.slice ap_s p_s.length cp_s)].toArray) s2 rfl (by decide) (fun _ => by kernel_rfl) (clean_Of_flat_ok (av A _) _ s2.av_fresh p_s ap_s cp_s (hp_s_.mono ev2) (by assumption) (by assumption) (by assumption) (by assumption) (by assumption) F_ T_ hF_ hT_) (fun _ w3 s3 ev3 kp3 hv_ => ?_))
  obtain ⟨ap0_4, cp0_5, af0_6, cf0_7, rfl, hf8, hf9⟩ := hv_
  refine XS.vals' 3 [(5, .tuple #[.agg #[.int .i64 2, .slice ap0_4 T_.length cp0_5, .slice af0_6 (([F_]).length) cf0_7], .int .i64 0]), (9, .agg #[.int .i64 2, .slice ap0_4 T_.length cp0_5, .slice af0_6 (([F_]).length) cf0_7]), (10, .int .i64 0)] (by kernel_rfl) ?_
  refine XS.op rfl rfl (XO.new (cs := [.int .i64 0, .slice none 0 0, .slice none 0 0]) (T := 37) s3 rfl (by decide) (fun _ => by kernel_rfl) (fun b10 w11 s11 ev11 kp11 ybb10 => ?_))
  refine XS.op rfl rfl (XO.storeS (i := 1) (v := .agg #[.int .i64 2, .slice ap0_4 T_.length cp0_5, .slice af0_6 (([F_]).length) cf0_7]) (m := 3) (cs' := [.int .i64 2, .slice ap0_4 T_.length cp0_5, .slice af0_6 (([F_]).length) cf0_7]) s11 rfl rfl rfl rfl rfl (by kernel_rfl) rfl rfl rfl rfl (fun w12 s12 ev12 kp12 => ?_))
  refine XS.vals' 1 [(4, .int .i64 0)] (by kernel_rfl) ?_
  refine XS.done rfl (thn_norm ?_)
  refine XC.seq ?_
  refine XC.seq ?_
  obtain ⟨s13, ev13⟩ := Stt.norm s12 (S' := [cellsA b1 [.int .i64 d_s, .slice ap_s p_s.length cp_s, .slice af_s f_s.length cf_s] 37, cellsA b10 [.int .i64 2, .slice ap0_4 T_.length cp0_5, .slice af0_6 (([F_]).length) cf0_7] 37]) rfl
  refine XC.region ?_
  refine XS.vals' 3 [(11, .int .i64 0), (12, .bool false), (13, .bool false)] (by kernel_rfl) ?_
  refine XS.op_g rfl rfl rfl (XO.loadS (i := 0) (v := .agg #[.int .i64 d_s, .slice ap_s p_s.length cp_s, .slice af_s f_s.length cf_s]) (g := true) (m := 3) s13 rfl rfl rfl (by decide) rfl (by kernel_rfl) (by kernel_rfl) rfl rfl rfl ?_)
  refine XS.op_g rfl rfl rfl (XO.loadS (i := 1) (v := .agg #[.int .i64 2, .slice ap0_4 T_.length cp0_5, .slice af0_6 (([F_]).length) cf0_7]) (g := true) (m := 3) s13 rfl rfl rfl (by decide) rfl (by kernel_rfl) (by kernel_rfl) rfl rfl rfl ?_)
  refine XS.op_g rfl rfl rfl (XO.callS (f := 28) (args := [(.agg #[.int .i64 d_s, .slice ap_s p_s.length cp_s, .slice af_s f_s.length cf_s]), (.agg #[.int .i64 2, .slice ap0_4 T_.length cp0_5, .slice af0_6 (([F_]).length) cf0_7])].toArray) s13 rfl (by decide) (fun _ => by kernel_rfl) (clean_Same_ok (av A _) _ s13.av_fresh d_s p_s ap_s cp_s (hp_s_.mono (ev2.trans (ev3.trans (ev11.trans (ev12.trans ev13))))) f_s af_s cf_s (hf_s_.mono (ev2.trans (ev3.trans (ev11.trans (ev12.trans ev13))))) 2 T_ ap0_4 cp0_5 (hf8.mono (ev11.trans (ev12.trans ev13))) ([F_]) af0_6 cf0_7 (hf9.mono (ev11.trans (ev12.trans ev13))) ) (fun _ w14 s14 ev14 kp14 hv_ => ?_))
  obtain rfl := hv_
  refine XS.vals' 2 [(17, .bool (!decide (d_s = 2 ∧ p_s = T_ ∧ f_s = ([F_])))), (18, .bool (!decide (d_s = 2 ∧ p_s = T_ ∧ f_s = ([F_]))))] (by kernel_rfl) ?_
  refine XS.done rfl (thn_norm ?_)
  refine XC.cond_nd (d_s = 2 ∧ p_s = T_ ∧ f_s = ([F_])) rfl (fun hc15 => ?_) (fun hc15 => ?_)
  · skip
    refine XC.seq ?_
    obtain ⟨s16, ev16⟩ := Stt.norm s14 (S' := [cellsA b1 [.int .i64 d_s, .slice ap_s p_s.length cp_s, .slice af_s f_s.length cf_s] 37, cellsA b10 [.int .i64 2, .slice ap0_4 T_.length cp0_5, .slice af0_6 (([F_]).length) cf0_7] 37]) rfl
    refine XC.region ?_
    refine XS.vals' 1 [(2, .int .i64 170)] (by kernel_rfl) ?_
    refine XS.done rfl (thn_norm ?_)
    refine XC.ret (thn_ret ?_)
    refine ⟨Or.inr rfl, .int .i64 170, fun a_ ha_ => results_t rfl ha_ rfl, s16.keep, ?_⟩
    refine congrArg (Value.int .i64) ?_
    first | (rw [if_pos (by assumption)]; done) | (rw [if_neg (by assumption)]; done) | (simp [*]; done)
  · skip
    refine XC.skip (thn_norm ?_)
    refine XC.seq ?_
    obtain ⟨s17, ev17⟩ := Stt.norm s14 (S' := [cellsA b1 [.int .i64 d_s, .slice ap_s p_s.length cp_s, .slice af_s f_s.length cf_s] 37, cellsA b10 [.int .i64 2, .slice ap0_4 T_.length cp0_5, .slice af0_6 (([F_]).length) cf0_7] 37]) rfl
    refine XC.region ?_
    refine XS.vals' 1 [(2, .int .i64 0)] (by kernel_rfl) ?_
    refine XS.done rfl (thn_norm ?_)
    refine XC.ret ?_
    refine ⟨Or.inr rfl, .int .i64 0, fun a_ ha_ => results_t rfl ha_ rfl, s17.keep, ?_⟩
    refine congrArg (Value.int .i64) ?_
    first | (rw [if_pos (by assumption)]; done) | (rw [if_neg (by assumption)]; done) | (simp [*]; done)

end Go.Proofs.Tryz
