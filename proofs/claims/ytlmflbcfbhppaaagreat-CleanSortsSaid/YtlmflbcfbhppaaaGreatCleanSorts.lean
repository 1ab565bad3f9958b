/- CleanSorts: whatever comes in, the law returns true, and each argument reads as it did. -/
import Derived.Test.YtlmflbcfbhppaaaGreatT6
import Derived.Test.YtlmflbcfbhppaaaGreatRows
import Derived.WalkKit
import Derived.ProofKit
import Derived.OpenShut
import Derived.Carry
set_option linter.all false
set_option linter.unusedVariables false
set_option linter.unusedSimpArgs false
set_option linter.unusedSectionVars false
namespace Go.Proofs.YtlmflbcfbhppaaaGreat
open Go Go.X Go.RowKit Go.ChangeShapes Go.WideShapes Go.ChangeAt
set_option linter.unusedVariables false
set_option maxRecDepth 100000
theorem own : ownKnob Tryz.prog.godebug = none := by kernel_rfl
theorem agg_of {v : Value} {p : Pt} (h : v.cells.toList = p.enc) : v = .agg p.enc.toArray := by
  cases v with
  | agg cs => have h : cs.toList = p.enc := h
              rw [← h]
  | _ => simp [Value.cells, Pt.enc] at h
theorem laidOut : laidOutB Tryz.prog = true := by kernel_rfl
theorem stay {H : Type} {enc : TypeId × Value → H} {t : TypeId} {W W' : World} {v : Value} {d : DataW H} {ps : List MemPlace} (hk : Keep none_ W W') (h : DataW.Trod enc Tryz.prog W 0 (fun _ => true) true t v d ps) (hr : Tryz.prog.readableRec t = true) (hrow : t < Tryz.prog.types.size)
    (hlt : ∀ x ∈ ps, x.block < W.heap.size) : DataW.Trod enc Tryz.prog W' 0 (fun b => decide (b < W.heap.size)) true t v d ps := Below.trod laidOut hr hrow h hk.below hlt
/-- the law's walk, at any length -/
theorem walk (W : World) (v0 : Value) (xs : List Pt) (a0 : Option Addr) (c0 : Nat) (hv : v0 = .slice a0 xs.length c0) (h0 : xs.length ≤ 4611686018427387904 → Sl tPt (fun _ => True) W v0 xs) (p q : Pt) :
    Cal Tryz.prog 3 #[v0, .agg p.enc.toArray, .agg q.enc.toArray] W (fun v w' => Keep none_ W w' ∧ v = .bool true) := by
  subst hv
  by_cases hl : xs.length ≤ 600
  · exact Tryz.CleanSorts_short_ok (fun _ => True) W (fun _ _ => trivial) xs a0 c0 (h0 (by omega)) p q hl
  · exact Tryz.CleanSorts_long_ok (fun _ => True) W (fun _ _ => trivial) xs.length a0 c0 p q (by omega)
theorem lifted (os : Os) (started : os.Started) (H : Type) (enc : TypeId × Value → H) :
    ReturnsInHanded {} Tryz.checked os 3 .any (Rows.cleanSortsSpec.pre6 enc Tryz.prog Tryz.f3 Rows.cleanSortsRow.domain false) (Rows.cleanSortsSpec.post enc Tryz.prog Tryz.f3 false true false false) := by
  refine returnsInHanded_of_change (C := Tryz.checked) own started (by kernel_rfl) Tryz.func3
    (ChangeSpec.witness6 (enc := enc) (C := Tryz.checked) false ⟨#[], #[.slice none 0 0, .agg #[.int .i64 0, .int .i64 0, .int .i64 0], .agg #[.int .i64 0, .int .i64 0, .int .i64 0]], []⟩ 8 (by kernel_rfl) (by kernel_rfl) (by kernel_rfl) (by kernel_rfl)) ?_
  intro W base args ds gs before hval0 hW hcnd _
  have hval : ∀ (j : Nat) t v, Tryz.f3.params[j]? = some t → args[j]? = some v → Value.okWide Tryz.prog W .any base t v := hval0
  have hW' := hW
  obtain ⟨p, q, hA0, hV, rfl, hfz, hnd⟩ := hW
  have hA : DataW.TrodAll enc Tryz.prog W 0 (fun _ => true) true Tryz.f3.params.toList args.toList ds p := hA0
  rw [Tryz.params3] at hA hval
  obtain ⟨v0, vs0, d0, ds0, p0, q0, hargs, rfl, rfl, h0, r0⟩ := trodAll_cons hA
  obtain ⟨v1, vs1, d1, ds1, p1, q1, rfl, rfl, rfl, h1, r1⟩ := trodAll_cons r0
  obtain ⟨v2, vs2, d2, ds2, p2, q2, rfl, rfl, rfl, h2, r2⟩ := trodAll_cons r1
  obtain ⟨rfl, rfl, rfl⟩ := trodAll_nil r2
  obtain rfl : args = #[v0, v1, v2] := by cases args; simp_all
  obtain ⟨rfl, rfl⟩ := trodVars_none hV
  clear hA0 hval0
  have hlt : ∀ x ∈ p0 ++ (p1 ++ (p2 ++ [])), x.block < W.heap.size := fun x hx => by simpa using hW'.lt x (by simpa using hx)
  have k0 := h0
  have k1 := h1
  have k2 := h2
  obtain ⟨a0, n0, c0, rfl⟩ := okWide_slice Tryz.underlying22 (hval 0 22 v0 rfl rfl)
  obtain ⟨f0, e0⟩ := k0
  obtain ⟨f1, e1⟩ := k1
  obtain ⟨f2, e2⟩ := k2
  obtain ⟨xs, b0, d0', hv0, hs0⟩ := open_pts (v := .slice a0 n0 c0) Tryz.underlying22 (by kernel_rfl) e0
  obtain ⟨pa, ha⟩ := open_pt (by kernel_rfl) e1
  obtain ⟨pb, hb⟩ := open_pt (by kernel_rfl) e2
  obtain rfl := agg_of ha
  obtain rfl := agg_of hb
  have hw : Calls Tryz.prog 3 #[.slice a0 n0 c0, .agg pa.enc.toArray, .agg pb.enc.toArray] W (fun e w' => ∃ v, e = .returned v ∧ Keep none_ W w' ∧ v = .bool true) := by
    have h_ := walk W _ xs b0 d0' hv0 hs0 pa pb
    unfold Cal at h_; exact h_
  refine hw.mono fun e W' hh => ?_
  obtain ⟨v, he, hk, hv⟩ := hh
  subst hv
  refine ⟨_, he, _, _, _, [], p0 ++ (p1 ++ (p2 ++ [])), [], hW', ?_, ?_, rfl, hk.below.frame _, fun h => by cases h⟩
  · exact trodAll_cons_mk (shut_bool Tryz.underlying4 _) trodAll_mk0
  · refine trodAll_cons_mk (stay hk h0 (by kernel_rfl) (of_decide_eq_true (by kernel_rfl)) (fun x hx => hlt x (by simp [hx]))) (trodAll_cons_mk (stay hk h1 (by kernel_rfl) (of_decide_eq_true (by kernel_rfl)) (fun x hx => hlt x (by simp [hx]))) (trodAll_cons_mk (stay hk h2 (by kernel_rfl) (of_decide_eq_true (by kernel_rfl)) (fun x hx => hlt x (by simp [hx]))) trodAll_mk0))
theorem over : Rows.cleanSortsRow.holds Tryz.pinned (OpenSpec.ofChange Rows.cleanSortsSpec) :=
  OpenClaim.holds_of_wide 3 Tryz.f3 rfl rfl rfl rfl rfl rfl rfl ⟨rfl, rfl, rfl, rfl, rfl⟩ rfl rfl rfl rfl rfl (by kernel_rfl) Tryz.func3 (by kernel_rfl)
    (of_decide_eq_true (by kernel_rfl)) (by unfold Func.isWrapper; first | (rw [if_pos (by decide +kernel)]; kernel_rfl) | (rw [if_neg (by decide +kernel)]; exact ⟨rfl, rfl⟩))
    (fun os started H enc _ => lifted os started H enc)
theorem cleanSorts_holds : Rows.CleanSortsSaid := over
#print axioms cleanSorts_holds
end Go.Proofs.YtlmflbcfbhppaaaGreat
