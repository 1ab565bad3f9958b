/- What comes in: slices of points, points. -/
import Derived.Test.YtlmflbcfbhppaaaGreatT1
import Derived.ChangeArms
import Derived.DataReads
import Derived.WalkKit
import Derived.Test.YtlmflbcfbhppaaaGreatProg
import Derived.Shelf.SlSortCmp.NoneTotal
set_option linter.all false
set_option linter.unusedVariables false
set_option linter.unusedSimpArgs false
set_option linter.unusedSectionVars false
namespace Go.X
open Go Go.RowKit
section
variable {H : Type} {enc : TypeId × Value → H} {P : Program} {w : World} {base : Nat} {spare : Nat → Bool} {held : Bool} {fuel : Nat} {t : TypeId} {cs : List Value} {x : DataW H × List MemPlace}
/-- t is a struct of three ints -/
def ptType (P : Program) (t : TypeId) : Bool :=
  match P.underlying t with
  | some (.struct fs) => P.cellsOf t == 3 && (List.range 3).all fun i => match fs[i]? with
    | some f => f.offset == i && P.cellsOf f.type == 1 && (match P.underlying f.type with | some (.int .i64) => true | _ => false)
    | none => false
  | _ => false
theorem open_pt (ht : ptType P t = true) (h : DataW.trod enc P w base spare held fuel t cs = some x) : ∃ p : Pt, cs = p.enc := by
  unfold ptType at ht
  split at ht
  · rename_i fs hu
    simp only [Bool.and_eq_true, beq_iff_eq, List.all_eq_true, List.mem_range] at ht
    obtain ⟨hc, hf⟩ := ht
    obtain ⟨xs, n, _, _, hl, hxl, hx⟩ := DataW.trod_struct hu h
    have one : ∀ i, i < 3 → ∃ v, (cs.drop i).take 1 = [.int .i64 v] := by
      intro i hi
      have := hf i hi
      split at this
      · rename_i f hfi
        simp only [Bool.and_eq_true, beq_iff_eq] at this
        obtain ⟨⟨ho, h1⟩, hk⟩ := this
        have hk' : P.underlying f.type = some (.int .i64) := by
          split at hk
          · assumption
          · cases hk
        have hxi := hx i f hfi
        rw [ho, h1] at hxi
        have hlt : i < xs.length := by rw [hxl]; exact (Array.getElem?_eq_some_iff.1 hfi).1
        rw [List.getElem?_eq_getElem hlt] at hxi
        obtain ⟨v, hv, _⟩ := DataW.trod_int hk' hxi
        exact ⟨v, hv⟩
      · cases this
    rw [hc] at hl
    obtain ⟨a, b, c, rfl⟩ : ∃ a b c, cs = [a, b, c] := by
      match cs, hl with
      | [a, b, c], _ => exact ⟨a, b, c, rfl⟩
    obtain ⟨v0, e0⟩ := one 0 (by omega)
    obtain ⟨v1, e1⟩ := one 1 (by omega)
    obtain ⟨v2, e2⟩ := one 2 (by omega)
    simp at e0 e1 e2
    exact ⟨⟨v0, v1, v2⟩, by rw [e0, e1, e2]; rfl⟩
  · cases ht
theorem open_pts {e : TypeId} (ht : P.underlying t = some (.slice e)) (he : ptType P e = true) {v : Value} (h : DataW.trod enc P w base spare held fuel t [v] = some x) : ∃ (xs : List Pt) (a : Option Addr) (cap : Nat), v = .slice a xs.length cap ∧ (xs.length ≤ 4611686018427387904 → Sl tPt (fun _ => True) w v xs) := by
  have hce : P.cellsOf e = 3 := by
    unfold ptType at he
    split at he
    · simp only [Bool.and_eq_true, beq_iff_eq] at he; exact he.1
    · cases he
  rcases DataW.trod_slice ht h with ⟨hv, _⟩ | ⟨a, len, cap, elems, rest, n, _, hv, _, hb, hl, hm, hlen, hel, _, _⟩
  · cases hv; exact ⟨[], none, 0, rfl, fun _ => ⟨none, 0, rfl, by simp, by simp, .inl rfl⟩⟩
  · cases hv
    rw [hce] at hel
    have each : ∀ i, i < len → ∃ p : Pt, w.cells? base (a.add (i * 3)) 3 = some p.enc := by
      intro i hi
      have h1 := hel i hi
      rw [List.getElem?_eq_getElem (by omega)] at h1
      obtain ⟨c, hc, hp⟩ := Option.bind_eq_some_iff.1 h1
      obtain ⟨p, rfl⟩ := open_pt he hp
      exact ⟨p, hc⟩
    let f : Nat → Pt := fun i => if hi : i < len then Classical.choose (each i hi) else ⟨0, 0, 0⟩
    have hf : ∀ i, i < len → w.cells? base (a.add (i * 3)) 3 = some (f i).enc := by
      intro i hi; simp only [f, dif_pos hi]; exact Classical.choose_spec (each i hi)
    have hll : ((List.range len).map f).length = len := by simp
    refine ⟨(List.range len).map f, some a, cap, by rw [hll], fun hmax => ⟨some a, cap, by rw [hll], by rw [hll]; exact hl, hmax, ?_⟩⟩
    · skip
      by_cases h0 : len = 0
      · subst h0; exact .inl rfl
      · right
        have cell : ∀ i j, i < len → j < 3 → w.cell? ((a.add (i * 3)).add j) = (f i).enc[j]? := fun i j hi hj => (World.cells?_some (hf i hi)).2.2 j hj
        have c0 := cell 0 0 (by omega) (by omega)
        have ea : (a.add (0 * 3)).add 0 = a := by simp [Addr.add]
        rw [ea] at c0
        obtain ⟨b, off, spot⟩ := a
        unfold World.cell? at c0
        cases hheap : w.heap[b]? with
        | none => rw [hheap] at c0; simp [Pt.enc] at c0
        | some o =>
          rw [hheap] at c0
          cases o with
          | cells c T fr =>
            dsimp only at c0
            cases spot with
            | some s => simp [Pt.enc] at c0
            | none =>
              refine ⟨b, off, c, T, fr, rfl, trivial, hheap, fun i hi => ?_⟩
              rw [hll] at hi
              show sub c.toList (off + i * 3) 3 = ((List.range len).map f)[i].enc
              rw [List.getElem_map, List.getElem_range]
              apply List.ext_getElem?
              intro j
              by_cases hj : j < 3
              · rw [sub_getElem? hj]
                have := cell i j hi hj
                rw [← this]
                unfold World.cell?
                have e1 : (((⟨b, off, none⟩ : Addr).add (i * 3)).add j) = ⟨b, off + i * 3 + j, none⟩ := by
                  unfold Addr.add
                  by_cases h1 : i * 3 = 0
                  · by_cases h2 : j = 0
                    · simp [h1, h2]
                    · simp [h1, h2]
                  · by_cases h2 : j = 0
                    · simp [h1, h2]
                    · simp [h1, h2]
                rw [e1]
                dsimp only
                rw [hheap]
                simp
              · rw [List.getElem?_eq_none (by simp [sub]; omega), List.getElem?_eq_none (by simp [Pt.enc]; omega)]
          | _ => simp [Pt.enc] at c0
end
end Go.X
namespace Go.Proofs.Tryz
open Go Go.X Go.RowKit Go.Sort
set_option maxRecDepth 100000
set_option linter.unusedVariables false
theorem limb_Of_ok (A : Nat → Prop) (w0 : World) (hA : ∀ b, w0.heap.size ≤ b → A b) (n : Int) (h : -9223372036854775808 ≤ n ∧ n ≤ 9223372036854775807)  : Cal Tryz.prog 87 [(.int .i64 n)].toArray w0 (fun v w' => Keep none_ w0 w' ∧ v = .agg #[.int .i64 (hi128 n), .int .u64 (lo128 n)]) := by
  have s0 : Stt A w0 none_ [] w0 := Stt.start hA none_
  refine Cal.intro (n := 8) Tryz.func87 rfl Tryz.ntmps87 rfl ?_
  refine XC.seq ?_
  refine XC.region ?_
  refine XS.op rfl rfl (XO.new (cs := [.int .i64 0, .int .u64 0]) (T := 55) s0 rfl (by decide) (fun _ => by kernel_rfl) (fun b1 w2 s2 ev2 kp2 ybb1 => ?_))
  refine XS.done rfl (thn_norm ?_)
  refine XC.seq ?_
  refine XC.region ?_
  refine XS.vals' 5 [(3, .int .i64 n), (4, .int .i64 (Int.fdiv n 9223372036854775808)), (5, .int .i64 n), (6, .int .u64 (IntKind.u64.wrap n)), (7, .agg #[.int .i64 (Int.fdiv n 9223372036854775808), .int .u64 (IntKind.u64.wrap n)])] (by kernel_rfl) ?_
  refine XS.op rfl rfl (XO.storeS (i := 0) (v := .agg #[.int .i64 (Int.fdiv n 9223372036854775808), .int .u64 (IntKind.u64.wrap n)]) (m := 2) (cs' := [.int .i64 (Int.fdiv n 9223372036854775808), .int .u64 (IntKind.u64.wrap n)]) s2 rfl rfl rfl rfl rfl (by kernel_rfl) rfl rfl rfl rfl (fun w3 s3 ev3 kp3 => ?_))
  refine XS.done rfl (thn_norm ?_)
  refine XC.ret ?_
  refine ⟨Or.inr rfl, .agg #[.int .i64 (Int.fdiv n 9223372036854775808), .int .u64 (IntKind.u64.wrap n)], fun a_ ha_ => results_c rfl (res_cell (b := b1) (cs := [.int .i64 (Int.fdiv n 9223372036854775808), .int .u64 (IntKind.u64.wrap n)]) (g := true) (sz := 2) (v := .agg #[.int .i64 (Int.fdiv n 9223372036854775808), .int .u64 (IntKind.u64.wrap n)]) ha_ rfl (s3.at_ (i := 0) rfl) (by kernel_rfl) (by kernel_rfl) rfl rfl rfl), s3.keep, ?_⟩
  obtain ⟨e1, e2⟩ := limb_of h
  rw [e1, e2]

theorem limb_Add_ok (A : Nat → Prop) (w0 : World) (hA : ∀ b, w0.heap.size ≤ b → A b) (x : Int) (y : Int)  : Cal Tryz.prog 158 [(.agg #[.int .i64 (hi128 x), .int .u64 (lo128 x)]), (.agg #[.int .i64 (hi128 y), .int .u64 (lo128 y)])].toArray w0 (fun v w' => Keep none_ w0 w' ∧ v = .agg #[.int .i64 (hi128 (x + y)), .int .u64 (lo128 (x + y))]) := by
  have s0 : Stt A w0 none_ [] w0 := Stt.start hA none_
  refine Cal.intro (n := 32) Tryz.func158 rfl Tryz.ntmps158 rfl ?_
  refine XC.seq ?_
  refine XC.region ?_
  refine XS.op rfl rfl (XO.new (cs := [.int .i64 (hi128 x), .int .u64 (lo128 x)]) (T := 55) s0 rfl (by decide) (fun _ => by kernel_rfl) (fun b1 w2 s2 ev2 kp2 ybb1 => ?_))
  refine XS.op rfl rfl (XO.new (cs := [.int .i64 (hi128 y), .int .u64 (lo128 y)]) (T := 55) s2 rfl (by decide) (fun _ => by kernel_rfl) (fun b3 w4 s4 ev4 kp4 ybb3 => ?_))
  refine XS.op rfl rfl (XO.new (cs := [.int .i64 0, .int .u64 0]) (T := 55) s4 rfl (by decide) (fun _ => by kernel_rfl) (fun b5 w6 s6 ev6 kp6 ybb5 => ?_))
  refine XS.done rfl (thn_norm ?_)
  refine XC.seq ?_
  refine XC.region ?_
  refine XS.vals' 1 [(10, .pointer (some ⟨b1, 1, none⟩))] (by kernel_rfl) ?_
  refine XS.op rfl rfl (XO.loadS (i := 0) (v := .int .u64 (lo128 x)) (g := false) (m := 1) s6 rfl rfl rfl (by decide) rfl (by kernel_rfl) (by kernel_rfl) rfl rfl rfl ?_)
  refine XS.vals' 1 [(12, .pointer (some ⟨b3, 1, none⟩))] (by kernel_rfl) ?_
  refine XS.op rfl rfl (XO.loadS (i := 1) (v := .int .u64 (lo128 y)) (g := false) (m := 1) s6 rfl rfl rfl (by decide) rfl (by kernel_rfl) (by kernel_rfl) rfl rfl rfl ?_)
  refine XS.op rfl rfl (XO.add64 (x := (lo128 x)) (y := (lo128 y)) (c := 0) (by first | omega | (have h1 := lo128_range x; have h2 := lo128_range y; omega) | (simp only [wrapu]; have h1 := lo128_range x; have h2 := lo128_range y; omega)) (by first | omega | (have h1 := lo128_range x; have h2 := lo128_range y; omega) | (simp only [wrapu]; have h1 := lo128_range x; have h2 := lo128_range y; omega)) (by first | omega | (have h1 := lo128_range x; have h2 := lo128_range y; omega) | (simp only [wrapu]; have h1 := lo128_range x; have h2 := lo128_range y; omega)) rfl (by decide) (by kernel_rfl) (fun x7 y8 hx7 hy8 => ?_))
  refine XS.vals' 5 [(9, .tuple #[.int .u64 x7, .int .u64 y8]), (15, .int .u64 x7), (16, .int .u64 y8), (5, .int .u64 x7), (6, .int .u64 y8)] (by kernel_rfl) ?_
  refine XS.done rfl (thn_norm ?_)
  refine XC.seq ?_
  refine XC.region ?_
  refine XS.vals' 1 [(18, .pointer (some ⟨b1, 0, none⟩))] (by kernel_rfl) ?_
  refine XS.op rfl rfl (XO.loadS (i := 0) (v := .int .i64 (hi128 x)) (g := false) (m := 1) s6 rfl rfl rfl (by decide) rfl (by kernel_rfl) (by kernel_rfl) rfl rfl rfl ?_)
  refine XS.vals' 2 [(20, .int .u64 (IntKind.u64.wrap (hi128 x))), (21, .pointer (some ⟨b3, 0, none⟩))] (by kernel_rfl) ?_
  refine XS.op rfl rfl (XO.loadS (i := 1) (v := .int .i64 (hi128 y)) (g := false) (m := 1) s6 rfl rfl rfl (by decide) rfl (by kernel_rfl) (by kernel_rfl) rfl rfl rfl ?_)
  refine XS.vals' 2 [(23, .int .u64 (IntKind.u64.wrap (hi128 y))), (24, .int .u64 y8)] (by kernel_rfl) ?_
  refine XS.op rfl rfl (XO.add64 (x := (IntKind.u64.wrap (hi128 x))) (y := (IntKind.u64.wrap (hi128 y))) (c := y8) (by first | omega | (have h1 := lo128_range x; have h2 := lo128_range y; omega) | (simp only [wrapu]; have h1 := lo128_range x; have h2 := lo128_range y; omega)) (by first | omega | (have h1 := lo128_range x; have h2 := lo128_range y; omega) | (simp only [wrapu]; have h1 := lo128_range x; have h2 := lo128_range y; omega)) (by first | omega | (have h1 := lo128_range x; have h2 := lo128_range y; omega) | (simp only [wrapu]; have h1 := lo128_range x; have h2 := lo128_range y; omega)) rfl (by decide) (by kernel_rfl) (fun x9 y10 hx9 hy10 => ?_))
  refine XS.vals' 5 [(17, .tuple #[.int .u64 x9, .int .u64 y10]), (26, .int .u64 x9), (27, .int .u64 y10), (7, .int .u64 x9), (8, .int .u64 y10)] (by kernel_rfl) ?_
  refine XS.done rfl (thn_norm ?_)
  refine XC.seq ?_
  refine XC.region ?_
  refine XS.vals' 4 [(28, .int .u64 x9), (29, .int .i64 (IntKind.i64.wrap x9)), (30, .int .u64 x7), (31, .agg #[.int .i64 (IntKind.i64.wrap x9), .int .u64 x7])] (by kernel_rfl) ?_
  refine XS.op rfl rfl (XO.storeS (i := 2) (v := .agg #[.int .i64 (IntKind.i64.wrap x9), .int .u64 x7]) (m := 2) (cs' := [.int .i64 (IntKind.i64.wrap x9), .int .u64 x7]) s6 rfl rfl rfl rfl rfl (by kernel_rfl) rfl rfl rfl rfl (fun w11 s11 ev11 kp11 => ?_))
  refine XS.done rfl (thn_norm ?_)
  refine XC.ret ?_
  refine ⟨Or.inr rfl, .agg #[.int .i64 (IntKind.i64.wrap x9), .int .u64 x7], fun a_ ha_ => results_c rfl (res_cell (b := b5) (cs := [.int .i64 (IntKind.i64.wrap x9), .int .u64 x7]) (g := true) (sz := 2) (v := .agg #[.int .i64 (IntKind.i64.wrap x9), .int .u64 x7]) ha_ rfl (s11.at_ (i := 2) rfl) (by kernel_rfl) (by kernel_rfl) rfl rfl rfl), s11.keep, ?_⟩
  obtain ⟨e1, e2⟩ := limb_add x y _ _ _ hx7 hy8 hx9
  rw [e1, e2]

theorem limb_Sub_ok (A : Nat → Prop) (w0 : World) (hA : ∀ b, w0.heap.size ≤ b → A b) (x : Int) (y : Int)  : Cal Tryz.prog 50 [(.agg #[.int .i64 (hi128 x), .int .u64 (lo128 x)]), (.agg #[.int .i64 (hi128 y), .int .u64 (lo128 y)])].toArray w0 (fun v w' => Keep none_ w0 w' ∧ v = .agg #[.int .i64 (hi128 (x - y)), .int .u64 (lo128 (x - y))]) := by
  have s0 : Stt A w0 none_ [] w0 := Stt.start hA none_
  refine Cal.intro (n := 32) Tryz.func50 rfl Tryz.ntmps50 rfl ?_
  refine XC.seq ?_
  refine XC.region ?_
  refine XS.op rfl rfl (XO.new (cs := [.int .i64 (hi128 x), .int .u64 (lo128 x)]) (T := 55) s0 rfl (by decide) (fun _ => by kernel_rfl) (fun b1 w2 s2 ev2 kp2 ybb1 => ?_))
  refine XS.op rfl rfl (XO.new (cs := [.int .i64 (hi128 y), .int .u64 (lo128 y)]) (T := 55) s2 rfl (by decide) (fun _ => by kernel_rfl) (fun b3 w4 s4 ev4 kp4 ybb3 => ?_))
  refine XS.op rfl rfl (XO.new (cs := [.int .i64 0, .int .u64 0]) (T := 55) s4 rfl (by decide) (fun _ => by kernel_rfl) (fun b5 w6 s6 ev6 kp6 ybb5 => ?_))
  refine XS.done rfl (thn_norm ?_)
  refine XC.seq ?_
  refine XC.region ?_
  refine XS.vals' 1 [(10, .pointer (some ⟨b1, 1, none⟩))] (by kernel_rfl) ?_
  refine XS.op rfl rfl (XO.loadS (i := 0) (v := .int .u64 (lo128 x)) (g := false) (m := 1) s6 rfl rfl rfl (by decide) rfl (by kernel_rfl) (by kernel_rfl) rfl rfl rfl ?_)
  refine XS.vals' 1 [(12, .pointer (some ⟨b3, 1, none⟩))] (by kernel_rfl) ?_
  refine XS.op rfl rfl (XO.loadS (i := 1) (v := .int .u64 (lo128 y)) (g := false) (m := 1) s6 rfl rfl rfl (by decide) rfl (by kernel_rfl) (by kernel_rfl) rfl rfl rfl ?_)
  refine XS.op rfl rfl (XO.sub64 (x := (lo128 x)) (y := (lo128 y)) (c := 0) (by first | omega | (have h1 := lo128_range x; have h2 := lo128_range y; omega) | (simp only [wrapu]; have h1 := lo128_range x; have h2 := lo128_range y; omega)) (by first | omega | (have h1 := lo128_range x; have h2 := lo128_range y; omega) | (simp only [wrapu]; have h1 := lo128_range x; have h2 := lo128_range y; omega)) (by first | omega | (have h1 := lo128_range x; have h2 := lo128_range y; omega) | (simp only [wrapu]; have h1 := lo128_range x; have h2 := lo128_range y; omega)) rfl (by decide) (by kernel_rfl) (fun x7 y8 hx7 hy8 => ?_))
  refine XS.vals' 5 [(9, .tuple #[.int .u64 x7, .int .u64 y8]), (15, .int .u64 x7), (16, .int .u64 y8), (5, .int .u64 x7), (6, .int .u64 y8)] (by kernel_rfl) ?_
  refine XS.done rfl (thn_norm ?_)
  refine XC.seq ?_
  refine XC.region ?_
  refine XS.vals' 1 [(18, .pointer (some ⟨b1, 0, none⟩))] (by kernel_rfl) ?_
  refine XS.op rfl rfl (XO.loadS (i := 0) (v := .int .i64 (hi128 x)) (g := false) (m := 1) s6 rfl rfl rfl (by decide) rfl (by kernel_rfl) (by kernel_rfl) rfl rfl rfl ?_)
  refine XS.vals' 2 [(20, .int .u64 (IntKind.u64.wrap (hi128 x))), (21, .pointer (some ⟨b3, 0, none⟩))] (by kernel_rfl) ?_
  refine XS.op rfl rfl (XO.loadS (i := 1) (v := .int .i64 (hi128 y)) (g := false) (m := 1) s6 rfl rfl rfl (by decide) rfl (by kernel_rfl) (by kernel_rfl) rfl rfl rfl ?_)
  refine XS.vals' 2 [(23, .int .u64 (IntKind.u64.wrap (hi128 y))), (24, .int .u64 y8)] (by kernel_rfl) ?_
  refine XS.op rfl rfl (XO.sub64 (x := (IntKind.u64.wrap (hi128 x))) (y := (IntKind.u64.wrap (hi128 y))) (c := y8) (by first | omega | (have h1 := lo128_range x; have h2 := lo128_range y; omega) | (simp only [wrapu]; have h1 := lo128_range x; have h2 := lo128_range y; omega)) (by first | omega | (have h1 := lo128_range x; have h2 := lo128_range y; omega) | (simp only [wrapu]; have h1 := lo128_range x; have h2 := lo128_range y; omega)) (by first | omega | (have h1 := lo128_range x; have h2 := lo128_range y; omega) | (simp only [wrapu]; have h1 := lo128_range x; have h2 := lo128_range y; omega)) rfl (by decide) (by kernel_rfl) (fun x9 y10 hx9 hy10 => ?_))
  refine XS.vals' 5 [(17, .tuple #[.int .u64 x9, .int .u64 y10]), (26, .int .u64 x9), (27, .int .u64 y10), (7, .int .u64 x9), (8, .int .u64 y10)] (by kernel_rfl) ?_
  refine XS.done rfl (thn_norm ?_)
  refine XC.seq ?_
  refine XC.region ?_
  refine XS.vals' 4 [(28, .int .u64 x9), (29, .int .i64 (IntKind.i64.wrap x9)), (30, .int .u64 x7), (31, .agg #[.int .i64 (IntKind.i64.wrap x9), .int .u64 x7])] (by kernel_rfl) ?_
  refine XS.op rfl rfl (XO.storeS (i := 2) (v := .agg #[.int .i64 (IntKind.i64.wrap x9), .int .u64 x7]) (m := 2) (cs' := [.int .i64 (IntKind.i64.wrap x9), .int .u64 x7]) s6 rfl rfl rfl rfl rfl (by kernel_rfl) rfl rfl rfl rfl (fun w11 s11 ev11 kp11 => ?_))
  refine XS.done rfl (thn_norm ?_)
  refine XC.ret ?_
  refine ⟨Or.inr rfl, .agg #[.int .i64 (IntKind.i64.wrap x9), .int .u64 x7], fun a_ ha_ => results_c rfl (res_cell (b := b5) (cs := [.int .i64 (IntKind.i64.wrap x9), .int .u64 x7]) (g := true) (sz := 2) (v := .agg #[.int .i64 (IntKind.i64.wrap x9), .int .u64 x7]) ha_ rfl (s11.at_ (i := 2) rfl) (by kernel_rfl) (by kernel_rfl) rfl rfl rfl), s11.keep, ?_⟩
  obtain ⟨e1, e2⟩ := limb_sub x y _ _ _ hx7 hy8 hx9
  rw [e1, e2]

theorem limb_Neg_ok (A : Nat → Prop) (w0 : World) (hA : ∀ b, w0.heap.size ≤ b → A b) (x : Int)  : Cal Tryz.prog 194 [(.agg #[.int .i64 (hi128 x), .int .u64 (lo128 x)])].toArray w0 (fun v w' => Keep none_ w0 w' ∧ v = .agg #[.int .i64 (hi128 (0 - x)), .int .u64 (lo128 (0 - x))]) := by
  have s0 : Stt A w0 none_ [] w0 := Stt.start hA none_
  refine Cal.intro (n := 6) Tryz.func194 rfl Tryz.ntmps194 rfl ?_
  refine XC.seq ?_
  refine XC.region ?_
  refine XS.op rfl rfl (XO.new (cs := [.int .i64 (hi128 x), .int .u64 (lo128 x)]) (T := 55) s0 rfl (by decide) (fun _ => by kernel_rfl) (fun b1 w2 s2 ev2 kp2 ybb1 => ?_))
  refine XS.op rfl rfl (XO.new (cs := [.int .i64 0, .int .u64 0]) (T := 55) s2 rfl (by decide) (fun _ => by kernel_rfl) (fun b3 w4 s4 ev4 kp4 ybb3 => ?_))
  refine XS.done rfl (thn_norm ?_)
  refine XC.seq ?_
  refine XC.region ?_
  refine XS.vals' 1 [(3, .agg #[.int .i64 0, .int .u64 0])] (by kernel_rfl) ?_
  refine XS.op rfl rfl (XO.loadS (i := 0) (v := .agg #[.int .i64 (hi128 x), .int .u64 (lo128 x)]) (g := true) (m := 2) s4 rfl rfl rfl (by decide) rfl (by kernel_rfl) (by kernel_rfl) rfl rfl rfl ?_)
  refine XS.op rfl rfl (XO.callS (f := 50) (args := [(.agg #[.int .i64 0, .int .u64 0]), (.agg #[.int .i64 (hi128 x), .int .u64 (lo128 x)])].toArray) s4 rfl (by decide) (fun _ => by kernel_rfl) (limb_Sub_ok (av A _) _ s4.av_fresh 0 x ) (fun _ w5 s5 ev5 kp5 hv_ => ?_))
  obtain rfl := hv_
  refine XS.op rfl rfl (XO.storeS (i := 1) (v := .agg #[.int .i64 (hi128 (0 - x)), .int .u64 (lo128 (0 - x))]) (m := 2) (cs' := [.int .i64 (hi128 (0 - x)), .int .u64 (lo128 (0 - x))]) s5 rfl rfl rfl rfl rfl (by kernel_rfl) rfl rfl rfl rfl (fun w6 s6 ev6 kp6 => ?_))
  refine XS.done rfl (thn_norm ?_)
  refine XC.ret ?_
  refine ⟨Or.inr rfl, .agg #[.int .i64 (hi128 (0 - x)), .int .u64 (lo128 (0 - x))], fun a_ ha_ => results_c rfl (res_cell (b := b3) (cs := [.int .i64 (hi128 (0 - x)), .int .u64 (lo128 (0 - x))]) (g := true) (sz := 2) (v := .agg #[.int .i64 (hi128 (0 - x)), .int .u64 (lo128 (0 - x))]) ha_ rfl (s6.at_ (i := 1) rfl) (by kernel_rfl) (by kernel_rfl) rfl rfl rfl), s6.keep, ?_⟩
  rfl

theorem math_bits_Mul64_ok (A : Nat → Prop) (w0 : World) (hA : ∀ b, w0.heap.size ≤ b → A b) (x : Int) (y : Int) (hx : 0 ≤ x ∧ x < 18446744073709551616) (hy : 0 ≤ y ∧ y < 18446744073709551616)  : Cal Tryz.prog 123 [(.int .u64 x), (.int .u64 y)].toArray w0 (fun v w' => Keep none_ w0 w' ∧ v = .tuple #[(.int .u64 (x * y / 18446744073709551616)), (.int .u64 (x * y % 18446744073709551616))]) := by
  have s0 : Stt A w0 none_ [] w0 := Stt.start hA none_
  refine Cal.intro (n := 51) Tryz.func123 rfl Tryz.ntmps123 rfl ?_
  refine XC.seq ?_
  refine XC.region ?_
  refine XS.vals' 2 [(4, .int .u64 0), (5, .int .u64 0)] (by kernel_rfl) ?_
  refine XS.done rfl (thn_norm ?_)
  refine XC.seq ?_
  refine XC.region ?_
  refine XS.vals' 1 [(14, .int .u64 x)] (by kernel_rfl) ?_
  refine XS.op rfl rfl (XO.name (k := .u64) (e := IntKind.u64.wrap ((BitVec.ofInt 64 x &&& BitVec.ofInt 64 4294967295).toNat : Int)) rfl (by decide) (by kernel_rfl) (fun x1 hx1 => ?_))
  refine XS.vals' 1 [(6, .int .u64 x1)] (by kernel_rfl) ?_
  refine XS.done rfl (thn_norm ?_)
  refine XC.seq ?_
  refine XC.region ?_
  refine XS.vals' 1 [(16, .int .u64 x)] (by kernel_rfl) ?_
  refine XS.op rfl rfl (XO.name (k := .u64) (e := Int.fdiv x 4294967296) rfl (by decide) (by kernel_rfl) (fun x2 hx2 => ?_))
  refine XS.vals' 1 [(7, .int .u64 x2)] (by kernel_rfl) ?_
  refine XS.done rfl (thn_norm ?_)
  refine XC.seq ?_
  refine XC.region ?_
  refine XS.vals' 1 [(18, .int .u64 y)] (by kernel_rfl) ?_
  refine XS.op rfl rfl (XO.name (k := .u64) (e := IntKind.u64.wrap ((BitVec.ofInt 64 y &&& BitVec.ofInt 64 4294967295).toNat : Int)) rfl (by decide) (by kernel_rfl) (fun x3 hx3 => ?_))
  refine XS.vals' 1 [(8, .int .u64 x3)] (by kernel_rfl) ?_
  refine XS.done rfl (thn_norm ?_)
  refine XC.seq ?_
  refine XC.region ?_
  refine XS.vals' 1 [(20, .int .u64 y)] (by kernel_rfl) ?_
  refine XS.op rfl rfl (XO.name (k := .u64) (e := Int.fdiv y 4294967296) rfl (by decide) (by kernel_rfl) (fun x4 hx4 => ?_))
  refine XS.vals' 1 [(9, .int .u64 x4)] (by kernel_rfl) ?_
  refine XS.done rfl (thn_norm ?_)
  refine XC.seq ?_
  refine XC.region ?_
  refine XS.vals' 2 [(22, .int .u64 x1), (23, .int .u64 x3)] (by kernel_rfl) ?_
  refine XS.op rfl rfl (XO.name (k := .u64) (e := IntKind.u64.wrap (x1 * x3)) rfl (by decide) (by kernel_rfl) (fun x5 hx5 => ?_))
  refine XS.vals' 1 [(10, .int .u64 x5)] (by kernel_rfl) ?_
  refine XS.done rfl (thn_norm ?_)
  refine XC.seq ?_
  refine XC.region ?_
  refine XS.vals' 2 [(25, .int .u64 x2), (26, .int .u64 x3)] (by kernel_rfl) ?_
  refine XS.op rfl rfl (XO.name (k := .u64) (e := IntKind.u64.wrap (x2 * x3)) rfl (by decide) (by kernel_rfl) (fun x6 hx6 => ?_))
  refine XS.vals' 1 [(28, .int .u64 x5)] (by kernel_rfl) ?_
  refine XS.op rfl rfl (XO.name (k := .u64) (e := Int.fdiv x5 4294967296) rfl (by decide) (by kernel_rfl) (fun x7 hx7 => ?_))
  refine XS.op rfl rfl (XO.name (k := .u64) (e := IntKind.u64.wrap (x6 + x7)) rfl (by decide) (by kernel_rfl) (fun x8 hx8 => ?_))
  refine XS.vals' 1 [(11, .int .u64 x8)] (by kernel_rfl) ?_
  refine XS.done rfl (thn_norm ?_)
  refine XC.seq ?_
  refine XC.region ?_
  refine XS.vals' 1 [(31, .int .u64 x8)] (by kernel_rfl) ?_
  refine XS.op rfl rfl (XO.name (k := .u64) (e := IntKind.u64.wrap ((BitVec.ofInt 64 x8 &&& BitVec.ofInt 64 4294967295).toNat : Int)) rfl (by decide) (by kernel_rfl) (fun x9 hx9 => ?_))
  refine XS.vals' 1 [(12, .int .u64 x9)] (by kernel_rfl) ?_
  refine XS.done rfl (thn_norm ?_)
  refine XC.seq ?_
  refine XC.region ?_
  refine XS.vals' 1 [(33, .int .u64 x8)] (by kernel_rfl) ?_
  refine XS.op rfl rfl (XO.name (k := .u64) (e := Int.fdiv x8 4294967296) rfl (by decide) (by kernel_rfl) (fun x10 hx10 => ?_))
  refine XS.vals' 1 [(13, .int .u64 x10)] (by kernel_rfl) ?_
  refine XS.done rfl (thn_norm ?_)
  refine XC.seq ?_
  refine XC.region ?_
  refine XS.vals' 3 [(35, .int .u64 x9), (36, .int .u64 x1), (37, .int .u64 x4)] (by kernel_rfl) ?_
  refine XS.op rfl rfl (XO.name (k := .u64) (e := IntKind.u64.wrap (x1 * x4)) rfl (by decide) (by kernel_rfl) (fun x11 hx11 => ?_))
  refine XS.op rfl rfl (XO.name (k := .u64) (e := IntKind.u64.wrap (x9 + x11)) rfl (by decide) (by kernel_rfl) (fun x12 hx12 => ?_))
  refine XS.vals' 1 [(12, .int .u64 x12)] (by kernel_rfl) ?_
  refine XS.done rfl (thn_norm ?_)
  refine XC.seq ?_
  refine XC.region ?_
  refine XS.vals' 2 [(40, .int .u64 x2), (41, .int .u64 x4)] (by kernel_rfl) ?_
  refine XS.op rfl rfl (XO.name (k := .u64) (e := IntKind.u64.wrap (x2 * x4)) rfl (by decide) (by kernel_rfl) (fun x13 hx13 => ?_))
  refine XS.vals' 1 [(43, .int .u64 x10)] (by kernel_rfl) ?_
  refine XS.op rfl rfl (XO.name (k := .u64) (e := IntKind.u64.wrap (x13 + x10)) rfl (by decide) (by kernel_rfl) (fun x14 hx14 => ?_))
  refine XS.vals' 1 [(45, .int .u64 x12)] (by kernel_rfl) ?_
  refine XS.op rfl rfl (XO.name (k := .u64) (e := Int.fdiv x12 4294967296) rfl (by decide) (by kernel_rfl) (fun x15 hx15 => ?_))
  refine XS.op rfl rfl (XO.name (k := .u64) (e := IntKind.u64.wrap (x14 + x15)) rfl (by decide) (by kernel_rfl) (fun x16 hx16 => ?_))
  refine XS.vals' 1 [(4, .int .u64 x16)] (by kernel_rfl) ?_
  refine XS.done rfl (thn_norm ?_)
  refine XC.seq ?_
  refine XC.region ?_
  refine XS.vals' 2 [(48, .int .u64 x), (49, .int .u64 y)] (by kernel_rfl) ?_
  refine XS.op rfl rfl (XO.name (k := .u64) (e := IntKind.u64.wrap (x * y)) rfl (by decide) (by kernel_rfl) (fun x17 hx17 => ?_))
  refine XS.vals' 1 [(5, .int .u64 x17)] (by kernel_rfl) ?_
  refine XS.done rfl (thn_norm ?_)
  refine XC.ret ?_
  refine ⟨Or.inr rfl, .tuple #[(.int .u64 x16), (.int .u64 x17)], fun a_ ha_ => results_tt rfl ha_ rfl rfl, s0.keep, ?_⟩
  rw [and32 x hx.1 hx.2] at hx1
  rw [fdiv32] at hx2 hx4 hx7 hx10 hx15
  rw [and32 y hy.1 hy.2] at hx3
  rw [wrapu] at hx5 hx6 hx8 hx11 hx12 hx13 hx14 hx16 hx17
  rw [and32 _ (by omega) (by omega)] at hx9
  rw [← hx17, ← mul64_spec x y x1 x2 x3 x4 x5 x8 x9 x10 x12 x16 0 (x1 * x3) (x2 * x3) (x1 * x4) (x2 * x4) x14 hx hy hx1 hx2 hx3 hx4 rfl rfl rfl rfl hx5 (by rw [hx8, hx6, hx7]) hx9 hx10 (by rw [hx12, hx11]) (by rw [hx14, hx13]) (by rw [hx16, hx15])]

theorem limb_Mul_ok (A : Nat → Prop) (w0 : World) (hA : ∀ b, w0.heap.size ≤ b → A b) (x : Int) (y : Int)  : Cal Tryz.prog 86 [(.agg #[.int .i64 (hi128 x), .int .u64 (lo128 x)]), (.agg #[.int .i64 (hi128 y), .int .u64 (lo128 y)])].toArray w0 (fun v w' => Keep none_ w0 w' ∧ v = .agg #[.int .i64 (hi128 (x * y)), .int .u64 (lo128 (x * y))]) := by
  have s0 : Stt A w0 none_ [] w0 := Stt.start hA none_
  refine Cal.intro (n := 34) Tryz.func86 rfl Tryz.ntmps86 rfl ?_
  refine XC.seq ?_
  refine XC.region ?_
  refine XS.op rfl rfl (XO.new (cs := [.int .i64 (hi128 x), .int .u64 (lo128 x)]) (T := 55) s0 rfl (by decide) (fun _ => by kernel_rfl) (fun b1 w2 s2 ev2 kp2 ybb1 => ?_))
  refine XS.op rfl rfl (XO.new (cs := [.int .i64 (hi128 y), .int .u64 (lo128 y)]) (T := 55) s2 rfl (by decide) (fun _ => by kernel_rfl) (fun b3 w4 s4 ev4 kp4 ybb3 => ?_))
  refine XS.op rfl rfl (XO.new (cs := [.int .i64 0, .int .u64 0]) (T := 55) s4 rfl (by decide) (fun _ => by kernel_rfl) (fun b5 w6 s6 ev6 kp6 ybb5 => ?_))
  refine XS.done rfl (thn_norm ?_)
  refine XC.seq ?_
  refine XC.region ?_
  refine XS.vals' 1 [(8, .pointer (some ⟨b1, 1, none⟩))] (by kernel_rfl) ?_
  refine XS.op rfl rfl (XO.loadS (i := 0) (v := .int .u64 (lo128 x)) (g := false) (m := 1) s6 rfl rfl rfl (by decide) rfl (by kernel_rfl) (by kernel_rfl) rfl rfl rfl ?_)
  refine XS.vals' 1 [(10, .pointer (some ⟨b3, 1, none⟩))] (by kernel_rfl) ?_
  refine XS.op rfl rfl (XO.loadS (i := 1) (v := .int .u64 (lo128 y)) (g := false) (m := 1) s6 rfl rfl rfl (by decide) rfl (by kernel_rfl) (by kernel_rfl) rfl rfl rfl ?_)
  refine XS.op rfl rfl (XO.callS (f := 123) (args := [(.int .u64 (lo128 x)), (.int .u64 (lo128 y))].toArray) s6 rfl (by decide) (fun _ => by kernel_rfl) (math_bits_Mul64_ok (av A _) _ s6.av_fresh (lo128 x) (lo128 y) (by first | exact lo128_range _ | omega) (by first | exact lo128_range _ | omega)) (fun _ w7 s7 ev7 kp7 hv_ => ?_))
  obtain rfl := hv_
  refine XS.vals' 5 [(7, .tuple #[.int .u64 ((lo128 x) * (lo128 y) / 18446744073709551616), .int .u64 ((lo128 x) * (lo128 y) % 18446744073709551616)]), (13, .int .u64 ((lo128 x) * (lo128 y) / 18446744073709551616)), (14, .int .u64 ((lo128 x) * (lo128 y) % 18446744073709551616)), (5, .int .u64 ((lo128 x) * (lo128 y) / 18446744073709551616)), (6, .int .u64 ((lo128 x) * (lo128 y) % 18446744073709551616))] (by kernel_rfl) ?_
  refine XS.done rfl (thn_norm ?_)
  refine XC.seq ?_
  refine XC.region ?_
  refine XS.vals' 2 [(15, .int .u64 ((lo128 x) * (lo128 y) / 18446744073709551616)), (16, .pointer (some ⟨b1, 0, none⟩))] (by kernel_rfl) ?_
  refine XS.op rfl rfl (XO.loadS (i := 0) (v := .int .i64 (hi128 x)) (g := false) (m := 1) s7 rfl rfl rfl (by decide) rfl (by kernel_rfl) (by kernel_rfl) rfl rfl rfl ?_)
  refine XS.op rfl rfl (XO.name (k := .u64) (e := IntKind.u64.wrap (hi128 x)) rfl (by decide) (by kernel_rfl) (fun x8 hx8 => ?_))
  refine XS.vals' 1 [(19, .pointer (some ⟨b3, 1, none⟩))] (by kernel_rfl) ?_
  refine XS.op rfl rfl (XO.loadS (i := 1) (v := .int .u64 (lo128 y)) (g := false) (m := 1) s7 rfl rfl rfl (by decide) rfl (by kernel_rfl) (by kernel_rfl) rfl rfl rfl ?_)
  refine XS.op rfl rfl (XO.name (k := .u64) (e := IntKind.u64.wrap (x8 * (lo128 y))) rfl (by decide) (by kernel_rfl) (fun x9 hx9 => ?_))
  refine XS.vals' 1 [(22, .pointer (some ⟨b1, 1, none⟩))] (by kernel_rfl) ?_
  refine XS.op rfl rfl (XO.loadS (i := 0) (v := .int .u64 (lo128 x)) (g := false) (m := 1) s7 rfl rfl rfl (by decide) rfl (by kernel_rfl) (by kernel_rfl) rfl rfl rfl ?_)
  refine XS.vals' 1 [(24, .pointer (some ⟨b3, 0, none⟩))] (by kernel_rfl) ?_
  refine XS.op rfl rfl (XO.loadS (i := 1) (v := .int .i64 (hi128 y)) (g := false) (m := 1) s7 rfl rfl rfl (by decide) rfl (by kernel_rfl) (by kernel_rfl) rfl rfl rfl ?_)
  refine XS.op rfl rfl (XO.name (k := .u64) (e := IntKind.u64.wrap (hi128 y)) rfl (by decide) (by kernel_rfl) (fun x10 hx10 => ?_))
  refine XS.op rfl rfl (XO.name (k := .u64) (e := IntKind.u64.wrap ((lo128 x) * x10)) rfl (by decide) (by kernel_rfl) (fun x11 hx11 => ?_))
  refine XS.op rfl rfl (XO.name (k := .u64) (e := IntKind.u64.wrap (x9 + x11)) rfl (by decide) (by kernel_rfl) (fun x12 hx12 => ?_))
  refine XS.op rfl rfl (XO.name (k := .u64) (e := IntKind.u64.wrap (((lo128 x) * (lo128 y) / 18446744073709551616) + x12)) rfl (by decide) (by kernel_rfl) (fun x13 hx13 => ?_))
  refine XS.vals' 1 [(5, .int .u64 x13)] (by kernel_rfl) ?_
  refine XS.done rfl (thn_norm ?_)
  refine XC.seq ?_
  refine XC.region ?_
  refine XS.vals' 1 [(30, .int .u64 x13)] (by kernel_rfl) ?_
  refine XS.op rfl rfl (XO.name (k := .i64) (e := IntKind.i64.wrap x13) rfl (by decide) (by kernel_rfl) (fun x14 hx14 => ?_))
  refine XS.vals' 2 [(32, .int .u64 ((lo128 x) * (lo128 y) % 18446744073709551616)), (33, .agg #[.int .i64 x14, .int .u64 ((lo128 x) * (lo128 y) % 18446744073709551616)])] (by kernel_rfl) ?_
  refine XS.op rfl rfl (XO.storeS (i := 2) (v := .agg #[.int .i64 x14, .int .u64 ((lo128 x) * (lo128 y) % 18446744073709551616)]) (m := 2) (cs' := [.int .i64 x14, .int .u64 ((lo128 x) * (lo128 y) % 18446744073709551616)]) s7 rfl rfl rfl rfl rfl (by kernel_rfl) rfl rfl rfl rfl (fun w15 s15 ev15 kp15 => ?_))
  refine XS.done rfl (thn_norm ?_)
  refine XC.ret ?_
  refine ⟨Or.inr rfl, .agg #[.int .i64 x14, .int .u64 ((lo128 x) * (lo128 y) % 18446744073709551616)], fun a_ ha_ => results_c rfl (res_cell (b := b5) (cs := [.int .i64 x14, .int .u64 ((lo128 x) * (lo128 y) % 18446744073709551616)]) (g := true) (sz := 2) (v := .agg #[.int .i64 x14, .int .u64 ((lo128 x) * (lo128 y) % 18446744073709551616)]) ha_ rfl (s15.at_ (i := 2) rfl) (by kernel_rfl) (by kernel_rfl) rfl rfl rfl), s15.keep, ?_⟩
  rw [wrapu_hi] at hx8 hx10
  rw [wrapu] at hx9 hx11 hx12 hx13
  obtain ⟨e1, e2⟩ := limb_mul x y x8 x10 _ _ rfl hx8 hx10 rfl
  rw [hx14, hx13, hx12, hx9, hx11, hi_of_mod _ _ e1, e2]

theorem limb_Prod_ok (A : Nat → Prop) (w0 : World) (hA : ∀ b, w0.heap.size ≤ b → A b) (n : Int) (m : Int) (hn : -9223372036854775808 ≤ n ∧ n ≤ 9223372036854775807) (hm : -9223372036854775808 ≤ m ∧ m ≤ 9223372036854775807)  : Cal Tryz.prog 51 [(.int .i64 n), (.int .i64 m)].toArray w0 (fun v w' => Keep none_ w0 w' ∧ v = .agg #[.int .i64 (hi128 (n * m)), .int .u64 (lo128 (n * m))]) := by
  have s0 : Stt A w0 none_ [] w0 := Stt.start hA none_
  refine Cal.intro (n := 10) Tryz.func51 rfl Tryz.ntmps51 rfl ?_
  refine XC.seq ?_
  refine XC.region ?_
  refine XS.op rfl rfl (XO.new (cs := [.int .i64 0, .int .u64 0]) (T := 55) s0 rfl (by decide) (fun _ => by kernel_rfl) (fun b1 w2 s2 ev2 kp2 ybb1 => ?_))
  refine XS.done rfl (thn_norm ?_)
  refine XC.seq ?_
  refine XC.region ?_
  refine XS.vals' 1 [(5, .int .i64 n)] (by kernel_rfl) ?_
  refine XS.op rfl rfl (XO.callS (f := 87) (args := [(.int .i64 n)].toArray) s2 rfl (by decide) (fun _ => by kernel_rfl) (limb_Of_ok (av A _) _ s2.av_fresh n (by omega)) (fun _ w3 s3 ev3 kp3 hv_ => ?_))
  obtain rfl := hv_
  refine XS.vals' 1 [(7, .int .i64 m)] (by kernel_rfl) ?_
  refine XS.op rfl rfl (XO.callS (f := 87) (args := [(.int .i64 m)].toArray) s3 rfl (by decide) (fun _ => by kernel_rfl) (limb_Of_ok (av A _) _ s3.av_fresh m (by omega)) (fun _ w4 s4 ev4 kp4 hv_ => ?_))
  obtain rfl := hv_
  refine XS.op rfl rfl (XO.callS (f := 86) (args := [(.agg #[.int .i64 (hi128 n), .int .u64 (lo128 n)]), (.agg #[.int .i64 (hi128 m), .int .u64 (lo128 m)])].toArray) s4 rfl (by decide) (fun _ => by kernel_rfl) (limb_Mul_ok (av A _) _ s4.av_fresh n m ) (fun _ w5 s5 ev5 kp5 hv_ => ?_))
  obtain rfl := hv_
  refine XS.op rfl rfl (XO.storeS (i := 0) (v := .agg #[.int .i64 (hi128 (n * m)), .int .u64 (lo128 (n * m))]) (m := 2) (cs' := [.int .i64 (hi128 (n * m)), .int .u64 (lo128 (n * m))]) s5 rfl rfl rfl rfl rfl (by kernel_rfl) rfl rfl rfl rfl (fun w6 s6 ev6 kp6 => ?_))
  refine XS.done rfl (thn_norm ?_)
  refine XC.ret ?_
  refine ⟨Or.inr rfl, .agg #[.int .i64 (hi128 (n * m)), .int .u64 (lo128 (n * m))], fun a_ ha_ => results_c rfl (res_cell (b := b1) (cs := [.int .i64 (hi128 (n * m)), .int .u64 (lo128 (n * m))]) (g := true) (sz := 2) (v := .agg #[.int .i64 (hi128 (n * m)), .int .u64 (lo128 (n * m))]) ha_ rfl (s6.at_ (i := 0) rfl) (by kernel_rfl) (by kernel_rfl) rfl rfl rfl), s6.keep, ?_⟩
  rfl

theorem limb_Cmp_ok (A : Nat → Prop) (w0 : World) (hA : ∀ b, w0.heap.size ≤ b → A b) (x : Int) (y : Int)  : Cal Tryz.prog 84 [(.agg #[.int .i64 (hi128 x), .int .u64 (lo128 x)]), (.agg #[.int .i64 (hi128 y), .int .u64 (lo128 y)])].toArray w0 (fun v w' => Keep none_ w0 w' ∧ v = .int .i64 (cmp128 x y)) := by
  have s0 : Stt A w0 none_ [] w0 := Stt.start hA none_
  refine Cal.intro (n := 29) Tryz.func84 rfl Tryz.ntmps84 rfl ?_
  refine XC.seq ?_
  refine XC.region ?_
  refine XS.op rfl rfl (XO.new (cs := [.int .i64 (hi128 x), .int .u64 (lo128 x)]) (T := 55) s0 rfl (by decide) (fun _ => by kernel_rfl) (fun b1 w2 s2 ev2 kp2 ybb1 => ?_))
  refine XS.op rfl rfl (XO.new (cs := [.int .i64 (hi128 y), .int .u64 (lo128 y)]) (T := 55) s2 rfl (by decide) (fun _ => by kernel_rfl) (fun b3 w4 s4 ev4 kp4 ybb3 => ?_))
  refine XS.vals' 1 [(4, .int .i64 0)] (by kernel_rfl) ?_
  refine XS.done rfl (thn_norm ?_)
  refine XC.seq ?_
  refine XC.block ?_
  refine XC.seq ?_
  refine XC.region ?_
  refine XS.vals' 1 [(6, .pointer (some ⟨b1, 0, none⟩))] (by kernel_rfl) ?_
  refine XS.op rfl rfl (XO.loadS (i := 0) (v := .int .i64 (hi128 x)) (g := false) (m := 1) s4 rfl rfl rfl (by decide) rfl (by kernel_rfl) (by kernel_rfl) rfl rfl rfl ?_)
  refine XS.vals' 1 [(8, .pointer (some ⟨b3, 0, none⟩))] (by kernel_rfl) ?_
  refine XS.op rfl rfl (XO.loadS (i := 1) (v := .int .i64 (hi128 y)) (g := false) (m := 1) s4 rfl rfl rfl (by decide) rfl (by kernel_rfl) (by kernel_rfl) rfl rfl rfl ?_)
  refine XS.vals' 2 [(10, .bool (decide ((hi128 x) < (hi128 y)))), (11, .bool (decide ((hi128 x) < (hi128 y))))] (by kernel_rfl) ?_
  refine XS.onD 11 ((hi128 x) < (hi128 y)) rfl (fun hg5 => ?_) (fun hg5 => ?_)
  · skip
    refine XS.vals' 14 [(12, undef), (13, undef), (14, undef), (15, undef), (16, undef), (17, undef), (18, undef), (19, undef), (20, undef), (21, undef), (22, undef), (23, undef), (24, .bool true), (5, .bool true)] (by kernel_rfl) ?_
    refine XS.done rfl (thn_norm ?_)
    refine XC.cond_t rfl ?_
    refine XC.seq ?_
    refine XC.region ?_
    refine XS.vals' 1 [(4, .int .i64 (-1))] (by kernel_rfl) ?_
    refine XS.done rfl (thn_norm ?_)
    refine XC.ret (inBlk_ret (thn_ret ?_))
    refine ⟨Or.inr rfl, .int .i64 (-1), fun a_ ha_ => results_t rfl ha_ rfl, s4.keep, ?_⟩
    refine congrArg (Value.int .i64) ?_
    unfold cmp128; (repeat' split) <;> first | rfl | (exfalso; omega)
  · skip
    refine XS.vals' 1 [(12, .pointer (some ⟨b1, 0, none⟩))] (by kernel_rfl) ?_
    refine XS.op_g rfl rfl rfl (XO.loadS (i := 0) (v := .int .i64 (hi128 x)) (g := false) (m := 1) s4 rfl rfl rfl (by decide) rfl (by kernel_rfl) (by kernel_rfl) rfl rfl rfl ?_)
    refine XS.vals' 1 [(14, .pointer (some ⟨b3, 0, none⟩))] (by kernel_rfl) ?_
    refine XS.op_g rfl rfl rfl (XO.loadS (i := 1) (v := .int .i64 (hi128 y)) (g := false) (m := 1) s4 rfl rfl rfl (by decide) rfl (by kernel_rfl) (by kernel_rfl) rfl rfl rfl ?_)
    refine XS.vals' 2 [(16, .bool (decide ((hi128 x) = (hi128 y)))), (17, .bool (decide ((hi128 x) = (hi128 y))))] (by kernel_rfl) ?_
    refine XS.onD 17 ((hi128 x) = (hi128 y)) rfl (fun hg6 => ?_) (fun hg6 => ?_)
    · skip
      refine XS.vals' 1 [(18, .pointer (some ⟨b1, 1, none⟩))] (by kernel_rfl) ?_
      refine XS.op_g rfl rfl rfl (XO.loadS (i := 0) (v := .int .u64 (lo128 x)) (g := false) (m := 1) s4 rfl rfl rfl (by decide) rfl (by kernel_rfl) (by kernel_rfl) rfl rfl rfl ?_)
      refine XS.vals' 1 [(20, .pointer (some ⟨b3, 1, none⟩))] (by kernel_rfl) ?_
      refine XS.op_g rfl rfl rfl (XO.loadS (i := 1) (v := .int .u64 (lo128 y)) (g := false) (m := 1) s4 rfl rfl rfl (by decide) rfl (by kernel_rfl) (by kernel_rfl) rfl rfl rfl ?_)
      refine XS.vals' 4 [(22, .bool (decide ((lo128 x) < (lo128 y)))), (23, .bool (decide ((lo128 x) < (lo128 y)))), (24, .bool (decide ((lo128 x) < (lo128 y)))), (5, .bool (decide ((lo128 x) < (lo128 y))))] (by kernel_rfl) ?_
      refine XS.done rfl (thn_norm ?_)
      refine XC.cond_d ((lo128 x) < (lo128 y)) rfl (fun hc7 => ?_) (fun hc7 => ?_)
      · skip
        refine XC.seq ?_
        refine XC.region ?_
        refine XS.vals' 1 [(4, .int .i64 (-1))] (by kernel_rfl) ?_
        refine XS.done rfl (thn_norm ?_)
        refine XC.ret (inBlk_ret (thn_ret ?_))
        refine ⟨Or.inr rfl, .int .i64 (-1), fun a_ ha_ => results_t rfl ha_ rfl, s4.keep, ?_⟩
        refine congrArg (Value.int .i64) ?_
        unfold cmp128; (repeat' split) <;> first | rfl | (exfalso; omega)
      · skip
        refine XC.seq ?_
        refine XC.region ?_
        refine XS.op rfl rfl (XO.loadS (i := 0) (v := .agg #[.int .i64 (hi128 x), .int .u64 (lo128 x)]) (g := true) (m := 2) s4 rfl rfl rfl (by decide) rfl (by kernel_rfl) (by kernel_rfl) rfl rfl rfl ?_)
        refine XS.op rfl rfl (XO.loadS (i := 1) (v := .agg #[.int .i64 (hi128 y), .int .u64 (lo128 y)]) (g := true) (m := 2) s4 rfl rfl rfl (by decide) rfl (by kernel_rfl) (by kernel_rfl) rfl rfl rfl ?_)
        refine XS.op rfl rfl (XO.eqlP false (a := .agg #[.int .i64 (hi128 x), .int .u64 (lo128 x)]) (b := .agg #[.int .i64 (hi128 y), .int .u64 (lo128 y)]) (r' := decide ((hi128 x) = (hi128 y) ∧ (lo128 x) = (lo128 y))) (Eql.struct rfl (by kernel_rfl) (EqlF.cons rfl (a := .int .i64 (hi128 x)) (b := .int .i64 (hi128 y)) (by kernel_rfl) (by kernel_rfl) (Eql.int rfl) (EqlF.cons rfl (a := .int .u64 (lo128 x)) (b := .int .u64 (lo128 y)) (by kernel_rfl) (by kernel_rfl) (Eql.int rfl) EqlF.nil))) (by rw [Bool.eq_iff_iff]; simp [ng]) rfl rfl (by decide) rfl rfl (by kernel_rfl) (fun _ => by kernel_rfl) ?_)
        refine XS.vals' 1 [(25, .bool (decide ((hi128 x) = (hi128 y) ∧ (lo128 x) = (lo128 y))))] (by kernel_rfl) ?_
        refine XS.done rfl (thn_norm ?_)
        refine XC.cond_d ((hi128 x) = (hi128 y) ∧ (lo128 x) = (lo128 y)) rfl (fun hc8 => ?_) (fun hc8 => ?_)
        · skip
          refine XC.seq ?_
          refine XC.region ?_
          refine XS.vals' 1 [(4, .int .i64 0)] (by kernel_rfl) ?_
          refine XS.done rfl (thn_norm ?_)
          refine XC.ret (inBlk_ret (thn_ret ?_))
          refine ⟨Or.inr rfl, .int .i64 0, fun a_ ha_ => results_t rfl ha_ rfl, s4.keep, ?_⟩
          refine congrArg (Value.int .i64) ?_
          unfold cmp128; (repeat' split) <;> first | rfl | (exfalso; omega)
        · skip
          refine XC.skip (inBlk_norm (thn_norm ?_))
          refine XC.seq ?_
          refine XC.region ?_
          refine XS.vals' 1 [(4, .int .i64 1)] (by kernel_rfl) ?_
          refine XS.done rfl (thn_norm ?_)
          refine XC.ret ?_
          refine ⟨Or.inr rfl, .int .i64 1, fun a_ ha_ => results_t rfl ha_ rfl, s4.keep, ?_⟩
          refine congrArg (Value.int .i64) ?_
          unfold cmp128; (repeat' split) <;> first | rfl | (exfalso; omega)
    · skip
      refine XS.vals' 8 [(18, undef), (19, undef), (20, undef), (21, undef), (22, undef), (23, .bool false), (24, .bool false), (5, .bool false)] (by kernel_rfl) ?_
      refine XS.done rfl (thn_norm ?_)
      refine XC.cond_f rfl ?_
      refine XC.seq ?_
      refine XC.region ?_
      refine XS.op rfl rfl (XO.loadS (i := 0) (v := .agg #[.int .i64 (hi128 x), .int .u64 (lo128 x)]) (g := true) (m := 2) s4 rfl rfl rfl (by decide) rfl (by kernel_rfl) (by kernel_rfl) rfl rfl rfl ?_)
      refine XS.op rfl rfl (XO.loadS (i := 1) (v := .agg #[.int .i64 (hi128 y), .int .u64 (lo128 y)]) (g := true) (m := 2) s4 rfl rfl rfl (by decide) rfl (by kernel_rfl) (by kernel_rfl) rfl rfl rfl ?_)
      refine XS.op rfl rfl (XO.eqlP false (a := .agg #[.int .i64 (hi128 x), .int .u64 (lo128 x)]) (b := .agg #[.int .i64 (hi128 y), .int .u64 (lo128 y)]) (r' := decide ((hi128 x) = (hi128 y) ∧ (lo128 x) = (lo128 y))) (Eql.struct rfl (by kernel_rfl) (EqlF.cons rfl (a := .int .i64 (hi128 x)) (b := .int .i64 (hi128 y)) (by kernel_rfl) (by kernel_rfl) (Eql.int rfl) (EqlF.cons rfl (a := .int .u64 (lo128 x)) (b := .int .u64 (lo128 y)) (by kernel_rfl) (by kernel_rfl) (Eql.int rfl) EqlF.nil))) (by rw [Bool.eq_iff_iff]; simp [ng]) rfl rfl (by decide) rfl rfl (by kernel_rfl) (fun _ => by kernel_rfl) ?_)
      refine XS.vals' 1 [(25, .bool (decide ((hi128 x) = (hi128 y) ∧ (lo128 x) = (lo128 y))))] (by kernel_rfl) ?_
      refine XS.done rfl (thn_norm ?_)
      refine XC.cond_d ((hi128 x) = (hi128 y) ∧ (lo128 x) = (lo128 y)) rfl (fun hc9 => ?_) (fun hc9 => ?_)
      · skip
        refine XC.seq ?_
        refine XC.region ?_
        refine XS.vals' 1 [(4, .int .i64 0)] (by kernel_rfl) ?_
        refine XS.done rfl (thn_norm ?_)
        refine XC.ret (inBlk_ret (thn_ret ?_))
        refine ⟨Or.inr rfl, .int .i64 0, fun a_ ha_ => results_t rfl ha_ rfl, s4.keep, ?_⟩
        refine congrArg (Value.int .i64) ?_
        unfold cmp128; (repeat' split) <;> first | rfl | (exfalso; omega)
      · skip
        refine XC.skip (inBlk_norm (thn_norm ?_))
        refine XC.seq ?_
        refine XC.region ?_
        refine XS.vals' 1 [(4, .int .i64 1)] (by kernel_rfl) ?_
        refine XS.done rfl (thn_norm ?_)
        refine XC.ret ?_
        refine ⟨Or.inr rfl, .int .i64 1, fun a_ ha_ => results_t rfl ha_ rfl, s4.keep, ?_⟩
        refine congrArg (Value.int .i64) ?_
        unfold cmp128; (repeat' split) <;> first | rfl | (exfalso; omega)

theorem limb_Sign_ok (A : Nat → Prop) (w0 : World) (hA : ∀ b, w0.heap.size ≤ b → A b) (x : Int)  : Cal Tryz.prog 45 [(.agg #[.int .i64 (hi128 x), .int .u64 (lo128 x)])].toArray w0 (fun v w' => Keep none_ w0 w' ∧ v = .int .i64 (cmp128 x 0)) := by
  have s0 : Stt A w0 none_ [] w0 := Stt.start hA none_
  refine Cal.intro (n := 6) Tryz.func45 rfl Tryz.ntmps45 rfl ?_
  refine XC.seq ?_
  refine XC.region ?_
  refine XS.op rfl rfl (XO.new (cs := [.int .i64 (hi128 x), .int .u64 (lo128 x)]) (T := 55) s0 rfl (by decide) (fun _ => by kernel_rfl) (fun b1 w2 s2 ev2 kp2 ybb1 => ?_))
  refine XS.vals' 1 [(2, .int .i64 0)] (by kernel_rfl) ?_
  refine XS.done rfl (thn_norm ?_)
  refine XC.seq ?_
  refine XC.region ?_
  refine XS.op rfl rfl (XO.loadS (i := 0) (v := .agg #[.int .i64 (hi128 x), .int .u64 (lo128 x)]) (g := true) (m := 2) s2 rfl rfl rfl (by decide) rfl (by kernel_rfl) (by kernel_rfl) rfl rfl rfl ?_)
  refine XS.vals' 1 [(4, .agg #[.int .i64 0, .int .u64 0])] (by kernel_rfl) ?_
  refine XS.op rfl rfl (XO.callS (f := 84) (args := [(.agg #[.int .i64 (hi128 x), .int .u64 (lo128 x)]), (.agg #[.int .i64 0, .int .u64 0])].toArray) s2 rfl (by decide) (fun _ => by kernel_rfl) (limb_Cmp_ok (av A _) _ s2.av_fresh x 0 ) (fun _ w3 s3 ev3 kp3 hv_ => ?_))
  obtain rfl := hv_
  refine XS.vals' 1 [(2, .int .i64 (cmp128 x 0))] (by kernel_rfl) ?_
  refine XS.done rfl (thn_norm ?_)
  refine XC.ret ?_
  refine ⟨Or.inr rfl, .int .i64 (cmp128 x 0), fun a_ ha_ => results_t rfl ha_ rfl, s3.keep, ?_⟩
  rfl

theorem orient_less_ok (A : Nat → Prop) (w0 : World) (hA : ∀ b, w0.heap.size ≤ b → A b) (a : Pt) (b : Pt) (ha : a.ok) (hb : b.ok)  : Cal Tryz.prog 54 [(.agg #[.int .i64 a.x, .int .i64 a.y, .int .i64 a.z]), (.agg #[.int .i64 b.x, .int .i64 b.y, .int .i64 b.z])].toArray w0 (fun v w' => Keep none_ w0 w' ∧ v = .agg #[.int .i64 ((Pt.sub a b).x), .int .i64 ((Pt.sub a b).y), .int .i64 ((Pt.sub a b).z)]) := by
  have s0 : Stt A w0 none_ [] w0 := Stt.start hA none_
  refine Cal.intro (n := 21) Tryz.func54 rfl Tryz.ntmps54 rfl ?_
  refine XC.seq ?_
  refine XC.region ?_
  refine XS.op rfl rfl (XO.new (cs := [.int .i64 a.x, .int .i64 a.y, .int .i64 a.z]) (T := 24) s0 rfl (by decide) (fun _ => by kernel_rfl) (fun b1 w2 s2 ev2 kp2 ybb1 => ?_))
  refine XS.op rfl rfl (XO.new (cs := [.int .i64 b.x, .int .i64 b.y, .int .i64 b.z]) (T := 24) s2 rfl (by decide) (fun _ => by kernel_rfl) (fun b3 w4 s4 ev4 kp4 ybb3 => ?_))
  refine XS.op rfl rfl (XO.new (cs := [.int .i64 0, .int .i64 0, .int .i64 0]) (T := 24) s4 rfl (by decide) (fun _ => by kernel_rfl) (fun b5 w6 s6 ev6 kp6 ybb5 => ?_))
  refine XS.done rfl (thn_norm ?_)
  refine XC.seq ?_
  refine XC.region ?_
  refine XS.vals' 1 [(5, .pointer (some ⟨b1, 0, none⟩))] (by kernel_rfl) ?_
  refine XS.op rfl rfl (XO.loadS (i := 0) (v := .int .i64 a.x) (g := false) (m := 1) s6 rfl rfl rfl (by decide) rfl (by kernel_rfl) (by kernel_rfl) rfl rfl rfl ?_)
  refine XS.vals' 1 [(7, .pointer (some ⟨b3, 0, none⟩))] (by kernel_rfl) ?_
  refine XS.op rfl rfl (XO.loadS (i := 1) (v := .int .i64 b.x) (g := false) (m := 1) s6 rfl rfl rfl (by decide) rfl (by kernel_rfl) (by kernel_rfl) rfl rfl rfl ?_)
  refine XS.op rfl rfl (XO.arith (k := .i64) (r := a.x - b.x) rfl (by decide) (fun _ => by kernel_rfl) (wrap_i64 (by unfold Pt.ok inC at *; omega)) ?_)
  refine XS.vals' 1 [(10, .pointer (some ⟨b1, 1, none⟩))] (by kernel_rfl) ?_
  refine XS.op rfl rfl (XO.loadS (i := 0) (v := .int .i64 a.y) (g := false) (m := 1) s6 rfl rfl rfl (by decide) rfl (by kernel_rfl) (by kernel_rfl) rfl rfl rfl ?_)
  refine XS.vals' 1 [(12, .pointer (some ⟨b3, 1, none⟩))] (by kernel_rfl) ?_
  refine XS.op rfl rfl (XO.loadS (i := 1) (v := .int .i64 b.y) (g := false) (m := 1) s6 rfl rfl rfl (by decide) rfl (by kernel_rfl) (by kernel_rfl) rfl rfl rfl ?_)
  refine XS.op rfl rfl (XO.arith (k := .i64) (r := a.y - b.y) rfl (by decide) (fun _ => by kernel_rfl) (wrap_i64 (by unfold Pt.ok inC at *; omega)) ?_)
  refine XS.vals' 1 [(15, .pointer (some ⟨b1, 2, none⟩))] (by kernel_rfl) ?_
  refine XS.op rfl rfl (XO.loadS (i := 0) (v := .int .i64 a.z) (g := false) (m := 1) s6 rfl rfl rfl (by decide) rfl (by kernel_rfl) (by kernel_rfl) rfl rfl rfl ?_)
  refine XS.vals' 1 [(17, .pointer (some ⟨b3, 2, none⟩))] (by kernel_rfl) ?_
  refine XS.op rfl rfl (XO.loadS (i := 1) (v := .int .i64 b.z) (g := false) (m := 1) s6 rfl rfl rfl (by decide) rfl (by kernel_rfl) (by kernel_rfl) rfl rfl rfl ?_)
  refine XS.op rfl rfl (XO.arith (k := .i64) (r := a.z - b.z) rfl (by decide) (fun _ => by kernel_rfl) (wrap_i64 (by unfold Pt.ok inC at *; omega)) ?_)
  refine XS.vals' 1 [(20, .agg #[.int .i64 (a.x - b.x), .int .i64 (a.y - b.y), .int .i64 (a.z - b.z)])] (by kernel_rfl) ?_
  refine XS.op rfl rfl (XO.storeS (i := 2) (v := .agg #[.int .i64 (a.x - b.x), .int .i64 (a.y - b.y), .int .i64 (a.z - b.z)]) (m := 3) (cs' := [.int .i64 (a.x - b.x), .int .i64 (a.y - b.y), .int .i64 (a.z - b.z)]) s6 rfl rfl rfl rfl rfl (by kernel_rfl) rfl rfl rfl rfl (fun w7 s7 ev7 kp7 => ?_))
  refine XS.done rfl (thn_norm ?_)
  refine XC.ret ?_
  refine ⟨Or.inr rfl, .agg #[.int .i64 (a.x - b.x), .int .i64 (a.y - b.y), .int .i64 (a.z - b.z)], fun a_ ha_ => results_c rfl (res_cell (b := b5) (cs := [.int .i64 (a.x - b.x), .int .i64 (a.y - b.y), .int .i64 (a.z - b.z)]) (g := true) (sz := 3) (v := .agg #[.int .i64 (a.x - b.x), .int .i64 (a.y - b.y), .int .i64 (a.z - b.z)]) ha_ rfl (s7.at_ (i := 2) rfl) (by kernel_rfl) (by kernel_rfl) rfl rfl rfl), s7.keep, ?_⟩
  rfl

theorem orient_row_ok (A : Nat → Prop) (w0 : World) (hA : ∀ b, w0.heap.size ≤ b → A b) (p : Pt)  : Cal Tryz.prog 125 [(.agg #[.int .i64 p.x, .int .i64 p.y, .int .i64 p.z])].toArray w0 (fun v w' => Keep none_ w0 w' ∧ v = .agg #[.int .i64 p.x, .int .i64 p.y, .int .i64 p.z]) := by
  have s0 : Stt A w0 none_ [] w0 := Stt.start hA none_
  refine Cal.intro (n := 10) Tryz.func125 rfl Tryz.ntmps125 rfl ?_
  refine XC.seq ?_
  refine XC.region ?_
  refine XS.op rfl rfl (XO.new (cs := [.int .i64 p.x, .int .i64 p.y, .int .i64 p.z]) (T := 24) s0 rfl (by decide) (fun _ => by kernel_rfl) (fun b1 w2 s2 ev2 kp2 ybb1 => ?_))
  refine XS.op rfl rfl (XO.new (cs := [.int .i64 0, .int .i64 0, .int .i64 0]) (T := 60) s2 rfl (by decide) (fun _ => by kernel_rfl) (fun b3 w4 s4 ev4 kp4 ybb3 => ?_))
  refine XS.done rfl (thn_norm ?_)
  refine XC.seq ?_
  refine XC.region ?_
  refine XS.vals' 1 [(3, .pointer (some ⟨b1, 0, none⟩))] (by kernel_rfl) ?_
  refine XS.op rfl rfl (XO.loadS (i := 0) (v := .int .i64 p.x) (g := false) (m := 1) s4 rfl rfl rfl (by decide) rfl (by kernel_rfl) (by kernel_rfl) rfl rfl rfl ?_)
  refine XS.vals' 1 [(5, .pointer (some ⟨b1, 1, none⟩))] (by kernel_rfl) ?_
  refine XS.op rfl rfl (XO.loadS (i := 0) (v := .int .i64 p.y) (g := false) (m := 1) s4 rfl rfl rfl (by decide) rfl (by kernel_rfl) (by kernel_rfl) rfl rfl rfl ?_)
  refine XS.vals' 1 [(7, .pointer (some ⟨b1, 2, none⟩))] (by kernel_rfl) ?_
  refine XS.op rfl rfl (XO.loadS (i := 0) (v := .int .i64 p.z) (g := false) (m := 1) s4 rfl rfl rfl (by decide) rfl (by kernel_rfl) (by kernel_rfl) rfl rfl rfl ?_)
  refine XS.vals' 1 [(9, .agg #[.int .i64 p.x, .int .i64 p.y, .int .i64 p.z])] (by kernel_rfl) ?_
  refine XS.op rfl rfl (XO.storeS (i := 1) (v := .agg #[.int .i64 p.x, .int .i64 p.y, .int .i64 p.z]) (m := 3) (cs' := [.int .i64 p.x, .int .i64 p.y, .int .i64 p.z]) s4 rfl rfl rfl rfl rfl (by kernel_rfl) rfl rfl rfl rfl (fun w5 s5 ev5 kp5 => ?_))
  refine XS.done rfl (thn_norm ?_)
  refine XC.ret ?_
  refine ⟨Or.inr rfl, .agg #[.int .i64 p.x, .int .i64 p.y, .int .i64 p.z], fun a_ ha_ => results_c rfl (res_cell (b := b3) (cs := [.int .i64 p.x, .int .i64 p.y, .int .i64 p.z]) (g := true) (sz := 3) (v := .agg #[.int .i64 p.x, .int .i64 p.y, .int .i64 p.z]) ha_ rfl (s5.at_ (i := 1) rfl) (by kernel_rfl) (by kernel_rfl) rfl rfl rfl), s5.keep, ?_⟩
  rfl

theorem orient_minor_ok (A : Nat → Prop) (w0 : World) (hA : ∀ b, w0.heap.size ≤ b → A b) (a : Int) (b : Int) (c : Int) (d : Int) (ha : -9223372036854775808 ≤ a ∧ a ≤ 9223372036854775807) (hb : -9223372036854775808 ≤ b ∧ b ≤ 9223372036854775807) (hc : -9223372036854775808 ≤ c ∧ c ≤ 9223372036854775807) (hd : -9223372036854775808 ≤ d ∧ d ≤ 9223372036854775807)  : Cal Tryz.prog 55 [(.int .i64 a), (.int .i64 b), (.int .i64 c), (.int .i64 d)].toArray w0 (fun v w' => Keep none_ w0 w' ∧ v = .agg #[.int .i64 (hi128 (a * d - b * c)), .int .u64 (lo128 (a * d - b * c))]) := by
  have s0 : Stt A w0 none_ [] w0 := Stt.start hA none_
  refine Cal.intro (n := 16) Tryz.func55 rfl Tryz.ntmps55 rfl ?_
  refine XC.seq ?_
  refine XC.region ?_
  refine XS.op rfl rfl (XO.new (cs := [.int .i64 0, .int .u64 0]) (T := 55) s0 rfl (by decide) (fun _ => by kernel_rfl) (fun b1 w2 s2 ev2 kp2 ybb1 => ?_))
  refine XS.done rfl (thn_norm ?_)
  refine XC.seq ?_
  refine XC.region ?_
  refine XS.vals' 2 [(9, .int .i64 a), (10, .int .i64 d)] (by kernel_rfl) ?_
  refine XS.op rfl rfl (XO.callS (f := 51) (args := [(.int .i64 a), (.int .i64 d)].toArray) s2 rfl (by decide) (fun _ => by kernel_rfl) (limb_Prod_ok (av A _) _ s2.av_fresh a d (by omega) (by omega)) (fun _ w3 s3 ev3 kp3 hv_ => ?_))
  obtain rfl := hv_
  refine XS.vals' 2 [(12, .int .i64 b), (13, .int .i64 c)] (by kernel_rfl) ?_
  refine XS.op rfl rfl (XO.callS (f := 51) (args := [(.int .i64 b), (.int .i64 c)].toArray) s3 rfl (by decide) (fun _ => by kernel_rfl) (limb_Prod_ok (av A _) _ s3.av_fresh b c (by omega) (by omega)) (fun _ w4 s4 ev4 kp4 hv_ => ?_))
  obtain rfl := hv_
  refine XS.op rfl rfl (XO.callS (f := 50) (args := [(.agg #[.int .i64 (hi128 (a * d)), .int .u64 (lo128 (a * d))]), (.agg #[.int .i64 (hi128 (b * c)), .int .u64 (lo128 (b * c))])].toArray) s4 rfl (by decide) (fun _ => by kernel_rfl) (limb_Sub_ok (av A _) _ s4.av_fresh (a * d) (b * c) ) (fun _ w5 s5 ev5 kp5 hv_ => ?_))
  obtain rfl := hv_
  refine XS.op rfl rfl (XO.storeS (i := 0) (v := .agg #[.int .i64 (hi128 ((a * d) - (b * c))), .int .u64 (lo128 ((a * d) - (b * c)))]) (m := 2) (cs' := [.int .i64 (hi128 ((a * d) - (b * c))), .int .u64 (lo128 ((a * d) - (b * c)))]) s5 rfl rfl rfl rfl rfl (by kernel_rfl) rfl rfl rfl rfl (fun w6 s6 ev6 kp6 => ?_))
  refine XS.done rfl (thn_norm ?_)
  refine XC.ret ?_
  refine ⟨Or.inr rfl, .agg #[.int .i64 (hi128 ((a * d) - (b * c))), .int .u64 (lo128 ((a * d) - (b * c)))], fun a_ ha_ => results_c rfl (res_cell (b := b1) (cs := [.int .i64 (hi128 ((a * d) - (b * c))), .int .u64 (lo128 ((a * d) - (b * c)))]) (g := true) (sz := 2) (v := .agg #[.int .i64 (hi128 ((a * d) - (b * c))), .int .u64 (lo128 ((a * d) - (b * c)))]) ha_ rfl (s6.at_ (i := 0) rfl) (by kernel_rfl) (by kernel_rfl) rfl rfl rfl), s6.keep, ?_⟩
  rfl

theorem orient_three_ok (A : Nat → Prop) (w0 : World) (hA : ∀ b, w0.heap.size ≤ b → A b) (p : Pt) (q : Pt) (r : Pt) (hp : p.dif) (hq : q.dif) (hr : r.dif)  : Cal Tryz.prog 124 [(.agg #[.int .i64 p.x, .int .i64 p.y, .int .i64 p.z]), (.agg #[.int .i64 q.x, .int .i64 q.y, .int .i64 q.z]), (.agg #[.int .i64 r.x, .int .i64 r.y, .int .i64 r.z])].toArray w0 (fun v w' => Keep none_ w0 w' ∧ v = .agg #[.int .i64 (hi128 (det3 p q r)), .int .u64 (lo128 (det3 p q r))]) := by
  have s0 : Stt A w0 none_ [] w0 := Stt.start hA none_
  refine Cal.intro (n := 54) Tryz.func124 rfl Tryz.ntmps124 rfl ?_
  refine XC.seq ?_
  refine XC.region ?_
  refine XS.op rfl rfl (XO.new (cs := [.int .i64 p.x, .int .i64 p.y, .int .i64 p.z]) (T := 60) s0 rfl (by decide) (fun _ => by kernel_rfl) (fun b1 w2 s2 ev2 kp2 ybb1 => ?_))
  refine XS.op rfl rfl (XO.new (cs := [.int .i64 q.x, .int .i64 q.y, .int .i64 q.z]) (T := 60) s2 rfl (by decide) (fun _ => by kernel_rfl) (fun b3 w4 s4 ev4 kp4 ybb3 => ?_))
  refine XS.op rfl rfl (XO.new (cs := [.int .i64 r.x, .int .i64 r.y, .int .i64 r.z]) (T := 60) s4 rfl (by decide) (fun _ => by kernel_rfl) (fun b5 w6 s6 ev6 kp6 ybb5 => ?_))
  refine XS.op rfl rfl (XO.new (cs := [.int .i64 0, .int .u64 0]) (T := 55) s6 rfl (by decide) (fun _ => by kernel_rfl) (fun b7 w8 s8 ev8 kp8 ybb7 => ?_))
  refine XS.done rfl (thn_norm ?_)
  refine XC.cut (fun ρ_ w_ => ∃ b25_ : Nat, Has ρ_ [(3, .pointer (some ⟨b1, 0, none⟩)), (4, .pointer (some ⟨b3, 0, none⟩)), (5, .pointer (some ⟨b5, 0, none⟩)), (6, .pointer (some ⟨b7, 0, none⟩)), (7, .pointer (some ⟨b25_, 0, none⟩))] ∧ Stt A w0 none_ [cellsA b1 [.int .i64 p.x, .int .i64 p.y, .int .i64 p.z] 60, cellsA b3 [.int .i64 q.x, .int .i64 q.y, .int .i64 q.z] 60, cellsA b5 [.int .i64 r.x, .int .i64 r.y, .int .i64 r.z] 60, cellsA b7 [.int .i64 0, .int .u64 0] 55, cellsA b25_ [.int .i64 (hi128 (p.x * (q.y * r.z - q.z * r.y))), .int .u64 (lo128 (p.x * (q.y * r.z - q.z * r.y)))] 55] w_ ∧ Evo (av A [cellsA b1 [.int .i64 p.x, .int .i64 p.y, .int .i64 p.z] 60, cellsA b3 [.int .i64 q.x, .int .i64 q.y, .int .i64 q.z] 60, cellsA b5 [.int .i64 r.x, .int .i64 r.y, .int .i64 r.z] 60, cellsA b7 [.int .i64 0, .int .u64 0] 55]) w8 (av A [cellsA b1 [.int .i64 p.x, .int .i64 p.y, .int .i64 p.z] 60, cellsA b3 [.int .i64 q.x, .int .i64 q.y, .int .i64 q.z] 60, cellsA b5 [.int .i64 r.x, .int .i64 r.y, .int .i64 r.z] 60, cellsA b7 [.int .i64 0, .int .u64 0] 55, cellsA b25_ [.int .i64 (hi128 (p.x * (q.y * r.z - q.z * r.y))), .int .u64 (lo128 (p.x * (q.y * r.z - q.z * r.y)))] 55]) w_) ?_ ?_
  · skip
    refine XC.drawS 15 rfl (fun _ => False) 15 (by kernel_rfl) s8 (fun w9 s9 ev9 kp9 hH10 => ?_)
    refine XA.valD 0 10 (.pointer (some ⟨b1, 0, none⟩)) rfl (by kernel_rfl) (by kernel_rfl) (by kernel_rfl) rfl (by kernel_rfl) rfl hH10 (fun hH11 => ?_)
    refine XA.loadS false (j := 1) (i := 0) (v := .int .i64 p.x) (g := false) (m := 1) s9 rfl rfl (by kernel_rfl) (by kernel_rfl) (by kernel_rfl) rfl (by kernel_rfl) (fun _ h => h) (by kernel_rfl) rfl rfl (by decide) hH11 rfl (by kernel_rfl) (by kernel_rfl) rfl rfl rfl (fun hH12 => ?_)
    refine XA.valD 3 13 (.pointer (some ⟨b3, 1, none⟩)) rfl (by kernel_rfl) (by kernel_rfl) (by kernel_rfl) rfl (by kernel_rfl) rfl hH12 (fun hH13 => ?_)
    refine XA.loadS false (j := 4) (i := 1) (v := .int .i64 q.y) (g := false) (m := 1) s9 rfl rfl (by kernel_rfl) (by kernel_rfl) (by kernel_rfl) rfl (by kernel_rfl) (fun _ h => h) (by kernel_rfl) rfl rfl (by decide) hH13 rfl (by kernel_rfl) (by kernel_rfl) rfl rfl rfl (fun hH14 => ?_)
    refine XA.valD 5 15 (.pointer (some ⟨b3, 2, none⟩)) rfl (by kernel_rfl) (by kernel_rfl) (by kernel_rfl) rfl (by kernel_rfl) rfl hH14 (fun hH15 => ?_)
    refine XA.loadS false (j := 6) (i := 1) (v := .int .i64 q.z) (g := false) (m := 1) s9 rfl rfl (by kernel_rfl) (by kernel_rfl) (by kernel_rfl) rfl (by kernel_rfl) (fun _ h => h) (by kernel_rfl) rfl rfl (by decide) hH15 rfl (by kernel_rfl) (by kernel_rfl) rfl rfl rfl (fun hH16 => ?_)
    refine XA.valD 7 17 (.pointer (some ⟨b5, 1, none⟩)) rfl (by kernel_rfl) (by kernel_rfl) (by kernel_rfl) rfl (by kernel_rfl) rfl hH16 (fun hH17 => ?_)
    refine XA.loadS false (j := 8) (i := 2) (v := .int .i64 r.y) (g := false) (m := 1) s9 rfl rfl (by kernel_rfl) (by kernel_rfl) (by kernel_rfl) rfl (by kernel_rfl) (fun _ h => h) (by kernel_rfl) rfl rfl (by decide) hH17 rfl (by kernel_rfl) (by kernel_rfl) rfl rfl rfl (fun hH18 => ?_)
    refine XA.valD 9 19 (.pointer (some ⟨b5, 2, none⟩)) rfl (by kernel_rfl) (by kernel_rfl) (by kernel_rfl) rfl (by kernel_rfl) rfl hH18 (fun hH19 => ?_)
    refine XA.loadS false (j := 10) (i := 2) (v := .int .i64 r.z) (g := false) (m := 1) s9 rfl rfl (by kernel_rfl) (by kernel_rfl) (by kernel_rfl) rfl (by kernel_rfl) (fun _ h => h) (by kernel_rfl) rfl rfl (by decide) hH19 rfl (by kernel_rfl) (by kernel_rfl) rfl rfl rfl (fun hH20 => ?_)
    refine XA.op2 (i := 2) (j := 13) rfl rfl (by kernel_rfl) (by kernel_rfl) (by kernel_rfl) ?_ ?_
    · skip
      refine XO.callS (f := 87) (args := [(.int .i64 p.x)].toArray) s9 rfl (by decide) (fun _ => by kernel_rfl) (limb_Of_ok (av A _) _ s9.av_fresh p.x (by unfold Pt.dif inD at *; omega)) (fun _ w21 s21 ev21 kp21 hv_ => ?_)
      obtain rfl := hv_
      have hH22 := hH20.keep (i := 2) kp21 rfl
      refine ⟨hH22, ?_⟩
      refine XA.op2 (i := 11) (j := 13) rfl rfl (by kernel_rfl) (by kernel_rfl) (by kernel_rfl) ?_ ?_
      · skip
        refine XO.callS (f := 55) (args := [(.int .i64 q.y), (.int .i64 q.z), (.int .i64 r.y), (.int .i64 r.z)].toArray) s21 rfl (by decide) (fun _ => by kernel_rfl) (orient_minor_ok (av A _) _ s21.av_fresh q.y q.z r.y r.z (by unfold Pt.dif inD at *; omega) (by unfold Pt.dif inD at *; omega) (by unfold Pt.dif inD at *; omega) (by unfold Pt.dif inD at *; omega)) (fun _ w23 s23 ev23 kp23 hv_ => ?_)
        obtain rfl := hv_
        have hH24 := hH22.keep (i := 11) kp23 rfl
        refine ⟨hH24, ?_⟩
        refine XA.op2 (i := 12) (j := 13) rfl rfl (by kernel_rfl) (by kernel_rfl) (by kernel_rfl) ?_ ?_
        · skip
          refine XO.callS (f := 86) (args := [(.agg #[.int .i64 (hi128 p.x), .int .u64 (lo128 p.x)]), (.agg #[.int .i64 (hi128 (q.y * r.z - q.z * r.y)), .int .u64 (lo128 (q.y * r.z - q.z * r.y))])].toArray) s23 rfl (by decide) (fun _ => by kernel_rfl) (limb_Mul_ok (av A _) _ s23.av_fresh p.x (q.y * r.z - q.z * r.y) ) (fun _ w25 s25 ev25 kp25 hv_ => ?_)
          obtain rfl := hv_
          have hH26 := hH24.keep (i := 12) kp25 rfl
          refine ⟨hH26, ?_⟩
          refine XA.op (i := 13) rfl (by kernel_rfl) (by kernel_rfl) (XO.new (cs := [.int .i64 0, .int .u64 0]) (T := 55) s25 rfl (by decide) (fun _ => by kernel_rfl) (fun b27 w28 s28 ev28 kp28 ybb27 => ?_))
          have hH29 := hH26.keep (i := 13) kp28 rfl
          refine ⟨hH29, ?_⟩
          refine XA.op (i := 14) rfl (by kernel_rfl) (by kernel_rfl) (XO.storeS (i := 4) (v := .agg #[.int .i64 (hi128 (p.x * (q.y * r.z - q.z * r.y))), .int .u64 (lo128 (p.x * (q.y * r.z - q.z * r.y)))]) (m := 2) (cs' := [.int .i64 (hi128 (p.x * (q.y * r.z - q.z * r.y))), .int .u64 (lo128 (p.x * (q.y * r.z - q.z * r.y)))]) s28 rfl rfl rfl rfl rfl (by kernel_rfl) rfl rfl rfl rfl (fun w30 s30 ev30 kp30 => ?_))
          have hH31 := hH29.young (i := 14) kp30 (by exact (Nat.le_trans hH26.1 ybb27)) rfl
          refine ⟨hH31, ?_⟩
          refine XA.done (by kernel_rfl) (thn_norm ?_)
          exact ⟨b27, ⟨rfl, rfl, rfl, rfl, rfl, trivial⟩, s30, (ev9.trans (ev21.trans (ev23.trans (ev25.trans (ev28.trans ev30)))))⟩
        · skip
          refine XO.new (cs := [.int .i64 0, .int .u64 0]) (T := 55) s23 rfl (by decide) (fun _ => by kernel_rfl) (fun b32 w33 s33 ev33 kp33 ybb32 => ?_)
          have hH34 := hH24.keep (i := 13) kp33 rfl
          refine ⟨hH34, ?_⟩
          refine XA.op (i := 12) rfl (by kernel_rfl) (by kernel_rfl) (XO.callS (f := 86) (args := [(.agg #[.int .i64 (hi128 p.x), .int .u64 (lo128 p.x)]), (.agg #[.int .i64 (hi128 (q.y * r.z - q.z * r.y)), .int .u64 (lo128 (q.y * r.z - q.z * r.y))])].toArray) s33 rfl (by decide) (fun _ => by kernel_rfl) (limb_Mul_ok (av A _) _ s33.av_fresh p.x (q.y * r.z - q.z * r.y) ) (fun _ w35 s35 ev35 kp35 hv_ => ?_))
          obtain rfl := hv_
          have hH36 := hH34.keep (i := 12) kp35 rfl
          refine ⟨hH36, ?_⟩
          refine XA.op (i := 14) rfl (by kernel_rfl) (by kernel_rfl) (XO.storeS (i := 4) (v := .agg #[.int .i64 (hi128 (p.x * (q.y * r.z - q.z * r.y))), .int .u64 (lo128 (p.x * (q.y * r.z - q.z * r.y)))]) (m := 2) (cs' := [.int .i64 (hi128 (p.x * (q.y * r.z - q.z * r.y))), .int .u64 (lo128 (p.x * (q.y * r.z - q.z * r.y)))]) s35 rfl rfl rfl rfl rfl (by kernel_rfl) rfl rfl rfl rfl (fun w37 s37 ev37 kp37 => ?_))
          have hH38 := hH36.young (i := 14) kp37 (by exact (Nat.le_trans hH24.1 ybb32)) rfl
          refine ⟨hH38, ?_⟩
          refine XA.done (by kernel_rfl) (thn_norm ?_)
          exact ⟨b32, ⟨rfl, rfl, rfl, rfl, rfl, trivial⟩, s37, (ev9.trans (ev21.trans (ev23.trans (ev33.trans (ev35.trans ev37)))))⟩
      · skip
        refine XO.new (cs := [.int .i64 0, .int .u64 0]) (T := 55) s21 rfl (by decide) (fun _ => by kernel_rfl) (fun b39 w40 s40 ev40 kp40 ybb39 => ?_)
        have hH41 := hH22.keep (i := 13) kp40 rfl
        refine ⟨hH41, ?_⟩
        refine XA.op (i := 11) rfl (by kernel_rfl) (by kernel_rfl) (XO.callS (f := 55) (args := [(.int .i64 q.y), (.int .i64 q.z), (.int .i64 r.y), (.int .i64 r.z)].toArray) s40 rfl (by decide) (fun _ => by kernel_rfl) (orient_minor_ok (av A _) _ s40.av_fresh q.y q.z r.y r.z (by unfold Pt.dif inD at *; omega) (by unfold Pt.dif inD at *; omega) (by unfold Pt.dif inD at *; omega) (by unfold Pt.dif inD at *; omega)) (fun _ w42 s42 ev42 kp42 hv_ => ?_))
        obtain rfl := hv_
        have hH43 := hH41.keep (i := 11) kp42 rfl
        refine ⟨hH43, ?_⟩
        refine XA.op (i := 12) rfl (by kernel_rfl) (by kernel_rfl) (XO.callS (f := 86) (args := [(.agg #[.int .i64 (hi128 p.x), .int .u64 (lo128 p.x)]), (.agg #[.int .i64 (hi128 (q.y * r.z - q.z * r.y)), .int .u64 (lo128 (q.y * r.z - q.z * r.y))])].toArray) s42 rfl (by decide) (fun _ => by kernel_rfl) (limb_Mul_ok (av A _) _ s42.av_fresh p.x (q.y * r.z - q.z * r.y) ) (fun _ w44 s44 ev44 kp44 hv_ => ?_))
        obtain rfl := hv_
        have hH45 := hH43.keep (i := 12) kp44 rfl
        refine ⟨hH45, ?_⟩
        refine XA.op (i := 14) rfl (by kernel_rfl) (by kernel_rfl) (XO.storeS (i := 4) (v := .agg #[.int .i64 (hi128 (p.x * (q.y * r.z - q.z * r.y))), .int .u64 (lo128 (p.x * (q.y * r.z - q.z * r.y)))]) (m := 2) (cs' := [.int .i64 (hi128 (p.x * (q.y * r.z - q.z * r.y))), .int .u64 (lo128 (p.x * (q.y * r.z - q.z * r.y)))]) s44 rfl rfl rfl rfl rfl (by kernel_rfl) rfl rfl rfl rfl (fun w46 s46 ev46 kp46 => ?_))
        have hH47 := hH45.young (i := 14) kp46 (by exact (Nat.le_trans hH22.1 ybb39)) rfl
        refine ⟨hH47, ?_⟩
        refine XA.done (by kernel_rfl) (thn_norm ?_)
        exact ⟨b39, ⟨rfl, rfl, rfl, rfl, rfl, trivial⟩, s46, (ev9.trans (ev21.trans (ev40.trans (ev42.trans (ev44.trans ev46)))))⟩
    · skip
      refine XO.new (cs := [.int .i64 0, .int .u64 0]) (T := 55) s9 rfl (by decide) (fun _ => by kernel_rfl) (fun b48 w49 s49 ev49 kp49 ybb48 => ?_)
      have hH50 := hH20.keep (i := 13) kp49 rfl
      refine ⟨hH50, ?_⟩
      refine XA.op (i := 2) rfl (by kernel_rfl) (by kernel_rfl) (XO.callS (f := 87) (args := [(.int .i64 p.x)].toArray) s49 rfl (by decide) (fun _ => by kernel_rfl) (limb_Of_ok (av A _) _ s49.av_fresh p.x (by unfold Pt.dif inD at *; omega)) (fun _ w51 s51 ev51 kp51 hv_ => ?_))
      obtain rfl := hv_
      have hH52 := hH50.keep (i := 2) kp51 rfl
      refine ⟨hH52, ?_⟩
      refine XA.op (i := 11) rfl (by kernel_rfl) (by kernel_rfl) (XO.callS (f := 55) (args := [(.int .i64 q.y), (.int .i64 q.z), (.int .i64 r.y), (.int .i64 r.z)].toArray) s51 rfl (by decide) (fun _ => by kernel_rfl) (orient_minor_ok (av A _) _ s51.av_fresh q.y q.z r.y r.z (by unfold Pt.dif inD at *; omega) (by unfold Pt.dif inD at *; omega) (by unfold Pt.dif inD at *; omega) (by unfold Pt.dif inD at *; omega)) (fun _ w53 s53 ev53 kp53 hv_ => ?_))
      obtain rfl := hv_
      have hH54 := hH52.keep (i := 11) kp53 rfl
      refine ⟨hH54, ?_⟩
      refine XA.op (i := 12) rfl (by kernel_rfl) (by kernel_rfl) (XO.callS (f := 86) (args := [(.agg #[.int .i64 (hi128 p.x), .int .u64 (lo128 p.x)]), (.agg #[.int .i64 (hi128 (q.y * r.z - q.z * r.y)), .int .u64 (lo128 (q.y * r.z - q.z * r.y))])].toArray) s53 rfl (by decide) (fun _ => by kernel_rfl) (limb_Mul_ok (av A _) _ s53.av_fresh p.x (q.y * r.z - q.z * r.y) ) (fun _ w55 s55 ev55 kp55 hv_ => ?_))
      obtain rfl := hv_
      have hH56 := hH54.keep (i := 12) kp55 rfl
      refine ⟨hH56, ?_⟩
      refine XA.op (i := 14) rfl (by kernel_rfl) (by kernel_rfl) (XO.storeS (i := 4) (v := .agg #[.int .i64 (hi128 (p.x * (q.y * r.z - q.z * r.y))), .int .u64 (lo128 (p.x * (q.y * r.z - q.z * r.y)))]) (m := 2) (cs' := [.int .i64 (hi128 (p.x * (q.y * r.z - q.z * r.y))), .int .u64 (lo128 (p.x * (q.y * r.z - q.z * r.y)))]) s55 rfl rfl rfl rfl rfl (by kernel_rfl) rfl rfl rfl rfl (fun w57 s57 ev57 kp57 => ?_))
      have hH58 := hH56.young (i := 14) kp57 (by exact (Nat.le_trans hH20.1 ybb48)) rfl
      refine ⟨hH58, ?_⟩
      refine XA.done (by kernel_rfl) (thn_norm ?_)
      exact ⟨b48, ⟨rfl, rfl, rfl, rfl, rfl, trivial⟩, s57, (ev9.trans (ev49.trans (ev51.trans (ev53.trans (ev55.trans ev57)))))⟩
  intro ρw59 w59 hJ_
  obtain ⟨b25_, hh59, s59, ev59⟩ := hJ_
  refine XC.rebase hh59 ?_
  refine XC.cut (fun ρ_ w_ => ∃ b76_ : Nat, Has ρ_ [(3, .pointer (some ⟨b1, 0, none⟩)), (4, .pointer (some ⟨b3, 0, none⟩)), (5, .pointer (some ⟨b5, 0, none⟩)), (6, .pointer (some ⟨b7, 0, none⟩)), (7, .pointer (some ⟨b25_, 0, none⟩)), (8, .pointer (some ⟨b76_, 0, none⟩))] ∧ Stt A w0 none_ [cellsA b1 [.int .i64 p.x, .int .i64 p.y, .int .i64 p.z] 60, cellsA b3 [.int .i64 q.x, .int .i64 q.y, .int .i64 q.z] 60, cellsA b5 [.int .i64 r.x, .int .i64 r.y, .int .i64 r.z] 60, cellsA b7 [.int .i64 0, .int .u64 0] 55, cellsA b25_ [.int .i64 (hi128 (p.x * (q.y * r.z - q.z * r.y))), .int .u64 (lo128 (p.x * (q.y * r.z - q.z * r.y)))] 55, cellsA b76_ [.int .i64 (hi128 (p.y * (q.z * r.x - q.x * r.z))), .int .u64 (lo128 (p.y * (q.z * r.x - q.x * r.z)))] 55] w_ ∧ Evo (av A [cellsA b1 [.int .i64 p.x, .int .i64 p.y, .int .i64 p.z] 60, cellsA b3 [.int .i64 q.x, .int .i64 q.y, .int .i64 q.z] 60, cellsA b5 [.int .i64 r.x, .int .i64 r.y, .int .i64 r.z] 60, cellsA b7 [.int .i64 0, .int .u64 0] 55, cellsA b25_ [.int .i64 (hi128 (p.x * (q.y * r.z - q.z * r.y))), .int .u64 (lo128 (p.x * (q.y * r.z - q.z * r.y)))] 55]) w59 (av A [cellsA b1 [.int .i64 p.x, .int .i64 p.y, .int .i64 p.z] 60, cellsA b3 [.int .i64 q.x, .int .i64 q.y, .int .i64 q.z] 60, cellsA b5 [.int .i64 r.x, .int .i64 r.y, .int .i64 r.z] 60, cellsA b7 [.int .i64 0, .int .u64 0] 55, cellsA b25_ [.int .i64 (hi128 (p.x * (q.y * r.z - q.z * r.y))), .int .u64 (lo128 (p.x * (q.y * r.z - q.z * r.y)))] 55, cellsA b76_ [.int .i64 (hi128 (p.y * (q.z * r.x - q.x * r.z))), .int .u64 (lo128 (p.y * (q.z * r.x - q.x * r.z)))] 55]) w_) ?_ ?_
  · skip
    refine XC.drawS 15 rfl (fun _ => False) 15 (by kernel_rfl) s59 (fun w60 s60 ev60 kp60 hH61 => ?_)
    refine XA.valD 0 23 (.pointer (some ⟨b1, 1, none⟩)) rfl (by kernel_rfl) (by kernel_rfl) (by kernel_rfl) rfl (by kernel_rfl) rfl hH61 (fun hH62 => ?_)
    refine XA.loadS false (j := 1) (i := 0) (v := .int .i64 p.y) (g := false) (m := 1) s60 rfl rfl (by kernel_rfl) (by kernel_rfl) (by kernel_rfl) rfl (by kernel_rfl) (fun _ h => h) (by kernel_rfl) rfl rfl (by decide) hH62 rfl (by kernel_rfl) (by kernel_rfl) rfl rfl rfl (fun hH63 => ?_)
    refine XA.valD 3 26 (.pointer (some ⟨b3, 2, none⟩)) rfl (by kernel_rfl) (by kernel_rfl) (by kernel_rfl) rfl (by kernel_rfl) rfl hH63 (fun hH64 => ?_)
    refine XA.loadS false (j := 4) (i := 1) (v := .int .i64 q.z) (g := false) (m := 1) s60 rfl rfl (by kernel_rfl) (by kernel_rfl) (by kernel_rfl) rfl (by kernel_rfl) (fun _ h => h) (by kernel_rfl) rfl rfl (by decide) hH64 rfl (by kernel_rfl) (by kernel_rfl) rfl rfl rfl (fun hH65 => ?_)
    refine XA.valD 5 28 (.pointer (some ⟨b3, 0, none⟩)) rfl (by kernel_rfl) (by kernel_rfl) (by kernel_rfl) rfl (by kernel_rfl) rfl hH65 (fun hH66 => ?_)
    refine XA.loadS false (j := 6) (i := 1) (v := .int .i64 q.x) (g := false) (m := 1) s60 rfl rfl (by kernel_rfl) (by kernel_rfl) (by kernel_rfl) rfl (by kernel_rfl) (fun _ h => h) (by kernel_rfl) rfl rfl (by decide) hH66 rfl (by kernel_rfl) (by kernel_rfl) rfl rfl rfl (fun hH67 => ?_)
    refine XA.valD 7 30 (.pointer (some ⟨b5, 2, none⟩)) rfl (by kernel_rfl) (by kernel_rfl) (by kernel_rfl) rfl (by kernel_rfl) rfl hH67 (fun hH68 => ?_)
    refine XA.loadS false (j := 8) (i := 2) (v := .int .i64 r.z) (g := false) (m := 1) s60 rfl rfl (by kernel_rfl) (by kernel_rfl) (by kernel_rfl) rfl (by kernel_rfl) (fun _ h => h) (by kernel_rfl) rfl rfl (by decide) hH68 rfl (by kernel_rfl) (by kernel_rfl) rfl rfl rfl (fun hH69 => ?_)
    refine XA.valD 9 32 (.pointer (some ⟨b5, 0, none⟩)) rfl (by kernel_rfl) (by kernel_rfl) (by kernel_rfl) rfl (by kernel_rfl) rfl hH69 (fun hH70 => ?_)
    refine XA.loadS false (j := 10) (i := 2) (v := .int .i64 r.x) (g := false) (m := 1) s60 rfl rfl (by kernel_rfl) (by kernel_rfl) (by kernel_rfl) rfl (by kernel_rfl) (fun _ h => h) (by kernel_rfl) rfl rfl (by decide) hH70 rfl (by kernel_rfl) (by kernel_rfl) rfl rfl rfl (fun hH71 => ?_)
    refine XA.op2 (i := 2) (j := 13) rfl rfl (by kernel_rfl) (by kernel_rfl) (by kernel_rfl) ?_ ?_
    · skip
      refine XO.callS (f := 87) (args := [(.int .i64 p.y)].toArray) s60 rfl (by decide) (fun _ => by kernel_rfl) (limb_Of_ok (av A _) _ s60.av_fresh p.y (by unfold Pt.dif inD at *; omega)) (fun _ w72 s72 ev72 kp72 hv_ => ?_)
      obtain rfl := hv_
      have hH73 := hH71.keep (i := 2) kp72 rfl
      refine ⟨hH73, ?_⟩
      refine XA.op2 (i := 11) (j := 13) rfl rfl (by kernel_rfl) (by kernel_rfl) (by kernel_rfl) ?_ ?_
      · skip
        refine XO.callS (f := 55) (args := [(.int .i64 q.z), (.int .i64 q.x), (.int .i64 r.z), (.int .i64 r.x)].toArray) s72 rfl (by decide) (fun _ => by kernel_rfl) (orient_minor_ok (av A _) _ s72.av_fresh q.z q.x r.z r.x (by unfold Pt.dif inD at *; omega) (by unfold Pt.dif inD at *; omega) (by unfold Pt.dif inD at *; omega) (by unfold Pt.dif inD at *; omega)) (fun _ w74 s74 ev74 kp74 hv_ => ?_)
        obtain rfl := hv_
        have hH75 := hH73.keep (i := 11) kp74 rfl
        refine ⟨hH75, ?_⟩
        refine XA.op2 (i := 12) (j := 13) rfl rfl (by kernel_rfl) (by kernel_rfl) (by kernel_rfl) ?_ ?_
        · skip
          refine XO.callS (f := 86) (args := [(.agg #[.int .i64 (hi128 p.y), .int .u64 (lo128 p.y)]), (.agg #[.int .i64 (hi128 (q.z * r.x - q.x * r.z)), .int .u64 (lo128 (q.z * r.x - q.x * r.z))])].toArray) s74 rfl (by decide) (fun _ => by kernel_rfl) (limb_Mul_ok (av A _) _ s74.av_fresh p.y (q.z * r.x - q.x * r.z) ) (fun _ w76 s76 ev76 kp76 hv_ => ?_)
          obtain rfl := hv_
          have hH77 := hH75.keep (i := 12) kp76 rfl
          refine ⟨hH77, ?_⟩
          refine XA.op (i := 13) rfl (by kernel_rfl) (by kernel_rfl) (XO.new (cs := [.int .i64 0, .int .u64 0]) (T := 55) s76 rfl (by decide) (fun _ => by kernel_rfl) (fun b78 w79 s79 ev79 kp79 ybb78 => ?_))
          have hH80 := hH77.keep (i := 13) kp79 rfl
          refine ⟨hH80, ?_⟩
          refine XA.op (i := 14) rfl (by kernel_rfl) (by kernel_rfl) (XO.storeS (i := 5) (v := .agg #[.int .i64 (hi128 (p.y * (q.z * r.x - q.x * r.z))), .int .u64 (lo128 (p.y * (q.z * r.x - q.x * r.z)))]) (m := 2) (cs' := [.int .i64 (hi128 (p.y * (q.z * r.x - q.x * r.z))), .int .u64 (lo128 (p.y * (q.z * r.x - q.x * r.z)))]) s79 rfl rfl rfl rfl rfl (by kernel_rfl) rfl rfl rfl rfl (fun w81 s81 ev81 kp81 => ?_))
          have hH82 := hH80.young (i := 14) kp81 (by exact (Nat.le_trans hH77.1 ybb78)) rfl
          refine ⟨hH82, ?_⟩
          refine XA.done (by kernel_rfl) (thn_norm ?_)
          exact ⟨b78, ⟨rfl, rfl, rfl, rfl, rfl, rfl, trivial⟩, s81, (ev60.trans (ev72.trans (ev74.trans (ev76.trans (ev79.trans ev81)))))⟩
        · skip
          refine XO.new (cs := [.int .i64 0, .int .u64 0]) (T := 55) s74 rfl (by decide) (fun _ => by kernel_rfl) (fun b83 w84 s84 ev84 kp84 ybb83 => ?_)
          have hH85 := hH75.keep (i := 13) kp84 rfl
          refine ⟨hH85, ?_⟩
          refine XA.op (i := 12) rfl (by kernel_rfl) (by kernel_rfl) (XO.callS (f := 86) (args := [(.agg #[.int .i64 (hi128 p.y), .int .u64 (lo128 p.y)]), (.agg #[.int .i64 (hi128 (q.z * r.x - q.x * r.z)), .int .u64 (lo128 (q.z * r.x - q.x * r.z))])].toArray) s84 rfl (by decide) (fun _ => by kernel_rfl) (limb_Mul_ok (av A _) _ s84.av_fresh p.y (q.z * r.x - q.x * r.z) ) (fun _ w86 s86 ev86 kp86 hv_ => ?_))
          obtain rfl := hv_
          have hH87 := hH85.keep (i := 12) kp86 rfl
          refine ⟨hH87, ?_⟩
          refine XA.op (i := 14) rfl (by kernel_rfl) (by kernel_rfl) (XO.storeS (i := 5) (v := .agg #[.int .i64 (hi128 (p.y * (q.z * r.x - q.x * r.z))), .int .u64 (lo128 (p.y * (q.z * r.x - q.x * r.z)))]) (m := 2) (cs' := [.int .i64 (hi128 (p.y * (q.z * r.x - q.x * r.z))), .int .u64 (lo128 (p.y * (q.z * r.x - q.x * r.z)))]) s86 rfl rfl rfl rfl rfl (by kernel_rfl) rfl rfl rfl rfl (fun w88 s88 ev88 kp88 => ?_))
          have hH89 := hH87.young (i := 14) kp88 (by exact (Nat.le_trans hH75.1 ybb83)) rfl
          refine ⟨hH89, ?_⟩
          refine XA.done (by kernel_rfl) (thn_norm ?_)
          exact ⟨b83, ⟨rfl, rfl, rfl, rfl, rfl, rfl, trivial⟩, s88, (ev60.trans (ev72.trans (ev74.trans (ev84.trans (ev86.trans ev88)))))⟩
      · skip
        refine XO.new (cs := [.int .i64 0, .int .u64 0]) (T := 55) s72 rfl (by decide) (fun _ => by kernel_rfl) (fun b90 w91 s91 ev91 kp91 ybb90 => ?_)
        have hH92 := hH73.keep (i := 13) kp91 rfl
        refine ⟨hH92, ?_⟩
        refine XA.op (i := 11) rfl (by kernel_rfl) (by kernel_rfl) (XO.callS (f := 55) (args := [(.int .i64 q.z), (.int .i64 q.x), (.int .i64 r.z), (.int .i64 r.x)].toArray) s91 rfl (by decide) (fun _ => by kernel_rfl) (orient_minor_ok (av A _) _ s91.av_fresh q.z q.x r.z r.x (by unfold Pt.dif inD at *; omega) (by unfold Pt.dif inD at *; omega) (by unfold Pt.dif inD at *; omega) (by unfold Pt.dif inD at *; omega)) (fun _ w93 s93 ev93 kp93 hv_ => ?_))
        obtain rfl := hv_
        have hH94 := hH92.keep (i := 11) kp93 rfl
        refine ⟨hH94, ?_⟩
        refine XA.op (i := 12) rfl (by kernel_rfl) (by kernel_rfl) (XO.callS (f := 86) (args := [(.agg #[.int .i64 (hi128 p.y), .int .u64 (lo128 p.y)]), (.agg #[.int .i64 (hi128 (q.z * r.x - q.x * r.z)), .int .u64 (lo128 (q.z * r.x - q.x * r.z))])].toArray) s93 rfl (by decide) (fun _ => by kernel_rfl) (limb_Mul_ok (av A _) _ s93.av_fresh p.y (q.z * r.x - q.x * r.z) ) (fun _ w95 s95 ev95 kp95 hv_ => ?_))
        obtain rfl := hv_
        have hH96 := hH94.keep (i := 12) kp95 rfl
        refine ⟨hH96, ?_⟩
        refine XA.op (i := 14) rfl (by kernel_rfl) (by kernel_rfl) (XO.storeS (i := 5) (v := .agg #[.int .i64 (hi128 (p.y * (q.z * r.x - q.x * r.z))), .int .u64 (lo128 (p.y * (q.z * r.x - q.x * r.z)))]) (m := 2) (cs' := [.int .i64 (hi128 (p.y * (q.z * r.x - q.x * r.z))), .int .u64 (lo128 (p.y * (q.z * r.x - q.x * r.z)))]) s95 rfl rfl rfl rfl rfl (by kernel_rfl) rfl rfl rfl rfl (fun w97 s97 ev97 kp97 => ?_))
        have hH98 := hH96.young (i := 14) kp97 (by exact (Nat.le_trans hH73.1 ybb90)) rfl
        refine ⟨hH98, ?_⟩
        refine XA.done (by kernel_rfl) (thn_norm ?_)
        exact ⟨b90, ⟨rfl, rfl, rfl, rfl, rfl, rfl, trivial⟩, s97, (ev60.trans (ev72.trans (ev91.trans (ev93.trans (ev95.trans ev97)))))⟩
    · skip
      refine XO.new (cs := [.int .i64 0, .int .u64 0]) (T := 55) s60 rfl (by decide) (fun _ => by kernel_rfl) (fun b99 w100 s100 ev100 kp100 ybb99 => ?_)
      have hH101 := hH71.keep (i := 13) kp100 rfl
      refine ⟨hH101, ?_⟩
      refine XA.op (i := 2) rfl (by kernel_rfl) (by kernel_rfl) (XO.callS (f := 87) (args := [(.int .i64 p.y)].toArray) s100 rfl (by decide) (fun _ => by kernel_rfl) (limb_Of_ok (av A _) _ s100.av_fresh p.y (by unfold Pt.dif inD at *; omega)) (fun _ w102 s102 ev102 kp102 hv_ => ?_))
      obtain rfl := hv_
      have hH103 := hH101.keep (i := 2) kp102 rfl
      refine ⟨hH103, ?_⟩
      refine XA.op (i := 11) rfl (by kernel_rfl) (by kernel_rfl) (XO.callS (f := 55) (args := [(.int .i64 q.z), (.int .i64 q.x), (.int .i64 r.z), (.int .i64 r.x)].toArray) s102 rfl (by decide) (fun _ => by kernel_rfl) (orient_minor_ok (av A _) _ s102.av_fresh q.z q.x r.z r.x (by unfold Pt.dif inD at *; omega) (by unfold Pt.dif inD at *; omega) (by unfold Pt.dif inD at *; omega) (by unfold Pt.dif inD at *; omega)) (fun _ w104 s104 ev104 kp104 hv_ => ?_))
      obtain rfl := hv_
      have hH105 := hH103.keep (i := 11) kp104 rfl
      refine ⟨hH105, ?_⟩
      refine XA.op (i := 12) rfl (by kernel_rfl) (by kernel_rfl) (XO.callS (f := 86) (args := [(.agg #[.int .i64 (hi128 p.y), .int .u64 (lo128 p.y)]), (.agg #[.int .i64 (hi128 (q.z * r.x - q.x * r.z)), .int .u64 (lo128 (q.z * r.x - q.x * r.z))])].toArray) s104 rfl (by decide) (fun _ => by kernel_rfl) (limb_Mul_ok (av A _) _ s104.av_fresh p.y (q.z * r.x - q.x * r.z) ) (fun _ w106 s106 ev106 kp106 hv_ => ?_))
      obtain rfl := hv_
      have hH107 := hH105.keep (i := 12) kp106 rfl
      refine ⟨hH107, ?_⟩
      refine XA.op (i := 14) rfl (by kernel_rfl) (by kernel_rfl) (XO.storeS (i := 5) (v := .agg #[.int .i64 (hi128 (p.y * (q.z * r.x - q.x * r.z))), .int .u64 (lo128 (p.y * (q.z * r.x - q.x * r.z)))]) (m := 2) (cs' := [.int .i64 (hi128 (p.y * (q.z * r.x - q.x * r.z))), .int .u64 (lo128 (p.y * (q.z * r.x - q.x * r.z)))]) s106 rfl rfl rfl rfl rfl (by kernel_rfl) rfl rfl rfl rfl (fun w108 s108 ev108 kp108 => ?_))
      have hH109 := hH107.young (i := 14) kp108 (by exact (Nat.le_trans hH71.1 ybb99)) rfl
      refine ⟨hH109, ?_⟩
      refine XA.done (by kernel_rfl) (thn_norm ?_)
      exact ⟨b99, ⟨rfl, rfl, rfl, rfl, rfl, rfl, trivial⟩, s108, (ev60.trans (ev100.trans (ev102.trans (ev104.trans (ev106.trans ev108)))))⟩
  intro ρw110 w110 hJ_
  obtain ⟨b76_, hh110, s110, ev110⟩ := hJ_
  refine XC.rebase hh110 ?_
  refine XC.cut (fun ρ_ w_ => ∃ b127_ : Nat, Has ρ_ [(6, .pointer (some ⟨b7, 0, none⟩)), (7, .pointer (some ⟨b25_, 0, none⟩)), (8, .pointer (some ⟨b76_, 0, none⟩)), (9, .pointer (some ⟨b127_, 0, none⟩))] ∧ Stt A w0 none_ [cellsA b1 [.int .i64 p.x, .int .i64 p.y, .int .i64 p.z] 60, cellsA b3 [.int .i64 q.x, .int .i64 q.y, .int .i64 q.z] 60, cellsA b5 [.int .i64 r.x, .int .i64 r.y, .int .i64 r.z] 60, cellsA b7 [.int .i64 0, .int .u64 0] 55, cellsA b25_ [.int .i64 (hi128 (p.x * (q.y * r.z - q.z * r.y))), .int .u64 (lo128 (p.x * (q.y * r.z - q.z * r.y)))] 55, cellsA b76_ [.int .i64 (hi128 (p.y * (q.z * r.x - q.x * r.z))), .int .u64 (lo128 (p.y * (q.z * r.x - q.x * r.z)))] 55, cellsA b127_ [.int .i64 (hi128 (p.z * (q.x * r.y - q.y * r.x))), .int .u64 (lo128 (p.z * (q.x * r.y - q.y * r.x)))] 55] w_ ∧ Evo (av A [cellsA b1 [.int .i64 p.x, .int .i64 p.y, .int .i64 p.z] 60, cellsA b3 [.int .i64 q.x, .int .i64 q.y, .int .i64 q.z] 60, cellsA b5 [.int .i64 r.x, .int .i64 r.y, .int .i64 r.z] 60, cellsA b7 [.int .i64 0, .int .u64 0] 55, cellsA b25_ [.int .i64 (hi128 (p.x * (q.y * r.z - q.z * r.y))), .int .u64 (lo128 (p.x * (q.y * r.z - q.z * r.y)))] 55, cellsA b76_ [.int .i64 (hi128 (p.y * (q.z * r.x - q.x * r.z))), .int .u64 (lo128 (p.y * (q.z * r.x - q.x * r.z)))] 55]) w110 (av A [cellsA b1 [.int .i64 p.x, .int .i64 p.y, .int .i64 p.z] 60, cellsA b3 [.int .i64 q.x, .int .i64 q.y, .int .i64 q.z] 60, cellsA b5 [.int .i64 r.x, .int .i64 r.y, .int .i64 r.z] 60, cellsA b7 [.int .i64 0, .int .u64 0] 55, cellsA b25_ [.int .i64 (hi128 (p.x * (q.y * r.z - q.z * r.y))), .int .u64 (lo128 (p.x * (q.y * r.z - q.z * r.y)))] 55, cellsA b76_ [.int .i64 (hi128 (p.y * (q.z * r.x - q.x * r.z))), .int .u64 (lo128 (p.y * (q.z * r.x - q.x * r.z)))] 55, cellsA b127_ [.int .i64 (hi128 (p.z * (q.x * r.y - q.y * r.x))), .int .u64 (lo128 (p.z * (q.x * r.y - q.y * r.x)))] 55]) w_) ?_ ?_
  · skip
    refine XC.drawS 15 rfl (fun _ => False) 15 (by kernel_rfl) s110 (fun w111 s111 ev111 kp111 hH112 => ?_)
    refine XA.valD 0 36 (.pointer (some ⟨b1, 2, none⟩)) rfl (by kernel_rfl) (by kernel_rfl) (by kernel_rfl) rfl (by kernel_rfl) rfl hH112 (fun hH113 => ?_)
    refine XA.loadS false (j := 1) (i := 0) (v := .int .i64 p.z) (g := false) (m := 1) s111 rfl rfl (by kernel_rfl) (by kernel_rfl) (by kernel_rfl) rfl (by kernel_rfl) (fun _ h => h) (by kernel_rfl) rfl rfl (by decide) hH113 rfl (by kernel_rfl) (by kernel_rfl) rfl rfl rfl (fun hH114 => ?_)
    refine XA.valD 3 39 (.pointer (some ⟨b3, 0, none⟩)) rfl (by kernel_rfl) (by kernel_rfl) (by kernel_rfl) rfl (by kernel_rfl) rfl hH114 (fun hH115 => ?_)
    refine XA.loadS false (j := 4) (i := 1) (v := .int .i64 q.x) (g := false) (m := 1) s111 rfl rfl (by kernel_rfl) (by kernel_rfl) (by kernel_rfl) rfl (by kernel_rfl) (fun _ h => h) (by kernel_rfl) rfl rfl (by decide) hH115 rfl (by kernel_rfl) (by kernel_rfl) rfl rfl rfl (fun hH116 => ?_)
    refine XA.valD 5 41 (.pointer (some ⟨b3, 1, none⟩)) rfl (by kernel_rfl) (by kernel_rfl) (by kernel_rfl) rfl (by kernel_rfl) rfl hH116 (fun hH117 => ?_)
    refine XA.loadS false (j := 6) (i := 1) (v := .int .i64 q.y) (g := false) (m := 1) s111 rfl rfl (by kernel_rfl) (by kernel_rfl) (by kernel_rfl) rfl (by kernel_rfl) (fun _ h => h) (by kernel_rfl) rfl rfl (by decide) hH117 rfl (by kernel_rfl) (by kernel_rfl) rfl rfl rfl (fun hH118 => ?_)
    refine XA.valD 7 43 (.pointer (some ⟨b5, 0, none⟩)) rfl (by kernel_rfl) (by kernel_rfl) (by kernel_rfl) rfl (by kernel_rfl) rfl hH118 (fun hH119 => ?_)
    refine XA.loadS false (j := 8) (i := 2) (v := .int .i64 r.x) (g := false) (m := 1) s111 rfl rfl (by kernel_rfl) (by kernel_rfl) (by kernel_rfl) rfl (by kernel_rfl) (fun _ h => h) (by kernel_rfl) rfl rfl (by decide) hH119 rfl (by kernel_rfl) (by kernel_rfl) rfl rfl rfl (fun hH120 => ?_)
    refine XA.valD 9 45 (.pointer (some ⟨b5, 1, none⟩)) rfl (by kernel_rfl) (by kernel_rfl) (by kernel_rfl) rfl (by kernel_rfl) rfl hH120 (fun hH121 => ?_)
    refine XA.loadS false (j := 10) (i := 2) (v := .int .i64 r.y) (g := false) (m := 1) s111 rfl rfl (by kernel_rfl) (by kernel_rfl) (by kernel_rfl) rfl (by kernel_rfl) (fun _ h => h) (by kernel_rfl) rfl rfl (by decide) hH121 rfl (by kernel_rfl) (by kernel_rfl) rfl rfl rfl (fun hH122 => ?_)
    refine XA.op2 (i := 2) (j := 13) rfl rfl (by kernel_rfl) (by kernel_rfl) (by kernel_rfl) ?_ ?_
    · skip
      refine XO.callS (f := 87) (args := [(.int .i64 p.z)].toArray) s111 rfl (by decide) (fun _ => by kernel_rfl) (limb_Of_ok (av A _) _ s111.av_fresh p.z (by unfold Pt.dif inD at *; omega)) (fun _ w123 s123 ev123 kp123 hv_ => ?_)
      obtain rfl := hv_
      have hH124 := hH122.keep (i := 2) kp123 rfl
      refine ⟨hH124, ?_⟩
      refine XA.op2 (i := 11) (j := 13) rfl rfl (by kernel_rfl) (by kernel_rfl) (by kernel_rfl) ?_ ?_
      · skip
        refine XO.callS (f := 55) (args := [(.int .i64 q.x), (.int .i64 q.y), (.int .i64 r.x), (.int .i64 r.y)].toArray) s123 rfl (by decide) (fun _ => by kernel_rfl) (orient_minor_ok (av A _) _ s123.av_fresh q.x q.y r.x r.y (by unfold Pt.dif inD at *; omega) (by unfold Pt.dif inD at *; omega) (by unfold Pt.dif inD at *; omega) (by unfold Pt.dif inD at *; omega)) (fun _ w125 s125 ev125 kp125 hv_ => ?_)
        obtain rfl := hv_
        have hH126 := hH124.keep (i := 11) kp125 rfl
        refine ⟨hH126, ?_⟩
        refine XA.op2 (i := 12) (j := 13) rfl rfl (by kernel_rfl) (by kernel_rfl) (by kernel_rfl) ?_ ?_
        · skip
          refine XO.callS (f := 86) (args := [(.agg #[.int .i64 (hi128 p.z), .int .u64 (lo128 p.z)]), (.agg #[.int .i64 (hi128 (q.x * r.y - q.y * r.x)), .int .u64 (lo128 (q.x * r.y - q.y * r.x))])].toArray) s125 rfl (by decide) (fun _ => by kernel_rfl) (limb_Mul_ok (av A _) _ s125.av_fresh p.z (q.x * r.y - q.y * r.x) ) (fun _ w127 s127 ev127 kp127 hv_ => ?_)
          obtain rfl := hv_
          have hH128 := hH126.keep (i := 12) kp127 rfl
          refine ⟨hH128, ?_⟩
          refine XA.op (i := 13) rfl (by kernel_rfl) (by kernel_rfl) (XO.new (cs := [.int .i64 0, .int .u64 0]) (T := 55) s127 rfl (by decide) (fun _ => by kernel_rfl) (fun b129 w130 s130 ev130 kp130 ybb129 => ?_))
          have hH131 := hH128.keep (i := 13) kp130 rfl
          refine ⟨hH131, ?_⟩
          refine XA.op (i := 14) rfl (by kernel_rfl) (by kernel_rfl) (XO.storeS (i := 6) (v := .agg #[.int .i64 (hi128 (p.z * (q.x * r.y - q.y * r.x))), .int .u64 (lo128 (p.z * (q.x * r.y - q.y * r.x)))]) (m := 2) (cs' := [.int .i64 (hi128 (p.z * (q.x * r.y - q.y * r.x))), .int .u64 (lo128 (p.z * (q.x * r.y - q.y * r.x)))]) s130 rfl rfl rfl rfl rfl (by kernel_rfl) rfl rfl rfl rfl (fun w132 s132 ev132 kp132 => ?_))
          have hH133 := hH131.young (i := 14) kp132 (by exact (Nat.le_trans hH128.1 ybb129)) rfl
          refine ⟨hH133, ?_⟩
          refine XA.done (by kernel_rfl) (thn_norm ?_)
          exact ⟨b129, ⟨rfl, rfl, rfl, rfl, trivial⟩, s132, (ev111.trans (ev123.trans (ev125.trans (ev127.trans (ev130.trans ev132)))))⟩
        · skip
          refine XO.new (cs := [.int .i64 0, .int .u64 0]) (T := 55) s125 rfl (by decide) (fun _ => by kernel_rfl) (fun b134 w135 s135 ev135 kp135 ybb134 => ?_)
          have hH136 := hH126.keep (i := 13) kp135 rfl
          refine ⟨hH136, ?_⟩
          refine XA.op (i := 12) rfl (by kernel_rfl) (by kernel_rfl) (XO.callS (f := 86) (args := [(.agg #[.int .i64 (hi128 p.z), .int .u64 (lo128 p.z)]), (.agg #[.int .i64 (hi128 (q.x * r.y - q.y * r.x)), .int .u64 (lo128 (q.x * r.y - q.y * r.x))])].toArray) s135 rfl (by decide) (fun _ => by kernel_rfl) (limb_Mul_ok (av A _) _ s135.av_fresh p.z (q.x * r.y - q.y * r.x) ) (fun _ w137 s137 ev137 kp137 hv_ => ?_))
          obtain rfl := hv_
          have hH138 := hH136.keep (i := 12) kp137 rfl
          refine ⟨hH138, ?_⟩
          refine XA.op (i := 14) rfl (by kernel_rfl) (by kernel_rfl) (XO.storeS (i := 6) (v := .agg #[.int .i64 (hi128 (p.z * (q.x * r.y - q.y * r.x))), .int .u64 (lo128 (p.z * (q.x * r.y - q.y * r.x)))]) (m := 2) (cs' := [.int .i64 (hi128 (p.z * (q.x * r.y - q.y * r.x))), .int .u64 (lo128 (p.z * (q.x * r.y - q.y * r.x)))]) s137 rfl rfl rfl rfl rfl (by kernel_rfl) rfl rfl rfl rfl (fun w139 s139 ev139 kp139 => ?_))
          have hH140 := hH138.young (i := 14) kp139 (by exact (Nat.le_trans hH126.1 ybb134)) rfl
          refine ⟨hH140, ?_⟩
          refine XA.done (by kernel_rfl) (thn_norm ?_)
          exact ⟨b134, ⟨rfl, rfl, rfl, rfl, trivial⟩, s139, (ev111.trans (ev123.trans (ev125.trans (ev135.trans (ev137.trans ev139)))))⟩
      · skip
        refine XO.new (cs := [.int .i64 0, .int .u64 0]) (T := 55) s123 rfl (by decide) (fun _ => by kernel_rfl) (fun b141 w142 s142 ev142 kp142 ybb141 => ?_)
        have hH143 := hH124.keep (i := 13) kp142 rfl
        refine ⟨hH143, ?_⟩
        refine XA.op (i := 11) rfl (by kernel_rfl) (by kernel_rfl) (XO.callS (f := 55) (args := [(.int .i64 q.x), (.int .i64 q.y), (.int .i64 r.x), (.int .i64 r.y)].toArray) s142 rfl (by decide) (fun _ => by kernel_rfl) (orient_minor_ok (av A _) _ s142.av_fresh q.x q.y r.x r.y (by unfold Pt.dif inD at *; omega) (by unfold Pt.dif inD at *; omega) (by unfold Pt.dif inD at *; omega) (by unfold Pt.dif inD at *; omega)) (fun _ w144 s144 ev144 kp144 hv_ => ?_))
        obtain rfl := hv_
        have hH145 := hH143.keep (i := 11) kp144 rfl
        refine ⟨hH145, ?_⟩
        refine XA.op (i := 12) rfl (by kernel_rfl) (by kernel_rfl) (XO.callS (f := 86) (args := [(.agg #[.int .i64 (hi128 p.z), .int .u64 (lo128 p.z)]), (.agg #[.int .i64 (hi128 (q.x * r.y - q.y * r.x)), .int .u64 (lo128 (q.x * r.y - q.y * r.x))])].toArray) s144 rfl (by decide) (fun _ => by kernel_rfl) (limb_Mul_ok (av A _) _ s144.av_fresh p.z (q.x * r.y - q.y * r.x) ) (fun _ w146 s146 ev146 kp146 hv_ => ?_))
        obtain rfl := hv_
        have hH147 := hH145.keep (i := 12) kp146 rfl
        refine ⟨hH147, ?_⟩
        refine XA.op (i := 14) rfl (by kernel_rfl) (by kernel_rfl) (XO.storeS (i := 6) (v := .agg #[.int .i64 (hi128 (p.z * (q.x * r.y - q.y * r.x))), .int .u64 (lo128 (p.z * (q.x * r.y - q.y * r.x)))]) (m := 2) (cs' := [.int .i64 (hi128 (p.z * (q.x * r.y - q.y * r.x))), .int .u64 (lo128 (p.z * (q.x * r.y - q.y * r.x)))]) s146 rfl rfl rfl rfl rfl (by kernel_rfl) rfl rfl rfl rfl (fun w148 s148 ev148 kp148 => ?_))
        have hH149 := hH147.young (i := 14) kp148 (by exact (Nat.le_trans hH124.1 ybb141)) rfl
        refine ⟨hH149, ?_⟩
        refine XA.done (by kernel_rfl) (thn_norm ?_)
        exact ⟨b141, ⟨rfl, rfl, rfl, rfl, trivial⟩, s148, (ev111.trans (ev123.trans (ev142.trans (ev144.trans (ev146.trans ev148)))))⟩
    · skip
      refine XO.new (cs := [.int .i64 0, .int .u64 0]) (T := 55) s111 rfl (by decide) (fun _ => by kernel_rfl) (fun b150 w151 s151 ev151 kp151 ybb150 => ?_)
      have hH152 := hH122.keep (i := 13) kp151 rfl
      refine ⟨hH152, ?_⟩
      refine XA.op (i := 2) rfl (by kernel_rfl) (by kernel_rfl) (XO.callS (f := 87) (args := [(.int .i64 p.z)].toArray) s151 rfl (by decide) (fun _ => by kernel_rfl) (limb_Of_ok (av A _) _ s151.av_fresh p.z (by unfold Pt.dif inD at *; omega)) (fun _ w153 s153 ev153 kp153 hv_ => ?_))
      obtain rfl := hv_
      have hH154 := hH152.keep (i := 2) kp153 rfl
      refine ⟨hH154, ?_⟩
      refine XA.op (i := 11) rfl (by kernel_rfl) (by kernel_rfl) (XO.callS (f := 55) (args := [(.int .i64 q.x), (.int .i64 q.y), (.int .i64 r.x), (.int .i64 r.y)].toArray) s153 rfl (by decide) (fun _ => by kernel_rfl) (orient_minor_ok (av A _) _ s153.av_fresh q.x q.y r.x r.y (by unfold Pt.dif inD at *; omega) (by unfold Pt.dif inD at *; omega) (by unfold Pt.dif inD at *; omega) (by unfold Pt.dif inD at *; omega)) (fun _ w155 s155 ev155 kp155 hv_ => ?_))
      obtain rfl := hv_
      have hH156 := hH154.keep (i := 11) kp155 rfl
      refine ⟨hH156, ?_⟩
      refine XA.op (i := 12) rfl (by kernel_rfl) (by kernel_rfl) (XO.callS (f := 86) (args := [(.agg #[.int .i64 (hi128 p.z), .int .u64 (lo128 p.z)]), (.agg #[.int .i64 (hi128 (q.x * r.y - q.y * r.x)), .int .u64 (lo128 (q.x * r.y - q.y * r.x))])].toArray) s155 rfl (by decide) (fun _ => by kernel_rfl) (limb_Mul_ok (av A _) _ s155.av_fresh p.z (q.x * r.y - q.y * r.x) ) (fun _ w157 s157 ev157 kp157 hv_ => ?_))
      obtain rfl := hv_
      have hH158 := hH156.keep (i := 12) kp157 rfl
      refine ⟨hH158, ?_⟩
      refine XA.op (i := 14) rfl (by kernel_rfl) (by kernel_rfl) (XO.storeS (i := 6) (v := .agg #[.int .i64 (hi128 (p.z * (q.x * r.y - q.y * r.x))), .int .u64 (lo128 (p.z * (q.x * r.y - q.y * r.x)))]) (m := 2) (cs' := [.int .i64 (hi128 (p.z * (q.x * r.y - q.y * r.x))), .int .u64 (lo128 (p.z * (q.x * r.y - q.y * r.x)))]) s157 rfl rfl rfl rfl rfl (by kernel_rfl) rfl rfl rfl rfl (fun w159 s159 ev159 kp159 => ?_))
      have hH160 := hH158.young (i := 14) kp159 (by exact (Nat.le_trans hH122.1 ybb150)) rfl
      refine ⟨hH160, ?_⟩
      refine XA.done (by kernel_rfl) (thn_norm ?_)
      exact ⟨b150, ⟨rfl, rfl, rfl, rfl, trivial⟩, s159, (ev111.trans (ev151.trans (ev153.trans (ev155.trans (ev157.trans ev159)))))⟩
  intro ρw161 w161 hJ_
  obtain ⟨b127_, hh161, s161, ev161⟩ := hJ_
  refine XC.rebase hh161 ?_
  refine XC.seq ?_
  refine XC.drawS 6 rfl (fun x => x = b7) 5 (by kernel_rfl) s161 (fun w162 s162 ev162 kp162 hH163 => ?_)
  refine XA.loadS true (j := 0) (i := 4) (v := .agg #[.int .i64 (hi128 (p.x * (q.y * r.z - q.z * r.y))), .int .u64 (lo128 (p.x * (q.y * r.z - q.z * r.y)))]) (g := true) (m := 2) s162 rfl rfl (by kernel_rfl) (by kernel_rfl) (by kernel_rfl) rfl (by kernel_rfl) (fun h => by cases h) (by kernel_rfl) rfl rfl (by decide) hH163 rfl (by kernel_rfl) (by kernel_rfl) rfl rfl rfl (fun hH164 => ?_)
  refine XA.loadS true (j := 1) (i := 5) (v := .agg #[.int .i64 (hi128 (p.y * (q.z * r.x - q.x * r.z))), .int .u64 (lo128 (p.y * (q.z * r.x - q.x * r.z)))]) (g := true) (m := 2) s162 rfl rfl (by kernel_rfl) (by kernel_rfl) (by kernel_rfl) rfl (by kernel_rfl) (fun h => by cases h) (by kernel_rfl) rfl rfl (by decide) hH164 rfl (by kernel_rfl) (by kernel_rfl) rfl rfl rfl (fun hH165 => ?_)
  refine XA.loadS true (j := 3) (i := 6) (v := .agg #[.int .i64 (hi128 (p.z * (q.x * r.y - q.y * r.x))), .int .u64 (lo128 (p.z * (q.x * r.y - q.y * r.x)))]) (g := true) (m := 2) s162 rfl rfl (by kernel_rfl) (by kernel_rfl) (by kernel_rfl) rfl (by kernel_rfl) (fun h => by cases h) (by kernel_rfl) rfl rfl (by decide) hH165 rfl (by kernel_rfl) (by kernel_rfl) rfl rfl rfl (fun hH166 => ?_)
  refine XA.op (i := 2) rfl (by kernel_rfl) (by kernel_rfl) (XO.callS (f := 158) (args := [(.agg #[.int .i64 (hi128 (p.x * (q.y * r.z - q.z * r.y))), .int .u64 (lo128 (p.x * (q.y * r.z - q.z * r.y)))]), (.agg #[.int .i64 (hi128 (p.y * (q.z * r.x - q.x * r.z))), .int .u64 (lo128 (p.y * (q.z * r.x - q.x * r.z)))])].toArray) s162 rfl (by decide) (fun _ => by kernel_rfl) (limb_Add_ok (av A _) _ s162.av_fresh (p.x * (q.y * r.z - q.z * r.y)) (p.y * (q.z * r.x - q.x * r.z)) ) (fun _ w167 s167 ev167 kp167 hv_ => ?_))
  obtain rfl := hv_
  have hH168 := hH166.keep (i := 2) kp167 rfl
  refine ⟨hH168, ?_⟩
  refine XA.op (i := 4) rfl (by kernel_rfl) (by kernel_rfl) (XO.callS (f := 158) (args := [(.agg #[.int .i64 (hi128 ((p.x * (q.y * r.z - q.z * r.y)) + (p.y * (q.z * r.x - q.x * r.z)))), .int .u64 (lo128 ((p.x * (q.y * r.z - q.z * r.y)) + (p.y * (q.z * r.x - q.x * r.z))))]), (.agg #[.int .i64 (hi128 (p.z * (q.x * r.y - q.y * r.x))), .int .u64 (lo128 (p.z * (q.x * r.y - q.y * r.x)))])].toArray) s167 rfl (by decide) (fun _ => by kernel_rfl) (limb_Add_ok (av A _) _ s167.av_fresh ((p.x * (q.y * r.z - q.z * r.y)) + (p.y * (q.z * r.x - q.x * r.z))) (p.z * (q.x * r.y - q.y * r.x)) ) (fun _ w169 s169 ev169 kp169 hv_ => ?_))
  obtain rfl := hv_
  have hH170 := hH168.keep (i := 4) kp169 rfl
  refine ⟨hH170, ?_⟩
  refine XA.op (i := 5) rfl (by kernel_rfl) (by kernel_rfl) (XO.storeS (i := 3) (v := .agg #[.int .i64 (hi128 (((p.x * (q.y * r.z - q.z * r.y)) + (p.y * (q.z * r.x - q.x * r.z))) + (p.z * (q.x * r.y - q.y * r.x)))), .int .u64 (lo128 (((p.x * (q.y * r.z - q.z * r.y)) + (p.y * (q.z * r.x - q.x * r.z))) + (p.z * (q.x * r.y - q.y * r.x))))]) (m := 2) (cs' := [.int .i64 (hi128 (((p.x * (q.y * r.z - q.z * r.y)) + (p.y * (q.z * r.x - q.x * r.z))) + (p.z * (q.x * r.y - q.y * r.x)))), .int .u64 (lo128 (((p.x * (q.y * r.z - q.z * r.y)) + (p.y * (q.z * r.x - q.x * r.z))) + (p.z * (q.x * r.y - q.y * r.x))))]) s169 rfl rfl rfl rfl rfl (by kernel_rfl) rfl rfl rfl rfl (fun w171 s171 ev171 kp171 => ?_))
  have hH172 := hH170.turn (i := 5) kp171 (fun b_ _ e_ => by first | exact e_ | (subst e_; simp)) rfl
  refine ⟨hH172, ?_⟩
  refine XA.done (by kernel_rfl) (thn_norm ?_)
  refine XC.ret ?_
  refine ⟨Or.inr rfl, .agg #[.int .i64 (hi128 (((p.x * (q.y * r.z - q.z * r.y)) + (p.y * (q.z * r.x - q.x * r.z))) + (p.z * (q.x * r.y - q.y * r.x)))), .int .u64 (lo128 (((p.x * (q.y * r.z - q.z * r.y)) + (p.y * (q.z * r.x - q.x * r.z))) + (p.z * (q.x * r.y - q.y * r.x))))], fun a_ ha_ => results_c rfl (res_cell (b := b7) (cs := [.int .i64 (hi128 (((p.x * (q.y * r.z - q.z * r.y)) + (p.y * (q.z * r.x - q.x * r.z))) + (p.z * (q.x * r.y - q.y * r.x)))), .int .u64 (lo128 (((p.x * (q.y * r.z - q.z * r.y)) + (p.y * (q.z * r.x - q.x * r.z))) + (p.z * (q.x * r.y - q.y * r.x))))]) (g := true) (sz := 2) (v := .agg #[.int .i64 (hi128 (((p.x * (q.y * r.z - q.z * r.y)) + (p.y * (q.z * r.x - q.x * r.z))) + (p.z * (q.x * r.y - q.y * r.x)))), .int .u64 (lo128 (((p.x * (q.y * r.z - q.z * r.y)) + (p.y * (q.z * r.x - q.x * r.z))) + (p.z * (q.x * r.y - q.y * r.x))))]) ha_ rfl (s171.at_ (i := 3) rfl) (by kernel_rfl) (by kernel_rfl) rfl rfl rfl), s171.keep, ?_⟩
  rfl

theorem orient_det_ok (A : Nat → Prop) (w0 : World) (hA : ∀ b, w0.heap.size ≤ b → A b) (a : Pt) (b : Pt) (c : Pt) (d : Pt) (ha : a.ok) (hb : b.ok) (hc : c.ok) (hd : d.ok)  : Cal Tryz.prog 89 [(.agg #[.int .i64 a.x, .int .i64 a.y, .int .i64 a.z]), (.agg #[.int .i64 b.x, .int .i64 b.y, .int .i64 b.z]), (.agg #[.int .i64 c.x, .int .i64 c.y, .int .i64 c.z]), (.agg #[.int .i64 d.x, .int .i64 d.y, .int .i64 d.z])].toArray w0 (fun v w' => Keep none_ w0 w' ∧ v = .agg #[.int .i64 (hi128 (det4 a b c d)), .int .u64 (lo128 (det4 a b c d))]) := by
  have s0 : Stt A w0 none_ [] w0 := Stt.start hA none_
  refine Cal.intro (n := 22) Tryz.func89 rfl Tryz.ntmps89 rfl ?_
  refine XC.seq ?_
  refine XC.region ?_
  refine XS.op rfl rfl (XO.new (cs := [.int .i64 a.x, .int .i64 a.y, .int .i64 a.z]) (T := 24) s0 rfl (by decide) (fun _ => by kernel_rfl) (fun b1 w2 s2 ev2 kp2 ybb1 => ?_))
  refine XS.op rfl rfl (XO.new (cs := [.int .i64 b.x, .int .i64 b.y, .int .i64 b.z]) (T := 24) s2 rfl (by decide) (fun _ => by kernel_rfl) (fun b3 w4 s4 ev4 kp4 ybb3 => ?_))
  refine XS.op rfl rfl (XO.new (cs := [.int .i64 c.x, .int .i64 c.y, .int .i64 c.z]) (T := 24) s4 rfl (by decide) (fun _ => by kernel_rfl) (fun b5 w6 s6 ev6 kp6 ybb5 => ?_))
  refine XS.op rfl rfl (XO.new (cs := [.int .i64 d.x, .int .i64 d.y, .int .i64 d.z]) (T := 24) s6 rfl (by decide) (fun _ => by kernel_rfl) (fun b7 w8 s8 ev8 kp8 ybb7 => ?_))
  refine XS.op rfl rfl (XO.new (cs := [.int .i64 0, .int .u64 0]) (T := 55) s8 rfl (by decide) (fun _ => by kernel_rfl) (fun b9 w10 s10 ev10 kp10 ybb9 => ?_))
  refine XS.done rfl (thn_norm ?_)
  refine XC.seq ?_
  refine XC.drawS 14 rfl (fun x => x = b9) 13 (by kernel_rfl) s10 (fun w11 s11 ev11 kp11 hH12 => ?_)
  refine XA.loadS true (j := 0) (i := 0) (v := .agg #[.int .i64 a.x, .int .i64 a.y, .int .i64 a.z]) (g := true) (m := 3) s11 rfl rfl (by kernel_rfl) (by kernel_rfl) (by kernel_rfl) rfl (by kernel_rfl) (fun h => by cases h) (by kernel_rfl) rfl rfl (by decide) hH12 rfl (by kernel_rfl) (by kernel_rfl) rfl rfl rfl (fun hH13 => ?_)
  refine XA.loadS true (j := 1) (i := 3) (v := .agg #[.int .i64 d.x, .int .i64 d.y, .int .i64 d.z]) (g := true) (m := 3) s11 rfl rfl (by kernel_rfl) (by kernel_rfl) (by kernel_rfl) rfl (by kernel_rfl) (fun h => by cases h) (by kernel_rfl) rfl rfl (by decide) hH13 rfl (by kernel_rfl) (by kernel_rfl) rfl rfl rfl (fun hH14 => ?_)
  refine XA.loadS true (j := 4) (i := 1) (v := .agg #[.int .i64 b.x, .int .i64 b.y, .int .i64 b.z]) (g := true) (m := 3) s11 rfl rfl (by kernel_rfl) (by kernel_rfl) (by kernel_rfl) rfl (by kernel_rfl) (fun h => by cases h) (by kernel_rfl) rfl rfl (by decide) hH14 rfl (by kernel_rfl) (by kernel_rfl) rfl rfl rfl (fun hH15 => ?_)
  refine XA.loadS true (j := 5) (i := 3) (v := .agg #[.int .i64 d.x, .int .i64 d.y, .int .i64 d.z]) (g := true) (m := 3) s11 rfl rfl (by kernel_rfl) (by kernel_rfl) (by kernel_rfl) rfl (by kernel_rfl) (fun h => by cases h) (by kernel_rfl) rfl rfl (by decide) hH15 rfl (by kernel_rfl) (by kernel_rfl) rfl rfl rfl (fun hH16 => ?_)
  refine XA.loadS true (j := 8) (i := 2) (v := .agg #[.int .i64 c.x, .int .i64 c.y, .int .i64 c.z]) (g := true) (m := 3) s11 rfl rfl (by kernel_rfl) (by kernel_rfl) (by kernel_rfl) rfl (by kernel_rfl) (fun h => by cases h) (by kernel_rfl) rfl rfl (by decide) hH16 rfl (by kernel_rfl) (by kernel_rfl) rfl rfl rfl (fun hH17 => ?_)
  refine XA.loadS true (j := 9) (i := 3) (v := .agg #[.int .i64 d.x, .int .i64 d.y, .int .i64 d.z]) (g := true) (m := 3) s11 rfl rfl (by kernel_rfl) (by kernel_rfl) (by kernel_rfl) rfl (by kernel_rfl) (fun h => by cases h) (by kernel_rfl) rfl rfl (by decide) hH17 rfl (by kernel_rfl) (by kernel_rfl) rfl rfl rfl (fun hH18 => ?_)
  refine XA.op (i := 2) rfl (by kernel_rfl) (by kernel_rfl) (XO.callS (f := 54) (args := [(.agg #[.int .i64 a.x, .int .i64 a.y, .int .i64 a.z]), (.agg #[.int .i64 d.x, .int .i64 d.y, .int .i64 d.z])].toArray) s11 rfl (by decide) (fun _ => by kernel_rfl) (orient_less_ok (av A _) _ s11.av_fresh a d (by first | assumption | exact Pt.ok.sub ‹_› ‹_›) (by first | assumption | exact Pt.ok.sub ‹_› ‹_›)) (fun _ w19 s19 ev19 kp19 hv_ => ?_))
  obtain rfl := hv_
  have hH20 := hH18.keep (i := 2) kp19 rfl
  refine ⟨hH20, ?_⟩
  refine XA.op (i := 3) rfl (by kernel_rfl) (by kernel_rfl) (XO.callS (f := 125) (args := [(.agg #[.int .i64 ((Pt.sub a d).x), .int .i64 ((Pt.sub a d).y), .int .i64 ((Pt.sub a d).z)])].toArray) s19 rfl (by decide) (fun _ => by kernel_rfl) (orient_row_ok (av A _) _ s19.av_fresh (Pt.sub a d) ) (fun _ w21 s21 ev21 kp21 hv_ => ?_))
  obtain rfl := hv_
  have hH22 := hH20.keep (i := 3) kp21 rfl
  refine ⟨hH22, ?_⟩
  refine XA.op (i := 6) rfl (by kernel_rfl) (by kernel_rfl) (XO.callS (f := 54) (args := [(.agg #[.int .i64 b.x, .int .i64 b.y, .int .i64 b.z]), (.agg #[.int .i64 d.x, .int .i64 d.y, .int .i64 d.z])].toArray) s21 rfl (by decide) (fun _ => by kernel_rfl) (orient_less_ok (av A _) _ s21.av_fresh b d (by first | assumption | exact Pt.ok.sub ‹_› ‹_›) (by first | assumption | exact Pt.ok.sub ‹_› ‹_›)) (fun _ w23 s23 ev23 kp23 hv_ => ?_))
  obtain rfl := hv_
  have hH24 := hH22.keep (i := 6) kp23 rfl
  refine ⟨hH24, ?_⟩
  refine XA.op (i := 7) rfl (by kernel_rfl) (by kernel_rfl) (XO.callS (f := 125) (args := [(.agg #[.int .i64 ((Pt.sub b d).x), .int .i64 ((Pt.sub b d).y), .int .i64 ((Pt.sub b d).z)])].toArray) s23 rfl (by decide) (fun _ => by kernel_rfl) (orient_row_ok (av A _) _ s23.av_fresh (Pt.sub b d) ) (fun _ w25 s25 ev25 kp25 hv_ => ?_))
  obtain rfl := hv_
  have hH26 := hH24.keep (i := 7) kp25 rfl
  refine ⟨hH26, ?_⟩
  refine XA.op (i := 10) rfl (by kernel_rfl) (by kernel_rfl) (XO.callS (f := 54) (args := [(.agg #[.int .i64 c.x, .int .i64 c.y, .int .i64 c.z]), (.agg #[.int .i64 d.x, .int .i64 d.y, .int .i64 d.z])].toArray) s25 rfl (by decide) (fun _ => by kernel_rfl) (orient_less_ok (av A _) _ s25.av_fresh c d (by first | assumption | exact Pt.ok.sub ‹_› ‹_›) (by first | assumption | exact Pt.ok.sub ‹_› ‹_›)) (fun _ w27 s27 ev27 kp27 hv_ => ?_))
  obtain rfl := hv_
  have hH28 := hH26.keep (i := 10) kp27 rfl
  refine ⟨hH28, ?_⟩
  refine XA.op (i := 11) rfl (by kernel_rfl) (by kernel_rfl) (XO.callS (f := 125) (args := [(.agg #[.int .i64 ((Pt.sub c d).x), .int .i64 ((Pt.sub c d).y), .int .i64 ((Pt.sub c d).z)])].toArray) s27 rfl (by decide) (fun _ => by kernel_rfl) (orient_row_ok (av A _) _ s27.av_fresh (Pt.sub c d) ) (fun _ w29 s29 ev29 kp29 hv_ => ?_))
  obtain rfl := hv_
  have hH30 := hH28.keep (i := 11) kp29 rfl
  refine ⟨hH30, ?_⟩
  refine XA.op (i := 12) rfl (by kernel_rfl) (by kernel_rfl) (XO.callS (f := 124) (args := [(.agg #[.int .i64 ((Pt.sub a d).x), .int .i64 ((Pt.sub a d).y), .int .i64 ((Pt.sub a d).z)]), (.agg #[.int .i64 ((Pt.sub b d).x), .int .i64 ((Pt.sub b d).y), .int .i64 ((Pt.sub b d).z)]), (.agg #[.int .i64 ((Pt.sub c d).x), .int .i64 ((Pt.sub c d).y), .int .i64 ((Pt.sub c d).z)])].toArray) s29 rfl (by decide) (fun _ => by kernel_rfl) (orient_three_ok (av A _) _ s29.av_fresh (Pt.sub a d) (Pt.sub b d) (Pt.sub c d) (by first | assumption | exact Pt.ok.sub ‹_› ‹_›) (by first | assumption | exact Pt.ok.sub ‹_› ‹_›) (by first | assumption | exact Pt.ok.sub ‹_› ‹_›)) (fun _ w31 s31 ev31 kp31 hv_ => ?_))
  obtain rfl := hv_
  have hH32 := hH30.keep (i := 12) kp31 rfl
  refine ⟨hH32, ?_⟩
  refine XA.op (i := 13) rfl (by kernel_rfl) (by kernel_rfl) (XO.storeS (i := 4) (v := .agg #[.int .i64 (hi128 (det3 (Pt.sub a d) (Pt.sub b d) (Pt.sub c d))), .int .u64 (lo128 (det3 (Pt.sub a d) (Pt.sub b d) (Pt.sub c d)))]) (m := 2) (cs' := [.int .i64 (hi128 (det3 (Pt.sub a d) (Pt.sub b d) (Pt.sub c d))), .int .u64 (lo128 (det3 (Pt.sub a d) (Pt.sub b d) (Pt.sub c d)))]) s31 rfl rfl rfl rfl rfl (by kernel_rfl) rfl rfl rfl rfl (fun w33 s33 ev33 kp33 => ?_))
  have hH34 := hH32.turn (i := 13) kp33 (fun b_ _ e_ => by first | exact e_ | (subst e_; simp)) rfl
  refine ⟨hH34, ?_⟩
  refine XA.done (by kernel_rfl) (thn_norm ?_)
  refine XC.ret ?_
  refine ⟨Or.inr rfl, .agg #[.int .i64 (hi128 (det3 (Pt.sub a d) (Pt.sub b d) (Pt.sub c d))), .int .u64 (lo128 (det3 (Pt.sub a d) (Pt.sub b d) (Pt.sub c d)))], fun a_ ha_ => results_c rfl (res_cell (b := b9) (cs := [.int .i64 (hi128 (det3 (Pt.sub a d) (Pt.sub b d) (Pt.sub c d))), .int .u64 (lo128 (det3 (Pt.sub a d) (Pt.sub b d) (Pt.sub c d)))]) (g := true) (sz := 2) (v := .agg #[.int .i64 (hi128 (det3 (Pt.sub a d) (Pt.sub b d) (Pt.sub c d))), .int .u64 (lo128 (det3 (Pt.sub a d) (Pt.sub b d) (Pt.sub c d)))]) ha_ rfl (s33.at_ (i := 4) rfl) (by kernel_rfl) (by kernel_rfl) rfl rfl rfl), s33.keep, ?_⟩
  rfl

theorem orient_may_1_ok (A : Nat → Prop) (w0 : World) (hA : ∀ b, w0.heap.size ≤ b → A b) (n : Int)  : Cal Tryz.prog 88 [(.int .i64 n)].toArray w0 (fun v w' => Keep none_ w0 w' ∧ v = .bool (decide (inC n))) := by
  have s0 : Stt A w0 none_ [] w0 := Stt.start hA none_
  refine Cal.intro (n := 9) Tryz.func88 rfl Tryz.ntmps88 rfl ?_
  refine XC.seq ?_
  refine XC.region ?_
  refine XS.vals' 1 [(2, .bool false)] (by kernel_rfl) ?_
  refine XS.done rfl (thn_norm ?_)
  refine XC.seq ?_
  refine XC.region ?_
  refine XS.vals' 3 [(3, .int .i64 n), (4, .bool (decide (n ≥ (-1073741824)))), (5, .bool (decide (n ≥ (-1073741824))))] (by kernel_rfl) ?_
  refine XS.onD 5 (n ≥ (-1073741824)) rfl (fun hg1 => ?_) (fun hg1 => ?_)
  · skip
    refine XS.vals' 4 [(6, .int .i64 n), (7, .bool (decide (n ≤ 1073741824))), (8, .bool (decide (n ≤ 1073741824))), (2, .bool (decide (n ≤ 1073741824)))] (by kernel_rfl) ?_
    refine XS.done rfl (thn_norm ?_)
    refine XC.ret ?_
    refine ⟨Or.inr rfl, .bool (decide (n ≤ 1073741824)), fun a_ ha_ => results_t rfl ha_ rfl, s0.keep, ?_⟩
    refine congrArg Value.bool ?_
    unfold inC at *
    first | (simp [*]; done) | (rw [Bool.eq_iff_iff]; simp; omega) | (symm; rw [decide_eq_true_eq]; omega) | (symm; rw [decide_eq_false_iff_not]; omega)
  · skip
    refine XS.vals' 4 [(6, undef), (7, undef), (8, .bool false), (2, .bool false)] (by kernel_rfl) ?_
    refine XS.done rfl (thn_norm ?_)
    refine XC.ret ?_
    refine ⟨Or.inr rfl, .bool false, fun a_ ha_ => results_t rfl ha_ rfl, s0.keep, ?_⟩
    refine congrArg Value.bool ?_
    unfold inC at *
    first | (simp [*]; done) | (rw [Bool.eq_iff_iff]; simp; omega) | (symm; rw [decide_eq_true_eq]; omega) | (symm; rw [decide_eq_false_iff_not]; omega)

theorem orient_may_ok (A : Nat → Prop) (w0 : World) (hA : ∀ b, w0.heap.size ≤ b → A b) (p : Pt)  : Cal Tryz.prog 53 [(.agg #[.int .i64 p.x, .int .i64 p.y, .int .i64 p.z])].toArray w0 (fun v w' => Keep none_ w0 w' ∧ v = .bool (decide (p.ok))) := by
  have s0 : Stt A w0 none_ [] w0 := Stt.start hA none_
  refine Cal.intro (n := 20) Tryz.func53 rfl Tryz.ntmps53 rfl ?_
  refine XC.seq ?_
  refine XC.region ?_
  refine XS.op rfl rfl (XO.new (cs := [.int .i64 p.x, .int .i64 p.y, .int .i64 p.z]) (T := 24) s0 rfl (by decide) (fun _ => by kernel_rfl) (fun b1 w2 s2 ev2 kp2 ybb1 => ?_))
  refine XS.vals' 1 [(2, .bool false)] (by kernel_rfl) ?_
  refine XS.done rfl (thn_norm ?_)
  refine XC.seq ?_
  refine XC.region ?_
  refine XS.vals' 1 [(3, .func (.func 88) #[] #[])] (by kernel_rfl) ?_
  refine XS.done rfl (thn_norm ?_)
  refine XC.seq ?_
  refine XC.region ?_
  refine XS.vals' 2 [(4, .func (.func 88) #[] #[]), (5, .pointer (some ⟨b1, 0, none⟩))] (by kernel_rfl) ?_
  refine XS.op rfl rfl (XO.loadS (i := 0) (v := .int .i64 p.x) (g := false) (m := 1) s2 rfl rfl rfl (by decide) rfl (by kernel_rfl) (by kernel_rfl) rfl rfl rfl ?_)
  refine XS.op rfl rfl (XO.callS (f := 88) (args := [(.int .i64 p.x)].toArray) s2 rfl (by decide) (fun _ => by kernel_rfl) (orient_may_1_ok (av A _) _ s2.av_fresh p.x ) (fun _ w3 s3 ev3 kp3 hv_ => ?_))
  obtain rfl := hv_
  refine XS.vals' 1 [(8, .bool (decide (inC p.x)))] (by kernel_rfl) ?_
  refine XS.onD 8 (inC p.x) rfl (fun hg4 => ?_) (fun hg4 => ?_)
  · skip
    refine XS.vals' 2 [(9, .func (.func 88) #[] #[]), (10, .pointer (some ⟨b1, 1, none⟩))] (by kernel_rfl) ?_
    refine XS.op_g rfl rfl rfl (XO.loadS (i := 0) (v := .int .i64 p.y) (g := false) (m := 1) s3 rfl rfl rfl (by decide) rfl (by kernel_rfl) (by kernel_rfl) rfl rfl rfl ?_)
    refine XS.op_g rfl rfl rfl (XO.callS (f := 88) (args := [(.int .i64 p.y)].toArray) s3 rfl (by decide) (fun _ => by kernel_rfl) (orient_may_1_ok (av A _) _ s3.av_fresh p.y ) (fun _ w5 s5 ev5 kp5 hv_ => ?_))
    obtain rfl := hv_
    refine XS.vals' 2 [(13, .bool (decide (inC p.y))), (14, .bool (decide (inC p.y)))] (by kernel_rfl) ?_
    refine XS.onD 14 (inC p.y) rfl (fun hg6 => ?_) (fun hg6 => ?_)
    · skip
      refine XS.vals' 2 [(15, .func (.func 88) #[] #[]), (16, .pointer (some ⟨b1, 2, none⟩))] (by kernel_rfl) ?_
      refine XS.op_g rfl rfl rfl (XO.loadS (i := 0) (v := .int .i64 p.z) (g := false) (m := 1) s5 rfl rfl rfl (by decide) rfl (by kernel_rfl) (by kernel_rfl) rfl rfl rfl ?_)
      refine XS.op_g rfl rfl rfl (XO.callS (f := 88) (args := [(.int .i64 p.z)].toArray) s5 rfl (by decide) (fun _ => by kernel_rfl) (orient_may_1_ok (av A _) _ s5.av_fresh p.z ) (fun _ w7 s7 ev7 kp7 hv_ => ?_))
      obtain rfl := hv_
      refine XS.vals' 2 [(19, .bool (decide (inC p.z))), (2, .bool (decide (inC p.z)))] (by kernel_rfl) ?_
      refine XS.done rfl (thn_norm ?_)
      refine XC.ret ?_
      refine ⟨Or.inr rfl, .bool (decide (inC p.z)), fun a_ ha_ => results_t rfl ha_ rfl, s7.keep, ?_⟩
      refine congrArg Value.bool ?_
      unfold Pt.ok at *
      first | (simp [*]; done) | (rw [Bool.eq_iff_iff]; simp; omega) | (symm; rw [decide_eq_true_eq]; omega) | (symm; rw [decide_eq_false_iff_not]; omega)
    · skip
      refine XS.vals' 6 [(15, undef), (16, undef), (17, undef), (18, undef), (19, .bool false), (2, .bool false)] (by kernel_rfl) ?_
      refine XS.done rfl (thn_norm ?_)
      refine XC.ret ?_
      refine ⟨Or.inr rfl, .bool false, fun a_ ha_ => results_t rfl ha_ rfl, s5.keep, ?_⟩
      refine congrArg Value.bool ?_
      unfold Pt.ok at *
      first | (simp [*]; done) | (rw [Bool.eq_iff_iff]; simp; omega) | (symm; rw [decide_eq_true_eq]; omega) | (symm; rw [decide_eq_false_iff_not]; omega)
  · skip
    refine XS.vals' 12 [(9, undef), (10, undef), (11, undef), (12, undef), (13, .bool false), (14, .bool false), (15, undef), (16, undef), (17, undef), (18, undef), (19, .bool false), (2, .bool false)] (by kernel_rfl) ?_
    refine XS.done rfl (thn_norm ?_)
    refine XC.ret ?_
    refine ⟨Or.inr rfl, .bool false, fun a_ ha_ => results_t rfl ha_ rfl, s3.keep, ?_⟩
    refine congrArg Value.bool ?_
    unfold Pt.ok at *
    first | (simp [*]; done) | (rw [Bool.eq_iff_iff]; simp; omega) | (symm; rw [decide_eq_true_eq]; omega) | (symm; rw [decide_eq_false_iff_not]; omega)

theorem orient_Det_ok (A : Nat → Prop) (w0 : World) (hA : ∀ b, w0.heap.size ≤ b → A b) (a : Pt) (b : Pt) (c : Pt) (d : Pt) (ha : a.ok) (hb : b.ok) (hc : c.ok) (hd : d.ok)  : Cal Tryz.prog 56 [(.agg #[.int .i64 a.x, .int .i64 a.y, .int .i64 a.z]), (.agg #[.int .i64 b.x, .int .i64 b.y, .int .i64 b.z]), (.agg #[.int .i64 c.x, .int .i64 c.y, .int .i64 c.z]), (.agg #[.int .i64 d.x, .int .i64 d.y, .int .i64 d.z])].toArray w0 (fun v w' => Keep none_ w0 w' ∧ v = .tuple #[(.agg #[.int .i64 (hi128 (det4 a b c d)), .int .u64 (lo128 (det4 a b c d))]), (.bool (decide (True)))]) := by
  have s0 : Stt A w0 none_ [] w0 := Stt.start hA none_
  refine Cal.intro (n := 34) Tryz.func56 rfl Tryz.ntmps56 rfl ?_
  refine XC.seq ?_
  refine XC.region ?_
  refine XS.op rfl rfl (XO.new (cs := [.int .i64 a.x, .int .i64 a.y, .int .i64 a.z]) (T := 24) s0 rfl (by decide) (fun _ => by kernel_rfl) (fun b1 w2 s2 ev2 kp2 ybb1 => ?_))
  refine XS.op rfl rfl (XO.new (cs := [.int .i64 b.x, .int .i64 b.y, .int .i64 b.z]) (T := 24) s2 rfl (by decide) (fun _ => by kernel_rfl) (fun b3 w4 s4 ev4 kp4 ybb3 => ?_))
  refine XS.op rfl rfl (XO.new (cs := [.int .i64 c.x, .int .i64 c.y, .int .i64 c.z]) (T := 24) s4 rfl (by decide) (fun _ => by kernel_rfl) (fun b5 w6 s6 ev6 kp6 ybb5 => ?_))
  refine XS.op rfl rfl (XO.new (cs := [.int .i64 d.x, .int .i64 d.y, .int .i64 d.z]) (T := 24) s6 rfl (by decide) (fun _ => by kernel_rfl) (fun b7 w8 s8 ev8 kp8 ybb7 => ?_))
  refine XS.op rfl rfl (XO.new (cs := [.int .i64 0, .int .u64 0]) (T := 55) s8 rfl (by decide) (fun _ => by kernel_rfl) (fun b9 w10 s10 ev10 kp10 ybb9 => ?_))
  refine XS.vals' 1 [(9, .bool false)] (by kernel_rfl) ?_
  refine XS.done rfl (thn_norm ?_)
  refine XC.seq ?_
  refine XC.seq ?_
  refine XC.region ?_
  refine XS.op rfl rfl (XO.loadS (i := 0) (v := .agg #[.int .i64 a.x, .int .i64 a.y, .int .i64 a.z]) (g := true) (m := 3) s10 rfl rfl rfl (by decide) rfl (by kernel_rfl) (by kernel_rfl) rfl rfl rfl ?_)
  refine XS.op rfl rfl (XO.callS (f := 53) (args := [(.agg #[.int .i64 a.x, .int .i64 a.y, .int .i64 a.z])].toArray) s10 rfl (by decide) (fun _ => by kernel_rfl) (orient_may_ok (av A _) _ s10.av_fresh a ) (fun _ w11 s11 ev11 kp11 hv_ => ?_))
  obtain rfl := hv_
  refine XS.vals' 2 [(12, .bool (!decide (a.ok))), (13, .bool (!decide (a.ok)))] (by kernel_rfl) ?_
  refine XS.onN 13 (a.ok) rfl (fun h_ => absurd ha h_) (fun _ => ?_)
  refine XS.op_g rfl rfl rfl (XO.loadS (i := 1) (v := .agg #[.int .i64 b.x, .int .i64 b.y, .int .i64 b.z]) (g := true) (m := 3) s11 rfl rfl rfl (by decide) rfl (by kernel_rfl) (by kernel_rfl) rfl rfl rfl ?_)
  refine XS.op_g rfl rfl rfl (XO.callS (f := 53) (args := [(.agg #[.int .i64 b.x, .int .i64 b.y, .int .i64 b.z])].toArray) s11 rfl (by decide) (fun _ => by kernel_rfl) (orient_may_ok (av A _) _ s11.av_fresh b ) (fun _ w13 s13 ev13 kp13 hv_ => ?_))
  obtain rfl := hv_
  refine XS.vals' 3 [(16, .bool (!decide (b.ok))), (17, .bool (!decide (b.ok))), (18, .bool (!decide (b.ok)))] (by kernel_rfl) ?_
  refine XS.onN 18 (b.ok) rfl (fun h_ => absurd hb h_) (fun _ => ?_)
  refine XS.op_g rfl rfl rfl (XO.loadS (i := 2) (v := .agg #[.int .i64 c.x, .int .i64 c.y, .int .i64 c.z]) (g := true) (m := 3) s13 rfl rfl rfl (by decide) rfl (by kernel_rfl) (by kernel_rfl) rfl rfl rfl ?_)
  refine XS.op_g rfl rfl rfl (XO.callS (f := 53) (args := [(.agg #[.int .i64 c.x, .int .i64 c.y, .int .i64 c.z])].toArray) s13 rfl (by decide) (fun _ => by kernel_rfl) (orient_may_ok (av A _) _ s13.av_fresh c ) (fun _ w15 s15 ev15 kp15 hv_ => ?_))
  obtain rfl := hv_
  refine XS.vals' 3 [(21, .bool (!decide (c.ok))), (22, .bool (!decide (c.ok))), (23, .bool (!decide (c.ok)))] (by kernel_rfl) ?_
  refine XS.onN 23 (c.ok) rfl (fun h_ => absurd hc h_) (fun _ => ?_)
  refine XS.op_g rfl rfl rfl (XO.loadS (i := 3) (v := .agg #[.int .i64 d.x, .int .i64 d.y, .int .i64 d.z]) (g := true) (m := 3) s15 rfl rfl rfl (by decide) rfl (by kernel_rfl) (by kernel_rfl) rfl rfl rfl ?_)
  refine XS.op_g rfl rfl rfl (XO.callS (f := 53) (args := [(.agg #[.int .i64 d.x, .int .i64 d.y, .int .i64 d.z])].toArray) s15 rfl (by decide) (fun _ => by kernel_rfl) (orient_may_ok (av A _) _ s15.av_fresh d ) (fun _ w17 s17 ev17 kp17 hv_ => ?_))
  obtain rfl := hv_
  refine XS.vals' 2 [(26, .bool (!decide (d.ok))), (27, .bool (!decide (d.ok)))] (by kernel_rfl) ?_
  refine XS.done rfl (thn_norm ?_)
  refine XC.cond_f (congrArg Value.bool (by rw [decide_eq_true hd]; rfl)) ?_
  refine XC.skip (thn_norm ?_)
  refine XC.seq ?_
  refine XC.region ?_
  refine XS.op rfl rfl (XO.loadS (i := 0) (v := .agg #[.int .i64 a.x, .int .i64 a.y, .int .i64 a.z]) (g := true) (m := 3) s17 rfl rfl rfl (by decide) rfl (by kernel_rfl) (by kernel_rfl) rfl rfl rfl ?_)
  refine XS.op rfl rfl (XO.loadS (i := 1) (v := .agg #[.int .i64 b.x, .int .i64 b.y, .int .i64 b.z]) (g := true) (m := 3) s17 rfl rfl rfl (by decide) rfl (by kernel_rfl) (by kernel_rfl) rfl rfl rfl ?_)
  refine XS.op rfl rfl (XO.loadS (i := 2) (v := .agg #[.int .i64 c.x, .int .i64 c.y, .int .i64 c.z]) (g := true) (m := 3) s17 rfl rfl rfl (by decide) rfl (by kernel_rfl) (by kernel_rfl) rfl rfl rfl ?_)
  refine XS.op rfl rfl (XO.loadS (i := 3) (v := .agg #[.int .i64 d.x, .int .i64 d.y, .int .i64 d.z]) (g := true) (m := 3) s17 rfl rfl rfl (by decide) rfl (by kernel_rfl) (by kernel_rfl) rfl rfl rfl ?_)
  refine XS.op rfl rfl (XO.callS (f := 89) (args := [(.agg #[.int .i64 a.x, .int .i64 a.y, .int .i64 a.z]), (.agg #[.int .i64 b.x, .int .i64 b.y, .int .i64 b.z]), (.agg #[.int .i64 c.x, .int .i64 c.y, .int .i64 c.z]), (.agg #[.int .i64 d.x, .int .i64 d.y, .int .i64 d.z])].toArray) s17 rfl (by decide) (fun _ => by kernel_rfl) (orient_det_ok (av A _) _ s17.av_fresh a b c d (by assumption) (by assumption) (by assumption) (by assumption)) (fun _ w19 s19 ev19 kp19 hv_ => ?_))
  obtain rfl := hv_
  refine XS.op rfl rfl (XO.storeS (i := 4) (v := .agg #[.int .i64 (hi128 (det4 a b c d)), .int .u64 (lo128 (det4 a b c d))]) (m := 2) (cs' := [.int .i64 (hi128 (det4 a b c d)), .int .u64 (lo128 (det4 a b c d))]) s19 rfl rfl rfl rfl rfl (by kernel_rfl) rfl rfl rfl rfl (fun w20 s20 ev20 kp20 => ?_))
  refine XS.vals' 1 [(9, .bool true)] (by kernel_rfl) ?_
  refine XS.done rfl (thn_norm ?_)
  refine XC.ret ?_
  refine ⟨Or.inr rfl, .tuple #[(.agg #[.int .i64 (hi128 (det4 a b c d)), .int .u64 (lo128 (det4 a b c d))]), (.bool true)], fun a_ ha_ => results_ct rfl (res_cell (b := b9) (cs := [.int .i64 (hi128 (det4 a b c d)), .int .u64 (lo128 (det4 a b c d))]) (g := true) (sz := 2) (v := .agg #[.int .i64 (hi128 (det4 a b c d)), .int .u64 (lo128 (det4 a b c d))]) ha_ rfl (s20.at_ (i := 4) rfl) (by kernel_rfl) (by kernel_rfl) rfl rfl rfl) ha_ rfl, s20.keep, ?_⟩
  simp

theorem orient_Exact_ok (A : Nat → Prop) (w0 : World) (hA : ∀ b, w0.heap.size ≤ b → A b) (a : Pt) (b : Pt) (c : Pt) (d : Pt) (ha : a.ok) (hb : b.ok) (hc : c.ok) (hd : d.ok)  : Cal Tryz.prog 30 [(.agg #[.int .i64 a.x, .int .i64 a.y, .int .i64 a.z]), (.agg #[.int .i64 b.x, .int .i64 b.y, .int .i64 b.z]), (.agg #[.int .i64 c.x, .int .i64 c.y, .int .i64 c.z]), (.agg #[.int .i64 d.x, .int .i64 d.y, .int .i64 d.z])].toArray w0 (fun v w' => Keep none_ w0 w' ∧ v = .tuple #[(.int .i64 (cmp128 (det4 a b c d) 0)), (.bool (decide (True)))]) := by
  have s0 : Stt A w0 none_ [] w0 := Stt.start hA none_
  refine Cal.intro (n := 23) Tryz.func30 rfl Tryz.ntmps30 rfl ?_
  refine XC.seq ?_
  refine XC.region ?_
  refine XS.op rfl rfl (XO.new (cs := [.int .i64 a.x, .int .i64 a.y, .int .i64 a.z]) (T := 24) s0 rfl (by decide) (fun _ => by kernel_rfl) (fun b1 w2 s2 ev2 kp2 ybb1 => ?_))
  refine XS.op rfl rfl (XO.new (cs := [.int .i64 b.x, .int .i64 b.y, .int .i64 b.z]) (T := 24) s2 rfl (by decide) (fun _ => by kernel_rfl) (fun b3 w4 s4 ev4 kp4 ybb3 => ?_))
  refine XS.op rfl rfl (XO.new (cs := [.int .i64 c.x, .int .i64 c.y, .int .i64 c.z]) (T := 24) s4 rfl (by decide) (fun _ => by kernel_rfl) (fun b5 w6 s6 ev6 kp6 ybb5 => ?_))
  refine XS.op rfl rfl (XO.new (cs := [.int .i64 d.x, .int .i64 d.y, .int .i64 d.z]) (T := 24) s6 rfl (by decide) (fun _ => by kernel_rfl) (fun b7 w8 s8 ev8 kp8 ybb7 => ?_))
  refine XS.vals' 2 [(8, .int .i64 0), (9, .bool false)] (by kernel_rfl) ?_
  refine XS.done rfl (thn_norm ?_)
  refine XC.seq ?_
  refine XC.region ?_
  refine XS.op rfl rfl (XO.loadS (i := 0) (v := .agg #[.int .i64 a.x, .int .i64 a.y, .int .i64 a.z]) (g := true) (m := 3) s8 rfl rfl rfl (by decide) rfl (by kernel_rfl) (by kernel_rfl) rfl rfl rfl ?_)
  refine XS.op rfl rfl (XO.loadS (i := 1) (v := .agg #[.int .i64 b.x, .int .i64 b.y, .int .i64 b.z]) (g := true) (m := 3) s8 rfl rfl rfl (by decide) rfl (by kernel_rfl) (by kernel_rfl) rfl rfl rfl ?_)
  refine XS.op rfl rfl (XO.loadS (i := 2) (v := .agg #[.int .i64 c.x, .int .i64 c.y, .int .i64 c.z]) (g := true) (m := 3) s8 rfl rfl rfl (by decide) rfl (by kernel_rfl) (by kernel_rfl) rfl rfl rfl ?_)
  refine XS.op rfl rfl (XO.loadS (i := 3) (v := .agg #[.int .i64 d.x, .int .i64 d.y, .int .i64 d.z]) (g := true) (m := 3) s8 rfl rfl rfl (by decide) rfl (by kernel_rfl) (by kernel_rfl) rfl rfl rfl ?_)
  refine XS.op rfl rfl (XO.callS (f := 56) (args := [(.agg #[.int .i64 a.x, .int .i64 a.y, .int .i64 a.z]), (.agg #[.int .i64 b.x, .int .i64 b.y, .int .i64 b.z]), (.agg #[.int .i64 c.x, .int .i64 c.y, .int .i64 c.z]), (.agg #[.int .i64 d.x, .int .i64 d.y, .int .i64 d.z])].toArray) s8 rfl (by decide) (fun _ => by kernel_rfl) (orient_Det_ok (av A _) _ s8.av_fresh a b c d (by assumption) (by assumption) (by assumption) (by assumption)) (fun _ w9 s9 ev9 kp9 hv_ => ?_))
  obtain rfl := hv_
  refine XS.vals' 3 [(12, .tuple #[.agg #[.int .i64 (hi128 (det4 a b c d)), .int .u64 (lo128 (det4 a b c d))], .bool (decide (True))]), (18, .agg #[.int .i64 (hi128 (det4 a b c d)), .int .u64 (lo128 (det4 a b c d))]), (19, .bool (decide (True)))] (by kernel_rfl) ?_
  refine XS.op rfl rfl (XO.new (cs := [.int .i64 0, .int .u64 0]) (T := 55) s9 rfl (by decide) (fun _ => by kernel_rfl) (fun b10 w11 s11 ev11 kp11 ybb10 => ?_))
  refine XS.op rfl rfl (XO.storeS (i := 4) (v := .agg #[.int .i64 (hi128 (det4 a b c d)), .int .u64 (lo128 (det4 a b c d))]) (m := 2) (cs' := [.int .i64 (hi128 (det4 a b c d)), .int .u64 (lo128 (det4 a b c d))]) s11 rfl rfl rfl rfl rfl (by kernel_rfl) rfl rfl rfl rfl (fun w12 s12 ev12 kp12 => ?_))
  refine XS.vals' 1 [(11, .bool (decide (True)))] (by kernel_rfl) ?_
  refine XS.done rfl (thn_norm ?_)
  refine XC.seq ?_
  refine XC.region ?_
  refine XS.op rfl rfl (XO.loadS (i := 4) (v := .agg #[.int .i64 (hi128 (det4 a b c d)), .int .u64 (lo128 (det4 a b c d))]) (g := true) (m := 2) s12 rfl rfl rfl (by decide) rfl (by kernel_rfl) (by kernel_rfl) rfl rfl rfl ?_)
  refine XS.op rfl rfl (XO.callS (f := 45) (args := [(.agg #[.int .i64 (hi128 (det4 a b c d)), .int .u64 (lo128 (det4 a b c d))])].toArray) s12 rfl (by decide) (fun _ => by kernel_rfl) (limb_Sign_ok (av A _) _ s12.av_fresh (det4 a b c d) ) (fun _ w13 s13 ev13 kp13 hv_ => ?_))
  obtain rfl := hv_
  refine XS.vals' 3 [(22, .bool (decide (True))), (8, .int .i64 (cmp128 (det4 a b c d) 0)), (9, .bool (decide (True)))] (by kernel_rfl) ?_
  refine XS.done rfl (thn_norm ?_)
  refine XC.ret ?_
  refine ⟨Or.inr rfl, .tuple #[(.int .i64 (cmp128 (det4 a b c d) 0)), (.bool (decide (True)))], fun a_ ha_ => results_tt rfl ha_ rfl rfl, s13.keep, ?_⟩
  rfl

theorem seqhull_Check_ok (A : Nat → Prop) (w0 : World) (hA : ∀ b, w0.heap.size ≤ b → A b) (l : List Pt) (a_l : Option Addr) (c_l : Nat) (h_l : Sl tPt A w0 (.slice a_l l.length c_l) l)  : Cal Tryz.prog 14 [(.slice a_l l.length c_l)].toArray w0 (fun v w' => Keep none_ w0 w' ∧ v = .tuple #[(.int .i64 ((chk l).1)), (.int .i64 ((chk l).2))]) := by
  have s0 : Stt A w0 none_ [] w0 := Stt.start hA none_
  have h_l_ := h_l.mono Evo.start
  refine Cal.intro (n := 37) Tryz.func14 rfl Tryz.ntmps14 rfl ?_
  refine XC.seq ?_
  refine XC.region ?_
  refine XS.vals' 2 [(2, .int .i64 0), (3, .int .i64 0)] (by kernel_rfl) ?_
  refine XS.done rfl (thn_norm ?_)
  refine XC.seq ?_
  refine XC.seq ?_
  refine XC.region ?_
  refine XS.vals' 3 [(8, .slice a_l l.length c_l), (9, .int .i64 (l.length : Int)), (10, .bool (decide ((l.length : Int) > 512)))] (by kernel_rfl) ?_
  refine XS.done rfl (thn_norm ?_)
  refine XC.cond_d ((l.length : Int) > 512) rfl (fun hc1 => ?_) (fun hc1 => ?_)
  · skip
    refine XC.seq ?_
    refine XC.region ?_
    refine XS.vals' 2 [(2, .int .i64 90), (3, .int .i64 0)] (by kernel_rfl) ?_
    refine XS.done rfl (thn_norm ?_)
    refine XC.ret (thn_ret ?_)
    refine ⟨Or.inr rfl, .tuple #[(.int .i64 90), (.int .i64 0)], fun a_ ha_ => results_tt rfl ha_ rfl rfl, s0.keep, ?_⟩
    rw [chk_long (by assumption)]
  · skip
    refine XC.skip (thn_norm ?_)
    refine XC.seq ?_
    refine XC.seq ?_
    refine XC.region ?_
    refine XS.vals' 3 [(11, .slice a_l l.length c_l), (12, .int .i64 (l.length : Int)), (13, .int .i64 0)] (by kernel_rfl) ?_
    refine XS.done rfl (thn_norm ?_)
    refine XC.block ?_
    refine XC.loop (fun ρ_ w_ m_ => ∃ i : Nat, Has ρ_ [(2, .int .i64 0), (3, .int .i64 0), (11, .slice a_l l.length c_l), (12, .int .i64 (l.length : Int)), (13, .int .i64 (i : Int))] ∧ Stt A w0 none_ [] w_ ∧ Evo (av A []) w0 (av A []) w_ ∧ (i ≤ l.length) ∧ (∀ y ∈ l.take i, y.ok) ∧ m_ = l.length - i) (l.length - 0) ?_ ?_
    · skip
      exact ⟨0, ⟨rfl, rfl, rfl, rfl, (congrArg (Value.int .i64) (by first | rfl | omega : (0 : Int) = _)), trivial⟩, s0, Evo.refl _ _, (by omega), (by simp), rfl⟩
    rintro _ ρw2 w2 ⟨i, hh2, s2, ev2, hi, hall, rfl⟩
    refine XC.rebase hh2 ?_
    refine XC.seq ?_
    refine XC.region ?_
    refine XS.vals' 1 [(14, .bool (decide ((i : Int) < (l.length : Int))))] (by kernel_rfl) ?_
    refine XS.done rfl (thn_norm ?_)
    refine XC.seq ?_
    refine XC.cond_d ((i : Int) < (l.length : Int)) rfl (fun hc3 => ?_) (fun hc3 => ?_)
    · skip
      refine XC.skip (thn_norm ?_)
      refine XC.seq ?_
      refine XC.block ?_
      refine XC.seq ?_
      refine XC.region ?_
      refine XS.vals' 1 [(15, .int .i64 (i : Int))] (by kernel_rfl) ?_
      obtain ⟨z4, hz4⟩ := get_some (xs := l) (i := i) (by (have hm_ := h_l_.elim; obtain ⟨_, _, _, _, hm_⟩ := hm_; omega))
      refine XS.op rfl rfl (XO.elem (i := i) (z := z4) (e := 24) (sz := 3) (h_l_.mono ev2) hz4 rfl rfl (by decide) rfl rfl (by omega) (by kernel_rfl) (by kernel_rfl) ?_)
      refine XS.op rfl rfl (XO.loadE (i := i) (f := 0) (sz := 3) (g := true) (z := z4) (h_l_.mono ev2) hz4 rfl rfl (by decide) rfl (by first | rfl | omega) (by kernel_rfl) (by kernel_rfl) rfl rfl (fun cs_ hcs_ => ?_))
      obtain rfl := hcs_
      refine XS.op rfl rfl (XO.new (cs := [.int .i64 0, .int .i64 0, .int .i64 0]) (T := 24) s2 rfl (by decide) (fun _ => by kernel_rfl) (fun b5 w6 s6 ev6 kp6 ybb5 => ?_))
      refine XS.vals' 1 [(4, .int .i64 (i : Int))] (by kernel_rfl) ?_
      refine XS.op rfl rfl (XO.storeS (i := 0) (v := .agg #[.int .i64 z4.x, .int .i64 z4.y, .int .i64 z4.z]) (m := 3) (cs' := [.int .i64 z4.x, .int .i64 z4.y, .int .i64 z4.z]) s6 rfl rfl rfl rfl rfl (by kernel_rfl) rfl rfl rfl rfl (fun w7 s7 ev7 kp7 => ?_))
      refine XS.done rfl (thn_norm ?_)
      refine XC.seq ?_
      refine XC.region ?_
      refine XS.vals' 1 [(18, .pointer (some ⟨b5, 0, none⟩))] (by kernel_rfl) ?_
      refine XS.op rfl rfl (XO.loadS (i := 0) (v := .int .i64 z4.x) (g := false) (m := 1) s7 rfl rfl rfl (by decide) rfl (by kernel_rfl) (by kernel_rfl) rfl rfl rfl ?_)
      refine XS.vals' 1 [(20, .pointer (some ⟨b5, 1, none⟩))] (by kernel_rfl) ?_
      refine XS.op rfl rfl (XO.loadS (i := 0) (v := .int .i64 z4.y) (g := false) (m := 1) s7 rfl rfl rfl (by decide) rfl (by kernel_rfl) (by kernel_rfl) rfl rfl rfl ?_)
      refine XS.vals' 1 [(22, .pointer (some ⟨b5, 2, none⟩))] (by kernel_rfl) ?_
      refine XS.op rfl rfl (XO.loadS (i := 0) (v := .int .i64 z4.z) (g := false) (m := 1) s7 rfl rfl rfl (by decide) rfl (by kernel_rfl) (by kernel_rfl) rfl rfl rfl ?_)
      refine XS.vals' 2 [(24, .agg #[.int .i64 z4.x, .int .i64 z4.y, .int .i64 z4.z]), (25, .int .i64 0)] (by kernel_rfl) ?_
      refine XS.done rfl (thn_norm ?_)
      refine XC.block ?_
      refine XC.unroll 40 ?_
      refine XR.succ ?_
      refine XC.seq ?_
      refine XC.region ?_
      refine XS.vals' 1 [(26, .bool true)] (by kernel_rfl) ?_
      refine XS.done rfl (thn_norm ?_)
      refine XC.seq ?_
      refine XC.cond_t rfl ?_
      refine XC.skip (thn_norm ?_)
      refine XC.seq ?_
      refine XC.block ?_
      refine XC.seq ?_
      refine XC.region ?_
      refine XS.vals' 2 [(27, .int .i64 z4.x), (7, .int .i64 z4.x)] (by kernel_rfl) ?_
      refine XS.done rfl (thn_norm ?_)
      refine XC.seq ?_
      refine XC.region ?_
      refine XS.vals' 3 [(28, .int .i64 z4.x), (29, .bool (decide (z4.x < (-1073741824)))), (30, .bool (decide (z4.x < (-1073741824))))] (by kernel_rfl) ?_
      refine XS.onD 30 (z4.x < (-1073741824)) rfl (fun hg8 => ?_) (fun hg8 => ?_)
      · skip
        refine XS.vals' 3 [(31, undef), (32, undef), (33, .bool true)] (by kernel_rfl) ?_
        refine XS.done rfl (thn_norm ?_)
        refine XC.cond_t rfl ?_
        refine XC.seq ?_
        refine XC.region ?_
        refine XS.vals' 3 [(34, .int .i64 (i : Int)), (2, .int .i64 20), (3, .int .i64 (i : Int))] (by kernel_rfl) ?_
        refine XS.done rfl (thn_norm ?_)
        refine XC.ret (inBlk_ret (thn_ret (thn_ret (inBlk_ret (inBlk_ret (thn_ret (thn_ret (inBlk_ret (thn_ret ?_)))))))))
        refine ⟨Or.inr rfl, .tuple #[(.int .i64 20), (.int .i64 (i : Int))], fun a_ ha_ => results_tt rfl ha_ rfl rfl, s7.keep, ?_⟩
        rw [chk_bad (by assumption) hz4 (by unfold Pt.ok inC; omega) hall]
      · skip
        refine XS.vals' 3 [(31, .int .i64 z4.x), (32, .bool (decide (z4.x > 1073741824))), (33, .bool (decide (z4.x > 1073741824)))] (by kernel_rfl) ?_
        refine XS.done rfl (thn_norm ?_)
        refine XC.cond_d (z4.x > 1073741824) rfl (fun hc9 => ?_) (fun hc9 => ?_)
        · skip
          refine XC.seq ?_
          refine XC.region ?_
          refine XS.vals' 3 [(34, .int .i64 (i : Int)), (2, .int .i64 20), (3, .int .i64 (i : Int))] (by kernel_rfl) ?_
          refine XS.done rfl (thn_norm ?_)
          refine XC.ret (inBlk_ret (thn_ret (thn_ret (inBlk_ret (inBlk_ret (thn_ret (thn_ret (inBlk_ret (thn_ret ?_)))))))))
          refine ⟨Or.inr rfl, .tuple #[(.int .i64 20), (.int .i64 (i : Int))], fun a_ ha_ => results_tt rfl ha_ rfl rfl, s7.keep, ?_⟩
          rw [chk_bad (by assumption) hz4 (by unfold Pt.ok inC; omega) hall]
        · skip
          refine XC.skip (inBlk_norm (thn_norm ?_))
          refine XC.region ?_
          refine XS.vals' 2 [(35, .int .i64 1), (25, .int .i64 1)] (by kernel_rfl) ?_
          refine XS.done rfl (thn_norm ?_)
          refine XR.succ ?_
          refine XC.seq ?_
          refine XC.region ?_
          refine XS.vals' 1 [(26, .bool true)] (by kernel_rfl) ?_
          refine XS.done rfl (thn_norm ?_)
          refine XC.seq ?_
          refine XC.cond_t rfl ?_
          refine XC.skip (thn_norm ?_)
          refine XC.seq ?_
          refine XC.block ?_
          refine XC.seq ?_
          refine XC.region ?_
          refine XS.vals' 2 [(27, .int .i64 z4.y), (7, .int .i64 z4.y)] (by kernel_rfl) ?_
          refine XS.done rfl (thn_norm ?_)
          refine XC.seq ?_
          refine XC.region ?_
          refine XS.vals' 3 [(28, .int .i64 z4.y), (29, .bool (decide (z4.y < (-1073741824)))), (30, .bool (decide (z4.y < (-1073741824))))] (by kernel_rfl) ?_
          refine XS.onD 30 (z4.y < (-1073741824)) rfl (fun hg10 => ?_) (fun hg10 => ?_)
          · skip
            refine XS.vals' 3 [(31, undef), (32, undef), (33, .bool true)] (by kernel_rfl) ?_
            refine XS.done rfl (thn_norm ?_)
            refine XC.cond_t rfl ?_
            refine XC.seq ?_
            refine XC.region ?_
            refine XS.vals' 3 [(34, .int .i64 (i : Int)), (2, .int .i64 20), (3, .int .i64 (i : Int))] (by kernel_rfl) ?_
            refine XS.done rfl (thn_norm ?_)
            refine XC.ret (inBlk_ret (thn_ret (thn_ret (inBlk_ret (inBlk_ret (thn_ret (thn_ret (inBlk_ret (thn_ret ?_)))))))))
            refine ⟨Or.inr rfl, .tuple #[(.int .i64 20), (.int .i64 (i : Int))], fun a_ ha_ => results_tt rfl ha_ rfl rfl, s7.keep, ?_⟩
            rw [chk_bad (by assumption) hz4 (by unfold Pt.ok inC; omega) hall]
          · skip
            refine XS.vals' 3 [(31, .int .i64 z4.y), (32, .bool (decide (z4.y > 1073741824))), (33, .bool (decide (z4.y > 1073741824)))] (by kernel_rfl) ?_
            refine XS.done rfl (thn_norm ?_)
            refine XC.cond_d (z4.y > 1073741824) rfl (fun hc11 => ?_) (fun hc11 => ?_)
            · skip
              refine XC.seq ?_
              refine XC.region ?_
              refine XS.vals' 3 [(34, .int .i64 (i : Int)), (2, .int .i64 20), (3, .int .i64 (i : Int))] (by kernel_rfl) ?_
              refine XS.done rfl (thn_norm ?_)
              refine XC.ret (inBlk_ret (thn_ret (thn_ret (inBlk_ret (inBlk_ret (thn_ret (thn_ret (inBlk_ret (thn_ret ?_)))))))))
              refine ⟨Or.inr rfl, .tuple #[(.int .i64 20), (.int .i64 (i : Int))], fun a_ ha_ => results_tt rfl ha_ rfl rfl, s7.keep, ?_⟩
              rw [chk_bad (by assumption) hz4 (by unfold Pt.ok inC; omega) hall]
            · skip
              refine XC.skip (inBlk_norm (thn_norm ?_))
              refine XC.region ?_
              refine XS.vals' 2 [(35, .int .i64 2), (25, .int .i64 2)] (by kernel_rfl) ?_
              refine XS.done rfl (thn_norm ?_)
              refine XR.succ ?_
              refine XC.seq ?_
              refine XC.region ?_
              refine XS.vals' 1 [(26, .bool true)] (by kernel_rfl) ?_
              refine XS.done rfl (thn_norm ?_)
              refine XC.seq ?_
              refine XC.cond_t rfl ?_
              refine XC.skip (thn_norm ?_)
              refine XC.seq ?_
              refine XC.block ?_
              refine XC.seq ?_
              refine XC.region ?_
              refine XS.vals' 2 [(27, .int .i64 z4.z), (7, .int .i64 z4.z)] (by kernel_rfl) ?_
              refine XS.done rfl (thn_norm ?_)
              refine XC.seq ?_
              refine XC.region ?_
              refine XS.vals' 3 [(28, .int .i64 z4.z), (29, .bool (decide (z4.z < (-1073741824)))), (30, .bool (decide (z4.z < (-1073741824))))] (by kernel_rfl) ?_
              refine XS.onD 30 (z4.z < (-1073741824)) rfl (fun hg12 => ?_) (fun hg12 => ?_)
              · skip
                refine XS.vals' 3 [(31, undef), (32, undef), (33, .bool true)] (by kernel_rfl) ?_
                refine XS.done rfl (thn_norm ?_)
                refine XC.cond_t rfl ?_
                refine XC.seq ?_
                refine XC.region ?_
                refine XS.vals' 3 [(34, .int .i64 (i : Int)), (2, .int .i64 20), (3, .int .i64 (i : Int))] (by kernel_rfl) ?_
                refine XS.done rfl (thn_norm ?_)
                refine XC.ret (inBlk_ret (thn_ret (thn_ret (inBlk_ret (inBlk_ret (thn_ret (thn_ret (inBlk_ret (thn_ret ?_)))))))))
                refine ⟨Or.inr rfl, .tuple #[(.int .i64 20), (.int .i64 (i : Int))], fun a_ ha_ => results_tt rfl ha_ rfl rfl, s7.keep, ?_⟩
                rw [chk_bad (by assumption) hz4 (by unfold Pt.ok inC; omega) hall]
              · skip
                refine XS.vals' 3 [(31, .int .i64 z4.z), (32, .bool (decide (z4.z > 1073741824))), (33, .bool (decide (z4.z > 1073741824)))] (by kernel_rfl) ?_
                refine XS.done rfl (thn_norm ?_)
                refine XC.cond_d (z4.z > 1073741824) rfl (fun hc13 => ?_) (fun hc13 => ?_)
                · skip
                  refine XC.seq ?_
                  refine XC.region ?_
                  refine XS.vals' 3 [(34, .int .i64 (i : Int)), (2, .int .i64 20), (3, .int .i64 (i : Int))] (by kernel_rfl) ?_
                  refine XS.done rfl (thn_norm ?_)
                  refine XC.ret (inBlk_ret (thn_ret (thn_ret (inBlk_ret (inBlk_ret (thn_ret (thn_ret (inBlk_ret (thn_ret ?_)))))))))
                  refine ⟨Or.inr rfl, .tuple #[(.int .i64 20), (.int .i64 (i : Int))], fun a_ ha_ => results_tt rfl ha_ rfl rfl, s7.keep, ?_⟩
                  rw [chk_bad (by assumption) hz4 (by unfold Pt.ok inC; omega) hall]
                · skip
                  refine XC.skip (inBlk_norm (thn_norm ?_))
                  refine XC.region ?_
                  refine XS.vals' 2 [(35, .int .i64 3), (25, .int .i64 3)] (by kernel_rfl) ?_
                  refine XS.done rfl (thn_norm ?_)
                  refine XR.succ ?_
                  refine XC.seq ?_
                  refine XC.region ?_
                  refine XS.vals' 1 [(26, .bool false)] (by kernel_rfl) ?_
                  refine XS.done rfl (thn_norm ?_)
                  refine XC.seq ?_
                  refine XC.cond_f rfl ?_
                  refine XC.exit (thn_exit (thn_exit (inBlk_hit (inBlk_norm (thn_norm ?_)))))
                  refine XC.region ?_
                  refine XS.op rfl rfl (XO.arith (k := .i64) (r := (i : Int) + 1) rfl (by decide) (fun _ => by kernel_rfl) (wrap_i64 (by (have hm_ := h_l_.elim; obtain ⟨_, _, _, _, hm_⟩ := hm_; omega))) ?_)
                  refine XS.vals' 1 [(13, .int .i64 ((i : Int) + 1))] (by kernel_rfl) ?_
                  refine XS.done rfl (thn_norm ?_)
                  refine ⟨l.length - (i + 1), ?_, ?_⟩
                  · omega
                  exact ⟨i + 1, ⟨rfl, rfl, rfl, rfl, (congrArg (Value.int .i64) (by first | rfl | omega : ((i : Int) + 1 : Int) = _)), trivial⟩, (s7.drop (.cons _ List.Sublist.slnil)), (Evo.trans (ev2.trans (ev6.trans ev7)) (Evo.drop (.cons _ List.Sublist.slnil))), (by omega), (take_succ_all hz4 (by unfold Pt.ok inC; omega) hall), rfl⟩
    · skip
      refine XC.exit (thn_exit (thn_exit (inBlk_hit (thn_norm ?_))))
      refine XC.seq ?_
      refine XC.region ?_
      refine XS.vals' 2 [(2, .int .i64 0), (3, .int .i64 0)] (by kernel_rfl) ?_
      refine XS.done rfl (thn_norm ?_)
      refine XC.ret ?_
      refine ⟨Or.inr rfl, .tuple #[(.int .i64 0), (.int .i64 0)], fun a_ ha_ => results_tt rfl ha_ rfl rfl, s2.keep, ?_⟩
      rw [chk_ok (by assumption) (fun y hy => hall y (by rw [List.take_of_length_le (by omega)]; exact hy))]

end Go.Proofs.Tryz
namespace Go.Proofs.Tryz
open Go Go.X Go.RowKit Go.Sort
set_option maxRecDepth 100000
set_option linter.unusedVariables false
theorem cmp_isNaN_int__ok (A : Nat → Prop) (w0 : World) (hA : ∀ b, w0.heap.size ≤ b → A b) (x : Int)  : Cal Tryz.prog 70 [(.int .i64 x)].toArray w0 (fun v w' => Keep none_ w0 w' ∧ v = .bool false) := by
  have s0 : Stt A w0 none_ [] w0 := Stt.start hA none_
  refine Cal.intro (n := 6) Tryz.func70 rfl Tryz.ntmps70 rfl ?_
  refine XC.seq ?_
  refine XC.region ?_
  refine XS.vals' 1 [(2, .bool false)] (by kernel_rfl) ?_
  refine XS.done rfl (thn_norm ?_)
  refine XC.seq ?_
  refine XC.region ?_
  refine XS.vals' 4 [(3, .int .i64 x), (4, .int .i64 x), (5, .bool (!decide (x = x))), (2, .bool (!decide (x = x)))] (by kernel_rfl) ?_
  refine XS.done rfl (thn_norm ?_)
  refine XC.ret ?_
  refine ⟨Or.inr rfl, .bool (!decide (x = x)), fun a_ ha_ => results_t rfl ha_ rfl, s0.keep, ?_⟩
  refine congrArg Value.bool ?_
  simp

theorem cmp_Compare_int__ok (A : Nat → Prop) (w0 : World) (hA : ∀ b, w0.heap.size ≤ b → A b) (x : Int) (y : Int)  : Cal Tryz.prog 37 [(.int .i64 x), (.int .i64 y)].toArray w0 (fun v w' => Keep none_ w0 w' ∧ v = .int .i64 (cmpI x y)) := by
  have s0 : Stt A w0 none_ [] w0 := Stt.start hA none_
  refine Cal.intro (n := 20) Tryz.func37 rfl Tryz.ntmps37 rfl ?_
  refine XC.seq ?_
  refine XC.region ?_
  refine XS.vals' 1 [(4, .int .i64 0)] (by kernel_rfl) ?_
  refine XS.done rfl (thn_norm ?_)
  refine XC.seq ?_
  refine XC.region ?_
  refine XS.vals' 1 [(7, .int .i64 x)] (by kernel_rfl) ?_
  refine XS.op rfl rfl (XO.callS (f := 70) (args := [(.int .i64 x)].toArray) s0 rfl (by decide) (fun _ => by kernel_rfl) (cmp_isNaN_int__ok (av A _) _ s0.av_fresh x ) (fun _ w1 s1 ev1 kp1 hv_ => ?_))
  obtain rfl := hv_
  refine XS.vals' 1 [(5, .bool false)] (by kernel_rfl) ?_
  refine XS.done rfl (thn_norm ?_)
  refine XC.seq ?_
  refine XC.region ?_
  refine XS.vals' 1 [(9, .int .i64 y)] (by kernel_rfl) ?_
  refine XS.op rfl rfl (XO.callS (f := 70) (args := [(.int .i64 y)].toArray) s1 rfl (by decide) (fun _ => by kernel_rfl) (cmp_isNaN_int__ok (av A _) _ s1.av_fresh y ) (fun _ w2 s2 ev2 kp2 hv_ => ?_))
  obtain rfl := hv_
  refine XS.vals' 1 [(6, .bool false)] (by kernel_rfl) ?_
  refine XS.done rfl (thn_norm ?_)
  refine XC.seq ?_
  refine XC.seq ?_
  refine XC.region ?_
  refine XS.vals' 1 [(11, .bool false)] (by kernel_rfl) ?_
  refine XS.done rfl (thn_norm ?_)
  refine XC.cond_f rfl ?_
  refine XC.skip (thn_norm ?_)
  refine XC.seq ?_
  refine XC.seq ?_
  refine XC.region ?_
  refine XS.vals' 1 [(13, .bool false)] (by kernel_rfl) ?_
  refine XS.done rfl (thn_norm ?_)
  refine XC.cond_f rfl ?_
  refine XC.skip (thn_norm ?_)
  refine XC.seq ?_
  refine XC.seq ?_
  refine XC.region ?_
  refine XS.vals' 3 [(14, .int .i64 x), (15, .int .i64 y), (16, .bool (decide (x < y)))] (by kernel_rfl) ?_
  refine XS.done rfl (thn_norm ?_)
  refine XC.cond_d (x < y) rfl (fun hc3 => ?_) (fun hc3 => ?_)
  · skip
    refine XC.seq ?_
    refine XC.region ?_
    refine XS.vals' 1 [(4, .int .i64 (-1))] (by kernel_rfl) ?_
    refine XS.done rfl (thn_norm ?_)
    refine XC.ret (thn_ret ?_)
    refine ⟨Or.inr rfl, .int .i64 (-1), fun a_ ha_ => results_t rfl ha_ rfl, s2.keep, ?_⟩
    refine congrArg (Value.int .i64) ?_
    unfold cmpI; (repeat' split) <;> first | rfl | (exfalso; omega)
  · skip
    refine XC.skip (thn_norm ?_)
    refine XC.seq ?_
    refine XC.seq ?_
    refine XC.region ?_
    refine XS.vals' 3 [(17, .int .i64 x), (18, .int .i64 y), (19, .bool (decide (x > y)))] (by kernel_rfl) ?_
    refine XS.done rfl (thn_norm ?_)
    refine XC.cond_d (x > y) rfl (fun hc4 => ?_) (fun hc4 => ?_)
    · skip
      refine XC.seq ?_
      refine XC.region ?_
      refine XS.vals' 1 [(4, .int .i64 1)] (by kernel_rfl) ?_
      refine XS.done rfl (thn_norm ?_)
      refine XC.ret (thn_ret ?_)
      refine ⟨Or.inr rfl, .int .i64 1, fun a_ ha_ => results_t rfl ha_ rfl, s2.keep, ?_⟩
      refine congrArg (Value.int .i64) ?_
      unfold cmpI; (repeat' split) <;> first | rfl | (exfalso; omega)
    · skip
      refine XC.skip (thn_norm ?_)
      refine XC.seq ?_
      refine XC.region ?_
      refine XS.vals' 1 [(4, .int .i64 0)] (by kernel_rfl) ?_
      refine XS.done rfl (thn_norm ?_)
      refine XC.ret ?_
      refine ⟨Or.inr rfl, .int .i64 0, fun a_ ha_ => results_t rfl ha_ rfl, s2.keep, ?_⟩
      refine congrArg (Value.int .i64) ?_
      unfold cmpI; (repeat' split) <;> first | rfl | (exfalso; omega)

theorem cmp_Or_int__ok (A : Nat → Prop) (w0 : World) (hA : ∀ b, w0.heap.size ≤ b → A b) (l : List Int) (a_l : Option Addr) (c_l : Nat) (h_l : Sl (tInt .i64) A w0 (.slice a_l l.length c_l) l)  : Cal Tryz.prog 36 [(.slice a_l l.length c_l)].toArray w0 (fun v w' => Keep none_ w0 w' ∧ v = .int .i64 (orL l)) := by
  have s0 : Stt A w0 none_ [] w0 := Stt.start hA none_
  have h_l_ := h_l.mono Evo.start
  refine Cal.intro (n := 18) Tryz.func36 rfl Tryz.ntmps36 rfl ?_
  refine XC.seq ?_
  refine XC.region ?_
  refine XS.vals' 1 [(2, .int .i64 0)] (by kernel_rfl) ?_
  refine XS.done rfl (thn_norm ?_)
  refine XC.seq ?_
  refine XC.region ?_
  refine XS.vals' 1 [(3, .int .i64 0)] (by kernel_rfl) ?_
  refine XS.done rfl (thn_norm ?_)
  refine XC.seq ?_
  refine XC.seq ?_
  refine XC.region ?_
  refine XS.vals' 3 [(6, .slice a_l l.length c_l), (7, .int .i64 (l.length : Int)), (8, .int .i64 0)] (by kernel_rfl) ?_
  refine XS.done rfl (thn_norm ?_)
  refine XC.block ?_
  refine XC.loop (fun ρ_ w_ m_ => ∃ (i : Nat), Has ρ_ [(2, .int .i64 0), (3, .int .i64 0), (6, .slice a_l l.length c_l), (7, .int .i64 (l.length : Int)), (8, .int .i64 (i : Int))] ∧ Stt A w0 none_ [] w_ ∧ Evo (av A []) w0 (av A []) w_ ∧ (i ≤ l.length) ∧ (∀ y ∈ l.take i, y = 0) ∧ m_ = l.length - i) (l.length - 0) ?_ ?_
  · skip
    exact ⟨0, ⟨rfl, rfl, rfl, rfl, (congrArg (Value.int .i64) (by first | rfl | omega : (0 : Int) = _)), trivial⟩, s0, Evo.refl _ _, (by omega), (by simp), rfl⟩
  rintro _ ρw1 w1 ⟨i, hh1, s1, ev1, hi, hall, rfl⟩
  refine XC.rebase hh1 ?_
  refine XC.seq ?_
  refine XC.region ?_
  refine XS.vals' 1 [(9, .bool (decide ((i : Int) < (l.length : Int))))] (by kernel_rfl) ?_
  refine XS.done rfl (thn_norm ?_)
  refine XC.seq ?_
  refine XC.cond_d ((i : Int) < (l.length : Int)) rfl (fun hc2 => ?_) (fun hc2 => ?_)
  · skip
    refine XC.skip (thn_norm ?_)
    refine XC.seq ?_
    refine XC.block ?_
    refine XC.seq ?_
    refine XC.region ?_
    obtain ⟨z3, hz3⟩ := get_some (xs := l) (i := i) (by (have hm_ := h_l_.elim; obtain ⟨_, _, _, _, hm_⟩ := hm_; omega))
    refine XS.op rfl rfl (XO.elem (i := i) (z := z3) (e := 3) (sz := 1) (h_l_.mono ev1) hz3 rfl rfl (by decide) rfl rfl (by omega) (by kernel_rfl) (by kernel_rfl) ?_)
    refine XS.op rfl rfl (XO.loadE (i := i) (f := 0) (sz := 1) (g := false) (z := z3) (h_l_.mono ev1) hz3 rfl rfl (by decide) rfl (by first | rfl | omega) (by kernel_rfl) (by kernel_rfl) rfl rfl (fun cs_ hcs_ => ?_))
    obtain rfl := hcs_
    refine XS.vals' 1 [(5, .int .i64 z3)] (by kernel_rfl) ?_
    refine XS.done rfl (thn_norm ?_)
    refine XC.seq ?_
    refine XC.region ?_
    refine XS.vals' 3 [(12, .int .i64 z3), (13, .int .i64 0), (14, .bool (!decide (z3 = 0)))] (by kernel_rfl) ?_
    refine XS.done rfl (thn_norm ?_)
    refine XC.cond_nd (z3 = 0) rfl (fun hc4 => ?_) (fun hc4 => ?_)
    · skip
      refine XC.seq ?_
      refine XC.region ?_
      refine XS.vals' 2 [(15, .int .i64 z3), (2, .int .i64 z3)] (by kernel_rfl) ?_
      refine XS.done rfl (thn_norm ?_)
      refine XC.ret (inBlk_ret (thn_ret (thn_ret (inBlk_ret (thn_ret ?_)))))
      refine ⟨Or.inr rfl, .int .i64 z3, fun a_ ha_ => results_t rfl ha_ rfl, s1.keep, ?_⟩
      rw [orL_hit hz3 hall (by assumption)]
    · skip
      refine XC.skip (inBlk_norm (thn_norm ?_))
      refine XC.region ?_
      refine XS.op rfl rfl (XO.arith (k := .i64) (r := (i : Int) + 1) rfl (by decide) (fun _ => by kernel_rfl) (wrap_i64 (by (have hm_ := h_l_.elim; obtain ⟨_, _, _, _, hm_⟩ := hm_; omega))) ?_)
      refine XS.vals' 1 [(8, .int .i64 ((i : Int) + 1))] (by kernel_rfl) ?_
      refine XS.done rfl (thn_norm ?_)
      refine ⟨l.length - (i + 1), ?_, ?_⟩
      · omega
      exact ⟨i + 1, ⟨rfl, rfl, rfl, rfl, (congrArg (Value.int .i64) (by first | rfl | omega : ((i : Int) + 1 : Int) = _)), trivial⟩, s1, ev1, (by omega), (take_succ_all hz3 (by omega) hall), rfl⟩
  · skip
    refine XC.exit (thn_exit (thn_exit (inBlk_hit (thn_norm ?_))))
    refine XC.seq ?_
    refine XC.region ?_
    refine XS.vals' 2 [(17, .int .i64 0), (2, .int .i64 0)] (by kernel_rfl) ?_
    refine XS.done rfl (thn_norm ?_)
    refine XC.ret ?_
    refine ⟨Or.inr rfl, .int .i64 0, fun a_ ha_ => results_t rfl ha_ rfl, s1.keep, ?_⟩
    rw [orL_none (fun y hy => hall y (by rw [List.take_of_length_le (by omega)]; exact hy))]

theorem clean_compare_ok (A : Nat → Prop) (w0 : World) (hA : ∀ b, w0.heap.size ≤ b → A b) (a : Pt) (b : Pt)  : Cal Tryz.prog 19 [(.agg #[.int .i64 a.x, .int .i64 a.y, .int .i64 a.z]), (.agg #[.int .i64 b.x, .int .i64 b.y, .int .i64 b.z])].toArray w0 (fun v w' => Keep none_ w0 w' ∧ v = .int .i64 (cmpPt a b)) := by
  have s0 : Stt A w0 none_ [] w0 := Stt.start hA none_
  refine Cal.intro (n := 22) Tryz.func19 rfl Tryz.ntmps19 rfl ?_
  refine XC.seq ?_
  refine XC.region ?_
  refine XS.op rfl rfl (XO.new (cs := [.int .i64 a.x, .int .i64 a.y, .int .i64 a.z]) (T := 24) s0 rfl (by decide) (fun _ => by kernel_rfl) (fun b1 w2 s2 ev2 kp2 ybb1 => ?_))
  refine XS.op rfl rfl (XO.new (cs := [.int .i64 b.x, .int .i64 b.y, .int .i64 b.z]) (T := 24) s2 rfl (by decide) (fun _ => by kernel_rfl) (fun b3 w4 s4 ev4 kp4 ybb3 => ?_))
  refine XS.vals' 1 [(4, .int .i64 0)] (by kernel_rfl) ?_
  refine XS.done rfl (thn_norm ?_)
  refine XC.seq ?_
  refine XC.drawS 18 rfl (fun _ => False) 18 (by kernel_rfl) s4 (fun w5 s5 ev5 kp5 hH6 => ?_)
  refine XA.valD 0 5 (.pointer (some ⟨b1, 0, none⟩)) rfl (by kernel_rfl) (by kernel_rfl) (by kernel_rfl) rfl (by kernel_rfl) rfl hH6 (fun hH7 => ?_)
  refine XA.loadS false (j := 1) (i := 0) (v := .int .i64 a.x) (g := false) (m := 1) s5 rfl rfl (by kernel_rfl) (by kernel_rfl) (by kernel_rfl) rfl (by kernel_rfl) (fun _ h => h) (by kernel_rfl) rfl rfl (by decide) hH7 rfl (by kernel_rfl) (by kernel_rfl) rfl rfl rfl (fun hH8 => ?_)
  refine XA.valD 2 7 (.pointer (some ⟨b3, 0, none⟩)) rfl (by kernel_rfl) (by kernel_rfl) (by kernel_rfl) rfl (by kernel_rfl) rfl hH8 (fun hH9 => ?_)
  refine XA.loadS false (j := 3) (i := 1) (v := .int .i64 b.x) (g := false) (m := 1) s5 rfl rfl (by kernel_rfl) (by kernel_rfl) (by kernel_rfl) rfl (by kernel_rfl) (fun _ h => h) (by kernel_rfl) rfl rfl (by decide) hH9 rfl (by kernel_rfl) (by kernel_rfl) rfl rfl rfl (fun hH10 => ?_)
  refine XA.valD 5 10 (.pointer (some ⟨b1, 1, none⟩)) rfl (by kernel_rfl) (by kernel_rfl) (by kernel_rfl) rfl (by kernel_rfl) rfl hH10 (fun hH11 => ?_)
  refine XA.loadS false (j := 6) (i := 0) (v := .int .i64 a.y) (g := false) (m := 1) s5 rfl rfl (by kernel_rfl) (by kernel_rfl) (by kernel_rfl) rfl (by kernel_rfl) (fun _ h => h) (by kernel_rfl) rfl rfl (by decide) hH11 rfl (by kernel_rfl) (by kernel_rfl) rfl rfl rfl (fun hH12 => ?_)
  refine XA.valD 7 12 (.pointer (some ⟨b3, 1, none⟩)) rfl (by kernel_rfl) (by kernel_rfl) (by kernel_rfl) rfl (by kernel_rfl) rfl hH12 (fun hH13 => ?_)
  refine XA.loadS false (j := 8) (i := 1) (v := .int .i64 b.y) (g := false) (m := 1) s5 rfl rfl (by kernel_rfl) (by kernel_rfl) (by kernel_rfl) rfl (by kernel_rfl) (fun _ h => h) (by kernel_rfl) rfl rfl (by decide) hH13 rfl (by kernel_rfl) (by kernel_rfl) rfl rfl rfl (fun hH14 => ?_)
  refine XA.valD 10 15 (.pointer (some ⟨b1, 2, none⟩)) rfl (by kernel_rfl) (by kernel_rfl) (by kernel_rfl) rfl (by kernel_rfl) rfl hH14 (fun hH15 => ?_)
  refine XA.loadS false (j := 11) (i := 0) (v := .int .i64 a.z) (g := false) (m := 1) s5 rfl rfl (by kernel_rfl) (by kernel_rfl) (by kernel_rfl) rfl (by kernel_rfl) (fun _ h => h) (by kernel_rfl) rfl rfl (by decide) hH15 rfl (by kernel_rfl) (by kernel_rfl) rfl rfl rfl (fun hH16 => ?_)
  refine XA.valD 12 17 (.pointer (some ⟨b3, 2, none⟩)) rfl (by kernel_rfl) (by kernel_rfl) (by kernel_rfl) rfl (by kernel_rfl) rfl hH16 (fun hH17 => ?_)
  refine XA.loadS false (j := 13) (i := 1) (v := .int .i64 b.z) (g := false) (m := 1) s5 rfl rfl (by kernel_rfl) (by kernel_rfl) (by kernel_rfl) rfl (by kernel_rfl) (fun _ h => h) (by kernel_rfl) rfl rfl (by decide) hH17 rfl (by kernel_rfl) (by kernel_rfl) rfl rfl rfl (fun hH18 => ?_)
  refine XA.op (i := 4) rfl (by kernel_rfl) (by kernel_rfl) (XO.callS (f := 37) (args := [(.int .i64 a.x), (.int .i64 b.x)].toArray) s5 rfl (by decide) (fun _ => by kernel_rfl) (cmp_Compare_int__ok (av A _) _ s5.av_fresh a.x b.x ) (fun _ w19 s19 ev19 kp19 hv_ => ?_))
  obtain rfl := hv_
  have hH20 := hH18.keep (i := 4) kp19 rfl
  refine ⟨hH20, ?_⟩
  refine XA.op (i := 9) rfl (by kernel_rfl) (by kernel_rfl) (XO.callS (f := 37) (args := [(.int .i64 a.y), (.int .i64 b.y)].toArray) s19 rfl (by decide) (fun _ => by kernel_rfl) (cmp_Compare_int__ok (av A _) _ s19.av_fresh a.y b.y ) (fun _ w21 s21 ev21 kp21 hv_ => ?_))
  obtain rfl := hv_
  have hH22 := hH20.keep (i := 9) kp21 rfl
  refine ⟨hH22, ?_⟩
  refine XA.op (i := 14) rfl (by kernel_rfl) (by kernel_rfl) (XO.callS (f := 37) (args := [(.int .i64 a.z), (.int .i64 b.z)].toArray) s21 rfl (by decide) (fun _ => by kernel_rfl) (cmp_Compare_int__ok (av A _) _ s21.av_fresh a.z b.z ) (fun _ w23 s23 ev23 kp23 hv_ => ?_))
  obtain rfl := hv_
  have hH24 := hH22.keep (i := 14) kp23 rfl
  refine ⟨hH24, ?_⟩
  refine XA.op (i := 15) rfl (by kernel_rfl) (by kernel_rfl) (XO.newSl (k := 3) (cs := [.int .i64 (cmpI a.x b.x), .int .i64 (cmpI a.y b.y), .int .i64 (cmpI a.z b.z)]) (T := 3) s23 rfl (by decide) (fun _ => by kernel_rfl) (fun b25 w26 s26 ev26 kp26 ybb25 => ?_))
  have hH27 := hH24.keep (i := 15) kp26 rfl
  refine ⟨hH27, ?_⟩
  obtain ⟨s28, ev28, hf28⟩ := Stt.freezeLit (τ := (tInt .i64)) (xs := [cmpI a.x b.x, cmpI a.y b.y, cmpI a.z b.z]) s26 2 rfl (fun _ h => h.elim) rfl rfl (Els.enc _ _ [cmpI a.x b.x, cmpI a.y b.y, cmpI a.z b.z])
  refine XA.op (i := 16) rfl (by kernel_rfl) (by kernel_rfl) (XO.callS (f := 36) (args := [(.slice (some ⟨b25, 0, none⟩) 3 3)].toArray) s28 rfl (by decide) (fun _ => by kernel_rfl) (cmp_Or_int__ok (av A _) _ s28.av_fresh ([cmpI a.x b.x, cmpI a.y b.y, cmpI a.z b.z]) (some ⟨b25, 0, none⟩) 3 hf28 ) (fun _ w29 s29 ev29 kp29 hv_ => ?_))
  obtain rfl := hv_
  have hH30 := hH27.keep (i := 16) kp29 rfl
  refine ⟨hH30, ?_⟩
  refine XA.valD 17 4 (.int .i64 (orL ([cmpI a.x b.x, cmpI a.y b.y, cmpI a.z b.z]))) rfl (by kernel_rfl) (by kernel_rfl) (by kernel_rfl) rfl (by kernel_rfl) rfl hH30 (fun hH31 => ?_)
  refine XA.done (by kernel_rfl) (thn_norm ?_)
  refine XC.ret ?_
  refine ⟨Or.inr rfl, .int .i64 (orL ([cmpI a.x b.x, cmpI a.y b.y, cmpI a.z b.z])), fun a_ ha_ => results_t rfl ha_ rfl, s29.keep, ?_⟩
  rfl

theorem clean_Less_ok (A : Nat → Prop) (w0 : World) (hA : ∀ b, w0.heap.size ≤ b → A b) (a : Pt) (b : Pt)  : Cal Tryz.prog 10 [(.agg #[.int .i64 a.x, .int .i64 a.y, .int .i64 a.z]), (.agg #[.int .i64 b.x, .int .i64 b.y, .int .i64 b.z])].toArray w0 (fun v w' => Keep none_ w0 w' ∧ v = .bool (ltP a b)) := by
  have s0 : Stt A w0 none_ [] w0 := Stt.start hA none_
  refine Cal.intro (n := 9) Tryz.func10 rfl Tryz.ntmps10 rfl ?_
  refine XC.seq ?_
  refine XC.region ?_
  refine XS.op rfl rfl (XO.new (cs := [.int .i64 a.x, .int .i64 a.y, .int .i64 a.z]) (T := 24) s0 rfl (by decide) (fun _ => by kernel_rfl) (fun b1 w2 s2 ev2 kp2 ybb1 => ?_))
  refine XS.op rfl rfl (XO.new (cs := [.int .i64 b.x, .int .i64 b.y, .int .i64 b.z]) (T := 24) s2 rfl (by decide) (fun _ => by kernel_rfl) (fun b3 w4 s4 ev4 kp4 ybb3 => ?_))
  refine XS.vals' 1 [(4, .bool false)] (by kernel_rfl) ?_
  refine XS.done rfl (thn_norm ?_)
  refine XC.seq ?_
  refine XC.region ?_
  refine XS.op rfl rfl (XO.loadS (i := 0) (v := .agg #[.int .i64 a.x, .int .i64 a.y, .int .i64 a.z]) (g := true) (m := 3) s4 rfl rfl rfl (by decide) rfl (by kernel_rfl) (by kernel_rfl) rfl rfl rfl ?_)
  refine XS.op rfl rfl (XO.loadS (i := 1) (v := .agg #[.int .i64 b.x, .int .i64 b.y, .int .i64 b.z]) (g := true) (m := 3) s4 rfl rfl rfl (by decide) rfl (by kernel_rfl) (by kernel_rfl) rfl rfl rfl ?_)
  refine XS.op rfl rfl (XO.callS (f := 19) (args := [(.agg #[.int .i64 a.x, .int .i64 a.y, .int .i64 a.z]), (.agg #[.int .i64 b.x, .int .i64 b.y, .int .i64 b.z])].toArray) s4 rfl (by decide) (fun _ => by kernel_rfl) (clean_compare_ok (av A _) _ s4.av_fresh a b ) (fun _ w5 s5 ev5 kp5 hv_ => ?_))
  obtain rfl := hv_
  refine XS.vals' 2 [(8, .bool (decide ((cmpPt a b) < 0))), (4, .bool (decide ((cmpPt a b) < 0)))] (by kernel_rfl) ?_
  refine XS.done rfl (thn_norm ?_)
  refine XC.ret ?_
  refine ⟨Or.inr rfl, .bool (decide ((cmpPt a b) < 0)), fun a_ ha_ => results_t rfl ha_ rfl, s5.keep, ?_⟩
  rfl

end Go.Proofs.Tryz
namespace Go.Proofs.Tryz
open Go Go.X Go.RowKit Go.Sort Go.Shelf
set_option maxRecDepth 100000
def sortPt_ren : Go.Shelf.Ren := ⟨fun | 6 => 18 | 15 => 35 | 14 => 34 | 28 => 68 | 29 => 69 | 20 => 60 | 21 => 61 | 22 => 62 | 23 => 63 | 24 => 64 | 25 => 65 | 26 => 66 | 27 => 67 | 46 => 93 | 47 => 94 | 48 => 95 | 49 => 96 | 50 => 97 | 57 => 129 | n => n, fun | 22 => 22 | 24 => 24 | 25 => 48 | 3 => 3 | 39 => 70 | 0 => 0 | 53 => 104 | 55 => 53 | 4 => 4 | 46 => 98 | 45 => 97 | 50 => 63 | 5 => 5 | 9 => 9 | 66 => 144 | 70 => 148 | 76 => 187 | 77 => 29 | n => n, fun | n => n⟩
theorem sortPt : SlLaysF0.n6 Tryz.prog sortPt_ren where
  mixed := by kernel_rfl
  f6 := ⟨ "slices.SortFunc[[]carapace/api.Point,carapace/api.Point]", by decide, Tryz.func18.trans (congrArg some (by kernel_rfl))⟩
  f14 := ⟨ "slices.pdqsortCmpFunc[carapace/api.Point]", by decide, Tryz.func34.trans (congrArg some (by kernel_rfl))⟩
  f15 := Tryz.func35.trans (congrArg some (by kernel_rfl))
  f20 := ⟨ "slices.insertionSortCmpFunc[carapace/api.Point]", by decide, Tryz.func60.trans (congrArg some (by kernel_rfl))⟩
  f21 := ⟨ "slices.heapSortCmpFunc[carapace/api.Point]", by decide, Tryz.func61.trans (congrArg some (by kernel_rfl))⟩
  f22 := ⟨ "slices.breakPatternsCmpFunc[carapace/api.Point]", by decide, Tryz.func62.trans (congrArg some (by kernel_rfl))⟩
  f23 := ⟨ "slices.choosePivotCmpFunc[carapace/api.Point]", by decide, Tryz.func63.trans (congrArg some (by kernel_rfl))⟩
  f24 := ⟨ "slices.reverseRangeCmpFunc[carapace/api.Point]", by decide, Tryz.func64.trans (congrArg some (by kernel_rfl))⟩
  f25 := ⟨ "slices.partialInsertionSortCmpFunc[carapace/api.Point]", by decide, Tryz.func65.trans (congrArg some (by kernel_rfl))⟩
  f26 := ⟨ "slices.partitionEqualCmpFunc[carapace/api.Point]", by decide, Tryz.func66.trans (congrArg some (by kernel_rfl))⟩
  f27 := ⟨ "slices.partitionCmpFunc[carapace/api.Point]", by decide, Tryz.func67.trans (congrArg some (by kernel_rfl))⟩
  f28 := Tryz.func68.trans (congrArg some (by kernel_rfl))
  f29 := Tryz.func69.trans (congrArg some (by kernel_rfl))
  f46 := ⟨ "slices.siftDownCmpFunc[carapace/api.Point]", by decide, Tryz.func93.trans (congrArg some (by kernel_rfl))⟩
  f47 := Tryz.func94.trans (congrArg some (by kernel_rfl))
  f48 := Tryz.func95.trans (congrArg some (by kernel_rfl))
  f49 := ⟨ "slices.medianAdjacentCmpFunc[carapace/api.Point]", by decide, Tryz.func96.trans (congrArg some (by kernel_rfl))⟩
  f50 := ⟨ "slices.medianCmpFunc[carapace/api.Point]", by decide, Tryz.func97.trans (congrArg some (by kernel_rfl))⟩
  f57 := ⟨ "slices.order2CmpFunc[carapace/api.Point]", by decide, Tryz.func129.trans (congrArg some (by kernel_rfl))⟩
  t0 := Tryz.underlying0
  a0 := Tryz.isAgg0
  z0 := Tryz.sizeOf0
  v0 := Tryz.zeroValue0
  t3 := Tryz.underlying3
  a3 := Tryz.isAgg3
  z3 := Tryz.sizeOf3
  v3 := Tryz.zeroValue3
  t4 := Tryz.underlying4
  a4 := Tryz.isAgg4
  z4 := Tryz.sizeOf4
  v4 := Tryz.zeroValue4
  t5 := Tryz.underlying5
  a5 := Tryz.isAgg5
  z5 := Tryz.sizeOf5
  v5 := Tryz.zeroValue5
  t9 := Tryz.underlying9
  a9 := Tryz.isAgg9
  z9 := Tryz.sizeOf9
  v9 := Tryz.zeroValue9
  t22 := Tryz.underlying22
  a22 := Tryz.isAgg22
  z22 := Tryz.sizeOf22
  v22 := Tryz.zeroValue22
  t25 := Tryz.underlying48
  a25 := Tryz.isAgg48
  z25 := Tryz.sizeOf48
  v25 := Tryz.zeroValue48
  t39 := Tryz.underlying70
  a39 := Tryz.isAgg70
  z39 := Tryz.sizeOf70
  v39 := Tryz.zeroValue70
  t45 := Tryz.underlying97
  a45 := Tryz.isAgg97
  z45 := Tryz.sizeOf97
  v45 := Tryz.zeroValue97
  t46 := Tryz.underlying98
  a46 := Tryz.isAgg98
  z46 := Tryz.sizeOf98
  v46 := Tryz.zeroValue98
  t50 := Tryz.underlying63
  a50 := Tryz.isAgg63
  z50 := Tryz.sizeOf63
  v50 := Tryz.zeroValue63
  t53 := Tryz.underlying104
  a53 := Tryz.isAgg104
  z53 := Tryz.sizeOf104
  v53 := Tryz.zeroValue104
  t55 := Tryz.underlying53
  a55 := Tryz.isAgg53
  z55 := Tryz.sizeOf53
  v55 := Tryz.zeroValue53
  t66 := Tryz.underlying144
  a66 := Tryz.isAgg144
  z66 := Tryz.sizeOf144
  v66 := Tryz.zeroValue144
  t70 := Tryz.underlying148
  a70 := Tryz.isAgg148
  z70 := Tryz.sizeOf148
  v70 := Tryz.zeroValue148
  t76 := Tryz.underlying187
  a76 := Tryz.isAgg187
  z76 := Tryz.sizeOf187
  v76 := Tryz.zeroValue187
  t77 := Tryz.underlying29
  a77 := Tryz.isAgg29
  z77 := Tryz.sizeOf29
  v77 := Tryz.zeroValue29

theorem cmpLays_Pt (blk off size : Nat) (w : World) : CmpLays Tryz.prog 19 #[] Pt.enc 3 cmpPt blk off size w := fun m os dk hdk x y => by
  refine Calls.mono (clean_compare_ok (fun _ => True) (sortWorldK Pt.enc 3 w blk off m dk os) (fun _ _ => trivial) x y).calls ?_
  rintro e w' ⟨v, rfl, hk, rfl⟩
  exact ⟨rfl, hk.grown⟩
theorem slices_SortFunc_Pt_ok (A : Nat → Prop) (w0 : World) (hA : ∀ b, w0.heap.size ≤ b → A b) (b_s off_s n_s cap_s : Nat) (s : Array Pt) (T_s : TypeId) (hn_s : s.size = n_s) (hd_s : (arrA Pt.enc 3 b_s off_s s T_s).holds w0) (hlen : n_s ≤ 1048576) :
    Cal Tryz.prog 18 [(.slice (some ⟨b_s, off_s, none⟩) n_s cap_s), (.func (.func 19) #[] #[])].toArray w0 (fun v w' => Keep (fun x => x = b_s) w0 w' ∧ ∃ (s' : Array Pt), v = .tuple #[] ∧ s'.size = n_s ∧ s'.toList = s.toList.mergeSort (fun x y => !ltP y x) ∧ (arrA Pt.enc 3 b_s off_s s' T_s).holds w') := by
  subst hn_s
  have hlt : b_s < w0.heap.size := (arrA Pt.enc 3 b_s off_s s T_s).inb hd_s b_s rfl
  have hcon := AnyQ.slices_SortFunc_total sortPt 3 Tryz.isAgg24 Tryz.sizeOf24 Pt.enc (fun _ => rfl) (fun x v hv => by simp [Pt.enc] at hv; rcases hv with rfl | rfl | rfl <;> rfl) cmpPt swo_ltP 19 #[] b_s off_s cap_s s w0
    (enters_of Tryz.func19 (by kernel_rfl) rfl) (cmpLays_Pt b_s off_s s.size w0) (arr_holdsK (fun _ => rfl) hd_s) hlt (by omega) ltP_total
  refine Cal.of (Calls.mono hcon ?_)
  rintro e w' ⟨rfl, n, os, rfl⟩
  have hs : (s.toList.mergeSort fun x y => !(ltOf cmpPt) y x).toArray.size = s.size := by simp
  obtain ⟨h1, h2⟩ := sorted_world (k := 3) (fun _ => rfl) (by decide) hd_s hs n os
  exact ⟨_, rfl, h1, _, rfl, hs, rfl, h2⟩
end Go.Proofs.Tryz
namespace Go.Proofs.Tryz
open Go Go.X Go.RowKit Go.Sort
set_option maxRecDepth 100000
set_option linter.unusedVariables false
theorem slices_Compact___api_Point_api_Point__ok (A : Nat → Prop) (w0 : World) (hA : ∀ b, w0.heap.size ≤ b → A b) (b_s off_s n_s cap_s : Nat) (s : Array Pt) (T_s : TypeId) (hn_s : s.size = n_s) (hd_s : (arrA Pt.enc 3 b_s off_s s T_s).holds w0)  (hlen : n_s ≤ 1048576 ∧ n_s ≤ cap_s) : Cal Tryz.prog 21 [(.slice (some ⟨b_s, off_s, none⟩) n_s cap_s)].toArray w0 (fun v w' => Keep (fun x => x = b_s) w0 w' ∧ ∃ (s' : Array Pt), v = .slice (some ⟨b_s, off_s, none⟩) ((dedN s s.size).length) cap_s ∧ s'.size = n_s ∧ s'.toList.take (dedN s s.size).length = dedN s s.size ∧ (dedN s s.size).length ≤ n_s ∧ (arrA Pt.enc 3 b_s off_s s' T_s).holds w') := by
  have s0 : Stt A w0 (fun x => x = b_s) [arrA Pt.enc 3 b_s off_s s T_s] w0 := Stt.start1 hA _ hd_s
  refine Cal.intro (n := 61) Tryz.func21 rfl Tryz.ntmps21 rfl ?_
  refine XC.seq ?_
  refine XC.region ?_
  refine XS.vals' 1 [(2, .slice none 0 0)] (by kernel_rfl) ?_
  refine XS.done rfl (thn_norm ?_)
  refine XC.seq ?_
  refine XC.seq ?_
  refine XC.region ?_
  refine XS.vals' 3 [(6, .slice (some ⟨b_s, off_s, none⟩) n_s cap_s), (7, .int .i64 (n_s : Int)), (8, .bool (decide ((n_s : Int) < 2)))] (by kernel_rfl) ?_
  refine XS.done rfl (thn_norm ?_)
  refine XC.cond_d ((n_s : Int) < 2) rfl (fun hc1 => ?_) (fun hc1 => ?_)
  · skip
    refine XC.seq ?_
    refine XC.region ?_
    refine XS.vals' 2 [(9, .slice (some ⟨b_s, off_s, none⟩) n_s cap_s), (2, .slice (some ⟨b_s, off_s, none⟩) n_s cap_s)] (by kernel_rfl) ?_
    refine XS.done rfl (thn_norm ?_)
    refine XC.ret (thn_ret ?_)
    refine ⟨Or.inr rfl, .slice (some ⟨b_s, off_s, none⟩) n_s cap_s, fun a_ ha_ => results_t rfl ha_ rfl, s0.keep, ?_⟩
    refine ⟨s, ?_, hn_s, ?_, ?_, s0.at_ (i := 0) rfl⟩
    · have he_ : dedN s s.size = s.toList := by
        have h01 : s.size = 0 ∨ s.size = 1 := by omega
        rcases h01 with h0 | h0
        · rw [h0]; simp only [dedN]; exact (List.eq_nil_of_length_eq_zero (by simpa using h0)).symm
        · rw [h0, dedN_one s (by omega), List.take_of_length_le (by simp; omega)]
      rw [he_, Array.length_toList, hn_s]
    · have he_ : dedN s s.size = s.toList := by
        have h01 : s.size = 0 ∨ s.size = 1 := by omega
        rcases h01 with h0 | h0
        · rw [h0]; simp only [dedN]; exact (List.eq_nil_of_length_eq_zero (by simpa using h0)).symm
        · rw [h0, dedN_one s (by omega), List.take_of_length_le (by simp; omega)]
      rw [he_, List.take_length]
    · have he_ : dedN s s.size = s.toList := by
        have h01 : s.size = 0 ∨ s.size = 1 := by omega
        rcases h01 with h0 | h0
        · rw [h0]; simp only [dedN]; exact (List.eq_nil_of_length_eq_zero (by simpa using h0)).symm
        · rw [h0, dedN_one s (by omega), List.take_of_length_le (by simp; omega)]
      rw [he_, Array.length_toList]; omega
  · skip
    refine XC.skip (thn_norm ?_)
    refine XC.seq ?_
    refine XC.seq ?_
    refine XC.region ?_
    refine XS.vals' 1 [(3, .int .i64 1)] (by kernel_rfl) ?_
    refine XS.done rfl (thn_norm ?_)
    refine XC.block ?_
    refine XC.loop (fun ρ_ w_ m_ => ∃ kk : Nat, Has ρ_ [(0, .slice (some ⟨b_s, off_s, none⟩) n_s cap_s), (2, .slice none 0 0), (3, .int .i64 (kk : Int))] ∧ Stt A w0 (fun x => x = b_s) [arrA Pt.enc 3 b_s off_s s T_s] w_ ∧ Evo (av A [arrA Pt.enc 3 b_s off_s s T_s]) w0 (av A [arrA Pt.enc 3 b_s off_s s T_s]) w_ ∧ (1 ≤ kk ∧ kk ≤ n_s) ∧ (dedN s kk = s.toList.take kk) ∧ m_ = n_s + 1 - kk) (n_s + 1 - 1) ?_ ?_
    · skip
      exact ⟨1, ⟨rfl, rfl, (congrArg (Value.int .i64) (by first | rfl | omega : (1 : Int) = _)), trivial⟩, s0, Evo.refl _ _, (by omega), (dedN_one s (by omega)), rfl⟩
    rintro _ ρw2 w2 ⟨kk, hh2, s2, ev2, hk, hI, rfl⟩
    refine XC.rebase hh2 ?_
    refine XC.seq ?_
    refine XC.seq ?_
    refine XC.region ?_
    refine XS.vals' 4 [(10, .int .i64 (kk : Int)), (11, .slice (some ⟨b_s, off_s, none⟩) n_s cap_s), (12, .int .i64 (n_s : Int)), (13, .bool (decide ((kk : Int) < (n_s : Int))))] (by kernel_rfl) ?_
    refine XS.done rfl (thn_norm ?_)
    refine XC.cond_d ((kk : Int) < (n_s : Int)) rfl (fun hc3 => ?_) (fun hc3 => ?_)
    · skip
      refine XC.skip (thn_norm ?_)
      refine XC.seq ?_
      refine XC.block ?_
      refine XC.seq ?_
      refine XC.drawS 10 rfl (fun _ => False) 10 (by kernel_rfl) s2 (fun w4 s4 ev4 kp4 hH5 => ?_)
      refine XA.valD 0 16 (.slice (some ⟨b_s, off_s, none⟩) n_s cap_s) rfl (by kernel_rfl) (by kernel_rfl) (by kernel_rfl) rfl (by kernel_rfl) rfl hH5 (fun hH6 => ?_)
      refine XA.valD 1 17 (.int .i64 (kk : Int)) rfl (by kernel_rfl) (by kernel_rfl) (by kernel_rfl) rfl (by kernel_rfl) rfl hH6 (fun hH7 => ?_)
      refine XA.index (p := 2) (i := kk) (e := 24) (sz := 3) rfl (by kernel_rfl) (by kernel_rfl) (by kernel_rfl) rfl (by kernel_rfl) rfl rfl (by decide) rfl rfl (by omega) (by omega) (by kernel_rfl) (by kernel_rfl) hH7 (fun hH8 => ?_)
      refine XA.loadArr false (p := 3) (q := 0) (i := kk) (sz := 3) (g := true) s4 rfl (by (have h_ := hn_s; omega)) rfl rfl (by kernel_rfl) (by kernel_rfl) (by kernel_rfl) rfl (by kernel_rfl) (fun _ h => h) (by kernel_rfl) rfl rfl (by decide) hH8 rfl (by first | rfl | omega) (by kernel_rfl) (by kernel_rfl) rfl (fun hH9 => ?_)
      refine XA.valD 4 20 (.slice (some ⟨b_s, off_s, none⟩) n_s cap_s) rfl (by kernel_rfl) (by kernel_rfl) (by kernel_rfl) rfl (by kernel_rfl) rfl hH9 (fun hH10 => ?_)
      refine XA.valD 5 21 (.int .i64 (kk : Int)) rfl (by kernel_rfl) (by kernel_rfl) (by kernel_rfl) rfl (by kernel_rfl) rfl hH10 (fun hH11 => ?_)
      refine XA.arith (p := 6) (k := .i64) (r := (kk : Int) - 1) rfl (by kernel_rfl) (by kernel_rfl) (by kernel_rfl) rfl (by kernel_rfl) rfl (by decide) (fun _ => by kernel_rfl) (wrap_i64 (by omega)) hH11 (fun hH12 => ?_)
      refine XA.index (p := 7) (i := (kk - 1)) (e := 24) (sz := 3) rfl (by kernel_rfl) (by kernel_rfl) (by kernel_rfl) rfl (by kernel_rfl) rfl rfl (by decide) rfl rfl (by omega) (by omega) (by kernel_rfl) (by kernel_rfl) hH12 (fun hH13 => ?_)
      refine XA.loadArr false (p := 8) (q := 0) (i := (kk - 1)) (sz := 3) (g := true) s4 rfl (by (have h_ := hn_s; omega)) rfl rfl (by kernel_rfl) (by kernel_rfl) (by kernel_rfl) rfl (by kernel_rfl) (fun _ h => h) (by kernel_rfl) rfl rfl (by decide) hH13 rfl (by first | rfl | omega) (by kernel_rfl) (by kernel_rfl) rfl (fun hH14 => ?_)
      refine XA.op (i := 9) rfl (by kernel_rfl) (by kernel_rfl) (XO.eqlP false (a := .agg #[.int .i64 (((s)[kk]!).x), .int .i64 (((s)[kk]!).y), .int .i64 (((s)[kk]!).z)]) (b := .agg #[.int .i64 (((s)[kk - 1]!).x), .int .i64 (((s)[kk - 1]!).y), .int .i64 (((s)[kk - 1]!).z)]) (r' := decide ((((s)[kk]!).x) = (((s)[kk - 1]!).x) ∧ (((s)[kk]!).y) = (((s)[kk - 1]!).y) ∧ (((s)[kk]!).z) = (((s)[kk - 1]!).z))) (Eql.struct rfl (by kernel_rfl) (EqlF.cons rfl (a := .int .i64 (((s)[kk]!).x)) (b := .int .i64 (((s)[kk - 1]!).x)) (by kernel_rfl) (by kernel_rfl) (Eql.int rfl) (EqlF.cons rfl (a := .int .i64 (((s)[kk]!).y)) (b := .int .i64 (((s)[kk - 1]!).y)) (by kernel_rfl) (by kernel_rfl) (Eql.int rfl) (EqlF.cons rfl (a := .int .i64 (((s)[kk]!).z)) (b := .int .i64 (((s)[kk - 1]!).z)) (by kernel_rfl) (by kernel_rfl) (Eql.int rfl) EqlF.nil)))) (by rw [Bool.eq_iff_iff]; simp [ng]) rfl rfl (by decide) rfl rfl (by kernel_rfl) (fun _ => by kernel_rfl) ?_)
      have hH15 := (Hold.set (i := 9) (by decide)).2 hH14
      refine ⟨hH15, ?_⟩
      refine XA.done (by kernel_rfl) (thn_norm ?_)
      refine XC.cond_d ((((s)[kk]!).x) = (((s)[kk - 1]!).x) ∧ (((s)[kk]!).y) = (((s)[kk - 1]!).y) ∧ (((s)[kk]!).z) = (((s)[kk - 1]!).z)) rfl (fun hc16 => ?_) (fun hc16 => ?_)
      · skip
        refine XC.seq ?_
        refine XC.region ?_
        refine XS.vals' 2 [(26, .slice (some ⟨b_s, off_s, none⟩) n_s cap_s), (27, .int .i64 (kk : Int))] (by kernel_rfl) ?_
        refine XS.op rfl rfl (XO.arrLo (e := 24) (sz := 3) kk rfl rfl (by decide) rfl rfl (by omega) (by omega) (by omega) (by omega) (by kernel_rfl) (by kernel_rfl) ?_)
        refine XS.vals' 1 [(4, .slice (some ⟨b_s, (off_s + kk * 3), none⟩) (n_s - kk) (cap_s - kk))] (by kernel_rfl) ?_
        refine XS.done rfl (thn_norm ?_)
        refine XC.seq ?_
        refine XC.seq ?_
        refine XC.region ?_
        refine XS.vals' 1 [(5, .int .i64 1)] (by kernel_rfl) ?_
        refine XS.done rfl (thn_norm ?_)
        refine XC.block ?_
        refine XC.loop (fun ρ_ w_ m_ => ∃ (q : Nat) (r : Nat) (dd : Array Pt), Has ρ_ [(0, .slice (some ⟨b_s, off_s, none⟩) n_s cap_s), (2, .slice none 0 0), (3, .int .i64 (q : Int)), (4, .slice (some ⟨b_s, (off_s + kk * 3), none⟩) (n_s - kk) (cap_s - kk)), (5, .int .i64 (r : Int)), (10, .int .i64 (kk : Int)), (11, .slice (some ⟨b_s, off_s, none⟩) n_s cap_s), (12, .int .i64 (n_s : Int)), (13, .bool (decide ((kk : Int) < (n_s : Int)))), (16, .slice (some ⟨b_s, off_s, none⟩) n_s cap_s), (17, .int .i64 (kk : Int)), (18, .pointer (some ⟨b_s, off_s + kk * 3, none⟩)), (19, .agg #[.int .i64 (((s)[kk]!).x), .int .i64 (((s)[kk]!).y), .int .i64 (((s)[kk]!).z)]), (20, .slice (some ⟨b_s, off_s, none⟩) n_s cap_s), (21, .int .i64 (kk : Int)), (22, .int .i64 ((kk : Int) - 1)), (23, .pointer (some ⟨b_s, off_s + (kk - 1) * 3, none⟩)), (24, .agg #[.int .i64 (((s)[kk - 1]!).x), .int .i64 (((s)[kk - 1]!).y), .int .i64 (((s)[kk - 1]!).z)]), (25, .bool (decide ((((s)[kk]!).x) = (((s)[kk - 1]!).x) ∧ (((s)[kk]!).y) = (((s)[kk - 1]!).y) ∧ (((s)[kk]!).z) = (((s)[kk - 1]!).z)))), (26, .slice (some ⟨b_s, off_s, none⟩) n_s cap_s), (27, .int .i64 (kk : Int)), (28, .slice (some ⟨b_s, (off_s + kk * 3), none⟩) (n_s - kk) (cap_s - kk))] ∧ Stt A w0 (fun x => x = b_s) [arrA Pt.enc 3 b_s off_s dd T_s] w_ ∧ Evo (av A [arrA Pt.enc 3 b_s off_s s T_s]) w4 (av A [arrA Pt.enc 3 b_s off_s dd T_s]) w_ ∧ (dd.size = n_s) ∧ (1 ≤ q ∧ q + 1 ≤ kk + r ∧ 1 ≤ r ∧ kk + r ≤ n_s) ∧ (dedN s (kk + r) = dd.toList.take q) ∧ (∀ i, kk + r ≤ i + 1 → i < n_s → dd[i]! = s[i]!) ∧ m_ = n_s + 1 - (kk + r)) (n_s + 1 - (kk + 1)) ?_ ?_
        · skip
          exact ⟨kk, 1, s, ⟨rfl, rfl, rfl, rfl, (congrArg (Value.int .i64) (by first | rfl | omega : (1 : Int) = _)), rfl, rfl, rfl, rfl, rfl, rfl, rfl, rfl, rfl, rfl, rfl, rfl, rfl, rfl, rfl, rfl, rfl, trivial⟩, s4, Evo.refl _ _, (hn_s), (by omega), ((dedN_dup (by omega) (by rw [Pt.eq_iff]; exact hc16)).trans hI), ((fun _ _ _ => rfl)), rfl⟩
        rintro _ ρw17 w17 ⟨q, r, dd, hh17, s17, ev17, hsz, hq, hD, hsame, rfl⟩
        refine XC.rebase hh17 ?_
        refine XC.seq ?_
        refine XC.seq ?_
        refine XC.region ?_
        refine XS.vals' 4 [(29, .int .i64 (r : Int)), (30, .slice (some ⟨b_s, (off_s + kk * 3), none⟩) (n_s - kk) (cap_s - kk)), (31, .int .i64 ((n_s - kk : Nat) : Int)), (32, .bool (decide ((r : Int) < ((n_s - kk : Nat) : Int))))] (by kernel_rfl) ?_
        refine XS.done rfl (thn_norm ?_)
        refine XC.cond_d ((r : Int) < ((n_s - kk : Nat) : Int)) rfl (fun hc18 => ?_) (fun hc18 => ?_)
        · skip
          refine XC.skip (thn_norm ?_)
          refine XC.seq ?_
          refine XC.block ?_
          refine XC.seq ?_
          refine XC.drawS 10 rfl (fun _ => False) 10 (by kernel_rfl) s17 (fun w19 s19 ev19 kp19 hH20 => ?_)
          refine XA.valD 0 35 (.slice (some ⟨b_s, (off_s + kk * 3), none⟩) (n_s - kk) (cap_s - kk)) rfl (by kernel_rfl) (by kernel_rfl) (by kernel_rfl) rfl (by kernel_rfl) rfl hH20 (fun hH21 => ?_)
          refine XA.valD 1 36 (.int .i64 (r : Int)) rfl (by kernel_rfl) (by kernel_rfl) (by kernel_rfl) rfl (by kernel_rfl) rfl hH21 (fun hH22 => ?_)
          refine XA.index (p := 2) (i := r) (e := 24) (sz := 3) rfl (by kernel_rfl) (by kernel_rfl) (by kernel_rfl) rfl (by kernel_rfl) rfl rfl (by decide) rfl rfl (by omega) (by omega) (by kernel_rfl) (by kernel_rfl) hH22 (fun hH23 => ?_)
          refine XA.loadArr false (p := 3) (q := 0) (i := (kk + r)) (sz := 3) (g := true) s19 rfl (by (have h_ := hsz; omega)) rfl rfl (by kernel_rfl) (by kernel_rfl) (by kernel_rfl) rfl (by kernel_rfl) (fun _ h => h) (by kernel_rfl) rfl rfl (by decide) hH23 rfl (by first | rfl | omega) (by kernel_rfl) (by kernel_rfl) rfl (fun hH24 => ?_)
          refine XA.valD 4 39 (.slice (some ⟨b_s, (off_s + kk * 3), none⟩) (n_s - kk) (cap_s - kk)) rfl (by kernel_rfl) (by kernel_rfl) (by kernel_rfl) rfl (by kernel_rfl) rfl hH24 (fun hH25 => ?_)
          refine XA.valD 5 40 (.int .i64 (r : Int)) rfl (by kernel_rfl) (by kernel_rfl) (by kernel_rfl) rfl (by kernel_rfl) rfl hH25 (fun hH26 => ?_)
          refine XA.arith (p := 6) (k := .i64) (r := (r : Int) - 1) rfl (by kernel_rfl) (by kernel_rfl) (by kernel_rfl) rfl (by kernel_rfl) rfl (by decide) (fun _ => by kernel_rfl) (wrap_i64 (by omega)) hH26 (fun hH27 => ?_)
          refine XA.index (p := 7) (i := (r - 1)) (e := 24) (sz := 3) rfl (by kernel_rfl) (by kernel_rfl) (by kernel_rfl) rfl (by kernel_rfl) rfl rfl (by decide) rfl rfl (by omega) (by omega) (by kernel_rfl) (by kernel_rfl) hH27 (fun hH28 => ?_)
          refine XA.loadArr false (p := 8) (q := 0) (i := (kk + (r - 1))) (sz := 3) (g := true) s19 rfl (by (have h_ := hsz; omega)) rfl rfl (by kernel_rfl) (by kernel_rfl) (by kernel_rfl) rfl (by kernel_rfl) (fun _ h => h) (by kernel_rfl) rfl rfl (by decide) hH28 rfl (by first | rfl | omega) (by kernel_rfl) (by kernel_rfl) rfl (fun hH29 => ?_)
          refine XA.op (i := 9) rfl (by kernel_rfl) (by kernel_rfl) (XO.eqlP true (a := .agg #[.int .i64 (((dd)[kk + r]!).x), .int .i64 (((dd)[kk + r]!).y), .int .i64 (((dd)[kk + r]!).z)]) (b := .agg #[.int .i64 (((dd)[kk + (r - 1)]!).x), .int .i64 (((dd)[kk + (r - 1)]!).y), .int .i64 (((dd)[kk + (r - 1)]!).z)]) (r' := !decide ((((dd)[kk + r]!).x) = (((dd)[kk + (r - 1)]!).x) ∧ (((dd)[kk + r]!).y) = (((dd)[kk + (r - 1)]!).y) ∧ (((dd)[kk + r]!).z) = (((dd)[kk + (r - 1)]!).z))) (Eql.struct rfl (by kernel_rfl) (EqlF.cons rfl (a := .int .i64 (((dd)[kk + r]!).x)) (b := .int .i64 (((dd)[kk + (r - 1)]!).x)) (by kernel_rfl) (by kernel_rfl) (Eql.int rfl) (EqlF.cons rfl (a := .int .i64 (((dd)[kk + r]!).y)) (b := .int .i64 (((dd)[kk + (r - 1)]!).y)) (by kernel_rfl) (by kernel_rfl) (Eql.int rfl) (EqlF.cons rfl (a := .int .i64 (((dd)[kk + r]!).z)) (b := .int .i64 (((dd)[kk + (r - 1)]!).z)) (by kernel_rfl) (by kernel_rfl) (Eql.int rfl) EqlF.nil)))) (by rw [Bool.eq_iff_iff]; simp [ng]) rfl rfl (by decide) rfl rfl (by kernel_rfl) (fun _ => by kernel_rfl) ?_)
          have hH30 := (Hold.set (i := 9) (by decide)).2 hH29
          refine ⟨hH30, ?_⟩
          refine XA.done (by kernel_rfl) (thn_norm ?_)
          refine XC.cond_nd ((((dd)[kk + r]!).x) = (((dd)[kk + (r - 1)]!).x) ∧ (((dd)[kk + r]!).y) = (((dd)[kk + (r - 1)]!).y) ∧ (((dd)[kk + r]!).z) = (((dd)[kk + (r - 1)]!).z)) rfl (fun hc31 => ?_) (fun hc31 => ?_)
          · skip
            refine XC.seq ?_
            refine XC.region ?_
            refine XS.vals' 4 [(45, .slice (some ⟨b_s, off_s, none⟩) n_s cap_s), (46, .int .i64 (q : Int)), (47, .slice (some ⟨b_s, (off_s + kk * 3), none⟩) (n_s - kk) (cap_s - kk)), (48, .int .i64 (r : Int))] (by kernel_rfl) ?_
            refine XS.op rfl rfl (XO.index (i := r) (e := 24) (sz := 3) rfl rfl (by decide) rfl rfl (by omega) (by omega) (by kernel_rfl) (by kernel_rfl) ?_)
            refine XS.op rfl rfl (XO.loadArr (q := 0) (i := (kk + r)) (sz := 3) (g := true) s19 rfl (by (have h_ := hsz; omega)) rfl rfl rfl (by decide) rfl (by first | rfl | omega) (by kernel_rfl) (by kernel_rfl) rfl ?_)
            refine XS.op rfl rfl (XO.index (i := q) (e := 24) (sz := 3) rfl rfl (by decide) rfl rfl (by omega) (by omega) (by kernel_rfl) (by kernel_rfl) ?_)
            refine XS.op rfl rfl (XO.storeArr (q := 0) (i := q) (sz := 3) ((dd)[kk + r]!) s19 rfl (fun _ => rfl) (by (have h_ := hsz; omega)) rfl rfl rfl rfl (by first | rfl | omega) rfl (by kernel_rfl) rfl rfl (fun w32 s32 ev32 kp32 => ?_))
            have hs33 : (dd.setIfInBounds q ((dd)[kk + r]!)).size = n_s := by rw [Array.size_setIfInBounds]; exact hsz
            refine XS.done rfl (thn_norm ?_)
            refine XC.region ?_
            refine XS.vals' 1 [(52, .int .i64 (q : Int))] (by kernel_rfl) ?_
            refine XS.op rfl rfl (XO.arith (k := .i64) (r := (q : Int) + 1) rfl (by decide) (fun _ => by kernel_rfl) (wrap_i64 (by omega)) ?_)
            refine XS.vals' 1 [(3, .int .i64 ((q : Int) + 1))] (by kernel_rfl) ?_
            refine XS.done rfl (inBlk_norm (thn_norm ?_))
            refine XC.region ?_
            refine XS.vals' 1 [(33, .int .i64 (r : Int))] (by kernel_rfl) ?_
            refine XS.op rfl rfl (XO.arith (k := .i64) (r := (r : Int) + 1) rfl (by decide) (fun _ => by kernel_rfl) (wrap_i64 (by omega)) ?_)
            refine XS.vals' 1 [(5, .int .i64 ((r : Int) + 1))] (by kernel_rfl) ?_
            refine XS.done rfl (thn_norm ?_)
            refine ⟨n_s + 1 - (kk + (r + 1)), ?_, ?_⟩
            · omega
            exact ⟨(q + 1), (r + 1), (dd.setIfInBounds q ((dd)[kk + r]!)), ⟨rfl, rfl, (congrArg (Value.int .i64) (by first | rfl | omega : ((q : Int) + 1 : Int) = _)), rfl, (congrArg (Value.int .i64) (by first | rfl | omega : ((r : Int) + 1 : Int) = _)), rfl, rfl, rfl, rfl, rfl, rfl, rfl, rfl, rfl, rfl, rfl, rfl, rfl, rfl, rfl, rfl, rfl, trivial⟩, s32, (ev17.trans (ev19.trans ev32)), (hs33), (by omega), ((by have e1 := hsame (kk + r) (by omega) (by omega); have e2 := hsame (kk + (r - 1)) (by omega) (by omega); have hh_ := hc31; rw [e1, e2, show kk + (r - 1) = kk + r - 1 by omega, ← Pt.eq_iff] at hh_; rw [take_set _ _ _ (by omega), ← hD, e1]; exact dedN_new (m := kk + r) hh_)), ((fun i h1 h2 => by rw [getB_set _ _ _ _ (by omega), if_neg (by omega)]; exact hsame i (by omega) h2)), rfl⟩
          · skip
            refine XC.skip (inBlk_norm (thn_norm ?_))
            refine XC.region ?_
            refine XS.vals' 1 [(33, .int .i64 (r : Int))] (by kernel_rfl) ?_
            refine XS.op rfl rfl (XO.arith (k := .i64) (r := (r : Int) + 1) rfl (by decide) (fun _ => by kernel_rfl) (wrap_i64 (by omega)) ?_)
            refine XS.vals' 1 [(5, .int .i64 ((r : Int) + 1))] (by kernel_rfl) ?_
            refine XS.done rfl (thn_norm ?_)
            refine ⟨n_s + 1 - (kk + (r + 1)), ?_, ?_⟩
            · omega
            exact ⟨q, (r + 1), dd, ⟨rfl, rfl, rfl, rfl, (congrArg (Value.int .i64) (by first | rfl | omega : ((r : Int) + 1 : Int) = _)), rfl, rfl, rfl, rfl, rfl, rfl, rfl, rfl, rfl, rfl, rfl, rfl, rfl, rfl, rfl, rfl, rfl, trivial⟩, s19, (ev17.trans ev19), (hsz), (by omega), ((by have e1 := hsame (kk + r) (by omega) (by omega); have e2 := hsame (kk + (r - 1)) (by omega) (by omega); have hh_ := hc31; rw [e1, e2, show kk + (r - 1) = kk + r - 1 by omega, ← Pt.eq_iff] at hh_; rw [← hD]; exact dedN_dup (m := kk + r) (by omega) hh_)), ((fun i h1 h2 => hsame i (by omega) h2)), rfl⟩
        · skip
          refine XC.exit (thn_exit (thn_exit (inBlk_hit (thn_norm ?_))))
          refine XC.seq ?_
          refine XC.region ?_
          refine XS.vals' 2 [(54, .slice (some ⟨b_s, off_s, none⟩) n_s cap_s), (55, .int .i64 (q : Int))] (by kernel_rfl) ?_
          refine XS.op rfl rfl (XO.arrLo (e := 24) (sz := 3) q rfl rfl (by decide) rfl rfl (by omega) (by omega) (by omega) (by omega) (by kernel_rfl) (by kernel_rfl) ?_)
          refine XS.op rfl rfl (XO.clearArr (e := 24) (enc := Pt.enc) (k := 3) (q := 0) (l := q) (z := .agg #[.int .i64 0, .int .i64 0, .int .i64 0]) (⟨0, 0, 0⟩ : Pt) s17 rfl (fun _ => rfl) rfl rfl rfl (by first | rfl | omega) (by (have h_ := hsz; omega)) (by kernel_rfl) (by kernel_rfl) rfl rfl rfl (fun w34 dc35 hs36_ hp37 s34 ev34 kp34 => ?_))
          have hs36 : dc35.size = n_s := hs36_.trans hsz
          refine XS.done rfl (thn_norm ?_)
          refine XC.seq ?_
          refine XC.region ?_
          refine XS.vals' 2 [(57, .slice (some ⟨b_s, off_s, none⟩) n_s cap_s), (58, .int .i64 (q : Int))] (by kernel_rfl) ?_
          refine XS.op rfl rfl (XO.arrHi (e := 24) (sz := 3) q rfl rfl (by decide) rfl rfl (by omega) (by omega) (by kernel_rfl) (by kernel_rfl) ?_)
          refine XS.vals' 1 [(2, .slice (some ⟨b_s, off_s, none⟩) q cap_s)] (by kernel_rfl) ?_
          refine XS.done rfl (thn_norm ?_)
          refine XC.ret (inBlk_ret (thn_ret (thn_ret (inBlk_ret (thn_ret ?_)))))
          refine ⟨Or.inr rfl, .slice (some ⟨b_s, off_s, none⟩) q cap_s, fun a_ ha_ => results_t rfl ha_ rfl, s34.keep, ?_⟩
          refine ⟨dc35, ?_, hs36, ?_, ?_, s34.at_ (i := 0) rfl⟩
          · have he_ : dedN s s.size = dd.toList.take q := by rw [← hD]; congr 1; omega
            have hl_ : (dedN s s.size).length = q := by rw [he_]; simp; omega
            rw [hl_]
          · have he_ : dedN s s.size = dd.toList.take q := by rw [← hD]; congr 1; omega
            have hl_ : (dedN s s.size).length = q := by rw [he_]; simp; omega
            rw [hl_, he_]; exact take_congr (by omega) (by omega) hp37
          · have he_ : dedN s s.size = dd.toList.take q := by rw [← hD]; congr 1; omega
            have hl_ : (dedN s s.size).length = q := by rw [he_]; simp; omega
            omega
      · skip
        refine XC.skip (inBlk_norm (thn_norm ?_))
        refine XC.region ?_
        refine XS.vals' 1 [(14, .int .i64 (kk : Int))] (by kernel_rfl) ?_
        refine XS.op rfl rfl (XO.arith (k := .i64) (r := (kk : Int) + 1) rfl (by decide) (fun _ => by kernel_rfl) (wrap_i64 (by omega)) ?_)
        refine XS.vals' 1 [(3, .int .i64 ((kk : Int) + 1))] (by kernel_rfl) ?_
        refine XS.done rfl (thn_norm ?_)
        refine ⟨n_s + 1 - (kk + 1), ?_, ?_⟩
        · omega
        exact ⟨kk + 1, ⟨rfl, rfl, (congrArg (Value.int .i64) (by first | rfl | omega : ((kk : Int) + 1 : Int) = _)), trivial⟩, s4, (ev2.trans ev4), (by omega), ((dedN_new (by rw [Pt.eq_iff]; exact hc16)).trans (by rw [hI, take_snoc _ _ (by omega)])), rfl⟩
    · skip
      refine XC.exit (thn_exit (thn_exit (inBlk_hit (thn_norm ?_))))
      refine XC.seq ?_
      refine XC.region ?_
      refine XS.vals' 2 [(60, .slice (some ⟨b_s, off_s, none⟩) n_s cap_s), (2, .slice (some ⟨b_s, off_s, none⟩) n_s cap_s)] (by kernel_rfl) ?_
      refine XS.done rfl (thn_norm ?_)
      refine XC.ret ?_
      refine ⟨Or.inr rfl, .slice (some ⟨b_s, off_s, none⟩) n_s cap_s, fun a_ ha_ => results_t rfl ha_ rfl, s2.keep, ?_⟩
      refine ⟨s, ?_, hn_s, ?_, ?_, s2.at_ (i := 0) rfl⟩
      · have he_ : dedN s s.size = s.toList := by rw [show s.size = kk by omega, hI, List.take_of_length_le (by simp; omega)]
        rw [he_, Array.length_toList, hn_s]
      · have he_ : dedN s s.size = s.toList := by rw [show s.size = kk by omega, hI, List.take_of_length_le (by simp; omega)]
        rw [he_, List.take_length]
      · have he_ : dedN s s.size = s.toList := by rw [show s.size = kk by omega, hI, List.take_of_length_le (by simp; omega)]
        rw [he_, Array.length_toList]; omega

theorem slices_Clip___api_Point_api_Point__ok (A : Nat → Prop) (w0 : World) (hA : ∀ b, w0.heap.size ≤ b → A b) (s : List Pt) (a_s : Option Addr) (c_s : Nat) (h_s : Sl tPt A w0 (.slice a_s s.length c_s) s)  : Cal Tryz.prog 20 [(.slice a_s s.length c_s)].toArray w0 (fun v w' => Keep none_ w0 w' ∧ ∃ (ra0 : Option Addr) (rc0 : Nat), v = .slice ra0 ((s).length) rc0 ∧ Sl tPt A w' (.slice ra0 (s).length rc0) (s)) := by
  have s0 : Stt A w0 none_ [] w0 := Stt.start hA none_
  have h_s_ := h_s.mono Evo.start
  refine Cal.intro (n := 9) Tryz.func20 rfl Tryz.ntmps20 rfl ?_
  refine XC.seq ?_
  refine XC.region ?_
  refine XS.vals' 1 [(2, .slice none 0 0)] (by kernel_rfl) ?_
  refine XS.done rfl (thn_norm ?_)
  refine XC.seq ?_
  refine XC.region ?_
  refine XS.vals' 5 [(3, .slice a_s s.length c_s), (4, .slice a_s s.length c_s), (5, .int .i64 (s.length : Int)), (6, .slice a_s s.length c_s), (7, .int .i64 (s.length : Int))] (by kernel_rfl) ?_
  obtain ⟨_, _, hv_, hle1, _⟩ := Sl.elim h_s_
  cases hv_
  refine XS.op rfl rfl (XO.reslY (e := 24) (sz := 3) 0 s.length s.length s (cut_full _) h_s_ rfl rfl (by decide) rfl (by kernel_rfl) (by kernel_rfl) rfl (.himx _ _ (by omega) (by omega) (Nat.le_refl _) hle1) (by omega) (fun ra2 rc3 hf4 => ?_))
  refine XS.vals' 1 [(2, .slice ra2 s.length rc3)] (by kernel_rfl) ?_
  refine XS.done rfl (thn_norm ?_)
  refine XC.ret ?_
  refine ⟨Or.inr rfl, .slice ra2 s.length rc3, fun a_ ha_ => results_t rfl ha_ rfl, s0.keep, ?_⟩
  have hS0_ := Sl.fin (hf4.mono Evo.out) (show _ = s from rfl)
  obtain ⟨ra0, rc0, he0_, hS0_⟩ := hS0_
  rw [he0_]
  refine ⟨ra0, rc0, ?_, hS0_⟩
  rfl

theorem clean_Sort_ok (A : Nat → Prop) (w0 : World) (hA : ∀ b, w0.heap.size ≤ b → A b) (l : List Pt) (a_l : Option Addr) (c_l : Nat) (h_l : Sl tPt A w0 (.slice a_l l.length c_l) l) (hlen : l.length ≤ 1048576)  : Cal Tryz.prog 8 [(.slice a_l l.length c_l)].toArray w0 (fun v w' => Keep none_ w0 w' ∧ ∃ (ra0 : Option Addr) (rc0 : Nat), v = .slice ra0 ((sortPts l).length) rc0 ∧ Sl tPt A w' (.slice ra0 (sortPts l).length rc0) (sortPts l)) := by
  have s0 : Stt A w0 none_ [] w0 := Stt.start hA none_
  have h_l_ := h_l.mono Evo.start
  refine Cal.intro (n := 15) Tryz.func8 rfl Tryz.ntmps8 rfl ?_
  refine XC.seq ?_
  refine XC.region ?_
  refine XS.vals' 1 [(2, .slice none 0 0)] (by kernel_rfl) ?_
  refine XS.done rfl (thn_norm ?_)
  refine XC.seq ?_
  refine XC.region ?_
  refine XS.vals' 2 [(4, .slice a_l l.length c_l), (5, .int .i64 (l.length : Int))] (by kernel_rfl) ?_
  refine XS.op rfl rfl (XO.makeArr (e := 24) (enc := Pt.enc) (k := 3) (n := l.length) (bytes := 24) (z := .agg #[.int .i64 0, .int .i64 0, .int .i64 0]) (⟨0, 0, 0⟩ : Pt) s0 rfl rfl (by decide) rfl rfl (by omega) (by (have hm_ := h_l_.elim; obtain ⟨_, _, _, _, hm_⟩ := hm_; omega)) (by kernel_rfl) (by kernel_rfl) (by kernel_rfl) rfl (by kernel_rfl) rfl rfl rfl (fun b1 w2 s2 ev2 kp2 ybb1 => ?_))
  have hs3 : (Array.replicate l.length (⟨0, 0, 0⟩ : Pt)).size = l.length := Array.size_replicate
  refine XS.vals' 1 [(3, .slice (some ⟨b1, 0, none⟩) l.length l.length)] (by kernel_rfl) ?_
  refine XS.done rfl (thn_norm ?_)
  refine XC.seq ?_
  refine XC.region ?_
  refine XS.vals' 2 [(7, .slice (some ⟨b1, 0, none⟩) l.length l.length), (8, .slice a_l l.length c_l)] (by kernel_rfl) ?_
  refine XS.op rfl rfl (XO.copyArr (e := 24) (enc := Pt.enc) (k := 3) (q := 0) (h := fun _ => rfl) s2 rfl (h_l_.mono ev2) hs3 rfl rfl (by decide) rfl rfl (by kernel_rfl) (by kernel_rfl) rfl (fun _ => rfl) (fun w4 s4 ev4 kp4 => ?_))
  have hs5 : (List.toArray l).size = l.length := List.size_toArray
  refine XS.done rfl (thn_norm ?_)
  refine XC.seq ?_
  refine XC.region ?_
  refine XS.vals' 1 [(10, .slice (some ⟨b1, 0, none⟩) l.length l.length)] (by kernel_rfl) ?_
  refine XS.op rfl rfl (XO.callM (q := 0) (f := 18) (args := [(.slice (some ⟨b1, 0, none⟩) l.length l.length), (.func (.func 19) #[] #[])].toArray) s4 rfl rfl (by decide) (fun _ => by kernel_rfl) (slices_SortFunc_Pt_ok (av A _) _ s4.av_fresh b1 0 l.length l.length (List.toArray l) 24 hs5 (s4.at_ (i := 0) rfl)  (by have h_ := hs5; (have hm_ := h_l_.elim; obtain ⟨_, _, _, _, hm_⟩ := hm_; omega))) (fun _ w6 kp6 hv_ => ?_))
  obtain ⟨sn7, rfl, hs8, hp9, hh10⟩ := hv_
  have s6 := s4.set (i := 0) (Y := (arrA Pt.enc 3 b1 0 sn7 24)) rfl kp6 hh10 (fun _ h => .inl h)
  have ev6 := Evo.set s4 (i := 0) (Y := (arrA Pt.enc 3 b1 0 sn7 24)) rfl kp6 (fun _ h => .inl h)
  refine XS.done rfl (thn_norm ?_)
  refine XC.seq ?_
  refine XC.region ?_
  refine XS.vals' 1 [(12, .slice (some ⟨b1, 0, none⟩) l.length l.length)] (by kernel_rfl) ?_
  refine XS.op rfl rfl (XO.callM (q := 0) (f := 21) (args := [(.slice (some ⟨b1, 0, none⟩) l.length l.length)].toArray) s6 rfl rfl (by decide) (fun _ => by kernel_rfl) (slices_Compact___api_Point_api_Point__ok (av A _) _ s6.av_fresh b1 0 l.length l.length sn7 24 hs8 (s6.at_ (i := 0) rfl)  (by have h_ := hs8; (have hm_ := h_l_.elim; obtain ⟨_, _, _, _, hm_⟩ := hm_; omega))) (fun _ w11 kp11 hv_ => ?_))
  obtain ⟨sn12, rfl, hs13, hp14, hp15, hh16⟩ := hv_
  have s11 := s6.set (i := 0) (Y := (arrA Pt.enc 3 b1 0 sn12 24)) rfl kp11 hh16 (fun _ h => .inl h)
  have ev11 := Evo.set s6 (i := 0) (Y := (arrA Pt.enc 3 b1 0 sn12 24)) rfl kp11 (fun _ h => .inl h)
  obtain ⟨s17, ev17, hf17⟩ := Stt.thaw (enc := Pt.enc) (k := 3) s11 0 ((dedN sn7 sn7.size).length) l.length (fun _ => rfl) rfl (fun _ h => h.elim) (by (have h_ := hs13; (have hm_ := h_l_.elim; obtain ⟨_, _, _, _, hm_⟩ := hm_; omega))) (by (have h_ := hs13; (have hm_ := h_l_.elim; obtain ⟨_, _, _, _, hm_⟩ := hm_; omega))) (by (have h_ := hs13; (have hm_ := h_l_.elim; obtain ⟨_, _, _, _, hm_⟩ := hm_; omega)))
  rw [hp14] at hf17
  refine XS.op rfl rfl (XO.callS (f := 20) (args := [(.slice (some ⟨b1, 0, none⟩) ((dedN sn7 sn7.size).length) l.length)].toArray) s17 rfl (by decide) (fun _ => by kernel_rfl) (slices_Clip___api_Point_api_Point__ok (av A _) _ s17.av_fresh (dedN sn7 sn7.size) (some ⟨b1, 0, none⟩) l.length hf17 ) (fun _ w18 s18 ev18 kp18 hv_ => ?_))
  obtain ⟨ra0_19, rc0_20, rfl, hf21⟩ := hv_
  refine XS.vals' 1 [(2, .slice ra0_19 (((dedN sn7 sn7.size)).length) rc0_20)] (by kernel_rfl) ?_
  refine XS.done rfl (thn_norm ?_)
  refine XC.ret ?_
  refine ⟨Or.inr rfl, .slice ra0_19 (((dedN sn7 sn7.size)).length) rc0_20, fun a_ ha_ => results_t rfl ha_ rfl, s18.keep, ?_⟩
  have hS0_ := Sl.fin (hf21.mono Evo.out) (show _ = sortPts l from (sortPts_of hp9))
  obtain ⟨ra0, rc0, he0_, hS0_⟩ := hS0_
  rw [he0_]
  refine ⟨ra0, rc0, ?_, hS0_⟩
  rfl

end Go.Proofs.Tryz
namespace Go.Proofs.Tryz
open Go Go.X Go.RowKit Go.Sort
set_option maxRecDepth 100000
set_option linter.unusedVariables false
theorem orient_Line_ok (A : Nat → Prop) (w0 : World) (hA : ∀ b, w0.heap.size ≤ b → A b) (a : Pt) (b : Pt) (c : Pt) (ha : a.ok) (hb : b.ok) (hc : c.ok)  : Cal Tryz.prog 29 [(.agg #[.int .i64 a.x, .int .i64 a.y, .int .i64 a.z]), (.agg #[.int .i64 b.x, .int .i64 b.y, .int .i64 b.z]), (.agg #[.int .i64 c.x, .int .i64 c.y, .int .i64 c.z])].toArray w0 (fun v w' => Keep none_ w0 w' ∧ v = .tuple #[(.bool (decide (lineOn a b c))), (.bool (decide (True)))]) := by
  have s0 : Stt A w0 none_ [] w0 := Stt.start hA none_
  refine Cal.intro (n := 68) Tryz.func29 rfl Tryz.ntmps29 rfl ?_
  refine XC.seq ?_
  refine XC.region ?_
  refine XS.op rfl rfl (XO.new (cs := [.int .i64 a.x, .int .i64 a.y, .int .i64 a.z]) (T := 24) s0 rfl (by decide) (fun _ => by kernel_rfl) (fun b1 w2 s2 ev2 kp2 ybb1 => ?_))
  refine XS.op rfl rfl (XO.new (cs := [.int .i64 b.x, .int .i64 b.y, .int .i64 b.z]) (T := 24) s2 rfl (by decide) (fun _ => by kernel_rfl) (fun b3 w4 s4 ev4 kp4 ybb3 => ?_))
  refine XS.op rfl rfl (XO.new (cs := [.int .i64 c.x, .int .i64 c.y, .int .i64 c.z]) (T := 24) s4 rfl (by decide) (fun _ => by kernel_rfl) (fun b5 w6 s6 ev6 kp6 ybb5 => ?_))
  refine XS.vals' 2 [(6, .bool false), (7, .bool false)] (by kernel_rfl) ?_
  refine XS.done rfl (thn_norm ?_)
  refine XC.seq ?_
  refine XC.seq ?_
  refine XC.region ?_
  refine XS.op rfl rfl (XO.loadS (i := 0) (v := .agg #[.int .i64 a.x, .int .i64 a.y, .int .i64 a.z]) (g := true) (m := 3) s6 rfl rfl rfl (by decide) rfl (by kernel_rfl) (by kernel_rfl) rfl rfl rfl ?_)
  refine XS.op rfl rfl (XO.callS (f := 53) (args := [(.agg #[.int .i64 a.x, .int .i64 a.y, .int .i64 a.z])].toArray) s6 rfl (by decide) (fun _ => by kernel_rfl) (orient_may_ok (av A _) _ s6.av_fresh a ) (fun _ w7 s7 ev7 kp7 hv_ => ?_))
  obtain rfl := hv_
  refine XS.vals' 2 [(13, .bool (!decide (a.ok))), (14, .bool (!decide (a.ok)))] (by kernel_rfl) ?_
  refine XS.onN 14 (a.ok) rfl (fun h_ => absurd ha h_) (fun _ => ?_)
  refine XS.op_g rfl rfl rfl (XO.loadS (i := 1) (v := .agg #[.int .i64 b.x, .int .i64 b.y, .int .i64 b.z]) (g := true) (m := 3) s7 rfl rfl rfl (by decide) rfl (by kernel_rfl) (by kernel_rfl) rfl rfl rfl ?_)
  refine XS.op_g rfl rfl rfl (XO.callS (f := 53) (args := [(.agg #[.int .i64 b.x, .int .i64 b.y, .int .i64 b.z])].toArray) s7 rfl (by decide) (fun _ => by kernel_rfl) (orient_may_ok (av A _) _ s7.av_fresh b ) (fun _ w9 s9 ev9 kp9 hv_ => ?_))
  obtain rfl := hv_
  refine XS.vals' 3 [(17, .bool (!decide (b.ok))), (18, .bool (!decide (b.ok))), (19, .bool (!decide (b.ok)))] (by kernel_rfl) ?_
  refine XS.onN 19 (b.ok) rfl (fun h_ => absurd hb h_) (fun _ => ?_)
  refine XS.op_g rfl rfl rfl (XO.loadS (i := 2) (v := .agg #[.int .i64 c.x, .int .i64 c.y, .int .i64 c.z]) (g := true) (m := 3) s9 rfl rfl rfl (by decide) rfl (by kernel_rfl) (by kernel_rfl) rfl rfl rfl ?_)
  refine XS.op_g rfl rfl rfl (XO.callS (f := 53) (args := [(.agg #[.int .i64 c.x, .int .i64 c.y, .int .i64 c.z])].toArray) s9 rfl (by decide) (fun _ => by kernel_rfl) (orient_may_ok (av A _) _ s9.av_fresh c ) (fun _ w11 s11 ev11 kp11 hv_ => ?_))
  obtain rfl := hv_
  refine XS.vals' 2 [(22, .bool (!decide (c.ok))), (23, .bool (!decide (c.ok)))] (by kernel_rfl) ?_
  refine XS.done rfl (thn_norm ?_)
  refine XC.cond_f (congrArg Value.bool (by rw [decide_eq_true hc]; rfl)) ?_
  refine XC.skip (thn_norm ?_)
  refine XC.cut (fun ρ_ w_ => ∃ b21_ b24_ : Nat, Has ρ_ [(6, .bool false), (7, .bool false), (8, .pointer (some ⟨b21_, 0, none⟩)), (9, .pointer (some ⟨b24_, 0, none⟩))] ∧ Stt A w0 none_ [cellsA b1 [.int .i64 a.x, .int .i64 a.y, .int .i64 a.z] 24, cellsA b3 [.int .i64 b.x, .int .i64 b.y, .int .i64 b.z] 24, cellsA b5 [.int .i64 c.x, .int .i64 c.y, .int .i64 c.z] 24, cellsA b21_ [.int .i64 ((Pt.sub a c).x), .int .i64 ((Pt.sub a c).y), .int .i64 ((Pt.sub a c).z)] 24, cellsA b24_ [.int .i64 ((Pt.sub b c).x), .int .i64 ((Pt.sub b c).y), .int .i64 ((Pt.sub b c).z)] 24] w_ ∧ Evo (av A [cellsA b1 [.int .i64 a.x, .int .i64 a.y, .int .i64 a.z] 24, cellsA b3 [.int .i64 b.x, .int .i64 b.y, .int .i64 b.z] 24, cellsA b5 [.int .i64 c.x, .int .i64 c.y, .int .i64 c.z] 24]) w11 (av A [cellsA b1 [.int .i64 a.x, .int .i64 a.y, .int .i64 a.z] 24, cellsA b3 [.int .i64 b.x, .int .i64 b.y, .int .i64 b.z] 24, cellsA b5 [.int .i64 c.x, .int .i64 c.y, .int .i64 c.z] 24, cellsA b21_ [.int .i64 ((Pt.sub a c).x), .int .i64 ((Pt.sub a c).y), .int .i64 ((Pt.sub a c).z)] 24, cellsA b24_ [.int .i64 ((Pt.sub b c).x), .int .i64 ((Pt.sub b c).y), .int .i64 ((Pt.sub b c).z)] 24]) w_) ?_ ?_
  · skip
    refine XC.drawS 10 rfl (fun _ => False) 10 (by kernel_rfl) s11 (fun w13 s13 ev13 kp13 hH14 => ?_)
    refine XA.loadS false (j := 0) (i := 0) (v := .agg #[.int .i64 a.x, .int .i64 a.y, .int .i64 a.z]) (g := true) (m := 3) s13 rfl rfl (by kernel_rfl) (by kernel_rfl) (by kernel_rfl) rfl (by kernel_rfl) (fun _ h => h) (by kernel_rfl) rfl rfl (by decide) hH14 rfl (by kernel_rfl) (by kernel_rfl) rfl rfl rfl (fun hH15 => ?_)
    refine XA.loadS false (j := 1) (i := 2) (v := .agg #[.int .i64 c.x, .int .i64 c.y, .int .i64 c.z]) (g := true) (m := 3) s13 rfl rfl (by kernel_rfl) (by kernel_rfl) (by kernel_rfl) rfl (by kernel_rfl) (fun _ h => h) (by kernel_rfl) rfl rfl (by decide) hH15 rfl (by kernel_rfl) (by kernel_rfl) rfl rfl rfl (fun hH16 => ?_)
    refine XA.loadS false (j := 3) (i := 1) (v := .agg #[.int .i64 b.x, .int .i64 b.y, .int .i64 b.z]) (g := true) (m := 3) s13 rfl rfl (by kernel_rfl) (by kernel_rfl) (by kernel_rfl) rfl (by kernel_rfl) (fun _ h => h) (by kernel_rfl) rfl rfl (by decide) hH16 rfl (by kernel_rfl) (by kernel_rfl) rfl rfl rfl (fun hH17 => ?_)
    refine XA.loadS false (j := 4) (i := 2) (v := .agg #[.int .i64 c.x, .int .i64 c.y, .int .i64 c.z]) (g := true) (m := 3) s13 rfl rfl (by kernel_rfl) (by kernel_rfl) (by kernel_rfl) rfl (by kernel_rfl) (fun _ h => h) (by kernel_rfl) rfl rfl (by decide) hH17 rfl (by kernel_rfl) (by kernel_rfl) rfl rfl rfl (fun hH18 => ?_)
    refine XA.op3 (i := 2) (j := 6) (k := 7) rfl rfl rfl (by kernel_rfl) (by kernel_rfl) (by kernel_rfl) (by kernel_rfl) ?_ ?_ ?_
    · skip
      refine XO.callS (f := 54) (args := [(.agg #[.int .i64 a.x, .int .i64 a.y, .int .i64 a.z]), (.agg #[.int .i64 c.x, .int .i64 c.y, .int .i64 c.z])].toArray) s13 rfl (by decide) (fun _ => by kernel_rfl) (orient_less_ok (av A _) _ s13.av_fresh a c (by first | assumption | (unfold Pt.ok inC at *; simp only [Pt.sub]; omega)) (by first | assumption | (unfold Pt.ok inC at *; simp only [Pt.sub]; omega))) (fun _ w19 s19 ev19 kp19 hv_ => ?_)
      obtain rfl := hv_
      have hH20 := hH18.keep (i := 2) kp19 rfl
      refine ⟨hH20, ?_⟩
      refine XA.op3 (i := 5) (j := 6) (k := 7) rfl rfl rfl (by kernel_rfl) (by kernel_rfl) (by kernel_rfl) (by kernel_rfl) ?_ ?_ ?_
      · skip
        refine XO.callS (f := 54) (args := [(.agg #[.int .i64 b.x, .int .i64 b.y, .int .i64 b.z]), (.agg #[.int .i64 c.x, .int .i64 c.y, .int .i64 c.z])].toArray) s19 rfl (by decide) (fun _ => by kernel_rfl) (orient_less_ok (av A _) _ s19.av_fresh b c (by first | assumption | (unfold Pt.ok inC at *; simp only [Pt.sub]; omega)) (by first | assumption | (unfold Pt.ok inC at *; simp only [Pt.sub]; omega))) (fun _ w21 s21 ev21 kp21 hv_ => ?_)
        obtain rfl := hv_
        have hH22 := hH20.keep (i := 5) kp21 rfl
        refine ⟨hH22, ?_⟩
        refine XA.op2 (i := 6) (j := 7) rfl rfl (by kernel_rfl) (by kernel_rfl) (by kernel_rfl) ?_ ?_
        · skip
          refine XO.new (cs := [.int .i64 0, .int .i64 0, .int .i64 0]) (T := 24) s21 rfl (by decide) (fun _ => by kernel_rfl) (fun b23 w24 s24 ev24 kp24 ybb23 => ?_)
          have hH25 := hH22.keep (i := 6) kp24 rfl
          refine ⟨hH25, ?_⟩
          refine XA.op (i := 7) rfl (by kernel_rfl) (by kernel_rfl) (XO.new (cs := [.int .i64 0, .int .i64 0, .int .i64 0]) (T := 24) s24 rfl (by decide) (fun _ => by kernel_rfl) (fun b26 w27 s27 ev27 kp27 ybb26 => ?_))
          have hH28 := hH25.keep (i := 7) kp27 rfl
          refine ⟨hH28, ?_⟩
          refine XA.op (i := 8) rfl (by kernel_rfl) (by kernel_rfl) (XO.storeS (i := 3) (v := .agg #[.int .i64 ((Pt.sub a c).x), .int .i64 ((Pt.sub a c).y), .int .i64 ((Pt.sub a c).z)]) (m := 3) (cs' := [.int .i64 ((Pt.sub a c).x), .int .i64 ((Pt.sub a c).y), .int .i64 ((Pt.sub a c).z)]) s27 rfl rfl rfl rfl rfl (by kernel_rfl) rfl rfl rfl rfl (fun w29 s29 ev29 kp29 => ?_))
          have hH30 := hH28.young (i := 8) kp29 (by exact (Nat.le_trans hH22.1 ybb23)) rfl
          refine ⟨hH30, ?_⟩
          refine XA.op (i := 9) rfl (by kernel_rfl) (by kernel_rfl) (XO.storeS (i := 4) (v := .agg #[.int .i64 ((Pt.sub b c).x), .int .i64 ((Pt.sub b c).y), .int .i64 ((Pt.sub b c).z)]) (m := 3) (cs' := [.int .i64 ((Pt.sub b c).x), .int .i64 ((Pt.sub b c).y), .int .i64 ((Pt.sub b c).z)]) s29 rfl rfl rfl rfl rfl (by kernel_rfl) rfl rfl rfl rfl (fun w31 s31 ev31 kp31 => ?_))
          have hH32 := hH30.young (i := 9) kp31 (by exact (Nat.le_trans hH25.1 ybb26)) rfl
          refine ⟨hH32, ?_⟩
          refine XA.done (by kernel_rfl) (thn_norm ?_)
          exact ⟨b23, b26, ⟨rfl, rfl, rfl, rfl, trivial⟩, s31, (ev13.trans (ev19.trans (ev21.trans (ev24.trans (ev27.trans (ev29.trans ev31))))))⟩
        · skip
          refine XO.new (cs := [.int .i64 0, .int .i64 0, .int .i64 0]) (T := 24) s21 rfl (by decide) (fun _ => by kernel_rfl) (fun b33 w34 s34 ev34 kp34 ybb33 => ?_)
          have hH35 := hH22.keep (i := 7) kp34 rfl
          refine ⟨hH35, ?_⟩
          refine XA.op (i := 6) rfl (by kernel_rfl) (by kernel_rfl) (XO.new (cs := [.int .i64 0, .int .i64 0, .int .i64 0]) (T := 24) s34 rfl (by decide) (fun _ => by kernel_rfl) (fun b36 w37 s37 ev37 kp37 ybb36 => ?_))
          have hH38 := hH35.keep (i := 6) kp37 rfl
          refine ⟨hH38, ?_⟩
          refine XA.op (i := 8) rfl (by kernel_rfl) (by kernel_rfl) (XO.storeS (i := 4) (v := .agg #[.int .i64 ((Pt.sub a c).x), .int .i64 ((Pt.sub a c).y), .int .i64 ((Pt.sub a c).z)]) (m := 3) (cs' := [.int .i64 ((Pt.sub a c).x), .int .i64 ((Pt.sub a c).y), .int .i64 ((Pt.sub a c).z)]) s37 rfl rfl rfl rfl rfl (by kernel_rfl) rfl rfl rfl rfl (fun w39 s39 ev39 kp39 => ?_))
          have hH40 := hH38.young (i := 8) kp39 (by exact (Nat.le_trans hH35.1 ybb36)) rfl
          refine ⟨hH40, ?_⟩
          refine XA.op (i := 9) rfl (by kernel_rfl) (by kernel_rfl) (XO.storeS (i := 3) (v := .agg #[.int .i64 ((Pt.sub b c).x), .int .i64 ((Pt.sub b c).y), .int .i64 ((Pt.sub b c).z)]) (m := 3) (cs' := [.int .i64 ((Pt.sub b c).x), .int .i64 ((Pt.sub b c).y), .int .i64 ((Pt.sub b c).z)]) s39 rfl rfl rfl rfl rfl (by kernel_rfl) rfl rfl rfl rfl (fun w41 s41 ev41 kp41 => ?_))
          have hH42 := hH40.young (i := 9) kp41 (by exact (Nat.le_trans hH22.1 ybb33)) rfl
          refine ⟨hH42, ?_⟩
          refine XA.done (by kernel_rfl) (thn_norm ?_)
          obtain ⟨s43, ev43⟩ := s41.swap 3
          exact ⟨b36, b33, ⟨rfl, rfl, rfl, rfl, trivial⟩, s43, (ev13.trans (ev19.trans (ev21.trans (ev34.trans (ev37.trans (ev39.trans (ev41.trans ev43)))))))⟩
      · skip
        refine XO.new (cs := [.int .i64 0, .int .i64 0, .int .i64 0]) (T := 24) s19 rfl (by decide) (fun _ => by kernel_rfl) (fun b44 w45 s45 ev45 kp45 ybb44 => ?_)
        have hH46 := hH20.keep (i := 6) kp45 rfl
        refine ⟨hH46, ?_⟩
        refine XA.op2 (i := 5) (j := 7) rfl rfl (by kernel_rfl) (by kernel_rfl) (by kernel_rfl) ?_ ?_
        · skip
          refine XO.callS (f := 54) (args := [(.agg #[.int .i64 b.x, .int .i64 b.y, .int .i64 b.z]), (.agg #[.int .i64 c.x, .int .i64 c.y, .int .i64 c.z])].toArray) s45 rfl (by decide) (fun _ => by kernel_rfl) (orient_less_ok (av A _) _ s45.av_fresh b c (by first | assumption | (unfold Pt.ok inC at *; simp only [Pt.sub]; omega)) (by first | assumption | (unfold Pt.ok inC at *; simp only [Pt.sub]; omega))) (fun _ w47 s47 ev47 kp47 hv_ => ?_)
          obtain rfl := hv_
          have hH48 := hH46.keep (i := 5) kp47 rfl
          refine ⟨hH48, ?_⟩
          refine XA.op (i := 7) rfl (by kernel_rfl) (by kernel_rfl) (XO.new (cs := [.int .i64 0, .int .i64 0, .int .i64 0]) (T := 24) s47 rfl (by decide) (fun _ => by kernel_rfl) (fun b49 w50 s50 ev50 kp50 ybb49 => ?_))
          have hH51 := hH48.keep (i := 7) kp50 rfl
          refine ⟨hH51, ?_⟩
          refine XA.op (i := 8) rfl (by kernel_rfl) (by kernel_rfl) (XO.storeS (i := 3) (v := .agg #[.int .i64 ((Pt.sub a c).x), .int .i64 ((Pt.sub a c).y), .int .i64 ((Pt.sub a c).z)]) (m := 3) (cs' := [.int .i64 ((Pt.sub a c).x), .int .i64 ((Pt.sub a c).y), .int .i64 ((Pt.sub a c).z)]) s50 rfl rfl rfl rfl rfl (by kernel_rfl) rfl rfl rfl rfl (fun w52 s52 ev52 kp52 => ?_))
          have hH53 := hH51.young (i := 8) kp52 (by exact (Nat.le_trans hH20.1 ybb44)) rfl
          refine ⟨hH53, ?_⟩
          refine XA.op (i := 9) rfl (by kernel_rfl) (by kernel_rfl) (XO.storeS (i := 4) (v := .agg #[.int .i64 ((Pt.sub b c).x), .int .i64 ((Pt.sub b c).y), .int .i64 ((Pt.sub b c).z)]) (m := 3) (cs' := [.int .i64 ((Pt.sub b c).x), .int .i64 ((Pt.sub b c).y), .int .i64 ((Pt.sub b c).z)]) s52 rfl rfl rfl rfl rfl (by kernel_rfl) rfl rfl rfl rfl (fun w54 s54 ev54 kp54 => ?_))
          have hH55 := hH53.young (i := 9) kp54 (by exact (Nat.le_trans hH48.1 ybb49)) rfl
          refine ⟨hH55, ?_⟩
          refine XA.done (by kernel_rfl) (thn_norm ?_)
          exact ⟨b44, b49, ⟨rfl, rfl, rfl, rfl, trivial⟩, s54, (ev13.trans (ev19.trans (ev45.trans (ev47.trans (ev50.trans (ev52.trans ev54))))))⟩
        · skip
          refine XO.new (cs := [.int .i64 0, .int .i64 0, .int .i64 0]) (T := 24) s45 rfl (by decide) (fun _ => by kernel_rfl) (fun b56 w57 s57 ev57 kp57 ybb56 => ?_)
          have hH58 := hH46.keep (i := 7) kp57 rfl
          refine ⟨hH58, ?_⟩
          refine XA.op (i := 5) rfl (by kernel_rfl) (by kernel_rfl) (XO.callS (f := 54) (args := [(.agg #[.int .i64 b.x, .int .i64 b.y, .int .i64 b.z]), (.agg #[.int .i64 c.x, .int .i64 c.y, .int .i64 c.z])].toArray) s57 rfl (by decide) (fun _ => by kernel_rfl) (orient_less_ok (av A _) _ s57.av_fresh b c (by first | assumption | (unfold Pt.ok inC at *; simp only [Pt.sub]; omega)) (by first | assumption | (unfold Pt.ok inC at *; simp only [Pt.sub]; omega))) (fun _ w59 s59 ev59 kp59 hv_ => ?_))
          obtain rfl := hv_
          have hH60 := hH58.keep (i := 5) kp59 rfl
          refine ⟨hH60, ?_⟩
          refine XA.op (i := 8) rfl (by kernel_rfl) (by kernel_rfl) (XO.storeS (i := 3) (v := .agg #[.int .i64 ((Pt.sub a c).x), .int .i64 ((Pt.sub a c).y), .int .i64 ((Pt.sub a c).z)]) (m := 3) (cs' := [.int .i64 ((Pt.sub a c).x), .int .i64 ((Pt.sub a c).y), .int .i64 ((Pt.sub a c).z)]) s59 rfl rfl rfl rfl rfl (by kernel_rfl) rfl rfl rfl rfl (fun w61 s61 ev61 kp61 => ?_))
          have hH62 := hH60.young (i := 8) kp61 (by exact (Nat.le_trans hH20.1 ybb44)) rfl
          refine ⟨hH62, ?_⟩
          refine XA.op (i := 9) rfl (by kernel_rfl) (by kernel_rfl) (XO.storeS (i := 4) (v := .agg #[.int .i64 ((Pt.sub b c).x), .int .i64 ((Pt.sub b c).y), .int .i64 ((Pt.sub b c).z)]) (m := 3) (cs' := [.int .i64 ((Pt.sub b c).x), .int .i64 ((Pt.sub b c).y), .int .i64 ((Pt.sub b c).z)]) s61 rfl rfl rfl rfl rfl (by kernel_rfl) rfl rfl rfl rfl (fun w63 s63 ev63 kp63 => ?_))
          have hH64 := hH62.young (i := 9) kp63 (by exact (Nat.le_trans hH46.1 ybb56)) rfl
          refine ⟨hH64, ?_⟩
          refine XA.done (by kernel_rfl) (thn_norm ?_)
          exact ⟨b44, b56, ⟨rfl, rfl, rfl, rfl, trivial⟩, s63, (ev13.trans (ev19.trans (ev45.trans (ev57.trans (ev59.trans (ev61.trans ev63))))))⟩
      · skip
        refine XO.new (cs := [.int .i64 0, .int .i64 0, .int .i64 0]) (T := 24) s19 rfl (by decide) (fun _ => by kernel_rfl) (fun b65 w66 s66 ev66 kp66 ybb65 => ?_)
        have hH67 := hH20.keep (i := 7) kp66 rfl
        refine ⟨hH67, ?_⟩
        refine XA.op2 (i := 5) (j := 6) rfl rfl (by kernel_rfl) (by kernel_rfl) (by kernel_rfl) ?_ ?_
        · skip
          refine XO.callS (f := 54) (args := [(.agg #[.int .i64 b.x, .int .i64 b.y, .int .i64 b.z]), (.agg #[.int .i64 c.x, .int .i64 c.y, .int .i64 c.z])].toArray) s66 rfl (by decide) (fun _ => by kernel_rfl) (orient_less_ok (av A _) _ s66.av_fresh b c (by first | assumption | (unfold Pt.ok inC at *; simp only [Pt.sub]; omega)) (by first | assumption | (unfold Pt.ok inC at *; simp only [Pt.sub]; omega))) (fun _ w68 s68 ev68 kp68 hv_ => ?_)
          obtain rfl := hv_
          have hH69 := hH67.keep (i := 5) kp68 rfl
          refine ⟨hH69, ?_⟩
          refine XA.op (i := 6) rfl (by kernel_rfl) (by kernel_rfl) (XO.new (cs := [.int .i64 0, .int .i64 0, .int .i64 0]) (T := 24) s68 rfl (by decide) (fun _ => by kernel_rfl) (fun b70 w71 s71 ev71 kp71 ybb70 => ?_))
          have hH72 := hH69.keep (i := 6) kp71 rfl
          refine ⟨hH72, ?_⟩
          refine XA.op (i := 8) rfl (by kernel_rfl) (by kernel_rfl) (XO.storeS (i := 4) (v := .agg #[.int .i64 ((Pt.sub a c).x), .int .i64 ((Pt.sub a c).y), .int .i64 ((Pt.sub a c).z)]) (m := 3) (cs' := [.int .i64 ((Pt.sub a c).x), .int .i64 ((Pt.sub a c).y), .int .i64 ((Pt.sub a c).z)]) s71 rfl rfl rfl rfl rfl (by kernel_rfl) rfl rfl rfl rfl (fun w73 s73 ev73 kp73 => ?_))
          have hH74 := hH72.young (i := 8) kp73 (by exact (Nat.le_trans hH69.1 ybb70)) rfl
          refine ⟨hH74, ?_⟩
          refine XA.op (i := 9) rfl (by kernel_rfl) (by kernel_rfl) (XO.storeS (i := 3) (v := .agg #[.int .i64 ((Pt.sub b c).x), .int .i64 ((Pt.sub b c).y), .int .i64 ((Pt.sub b c).z)]) (m := 3) (cs' := [.int .i64 ((Pt.sub b c).x), .int .i64 ((Pt.sub b c).y), .int .i64 ((Pt.sub b c).z)]) s73 rfl rfl rfl rfl rfl (by kernel_rfl) rfl rfl rfl rfl (fun w75 s75 ev75 kp75 => ?_))
          have hH76 := hH74.young (i := 9) kp75 (by exact (Nat.le_trans hH20.1 ybb65)) rfl
          refine ⟨hH76, ?_⟩
          refine XA.done (by kernel_rfl) (thn_norm ?_)
          obtain ⟨s77, ev77⟩ := s75.swap 3
          exact ⟨b70, b65, ⟨rfl, rfl, rfl, rfl, trivial⟩, s77, (ev13.trans (ev19.trans (ev66.trans (ev68.trans (ev71.trans (ev73.trans (ev75.trans ev77)))))))⟩
        · skip
          refine XO.new (cs := [.int .i64 0, .int .i64 0, .int .i64 0]) (T := 24) s66 rfl (by decide) (fun _ => by kernel_rfl) (fun b78 w79 s79 ev79 kp79 ybb78 => ?_)
          have hH80 := hH67.keep (i := 6) kp79 rfl
          refine ⟨hH80, ?_⟩
          refine XA.op (i := 5) rfl (by kernel_rfl) (by kernel_rfl) (XO.callS (f := 54) (args := [(.agg #[.int .i64 b.x, .int .i64 b.y, .int .i64 b.z]), (.agg #[.int .i64 c.x, .int .i64 c.y, .int .i64 c.z])].toArray) s79 rfl (by decide) (fun _ => by kernel_rfl) (orient_less_ok (av A _) _ s79.av_fresh b c (by first | assumption | (unfold Pt.ok inC at *; simp only [Pt.sub]; omega)) (by first | assumption | (unfold Pt.ok inC at *; simp only [Pt.sub]; omega))) (fun _ w81 s81 ev81 kp81 hv_ => ?_))
          obtain rfl := hv_
          have hH82 := hH80.keep (i := 5) kp81 rfl
          refine ⟨hH82, ?_⟩
          refine XA.op (i := 8) rfl (by kernel_rfl) (by kernel_rfl) (XO.storeS (i := 4) (v := .agg #[.int .i64 ((Pt.sub a c).x), .int .i64 ((Pt.sub a c).y), .int .i64 ((Pt.sub a c).z)]) (m := 3) (cs' := [.int .i64 ((Pt.sub a c).x), .int .i64 ((Pt.sub a c).y), .int .i64 ((Pt.sub a c).z)]) s81 rfl rfl rfl rfl rfl (by kernel_rfl) rfl rfl rfl rfl (fun w83 s83 ev83 kp83 => ?_))
          have hH84 := hH82.young (i := 8) kp83 (by exact (Nat.le_trans hH67.1 ybb78)) rfl
          refine ⟨hH84, ?_⟩
          refine XA.op (i := 9) rfl (by kernel_rfl) (by kernel_rfl) (XO.storeS (i := 3) (v := .agg #[.int .i64 ((Pt.sub b c).x), .int .i64 ((Pt.sub b c).y), .int .i64 ((Pt.sub b c).z)]) (m := 3) (cs' := [.int .i64 ((Pt.sub b c).x), .int .i64 ((Pt.sub b c).y), .int .i64 ((Pt.sub b c).z)]) s83 rfl rfl rfl rfl rfl (by kernel_rfl) rfl rfl rfl rfl (fun w85 s85 ev85 kp85 => ?_))
          have hH86 := hH84.young (i := 9) kp85 (by exact (Nat.le_trans hH20.1 ybb65)) rfl
          refine ⟨hH86, ?_⟩
          refine XA.done (by kernel_rfl) (thn_norm ?_)
          obtain ⟨s87, ev87⟩ := s85.swap 3
          exact ⟨b78, b65, ⟨rfl, rfl, rfl, rfl, trivial⟩, s87, (ev13.trans (ev19.trans (ev66.trans (ev79.trans (ev81.trans (ev83.trans (ev85.trans ev87)))))))⟩
    · skip
      refine XO.new (cs := [.int .i64 0, .int .i64 0, .int .i64 0]) (T := 24) s13 rfl (by decide) (fun _ => by kernel_rfl) (fun b88 w89 s89 ev89 kp89 ybb88 => ?_)
      have hH90 := hH18.keep (i := 6) kp89 rfl
      refine ⟨hH90, ?_⟩
      refine XA.op2 (i := 2) (j := 7) rfl rfl (by kernel_rfl) (by kernel_rfl) (by kernel_rfl) ?_ ?_
      · skip
        refine XO.callS (f := 54) (args := [(.agg #[.int .i64 a.x, .int .i64 a.y, .int .i64 a.z]), (.agg #[.int .i64 c.x, .int .i64 c.y, .int .i64 c.z])].toArray) s89 rfl (by decide) (fun _ => by kernel_rfl) (orient_less_ok (av A _) _ s89.av_fresh a c (by first | assumption | (unfold Pt.ok inC at *; simp only [Pt.sub]; omega)) (by first | assumption | (unfold Pt.ok inC at *; simp only [Pt.sub]; omega))) (fun _ w91 s91 ev91 kp91 hv_ => ?_)
        obtain rfl := hv_
        have hH92 := hH90.keep (i := 2) kp91 rfl
        refine ⟨hH92, ?_⟩
        refine XA.op2 (i := 5) (j := 7) rfl rfl (by kernel_rfl) (by kernel_rfl) (by kernel_rfl) ?_ ?_
        · skip
          refine XO.callS (f := 54) (args := [(.agg #[.int .i64 b.x, .int .i64 b.y, .int .i64 b.z]), (.agg #[.int .i64 c.x, .int .i64 c.y, .int .i64 c.z])].toArray) s91 rfl (by decide) (fun _ => by kernel_rfl) (orient_less_ok (av A _) _ s91.av_fresh b c (by first | assumption | (unfold Pt.ok inC at *; simp only [Pt.sub]; omega)) (by first | assumption | (unfold Pt.ok inC at *; simp only [Pt.sub]; omega))) (fun _ w93 s93 ev93 kp93 hv_ => ?_)
          obtain rfl := hv_
          have hH94 := hH92.keep (i := 5) kp93 rfl
          refine ⟨hH94, ?_⟩
          refine XA.op (i := 7) rfl (by kernel_rfl) (by kernel_rfl) (XO.new (cs := [.int .i64 0, .int .i64 0, .int .i64 0]) (T := 24) s93 rfl (by decide) (fun _ => by kernel_rfl) (fun b95 w96 s96 ev96 kp96 ybb95 => ?_))
          have hH97 := hH94.keep (i := 7) kp96 rfl
          refine ⟨hH97, ?_⟩
          refine XA.op (i := 8) rfl (by kernel_rfl) (by kernel_rfl) (XO.storeS (i := 3) (v := .agg #[.int .i64 ((Pt.sub a c).x), .int .i64 ((Pt.sub a c).y), .int .i64 ((Pt.sub a c).z)]) (m := 3) (cs' := [.int .i64 ((Pt.sub a c).x), .int .i64 ((Pt.sub a c).y), .int .i64 ((Pt.sub a c).z)]) s96 rfl rfl rfl rfl rfl (by kernel_rfl) rfl rfl rfl rfl (fun w98 s98 ev98 kp98 => ?_))
          have hH99 := hH97.young (i := 8) kp98 (by exact (Nat.le_trans hH18.1 ybb88)) rfl
          refine ⟨hH99, ?_⟩
          refine XA.op (i := 9) rfl (by kernel_rfl) (by kernel_rfl) (XO.storeS (i := 4) (v := .agg #[.int .i64 ((Pt.sub b c).x), .int .i64 ((Pt.sub b c).y), .int .i64 ((Pt.sub b c).z)]) (m := 3) (cs' := [.int .i64 ((Pt.sub b c).x), .int .i64 ((Pt.sub b c).y), .int .i64 ((Pt.sub b c).z)]) s98 rfl rfl rfl rfl rfl (by kernel_rfl) rfl rfl rfl rfl (fun w100 s100 ev100 kp100 => ?_))
          have hH101 := hH99.young (i := 9) kp100 (by exact (Nat.le_trans hH94.1 ybb95)) rfl
          refine ⟨hH101, ?_⟩
          refine XA.done (by kernel_rfl) (thn_norm ?_)
          exact ⟨b88, b95, ⟨rfl, rfl, rfl, rfl, trivial⟩, s100, (ev13.trans (ev89.trans (ev91.trans (ev93.trans (ev96.trans (ev98.trans ev100))))))⟩
        · skip
          refine XO.new (cs := [.int .i64 0, .int .i64 0, .int .i64 0]) (T := 24) s91 rfl (by decide) (fun _ => by kernel_rfl) (fun b102 w103 s103 ev103 kp103 ybb102 => ?_)
          have hH104 := hH92.keep (i := 7) kp103 rfl
          refine ⟨hH104, ?_⟩
          refine XA.op (i := 5) rfl (by kernel_rfl) (by kernel_rfl) (XO.callS (f := 54) (args := [(.agg #[.int .i64 b.x, .int .i64 b.y, .int .i64 b.z]), (.agg #[.int .i64 c.x, .int .i64 c.y, .int .i64 c.z])].toArray) s103 rfl (by decide) (fun _ => by kernel_rfl) (orient_less_ok (av A _) _ s103.av_fresh b c (by first | assumption | (unfold Pt.ok inC at *; simp only [Pt.sub]; omega)) (by first | assumption | (unfold Pt.ok inC at *; simp only [Pt.sub]; omega))) (fun _ w105 s105 ev105 kp105 hv_ => ?_))
          obtain rfl := hv_
          have hH106 := hH104.keep (i := 5) kp105 rfl
          refine ⟨hH106, ?_⟩
          refine XA.op (i := 8) rfl (by kernel_rfl) (by kernel_rfl) (XO.storeS (i := 3) (v := .agg #[.int .i64 ((Pt.sub a c).x), .int .i64 ((Pt.sub a c).y), .int .i64 ((Pt.sub a c).z)]) (m := 3) (cs' := [.int .i64 ((Pt.sub a c).x), .int .i64 ((Pt.sub a c).y), .int .i64 ((Pt.sub a c).z)]) s105 rfl rfl rfl rfl rfl (by kernel_rfl) rfl rfl rfl rfl (fun w107 s107 ev107 kp107 => ?_))
          have hH108 := hH106.young (i := 8) kp107 (by exact (Nat.le_trans hH18.1 ybb88)) rfl
          refine ⟨hH108, ?_⟩
          refine XA.op (i := 9) rfl (by kernel_rfl) (by kernel_rfl) (XO.storeS (i := 4) (v := .agg #[.int .i64 ((Pt.sub b c).x), .int .i64 ((Pt.sub b c).y), .int .i64 ((Pt.sub b c).z)]) (m := 3) (cs' := [.int .i64 ((Pt.sub b c).x), .int .i64 ((Pt.sub b c).y), .int .i64 ((Pt.sub b c).z)]) s107 rfl rfl rfl rfl rfl (by kernel_rfl) rfl rfl rfl rfl (fun w109 s109 ev109 kp109 => ?_))
          have hH110 := hH108.young (i := 9) kp109 (by exact (Nat.le_trans hH92.1 ybb102)) rfl
          refine ⟨hH110, ?_⟩
          refine XA.done (by kernel_rfl) (thn_norm ?_)
          exact ⟨b88, b102, ⟨rfl, rfl, rfl, rfl, trivial⟩, s109, (ev13.trans (ev89.trans (ev91.trans (ev103.trans (ev105.trans (ev107.trans ev109))))))⟩
      · skip
        refine XO.new (cs := [.int .i64 0, .int .i64 0, .int .i64 0]) (T := 24) s89 rfl (by decide) (fun _ => by kernel_rfl) (fun b111 w112 s112 ev112 kp112 ybb111 => ?_)
        have hH113 := hH90.keep (i := 7) kp112 rfl
        refine ⟨hH113, ?_⟩
        refine XA.op (i := 2) rfl (by kernel_rfl) (by kernel_rfl) (XO.callS (f := 54) (args := [(.agg #[.int .i64 a.x, .int .i64 a.y, .int .i64 a.z]), (.agg #[.int .i64 c.x, .int .i64 c.y, .int .i64 c.z])].toArray) s112 rfl (by decide) (fun _ => by kernel_rfl) (orient_less_ok (av A _) _ s112.av_fresh a c (by first | assumption | (unfold Pt.ok inC at *; simp only [Pt.sub]; omega)) (by first | assumption | (unfold Pt.ok inC at *; simp only [Pt.sub]; omega))) (fun _ w114 s114 ev114 kp114 hv_ => ?_))
        obtain rfl := hv_
        have hH115 := hH113.keep (i := 2) kp114 rfl
        refine ⟨hH115, ?_⟩
        refine XA.op (i := 5) rfl (by kernel_rfl) (by kernel_rfl) (XO.callS (f := 54) (args := [(.agg #[.int .i64 b.x, .int .i64 b.y, .int .i64 b.z]), (.agg #[.int .i64 c.x, .int .i64 c.y, .int .i64 c.z])].toArray) s114 rfl (by decide) (fun _ => by kernel_rfl) (orient_less_ok (av A _) _ s114.av_fresh b c (by first | assumption | (unfold Pt.ok inC at *; simp only [Pt.sub]; omega)) (by first | assumption | (unfold Pt.ok inC at *; simp only [Pt.sub]; omega))) (fun _ w116 s116 ev116 kp116 hv_ => ?_))
        obtain rfl := hv_
        have hH117 := hH115.keep (i := 5) kp116 rfl
        refine ⟨hH117, ?_⟩
        refine XA.op (i := 8) rfl (by kernel_rfl) (by kernel_rfl) (XO.storeS (i := 3) (v := .agg #[.int .i64 ((Pt.sub a c).x), .int .i64 ((Pt.sub a c).y), .int .i64 ((Pt.sub a c).z)]) (m := 3) (cs' := [.int .i64 ((Pt.sub a c).x), .int .i64 ((Pt.sub a c).y), .int .i64 ((Pt.sub a c).z)]) s116 rfl rfl rfl rfl rfl (by kernel_rfl) rfl rfl rfl rfl (fun w118 s118 ev118 kp118 => ?_))
        have hH119 := hH117.young (i := 8) kp118 (by exact (Nat.le_trans hH18.1 ybb88)) rfl
        refine ⟨hH119, ?_⟩
        refine XA.op (i := 9) rfl (by kernel_rfl) (by kernel_rfl) (XO.storeS (i := 4) (v := .agg #[.int .i64 ((Pt.sub b c).x), .int .i64 ((Pt.sub b c).y), .int .i64 ((Pt.sub b c).z)]) (m := 3) (cs' := [.int .i64 ((Pt.sub b c).x), .int .i64 ((Pt.sub b c).y), .int .i64 ((Pt.sub b c).z)]) s118 rfl rfl rfl rfl rfl (by kernel_rfl) rfl rfl rfl rfl (fun w120 s120 ev120 kp120 => ?_))
        have hH121 := hH119.young (i := 9) kp120 (by exact (Nat.le_trans hH90.1 ybb111)) rfl
        refine ⟨hH121, ?_⟩
        refine XA.done (by kernel_rfl) (thn_norm ?_)
        exact ⟨b88, b111, ⟨rfl, rfl, rfl, rfl, trivial⟩, s120, (ev13.trans (ev89.trans (ev112.trans (ev114.trans (ev116.trans (ev118.trans ev120))))))⟩
    · skip
      refine XO.new (cs := [.int .i64 0, .int .i64 0, .int .i64 0]) (T := 24) s13 rfl (by decide) (fun _ => by kernel_rfl) (fun b122 w123 s123 ev123 kp123 ybb122 => ?_)
      have hH124 := hH18.keep (i := 7) kp123 rfl
      refine ⟨hH124, ?_⟩
      refine XA.op2 (i := 2) (j := 6) rfl rfl (by kernel_rfl) (by kernel_rfl) (by kernel_rfl) ?_ ?_
      · skip
        refine XO.callS (f := 54) (args := [(.agg #[.int .i64 a.x, .int .i64 a.y, .int .i64 a.z]), (.agg #[.int .i64 c.x, .int .i64 c.y, .int .i64 c.z])].toArray) s123 rfl (by decide) (fun _ => by kernel_rfl) (orient_less_ok (av A _) _ s123.av_fresh a c (by first | assumption | (unfold Pt.ok inC at *; simp only [Pt.sub]; omega)) (by first | assumption | (unfold Pt.ok inC at *; simp only [Pt.sub]; omega))) (fun _ w125 s125 ev125 kp125 hv_ => ?_)
        obtain rfl := hv_
        have hH126 := hH124.keep (i := 2) kp125 rfl
        refine ⟨hH126, ?_⟩
        refine XA.op2 (i := 5) (j := 6) rfl rfl (by kernel_rfl) (by kernel_rfl) (by kernel_rfl) ?_ ?_
        · skip
          refine XO.callS (f := 54) (args := [(.agg #[.int .i64 b.x, .int .i64 b.y, .int .i64 b.z]), (.agg #[.int .i64 c.x, .int .i64 c.y, .int .i64 c.z])].toArray) s125 rfl (by decide) (fun _ => by kernel_rfl) (orient_less_ok (av A _) _ s125.av_fresh b c (by first | assumption | (unfold Pt.ok inC at *; simp only [Pt.sub]; omega)) (by first | assumption | (unfold Pt.ok inC at *; simp only [Pt.sub]; omega))) (fun _ w127 s127 ev127 kp127 hv_ => ?_)
          obtain rfl := hv_
          have hH128 := hH126.keep (i := 5) kp127 rfl
          refine ⟨hH128, ?_⟩
          refine XA.op (i := 6) rfl (by kernel_rfl) (by kernel_rfl) (XO.new (cs := [.int .i64 0, .int .i64 0, .int .i64 0]) (T := 24) s127 rfl (by decide) (fun _ => by kernel_rfl) (fun b129 w130 s130 ev130 kp130 ybb129 => ?_))
          have hH131 := hH128.keep (i := 6) kp130 rfl
          refine ⟨hH131, ?_⟩
          refine XA.op (i := 8) rfl (by kernel_rfl) (by kernel_rfl) (XO.storeS (i := 4) (v := .agg #[.int .i64 ((Pt.sub a c).x), .int .i64 ((Pt.sub a c).y), .int .i64 ((Pt.sub a c).z)]) (m := 3) (cs' := [.int .i64 ((Pt.sub a c).x), .int .i64 ((Pt.sub a c).y), .int .i64 ((Pt.sub a c).z)]) s130 rfl rfl rfl rfl rfl (by kernel_rfl) rfl rfl rfl rfl (fun w132 s132 ev132 kp132 => ?_))
          have hH133 := hH131.young (i := 8) kp132 (by exact (Nat.le_trans hH128.1 ybb129)) rfl
          refine ⟨hH133, ?_⟩
          refine XA.op (i := 9) rfl (by kernel_rfl) (by kernel_rfl) (XO.storeS (i := 3) (v := .agg #[.int .i64 ((Pt.sub b c).x), .int .i64 ((Pt.sub b c).y), .int .i64 ((Pt.sub b c).z)]) (m := 3) (cs' := [.int .i64 ((Pt.sub b c).x), .int .i64 ((Pt.sub b c).y), .int .i64 ((Pt.sub b c).z)]) s132 rfl rfl rfl rfl rfl (by kernel_rfl) rfl rfl rfl rfl (fun w134 s134 ev134 kp134 => ?_))
          have hH135 := hH133.young (i := 9) kp134 (by exact (Nat.le_trans hH18.1 ybb122)) rfl
          refine ⟨hH135, ?_⟩
          refine XA.done (by kernel_rfl) (thn_norm ?_)
          obtain ⟨s136, ev136⟩ := s134.swap 3
          exact ⟨b129, b122, ⟨rfl, rfl, rfl, rfl, trivial⟩, s136, (ev13.trans (ev123.trans (ev125.trans (ev127.trans (ev130.trans (ev132.trans (ev134.trans ev136)))))))⟩
        · skip
          refine XO.new (cs := [.int .i64 0, .int .i64 0, .int .i64 0]) (T := 24) s125 rfl (by decide) (fun _ => by kernel_rfl) (fun b137 w138 s138 ev138 kp138 ybb137 => ?_)
          have hH139 := hH126.keep (i := 6) kp138 rfl
          refine ⟨hH139, ?_⟩
          refine XA.op (i := 5) rfl (by kernel_rfl) (by kernel_rfl) (XO.callS (f := 54) (args := [(.agg #[.int .i64 b.x, .int .i64 b.y, .int .i64 b.z]), (.agg #[.int .i64 c.x, .int .i64 c.y, .int .i64 c.z])].toArray) s138 rfl (by decide) (fun _ => by kernel_rfl) (orient_less_ok (av A _) _ s138.av_fresh b c (by first | assumption | (unfold Pt.ok inC at *; simp only [Pt.sub]; omega)) (by first | assumption | (unfold Pt.ok inC at *; simp only [Pt.sub]; omega))) (fun _ w140 s140 ev140 kp140 hv_ => ?_))
          obtain rfl := hv_
          have hH141 := hH139.keep (i := 5) kp140 rfl
          refine ⟨hH141, ?_⟩
          refine XA.op (i := 8) rfl (by kernel_rfl) (by kernel_rfl) (XO.storeS (i := 4) (v := .agg #[.int .i64 ((Pt.sub a c).x), .int .i64 ((Pt.sub a c).y), .int .i64 ((Pt.sub a c).z)]) (m := 3) (cs' := [.int .i64 ((Pt.sub a c).x), .int .i64 ((Pt.sub a c).y), .int .i64 ((Pt.sub a c).z)]) s140 rfl rfl rfl rfl rfl (by kernel_rfl) rfl rfl rfl rfl (fun w142 s142 ev142 kp142 => ?_))
          have hH143 := hH141.young (i := 8) kp142 (by exact (Nat.le_trans hH126.1 ybb137)) rfl
          refine ⟨hH143, ?_⟩
          refine XA.op (i := 9) rfl (by kernel_rfl) (by kernel_rfl) (XO.storeS (i := 3) (v := .agg #[.int .i64 ((Pt.sub b c).x), .int .i64 ((Pt.sub b c).y), .int .i64 ((Pt.sub b c).z)]) (m := 3) (cs' := [.int .i64 ((Pt.sub b c).x), .int .i64 ((Pt.sub b c).y), .int .i64 ((Pt.sub b c).z)]) s142 rfl rfl rfl rfl rfl (by kernel_rfl) rfl rfl rfl rfl (fun w144 s144 ev144 kp144 => ?_))
          have hH145 := hH143.young (i := 9) kp144 (by exact (Nat.le_trans hH18.1 ybb122)) rfl
          refine ⟨hH145, ?_⟩
          refine XA.done (by kernel_rfl) (thn_norm ?_)
          obtain ⟨s146, ev146⟩ := s144.swap 3
          exact ⟨b137, b122, ⟨rfl, rfl, rfl, rfl, trivial⟩, s146, (ev13.trans (ev123.trans (ev125.trans (ev138.trans (ev140.trans (ev142.trans (ev144.trans ev146)))))))⟩
      · skip
        refine XO.new (cs := [.int .i64 0, .int .i64 0, .int .i64 0]) (T := 24) s123 rfl (by decide) (fun _ => by kernel_rfl) (fun b147 w148 s148 ev148 kp148 ybb147 => ?_)
        have hH149 := hH124.keep (i := 6) kp148 rfl
        refine ⟨hH149, ?_⟩
        refine XA.op (i := 2) rfl (by kernel_rfl) (by kernel_rfl) (XO.callS (f := 54) (args := [(.agg #[.int .i64 a.x, .int .i64 a.y, .int .i64 a.z]), (.agg #[.int .i64 c.x, .int .i64 c.y, .int .i64 c.z])].toArray) s148 rfl (by decide) (fun _ => by kernel_rfl) (orient_less_ok (av A _) _ s148.av_fresh a c (by first | assumption | (unfold Pt.ok inC at *; simp only [Pt.sub]; omega)) (by first | assumption | (unfold Pt.ok inC at *; simp only [Pt.sub]; omega))) (fun _ w150 s150 ev150 kp150 hv_ => ?_))
        obtain rfl := hv_
        have hH151 := hH149.keep (i := 2) kp150 rfl
        refine ⟨hH151, ?_⟩
        refine XA.op (i := 5) rfl (by kernel_rfl) (by kernel_rfl) (XO.callS (f := 54) (args := [(.agg #[.int .i64 b.x, .int .i64 b.y, .int .i64 b.z]), (.agg #[.int .i64 c.x, .int .i64 c.y, .int .i64 c.z])].toArray) s150 rfl (by decide) (fun _ => by kernel_rfl) (orient_less_ok (av A _) _ s150.av_fresh b c (by first | assumption | (unfold Pt.ok inC at *; simp only [Pt.sub]; omega)) (by first | assumption | (unfold Pt.ok inC at *; simp only [Pt.sub]; omega))) (fun _ w152 s152 ev152 kp152 hv_ => ?_))
        obtain rfl := hv_
        have hH153 := hH151.keep (i := 5) kp152 rfl
        refine ⟨hH153, ?_⟩
        refine XA.op (i := 8) rfl (by kernel_rfl) (by kernel_rfl) (XO.storeS (i := 4) (v := .agg #[.int .i64 ((Pt.sub a c).x), .int .i64 ((Pt.sub a c).y), .int .i64 ((Pt.sub a c).z)]) (m := 3) (cs' := [.int .i64 ((Pt.sub a c).x), .int .i64 ((Pt.sub a c).y), .int .i64 ((Pt.sub a c).z)]) s152 rfl rfl rfl rfl rfl (by kernel_rfl) rfl rfl rfl rfl (fun w154 s154 ev154 kp154 => ?_))
        have hH155 := hH153.young (i := 8) kp154 (by exact (Nat.le_trans hH124.1 ybb147)) rfl
        refine ⟨hH155, ?_⟩
        refine XA.op (i := 9) rfl (by kernel_rfl) (by kernel_rfl) (XO.storeS (i := 3) (v := .agg #[.int .i64 ((Pt.sub b c).x), .int .i64 ((Pt.sub b c).y), .int .i64 ((Pt.sub b c).z)]) (m := 3) (cs' := [.int .i64 ((Pt.sub b c).x), .int .i64 ((Pt.sub b c).y), .int .i64 ((Pt.sub b c).z)]) s154 rfl rfl rfl rfl rfl (by kernel_rfl) rfl rfl rfl rfl (fun w156 s156 ev156 kp156 => ?_))
        have hH157 := hH155.young (i := 9) kp156 (by exact (Nat.le_trans hH18.1 ybb122)) rfl
        refine ⟨hH157, ?_⟩
        refine XA.done (by kernel_rfl) (thn_norm ?_)
        obtain ⟨s158, ev158⟩ := s156.swap 3
        exact ⟨b147, b122, ⟨rfl, rfl, rfl, rfl, trivial⟩, s158, (ev13.trans (ev123.trans (ev148.trans (ev150.trans (ev152.trans (ev154.trans (ev156.trans ev158)))))))⟩
  intro ρw159 w159 hJ_
  obtain ⟨b21_, b24_, hh159, s159, ev159⟩ := hJ_
  refine XC.rebase hh159 ?_
  refine XC.seq ?_
  refine XC.region ?_
  refine XS.vals' 1 [(30, .agg #[.int .i64 0, .int .u64 0])] (by kernel_rfl) ?_
  refine XS.op rfl rfl (XO.new (cs := [.int .i64 0, .int .u64 0]) (T := 55) s159 rfl (by decide) (fun _ => by kernel_rfl) (fun b160 w161 s161 ev161 kp161 ybb160 => ?_))
  refine XS.op rfl rfl (XO.storeS (i := 5) (v := .agg #[.int .i64 0, .int .u64 0]) (m := 2) (cs' := [.int .i64 0, .int .u64 0]) s161 rfl rfl rfl rfl rfl (by kernel_rfl) rfl rfl rfl rfl (fun w162 s162 ev162 kp162 => ?_))
  refine XS.done rfl (thn_norm ?_)
  refine XC.seq ?_
  refine XC.drawS 39 rfl (fun _ => False) 39 (by kernel_rfl) s162 (fun w163 s163 ev163 kp163 hH164 => ?_)
  refine XA.valD 0 31 (.pointer (some ⟨b21_, 1, none⟩)) rfl (by kernel_rfl) (by kernel_rfl) (by kernel_rfl) rfl (by kernel_rfl) rfl hH164 (fun hH165 => ?_)
  refine XA.loadS false (j := 1) (i := 3) (v := .int .i64 ((Pt.sub a c).y)) (g := false) (m := 1) s163 rfl rfl (by kernel_rfl) (by kernel_rfl) (by kernel_rfl) rfl (by kernel_rfl) (fun _ h => h) (by kernel_rfl) rfl rfl (by decide) hH165 rfl (by kernel_rfl) (by kernel_rfl) rfl rfl rfl (fun hH166 => ?_)
  refine XA.valD 2 33 (.pointer (some ⟨b21_, 2, none⟩)) rfl (by kernel_rfl) (by kernel_rfl) (by kernel_rfl) rfl (by kernel_rfl) rfl hH166 (fun hH167 => ?_)
  refine XA.loadS false (j := 3) (i := 3) (v := .int .i64 ((Pt.sub a c).z)) (g := false) (m := 1) s163 rfl rfl (by kernel_rfl) (by kernel_rfl) (by kernel_rfl) rfl (by kernel_rfl) (fun _ h => h) (by kernel_rfl) rfl rfl (by decide) hH167 rfl (by kernel_rfl) (by kernel_rfl) rfl rfl rfl (fun hH168 => ?_)
  refine XA.valD 4 35 (.pointer (some ⟨b24_, 1, none⟩)) rfl (by kernel_rfl) (by kernel_rfl) (by kernel_rfl) rfl (by kernel_rfl) rfl hH168 (fun hH169 => ?_)
  refine XA.loadS false (j := 5) (i := 4) (v := .int .i64 ((Pt.sub b c).y)) (g := false) (m := 1) s163 rfl rfl (by kernel_rfl) (by kernel_rfl) (by kernel_rfl) rfl (by kernel_rfl) (fun _ h => h) (by kernel_rfl) rfl rfl (by decide) hH169 rfl (by kernel_rfl) (by kernel_rfl) rfl rfl rfl (fun hH170 => ?_)
  refine XA.valD 6 37 (.pointer (some ⟨b24_, 2, none⟩)) rfl (by kernel_rfl) (by kernel_rfl) (by kernel_rfl) rfl (by kernel_rfl) rfl hH170 (fun hH171 => ?_)
  refine XA.loadS false (j := 7) (i := 4) (v := .int .i64 ((Pt.sub b c).z)) (g := false) (m := 1) s163 rfl rfl (by kernel_rfl) (by kernel_rfl) (by kernel_rfl) rfl (by kernel_rfl) (fun _ h => h) (by kernel_rfl) rfl rfl (by decide) hH171 rfl (by kernel_rfl) (by kernel_rfl) rfl rfl rfl (fun hH172 => ?_)
  refine XA.loadS false (j := 9) (i := 5) (v := .agg #[.int .i64 0, .int .u64 0]) (g := true) (m := 2) s163 rfl rfl (by kernel_rfl) (by kernel_rfl) (by kernel_rfl) rfl (by kernel_rfl) (fun _ h => h) (by kernel_rfl) rfl rfl (by decide) hH172 rfl (by kernel_rfl) (by kernel_rfl) rfl rfl rfl (fun hH173 => ?_)
  refine XA.op (i := 8) rfl (by kernel_rfl) (by kernel_rfl) (XO.callS (f := 55) (args := [(.int .i64 ((Pt.sub a c).y)), (.int .i64 ((Pt.sub a c).z)), (.int .i64 ((Pt.sub b c).y)), (.int .i64 ((Pt.sub b c).z))].toArray) s163 rfl (by decide) (fun _ => by kernel_rfl) (orient_minor_ok (av A _) _ s163.av_fresh ((Pt.sub a c).y) ((Pt.sub a c).z) ((Pt.sub b c).y) ((Pt.sub b c).z) (by first | assumption | (unfold Pt.ok inC at *; simp only [Pt.sub]; omega)) (by first | assumption | (unfold Pt.ok inC at *; simp only [Pt.sub]; omega)) (by first | assumption | (unfold Pt.ok inC at *; simp only [Pt.sub]; omega)) (by first | assumption | (unfold Pt.ok inC at *; simp only [Pt.sub]; omega))) (fun _ w174 s174 ev174 kp174 hv_ => ?_))
  obtain rfl := hv_
  have hH175 := hH173.keep (i := 8) kp174 rfl
  refine ⟨hH175, ?_⟩
  refine XA.op (i := 10) rfl (by kernel_rfl) (by kernel_rfl) (XO.eqlP false (a := .agg #[.int .i64 (hi128 (((Pt.sub a c).y) * ((Pt.sub b c).z) - ((Pt.sub a c).z) * ((Pt.sub b c).y))), .int .u64 (lo128 (((Pt.sub a c).y) * ((Pt.sub b c).z) - ((Pt.sub a c).z) * ((Pt.sub b c).y)))]) (b := .agg #[.int .i64 0, .int .u64 0]) (r' := decide ((hi128 (((Pt.sub a c).y) * ((Pt.sub b c).z) - ((Pt.sub a c).z) * ((Pt.sub b c).y))) = 0 ∧ (lo128 (((Pt.sub a c).y) * ((Pt.sub b c).z) - ((Pt.sub a c).z) * ((Pt.sub b c).y))) = 0)) (Eql.struct rfl (by kernel_rfl) (EqlF.cons rfl (a := .int .i64 (hi128 (((Pt.sub a c).y) * ((Pt.sub b c).z) - ((Pt.sub a c).z) * ((Pt.sub b c).y)))) (b := .int .i64 0) (by kernel_rfl) (by kernel_rfl) (Eql.int rfl) (EqlF.cons rfl (a := .int .u64 (lo128 (((Pt.sub a c).y) * ((Pt.sub b c).z) - ((Pt.sub a c).z) * ((Pt.sub b c).y)))) (b := .int .u64 0) (by kernel_rfl) (by kernel_rfl) (Eql.int rfl) EqlF.nil))) (by rw [Bool.eq_iff_iff]; simp [ng]) rfl rfl (by decide) rfl rfl (by kernel_rfl) (fun _ => by kernel_rfl) ?_)
  have hH176 := (Hold.set (i := 10) (by decide)).2 hH175
  refine ⟨hH176, ?_⟩
  refine XA.valD 11 42 (.bool (decide ((hi128 (((Pt.sub a c).y) * ((Pt.sub b c).z) - ((Pt.sub a c).z) * ((Pt.sub b c).y))) = 0 ∧ (lo128 (((Pt.sub a c).y) * ((Pt.sub b c).z) - ((Pt.sub a c).z) * ((Pt.sub b c).y))) = 0))) rfl (by kernel_rfl) (by kernel_rfl) (by kernel_rfl) rfl (by kernel_rfl) rfl hH176 (fun hH177 => ?_)
  refine XA.onD 42 ((hi128 (((Pt.sub a c).y) * ((Pt.sub b c).z) - ((Pt.sub a c).z) * ((Pt.sub b c).y))) = 0 ∧ (lo128 (((Pt.sub a c).y) * ((Pt.sub b c).z) - ((Pt.sub a c).z) * ((Pt.sub b c).y))) = 0) rfl (fun hg178 => ?_) (fun hg178 => ?_)
  · skip
    refine XA.valD 12 43 (.pointer (some ⟨b21_, 2, none⟩)) rfl (by kernel_rfl) (by kernel_rfl) (by kernel_rfl) rfl (by kernel_rfl) rfl hH177 (fun hH179 => ?_)
    refine XA.loadS false (j := 13) (i := 3) (v := .int .i64 ((Pt.sub a c).z)) (g := false) (m := 1) s163 rfl rfl (by kernel_rfl) (by kernel_rfl) (by kernel_rfl) rfl (by kernel_rfl) (fun _ h => h) (by kernel_rfl) rfl rfl (by decide) hH179 rfl (by kernel_rfl) (by kernel_rfl) rfl rfl rfl (fun hH180 => ?_)
    refine XA.valD 14 45 (.pointer (some ⟨b21_, 0, none⟩)) rfl (by kernel_rfl) (by kernel_rfl) (by kernel_rfl) rfl (by kernel_rfl) rfl hH180 (fun hH181 => ?_)
    refine XA.loadS false (j := 15) (i := 3) (v := .int .i64 ((Pt.sub a c).x)) (g := false) (m := 1) s163 rfl rfl (by kernel_rfl) (by kernel_rfl) (by kernel_rfl) rfl (by kernel_rfl) (fun _ h => h) (by kernel_rfl) rfl rfl (by decide) hH181 rfl (by kernel_rfl) (by kernel_rfl) rfl rfl rfl (fun hH182 => ?_)
    refine XA.valD 16 47 (.pointer (some ⟨b24_, 2, none⟩)) rfl (by kernel_rfl) (by kernel_rfl) (by kernel_rfl) rfl (by kernel_rfl) rfl hH182 (fun hH183 => ?_)
    refine XA.loadS false (j := 17) (i := 4) (v := .int .i64 ((Pt.sub b c).z)) (g := false) (m := 1) s163 rfl rfl (by kernel_rfl) (by kernel_rfl) (by kernel_rfl) rfl (by kernel_rfl) (fun _ h => h) (by kernel_rfl) rfl rfl (by decide) hH183 rfl (by kernel_rfl) (by kernel_rfl) rfl rfl rfl (fun hH184 => ?_)
    refine XA.valD 18 49 (.pointer (some ⟨b24_, 0, none⟩)) rfl (by kernel_rfl) (by kernel_rfl) (by kernel_rfl) rfl (by kernel_rfl) rfl hH184 (fun hH185 => ?_)
    refine XA.loadS false (j := 19) (i := 4) (v := .int .i64 ((Pt.sub b c).x)) (g := false) (m := 1) s163 rfl rfl (by kernel_rfl) (by kernel_rfl) (by kernel_rfl) rfl (by kernel_rfl) (fun _ h => h) (by kernel_rfl) rfl rfl (by decide) hH185 rfl (by kernel_rfl) (by kernel_rfl) rfl rfl rfl (fun hH186 => ?_)
    refine XA.loadS false (j := 21) (i := 5) (v := .agg #[.int .i64 0, .int .u64 0]) (g := true) (m := 2) s163 rfl rfl (by kernel_rfl) (by kernel_rfl) (by kernel_rfl) rfl (by kernel_rfl) (fun _ h => h) (by kernel_rfl) rfl rfl (by decide) hH186 rfl (by kernel_rfl) (by kernel_rfl) rfl rfl rfl (fun hH187 => ?_)
    refine XA.op (i := 20) rfl (by kernel_rfl) (by kernel_rfl) (XO.callS (f := 55) (args := [(.int .i64 ((Pt.sub a c).z)), (.int .i64 ((Pt.sub a c).x)), (.int .i64 ((Pt.sub b c).z)), (.int .i64 ((Pt.sub b c).x))].toArray) s174 rfl (by decide) (fun _ => by kernel_rfl) (orient_minor_ok (av A _) _ s174.av_fresh ((Pt.sub a c).z) ((Pt.sub a c).x) ((Pt.sub b c).z) ((Pt.sub b c).x) (by first | assumption | (unfold Pt.ok inC at *; simp only [Pt.sub]; omega)) (by first | assumption | (unfold Pt.ok inC at *; simp only [Pt.sub]; omega)) (by first | assumption | (unfold Pt.ok inC at *; simp only [Pt.sub]; omega)) (by first | assumption | (unfold Pt.ok inC at *; simp only [Pt.sub]; omega))) (fun _ w188 s188 ev188 kp188 hv_ => ?_))
    obtain rfl := hv_
    have hH189 := hH187.keep (i := 20) kp188 rfl
    refine ⟨hH189, ?_⟩
    refine XA.op (i := 22) rfl (by kernel_rfl) (by kernel_rfl) (XO.eqlP false (a := .agg #[.int .i64 (hi128 (((Pt.sub a c).z) * ((Pt.sub b c).x) - ((Pt.sub a c).x) * ((Pt.sub b c).z))), .int .u64 (lo128 (((Pt.sub a c).z) * ((Pt.sub b c).x) - ((Pt.sub a c).x) * ((Pt.sub b c).z)))]) (b := .agg #[.int .i64 0, .int .u64 0]) (r' := decide ((hi128 (((Pt.sub a c).z) * ((Pt.sub b c).x) - ((Pt.sub a c).x) * ((Pt.sub b c).z))) = 0 ∧ (lo128 (((Pt.sub a c).z) * ((Pt.sub b c).x) - ((Pt.sub a c).x) * ((Pt.sub b c).z))) = 0)) (Eql.struct rfl (by kernel_rfl) (EqlF.cons rfl (a := .int .i64 (hi128 (((Pt.sub a c).z) * ((Pt.sub b c).x) - ((Pt.sub a c).x) * ((Pt.sub b c).z)))) (b := .int .i64 0) (by kernel_rfl) (by kernel_rfl) (Eql.int rfl) (EqlF.cons rfl (a := .int .u64 (lo128 (((Pt.sub a c).z) * ((Pt.sub b c).x) - ((Pt.sub a c).x) * ((Pt.sub b c).z)))) (b := .int .u64 0) (by kernel_rfl) (by kernel_rfl) (Eql.int rfl) EqlF.nil))) (by rw [Bool.eq_iff_iff]; simp [ng]) rfl rfl (by decide) rfl rfl (by kernel_rfl) (fun _ => by kernel_rfl) ?_)
    have hH190 := (Hold.set (i := 22) (by decide)).2 hH189
    refine ⟨hH190, ?_⟩
    refine XA.valD 23 54 (.bool (decide ((hi128 (((Pt.sub a c).z) * ((Pt.sub b c).x) - ((Pt.sub a c).x) * ((Pt.sub b c).z))) = 0 ∧ (lo128 (((Pt.sub a c).z) * ((Pt.sub b c).x) - ((Pt.sub a c).x) * ((Pt.sub b c).z))) = 0))) rfl (by kernel_rfl) (by kernel_rfl) (by kernel_rfl) rfl (by kernel_rfl) rfl hH190 (fun hH191 => ?_)
    refine XA.valD 24 55 (.bool (decide ((hi128 (((Pt.sub a c).z) * ((Pt.sub b c).x) - ((Pt.sub a c).x) * ((Pt.sub b c).z))) = 0 ∧ (lo128 (((Pt.sub a c).z) * ((Pt.sub b c).x) - ((Pt.sub a c).x) * ((Pt.sub b c).z))) = 0))) rfl (by kernel_rfl) (by kernel_rfl) (by kernel_rfl) rfl (by kernel_rfl) rfl hH191 (fun hH192 => ?_)
    refine XA.onD 55 ((hi128 (((Pt.sub a c).z) * ((Pt.sub b c).x) - ((Pt.sub a c).x) * ((Pt.sub b c).z))) = 0 ∧ (lo128 (((Pt.sub a c).z) * ((Pt.sub b c).x) - ((Pt.sub a c).x) * ((Pt.sub b c).z))) = 0) rfl (fun hg193 => ?_) (fun hg193 => ?_)
    · skip
      refine XA.valD 25 56 (.pointer (some ⟨b21_, 0, none⟩)) rfl (by kernel_rfl) (by kernel_rfl) (by kernel_rfl) rfl (by kernel_rfl) rfl hH192 (fun hH194 => ?_)
      refine XA.loadS false (j := 26) (i := 3) (v := .int .i64 ((Pt.sub a c).x)) (g := false) (m := 1) s163 rfl rfl (by kernel_rfl) (by kernel_rfl) (by kernel_rfl) rfl (by kernel_rfl) (fun _ h => h) (by kernel_rfl) rfl rfl (by decide) hH194 rfl (by kernel_rfl) (by kernel_rfl) rfl rfl rfl (fun hH195 => ?_)
      refine XA.valD 27 58 (.pointer (some ⟨b21_, 1, none⟩)) rfl (by kernel_rfl) (by kernel_rfl) (by kernel_rfl) rfl (by kernel_rfl) rfl hH195 (fun hH196 => ?_)
      refine XA.loadS false (j := 28) (i := 3) (v := .int .i64 ((Pt.sub a c).y)) (g := false) (m := 1) s163 rfl rfl (by kernel_rfl) (by kernel_rfl) (by kernel_rfl) rfl (by kernel_rfl) (fun _ h => h) (by kernel_rfl) rfl rfl (by decide) hH196 rfl (by kernel_rfl) (by kernel_rfl) rfl rfl rfl (fun hH197 => ?_)
      refine XA.valD 29 60 (.pointer (some ⟨b24_, 0, none⟩)) rfl (by kernel_rfl) (by kernel_rfl) (by kernel_rfl) rfl (by kernel_rfl) rfl hH197 (fun hH198 => ?_)
      refine XA.loadS false (j := 30) (i := 4) (v := .int .i64 ((Pt.sub b c).x)) (g := false) (m := 1) s163 rfl rfl (by kernel_rfl) (by kernel_rfl) (by kernel_rfl) rfl (by kernel_rfl) (fun _ h => h) (by kernel_rfl) rfl rfl (by decide) hH198 rfl (by kernel_rfl) (by kernel_rfl) rfl rfl rfl (fun hH199 => ?_)
      refine XA.valD 31 62 (.pointer (some ⟨b24_, 1, none⟩)) rfl (by kernel_rfl) (by kernel_rfl) (by kernel_rfl) rfl (by kernel_rfl) rfl hH199 (fun hH200 => ?_)
      refine XA.loadS false (j := 32) (i := 4) (v := .int .i64 ((Pt.sub b c).y)) (g := false) (m := 1) s163 rfl rfl (by kernel_rfl) (by kernel_rfl) (by kernel_rfl) rfl (by kernel_rfl) (fun _ h => h) (by kernel_rfl) rfl rfl (by decide) hH200 rfl (by kernel_rfl) (by kernel_rfl) rfl rfl rfl (fun hH201 => ?_)
      refine XA.loadS false (j := 34) (i := 5) (v := .agg #[.int .i64 0, .int .u64 0]) (g := true) (m := 2) s163 rfl rfl (by kernel_rfl) (by kernel_rfl) (by kernel_rfl) rfl (by kernel_rfl) (fun _ h => h) (by kernel_rfl) rfl rfl (by decide) hH201 rfl (by kernel_rfl) (by kernel_rfl) rfl rfl rfl (fun hH202 => ?_)
      refine XA.op (i := 33) rfl (by kernel_rfl) (by kernel_rfl) (XO.callS (f := 55) (args := [(.int .i64 ((Pt.sub a c).x)), (.int .i64 ((Pt.sub a c).y)), (.int .i64 ((Pt.sub b c).x)), (.int .i64 ((Pt.sub b c).y))].toArray) s188 rfl (by decide) (fun _ => by kernel_rfl) (orient_minor_ok (av A _) _ s188.av_fresh ((Pt.sub a c).x) ((Pt.sub a c).y) ((Pt.sub b c).x) ((Pt.sub b c).y) (by first | assumption | (unfold Pt.ok inC at *; simp only [Pt.sub]; omega)) (by first | assumption | (unfold Pt.ok inC at *; simp only [Pt.sub]; omega)) (by first | assumption | (unfold Pt.ok inC at *; simp only [Pt.sub]; omega)) (by first | assumption | (unfold Pt.ok inC at *; simp only [Pt.sub]; omega))) (fun _ w203 s203 ev203 kp203 hv_ => ?_))
      obtain rfl := hv_
      have hH204 := hH202.keep (i := 33) kp203 rfl
      refine ⟨hH204, ?_⟩
      refine XA.op (i := 35) rfl (by kernel_rfl) (by kernel_rfl) (XO.eqlP false (a := .agg #[.int .i64 (hi128 (((Pt.sub a c).x) * ((Pt.sub b c).y) - ((Pt.sub a c).y) * ((Pt.sub b c).x))), .int .u64 (lo128 (((Pt.sub a c).x) * ((Pt.sub b c).y) - ((Pt.sub a c).y) * ((Pt.sub b c).x)))]) (b := .agg #[.int .i64 0, .int .u64 0]) (r' := decide ((hi128 (((Pt.sub a c).x) * ((Pt.sub b c).y) - ((Pt.sub a c).y) * ((Pt.sub b c).x))) = 0 ∧ (lo128 (((Pt.sub a c).x) * ((Pt.sub b c).y) - ((Pt.sub a c).y) * ((Pt.sub b c).x))) = 0)) (Eql.struct rfl (by kernel_rfl) (EqlF.cons rfl (a := .int .i64 (hi128 (((Pt.sub a c).x) * ((Pt.sub b c).y) - ((Pt.sub a c).y) * ((Pt.sub b c).x)))) (b := .int .i64 0) (by kernel_rfl) (by kernel_rfl) (Eql.int rfl) (EqlF.cons rfl (a := .int .u64 (lo128 (((Pt.sub a c).x) * ((Pt.sub b c).y) - ((Pt.sub a c).y) * ((Pt.sub b c).x)))) (b := .int .u64 0) (by kernel_rfl) (by kernel_rfl) (Eql.int rfl) EqlF.nil))) (by rw [Bool.eq_iff_iff]; simp [ng]) rfl rfl (by decide) rfl rfl (by kernel_rfl) (fun _ => by kernel_rfl) ?_)
      have hH205 := (Hold.set (i := 35) (by decide)).2 hH204
      refine ⟨hH205, ?_⟩
      refine XA.valD 36 67 (.bool (decide ((hi128 (((Pt.sub a c).x) * ((Pt.sub b c).y) - ((Pt.sub a c).y) * ((Pt.sub b c).x))) = 0 ∧ (lo128 (((Pt.sub a c).x) * ((Pt.sub b c).y) - ((Pt.sub a c).y) * ((Pt.sub b c).x))) = 0))) rfl (by kernel_rfl) (by kernel_rfl) (by kernel_rfl) rfl (by kernel_rfl) rfl hH205 (fun hH206 => ?_)
      refine XA.valD 37 6 (.bool (decide ((hi128 (((Pt.sub a c).x) * ((Pt.sub b c).y) - ((Pt.sub a c).y) * ((Pt.sub b c).x))) = 0 ∧ (lo128 (((Pt.sub a c).x) * ((Pt.sub b c).y) - ((Pt.sub a c).y) * ((Pt.sub b c).x))) = 0))) rfl (by kernel_rfl) (by kernel_rfl) (by kernel_rfl) rfl (by kernel_rfl) rfl hH206 (fun hH207 => ?_)
      refine XA.valD 38 7 (.bool true) rfl (by kernel_rfl) (by kernel_rfl) (by kernel_rfl) rfl (by kernel_rfl) rfl hH207 (fun hH208 => ?_)
      refine XA.done (by kernel_rfl) (thn_norm ?_)
      refine XC.ret ?_
      refine ⟨Or.inr rfl, .tuple #[(.bool (decide ((hi128 (((Pt.sub a c).x) * ((Pt.sub b c).y) - ((Pt.sub a c).y) * ((Pt.sub b c).x))) = 0 ∧ (lo128 (((Pt.sub a c).x) * ((Pt.sub b c).y) - ((Pt.sub a c).y) * ((Pt.sub b c).x))) = 0))), (.bool true)], fun a_ ha_ => results_tt rfl ha_ rfl rfl, s203.keep, ?_⟩
      have hx_ : (decide ((hi128 (((Pt.sub a c).x) * ((Pt.sub b c).y) - ((Pt.sub a c).y) * ((Pt.sub b c).x))) = 0 ∧ (lo128 (((Pt.sub a c).x) * ((Pt.sub b c).y) - ((Pt.sub a c).y) * ((Pt.sub b c).x))) = 0) : Bool) = decide (lineOn a b c) := by
        rw [Bool.eq_iff_iff]
        have hg178_ := hg178
        rw [minor_zero (by unfold Pt.ok inC at *; simp only [Pt.sub]; omega) (by unfold Pt.ok inC at *; simp only [Pt.sub]; omega) (by unfold Pt.ok inC at *; simp only [Pt.sub]; omega) (by unfold Pt.ok inC at *; simp only [Pt.sub]; omega)] at hg178_
        simp only [Pt.sub] at hg178_
        have hg193_ := hg193
        rw [minor_zero (by unfold Pt.ok inC at *; simp only [Pt.sub]; omega) (by unfold Pt.ok inC at *; simp only [Pt.sub]; omega) (by unfold Pt.ok inC at *; simp only [Pt.sub]; omega) (by unfold Pt.ok inC at *; simp only [Pt.sub]; omega)] at hg193_
        simp only [Pt.sub] at hg193_
        rw [decide_eq_true_eq, minor_zero (by unfold Pt.ok inC at *; simp only [Pt.sub]; omega) (by unfold Pt.ok inC at *; simp only [Pt.sub]; omega) (by unfold Pt.ok inC at *; simp only [Pt.sub]; omega) (by unfold Pt.ok inC at *; simp only [Pt.sub]; omega)]
        simp only [decide_eq_true_eq, lineOn, Pt.sub, Bool.false_eq_true, false_iff]
        grind
      show Value.tuple #[.bool (decide ((hi128 (((Pt.sub a c).x) * ((Pt.sub b c).y) - ((Pt.sub a c).y) * ((Pt.sub b c).x))) = 0 ∧ (lo128 (((Pt.sub a c).x) * ((Pt.sub b c).y) - ((Pt.sub a c).y) * ((Pt.sub b c).x))) = 0)), .bool true] = .tuple #[.bool (decide (lineOn a b c)), .bool (decide True)]
      rw [hx_]; rfl
    · skip
      refine XA.valD 25 56 (undef) rfl (by kernel_rfl) (by kernel_rfl) (by kernel_rfl) rfl (by kernel_rfl) rfl hH192 (fun hH209 => ?_)
      refine XA.valD 26 57 (undef) rfl (by kernel_rfl) (by kernel_rfl) (by kernel_rfl) rfl (by kernel_rfl) rfl hH209 (fun hH210 => ?_)
      refine XA.valD 27 58 (undef) rfl (by kernel_rfl) (by kernel_rfl) (by kernel_rfl) rfl (by kernel_rfl) rfl hH210 (fun hH211 => ?_)
      refine XA.valD 28 59 (undef) rfl (by kernel_rfl) (by kernel_rfl) (by kernel_rfl) rfl (by kernel_rfl) rfl hH211 (fun hH212 => ?_)
      refine XA.valD 29 60 (undef) rfl (by kernel_rfl) (by kernel_rfl) (by kernel_rfl) rfl (by kernel_rfl) rfl hH212 (fun hH213 => ?_)
      refine XA.valD 30 61 (undef) rfl (by kernel_rfl) (by kernel_rfl) (by kernel_rfl) rfl (by kernel_rfl) rfl hH213 (fun hH214 => ?_)
      refine XA.valD 31 62 (undef) rfl (by kernel_rfl) (by kernel_rfl) (by kernel_rfl) rfl (by kernel_rfl) rfl hH214 (fun hH215 => ?_)
      refine XA.valD 32 63 (undef) rfl (by kernel_rfl) (by kernel_rfl) (by kernel_rfl) rfl (by kernel_rfl) rfl hH215 (fun hH216 => ?_)
      refine XA.valD 33 64 (undef) rfl (by kernel_rfl) (by kernel_rfl) (by kernel_rfl) rfl (by kernel_rfl) rfl hH216 (fun hH217 => ?_)
      refine XA.valD 34 65 (undef) rfl (by kernel_rfl) (by kernel_rfl) (by kernel_rfl) rfl (by kernel_rfl) rfl hH217 (fun hH218 => ?_)
      refine XA.valD 35 66 (undef) rfl (by kernel_rfl) (by kernel_rfl) (by kernel_rfl) rfl (by kernel_rfl) rfl hH218 (fun hH219 => ?_)
      refine XA.valD 36 67 (.bool false) rfl (by kernel_rfl) (by kernel_rfl) (by kernel_rfl) rfl (by kernel_rfl) rfl hH219 (fun hH220 => ?_)
      refine XA.valD 37 6 (.bool false) rfl (by kernel_rfl) (by kernel_rfl) (by kernel_rfl) rfl (by kernel_rfl) rfl hH220 (fun hH221 => ?_)
      refine XA.valD 38 7 (.bool true) rfl (by kernel_rfl) (by kernel_rfl) (by kernel_rfl) rfl (by kernel_rfl) rfl hH221 (fun hH222 => ?_)
      refine XA.done (by kernel_rfl) (thn_norm ?_)
      refine XC.ret ?_
      refine ⟨Or.inr rfl, .tuple #[(.bool false), (.bool true)], fun a_ ha_ => results_tt rfl ha_ rfl rfl, s188.keep, ?_⟩
      have hx_ : (false : Bool) = decide (lineOn a b c) := by
        rw [Bool.eq_iff_iff]
        have hg178_ := hg178
        rw [minor_zero (by unfold Pt.ok inC at *; simp only [Pt.sub]; omega) (by unfold Pt.ok inC at *; simp only [Pt.sub]; omega) (by unfold Pt.ok inC at *; simp only [Pt.sub]; omega) (by unfold Pt.ok inC at *; simp only [Pt.sub]; omega)] at hg178_
        simp only [Pt.sub] at hg178_
        have hg193_ := hg193
        rw [minor_zero (by unfold Pt.ok inC at *; simp only [Pt.sub]; omega) (by unfold Pt.ok inC at *; simp only [Pt.sub]; omega) (by unfold Pt.ok inC at *; simp only [Pt.sub]; omega) (by unfold Pt.ok inC at *; simp only [Pt.sub]; omega)] at hg193_
        simp only [Pt.sub] at hg193_
        simp only [decide_eq_true_eq, lineOn, Pt.sub, Bool.false_eq_true, false_iff]
        grind
      show Value.tuple #[.bool (false), .bool true] = .tuple #[.bool (decide (lineOn a b c)), .bool (decide True)]
      rw [hx_]; rfl
  · skip
    refine XA.valD 12 43 (undef) rfl (by kernel_rfl) (by kernel_rfl) (by kernel_rfl) rfl (by kernel_rfl) rfl hH177 (fun hH223 => ?_)
    refine XA.valD 13 44 (undef) rfl (by kernel_rfl) (by kernel_rfl) (by kernel_rfl) rfl (by kernel_rfl) rfl hH223 (fun hH224 => ?_)
    refine XA.valD 14 45 (undef) rfl (by kernel_rfl) (by kernel_rfl) (by kernel_rfl) rfl (by kernel_rfl) rfl hH224 (fun hH225 => ?_)
    refine XA.valD 15 46 (undef) rfl (by kernel_rfl) (by kernel_rfl) (by kernel_rfl) rfl (by kernel_rfl) rfl hH225 (fun hH226 => ?_)
    refine XA.valD 16 47 (undef) rfl (by kernel_rfl) (by kernel_rfl) (by kernel_rfl) rfl (by kernel_rfl) rfl hH226 (fun hH227 => ?_)
    refine XA.valD 17 48 (undef) rfl (by kernel_rfl) (by kernel_rfl) (by kernel_rfl) rfl (by kernel_rfl) rfl hH227 (fun hH228 => ?_)
    refine XA.valD 18 49 (undef) rfl (by kernel_rfl) (by kernel_rfl) (by kernel_rfl) rfl (by kernel_rfl) rfl hH228 (fun hH229 => ?_)
    refine XA.valD 19 50 (undef) rfl (by kernel_rfl) (by kernel_rfl) (by kernel_rfl) rfl (by kernel_rfl) rfl hH229 (fun hH230 => ?_)
    refine XA.valD 20 51 (undef) rfl (by kernel_rfl) (by kernel_rfl) (by kernel_rfl) rfl (by kernel_rfl) rfl hH230 (fun hH231 => ?_)
    refine XA.valD 21 52 (undef) rfl (by kernel_rfl) (by kernel_rfl) (by kernel_rfl) rfl (by kernel_rfl) rfl hH231 (fun hH232 => ?_)
    refine XA.valD 22 53 (undef) rfl (by kernel_rfl) (by kernel_rfl) (by kernel_rfl) rfl (by kernel_rfl) rfl hH232 (fun hH233 => ?_)
    refine XA.valD 23 54 (.bool false) rfl (by kernel_rfl) (by kernel_rfl) (by kernel_rfl) rfl (by kernel_rfl) rfl hH233 (fun hH234 => ?_)
    refine XA.valD 24 55 (.bool false) rfl (by kernel_rfl) (by kernel_rfl) (by kernel_rfl) rfl (by kernel_rfl) rfl hH234 (fun hH235 => ?_)
    refine XA.valD 25 56 (undef) rfl (by kernel_rfl) (by kernel_rfl) (by kernel_rfl) rfl (by kernel_rfl) rfl hH235 (fun hH236 => ?_)
    refine XA.valD 26 57 (undef) rfl (by kernel_rfl) (by kernel_rfl) (by kernel_rfl) rfl (by kernel_rfl) rfl hH236 (fun hH237 => ?_)
    refine XA.valD 27 58 (undef) rfl (by kernel_rfl) (by kernel_rfl) (by kernel_rfl) rfl (by kernel_rfl) rfl hH237 (fun hH238 => ?_)
    refine XA.valD 28 59 (undef) rfl (by kernel_rfl) (by kernel_rfl) (by kernel_rfl) rfl (by kernel_rfl) rfl hH238 (fun hH239 => ?_)
    refine XA.valD 29 60 (undef) rfl (by kernel_rfl) (by kernel_rfl) (by kernel_rfl) rfl (by kernel_rfl) rfl hH239 (fun hH240 => ?_)
    refine XA.valD 30 61 (undef) rfl (by kernel_rfl) (by kernel_rfl) (by kernel_rfl) rfl (by kernel_rfl) rfl hH240 (fun hH241 => ?_)
    refine XA.valD 31 62 (undef) rfl (by kernel_rfl) (by kernel_rfl) (by kernel_rfl) rfl (by kernel_rfl) rfl hH241 (fun hH242 => ?_)
    refine XA.valD 32 63 (undef) rfl (by kernel_rfl) (by kernel_rfl) (by kernel_rfl) rfl (by kernel_rfl) rfl hH242 (fun hH243 => ?_)
    refine XA.valD 33 64 (undef) rfl (by kernel_rfl) (by kernel_rfl) (by kernel_rfl) rfl (by kernel_rfl) rfl hH243 (fun hH244 => ?_)
    refine XA.valD 34 65 (undef) rfl (by kernel_rfl) (by kernel_rfl) (by kernel_rfl) rfl (by kernel_rfl) rfl hH244 (fun hH245 => ?_)
    refine XA.valD 35 66 (undef) rfl (by kernel_rfl) (by kernel_rfl) (by kernel_rfl) rfl (by kernel_rfl) rfl hH245 (fun hH246 => ?_)
    refine XA.valD 36 67 (.bool false) rfl (by kernel_rfl) (by kernel_rfl) (by kernel_rfl) rfl (by kernel_rfl) rfl hH246 (fun hH247 => ?_)
    refine XA.valD 37 6 (.bool false) rfl (by kernel_rfl) (by kernel_rfl) (by kernel_rfl) rfl (by kernel_rfl) rfl hH247 (fun hH248 => ?_)
    refine XA.valD 38 7 (.bool true) rfl (by kernel_rfl) (by kernel_rfl) (by kernel_rfl) rfl (by kernel_rfl) rfl hH248 (fun hH249 => ?_)
    refine XA.done (by kernel_rfl) (thn_norm ?_)
    refine XC.ret ?_
    refine ⟨Or.inr rfl, .tuple #[(.bool false), (.bool true)], fun a_ ha_ => results_tt rfl ha_ rfl rfl, s174.keep, ?_⟩
    have hx_ : (false : Bool) = decide (lineOn a b c) := by
      rw [Bool.eq_iff_iff]
      have hg178_ := hg178
      rw [minor_zero (by unfold Pt.ok inC at *; simp only [Pt.sub]; omega) (by unfold Pt.ok inC at *; simp only [Pt.sub]; omega) (by unfold Pt.ok inC at *; simp only [Pt.sub]; omega) (by unfold Pt.ok inC at *; simp only [Pt.sub]; omega)] at hg178_
      simp only [Pt.sub] at hg178_
      simp only [decide_eq_true_eq, lineOn, Pt.sub, Bool.false_eq_true, false_iff]
      grind
    show Value.tuple #[.bool (false), .bool true] = .tuple #[.bool (decide (lineOn a b c)), .bool (decide True)]
    rw [hx_]; rfl

end Go.Proofs.Tryz
