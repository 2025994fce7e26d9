/- Words and walks for the claim, merged by a program of this session (part 2). -/
import Derived.Test.YtefefpkgiecikaaDoorTl1
set_option linter.unusedVariables false
set_option linter.unusedSimpArgs false
namespace Go.Proofs.YtefefpkgiecikaaDoor.P
open Go.RowKit Go.Proofs.YtefefpkgiecikaaDoorW.PrintWords Go.Proofs.YtefefpkgiecikaaDoorW.PrintLast Go.Proofs.YtefefpkgiecikaaDoorW.PrintMore
attribute [local go_sem] max2_int min2_int max_two min_two max_three min_three max_four min_four
set_option linter.unusedVariables false
set_option linter.unusedSimpArgs false
mutual
def token_Atom.j0 : Nat → ByteArray → ByteArray → Bool → Option (Int × ByteArray × Bool × List Int × (List (S33)) × Int × Bool)
 | 0, _, _, _ => none
 | k + 1, x0, x10, x11 => if x11 = true then (some (8, (⟨#[]⟩ : ByteArray), false, ([] : List Int), ([] : List (S33)), 0, true)) else (if x10.toList = ([35, 102] : List UInt8) then (some (9, (⟨#[]⟩ : ByteArray), false, ([] : List Int), ([] : List (S33)), 0, true)) else (if x10.toList = ([35, 102, 97, 108, 115, 101] : List UInt8) then (some (9, (⟨#[]⟩ : ByteArray), false, ([] : List Int), ([] : List (S33)), 0, true)) else ((num_Parse.f k x0).bind fun bt159 => (if bt159.2.2 = true then (some (7, (⟨#[]⟩ : ByteArray), bt159.1, bt159.2.1, ([] : List (S33)), 0, true)) else (if x0.size ≤ 9223372036854775807 then ((utf_Decode.f k (bytesOf x0)).bind fun bt168 => ((strings_HasPrefix.f x0 (⟨#[43]⟩ : ByteArray)).bind fun t173 => (if t173 = true then (token_Atom.j1 k x0 bt168.1 bt168.2.2 true) else ((strings_HasPrefix.f x0 (⟨#[45]⟩ : ByteArray)).bind fun t174 => (token_Atom.j1 k x0 bt168.1 bt168.2.2 t174))))) else (none))))))
def token_Atom.j1 : Nat → ByteArray → List Int → Int → Bool → Option (Int × ByteArray × Bool × List Int × (List (S33)) × Int × Bool)
 | 0, _, _, _, _ => none
 | k + 1, x0, x6, x8, x9 => if x0.toList = ([] : List UInt8) then (some (0, (⟨#[]⟩ : ByteArray), false, ([] : List Int), ([] : List (S33)), 0, false)) else (if x0.toList = ([46] : List UInt8) then (some (0, (⟨#[]⟩ : ByteArray), false, ([] : List Int), ([] : List (S33)), 0, false)) else (if (x0.size : Int) > 64 then (some (0, (⟨#[]⟩ : ByteArray), false, ([] : List Int), ([] : List (S33)), 0, false)) else (if x8 = 0 then ((slices_ContainsFunc_int_int_utf_Ends.f k x6).bind fun t175 => (if t175 = true then (some (0, (⟨#[]⟩ : ByteArray), false, ([] : List Int), ([] : List (S33)), 0, false)) else (if 0 < (x0.size : Int) then (if (bt x0 0) = 35 then (some (0, (⟨#[]⟩ : ByteArray), false, ([] : List Int), ([] : List (S33)), 0, false)) else ((token_digit.f x0 0).bind fun t176 => (if t176 = true then (some (0, (⟨#[]⟩ : ByteArray), false, ([] : List Int), ([] : List (S33)), 0, false)) else (if x9 = true then ((token_digit.f x0 1).bind fun t177 => (if t177 = true then (some (0, (⟨#[]⟩ : ByteArray), false, ([] : List Int), ([] : List (S33)), 0, false)) else (some (4, x0, false, ([] : List Int), ([] : List (S33)), 0, true)))) else (some (4, x0, false, ([] : List Int), ([] : List (S33)), 0, true)))))) else (none)))) else (some (0, (⟨#[]⟩ : ByteArray), false, ([] : List Int), ([] : List (S33)), 0, false)))))
end
def token_Atom.f (k : Nat) (a0 : ByteArray) : Option (Int × ByteArray × Bool × List Int × (List (S33)) × Int × Bool) := if a0.toList = ([35, 116] : List UInt8) then (token_Atom.j0 k a0 a0 (a0.toList == ([35, 116] : List UInt8))) else (token_Atom.j0 k a0 a0 (a0.toList == ([35, 116, 114, 117, 101] : List UInt8)))
theorem token_Atom.mono_l : ∀ k, (∀ y0 y1 y2, LeO (token_Atom.j0 k y0 y1 y2) (token_Atom.j0 (k + 1) y0 y1 y2)) ∧ (∀ y0 y1 y2 y3, LeO (token_Atom.j1 k y0 y1 y2 y3) (token_Atom.j1 (k + 1) y0 y1 y2 y3))
 | 0 => ⟨fun _ _ _ r h => by simp [token_Atom.j0] at h, fun _ _ _ _ r h => by simp [token_Atom.j1] at h⟩
 | k + 1 => by
  obtain ⟨ih0, ih1⟩ := token_Atom.mono_l k
  refine ⟨?_, ?_⟩
  ·intro y0 y1 y2
   unfold token_Atom.j0
   repeat' first
   | (with_reducible exact ih0 _ _ _)
   | (with_reducible exact ih1 _ _ _ _)
   | (with_reducible exact num_Parse.mono _ _)
   | (with_reducible exact slices_ContainsFunc_int_int_utf_Ends.mono _ _)
   | (with_reducible exact utf_Decode.mono _ _)
   | (with_reducible exact LeO.refl _)
   | (with_reducible exact LeO.none _)
   | (with_reducible refine LeO.ite ?_ ?_)
   | (with_reducible refine LeO.bind ?_ (fun _ => ?_))
   | exact ih0 _ _ _
   | exact ih1 _ _ _ _
   | exact num_Parse.mono _ _
   | exact slices_ContainsFunc_int_int_utf_Ends.mono _ _
   | exact utf_Decode.mono _ _
   | exact LeO.none _
   | refine LeO.ite ?_ ?_
   | refine LeO.bind ?_ (fun _ => ?_)
  ·intro y0 y1 y2 y3
   unfold token_Atom.j1
   repeat' first
   | (with_reducible exact ih0 _ _ _)
   | (with_reducible exact ih1 _ _ _ _)
   | (with_reducible exact num_Parse.mono _ _)
   | (with_reducible exact slices_ContainsFunc_int_int_utf_Ends.mono _ _)
   | (with_reducible exact utf_Decode.mono _ _)
   | (with_reducible exact LeO.refl _)
   | (with_reducible exact LeO.none _)
   | (with_reducible refine LeO.ite ?_ ?_)
   | (with_reducible refine LeO.bind ?_ (fun _ => ?_))
   | exact ih0 _ _ _
   | exact ih1 _ _ _ _
   | exact num_Parse.mono _ _
   | exact slices_ContainsFunc_int_int_utf_Ends.mono _ _
   | exact utf_Decode.mono _ _
   | exact LeO.none _
   | refine LeO.ite ?_ ?_
   | refine LeO.bind ?_ (fun _ => ?_)
theorem token_Atom.mono : ∀ a0 k, LeO (token_Atom.f k a0) (token_Atom.f (k + 1) a0) := by
 intro a0 k
 obtain ⟨ih0, ih1⟩ := token_Atom.mono_l k
 unfold token_Atom.f
 repeat' first
   | (with_reducible exact ih0 _ _ _)
   | (with_reducible exact ih1 _ _ _ _)
   | (with_reducible exact num_Parse.mono _ _)
   | (with_reducible exact slices_ContainsFunc_int_int_utf_Ends.mono _ _)
   | (with_reducible exact utf_Decode.mono _ _)
   | (with_reducible exact LeO.refl _)
   | (with_reducible exact LeO.none _)
   | (with_reducible refine LeO.ite ?_ ?_)
   | (with_reducible refine LeO.bind ?_ (fun _ => ?_))
   | exact ih0 _ _ _
   | exact ih1 _ _ _ _
   | exact num_Parse.mono _ _
   | exact slices_ContainsFunc_int_int_utf_Ends.mono _ _
   | exact utf_Decode.mono _ _
   | exact LeO.none _
   | refine LeO.ite ?_ ?_
   | refine LeO.bind ?_ (fun _ => ?_)
set_option maxHeartbeats 8000000 in
set_option maxRecDepth 100000 in
theorem token_Atom.calls (k : Nat) (a0 : ByteArray) (r1 : Int) (r2 : ByteArray) (r3 : Bool) (r4 : List Int) (r5 : List (S33)) (r6 : Int) (r7 : Bool) (w : World) (hLD : LD w) (h : token_Atom.f k a0 = some (r1, r2, r3, r4, r5, r6, r7)) :
  Calls Tryd.prog 6 #[.string a0] w fun e w' => ∃ v3_ v4_ : Value, e = .returned (.tuple #[.agg #[.int .i64 r1, .string r2, .bool r3, v3_, v4_, .int .i64 r6], .bool r7]) ∧ Kd.V (Kd.int .u32) 73 w' w.heap.size (fun k_ => (w.heap.size ≤ k_) ∧ some k_ ≠ (v4_ : Value).ownBlock) v3_ r4 ∧ Kd.R k33 33 w' w.heap.size (fun k_ => (w.heap.size ≤ k_)) v4_ r5 ∧ Below w.heap.size w w' := by
 have hu33 := Tryd.underlying33
 have hu30 := Tryd.underlying30
 have HLD := Aside0.mk hLD
 clear hLD
 have HB := Aside0.mk (Below.refl w.heap.size w)
 have H : (if a0.toList = ([35, 116] : List UInt8) then (token_Atom.j0 k a0 a0 (a0.toList == ([35, 116] : List UInt8))) else (token_Atom.j0 k a0 a0 (a0.toList == ([35, 116, 114, 117, 101] : List UInt8)))) = some (r1, r2, r3, r4, r5, r6, r7) := h
 clear h
 have HC2 := Aside0.mk H
 clear H
 go_enter Tryd.func6, Tryd.ntmps6
 go_upto_if 11 with (first|((with_reducible refine gate_dst (N := 2) rfl ?_);(try (refine gate_guard (by rfl) ?_;dsimp only));refine box_event ?hg (N := 2) ?hd (cs := #[.int .i64 0, .string (⟨#[]⟩ : ByteArray), .bool false, .slice none 0 0, .slice none 0 0, .int .i64 0]) (t := 33) ?hr ?_;(case hd => rfl);(case hg => rfl);(case hr => first|(go_simp;done)|(go_simp;rfl));intro gb158 hg w3 hbox hb;have n0_ := Aside0.mk (below_step (by repeat (first|(with_reducible first|exact HB.out|apply below_alloc|apply pw_below_drewN|apply below_drew1)|exact HB.out)) hb);have n1_ := Aside0.mk (hbox);have n2_ := Aside0.mk ((by rw [hg];exact (below_size (by repeat (first|(with_reducible first|exact HB.out|apply below_alloc|apply pw_below_drewN|apply below_drew1)|exact HB.out))) : w.heap.size ≤ gb158));have n3_ := Aside0.mk ((by rw [hg];exact (below_size (by repeat (first|(with_reducible first|exact HB.out|apply below_alloc|apply pw_below_drewN|apply below_drew1)|exact HB.out))) : w.heap.size ≤ gb158));clear HB;have HB := n0_;have BK158 := n1_;have GW158 := n2_;have GE158 := n3_;clear n0_ n1_ n2_ n3_;clear hb hbox hg))
 (try simp only [Act.put, List.setIfInBounds_toArray, List.set_cons_zero, List.set_cons_succ])
 go_cut [11] (fun v11 wc => ∃ (kq : Nat) (x11_1 : Bool), v11 = .bool x11_1 ∧ Aside0 (token_Atom.j0 kq a0 a0 x11_1 = some (r1, r2, r3, r4, r5, r6, r7)) ∧ Aside0 (kq ≤ k) ∧ Aside0 (wc.heap[gb158]? = some (.cells #[.int .i64 0, .string (⟨#[]⟩ : ByteArray), .bool false, (.slice none 0 0), (.slice none 0 0), .int .i64 0] 33 (0, 0))) ∧ Aside0 (Below w.heap.size w wc))
 case first =>
  have H := HC2.out
  clear HC2
  by_cases c4 : a0.toList = ([35, 116] : List UInt8)
  ·rw [if_pos c4] at H
   have c4b0 : (a0.toList == ([35, 116] : List UInt8)) = true := beq_iff_eq.mpr c4
   have c4b1 : (a0.toList != ([35, 116] : List UInt8)) = false := bne_eq_false_iff_eq.mpr c4
   clear c4
   (first|rw [c4b0]|(simp only [i64_w, i32_w];rw [c4b0])|skip)
   have H' := Aside0.mk H
   clear H
   go_wp2
   go_meet
   case rel => exact ⟨_, ((a0.toList == ([35, 116] : List UInt8))), (by first|rfl|(simp;done)|(simp [*];done)), H', ⟨by first|omega|exact Nat.le_refl _⟩, ⟨by (with_reducible repeat (first|refine blk_drewN ?_ _|refine blk_drew ?_|refine blk_alloc ?_ _));exact BK158.out⟩, ⟨by repeat (first|(with_reducible first|exact HB.out|apply below_alloc|apply pw_below_drewN|apply below_drew1|refine below_set ?_ GE158.out)|exact HB.out)⟩⟩
  ·rw [if_neg c4] at H
   have c4b0 : (a0.toList == ([35, 116] : List UInt8)) = false := beq_eq_false_iff_ne.mpr c4
   have c4b1 : (a0.toList != ([35, 116] : List UInt8)) = true := bne_iff_ne.mpr c4
   (first|rw [c4b0]|(simp only [i64_w, i32_w];rw [c4b0])|skip)
   have H' := Aside0.mk H
   clear H
   go_wp2
   go_meet
   case rel => exact ⟨_, ((a0.toList == ([35, 116, 114, 117, 101] : List UInt8))), (by first|rfl|(simp;done)|(simp [*];done)), H', ⟨by first|omega|exact Nat.le_refl _⟩, ⟨by (with_reducible repeat (first|refine blk_drewN ?_ _|refine blk_drew ?_|refine blk_alloc ?_ _));exact BK158.out⟩, ⟨by repeat (first|(with_reducible first|exact HB.out|apply below_alloc|apply pw_below_drewN|apply below_drew1|refine below_set ?_ GE158.out)|exact HB.out)⟩⟩
 case rest =>
  clear HC2
  try clear p2
  try clear c4
  try clear c4b0
  try clear c4b1
  obtain ⟨kq, x11_1, rfl, HA, HJ1, BK158, HB⟩ := hcut
  cases kq with
  | zero => exact absurd HA.out (by simp [token_Atom.j0])
  | succ kj1 =>
   have H := HA.out
   clear HA
   simp only [token_Atom.j0] at H
   by_cases c5 : x11_1 = true
   ·subst c5
    have H1 : (some (8, (⟨#[]⟩ : ByteArray), false, ([] : List Int), ([] : List (S33)), 0, true)) = some (r1, r2, r3, r4, r5, r6, r7) := by rw [if_pos rfl] at H; exact H
    clear H
    have H := H1
    clear H1
    simp only [Option.some.injEq, Prod.mk.injEq] at H
    obtain ⟨rfl, rfl, rfl, rfl, rfl, rfl, rfl⟩ := H
    have hcz6_0 : wc.cell? ⟨gb158, 0, none⟩ = some (.int .i64 0) := (blk_cell BK158.out 0).trans rfl
    have hcz6_1 : wc.cell? ⟨gb158, 1, none⟩ = some (.string (⟨#[]⟩ : ByteArray)) := (blk_cell BK158.out 1).trans rfl
    have hcz6_2 : wc.cell? ⟨gb158, 2, none⟩ = some (.bool false) := (blk_cell BK158.out 2).trans rfl
    have hcz6_3 : wc.cell? ⟨gb158, 3, none⟩ = some (.slice none 0 0) := (blk_cell BK158.out 3).trans rfl
    have hcz6_4 : wc.cell? ⟨gb158, 4, none⟩ = some (.slice none 0 0) := (blk_cell BK158.out 4).trans rfl
    have hcz6_5 : wc.cell? ⟨gb158, 5, none⟩ = some (.int .i64 0) := (blk_cell BK158.out 5).trans rfl
    have hfz6_0 := blk_frozen BK158.out 0
    have hfz6_1 := blk_frozen BK158.out 1
    have hfz6_2 := blk_frozen BK158.out 2
    have hfz6_3 := blk_frozen BK158.out 3
    have hfz6_4 := blk_frozen BK158.out 4
    have hfz6_5 := blk_frozen BK158.out 5
    go_wp2_with (first|((with_reducible refine gate_store (t := 33) (p := 2) rfl ?_);refine store_event (t := 33) (p := 2) (v := ?vo_w7) (w1 := ((((((wc.setCell ⟨gb158, 0, none⟩ (.int .i64 8)).setCell ⟨gb158, 1, none⟩ (.string (⟨#[]⟩ : ByteArray))).setCell ⟨gb158, 2, none⟩ (.bool false)).setCell ⟨gb158, 3, none⟩ (.slice none 0 0)).setCell ⟨gb158, 4, none⟩ (.slice none 0 0)).setCell ⟨gb158, 5, none⟩ (.int .i64 0))) ?hg ?ho ?hn ?hr ?_;(case ho => rfl);(case hg => rfl);(case hn => rfl);(case hr => first|(go_simp;done)|(go_simp;rfl));intro w7 hw;have n0_ : Aside0 (w7.heap[gb158]? = some (.cells #[.int .i64 8, .string (⟨#[]⟩ : ByteArray), .bool false, .slice none 0 0, .slice none 0 0, .int .i64 0] 33 (0, 0))) := ⟨(by rw [hw];exact (by (with_reducible repeat (first|refine blk_drewN ?_ _|refine blk_drew ?_|refine blk_alloc ?_ _));refine blk_put (cs := #[.int .i64 8, .string (⟨#[]⟩ : ByteArray), .bool false, .slice none 0 0, .slice none 0 0, .int .i64 0]) ?_ 5 _ rfl;(with_reducible repeat (first|refine blk_drewN ?_ _|refine blk_drew ?_|refine blk_alloc ?_ _));refine blk_put (cs := #[.int .i64 8, .string (⟨#[]⟩ : ByteArray), .bool false, .slice none 0 0, .slice none 0 0, .int .i64 0]) ?_ 4 _ rfl;(with_reducible repeat (first|refine blk_drewN ?_ _|refine blk_drew ?_|refine blk_alloc ?_ _));refine blk_put (cs := #[.int .i64 8, .string (⟨#[]⟩ : ByteArray), .bool false, .slice none 0 0, .slice none 0 0, .int .i64 0]) ?_ 3 _ rfl;(with_reducible repeat (first|refine blk_drewN ?_ _|refine blk_drew ?_|refine blk_alloc ?_ _));refine blk_put (cs := #[.int .i64 8, .string (⟨#[]⟩ : ByteArray), .bool false, .slice none 0 0, .slice none 0 0, .int .i64 0]) ?_ 2 _ rfl;(with_reducible repeat (first|refine blk_drewN ?_ _|refine blk_drew ?_|refine blk_alloc ?_ _));refine blk_put (cs := #[.int .i64 8, .string (⟨#[]⟩ : ByteArray), .bool false, .slice none 0 0, .slice none 0 0, .int .i64 0]) ?_ 1 _ rfl;(with_reducible repeat (first|refine blk_drewN ?_ _|refine blk_drew ?_|refine blk_alloc ?_ _));refine blk_put (cs := #[.int .i64 0, .string (⟨#[]⟩ : ByteArray), .bool false, .slice none 0 0, .slice none 0 0, .int .i64 0]) ?_ 0 _ rfl;(with_reducible repeat (first|refine blk_drewN ?_ _|refine blk_drew ?_|refine blk_alloc ?_ _));exact BK158.out))⟩;have n1_ : Aside0 (Below w.heap.size w w7) := ⟨(by rw [hw];exact (by repeat (first|(with_reducible first|exact HB.out|apply below_alloc|apply pw_below_drewN|apply below_drew1|refine below_set ?_ GE158.out)|exact HB.out)))⟩;clear hw;clear BK158;clear HB;have BK158 := n0_;have HB := n1_;clear n0_ n1_))
    refine bodyPost_ret (results_ct rfl _ _ gb158 33 #[.int .i64 8, .string (⟨#[]⟩ : ByteArray), .bool false, .slice none 0 0, .slice none 0 0, .int .i64 0] (0, 0) _ rfl (by (with_reducible repeat (first|refine blk_drewN ?_ _|refine blk_drew ?_|refine blk_alloc ?_ _));exact BK158.out) Tryd.underlying33 rfl (by kernel_rfl)) rfl ?_
    exact ⟨_, _, by first|rfl|(simp [errW_none, errW_some] <;> rfl)|(simp [*, errW_none, errW_some] <;> rfl), Kd.V_nil _ _ _ _ _, by first|exact Kd.R_nil _ _ _ _ _|exact Kd.N_nil _ _ _ _ _|exact Kd.V_nil _ _ _ _ _|exact Kd.Q_nil _ _ _ _ _|exact Kd.S_nil _ _ _ _ _, by repeat (first|(with_reducible first|exact HB.out|apply below_alloc|apply pw_below_drewN|apply below_drew1|refine below_set ?_ GE158.out)|exact HB.out)⟩
   ·replace c5 := Bool.eq_false_iff.mpr c5
    subst c5
    have H1 : (if a0.toList = ([35, 102] : List UInt8) then (some (9, (⟨#[]⟩ : ByteArray), false, ([] : List Int), ([] : List (S33)), 0, true)) else (if a0.toList = ([35, 102, 97, 108, 115, 101] : List UInt8) then (some (9, (⟨#[]⟩ : ByteArray), false, ([] : List Int), ([] : List (S33)), 0, true)) else ((num_Parse.f kj1 a0).bind fun bt159 => (if bt159.2.2 = true then (some (7, (⟨#[]⟩ : ByteArray), bt159.1, bt159.2.1, ([] : List (S33)), 0, true)) else (if a0.size ≤ 9223372036854775807 then ((utf_Decode.f kj1 (bytesOf a0)).bind fun bt168 => ((strings_HasPrefix.f a0 (⟨#[43]⟩ : ByteArray)).bind fun t173 => (if t173 = true then (token_Atom.j1 kj1 a0 bt168.1 bt168.2.2 true) else ((strings_HasPrefix.f a0 (⟨#[45]⟩ : ByteArray)).bind fun t174 => (token_Atom.j1 kj1 a0 bt168.1 bt168.2.2 t174))))) else (none)))))) = some (r1, r2, r3, r4, r5, r6, r7) := by rw [if_neg (show ¬ (false = true) by decide)] at H; exact H
    clear H
    have H := H1
    clear H1
    by_cases c8 : a0.toList = ([35, 102] : List UInt8)
    ·rw [if_pos c8] at H
     have c8b0 : (a0.toList == ([35, 102] : List UInt8)) = true := beq_iff_eq.mpr c8
     have c8b1 : (a0.toList != ([35, 102] : List UInt8)) = false := bne_eq_false_iff_eq.mpr c8
     clear c8
     simp only [Option.some.injEq, Prod.mk.injEq] at H
     obtain ⟨rfl, rfl, rfl, rfl, rfl, rfl, rfl⟩ := H
     have hcz9_0 : wc.cell? ⟨gb158, 0, none⟩ = some (.int .i64 0) := (blk_cell BK158.out 0).trans rfl
     have hcz9_1 : wc.cell? ⟨gb158, 1, none⟩ = some (.string (⟨#[]⟩ : ByteArray)) := (blk_cell BK158.out 1).trans rfl
     have hcz9_2 : wc.cell? ⟨gb158, 2, none⟩ = some (.bool false) := (blk_cell BK158.out 2).trans rfl
     have hcz9_3 : wc.cell? ⟨gb158, 3, none⟩ = some (.slice none 0 0) := (blk_cell BK158.out 3).trans rfl
     have hcz9_4 : wc.cell? ⟨gb158, 4, none⟩ = some (.slice none 0 0) := (blk_cell BK158.out 4).trans rfl
     have hcz9_5 : wc.cell? ⟨gb158, 5, none⟩ = some (.int .i64 0) := (blk_cell BK158.out 5).trans rfl
     have hfz9_0 := blk_frozen BK158.out 0
     have hfz9_1 := blk_frozen BK158.out 1
     have hfz9_2 := blk_frozen BK158.out 2
     have hfz9_3 := blk_frozen BK158.out 3
     have hfz9_4 := blk_frozen BK158.out 4
     have hfz9_5 := blk_frozen BK158.out 5
     go_wp2_with (first|((with_reducible refine gate_store (t := 33) (p := 2) rfl ?_);refine store_event (t := 33) (p := 2) (v := ?vo_w10) (w1 := ((((((wc.setCell ⟨gb158, 0, none⟩ (.int .i64 9)).setCell ⟨gb158, 1, none⟩ (.string (⟨#[]⟩ : ByteArray))).setCell ⟨gb158, 2, none⟩ (.bool false)).setCell ⟨gb158, 3, none⟩ (.slice none 0 0)).setCell ⟨gb158, 4, none⟩ (.slice none 0 0)).setCell ⟨gb158, 5, none⟩ (.int .i64 0))) ?hg ?ho ?hn ?hr ?_;(case ho => rfl);(case hg => rfl);(case hn => rfl);(case hr => first|(go_simp;done)|(go_simp;rfl));intro w10 hw;have n0_ : Aside0 (w10.heap[gb158]? = some (.cells #[.int .i64 9, .string (⟨#[]⟩ : ByteArray), .bool false, .slice none 0 0, .slice none 0 0, .int .i64 0] 33 (0, 0))) := ⟨(by rw [hw];exact (by (with_reducible repeat (first|refine blk_drewN ?_ _|refine blk_drew ?_|refine blk_alloc ?_ _));refine blk_put (cs := #[.int .i64 9, .string (⟨#[]⟩ : ByteArray), .bool false, .slice none 0 0, .slice none 0 0, .int .i64 0]) ?_ 5 _ rfl;(with_reducible repeat (first|refine blk_drewN ?_ _|refine blk_drew ?_|refine blk_alloc ?_ _));refine blk_put (cs := #[.int .i64 9, .string (⟨#[]⟩ : ByteArray), .bool false, .slice none 0 0, .slice none 0 0, .int .i64 0]) ?_ 4 _ rfl;(with_reducible repeat (first|refine blk_drewN ?_ _|refine blk_drew ?_|refine blk_alloc ?_ _));refine blk_put (cs := #[.int .i64 9, .string (⟨#[]⟩ : ByteArray), .bool false, .slice none 0 0, .slice none 0 0, .int .i64 0]) ?_ 3 _ rfl;(with_reducible repeat (first|refine blk_drewN ?_ _|refine blk_drew ?_|refine blk_alloc ?_ _));refine blk_put (cs := #[.int .i64 9, .string (⟨#[]⟩ : ByteArray), .bool false, .slice none 0 0, .slice none 0 0, .int .i64 0]) ?_ 2 _ rfl;(with_reducible repeat (first|refine blk_drewN ?_ _|refine blk_drew ?_|refine blk_alloc ?_ _));refine blk_put (cs := #[.int .i64 9, .string (⟨#[]⟩ : ByteArray), .bool false, .slice none 0 0, .slice none 0 0, .int .i64 0]) ?_ 1 _ rfl;(with_reducible repeat (first|refine blk_drewN ?_ _|refine blk_drew ?_|refine blk_alloc ?_ _));refine blk_put (cs := #[.int .i64 0, .string (⟨#[]⟩ : ByteArray), .bool false, .slice none 0 0, .slice none 0 0, .int .i64 0]) ?_ 0 _ rfl;(with_reducible repeat (first|refine blk_drewN ?_ _|refine blk_drew ?_|refine blk_alloc ?_ _));exact BK158.out))⟩;have n1_ : Aside0 (Below w.heap.size w w10) := ⟨(by rw [hw];exact (by repeat (first|(with_reducible first|exact HB.out|apply below_alloc|apply pw_below_drewN|apply below_drew1|refine below_set ?_ GE158.out)|exact HB.out)))⟩;clear hw;clear BK158;clear HB;have BK158 := n0_;have HB := n1_;clear n0_ n1_))
     refine bodyPost_ret (results_ct rfl _ _ gb158 33 #[.int .i64 9, .string (⟨#[]⟩ : ByteArray), .bool false, .slice none 0 0, .slice none 0 0, .int .i64 0] (0, 0) _ rfl (by (with_reducible repeat (first|refine blk_drewN ?_ _|refine blk_drew ?_|refine blk_alloc ?_ _));exact BK158.out) Tryd.underlying33 rfl (by kernel_rfl)) rfl ?_
     exact ⟨_, _, by first|rfl|(simp [errW_none, errW_some] <;> rfl)|(simp [*, errW_none, errW_some] <;> rfl), Kd.V_nil _ _ _ _ _, by first|exact Kd.R_nil _ _ _ _ _|exact Kd.N_nil _ _ _ _ _|exact Kd.V_nil _ _ _ _ _|exact Kd.Q_nil _ _ _ _ _|exact Kd.S_nil _ _ _ _ _, by repeat (first|(with_reducible first|exact HB.out|apply below_alloc|apply pw_below_drewN|apply below_drew1|refine below_set ?_ GE158.out)|exact HB.out)⟩
    ·rw [if_neg c8] at H
     have c8b0 : (a0.toList == ([35, 102] : List UInt8)) = false := beq_eq_false_iff_ne.mpr c8
     have c8b1 : (a0.toList != ([35, 102] : List UInt8)) = true := bne_iff_ne.mpr c8
     by_cases c11 : a0.toList = ([35, 102, 97, 108, 115, 101] : List UInt8)
     ·rw [if_pos c11] at H
      have c11b0 : (a0.toList == ([35, 102, 97, 108, 115, 101] : List UInt8)) = true := beq_iff_eq.mpr c11
      have c11b1 : (a0.toList != ([35, 102, 97, 108, 115, 101] : List UInt8)) = false := bne_eq_false_iff_eq.mpr c11
      clear c11
      simp only [Option.some.injEq, Prod.mk.injEq] at H
      obtain ⟨rfl, rfl, rfl, rfl, rfl, rfl, rfl⟩ := H
      have hcz12_0 : wc.cell? ⟨gb158, 0, none⟩ = some (.int .i64 0) := (blk_cell BK158.out 0).trans rfl
      have hcz12_1 : wc.cell? ⟨gb158, 1, none⟩ = some (.string (⟨#[]⟩ : ByteArray)) := (blk_cell BK158.out 1).trans rfl
      have hcz12_2 : wc.cell? ⟨gb158, 2, none⟩ = some (.bool false) := (blk_cell BK158.out 2).trans rfl
      have hcz12_3 : wc.cell? ⟨gb158, 3, none⟩ = some (.slice none 0 0) := (blk_cell BK158.out 3).trans rfl
      have hcz12_4 : wc.cell? ⟨gb158, 4, none⟩ = some (.slice none 0 0) := (blk_cell BK158.out 4).trans rfl
      have hcz12_5 : wc.cell? ⟨gb158, 5, none⟩ = some (.int .i64 0) := (blk_cell BK158.out 5).trans rfl
      have hfz12_0 := blk_frozen BK158.out 0
      have hfz12_1 := blk_frozen BK158.out 1
      have hfz12_2 := blk_frozen BK158.out 2
      have hfz12_3 := blk_frozen BK158.out 3
      have hfz12_4 := blk_frozen BK158.out 4
      have hfz12_5 := blk_frozen BK158.out 5
      go_wp2_with (first|((with_reducible refine gate_store (t := 33) (p := 2) rfl ?_);refine store_event (t := 33) (p := 2) (v := ?vo_w13) (w1 := ((((((wc.setCell ⟨gb158, 0, none⟩ (.int .i64 9)).setCell ⟨gb158, 1, none⟩ (.string (⟨#[]⟩ : ByteArray))).setCell ⟨gb158, 2, none⟩ (.bool false)).setCell ⟨gb158, 3, none⟩ (.slice none 0 0)).setCell ⟨gb158, 4, none⟩ (.slice none 0 0)).setCell ⟨gb158, 5, none⟩ (.int .i64 0))) ?hg ?ho ?hn ?hr ?_;(case ho => rfl);(case hg => rfl);(case hn => rfl);(case hr => first|(go_simp;done)|(go_simp;rfl));intro w13 hw;have n0_ : Aside0 (w13.heap[gb158]? = some (.cells #[.int .i64 9, .string (⟨#[]⟩ : ByteArray), .bool false, .slice none 0 0, .slice none 0 0, .int .i64 0] 33 (0, 0))) := ⟨(by rw [hw];exact (by (with_reducible repeat (first|refine blk_drewN ?_ _|refine blk_drew ?_|refine blk_alloc ?_ _));refine blk_put (cs := #[.int .i64 9, .string (⟨#[]⟩ : ByteArray), .bool false, .slice none 0 0, .slice none 0 0, .int .i64 0]) ?_ 5 _ rfl;(with_reducible repeat (first|refine blk_drewN ?_ _|refine blk_drew ?_|refine blk_alloc ?_ _));refine blk_put (cs := #[.int .i64 9, .string (⟨#[]⟩ : ByteArray), .bool false, .slice none 0 0, .slice none 0 0, .int .i64 0]) ?_ 4 _ rfl;(with_reducible repeat (first|refine blk_drewN ?_ _|refine blk_drew ?_|refine blk_alloc ?_ _));refine blk_put (cs := #[.int .i64 9, .string (⟨#[]⟩ : ByteArray), .bool false, .slice none 0 0, .slice none 0 0, .int .i64 0]) ?_ 3 _ rfl;(with_reducible repeat (first|refine blk_drewN ?_ _|refine blk_drew ?_|refine blk_alloc ?_ _));refine blk_put (cs := #[.int .i64 9, .string (⟨#[]⟩ : ByteArray), .bool false, .slice none 0 0, .slice none 0 0, .int .i64 0]) ?_ 2 _ rfl;(with_reducible repeat (first|refine blk_drewN ?_ _|refine blk_drew ?_|refine blk_alloc ?_ _));refine blk_put (cs := #[.int .i64 9, .string (⟨#[]⟩ : ByteArray), .bool false, .slice none 0 0, .slice none 0 0, .int .i64 0]) ?_ 1 _ rfl;(with_reducible repeat (first|refine blk_drewN ?_ _|refine blk_drew ?_|refine blk_alloc ?_ _));refine blk_put (cs := #[.int .i64 0, .string (⟨#[]⟩ : ByteArray), .bool false, .slice none 0 0, .slice none 0 0, .int .i64 0]) ?_ 0 _ rfl;(with_reducible repeat (first|refine blk_drewN ?_ _|refine blk_drew ?_|refine blk_alloc ?_ _));exact BK158.out))⟩;have n1_ : Aside0 (Below w.heap.size w w13) := ⟨(by rw [hw];exact (by repeat (first|(with_reducible first|exact HB.out|apply below_alloc|apply pw_below_drewN|apply below_drew1|refine below_set ?_ GE158.out)|exact HB.out)))⟩;clear hw;clear BK158;clear HB;have BK158 := n0_;have HB := n1_;clear n0_ n1_))
      refine bodyPost_ret (results_ct rfl _ _ gb158 33 #[.int .i64 9, .string (⟨#[]⟩ : ByteArray), .bool false, .slice none 0 0, .slice none 0 0, .int .i64 0] (0, 0) _ rfl (by (with_reducible repeat (first|refine blk_drewN ?_ _|refine blk_drew ?_|refine blk_alloc ?_ _));exact BK158.out) Tryd.underlying33 rfl (by kernel_rfl)) rfl ?_
      exact ⟨_, _, by first|rfl|(simp [errW_none, errW_some] <;> rfl)|(simp [*, errW_none, errW_some] <;> rfl), Kd.V_nil _ _ _ _ _, by first|exact Kd.R_nil _ _ _ _ _|exact Kd.N_nil _ _ _ _ _|exact Kd.V_nil _ _ _ _ _|exact Kd.Q_nil _ _ _ _ _|exact Kd.S_nil _ _ _ _ _, by repeat (first|(with_reducible first|exact HB.out|apply below_alloc|apply pw_below_drewN|apply below_drew1|refine below_set ?_ GE158.out)|exact HB.out)⟩
     ·rw [if_neg c11] at H
      have c11b0 : (a0.toList == ([35, 102, 97, 108, 115, 101] : List UInt8)) = false := beq_eq_false_iff_ne.mpr c11
      have c11b1 : (a0.toList != ([35, 102, 97, 108, 115, 101] : List UInt8)) = true := bne_iff_ne.mpr c11
      replace H := Option.bind_eq_some_iff.mp H
      obtain ⟨⟨t159, t160, t163⟩, A140, H⟩ := H
      replace H : (if t163 = true then (some (7, (⟨#[]⟩ : ByteArray), t159, t160, ([] : List (S33)), 0, true)) else (if a0.size ≤ 9223372036854775807 then ((utf_Decode.f kj1 (bytesOf a0)).bind fun bt168 => ((strings_HasPrefix.f a0 (⟨#[43]⟩ : ByteArray)).bind fun t173 => (if t173 = true then (token_Atom.j1 kj1 a0 bt168.1 bt168.2.2 true) else ((strings_HasPrefix.f a0 (⟨#[45]⟩ : ByteArray)).bind fun t174 => (token_Atom.j1 kj1 a0 bt168.1 bt168.2.2 t174))))) else (none))) = some (r1, r2, r3, r4, r5, r6, r7) := H
      have A14 := Aside0.mk A140
      clear A140
      by_cases c15 : t163 = true
      ·subst c15
       have H1 : (some (7, (⟨#[]⟩ : ByteArray), t159, t160, ([] : List (S33)), 0, true)) = some (r1, r2, r3, r4, r5, r6, r7) := by rw [if_pos rfl] at H; exact H
       clear H
       have H := H1
       clear H1
       simp only [Option.some.injEq, Prod.mk.injEq] at H
       obtain ⟨rfl, rfl, rfl, rfl, rfl, rfl, rfl⟩ := H
       go_wp2_with (first|((with_reducible refine gate_callee (f := 16) rfl ?_);refine goesL_ (some 21) rfl rfl Tryd.func16 (by kernel_rfl) rfl #[.string a0] rfl (by (try simp only [List.map_toArray, List.map_cons, List.map_nil]);first|done|rfl|(simp only [List.length_drop, List.length_take];rfl)) ?_;(with_reducible refine (num_Parse.calls kj1 a0 t159 t160 true _ A14.out).mono ?_);rintro e w16 ⟨v161, rfl, ho0, hb⟩;refine ⟨_, rfl, ?_⟩;have n0_ := Aside0.mk (Kd.V_lower (Kd.V_mono (ok' := fun k_ => (w.heap.size ≤ k_) ∧ k_ ≠ gb158) ho0 (fun k_ hk_ => ⟨(Nat.le_trans (below_size (by repeat (first|(with_reducible first|exact HB.out|apply below_alloc|apply pw_below_drewN|apply below_drew1|refine below_set ?_ GE158.out)|exact HB.out))) hk_), (Kd.freshB (g := gb158) (o := .cells #[.int .i64 0, .string (⟨#[]⟩ : ByteArray), .bool false, .slice none 0 0, .slice none 0 0, .int .i64 0] 33 (0, 0)) (by (with_reducible repeat (first|refine blk_drewN ?_ _|refine blk_drew ?_|refine blk_alloc ?_ _));exact BK158.out) k_ hk_)⟩)) (below_size (by repeat (first|(with_reducible first|exact HB.out|apply below_alloc|apply pw_below_drewN|apply below_drew1|refine below_set ?_ GE158.out)|exact HB.out))));have n1_ := Aside0.mk (blk_below (g := gb158) (o := .cells #[.int .i64 0, .string (⟨#[]⟩ : ByteArray), .bool false, .slice none 0 0, .slice none 0 0, .int .i64 0] 33 (0, 0)) (by (with_reducible repeat (first|refine blk_drewN ?_ _|refine blk_drew ?_|refine blk_alloc ?_ _));exact BK158.out) hb);have n2_ := Aside0.mk (below_step (by repeat (first|(with_reducible first|exact HB.out|apply below_alloc|apply pw_below_drewN|apply below_drew1|refine below_set ?_ GE158.out)|exact HB.out)) hb);clear BK158;clear HB;have HO162 := n0_;have BK158 := n1_;have HB := n2_;clear n0_ n1_ n2_;(try clear hb);(try clear hb2);(try clear hk);(try clear hi);(try clear ho0))|((with_reducible refine gate_dst (N := 4) rfl ?_);(try (refine gate_guard (by rfl) ?_;dsimp only));refine box_event ?hg (N := 4) ?hd (cs := #[.bool false, .slice none 0 0]) (t := 30) ?hr ?_;(case hd => rfl);(case hg => rfl);(case hr => first|(go_simp;done)|(go_simp;rfl));intro gb164 hg w17 hbox hb;have n0_ := Aside0.mk (Kd.V_below (Kd.V_elderB (by (with_reducible repeat (first|apply Kd.V_alloc|apply Kd.V_drewN|apply Kd.V_drew));exact HO162.out) gb164 (Nat.le_of_eq hg.symm)) hb);have n1_ := Aside0.mk (blk_below (g := gb158) (o := .cells #[.int .i64 0, .string (⟨#[]⟩ : ByteArray), .bool false, .slice none 0 0, .slice none 0 0, .int .i64 0] 33 (0, 0)) (by (with_reducible repeat (first|refine blk_drewN ?_ _|refine blk_drew ?_|refine blk_alloc ?_ _));exact BK158.out) hb);have n2_ := Aside0.mk (below_step (by repeat (first|(with_reducible first|exact HB.out|apply below_alloc|apply pw_below_drewN|apply below_drew1|refine below_set ?_ GE158.out)|exact HB.out)) hb);have n3_ := Aside0.mk (hbox);have n4_ := Aside0.mk ((by rw [hg];exact (below_size (by repeat (first|(with_reducible first|exact HB.out|apply below_alloc|apply pw_below_drewN|apply below_drew1|refine below_set ?_ GE158.out)|exact HB.out))) : w.heap.size ≤ gb164));have n5_ := Aside0.mk ((by rw [hg];exact (below_size (by repeat (first|(with_reducible first|exact HB.out|apply below_alloc|apply pw_below_drewN|apply below_drew1|refine below_set ?_ GE158.out)|exact HB.out))) : w.heap.size ≤ gb164));have n6_ := Aside0.mk ((by rw [hg];exact Nat.ne_of_lt (blk_lt (g := gb158) (o := .cells #[.int .i64 0, .string (⟨#[]⟩ : ByteArray), .bool false, .slice none 0 0, .slice none 0 0, .int .i64 0] 33 (0, 0)) (by (with_reducible repeat (first|refine blk_drewN ?_ _|refine blk_drew ?_|refine blk_alloc ?_ _));exact BK158.out)) : gb158 ≠ gb164));have n7_ := Aside0.mk ((by rw [hg];exact Nat.ne_of_gt (blk_lt (g := gb158) (o := .cells #[.int .i64 0, .string (⟨#[]⟩ : ByteArray), .bool false, .slice none 0 0, .slice none 0 0, .int .i64 0] 33 (0, 0)) (by (with_reducible repeat (first|refine blk_drewN ?_ _|refine blk_drew ?_|refine blk_alloc ?_ _));exact BK158.out)) : gb164 ≠ gb158));clear HO162;clear BK158;clear HB;have HO162 := n0_;have BK158 := n1_;have HB := n2_;have BK164 := n3_;have GW164 := n4_;have GE164 := n5_;have NB158_164 := n6_;have NB164_158 := n7_;clear n0_ n1_ n2_ n3_ n4_ n5_ n6_ n7_;clear hb hbox hg;have hnb18 := NB164_158.out;have hnc18 := NB158_164.out;have hcz19_0 : w17.cell? ⟨gb164, 0, none⟩ = some (.bool false) := (blk_cell BK164.out 0).trans rfl;have hcz19_1 : w17.cell? ⟨gb164, 1, none⟩ = some (.slice none 0 0) := (blk_cell BK164.out 1).trans rfl;have hfz19_0 := blk_frozen BK164.out 0;have hfz19_1 := blk_frozen BK164.out 1;obtain ⟨Ao20, co20, eo20⟩ := Kd.V_slice HO162.out;subst eo20;have hcz21_0 : w17.cell? ⟨gb158, 0, none⟩ = some (.int .i64 0) := (blk_cell BK158.out 0).trans rfl;have hcz21_1 : w17.cell? ⟨gb158, 1, none⟩ = some (.string (⟨#[]⟩ : ByteArray)) := (blk_cell BK158.out 1).trans rfl;have hcz21_2 : w17.cell? ⟨gb158, 2, none⟩ = some (.bool false) := (blk_cell BK158.out 2).trans rfl;have hcz21_3 : w17.cell? ⟨gb158, 3, none⟩ = some (.slice none 0 0) := (blk_cell BK158.out 3).trans rfl;have hcz21_4 : w17.cell? ⟨gb158, 4, none⟩ = some (.slice none 0 0) := (blk_cell BK158.out 4).trans rfl;have hcz21_5 : w17.cell? ⟨gb158, 5, none⟩ = some (.int .i64 0) := (blk_cell BK158.out 5).trans rfl;have hfz21_0 := blk_frozen BK158.out 0;have hfz21_1 := blk_frozen BK158.out 1;have hfz21_2 := blk_frozen BK158.out 2;have hfz21_3 := blk_frozen BK158.out 3;have hfz21_4 := blk_frozen BK158.out 4;have hfz21_5 := blk_frozen BK158.out 5)|((with_reducible refine gate_store (t := 33) (p := 2) rfl ?_);refine store_event (t := 33) (p := 2) (v := ?vo_w22) (w1 := ((((((((w17.setCell ⟨gb164, 0, none⟩ (.bool t159)).setCell ⟨gb164, 1, none⟩ (.slice Ao20 t160.length co20)).setCell ⟨gb158, 0, none⟩ (.int .i64 7)).setCell ⟨gb158, 1, none⟩ (.string (⟨#[]⟩ : ByteArray))).setCell ⟨gb158, 2, none⟩ (.bool t159)).setCell ⟨gb158, 3, none⟩ (.slice Ao20 t160.length co20)).setCell ⟨gb158, 4, none⟩ (.slice none 0 0)).setCell ⟨gb158, 5, none⟩ (.int .i64 0))) ?hg ?ho ?hn ?hr ?_;(case ho => rfl);(case hg => rfl);(case hn => rfl);(case hr => first|(go_simp;done)|(go_simp;rfl));intro w22 hw;have n0_ : Aside0 (Kd.V (Kd.int .u32) 73 w22 w.heap.size (fun k_ => (w.heap.size ≤ k_) ∧ k_ ≠ gb158 ∧ k_ ≠ gb164) (.slice Ao20 t160.length co20) t160) := ⟨(by rw [hw];exact (by (with_reducible repeat (first|apply Kd.V_alloc|apply Kd.V_drewN|apply Kd.V_drew));exact Kd.V_mono (Kd.V_far (p := ⟨gb158, 5, none⟩) (Kd.V_far (p := ⟨gb158, 4, none⟩) (Kd.V_far (p := ⟨gb158, 3, none⟩) (Kd.V_far (p := ⟨gb158, 2, none⟩) (Kd.V_far (p := ⟨gb158, 1, none⟩) (Kd.V_far (p := ⟨gb158, 0, none⟩) (Kd.V_far (p := ⟨gb164, 1, none⟩) (Kd.V_far (p := ⟨gb164, 0, none⟩) (Kd.V_mono (Kd.V_mono HO162.out (fun k_ hk => (⟨hk, hk.2⟩ : _ ∧ k_ ≠ gb164))) (fun k_ hk => (⟨hk, hk.1.1.2⟩ : _ ∧ k_ ≠ gb158))) (fun _ hk => hk.1.2) (.bool t159)) (fun _ hk => hk.1.2) (.slice Ao20 t160.length co20)) (fun _ hk => hk.2) (.int .i64 7)) (fun _ hk => hk.2) (.string (⟨#[]⟩ : ByteArray))) (fun _ hk => hk.2) (.bool t159)) (fun _ hk => hk.2) (.slice Ao20 t160.length co20)) (fun _ hk => hk.2) (.slice none 0 0)) (fun _ hk => hk.2) (.int .i64 0)) (fun _ hk => ⟨hk.1.1.1.1, ⟨hk.1.1.1.2, hk.1.1.2⟩⟩)))⟩;have n1_ : Aside0 (w22.heap[gb158]? = some (.cells #[.int .i64 7, .string (⟨#[]⟩ : ByteArray), .bool t159, .slice Ao20 t160.length co20, .slice none 0 0, .int .i64 0] 33 (0, 0))) := ⟨(by rw [hw];exact (by (with_reducible repeat (first|refine blk_drewN ?_ _|refine blk_drew ?_|refine blk_alloc ?_ _));refine blk_put (cs := #[.int .i64 7, .string (⟨#[]⟩ : ByteArray), .bool t159, .slice Ao20 t160.length co20, .slice none 0 0, .int .i64 0]) ?_ 5 _ rfl;(with_reducible repeat (first|refine blk_drewN ?_ _|refine blk_drew ?_|refine blk_alloc ?_ _));refine blk_put (cs := #[.int .i64 7, .string (⟨#[]⟩ : ByteArray), .bool t159, .slice Ao20 t160.length co20, .slice none 0 0, .int .i64 0]) ?_ 4 _ rfl;(with_reducible repeat (first|refine blk_drewN ?_ _|refine blk_drew ?_|refine blk_alloc ?_ _));refine blk_put (cs := #[.int .i64 7, .string (⟨#[]⟩ : ByteArray), .bool t159, .slice none 0 0, .slice none 0 0, .int .i64 0]) ?_ 3 _ rfl;(with_reducible repeat (first|refine blk_drewN ?_ _|refine blk_drew ?_|refine blk_alloc ?_ _));refine blk_put (cs := #[.int .i64 7, .string (⟨#[]⟩ : ByteArray), .bool false, .slice none 0 0, .slice none 0 0, .int .i64 0]) ?_ 2 _ rfl;(with_reducible repeat (first|refine blk_drewN ?_ _|refine blk_drew ?_|refine blk_alloc ?_ _));refine blk_put (cs := #[.int .i64 7, .string (⟨#[]⟩ : ByteArray), .bool false, .slice none 0 0, .slice none 0 0, .int .i64 0]) ?_ 1 _ rfl;(with_reducible repeat (first|refine blk_drewN ?_ _|refine blk_drew ?_|refine blk_alloc ?_ _));refine blk_put (cs := #[.int .i64 0, .string (⟨#[]⟩ : ByteArray), .bool false, .slice none 0 0, .slice none 0 0, .int .i64 0]) ?_ 0 _ rfl;(with_reducible repeat (first|refine blk_drewN ?_ _|refine blk_drew ?_|refine blk_alloc ?_ _));refine blk_far ?_ NB158_164.out _;(with_reducible repeat (first|refine blk_drewN ?_ _|refine blk_drew ?_|refine blk_alloc ?_ _));refine blk_far ?_ NB158_164.out _;(with_reducible repeat (first|refine blk_drewN ?_ _|refine blk_drew ?_|refine blk_alloc ?_ _));exact BK158.out))⟩;have n2_ : Aside0 (w22.heap[gb164]? = some (.cells #[.bool t159, .slice Ao20 t160.length co20] 30 (0, 0))) := ⟨(by rw [hw];exact (by (with_reducible repeat (first|refine blk_drewN ?_ _|refine blk_drew ?_|refine blk_alloc ?_ _));refine blk_far ?_ NB164_158.out _;(with_reducible repeat (first|refine blk_drewN ?_ _|refine blk_drew ?_|refine blk_alloc ?_ _));refine blk_far ?_ NB164_158.out _;(with_reducible repeat (first|refine blk_drewN ?_ _|refine blk_drew ?_|refine blk_alloc ?_ _));refine blk_far ?_ NB164_158.out _;(with_reducible repeat (first|refine blk_drewN ?_ _|refine blk_drew ?_|refine blk_alloc ?_ _));refine blk_far ?_ NB164_158.out _;(with_reducible repeat (first|refine blk_drewN ?_ _|refine blk_drew ?_|refine blk_alloc ?_ _));refine blk_far ?_ NB164_158.out _;(with_reducible repeat (first|refine blk_drewN ?_ _|refine blk_drew ?_|refine blk_alloc ?_ _));refine blk_far ?_ NB164_158.out _;(with_reducible repeat (first|refine blk_drewN ?_ _|refine blk_drew ?_|refine blk_alloc ?_ _));refine blk_put (cs := #[.bool t159, .slice none 0 0]) ?_ 1 _ rfl;(with_reducible repeat (first|refine blk_drewN ?_ _|refine blk_drew ?_|refine blk_alloc ?_ _));refine blk_put (cs := #[.bool false, .slice none 0 0]) ?_ 0 _ rfl;(with_reducible repeat (first|refine blk_drewN ?_ _|refine blk_drew ?_|refine blk_alloc ?_ _));exact BK164.out))⟩;have n3_ : Aside0 (Below w.heap.size w w22) := ⟨(by rw [hw];exact (by repeat (first|(with_reducible first|exact HB.out|apply below_alloc|apply pw_below_drewN|apply below_drew1|refine below_set ?_ GE158.out|refine below_set ?_ GE164.out)|exact HB.out)))⟩;clear hw;clear HO162;clear BK158;clear BK164;clear HB;have HO162 := n0_;have BK158 := n1_;have BK164 := n2_;have HB := n3_;clear n0_ n1_ n2_ n3_))
       refine bodyPost_ret (results_ct rfl _ _ gb158 33 #[.int .i64 7, .string (⟨#[]⟩ : ByteArray), .bool t159, .slice Ao20 t160.length co20, .slice none 0 0, .int .i64 0] (0, 0) _ rfl (by (with_reducible repeat (first|refine blk_drewN ?_ _|refine blk_drew ?_|refine blk_alloc ?_ _));exact BK158.out) Tryd.underlying33 rfl (by kernel_rfl)) rfl ?_
       exact ⟨_, _, by first|rfl|(simp [errW_none, errW_some] <;> rfl)|(simp [*, errW_none, errW_some] <;> rfl), by (with_reducible repeat (first|apply Kd.V_alloc|apply Kd.V_drewN|apply Kd.V_drew));exact Kd.V_mono HO162.out (fun _ hk => ⟨hk.1, (by simp [Value.ownBlock])⟩), by first|exact Kd.R_nil _ _ _ _ _|exact Kd.N_nil _ _ _ _ _|exact Kd.V_nil _ _ _ _ _|exact Kd.Q_nil _ _ _ _ _|exact Kd.S_nil _ _ _ _ _, by repeat (first|(with_reducible first|exact HB.out|apply below_alloc|apply pw_below_drewN|apply below_drew1|refine below_set ?_ GE158.out|refine below_set ?_ GE164.out)|exact HB.out)⟩
      ·replace c15 := Bool.eq_false_iff.mpr c15
       subst c15
       have H1 : (if a0.size ≤ 9223372036854775807 then ((utf_Decode.f kj1 (bytesOf a0)).bind fun bt168 => ((strings_HasPrefix.f a0 (⟨#[43]⟩ : ByteArray)).bind fun t173 => (if t173 = true then (token_Atom.j1 kj1 a0 bt168.1 bt168.2.2 true) else ((strings_HasPrefix.f a0 (⟨#[45]⟩ : ByteArray)).bind fun t174 => (token_Atom.j1 kj1 a0 bt168.1 bt168.2.2 t174))))) else (none)) = some (r1, r2, r3, r4, r5, r6, r7) := by rw [if_neg (show ¬ (false = true) by decide)] at H; exact H
       clear H
       have H := H1
       clear H1
       by_cases c23 : a0.size ≤ 9223372036854775807
       ·rw [if_pos c23] at H
        have c23b0 := eq_true c23
        have c23b1 : decide (a0.size ≤ 9223372036854775807) = true := decide_eq_true c23
        try have c23b2 : (9223372036854775807 < a0.size) = False := eq_false (Nat.not_lt.2 c23)
        clear c23
        obtain ⟨y165, hy165⟩ : ∃ y_ : List Int, y_ = (bytesOf a0) := ⟨_, rfl⟩
        replace H : ((utf_Decode.f kj1 y165).bind fun bt168 => ((strings_HasPrefix.f a0 (⟨#[43]⟩ : ByteArray)).bind fun t173 => (if t173 = true then (token_Atom.j1 kj1 a0 bt168.1 bt168.2.2 true) else ((strings_HasPrefix.f a0 (⟨#[45]⟩ : ByteArray)).bind fun t174 => (token_Atom.j1 kj1 a0 bt168.1 bt168.2.2 t174))))) = some (r1, r2, r3, r4, r5, r6, r7) := by first | (rw [hy165]; with_reducible exact H) | (have H2_ := (Option.bind_some _ _).symm.trans H; rw [hy165]; with_reducible exact H2_) | (have H2_ := (Option.bind_some _ _).symm.trans H; with_reducible exact H2_) | with_reducible exact H | (rw [hy165]; exact H) | exact H
        have Ny165 := Aside0.mk hy165
        clear hy165
        replace H := Option.bind_eq_some_iff.mp H
        obtain ⟨⟨t168, t169, t170⟩, A240, H⟩ := H
        replace H : ((strings_HasPrefix.f a0 (⟨#[43]⟩ : ByteArray)).bind fun t173 => (if t173 = true then (token_Atom.j1 kj1 a0 t168 t170 true) else ((strings_HasPrefix.f a0 (⟨#[45]⟩ : ByteArray)).bind fun t174 => (token_Atom.j1 kj1 a0 t168 t170 t174)))) = some (r1, r2, r3, r4, r5, r6, r7) := H
        have A24 := Aside0.mk A240
        clear A240
        have HC25 := Aside0.mk H
        clear H
        go_upto_region 12 with (first|((with_reducible refine gate_callee (f := 16) rfl ?_);refine goesL_ (some 21) rfl rfl Tryd.func16 (by kernel_rfl) rfl #[.string a0] rfl (by (try simp only [List.map_toArray, List.map_cons, List.map_nil]);first|done|rfl|(simp only [List.length_drop, List.length_take];rfl)) ?_;(with_reducible refine (num_Parse.calls kj1 a0 t159 t160 false _ A14.out).mono ?_);rintro e w26 ⟨v161, rfl, ho0, hb⟩;refine ⟨_, rfl, ?_⟩;have n0_ := Aside0.mk (Kd.V_lower (Kd.V_mono (ok' := fun k_ => (w.heap.size ≤ k_) ∧ k_ ≠ gb158) ho0 (fun k_ hk_ => ⟨(Nat.le_trans (below_size (by repeat (first|(with_reducible first|exact HB.out|apply below_alloc|apply pw_below_drewN|apply below_drew1|refine below_set ?_ GE158.out)|exact HB.out))) hk_), (Kd.freshB (g := gb158) (o := .cells #[.int .i64 0, .string (⟨#[]⟩ : ByteArray), .bool false, .slice none 0 0, .slice none 0 0, .int .i64 0] 33 (0, 0)) (by (with_reducible repeat (first|refine blk_drewN ?_ _|refine blk_drew ?_|refine blk_alloc ?_ _));exact BK158.out) k_ hk_)⟩)) (below_size (by repeat (first|(with_reducible first|exact HB.out|apply below_alloc|apply pw_below_drewN|apply below_drew1|refine below_set ?_ GE158.out)|exact HB.out))));have n1_ := Aside0.mk (blk_below (g := gb158) (o := .cells #[.int .i64 0, .string (⟨#[]⟩ : ByteArray), .bool false, .slice none 0 0, .slice none 0 0, .int .i64 0] 33 (0, 0)) (by (with_reducible repeat (first|refine blk_drewN ?_ _|refine blk_drew ?_|refine blk_alloc ?_ _));exact BK158.out) hb);have n2_ := Aside0.mk (below_step (by repeat (first|(with_reducible first|exact HB.out|apply below_alloc|apply pw_below_drewN|apply below_drew1|refine below_set ?_ GE158.out)|exact HB.out)) hb);clear BK158;clear HB;have HO162 := n0_;have BK158 := n1_;have HB := n2_;clear n0_ n1_ n2_;(try clear hb);(try clear hb2);(try clear hk);(try clear hi);(try clear ho0))|((with_reducible refine gate_dst (N := 4) rfl ?_);(try (refine gate_guard (by rfl) ?_;dsimp only));refine box_event ?hg (N := 4) ?hd (cs := #[.bool false, .slice none 0 0]) (t := 30) ?hr ?_;(case hd => rfl);(case hg => rfl);(case hr => first|(go_simp;done)|(go_simp;rfl));intro gb164 hg w27 hbox hb;have n0_ := Aside0.mk (Kd.V_below (Kd.V_elderB (by (with_reducible repeat (first|apply Kd.V_alloc|apply Kd.V_drewN|apply Kd.V_drew));exact HO162.out) gb164 (Nat.le_of_eq hg.symm)) hb);have n1_ := Aside0.mk (blk_below (g := gb158) (o := .cells #[.int .i64 0, .string (⟨#[]⟩ : ByteArray), .bool false, .slice none 0 0, .slice none 0 0, .int .i64 0] 33 (0, 0)) (by (with_reducible repeat (first|refine blk_drewN ?_ _|refine blk_drew ?_|refine blk_alloc ?_ _));exact BK158.out) hb);have n2_ := Aside0.mk (below_step (by repeat (first|(with_reducible first|exact HB.out|apply below_alloc|apply pw_below_drewN|apply below_drew1|refine below_set ?_ GE158.out)|exact HB.out)) hb);have n3_ := Aside0.mk (hbox);have n4_ := Aside0.mk ((by rw [hg];exact (below_size (by repeat (first|(with_reducible first|exact HB.out|apply below_alloc|apply pw_below_drewN|apply below_drew1|refine below_set ?_ GE158.out)|exact HB.out))) : w.heap.size ≤ gb164));have n5_ := Aside0.mk ((by rw [hg];exact (below_size (by repeat (first|(with_reducible first|exact HB.out|apply below_alloc|apply pw_below_drewN|apply below_drew1|refine below_set ?_ GE158.out)|exact HB.out))) : w.heap.size ≤ gb164));have n6_ := Aside0.mk ((by rw [hg];exact Nat.ne_of_lt (blk_lt (g := gb158) (o := .cells #[.int .i64 0, .string (⟨#[]⟩ : ByteArray), .bool false, .slice none 0 0, .slice none 0 0, .int .i64 0] 33 (0, 0)) (by (with_reducible repeat (first|refine blk_drewN ?_ _|refine blk_drew ?_|refine blk_alloc ?_ _));exact BK158.out)) : gb158 ≠ gb164));have n7_ := Aside0.mk ((by rw [hg];exact Nat.ne_of_gt (blk_lt (g := gb158) (o := .cells #[.int .i64 0, .string (⟨#[]⟩ : ByteArray), .bool false, .slice none 0 0, .slice none 0 0, .int .i64 0] 33 (0, 0)) (by (with_reducible repeat (first|refine blk_drewN ?_ _|refine blk_drew ?_|refine blk_alloc ?_ _));exact BK158.out)) : gb164 ≠ gb158));clear HO162;clear BK158;clear HB;have HO162 := n0_;have BK158 := n1_;have HB := n2_;have BK164 := n3_;have GW164 := n4_;have GE164 := n5_;have NB158_164 := n6_;have NB164_158 := n7_;clear n0_ n1_ n2_ n3_ n4_ n5_ n6_ n7_;clear hb hbox hg;have hnb28 := NB164_158.out;have hnc28 := NB158_164.out;have hcz29_0 : w27.cell? ⟨gb164, 0, none⟩ = some (.bool false) := (blk_cell BK164.out 0).trans rfl;have hcz29_1 : w27.cell? ⟨gb164, 1, none⟩ = some (.slice none 0 0) := (blk_cell BK164.out 1).trans rfl;have hfz29_0 := blk_frozen BK164.out 0;have hfz29_1 := blk_frozen BK164.out 1;obtain ⟨Ao30, co30, eo30⟩ := Kd.V_slice HO162.out;subst eo30)|((with_reducible refine gate_dst (N := 29) rfl ?_);(try (refine gate_guard (by rfl) ?_;dsimp only));refine Kd.V_conv (P := Tryd.prog) 9 27 5 rfl (N := 29) rfl a0 rfl (by go_simp;first|done|rfl) Tryd.underlying9 Tryd.underlying27 Tryd.underlying5 (of_decide_eq_true (by first|(with_reducible assumption)|assumption)) (Below.refl _ _) (Nat.le_refl _) ?_;intro v166 w31 ho32 hb hg_ hnew_;clear hg_ hnew_;(first|rw [← Ny165.out] at ho32|(simp only [Int.reduceToNat] at ho32;rw [← Ny165.out] at ho32));have n0_ := Aside0.mk (Kd.V_below (by (with_reducible repeat (first|apply Kd.V_alloc|apply Kd.V_drewN|apply Kd.V_drew));exact (Kd.V_mono (Kd.V_far (p := ⟨gb164, 1, none⟩) (Kd.V_far (p := ⟨gb164, 0, none⟩) (Kd.V_mono HO162.out (fun k_ hk => (⟨hk, hk.2⟩ : _ ∧ k_ ≠ gb164))) (fun _ hk => hk.2) (.bool t159)) (fun _ hk => hk.2) (.slice Ao30 t160.length co30)) (fun _ h_ => h_.1))) hb);have n1_ := Aside0.mk (Kd.V_lower (Kd.V_mono (ok' := fun k_ => (w.heap.size ≤ k_) ∧ k_ ≠ gb158 ∧ k_ ≠ gb164) ho32 (fun k_ hk_ => ⟨(Nat.le_trans (below_size (by repeat (first|(with_reducible first|exact HB.out|apply below_alloc|apply pw_below_drewN|apply below_drew1|refine below_set ?_ GE158.out|refine below_set ?_ GE164.out)|exact HB.out))) hk_), (Kd.freshB (g := gb158) (o := .cells #[.int .i64 0, .string (⟨#[]⟩ : ByteArray), .bool false, .slice none 0 0, .slice none 0 0, .int .i64 0] 33 (0, 0)) (by (with_reducible repeat (first|refine blk_drewN ?_ _|refine blk_drew ?_|refine blk_alloc ?_ _));refine blk_far ?_ NB158_164.out _;(with_reducible repeat (first|refine blk_drewN ?_ _|refine blk_drew ?_|refine blk_alloc ?_ _));refine blk_far ?_ NB158_164.out _;(with_reducible repeat (first|refine blk_drewN ?_ _|refine blk_drew ?_|refine blk_alloc ?_ _));exact BK158.out) k_ hk_), (Kd.freshB (g := gb164) (o := .cells #[.bool t159, .slice Ao30 t160.length co30] 30 (0, 0)) (by (with_reducible repeat (first|refine blk_drewN ?_ _|refine blk_drew ?_|refine blk_alloc ?_ _));refine blk_put (cs := #[.bool t159, .slice none 0 0]) ?_ 1 _ rfl;(with_reducible repeat (first|refine blk_drewN ?_ _|refine blk_drew ?_|refine blk_alloc ?_ _));refine blk_put (cs := #[.bool false, .slice none 0 0]) ?_ 0 _ rfl;(with_reducible repeat (first|refine blk_drewN ?_ _|refine blk_drew ?_|refine blk_alloc ?_ _));exact BK164.out) k_ hk_)⟩)) (below_size (by repeat (first|(with_reducible first|exact HB.out|apply below_alloc|apply pw_below_drewN|apply below_drew1|refine below_set ?_ GE158.out|refine below_set ?_ GE164.out)|exact HB.out))));have n2_ := Aside0.mk (blk_below (g := gb158) (o := .cells #[.int .i64 0, .string (⟨#[]⟩ : ByteArray), .bool false, .slice none 0 0, .slice none 0 0, .int .i64 0] 33 (0, 0)) (by (with_reducible repeat (first|refine blk_drewN ?_ _|refine blk_drew ?_|refine blk_alloc ?_ _));refine blk_far ?_ NB158_164.out _;(with_reducible repeat (first|refine blk_drewN ?_ _|refine blk_drew ?_|refine blk_alloc ?_ _));refine blk_far ?_ NB158_164.out _;(with_reducible repeat (first|refine blk_drewN ?_ _|refine blk_drew ?_|refine blk_alloc ?_ _));exact BK158.out) hb);have n3_ := Aside0.mk (blk_below (g := gb164) (o := .cells #[.bool t159, .slice Ao30 t160.length co30] 30 (0, 0)) (by (with_reducible repeat (first|refine blk_drewN ?_ _|refine blk_drew ?_|refine blk_alloc ?_ _));refine blk_put (cs := #[.bool t159, .slice none 0 0]) ?_ 1 _ rfl;(with_reducible repeat (first|refine blk_drewN ?_ _|refine blk_drew ?_|refine blk_alloc ?_ _));refine blk_put (cs := #[.bool false, .slice none 0 0]) ?_ 0 _ rfl;(with_reducible repeat (first|refine blk_drewN ?_ _|refine blk_drew ?_|refine blk_alloc ?_ _));exact BK164.out) hb);have n4_ := Aside0.mk (below_step (by repeat (first|(with_reducible first|exact HB.out|apply below_alloc|apply pw_below_drewN|apply below_drew1|refine below_set ?_ GE158.out|refine below_set ?_ GE164.out)|exact HB.out)) hb);clear HO162;clear BK158;clear BK164;clear HB;have HO162 := n0_;have HO167 := n1_;have BK158 := n2_;have BK164 := n3_;have HB := n4_;clear n0_ n1_ n2_ n3_ n4_;clear hb ho32;obtain ⟨Ao33, co33, eo33⟩ := Kd.V_slice HO167.out;subst eo33)|((with_reducible refine gate_callee (f := 17) rfl ?_);refine goesL_ (some 30) rfl rfl Tryd.func17 (by kernel_rfl) rfl #[.slice Ao33 y165.length co33] rfl (by (try simp only [List.map_toArray, List.map_cons, List.map_nil]);first|done|rfl|(simp only [List.length_drop, List.length_take];rfl)) ?_;(with_reducible refine (utf_Decode.calls kj1 _ _ y165 t168 t169 t170 _ ?side1 ?side2 ?side3 A24.out).mono ?_);(case side1 => exact LD.below HLD.out (by repeat (first|(with_reducible first|exact HB.out|apply below_alloc|apply pw_below_drewN|apply below_drew1|refine below_set ?_ GE158.out|refine below_set ?_ GE164.out)|exact HB.out)));(case side2 => repeat (first|exact (Kd.V_reads' HO167.out).2.2|(with_reducible refine Kd.C_alloc ?_ _)|(with_reducible refine Kd.C_drewN ?_ _)|(with_reducible refine Kd.C_drew ?_)));(case side3 => exact (Kd.V_reads' HO167.out).2.1);rintro e w34 ⟨v171, rfl, ho0, hb⟩;refine ⟨_, rfl, ?_⟩;have n0_ := Aside0.mk (Kd.V_elder' (by (with_reducible repeat (first|apply Kd.V_alloc|apply Kd.V_drewN|apply Kd.V_drew));exact HO162.out) (Kd.R_base ho0) hb);have n1_ := Aside0.mk (Kd.V_elder' (by (with_reducible repeat (first|apply Kd.V_alloc|apply Kd.V_drewN|apply Kd.V_drew));exact HO167.out) (Kd.R_base ho0) hb);have n2_ := Aside0.mk (Kd.R_lower (Kd.R_newM (M := fun k_ => (w.heap.size ≤ k_)) ho0 (below_size (by repeat (first|(with_reducible first|exact HB.out|apply below_alloc|apply pw_below_drewN|apply below_drew1|refine below_set ?_ GE158.out|refine below_set ?_ GE164.out)|exact HB.out))) (fun k_ h_ => h_)) (below_size (by repeat (first|(with_reducible first|exact HB.out|apply below_alloc|apply pw_below_drewN|apply below_drew1|refine below_set ?_ GE158.out|refine below_set ?_ GE164.out)|exact HB.out))));have n3_ := Aside0.mk (blk_below (g := gb158) (o := .cells #[.int .i64 0, .string (⟨#[]⟩ : ByteArray), .bool false, .slice none 0 0, .slice none 0 0, .int .i64 0] 33 (0, 0)) (by (with_reducible repeat (first|refine blk_drewN ?_ _|refine blk_drew ?_|refine blk_alloc ?_ _));exact BK158.out) hb);have n4_ := Aside0.mk (blk_below (g := gb164) (o := .cells #[.bool t159, .slice Ao30 t160.length co30] 30 (0, 0)) (by (with_reducible repeat (first|refine blk_drewN ?_ _|refine blk_drew ?_|refine blk_alloc ?_ _));exact BK164.out) hb);have n5_ := Aside0.mk (below_step (by repeat (first|(with_reducible first|exact HB.out|apply below_alloc|apply pw_below_drewN|apply below_drew1|refine below_set ?_ GE158.out|refine below_set ?_ GE164.out)|exact HB.out)) hb);clear HO162;clear HO167;clear BK158;clear BK164;clear HB;have HO162 := n0_;have HO167 := n1_;have HO172 := n2_;have BK158 := n3_;have BK164 := n4_;have HB := n5_;clear n0_ n1_ n2_ n3_ n4_ n5_;(try clear hb);(try clear hb2);(try clear hk);(try clear hi);(try clear ho0)))
        (try simp only [Act.put, List.setIfInBounds_toArray, List.set_cons_zero, List.set_cons_succ])
        go_cut [9] (fun v9 wc => ∃ (kq : Nat) (x9_24 : Bool), v9 = .bool x9_24 ∧ Aside0 (token_Atom.j1 kq a0 t168 t170 x9_24 = some (r1, r2, r3, r4, r5, r6, r7)) ∧ Aside0 (kq ≤ kj1) ∧ Aside0 (Kd.R (Kd.int .i64) 3 wc w.heap.size (fun k_ => (w.heap.size ≤ k_)) v171 t168) ∧ Aside0 (Kd.V (Kd.int .u32) 73 wc w.heap.size (fun k_ => (w.heap.size ≤ k_) ∧ some k_ ≠ (v171 : Value).ownBlock ∧ k_ ≠ gb158 ∧ k_ ≠ gb164) (.slice Ao30 t160.length co30) t160) ∧ Aside0 (wc.heap[gb158]? = some (.cells #[.int .i64 0, .string (⟨#[]⟩ : ByteArray), .bool false, (.slice none 0 0), (.slice none 0 0), .int .i64 0] 33 (0, 0))) ∧ Aside0 (wc.heap[gb164]? = some (.cells #[.bool t159, (.slice Ao30 t160.length co30)] 30 (0, 0))) ∧ Aside0 (Below w.heap.size w wc))
        case first =>
         have H := HC25.out
         clear HC25
         replace H := Option.bind_eq_some_iff.mp H
         obtain ⟨t173, A350, H⟩ := H
         replace H : (if t173 = true then (token_Atom.j1 kj1 a0 t168 t170 true) else ((strings_HasPrefix.f a0 (⟨#[45]⟩ : ByteArray)).bind fun t174 => (token_Atom.j1 kj1 a0 t168 t170 t174))) = some (r1, r2, r3, r4, r5, r6, r7) := H
         have A35 := Aside0.mk A350
         clear A350
         by_cases c36 : t173 = true
         ·subst c36
          have H1 : (token_Atom.j1 kj1 a0 t168 t170 true) = some (r1, r2, r3, r4, r5, r6, r7) := by rw [if_pos rfl] at H; exact H
          clear H
          have H := H1
          clear H1
          have H' := Aside0.mk H
          clear H
          go_wp2_with (first|((with_reducible refine gate_callee (f := 18) rfl ?_);refine goesL_ (some 35) rfl rfl Tryd.func18 (by kernel_rfl) rfl #[.string a0, .string (⟨#[43]⟩ : ByteArray)] rfl (by (try simp only [List.map_toArray, List.map_cons, List.map_nil]);first|done|rfl|(simp only [List.length_drop, List.length_take];rfl)) ?_;(with_reducible refine (strings_HasPrefix.calls a0 (⟨#[43]⟩ : ByteArray) true _ A35.out).mono ?_);rintro e w' ⟨rfl, ⟨nd, rfl⟩⟩;refine ⟨_, rfl, ?_⟩))
          go_meet
          case rel => exact ⟨_, (true), (by first|rfl|(simp;done)|(simp [*];done)), H', ⟨by have := HJ1.out;first|omega|exact Nat.le_refl _⟩, ⟨by (with_reducible repeat (first|apply Kd.R_alloc|apply Kd.R_drewN|apply Kd.R_drew));exact Kd.R_mono HO172.out (fun _ hk => hk.1)⟩, ⟨by (with_reducible repeat (first|apply Kd.V_alloc|apply Kd.V_drewN|apply Kd.V_drew));exact Kd.V_mono HO162.out (fun _ hk => ⟨hk.1.1.1, ⟨hk.2, ⟨hk.1.1.2, hk.1.2⟩⟩⟩)⟩, ⟨by (with_reducible repeat (first|refine blk_drewN ?_ _|refine blk_drew ?_|refine blk_alloc ?_ _));exact BK158.out⟩, ⟨by (with_reducible repeat (first|refine blk_drewN ?_ _|refine blk_drew ?_|refine blk_alloc ?_ _));exact BK164.out⟩, ⟨by repeat (first|(with_reducible first|exact HB.out|apply below_alloc|apply pw_below_drewN|apply below_drew1|refine below_set ?_ GE158.out|refine below_set ?_ GE164.out)|exact HB.out)⟩⟩
         ·replace c36 := Bool.eq_false_iff.mpr c36
          subst c36
          have H1 : ((strings_HasPrefix.f a0 (⟨#[45]⟩ : ByteArray)).bind fun t174 => (token_Atom.j1 kj1 a0 t168 t170 t174)) = some (r1, r2, r3, r4, r5, r6, r7) := by rw [if_neg (show ¬ (false = true) by decide)] at H; exact H
          clear H
          have H := H1
          clear H1
          replace H := Option.bind_eq_some_iff.mp H
          obtain ⟨t174, A370, H⟩ := H
          replace H : (token_Atom.j1 kj1 a0 t168 t170 t174) = some (r1, r2, r3, r4, r5, r6, r7) := H
          have A37 := Aside0.mk A370
          clear A370
          have H' := Aside0.mk H
          clear H
          go_wp2_with (first|((with_reducible refine gate_callee (f := 18) rfl ?_);refine goesL_ (some 35) rfl rfl Tryd.func18 (by kernel_rfl) rfl #[.string a0, .string (⟨#[43]⟩ : ByteArray)] rfl (by (try simp only [List.map_toArray, List.map_cons, List.map_nil]);first|done|rfl|(simp only [List.length_drop, List.length_take];rfl)) ?_;(with_reducible refine (strings_HasPrefix.calls a0 (⟨#[43]⟩ : ByteArray) false _ A35.out).mono ?_);rintro e w' ⟨rfl, ⟨nd, rfl⟩⟩;refine ⟨_, rfl, ?_⟩)|(go_at_call 18;(with_reducible refine (strings_HasPrefix.calls a0 (⟨#[45]⟩ : ByteArray) t174 _ A37.out).mono ?_);rintro e w' ⟨rfl, ⟨nd, rfl⟩⟩))
          go_meet
          case rel => exact ⟨_, (t174), (by first|rfl|(simp;done)|(simp [*];done)), H', ⟨by have := HJ1.out;first|omega|exact Nat.le_refl _⟩, ⟨by (with_reducible repeat (first|apply Kd.R_alloc|apply Kd.R_drewN|apply Kd.R_drew));exact Kd.R_mono HO172.out (fun _ hk => hk.1)⟩, ⟨by (with_reducible repeat (first|apply Kd.V_alloc|apply Kd.V_drewN|apply Kd.V_drew));exact Kd.V_mono HO162.out (fun _ hk => ⟨hk.1.1.1, ⟨hk.2, ⟨hk.1.1.2, hk.1.2⟩⟩⟩)⟩, ⟨by (with_reducible repeat (first|refine blk_drewN ?_ _|refine blk_drew ?_|refine blk_alloc ?_ _));exact BK158.out⟩, ⟨by (with_reducible repeat (first|refine blk_drewN ?_ _|refine blk_drew ?_|refine blk_alloc ?_ _));exact BK164.out⟩, ⟨by repeat (first|(with_reducible first|exact HB.out|apply below_alloc|apply pw_below_drewN|apply below_drew1|refine below_set ?_ GE158.out|refine below_set ?_ GE164.out)|exact HB.out)⟩⟩
        case rest =>
         clear HC25
         try clear c1
         try clear c2
         try clear p2
         try clear c3
         try clear c4
         try clear c4b0
         try clear c4b1
         try clear c5
         try clear c6
         try clear c8
         try clear c8b0
         try clear c8b1
         try clear c11
         try clear c11b0
         try clear c11b1
         try clear c15
         try clear c16
         try clear c17
         try clear c18
         try clear c23
         try clear c23b0
         try clear c23b1
         try clear c23b2
         try clear c28
         try clear c36
         try clear hcz12_0
         try clear hcz12_1
         try clear hcz12_2
         try clear hcz12_3
         try clear hcz12_4
         try clear hcz12_5
         try clear hcz19_0
         try clear hcz19_1
         try clear hcz21_0
         try clear hcz21_1
         try clear hcz21_2
         try clear hcz21_3
         try clear hcz21_4
         try clear hcz21_5
         try clear hcz29_0
         try clear hcz29_1
         try clear hcz6_0
         try clear hcz6_1
         try clear hcz6_2
         try clear hcz6_3
         try clear hcz6_4
         try clear hcz6_5
         try clear hcz9_0
         try clear hcz9_1
         try clear hcz9_2
         try clear hcz9_3
         try clear hcz9_4
         try clear hcz9_5
         try clear hfz12_0
         try clear hfz12_1
         try clear hfz12_2
         try clear hfz12_3
         try clear hfz12_4
         try clear hfz12_5
         try clear hfz19_0
         try clear hfz19_1
         try clear hfz21_0
         try clear hfz21_1
         try clear hfz21_2
         try clear hfz21_3
         try clear hfz21_4
         try clear hfz21_5
         try clear hfz29_0
         try clear hfz29_1
         try clear hfz6_0
         try clear hfz6_1
         try clear hfz6_2
         try clear hfz6_3
         try clear hfz6_4
         try clear hfz6_5
         try clear hfz9_0
         try clear hfz9_1
         try clear hfz9_2
         try clear hfz9_3
         try clear hfz9_4
         try clear hfz9_5
         try clear p2
         obtain ⟨kq, x9_24, rfl, HA, HJ24, HO_6, HO_165001, BK158, BK164, HB⟩ := hcut
         cases kq with
         | zero => exact absurd HA.out (by simp [token_Atom.j1])
         | succ kj24 =>
          have H := HA.out
          clear HA
          simp only [token_Atom.j1] at H
          by_cases c38 : a0.toList = ([] : List UInt8)
          ·rw [if_pos c38] at H
           have c38b0 : (a0.toList == ([] : List UInt8)) = true := beq_iff_eq.mpr c38
           have c38b1 : (a0.toList != ([] : List UInt8)) = false := bne_eq_false_iff_eq.mpr c38
           clear c38
           simp only [Option.some.injEq, Prod.mk.injEq] at H
           obtain ⟨rfl, rfl, rfl, rfl, rfl, rfl, rfl⟩ := H
           have hnb39 := NB158_164.out
           have hnc39 := NB164_158.out
           have hcz40_0 : wc.cell? ⟨gb158, 0, none⟩ = some (.int .i64 0) := (blk_cell BK158.out 0).trans rfl
           have hcz40_1 : wc.cell? ⟨gb158, 1, none⟩ = some (.string (⟨#[]⟩ : ByteArray)) := (blk_cell BK158.out 1).trans rfl
           have hcz40_2 : wc.cell? ⟨gb158, 2, none⟩ = some (.bool false) := (blk_cell BK158.out 2).trans rfl
           have hcz40_3 : wc.cell? ⟨gb158, 3, none⟩ = some (.slice none 0 0) := (blk_cell BK158.out 3).trans rfl
           have hcz40_4 : wc.cell? ⟨gb158, 4, none⟩ = some (.slice none 0 0) := (blk_cell BK158.out 4).trans rfl
           have hcz40_5 : wc.cell? ⟨gb158, 5, none⟩ = some (.int .i64 0) := (blk_cell BK158.out 5).trans rfl
           have hfz40_0 := blk_frozen BK158.out 0
           have hfz40_1 := blk_frozen BK158.out 1
           have hfz40_2 := blk_frozen BK158.out 2
           have hfz40_3 := blk_frozen BK158.out 3
           have hfz40_4 := blk_frozen BK158.out 4
           have hfz40_5 := blk_frozen BK158.out 5
           go_wp2_with (first|((with_reducible refine gate_store (t := 33) (p := 2) rfl ?_);refine store_event (t := 33) (p := 2) (v := ?vo_w41) (w1 := ((((((wc.setCell ⟨gb158, 0, none⟩ (.int .i64 0)).setCell ⟨gb158, 1, none⟩ (.string (⟨#[]⟩ : ByteArray))).setCell ⟨gb158, 2, none⟩ (.bool false)).setCell ⟨gb158, 3, none⟩ (.slice none 0 0)).setCell ⟨gb158, 4, none⟩ (.slice none 0 0)).setCell ⟨gb158, 5, none⟩ (.int .i64 0))) ?hg ?ho ?hn ?hr ?_;(case ho => rfl);(case hg => rfl);(case hn => rfl);(case hr => first|(go_simp;done)|(go_simp;rfl));intro w41 hw;have n0_ : Aside0 (Kd.R (Kd.int .i64) 3 w41 w.heap.size (fun k_ => (w.heap.size ≤ k_)) v171 t168) := ⟨(by rw [hw];exact (by (with_reducible repeat (first|apply Kd.R_alloc|apply Kd.R_drewN|apply Kd.R_drew));exact Kd.R_mono (Kd.R_far (p := ⟨gb158, 5, none⟩) (Kd.R_far (p := ⟨gb158, 4, none⟩) (Kd.R_far (p := ⟨gb158, 3, none⟩) (Kd.R_far (p := ⟨gb158, 2, none⟩) (Kd.R_far (p := ⟨gb158, 1, none⟩) (Kd.R_far (p := ⟨gb158, 0, none⟩) (Kd.R_types HO_6.out BK158.out (by decide)) (fun _ hk => hk.2) (.int .i64 0)) (fun _ hk => hk.2) (.string (⟨#[]⟩ : ByteArray))) (fun _ hk => hk.2) (.bool false)) (fun _ hk => hk.2) (.slice none 0 0)) (fun _ hk => hk.2) (.slice none 0 0)) (fun _ hk => hk.2) (.int .i64 0)) (fun _ hk => hk.1)))⟩;have n1_ : Aside0 (Kd.V (Kd.int .u32) 73 w41 w.heap.size (fun k_ => (w.heap.size ≤ k_) ∧ some k_ ≠ (v171 : Value).ownBlock ∧ k_ ≠ gb158 ∧ k_ ≠ gb164) (.slice Ao30 t160.length co30) t160) := ⟨(by rw [hw];exact (by (with_reducible repeat (first|apply Kd.V_alloc|apply Kd.V_drewN|apply Kd.V_drew));exact Kd.V_mono (Kd.V_far (p := ⟨gb158, 5, none⟩) (Kd.V_far (p := ⟨gb158, 4, none⟩) (Kd.V_far (p := ⟨gb158, 3, none⟩) (Kd.V_far (p := ⟨gb158, 2, none⟩) (Kd.V_far (p := ⟨gb158, 1, none⟩) (Kd.V_far (p := ⟨gb158, 0, none⟩) (Kd.V_mono HO_165001.out (fun k_ hk => (⟨hk, hk.2.2.1⟩ : _ ∧ k_ ≠ gb158))) (fun _ hk => hk.2) (.int .i64 0)) (fun _ hk => hk.2) (.string (⟨#[]⟩ : ByteArray))) (fun _ hk => hk.2) (.bool false)) (fun _ hk => hk.2) (.slice none 0 0)) (fun _ hk => hk.2) (.slice none 0 0)) (fun _ hk => hk.2) (.int .i64 0)) (fun _ hk => ⟨hk.1.1, ⟨hk.1.2.1, ⟨hk.1.2.2.1, hk.1.2.2.2⟩⟩⟩)))⟩;have n2_ : Aside0 (w41.heap[gb158]? = some (.cells #[.int .i64 0, .string (⟨#[]⟩ : ByteArray), .bool false, .slice none 0 0, .slice none 0 0, .int .i64 0] 33 (0, 0))) := ⟨(by rw [hw];exact (by (with_reducible repeat (first|refine blk_drewN ?_ _|refine blk_drew ?_|refine blk_alloc ?_ _));refine blk_put (cs := #[.int .i64 0, .string (⟨#[]⟩ : ByteArray), .bool false, .slice none 0 0, .slice none 0 0, .int .i64 0]) ?_ 5 _ rfl;(with_reducible repeat (first|refine blk_drewN ?_ _|refine blk_drew ?_|refine blk_alloc ?_ _));refine blk_put (cs := #[.int .i64 0, .string (⟨#[]⟩ : ByteArray), .bool false, .slice none 0 0, .slice none 0 0, .int .i64 0]) ?_ 4 _ rfl;(with_reducible repeat (first|refine blk_drewN ?_ _|refine blk_drew ?_|refine blk_alloc ?_ _));refine blk_put (cs := #[.int .i64 0, .string (⟨#[]⟩ : ByteArray), .bool false, .slice none 0 0, .slice none 0 0, .int .i64 0]) ?_ 3 _ rfl;(with_reducible repeat (first|refine blk_drewN ?_ _|refine blk_drew ?_|refine blk_alloc ?_ _));refine blk_put (cs := #[.int .i64 0, .string (⟨#[]⟩ : ByteArray), .bool false, .slice none 0 0, .slice none 0 0, .int .i64 0]) ?_ 2 _ rfl;(with_reducible repeat (first|refine blk_drewN ?_ _|refine blk_drew ?_|refine blk_alloc ?_ _));refine blk_put (cs := #[.int .i64 0, .string (⟨#[]⟩ : ByteArray), .bool false, .slice none 0 0, .slice none 0 0, .int .i64 0]) ?_ 1 _ rfl;(with_reducible repeat (first|refine blk_drewN ?_ _|refine blk_drew ?_|refine blk_alloc ?_ _));refine blk_put (cs := #[.int .i64 0, .string (⟨#[]⟩ : ByteArray), .bool false, .slice none 0 0, .slice none 0 0, .int .i64 0]) ?_ 0 _ rfl;(with_reducible repeat (first|refine blk_drewN ?_ _|refine blk_drew ?_|refine blk_alloc ?_ _));exact BK158.out))⟩;have n3_ : Aside0 (w41.heap[gb164]? = some (.cells #[.bool t159, .slice Ao30 t160.length co30] 30 (0, 0))) := ⟨(by rw [hw];exact (by (with_reducible repeat (first|refine blk_drewN ?_ _|refine blk_drew ?_|refine blk_alloc ?_ _));refine blk_far ?_ NB164_158.out _;(with_reducible repeat (first|refine blk_drewN ?_ _|refine blk_drew ?_|refine blk_alloc ?_ _));refine blk_far ?_ NB164_158.out _;(with_reducible repeat (first|refine blk_drewN ?_ _|refine blk_drew ?_|refine blk_alloc ?_ _));refine blk_far ?_ NB164_158.out _;(with_reducible repeat (first|refine blk_drewN ?_ _|refine blk_drew ?_|refine blk_alloc ?_ _));refine blk_far ?_ NB164_158.out _;(with_reducible repeat (first|refine blk_drewN ?_ _|refine blk_drew ?_|refine blk_alloc ?_ _));refine blk_far ?_ NB164_158.out _;(with_reducible repeat (first|refine blk_drewN ?_ _|refine blk_drew ?_|refine blk_alloc ?_ _));refine blk_far ?_ NB164_158.out _;(with_reducible repeat (first|refine blk_drewN ?_ _|refine blk_drew ?_|refine blk_alloc ?_ _));exact BK164.out))⟩;have n4_ : Aside0 (Below w.heap.size w w41) := ⟨(by rw [hw];exact (by repeat (first|(with_reducible first|exact HB.out|apply below_alloc|apply pw_below_drewN|apply below_drew1|refine below_set ?_ GE158.out|refine below_set ?_ GE164.out)|exact HB.out)))⟩;clear hw;clear HO_6;clear HO_165001;clear BK158;clear BK164;clear HB;have HO_6 := n0_;have HO_165001 := n1_;have BK158 := n2_;have BK164 := n3_;have HB := n4_;clear n0_ n1_ n2_ n3_ n4_))
           refine bodyPost_ret (results_ct rfl _ _ gb158 33 #[.int .i64 0, .string (⟨#[]⟩ : ByteArray), .bool false, .slice none 0 0, .slice none 0 0, .int .i64 0] (0, 0) _ rfl (by (with_reducible repeat (first|refine blk_drewN ?_ _|refine blk_drew ?_|refine blk_alloc ?_ _));exact BK158.out) Tryd.underlying33 rfl (by kernel_rfl)) rfl ?_
           exact ⟨_, _, by first|rfl|(simp [errW_none, errW_some] <;> rfl)|(simp [*, errW_none, errW_some] <;> rfl), Kd.V_nil _ _ _ _ _, by first|exact Kd.R_nil _ _ _ _ _|exact Kd.N_nil _ _ _ _ _|exact Kd.V_nil _ _ _ _ _|exact Kd.Q_nil _ _ _ _ _|exact Kd.S_nil _ _ _ _ _, by repeat (first|(with_reducible first|exact HB.out|apply below_alloc|apply pw_below_drewN|apply below_drew1|refine below_set ?_ GE158.out|refine below_set ?_ GE164.out)|exact HB.out)⟩
          ·rw [if_neg c38] at H
           have c38b0 : (a0.toList == ([] : List UInt8)) = false := beq_eq_false_iff_ne.mpr c38
           have c38b1 : (a0.toList != ([] : List UInt8)) = true := bne_iff_ne.mpr c38
           by_cases c42 : a0.toList = ([46] : List UInt8)
           ·rw [if_pos c42] at H
            have c42b0 : (a0.toList == ([46] : List UInt8)) = true := beq_iff_eq.mpr c42
            have c42b1 : (a0.toList != ([46] : List UInt8)) = false := bne_eq_false_iff_eq.mpr c42
            clear c42
            simp only [Option.some.injEq, Prod.mk.injEq] at H
            obtain ⟨rfl, rfl, rfl, rfl, rfl, rfl, rfl⟩ := H
            have hnb43 := NB158_164.out
            have hnc43 := NB164_158.out
            have hcz44_0 : wc.cell? ⟨gb158, 0, none⟩ = some (.int .i64 0) := (blk_cell BK158.out 0).trans rfl
            have hcz44_1 : wc.cell? ⟨gb158, 1, none⟩ = some (.string (⟨#[]⟩ : ByteArray)) := (blk_cell BK158.out 1).trans rfl
            have hcz44_2 : wc.cell? ⟨gb158, 2, none⟩ = some (.bool false) := (blk_cell BK158.out 2).trans rfl
            have hcz44_3 : wc.cell? ⟨gb158, 3, none⟩ = some (.slice none 0 0) := (blk_cell BK158.out 3).trans rfl
            have hcz44_4 : wc.cell? ⟨gb158, 4, none⟩ = some (.slice none 0 0) := (blk_cell BK158.out 4).trans rfl
            have hcz44_5 : wc.cell? ⟨gb158, 5, none⟩ = some (.int .i64 0) := (blk_cell BK158.out 5).trans rfl
            have hfz44_0 := blk_frozen BK158.out 0
            have hfz44_1 := blk_frozen BK158.out 1
            have hfz44_2 := blk_frozen BK158.out 2
            have hfz44_3 := blk_frozen BK158.out 3
            have hfz44_4 := blk_frozen BK158.out 4
            have hfz44_5 := blk_frozen BK158.out 5
            go_wp2_with (first|((with_reducible refine gate_store (t := 33) (p := 2) rfl ?_);refine store_event (t := 33) (p := 2) (v := ?vo_w45) (w1 := ((((((wc.setCell ⟨gb158, 0, none⟩ (.int .i64 0)).setCell ⟨gb158, 1, none⟩ (.string (⟨#[]⟩ : ByteArray))).setCell ⟨gb158, 2, none⟩ (.bool false)).setCell ⟨gb158, 3, none⟩ (.slice none 0 0)).setCell ⟨gb158, 4, none⟩ (.slice none 0 0)).setCell ⟨gb158, 5, none⟩ (.int .i64 0))) ?hg ?ho ?hn ?hr ?_;(case ho => rfl);(case hg => rfl);(case hn => rfl);(case hr => first|(go_simp;done)|(go_simp;rfl));intro w45 hw;have n0_ : Aside0 (Kd.R (Kd.int .i64) 3 w45 w.heap.size (fun k_ => (w.heap.size ≤ k_)) v171 t168) := ⟨(by rw [hw];exact (by (with_reducible repeat (first|apply Kd.R_alloc|apply Kd.R_drewN|apply Kd.R_drew));exact Kd.R_mono (Kd.R_far (p := ⟨gb158, 5, none⟩) (Kd.R_far (p := ⟨gb158, 4, none⟩) (Kd.R_far (p := ⟨gb158, 3, none⟩) (Kd.R_far (p := ⟨gb158, 2, none⟩) (Kd.R_far (p := ⟨gb158, 1, none⟩) (Kd.R_far (p := ⟨gb158, 0, none⟩) (Kd.R_types HO_6.out BK158.out (by decide)) (fun _ hk => hk.2) (.int .i64 0)) (fun _ hk => hk.2) (.string (⟨#[]⟩ : ByteArray))) (fun _ hk => hk.2) (.bool false)) (fun _ hk => hk.2) (.slice none 0 0)) (fun _ hk => hk.2) (.slice none 0 0)) (fun _ hk => hk.2) (.int .i64 0)) (fun _ hk => hk.1)))⟩;have n1_ : Aside0 (Kd.V (Kd.int .u32) 73 w45 w.heap.size (fun k_ => (w.heap.size ≤ k_) ∧ some k_ ≠ (v171 : Value).ownBlock ∧ k_ ≠ gb158 ∧ k_ ≠ gb164) (.slice Ao30 t160.length co30) t160) := ⟨(by rw [hw];exact (by (with_reducible repeat (first|apply Kd.V_alloc|apply Kd.V_drewN|apply Kd.V_drew));exact Kd.V_mono (Kd.V_far (p := ⟨gb158, 5, none⟩) (Kd.V_far (p := ⟨gb158, 4, none⟩) (Kd.V_far (p := ⟨gb158, 3, none⟩) (Kd.V_far (p := ⟨gb158, 2, none⟩) (Kd.V_far (p := ⟨gb158, 1, none⟩) (Kd.V_far (p := ⟨gb158, 0, none⟩) (Kd.V_mono HO_165001.out (fun k_ hk => (⟨hk, hk.2.2.1⟩ : _ ∧ k_ ≠ gb158))) (fun _ hk => hk.2) (.int .i64 0)) (fun _ hk => hk.2) (.string (⟨#[]⟩ : ByteArray))) (fun _ hk => hk.2) (.bool false)) (fun _ hk => hk.2) (.slice none 0 0)) (fun _ hk => hk.2) (.slice none 0 0)) (fun _ hk => hk.2) (.int .i64 0)) (fun _ hk => ⟨hk.1.1, ⟨hk.1.2.1, ⟨hk.1.2.2.1, hk.1.2.2.2⟩⟩⟩)))⟩;have n2_ : Aside0 (w45.heap[gb158]? = some (.cells #[.int .i64 0, .string (⟨#[]⟩ : ByteArray), .bool false, .slice none 0 0, .slice none 0 0, .int .i64 0] 33 (0, 0))) := ⟨(by rw [hw];exact (by (with_reducible repeat (first|refine blk_drewN ?_ _|refine blk_drew ?_|refine blk_alloc ?_ _));refine blk_put (cs := #[.int .i64 0, .string (⟨#[]⟩ : ByteArray), .bool false, .slice none 0 0, .slice none 0 0, .int .i64 0]) ?_ 5 _ rfl;(with_reducible repeat (first|refine blk_drewN ?_ _|refine blk_drew ?_|refine blk_alloc ?_ _));refine blk_put (cs := #[.int .i64 0, .string (⟨#[]⟩ : ByteArray), .bool false, .slice none 0 0, .slice none 0 0, .int .i64 0]) ?_ 4 _ rfl;(with_reducible repeat (first|refine blk_drewN ?_ _|refine blk_drew ?_|refine blk_alloc ?_ _));refine blk_put (cs := #[.int .i64 0, .string (⟨#[]⟩ : ByteArray), .bool false, .slice none 0 0, .slice none 0 0, .int .i64 0]) ?_ 3 _ rfl;(with_reducible repeat (first|refine blk_drewN ?_ _|refine blk_drew ?_|refine blk_alloc ?_ _));refine blk_put (cs := #[.int .i64 0, .string (⟨#[]⟩ : ByteArray), .bool false, .slice none 0 0, .slice none 0 0, .int .i64 0]) ?_ 2 _ rfl;(with_reducible repeat (first|refine blk_drewN ?_ _|refine blk_drew ?_|refine blk_alloc ?_ _));refine blk_put (cs := #[.int .i64 0, .string (⟨#[]⟩ : ByteArray), .bool false, .slice none 0 0, .slice none 0 0, .int .i64 0]) ?_ 1 _ rfl;(with_reducible repeat (first|refine blk_drewN ?_ _|refine blk_drew ?_|refine blk_alloc ?_ _));refine blk_put (cs := #[.int .i64 0, .string (⟨#[]⟩ : ByteArray), .bool false, .slice none 0 0, .slice none 0 0, .int .i64 0]) ?_ 0 _ rfl;(with_reducible repeat (first|refine blk_drewN ?_ _|refine blk_drew ?_|refine blk_alloc ?_ _));exact BK158.out))⟩;have n3_ : Aside0 (w45.heap[gb164]? = some (.cells #[.bool t159, .slice Ao30 t160.length co30] 30 (0, 0))) := ⟨(by rw [hw];exact (by (with_reducible repeat (first|refine blk_drewN ?_ _|refine blk_drew ?_|refine blk_alloc ?_ _));refine blk_far ?_ NB164_158.out _;(with_reducible repeat (first|refine blk_drewN ?_ _|refine blk_drew ?_|refine blk_alloc ?_ _));refine blk_far ?_ NB164_158.out _;(with_reducible repeat (first|refine blk_drewN ?_ _|refine blk_drew ?_|refine blk_alloc ?_ _));refine blk_far ?_ NB164_158.out _;(with_reducible repeat (first|refine blk_drewN ?_ _|refine blk_drew ?_|refine blk_alloc ?_ _));refine blk_far ?_ NB164_158.out _;(with_reducible repeat (first|refine blk_drewN ?_ _|refine blk_drew ?_|refine blk_alloc ?_ _));refine blk_far ?_ NB164_158.out _;(with_reducible repeat (first|refine blk_drewN ?_ _|refine blk_drew ?_|refine blk_alloc ?_ _));refine blk_far ?_ NB164_158.out _;(with_reducible repeat (first|refine blk_drewN ?_ _|refine blk_drew ?_|refine blk_alloc ?_ _));exact BK164.out))⟩;have n4_ : Aside0 (Below w.heap.size w w45) := ⟨(by rw [hw];exact (by repeat (first|(with_reducible first|exact HB.out|apply below_alloc|apply pw_below_drewN|apply below_drew1|refine below_set ?_ GE158.out|refine below_set ?_ GE164.out)|exact HB.out)))⟩;clear hw;clear HO_6;clear HO_165001;clear BK158;clear BK164;clear HB;have HO_6 := n0_;have HO_165001 := n1_;have BK158 := n2_;have BK164 := n3_;have HB := n4_;clear n0_ n1_ n2_ n3_ n4_))
            refine bodyPost_ret (results_ct rfl _ _ gb158 33 #[.int .i64 0, .string (⟨#[]⟩ : ByteArray), .bool false, .slice none 0 0, .slice none 0 0, .int .i64 0] (0, 0) _ rfl (by (with_reducible repeat (first|refine blk_drewN ?_ _|refine blk_drew ?_|refine blk_alloc ?_ _));exact BK158.out) Tryd.underlying33 rfl (by kernel_rfl)) rfl ?_
            exact ⟨_, _, by first|rfl|(simp [errW_none, errW_some] <;> rfl)|(simp [*, errW_none, errW_some] <;> rfl), Kd.V_nil _ _ _ _ _, by first|exact Kd.R_nil _ _ _ _ _|exact Kd.N_nil _ _ _ _ _|exact Kd.V_nil _ _ _ _ _|exact Kd.Q_nil _ _ _ _ _|exact Kd.S_nil _ _ _ _ _, by repeat (first|(with_reducible first|exact HB.out|apply below_alloc|apply pw_below_drewN|apply below_drew1|refine below_set ?_ GE158.out|refine below_set ?_ GE164.out)|exact HB.out)⟩
           ·rw [if_neg c42] at H
            have c42b0 : (a0.toList == ([46] : List UInt8)) = false := beq_eq_false_iff_ne.mpr c42
            have c42b1 : (a0.toList != ([46] : List UInt8)) = true := bne_iff_ne.mpr c42
            by_cases c46 : (a0.size : Int) > 64
            ·rw [if_pos c46] at H
             have c46b0 : decide (64 < (a0.size : Int)) = true := decide_eq_true c46
             have c46b1 : decide (64 < a0.size) = true := decide_eq_true (by omega)
             clear c46
             simp only [Option.some.injEq, Prod.mk.injEq] at H
             obtain ⟨rfl, rfl, rfl, rfl, rfl, rfl, rfl⟩ := H
             have hnb47 := NB158_164.out
             have hnc47 := NB164_158.out
             have hcz48_0 : wc.cell? ⟨gb158, 0, none⟩ = some (.int .i64 0) := (blk_cell BK158.out 0).trans rfl
             have hcz48_1 : wc.cell? ⟨gb158, 1, none⟩ = some (.string (⟨#[]⟩ : ByteArray)) := (blk_cell BK158.out 1).trans rfl
             have hcz48_2 : wc.cell? ⟨gb158, 2, none⟩ = some (.bool false) := (blk_cell BK158.out 2).trans rfl
             have hcz48_3 : wc.cell? ⟨gb158, 3, none⟩ = some (.slice none 0 0) := (blk_cell BK158.out 3).trans rfl
             have hcz48_4 : wc.cell? ⟨gb158, 4, none⟩ = some (.slice none 0 0) := (blk_cell BK158.out 4).trans rfl
             have hcz48_5 : wc.cell? ⟨gb158, 5, none⟩ = some (.int .i64 0) := (blk_cell BK158.out 5).trans rfl
             have hfz48_0 := blk_frozen BK158.out 0
             have hfz48_1 := blk_frozen BK158.out 1
             have hfz48_2 := blk_frozen BK158.out 2
             have hfz48_3 := blk_frozen BK158.out 3
             have hfz48_4 := blk_frozen BK158.out 4
             have hfz48_5 := blk_frozen BK158.out 5
             go_wp2_with (first|((with_reducible refine gate_store (t := 33) (p := 2) rfl ?_);refine store_event (t := 33) (p := 2) (v := ?vo_w49) (w1 := ((((((wc.setCell ⟨gb158, 0, none⟩ (.int .i64 0)).setCell ⟨gb158, 1, none⟩ (.string (⟨#[]⟩ : ByteArray))).setCell ⟨gb158, 2, none⟩ (.bool false)).setCell ⟨gb158, 3, none⟩ (.slice none 0 0)).setCell ⟨gb158, 4, none⟩ (.slice none 0 0)).setCell ⟨gb158, 5, none⟩ (.int .i64 0))) ?hg ?ho ?hn ?hr ?_;(case ho => rfl);(case hg => rfl);(case hn => rfl);(case hr => first|(go_simp;done)|(go_simp;rfl));intro w49 hw;have n0_ : Aside0 (Kd.R (Kd.int .i64) 3 w49 w.heap.size (fun k_ => (w.heap.size ≤ k_)) v171 t168) := ⟨(by rw [hw];exact (by (with_reducible repeat (first|apply Kd.R_alloc|apply Kd.R_drewN|apply Kd.R_drew));exact Kd.R_mono (Kd.R_far (p := ⟨gb158, 5, none⟩) (Kd.R_far (p := ⟨gb158, 4, none⟩) (Kd.R_far (p := ⟨gb158, 3, none⟩) (Kd.R_far (p := ⟨gb158, 2, none⟩) (Kd.R_far (p := ⟨gb158, 1, none⟩) (Kd.R_far (p := ⟨gb158, 0, none⟩) (Kd.R_types HO_6.out BK158.out (by decide)) (fun _ hk => hk.2) (.int .i64 0)) (fun _ hk => hk.2) (.string (⟨#[]⟩ : ByteArray))) (fun _ hk => hk.2) (.bool false)) (fun _ hk => hk.2) (.slice none 0 0)) (fun _ hk => hk.2) (.slice none 0 0)) (fun _ hk => hk.2) (.int .i64 0)) (fun _ hk => hk.1)))⟩;have n1_ : Aside0 (Kd.V (Kd.int .u32) 73 w49 w.heap.size (fun k_ => (w.heap.size ≤ k_) ∧ some k_ ≠ (v171 : Value).ownBlock ∧ k_ ≠ gb158 ∧ k_ ≠ gb164) (.slice Ao30 t160.length co30) t160) := ⟨(by rw [hw];exact (by (with_reducible repeat (first|apply Kd.V_alloc|apply Kd.V_drewN|apply Kd.V_drew));exact Kd.V_mono (Kd.V_far (p := ⟨gb158, 5, none⟩) (Kd.V_far (p := ⟨gb158, 4, none⟩) (Kd.V_far (p := ⟨gb158, 3, none⟩) (Kd.V_far (p := ⟨gb158, 2, none⟩) (Kd.V_far (p := ⟨gb158, 1, none⟩) (Kd.V_far (p := ⟨gb158, 0, none⟩) (Kd.V_mono HO_165001.out (fun k_ hk => (⟨hk, hk.2.2.1⟩ : _ ∧ k_ ≠ gb158))) (fun _ hk => hk.2) (.int .i64 0)) (fun _ hk => hk.2) (.string (⟨#[]⟩ : ByteArray))) (fun _ hk => hk.2) (.bool false)) (fun _ hk => hk.2) (.slice none 0 0)) (fun _ hk => hk.2) (.slice none 0 0)) (fun _ hk => hk.2) (.int .i64 0)) (fun _ hk => ⟨hk.1.1, ⟨hk.1.2.1, ⟨hk.1.2.2.1, hk.1.2.2.2⟩⟩⟩)))⟩;have n2_ : Aside0 (w49.heap[gb158]? = some (.cells #[.int .i64 0, .string (⟨#[]⟩ : ByteArray), .bool false, .slice none 0 0, .slice none 0 0, .int .i64 0] 33 (0, 0))) := ⟨(by rw [hw];exact (by (with_reducible repeat (first|refine blk_drewN ?_ _|refine blk_drew ?_|refine blk_alloc ?_ _));refine blk_put (cs := #[.int .i64 0, .string (⟨#[]⟩ : ByteArray), .bool false, .slice none 0 0, .slice none 0 0, .int .i64 0]) ?_ 5 _ rfl;(with_reducible repeat (first|refine blk_drewN ?_ _|refine blk_drew ?_|refine blk_alloc ?_ _));refine blk_put (cs := #[.int .i64 0, .string (⟨#[]⟩ : ByteArray), .bool false, .slice none 0 0, .slice none 0 0, .int .i64 0]) ?_ 4 _ rfl;(with_reducible repeat (first|refine blk_drewN ?_ _|refine blk_drew ?_|refine blk_alloc ?_ _));refine blk_put (cs := #[.int .i64 0, .string (⟨#[]⟩ : ByteArray), .bool false, .slice none 0 0, .slice none 0 0, .int .i64 0]) ?_ 3 _ rfl;(with_reducible repeat (first|refine blk_drewN ?_ _|refine blk_drew ?_|refine blk_alloc ?_ _));refine blk_put (cs := #[.int .i64 0, .string (⟨#[]⟩ : ByteArray), .bool false, .slice none 0 0, .slice none 0 0, .int .i64 0]) ?_ 2 _ rfl;(with_reducible repeat (first|refine blk_drewN ?_ _|refine blk_drew ?_|refine blk_alloc ?_ _));refine blk_put (cs := #[.int .i64 0, .string (⟨#[]⟩ : ByteArray), .bool false, .slice none 0 0, .slice none 0 0, .int .i64 0]) ?_ 1 _ rfl;(with_reducible repeat (first|refine blk_drewN ?_ _|refine blk_drew ?_|refine blk_alloc ?_ _));refine blk_put (cs := #[.int .i64 0, .string (⟨#[]⟩ : ByteArray), .bool false, .slice none 0 0, .slice none 0 0, .int .i64 0]) ?_ 0 _ rfl;(with_reducible repeat (first|refine blk_drewN ?_ _|refine blk_drew ?_|refine blk_alloc ?_ _));exact BK158.out))⟩;have n3_ : Aside0 (w49.heap[gb164]? = some (.cells #[.bool t159, .slice Ao30 t160.length co30] 30 (0, 0))) := ⟨(by rw [hw];exact (by (with_reducible repeat (first|refine blk_drewN ?_ _|refine blk_drew ?_|refine blk_alloc ?_ _));refine blk_far ?_ NB164_158.out _;(with_reducible repeat (first|refine blk_drewN ?_ _|refine blk_drew ?_|refine blk_alloc ?_ _));refine blk_far ?_ NB164_158.out _;(with_reducible repeat (first|refine blk_drewN ?_ _|refine blk_drew ?_|refine blk_alloc ?_ _));refine blk_far ?_ NB164_158.out _;(with_reducible repeat (first|refine blk_drewN ?_ _|refine blk_drew ?_|refine blk_alloc ?_ _));refine blk_far ?_ NB164_158.out _;(with_reducible repeat (first|refine blk_drewN ?_ _|refine blk_drew ?_|refine blk_alloc ?_ _));refine blk_far ?_ NB164_158.out _;(with_reducible repeat (first|refine blk_drewN ?_ _|refine blk_drew ?_|refine blk_alloc ?_ _));refine blk_far ?_ NB164_158.out _;(with_reducible repeat (first|refine blk_drewN ?_ _|refine blk_drew ?_|refine blk_alloc ?_ _));exact BK164.out))⟩;have n4_ : Aside0 (Below w.heap.size w w49) := ⟨(by rw [hw];exact (by repeat (first|(with_reducible first|exact HB.out|apply below_alloc|apply pw_below_drewN|apply below_drew1|refine below_set ?_ GE158.out|refine below_set ?_ GE164.out)|exact HB.out)))⟩;clear hw;clear HO_6;clear HO_165001;clear BK158;clear BK164;clear HB;have HO_6 := n0_;have HO_165001 := n1_;have BK158 := n2_;have BK164 := n3_;have HB := n4_;clear n0_ n1_ n2_ n3_ n4_))
             refine bodyPost_ret (results_ct rfl _ _ gb158 33 #[.int .i64 0, .string (⟨#[]⟩ : ByteArray), .bool false, .slice none 0 0, .slice none 0 0, .int .i64 0] (0, 0) _ rfl (by (with_reducible repeat (first|refine blk_drewN ?_ _|refine blk_drew ?_|refine blk_alloc ?_ _));exact BK158.out) Tryd.underlying33 rfl (by kernel_rfl)) rfl ?_
             exact ⟨_, _, by first|rfl|(simp [errW_none, errW_some] <;> rfl)|(simp [*, errW_none, errW_some] <;> rfl), Kd.V_nil _ _ _ _ _, by first|exact Kd.R_nil _ _ _ _ _|exact Kd.N_nil _ _ _ _ _|exact Kd.V_nil _ _ _ _ _|exact Kd.Q_nil _ _ _ _ _|exact Kd.S_nil _ _ _ _ _, by repeat (first|(with_reducible first|exact HB.out|apply below_alloc|apply pw_below_drewN|apply below_drew1|refine below_set ?_ GE158.out|refine below_set ?_ GE164.out)|exact HB.out)⟩
            ·rw [if_neg c46] at H
             have c46b0 : decide (64 < (a0.size : Int)) = false := decide_eq_false c46
             have c46b1 : decide (64 < a0.size) = false := decide_eq_false (by omega)
             clear c46
             by_cases c50 : t170 = 0
             ·rw [if_pos c50] at H
              have c50b0 : (t170 == 0) = true := beq_iff_eq.mpr c50
              have c50b1 : (t170 != 0) = false := bne_eq_false_iff_eq.mpr c50
              clear c50
              replace H := Option.bind_eq_some_iff.mp H
              obtain ⟨t175, A510, H⟩ := H
              replace H : (if t175 = true then (some (0, (⟨#[]⟩ : ByteArray), false, ([] : List Int), ([] : List (S33)), 0, false)) else (if 0 < (a0.size : Int) then (if (bt a0 0) = 35 then (some (0, (⟨#[]⟩ : ByteArray), false, ([] : List Int), ([] : List (S33)), 0, false)) else ((token_digit.f a0 0).bind fun t176 => (if t176 = true then (some (0, (⟨#[]⟩ : ByteArray), false, ([] : List Int), ([] : List (S33)), 0, false)) else (if x9_24 = true then ((token_digit.f a0 1).bind fun t177 => (if t177 = true then (some (0, (⟨#[]⟩ : ByteArray), false, ([] : List Int), ([] : List (S33)), 0, false)) else (some (4, a0, false, ([] : List Int), ([] : List (S33)), 0, true)))) else (some (4, a0, false, ([] : List Int), ([] : List (S33)), 0, true)))))) else (none))) = some (r1, r2, r3, r4, r5, r6, r7) := H
              have A51 := Aside0.mk A510
              clear A510
              by_cases c52 : t175 = true
              ·subst c52
               have H1 : (some (0, (⟨#[]⟩ : ByteArray), false, ([] : List Int), ([] : List (S33)), 0, false)) = some (r1, r2, r3, r4, r5, r6, r7) := by rw [if_pos rfl] at H; exact H
               clear H
               have H := H1
               clear H1
               simp only [Option.some.injEq, Prod.mk.injEq] at H
               obtain ⟨rfl, rfl, rfl, rfl, rfl, rfl, rfl⟩ := H
               obtain ⟨Ao53, co53, eo53⟩ := Kd.R_slice HO_6.out
               subst eo53
               go_wp2_with (first|(go_at_call 19;(with_reducible refine (slices_ContainsFunc_int_int_utf_Ends.calls kj24 _ _ t168  true _ ?side1 ?side2 A51.out).mono ?_);(case side1 => repeat (first|exact (Kd.R_reads' HO_6.out).2.2|(with_reducible refine Kd.C_alloc ?_ _)|(with_reducible refine Kd.C_drewN ?_ _)|(with_reducible refine Kd.C_drew ?_)));(case side2 => exact (Kd.R_reads' HO_6.out).2.1);rintro e w' ⟨rfl, ⟨nd, rfl⟩⟩;(try (rw [drewN_self wc];generalize hq_ : World.drewN wc _ = wc;have n0_ : Aside0 (Kd.V (Kd.int .u32) 73 wc w.heap.size (fun k_ => (w.heap.size ≤ k_) ∧ some k_ ≠ (.slice Ao53 t168.length co53 : Value).ownBlock ∧ k_ ≠ gb158 ∧ k_ ≠ gb164) (.slice Ao30 t160.length co30) t160) := ⟨by rw [← hq_];exact (by (with_reducible repeat (first|apply Kd.V_alloc|apply Kd.V_drewN|apply Kd.V_drew));exact HO_165001.out)⟩;have n1_ : Aside0 (Kd.R (Kd.int .i64) 3 wc w.heap.size (fun k_ => (w.heap.size ≤ k_)) (.slice Ao53 t168.length co53) t168) := ⟨by rw [← hq_];exact (by (with_reducible repeat (first|apply Kd.R_alloc|apply Kd.R_drewN|apply Kd.R_drew));exact HO_6.out)⟩;have n2_ : Aside0 (wc.heap[gb158]? = some (.cells #[.int .i64 0, .string (⟨#[]⟩ : ByteArray), .bool false, .slice none 0 0, .slice none 0 0, .int .i64 0] 33 (0, 0))) := ⟨by rw [← hq_];exact (by (with_reducible repeat (first|refine blk_drewN ?_ _|refine blk_drew ?_|refine blk_alloc ?_ _));exact BK158.out)⟩;have n3_ : Aside0 (wc.heap[gb164]? = some (.cells #[.bool t159, .slice Ao30 t160.length co30] 30 (0, 0))) := ⟨by rw [← hq_];exact (by (with_reducible repeat (first|refine blk_drewN ?_ _|refine blk_drew ?_|refine blk_alloc ?_ _));exact BK164.out)⟩;have n4_ : Aside0 (Below w.heap.size w wc) := ⟨by rw [← hq_];exact (by repeat (first|(with_reducible first|exact HB.out|apply below_alloc|apply pw_below_drewN|apply below_drew1|refine below_set ?_ GE158.out|refine below_set ?_ GE164.out)|exact HB.out))⟩;clear HO_165001 HO_6 BK158 BK164 HB hq_;have HO_165001 := n0_;have HO_6 := n1_;have BK158 := n2_;have BK164 := n3_;have HB := n4_;clear n0_ n1_ n2_ n3_ n4_));have hnb54 := NB158_164.out;have hnc54 := NB164_158.out;have hcz55_0 : wc.cell? ⟨gb158, 0, none⟩ = some (.int .i64 0) := (blk_cell BK158.out 0).trans rfl;have hcz55_1 : wc.cell? ⟨gb158, 1, none⟩ = some (.string (⟨#[]⟩ : ByteArray)) := (blk_cell BK158.out 1).trans rfl;have hcz55_2 : wc.cell? ⟨gb158, 2, none⟩ = some (.bool false) := (blk_cell BK158.out 2).trans rfl;have hcz55_3 : wc.cell? ⟨gb158, 3, none⟩ = some (.slice none 0 0) := (blk_cell BK158.out 3).trans rfl;have hcz55_4 : wc.cell? ⟨gb158, 4, none⟩ = some (.slice none 0 0) := (blk_cell BK158.out 4).trans rfl;have hcz55_5 : wc.cell? ⟨gb158, 5, none⟩ = some (.int .i64 0) := (blk_cell BK158.out 5).trans rfl;have hfz55_0 := blk_frozen BK158.out 0;have hfz55_1 := blk_frozen BK158.out 1;have hfz55_2 := blk_frozen BK158.out 2;have hfz55_3 := blk_frozen BK158.out 3;have hfz55_4 := blk_frozen BK158.out 4;have hfz55_5 := blk_frozen BK158.out 5)|((with_reducible refine gate_store (t := 33) (p := 2) rfl ?_);refine store_event (t := 33) (p := 2) (v := ?vo_w56) (w1 := ((((((wc.setCell ⟨gb158, 0, none⟩ (.int .i64 0)).setCell ⟨gb158, 1, none⟩ (.string (⟨#[]⟩ : ByteArray))).setCell ⟨gb158, 2, none⟩ (.bool false)).setCell ⟨gb158, 3, none⟩ (.slice none 0 0)).setCell ⟨gb158, 4, none⟩ (.slice none 0 0)).setCell ⟨gb158, 5, none⟩ (.int .i64 0))) ?hg ?ho ?hn ?hr ?_;(case ho => rfl);(case hg => rfl);(case hn => rfl);(case hr => first|(go_simp;done)|(go_simp;rfl));intro w56 hw;have n0_ : Aside0 (Kd.R (Kd.int .i64) 3 w56 w.heap.size (fun k_ => (w.heap.size ≤ k_)) (.slice Ao53 t168.length co53) t168) := ⟨(by rw [hw];exact (by (with_reducible repeat (first|apply Kd.R_alloc|apply Kd.R_drewN|apply Kd.R_drew));exact Kd.R_mono (Kd.R_far (p := ⟨gb158, 5, none⟩) (Kd.R_far (p := ⟨gb158, 4, none⟩) (Kd.R_far (p := ⟨gb158, 3, none⟩) (Kd.R_far (p := ⟨gb158, 2, none⟩) (Kd.R_far (p := ⟨gb158, 1, none⟩) (Kd.R_far (p := ⟨gb158, 0, none⟩) (Kd.R_types HO_6.out BK158.out (by decide)) (fun _ hk => hk.2) (.int .i64 0)) (fun _ hk => hk.2) (.string (⟨#[]⟩ : ByteArray))) (fun _ hk => hk.2) (.bool false)) (fun _ hk => hk.2) (.slice none 0 0)) (fun _ hk => hk.2) (.slice none 0 0)) (fun _ hk => hk.2) (.int .i64 0)) (fun _ hk => hk.1)))⟩;have n1_ : Aside0 (Kd.V (Kd.int .u32) 73 w56 w.heap.size (fun k_ => (w.heap.size ≤ k_) ∧ some k_ ≠ (.slice Ao53 t168.length co53 : Value).ownBlock ∧ k_ ≠ gb158 ∧ k_ ≠ gb164) (.slice Ao30 t160.length co30) t160) := ⟨(by rw [hw];exact (by (with_reducible repeat (first|apply Kd.V_alloc|apply Kd.V_drewN|apply Kd.V_drew));exact Kd.V_mono (Kd.V_far (p := ⟨gb158, 5, none⟩) (Kd.V_far (p := ⟨gb158, 4, none⟩) (Kd.V_far (p := ⟨gb158, 3, none⟩) (Kd.V_far (p := ⟨gb158, 2, none⟩) (Kd.V_far (p := ⟨gb158, 1, none⟩) (Kd.V_far (p := ⟨gb158, 0, none⟩) (Kd.V_mono HO_165001.out (fun k_ hk => (⟨hk, hk.2.2.1⟩ : _ ∧ k_ ≠ gb158))) (fun _ hk => hk.2) (.int .i64 0)) (fun _ hk => hk.2) (.string (⟨#[]⟩ : ByteArray))) (fun _ hk => hk.2) (.bool false)) (fun _ hk => hk.2) (.slice none 0 0)) (fun _ hk => hk.2) (.slice none 0 0)) (fun _ hk => hk.2) (.int .i64 0)) (fun _ hk => ⟨hk.1.1, ⟨hk.1.2.1, ⟨hk.1.2.2.1, hk.1.2.2.2⟩⟩⟩)))⟩;have n2_ : Aside0 (w56.heap[gb158]? = some (.cells #[.int .i64 0, .string (⟨#[]⟩ : ByteArray), .bool false, .slice none 0 0, .slice none 0 0, .int .i64 0] 33 (0, 0))) := ⟨(by rw [hw];exact (by (with_reducible repeat (first|refine blk_drewN ?_ _|refine blk_drew ?_|refine blk_alloc ?_ _));refine blk_put (cs := #[.int .i64 0, .string (⟨#[]⟩ : ByteArray), .bool false, .slice none 0 0, .slice none 0 0, .int .i64 0]) ?_ 5 _ rfl;(with_reducible repeat (first|refine blk_drewN ?_ _|refine blk_drew ?_|refine blk_alloc ?_ _));refine blk_put (cs := #[.int .i64 0, .string (⟨#[]⟩ : ByteArray), .bool false, .slice none 0 0, .slice none 0 0, .int .i64 0]) ?_ 4 _ rfl;(with_reducible repeat (first|refine blk_drewN ?_ _|refine blk_drew ?_|refine blk_alloc ?_ _));refine blk_put (cs := #[.int .i64 0, .string (⟨#[]⟩ : ByteArray), .bool false, .slice none 0 0, .slice none 0 0, .int .i64 0]) ?_ 3 _ rfl;(with_reducible repeat (first|refine blk_drewN ?_ _|refine blk_drew ?_|refine blk_alloc ?_ _));refine blk_put (cs := #[.int .i64 0, .string (⟨#[]⟩ : ByteArray), .bool false, .slice none 0 0, .slice none 0 0, .int .i64 0]) ?_ 2 _ rfl;(with_reducible repeat (first|refine blk_drewN ?_ _|refine blk_drew ?_|refine blk_alloc ?_ _));refine blk_put (cs := #[.int .i64 0, .string (⟨#[]⟩ : ByteArray), .bool false, .slice none 0 0, .slice none 0 0, .int .i64 0]) ?_ 1 _ rfl;(with_reducible repeat (first|refine blk_drewN ?_ _|refine blk_drew ?_|refine blk_alloc ?_ _));refine blk_put (cs := #[.int .i64 0, .string (⟨#[]⟩ : ByteArray), .bool false, .slice none 0 0, .slice none 0 0, .int .i64 0]) ?_ 0 _ rfl;(with_reducible repeat (first|refine blk_drewN ?_ _|refine blk_drew ?_|refine blk_alloc ?_ _));exact BK158.out))⟩;have n3_ : Aside0 (w56.heap[gb164]? = some (.cells #[.bool t159, .slice Ao30 t160.length co30] 30 (0, 0))) := ⟨(by rw [hw];exact (by (with_reducible repeat (first|refine blk_drewN ?_ _|refine blk_drew ?_|refine blk_alloc ?_ _));refine blk_far ?_ NB164_158.out _;(with_reducible repeat (first|refine blk_drewN ?_ _|refine blk_drew ?_|refine blk_alloc ?_ _));refine blk_far ?_ NB164_158.out _;(with_reducible repeat (first|refine blk_drewN ?_ _|refine blk_drew ?_|refine blk_alloc ?_ _));refine blk_far ?_ NB164_158.out _;(with_reducible repeat (first|refine blk_drewN ?_ _|refine blk_drew ?_|refine blk_alloc ?_ _));refine blk_far ?_ NB164_158.out _;(with_reducible repeat (first|refine blk_drewN ?_ _|refine blk_drew ?_|refine blk_alloc ?_ _));refine blk_far ?_ NB164_158.out _;(with_reducible repeat (first|refine blk_drewN ?_ _|refine blk_drew ?_|refine blk_alloc ?_ _));refine blk_far ?_ NB164_158.out _;(with_reducible repeat (first|refine blk_drewN ?_ _|refine blk_drew ?_|refine blk_alloc ?_ _));exact BK164.out))⟩;have n4_ : Aside0 (Below w.heap.size w w56) := ⟨(by rw [hw];exact (by repeat (first|(with_reducible first|exact HB.out|apply below_alloc|apply pw_below_drewN|apply below_drew1|refine below_set ?_ GE158.out|refine below_set ?_ GE164.out)|exact HB.out)))⟩;clear hw;clear HO_6;clear HO_165001;clear BK158;clear BK164;clear HB;have HO_6 := n0_;have HO_165001 := n1_;have BK158 := n2_;have BK164 := n3_;have HB := n4_;clear n0_ n1_ n2_ n3_ n4_))
               refine bodyPost_ret (results_ct rfl _ _ gb158 33 #[.int .i64 0, .string (⟨#[]⟩ : ByteArray), .bool false, .slice none 0 0, .slice none 0 0, .int .i64 0] (0, 0) _ rfl (by (with_reducible repeat (first|refine blk_drewN ?_ _|refine blk_drew ?_|refine blk_alloc ?_ _));exact BK158.out) Tryd.underlying33 rfl (by kernel_rfl)) rfl ?_
               exact ⟨_, _, by first|rfl|(simp [errW_none, errW_some] <;> rfl)|(simp [*, errW_none, errW_some] <;> rfl), Kd.V_nil _ _ _ _ _, by first|exact Kd.R_nil _ _ _ _ _|exact Kd.N_nil _ _ _ _ _|exact Kd.V_nil _ _ _ _ _|exact Kd.Q_nil _ _ _ _ _|exact Kd.S_nil _ _ _ _ _, by repeat (first|(with_reducible first|exact HB.out|apply below_alloc|apply pw_below_drewN|apply below_drew1|refine below_set ?_ GE158.out|refine below_set ?_ GE164.out)|exact HB.out)⟩
              ·replace c52 := Bool.eq_false_iff.mpr c52
               subst c52
               have H1 : (if 0 < (a0.size : Int) then (if (bt a0 0) = 35 then (some (0, (⟨#[]⟩ : ByteArray), false, ([] : List Int), ([] : List (S33)), 0, false)) else ((token_digit.f a0 0).bind fun t176 => (if t176 = true then (some (0, (⟨#[]⟩ : ByteArray), false, ([] : List Int), ([] : List (S33)), 0, false)) else (if x9_24 = true then ((token_digit.f a0 1).bind fun t177 => (if t177 = true then (some (0, (⟨#[]⟩ : ByteArray), false, ([] : List Int), ([] : List (S33)), 0, false)) else (some (4, a0, false, ([] : List Int), ([] : List (S33)), 0, true)))) else (some (4, a0, false, ([] : List Int), ([] : List (S33)), 0, true)))))) else (none)) = some (r1, r2, r3, r4, r5, r6, r7) := by rw [if_neg (show ¬ (false = true) by decide)] at H; exact H
               clear H
               have H := H1
               clear H1
               by_cases c57 : 0 < (a0.size : Int)
               ·rw [if_pos c57] at H
                have c57b0 : decide (0 < (a0.size : Int)) = true := decide_eq_true c57
                have c57b1 : decide (0 < a0.size) = true := decide_eq_true (by omega)
                clear c57
                by_cases c59 : (bt a0 0) = 35
                ·rw [if_pos c59] at H
                 have c59b0 : ((bt a0 0) == 35) = true := beq_iff_eq.mpr c59
                 have c59b1 : ((bt a0 0) != 35) = false := bne_eq_false_iff_eq.mpr c59
                 clear c59
                 simp only [Option.some.injEq, Prod.mk.injEq] at H
                 obtain ⟨rfl, rfl, rfl, rfl, rfl, rfl, rfl⟩ := H
                 obtain ⟨Ao60, co60, eo60⟩ := Kd.R_slice HO_6.out
                 subst eo60
                 go_wp2_with (first|(go_at_call 19;(with_reducible refine (slices_ContainsFunc_int_int_utf_Ends.calls kj24 _ _ t168  false _ ?side1 ?side2 A51.out).mono ?_);(case side1 => repeat (first|exact (Kd.R_reads' HO_6.out).2.2|(with_reducible refine Kd.C_alloc ?_ _)|(with_reducible refine Kd.C_drewN ?_ _)|(with_reducible refine Kd.C_drew ?_)));(case side2 => exact (Kd.R_reads' HO_6.out).2.1);rintro e w' ⟨rfl, ⟨nd, rfl⟩⟩;(try (rw [drewN_self wc];generalize hq_ : World.drewN wc _ = wc;have n0_ : Aside0 (Kd.V (Kd.int .u32) 73 wc w.heap.size (fun k_ => (w.heap.size ≤ k_) ∧ some k_ ≠ (.slice Ao60 t168.length co60 : Value).ownBlock ∧ k_ ≠ gb158 ∧ k_ ≠ gb164) (.slice Ao30 t160.length co30) t160) := ⟨by rw [← hq_];exact (by (with_reducible repeat (first|apply Kd.V_alloc|apply Kd.V_drewN|apply Kd.V_drew));exact HO_165001.out)⟩;have n1_ : Aside0 (Kd.R (Kd.int .i64) 3 wc w.heap.size (fun k_ => (w.heap.size ≤ k_)) (.slice Ao60 t168.length co60) t168) := ⟨by rw [← hq_];exact (by (with_reducible repeat (first|apply Kd.R_alloc|apply Kd.R_drewN|apply Kd.R_drew));exact HO_6.out)⟩;have n2_ : Aside0 (wc.heap[gb158]? = some (.cells #[.int .i64 0, .string (⟨#[]⟩ : ByteArray), .bool false, .slice none 0 0, .slice none 0 0, .int .i64 0] 33 (0, 0))) := ⟨by rw [← hq_];exact (by (with_reducible repeat (first|refine blk_drewN ?_ _|refine blk_drew ?_|refine blk_alloc ?_ _));exact BK158.out)⟩;have n3_ : Aside0 (wc.heap[gb164]? = some (.cells #[.bool t159, .slice Ao30 t160.length co30] 30 (0, 0))) := ⟨by rw [← hq_];exact (by (with_reducible repeat (first|refine blk_drewN ?_ _|refine blk_drew ?_|refine blk_alloc ?_ _));exact BK164.out)⟩;have n4_ : Aside0 (Below w.heap.size w wc) := ⟨by rw [← hq_];exact (by repeat (first|(with_reducible first|exact HB.out|apply below_alloc|apply pw_below_drewN|apply below_drew1|refine below_set ?_ GE158.out|refine below_set ?_ GE164.out)|exact HB.out))⟩;clear HO_165001 HO_6 BK158 BK164 HB hq_;have HO_165001 := n0_;have HO_6 := n1_;have BK158 := n2_;have BK164 := n3_;have HB := n4_;clear n0_ n1_ n2_ n3_ n4_));have p58 : 0 ≤ (0 : Int) := (by omega);have q58 : 0 < a0.size := (by have : (0 : Int) < (a0.size : Int) := of_decide_eq_true (by first|(with_reducible assumption)|assumption);omega);have hx58 : ∀ h : 0 < a0.size, ((a0[0]'h).toNat : Int) = bt a0 0 := bt_at a0 0;clear p58;have qi58 : (0 < (a0.size : Int)) = True := eq_true (of_decide_eq_true (by first|(with_reducible assumption)|assumption));replace q58 := eq_true q58;have hnb61 := NB158_164.out;have hnc61 := NB164_158.out;have hcz62_0 : wc.cell? ⟨gb158, 0, none⟩ = some (.int .i64 0) := (blk_cell BK158.out 0).trans rfl;have hcz62_1 : wc.cell? ⟨gb158, 1, none⟩ = some (.string (⟨#[]⟩ : ByteArray)) := (blk_cell BK158.out 1).trans rfl;have hcz62_2 : wc.cell? ⟨gb158, 2, none⟩ = some (.bool false) := (blk_cell BK158.out 2).trans rfl;have hcz62_3 : wc.cell? ⟨gb158, 3, none⟩ = some (.slice none 0 0) := (blk_cell BK158.out 3).trans rfl;have hcz62_4 : wc.cell? ⟨gb158, 4, none⟩ = some (.slice none 0 0) := (blk_cell BK158.out 4).trans rfl;have hcz62_5 : wc.cell? ⟨gb158, 5, none⟩ = some (.int .i64 0) := (blk_cell BK158.out 5).trans rfl;have hfz62_0 := blk_frozen BK158.out 0;have hfz62_1 := blk_frozen BK158.out 1;have hfz62_2 := blk_frozen BK158.out 2;have hfz62_3 := blk_frozen BK158.out 3;have hfz62_4 := blk_frozen BK158.out 4;have hfz62_5 := blk_frozen BK158.out 5)|((with_reducible refine gate_store (t := 33) (p := 2) rfl ?_);refine store_event (t := 33) (p := 2) (v := ?vo_w63) (w1 := ((((((wc.setCell ⟨gb158, 0, none⟩ (.int .i64 0)).setCell ⟨gb158, 1, none⟩ (.string (⟨#[]⟩ : ByteArray))).setCell ⟨gb158, 2, none⟩ (.bool false)).setCell ⟨gb158, 3, none⟩ (.slice none 0 0)).setCell ⟨gb158, 4, none⟩ (.slice none 0 0)).setCell ⟨gb158, 5, none⟩ (.int .i64 0))) ?hg ?ho ?hn ?hr ?_;(case ho => rfl);(case hg => rfl);(case hn => rfl);(case hr => first|(go_simp;done)|(go_simp;rfl));intro w63 hw;have n0_ : Aside0 (Kd.R (Kd.int .i64) 3 w63 w.heap.size (fun k_ => (w.heap.size ≤ k_)) (.slice Ao60 t168.length co60) t168) := ⟨(by rw [hw];exact (by (with_reducible repeat (first|apply Kd.R_alloc|apply Kd.R_drewN|apply Kd.R_drew));exact Kd.R_mono (Kd.R_far (p := ⟨gb158, 5, none⟩) (Kd.R_far (p := ⟨gb158, 4, none⟩) (Kd.R_far (p := ⟨gb158, 3, none⟩) (Kd.R_far (p := ⟨gb158, 2, none⟩) (Kd.R_far (p := ⟨gb158, 1, none⟩) (Kd.R_far (p := ⟨gb158, 0, none⟩) (Kd.R_types HO_6.out BK158.out (by decide)) (fun _ hk => hk.2) (.int .i64 0)) (fun _ hk => hk.2) (.string (⟨#[]⟩ : ByteArray))) (fun _ hk => hk.2) (.bool false)) (fun _ hk => hk.2) (.slice none 0 0)) (fun _ hk => hk.2) (.slice none 0 0)) (fun _ hk => hk.2) (.int .i64 0)) (fun _ hk => hk.1)))⟩;have n1_ : Aside0 (Kd.V (Kd.int .u32) 73 w63 w.heap.size (fun k_ => (w.heap.size ≤ k_) ∧ some k_ ≠ (.slice Ao60 t168.length co60 : Value).ownBlock ∧ k_ ≠ gb158 ∧ k_ ≠ gb164) (.slice Ao30 t160.length co30) t160) := ⟨(by rw [hw];exact (by (with_reducible repeat (first|apply Kd.V_alloc|apply Kd.V_drewN|apply Kd.V_drew));exact Kd.V_mono (Kd.V_far (p := ⟨gb158, 5, none⟩) (Kd.V_far (p := ⟨gb158, 4, none⟩) (Kd.V_far (p := ⟨gb158, 3, none⟩) (Kd.V_far (p := ⟨gb158, 2, none⟩) (Kd.V_far (p := ⟨gb158, 1, none⟩) (Kd.V_far (p := ⟨gb158, 0, none⟩) (Kd.V_mono HO_165001.out (fun k_ hk => (⟨hk, hk.2.2.1⟩ : _ ∧ k_ ≠ gb158))) (fun _ hk => hk.2) (.int .i64 0)) (fun _ hk => hk.2) (.string (⟨#[]⟩ : ByteArray))) (fun _ hk => hk.2) (.bool false)) (fun _ hk => hk.2) (.slice none 0 0)) (fun _ hk => hk.2) (.slice none 0 0)) (fun _ hk => hk.2) (.int .i64 0)) (fun _ hk => ⟨hk.1.1, ⟨hk.1.2.1, ⟨hk.1.2.2.1, hk.1.2.2.2⟩⟩⟩)))⟩;have n2_ : Aside0 (w63.heap[gb158]? = some (.cells #[.int .i64 0, .string (⟨#[]⟩ : ByteArray), .bool false, .slice none 0 0, .slice none 0 0, .int .i64 0] 33 (0, 0))) := ⟨(by rw [hw];exact (by (with_reducible repeat (first|refine blk_drewN ?_ _|refine blk_drew ?_|refine blk_alloc ?_ _));refine blk_put (cs := #[.int .i64 0, .string (⟨#[]⟩ : ByteArray), .bool false, .slice none 0 0, .slice none 0 0, .int .i64 0]) ?_ 5 _ rfl;(with_reducible repeat (first|refine blk_drewN ?_ _|refine blk_drew ?_|refine blk_alloc ?_ _));refine blk_put (cs := #[.int .i64 0, .string (⟨#[]⟩ : ByteArray), .bool false, .slice none 0 0, .slice none 0 0, .int .i64 0]) ?_ 4 _ rfl;(with_reducible repeat (first|refine blk_drewN ?_ _|refine blk_drew ?_|refine blk_alloc ?_ _));refine blk_put (cs := #[.int .i64 0, .string (⟨#[]⟩ : ByteArray), .bool false, .slice none 0 0, .slice none 0 0, .int .i64 0]) ?_ 3 _ rfl;(with_reducible repeat (first|refine blk_drewN ?_ _|refine blk_drew ?_|refine blk_alloc ?_ _));refine blk_put (cs := #[.int .i64 0, .string (⟨#[]⟩ : ByteArray), .bool false, .slice none 0 0, .slice none 0 0, .int .i64 0]) ?_ 2 _ rfl;(with_reducible repeat (first|refine blk_drewN ?_ _|refine blk_drew ?_|refine blk_alloc ?_ _));refine blk_put (cs := #[.int .i64 0, .string (⟨#[]⟩ : ByteArray), .bool false, .slice none 0 0, .slice none 0 0, .int .i64 0]) ?_ 1 _ rfl;(with_reducible repeat (first|refine blk_drewN ?_ _|refine blk_drew ?_|refine blk_alloc ?_ _));refine blk_put (cs := #[.int .i64 0, .string (⟨#[]⟩ : ByteArray), .bool false, .slice none 0 0, .slice none 0 0, .int .i64 0]) ?_ 0 _ rfl;(with_reducible repeat (first|refine blk_drewN ?_ _|refine blk_drew ?_|refine blk_alloc ?_ _));exact BK158.out))⟩;have n3_ : Aside0 (w63.heap[gb164]? = some (.cells #[.bool t159, .slice Ao30 t160.length co30] 30 (0, 0))) := ⟨(by rw [hw];exact (by (with_reducible repeat (first|refine blk_drewN ?_ _|refine blk_drew ?_|refine blk_alloc ?_ _));refine blk_far ?_ NB164_158.out _;(with_reducible repeat (first|refine blk_drewN ?_ _|refine blk_drew ?_|refine blk_alloc ?_ _));refine blk_far ?_ NB164_158.out _;(with_reducible repeat (first|refine blk_drewN ?_ _|refine blk_drew ?_|refine blk_alloc ?_ _));refine blk_far ?_ NB164_158.out _;(with_reducible repeat (first|refine blk_drewN ?_ _|refine blk_drew ?_|refine blk_alloc ?_ _));refine blk_far ?_ NB164_158.out _;(with_reducible repeat (first|refine blk_drewN ?_ _|refine blk_drew ?_|refine blk_alloc ?_ _));refine blk_far ?_ NB164_158.out _;(with_reducible repeat (first|refine blk_drewN ?_ _|refine blk_drew ?_|refine blk_alloc ?_ _));refine blk_far ?_ NB164_158.out _;(with_reducible repeat (first|refine blk_drewN ?_ _|refine blk_drew ?_|refine blk_alloc ?_ _));exact BK164.out))⟩;have n4_ : Aside0 (Below w.heap.size w w63) := ⟨(by rw [hw];exact (by repeat (first|(with_reducible first|exact HB.out|apply below_alloc|apply pw_below_drewN|apply below_drew1|refine below_set ?_ GE158.out|refine below_set ?_ GE164.out)|exact HB.out)))⟩;clear hw;clear HO_6;clear HO_165001;clear BK158;clear BK164;clear HB;have HO_6 := n0_;have HO_165001 := n1_;have BK158 := n2_;have BK164 := n3_;have HB := n4_;clear n0_ n1_ n2_ n3_ n4_))
                 refine bodyPost_ret (results_ct rfl _ _ gb158 33 #[.int .i64 0, .string (⟨#[]⟩ : ByteArray), .bool false, .slice none 0 0, .slice none 0 0, .int .i64 0] (0, 0) _ rfl (by (with_reducible repeat (first|refine blk_drewN ?_ _|refine blk_drew ?_|refine blk_alloc ?_ _));exact BK158.out) Tryd.underlying33 rfl (by kernel_rfl)) rfl ?_
                 exact ⟨_, _, by first|rfl|(simp [errW_none, errW_some] <;> rfl)|(simp [*, errW_none, errW_some] <;> rfl), Kd.V_nil _ _ _ _ _, by first|exact Kd.R_nil _ _ _ _ _|exact Kd.N_nil _ _ _ _ _|exact Kd.V_nil _ _ _ _ _|exact Kd.Q_nil _ _ _ _ _|exact Kd.S_nil _ _ _ _ _, by repeat (first|(with_reducible first|exact HB.out|apply below_alloc|apply pw_below_drewN|apply below_drew1|refine below_set ?_ GE158.out|refine below_set ?_ GE164.out)|exact HB.out)⟩
                ·rw [if_neg c59] at H
                 have c59b0 : ((bt a0 0) == 35) = false := beq_eq_false_iff_ne.mpr c59
                 have c59b1 : ((bt a0 0) != 35) = true := bne_iff_ne.mpr c59
                 replace H := Option.bind_eq_some_iff.mp H
                 obtain ⟨t176, A640, H⟩ := H
                 replace H : (if t176 = true then (some (0, (⟨#[]⟩ : ByteArray), false, ([] : List Int), ([] : List (S33)), 0, false)) else (if x9_24 = true then ((token_digit.f a0 1).bind fun t177 => (if t177 = true then (some (0, (⟨#[]⟩ : ByteArray), false, ([] : List Int), ([] : List (S33)), 0, false)) else (some (4, a0, false, ([] : List Int), ([] : List (S33)), 0, true)))) else (some (4, a0, false, ([] : List Int), ([] : List (S33)), 0, true)))) = some (r1, r2, r3, r4, r5, r6, r7) := H
                 have A64 := Aside0.mk A640
                 clear A640
                 by_cases c65 : t176 = true
                 ·subst c65
                  have H1 : (some (0, (⟨#[]⟩ : ByteArray), false, ([] : List Int), ([] : List (S33)), 0, false)) = some (r1, r2, r3, r4, r5, r6, r7) := by rw [if_pos rfl] at H; exact H
                  clear H
                  have H := H1
                  clear H1
                  simp only [Option.some.injEq, Prod.mk.injEq] at H
                  obtain ⟨rfl, rfl, rfl, rfl, rfl, rfl, rfl⟩ := H
                  obtain ⟨Ao66, co66, eo66⟩ := Kd.R_slice HO_6.out
                  subst eo66
                  go_wp2_with (first|(go_at_call 19;(with_reducible refine (slices_ContainsFunc_int_int_utf_Ends.calls kj24 _ _ t168  false _ ?side1 ?side2 A51.out).mono ?_);(case side1 => repeat (first|exact (Kd.R_reads' HO_6.out).2.2|(with_reducible refine Kd.C_alloc ?_ _)|(with_reducible refine Kd.C_drewN ?_ _)|(with_reducible refine Kd.C_drew ?_)));(case side2 => exact (Kd.R_reads' HO_6.out).2.1);rintro e w' ⟨rfl, ⟨nd, rfl⟩⟩;(try (rw [drewN_self wc];generalize hq_ : World.drewN wc _ = wc;have n0_ : Aside0 (Kd.V (Kd.int .u32) 73 wc w.heap.size (fun k_ => (w.heap.size ≤ k_) ∧ some k_ ≠ (.slice Ao66 t168.length co66 : Value).ownBlock ∧ k_ ≠ gb158 ∧ k_ ≠ gb164) (.slice Ao30 t160.length co30) t160) := ⟨by rw [← hq_];exact (by (with_reducible repeat (first|apply Kd.V_alloc|apply Kd.V_drewN|apply Kd.V_drew));exact HO_165001.out)⟩;have n1_ : Aside0 (Kd.R (Kd.int .i64) 3 wc w.heap.size (fun k_ => (w.heap.size ≤ k_)) (.slice Ao66 t168.length co66) t168) := ⟨by rw [← hq_];exact (by (with_reducible repeat (first|apply Kd.R_alloc|apply Kd.R_drewN|apply Kd.R_drew));exact HO_6.out)⟩;have n2_ : Aside0 (wc.heap[gb158]? = some (.cells #[.int .i64 0, .string (⟨#[]⟩ : ByteArray), .bool false, .slice none 0 0, .slice none 0 0, .int .i64 0] 33 (0, 0))) := ⟨by rw [← hq_];exact (by (with_reducible repeat (first|refine blk_drewN ?_ _|refine blk_drew ?_|refine blk_alloc ?_ _));exact BK158.out)⟩;have n3_ : Aside0 (wc.heap[gb164]? = some (.cells #[.bool t159, .slice Ao30 t160.length co30] 30 (0, 0))) := ⟨by rw [← hq_];exact (by (with_reducible repeat (first|refine blk_drewN ?_ _|refine blk_drew ?_|refine blk_alloc ?_ _));exact BK164.out)⟩;have n4_ : Aside0 (Below w.heap.size w wc) := ⟨by rw [← hq_];exact (by repeat (first|(with_reducible first|exact HB.out|apply below_alloc|apply pw_below_drewN|apply below_drew1|refine below_set ?_ GE158.out|refine below_set ?_ GE164.out)|exact HB.out))⟩;clear HO_165001 HO_6 BK158 BK164 HB hq_;have HO_165001 := n0_;have HO_6 := n1_;have BK158 := n2_;have BK164 := n3_;have HB := n4_;clear n0_ n1_ n2_ n3_ n4_));have p58 : 0 ≤ (0 : Int) := (by omega);have q58 : 0 < a0.size := (by have : (0 : Int) < (a0.size : Int) := of_decide_eq_true (by first|(with_reducible assumption)|assumption);omega);have hx58 : ∀ h : 0 < a0.size, ((a0[0]'h).toNat : Int) = bt a0 0 := bt_at a0 0;clear p58;have qi58 : (0 < (a0.size : Int)) = True := eq_true (of_decide_eq_true (by first|(with_reducible assumption)|assumption));replace q58 := eq_true q58)|(go_at_call 21;(with_reducible refine (token_digit.calls a0 0 true _ A64.out).mono ?_);rintro e w' ⟨rfl, ⟨nd, rfl⟩⟩;(try (rw [drewN_self wc];generalize hq_ : World.drewN wc _ = wc;have n0_ : Aside0 (Kd.V (Kd.int .u32) 73 wc w.heap.size (fun k_ => (w.heap.size ≤ k_) ∧ some k_ ≠ (.slice Ao66 t168.length co66 : Value).ownBlock ∧ k_ ≠ gb158 ∧ k_ ≠ gb164) (.slice Ao30 t160.length co30) t160) := ⟨by rw [← hq_];exact (by (with_reducible repeat (first|apply Kd.V_alloc|apply Kd.V_drewN|apply Kd.V_drew));exact HO_165001.out)⟩;have n1_ : Aside0 (Kd.R (Kd.int .i64) 3 wc w.heap.size (fun k_ => (w.heap.size ≤ k_)) (.slice Ao66 t168.length co66) t168) := ⟨by rw [← hq_];exact (by (with_reducible repeat (first|apply Kd.R_alloc|apply Kd.R_drewN|apply Kd.R_drew));exact HO_6.out)⟩;have n2_ : Aside0 (wc.heap[gb158]? = some (.cells #[.int .i64 0, .string (⟨#[]⟩ : ByteArray), .bool false, .slice none 0 0, .slice none 0 0, .int .i64 0] 33 (0, 0))) := ⟨by rw [← hq_];exact (by (with_reducible repeat (first|refine blk_drewN ?_ _|refine blk_drew ?_|refine blk_alloc ?_ _));exact BK158.out)⟩;have n3_ : Aside0 (wc.heap[gb164]? = some (.cells #[.bool t159, .slice Ao30 t160.length co30] 30 (0, 0))) := ⟨by rw [← hq_];exact (by (with_reducible repeat (first|refine blk_drewN ?_ _|refine blk_drew ?_|refine blk_alloc ?_ _));exact BK164.out)⟩;have n4_ : Aside0 (Below w.heap.size w wc) := ⟨by rw [← hq_];exact (by repeat (first|(with_reducible first|exact HB.out|apply below_alloc|apply pw_below_drewN|apply below_drew1|refine below_set ?_ GE158.out|refine below_set ?_ GE164.out)|exact HB.out))⟩;clear HO_165001 HO_6 BK158 BK164 HB hq_;have HO_165001 := n0_;have HO_6 := n1_;have BK158 := n2_;have BK164 := n3_;have HB := n4_;clear n0_ n1_ n2_ n3_ n4_));have hnb67 := NB158_164.out;have hnc67 := NB164_158.out;have hcz68_0 : wc.cell? ⟨gb158, 0, none⟩ = some (.int .i64 0) := (blk_cell BK158.out 0).trans rfl;have hcz68_1 : wc.cell? ⟨gb158, 1, none⟩ = some (.string (⟨#[]⟩ : ByteArray)) := (blk_cell BK158.out 1).trans rfl;have hcz68_2 : wc.cell? ⟨gb158, 2, none⟩ = some (.bool false) := (blk_cell BK158.out 2).trans rfl;have hcz68_3 : wc.cell? ⟨gb158, 3, none⟩ = some (.slice none 0 0) := (blk_cell BK158.out 3).trans rfl;have hcz68_4 : wc.cell? ⟨gb158, 4, none⟩ = some (.slice none 0 0) := (blk_cell BK158.out 4).trans rfl;have hcz68_5 : wc.cell? ⟨gb158, 5, none⟩ = some (.int .i64 0) := (blk_cell BK158.out 5).trans rfl;have hfz68_0 := blk_frozen BK158.out 0;have hfz68_1 := blk_frozen BK158.out 1;have hfz68_2 := blk_frozen BK158.out 2;have hfz68_3 := blk_frozen BK158.out 3;have hfz68_4 := blk_frozen BK158.out 4;have hfz68_5 := blk_frozen BK158.out 5)|((with_reducible refine gate_store (t := 33) (p := 2) rfl ?_);refine store_event (t := 33) (p := 2) (v := ?vo_w69) (w1 := ((((((wc.setCell ⟨gb158, 0, none⟩ (.int .i64 0)).setCell ⟨gb158, 1, none⟩ (.string (⟨#[]⟩ : ByteArray))).setCell ⟨gb158, 2, none⟩ (.bool false)).setCell ⟨gb158, 3, none⟩ (.slice none 0 0)).setCell ⟨gb158, 4, none⟩ (.slice none 0 0)).setCell ⟨gb158, 5, none⟩ (.int .i64 0))) ?hg ?ho ?hn ?hr ?_;(case ho => rfl);(case hg => rfl);(case hn => rfl);(case hr => first|(go_simp;done)|(go_simp;rfl));intro w69 hw;have n0_ : Aside0 (Kd.R (Kd.int .i64) 3 w69 w.heap.size (fun k_ => (w.heap.size ≤ k_)) (.slice Ao66 t168.length co66) t168) := ⟨(by rw [hw];exact (by (with_reducible repeat (first|apply Kd.R_alloc|apply Kd.R_drewN|apply Kd.R_drew));exact Kd.R_mono (Kd.R_far (p := ⟨gb158, 5, none⟩) (Kd.R_far (p := ⟨gb158, 4, none⟩) (Kd.R_far (p := ⟨gb158, 3, none⟩) (Kd.R_far (p := ⟨gb158, 2, none⟩) (Kd.R_far (p := ⟨gb158, 1, none⟩) (Kd.R_far (p := ⟨gb158, 0, none⟩) (Kd.R_types HO_6.out BK158.out (by decide)) (fun _ hk => hk.2) (.int .i64 0)) (fun _ hk => hk.2) (.string (⟨#[]⟩ : ByteArray))) (fun _ hk => hk.2) (.bool false)) (fun _ hk => hk.2) (.slice none 0 0)) (fun _ hk => hk.2) (.slice none 0 0)) (fun _ hk => hk.2) (.int .i64 0)) (fun _ hk => hk.1)))⟩;have n1_ : Aside0 (Kd.V (Kd.int .u32) 73 w69 w.heap.size (fun k_ => (w.heap.size ≤ k_) ∧ some k_ ≠ (.slice Ao66 t168.length co66 : Value).ownBlock ∧ k_ ≠ gb158 ∧ k_ ≠ gb164) (.slice Ao30 t160.length co30) t160) := ⟨(by rw [hw];exact (by (with_reducible repeat (first|apply Kd.V_alloc|apply Kd.V_drewN|apply Kd.V_drew));exact Kd.V_mono (Kd.V_far (p := ⟨gb158, 5, none⟩) (Kd.V_far (p := ⟨gb158, 4, none⟩) (Kd.V_far (p := ⟨gb158, 3, none⟩) (Kd.V_far (p := ⟨gb158, 2, none⟩) (Kd.V_far (p := ⟨gb158, 1, none⟩) (Kd.V_far (p := ⟨gb158, 0, none⟩) (Kd.V_mono HO_165001.out (fun k_ hk => (⟨hk, hk.2.2.1⟩ : _ ∧ k_ ≠ gb158))) (fun _ hk => hk.2) (.int .i64 0)) (fun _ hk => hk.2) (.string (⟨#[]⟩ : ByteArray))) (fun _ hk => hk.2) (.bool false)) (fun _ hk => hk.2) (.slice none 0 0)) (fun _ hk => hk.2) (.slice none 0 0)) (fun _ hk => hk.2) (.int .i64 0)) (fun _ hk => ⟨hk.1.1, ⟨hk.1.2.1, ⟨hk.1.2.2.1, hk.1.2.2.2⟩⟩⟩)))⟩;have n2_ : Aside0 (w69.heap[gb158]? = some (.cells #[.int .i64 0, .string (⟨#[]⟩ : ByteArray), .bool false, .slice none 0 0, .slice none 0 0, .int .i64 0] 33 (0, 0))) := ⟨(by rw [hw];exact (by (with_reducible repeat (first|refine blk_drewN ?_ _|refine blk_drew ?_|refine blk_alloc ?_ _));refine blk_put (cs := #[.int .i64 0, .string (⟨#[]⟩ : ByteArray), .bool false, .slice none 0 0, .slice none 0 0, .int .i64 0]) ?_ 5 _ rfl;(with_reducible repeat (first|refine blk_drewN ?_ _|refine blk_drew ?_|refine blk_alloc ?_ _));refine blk_put (cs := #[.int .i64 0, .string (⟨#[]⟩ : ByteArray), .bool false, .slice none 0 0, .slice none 0 0, .int .i64 0]) ?_ 4 _ rfl;(with_reducible repeat (first|refine blk_drewN ?_ _|refine blk_drew ?_|refine blk_alloc ?_ _));refine blk_put (cs := #[.int .i64 0, .string (⟨#[]⟩ : ByteArray), .bool false, .slice none 0 0, .slice none 0 0, .int .i64 0]) ?_ 3 _ rfl;(with_reducible repeat (first|refine blk_drewN ?_ _|refine blk_drew ?_|refine blk_alloc ?_ _));refine blk_put (cs := #[.int .i64 0, .string (⟨#[]⟩ : ByteArray), .bool false, .slice none 0 0, .slice none 0 0, .int .i64 0]) ?_ 2 _ rfl;(with_reducible repeat (first|refine blk_drewN ?_ _|refine blk_drew ?_|refine blk_alloc ?_ _));refine blk_put (cs := #[.int .i64 0, .string (⟨#[]⟩ : ByteArray), .bool false, .slice none 0 0, .slice none 0 0, .int .i64 0]) ?_ 1 _ rfl;(with_reducible repeat (first|refine blk_drewN ?_ _|refine blk_drew ?_|refine blk_alloc ?_ _));refine blk_put (cs := #[.int .i64 0, .string (⟨#[]⟩ : ByteArray), .bool false, .slice none 0 0, .slice none 0 0, .int .i64 0]) ?_ 0 _ rfl;(with_reducible repeat (first|refine blk_drewN ?_ _|refine blk_drew ?_|refine blk_alloc ?_ _));exact BK158.out))⟩;have n3_ : Aside0 (w69.heap[gb164]? = some (.cells #[.bool t159, .slice Ao30 t160.length co30] 30 (0, 0))) := ⟨(by rw [hw];exact (by (with_reducible repeat (first|refine blk_drewN ?_ _|refine blk_drew ?_|refine blk_alloc ?_ _));refine blk_far ?_ NB164_158.out _;(with_reducible repeat (first|refine blk_drewN ?_ _|refine blk_drew ?_|refine blk_alloc ?_ _));refine blk_far ?_ NB164_158.out _;(with_reducible repeat (first|refine blk_drewN ?_ _|refine blk_drew ?_|refine blk_alloc ?_ _));refine blk_far ?_ NB164_158.out _;(with_reducible repeat (first|refine blk_drewN ?_ _|refine blk_drew ?_|refine blk_alloc ?_ _));refine blk_far ?_ NB164_158.out _;(with_reducible repeat (first|refine blk_drewN ?_ _|refine blk_drew ?_|refine blk_alloc ?_ _));refine blk_far ?_ NB164_158.out _;(with_reducible repeat (first|refine blk_drewN ?_ _|refine blk_drew ?_|refine blk_alloc ?_ _));refine blk_far ?_ NB164_158.out _;(with_reducible repeat (first|refine blk_drewN ?_ _|refine blk_drew ?_|refine blk_alloc ?_ _));exact BK164.out))⟩;have n4_ : Aside0 (Below w.heap.size w w69) := ⟨(by rw [hw];exact (by repeat (first|(with_reducible first|exact HB.out|apply below_alloc|apply pw_below_drewN|apply below_drew1|refine below_set ?_ GE158.out|refine below_set ?_ GE164.out)|exact HB.out)))⟩;clear hw;clear HO_6;clear HO_165001;clear BK158;clear BK164;clear HB;have HO_6 := n0_;have HO_165001 := n1_;have BK158 := n2_;have BK164 := n3_;have HB := n4_;clear n0_ n1_ n2_ n3_ n4_))
                  refine bodyPost_ret (results_ct rfl _ _ gb158 33 #[.int .i64 0, .string (⟨#[]⟩ : ByteArray), .bool false, .slice none 0 0, .slice none 0 0, .int .i64 0] (0, 0) _ rfl (by (with_reducible repeat (first|refine blk_drewN ?_ _|refine blk_drew ?_|refine blk_alloc ?_ _));exact BK158.out) Tryd.underlying33 rfl (by kernel_rfl)) rfl ?_
                  exact ⟨_, _, by first|rfl|(simp [errW_none, errW_some] <;> rfl)|(simp [*, errW_none, errW_some] <;> rfl), Kd.V_nil _ _ _ _ _, by first|exact Kd.R_nil _ _ _ _ _|exact Kd.N_nil _ _ _ _ _|exact Kd.V_nil _ _ _ _ _|exact Kd.Q_nil _ _ _ _ _|exact Kd.S_nil _ _ _ _ _, by repeat (first|(with_reducible first|exact HB.out|apply below_alloc|apply pw_below_drewN|apply below_drew1|refine below_set ?_ GE158.out|refine below_set ?_ GE164.out)|exact HB.out)⟩
                 ·replace c65 := Bool.eq_false_iff.mpr c65
                  subst c65
                  have H1 : (if x9_24 = true then ((token_digit.f a0 1).bind fun t177 => (if t177 = true then (some (0, (⟨#[]⟩ : ByteArray), false, ([] : List Int), ([] : List (S33)), 0, false)) else (some (4, a0, false, ([] : List Int), ([] : List (S33)), 0, true)))) else (some (4, a0, false, ([] : List Int), ([] : List (S33)), 0, true))) = some (r1, r2, r3, r4, r5, r6, r7) := by rw [if_neg (show ¬ (false = true) by decide)] at H; exact H
                  clear H
                  have H := H1
                  clear H1
                  by_cases c70 : x9_24 = true
                  ·subst c70
                   have H1 : ((token_digit.f a0 1).bind fun t177 => (if t177 = true then (some (0, (⟨#[]⟩ : ByteArray), false, ([] : List Int), ([] : List (S33)), 0, false)) else (some (4, a0, false, ([] : List Int), ([] : List (S33)), 0, true)))) = some (r1, r2, r3, r4, r5, r6, r7) := by rw [if_pos rfl] at H; exact H
                   clear H
                   have H := H1
                   clear H1
                   replace H := Option.bind_eq_some_iff.mp H
                   obtain ⟨t177, A710, H⟩ := H
                   replace H : (if t177 = true then (some (0, (⟨#[]⟩ : ByteArray), false, ([] : List Int), ([] : List (S33)), 0, false)) else (some (4, a0, false, ([] : List Int), ([] : List (S33)), 0, true))) = some (r1, r2, r3, r4, r5, r6, r7) := H
                   have A71 := Aside0.mk A710
                   clear A710
                   by_cases c72 : t177 = true
                   ·subst c72
                    have H1 : (some (0, (⟨#[]⟩ : ByteArray), false, ([] : List Int), ([] : List (S33)), 0, false)) = some (r1, r2, r3, r4, r5, r6, r7) := by rw [if_pos rfl] at H; exact H
                    clear H
                    have H := H1
                    clear H1
                    simp only [Option.some.injEq, Prod.mk.injEq] at H
                    obtain ⟨rfl, rfl, rfl, rfl, rfl, rfl, rfl⟩ := H
                    obtain ⟨Ao73, co73, eo73⟩ := Kd.R_slice HO_6.out
                    subst eo73
                    go_wp2_with (first|(go_at_call 19;(with_reducible refine (slices_ContainsFunc_int_int_utf_Ends.calls kj24 _ _ t168  false _ ?side1 ?side2 A51.out).mono ?_);(case side1 => repeat (first|exact (Kd.R_reads' HO_6.out).2.2|(with_reducible refine Kd.C_alloc ?_ _)|(with_reducible refine Kd.C_drewN ?_ _)|(with_reducible refine Kd.C_drew ?_)));(case side2 => exact (Kd.R_reads' HO_6.out).2.1);rintro e w' ⟨rfl, ⟨nd, rfl⟩⟩;(try (rw [drewN_self wc];generalize hq_ : World.drewN wc _ = wc;have n0_ : Aside0 (Kd.V (Kd.int .u32) 73 wc w.heap.size (fun k_ => (w.heap.size ≤ k_) ∧ some k_ ≠ (.slice Ao73 t168.length co73 : Value).ownBlock ∧ k_ ≠ gb158 ∧ k_ ≠ gb164) (.slice Ao30 t160.length co30) t160) := ⟨by rw [← hq_];exact (by (with_reducible repeat (first|apply Kd.V_alloc|apply Kd.V_drewN|apply Kd.V_drew));exact HO_165001.out)⟩;have n1_ : Aside0 (Kd.R (Kd.int .i64) 3 wc w.heap.size (fun k_ => (w.heap.size ≤ k_)) (.slice Ao73 t168.length co73) t168) := ⟨by rw [← hq_];exact (by (with_reducible repeat (first|apply Kd.R_alloc|apply Kd.R_drewN|apply Kd.R_drew));exact HO_6.out)⟩;have n2_ : Aside0 (wc.heap[gb158]? = some (.cells #[.int .i64 0, .string (⟨#[]⟩ : ByteArray), .bool false, .slice none 0 0, .slice none 0 0, .int .i64 0] 33 (0, 0))) := ⟨by rw [← hq_];exact (by (with_reducible repeat (first|refine blk_drewN ?_ _|refine blk_drew ?_|refine blk_alloc ?_ _));exact BK158.out)⟩;have n3_ : Aside0 (wc.heap[gb164]? = some (.cells #[.bool t159, .slice Ao30 t160.length co30] 30 (0, 0))) := ⟨by rw [← hq_];exact (by (with_reducible repeat (first|refine blk_drewN ?_ _|refine blk_drew ?_|refine blk_alloc ?_ _));exact BK164.out)⟩;have n4_ : Aside0 (Below w.heap.size w wc) := ⟨by rw [← hq_];exact (by repeat (first|(with_reducible first|exact HB.out|apply below_alloc|apply pw_below_drewN|apply below_drew1|refine below_set ?_ GE158.out|refine below_set ?_ GE164.out)|exact HB.out))⟩;clear HO_165001 HO_6 BK158 BK164 HB hq_;have HO_165001 := n0_;have HO_6 := n1_;have BK158 := n2_;have BK164 := n3_;have HB := n4_;clear n0_ n1_ n2_ n3_ n4_));have p58 : 0 ≤ (0 : Int) := (by omega);have q58 : 0 < a0.size := (by have : (0 : Int) < (a0.size : Int) := of_decide_eq_true (by first|(with_reducible assumption)|assumption);omega);have hx58 : ∀ h : 0 < a0.size, ((a0[0]'h).toNat : Int) = bt a0 0 := bt_at a0 0;clear p58;have qi58 : (0 < (a0.size : Int)) = True := eq_true (of_decide_eq_true (by first|(with_reducible assumption)|assumption));replace q58 := eq_true q58)|(go_at_call 21;(with_reducible refine (token_digit.calls a0 0 false _ A64.out).mono ?_);rintro e w' ⟨rfl, ⟨nd, rfl⟩⟩;(try (rw [drewN_self wc];generalize hq_ : World.drewN wc _ = wc;have n0_ : Aside0 (Kd.V (Kd.int .u32) 73 wc w.heap.size (fun k_ => (w.heap.size ≤ k_) ∧ some k_ ≠ (.slice Ao73 t168.length co73 : Value).ownBlock ∧ k_ ≠ gb158 ∧ k_ ≠ gb164) (.slice Ao30 t160.length co30) t160) := ⟨by rw [← hq_];exact (by (with_reducible repeat (first|apply Kd.V_alloc|apply Kd.V_drewN|apply Kd.V_drew));exact HO_165001.out)⟩;have n1_ : Aside0 (Kd.R (Kd.int .i64) 3 wc w.heap.size (fun k_ => (w.heap.size ≤ k_)) (.slice Ao73 t168.length co73) t168) := ⟨by rw [← hq_];exact (by (with_reducible repeat (first|apply Kd.R_alloc|apply Kd.R_drewN|apply Kd.R_drew));exact HO_6.out)⟩;have n2_ : Aside0 (wc.heap[gb158]? = some (.cells #[.int .i64 0, .string (⟨#[]⟩ : ByteArray), .bool false, .slice none 0 0, .slice none 0 0, .int .i64 0] 33 (0, 0))) := ⟨by rw [← hq_];exact (by (with_reducible repeat (first|refine blk_drewN ?_ _|refine blk_drew ?_|refine blk_alloc ?_ _));exact BK158.out)⟩;have n3_ : Aside0 (wc.heap[gb164]? = some (.cells #[.bool t159, .slice Ao30 t160.length co30] 30 (0, 0))) := ⟨by rw [← hq_];exact (by (with_reducible repeat (first|refine blk_drewN ?_ _|refine blk_drew ?_|refine blk_alloc ?_ _));exact BK164.out)⟩;have n4_ : Aside0 (Below w.heap.size w wc) := ⟨by rw [← hq_];exact (by repeat (first|(with_reducible first|exact HB.out|apply below_alloc|apply pw_below_drewN|apply below_drew1|refine below_set ?_ GE158.out|refine below_set ?_ GE164.out)|exact HB.out))⟩;clear HO_165001 HO_6 BK158 BK164 HB hq_;have HO_165001 := n0_;have HO_6 := n1_;have BK158 := n2_;have BK164 := n3_;have HB := n4_;clear n0_ n1_ n2_ n3_ n4_)))|(go_at_call 21;(with_reducible refine (token_digit.calls a0 1 true _ A71.out).mono ?_);rintro e w' ⟨rfl, ⟨nd, rfl⟩⟩;(try (rw [drewN_self wc];generalize hq_ : World.drewN wc _ = wc;have n0_ : Aside0 (Kd.V (Kd.int .u32) 73 wc w.heap.size (fun k_ => (w.heap.size ≤ k_) ∧ some k_ ≠ (.slice Ao73 t168.length co73 : Value).ownBlock ∧ k_ ≠ gb158 ∧ k_ ≠ gb164) (.slice Ao30 t160.length co30) t160) := ⟨by rw [← hq_];exact (by (with_reducible repeat (first|apply Kd.V_alloc|apply Kd.V_drewN|apply Kd.V_drew));exact HO_165001.out)⟩;have n1_ : Aside0 (Kd.R (Kd.int .i64) 3 wc w.heap.size (fun k_ => (w.heap.size ≤ k_)) (.slice Ao73 t168.length co73) t168) := ⟨by rw [← hq_];exact (by (with_reducible repeat (first|apply Kd.R_alloc|apply Kd.R_drewN|apply Kd.R_drew));exact HO_6.out)⟩;have n2_ : Aside0 (wc.heap[gb158]? = some (.cells #[.int .i64 0, .string (⟨#[]⟩ : ByteArray), .bool false, .slice none 0 0, .slice none 0 0, .int .i64 0] 33 (0, 0))) := ⟨by rw [← hq_];exact (by (with_reducible repeat (first|refine blk_drewN ?_ _|refine blk_drew ?_|refine blk_alloc ?_ _));exact BK158.out)⟩;have n3_ : Aside0 (wc.heap[gb164]? = some (.cells #[.bool t159, .slice Ao30 t160.length co30] 30 (0, 0))) := ⟨by rw [← hq_];exact (by (with_reducible repeat (first|refine blk_drewN ?_ _|refine blk_drew ?_|refine blk_alloc ?_ _));exact BK164.out)⟩;have n4_ : Aside0 (Below w.heap.size w wc) := ⟨by rw [← hq_];exact (by repeat (first|(with_reducible first|exact HB.out|apply below_alloc|apply pw_below_drewN|apply below_drew1|refine below_set ?_ GE158.out|refine below_set ?_ GE164.out)|exact HB.out))⟩;clear HO_165001 HO_6 BK158 BK164 HB hq_;have HO_165001 := n0_;have HO_6 := n1_;have BK158 := n2_;have BK164 := n3_;have HB := n4_;clear n0_ n1_ n2_ n3_ n4_));have hnb74 := NB158_164.out;have hnc74 := NB164_158.out;have hcz75_0 : wc.cell? ⟨gb158, 0, none⟩ = some (.int .i64 0) := (blk_cell BK158.out 0).trans rfl;have hcz75_1 : wc.cell? ⟨gb158, 1, none⟩ = some (.string (⟨#[]⟩ : ByteArray)) := (blk_cell BK158.out 1).trans rfl;have hcz75_2 : wc.cell? ⟨gb158, 2, none⟩ = some (.bool false) := (blk_cell BK158.out 2).trans rfl;have hcz75_3 : wc.cell? ⟨gb158, 3, none⟩ = some (.slice none 0 0) := (blk_cell BK158.out 3).trans rfl;have hcz75_4 : wc.cell? ⟨gb158, 4, none⟩ = some (.slice none 0 0) := (blk_cell BK158.out 4).trans rfl;have hcz75_5 : wc.cell? ⟨gb158, 5, none⟩ = some (.int .i64 0) := (blk_cell BK158.out 5).trans rfl;have hfz75_0 := blk_frozen BK158.out 0;have hfz75_1 := blk_frozen BK158.out 1;have hfz75_2 := blk_frozen BK158.out 2;have hfz75_3 := blk_frozen BK158.out 3;have hfz75_4 := blk_frozen BK158.out 4;have hfz75_5 := blk_frozen BK158.out 5)|((with_reducible refine gate_store (t := 33) (p := 2) rfl ?_);refine store_event (t := 33) (p := 2) (v := ?vo_w76) (w1 := ((((((wc.setCell ⟨gb158, 0, none⟩ (.int .i64 0)).setCell ⟨gb158, 1, none⟩ (.string (⟨#[]⟩ : ByteArray))).setCell ⟨gb158, 2, none⟩ (.bool false)).setCell ⟨gb158, 3, none⟩ (.slice none 0 0)).setCell ⟨gb158, 4, none⟩ (.slice none 0 0)).setCell ⟨gb158, 5, none⟩ (.int .i64 0))) ?hg ?ho ?hn ?hr ?_;(case ho => rfl);(case hg => rfl);(case hn => rfl);(case hr => first|(go_simp;done)|(go_simp;rfl));intro w76 hw;have n0_ : Aside0 (Kd.R (Kd.int .i64) 3 w76 w.heap.size (fun k_ => (w.heap.size ≤ k_)) (.slice Ao73 t168.length co73) t168) := ⟨(by rw [hw];exact (by (with_reducible repeat (first|apply Kd.R_alloc|apply Kd.R_drewN|apply Kd.R_drew));exact Kd.R_mono (Kd.R_far (p := ⟨gb158, 5, none⟩) (Kd.R_far (p := ⟨gb158, 4, none⟩) (Kd.R_far (p := ⟨gb158, 3, none⟩) (Kd.R_far (p := ⟨gb158, 2, none⟩) (Kd.R_far (p := ⟨gb158, 1, none⟩) (Kd.R_far (p := ⟨gb158, 0, none⟩) (Kd.R_types HO_6.out BK158.out (by decide)) (fun _ hk => hk.2) (.int .i64 0)) (fun _ hk => hk.2) (.string (⟨#[]⟩ : ByteArray))) (fun _ hk => hk.2) (.bool false)) (fun _ hk => hk.2) (.slice none 0 0)) (fun _ hk => hk.2) (.slice none 0 0)) (fun _ hk => hk.2) (.int .i64 0)) (fun _ hk => hk.1)))⟩;have n1_ : Aside0 (Kd.V (Kd.int .u32) 73 w76 w.heap.size (fun k_ => (w.heap.size ≤ k_) ∧ some k_ ≠ (.slice Ao73 t168.length co73 : Value).ownBlock ∧ k_ ≠ gb158 ∧ k_ ≠ gb164) (.slice Ao30 t160.length co30) t160) := ⟨(by rw [hw];exact (by (with_reducible repeat (first|apply Kd.V_alloc|apply Kd.V_drewN|apply Kd.V_drew));exact Kd.V_mono (Kd.V_far (p := ⟨gb158, 5, none⟩) (Kd.V_far (p := ⟨gb158, 4, none⟩) (Kd.V_far (p := ⟨gb158, 3, none⟩) (Kd.V_far (p := ⟨gb158, 2, none⟩) (Kd.V_far (p := ⟨gb158, 1, none⟩) (Kd.V_far (p := ⟨gb158, 0, none⟩) (Kd.V_mono HO_165001.out (fun k_ hk => (⟨hk, hk.2.2.1⟩ : _ ∧ k_ ≠ gb158))) (fun _ hk => hk.2) (.int .i64 0)) (fun _ hk => hk.2) (.string (⟨#[]⟩ : ByteArray))) (fun _ hk => hk.2) (.bool false)) (fun _ hk => hk.2) (.slice none 0 0)) (fun _ hk => hk.2) (.slice none 0 0)) (fun _ hk => hk.2) (.int .i64 0)) (fun _ hk => ⟨hk.1.1, ⟨hk.1.2.1, ⟨hk.1.2.2.1, hk.1.2.2.2⟩⟩⟩)))⟩;have n2_ : Aside0 (w76.heap[gb158]? = some (.cells #[.int .i64 0, .string (⟨#[]⟩ : ByteArray), .bool false, .slice none 0 0, .slice none 0 0, .int .i64 0] 33 (0, 0))) := ⟨(by rw [hw];exact (by (with_reducible repeat (first|refine blk_drewN ?_ _|refine blk_drew ?_|refine blk_alloc ?_ _));refine blk_put (cs := #[.int .i64 0, .string (⟨#[]⟩ : ByteArray), .bool false, .slice none 0 0, .slice none 0 0, .int .i64 0]) ?_ 5 _ rfl;(with_reducible repeat (first|refine blk_drewN ?_ _|refine blk_drew ?_|refine blk_alloc ?_ _));refine blk_put (cs := #[.int .i64 0, .string (⟨#[]⟩ : ByteArray), .bool false, .slice none 0 0, .slice none 0 0, .int .i64 0]) ?_ 4 _ rfl;(with_reducible repeat (first|refine blk_drewN ?_ _|refine blk_drew ?_|refine blk_alloc ?_ _));refine blk_put (cs := #[.int .i64 0, .string (⟨#[]⟩ : ByteArray), .bool false, .slice none 0 0, .slice none 0 0, .int .i64 0]) ?_ 3 _ rfl;(with_reducible repeat (first|refine blk_drewN ?_ _|refine blk_drew ?_|refine blk_alloc ?_ _));refine blk_put (cs := #[.int .i64 0, .string (⟨#[]⟩ : ByteArray), .bool false, .slice none 0 0, .slice none 0 0, .int .i64 0]) ?_ 2 _ rfl;(with_reducible repeat (first|refine blk_drewN ?_ _|refine blk_drew ?_|refine blk_alloc ?_ _));refine blk_put (cs := #[.int .i64 0, .string (⟨#[]⟩ : ByteArray), .bool false, .slice none 0 0, .slice none 0 0, .int .i64 0]) ?_ 1 _ rfl;(with_reducible repeat (first|refine blk_drewN ?_ _|refine blk_drew ?_|refine blk_alloc ?_ _));refine blk_put (cs := #[.int .i64 0, .string (⟨#[]⟩ : ByteArray), .bool false, .slice none 0 0, .slice none 0 0, .int .i64 0]) ?_ 0 _ rfl;(with_reducible repeat (first|refine blk_drewN ?_ _|refine blk_drew ?_|refine blk_alloc ?_ _));exact BK158.out))⟩;have n3_ : Aside0 (w76.heap[gb164]? = some (.cells #[.bool t159, .slice Ao30 t160.length co30] 30 (0, 0))) := ⟨(by rw [hw];exact (by (with_reducible repeat (first|refine blk_drewN ?_ _|refine blk_drew ?_|refine blk_alloc ?_ _));refine blk_far ?_ NB164_158.out _;(with_reducible repeat (first|refine blk_drewN ?_ _|refine blk_drew ?_|refine blk_alloc ?_ _));refine blk_far ?_ NB164_158.out _;(with_reducible repeat (first|refine blk_drewN ?_ _|refine blk_drew ?_|refine blk_alloc ?_ _));refine blk_far ?_ NB164_158.out _;(with_reducible repeat (first|refine blk_drewN ?_ _|refine blk_drew ?_|refine blk_alloc ?_ _));refine blk_far ?_ NB164_158.out _;(with_reducible repeat (first|refine blk_drewN ?_ _|refine blk_drew ?_|refine blk_alloc ?_ _));refine blk_far ?_ NB164_158.out _;(with_reducible repeat (first|refine blk_drewN ?_ _|refine blk_drew ?_|refine blk_alloc ?_ _));refine blk_far ?_ NB164_158.out _;(with_reducible repeat (first|refine blk_drewN ?_ _|refine blk_drew ?_|refine blk_alloc ?_ _));exact BK164.out))⟩;have n4_ : Aside0 (Below w.heap.size w w76) := ⟨(by rw [hw];exact (by repeat (first|(with_reducible first|exact HB.out|apply below_alloc|apply pw_below_drewN|apply below_drew1|refine below_set ?_ GE158.out|refine below_set ?_ GE164.out)|exact HB.out)))⟩;clear hw;clear HO_6;clear HO_165001;clear BK158;clear BK164;clear HB;have HO_6 := n0_;have HO_165001 := n1_;have BK158 := n2_;have BK164 := n3_;have HB := n4_;clear n0_ n1_ n2_ n3_ n4_))
                    refine bodyPost_ret (results_ct rfl _ _ gb158 33 #[.int .i64 0, .string (⟨#[]⟩ : ByteArray), .bool false, .slice none 0 0, .slice none 0 0, .int .i64 0] (0, 0) _ rfl (by (with_reducible repeat (first|refine blk_drewN ?_ _|refine blk_drew ?_|refine blk_alloc ?_ _));exact BK158.out) Tryd.underlying33 rfl (by kernel_rfl)) rfl ?_
                    exact ⟨_, _, by first|rfl|(simp [errW_none, errW_some] <;> rfl)|(simp [*, errW_none, errW_some] <;> rfl), Kd.V_nil _ _ _ _ _, by first|exact Kd.R_nil _ _ _ _ _|exact Kd.N_nil _ _ _ _ _|exact Kd.V_nil _ _ _ _ _|exact Kd.Q_nil _ _ _ _ _|exact Kd.S_nil _ _ _ _ _, by repeat (first|(with_reducible first|exact HB.out|apply below_alloc|apply pw_below_drewN|apply below_drew1|refine below_set ?_ GE158.out|refine below_set ?_ GE164.out)|exact HB.out)⟩
                   ·replace c72 := Bool.eq_false_iff.mpr c72
                    subst c72
                    have H1 : (some (4, a0, false, ([] : List Int), ([] : List (S33)), 0, true)) = some (r1, r2, r3, r4, r5, r6, r7) := by rw [if_neg (show ¬ (false = true) by decide)] at H; exact H
                    clear H
                    have H := H1
                    clear H1
                    simp only [Option.some.injEq, Prod.mk.injEq] at H
                    obtain ⟨rfl, rfl, rfl, rfl, rfl, rfl, rfl⟩ := H
                    obtain ⟨Ao77, co77, eo77⟩ := Kd.R_slice HO_6.out
                    subst eo77
                    go_wp2_with (first|(go_at_call 19;(with_reducible refine (slices_ContainsFunc_int_int_utf_Ends.calls kj24 _ _ t168  false _ ?side1 ?side2 A51.out).mono ?_);(case side1 => repeat (first|exact (Kd.R_reads' HO_6.out).2.2|(with_reducible refine Kd.C_alloc ?_ _)|(with_reducible refine Kd.C_drewN ?_ _)|(with_reducible refine Kd.C_drew ?_)));(case side2 => exact (Kd.R_reads' HO_6.out).2.1);rintro e w' ⟨rfl, ⟨nd, rfl⟩⟩;(try (rw [drewN_self wc];generalize hq_ : World.drewN wc _ = wc;have n0_ : Aside0 (Kd.V (Kd.int .u32) 73 wc w.heap.size (fun k_ => (w.heap.size ≤ k_) ∧ some k_ ≠ (.slice Ao77 t168.length co77 : Value).ownBlock ∧ k_ ≠ gb158 ∧ k_ ≠ gb164) (.slice Ao30 t160.length co30) t160) := ⟨by rw [← hq_];exact (by (with_reducible repeat (first|apply Kd.V_alloc|apply Kd.V_drewN|apply Kd.V_drew));exact HO_165001.out)⟩;have n1_ : Aside0 (Kd.R (Kd.int .i64) 3 wc w.heap.size (fun k_ => (w.heap.size ≤ k_)) (.slice Ao77 t168.length co77) t168) := ⟨by rw [← hq_];exact (by (with_reducible repeat (first|apply Kd.R_alloc|apply Kd.R_drewN|apply Kd.R_drew));exact HO_6.out)⟩;have n2_ : Aside0 (wc.heap[gb158]? = some (.cells #[.int .i64 0, .string (⟨#[]⟩ : ByteArray), .bool false, .slice none 0 0, .slice none 0 0, .int .i64 0] 33 (0, 0))) := ⟨by rw [← hq_];exact (by (with_reducible repeat (first|refine blk_drewN ?_ _|refine blk_drew ?_|refine blk_alloc ?_ _));exact BK158.out)⟩;have n3_ : Aside0 (wc.heap[gb164]? = some (.cells #[.bool t159, .slice Ao30 t160.length co30] 30 (0, 0))) := ⟨by rw [← hq_];exact (by (with_reducible repeat (first|refine blk_drewN ?_ _|refine blk_drew ?_|refine blk_alloc ?_ _));exact BK164.out)⟩;have n4_ : Aside0 (Below w.heap.size w wc) := ⟨by rw [← hq_];exact (by repeat (first|(with_reducible first|exact HB.out|apply below_alloc|apply pw_below_drewN|apply below_drew1|refine below_set ?_ GE158.out|refine below_set ?_ GE164.out)|exact HB.out))⟩;clear HO_165001 HO_6 BK158 BK164 HB hq_;have HO_165001 := n0_;have HO_6 := n1_;have BK158 := n2_;have BK164 := n3_;have HB := n4_;clear n0_ n1_ n2_ n3_ n4_));have p58 : 0 ≤ (0 : Int) := (by omega);have q58 : 0 < a0.size := (by have : (0 : Int) < (a0.size : Int) := of_decide_eq_true (by first|(with_reducible assumption)|assumption);omega);have hx58 : ∀ h : 0 < a0.size, ((a0[0]'h).toNat : Int) = bt a0 0 := bt_at a0 0;clear p58;have qi58 : (0 < (a0.size : Int)) = True := eq_true (of_decide_eq_true (by first|(with_reducible assumption)|assumption));replace q58 := eq_true q58)|(go_at_call 21;(with_reducible refine (token_digit.calls a0 0 false _ A64.out).mono ?_);rintro e w' ⟨rfl, ⟨nd, rfl⟩⟩;(try (rw [drewN_self wc];generalize hq_ : World.drewN wc _ = wc;have n0_ : Aside0 (Kd.V (Kd.int .u32) 73 wc w.heap.size (fun k_ => (w.heap.size ≤ k_) ∧ some k_ ≠ (.slice Ao77 t168.length co77 : Value).ownBlock ∧ k_ ≠ gb158 ∧ k_ ≠ gb164) (.slice Ao30 t160.length co30) t160) := ⟨by rw [← hq_];exact (by (with_reducible repeat (first|apply Kd.V_alloc|apply Kd.V_drewN|apply Kd.V_drew));exact HO_165001.out)⟩;have n1_ : Aside0 (Kd.R (Kd.int .i64) 3 wc w.heap.size (fun k_ => (w.heap.size ≤ k_)) (.slice Ao77 t168.length co77) t168) := ⟨by rw [← hq_];exact (by (with_reducible repeat (first|apply Kd.R_alloc|apply Kd.R_drewN|apply Kd.R_drew));exact HO_6.out)⟩;have n2_ : Aside0 (wc.heap[gb158]? = some (.cells #[.int .i64 0, .string (⟨#[]⟩ : ByteArray), .bool false, .slice none 0 0, .slice none 0 0, .int .i64 0] 33 (0, 0))) := ⟨by rw [← hq_];exact (by (with_reducible repeat (first|refine blk_drewN ?_ _|refine blk_drew ?_|refine blk_alloc ?_ _));exact BK158.out)⟩;have n3_ : Aside0 (wc.heap[gb164]? = some (.cells #[.bool t159, .slice Ao30 t160.length co30] 30 (0, 0))) := ⟨by rw [← hq_];exact (by (with_reducible repeat (first|refine blk_drewN ?_ _|refine blk_drew ?_|refine blk_alloc ?_ _));exact BK164.out)⟩;have n4_ : Aside0 (Below w.heap.size w wc) := ⟨by rw [← hq_];exact (by repeat (first|(with_reducible first|exact HB.out|apply below_alloc|apply pw_below_drewN|apply below_drew1|refine below_set ?_ GE158.out|refine below_set ?_ GE164.out)|exact HB.out))⟩;clear HO_165001 HO_6 BK158 BK164 HB hq_;have HO_165001 := n0_;have HO_6 := n1_;have BK158 := n2_;have BK164 := n3_;have HB := n4_;clear n0_ n1_ n2_ n3_ n4_)))|(go_at_call 21;(with_reducible refine (token_digit.calls a0 1 false _ A71.out).mono ?_);rintro e w' ⟨rfl, ⟨nd, rfl⟩⟩;(try (rw [drewN_self wc];generalize hq_ : World.drewN wc _ = wc;have n0_ : Aside0 (Kd.V (Kd.int .u32) 73 wc w.heap.size (fun k_ => (w.heap.size ≤ k_) ∧ some k_ ≠ (.slice Ao77 t168.length co77 : Value).ownBlock ∧ k_ ≠ gb158 ∧ k_ ≠ gb164) (.slice Ao30 t160.length co30) t160) := ⟨by rw [← hq_];exact (by (with_reducible repeat (first|apply Kd.V_alloc|apply Kd.V_drewN|apply Kd.V_drew));exact HO_165001.out)⟩;have n1_ : Aside0 (Kd.R (Kd.int .i64) 3 wc w.heap.size (fun k_ => (w.heap.size ≤ k_)) (.slice Ao77 t168.length co77) t168) := ⟨by rw [← hq_];exact (by (with_reducible repeat (first|apply Kd.R_alloc|apply Kd.R_drewN|apply Kd.R_drew));exact HO_6.out)⟩;have n2_ : Aside0 (wc.heap[gb158]? = some (.cells #[.int .i64 0, .string (⟨#[]⟩ : ByteArray), .bool false, .slice none 0 0, .slice none 0 0, .int .i64 0] 33 (0, 0))) := ⟨by rw [← hq_];exact (by (with_reducible repeat (first|refine blk_drewN ?_ _|refine blk_drew ?_|refine blk_alloc ?_ _));exact BK158.out)⟩;have n3_ : Aside0 (wc.heap[gb164]? = some (.cells #[.bool t159, .slice Ao30 t160.length co30] 30 (0, 0))) := ⟨by rw [← hq_];exact (by (with_reducible repeat (first|refine blk_drewN ?_ _|refine blk_drew ?_|refine blk_alloc ?_ _));exact BK164.out)⟩;have n4_ : Aside0 (Below w.heap.size w wc) := ⟨by rw [← hq_];exact (by repeat (first|(with_reducible first|exact HB.out|apply below_alloc|apply pw_below_drewN|apply below_drew1|refine below_set ?_ GE158.out|refine below_set ?_ GE164.out)|exact HB.out))⟩;clear HO_165001 HO_6 BK158 BK164 HB hq_;have HO_165001 := n0_;have HO_6 := n1_;have BK158 := n2_;have BK164 := n3_;have HB := n4_;clear n0_ n1_ n2_ n3_ n4_));have hnb78 := NB158_164.out;have hnc78 := NB164_158.out;have hcz79_0 : wc.cell? ⟨gb158, 0, none⟩ = some (.int .i64 0) := (blk_cell BK158.out 0).trans rfl;have hcz79_1 : wc.cell? ⟨gb158, 1, none⟩ = some (.string (⟨#[]⟩ : ByteArray)) := (blk_cell BK158.out 1).trans rfl;have hcz79_2 : wc.cell? ⟨gb158, 2, none⟩ = some (.bool false) := (blk_cell BK158.out 2).trans rfl;have hcz79_3 : wc.cell? ⟨gb158, 3, none⟩ = some (.slice none 0 0) := (blk_cell BK158.out 3).trans rfl;have hcz79_4 : wc.cell? ⟨gb158, 4, none⟩ = some (.slice none 0 0) := (blk_cell BK158.out 4).trans rfl;have hcz79_5 : wc.cell? ⟨gb158, 5, none⟩ = some (.int .i64 0) := (blk_cell BK158.out 5).trans rfl;have hfz79_0 := blk_frozen BK158.out 0;have hfz79_1 := blk_frozen BK158.out 1;have hfz79_2 := blk_frozen BK158.out 2;have hfz79_3 := blk_frozen BK158.out 3;have hfz79_4 := blk_frozen BK158.out 4;have hfz79_5 := blk_frozen BK158.out 5)|((with_reducible refine gate_store (t := 33) (p := 2) rfl ?_);refine store_event (t := 33) (p := 2) (v := ?vo_w80) (w1 := ((((((wc.setCell ⟨gb158, 0, none⟩ (.int .i64 4)).setCell ⟨gb158, 1, none⟩ (.string a0)).setCell ⟨gb158, 2, none⟩ (.bool false)).setCell ⟨gb158, 3, none⟩ (.slice none 0 0)).setCell ⟨gb158, 4, none⟩ (.slice none 0 0)).setCell ⟨gb158, 5, none⟩ (.int .i64 0))) ?hg ?ho ?hn ?hr ?_;(case ho => rfl);(case hg => rfl);(case hn => rfl);(case hr => first|(go_simp;done)|(go_simp;rfl));intro w80 hw;have n0_ : Aside0 (Kd.R (Kd.int .i64) 3 w80 w.heap.size (fun k_ => (w.heap.size ≤ k_)) (.slice Ao77 t168.length co77) t168) := ⟨(by rw [hw];exact (by (with_reducible repeat (first|apply Kd.R_alloc|apply Kd.R_drewN|apply Kd.R_drew));exact Kd.R_mono (Kd.R_far (p := ⟨gb158, 5, none⟩) (Kd.R_far (p := ⟨gb158, 4, none⟩) (Kd.R_far (p := ⟨gb158, 3, none⟩) (Kd.R_far (p := ⟨gb158, 2, none⟩) (Kd.R_far (p := ⟨gb158, 1, none⟩) (Kd.R_far (p := ⟨gb158, 0, none⟩) (Kd.R_types HO_6.out BK158.out (by decide)) (fun _ hk => hk.2) (.int .i64 4)) (fun _ hk => hk.2) (.string a0)) (fun _ hk => hk.2) (.bool false)) (fun _ hk => hk.2) (.slice none 0 0)) (fun _ hk => hk.2) (.slice none 0 0)) (fun _ hk => hk.2) (.int .i64 0)) (fun _ hk => hk.1)))⟩;have n1_ : Aside0 (Kd.V (Kd.int .u32) 73 w80 w.heap.size (fun k_ => (w.heap.size ≤ k_) ∧ some k_ ≠ (.slice Ao77 t168.length co77 : Value).ownBlock ∧ k_ ≠ gb158 ∧ k_ ≠ gb164) (.slice Ao30 t160.length co30) t160) := ⟨(by rw [hw];exact (by (with_reducible repeat (first|apply Kd.V_alloc|apply Kd.V_drewN|apply Kd.V_drew));exact Kd.V_mono (Kd.V_far (p := ⟨gb158, 5, none⟩) (Kd.V_far (p := ⟨gb158, 4, none⟩) (Kd.V_far (p := ⟨gb158, 3, none⟩) (Kd.V_far (p := ⟨gb158, 2, none⟩) (Kd.V_far (p := ⟨gb158, 1, none⟩) (Kd.V_far (p := ⟨gb158, 0, none⟩) (Kd.V_mono HO_165001.out (fun k_ hk => (⟨hk, hk.2.2.1⟩ : _ ∧ k_ ≠ gb158))) (fun _ hk => hk.2) (.int .i64 4)) (fun _ hk => hk.2) (.string a0)) (fun _ hk => hk.2) (.bool false)) (fun _ hk => hk.2) (.slice none 0 0)) (fun _ hk => hk.2) (.slice none 0 0)) (fun _ hk => hk.2) (.int .i64 0)) (fun _ hk => ⟨hk.1.1, ⟨hk.1.2.1, ⟨hk.1.2.2.1, hk.1.2.2.2⟩⟩⟩)))⟩;have n2_ : Aside0 (w80.heap[gb158]? = some (.cells #[.int .i64 4, .string a0, .bool false, .slice none 0 0, .slice none 0 0, .int .i64 0] 33 (0, 0))) := ⟨(by rw [hw];exact (by (with_reducible repeat (first|refine blk_drewN ?_ _|refine blk_drew ?_|refine blk_alloc ?_ _));refine blk_put (cs := #[.int .i64 4, .string a0, .bool false, .slice none 0 0, .slice none 0 0, .int .i64 0]) ?_ 5 _ rfl;(with_reducible repeat (first|refine blk_drewN ?_ _|refine blk_drew ?_|refine blk_alloc ?_ _));refine blk_put (cs := #[.int .i64 4, .string a0, .bool false, .slice none 0 0, .slice none 0 0, .int .i64 0]) ?_ 4 _ rfl;(with_reducible repeat (first|refine blk_drewN ?_ _|refine blk_drew ?_|refine blk_alloc ?_ _));refine blk_put (cs := #[.int .i64 4, .string a0, .bool false, .slice none 0 0, .slice none 0 0, .int .i64 0]) ?_ 3 _ rfl;(with_reducible repeat (first|refine blk_drewN ?_ _|refine blk_drew ?_|refine blk_alloc ?_ _));refine blk_put (cs := #[.int .i64 4, .string a0, .bool false, .slice none 0 0, .slice none 0 0, .int .i64 0]) ?_ 2 _ rfl;(with_reducible repeat (first|refine blk_drewN ?_ _|refine blk_drew ?_|refine blk_alloc ?_ _));refine blk_put (cs := #[.int .i64 4, .string (⟨#[]⟩ : ByteArray), .bool false, .slice none 0 0, .slice none 0 0, .int .i64 0]) ?_ 1 _ rfl;(with_reducible repeat (first|refine blk_drewN ?_ _|refine blk_drew ?_|refine blk_alloc ?_ _));refine blk_put (cs := #[.int .i64 0, .string (⟨#[]⟩ : ByteArray), .bool false, .slice none 0 0, .slice none 0 0, .int .i64 0]) ?_ 0 _ rfl;(with_reducible repeat (first|refine blk_drewN ?_ _|refine blk_drew ?_|refine blk_alloc ?_ _));exact BK158.out))⟩;have n3_ : Aside0 (w80.heap[gb164]? = some (.cells #[.bool t159, .slice Ao30 t160.length co30] 30 (0, 0))) := ⟨(by rw [hw];exact (by (with_reducible repeat (first|refine blk_drewN ?_ _|refine blk_drew ?_|refine blk_alloc ?_ _));refine blk_far ?_ NB164_158.out _;(with_reducible repeat (first|refine blk_drewN ?_ _|refine blk_drew ?_|refine blk_alloc ?_ _));refine blk_far ?_ NB164_158.out _;(with_reducible repeat (first|refine blk_drewN ?_ _|refine blk_drew ?_|refine blk_alloc ?_ _));refine blk_far ?_ NB164_158.out _;(with_reducible repeat (first|refine blk_drewN ?_ _|refine blk_drew ?_|refine blk_alloc ?_ _));refine blk_far ?_ NB164_158.out _;(with_reducible repeat (first|refine blk_drewN ?_ _|refine blk_drew ?_|refine blk_alloc ?_ _));refine blk_far ?_ NB164_158.out _;(with_reducible repeat (first|refine blk_drewN ?_ _|refine blk_drew ?_|refine blk_alloc ?_ _));refine blk_far ?_ NB164_158.out _;(with_reducible repeat (first|refine blk_drewN ?_ _|refine blk_drew ?_|refine blk_alloc ?_ _));exact BK164.out))⟩;have n4_ : Aside0 (Below w.heap.size w w80) := ⟨(by rw [hw];exact (by repeat (first|(with_reducible first|exact HB.out|apply below_alloc|apply pw_below_drewN|apply below_drew1|refine below_set ?_ GE158.out|refine below_set ?_ GE164.out)|exact HB.out)))⟩;clear hw;clear HO_6;clear HO_165001;clear BK158;clear BK164;clear HB;have HO_6 := n0_;have HO_165001 := n1_;have BK158 := n2_;have BK164 := n3_;have HB := n4_;clear n0_ n1_ n2_ n3_ n4_))
                    refine bodyPost_ret (results_ct rfl _ _ gb158 33 #[.int .i64 4, .string a0, .bool false, .slice none 0 0, .slice none 0 0, .int .i64 0] (0, 0) _ rfl (by (with_reducible repeat (first|refine blk_drewN ?_ _|refine blk_drew ?_|refine blk_alloc ?_ _));exact BK158.out) Tryd.underlying33 rfl (by kernel_rfl)) rfl ?_
                    exact ⟨_, _, by first|rfl|(simp [errW_none, errW_some] <;> rfl)|(simp [*, errW_none, errW_some] <;> rfl), Kd.V_nil _ _ _ _ _, by first|exact Kd.R_nil _ _ _ _ _|exact Kd.N_nil _ _ _ _ _|exact Kd.V_nil _ _ _ _ _|exact Kd.Q_nil _ _ _ _ _|exact Kd.S_nil _ _ _ _ _, by repeat (first|(with_reducible first|exact HB.out|apply below_alloc|apply pw_below_drewN|apply below_drew1|refine below_set ?_ GE158.out|refine below_set ?_ GE164.out)|exact HB.out)⟩
                  ·replace c70 := Bool.eq_false_iff.mpr c70
                   subst c70
                   have H1 : (some (4, a0, false, ([] : List Int), ([] : List (S33)), 0, true)) = some (r1, r2, r3, r4, r5, r6, r7) := by rw [if_neg (show ¬ (false = true) by decide)] at H; exact H
                   clear H
                   have H := H1
                   clear H1
                   simp only [Option.some.injEq, Prod.mk.injEq] at H
                   obtain ⟨rfl, rfl, rfl, rfl, rfl, rfl, rfl⟩ := H
                   obtain ⟨Ao81, co81, eo81⟩ := Kd.R_slice HO_6.out
                   subst eo81
                   go_wp2_with (first|(go_at_call 19;(with_reducible refine (slices_ContainsFunc_int_int_utf_Ends.calls kj24 _ _ t168  false _ ?side1 ?side2 A51.out).mono ?_);(case side1 => repeat (first|exact (Kd.R_reads' HO_6.out).2.2|(with_reducible refine Kd.C_alloc ?_ _)|(with_reducible refine Kd.C_drewN ?_ _)|(with_reducible refine Kd.C_drew ?_)));(case side2 => exact (Kd.R_reads' HO_6.out).2.1);rintro e w' ⟨rfl, ⟨nd, rfl⟩⟩;(try (rw [drewN_self wc];generalize hq_ : World.drewN wc _ = wc;have n0_ : Aside0 (Kd.V (Kd.int .u32) 73 wc w.heap.size (fun k_ => (w.heap.size ≤ k_) ∧ some k_ ≠ (.slice Ao81 t168.length co81 : Value).ownBlock ∧ k_ ≠ gb158 ∧ k_ ≠ gb164) (.slice Ao30 t160.length co30) t160) := ⟨by rw [← hq_];exact (by (with_reducible repeat (first|apply Kd.V_alloc|apply Kd.V_drewN|apply Kd.V_drew));exact HO_165001.out)⟩;have n1_ : Aside0 (Kd.R (Kd.int .i64) 3 wc w.heap.size (fun k_ => (w.heap.size ≤ k_)) (.slice Ao81 t168.length co81) t168) := ⟨by rw [← hq_];exact (by (with_reducible repeat (first|apply Kd.R_alloc|apply Kd.R_drewN|apply Kd.R_drew));exact HO_6.out)⟩;have n2_ : Aside0 (wc.heap[gb158]? = some (.cells #[.int .i64 0, .string (⟨#[]⟩ : ByteArray), .bool false, .slice none 0 0, .slice none 0 0, .int .i64 0] 33 (0, 0))) := ⟨by rw [← hq_];exact (by (with_reducible repeat (first|refine blk_drewN ?_ _|refine blk_drew ?_|refine blk_alloc ?_ _));exact BK158.out)⟩;have n3_ : Aside0 (wc.heap[gb164]? = some (.cells #[.bool t159, .slice Ao30 t160.length co30] 30 (0, 0))) := ⟨by rw [← hq_];exact (by (with_reducible repeat (first|refine blk_drewN ?_ _|refine blk_drew ?_|refine blk_alloc ?_ _));exact BK164.out)⟩;have n4_ : Aside0 (Below w.heap.size w wc) := ⟨by rw [← hq_];exact (by repeat (first|(with_reducible first|exact HB.out|apply below_alloc|apply pw_below_drewN|apply below_drew1|refine below_set ?_ GE158.out|refine below_set ?_ GE164.out)|exact HB.out))⟩;clear HO_165001 HO_6 BK158 BK164 HB hq_;have HO_165001 := n0_;have HO_6 := n1_;have BK158 := n2_;have BK164 := n3_;have HB := n4_;clear n0_ n1_ n2_ n3_ n4_));have p58 : 0 ≤ (0 : Int) := (by omega);have q58 : 0 < a0.size := (by have : (0 : Int) < (a0.size : Int) := of_decide_eq_true (by first|(with_reducible assumption)|assumption);omega);have hx58 : ∀ h : 0 < a0.size, ((a0[0]'h).toNat : Int) = bt a0 0 := bt_at a0 0;clear p58;have qi58 : (0 < (a0.size : Int)) = True := eq_true (of_decide_eq_true (by first|(with_reducible assumption)|assumption));replace q58 := eq_true q58)|(go_at_call 21;(with_reducible refine (token_digit.calls a0 0 false _ A64.out).mono ?_);rintro e w' ⟨rfl, ⟨nd, rfl⟩⟩;(try (rw [drewN_self wc];generalize hq_ : World.drewN wc _ = wc;have n0_ : Aside0 (Kd.V (Kd.int .u32) 73 wc w.heap.size (fun k_ => (w.heap.size ≤ k_) ∧ some k_ ≠ (.slice Ao81 t168.length co81 : Value).ownBlock ∧ k_ ≠ gb158 ∧ k_ ≠ gb164) (.slice Ao30 t160.length co30) t160) := ⟨by rw [← hq_];exact (by (with_reducible repeat (first|apply Kd.V_alloc|apply Kd.V_drewN|apply Kd.V_drew));exact HO_165001.out)⟩;have n1_ : Aside0 (Kd.R (Kd.int .i64) 3 wc w.heap.size (fun k_ => (w.heap.size ≤ k_)) (.slice Ao81 t168.length co81) t168) := ⟨by rw [← hq_];exact (by (with_reducible repeat (first|apply Kd.R_alloc|apply Kd.R_drewN|apply Kd.R_drew));exact HO_6.out)⟩;have n2_ : Aside0 (wc.heap[gb158]? = some (.cells #[.int .i64 0, .string (⟨#[]⟩ : ByteArray), .bool false, .slice none 0 0, .slice none 0 0, .int .i64 0] 33 (0, 0))) := ⟨by rw [← hq_];exact (by (with_reducible repeat (first|refine blk_drewN ?_ _|refine blk_drew ?_|refine blk_alloc ?_ _));exact BK158.out)⟩;have n3_ : Aside0 (wc.heap[gb164]? = some (.cells #[.bool t159, .slice Ao30 t160.length co30] 30 (0, 0))) := ⟨by rw [← hq_];exact (by (with_reducible repeat (first|refine blk_drewN ?_ _|refine blk_drew ?_|refine blk_alloc ?_ _));exact BK164.out)⟩;have n4_ : Aside0 (Below w.heap.size w wc) := ⟨by rw [← hq_];exact (by repeat (first|(with_reducible first|exact HB.out|apply below_alloc|apply pw_below_drewN|apply below_drew1|refine below_set ?_ GE158.out|refine below_set ?_ GE164.out)|exact HB.out))⟩;clear HO_165001 HO_6 BK158 BK164 HB hq_;have HO_165001 := n0_;have HO_6 := n1_;have BK158 := n2_;have BK164 := n3_;have HB := n4_;clear n0_ n1_ n2_ n3_ n4_));have hnb82 := NB158_164.out;have hnc82 := NB164_158.out;have hcz83_0 : wc.cell? ⟨gb158, 0, none⟩ = some (.int .i64 0) := (blk_cell BK158.out 0).trans rfl;have hcz83_1 : wc.cell? ⟨gb158, 1, none⟩ = some (.string (⟨#[]⟩ : ByteArray)) := (blk_cell BK158.out 1).trans rfl;have hcz83_2 : wc.cell? ⟨gb158, 2, none⟩ = some (.bool false) := (blk_cell BK158.out 2).trans rfl;have hcz83_3 : wc.cell? ⟨gb158, 3, none⟩ = some (.slice none 0 0) := (blk_cell BK158.out 3).trans rfl;have hcz83_4 : wc.cell? ⟨gb158, 4, none⟩ = some (.slice none 0 0) := (blk_cell BK158.out 4).trans rfl;have hcz83_5 : wc.cell? ⟨gb158, 5, none⟩ = some (.int .i64 0) := (blk_cell BK158.out 5).trans rfl;have hfz83_0 := blk_frozen BK158.out 0;have hfz83_1 := blk_frozen BK158.out 1;have hfz83_2 := blk_frozen BK158.out 2;have hfz83_3 := blk_frozen BK158.out 3;have hfz83_4 := blk_frozen BK158.out 4;have hfz83_5 := blk_frozen BK158.out 5)|((with_reducible refine gate_store (t := 33) (p := 2) rfl ?_);refine store_event (t := 33) (p := 2) (v := ?vo_w84) (w1 := ((((((wc.setCell ⟨gb158, 0, none⟩ (.int .i64 4)).setCell ⟨gb158, 1, none⟩ (.string a0)).setCell ⟨gb158, 2, none⟩ (.bool false)).setCell ⟨gb158, 3, none⟩ (.slice none 0 0)).setCell ⟨gb158, 4, none⟩ (.slice none 0 0)).setCell ⟨gb158, 5, none⟩ (.int .i64 0))) ?hg ?ho ?hn ?hr ?_;(case ho => rfl);(case hg => rfl);(case hn => rfl);(case hr => first|(go_simp;done)|(go_simp;rfl));intro w84 hw;have n0_ : Aside0 (Kd.R (Kd.int .i64) 3 w84 w.heap.size (fun k_ => (w.heap.size ≤ k_)) (.slice Ao81 t168.length co81) t168) := ⟨(by rw [hw];exact (by (with_reducible repeat (first|apply Kd.R_alloc|apply Kd.R_drewN|apply Kd.R_drew));exact Kd.R_mono (Kd.R_far (p := ⟨gb158, 5, none⟩) (Kd.R_far (p := ⟨gb158, 4, none⟩) (Kd.R_far (p := ⟨gb158, 3, none⟩) (Kd.R_far (p := ⟨gb158, 2, none⟩) (Kd.R_far (p := ⟨gb158, 1, none⟩) (Kd.R_far (p := ⟨gb158, 0, none⟩) (Kd.R_types HO_6.out BK158.out (by decide)) (fun _ hk => hk.2) (.int .i64 4)) (fun _ hk => hk.2) (.string a0)) (fun _ hk => hk.2) (.bool false)) (fun _ hk => hk.2) (.slice none 0 0)) (fun _ hk => hk.2) (.slice none 0 0)) (fun _ hk => hk.2) (.int .i64 0)) (fun _ hk => hk.1)))⟩;have n1_ : Aside0 (Kd.V (Kd.int .u32) 73 w84 w.heap.size (fun k_ => (w.heap.size ≤ k_) ∧ some k_ ≠ (.slice Ao81 t168.length co81 : Value).ownBlock ∧ k_ ≠ gb158 ∧ k_ ≠ gb164) (.slice Ao30 t160.length co30) t160) := ⟨(by rw [hw];exact (by (with_reducible repeat (first|apply Kd.V_alloc|apply Kd.V_drewN|apply Kd.V_drew));exact Kd.V_mono (Kd.V_far (p := ⟨gb158, 5, none⟩) (Kd.V_far (p := ⟨gb158, 4, none⟩) (Kd.V_far (p := ⟨gb158, 3, none⟩) (Kd.V_far (p := ⟨gb158, 2, none⟩) (Kd.V_far (p := ⟨gb158, 1, none⟩) (Kd.V_far (p := ⟨gb158, 0, none⟩) (Kd.V_mono HO_165001.out (fun k_ hk => (⟨hk, hk.2.2.1⟩ : _ ∧ k_ ≠ gb158))) (fun _ hk => hk.2) (.int .i64 4)) (fun _ hk => hk.2) (.string a0)) (fun _ hk => hk.2) (.bool false)) (fun _ hk => hk.2) (.slice none 0 0)) (fun _ hk => hk.2) (.slice none 0 0)) (fun _ hk => hk.2) (.int .i64 0)) (fun _ hk => ⟨hk.1.1, ⟨hk.1.2.1, ⟨hk.1.2.2.1, hk.1.2.2.2⟩⟩⟩)))⟩;have n2_ : Aside0 (w84.heap[gb158]? = some (.cells #[.int .i64 4, .string a0, .bool false, .slice none 0 0, .slice none 0 0, .int .i64 0] 33 (0, 0))) := ⟨(by rw [hw];exact (by (with_reducible repeat (first|refine blk_drewN ?_ _|refine blk_drew ?_|refine blk_alloc ?_ _));refine blk_put (cs := #[.int .i64 4, .string a0, .bool false, .slice none 0 0, .slice none 0 0, .int .i64 0]) ?_ 5 _ rfl;(with_reducible repeat (first|refine blk_drewN ?_ _|refine blk_drew ?_|refine blk_alloc ?_ _));refine blk_put (cs := #[.int .i64 4, .string a0, .bool false, .slice none 0 0, .slice none 0 0, .int .i64 0]) ?_ 4 _ rfl;(with_reducible repeat (first|refine blk_drewN ?_ _|refine blk_drew ?_|refine blk_alloc ?_ _));refine blk_put (cs := #[.int .i64 4, .string a0, .bool false, .slice none 0 0, .slice none 0 0, .int .i64 0]) ?_ 3 _ rfl;(with_reducible repeat (first|refine blk_drewN ?_ _|refine blk_drew ?_|refine blk_alloc ?_ _));refine blk_put (cs := #[.int .i64 4, .string a0, .bool false, .slice none 0 0, .slice none 0 0, .int .i64 0]) ?_ 2 _ rfl;(with_reducible repeat (first|refine blk_drewN ?_ _|refine blk_drew ?_|refine blk_alloc ?_ _));refine blk_put (cs := #[.int .i64 4, .string (⟨#[]⟩ : ByteArray), .bool false, .slice none 0 0, .slice none 0 0, .int .i64 0]) ?_ 1 _ rfl;(with_reducible repeat (first|refine blk_drewN ?_ _|refine blk_drew ?_|refine blk_alloc ?_ _));refine blk_put (cs := #[.int .i64 0, .string (⟨#[]⟩ : ByteArray), .bool false, .slice none 0 0, .slice none 0 0, .int .i64 0]) ?_ 0 _ rfl;(with_reducible repeat (first|refine blk_drewN ?_ _|refine blk_drew ?_|refine blk_alloc ?_ _));exact BK158.out))⟩;have n3_ : Aside0 (w84.heap[gb164]? = some (.cells #[.bool t159, .slice Ao30 t160.length co30] 30 (0, 0))) := ⟨(by rw [hw];exact (by (with_reducible repeat (first|refine blk_drewN ?_ _|refine blk_drew ?_|refine blk_alloc ?_ _));refine blk_far ?_ NB164_158.out _;(with_reducible repeat (first|refine blk_drewN ?_ _|refine blk_drew ?_|refine blk_alloc ?_ _));refine blk_far ?_ NB164_158.out _;(with_reducible repeat (first|refine blk_drewN ?_ _|refine blk_drew ?_|refine blk_alloc ?_ _));refine blk_far ?_ NB164_158.out _;(with_reducible repeat (first|refine blk_drewN ?_ _|refine blk_drew ?_|refine blk_alloc ?_ _));refine blk_far ?_ NB164_158.out _;(with_reducible repeat (first|refine blk_drewN ?_ _|refine blk_drew ?_|refine blk_alloc ?_ _));refine blk_far ?_ NB164_158.out _;(with_reducible repeat (first|refine blk_drewN ?_ _|refine blk_drew ?_|refine blk_alloc ?_ _));refine blk_far ?_ NB164_158.out _;(with_reducible repeat (first|refine blk_drewN ?_ _|refine blk_drew ?_|refine blk_alloc ?_ _));exact BK164.out))⟩;have n4_ : Aside0 (Below w.heap.size w w84) := ⟨(by rw [hw];exact (by repeat (first|(with_reducible first|exact HB.out|apply below_alloc|apply pw_below_drewN|apply below_drew1|refine below_set ?_ GE158.out|refine below_set ?_ GE164.out)|exact HB.out)))⟩;clear hw;clear HO_6;clear HO_165001;clear BK158;clear BK164;clear HB;have HO_6 := n0_;have HO_165001 := n1_;have BK158 := n2_;have BK164 := n3_;have HB := n4_;clear n0_ n1_ n2_ n3_ n4_))
                   refine bodyPost_ret (results_ct rfl _ _ gb158 33 #[.int .i64 4, .string a0, .bool false, .slice none 0 0, .slice none 0 0, .int .i64 0] (0, 0) _ rfl (by (with_reducible repeat (first|refine blk_drewN ?_ _|refine blk_drew ?_|refine blk_alloc ?_ _));exact BK158.out) Tryd.underlying33 rfl (by kernel_rfl)) rfl ?_
                   exact ⟨_, _, by first|rfl|(simp [errW_none, errW_some] <;> rfl)|(simp [*, errW_none, errW_some] <;> rfl), Kd.V_nil _ _ _ _ _, by first|exact Kd.R_nil _ _ _ _ _|exact Kd.N_nil _ _ _ _ _|exact Kd.V_nil _ _ _ _ _|exact Kd.Q_nil _ _ _ _ _|exact Kd.S_nil _ _ _ _ _, by repeat (first|(with_reducible first|exact HB.out|apply below_alloc|apply pw_below_drewN|apply below_drew1|refine below_set ?_ GE158.out|refine below_set ?_ GE164.out)|exact HB.out)⟩
               ·rw [if_neg c57] at H
                exact absurd H (by simp)
             ·rw [if_neg c50] at H
              have c50b0 : (t170 == 0) = false := beq_eq_false_iff_ne.mpr c50
              have c50b1 : (t170 != 0) = true := bne_iff_ne.mpr c50
              simp only [Option.some.injEq, Prod.mk.injEq] at H
              obtain ⟨rfl, rfl, rfl, rfl, rfl, rfl, rfl⟩ := H
              have hnb85 := NB158_164.out
              have hnc85 := NB164_158.out
              have hcz86_0 : wc.cell? ⟨gb158, 0, none⟩ = some (.int .i64 0) := (blk_cell BK158.out 0).trans rfl
              have hcz86_1 : wc.cell? ⟨gb158, 1, none⟩ = some (.string (⟨#[]⟩ : ByteArray)) := (blk_cell BK158.out 1).trans rfl
              have hcz86_2 : wc.cell? ⟨gb158, 2, none⟩ = some (.bool false) := (blk_cell BK158.out 2).trans rfl
              have hcz86_3 : wc.cell? ⟨gb158, 3, none⟩ = some (.slice none 0 0) := (blk_cell BK158.out 3).trans rfl
              have hcz86_4 : wc.cell? ⟨gb158, 4, none⟩ = some (.slice none 0 0) := (blk_cell BK158.out 4).trans rfl
              have hcz86_5 : wc.cell? ⟨gb158, 5, none⟩ = some (.int .i64 0) := (blk_cell BK158.out 5).trans rfl
              have hfz86_0 := blk_frozen BK158.out 0
              have hfz86_1 := blk_frozen BK158.out 1
              have hfz86_2 := blk_frozen BK158.out 2
              have hfz86_3 := blk_frozen BK158.out 3
              have hfz86_4 := blk_frozen BK158.out 4
              have hfz86_5 := blk_frozen BK158.out 5
              go_wp2_with (first|((with_reducible refine gate_store (t := 33) (p := 2) rfl ?_);refine store_event (t := 33) (p := 2) (v := ?vo_w87) (w1 := ((((((wc.setCell ⟨gb158, 0, none⟩ (.int .i64 0)).setCell ⟨gb158, 1, none⟩ (.string (⟨#[]⟩ : ByteArray))).setCell ⟨gb158, 2, none⟩ (.bool false)).setCell ⟨gb158, 3, none⟩ (.slice none 0 0)).setCell ⟨gb158, 4, none⟩ (.slice none 0 0)).setCell ⟨gb158, 5, none⟩ (.int .i64 0))) ?hg ?ho ?hn ?hr ?_;(case ho => rfl);(case hg => rfl);(case hn => rfl);(case hr => first|(go_simp;done)|(go_simp;rfl));intro w87 hw;have n0_ : Aside0 (Kd.R (Kd.int .i64) 3 w87 w.heap.size (fun k_ => (w.heap.size ≤ k_)) v171 t168) := ⟨(by rw [hw];exact (by (with_reducible repeat (first|apply Kd.R_alloc|apply Kd.R_drewN|apply Kd.R_drew));exact Kd.R_mono (Kd.R_far (p := ⟨gb158, 5, none⟩) (Kd.R_far (p := ⟨gb158, 4, none⟩) (Kd.R_far (p := ⟨gb158, 3, none⟩) (Kd.R_far (p := ⟨gb158, 2, none⟩) (Kd.R_far (p := ⟨gb158, 1, none⟩) (Kd.R_far (p := ⟨gb158, 0, none⟩) (Kd.R_types HO_6.out BK158.out (by decide)) (fun _ hk => hk.2) (.int .i64 0)) (fun _ hk => hk.2) (.string (⟨#[]⟩ : ByteArray))) (fun _ hk => hk.2) (.bool false)) (fun _ hk => hk.2) (.slice none 0 0)) (fun _ hk => hk.2) (.slice none 0 0)) (fun _ hk => hk.2) (.int .i64 0)) (fun _ hk => hk.1)))⟩;have n1_ : Aside0 (Kd.V (Kd.int .u32) 73 w87 w.heap.size (fun k_ => (w.heap.size ≤ k_) ∧ some k_ ≠ (v171 : Value).ownBlock ∧ k_ ≠ gb158 ∧ k_ ≠ gb164) (.slice Ao30 t160.length co30) t160) := ⟨(by rw [hw];exact (by (with_reducible repeat (first|apply Kd.V_alloc|apply Kd.V_drewN|apply Kd.V_drew));exact Kd.V_mono (Kd.V_far (p := ⟨gb158, 5, none⟩) (Kd.V_far (p := ⟨gb158, 4, none⟩) (Kd.V_far (p := ⟨gb158, 3, none⟩) (Kd.V_far (p := ⟨gb158, 2, none⟩) (Kd.V_far (p := ⟨gb158, 1, none⟩) (Kd.V_far (p := ⟨gb158, 0, none⟩) (Kd.V_mono HO_165001.out (fun k_ hk => (⟨hk, hk.2.2.1⟩ : _ ∧ k_ ≠ gb158))) (fun _ hk => hk.2) (.int .i64 0)) (fun _ hk => hk.2) (.string (⟨#[]⟩ : ByteArray))) (fun _ hk => hk.2) (.bool false)) (fun _ hk => hk.2) (.slice none 0 0)) (fun _ hk => hk.2) (.slice none 0 0)) (fun _ hk => hk.2) (.int .i64 0)) (fun _ hk => ⟨hk.1.1, ⟨hk.1.2.1, ⟨hk.1.2.2.1, hk.1.2.2.2⟩⟩⟩)))⟩;have n2_ : Aside0 (w87.heap[gb158]? = some (.cells #[.int .i64 0, .string (⟨#[]⟩ : ByteArray), .bool false, .slice none 0 0, .slice none 0 0, .int .i64 0] 33 (0, 0))) := ⟨(by rw [hw];exact (by (with_reducible repeat (first|refine blk_drewN ?_ _|refine blk_drew ?_|refine blk_alloc ?_ _));refine blk_put (cs := #[.int .i64 0, .string (⟨#[]⟩ : ByteArray), .bool false, .slice none 0 0, .slice none 0 0, .int .i64 0]) ?_ 5 _ rfl;(with_reducible repeat (first|refine blk_drewN ?_ _|refine blk_drew ?_|refine blk_alloc ?_ _));refine blk_put (cs := #[.int .i64 0, .string (⟨#[]⟩ : ByteArray), .bool false, .slice none 0 0, .slice none 0 0, .int .i64 0]) ?_ 4 _ rfl;(with_reducible repeat (first|refine blk_drewN ?_ _|refine blk_drew ?_|refine blk_alloc ?_ _));refine blk_put (cs := #[.int .i64 0, .string (⟨#[]⟩ : ByteArray), .bool false, .slice none 0 0, .slice none 0 0, .int .i64 0]) ?_ 3 _ rfl;(with_reducible repeat (first|refine blk_drewN ?_ _|refine blk_drew ?_|refine blk_alloc ?_ _));refine blk_put (cs := #[.int .i64 0, .string (⟨#[]⟩ : ByteArray), .bool false, .slice none 0 0, .slice none 0 0, .int .i64 0]) ?_ 2 _ rfl;(with_reducible repeat (first|refine blk_drewN ?_ _|refine blk_drew ?_|refine blk_alloc ?_ _));refine blk_put (cs := #[.int .i64 0, .string (⟨#[]⟩ : ByteArray), .bool false, .slice none 0 0, .slice none 0 0, .int .i64 0]) ?_ 1 _ rfl;(with_reducible repeat (first|refine blk_drewN ?_ _|refine blk_drew ?_|refine blk_alloc ?_ _));refine blk_put (cs := #[.int .i64 0, .string (⟨#[]⟩ : ByteArray), .bool false, .slice none 0 0, .slice none 0 0, .int .i64 0]) ?_ 0 _ rfl;(with_reducible repeat (first|refine blk_drewN ?_ _|refine blk_drew ?_|refine blk_alloc ?_ _));exact BK158.out))⟩;have n3_ : Aside0 (w87.heap[gb164]? = some (.cells #[.bool t159, .slice Ao30 t160.length co30] 30 (0, 0))) := ⟨(by rw [hw];exact (by (with_reducible repeat (first|refine blk_drewN ?_ _|refine blk_drew ?_|refine blk_alloc ?_ _));refine blk_far ?_ NB164_158.out _;(with_reducible repeat (first|refine blk_drewN ?_ _|refine blk_drew ?_|refine blk_alloc ?_ _));refine blk_far ?_ NB164_158.out _;(with_reducible repeat (first|refine blk_drewN ?_ _|refine blk_drew ?_|refine blk_alloc ?_ _));refine blk_far ?_ NB164_158.out _;(with_reducible repeat (first|refine blk_drewN ?_ _|refine blk_drew ?_|refine blk_alloc ?_ _));refine blk_far ?_ NB164_158.out _;(with_reducible repeat (first|refine blk_drewN ?_ _|refine blk_drew ?_|refine blk_alloc ?_ _));refine blk_far ?_ NB164_158.out _;(with_reducible repeat (first|refine blk_drewN ?_ _|refine blk_drew ?_|refine blk_alloc ?_ _));refine blk_far ?_ NB164_158.out _;(with_reducible repeat (first|refine blk_drewN ?_ _|refine blk_drew ?_|refine blk_alloc ?_ _));exact BK164.out))⟩;have n4_ : Aside0 (Below w.heap.size w w87) := ⟨(by rw [hw];exact (by repeat (first|(with_reducible first|exact HB.out|apply below_alloc|apply pw_below_drewN|apply below_drew1|refine below_set ?_ GE158.out|refine below_set ?_ GE164.out)|exact HB.out)))⟩;clear hw;clear HO_6;clear HO_165001;clear BK158;clear BK164;clear HB;have HO_6 := n0_;have HO_165001 := n1_;have BK158 := n2_;have BK164 := n3_;have HB := n4_;clear n0_ n1_ n2_ n3_ n4_))
              refine bodyPost_ret (results_ct rfl _ _ gb158 33 #[.int .i64 0, .string (⟨#[]⟩ : ByteArray), .bool false, .slice none 0 0, .slice none 0 0, .int .i64 0] (0, 0) _ rfl (by (with_reducible repeat (first|refine blk_drewN ?_ _|refine blk_drew ?_|refine blk_alloc ?_ _));exact BK158.out) Tryd.underlying33 rfl (by kernel_rfl)) rfl ?_
              exact ⟨_, _, by first|rfl|(simp [errW_none, errW_some] <;> rfl)|(simp [*, errW_none, errW_some] <;> rfl), Kd.V_nil _ _ _ _ _, by first|exact Kd.R_nil _ _ _ _ _|exact Kd.N_nil _ _ _ _ _|exact Kd.V_nil _ _ _ _ _|exact Kd.Q_nil _ _ _ _ _|exact Kd.S_nil _ _ _ _ _, by repeat (first|(with_reducible first|exact HB.out|apply below_alloc|apply pw_below_drewN|apply below_drew1|refine below_set ?_ GE158.out|refine below_set ?_ GE164.out)|exact HB.out)⟩
       ·rw [if_neg c23] at H
        exact absurd H (by simp)
end Go.Proofs.YtefefpkgiecikaaDoor.P
namespace Go.Proofs.YtefefpkgiecikaaDoor.P
open Go.RowKit Go.Proofs.YtefefpkgiecikaaDoorW.PrintWords Go.Proofs.YtefefpkgiecikaaDoorW.PrintLast Go.Proofs.YtefefpkgiecikaaDoorW.PrintMore
attribute [local go_sem] max2_int min2_int max_two min_two max_three min_three max_four min_four
set_option linter.unusedVariables false
set_option linter.unusedSimpArgs false
def IsS50 (w0 W : World) (g : Nat) (f0 : List Int) (f1 : Int) : Prop := ∃ A0 c0, W.heap[g]? = some (.cells #[.slice A0 f0.length c0, .int .i64 f1] 50 (0, 0)) ∧ w0.heap.size ≤ g ∧ (Kd.C (Kd.int .i64) w0 A0 f0.length f0 ∧ f0.length ≤ c0)
theorem IsS50.grown {w0 W : World} {g : Nat} {f0 : List Int} {f1 : Int} {W1 : World} {row : Option Nat} (h : IsS50 w0 W g f0 f1) (hw : W.grownBy W1 row) (hne : some g ≠ row) : IsS50 w0 W1 g f0 f1 := by
 obtain ⟨A0, c0, hb, hg, hr0⟩ := h
 exact ⟨A0, c0, blk_grown hb hw hne, hg, hr0⟩
theorem IsS50.own_neN {w0 W : World} {g : Nat} {f0 : List Int} {f1 : Int} {α : Type} {d : Kd α} {e : Nat} {base : Nat} {ok : Nat → Prop} {v : Value} {xs : List α} (h : IsS50 w0 W g f0 f1) (ho : Kd.N d e W base ok v xs) (ht : e ≠ 50) : some g ≠ v.ownBlock := by
 obtain ⟨A0, c0, hb, hg, hr0⟩ := h
 exact Kd.N_ne ho hb ht
theorem IsS50.fresh {w0 W : World} {g : Nat} {f0 : List Int} {f1 : Int} (h : IsS50 w0 W g f0 f1) : ∀ k, W.heap.size ≤ k → k ≠ g := by
 obtain ⟨A0, c0, hb, hg, hr0⟩ := h
 exact Kd.freshB hb
theorem IsS50.kept {w0 W : World} {g : Nat} {f0 : List Int} {f1 : Int} {W1 : World} {S : Nat → Prop} (h : IsS50 w0 W g f0 f1) (hk : Kept W W1 S) (hne : ¬ S g) : IsS50 w0 W1 g f0 f1 := by
 obtain ⟨A0, c0, hb, hg, hr0⟩ := h
 exact ⟨A0, c0, blk_kept hb hk hne, hg, hr0⟩
theorem IsS50.below {w0 W : World} {g : Nat} {f0 : List Int} {f1 : Int} {W1 : World} (h : IsS50 w0 W g f0 f1) (hw : Below W.heap.size W W1) : IsS50 w0 W1 g f0 f1 := h.grown (grown_of_below hw none) (by simp)
theorem IsS50.alloc {w0 W : World} {g : Nat} {f0 : List Int} {f1 : Int} (h : IsS50 w0 W g f0 f1) (o : Obj) : IsS50 w0 (W.alloc o) g f0 f1 := h.below (below_alloc (Below.refl _ _) o)
theorem IsS50.drewN {w0 W : World} {g : Nat} {f0 : List Int} {f1 : Int} (h : IsS50 w0 W g f0 f1) (m : Nat) : IsS50 w0 (W.drewN m) g f0 f1 := h
theorem IsS50.drew {w0 W : World} {g : Nat} {f0 : List Int} {f1 : Int} (h : IsS50 w0 W g f0 f1) : IsS50 w0 W.drew g f0 f1 := h
theorem IsS50.at_ {w0 W : World} {g : Nat} {f0 : List Int} {f1 : Int} {w' : World} {m : Nat} (hq : W.drewN m = w') (h : IsS50 w0 W g f0 f1) : IsS50 w0 w' g f0 f1 := by subst hq; exact IsS50.drewN h m
theorem IsS50.apart {w0 W : World} {g : Nat} {f0 : List Int} {f1 : Int} {α : Type} {d : Kd α} {e : Nat} {base : Nat} {ok : Nat → Prop} {v : Value} {xs : List α} (h : IsS50 w0 W g f0 f1) (ho : d.R e W base ok v xs) (ht : ∀ q, q ∈ e :: d.E → q ≠ 50) : d.R e W base (fun k => ok k ∧ k ≠ g) v xs := by
 obtain ⟨A0, c0, hb, hg, hr0⟩ := h
 exact Kd.R_types ho hb ht
theorem IsS50.own_ne {w0 W : World} {g : Nat} {f0 : List Int} {f1 : Int} {α : Type} {d : Kd α} {e : Nat} {base : Nat} {ok : Nat → Prop} {v : Value} {xs : List α} (h : IsS50 w0 W g f0 f1) (ho : d.R e W base ok v xs) (ht : e ≠ 50) : some g ≠ v.ownBlock := by
 obtain ⟨A0, c0, hb, hg, hr0⟩ := h
 exact Kd.R_ne ho hb ht
theorem IsS50.lt {w0 W : World} {g : Nat} {f0 : List Int} {f1 : Int} (h : IsS50 w0 W g f0 f1) : g < W.heap.size := by
 obtain ⟨A0, c0, hb, hg, hr0⟩ := h
 exact blk_lt hb
theorem IsS50.ge {w0 W : World} {g : Nat} {f0 : List Int} {f1 : Int} (h : IsS50 w0 W g f0 f1) : w0.heap.size ≤ g := by
 obtain ⟨A0, c0, hb, hg, hr0⟩ := h
 exact hg
theorem IsS50.far {w0 W : World} {g : Nat} {f0 : List Int} {f1 : Int} {p : Addr} (h : IsS50 w0 W g f0 f1) (hne : g ≠ p.block) (u : Value) : IsS50 w0 (W.setCell p u) g f0 f1 := by
 obtain ⟨A0, c0, hb, hg, hr0⟩ := h
 exact ⟨A0, c0, blk_far hb hne u, hg, hr0⟩
theorem cellS50_0 {W : World} {g : Nat} {A0 : Option Addr} {c0 : Nat} {f0 : List Int} {f1 : Int} (h : W.heap[g]? = some (.cells #[.slice A0 f0.length c0, .int .i64 f1] 50 (0, 0))) : W.cell? ⟨g, 0, none⟩ = some (.slice A0 f0.length c0) := (blk_cell h 0).trans rfl
theorem cellS50_1 {W : World} {g : Nat} {A0 : Option Addr} {c0 : Nat} {f0 : List Int} {f1 : Int} (h : W.heap[g]? = some (.cells #[.slice A0 f0.length c0, .int .i64 f1] 50 (0, 0))) : W.cell? ⟨g, 1, none⟩ = some (.int .i64 f1) := (blk_cell h 1).trans rfl
theorem IsS50.set_1 {w0 W : World} {g : Nat} {f0 : List Int} {f1 : Int} (h : IsS50 w0 W g f0 f1) (x : Int) : IsS50 w0 (W.setCell ⟨g, 1, none⟩ (.int .i64 x)) g f0 x := by
 obtain ⟨A0, c0, hb, hg, hr0⟩ := h
 exact ⟨A0, c0, by simpa using blk_set hb 1 (.int .i64 x), hg, hr0⟩
def token_scanner_left.f (s0_0 : List Int) (s0_1 : Int) (a1 : Int) : Option (Bool × Int) := some (decide ((wrap64 (s0_1 + a1)) ≤ (s0_0.length : Int)), s0_1)
set_option maxHeartbeats 8000000 in
set_option maxRecDepth 100000 in
theorem token_scanner_left.calls (g : Nat) (s0_0 : List Int) (s0_1 : Int) (a1 : Int) (r1 : Bool) (r2 : Int) (w0 w : World) (hI : IsS50 w0 w g s0_0 s0_1) (hB : Below w0.heap.size w0 w) (h : token_scanner_left.f s0_0 s0_1 a1 = some (r1, r2)) :
  Calls Tryd.prog 14 #[.pointer (some ⟨g, 0, none⟩), .int .i64 a1] w fun e w' => e = .returned (.bool r1) ∧ IsS50 w0 w' g s0_0 r2 ∧ Below w0.heap.size w0 w' ∧ KeepBut w w' g none := by
 have HI0 := Aside0.mk hI
 have HK := Aside0.mk (KeepBut.refl w g none)
 have HL := Aside0.mk hB.size
 clear hI
 have HW0 := Aside0.mk hB.size
 have HB := Aside0.mk hB
 clear hB
 have H : (some (decide ((wrap64 (s0_1 + a1)) ≤ (s0_0.length : Int)), s0_1)) = some (r1, r2) := h
 clear h
 simp only [Option.some.injEq, Prod.mk.injEq] at H
 obtain ⟨rfl, rfl⟩ := H
 obtain ⟨ASz3_0, cSz3_0, HGz3, hgz3, ⟨HSz3_0, HCSz3_0⟩⟩ := HI0.out
 have hcz3_0 := cellS50_0 HGz3
 have hcz3_1 := cellS50_1 HGz3
 have hfz3_1 := blk_frozen HGz3 1
 have BKSz3 := Aside0.mk HGz3
 clear HGz3 hgz3
 go_enter Tryd.func14, Tryd.ntmps14
 go_wp2
 repeat (go_quiet (fail); try go_wp2)
 go_ret
 exact ⟨by first|rfl|(simp [errW_none, errW_some] <;> rfl)|(simp [*, errW_none, errW_some] <;> rfl), by repeat (first|(with_reducible first|exact HI0.out|apply IsS50.alloc|apply IsS50.drewN|apply IsS50.drew|apply IsS50.set_1)|exact HI0.out), by repeat (first|(with_reducible first|exact HB.out|apply below_alloc|apply pw_below_drewN|apply below_drew1|refine below_set ?_ (IsS50.ge HI0.out))|exact HB.out), by repeat (first|(with_reducible first|exact HK.out|apply KeepBut.set_|apply keep_drewN|apply keep_drew|apply keep_alloc)|exact HK.out)⟩
end Go.Proofs.YtefefpkgiecikaaDoor.P
namespace Go.Proofs.YtefefpkgiecikaaDoor.P
open Go.RowKit Go.Proofs.YtefefpkgiecikaaDoorW.PrintWords Go.Proofs.YtefefpkgiecikaaDoorW.PrintLast Go.Proofs.YtefefpkgiecikaaDoorW.PrintMore
attribute [local go_sem] max2_int min2_int max_two min_two max_three min_three max_four min_four
set_option linter.unusedVariables false
set_option linter.unusedSimpArgs false
def token_scanner_peek.f (s0_0 : List Int) (s0_1 : Int) (a1 : Int) : Option (Int × Int) := (token_scanner_left.f s0_0 s0_1 (wrap64 (a1 + 1))).bind fun bt101 => (if bt101.1 = true then (if 0 ≤ (wrap64 (bt101.2 + a1)) then (if (wrap64 (bt101.2 + a1)) < (s0_0.length : Int) then (some (rd s0_0 (wrap64 (bt101.2 + a1)), bt101.2)) else (none)) else (none)) else (some ((-1), bt101.2)))
set_option maxHeartbeats 8000000 in
set_option maxRecDepth 100000 in
theorem token_scanner_peek.calls (g : Nat) (s0_0 : List Int) (s0_1 : Int) (a1 : Int) (r1 : Int) (r2 : Int) (w0 w : World) (hI : IsS50 w0 w g s0_0 s0_1) (hB : Below w0.heap.size w0 w) (h : token_scanner_peek.f s0_0 s0_1 a1 = some (r1, r2)) :
  Calls Tryd.prog 24 #[.pointer (some ⟨g, 0, none⟩), .int .i64 a1] w fun e w' => e = .returned (.int .i64 r1) ∧ IsS50 w0 w' g s0_0 r2 ∧ Below w0.heap.size w0 w' ∧ KeepBut w w' g none := by
 have HI0 := Aside0.mk hI
 have HK := Aside0.mk (KeepBut.refl w g none)
 have HL := Aside0.mk hB.size
 clear hI
 have HW0 := Aside0.mk hB.size
 have HB := Aside0.mk hB
 clear hB
 have H : ((token_scanner_left.f s0_0 s0_1 (wrap64 (a1 + 1))).bind fun bt101 => (if bt101.1 = true then (if 0 ≤ (wrap64 (bt101.2 + a1)) then (if (wrap64 (bt101.2 + a1)) < (s0_0.length : Int) then (some (rd s0_0 (wrap64 (bt101.2 + a1)), bt101.2)) else (none)) else (none)) else (some ((-1), bt101.2)))) = some (r1, r2) := h
 clear h
 replace H := Option.bind_eq_some_iff.mp H
 obtain ⟨⟨t101, t102⟩, A30, H⟩ := H
 replace H : (if t101 = true then (if 0 ≤ (wrap64 (t102 + a1)) then (if (wrap64 (t102 + a1)) < (s0_0.length : Int) then (some (rd s0_0 (wrap64 (t102 + a1)), t102)) else (none)) else (none)) else (some ((-1), t102))) = some (r1, r2) := H
 have A3 := Aside0.mk A30
 clear A30
 by_cases c4 : t101 = true
 ·subst c4
  have H1 : (if 0 ≤ (wrap64 (t102 + a1)) then (if (wrap64 (t102 + a1)) < (s0_0.length : Int) then (some (rd s0_0 (wrap64 (t102 + a1)), t102)) else (none)) else (none)) = some (r1, r2) := by rw [if_pos rfl] at H; exact H
  clear H
  have H := H1
  clear H1
  obtain ⟨ji5, hji5⟩ : ∃ j_ : Int, (wrap64 (t102 + a1)) = j_ := ⟨_, rfl⟩
  replace H : (if 0 ≤ (ji5) then (if (ji5) < (s0_0.length : Int) then (some (rd s0_0 (ji5), t102)) else (none)) else (none)) = some (r1, r2) := by first | (rw [hji5] at H; exact H) | (simp only [hji5] at H ⊢; exact H)
  (try rw [hji5] at A3)
  have hji5w : (IntKind.i64.wrap (t102 + a1)) = ji5 := (i64_w _).trans hji5
  by_cases c6 : 0 ≤ (ji5)
  ·rw [if_pos c6] at H
   have c6b0 : decide (0 ≤ (ji5)) = true := decide_eq_true c6
   clear c6
   by_cases c7 : (ji5) < (s0_0.length : Int)
   ·rw [if_pos c7] at H
    have c7b0 : decide ((ji5) < (s0_0.length : Int)) = true := decide_eq_true c7
    clear c7
    simp only [Option.some.injEq, Prod.mk.injEq] at H
    obtain ⟨rfl, rfl⟩ := H
    go_enter Tryd.func24, Tryd.ntmps24
    go_wp2_with (first|(go_at_call 14;(with_reducible refine (token_scanner_left.calls g s0_0 s0_1 (wrap64 (a1 + 1)) true t102 w0 _ ?side1 ?side2 A3.out).mono ?_);(case side1 => repeat (first|(with_reducible first|exact HI0.out|apply IsS50.alloc|apply IsS50.drewN|apply IsS50.drew|apply IsS50.set_1)|exact HI0.out));(case side2 => repeat (first|(with_reducible first|exact HB.out|apply below_alloc|apply pw_below_drewN|apply below_drew1|refine below_set ?_ (IsS50.ge HI0.out))|exact HB.out));rintro e w8 ⟨rfl, hi, hb, hk⟩;have n0_ := Aside0.mk (KeepBut.trans (by repeat (first|(with_reducible first|exact HK.out|apply KeepBut.set_|apply keep_drewN|apply keep_drew|apply keep_alloc)|exact HK.out)) hk (.inl rfl));have n1_ := Aside0.mk (hb);have n2_ := Aside0.mk (hi);clear HK;clear HB;clear HI0;have HK := n0_;have HB := n1_;have HI0 := n2_;clear n0_ n1_ n2_;(try clear hb);(try clear hb2);(try clear hk);(try clear hi);obtain ⟨ASz9_0, cSz9_0, HGz9, hgz9, ⟨HSz9_0, HCSz9_0⟩⟩ := HI0.out;have hcz9_0 := cellS50_0 HGz9;have hcz9_1 := cellS50_1 HGz9;have hfz9_1 := blk_frozen HGz9 1;have BKSz9 := Aside0.mk HGz9;clear HGz9 hgz9;have p103 : 0 ≤ ((ji5) : Int) := of_decide_eq_true (by first|(with_reducible assumption)|assumption);have q103 : (ji5) < (s0_0.length : Int) := of_decide_eq_true (by first|(with_reducible assumption)|assumption);obtain ⟨ad103, e103, hx103_0⟩ := Kd.at_int HSz9_0 (ji5) p103 q103;cases e103;replace hx103_0 := pw_cell_below HB.out hx103_0;replace p103 := eq_true p103;replace q103 := eq_true q103))
    repeat (go_quiet (first|(go_at_call 14;(with_reducible refine (token_scanner_left.calls g s0_0 s0_1 (wrap64 (a1 + 1)) true t102 w0 _ ?side1 ?side2 A3.out).mono ?_);(case side1 => repeat (first|(with_reducible first|exact HI0.out|apply IsS50.alloc|apply IsS50.drewN|apply IsS50.drew|apply IsS50.set_1)|exact HI0.out));(case side2 => repeat (first|(with_reducible first|exact HB.out|apply below_alloc|apply pw_below_drewN|apply below_drew1|refine below_set ?_ (IsS50.ge HI0.out))|exact HB.out));rintro e w8 ⟨rfl, hi, hb, hk⟩;have n0_ := Aside0.mk (KeepBut.trans (by repeat (first|(with_reducible first|exact HK.out|apply KeepBut.set_|apply keep_drewN|apply keep_drew|apply keep_alloc)|exact HK.out)) hk (.inl rfl));have n1_ := Aside0.mk (hb);have n2_ := Aside0.mk (hi);clear HK;clear HB;clear HI0;have HK := n0_;have HB := n1_;have HI0 := n2_;clear n0_ n1_ n2_;(try clear hb);(try clear hb2);(try clear hk);(try clear hi);obtain ⟨ASz9_0, cSz9_0, HGz9, hgz9, ⟨HSz9_0, HCSz9_0⟩⟩ := HI0.out;have hcz9_0 := cellS50_0 HGz9;have hcz9_1 := cellS50_1 HGz9;have hfz9_1 := blk_frozen HGz9 1;have BKSz9 := Aside0.mk HGz9;clear HGz9 hgz9;have p103 : 0 ≤ ((ji5) : Int) := of_decide_eq_true (by first|(with_reducible assumption)|assumption);have q103 : (ji5) < (s0_0.length : Int) := of_decide_eq_true (by first|(with_reducible assumption)|assumption);obtain ⟨ad103, e103, hx103_0⟩ := Kd.at_int HSz9_0 (ji5) p103 q103;cases e103;replace hx103_0 := pw_cell_below HB.out hx103_0;replace p103 := eq_true p103;replace q103 := eq_true q103));try go_wp2_with (first|(go_at_call 14;(with_reducible refine (token_scanner_left.calls g s0_0 s0_1 (wrap64 (a1 + 1)) true t102 w0 _ ?side1 ?side2 A3.out).mono ?_);(case side1 => repeat (first|(with_reducible first|exact HI0.out|apply IsS50.alloc|apply IsS50.drewN|apply IsS50.drew|apply IsS50.set_1)|exact HI0.out));(case side2 => repeat (first|(with_reducible first|exact HB.out|apply below_alloc|apply pw_below_drewN|apply below_drew1|refine below_set ?_ (IsS50.ge HI0.out))|exact HB.out));rintro e w8 ⟨rfl, hi, hb, hk⟩;have n0_ := Aside0.mk (KeepBut.trans (by repeat (first|(with_reducible first|exact HK.out|apply KeepBut.set_|apply keep_drewN|apply keep_drew|apply keep_alloc)|exact HK.out)) hk (.inl rfl));have n1_ := Aside0.mk (hb);have n2_ := Aside0.mk (hi);clear HK;clear HB;clear HI0;have HK := n0_;have HB := n1_;have HI0 := n2_;clear n0_ n1_ n2_;(try clear hb);(try clear hb2);(try clear hk);(try clear hi);obtain ⟨ASz9_0, cSz9_0, HGz9, hgz9, ⟨HSz9_0, HCSz9_0⟩⟩ := HI0.out;have hcz9_0 := cellS50_0 HGz9;have hcz9_1 := cellS50_1 HGz9;have hfz9_1 := blk_frozen HGz9 1;have BKSz9 := Aside0.mk HGz9;clear HGz9 hgz9;have p103 : 0 ≤ ((ji5) : Int) := of_decide_eq_true (by first|(with_reducible assumption)|assumption);have q103 : (ji5) < (s0_0.length : Int) := of_decide_eq_true (by first|(with_reducible assumption)|assumption);obtain ⟨ad103, e103, hx103_0⟩ := Kd.at_int HSz9_0 (ji5) p103 q103;cases e103;replace hx103_0 := pw_cell_below HB.out hx103_0;replace p103 := eq_true p103;replace q103 := eq_true q103)))
    go_ret
    exact ⟨by first|rfl|(simp [errW_none, errW_some] <;> rfl)|(simp only [← hji5];first|rfl|(simp [errW_none, errW_some] <;> rfl))|(simp [*, errW_none, errW_some] <;> rfl), by repeat (first|(with_reducible first|exact HI0.out|apply IsS50.alloc|apply IsS50.drewN|apply IsS50.drew|apply IsS50.set_1)|exact HI0.out), by repeat (first|(with_reducible first|exact HB.out|apply below_alloc|apply pw_below_drewN|apply below_drew1|refine below_set ?_ (IsS50.ge HI0.out))|exact HB.out), by repeat (first|(with_reducible first|exact HK.out|apply KeepBut.set_|apply keep_drewN|apply keep_drew|apply keep_alloc)|exact HK.out)⟩
   ·rw [if_neg c7] at H
    exact absurd H (by simp)
  ·rw [if_neg c6] at H
   exact absurd H (by simp)
 ·replace c4 := Bool.eq_false_iff.mpr c4
  subst c4
  have H1 : (some ((-1), t102)) = some (r1, r2) := by rw [if_neg (show ¬ (false = true) by decide)] at H; exact H
  clear H
  have H := H1
  clear H1
  simp only [Option.some.injEq, Prod.mk.injEq] at H
  obtain ⟨rfl, rfl⟩ := H
  go_enter Tryd.func24, Tryd.ntmps24
  go_wp2_with (first|(go_at_call 14;(with_reducible refine (token_scanner_left.calls g s0_0 s0_1 (wrap64 (a1 + 1)) false t102 w0 _ ?side1 ?side2 A3.out).mono ?_);(case side1 => repeat (first|(with_reducible first|exact HI0.out|apply IsS50.alloc|apply IsS50.drewN|apply IsS50.drew|apply IsS50.set_1)|exact HI0.out));(case side2 => repeat (first|(with_reducible first|exact HB.out|apply below_alloc|apply pw_below_drewN|apply below_drew1|refine below_set ?_ (IsS50.ge HI0.out))|exact HB.out));rintro e w10 ⟨rfl, hi, hb, hk⟩;have n0_ := Aside0.mk (KeepBut.trans (by repeat (first|(with_reducible first|exact HK.out|apply KeepBut.set_|apply keep_drewN|apply keep_drew|apply keep_alloc)|exact HK.out)) hk (.inl rfl));have n1_ := Aside0.mk (hb);have n2_ := Aside0.mk (hi);clear HK;clear HB;clear HI0;have HK := n0_;have HB := n1_;have HI0 := n2_;clear n0_ n1_ n2_;(try clear hb);(try clear hb2);(try clear hk);(try clear hi)))
  repeat (go_quiet (first|(go_at_call 14;(with_reducible refine (token_scanner_left.calls g s0_0 s0_1 (wrap64 (a1 + 1)) false t102 w0 _ ?side1 ?side2 A3.out).mono ?_);(case side1 => repeat (first|(with_reducible first|exact HI0.out|apply IsS50.alloc|apply IsS50.drewN|apply IsS50.drew|apply IsS50.set_1)|exact HI0.out));(case side2 => repeat (first|(with_reducible first|exact HB.out|apply below_alloc|apply pw_below_drewN|apply below_drew1|refine below_set ?_ (IsS50.ge HI0.out))|exact HB.out));rintro e w10 ⟨rfl, hi, hb, hk⟩;have n0_ := Aside0.mk (KeepBut.trans (by repeat (first|(with_reducible first|exact HK.out|apply KeepBut.set_|apply keep_drewN|apply keep_drew|apply keep_alloc)|exact HK.out)) hk (.inl rfl));have n1_ := Aside0.mk (hb);have n2_ := Aside0.mk (hi);clear HK;clear HB;clear HI0;have HK := n0_;have HB := n1_;have HI0 := n2_;clear n0_ n1_ n2_;(try clear hb);(try clear hb2);(try clear hk);(try clear hi)));try go_wp2_with (first|(go_at_call 14;(with_reducible refine (token_scanner_left.calls g s0_0 s0_1 (wrap64 (a1 + 1)) false t102 w0 _ ?side1 ?side2 A3.out).mono ?_);(case side1 => repeat (first|(with_reducible first|exact HI0.out|apply IsS50.alloc|apply IsS50.drewN|apply IsS50.drew|apply IsS50.set_1)|exact HI0.out));(case side2 => repeat (first|(with_reducible first|exact HB.out|apply below_alloc|apply pw_below_drewN|apply below_drew1|refine below_set ?_ (IsS50.ge HI0.out))|exact HB.out));rintro e w10 ⟨rfl, hi, hb, hk⟩;have n0_ := Aside0.mk (KeepBut.trans (by repeat (first|(with_reducible first|exact HK.out|apply KeepBut.set_|apply keep_drewN|apply keep_drew|apply keep_alloc)|exact HK.out)) hk (.inl rfl));have n1_ := Aside0.mk (hb);have n2_ := Aside0.mk (hi);clear HK;clear HB;clear HI0;have HK := n0_;have HB := n1_;have HI0 := n2_;clear n0_ n1_ n2_;(try clear hb);(try clear hb2);(try clear hk);(try clear hi))))
  go_ret
  exact ⟨by first|rfl|(simp [errW_none, errW_some] <;> rfl)|(simp [*, errW_none, errW_some] <;> rfl), by repeat (first|(with_reducible first|exact HI0.out|apply IsS50.alloc|apply IsS50.drewN|apply IsS50.drew|apply IsS50.set_1)|exact HI0.out), by repeat (first|(with_reducible first|exact HB.out|apply below_alloc|apply pw_below_drewN|apply below_drew1|refine below_set ?_ (IsS50.ge HI0.out))|exact HB.out), by repeat (first|(with_reducible first|exact HK.out|apply KeepBut.set_|apply keep_drewN|apply keep_drew|apply keep_alloc)|exact HK.out)⟩
end Go.Proofs.YtefefpkgiecikaaDoor.P
namespace Go.Proofs.YtefefpkgiecikaaDoor.P
open Go.RowKit Go.Proofs.YtefefpkgiecikaaDoorW.PrintWords Go.Proofs.YtefefpkgiecikaaDoorW.PrintLast Go.Proofs.YtefefpkgiecikaaDoorW.PrintMore
attribute [local go_sem] max2_int min2_int max_two min_two max_three min_three max_four min_four
set_option linter.unusedVariables false
set_option linter.unusedSimpArgs false
mutual
def token_scanner_blanks.l0 : Nat → List Int → Int → Option (Int)
 | 0, _, _ => none
 | k + 1, x1000, x1001 => (token_scanner_peek.f x1000 x1001 0).bind fun bt104 => (if bt104.1 ≥ 0 then ((utf_Blank.f bt104.1).bind fun t106 => (token_scanner_blanks.j1 k bt104.1 t106 x1000 bt104.2)) else (token_scanner_blanks.j1 k bt104.1 false x1000 bt104.2))
def token_scanner_blanks.j1 : Nat → Int → Bool → List Int → Int → Option (Int)
 | 0, _, _, _, _ => none
 | k + 1, x2, x5, x1000, x1001 => if x5 = true then (token_scanner_blanks.l0 k x1000 (wrap64 (x1001 + 1))) else (if x2 = 59 then (token_scanner_blanks.l1 k x1000 x1001) else (some x1001))
def token_scanner_blanks.l1 : Nat → List Int → Int → Option (Int)
 | 0, _, _ => none
 | k + 1, x1000, x1001 => (token_scanner_left.f x1000 x1001 1).bind fun bt107 => (if bt107.1 = true then ((token_scanner_peek.f x1000 bt107.2 0).bind fun bt109 => (if bt109.1 = 10 then (token_scanner_blanks.l0 k x1000 bt109.2) else (token_scanner_blanks.l1 k x1000 (wrap64 (bt109.2 + 1))))) else (token_scanner_blanks.l0 k x1000 bt107.2))
end
def token_scanner_blanks.f (k : Nat) (s0_0 : List Int) (s0_1 : Int) : Option (Int) := token_scanner_blanks.l0 k s0_0 s0_1
theorem token_scanner_blanks.mono_l : ∀ k, (∀ y0 y1, LeO (token_scanner_blanks.l0 k y0 y1) (token_scanner_blanks.l0 (k + 1) y0 y1)) ∧ (∀ y0 y1 y2 y3, LeO (token_scanner_blanks.j1 k y0 y1 y2 y3) (token_scanner_blanks.j1 (k + 1) y0 y1 y2 y3)) ∧ (∀ y0 y1, LeO (token_scanner_blanks.l1 k y0 y1) (token_scanner_blanks.l1 (k + 1) y0 y1))
 | 0 => ⟨fun _ _ r h => by simp [token_scanner_blanks.l0] at h, fun _ _ _ _ r h => by simp [token_scanner_blanks.j1] at h, fun _ _ r h => by simp [token_scanner_blanks.l1] at h⟩
 | k + 1 => by
  obtain ⟨ih0, ih1, ih2⟩ := token_scanner_blanks.mono_l k
  refine ⟨?_, ?_, ?_⟩
  ·intro y0 y1
   unfold token_scanner_blanks.l0
   repeat' first
   | (with_reducible exact ih0 _ _)
   | (with_reducible exact ih1 _ _ _ _)
   | (with_reducible exact ih2 _ _)
   | (with_reducible exact LeO.refl _)
   | (with_reducible exact LeO.none _)
   | (with_reducible refine LeO.ite ?_ ?_)
   | (with_reducible refine LeO.bind ?_ (fun _ => ?_))
   | exact ih0 _ _
   | exact ih1 _ _ _ _
   | exact ih2 _ _
   | exact LeO.none _
   | refine LeO.ite ?_ ?_
   | refine LeO.bind ?_ (fun _ => ?_)
  ·intro y0 y1 y2 y3
   unfold token_scanner_blanks.j1
   repeat' first
   | (with_reducible exact ih0 _ _)
   | (with_reducible exact ih1 _ _ _ _)
   | (with_reducible exact ih2 _ _)
   | (with_reducible exact LeO.refl _)
   | (with_reducible exact LeO.none _)
   | (with_reducible refine LeO.ite ?_ ?_)
   | (with_reducible refine LeO.bind ?_ (fun _ => ?_))
   | exact ih0 _ _
   | exact ih1 _ _ _ _
   | exact ih2 _ _
   | exact LeO.none _
   | refine LeO.ite ?_ ?_
   | refine LeO.bind ?_ (fun _ => ?_)
  ·intro y0 y1
   unfold token_scanner_blanks.l1
   repeat' first
   | (with_reducible exact ih0 _ _)
   | (with_reducible exact ih1 _ _ _ _)
   | (with_reducible exact ih2 _ _)
   | (with_reducible exact LeO.refl _)
   | (with_reducible exact LeO.none _)
   | (with_reducible refine LeO.ite ?_ ?_)
   | (with_reducible refine LeO.bind ?_ (fun _ => ?_))
   | exact ih0 _ _
   | exact ih1 _ _ _ _
   | exact ih2 _ _
   | exact LeO.none _
   | refine LeO.ite ?_ ?_
   | refine LeO.bind ?_ (fun _ => ?_)
theorem token_scanner_blanks.mono : ∀ a0 a1 k, LeO (token_scanner_blanks.f k a0 a1) (token_scanner_blanks.f (k + 1) a0 a1) := by
 intro a0 a1 k
 obtain ⟨ih0, ih1, ih2⟩ := token_scanner_blanks.mono_l k
 unfold token_scanner_blanks.f
 repeat' first
   | (with_reducible exact ih0 _ _)
   | (with_reducible exact ih1 _ _ _ _)
   | (with_reducible exact ih2 _ _)
   | (with_reducible exact LeO.refl _)
   | (with_reducible exact LeO.none _)
   | (with_reducible refine LeO.ite ?_ ?_)
   | (with_reducible refine LeO.bind ?_ (fun _ => ?_))
   | exact ih0 _ _
   | exact ih1 _ _ _ _
   | exact ih2 _ _
   | exact LeO.none _
   | refine LeO.ite ?_ ?_
   | refine LeO.bind ?_ (fun _ => ?_)
set_option maxHeartbeats 8000000 in
set_option maxRecDepth 100000 in
theorem token_scanner_blanks.calls (k : Nat) (g : Nat) (s0_0 : List Int) (s0_1 : Int) (r : Int) (w0 w : World) (hI : IsS50 w0 w g s0_0 s0_1) (hB : Below w0.heap.size w0 w) (h : token_scanner_blanks.f k s0_0 s0_1 = some r) :
  Calls Tryd.prog 13 #[.pointer (some ⟨g, 0, none⟩)] w fun e w' => e = .returned (.tuple #[]) ∧ IsS50 w0 w' g s0_0 r ∧ Below w0.heap.size w0 w' ∧ KeepBut w w' g none := by
 have HI0 := Aside0.mk hI
 have HK := Aside0.mk (KeepBut.refl w g none)
 have HL := Aside0.mk hB.size
 clear hI
 have HW0 := Aside0.mk hB.size
 have HB := Aside0.mk hB
 clear hB
 have H : (token_scanner_blanks.l0 k s0_0 s0_1) = some r := h
 clear h
 have H' := Aside0.mk H
 clear H
 go_enter Tryd.func13, Tryd.ntmps13
 go_wp2
 go_loopg [] k (fun kq w' => ∃ (x1001_1 : Int), Aside0 (token_scanner_blanks.l0 kq s0_0 x1001_1 = some r) ∧ Aside0 (kq ≤ k) ∧ Aside0 (IsS50 w0 w' g s0_0 x1001_1) ∧ Aside0 (KeepBut w w' g none) ∧ Aside0 (Below w0.heap.size w0 w'))
 case atStart => exact ⟨(s0_1), H', ⟨Nat.le_refl _⟩, ⟨by repeat (first|(with_reducible first|exact HI0.out|apply IsS50.alloc|apply IsS50.drewN|apply IsS50.drew|apply IsS50.set_1)|exact HI0.out)⟩, ⟨by repeat (first|(with_reducible first|exact HK.out|apply KeepBut.set_|apply keep_drewN|apply keep_drew|apply keep_alloc)|exact HK.out)⟩, ⟨by repeat (first|(with_reducible first|exact HB.out|apply below_alloc|apply pw_below_drewN|apply below_drew1|refine below_set ?_ (IsS50.ge HI0.out))|exact HB.out)⟩⟩
 case round =>
  clear H'
  try clear c1
  obtain ⟨x1001_1, HA, HK1, HI0, HK, HB⟩ := hrel
  cases gk with
  | zero => exact absurd HA.out (by simp [token_scanner_blanks.l0])
  | succ k1 =>
   have H := HA.out
   clear HA
   simp only [token_scanner_blanks.l0] at H
   replace H := Option.bind_eq_some_iff.mp H
   obtain ⟨⟨t104, t105⟩, A20, H⟩ := H
   replace H : (if t104 ≥ 0 then ((utf_Blank.f t104).bind fun t106 => (token_scanner_blanks.j1 k1 t104 t106 s0_0 t105)) else (token_scanner_blanks.j1 k1 t104 false s0_0 t105)) = some r := H
   have A2 := Aside0.mk A20
   clear A20
   have HC3 := Aside0.mk H
   clear H
   go_upto_region 1 with (first|((with_reducible refine gate_callee (f := 24) rfl ?_);refine goesL_ (some 4) rfl rfl Tryd.func24 (by kernel_rfl) rfl #[.pointer (some ⟨g, 0, none⟩), .int .i64 0] rfl (by (try simp only [List.map_toArray, List.map_cons, List.map_nil]);first|done|rfl|(simp only [List.length_drop, List.length_take];rfl)) ?_;(with_reducible refine (token_scanner_peek.calls g s0_0 x1001_1 0 t104 t105 w0 _ ?side1 ?side2 A2.out).mono ?_);(case side1 => repeat (first|(with_reducible first|exact HI0.out|apply IsS50.alloc|apply IsS50.drewN|apply IsS50.drew|apply IsS50.set_1)|exact HI0.out));(case side2 => repeat (first|(with_reducible first|exact HB.out|apply below_alloc|apply pw_below_drewN|apply below_drew1|refine below_set ?_ (IsS50.ge HI0.out))|exact HB.out));rintro e w4 ⟨rfl, hi, hb, hk⟩;refine ⟨_, rfl, ?_⟩;have n0_ := Aside0.mk (KeepBut.trans (by repeat (first|(with_reducible first|exact HK.out|apply KeepBut.set_|apply keep_drewN|apply keep_drew|apply keep_alloc)|exact HK.out)) hk (.inl rfl));have n1_ := Aside0.mk (hb);have n2_ := Aside0.mk (hi);clear HK;clear HB;clear HI0;have HK := n0_;have HB := n1_;have HI0 := n2_;clear n0_ n1_ n2_;(try clear hb);(try clear hb2);(try clear hk);(try clear hi)))
   (try simp only [Act.put, List.setIfInBounds_toArray, List.set_cons_zero, List.set_cons_succ])
   go_cut [5] (fun v5 wc => ∃ (kq : Nat) (x5_2 : Bool), v5 = .bool x5_2 ∧ Aside0 (token_scanner_blanks.j1 kq t104 x5_2 s0_0 t105 = some r) ∧ Aside0 (kq ≤ k1) ∧ Aside0 (IsS50 w0 wc g s0_0 t105) ∧ Aside0 (KeepBut w wc g none) ∧ Aside0 (Below w0.heap.size w0 wc))
   case first =>
    have H := HC3.out
    clear HC3
    by_cases c5 : t104 ≥ 0
    ·rw [if_pos c5] at H
     have c5b0 : decide (0 ≤ t104) = true := decide_eq_true c5
     clear c5
     (first|rw [c5b0]|(simp only [i64_w, i32_w];rw [c5b0])|skip)
     replace H := Option.bind_eq_some_iff.mp H
     obtain ⟨t106, A60, H⟩ := H
     replace H : (token_scanner_blanks.j1 k1 t104 t106 s0_0 t105) = some r := H
     have A6 := Aside0.mk A60
     clear A60
     have H' := Aside0.mk H
     clear H
     go_wp2_with (first|(go_at_call 25;(with_reducible refine (utf_Blank.calls t104 t106 _ A6.out).mono ?_);rintro e w' ⟨rfl, ⟨nd, rfl⟩⟩))
     go_meet
     case rel => exact ⟨_, (t106), (by first|rfl|(simp;done)|(simp [*];done)), H', ⟨by have := HK1.out;first|omega|exact Nat.le_refl _⟩, ⟨by repeat (first|(with_reducible first|exact HI0.out|apply IsS50.alloc|apply IsS50.drewN|apply IsS50.drew|apply IsS50.set_1)|exact HI0.out)⟩, ⟨by repeat (first|(with_reducible first|exact HK.out|apply KeepBut.set_|apply keep_drewN|apply keep_drew|apply keep_alloc)|exact HK.out)⟩, ⟨by repeat (first|(with_reducible first|exact HB.out|apply below_alloc|apply pw_below_drewN|apply below_drew1|refine below_set ?_ (IsS50.ge HI0.out))|exact HB.out)⟩⟩
    ·rw [if_neg c5] at H
     have c5b0 : decide (0 ≤ t104) = false := decide_eq_false c5
     clear c5
     (first|rw [c5b0]|(simp only [i64_w, i32_w];rw [c5b0])|skip)
     have H' := Aside0.mk H
     clear H
     go_wp2
     go_meet
     case rel => exact ⟨_, (false), (by first|rfl|(simp;done)|(simp [*];done)), H', ⟨by have := HK1.out;first|omega|exact Nat.le_refl _⟩, ⟨by repeat (first|(with_reducible first|exact HI0.out|apply IsS50.alloc|apply IsS50.drewN|apply IsS50.drew|apply IsS50.set_1)|exact HI0.out)⟩, ⟨by repeat (first|(with_reducible first|exact HK.out|apply KeepBut.set_|apply keep_drewN|apply keep_drew|apply keep_alloc)|exact HK.out)⟩, ⟨by repeat (first|(with_reducible first|exact HB.out|apply below_alloc|apply pw_below_drewN|apply below_drew1|refine below_set ?_ (IsS50.ge HI0.out))|exact HB.out)⟩⟩
   case rest =>
    clear HC3
    try clear c1
    try clear c2
    try clear p2
    try clear c5
    try clear c5b0
    obtain ⟨kq, x5_2, rfl, HA, HJ2, HI0, HK, HB⟩ := hcut
    cases kq with
    | zero => exact absurd HA.out (by simp [token_scanner_blanks.j1])
    | succ kj2 =>
     have H := HA.out
     clear HA
     simp only [token_scanner_blanks.j1] at H
     by_cases c7 : x5_2 = true
     ·subst c7
      have H1 : (token_scanner_blanks.l0 kj2 s0_0 (wrap64 (t105 + 1))) = some r := by rw [if_pos rfl] at H; exact H
      clear H
      have H := H1
      clear H1
      have H' := Aside0.mk H
      clear H
      obtain ⟨ASz8_0, cSz8_0, HGz8, hgz8, ⟨HSz8_0, HCSz8_0⟩⟩ := HI0.out
      have hcz8_0 := cellS50_0 HGz8
      have hcz8_1 := cellS50_1 HGz8
      have hfz8_1 := blk_frozen HGz8 1
      have BKSz8 := Aside0.mk HGz8
      clear HGz8 hgz8
      go_wp2
      go_roundg kj2
      case measure => have := HK1.out; have := HJ2.out; omega
      case rel => exact ⟨(wrap64 (t105 + 1)), H', ⟨by have := HK1.out;have := HJ2.out;omega⟩, ⟨by repeat (first|(with_reducible first|exact HI0.out|apply IsS50.alloc|apply IsS50.drewN|apply IsS50.drew|apply IsS50.set_1)|exact HI0.out)⟩, ⟨by repeat (first|(with_reducible first|exact HK.out|apply KeepBut.set_|apply keep_drewN|apply keep_drew|apply keep_alloc)|exact HK.out)⟩, ⟨by repeat (first|(with_reducible first|exact HB.out|apply below_alloc|apply pw_below_drewN|apply below_drew1|refine below_set ?_ (IsS50.ge HI0.out))|exact HB.out)⟩⟩
     ·replace c7 := Bool.eq_false_iff.mpr c7
      subst c7
      have H1 : (if t104 = 59 then (token_scanner_blanks.l1 kj2 s0_0 t105) else (some t105)) = some r := by rw [if_neg (show ¬ (false = true) by decide)] at H; exact H
      clear H
      have H := H1
      clear H1
      by_cases c9 : t104 = 59
      ·rw [if_pos c9] at H
       have c9b0 : (t104 == 59) = true := beq_iff_eq.mpr c9
       have c9b1 : (t104 != 59) = false := bne_eq_false_iff_eq.mpr c9
       clear c9
       have H' := Aside0.mk H
       clear H
       go_wp2
       go_loopg [] kj2 (fun kq w' => ∃ (x1001_3 : Int), Aside0 (token_scanner_blanks.l1 kq s0_0 x1001_3 = some r) ∧ Aside0 (kq ≤ kj2) ∧ Aside0 (IsS50 w0 w' g s0_0 x1001_3) ∧ Aside0 (KeepBut w w' g none) ∧ Aside0 (Below w0.heap.size w0 w'))
       case atStart => exact ⟨(t105), H', ⟨Nat.le_refl _⟩, ⟨by repeat (first|(with_reducible first|exact HI0.out|apply IsS50.alloc|apply IsS50.drewN|apply IsS50.drew|apply IsS50.set_1)|exact HI0.out)⟩, ⟨by repeat (first|(with_reducible first|exact HK.out|apply KeepBut.set_|apply keep_drewN|apply keep_drew|apply keep_alloc)|exact HK.out)⟩, ⟨by repeat (first|(with_reducible first|exact HB.out|apply below_alloc|apply pw_below_drewN|apply below_drew1|refine below_set ?_ (IsS50.ge HI0.out))|exact HB.out)⟩⟩
       case round =>
        clear H'
        try clear c1
        try clear c2
        try clear p2
        try clear c5
        try clear c5b0
        try clear p6
        try clear c7
        try clear c9
        try clear c9b0
        try clear c9b1
        try clear hcz8_0
        try clear hcz8_1
        try clear hfz8_1
        try clear p2
        obtain ⟨x1001_3, HA, HK3, HI0, HK, HB⟩ := hrel
        cases gk with
        | zero => exact absurd HA.out (by simp [token_scanner_blanks.l1])
        | succ k3 =>
         have H := HA.out
         clear HA
         simp only [token_scanner_blanks.l1] at H
         replace H := Option.bind_eq_some_iff.mp H
         obtain ⟨⟨t107, t108⟩, A100, H⟩ := H
         replace H : (if t107 = true then ((token_scanner_peek.f s0_0 t108 0).bind fun bt109 => (if bt109.1 = 10 then (token_scanner_blanks.l0 k3 s0_0 bt109.2) else (token_scanner_blanks.l1 k3 s0_0 (wrap64 (bt109.2 + 1))))) else (token_scanner_blanks.l0 k3 s0_0 t108)) = some r := H
         have A10 := Aside0.mk A100
         clear A100
         by_cases c11 : t107 = true
         ·subst c11
          have H1 : ((token_scanner_peek.f s0_0 t108 0).bind fun bt109 => (if bt109.1 = 10 then (token_scanner_blanks.l0 k3 s0_0 bt109.2) else (token_scanner_blanks.l1 k3 s0_0 (wrap64 (bt109.2 + 1))))) = some r := by rw [if_pos rfl] at H; exact H
          clear H
          have H := H1
          clear H1
          replace H := Option.bind_eq_some_iff.mp H
          obtain ⟨⟨t109, t110⟩, A120, H⟩ := H
          replace H : (if t109 = 10 then (token_scanner_blanks.l0 k3 s0_0 t110) else (token_scanner_blanks.l1 k3 s0_0 (wrap64 (t110 + 1)))) = some r := H
          have A12 := Aside0.mk A120
          clear A120
          by_cases c13 : t109 = 10
          ·rw [if_pos c13] at H
           have c13b0 : (t109 == 10) = true := beq_iff_eq.mpr c13
           have c13b1 : (t109 != 10) = false := bne_eq_false_iff_eq.mpr c13
           clear c13
           have H' := Aside0.mk H
           clear H
           go_wp2_with (first|((with_reducible refine gate_callee (f := 14) rfl ?_);refine goesL_ (some 23) rfl rfl Tryd.func14 (by kernel_rfl) rfl #[.pointer (some ⟨g, 0, none⟩), .int .i64 1] rfl (by (try simp only [List.map_toArray, List.map_cons, List.map_nil]);first|done|rfl|(simp only [List.length_drop, List.length_take];rfl)) ?_;(with_reducible refine (token_scanner_left.calls g s0_0 x1001_3 1 true t108 w0 _ ?side1 ?side2 A10.out).mono ?_);(case side1 => repeat (first|(with_reducible first|exact HI0.out|apply IsS50.alloc|apply IsS50.drewN|apply IsS50.drew|apply IsS50.set_1)|exact HI0.out));(case side2 => repeat (first|(with_reducible first|exact HB.out|apply below_alloc|apply pw_below_drewN|apply below_drew1|refine below_set ?_ (IsS50.ge HI0.out))|exact HB.out));rintro e w14 ⟨rfl, hi, hb, hk⟩;refine ⟨_, rfl, ?_⟩;have n0_ := Aside0.mk (KeepBut.trans (by repeat (first|(with_reducible first|exact HK.out|apply KeepBut.set_|apply keep_drewN|apply keep_drew|apply keep_alloc)|exact HK.out)) hk (.inl rfl));have n1_ := Aside0.mk (hb);have n2_ := Aside0.mk (hi);clear HK;clear HB;clear HI0;have HK := n0_;have HB := n1_;have HI0 := n2_;clear n0_ n1_ n2_;(try clear hb);(try clear hb2);(try clear hk);(try clear hi))|(go_at_call 24;(with_reducible refine (token_scanner_peek.calls g s0_0 t108 0 t109 t110 w0 _ ?side1 ?side2 A12.out).mono ?_);(case side1 => repeat (first|(with_reducible first|exact HI0.out|apply IsS50.alloc|apply IsS50.drewN|apply IsS50.drew|apply IsS50.set_1)|exact HI0.out));(case side2 => repeat (first|(with_reducible first|exact HB.out|apply below_alloc|apply pw_below_drewN|apply below_drew1|refine below_set ?_ (IsS50.ge HI0.out))|exact HB.out));rintro e w15 ⟨rfl, hi, hb, hk⟩;have n0_ := Aside0.mk (KeepBut.trans (by repeat (first|(with_reducible first|exact HK.out|apply KeepBut.set_|apply keep_drewN|apply keep_drew|apply keep_alloc)|exact HK.out)) hk (.inl rfl));have n1_ := Aside0.mk (hb);have n2_ := Aside0.mk (hi);clear HK;clear HB;clear HI0;have HK := n0_;have HB := n1_;have HI0 := n2_;clear n0_ n1_ n2_;(try clear hb);(try clear hb2);(try clear hk);(try clear hi)))
           go_roundg k3
           case measure => have := HK1.out; have := HJ2.out; have := HK3.out; omega
           case rel => exact ⟨(t110), H', ⟨by have := HK1.out;have := HJ2.out;have := HK3.out;omega⟩, ⟨by repeat (first|(with_reducible first|exact HI0.out|apply IsS50.alloc|apply IsS50.drewN|apply IsS50.drew|apply IsS50.set_1)|exact HI0.out)⟩, ⟨by repeat (first|(with_reducible first|exact HK.out|apply KeepBut.set_|apply keep_drewN|apply keep_drew|apply keep_alloc)|exact HK.out)⟩, ⟨by repeat (first|(with_reducible first|exact HB.out|apply below_alloc|apply pw_below_drewN|apply below_drew1|refine below_set ?_ (IsS50.ge HI0.out))|exact HB.out)⟩⟩
          ·rw [if_neg c13] at H
           have c13b0 : (t109 == 10) = false := beq_eq_false_iff_ne.mpr c13
           have c13b1 : (t109 != 10) = true := bne_iff_ne.mpr c13
           have H' := Aside0.mk H
           clear H
           go_wp2_with (first|((with_reducible refine gate_callee (f := 14) rfl ?_);refine goesL_ (some 23) rfl rfl Tryd.func14 (by kernel_rfl) rfl #[.pointer (some ⟨g, 0, none⟩), .int .i64 1] rfl (by (try simp only [List.map_toArray, List.map_cons, List.map_nil]);first|done|rfl|(simp only [List.length_drop, List.length_take];rfl)) ?_;(with_reducible refine (token_scanner_left.calls g s0_0 x1001_3 1 true t108 w0 _ ?side1 ?side2 A10.out).mono ?_);(case side1 => repeat (first|(with_reducible first|exact HI0.out|apply IsS50.alloc|apply IsS50.drewN|apply IsS50.drew|apply IsS50.set_1)|exact HI0.out));(case side2 => repeat (first|(with_reducible first|exact HB.out|apply below_alloc|apply pw_below_drewN|apply below_drew1|refine below_set ?_ (IsS50.ge HI0.out))|exact HB.out));rintro e w16 ⟨rfl, hi, hb, hk⟩;refine ⟨_, rfl, ?_⟩;have n0_ := Aside0.mk (KeepBut.trans (by repeat (first|(with_reducible first|exact HK.out|apply KeepBut.set_|apply keep_drewN|apply keep_drew|apply keep_alloc)|exact HK.out)) hk (.inl rfl));have n1_ := Aside0.mk (hb);have n2_ := Aside0.mk (hi);clear HK;clear HB;clear HI0;have HK := n0_;have HB := n1_;have HI0 := n2_;clear n0_ n1_ n2_;(try clear hb);(try clear hb2);(try clear hk);(try clear hi))|(go_at_call 24;(with_reducible refine (token_scanner_peek.calls g s0_0 t108 0 t109 t110 w0 _ ?side1 ?side2 A12.out).mono ?_);(case side1 => repeat (first|(with_reducible first|exact HI0.out|apply IsS50.alloc|apply IsS50.drewN|apply IsS50.drew|apply IsS50.set_1)|exact HI0.out));(case side2 => repeat (first|(with_reducible first|exact HB.out|apply below_alloc|apply pw_below_drewN|apply below_drew1|refine below_set ?_ (IsS50.ge HI0.out))|exact HB.out));rintro e w17 ⟨rfl, hi, hb, hk⟩;have n0_ := Aside0.mk (KeepBut.trans (by repeat (first|(with_reducible first|exact HK.out|apply KeepBut.set_|apply keep_drewN|apply keep_drew|apply keep_alloc)|exact HK.out)) hk (.inl rfl));have n1_ := Aside0.mk (hb);have n2_ := Aside0.mk (hi);clear HK;clear HB;clear HI0;have HK := n0_;have HB := n1_;have HI0 := n2_;clear n0_ n1_ n2_;(try clear hb);(try clear hb2);(try clear hk);(try clear hi);obtain ⟨ASz18_0, cSz18_0, HGz18, hgz18, ⟨HSz18_0, HCSz18_0⟩⟩ := HI0.out;have hcz18_0 := cellS50_0 HGz18;have hcz18_1 := cellS50_1 HGz18;have hfz18_1 := blk_frozen HGz18 1;have BKSz18 := Aside0.mk HGz18;clear HGz18 hgz18))
           go_roundg k3
           case measure => have := HK1.out; have := HJ2.out; have := HK3.out; omega
           case rel => exact ⟨(wrap64 (t110 + 1)), H', ⟨by have := HK1.out;have := HJ2.out;have := HK3.out;omega⟩, ⟨by repeat (first|(with_reducible first|exact HI0.out|apply IsS50.alloc|apply IsS50.drewN|apply IsS50.drew|apply IsS50.set_1)|exact HI0.out)⟩, ⟨by repeat (first|(with_reducible first|exact HK.out|apply KeepBut.set_|apply keep_drewN|apply keep_drew|apply keep_alloc)|exact HK.out)⟩, ⟨by repeat (first|(with_reducible first|exact HB.out|apply below_alloc|apply pw_below_drewN|apply below_drew1|refine below_set ?_ (IsS50.ge HI0.out))|exact HB.out)⟩⟩
         ·replace c11 := Bool.eq_false_iff.mpr c11
          subst c11
          have H1 : (token_scanner_blanks.l0 k3 s0_0 t108) = some r := by rw [if_neg (show ¬ (false = true) by decide)] at H; exact H
          clear H
          have H := H1
          clear H1
          have H' := Aside0.mk H
          clear H
          go_wp2_with (first|((with_reducible refine gate_callee (f := 14) rfl ?_);refine goesL_ (some 23) rfl rfl Tryd.func14 (by kernel_rfl) rfl #[.pointer (some ⟨g, 0, none⟩), .int .i64 1] rfl (by (try simp only [List.map_toArray, List.map_cons, List.map_nil]);first|done|rfl|(simp only [List.length_drop, List.length_take];rfl)) ?_;(with_reducible refine (token_scanner_left.calls g s0_0 x1001_3 1 false t108 w0 _ ?side1 ?side2 A10.out).mono ?_);(case side1 => repeat (first|(with_reducible first|exact HI0.out|apply IsS50.alloc|apply IsS50.drewN|apply IsS50.drew|apply IsS50.set_1)|exact HI0.out));(case side2 => repeat (first|(with_reducible first|exact HB.out|apply below_alloc|apply pw_below_drewN|apply below_drew1|refine below_set ?_ (IsS50.ge HI0.out))|exact HB.out));rintro e w19 ⟨rfl, hi, hb, hk⟩;refine ⟨_, rfl, ?_⟩;have n0_ := Aside0.mk (KeepBut.trans (by repeat (first|(with_reducible first|exact HK.out|apply KeepBut.set_|apply keep_drewN|apply keep_drew|apply keep_alloc)|exact HK.out)) hk (.inl rfl));have n1_ := Aside0.mk (hb);have n2_ := Aside0.mk (hi);clear HK;clear HB;clear HI0;have HK := n0_;have HB := n1_;have HI0 := n2_;clear n0_ n1_ n2_;(try clear hb);(try clear hb2);(try clear hk);(try clear hi)))
          go_roundg k3
          case measure => have := HK1.out; have := HJ2.out; have := HK3.out; omega
          case rel => exact ⟨(t108), H', ⟨by have := HK1.out;have := HJ2.out;have := HK3.out;omega⟩, ⟨by repeat (first|(with_reducible first|exact HI0.out|apply IsS50.alloc|apply IsS50.drewN|apply IsS50.drew|apply IsS50.set_1)|exact HI0.out)⟩, ⟨by repeat (first|(with_reducible first|exact HK.out|apply KeepBut.set_|apply keep_drewN|apply keep_drew|apply keep_alloc)|exact HK.out)⟩, ⟨by repeat (first|(with_reducible first|exact HB.out|apply below_alloc|apply pw_below_drewN|apply below_drew1|refine below_set ?_ (IsS50.ge HI0.out))|exact HB.out)⟩⟩
      ·rw [if_neg c9] at H
       have c9b0 : (t104 == 59) = false := beq_eq_false_iff_ne.mpr c9
       have c9b1 : (t104 != 59) = true := bne_iff_ne.mpr c9
       obtain rfl := Option.some.inj H
       go_wp2
       first | go_end0 | ((try simp only [Exit.inBlock, Exit.then]); refine bodyPost_ret (results_none rfl _ _ _) rfl ?_)
       exact ⟨by first|rfl|(simp [errW_none, errW_some] <;> rfl)|(simp [*, errW_none, errW_some] <;> rfl), by repeat (first|(with_reducible first|exact HI0.out|apply IsS50.alloc|apply IsS50.drewN|apply IsS50.drew|apply IsS50.set_1)|exact HI0.out), by repeat (first|(with_reducible first|exact HB.out|apply below_alloc|apply pw_below_drewN|apply below_drew1|refine below_set ?_ (IsS50.ge HI0.out))|exact HB.out), by repeat (first|(with_reducible first|exact HK.out|apply KeepBut.set_|apply keep_drewN|apply keep_drew|apply keep_alloc)|exact HK.out)⟩
end Go.Proofs.YtefefpkgiecikaaDoor.P
namespace Go.Proofs.YtefefpkgiecikaaDoor.P
open Go.RowKit Go.Proofs.YtefefpkgiecikaaDoorW.PrintWords Go.Proofs.YtefefpkgiecikaaDoorW.PrintLast Go.Proofs.YtefefpkgiecikaaDoorW.PrintMore
attribute [local go_sem] max2_int min2_int max_two min_two max_three min_three max_four min_four
set_option linter.unusedVariables false
set_option linter.unusedSimpArgs false
def token_scanner_here.l0 : Nat → ByteArray → Int → Int → List Int → Int → Option (Bool × Int)
 | 0, _, _, _, _, _ => none
 | k + 1, x1, x7, x8, x1000, x1001 => if x8 < x7 then ((token_scanner_peek.f x1000 x1001 x8).bind fun bt113 => (if 0 ≤ x8 then (if x8 < (x1.size : Int) then (if bt113.1 = (wrap64 (bt x1 x8)) then (token_scanner_here.l0 k x1 x7 (wrap64 (x8 + 1)) x1000 bt113.2) else (some (false, bt113.2))) else (none)) else (none))) else (some (true, x1001))
def token_scanner_here.f (k : Nat) (s0_0 : List Int) (s0_1 : Int) (a1 : ByteArray) : Option (Bool × Int) := token_scanner_here.l0 k a1 (a1.size : Int) 0 s0_0 s0_1
theorem token_scanner_here.mono_l : ∀ k, (∀ y0 y1 y2 y3 y4, LeO (token_scanner_here.l0 k y0 y1 y2 y3 y4) (token_scanner_here.l0 (k + 1) y0 y1 y2 y3 y4))
 | 0 => fun _ _ _ _ _ r h => by simp [token_scanner_here.l0] at h
 | k + 1 => by
  have ih0 := token_scanner_here.mono_l k
  ·intro y0 y1 y2 y3 y4
   unfold token_scanner_here.l0
   repeat' first
   | (with_reducible exact ih0 _ _ _ _ _)
   | (with_reducible exact LeO.refl _)
   | (with_reducible exact LeO.none _)
   | (with_reducible refine LeO.ite ?_ ?_)
   | (with_reducible refine LeO.bind ?_ (fun _ => ?_))
   | exact ih0 _ _ _ _ _
   | exact LeO.none _
   | refine LeO.ite ?_ ?_
   | refine LeO.bind ?_ (fun _ => ?_)
theorem token_scanner_here.mono : ∀ a0 a1 a2 k, LeO (token_scanner_here.f k a0 a1 a2) (token_scanner_here.f (k + 1) a0 a1 a2) := by
 intro a0 a1 a2 k
 have ih0 := token_scanner_here.mono_l k
 unfold token_scanner_here.f
 repeat' first
   | (with_reducible exact ih0 _ _ _ _ _)
   | (with_reducible exact LeO.refl _)
   | (with_reducible exact LeO.none _)
   | (with_reducible refine LeO.ite ?_ ?_)
   | (with_reducible refine LeO.bind ?_ (fun _ => ?_))
   | exact ih0 _ _ _ _ _
   | exact LeO.none _
   | refine LeO.ite ?_ ?_
   | refine LeO.bind ?_ (fun _ => ?_)
def token_scanner_here.T4 : Bool × List (List Nat × List Nat) := (true, [([], []), ([], []), ([0, 1], [0, 1]), ([], []), ([], []), ([3, 4], [3, 4]), ([5], [5]), ([2, 6], [2, 6])])
def token_scanner_here.B4 : List Nat := [0, 0, 3, 0, 0, 24, 56, 127]
theorem token_scanner_here.tab4 : rtab .any (opsOf Tryd.f26 4) = token_scanner_here.T4 := by kernel_rfl
theorem token_scanner_here.bits4 : waitsOk token_scanner_here.T4.2 token_scanner_here.B4 = true := by kernel_rfl
set_option maxHeartbeats 8000000 in
set_option maxRecDepth 100000 in
theorem token_scanner_here.calls (k : Nat) (g : Nat) (s0_0 : List Int) (s0_1 : Int) (a1 : ByteArray) (r1 : Bool) (r2 : Int) (w0 w : World) (hI : IsS50 w0 w g s0_0 s0_1) (hB : Below w0.heap.size w0 w) (h : token_scanner_here.f k s0_0 s0_1 a1 = some (r1, r2)) :
  Calls Tryd.prog 26 #[.pointer (some ⟨g, 0, none⟩), .string a1] w fun e w' => e = .returned (.bool r1) ∧ IsS50 w0 w' g s0_0 r2 ∧ Below w0.heap.size w0 w' ∧ KeepBut w w' g none := by
 have HI0 := Aside0.mk hI
 have HK := Aside0.mk (KeepBut.refl w g none)
 have HL := Aside0.mk hB.size
 clear hI
 have HW0 := Aside0.mk hB.size
 have HB := Aside0.mk hB
 clear hB
 have H : (token_scanner_here.l0 k a1 (a1.size : Int) 0 s0_0 s0_1) = some (r1, r2) := h
 clear h
 have H' := Aside0.mk H
 clear H
 go_enter Tryd.func26, Tryd.ntmps26
 go_wp2
 go_loopg [8] k (fun kq v8 w' => ∃ (x8_1 : Int) (x1001_1 : Int), v8 = .int .i64 x8_1 ∧ Aside0 (token_scanner_here.l0 kq a1 (a1.size : Int) x8_1 s0_0 x1001_1 = some (r1, r2)) ∧ Aside0 (kq ≤ k) ∧ Aside0 (IsS50 w0 w' g s0_0 x1001_1) ∧ Aside0 (KeepBut w w' g none) ∧ Aside0 (Below w0.heap.size w0 w'))
 case atStart => exact ⟨(0), (s0_1), (by first|rfl|(simp;done)|(simp [*];done)), H', ⟨Nat.le_refl _⟩, ⟨by repeat (first|(with_reducible first|exact HI0.out|apply IsS50.alloc|apply IsS50.drewN|apply IsS50.drew|apply IsS50.set_1)|exact HI0.out)⟩, ⟨by repeat (first|(with_reducible first|exact HK.out|apply KeepBut.set_|apply keep_drewN|apply keep_drew|apply keep_alloc)|exact HK.out)⟩, ⟨by repeat (first|(with_reducible first|exact HB.out|apply below_alloc|apply pw_below_drewN|apply below_drew1|refine below_set ?_ (IsS50.ge HI0.out))|exact HB.out)⟩⟩
 case round =>
  clear H'
  try clear c2
  try clear p2
  obtain ⟨x8_1, x1001_1, rfl, HA, HK1, HI0, HK, HB⟩ := hrel
  cases gk with
  | zero => exact absurd HA.out (by simp [token_scanner_here.l0])
  | succ k1 =>
   have H := HA.out
   clear HA
   simp only [token_scanner_here.l0] at H
   by_cases c3 : x8_1 < (a1.size : Int)
   ·rw [if_pos c3] at H
    have c3b0 : decide (x8_1 < (a1.size : Int)) = true := decide_eq_true c3
    clear c3
    replace H := Option.bind_eq_some_iff.mp H
    obtain ⟨⟨t113, t114⟩, A40, H⟩ := H
    replace H : (if 0 ≤ x8_1 then (if x8_1 < (a1.size : Int) then (if t113 = (wrap64 (bt a1 x8_1)) then (token_scanner_here.l0 k1 a1 (a1.size : Int) (wrap64 (x8_1 + 1)) s0_0 t114) else (some (false, t114))) else (none)) else (none)) = some (r1, r2) := H
    have A4 := Aside0.mk A40
    clear A40
    by_cases c5 : 0 ≤ x8_1
    ·rw [if_pos c5] at H
     have c5b0 : decide (0 ≤ x8_1) = true := decide_eq_true c5
     clear c5
     by_cases c6 : x8_1 < (a1.size : Int)
     ·rw [if_pos c6] at H
      have c6b0 : decide (x8_1 < (a1.size : Int)) = true := decide_eq_true c6
      clear c6
      by_cases c8 : t113 = (wrap64 (bt a1 x8_1))
      ·rw [if_pos c8] at H
       have c8b0 : (t113 == (wrap64 (bt a1 x8_1))) = true := beq_iff_eq.mpr c8
       have c8b1 : (t113 != (wrap64 (bt a1 x8_1))) = false := bne_eq_false_iff_eq.mpr c8
       clear c8
       have H' := Aside0.mk H
       clear H
       try go_wp2
       have n0_ := Aside0.mk (IsS50.drew HI0.out)
       have n1_ := Aside0.mk (keep_drew HK.out)
       have n2_ := Aside0.mk (below_drew1 HB.out)
       clear HI0
       clear HK
       clear HB
       have HI0 := n0_
       have HK := n1_
       have HB := n2_
       clear n0_ n1_ n2_
       have p7 : 0 ≤ (x8_1 : Int) := of_decide_eq_true (by first | (with_reducible assumption) | assumption)
       have q7 : x8_1 < (a1.size : Int) := of_decide_eq_true (by first | (with_reducible assumption) | assumption)
       have hx7 := bt_at a1 x8_1
       replace p7 := eq_true p7
       replace q7 := eq_true q7
       refine start_ (n := 8) (S := fun w' => True) (ds := []) #[false, false, false, false, false, false, false, false] (by kernel_rfl) rfl rfl trivial (fun hHeld => ?_); refine with_tabW token_scanner_here.tab4 token_scanner_here.bits4 (fun HT_ HW_ => ?_)
       generalize wr.drew = w9 at HI0 HK HB hHeld ⊢
       refine pure_ (i := 0) (N := some 11) (v := ?_) (a' := ?_) #[true, false, false, false, false, false, false, false] rfl rfl (any_of HT_.out (by kernel_rfl)) (fun _ _ _ h => h) (Or.inl ⟨by rfl, ?_⟩) ?_ ?_
       rotate_left
       ·intro w'
        go_simp
        with_reducible rfl
       rotate_left
       ·simp only [Act.put, List.setIfInBounds_toArray, List.set_cons_zero, List.set_cons_succ, i64_w, i32_w]
        rfl
       refine pure_ (i := 1) (N := some 12) (v := ?_) (a' := ?_) #[true, true, false, false, false, false, false, false] rfl rfl (any_of HT_.out (by kernel_rfl)) (fun _ _ _ h => h) (Or.inl ⟨by rfl, ?_⟩) ?_ ?_
       rotate_left
       ·intro w'
        go_simp
        with_reducible rfl
       rotate_left
       ·simp only [Act.put, List.setIfInBounds_toArray, List.set_cons_zero, List.set_cons_succ, i64_w, i32_w]
        rfl
       refine pure_ (i := 3) (N := some 14) (v := ?_) (a' := ?_) #[true, true, false, true, false, false, false, false] rfl rfl (any_of HT_.out (by kernel_rfl)) (fun _ _ _ h => h) (Or.inl ⟨by rfl, ?_⟩) ?_ ?_
       rotate_left
       ·intro w'
        go_simp
        with_reducible rfl
       rotate_left
       ·simp only [Act.put, List.setIfInBounds_toArray, List.set_cons_zero, List.set_cons_succ, i64_w, i32_w]
        rfl
       refine pure_ (i := 4) (N := some 15) (v := ?_) (a' := ?_) #[true, true, false, true, true, false, false, false] rfl rfl (any_of HT_.out (by kernel_rfl)) (fun _ _ _ h => h) (Or.inl ⟨by rfl, ?_⟩) ?_ ?_
       rotate_left
       ·intro w'
        go_simp
        with_reducible rfl
       rotate_left
       ·simp only [Act.put, List.setIfInBounds_toArray, List.set_cons_zero, List.set_cons_succ, i64_w, i32_w]
        rfl
       refine take_ (i := 5) (N := some 16) (v := ?_) (a' := ?_) #[true, true, false, true, true, true, false, false] rfl rfl (take_ofW HT_.out HW_.out (by kernel_rfl)) (fun _ _ _ h => h) (Or.inl ⟨by rfl, ?_⟩) hHeld ?_ ?_
       rotate_left
       ·intro w' _
        go_simp
        with_reducible rfl
       rotate_left
       ·simp only [Act.put, List.setIfInBounds_toArray, List.set_cons_zero, List.set_cons_succ, i64_w, i32_w]
        rfl
       refine pure_ (i := 6) (N := some 17) (v := ?_) (a' := ?_) #[true, true, false, true, true, true, true, false] rfl rfl (any_of HT_.out (by kernel_rfl)) (fun _ _ _ h => h) (Or.inl ⟨by rfl, ?_⟩) ?_ ?_
       rotate_left
       ·intro w'
        go_simp
        with_reducible rfl
       rotate_left
       ·simp only [Act.put, List.setIfInBounds_toArray, List.set_cons_zero, List.set_cons_succ, i64_w, i32_w]
        rfl
       refine one_ (i := 2) (N := some 13) #[true, true, true, true, true, true, true, false] rfl rfl (one_of HT_.out (by kernel_rfl)) (by decide) (fun K hK => ?_)
       refine goes_ Tryd.func24 (by kernel_rfl) rfl #[.pointer (some ⟨g, 0, none⟩), .int .i64 x8_1] (by rfl) rfl rfl (by (try simp only [List.map_toArray, List.map_cons, List.map_nil]); first | done | rfl | (simp only [List.length_drop, List.length_take]; rfl)) ?_
       with_reducible refine (token_scanner_peek.calls g s0_0 x1001_1 x8_1 t113 t114 w0 _ ?side1 ?side2 A4.out).mono ?_
       (case side1 => repeat (first|(with_reducible first|exact HI0.out|apply IsS50.alloc|apply IsS50.drewN|apply IsS50.drew|apply IsS50.set_1)|exact HI0.out))
       (case side2 => repeat (first|(with_reducible first|exact HB.out|apply below_alloc|apply pw_below_drewN|apply below_drew1|refine below_set ?_ (IsS50.ge HI0.out))|exact HB.out))
       rintro e w10 ⟨rfl, hi, hb, hk⟩
       refine ⟨_, rfl, ?_⟩
       have n0_ := Aside0.mk (KeepBut.trans (by repeat (first|(with_reducible first|exact HK.out|apply KeepBut.set_|apply keep_drewN|apply keep_drew|apply keep_alloc)|exact HK.out)) hk (.inl rfl))
       have n1_ := Aside0.mk (hb)
       have n2_ := Aside0.mk (hi)
       clear HK
       clear HB
       clear HI0
       have HK := n0_
       have HB := n1_
       have HI0 := n2_
       clear n0_ n1_ n2_
       (try clear hb)
       (try clear hb2)
       (try clear hk)
       (try clear hi)
       refine hK.out _ _ trivial (fun hHeld => ?_)
       clear hK K
       refine norm_ (a' := ?_) ?_ ?_
       rotate_left
       ·show Act.put _ (some 13) _ = _
        simp only [Act.put, List.setIfInBounds_toArray, List.set_cons_zero, List.set_cons_succ, i64_w, i32_w]
        rfl
       refine pure_ (i := 7) (N := some 18) (v := ?_) (a' := ?_) #[true, true, true, true, true, true, true, true] rfl rfl (any_of HT_.out (by kernel_rfl)) (fun _ _ _ h => h) (Or.inl ⟨by rfl, ?_⟩) ?_ ?_
       rotate_left
       ·intro w'
        go_simp
        with_reducible rfl
       rotate_left
       ·simp only [Act.put, List.setIfInBounds_toArray, List.set_cons_zero, List.set_cons_succ, i64_w, i32_w]
        rfl
       refine done_ (done_of HT_.out (by kernel_rfl)) ?_
       try go_wp2
       go_roundg k1
       case measure => have := HK1.out; omega
       case rel => exact ⟨(wrap64 (x8_1 + 1)), (t114), (by first|rfl|(simp;done)|(simp [*];done)), H', ⟨by have := HK1.out;omega⟩, ⟨by repeat (first|(with_reducible first|exact HI0.out|apply IsS50.alloc|apply IsS50.drewN|apply IsS50.drew|apply IsS50.set_1)|exact HI0.out)⟩, ⟨by repeat (first|(with_reducible first|exact HK.out|apply KeepBut.set_|apply keep_drewN|apply keep_drew|apply keep_alloc)|exact HK.out)⟩, ⟨by repeat (first|(with_reducible first|exact HB.out|apply below_alloc|apply pw_below_drewN|apply below_drew1|refine below_set ?_ (IsS50.ge HI0.out))|exact HB.out)⟩⟩
      ·rw [if_neg c8] at H
       have c8b0 : (t113 == (wrap64 (bt a1 x8_1))) = false := beq_eq_false_iff_ne.mpr c8
       have c8b1 : (t113 != (wrap64 (bt a1 x8_1))) = true := bne_iff_ne.mpr c8
       simp only [Option.some.injEq, Prod.mk.injEq] at H
       obtain ⟨rfl, rfl⟩ := H
       try go_wp2
       have n0_ := Aside0.mk (IsS50.drew HI0.out)
       have n1_ := Aside0.mk (keep_drew HK.out)
       have n2_ := Aside0.mk (below_drew1 HB.out)
       clear HI0
       clear HK
       clear HB
       have HI0 := n0_
       have HK := n1_
       have HB := n2_
       clear n0_ n1_ n2_
       have p7 : 0 ≤ (x8_1 : Int) := of_decide_eq_true (by first | (with_reducible assumption) | assumption)
       have q7 : x8_1 < (a1.size : Int) := of_decide_eq_true (by first | (with_reducible assumption) | assumption)
       have hx7 := bt_at a1 x8_1
       replace p7 := eq_true p7
       replace q7 := eq_true q7
       refine start_ (n := 8) (S := fun w' => True) (ds := []) #[false, false, false, false, false, false, false, false] (by kernel_rfl) rfl rfl trivial (fun hHeld => ?_); refine with_tabW token_scanner_here.tab4 token_scanner_here.bits4 (fun HT_ HW_ => ?_)
       generalize wr.drew = w11 at HI0 HK HB hHeld ⊢
       refine pure_ (i := 0) (N := some 11) (v := ?_) (a' := ?_) #[true, false, false, false, false, false, false, false] rfl rfl (any_of HT_.out (by kernel_rfl)) (fun _ _ _ h => h) (Or.inl ⟨by rfl, ?_⟩) ?_ ?_
       rotate_left
       ·intro w'
        go_simp
        with_reducible rfl
       rotate_left
       ·simp only [Act.put, List.setIfInBounds_toArray, List.set_cons_zero, List.set_cons_succ, i64_w, i32_w]
        rfl
       refine pure_ (i := 1) (N := some 12) (v := ?_) (a' := ?_) #[true, true, false, false, false, false, false, false] rfl rfl (any_of HT_.out (by kernel_rfl)) (fun _ _ _ h => h) (Or.inl ⟨by rfl, ?_⟩) ?_ ?_
       rotate_left
       ·intro w'
        go_simp
        with_reducible rfl
       rotate_left
       ·simp only [Act.put, List.setIfInBounds_toArray, List.set_cons_zero, List.set_cons_succ, i64_w, i32_w]
        rfl
       refine pure_ (i := 3) (N := some 14) (v := ?_) (a' := ?_) #[true, true, false, true, false, false, false, false] rfl rfl (any_of HT_.out (by kernel_rfl)) (fun _ _ _ h => h) (Or.inl ⟨by rfl, ?_⟩) ?_ ?_
       rotate_left
       ·intro w'
        go_simp
        with_reducible rfl
       rotate_left
       ·simp only [Act.put, List.setIfInBounds_toArray, List.set_cons_zero, List.set_cons_succ, i64_w, i32_w]
        rfl
       refine pure_ (i := 4) (N := some 15) (v := ?_) (a' := ?_) #[true, true, false, true, true, false, false, false] rfl rfl (any_of HT_.out (by kernel_rfl)) (fun _ _ _ h => h) (Or.inl ⟨by rfl, ?_⟩) ?_ ?_
       rotate_left
       ·intro w'
        go_simp
        with_reducible rfl
       rotate_left
       ·simp only [Act.put, List.setIfInBounds_toArray, List.set_cons_zero, List.set_cons_succ, i64_w, i32_w]
        rfl
       refine take_ (i := 5) (N := some 16) (v := ?_) (a' := ?_) #[true, true, false, true, true, true, false, false] rfl rfl (take_ofW HT_.out HW_.out (by kernel_rfl)) (fun _ _ _ h => h) (Or.inl ⟨by rfl, ?_⟩) hHeld ?_ ?_
       rotate_left
       ·intro w' _
        go_simp
        with_reducible rfl
       rotate_left
       ·simp only [Act.put, List.setIfInBounds_toArray, List.set_cons_zero, List.set_cons_succ, i64_w, i32_w]
        rfl
       refine pure_ (i := 6) (N := some 17) (v := ?_) (a' := ?_) #[true, true, false, true, true, true, true, false] rfl rfl (any_of HT_.out (by kernel_rfl)) (fun _ _ _ h => h) (Or.inl ⟨by rfl, ?_⟩) ?_ ?_
       rotate_left
       ·intro w'
        go_simp
        with_reducible rfl
       rotate_left
       ·simp only [Act.put, List.setIfInBounds_toArray, List.set_cons_zero, List.set_cons_succ, i64_w, i32_w]
        rfl
       refine one_ (i := 2) (N := some 13) #[true, true, true, true, true, true, true, false] rfl rfl (one_of HT_.out (by kernel_rfl)) (by decide) (fun K hK => ?_)
       refine goes_ Tryd.func24 (by kernel_rfl) rfl #[.pointer (some ⟨g, 0, none⟩), .int .i64 x8_1] (by rfl) rfl rfl (by (try simp only [List.map_toArray, List.map_cons, List.map_nil]); first | done | rfl | (simp only [List.length_drop, List.length_take]; rfl)) ?_
       with_reducible refine (token_scanner_peek.calls g s0_0 x1001_1 x8_1 t113 t114 w0 _ ?side1 ?side2 A4.out).mono ?_
       (case side1 => repeat (first|(with_reducible first|exact HI0.out|apply IsS50.alloc|apply IsS50.drewN|apply IsS50.drew|apply IsS50.set_1)|exact HI0.out))
       (case side2 => repeat (first|(with_reducible first|exact HB.out|apply below_alloc|apply pw_below_drewN|apply below_drew1|refine below_set ?_ (IsS50.ge HI0.out))|exact HB.out))
       rintro e w12 ⟨rfl, hi, hb, hk⟩
       refine ⟨_, rfl, ?_⟩
       have n0_ := Aside0.mk (KeepBut.trans (by repeat (first|(with_reducible first|exact HK.out|apply KeepBut.set_|apply keep_drewN|apply keep_drew|apply keep_alloc)|exact HK.out)) hk (.inl rfl))
       have n1_ := Aside0.mk (hb)
       have n2_ := Aside0.mk (hi)
       clear HK
       clear HB
       clear HI0
       have HK := n0_
       have HB := n1_
       have HI0 := n2_
       clear n0_ n1_ n2_
       (try clear hb)
       (try clear hb2)
       (try clear hk)
       (try clear hi)
       refine hK.out _ _ trivial (fun hHeld => ?_)
       clear hK K
       refine norm_ (a' := ?_) ?_ ?_
       rotate_left
       ·show Act.put _ (some 13) _ = _
        simp only [Act.put, List.setIfInBounds_toArray, List.set_cons_zero, List.set_cons_succ, i64_w, i32_w]
        rfl
       refine pure_ (i := 7) (N := some 18) (v := ?_) (a' := ?_) #[true, true, true, true, true, true, true, true] rfl rfl (any_of HT_.out (by kernel_rfl)) (fun _ _ _ h => h) (Or.inl ⟨by rfl, ?_⟩) ?_ ?_
       rotate_left
       ·intro w'
        go_simp
        with_reducible rfl
       rotate_left
       ·simp only [Act.put, List.setIfInBounds_toArray, List.set_cons_zero, List.set_cons_succ, i64_w, i32_w]
        rfl
       refine done_ (done_of HT_.out (by kernel_rfl)) ?_
       try go_wp2
       go_ret
       exact ⟨by first|rfl|(simp [errW_none, errW_some] <;> rfl)|(simp [*, errW_none, errW_some] <;> rfl), by repeat (first|(with_reducible first|exact HI0.out|apply IsS50.alloc|apply IsS50.drewN|apply IsS50.drew|apply IsS50.set_1)|exact HI0.out), by repeat (first|(with_reducible first|exact HB.out|apply below_alloc|apply pw_below_drewN|apply below_drew1|refine below_set ?_ (IsS50.ge HI0.out))|exact HB.out), by repeat (first|(with_reducible first|exact HK.out|apply KeepBut.set_|apply keep_drewN|apply keep_drew|apply keep_alloc)|exact HK.out)⟩
     ·rw [if_neg c6] at H
      exact absurd H (by simp)
    ·rw [if_neg c5] at H
     exact absurd H (by simp)
   ·rw [if_neg c3] at H
    have c3b0 : decide (x8_1 < (a1.size : Int)) = false := decide_eq_false c3
    clear c3
    simp only [Option.some.injEq, Prod.mk.injEq] at H
    obtain ⟨rfl, rfl⟩ := H
    go_wp2
    go_ret
    exact ⟨by first|rfl|(simp [errW_none, errW_some] <;> rfl)|(simp [*, errW_none, errW_some] <;> rfl), by repeat (first|(with_reducible first|exact HI0.out|apply IsS50.alloc|apply IsS50.drewN|apply IsS50.drew|apply IsS50.set_1)|exact HI0.out), by repeat (first|(with_reducible first|exact HB.out|apply below_alloc|apply pw_below_drewN|apply below_drew1|refine below_set ?_ (IsS50.ge HI0.out))|exact HB.out), by repeat (first|(with_reducible first|exact HK.out|apply KeepBut.set_|apply keep_drewN|apply keep_drew|apply keep_alloc)|exact HK.out)⟩
end Go.Proofs.YtefefpkgiecikaaDoor.P
namespace Go.Proofs.YtefefpkgiecikaaDoor.P
open Go.RowKit Go.Proofs.YtefefpkgiecikaaDoorW.PrintWords Go.Proofs.YtefefpkgiecikaaDoorW.PrintLast Go.Proofs.YtefefpkgiecikaaDoorW.PrintMore
attribute [local go_sem] max2_int min2_int max_two min_two max_three min_three max_four min_four
set_option linter.unusedVariables false
set_option linter.unusedSimpArgs false
def utf8_ValidRune.j0 : Nat → Int → Bool → Option (Bool)
 | 0, _, _ => none
 | k + 1, x0, x3 => if x3 = true then (some true) else (if 57343 < x0 then (if x0 ≤ 1114111 then (some true) else (some false)) else (some false))
def utf8_ValidRune.f (k : Nat) (a0 : Int) : Option (Bool) := if 0 ≤ a0 then (utf8_ValidRune.j0 k a0 (decide (a0 < 55296))) else (utf8_ValidRune.j0 k a0 false)
theorem utf8_ValidRune.mono_l : ∀ k, (∀ y0 y1, LeO (utf8_ValidRune.j0 k y0 y1) (utf8_ValidRune.j0 (k + 1) y0 y1))
 | 0 => fun _ _ r h => by simp [utf8_ValidRune.j0] at h
 | k + 1 => by
  have ih0 := utf8_ValidRune.mono_l k
  ·intro y0 y1
   unfold utf8_ValidRune.j0
   repeat' first
   | (with_reducible exact ih0 _ _)
   | (with_reducible exact LeO.refl _)
   | (with_reducible exact LeO.none _)
   | (with_reducible refine LeO.ite ?_ ?_)
   | (with_reducible refine LeO.bind ?_ (fun _ => ?_))
   | exact ih0 _ _
   | exact LeO.none _
   | refine LeO.ite ?_ ?_
   | refine LeO.bind ?_ (fun _ => ?_)
theorem utf8_ValidRune.mono : ∀ a0 k, LeO (utf8_ValidRune.f k a0) (utf8_ValidRune.f (k + 1) a0) := by
 intro a0 k
 have ih0 := utf8_ValidRune.mono_l k
 unfold utf8_ValidRune.f
 repeat' first
   | (with_reducible exact ih0 _ _)
   | (with_reducible exact LeO.refl _)
   | (with_reducible exact LeO.none _)
   | (with_reducible refine LeO.ite ?_ ?_)
   | (with_reducible refine LeO.bind ?_ (fun _ => ?_))
   | exact ih0 _ _
   | exact LeO.none _
   | refine LeO.ite ?_ ?_
   | refine LeO.bind ?_ (fun _ => ?_)
set_option maxHeartbeats 8000000 in
set_option maxRecDepth 100000 in
theorem utf8_ValidRune.calls (k : Nat) (a0 : Int) (r : Bool) (w : World) (h : utf8_ValidRune.f k a0 = some r) :
  Calls Tryd.prog 23 #[.int .i32 a0] w fun e w' => e = .returned (.bool r) ∧ Drawn0 w w' := by
 have H : (if 0 ≤ a0 then (utf8_ValidRune.j0 k a0 (decide (a0 < 55296))) else (utf8_ValidRune.j0 k a0 false)) = some r := h
 clear h
 have HC2 := Aside0.mk H
 clear H
 go_enter Tryd.func23, Tryd.ntmps23
 go_upto_region 1 with (fail)
 go_cut [3] (fun v3 wc => ∃ (kq : Nat) (x3_1 : Bool), v3 = .bool x3_1 ∧ Aside0 (utf8_ValidRune.j0 kq a0 x3_1 = some r) ∧ Aside0 (kq ≤ k) ∧ Drawn0 w wc)
 case first =>
  have H := HC2.out
  clear HC2
  by_cases c3 : 0 ≤ a0
  ·rw [if_pos c3] at H
   have c3b0 : decide (0 ≤ a0) = true := decide_eq_true c3
   clear c3
   (first|rw [c3b0]|(simp only [i64_w, i32_w];rw [c3b0])|skip)
   have H' := Aside0.mk H
   clear H
   go_wp2
   go_meet
   case rel => exact ⟨_, (decide (a0 < 55296)), (by first|rfl|(simp;done)|(simp [*];done)), H', ⟨by first|omega|exact Nat.le_refl _⟩, by repeat (first|exact Drawn0.refl _|apply Drawn0.step)⟩
  ·rw [if_neg c3] at H
   have c3b0 : decide (0 ≤ a0) = false := decide_eq_false c3
   clear c3
   (first|rw [c3b0]|(simp only [i64_w, i32_w];rw [c3b0])|skip)
   have H' := Aside0.mk H
   clear H
   go_wp2
   go_meet
   case rel => exact ⟨_, (false), (by first|rfl|(simp;done)|(simp [*];done)), H', ⟨by first|omega|exact Nat.le_refl _⟩, by repeat (first|exact Drawn0.refl _|apply Drawn0.step)⟩
 case rest =>
  clear HC2
  try clear c2
  try clear p2
  try clear c3
  try clear c3b0
  obtain ⟨kq, x3_1, rfl, HA, HJ1, ⟨mc1, rfl⟩⟩ := hcut
  cases kq with
  | zero => exact absurd HA.out (by simp [utf8_ValidRune.j0])
  | succ kj1 =>
   have H := HA.out
   clear HA
   simp only [utf8_ValidRune.j0] at H
   by_cases c4 : x3_1 = true
   ·subst c4
    have H1 : (some true) = some r := by rw [if_pos rfl] at H; exact H
    clear H
    have H := H1
    clear H1
    obtain rfl := Option.some.inj H
    go_wp2
    go_ret
    exact ⟨by first|rfl|(simp;done)|(simp [*];done), by repeat (first|exact Drawn0.refl _|apply Drawn0.step)⟩
   ·replace c4 := Bool.eq_false_iff.mpr c4
    subst c4
    have H1 : (if 57343 < a0 then (if a0 ≤ 1114111 then (some true) else (some false)) else (some false)) = some r := by rw [if_neg (show ¬ (false = true) by decide)] at H; exact H
    clear H
    have H := H1
    clear H1
    by_cases c5 : 57343 < a0
    ·rw [if_pos c5] at H
     have c5b0 : decide (57343 < a0) = true := decide_eq_true c5
     clear c5
     by_cases c6 : a0 ≤ 1114111
     ·rw [if_pos c6] at H
      have c6b0 : decide (a0 ≤ 1114111) = true := decide_eq_true c6
      clear c6
      obtain rfl := Option.some.inj H
      go_wp2
      go_ret
      exact ⟨by first|rfl|(simp;done)|(simp [*];done), by repeat (first|exact Drawn0.refl _|apply Drawn0.step)⟩
     ·rw [if_neg c6] at H
      have c6b0 : decide (a0 ≤ 1114111) = false := decide_eq_false c6
      clear c6
      obtain rfl := Option.some.inj H
      go_wp2
      go_ret
      exact ⟨by first|rfl|(simp;done)|(simp [*];done), by repeat (first|exact Drawn0.refl _|apply Drawn0.step)⟩
    ·rw [if_neg c5] at H
     have c5b0 : decide (57343 < a0) = false := decide_eq_false c5
     clear c5
     obtain rfl := Option.some.inj H
     go_wp2
     go_ret
     exact ⟨by first|rfl|(simp;done)|(simp [*];done), by repeat (first|exact Drawn0.refl _|apply Drawn0.step)⟩
end Go.Proofs.YtefefpkgiecikaaDoor.P
namespace Go.Proofs.YtefefpkgiecikaaDoor.P
open Go.RowKit Go.Proofs.YtefefpkgiecikaaDoorW.PrintWords Go.Proofs.YtefefpkgiecikaaDoorW.PrintLast Go.Proofs.YtefefpkgiecikaaDoorW.PrintMore
attribute [local go_sem] max2_int min2_int max_two min_two max_three min_three max_four min_four
set_option linter.unusedVariables false
set_option linter.unusedSimpArgs false
def utf_Scalar.f (k : Nat) (a0 : Int) : Option (Bool) := if a0 ≥ 0 then (if a0 ≤ 1114111 then ((utf8_ValidRune.f k (wrap32 (a0))).bind fun t178 => (some t178)) else (some false)) else (some false)
theorem utf_Scalar.mono : ∀ a0 k, LeO (utf_Scalar.f k a0) (utf_Scalar.f (k + 1) a0) := by
 intro a0 k
 unfold utf_Scalar.f
 repeat' first
   | (with_reducible exact utf8_ValidRune.mono _ _)
   | (with_reducible exact LeO.refl _)
   | (with_reducible exact LeO.none _)
   | (with_reducible refine LeO.ite ?_ ?_)
   | (with_reducible refine LeO.bind ?_ (fun _ => ?_))
   | exact utf8_ValidRune.mono _ _
   | exact LeO.none _
   | refine LeO.ite ?_ ?_
   | refine LeO.bind ?_ (fun _ => ?_)
set_option maxHeartbeats 8000000 in
set_option maxRecDepth 100000 in
theorem utf_Scalar.calls (k : Nat) (a0 : Int) (r : Bool) (w : World) (h : utf_Scalar.f k a0 = some r) :
  Calls Tryd.prog 11 #[.int .i64 a0] w fun e w' => e = .returned (.bool r) ∧ Drawn0 w w' := by
 have H : (if a0 ≥ 0 then (if a0 ≤ 1114111 then ((utf8_ValidRune.f k (wrap32 (a0))).bind fun t178 => (some t178)) else (some false)) else (some false)) = some r := h
 clear h
 by_cases c2 : a0 ≥ 0
 ·rw [if_pos c2] at H
  have c2b0 : decide (0 ≤ a0) = true := decide_eq_true c2
  clear c2
  by_cases c3 : a0 ≤ 1114111
  ·rw [if_pos c3] at H
   have c3b0 : decide (a0 ≤ 1114111) = true := decide_eq_true c3
   clear c3
   replace H := Option.bind_eq_some_iff.mp H
   obtain ⟨t178, A40, H⟩ := H
   replace H : (some t178) = some r := H
   have A4 := Aside0.mk A40
   clear A40
   obtain rfl := Option.some.inj H
   go_enter Tryd.func11, Tryd.ntmps11
   go_wp2_with (first|(go_at_call 23;(with_reducible refine (utf8_ValidRune.calls k (wrap32 (a0)) t178 _ A4.out).mono ?_);rintro e w' ⟨rfl, ⟨nd, rfl⟩⟩))
   go_ret
   exact ⟨by first|rfl|(simp;done)|(simp [*];done), by repeat (first|exact Drawn0.refl _|apply Drawn0.step)⟩
  ·rw [if_neg c3] at H
   have c3b0 : decide (a0 ≤ 1114111) = false := decide_eq_false c3
   clear c3
   obtain rfl := Option.some.inj H
   go_enter Tryd.func11, Tryd.ntmps11
   go_wp2
   go_ret
   exact ⟨by first|rfl|(simp;done)|(simp [*];done), by repeat (first|exact Drawn0.refl _|apply Drawn0.step)⟩
 ·rw [if_neg c2] at H
  have c2b0 : decide (0 ≤ a0) = false := decide_eq_false c2
  clear c2
  obtain rfl := Option.some.inj H
  go_enter Tryd.func11, Tryd.ntmps11
  go_wp2
  go_ret
  exact ⟨by first|rfl|(simp;done)|(simp [*];done), by repeat (first|exact Drawn0.refl _|apply Drawn0.step)⟩
end Go.Proofs.YtefefpkgiecikaaDoor.P
