/- Words and walks for the claim, merged by a program of this session (part 3). -/
import Derived.Test.YtefefpkgiecikaaDoorTl1
import Derived.Test.YtefefpkgiecikaaDoorTl2
set_option linter.unusedVariables false
set_option linter.unusedSimpArgs false
namespace Go.Proofs.YtefefpkgiecikaaDoor.P
open Go.RowKit Go.Proofs.YtefefpkgiecikaaDoorW.PrintWords Go.Proofs.YtefefpkgiecikaaDoorW.PrintLast Go.Proofs.YtefefpkgiecikaaDoorW.PrintMore
attribute [local go_sem] max2_int min2_int max_two min_two max_three min_three max_four min_four
set_option linter.unusedVariables false
set_option linter.unusedSimpArgs false
def utf8_appendRuneNonASCII.j0 : Nat → List Int → Int → Int → Bool → Option (List Int)
 | 0, _, _, _, _ => none
 | k + 1, x0, x1, x5, x25 => if x25 = true then ((some (([Go.bits .or .u8 224 ((x1 / 4096) % 256), 128 + x1 / 64 % 64, 128 + x1 % 64] : List Int) : List Int)).bind fun y185 => (if x0.length + y185.length < 140737488355328 then (some (x0 ++ y185)) else (none))) else (if x5 > 65535 then (if x5 ≤ 1114111 then ((some (([Go.bits .or .u8 240 ((x1 / 262144) % 256), 128 + x1 / 4096 % 64, 128 + x1 / 64 % 64, 128 + x1 % 64] : List Int) : List Int)).bind fun y191 => (if x0.length + y191.length < 140737488355328 then (some (x0 ++ y191)) else (none))) else ((some (([239, 191, 189] : List Int) : List Int)).bind fun y197 => (if x0.length + y197.length < 140737488355328 then (some (x0 ++ y197)) else (none)))) else ((some (([239, 191, 189] : List Int) : List Int)).bind fun y203 => (if x0.length + y203.length < 140737488355328 then (some (x0 ++ y203)) else (none))))
def utf8_appendRuneNonASCII.f (k : Nat) (l0 : List Int) (a1 : Int) : Option (List Int) := if ((a1) % 4294967296) ≤ 2047 then ((some (([Go.bits .or .u8 192 ((a1 / 64) % 256), 128 + a1 % 64] : List Int) : List Int)).bind fun y179 => (if l0.length + y179.length < 140737488355328 then (some (l0 ++ y179)) else (none))) else (if ((a1) % 4294967296) < 55296 then (utf8_appendRuneNonASCII.j0 k l0 a1 ((a1) % 4294967296) (decide (((a1) % 4294967296) < 55296))) else (if 57343 < ((a1) % 4294967296) then (utf8_appendRuneNonASCII.j0 k l0 a1 ((a1) % 4294967296) (decide (((a1) % 4294967296) ≤ 65535))) else (utf8_appendRuneNonASCII.j0 k l0 a1 ((a1) % 4294967296) false)))
theorem utf8_appendRuneNonASCII.mono_l : ∀ k, (∀ y0 y1 y2 y3, LeO (utf8_appendRuneNonASCII.j0 k y0 y1 y2 y3) (utf8_appendRuneNonASCII.j0 (k + 1) y0 y1 y2 y3))
 | 0 => fun _ _ _ _ r h => by simp [utf8_appendRuneNonASCII.j0] at h
 | k + 1 => by
  have ih0 := utf8_appendRuneNonASCII.mono_l k
  ·intro y0 y1 y2 y3
   unfold utf8_appendRuneNonASCII.j0
   repeat' first
   | (with_reducible exact ih0 _ _ _ _)
   | (with_reducible exact LeO.refl _)
   | (with_reducible exact LeO.none _)
   | (with_reducible refine LeO.ite ?_ ?_)
   | (with_reducible refine LeO.bind ?_ (fun _ => ?_))
   | exact ih0 _ _ _ _
   | exact LeO.none _
   | refine LeO.ite ?_ ?_
   | refine LeO.bind ?_ (fun _ => ?_)
theorem utf8_appendRuneNonASCII.mono : ∀ a0 a1 k, LeO (utf8_appendRuneNonASCII.f k a0 a1) (utf8_appendRuneNonASCII.f (k + 1) a0 a1) := by
 intro a0 a1 k
 have ih0 := utf8_appendRuneNonASCII.mono_l k
 unfold utf8_appendRuneNonASCII.f
 repeat' first
   | (with_reducible exact ih0 _ _ _ _)
   | (with_reducible exact LeO.refl _)
   | (with_reducible exact LeO.none _)
   | (with_reducible refine LeO.ite ?_ ?_)
   | (with_reducible refine LeO.bind ?_ (fun _ => ?_))
   | exact ih0 _ _ _ _
   | exact LeO.none _
   | refine LeO.ite ?_ ?_
   | refine LeO.bind ?_ (fun _ => ?_)
set_option maxHeartbeats 8000000 in
set_option maxRecDepth 100000 in
theorem utf8_appendRuneNonASCII.calls (k : Nat) (P0_ : Nat → Prop) (u9000_ : Value) (l0 : List Int) (a1 : Int) (r : List Int) (w0 w : World) (hB : Below w0.heap.size w0 w) (ho0 : Kd.R (Kd.int .u8) 5 w w0.heap.size P0_ u9000_ l0) (h : utf8_appendRuneNonASCII.f k l0 a1 = some r) :
  Calls Tryd.prog 79 #[u9000_, .int .i32 a1] w fun e w' => ∃ v0_ : Value, e = .returned (v0_) ∧ Kd.R (Kd.int .u8) 5 w' w0.heap.size (fun k_ => (P0_ k_ ∨ w.heap.size ≤ k_)) v0_ r ∧ Below w0.heap.size w0 w' ∧ Kept w w' (fun k_ => P0_ k_) := by
 have HO0 := Aside0.mk (show Kd.R (Kd.int .u8) 5 w w0.heap.size (fun k_ => (P0_ k_ ∨ w.heap.size ≤ k_)) u9000_ l0 from Kd.R_mono ho0 (fun k_ hk => (.inl hk)))
 have HK := Aside0.mk (Kept.refl w (fun k_ => P0_ k_))
 have HW0 := Aside0.mk hB.size
 have HB := Aside0.mk hB
 clear hB
 have H : (if ((a1) % 4294967296) ≤ 2047 then ((some (([Go.bits .or .u8 192 ((a1 / 64) % 256), 128 + a1 % 64] : List Int) : List Int)).bind fun y179 => (if l0.length + y179.length < 140737488355328 then (some (l0 ++ y179)) else (none))) else (if ((a1) % 4294967296) < 55296 then (utf8_appendRuneNonASCII.j0 k l0 a1 ((a1) % 4294967296) (decide (((a1) % 4294967296) < 55296))) else (if 57343 < ((a1) % 4294967296) then (utf8_appendRuneNonASCII.j0 k l0 a1 ((a1) % 4294967296) (decide (((a1) % 4294967296) ≤ 65535))) else (utf8_appendRuneNonASCII.j0 k l0 a1 ((a1) % 4294967296) false)))) = some r := h
 clear h
 by_cases c3 : ((a1) % 4294967296) ≤ 2047
 ·rw [if_pos c3] at H
  have c3b0 : decide (((a1) % 4294967296) ≤ 2047) = true := decide_eq_true c3
  clear c3
  obtain ⟨y179, hy179⟩ : ∃ y_ : List Int, y_ = (([Go.bits .or .u8 192 ((a1 / 64) % 256), 128 + a1 % 64] : List Int)) := ⟨_, rfl⟩
  replace H : (if l0.length + y179.length < 140737488355328 then (some (l0 ++ y179)) else (none)) = some r := by first | (rw [hy179]; with_reducible exact H) | (have H2_ := (Option.bind_some _ _).symm.trans H; rw [hy179]; with_reducible exact H2_) | (have H2_ := (Option.bind_some _ _).symm.trans H; with_reducible exact H2_) | with_reducible exact H | (rw [hy179]; exact H) | exact H
  have Ny179 := Aside0.mk hy179
  clear hy179
  by_cases c4 : l0.length + y179.length < 140737488355328
  ·rw [if_pos c4] at H
   have LMc4 := Aside0.mk c4
   clear c4
   obtain ⟨y182, hy182⟩ : ∃ y_ : List Int, y_ = (l0 ++ y179) := ⟨_, rfl⟩
   replace H : (some y182) = some r := by first | (rw [hy182]; with_reducible exact H) | (have H2_ := (Option.bind_some _ _).symm.trans H; rw [hy182]; with_reducible exact H2_) | (have H2_ := (Option.bind_some _ _).symm.trans H; with_reducible exact H2_) | with_reducible exact H | (rw [hy182]; exact H) | exact H
   have Ny182 := Aside0.mk hy182
   clear hy182
   obtain rfl := Option.some.inj H
   go_enter Tryd.func79, Tryd.ntmps79
   go_wp2_with (first|((with_reducible refine gate_dst (N := 23) rfl ?_);refine Kd.R_lit (Kd.int .u8) _ 5 ?hg (N := 23) ?hd (xs := ([Go.bits .or .u8 192 ((a1 / 64) % 256), 128 + a1 % 64] : List Int)) (inner := [.int .u8 (Go.bits .or .u8 192 ((a1 / 64) % 256)), .int .u8 (128 + a1 % 64)]) (ok := fun _ => True) (okp := fun _ => True) ?hr ?hp (fun _ hk => hk) trivial (Below.refl _ _) (Nat.le_refl _) (by simp) ?_;(case hd => rfl);(case hg => rfl);(case hr => first|(go_simp;done)|(go_simp;rfl));(case hp => exact (Reps.one (show Kd.M (Kd.int .u8) _ _ _ (Go.bits .or .u8 192 ((a1 / 64) % 256)) [.int .u8 (Go.bits .or .u8 192 ((a1 / 64) % 256))] from rfl) (Reps.one (show Kd.M (Kd.int .u8) _ _ _ (128 + a1 % 64) [.int .u8 (128 + a1 % 64)] from rfl) (Reps.none _ _))));intro v180 w5 ho6 hb hg_ hnew_;clear hg_ hnew_;(first|rw [← Ny179.out] at ho6|(simp only [Int.reduceToNat] at ho6;rw [← Ny179.out] at ho6));have n0_ := Aside0.mk (Kd.R_elder' (by (with_reducible repeat (first|apply Kd.R_alloc|apply Kd.R_drewN|apply Kd.R_drew));exact HO0.out) (Kd.R_base ho6) hb);have n1_ := Aside0.mk (Kd.R_lower (Kd.R_new' (Kd.R_newM (M := fun k_ => (P0_ k_ ∨ w.heap.size ≤ k_)) ho6 (by first|exact HK.out.1|exact (show Kept w _ (fun k_ => P0_ k_) from by repeat (first|(with_reducible first|exact HK.out|apply Kept.alloc|apply Kept.drewN|apply Kept.drew)|exact HK.out)).1) (fun k_ h_ => .inr h_)) (Kd.R_lt (by (with_reducible repeat (first|apply Kd.R_alloc|apply Kd.R_drewN|apply Kd.R_drew));exact HO0.out))) (below_size (by repeat (first|(with_reducible first|exact HB.out|apply below_alloc|apply pw_below_drewN|apply below_drew1)|exact HB.out))));have n2_ := Aside0.mk (Kept.below (S := (fun k_ => P0_ k_)) (by repeat (first|(with_reducible first|exact HK.out|apply Kept.alloc|apply Kept.drewN|apply Kept.drew)|exact HK.out)) hb);have n3_ := Aside0.mk (below_step (by repeat (first|(with_reducible first|exact HB.out|apply below_alloc|apply pw_below_drewN|apply below_drew1)|exact HB.out)) hb);clear HO0;clear HK;clear HB;have HO0 := n0_;have HO181 := n1_;have HK := n2_;have HB := n3_;clear n0_ n1_ n2_ n3_;clear hb ho6;obtain ⟨Ao8, co8, eo8⟩ := Kd.R_slice HO181.out;subst eo8)|((with_reducible refine gate_builtin (b := .append) (xs := #[.tmp 14, .tmp 23]) rfl ?_);at_builtin;refine Kd.R_append_rows (Kd.int .u8) (w0 := w0) w0.heap.size rfl (.tmp 14) (.tmp 23) 27 5 (.int .u8 0) 1 rfl Tryd.underlying27 info5 rfl (by decide) (by omega) u9000_ l0 y179 _ _ _ (fun k_ => (P0_ k_ ∨ w.heap.size ≤ k_) ∧ some k_ ≠ (.slice Ao8 y179.length co8 : Value).ownBlock) (fun _ => False) rfl rfl ?aO ?aR (fun _ _ h => h) (fun _ h => h.elim) ?aF ?aB ?aS ?aL ?_;(case aR => repeat (first|exact (Kd.R_reads' HO181.out).2.2|(with_reducible refine Kd.C_alloc ?_ _)|(with_reducible refine Kd.C_drewN ?_ _)|(with_reducible refine Kd.C_drew ?_)));(case aB => exact (by repeat (first|(with_reducible first|exact HB.out|apply below_alloc|apply pw_below_drewN|apply below_drew1)|exact HB.out)));(case aF => exact (fun k_ hk => ⟨(.inr (Nat.le_trans (by first|exact HK.out.1|exact (show Kept w _ (fun k_ => P0_ k_) from by repeat (first|(with_reducible first|exact HK.out|apply Kept.alloc|apply Kept.drewN|apply Kept.drew)|exact HK.out)).1) hk)), Kd.fresh' (Kd.R_lt (by (with_reducible repeat (first|apply Kd.R_alloc|apply Kd.R_drewN|apply Kd.R_drew));exact HO181.out)) k_ hk⟩));(case aO => exact (by (with_reducible repeat (first|apply Kd.R_alloc|apply Kd.R_drewN|apply Kd.R_drew));exact HO0.out));(case aS => exact (below_size (by repeat (first|(with_reducible first|exact HB.out|apply below_alloc|apply pw_below_drewN|apply below_drew1)|exact HB.out))));(case aL => have := LMc4.out;omega);intro v183 w7 ho hb hg hat;rw [← Ny182.out] at ho;have n0_ := Aside0.mk (Kd.R_after (ok := (fun k_ => (P0_ k_ ∨ w.heap.size ≤ k_))) (by (with_reducible repeat (first|apply Kd.R_alloc|apply Kd.R_drewN|apply Kd.R_drew));exact Kd.R_mono HO181.out (fun _ hk => ⟨hk.1.1, hk.2⟩)) hg hat);have n1_ := Aside0.mk (hb);have n2_ := Aside0.mk (Kept.of_grown (S := (fun k_ => P0_ k_)) hg (by repeat (first|(with_reducible first|exact HK.out|apply Kept.alloc|apply Kept.drewN|apply Kept.drew)|exact HK.out)) (fun k_ e_ => (HO0.out.1 k_ e_).1));have n3_ := Aside0.mk (ho);clear HO181;clear HB;clear HK;clear HO0;have HO181 := n0_;have HB := n1_;have HK := n2_;have HO184 := n3_;clear n0_ n1_ n2_ n3_;clear ho hb hg hat))
   go_ret
   exact ⟨_, by first|rfl|(simp [errW_none, errW_some] <;> rfl)|(simp [*, errW_none, errW_some] <;> rfl), by (with_reducible repeat (first|apply Kd.R_alloc|apply Kd.R_drewN|apply Kd.R_drew));exact Kd.R_mono HO184.out (fun _ hk => hk.1), by repeat (first|(with_reducible first|exact HB.out|apply below_alloc|apply pw_below_drewN|apply below_drew1)|exact HB.out), by repeat (first|(with_reducible first|exact HK.out|apply Kept.alloc|apply Kept.drewN|apply Kept.drew)|exact HK.out)⟩
  ·rw [if_neg c4] at H
   exact absurd H (by simp)
 ·rw [if_neg c3] at H
  have c3b0 : decide (((a1) % 4294967296) ≤ 2047) = false := decide_eq_false c3
  clear c3
  have HC9 := Aside0.mk H
  clear H
  go_enter Tryd.func79, Tryd.ntmps79
  go_upto_if 25 with (fail)
  go_cut [25] (fun v25 wc => ∃ (kq : Nat) (x25_8 : Bool), v25 = .bool x25_8 ∧ Aside0 (utf8_appendRuneNonASCII.j0 kq l0 a1 ((a1) % 4294967296) x25_8 = some r) ∧ Aside0 (kq ≤ k) ∧ Aside0 (Kd.R (Kd.int .u8) 5 wc w0.heap.size (fun k_ => (P0_ k_ ∨ w.heap.size ≤ k_)) u9000_ l0) ∧ Aside0 (Kept w wc (fun k_ => P0_ k_)) ∧ Aside0 (Below w0.heap.size w0 wc))
  case first =>
   have H := HC9.out
   clear HC9
   by_cases c10 : ((a1) % 4294967296) < 55296
   ·rw [if_pos c10] at H
    have c10b0 : decide (((a1) % 4294967296) < 55296) = true := decide_eq_true c10
    clear c10
    (first|rw [c10b0]|(simp only [i64_w, i32_w];rw [c10b0])|skip)
    have H' := Aside0.mk H
    clear H
    go_wp2
    go_meet
    case rel => exact ⟨_, (decide (((a1) % 4294967296) < 55296)), (by first|rfl|(simp;done)|(simp [*];done)), H', ⟨by first|omega|exact Nat.le_refl _⟩, ⟨by (with_reducible repeat (first|apply Kd.R_alloc|apply Kd.R_drewN|apply Kd.R_drew));exact HO0.out⟩, ⟨by repeat (first|(with_reducible first|exact HK.out|apply Kept.alloc|apply Kept.drewN|apply Kept.drew)|exact HK.out)⟩, ⟨by repeat (first|(with_reducible first|exact HB.out|apply below_alloc|apply pw_below_drewN|apply below_drew1)|exact HB.out)⟩⟩
   ·rw [if_neg c10] at H
    have c10b0 : decide (((a1) % 4294967296) < 55296) = false := decide_eq_false c10
    clear c10
    (first|rw [c10b0]|(simp only [i64_w, i32_w];rw [c10b0])|skip)
    by_cases c11 : 57343 < ((a1) % 4294967296)
    ·rw [if_pos c11] at H
     have c11b0 : decide (57343 < ((a1) % 4294967296)) = true := decide_eq_true c11
     clear c11
     have H' := Aside0.mk H
     clear H
     go_wp2
     go_meet
     case rel => exact ⟨_, (decide (((a1) % 4294967296) ≤ 65535)), (by first|rfl|(simp;done)|(simp [*];done)), H', ⟨by first|omega|exact Nat.le_refl _⟩, ⟨by (with_reducible repeat (first|apply Kd.R_alloc|apply Kd.R_drewN|apply Kd.R_drew));exact HO0.out⟩, ⟨by repeat (first|(with_reducible first|exact HK.out|apply Kept.alloc|apply Kept.drewN|apply Kept.drew)|exact HK.out)⟩, ⟨by repeat (first|(with_reducible first|exact HB.out|apply below_alloc|apply pw_below_drewN|apply below_drew1)|exact HB.out)⟩⟩
    ·rw [if_neg c11] at H
     have c11b0 : decide (57343 < ((a1) % 4294967296)) = false := decide_eq_false c11
     clear c11
     have H' := Aside0.mk H
     clear H
     go_wp2
     go_meet
     case rel => exact ⟨_, (false), (by first|rfl|(simp;done)|(simp [*];done)), H', ⟨by first|omega|exact Nat.le_refl _⟩, ⟨by (with_reducible repeat (first|apply Kd.R_alloc|apply Kd.R_drewN|apply Kd.R_drew));exact HO0.out⟩, ⟨by repeat (first|(with_reducible first|exact HK.out|apply Kept.alloc|apply Kept.drewN|apply Kept.drew)|exact HK.out)⟩, ⟨by repeat (first|(with_reducible first|exact HB.out|apply below_alloc|apply pw_below_drewN|apply below_drew1)|exact HB.out)⟩⟩
  case rest =>
   clear HC9
   try clear c1
   try clear p2
   try clear c3
   try clear c3b0
   try clear c4
   try clear c7
   try clear c10
   try clear c10b0
   try clear c11
   try clear c11b0
   obtain ⟨kq, x25_8, rfl, HA, HJ8, HO_0, HK, HB⟩ := hcut
   cases kq with
   | zero => exact absurd HA.out (by simp [utf8_appendRuneNonASCII.j0])
   | succ kj8 =>
    have H := HA.out
    clear HA
    simp only [utf8_appendRuneNonASCII.j0] at H
    by_cases c12 : x25_8 = true
    ·subst c12
     have H1 : ((some (([Go.bits .or .u8 224 ((a1 / 4096) % 256), 128 + a1 / 64 % 64, 128 + a1 % 64] : List Int) : List Int)).bind fun y185 => (if l0.length + y185.length < 140737488355328 then (some (l0 ++ y185)) else (none))) = some r := by rw [if_pos rfl] at H; exact H
     clear H
     have H := H1
     clear H1
     obtain ⟨y185, hy185⟩ : ∃ y_ : List Int, y_ = (([Go.bits .or .u8 224 ((a1 / 4096) % 256), 128 + a1 / 64 % 64, 128 + a1 % 64] : List Int)) := ⟨_, rfl⟩
     replace H : (if l0.length + y185.length < 140737488355328 then (some (l0 ++ y185)) else (none)) = some r := by first | (rw [hy185]; with_reducible exact H) | (have H2_ := (Option.bind_some _ _).symm.trans H; rw [hy185]; with_reducible exact H2_) | (have H2_ := (Option.bind_some _ _).symm.trans H; with_reducible exact H2_) | with_reducible exact H | (rw [hy185]; exact H) | exact H
     have Ny185 := Aside0.mk hy185
     clear hy185
     by_cases c13 : l0.length + y185.length < 140737488355328
     ·rw [if_pos c13] at H
      have LMc13 := Aside0.mk c13
      clear c13
      obtain ⟨y188, hy188⟩ : ∃ y_ : List Int, y_ = (l0 ++ y185) := ⟨_, rfl⟩
      replace H : (some y188) = some r := by first | (rw [hy188]; with_reducible exact H) | (have H2_ := (Option.bind_some _ _).symm.trans H; rw [hy188]; with_reducible exact H2_) | (have H2_ := (Option.bind_some _ _).symm.trans H; with_reducible exact H2_) | with_reducible exact H | (rw [hy188]; exact H) | exact H
      have Ny188 := Aside0.mk hy188
      clear hy188
      obtain rfl := Option.some.inj H
      go_wp2_with (first|((with_reducible refine gate_dst (N := 48) rfl ?_);refine Kd.R_lit (Kd.int .u8) _ 5 ?hg (N := 48) ?hd (xs := ([Go.bits .or .u8 224 ((a1 / 4096) % 256), 128 + a1 / 64 % 64, 128 + a1 % 64] : List Int)) (inner := [.int .u8 (Go.bits .or .u8 224 ((a1 / 4096) % 256)), .int .u8 (128 + a1 / 64 % 64), .int .u8 (128 + a1 % 64)]) (ok := fun _ => True) (okp := fun _ => True) ?hr ?hp (fun _ hk => hk) trivial (Below.refl _ _) (Nat.le_refl _) (by simp) ?_;(case hd => rfl);(case hg => rfl);(case hr => first|(go_simp;done)|(go_simp;rfl));(case hp => exact (Reps.one (show Kd.M (Kd.int .u8) _ _ _ (Go.bits .or .u8 224 ((a1 / 4096) % 256)) [.int .u8 (Go.bits .or .u8 224 ((a1 / 4096) % 256))] from rfl) (Reps.one (show Kd.M (Kd.int .u8) _ _ _ (128 + a1 / 64 % 64) [.int .u8 (128 + a1 / 64 % 64)] from rfl) (Reps.one (show Kd.M (Kd.int .u8) _ _ _ (128 + a1 % 64) [.int .u8 (128 + a1 % 64)] from rfl) (Reps.none _ _)))));intro v186 w14 ho15 hb hg_ hnew_;clear hg_ hnew_;(first|rw [← Ny185.out] at ho15|(simp only [Int.reduceToNat] at ho15;rw [← Ny185.out] at ho15));have n0_ := Aside0.mk (Kd.R_elder' (by (with_reducible repeat (first|apply Kd.R_alloc|apply Kd.R_drewN|apply Kd.R_drew));exact HO_0.out) (Kd.R_base ho15) hb);have n1_ := Aside0.mk (Kd.R_lower (Kd.R_new' (Kd.R_newM (M := fun k_ => (P0_ k_ ∨ w.heap.size ≤ k_)) ho15 (by first|exact HK.out.1|exact (show Kept w _ (fun k_ => P0_ k_) from by repeat (first|(with_reducible first|exact HK.out|apply Kept.alloc|apply Kept.drewN|apply Kept.drew)|exact HK.out)).1) (fun k_ h_ => .inr h_)) (Kd.R_lt (by (with_reducible repeat (first|apply Kd.R_alloc|apply Kd.R_drewN|apply Kd.R_drew));exact HO_0.out))) (below_size (by repeat (first|(with_reducible first|exact HB.out|apply below_alloc|apply pw_below_drewN|apply below_drew1)|exact HB.out))));have n2_ := Aside0.mk (Kept.below (S := (fun k_ => P0_ k_)) (by repeat (first|(with_reducible first|exact HK.out|apply Kept.alloc|apply Kept.drewN|apply Kept.drew)|exact HK.out)) hb);have n3_ := Aside0.mk (below_step (by repeat (first|(with_reducible first|exact HB.out|apply below_alloc|apply pw_below_drewN|apply below_drew1)|exact HB.out)) hb);clear HO_0;clear HK;clear HB;have HO_0 := n0_;have HO187 := n1_;have HK := n2_;have HB := n3_;clear n0_ n1_ n2_ n3_;clear hb ho15;obtain ⟨Ao17, co17, eo17⟩ := Kd.R_slice HO187.out;subst eo17)|((with_reducible refine gate_builtin (b := .append) (xs := #[.tmp 34, .tmp 48]) rfl ?_);at_builtin;refine Kd.R_append_rows (Kd.int .u8) (w0 := w0) w0.heap.size rfl (.tmp 34) (.tmp 48) 27 5 (.int .u8 0) 1 rfl Tryd.underlying27 info5 rfl (by decide) (by omega) u9000_ l0 y185 _ _ _ (fun k_ => (P0_ k_ ∨ w.heap.size ≤ k_) ∧ some k_ ≠ (.slice Ao17 y185.length co17 : Value).ownBlock) (fun _ => False) rfl rfl ?aO ?aR (fun _ _ h => h) (fun _ h => h.elim) ?aF ?aB ?aS ?aL ?_;(case aR => repeat (first|exact (Kd.R_reads' HO187.out).2.2|(with_reducible refine Kd.C_alloc ?_ _)|(with_reducible refine Kd.C_drewN ?_ _)|(with_reducible refine Kd.C_drew ?_)));(case aB => exact (by repeat (first|(with_reducible first|exact HB.out|apply below_alloc|apply pw_below_drewN|apply below_drew1)|exact HB.out)));(case aF => exact (fun k_ hk => ⟨(.inr (Nat.le_trans (by first|exact HK.out.1|exact (show Kept w _ (fun k_ => P0_ k_) from by repeat (first|(with_reducible first|exact HK.out|apply Kept.alloc|apply Kept.drewN|apply Kept.drew)|exact HK.out)).1) hk)), Kd.fresh' (Kd.R_lt (by (with_reducible repeat (first|apply Kd.R_alloc|apply Kd.R_drewN|apply Kd.R_drew));exact HO187.out)) k_ hk⟩));(case aO => exact (by (with_reducible repeat (first|apply Kd.R_alloc|apply Kd.R_drewN|apply Kd.R_drew));exact HO_0.out));(case aS => exact (below_size (by repeat (first|(with_reducible first|exact HB.out|apply below_alloc|apply pw_below_drewN|apply below_drew1)|exact HB.out))));(case aL => have := LMc13.out;omega);intro v189 w16 ho hb hg hat;rw [← Ny188.out] at ho;have n0_ := Aside0.mk (Kd.R_after (ok := (fun k_ => (P0_ k_ ∨ w.heap.size ≤ k_))) (by (with_reducible repeat (first|apply Kd.R_alloc|apply Kd.R_drewN|apply Kd.R_drew));exact Kd.R_mono HO187.out (fun _ hk => ⟨hk.1.1, hk.2⟩)) hg hat);have n1_ := Aside0.mk (hb);have n2_ := Aside0.mk (Kept.of_grown (S := (fun k_ => P0_ k_)) hg (by repeat (first|(with_reducible first|exact HK.out|apply Kept.alloc|apply Kept.drewN|apply Kept.drew)|exact HK.out)) (fun k_ e_ => (HO_0.out.1 k_ e_).1));have n3_ := Aside0.mk (ho);clear HO187;clear HB;clear HK;clear HO_0;have HO187 := n0_;have HB := n1_;have HK := n2_;have HO190 := n3_;clear n0_ n1_ n2_ n3_;clear ho hb hg hat))
      go_ret
      exact ⟨_, by first|rfl|(simp [errW_none, errW_some] <;> rfl)|(simp [*, errW_none, errW_some] <;> rfl), by (with_reducible repeat (first|apply Kd.R_alloc|apply Kd.R_drewN|apply Kd.R_drew));exact Kd.R_mono HO190.out (fun _ hk => hk.1), by repeat (first|(with_reducible first|exact HB.out|apply below_alloc|apply pw_below_drewN|apply below_drew1)|exact HB.out), by repeat (first|(with_reducible first|exact HK.out|apply Kept.alloc|apply Kept.drewN|apply Kept.drew)|exact HK.out)⟩
     ·rw [if_neg c13] at H
      exact absurd H (by simp)
    ·replace c12 := Bool.eq_false_iff.mpr c12
     subst c12
     have H1 : (if ((a1) % 4294967296) > 65535 then (if ((a1) % 4294967296) ≤ 1114111 then ((some (([Go.bits .or .u8 240 ((a1 / 262144) % 256), 128 + a1 / 4096 % 64, 128 + a1 / 64 % 64, 128 + a1 % 64] : List Int) : List Int)).bind fun y191 => (if l0.length + y191.length < 140737488355328 then (some (l0 ++ y191)) else (none))) else ((some (([239, 191, 189] : List Int) : List Int)).bind fun y197 => (if l0.length + y197.length < 140737488355328 then (some (l0 ++ y197)) else (none)))) else ((some (([239, 191, 189] : List Int) : List Int)).bind fun y203 => (if l0.length + y203.length < 140737488355328 then (some (l0 ++ y203)) else (none)))) = some r := by rw [if_neg (show ¬ (false = true) by decide)] at H; exact H
     clear H
     have H := H1
     clear H1
     by_cases c18 : ((a1) % 4294967296) > 65535
     ·rw [if_pos c18] at H
      have c18b0 : decide (65535 < ((a1) % 4294967296)) = true := decide_eq_true c18
      clear c18
      by_cases c19 : ((a1) % 4294967296) ≤ 1114111
      ·rw [if_pos c19] at H
       have c19b0 : decide (((a1) % 4294967296) ≤ 1114111) = true := decide_eq_true c19
       clear c19
       obtain ⟨y191, hy191⟩ : ∃ y_ : List Int, y_ = (([Go.bits .or .u8 240 ((a1 / 262144) % 256), 128 + a1 / 4096 % 64, 128 + a1 / 64 % 64, 128 + a1 % 64] : List Int)) := ⟨_, rfl⟩
       replace H : (if l0.length + y191.length < 140737488355328 then (some (l0 ++ y191)) else (none)) = some r := by first | (rw [hy191]; with_reducible exact H) | (have H2_ := (Option.bind_some _ _).symm.trans H; rw [hy191]; with_reducible exact H2_) | (have H2_ := (Option.bind_some _ _).symm.trans H; with_reducible exact H2_) | with_reducible exact H | (rw [hy191]; exact H) | exact H
       have Ny191 := Aside0.mk hy191
       clear hy191
       by_cases c20 : l0.length + y191.length < 140737488355328
       ·rw [if_pos c20] at H
        have LMc20 := Aside0.mk c20
        clear c20
        obtain ⟨y194, hy194⟩ : ∃ y_ : List Int, y_ = (l0 ++ y191) := ⟨_, rfl⟩
        replace H : (some y194) = some r := by first | (rw [hy194]; with_reducible exact H) | (have H2_ := (Option.bind_some _ _).symm.trans H; rw [hy194]; with_reducible exact H2_) | (have H2_ := (Option.bind_some _ _).symm.trans H; with_reducible exact H2_) | with_reducible exact H | (rw [hy194]; exact H) | exact H
        have Ny194 := Aside0.mk hy194
        clear hy194
        obtain rfl := Option.some.inj H
        go_wp2_with (first|((with_reducible refine gate_dst (N := 76) rfl ?_);refine Kd.R_lit (Kd.int .u8) _ 5 ?hg (N := 76) ?hd (xs := ([Go.bits .or .u8 240 ((a1 / 262144) % 256), 128 + a1 / 4096 % 64, 128 + a1 / 64 % 64, 128 + a1 % 64] : List Int)) (inner := [.int .u8 (Go.bits .or .u8 240 ((a1 / 262144) % 256)), .int .u8 (128 + a1 / 4096 % 64), .int .u8 (128 + a1 / 64 % 64), .int .u8 (128 + a1 % 64)]) (ok := fun _ => True) (okp := fun _ => True) ?hr ?hp (fun _ hk => hk) trivial (Below.refl _ _) (Nat.le_refl _) (by simp) ?_;(case hd => rfl);(case hg => rfl);(case hr => first|(go_simp;done)|(go_simp;rfl));(case hp => exact (Reps.one (show Kd.M (Kd.int .u8) _ _ _ (Go.bits .or .u8 240 ((a1 / 262144) % 256)) [.int .u8 (Go.bits .or .u8 240 ((a1 / 262144) % 256))] from rfl) (Reps.one (show Kd.M (Kd.int .u8) _ _ _ (128 + a1 / 4096 % 64) [.int .u8 (128 + a1 / 4096 % 64)] from rfl) (Reps.one (show Kd.M (Kd.int .u8) _ _ _ (128 + a1 / 64 % 64) [.int .u8 (128 + a1 / 64 % 64)] from rfl) (Reps.one (show Kd.M (Kd.int .u8) _ _ _ (128 + a1 % 64) [.int .u8 (128 + a1 % 64)] from rfl) (Reps.none _ _))))));intro v192 w21 ho22 hb hg_ hnew_;clear hg_ hnew_;(first|rw [← Ny191.out] at ho22|(simp only [Int.reduceToNat] at ho22;rw [← Ny191.out] at ho22));have n0_ := Aside0.mk (Kd.R_elder' (by (with_reducible repeat (first|apply Kd.R_alloc|apply Kd.R_drewN|apply Kd.R_drew));exact HO_0.out) (Kd.R_base ho22) hb);have n1_ := Aside0.mk (Kd.R_lower (Kd.R_new' (Kd.R_newM (M := fun k_ => (P0_ k_ ∨ w.heap.size ≤ k_)) ho22 (by first|exact HK.out.1|exact (show Kept w _ (fun k_ => P0_ k_) from by repeat (first|(with_reducible first|exact HK.out|apply Kept.alloc|apply Kept.drewN|apply Kept.drew)|exact HK.out)).1) (fun k_ h_ => .inr h_)) (Kd.R_lt (by (with_reducible repeat (first|apply Kd.R_alloc|apply Kd.R_drewN|apply Kd.R_drew));exact HO_0.out))) (below_size (by repeat (first|(with_reducible first|exact HB.out|apply below_alloc|apply pw_below_drewN|apply below_drew1)|exact HB.out))));have n2_ := Aside0.mk (Kept.below (S := (fun k_ => P0_ k_)) (by repeat (first|(with_reducible first|exact HK.out|apply Kept.alloc|apply Kept.drewN|apply Kept.drew)|exact HK.out)) hb);have n3_ := Aside0.mk (below_step (by repeat (first|(with_reducible first|exact HB.out|apply below_alloc|apply pw_below_drewN|apply below_drew1)|exact HB.out)) hb);clear HO_0;clear HK;clear HB;have HO_0 := n0_;have HO193 := n1_;have HK := n2_;have HB := n3_;clear n0_ n1_ n2_ n3_;clear hb ho22;obtain ⟨Ao24, co24, eo24⟩ := Kd.R_slice HO193.out;subst eo24)|((with_reducible refine gate_builtin (b := .append) (xs := #[.tmp 57, .tmp 76]) rfl ?_);at_builtin;refine Kd.R_append_rows (Kd.int .u8) (w0 := w0) w0.heap.size rfl (.tmp 57) (.tmp 76) 27 5 (.int .u8 0) 1 rfl Tryd.underlying27 info5 rfl (by decide) (by omega) u9000_ l0 y191 _ _ _ (fun k_ => (P0_ k_ ∨ w.heap.size ≤ k_) ∧ some k_ ≠ (.slice Ao24 y191.length co24 : Value).ownBlock) (fun _ => False) rfl rfl ?aO ?aR (fun _ _ h => h) (fun _ h => h.elim) ?aF ?aB ?aS ?aL ?_;(case aR => repeat (first|exact (Kd.R_reads' HO193.out).2.2|(with_reducible refine Kd.C_alloc ?_ _)|(with_reducible refine Kd.C_drewN ?_ _)|(with_reducible refine Kd.C_drew ?_)));(case aB => exact (by repeat (first|(with_reducible first|exact HB.out|apply below_alloc|apply pw_below_drewN|apply below_drew1)|exact HB.out)));(case aF => exact (fun k_ hk => ⟨(.inr (Nat.le_trans (by first|exact HK.out.1|exact (show Kept w _ (fun k_ => P0_ k_) from by repeat (first|(with_reducible first|exact HK.out|apply Kept.alloc|apply Kept.drewN|apply Kept.drew)|exact HK.out)).1) hk)), Kd.fresh' (Kd.R_lt (by (with_reducible repeat (first|apply Kd.R_alloc|apply Kd.R_drewN|apply Kd.R_drew));exact HO193.out)) k_ hk⟩));(case aO => exact (by (with_reducible repeat (first|apply Kd.R_alloc|apply Kd.R_drewN|apply Kd.R_drew));exact HO_0.out));(case aS => exact (below_size (by repeat (first|(with_reducible first|exact HB.out|apply below_alloc|apply pw_below_drewN|apply below_drew1)|exact HB.out))));(case aL => have := LMc20.out;omega);intro v195 w23 ho hb hg hat;rw [← Ny194.out] at ho;have n0_ := Aside0.mk (Kd.R_after (ok := (fun k_ => (P0_ k_ ∨ w.heap.size ≤ k_))) (by (with_reducible repeat (first|apply Kd.R_alloc|apply Kd.R_drewN|apply Kd.R_drew));exact Kd.R_mono HO193.out (fun _ hk => ⟨hk.1.1, hk.2⟩)) hg hat);have n1_ := Aside0.mk (hb);have n2_ := Aside0.mk (Kept.of_grown (S := (fun k_ => P0_ k_)) hg (by repeat (first|(with_reducible first|exact HK.out|apply Kept.alloc|apply Kept.drewN|apply Kept.drew)|exact HK.out)) (fun k_ e_ => (HO_0.out.1 k_ e_).1));have n3_ := Aside0.mk (ho);clear HO193;clear HB;clear HK;clear HO_0;have HO193 := n0_;have HB := n1_;have HK := n2_;have HO196 := n3_;clear n0_ n1_ n2_ n3_;clear ho hb hg hat))
        go_ret
        exact ⟨_, by first|rfl|(simp [errW_none, errW_some] <;> rfl)|(simp [*, errW_none, errW_some] <;> rfl), by (with_reducible repeat (first|apply Kd.R_alloc|apply Kd.R_drewN|apply Kd.R_drew));exact Kd.R_mono HO196.out (fun _ hk => hk.1), by repeat (first|(with_reducible first|exact HB.out|apply below_alloc|apply pw_below_drewN|apply below_drew1)|exact HB.out), by repeat (first|(with_reducible first|exact HK.out|apply Kept.alloc|apply Kept.drewN|apply Kept.drew)|exact HK.out)⟩
       ·rw [if_neg c20] at H
        exact absurd H (by simp)
      ·rw [if_neg c19] at H
       have c19b0 : decide (((a1) % 4294967296) ≤ 1114111) = false := decide_eq_false c19
       clear c19
       obtain ⟨y197, hy197⟩ : ∃ y_ : List Int, y_ = (([239, 191, 189] : List Int)) := ⟨_, rfl⟩
       replace H : (if l0.length + y197.length < 140737488355328 then (some (l0 ++ y197)) else (none)) = some r := by first | (rw [hy197]; with_reducible exact H) | (have H2_ := (Option.bind_some _ _).symm.trans H; rw [hy197]; with_reducible exact H2_) | (have H2_ := (Option.bind_some _ _).symm.trans H; with_reducible exact H2_) | with_reducible exact H | (rw [hy197]; exact H) | exact H
       have Ny197 := Aside0.mk hy197
       clear hy197
       by_cases c25 : l0.length + y197.length < 140737488355328
       ·rw [if_pos c25] at H
        have LMc25 := Aside0.mk c25
        clear c25
        obtain ⟨y200, hy200⟩ : ∃ y_ : List Int, y_ = (l0 ++ y197) := ⟨_, rfl⟩
        replace H : (some y200) = some r := by first | (rw [hy200]; with_reducible exact H) | (have H2_ := (Option.bind_some _ _).symm.trans H; rw [hy200]; with_reducible exact H2_) | (have H2_ := (Option.bind_some _ _).symm.trans H; with_reducible exact H2_) | with_reducible exact H | (rw [hy200]; exact H) | exact H
        have Ny200 := Aside0.mk hy200
        clear hy200
        obtain rfl := Option.some.inj H
        go_wp2_with (first|((with_reducible refine gate_dst (N := 9) rfl ?_);refine Kd.R_lit (Kd.int .u8) _ 5 ?hg (N := 9) ?hd (xs := ([239, 191, 189] : List Int)) (inner := [.int .u8 239, .int .u8 191, .int .u8 189]) (ok := fun _ => True) (okp := fun _ => True) ?hr ?hp (fun _ hk => hk) trivial (Below.refl _ _) (Nat.le_refl _) (by simp) ?_;(case hd => rfl);(case hg => rfl);(case hr => first|(go_simp;done)|(go_simp;rfl));(case hp => exact (Reps.one (show Kd.M (Kd.int .u8) _ _ _ 239 [.int .u8 239] from rfl) (Reps.one (show Kd.M (Kd.int .u8) _ _ _ 191 [.int .u8 191] from rfl) (Reps.one (show Kd.M (Kd.int .u8) _ _ _ 189 [.int .u8 189] from rfl) (Reps.none _ _)))));intro v198 w26 ho27 hb hg_ hnew_;clear hg_ hnew_;(first|rw [← Ny197.out] at ho27|(simp only [Int.reduceToNat] at ho27;rw [← Ny197.out] at ho27));have n0_ := Aside0.mk (Kd.R_elder' (by (with_reducible repeat (first|apply Kd.R_alloc|apply Kd.R_drewN|apply Kd.R_drew));exact HO_0.out) (Kd.R_base ho27) hb);have n1_ := Aside0.mk (Kd.R_lower (Kd.R_new' (Kd.R_newM (M := fun k_ => (P0_ k_ ∨ w.heap.size ≤ k_)) ho27 (by first|exact HK.out.1|exact (show Kept w _ (fun k_ => P0_ k_) from by repeat (first|(with_reducible first|exact HK.out|apply Kept.alloc|apply Kept.drewN|apply Kept.drew)|exact HK.out)).1) (fun k_ h_ => .inr h_)) (Kd.R_lt (by (with_reducible repeat (first|apply Kd.R_alloc|apply Kd.R_drewN|apply Kd.R_drew));exact HO_0.out))) (below_size (by repeat (first|(with_reducible first|exact HB.out|apply below_alloc|apply pw_below_drewN|apply below_drew1)|exact HB.out))));have n2_ := Aside0.mk (Kept.below (S := (fun k_ => P0_ k_)) (by repeat (first|(with_reducible first|exact HK.out|apply Kept.alloc|apply Kept.drewN|apply Kept.drew)|exact HK.out)) hb);have n3_ := Aside0.mk (below_step (by repeat (first|(with_reducible first|exact HB.out|apply below_alloc|apply pw_below_drewN|apply below_drew1)|exact HB.out)) hb);clear HO_0;clear HK;clear HB;have HO_0 := n0_;have HO199 := n1_;have HK := n2_;have HB := n3_;clear n0_ n1_ n2_ n3_;clear hb ho27;obtain ⟨Ao29, co29, eo29⟩ := Kd.R_slice HO199.out;subst eo29)|((with_reducible refine gate_builtin (b := .append) (xs := #[.tmp 8, .tmp 9]) rfl ?_);at_builtin;refine Kd.R_append_rows (Kd.int .u8) (w0 := w0) w0.heap.size rfl (.tmp 8) (.tmp 9) 27 5 (.int .u8 0) 1 rfl Tryd.underlying27 info5 rfl (by decide) (by omega) u9000_ l0 y197 _ _ _ (fun k_ => (P0_ k_ ∨ w.heap.size ≤ k_) ∧ some k_ ≠ (.slice Ao29 y197.length co29 : Value).ownBlock) (fun _ => False) rfl rfl ?aO ?aR (fun _ _ h => h) (fun _ h => h.elim) ?aF ?aB ?aS ?aL ?_;(case aR => repeat (first|exact (Kd.R_reads' HO199.out).2.2|(with_reducible refine Kd.C_alloc ?_ _)|(with_reducible refine Kd.C_drewN ?_ _)|(with_reducible refine Kd.C_drew ?_)));(case aB => exact (by repeat (first|(with_reducible first|exact HB.out|apply below_alloc|apply pw_below_drewN|apply below_drew1)|exact HB.out)));(case aF => exact (fun k_ hk => ⟨(.inr (Nat.le_trans (by first|exact HK.out.1|exact (show Kept w _ (fun k_ => P0_ k_) from by repeat (first|(with_reducible first|exact HK.out|apply Kept.alloc|apply Kept.drewN|apply Kept.drew)|exact HK.out)).1) hk)), Kd.fresh' (Kd.R_lt (by (with_reducible repeat (first|apply Kd.R_alloc|apply Kd.R_drewN|apply Kd.R_drew));exact HO199.out)) k_ hk⟩));(case aO => exact (by (with_reducible repeat (first|apply Kd.R_alloc|apply Kd.R_drewN|apply Kd.R_drew));exact HO_0.out));(case aS => exact (below_size (by repeat (first|(with_reducible first|exact HB.out|apply below_alloc|apply pw_below_drewN|apply below_drew1)|exact HB.out))));(case aL => have := LMc25.out;omega);intro v201 w28 ho hb hg hat;rw [← Ny200.out] at ho;have n0_ := Aside0.mk (Kd.R_after (ok := (fun k_ => (P0_ k_ ∨ w.heap.size ≤ k_))) (by (with_reducible repeat (first|apply Kd.R_alloc|apply Kd.R_drewN|apply Kd.R_drew));exact Kd.R_mono HO199.out (fun _ hk => ⟨hk.1.1, hk.2⟩)) hg hat);have n1_ := Aside0.mk (hb);have n2_ := Aside0.mk (Kept.of_grown (S := (fun k_ => P0_ k_)) hg (by repeat (first|(with_reducible first|exact HK.out|apply Kept.alloc|apply Kept.drewN|apply Kept.drew)|exact HK.out)) (fun k_ e_ => (HO_0.out.1 k_ e_).1));have n3_ := Aside0.mk (ho);clear HO199;clear HB;clear HK;clear HO_0;have HO199 := n0_;have HB := n1_;have HK := n2_;have HO202 := n3_;clear n0_ n1_ n2_ n3_;clear ho hb hg hat))
        go_ret
        exact ⟨_, by first|rfl|(simp [errW_none, errW_some] <;> rfl)|(simp [*, errW_none, errW_some] <;> rfl), by (with_reducible repeat (first|apply Kd.R_alloc|apply Kd.R_drewN|apply Kd.R_drew));exact Kd.R_mono HO202.out (fun _ hk => hk.1), by repeat (first|(with_reducible first|exact HB.out|apply below_alloc|apply pw_below_drewN|apply below_drew1)|exact HB.out), by repeat (first|(with_reducible first|exact HK.out|apply Kept.alloc|apply Kept.drewN|apply Kept.drew)|exact HK.out)⟩
       ·rw [if_neg c25] at H
        exact absurd H (by simp)
     ·rw [if_neg c18] at H
      have c18b0 : decide (65535 < ((a1) % 4294967296)) = false := decide_eq_false c18
      clear c18
      obtain ⟨y203, hy203⟩ : ∃ y_ : List Int, y_ = (([239, 191, 189] : List Int)) := ⟨_, rfl⟩
      replace H : (if l0.length + y203.length < 140737488355328 then (some (l0 ++ y203)) else (none)) = some r := by first | (rw [hy203]; with_reducible exact H) | (have H2_ := (Option.bind_some _ _).symm.trans H; rw [hy203]; with_reducible exact H2_) | (have H2_ := (Option.bind_some _ _).symm.trans H; with_reducible exact H2_) | with_reducible exact H | (rw [hy203]; exact H) | exact H
      have Ny203 := Aside0.mk hy203
      clear hy203
      by_cases c30 : l0.length + y203.length < 140737488355328
      ·rw [if_pos c30] at H
       have LMc30 := Aside0.mk c30
       clear c30
       obtain ⟨y206, hy206⟩ : ∃ y_ : List Int, y_ = (l0 ++ y203) := ⟨_, rfl⟩
       replace H : (some y206) = some r := by first | (rw [hy206]; with_reducible exact H) | (have H2_ := (Option.bind_some _ _).symm.trans H; rw [hy206]; with_reducible exact H2_) | (have H2_ := (Option.bind_some _ _).symm.trans H; with_reducible exact H2_) | with_reducible exact H | (rw [hy206]; exact H) | exact H
       have Ny206 := Aside0.mk hy206
       clear hy206
       obtain rfl := Option.some.inj H
       go_wp2_with (first|((with_reducible refine gate_dst (N := 9) rfl ?_);refine Kd.R_lit (Kd.int .u8) _ 5 ?hg (N := 9) ?hd (xs := ([239, 191, 189] : List Int)) (inner := [.int .u8 239, .int .u8 191, .int .u8 189]) (ok := fun _ => True) (okp := fun _ => True) ?hr ?hp (fun _ hk => hk) trivial (Below.refl _ _) (Nat.le_refl _) (by simp) ?_;(case hd => rfl);(case hg => rfl);(case hr => first|(go_simp;done)|(go_simp;rfl));(case hp => exact (Reps.one (show Kd.M (Kd.int .u8) _ _ _ 239 [.int .u8 239] from rfl) (Reps.one (show Kd.M (Kd.int .u8) _ _ _ 191 [.int .u8 191] from rfl) (Reps.one (show Kd.M (Kd.int .u8) _ _ _ 189 [.int .u8 189] from rfl) (Reps.none _ _)))));intro v204 w31 ho32 hb hg_ hnew_;clear hg_ hnew_;(first|rw [← Ny203.out] at ho32|(simp only [Int.reduceToNat] at ho32;rw [← Ny203.out] at ho32));have n0_ := Aside0.mk (Kd.R_elder' (by (with_reducible repeat (first|apply Kd.R_alloc|apply Kd.R_drewN|apply Kd.R_drew));exact HO_0.out) (Kd.R_base ho32) hb);have n1_ := Aside0.mk (Kd.R_lower (Kd.R_new' (Kd.R_newM (M := fun k_ => (P0_ k_ ∨ w.heap.size ≤ k_)) ho32 (by first|exact HK.out.1|exact (show Kept w _ (fun k_ => P0_ k_) from by repeat (first|(with_reducible first|exact HK.out|apply Kept.alloc|apply Kept.drewN|apply Kept.drew)|exact HK.out)).1) (fun k_ h_ => .inr h_)) (Kd.R_lt (by (with_reducible repeat (first|apply Kd.R_alloc|apply Kd.R_drewN|apply Kd.R_drew));exact HO_0.out))) (below_size (by repeat (first|(with_reducible first|exact HB.out|apply below_alloc|apply pw_below_drewN|apply below_drew1)|exact HB.out))));have n2_ := Aside0.mk (Kept.below (S := (fun k_ => P0_ k_)) (by repeat (first|(with_reducible first|exact HK.out|apply Kept.alloc|apply Kept.drewN|apply Kept.drew)|exact HK.out)) hb);have n3_ := Aside0.mk (below_step (by repeat (first|(with_reducible first|exact HB.out|apply below_alloc|apply pw_below_drewN|apply below_drew1)|exact HB.out)) hb);clear HO_0;clear HK;clear HB;have HO_0 := n0_;have HO205 := n1_;have HK := n2_;have HB := n3_;clear n0_ n1_ n2_ n3_;clear hb ho32;obtain ⟨Ao34, co34, eo34⟩ := Kd.R_slice HO205.out;subst eo34)|((with_reducible refine gate_builtin (b := .append) (xs := #[.tmp 8, .tmp 9]) rfl ?_);at_builtin;refine Kd.R_append_rows (Kd.int .u8) (w0 := w0) w0.heap.size rfl (.tmp 8) (.tmp 9) 27 5 (.int .u8 0) 1 rfl Tryd.underlying27 info5 rfl (by decide) (by omega) u9000_ l0 y203 _ _ _ (fun k_ => (P0_ k_ ∨ w.heap.size ≤ k_) ∧ some k_ ≠ (.slice Ao34 y203.length co34 : Value).ownBlock) (fun _ => False) rfl rfl ?aO ?aR (fun _ _ h => h) (fun _ h => h.elim) ?aF ?aB ?aS ?aL ?_;(case aR => repeat (first|exact (Kd.R_reads' HO205.out).2.2|(with_reducible refine Kd.C_alloc ?_ _)|(with_reducible refine Kd.C_drewN ?_ _)|(with_reducible refine Kd.C_drew ?_)));(case aB => exact (by repeat (first|(with_reducible first|exact HB.out|apply below_alloc|apply pw_below_drewN|apply below_drew1)|exact HB.out)));(case aF => exact (fun k_ hk => ⟨(.inr (Nat.le_trans (by first|exact HK.out.1|exact (show Kept w _ (fun k_ => P0_ k_) from by repeat (first|(with_reducible first|exact HK.out|apply Kept.alloc|apply Kept.drewN|apply Kept.drew)|exact HK.out)).1) hk)), Kd.fresh' (Kd.R_lt (by (with_reducible repeat (first|apply Kd.R_alloc|apply Kd.R_drewN|apply Kd.R_drew));exact HO205.out)) k_ hk⟩));(case aO => exact (by (with_reducible repeat (first|apply Kd.R_alloc|apply Kd.R_drewN|apply Kd.R_drew));exact HO_0.out));(case aS => exact (below_size (by repeat (first|(with_reducible first|exact HB.out|apply below_alloc|apply pw_below_drewN|apply below_drew1)|exact HB.out))));(case aL => have := LMc30.out;omega);intro v207 w33 ho hb hg hat;rw [← Ny206.out] at ho;have n0_ := Aside0.mk (Kd.R_after (ok := (fun k_ => (P0_ k_ ∨ w.heap.size ≤ k_))) (by (with_reducible repeat (first|apply Kd.R_alloc|apply Kd.R_drewN|apply Kd.R_drew));exact Kd.R_mono HO205.out (fun _ hk => ⟨hk.1.1, hk.2⟩)) hg hat);have n1_ := Aside0.mk (hb);have n2_ := Aside0.mk (Kept.of_grown (S := (fun k_ => P0_ k_)) hg (by repeat (first|(with_reducible first|exact HK.out|apply Kept.alloc|apply Kept.drewN|apply Kept.drew)|exact HK.out)) (fun k_ e_ => (HO_0.out.1 k_ e_).1));have n3_ := Aside0.mk (ho);clear HO205;clear HB;clear HK;clear HO_0;have HO205 := n0_;have HB := n1_;have HK := n2_;have HO208 := n3_;clear n0_ n1_ n2_ n3_;clear ho hb hg hat))
       go_ret
       exact ⟨_, by first|rfl|(simp [errW_none, errW_some] <;> rfl)|(simp [*, errW_none, errW_some] <;> rfl), by (with_reducible repeat (first|apply Kd.R_alloc|apply Kd.R_drewN|apply Kd.R_drew));exact Kd.R_mono HO208.out (fun _ hk => hk.1), by repeat (first|(with_reducible first|exact HB.out|apply below_alloc|apply pw_below_drewN|apply below_drew1)|exact HB.out), by repeat (first|(with_reducible first|exact HK.out|apply Kept.alloc|apply Kept.drewN|apply Kept.drew)|exact HK.out)⟩
      ·rw [if_neg c30] at H
       exact absurd H (by simp)
end Go.Proofs.YtefefpkgiecikaaDoor.P
namespace Go.Proofs.YtefefpkgiecikaaDoor.P
open Go.RowKit Go.Proofs.YtefefpkgiecikaaDoorW.PrintWords Go.Proofs.YtefefpkgiecikaaDoorW.PrintLast Go.Proofs.YtefefpkgiecikaaDoorW.PrintMore
attribute [local go_sem] max2_int min2_int max_two min_two max_three min_three max_four min_four
set_option linter.unusedVariables false
set_option linter.unusedSimpArgs false
def utf8_AppendRune.f (k : Nat) (l0 : List Int) (a1 : Int) : Option (List Int) := if ((a1) % 4294967296) ≤ 127 then (if l0.length < 140737488355328 then (some (l0 ++ [(a1) % 256])) else (none)) else ((utf8_appendRuneNonASCII.f k l0 a1).bind fun t212 => (some t212))
theorem utf8_AppendRune.mono : ∀ a0 a1 k, LeO (utf8_AppendRune.f k a0 a1) (utf8_AppendRune.f (k + 1) a0 a1) := by
 intro a0 a1 k
 unfold utf8_AppendRune.f
 repeat' first
   | (with_reducible exact utf8_appendRuneNonASCII.mono _ _ _)
   | (with_reducible exact LeO.refl _)
   | (with_reducible exact LeO.none _)
   | (with_reducible refine LeO.ite ?_ ?_)
   | (with_reducible refine LeO.bind ?_ (fun _ => ?_))
   | exact utf8_appendRuneNonASCII.mono _ _ _
   | exact LeO.none _
   | refine LeO.ite ?_ ?_
   | refine LeO.bind ?_ (fun _ => ?_)
set_option maxHeartbeats 8000000 in
set_option maxRecDepth 100000 in
theorem utf8_AppendRune.calls (k : Nat) (P0_ : Nat → Prop) (u9000_ : Value) (l0 : List Int) (a1 : Int) (r : List Int) (w0 w : World) (hB : Below w0.heap.size w0 w) (ho0 : Kd.R (Kd.int .u8) 5 w w0.heap.size P0_ u9000_ l0) (h : utf8_AppendRune.f k l0 a1 = some r) :
  Calls Tryd.prog 68 #[u9000_, .int .i32 a1] w fun e w' => ∃ v0_ : Value, e = .returned (v0_) ∧ Kd.R (Kd.int .u8) 5 w' w0.heap.size (fun k_ => (P0_ k_ ∨ w.heap.size ≤ k_)) v0_ r ∧ Below w0.heap.size w0 w' ∧ Kept w w' (fun k_ => P0_ k_) := by
 have HO0 := Aside0.mk (show Kd.R (Kd.int .u8) 5 w w0.heap.size (fun k_ => (P0_ k_ ∨ w.heap.size ≤ k_)) u9000_ l0 from Kd.R_mono ho0 (fun k_ hk => (.inl hk)))
 have HK := Aside0.mk (Kept.refl w (fun k_ => P0_ k_))
 have HW0 := Aside0.mk hB.size
 have HB := Aside0.mk hB
 clear hB
 have H : (if ((a1) % 4294967296) ≤ 127 then (if l0.length < 140737488355328 then (some (l0 ++ [(a1) % 256])) else (none)) else ((utf8_appendRuneNonASCII.f k l0 a1).bind fun t212 => (some t212))) = some r := h
 clear h
 by_cases c3 : ((a1) % 4294967296) ≤ 127
 ·rw [if_pos c3] at H
  have c3b0 : decide (((a1) % 4294967296) ≤ 127) = true := decide_eq_true c3
  clear c3
  by_cases c4 : l0.length < 140737488355328
  ·rw [if_pos c4] at H
   have LMc4 := Aside0.mk c4
   clear c4
   obtain ⟨y209, hy209⟩ : ∃ y_ : List Int, y_ = (l0 ++ [(a1) % 256]) := ⟨_, rfl⟩
   replace H : (some y209) = some r := by first | (rw [hy209]; with_reducible exact H) | (have H2_ := (Option.bind_some _ _).symm.trans H; rw [hy209]; with_reducible exact H2_) | (have H2_ := (Option.bind_some _ _).symm.trans H; with_reducible exact H2_) | with_reducible exact H | (rw [hy209]; exact H) | exact H
   have Ny209 := Aside0.mk hy209
   clear hy209
   obtain rfl := Option.some.inj H
   go_enter Tryd.func68, Tryd.ntmps68
   go_wp2_with (first|((with_reducible refine gate_builtin (b := .append) (xs := #[.tmp 8, .tmp 11]) rfl ?_);at_builtin;refine Kd.R_append (Kd.int .u8) (w0 := w0) w0.heap.size rfl (.tmp 8) (.tmp 11) 27 5 (.int .u8 0) 1 rfl Tryd.underlying27 info5 rfl (by decide) (by omega) u9000_ l0 ((a1) % 256) [.int .u8 ((a1) % 256)] (fun k_ => (P0_ k_ ∨ w.heap.size ≤ k_)) (fun _ => False) rfl rfl ?aP (fun _ hk => hk.elim) ?aF ?aO ?aB ?aS ?aL ?_;(case aP => exact rfl);(case aB => exact (by repeat (first|(with_reducible first|exact HB.out|apply below_alloc|apply pw_below_drewN|apply below_drew1)|exact HB.out)));(case aF => exact (fun k_ hk => (.inr (Nat.le_trans (by first|exact HK.out.1|exact (show Kept w _ (fun k_ => P0_ k_) from by repeat (first|(with_reducible first|exact HK.out|apply Kept.alloc|apply Kept.drewN|apply Kept.drew)|exact HK.out)).1) hk))));(case aO => exact (by (with_reducible repeat (first|apply Kd.R_alloc|apply Kd.R_drewN|apply Kd.R_drew));exact HO0.out));(case aS => exact (below_size (by repeat (first|(with_reducible first|exact HB.out|apply below_alloc|apply pw_below_drewN|apply below_drew1)|exact HB.out))));(case aL => have := LMc4.out;omega);intro v210 w5 ho hb hg hat;rw [← Ny209.out] at ho;have n0_ := Aside0.mk (hb);have n1_ := Aside0.mk (Kept.of_grown (S := (fun k_ => P0_ k_)) hg (by repeat (first|(with_reducible first|exact HK.out|apply Kept.alloc|apply Kept.drewN|apply Kept.drew)|exact HK.out)) (fun k_ e_ => (HO0.out.1 k_ e_)));have n2_ := Aside0.mk (ho);clear HB;clear HK;clear HO0;have HB := n0_;have HK := n1_;have HO211 := n2_;clear n0_ n1_ n2_;clear ho hb hg hat))
   go_ret
   exact ⟨_, by first|rfl|(simp [errW_none, errW_some] <;> rfl)|(simp [*, errW_none, errW_some] <;> rfl), by (with_reducible repeat (first|apply Kd.R_alloc|apply Kd.R_drewN|apply Kd.R_drew));exact HO211.out, by repeat (first|(with_reducible first|exact HB.out|apply below_alloc|apply pw_below_drewN|apply below_drew1)|exact HB.out), by repeat (first|(with_reducible first|exact HK.out|apply Kept.alloc|apply Kept.drewN|apply Kept.drew)|exact HK.out)⟩
  ·rw [if_neg c4] at H
   exact absurd H (by simp)
 ·rw [if_neg c3] at H
  have c3b0 : decide (((a1) % 4294967296) ≤ 127) = false := decide_eq_false c3
  clear c3
  replace H := Option.bind_eq_some_iff.mp H
  obtain ⟨t212, A60, H⟩ := H
  replace H : (some t212) = some r := H
  have A6 := Aside0.mk A60
  clear A60
  obtain rfl := Option.some.inj H
  obtain ⟨Ao7, co7, eo7⟩ := Kd.R_slice HO0.out
  subst eo7
  go_enter Tryd.func68, Tryd.ntmps68
  go_wp2_with (first|((with_reducible refine gate_callee (f := 79) rfl ?_);refine goesL_ (some 15) rfl rfl Tryd.func79 (by kernel_rfl) rfl #[.slice Ao7 l0.length co7, .int .i32 a1] rfl (by (try simp only [List.map_toArray, List.map_cons, List.map_nil]);first|done|rfl|(simp only [List.length_drop, List.length_take];rfl)) ?_;(with_reducible refine (utf8_appendRuneNonASCII.calls k (fun k_ => some k_ = (.slice Ao7 l0.length co7 : Value).ownBlock) (.slice Ao7 l0.length co7) l0 a1 t212 w0 _ ?side1 ?side2 A6.out).mono ?_);(case side1 => repeat (first|(with_reducible first|exact HB.out|apply below_alloc|apply pw_below_drewN|apply below_drew1)|exact HB.out));(case side2 => exact Kd.R_tight rfl HO0.out);rintro e w8 ⟨v213, rfl, ho0, hb, hkp⟩;refine ⟨_, rfl, ?_⟩;have n0_ := Aside0.mk (Kd.R_mono (ok' := fun k_ => (P0_ k_ ∨ w.heap.size ≤ k_)) ho0 (fun k_ hk_ => Or.elim hk_ (fun hs_ => (HO0.out.1 k_ (hs_).symm)) (fun hn_ => (.inr (Nat.le_trans (by first|exact HK.out.1|exact (show Kept w _ (fun k_ => P0_ k_) from by repeat (first|(with_reducible first|exact HK.out|apply Kept.alloc|apply Kept.drewN|apply Kept.drew)|exact HK.out)).1) hn_)))));have n1_ := Aside0.mk (Kept.then_ (S := (fun k_ => P0_ k_)) (by repeat (first|(with_reducible first|exact HK.out|apply Kept.alloc|apply Kept.drewN|apply Kept.drew)|exact HK.out)) hkp (fun k_ hs_ => (fun e_ => (HO0.out.1 k_ e_.symm)) hs_));have n2_ := Aside0.mk (hb);clear HK;clear HB;clear HO0;have HO214 := n0_;have HK := n1_;have HB := n2_;clear n0_ n1_ n2_;(try clear hb);(try clear hkp);(try clear ho0)))
  go_ret
  exact ⟨_, by first|rfl|(simp [errW_none, errW_some] <;> rfl)|(simp [*, errW_none, errW_some] <;> rfl), by (with_reducible repeat (first|apply Kd.R_alloc|apply Kd.R_drewN|apply Kd.R_drew));exact HO214.out, by repeat (first|(with_reducible first|exact HB.out|apply below_alloc|apply pw_below_drewN|apply below_drew1)|exact HB.out), by repeat (first|(with_reducible first|exact HK.out|apply Kept.alloc|apply Kept.drewN|apply Kept.drew)|exact HK.out)⟩
end Go.Proofs.YtefefpkgiecikaaDoor.P
namespace Go.Proofs.YtefefpkgiecikaaDoor.P
open Go.RowKit Go.Proofs.YtefefpkgiecikaaDoorW.PrintWords Go.Proofs.YtefefpkgiecikaaDoorW.PrintLast Go.Proofs.YtefefpkgiecikaaDoorW.PrintMore
attribute [local go_sem] max2_int min2_int max_two min_two max_three min_three max_four min_four
set_option linter.unusedVariables false
set_option linter.unusedSimpArgs false
def utf_Encode.l0 : Nat → List Int → List Int → Int → Int → Option (List Int × Int)
 | 0, _, _, _, _ => none
 | k + 1, x4, x7, x8, x9 => if x9 < x8 then (if 0 ≤ x9 then (if x9 < (x7.length : Int) then ((utf_Scalar.f k (rd x7 x9)).bind fun t216 => (if t216 = true then ((utf8_AppendRune.f k x4 (wrap32 (rd x7 x9))).bind fun t217 => (utf_Encode.l0 k t217 x7 x8 (wrap64 (x9 + 1)))) else (some (([] : List Int), 1)))) else (none)) else (none)) else (some (x4, 0))
def utf_Encode.f (k : Nat) (l0 : List Int) : Option (List Int × Int) := utf_Encode.l0 k ([] : List Int) l0 (l0.length : Int) 0
theorem utf_Encode.mono_l : ∀ k, (∀ y0 y1 y2 y3, LeO (utf_Encode.l0 k y0 y1 y2 y3) (utf_Encode.l0 (k + 1) y0 y1 y2 y3))
 | 0 => fun _ _ _ _ r h => by simp [utf_Encode.l0] at h
 | k + 1 => by
  have ih0 := utf_Encode.mono_l k
  ·intro y0 y1 y2 y3
   unfold utf_Encode.l0
   repeat' first
   | (with_reducible exact ih0 _ _ _ _)
   | (with_reducible exact utf8_AppendRune.mono _ _ _)
   | (with_reducible exact utf_Scalar.mono _ _)
   | (with_reducible exact LeO.refl _)
   | (with_reducible exact LeO.none _)
   | (with_reducible refine LeO.ite ?_ ?_)
   | (with_reducible refine LeO.bind ?_ (fun _ => ?_))
   | exact ih0 _ _ _ _
   | exact utf8_AppendRune.mono _ _ _
   | exact utf_Scalar.mono _ _
   | exact LeO.none _
   | refine LeO.ite ?_ ?_
   | refine LeO.bind ?_ (fun _ => ?_)
theorem utf_Encode.mono : ∀ a0 k, LeO (utf_Encode.f k a0) (utf_Encode.f (k + 1) a0) := by
 intro a0 k
 have ih0 := utf_Encode.mono_l k
 unfold utf_Encode.f
 repeat' first
   | (with_reducible exact ih0 _ _ _ _)
   | (with_reducible exact utf8_AppendRune.mono _ _ _)
   | (with_reducible exact utf_Scalar.mono _ _)
   | (with_reducible exact LeO.refl _)
   | (with_reducible exact LeO.none _)
   | (with_reducible refine LeO.ite ?_ ?_)
   | (with_reducible refine LeO.bind ?_ (fun _ => ?_))
   | exact ih0 _ _ _ _
   | exact utf8_AppendRune.mono _ _ _
   | exact utf_Scalar.mono _ _
   | exact LeO.none _
   | refine LeO.ite ?_ ?_
   | refine LeO.bind ?_ (fun _ => ?_)
set_option maxHeartbeats 8000000 in
set_option maxRecDepth 100000 in
theorem utf_Encode.calls (k : Nat) (A0 : Option Addr) (c0 : Nat) (l0 : List Int) (r1 : List Int) (r2 : Int) (w : World) (hr0 : Kd.C (Kd.int .i64) w A0 l0.length l0) (hc0 : l0.length ≤ c0) (h : utf_Encode.f k l0 = some (r1, r2)) :
  Calls Tryd.prog 55 #[.slice A0 l0.length c0] w fun e w' => ∃ v0_ : Value, e = .returned (.tuple #[v0_, .int .i64 r2]) ∧ Kd.R (Kd.int .u8) 5 w' w.heap.size (fun _ => True) v0_ r1 ∧ Below w.heap.size w w' := by
 have HR0 := Aside0.mk hr0
 have HC0 := Aside0.mk hc0
 clear hr0 hc0
 have HB := Aside0.mk (Below.refl w.heap.size w)
 have H : (utf_Encode.l0 k ([] : List Int) l0 (l0.length : Int) 0) = some (r1, r2) := h
 clear h
 have H' := Aside0.mk H
 clear H
 go_enter Tryd.func55, Tryd.ntmps55
 go_wp2
 go_loopg [4, 9] k (fun kq v4 v9 w' => ∃ (x4_1 : List Int) (x9_1 : Int), v9 = .int .i64 x9_1 ∧ Aside0 (utf_Encode.l0 kq x4_1 l0 (l0.length : Int) x9_1 = some (r1, r2)) ∧ Aside0 (kq ≤ k) ∧ Aside0 (Kd.R (Kd.int .u8) 5 w' w.heap.size (fun _ => True) v4 x4_1) ∧ Aside0 (Below w.heap.size w w'))
 case atStart => exact ⟨(([] : List Int)), (0), (by first|rfl|(simp;done)|(simp [*];done)), H', ⟨Nat.le_refl _⟩, ⟨by first|exact Kd.R_nil _ _ _ _ _|exact Kd.N_nil _ _ _ _ _|exact Kd.V_nil _ _ _ _ _|exact Kd.Q_nil _ _ _ _ _|exact Kd.S_nil _ _ _ _ _⟩, ⟨by repeat (first|(with_reducible first|exact HB.out|apply below_alloc|apply pw_below_drewN|apply below_drew1)|exact HB.out)⟩⟩
 case round =>
  clear H'
  obtain ⟨x4_1, x9_1, rfl, HA, HK1, HO_4, HB⟩ := hrel
  cases gk with
  | zero => exact absurd HA.out (by simp [utf_Encode.l0])
  | succ k1 =>
   have H := HA.out
   clear HA
   simp only [utf_Encode.l0] at H
   by_cases c2 : x9_1 < (l0.length : Int)
   ·rw [if_pos c2] at H
    have c2b0 : decide (x9_1 < (l0.length : Int)) = true := decide_eq_true c2
    clear c2
    by_cases c3 : 0 ≤ x9_1
    ·rw [if_pos c3] at H
     have c3b0 : decide (0 ≤ x9_1) = true := decide_eq_true c3
     clear c3
     by_cases c4 : x9_1 < (l0.length : Int)
     ·rw [if_pos c4] at H
      have c4b0 : decide (x9_1 < (l0.length : Int)) = true := decide_eq_true c4
      clear c4
      replace H := Option.bind_eq_some_iff.mp H
      obtain ⟨t216, A50, H⟩ := H
      replace H : (if t216 = true then ((utf8_AppendRune.f k1 x4_1 (wrap32 (rd l0 x9_1))).bind fun t217 => (utf_Encode.l0 k1 t217 l0 (l0.length : Int) (wrap64 (x9_1 + 1)))) else (some (([] : List Int), 1))) = some (r1, r2) := H
      have A5 := Aside0.mk A50
      clear A50
      by_cases c6 : t216 = true
      ·subst c6
       have H1 : ((utf8_AppendRune.f k1 x4_1 (wrap32 (rd l0 x9_1))).bind fun t217 => (utf_Encode.l0 k1 t217 l0 (l0.length : Int) (wrap64 (x9_1 + 1)))) = some (r1, r2) := by rw [if_pos rfl] at H; exact H
       clear H
       have H := H1
       clear H1
       replace H := Option.bind_eq_some_iff.mp H
       obtain ⟨t217, A70, H⟩ := H
       replace H : (utf_Encode.l0 k1 t217 l0 (l0.length : Int) (wrap64 (x9_1 + 1))) = some (r1, r2) := H
       have A7 := Aside0.mk A70
       clear A70
       have H' := Aside0.mk H
       clear H
       have p215 : 0 ≤ (x9_1 : Int) := of_decide_eq_true (by first | (with_reducible assumption) | assumption)
       have q215 : x9_1 < (l0.length : Int) := of_decide_eq_true (by first | (with_reducible assumption) | assumption)
       obtain ⟨ad215, e215, hx215_0⟩ := Kd.at_int HR0.out x9_1 p215 q215
       cases e215
       replace hx215_0 := (HB.out.cell (World.block_lt_of_cell? w _ hx215_0)).trans hx215_0
       replace p215 := eq_true p215
       replace q215 := eq_true q215
       go_wp2_with (first|((with_reducible refine gate_callee (f := 11) rfl ?_);refine goesL_ (some 14) rfl rfl Tryd.func11 (by kernel_rfl) rfl #[.int .i64 (rd l0 x9_1)] rfl (by (try simp only [List.map_toArray, List.map_cons, List.map_nil]);first|done|rfl|(simp only [List.length_drop, List.length_take];rfl)) ?_;(with_reducible refine (utf_Scalar.calls k1 (rd l0 x9_1) true _ A5.out).mono ?_);rintro e w' ⟨rfl, ⟨nd, rfl⟩⟩;refine ⟨_, rfl, ?_⟩;obtain ⟨Ao8, co8, eo8⟩ := Kd.R_slice HO_4.out;subst eo8)|((with_reducible refine gate_callee (f := 68) rfl ?_);refine goesL_ (some 19) rfl rfl Tryd.func68 (by kernel_rfl) rfl #[.slice Ao8 x4_1.length co8, .int .i32 (wrap32 (rd l0 x9_1))] rfl (by (try simp only [List.map_toArray, List.map_cons, List.map_nil]);first|done|rfl|(simp only [List.length_drop, List.length_take];rfl)) ?_;(with_reducible refine (utf8_AppendRune.calls k1 (fun k_ => some k_ = (.slice Ao8 x4_1.length co8 : Value).ownBlock) (.slice Ao8 x4_1.length co8) x4_1 (wrap32 (rd l0 x9_1)) t217 w _ ?side1 ?side2 A7.out).mono ?_);(case side1 => repeat (first|(with_reducible first|exact HB.out|apply below_alloc|apply pw_below_drewN|apply below_drew1)|exact HB.out));(case side2 => exact Kd.R_tight rfl HO_4.out);rintro e w9 ⟨v218, rfl, ho0, hb, hkp⟩;refine ⟨_, rfl, ?_⟩;have n0_ := Aside0.mk (Kd.R_mono (ok' := fun k_ => True) ho0 (fun k_ hk_ => trivial));have n1_ := Aside0.mk (hb);clear HB;clear HO_4;have HO219 := n0_;have HB := n1_;clear n0_ n1_;(try clear hb);(try clear hkp);(try clear ho0)))
       go_roundg k1
       case measure => have := HK1.out; omega
       case rel => exact ⟨(t217), (wrap64 (x9_1 + 1)), (by first|rfl|(simp;done)|(simp [*];done)), H', ⟨by have := HK1.out;omega⟩, ⟨by (with_reducible repeat (first|apply Kd.R_alloc|apply Kd.R_drewN|apply Kd.R_drew));exact HO219.out⟩, ⟨by repeat (first|(with_reducible first|exact HB.out|apply below_alloc|apply pw_below_drewN|apply below_drew1)|exact HB.out)⟩⟩
      ·replace c6 := Bool.eq_false_iff.mpr c6
       subst c6
       have H1 : (some (([] : List Int), 1)) = some (r1, r2) := by rw [if_neg (show ¬ (false = true) by decide)] at H; exact H
       clear H
       have H := H1
       clear H1
       simp only [Option.some.injEq, Prod.mk.injEq] at H
       obtain ⟨rfl, rfl⟩ := H
       have p215 : 0 ≤ (x9_1 : Int) := of_decide_eq_true (by first | (with_reducible assumption) | assumption)
       have q215 : x9_1 < (l0.length : Int) := of_decide_eq_true (by first | (with_reducible assumption) | assumption)
       obtain ⟨ad215, e215, hx215_0⟩ := Kd.at_int HR0.out x9_1 p215 q215
       cases e215
       replace hx215_0 := (HB.out.cell (World.block_lt_of_cell? w _ hx215_0)).trans hx215_0
       replace p215 := eq_true p215
       replace q215 := eq_true q215
       go_wp2_with (first|((with_reducible refine gate_callee (f := 11) rfl ?_);refine goesL_ (some 14) rfl rfl Tryd.func11 (by kernel_rfl) rfl #[.int .i64 (rd l0 x9_1)] rfl (by (try simp only [List.map_toArray, List.map_cons, List.map_nil]);first|done|rfl|(simp only [List.length_drop, List.length_take];rfl)) ?_;(with_reducible refine (utf_Scalar.calls k1 (rd l0 x9_1) false _ A5.out).mono ?_);rintro e w' ⟨rfl, ⟨nd, rfl⟩⟩;refine ⟨_, rfl, ?_⟩))
       go_ret2
       exact ⟨_, by first|rfl|(simp [errW_none, errW_some] <;> rfl)|(simp [*, errW_none, errW_some] <;> rfl), by first|exact Kd.R_nil _ _ _ _ _|exact Kd.N_nil _ _ _ _ _|exact Kd.V_nil _ _ _ _ _|exact Kd.Q_nil _ _ _ _ _|exact Kd.S_nil _ _ _ _ _, by repeat (first|(with_reducible first|exact HB.out|apply below_alloc|apply pw_below_drewN|apply below_drew1)|exact HB.out)⟩
     ·rw [if_neg c4] at H
      exact absurd H (by simp)
    ·rw [if_neg c3] at H
     exact absurd H (by simp)
   ·rw [if_neg c2] at H
    have c2b0 : decide (x9_1 < (l0.length : Int)) = false := decide_eq_false c2
    clear c2
    simp only [Option.some.injEq, Prod.mk.injEq] at H
    obtain ⟨rfl, rfl⟩ := H
    go_wp2
    go_ret2
    exact ⟨_, by first|rfl|(simp [errW_none, errW_some] <;> rfl)|(simp [*, errW_none, errW_some] <;> rfl), by (with_reducible repeat (first|apply Kd.R_alloc|apply Kd.R_drewN|apply Kd.R_drew));exact HO_4.out, by repeat (first|(with_reducible first|exact HB.out|apply below_alloc|apply pw_below_drewN|apply below_drew1)|exact HB.out)⟩
end Go.Proofs.YtefefpkgiecikaaDoor.P
namespace Go.Proofs.YtefefpkgiecikaaDoor.P
open Go.RowKit Go.Proofs.YtefefpkgiecikaaDoorW.PrintWords Go.Proofs.YtefefpkgiecikaaDoorW.PrintLast Go.Proofs.YtefefpkgiecikaaDoorW.PrintMore
attribute [local go_sem] max2_int min2_int max_two min_two max_three min_three max_four min_four
set_option linter.unusedVariables false
set_option linter.unusedSimpArgs false
def stringslite_CutPrefix.f (a0 : ByteArray) (a1 : ByteArray) : Option (ByteArray × Bool) := (stringslite_HasPrefix.f a0 a1).bind fun t220 => (if t220 = true then (if 0 ≤ (a1.size : Int) then (if (a1.size : Int) ≤ (a0.size : Int) then (some (a0.extract ((a1.size : Int) : Int).toNat a0.size, true)) else (none)) else (none)) else (some (a0, false)))
set_option maxHeartbeats 8000000 in
set_option maxRecDepth 100000 in
theorem stringslite_CutPrefix.calls (a0 : ByteArray) (a1 : ByteArray) (r1 : ByteArray) (r2 : Bool) (w : World) (h : stringslite_CutPrefix.f a0 a1 = some (r1, r2)) :
  Calls Tryd.prog 80 #[.string a0, .string a1] w fun e w' => e = .returned (.tuple #[.string r1, .bool r2]) ∧ Drawn0 w w' := by
 have H : ((stringslite_HasPrefix.f a0 a1).bind fun t220 => (if t220 = true then (if 0 ≤ (a1.size : Int) then (if (a1.size : Int) ≤ (a0.size : Int) then (some (a0.extract ((a1.size : Int) : Int).toNat a0.size, true)) else (none)) else (none)) else (some (a0, false)))) = some (r1, r2) := h
 clear h
 replace H := Option.bind_eq_some_iff.mp H
 obtain ⟨t220, A30, H⟩ := H
 replace H : (if t220 = true then (if 0 ≤ (a1.size : Int) then (if (a1.size : Int) ≤ (a0.size : Int) then (some (a0.extract ((a1.size : Int) : Int).toNat a0.size, true)) else (none)) else (none)) else (some (a0, false))) = some (r1, r2) := H
 have A3 := Aside0.mk A30
 clear A30
 by_cases c4 : t220 = true
 ·subst c4
  have H1 : (if 0 ≤ (a1.size : Int) then (if (a1.size : Int) ≤ (a0.size : Int) then (some (a0.extract ((a1.size : Int) : Int).toNat a0.size, true)) else (none)) else (none)) = some (r1, r2) := by rw [if_pos rfl] at H; exact H
  clear H
  have H := H1
  clear H1
  by_cases c5 : 0 ≤ (a1.size : Int)
  ·rw [if_pos c5] at H
   have c5b0 := eq_true c5
   have c5b1 : decide (0 ≤ (a1.size : Int)) = true := decide_eq_true c5
   clear c5
   by_cases c6 : (a1.size : Int) ≤ (a0.size : Int)
   ·rw [if_pos c6] at H
    have c6b0 := eq_true c6
    have c6b1 : decide ((a1.size : Int) ≤ (a0.size : Int)) = true := decide_eq_true c6
    clear c6
    simp only [Option.some.injEq, Prod.mk.injEq] at H
    obtain ⟨rfl, rfl⟩ := H
    go_enter Tryd.func80, Tryd.ntmps80
    go_wp2_with (first|((with_reducible refine gate_callee (f := 34) rfl ?_);refine goesL_ (some 8) rfl rfl Tryd.func34 (by kernel_rfl) rfl #[.string a0, .string a1] rfl (by (try simp only [List.map_toArray, List.map_cons, List.map_nil]);first|done|rfl|(simp only [List.length_drop, List.length_take];rfl)) ?_;(with_reducible refine (stringslite_HasPrefix.calls a0 a1 true _ A3.out).mono ?_);rintro e w' ⟨rfl, ⟨nd, rfl⟩⟩;refine ⟨_, rfl, ?_⟩))
    go_ret2
    exact ⟨by first|rfl|(simp;done)|(simp [*];done), by repeat (first|exact Drawn0.refl _|apply Drawn0.step)⟩
   ·rw [if_neg c6] at H
    exact absurd H (by simp)
  ·rw [if_neg c5] at H
   exact absurd H (by simp)
 ·replace c4 := Bool.eq_false_iff.mpr c4
  subst c4
  have H1 : (some (a0, false)) = some (r1, r2) := by rw [if_neg (show ¬ (false = true) by decide)] at H; exact H
  clear H
  have H := H1
  clear H1
  simp only [Option.some.injEq, Prod.mk.injEq] at H
  obtain ⟨rfl, rfl⟩ := H
  go_enter Tryd.func80, Tryd.ntmps80
  go_wp2_with (first|((with_reducible refine gate_callee (f := 34) rfl ?_);refine goesL_ (some 8) rfl rfl Tryd.func34 (by kernel_rfl) rfl #[.string a0, .string a1] rfl (by (try simp only [List.map_toArray, List.map_cons, List.map_nil]);first|done|rfl|(simp only [List.length_drop, List.length_take];rfl)) ?_;(with_reducible refine (stringslite_HasPrefix.calls a0 a1 false _ A3.out).mono ?_);rintro e w' ⟨rfl, ⟨nd, rfl⟩⟩;refine ⟨_, rfl, ?_⟩))
  go_ret2
  exact ⟨by first|rfl|(simp;done)|(simp [*];done), by repeat (first|exact Drawn0.refl _|apply Drawn0.step)⟩
end Go.Proofs.YtefefpkgiecikaaDoor.P
namespace Go.Proofs.YtefefpkgiecikaaDoor.P
open Go.RowKit Go.Proofs.YtefefpkgiecikaaDoorW.PrintWords Go.Proofs.YtefefpkgiecikaaDoorW.PrintLast Go.Proofs.YtefefpkgiecikaaDoorW.PrintMore
attribute [local go_sem] max2_int min2_int max_two min_two max_three min_three max_four min_four
set_option linter.unusedVariables false
set_option linter.unusedSimpArgs false
def strings_CutPrefix.f (a0 : ByteArray) (a1 : ByteArray) : Option (ByteArray × Bool) := (stringslite_CutPrefix.f a0 a1).bind fun bt221 => (some (bt221.1, bt221.2))
set_option maxHeartbeats 8000000 in
set_option maxRecDepth 100000 in
theorem strings_CutPrefix.calls (a0 : ByteArray) (a1 : ByteArray) (r1 : ByteArray) (r2 : Bool) (w : World) (h : strings_CutPrefix.f a0 a1 = some (r1, r2)) :
  Calls Tryd.prog 70 #[.string a0, .string a1] w fun e w' => e = .returned (.tuple #[.string r1, .bool r2]) ∧ Drawn0 w w' := by
 have H : ((stringslite_CutPrefix.f a0 a1).bind fun bt221 => (some (bt221.1, bt221.2))) = some (r1, r2) := h
 clear h
 replace H := Option.bind_eq_some_iff.mp H
 obtain ⟨⟨t221, t222⟩, A30, H⟩ := H
 replace H : (some (t221, t222)) = some (r1, r2) := H
 have A3 := Aside0.mk A30
 clear A30
 simp only [Option.some.injEq, Prod.mk.injEq] at H
 obtain ⟨rfl, rfl⟩ := H
 go_enter Tryd.func70, Tryd.ntmps70
 go_wp2_with (first|((with_reducible refine gate_callee (f := 80) rfl ?_);refine goesL_ (some 8) rfl rfl Tryd.func80 (by kernel_rfl) rfl #[.string a0, .string a1] rfl (by (try simp only [List.map_toArray, List.map_cons, List.map_nil]);first|done|rfl|(simp only [List.length_drop, List.length_take];rfl)) ?_;(with_reducible refine (stringslite_CutPrefix.calls a0 a1 t221 t222 _ A3.out).mono ?_);rintro e w' ⟨rfl, ⟨nd, rfl⟩⟩;refine ⟨_, rfl, ?_⟩))
 go_ret2
 exact ⟨by first|rfl|(simp;done)|(simp [*];done), by repeat (first|exact Drawn0.refl _|apply Drawn0.step)⟩
end Go.Proofs.YtefefpkgiecikaaDoor.P
namespace Go.Proofs.YtefefpkgiecikaaDoor.P
open Go.RowKit Go.Proofs.YtefefpkgiecikaaDoorW.PrintWords Go.Proofs.YtefefpkgiecikaaDoorW.PrintLast Go.Proofs.YtefefpkgiecikaaDoorW.PrintMore
attribute [local go_sem] max2_int min2_int max_two min_two max_three min_three max_four min_four
set_option linter.unusedVariables false
set_option linter.unusedSimpArgs false
mutual
def utf_Named.l0 : Nat → ByteArray → Int → Option (Int × Bool)
 | 0, _, _ => none
 | k + 1, x0, x13 => if x13 < 6 then (if 0 ≤ x13 then (if (utf_names_1 x13).toList = x0.toList then (some (utf_names_0 x13, true)) else (utf_Named.l0 k x0 (wrap64 (x13 + 1)))) else (none)) else ((utf8_DecodeRuneInString.f x0).bind fun bt224 => (if bt224.2 = (x0.size : Int) then (if bt224.2 > 0 then (if bt224.1 = 65533 then (utf_Named.j1 k x0 bt224.1 (decide (bt224.2 > 1))) else (utf_Named.j1 k x0 bt224.1 true)) else (utf_Named.j1 k x0 bt224.1 false)) else (utf_Named.j1 k x0 bt224.1 false)))
def utf_Named.j1 : Nat → ByteArray → Int → Bool → Option (Int × Bool)
 | 0, _, _, _ => none
 | k + 1, x0, x6, x43 => if x43 = true then (some (wrap64 (x6), true)) else ((strings_CutPrefix.f x0 (⟨#[120]⟩ : ByteArray)).bind fun bt226 => (if bt226.2 = true then (if (bt226.1.size : Int) > 6 then (utf_Named.j2 k bt226.1 true) else ((strings_Trim.f bt226.1 (⟨#[48, 49, 50, 51, 52, 53, 54, 55, 56, 57, 97, 98, 99, 100, 101, 102, 65, 66, 67, 68, 69, 70]⟩ : ByteArray)).bind fun t228 => (utf_Named.j2 k bt226.1 (!t228.toList.isEmpty)))) else (utf_Named.j2 k bt226.1 true)))
def utf_Named.j2 : Nat → ByteArray → Bool → Option (Int × Bool)
 | 0, _, _ => none
 | k + 1, x8, x62 => if x62 = true then (some (0, false)) else ((strconv_ParseUint.f x8 16 32).bind fun bt229 => (if bt229.2.isNone = true then ((utf_Scalar.f k (wrap64 (bt229.1))).bind fun t232 => (if t232 = true then (some (wrap64 (bt229.1), true)) else (some (0, false)))) else (some (0, false))))
end
def utf_Named.f (k : Nat) (a0 : ByteArray) : Option (Int × Bool) := utf_Named.l0 k a0 0
theorem utf_Named.mono_l : ∀ k, (∀ y0 y1, LeO (utf_Named.l0 k y0 y1) (utf_Named.l0 (k + 1) y0 y1)) ∧ (∀ y0 y1 y2, LeO (utf_Named.j1 k y0 y1 y2) (utf_Named.j1 (k + 1) y0 y1 y2)) ∧ (∀ y0 y1, LeO (utf_Named.j2 k y0 y1) (utf_Named.j2 (k + 1) y0 y1))
 | 0 => ⟨fun _ _ r h => by simp [utf_Named.l0] at h, fun _ _ _ r h => by simp [utf_Named.j1] at h, fun _ _ r h => by simp [utf_Named.j2] at h⟩
 | k + 1 => by
  obtain ⟨ih0, ih1, ih2⟩ := utf_Named.mono_l k
  refine ⟨?_, ?_, ?_⟩
  ·intro y0 y1
   unfold utf_Named.l0
   repeat' first
   | (with_reducible exact ih0 _ _)
   | (with_reducible exact ih1 _ _ _)
   | (with_reducible exact ih2 _ _)
   | (with_reducible exact utf_Scalar.mono _ _)
   | (with_reducible exact LeO.refl _)
   | (with_reducible exact LeO.none _)
   | (with_reducible refine LeO.ite ?_ ?_)
   | (with_reducible refine LeO.bind ?_ (fun _ => ?_))
   | exact ih0 _ _
   | exact ih1 _ _ _
   | exact ih2 _ _
   | exact utf_Scalar.mono _ _
   | exact LeO.none _
   | refine LeO.ite ?_ ?_
   | refine LeO.bind ?_ (fun _ => ?_)
  ·intro y0 y1 y2
   unfold utf_Named.j1
   repeat' first
   | (with_reducible exact ih0 _ _)
   | (with_reducible exact ih1 _ _ _)
   | (with_reducible exact ih2 _ _)
   | (with_reducible exact utf_Scalar.mono _ _)
   | (with_reducible exact LeO.refl _)
   | (with_reducible exact LeO.none _)
   | (with_reducible refine LeO.ite ?_ ?_)
   | (with_reducible refine LeO.bind ?_ (fun _ => ?_))
   | exact ih0 _ _
   | exact ih1 _ _ _
   | exact ih2 _ _
   | exact utf_Scalar.mono _ _
   | exact LeO.none _
   | refine LeO.ite ?_ ?_
   | refine LeO.bind ?_ (fun _ => ?_)
  ·intro y0 y1
   unfold utf_Named.j2
   repeat' first
   | (with_reducible exact ih0 _ _)
   | (with_reducible exact ih1 _ _ _)
   | (with_reducible exact ih2 _ _)
   | (with_reducible exact utf_Scalar.mono _ _)
   | (with_reducible exact LeO.refl _)
   | (with_reducible exact LeO.none _)
   | (with_reducible refine LeO.ite ?_ ?_)
   | (with_reducible refine LeO.bind ?_ (fun _ => ?_))
   | exact ih0 _ _
   | exact ih1 _ _ _
   | exact ih2 _ _
   | exact utf_Scalar.mono _ _
   | exact LeO.none _
   | refine LeO.ite ?_ ?_
   | refine LeO.bind ?_ (fun _ => ?_)
theorem utf_Named.mono : ∀ a0 k, LeO (utf_Named.f k a0) (utf_Named.f (k + 1) a0) := by
 intro a0 k
 obtain ⟨ih0, ih1, ih2⟩ := utf_Named.mono_l k
 unfold utf_Named.f
 repeat' first
   | (with_reducible exact ih0 _ _)
   | (with_reducible exact ih1 _ _ _)
   | (with_reducible exact ih2 _ _)
   | (with_reducible exact utf_Scalar.mono _ _)
   | (with_reducible exact LeO.refl _)
   | (with_reducible exact LeO.none _)
   | (with_reducible refine LeO.ite ?_ ?_)
   | (with_reducible refine LeO.bind ?_ (fun _ => ?_))
   | exact ih0 _ _
   | exact ih1 _ _ _
   | exact ih2 _ _
   | exact utf_Scalar.mono _ _
   | exact LeO.none _
   | refine LeO.ite ?_ ?_
   | refine LeO.bind ?_ (fun _ => ?_)
set_option maxHeartbeats 8000000 in
set_option maxRecDepth 100000 in
theorem utf_Named.calls (k : Nat) (a0 : ByteArray) (r1 : Int) (r2 : Bool) (w : World) (hLD : LD w) (h : utf_Named.f k a0 = some (r1, r2)) :
  Calls Tryd.prog 57 #[.string a0] w fun e w' => e = .returned (.tuple #[.int .i64 r1, .bool r2]) ∧ Below w.heap.size w w' := by
 have hu115 := Tryd.underlying115
 have hu70 := Tryd.underlying70
 have HLD := Aside0.mk hLD
 clear hLD
 have HB := Aside0.mk (Below.refl w.heap.size w)
 have H : (utf_Named.l0 k a0 0) = some (r1, r2) := h
 clear h
 have H' := Aside0.mk H
 clear H
 go_enter Tryd.func57, Tryd.ntmps57
 go_wp2_with (first|((with_reducible refine gate_dst (N := 12) rfl ?_);(try (refine gate_guard (by rfl) ?_;dsimp only));refine LD.load_utf_names (LD.below HLD.out (by repeat (first|(with_reducible first|exact HB.out|apply below_alloc|apply pw_below_drewN|apply below_drew1)|exact HB.out))) rfl rfl ?_))
 go_loopg [13] k (fun kq v13 w' => ∃ (x13_1 : Int), v13 = .int .i64 x13_1 ∧ Aside0 (utf_Named.l0 kq a0 x13_1 = some (r1, r2)) ∧ Aside0 (kq ≤ k) ∧ Aside0 (Below w.heap.size w w'))
 case atStart => exact ⟨(0), (by first|rfl|(simp;done)|(simp [*];done)), H', ⟨Nat.le_refl _⟩, ⟨by repeat (first|(with_reducible first|exact HB.out|apply below_alloc|apply pw_below_drewN|apply below_drew1)|exact HB.out)⟩⟩
 case round =>
  clear H'
  obtain ⟨x13_1, rfl, HA, HK1, HB⟩ := hrel
  cases gk with
  | zero => exact absurd HA.out (by simp [utf_Named.l0])
  | succ k1 =>
   have H := HA.out
   clear HA
   simp only [utf_Named.l0] at H
   by_cases c2 : x13_1 < 6
   ·rw [if_pos c2] at H
    have c2b0 : decide (x13_1 < 6) = true := decide_eq_true c2
    clear c2
    by_cases c3 : 0 ≤ x13_1
    ·rw [if_pos c3] at H
     have c3b0 : decide (0 ≤ x13_1) = true := decide_eq_true c3
     clear c3
     by_cases c4 : (utf_names_1 x13_1).toList = a0.toList
     ·rw [if_pos c4] at H
      have c4b0 : ((utf_names_1 x13_1).toList == a0.toList) = true := beq_iff_eq.mpr c4
      have c4b1 : ((utf_names_1 x13_1).toList != a0.toList) = false := bne_eq_false_iff_eq.mpr c4
      clear c4
      simp only [Option.some.injEq, Prod.mk.injEq] at H
      obtain ⟨rfl, rfl⟩ := H
      have hgi5 := utf_names_at x13_1 (of_decide_eq_true (by first | (with_reducible assumption) | assumption)) (of_decide_eq_true (by first | (with_reducible assumption) | assumption))
      go_wp2_with (first|((with_reducible refine gate_dst (N := 5) rfl ?_);(try (refine gate_guard (by rfl) ?_;dsimp only));refine box_event ?hg (N := 5) ?hd (cs := #[.int .i64 0, .string (⟨#[]⟩ : ByteArray)]) (t := 115) ?hr ?_;(case hd => rfl);(case hg => rfl);(case hr => first|(go_simp;done)|(go_simp;rfl));intro gb223 hg w6 hbox hb;have n0_ := Aside0.mk (below_step (by repeat (first|(with_reducible first|exact HB.out|apply below_alloc|apply pw_below_drewN|apply below_drew1)|exact HB.out)) hb);have n1_ := Aside0.mk (hbox);have n2_ := Aside0.mk ((by rw [hg];exact (below_size (by repeat (first|(with_reducible first|exact HB.out|apply below_alloc|apply pw_below_drewN|apply below_drew1)|exact HB.out))) : w.heap.size ≤ gb223));have n3_ := Aside0.mk ((by rw [hg];exact (below_size (by repeat (first|(with_reducible first|exact HB.out|apply below_alloc|apply pw_below_drewN|apply below_drew1)|exact HB.out))) : w.heap.size ≤ gb223));clear HB;have HB := n0_;have BK223 := n1_;have GW223 := n2_;have GE223 := n3_;clear n0_ n1_ n2_ n3_;clear hb hbox hg;have hcz7_0 : w6.cell? ⟨gb223, 0, none⟩ = some (.int .i64 0) := (blk_cell BK223.out 0).trans rfl;have hcz7_1 : w6.cell? ⟨gb223, 1, none⟩ = some (.string (⟨#[]⟩ : ByteArray)) := (blk_cell BK223.out 1).trans rfl;have hfz7_0 := blk_frozen BK223.out 0;have hfz7_1 := blk_frozen BK223.out 1))
      go_ret2
      exact ⟨by first|rfl|(simp [errW_none, errW_some] <;> rfl)|(simp [*, errW_none, errW_some] <;> rfl), by repeat (first|(with_reducible first|exact HB.out|apply below_alloc|apply pw_below_drewN|apply below_drew1|refine below_set ?_ GE223.out)|exact HB.out)⟩
     ·rw [if_neg c4] at H
      have c4b0 : ((utf_names_1 x13_1).toList == a0.toList) = false := beq_eq_false_iff_ne.mpr c4
      have c4b1 : ((utf_names_1 x13_1).toList != a0.toList) = true := bne_iff_ne.mpr c4
      have H' := Aside0.mk H
      clear H
      have hgi8 := utf_names_at x13_1 (of_decide_eq_true (by first | (with_reducible assumption) | assumption)) (of_decide_eq_true (by first | (with_reducible assumption) | assumption))
      go_wp2_with (first|((with_reducible refine gate_dst (N := 5) rfl ?_);(try (refine gate_guard (by rfl) ?_;dsimp only));refine box_event ?hg (N := 5) ?hd (cs := #[.int .i64 0, .string (⟨#[]⟩ : ByteArray)]) (t := 115) ?hr ?_;(case hd => rfl);(case hg => rfl);(case hr => first|(go_simp;done)|(go_simp;rfl));intro gb223 hg w9 hbox hb;have n0_ := Aside0.mk (below_step (by repeat (first|(with_reducible first|exact HB.out|apply below_alloc|apply pw_below_drewN|apply below_drew1)|exact HB.out)) hb);have n1_ := Aside0.mk (hbox);have n2_ := Aside0.mk ((by rw [hg];exact (below_size (by repeat (first|(with_reducible first|exact HB.out|apply below_alloc|apply pw_below_drewN|apply below_drew1)|exact HB.out))) : w.heap.size ≤ gb223));have n3_ := Aside0.mk ((by rw [hg];exact (below_size (by repeat (first|(with_reducible first|exact HB.out|apply below_alloc|apply pw_below_drewN|apply below_drew1)|exact HB.out))) : w.heap.size ≤ gb223));clear HB;have HB := n0_;have BK223 := n1_;have GW223 := n2_;have GE223 := n3_;clear n0_ n1_ n2_ n3_;clear hb hbox hg;have hcz10_0 : w9.cell? ⟨gb223, 0, none⟩ = some (.int .i64 0) := (blk_cell BK223.out 0).trans rfl;have hcz10_1 : w9.cell? ⟨gb223, 1, none⟩ = some (.string (⟨#[]⟩ : ByteArray)) := (blk_cell BK223.out 1).trans rfl;have hfz10_0 := blk_frozen BK223.out 0;have hfz10_1 := blk_frozen BK223.out 1))
      go_roundg k1
      case measure => have := HK1.out; omega
      case rel => exact ⟨(wrap64 (x13_1 + 1)), (by first|rfl|(simp;done)|(simp [*];done)), H', ⟨by have := HK1.out;omega⟩, ⟨by repeat (first|(with_reducible first|exact HB.out|apply below_alloc|apply pw_below_drewN|apply below_drew1|refine below_set ?_ GE223.out)|exact HB.out)⟩⟩
    ·rw [if_neg c3] at H
     exact absurd H (by simp)
   ·rw [if_neg c2] at H
    have c2b0 : decide (x13_1 < 6) = false := decide_eq_false c2
    clear c2
    replace H := Option.bind_eq_some_iff.mp H
    obtain ⟨⟨t224, t225⟩, A110, H⟩ := H
    replace H : (if t225 = (a0.size : Int) then (if t225 > 0 then (if t224 = 65533 then (utf_Named.j1 k1 a0 t224 (decide (t225 > 1))) else (utf_Named.j1 k1 a0 t224 true)) else (utf_Named.j1 k1 a0 t224 false)) else (utf_Named.j1 k1 a0 t224 false)) = some (r1, r2) := H
    have A11 := Aside0.mk A110
    clear A110
    have HC12 := Aside0.mk H
    clear H
    go_upto_region 8 with (first|((with_reducible refine gate_callee (f := 59) rfl ?_);refine goesL_ (some 25) rfl rfl Tryd.func59 (by kernel_rfl) rfl #[.string a0] rfl (by (try simp only [List.map_toArray, List.map_cons, List.map_nil]);first|done|rfl|(simp only [List.length_drop, List.length_take];rfl)) ?_;(with_reducible refine (utf8_DecodeRuneInString.calls a0 t224 t225 _ ?side1 A11.out).mono ?_);(case side1 => exact LD.below HLD.out (by repeat (first|(with_reducible first|exact HB.out|apply below_alloc|apply pw_below_drewN|apply below_drew1)|exact HB.out)));rintro e w13 ⟨rfl, hb⟩;refine ⟨_, rfl, ?_⟩;have n0_ := Aside0.mk (below_step (by repeat (first|(with_reducible first|exact HB.out|apply below_alloc|apply pw_below_drewN|apply below_drew1)|exact HB.out)) hb);clear HB;have HB := n0_;clear n0_;(try clear hb);(try clear hb2);(try clear hk);(try clear hi)))
    (try simp only [Act.put, List.setIfInBounds_toArray, List.set_cons_zero, List.set_cons_succ])
    go_cut [43] (fun v43 wc => ∃ (kq : Nat) (x43_11 : Bool), v43 = .bool x43_11 ∧ Aside0 (utf_Named.j1 kq a0 t224 x43_11 = some (r1, r2)) ∧ Aside0 (kq ≤ k1) ∧ Aside0 (Below w.heap.size w wc))
    case first =>
     have H := HC12.out
     clear HC12
     by_cases c14 : t225 = (a0.size : Int)
     ·rw [if_pos c14] at H
      have c14b0 : (t225 == (a0.size : Int)) = true := beq_iff_eq.mpr c14
      have c14b1 : (t225 != (a0.size : Int)) = false := bne_eq_false_iff_eq.mpr c14
      clear c14
      (first|rw [c14b0]|(simp only [i64_w, i32_w];rw [c14b0])|skip)
      by_cases c15 : t225 > 0
      ·rw [if_pos c15] at H
       have c15b0 : decide (0 < t225) = true := decide_eq_true c15
       clear c15
       by_cases c16 : t224 = 65533
       ·rw [if_pos c16] at H
        have c16b0 : (t224 == 65533) = true := beq_iff_eq.mpr c16
        have c16b1 : (t224 != 65533) = false := bne_eq_false_iff_eq.mpr c16
        clear c16
        have H' := Aside0.mk H
        clear H
        go_wp2
        go_meet
        case rel => exact ⟨_, (decide (t225 > 1)), (by first|rfl|(simp;done)|(simp [*];done)), H', ⟨by have := HK1.out;first|omega|exact Nat.le_refl _⟩, ⟨by repeat (first|(with_reducible first|exact HB.out|apply below_alloc|apply pw_below_drewN|apply below_drew1)|exact HB.out)⟩⟩
       ·rw [if_neg c16] at H
        have c16b0 : (t224 == 65533) = false := beq_eq_false_iff_ne.mpr c16
        have c16b1 : (t224 != 65533) = true := bne_iff_ne.mpr c16
        have H' := Aside0.mk H
        clear H
        go_wp2
        go_meet
        case rel => exact ⟨_, (true), (by first|rfl|(simp;done)|(simp [*];done)), H', ⟨by have := HK1.out;first|omega|exact Nat.le_refl _⟩, ⟨by repeat (first|(with_reducible first|exact HB.out|apply below_alloc|apply pw_below_drewN|apply below_drew1)|exact HB.out)⟩⟩
      ·rw [if_neg c15] at H
       have c15b0 : decide (0 < t225) = false := decide_eq_false c15
       clear c15
       have H' := Aside0.mk H
       clear H
       go_wp2
       go_meet
       case rel => exact ⟨_, (false), (by first|rfl|(simp;done)|(simp [*];done)), H', ⟨by have := HK1.out;first|omega|exact Nat.le_refl _⟩, ⟨by repeat (first|(with_reducible first|exact HB.out|apply below_alloc|apply pw_below_drewN|apply below_drew1)|exact HB.out)⟩⟩
     ·rw [if_neg c14] at H
      have c14b0 : (t225 == (a0.size : Int)) = false := beq_eq_false_iff_ne.mpr c14
      have c14b1 : (t225 != (a0.size : Int)) = true := bne_iff_ne.mpr c14
      (first|rw [c14b0]|(simp only [i64_w, i32_w];rw [c14b0])|skip)
      have H' := Aside0.mk H
      clear H
      go_wp2
      go_meet
      case rel => exact ⟨_, (false), (by first|rfl|(simp;done)|(simp [*];done)), H', ⟨by have := HK1.out;first|omega|exact Nat.le_refl _⟩, ⟨by repeat (first|(with_reducible first|exact HB.out|apply below_alloc|apply pw_below_drewN|apply below_drew1)|exact HB.out)⟩⟩
    case rest =>
     clear HC12
     try clear c1
     try clear c2
     try clear c2b0
     try clear p2
     try clear c3
     try clear c3b0
     try clear c4
     try clear c4b0
     try clear c4b1
     try clear c5
     try clear p6
     try clear c14
     try clear c14b0
     try clear c14b1
     try clear c15
     try clear c15b0
     try clear c16
     try clear c16b0
     try clear c16b1
     try clear hcz10_0
     try clear hcz10_1
     try clear hcz7_0
     try clear hcz7_1
     try clear hfz10_0
     try clear hfz10_1
     try clear hfz7_0
     try clear hfz7_1
     obtain ⟨kq, x43_11, rfl, HA, HJ11, HB⟩ := hcut
     cases kq with
     | zero => exact absurd HA.out (by simp [utf_Named.j1])
     | succ kj11 =>
      have H := HA.out
      clear HA
      simp only [utf_Named.j1] at H
      by_cases c17 : x43_11 = true
      ·subst c17
       have H1 : (some (wrap64 (t224), true)) = some (r1, r2) := by rw [if_pos rfl] at H; exact H
       clear H
       have H := H1
       clear H1
       simp only [Option.some.injEq, Prod.mk.injEq] at H
       obtain ⟨rfl, rfl⟩ := H
       go_wp2
       go_ret2
       exact ⟨by first|rfl|(simp [errW_none, errW_some] <;> rfl)|(simp [*, errW_none, errW_some] <;> rfl), by repeat (first|(with_reducible first|exact HB.out|apply below_alloc|apply pw_below_drewN|apply below_drew1)|exact HB.out)⟩
      ·replace c17 := Bool.eq_false_iff.mpr c17
       subst c17
       have H1 : ((strings_CutPrefix.f a0 (⟨#[120]⟩ : ByteArray)).bind fun bt226 => (if bt226.2 = true then (if (bt226.1.size : Int) > 6 then (utf_Named.j2 kj11 bt226.1 true) else ((strings_Trim.f bt226.1 (⟨#[48, 49, 50, 51, 52, 53, 54, 55, 56, 57, 97, 98, 99, 100, 101, 102, 65, 66, 67, 68, 69, 70]⟩ : ByteArray)).bind fun t228 => (utf_Named.j2 kj11 bt226.1 (!t228.toList.isEmpty)))) else (utf_Named.j2 kj11 bt226.1 true))) = some (r1, r2) := by rw [if_neg (show ¬ (false = true) by decide)] at H; exact H
       clear H
       have H := H1
       clear H1
       replace H := Option.bind_eq_some_iff.mp H
       obtain ⟨⟨t226, t227⟩, A180, H⟩ := H
       replace H : (if t227 = true then (if (t226.size : Int) > 6 then (utf_Named.j2 kj11 t226 true) else ((strings_Trim.f t226 (⟨#[48, 49, 50, 51, 52, 53, 54, 55, 56, 57, 97, 98, 99, 100, 101, 102, 65, 66, 67, 68, 69, 70]⟩ : ByteArray)).bind fun t228 => (utf_Named.j2 kj11 t226 (!t228.toList.isEmpty)))) else (utf_Named.j2 kj11 t226 true)) = some (r1, r2) := H
       have A18 := Aside0.mk A180
       clear A180
       have HC19 := Aside0.mk H
       clear H
       go_upto_region 11 with (first|((with_reducible refine gate_callee (f := 70) rfl ?_);refine goesL_ (some 48) rfl rfl Tryd.func70 (by kernel_rfl) rfl #[.string a0, .string (⟨#[120]⟩ : ByteArray)] rfl (by (try simp only [List.map_toArray, List.map_cons, List.map_nil]);first|done|rfl|(simp only [List.length_drop, List.length_take];rfl)) ?_;(with_reducible refine (strings_CutPrefix.calls a0 (⟨#[120]⟩ : ByteArray) t226 t227 _ A18.out).mono ?_);rintro e w' ⟨rfl, ⟨nd, rfl⟩⟩;refine ⟨_, rfl, ?_⟩))
       (try simp only [Act.put, List.setIfInBounds_toArray, List.set_cons_zero, List.set_cons_succ])
       go_cut [62] (fun v62 wc => ∃ (kq : Nat) (x62_18 : Bool), v62 = .bool x62_18 ∧ Aside0 (utf_Named.j2 kq t226 x62_18 = some (r1, r2)) ∧ Aside0 (kq ≤ kj11) ∧ Aside0 (Below w.heap.size w wc))
       case first =>
        have H := HC19.out
        clear HC19
        by_cases c20 : t227 = true
        ·subst c20
         have H1 : (if (t226.size : Int) > 6 then (utf_Named.j2 kj11 t226 true) else ((strings_Trim.f t226 (⟨#[48, 49, 50, 51, 52, 53, 54, 55, 56, 57, 97, 98, 99, 100, 101, 102, 65, 66, 67, 68, 69, 70]⟩ : ByteArray)).bind fun t228 => (utf_Named.j2 kj11 t226 (!t228.toList.isEmpty)))) = some (r1, r2) := by rw [if_pos rfl] at H; exact H
         clear H
         have H := H1
         clear H1
         by_cases c21 : (t226.size : Int) > 6
         ·rw [if_pos c21] at H
          have c21b0 : decide (6 < (t226.size : Int)) = true := decide_eq_true c21
          have c21b1 : decide (6 < t226.size) = true := decide_eq_true (by omega)
          clear c21
          (first|rw [c21b0]|(simp only [i64_w, i32_w];rw [c21b0])|skip)
          have H' := Aside0.mk H
          clear H
          go_wp2
          go_meet
          case rel => exact ⟨_, (true), (by first|rfl|(simp;done)|(simp [*];done)), H', ⟨by have := HK1.out;have := HJ11.out;first|omega|exact Nat.le_refl _⟩, ⟨by repeat (first|(with_reducible first|exact HB.out|apply below_alloc|apply pw_below_drewN|apply below_drew1)|exact HB.out)⟩⟩
         ·rw [if_neg c21] at H
          have c21b0 : decide (6 < (t226.size : Int)) = false := decide_eq_false c21
          have c21b1 : decide (6 < t226.size) = false := decide_eq_false (by omega)
          clear c21
          (first|rw [c21b0]|(simp only [i64_w, i32_w];rw [c21b0])|skip)
          replace H := Option.bind_eq_some_iff.mp H
          obtain ⟨t228, A220, H⟩ := H
          replace H : (utf_Named.j2 kj11 t226 (!t228.toList.isEmpty)) = some (r1, r2) := H
          have A22 := Aside0.mk A220
          clear A220
          have H' := Aside0.mk H
          clear H
          go_wp2_with (first|(go_at_call 29;(with_reducible refine (strings_Trim.calls t226 (⟨#[48, 49, 50, 51, 52, 53, 54, 55, 56, 57, 97, 98, 99, 100, 101, 102, 65, 66, 67, 68, 69, 70]⟩ : ByteArray) t228 _ A22.out).mono ?_);rintro e w23 ⟨rfl, hb⟩;have n0_ := Aside0.mk (below_step (by repeat (first|(with_reducible first|exact HB.out|apply below_alloc|apply pw_below_drewN|apply below_drew1)|exact HB.out)) hb);clear HB;have HB := n0_;clear n0_;(try clear hb);(try clear hb2);(try clear hk);(try clear hi)))
          go_meet
          case rel => exact ⟨_, ((!t228.toList.isEmpty)), (by first|rfl|(simp;done)|(simp [*];done)), H', ⟨by have := HK1.out;have := HJ11.out;first|omega|exact Nat.le_refl _⟩, ⟨by repeat (first|(with_reducible first|exact HB.out|apply below_alloc|apply pw_below_drewN|apply below_drew1)|exact HB.out)⟩⟩
        ·replace c20 := Bool.eq_false_iff.mpr c20
         subst c20
         have H1 : (utf_Named.j2 kj11 t226 true) = some (r1, r2) := by rw [if_neg (show ¬ (false = true) by decide)] at H; exact H
         clear H
         have H := H1
         clear H1
         have H' := Aside0.mk H
         clear H
         go_wp2
         go_meet
         case rel => exact ⟨_, (true), (by first|rfl|(simp;done)|(simp [*];done)), H', ⟨by have := HK1.out;have := HJ11.out;first|omega|exact Nat.le_refl _⟩, ⟨by repeat (first|(with_reducible first|exact HB.out|apply below_alloc|apply pw_below_drewN|apply below_drew1)|exact HB.out)⟩⟩
       case rest =>
        clear HC19
        try clear c1
        try clear c2
        try clear c2b0
        try clear p2
        try clear c3
        try clear c3b0
        try clear c4
        try clear c4b0
        try clear c4b1
        try clear c5
        try clear p6
        try clear c7
        try clear c14
        try clear c14b0
        try clear c14b1
        try clear c15
        try clear c15b0
        try clear c16
        try clear c16b0
        try clear c16b1
        try clear c17
        try clear c20
        try clear c21
        try clear c21b0
        try clear c21b1
        try clear hcz10_0
        try clear hcz10_1
        try clear hcz7_0
        try clear hcz7_1
        try clear hfz10_0
        try clear hfz10_1
        try clear hfz7_0
        try clear hfz7_1
        try clear p2
        try clear p6
        obtain ⟨kq, x62_18, rfl, HA, HJ18, HB⟩ := hcut
        cases kq with
        | zero => exact absurd HA.out (by simp [utf_Named.j2])
        | succ kj18 =>
         have H := HA.out
         clear HA
         simp only [utf_Named.j2] at H
         by_cases c24 : x62_18 = true
         ·subst c24
          have H1 : (some (0, false)) = some (r1, r2) := by rw [if_pos rfl] at H; exact H
          clear H
          have H := H1
          clear H1
          simp only [Option.some.injEq, Prod.mk.injEq] at H
          obtain ⟨rfl, rfl⟩ := H
          go_wp2
          go_ret2
          exact ⟨by first|rfl|(simp [errW_none, errW_some] <;> rfl)|(simp [*, errW_none, errW_some] <;> rfl), by repeat (first|(with_reducible first|exact HB.out|apply below_alloc|apply pw_below_drewN|apply below_drew1)|exact HB.out)⟩
         ·replace c24 := Bool.eq_false_iff.mpr c24
          subst c24
          have H1 : ((strconv_ParseUint.f t226 16 32).bind fun bt229 => (if bt229.2.isNone = true then ((utf_Scalar.f kj18 (wrap64 (bt229.1))).bind fun t232 => (if t232 = true then (some (wrap64 (bt229.1), true)) else (some (0, false)))) else (some (0, false)))) = some (r1, r2) := by rw [if_neg (show ¬ (false = true) by decide)] at H; exact H
          clear H
          have H := H1
          clear H1
          replace H := Option.bind_eq_some_iff.mp H
          obtain ⟨⟨t229, t230⟩, A250, H⟩ := H
          replace H : (if t230.isNone = true then ((utf_Scalar.f kj18 (wrap64 (t229))).bind fun t232 => (if t232 = true then (some (wrap64 (t229), true)) else (some (0, false)))) else (some (0, false))) = some (r1, r2) := H
          have A25 := Aside0.mk A250
          clear A250
          rcases t230 with _ | q231
          ·have H1 : ((utf_Scalar.f kj18 (wrap64 (t229))).bind fun t232 => (if t232 = true then (some (wrap64 (t229), true)) else (some (0, false)))) = some (r1, r2) := by rw [if_pos (show (none : Option Int).isNone = true by rfl)] at H; exact H
           clear H
           have H := H1
           clear H1
           try simp only [errW_none, errW_some]
           replace H := Option.bind_eq_some_iff.mp H
           obtain ⟨t232, A260, H⟩ := H
           replace H : (if t232 = true then (some (wrap64 (t229), true)) else (some (0, false))) = some (r1, r2) := H
           have A26 := Aside0.mk A260
           clear A260
           by_cases c27 : t232 = true
           ·subst c27
            have H1 : (some (wrap64 (t229), true)) = some (r1, r2) := by rw [if_pos rfl] at H; exact H
            clear H
            have H := H1
            clear H1
            simp only [Option.some.injEq, Prod.mk.injEq] at H
            obtain ⟨rfl, rfl⟩ := H
            go_wp2_with (first|((with_reducible refine gate_callee (f := 71) rfl ?_);refine goesL_ (some 65) rfl rfl Tryd.func71 (by kernel_rfl) rfl #[.string t226, .int .i64 16, .int .i64 32] rfl (by (try simp only [List.map_toArray, List.map_cons, List.map_nil]);first|done|rfl|(simp only [List.length_drop, List.length_take];rfl)) ?_;(with_reducible refine (strconv_ParseUint.calls t226 16 32 t229 none _ A25.out).mono ?_);rintro e w28 ⟨rfl, hb⟩;refine ⟨_, rfl, ?_⟩;have n0_ := Aside0.mk (below_step (by repeat (first|(with_reducible first|exact HB.out|apply below_alloc|apply pw_below_drewN|apply below_drew1)|exact HB.out)) hb);clear HB;have HB := n0_;clear n0_;(try clear hb);(try clear hb2);(try clear hk);(try clear hi);(try simp only [errW_none, errW_some]))|(go_at_call 11;(with_reducible refine (utf_Scalar.calls kj18 (wrap64 (t229)) true _ A26.out).mono ?_);rintro e w' ⟨rfl, ⟨nd, rfl⟩⟩))
            go_ret2
            exact ⟨by first|rfl|(simp [errW_none, errW_some] <;> rfl)|(simp [*, errW_none, errW_some] <;> rfl), by repeat (first|(with_reducible first|exact HB.out|apply below_alloc|apply pw_below_drewN|apply below_drew1)|exact HB.out)⟩
           ·replace c27 := Bool.eq_false_iff.mpr c27
            subst c27
            have H1 : (some (0, false)) = some (r1, r2) := by rw [if_neg (show ¬ (false = true) by decide)] at H; exact H
            clear H
            have H := H1
            clear H1
            simp only [Option.some.injEq, Prod.mk.injEq] at H
            obtain ⟨rfl, rfl⟩ := H
            go_wp2_with (first|((with_reducible refine gate_callee (f := 71) rfl ?_);refine goesL_ (some 65) rfl rfl Tryd.func71 (by kernel_rfl) rfl #[.string t226, .int .i64 16, .int .i64 32] rfl (by (try simp only [List.map_toArray, List.map_cons, List.map_nil]);first|done|rfl|(simp only [List.length_drop, List.length_take];rfl)) ?_;(with_reducible refine (strconv_ParseUint.calls t226 16 32 t229 none _ A25.out).mono ?_);rintro e w29 ⟨rfl, hb⟩;refine ⟨_, rfl, ?_⟩;have n0_ := Aside0.mk (below_step (by repeat (first|(with_reducible first|exact HB.out|apply below_alloc|apply pw_below_drewN|apply below_drew1)|exact HB.out)) hb);clear HB;have HB := n0_;clear n0_;(try clear hb);(try clear hb2);(try clear hk);(try clear hi);(try simp only [errW_none, errW_some]))|(go_at_call 11;(with_reducible refine (utf_Scalar.calls kj18 (wrap64 (t229)) false _ A26.out).mono ?_);rintro e w' ⟨rfl, ⟨nd, rfl⟩⟩))
            go_ret2
            exact ⟨by first|rfl|(simp [errW_none, errW_some] <;> rfl)|(simp [*, errW_none, errW_some] <;> rfl), by repeat (first|(with_reducible first|exact HB.out|apply below_alloc|apply pw_below_drewN|apply below_drew1)|exact HB.out)⟩
          ·have H1 : (some (0, false)) = some (r1, r2) := by rw [if_neg (show ¬ (some q231).isNone = true by simp)] at H; exact H
           clear H
           have H := H1
           clear H1
           try simp only [errW_none, errW_some]
           simp only [Option.some.injEq, Prod.mk.injEq] at H
           obtain ⟨rfl, rfl⟩ := H
           go_wp2_with (first|((with_reducible refine gate_callee (f := 71) rfl ?_);refine goesL_ (some 65) rfl rfl Tryd.func71 (by kernel_rfl) rfl #[.string t226, .int .i64 16, .int .i64 32] rfl (by (try simp only [List.map_toArray, List.map_cons, List.map_nil]);first|done|rfl|(simp only [List.length_drop, List.length_take];rfl)) ?_;(with_reducible refine (strconv_ParseUint.calls t226 16 32 t229 (some q231) _ A25.out).mono ?_);rintro e w30 ⟨rfl, hb⟩;refine ⟨_, rfl, ?_⟩;have n0_ := Aside0.mk (below_step (by repeat (first|(with_reducible first|exact HB.out|apply below_alloc|apply pw_below_drewN|apply below_drew1)|exact HB.out)) hb);clear HB;have HB := n0_;clear n0_;(try clear hb);(try clear hb2);(try clear hk);(try clear hi);(try simp only [errW_none, errW_some])))
           go_ret2
           exact ⟨by first|rfl|(simp [errW_none, errW_some] <;> rfl)|(simp [*, errW_none, errW_some] <;> rfl), by repeat (first|(with_reducible first|exact HB.out|apply below_alloc|apply pw_below_drewN|apply below_drew1)|exact HB.out)⟩
end Go.Proofs.YtefefpkgiecikaaDoor.P
namespace Go.Proofs.YtefefpkgiecikaaDoor.P
open Go.RowKit Go.Proofs.YtefefpkgiecikaaDoorW.PrintWords Go.Proofs.YtefefpkgiecikaaDoorW.PrintLast Go.Proofs.YtefefpkgiecikaaDoorW.PrintMore
attribute [local go_sem] max2_int min2_int max_two min_two max_three min_three max_four min_four
set_option linter.unusedVariables false
set_option linter.unusedSimpArgs false
mutual
def token_scanner_hex.j1 : Nat → Int → List Int → Int → Option (Int × Int)
 | 0, _, _, _ => none
 | k + 1, x3, x1000, x1001 => (token_scanner_peek.f x1000 x1001 0).bind fun bt237 => (if bt237.1 = 59 then (token_scanner_hex.j2 k x3 (bt237.2 == x3) x1000 bt237.2) else (token_scanner_hex.j2 k x3 true x1000 bt237.2))
def token_scanner_hex.j2 : Nat → Int → Bool → List Int → Int → Option (Int × Int)
 | 0, _, _, _, _ => none
 | k + 1, x3, x45, x1000, x1001 => if x45 = true then (some ((-1), x1001)) else (if 0 ≤ x3 then (if x3 ≤ x1001 then (if x1001 ≤ (x1000.length : Int) then ((utf_Encode.f k ((x1000.take (x1001 : Int).toNat).drop (x3 : Int).toNat)).bind fun bt240 => (if 1 + (strOfNums bt240.1).size ≤ 9223372036854775807 then ((utf_Named.f k ((⟨#[120]⟩ : ByteArray) ++ (strOfNums bt240.1))).bind fun bt244 => (if bt244.2 = true then (some (bt244.1, wrap64 (x1001 + 1))) else (some ((-1), wrap64 (x1001 + 1))))) else (none))) else (none)) else (none)) else (none))
def token_scanner_hex.l0 : Nat → Int → List Int → Int → Option (Int × Int)
 | 0, _, _, _ => none
 | k + 1, x3, x1000, x1001 => (token_scanner_left.f x1000 x1001 1).bind fun bt233 => (if bt233.1 = true then ((token_scanner_peek.f x1000 bt233.2 0).bind fun bt235 => (if bt235.1 = 59 then (token_scanner_hex.j1 k x3 x1000 bt235.2) else (if (wrap64 (bt235.2 - x3)) < 7 then (token_scanner_hex.l0 k x3 x1000 (wrap64 (bt235.2 + 1))) else (token_scanner_hex.j1 k x3 x1000 bt235.2)))) else (token_scanner_hex.j1 k x3 x1000 bt233.2))
end
def token_scanner_hex.f (k : Nat) (s0_0 : List Int) (s0_1 : Int) : Option (Int × Int) := token_scanner_hex.l0 k s0_1 s0_0 s0_1
theorem token_scanner_hex.mono_l : ∀ k, (∀ y0 y1 y2, LeO (token_scanner_hex.j1 k y0 y1 y2) (token_scanner_hex.j1 (k + 1) y0 y1 y2)) ∧ (∀ y0 y1 y2 y3, LeO (token_scanner_hex.j2 k y0 y1 y2 y3) (token_scanner_hex.j2 (k + 1) y0 y1 y2 y3)) ∧ (∀ y0 y1 y2, LeO (token_scanner_hex.l0 k y0 y1 y2) (token_scanner_hex.l0 (k + 1) y0 y1 y2))
 | 0 => ⟨fun _ _ _ r h => by simp [token_scanner_hex.j1] at h, fun _ _ _ _ r h => by simp [token_scanner_hex.j2] at h, fun _ _ _ r h => by simp [token_scanner_hex.l0] at h⟩
 | k + 1 => by
  obtain ⟨ih0, ih1, ih2⟩ := token_scanner_hex.mono_l k
  refine ⟨?_, ?_, ?_⟩
  ·intro y0 y1 y2
   unfold token_scanner_hex.j1
   repeat' first
   | (with_reducible exact ih0 _ _ _)
   | (with_reducible exact ih1 _ _ _ _)
   | (with_reducible exact ih2 _ _ _)
   | (with_reducible exact utf_Encode.mono _ _)
   | (with_reducible exact utf_Named.mono _ _)
   | (with_reducible exact LeO.refl _)
   | (with_reducible exact LeO.none _)
   | (with_reducible refine LeO.ite ?_ ?_)
   | (with_reducible refine LeO.bind ?_ (fun _ => ?_))
   | exact ih0 _ _ _
   | exact ih1 _ _ _ _
   | exact ih2 _ _ _
   | exact utf_Encode.mono _ _
   | exact utf_Named.mono _ _
   | exact LeO.none _
   | refine LeO.ite ?_ ?_
   | refine LeO.bind ?_ (fun _ => ?_)
  ·intro y0 y1 y2 y3
   unfold token_scanner_hex.j2
   repeat' first
   | (with_reducible exact ih0 _ _ _)
   | (with_reducible exact ih1 _ _ _ _)
   | (with_reducible exact ih2 _ _ _)
   | (with_reducible exact utf_Encode.mono _ _)
   | (with_reducible exact utf_Named.mono _ _)
   | (with_reducible exact LeO.refl _)
   | (with_reducible exact LeO.none _)
   | (with_reducible refine LeO.ite ?_ ?_)
   | (with_reducible refine LeO.bind ?_ (fun _ => ?_))
   | exact ih0 _ _ _
   | exact ih1 _ _ _ _
   | exact ih2 _ _ _
   | exact utf_Encode.mono _ _
   | exact utf_Named.mono _ _
   | exact LeO.none _
   | refine LeO.ite ?_ ?_
   | refine LeO.bind ?_ (fun _ => ?_)
  ·intro y0 y1 y2
   unfold token_scanner_hex.l0
   repeat' first
   | (with_reducible exact ih0 _ _ _)
   | (with_reducible exact ih1 _ _ _ _)
   | (with_reducible exact ih2 _ _ _)
   | (with_reducible exact utf_Encode.mono _ _)
   | (with_reducible exact utf_Named.mono _ _)
   | (with_reducible exact LeO.refl _)
   | (with_reducible exact LeO.none _)
   | (with_reducible refine LeO.ite ?_ ?_)
   | (with_reducible refine LeO.bind ?_ (fun _ => ?_))
   | exact ih0 _ _ _
   | exact ih1 _ _ _ _
   | exact ih2 _ _ _
   | exact utf_Encode.mono _ _
   | exact utf_Named.mono _ _
   | exact LeO.none _
   | refine LeO.ite ?_ ?_
   | refine LeO.bind ?_ (fun _ => ?_)
theorem token_scanner_hex.mono : ∀ a0 a1 k, LeO (token_scanner_hex.f k a0 a1) (token_scanner_hex.f (k + 1) a0 a1) := by
 intro a0 a1 k
 obtain ⟨ih0, ih1, ih2⟩ := token_scanner_hex.mono_l k
 unfold token_scanner_hex.f
 repeat' first
   | (with_reducible exact ih0 _ _ _)
   | (with_reducible exact ih1 _ _ _ _)
   | (with_reducible exact ih2 _ _ _)
   | (with_reducible exact utf_Encode.mono _ _)
   | (with_reducible exact utf_Named.mono _ _)
   | (with_reducible exact LeO.refl _)
   | (with_reducible exact LeO.none _)
   | (with_reducible refine LeO.ite ?_ ?_)
   | (with_reducible refine LeO.bind ?_ (fun _ => ?_))
   | exact ih0 _ _ _
   | exact ih1 _ _ _ _
   | exact ih2 _ _ _
   | exact utf_Encode.mono _ _
   | exact utf_Named.mono _ _
   | exact LeO.none _
   | refine LeO.ite ?_ ?_
   | refine LeO.bind ?_ (fun _ => ?_)
def token_scanner_hex.T6 : Bool × List (List Nat × List Nat) := (true, [([], []), ([0], [0]), ([1], [1]), ([2], [2]), ([], []), ([], []), ([5], [5]), ([6], [6]), ([7], [7]), ([3, 4, 8], [3, 4, 8]), ([9], [9]), ([10], [10]), ([11], [11]), ([11], [11]), ([12, 10, 0, 1, 2, 3, 4, 5, 6, 7, 8, 9, 10, 11, 12], [12]), ([13, 14, 0, 1, 2, 3, 4, 5, 6, 7, 8, 9, 10, 11, 12, 13, 14], [13])])
def token_scanner_hex.B6 : List Nat := [0, 1, 3, 7, 0, 0, 32, 96, 224, 511, 1023, 2047, 4095, 4095, 8191, 32767]
theorem token_scanner_hex.tab6 : rtab .any (opsOf Tryd.f69 6) = token_scanner_hex.T6 := by kernel_rfl
theorem token_scanner_hex.bits6 : waitsOk token_scanner_hex.T6.2 token_scanner_hex.B6 = true := by kernel_rfl
set_option maxHeartbeats 8000000 in
set_option maxRecDepth 100000 in
theorem token_scanner_hex.calls (k : Nat) (g : Nat) (s0_0 : List Int) (s0_1 : Int) (r1 : Int) (r2 : Int) (w0 w : World) (hI : IsS50 w0 w g s0_0 s0_1) (hB : Below w0.heap.size w0 w) (hLD : LD w0) (h : token_scanner_hex.f k s0_0 s0_1 = some (r1, r2)) :
  Calls Tryd.prog 69 #[.pointer (some ⟨g, 0, none⟩)] w fun e w' => e = .returned (.int .i64 r1) ∧ IsS50 w0 w' g s0_0 r2 ∧ Below w0.heap.size w0 w' ∧ KeepBut w w' g none := by
 have HI0 := Aside0.mk hI
 have HK := Aside0.mk (KeepBut.refl w g none)
 have HL := Aside0.mk hB.size
 clear hI
 have HLD := Aside0.mk hLD
 clear hLD
 have HW0 := Aside0.mk hB.size
 have HB := Aside0.mk hB
 clear hB
 have H : (token_scanner_hex.l0 k s0_1 s0_0 s0_1) = some (r1, r2) := h
 clear h
 have HC2 := Aside0.mk H
 clear H
 obtain ⟨ASz3_0, cSz3_0, HGz3, hgz3, ⟨HSz3_0, HCSz3_0⟩⟩ := HI0.out
 have hcz3_0 := cellS50_0 HGz3
 have hcz3_1 := cellS50_1 HGz3
 have hfz3_1 := blk_frozen HGz3 1
 have BKSz3 := Aside0.mk HGz3
 clear HGz3 hgz3
 go_enter Tryd.func69, Tryd.ntmps69
 go_upto_block 0 with (fail)
 go_cut [] (fun wc => ∃ (kq : Nat) (x1001_1 : Int), Aside0 (token_scanner_hex.j1 kq s0_1 s0_0 x1001_1 = some (r1, r2)) ∧ Aside0 (kq ≤ k) ∧ Aside0 (IsS50 w0 wc g s0_0 x1001_1) ∧ Aside0 (KeepBut w wc g none) ∧ Aside0 (Below w0.heap.size w0 wc))
 case first =>
  have H := HC2.out
  clear HC2
  have H' := Aside0.mk H
  clear H
  go_wp2
  go_loopg [] k (fun kq w' => ∃ (x1001_1 : Int), Aside0 (token_scanner_hex.l0 kq s0_1 s0_0 x1001_1 = some (r1, r2)) ∧ Aside0 (kq ≤ k) ∧ Aside0 (IsS50 w0 w' g s0_0 x1001_1) ∧ Aside0 (KeepBut w w' g none) ∧ Aside0 (Below w0.heap.size w0 w'))
  case atStart => exact ⟨(s0_1), H', ⟨Nat.le_refl _⟩, ⟨by repeat (first|(with_reducible first|exact HI0.out|apply IsS50.alloc|apply IsS50.drewN|apply IsS50.drew|apply IsS50.set_1)|exact HI0.out)⟩, ⟨by repeat (first|(with_reducible first|exact HK.out|apply KeepBut.set_|apply keep_drewN|apply keep_drew|apply keep_alloc)|exact HK.out)⟩, ⟨by repeat (first|(with_reducible first|exact HB.out|apply below_alloc|apply pw_below_drewN|apply below_drew1|refine below_set ?_ (IsS50.ge HI0.out))|exact HB.out)⟩⟩
  case round =>
   clear H'
   try clear p2
   try clear hcz3_0
   try clear hcz3_1
   try clear hfz3_1
   obtain ⟨x1001_1, HA, HK1, HI0, HK, HB⟩ := hrel
   cases gk with
   | zero => exact absurd HA.out (by simp [token_scanner_hex.l0])
   | succ k1 =>
    have H := HA.out
    clear HA
    simp only [token_scanner_hex.l0] at H
    replace H := Option.bind_eq_some_iff.mp H
    obtain ⟨⟨t233, t234⟩, A40, H⟩ := H
    replace H : (if t233 = true then ((token_scanner_peek.f s0_0 t234 0).bind fun bt235 => (if bt235.1 = 59 then (token_scanner_hex.j1 k1 s0_1 s0_0 bt235.2) else (if (wrap64 (bt235.2 - s0_1)) < 7 then (token_scanner_hex.l0 k1 s0_1 s0_0 (wrap64 (bt235.2 + 1))) else (token_scanner_hex.j1 k1 s0_1 s0_0 bt235.2)))) else (token_scanner_hex.j1 k1 s0_1 s0_0 t234)) = some (r1, r2) := H
    have A4 := Aside0.mk A40
    clear A40
    by_cases c5 : t233 = true
    ·subst c5
     have H1 : ((token_scanner_peek.f s0_0 t234 0).bind fun bt235 => (if bt235.1 = 59 then (token_scanner_hex.j1 k1 s0_1 s0_0 bt235.2) else (if (wrap64 (bt235.2 - s0_1)) < 7 then (token_scanner_hex.l0 k1 s0_1 s0_0 (wrap64 (bt235.2 + 1))) else (token_scanner_hex.j1 k1 s0_1 s0_0 bt235.2)))) = some (r1, r2) := by rw [if_pos rfl] at H; exact H
     clear H
     have H := H1
     clear H1
     replace H := Option.bind_eq_some_iff.mp H
     obtain ⟨⟨t235, t236⟩, A60, H⟩ := H
     replace H : (if t235 = 59 then (token_scanner_hex.j1 k1 s0_1 s0_0 t236) else (if (wrap64 (t236 - s0_1)) < 7 then (token_scanner_hex.l0 k1 s0_1 s0_0 (wrap64 (t236 + 1))) else (token_scanner_hex.j1 k1 s0_1 s0_0 t236))) = some (r1, r2) := H
     have A6 := Aside0.mk A60
     clear A60
     by_cases c7 : t235 = 59
     ·rw [if_pos c7] at H
      have c7b0 : (t235 == 59) = true := beq_iff_eq.mpr c7
      have c7b1 : (t235 != 59) = false := bne_eq_false_iff_eq.mpr c7
      clear c7
      (first|rw [c7b0]|(simp only [i64_w, i32_w];rw [c7b0])|skip)
      have H' := Aside0.mk H
      clear H
      go_wp2_with (first|((with_reducible refine gate_callee (f := 14) rfl ?_);refine goesL_ (some 13) rfl rfl Tryd.func14 (by kernel_rfl) rfl #[.pointer (some ⟨g, 0, none⟩), .int .i64 1] rfl (by (try simp only [List.map_toArray, List.map_cons, List.map_nil]);first|done|rfl|(simp only [List.length_drop, List.length_take];rfl)) ?_;(with_reducible refine (token_scanner_left.calls g s0_0 x1001_1 1 true t234 w0 _ ?side1 ?side2 A4.out).mono ?_);(case side1 => repeat (first|(with_reducible first|exact HI0.out|apply IsS50.alloc|apply IsS50.drewN|apply IsS50.drew|apply IsS50.set_1)|exact HI0.out));(case side2 => repeat (first|(with_reducible first|exact HB.out|apply below_alloc|apply pw_below_drewN|apply below_drew1|refine below_set ?_ (IsS50.ge HI0.out))|exact HB.out));rintro e w8 ⟨rfl, hi, hb, hk⟩;refine ⟨_, rfl, ?_⟩;have n0_ := Aside0.mk (KeepBut.trans (by repeat (first|(with_reducible first|exact HK.out|apply KeepBut.set_|apply keep_drewN|apply keep_drew|apply keep_alloc)|exact HK.out)) hk (.inl rfl));have n1_ := Aside0.mk (hb);have n2_ := Aside0.mk (hi);clear HK;clear HB;clear HI0;have HK := n0_;have HB := n1_;have HI0 := n2_;clear n0_ n1_ n2_;(try clear hb);(try clear hb2);(try clear hk);(try clear hi))|(go_at_call 24;(with_reducible refine (token_scanner_peek.calls g s0_0 t234 0 t235 t236 w0 _ ?side1 ?side2 A6.out).mono ?_);(case side1 => repeat (first|(with_reducible first|exact HI0.out|apply IsS50.alloc|apply IsS50.drewN|apply IsS50.drew|apply IsS50.set_1)|exact HI0.out));(case side2 => repeat (first|(with_reducible first|exact HB.out|apply below_alloc|apply pw_below_drewN|apply below_drew1|refine below_set ?_ (IsS50.ge HI0.out))|exact HB.out));rintro e w9 ⟨rfl, hi, hb, hk⟩;have n0_ := Aside0.mk (KeepBut.trans (by repeat (first|(with_reducible first|exact HK.out|apply KeepBut.set_|apply keep_drewN|apply keep_drew|apply keep_alloc)|exact HK.out)) hk (.inl rfl));have n1_ := Aside0.mk (hb);have n2_ := Aside0.mk (hi);clear HK;clear HB;clear HI0;have HK := n0_;have HB := n1_;have HI0 := n2_;clear n0_ n1_ n2_;(try clear hb);(try clear hb2);(try clear hk);(try clear hi)))
      go_meet
      case rel => exact ⟨_, (t236), H', ⟨by have := HK1.out;first|omega|exact Nat.le_refl _⟩, ⟨by repeat (first|(with_reducible first|exact HI0.out|apply IsS50.alloc|apply IsS50.drewN|apply IsS50.drew|apply IsS50.set_1)|exact HI0.out)⟩, ⟨by repeat (first|(with_reducible first|exact HK.out|apply KeepBut.set_|apply keep_drewN|apply keep_drew|apply keep_alloc)|exact HK.out)⟩, ⟨by repeat (first|(with_reducible first|exact HB.out|apply below_alloc|apply pw_below_drewN|apply below_drew1|refine below_set ?_ (IsS50.ge HI0.out))|exact HB.out)⟩⟩
     ·rw [if_neg c7] at H
      have c7b0 : (t235 == 59) = false := beq_eq_false_iff_ne.mpr c7
      have c7b1 : (t235 != 59) = true := bne_iff_ne.mpr c7
      (first|rw [c7b0]|(simp only [i64_w, i32_w];rw [c7b0])|skip)
      by_cases c10 : (wrap64 (t236 - s0_1)) < 7
      ·rw [if_pos c10] at H
       have c10b0 : decide ((wrap64 (t236 - s0_1)) < 7) = true := decide_eq_true c10
       clear c10
       have H' := Aside0.mk H
       clear H
       go_wp2_with (first|((with_reducible refine gate_callee (f := 14) rfl ?_);refine goesL_ (some 13) rfl rfl Tryd.func14 (by kernel_rfl) rfl #[.pointer (some ⟨g, 0, none⟩), .int .i64 1] rfl (by (try simp only [List.map_toArray, List.map_cons, List.map_nil]);first|done|rfl|(simp only [List.length_drop, List.length_take];rfl)) ?_;(with_reducible refine (token_scanner_left.calls g s0_0 x1001_1 1 true t234 w0 _ ?side1 ?side2 A4.out).mono ?_);(case side1 => repeat (first|(with_reducible first|exact HI0.out|apply IsS50.alloc|apply IsS50.drewN|apply IsS50.drew|apply IsS50.set_1)|exact HI0.out));(case side2 => repeat (first|(with_reducible first|exact HB.out|apply below_alloc|apply pw_below_drewN|apply below_drew1|refine below_set ?_ (IsS50.ge HI0.out))|exact HB.out));rintro e w11 ⟨rfl, hi, hb, hk⟩;refine ⟨_, rfl, ?_⟩;have n0_ := Aside0.mk (KeepBut.trans (by repeat (first|(with_reducible first|exact HK.out|apply KeepBut.set_|apply keep_drewN|apply keep_drew|apply keep_alloc)|exact HK.out)) hk (.inl rfl));have n1_ := Aside0.mk (hb);have n2_ := Aside0.mk (hi);clear HK;clear HB;clear HI0;have HK := n0_;have HB := n1_;have HI0 := n2_;clear n0_ n1_ n2_;(try clear hb);(try clear hb2);(try clear hk);(try clear hi))|(go_at_call 24;(with_reducible refine (token_scanner_peek.calls g s0_0 t234 0 t235 t236 w0 _ ?side1 ?side2 A6.out).mono ?_);(case side1 => repeat (first|(with_reducible first|exact HI0.out|apply IsS50.alloc|apply IsS50.drewN|apply IsS50.drew|apply IsS50.set_1)|exact HI0.out));(case side2 => repeat (first|(with_reducible first|exact HB.out|apply below_alloc|apply pw_below_drewN|apply below_drew1|refine below_set ?_ (IsS50.ge HI0.out))|exact HB.out));rintro e w12 ⟨rfl, hi, hb, hk⟩;have n0_ := Aside0.mk (KeepBut.trans (by repeat (first|(with_reducible first|exact HK.out|apply KeepBut.set_|apply keep_drewN|apply keep_drew|apply keep_alloc)|exact HK.out)) hk (.inl rfl));have n1_ := Aside0.mk (hb);have n2_ := Aside0.mk (hi);clear HK;clear HB;clear HI0;have HK := n0_;have HB := n1_;have HI0 := n2_;clear n0_ n1_ n2_;(try clear hb);(try clear hb2);(try clear hk);(try clear hi);obtain ⟨ASz13_0, cSz13_0, HGz13, hgz13, ⟨HSz13_0, HCSz13_0⟩⟩ := HI0.out;have hcz13_0 := cellS50_0 HGz13;have hcz13_1 := cellS50_1 HGz13;have hfz13_1 := blk_frozen HGz13 1;have BKSz13 := Aside0.mk HGz13;clear HGz13 hgz13))
       go_roundg k1
       case measure => have := HK1.out; omega
       case rel => exact ⟨(wrap64 (t236 + 1)), H', ⟨by have := HK1.out;omega⟩, ⟨by repeat (first|(with_reducible first|exact HI0.out|apply IsS50.alloc|apply IsS50.drewN|apply IsS50.drew|apply IsS50.set_1)|exact HI0.out)⟩, ⟨by repeat (first|(with_reducible first|exact HK.out|apply KeepBut.set_|apply keep_drewN|apply keep_drew|apply keep_alloc)|exact HK.out)⟩, ⟨by repeat (first|(with_reducible first|exact HB.out|apply below_alloc|apply pw_below_drewN|apply below_drew1|refine below_set ?_ (IsS50.ge HI0.out))|exact HB.out)⟩⟩
      ·rw [if_neg c10] at H
       have c10b0 : decide ((wrap64 (t236 - s0_1)) < 7) = false := decide_eq_false c10
       clear c10
       have H' := Aside0.mk H
       clear H
       go_wp2_with (first|((with_reducible refine gate_callee (f := 14) rfl ?_);refine goesL_ (some 13) rfl rfl Tryd.func14 (by kernel_rfl) rfl #[.pointer (some ⟨g, 0, none⟩), .int .i64 1] rfl (by (try simp only [List.map_toArray, List.map_cons, List.map_nil]);first|done|rfl|(simp only [List.length_drop, List.length_take];rfl)) ?_;(with_reducible refine (token_scanner_left.calls g s0_0 x1001_1 1 true t234 w0 _ ?side1 ?side2 A4.out).mono ?_);(case side1 => repeat (first|(with_reducible first|exact HI0.out|apply IsS50.alloc|apply IsS50.drewN|apply IsS50.drew|apply IsS50.set_1)|exact HI0.out));(case side2 => repeat (first|(with_reducible first|exact HB.out|apply below_alloc|apply pw_below_drewN|apply below_drew1|refine below_set ?_ (IsS50.ge HI0.out))|exact HB.out));rintro e w14 ⟨rfl, hi, hb, hk⟩;refine ⟨_, rfl, ?_⟩;have n0_ := Aside0.mk (KeepBut.trans (by repeat (first|(with_reducible first|exact HK.out|apply KeepBut.set_|apply keep_drewN|apply keep_drew|apply keep_alloc)|exact HK.out)) hk (.inl rfl));have n1_ := Aside0.mk (hb);have n2_ := Aside0.mk (hi);clear HK;clear HB;clear HI0;have HK := n0_;have HB := n1_;have HI0 := n2_;clear n0_ n1_ n2_;(try clear hb);(try clear hb2);(try clear hk);(try clear hi))|(go_at_call 24;(with_reducible refine (token_scanner_peek.calls g s0_0 t234 0 t235 t236 w0 _ ?side1 ?side2 A6.out).mono ?_);(case side1 => repeat (first|(with_reducible first|exact HI0.out|apply IsS50.alloc|apply IsS50.drewN|apply IsS50.drew|apply IsS50.set_1)|exact HI0.out));(case side2 => repeat (first|(with_reducible first|exact HB.out|apply below_alloc|apply pw_below_drewN|apply below_drew1|refine below_set ?_ (IsS50.ge HI0.out))|exact HB.out));rintro e w15 ⟨rfl, hi, hb, hk⟩;have n0_ := Aside0.mk (KeepBut.trans (by repeat (first|(with_reducible first|exact HK.out|apply KeepBut.set_|apply keep_drewN|apply keep_drew|apply keep_alloc)|exact HK.out)) hk (.inl rfl));have n1_ := Aside0.mk (hb);have n2_ := Aside0.mk (hi);clear HK;clear HB;clear HI0;have HK := n0_;have HB := n1_;have HI0 := n2_;clear n0_ n1_ n2_;(try clear hb);(try clear hb2);(try clear hk);(try clear hi);obtain ⟨ASz16_0, cSz16_0, HGz16, hgz16, ⟨HSz16_0, HCSz16_0⟩⟩ := HI0.out;have hcz16_0 := cellS50_0 HGz16;have hcz16_1 := cellS50_1 HGz16;have hfz16_1 := blk_frozen HGz16 1;have BKSz16 := Aside0.mk HGz16;clear HGz16 hgz16))
       go_meet
       case rel => exact ⟨_, (t236), H', ⟨by have := HK1.out;first|omega|exact Nat.le_refl _⟩, ⟨by repeat (first|(with_reducible first|exact HI0.out|apply IsS50.alloc|apply IsS50.drewN|apply IsS50.drew|apply IsS50.set_1)|exact HI0.out)⟩, ⟨by repeat (first|(with_reducible first|exact HK.out|apply KeepBut.set_|apply keep_drewN|apply keep_drew|apply keep_alloc)|exact HK.out)⟩, ⟨by repeat (first|(with_reducible first|exact HB.out|apply below_alloc|apply pw_below_drewN|apply below_drew1|refine below_set ?_ (IsS50.ge HI0.out))|exact HB.out)⟩⟩
    ·replace c5 := Bool.eq_false_iff.mpr c5
     subst c5
     have H1 : (token_scanner_hex.j1 k1 s0_1 s0_0 t234) = some (r1, r2) := by rw [if_neg (show ¬ (false = true) by decide)] at H; exact H
     clear H
     have H := H1
     clear H1
     have H' := Aside0.mk H
     clear H
     go_wp2_with (first|((with_reducible refine gate_callee (f := 14) rfl ?_);refine goesL_ (some 13) rfl rfl Tryd.func14 (by kernel_rfl) rfl #[.pointer (some ⟨g, 0, none⟩), .int .i64 1] rfl (by (try simp only [List.map_toArray, List.map_cons, List.map_nil]);first|done|rfl|(simp only [List.length_drop, List.length_take];rfl)) ?_;(with_reducible refine (token_scanner_left.calls g s0_0 x1001_1 1 false t234 w0 _ ?side1 ?side2 A4.out).mono ?_);(case side1 => repeat (first|(with_reducible first|exact HI0.out|apply IsS50.alloc|apply IsS50.drewN|apply IsS50.drew|apply IsS50.set_1)|exact HI0.out));(case side2 => repeat (first|(with_reducible first|exact HB.out|apply below_alloc|apply pw_below_drewN|apply below_drew1|refine below_set ?_ (IsS50.ge HI0.out))|exact HB.out));rintro e w17 ⟨rfl, hi, hb, hk⟩;refine ⟨_, rfl, ?_⟩;have n0_ := Aside0.mk (KeepBut.trans (by repeat (first|(with_reducible first|exact HK.out|apply KeepBut.set_|apply keep_drewN|apply keep_drew|apply keep_alloc)|exact HK.out)) hk (.inl rfl));have n1_ := Aside0.mk (hb);have n2_ := Aside0.mk (hi);clear HK;clear HB;clear HI0;have HK := n0_;have HB := n1_;have HI0 := n2_;clear n0_ n1_ n2_;(try clear hb);(try clear hb2);(try clear hk);(try clear hi)))
     go_meet
     case rel => exact ⟨_, (t234), H', ⟨by have := HK1.out;first|omega|exact Nat.le_refl _⟩, ⟨by repeat (first|(with_reducible first|exact HI0.out|apply IsS50.alloc|apply IsS50.drewN|apply IsS50.drew|apply IsS50.set_1)|exact HI0.out)⟩, ⟨by repeat (first|(with_reducible first|exact HK.out|apply KeepBut.set_|apply keep_drewN|apply keep_drew|apply keep_alloc)|exact HK.out)⟩, ⟨by repeat (first|(with_reducible first|exact HB.out|apply below_alloc|apply pw_below_drewN|apply below_drew1|refine below_set ?_ (IsS50.ge HI0.out))|exact HB.out)⟩⟩
 case rest =>
  clear HC2
  try clear c1
  try clear p2
  try clear c5
  try clear c6
  try clear p6
  try clear c7
  try clear c7b0
  try clear c7b1
  try clear c10
  try clear c10b0
  try clear c14
  try clear hcz13_0
  try clear hcz13_1
  try clear hcz16_0
  try clear hcz16_1
  try clear hcz3_0
  try clear hcz3_1
  try clear hfz13_1
  try clear hfz16_1
  try clear hfz3_1
  try clear p2
  obtain ⟨kq, x1001_1, HA, HJ1, HI0, HK, HB⟩ := hcut
  cases kq with
  | zero => exact absurd HA.out (by simp [token_scanner_hex.j1])
  | succ kj1 =>
   have H := HA.out
   clear HA
   simp only [token_scanner_hex.j1] at H
   have HC18 := Aside0.mk H
   clear H
   go_upto_region 4 with (fail)
   go_cut [45] (fun v45 wc => ∃ (kq : Nat) (x45_17 : Bool) (x1001_17 : Int), v45 = .bool x45_17 ∧ Aside0 (token_scanner_hex.j2 kq s0_1 x45_17 s0_0 x1001_17 = some (r1, r2)) ∧ Aside0 (kq ≤ kj1) ∧ Aside0 (IsS50 w0 wc g s0_0 x1001_17) ∧ Aside0 (KeepBut w wc g none) ∧ Aside0 (Below w0.heap.size w0 wc))
   case first =>
    have H := HC18.out
    clear HC18
    replace H := Option.bind_eq_some_iff.mp H
    obtain ⟨⟨t237, t238⟩, A190, H⟩ := H
    replace H : (if t237 = 59 then (token_scanner_hex.j2 kj1 s0_1 (t238 == s0_1) s0_0 t238) else (token_scanner_hex.j2 kj1 s0_1 true s0_0 t238)) = some (r1, r2) := H
    have A19 := Aside0.mk A190
    clear A190
    by_cases c20 : t237 = 59
    ·rw [if_pos c20] at H
     have c20b0 : (t237 == 59) = true := beq_iff_eq.mpr c20
     have c20b1 : (t237 != 59) = false := bne_eq_false_iff_eq.mpr c20
     clear c20
     (first|rw [c20b0]|(simp only [i64_w, i32_w];rw [c20b0])|skip)
     have H' := Aside0.mk H
     clear H
     go_wp2_with (first|((with_reducible refine gate_callee (f := 24) rfl ?_);refine goesL_ (some 36) rfl rfl Tryd.func24 (by kernel_rfl) rfl #[.pointer (some ⟨g, 0, none⟩), .int .i64 0] rfl (by (try simp only [List.map_toArray, List.map_cons, List.map_nil]);first|done|rfl|(simp only [List.length_drop, List.length_take];rfl)) ?_;(with_reducible refine (token_scanner_peek.calls g s0_0 x1001_1 0 t237 t238 w0 _ ?side1 ?side2 A19.out).mono ?_);(case side1 => repeat (first|(with_reducible first|exact HI0.out|apply IsS50.alloc|apply IsS50.drewN|apply IsS50.drew|apply IsS50.set_1)|exact HI0.out));(case side2 => repeat (first|(with_reducible first|exact HB.out|apply below_alloc|apply pw_below_drewN|apply below_drew1|refine below_set ?_ (IsS50.ge HI0.out))|exact HB.out));rintro e w21 ⟨rfl, hi, hb, hk⟩;refine ⟨_, rfl, ?_⟩;have n0_ := Aside0.mk (KeepBut.trans (by repeat (first|(with_reducible first|exact HK.out|apply KeepBut.set_|apply keep_drewN|apply keep_drew|apply keep_alloc)|exact HK.out)) hk (.inl rfl));have n1_ := Aside0.mk (hb);have n2_ := Aside0.mk (hi);clear HK;clear HB;clear HI0;have HK := n0_;have HB := n1_;have HI0 := n2_;clear n0_ n1_ n2_;(try clear hb);(try clear hb2);(try clear hk);(try clear hi);obtain ⟨ASz22_0, cSz22_0, HGz22, hgz22, ⟨HSz22_0, HCSz22_0⟩⟩ := HI0.out;have hcz22_0 := cellS50_0 HGz22;have hcz22_1 := cellS50_1 HGz22;have hfz22_1 := blk_frozen HGz22 1;have BKSz22 := Aside0.mk HGz22;clear HGz22 hgz22))
     go_meet
     case rel => exact ⟨_, ((t238 == s0_1)), (t238), (by first|rfl|(simp;done)|(simp [*];done)), H', ⟨by have := HJ1.out;first|omega|exact Nat.le_refl _⟩, ⟨by repeat (first|(with_reducible first|exact HI0.out|apply IsS50.alloc|apply IsS50.drewN|apply IsS50.drew|apply IsS50.set_1)|exact HI0.out)⟩, ⟨by repeat (first|(with_reducible first|exact HK.out|apply KeepBut.set_|apply keep_drewN|apply keep_drew|apply keep_alloc)|exact HK.out)⟩, ⟨by repeat (first|(with_reducible first|exact HB.out|apply below_alloc|apply pw_below_drewN|apply below_drew1|refine below_set ?_ (IsS50.ge HI0.out))|exact HB.out)⟩⟩
    ·rw [if_neg c20] at H
     have c20b0 : (t237 == 59) = false := beq_eq_false_iff_ne.mpr c20
     have c20b1 : (t237 != 59) = true := bne_iff_ne.mpr c20
     (first|rw [c20b0]|(simp only [i64_w, i32_w];rw [c20b0])|skip)
     have H' := Aside0.mk H
     clear H
     go_wp2_with (first|((with_reducible refine gate_callee (f := 24) rfl ?_);refine goesL_ (some 36) rfl rfl Tryd.func24 (by kernel_rfl) rfl #[.pointer (some ⟨g, 0, none⟩), .int .i64 0] rfl (by (try simp only [List.map_toArray, List.map_cons, List.map_nil]);first|done|rfl|(simp only [List.length_drop, List.length_take];rfl)) ?_;(with_reducible refine (token_scanner_peek.calls g s0_0 x1001_1 0 t237 t238 w0 _ ?side1 ?side2 A19.out).mono ?_);(case side1 => repeat (first|(with_reducible first|exact HI0.out|apply IsS50.alloc|apply IsS50.drewN|apply IsS50.drew|apply IsS50.set_1)|exact HI0.out));(case side2 => repeat (first|(with_reducible first|exact HB.out|apply below_alloc|apply pw_below_drewN|apply below_drew1|refine below_set ?_ (IsS50.ge HI0.out))|exact HB.out));rintro e w23 ⟨rfl, hi, hb, hk⟩;refine ⟨_, rfl, ?_⟩;have n0_ := Aside0.mk (KeepBut.trans (by repeat (first|(with_reducible first|exact HK.out|apply KeepBut.set_|apply keep_drewN|apply keep_drew|apply keep_alloc)|exact HK.out)) hk (.inl rfl));have n1_ := Aside0.mk (hb);have n2_ := Aside0.mk (hi);clear HK;clear HB;clear HI0;have HK := n0_;have HB := n1_;have HI0 := n2_;clear n0_ n1_ n2_;(try clear hb);(try clear hb2);(try clear hk);(try clear hi)))
     go_meet
     case rel => exact ⟨_, (true), (t238), (by first|rfl|(simp;done)|(simp [*];done)), H', ⟨by have := HJ1.out;first|omega|exact Nat.le_refl _⟩, ⟨by repeat (first|(with_reducible first|exact HI0.out|apply IsS50.alloc|apply IsS50.drewN|apply IsS50.drew|apply IsS50.set_1)|exact HI0.out)⟩, ⟨by repeat (first|(with_reducible first|exact HK.out|apply KeepBut.set_|apply keep_drewN|apply keep_drew|apply keep_alloc)|exact HK.out)⟩, ⟨by repeat (first|(with_reducible first|exact HB.out|apply below_alloc|apply pw_below_drewN|apply below_drew1|refine below_set ?_ (IsS50.ge HI0.out))|exact HB.out)⟩⟩
   case rest =>
    clear HC18
    try clear c1
    try clear c2
    try clear p2
    try clear c5
    try clear c6
    try clear p6
    try clear c7
    try clear c7b0
    try clear c7b1
    try clear c10
    try clear c10b0
    try clear c14
    try clear c20
    try clear c20b0
    try clear c20b1
    try clear hcz13_0
    try clear hcz13_1
    try clear hcz16_0
    try clear hcz16_1
    try clear hcz22_0
    try clear hcz22_1
    try clear hcz3_0
    try clear hcz3_1
    try clear hfz13_1
    try clear hfz16_1
    try clear hfz22_1
    try clear hfz3_1
    try clear p2
    try clear p6
    obtain ⟨kq, x45_17, x1001_17, rfl, HA, HJ17, HI0, HK, HB⟩ := hcut
    cases kq with
    | zero => exact absurd HA.out (by simp [token_scanner_hex.j2])
    | succ kj17 =>
     have H := HA.out
     clear HA
     simp only [token_scanner_hex.j2] at H
     by_cases c24 : x45_17 = true
     ·subst c24
      have H1 : (some ((-1), x1001_17)) = some (r1, r2) := by rw [if_pos rfl] at H; exact H
      clear H
      have H := H1
      clear H1
      simp only [Option.some.injEq, Prod.mk.injEq] at H
      obtain ⟨rfl, rfl⟩ := H
      go_wp2
      go_ret
      exact ⟨by first|rfl|(simp [errW_none, errW_some] <;> rfl)|(simp [*, errW_none, errW_some] <;> rfl), by repeat (first|(with_reducible first|exact HI0.out|apply IsS50.alloc|apply IsS50.drewN|apply IsS50.drew|apply IsS50.set_1)|exact HI0.out), by repeat (first|(with_reducible first|exact HB.out|apply below_alloc|apply pw_below_drewN|apply below_drew1|refine below_set ?_ (IsS50.ge HI0.out))|exact HB.out), by repeat (first|(with_reducible first|exact HK.out|apply KeepBut.set_|apply keep_drewN|apply keep_drew|apply keep_alloc)|exact HK.out)⟩
     ·replace c24 := Bool.eq_false_iff.mpr c24
      subst c24
      have H1 : (if 0 ≤ s0_1 then (if s0_1 ≤ x1001_17 then (if x1001_17 ≤ (s0_0.length : Int) then ((utf_Encode.f kj17 ((s0_0.take (x1001_17 : Int).toNat).drop (s0_1 : Int).toNat)).bind fun bt240 => (if 1 + (strOfNums bt240.1).size ≤ 9223372036854775807 then ((utf_Named.f kj17 ((⟨#[120]⟩ : ByteArray) ++ (strOfNums bt240.1))).bind fun bt244 => (if bt244.2 = true then (some (bt244.1, wrap64 (x1001_17 + 1))) else (some ((-1), wrap64 (x1001_17 + 1))))) else (none))) else (none)) else (none)) else (none)) = some (r1, r2) := by rw [if_neg (show ¬ (false = true) by decide)] at H; exact H
      clear H
      have H := H1
      clear H1
      by_cases c25 : 0 ≤ s0_1
      ·rw [if_pos c25] at H
       have c25b0 := eq_true c25
       have c25b1 : decide (0 ≤ s0_1) = true := decide_eq_true c25
       clear c25
       by_cases c26 : s0_1 ≤ x1001_17
       ·rw [if_pos c26] at H
        have c26b0 := eq_true c26
        have c26b1 : decide (s0_1 ≤ x1001_17) = true := decide_eq_true c26
        clear c26
        by_cases c27 : x1001_17 ≤ (s0_0.length : Int)
        ·rw [if_pos c27] at H
         have c27b0 := eq_true c27
         have c27b1 : decide (x1001_17 ≤ (s0_0.length : Int)) = true := decide_eq_true c27
         clear c27
         replace H := Option.bind_eq_some_iff.mp H
         obtain ⟨⟨t240, t241⟩, A280, H⟩ := H
         replace H : (if 1 + (strOfNums t240).size ≤ 9223372036854775807 then ((utf_Named.f kj17 ((⟨#[120]⟩ : ByteArray) ++ (strOfNums t240))).bind fun bt244 => (if bt244.2 = true then (some (bt244.1, wrap64 (x1001_17 + 1))) else (some ((-1), wrap64 (x1001_17 + 1))))) else (none)) = some (r1, r2) := H
         have A28 := Aside0.mk A280
         clear A280
         by_cases c29 : 1 + (strOfNums t240).size ≤ 9223372036854775807
         ·rw [if_pos c29] at H
          have c29b0 := eq_true c29
          have c29b1 : decide (1 + (strOfNums t240).size ≤ 9223372036854775807) = true := decide_eq_true c29
          try have c29b2 : (9223372036854775807 < 1 + (strOfNums t240).size) = False := eq_false (Nat.not_lt.2 c29)
          replace H := Option.bind_eq_some_iff.mp H
          obtain ⟨⟨t244, t245⟩, A300, H⟩ := H
          replace H : (if t245 = true then (some (t244, wrap64 (x1001_17 + 1))) else (some ((-1), wrap64 (x1001_17 + 1)))) = some (r1, r2) := H
          have A30 := Aside0.mk A300
          clear A300
          by_cases c31 : t245 = true
          ·subst c31
           have H1 : (some (t244, wrap64 (x1001_17 + 1))) = some (r1, r2) := by rw [if_pos rfl] at H; exact H
           clear H
           have H := H1
           clear H1
           simp only [Option.some.injEq, Prod.mk.injEq] at H
           obtain ⟨rfl, rfl⟩ := H
           try go_wp2
           have n0_ := Aside0.mk (IsS50.drew HI0.out)
           have n1_ := Aside0.mk (keep_drew HK.out)
           have n2_ := Aside0.mk (below_drew1 HB.out)
           clear HI0
           clear HK
           clear HB
           have HI0 := n0_
           have HK := n1_
           have HB := n2_
           clear n0_ n1_ n2_
           obtain ⟨ASz33_0, cSz33_0, HGz33, hgz33, ⟨HSz33_0, HCSz33_0⟩⟩ := HI0.out
           have hcz33_0 := cellS50_0 HGz33
           have hcz33_1 := cellS50_1 HGz33
           have hfz33_1 := blk_frozen HGz33 1
           have BKSz33 := Aside0.mk HGz33
           clear HGz33 hgz33
           have HRst34 := Aside0.mk HSz33_0
           have HCst34 := Aside0.mk HCSz33_0
           obtain ⟨i034, hi034, _, hsz34, _⟩ := info_parts info3
           obtain ⟨A34, hcut34, hA34, hC34⟩ := print_mid_of (P := Tryd.prog) (Value.int .i64) 0 22 3 .i64 .i64 Tryd.underlying22 hi034 hsz34 ASz33_0 cSz33_0 s0_0 s0_1 x1001_17 (of_decide_eq_true (by first | (with_reducible assumption) | assumption)) (by first | omega | exact of_decide_eq_true (by first | (with_reducible assumption) | assumption)) (of_decide_eq_true (by first | (with_reducible assumption) | assumption)) HCst34.out
           have HR239 := Aside0.mk (Kd.C_of_reads (h1 := fun _ => rfl) (hA34 _ (Kd.reads_of_C HRst34.out)))
           have HC239 := Aside0.mk hC34
           clear hA34 hC34 hi034 hsz34
           refine start_ (n := 16) (S := fun w' => w'.cell? ⟨g, 0, none⟩ = some (.slice ASz33_0 s0_0.length cSz33_0) ∧ w'.cell? ⟨g, 1, none⟩ = some (.int .i64 x1001_17)) (ds := []) #[false, false, false, false, false, false, false, false, false, false, false, false, false, false, false, false] (by kernel_rfl) rfl rfl ⟨(blk_cell BKSz33.out 0).trans rfl, (blk_cell BKSz33.out 1).trans rfl⟩ (fun hHeld => ?_); refine with_tabW token_scanner_hex.tab6 token_scanner_hex.bits6 (fun HT_ HW_ => ?_)
           generalize wc.drew = w32 at HI0 HK HB BKSz33 HR239 hHeld ⊢
           refine pure_ (i := 0) (N := some 47) (v := ?_) (a' := ?_) #[true, false, false, false, false, false, false, false, false, false, false, false, false, false, false, false] rfl rfl (any_of HT_.out (by kernel_rfl)) (fun _ _ _ h => h) (Or.inl ⟨by rfl, ?_⟩) ?_ ?_
           rotate_left
           ·intro w'
            go_simp
            with_reducible rfl
           rotate_left
           ·simp only [Act.put, List.setIfInBounds_toArray, List.set_cons_zero, List.set_cons_succ, i64_w, i32_w]
            rfl
           refine pure_ (i := 1) (N := some 48) (v := ?_) (a' := ?_) #[true, true, false, false, false, false, false, false, false, false, false, false, false, false, false, false] rfl rfl (any_of HT_.out (by kernel_rfl)) (fun _ _ _ h => h) (Or.inl ⟨by rfl, ?_⟩) ?_ ?_
           rotate_left
           ·intro w'
            go_simp
            with_reducible rfl
           rotate_left
           ·simp only [Act.put, List.setIfInBounds_toArray, List.set_cons_zero, List.set_cons_succ, i64_w, i32_w]
            rfl
           refine pure_ (i := 2) (N := some 49) (v := ?_) (a' := ?_) #[true, true, true, false, false, false, false, false, false, false, false, false, false, false, false, false] rfl rfl (any_of HT_.out (by kernel_rfl)) (fun _ _ _ h => h) (Or.inl ⟨by rfl, ?_⟩) ?_ ?_
           rotate_left
           ·intro w'
            go_simp
            with_reducible rfl
           rotate_left
           ·simp only [Act.put, List.setIfInBounds_toArray, List.set_cons_zero, List.set_cons_succ, i64_w, i32_w]
            rfl
           refine pure_ (i := 4) (N := some 51) (v := ?_) (a' := ?_) #[true, true, true, false, true, false, false, false, false, false, false, false, false, false, false, false] rfl rfl (any_of HT_.out (by kernel_rfl)) (fun _ _ _ h => h) (Or.inl ⟨by rfl, ?_⟩) ?_ ?_
           rotate_left
           ·intro w'
            go_simp
            with_reducible rfl
           rotate_left
           ·simp only [Act.put, List.setIfInBounds_toArray, List.set_cons_zero, List.set_cons_succ, i64_w, i32_w]
            rfl
           refine pure_ (i := 5) (N := some 52) (v := ?_) (a' := ?_) #[true, true, true, false, true, true, false, false, false, false, false, false, false, false, false, false] rfl rfl (any_of HT_.out (by kernel_rfl)) (fun _ _ _ h => h) (Or.inl ⟨by rfl, ?_⟩) ?_ ?_
           rotate_left
           ·intro w'
            go_simp
            with_reducible rfl
           rotate_left
           ·simp only [Act.put, List.setIfInBounds_toArray, List.set_cons_zero, List.set_cons_succ, i64_w, i32_w]
            rfl
           refine pure_ (i := 6) (N := some 53) (v := ?_) (a' := ?_) #[true, true, true, false, true, true, true, false, false, false, false, false, false, false, false, false] rfl rfl (any_of HT_.out (by kernel_rfl)) (fun _ _ _ h => h) (Or.inl ⟨by rfl, ?_⟩) ?_ ?_
           rotate_left
           ·intro w'
            go_simp
            with_reducible rfl
           rotate_left
           ·simp only [Act.put, List.setIfInBounds_toArray, List.set_cons_zero, List.set_cons_succ, i64_w, i32_w]
            rfl
           refine pure_ (i := 7) (N := some 54) (v := ?_) (a' := ?_) #[true, true, true, false, true, true, true, true, false, false, false, false, false, false, false, false] rfl rfl (any_of HT_.out (by kernel_rfl)) (fun _ _ _ h => h) (Or.inl ⟨by rfl, ?_⟩) ?_ ?_
           rotate_left
           ·intro w'
            go_simp
            with_reducible rfl
           rotate_left
           ·simp only [Act.put, List.setIfInBounds_toArray, List.set_cons_zero, List.set_cons_succ, i64_w, i32_w]
            rfl
           refine take_ (i := 3) (N := some 50) (v := ?_) (a' := ?_) #[true, true, true, true, true, true, true, true, false, false, false, false, false, false, false, false] rfl rfl (take_ofW HT_.out HW_.out (by kernel_rfl)) (fun _ _ _ h => h) (Or.inl ⟨by rfl, ?_⟩) hHeld ?_ ?_
           rotate_left
           ·rintro w' ⟨s0, s1⟩
            go_simp
            with_reducible rfl
           rotate_left
           ·simp only [Act.put, List.setIfInBounds_toArray, List.set_cons_zero, List.set_cons_succ, i64_w, i32_w]
            rfl
           refine take_ (i := 8) (N := some 55) (v := ?_) (a' := ?_) #[true, true, true, true, true, true, true, true, true, false, false, false, false, false, false, false] rfl rfl (take_ofW HT_.out HW_.out (by kernel_rfl)) (fun _ _ _ h => h) (Or.inl ⟨by rfl, ?_⟩) hHeld ?_ ?_
           rotate_left
           ·rintro w' ⟨s0, s1⟩
            go_simp
            with_reducible rfl
           rotate_left
           ·simp only [Act.put, List.setIfInBounds_toArray, List.set_cons_zero, List.set_cons_succ, i64_w, i32_w]
            rfl
           refine pure_ (i := 9) (N := some 56) (v := ?_) (a' := ?_) #[true, true, true, true, true, true, true, true, true, true, false, false, false, false, false, false] rfl rfl (any_of HT_.out (by kernel_rfl)) (fun _ _ _ h => h) (Or.inl ⟨by rfl, ?_⟩) ?_ ?_
           rotate_left
           ·intro w'
            go_simp
            with_reducible rfl
           rotate_left
           ·simp only [Act.put, List.setIfInBounds_toArray, List.set_cons_zero, List.set_cons_succ, i64_w, i32_w]
            rfl
           refine one_ (i := 10) (N := some 57) #[true, true, true, true, true, true, true, true, true, true, true, false, false, false, false, false] rfl rfl (one_of HT_.out (by kernel_rfl)) (by decide) (fun K hK => ?_)
           refine goes_ Tryd.func55 (by kernel_rfl) rfl #[.slice A34 ((s0_0.take (x1001_17 : Int).toNat).drop (s0_1 : Int).toNat).length (cSz33_0 - s0_1.toNat)] (by rfl) rfl rfl (by (try simp only [List.map_toArray, List.map_cons, List.map_nil]); first | done | (rw [show ((s0_0.take (x1001_17 : Int).toNat).drop (s0_1 : Int).toNat).length = (x1001_17.toNat - s0_1.toNat) from (by rw [List.length_drop, List.length_take]; have h_ : (x1001_17 : Int) ≤ (s0_0.length : Int) := of_decide_eq_true (by first | (with_reducible assumption) | assumption); omega)] <;> rfl) | rfl | (simp only [List.length_drop, List.length_take]; rfl)) ?_
           with_reducible refine (utf_Encode.calls kj17 _ _ ((s0_0.take (x1001_17 : Int).toNat).drop (s0_1 : Int).toNat) t240 t241 _ ?side1 ?side2 A28.out).mono ?_
           (case side1 => exact Kd.C_below HR239.out (by repeat (first|(with_reducible first|exact HB.out|apply below_alloc|apply pw_below_drewN|apply below_drew1|refine below_set ?_ (IsS50.ge HI0.out)|refine below_set ?_ GE0.out)|exact HB.out)))
           (case side2 => exact HC239.out)
           rintro e w35 ⟨v242, rfl, ho0, hb⟩
           refine ⟨_, rfl, ?_⟩
           have n0_ := Aside0.mk (Kd.R_lower ho0 (keep_size (w := w) (g := g) (row := none) (by repeat (first|(with_reducible first|exact HK.out|apply KeepBut.set_|apply keep_drewN|apply keep_drew|apply keep_alloc|refine keep_far ?_ GW0.out _)|exact HK.out))))
           have n1_ := Aside0.mk (IsS50.below (by repeat (first|(with_reducible first|exact HI0.out|apply IsS50.alloc|apply IsS50.drewN|apply IsS50.drew|apply IsS50.set_1|refine IsS50.far ?_ NB0_0.out _)|exact HI0.out)) hb)
           have n2_ := Aside0.mk (blk_below (g := g) (o := .cells #[.slice ASz33_0 s0_0.length cSz33_0, .int .i64 x1001_17] 50 (0, 0)) (by (with_reducible repeat (first|refine blk_drewN ?_ _|refine blk_drew ?_|refine blk_alloc ?_ _));exact BKSz33.out) hb)
           have n3_ := Aside0.mk (KeepBut.trans (by repeat (first|(with_reducible first|exact HK.out|apply KeepBut.set_|apply keep_drewN|apply keep_drew|apply keep_alloc|refine keep_far ?_ GW0.out _)|exact HK.out)) (KeepBut.of_below hb g none) (.inl rfl))
           have n4_ := Aside0.mk (below_step (by repeat (first|(with_reducible first|exact HB.out|apply below_alloc|apply pw_below_drewN|apply below_drew1|refine below_set ?_ (IsS50.ge HI0.out)|refine below_set ?_ GE0.out)|exact HB.out)) hb)
           clear HI0
           clear BKSz33
           clear HK
           clear HB
           have HO243 := n0_
           have HI0 := n1_
           have BKSz33 := n2_
           have HK := n3_
           have HB := n4_
           clear n0_ n1_ n2_ n3_ n4_
           (try clear hb)
           (try clear hb2)
           (try clear hk)
           (try clear hi)
           (try clear ho0)
           refine hK.out _ _ ⟨(blk_cell BKSz33.out 0).trans rfl, (blk_cell BKSz33.out 1).trans rfl⟩ (fun hHeld => ?_)
           clear hK K
           refine norm_ (a' := ?_) ?_ ?_
           rotate_left
           ·show Act.put _ (some 57) _ = _
            simp only [Act.put, List.setIfInBounds_toArray, List.set_cons_zero, List.set_cons_succ, i64_w, i32_w]
            rfl
           refine pure_ (i := 11) (N := some 46) (v := ?_) (a' := ?_) #[true, true, true, true, true, true, true, true, true, true, true, true, false, false, false, false] rfl rfl (any_of HT_.out (by kernel_rfl)) (fun _ _ _ h => h) (Or.inl ⟨by rfl, ?_⟩) ?_ ?_
           rotate_left
           ·intro w'
            go_simp
            with_reducible rfl
           rotate_left
           ·simp only [Act.put, List.setIfInBounds_toArray, List.set_cons_zero, List.set_cons_succ, i64_w, i32_w]
            rfl
           refine pure_ (i := 12) (N := some 58) (v := ?_) (a' := ?_) #[true, true, true, true, true, true, true, true, true, true, true, true, true, false, false, false] rfl rfl (any_of HT_.out (by kernel_rfl)) (fun _ _ _ h => h) (Or.inl ⟨by rfl, ?_⟩) ?_ ?_
           rotate_left
           ·intro w'
            go_simp
            with_reducible rfl
           rotate_left
           ·simp only [Act.put, List.setIfInBounds_toArray, List.set_cons_zero, List.set_cons_succ, i64_w, i32_w]
            rfl
           refine pure_ (i := 13) (N := some 59) (v := ?_) (a' := ?_) #[true, true, true, true, true, true, true, true, true, true, true, true, true, true, false, false] rfl rfl (any_of HT_.out (by kernel_rfl)) (fun _ _ _ h => h) (Or.inl ⟨by rfl, ?_⟩) ?_ ?_
           rotate_left
           ·intro w'
            go_simp
            with_reducible rfl
           rotate_left
           ·simp only [Act.put, List.setIfInBounds_toArray, List.set_cons_zero, List.set_cons_succ, i64_w, i32_w]
            rfl
           refine pure_ (i := 14) (N := some 4) (v := ?_) (a' := ?_) #[true, true, true, true, true, true, true, true, true, true, true, true, true, true, true, false] rfl rfl (any_of HT_.out (by kernel_rfl)) (fun _ _ _ h => h) (Or.inl ⟨by rfl, ?_⟩) ?_ ?_
           rotate_left
           ·intro w'
            go_simp
            with_reducible rfl
           rotate_left
           ·simp only [Act.put, List.setIfInBounds_toArray, List.set_cons_zero, List.set_cons_succ, i64_w, i32_w]
            rfl
           refine pure_ (i := 15) (N := some 5) (v := ?_) (a' := ?_) #[true, true, true, true, true, true, true, true, true, true, true, true, true, true, true, true] rfl rfl (any_of HT_.out (by kernel_rfl)) (fun _ _ _ h => h) (Or.inl ⟨by rfl, ?_⟩) ?_ ?_
           rotate_left
           ·intro w'
            go_simp
            with_reducible rfl
           rotate_left
           ·simp only [Act.put, List.setIfInBounds_toArray, List.set_cons_zero, List.set_cons_succ, i64_w, i32_w]
            rfl
           refine done_ (done_of HT_.out (by kernel_rfl)) ?_
           obtain ⟨ASz36_0, cSz36_0, HGz36, hgz36, ⟨HSz36_0, HCSz36_0⟩⟩ := HI0.out
           have hcz36_0 := cellS50_0 HGz36
           have hcz36_1 := cellS50_1 HGz36
           have hfz36_1 := blk_frozen HGz36 1
           have BKSz36 := Aside0.mk HGz36
           clear HGz36 hgz36
           have hcv37 := own_string (P := Tryd.prog) Tryd.underlying27 Tryd.underlying5 Tryd.underlying9 (Kd.own_of_R ((Kd.R_mono (Kd.R_far (p := ⟨g, 1, none⟩) (IsS50.apart HI0.out HO243.out (by decide)) (fun _ hk => hk.2) (.int .i64 (wrap64 (x1001_17 + 1)))) (fun _ h_ => h_.1))))
           try go_wp2_with (first|((with_reducible refine gate_callee (f := 57) rfl ?_);refine goesL_ (some 71) rfl rfl Tryd.func57 (by kernel_rfl) rfl #[.string ((⟨#[120]⟩ : ByteArray) ++ (strOfNums t240))] rfl (by (try simp only [List.map_toArray, List.map_cons, List.map_nil]);first|done|rfl|(simp only [List.length_drop, List.length_take];rfl)) ?_;(with_reducible refine (utf_Named.calls kj17 ((⟨#[120]⟩ : ByteArray) ++ (strOfNums t240)) t244 true _ ?side1 A30.out).mono ?_);(case side1 => exact LD.below HLD.out (by repeat (first|(with_reducible first|exact HB.out|apply below_alloc|apply pw_below_drewN|apply below_drew1|refine below_set ?_ (IsS50.ge HI0.out))|exact HB.out)));rintro e w38 ⟨rfl, hb⟩;refine ⟨_, rfl, ?_⟩;have n0_ := Aside0.mk (Kd.R_below (by (with_reducible repeat (first|apply Kd.R_alloc|apply Kd.R_drewN|apply Kd.R_drew));exact (Kd.R_mono (Kd.R_far (p := ⟨g, 1, none⟩) (IsS50.apart HI0.out HO243.out (by decide)) (fun _ hk => hk.2) (.int .i64 (wrap64 (x1001_17 + 1)))) (fun _ h_ => h_.1))) hb);have n1_ := Aside0.mk (IsS50.below (show IsS50 w0 (w35.setCell ⟨g, 1, none⟩ (.int .i64 (wrap64 (x1001_17 + 1)))) g s0_0 (wrap64 (x1001_17 + 1)) from by repeat (first|(with_reducible first|exact HI0.out|apply IsS50.alloc|apply IsS50.drewN|apply IsS50.drew|apply IsS50.set_1)|exact HI0.out)) hb);have n2_ := Aside0.mk (KeepBut.trans (by repeat (first|(with_reducible first|exact HK.out|apply KeepBut.set_|apply keep_drewN|apply keep_drew|apply keep_alloc)|exact HK.out)) (KeepBut.of_below hb g none) (.inl rfl));have n3_ := Aside0.mk (below_step (by repeat (first|(with_reducible first|exact HB.out|apply below_alloc|apply pw_below_drewN|apply below_drew1|refine below_set ?_ (IsS50.ge HI0.out))|exact HB.out)) hb);clear HO243;clear HI0;clear HK;clear HB;have HO243 := n0_;have HI0 := n1_;have HK := n2_;have HB := n3_;clear n0_ n1_ n2_ n3_;(try clear hb);(try clear hb2);(try clear hk);(try clear hi)))
           go_ret
           exact ⟨by first|rfl|(simp [errW_none, errW_some] <;> rfl)|(simp [*, errW_none, errW_some] <;> rfl), by repeat (first|(with_reducible first|exact HI0.out|apply IsS50.alloc|apply IsS50.drewN|apply IsS50.drew|apply IsS50.set_1)|exact HI0.out), by repeat (first|(with_reducible first|exact HB.out|apply below_alloc|apply pw_below_drewN|apply below_drew1|refine below_set ?_ (IsS50.ge HI0.out))|exact HB.out), by repeat (first|(with_reducible first|exact HK.out|apply KeepBut.set_|apply keep_drewN|apply keep_drew|apply keep_alloc)|exact HK.out)⟩
          ·replace c31 := Bool.eq_false_iff.mpr c31
           subst c31
           have H1 : (some ((-1), wrap64 (x1001_17 + 1))) = some (r1, r2) := by rw [if_neg (show ¬ (false = true) by decide)] at H; exact H
           clear H
           have H := H1
           clear H1
           simp only [Option.some.injEq, Prod.mk.injEq] at H
           obtain ⟨rfl, rfl⟩ := H
           try go_wp2
           have n0_ := Aside0.mk (IsS50.drew HI0.out)
           have n1_ := Aside0.mk (keep_drew HK.out)
           have n2_ := Aside0.mk (below_drew1 HB.out)
           clear HI0
           clear HK
           clear HB
           have HI0 := n0_
           have HK := n1_
           have HB := n2_
           clear n0_ n1_ n2_
           obtain ⟨ASz40_0, cSz40_0, HGz40, hgz40, ⟨HSz40_0, HCSz40_0⟩⟩ := HI0.out
           have hcz40_0 := cellS50_0 HGz40
           have hcz40_1 := cellS50_1 HGz40
           have hfz40_1 := blk_frozen HGz40 1
           have BKSz40 := Aside0.mk HGz40
           clear HGz40 hgz40
           have HRst41 := Aside0.mk HSz40_0
           have HCst41 := Aside0.mk HCSz40_0
           obtain ⟨i041, hi041, _, hsz41, _⟩ := info_parts info3
           obtain ⟨A41, hcut41, hA41, hC41⟩ := print_mid_of (P := Tryd.prog) (Value.int .i64) 0 22 3 .i64 .i64 Tryd.underlying22 hi041 hsz41 ASz40_0 cSz40_0 s0_0 s0_1 x1001_17 (of_decide_eq_true (by first | (with_reducible assumption) | assumption)) (by first | omega | exact of_decide_eq_true (by first | (with_reducible assumption) | assumption)) (of_decide_eq_true (by first | (with_reducible assumption) | assumption)) HCst41.out
           have HR239 := Aside0.mk (Kd.C_of_reads (h1 := fun _ => rfl) (hA41 _ (Kd.reads_of_C HRst41.out)))
           have HC239 := Aside0.mk hC41
           clear hA41 hC41 hi041 hsz41
           refine start_ (n := 16) (S := fun w' => w'.cell? ⟨g, 0, none⟩ = some (.slice ASz40_0 s0_0.length cSz40_0) ∧ w'.cell? ⟨g, 1, none⟩ = some (.int .i64 x1001_17)) (ds := []) #[false, false, false, false, false, false, false, false, false, false, false, false, false, false, false, false] (by kernel_rfl) rfl rfl ⟨(blk_cell BKSz40.out 0).trans rfl, (blk_cell BKSz40.out 1).trans rfl⟩ (fun hHeld => ?_); refine with_tabW token_scanner_hex.tab6 token_scanner_hex.bits6 (fun HT_ HW_ => ?_)
           generalize wc.drew = w39 at HI0 HK HB BKSz40 HR239 hHeld ⊢
           refine pure_ (i := 0) (N := some 47) (v := ?_) (a' := ?_) #[true, false, false, false, false, false, false, false, false, false, false, false, false, false, false, false] rfl rfl (any_of HT_.out (by kernel_rfl)) (fun _ _ _ h => h) (Or.inl ⟨by rfl, ?_⟩) ?_ ?_
           rotate_left
           ·intro w'
            go_simp
            with_reducible rfl
           rotate_left
           ·simp only [Act.put, List.setIfInBounds_toArray, List.set_cons_zero, List.set_cons_succ, i64_w, i32_w]
            rfl
           refine pure_ (i := 1) (N := some 48) (v := ?_) (a' := ?_) #[true, true, false, false, false, false, false, false, false, false, false, false, false, false, false, false] rfl rfl (any_of HT_.out (by kernel_rfl)) (fun _ _ _ h => h) (Or.inl ⟨by rfl, ?_⟩) ?_ ?_
           rotate_left
           ·intro w'
            go_simp
            with_reducible rfl
           rotate_left
           ·simp only [Act.put, List.setIfInBounds_toArray, List.set_cons_zero, List.set_cons_succ, i64_w, i32_w]
            rfl
           refine pure_ (i := 2) (N := some 49) (v := ?_) (a' := ?_) #[true, true, true, false, false, false, false, false, false, false, false, false, false, false, false, false] rfl rfl (any_of HT_.out (by kernel_rfl)) (fun _ _ _ h => h) (Or.inl ⟨by rfl, ?_⟩) ?_ ?_
           rotate_left
           ·intro w'
            go_simp
            with_reducible rfl
           rotate_left
           ·simp only [Act.put, List.setIfInBounds_toArray, List.set_cons_zero, List.set_cons_succ, i64_w, i32_w]
            rfl
           refine pure_ (i := 4) (N := some 51) (v := ?_) (a' := ?_) #[true, true, true, false, true, false, false, false, false, false, false, false, false, false, false, false] rfl rfl (any_of HT_.out (by kernel_rfl)) (fun _ _ _ h => h) (Or.inl ⟨by rfl, ?_⟩) ?_ ?_
           rotate_left
           ·intro w'
            go_simp
            with_reducible rfl
           rotate_left
           ·simp only [Act.put, List.setIfInBounds_toArray, List.set_cons_zero, List.set_cons_succ, i64_w, i32_w]
            rfl
           refine pure_ (i := 5) (N := some 52) (v := ?_) (a' := ?_) #[true, true, true, false, true, true, false, false, false, false, false, false, false, false, false, false] rfl rfl (any_of HT_.out (by kernel_rfl)) (fun _ _ _ h => h) (Or.inl ⟨by rfl, ?_⟩) ?_ ?_
           rotate_left
           ·intro w'
            go_simp
            with_reducible rfl
           rotate_left
           ·simp only [Act.put, List.setIfInBounds_toArray, List.set_cons_zero, List.set_cons_succ, i64_w, i32_w]
            rfl
           refine pure_ (i := 6) (N := some 53) (v := ?_) (a' := ?_) #[true, true, true, false, true, true, true, false, false, false, false, false, false, false, false, false] rfl rfl (any_of HT_.out (by kernel_rfl)) (fun _ _ _ h => h) (Or.inl ⟨by rfl, ?_⟩) ?_ ?_
           rotate_left
           ·intro w'
            go_simp
            with_reducible rfl
           rotate_left
           ·simp only [Act.put, List.setIfInBounds_toArray, List.set_cons_zero, List.set_cons_succ, i64_w, i32_w]
            rfl
           refine pure_ (i := 7) (N := some 54) (v := ?_) (a' := ?_) #[true, true, true, false, true, true, true, true, false, false, false, false, false, false, false, false] rfl rfl (any_of HT_.out (by kernel_rfl)) (fun _ _ _ h => h) (Or.inl ⟨by rfl, ?_⟩) ?_ ?_
           rotate_left
           ·intro w'
            go_simp
            with_reducible rfl
           rotate_left
           ·simp only [Act.put, List.setIfInBounds_toArray, List.set_cons_zero, List.set_cons_succ, i64_w, i32_w]
            rfl
           refine take_ (i := 3) (N := some 50) (v := ?_) (a' := ?_) #[true, true, true, true, true, true, true, true, false, false, false, false, false, false, false, false] rfl rfl (take_ofW HT_.out HW_.out (by kernel_rfl)) (fun _ _ _ h => h) (Or.inl ⟨by rfl, ?_⟩) hHeld ?_ ?_
           rotate_left
           ·rintro w' ⟨s0, s1⟩
            go_simp
            with_reducible rfl
           rotate_left
           ·simp only [Act.put, List.setIfInBounds_toArray, List.set_cons_zero, List.set_cons_succ, i64_w, i32_w]
            rfl
           refine take_ (i := 8) (N := some 55) (v := ?_) (a' := ?_) #[true, true, true, true, true, true, true, true, true, false, false, false, false, false, false, false] rfl rfl (take_ofW HT_.out HW_.out (by kernel_rfl)) (fun _ _ _ h => h) (Or.inl ⟨by rfl, ?_⟩) hHeld ?_ ?_
           rotate_left
           ·rintro w' ⟨s0, s1⟩
            go_simp
            with_reducible rfl
           rotate_left
           ·simp only [Act.put, List.setIfInBounds_toArray, List.set_cons_zero, List.set_cons_succ, i64_w, i32_w]
            rfl
           refine pure_ (i := 9) (N := some 56) (v := ?_) (a' := ?_) #[true, true, true, true, true, true, true, true, true, true, false, false, false, false, false, false] rfl rfl (any_of HT_.out (by kernel_rfl)) (fun _ _ _ h => h) (Or.inl ⟨by rfl, ?_⟩) ?_ ?_
           rotate_left
           ·intro w'
            go_simp
            with_reducible rfl
           rotate_left
           ·simp only [Act.put, List.setIfInBounds_toArray, List.set_cons_zero, List.set_cons_succ, i64_w, i32_w]
            rfl
           refine one_ (i := 10) (N := some 57) #[true, true, true, true, true, true, true, true, true, true, true, false, false, false, false, false] rfl rfl (one_of HT_.out (by kernel_rfl)) (by decide) (fun K hK => ?_)
           refine goes_ Tryd.func55 (by kernel_rfl) rfl #[.slice A41 ((s0_0.take (x1001_17 : Int).toNat).drop (s0_1 : Int).toNat).length (cSz40_0 - s0_1.toNat)] (by rfl) rfl rfl (by (try simp only [List.map_toArray, List.map_cons, List.map_nil]); first | done | (rw [show ((s0_0.take (x1001_17 : Int).toNat).drop (s0_1 : Int).toNat).length = (x1001_17.toNat - s0_1.toNat) from (by rw [List.length_drop, List.length_take]; have h_ : (x1001_17 : Int) ≤ (s0_0.length : Int) := of_decide_eq_true (by first | (with_reducible assumption) | assumption); omega)] <;> rfl) | rfl | (simp only [List.length_drop, List.length_take]; rfl)) ?_
           with_reducible refine (utf_Encode.calls kj17 _ _ ((s0_0.take (x1001_17 : Int).toNat).drop (s0_1 : Int).toNat) t240 t241 _ ?side1 ?side2 A28.out).mono ?_
           (case side1 => exact Kd.C_below HR239.out (by repeat (first|(with_reducible first|exact HB.out|apply below_alloc|apply pw_below_drewN|apply below_drew1|refine below_set ?_ (IsS50.ge HI0.out)|refine below_set ?_ GE0.out)|exact HB.out)))
           (case side2 => exact HC239.out)
           rintro e w42 ⟨v242, rfl, ho0, hb⟩
           refine ⟨_, rfl, ?_⟩
           have n0_ := Aside0.mk (Kd.R_lower ho0 (keep_size (w := w) (g := g) (row := none) (by repeat (first|(with_reducible first|exact HK.out|apply KeepBut.set_|apply keep_drewN|apply keep_drew|apply keep_alloc|refine keep_far ?_ GW0.out _)|exact HK.out))))
           have n1_ := Aside0.mk (IsS50.below (by repeat (first|(with_reducible first|exact HI0.out|apply IsS50.alloc|apply IsS50.drewN|apply IsS50.drew|apply IsS50.set_1|refine IsS50.far ?_ NB0_0.out _)|exact HI0.out)) hb)
           have n2_ := Aside0.mk (blk_below (g := g) (o := .cells #[.slice ASz40_0 s0_0.length cSz40_0, .int .i64 x1001_17] 50 (0, 0)) (by (with_reducible repeat (first|refine blk_drewN ?_ _|refine blk_drew ?_|refine blk_alloc ?_ _));exact BKSz40.out) hb)
           have n3_ := Aside0.mk (KeepBut.trans (by repeat (first|(with_reducible first|exact HK.out|apply KeepBut.set_|apply keep_drewN|apply keep_drew|apply keep_alloc|refine keep_far ?_ GW0.out _)|exact HK.out)) (KeepBut.of_below hb g none) (.inl rfl))
           have n4_ := Aside0.mk (below_step (by repeat (first|(with_reducible first|exact HB.out|apply below_alloc|apply pw_below_drewN|apply below_drew1|refine below_set ?_ (IsS50.ge HI0.out)|refine below_set ?_ GE0.out)|exact HB.out)) hb)
           clear HI0
           clear BKSz40
           clear HK
           clear HB
           have HO243 := n0_
           have HI0 := n1_
           have BKSz40 := n2_
           have HK := n3_
           have HB := n4_
           clear n0_ n1_ n2_ n3_ n4_
           (try clear hb)
           (try clear hb2)
           (try clear hk)
           (try clear hi)
           (try clear ho0)
           refine hK.out _ _ ⟨(blk_cell BKSz40.out 0).trans rfl, (blk_cell BKSz40.out 1).trans rfl⟩ (fun hHeld => ?_)
           clear hK K
           refine norm_ (a' := ?_) ?_ ?_
           rotate_left
           ·show Act.put _ (some 57) _ = _
            simp only [Act.put, List.setIfInBounds_toArray, List.set_cons_zero, List.set_cons_succ, i64_w, i32_w]
            rfl
           refine pure_ (i := 11) (N := some 46) (v := ?_) (a' := ?_) #[true, true, true, true, true, true, true, true, true, true, true, true, false, false, false, false] rfl rfl (any_of HT_.out (by kernel_rfl)) (fun _ _ _ h => h) (Or.inl ⟨by rfl, ?_⟩) ?_ ?_
           rotate_left
           ·intro w'
            go_simp
            with_reducible rfl
           rotate_left
           ·simp only [Act.put, List.setIfInBounds_toArray, List.set_cons_zero, List.set_cons_succ, i64_w, i32_w]
            rfl
           refine pure_ (i := 12) (N := some 58) (v := ?_) (a' := ?_) #[true, true, true, true, true, true, true, true, true, true, true, true, true, false, false, false] rfl rfl (any_of HT_.out (by kernel_rfl)) (fun _ _ _ h => h) (Or.inl ⟨by rfl, ?_⟩) ?_ ?_
           rotate_left
           ·intro w'
            go_simp
            with_reducible rfl
           rotate_left
           ·simp only [Act.put, List.setIfInBounds_toArray, List.set_cons_zero, List.set_cons_succ, i64_w, i32_w]
            rfl
           refine pure_ (i := 13) (N := some 59) (v := ?_) (a' := ?_) #[true, true, true, true, true, true, true, true, true, true, true, true, true, true, false, false] rfl rfl (any_of HT_.out (by kernel_rfl)) (fun _ _ _ h => h) (Or.inl ⟨by rfl, ?_⟩) ?_ ?_
           rotate_left
           ·intro w'
            go_simp
            with_reducible rfl
           rotate_left
           ·simp only [Act.put, List.setIfInBounds_toArray, List.set_cons_zero, List.set_cons_succ, i64_w, i32_w]
            rfl
           refine pure_ (i := 14) (N := some 4) (v := ?_) (a' := ?_) #[true, true, true, true, true, true, true, true, true, true, true, true, true, true, true, false] rfl rfl (any_of HT_.out (by kernel_rfl)) (fun _ _ _ h => h) (Or.inl ⟨by rfl, ?_⟩) ?_ ?_
           rotate_left
           ·intro w'
            go_simp
            with_reducible rfl
           rotate_left
           ·simp only [Act.put, List.setIfInBounds_toArray, List.set_cons_zero, List.set_cons_succ, i64_w, i32_w]
            rfl
           refine pure_ (i := 15) (N := some 5) (v := ?_) (a' := ?_) #[true, true, true, true, true, true, true, true, true, true, true, true, true, true, true, true] rfl rfl (any_of HT_.out (by kernel_rfl)) (fun _ _ _ h => h) (Or.inl ⟨by rfl, ?_⟩) ?_ ?_
           rotate_left
           ·intro w'
            go_simp
            with_reducible rfl
           rotate_left
           ·simp only [Act.put, List.setIfInBounds_toArray, List.set_cons_zero, List.set_cons_succ, i64_w, i32_w]
            rfl
           refine done_ (done_of HT_.out (by kernel_rfl)) ?_
           obtain ⟨ASz43_0, cSz43_0, HGz43, hgz43, ⟨HSz43_0, HCSz43_0⟩⟩ := HI0.out
           have hcz43_0 := cellS50_0 HGz43
           have hcz43_1 := cellS50_1 HGz43
           have hfz43_1 := blk_frozen HGz43 1
           have BKSz43 := Aside0.mk HGz43
           clear HGz43 hgz43
           have hcv44 := own_string (P := Tryd.prog) Tryd.underlying27 Tryd.underlying5 Tryd.underlying9 (Kd.own_of_R ((Kd.R_mono (Kd.R_far (p := ⟨g, 1, none⟩) (IsS50.apart HI0.out HO243.out (by decide)) (fun _ hk => hk.2) (.int .i64 (wrap64 (x1001_17 + 1)))) (fun _ h_ => h_.1))))
           try go_wp2_with (first|((with_reducible refine gate_callee (f := 57) rfl ?_);refine goesL_ (some 71) rfl rfl Tryd.func57 (by kernel_rfl) rfl #[.string ((⟨#[120]⟩ : ByteArray) ++ (strOfNums t240))] rfl (by (try simp only [List.map_toArray, List.map_cons, List.map_nil]);first|done|rfl|(simp only [List.length_drop, List.length_take];rfl)) ?_;(with_reducible refine (utf_Named.calls kj17 ((⟨#[120]⟩ : ByteArray) ++ (strOfNums t240)) t244 false _ ?side1 A30.out).mono ?_);(case side1 => exact LD.below HLD.out (by repeat (first|(with_reducible first|exact HB.out|apply below_alloc|apply pw_below_drewN|apply below_drew1|refine below_set ?_ (IsS50.ge HI0.out))|exact HB.out)));rintro e w45 ⟨rfl, hb⟩;refine ⟨_, rfl, ?_⟩;have n0_ := Aside0.mk (Kd.R_below (by (with_reducible repeat (first|apply Kd.R_alloc|apply Kd.R_drewN|apply Kd.R_drew));exact (Kd.R_mono (Kd.R_far (p := ⟨g, 1, none⟩) (IsS50.apart HI0.out HO243.out (by decide)) (fun _ hk => hk.2) (.int .i64 (wrap64 (x1001_17 + 1)))) (fun _ h_ => h_.1))) hb);have n1_ := Aside0.mk (IsS50.below (show IsS50 w0 (w42.setCell ⟨g, 1, none⟩ (.int .i64 (wrap64 (x1001_17 + 1)))) g s0_0 (wrap64 (x1001_17 + 1)) from by repeat (first|(with_reducible first|exact HI0.out|apply IsS50.alloc|apply IsS50.drewN|apply IsS50.drew|apply IsS50.set_1)|exact HI0.out)) hb);have n2_ := Aside0.mk (KeepBut.trans (by repeat (first|(with_reducible first|exact HK.out|apply KeepBut.set_|apply keep_drewN|apply keep_drew|apply keep_alloc)|exact HK.out)) (KeepBut.of_below hb g none) (.inl rfl));have n3_ := Aside0.mk (below_step (by repeat (first|(with_reducible first|exact HB.out|apply below_alloc|apply pw_below_drewN|apply below_drew1|refine below_set ?_ (IsS50.ge HI0.out))|exact HB.out)) hb);clear HO243;clear HI0;clear HK;clear HB;have HO243 := n0_;have HI0 := n1_;have HK := n2_;have HB := n3_;clear n0_ n1_ n2_ n3_;(try clear hb);(try clear hb2);(try clear hk);(try clear hi)))
           go_ret
           exact ⟨by first|rfl|(simp [errW_none, errW_some] <;> rfl)|(simp [*, errW_none, errW_some] <;> rfl), by repeat (first|(with_reducible first|exact HI0.out|apply IsS50.alloc|apply IsS50.drewN|apply IsS50.drew|apply IsS50.set_1)|exact HI0.out), by repeat (first|(with_reducible first|exact HB.out|apply below_alloc|apply pw_below_drewN|apply below_drew1|refine below_set ?_ (IsS50.ge HI0.out))|exact HB.out), by repeat (first|(with_reducible first|exact HK.out|apply KeepBut.set_|apply keep_drewN|apply keep_drew|apply keep_alloc)|exact HK.out)⟩
         ·rw [if_neg c29] at H
          exact absurd H (by simp)
        ·rw [if_neg c27] at H
         exact absurd H (by simp)
       ·rw [if_neg c26] at H
        exact absurd H (by simp)
      ·rw [if_neg c25] at H
       exact absurd H (by simp)
end Go.Proofs.YtefefpkgiecikaaDoor.P
namespace Go.Proofs.YtefefpkgiecikaaDoor.P
open Go.RowKit Go.Proofs.YtefefpkgiecikaaDoorW.PrintWords Go.Proofs.YtefefpkgiecikaaDoorW.PrintLast Go.Proofs.YtefefpkgiecikaaDoorW.PrintMore
attribute [local go_sem] max2_int min2_int max_two min_two max_three min_three max_four min_four
set_option linter.unusedVariables false
set_option linter.unusedSimpArgs false
def token_scanner_escape.j0 : Nat → Int → Int → Bool → List Int → Int → Option (Int × Int)
 | 0, _, _, _, _, _ => none
 | k + 1, x3, x13, x20, x1000, x1001 => if x20 = true then (some (x3, x1001)) else (if x13 = 120 then ((token_scanner_hex.f k x1000 x1001).bind fun bt248 => (some (bt248.1, bt248.2))) else (some ((-1), x1001)))
def token_scanner_escape.f (k : Nat) (s0_0 : List Int) (s0_1 : Int) : Option (Int × Int) := (token_scanner_peek.f s0_0 s0_1 0).bind fun bt246 => (if bt246.1 = 110 then (some (10, wrap64 (bt246.2 + 1))) else (if bt246.1 = 114 then (some (13, wrap64 (bt246.2 + 1))) else (if bt246.1 = 116 then (some (9, wrap64 (bt246.2 + 1))) else (if bt246.1 = 92 then (token_scanner_escape.j0 k bt246.1 bt246.1 (bt246.1 == 92) s0_0 (wrap64 (bt246.2 + 1))) else (token_scanner_escape.j0 k bt246.1 bt246.1 (bt246.1 == 34) s0_0 (wrap64 (bt246.2 + 1)))))))
theorem token_scanner_escape.mono_l : ∀ k, (∀ y0 y1 y2 y3 y4, LeO (token_scanner_escape.j0 k y0 y1 y2 y3 y4) (token_scanner_escape.j0 (k + 1) y0 y1 y2 y3 y4))
 | 0 => fun _ _ _ _ _ r h => by simp [token_scanner_escape.j0] at h
 | k + 1 => by
  have ih0 := token_scanner_escape.mono_l k
  ·intro y0 y1 y2 y3 y4
   unfold token_scanner_escape.j0
   repeat' first
   | (with_reducible exact ih0 _ _ _ _ _)
   | (with_reducible exact token_scanner_hex.mono _ _ _)
   | (with_reducible exact LeO.refl _)
   | (with_reducible exact LeO.none _)
   | (with_reducible refine LeO.ite ?_ ?_)
   | (with_reducible refine LeO.bind ?_ (fun _ => ?_))
   | exact ih0 _ _ _ _ _
   | exact token_scanner_hex.mono _ _ _
   | exact LeO.none _
   | refine LeO.ite ?_ ?_
   | refine LeO.bind ?_ (fun _ => ?_)
theorem token_scanner_escape.mono : ∀ a0 a1 k, LeO (token_scanner_escape.f k a0 a1) (token_scanner_escape.f (k + 1) a0 a1) := by
 intro a0 a1 k
 have ih0 := token_scanner_escape.mono_l k
 unfold token_scanner_escape.f
 repeat' first
   | (with_reducible exact ih0 _ _ _ _ _)
   | (with_reducible exact token_scanner_hex.mono _ _ _)
   | (with_reducible exact LeO.refl _)
   | (with_reducible exact LeO.none _)
   | (with_reducible refine LeO.ite ?_ ?_)
   | (with_reducible refine LeO.bind ?_ (fun _ => ?_))
   | exact ih0 _ _ _ _ _
   | exact token_scanner_hex.mono _ _ _
   | exact LeO.none _
   | refine LeO.ite ?_ ?_
   | refine LeO.bind ?_ (fun _ => ?_)
set_option maxHeartbeats 8000000 in
set_option maxRecDepth 100000 in
theorem token_scanner_escape.calls (k : Nat) (g : Nat) (s0_0 : List Int) (s0_1 : Int) (r1 : Int) (r2 : Int) (w0 w : World) (hI : IsS50 w0 w g s0_0 s0_1) (hB : Below w0.heap.size w0 w) (hLD : LD w0) (h : token_scanner_escape.f k s0_0 s0_1 = some (r1, r2)) :
  Calls Tryd.prog 56 #[.pointer (some ⟨g, 0, none⟩)] w fun e w' => e = .returned (.int .i64 r1) ∧ IsS50 w0 w' g s0_0 r2 ∧ Below w0.heap.size w0 w' ∧ KeepBut w w' g none := by
 have HI0 := Aside0.mk hI
 have HK := Aside0.mk (KeepBut.refl w g none)
 have HL := Aside0.mk hB.size
 clear hI
 have HLD := Aside0.mk hLD
 clear hLD
 have HW0 := Aside0.mk hB.size
 have HB := Aside0.mk hB
 clear hB
 have H : ((token_scanner_peek.f s0_0 s0_1 0).bind fun bt246 => (if bt246.1 = 110 then (some (10, wrap64 (bt246.2 + 1))) else (if bt246.1 = 114 then (some (13, wrap64 (bt246.2 + 1))) else (if bt246.1 = 116 then (some (9, wrap64 (bt246.2 + 1))) else (if bt246.1 = 92 then (token_scanner_escape.j0 k bt246.1 bt246.1 (bt246.1 == 92) s0_0 (wrap64 (bt246.2 + 1))) else (token_scanner_escape.j0 k bt246.1 bt246.1 (bt246.1 == 34) s0_0 (wrap64 (bt246.2 + 1)))))))) = some (r1, r2) := h
 clear h
 replace H := Option.bind_eq_some_iff.mp H
 obtain ⟨⟨t246, t247⟩, A20, H⟩ := H
 replace H : (if t246 = 110 then (some (10, wrap64 (t247 + 1))) else (if t246 = 114 then (some (13, wrap64 (t247 + 1))) else (if t246 = 116 then (some (9, wrap64 (t247 + 1))) else (if t246 = 92 then (token_scanner_escape.j0 k t246 t246 (t246 == 92) s0_0 (wrap64 (t247 + 1))) else (token_scanner_escape.j0 k t246 t246 (t246 == 34) s0_0 (wrap64 (t247 + 1))))))) = some (r1, r2) := H
 have A2 := Aside0.mk A20
 clear A20
 by_cases c3 : t246 = 110
 ·rw [if_pos c3] at H
  have c3b0 : (t246 == 110) = true := beq_iff_eq.mpr c3
  have c3b1 : (t246 != 110) = false := bne_eq_false_iff_eq.mpr c3
  clear c3
  simp only [Option.some.injEq, Prod.mk.injEq] at H
  obtain ⟨rfl, rfl⟩ := H
  go_enter Tryd.func56, Tryd.ntmps56
  go_wp2_with (first|((with_reducible refine gate_callee (f := 24) rfl ?_);refine goesL_ (some 5) rfl rfl Tryd.func24 (by kernel_rfl) rfl #[.pointer (some ⟨g, 0, none⟩), .int .i64 0] rfl (by (try simp only [List.map_toArray, List.map_cons, List.map_nil]);first|done|rfl|(simp only [List.length_drop, List.length_take];rfl)) ?_;(with_reducible refine (token_scanner_peek.calls g s0_0 s0_1 0 t246 t247 w0 _ ?side1 ?side2 A2.out).mono ?_);(case side1 => repeat (first|(with_reducible first|exact HI0.out|apply IsS50.alloc|apply IsS50.drewN|apply IsS50.drew|apply IsS50.set_1)|exact HI0.out));(case side2 => repeat (first|(with_reducible first|exact HB.out|apply below_alloc|apply pw_below_drewN|apply below_drew1|refine below_set ?_ (IsS50.ge HI0.out))|exact HB.out));rintro e w4 ⟨rfl, hi, hb, hk⟩;refine ⟨_, rfl, ?_⟩;have n0_ := Aside0.mk (KeepBut.trans (by repeat (first|(with_reducible first|exact HK.out|apply KeepBut.set_|apply keep_drewN|apply keep_drew|apply keep_alloc)|exact HK.out)) hk (.inl rfl));have n1_ := Aside0.mk (hb);have n2_ := Aside0.mk (hi);clear HK;clear HB;clear HI0;have HK := n0_;have HB := n1_;have HI0 := n2_;clear n0_ n1_ n2_;(try clear hb);(try clear hb2);(try clear hk);(try clear hi);obtain ⟨ASz5_0, cSz5_0, HGz5, hgz5, ⟨HSz5_0, HCSz5_0⟩⟩ := HI0.out;have hcz5_0 := cellS50_0 HGz5;have hcz5_1 := cellS50_1 HGz5;have hfz5_1 := blk_frozen HGz5 1;have BKSz5 := Aside0.mk HGz5;clear HGz5 hgz5))
  go_ret
  exact ⟨by first|rfl|(simp [errW_none, errW_some] <;> rfl)|(simp [*, errW_none, errW_some] <;> rfl), by repeat (first|(with_reducible first|exact HI0.out|apply IsS50.alloc|apply IsS50.drewN|apply IsS50.drew|apply IsS50.set_1)|exact HI0.out), by repeat (first|(with_reducible first|exact HB.out|apply below_alloc|apply pw_below_drewN|apply below_drew1|refine below_set ?_ (IsS50.ge HI0.out))|exact HB.out), by repeat (first|(with_reducible first|exact HK.out|apply KeepBut.set_|apply keep_drewN|apply keep_drew|apply keep_alloc)|exact HK.out)⟩
 ·rw [if_neg c3] at H
  have c3b0 : (t246 == 110) = false := beq_eq_false_iff_ne.mpr c3
  have c3b1 : (t246 != 110) = true := bne_iff_ne.mpr c3
  by_cases c6 : t246 = 114
  ·rw [if_pos c6] at H
   have c6b0 : (t246 == 114) = true := beq_iff_eq.mpr c6
   have c6b1 : (t246 != 114) = false := bne_eq_false_iff_eq.mpr c6
   clear c6
   simp only [Option.some.injEq, Prod.mk.injEq] at H
   obtain ⟨rfl, rfl⟩ := H
   go_enter Tryd.func56, Tryd.ntmps56
   go_wp2_with (first|((with_reducible refine gate_callee (f := 24) rfl ?_);refine goesL_ (some 5) rfl rfl Tryd.func24 (by kernel_rfl) rfl #[.pointer (some ⟨g, 0, none⟩), .int .i64 0] rfl (by (try simp only [List.map_toArray, List.map_cons, List.map_nil]);first|done|rfl|(simp only [List.length_drop, List.length_take];rfl)) ?_;(with_reducible refine (token_scanner_peek.calls g s0_0 s0_1 0 t246 t247 w0 _ ?side1 ?side2 A2.out).mono ?_);(case side1 => repeat (first|(with_reducible first|exact HI0.out|apply IsS50.alloc|apply IsS50.drewN|apply IsS50.drew|apply IsS50.set_1)|exact HI0.out));(case side2 => repeat (first|(with_reducible first|exact HB.out|apply below_alloc|apply pw_below_drewN|apply below_drew1|refine below_set ?_ (IsS50.ge HI0.out))|exact HB.out));rintro e w7 ⟨rfl, hi, hb, hk⟩;refine ⟨_, rfl, ?_⟩;have n0_ := Aside0.mk (KeepBut.trans (by repeat (first|(with_reducible first|exact HK.out|apply KeepBut.set_|apply keep_drewN|apply keep_drew|apply keep_alloc)|exact HK.out)) hk (.inl rfl));have n1_ := Aside0.mk (hb);have n2_ := Aside0.mk (hi);clear HK;clear HB;clear HI0;have HK := n0_;have HB := n1_;have HI0 := n2_;clear n0_ n1_ n2_;(try clear hb);(try clear hb2);(try clear hk);(try clear hi);obtain ⟨ASz8_0, cSz8_0, HGz8, hgz8, ⟨HSz8_0, HCSz8_0⟩⟩ := HI0.out;have hcz8_0 := cellS50_0 HGz8;have hcz8_1 := cellS50_1 HGz8;have hfz8_1 := blk_frozen HGz8 1;have BKSz8 := Aside0.mk HGz8;clear HGz8 hgz8))
   go_ret
   exact ⟨by first|rfl|(simp [errW_none, errW_some] <;> rfl)|(simp [*, errW_none, errW_some] <;> rfl), by repeat (first|(with_reducible first|exact HI0.out|apply IsS50.alloc|apply IsS50.drewN|apply IsS50.drew|apply IsS50.set_1)|exact HI0.out), by repeat (first|(with_reducible first|exact HB.out|apply below_alloc|apply pw_below_drewN|apply below_drew1|refine below_set ?_ (IsS50.ge HI0.out))|exact HB.out), by repeat (first|(with_reducible first|exact HK.out|apply KeepBut.set_|apply keep_drewN|apply keep_drew|apply keep_alloc)|exact HK.out)⟩
  ·rw [if_neg c6] at H
   have c6b0 : (t246 == 114) = false := beq_eq_false_iff_ne.mpr c6
   have c6b1 : (t246 != 114) = true := bne_iff_ne.mpr c6
   by_cases c9 : t246 = 116
   ·rw [if_pos c9] at H
    have c9b0 : (t246 == 116) = true := beq_iff_eq.mpr c9
    have c9b1 : (t246 != 116) = false := bne_eq_false_iff_eq.mpr c9
    clear c9
    simp only [Option.some.injEq, Prod.mk.injEq] at H
    obtain ⟨rfl, rfl⟩ := H
    go_enter Tryd.func56, Tryd.ntmps56
    go_wp2_with (first|((with_reducible refine gate_callee (f := 24) rfl ?_);refine goesL_ (some 5) rfl rfl Tryd.func24 (by kernel_rfl) rfl #[.pointer (some ⟨g, 0, none⟩), .int .i64 0] rfl (by (try simp only [List.map_toArray, List.map_cons, List.map_nil]);first|done|rfl|(simp only [List.length_drop, List.length_take];rfl)) ?_;(with_reducible refine (token_scanner_peek.calls g s0_0 s0_1 0 t246 t247 w0 _ ?side1 ?side2 A2.out).mono ?_);(case side1 => repeat (first|(with_reducible first|exact HI0.out|apply IsS50.alloc|apply IsS50.drewN|apply IsS50.drew|apply IsS50.set_1)|exact HI0.out));(case side2 => repeat (first|(with_reducible first|exact HB.out|apply below_alloc|apply pw_below_drewN|apply below_drew1|refine below_set ?_ (IsS50.ge HI0.out))|exact HB.out));rintro e w10 ⟨rfl, hi, hb, hk⟩;refine ⟨_, rfl, ?_⟩;have n0_ := Aside0.mk (KeepBut.trans (by repeat (first|(with_reducible first|exact HK.out|apply KeepBut.set_|apply keep_drewN|apply keep_drew|apply keep_alloc)|exact HK.out)) hk (.inl rfl));have n1_ := Aside0.mk (hb);have n2_ := Aside0.mk (hi);clear HK;clear HB;clear HI0;have HK := n0_;have HB := n1_;have HI0 := n2_;clear n0_ n1_ n2_;(try clear hb);(try clear hb2);(try clear hk);(try clear hi);obtain ⟨ASz11_0, cSz11_0, HGz11, hgz11, ⟨HSz11_0, HCSz11_0⟩⟩ := HI0.out;have hcz11_0 := cellS50_0 HGz11;have hcz11_1 := cellS50_1 HGz11;have hfz11_1 := blk_frozen HGz11 1;have BKSz11 := Aside0.mk HGz11;clear HGz11 hgz11))
    go_ret
    exact ⟨by first|rfl|(simp [errW_none, errW_some] <;> rfl)|(simp [*, errW_none, errW_some] <;> rfl), by repeat (first|(with_reducible first|exact HI0.out|apply IsS50.alloc|apply IsS50.drewN|apply IsS50.drew|apply IsS50.set_1)|exact HI0.out), by repeat (first|(with_reducible first|exact HB.out|apply below_alloc|apply pw_below_drewN|apply below_drew1|refine below_set ?_ (IsS50.ge HI0.out))|exact HB.out), by repeat (first|(with_reducible first|exact HK.out|apply KeepBut.set_|apply keep_drewN|apply keep_drew|apply keep_alloc)|exact HK.out)⟩
   ·rw [if_neg c9] at H
    have c9b0 : (t246 == 116) = false := beq_eq_false_iff_ne.mpr c9
    have c9b1 : (t246 != 116) = true := bne_iff_ne.mpr c9
    have HC12 := Aside0.mk H
    clear H
    go_enter Tryd.func56, Tryd.ntmps56
    go_upto_if 20 with (first|((with_reducible refine gate_callee (f := 24) rfl ?_);refine goesL_ (some 5) rfl rfl Tryd.func24 (by kernel_rfl) rfl #[.pointer (some ⟨g, 0, none⟩), .int .i64 0] rfl (by (try simp only [List.map_toArray, List.map_cons, List.map_nil]);first|done|rfl|(simp only [List.length_drop, List.length_take];rfl)) ?_;(with_reducible refine (token_scanner_peek.calls g s0_0 s0_1 0 t246 t247 w0 _ ?side1 ?side2 A2.out).mono ?_);(case side1 => repeat (first|(with_reducible first|exact HI0.out|apply IsS50.alloc|apply IsS50.drewN|apply IsS50.drew|apply IsS50.set_1)|exact HI0.out));(case side2 => repeat (first|(with_reducible first|exact HB.out|apply below_alloc|apply pw_below_drewN|apply below_drew1|refine below_set ?_ (IsS50.ge HI0.out))|exact HB.out));rintro e w13 ⟨rfl, hi, hb, hk⟩;refine ⟨_, rfl, ?_⟩;have n0_ := Aside0.mk (KeepBut.trans (by repeat (first|(with_reducible first|exact HK.out|apply KeepBut.set_|apply keep_drewN|apply keep_drew|apply keep_alloc)|exact HK.out)) hk (.inl rfl));have n1_ := Aside0.mk (hb);have n2_ := Aside0.mk (hi);clear HK;clear HB;clear HI0;have HK := n0_;have HB := n1_;have HI0 := n2_;clear n0_ n1_ n2_;(try clear hb);(try clear hb2);(try clear hk);(try clear hi);obtain ⟨ASz14_0, cSz14_0, HGz14, hgz14, ⟨HSz14_0, HCSz14_0⟩⟩ := HI0.out;have hcz14_0 := cellS50_0 HGz14;have hcz14_1 := cellS50_1 HGz14;have hfz14_1 := blk_frozen HGz14 1;have BKSz14 := Aside0.mk HGz14;clear HGz14 hgz14))
    (try simp only [Act.put, List.setIfInBounds_toArray, List.set_cons_zero, List.set_cons_succ])
    go_cut [20] (fun v20 wc => ∃ (kq : Nat) (x20_11 : Bool), v20 = .bool x20_11 ∧ Aside0 (token_scanner_escape.j0 kq t246 t246 x20_11 s0_0 (wrap64 (t247 + 1)) = some (r1, r2)) ∧ Aside0 (kq ≤ k) ∧ Aside0 (IsS50 w0 wc g s0_0 (wrap64 (t247 + 1))) ∧ Aside0 (KeepBut w wc g none) ∧ Aside0 (Below w0.heap.size w0 wc))
    case first =>
     have H := HC12.out
     clear HC12
     by_cases c15 : t246 = 92
     ·rw [if_pos c15] at H
      have c15b0 : (t246 == 92) = true := beq_iff_eq.mpr c15
      have c15b1 : (t246 != 92) = false := bne_eq_false_iff_eq.mpr c15
      clear c15
      (first|rw [c15b0]|(simp only [i64_w, i32_w];rw [c15b0])|skip)
      have H' := Aside0.mk H
      clear H
      go_wp2
      go_meet
      case rel => exact ⟨_, ((t246 == 92)), (by first|rfl|(simp;done)|(simp [*];done)), H', ⟨by first|omega|exact Nat.le_refl _⟩, ⟨by repeat (first|(with_reducible first|exact HI0.out|apply IsS50.alloc|apply IsS50.drewN|apply IsS50.drew|apply IsS50.set_1)|exact HI0.out)⟩, ⟨by repeat (first|(with_reducible first|exact HK.out|apply KeepBut.set_|apply keep_drewN|apply keep_drew|apply keep_alloc)|exact HK.out)⟩, ⟨by repeat (first|(with_reducible first|exact HB.out|apply below_alloc|apply pw_below_drewN|apply below_drew1|refine below_set ?_ (IsS50.ge HI0.out))|exact HB.out)⟩⟩
     ·rw [if_neg c15] at H
      have c15b0 : (t246 == 92) = false := beq_eq_false_iff_ne.mpr c15
      have c15b1 : (t246 != 92) = true := bne_iff_ne.mpr c15
      (first|rw [c15b0]|(simp only [i64_w, i32_w];rw [c15b0])|skip)
      have H' := Aside0.mk H
      clear H
      go_wp2
      go_meet
      case rel => exact ⟨_, ((t246 == 34)), (by first|rfl|(simp;done)|(simp [*];done)), H', ⟨by first|omega|exact Nat.le_refl _⟩, ⟨by repeat (first|(with_reducible first|exact HI0.out|apply IsS50.alloc|apply IsS50.drewN|apply IsS50.drew|apply IsS50.set_1)|exact HI0.out)⟩, ⟨by repeat (first|(with_reducible first|exact HK.out|apply KeepBut.set_|apply keep_drewN|apply keep_drew|apply keep_alloc)|exact HK.out)⟩, ⟨by repeat (first|(with_reducible first|exact HB.out|apply below_alloc|apply pw_below_drewN|apply below_drew1|refine below_set ?_ (IsS50.ge HI0.out))|exact HB.out)⟩⟩
    case rest =>
     clear HC12
     try clear c1
     try clear c2
     try clear p2
     try clear c3
     try clear c3b0
     try clear c3b1
     try clear c5
     try clear c6
     try clear c6b0
     try clear c6b1
     try clear p6
     try clear c9
     try clear c9b0
     try clear c9b1
     try clear c15
     try clear c15b0
     try clear c15b1
     try clear hcz11_0
     try clear hcz11_1
     try clear hcz14_0
     try clear hcz14_1
     try clear hcz5_0
     try clear hcz5_1
     try clear hcz8_0
     try clear hcz8_1
     try clear hfz11_1
     try clear hfz14_1
     try clear hfz5_1
     try clear hfz8_1
     obtain ⟨kq, x20_11, rfl, HA, HJ11, HI0, HK, HB⟩ := hcut
     cases kq with
     | zero => exact absurd HA.out (by simp [token_scanner_escape.j0])
     | succ kj11 =>
      have H := HA.out
      clear HA
      simp only [token_scanner_escape.j0] at H
      by_cases c16 : x20_11 = true
      ·subst c16
       have H1 : (some (t246, (wrap64 (t247 + 1)))) = some (r1, r2) := by rw [if_pos rfl] at H; exact H
       clear H
       have H := H1
       clear H1
       simp only [Option.some.injEq, Prod.mk.injEq] at H
       obtain ⟨rfl, rfl⟩ := H
       go_wp2
       go_ret
       exact ⟨by first|rfl|(simp [errW_none, errW_some] <;> rfl)|(simp [*, errW_none, errW_some] <;> rfl), by repeat (first|(with_reducible first|exact HI0.out|apply IsS50.alloc|apply IsS50.drewN|apply IsS50.drew|apply IsS50.set_1)|exact HI0.out), by repeat (first|(with_reducible first|exact HB.out|apply below_alloc|apply pw_below_drewN|apply below_drew1|refine below_set ?_ (IsS50.ge HI0.out))|exact HB.out), by repeat (first|(with_reducible first|exact HK.out|apply KeepBut.set_|apply keep_drewN|apply keep_drew|apply keep_alloc)|exact HK.out)⟩
      ·replace c16 := Bool.eq_false_iff.mpr c16
       subst c16
       have H1 : (if t246 = 120 then ((token_scanner_hex.f kj11 s0_0 (wrap64 (t247 + 1))).bind fun bt248 => (some (bt248.1, bt248.2))) else (some ((-1), (wrap64 (t247 + 1))))) = some (r1, r2) := by rw [if_neg (show ¬ (false = true) by decide)] at H; exact H
       clear H
       have H := H1
       clear H1
       by_cases c17 : t246 = 120
       ·rw [if_pos c17] at H
        have c17b0 : (t246 == 120) = true := beq_iff_eq.mpr c17
        have c17b1 : (t246 != 120) = false := bne_eq_false_iff_eq.mpr c17
        clear c17
        replace H := Option.bind_eq_some_iff.mp H
        obtain ⟨⟨t248, t249⟩, A180, H⟩ := H
        replace H : (some (t248, t249)) = some (r1, r2) := H
        have A18 := Aside0.mk A180
        clear A180
        simp only [Option.some.injEq, Prod.mk.injEq] at H
        obtain ⟨rfl, rfl⟩ := H
        go_wp2_with (first|((with_reducible refine gate_callee (f := 69) rfl ?_);refine goesL_ (some 27) rfl rfl Tryd.func69 (by kernel_rfl) rfl #[.pointer (some ⟨g, 0, none⟩)] rfl (by (try simp only [List.map_toArray, List.map_cons, List.map_nil]);first|done|rfl|(simp only [List.length_drop, List.length_take];rfl)) ?_;(with_reducible refine (token_scanner_hex.calls kj11 g s0_0 (wrap64 (t247 + 1)) t248 t249 w0 _ ?side1 ?side2 ?side3 A18.out).mono ?_);(case side1 => repeat (first|(with_reducible first|exact HI0.out|apply IsS50.alloc|apply IsS50.drewN|apply IsS50.drew|apply IsS50.set_1)|exact HI0.out));(case side2 => repeat (first|(with_reducible first|exact HB.out|apply below_alloc|apply pw_below_drewN|apply below_drew1|refine below_set ?_ (IsS50.ge HI0.out))|exact HB.out));(case side3 => exact HLD.out);rintro e w19 ⟨rfl, hi, hb, hk⟩;refine ⟨_, rfl, ?_⟩;have n0_ := Aside0.mk (KeepBut.trans (by repeat (first|(with_reducible first|exact HK.out|apply KeepBut.set_|apply keep_drewN|apply keep_drew|apply keep_alloc)|exact HK.out)) hk (.inl rfl));have n1_ := Aside0.mk (hb);have n2_ := Aside0.mk (hi);clear HK;clear HB;clear HI0;have HK := n0_;have HB := n1_;have HI0 := n2_;clear n0_ n1_ n2_;(try clear hb);(try clear hb2);(try clear hk);(try clear hi)))
        go_ret
        exact ⟨by first|rfl|(simp [errW_none, errW_some] <;> rfl)|(simp [*, errW_none, errW_some] <;> rfl), by repeat (first|(with_reducible first|exact HI0.out|apply IsS50.alloc|apply IsS50.drewN|apply IsS50.drew|apply IsS50.set_1)|exact HI0.out), by repeat (first|(with_reducible first|exact HB.out|apply below_alloc|apply pw_below_drewN|apply below_drew1|refine below_set ?_ (IsS50.ge HI0.out))|exact HB.out), by repeat (first|(with_reducible first|exact HK.out|apply KeepBut.set_|apply keep_drewN|apply keep_drew|apply keep_alloc)|exact HK.out)⟩
       ·rw [if_neg c17] at H
        have c17b0 : (t246 == 120) = false := beq_eq_false_iff_ne.mpr c17
        have c17b1 : (t246 != 120) = true := bne_iff_ne.mpr c17
        simp only [Option.some.injEq, Prod.mk.injEq] at H
        obtain ⟨rfl, rfl⟩ := H
        go_wp2
        go_ret
        exact ⟨by first|rfl|(simp [errW_none, errW_some] <;> rfl)|(simp [*, errW_none, errW_some] <;> rfl), by repeat (first|(with_reducible first|exact HI0.out|apply IsS50.alloc|apply IsS50.drewN|apply IsS50.drew|apply IsS50.set_1)|exact HI0.out), by repeat (first|(with_reducible first|exact HB.out|apply below_alloc|apply pw_below_drewN|apply below_drew1|refine below_set ?_ (IsS50.ge HI0.out))|exact HB.out), by repeat (first|(with_reducible first|exact HK.out|apply KeepBut.set_|apply keep_drewN|apply keep_drew|apply keep_alloc)|exact HK.out)⟩
end Go.Proofs.YtefefpkgiecikaaDoor.P
namespace Go.Proofs.YtefefpkgiecikaaDoor.P
open Go.RowKit Go.Proofs.YtefefpkgiecikaaDoorW.PrintWords Go.Proofs.YtefefpkgiecikaaDoorW.PrintLast Go.Proofs.YtefefpkgiecikaaDoorW.PrintMore
attribute [local go_sem] max2_int min2_int max_two min_two max_three min_three max_four min_four
set_option linter.unusedVariables false
set_option linter.unusedSimpArgs false
def token_scanner_str.l0 : Nat → List Int → List Int → Int → Option (ByteArray × Bool × Int)
 | 0, _, _, _ => none
 | k + 1, x4, x1000, x1001 => (token_scanner_left.f x1000 x1001 1).bind fun bt250 => (if bt250.1 = true then ((token_scanner_peek.f x1000 bt250.2 0).bind fun bt252 => (if bt252.1 = 34 then ((utf_Encode.f k x4).bind fun bt254 => (some (strOfNums bt254.1, decide ((x4.length : Int) ≤ 4096), wrap64 (bt252.2 + 1)))) else (if bt252.1 = 92 then ((token_scanner_escape.f k x1000 (wrap64 (bt252.2 + 1))).bind fun bt258 => (if bt258.1 < 0 then (some ((⟨#[]⟩ : ByteArray), false, bt258.2)) else (if x4.length < 17592186044416 then (token_scanner_str.l0 k (x4 ++ [bt258.1]) x1000 bt258.2) else (none)))) else (if x4.length < 17592186044416 then (token_scanner_str.l0 k (x4 ++ [bt252.1]) x1000 (wrap64 (bt252.2 + 1))) else (none))))) else (some ((⟨#[]⟩ : ByteArray), false, bt250.2)))
def token_scanner_str.f (k : Nat) (s0_0 : List Int) (s0_1 : Int) : Option (ByteArray × Bool × Int) := token_scanner_str.l0 k ([] : List Int) s0_0 s0_1
theorem token_scanner_str.mono_l : ∀ k, (∀ y0 y1 y2, LeO (token_scanner_str.l0 k y0 y1 y2) (token_scanner_str.l0 (k + 1) y0 y1 y2))
 | 0 => fun _ _ _ r h => by simp [token_scanner_str.l0] at h
 | k + 1 => by
  have ih0 := token_scanner_str.mono_l k
  ·intro y0 y1 y2
   unfold token_scanner_str.l0
   repeat' first
   | (with_reducible exact ih0 _ _ _)
   | (with_reducible exact token_scanner_escape.mono _ _ _)
   | (with_reducible exact utf_Encode.mono _ _)
   | (with_reducible exact LeO.refl _)
   | (with_reducible exact LeO.none _)
   | (with_reducible refine LeO.ite ?_ ?_)
   | (with_reducible refine LeO.bind ?_ (fun _ => ?_))
   | exact ih0 _ _ _
   | exact token_scanner_escape.mono _ _ _
   | exact utf_Encode.mono _ _
   | exact LeO.none _
   | refine LeO.ite ?_ ?_
   | refine LeO.bind ?_ (fun _ => ?_)
theorem token_scanner_str.mono : ∀ a0 a1 k, LeO (token_scanner_str.f k a0 a1) (token_scanner_str.f (k + 1) a0 a1) := by
 intro a0 a1 k
 have ih0 := token_scanner_str.mono_l k
 unfold token_scanner_str.f
 repeat' first
   | (with_reducible exact ih0 _ _ _)
   | (with_reducible exact token_scanner_escape.mono _ _ _)
   | (with_reducible exact utf_Encode.mono _ _)
   | (with_reducible exact LeO.refl _)
   | (with_reducible exact LeO.none _)
   | (with_reducible refine LeO.ite ?_ ?_)
   | (with_reducible refine LeO.bind ?_ (fun _ => ?_))
   | exact ih0 _ _ _
   | exact token_scanner_escape.mono _ _ _
   | exact utf_Encode.mono _ _
   | exact LeO.none _
   | refine LeO.ite ?_ ?_
   | refine LeO.bind ?_ (fun _ => ?_)
set_option maxHeartbeats 8000000 in
set_option maxRecDepth 100000 in
theorem token_scanner_str.calls (k : Nat) (g : Nat) (s0_0 : List Int) (s0_1 : Int) (r1 : ByteArray) (r2 : Bool) (r3 : Int) (w0 w : World) (hI : IsS50 w0 w g s0_0 s0_1) (hB : Below w0.heap.size w0 w) (hLD : LD w0) (h : token_scanner_str.f k s0_0 s0_1 = some (r1, r2, r3)) :
  Calls Tryd.prog 37 #[.pointer (some ⟨g, 0, none⟩)] w fun e w' => e = .returned (.tuple #[.string r1, .bool r2]) ∧ IsS50 w0 w' g s0_0 r3 ∧ Below w0.heap.size w0 w' ∧ KeepBut w w' g none := by
 have HI0 := Aside0.mk hI
 have HK := Aside0.mk (KeepBut.refl w g none)
 have HL := Aside0.mk hB.size
 clear hI
 have HLD := Aside0.mk hLD
 clear hLD
 have HW0 := Aside0.mk hB.size
 have HB := Aside0.mk hB
 clear hB
 have H : (token_scanner_str.l0 k ([] : List Int) s0_0 s0_1) = some (r1, r2, r3) := h
 clear h
 have H' := Aside0.mk H
 clear H
 go_enter Tryd.func37, Tryd.ntmps37
 go_wp2
 go_loopg [4] k (fun kq v4 w' => ∃ (x4_1 : List Int) (x1001_1 : Int), Aside0 (token_scanner_str.l0 kq x4_1 s0_0 x1001_1 = some (r1, r2, r3)) ∧ Aside0 (kq ≤ k) ∧ Aside0 (Kd.R (Kd.int .i64) 3 w' w.heap.size (fun _ => True) v4 x4_1) ∧ Aside0 (IsS50 w0 w' g s0_0 x1001_1) ∧ Aside0 (KeepBut w w' g none) ∧ Aside0 (Below w0.heap.size w0 w'))
 case atStart => exact ⟨(([] : List Int)), (s0_1), H', ⟨Nat.le_refl _⟩, ⟨by first|exact Kd.R_nil _ _ _ _ _|exact Kd.N_nil _ _ _ _ _|exact Kd.V_nil _ _ _ _ _|exact Kd.Q_nil _ _ _ _ _|exact Kd.S_nil _ _ _ _ _⟩, ⟨by repeat (first|(with_reducible first|exact HI0.out|apply IsS50.alloc|apply IsS50.drewN|apply IsS50.drew|apply IsS50.set_1)|exact HI0.out)⟩, ⟨by repeat (first|(with_reducible first|exact HK.out|apply KeepBut.set_|apply keep_drewN|apply keep_drew|apply keep_alloc)|exact HK.out)⟩, ⟨by repeat (first|(with_reducible first|exact HB.out|apply below_alloc|apply pw_below_drewN|apply below_drew1|refine below_set ?_ (IsS50.ge HI0.out))|exact HB.out)⟩⟩
 case round =>
  clear H'
  obtain ⟨x4_1, x1001_1, HA, HK1, HO_4, HI0, HK, HB⟩ := hrel
  cases gk with
  | zero => exact absurd HA.out (by simp [token_scanner_str.l0])
  | succ k1 =>
   have H := HA.out
   clear HA
   simp only [token_scanner_str.l0] at H
   replace H := Option.bind_eq_some_iff.mp H
   obtain ⟨⟨t250, t251⟩, A20, H⟩ := H
   replace H : (if t250 = true then ((token_scanner_peek.f s0_0 t251 0).bind fun bt252 => (if bt252.1 = 34 then ((utf_Encode.f k1 x4_1).bind fun bt254 => (some (strOfNums bt254.1, decide ((x4_1.length : Int) ≤ 4096), wrap64 (bt252.2 + 1)))) else (if bt252.1 = 92 then ((token_scanner_escape.f k1 s0_0 (wrap64 (bt252.2 + 1))).bind fun bt258 => (if bt258.1 < 0 then (some ((⟨#[]⟩ : ByteArray), false, bt258.2)) else (if x4_1.length < 17592186044416 then (token_scanner_str.l0 k1 (x4_1 ++ [bt258.1]) s0_0 bt258.2) else (none)))) else (if x4_1.length < 17592186044416 then (token_scanner_str.l0 k1 (x4_1 ++ [bt252.1]) s0_0 (wrap64 (bt252.2 + 1))) else (none))))) else (some ((⟨#[]⟩ : ByteArray), false, t251))) = some (r1, r2, r3) := H
   have A2 := Aside0.mk A20
   clear A20
   by_cases c3 : t250 = true
   ·subst c3
    have H1 : ((token_scanner_peek.f s0_0 t251 0).bind fun bt252 => (if bt252.1 = 34 then ((utf_Encode.f k1 x4_1).bind fun bt254 => (some (strOfNums bt254.1, decide ((x4_1.length : Int) ≤ 4096), wrap64 (bt252.2 + 1)))) else (if bt252.1 = 92 then ((token_scanner_escape.f k1 s0_0 (wrap64 (bt252.2 + 1))).bind fun bt258 => (if bt258.1 < 0 then (some ((⟨#[]⟩ : ByteArray), false, bt258.2)) else (if x4_1.length < 17592186044416 then (token_scanner_str.l0 k1 (x4_1 ++ [bt258.1]) s0_0 bt258.2) else (none)))) else (if x4_1.length < 17592186044416 then (token_scanner_str.l0 k1 (x4_1 ++ [bt252.1]) s0_0 (wrap64 (bt252.2 + 1))) else (none))))) = some (r1, r2, r3) := by rw [if_pos rfl] at H; exact H
    clear H
    have H := H1
    clear H1
    replace H := Option.bind_eq_some_iff.mp H
    obtain ⟨⟨t252, t253⟩, A40, H⟩ := H
    replace H : (if t252 = 34 then ((utf_Encode.f k1 x4_1).bind fun bt254 => (some (strOfNums bt254.1, decide ((x4_1.length : Int) ≤ 4096), wrap64 (t253 + 1)))) else (if t252 = 92 then ((token_scanner_escape.f k1 s0_0 (wrap64 (t253 + 1))).bind fun bt258 => (if bt258.1 < 0 then (some ((⟨#[]⟩ : ByteArray), false, bt258.2)) else (if x4_1.length < 17592186044416 then (token_scanner_str.l0 k1 (x4_1 ++ [bt258.1]) s0_0 bt258.2) else (none)))) else (if x4_1.length < 17592186044416 then (token_scanner_str.l0 k1 (x4_1 ++ [t252]) s0_0 (wrap64 (t253 + 1))) else (none)))) = some (r1, r2, r3) := H
    have A4 := Aside0.mk A40
    clear A40
    by_cases c5 : t252 = 34
    ·rw [if_pos c5] at H
     have c5b0 : (t252 == 34) = true := beq_iff_eq.mpr c5
     have c5b1 : (t252 != 34) = false := bne_eq_false_iff_eq.mpr c5
     clear c5
     replace H := Option.bind_eq_some_iff.mp H
     obtain ⟨⟨t254, t255⟩, A60, H⟩ := H
     replace H : (some (strOfNums t254, decide ((x4_1.length : Int) ≤ 4096), wrap64 (t253 + 1))) = some (r1, r2, r3) := H
     have A6 := Aside0.mk A60
     clear A60
     simp only [Option.some.injEq, Prod.mk.injEq] at H
     obtain ⟨rfl, rfl, rfl⟩ := H
     go_wp2_with (first|((with_reducible refine gate_callee (f := 14) rfl ?_);refine goesL_ (some 9) rfl rfl Tryd.func14 (by kernel_rfl) rfl #[.pointer (some ⟨g, 0, none⟩), .int .i64 1] rfl (by (try simp only [List.map_toArray, List.map_cons, List.map_nil]);first|done|rfl|(simp only [List.length_drop, List.length_take];rfl)) ?_;(with_reducible refine (token_scanner_left.calls g s0_0 x1001_1 1 true t251 w0 _ ?side1 ?side2 A2.out).mono ?_);(case side1 => repeat (first|(with_reducible first|exact HI0.out|apply IsS50.alloc|apply IsS50.drewN|apply IsS50.drew|apply IsS50.set_1)|exact HI0.out));(case side2 => repeat (first|(with_reducible first|exact HB.out|apply below_alloc|apply pw_below_drewN|apply below_drew1|refine below_set ?_ (IsS50.ge HI0.out))|exact HB.out));rintro e w7 ⟨rfl, hi, hb, hk⟩;refine ⟨_, rfl, ?_⟩;have n0_ := Aside0.mk (Kd.R_mono (Kd.R_keep (IsS50.apart (show IsS50 w0 _ g s0_0 x1001_1 from by repeat (first|(with_reducible first|exact HI0.out|apply IsS50.alloc|apply IsS50.drewN|apply IsS50.drew|apply IsS50.set_1)|exact HI0.out)) (by (with_reducible repeat (first|apply Kd.R_alloc|apply Kd.R_drewN|apply Kd.R_drew));exact HO_4.out) (by decide)) hk (fun _ h => h.2)) (fun _ h => h.1));have n1_ := Aside0.mk (KeepBut.trans (by repeat (first|(with_reducible first|exact HK.out|apply KeepBut.set_|apply keep_drewN|apply keep_drew|apply keep_alloc)|exact HK.out)) hk (.inl rfl));have n2_ := Aside0.mk (hb);have n3_ := Aside0.mk (hi);clear HO_4;clear HK;clear HB;clear HI0;have HO_4 := n0_;have HK := n1_;have HB := n2_;have HI0 := n3_;clear n0_ n1_ n2_ n3_;(try clear hb);(try clear hb2);(try clear hk);(try clear hi))|((with_reducible refine gate_callee (f := 24) rfl ?_);refine goesL_ (some 11) rfl rfl Tryd.func24 (by kernel_rfl) rfl #[.pointer (some ⟨g, 0, none⟩), .int .i64 0] rfl (by (try simp only [List.map_toArray, List.map_cons, List.map_nil]);first|done|rfl|(simp only [List.length_drop, List.length_take];rfl)) ?_;(with_reducible refine (token_scanner_peek.calls g s0_0 t251 0 t252 t253 w0 _ ?side1 ?side2 A4.out).mono ?_);(case side1 => repeat (first|(with_reducible first|exact HI0.out|apply IsS50.alloc|apply IsS50.drewN|apply IsS50.drew|apply IsS50.set_1)|exact HI0.out));(case side2 => repeat (first|(with_reducible first|exact HB.out|apply below_alloc|apply pw_below_drewN|apply below_drew1|refine below_set ?_ (IsS50.ge HI0.out))|exact HB.out));rintro e w8 ⟨rfl, hi, hb, hk⟩;refine ⟨_, rfl, ?_⟩;have n0_ := Aside0.mk (Kd.R_mono (Kd.R_keep (IsS50.apart (show IsS50 w0 _ g s0_0 t251 from by repeat (first|(with_reducible first|exact HI0.out|apply IsS50.alloc|apply IsS50.drewN|apply IsS50.drew|apply IsS50.set_1)|exact HI0.out)) (by (with_reducible repeat (first|apply Kd.R_alloc|apply Kd.R_drewN|apply Kd.R_drew));exact HO_4.out) (by decide)) hk (fun _ h => h.2)) (fun _ h => h.1));have n1_ := Aside0.mk (KeepBut.trans (by repeat (first|(with_reducible first|exact HK.out|apply KeepBut.set_|apply keep_drewN|apply keep_drew|apply keep_alloc)|exact HK.out)) hk (.inl rfl));have n2_ := Aside0.mk (hb);have n3_ := Aside0.mk (hi);clear HO_4;clear HK;clear HB;clear HI0;have HO_4 := n0_;have HK := n1_;have HB := n2_;have HI0 := n3_;clear n0_ n1_ n2_ n3_;(try clear hb);(try clear hb2);(try clear hk);(try clear hi);obtain ⟨ASz9_0, cSz9_0, HGz9, hgz9, ⟨HSz9_0, HCSz9_0⟩⟩ := HI0.out;have hcz9_0 := cellS50_0 HGz9;have hcz9_1 := cellS50_1 HGz9;have hfz9_1 := blk_frozen HGz9 1;have BKSz9 := Aside0.mk HGz9;clear HGz9 hgz9;obtain ⟨Ao10, co10, eo10⟩ := Kd.R_slice HO_4.out;subst eo10)|((with_reducible refine gate_callee (f := 55) rfl ?_);refine goesL_ (some 24) rfl rfl Tryd.func55 (by kernel_rfl) rfl #[.slice Ao10 x4_1.length co10] rfl (by (try simp only [List.map_toArray, List.map_cons, List.map_nil]);first|done|rfl|(simp only [List.length_drop, List.length_take];rfl)) ?_;(with_reducible refine (utf_Encode.calls k1 _ _ x4_1 t254 t255 _ ?side1 ?side2 A6.out).mono ?_);(case side1 => refine (Kd.R_reads' (e := 3) (base := w.heap.size) (ok := fun k_ => True) (n := x4_1.length) (c := co10) ?_).2.2;exact (by (with_reducible repeat (first|apply Kd.R_alloc|apply Kd.R_drewN|apply Kd.R_drew));exact (Kd.R_mono (Kd.R_far (p := ⟨g, 1, none⟩) (IsS50.apart HI0.out HO_4.out (by decide)) (fun _ hk => hk.2) (.int .i64 (wrap64 (t253 + 1)))) (fun _ h_ => h_.1))));(case side2 => exact (Kd.R_reads' HO_4.out).2.1);rintro e w11 ⟨v256, rfl, ho0, hb⟩;refine ⟨_, rfl, ?_⟩;have n0_ := Aside0.mk (Kd.R_below (by (with_reducible repeat (first|apply Kd.R_alloc|apply Kd.R_drewN|apply Kd.R_drew));exact (Kd.R_mono (Kd.R_far (p := ⟨g, 1, none⟩) (IsS50.apart HI0.out HO_4.out (by decide)) (fun _ hk => hk.2) (.int .i64 (wrap64 (t253 + 1)))) (fun _ h_ => h_.1))) hb);have n1_ := Aside0.mk (Kd.R_lower ho0 (keep_size (w := w) (g := g) (row := none) (by repeat (first|(with_reducible first|exact HK.out|apply KeepBut.set_|apply keep_drewN|apply keep_drew|apply keep_alloc)|exact HK.out))));have n2_ := Aside0.mk (IsS50.below (show IsS50 w0 (w8.setCell ⟨g, 1, none⟩ (.int .i64 (wrap64 (t253 + 1)))) g s0_0 (wrap64 (t253 + 1)) from by repeat (first|(with_reducible first|exact HI0.out|apply IsS50.alloc|apply IsS50.drewN|apply IsS50.drew|apply IsS50.set_1)|exact HI0.out)) hb);have n3_ := Aside0.mk (KeepBut.trans (by repeat (first|(with_reducible first|exact HK.out|apply KeepBut.set_|apply keep_drewN|apply keep_drew|apply keep_alloc)|exact HK.out)) (KeepBut.of_below hb g none) (.inl rfl));have n4_ := Aside0.mk (below_step (by repeat (first|(with_reducible first|exact HB.out|apply below_alloc|apply pw_below_drewN|apply below_drew1|refine below_set ?_ (IsS50.ge HI0.out))|exact HB.out)) hb);clear HO_4;clear HI0;clear HK;clear HB;have HO_4 := n0_;have HO257 := n1_;have HI0 := n2_;have HK := n3_;have HB := n4_;clear n0_ n1_ n2_ n3_ n4_;(try clear hb);(try clear hb2);(try clear hk);(try clear hi);(try clear ho0);have hcv12 := own_string (P := Tryd.prog) Tryd.underlying27 Tryd.underlying5 Tryd.underlying9 (Kd.own_of_R HO257.out)))
     go_ret2
     exact ⟨by first|rfl|(simp [errW_none, errW_some] <;> rfl)|(simp [*, errW_none, errW_some] <;> rfl), by repeat (first|(with_reducible first|exact HI0.out|apply IsS50.alloc|apply IsS50.drewN|apply IsS50.drew|apply IsS50.set_1)|exact HI0.out), by repeat (first|(with_reducible first|exact HB.out|apply below_alloc|apply pw_below_drewN|apply below_drew1|refine below_set ?_ (IsS50.ge HI0.out))|exact HB.out), by repeat (first|(with_reducible first|exact HK.out|apply KeepBut.set_|apply keep_drewN|apply keep_drew|apply keep_alloc)|exact HK.out)⟩
    ·rw [if_neg c5] at H
     have c5b0 : (t252 == 34) = false := beq_eq_false_iff_ne.mpr c5
     have c5b1 : (t252 != 34) = true := bne_iff_ne.mpr c5
     by_cases c13 : t252 = 92
     ·rw [if_pos c13] at H
      have c13b0 : (t252 == 92) = true := beq_iff_eq.mpr c13
      have c13b1 : (t252 != 92) = false := bne_eq_false_iff_eq.mpr c13
      clear c13
      replace H := Option.bind_eq_some_iff.mp H
      obtain ⟨⟨t258, t259⟩, A140, H⟩ := H
      replace H : (if t258 < 0 then (some ((⟨#[]⟩ : ByteArray), false, t259)) else (if x4_1.length < 17592186044416 then (token_scanner_str.l0 k1 (x4_1 ++ [t258]) s0_0 t259) else (none))) = some (r1, r2, r3) := H
      have A14 := Aside0.mk A140
      clear A140
      by_cases c15 : t258 < 0
      ·rw [if_pos c15] at H
       have c15b0 : decide (t258 < 0) = true := decide_eq_true c15
       clear c15
       simp only [Option.some.injEq, Prod.mk.injEq] at H
       obtain ⟨rfl, rfl, rfl⟩ := H
       go_wp2_with (first|((with_reducible refine gate_callee (f := 14) rfl ?_);refine goesL_ (some 9) rfl rfl Tryd.func14 (by kernel_rfl) rfl #[.pointer (some ⟨g, 0, none⟩), .int .i64 1] rfl (by (try simp only [List.map_toArray, List.map_cons, List.map_nil]);first|done|rfl|(simp only [List.length_drop, List.length_take];rfl)) ?_;(with_reducible refine (token_scanner_left.calls g s0_0 x1001_1 1 true t251 w0 _ ?side1 ?side2 A2.out).mono ?_);(case side1 => repeat (first|(with_reducible first|exact HI0.out|apply IsS50.alloc|apply IsS50.drewN|apply IsS50.drew|apply IsS50.set_1)|exact HI0.out));(case side2 => repeat (first|(with_reducible first|exact HB.out|apply below_alloc|apply pw_below_drewN|apply below_drew1|refine below_set ?_ (IsS50.ge HI0.out))|exact HB.out));rintro e w16 ⟨rfl, hi, hb, hk⟩;refine ⟨_, rfl, ?_⟩;have n0_ := Aside0.mk (Kd.R_mono (Kd.R_keep (IsS50.apart (show IsS50 w0 _ g s0_0 x1001_1 from by repeat (first|(with_reducible first|exact HI0.out|apply IsS50.alloc|apply IsS50.drewN|apply IsS50.drew|apply IsS50.set_1)|exact HI0.out)) (by (with_reducible repeat (first|apply Kd.R_alloc|apply Kd.R_drewN|apply Kd.R_drew));exact HO_4.out) (by decide)) hk (fun _ h => h.2)) (fun _ h => h.1));have n1_ := Aside0.mk (KeepBut.trans (by repeat (first|(with_reducible first|exact HK.out|apply KeepBut.set_|apply keep_drewN|apply keep_drew|apply keep_alloc)|exact HK.out)) hk (.inl rfl));have n2_ := Aside0.mk (hb);have n3_ := Aside0.mk (hi);clear HO_4;clear HK;clear HB;clear HI0;have HO_4 := n0_;have HK := n1_;have HB := n2_;have HI0 := n3_;clear n0_ n1_ n2_ n3_;(try clear hb);(try clear hb2);(try clear hk);(try clear hi))|((with_reducible refine gate_callee (f := 24) rfl ?_);refine goesL_ (some 11) rfl rfl Tryd.func24 (by kernel_rfl) rfl #[.pointer (some ⟨g, 0, none⟩), .int .i64 0] rfl (by (try simp only [List.map_toArray, List.map_cons, List.map_nil]);first|done|rfl|(simp only [List.length_drop, List.length_take];rfl)) ?_;(with_reducible refine (token_scanner_peek.calls g s0_0 t251 0 t252 t253 w0 _ ?side1 ?side2 A4.out).mono ?_);(case side1 => repeat (first|(with_reducible first|exact HI0.out|apply IsS50.alloc|apply IsS50.drewN|apply IsS50.drew|apply IsS50.set_1)|exact HI0.out));(case side2 => repeat (first|(with_reducible first|exact HB.out|apply below_alloc|apply pw_below_drewN|apply below_drew1|refine below_set ?_ (IsS50.ge HI0.out))|exact HB.out));rintro e w17 ⟨rfl, hi, hb, hk⟩;refine ⟨_, rfl, ?_⟩;have n0_ := Aside0.mk (Kd.R_mono (Kd.R_keep (IsS50.apart (show IsS50 w0 _ g s0_0 t251 from by repeat (first|(with_reducible first|exact HI0.out|apply IsS50.alloc|apply IsS50.drewN|apply IsS50.drew|apply IsS50.set_1)|exact HI0.out)) (by (with_reducible repeat (first|apply Kd.R_alloc|apply Kd.R_drewN|apply Kd.R_drew));exact HO_4.out) (by decide)) hk (fun _ h => h.2)) (fun _ h => h.1));have n1_ := Aside0.mk (KeepBut.trans (by repeat (first|(with_reducible first|exact HK.out|apply KeepBut.set_|apply keep_drewN|apply keep_drew|apply keep_alloc)|exact HK.out)) hk (.inl rfl));have n2_ := Aside0.mk (hb);have n3_ := Aside0.mk (hi);clear HO_4;clear HK;clear HB;clear HI0;have HO_4 := n0_;have HK := n1_;have HB := n2_;have HI0 := n3_;clear n0_ n1_ n2_ n3_;(try clear hb);(try clear hb2);(try clear hk);(try clear hi);obtain ⟨ASz18_0, cSz18_0, HGz18, hgz18, ⟨HSz18_0, HCSz18_0⟩⟩ := HI0.out;have hcz18_0 := cellS50_0 HGz18;have hcz18_1 := cellS50_1 HGz18;have hfz18_1 := blk_frozen HGz18 1;have BKSz18 := Aside0.mk HGz18;clear HGz18 hgz18)|((with_reducible refine gate_callee (f := 56) rfl ?_);refine goesL_ (some 35) rfl rfl Tryd.func56 (by kernel_rfl) rfl #[.pointer (some ⟨g, 0, none⟩)] rfl (by (try simp only [List.map_toArray, List.map_cons, List.map_nil]);first|done|rfl|(simp only [List.length_drop, List.length_take];rfl)) ?_;(with_reducible refine (token_scanner_escape.calls k1 g s0_0 (wrap64 (t253 + 1)) t258 t259 w0 _ ?side1 ?side2 ?side3 A14.out).mono ?_);(case side1 => repeat (first|(with_reducible first|exact HI0.out|apply IsS50.alloc|apply IsS50.drewN|apply IsS50.drew|apply IsS50.set_1)|exact HI0.out));(case side2 => repeat (first|(with_reducible first|exact HB.out|apply below_alloc|apply pw_below_drewN|apply below_drew1|refine below_set ?_ (IsS50.ge HI0.out))|exact HB.out));(case side3 => exact HLD.out);rintro e w19 ⟨rfl, hi, hb, hk⟩;refine ⟨_, rfl, ?_⟩;have n0_ := Aside0.mk (Kd.R_mono (Kd.R_keep (IsS50.apart (show IsS50 w0 _ g s0_0 (wrap64 (t253 + 1)) from by repeat (first|(with_reducible first|exact HI0.out|apply IsS50.alloc|apply IsS50.drewN|apply IsS50.drew|apply IsS50.set_1)|exact HI0.out)) (by (with_reducible repeat (first|apply Kd.R_alloc|apply Kd.R_drewN|apply Kd.R_drew));exact (Kd.R_mono (Kd.R_far (p := ⟨g, 1, none⟩) (IsS50.apart HI0.out HO_4.out (by decide)) (fun _ hk => hk.2) (.int .i64 (wrap64 (t253 + 1)))) (fun _ h_ => h_.1))) (by decide)) hk (fun _ h => h.2)) (fun _ h => h.1));have n1_ := Aside0.mk (KeepBut.trans (by repeat (first|(with_reducible first|exact HK.out|apply KeepBut.set_|apply keep_drewN|apply keep_drew|apply keep_alloc)|exact HK.out)) hk (.inl rfl));have n2_ := Aside0.mk (hb);have n3_ := Aside0.mk (hi);clear HO_4;clear HK;clear HB;clear HI0;have HO_4 := n0_;have HK := n1_;have HB := n2_;have HI0 := n3_;clear n0_ n1_ n2_ n3_;(try clear hb);(try clear hb2);(try clear hk);(try clear hi)))
       go_ret2
       exact ⟨by first|rfl|(simp [errW_none, errW_some] <;> rfl)|(simp [*, errW_none, errW_some] <;> rfl), by repeat (first|(with_reducible first|exact HI0.out|apply IsS50.alloc|apply IsS50.drewN|apply IsS50.drew|apply IsS50.set_1)|exact HI0.out), by repeat (first|(with_reducible first|exact HB.out|apply below_alloc|apply pw_below_drewN|apply below_drew1|refine below_set ?_ (IsS50.ge HI0.out))|exact HB.out), by repeat (first|(with_reducible first|exact HK.out|apply KeepBut.set_|apply keep_drewN|apply keep_drew|apply keep_alloc)|exact HK.out)⟩
      ·rw [if_neg c15] at H
       have c15b0 : decide (t258 < 0) = false := decide_eq_false c15
       clear c15
       by_cases c20 : x4_1.length < 17592186044416
       ·rw [if_pos c20] at H
        have LMc20 := Aside0.mk c20
        clear c20
        obtain ⟨y260, hy260⟩ : ∃ y_ : List Int, y_ = (x4_1 ++ [t258]) := ⟨_, rfl⟩
        replace H : (token_scanner_str.l0 k1 y260 s0_0 t259) = some (r1, r2, r3) := by first | (rw [hy260]; with_reducible exact H) | (have H2_ := (Option.bind_some _ _).symm.trans H; rw [hy260]; with_reducible exact H2_) | (have H2_ := (Option.bind_some _ _).symm.trans H; with_reducible exact H2_) | with_reducible exact H | (rw [hy260]; exact H) | exact H
        have Ny260 := Aside0.mk hy260
        clear hy260
        have H' := Aside0.mk H
        clear H
        go_wp2_with (first|((with_reducible refine gate_callee (f := 14) rfl ?_);refine goesL_ (some 9) rfl rfl Tryd.func14 (by kernel_rfl) rfl #[.pointer (some ⟨g, 0, none⟩), .int .i64 1] rfl (by (try simp only [List.map_toArray, List.map_cons, List.map_nil]);first|done|rfl|(simp only [List.length_drop, List.length_take];rfl)) ?_;(with_reducible refine (token_scanner_left.calls g s0_0 x1001_1 1 true t251 w0 _ ?side1 ?side2 A2.out).mono ?_);(case side1 => repeat (first|(with_reducible first|exact HI0.out|apply IsS50.alloc|apply IsS50.drewN|apply IsS50.drew|apply IsS50.set_1)|exact HI0.out));(case side2 => repeat (first|(with_reducible first|exact HB.out|apply below_alloc|apply pw_below_drewN|apply below_drew1|refine below_set ?_ (IsS50.ge HI0.out))|exact HB.out));rintro e w21 ⟨rfl, hi, hb, hk⟩;refine ⟨_, rfl, ?_⟩;have n0_ := Aside0.mk (Kd.R_mono (Kd.R_keep (IsS50.apart (show IsS50 w0 _ g s0_0 x1001_1 from by repeat (first|(with_reducible first|exact HI0.out|apply IsS50.alloc|apply IsS50.drewN|apply IsS50.drew|apply IsS50.set_1)|exact HI0.out)) (by (with_reducible repeat (first|apply Kd.R_alloc|apply Kd.R_drewN|apply Kd.R_drew));exact HO_4.out) (by decide)) hk (fun _ h => h.2)) (fun _ h => h.1));have n1_ := Aside0.mk (KeepBut.trans (by repeat (first|(with_reducible first|exact HK.out|apply KeepBut.set_|apply keep_drewN|apply keep_drew|apply keep_alloc)|exact HK.out)) hk (.inl rfl));have n2_ := Aside0.mk (hb);have n3_ := Aside0.mk (hi);clear HO_4;clear HK;clear HB;clear HI0;have HO_4 := n0_;have HK := n1_;have HB := n2_;have HI0 := n3_;clear n0_ n1_ n2_ n3_;(try clear hb);(try clear hb2);(try clear hk);(try clear hi))|((with_reducible refine gate_callee (f := 24) rfl ?_);refine goesL_ (some 11) rfl rfl Tryd.func24 (by kernel_rfl) rfl #[.pointer (some ⟨g, 0, none⟩), .int .i64 0] rfl (by (try simp only [List.map_toArray, List.map_cons, List.map_nil]);first|done|rfl|(simp only [List.length_drop, List.length_take];rfl)) ?_;(with_reducible refine (token_scanner_peek.calls g s0_0 t251 0 t252 t253 w0 _ ?side1 ?side2 A4.out).mono ?_);(case side1 => repeat (first|(with_reducible first|exact HI0.out|apply IsS50.alloc|apply IsS50.drewN|apply IsS50.drew|apply IsS50.set_1)|exact HI0.out));(case side2 => repeat (first|(with_reducible first|exact HB.out|apply below_alloc|apply pw_below_drewN|apply below_drew1|refine below_set ?_ (IsS50.ge HI0.out))|exact HB.out));rintro e w22 ⟨rfl, hi, hb, hk⟩;refine ⟨_, rfl, ?_⟩;have n0_ := Aside0.mk (Kd.R_mono (Kd.R_keep (IsS50.apart (show IsS50 w0 _ g s0_0 t251 from by repeat (first|(with_reducible first|exact HI0.out|apply IsS50.alloc|apply IsS50.drewN|apply IsS50.drew|apply IsS50.set_1)|exact HI0.out)) (by (with_reducible repeat (first|apply Kd.R_alloc|apply Kd.R_drewN|apply Kd.R_drew));exact HO_4.out) (by decide)) hk (fun _ h => h.2)) (fun _ h => h.1));have n1_ := Aside0.mk (KeepBut.trans (by repeat (first|(with_reducible first|exact HK.out|apply KeepBut.set_|apply keep_drewN|apply keep_drew|apply keep_alloc)|exact HK.out)) hk (.inl rfl));have n2_ := Aside0.mk (hb);have n3_ := Aside0.mk (hi);clear HO_4;clear HK;clear HB;clear HI0;have HO_4 := n0_;have HK := n1_;have HB := n2_;have HI0 := n3_;clear n0_ n1_ n2_ n3_;(try clear hb);(try clear hb2);(try clear hk);(try clear hi);obtain ⟨ASz23_0, cSz23_0, HGz23, hgz23, ⟨HSz23_0, HCSz23_0⟩⟩ := HI0.out;have hcz23_0 := cellS50_0 HGz23;have hcz23_1 := cellS50_1 HGz23;have hfz23_1 := blk_frozen HGz23 1;have BKSz23 := Aside0.mk HGz23;clear HGz23 hgz23)|((with_reducible refine gate_callee (f := 56) rfl ?_);refine goesL_ (some 35) rfl rfl Tryd.func56 (by kernel_rfl) rfl #[.pointer (some ⟨g, 0, none⟩)] rfl (by (try simp only [List.map_toArray, List.map_cons, List.map_nil]);first|done|rfl|(simp only [List.length_drop, List.length_take];rfl)) ?_;(with_reducible refine (token_scanner_escape.calls k1 g s0_0 (wrap64 (t253 + 1)) t258 t259 w0 _ ?side1 ?side2 ?side3 A14.out).mono ?_);(case side1 => repeat (first|(with_reducible first|exact HI0.out|apply IsS50.alloc|apply IsS50.drewN|apply IsS50.drew|apply IsS50.set_1)|exact HI0.out));(case side2 => repeat (first|(with_reducible first|exact HB.out|apply below_alloc|apply pw_below_drewN|apply below_drew1|refine below_set ?_ (IsS50.ge HI0.out))|exact HB.out));(case side3 => exact HLD.out);rintro e w24 ⟨rfl, hi, hb, hk⟩;refine ⟨_, rfl, ?_⟩;have n0_ := Aside0.mk (Kd.R_mono (Kd.R_keep (IsS50.apart (show IsS50 w0 _ g s0_0 (wrap64 (t253 + 1)) from by repeat (first|(with_reducible first|exact HI0.out|apply IsS50.alloc|apply IsS50.drewN|apply IsS50.drew|apply IsS50.set_1)|exact HI0.out)) (by (with_reducible repeat (first|apply Kd.R_alloc|apply Kd.R_drewN|apply Kd.R_drew));exact (Kd.R_mono (Kd.R_far (p := ⟨g, 1, none⟩) (IsS50.apart HI0.out HO_4.out (by decide)) (fun _ hk => hk.2) (.int .i64 (wrap64 (t253 + 1)))) (fun _ h_ => h_.1))) (by decide)) hk (fun _ h => h.2)) (fun _ h => h.1));have n1_ := Aside0.mk (KeepBut.trans (by repeat (first|(with_reducible first|exact HK.out|apply KeepBut.set_|apply keep_drewN|apply keep_drew|apply keep_alloc)|exact HK.out)) hk (.inl rfl));have n2_ := Aside0.mk (hb);have n3_ := Aside0.mk (hi);clear HO_4;clear HK;clear HB;clear HI0;have HO_4 := n0_;have HK := n1_;have HB := n2_;have HI0 := n3_;clear n0_ n1_ n2_ n3_;(try clear hb);(try clear hb2);(try clear hk);(try clear hi))|((with_reducible refine gate_builtin (b := .append) (xs := #[.tmp 38, .tmp 40]) rfl ?_);at_builtin;refine Kd.R_append (Kd.int .i64) w.heap.size rfl (.tmp 38) (.tmp 40) 22 3 (.int .i64 0) 8 rfl Tryd.underlying22 info3 rfl (by decide) (by omega) u4 x4_1 t258 [.int .i64 t258] (fun _ => True) (fun _ => False) rfl rfl ?aP (fun _ hk => hk.elim) ?aF ?aO (Below.refl _ _) ?aS ?aL ?_;(case aP => exact rfl);(case aF => exact (fun _ _ => trivial));(case aO => exact (by (with_reducible repeat (first|apply Kd.R_alloc|apply Kd.R_drewN|apply Kd.R_drew));exact HO_4.out));(case aS => exact (keep_size (w := w) (g := g) (row := none) (by repeat (first|(with_reducible first|exact HK.out|apply KeepBut.set_|apply keep_drewN|apply keep_drew|apply keep_alloc)|exact HK.out))));(case aL => have := LMc20.out;omega);intro v261 w25 ho hb hg hat;rw [← Ny260.out] at ho;have n0_ := Aside0.mk (IsS50.grown (by repeat (first|(with_reducible first|exact HI0.out|apply IsS50.alloc|apply IsS50.drewN|apply IsS50.drew|apply IsS50.set_1)|exact HI0.out)) hg (IsS50.own_ne HI0.out HO_4.out (by decide)));have n1_ := Aside0.mk (below_weaken (by repeat (first|(with_reducible first|exact HB.out|apply below_alloc|apply pw_below_drewN|apply below_drew1|refine below_set ?_ (IsS50.ge HI0.out))|exact HB.out)) HL.out hb);have n2_ := Aside0.mk (KeepBut.trans (by repeat (first|(with_reducible first|exact HK.out|apply KeepBut.set_|apply keep_drewN|apply keep_drew|apply keep_alloc)|exact HK.out)) (KeepBut.of_grown hg g) (Kd.R_base2 HO_4.out));have n3_ := Aside0.mk (ho);clear HI0;clear HB;clear HK;clear HO_4;have HI0 := n0_;have HB := n1_;have HK := n2_;have HO262 := n3_;clear n0_ n1_ n2_ n3_;clear ho hb hg hat))
        go_roundg k1
        case measure => have := HK1.out; omega
        case rel => exact ⟨(y260), (t259), H', ⟨by have := HK1.out;omega⟩, ⟨by (with_reducible repeat (first|apply Kd.R_alloc|apply Kd.R_drewN|apply Kd.R_drew));exact HO262.out⟩, ⟨by repeat (first|(with_reducible first|exact HI0.out|apply IsS50.alloc|apply IsS50.drewN|apply IsS50.drew|apply IsS50.set_1)|exact HI0.out)⟩, ⟨by repeat (first|(with_reducible first|exact HK.out|apply KeepBut.set_|apply keep_drewN|apply keep_drew|apply keep_alloc)|exact HK.out)⟩, ⟨by repeat (first|(with_reducible first|exact HB.out|apply below_alloc|apply pw_below_drewN|apply below_drew1|refine below_set ?_ (IsS50.ge HI0.out))|exact HB.out)⟩⟩
       ·rw [if_neg c20] at H
        exact absurd H (by simp)
     ·rw [if_neg c13] at H
      have c13b0 : (t252 == 92) = false := beq_eq_false_iff_ne.mpr c13
      have c13b1 : (t252 != 92) = true := bne_iff_ne.mpr c13
      by_cases c26 : x4_1.length < 17592186044416
      ·rw [if_pos c26] at H
       have LMc26 := Aside0.mk c26
       clear c26
       obtain ⟨y263, hy263⟩ : ∃ y_ : List Int, y_ = (x4_1 ++ [t252]) := ⟨_, rfl⟩
       replace H : (token_scanner_str.l0 k1 y263 s0_0 (wrap64 (t253 + 1))) = some (r1, r2, r3) := by first | (rw [hy263]; with_reducible exact H) | (have H2_ := (Option.bind_some _ _).symm.trans H; rw [hy263]; with_reducible exact H2_) | (have H2_ := (Option.bind_some _ _).symm.trans H; with_reducible exact H2_) | with_reducible exact H | (rw [hy263]; exact H) | exact H
       have Ny263 := Aside0.mk hy263
       clear hy263
       have H' := Aside0.mk H
       clear H
       go_wp2_with (first|((with_reducible refine gate_callee (f := 14) rfl ?_);refine goesL_ (some 9) rfl rfl Tryd.func14 (by kernel_rfl) rfl #[.pointer (some ⟨g, 0, none⟩), .int .i64 1] rfl (by (try simp only [List.map_toArray, List.map_cons, List.map_nil]);first|done|rfl|(simp only [List.length_drop, List.length_take];rfl)) ?_;(with_reducible refine (token_scanner_left.calls g s0_0 x1001_1 1 true t251 w0 _ ?side1 ?side2 A2.out).mono ?_);(case side1 => repeat (first|(with_reducible first|exact HI0.out|apply IsS50.alloc|apply IsS50.drewN|apply IsS50.drew|apply IsS50.set_1)|exact HI0.out));(case side2 => repeat (first|(with_reducible first|exact HB.out|apply below_alloc|apply pw_below_drewN|apply below_drew1|refine below_set ?_ (IsS50.ge HI0.out))|exact HB.out));rintro e w27 ⟨rfl, hi, hb, hk⟩;refine ⟨_, rfl, ?_⟩;have n0_ := Aside0.mk (Kd.R_mono (Kd.R_keep (IsS50.apart (show IsS50 w0 _ g s0_0 x1001_1 from by repeat (first|(with_reducible first|exact HI0.out|apply IsS50.alloc|apply IsS50.drewN|apply IsS50.drew|apply IsS50.set_1)|exact HI0.out)) (by (with_reducible repeat (first|apply Kd.R_alloc|apply Kd.R_drewN|apply Kd.R_drew));exact HO_4.out) (by decide)) hk (fun _ h => h.2)) (fun _ h => h.1));have n1_ := Aside0.mk (KeepBut.trans (by repeat (first|(with_reducible first|exact HK.out|apply KeepBut.set_|apply keep_drewN|apply keep_drew|apply keep_alloc)|exact HK.out)) hk (.inl rfl));have n2_ := Aside0.mk (hb);have n3_ := Aside0.mk (hi);clear HO_4;clear HK;clear HB;clear HI0;have HO_4 := n0_;have HK := n1_;have HB := n2_;have HI0 := n3_;clear n0_ n1_ n2_ n3_;(try clear hb);(try clear hb2);(try clear hk);(try clear hi))|((with_reducible refine gate_callee (f := 24) rfl ?_);refine goesL_ (some 11) rfl rfl Tryd.func24 (by kernel_rfl) rfl #[.pointer (some ⟨g, 0, none⟩), .int .i64 0] rfl (by (try simp only [List.map_toArray, List.map_cons, List.map_nil]);first|done|rfl|(simp only [List.length_drop, List.length_take];rfl)) ?_;(with_reducible refine (token_scanner_peek.calls g s0_0 t251 0 t252 t253 w0 _ ?side1 ?side2 A4.out).mono ?_);(case side1 => repeat (first|(with_reducible first|exact HI0.out|apply IsS50.alloc|apply IsS50.drewN|apply IsS50.drew|apply IsS50.set_1)|exact HI0.out));(case side2 => repeat (first|(with_reducible first|exact HB.out|apply below_alloc|apply pw_below_drewN|apply below_drew1|refine below_set ?_ (IsS50.ge HI0.out))|exact HB.out));rintro e w28 ⟨rfl, hi, hb, hk⟩;refine ⟨_, rfl, ?_⟩;have n0_ := Aside0.mk (Kd.R_mono (Kd.R_keep (IsS50.apart (show IsS50 w0 _ g s0_0 t251 from by repeat (first|(with_reducible first|exact HI0.out|apply IsS50.alloc|apply IsS50.drewN|apply IsS50.drew|apply IsS50.set_1)|exact HI0.out)) (by (with_reducible repeat (first|apply Kd.R_alloc|apply Kd.R_drewN|apply Kd.R_drew));exact HO_4.out) (by decide)) hk (fun _ h => h.2)) (fun _ h => h.1));have n1_ := Aside0.mk (KeepBut.trans (by repeat (first|(with_reducible first|exact HK.out|apply KeepBut.set_|apply keep_drewN|apply keep_drew|apply keep_alloc)|exact HK.out)) hk (.inl rfl));have n2_ := Aside0.mk (hb);have n3_ := Aside0.mk (hi);clear HO_4;clear HK;clear HB;clear HI0;have HO_4 := n0_;have HK := n1_;have HB := n2_;have HI0 := n3_;clear n0_ n1_ n2_ n3_;(try clear hb);(try clear hb2);(try clear hk);(try clear hi);obtain ⟨ASz29_0, cSz29_0, HGz29, hgz29, ⟨HSz29_0, HCSz29_0⟩⟩ := HI0.out;have hcz29_0 := cellS50_0 HGz29;have hcz29_1 := cellS50_1 HGz29;have hfz29_1 := blk_frozen HGz29 1;have BKSz29 := Aside0.mk HGz29;clear HGz29 hgz29)|((with_reducible refine gate_builtin (b := .append) (xs := #[.tmp 38, .tmp 40]) rfl ?_);at_builtin;refine Kd.R_append (Kd.int .i64) w.heap.size rfl (.tmp 38) (.tmp 40) 22 3 (.int .i64 0) 8 rfl Tryd.underlying22 info3 rfl (by decide) (by omega) u4 x4_1 t252 [.int .i64 t252] (fun _ => True) (fun _ => False) rfl (by first|(go_simp;done)|(go_simp;rfl)) ?aP (fun _ hk => hk.elim) ?aF ?aO (Below.refl _ _) ?aS ?aL ?_;(case aP => exact rfl);(case aF => exact (fun _ _ => trivial));(case aO => exact (by (with_reducible repeat (first|apply Kd.R_alloc|apply Kd.R_drewN|apply Kd.R_drew));exact Kd.R_mono (Kd.R_far (p := ⟨g, 1, none⟩) (IsS50.apart HI0.out HO_4.out (by decide)) (fun _ hk => hk.2) (.int .i64 (wrap64 (t253 + 1)))) (fun _ hk => trivial)));(case aS => exact (keep_size (w := w) (g := g) (row := none) (by repeat (first|(with_reducible first|exact HK.out|apply KeepBut.set_|apply keep_drewN|apply keep_drew|apply keep_alloc)|exact HK.out))));(case aL => have := LMc26.out;omega);intro v264 w30 ho hb hg hat;rw [← Ny263.out] at ho;have n0_ := Aside0.mk (IsS50.grown (by repeat (first|(with_reducible first|exact HI0.out|apply IsS50.alloc|apply IsS50.drewN|apply IsS50.drew|apply IsS50.set_1)|exact HI0.out)) hg (IsS50.own_ne HI0.out HO_4.out (by decide)));have n1_ := Aside0.mk (below_weaken (by repeat (first|(with_reducible first|exact HB.out|apply below_alloc|apply pw_below_drewN|apply below_drew1|refine below_set ?_ (IsS50.ge HI0.out))|exact HB.out)) HL.out hb);have n2_ := Aside0.mk (KeepBut.trans (by repeat (first|(with_reducible first|exact HK.out|apply KeepBut.set_|apply keep_drewN|apply keep_drew|apply keep_alloc)|exact HK.out)) (KeepBut.of_grown hg g) (Kd.R_base2 HO_4.out));have n3_ := Aside0.mk (ho);clear HI0;clear HB;clear HK;clear HO_4;have HI0 := n0_;have HB := n1_;have HK := n2_;have HO265 := n3_;clear n0_ n1_ n2_ n3_;clear ho hb hg hat))
       go_roundg k1
       case measure => have := HK1.out; omega
       case rel => exact ⟨(y263), (wrap64 (t253 + 1)), H', ⟨by have := HK1.out;omega⟩, ⟨by (with_reducible repeat (first|apply Kd.R_alloc|apply Kd.R_drewN|apply Kd.R_drew));exact HO265.out⟩, ⟨by repeat (first|(with_reducible first|exact HI0.out|apply IsS50.alloc|apply IsS50.drewN|apply IsS50.drew|apply IsS50.set_1)|exact HI0.out)⟩, ⟨by repeat (first|(with_reducible first|exact HK.out|apply KeepBut.set_|apply keep_drewN|apply keep_drew|apply keep_alloc)|exact HK.out)⟩, ⟨by repeat (first|(with_reducible first|exact HB.out|apply below_alloc|apply pw_below_drewN|apply below_drew1|refine below_set ?_ (IsS50.ge HI0.out))|exact HB.out)⟩⟩
      ·rw [if_neg c26] at H
       exact absurd H (by simp)
   ·replace c3 := Bool.eq_false_iff.mpr c3
    subst c3
    have H1 : (some ((⟨#[]⟩ : ByteArray), false, t251)) = some (r1, r2, r3) := by rw [if_neg (show ¬ (false = true) by decide)] at H; exact H
    clear H
    have H := H1
    clear H1
    simp only [Option.some.injEq, Prod.mk.injEq] at H
    obtain ⟨rfl, rfl, rfl⟩ := H
    go_wp2_with (first|((with_reducible refine gate_callee (f := 14) rfl ?_);refine goesL_ (some 9) rfl rfl Tryd.func14 (by kernel_rfl) rfl #[.pointer (some ⟨g, 0, none⟩), .int .i64 1] rfl (by (try simp only [List.map_toArray, List.map_cons, List.map_nil]);first|done|rfl|(simp only [List.length_drop, List.length_take];rfl)) ?_;(with_reducible refine (token_scanner_left.calls g s0_0 x1001_1 1 false t251 w0 _ ?side1 ?side2 A2.out).mono ?_);(case side1 => repeat (first|(with_reducible first|exact HI0.out|apply IsS50.alloc|apply IsS50.drewN|apply IsS50.drew|apply IsS50.set_1)|exact HI0.out));(case side2 => repeat (first|(with_reducible first|exact HB.out|apply below_alloc|apply pw_below_drewN|apply below_drew1|refine below_set ?_ (IsS50.ge HI0.out))|exact HB.out));rintro e w31 ⟨rfl, hi, hb, hk⟩;refine ⟨_, rfl, ?_⟩;have n0_ := Aside0.mk (Kd.R_mono (Kd.R_keep (IsS50.apart (show IsS50 w0 _ g s0_0 x1001_1 from by repeat (first|(with_reducible first|exact HI0.out|apply IsS50.alloc|apply IsS50.drewN|apply IsS50.drew|apply IsS50.set_1)|exact HI0.out)) (by (with_reducible repeat (first|apply Kd.R_alloc|apply Kd.R_drewN|apply Kd.R_drew));exact HO_4.out) (by decide)) hk (fun _ h => h.2)) (fun _ h => h.1));have n1_ := Aside0.mk (KeepBut.trans (by repeat (first|(with_reducible first|exact HK.out|apply KeepBut.set_|apply keep_drewN|apply keep_drew|apply keep_alloc)|exact HK.out)) hk (.inl rfl));have n2_ := Aside0.mk (hb);have n3_ := Aside0.mk (hi);clear HO_4;clear HK;clear HB;clear HI0;have HO_4 := n0_;have HK := n1_;have HB := n2_;have HI0 := n3_;clear n0_ n1_ n2_ n3_;(try clear hb);(try clear hb2);(try clear hk);(try clear hi)))
    go_ret2
    exact ⟨by first|rfl|(simp [errW_none, errW_some] <;> rfl)|(simp [*, errW_none, errW_some] <;> rfl), by repeat (first|(with_reducible first|exact HI0.out|apply IsS50.alloc|apply IsS50.drewN|apply IsS50.drew|apply IsS50.set_1)|exact HI0.out), by repeat (first|(with_reducible first|exact HB.out|apply below_alloc|apply pw_below_drewN|apply below_drew1|refine below_set ?_ (IsS50.ge HI0.out))|exact HB.out), by repeat (first|(with_reducible first|exact HK.out|apply KeepBut.set_|apply keep_drewN|apply keep_drew|apply keep_alloc)|exact HK.out)⟩
end Go.Proofs.YtefefpkgiecikaaDoor.P
namespace Go.Proofs.YtefefpkgiecikaaDoor.P
open Go.RowKit Go.Proofs.YtefefpkgiecikaaDoorW.PrintWords Go.Proofs.YtefefpkgiecikaaDoorW.PrintLast Go.Proofs.YtefefpkgiecikaaDoorW.PrintMore
attribute [local go_sem] max2_int min2_int max_two min_two max_three min_three max_four min_four
set_option linter.unusedVariables false
set_option linter.unusedSimpArgs false
def token_scanner_while.l0 : Nat → Int → List Int → Int → Option (ByteArray × Int)
 | 0, _, _, _ => none
 | k + 1, x5, x1000, x1001 => (token_scanner_left.f x1000 x1001 1).bind fun bt266 => (if bt266.1 = true then ((token_scanner_peek.f x1000 bt266.2 0).bind fun bt268 => ((utf_Ends.f bt268.1).bind fun t270 => (if t270 = true then (if 0 ≤ x5 then (if x5 ≤ bt268.2 then (if bt268.2 ≤ (x1000.length : Int) then ((utf_Encode.f k ((x1000.take (bt268.2 : Int).toNat).drop (x5 : Int).toNat)).bind fun bt272 => (some (strOfNums bt272.1, bt268.2))) else (none)) else (none)) else (none)) else (token_scanner_while.l0 k x5 x1000 (wrap64 (bt268.2 + 1)))))) else (if 0 ≤ x5 then (if x5 ≤ bt266.2 then (if bt266.2 ≤ (x1000.length : Int) then ((utf_Encode.f k ((x1000.take (bt266.2 : Int).toNat).drop (x5 : Int).toNat)).bind fun bt277 => (some (strOfNums bt277.1, bt266.2))) else (none)) else (none)) else (none)))
def token_scanner_while.f (k : Nat) (s0_0 : List Int) (s0_1 : Int) (a1 : Int) : Option (ByteArray × Int) := token_scanner_while.l0 k s0_1 s0_0 (wrap64 (s0_1 + a1))
theorem token_scanner_while.mono_l : ∀ k, (∀ y0 y1 y2, LeO (token_scanner_while.l0 k y0 y1 y2) (token_scanner_while.l0 (k + 1) y0 y1 y2))
 | 0 => fun _ _ _ r h => by simp [token_scanner_while.l0] at h
 | k + 1 => by
  have ih0 := token_scanner_while.mono_l k
  ·intro y0 y1 y2
   unfold token_scanner_while.l0
   repeat' first
   | (with_reducible exact ih0 _ _ _)
   | (with_reducible exact utf_Encode.mono _ _)
   | (with_reducible exact LeO.refl _)
   | (with_reducible exact LeO.none _)
   | (with_reducible refine LeO.ite ?_ ?_)
   | (with_reducible refine LeO.bind ?_ (fun _ => ?_))
   | exact ih0 _ _ _
   | exact utf_Encode.mono _ _
   | exact LeO.none _
   | refine LeO.ite ?_ ?_
   | refine LeO.bind ?_ (fun _ => ?_)
theorem token_scanner_while.mono : ∀ a0 a1 a2 k, LeO (token_scanner_while.f k a0 a1 a2) (token_scanner_while.f (k + 1) a0 a1 a2) := by
 intro a0 a1 a2 k
 have ih0 := token_scanner_while.mono_l k
 unfold token_scanner_while.f
 repeat' first
   | (with_reducible exact ih0 _ _ _)
   | (with_reducible exact utf_Encode.mono _ _)
   | (with_reducible exact LeO.refl _)
   | (with_reducible exact LeO.none _)
   | (with_reducible refine LeO.ite ?_ ?_)
   | (with_reducible refine LeO.bind ?_ (fun _ => ?_))
   | exact ih0 _ _ _
   | exact utf_Encode.mono _ _
   | exact LeO.none _
   | refine LeO.ite ?_ ?_
   | refine LeO.bind ?_ (fun _ => ?_)
def token_scanner_while.T5 : Bool × List (List Nat × List Nat) := (true, [([], []), ([0], [0]), ([1], [1]), ([2], [2]), ([], []), ([], []), ([5], [5]), ([6], [6]), ([7], [7]), ([3, 4, 8], [3, 4, 8]), ([9], [9]), ([10], [10]), ([11], [11]), ([11], [11]), ([12, 10, 0, 1, 2, 3, 4, 5, 6, 7, 8, 9, 10, 11, 12], [12]), ([13, 14, 0, 1, 2, 3, 4, 5, 6, 7, 8, 9, 10, 11, 12, 13, 14], [13])])
def token_scanner_while.B5 : List Nat := [0, 1, 3, 7, 0, 0, 32, 96, 224, 511, 1023, 2047, 4095, 4095, 8191, 32767]
theorem token_scanner_while.tab5 : rtab .any (opsOf Tryd.f39 5) = token_scanner_while.T5 := by kernel_rfl
theorem token_scanner_while.bits5 : waitsOk token_scanner_while.T5.2 token_scanner_while.B5 = true := by kernel_rfl
set_option maxHeartbeats 8000000 in
set_option maxRecDepth 100000 in
theorem token_scanner_while.calls (k : Nat) (g : Nat) (s0_0 : List Int) (s0_1 : Int) (a1 : Int) (r1 : ByteArray) (r2 : Int) (w0 w : World) (hI : IsS50 w0 w g s0_0 s0_1) (hB : Below w0.heap.size w0 w) (h : token_scanner_while.f k s0_0 s0_1 a1 = some (r1, r2)) :
  Calls Tryd.prog 39 #[.pointer (some ⟨g, 0, none⟩), .int .i64 a1] w fun e w' => e = .returned (.string r1) ∧ IsS50 w0 w' g s0_0 r2 ∧ Below w0.heap.size w0 w' ∧ KeepBut w w' g none := by
 have HI0 := Aside0.mk hI
 have HK := Aside0.mk (KeepBut.refl w g none)
 have HL := Aside0.mk hB.size
 clear hI
 have HW0 := Aside0.mk hB.size
 have HB := Aside0.mk hB
 clear hB
 have H : (token_scanner_while.l0 k s0_1 s0_0 (wrap64 (s0_1 + a1))) = some (r1, r2) := h
 clear h
 have H' := Aside0.mk H
 clear H
 obtain ⟨ASz3_0, cSz3_0, HGz3, hgz3, ⟨HSz3_0, HCSz3_0⟩⟩ := HI0.out
 have hcz3_0 := cellS50_0 HGz3
 have hcz3_1 := cellS50_1 HGz3
 have hfz3_1 := blk_frozen HGz3 1
 have BKSz3 := Aside0.mk HGz3
 clear HGz3 hgz3
 go_enter Tryd.func39, Tryd.ntmps39
 go_wp2
 go_loopg [] k (fun kq w' => ∃ (x1001_1 : Int), Aside0 (token_scanner_while.l0 kq s0_1 s0_0 x1001_1 = some (r1, r2)) ∧ Aside0 (kq ≤ k) ∧ Aside0 (IsS50 w0 w' g s0_0 x1001_1) ∧ Aside0 (KeepBut w w' g none) ∧ Aside0 (Below w0.heap.size w0 w'))
 case atStart => exact ⟨(wrap64 (s0_1 + a1)), H', ⟨Nat.le_refl _⟩, ⟨by repeat (first|(with_reducible first|exact HI0.out|apply IsS50.alloc|apply IsS50.drewN|apply IsS50.drew|apply IsS50.set_1)|exact HI0.out)⟩, ⟨by repeat (first|(with_reducible first|exact HK.out|apply KeepBut.set_|apply keep_drewN|apply keep_drew|apply keep_alloc)|exact HK.out)⟩, ⟨by repeat (first|(with_reducible first|exact HB.out|apply below_alloc|apply pw_below_drewN|apply below_drew1|refine below_set ?_ (IsS50.ge HI0.out))|exact HB.out)⟩⟩
 case round =>
  clear H'
  try clear p2
  try clear c3
  try clear hcz3_0
  try clear hcz3_1
  try clear hfz3_1
  obtain ⟨x1001_1, HA, HK1, HI0, HK, HB⟩ := hrel
  cases gk with
  | zero => exact absurd HA.out (by simp [token_scanner_while.l0])
  | succ k1 =>
   have H := HA.out
   clear HA
   simp only [token_scanner_while.l0] at H
   replace H := Option.bind_eq_some_iff.mp H
   obtain ⟨⟨t266, t267⟩, A40, H⟩ := H
   replace H : (if t266 = true then ((token_scanner_peek.f s0_0 t267 0).bind fun bt268 => ((utf_Ends.f bt268.1).bind fun t270 => (if t270 = true then (if 0 ≤ s0_1 then (if s0_1 ≤ bt268.2 then (if bt268.2 ≤ (s0_0.length : Int) then ((utf_Encode.f k1 ((s0_0.take (bt268.2 : Int).toNat).drop (s0_1 : Int).toNat)).bind fun bt272 => (some (strOfNums bt272.1, bt268.2))) else (none)) else (none)) else (none)) else (token_scanner_while.l0 k1 s0_1 s0_0 (wrap64 (bt268.2 + 1)))))) else (if 0 ≤ s0_1 then (if s0_1 ≤ t267 then (if t267 ≤ (s0_0.length : Int) then ((utf_Encode.f k1 ((s0_0.take (t267 : Int).toNat).drop (s0_1 : Int).toNat)).bind fun bt277 => (some (strOfNums bt277.1, t267))) else (none)) else (none)) else (none))) = some (r1, r2) := H
   have A4 := Aside0.mk A40
   clear A40
   by_cases c5 : t266 = true
   ·subst c5
    have H1 : ((token_scanner_peek.f s0_0 t267 0).bind fun bt268 => ((utf_Ends.f bt268.1).bind fun t270 => (if t270 = true then (if 0 ≤ s0_1 then (if s0_1 ≤ bt268.2 then (if bt268.2 ≤ (s0_0.length : Int) then ((utf_Encode.f k1 ((s0_0.take (bt268.2 : Int).toNat).drop (s0_1 : Int).toNat)).bind fun bt272 => (some (strOfNums bt272.1, bt268.2))) else (none)) else (none)) else (none)) else (token_scanner_while.l0 k1 s0_1 s0_0 (wrap64 (bt268.2 + 1)))))) = some (r1, r2) := by rw [if_pos rfl] at H; exact H
    clear H
    have H := H1
    clear H1
    replace H := Option.bind_eq_some_iff.mp H
    obtain ⟨⟨t268, t269⟩, A60, H⟩ := H
    replace H : ((utf_Ends.f t268).bind fun t270 => (if t270 = true then (if 0 ≤ s0_1 then (if s0_1 ≤ t269 then (if t269 ≤ (s0_0.length : Int) then ((utf_Encode.f k1 ((s0_0.take (t269 : Int).toNat).drop (s0_1 : Int).toNat)).bind fun bt272 => (some (strOfNums bt272.1, t269))) else (none)) else (none)) else (none)) else (token_scanner_while.l0 k1 s0_1 s0_0 (wrap64 (t269 + 1))))) = some (r1, r2) := H
    have A6 := Aside0.mk A60
    clear A60
    replace H := Option.bind_eq_some_iff.mp H
    obtain ⟨t270, A70, H⟩ := H
    replace H : (if t270 = true then (if 0 ≤ s0_1 then (if s0_1 ≤ t269 then (if t269 ≤ (s0_0.length : Int) then ((utf_Encode.f k1 ((s0_0.take (t269 : Int).toNat).drop (s0_1 : Int).toNat)).bind fun bt272 => (some (strOfNums bt272.1, t269))) else (none)) else (none)) else (none)) else (token_scanner_while.l0 k1 s0_1 s0_0 (wrap64 (t269 + 1)))) = some (r1, r2) := H
    have A7 := Aside0.mk A70
    clear A70
    by_cases c8 : t270 = true
    ·subst c8
     have H1 : (if 0 ≤ s0_1 then (if s0_1 ≤ t269 then (if t269 ≤ (s0_0.length : Int) then ((utf_Encode.f k1 ((s0_0.take (t269 : Int).toNat).drop (s0_1 : Int).toNat)).bind fun bt272 => (some (strOfNums bt272.1, t269))) else (none)) else (none)) else (none)) = some (r1, r2) := by rw [if_pos rfl] at H; exact H
     clear H
     have H := H1
     clear H1
     by_cases c9 : 0 ≤ s0_1
     ·rw [if_pos c9] at H
      have c9b0 := eq_true c9
      have c9b1 : decide (0 ≤ s0_1) = true := decide_eq_true c9
      clear c9
      by_cases c10 : s0_1 ≤ t269
      ·rw [if_pos c10] at H
       have c10b0 := eq_true c10
       have c10b1 : decide (s0_1 ≤ t269) = true := decide_eq_true c10
       clear c10
       by_cases c11 : t269 ≤ (s0_0.length : Int)
       ·rw [if_pos c11] at H
        have c11b0 := eq_true c11
        have c11b1 : decide (t269 ≤ (s0_0.length : Int)) = true := decide_eq_true c11
        clear c11
        replace H := Option.bind_eq_some_iff.mp H
        obtain ⟨⟨t272, t273⟩, A120, H⟩ := H
        replace H : (some (strOfNums t272, t269)) = some (r1, r2) := H
        have A12 := Aside0.mk A120
        clear A120
        simp only [Option.some.injEq, Prod.mk.injEq] at H
        obtain ⟨rfl, rfl⟩ := H
        try go_wp2_with (first|((with_reducible refine gate_callee (f := 14) rfl ?_);refine goesL_ (some 21) rfl rfl Tryd.func14 (by kernel_rfl) rfl #[.pointer (some ⟨g, 0, none⟩), .int .i64 1] rfl (by (try simp only [List.map_toArray, List.map_cons, List.map_nil]);first|done|rfl|(simp only [List.length_drop, List.length_take];rfl)) ?_;(with_reducible refine (token_scanner_left.calls g s0_0 x1001_1 1 true t267 w0 _ ?side1 ?side2 A4.out).mono ?_);(case side1 => repeat (first|(with_reducible first|exact HI0.out|apply IsS50.alloc|apply IsS50.drewN|apply IsS50.drew|apply IsS50.set_1)|exact HI0.out));(case side2 => repeat (first|(with_reducible first|exact HB.out|apply below_alloc|apply pw_below_drewN|apply below_drew1|refine below_set ?_ (IsS50.ge HI0.out))|exact HB.out));rintro e w13 ⟨rfl, hi, hb, hk⟩;refine ⟨_, rfl, ?_⟩;have n0_ := Aside0.mk (KeepBut.trans (by repeat (first|(with_reducible first|exact HK.out|apply KeepBut.set_|apply keep_drewN|apply keep_drew|apply keep_alloc)|exact HK.out)) hk (.inl rfl));have n1_ := Aside0.mk (hb);have n2_ := Aside0.mk (hi);clear HK;clear HB;clear HI0;have HK := n0_;have HB := n1_;have HI0 := n2_;clear n0_ n1_ n2_;(try clear hb);(try clear hb2);(try clear hk);(try clear hi))|(go_at_call 24;(with_reducible refine (token_scanner_peek.calls g s0_0 t267 0 t268 t269 w0 _ ?side1 ?side2 A6.out).mono ?_);(case side1 => repeat (first|(with_reducible first|exact HI0.out|apply IsS50.alloc|apply IsS50.drewN|apply IsS50.drew|apply IsS50.set_1)|exact HI0.out));(case side2 => repeat (first|(with_reducible first|exact HB.out|apply below_alloc|apply pw_below_drewN|apply below_drew1|refine below_set ?_ (IsS50.ge HI0.out))|exact HB.out));rintro e w14 ⟨rfl, hi, hb, hk⟩;have n0_ := Aside0.mk (KeepBut.trans (by repeat (first|(with_reducible first|exact HK.out|apply KeepBut.set_|apply keep_drewN|apply keep_drew|apply keep_alloc)|exact HK.out)) hk (.inl rfl));have n1_ := Aside0.mk (hb);have n2_ := Aside0.mk (hi);clear HK;clear HB;clear HI0;have HK := n0_;have HB := n1_;have HI0 := n2_;clear n0_ n1_ n2_;(try clear hb);(try clear hb2);(try clear hk);(try clear hi))|(go_at_call 20;(with_reducible refine (utf_Ends.calls t268 true _ A7.out).mono ?_);rintro e w' ⟨rfl, ⟨nd, rfl⟩⟩))
        (try (rw [drewN_self w14];generalize hq_ : World.drewN w14 _ = w14;have n0_ : Aside0 (IsS50 w0 w14 g s0_0 t269) := ⟨by rw [← hq_];exact (by repeat (first|(with_reducible first|exact HI0.out|apply IsS50.alloc|apply IsS50.drewN|apply IsS50.drew|apply IsS50.set_1)|exact HI0.out))⟩;have n1_ : Aside0 (KeepBut w w14 g none) := ⟨by rw [← hq_];exact (by repeat (first|(with_reducible first|exact HK.out|apply KeepBut.set_|apply keep_drewN|apply keep_drew|apply keep_alloc)|exact HK.out))⟩;have n2_ : Aside0 (Below w0.heap.size w0 w14) := ⟨by rw [← hq_];exact (by repeat (first|(with_reducible first|exact HB.out|apply below_alloc|apply pw_below_drewN|apply below_drew1|refine below_set ?_ (IsS50.ge HI0.out))|exact HB.out))⟩;clear HI0 HK HB hq_;have HI0 := n0_;have HK := n1_;have HB := n2_;clear n0_ n1_ n2_))
        have n0_ := Aside0.mk (IsS50.drew HI0.out)
        have n1_ := Aside0.mk (keep_drew HK.out)
        have n2_ := Aside0.mk (below_drew1 HB.out)
        clear HI0
        clear HK
        clear HB
        have HI0 := n0_
        have HK := n1_
        have HB := n2_
        clear n0_ n1_ n2_
        obtain ⟨ASz16_0, cSz16_0, HGz16, hgz16, ⟨HSz16_0, HCSz16_0⟩⟩ := HI0.out
        have hcz16_0 := cellS50_0 HGz16
        have hcz16_1 := cellS50_1 HGz16
        have hfz16_1 := blk_frozen HGz16 1
        have BKSz16 := Aside0.mk HGz16
        clear HGz16 hgz16
        have HRst17 := Aside0.mk HSz16_0
        have HCst17 := Aside0.mk HCSz16_0
        obtain ⟨i017, hi017, _, hsz17, _⟩ := info_parts info3
        obtain ⟨A17, hcut17, hA17, hC17⟩ := print_mid_of (P := Tryd.prog) (Value.int .i64) 0 22 3 .i64 .i64 Tryd.underlying22 hi017 hsz17 ASz16_0 cSz16_0 s0_0 s0_1 t269 (of_decide_eq_true (by first | (with_reducible assumption) | assumption)) (by first | omega | exact of_decide_eq_true (by first | (with_reducible assumption) | assumption)) (of_decide_eq_true (by first | (with_reducible assumption) | assumption)) HCst17.out
        have HR271 := Aside0.mk (Kd.C_of_reads (h1 := fun _ => rfl) (hA17 _ (Kd.reads_of_C HRst17.out)))
        have HC271 := Aside0.mk hC17
        clear hA17 hC17 hi017 hsz17
        refine start_ (n := 16) (S := fun w' => w'.cell? ⟨g, 0, none⟩ = some (.slice ASz16_0 s0_0.length cSz16_0) ∧ w'.cell? ⟨g, 1, none⟩ = some (.int .i64 t269)) (ds := []) #[false, false, false, false, false, false, false, false, false, false, false, false, false, false, false, false] (by kernel_rfl) rfl rfl ⟨(blk_cell BKSz16.out 0).trans rfl, (blk_cell BKSz16.out 1).trans rfl⟩ (fun hHeld => ?_); refine with_tabW token_scanner_while.tab5 token_scanner_while.bits5 (fun HT_ HW_ => ?_)
        generalize w14.drew = w15 at HI0 HK HB BKSz16 HR271 hHeld ⊢
        refine pure_ (i := 0) (N := some 36) (v := ?_) (a' := ?_) #[true, false, false, false, false, false, false, false, false, false, false, false, false, false, false, false] rfl rfl (any_of HT_.out (by kernel_rfl)) (fun _ _ _ h => h) (Or.inl ⟨by rfl, ?_⟩) ?_ ?_
        rotate_left
        ·intro w'
         go_simp
         with_reducible rfl
        rotate_left
        ·simp only [Act.put, List.setIfInBounds_toArray, List.set_cons_zero, List.set_cons_succ, i64_w, i32_w]
         rfl
        refine pure_ (i := 1) (N := some 37) (v := ?_) (a' := ?_) #[true, true, false, false, false, false, false, false, false, false, false, false, false, false, false, false] rfl rfl (any_of HT_.out (by kernel_rfl)) (fun _ _ _ h => h) (Or.inl ⟨by rfl, ?_⟩) ?_ ?_
        rotate_left
        ·intro w'
         go_simp
         with_reducible rfl
        rotate_left
        ·simp only [Act.put, List.setIfInBounds_toArray, List.set_cons_zero, List.set_cons_succ, i64_w, i32_w]
         rfl
        refine pure_ (i := 2) (N := some 38) (v := ?_) (a' := ?_) #[true, true, true, false, false, false, false, false, false, false, false, false, false, false, false, false] rfl rfl (any_of HT_.out (by kernel_rfl)) (fun _ _ _ h => h) (Or.inl ⟨by rfl, ?_⟩) ?_ ?_
        rotate_left
        ·intro w'
         go_simp
         with_reducible rfl
        rotate_left
        ·simp only [Act.put, List.setIfInBounds_toArray, List.set_cons_zero, List.set_cons_succ, i64_w, i32_w]
         rfl
        refine pure_ (i := 4) (N := some 40) (v := ?_) (a' := ?_) #[true, true, true, false, true, false, false, false, false, false, false, false, false, false, false, false] rfl rfl (any_of HT_.out (by kernel_rfl)) (fun _ _ _ h => h) (Or.inl ⟨by rfl, ?_⟩) ?_ ?_
        rotate_left
        ·intro w'
         go_simp
         with_reducible rfl
        rotate_left
        ·simp only [Act.put, List.setIfInBounds_toArray, List.set_cons_zero, List.set_cons_succ, i64_w, i32_w]
         rfl
        refine pure_ (i := 5) (N := some 41) (v := ?_) (a' := ?_) #[true, true, true, false, true, true, false, false, false, false, false, false, false, false, false, false] rfl rfl (any_of HT_.out (by kernel_rfl)) (fun _ _ _ h => h) (Or.inl ⟨by rfl, ?_⟩) ?_ ?_
        rotate_left
        ·intro w'
         go_simp
         with_reducible rfl
        rotate_left
        ·simp only [Act.put, List.setIfInBounds_toArray, List.set_cons_zero, List.set_cons_succ, i64_w, i32_w]
         rfl
        refine pure_ (i := 6) (N := some 42) (v := ?_) (a' := ?_) #[true, true, true, false, true, true, true, false, false, false, false, false, false, false, false, false] rfl rfl (any_of HT_.out (by kernel_rfl)) (fun _ _ _ h => h) (Or.inl ⟨by rfl, ?_⟩) ?_ ?_
        rotate_left
        ·intro w'
         go_simp
         with_reducible rfl
        rotate_left
        ·simp only [Act.put, List.setIfInBounds_toArray, List.set_cons_zero, List.set_cons_succ, i64_w, i32_w]
         rfl
        refine pure_ (i := 7) (N := some 43) (v := ?_) (a' := ?_) #[true, true, true, false, true, true, true, true, false, false, false, false, false, false, false, false] rfl rfl (any_of HT_.out (by kernel_rfl)) (fun _ _ _ h => h) (Or.inl ⟨by rfl, ?_⟩) ?_ ?_
        rotate_left
        ·intro w'
         go_simp
         with_reducible rfl
        rotate_left
        ·simp only [Act.put, List.setIfInBounds_toArray, List.set_cons_zero, List.set_cons_succ, i64_w, i32_w]
         rfl
        refine take_ (i := 3) (N := some 39) (v := ?_) (a' := ?_) #[true, true, true, true, true, true, true, true, false, false, false, false, false, false, false, false] rfl rfl (take_ofW HT_.out HW_.out (by kernel_rfl)) (fun _ _ _ h => h) (Or.inl ⟨by rfl, ?_⟩) hHeld ?_ ?_
        rotate_left
        ·rintro w' ⟨s0, s1⟩
         go_simp
         with_reducible rfl
        rotate_left
        ·simp only [Act.put, List.setIfInBounds_toArray, List.set_cons_zero, List.set_cons_succ, i64_w, i32_w]
         rfl
        refine take_ (i := 8) (N := some 44) (v := ?_) (a' := ?_) #[true, true, true, true, true, true, true, true, true, false, false, false, false, false, false, false] rfl rfl (take_ofW HT_.out HW_.out (by kernel_rfl)) (fun _ _ _ h => h) (Or.inl ⟨by rfl, ?_⟩) hHeld ?_ ?_
        rotate_left
        ·rintro w' ⟨s0, s1⟩
         go_simp
         with_reducible rfl
        rotate_left
        ·simp only [Act.put, List.setIfInBounds_toArray, List.set_cons_zero, List.set_cons_succ, i64_w, i32_w]
         rfl
        refine pure_ (i := 9) (N := some 45) (v := ?_) (a' := ?_) #[true, true, true, true, true, true, true, true, true, true, false, false, false, false, false, false] rfl rfl (any_of HT_.out (by kernel_rfl)) (fun _ _ _ h => h) (Or.inl ⟨by rfl, ?_⟩) ?_ ?_
        rotate_left
        ·intro w'
         go_simp
         with_reducible rfl
        rotate_left
        ·simp only [Act.put, List.setIfInBounds_toArray, List.set_cons_zero, List.set_cons_succ, i64_w, i32_w]
         rfl
        refine one_ (i := 10) (N := some 46) #[true, true, true, true, true, true, true, true, true, true, true, false, false, false, false, false] rfl rfl (one_of HT_.out (by kernel_rfl)) (by decide) (fun K hK => ?_)
        refine goes_ Tryd.func55 (by kernel_rfl) rfl #[.slice A17 ((s0_0.take (t269 : Int).toNat).drop (s0_1 : Int).toNat).length (cSz16_0 - s0_1.toNat)] (by rfl) rfl rfl (by (try simp only [List.map_toArray, List.map_cons, List.map_nil]); first | done | (rw [show ((s0_0.take (t269 : Int).toNat).drop (s0_1 : Int).toNat).length = (t269.toNat - s0_1.toNat) from (by rw [List.length_drop, List.length_take]; have h_ : (t269 : Int) ≤ (s0_0.length : Int) := of_decide_eq_true (by first | (with_reducible assumption) | assumption); omega)] <;> rfl) | rfl | (simp only [List.length_drop, List.length_take]; rfl)) ?_
        with_reducible refine (utf_Encode.calls k1 _ _ ((s0_0.take (t269 : Int).toNat).drop (s0_1 : Int).toNat) t272 t273 _ ?side1 ?side2 A12.out).mono ?_
        (case side1 => exact Kd.C_below HR271.out (by repeat (first|(with_reducible first|exact HB.out|apply below_alloc|apply pw_below_drewN|apply below_drew1|refine below_set ?_ (IsS50.ge HI0.out)|refine below_set ?_ GE0.out)|exact HB.out)))
        (case side2 => exact HC271.out)
        rintro e w18 ⟨v274, rfl, ho0, hb⟩
        refine ⟨_, rfl, ?_⟩
        have n0_ := Aside0.mk (Kd.R_lower ho0 (keep_size (w := w) (g := g) (row := none) (by repeat (first|(with_reducible first|exact HK.out|apply KeepBut.set_|apply keep_drewN|apply keep_drew|apply keep_alloc|refine keep_far ?_ GW0.out _)|exact HK.out))))
        have n1_ := Aside0.mk (IsS50.below (by repeat (first|(with_reducible first|exact HI0.out|apply IsS50.alloc|apply IsS50.drewN|apply IsS50.drew|apply IsS50.set_1|refine IsS50.far ?_ NB0_0.out _)|exact HI0.out)) hb)
        have n2_ := Aside0.mk (blk_below (g := g) (o := .cells #[.slice ASz16_0 s0_0.length cSz16_0, .int .i64 t269] 50 (0, 0)) (by (with_reducible repeat (first|refine blk_drewN ?_ _|refine blk_drew ?_|refine blk_alloc ?_ _));exact BKSz16.out) hb)
        have n3_ := Aside0.mk (KeepBut.trans (by repeat (first|(with_reducible first|exact HK.out|apply KeepBut.set_|apply keep_drewN|apply keep_drew|apply keep_alloc|refine keep_far ?_ GW0.out _)|exact HK.out)) (KeepBut.of_below hb g none) (.inl rfl))
        have n4_ := Aside0.mk (below_step (by repeat (first|(with_reducible first|exact HB.out|apply below_alloc|apply pw_below_drewN|apply below_drew1|refine below_set ?_ (IsS50.ge HI0.out)|refine below_set ?_ GE0.out)|exact HB.out)) hb)
        clear HI0
        clear BKSz16
        clear HK
        clear HB
        have HO275 := n0_
        have HI0 := n1_
        have BKSz16 := n2_
        have HK := n3_
        have HB := n4_
        clear n0_ n1_ n2_ n3_ n4_
        (try clear hb)
        (try clear hb2)
        (try clear hk)
        (try clear hi)
        (try clear ho0)
        refine hK.out _ _ ⟨(blk_cell BKSz16.out 0).trans rfl, (blk_cell BKSz16.out 1).trans rfl⟩ (fun hHeld => ?_)
        clear hK K
        refine norm_ (a' := ?_) ?_ ?_
        rotate_left
        ·show Act.put _ (some 46) _ = _
         simp only [Act.put, List.setIfInBounds_toArray, List.set_cons_zero, List.set_cons_succ, i64_w, i32_w]
         rfl
        refine pure_ (i := 11) (N := some 35) (v := ?_) (a' := ?_) #[true, true, true, true, true, true, true, true, true, true, true, true, false, false, false, false] rfl rfl (any_of HT_.out (by kernel_rfl)) (fun _ _ _ h => h) (Or.inl ⟨by rfl, ?_⟩) ?_ ?_
        rotate_left
        ·intro w'
         go_simp
         with_reducible rfl
        rotate_left
        ·simp only [Act.put, List.setIfInBounds_toArray, List.set_cons_zero, List.set_cons_succ, i64_w, i32_w]
         rfl
        refine pure_ (i := 12) (N := some 47) (v := ?_) (a' := ?_) #[true, true, true, true, true, true, true, true, true, true, true, true, true, false, false, false] rfl rfl (any_of HT_.out (by kernel_rfl)) (fun _ _ _ h => h) (Or.inl ⟨by rfl, ?_⟩) ?_ ?_
        rotate_left
        ·intro w'
         go_simp
         with_reducible rfl
        rotate_left
        ·simp only [Act.put, List.setIfInBounds_toArray, List.set_cons_zero, List.set_cons_succ, i64_w, i32_w]
         rfl
        refine pure_ (i := 13) (N := some 48) (v := ?_) (a' := ?_) #[true, true, true, true, true, true, true, true, true, true, true, true, true, true, false, false] rfl rfl (any_of HT_.out (by kernel_rfl)) (fun _ _ _ h => h) (Or.inl ⟨by rfl, ?_⟩) ?_ ?_
        rotate_left
        ·intro w'
         go_simp
         with_reducible rfl
        rotate_left
        ·simp only [Act.put, List.setIfInBounds_toArray, List.set_cons_zero, List.set_cons_succ, i64_w, i32_w]
         rfl
        refine pure_ (i := 14) (N := some 6) (v := ?_) (a' := ?_) #[true, true, true, true, true, true, true, true, true, true, true, true, true, true, true, false] rfl rfl (any_of HT_.out (by kernel_rfl)) (fun _ _ _ h => h) (Or.inl ⟨by rfl, ?_⟩) ?_ ?_
        rotate_left
        ·intro w'
         go_simp
         with_reducible rfl
        rotate_left
        ·simp only [Act.put, List.setIfInBounds_toArray, List.set_cons_zero, List.set_cons_succ, i64_w, i32_w]
         rfl
        refine pure_ (i := 15) (N := some 7) (v := ?_) (a' := ?_) #[true, true, true, true, true, true, true, true, true, true, true, true, true, true, true, true] rfl rfl (any_of HT_.out (by kernel_rfl)) (fun _ _ _ h => h) (Or.inl ⟨by rfl, ?_⟩) ?_ ?_
        rotate_left
        ·intro w'
         go_simp
         with_reducible rfl
        rotate_left
        ·simp only [Act.put, List.setIfInBounds_toArray, List.set_cons_zero, List.set_cons_succ, i64_w, i32_w]
         rfl
        refine done_ (done_of HT_.out (by kernel_rfl)) ?_
        have hcv19 := own_string (P := Tryd.prog) Tryd.underlying27 Tryd.underlying5 Tryd.underlying9 (Kd.own_of_R HO275.out)
        try go_wp2
        go_ret
        exact ⟨by first|rfl|(simp [errW_none, errW_some] <;> rfl)|(simp [*, errW_none, errW_some] <;> rfl), by repeat (first|(with_reducible first|exact HI0.out|apply IsS50.alloc|apply IsS50.drewN|apply IsS50.drew|apply IsS50.set_1)|exact HI0.out), by repeat (first|(with_reducible first|exact HB.out|apply below_alloc|apply pw_below_drewN|apply below_drew1|refine below_set ?_ (IsS50.ge HI0.out))|exact HB.out), by repeat (first|(with_reducible first|exact HK.out|apply KeepBut.set_|apply keep_drewN|apply keep_drew|apply keep_alloc)|exact HK.out)⟩
       ·rw [if_neg c11] at H
        exact absurd H (by simp)
      ·rw [if_neg c10] at H
       exact absurd H (by simp)
     ·rw [if_neg c9] at H
      exact absurd H (by simp)
    ·replace c8 := Bool.eq_false_iff.mpr c8
     subst c8
     have H1 : (token_scanner_while.l0 k1 s0_1 s0_0 (wrap64 (t269 + 1))) = some (r1, r2) := by rw [if_neg (show ¬ (false = true) by decide)] at H; exact H
     clear H
     have H := H1
     clear H1
     have H' := Aside0.mk H
     clear H
     go_wp2_with (first|((with_reducible refine gate_callee (f := 14) rfl ?_);refine goesL_ (some 21) rfl rfl Tryd.func14 (by kernel_rfl) rfl #[.pointer (some ⟨g, 0, none⟩), .int .i64 1] rfl (by (try simp only [List.map_toArray, List.map_cons, List.map_nil]);first|done|rfl|(simp only [List.length_drop, List.length_take];rfl)) ?_;(with_reducible refine (token_scanner_left.calls g s0_0 x1001_1 1 true t267 w0 _ ?side1 ?side2 A4.out).mono ?_);(case side1 => repeat (first|(with_reducible first|exact HI0.out|apply IsS50.alloc|apply IsS50.drewN|apply IsS50.drew|apply IsS50.set_1)|exact HI0.out));(case side2 => repeat (first|(with_reducible first|exact HB.out|apply below_alloc|apply pw_below_drewN|apply below_drew1|refine below_set ?_ (IsS50.ge HI0.out))|exact HB.out));rintro e w20 ⟨rfl, hi, hb, hk⟩;refine ⟨_, rfl, ?_⟩;have n0_ := Aside0.mk (KeepBut.trans (by repeat (first|(with_reducible first|exact HK.out|apply KeepBut.set_|apply keep_drewN|apply keep_drew|apply keep_alloc)|exact HK.out)) hk (.inl rfl));have n1_ := Aside0.mk (hb);have n2_ := Aside0.mk (hi);clear HK;clear HB;clear HI0;have HK := n0_;have HB := n1_;have HI0 := n2_;clear n0_ n1_ n2_;(try clear hb);(try clear hb2);(try clear hk);(try clear hi))|(go_at_call 24;(with_reducible refine (token_scanner_peek.calls g s0_0 t267 0 t268 t269 w0 _ ?side1 ?side2 A6.out).mono ?_);(case side1 => repeat (first|(with_reducible first|exact HI0.out|apply IsS50.alloc|apply IsS50.drewN|apply IsS50.drew|apply IsS50.set_1)|exact HI0.out));(case side2 => repeat (first|(with_reducible first|exact HB.out|apply below_alloc|apply pw_below_drewN|apply below_drew1|refine below_set ?_ (IsS50.ge HI0.out))|exact HB.out));rintro e w21 ⟨rfl, hi, hb, hk⟩;have n0_ := Aside0.mk (KeepBut.trans (by repeat (first|(with_reducible first|exact HK.out|apply KeepBut.set_|apply keep_drewN|apply keep_drew|apply keep_alloc)|exact HK.out)) hk (.inl rfl));have n1_ := Aside0.mk (hb);have n2_ := Aside0.mk (hi);clear HK;clear HB;clear HI0;have HK := n0_;have HB := n1_;have HI0 := n2_;clear n0_ n1_ n2_;(try clear hb);(try clear hb2);(try clear hk);(try clear hi))|(go_at_call 20;(with_reducible refine (utf_Ends.calls t268 false _ A7.out).mono ?_);rintro e w' ⟨rfl, ⟨nd, rfl⟩⟩;(try (rw [drewN_self w21];generalize hq_ : World.drewN w21 _ = w21;have n0_ : Aside0 (IsS50 w0 w21 g s0_0 t269) := ⟨by rw [← hq_];exact (by repeat (first|(with_reducible first|exact HI0.out|apply IsS50.alloc|apply IsS50.drewN|apply IsS50.drew|apply IsS50.set_1)|exact HI0.out))⟩;have n1_ : Aside0 (KeepBut w w21 g none) := ⟨by rw [← hq_];exact (by repeat (first|(with_reducible first|exact HK.out|apply KeepBut.set_|apply keep_drewN|apply keep_drew|apply keep_alloc)|exact HK.out))⟩;have n2_ : Aside0 (Below w0.heap.size w0 w21) := ⟨by rw [← hq_];exact (by repeat (first|(with_reducible first|exact HB.out|apply below_alloc|apply pw_below_drewN|apply below_drew1|refine below_set ?_ (IsS50.ge HI0.out))|exact HB.out))⟩;clear HI0 HK HB hq_;have HI0 := n0_;have HK := n1_;have HB := n2_;clear n0_ n1_ n2_));obtain ⟨ASz22_0, cSz22_0, HGz22, hgz22, ⟨HSz22_0, HCSz22_0⟩⟩ := HI0.out;have hcz22_0 := cellS50_0 HGz22;have hcz22_1 := cellS50_1 HGz22;have hfz22_1 := blk_frozen HGz22 1;have BKSz22 := Aside0.mk HGz22;clear HGz22 hgz22))
     go_roundg k1
     case measure => have := HK1.out; omega
     case rel => exact ⟨(wrap64 (t269 + 1)), H', ⟨by have := HK1.out;omega⟩, ⟨by repeat (first|(with_reducible first|exact HI0.out|apply IsS50.alloc|apply IsS50.drewN|apply IsS50.drew|apply IsS50.set_1)|exact HI0.out)⟩, ⟨by repeat (first|(with_reducible first|exact HK.out|apply KeepBut.set_|apply keep_drewN|apply keep_drew|apply keep_alloc)|exact HK.out)⟩, ⟨by repeat (first|(with_reducible first|exact HB.out|apply below_alloc|apply pw_below_drewN|apply below_drew1|refine below_set ?_ (IsS50.ge HI0.out))|exact HB.out)⟩⟩
   ·replace c5 := Bool.eq_false_iff.mpr c5
    subst c5
    have H1 : (if 0 ≤ s0_1 then (if s0_1 ≤ t267 then (if t267 ≤ (s0_0.length : Int) then ((utf_Encode.f k1 ((s0_0.take (t267 : Int).toNat).drop (s0_1 : Int).toNat)).bind fun bt277 => (some (strOfNums bt277.1, t267))) else (none)) else (none)) else (none)) = some (r1, r2) := by rw [if_neg (show ¬ (false = true) by decide)] at H; exact H
    clear H
    have H := H1
    clear H1
    by_cases c23 : 0 ≤ s0_1
    ·rw [if_pos c23] at H
     have c23b0 := eq_true c23
     have c23b1 : decide (0 ≤ s0_1) = true := decide_eq_true c23
     clear c23
     by_cases c24 : s0_1 ≤ t267
     ·rw [if_pos c24] at H
      have c24b0 := eq_true c24
      have c24b1 : decide (s0_1 ≤ t267) = true := decide_eq_true c24
      clear c24
      by_cases c25 : t267 ≤ (s0_0.length : Int)
      ·rw [if_pos c25] at H
       have c25b0 := eq_true c25
       have c25b1 : decide (t267 ≤ (s0_0.length : Int)) = true := decide_eq_true c25
       clear c25
       replace H := Option.bind_eq_some_iff.mp H
       obtain ⟨⟨t277, t278⟩, A260, H⟩ := H
       replace H : (some (strOfNums t277, t267)) = some (r1, r2) := H
       have A26 := Aside0.mk A260
       clear A260
       simp only [Option.some.injEq, Prod.mk.injEq] at H
       obtain ⟨rfl, rfl⟩ := H
       try go_wp2_with (first|((with_reducible refine gate_callee (f := 14) rfl ?_);refine goesL_ (some 21) rfl rfl Tryd.func14 (by kernel_rfl) rfl #[.pointer (some ⟨g, 0, none⟩), .int .i64 1] rfl (by (try simp only [List.map_toArray, List.map_cons, List.map_nil]);first|done|rfl|(simp only [List.length_drop, List.length_take];rfl)) ?_;(with_reducible refine (token_scanner_left.calls g s0_0 x1001_1 1 false t267 w0 _ ?side1 ?side2 A4.out).mono ?_);(case side1 => repeat (first|(with_reducible first|exact HI0.out|apply IsS50.alloc|apply IsS50.drewN|apply IsS50.drew|apply IsS50.set_1)|exact HI0.out));(case side2 => repeat (first|(with_reducible first|exact HB.out|apply below_alloc|apply pw_below_drewN|apply below_drew1|refine below_set ?_ (IsS50.ge HI0.out))|exact HB.out));rintro e w27 ⟨rfl, hi, hb, hk⟩;refine ⟨_, rfl, ?_⟩;have n0_ := Aside0.mk (KeepBut.trans (by repeat (first|(with_reducible first|exact HK.out|apply KeepBut.set_|apply keep_drewN|apply keep_drew|apply keep_alloc)|exact HK.out)) hk (.inl rfl));have n1_ := Aside0.mk (hb);have n2_ := Aside0.mk (hi);clear HK;clear HB;clear HI0;have HK := n0_;have HB := n1_;have HI0 := n2_;clear n0_ n1_ n2_;(try clear hb);(try clear hb2);(try clear hk);(try clear hi)))
       have n0_ := Aside0.mk (IsS50.drew HI0.out)
       have n1_ := Aside0.mk (keep_drew HK.out)
       have n2_ := Aside0.mk (below_drew1 HB.out)
       clear HI0
       clear HK
       clear HB
       have HI0 := n0_
       have HK := n1_
       have HB := n2_
       clear n0_ n1_ n2_
       obtain ⟨ASz29_0, cSz29_0, HGz29, hgz29, ⟨HSz29_0, HCSz29_0⟩⟩ := HI0.out
       have hcz29_0 := cellS50_0 HGz29
       have hcz29_1 := cellS50_1 HGz29
       have hfz29_1 := blk_frozen HGz29 1
       have BKSz29 := Aside0.mk HGz29
       clear HGz29 hgz29
       have HRst30 := Aside0.mk HSz29_0
       have HCst30 := Aside0.mk HCSz29_0
       obtain ⟨i030, hi030, _, hsz30, _⟩ := info_parts info3
       obtain ⟨A30, hcut30, hA30, hC30⟩ := print_mid_of (P := Tryd.prog) (Value.int .i64) 0 22 3 .i64 .i64 Tryd.underlying22 hi030 hsz30 ASz29_0 cSz29_0 s0_0 s0_1 t267 (of_decide_eq_true (by first | (with_reducible assumption) | assumption)) (by first | omega | exact of_decide_eq_true (by first | (with_reducible assumption) | assumption)) (of_decide_eq_true (by first | (with_reducible assumption) | assumption)) HCst30.out
       have HR276 := Aside0.mk (Kd.C_of_reads (h1 := fun _ => rfl) (hA30 _ (Kd.reads_of_C HRst30.out)))
       have HC276 := Aside0.mk hC30
       clear hA30 hC30 hi030 hsz30
       refine start_ (n := 16) (S := fun w' => w'.cell? ⟨g, 0, none⟩ = some (.slice ASz29_0 s0_0.length cSz29_0) ∧ w'.cell? ⟨g, 1, none⟩ = some (.int .i64 t267)) (ds := []) #[false, false, false, false, false, false, false, false, false, false, false, false, false, false, false, false] (by kernel_rfl) rfl rfl ⟨(blk_cell BKSz29.out 0).trans rfl, (blk_cell BKSz29.out 1).trans rfl⟩ (fun hHeld => ?_); refine with_tabW token_scanner_while.tab5 token_scanner_while.bits5 (fun HT_ HW_ => ?_)
       generalize w27.drew = w28 at HI0 HK HB BKSz29 HR276 hHeld ⊢
       refine pure_ (i := 0) (N := some 36) (v := ?_) (a' := ?_) #[true, false, false, false, false, false, false, false, false, false, false, false, false, false, false, false] rfl rfl (any_of HT_.out (by kernel_rfl)) (fun _ _ _ h => h) (Or.inl ⟨by rfl, ?_⟩) ?_ ?_
       rotate_left
       ·intro w'
        go_simp
        with_reducible rfl
       rotate_left
       ·simp only [Act.put, List.setIfInBounds_toArray, List.set_cons_zero, List.set_cons_succ, i64_w, i32_w]
        rfl
       refine pure_ (i := 1) (N := some 37) (v := ?_) (a' := ?_) #[true, true, false, false, false, false, false, false, false, false, false, false, false, false, false, false] rfl rfl (any_of HT_.out (by kernel_rfl)) (fun _ _ _ h => h) (Or.inl ⟨by rfl, ?_⟩) ?_ ?_
       rotate_left
       ·intro w'
        go_simp
        with_reducible rfl
       rotate_left
       ·simp only [Act.put, List.setIfInBounds_toArray, List.set_cons_zero, List.set_cons_succ, i64_w, i32_w]
        rfl
       refine pure_ (i := 2) (N := some 38) (v := ?_) (a' := ?_) #[true, true, true, false, false, false, false, false, false, false, false, false, false, false, false, false] rfl rfl (any_of HT_.out (by kernel_rfl)) (fun _ _ _ h => h) (Or.inl ⟨by rfl, ?_⟩) ?_ ?_
       rotate_left
       ·intro w'
        go_simp
        with_reducible rfl
       rotate_left
       ·simp only [Act.put, List.setIfInBounds_toArray, List.set_cons_zero, List.set_cons_succ, i64_w, i32_w]
        rfl
       refine pure_ (i := 4) (N := some 40) (v := ?_) (a' := ?_) #[true, true, true, false, true, false, false, false, false, false, false, false, false, false, false, false] rfl rfl (any_of HT_.out (by kernel_rfl)) (fun _ _ _ h => h) (Or.inl ⟨by rfl, ?_⟩) ?_ ?_
       rotate_left
       ·intro w'
        go_simp
        with_reducible rfl
       rotate_left
       ·simp only [Act.put, List.setIfInBounds_toArray, List.set_cons_zero, List.set_cons_succ, i64_w, i32_w]
        rfl
       refine pure_ (i := 5) (N := some 41) (v := ?_) (a' := ?_) #[true, true, true, false, true, true, false, false, false, false, false, false, false, false, false, false] rfl rfl (any_of HT_.out (by kernel_rfl)) (fun _ _ _ h => h) (Or.inl ⟨by rfl, ?_⟩) ?_ ?_
       rotate_left
       ·intro w'
        go_simp
        with_reducible rfl
       rotate_left
       ·simp only [Act.put, List.setIfInBounds_toArray, List.set_cons_zero, List.set_cons_succ, i64_w, i32_w]
        rfl
       refine pure_ (i := 6) (N := some 42) (v := ?_) (a' := ?_) #[true, true, true, false, true, true, true, false, false, false, false, false, false, false, false, false] rfl rfl (any_of HT_.out (by kernel_rfl)) (fun _ _ _ h => h) (Or.inl ⟨by rfl, ?_⟩) ?_ ?_
       rotate_left
       ·intro w'
        go_simp
        with_reducible rfl
       rotate_left
       ·simp only [Act.put, List.setIfInBounds_toArray, List.set_cons_zero, List.set_cons_succ, i64_w, i32_w]
        rfl
       refine pure_ (i := 7) (N := some 43) (v := ?_) (a' := ?_) #[true, true, true, false, true, true, true, true, false, false, false, false, false, false, false, false] rfl rfl (any_of HT_.out (by kernel_rfl)) (fun _ _ _ h => h) (Or.inl ⟨by rfl, ?_⟩) ?_ ?_
       rotate_left
       ·intro w'
        go_simp
        with_reducible rfl
       rotate_left
       ·simp only [Act.put, List.setIfInBounds_toArray, List.set_cons_zero, List.set_cons_succ, i64_w, i32_w]
        rfl
       refine take_ (i := 3) (N := some 39) (v := ?_) (a' := ?_) #[true, true, true, true, true, true, true, true, false, false, false, false, false, false, false, false] rfl rfl (take_ofW HT_.out HW_.out (by kernel_rfl)) (fun _ _ _ h => h) (Or.inl ⟨by rfl, ?_⟩) hHeld ?_ ?_
       rotate_left
       ·rintro w' ⟨s0, s1⟩
        go_simp
        with_reducible rfl
       rotate_left
       ·simp only [Act.put, List.setIfInBounds_toArray, List.set_cons_zero, List.set_cons_succ, i64_w, i32_w]
        rfl
       refine take_ (i := 8) (N := some 44) (v := ?_) (a' := ?_) #[true, true, true, true, true, true, true, true, true, false, false, false, false, false, false, false] rfl rfl (take_ofW HT_.out HW_.out (by kernel_rfl)) (fun _ _ _ h => h) (Or.inl ⟨by rfl, ?_⟩) hHeld ?_ ?_
       rotate_left
       ·rintro w' ⟨s0, s1⟩
        go_simp
        with_reducible rfl
       rotate_left
       ·simp only [Act.put, List.setIfInBounds_toArray, List.set_cons_zero, List.set_cons_succ, i64_w, i32_w]
        rfl
       refine pure_ (i := 9) (N := some 45) (v := ?_) (a' := ?_) #[true, true, true, true, true, true, true, true, true, true, false, false, false, false, false, false] rfl rfl (any_of HT_.out (by kernel_rfl)) (fun _ _ _ h => h) (Or.inl ⟨by rfl, ?_⟩) ?_ ?_
       rotate_left
       ·intro w'
        go_simp
        with_reducible rfl
       rotate_left
       ·simp only [Act.put, List.setIfInBounds_toArray, List.set_cons_zero, List.set_cons_succ, i64_w, i32_w]
        rfl
       refine one_ (i := 10) (N := some 46) #[true, true, true, true, true, true, true, true, true, true, true, false, false, false, false, false] rfl rfl (one_of HT_.out (by kernel_rfl)) (by decide) (fun K hK => ?_)
       refine goes_ Tryd.func55 (by kernel_rfl) rfl #[.slice A30 ((s0_0.take (t267 : Int).toNat).drop (s0_1 : Int).toNat).length (cSz29_0 - s0_1.toNat)] (by rfl) rfl rfl (by (try simp only [List.map_toArray, List.map_cons, List.map_nil]); first | done | (rw [show ((s0_0.take (t267 : Int).toNat).drop (s0_1 : Int).toNat).length = (t267.toNat - s0_1.toNat) from (by rw [List.length_drop, List.length_take]; have h_ : (t267 : Int) ≤ (s0_0.length : Int) := of_decide_eq_true (by first | (with_reducible assumption) | assumption); omega)] <;> rfl) | rfl | (simp only [List.length_drop, List.length_take]; rfl)) ?_
       with_reducible refine (utf_Encode.calls k1 _ _ ((s0_0.take (t267 : Int).toNat).drop (s0_1 : Int).toNat) t277 t278 _ ?side1 ?side2 A26.out).mono ?_
       (case side1 => exact Kd.C_below HR276.out (by repeat (first|(with_reducible first|exact HB.out|apply below_alloc|apply pw_below_drewN|apply below_drew1|refine below_set ?_ (IsS50.ge HI0.out)|refine below_set ?_ GE0.out)|exact HB.out)))
       (case side2 => exact HC276.out)
       rintro e w31 ⟨v279, rfl, ho0, hb⟩
       refine ⟨_, rfl, ?_⟩
       have n0_ := Aside0.mk (Kd.R_lower ho0 (keep_size (w := w) (g := g) (row := none) (by repeat (first|(with_reducible first|exact HK.out|apply KeepBut.set_|apply keep_drewN|apply keep_drew|apply keep_alloc|refine keep_far ?_ GW0.out _)|exact HK.out))))
       have n1_ := Aside0.mk (IsS50.below (by repeat (first|(with_reducible first|exact HI0.out|apply IsS50.alloc|apply IsS50.drewN|apply IsS50.drew|apply IsS50.set_1|refine IsS50.far ?_ NB0_0.out _)|exact HI0.out)) hb)
       have n2_ := Aside0.mk (blk_below (g := g) (o := .cells #[.slice ASz29_0 s0_0.length cSz29_0, .int .i64 t267] 50 (0, 0)) (by (with_reducible repeat (first|refine blk_drewN ?_ _|refine blk_drew ?_|refine blk_alloc ?_ _));exact BKSz29.out) hb)
       have n3_ := Aside0.mk (KeepBut.trans (by repeat (first|(with_reducible first|exact HK.out|apply KeepBut.set_|apply keep_drewN|apply keep_drew|apply keep_alloc|refine keep_far ?_ GW0.out _)|exact HK.out)) (KeepBut.of_below hb g none) (.inl rfl))
       have n4_ := Aside0.mk (below_step (by repeat (first|(with_reducible first|exact HB.out|apply below_alloc|apply pw_below_drewN|apply below_drew1|refine below_set ?_ (IsS50.ge HI0.out)|refine below_set ?_ GE0.out)|exact HB.out)) hb)
       clear HI0
       clear BKSz29
       clear HK
       clear HB
       have HO280 := n0_
       have HI0 := n1_
       have BKSz29 := n2_
       have HK := n3_
       have HB := n4_
       clear n0_ n1_ n2_ n3_ n4_
       (try clear hb)
       (try clear hb2)
       (try clear hk)
       (try clear hi)
       (try clear ho0)
       refine hK.out _ _ ⟨(blk_cell BKSz29.out 0).trans rfl, (blk_cell BKSz29.out 1).trans rfl⟩ (fun hHeld => ?_)
       clear hK K
       refine norm_ (a' := ?_) ?_ ?_
       rotate_left
       ·show Act.put _ (some 46) _ = _
        simp only [Act.put, List.setIfInBounds_toArray, List.set_cons_zero, List.set_cons_succ, i64_w, i32_w]
        rfl
       refine pure_ (i := 11) (N := some 35) (v := ?_) (a' := ?_) #[true, true, true, true, true, true, true, true, true, true, true, true, false, false, false, false] rfl rfl (any_of HT_.out (by kernel_rfl)) (fun _ _ _ h => h) (Or.inl ⟨by rfl, ?_⟩) ?_ ?_
       rotate_left
       ·intro w'
        go_simp
        with_reducible rfl
       rotate_left
       ·simp only [Act.put, List.setIfInBounds_toArray, List.set_cons_zero, List.set_cons_succ, i64_w, i32_w]
        rfl
       refine pure_ (i := 12) (N := some 47) (v := ?_) (a' := ?_) #[true, true, true, true, true, true, true, true, true, true, true, true, true, false, false, false] rfl rfl (any_of HT_.out (by kernel_rfl)) (fun _ _ _ h => h) (Or.inl ⟨by rfl, ?_⟩) ?_ ?_
       rotate_left
       ·intro w'
        go_simp
        with_reducible rfl
       rotate_left
       ·simp only [Act.put, List.setIfInBounds_toArray, List.set_cons_zero, List.set_cons_succ, i64_w, i32_w]
        rfl
       refine pure_ (i := 13) (N := some 48) (v := ?_) (a' := ?_) #[true, true, true, true, true, true, true, true, true, true, true, true, true, true, false, false] rfl rfl (any_of HT_.out (by kernel_rfl)) (fun _ _ _ h => h) (Or.inl ⟨by rfl, ?_⟩) ?_ ?_
       rotate_left
       ·intro w'
        go_simp
        with_reducible rfl
       rotate_left
       ·simp only [Act.put, List.setIfInBounds_toArray, List.set_cons_zero, List.set_cons_succ, i64_w, i32_w]
        rfl
       refine pure_ (i := 14) (N := some 6) (v := ?_) (a' := ?_) #[true, true, true, true, true, true, true, true, true, true, true, true, true, true, true, false] rfl rfl (any_of HT_.out (by kernel_rfl)) (fun _ _ _ h => h) (Or.inl ⟨by rfl, ?_⟩) ?_ ?_
       rotate_left
       ·intro w'
        go_simp
        with_reducible rfl
       rotate_left
       ·simp only [Act.put, List.setIfInBounds_toArray, List.set_cons_zero, List.set_cons_succ, i64_w, i32_w]
        rfl
       refine pure_ (i := 15) (N := some 7) (v := ?_) (a' := ?_) #[true, true, true, true, true, true, true, true, true, true, true, true, true, true, true, true] rfl rfl (any_of HT_.out (by kernel_rfl)) (fun _ _ _ h => h) (Or.inl ⟨by rfl, ?_⟩) ?_ ?_
       rotate_left
       ·intro w'
        go_simp
        with_reducible rfl
       rotate_left
       ·simp only [Act.put, List.setIfInBounds_toArray, List.set_cons_zero, List.set_cons_succ, i64_w, i32_w]
        rfl
       refine done_ (done_of HT_.out (by kernel_rfl)) ?_
       have hcv32 := own_string (P := Tryd.prog) Tryd.underlying27 Tryd.underlying5 Tryd.underlying9 (Kd.own_of_R HO280.out)
       try go_wp2
       go_ret
       exact ⟨by first|rfl|(simp [errW_none, errW_some] <;> rfl)|(simp [*, errW_none, errW_some] <;> rfl), by repeat (first|(with_reducible first|exact HI0.out|apply IsS50.alloc|apply IsS50.drewN|apply IsS50.drew|apply IsS50.set_1)|exact HI0.out), by repeat (first|(with_reducible first|exact HB.out|apply below_alloc|apply pw_below_drewN|apply below_drew1|refine below_set ?_ (IsS50.ge HI0.out))|exact HB.out), by repeat (first|(with_reducible first|exact HK.out|apply KeepBut.set_|apply keep_drewN|apply keep_drew|apply keep_alloc)|exact HK.out)⟩
      ·rw [if_neg c25] at H
       exact absurd H (by simp)
     ·rw [if_neg c24] at H
      exact absurd H (by simp)
    ·rw [if_neg c23] at H
     exact absurd H (by simp)
end Go.Proofs.YtefefpkgiecikaaDoor.P
