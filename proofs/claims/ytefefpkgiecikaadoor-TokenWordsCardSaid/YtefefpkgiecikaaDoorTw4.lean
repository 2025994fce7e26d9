/- Words and walks for the claim, merged by a program of this session (part 4). -/
import Derived.Test.YtefefpkgiecikaaDoorTw1
import Derived.Test.YtefefpkgiecikaaDoorTw3
import Derived.Test.YtefefpkgiecikaaDoorTw2
namespace Go.Proofs.YtefefpkgiecikaaDoor.P
open Go.RowKit Go.Proofs.YtefefpkgiecikaaDoorW.PrintWords Go.Proofs.YtefefpkgiecikaaDoorW.PrintLast Go.Proofs.YtefefpkgiecikaaDoorW.PrintMore
attribute [local go_sem] max2_int min2_int max_two min_two max_three min_three max_four min_four
set_option linter.unusedVariables false
set_option linter.unusedSimpArgs false
mutual
def token_scanner_next.l0 : Nat → Int → Int → List Int → Int → Option (Int × ByteArray × Int × ByteArray × Bool × List Int × (List (S33)) × Int × Int × Int)
 | 0, _, _, _, _ => none
 | k + 1, x3, x13, x1000, x1001 => if x13 < 12 then (if 0 ≤ x13 then ((token_scanner_here.f k x1000 x1001 (token_signs_0 x13)).bind fun bt320 => (if bt320.1 = true then (some (token_signs_1 x13, token_signs_2 x13, 0, (⟨#[]⟩ : ByteArray), false, ([] : List Int), ([] : List (S33)), 0, x3, wrap64 (bt320.2 + ((token_signs_0 x13).size : Int)))) else (token_scanner_next.l0 k x3 (wrap64 (x13 + 1)) x1000 bt320.2))) else (none)) else ((token_scanner_peek.f x1000 x1001 0).bind fun bt322 => (if bt322.1 = 46 then ((token_scanner_left.f x1000 bt322.2 2).bind fun bt324 => (if bt324.1 = true then ((token_scanner_peek.f x1000 bt324.2 1).bind fun bt326 => ((utf_Ends.f bt326.1).bind fun t328 => (token_scanner_next.j1 k x3 t328 x1000 bt326.2))) else (token_scanner_next.j1 k x3 true x1000 bt324.2))) else (token_scanner_next.j1 k x3 false x1000 bt322.2)))
def token_scanner_next.j1 : Nat → Int → Bool → List Int → Int → Option (Int × ByteArray × Int × ByteArray × Bool × List Int × (List (S33)) × Int × Int × Int)
 | 0, _, _, _, _ => none
 | k + 1, x3, x49, x1000, x1001 => if x49 = true then (some (4, (⟨#[]⟩ : ByteArray), 0, (⟨#[]⟩ : ByteArray), false, ([] : List Int), ([] : List (S33)), 0, x3, wrap64 (x1001 + 1))) else ((token_scanner_datum.f k x1000 x1001).bind fun bt329 => (if bt329.2.2.2.2.2.2.1 = true then (some (7, (⟨#[]⟩ : ByteArray), bt329.1, bt329.2.1, bt329.2.2.1, bt329.2.2.2.1, bt329.2.2.2.2.1, x3, x3, bt329.2.2.2.2.2.2.2)) else (none)))
end
def token_scanner_next.f (k : Nat) (s0_0 : List Int) (s0_1 : Int) : Option (Int × ByteArray × Int × ByteArray × Bool × List Int × (List (S33)) × Int × Int × Int) := token_scanner_next.l0 k s0_1 0 s0_0 s0_1
theorem token_scanner_next.mono_l : ∀ k, (∀ y0 y1 y2 y3, LeO (token_scanner_next.l0 k y0 y1 y2 y3) (token_scanner_next.l0 (k + 1) y0 y1 y2 y3)) ∧ (∀ y0 y1 y2 y3, LeO (token_scanner_next.j1 k y0 y1 y2 y3) (token_scanner_next.j1 (k + 1) y0 y1 y2 y3))
 | 0 => ⟨fun _ _ _ _ r h => by simp [token_scanner_next.l0] at h, fun _ _ _ _ r h => by simp [token_scanner_next.j1] at h⟩
 | k + 1 => by
  obtain ⟨ih0, ih1⟩ := token_scanner_next.mono_l k
  refine ⟨?_, ?_⟩
  ·intro y0 y1 y2 y3
   unfold token_scanner_next.l0
   repeat' first
   | (with_reducible exact ih0 _ _ _ _)
   | (with_reducible exact ih1 _ _ _ _)
   | (with_reducible exact token_scanner_datum.mono _ _ _)
   | (with_reducible exact token_scanner_here.mono _ _ _ _)
   | (with_reducible exact LeO.refl _)
   | (with_reducible exact LeO.none _)
   | (with_reducible refine LeO.ite ?_ ?_)
   | (with_reducible refine LeO.bind ?_ (fun _ => ?_))
   | exact ih0 _ _ _ _
   | exact ih1 _ _ _ _
   | exact token_scanner_datum.mono _ _ _
   | exact token_scanner_here.mono _ _ _ _
   | exact LeO.none _
   | refine LeO.ite ?_ ?_
   | refine LeO.bind ?_ (fun _ => ?_)
  ·intro y0 y1 y2 y3
   unfold token_scanner_next.j1
   repeat' first
   | (with_reducible exact ih0 _ _ _ _)
   | (with_reducible exact ih1 _ _ _ _)
   | (with_reducible exact token_scanner_datum.mono _ _ _)
   | (with_reducible exact token_scanner_here.mono _ _ _ _)
   | (with_reducible exact LeO.refl _)
   | (with_reducible exact LeO.none _)
   | (with_reducible refine LeO.ite ?_ ?_)
   | (with_reducible refine LeO.bind ?_ (fun _ => ?_))
   | exact ih0 _ _ _ _
   | exact ih1 _ _ _ _
   | exact token_scanner_datum.mono _ _ _
   | exact token_scanner_here.mono _ _ _ _
   | exact LeO.none _
   | refine LeO.ite ?_ ?_
   | refine LeO.bind ?_ (fun _ => ?_)
theorem token_scanner_next.mono : ∀ a0 a1 k, LeO (token_scanner_next.f k a0 a1) (token_scanner_next.f (k + 1) a0 a1) := by
 intro a0 a1 k
 obtain ⟨ih0, ih1⟩ := token_scanner_next.mono_l k
 unfold token_scanner_next.f
 repeat' first
   | (with_reducible exact ih0 _ _ _ _)
   | (with_reducible exact ih1 _ _ _ _)
   | (with_reducible exact token_scanner_datum.mono _ _ _)
   | (with_reducible exact token_scanner_here.mono _ _ _ _)
   | (with_reducible exact LeO.refl _)
   | (with_reducible exact LeO.none _)
   | (with_reducible refine LeO.ite ?_ ?_)
   | (with_reducible refine LeO.bind ?_ (fun _ => ?_))
   | exact ih0 _ _ _ _
   | exact ih1 _ _ _ _
   | exact token_scanner_datum.mono _ _ _
   | exact token_scanner_here.mono _ _ _ _
   | exact LeO.none _
   | refine LeO.ite ?_ ?_
   | refine LeO.bind ?_ (fun _ => ?_)
def token_scanner_next.T6 : Bool × List (List Nat × List Nat) := (true, [([], []), ([0], [0]), ([1], [1]), ([2], [2]), ([], []), ([4], [4]), ([5], [5]), ([3, 6], [3, 6]), ([0, 0, 1, 2, 3, 4, 5, 6, 7], [0]), ([8, 0, 1, 2, 3, 4, 5, 6, 7], [8]), ([9, 7, 0, 1, 2, 3, 4, 5, 6, 7], [7, 9])])
def token_scanner_next.B6 : List Nat := [0, 1, 3, 7, 0, 16, 48, 127, 255, 511, 1023]
theorem token_scanner_next.tab6 : rtab .any (opsOf Tryd.f15 6) = token_scanner_next.T6 := by kernel_rfl
theorem token_scanner_next.bits6 : waitsOk token_scanner_next.T6.2 token_scanner_next.B6 = true := by kernel_rfl
set_option maxHeartbeats 8000000 in
set_option maxRecDepth 100000 in
theorem token_scanner_next.calls (k : Nat) (g : Nat) (s0_0 : List Int) (s0_1 : Int) (r1 : Int) (r2 : ByteArray) (r3 : Int) (r4 : ByteArray) (r5 : Bool) (r6 : List Int) (r7 : List (S33)) (r8 : Int) (r9 : Int) (r10 : Int) (w0 w : World) (hI : IsS50 w0 w g s0_0 s0_1) (hB : Below w0.heap.size w0 w) (hLD : LD w0) (h : token_scanner_next.f k s0_0 s0_1 = some (r1, r2, r3, r4, r5, r6, r7, r8, r9, r10)) :
  Calls Tryd.prog 15 #[.pointer (some ⟨g, 0, none⟩)] w fun e w' => ∃ v5_ v6_ : Value, e = .returned (.agg #[.int .i64 r1, .string r2, .int .i64 r3, .string r4, .bool r5, v5_, v6_, .int .i64 r8, .int .i64 r9]) ∧ Kd.V (Kd.int .u32) 73 w' w.heap.size (fun k_ => (w.heap.size ≤ k_) ∧ some k_ ≠ (v6_ : Value).ownBlock) v5_ r6 ∧ Kd.R k33 33 w' w.heap.size (fun k_ => (w.heap.size ≤ k_)) v6_ r7 ∧ IsS50 w0 w' g s0_0 r10 ∧ Below w0.heap.size w0 w' ∧ KeepBut w w' g none := by
 have hu38 := Tryd.underlying38
 have hu64 := Tryd.underlying64
 have hu33 := Tryd.underlying33
 have hu46 := Tryd.underlying46
 have HI0 := Aside0.mk hI
 have HK := Aside0.mk (KeepBut.refl w g none)
 have HL := Aside0.mk hB.size
 clear hI
 have HLD := Aside0.mk hLD
 clear hLD
 have HW0 := Aside0.mk hB.size
 have HB := Aside0.mk hB
 clear hB
 have H : (token_scanner_next.l0 k s0_1 0 s0_0 s0_1) = some (r1, r2, r3, r4, r5, r6, r7, r8, r9, r10) := h
 clear h
 have H' := Aside0.mk H
 clear H
 go_enter Tryd.func15, Tryd.ntmps15
 go_wp2_with (first | ((with_reducible refine gate_dst (N := 2) rfl ?_); refine box_event ?hg (N := 2) ?hd (cs := #[.int .i64 0, .string (⟨#[]⟩ : ByteArray), .int .i64 0, .string (⟨#[]⟩ : ByteArray), .bool false, .slice none 0 0, .slice none 0 0, .int .i64 0, .int .i64 0]) (t := 38) ?hr ?_; (case hd => rfl); (case hg => rfl); (case hr => first | (go_simp; done) | (go_simp; rfl)); intro gb318 hg w2 hbox hb; have n0_ := Aside0.mk (IsS50.below (by repeat (first | (with_reducible first | exact HI0.out | apply IsS50.alloc | apply IsS50.drewN | apply IsS50.drew | apply IsS50.set_1) | exact HI0.out)) hb); have n1_ := Aside0.mk (KeepBut.trans (by repeat (first | (with_reducible first | exact HK.out | apply KeepBut.set_ | apply keep_drewN | apply keep_drew | apply keep_alloc) | exact HK.out)) (KeepBut.of_below hb g none) (.inl rfl)); have n2_ := Aside0.mk (below_step (by repeat (first | (with_reducible first | exact HB.out | apply below_alloc | apply pw_below_drewN | apply below_drew1 | refine below_set ?_ (IsS50.ge HI0.out)) | exact HB.out)) hb); have n3_ := Aside0.mk (hbox); have n4_ := Aside0.mk ((by rw [hg]; exact (keep_size (w := w) (g := g) (row := none) (by repeat (first | (with_reducible first | exact HK.out | apply KeepBut.set_ | apply keep_drewN | apply keep_drew | apply keep_alloc) | exact HK.out))) : w.heap.size ≤ gb318)); have n5_ := Aside0.mk ((Nat.le_trans HW0.out (by rw [hg]; exact (keep_size (w := w) (g := g) (row := none) (by repeat (first | (with_reducible first | exact HK.out | apply KeepBut.set_ | apply keep_drewN | apply keep_drew | apply keep_alloc) | exact HK.out))) : w.heap.size ≤ gb318) : w0.heap.size ≤ gb318)); have n6_ := Aside0.mk ((by rw [hg]; exact Nat.ne_of_lt (IsS50.lt (show IsS50 w0 _ g s0_0 s0_1 from by repeat (first | (with_reducible first | exact HI0.out | apply IsS50.alloc | apply IsS50.drewN | apply IsS50.drew | apply IsS50.set_1) | exact HI0.out))) : g ≠ gb318)); have n7_ := Aside0.mk ((by rw [hg]; exact Nat.ne_of_gt (IsS50.lt (show IsS50 w0 _ g s0_0 s0_1 from by repeat (first | (with_reducible first | exact HI0.out | apply IsS50.alloc | apply IsS50.drewN | apply IsS50.drew | apply IsS50.set_1) | exact HI0.out))) : gb318 ≠ g)); clear HI0; clear HK; clear HB; have HI0 := n0_; have HK := n1_; have HB := n2_; have BK318 := n3_; have GW318 := n4_; have GE318 := n5_; have NB0_318 := n6_; have NB318_0 := n7_; clear n0_ n1_ n2_ n3_ n4_ n5_ n6_ n7_; clear hb hbox hg; obtain ⟨ASz3_0, cSz3_0, HGz3, hgz3, ⟨HSz3_0, HCSz3_0⟩⟩ := HI0.out; have hcz3_0 := cellS50_0 HGz3; have hcz3_1 := cellS50_1 HGz3; have hfz3_1 := blk_frozen HGz3 1; have BKSz3 := Aside0.mk HGz3; clear HGz3 hgz3) | ((with_reducible refine gate_dst (N := 12) rfl ?_); refine LD.load_token_signs (LD.below HLD.out (by repeat (first | (with_reducible first | exact HB.out | apply below_alloc | apply pw_below_drewN | apply below_drew1 | refine below_set ?_ (IsS50.ge HI0.out) | refine below_set ?_ GE318.out) | exact HB.out))) rfl rfl ?_))
 go_loopg [13] k (fun kq v13 w' => ∃ (x13_1 : Int) (x1001_1 : Int) (x319000_1 : Int) (x319001_1 : ByteArray) (x319002_1 : Int) (x319003_1 : ByteArray) (x319004_1 : Bool) (x319007_1 : Int) (x319008_1 : Int), v13 = .int .i64 x13_1 ∧ Aside0 (token_scanner_next.l0 kq s0_1 x13_1 s0_0 x1001_1 = some (r1, r2, r3, r4, r5, r6, r7, r8, r9, r10)) ∧ Aside0 (kq ≤ k) ∧ Aside0 (w'.heap[gb318]? = some (.cells #[.int .i64 x319000_1, .string x319001_1, .int .i64 x319002_1, .string x319003_1, .bool x319004_1, (.slice none 0 0), (.slice none 0 0), .int .i64 x319007_1, .int .i64 x319008_1] 38 (0, 0))) ∧ Aside0 (IsS50 w0 w' g s0_0 x1001_1) ∧ Aside0 (KeepBut w w' g none) ∧ Aside0 (Below w0.heap.size w0 w'))
 case atStart => exact ⟨(0), (s0_1), (0), ((⟨#[]⟩ : ByteArray)), (0), ((⟨#[]⟩ : ByteArray)), (false), (0), (0), (by first | rfl | (simp; done) | (simp [*]; done)), H', ⟨Nat.le_refl _⟩, ⟨by (with_reducible repeat (first | refine blk_drewN ?_ _ | refine blk_drew ?_ | refine blk_alloc ?_ _)); exact BK318.out⟩, ⟨by repeat (first | (with_reducible first | exact HI0.out | apply IsS50.alloc | apply IsS50.drewN | apply IsS50.drew | apply IsS50.set_1 | refine IsS50.far ?_ NB0_318.out _) | exact HI0.out)⟩, ⟨by repeat (first | (with_reducible first | exact HK.out | apply KeepBut.set_ | apply keep_drewN | apply keep_drew | apply keep_alloc | refine keep_far ?_ GW318.out _) | exact HK.out)⟩, ⟨by repeat (first | (with_reducible first | exact HB.out | apply below_alloc | apply pw_below_drewN | apply below_drew1 | refine below_set ?_ (IsS50.ge HI0.out) | refine below_set ?_ GE318.out) | exact HB.out)⟩⟩
 case round =>
  clear H'
  try clear c1
  try clear p2
  try clear hcz3_0
  try clear hcz3_1
  try clear hfz3_1
  obtain ⟨x13_1, x1001_1, x319000_1, x319001_1, x319002_1, x319003_1, x319004_1, x319007_1, x319008_1, rfl, HA, HK1, BK318, HI0, HK, HB⟩ := hrel
  cases gk with
  | zero => exact absurd HA.out (by simp [token_scanner_next.l0])
  | succ k1 =>
   have H := HA.out
   clear HA
   simp only [token_scanner_next.l0] at H
   by_cases c4 : x13_1 < 12
   ·rw [if_pos c4] at H
    have c4b0 : decide (x13_1 < 12) = true := decide_eq_true c4
    clear c4
    by_cases c5 : 0 ≤ x13_1
    ·rw [if_pos c5] at H
     have c5b0 : decide (0 ≤ x13_1) = true := decide_eq_true c5
     clear c5
     replace H := Option.bind_eq_some_iff.mp H
     obtain ⟨⟨t320, t321⟩, A60, H⟩ := H
     replace H : (if t320 = true then (some (token_signs_1 x13_1, token_signs_2 x13_1, 0, (⟨#[]⟩ : ByteArray), false, ([] : List Int), ([] : List (S33)), 0, s0_1, wrap64 (t321 + ((token_signs_0 x13_1).size : Int)))) else (token_scanner_next.l0 k1 s0_1 (wrap64 (x13_1 + 1)) s0_0 t321)) = some (r1, r2, r3, r4, r5, r6, r7, r8, r9, r10) := H
     have A6 := Aside0.mk A60
     clear A60
     by_cases c7 : t320 = true
     ·subst c7
      have H1 : (some (token_signs_1 x13_1, token_signs_2 x13_1, 0, (⟨#[]⟩ : ByteArray), false, ([] : List Int), ([] : List (S33)), 0, s0_1, wrap64 (t321 + ((token_signs_0 x13_1).size : Int)))) = some (r1, r2, r3, r4, r5, r6, r7, r8, r9, r10) := by rw [if_pos rfl] at H; exact H
      clear H
      have H := H1
      clear H1
      simp only [Option.some.injEq, Prod.mk.injEq] at H
      obtain ⟨rfl, rfl, rfl, rfl, rfl, rfl, rfl, rfl, rfl, rfl⟩ := H
      have hgi8 := token_signs_at x13_1 (of_decide_eq_true (by first | (with_reducible assumption) | assumption)) (of_decide_eq_true (by first | (with_reducible assumption) | assumption))
      try go_wp2_with (first | ((with_reducible refine gate_dst (N := 5) rfl ?_); refine box_event ?hg (N := 5) ?hd (cs := #[.string (⟨#[]⟩ : ByteArray), .int .i64 0, .string (⟨#[]⟩ : ByteArray)]) (t := 64) ?hr ?_; (case hd => rfl); (case hg => rfl); (case hr => first | (go_simp; done) | (go_simp; rfl)); intro gb319 hg w9 hbox hb; have n0_ := Aside0.mk (blk_below (g := gb318) (o := .cells #[.int .i64 x319000_1, .string x319001_1, .int .i64 x319002_1, .string x319003_1, .bool x319004_1, .slice none 0 0, .slice none 0 0, .int .i64 x319007_1, .int .i64 x319008_1] 38 (0, 0)) (by (with_reducible repeat (first | refine blk_drewN ?_ _ | refine blk_drew ?_ | refine blk_alloc ?_ _)); exact BK318.out) hb); have n1_ := Aside0.mk (IsS50.below (by repeat (first | (with_reducible first | exact HI0.out | apply IsS50.alloc | apply IsS50.drewN | apply IsS50.drew | apply IsS50.set_1 | refine IsS50.far ?_ NB0_318.out _) | exact HI0.out)) hb); have n2_ := Aside0.mk (KeepBut.trans (by repeat (first | (with_reducible first | exact HK.out | apply KeepBut.set_ | apply keep_drewN | apply keep_drew | apply keep_alloc | refine keep_far ?_ GW318.out _) | exact HK.out)) (KeepBut.of_below hb g none) (.inl rfl)); have n3_ := Aside0.mk (below_step (by repeat (first | (with_reducible first | exact HB.out | apply below_alloc | apply pw_below_drewN | apply below_drew1 | refine below_set ?_ (IsS50.ge HI0.out) | refine below_set ?_ GE318.out) | exact HB.out)) hb); have n4_ := Aside0.mk (hbox); have n5_ := Aside0.mk ((by rw [hg]; exact (keep_size (w := w) (g := g) (row := none) (by repeat (first | (with_reducible first | exact HK.out | apply KeepBut.set_ | apply keep_drewN | apply keep_drew | apply keep_alloc | refine keep_far ?_ GW318.out _) | exact HK.out))) : w.heap.size ≤ gb319)); have n6_ := Aside0.mk ((Nat.le_trans HW0.out (by rw [hg]; exact (keep_size (w := w) (g := g) (row := none) (by repeat (first | (with_reducible first | exact HK.out | apply KeepBut.set_ | apply keep_drewN | apply keep_drew | apply keep_alloc | refine keep_far ?_ GW318.out _) | exact HK.out))) : w.heap.size ≤ gb319) : w0.heap.size ≤ gb319)); have n7_ := Aside0.mk ((by rw [hg]; exact Nat.ne_of_lt (blk_lt (g := gb318) (o := .cells #[.int .i64 x319000_1, .string x319001_1, .int .i64 x319002_1, .string x319003_1, .bool x319004_1, .slice none 0 0, .slice none 0 0, .int .i64 x319007_1, .int .i64 x319008_1] 38 (0, 0)) (by (with_reducible repeat (first | refine blk_drewN ?_ _ | refine blk_drew ?_ | refine blk_alloc ?_ _)); exact BK318.out)) : gb318 ≠ gb319)); have n8_ := Aside0.mk ((by rw [hg]; exact Nat.ne_of_gt (blk_lt (g := gb318) (o := .cells #[.int .i64 x319000_1, .string x319001_1, .int .i64 x319002_1, .string x319003_1, .bool x319004_1, .slice none 0 0, .slice none 0 0, .int .i64 x319007_1, .int .i64 x319008_1] 38 (0, 0)) (by (with_reducible repeat (first | refine blk_drewN ?_ _ | refine blk_drew ?_ | refine blk_alloc ?_ _)); exact BK318.out)) : gb319 ≠ gb318)); have n9_ := Aside0.mk ((by rw [hg]; exact Nat.ne_of_lt (IsS50.lt (show IsS50 w0 _ g s0_0 x1001_1 from by repeat (first | (with_reducible first | exact HI0.out | apply IsS50.alloc | apply IsS50.drewN | apply IsS50.drew | apply IsS50.set_1 | refine IsS50.far ?_ NB0_318.out _) | exact HI0.out))) : g ≠ gb319)); have n10_ := Aside0.mk ((by rw [hg]; exact Nat.ne_of_gt (IsS50.lt (show IsS50 w0 _ g s0_0 x1001_1 from by repeat (first | (with_reducible first | exact HI0.out | apply IsS50.alloc | apply IsS50.drewN | apply IsS50.drew | apply IsS50.set_1 | refine IsS50.far ?_ NB0_318.out _) | exact HI0.out))) : gb319 ≠ g)); clear BK318; clear HI0; clear HK; clear HB; have BK318 := n0_; have HI0 := n1_; have HK := n2_; have HB := n3_; have BK319 := n4_; have GW319 := n5_; have GE319 := n6_; have NB318_319 := n7_; have NB319_318 := n8_; have NB0_319 := n9_; have NB319_0 := n10_; clear n0_ n1_ n2_ n3_ n4_ n5_ n6_ n7_ n8_ n9_ n10_; clear hb hbox hg; have hnb10 := NB319_318.out; have hnc10 := NB318_319.out; have hnb11 := NB319_0.out; have hnc11 := NB0_319.out; have hcz12_0 : w9.cell? ⟨gb319, 0, none⟩ = some (.string (⟨#[]⟩ : ByteArray)) := (blk_cell BK319.out 0).trans rfl; have hcz12_1 : w9.cell? ⟨gb319, 1, none⟩ = some (.int .i64 0) := (blk_cell BK319.out 1).trans rfl; have hcz12_2 : w9.cell? ⟨gb319, 2, none⟩ = some (.string (⟨#[]⟩ : ByteArray)) := (blk_cell BK319.out 2).trans rfl; have hfz12_0 := blk_frozen BK319.out 0; have hfz12_1 := blk_frozen BK319.out 1; have hfz12_2 := blk_frozen BK319.out 2) | ((with_reducible refine gate_callee (f := 26) rfl ?_); refine goesL_ (some 19) rfl rfl Tryd.func26 (by kernel_rfl) rfl #[.pointer (some ⟨g, 0, none⟩), .string (token_signs_0 x13_1)] rfl (by (try simp only [List.map_toArray, List.map_cons, List.map_nil]); first | done | rfl | (simp only [List.length_drop, List.length_take]; rfl)) ?_; (with_reducible refine (token_scanner_here.calls k1 g s0_0 x1001_1 (token_signs_0 x13_1) true t321 w0 _ ?side1 ?side2 A6.out).mono ?_); (case side1 => repeat (first | (with_reducible first | exact HI0.out | apply IsS50.alloc | apply IsS50.drewN | apply IsS50.drew | apply IsS50.set_1 | refine IsS50.far ?_ NB0_318.out _ | refine IsS50.far ?_ NB0_319.out _) | exact HI0.out)); (case side2 => repeat (first | (with_reducible first | exact HB.out | apply below_alloc | apply pw_below_drewN | apply below_drew1 | refine below_set ?_ (IsS50.ge HI0.out) | refine below_set ?_ GE318.out | refine below_set ?_ GE319.out) | exact HB.out)); rintro e w13 ⟨rfl, hi, hb, hk⟩; refine ⟨_, rfl, ?_⟩; have n0_ := Aside0.mk (KeepBut.blk hk (g' := gb318) (o := .cells #[.int .i64 x319000_1, .string x319001_1, .int .i64 x319002_1, .string x319003_1, .bool x319004_1, .slice none 0 0, .slice none 0 0, .int .i64 x319007_1, .int .i64 x319008_1] 38 (0, 0)) (by (with_reducible repeat (first | refine blk_drewN ?_ _ | refine blk_drew ?_ | refine blk_alloc ?_ _)); refine blk_far ?_ NB318_319.out _; (with_reducible repeat (first | refine blk_drewN ?_ _ | refine blk_drew ?_ | refine blk_alloc ?_ _)); refine blk_far ?_ NB318_319.out _; (with_reducible repeat (first | refine blk_drewN ?_ _ | refine blk_drew ?_ | refine blk_alloc ?_ _)); refine blk_far ?_ NB318_319.out _; (with_reducible repeat (first | refine blk_drewN ?_ _ | refine blk_drew ?_ | refine blk_alloc ?_ _)); exact BK318.out) NB318_0.out (by simp)); have n1_ := Aside0.mk (KeepBut.blk hk (g' := gb319) (o := .cells #[.string (token_signs_0 x13_1), .int .i64 (token_signs_1 x13_1), .string (token_signs_2 x13_1)] 64 (0, 0)) (by (with_reducible repeat (first | refine blk_drewN ?_ _ | refine blk_drew ?_ | refine blk_alloc ?_ _)); refine blk_put (cs := #[.string (token_signs_0 x13_1), .int .i64 (token_signs_1 x13_1), .string (⟨#[]⟩ : ByteArray)]) ?_ 2 _ rfl; (with_reducible repeat (first | refine blk_drewN ?_ _ | refine blk_drew ?_ | refine blk_alloc ?_ _)); refine blk_put (cs := #[.string (token_signs_0 x13_1), .int .i64 0, .string (⟨#[]⟩ : ByteArray)]) ?_ 1 _ rfl; (with_reducible repeat (first | refine blk_drewN ?_ _ | refine blk_drew ?_ | refine blk_alloc ?_ _)); refine blk_put (cs := #[.string (⟨#[]⟩ : ByteArray), .int .i64 0, .string (⟨#[]⟩ : ByteArray)]) ?_ 0 _ rfl; (with_reducible repeat (first | refine blk_drewN ?_ _ | refine blk_drew ?_ | refine blk_alloc ?_ _)); exact BK319.out) NB319_0.out (by simp)); have n2_ := Aside0.mk (KeepBut.trans (by repeat (first | (with_reducible first | exact HK.out | apply KeepBut.set_ | apply keep_drewN | apply keep_drew | apply keep_alloc | refine keep_far ?_ GW318.out _ | refine keep_far ?_ GW319.out _) | exact HK.out)) hk (.inl rfl)); have n3_ := Aside0.mk (hb); have n4_ := Aside0.mk (hi); clear BK318; clear BK319; clear HK; clear HB; clear HI0; have BK318 := n0_; have BK319 := n1_; have HK := n2_; have HB := n3_; have HI0 := n4_; clear n0_ n1_ n2_ n3_ n4_; (try clear hb); (try clear hb2); (try clear hk); (try clear hi)))
      have n0_ := Aside0.mk (blk_drew BK318.out)
      have n1_ := Aside0.mk (blk_drew BK319.out)
      have n2_ := Aside0.mk (IsS50.drew HI0.out)
      have n3_ := Aside0.mk (keep_drew HK.out)
      have n4_ := Aside0.mk (below_drew1 HB.out)
      clear BK318
      clear BK319
      clear HI0
      clear HK
      clear HB
      have BK318 := n0_
      have BK319 := n1_
      have HI0 := n2_
      have HK := n3_
      have HB := n4_
      clear n0_ n1_ n2_ n3_ n4_
      obtain ⟨ASz15_0, cSz15_0, HGz15, hgz15, ⟨HSz15_0, HCSz15_0⟩⟩ := HI0.out
      have hcz15_0 := cellS50_0 HGz15
      have hcz15_1 := cellS50_1 HGz15
      have hfz15_1 := blk_frozen HGz15 1
      have BKSz15 := Aside0.mk HGz15
      clear HGz15 hgz15
      refine start_ (n := 11) (S := fun w' => w'.cell? ⟨g, 0, none⟩ = some (.slice ASz15_0 s0_0.length cSz15_0) ∧ w'.cell? ⟨g, 1, none⟩ = some (.int .i64 t321) ∧ w'.cell? ⟨gb319, 0, none⟩ = some (.string (token_signs_0 x13_1)) ∧ w'.cell? ⟨gb319, 1, none⟩ = some (.int .i64 (token_signs_1 x13_1)) ∧ w'.cell? ⟨gb319, 2, none⟩ = some (.string (token_signs_2 x13_1))) (ds := [10]) #[false, false, false, false, false, false, false, false, false, false, false] (by kernel_rfl) rfl rfl ⟨(blk_cell BKSz15.out 0).trans rfl, (blk_cell BKSz15.out 1).trans rfl, (blk_cell BK319.out 0).trans rfl, (blk_cell BK319.out 1).trans rfl, (blk_cell BK319.out 2).trans rfl⟩ (fun hHeld => ?_); refine with_tabW token_scanner_next.tab6 token_scanner_next.bits6 (fun HT_ HW_ => ?_)
      generalize w13.drew = w14 at BK318 BK319 HI0 HK HB BKSz15 hHeld ⊢
      refine pure_ (i := 0) (N := some 20) (v := ?_) (a' := ?_) #[true, false, false, false, false, false, false, false, false, false, false] rfl rfl (any_of HT_.out (by kernel_rfl)) (fun _ _ _ h => h) (Or.inl ⟨by rfl, ?_⟩) ?_ ?_
      rotate_left
      ·intro w'
       go_simp
       with_reducible rfl
      rotate_left
      ·simp only [Act.put, List.setIfInBounds_toArray, List.set_cons_zero, List.set_cons_succ, i64_w, i32_w]
       rfl
      refine pure_ (i := 1) (N := some 21) (v := ?_) (a' := ?_) #[true, true, false, false, false, false, false, false, false, false, false] rfl rfl (any_of HT_.out (by kernel_rfl)) (fun _ _ _ h => h) (Or.inl ⟨by rfl, ?_⟩) ?_ ?_
      rotate_left
      ·intro w'
       go_simp
       with_reducible rfl
      rotate_left
      ·simp only [Act.put, List.setIfInBounds_toArray, List.set_cons_zero, List.set_cons_succ, i64_w, i32_w]
       rfl
      refine pure_ (i := 2) (N := some 22) (v := ?_) (a' := ?_) #[true, true, true, false, false, false, false, false, false, false, false] rfl rfl (any_of HT_.out (by kernel_rfl)) (fun _ _ _ h => h) (Or.inl ⟨by rfl, ?_⟩) ?_ ?_
      rotate_left
      ·intro w'
       go_simp
       with_reducible rfl
      rotate_left
      ·simp only [Act.put, List.setIfInBounds_toArray, List.set_cons_zero, List.set_cons_succ, i64_w, i32_w]
       rfl
      refine pure_ (i := 4) (N := some 24) (v := ?_) (a' := ?_) #[true, true, true, false, true, false, false, false, false, false, false] rfl rfl (any_of HT_.out (by kernel_rfl)) (fun _ _ _ h => h) (Or.inl ⟨by rfl, ?_⟩) ?_ ?_
      rotate_left
      ·intro w'
       go_simp
       with_reducible rfl
      rotate_left
      ·simp only [Act.put, List.setIfInBounds_toArray, List.set_cons_zero, List.set_cons_succ, i64_w, i32_w]
       rfl
      refine take_ (i := 3) (N := some 23) (v := ?_) (a' := ?_) #[true, true, true, true, true, false, false, false, false, false, false] rfl rfl (take_ofW HT_.out HW_.out (by kernel_rfl)) (fun _ _ _ h => h) (Or.inl ⟨by rfl, ?_⟩) hHeld ?_ ?_
      rotate_left
      ·rintro w' ⟨s0, s1, s2, s3, s4⟩
       go_simp
       with_reducible rfl
      rotate_left
      ·simp only [Act.put, List.setIfInBounds_toArray, List.set_cons_zero, List.set_cons_succ, i64_w, i32_w]
       rfl
      refine take_ (i := 5) (N := some 25) (v := ?_) (a' := ?_) #[true, true, true, true, true, true, false, false, false, false, false] rfl rfl (take_ofW HT_.out HW_.out (by kernel_rfl)) (fun _ _ _ h => h) (Or.inl ⟨by rfl, ?_⟩) hHeld ?_ ?_
      rotate_left
      ·rintro w' ⟨s0, s1, s2, s3, s4⟩
       go_simp
       with_reducible rfl
      rotate_left
      ·simp only [Act.put, List.setIfInBounds_toArray, List.set_cons_zero, List.set_cons_succ, i64_w, i32_w]
       rfl
      refine pure_ (i := 6) (N := some 26) (v := ?_) (a' := ?_) #[true, true, true, true, true, true, true, false, false, false, false] rfl rfl (any_of HT_.out (by kernel_rfl)) (fun _ _ _ h => h) (Or.inl ⟨by rfl, ?_⟩) ?_ ?_
      rotate_left
      ·intro w'
       go_simp
       with_reducible rfl
      rotate_left
      ·simp only [Act.put, List.setIfInBounds_toArray, List.set_cons_zero, List.set_cons_succ, i64_w, i32_w]
       rfl
      refine pure_ (i := 7) (N := some 27) (v := ?_) (a' := ?_) #[true, true, true, true, true, true, true, true, false, false, false] rfl rfl (any_of HT_.out (by kernel_rfl)) (fun _ _ _ h => h) (Or.inl ⟨by rfl, ?_⟩) ?_ ?_
      rotate_left
      ·intro w'
       go_simp
       with_reducible rfl
      rotate_left
      ·simp only [Act.put, List.setIfInBounds_toArray, List.set_cons_zero, List.set_cons_succ, i64_w, i32_w]
       rfl
      refine pure_ (i := 8) (N := some 28) (v := ?_) (a' := ?_) #[true, true, true, true, true, true, true, true, true, false, false] rfl rfl (any_of HT_.out (by kernel_rfl)) (fun _ _ _ h => h) (Or.inl ⟨by rfl, ?_⟩) ?_ ?_
      rotate_left
      ·intro w'
       go_simp
       with_reducible rfl
      rotate_left
      ·simp only [Act.put, List.setIfInBounds_toArray, List.set_cons_zero, List.set_cons_succ, i64_w, i32_w]
       rfl
      refine pure_ (i := 9) (N := some 29) (v := ?_) (a' := ?_) #[true, true, true, true, true, true, true, true, true, true, false] rfl rfl (any_of HT_.out (by kernel_rfl)) (fun _ _ _ h => h) (Or.inl ⟨by rfl, ?_⟩) ?_ ?_
      rotate_left
      ·intro w'
       go_simp
       with_reducible rfl
      rotate_left
      ·simp only [Act.put, List.setIfInBounds_toArray, List.set_cons_zero, List.set_cons_succ, i64_w, i32_w]
       rfl
      refine last_ (i := 10) (N := none) #[true, true, true, true, true, true, true, true, true, true, true] rfl rfl (one_of HT_.out (by kernel_rfl)) (by decide) (fun K hK => ?_)
      have hs16 : w14.cell? ⟨g, 1, none⟩ = some (.int .i64 t321) := (blk_cell BKSz15.out 1).trans rfl
      have hfs16 := blk_frozen BKSz15.out 1
      have hns16_0 := NB318_0.out
      have hns16_1 := NB319_0.out
      have hms16_0 := NB0_318.out
      have hms16_1 := NB0_319.out
      refine skip_ (w1 := ?_) (by rfl) rfl ?_ ?_
      rotate_left
      ·go_simp
       rfl
      refine hK.out _ _ ?_
      clear hK K
      refine done_ (done_of HT_.out (by kernel_rfl)) ?_
      have hcz17_0 : w14.cell? ⟨gb319, 0, none⟩ = some (.string (token_signs_0 x13_1)) := (blk_cell BK319.out 0).trans rfl
      have hcz17_1 : w14.cell? ⟨gb319, 1, none⟩ = some (.int .i64 (token_signs_1 x13_1)) := (blk_cell BK319.out 1).trans rfl
      have hcz17_2 : w14.cell? ⟨gb319, 2, none⟩ = some (.string (token_signs_2 x13_1)) := (blk_cell BK319.out 2).trans rfl
      have hfz17_0 := blk_frozen BK319.out 0
      have hfz17_1 := blk_frozen BK319.out 1
      have hfz17_2 := blk_frozen BK319.out 2
      have hnb18 := NB318_0.out
      have hnc18 := NB0_318.out
      have hcz19_0 : w14.cell? ⟨gb318, 0, none⟩ = some (.int .i64 x319000_1) := (blk_cell BK318.out 0).trans rfl
      have hcz19_1 : w14.cell? ⟨gb318, 1, none⟩ = some (.string x319001_1) := (blk_cell BK318.out 1).trans rfl
      have hcz19_2 : w14.cell? ⟨gb318, 2, none⟩ = some (.int .i64 x319002_1) := (blk_cell BK318.out 2).trans rfl
      have hcz19_3 : w14.cell? ⟨gb318, 3, none⟩ = some (.string x319003_1) := (blk_cell BK318.out 3).trans rfl
      have hcz19_4 : w14.cell? ⟨gb318, 4, none⟩ = some (.bool x319004_1) := (blk_cell BK318.out 4).trans rfl
      have hcz19_5 : w14.cell? ⟨gb318, 5, none⟩ = some (.slice none 0 0) := (blk_cell BK318.out 5).trans rfl
      have hcz19_6 : w14.cell? ⟨gb318, 6, none⟩ = some (.slice none 0 0) := (blk_cell BK318.out 6).trans rfl
      have hcz19_7 : w14.cell? ⟨gb318, 7, none⟩ = some (.int .i64 x319007_1) := (blk_cell BK318.out 7).trans rfl
      have hcz19_8 : w14.cell? ⟨gb318, 8, none⟩ = some (.int .i64 x319008_1) := (blk_cell BK318.out 8).trans rfl
      have hfz19_0 := blk_frozen BK318.out 0
      have hfz19_1 := blk_frozen BK318.out 1
      have hfz19_2 := blk_frozen BK318.out 2
      have hfz19_3 := blk_frozen BK318.out 3
      have hfz19_4 := blk_frozen BK318.out 4
      have hfz19_5 := blk_frozen BK318.out 5
      have hfz19_6 := blk_frozen BK318.out 6
      have hfz19_7 := blk_frozen BK318.out 7
      have hfz19_8 := blk_frozen BK318.out 8
      try go_wp2
      refine bodyPost_ret (results_cell_row rfl _ _ gb318 38 #[.int .i64 (token_signs_1 x13_1), .string (token_signs_2 x13_1), .int .i64 0, .string (⟨#[]⟩ : ByteArray), .bool false, .slice none 0 0, .slice none 0 0, .int .i64 0, .int .i64 s0_1] (0, 0) _ rfl (by (with_reducible repeat (first | refine blk_drewN ?_ _ | refine blk_drew ?_ | refine blk_alloc ?_ _)); refine blk_put (cs := #[.int .i64 (token_signs_1 x13_1), .string (token_signs_2 x13_1), .int .i64 0, .string (⟨#[]⟩ : ByteArray), .bool false, .slice none 0 0, .slice none 0 0, .int .i64 0, .int .i64 x319008_1]) ?_ 8 _ rfl; (with_reducible repeat (first | refine blk_drewN ?_ _ | refine blk_drew ?_ | refine blk_alloc ?_ _)); refine blk_put (cs := #[.int .i64 (token_signs_1 x13_1), .string (token_signs_2 x13_1), .int .i64 0, .string (⟨#[]⟩ : ByteArray), .bool false, .slice none 0 0, .slice none 0 0, .int .i64 x319007_1, .int .i64 x319008_1]) ?_ 7 _ rfl; (with_reducible repeat (first | refine blk_drewN ?_ _ | refine blk_drew ?_ | refine blk_alloc ?_ _)); refine blk_put (cs := #[.int .i64 (token_signs_1 x13_1), .string (token_signs_2 x13_1), .int .i64 0, .string (⟨#[]⟩ : ByteArray), .bool false, .slice none 0 0, .slice none 0 0, .int .i64 x319007_1, .int .i64 x319008_1]) ?_ 6 _ rfl; (with_reducible repeat (first | refine blk_drewN ?_ _ | refine blk_drew ?_ | refine blk_alloc ?_ _)); refine blk_put (cs := #[.int .i64 (token_signs_1 x13_1), .string (token_signs_2 x13_1), .int .i64 0, .string (⟨#[]⟩ : ByteArray), .bool false, .slice none 0 0, .slice none 0 0, .int .i64 x319007_1, .int .i64 x319008_1]) ?_ 5 _ rfl; (with_reducible repeat (first | refine blk_drewN ?_ _ | refine blk_drew ?_ | refine blk_alloc ?_ _)); refine blk_put (cs := #[.int .i64 (token_signs_1 x13_1), .string (token_signs_2 x13_1), .int .i64 0, .string (⟨#[]⟩ : ByteArray), .bool x319004_1, .slice none 0 0, .slice none 0 0, .int .i64 x319007_1, .int .i64 x319008_1]) ?_ 4 _ rfl; (with_reducible repeat (first | refine blk_drewN ?_ _ | refine blk_drew ?_ | refine blk_alloc ?_ _)); refine blk_put (cs := #[.int .i64 (token_signs_1 x13_1), .string (token_signs_2 x13_1), .int .i64 0, .string x319003_1, .bool x319004_1, .slice none 0 0, .slice none 0 0, .int .i64 x319007_1, .int .i64 x319008_1]) ?_ 3 _ rfl; (with_reducible repeat (first | refine blk_drewN ?_ _ | refine blk_drew ?_ | refine blk_alloc ?_ _)); refine blk_put (cs := #[.int .i64 (token_signs_1 x13_1), .string (token_signs_2 x13_1), .int .i64 x319002_1, .string x319003_1, .bool x319004_1, .slice none 0 0, .slice none 0 0, .int .i64 x319007_1, .int .i64 x319008_1]) ?_ 2 _ rfl; (with_reducible repeat (first | refine blk_drewN ?_ _ | refine blk_drew ?_ | refine blk_alloc ?_ _)); refine blk_put (cs := #[.int .i64 (token_signs_1 x13_1), .string x319001_1, .int .i64 x319002_1, .string x319003_1, .bool x319004_1, .slice none 0 0, .slice none 0 0, .int .i64 x319007_1, .int .i64 x319008_1]) ?_ 1 _ rfl; (with_reducible repeat (first | refine blk_drewN ?_ _ | refine blk_drew ?_ | refine blk_alloc ?_ _)); refine blk_put (cs := #[.int .i64 x319000_1, .string x319001_1, .int .i64 x319002_1, .string x319003_1, .bool x319004_1, .slice none 0 0, .slice none 0 0, .int .i64 x319007_1, .int .i64 x319008_1]) ?_ 0 _ rfl; (with_reducible repeat (first | refine blk_drewN ?_ _ | refine blk_drew ?_ | refine blk_alloc ?_ _)); refine blk_far ?_ NB318_0.out _; (with_reducible repeat (first | refine blk_drewN ?_ _ | refine blk_drew ?_ | refine blk_alloc ?_ _)); exact BK318.out) Tryd.underlying38 rfl (by kernel_rfl)) rfl ?_
      exact ⟨_, _, by first | rfl | (simp [errW_none, errW_some] <;> rfl) | (simp [*, errW_none, errW_some] <;> rfl), Kd.V_nil _ _ _ _ _, by first | exact Kd.R_nil _ _ _ _ _ | exact Kd.N_nil _ _ _ _ _ | exact Kd.V_nil _ _ _ _ _ | exact Kd.Q_nil _ _ _ _ _ | exact Kd.S_nil _ _ _ _ _, by repeat (first | (with_reducible first | exact HI0.out | apply IsS50.alloc | apply IsS50.drewN | apply IsS50.drew | apply IsS50.set_1 | refine IsS50.far ?_ NB0_318.out _ | refine IsS50.far ?_ NB0_319.out _) | exact HI0.out), by repeat (first | (with_reducible first | exact HB.out | apply below_alloc | apply pw_below_drewN | apply below_drew1 | refine below_set ?_ (IsS50.ge HI0.out) | refine below_set ?_ GE318.out | refine below_set ?_ GE319.out) | exact HB.out), by repeat (first | (with_reducible first | exact HK.out | apply KeepBut.set_ | apply keep_drewN | apply keep_drew | apply keep_alloc | refine keep_far ?_ GW318.out _ | refine keep_far ?_ GW319.out _) | exact HK.out)⟩
     ·replace c7 := Bool.eq_false_iff.mpr c7
      subst c7
      have H1 : (token_scanner_next.l0 k1 s0_1 (wrap64 (x13_1 + 1)) s0_0 t321) = some (r1, r2, r3, r4, r5, r6, r7, r8, r9, r10) := by rw [if_neg (show ¬ (false = true) by decide)] at H; exact H
      clear H
      have H := H1
      clear H1
      have H' := Aside0.mk H
      clear H
      have hgi20 := token_signs_at x13_1 (of_decide_eq_true (by first | (with_reducible assumption) | assumption)) (of_decide_eq_true (by first | (with_reducible assumption) | assumption))
      go_wp2_with (first | ((with_reducible refine gate_dst (N := 5) rfl ?_); refine box_event ?hg (N := 5) ?hd (cs := #[.string (⟨#[]⟩ : ByteArray), .int .i64 0, .string (⟨#[]⟩ : ByteArray)]) (t := 64) ?hr ?_; (case hd => rfl); (case hg => rfl); (case hr => first | (go_simp; done) | (go_simp; rfl)); intro gb319 hg w21 hbox hb; have n0_ := Aside0.mk (blk_below (g := gb318) (o := .cells #[.int .i64 x319000_1, .string x319001_1, .int .i64 x319002_1, .string x319003_1, .bool x319004_1, .slice none 0 0, .slice none 0 0, .int .i64 x319007_1, .int .i64 x319008_1] 38 (0, 0)) (by (with_reducible repeat (first | refine blk_drewN ?_ _ | refine blk_drew ?_ | refine blk_alloc ?_ _)); exact BK318.out) hb); have n1_ := Aside0.mk (IsS50.below (by repeat (first | (with_reducible first | exact HI0.out | apply IsS50.alloc | apply IsS50.drewN | apply IsS50.drew | apply IsS50.set_1 | refine IsS50.far ?_ NB0_318.out _) | exact HI0.out)) hb); have n2_ := Aside0.mk (KeepBut.trans (by repeat (first | (with_reducible first | exact HK.out | apply KeepBut.set_ | apply keep_drewN | apply keep_drew | apply keep_alloc | refine keep_far ?_ GW318.out _) | exact HK.out)) (KeepBut.of_below hb g none) (.inl rfl)); have n3_ := Aside0.mk (below_step (by repeat (first | (with_reducible first | exact HB.out | apply below_alloc | apply pw_below_drewN | apply below_drew1 | refine below_set ?_ (IsS50.ge HI0.out) | refine below_set ?_ GE318.out) | exact HB.out)) hb); have n4_ := Aside0.mk (hbox); have n5_ := Aside0.mk ((by rw [hg]; exact (keep_size (w := w) (g := g) (row := none) (by repeat (first | (with_reducible first | exact HK.out | apply KeepBut.set_ | apply keep_drewN | apply keep_drew | apply keep_alloc | refine keep_far ?_ GW318.out _) | exact HK.out))) : w.heap.size ≤ gb319)); have n6_ := Aside0.mk ((Nat.le_trans HW0.out (by rw [hg]; exact (keep_size (w := w) (g := g) (row := none) (by repeat (first | (with_reducible first | exact HK.out | apply KeepBut.set_ | apply keep_drewN | apply keep_drew | apply keep_alloc | refine keep_far ?_ GW318.out _) | exact HK.out))) : w.heap.size ≤ gb319) : w0.heap.size ≤ gb319)); have n7_ := Aside0.mk ((by rw [hg]; exact Nat.ne_of_lt (blk_lt (g := gb318) (o := .cells #[.int .i64 x319000_1, .string x319001_1, .int .i64 x319002_1, .string x319003_1, .bool x319004_1, .slice none 0 0, .slice none 0 0, .int .i64 x319007_1, .int .i64 x319008_1] 38 (0, 0)) (by (with_reducible repeat (first | refine blk_drewN ?_ _ | refine blk_drew ?_ | refine blk_alloc ?_ _)); exact BK318.out)) : gb318 ≠ gb319)); have n8_ := Aside0.mk ((by rw [hg]; exact Nat.ne_of_gt (blk_lt (g := gb318) (o := .cells #[.int .i64 x319000_1, .string x319001_1, .int .i64 x319002_1, .string x319003_1, .bool x319004_1, .slice none 0 0, .slice none 0 0, .int .i64 x319007_1, .int .i64 x319008_1] 38 (0, 0)) (by (with_reducible repeat (first | refine blk_drewN ?_ _ | refine blk_drew ?_ | refine blk_alloc ?_ _)); exact BK318.out)) : gb319 ≠ gb318)); have n9_ := Aside0.mk ((by rw [hg]; exact Nat.ne_of_lt (IsS50.lt (show IsS50 w0 _ g s0_0 x1001_1 from by repeat (first | (with_reducible first | exact HI0.out | apply IsS50.alloc | apply IsS50.drewN | apply IsS50.drew | apply IsS50.set_1 | refine IsS50.far ?_ NB0_318.out _) | exact HI0.out))) : g ≠ gb319)); have n10_ := Aside0.mk ((by rw [hg]; exact Nat.ne_of_gt (IsS50.lt (show IsS50 w0 _ g s0_0 x1001_1 from by repeat (first | (with_reducible first | exact HI0.out | apply IsS50.alloc | apply IsS50.drewN | apply IsS50.drew | apply IsS50.set_1 | refine IsS50.far ?_ NB0_318.out _) | exact HI0.out))) : gb319 ≠ g)); clear BK318; clear HI0; clear HK; clear HB; have BK318 := n0_; have HI0 := n1_; have HK := n2_; have HB := n3_; have BK319 := n4_; have GW319 := n5_; have GE319 := n6_; have NB318_319 := n7_; have NB319_318 := n8_; have NB0_319 := n9_; have NB319_0 := n10_; clear n0_ n1_ n2_ n3_ n4_ n5_ n6_ n7_ n8_ n9_ n10_; clear hb hbox hg; have hnb22 := NB319_318.out; have hnc22 := NB318_319.out; have hnb23 := NB319_0.out; have hnc23 := NB0_319.out; have hcz24_0 : w21.cell? ⟨gb319, 0, none⟩ = some (.string (⟨#[]⟩ : ByteArray)) := (blk_cell BK319.out 0).trans rfl; have hcz24_1 : w21.cell? ⟨gb319, 1, none⟩ = some (.int .i64 0) := (blk_cell BK319.out 1).trans rfl; have hcz24_2 : w21.cell? ⟨gb319, 2, none⟩ = some (.string (⟨#[]⟩ : ByteArray)) := (blk_cell BK319.out 2).trans rfl; have hfz24_0 := blk_frozen BK319.out 0; have hfz24_1 := blk_frozen BK319.out 1; have hfz24_2 := blk_frozen BK319.out 2) | ((with_reducible refine gate_callee (f := 26) rfl ?_); refine goesL_ (some 19) rfl rfl Tryd.func26 (by kernel_rfl) rfl #[.pointer (some ⟨g, 0, none⟩), .string (token_signs_0 x13_1)] rfl (by (try simp only [List.map_toArray, List.map_cons, List.map_nil]); first | done | rfl | (simp only [List.length_drop, List.length_take]; rfl)) ?_; (with_reducible refine (token_scanner_here.calls k1 g s0_0 x1001_1 (token_signs_0 x13_1) false t321 w0 _ ?side1 ?side2 A6.out).mono ?_); (case side1 => repeat (first | (with_reducible first | exact HI0.out | apply IsS50.alloc | apply IsS50.drewN | apply IsS50.drew | apply IsS50.set_1 | refine IsS50.far ?_ NB0_318.out _ | refine IsS50.far ?_ NB0_319.out _) | exact HI0.out)); (case side2 => repeat (first | (with_reducible first | exact HB.out | apply below_alloc | apply pw_below_drewN | apply below_drew1 | refine below_set ?_ (IsS50.ge HI0.out) | refine below_set ?_ GE318.out | refine below_set ?_ GE319.out) | exact HB.out)); rintro e w25 ⟨rfl, hi, hb, hk⟩; refine ⟨_, rfl, ?_⟩; have n0_ := Aside0.mk (KeepBut.blk hk (g' := gb318) (o := .cells #[.int .i64 x319000_1, .string x319001_1, .int .i64 x319002_1, .string x319003_1, .bool x319004_1, .slice none 0 0, .slice none 0 0, .int .i64 x319007_1, .int .i64 x319008_1] 38 (0, 0)) (by (with_reducible repeat (first | refine blk_drewN ?_ _ | refine blk_drew ?_ | refine blk_alloc ?_ _)); refine blk_far ?_ NB318_319.out _; (with_reducible repeat (first | refine blk_drewN ?_ _ | refine blk_drew ?_ | refine blk_alloc ?_ _)); refine blk_far ?_ NB318_319.out _; (with_reducible repeat (first | refine blk_drewN ?_ _ | refine blk_drew ?_ | refine blk_alloc ?_ _)); refine blk_far ?_ NB318_319.out _; (with_reducible repeat (first | refine blk_drewN ?_ _ | refine blk_drew ?_ | refine blk_alloc ?_ _)); exact BK318.out) NB318_0.out (by simp)); have n1_ := Aside0.mk (KeepBut.blk hk (g' := gb319) (o := .cells #[.string (token_signs_0 x13_1), .int .i64 (token_signs_1 x13_1), .string (token_signs_2 x13_1)] 64 (0, 0)) (by (with_reducible repeat (first | refine blk_drewN ?_ _ | refine blk_drew ?_ | refine blk_alloc ?_ _)); refine blk_put (cs := #[.string (token_signs_0 x13_1), .int .i64 (token_signs_1 x13_1), .string (⟨#[]⟩ : ByteArray)]) ?_ 2 _ rfl; (with_reducible repeat (first | refine blk_drewN ?_ _ | refine blk_drew ?_ | refine blk_alloc ?_ _)); refine blk_put (cs := #[.string (token_signs_0 x13_1), .int .i64 0, .string (⟨#[]⟩ : ByteArray)]) ?_ 1 _ rfl; (with_reducible repeat (first | refine blk_drewN ?_ _ | refine blk_drew ?_ | refine blk_alloc ?_ _)); refine blk_put (cs := #[.string (⟨#[]⟩ : ByteArray), .int .i64 0, .string (⟨#[]⟩ : ByteArray)]) ?_ 0 _ rfl; (with_reducible repeat (first | refine blk_drewN ?_ _ | refine blk_drew ?_ | refine blk_alloc ?_ _)); exact BK319.out) NB319_0.out (by simp)); have n2_ := Aside0.mk (KeepBut.trans (by repeat (first | (with_reducible first | exact HK.out | apply KeepBut.set_ | apply keep_drewN | apply keep_drew | apply keep_alloc | refine keep_far ?_ GW318.out _ | refine keep_far ?_ GW319.out _) | exact HK.out)) hk (.inl rfl)); have n3_ := Aside0.mk (hb); have n4_ := Aside0.mk (hi); clear BK318; clear BK319; clear HK; clear HB; clear HI0; have BK318 := n0_; have BK319 := n1_; have HK := n2_; have HB := n3_; have HI0 := n4_; clear n0_ n1_ n2_ n3_ n4_; (try clear hb); (try clear hb2); (try clear hk); (try clear hi)))
      go_roundg k1
      case measure => have := HK1.out; omega
      case rel => exact ⟨(wrap64 (x13_1 + 1)), (t321), (x319000_1), (x319001_1), (x319002_1), (x319003_1), (x319004_1), (x319007_1), (x319008_1), (by first | rfl | (simp; done) | (simp [*]; done)), H', ⟨by have := HK1.out; omega⟩, ⟨by (with_reducible repeat (first | refine blk_drewN ?_ _ | refine blk_drew ?_ | refine blk_alloc ?_ _)); exact BK318.out⟩, ⟨by repeat (first | (with_reducible first | exact HI0.out | apply IsS50.alloc | apply IsS50.drewN | apply IsS50.drew | apply IsS50.set_1 | refine IsS50.far ?_ NB0_318.out _ | refine IsS50.far ?_ NB0_319.out _) | exact HI0.out)⟩, ⟨by repeat (first | (with_reducible first | exact HK.out | apply KeepBut.set_ | apply keep_drewN | apply keep_drew | apply keep_alloc | refine keep_far ?_ GW318.out _ | refine keep_far ?_ GW319.out _) | exact HK.out)⟩, ⟨by repeat (first | (with_reducible first | exact HB.out | apply below_alloc | apply pw_below_drewN | apply below_drew1 | refine below_set ?_ (IsS50.ge HI0.out) | refine below_set ?_ GE318.out | refine below_set ?_ GE319.out) | exact HB.out)⟩⟩
    ·rw [if_neg c5] at H
     exact absurd H (by simp)
   ·rw [if_neg c4] at H
    have c4b0 : decide (x13_1 < 12) = false := decide_eq_false c4
    clear c4
    have HC26 := Aside0.mk H
    clear H
    go_upto_region 9 with (fail)
    go_cut [49] (fun v49 wc => ∃ (kq : Nat) (x49_25 : Bool) (x1001_25 : Int), v49 = .bool x49_25 ∧ Aside0 (token_scanner_next.j1 kq s0_1 x49_25 s0_0 x1001_25 = some (r1, r2, r3, r4, r5, r6, r7, r8, r9, r10)) ∧ Aside0 (kq ≤ k1) ∧ Aside0 (wc.heap[gb318]? = some (.cells #[.int .i64 x319000_1, .string x319001_1, .int .i64 x319002_1, .string x319003_1, .bool x319004_1, (.slice none 0 0), (.slice none 0 0), .int .i64 x319007_1, .int .i64 x319008_1] 38 (0, 0))) ∧ Aside0 (IsS50 w0 wc g s0_0 x1001_25) ∧ Aside0 (KeepBut w wc g none) ∧ Aside0 (Below w0.heap.size w0 wc))
    case first =>
     have H := HC26.out
     clear HC26
     replace H := Option.bind_eq_some_iff.mp H
     obtain ⟨⟨t322, t323⟩, A270, H⟩ := H
     replace H : (if t322 = 46 then ((token_scanner_left.f s0_0 t323 2).bind fun bt324 => (if bt324.1 = true then ((token_scanner_peek.f s0_0 bt324.2 1).bind fun bt326 => ((utf_Ends.f bt326.1).bind fun t328 => (token_scanner_next.j1 k1 s0_1 t328 s0_0 bt326.2))) else (token_scanner_next.j1 k1 s0_1 true s0_0 bt324.2))) else (token_scanner_next.j1 k1 s0_1 false s0_0 t323)) = some (r1, r2, r3, r4, r5, r6, r7, r8, r9, r10) := H
     have A27 := Aside0.mk A270
     clear A270
     by_cases c28 : t322 = 46
     ·rw [if_pos c28] at H
      have c28b0 : (t322 == 46) = true := beq_iff_eq.mpr c28
      have c28b1 : (t322 != 46) = false := bne_eq_false_iff_eq.mpr c28
      clear c28
      (first | rw [c28b0] | (simp only [i64_w, i32_w]; rw [c28b0]) | skip)
      replace H := Option.bind_eq_some_iff.mp H
      obtain ⟨⟨t324, t325⟩, A290, H⟩ := H
      replace H : (if t324 = true then ((token_scanner_peek.f s0_0 t325 1).bind fun bt326 => ((utf_Ends.f bt326.1).bind fun t328 => (token_scanner_next.j1 k1 s0_1 t328 s0_0 bt326.2))) else (token_scanner_next.j1 k1 s0_1 true s0_0 t325)) = some (r1, r2, r3, r4, r5, r6, r7, r8, r9, r10) := H
      have A29 := Aside0.mk A290
      clear A290
      by_cases c30 : t324 = true
      ·subst c30
       have H1 : ((token_scanner_peek.f s0_0 t325 1).bind fun bt326 => ((utf_Ends.f bt326.1).bind fun t328 => (token_scanner_next.j1 k1 s0_1 t328 s0_0 bt326.2))) = some (r1, r2, r3, r4, r5, r6, r7, r8, r9, r10) := by rw [if_pos rfl] at H; exact H
       clear H
       have H := H1
       clear H1
       replace H := Option.bind_eq_some_iff.mp H
       obtain ⟨⟨t326, t327⟩, A310, H⟩ := H
       replace H : ((utf_Ends.f t326).bind fun t328 => (token_scanner_next.j1 k1 s0_1 t328 s0_0 t327)) = some (r1, r2, r3, r4, r5, r6, r7, r8, r9, r10) := H
       have A31 := Aside0.mk A310
       clear A310
       replace H := Option.bind_eq_some_iff.mp H
       obtain ⟨t328, A320, H⟩ := H
       replace H : (token_scanner_next.j1 k1 s0_1 t328 s0_0 t327) = some (r1, r2, r3, r4, r5, r6, r7, r8, r9, r10) := H
       have A32 := Aside0.mk A320
       clear A320
       have H' := Aside0.mk H
       clear H
       go_wp2_with (first | ((with_reducible refine gate_callee (f := 24) rfl ?_); refine goesL_ (some 38) rfl rfl Tryd.func24 (by kernel_rfl) rfl #[.pointer (some ⟨g, 0, none⟩), .int .i64 0] rfl (by (try simp only [List.map_toArray, List.map_cons, List.map_nil]); first | done | rfl | (simp only [List.length_drop, List.length_take]; rfl)) ?_; (with_reducible refine (token_scanner_peek.calls g s0_0 x1001_1 0 t322 t323 w0 _ ?side1 ?side2 A27.out).mono ?_); (case side1 => repeat (first | (with_reducible first | exact HI0.out | apply IsS50.alloc | apply IsS50.drewN | apply IsS50.drew | apply IsS50.set_1 | refine IsS50.far ?_ NB0_318.out _) | exact HI0.out)); (case side2 => repeat (first | (with_reducible first | exact HB.out | apply below_alloc | apply pw_below_drewN | apply below_drew1 | refine below_set ?_ (IsS50.ge HI0.out) | refine below_set ?_ GE318.out) | exact HB.out)); rintro e w33 ⟨rfl, hi, hb, hk⟩; refine ⟨_, rfl, ?_⟩; have n0_ := Aside0.mk (KeepBut.blk hk (g' := gb318) (o := .cells #[.int .i64 x319000_1, .string x319001_1, .int .i64 x319002_1, .string x319003_1, .bool x319004_1, .slice none 0 0, .slice none 0 0, .int .i64 x319007_1, .int .i64 x319008_1] 38 (0, 0)) (by (with_reducible repeat (first | refine blk_drewN ?_ _ | refine blk_drew ?_ | refine blk_alloc ?_ _)); exact BK318.out) NB318_0.out (by simp)); have n1_ := Aside0.mk (KeepBut.trans (by repeat (first | (with_reducible first | exact HK.out | apply KeepBut.set_ | apply keep_drewN | apply keep_drew | apply keep_alloc | refine keep_far ?_ GW318.out _) | exact HK.out)) hk (.inl rfl)); have n2_ := Aside0.mk (hb); have n3_ := Aside0.mk (hi); clear BK318; clear HK; clear HB; clear HI0; have BK318 := n0_; have HK := n1_; have HB := n2_; have HI0 := n3_; clear n0_ n1_ n2_ n3_; (try clear hb); (try clear hb2); (try clear hk); (try clear hi)) | (go_at_call 14; (with_reducible refine (token_scanner_left.calls g s0_0 t323 2 true t325 w0 _ ?side1 ?side2 A29.out).mono ?_); (case side1 => repeat (first | (with_reducible first | exact HI0.out | apply IsS50.alloc | apply IsS50.drewN | apply IsS50.drew | apply IsS50.set_1 | refine IsS50.far ?_ NB0_318.out _) | exact HI0.out)); (case side2 => repeat (first | (with_reducible first | exact HB.out | apply below_alloc | apply pw_below_drewN | apply below_drew1 | refine below_set ?_ (IsS50.ge HI0.out) | refine below_set ?_ GE318.out) | exact HB.out)); rintro e w34 ⟨rfl, hi, hb, hk⟩; have n0_ := Aside0.mk (KeepBut.blk hk (g' := gb318) (o := .cells #[.int .i64 x319000_1, .string x319001_1, .int .i64 x319002_1, .string x319003_1, .bool x319004_1, .slice none 0 0, .slice none 0 0, .int .i64 x319007_1, .int .i64 x319008_1] 38 (0, 0)) (by (with_reducible repeat (first | refine blk_drewN ?_ _ | refine blk_drew ?_ | refine blk_alloc ?_ _)); exact BK318.out) NB318_0.out (by simp)); have n1_ := Aside0.mk (KeepBut.trans (by repeat (first | (with_reducible first | exact HK.out | apply KeepBut.set_ | apply keep_drewN | apply keep_drew | apply keep_alloc | refine keep_far ?_ GW318.out _) | exact HK.out)) hk (.inl rfl)); have n2_ := Aside0.mk (hb); have n3_ := Aside0.mk (hi); clear BK318; clear HK; clear HB; clear HI0; have BK318 := n0_; have HK := n1_; have HB := n2_; have HI0 := n3_; clear n0_ n1_ n2_ n3_; (try clear hb); (try clear hb2); (try clear hk); (try clear hi)) | (go_at_call 24; (with_reducible refine (token_scanner_peek.calls g s0_0 t325 1 t326 t327 w0 _ ?side1 ?side2 A31.out).mono ?_); (case side1 => repeat (first | (with_reducible first | exact HI0.out | apply IsS50.alloc | apply IsS50.drewN | apply IsS50.drew | apply IsS50.set_1 | refine IsS50.far ?_ NB0_318.out _) | exact HI0.out)); (case side2 => repeat (first | (with_reducible first | exact HB.out | apply below_alloc | apply pw_below_drewN | apply below_drew1 | refine below_set ?_ (IsS50.ge HI0.out) | refine below_set ?_ GE318.out) | exact HB.out)); rintro e w35 ⟨rfl, hi, hb, hk⟩; have n0_ := Aside0.mk (KeepBut.blk hk (g' := gb318) (o := .cells #[.int .i64 x319000_1, .string x319001_1, .int .i64 x319002_1, .string x319003_1, .bool x319004_1, .slice none 0 0, .slice none 0 0, .int .i64 x319007_1, .int .i64 x319008_1] 38 (0, 0)) (by (with_reducible repeat (first | refine blk_drewN ?_ _ | refine blk_drew ?_ | refine blk_alloc ?_ _)); exact BK318.out) NB318_0.out (by simp)); have n1_ := Aside0.mk (KeepBut.trans (by repeat (first | (with_reducible first | exact HK.out | apply KeepBut.set_ | apply keep_drewN | apply keep_drew | apply keep_alloc | refine keep_far ?_ GW318.out _) | exact HK.out)) hk (.inl rfl)); have n2_ := Aside0.mk (hb); have n3_ := Aside0.mk (hi); clear BK318; clear HK; clear HB; clear HI0; have BK318 := n0_; have HK := n1_; have HB := n2_; have HI0 := n3_; clear n0_ n1_ n2_ n3_; (try clear hb); (try clear hb2); (try clear hk); (try clear hi)) | (go_at_call 20; (with_reducible refine (utf_Ends.calls t326 t328 _ A32.out).mono ?_); rintro e w' ⟨rfl, ⟨nd, rfl⟩⟩))
       go_meet
       case rel => exact ⟨_, (t328), (t327), (by first | rfl | (simp; done) | (simp [*]; done)), H', ⟨by have := HK1.out; first | omega | exact Nat.le_refl _⟩, ⟨by (with_reducible repeat (first | refine blk_drewN ?_ _ | refine blk_drew ?_ | refine blk_alloc ?_ _)); exact BK318.out⟩, ⟨by repeat (first | (with_reducible first | exact HI0.out | apply IsS50.alloc | apply IsS50.drewN | apply IsS50.drew | apply IsS50.set_1 | refine IsS50.far ?_ NB0_318.out _) | exact HI0.out)⟩, ⟨by repeat (first | (with_reducible first | exact HK.out | apply KeepBut.set_ | apply keep_drewN | apply keep_drew | apply keep_alloc | refine keep_far ?_ GW318.out _) | exact HK.out)⟩, ⟨by repeat (first | (with_reducible first | exact HB.out | apply below_alloc | apply pw_below_drewN | apply below_drew1 | refine below_set ?_ (IsS50.ge HI0.out) | refine below_set ?_ GE318.out) | exact HB.out)⟩⟩
      ·replace c30 := Bool.eq_false_iff.mpr c30
       subst c30
       have H1 : (token_scanner_next.j1 k1 s0_1 true s0_0 t325) = some (r1, r2, r3, r4, r5, r6, r7, r8, r9, r10) := by rw [if_neg (show ¬ (false = true) by decide)] at H; exact H
       clear H
       have H := H1
       clear H1
       have H' := Aside0.mk H
       clear H
       go_wp2_with (first | ((with_reducible refine gate_callee (f := 24) rfl ?_); refine goesL_ (some 38) rfl rfl Tryd.func24 (by kernel_rfl) rfl #[.pointer (some ⟨g, 0, none⟩), .int .i64 0] rfl (by (try simp only [List.map_toArray, List.map_cons, List.map_nil]); first | done | rfl | (simp only [List.length_drop, List.length_take]; rfl)) ?_; (with_reducible refine (token_scanner_peek.calls g s0_0 x1001_1 0 t322 t323 w0 _ ?side1 ?side2 A27.out).mono ?_); (case side1 => repeat (first | (with_reducible first | exact HI0.out | apply IsS50.alloc | apply IsS50.drewN | apply IsS50.drew | apply IsS50.set_1 | refine IsS50.far ?_ NB0_318.out _) | exact HI0.out)); (case side2 => repeat (first | (with_reducible first | exact HB.out | apply below_alloc | apply pw_below_drewN | apply below_drew1 | refine below_set ?_ (IsS50.ge HI0.out) | refine below_set ?_ GE318.out) | exact HB.out)); rintro e w36 ⟨rfl, hi, hb, hk⟩; refine ⟨_, rfl, ?_⟩; have n0_ := Aside0.mk (KeepBut.blk hk (g' := gb318) (o := .cells #[.int .i64 x319000_1, .string x319001_1, .int .i64 x319002_1, .string x319003_1, .bool x319004_1, .slice none 0 0, .slice none 0 0, .int .i64 x319007_1, .int .i64 x319008_1] 38 (0, 0)) (by (with_reducible repeat (first | refine blk_drewN ?_ _ | refine blk_drew ?_ | refine blk_alloc ?_ _)); exact BK318.out) NB318_0.out (by simp)); have n1_ := Aside0.mk (KeepBut.trans (by repeat (first | (with_reducible first | exact HK.out | apply KeepBut.set_ | apply keep_drewN | apply keep_drew | apply keep_alloc | refine keep_far ?_ GW318.out _) | exact HK.out)) hk (.inl rfl)); have n2_ := Aside0.mk (hb); have n3_ := Aside0.mk (hi); clear BK318; clear HK; clear HB; clear HI0; have BK318 := n0_; have HK := n1_; have HB := n2_; have HI0 := n3_; clear n0_ n1_ n2_ n3_; (try clear hb); (try clear hb2); (try clear hk); (try clear hi)) | (go_at_call 14; (with_reducible refine (token_scanner_left.calls g s0_0 t323 2 false t325 w0 _ ?side1 ?side2 A29.out).mono ?_); (case side1 => repeat (first | (with_reducible first | exact HI0.out | apply IsS50.alloc | apply IsS50.drewN | apply IsS50.drew | apply IsS50.set_1 | refine IsS50.far ?_ NB0_318.out _) | exact HI0.out)); (case side2 => repeat (first | (with_reducible first | exact HB.out | apply below_alloc | apply pw_below_drewN | apply below_drew1 | refine below_set ?_ (IsS50.ge HI0.out) | refine below_set ?_ GE318.out) | exact HB.out)); rintro e w37 ⟨rfl, hi, hb, hk⟩; have n0_ := Aside0.mk (KeepBut.blk hk (g' := gb318) (o := .cells #[.int .i64 x319000_1, .string x319001_1, .int .i64 x319002_1, .string x319003_1, .bool x319004_1, .slice none 0 0, .slice none 0 0, .int .i64 x319007_1, .int .i64 x319008_1] 38 (0, 0)) (by (with_reducible repeat (first | refine blk_drewN ?_ _ | refine blk_drew ?_ | refine blk_alloc ?_ _)); exact BK318.out) NB318_0.out (by simp)); have n1_ := Aside0.mk (KeepBut.trans (by repeat (first | (with_reducible first | exact HK.out | apply KeepBut.set_ | apply keep_drewN | apply keep_drew | apply keep_alloc | refine keep_far ?_ GW318.out _) | exact HK.out)) hk (.inl rfl)); have n2_ := Aside0.mk (hb); have n3_ := Aside0.mk (hi); clear BK318; clear HK; clear HB; clear HI0; have BK318 := n0_; have HK := n1_; have HB := n2_; have HI0 := n3_; clear n0_ n1_ n2_ n3_; (try clear hb); (try clear hb2); (try clear hk); (try clear hi)))
       go_meet
       case rel => exact ⟨_, (true), (t325), (by first | rfl | (simp; done) | (simp [*]; done)), H', ⟨by have := HK1.out; first | omega | exact Nat.le_refl _⟩, ⟨by (with_reducible repeat (first | refine blk_drewN ?_ _ | refine blk_drew ?_ | refine blk_alloc ?_ _)); exact BK318.out⟩, ⟨by repeat (first | (with_reducible first | exact HI0.out | apply IsS50.alloc | apply IsS50.drewN | apply IsS50.drew | apply IsS50.set_1 | refine IsS50.far ?_ NB0_318.out _) | exact HI0.out)⟩, ⟨by repeat (first | (with_reducible first | exact HK.out | apply KeepBut.set_ | apply keep_drewN | apply keep_drew | apply keep_alloc | refine keep_far ?_ GW318.out _) | exact HK.out)⟩, ⟨by repeat (first | (with_reducible first | exact HB.out | apply below_alloc | apply pw_below_drewN | apply below_drew1 | refine below_set ?_ (IsS50.ge HI0.out) | refine below_set ?_ GE318.out) | exact HB.out)⟩⟩
     ·rw [if_neg c28] at H
      have c28b0 : (t322 == 46) = false := beq_eq_false_iff_ne.mpr c28
      have c28b1 : (t322 != 46) = true := bne_iff_ne.mpr c28
      (first | rw [c28b0] | (simp only [i64_w, i32_w]; rw [c28b0]) | skip)
      have H' := Aside0.mk H
      clear H
      go_wp2_with (first | ((with_reducible refine gate_callee (f := 24) rfl ?_); refine goesL_ (some 38) rfl rfl Tryd.func24 (by kernel_rfl) rfl #[.pointer (some ⟨g, 0, none⟩), .int .i64 0] rfl (by (try simp only [List.map_toArray, List.map_cons, List.map_nil]); first | done | rfl | (simp only [List.length_drop, List.length_take]; rfl)) ?_; (with_reducible refine (token_scanner_peek.calls g s0_0 x1001_1 0 t322 t323 w0 _ ?side1 ?side2 A27.out).mono ?_); (case side1 => repeat (first | (with_reducible first | exact HI0.out | apply IsS50.alloc | apply IsS50.drewN | apply IsS50.drew | apply IsS50.set_1 | refine IsS50.far ?_ NB0_318.out _) | exact HI0.out)); (case side2 => repeat (first | (with_reducible first | exact HB.out | apply below_alloc | apply pw_below_drewN | apply below_drew1 | refine below_set ?_ (IsS50.ge HI0.out) | refine below_set ?_ GE318.out) | exact HB.out)); rintro e w38 ⟨rfl, hi, hb, hk⟩; refine ⟨_, rfl, ?_⟩; have n0_ := Aside0.mk (KeepBut.blk hk (g' := gb318) (o := .cells #[.int .i64 x319000_1, .string x319001_1, .int .i64 x319002_1, .string x319003_1, .bool x319004_1, .slice none 0 0, .slice none 0 0, .int .i64 x319007_1, .int .i64 x319008_1] 38 (0, 0)) (by (with_reducible repeat (first | refine blk_drewN ?_ _ | refine blk_drew ?_ | refine blk_alloc ?_ _)); exact BK318.out) NB318_0.out (by simp)); have n1_ := Aside0.mk (KeepBut.trans (by repeat (first | (with_reducible first | exact HK.out | apply KeepBut.set_ | apply keep_drewN | apply keep_drew | apply keep_alloc | refine keep_far ?_ GW318.out _) | exact HK.out)) hk (.inl rfl)); have n2_ := Aside0.mk (hb); have n3_ := Aside0.mk (hi); clear BK318; clear HK; clear HB; clear HI0; have BK318 := n0_; have HK := n1_; have HB := n2_; have HI0 := n3_; clear n0_ n1_ n2_ n3_; (try clear hb); (try clear hb2); (try clear hk); (try clear hi)))
      go_meet
      case rel => exact ⟨_, (false), (t323), (by first | rfl | (simp; done) | (simp [*]; done)), H', ⟨by have := HK1.out; first | omega | exact Nat.le_refl _⟩, ⟨by (with_reducible repeat (first | refine blk_drewN ?_ _ | refine blk_drew ?_ | refine blk_alloc ?_ _)); exact BK318.out⟩, ⟨by repeat (first | (with_reducible first | exact HI0.out | apply IsS50.alloc | apply IsS50.drewN | apply IsS50.drew | apply IsS50.set_1 | refine IsS50.far ?_ NB0_318.out _) | exact HI0.out)⟩, ⟨by repeat (first | (with_reducible first | exact HK.out | apply KeepBut.set_ | apply keep_drewN | apply keep_drew | apply keep_alloc | refine keep_far ?_ GW318.out _) | exact HK.out)⟩, ⟨by repeat (first | (with_reducible first | exact HB.out | apply below_alloc | apply pw_below_drewN | apply below_drew1 | refine below_set ?_ (IsS50.ge HI0.out) | refine below_set ?_ GE318.out) | exact HB.out)⟩⟩
    case rest =>
     clear HC26
     try clear c1
     try clear c2
     try clear p2
     try clear c3
     try clear c4
     try clear c4b0
     try clear c5
     try clear c5b0
     try clear p6
     try clear c7
     try clear c10
     try clear c11
     try clear c15
     try clear c18
     try clear c22
     try clear c23
     try clear c24
     try clear c26
     try clear c28
     try clear c28b0
     try clear c28b1
     try clear c30
     try clear hcz12_0
     try clear hcz12_1
     try clear hcz12_2
     try clear hcz15_0
     try clear hcz15_1
     try clear hcz17_0
     try clear hcz17_1
     try clear hcz17_2
     try clear hcz19_0
     try clear hcz19_1
     try clear hcz19_2
     try clear hcz19_3
     try clear hcz19_4
     try clear hcz19_5
     try clear hcz19_6
     try clear hcz19_7
     try clear hcz19_8
     try clear hcz24_0
     try clear hcz24_1
     try clear hcz24_2
     try clear hcz3_0
     try clear hcz3_1
     try clear hfz12_0
     try clear hfz12_1
     try clear hfz12_2
     try clear hfz15_1
     try clear hfz17_0
     try clear hfz17_1
     try clear hfz17_2
     try clear hfz19_0
     try clear hfz19_1
     try clear hfz19_2
     try clear hfz19_3
     try clear hfz19_4
     try clear hfz19_5
     try clear hfz19_6
     try clear hfz19_7
     try clear hfz19_8
     try clear hfz24_0
     try clear hfz24_1
     try clear hfz24_2
     try clear hfz3_1
     try clear p2
     obtain ⟨kq, x49_25, x1001_25, rfl, HA, HJ25, BK318, HI0, HK, HB⟩ := hcut
     cases kq with
     | zero => exact absurd HA.out (by simp [token_scanner_next.j1])
     | succ kj25 =>
      have H := HA.out
      clear HA
      simp only [token_scanner_next.j1] at H
      by_cases c39 : x49_25 = true
      ·subst c39
       have H1 : (some (4, (⟨#[]⟩ : ByteArray), 0, (⟨#[]⟩ : ByteArray), false, ([] : List Int), ([] : List (S33)), 0, s0_1, wrap64 (x1001_25 + 1))) = some (r1, r2, r3, r4, r5, r6, r7, r8, r9, r10) := by rw [if_pos rfl] at H; exact H
       clear H
       have H := H1
       clear H1
       simp only [Option.some.injEq, Prod.mk.injEq] at H
       obtain ⟨rfl, rfl, rfl, rfl, rfl, rfl, rfl, rfl, rfl, rfl⟩ := H
       obtain ⟨ASz40_0, cSz40_0, HGz40, hgz40, ⟨HSz40_0, HCSz40_0⟩⟩ := HI0.out
       have hcz40_0 := cellS50_0 HGz40
       have hcz40_1 := cellS50_1 HGz40
       have hfz40_1 := blk_frozen HGz40 1
       have BKSz40 := Aside0.mk HGz40
       clear HGz40 hgz40
       have hnb41 := NB318_0.out
       have hnc41 := NB0_318.out
       have hcz42_0 : wc.cell? ⟨gb318, 0, none⟩ = some (.int .i64 x319000_1) := (blk_cell BK318.out 0).trans rfl
       have hcz42_1 : wc.cell? ⟨gb318, 1, none⟩ = some (.string x319001_1) := (blk_cell BK318.out 1).trans rfl
       have hcz42_2 : wc.cell? ⟨gb318, 2, none⟩ = some (.int .i64 x319002_1) := (blk_cell BK318.out 2).trans rfl
       have hcz42_3 : wc.cell? ⟨gb318, 3, none⟩ = some (.string x319003_1) := (blk_cell BK318.out 3).trans rfl
       have hcz42_4 : wc.cell? ⟨gb318, 4, none⟩ = some (.bool x319004_1) := (blk_cell BK318.out 4).trans rfl
       have hcz42_5 : wc.cell? ⟨gb318, 5, none⟩ = some (.slice none 0 0) := (blk_cell BK318.out 5).trans rfl
       have hcz42_6 : wc.cell? ⟨gb318, 6, none⟩ = some (.slice none 0 0) := (blk_cell BK318.out 6).trans rfl
       have hcz42_7 : wc.cell? ⟨gb318, 7, none⟩ = some (.int .i64 x319007_1) := (blk_cell BK318.out 7).trans rfl
       have hcz42_8 : wc.cell? ⟨gb318, 8, none⟩ = some (.int .i64 x319008_1) := (blk_cell BK318.out 8).trans rfl
       have hfz42_0 := blk_frozen BK318.out 0
       have hfz42_1 := blk_frozen BK318.out 1
       have hfz42_2 := blk_frozen BK318.out 2
       have hfz42_3 := blk_frozen BK318.out 3
       have hfz42_4 := blk_frozen BK318.out 4
       have hfz42_5 := blk_frozen BK318.out 5
       have hfz42_6 := blk_frozen BK318.out 6
       have hfz42_7 := blk_frozen BK318.out 7
       have hfz42_8 := blk_frozen BK318.out 8
       go_wp2
       refine bodyPost_ret (results_cell_row rfl _ _ gb318 38 #[.int .i64 4, .string (⟨#[]⟩ : ByteArray), .int .i64 0, .string (⟨#[]⟩ : ByteArray), .bool false, .slice none 0 0, .slice none 0 0, .int .i64 0, .int .i64 s0_1] (0, 0) _ rfl (by (with_reducible repeat (first | refine blk_drewN ?_ _ | refine blk_drew ?_ | refine blk_alloc ?_ _)); refine blk_put (cs := #[.int .i64 4, .string (⟨#[]⟩ : ByteArray), .int .i64 0, .string (⟨#[]⟩ : ByteArray), .bool false, .slice none 0 0, .slice none 0 0, .int .i64 0, .int .i64 x319008_1]) ?_ 8 _ rfl; (with_reducible repeat (first | refine blk_drewN ?_ _ | refine blk_drew ?_ | refine blk_alloc ?_ _)); refine blk_put (cs := #[.int .i64 4, .string (⟨#[]⟩ : ByteArray), .int .i64 0, .string (⟨#[]⟩ : ByteArray), .bool false, .slice none 0 0, .slice none 0 0, .int .i64 x319007_1, .int .i64 x319008_1]) ?_ 7 _ rfl; (with_reducible repeat (first | refine blk_drewN ?_ _ | refine blk_drew ?_ | refine blk_alloc ?_ _)); refine blk_put (cs := #[.int .i64 4, .string (⟨#[]⟩ : ByteArray), .int .i64 0, .string (⟨#[]⟩ : ByteArray), .bool false, .slice none 0 0, .slice none 0 0, .int .i64 x319007_1, .int .i64 x319008_1]) ?_ 6 _ rfl; (with_reducible repeat (first | refine blk_drewN ?_ _ | refine blk_drew ?_ | refine blk_alloc ?_ _)); refine blk_put (cs := #[.int .i64 4, .string (⟨#[]⟩ : ByteArray), .int .i64 0, .string (⟨#[]⟩ : ByteArray), .bool false, .slice none 0 0, .slice none 0 0, .int .i64 x319007_1, .int .i64 x319008_1]) ?_ 5 _ rfl; (with_reducible repeat (first | refine blk_drewN ?_ _ | refine blk_drew ?_ | refine blk_alloc ?_ _)); refine blk_put (cs := #[.int .i64 4, .string (⟨#[]⟩ : ByteArray), .int .i64 0, .string (⟨#[]⟩ : ByteArray), .bool x319004_1, .slice none 0 0, .slice none 0 0, .int .i64 x319007_1, .int .i64 x319008_1]) ?_ 4 _ rfl; (with_reducible repeat (first | refine blk_drewN ?_ _ | refine blk_drew ?_ | refine blk_alloc ?_ _)); refine blk_put (cs := #[.int .i64 4, .string (⟨#[]⟩ : ByteArray), .int .i64 0, .string x319003_1, .bool x319004_1, .slice none 0 0, .slice none 0 0, .int .i64 x319007_1, .int .i64 x319008_1]) ?_ 3 _ rfl; (with_reducible repeat (first | refine blk_drewN ?_ _ | refine blk_drew ?_ | refine blk_alloc ?_ _)); refine blk_put (cs := #[.int .i64 4, .string (⟨#[]⟩ : ByteArray), .int .i64 x319002_1, .string x319003_1, .bool x319004_1, .slice none 0 0, .slice none 0 0, .int .i64 x319007_1, .int .i64 x319008_1]) ?_ 2 _ rfl; (with_reducible repeat (first | refine blk_drewN ?_ _ | refine blk_drew ?_ | refine blk_alloc ?_ _)); refine blk_put (cs := #[.int .i64 4, .string x319001_1, .int .i64 x319002_1, .string x319003_1, .bool x319004_1, .slice none 0 0, .slice none 0 0, .int .i64 x319007_1, .int .i64 x319008_1]) ?_ 1 _ rfl; (with_reducible repeat (first | refine blk_drewN ?_ _ | refine blk_drew ?_ | refine blk_alloc ?_ _)); refine blk_put (cs := #[.int .i64 x319000_1, .string x319001_1, .int .i64 x319002_1, .string x319003_1, .bool x319004_1, .slice none 0 0, .slice none 0 0, .int .i64 x319007_1, .int .i64 x319008_1]) ?_ 0 _ rfl; (with_reducible repeat (first | refine blk_drewN ?_ _ | refine blk_drew ?_ | refine blk_alloc ?_ _)); refine blk_far ?_ NB318_0.out _; (with_reducible repeat (first | refine blk_drewN ?_ _ | refine blk_drew ?_ | refine blk_alloc ?_ _)); exact BK318.out) Tryd.underlying38 rfl (by kernel_rfl)) rfl ?_
       exact ⟨_, _, by first | rfl | (simp [errW_none, errW_some] <;> rfl) | (simp [*, errW_none, errW_some] <;> rfl), Kd.V_nil _ _ _ _ _, by first | exact Kd.R_nil _ _ _ _ _ | exact Kd.N_nil _ _ _ _ _ | exact Kd.V_nil _ _ _ _ _ | exact Kd.Q_nil _ _ _ _ _ | exact Kd.S_nil _ _ _ _ _, by repeat (first | (with_reducible first | exact HI0.out | apply IsS50.alloc | apply IsS50.drewN | apply IsS50.drew | apply IsS50.set_1 | refine IsS50.far ?_ NB0_318.out _) | exact HI0.out), by repeat (first | (with_reducible first | exact HB.out | apply below_alloc | apply pw_below_drewN | apply below_drew1 | refine below_set ?_ (IsS50.ge HI0.out) | refine below_set ?_ GE318.out) | exact HB.out), by repeat (first | (with_reducible first | exact HK.out | apply KeepBut.set_ | apply keep_drewN | apply keep_drew | apply keep_alloc | refine keep_far ?_ GW318.out _) | exact HK.out)⟩
      ·replace c39 := Bool.eq_false_iff.mpr c39
       subst c39
       have H1 : ((token_scanner_datum.f kj25 s0_0 x1001_25).bind fun bt329 => (if bt329.2.2.2.2.2.2.1 = true then (some (7, (⟨#[]⟩ : ByteArray), bt329.1, bt329.2.1, bt329.2.2.1, bt329.2.2.2.1, bt329.2.2.2.2.1, s0_1, s0_1, bt329.2.2.2.2.2.2.2)) else (none))) = some (r1, r2, r3, r4, r5, r6, r7, r8, r9, r10) := by rw [if_neg (show ¬ (false = true) by decide)] at H; exact H
       clear H
       have H := H1
       clear H1
       replace H := Option.bind_eq_some_iff.mp H
       obtain ⟨⟨t329, t330, t331, t332, t335, t338, t339, t340⟩, A430, H⟩ := H
       replace H : (if t339 = true then (some (7, (⟨#[]⟩ : ByteArray), t329, t330, t331, t332, t335, s0_1, s0_1, t340)) else (none)) = some (r1, r2, r3, r4, r5, r6, r7, r8, r9, r10) := H
       have A43 := Aside0.mk A430
       clear A430
       by_cases c44 : t339 = true
       ·subst c44
        have H1 : (some (7, (⟨#[]⟩ : ByteArray), t329, t330, t331, t332, t335, s0_1, s0_1, t340)) = some (r1, r2, r3, r4, r5, r6, r7, r8, r9, r10) := by rw [if_pos rfl] at H; exact H
        clear H
        have H := H1
        clear H1
        simp only [Option.some.injEq, Prod.mk.injEq] at H
        obtain ⟨rfl, rfl, rfl, rfl, rfl, rfl, rfl, rfl, rfl, rfl⟩ := H
        go_wp2_with (first | ((with_reducible refine gate_callee (f := 27) rfl ?_); refine goesL_ (some 61) rfl rfl Tryd.func27 (by kernel_rfl) rfl #[.pointer (some ⟨g, 0, none⟩)] rfl (by (try simp only [List.map_toArray, List.map_cons, List.map_nil]); first | done | rfl | (simp only [List.length_drop, List.length_take]; rfl)) ?_; (with_reducible refine (token_scanner_datum.calls kj25 g s0_0 x1001_25 t329 t330 t331 t332 t335 t338 true t340 w0 _ ?side1 ?side2 ?side3 A43.out).mono ?_); (case side1 => repeat (first | (with_reducible first | exact HI0.out | apply IsS50.alloc | apply IsS50.drewN | apply IsS50.drew | apply IsS50.set_1 | refine IsS50.far ?_ NB0_318.out _) | exact HI0.out)); (case side2 => repeat (first | (with_reducible first | exact HB.out | apply below_alloc | apply pw_below_drewN | apply below_drew1 | refine below_set ?_ (IsS50.ge HI0.out) | refine below_set ?_ GE318.out) | exact HB.out)); (case side3 => exact HLD.out); rintro e w45 ⟨v333, v336, rfl, ho0, ho1, hi, hb, hk⟩; refine ⟨_, rfl, ?_⟩; have n0_ := Aside0.mk (KeepBut.blk hk (g' := gb318) (o := .cells #[.int .i64 x319000_1, .string x319001_1, .int .i64 x319002_1, .string x319003_1, .bool x319004_1, .slice none 0 0, .slice none 0 0, .int .i64 x319007_1, .int .i64 x319008_1] 38 (0, 0)) (by (with_reducible repeat (first | refine blk_drewN ?_ _ | refine blk_drew ?_ | refine blk_alloc ?_ _)); exact BK318.out) NB318_0.out (by simp)); have n1_ := Aside0.mk (Kd.V_lower (Kd.V_mono (ok' := fun k_ => (w.heap.size ≤ k_) ∧ some k_ ≠ (v336 : Value).ownBlock ∧ k_ ≠ gb318 ∧ k_ ≠ g) ho0 (fun k_ hk_ => ⟨(Nat.le_trans (keep_size (w := w) (g := g) (row := none) (by repeat (first | (with_reducible first | exact HK.out | apply KeepBut.set_ | apply keep_drewN | apply keep_drew | apply keep_alloc | refine keep_far ?_ GW318.out _) | exact HK.out))) hk_.1), hk_.2, (Kd.freshB (g := gb318) (o := .cells #[.int .i64 x319000_1, .string x319001_1, .int .i64 x319002_1, .string x319003_1, .bool x319004_1, .slice none 0 0, .slice none 0 0, .int .i64 x319007_1, .int .i64 x319008_1] 38 (0, 0)) (by (with_reducible repeat (first | refine blk_drewN ?_ _ | refine blk_drew ?_ | refine blk_alloc ?_ _)); exact BK318.out) k_ hk_.1), (IsS50.fresh (by repeat (first | (with_reducible first | exact HI0.out | apply IsS50.alloc | apply IsS50.drewN | apply IsS50.drew | apply IsS50.set_1 | refine IsS50.far ?_ NB0_318.out _) | exact HI0.out)) k_ hk_.1)⟩)) (keep_size (w := w) (g := g) (row := none) (by repeat (first | (with_reducible first | exact HK.out | apply KeepBut.set_ | apply keep_drewN | apply keep_drew | apply keep_alloc | refine keep_far ?_ GW318.out _) | exact HK.out)))); have n2_ := Aside0.mk (Kd.R_lower (Kd.R_newM (M := fun k_ => (w.heap.size ≤ k_)) (Kd.R_mono (ok' := fun k_ => True) ho1 (fun _ hk_ => trivial)) (keep_size (w := w) (g := g) (row := none) (by repeat (first | (with_reducible first | exact HK.out | apply KeepBut.set_ | apply keep_drewN | apply keep_drew | apply keep_alloc | refine keep_far ?_ GW318.out _) | exact HK.out))) (fun k_ h_ => h_)) (keep_size (w := w) (g := g) (row := none) (by repeat (first | (with_reducible first | exact HK.out | apply KeepBut.set_ | apply keep_drewN | apply keep_drew | apply keep_alloc | refine keep_far ?_ GW318.out _) | exact HK.out)))); have n3_ := Aside0.mk (KeepBut.trans (by repeat (first | (with_reducible first | exact HK.out | apply KeepBut.set_ | apply keep_drewN | apply keep_drew | apply keep_alloc | refine keep_far ?_ GW318.out _) | exact HK.out)) hk (.inl rfl)); have n4_ := Aside0.mk (hb); have n5_ := Aside0.mk (hi); clear BK318; clear HK; clear HB; clear HI0; have BK318 := n0_; have HO334 := n1_; have HO337 := n2_; have HK := n3_; have HB := n4_; have HI0 := n5_; clear n0_ n1_ n2_ n3_ n4_ n5_; (try clear hb); (try clear hb2); (try clear hk); (try clear hi); (try clear ho0); (try clear ho1)) | ((with_reducible refine gate_dst (N := 6) rfl ?_); refine box_event ?hg (N := 6) ?hd (cs := #[.int .i64 0, .string (⟨#[]⟩ : ByteArray), .bool false, .slice none 0 0, .slice none 0 0, .int .i64 0]) (t := 33) ?hr ?_; (case hd => rfl); (case hg => rfl); (case hr => first | (go_simp; done) | (go_simp; rfl)); intro gb341 hg w46 hbox hb; have n0_ := Aside0.mk (Kd.V_below (Kd.V_elderB (by (with_reducible repeat (first | apply Kd.V_alloc | apply Kd.V_drewN | apply Kd.V_drew)); exact HO334.out) gb341 (Nat.le_of_eq hg.symm)) hb); have n1_ := Aside0.mk (Kd.R_below (Kd.R_elderB (by (with_reducible repeat (first | apply Kd.R_alloc | apply Kd.R_drewN | apply Kd.R_drew)); exact HO337.out) gb341 (Nat.le_of_eq hg.symm)) hb); have n2_ := Aside0.mk (blk_below (g := gb318) (o := .cells #[.int .i64 x319000_1, .string x319001_1, .int .i64 x319002_1, .string x319003_1, .bool x319004_1, .slice none 0 0, .slice none 0 0, .int .i64 x319007_1, .int .i64 x319008_1] 38 (0, 0)) (by (with_reducible repeat (first | refine blk_drewN ?_ _ | refine blk_drew ?_ | refine blk_alloc ?_ _)); exact BK318.out) hb); have n3_ := Aside0.mk (IsS50.below (by repeat (first | (with_reducible first | exact HI0.out | apply IsS50.alloc | apply IsS50.drewN | apply IsS50.drew | apply IsS50.set_1 | refine IsS50.far ?_ NB0_318.out _) | exact HI0.out)) hb); have n4_ := Aside0.mk (KeepBut.trans (by repeat (first | (with_reducible first | exact HK.out | apply KeepBut.set_ | apply keep_drewN | apply keep_drew | apply keep_alloc | refine keep_far ?_ GW318.out _) | exact HK.out)) (KeepBut.of_below hb g none) (.inl rfl)); have n5_ := Aside0.mk (below_step (by repeat (first | (with_reducible first | exact HB.out | apply below_alloc | apply pw_below_drewN | apply below_drew1 | refine below_set ?_ (IsS50.ge HI0.out) | refine below_set ?_ GE318.out) | exact HB.out)) hb); have n6_ := Aside0.mk (hbox); have n7_ := Aside0.mk ((by rw [hg]; exact (keep_size (w := w) (g := g) (row := none) (by repeat (first | (with_reducible first | exact HK.out | apply KeepBut.set_ | apply keep_drewN | apply keep_drew | apply keep_alloc | refine keep_far ?_ GW318.out _) | exact HK.out))) : w.heap.size ≤ gb341)); have n8_ := Aside0.mk ((Nat.le_trans HW0.out (by rw [hg]; exact (keep_size (w := w) (g := g) (row := none) (by repeat (first | (with_reducible first | exact HK.out | apply KeepBut.set_ | apply keep_drewN | apply keep_drew | apply keep_alloc | refine keep_far ?_ GW318.out _) | exact HK.out))) : w.heap.size ≤ gb341) : w0.heap.size ≤ gb341)); have n9_ := Aside0.mk ((by rw [hg]; exact Nat.ne_of_lt (blk_lt (g := gb318) (o := .cells #[.int .i64 x319000_1, .string x319001_1, .int .i64 x319002_1, .string x319003_1, .bool x319004_1, .slice none 0 0, .slice none 0 0, .int .i64 x319007_1, .int .i64 x319008_1] 38 (0, 0)) (by (with_reducible repeat (first | refine blk_drewN ?_ _ | refine blk_drew ?_ | refine blk_alloc ?_ _)); exact BK318.out)) : gb318 ≠ gb341)); have n10_ := Aside0.mk ((by rw [hg]; exact Nat.ne_of_gt (blk_lt (g := gb318) (o := .cells #[.int .i64 x319000_1, .string x319001_1, .int .i64 x319002_1, .string x319003_1, .bool x319004_1, .slice none 0 0, .slice none 0 0, .int .i64 x319007_1, .int .i64 x319008_1] 38 (0, 0)) (by (with_reducible repeat (first | refine blk_drewN ?_ _ | refine blk_drew ?_ | refine blk_alloc ?_ _)); exact BK318.out)) : gb341 ≠ gb318)); have n11_ := Aside0.mk ((by rw [hg]; exact Nat.ne_of_lt (IsS50.lt (show IsS50 w0 _ g s0_0 t340 from by repeat (first | (with_reducible first | exact HI0.out | apply IsS50.alloc | apply IsS50.drewN | apply IsS50.drew | apply IsS50.set_1 | refine IsS50.far ?_ NB0_318.out _) | exact HI0.out))) : g ≠ gb341)); have n12_ := Aside0.mk ((by rw [hg]; exact Nat.ne_of_gt (IsS50.lt (show IsS50 w0 _ g s0_0 t340 from by repeat (first | (with_reducible first | exact HI0.out | apply IsS50.alloc | apply IsS50.drewN | apply IsS50.drew | apply IsS50.set_1 | refine IsS50.far ?_ NB0_318.out _) | exact HI0.out))) : gb341 ≠ g)); clear HO334; clear HO337; clear BK318; clear HI0; clear HK; clear HB; have HO334 := n0_; have HO337 := n1_; have BK318 := n2_; have HI0 := n3_; have HK := n4_; have HB := n5_; have BK341 := n6_; have GW341 := n7_; have GE341 := n8_; have NB318_341 := n9_; have NB341_318 := n10_; have NB0_341 := n11_; have NB341_0 := n12_; clear n0_ n1_ n2_ n3_ n4_ n5_ n6_ n7_ n8_ n9_ n10_ n11_ n12_; clear hb hbox hg; have hnb47 := NB341_318.out; have hnc47 := NB318_341.out; have hnb48 := NB341_0.out; have hnc48 := NB0_341.out; have hcz49_0 : w46.cell? ⟨gb341, 0, none⟩ = some (.int .i64 0) := (blk_cell BK341.out 0).trans rfl; have hcz49_1 : w46.cell? ⟨gb341, 1, none⟩ = some (.string (⟨#[]⟩ : ByteArray)) := (blk_cell BK341.out 1).trans rfl; have hcz49_2 : w46.cell? ⟨gb341, 2, none⟩ = some (.bool false) := (blk_cell BK341.out 2).trans rfl; have hcz49_3 : w46.cell? ⟨gb341, 3, none⟩ = some (.slice none 0 0) := (blk_cell BK341.out 3).trans rfl; have hcz49_4 : w46.cell? ⟨gb341, 4, none⟩ = some (.slice none 0 0) := (blk_cell BK341.out 4).trans rfl; have hcz49_5 : w46.cell? ⟨gb341, 5, none⟩ = some (.int .i64 0) := (blk_cell BK341.out 5).trans rfl; have hfz49_0 := blk_frozen BK341.out 0; have hfz49_1 := blk_frozen BK341.out 1; have hfz49_2 := blk_frozen BK341.out 2; have hfz49_3 := blk_frozen BK341.out 3; have hfz49_4 := blk_frozen BK341.out 4; have hfz49_5 := blk_frozen BK341.out 5; obtain ⟨Ao50, co50, eo50⟩ := Kd.V_slice HO334.out; subst eo50; obtain ⟨Ao51, co51, eo51⟩ := Kd.R_slice HO337.out; subst eo51) | ((with_reducible refine gate_store (t := 33) (p := 6) rfl ?_); refine store_event (t := 33) (p := 6) (v := ?vo_w52) (w1 := ((((((w46.setCell ⟨gb341, 0, none⟩ (.int .i64 t329)).setCell ⟨gb341, 1, none⟩ (.string t330)).setCell ⟨gb341, 2, none⟩ (.bool t331)).setCell ⟨gb341, 3, none⟩ (.slice Ao50 t332.length co50)).setCell ⟨gb341, 4, none⟩ (.slice Ao51 t335.length co51)).setCell ⟨gb341, 5, none⟩ (.int .i64 t338))) ?hg ?ho ?hn ?hr ?_; (case ho => rfl); (case hg => rfl); (case hn => rfl); (case hr => first | (go_simp; done) | (go_simp; rfl)); intro w52 hw; have n0_ : Aside0 (Kd.V (Kd.int .u32) 73 w52 w.heap.size (fun k_ => (w.heap.size ≤ k_) ∧ some k_ ≠ (.slice Ao51 t335.length co51 : Value).ownBlock ∧ k_ ≠ gb318 ∧ k_ ≠ g ∧ k_ ≠ gb341) (.slice Ao50 t332.length co50) t332) := ⟨(by rw [hw]; exact (by (with_reducible repeat (first | apply Kd.V_alloc | apply Kd.V_drewN | apply Kd.V_drew)); exact Kd.V_mono (Kd.V_far (p := ⟨gb341, 5, none⟩) (Kd.V_far (p := ⟨gb341, 4, none⟩) (Kd.V_far (p := ⟨gb341, 3, none⟩) (Kd.V_far (p := ⟨gb341, 2, none⟩) (Kd.V_far (p := ⟨gb341, 1, none⟩) (Kd.V_far (p := ⟨gb341, 0, none⟩) (Kd.V_mono HO334.out (fun k_ hk => (⟨hk, hk.2⟩ : _ ∧ k_ ≠ gb341))) (fun _ hk => hk.2) (.int .i64 t329)) (fun _ hk => hk.2) (.string t330)) (fun _ hk => hk.2) (.bool t331)) (fun _ hk => hk.2) (.slice Ao50 t332.length co50)) (fun _ hk => hk.2) (.slice Ao51 t335.length co51)) (fun _ hk => hk.2) (.int .i64 t338)) (fun _ hk => ⟨hk.1.1.1, ⟨hk.1.1.2.1, ⟨hk.1.1.2.2.1, ⟨hk.1.1.2.2.2, hk.1.2⟩⟩⟩⟩)))⟩; have n1_ : Aside0 (Kd.R k33 33 w52 w.heap.size (fun k_ => (w.heap.size ≤ k_) ∧ k_ ≠ gb341) (.slice Ao51 t335.length co51) t335) := ⟨(by rw [hw]; exact (by (with_reducible repeat (first | apply Kd.R_alloc | apply Kd.R_drewN | apply Kd.R_drew)); exact Kd.R_mono (Kd.R_far (p := ⟨gb341, 5, none⟩) (Kd.R_far (p := ⟨gb341, 4, none⟩) (Kd.R_far (p := ⟨gb341, 3, none⟩) (Kd.R_far (p := ⟨gb341, 2, none⟩) (Kd.R_far (p := ⟨gb341, 1, none⟩) (Kd.R_far (p := ⟨gb341, 0, none⟩) (Kd.R_mono HO337.out (fun k_ hk => (⟨hk, hk.2⟩ : _ ∧ k_ ≠ gb341))) (fun _ hk => hk.2) (.int .i64 t329)) (fun _ hk => hk.2) (.string t330)) (fun _ hk => hk.2) (.bool t331)) (fun _ hk => hk.2) (.slice Ao50 t332.length co50)) (fun _ hk => hk.2) (.slice Ao51 t335.length co51)) (fun _ hk => hk.2) (.int .i64 t338)) (fun _ hk => ⟨hk.1.1.1, hk.1.2⟩)))⟩; have n2_ : Aside0 (w52.heap[gb318]? = some (.cells #[.int .i64 x319000_1, .string x319001_1, .int .i64 x319002_1, .string x319003_1, .bool x319004_1, .slice none 0 0, .slice none 0 0, .int .i64 x319007_1, .int .i64 x319008_1] 38 (0, 0))) := ⟨(by rw [hw]; exact (by (with_reducible repeat (first | refine blk_drewN ?_ _ | refine blk_drew ?_ | refine blk_alloc ?_ _)); refine blk_far ?_ NB318_341.out _; (with_reducible repeat (first | refine blk_drewN ?_ _ | refine blk_drew ?_ | refine blk_alloc ?_ _)); refine blk_far ?_ NB318_341.out _; (with_reducible repeat (first | refine blk_drewN ?_ _ | refine blk_drew ?_ | refine blk_alloc ?_ _)); refine blk_far ?_ NB318_341.out _; (with_reducible repeat (first | refine blk_drewN ?_ _ | refine blk_drew ?_ | refine blk_alloc ?_ _)); refine blk_far ?_ NB318_341.out _; (with_reducible repeat (first | refine blk_drewN ?_ _ | refine blk_drew ?_ | refine blk_alloc ?_ _)); refine blk_far ?_ NB318_341.out _; (with_reducible repeat (first | refine blk_drewN ?_ _ | refine blk_drew ?_ | refine blk_alloc ?_ _)); refine blk_far ?_ NB318_341.out _; (with_reducible repeat (first | refine blk_drewN ?_ _ | refine blk_drew ?_ | refine blk_alloc ?_ _)); exact BK318.out))⟩; have n3_ : Aside0 (w52.heap[gb341]? = some (.cells #[.int .i64 t329, .string t330, .bool t331, .slice Ao50 t332.length co50, .slice Ao51 t335.length co51, .int .i64 t338] 33 (0, 0))) := ⟨(by rw [hw]; exact (by (with_reducible repeat (first | refine blk_drewN ?_ _ | refine blk_drew ?_ | refine blk_alloc ?_ _)); refine blk_put (cs := #[.int .i64 t329, .string t330, .bool t331, .slice Ao50 t332.length co50, .slice Ao51 t335.length co51, .int .i64 0]) ?_ 5 _ rfl; (with_reducible repeat (first | refine blk_drewN ?_ _ | refine blk_drew ?_ | refine blk_alloc ?_ _)); refine blk_put (cs := #[.int .i64 t329, .string t330, .bool t331, .slice Ao50 t332.length co50, .slice none 0 0, .int .i64 0]) ?_ 4 _ rfl; (with_reducible repeat (first | refine blk_drewN ?_ _ | refine blk_drew ?_ | refine blk_alloc ?_ _)); refine blk_put (cs := #[.int .i64 t329, .string t330, .bool t331, .slice none 0 0, .slice none 0 0, .int .i64 0]) ?_ 3 _ rfl; (with_reducible repeat (first | refine blk_drewN ?_ _ | refine blk_drew ?_ | refine blk_alloc ?_ _)); refine blk_put (cs := #[.int .i64 t329, .string t330, .bool false, .slice none 0 0, .slice none 0 0, .int .i64 0]) ?_ 2 _ rfl; (with_reducible repeat (first | refine blk_drewN ?_ _ | refine blk_drew ?_ | refine blk_alloc ?_ _)); refine blk_put (cs := #[.int .i64 t329, .string (⟨#[]⟩ : ByteArray), .bool false, .slice none 0 0, .slice none 0 0, .int .i64 0]) ?_ 1 _ rfl; (with_reducible repeat (first | refine blk_drewN ?_ _ | refine blk_drew ?_ | refine blk_alloc ?_ _)); refine blk_put (cs := #[.int .i64 0, .string (⟨#[]⟩ : ByteArray), .bool false, .slice none 0 0, .slice none 0 0, .int .i64 0]) ?_ 0 _ rfl; (with_reducible repeat (first | refine blk_drewN ?_ _ | refine blk_drew ?_ | refine blk_alloc ?_ _)); exact BK341.out))⟩; have n4_ : Aside0 (IsS50 w0 w52 g s0_0 t340) := ⟨(by rw [hw]; exact (by repeat (first | (with_reducible first | exact HI0.out | apply IsS50.alloc | apply IsS50.drewN | apply IsS50.drew | apply IsS50.set_1 | refine IsS50.far ?_ NB0_318.out _ | refine IsS50.far ?_ NB0_341.out _) | exact HI0.out)))⟩; have n5_ : Aside0 (KeepBut w w52 g none) := ⟨(by rw [hw]; exact (by repeat (first | (with_reducible first | exact HK.out | apply KeepBut.set_ | apply keep_drewN | apply keep_drew | apply keep_alloc | refine keep_far ?_ GW318.out _ | refine keep_far ?_ GW341.out _) | exact HK.out)))⟩; have n6_ : Aside0 (Below w0.heap.size w0 w52) := ⟨(by rw [hw]; exact (by repeat (first | (with_reducible first | exact HB.out | apply below_alloc | apply pw_below_drewN | apply below_drew1 | refine below_set ?_ (IsS50.ge HI0.out) | refine below_set ?_ GE318.out | refine below_set ?_ GE341.out) | exact HB.out)))⟩; clear hw; clear HO334; clear HO337; clear BK318; clear BK341; clear HI0; clear HK; clear HB; have HO334 := n0_; have HO337 := n1_; have BK318 := n2_; have BK341 := n3_; have HI0 := n4_; have HK := n5_; have HB := n6_; clear n0_ n1_ n2_ n3_ n4_ n5_ n6_; have hcz53_0 : w52.cell? ⟨gb341, 0, none⟩ = some (.int .i64 t329) := (blk_cell BK341.out 0).trans rfl; have hcz53_1 : w52.cell? ⟨gb341, 1, none⟩ = some (.string t330) := (blk_cell BK341.out 1).trans rfl; have hcz53_2 : w52.cell? ⟨gb341, 2, none⟩ = some (.bool t331) := (blk_cell BK341.out 2).trans rfl; have hcz53_3 : w52.cell? ⟨gb341, 3, none⟩ = some (.slice Ao50 t332.length co50) := (blk_cell BK341.out 3).trans rfl; have hcz53_4 : w52.cell? ⟨gb341, 4, none⟩ = some (.slice Ao51 t335.length co51) := (blk_cell BK341.out 4).trans rfl; have hcz53_5 : w52.cell? ⟨gb341, 5, none⟩ = some (.int .i64 t338) := (blk_cell BK341.out 5).trans rfl; have hfz53_0 := blk_frozen BK341.out 0; have hfz53_1 := blk_frozen BK341.out 1; have hfz53_2 := blk_frozen BK341.out 2; have hfz53_3 := blk_frozen BK341.out 3; have hfz53_4 := blk_frozen BK341.out 4; have hfz53_5 := blk_frozen BK341.out 5; have hnb54 := NB318_0.out; have hnc54 := NB0_318.out; have hcz55_0 : w52.cell? ⟨gb318, 0, none⟩ = some (.int .i64 x319000_1) := (blk_cell BK318.out 0).trans rfl; have hcz55_1 : w52.cell? ⟨gb318, 1, none⟩ = some (.string x319001_1) := (blk_cell BK318.out 1).trans rfl; have hcz55_2 : w52.cell? ⟨gb318, 2, none⟩ = some (.int .i64 x319002_1) := (blk_cell BK318.out 2).trans rfl; have hcz55_3 : w52.cell? ⟨gb318, 3, none⟩ = some (.string x319003_1) := (blk_cell BK318.out 3).trans rfl; have hcz55_4 : w52.cell? ⟨gb318, 4, none⟩ = some (.bool x319004_1) := (blk_cell BK318.out 4).trans rfl; have hcz55_5 : w52.cell? ⟨gb318, 5, none⟩ = some (.slice none 0 0) := (blk_cell BK318.out 5).trans rfl; have hcz55_6 : w52.cell? ⟨gb318, 6, none⟩ = some (.slice none 0 0) := (blk_cell BK318.out 6).trans rfl; have hcz55_7 : w52.cell? ⟨gb318, 7, none⟩ = some (.int .i64 x319007_1) := (blk_cell BK318.out 7).trans rfl; have hcz55_8 : w52.cell? ⟨gb318, 8, none⟩ = some (.int .i64 x319008_1) := (blk_cell BK318.out 8).trans rfl; have hfz55_0 := blk_frozen BK318.out 0; have hfz55_1 := blk_frozen BK318.out 1; have hfz55_2 := blk_frozen BK318.out 2; have hfz55_3 := blk_frozen BK318.out 3; have hfz55_4 := blk_frozen BK318.out 4; have hfz55_5 := blk_frozen BK318.out 5; have hfz55_6 := blk_frozen BK318.out 6; have hfz55_7 := blk_frozen BK318.out 7; have hfz55_8 := blk_frozen BK318.out 8) | ((with_reducible refine gate_store (t := 38) (p := 2) rfl ?_); refine store_event (t := 38) (p := 2) (v := ?vo_w56) (w1 := ((((((((((w52.setCell ⟨gb341, 5, none⟩ (.int .i64 s0_1)).setCell ⟨gb318, 0, none⟩ (.int .i64 7)).setCell ⟨gb318, 1, none⟩ (.string (⟨#[]⟩ : ByteArray))).setCell ⟨gb318, 2, none⟩ (.int .i64 t329)).setCell ⟨gb318, 3, none⟩ (.string t330)).setCell ⟨gb318, 4, none⟩ (.bool t331)).setCell ⟨gb318, 5, none⟩ (.slice Ao50 t332.length co50)).setCell ⟨gb318, 6, none⟩ (.slice Ao51 t335.length co51)).setCell ⟨gb318, 7, none⟩ (.int .i64 s0_1)).setCell ⟨gb318, 8, none⟩ (.int .i64 s0_1))) ?hg ?ho ?hn ?hr ?_; (case ho => rfl); (case hg => rfl); (case hn => rfl); (case hr => first | (go_simp; done) | (go_simp; rfl)); intro w56 hw; have n0_ : Aside0 (Kd.V (Kd.int .u32) 73 w56 w.heap.size (fun k_ => (w.heap.size ≤ k_) ∧ some k_ ≠ (.slice Ao51 t335.length co51 : Value).ownBlock ∧ k_ ≠ gb318 ∧ k_ ≠ g ∧ k_ ≠ gb341) (.slice Ao50 t332.length co50) t332) := ⟨(by rw [hw]; exact (by (with_reducible repeat (first | apply Kd.V_alloc | apply Kd.V_drewN | apply Kd.V_drew)); exact Kd.V_mono (Kd.V_far (p := ⟨gb318, 8, none⟩) (Kd.V_far (p := ⟨gb318, 7, none⟩) (Kd.V_far (p := ⟨gb318, 6, none⟩) (Kd.V_far (p := ⟨gb318, 5, none⟩) (Kd.V_far (p := ⟨gb318, 4, none⟩) (Kd.V_far (p := ⟨gb318, 3, none⟩) (Kd.V_far (p := ⟨gb318, 2, none⟩) (Kd.V_far (p := ⟨gb318, 1, none⟩) (Kd.V_far (p := ⟨gb318, 0, none⟩) (Kd.V_far (p := ⟨gb341, 5, none⟩) (Kd.V_mono (Kd.V_mono HO334.out (fun k_ hk => (⟨hk, hk.2.2.2.2⟩ : _ ∧ k_ ≠ gb341))) (fun k_ hk => (⟨hk, hk.1.2.2.1⟩ : _ ∧ k_ ≠ gb318))) (fun _ hk => hk.1.2) (.int .i64 s0_1)) (fun _ hk => hk.2) (.int .i64 7)) (fun _ hk => hk.2) (.string (⟨#[]⟩ : ByteArray))) (fun _ hk => hk.2) (.int .i64 t329)) (fun _ hk => hk.2) (.string t330)) (fun _ hk => hk.2) (.bool t331)) (fun _ hk => hk.2) (.slice Ao50 t332.length co50)) (fun _ hk => hk.2) (.slice Ao51 t335.length co51)) (fun _ hk => hk.2) (.int .i64 s0_1)) (fun _ hk => hk.2) (.int .i64 s0_1)) (fun _ hk => ⟨hk.1.1.1, ⟨hk.1.1.2.1, ⟨hk.1.1.2.2.1, ⟨hk.1.1.2.2.2.1, hk.1.1.2.2.2.2⟩⟩⟩⟩)))⟩; have n1_ : Aside0 (Kd.R k33 33 w56 w.heap.size (fun k_ => (w.heap.size ≤ k_) ∧ k_ ≠ gb341) (.slice Ao51 t335.length co51) t335) := ⟨(by rw [hw]; exact (by (with_reducible repeat (first | apply Kd.R_alloc | apply Kd.R_drewN | apply Kd.R_drew)); exact Kd.R_mono (Kd.R_far (p := ⟨gb318, 8, none⟩) (Kd.R_far (p := ⟨gb318, 7, none⟩) (Kd.R_far (p := ⟨gb318, 6, none⟩) (Kd.R_far (p := ⟨gb318, 5, none⟩) (Kd.R_far (p := ⟨gb318, 4, none⟩) (Kd.R_far (p := ⟨gb318, 3, none⟩) (Kd.R_far (p := ⟨gb318, 2, none⟩) (Kd.R_far (p := ⟨gb318, 1, none⟩) (Kd.R_far (p := ⟨gb318, 0, none⟩) (Kd.R_far (p := ⟨gb341, 5, none⟩) (Kd.R_types (Kd.R_mono HO337.out (fun k_ hk => (⟨hk, hk.2⟩ : _ ∧ k_ ≠ gb341))) BK318.out (by decide)) (fun _ hk => hk.1.2) (.int .i64 s0_1)) (fun _ hk => hk.2) (.int .i64 7)) (fun _ hk => hk.2) (.string (⟨#[]⟩ : ByteArray))) (fun _ hk => hk.2) (.int .i64 t329)) (fun _ hk => hk.2) (.string t330)) (fun _ hk => hk.2) (.bool t331)) (fun _ hk => hk.2) (.slice Ao50 t332.length co50)) (fun _ hk => hk.2) (.slice Ao51 t335.length co51)) (fun _ hk => hk.2) (.int .i64 s0_1)) (fun _ hk => hk.2) (.int .i64 s0_1)) (fun _ hk => ⟨hk.1.1.1, hk.1.1.2⟩)))⟩; have n2_ : Aside0 (w56.heap[gb318]? = some (.cells #[.int .i64 7, .string (⟨#[]⟩ : ByteArray), .int .i64 t329, .string t330, .bool t331, .slice Ao50 t332.length co50, .slice Ao51 t335.length co51, .int .i64 s0_1, .int .i64 s0_1] 38 (0, 0))) := ⟨(by rw [hw]; exact (by (with_reducible repeat (first | refine blk_drewN ?_ _ | refine blk_drew ?_ | refine blk_alloc ?_ _)); refine blk_put (cs := #[.int .i64 7, .string (⟨#[]⟩ : ByteArray), .int .i64 t329, .string t330, .bool t331, .slice Ao50 t332.length co50, .slice Ao51 t335.length co51, .int .i64 s0_1, .int .i64 x319008_1]) ?_ 8 _ rfl; (with_reducible repeat (first | refine blk_drewN ?_ _ | refine blk_drew ?_ | refine blk_alloc ?_ _)); refine blk_put (cs := #[.int .i64 7, .string (⟨#[]⟩ : ByteArray), .int .i64 t329, .string t330, .bool t331, .slice Ao50 t332.length co50, .slice Ao51 t335.length co51, .int .i64 x319007_1, .int .i64 x319008_1]) ?_ 7 _ rfl; (with_reducible repeat (first | refine blk_drewN ?_ _ | refine blk_drew ?_ | refine blk_alloc ?_ _)); refine blk_put (cs := #[.int .i64 7, .string (⟨#[]⟩ : ByteArray), .int .i64 t329, .string t330, .bool t331, .slice Ao50 t332.length co50, .slice none 0 0, .int .i64 x319007_1, .int .i64 x319008_1]) ?_ 6 _ rfl; (with_reducible repeat (first | refine blk_drewN ?_ _ | refine blk_drew ?_ | refine blk_alloc ?_ _)); refine blk_put (cs := #[.int .i64 7, .string (⟨#[]⟩ : ByteArray), .int .i64 t329, .string t330, .bool t331, .slice none 0 0, .slice none 0 0, .int .i64 x319007_1, .int .i64 x319008_1]) ?_ 5 _ rfl; (with_reducible repeat (first | refine blk_drewN ?_ _ | refine blk_drew ?_ | refine blk_alloc ?_ _)); refine blk_put (cs := #[.int .i64 7, .string (⟨#[]⟩ : ByteArray), .int .i64 t329, .string t330, .bool x319004_1, .slice none 0 0, .slice none 0 0, .int .i64 x319007_1, .int .i64 x319008_1]) ?_ 4 _ rfl; (with_reducible repeat (first | refine blk_drewN ?_ _ | refine blk_drew ?_ | refine blk_alloc ?_ _)); refine blk_put (cs := #[.int .i64 7, .string (⟨#[]⟩ : ByteArray), .int .i64 t329, .string x319003_1, .bool x319004_1, .slice none 0 0, .slice none 0 0, .int .i64 x319007_1, .int .i64 x319008_1]) ?_ 3 _ rfl; (with_reducible repeat (first | refine blk_drewN ?_ _ | refine blk_drew ?_ | refine blk_alloc ?_ _)); refine blk_put (cs := #[.int .i64 7, .string (⟨#[]⟩ : ByteArray), .int .i64 x319002_1, .string x319003_1, .bool x319004_1, .slice none 0 0, .slice none 0 0, .int .i64 x319007_1, .int .i64 x319008_1]) ?_ 2 _ rfl; (with_reducible repeat (first | refine blk_drewN ?_ _ | refine blk_drew ?_ | refine blk_alloc ?_ _)); refine blk_put (cs := #[.int .i64 7, .string x319001_1, .int .i64 x319002_1, .string x319003_1, .bool x319004_1, .slice none 0 0, .slice none 0 0, .int .i64 x319007_1, .int .i64 x319008_1]) ?_ 1 _ rfl; (with_reducible repeat (first | refine blk_drewN ?_ _ | refine blk_drew ?_ | refine blk_alloc ?_ _)); refine blk_put (cs := #[.int .i64 x319000_1, .string x319001_1, .int .i64 x319002_1, .string x319003_1, .bool x319004_1, .slice none 0 0, .slice none 0 0, .int .i64 x319007_1, .int .i64 x319008_1]) ?_ 0 _ rfl; (with_reducible repeat (first | refine blk_drewN ?_ _ | refine blk_drew ?_ | refine blk_alloc ?_ _)); refine blk_far ?_ NB318_341.out _; (with_reducible repeat (first | refine blk_drewN ?_ _ | refine blk_drew ?_ | refine blk_alloc ?_ _)); exact BK318.out))⟩; have n3_ : Aside0 (w56.heap[gb341]? = some (.cells #[.int .i64 t329, .string t330, .bool t331, .slice Ao50 t332.length co50, .slice Ao51 t335.length co51, .int .i64 s0_1] 33 (0, 0))) := ⟨(by rw [hw]; exact (by (with_reducible repeat (first | refine blk_drewN ?_ _ | refine blk_drew ?_ | refine blk_alloc ?_ _)); refine blk_far ?_ NB341_318.out _; (with_reducible repeat (first | refine blk_drewN ?_ _ | refine blk_drew ?_ | refine blk_alloc ?_ _)); refine blk_far ?_ NB341_318.out _; (with_reducible repeat (first | refine blk_drewN ?_ _ | refine blk_drew ?_ | refine blk_alloc ?_ _)); refine blk_far ?_ NB341_318.out _; (with_reducible repeat (first | refine blk_drewN ?_ _ | refine blk_drew ?_ | refine blk_alloc ?_ _)); refine blk_far ?_ NB341_318.out _; (with_reducible repeat (first | refine blk_drewN ?_ _ | refine blk_drew ?_ | refine blk_alloc ?_ _)); refine blk_far ?_ NB341_318.out _; (with_reducible repeat (first | refine blk_drewN ?_ _ | refine blk_drew ?_ | refine blk_alloc ?_ _)); refine blk_far ?_ NB341_318.out _; (with_reducible repeat (first | refine blk_drewN ?_ _ | refine blk_drew ?_ | refine blk_alloc ?_ _)); refine blk_far ?_ NB341_318.out _; (with_reducible repeat (first | refine blk_drewN ?_ _ | refine blk_drew ?_ | refine blk_alloc ?_ _)); refine blk_far ?_ NB341_318.out _; (with_reducible repeat (first | refine blk_drewN ?_ _ | refine blk_drew ?_ | refine blk_alloc ?_ _)); refine blk_far ?_ NB341_318.out _; (with_reducible repeat (first | refine blk_drewN ?_ _ | refine blk_drew ?_ | refine blk_alloc ?_ _)); refine blk_put (cs := #[.int .i64 t329, .string t330, .bool t331, .slice Ao50 t332.length co50, .slice Ao51 t335.length co51, .int .i64 t338]) ?_ 5 _ rfl; (with_reducible repeat (first | refine blk_drewN ?_ _ | refine blk_drew ?_ | refine blk_alloc ?_ _)); exact BK341.out))⟩; have n4_ : Aside0 (IsS50 w0 w56 g s0_0 t340) := ⟨(by rw [hw]; exact (by repeat (first | (with_reducible first | exact HI0.out | apply IsS50.alloc | apply IsS50.drewN | apply IsS50.drew | apply IsS50.set_1 | refine IsS50.far ?_ NB0_318.out _ | refine IsS50.far ?_ NB0_341.out _) | exact HI0.out)))⟩; have n5_ : Aside0 (KeepBut w w56 g none) := ⟨(by rw [hw]; exact (by repeat (first | (with_reducible first | exact HK.out | apply KeepBut.set_ | apply keep_drewN | apply keep_drew | apply keep_alloc | refine keep_far ?_ GW318.out _ | refine keep_far ?_ GW341.out _) | exact HK.out)))⟩; have n6_ : Aside0 (Below w0.heap.size w0 w56) := ⟨(by rw [hw]; exact (by repeat (first | (with_reducible first | exact HB.out | apply below_alloc | apply pw_below_drewN | apply below_drew1 | refine below_set ?_ (IsS50.ge HI0.out) | refine below_set ?_ GE318.out | refine below_set ?_ GE341.out) | exact HB.out)))⟩; clear hw; clear HO334; clear HO337; clear BK318; clear BK341; clear HI0; clear HK; clear HB; have HO334 := n0_; have HO337 := n1_; have BK318 := n2_; have BK341 := n3_; have HI0 := n4_; have HK := n5_; have HB := n6_; clear n0_ n1_ n2_ n3_ n4_ n5_ n6_))
        refine bodyPost_ret (results_cell_row rfl _ _ gb318 38 #[.int .i64 7, .string (⟨#[]⟩ : ByteArray), .int .i64 t329, .string t330, .bool t331, .slice Ao50 t332.length co50, .slice Ao51 t335.length co51, .int .i64 s0_1, .int .i64 s0_1] (0, 0) _ rfl (by (with_reducible repeat (first | refine blk_drewN ?_ _ | refine blk_drew ?_ | refine blk_alloc ?_ _)); exact BK318.out) Tryd.underlying38 rfl (by kernel_rfl)) rfl ?_
        exact ⟨_, _, by first | rfl | (simp [errW_none, errW_some] <;> rfl) | (simp [*, errW_none, errW_some] <;> rfl), by (with_reducible repeat (first | apply Kd.V_alloc | apply Kd.V_drewN | apply Kd.V_drew)); exact Kd.V_mono HO334.out (fun _ hk => ⟨hk.1, hk.2.1⟩), by (with_reducible repeat (first | apply Kd.R_alloc | apply Kd.R_drewN | apply Kd.R_drew)); exact Kd.R_mono HO337.out (fun _ hk => hk.1), by repeat (first | (with_reducible first | exact HI0.out | apply IsS50.alloc | apply IsS50.drewN | apply IsS50.drew | apply IsS50.set_1 | refine IsS50.far ?_ NB0_318.out _ | refine IsS50.far ?_ NB0_341.out _) | exact HI0.out), by repeat (first | (with_reducible first | exact HB.out | apply below_alloc | apply pw_below_drewN | apply below_drew1 | refine below_set ?_ (IsS50.ge HI0.out) | refine below_set ?_ GE318.out | refine below_set ?_ GE341.out) | exact HB.out), by repeat (first | (with_reducible first | exact HK.out | apply KeepBut.set_ | apply keep_drewN | apply keep_drew | apply keep_alloc | refine keep_far ?_ GW318.out _ | refine keep_far ?_ GW341.out _) | exact HK.out)⟩
       ·replace c44 := Bool.eq_false_iff.mpr c44
        subst c44
        have H1 : (none) = some (r1, r2, r3, r4, r5, r6, r7, r8, r9, r10) := by rw [if_neg (show ¬ (false = true) by decide)] at H; exact H
        clear H
        have H := H1
        clear H1
        exact absurd H (by simp)
end Go.Proofs.YtefefpkgiecikaaDoor.P
namespace Go.Proofs.YtefefpkgiecikaaDoor.P
open Go.RowKit Go.Proofs.YtefefpkgiecikaaDoorW.PrintWords Go.Proofs.YtefefpkgiecikaaDoorW.PrintLast Go.Proofs.YtefefpkgiecikaaDoorW.PrintMore
attribute [local go_sem] max2_int min2_int max_two min_two max_three min_three max_four min_four
set_option linter.unusedVariables false
set_option linter.unusedSimpArgs false
def token_Scan_1.f (k : Nat) (a0 : Int) : Option (Bool) := (utf_Scalar.f k a0).bind fun t366 => (some (!t366))
theorem token_Scan_1.mono : ∀ a0 k, LeO (token_Scan_1.f k a0) (token_Scan_1.f (k + 1) a0) := by
 intro a0 k
 unfold token_Scan_1.f
 repeat' first
   | (with_reducible exact utf_Scalar.mono _ _)
   | (with_reducible exact LeO.refl _)
   | (with_reducible exact LeO.none _)
   | (with_reducible refine LeO.ite ?_ ?_)
   | (with_reducible refine LeO.bind ?_ (fun _ => ?_))
   | exact utf_Scalar.mono _ _
   | exact LeO.none _
   | refine LeO.ite ?_ ?_
   | refine LeO.bind ?_ (fun _ => ?_)
set_option maxHeartbeats 8000000 in
set_option maxRecDepth 100000 in
theorem token_Scan_1.calls (k : Nat) (a0 : Int) (r : Bool) (w : World) (h : token_Scan_1.f k a0 = some r) :
  Calls Tryd.prog 10 #[.int .i64 a0] w fun e w' => e = .returned (.bool r) ∧ Drawn0 w w' := by
 have H : ((utf_Scalar.f k a0).bind fun t366 => (some (!t366))) = some r := h
 clear h
 replace H := Option.bind_eq_some_iff.mp H
 obtain ⟨t366, A20, H⟩ := H
 replace H : (some (!t366)) = some r := H
 have A2 := Aside0.mk A20
 clear A20
 obtain rfl := Option.some.inj H
 go_enter Tryd.func10, Tryd.ntmps10
 go_wp2_with (first | ((with_reducible refine gate_callee (f := 11) rfl ?_); refine goesL_ (some 4) rfl rfl Tryd.func11 (by kernel_rfl) rfl #[.int .i64 a0] rfl (by (try simp only [List.map_toArray, List.map_cons, List.map_nil]); first | done | rfl | (simp only [List.length_drop, List.length_take]; rfl)) ?_; (with_reducible refine (utf_Scalar.calls k a0 t366 _ A2.out).mono ?_); rintro e w' ⟨rfl, ⟨nd, rfl⟩⟩; refine ⟨_, rfl, ?_⟩))
 go_ret
 exact ⟨by first | rfl | (simp; done) | (simp [*]; done), by repeat (first | exact Drawn0.refl _ | apply Drawn0.step)⟩
end Go.Proofs.YtefefpkgiecikaaDoor.P
namespace Go.Proofs.YtefefpkgiecikaaDoor.P
open Go.RowKit Go.Proofs.YtefefpkgiecikaaDoorW.PrintWords Go.Proofs.YtefefpkgiecikaaDoorW.PrintLast Go.Proofs.YtefefpkgiecikaaDoorW.PrintMore
attribute [local go_sem] max2_int min2_int max_two min_two max_three min_three max_four min_four
set_option linter.unusedVariables false
set_option linter.unusedSimpArgs false
def slices_IndexFunc_int_int_token_Scan_1.l0 : Nat → List Int → Int → Int → Option (Int)
 | 0, _, _, _ => none
 | k + 1, x0, x7, x8 => if x8 < x7 then (if 0 ≤ x8 then (if x8 < (x0.length : Int) then ((token_Scan_1.f k (rd x0 x8)).bind fun t368 => (if t368 = true then (some x8) else (slices_IndexFunc_int_int_token_Scan_1.l0 k x0 x7 (wrap64 (x8 + 1))))) else (none)) else (none)) else (some (-1))
def slices_IndexFunc_int_int_token_Scan_1.f (k : Nat) (l0 : List Int)  : Option (Int) := slices_IndexFunc_int_int_token_Scan_1.l0 k l0 (l0.length : Int) 0
theorem slices_IndexFunc_int_int_token_Scan_1.mono_l : ∀ k, (∀ y0 y1 y2, LeO (slices_IndexFunc_int_int_token_Scan_1.l0 k y0 y1 y2) (slices_IndexFunc_int_int_token_Scan_1.l0 (k + 1) y0 y1 y2))
 | 0 => fun _ _ _ r h => by simp [slices_IndexFunc_int_int_token_Scan_1.l0] at h
 | k + 1 => by
  have ih0 := slices_IndexFunc_int_int_token_Scan_1.mono_l k
  ·intro y0 y1 y2
   unfold slices_IndexFunc_int_int_token_Scan_1.l0
   repeat' first
   | (with_reducible exact ih0 _ _ _)
   | (with_reducible exact token_Scan_1.mono _ _)
   | (with_reducible exact LeO.refl _)
   | (with_reducible exact LeO.none _)
   | (with_reducible refine LeO.ite ?_ ?_)
   | (with_reducible refine LeO.bind ?_ (fun _ => ?_))
   | exact ih0 _ _ _
   | exact token_Scan_1.mono _ _
   | exact LeO.none _
   | refine LeO.ite ?_ ?_
   | refine LeO.bind ?_ (fun _ => ?_)
theorem slices_IndexFunc_int_int_token_Scan_1.mono : ∀ a0 k, LeO (slices_IndexFunc_int_int_token_Scan_1.f k a0) (slices_IndexFunc_int_int_token_Scan_1.f (k + 1) a0) := by
 intro a0 k
 have ih0 := slices_IndexFunc_int_int_token_Scan_1.mono_l k
 unfold slices_IndexFunc_int_int_token_Scan_1.f
 repeat' first
   | (with_reducible exact ih0 _ _ _)
   | (with_reducible exact token_Scan_1.mono _ _)
   | (with_reducible exact LeO.refl _)
   | (with_reducible exact LeO.none _)
   | (with_reducible refine LeO.ite ?_ ?_)
   | (with_reducible refine LeO.bind ?_ (fun _ => ?_))
   | exact ih0 _ _ _
   | exact token_Scan_1.mono _ _
   | exact LeO.none _
   | refine LeO.ite ?_ ?_
   | refine LeO.bind ?_ (fun _ => ?_)
set_option maxHeartbeats 8000000 in
set_option maxRecDepth 100000 in
theorem slices_IndexFunc_int_int_token_Scan_1.calls (k : Nat) (A0 : Option Addr) (c0 : Nat) (l0 : List Int)  (r : Int) (w : World) (hr0 : Kd.C (Kd.int .i64) w A0 l0.length l0) (hc0 : l0.length ≤ c0) (h : slices_IndexFunc_int_int_token_Scan_1.f k l0 = some r) :
  Calls Tryd.prog 9 #[.slice A0 l0.length c0, .func (.func 10) #[] #[]] w fun e w' => e = .returned (.int .i64 r) ∧ Drawn0 w w' := by
 have HR0 := Aside0.mk hr0
 have HC0 := Aside0.mk hc0
 clear hr0 hc0
 have H : (slices_IndexFunc_int_int_token_Scan_1.l0 k l0 (l0.length : Int) 0) = some r := h
 clear h
 have H' := Aside0.mk H
 clear H
 go_enter Tryd.func9, Tryd.ntmps9
 go_wp2
 go_loopg [8] k (fun kq v8 w' => ∃ (x8_1 : Int), v8 = .int .i64 x8_1 ∧ Aside0 (slices_IndexFunc_int_int_token_Scan_1.l0 kq l0 (l0.length : Int) x8_1 = some r) ∧ Aside0 (kq ≤ k) ∧ Drawn0 w w')
 case atStart => exact ⟨(0), (by first | rfl | (simp; done) | (simp [*]; done)), H', ⟨Nat.le_refl _⟩, by repeat (first | exact Drawn0.refl _ | apply Drawn0.step)⟩
 case round =>
  clear H'
  try clear p2
  obtain ⟨x8_1, rfl, HA, HK1, ⟨m1, rfl⟩⟩ := hrel
  cases gk with
  | zero => exact absurd HA.out (by simp [slices_IndexFunc_int_int_token_Scan_1.l0])
  | succ k1 =>
   have H := HA.out
   clear HA
   simp only [slices_IndexFunc_int_int_token_Scan_1.l0] at H
   by_cases c3 : x8_1 < (l0.length : Int)
   ·rw [if_pos c3] at H
    have c3b0 : decide (x8_1 < (l0.length : Int)) = true := decide_eq_true c3
    clear c3
    by_cases c4 : 0 ≤ x8_1
    ·rw [if_pos c4] at H
     have c4b0 : decide (0 ≤ x8_1) = true := decide_eq_true c4
     clear c4
     by_cases c5 : x8_1 < (l0.length : Int)
     ·rw [if_pos c5] at H
      have c5b0 : decide (x8_1 < (l0.length : Int)) = true := decide_eq_true c5
      clear c5
      replace H := Option.bind_eq_some_iff.mp H
      obtain ⟨t368, A60, H⟩ := H
      replace H : (if t368 = true then (some x8_1) else (slices_IndexFunc_int_int_token_Scan_1.l0 k1 l0 (l0.length : Int) (wrap64 (x8_1 + 1)))) = some r := H
      have A6 := Aside0.mk A60
      clear A60
      by_cases c7 : t368 = true
      ·subst c7
       have H1 : (some x8_1) = some r := by rw [if_pos rfl] at H; exact H
       clear H
       have H := H1
       clear H1
       obtain rfl := Option.some.inj H
       have p367 : 0 ≤ (x8_1 : Int) := of_decide_eq_true (by first | (with_reducible assumption) | assumption)
       have q367 : x8_1 < (l0.length : Int) := of_decide_eq_true (by first | (with_reducible assumption) | assumption)
       obtain ⟨ad367, e367, hx367_0⟩ := Kd.at_int HR0.out x8_1 p367 q367
       cases e367
       replace p367 := eq_true p367
       replace q367 := eq_true q367
       go_wp2_with (first | (go_at_call 10; (with_reducible refine (token_Scan_1.calls k1 (rd l0 x8_1) true _ A6.out).mono ?_); rintro e w' ⟨rfl, ⟨nd, rfl⟩⟩))
       go_ret
       exact ⟨by first | rfl | (simp; done) | (simp [*]; done), by repeat (first | exact Drawn0.refl _ | apply Drawn0.step)⟩
      ·replace c7 := Bool.eq_false_iff.mpr c7
       subst c7
       have H1 : (slices_IndexFunc_int_int_token_Scan_1.l0 k1 l0 (l0.length : Int) (wrap64 (x8_1 + 1))) = some r := by rw [if_neg (show ¬ (false = true) by decide)] at H; exact H
       clear H
       have H := H1
       clear H1
       have H' := Aside0.mk H
       clear H
       have p367 : 0 ≤ (x8_1 : Int) := of_decide_eq_true (by first | (with_reducible assumption) | assumption)
       have q367 : x8_1 < (l0.length : Int) := of_decide_eq_true (by first | (with_reducible assumption) | assumption)
       obtain ⟨ad367, e367, hx367_0⟩ := Kd.at_int HR0.out x8_1 p367 q367
       cases e367
       replace p367 := eq_true p367
       replace q367 := eq_true q367
       go_wp2_with (first | (go_at_call 10; (with_reducible refine (token_Scan_1.calls k1 (rd l0 x8_1) false _ A6.out).mono ?_); rintro e w' ⟨rfl, ⟨nd, rfl⟩⟩))
       go_roundg k1
       case measure => have := HK1.out; omega
       case rel => exact ⟨(wrap64 (x8_1 + 1)), (by first | rfl | (simp; done) | (simp [*]; done)), H', ⟨by have := HK1.out; omega⟩, by repeat (first | exact Drawn0.refl _ | apply Drawn0.step)⟩
     ·rw [if_neg c5] at H
      exact absurd H (by simp)
    ·rw [if_neg c4] at H
     exact absurd H (by simp)
   ·rw [if_neg c3] at H
    have c3b0 : decide (x8_1 < (l0.length : Int)) = false := decide_eq_false c3
    clear c3
    obtain rfl := Option.some.inj H
    go_wp2
    go_ret
    exact ⟨by first | rfl | (simp; done) | (simp [*]; done), by repeat (first | exact Drawn0.refl _ | apply Drawn0.step)⟩
end Go.Proofs.YtefefpkgiecikaaDoor.P
namespace Go.Proofs.YtefefpkgiecikaaDoor.P
open Go.RowKit Go.Proofs.YtefefpkgiecikaaDoorW.PrintWords Go.Proofs.YtefefpkgiecikaaDoorW.PrintLast Go.Proofs.YtefefpkgiecikaaDoorW.PrintMore
attribute [local go_sem] max2_int min2_int max_two min_two max_three min_three max_four min_four
set_option linter.unusedVariables false
set_option linter.unusedSimpArgs false
def token_Scan.l0 : Nat → List (S38) → List Int → Int → Option ((List (S38)) × Int × Int)
 | 0, _, _, _ => none
 | k + 1, x367000, x371000, x371001 => (token_scanner_left.f x371000 x371001 1).bind fun bt372 => (if bt372.1 = true then ((token_scanner_next.f k x371000 bt372.2).bind fun bt374 => (if x367000.length < 1172812402961 then ((token_scanner_blanks.f k x371000 bt374.2.2.2.2.2.2.2.2.2).bind fun t391 => (token_Scan.l0 k (x367000 ++ [(⟨bt374.1, bt374.2.1, (⟨bt374.2.2.1, bt374.2.2.2.1, (⟨bt374.2.2.2.2.1, bt374.2.2.2.2.2.1⟩ : S30), bt374.2.2.2.2.2.2.1, bt374.2.2.2.2.2.2.2.1⟩ : S33), bt374.2.2.2.2.2.2.2.2.1⟩ : S38)]) x371000 t391)) else (none))) else (some (x367000, 0, 0)))
def token_Scan.f (k : Nat) (l0 : List Int) : Option ((List (S38)) × Int × Int) := (slices_IndexFunc_int_int_token_Scan_1.f k l0).bind fun t369 => (if t369 ≥ 0 then (some (([] : List (S38)), t369, 1)) else ((token_scanner_blanks.f k l0 0).bind fun t371 => (token_Scan.l0 k ([] : List (S38)) l0 t371)))
theorem token_Scan.mono_l : ∀ k, (∀ y0 y1 y2, LeO (token_Scan.l0 k y0 y1 y2) (token_Scan.l0 (k + 1) y0 y1 y2))
 | 0 => fun _ _ _ r h => by simp [token_Scan.l0] at h
 | k + 1 => by
  have ih0 := token_Scan.mono_l k
  ·intro y0 y1 y2
   unfold token_Scan.l0
   repeat' first
   | (with_reducible exact ih0 _ _ _)
   | (with_reducible exact slices_IndexFunc_int_int_token_Scan_1.mono _ _)
   | (with_reducible exact token_scanner_blanks.mono _ _ _)
   | (with_reducible exact token_scanner_next.mono _ _ _)
   | (with_reducible exact LeO.refl _)
   | (with_reducible exact LeO.none _)
   | (with_reducible refine LeO.ite ?_ ?_)
   | (with_reducible refine LeO.bind ?_ (fun _ => ?_))
   | exact ih0 _ _ _
   | exact slices_IndexFunc_int_int_token_Scan_1.mono _ _
   | exact token_scanner_blanks.mono _ _ _
   | exact token_scanner_next.mono _ _ _
   | exact LeO.none _
   | refine LeO.ite ?_ ?_
   | refine LeO.bind ?_ (fun _ => ?_)
theorem token_Scan.mono : ∀ a0 k, LeO (token_Scan.f k a0) (token_Scan.f (k + 1) a0) := by
 intro a0 k
 have ih0 := token_Scan.mono_l k
 unfold token_Scan.f
 repeat' first
   | (with_reducible exact ih0 _ _ _)
   | (with_reducible exact slices_IndexFunc_int_int_token_Scan_1.mono _ _)
   | (with_reducible exact token_scanner_blanks.mono _ _ _)
   | (with_reducible exact token_scanner_next.mono _ _ _)
   | (with_reducible exact LeO.refl _)
   | (with_reducible exact LeO.none _)
   | (with_reducible refine LeO.ite ?_ ?_)
   | (with_reducible refine LeO.bind ?_ (fun _ => ?_))
   | exact ih0 _ _ _
   | exact slices_IndexFunc_int_int_token_Scan_1.mono _ _
   | exact token_scanner_blanks.mono _ _ _
   | exact token_scanner_next.mono _ _ _
   | exact LeO.none _
   | refine LeO.ite ?_ ?_
   | refine LeO.bind ?_ (fun _ => ?_)
set_option maxHeartbeats 8000000 in
set_option maxRecDepth 100000 in
theorem token_Scan.calls (k : Nat) (A0 : Option Addr) (c0 : Nat) (l0 : List Int) (r1 : List (S38)) (r2 : Int) (r3 : Int) (w : World) (hLD : LD w) (hr0 : Kd.C (Kd.int .i64) w A0 l0.length l0) (hc0 : l0.length ≤ c0) (h : token_Scan.f k l0 = some (r1, r2, r3)) :
  Calls Tryd.prog 5 #[.slice A0 l0.length c0] w fun e w' => ∃ v0_ : Value, e = .returned (.tuple #[v0_, .int .i64 r2, .int .i64 r3]) ∧ Kd.N k38 38 w' w.heap.size (fun k_ => (w.heap.size ≤ k_)) v0_ r1 ∧ Below w.heap.size w w' := by
 have hu50 := Tryd.underlying50
 have HR0 := Aside0.mk hr0
 have HC0 := Aside0.mk hc0
 clear hr0 hc0
 have HLD := Aside0.mk hLD
 clear hLD
 have HB := Aside0.mk (Below.refl w.heap.size w)
 have H : ((slices_IndexFunc_int_int_token_Scan_1.f k l0).bind fun t369 => (if t369 ≥ 0 then (some (([] : List (S38)), t369, 1)) else ((token_scanner_blanks.f k l0 0).bind fun t371 => (token_Scan.l0 k ([] : List (S38)) l0 t371)))) = some (r1, r2, r3) := h
 clear h
 replace H := Option.bind_eq_some_iff.mp H
 obtain ⟨t369, A20, H⟩ := H
 replace H : (if t369 ≥ 0 then (some (([] : List (S38)), t369, 1)) else ((token_scanner_blanks.f k l0 0).bind fun t371 => (token_Scan.l0 k ([] : List (S38)) l0 t371))) = some (r1, r2, r3) := H
 have A2 := Aside0.mk A20
 clear A20
 by_cases c3 : t369 ≥ 0
 ·rw [if_pos c3] at H
  have c3b0 : decide (0 ≤ t369) = true := decide_eq_true c3
  clear c3
  simp only [Option.some.injEq, Prod.mk.injEq] at H
  obtain ⟨rfl, rfl, rfl⟩ := H
  have hmf : ∀ (fn : Fn) (first cap : Array Value) (w : World), (Instr.makeFunc fn first cap).run Tryd.prog w = .ok (.func fn first cap) w := fun _ _ _ _ => rfl
  go_enter_defers Tryd.func5, Tryd.ntmps5
  go_wp2_with (first | ((with_reducible refine gate_dst (N := 2) rfl ?_); refine box_event ?hg (N := 2) ?hd (cs := #[.slice none 0 0]) (t := 23) ?hr ?_; (case hd => rfl); (case hg => rfl); (case hr => first | (go_simp; done) | (go_simp; rfl)); intro gb366 hg w4 hbox hb; have n0_ := Aside0.mk (below_step (by repeat (first | (with_reducible first | exact HB.out | apply below_alloc | apply pw_below_drewN | apply below_drew1) | exact HB.out)) hb); have n1_ := Aside0.mk (hbox); have n2_ := Aside0.mk ((by rw [hg]; exact (below_size (by repeat (first | (with_reducible first | exact HB.out | apply below_alloc | apply pw_below_drewN | apply below_drew1) | exact HB.out))) : w.heap.size ≤ gb366)); have n3_ := Aside0.mk ((by rw [hg]; exact (below_size (by repeat (first | (with_reducible first | exact HB.out | apply below_alloc | apply pw_below_drewN | apply below_drew1) | exact HB.out))) : w.heap.size ≤ gb366)); clear HB; have HB := n0_; have BK366 := n1_; have GW366 := n2_; have GE366 := n3_; clear n0_ n1_ n2_ n3_; clear hb hbox hg) | ((with_reducible refine gate_dst (N := 3) rfl ?_); refine box_event ?hg (N := 3) ?hd (cs := #[.int .i64 0]) (t := 3) ?hr ?_; (case hd => rfl); (case hg => rfl); (case hr => first | (go_simp; done) | (go_simp; rfl)); intro gb367 hg w5 hbox hb; have n0_ := Aside0.mk (blk_below (g := gb366) (o := .cells #[.slice none 0 0] 23 (0, 0)) (by (with_reducible repeat (first | refine blk_drewN ?_ _ | refine blk_drew ?_ | refine blk_alloc ?_ _)); exact BK366.out) hb); have n1_ := Aside0.mk (below_step (by repeat (first | (with_reducible first | exact HB.out | apply below_alloc | apply pw_below_drewN | apply below_drew1 | refine below_set ?_ GE366.out) | exact HB.out)) hb); have n2_ := Aside0.mk (hbox); have n3_ := Aside0.mk ((by rw [hg]; exact (below_size (by repeat (first | (with_reducible first | exact HB.out | apply below_alloc | apply pw_below_drewN | apply below_drew1 | refine below_set ?_ GE366.out) | exact HB.out))) : w.heap.size ≤ gb367)); have n4_ := Aside0.mk ((by rw [hg]; exact (below_size (by repeat (first | (with_reducible first | exact HB.out | apply below_alloc | apply pw_below_drewN | apply below_drew1 | refine below_set ?_ GE366.out) | exact HB.out))) : w.heap.size ≤ gb367)); have n5_ := Aside0.mk ((by rw [hg]; exact Nat.ne_of_lt (blk_lt (g := gb366) (o := .cells #[.slice none 0 0] 23 (0, 0)) (by (with_reducible repeat (first | refine blk_drewN ?_ _ | refine blk_drew ?_ | refine blk_alloc ?_ _)); exact BK366.out)) : gb366 ≠ gb367)); have n6_ := Aside0.mk ((by rw [hg]; exact Nat.ne_of_gt (blk_lt (g := gb366) (o := .cells #[.slice none 0 0] 23 (0, 0)) (by (with_reducible repeat (first | refine blk_drewN ?_ _ | refine blk_drew ?_ | refine blk_alloc ?_ _)); exact BK366.out)) : gb367 ≠ gb366)); clear BK366; clear HB; have BK366 := n0_; have HB := n1_; have BK367 := n2_; have GW367 := n3_; have GE367 := n4_; have NB366_367 := n5_; have NB367_366 := n6_; clear n0_ n1_ n2_ n3_ n4_ n5_ n6_; clear hb hbox hg) | ((with_reducible refine gate_dst (N := 4) rfl ?_); refine box_event ?hg (N := 4) ?hd (cs := #[.int .i64 0]) (t := 24) ?hr ?_; (case hd => rfl); (case hg => rfl); (case hr => first | (go_simp; done) | (go_simp; rfl)); intro gb368 hg w6 hbox hb; have n0_ := Aside0.mk (blk_below (g := gb366) (o := .cells #[.slice none 0 0] 23 (0, 0)) (by (with_reducible repeat (first | refine blk_drewN ?_ _ | refine blk_drew ?_ | refine blk_alloc ?_ _)); exact BK366.out) hb); have n1_ := Aside0.mk (blk_below (g := gb367) (o := .cells #[.int .i64 0] 3 (0, 0)) (by (with_reducible repeat (first | refine blk_drewN ?_ _ | refine blk_drew ?_ | refine blk_alloc ?_ _)); exact BK367.out) hb); have n2_ := Aside0.mk (below_step (by repeat (first | (with_reducible first | exact HB.out | apply below_alloc | apply pw_below_drewN | apply below_drew1 | refine below_set ?_ GE366.out | refine below_set ?_ GE367.out) | exact HB.out)) hb); have n3_ := Aside0.mk (hbox); have n4_ := Aside0.mk ((by rw [hg]; exact (below_size (by repeat (first | (with_reducible first | exact HB.out | apply below_alloc | apply pw_below_drewN | apply below_drew1 | refine below_set ?_ GE366.out | refine below_set ?_ GE367.out) | exact HB.out))) : w.heap.size ≤ gb368)); have n5_ := Aside0.mk ((by rw [hg]; exact (below_size (by repeat (first | (with_reducible first | exact HB.out | apply below_alloc | apply pw_below_drewN | apply below_drew1 | refine below_set ?_ GE366.out | refine below_set ?_ GE367.out) | exact HB.out))) : w.heap.size ≤ gb368)); have n6_ := Aside0.mk ((by rw [hg]; exact Nat.ne_of_lt (blk_lt (g := gb366) (o := .cells #[.slice none 0 0] 23 (0, 0)) (by (with_reducible repeat (first | refine blk_drewN ?_ _ | refine blk_drew ?_ | refine blk_alloc ?_ _)); exact BK366.out)) : gb366 ≠ gb368)); have n7_ := Aside0.mk ((by rw [hg]; exact Nat.ne_of_gt (blk_lt (g := gb366) (o := .cells #[.slice none 0 0] 23 (0, 0)) (by (with_reducible repeat (first | refine blk_drewN ?_ _ | refine blk_drew ?_ | refine blk_alloc ?_ _)); exact BK366.out)) : gb368 ≠ gb366)); have n8_ := Aside0.mk ((by rw [hg]; exact Nat.ne_of_lt (blk_lt (g := gb367) (o := .cells #[.int .i64 0] 3 (0, 0)) (by (with_reducible repeat (first | refine blk_drewN ?_ _ | refine blk_drew ?_ | refine blk_alloc ?_ _)); exact BK367.out)) : gb367 ≠ gb368)); have n9_ := Aside0.mk ((by rw [hg]; exact Nat.ne_of_gt (blk_lt (g := gb367) (o := .cells #[.int .i64 0] 3 (0, 0)) (by (with_reducible repeat (first | refine blk_drewN ?_ _ | refine blk_drew ?_ | refine blk_alloc ?_ _)); exact BK367.out)) : gb368 ≠ gb367)); clear BK366; clear BK367; clear HB; have BK366 := n0_; have BK367 := n1_; have HB := n2_; have BK368 := n3_; have GW368 := n4_; have GE368 := n5_; have NB366_368 := n6_; have NB368_366 := n7_; have NB367_368 := n8_; have NB368_367 := n9_; clear n0_ n1_ n2_ n3_ n4_ n5_ n6_ n7_ n8_ n9_; clear hb hbox hg) | ((with_reducible refine gate_callee (f := 9) rfl ?_); refine goesL_ (some 8) rfl rfl Tryd.func9 (by kernel_rfl) rfl #[.slice A0 l0.length c0, .func (.func 10) #[] #[]] rfl (by (try simp only [List.map_toArray, List.map_cons, List.map_nil]); first | done | rfl | (simp only [List.length_drop, List.length_take]; rfl)) ?_; (with_reducible refine (slices_IndexFunc_int_int_token_Scan_1.calls k _ _ l0  t369 _ ?side1 ?side2 A2.out).mono ?_); (case side1 => repeat (first | exact (Kd.C_below HR0.out HB.out) | (with_reducible refine Kd.C_alloc ?_ _) | (with_reducible refine Kd.C_drewN ?_ _) | (with_reducible refine Kd.C_drew ?_))); (case side2 => exact HC0.out); rintro e w' ⟨rfl, ⟨nd, rfl⟩⟩; refine ⟨_, rfl, ?_⟩; (try (rw [drewN_self w6]; generalize hq_ : World.drewN w6 _ = w6; have n0_ : Aside0 (w6.heap[gb366]? = some (.cells #[.slice none 0 0] 23 (0, 0))) := ⟨by rw [← hq_]; exact (by (with_reducible repeat (first | refine blk_drewN ?_ _ | refine blk_drew ?_ | refine blk_alloc ?_ _)); exact BK366.out)⟩; have n1_ : Aside0 (w6.heap[gb367]? = some (.cells #[.int .i64 0] 3 (0, 0))) := ⟨by rw [← hq_]; exact (by (with_reducible repeat (first | refine blk_drewN ?_ _ | refine blk_drew ?_ | refine blk_alloc ?_ _)); exact BK367.out)⟩; have n2_ : Aside0 (w6.heap[gb368]? = some (.cells #[.int .i64 0] 24 (0, 0))) := ⟨by rw [← hq_]; exact (by (with_reducible repeat (first | refine blk_drewN ?_ _ | refine blk_drew ?_ | refine blk_alloc ?_ _)); exact BK368.out)⟩; have n3_ : Aside0 (Below w.heap.size w w6) := ⟨by rw [← hq_]; exact (by repeat (first | (with_reducible first | exact HB.out | apply below_alloc | apply pw_below_drewN | apply below_drew1 | refine below_set ?_ GE366.out | refine below_set ?_ GE367.out | refine below_set ?_ GE368.out) | exact HB.out))⟩; clear BK366 BK367 BK368 HB hq_; have BK366 := n0_; have BK367 := n1_; have BK368 := n2_; have HB := n3_; clear n0_ n1_ n2_ n3_)); have hnb7 := NB366_367.out; have hnc7 := NB367_366.out; have hnb8 := NB366_368.out; have hnc8 := NB368_366.out; have hcz9_0 : w6.cell? ⟨gb366, 0, none⟩ = some (.slice none 0 0) := (blk_cell BK366.out 0).trans rfl; have hfz9_0 := blk_frozen BK366.out 0; have hnb10 := NB367_368.out; have hnc10 := NB368_367.out; have hcz11_0 : w6.cell? ⟨gb367, 0, none⟩ = some (.int .i64 0) := (blk_cell BK367.out 0).trans rfl; have hfz11_0 := blk_frozen BK367.out 0; have hcz12_0 : w6.cell? ⟨gb368, 0, none⟩ = some (.int .i64 0) := (blk_cell BK368.out 0).trans rfl; have hfz12_0 := blk_frozen BK368.out 0))
  (try simp only [Exit.inBlock, Exit.then])
  first | skip
  first | refine leavesD_retx (rs := [.cell 2 23, .cell 3 3, .cell 4 24]) (by rfl) rfl (by simp) (.plain gb366 23 (.slice none 0 0) _ rfl (by (with_reducible repeat (first | refine blk_drewN ?_ _ | refine blk_drew ?_ | refine blk_alloc ?_ _)); refine blk_far ?_ NB366_368.out _; (with_reducible repeat (first | refine blk_drewN ?_ _ | refine blk_drew ?_ | refine blk_alloc ?_ _)); refine blk_far ?_ NB366_367.out _; (with_reducible repeat (first | refine blk_drewN ?_ _ | refine blk_drew ?_ | refine blk_alloc ?_ _)); refine blk_put (cs := #[.slice none 0 0]) ?_ 0 _ rfl; (with_reducible repeat (first | refine blk_drewN ?_ _ | refine blk_drew ?_ | refine blk_alloc ?_ _)); exact BK366.out) Tryd.underlying23 rfl (.plain gb367 3 (.int .i64 t369) _ rfl (by (with_reducible repeat (first | refine blk_drewN ?_ _ | refine blk_drew ?_ | refine blk_alloc ?_ _)); refine blk_far ?_ NB367_368.out _; (with_reducible repeat (first | refine blk_drewN ?_ _ | refine blk_drew ?_ | refine blk_alloc ?_ _)); refine blk_put (cs := #[.int .i64 0]) ?_ 0 _ rfl; (with_reducible repeat (first | refine blk_drewN ?_ _ | refine blk_drew ?_ | refine blk_alloc ?_ _)); refine blk_far ?_ NB367_366.out _; (with_reducible repeat (first | refine blk_drewN ?_ _ | refine blk_drew ?_ | refine blk_alloc ?_ _)); exact BK367.out) Tryd.underlying3 rfl (.plain gb368 24 (.int .i64 1) _ rfl (by (with_reducible repeat (first | refine blk_drewN ?_ _ | refine blk_drew ?_ | refine blk_alloc ?_ _)); refine blk_put (cs := #[.int .i64 0]) ?_ 0 _ rfl; (with_reducible repeat (first | refine blk_drewN ?_ _ | refine blk_drew ?_ | refine blk_alloc ?_ _)); refine blk_far ?_ NB368_367.out _; (with_reducible repeat (first | refine blk_drewN ?_ _ | refine blk_drew ?_ | refine blk_alloc ?_ _)); refine blk_far ?_ NB368_366.out _; (with_reducible repeat (first | refine blk_drewN ?_ _ | refine blk_drew ?_ | refine blk_alloc ?_ _)); exact BK368.out) Tryd.underlying24 rfl .nil))) ?_ | (refine leavesD_cons (f := 12) (by rfl) (by first | rfl | simp [go_sem]) ?_; refine (token_Scan_2_idle _ _ _ _).mono ?_; rintro e_ u_ w_ ⟨rfl, rfl, rfl⟩; refine leaves_retx (rs := [.cell 2 23, .cell 3 3, .cell 4 24]) rfl (by simp) (.plain gb366 23 (.slice none 0 0) _ rfl (by (with_reducible repeat (first | refine blk_drewN ?_ _ | refine blk_drew ?_ | refine blk_alloc ?_ _)); refine blk_far ?_ NB366_368.out _; (with_reducible repeat (first | refine blk_drewN ?_ _ | refine blk_drew ?_ | refine blk_alloc ?_ _)); refine blk_far ?_ NB366_367.out _; (with_reducible repeat (first | refine blk_drewN ?_ _ | refine blk_drew ?_ | refine blk_alloc ?_ _)); refine blk_put (cs := #[.slice none 0 0]) ?_ 0 _ rfl; (with_reducible repeat (first | refine blk_drewN ?_ _ | refine blk_drew ?_ | refine blk_alloc ?_ _)); exact BK366.out) Tryd.underlying23 rfl (.plain gb367 3 (.int .i64 t369) _ rfl (by (with_reducible repeat (first | refine blk_drewN ?_ _ | refine blk_drew ?_ | refine blk_alloc ?_ _)); refine blk_far ?_ NB367_368.out _; (with_reducible repeat (first | refine blk_drewN ?_ _ | refine blk_drew ?_ | refine blk_alloc ?_ _)); refine blk_put (cs := #[.int .i64 0]) ?_ 0 _ rfl; (with_reducible repeat (first | refine blk_drewN ?_ _ | refine blk_drew ?_ | refine blk_alloc ?_ _)); refine blk_far ?_ NB367_366.out _; (with_reducible repeat (first | refine blk_drewN ?_ _ | refine blk_drew ?_ | refine blk_alloc ?_ _)); exact BK367.out) Tryd.underlying3 rfl (.plain gb368 24 (.int .i64 1) _ rfl (by (with_reducible repeat (first | refine blk_drewN ?_ _ | refine blk_drew ?_ | refine blk_alloc ?_ _)); refine blk_put (cs := #[.int .i64 0]) ?_ 0 _ rfl; (with_reducible repeat (first | refine blk_drewN ?_ _ | refine blk_drew ?_ | refine blk_alloc ?_ _)); refine blk_far ?_ NB368_367.out _; (with_reducible repeat (first | refine blk_drewN ?_ _ | refine blk_drew ?_ | refine blk_alloc ?_ _)); refine blk_far ?_ NB368_366.out _; (with_reducible repeat (first | refine blk_drewN ?_ _ | refine blk_drew ?_ | refine blk_alloc ?_ _)); exact BK368.out) Tryd.underlying24 rfl .nil))) ?_)
  exact ⟨_, by first | rfl | (simp [errW_none, errW_some] <;> rfl) | (simp [*, errW_none, errW_some] <;> rfl), by first | exact Kd.R_nil _ _ _ _ _ | exact Kd.N_nil _ _ _ _ _ | exact Kd.V_nil _ _ _ _ _ | exact Kd.Q_nil _ _ _ _ _ | exact Kd.S_nil _ _ _ _ _, by repeat (first | (with_reducible first | exact HB.out | apply below_alloc | apply pw_below_drewN | apply below_drew1 | refine below_set ?_ GE366.out | refine below_set ?_ GE367.out | refine below_set ?_ GE368.out) | exact HB.out)⟩
 ·rw [if_neg c3] at H
  have c3b0 : decide (0 ≤ t369) = false := decide_eq_false c3
  clear c3
  replace H := Option.bind_eq_some_iff.mp H
  obtain ⟨t371, A130, H⟩ := H
  replace H : (token_Scan.l0 k ([] : List (S38)) l0 t371) = some (r1, r2, r3) := H
  have A13 := Aside0.mk A130
  clear A130
  have H' := Aside0.mk H
  clear H
  have hmf : ∀ (fn : Fn) (first cap : Array Value) (w : World), (Instr.makeFunc fn first cap).run Tryd.prog w = .ok (.func fn first cap) w := fun _ _ _ _ => rfl
  go_enter_defers Tryd.func5, Tryd.ntmps5
  go_wp2_with (first | ((with_reducible refine gate_dst (N := 2) rfl ?_); refine box_event ?hg (N := 2) ?hd (cs := #[.slice none 0 0]) (t := 23) ?hr ?_; (case hd => rfl); (case hg => rfl); (case hr => first | (go_simp; done) | (go_simp; rfl)); intro gb366 hg w14 hbox hb; have n0_ := Aside0.mk (below_step (by repeat (first | (with_reducible first | exact HB.out | apply below_alloc | apply pw_below_drewN | apply below_drew1) | exact HB.out)) hb); have n1_ := Aside0.mk (hbox); have n2_ := Aside0.mk ((by rw [hg]; exact (below_size (by repeat (first | (with_reducible first | exact HB.out | apply below_alloc | apply pw_below_drewN | apply below_drew1) | exact HB.out))) : w.heap.size ≤ gb366)); have n3_ := Aside0.mk ((by rw [hg]; exact (below_size (by repeat (first | (with_reducible first | exact HB.out | apply below_alloc | apply pw_below_drewN | apply below_drew1) | exact HB.out))) : w.heap.size ≤ gb366)); clear HB; have HB := n0_; have BK366 := n1_; have GW366 := n2_; have GE366 := n3_; clear n0_ n1_ n2_ n3_; clear hb hbox hg) | ((with_reducible refine gate_dst (N := 3) rfl ?_); refine box_event ?hg (N := 3) ?hd (cs := #[.int .i64 0]) (t := 3) ?hr ?_; (case hd => rfl); (case hg => rfl); (case hr => first | (go_simp; done) | (go_simp; rfl)); intro gb367 hg w15 hbox hb; have n0_ := Aside0.mk (blk_below (g := gb366) (o := .cells #[.slice none 0 0] 23 (0, 0)) (by (with_reducible repeat (first | refine blk_drewN ?_ _ | refine blk_drew ?_ | refine blk_alloc ?_ _)); exact BK366.out) hb); have n1_ := Aside0.mk (below_step (by repeat (first | (with_reducible first | exact HB.out | apply below_alloc | apply pw_below_drewN | apply below_drew1 | refine below_set ?_ GE366.out) | exact HB.out)) hb); have n2_ := Aside0.mk (hbox); have n3_ := Aside0.mk ((by rw [hg]; exact (below_size (by repeat (first | (with_reducible first | exact HB.out | apply below_alloc | apply pw_below_drewN | apply below_drew1 | refine below_set ?_ GE366.out) | exact HB.out))) : w.heap.size ≤ gb367)); have n4_ := Aside0.mk ((by rw [hg]; exact (below_size (by repeat (first | (with_reducible first | exact HB.out | apply below_alloc | apply pw_below_drewN | apply below_drew1 | refine below_set ?_ GE366.out) | exact HB.out))) : w.heap.size ≤ gb367)); have n5_ := Aside0.mk ((by rw [hg]; exact Nat.ne_of_lt (blk_lt (g := gb366) (o := .cells #[.slice none 0 0] 23 (0, 0)) (by (with_reducible repeat (first | refine blk_drewN ?_ _ | refine blk_drew ?_ | refine blk_alloc ?_ _)); exact BK366.out)) : gb366 ≠ gb367)); have n6_ := Aside0.mk ((by rw [hg]; exact Nat.ne_of_gt (blk_lt (g := gb366) (o := .cells #[.slice none 0 0] 23 (0, 0)) (by (with_reducible repeat (first | refine blk_drewN ?_ _ | refine blk_drew ?_ | refine blk_alloc ?_ _)); exact BK366.out)) : gb367 ≠ gb366)); clear BK366; clear HB; have BK366 := n0_; have HB := n1_; have BK367 := n2_; have GW367 := n3_; have GE367 := n4_; have NB366_367 := n5_; have NB367_366 := n6_; clear n0_ n1_ n2_ n3_ n4_ n5_ n6_; clear hb hbox hg) | ((with_reducible refine gate_dst (N := 4) rfl ?_); refine box_event ?hg (N := 4) ?hd (cs := #[.int .i64 0]) (t := 24) ?hr ?_; (case hd => rfl); (case hg => rfl); (case hr => first | (go_simp; done) | (go_simp; rfl)); intro gb368 hg w16 hbox hb; have n0_ := Aside0.mk (blk_below (g := gb366) (o := .cells #[.slice none 0 0] 23 (0, 0)) (by (with_reducible repeat (first | refine blk_drewN ?_ _ | refine blk_drew ?_ | refine blk_alloc ?_ _)); exact BK366.out) hb); have n1_ := Aside0.mk (blk_below (g := gb367) (o := .cells #[.int .i64 0] 3 (0, 0)) (by (with_reducible repeat (first | refine blk_drewN ?_ _ | refine blk_drew ?_ | refine blk_alloc ?_ _)); exact BK367.out) hb); have n2_ := Aside0.mk (below_step (by repeat (first | (with_reducible first | exact HB.out | apply below_alloc | apply pw_below_drewN | apply below_drew1 | refine below_set ?_ GE366.out | refine below_set ?_ GE367.out) | exact HB.out)) hb); have n3_ := Aside0.mk (hbox); have n4_ := Aside0.mk ((by rw [hg]; exact (below_size (by repeat (first | (with_reducible first | exact HB.out | apply below_alloc | apply pw_below_drewN | apply below_drew1 | refine below_set ?_ GE366.out | refine below_set ?_ GE367.out) | exact HB.out))) : w.heap.size ≤ gb368)); have n5_ := Aside0.mk ((by rw [hg]; exact (below_size (by repeat (first | (with_reducible first | exact HB.out | apply below_alloc | apply pw_below_drewN | apply below_drew1 | refine below_set ?_ GE366.out | refine below_set ?_ GE367.out) | exact HB.out))) : w.heap.size ≤ gb368)); have n6_ := Aside0.mk ((by rw [hg]; exact Nat.ne_of_lt (blk_lt (g := gb366) (o := .cells #[.slice none 0 0] 23 (0, 0)) (by (with_reducible repeat (first | refine blk_drewN ?_ _ | refine blk_drew ?_ | refine blk_alloc ?_ _)); exact BK366.out)) : gb366 ≠ gb368)); have n7_ := Aside0.mk ((by rw [hg]; exact Nat.ne_of_gt (blk_lt (g := gb366) (o := .cells #[.slice none 0 0] 23 (0, 0)) (by (with_reducible repeat (first | refine blk_drewN ?_ _ | refine blk_drew ?_ | refine blk_alloc ?_ _)); exact BK366.out)) : gb368 ≠ gb366)); have n8_ := Aside0.mk ((by rw [hg]; exact Nat.ne_of_lt (blk_lt (g := gb367) (o := .cells #[.int .i64 0] 3 (0, 0)) (by (with_reducible repeat (first | refine blk_drewN ?_ _ | refine blk_drew ?_ | refine blk_alloc ?_ _)); exact BK367.out)) : gb367 ≠ gb368)); have n9_ := Aside0.mk ((by rw [hg]; exact Nat.ne_of_gt (blk_lt (g := gb367) (o := .cells #[.int .i64 0] 3 (0, 0)) (by (with_reducible repeat (first | refine blk_drewN ?_ _ | refine blk_drew ?_ | refine blk_alloc ?_ _)); exact BK367.out)) : gb368 ≠ gb367)); clear BK366; clear BK367; clear HB; have BK366 := n0_; have BK367 := n1_; have HB := n2_; have BK368 := n3_; have GW368 := n4_; have GE368 := n5_; have NB366_368 := n6_; have NB368_366 := n7_; have NB367_368 := n8_; have NB368_367 := n9_; clear n0_ n1_ n2_ n3_ n4_ n5_ n6_ n7_ n8_ n9_; clear hb hbox hg) | ((with_reducible refine gate_callee (f := 9) rfl ?_); refine goesL_ (some 8) rfl rfl Tryd.func9 (by kernel_rfl) rfl #[.slice A0 l0.length c0, .func (.func 10) #[] #[]] rfl (by (try simp only [List.map_toArray, List.map_cons, List.map_nil]); first | done | rfl | (simp only [List.length_drop, List.length_take]; rfl)) ?_; (with_reducible refine (slices_IndexFunc_int_int_token_Scan_1.calls k _ _ l0  t369 _ ?side1 ?side2 A2.out).mono ?_); (case side1 => repeat (first | exact (Kd.C_below HR0.out HB.out) | (with_reducible refine Kd.C_alloc ?_ _) | (with_reducible refine Kd.C_drewN ?_ _) | (with_reducible refine Kd.C_drew ?_))); (case side2 => exact HC0.out); rintro e w' ⟨rfl, ⟨nd, rfl⟩⟩; refine ⟨_, rfl, ?_⟩) | ((with_reducible refine gate_dst (N := 15) rfl ?_); refine box_event ?hg (N := 15) ?hd (cs := #[.slice A0 l0.length c0, .int .i64 0]) (t := 50) ?hr ?_; (case hd => rfl); (case hg => rfl); (case hr => first | (go_simp; done) | (go_simp; rfl)); intro gb370 hg w17 hbox hb; have n0_ := Aside0.mk (blk_below (g := gb366) (o := .cells #[.slice none 0 0] 23 (0, 0)) (by (with_reducible repeat (first | refine blk_drewN ?_ _ | refine blk_drew ?_ | refine blk_alloc ?_ _)); exact BK366.out) hb); have n1_ := Aside0.mk (blk_below (g := gb367) (o := .cells #[.int .i64 0] 3 (0, 0)) (by (with_reducible repeat (first | refine blk_drewN ?_ _ | refine blk_drew ?_ | refine blk_alloc ?_ _)); exact BK367.out) hb); have n2_ := Aside0.mk (blk_below (g := gb368) (o := .cells #[.int .i64 0] 24 (0, 0)) (by (with_reducible repeat (first | refine blk_drewN ?_ _ | refine blk_drew ?_ | refine blk_alloc ?_ _)); exact BK368.out) hb); have n3_ := Aside0.mk (below_step (by repeat (first | (with_reducible first | exact HB.out | apply below_alloc | apply pw_below_drewN | apply below_drew1 | refine below_set ?_ GE366.out | refine below_set ?_ GE367.out | refine below_set ?_ GE368.out) | exact HB.out)) hb); have n4_ := Aside0.mk ((show IsS50 w w17 gb370 l0 0 from ⟨A0, c0, hbox, (by rw [hg]; exact (below_size (by repeat (first | (with_reducible first | exact HB.out | apply below_alloc | apply pw_below_drewN | apply below_drew1 | refine below_set ?_ GE366.out | refine below_set ?_ GE367.out | refine below_set ?_ GE368.out) | exact HB.out))) : w.heap.size ≤ gb370), ⟨HR0.out, HC0.out⟩⟩)); have n5_ := Aside0.mk ((by rw [hg]; exact Nat.ne_of_lt (blk_lt (g := gb366) (o := .cells #[.slice none 0 0] 23 (0, 0)) (by (with_reducible repeat (first | refine blk_drewN ?_ _ | refine blk_drew ?_ | refine blk_alloc ?_ _)); exact BK366.out)) : gb366 ≠ gb370)); have n6_ := Aside0.mk ((by rw [hg]; exact Nat.ne_of_gt (blk_lt (g := gb366) (o := .cells #[.slice none 0 0] 23 (0, 0)) (by (with_reducible repeat (first | refine blk_drewN ?_ _ | refine blk_drew ?_ | refine blk_alloc ?_ _)); exact BK366.out)) : gb370 ≠ gb366)); have n7_ := Aside0.mk ((by rw [hg]; exact Nat.ne_of_lt (blk_lt (g := gb367) (o := .cells #[.int .i64 0] 3 (0, 0)) (by (with_reducible repeat (first | refine blk_drewN ?_ _ | refine blk_drew ?_ | refine blk_alloc ?_ _)); exact BK367.out)) : gb367 ≠ gb370)); have n8_ := Aside0.mk ((by rw [hg]; exact Nat.ne_of_gt (blk_lt (g := gb367) (o := .cells #[.int .i64 0] 3 (0, 0)) (by (with_reducible repeat (first | refine blk_drewN ?_ _ | refine blk_drew ?_ | refine blk_alloc ?_ _)); exact BK367.out)) : gb370 ≠ gb367)); have n9_ := Aside0.mk ((by rw [hg]; exact Nat.ne_of_lt (blk_lt (g := gb368) (o := .cells #[.int .i64 0] 24 (0, 0)) (by (with_reducible repeat (first | refine blk_drewN ?_ _ | refine blk_drew ?_ | refine blk_alloc ?_ _)); exact BK368.out)) : gb368 ≠ gb370)); have n10_ := Aside0.mk ((by rw [hg]; exact Nat.ne_of_gt (blk_lt (g := gb368) (o := .cells #[.int .i64 0] 24 (0, 0)) (by (with_reducible repeat (first | refine blk_drewN ?_ _ | refine blk_drew ?_ | refine blk_alloc ?_ _)); exact BK368.out)) : gb370 ≠ gb368)); clear BK366; clear BK367; clear BK368; clear HB; have BK366 := n0_; have BK367 := n1_; have BK368 := n2_; have HB := n3_; have HI370 := n4_; have NB366_370 := n5_; have NB370_366 := n6_; have NB367_370 := n7_; have NB370_367 := n8_; have NB368_370 := n9_; have NB370_368 := n10_; clear n0_ n1_ n2_ n3_ n4_ n5_ n6_ n7_ n8_ n9_ n10_; clear hb hbox hg) | ((with_reducible refine gate_callee (f := 13) rfl ?_); refine goesL_ (some 17) rfl rfl Tryd.func13 (by kernel_rfl) rfl #[.pointer (some ⟨gb370, 0, none⟩)] rfl (by (try simp only [List.map_toArray, List.map_cons, List.map_nil]); first | done | rfl | (simp only [List.length_drop, List.length_take]; rfl)) ?_; (with_reducible refine (token_scanner_blanks.calls k gb370 l0 0 t371 w _ ?side1 ?side2 A13.out).mono ?_); (case side1 => repeat (first | (with_reducible first | exact HI370.out | apply IsS50.alloc | apply IsS50.drewN | apply IsS50.drew | apply IsS50.set_1 | refine IsS50.far ?_ NB370_366.out _ | refine IsS50.far ?_ NB370_367.out _ | refine IsS50.far ?_ NB370_368.out _) | exact HI370.out)); (case side2 => repeat (first | (with_reducible first | exact HB.out | apply below_alloc | apply pw_below_drewN | apply below_drew1 | refine below_set ?_ (IsS50.ge HI370.out) | refine below_set ?_ GE366.out | refine below_set ?_ GE367.out | refine below_set ?_ GE368.out) | exact HB.out)); rintro e w18 ⟨rfl, hi, hb, hk⟩; refine ⟨_, rfl, ?_⟩; have n0_ := Aside0.mk (KeepBut.blk hk (g' := gb366) (o := .cells #[.slice none 0 0] 23 (0, 0)) (by (with_reducible repeat (first | refine blk_drewN ?_ _ | refine blk_drew ?_ | refine blk_alloc ?_ _)); exact BK366.out) NB366_370.out (by simp)); have n1_ := Aside0.mk (KeepBut.blk hk (g' := gb367) (o := .cells #[.int .i64 0] 3 (0, 0)) (by (with_reducible repeat (first | refine blk_drewN ?_ _ | refine blk_drew ?_ | refine blk_alloc ?_ _)); exact BK367.out) NB367_370.out (by simp)); have n2_ := Aside0.mk (KeepBut.blk hk (g' := gb368) (o := .cells #[.int .i64 0] 24 (0, 0)) (by (with_reducible repeat (first | refine blk_drewN ?_ _ | refine blk_drew ?_ | refine blk_alloc ?_ _)); exact BK368.out) NB368_370.out (by simp)); have n3_ := Aside0.mk (hb); have n4_ := Aside0.mk (hi); clear BK366; clear BK367; clear BK368; clear HB; clear HI370; have BK366 := n0_; have BK367 := n1_; have BK368 := n2_; have HB := n3_; have HI370 := n4_; clear n0_ n1_ n2_ n3_ n4_; (try clear hb); (try clear hb2); (try clear hk); (try clear hi)))
  try simp only [Act.put, List.setIfInBounds_toArray, List.set_cons_zero, List.set_cons_succ]
  go_loopg [] k (fun kq w' => ∃ (x367000_1 : List (S38)) (x371001_1 : Int) (u367000 : Value), Aside0 (token_Scan.l0 kq x367000_1 l0 x371001_1 = some (r1, r2, r3)) ∧ Aside0 (kq ≤ k) ∧ Aside0 (Kd.N k38 38 w' w.heap.size (fun k_ => (w.heap.size ≤ k_) ∧ k_ ≠ gb366 ∧ k_ ≠ gb367 ∧ k_ ≠ gb368 ∧ k_ ≠ gb370) u367000 x367000_1) ∧ Aside0 (w'.heap[gb366]? = some (.cells #[u367000] 23 (0, 0))) ∧ Aside0 (w'.heap[gb367]? = some (.cells #[.int .i64 0] 3 (0, 0))) ∧ Aside0 (w'.heap[gb368]? = some (.cells #[.int .i64 0] 24 (0, 0))) ∧ Aside0 (IsS50 w w' gb370 l0 x371001_1) ∧ Aside0 (Below w.heap.size w w'))
  case atStart => exact ⟨(([] : List (S38))), (t371), (.slice none 0 0), H', ⟨Nat.le_refl _⟩, ⟨by first | exact Kd.R_nil _ _ _ _ _ | exact Kd.N_nil _ _ _ _ _ | exact Kd.V_nil _ _ _ _ _ | exact Kd.Q_nil _ _ _ _ _ | exact Kd.S_nil _ _ _ _ _⟩, ⟨by (with_reducible repeat (first | refine blk_drewN ?_ _ | refine blk_drew ?_ | refine blk_alloc ?_ _)); exact BK366.out⟩, ⟨by (with_reducible repeat (first | refine blk_drewN ?_ _ | refine blk_drew ?_ | refine blk_alloc ?_ _)); exact BK367.out⟩, ⟨by (with_reducible repeat (first | refine blk_drewN ?_ _ | refine blk_drew ?_ | refine blk_alloc ?_ _)); exact BK368.out⟩, ⟨by repeat (first | (with_reducible first | exact HI370.out | apply IsS50.alloc | apply IsS50.drewN | apply IsS50.drew | apply IsS50.set_1 | refine IsS50.far ?_ NB370_366.out _ | refine IsS50.far ?_ NB370_367.out _ | refine IsS50.far ?_ NB370_368.out _) | exact HI370.out)⟩, ⟨by repeat (first | (with_reducible first | exact HB.out | apply below_alloc | apply pw_below_drewN | apply below_drew1 | refine below_set ?_ (IsS50.ge HI370.out) | refine below_set ?_ GE366.out | refine below_set ?_ GE367.out | refine below_set ?_ GE368.out) | exact HB.out)⟩⟩
  case round =>
   clear H'
   try clear c1
   try clear p2
   try clear c3
   try clear c3b0
   try clear c5
   try clear c7
   try clear c8
   try clear c9
   try clear c10
   try clear c13
   try clear hcz11_0
   try clear hcz12_0
   try clear hcz9_0
   try clear hfz11_0
   try clear hfz12_0
   try clear hfz9_0
   obtain ⟨x367000_1, x371001_1, u367000, HA, HK1, HO_367000, BK366, BK367, BK368, HI370, HB⟩ := hrel
   cases gk with
   | zero => exact absurd HA.out (by simp [token_Scan.l0])
   | succ k1 =>
    have H := HA.out
    clear HA
    simp only [token_Scan.l0] at H
    replace H := Option.bind_eq_some_iff.mp H
    obtain ⟨⟨t372, t373⟩, A190, H⟩ := H
    replace H : (if t372 = true then ((token_scanner_next.f k1 l0 t373).bind fun bt374 => (if x367000_1.length < 1172812402961 then ((token_scanner_blanks.f k1 l0 bt374.2.2.2.2.2.2.2.2.2).bind fun t391 => (token_Scan.l0 k1 (x367000_1 ++ [(⟨bt374.1, bt374.2.1, (⟨bt374.2.2.1, bt374.2.2.2.1, (⟨bt374.2.2.2.2.1, bt374.2.2.2.2.2.1⟩ : S30), bt374.2.2.2.2.2.2.1, bt374.2.2.2.2.2.2.2.1⟩ : S33), bt374.2.2.2.2.2.2.2.2.1⟩ : S38)]) l0 t391)) else (none))) else (some (x367000_1, 0, 0))) = some (r1, r2, r3) := H
    have A19 := Aside0.mk A190
    clear A190
    by_cases c20 : t372 = true
    ·subst c20
     have H1 : ((token_scanner_next.f k1 l0 t373).bind fun bt374 => (if x367000_1.length < 1172812402961 then ((token_scanner_blanks.f k1 l0 bt374.2.2.2.2.2.2.2.2.2).bind fun t391 => (token_Scan.l0 k1 (x367000_1 ++ [(⟨bt374.1, bt374.2.1, (⟨bt374.2.2.1, bt374.2.2.2.1, (⟨bt374.2.2.2.2.1, bt374.2.2.2.2.2.1⟩ : S30), bt374.2.2.2.2.2.2.1, bt374.2.2.2.2.2.2.2.1⟩ : S33), bt374.2.2.2.2.2.2.2.2.1⟩ : S38)]) l0 t391)) else (none))) = some (r1, r2, r3) := by rw [if_pos rfl] at H; exact H
     clear H
     have H := H1
     clear H1
     replace H := Option.bind_eq_some_iff.mp H
     obtain ⟨⟨t374, t375, t376, t377, t378, t379, t382, t385, t386, t387⟩, A210, H⟩ := H
     replace H : (if x367000_1.length < 1172812402961 then ((token_scanner_blanks.f k1 l0 t387).bind fun t391 => (token_Scan.l0 k1 (x367000_1 ++ [(⟨t374, t375, (⟨t376, t377, (⟨t378, t379⟩ : S30), t382, t385⟩ : S33), t386⟩ : S38)]) l0 t391)) else (none)) = some (r1, r2, r3) := H
     have A21 := Aside0.mk A210
     clear A210
     by_cases c22 : x367000_1.length < 1172812402961
     ·rw [if_pos c22] at H
      have LMc22 := Aside0.mk c22
      clear c22
      obtain ⟨y388, hy388⟩ : ∃ y_ : List (S38), y_ = (x367000_1 ++ [(⟨t374, t375, (⟨t376, t377, (⟨t378, t379⟩ : S30), t382, t385⟩ : S33), t386⟩ : S38)]) := ⟨_, rfl⟩
      replace H : ((token_scanner_blanks.f k1 l0 t387).bind fun t391 => (token_Scan.l0 k1 y388 l0 t391)) = some (r1, r2, r3) := by first | (rw [hy388]; with_reducible exact H) | (have H2_ := (Option.bind_some _ _).symm.trans H; rw [hy388]; with_reducible exact H2_) | (have H2_ := (Option.bind_some _ _).symm.trans H; with_reducible exact H2_) | with_reducible exact H | (rw [hy388]; exact H) | exact H
      have Ny388 := Aside0.mk hy388
      clear hy388
      replace H := Option.bind_eq_some_iff.mp H
      obtain ⟨t391, A230, H⟩ := H
      replace H : (token_Scan.l0 k1 y388 l0 t391) = some (r1, r2, r3) := H
      have A23 := Aside0.mk A230
      clear A230
      have H' := Aside0.mk H
      clear H
      try go_wp2_with (first | ((with_reducible refine gate_callee (f := 14) rfl ?_); refine goesL_ (some 19) rfl rfl Tryd.func14 (by kernel_rfl) rfl #[.pointer (some ⟨gb370, 0, none⟩), .int .i64 1] rfl (by (try simp only [List.map_toArray, List.map_cons, List.map_nil]); first | done | rfl | (simp only [List.length_drop, List.length_take]; rfl)) ?_; (with_reducible refine (token_scanner_left.calls gb370 l0 x371001_1 1 true t373 w _ ?side1 ?side2 A19.out).mono ?_); (case side1 => repeat (first | (with_reducible first | exact HI370.out | apply IsS50.alloc | apply IsS50.drewN | apply IsS50.drew | apply IsS50.set_1 | refine IsS50.far ?_ NB370_366.out _ | refine IsS50.far ?_ NB370_367.out _ | refine IsS50.far ?_ NB370_368.out _) | exact HI370.out)); (case side2 => repeat (first | (with_reducible first | exact HB.out | apply below_alloc | apply pw_below_drewN | apply below_drew1 | refine below_set ?_ (IsS50.ge HI370.out) | refine below_set ?_ GE366.out | refine below_set ?_ GE367.out | refine below_set ?_ GE368.out) | exact HB.out)); rintro e w24 ⟨rfl, hi, hb, hk⟩; refine ⟨_, rfl, ?_⟩; have n0_ := Aside0.mk (Kd.N_mono (Kd.N_keep (Kd.N_mono (ok := fun k_ => (((w.heap.size ≤ k_)) ∧ (k_ ≠ gb366 ∧ (k_ ≠ gb367 ∧ (k_ ≠ gb368 ∧ k_ ≠ gb370))))) (by (with_reducible repeat (first | apply Kd.N_alloc | apply Kd.N_drewN | apply Kd.N_drew)); exact HO_367000.out) (fun k_ hk_ => (⟨hk_, hk_.2.2.2.2⟩ : _ ∧ k_ ≠ gb370))) hk (fun _ h => h.2)) (fun _ h => h.1)); have n1_ := Aside0.mk (KeepBut.blk hk (g' := gb366) (o := .cells #[u367000] 23 (0, 0)) (by (with_reducible repeat (first | refine blk_drewN ?_ _ | refine blk_drew ?_ | refine blk_alloc ?_ _)); exact BK366.out) NB366_370.out (by simp)); have n2_ := Aside0.mk (KeepBut.blk hk (g' := gb367) (o := .cells #[.int .i64 0] 3 (0, 0)) (by (with_reducible repeat (first | refine blk_drewN ?_ _ | refine blk_drew ?_ | refine blk_alloc ?_ _)); exact BK367.out) NB367_370.out (by simp)); have n3_ := Aside0.mk (KeepBut.blk hk (g' := gb368) (o := .cells #[.int .i64 0] 24 (0, 0)) (by (with_reducible repeat (first | refine blk_drewN ?_ _ | refine blk_drew ?_ | refine blk_alloc ?_ _)); exact BK368.out) NB368_370.out (by simp)); have n4_ := Aside0.mk (hb); have n5_ := Aside0.mk (hi); clear HO_367000; clear BK366; clear BK367; clear BK368; clear HB; clear HI370; have HO_367000 := n0_; have BK366 := n1_; have BK367 := n2_; have BK368 := n3_; have HB := n4_; have HI370 := n5_; clear n0_ n1_ n2_ n3_ n4_ n5_; (try clear hb); (try clear hb2); (try clear hk); (try clear hi)))
      have n0_ := Aside0.mk (Kd.N_drew HO_367000.out)
      have n1_ := Aside0.mk (blk_drew BK366.out)
      have n2_ := Aside0.mk (blk_drew BK367.out)
      have n3_ := Aside0.mk (blk_drew BK368.out)
      have n4_ := Aside0.mk (IsS50.drew HI370.out)
      have n5_ := Aside0.mk (below_drew1 HB.out)
      clear HO_367000
      clear BK366
      clear BK367
      clear BK368
      clear HI370
      clear HB
      have HO_367000 := n0_
      have BK366 := n1_
      have BK367 := n2_
      have BK368 := n3_
      have HI370 := n4_
      have HB := n5_
      clear n0_ n1_ n2_ n3_ n4_ n5_
      refine start_ (n := 6) (S := fun w' => w'.cell? ⟨gb366, 0, none⟩ = some (u367000)) (ds := [5]) #[false, false, false, false, false, false] (by kernel_rfl) rfl rfl ((blk_cell BK366.out 0).trans rfl) (fun hHeld => ?_)
      generalize w24.drew = w25 at HO_367000 BK366 BK367 BK368 HI370 HB hHeld ⊢
      refine pure_ (i := 1) (N := some 23) (v := ?_) (a' := ?_) #[false, true, false, false, false, false] rfl rfl (by kernel_rfl) (by first | exact (fun _ _ _ h => h) | exact (fun _ _ _ h => leavesD_put (by kernel_rfl) h)) (Or.inl ⟨by rfl, ?_⟩) ?_ ?_
      rotate_left
      ·intro w'
       go_simp
       with_reducible rfl
      rotate_left
      ·simp only [Act.put, List.setIfInBounds_toArray, List.set_cons_zero, List.set_cons_succ, i64_w, i32_w]
       rfl
      refine take_ (i := 0) (N := some 22) (v := ?_) (a' := ?_) #[true, true, false, false, false, false] rfl rfl (by kernel_rfl) (by first | exact (fun _ _ _ h => h) | exact (fun _ _ _ h => leavesD_put (by kernel_rfl) h)) (Or.inl ⟨by rfl, ?_⟩) hHeld ?_ ?_
      rotate_left
      ·intro w' s0
       go_simp
       with_reducible rfl
      rotate_left
      ·simp only [Act.put, List.setIfInBounds_toArray, List.set_cons_zero, List.set_cons_succ, i64_w, i32_w]
       rfl
      refine one_ (i := 2) (N := some 24) #[true, true, true, false, false, false] rfl rfl (by kernel_rfl) (by decide) (fun K hK => ?_)
      refine goes_ Tryd.func15 (by kernel_rfl) rfl #[.pointer (some ⟨gb370, 0, none⟩)] (by rfl) rfl rfl (by (try simp only [List.map_toArray, List.map_cons, List.map_nil]); first | done | rfl | (simp only [List.length_drop, List.length_take]; rfl)) ?_
      with_reducible refine (token_scanner_next.calls k1 gb370 l0 t373 t374 t375 t376 t377 t378 t379 t382 t385 t386 t387 w _ ?side1 ?side2 ?side3 A21.out).mono ?_
      (case side1 => repeat (first | (with_reducible first | exact HI370.out | apply IsS50.alloc | apply IsS50.drewN | apply IsS50.drew | apply IsS50.set_1 | refine IsS50.far ?_ NB370_366.out _ | refine IsS50.far ?_ NB370_367.out _ | refine IsS50.far ?_ NB370_368.out _) | exact HI370.out))
      (case side2 => repeat (first | (with_reducible first | exact HB.out | apply below_alloc | apply pw_below_drewN | apply below_drew1 | refine below_set ?_ (IsS50.ge HI370.out) | refine below_set ?_ GE366.out | refine below_set ?_ GE367.out | refine below_set ?_ GE368.out) | exact HB.out))
      (case side3 => exact HLD.out)
      rintro e w26 ⟨v380, v383, rfl, ho0, ho1, hi, hb, hk⟩
      refine ⟨_, rfl, ?_⟩
      replace ho1 := Kd.R_N ho1
      have n0_ := Aside0.mk (Kd.N_mono (Kd.N_told (Kd.N_oldK (Kd.N_mono (ok := fun k_ => (((w.heap.size ≤ k_)) ∧ (k_ ≠ gb366 ∧ (k_ ≠ gb367 ∧ (k_ ≠ gb368 ∧ k_ ≠ gb370))))) (by (with_reducible repeat (first | apply Kd.N_alloc | apply Kd.N_drewN | apply Kd.N_drew)); exact HO_367000.out) (fun k_ hk_ => (⟨hk_, hk_.2.2.2.2⟩ : _ ∧ k_ ≠ gb370))) hk) (Kd.N_base ho1)) (fun _ h_ => h_.1))
      have n1_ := Aside0.mk (KeepBut.blk hk (g' := gb366) (o := .cells #[u367000] 23 (0, 0)) (by (with_reducible repeat (first | refine blk_drewN ?_ _ | refine blk_drew ?_ | refine blk_alloc ?_ _)); exact BK366.out) NB366_370.out (by simp))
      have n2_ := Aside0.mk (KeepBut.blk hk (g' := gb367) (o := .cells #[.int .i64 0] 3 (0, 0)) (by (with_reducible repeat (first | refine blk_drewN ?_ _ | refine blk_drew ?_ | refine blk_alloc ?_ _)); exact BK367.out) NB367_370.out (by simp))
      have n3_ := Aside0.mk (KeepBut.blk hk (g' := gb368) (o := .cells #[.int .i64 0] 24 (0, 0)) (by (with_reducible repeat (first | refine blk_drewN ?_ _ | refine blk_drew ?_ | refine blk_alloc ?_ _)); exact BK368.out) NB368_370.out (by simp))
      have n4_ := Aside0.mk (Kd.V_lower (Kd.V_mono (ok' := fun k_ => (w.heap.size ≤ k_) ∧ some k_ ≠ (v383 : Value).ownBlock ∧ some k_ ≠ (u367000 : Value).ownBlock ∧ k_ ≠ gb366 ∧ k_ ≠ gb367 ∧ k_ ≠ gb368 ∧ k_ ≠ gb370) ho0 (fun k_ hk_ => ⟨(Nat.le_trans (below_size (by repeat (first | (with_reducible first | exact HB.out | apply below_alloc | apply pw_below_drewN | apply below_drew1 | refine below_set ?_ (IsS50.ge HI370.out) | refine below_set ?_ GE366.out | refine below_set ?_ GE367.out | refine below_set ?_ GE368.out) | exact HB.out))) hk_.1), hk_.2, (Kd.fresh' (Kd.N_lt (by (with_reducible repeat (first | apply Kd.N_alloc | apply Kd.N_drewN | apply Kd.N_drew)); exact HO_367000.out)) k_ hk_.1), (Kd.freshB (g := gb366) (o := .cells #[u367000] 23 (0, 0)) (by (with_reducible repeat (first | refine blk_drewN ?_ _ | refine blk_drew ?_ | refine blk_alloc ?_ _)); exact BK366.out) k_ hk_.1), (Kd.freshB (g := gb367) (o := .cells #[.int .i64 0] 3 (0, 0)) (by (with_reducible repeat (first | refine blk_drewN ?_ _ | refine blk_drew ?_ | refine blk_alloc ?_ _)); exact BK367.out) k_ hk_.1), (Kd.freshB (g := gb368) (o := .cells #[.int .i64 0] 24 (0, 0)) (by (with_reducible repeat (first | refine blk_drewN ?_ _ | refine blk_drew ?_ | refine blk_alloc ?_ _)); exact BK368.out) k_ hk_.1), (IsS50.fresh (by repeat (first | (with_reducible first | exact HI370.out | apply IsS50.alloc | apply IsS50.drewN | apply IsS50.drew | apply IsS50.set_1 | refine IsS50.far ?_ NB370_366.out _ | refine IsS50.far ?_ NB370_367.out _ | refine IsS50.far ?_ NB370_368.out _) | exact HI370.out)) k_ hk_.1)⟩)) (below_size (by repeat (first | (with_reducible first | exact HB.out | apply below_alloc | apply pw_below_drewN | apply below_drew1 | refine below_set ?_ (IsS50.ge HI370.out) | refine below_set ?_ GE366.out | refine below_set ?_ GE367.out | refine below_set ?_ GE368.out) | exact HB.out))))
      have n5_ := Aside0.mk (Kd.N_lower (Kd.N_mono (ok' := fun k_ => (w.heap.size ≤ k_) ∧ some k_ ≠ (u367000 : Value).ownBlock ∧ k_ ≠ gb366 ∧ k_ ≠ gb367 ∧ k_ ≠ gb368 ∧ k_ ≠ gb370) ho1 (fun k_ hk_ => ⟨(Nat.le_trans (below_size (by repeat (first | (with_reducible first | exact HB.out | apply below_alloc | apply pw_below_drewN | apply below_drew1 | refine below_set ?_ (IsS50.ge HI370.out) | refine below_set ?_ GE366.out | refine below_set ?_ GE367.out | refine below_set ?_ GE368.out) | exact HB.out))) hk_), (Kd.fresh' (Kd.N_lt (by (with_reducible repeat (first | apply Kd.N_alloc | apply Kd.N_drewN | apply Kd.N_drew)); exact HO_367000.out)) k_ hk_), (Kd.freshB (g := gb366) (o := .cells #[u367000] 23 (0, 0)) (by (with_reducible repeat (first | refine blk_drewN ?_ _ | refine blk_drew ?_ | refine blk_alloc ?_ _)); exact BK366.out) k_ hk_), (Kd.freshB (g := gb367) (o := .cells #[.int .i64 0] 3 (0, 0)) (by (with_reducible repeat (first | refine blk_drewN ?_ _ | refine blk_drew ?_ | refine blk_alloc ?_ _)); exact BK367.out) k_ hk_), (Kd.freshB (g := gb368) (o := .cells #[.int .i64 0] 24 (0, 0)) (by (with_reducible repeat (first | refine blk_drewN ?_ _ | refine blk_drew ?_ | refine blk_alloc ?_ _)); exact BK368.out) k_ hk_), (IsS50.fresh (by repeat (first | (with_reducible first | exact HI370.out | apply IsS50.alloc | apply IsS50.drewN | apply IsS50.drew | apply IsS50.set_1 | refine IsS50.far ?_ NB370_366.out _ | refine IsS50.far ?_ NB370_367.out _ | refine IsS50.far ?_ NB370_368.out _) | exact HI370.out)) k_ hk_)⟩)) (below_size (by repeat (first | (with_reducible first | exact HB.out | apply below_alloc | apply pw_below_drewN | apply below_drew1 | refine below_set ?_ (IsS50.ge HI370.out) | refine below_set ?_ GE366.out | refine below_set ?_ GE367.out | refine below_set ?_ GE368.out) | exact HB.out))))
      have n6_ := Aside0.mk (hb)
      have n7_ := Aside0.mk (hi)
      clear HO_367000
      clear BK366
      clear BK367
      clear BK368
      clear HB
      clear HI370
      have HO_367000 := n0_
      have BK366 := n1_
      have BK367 := n2_
      have BK368 := n3_
      have HO381 := n4_
      have HO384 := n5_
      have HB := n6_
      have HI370 := n7_
      clear n0_ n1_ n2_ n3_ n4_ n5_ n6_ n7_
      (try clear hb)
      (try clear hb2)
      (try clear hk)
      (try clear hi)
      (try clear ho0)
      (try clear ho1)
      obtain ⟨Ao28, co28, eo28⟩ := Kd.V_slice HO381.out
      (first | subst eo28 | (injection eo28 with f1_ f2_ f3_; have f4_ := f1_.symm; have f5_ := f3_.symm; clear f1_ f2_ f3_; subst f4_; subst f5_))
      obtain ⟨Ao29, co29, eo29⟩ := Kd.N_slice HO384.out
      (first | subst eo29 | (injection eo29 with f1_ f2_ f3_; have f4_ := f1_.symm; have f5_ := f3_.symm; clear f1_ f2_ f3_; subst f4_; subst f5_))
      refine hK.out _ _ ((blk_cell BK366.out 0).trans rfl) (fun hHeld => ?_)
      clear hK K
      refine norm_ (a' := ?_) ?_ ?_
      rotate_left
      ·show Act.put _ (some 24) _ = _
       simp only [Act.put, List.setIfInBounds_toArray, List.set_cons_zero, List.set_cons_succ, i64_w, i32_w]
       rfl
      refine one_ (i := 3) (N := some 25) #[true, true, true, true, false, false] rfl rfl (by kernel_rfl) (by decide) (fun K hK => ?_)
      refine value_ (w1 := ?_) (v := ?_) (by rfl) rfl ?_ ?_
      rotate_left 2
      ·go_simp
       constructor
       ·rfl
       ·rfl
      refine hK.out _ _ ((blk_cell (blk_alloc BK366.out _) 0).trans rfl) (fun hHeld => ?_)
      clear hK K
      refine norm_ (a' := ?_) ?_ ?_
      rotate_left
      ·show Act.put _ (some 25) _ = _
       simp only [Act.put, List.setIfInBounds_toArray, List.set_cons_zero, List.set_cons_succ, i64_w, i32_w]
       rfl
      refine one_ (i := 4) (N := some 26) #[true, true, true, true, true, false] rfl rfl (by kernel_rfl) (by decide) (fun K hK => ?_)
      refine Kd.N_append_step k38 (w0 := w) w.heap.size (by rfl) (.tmp 22) (.tmp 25) 23 38 (.agg #[(.int .i64 0), (.string ⟨#[]⟩), (.int .i64 0), (.string ⟨#[]⟩), (.bool false), (.slice none 0 0), (.slice none 0 0), (.int .i64 0), (.int .i64 0)]) 120 rfl Tryd.underlying23 info38 rfl (by decide) (by omega) u367000 x367000_1 (⟨t374, t375, (⟨t376, t377, (⟨t378, t379⟩ : S30), t382, t385⟩ : S33), t386⟩ : S38) [.int .i64 t374, .string t375, .int .i64 t376, .string t377, .bool t378, .slice Ao28 t379.length co28, .slice Ao29 t382.length co29, .int .i64 t385, .int .i64 t386] (fun k_ => (w.heap.size ≤ k_) ∧ k_ ≠ gb366 ∧ k_ ≠ gb367 ∧ k_ ≠ gb368 ∧ k_ ≠ gb370) (fun k_ => ((fun k_ => (w.heap.size ≤ k_) ∧ k_ ≠ gb366 ∧ k_ ≠ gb367 ∧ k_ ≠ gb368 ∧ k_ ≠ gb370)) k_ ∧ some k_ ≠ (u367000 : Value).ownBlock) rfl rfl ?aP (fun _ hk => hk) ?aF ?aO ?aB ?aS ?aL ?_
      (case aP => exact (k38_mkF _ _ (⟨t374, t375, (⟨t376, t377, (⟨t378, t379⟩ : S30), t382, t385⟩ : S33), t386⟩ : S38) (Kd.V_reads' (Kd.V_mono (ok' := (fun k_ => ((fun k_ => (w.heap.size ≤ k_) ∧ k_ ≠ gb366 ∧ k_ ≠ gb367 ∧ k_ ≠ gb368 ∧ k_ ≠ gb370)) k_ ∧ some k_ ≠ (u367000 : Value).ownBlock)) (HO381.out) (fun k_ hk => ⟨⟨hk.1, ⟨hk.2.2.2.1, ⟨hk.2.2.2.2.1, ⟨hk.2.2.2.2.2.1, hk.2.2.2.2.2.2⟩⟩⟩⟩, hk.2.2.1⟩))).2.1 (Kd.V_F (Kd.V_mono (ok' := (fun k_ => ((fun k_ => (w.heap.size ≤ k_) ∧ k_ ≠ gb366 ∧ k_ ≠ gb367 ∧ k_ ≠ gb368 ∧ k_ ≠ gb370)) k_ ∧ some k_ ≠ (u367000 : Value).ownBlock)) (HO381.out) (fun k_ hk => ⟨⟨hk.1, ⟨hk.2.2.2.1, ⟨hk.2.2.2.2.1, ⟨hk.2.2.2.2.2.1, hk.2.2.2.2.2.2⟩⟩⟩⟩, hk.2.2.1⟩))) (Kd.N_reads' (Kd.N_mono (ok' := (fun k_ => ((fun k_ => (w.heap.size ≤ k_) ∧ k_ ≠ gb366 ∧ k_ ≠ gb367 ∧ k_ ≠ gb368 ∧ k_ ≠ gb370)) k_ ∧ some k_ ≠ (u367000 : Value).ownBlock)) (HO384.out) (fun k_ hk => ⟨⟨hk.1, ⟨hk.2.2.1, ⟨hk.2.2.2.1, ⟨hk.2.2.2.2.1, hk.2.2.2.2.2⟩⟩⟩⟩, hk.2.1⟩))).2.1 (Kd.N_F (Kd.N_mono (ok' := (fun k_ => ((fun k_ => (w.heap.size ≤ k_) ∧ k_ ≠ gb366 ∧ k_ ≠ gb367 ∧ k_ ≠ gb368 ∧ k_ ≠ gb370)) k_ ∧ some k_ ≠ (u367000 : Value).ownBlock)) (HO384.out) (fun k_ hk => ⟨⟨hk.1, ⟨hk.2.2.1, ⟨hk.2.2.2.1, ⟨hk.2.2.2.2.1, hk.2.2.2.2.2⟩⟩⟩⟩, hk.2.1⟩)))))
      (case aB => exact (by repeat (first | (with_reducible first | exact HB.out | apply below_alloc | apply pw_below_drewN | apply below_drew1 | refine below_set ?_ (IsS50.ge HI370.out) | refine below_set ?_ GE366.out | refine below_set ?_ GE367.out | refine below_set ?_ GE368.out) | exact HB.out)))
      (case aF => exact (fun k_ hk => ⟨(Nat.le_trans (below_size (by repeat (first | (with_reducible first | exact HB.out | apply below_alloc | apply pw_below_drewN | apply below_drew1 | refine below_set ?_ (IsS50.ge HI370.out) | refine below_set ?_ GE366.out | refine below_set ?_ GE367.out | refine below_set ?_ GE368.out) | exact HB.out))) hk), Kd.freshB (g := gb366) (o := .cells #[u367000] 23 (0, 0)) (by (with_reducible repeat (first | refine blk_drewN ?_ _ | refine blk_drew ?_ | refine blk_alloc ?_ _)); exact BK366.out) k_ hk, Kd.freshB (g := gb367) (o := .cells #[.int .i64 0] 3 (0, 0)) (by (with_reducible repeat (first | refine blk_drewN ?_ _ | refine blk_drew ?_ | refine blk_alloc ?_ _)); exact BK367.out) k_ hk, Kd.freshB (g := gb368) (o := .cells #[.int .i64 0] 24 (0, 0)) (by (with_reducible repeat (first | refine blk_drewN ?_ _ | refine blk_drew ?_ | refine blk_alloc ?_ _)); exact BK368.out) k_ hk, IsS50.fresh (by repeat (first | (with_reducible first | exact HI370.out | apply IsS50.alloc | apply IsS50.drewN | apply IsS50.drew | apply IsS50.set_1 | refine IsS50.far ?_ NB370_366.out _ | refine IsS50.far ?_ NB370_367.out _ | refine IsS50.far ?_ NB370_368.out _) | exact HI370.out)) k_ hk⟩))
      (case aO => exact (by (with_reducible repeat (first | apply Kd.N_alloc | apply Kd.N_drewN | apply Kd.N_drew)); exact Kd.N_mono HO_367000.out (fun _ hk => ⟨hk.1.1, ⟨hk.1.2.1, ⟨hk.1.2.2.1, ⟨hk.1.2.2.2.1, hk.1.2.2.2.2⟩⟩⟩⟩)))
      (case aS => exact (below_size (by repeat (first | (with_reducible first | exact HB.out | apply below_alloc | apply pw_below_drewN | apply below_drew1 | refine below_set ?_ (IsS50.ge HI370.out) | refine below_set ?_ GE366.out | refine below_set ?_ GE367.out | refine below_set ?_ GE368.out) | exact HB.out))))
      (case aL => have := LMc22.out; omega)
      intro v389 w27 ho hb hg hat
      rw [← Ny388.out] at ho
      have n0_ := Aside0.mk (blk_grown (g := gb366) (o := .cells #[u367000] 23 (0, 0)) (by (with_reducible repeat (first | refine blk_drewN ?_ _ | refine blk_drew ?_ | refine blk_alloc ?_ _)); exact BK366.out) hg (Kd.N_ne HO_367000.out BK366.out (by decide)))
      have n1_ := Aside0.mk (blk_grown (g := gb367) (o := .cells #[.int .i64 0] 3 (0, 0)) (by (with_reducible repeat (first | refine blk_drewN ?_ _ | refine blk_drew ?_ | refine blk_alloc ?_ _)); exact BK367.out) hg (Kd.N_ne HO_367000.out BK367.out (by decide)))
      have n2_ := Aside0.mk (blk_grown (g := gb368) (o := .cells #[.int .i64 0] 24 (0, 0)) (by (with_reducible repeat (first | refine blk_drewN ?_ _ | refine blk_drew ?_ | refine blk_alloc ?_ _)); exact BK368.out) hg (Kd.N_ne HO_367000.out BK368.out (by decide)))
      have n3_ := Aside0.mk (IsS50.grown (by repeat (first | (with_reducible first | exact HI370.out | apply IsS50.alloc | apply IsS50.drewN | apply IsS50.drew | apply IsS50.set_1 | refine IsS50.far ?_ NB370_366.out _ | refine IsS50.far ?_ NB370_367.out _ | refine IsS50.far ?_ NB370_368.out _) | exact HI370.out)) hg (IsS50.own_neN HI370.out HO_367000.out (by decide)))
      have n4_ := Aside0.mk (Kd.V_afterv (ok := (fun k_ => (w.heap.size ≤ k_) ∧ some k_ ≠ (.slice Ao29 t382.length co29 : Value).ownBlock ∧ k_ ≠ gb366 ∧ k_ ≠ gb367 ∧ k_ ≠ gb368 ∧ k_ ≠ gb370)) (by (with_reducible repeat (first | apply Kd.V_alloc | apply Kd.V_drewN | apply Kd.V_drew)); exact Kd.V_mono HO381.out (fun _ hk => ⟨⟨hk.1, ⟨hk.2.1, ⟨hk.2.2.2.1, ⟨hk.2.2.2.2.1, ⟨hk.2.2.2.2.2.1, hk.2.2.2.2.2.2⟩⟩⟩⟩⟩, hk.2.2.1⟩)) hg hat)
      have n5_ := Aside0.mk (hb)
      have n6_ := Aside0.mk (ho)
      clear BK366
      clear BK367
      clear BK368
      clear HI370
      clear HO381
      clear HB
      clear HO_367000
      clear HO384
      have BK366 := n0_
      have BK367 := n1_
      have BK368 := n2_
      have HI370 := n3_
      have HO381 := n4_
      have HB := n5_
      have HO390 := n6_
      clear n0_ n1_ n2_ n3_ n4_ n5_ n6_
      clear ho hb hg hat
      obtain ⟨Ao30, co30, eo30⟩ := Kd.N_slice HO390.out
      (first | subst eo30 | (injection eo30 with f1_ f2_ f3_; have f4_ := f1_.symm; have f5_ := f3_.symm; clear f1_ f2_ f3_; subst f4_; subst f5_))
      refine hK.out _ _ ((blk_cell BK366.out 0).trans rfl) (fun hHeld => ?_)
      clear hK K
      refine norm_ (a' := ?_) ?_ ?_
      rotate_left
      ·show Act.put _ (some 26) _ = _
       simp only [Act.put, List.setIfInBounds_toArray, List.set_cons_zero, List.set_cons_succ, i64_w, i32_w]
       rfl
      refine last_ (i := 5) (N := none) #[true, true, true, true, true, true] rfl rfl (by kernel_rfl) (by decide) (fun K hK => ?_)
      have hs31 : w27.cell? ⟨gb366, 0, none⟩ = some (u367000) := (blk_cell BK366.out 0).trans rfl
      have hfs31 := blk_frozen BK366.out 0
      have hns31_1 := NB367_366.out
      have hns31_2 := NB368_366.out
      have hms31_1 := NB366_367.out
      have hms31_2 := NB366_368.out
      refine skip_ (w1 := ?_) (by rfl) rfl ?_ ?_
      rotate_left
      ·go_simp
       rfl
      refine hK.out _ _ ?_
      clear hK K
      refine done_ (by kernel_rfl) ?_
      try go_wp2_with (first | ((with_reducible refine gate_callee (f := 13) rfl ?_); refine goesL_ (some 21) rfl rfl Tryd.func13 (by kernel_rfl) rfl #[.pointer (some ⟨gb370, 0, none⟩)] rfl (by (try simp only [List.map_toArray, List.map_cons, List.map_nil]); first | done | rfl | (simp only [List.length_drop, List.length_take]; rfl)) ?_; (with_reducible refine (token_scanner_blanks.calls k1 gb370 l0 t387 t391 w _ ?side1 ?side2 A23.out).mono ?_); (case side1 => repeat (first | (with_reducible first | exact HI370.out | apply IsS50.alloc | apply IsS50.drewN | apply IsS50.drew | apply IsS50.set_1 | refine IsS50.far ?_ NB370_366.out _ | refine IsS50.far ?_ NB370_367.out _ | refine IsS50.far ?_ NB370_368.out _) | exact HI370.out)); (case side2 => repeat (first | (with_reducible first | exact HB.out | apply below_alloc | apply pw_below_drewN | apply below_drew1 | refine below_set ?_ (IsS50.ge HI370.out) | refine below_set ?_ GE366.out | refine below_set ?_ GE367.out | refine below_set ?_ GE368.out) | exact HB.out)); rintro e w32 ⟨rfl, hi, hb, hk⟩; refine ⟨_, rfl, ?_⟩; have n0_ := Aside0.mk (KeepBut.blk hk (g' := gb366) (o := .cells #[.slice Ao30 y388.length co30] 23 (0, 0)) (by (with_reducible repeat (first | refine blk_drewN ?_ _ | refine blk_drew ?_ | refine blk_alloc ?_ _)); refine blk_put (cs := #[u367000]) ?_ 0 _ rfl; (with_reducible repeat (first | refine blk_drewN ?_ _ | refine blk_drew ?_ | refine blk_alloc ?_ _)); exact BK366.out) NB366_370.out (by simp)); have n1_ := Aside0.mk (KeepBut.blk hk (g' := gb367) (o := .cells #[.int .i64 0] 3 (0, 0)) (by (with_reducible repeat (first | refine blk_drewN ?_ _ | refine blk_drew ?_ | refine blk_alloc ?_ _)); refine blk_far ?_ NB367_366.out _; (with_reducible repeat (first | refine blk_drewN ?_ _ | refine blk_drew ?_ | refine blk_alloc ?_ _)); exact BK367.out) NB367_370.out (by simp)); have n2_ := Aside0.mk (KeepBut.blk hk (g' := gb368) (o := .cells #[.int .i64 0] 24 (0, 0)) (by (with_reducible repeat (first | refine blk_drewN ?_ _ | refine blk_drew ?_ | refine blk_alloc ?_ _)); refine blk_far ?_ NB368_366.out _; (with_reducible repeat (first | refine blk_drewN ?_ _ | refine blk_drew ?_ | refine blk_alloc ?_ _)); exact BK368.out) NB368_370.out (by simp)); have n3_ := Aside0.mk (Kd.N_mono (Kd.N_keep (Kd.N_mono (ok := fun k_ => (((w.heap.size ≤ k_)) ∧ (k_ ≠ gb366 ∧ (k_ ≠ gb367 ∧ (k_ ≠ gb368 ∧ k_ ≠ gb370))))) (by (with_reducible repeat (first | apply Kd.N_alloc | apply Kd.N_drewN | apply Kd.N_drew)); exact (Kd.N_mono (Kd.N_far (p := ⟨gb366, 0, none⟩) (Kd.N_mono HO390.out (fun k_ hk => (⟨hk, hk.2.1⟩ : _ ∧ k_ ≠ gb366))) (fun _ hk => hk.2) (.slice Ao30 y388.length co30)) (fun _ h_ => h_.1))) (fun k_ hk_ => (⟨hk_, hk_.2.2.2.2⟩ : _ ∧ k_ ≠ gb370))) hk (fun _ h => h.2)) (fun _ h => h.1)); have n4_ := Aside0.mk (hb); have n5_ := Aside0.mk (hi); clear BK366; clear BK367; clear BK368; clear HO390; clear HB; clear HI370; have BK366 := n0_; have BK367 := n1_; have BK368 := n2_; have HO390 := n3_; have HB := n4_; have HI370 := n5_; clear n0_ n1_ n2_ n3_ n4_ n5_; (try clear hb); (try clear hb2); (try clear hk); (try clear hi)))
      go_roundg k1
      case measure => have := HK1.out; omega
      case rel => exact ⟨(y388), (t391), (.slice Ao30 y388.length co30), H', ⟨by have := HK1.out; omega⟩, ⟨by (with_reducible repeat (first | apply Kd.N_alloc | apply Kd.N_drewN | apply Kd.N_drew)); exact HO390.out⟩, ⟨by (with_reducible repeat (first | refine blk_drewN ?_ _ | refine blk_drew ?_ | refine blk_alloc ?_ _)); exact BK366.out⟩, ⟨by (with_reducible repeat (first | refine blk_drewN ?_ _ | refine blk_drew ?_ | refine blk_alloc ?_ _)); exact BK367.out⟩, ⟨by (with_reducible repeat (first | refine blk_drewN ?_ _ | refine blk_drew ?_ | refine blk_alloc ?_ _)); exact BK368.out⟩, ⟨by repeat (first | (with_reducible first | exact HI370.out | apply IsS50.alloc | apply IsS50.drewN | apply IsS50.drew | apply IsS50.set_1 | refine IsS50.far ?_ NB370_366.out _ | refine IsS50.far ?_ NB370_367.out _ | refine IsS50.far ?_ NB370_368.out _) | exact HI370.out)⟩, ⟨by repeat (first | (with_reducible first | exact HB.out | apply below_alloc | apply pw_below_drewN | apply below_drew1 | refine below_set ?_ (IsS50.ge HI370.out) | refine below_set ?_ GE366.out | refine below_set ?_ GE367.out | refine below_set ?_ GE368.out) | exact HB.out)⟩⟩
     ·rw [if_neg c22] at H
      exact absurd H (by simp)
    ·replace c20 := Bool.eq_false_iff.mpr c20
     subst c20
     have H1 : (some (x367000_1, 0, 0)) = some (r1, r2, r3) := by rw [if_neg (show ¬ (false = true) by decide)] at H; exact H
     clear H
     have H := H1
     clear H1
     simp only [Option.some.injEq, Prod.mk.injEq] at H
     obtain ⟨rfl, rfl, rfl⟩ := H
     go_wp2_with (first | ((with_reducible refine gate_callee (f := 14) rfl ?_); refine goesL_ (some 19) rfl rfl Tryd.func14 (by kernel_rfl) rfl #[.pointer (some ⟨gb370, 0, none⟩), .int .i64 1] rfl (by (try simp only [List.map_toArray, List.map_cons, List.map_nil]); first | done | rfl | (simp only [List.length_drop, List.length_take]; rfl)) ?_; (with_reducible refine (token_scanner_left.calls gb370 l0 x371001_1 1 false t373 w _ ?side1 ?side2 A19.out).mono ?_); (case side1 => repeat (first | (with_reducible first | exact HI370.out | apply IsS50.alloc | apply IsS50.drewN | apply IsS50.drew | apply IsS50.set_1 | refine IsS50.far ?_ NB370_366.out _ | refine IsS50.far ?_ NB370_367.out _ | refine IsS50.far ?_ NB370_368.out _) | exact HI370.out)); (case side2 => repeat (first | (with_reducible first | exact HB.out | apply below_alloc | apply pw_below_drewN | apply below_drew1 | refine below_set ?_ (IsS50.ge HI370.out) | refine below_set ?_ GE366.out | refine below_set ?_ GE367.out | refine below_set ?_ GE368.out) | exact HB.out)); rintro e w33 ⟨rfl, hi, hb, hk⟩; refine ⟨_, rfl, ?_⟩; have n0_ := Aside0.mk (Kd.N_mono (Kd.N_keep (Kd.N_mono (ok := fun k_ => (((w.heap.size ≤ k_)) ∧ (k_ ≠ gb366 ∧ (k_ ≠ gb367 ∧ (k_ ≠ gb368 ∧ k_ ≠ gb370))))) (by (with_reducible repeat (first | apply Kd.N_alloc | apply Kd.N_drewN | apply Kd.N_drew)); exact HO_367000.out) (fun k_ hk_ => (⟨hk_, hk_.2.2.2.2⟩ : _ ∧ k_ ≠ gb370))) hk (fun _ h => h.2)) (fun _ h => h.1)); have n1_ := Aside0.mk (KeepBut.blk hk (g' := gb366) (o := .cells #[u367000] 23 (0, 0)) (by (with_reducible repeat (first | refine blk_drewN ?_ _ | refine blk_drew ?_ | refine blk_alloc ?_ _)); exact BK366.out) NB366_370.out (by simp)); have n2_ := Aside0.mk (KeepBut.blk hk (g' := gb367) (o := .cells #[.int .i64 0] 3 (0, 0)) (by (with_reducible repeat (first | refine blk_drewN ?_ _ | refine blk_drew ?_ | refine blk_alloc ?_ _)); exact BK367.out) NB367_370.out (by simp)); have n3_ := Aside0.mk (KeepBut.blk hk (g' := gb368) (o := .cells #[.int .i64 0] 24 (0, 0)) (by (with_reducible repeat (first | refine blk_drewN ?_ _ | refine blk_drew ?_ | refine blk_alloc ?_ _)); exact BK368.out) NB368_370.out (by simp)); have n4_ := Aside0.mk (hb); have n5_ := Aside0.mk (hi); clear HO_367000; clear BK366; clear BK367; clear BK368; clear HB; clear HI370; have HO_367000 := n0_; have BK366 := n1_; have BK367 := n2_; have BK368 := n3_; have HB := n4_; have HI370 := n5_; clear n0_ n1_ n2_ n3_ n4_ n5_; (try clear hb); (try clear hb2); (try clear hk); (try clear hi); have hnb34 := NB366_367.out; have hnc34 := NB367_366.out; have hnb35 := NB366_368.out; have hnc35 := NB368_366.out; have hnb36 := NB366_370.out; have hnc36 := NB370_366.out; have hcz37_0 : w33.cell? ⟨gb366, 0, none⟩ = some (u367000) := (blk_cell BK366.out 0).trans rfl; have hfz37_0 := blk_frozen BK366.out 0; obtain ⟨Ao38, co38, eo38⟩ := Kd.N_slice HO_367000.out; subst eo38; have hnb39 := NB367_368.out; have hnc39 := NB368_367.out; have hnb40 := NB367_370.out; have hnc40 := NB370_367.out; have hcz41_0 : w33.cell? ⟨gb367, 0, none⟩ = some (.int .i64 0) := (blk_cell BK367.out 0).trans rfl; have hfz41_0 := blk_frozen BK367.out 0; have hnb42 := NB368_370.out; have hnc42 := NB370_368.out; have hcz43_0 : w33.cell? ⟨gb368, 0, none⟩ = some (.int .i64 0) := (blk_cell BK368.out 0).trans rfl; have hfz43_0 := blk_frozen BK368.out 0))
     (try simp only [Exit.inBlock, Exit.then])
     first | skip
     first | refine leavesD_retx (rs := [.cell 2 23, .cell 3 3, .cell 4 24]) (by rfl) rfl (by simp) (.plain gb366 23 (.slice Ao38 x367000_1.length co38) _ rfl (by (with_reducible repeat (first | refine blk_drewN ?_ _ | refine blk_drew ?_ | refine blk_alloc ?_ _)); refine blk_far ?_ NB366_368.out _; (with_reducible repeat (first | refine blk_drewN ?_ _ | refine blk_drew ?_ | refine blk_alloc ?_ _)); refine blk_far ?_ NB366_367.out _; (with_reducible repeat (first | refine blk_drewN ?_ _ | refine blk_drew ?_ | refine blk_alloc ?_ _)); refine blk_put (cs := #[.slice Ao38 x367000_1.length co38]) ?_ 0 _ rfl; (with_reducible repeat (first | refine blk_drewN ?_ _ | refine blk_drew ?_ | refine blk_alloc ?_ _)); exact BK366.out) Tryd.underlying23 rfl (.plain gb367 3 (.int .i64 0) _ rfl (by (with_reducible repeat (first | refine blk_drewN ?_ _ | refine blk_drew ?_ | refine blk_alloc ?_ _)); refine blk_far ?_ NB367_368.out _; (with_reducible repeat (first | refine blk_drewN ?_ _ | refine blk_drew ?_ | refine blk_alloc ?_ _)); refine blk_put (cs := #[.int .i64 0]) ?_ 0 _ rfl; (with_reducible repeat (first | refine blk_drewN ?_ _ | refine blk_drew ?_ | refine blk_alloc ?_ _)); refine blk_far ?_ NB367_366.out _; (with_reducible repeat (first | refine blk_drewN ?_ _ | refine blk_drew ?_ | refine blk_alloc ?_ _)); exact BK367.out) Tryd.underlying3 rfl (.plain gb368 24 (.int .i64 0) _ rfl (by (with_reducible repeat (first | refine blk_drewN ?_ _ | refine blk_drew ?_ | refine blk_alloc ?_ _)); refine blk_put (cs := #[.int .i64 0]) ?_ 0 _ rfl; (with_reducible repeat (first | refine blk_drewN ?_ _ | refine blk_drew ?_ | refine blk_alloc ?_ _)); refine blk_far ?_ NB368_367.out _; (with_reducible repeat (first | refine blk_drewN ?_ _ | refine blk_drew ?_ | refine blk_alloc ?_ _)); refine blk_far ?_ NB368_366.out _; (with_reducible repeat (first | refine blk_drewN ?_ _ | refine blk_drew ?_ | refine blk_alloc ?_ _)); exact BK368.out) Tryd.underlying24 rfl .nil))) ?_ | (refine leavesD_cons (f := 12) (by rfl) (by first | rfl | simp [go_sem]) ?_; refine (token_Scan_2_idle _ _ _ _).mono ?_; rintro e_ u_ w_ ⟨rfl, rfl, rfl⟩; refine leaves_retx (rs := [.cell 2 23, .cell 3 3, .cell 4 24]) rfl (by simp) (.plain gb366 23 (.slice Ao38 x367000_1.length co38) _ rfl (by (with_reducible repeat (first | refine blk_drewN ?_ _ | refine blk_drew ?_ | refine blk_alloc ?_ _)); refine blk_far ?_ NB366_368.out _; (with_reducible repeat (first | refine blk_drewN ?_ _ | refine blk_drew ?_ | refine blk_alloc ?_ _)); refine blk_far ?_ NB366_367.out _; (with_reducible repeat (first | refine blk_drewN ?_ _ | refine blk_drew ?_ | refine blk_alloc ?_ _)); refine blk_put (cs := #[.slice Ao38 x367000_1.length co38]) ?_ 0 _ rfl; (with_reducible repeat (first | refine blk_drewN ?_ _ | refine blk_drew ?_ | refine blk_alloc ?_ _)); exact BK366.out) Tryd.underlying23 rfl (.plain gb367 3 (.int .i64 0) _ rfl (by (with_reducible repeat (first | refine blk_drewN ?_ _ | refine blk_drew ?_ | refine blk_alloc ?_ _)); refine blk_far ?_ NB367_368.out _; (with_reducible repeat (first | refine blk_drewN ?_ _ | refine blk_drew ?_ | refine blk_alloc ?_ _)); refine blk_put (cs := #[.int .i64 0]) ?_ 0 _ rfl; (with_reducible repeat (first | refine blk_drewN ?_ _ | refine blk_drew ?_ | refine blk_alloc ?_ _)); refine blk_far ?_ NB367_366.out _; (with_reducible repeat (first | refine blk_drewN ?_ _ | refine blk_drew ?_ | refine blk_alloc ?_ _)); exact BK367.out) Tryd.underlying3 rfl (.plain gb368 24 (.int .i64 0) _ rfl (by (with_reducible repeat (first | refine blk_drewN ?_ _ | refine blk_drew ?_ | refine blk_alloc ?_ _)); refine blk_put (cs := #[.int .i64 0]) ?_ 0 _ rfl; (with_reducible repeat (first | refine blk_drewN ?_ _ | refine blk_drew ?_ | refine blk_alloc ?_ _)); refine blk_far ?_ NB368_367.out _; (with_reducible repeat (first | refine blk_drewN ?_ _ | refine blk_drew ?_ | refine blk_alloc ?_ _)); refine blk_far ?_ NB368_366.out _; (with_reducible repeat (first | refine blk_drewN ?_ _ | refine blk_drew ?_ | refine blk_alloc ?_ _)); exact BK368.out) Tryd.underlying24 rfl .nil))) ?_)
     exact ⟨_, by first | rfl | (simp [errW_none, errW_some] <;> rfl) | (simp [*, errW_none, errW_some] <;> rfl), by (with_reducible repeat (first | apply Kd.N_alloc | apply Kd.N_drewN | apply Kd.N_drew)); exact Kd.N_mono (Kd.N_far (p := ⟨gb368, 0, none⟩) (Kd.N_far (p := ⟨gb367, 0, none⟩) (Kd.N_far (p := ⟨gb366, 0, none⟩) (Kd.N_mono (Kd.N_mono (Kd.N_mono HO_367000.out (fun k_ hk => (⟨hk, hk.2.1⟩ : _ ∧ k_ ≠ gb366))) (fun k_ hk => (⟨hk, hk.1.2.2.1⟩ : _ ∧ k_ ≠ gb367))) (fun k_ hk => (⟨hk, hk.1.1.2.2.2.1⟩ : _ ∧ k_ ≠ gb368))) (fun _ hk => hk.1.1.2) (.slice Ao38 x367000_1.length co38)) (fun _ hk => hk.1.2) (.int .i64 0)) (fun _ hk => hk.2) (.int .i64 0)) (fun _ hk => hk.1.1.1.1), by repeat (first | (with_reducible first | exact HB.out | apply below_alloc | apply pw_below_drewN | apply below_drew1 | refine below_set ?_ (IsS50.ge HI370.out) | refine below_set ?_ GE366.out | refine below_set ?_ GE367.out | refine below_set ?_ GE368.out) | exact HB.out)⟩
end Go.Proofs.YtefefpkgiecikaaDoor.P
namespace Go.Proofs.YtefefpkgiecikaaDoor.P
open Go.RowKit Go.Proofs.YtefefpkgiecikaaDoorW.PrintWords Go.Proofs.YtefefpkgiecikaaDoorW.PrintLast Go.Proofs.YtefefpkgiecikaaDoorW.PrintMore
attribute [local go_sem] max2_int min2_int max_two min_two max_three min_three max_four min_four
set_option linter.unusedVariables false
set_option linter.unusedSimpArgs false
def marginalialaw03_answers.f (k : Nat)  : Option (Bool) := (token_Scan.f k (([40, 97, 41] : List Int))).bind fun bt395 => (if bt395.2.2 = 0 then (if (bt395.1.length : Int) = 3 then (if 1 < (bt395.1.length : Int) then (some (((rd_T38 bt395.1 1).f2.f1).toList == ([97] : List UInt8))) else (none)) else (some false)) else (some false))
theorem marginalialaw03_answers.mono : ∀ k, LeO (marginalialaw03_answers.f k ) (marginalialaw03_answers.f (k + 1) ) := by
 intro  k
 unfold marginalialaw03_answers.f
 repeat' first
   | (with_reducible exact token_Scan.mono _ _)
   | (with_reducible exact LeO.refl _)
   | (with_reducible exact LeO.none _)
   | (with_reducible refine LeO.ite ?_ ?_)
   | (with_reducible refine LeO.bind ?_ (fun _ => ?_))
   | exact token_Scan.mono _ _
   | exact LeO.none _
   | refine LeO.ite ?_ ?_
   | refine LeO.bind ?_ (fun _ => ?_)
set_option maxHeartbeats 8000000 in
set_option maxRecDepth 100000 in
theorem marginalialaw03_answers.calls (k : Nat)  (r : Bool) (w : World) (hLD : LD w) (h : marginalialaw03_answers.f k  = some r) :
  Calls Tryd.prog 7 #[] w fun e w' => e = .returned (.bool r) ∧ Below w.heap.size w w' := by
 have HLD := Aside0.mk hLD
 clear hLD
 have HB := Aside0.mk (Below.refl w.heap.size w)
 have H : ((token_Scan.f k (([40, 97, 41] : List Int))).bind fun bt395 => (if bt395.2.2 = 0 then (if (bt395.1.length : Int) = 3 then (if 1 < (bt395.1.length : Int) then (some (((rd_T38 bt395.1 1).f2.f1).toList == ([97] : List UInt8))) else (none)) else (some false)) else (some false))) = some r := h
 clear h
 obtain ⟨y392, hy392⟩ : ∃ y_ : List Int, y_ = (([40, 97, 41] : List Int)) := ⟨_, rfl⟩
 replace H : ((token_Scan.f k y392).bind fun bt395 => (if bt395.2.2 = 0 then (if (bt395.1.length : Int) = 3 then (if 1 < (bt395.1.length : Int) then (some (((rd_T38 bt395.1 1).f2.f1).toList == ([97] : List UInt8))) else (none)) else (some false)) else (some false))) = some r := by first | (rw [hy392]; with_reducible exact H) | (have H2_ := (Option.bind_some _ _).symm.trans H; rw [hy392]; with_reducible exact H2_) | (have H2_ := (Option.bind_some _ _).symm.trans H; with_reducible exact H2_) | with_reducible exact H | (rw [hy392]; exact H) | exact H
 have Ny392 := Aside0.mk hy392
 clear hy392
 replace H := Option.bind_eq_some_iff.mp H
 obtain ⟨⟨t395, t398, t399⟩, A10, H⟩ := H
 replace H : (if t399 = 0 then (if (t395.length : Int) = 3 then (if 1 < (t395.length : Int) then (some (((rd_T38 t395 1).f2.f1).toList == ([97] : List UInt8))) else (none)) else (some false)) else (some false)) = some r := H
 have A1 := Aside0.mk A10
 clear A10
 by_cases c2 : t399 = 0
 ·rw [if_pos c2] at H
  have c2b0 : (t399 == 0) = true := beq_iff_eq.mpr c2
  have c2b1 : (t399 != 0) = false := bne_eq_false_iff_eq.mpr c2
  clear c2
  by_cases c3 : (t395.length : Int) = 3
  ·rw [if_pos c3] at H
   have c3b0 : ((t395.length : Int) == 3) = true := beq_iff_eq.mpr c3
   have c3b1 : ((t395.length : Int) != 3) = false := bne_eq_false_iff_eq.mpr c3
   clear c3
   by_cases c4 : 1 < (t395.length : Int)
   ·rw [if_pos c4] at H
    have c4b0 : decide (1 < (t395.length : Int)) = true := decide_eq_true c4
    have c4b1 : decide (1 < t395.length) = true := decide_eq_true (by omega)
    clear c4
    obtain rfl := Option.some.inj H
    go_enter Tryd.func7, Tryd.ntmps7
    go_wp2_with (first | ((with_reducible refine gate_dst (N := 5) rfl ?_); (try (refine gate_guard (by rfl) ?_; dsimp only)); refine Kd.R_lit (Kd.int .i64) _ 3 ?hg (N := 5) ?hd (xs := ([40, 97, 41] : List Int)) (inner := [.int .i64 40, .int .i64 97, .int .i64 41]) (ok := fun _ => True) (okp := fun _ => True) ?hr ?hp (fun _ hk => hk) trivial (Below.refl _ _) (Nat.le_refl _) (by simp) ?_; (case hd => rfl); (case hg => rfl); (case hr => first | (go_simp; done) | (go_simp; rfl)); (case hp => exact (Reps.one (show Kd.M (Kd.int .i64) _ _ _ 40 [.int .i64 40] from rfl) (Reps.one (show Kd.M (Kd.int .i64) _ _ _ 97 [.int .i64 97] from rfl) (Reps.one (show Kd.M (Kd.int .i64) _ _ _ 41 [.int .i64 41] from rfl) (Reps.none _ _))))); intro v393 w5 ho6 hb hg_ hnew_; clear hg_ hnew_; (first | rw [← Ny392.out] at ho6 | (simp only [Int.reduceToNat] at ho6; rw [← Ny392.out] at ho6)); have n0_ := Aside0.mk (Kd.R_lower ho6 (below_size (by repeat (first | (with_reducible first | exact HB.out | apply below_alloc | apply pw_below_drewN | apply below_drew1) | exact HB.out)))); have n1_ := Aside0.mk (below_step (by repeat (first | (with_reducible first | exact HB.out | apply below_alloc | apply pw_below_drewN | apply below_drew1) | exact HB.out)) hb); clear HB; have HO394 := n0_; have HB := n1_; clear n0_ n1_; clear hb ho6; obtain ⟨Ao7, co7, eo7⟩ := Kd.R_slice HO394.out; subst eo7) | ((with_reducible refine gate_callee (f := 5) rfl ?_); refine goesL_ (some 6) rfl rfl Tryd.func5 (by kernel_rfl) rfl #[.slice Ao7 y392.length co7] rfl (by (try simp only [List.map_toArray, List.map_cons, List.map_nil]); first | done | rfl | (simp only [List.length_drop, List.length_take]; rfl)) ?_; (with_reducible refine (token_Scan.calls k _ _ y392 t395 t398 t399 _ ?side1 ?side2 ?side3 A1.out).mono ?_); (case side1 => exact LD.below HLD.out (by repeat (first | (with_reducible first | exact HB.out | apply below_alloc | apply pw_below_drewN | apply below_drew1) | exact HB.out))); (case side2 => repeat (first | exact (Kd.R_reads' HO394.out).2.2 | (with_reducible refine Kd.C_alloc ?_ _) | (with_reducible refine Kd.C_drewN ?_ _) | (with_reducible refine Kd.C_drew ?_))); (case side3 => exact (Kd.R_reads' HO394.out).2.1); rintro e w8 ⟨v396, rfl, ho0, hb⟩; refine ⟨_, rfl, ?_⟩; have n0_ := Aside0.mk (Kd.R_below (by (with_reducible repeat (first | apply Kd.R_alloc | apply Kd.R_drewN | apply Kd.R_drew)); exact HO394.out) hb); have n1_ := Aside0.mk (Kd.N_lower (Kd.N_mono (ok' := fun k_ => some k_ ≠ (.slice Ao7 y392.length co7 : Value).ownBlock) ho0 (fun k_ hk_ => (Kd.fresh' (Kd.R_lt (by (with_reducible repeat (first | apply Kd.R_alloc | apply Kd.R_drewN | apply Kd.R_drew)); exact HO394.out)) k_ hk_))) (below_size (by repeat (first | (with_reducible first | exact HB.out | apply below_alloc | apply pw_below_drewN | apply below_drew1) | exact HB.out)))); have n2_ := Aside0.mk (below_step (by repeat (first | (with_reducible first | exact HB.out | apply below_alloc | apply pw_below_drewN | apply below_drew1) | exact HB.out)) hb); clear HO394; clear HB; have HO394 := n0_; have HO397 := n1_; have HB := n2_; clear n0_ n1_ n2_; (try clear hb); (try clear hb2); (try clear hk); (try clear hi); (try clear ho0); obtain ⟨Ao9, co9, eo9⟩ := Kd.N_slice HO397.out; subst eo9; have p400 : 0 ≤ (1 : Int) := (by omega); have q400 : 1 < (t395.length : Int) := of_decide_eq_true (by first | (with_reducible assumption) | assumption); obtain ⟨ad400, A400_5, c400_5, A400_6, c400_6, e400, hx400_0, hx400_1, hx400_2, hx400_3, hx400_4, hx400_5, hx400_6, hx400_7, hx400_8, hl400_5, hi400_5, hl400_6, hi400_6⟩ := at_T38 (Kd.N_reads' HO397.out).2.2 1 p400 q400; cases e400; obtain ⟨ce400, hce400, hMe400, hcc400⟩ := Kd.N_get HO397.out z38 1 p400 (by first | exact q400 | exact of_decide_eq_true (by first | (with_reducible assumption) | assumption) | (have e_ := (Kd.N_reads' HO397.out).1; omega)); obtain ⟨ua400_5, uc400_5, ua400_6, uc400_6, rfl, ul400_5, ge400_5, ul400_6, ge400_6⟩ := k38_openF hMe400; have hv400_5 := hcc400 5 _ rfl; rw [add_field _ _ 5 (by omega)] at hv400_5; replace hv400_5 := Option.some.inj (hv400_5.symm.trans hx400_5); injection hv400_5 with hva_ hvn_ hvc_; rw [hva_] at ge400_5; rw [hvc_] at ul400_5; have HL400_5 := Aside0.mk (show Kd.V (Kd.int .u32) 73 _ w.heap.size _ _ ((rd_T38 t395 1).f2.f2.f1) from Kd.V_mk ul400_5 ge400_5); clear hva_ hvn_ hvc_ ge400_5 ul400_5; have hv400_6 := hcc400 6 _ rfl; rw [add_field _ _ 6 (by omega)] at hv400_6; replace hv400_6 := Option.some.inj (hv400_6.symm.trans hx400_6); injection hv400_6 with hva_ hvn_ hvc_; rw [hva_] at ge400_6; rw [hvc_] at ul400_6; have HL400_6 := Aside0.mk (show Kd.V k33 33 _ w.heap.size _ _ ((rd_T38 t395 1).f2.f3) from Kd.V_mk ul400_6 ge400_6); clear hva_ hvn_ hvc_ ge400_6 ul400_6; clear hcc400 hce400; (try simp only [show (1 : Int).toNat = 1 from rfl, Nat.reduceMul, Nat.reduceEqDiff, Go.Addr.add, ↓reduceIte] at hx400_0); (try simp only [show (1 : Int).toNat = 1 from rfl, Nat.reduceMul, Nat.reduceEqDiff, Go.Addr.add, ↓reduceIte] at hx400_1); (try simp only [show (1 : Int).toNat = 1 from rfl, Nat.reduceMul, Nat.reduceEqDiff, Go.Addr.add, ↓reduceIte] at hx400_2); (try simp only [show (1 : Int).toNat = 1 from rfl, Nat.reduceMul, Nat.reduceEqDiff, Go.Addr.add, ↓reduceIte] at hx400_3); (try simp only [show (1 : Int).toNat = 1 from rfl, Nat.reduceMul, Nat.reduceEqDiff, Go.Addr.add, ↓reduceIte] at hx400_4); (try simp only [show (1 : Int).toNat = 1 from rfl, Nat.reduceMul, Nat.reduceEqDiff, Go.Addr.add, ↓reduceIte] at hx400_5); (try simp only [show (1 : Int).toNat = 1 from rfl, Nat.reduceMul, Nat.reduceEqDiff, Go.Addr.add, ↓reduceIte] at hx400_6); (try simp only [show (1 : Int).toNat = 1 from rfl, Nat.reduceMul, Nat.reduceEqDiff, Go.Addr.add, ↓reduceIte] at hx400_7); (try simp only [show (1 : Int).toNat = 1 from rfl, Nat.reduceMul, Nat.reduceEqDiff, Go.Addr.add, ↓reduceIte] at hx400_8); have qi400 : (1 < t395.length) = True := eq_true (by omega); (try rw [show ((1 : Int)).toNat = 1 from rfl] at hx400_0); (try rw [show 1 * 9 = 9 from rfl] at hx400_0); (try rw [show ((1 : Int)).toNat = 1 from rfl] at hx400_1); (try rw [show 1 * 9 = 9 from rfl] at hx400_1); (try rw [show ((1 : Int)).toNat = 1 from rfl] at hx400_2); (try rw [show 1 * 9 = 9 from rfl] at hx400_2); (try rw [show ((1 : Int)).toNat = 1 from rfl] at hx400_3); (try rw [show 1 * 9 = 9 from rfl] at hx400_3); (try rw [show ((1 : Int)).toNat = 1 from rfl] at hx400_4); (try rw [show 1 * 9 = 9 from rfl] at hx400_4); (try rw [show ((1 : Int)).toNat = 1 from rfl] at hx400_5); (try rw [show 1 * 9 = 9 from rfl] at hx400_5); (try rw [show ((1 : Int)).toNat = 1 from rfl] at hx400_6); (try rw [show 1 * 9 = 9 from rfl] at hx400_6); (try rw [show ((1 : Int)).toNat = 1 from rfl] at hx400_7); (try rw [show 1 * 9 = 9 from rfl] at hx400_7); (try rw [show ((1 : Int)).toNat = 1 from rfl] at hx400_8); (try rw [show 1 * 9 = 9 from rfl] at hx400_8); have HR400_5 := Aside0.mk hi400_5; have HC400_5 := Aside0.mk hl400_5; clear hi400_5 hl400_5; have HR400_6 := Aside0.mk hi400_6; have HC400_6 := Aside0.mk hl400_6; clear hi400_6 hl400_6; replace p400 := eq_true p400; replace q400 := eq_true q400))
    go_ret
    exact ⟨by first | rfl | (simp [errW_none, errW_some] <;> rfl) | (simp [*, errW_none, errW_some] <;> rfl), by repeat (first | (with_reducible first | exact HB.out | apply below_alloc | apply pw_below_drewN | apply below_drew1) | exact HB.out)⟩
   ·rw [if_neg c4] at H
    exact absurd H (by simp)
  ·rw [if_neg c3] at H
   have c3b0 : ((t395.length : Int) == 3) = false := beq_eq_false_iff_ne.mpr c3
   have c3b1 : ((t395.length : Int) != 3) = true := bne_iff_ne.mpr c3
   obtain rfl := Option.some.inj H
   go_enter Tryd.func7, Tryd.ntmps7
   go_wp2_with (first | ((with_reducible refine gate_dst (N := 5) rfl ?_); (try (refine gate_guard (by rfl) ?_; dsimp only)); refine Kd.R_lit (Kd.int .i64) _ 3 ?hg (N := 5) ?hd (xs := ([40, 97, 41] : List Int)) (inner := [.int .i64 40, .int .i64 97, .int .i64 41]) (ok := fun _ => True) (okp := fun _ => True) ?hr ?hp (fun _ hk => hk) trivial (Below.refl _ _) (Nat.le_refl _) (by simp) ?_; (case hd => rfl); (case hg => rfl); (case hr => first | (go_simp; done) | (go_simp; rfl)); (case hp => exact (Reps.one (show Kd.M (Kd.int .i64) _ _ _ 40 [.int .i64 40] from rfl) (Reps.one (show Kd.M (Kd.int .i64) _ _ _ 97 [.int .i64 97] from rfl) (Reps.one (show Kd.M (Kd.int .i64) _ _ _ 41 [.int .i64 41] from rfl) (Reps.none _ _))))); intro v393 w10 ho11 hb hg_ hnew_; clear hg_ hnew_; (first | rw [← Ny392.out] at ho11 | (simp only [Int.reduceToNat] at ho11; rw [← Ny392.out] at ho11)); have n0_ := Aside0.mk (Kd.R_lower ho11 (below_size (by repeat (first | (with_reducible first | exact HB.out | apply below_alloc | apply pw_below_drewN | apply below_drew1) | exact HB.out)))); have n1_ := Aside0.mk (below_step (by repeat (first | (with_reducible first | exact HB.out | apply below_alloc | apply pw_below_drewN | apply below_drew1) | exact HB.out)) hb); clear HB; have HO394 := n0_; have HB := n1_; clear n0_ n1_; clear hb ho11; obtain ⟨Ao12, co12, eo12⟩ := Kd.R_slice HO394.out; subst eo12) | ((with_reducible refine gate_callee (f := 5) rfl ?_); refine goesL_ (some 6) rfl rfl Tryd.func5 (by kernel_rfl) rfl #[.slice Ao12 y392.length co12] rfl (by (try simp only [List.map_toArray, List.map_cons, List.map_nil]); first | done | rfl | (simp only [List.length_drop, List.length_take]; rfl)) ?_; (with_reducible refine (token_Scan.calls k _ _ y392 t395 t398 t399 _ ?side1 ?side2 ?side3 A1.out).mono ?_); (case side1 => exact LD.below HLD.out (by repeat (first | (with_reducible first | exact HB.out | apply below_alloc | apply pw_below_drewN | apply below_drew1) | exact HB.out))); (case side2 => repeat (first | exact (Kd.R_reads' HO394.out).2.2 | (with_reducible refine Kd.C_alloc ?_ _) | (with_reducible refine Kd.C_drewN ?_ _) | (with_reducible refine Kd.C_drew ?_))); (case side3 => exact (Kd.R_reads' HO394.out).2.1); rintro e w13 ⟨v396, rfl, ho0, hb⟩; refine ⟨_, rfl, ?_⟩; have n0_ := Aside0.mk (Kd.R_below (by (with_reducible repeat (first | apply Kd.R_alloc | apply Kd.R_drewN | apply Kd.R_drew)); exact HO394.out) hb); have n1_ := Aside0.mk (Kd.N_lower (Kd.N_mono (ok' := fun k_ => some k_ ≠ (.slice Ao12 y392.length co12 : Value).ownBlock) ho0 (fun k_ hk_ => (Kd.fresh' (Kd.R_lt (by (with_reducible repeat (first | apply Kd.R_alloc | apply Kd.R_drewN | apply Kd.R_drew)); exact HO394.out)) k_ hk_))) (below_size (by repeat (first | (with_reducible first | exact HB.out | apply below_alloc | apply pw_below_drewN | apply below_drew1) | exact HB.out)))); have n2_ := Aside0.mk (below_step (by repeat (first | (with_reducible first | exact HB.out | apply below_alloc | apply pw_below_drewN | apply below_drew1) | exact HB.out)) hb); clear HO394; clear HB; have HO394 := n0_; have HO397 := n1_; have HB := n2_; clear n0_ n1_ n2_; (try clear hb); (try clear hb2); (try clear hk); (try clear hi); (try clear ho0); obtain ⟨Ao14, co14, eo14⟩ := Kd.N_slice HO397.out; subst eo14))
   go_ret
   exact ⟨by first | rfl | (simp [errW_none, errW_some] <;> rfl) | (simp [*, errW_none, errW_some] <;> rfl), by repeat (first | (with_reducible first | exact HB.out | apply below_alloc | apply pw_below_drewN | apply below_drew1) | exact HB.out)⟩
 ·rw [if_neg c2] at H
  have c2b0 : (t399 == 0) = false := beq_eq_false_iff_ne.mpr c2
  have c2b1 : (t399 != 0) = true := bne_iff_ne.mpr c2
  obtain rfl := Option.some.inj H
  go_enter Tryd.func7, Tryd.ntmps7
  go_wp2_with (first | ((with_reducible refine gate_dst (N := 5) rfl ?_); (try (refine gate_guard (by rfl) ?_; dsimp only)); refine Kd.R_lit (Kd.int .i64) _ 3 ?hg (N := 5) ?hd (xs := ([40, 97, 41] : List Int)) (inner := [.int .i64 40, .int .i64 97, .int .i64 41]) (ok := fun _ => True) (okp := fun _ => True) ?hr ?hp (fun _ hk => hk) trivial (Below.refl _ _) (Nat.le_refl _) (by simp) ?_; (case hd => rfl); (case hg => rfl); (case hr => first | (go_simp; done) | (go_simp; rfl)); (case hp => exact (Reps.one (show Kd.M (Kd.int .i64) _ _ _ 40 [.int .i64 40] from rfl) (Reps.one (show Kd.M (Kd.int .i64) _ _ _ 97 [.int .i64 97] from rfl) (Reps.one (show Kd.M (Kd.int .i64) _ _ _ 41 [.int .i64 41] from rfl) (Reps.none _ _))))); intro v393 w15 ho16 hb hg_ hnew_; clear hg_ hnew_; (first | rw [← Ny392.out] at ho16 | (simp only [Int.reduceToNat] at ho16; rw [← Ny392.out] at ho16)); have n0_ := Aside0.mk (Kd.R_lower ho16 (below_size (by repeat (first | (with_reducible first | exact HB.out | apply below_alloc | apply pw_below_drewN | apply below_drew1) | exact HB.out)))); have n1_ := Aside0.mk (below_step (by repeat (first | (with_reducible first | exact HB.out | apply below_alloc | apply pw_below_drewN | apply below_drew1) | exact HB.out)) hb); clear HB; have HO394 := n0_; have HB := n1_; clear n0_ n1_; clear hb ho16; obtain ⟨Ao17, co17, eo17⟩ := Kd.R_slice HO394.out; subst eo17) | ((with_reducible refine gate_callee (f := 5) rfl ?_); refine goesL_ (some 6) rfl rfl Tryd.func5 (by kernel_rfl) rfl #[.slice Ao17 y392.length co17] rfl (by (try simp only [List.map_toArray, List.map_cons, List.map_nil]); first | done | rfl | (simp only [List.length_drop, List.length_take]; rfl)) ?_; (with_reducible refine (token_Scan.calls k _ _ y392 t395 t398 t399 _ ?side1 ?side2 ?side3 A1.out).mono ?_); (case side1 => exact LD.below HLD.out (by repeat (first | (with_reducible first | exact HB.out | apply below_alloc | apply pw_below_drewN | apply below_drew1) | exact HB.out))); (case side2 => repeat (first | exact (Kd.R_reads' HO394.out).2.2 | (with_reducible refine Kd.C_alloc ?_ _) | (with_reducible refine Kd.C_drewN ?_ _) | (with_reducible refine Kd.C_drew ?_))); (case side3 => exact (Kd.R_reads' HO394.out).2.1); rintro e w18 ⟨v396, rfl, ho0, hb⟩; refine ⟨_, rfl, ?_⟩; have n0_ := Aside0.mk (Kd.R_below (by (with_reducible repeat (first | apply Kd.R_alloc | apply Kd.R_drewN | apply Kd.R_drew)); exact HO394.out) hb); have n1_ := Aside0.mk (Kd.N_lower (Kd.N_mono (ok' := fun k_ => some k_ ≠ (.slice Ao17 y392.length co17 : Value).ownBlock) ho0 (fun k_ hk_ => (Kd.fresh' (Kd.R_lt (by (with_reducible repeat (first | apply Kd.R_alloc | apply Kd.R_drewN | apply Kd.R_drew)); exact HO394.out)) k_ hk_))) (below_size (by repeat (first | (with_reducible first | exact HB.out | apply below_alloc | apply pw_below_drewN | apply below_drew1) | exact HB.out)))); have n2_ := Aside0.mk (below_step (by repeat (first | (with_reducible first | exact HB.out | apply below_alloc | apply pw_below_drewN | apply below_drew1) | exact HB.out)) hb); clear HO394; clear HB; have HO394 := n0_; have HO397 := n1_; have HB := n2_; clear n0_ n1_ n2_; (try clear hb); (try clear hb2); (try clear hk); (try clear hi); (try clear ho0)))
  go_ret
  exact ⟨by first | rfl | (simp [errW_none, errW_some] <;> rfl) | (simp [*, errW_none, errW_some] <;> rfl), by repeat (first | (with_reducible first | exact HB.out | apply below_alloc | apply pw_below_drewN | apply below_drew1) | exact HB.out)⟩
end Go.Proofs.YtefefpkgiecikaaDoor.P
namespace Go.Proofs.YtefefpkgiecikaaDoor.P
open Go.RowKit Go.Proofs.YtefefpkgiecikaaDoorW.PrintWords Go.Proofs.YtefefpkgiecikaaDoorW.PrintLast Go.Proofs.YtefefpkgiecikaaDoorW.PrintMore
attribute [local go_sem] max2_int min2_int max_two min_two max_three min_three max_four min_four
set_option linter.unusedVariables false
set_option linter.unusedSimpArgs false
def marginaliaref02_Scalar.f (a0 : Int) : Option (Bool) := if a0 ≥ 0 then (if a0 ≤ 1114111 then (if a0 ≥ 55296 then (some (!(decide (a0 ≤ 57343)))) else (some (!false))) else (some false)) else (some false)
set_option maxHeartbeats 8000000 in
set_option maxRecDepth 100000 in
theorem marginaliaref02_Scalar.calls (a0 : Int) (r : Bool) (w : World) (h : marginaliaref02_Scalar.f a0 = some r) :
  Calls Tryd.prog 53 #[.int .i64 a0] w fun e w' => e = .returned (.bool r) ∧ Drawn0 w w' := by
 have H : (if a0 ≥ 0 then (if a0 ≤ 1114111 then (if a0 ≥ 55296 then (some (!(decide (a0 ≤ 57343)))) else (some (!false))) else (some false)) else (some false)) = some r := h
 clear h
 by_cases c2 : a0 ≥ 0
 ·rw [if_pos c2] at H
  have c2b0 : decide (0 ≤ a0) = true := decide_eq_true c2
  clear c2
  by_cases c3 : a0 ≤ 1114111
  ·rw [if_pos c3] at H
   have c3b0 : decide (a0 ≤ 1114111) = true := decide_eq_true c3
   clear c3
   by_cases c4 : a0 ≥ 55296
   ·rw [if_pos c4] at H
    have c4b0 : decide (55296 ≤ a0) = true := decide_eq_true c4
    clear c4
    obtain rfl := Option.some.inj H
    go_enter Tryd.func53, Tryd.ntmps53
    go_wp2
    go_ret
    exact ⟨by first | rfl | (simp; done) | (simp [*]; done), by repeat (first | exact Drawn0.refl _ | apply Drawn0.step)⟩
   ·rw [if_neg c4] at H
    have c4b0 : decide (55296 ≤ a0) = false := decide_eq_false c4
    clear c4
    obtain rfl := Option.some.inj H
    go_enter Tryd.func53, Tryd.ntmps53
    go_wp2
    go_ret
    exact ⟨by first | rfl | (simp; done) | (simp [*]; done), by repeat (first | exact Drawn0.refl _ | apply Drawn0.step)⟩
  ·rw [if_neg c3] at H
   have c3b0 : decide (a0 ≤ 1114111) = false := decide_eq_false c3
   clear c3
   obtain rfl := Option.some.inj H
   go_enter Tryd.func53, Tryd.ntmps53
   go_wp2
   go_ret
   exact ⟨by first | rfl | (simp; done) | (simp [*]; done), by repeat (first | exact Drawn0.refl _ | apply Drawn0.step)⟩
 ·rw [if_neg c2] at H
  have c2b0 : decide (0 ≤ a0) = false := decide_eq_false c2
  clear c2
  obtain rfl := Option.some.inj H
  go_enter Tryd.func53, Tryd.ntmps53
  go_wp2
  go_ret
  exact ⟨by first | rfl | (simp; done) | (simp [*]; done), by repeat (first | exact Drawn0.refl _ | apply Drawn0.step)⟩
end Go.Proofs.YtefefpkgiecikaaDoor.P
namespace Go.Proofs.YtefefpkgiecikaaDoor.P
open Go.RowKit Go.Proofs.YtefefpkgiecikaaDoorW.PrintWords Go.Proofs.YtefefpkgiecikaaDoorW.PrintLast Go.Proofs.YtefefpkgiecikaaDoorW.PrintMore
attribute [local go_sem] max2_int min2_int max_two min_two max_three min_three max_four min_four
set_option linter.unusedVariables false
set_option linter.unusedSimpArgs false
def marginaliaref02_Bytes.f (a0 : Int) : Option (List Int) := if a0 < 128 then (some (([(a0) % 256] : List Int))) else (if a0 < 2048 then (some (([(wrap64 (192 + (wrap64 (Int.tdiv a0 64)))) % 256, (wrap64 (128 + (Int.tmod a0 64))) % 256] : List Int))) else (if a0 < 65536 then (some (([(wrap64 (224 + (wrap64 (Int.tdiv a0 4096)))) % 256, (wrap64 (128 + (Int.tmod (wrap64 (Int.tdiv a0 64)) 64))) % 256, (wrap64 (128 + (Int.tmod a0 64))) % 256] : List Int))) else (some (([(wrap64 (240 + (wrap64 (Int.tdiv a0 262144)))) % 256, (wrap64 (128 + (Int.tmod (wrap64 (Int.tdiv a0 4096)) 64))) % 256, (wrap64 (128 + (Int.tmod (wrap64 (Int.tdiv a0 64)) 64))) % 256, (wrap64 (128 + (Int.tmod a0 64))) % 256] : List Int)))))
set_option maxHeartbeats 8000000 in
set_option maxRecDepth 100000 in
theorem marginaliaref02_Bytes.calls (a0 : Int) (r : List Int) (w : World) (h : marginaliaref02_Bytes.f a0 = some r) :
  Calls Tryd.prog 54 #[.int .i64 a0] w fun e w' => ∃ v0_ : Value, e = .returned (v0_) ∧ Kd.R (Kd.int .u8) 5 w' w.heap.size (fun _ => True) v0_ r ∧ Below w.heap.size w w' := by
 have HB := Aside0.mk (Below.refl w.heap.size w)
 have H : (if a0 < 128 then (some (([(a0) % 256] : List Int))) else (if a0 < 2048 then (some (([(wrap64 (192 + (wrap64 (Int.tdiv a0 64)))) % 256, (wrap64 (128 + (Int.tmod a0 64))) % 256] : List Int))) else (if a0 < 65536 then (some (([(wrap64 (224 + (wrap64 (Int.tdiv a0 4096)))) % 256, (wrap64 (128 + (Int.tmod (wrap64 (Int.tdiv a0 64)) 64))) % 256, (wrap64 (128 + (Int.tmod a0 64))) % 256] : List Int))) else (some (([(wrap64 (240 + (wrap64 (Int.tdiv a0 262144)))) % 256, (wrap64 (128 + (Int.tmod (wrap64 (Int.tdiv a0 4096)) 64))) % 256, (wrap64 (128 + (Int.tmod (wrap64 (Int.tdiv a0 64)) 64))) % 256, (wrap64 (128 + (Int.tmod a0 64))) % 256] : List Int)))))) = some r := h
 clear h
 by_cases c2 : a0 < 128
 ·rw [if_pos c2] at H
  have c2b0 : decide (a0 < 128) = true := decide_eq_true c2
  clear c2
  obtain ⟨y401, hy401⟩ : ∃ y_ : List Int, y_ = (([(a0) % 256] : List Int)) := ⟨_, rfl⟩
  replace H : (some y401) = some r := by first | (rw [hy401]; with_reducible exact H) | (have H2_ := (Option.bind_some _ _).symm.trans H; rw [hy401]; with_reducible exact H2_) | (have H2_ := (Option.bind_some _ _).symm.trans H; with_reducible exact H2_) | with_reducible exact H | (rw [hy401]; exact H) | exact H
  have Ny401 := Aside0.mk hy401
  clear hy401
  obtain rfl := Option.some.inj H
  go_enter Tryd.func54, Tryd.ntmps54
  go_wp2_with (first | ((with_reducible refine gate_dst (N := 7) rfl ?_); refine Kd.R_lit (Kd.int .u8) _ 5 ?hg (N := 7) ?hd (xs := ([(a0) % 256] : List Int)) (inner := [.int .u8 ((a0) % 256)]) (ok := fun _ => True) (okp := fun _ => True) ?hr ?hp (fun _ hk => hk) trivial (Below.refl _ _) (Nat.le_refl _) (by simp) ?_; (case hd => rfl); (case hg => rfl); (case hr => first | (go_simp; done) | (go_simp; rfl)); (case hp => exact (Reps.one (show Kd.M (Kd.int .u8) _ _ _ ((a0) % 256) [.int .u8 ((a0) % 256)] from rfl) (Reps.none _ _))); intro v402 w3 ho4 hb hg_ hnew_; clear hg_ hnew_; (first | rw [← Ny401.out] at ho4 | (simp only [Int.reduceToNat] at ho4; rw [← Ny401.out] at ho4)); have n0_ := Aside0.mk (Kd.R_lower ho4 (below_size (by repeat (first | (with_reducible first | exact HB.out | apply below_alloc | apply pw_below_drewN | apply below_drew1) | exact HB.out)))); have n1_ := Aside0.mk (below_step (by repeat (first | (with_reducible first | exact HB.out | apply below_alloc | apply pw_below_drewN | apply below_drew1) | exact HB.out)) hb); clear HB; have HO403 := n0_; have HB := n1_; clear n0_ n1_; clear hb ho4))
  go_ret
  exact ⟨_, by first | rfl | (simp [errW_none, errW_some] <;> rfl) | (simp [*, errW_none, errW_some] <;> rfl), by (with_reducible repeat (first | apply Kd.R_alloc | apply Kd.R_drewN | apply Kd.R_drew)); exact HO403.out, by repeat (first | (with_reducible first | exact HB.out | apply below_alloc | apply pw_below_drewN | apply below_drew1) | exact HB.out)⟩
 ·rw [if_neg c2] at H
  have c2b0 : decide (a0 < 128) = false := decide_eq_false c2
  clear c2
  by_cases c5 : a0 < 2048
  ·rw [if_pos c5] at H
   have c5b0 : decide (a0 < 2048) = true := decide_eq_true c5
   clear c5
   obtain ⟨y404, hy404⟩ : ∃ y_ : List Int, y_ = (([(wrap64 (192 + (wrap64 (Int.tdiv a0 64)))) % 256, (wrap64 (128 + (Int.tmod a0 64))) % 256] : List Int)) := ⟨_, rfl⟩
   replace H : (some y404) = some r := by first | (rw [hy404]; with_reducible exact H) | (have H2_ := (Option.bind_some _ _).symm.trans H; rw [hy404]; with_reducible exact H2_) | (have H2_ := (Option.bind_some _ _).symm.trans H; with_reducible exact H2_) | with_reducible exact H | (rw [hy404]; exact H) | exact H
   have Ny404 := Aside0.mk hy404
   clear hy404
   obtain rfl := Option.some.inj H
   go_enter Tryd.func54, Tryd.ntmps54
   go_wp2_with (first | ((with_reducible refine gate_dst (N := 18) rfl ?_); refine Kd.R_lit (Kd.int .u8) _ 5 ?hg (N := 18) ?hd (xs := ([(wrap64 (192 + (wrap64 (Int.tdiv a0 64)))) % 256, (wrap64 (128 + (Int.tmod a0 64))) % 256] : List Int)) (inner := [.int .u8 ((wrap64 (192 + (wrap64 (Int.tdiv a0 64)))) % 256), .int .u8 ((wrap64 (128 + (Int.tmod a0 64))) % 256)]) (ok := fun _ => True) (okp := fun _ => True) ?hr ?hp (fun _ hk => hk) trivial (Below.refl _ _) (Nat.le_refl _) (by simp) ?_; (case hd => rfl); (case hg => rfl); (case hr => first | (go_simp; done) | (go_simp; rfl)); (case hp => exact (Reps.one (show Kd.M (Kd.int .u8) _ _ _ ((wrap64 (192 + (wrap64 (Int.tdiv a0 64)))) % 256) [.int .u8 ((wrap64 (192 + (wrap64 (Int.tdiv a0 64)))) % 256)] from rfl) (Reps.one (show Kd.M (Kd.int .u8) _ _ _ ((wrap64 (128 + (Int.tmod a0 64))) % 256) [.int .u8 ((wrap64 (128 + (Int.tmod a0 64))) % 256)] from rfl) (Reps.none _ _)))); intro v405 w6 ho7 hb hg_ hnew_; clear hg_ hnew_; (first | rw [← Ny404.out] at ho7 | (simp only [Int.reduceToNat] at ho7; rw [← Ny404.out] at ho7)); have n0_ := Aside0.mk (Kd.R_lower ho7 (below_size (by repeat (first | (with_reducible first | exact HB.out | apply below_alloc | apply pw_below_drewN | apply below_drew1) | exact HB.out)))); have n1_ := Aside0.mk (below_step (by repeat (first | (with_reducible first | exact HB.out | apply below_alloc | apply pw_below_drewN | apply below_drew1) | exact HB.out)) hb); clear HB; have HO406 := n0_; have HB := n1_; clear n0_ n1_; clear hb ho7))
   go_ret
   exact ⟨_, by first | rfl | (simp [errW_none, errW_some] <;> rfl) | (simp [*, errW_none, errW_some] <;> rfl), by (with_reducible repeat (first | apply Kd.R_alloc | apply Kd.R_drewN | apply Kd.R_drew)); exact HO406.out, by repeat (first | (with_reducible first | exact HB.out | apply below_alloc | apply pw_below_drewN | apply below_drew1) | exact HB.out)⟩
  ·rw [if_neg c5] at H
   have c5b0 : decide (a0 < 2048) = false := decide_eq_false c5
   clear c5
   by_cases c8 : a0 < 65536
   ·rw [if_pos c8] at H
    have c8b0 : decide (a0 < 65536) = true := decide_eq_true c8
    clear c8
    obtain ⟨y407, hy407⟩ : ∃ y_ : List Int, y_ = (([(wrap64 (224 + (wrap64 (Int.tdiv a0 4096)))) % 256, (wrap64 (128 + (Int.tmod (wrap64 (Int.tdiv a0 64)) 64))) % 256, (wrap64 (128 + (Int.tmod a0 64))) % 256] : List Int)) := ⟨_, rfl⟩
    replace H : (some y407) = some r := by first | (rw [hy407]; with_reducible exact H) | (have H2_ := (Option.bind_some _ _).symm.trans H; rw [hy407]; with_reducible exact H2_) | (have H2_ := (Option.bind_some _ _).symm.trans H; with_reducible exact H2_) | with_reducible exact H | (rw [hy407]; exact H) | exact H
    have Ny407 := Aside0.mk hy407
    clear hy407
    obtain rfl := Option.some.inj H
    go_enter Tryd.func54, Tryd.ntmps54
    go_wp2_with (first | ((with_reducible refine gate_dst (N := 34) rfl ?_); refine Kd.R_lit (Kd.int .u8) _ 5 ?hg (N := 34) ?hd (xs := ([(wrap64 (224 + (wrap64 (Int.tdiv a0 4096)))) % 256, (wrap64 (128 + (Int.tmod (wrap64 (Int.tdiv a0 64)) 64))) % 256, (wrap64 (128 + (Int.tmod a0 64))) % 256] : List Int)) (inner := [.int .u8 ((wrap64 (224 + (wrap64 (Int.tdiv a0 4096)))) % 256), .int .u8 ((wrap64 (128 + (Int.tmod (wrap64 (Int.tdiv a0 64)) 64))) % 256), .int .u8 ((wrap64 (128 + (Int.tmod a0 64))) % 256)]) (ok := fun _ => True) (okp := fun _ => True) ?hr ?hp (fun _ hk => hk) trivial (Below.refl _ _) (Nat.le_refl _) (by simp) ?_; (case hd => rfl); (case hg => rfl); (case hr => first | (go_simp; done) | (go_simp; rfl)); (case hp => exact (Reps.one (show Kd.M (Kd.int .u8) _ _ _ ((wrap64 (224 + (wrap64 (Int.tdiv a0 4096)))) % 256) [.int .u8 ((wrap64 (224 + (wrap64 (Int.tdiv a0 4096)))) % 256)] from rfl) (Reps.one (show Kd.M (Kd.int .u8) _ _ _ ((wrap64 (128 + (Int.tmod (wrap64 (Int.tdiv a0 64)) 64))) % 256) [.int .u8 ((wrap64 (128 + (Int.tmod (wrap64 (Int.tdiv a0 64)) 64))) % 256)] from rfl) (Reps.one (show Kd.M (Kd.int .u8) _ _ _ ((wrap64 (128 + (Int.tmod a0 64))) % 256) [.int .u8 ((wrap64 (128 + (Int.tmod a0 64))) % 256)] from rfl) (Reps.none _ _))))); intro v408 w9 ho10 hb hg_ hnew_; clear hg_ hnew_; (first | rw [← Ny407.out] at ho10 | (simp only [Int.reduceToNat] at ho10; rw [← Ny407.out] at ho10)); have n0_ := Aside0.mk (Kd.R_lower ho10 (below_size (by repeat (first | (with_reducible first | exact HB.out | apply below_alloc | apply pw_below_drewN | apply below_drew1) | exact HB.out)))); have n1_ := Aside0.mk (below_step (by repeat (first | (with_reducible first | exact HB.out | apply below_alloc | apply pw_below_drewN | apply below_drew1) | exact HB.out)) hb); clear HB; have HO409 := n0_; have HB := n1_; clear n0_ n1_; clear hb ho10))
    go_ret
    exact ⟨_, by first | rfl | (simp [errW_none, errW_some] <;> rfl) | (simp [*, errW_none, errW_some] <;> rfl), by (with_reducible repeat (first | apply Kd.R_alloc | apply Kd.R_drewN | apply Kd.R_drew)); exact HO409.out, by repeat (first | (with_reducible first | exact HB.out | apply below_alloc | apply pw_below_drewN | apply below_drew1) | exact HB.out)⟩
   ·rw [if_neg c8] at H
    have c8b0 : decide (a0 < 65536) = false := decide_eq_false c8
    clear c8
    obtain ⟨y410, hy410⟩ : ∃ y_ : List Int, y_ = (([(wrap64 (240 + (wrap64 (Int.tdiv a0 262144)))) % 256, (wrap64 (128 + (Int.tmod (wrap64 (Int.tdiv a0 4096)) 64))) % 256, (wrap64 (128 + (Int.tmod (wrap64 (Int.tdiv a0 64)) 64))) % 256, (wrap64 (128 + (Int.tmod a0 64))) % 256] : List Int)) := ⟨_, rfl⟩
    replace H : (some y410) = some r := by first | (rw [hy410]; with_reducible exact H) | (have H2_ := (Option.bind_some _ _).symm.trans H; rw [hy410]; with_reducible exact H2_) | (have H2_ := (Option.bind_some _ _).symm.trans H; with_reducible exact H2_) | with_reducible exact H | (rw [hy410]; exact H) | exact H
    have Ny410 := Aside0.mk hy410
    clear hy410
    obtain rfl := Option.some.inj H
    go_enter Tryd.func54, Tryd.ntmps54
    go_wp2_with (first | ((with_reducible refine gate_dst (N := 53) rfl ?_); refine Kd.R_lit (Kd.int .u8) _ 5 ?hg (N := 53) ?hd (xs := ([(wrap64 (240 + (wrap64 (Int.tdiv a0 262144)))) % 256, (wrap64 (128 + (Int.tmod (wrap64 (Int.tdiv a0 4096)) 64))) % 256, (wrap64 (128 + (Int.tmod (wrap64 (Int.tdiv a0 64)) 64))) % 256, (wrap64 (128 + (Int.tmod a0 64))) % 256] : List Int)) (inner := [.int .u8 ((wrap64 (240 + (wrap64 (Int.tdiv a0 262144)))) % 256), .int .u8 ((wrap64 (128 + (Int.tmod (wrap64 (Int.tdiv a0 4096)) 64))) % 256), .int .u8 ((wrap64 (128 + (Int.tmod (wrap64 (Int.tdiv a0 64)) 64))) % 256), .int .u8 ((wrap64 (128 + (Int.tmod a0 64))) % 256)]) (ok := fun _ => True) (okp := fun _ => True) ?hr ?hp (fun _ hk => hk) trivial (Below.refl _ _) (Nat.le_refl _) (by simp) ?_; (case hd => rfl); (case hg => rfl); (case hr => first | (go_simp; done) | (go_simp; rfl)); (case hp => exact (Reps.one (show Kd.M (Kd.int .u8) _ _ _ ((wrap64 (240 + (wrap64 (Int.tdiv a0 262144)))) % 256) [.int .u8 ((wrap64 (240 + (wrap64 (Int.tdiv a0 262144)))) % 256)] from rfl) (Reps.one (show Kd.M (Kd.int .u8) _ _ _ ((wrap64 (128 + (Int.tmod (wrap64 (Int.tdiv a0 4096)) 64))) % 256) [.int .u8 ((wrap64 (128 + (Int.tmod (wrap64 (Int.tdiv a0 4096)) 64))) % 256)] from rfl) (Reps.one (show Kd.M (Kd.int .u8) _ _ _ ((wrap64 (128 + (Int.tmod (wrap64 (Int.tdiv a0 64)) 64))) % 256) [.int .u8 ((wrap64 (128 + (Int.tmod (wrap64 (Int.tdiv a0 64)) 64))) % 256)] from rfl) (Reps.one (show Kd.M (Kd.int .u8) _ _ _ ((wrap64 (128 + (Int.tmod a0 64))) % 256) [.int .u8 ((wrap64 (128 + (Int.tmod a0 64))) % 256)] from rfl) (Reps.none _ _)))))); intro v411 w11 ho12 hb hg_ hnew_; clear hg_ hnew_; (first | rw [← Ny410.out] at ho12 | (simp only [Int.reduceToNat] at ho12; rw [← Ny410.out] at ho12)); have n0_ := Aside0.mk (Kd.R_lower ho12 (below_size (by repeat (first | (with_reducible first | exact HB.out | apply below_alloc | apply pw_below_drewN | apply below_drew1) | exact HB.out)))); have n1_ := Aside0.mk (below_step (by repeat (first | (with_reducible first | exact HB.out | apply below_alloc | apply pw_below_drewN | apply below_drew1) | exact HB.out)) hb); clear HB; have HO412 := n0_; have HB := n1_; clear n0_ n1_; clear hb ho12))
    go_ret
    exact ⟨_, by first | rfl | (simp [errW_none, errW_some] <;> rfl) | (simp [*, errW_none, errW_some] <;> rfl), by (with_reducible repeat (first | apply Kd.R_alloc | apply Kd.R_drewN | apply Kd.R_drew)); exact HO412.out, by repeat (first | (with_reducible first | exact HB.out | apply below_alloc | apply pw_below_drewN | apply below_drew1) | exact HB.out)⟩
end Go.Proofs.YtefefpkgiecikaaDoor.P
namespace Go.Proofs.YtefefpkgiecikaaDoor.P
open Go.RowKit Go.Proofs.YtefefpkgiecikaaDoorW.PrintWords Go.Proofs.YtefefpkgiecikaaDoorW.PrintLast Go.Proofs.YtefefpkgiecikaaDoorW.PrintMore
attribute [local go_sem] max2_int min2_int max_two min_two max_three min_three max_four min_four
set_option linter.unusedVariables false
set_option linter.unusedSimpArgs false
mutual
def marginaliaref02_one.j3 : Nat → List Int → Int → Int → Int → Option (Int × Int)
 | 0, _, _, _, _ => none
 | k + 1, x0, x1, x6, x7 => if (wrap64 (x1 + x7)) > (x0.length : Int) then (some (0, 0)) else (marginaliaref02_one.l0 k x0 x1 x6 x7 1)
def marginaliaref02_one.l0 : Nat → List Int → Int → Int → Int → Int → Option (Int × Int)
 | 0, _, _, _, _, _ => none
 | k + 1, x0, x1, x6, x7, x8 => if x8 < x7 then (if 0 ≤ (wrap64 (x1 + x8)) then (if (wrap64 (x1 + x8)) < (x0.length : Int) then (if (wrap64 (rd x0 (wrap64 (x1 + x8)))) < 128 then (some (0, 0)) else (if (wrap64 (rd x0 (wrap64 (x1 + x8)))) ≥ 192 then (some (0, 0)) else (marginaliaref02_one.l0 k x0 x1 (wrap64 ((wrap64 ((wrap64 (x6 * 64)) + (wrap64 (rd x0 (wrap64 (x1 + x8)))))) - 128)) x7 (wrap64 (x8 + 1))))) else (none)) else (none)) else ((marginaliaref02_Scalar.f x6).bind fun t415 => (if t415 = true then ((marginaliaref02_Bytes.f x6).bind fun t416 => (if (t416.length : Int) = x7 then (some (x6, x7)) else (some (0, 0)))) else (some (0, 0))))
def marginaliaref02_one.j0 : Nat → List Int → Int → Int → Int → Bool → Option (Int × Int)
 | 0, _, _, _, _, _ => none
 | k + 1, x0, x1, x6, x7, x15 => if x15 = true then (marginaliaref02_one.j3 k x0 x1 (wrap64 (x6 - 240)) 4) else (if x6 ≥ 224 then (marginaliaref02_one.j1 k x0 x1 x6 x7 (decide (x6 < 240))) else (marginaliaref02_one.j1 k x0 x1 x6 x7 false))
def marginaliaref02_one.j1 : Nat → List Int → Int → Int → Int → Bool → Option (Int × Int)
 | 0, _, _, _, _, _ => none
 | k + 1, x0, x1, x6, x7, x24 => if x24 = true then (marginaliaref02_one.j3 k x0 x1 (wrap64 (x6 - 224)) 3) else (if x6 ≥ 192 then (marginaliaref02_one.j2 k x0 x1 x6 x7 (decide (x6 < 224))) else (marginaliaref02_one.j2 k x0 x1 x6 x7 false))
def marginaliaref02_one.j2 : Nat → List Int → Int → Int → Int → Bool → Option (Int × Int)
 | 0, _, _, _, _, _ => none
 | k + 1, x0, x1, x6, x7, x33 => if x33 = true then (marginaliaref02_one.j3 k x0 x1 (wrap64 (x6 - 192)) 2) else (if x6 ≥ 128 then (some (0, 0)) else (marginaliaref02_one.j3 k x0 x1 x6 x7))
end
def marginaliaref02_one.f (k : Nat) (l0 : List Int) (a1 : Int) : Option (Int × Int) := if 0 ≤ a1 then (if a1 < (l0.length : Int) then (if (wrap64 (rd l0 a1)) ≥ 240 then (marginaliaref02_one.j0 k l0 a1 (wrap64 (rd l0 a1)) 1 (decide ((wrap64 (rd l0 a1)) < 248))) else (marginaliaref02_one.j0 k l0 a1 (wrap64 (rd l0 a1)) 1 false)) else (none)) else (none)
theorem marginaliaref02_one.mono_l : ∀ k, (∀ y0 y1 y2 y3, LeO (marginaliaref02_one.j3 k y0 y1 y2 y3) (marginaliaref02_one.j3 (k + 1) y0 y1 y2 y3)) ∧ (∀ y0 y1 y2 y3 y4, LeO (marginaliaref02_one.l0 k y0 y1 y2 y3 y4) (marginaliaref02_one.l0 (k + 1) y0 y1 y2 y3 y4)) ∧ (∀ y0 y1 y2 y3 y4, LeO (marginaliaref02_one.j0 k y0 y1 y2 y3 y4) (marginaliaref02_one.j0 (k + 1) y0 y1 y2 y3 y4)) ∧ (∀ y0 y1 y2 y3 y4, LeO (marginaliaref02_one.j1 k y0 y1 y2 y3 y4) (marginaliaref02_one.j1 (k + 1) y0 y1 y2 y3 y4)) ∧ (∀ y0 y1 y2 y3 y4, LeO (marginaliaref02_one.j2 k y0 y1 y2 y3 y4) (marginaliaref02_one.j2 (k + 1) y0 y1 y2 y3 y4))
 | 0 => ⟨fun _ _ _ _ r h => by simp [marginaliaref02_one.j3] at h, fun _ _ _ _ _ r h => by simp [marginaliaref02_one.l0] at h, fun _ _ _ _ _ r h => by simp [marginaliaref02_one.j0] at h, fun _ _ _ _ _ r h => by simp [marginaliaref02_one.j1] at h, fun _ _ _ _ _ r h => by simp [marginaliaref02_one.j2] at h⟩
 | k + 1 => by
  obtain ⟨ih0, ih1, ih2, ih3, ih4⟩ := marginaliaref02_one.mono_l k
  refine ⟨?_, ?_, ?_, ?_, ?_⟩
  ·intro y0 y1 y2 y3
   unfold marginaliaref02_one.j3
   repeat' first
   | (with_reducible exact ih0 _ _ _ _)
   | (with_reducible exact ih1 _ _ _ _ _)
   | (with_reducible exact ih2 _ _ _ _ _)
   | (with_reducible exact ih3 _ _ _ _ _)
   | (with_reducible exact ih4 _ _ _ _ _)
   | (with_reducible exact LeO.refl _)
   | (with_reducible exact LeO.none _)
   | (with_reducible refine LeO.ite ?_ ?_)
   | (with_reducible refine LeO.bind ?_ (fun _ => ?_))
   | exact ih0 _ _ _ _
   | exact ih1 _ _ _ _ _
   | exact ih2 _ _ _ _ _
   | exact ih3 _ _ _ _ _
   | exact ih4 _ _ _ _ _
   | exact LeO.none _
   | refine LeO.ite ?_ ?_
   | refine LeO.bind ?_ (fun _ => ?_)
  ·intro y0 y1 y2 y3 y4
   unfold marginaliaref02_one.l0
   repeat' first
   | (with_reducible exact ih0 _ _ _ _)
   | (with_reducible exact ih1 _ _ _ _ _)
   | (with_reducible exact ih2 _ _ _ _ _)
   | (with_reducible exact ih3 _ _ _ _ _)
   | (with_reducible exact ih4 _ _ _ _ _)
   | (with_reducible exact LeO.refl _)
   | (with_reducible exact LeO.none _)
   | (with_reducible refine LeO.ite ?_ ?_)
   | (with_reducible refine LeO.bind ?_ (fun _ => ?_))
   | exact ih0 _ _ _ _
   | exact ih1 _ _ _ _ _
   | exact ih2 _ _ _ _ _
   | exact ih3 _ _ _ _ _
   | exact ih4 _ _ _ _ _
   | exact LeO.none _
   | refine LeO.ite ?_ ?_
   | refine LeO.bind ?_ (fun _ => ?_)
  ·intro y0 y1 y2 y3 y4
   unfold marginaliaref02_one.j0
   repeat' first
   | (with_reducible exact ih0 _ _ _ _)
   | (with_reducible exact ih1 _ _ _ _ _)
   | (with_reducible exact ih2 _ _ _ _ _)
   | (with_reducible exact ih3 _ _ _ _ _)
   | (with_reducible exact ih4 _ _ _ _ _)
   | (with_reducible exact LeO.refl _)
   | (with_reducible exact LeO.none _)
   | (with_reducible refine LeO.ite ?_ ?_)
   | (with_reducible refine LeO.bind ?_ (fun _ => ?_))
   | exact ih0 _ _ _ _
   | exact ih1 _ _ _ _ _
   | exact ih2 _ _ _ _ _
   | exact ih3 _ _ _ _ _
   | exact ih4 _ _ _ _ _
   | exact LeO.none _
   | refine LeO.ite ?_ ?_
   | refine LeO.bind ?_ (fun _ => ?_)
  ·intro y0 y1 y2 y3 y4
   unfold marginaliaref02_one.j1
   repeat' first
   | (with_reducible exact ih0 _ _ _ _)
   | (with_reducible exact ih1 _ _ _ _ _)
   | (with_reducible exact ih2 _ _ _ _ _)
   | (with_reducible exact ih3 _ _ _ _ _)
   | (with_reducible exact ih4 _ _ _ _ _)
   | (with_reducible exact LeO.refl _)
   | (with_reducible exact LeO.none _)
   | (with_reducible refine LeO.ite ?_ ?_)
   | (with_reducible refine LeO.bind ?_ (fun _ => ?_))
   | exact ih0 _ _ _ _
   | exact ih1 _ _ _ _ _
   | exact ih2 _ _ _ _ _
   | exact ih3 _ _ _ _ _
   | exact ih4 _ _ _ _ _
   | exact LeO.none _
   | refine LeO.ite ?_ ?_
   | refine LeO.bind ?_ (fun _ => ?_)
  ·intro y0 y1 y2 y3 y4
   unfold marginaliaref02_one.j2
   repeat' first
   | (with_reducible exact ih0 _ _ _ _)
   | (with_reducible exact ih1 _ _ _ _ _)
   | (with_reducible exact ih2 _ _ _ _ _)
   | (with_reducible exact ih3 _ _ _ _ _)
   | (with_reducible exact ih4 _ _ _ _ _)
   | (with_reducible exact LeO.refl _)
   | (with_reducible exact LeO.none _)
   | (with_reducible refine LeO.ite ?_ ?_)
   | (with_reducible refine LeO.bind ?_ (fun _ => ?_))
   | exact ih0 _ _ _ _
   | exact ih1 _ _ _ _ _
   | exact ih2 _ _ _ _ _
   | exact ih3 _ _ _ _ _
   | exact ih4 _ _ _ _ _
   | exact LeO.none _
   | refine LeO.ite ?_ ?_
   | refine LeO.bind ?_ (fun _ => ?_)
theorem marginaliaref02_one.mono : ∀ a0 a1 k, LeO (marginaliaref02_one.f k a0 a1) (marginaliaref02_one.f (k + 1) a0 a1) := by
 intro a0 a1 k
 obtain ⟨ih0, ih1, ih2, ih3, ih4⟩ := marginaliaref02_one.mono_l k
 unfold marginaliaref02_one.f
 repeat' first
   | (with_reducible exact ih0 _ _ _ _)
   | (with_reducible exact ih1 _ _ _ _ _)
   | (with_reducible exact ih2 _ _ _ _ _)
   | (with_reducible exact ih3 _ _ _ _ _)
   | (with_reducible exact ih4 _ _ _ _ _)
   | (with_reducible exact LeO.refl _)
   | (with_reducible exact LeO.none _)
   | (with_reducible refine LeO.ite ?_ ?_)
   | (with_reducible refine LeO.bind ?_ (fun _ => ?_))
   | exact ih0 _ _ _ _
   | exact ih1 _ _ _ _ _
   | exact ih2 _ _ _ _ _
   | exact ih3 _ _ _ _ _
   | exact ih4 _ _ _ _ _
   | exact LeO.none _
   | refine LeO.ite ?_ ?_
   | refine LeO.bind ?_ (fun _ => ?_)
set_option maxHeartbeats 8000000 in
set_option maxRecDepth 100000 in
theorem marginaliaref02_one.calls (k : Nat) (A0 : Option Addr) (c0 : Nat) (l0 : List Int) (a1 : Int) (r1 : Int) (r2 : Int) (w : World) (hr0 : Kd.C (Kd.int .u8) w A0 l0.length l0) (hc0 : l0.length ≤ c0) (h : marginaliaref02_one.f k l0 a1 = some (r1, r2)) :
  Calls Tryd.prog 36 #[.slice A0 l0.length c0, .int .i64 a1] w fun e w' => e = .returned (.tuple #[.int .i64 r1, .int .i64 r2]) ∧ Below w.heap.size w w' := by
 have HR0 := Aside0.mk hr0
 have HC0 := Aside0.mk hc0
 clear hr0 hc0
 have HB := Aside0.mk (Below.refl w.heap.size w)
 have H : (if 0 ≤ a1 then (if a1 < (l0.length : Int) then (if (wrap64 (rd l0 a1)) ≥ 240 then (marginaliaref02_one.j0 k l0 a1 (wrap64 (rd l0 a1)) 1 (decide ((wrap64 (rd l0 a1)) < 248))) else (marginaliaref02_one.j0 k l0 a1 (wrap64 (rd l0 a1)) 1 false)) else (none)) else (none)) = some (r1, r2) := h
 clear h
 by_cases c3 : 0 ≤ a1
 ·rw [if_pos c3] at H
  have c3b0 : decide (0 ≤ a1) = true := decide_eq_true c3
  clear c3
  by_cases c4 : a1 < (l0.length : Int)
  ·rw [if_pos c4] at H
   have c4b0 : decide (a1 < (l0.length : Int)) = true := decide_eq_true c4
   clear c4
   have HC5 := Aside0.mk H
   clear H
   have p413 : 0 ≤ (a1 : Int) := of_decide_eq_true (by first | (with_reducible assumption) | assumption)
   have q413 : a1 < (l0.length : Int) := of_decide_eq_true (by first | (with_reducible assumption) | assumption)
   obtain ⟨ad413, e413, hx413_0⟩ := Kd.at_int HR0.out a1 p413 q413
   cases e413
   replace p413 := eq_true p413
   replace q413 := eq_true q413
   go_enter Tryd.func36, Tryd.ntmps36
   go_upto_block 0 with (fail)
   go_cut [6, 7] (fun v6 v7 wc => ∃ (kq : Nat) (x6_4 : Int) (x7_4 : Int), v6 = .int .i64 x6_4 ∧ v7 = .int .i64 x7_4 ∧ Aside0 (marginaliaref02_one.j3 kq l0 a1 x6_4 x7_4 = some (r1, r2)) ∧ Aside0 (kq ≤ k) ∧ Aside0 (Below w.heap.size w wc))
   case first =>
    have H := HC5.out
    clear HC5
    have HC6 := Aside0.mk H
    clear H
    go_upto_region 3 with (fail)
    go_cut [15] (fun v15 wc => ∃ (kq : Nat) (x15_5 : Bool), v15 = .bool x15_5 ∧ Aside0 (marginaliaref02_one.j0 kq l0 a1 (wrap64 (rd l0 a1)) 1 x15_5 = some (r1, r2)) ∧ Aside0 (kq ≤ k) ∧ Aside0 (Below w.heap.size w wc))
    case first =>
     have H := HC6.out
     clear HC6
     by_cases c7 : (wrap64 (rd l0 a1)) ≥ 240
     ·rw [if_pos c7] at H
      have c7b0 : decide (240 ≤ (wrap64 (rd l0 a1))) = true := decide_eq_true c7
      clear c7
      (first | rw [c7b0] | (simp only [i64_w, i32_w]; rw [c7b0]) | skip)
      have H' := Aside0.mk H
      clear H
      go_wp2
      go_meet
      case rel => exact ⟨_, (decide ((wrap64 (rd l0 a1)) < 248)), (by first | rfl | (simp; done) | (simp [*]; done)), H', ⟨by first | omega | exact Nat.le_refl _⟩, ⟨by repeat (first | (with_reducible first | exact HB.out | apply below_alloc | apply pw_below_drewN | apply below_drew1) | exact HB.out)⟩⟩
     ·rw [if_neg c7] at H
      have c7b0 : decide (240 ≤ (wrap64 (rd l0 a1))) = false := decide_eq_false c7
      clear c7
      (first | rw [c7b0] | (simp only [i64_w, i32_w]; rw [c7b0]) | skip)
      have H' := Aside0.mk H
      clear H
      go_wp2
      go_meet
      case rel => exact ⟨_, (false), (by first | rfl | (simp; done) | (simp [*]; done)), H', ⟨by first | omega | exact Nat.le_refl _⟩, ⟨by repeat (first | (with_reducible first | exact HB.out | apply below_alloc | apply pw_below_drewN | apply below_drew1) | exact HB.out)⟩⟩
    case rest =>
     clear HC6
     try clear p2
     try clear c3
     try clear c3b0
     try clear c4
     try clear c4b0
     try clear p4
     try clear q4
     try clear hx4
     try clear p6
     try clear c7
     try clear c7b0
     try clear hx413_0
     try clear p413
     try clear q413
     obtain ⟨kq, x15_5, rfl, HA, HJ5, HB⟩ := hcut
     cases kq with
     | zero => exact absurd HA.out (by simp [marginaliaref02_one.j0])
     | succ kj5 =>
      have H := HA.out
      clear HA
      simp only [marginaliaref02_one.j0] at H
      by_cases c8 : x15_5 = true
      ·subst c8
       have H1 : (marginaliaref02_one.j3 kj5 l0 a1 (wrap64 ((wrap64 (rd l0 a1)) - 240)) 4) = some (r1, r2) := by rw [if_pos rfl] at H; exact H
       clear H
       have H := H1
       clear H1
       have H' := Aside0.mk H
       clear H
       go_wp2
       go_meet
       case rel => exact ⟨_, (wrap64 ((wrap64 (rd l0 a1)) - 240)), (4), (by first | rfl | (simp; done) | (simp [*]; done)), (by first | rfl | (simp; done) | (simp [*]; done)), H', ⟨by have := HJ5.out; first | omega | exact Nat.le_refl _⟩, ⟨by repeat (first | (with_reducible first | exact HB.out | apply below_alloc | apply pw_below_drewN | apply below_drew1) | exact HB.out)⟩⟩
      ·replace c8 := Bool.eq_false_iff.mpr c8
       subst c8
       have H1 : (if (wrap64 (rd l0 a1)) ≥ 224 then (marginaliaref02_one.j1 kj5 l0 a1 (wrap64 (rd l0 a1)) 1 (decide ((wrap64 (rd l0 a1)) < 240))) else (marginaliaref02_one.j1 kj5 l0 a1 (wrap64 (rd l0 a1)) 1 false)) = some (r1, r2) := by rw [if_neg (show ¬ (false = true) by decide)] at H; exact H
       clear H
       have H := H1
       clear H1
       have HC9 := Aside0.mk H
       clear H
       go_upto_region 6 with (fail)
       go_cut [24] (fun v24 wc => ∃ (kq : Nat) (x24_8 : Bool), v24 = .bool x24_8 ∧ Aside0 (marginaliaref02_one.j1 kq l0 a1 (wrap64 (rd l0 a1)) 1 x24_8 = some (r1, r2)) ∧ Aside0 (kq ≤ kj5) ∧ Aside0 (Below w.heap.size w wc))
       case first =>
        have H := HC9.out
        clear HC9
        by_cases c10 : (wrap64 (rd l0 a1)) ≥ 224
        ·rw [if_pos c10] at H
         have c10b0 : decide (224 ≤ (wrap64 (rd l0 a1))) = true := decide_eq_true c10
         clear c10
         (first | rw [c10b0] | (simp only [i64_w, i32_w]; rw [c10b0]) | skip)
         have H' := Aside0.mk H
         clear H
         go_wp2
         go_meet
         case rel => exact ⟨_, (decide ((wrap64 (rd l0 a1)) < 240)), (by first | rfl | (simp; done) | (simp [*]; done)), H', ⟨by have := HJ5.out; first | omega | exact Nat.le_refl _⟩, ⟨by repeat (first | (with_reducible first | exact HB.out | apply below_alloc | apply pw_below_drewN | apply below_drew1) | exact HB.out)⟩⟩
        ·rw [if_neg c10] at H
         have c10b0 : decide (224 ≤ (wrap64 (rd l0 a1))) = false := decide_eq_false c10
         clear c10
         (first | rw [c10b0] | (simp only [i64_w, i32_w]; rw [c10b0]) | skip)
         have H' := Aside0.mk H
         clear H
         go_wp2
         go_meet
         case rel => exact ⟨_, (false), (by first | rfl | (simp; done) | (simp [*]; done)), H', ⟨by have := HJ5.out; first | omega | exact Nat.le_refl _⟩, ⟨by repeat (first | (with_reducible first | exact HB.out | apply below_alloc | apply pw_below_drewN | apply below_drew1) | exact HB.out)⟩⟩
       case rest =>
        clear HC9
        try clear c1
        try clear p2
        try clear c3
        try clear c3b0
        try clear c4
        try clear c4b0
        try clear p4
        try clear q4
        try clear hx4
        try clear p6
        try clear c7
        try clear c7b0
        try clear c8
        try clear c10
        try clear c10b0
        try clear hx413_0
        try clear p2
        try clear p4
        try clear p413
        try clear p6
        try clear q4
        try clear q413
        obtain ⟨kq, x24_8, rfl, HA, HJ8, HB⟩ := hcut
        cases kq with
        | zero => exact absurd HA.out (by simp [marginaliaref02_one.j1])
        | succ kj8 =>
         have H := HA.out
         clear HA
         simp only [marginaliaref02_one.j1] at H
         by_cases c11 : x24_8 = true
         ·subst c11
          have H1 : (marginaliaref02_one.j3 kj8 l0 a1 (wrap64 ((wrap64 (rd l0 a1)) - 224)) 3) = some (r1, r2) := by rw [if_pos rfl] at H; exact H
          clear H
          have H := H1
          clear H1
          have H' := Aside0.mk H
          clear H
          go_wp2
          go_meet
          case rel => exact ⟨_, (wrap64 ((wrap64 (rd l0 a1)) - 224)), (3), (by first | rfl | (simp; done) | (simp [*]; done)), (by first | rfl | (simp; done) | (simp [*]; done)), H', ⟨by have := HJ5.out; have := HJ8.out; first | omega | exact Nat.le_refl _⟩, ⟨by repeat (first | (with_reducible first | exact HB.out | apply below_alloc | apply pw_below_drewN | apply below_drew1) | exact HB.out)⟩⟩
         ·replace c11 := Bool.eq_false_iff.mpr c11
          subst c11
          have H1 : (if (wrap64 (rd l0 a1)) ≥ 192 then (marginaliaref02_one.j2 kj8 l0 a1 (wrap64 (rd l0 a1)) 1 (decide ((wrap64 (rd l0 a1)) < 224))) else (marginaliaref02_one.j2 kj8 l0 a1 (wrap64 (rd l0 a1)) 1 false)) = some (r1, r2) := by rw [if_neg (show ¬ (false = true) by decide)] at H; exact H
          clear H
          have H := H1
          clear H1
          have HC12 := Aside0.mk H
          clear H
          go_upto_region 9 with (fail)
          go_cut [33] (fun v33 wc => ∃ (kq : Nat) (x33_11 : Bool), v33 = .bool x33_11 ∧ Aside0 (marginaliaref02_one.j2 kq l0 a1 (wrap64 (rd l0 a1)) 1 x33_11 = some (r1, r2)) ∧ Aside0 (kq ≤ kj8) ∧ Aside0 (Below w.heap.size w wc))
          case first =>
           have H := HC12.out
           clear HC12
           by_cases c13 : (wrap64 (rd l0 a1)) ≥ 192
           ·rw [if_pos c13] at H
            have c13b0 : decide (192 ≤ (wrap64 (rd l0 a1))) = true := decide_eq_true c13
            clear c13
            (first | rw [c13b0] | (simp only [i64_w, i32_w]; rw [c13b0]) | skip)
            have H' := Aside0.mk H
            clear H
            go_wp2
            go_meet
            case rel => exact ⟨_, (decide ((wrap64 (rd l0 a1)) < 224)), (by first | rfl | (simp; done) | (simp [*]; done)), H', ⟨by have := HJ5.out; have := HJ8.out; first | omega | exact Nat.le_refl _⟩, ⟨by repeat (first | (with_reducible first | exact HB.out | apply below_alloc | apply pw_below_drewN | apply below_drew1) | exact HB.out)⟩⟩
           ·rw [if_neg c13] at H
            have c13b0 : decide (192 ≤ (wrap64 (rd l0 a1))) = false := decide_eq_false c13
            clear c13
            (first | rw [c13b0] | (simp only [i64_w, i32_w]; rw [c13b0]) | skip)
            have H' := Aside0.mk H
            clear H
            go_wp2
            go_meet
            case rel => exact ⟨_, (false), (by first | rfl | (simp; done) | (simp [*]; done)), H', ⟨by have := HJ5.out; have := HJ8.out; first | omega | exact Nat.le_refl _⟩, ⟨by repeat (first | (with_reducible first | exact HB.out | apply below_alloc | apply pw_below_drewN | apply below_drew1) | exact HB.out)⟩⟩
          case rest =>
           clear HC12
           try clear c1
           try clear p2
           try clear c3
           try clear c3b0
           try clear c4
           try clear c4b0
           try clear p4
           try clear q4
           try clear hx4
           try clear p6
           try clear c7
           try clear c7b0
           try clear c8
           try clear c10
           try clear c10b0
           try clear c11
           try clear c13
           try clear c13b0
           try clear hx413_0
           try clear p2
           try clear p4
           try clear p413
           try clear p6
           try clear q4
           try clear q413
           obtain ⟨kq, x33_11, rfl, HA, HJ11, HB⟩ := hcut
           cases kq with
           | zero => exact absurd HA.out (by simp [marginaliaref02_one.j2])
           | succ kj11 =>
            have H := HA.out
            clear HA
            simp only [marginaliaref02_one.j2] at H
            by_cases c14 : x33_11 = true
            ·subst c14
             have H1 : (marginaliaref02_one.j3 kj11 l0 a1 (wrap64 ((wrap64 (rd l0 a1)) - 192)) 2) = some (r1, r2) := by rw [if_pos rfl] at H; exact H
             clear H
             have H := H1
             clear H1
             have H' := Aside0.mk H
             clear H
             go_wp2
             go_meet
             case rel => exact ⟨_, (wrap64 ((wrap64 (rd l0 a1)) - 192)), (2), (by first | rfl | (simp; done) | (simp [*]; done)), (by first | rfl | (simp; done) | (simp [*]; done)), H', ⟨by have := HJ5.out; have := HJ8.out; have := HJ11.out; first | omega | exact Nat.le_refl _⟩, ⟨by repeat (first | (with_reducible first | exact HB.out | apply below_alloc | apply pw_below_drewN | apply below_drew1) | exact HB.out)⟩⟩
            ·replace c14 := Bool.eq_false_iff.mpr c14
             subst c14
             have H1 : (if (wrap64 (rd l0 a1)) ≥ 128 then (some (0, 0)) else (marginaliaref02_one.j3 kj11 l0 a1 (wrap64 (rd l0 a1)) 1)) = some (r1, r2) := by rw [if_neg (show ¬ (false = true) by decide)] at H; exact H
             clear H
             have H := H1
             clear H1
             by_cases c15 : (wrap64 (rd l0 a1)) ≥ 128
             ·rw [if_pos c15] at H
              have c15b0 : decide (128 ≤ (wrap64 (rd l0 a1))) = true := decide_eq_true c15
              clear c15
              simp only [Option.some.injEq, Prod.mk.injEq] at H
              obtain ⟨rfl, rfl⟩ := H
              go_wp2
              go_ret2
              exact ⟨by first | rfl | (simp [errW_none, errW_some] <;> rfl) | (simp [*, errW_none, errW_some] <;> rfl), by repeat (first | (with_reducible first | exact HB.out | apply below_alloc | apply pw_below_drewN | apply below_drew1) | exact HB.out)⟩
             ·rw [if_neg c15] at H
              have c15b0 : decide (128 ≤ (wrap64 (rd l0 a1))) = false := decide_eq_false c15
              clear c15
              have H' := Aside0.mk H
              clear H
              go_wp2
              go_meet
              case rel => exact ⟨_, ((wrap64 (rd l0 a1))), (1), (by first | rfl | (simp; done) | (simp [*]; done)), (by first | rfl | (simp; done) | (simp [*]; done)), H', ⟨by have := HJ5.out; have := HJ8.out; have := HJ11.out; first | omega | exact Nat.le_refl _⟩, ⟨by repeat (first | (with_reducible first | exact HB.out | apply below_alloc | apply pw_below_drewN | apply below_drew1) | exact HB.out)⟩⟩
   case rest =>
    clear HC5
    try clear c1
    try clear p2
    try clear c3
    try clear c3b0
    try clear c4
    try clear c4b0
    try clear p4
    try clear q4
    try clear hx4
    try clear p6
    try clear c7
    try clear c7b0
    try clear c8
    try clear c10
    try clear c10b0
    try clear c11
    try clear c13
    try clear c13b0
    try clear c14
    try clear c15
    try clear c15b0
    try clear hx413_0
    try clear p2
    try clear p4
    try clear p413
    try clear p6
    try clear q4
    try clear q413
    obtain ⟨kq, x6_4, x7_4, rfl, rfl, HA, HJ4, HB⟩ := hcut
    cases kq with
    | zero => exact absurd HA.out (by simp [marginaliaref02_one.j3])
    | succ kj4 =>
     have H := HA.out
     clear HA
     simp only [marginaliaref02_one.j3] at H
     by_cases c16 : (wrap64 (a1 + x7_4)) > (l0.length : Int)
     ·rw [if_pos c16] at H
      have c16b0 : decide ((l0.length : Int) < (wrap64 (a1 + x7_4))) = true := decide_eq_true c16
      clear c16
      simp only [Option.some.injEq, Prod.mk.injEq] at H
      obtain ⟨rfl, rfl⟩ := H
      go_wp2
      go_ret2
      exact ⟨by first | rfl | (simp [errW_none, errW_some] <;> rfl) | (simp [*, errW_none, errW_some] <;> rfl), by repeat (first | (with_reducible first | exact HB.out | apply below_alloc | apply pw_below_drewN | apply below_drew1) | exact HB.out)⟩
     ·rw [if_neg c16] at H
      have c16b0 : decide ((l0.length : Int) < (wrap64 (a1 + x7_4))) = false := decide_eq_false c16
      clear c16
      have H' := Aside0.mk H
      clear H
      go_wp2
      go_loopg [6, 8] kj4 (fun kq v6 v8 w' => ∃ (x6_2 : Int) (x8_2 : Int), v6 = .int .i64 x6_2 ∧ v8 = .int .i64 x8_2 ∧ Aside0 (marginaliaref02_one.l0 kq l0 a1 x6_2 x7_4 x8_2 = some (r1, r2)) ∧ Aside0 (kq ≤ kj4) ∧ Aside0 (Below w.heap.size w w'))
      case atStart => exact ⟨(x6_4), (1), (by first | rfl | (simp; done) | (simp [*]; done)), (by first | rfl | (simp; done) | (simp [*]; done)), H', ⟨Nat.le_refl _⟩, ⟨by repeat (first | (with_reducible first | exact HB.out | apply below_alloc | apply pw_below_drewN | apply below_drew1) | exact HB.out)⟩⟩
      case round =>
       clear H'
       try clear c1
       try clear p2
       try clear c3
       try clear c3b0
       try clear c4
       try clear c4b0
       try clear p4
       try clear q4
       try clear hx4
       try clear p6
       try clear c7
       try clear c7b0
       try clear c8
       try clear c10
       try clear c10b0
       try clear c11
       try clear c13
       try clear c13b0
       try clear c14
       try clear c15
       try clear c15b0
       try clear c16
       try clear c16b0
       try clear hx413_0
       try clear p2
       try clear p4
       try clear p413
       try clear p6
       try clear q4
       try clear q413
       obtain ⟨x6_2, x8_2, rfl, rfl, HA, HK2, HB⟩ := hrel
       cases gk with
       | zero => exact absurd HA.out (by simp [marginaliaref02_one.l0])
       | succ k2 =>
        have H := HA.out
        clear HA
        simp only [marginaliaref02_one.l0] at H
        by_cases c17 : x8_2 < x7_4
        ·rw [if_pos c17] at H
         have c17b0 : decide (x8_2 < x7_4) = true := decide_eq_true c17
         clear c17
         obtain ⟨ji18, hji18⟩ : ∃ j_ : Int, (wrap64 (a1 + x8_2)) = j_ := ⟨_, rfl⟩
         replace H : (if 0 ≤ (ji18) then (if (ji18) < (l0.length : Int) then (if (wrap64 (rd l0 (ji18))) < 128 then (some (0, 0)) else (if (wrap64 (rd l0 (ji18))) ≥ 192 then (some (0, 0)) else (marginaliaref02_one.l0 k2 l0 a1 (wrap64 ((wrap64 ((wrap64 (x6_2 * 64)) + (wrap64 (rd l0 (ji18))))) - 128)) x7_4 (wrap64 (x8_2 + 1))))) else (none)) else (none)) = some (r1, r2) := by first | (rw [hji18] at H; exact H) | (simp only [hji18] at H ⊢; exact H)
         have hji18w : (IntKind.i64.wrap (a1 + x8_2)) = ji18 := (i64_w _).trans hji18
         by_cases c19 : 0 ≤ (ji18)
         ·rw [if_pos c19] at H
          have c19b0 : decide (0 ≤ (ji18)) = true := decide_eq_true c19
          clear c19
          by_cases c20 : (ji18) < (l0.length : Int)
          ·rw [if_pos c20] at H
           have c20b0 : decide ((ji18) < (l0.length : Int)) = true := decide_eq_true c20
           clear c20
           by_cases c21 : (wrap64 (rd l0 (ji18))) < 128
           ·rw [if_pos c21] at H
            have c21b0 : decide ((wrap64 (rd l0 (ji18))) < 128) = true := decide_eq_true c21
            clear c21
            simp only [Option.some.injEq, Prod.mk.injEq] at H
            obtain ⟨rfl, rfl⟩ := H
            have p414 : 0 ≤ ((ji18) : Int) := of_decide_eq_true (by first | (with_reducible assumption) | assumption)
            have q414 : (ji18) < (l0.length : Int) := of_decide_eq_true (by first | (with_reducible assumption) | assumption)
            obtain ⟨ad414, e414, hx414_0⟩ := Kd.at_int HR0.out (ji18) p414 q414
            obtain rfl : ad413 = ad414 := (by injection e414)
            replace hx414_0 := (HB.out.cell (World.block_lt_of_cell? w _ hx414_0)).trans hx414_0
            replace p414 := eq_true p414
            replace q414 := eq_true q414
            go_wp2
            go_ret2
            exact ⟨by first | rfl | (simp [errW_none, errW_some] <;> rfl) | (simp only [← hji18]; first | rfl | (simp [errW_none, errW_some] <;> rfl)) | (simp [*, errW_none, errW_some] <;> rfl), by repeat (first | (with_reducible first | exact HB.out | apply below_alloc | apply pw_below_drewN | apply below_drew1) | exact HB.out)⟩
           ·rw [if_neg c21] at H
            have c21b0 : decide ((wrap64 (rd l0 (ji18))) < 128) = false := decide_eq_false c21
            clear c21
            by_cases c22 : (wrap64 (rd l0 (ji18))) ≥ 192
            ·rw [if_pos c22] at H
             have c22b0 : decide (192 ≤ (wrap64 (rd l0 (ji18)))) = true := decide_eq_true c22
             clear c22
             simp only [Option.some.injEq, Prod.mk.injEq] at H
             obtain ⟨rfl, rfl⟩ := H
             have p414 : 0 ≤ ((ji18) : Int) := of_decide_eq_true (by first | (with_reducible assumption) | assumption)
             have q414 : (ji18) < (l0.length : Int) := of_decide_eq_true (by first | (with_reducible assumption) | assumption)
             obtain ⟨ad414, e414, hx414_0⟩ := Kd.at_int HR0.out (ji18) p414 q414
             obtain rfl : ad413 = ad414 := (by injection e414)
             replace hx414_0 := (HB.out.cell (World.block_lt_of_cell? w _ hx414_0)).trans hx414_0
             replace p414 := eq_true p414
             replace q414 := eq_true q414
             go_wp2
             go_ret2
             exact ⟨by first | rfl | (simp [errW_none, errW_some] <;> rfl) | (simp only [← hji18]; first | rfl | (simp [errW_none, errW_some] <;> rfl)) | (simp [*, errW_none, errW_some] <;> rfl), by repeat (first | (with_reducible first | exact HB.out | apply below_alloc | apply pw_below_drewN | apply below_drew1) | exact HB.out)⟩
            ·rw [if_neg c22] at H
             have c22b0 : decide (192 ≤ (wrap64 (rd l0 (ji18)))) = false := decide_eq_false c22
             clear c22
             have H' := Aside0.mk H
             clear H
             have p414 : 0 ≤ ((ji18) : Int) := of_decide_eq_true (by first | (with_reducible assumption) | assumption)
             have q414 : (ji18) < (l0.length : Int) := of_decide_eq_true (by first | (with_reducible assumption) | assumption)
             obtain ⟨ad414, e414, hx414_0⟩ := Kd.at_int HR0.out (ji18) p414 q414
             obtain rfl : ad413 = ad414 := (by injection e414)
             replace hx414_0 := (HB.out.cell (World.block_lt_of_cell? w _ hx414_0)).trans hx414_0
             replace p414 := eq_true p414
             replace q414 := eq_true q414
             go_wp2
             go_roundg k2
             case measure => have := HJ4.out; have := HK2.out; omega
             case rel => exact ⟨(wrap64 ((wrap64 ((wrap64 (x6_2 * 64)) + (wrap64 (rd l0 (ji18))))) - 128)), (wrap64 (x8_2 + 1)), (by first | rfl | (simp; done) | (simp only [← hji18] <;> (first | rfl | simp)) | (simp [*]; done)), (by first | rfl | (simp; done) | (simp [*]; done)), H', ⟨by have := HJ4.out; have := HK2.out; omega⟩, ⟨by repeat (first | (with_reducible first | exact HB.out | apply below_alloc | apply pw_below_drewN | apply below_drew1) | exact HB.out)⟩⟩
          ·rw [if_neg c20] at H
           exact absurd H (by simp)
         ·rw [if_neg c19] at H
          exact absurd H (by simp)
        ·rw [if_neg c17] at H
         have c17b0 : decide (x8_2 < x7_4) = false := decide_eq_false c17
         clear c17
         replace H := Option.bind_eq_some_iff.mp H
         obtain ⟨t415, A230, H⟩ := H
         replace H : (if t415 = true then ((marginaliaref02_Bytes.f x6_2).bind fun t416 => (if (t416.length : Int) = x7_4 then (some (x6_2, x7_4)) else (some (0, 0)))) else (some (0, 0))) = some (r1, r2) := H
         have A23 := Aside0.mk A230
         clear A230
         by_cases c24 : t415 = true
         ·subst c24
          have H1 : ((marginaliaref02_Bytes.f x6_2).bind fun t416 => (if (t416.length : Int) = x7_4 then (some (x6_2, x7_4)) else (some (0, 0)))) = some (r1, r2) := by rw [if_pos rfl] at H; exact H
          clear H
          have H := H1
          clear H1
          replace H := Option.bind_eq_some_iff.mp H
          obtain ⟨t416, A250, H⟩ := H
          replace H : (if (t416.length : Int) = x7_4 then (some (x6_2, x7_4)) else (some (0, 0))) = some (r1, r2) := H
          have A25 := Aside0.mk A250
          clear A250
          by_cases c26 : (t416.length : Int) = x7_4
          ·rw [if_pos c26] at H
           have c26b0 : ((t416.length : Int) == x7_4) = true := beq_iff_eq.mpr c26
           have c26b1 : ((t416.length : Int) != x7_4) = false := bne_eq_false_iff_eq.mpr c26
           clear c26
           simp only [Option.some.injEq, Prod.mk.injEq] at H
           obtain ⟨rfl, rfl⟩ := H
           go_wp2_with (first | ((with_reducible refine gate_callee (f := 53) rfl ?_); refine goesL_ (some 75) rfl rfl Tryd.func53 (by kernel_rfl) rfl #[.int .i64 x6_2] rfl (by (try simp only [List.map_toArray, List.map_cons, List.map_nil]); first | done | rfl | (simp only [List.length_drop, List.length_take]; rfl)) ?_; (with_reducible refine (marginaliaref02_Scalar.calls x6_2 true _ A23.out).mono ?_); rintro e w' ⟨rfl, ⟨nd, rfl⟩⟩; refine ⟨_, rfl, ?_⟩) | (go_at_call 54; (with_reducible refine (marginaliaref02_Bytes.calls x6_2 t416 _ A25.out).mono ?_); rintro e w27 ⟨v417, rfl, ho0, hb⟩; have n0_ := Aside0.mk (Kd.R_lower ho0 (below_size (by repeat (first | (with_reducible first | exact HB.out | apply below_alloc | apply pw_below_drewN | apply below_drew1) | exact HB.out)))); have n1_ := Aside0.mk (below_step (by repeat (first | (with_reducible first | exact HB.out | apply below_alloc | apply pw_below_drewN | apply below_drew1) | exact HB.out)) hb); clear HB; have HO418 := n0_; have HB := n1_; clear n0_ n1_; (try clear hb); (try clear hb2); (try clear hk); (try clear hi); (try clear ho0); obtain ⟨Ao28, co28, eo28⟩ := Kd.R_slice HO418.out; subst eo28))
           go_ret2
           exact ⟨by first | rfl | (simp [errW_none, errW_some] <;> rfl) | (simp [*, errW_none, errW_some] <;> rfl), by repeat (first | (with_reducible first | exact HB.out | apply below_alloc | apply pw_below_drewN | apply below_drew1) | exact HB.out)⟩
          ·rw [if_neg c26] at H
           have c26b0 : ((t416.length : Int) == x7_4) = false := beq_eq_false_iff_ne.mpr c26
           have c26b1 : ((t416.length : Int) != x7_4) = true := bne_iff_ne.mpr c26
           simp only [Option.some.injEq, Prod.mk.injEq] at H
           obtain ⟨rfl, rfl⟩ := H
           go_wp2_with (first | ((with_reducible refine gate_callee (f := 53) rfl ?_); refine goesL_ (some 75) rfl rfl Tryd.func53 (by kernel_rfl) rfl #[.int .i64 x6_2] rfl (by (try simp only [List.map_toArray, List.map_cons, List.map_nil]); first | done | rfl | (simp only [List.length_drop, List.length_take]; rfl)) ?_; (with_reducible refine (marginaliaref02_Scalar.calls x6_2 true _ A23.out).mono ?_); rintro e w' ⟨rfl, ⟨nd, rfl⟩⟩; refine ⟨_, rfl, ?_⟩) | (go_at_call 54; (with_reducible refine (marginaliaref02_Bytes.calls x6_2 t416 _ A25.out).mono ?_); rintro e w29 ⟨v417, rfl, ho0, hb⟩; have n0_ := Aside0.mk (Kd.R_lower ho0 (below_size (by repeat (first | (with_reducible first | exact HB.out | apply below_alloc | apply pw_below_drewN | apply below_drew1) | exact HB.out)))); have n1_ := Aside0.mk (below_step (by repeat (first | (with_reducible first | exact HB.out | apply below_alloc | apply pw_below_drewN | apply below_drew1) | exact HB.out)) hb); clear HB; have HO418 := n0_; have HB := n1_; clear n0_ n1_; (try clear hb); (try clear hb2); (try clear hk); (try clear hi); (try clear ho0); obtain ⟨Ao30, co30, eo30⟩ := Kd.R_slice HO418.out; subst eo30))
           go_ret2
           exact ⟨by first | rfl | (simp [errW_none, errW_some] <;> rfl) | (simp [*, errW_none, errW_some] <;> rfl), by repeat (first | (with_reducible first | exact HB.out | apply below_alloc | apply pw_below_drewN | apply below_drew1) | exact HB.out)⟩
         ·replace c24 := Bool.eq_false_iff.mpr c24
          subst c24
          have H1 : (some (0, 0)) = some (r1, r2) := by rw [if_neg (show ¬ (false = true) by decide)] at H; exact H
          clear H
          have H := H1
          clear H1
          simp only [Option.some.injEq, Prod.mk.injEq] at H
          obtain ⟨rfl, rfl⟩ := H
          go_wp2_with (first | ((with_reducible refine gate_callee (f := 53) rfl ?_); refine goesL_ (some 75) rfl rfl Tryd.func53 (by kernel_rfl) rfl #[.int .i64 x6_2] rfl (by (try simp only [List.map_toArray, List.map_cons, List.map_nil]); first | done | rfl | (simp only [List.length_drop, List.length_take]; rfl)) ?_; (with_reducible refine (marginaliaref02_Scalar.calls x6_2 false _ A23.out).mono ?_); rintro e w' ⟨rfl, ⟨nd, rfl⟩⟩; refine ⟨_, rfl, ?_⟩))
          go_ret2
          exact ⟨by first | rfl | (simp [errW_none, errW_some] <;> rfl) | (simp [*, errW_none, errW_some] <;> rfl), by repeat (first | (with_reducible first | exact HB.out | apply below_alloc | apply pw_below_drewN | apply below_drew1) | exact HB.out)⟩
  ·rw [if_neg c4] at H
   exact absurd H (by simp)
 ·rw [if_neg c3] at H
  exact absurd H (by simp)
end Go.Proofs.YtefefpkgiecikaaDoor.P
namespace Go.Proofs.YtefefpkgiecikaaDoor.P
open Go.RowKit Go.Proofs.YtefefpkgiecikaaDoorW.PrintWords Go.Proofs.YtefefpkgiecikaaDoorW.PrintLast Go.Proofs.YtefefpkgiecikaaDoorW.PrintMore
attribute [local go_sem] max2_int min2_int max_two min_two max_three min_three max_four min_four
set_option linter.unusedVariables false
set_option linter.unusedSimpArgs false
def marginaliaref02_Chars.l0 : Nat → List Int → List Int → Int → Option (List Int × Int)
 | 0, _, _, _ => none
 | k + 1, x0, x4, x5 => if x5 < (x0.length : Int) then ((marginaliaref02_one.f k x0 x5).bind fun bt419 => (if bt419.2 = 0 then (some (([] : List Int), x5)) else (if x4.length < 17592186044416 then (marginaliaref02_Chars.l0 k x0 (x4 ++ [bt419.1]) (wrap64 (x5 + bt419.2))) else (none)))) else (some (x4, (-1)))
def marginaliaref02_Chars.f (k : Nat) (l0 : List Int) : Option (List Int × Int) := marginaliaref02_Chars.l0 k l0 ([] : List Int) 0
theorem marginaliaref02_Chars.mono_l : ∀ k, (∀ y0 y1 y2, LeO (marginaliaref02_Chars.l0 k y0 y1 y2) (marginaliaref02_Chars.l0 (k + 1) y0 y1 y2))
 | 0 => fun _ _ _ r h => by simp [marginaliaref02_Chars.l0] at h
 | k + 1 => by
  have ih0 := marginaliaref02_Chars.mono_l k
  ·intro y0 y1 y2
   unfold marginaliaref02_Chars.l0
   repeat' first
   | (with_reducible exact ih0 _ _ _)
   | (with_reducible exact marginaliaref02_one.mono _ _ _)
   | (with_reducible exact LeO.refl _)
   | (with_reducible exact LeO.none _)
   | (with_reducible refine LeO.ite ?_ ?_)
   | (with_reducible refine LeO.bind ?_ (fun _ => ?_))
   | exact ih0 _ _ _
   | exact marginaliaref02_one.mono _ _ _
   | exact LeO.none _
   | refine LeO.ite ?_ ?_
   | refine LeO.bind ?_ (fun _ => ?_)
theorem marginaliaref02_Chars.mono : ∀ a0 k, LeO (marginaliaref02_Chars.f k a0) (marginaliaref02_Chars.f (k + 1) a0) := by
 intro a0 k
 have ih0 := marginaliaref02_Chars.mono_l k
 unfold marginaliaref02_Chars.f
 repeat' first
   | (with_reducible exact ih0 _ _ _)
   | (with_reducible exact marginaliaref02_one.mono _ _ _)
   | (with_reducible exact LeO.refl _)
   | (with_reducible exact LeO.none _)
   | (with_reducible refine LeO.ite ?_ ?_)
   | (with_reducible refine LeO.bind ?_ (fun _ => ?_))
   | exact ih0 _ _ _
   | exact marginaliaref02_one.mono _ _ _
   | exact LeO.none _
   | refine LeO.ite ?_ ?_
   | refine LeO.bind ?_ (fun _ => ?_)
set_option maxHeartbeats 8000000 in
set_option maxRecDepth 100000 in
theorem marginaliaref02_Chars.calls (k : Nat) (A0 : Option Addr) (c0 : Nat) (l0 : List Int) (r1 : List Int) (r2 : Int) (w : World) (hr0 : Kd.C (Kd.int .u8) w A0 l0.length l0) (hc0 : l0.length ≤ c0) (h : marginaliaref02_Chars.f k l0 = some (r1, r2)) :
  Calls Tryd.prog 22 #[.slice A0 l0.length c0] w fun e w' => ∃ v0_ : Value, e = .returned (.tuple #[v0_, .int .i64 r2]) ∧ Kd.R (Kd.int .i64) 3 w' w.heap.size (fun _ => True) v0_ r1 ∧ Below w.heap.size w w' := by
 have HR0 := Aside0.mk hr0
 have HC0 := Aside0.mk hc0
 clear hr0 hc0
 have HB := Aside0.mk (Below.refl w.heap.size w)
 have H : (marginaliaref02_Chars.l0 k l0 ([] : List Int) 0) = some (r1, r2) := h
 clear h
 have H' := Aside0.mk H
 clear H
 go_enter Tryd.func22, Tryd.ntmps22
 go_wp2
 go_loopg [4, 5] k (fun kq v4 v5 w' => ∃ (x4_1 : List Int) (x5_1 : Int), v5 = .int .i64 x5_1 ∧ Aside0 (marginaliaref02_Chars.l0 kq l0 x4_1 x5_1 = some (r1, r2)) ∧ Aside0 (kq ≤ k) ∧ Aside0 (Kd.R (Kd.int .i64) 3 w' w.heap.size (fun _ => True) v4 x4_1) ∧ Aside0 (Below w.heap.size w w'))
 case atStart => exact ⟨(([] : List Int)), (0), (by first | rfl | (simp; done) | (simp [*]; done)), H', ⟨Nat.le_refl _⟩, ⟨by first | exact Kd.R_nil _ _ _ _ _ | exact Kd.N_nil _ _ _ _ _ | exact Kd.V_nil _ _ _ _ _ | exact Kd.Q_nil _ _ _ _ _ | exact Kd.S_nil _ _ _ _ _⟩, ⟨by repeat (first | (with_reducible first | exact HB.out | apply below_alloc | apply pw_below_drewN | apply below_drew1) | exact HB.out)⟩⟩
 case round =>
  clear H'
  obtain ⟨x4_1, x5_1, rfl, HA, HK1, HO_4, HB⟩ := hrel
  cases gk with
  | zero => exact absurd HA.out (by simp [marginaliaref02_Chars.l0])
  | succ k1 =>
   have H := HA.out
   clear HA
   simp only [marginaliaref02_Chars.l0] at H
   by_cases c2 : x5_1 < (l0.length : Int)
   ·rw [if_pos c2] at H
    have c2b0 : decide (x5_1 < (l0.length : Int)) = true := decide_eq_true c2
    clear c2
    replace H := Option.bind_eq_some_iff.mp H
    obtain ⟨⟨t419, t420⟩, A30, H⟩ := H
    replace H : (if t420 = 0 then (some (([] : List Int), x5_1)) else (if x4_1.length < 17592186044416 then (marginaliaref02_Chars.l0 k1 l0 (x4_1 ++ [t419]) (wrap64 (x5_1 + t420))) else (none))) = some (r1, r2) := H
    have A3 := Aside0.mk A30
    clear A30
    by_cases c4 : t420 = 0
    ·rw [if_pos c4] at H
     have c4b0 : (t420 == 0) = true := beq_iff_eq.mpr c4
     have c4b1 : (t420 != 0) = false := bne_eq_false_iff_eq.mpr c4
     clear c4
     simp only [Option.some.injEq, Prod.mk.injEq] at H
     obtain ⟨rfl, rfl⟩ := H
     go_wp2_with (first | ((with_reducible refine gate_callee (f := 36) rfl ?_); refine goesL_ (some 15) rfl rfl Tryd.func36 (by kernel_rfl) rfl #[.slice A0 l0.length c0, .int .i64 x5_1] rfl (by (try simp only [List.map_toArray, List.map_cons, List.map_nil]); first | done | rfl | (simp only [List.length_drop, List.length_take]; rfl)) ?_; (with_reducible refine (marginaliaref02_one.calls k1 _ _ l0 x5_1 t419 t420 _ ?side1 ?side2 A3.out).mono ?_); (case side1 => repeat (first | exact (Kd.C_below HR0.out HB.out) | (with_reducible refine Kd.C_alloc ?_ _) | (with_reducible refine Kd.C_drewN ?_ _) | (with_reducible refine Kd.C_drew ?_))); (case side2 => exact HC0.out); rintro e w5 ⟨rfl, hb⟩; refine ⟨_, rfl, ?_⟩; have n0_ := Aside0.mk (Kd.R_below (by (with_reducible repeat (first | apply Kd.R_alloc | apply Kd.R_drewN | apply Kd.R_drew)); exact HO_4.out) hb); have n1_ := Aside0.mk (below_step (by repeat (first | (with_reducible first | exact HB.out | apply below_alloc | apply pw_below_drewN | apply below_drew1) | exact HB.out)) hb); clear HO_4; clear HB; have HO_4 := n0_; have HB := n1_; clear n0_ n1_; (try clear hb); (try clear hb2); (try clear hk); (try clear hi)))
     go_ret2
     exact ⟨_, by first | rfl | (simp [errW_none, errW_some] <;> rfl) | (simp [*, errW_none, errW_some] <;> rfl), by first | exact Kd.R_nil _ _ _ _ _ | exact Kd.N_nil _ _ _ _ _ | exact Kd.V_nil _ _ _ _ _ | exact Kd.Q_nil _ _ _ _ _ | exact Kd.S_nil _ _ _ _ _, by repeat (first | (with_reducible first | exact HB.out | apply below_alloc | apply pw_below_drewN | apply below_drew1) | exact HB.out)⟩
    ·rw [if_neg c4] at H
     have c4b0 : (t420 == 0) = false := beq_eq_false_iff_ne.mpr c4
     have c4b1 : (t420 != 0) = true := bne_iff_ne.mpr c4
     by_cases c6 : x4_1.length < 17592186044416
     ·rw [if_pos c6] at H
      have LMc6 := Aside0.mk c6
      clear c6
      obtain ⟨y421, hy421⟩ : ∃ y_ : List Int, y_ = (x4_1 ++ [t419]) := ⟨_, rfl⟩
      replace H : (marginaliaref02_Chars.l0 k1 l0 y421 (wrap64 (x5_1 + t420))) = some (r1, r2) := by first | (rw [hy421]; with_reducible exact H) | (have H2_ := (Option.bind_some _ _).symm.trans H; rw [hy421]; with_reducible exact H2_) | (have H2_ := (Option.bind_some _ _).symm.trans H; with_reducible exact H2_) | with_reducible exact H | (rw [hy421]; exact H) | exact H
      have Ny421 := Aside0.mk hy421
      clear hy421
      have H' := Aside0.mk H
      clear H
      go_wp2_with (first | ((with_reducible refine gate_callee (f := 36) rfl ?_); refine goesL_ (some 15) rfl rfl Tryd.func36 (by kernel_rfl) rfl #[.slice A0 l0.length c0, .int .i64 x5_1] rfl (by (try simp only [List.map_toArray, List.map_cons, List.map_nil]); first | done | rfl | (simp only [List.length_drop, List.length_take]; rfl)) ?_; (with_reducible refine (marginaliaref02_one.calls k1 _ _ l0 x5_1 t419 t420 _ ?side1 ?side2 A3.out).mono ?_); (case side1 => repeat (first | exact (Kd.C_below HR0.out HB.out) | (with_reducible refine Kd.C_alloc ?_ _) | (with_reducible refine Kd.C_drewN ?_ _) | (with_reducible refine Kd.C_drew ?_))); (case side2 => exact HC0.out); rintro e w7 ⟨rfl, hb⟩; refine ⟨_, rfl, ?_⟩; have n0_ := Aside0.mk (Kd.R_below (by (with_reducible repeat (first | apply Kd.R_alloc | apply Kd.R_drewN | apply Kd.R_drew)); exact HO_4.out) hb); have n1_ := Aside0.mk (below_step (by repeat (first | (with_reducible first | exact HB.out | apply below_alloc | apply pw_below_drewN | apply below_drew1) | exact HB.out)) hb); clear HO_4; clear HB; have HO_4 := n0_; have HB := n1_; clear n0_ n1_; (try clear hb); (try clear hb2); (try clear hk); (try clear hi)) | ((with_reducible refine gate_builtin (b := .append) (xs := #[.tmp 21, .tmp 23]) rfl ?_); at_builtin; refine Kd.R_append (Kd.int .i64) (w0 := w) w.heap.size rfl (.tmp 21) (.tmp 23) 22 3 (.int .i64 0) 8 rfl Tryd.underlying22 info3 rfl (by decide) (by omega) u4 x4_1 t419 [.int .i64 t419] (fun _ => True) (fun _ => False) rfl rfl ?aP (fun _ hk => hk.elim) ?aF ?aO ?aB ?aS ?aL ?_; (case aP => exact rfl); (case aB => exact (by repeat (first | (with_reducible first | exact HB.out | apply below_alloc | apply pw_below_drewN | apply below_drew1) | exact HB.out))); (case aF => exact (fun _ _ => trivial)); (case aO => exact (by (with_reducible repeat (first | apply Kd.R_alloc | apply Kd.R_drewN | apply Kd.R_drew)); exact HO_4.out)); (case aS => exact (below_size (by repeat (first | (with_reducible first | exact HB.out | apply below_alloc | apply pw_below_drewN | apply below_drew1) | exact HB.out)))); (case aL => have := LMc6.out; omega); intro v422 w8 ho hb hg hat; rw [← Ny421.out] at ho; have n0_ := Aside0.mk (hb); have n1_ := Aside0.mk (ho); clear HB; clear HO_4; have HB := n0_; have HO423 := n1_; clear n0_ n1_; clear ho hb hg hat))
      go_roundg k1
      case measure => have := HK1.out; omega
      case rel => exact ⟨(y421), (wrap64 (x5_1 + t420)), (by first | rfl | (simp; done) | (simp [*]; done)), H', ⟨by have := HK1.out; omega⟩, ⟨by (with_reducible repeat (first | apply Kd.R_alloc | apply Kd.R_drewN | apply Kd.R_drew)); exact HO423.out⟩, ⟨by repeat (first | (with_reducible first | exact HB.out | apply below_alloc | apply pw_below_drewN | apply below_drew1) | exact HB.out)⟩⟩
     ·rw [if_neg c6] at H
      exact absurd H (by simp)
   ·rw [if_neg c2] at H
    have c2b0 : decide (x5_1 < (l0.length : Int)) = false := decide_eq_false c2
    clear c2
    simp only [Option.some.injEq, Prod.mk.injEq] at H
    obtain ⟨rfl, rfl⟩ := H
    go_wp2
    go_ret2
    exact ⟨_, by first | rfl | (simp [errW_none, errW_some] <;> rfl) | (simp [*, errW_none, errW_some] <;> rfl), by (with_reducible repeat (first | apply Kd.R_alloc | apply Kd.R_drewN | apply Kd.R_drew)); exact HO_4.out, by repeat (first | (with_reducible first | exact HB.out | apply below_alloc | apply pw_below_drewN | apply below_drew1) | exact HB.out)⟩
end Go.Proofs.YtefefpkgiecikaaDoor.P
namespace Go.Proofs.YtefefpkgiecikaaDoor.P
open Go.RowKit Go.Proofs.YtefefpkgiecikaaDoorW.PrintWords Go.Proofs.YtefefpkgiecikaaDoorW.PrintLast Go.Proofs.YtefefpkgiecikaaDoorW.PrintMore
attribute [local go_sem] max2_int min2_int max_two min_two max_three min_three max_four min_four
set_option linter.unusedVariables false
set_option linter.unusedSimpArgs false
def marginalialaw03_chars.f (k : Nat) (a0 : ByteArray) : Option (List Int) := if a0.size ≤ 9223372036854775807 then ((marginaliaref02_Chars.f k (bytesOf a0)).bind fun bt427 => (some bt427.1)) else (none)
theorem marginalialaw03_chars.mono : ∀ a0 k, LeO (marginalialaw03_chars.f k a0) (marginalialaw03_chars.f (k + 1) a0) := by
 intro a0 k
 unfold marginalialaw03_chars.f
 repeat' first
   | (with_reducible exact marginaliaref02_Chars.mono _ _)
   | (with_reducible exact LeO.refl _)
   | (with_reducible exact LeO.none _)
   | (with_reducible refine LeO.ite ?_ ?_)
   | (with_reducible refine LeO.bind ?_ (fun _ => ?_))
   | exact marginaliaref02_Chars.mono _ _
   | exact LeO.none _
   | refine LeO.ite ?_ ?_
   | refine LeO.bind ?_ (fun _ => ?_)
set_option maxHeartbeats 8000000 in
set_option maxRecDepth 100000 in
theorem marginalialaw03_chars.calls (k : Nat) (a0 : ByteArray) (r : List Int) (w : World) (h : marginalialaw03_chars.f k a0 = some r) :
  Calls Tryd.prog 8 #[.string a0] w fun e w' => ∃ v0_ : Value, e = .returned (v0_) ∧ Kd.R (Kd.int .i64) 3 w' w.heap.size (fun _ => True) v0_ r ∧ Below w.heap.size w w' := by
 have HB := Aside0.mk (Below.refl w.heap.size w)
 have H : (if a0.size ≤ 9223372036854775807 then ((marginaliaref02_Chars.f k (bytesOf a0)).bind fun bt427 => (some bt427.1)) else (none)) = some r := h
 clear h
 by_cases c2 : a0.size ≤ 9223372036854775807
 ·rw [if_pos c2] at H
  have c2b0 := eq_true c2
  have c2b1 : decide (a0.size ≤ 9223372036854775807) = true := decide_eq_true c2
  try have c2b2 : (9223372036854775807 < a0.size) = False := eq_false (Nat.not_lt.2 c2)
  clear c2
  obtain ⟨y424, hy424⟩ : ∃ y_ : List Int, y_ = (bytesOf a0) := ⟨_, rfl⟩
  replace H : ((marginaliaref02_Chars.f k y424).bind fun bt427 => (some bt427.1)) = some r := by first | (rw [hy424]; with_reducible exact H) | (have H2_ := (Option.bind_some _ _).symm.trans H; rw [hy424]; with_reducible exact H2_) | (have H2_ := (Option.bind_some _ _).symm.trans H; with_reducible exact H2_) | with_reducible exact H | (rw [hy424]; exact H) | exact H
  have Ny424 := Aside0.mk hy424
  clear hy424
  replace H := Option.bind_eq_some_iff.mp H
  obtain ⟨⟨t427, t428⟩, A30, H⟩ := H
  replace H : (some t427) = some r := H
  have A3 := Aside0.mk A30
  clear A30
  obtain rfl := Option.some.inj H
  go_enter Tryd.func8, Tryd.ntmps8
  go_wp2_with (first | ((with_reducible refine gate_dst (N := 7) rfl ?_); refine Kd.V_conv (P := Tryd.prog) 9 27 5 rfl (N := 7) rfl a0 rfl (by go_simp; first | done | rfl) Tryd.underlying9 Tryd.underlying27 Tryd.underlying5 (of_decide_eq_true (by first | (with_reducible assumption) | assumption)) (Below.refl _ _) (Nat.le_refl _) ?_; intro v425 w4 ho5 hb hg_ hnew_; clear hg_ hnew_; (first | rw [← Ny424.out] at ho5 | (simp only [Int.reduceToNat] at ho5; rw [← Ny424.out] at ho5)); have n0_ := Aside0.mk (Kd.V_lower (Kd.V_mono (ok' := fun k_ => True) ho5 (fun k_ hk_ => trivial)) (below_size (by repeat (first | (with_reducible first | exact HB.out | apply below_alloc | apply pw_below_drewN | apply below_drew1) | exact HB.out)))); have n1_ := Aside0.mk (below_step (by repeat (first | (with_reducible first | exact HB.out | apply below_alloc | apply pw_below_drewN | apply below_drew1) | exact HB.out)) hb); clear HB; have HO426 := n0_; have HB := n1_; clear n0_ n1_; clear hb ho5; obtain ⟨Ao6, co6, eo6⟩ := Kd.V_slice HO426.out; subst eo6) | ((with_reducible refine gate_callee (f := 22) rfl ?_); refine goesL_ (some 8) rfl rfl Tryd.func22 (by kernel_rfl) rfl #[.slice Ao6 y424.length co6] rfl (by (try simp only [List.map_toArray, List.map_cons, List.map_nil]); first | done | rfl | (simp only [List.length_drop, List.length_take]; rfl)) ?_; (with_reducible refine (marginaliaref02_Chars.calls k _ _ y424 t427 t428 _ ?side1 ?side2 A3.out).mono ?_); (case side1 => repeat (first | exact (Kd.V_reads' HO426.out).2.2 | (with_reducible refine Kd.C_alloc ?_ _) | (with_reducible refine Kd.C_drewN ?_ _) | (with_reducible refine Kd.C_drew ?_))); (case side2 => exact (Kd.V_reads' HO426.out).2.1); rintro e w7 ⟨v429, rfl, ho0, hb⟩; refine ⟨_, rfl, ?_⟩; have n0_ := Aside0.mk (Kd.V_elder' (by (with_reducible repeat (first | apply Kd.V_alloc | apply Kd.V_drewN | apply Kd.V_drew)); exact HO426.out) (Kd.R_base ho0) hb); have n1_ := Aside0.mk (Kd.R_lower ho0 (below_size (by repeat (first | (with_reducible first | exact HB.out | apply below_alloc | apply pw_below_drewN | apply below_drew1) | exact HB.out)))); have n2_ := Aside0.mk (below_step (by repeat (first | (with_reducible first | exact HB.out | apply below_alloc | apply pw_below_drewN | apply below_drew1) | exact HB.out)) hb); clear HO426; clear HB; have HO426 := n0_; have HO430 := n1_; have HB := n2_; clear n0_ n1_ n2_; (try clear hb); (try clear hb2); (try clear hk); (try clear hi); (try clear ho0)))
  go_ret
  exact ⟨_, by first | rfl | (simp [errW_none, errW_some] <;> rfl) | (simp [*, errW_none, errW_some] <;> rfl), by (with_reducible repeat (first | apply Kd.R_alloc | apply Kd.R_drewN | apply Kd.R_drew)); exact HO430.out, by repeat (first | (with_reducible first | exact HB.out | apply below_alloc | apply pw_below_drewN | apply below_drew1) | exact HB.out)⟩
 ·rw [if_neg c2] at H
  exact absurd H (by simp)
end Go.Proofs.YtefefpkgiecikaaDoor.P
