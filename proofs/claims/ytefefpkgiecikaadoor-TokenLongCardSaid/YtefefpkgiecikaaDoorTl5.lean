/- Words and walks for the claim, merged by a program of this session (part 5). -/
import Derived.Test.YtefefpkgiecikaaDoorTl1
import Derived.Test.YtefefpkgiecikaaDoorTl2
import Derived.Test.YtefefpkgiecikaaDoorTl4
import Derived.RegionTactic
import Derived.ChangeAlike
set_option linter.unusedVariables false
set_option linter.unusedSimpArgs false
namespace Go.Proofs.YtefefpkgiecikaaDoor.P
open Go.RowKit Go.Proofs.YtefefpkgiecikaaDoorW.PrintWords Go.Proofs.YtefefpkgiecikaaDoorW.PrintLast Go.Proofs.YtefefpkgiecikaaDoorW.PrintMore
attribute [local go_sem] max2_int min2_int max_two min_two max_three min_three max_four min_four
set_option linter.unusedVariables false
set_option linter.unusedSimpArgs false
mutual
def token_scanner_next_dies.l0 : Nat → Int → Int → List Int → Int → Option (Int × Int)
 | 0, _, _, _, _ => none
 | k + 1, x3, x13, x1000, x1001 => if x13 < 12 then (if 0 ≤ x13 then ((token_scanner_here.f k x1000 x1001 (token_signs_0 x13)).bind fun bt344 => (if bt344.1 = true then (none) else (token_scanner_next_dies.l0 k x3 (wrap64 (x13 + 1)) x1000 bt344.2))) else (none)) else ((token_scanner_peek.f x1000 x1001 0).bind fun bt346 => (if bt346.1 = 46 then ((token_scanner_left.f x1000 bt346.2 2).bind fun bt348 => (if bt348.1 = true then ((token_scanner_peek.f x1000 bt348.2 1).bind fun bt350 => ((utf_Ends.f bt350.1).bind fun t352 => (token_scanner_next_dies.j1 k x3 t352 x1000 bt350.2))) else (token_scanner_next_dies.j1 k x3 true x1000 bt348.2))) else (token_scanner_next_dies.j1 k x3 false x1000 bt346.2)))
def token_scanner_next_dies.j1 : Nat → Int → Bool → List Int → Int → Option (Int × Int)
 | 0, _, _, _, _ => none
 | k + 1, x3, x49, x1000, x1001 => if x49 = true then (none) else ((token_scanner_datum.f k x1000 x1001).bind fun bt353 => (if bt353.2.2.2.2.2.2.1 = true then (none) else (some (x3, bt353.2.2.2.2.2.2.2))))
end
def token_scanner_next_dies.f (k : Nat) (s0_0 : List Int) (s0_1 : Int) : Option (Int × Int) := token_scanner_next_dies.l0 k s0_1 0 s0_0 s0_1
theorem token_scanner_next_dies.mono_l : ∀ k, (∀ y0 y1 y2 y3, LeO (token_scanner_next_dies.l0 k y0 y1 y2 y3) (token_scanner_next_dies.l0 (k + 1) y0 y1 y2 y3)) ∧ (∀ y0 y1 y2 y3, LeO (token_scanner_next_dies.j1 k y0 y1 y2 y3) (token_scanner_next_dies.j1 (k + 1) y0 y1 y2 y3))
 | 0 => ⟨fun _ _ _ _ r h => by simp [token_scanner_next_dies.l0] at h, fun _ _ _ _ r h => by simp [token_scanner_next_dies.j1] at h⟩
 | k + 1 => by
  obtain ⟨ih0, ih1⟩ := token_scanner_next_dies.mono_l k
  refine ⟨?_, ?_⟩
  ·intro y0 y1 y2 y3
   unfold token_scanner_next_dies.l0
   repeat' first
   | (with_reducible exact ih0 _ _ _ _)
   | (with_reducible exact ih1 _ _ _ _)
   | (with_reducible exact token_scanner_datum.mono _ _ _)
   | (with_reducible exact token_scanner_here.mono _ _ _ _)
   | (with_reducible exact LeO.refl _)
   | (with_reducible exact LeO.none _)
   | (with_reducible refine LeO.ite ?_ ?_)
   | (with_reducible refine LeO.bind ?_ (fun _ => ?_))
   | exact ih0 _ _ _ _
   | exact ih1 _ _ _ _
   | exact token_scanner_datum.mono _ _ _
   | exact token_scanner_here.mono _ _ _ _
   | exact LeO.none _
   | refine LeO.ite ?_ ?_
   | refine LeO.bind ?_ (fun _ => ?_)
  ·intro y0 y1 y2 y3
   unfold token_scanner_next_dies.j1
   repeat' first
   | (with_reducible exact ih0 _ _ _ _)
   | (with_reducible exact ih1 _ _ _ _)
   | (with_reducible exact token_scanner_datum.mono _ _ _)
   | (with_reducible exact token_scanner_here.mono _ _ _ _)
   | (with_reducible exact LeO.refl _)
   | (with_reducible exact LeO.none _)
   | (with_reducible refine LeO.ite ?_ ?_)
   | (with_reducible refine LeO.bind ?_ (fun _ => ?_))
   | exact ih0 _ _ _ _
   | exact ih1 _ _ _ _
   | exact token_scanner_datum.mono _ _ _
   | exact token_scanner_here.mono _ _ _ _
   | exact LeO.none _
   | refine LeO.ite ?_ ?_
   | refine LeO.bind ?_ (fun _ => ?_)
theorem token_scanner_next_dies.mono : ∀ a0 a1 k, LeO (token_scanner_next_dies.f k a0 a1) (token_scanner_next_dies.f (k + 1) a0 a1) := by
 intro a0 a1 k
 obtain ⟨ih0, ih1⟩ := token_scanner_next_dies.mono_l k
 unfold token_scanner_next_dies.f
 repeat' first
   | (with_reducible exact ih0 _ _ _ _)
   | (with_reducible exact ih1 _ _ _ _)
   | (with_reducible exact token_scanner_datum.mono _ _ _)
   | (with_reducible exact token_scanner_here.mono _ _ _ _)
   | (with_reducible exact LeO.refl _)
   | (with_reducible exact LeO.none _)
   | (with_reducible refine LeO.ite ?_ ?_)
   | (with_reducible refine LeO.bind ?_ (fun _ => ?_))
   | exact ih0 _ _ _ _
   | exact ih1 _ _ _ _
   | exact token_scanner_datum.mono _ _ _
   | exact token_scanner_here.mono _ _ _ _
   | exact LeO.none _
   | refine LeO.ite ?_ ?_
   | refine LeO.bind ?_ (fun _ => ?_)
set_option maxHeartbeats 8000000 in
set_option maxRecDepth 100000 in
theorem token_scanner_next_dies.calls (k : Nat) (g : Nat) (s0_0 : List Int) (s0_1 : Int) (r1 : Int) (r2 : Int) (w0 w : World) (hI : IsS50 w0 w g s0_0 s0_1) (hB : Below w0.heap.size w0 w) (hLD : LD w0) (h : token_scanner_next_dies.f k s0_0 s0_1 = some (r1, r2)) :
  Calls Tryd.prog 15 #[.pointer (some ⟨g, 0, none⟩)] w fun e w' => e = .panicked [{ v := .iface 46 (.agg #[.int .i64 r1]), recovered := false }] ∧ IsS50 w0 w' g s0_0 r2 ∧ Below w0.heap.size w0 w' ∧ KeepBut w w' g none := by
 have hu38 := Tryd.underlying38
 have hu64 := Tryd.underlying64
 have hu33 := Tryd.underlying33
 have hu46 := Tryd.underlying46
 have HI0 := Aside0.mk hI
 have HK := Aside0.mk (KeepBut.refl w g none)
 have HL := Aside0.mk hB.size
 clear hI
 have HLD := Aside0.mk hLD
 clear hLD
 have HW0 := Aside0.mk hB.size
 have HB := Aside0.mk hB
 clear hB
 have H : (token_scanner_next_dies.l0 k s0_1 0 s0_0 s0_1) = some (r1, r2) := h
 clear h
 have H' := Aside0.mk H
 clear H
 go_enter Tryd.func15, Tryd.ntmps15
 go_wp2_with (first|((with_reducible refine gate_dst (N := 2) rfl ?_);refine box_event ?hg (N := 2) ?hd (cs := #[.int .i64 0, .string (⟨#[]⟩ : ByteArray), .int .i64 0, .string (⟨#[]⟩ : ByteArray), .bool false, .slice none 0 0, .slice none 0 0, .int .i64 0, .int .i64 0]) (t := 38) ?hr ?_;(case hd => rfl);(case hg => rfl);(case hr => first|(go_simp;done)|(go_simp;rfl));intro gb342 hg w2 hbox hb;have n0_ := Aside0.mk (IsS50.below (by repeat (first|(with_reducible first|exact HI0.out|apply IsS50.alloc|apply IsS50.drewN|apply IsS50.drew|apply IsS50.set_1)|exact HI0.out)) hb);have n1_ := Aside0.mk (KeepBut.trans (by repeat (first|(with_reducible first|exact HK.out|apply KeepBut.set_|apply keep_drewN|apply keep_drew|apply keep_alloc)|exact HK.out)) (KeepBut.of_below hb g none) (.inl rfl));have n2_ := Aside0.mk (below_step (by repeat (first|(with_reducible first|exact HB.out|apply below_alloc|apply pw_below_drewN|apply below_drew1|refine below_set ?_ (IsS50.ge HI0.out))|exact HB.out)) hb);have n3_ := Aside0.mk (hbox);have n4_ := Aside0.mk ((by rw [hg];exact (keep_size (w := w) (g := g) (row := none) (by repeat (first|(with_reducible first|exact HK.out|apply KeepBut.set_|apply keep_drewN|apply keep_drew|apply keep_alloc)|exact HK.out))) : w.heap.size ≤ gb342));have n5_ := Aside0.mk ((Nat.le_trans HW0.out (by rw [hg];exact (keep_size (w := w) (g := g) (row := none) (by repeat (first|(with_reducible first|exact HK.out|apply KeepBut.set_|apply keep_drewN|apply keep_drew|apply keep_alloc)|exact HK.out))) : w.heap.size ≤ gb342) : w0.heap.size ≤ gb342));have n6_ := Aside0.mk ((by rw [hg];exact Nat.ne_of_lt (IsS50.lt (show IsS50 w0 _ g s0_0 s0_1 from by repeat (first|(with_reducible first|exact HI0.out|apply IsS50.alloc|apply IsS50.drewN|apply IsS50.drew|apply IsS50.set_1)|exact HI0.out))) : g ≠ gb342));have n7_ := Aside0.mk ((by rw [hg];exact Nat.ne_of_gt (IsS50.lt (show IsS50 w0 _ g s0_0 s0_1 from by repeat (first|(with_reducible first|exact HI0.out|apply IsS50.alloc|apply IsS50.drewN|apply IsS50.drew|apply IsS50.set_1)|exact HI0.out))) : gb342 ≠ g));clear HI0;clear HK;clear HB;have HI0 := n0_;have HK := n1_;have HB := n2_;have BK342 := n3_;have GW342 := n4_;have GE342 := n5_;have NB0_342 := n6_;have NB342_0 := n7_;clear n0_ n1_ n2_ n3_ n4_ n5_ n6_ n7_;clear hb hbox hg;obtain ⟨ASz3_0, cSz3_0, HGz3, hgz3, ⟨HSz3_0, HCSz3_0⟩⟩ := HI0.out;have hcz3_0 := cellS50_0 HGz3;have hcz3_1 := cellS50_1 HGz3;have hfz3_1 := blk_frozen HGz3 1;have BKSz3 := Aside0.mk HGz3;clear HGz3 hgz3)|((with_reducible refine gate_dst (N := 12) rfl ?_);refine LD.load_token_signs (LD.below HLD.out (by repeat (first|(with_reducible first|exact HB.out|apply below_alloc|apply pw_below_drewN|apply below_drew1|refine below_set ?_ (IsS50.ge HI0.out)|refine below_set ?_ GE342.out)|exact HB.out))) rfl rfl ?_))
 go_loopg [13] k (fun kq v13 w' => ∃ (x13_1 : Int) (x1001_1 : Int) (x343000_1 : Int) (x343001_1 : ByteArray) (x343002_1 : Int) (x343003_1 : ByteArray) (x343004_1 : Bool) (x343007_1 : Int) (x343008_1 : Int), v13 = .int .i64 x13_1 ∧ Aside0 (token_scanner_next_dies.l0 kq s0_1 x13_1 s0_0 x1001_1 = some (r1, r2)) ∧ Aside0 (kq ≤ k) ∧ Aside0 (w'.heap[gb342]? = some (.cells #[.int .i64 x343000_1, .string x343001_1, .int .i64 x343002_1, .string x343003_1, .bool x343004_1, (.slice none 0 0), (.slice none 0 0), .int .i64 x343007_1, .int .i64 x343008_1] 38 (0, 0))) ∧ Aside0 (IsS50 w0 w' g s0_0 x1001_1) ∧ Aside0 (KeepBut w w' g none) ∧ Aside0 (Below w0.heap.size w0 w'))
 case atStart => exact ⟨(0), (s0_1), (0), ((⟨#[]⟩ : ByteArray)), (0), ((⟨#[]⟩ : ByteArray)), (false), (0), (0), (by first|rfl|(simp;done)|(simp [*];done)), H', ⟨Nat.le_refl _⟩, ⟨by (with_reducible repeat (first|refine blk_drewN ?_ _|refine blk_drew ?_|refine blk_alloc ?_ _));exact BK342.out⟩, ⟨by repeat (first|(with_reducible first|exact HI0.out|apply IsS50.alloc|apply IsS50.drewN|apply IsS50.drew|apply IsS50.set_1|refine IsS50.far ?_ NB0_342.out _)|exact HI0.out)⟩, ⟨by repeat (first|(with_reducible first|exact HK.out|apply KeepBut.set_|apply keep_drewN|apply keep_drew|apply keep_alloc|refine keep_far ?_ GW342.out _)|exact HK.out)⟩, ⟨by repeat (first|(with_reducible first|exact HB.out|apply below_alloc|apply pw_below_drewN|apply below_drew1|refine below_set ?_ (IsS50.ge HI0.out)|refine below_set ?_ GE342.out)|exact HB.out)⟩⟩
 case round =>
  clear H'
  try clear p2
  try clear hcz3_0
  try clear hcz3_1
  try clear hfz3_1
  obtain ⟨x13_1, x1001_1, x343000_1, x343001_1, x343002_1, x343003_1, x343004_1, x343007_1, x343008_1, rfl, HA, HK1, BK342, HI0, HK, HB⟩ := hrel
  cases gk with
  | zero => exact absurd HA.out (by simp [token_scanner_next_dies.l0])
  | succ k1 =>
   have H := HA.out
   clear HA
   simp only [token_scanner_next_dies.l0] at H
   by_cases c4 : x13_1 < 12
   ·rw [if_pos c4] at H
    have c4b0 : decide (x13_1 < 12) = true := decide_eq_true c4
    clear c4
    by_cases c5 : 0 ≤ x13_1
    ·rw [if_pos c5] at H
     have c5b0 : decide (0 ≤ x13_1) = true := decide_eq_true c5
     clear c5
     replace H := Option.bind_eq_some_iff.mp H
     obtain ⟨⟨t344, t345⟩, A60, H⟩ := H
     replace H : (if t344 = true then (none) else (token_scanner_next_dies.l0 k1 s0_1 (wrap64 (x13_1 + 1)) s0_0 t345)) = some (r1, r2) := H
     have A6 := Aside0.mk A60
     clear A60
     by_cases c7 : t344 = true
     ·subst c7
      have H1 : (none) = some (r1, r2) := by rw [if_pos rfl] at H; exact H
      clear H
      have H := H1
      clear H1
      exact absurd H (by simp)
     ·replace c7 := Bool.eq_false_iff.mpr c7
      subst c7
      have H1 : (token_scanner_next_dies.l0 k1 s0_1 (wrap64 (x13_1 + 1)) s0_0 t345) = some (r1, r2) := by rw [if_neg (show ¬ (false = true) by decide)] at H; exact H
      clear H
      have H := H1
      clear H1
      have H' := Aside0.mk H
      clear H
      have hgi8 := token_signs_at x13_1 (of_decide_eq_true (by first | (with_reducible assumption) | assumption)) (of_decide_eq_true (by first | (with_reducible assumption) | assumption))
      go_wp2_with (first|((with_reducible refine gate_dst (N := 5) rfl ?_);refine box_event ?hg (N := 5) ?hd (cs := #[.string (⟨#[]⟩ : ByteArray), .int .i64 0, .string (⟨#[]⟩ : ByteArray)]) (t := 64) ?hr ?_;(case hd => rfl);(case hg => rfl);(case hr => first|(go_simp;done)|(go_simp;rfl));intro gb343 hg w9 hbox hb;have n0_ := Aside0.mk (blk_below (g := gb342) (o := .cells #[.int .i64 x343000_1, .string x343001_1, .int .i64 x343002_1, .string x343003_1, .bool x343004_1, .slice none 0 0, .slice none 0 0, .int .i64 x343007_1, .int .i64 x343008_1] 38 (0, 0)) (by (with_reducible repeat (first|refine blk_drewN ?_ _|refine blk_drew ?_|refine blk_alloc ?_ _));exact BK342.out) hb);have n1_ := Aside0.mk (IsS50.below (by repeat (first|(with_reducible first|exact HI0.out|apply IsS50.alloc|apply IsS50.drewN|apply IsS50.drew|apply IsS50.set_1|refine IsS50.far ?_ NB0_342.out _)|exact HI0.out)) hb);have n2_ := Aside0.mk (KeepBut.trans (by repeat (first|(with_reducible first|exact HK.out|apply KeepBut.set_|apply keep_drewN|apply keep_drew|apply keep_alloc|refine keep_far ?_ GW342.out _)|exact HK.out)) (KeepBut.of_below hb g none) (.inl rfl));have n3_ := Aside0.mk (below_step (by repeat (first|(with_reducible first|exact HB.out|apply below_alloc|apply pw_below_drewN|apply below_drew1|refine below_set ?_ (IsS50.ge HI0.out)|refine below_set ?_ GE342.out)|exact HB.out)) hb);have n4_ := Aside0.mk (hbox);have n5_ := Aside0.mk ((by rw [hg];exact (keep_size (w := w) (g := g) (row := none) (by repeat (first|(with_reducible first|exact HK.out|apply KeepBut.set_|apply keep_drewN|apply keep_drew|apply keep_alloc|refine keep_far ?_ GW342.out _)|exact HK.out))) : w.heap.size ≤ gb343));have n6_ := Aside0.mk ((Nat.le_trans HW0.out (by rw [hg];exact (keep_size (w := w) (g := g) (row := none) (by repeat (first|(with_reducible first|exact HK.out|apply KeepBut.set_|apply keep_drewN|apply keep_drew|apply keep_alloc|refine keep_far ?_ GW342.out _)|exact HK.out))) : w.heap.size ≤ gb343) : w0.heap.size ≤ gb343));have n7_ := Aside0.mk ((by rw [hg];exact Nat.ne_of_lt (blk_lt (g := gb342) (o := .cells #[.int .i64 x343000_1, .string x343001_1, .int .i64 x343002_1, .string x343003_1, .bool x343004_1, .slice none 0 0, .slice none 0 0, .int .i64 x343007_1, .int .i64 x343008_1] 38 (0, 0)) (by (with_reducible repeat (first|refine blk_drewN ?_ _|refine blk_drew ?_|refine blk_alloc ?_ _));exact BK342.out)) : gb342 ≠ gb343));have n8_ := Aside0.mk ((by rw [hg];exact Nat.ne_of_gt (blk_lt (g := gb342) (o := .cells #[.int .i64 x343000_1, .string x343001_1, .int .i64 x343002_1, .string x343003_1, .bool x343004_1, .slice none 0 0, .slice none 0 0, .int .i64 x343007_1, .int .i64 x343008_1] 38 (0, 0)) (by (with_reducible repeat (first|refine blk_drewN ?_ _|refine blk_drew ?_|refine blk_alloc ?_ _));exact BK342.out)) : gb343 ≠ gb342));have n9_ := Aside0.mk ((by rw [hg];exact Nat.ne_of_lt (IsS50.lt (show IsS50 w0 _ g s0_0 x1001_1 from by repeat (first|(with_reducible first|exact HI0.out|apply IsS50.alloc|apply IsS50.drewN|apply IsS50.drew|apply IsS50.set_1|refine IsS50.far ?_ NB0_342.out _)|exact HI0.out))) : g ≠ gb343));have n10_ := Aside0.mk ((by rw [hg];exact Nat.ne_of_gt (IsS50.lt (show IsS50 w0 _ g s0_0 x1001_1 from by repeat (first|(with_reducible first|exact HI0.out|apply IsS50.alloc|apply IsS50.drewN|apply IsS50.drew|apply IsS50.set_1|refine IsS50.far ?_ NB0_342.out _)|exact HI0.out))) : gb343 ≠ g));clear BK342;clear HI0;clear HK;clear HB;have BK342 := n0_;have HI0 := n1_;have HK := n2_;have HB := n3_;have BK343 := n4_;have GW343 := n5_;have GE343 := n6_;have NB342_343 := n7_;have NB343_342 := n8_;have NB0_343 := n9_;have NB343_0 := n10_;clear n0_ n1_ n2_ n3_ n4_ n5_ n6_ n7_ n8_ n9_ n10_;clear hb hbox hg;have hnb10 := NB343_342.out;have hnc10 := NB342_343.out;have hnb11 := NB343_0.out;have hnc11 := NB0_343.out;have hcz12_0 : w9.cell? ⟨gb343, 0, none⟩ = some (.string (⟨#[]⟩ : ByteArray)) := (blk_cell BK343.out 0).trans rfl;have hcz12_1 : w9.cell? ⟨gb343, 1, none⟩ = some (.int .i64 0) := (blk_cell BK343.out 1).trans rfl;have hcz12_2 : w9.cell? ⟨gb343, 2, none⟩ = some (.string (⟨#[]⟩ : ByteArray)) := (blk_cell BK343.out 2).trans rfl;have hfz12_0 := blk_frozen BK343.out 0;have hfz12_1 := blk_frozen BK343.out 1;have hfz12_2 := blk_frozen BK343.out 2)|(go_at_call 26;(with_reducible refine (token_scanner_here.calls k1 g s0_0 x1001_1 (token_signs_0 x13_1) false t345 w0 _ ?side1 ?side2 A6.out).mono ?_);(case side1 => repeat (first|(with_reducible first|exact HI0.out|apply IsS50.alloc|apply IsS50.drewN|apply IsS50.drew|apply IsS50.set_1|refine IsS50.far ?_ NB0_342.out _|refine IsS50.far ?_ NB0_343.out _)|exact HI0.out));(case side2 => repeat (first|(with_reducible first|exact HB.out|apply below_alloc|apply pw_below_drewN|apply below_drew1|refine below_set ?_ (IsS50.ge HI0.out)|refine below_set ?_ GE342.out|refine below_set ?_ GE343.out)|exact HB.out));rintro e w13 ⟨rfl, hi, hb, hk⟩;have n0_ := Aside0.mk (KeepBut.blk hk (g' := gb342) (o := .cells #[.int .i64 x343000_1, .string x343001_1, .int .i64 x343002_1, .string x343003_1, .bool x343004_1, .slice none 0 0, .slice none 0 0, .int .i64 x343007_1, .int .i64 x343008_1] 38 (0, 0)) (by (with_reducible repeat (first|refine blk_drewN ?_ _|refine blk_drew ?_|refine blk_alloc ?_ _));refine blk_far ?_ NB342_343.out _;(with_reducible repeat (first|refine blk_drewN ?_ _|refine blk_drew ?_|refine blk_alloc ?_ _));refine blk_far ?_ NB342_343.out _;(with_reducible repeat (first|refine blk_drewN ?_ _|refine blk_drew ?_|refine blk_alloc ?_ _));refine blk_far ?_ NB342_343.out _;(with_reducible repeat (first|refine blk_drewN ?_ _|refine blk_drew ?_|refine blk_alloc ?_ _));exact BK342.out) NB342_0.out (by simp));have n1_ := Aside0.mk (KeepBut.blk hk (g' := gb343) (o := .cells #[.string (token_signs_0 x13_1), .int .i64 (token_signs_1 x13_1), .string (token_signs_2 x13_1)] 64 (0, 0)) (by (with_reducible repeat (first|refine blk_drewN ?_ _|refine blk_drew ?_|refine blk_alloc ?_ _));refine blk_put (cs := #[.string (token_signs_0 x13_1), .int .i64 (token_signs_1 x13_1), .string (⟨#[]⟩ : ByteArray)]) ?_ 2 _ rfl;(with_reducible repeat (first|refine blk_drewN ?_ _|refine blk_drew ?_|refine blk_alloc ?_ _));refine blk_put (cs := #[.string (token_signs_0 x13_1), .int .i64 0, .string (⟨#[]⟩ : ByteArray)]) ?_ 1 _ rfl;(with_reducible repeat (first|refine blk_drewN ?_ _|refine blk_drew ?_|refine blk_alloc ?_ _));refine blk_put (cs := #[.string (⟨#[]⟩ : ByteArray), .int .i64 0, .string (⟨#[]⟩ : ByteArray)]) ?_ 0 _ rfl;(with_reducible repeat (first|refine blk_drewN ?_ _|refine blk_drew ?_|refine blk_alloc ?_ _));exact BK343.out) NB343_0.out (by simp));have n2_ := Aside0.mk (KeepBut.trans (by repeat (first|(with_reducible first|exact HK.out|apply KeepBut.set_|apply keep_drewN|apply keep_drew|apply keep_alloc|refine keep_far ?_ GW342.out _|refine keep_far ?_ GW343.out _)|exact HK.out)) hk (.inl rfl));have n3_ := Aside0.mk (hb);have n4_ := Aside0.mk (hi);clear BK342;clear BK343;clear HK;clear HB;clear HI0;have BK342 := n0_;have BK343 := n1_;have HK := n2_;have HB := n3_;have HI0 := n4_;clear n0_ n1_ n2_ n3_ n4_;(try clear hb);(try clear hb2);(try clear hk);(try clear hi)))
      go_roundg k1
      case measure => have := HK1.out; omega
      case rel => exact ⟨(wrap64 (x13_1 + 1)), (t345), (x343000_1), (x343001_1), (x343002_1), (x343003_1), (x343004_1), (x343007_1), (x343008_1), (by first|rfl|(simp;done)|(simp [*];done)), H', ⟨by have := HK1.out;omega⟩, ⟨by (with_reducible repeat (first|refine blk_drewN ?_ _|refine blk_drew ?_|refine blk_alloc ?_ _));exact BK342.out⟩, ⟨by repeat (first|(with_reducible first|exact HI0.out|apply IsS50.alloc|apply IsS50.drewN|apply IsS50.drew|apply IsS50.set_1|refine IsS50.far ?_ NB0_342.out _|refine IsS50.far ?_ NB0_343.out _)|exact HI0.out)⟩, ⟨by repeat (first|(with_reducible first|exact HK.out|apply KeepBut.set_|apply keep_drewN|apply keep_drew|apply keep_alloc|refine keep_far ?_ GW342.out _|refine keep_far ?_ GW343.out _)|exact HK.out)⟩, ⟨by repeat (first|(with_reducible first|exact HB.out|apply below_alloc|apply pw_below_drewN|apply below_drew1|refine below_set ?_ (IsS50.ge HI0.out)|refine below_set ?_ GE342.out|refine below_set ?_ GE343.out)|exact HB.out)⟩⟩
    ·rw [if_neg c5] at H
     exact absurd H (by simp)
   ·rw [if_neg c4] at H
    have c4b0 : decide (x13_1 < 12) = false := decide_eq_false c4
    clear c4
    have HC14 := Aside0.mk H
    clear H
    go_upto_region 9 with (fail)
    go_cut [49] (fun v49 wc => ∃ (kq : Nat) (x49_13 : Bool) (x1001_13 : Int), v49 = .bool x49_13 ∧ Aside0 (token_scanner_next_dies.j1 kq s0_1 x49_13 s0_0 x1001_13 = some (r1, r2)) ∧ Aside0 (kq ≤ k1) ∧ Aside0 (wc.heap[gb342]? = some (.cells #[.int .i64 x343000_1, .string x343001_1, .int .i64 x343002_1, .string x343003_1, .bool x343004_1, (.slice none 0 0), (.slice none 0 0), .int .i64 x343007_1, .int .i64 x343008_1] 38 (0, 0))) ∧ Aside0 (IsS50 w0 wc g s0_0 x1001_13) ∧ Aside0 (KeepBut w wc g none) ∧ Aside0 (Below w0.heap.size w0 wc))
    case first =>
     have H := HC14.out
     clear HC14
     replace H := Option.bind_eq_some_iff.mp H
     obtain ⟨⟨t346, t347⟩, A150, H⟩ := H
     replace H : (if t346 = 46 then ((token_scanner_left.f s0_0 t347 2).bind fun bt348 => (if bt348.1 = true then ((token_scanner_peek.f s0_0 bt348.2 1).bind fun bt350 => ((utf_Ends.f bt350.1).bind fun t352 => (token_scanner_next_dies.j1 k1 s0_1 t352 s0_0 bt350.2))) else (token_scanner_next_dies.j1 k1 s0_1 true s0_0 bt348.2))) else (token_scanner_next_dies.j1 k1 s0_1 false s0_0 t347)) = some (r1, r2) := H
     have A15 := Aside0.mk A150
     clear A150
     by_cases c16 : t346 = 46
     ·rw [if_pos c16] at H
      have c16b0 : (t346 == 46) = true := beq_iff_eq.mpr c16
      have c16b1 : (t346 != 46) = false := bne_eq_false_iff_eq.mpr c16
      clear c16
      (first|rw [c16b0]|(simp only [i64_w, i32_w];rw [c16b0])|skip)
      replace H := Option.bind_eq_some_iff.mp H
      obtain ⟨⟨t348, t349⟩, A170, H⟩ := H
      replace H : (if t348 = true then ((token_scanner_peek.f s0_0 t349 1).bind fun bt350 => ((utf_Ends.f bt350.1).bind fun t352 => (token_scanner_next_dies.j1 k1 s0_1 t352 s0_0 bt350.2))) else (token_scanner_next_dies.j1 k1 s0_1 true s0_0 t349)) = some (r1, r2) := H
      have A17 := Aside0.mk A170
      clear A170
      by_cases c18 : t348 = true
      ·subst c18
       have H1 : ((token_scanner_peek.f s0_0 t349 1).bind fun bt350 => ((utf_Ends.f bt350.1).bind fun t352 => (token_scanner_next_dies.j1 k1 s0_1 t352 s0_0 bt350.2))) = some (r1, r2) := by rw [if_pos rfl] at H; exact H
       clear H
       have H := H1
       clear H1
       replace H := Option.bind_eq_some_iff.mp H
       obtain ⟨⟨t350, t351⟩, A190, H⟩ := H
       replace H : ((utf_Ends.f t350).bind fun t352 => (token_scanner_next_dies.j1 k1 s0_1 t352 s0_0 t351)) = some (r1, r2) := H
       have A19 := Aside0.mk A190
       clear A190
       replace H := Option.bind_eq_some_iff.mp H
       obtain ⟨t352, A200, H⟩ := H
       replace H : (token_scanner_next_dies.j1 k1 s0_1 t352 s0_0 t351) = some (r1, r2) := H
       have A20 := Aside0.mk A200
       clear A200
       have H' := Aside0.mk H
       clear H
       go_wp2_with (first|(go_at_call 24;(with_reducible refine (token_scanner_peek.calls g s0_0 x1001_1 0 t346 t347 w0 _ ?side1 ?side2 A15.out).mono ?_);(case side1 => repeat (first|(with_reducible first|exact HI0.out|apply IsS50.alloc|apply IsS50.drewN|apply IsS50.drew|apply IsS50.set_1|refine IsS50.far ?_ NB0_342.out _)|exact HI0.out));(case side2 => repeat (first|(with_reducible first|exact HB.out|apply below_alloc|apply pw_below_drewN|apply below_drew1|refine below_set ?_ (IsS50.ge HI0.out)|refine below_set ?_ GE342.out)|exact HB.out));rintro e w21 ⟨rfl, hi, hb, hk⟩;have n0_ := Aside0.mk (KeepBut.blk hk (g' := gb342) (o := .cells #[.int .i64 x343000_1, .string x343001_1, .int .i64 x343002_1, .string x343003_1, .bool x343004_1, .slice none 0 0, .slice none 0 0, .int .i64 x343007_1, .int .i64 x343008_1] 38 (0, 0)) (by (with_reducible repeat (first|refine blk_drewN ?_ _|refine blk_drew ?_|refine blk_alloc ?_ _));exact BK342.out) NB342_0.out (by simp));have n1_ := Aside0.mk (KeepBut.trans (by repeat (first|(with_reducible first|exact HK.out|apply KeepBut.set_|apply keep_drewN|apply keep_drew|apply keep_alloc|refine keep_far ?_ GW342.out _)|exact HK.out)) hk (.inl rfl));have n2_ := Aside0.mk (hb);have n3_ := Aside0.mk (hi);clear BK342;clear HK;clear HB;clear HI0;have BK342 := n0_;have HK := n1_;have HB := n2_;have HI0 := n3_;clear n0_ n1_ n2_ n3_;(try clear hb);(try clear hb2);(try clear hk);(try clear hi))|(go_at_call 14;(with_reducible refine (token_scanner_left.calls g s0_0 t347 2 true t349 w0 _ ?side1 ?side2 A17.out).mono ?_);(case side1 => repeat (first|(with_reducible first|exact HI0.out|apply IsS50.alloc|apply IsS50.drewN|apply IsS50.drew|apply IsS50.set_1|refine IsS50.far ?_ NB0_342.out _)|exact HI0.out));(case side2 => repeat (first|(with_reducible first|exact HB.out|apply below_alloc|apply pw_below_drewN|apply below_drew1|refine below_set ?_ (IsS50.ge HI0.out)|refine below_set ?_ GE342.out)|exact HB.out));rintro e w22 ⟨rfl, hi, hb, hk⟩;have n0_ := Aside0.mk (KeepBut.blk hk (g' := gb342) (o := .cells #[.int .i64 x343000_1, .string x343001_1, .int .i64 x343002_1, .string x343003_1, .bool x343004_1, .slice none 0 0, .slice none 0 0, .int .i64 x343007_1, .int .i64 x343008_1] 38 (0, 0)) (by (with_reducible repeat (first|refine blk_drewN ?_ _|refine blk_drew ?_|refine blk_alloc ?_ _));exact BK342.out) NB342_0.out (by simp));have n1_ := Aside0.mk (KeepBut.trans (by repeat (first|(with_reducible first|exact HK.out|apply KeepBut.set_|apply keep_drewN|apply keep_drew|apply keep_alloc|refine keep_far ?_ GW342.out _)|exact HK.out)) hk (.inl rfl));have n2_ := Aside0.mk (hb);have n3_ := Aside0.mk (hi);clear BK342;clear HK;clear HB;clear HI0;have BK342 := n0_;have HK := n1_;have HB := n2_;have HI0 := n3_;clear n0_ n1_ n2_ n3_;(try clear hb);(try clear hb2);(try clear hk);(try clear hi))|(go_at_call 24;(with_reducible refine (token_scanner_peek.calls g s0_0 t349 1 t350 t351 w0 _ ?side1 ?side2 A19.out).mono ?_);(case side1 => repeat (first|(with_reducible first|exact HI0.out|apply IsS50.alloc|apply IsS50.drewN|apply IsS50.drew|apply IsS50.set_1|refine IsS50.far ?_ NB0_342.out _)|exact HI0.out));(case side2 => repeat (first|(with_reducible first|exact HB.out|apply below_alloc|apply pw_below_drewN|apply below_drew1|refine below_set ?_ (IsS50.ge HI0.out)|refine below_set ?_ GE342.out)|exact HB.out));rintro e w23 ⟨rfl, hi, hb, hk⟩;have n0_ := Aside0.mk (KeepBut.blk hk (g' := gb342) (o := .cells #[.int .i64 x343000_1, .string x343001_1, .int .i64 x343002_1, .string x343003_1, .bool x343004_1, .slice none 0 0, .slice none 0 0, .int .i64 x343007_1, .int .i64 x343008_1] 38 (0, 0)) (by (with_reducible repeat (first|refine blk_drewN ?_ _|refine blk_drew ?_|refine blk_alloc ?_ _));exact BK342.out) NB342_0.out (by simp));have n1_ := Aside0.mk (KeepBut.trans (by repeat (first|(with_reducible first|exact HK.out|apply KeepBut.set_|apply keep_drewN|apply keep_drew|apply keep_alloc|refine keep_far ?_ GW342.out _)|exact HK.out)) hk (.inl rfl));have n2_ := Aside0.mk (hb);have n3_ := Aside0.mk (hi);clear BK342;clear HK;clear HB;clear HI0;have BK342 := n0_;have HK := n1_;have HB := n2_;have HI0 := n3_;clear n0_ n1_ n2_ n3_;(try clear hb);(try clear hb2);(try clear hk);(try clear hi))|(go_at_call 20;(with_reducible refine (utf_Ends.calls t350 t352 _ A20.out).mono ?_);rintro e w' ⟨rfl, ⟨nd, rfl⟩⟩))
       go_meet
       case rel => exact ⟨_, (t352), (t351), (by first|rfl|(simp;done)|(simp [*];done)), H', ⟨by have := HK1.out;first|omega|exact Nat.le_refl _⟩, ⟨by (with_reducible repeat (first|refine blk_drewN ?_ _|refine blk_drew ?_|refine blk_alloc ?_ _));exact BK342.out⟩, ⟨by repeat (first|(with_reducible first|exact HI0.out|apply IsS50.alloc|apply IsS50.drewN|apply IsS50.drew|apply IsS50.set_1|refine IsS50.far ?_ NB0_342.out _)|exact HI0.out)⟩, ⟨by repeat (first|(with_reducible first|exact HK.out|apply KeepBut.set_|apply keep_drewN|apply keep_drew|apply keep_alloc|refine keep_far ?_ GW342.out _)|exact HK.out)⟩, ⟨by repeat (first|(with_reducible first|exact HB.out|apply below_alloc|apply pw_below_drewN|apply below_drew1|refine below_set ?_ (IsS50.ge HI0.out)|refine below_set ?_ GE342.out)|exact HB.out)⟩⟩
      ·replace c18 := Bool.eq_false_iff.mpr c18
       subst c18
       have H1 : (token_scanner_next_dies.j1 k1 s0_1 true s0_0 t349) = some (r1, r2) := by rw [if_neg (show ¬ (false = true) by decide)] at H; exact H
       clear H
       have H := H1
       clear H1
       have H' := Aside0.mk H
       clear H
       go_wp2_with (first|(go_at_call 24;(with_reducible refine (token_scanner_peek.calls g s0_0 x1001_1 0 t346 t347 w0 _ ?side1 ?side2 A15.out).mono ?_);(case side1 => repeat (first|(with_reducible first|exact HI0.out|apply IsS50.alloc|apply IsS50.drewN|apply IsS50.drew|apply IsS50.set_1|refine IsS50.far ?_ NB0_342.out _)|exact HI0.out));(case side2 => repeat (first|(with_reducible first|exact HB.out|apply below_alloc|apply pw_below_drewN|apply below_drew1|refine below_set ?_ (IsS50.ge HI0.out)|refine below_set ?_ GE342.out)|exact HB.out));rintro e w24 ⟨rfl, hi, hb, hk⟩;have n0_ := Aside0.mk (KeepBut.blk hk (g' := gb342) (o := .cells #[.int .i64 x343000_1, .string x343001_1, .int .i64 x343002_1, .string x343003_1, .bool x343004_1, .slice none 0 0, .slice none 0 0, .int .i64 x343007_1, .int .i64 x343008_1] 38 (0, 0)) (by (with_reducible repeat (first|refine blk_drewN ?_ _|refine blk_drew ?_|refine blk_alloc ?_ _));exact BK342.out) NB342_0.out (by simp));have n1_ := Aside0.mk (KeepBut.trans (by repeat (first|(with_reducible first|exact HK.out|apply KeepBut.set_|apply keep_drewN|apply keep_drew|apply keep_alloc|refine keep_far ?_ GW342.out _)|exact HK.out)) hk (.inl rfl));have n2_ := Aside0.mk (hb);have n3_ := Aside0.mk (hi);clear BK342;clear HK;clear HB;clear HI0;have BK342 := n0_;have HK := n1_;have HB := n2_;have HI0 := n3_;clear n0_ n1_ n2_ n3_;(try clear hb);(try clear hb2);(try clear hk);(try clear hi))|(go_at_call 14;(with_reducible refine (token_scanner_left.calls g s0_0 t347 2 false t349 w0 _ ?side1 ?side2 A17.out).mono ?_);(case side1 => repeat (first|(with_reducible first|exact HI0.out|apply IsS50.alloc|apply IsS50.drewN|apply IsS50.drew|apply IsS50.set_1|refine IsS50.far ?_ NB0_342.out _)|exact HI0.out));(case side2 => repeat (first|(with_reducible first|exact HB.out|apply below_alloc|apply pw_below_drewN|apply below_drew1|refine below_set ?_ (IsS50.ge HI0.out)|refine below_set ?_ GE342.out)|exact HB.out));rintro e w25 ⟨rfl, hi, hb, hk⟩;have n0_ := Aside0.mk (KeepBut.blk hk (g' := gb342) (o := .cells #[.int .i64 x343000_1, .string x343001_1, .int .i64 x343002_1, .string x343003_1, .bool x343004_1, .slice none 0 0, .slice none 0 0, .int .i64 x343007_1, .int .i64 x343008_1] 38 (0, 0)) (by (with_reducible repeat (first|refine blk_drewN ?_ _|refine blk_drew ?_|refine blk_alloc ?_ _));exact BK342.out) NB342_0.out (by simp));have n1_ := Aside0.mk (KeepBut.trans (by repeat (first|(with_reducible first|exact HK.out|apply KeepBut.set_|apply keep_drewN|apply keep_drew|apply keep_alloc|refine keep_far ?_ GW342.out _)|exact HK.out)) hk (.inl rfl));have n2_ := Aside0.mk (hb);have n3_ := Aside0.mk (hi);clear BK342;clear HK;clear HB;clear HI0;have BK342 := n0_;have HK := n1_;have HB := n2_;have HI0 := n3_;clear n0_ n1_ n2_ n3_;(try clear hb);(try clear hb2);(try clear hk);(try clear hi)))
       go_meet
       case rel => exact ⟨_, (true), (t349), (by first|rfl|(simp;done)|(simp [*];done)), H', ⟨by have := HK1.out;first|omega|exact Nat.le_refl _⟩, ⟨by (with_reducible repeat (first|refine blk_drewN ?_ _|refine blk_drew ?_|refine blk_alloc ?_ _));exact BK342.out⟩, ⟨by repeat (first|(with_reducible first|exact HI0.out|apply IsS50.alloc|apply IsS50.drewN|apply IsS50.drew|apply IsS50.set_1|refine IsS50.far ?_ NB0_342.out _)|exact HI0.out)⟩, ⟨by repeat (first|(with_reducible first|exact HK.out|apply KeepBut.set_|apply keep_drewN|apply keep_drew|apply keep_alloc|refine keep_far ?_ GW342.out _)|exact HK.out)⟩, ⟨by repeat (first|(with_reducible first|exact HB.out|apply below_alloc|apply pw_below_drewN|apply below_drew1|refine below_set ?_ (IsS50.ge HI0.out)|refine below_set ?_ GE342.out)|exact HB.out)⟩⟩
     ·rw [if_neg c16] at H
      have c16b0 : (t346 == 46) = false := beq_eq_false_iff_ne.mpr c16
      have c16b1 : (t346 != 46) = true := bne_iff_ne.mpr c16
      (first|rw [c16b0]|(simp only [i64_w, i32_w];rw [c16b0])|skip)
      have H' := Aside0.mk H
      clear H
      go_wp2_with (first|(go_at_call 24;(with_reducible refine (token_scanner_peek.calls g s0_0 x1001_1 0 t346 t347 w0 _ ?side1 ?side2 A15.out).mono ?_);(case side1 => repeat (first|(with_reducible first|exact HI0.out|apply IsS50.alloc|apply IsS50.drewN|apply IsS50.drew|apply IsS50.set_1|refine IsS50.far ?_ NB0_342.out _)|exact HI0.out));(case side2 => repeat (first|(with_reducible first|exact HB.out|apply below_alloc|apply pw_below_drewN|apply below_drew1|refine below_set ?_ (IsS50.ge HI0.out)|refine below_set ?_ GE342.out)|exact HB.out));rintro e w26 ⟨rfl, hi, hb, hk⟩;have n0_ := Aside0.mk (KeepBut.blk hk (g' := gb342) (o := .cells #[.int .i64 x343000_1, .string x343001_1, .int .i64 x343002_1, .string x343003_1, .bool x343004_1, .slice none 0 0, .slice none 0 0, .int .i64 x343007_1, .int .i64 x343008_1] 38 (0, 0)) (by (with_reducible repeat (first|refine blk_drewN ?_ _|refine blk_drew ?_|refine blk_alloc ?_ _));exact BK342.out) NB342_0.out (by simp));have n1_ := Aside0.mk (KeepBut.trans (by repeat (first|(with_reducible first|exact HK.out|apply KeepBut.set_|apply keep_drewN|apply keep_drew|apply keep_alloc|refine keep_far ?_ GW342.out _)|exact HK.out)) hk (.inl rfl));have n2_ := Aside0.mk (hb);have n3_ := Aside0.mk (hi);clear BK342;clear HK;clear HB;clear HI0;have BK342 := n0_;have HK := n1_;have HB := n2_;have HI0 := n3_;clear n0_ n1_ n2_ n3_;(try clear hb);(try clear hb2);(try clear hk);(try clear hi)))
      go_meet
      case rel => exact ⟨_, (false), (t347), (by first|rfl|(simp;done)|(simp [*];done)), H', ⟨by have := HK1.out;first|omega|exact Nat.le_refl _⟩, ⟨by (with_reducible repeat (first|refine blk_drewN ?_ _|refine blk_drew ?_|refine blk_alloc ?_ _));exact BK342.out⟩, ⟨by repeat (first|(with_reducible first|exact HI0.out|apply IsS50.alloc|apply IsS50.drewN|apply IsS50.drew|apply IsS50.set_1|refine IsS50.far ?_ NB0_342.out _)|exact HI0.out)⟩, ⟨by repeat (first|(with_reducible first|exact HK.out|apply KeepBut.set_|apply keep_drewN|apply keep_drew|apply keep_alloc|refine keep_far ?_ GW342.out _)|exact HK.out)⟩, ⟨by repeat (first|(with_reducible first|exact HB.out|apply below_alloc|apply pw_below_drewN|apply below_drew1|refine below_set ?_ (IsS50.ge HI0.out)|refine below_set ?_ GE342.out)|exact HB.out)⟩⟩
    case rest =>
     clear HC14
     try clear c1
     try clear p2
     try clear c4
     try clear c4b0
     try clear c5
     try clear c5b0
     try clear p6
     try clear c7
     try clear c9
     try clear c10
     try clear c11
     try clear c16
     try clear c16b0
     try clear c16b1
     try clear c18
     try clear hcz12_0
     try clear hcz12_1
     try clear hcz12_2
     try clear hcz3_0
     try clear hcz3_1
     try clear hfz12_0
     try clear hfz12_1
     try clear hfz12_2
     try clear hfz3_1
     try clear p2
     obtain ⟨kq, x49_13, x1001_13, rfl, HA, HJ13, BK342, HI0, HK, HB⟩ := hcut
     cases kq with
     | zero => exact absurd HA.out (by simp [token_scanner_next_dies.j1])
     | succ kj13 =>
      have H := HA.out
      clear HA
      simp only [token_scanner_next_dies.j1] at H
      by_cases c27 : x49_13 = true
      ·subst c27
       have H1 : (none) = some (r1, r2) := by rw [if_pos rfl] at H; exact H
       clear H
       have H := H1
       clear H1
       exact absurd H (by simp)
      ·replace c27 := Bool.eq_false_iff.mpr c27
       subst c27
       have H1 : ((token_scanner_datum.f kj13 s0_0 x1001_13).bind fun bt353 => (if bt353.2.2.2.2.2.2.1 = true then (none) else (some (s0_1, bt353.2.2.2.2.2.2.2)))) = some (r1, r2) := by rw [if_neg (show ¬ (false = true) by decide)] at H; exact H
       clear H
       have H := H1
       clear H1
       replace H := Option.bind_eq_some_iff.mp H
       obtain ⟨⟨t353, t354, t355, t356, t359, t362, t363, t364⟩, A280, H⟩ := H
       replace H : (if t363 = true then (none) else (some (s0_1, t364))) = some (r1, r2) := H
       have A28 := Aside0.mk A280
       clear A280
       by_cases c29 : t363 = true
       ·subst c29
        have H1 : (none) = some (r1, r2) := by rw [if_pos rfl] at H; exact H
        clear H
        have H := H1
        clear H1
        exact absurd H (by simp)
       ·replace c29 := Bool.eq_false_iff.mpr c29
        subst c29
        have H1 : (some (s0_1, t364)) = some (r1, r2) := by rw [if_neg (show ¬ (false = true) by decide)] at H; exact H
        clear H
        have H := H1
        clear H1
        simp only [Option.some.injEq, Prod.mk.injEq] at H
        obtain ⟨rfl, rfl⟩ := H
        go_wp2_with (first|(go_at_call 27;(with_reducible refine (token_scanner_datum.calls kj13 g s0_0 x1001_13 t353 t354 t355 t356 t359 t362 false t364 w0 _ ?side1 ?side2 ?side3 A28.out).mono ?_);(case side1 => repeat (first|(with_reducible first|exact HI0.out|apply IsS50.alloc|apply IsS50.drewN|apply IsS50.drew|apply IsS50.set_1|refine IsS50.far ?_ NB0_342.out _)|exact HI0.out));(case side2 => repeat (first|(with_reducible first|exact HB.out|apply below_alloc|apply pw_below_drewN|apply below_drew1|refine below_set ?_ (IsS50.ge HI0.out)|refine below_set ?_ GE342.out)|exact HB.out));(case side3 => exact HLD.out);rintro e w30 ⟨v357, v360, rfl, ho0, ho1, hi, hb, hk⟩;have n0_ := Aside0.mk (KeepBut.blk hk (g' := gb342) (o := .cells #[.int .i64 x343000_1, .string x343001_1, .int .i64 x343002_1, .string x343003_1, .bool x343004_1, .slice none 0 0, .slice none 0 0, .int .i64 x343007_1, .int .i64 x343008_1] 38 (0, 0)) (by (with_reducible repeat (first|refine blk_drewN ?_ _|refine blk_drew ?_|refine blk_alloc ?_ _));exact BK342.out) NB342_0.out (by simp));have n1_ := Aside0.mk (Kd.V_lower (Kd.V_mono (ok' := fun k_ => some k_ ≠ (v360 : Value).ownBlock ∧ k_ ≠ gb342 ∧ k_ ≠ g) ho0 (fun k_ hk_ => ⟨hk_.2, (Kd.freshB (g := gb342) (o := .cells #[.int .i64 x343000_1, .string x343001_1, .int .i64 x343002_1, .string x343003_1, .bool x343004_1, .slice none 0 0, .slice none 0 0, .int .i64 x343007_1, .int .i64 x343008_1] 38 (0, 0)) (by (with_reducible repeat (first|refine blk_drewN ?_ _|refine blk_drew ?_|refine blk_alloc ?_ _));exact BK342.out) k_ hk_.1), (IsS50.fresh (by repeat (first|(with_reducible first|exact HI0.out|apply IsS50.alloc|apply IsS50.drewN|apply IsS50.drew|apply IsS50.set_1|refine IsS50.far ?_ NB0_342.out _)|exact HI0.out)) k_ hk_.1)⟩)) (keep_size (w := w) (g := g) (row := none) (by repeat (first|(with_reducible first|exact HK.out|apply KeepBut.set_|apply keep_drewN|apply keep_drew|apply keep_alloc|refine keep_far ?_ GW342.out _)|exact HK.out))));have n2_ := Aside0.mk (Kd.R_lower (Kd.R_mono (ok' := fun k_ => True) ho1 (fun _ hk_ => trivial)) (keep_size (w := w) (g := g) (row := none) (by repeat (first|(with_reducible first|exact HK.out|apply KeepBut.set_|apply keep_drewN|apply keep_drew|apply keep_alloc|refine keep_far ?_ GW342.out _)|exact HK.out))));have n3_ := Aside0.mk (KeepBut.trans (by repeat (first|(with_reducible first|exact HK.out|apply KeepBut.set_|apply keep_drewN|apply keep_drew|apply keep_alloc|refine keep_far ?_ GW342.out _)|exact HK.out)) hk (.inl rfl));have n4_ := Aside0.mk (hb);have n5_ := Aside0.mk (hi);clear BK342;clear HK;clear HB;clear HI0;have BK342 := n0_;have HO358 := n1_;have HO361 := n2_;have HK := n3_;have HB := n4_;have HI0 := n5_;clear n0_ n1_ n2_ n3_ n4_ n5_;(try clear hb);(try clear hb2);(try clear hk);(try clear hi);(try clear ho0);(try clear ho1))|((with_reducible refine gate_dst (N := 6) rfl ?_);refine box_event ?hg (N := 6) ?hd (cs := #[.int .i64 0, .string (⟨#[]⟩ : ByteArray), .bool false, .slice none 0 0, .slice none 0 0, .int .i64 0]) (t := 33) ?hr ?_;(case hd => rfl);(case hg => rfl);(case hr => first|(go_simp;done)|(go_simp;rfl));intro gb365 hg w31 hbox hb;have n0_ := Aside0.mk (Kd.V_below (Kd.V_elderB (by (with_reducible repeat (first|apply Kd.V_alloc|apply Kd.V_drewN|apply Kd.V_drew));exact HO358.out) gb365 (Nat.le_of_eq hg.symm)) hb);have n1_ := Aside0.mk (Kd.R_below (Kd.R_elderB (by (with_reducible repeat (first|apply Kd.R_alloc|apply Kd.R_drewN|apply Kd.R_drew));exact HO361.out) gb365 (Nat.le_of_eq hg.symm)) hb);have n2_ := Aside0.mk (blk_below (g := gb342) (o := .cells #[.int .i64 x343000_1, .string x343001_1, .int .i64 x343002_1, .string x343003_1, .bool x343004_1, .slice none 0 0, .slice none 0 0, .int .i64 x343007_1, .int .i64 x343008_1] 38 (0, 0)) (by (with_reducible repeat (first|refine blk_drewN ?_ _|refine blk_drew ?_|refine blk_alloc ?_ _));exact BK342.out) hb);have n3_ := Aside0.mk (IsS50.below (by repeat (first|(with_reducible first|exact HI0.out|apply IsS50.alloc|apply IsS50.drewN|apply IsS50.drew|apply IsS50.set_1|refine IsS50.far ?_ NB0_342.out _)|exact HI0.out)) hb);have n4_ := Aside0.mk (KeepBut.trans (by repeat (first|(with_reducible first|exact HK.out|apply KeepBut.set_|apply keep_drewN|apply keep_drew|apply keep_alloc|refine keep_far ?_ GW342.out _)|exact HK.out)) (KeepBut.of_below hb g none) (.inl rfl));have n5_ := Aside0.mk (below_step (by repeat (first|(with_reducible first|exact HB.out|apply below_alloc|apply pw_below_drewN|apply below_drew1|refine below_set ?_ (IsS50.ge HI0.out)|refine below_set ?_ GE342.out)|exact HB.out)) hb);have n6_ := Aside0.mk (hbox);have n7_ := Aside0.mk ((by rw [hg];exact (keep_size (w := w) (g := g) (row := none) (by repeat (first|(with_reducible first|exact HK.out|apply KeepBut.set_|apply keep_drewN|apply keep_drew|apply keep_alloc|refine keep_far ?_ GW342.out _)|exact HK.out))) : w.heap.size ≤ gb365));have n8_ := Aside0.mk ((Nat.le_trans HW0.out (by rw [hg];exact (keep_size (w := w) (g := g) (row := none) (by repeat (first|(with_reducible first|exact HK.out|apply KeepBut.set_|apply keep_drewN|apply keep_drew|apply keep_alloc|refine keep_far ?_ GW342.out _)|exact HK.out))) : w.heap.size ≤ gb365) : w0.heap.size ≤ gb365));have n9_ := Aside0.mk ((by rw [hg];exact Nat.ne_of_lt (blk_lt (g := gb342) (o := .cells #[.int .i64 x343000_1, .string x343001_1, .int .i64 x343002_1, .string x343003_1, .bool x343004_1, .slice none 0 0, .slice none 0 0, .int .i64 x343007_1, .int .i64 x343008_1] 38 (0, 0)) (by (with_reducible repeat (first|refine blk_drewN ?_ _|refine blk_drew ?_|refine blk_alloc ?_ _));exact BK342.out)) : gb342 ≠ gb365));have n10_ := Aside0.mk ((by rw [hg];exact Nat.ne_of_gt (blk_lt (g := gb342) (o := .cells #[.int .i64 x343000_1, .string x343001_1, .int .i64 x343002_1, .string x343003_1, .bool x343004_1, .slice none 0 0, .slice none 0 0, .int .i64 x343007_1, .int .i64 x343008_1] 38 (0, 0)) (by (with_reducible repeat (first|refine blk_drewN ?_ _|refine blk_drew ?_|refine blk_alloc ?_ _));exact BK342.out)) : gb365 ≠ gb342));have n11_ := Aside0.mk ((by rw [hg];exact Nat.ne_of_lt (IsS50.lt (show IsS50 w0 _ g s0_0 t364 from by repeat (first|(with_reducible first|exact HI0.out|apply IsS50.alloc|apply IsS50.drewN|apply IsS50.drew|apply IsS50.set_1|refine IsS50.far ?_ NB0_342.out _)|exact HI0.out))) : g ≠ gb365));have n12_ := Aside0.mk ((by rw [hg];exact Nat.ne_of_gt (IsS50.lt (show IsS50 w0 _ g s0_0 t364 from by repeat (first|(with_reducible first|exact HI0.out|apply IsS50.alloc|apply IsS50.drewN|apply IsS50.drew|apply IsS50.set_1|refine IsS50.far ?_ NB0_342.out _)|exact HI0.out))) : gb365 ≠ g));clear HO358;clear HO361;clear BK342;clear HI0;clear HK;clear HB;have HO358 := n0_;have HO361 := n1_;have BK342 := n2_;have HI0 := n3_;have HK := n4_;have HB := n5_;have BK365 := n6_;have GW365 := n7_;have GE365 := n8_;have NB342_365 := n9_;have NB365_342 := n10_;have NB0_365 := n11_;have NB365_0 := n12_;clear n0_ n1_ n2_ n3_ n4_ n5_ n6_ n7_ n8_ n9_ n10_ n11_ n12_;clear hb hbox hg;have hnb32 := NB365_342.out;have hnc32 := NB342_365.out;have hnb33 := NB365_0.out;have hnc33 := NB0_365.out;have hcz34_0 : w31.cell? ⟨gb365, 0, none⟩ = some (.int .i64 0) := (blk_cell BK365.out 0).trans rfl;have hcz34_1 : w31.cell? ⟨gb365, 1, none⟩ = some (.string (⟨#[]⟩ : ByteArray)) := (blk_cell BK365.out 1).trans rfl;have hcz34_2 : w31.cell? ⟨gb365, 2, none⟩ = some (.bool false) := (blk_cell BK365.out 2).trans rfl;have hcz34_3 : w31.cell? ⟨gb365, 3, none⟩ = some (.slice none 0 0) := (blk_cell BK365.out 3).trans rfl;have hcz34_4 : w31.cell? ⟨gb365, 4, none⟩ = some (.slice none 0 0) := (blk_cell BK365.out 4).trans rfl;have hcz34_5 : w31.cell? ⟨gb365, 5, none⟩ = some (.int .i64 0) := (blk_cell BK365.out 5).trans rfl;have hfz34_0 := blk_frozen BK365.out 0;have hfz34_1 := blk_frozen BK365.out 1;have hfz34_2 := blk_frozen BK365.out 2;have hfz34_3 := blk_frozen BK365.out 3;have hfz34_4 := blk_frozen BK365.out 4;have hfz34_5 := blk_frozen BK365.out 5;obtain ⟨Ao35, co35, eo35⟩ := Kd.V_slice HO358.out;subst eo35;obtain ⟨Ao36, co36, eo36⟩ := Kd.R_slice HO361.out;subst eo36)|((with_reducible refine gate_store (t := 33) (p := 6) rfl ?_);refine store_event (t := 33) (p := 6) (v := ?vo_w37) (w1 := ((((((w31.setCell ⟨gb365, 0, none⟩ (.int .i64 t353)).setCell ⟨gb365, 1, none⟩ (.string t354)).setCell ⟨gb365, 2, none⟩ (.bool t355)).setCell ⟨gb365, 3, none⟩ (.slice Ao35 t356.length co35)).setCell ⟨gb365, 4, none⟩ (.slice Ao36 t359.length co36)).setCell ⟨gb365, 5, none⟩ (.int .i64 t362))) ?hg ?ho ?hn ?hr ?_;(case ho => rfl);(case hg => rfl);(case hn => rfl);(case hr => first|(go_simp;done)|(go_simp;rfl));intro w37 hw;have n0_ : Aside0 (Kd.V (Kd.int .u32) 73 w37 w.heap.size (fun k_ => some k_ ≠ (.slice Ao36 t359.length co36 : Value).ownBlock ∧ k_ ≠ gb342 ∧ k_ ≠ g ∧ k_ ≠ gb365) (.slice Ao35 t356.length co35) t356) := ⟨(by rw [hw];exact (by (with_reducible repeat (first|apply Kd.V_alloc|apply Kd.V_drewN|apply Kd.V_drew));exact Kd.V_mono (Kd.V_far (p := ⟨gb365, 5, none⟩) (Kd.V_far (p := ⟨gb365, 4, none⟩) (Kd.V_far (p := ⟨gb365, 3, none⟩) (Kd.V_far (p := ⟨gb365, 2, none⟩) (Kd.V_far (p := ⟨gb365, 1, none⟩) (Kd.V_far (p := ⟨gb365, 0, none⟩) (Kd.V_mono HO358.out (fun k_ hk => (⟨hk, hk.2⟩ : _ ∧ k_ ≠ gb365))) (fun _ hk => hk.2) (.int .i64 t353)) (fun _ hk => hk.2) (.string t354)) (fun _ hk => hk.2) (.bool t355)) (fun _ hk => hk.2) (.slice Ao35 t356.length co35)) (fun _ hk => hk.2) (.slice Ao36 t359.length co36)) (fun _ hk => hk.2) (.int .i64 t362)) (fun _ hk => ⟨hk.1.1.1, ⟨hk.1.1.2.1, ⟨hk.1.1.2.2, hk.1.2⟩⟩⟩)))⟩;have n1_ : Aside0 (Kd.R k33 33 w37 w.heap.size (fun k_ => k_ ≠ gb365) (.slice Ao36 t359.length co36) t359) := ⟨(by rw [hw];exact (by (with_reducible repeat (first|apply Kd.R_alloc|apply Kd.R_drewN|apply Kd.R_drew));exact Kd.R_mono (Kd.R_far (p := ⟨gb365, 5, none⟩) (Kd.R_far (p := ⟨gb365, 4, none⟩) (Kd.R_far (p := ⟨gb365, 3, none⟩) (Kd.R_far (p := ⟨gb365, 2, none⟩) (Kd.R_far (p := ⟨gb365, 1, none⟩) (Kd.R_far (p := ⟨gb365, 0, none⟩) (Kd.R_mono HO361.out (fun k_ hk => (⟨hk, hk.2⟩ : _ ∧ k_ ≠ gb365))) (fun _ hk => hk.2) (.int .i64 t353)) (fun _ hk => hk.2) (.string t354)) (fun _ hk => hk.2) (.bool t355)) (fun _ hk => hk.2) (.slice Ao35 t356.length co35)) (fun _ hk => hk.2) (.slice Ao36 t359.length co36)) (fun _ hk => hk.2) (.int .i64 t362)) (fun _ hk => hk.1.2)))⟩;have n2_ : Aside0 (w37.heap[gb342]? = some (.cells #[.int .i64 x343000_1, .string x343001_1, .int .i64 x343002_1, .string x343003_1, .bool x343004_1, .slice none 0 0, .slice none 0 0, .int .i64 x343007_1, .int .i64 x343008_1] 38 (0, 0))) := ⟨(by rw [hw];exact (by (with_reducible repeat (first|refine blk_drewN ?_ _|refine blk_drew ?_|refine blk_alloc ?_ _));refine blk_far ?_ NB342_365.out _;(with_reducible repeat (first|refine blk_drewN ?_ _|refine blk_drew ?_|refine blk_alloc ?_ _));refine blk_far ?_ NB342_365.out _;(with_reducible repeat (first|refine blk_drewN ?_ _|refine blk_drew ?_|refine blk_alloc ?_ _));refine blk_far ?_ NB342_365.out _;(with_reducible repeat (first|refine blk_drewN ?_ _|refine blk_drew ?_|refine blk_alloc ?_ _));refine blk_far ?_ NB342_365.out _;(with_reducible repeat (first|refine blk_drewN ?_ _|refine blk_drew ?_|refine blk_alloc ?_ _));refine blk_far ?_ NB342_365.out _;(with_reducible repeat (first|refine blk_drewN ?_ _|refine blk_drew ?_|refine blk_alloc ?_ _));refine blk_far ?_ NB342_365.out _;(with_reducible repeat (first|refine blk_drewN ?_ _|refine blk_drew ?_|refine blk_alloc ?_ _));exact BK342.out))⟩;have n3_ : Aside0 (w37.heap[gb365]? = some (.cells #[.int .i64 t353, .string t354, .bool t355, .slice Ao35 t356.length co35, .slice Ao36 t359.length co36, .int .i64 t362] 33 (0, 0))) := ⟨(by rw [hw];exact (by (with_reducible repeat (first|refine blk_drewN ?_ _|refine blk_drew ?_|refine blk_alloc ?_ _));refine blk_put (cs := #[.int .i64 t353, .string t354, .bool t355, .slice Ao35 t356.length co35, .slice Ao36 t359.length co36, .int .i64 0]) ?_ 5 _ rfl;(with_reducible repeat (first|refine blk_drewN ?_ _|refine blk_drew ?_|refine blk_alloc ?_ _));refine blk_put (cs := #[.int .i64 t353, .string t354, .bool t355, .slice Ao35 t356.length co35, .slice none 0 0, .int .i64 0]) ?_ 4 _ rfl;(with_reducible repeat (first|refine blk_drewN ?_ _|refine blk_drew ?_|refine blk_alloc ?_ _));refine blk_put (cs := #[.int .i64 t353, .string t354, .bool t355, .slice none 0 0, .slice none 0 0, .int .i64 0]) ?_ 3 _ rfl;(with_reducible repeat (first|refine blk_drewN ?_ _|refine blk_drew ?_|refine blk_alloc ?_ _));refine blk_put (cs := #[.int .i64 t353, .string t354, .bool false, .slice none 0 0, .slice none 0 0, .int .i64 0]) ?_ 2 _ rfl;(with_reducible repeat (first|refine blk_drewN ?_ _|refine blk_drew ?_|refine blk_alloc ?_ _));refine blk_put (cs := #[.int .i64 t353, .string (⟨#[]⟩ : ByteArray), .bool false, .slice none 0 0, .slice none 0 0, .int .i64 0]) ?_ 1 _ rfl;(with_reducible repeat (first|refine blk_drewN ?_ _|refine blk_drew ?_|refine blk_alloc ?_ _));refine blk_put (cs := #[.int .i64 0, .string (⟨#[]⟩ : ByteArray), .bool false, .slice none 0 0, .slice none 0 0, .int .i64 0]) ?_ 0 _ rfl;(with_reducible repeat (first|refine blk_drewN ?_ _|refine blk_drew ?_|refine blk_alloc ?_ _));exact BK365.out))⟩;have n4_ : Aside0 (IsS50 w0 w37 g s0_0 t364) := ⟨(by rw [hw];exact (by repeat (first|(with_reducible first|exact HI0.out|apply IsS50.alloc|apply IsS50.drewN|apply IsS50.drew|apply IsS50.set_1|refine IsS50.far ?_ NB0_342.out _|refine IsS50.far ?_ NB0_365.out _)|exact HI0.out)))⟩;have n5_ : Aside0 (KeepBut w w37 g none) := ⟨(by rw [hw];exact (by repeat (first|(with_reducible first|exact HK.out|apply KeepBut.set_|apply keep_drewN|apply keep_drew|apply keep_alloc|refine keep_far ?_ GW342.out _|refine keep_far ?_ GW365.out _)|exact HK.out)))⟩;have n6_ : Aside0 (Below w0.heap.size w0 w37) := ⟨(by rw [hw];exact (by repeat (first|(with_reducible first|exact HB.out|apply below_alloc|apply pw_below_drewN|apply below_drew1|refine below_set ?_ (IsS50.ge HI0.out)|refine below_set ?_ GE342.out|refine below_set ?_ GE365.out)|exact HB.out)))⟩;clear hw;clear HO358;clear HO361;clear BK342;clear BK365;clear HI0;clear HK;clear HB;have HO358 := n0_;have HO361 := n1_;have BK342 := n2_;have BK365 := n3_;have HI0 := n4_;have HK := n5_;have HB := n6_;clear n0_ n1_ n2_ n3_ n4_ n5_ n6_))
        (try simp only [Exit.inBlock, Exit.then])
        refine ⟨rfl, ?_⟩
        exact ⟨by first|rfl|(simp [errW_none, errW_some] <;> rfl)|(simp [*, errW_none, errW_some] <;> rfl), by repeat (first|(with_reducible first|exact HI0.out|apply IsS50.alloc|apply IsS50.drewN|apply IsS50.drew|apply IsS50.set_1|refine IsS50.far ?_ NB0_342.out _|refine IsS50.far ?_ NB0_365.out _)|exact HI0.out), by repeat (first|(with_reducible first|exact HB.out|apply below_alloc|apply pw_below_drewN|apply below_drew1|refine below_set ?_ (IsS50.ge HI0.out)|refine below_set ?_ GE342.out|refine below_set ?_ GE365.out)|exact HB.out), by repeat (first|(with_reducible first|exact HK.out|apply KeepBut.set_|apply keep_drewN|apply keep_drew|apply keep_alloc|refine keep_far ?_ GW342.out _|refine keep_far ?_ GW365.out _)|exact HK.out)⟩
end Go.Proofs.YtefefpkgiecikaaDoor.P
namespace Go.Proofs.YtefefpkgiecikaaDoor.P
open Go.RowKit Go.Proofs.YtefefpkgiecikaaDoorW.PrintWords Go.Proofs.YtefefpkgiecikaaDoorW.PrintLast Go.Proofs.YtefefpkgiecikaaDoorW.PrintMore
set_option linter.unusedVariables false
set_option linter.unusedSimpArgs false
theorem goes_dies {P : Program} {ops : Array Oper} {Q : Exit → Act → World → Prop} {oi : Oper} {a : Act} {w : World} {K : Act → World → Prop} {N : Option Tmp} {f : FuncId} {fn : Func} {as_ : Array Operand} {ts : Array TypeId} (hf : P.funcs[f]? = some fn) (hname : (fn.name == "runtime.NumGoroutine") = false) (hb : fn.body.isSome = true) (args : Array Value)
  (hw : Region.wanted oi (yielded ops a.tmps) = true) (_hN : oi.dst = N) (hop : oi.op = .call { callee := .value (.func f), args := as_, argTypes := ts }) (hargs : as_.map a.eval = args)
  (h : Calls P f args w fun e w' => ∃ c, e = .panicked c ∧ Q (.panic c) a w') : if Region.wanted oi (yielded ops a.tmps) = true then Oper.wp P oi a w K Q else K (a.put N undef) w := by
 rw [if_pos hw]
 have hrun : (execOp a.eval oi).run P w = .ok (.enter f args) w := by
  have he := enters_ hf hname hb args w
  unfold execOp
  simp [hop, resolve, Deferred.ofValue, invoke, Act.eval, hargs, he]
 unfold Oper.wp
 rw [hrun, Oper.upon_enter]
 refine h.mono fun e w'' hh => ?_
 obtain ⟨c, rfl, hk⟩ := hh
 exact hk
theorem wp_tmps {P : Program} {c : Code} {Q : Exit → Act → World → Prop} {T T' : Array Value} {d : List Deferred} {w : World} (h : T = T') (hw : c.wp P Q ⟨T', d⟩ w) : c.wp P Q ⟨T, d⟩ w := h ▸ hw
def Caught (a b c : Nat) (x : Int) (w w' : World) : Prop := w'.heap[a]? = some (.cells #[.slice none 0 0] 23 (0, 0)) ∧ w'.heap[b]? = some (.cells #[.int .i64 x] 3 (0, 0)) ∧ w'.heap[c]? = some (.cells #[.int .i64 3] 24 (0, 0)) ∧ (∀ w0 : World, Below w0.heap.size w0 w → w0.heap.size ≤ a → w0.heap.size ≤ b → w0.heap.size ≤ c → Below w0.heap.size w0 w')
set_option maxHeartbeats 2000000 in
set_option maxRecDepth 100000 in
theorem token_Scan_2_catch (a b c : Nat) (x : Int) (v0 : Value) (x1 x2 : Int) (w : World) (ha : w.heap[a]? = some (.cells #[v0] 23 (0, 0))) (hb : w.heap[b]? = some (.cells #[.int .i64 x1] 3 (0, 0))) (hc : w.heap[c]? = some (.cells #[.int .i64 x2] 24 (0, 0))) (hab : a ≠ b) (hac : a ≠ c) (hbc : b ≠ c) :
  CallsD Tryd.prog 12 #[.pointer (some ⟨a, 0, none⟩), .pointer (some ⟨b, 0, none⟩), .pointer (some ⟨c, 0, none⟩)] (.panicking [{ v := .iface 46 (.agg #[.int .i64 x]), recovered := false }]) w fun e u' w' =>
   e = .returned (.tuple #[]) ∧ u' = .panicking [{ v := .iface 46 (.agg #[.int .i64 x]), recovered := true }] ∧ Caught a b c x w w' := by
 refine callsD_of_wpS Tryd.func12 rfl fun c₀ cs hu => ?_
 apply wpS_seq
 apply wpS_region
 simp [wpOpsS, go_sem, recoverD, hu, Tryd.ntmps12, Exit.thenS]
 apply wpS_seq
 apply wpS_region
 simp [wpOpsS, go_sem, hu, Exit.thenS]
 refine wpS_cond (t := true) (by simp [Act.eval, Array.replicate]) ?_
 simp only [if_true]
 have hta : ∀ W : World, (Instr.typeAssert (.iface 46 (.agg #[.int .i64 x])) 20 46 true).run Tryd.prog W = .ok (.tuple #[.agg #[.int .i64 x], .bool true]) W := fun W => by kernel_rfl
 have hu46 := Tryd.underlying46
 apply wpS_seq
 apply wpS_region
 simp [wpOpsS, go_sem, hta, Exit.thenS]
 refine wpS_of_wp (wp_tmps (T' := #[.pointer (some ⟨a, 0, none⟩), .pointer (some ⟨b, 0, none⟩), .pointer (some ⟨c, 0, none⟩), .iface 46 (.agg #[.int .i64 x]), .pointer (some ⟨w.heap.size, 0, none⟩), .bool true, .iface 46 (.agg #[.int .i64 x]), .iface 46 (.agg #[.int .i64 x]), .bool true, .tuple #[.agg #[.int .i64 x], .bool true], .iface 46 (.agg #[.int .i64 x]), .tuple #[.agg #[.int .i64 x], .bool true], .agg #[.int .i64 x], .bool true, undef, undef, undef, undef, undef]) (by kernel_rfl) (wp_mono (Q := fun e a' w' => e = .normal ∧ a'.defers = [] ∧ Caught a b c x w w') ?_ ?_))
 ·have hbox := blk_new w (.cells #[.int .i64 x] 46)
  have cf : (w.alloc (.cells #[.int .i64 x] 46)).cell? ⟨w.heap.size, 0, none⟩ = some (.int .i64 x) := (blk_cell hbox 0).trans rfl
  have ha' := blk_alloc ha (.cells #[.int .i64 x] 46)
  have hb' := blk_alloc hb (.cells #[.int .i64 x] 46)
  have hc' := blk_alloc hc (.cells #[.int .i64 x] 46)
  have la := blk_lt ha
  have lb := blk_lt hb
  have lc := blk_lt hc
  have hbel : Below w.heap.size w (w.alloc (.cells #[.int .i64 x] 46)) := below_alloc (Below.refl _ _) _
  clear hu
  generalize w.alloc (.cells #[.int .i64 x] 46) = W at ha' hb' hc' hbox cf hbel ⊢
  have hz0 : Aside0 (∀ w0 : World, Below w0.heap.size w0 w → w0.heap.size ≤ a → Below w0.heap.size w0 W) := ⟨fun w0 h0 _ => below_step h0 hbel⟩
  clear hbel
  generalize w.heap.size = z at la lb lc cf hbox ⊢
  have ca : W.cell? ⟨a, 0, none⟩ = some v0 := (blk_cell ha' 0).trans rfl
  have cb : W.cell? ⟨b, 0, none⟩ = some (.int .i64 x1) := (blk_cell hb' 0).trans rfl
  have cc : W.cell? ⟨c, 0, none⟩ = some (.int .i64 x2) := (blk_cell hc' 0).trans rfl
  have fa := blk_frozen ha' 0
  have fb := blk_frozen hb' 0
  have fc := blk_frozen hc' 0
  have za : z ≠ a := by omega
  have zb : z ≠ b := by omega
  have zc : z ≠ c := by omega
  have az := za.symm
  have bz := zb.symm
  have cz := zc.symm
  have ba := hab.symm
  have ca' := hac.symm
  have cb' := hbc.symm
  have K : Aside0 (W.heap[a]? = some (.cells #[v0] 23 (0, 0)) ∧ W.heap[b]? = some (.cells #[.int .i64 x1] 3 (0, 0)) ∧ W.heap[c]? = some (.cells #[.int .i64 x2] 24 (0, 0))) := ⟨ha', hb', hc'⟩
  clear ha hb hc ha' hb' hc' hbox la lb lc hta
  go_wp2
  go_region
  refine ⟨rfl, rfl, ?_⟩
  obtain ⟨k1, k2, k3⟩ := K.out
  refine ⟨?_, ?_, ?_, fun w0 h0 ga gb gc => ?_⟩
  ·(with_reducible repeat (first|refine blk_drewN ?_ _|refine blk_drew ?_|refine blk_far ?_ hab _|refine blk_far ?_ hac _))
   refine blk_put (cs := #[v0]) ?_ 0 _ rfl
   (with_reducible repeat (first|refine blk_drewN ?_ _|refine blk_drew ?_))
   exact k1
  ·(with_reducible repeat (first|refine blk_drewN ?_ _|refine blk_drew ?_|refine blk_far ?_ hbc _))
   refine blk_put (cs := #[.int .i64 x1]) ?_ 0 _ rfl
   (with_reducible repeat (first|refine blk_drewN ?_ _|refine blk_drew ?_|refine blk_far ?_ ba _))
   exact k2
  ·(with_reducible repeat (first|refine blk_drewN ?_ _|refine blk_drew ?_))
   refine blk_put (cs := #[.int .i64 x2]) ?_ 0 _ rfl
   (with_reducible repeat (first|refine blk_drewN ?_ _|refine blk_drew ?_|refine blk_far ?_ ca' _|refine blk_far ?_ cb' _))
   exact k3
  ·have hb0 := hz0.out w0 h0 ga
   with_reducible repeat (first|exact hb0|apply pw_below_drewN|apply below_drew1|refine below_set ?_ ga|refine below_set ?_ gb|refine below_set ?_ gc)
 ·rintro e a' w' ⟨rfl, hd, hc⟩
  cases c₀
  simp_all [bodyPostS, results, Tryd.results12]
def token_Scan_dies.f (k : Nat) (l0 : List Int) : Option Int := (slices_IndexFunc_int_int_token_Scan_1.f k l0).bind fun t369 => (if t369 ≥ 0 then none else ((token_scanner_blanks.f k l0 0).bind fun p0 => (token_scanner_left.f l0 p0 1).bind fun bt => (if bt.1 = true then ((token_scanner_next_dies.f k l0 bt.2).bind fun d => some d.1) else none)))
set_option maxHeartbeats 8000000 in
set_option maxRecDepth 100000 in
theorem token_Scan_dies.calls (k : Nat) (A0 : Option Addr) (c0 : Nat) (l0 : List Int) (r2 : Int) (w : World) (hLD : LD w) (hr0 : Kd.C (Kd.int .i64) w A0 l0.length l0) (hc0 : l0.length ≤ c0) (h : token_Scan_dies.f k l0 = some r2) :
  Calls Tryd.prog 5 #[.slice A0 l0.length c0] w fun e w' => ∃ v0_ : Value, e = .returned (.tuple #[v0_, .int .i64 r2, .int .i64 3]) ∧ Kd.N k38 38 w' w.heap.size (fun k_ => (w.heap.size ≤ k_)) v0_ [] ∧ Below w.heap.size w w' := by
 have hu50 := Tryd.underlying50
 have HR0 := Aside0.mk hr0
 have HC0 := Aside0.mk hc0
 clear hr0 hc0
 have HLD := Aside0.mk hLD
 clear hLD
 have HB := Aside0.mk (Below.refl w.heap.size w)
 unfold token_Scan_dies.f at h
 obtain ⟨t369, A20, h⟩ := Option.bind_eq_some_iff.mp h
 have A2 := Aside0.mk A20
 clear A20
 split at h
 ·cases h
 rename_i c3
 have c3b0 : decide (0 ≤ t369) = false := decide_eq_false c3
 clear c3
 obtain ⟨p0, A130, h⟩ := Option.bind_eq_some_iff.mp h
 have A13 := Aside0.mk A130
 clear A130
 obtain ⟨⟨tb_, t373⟩, A190, h⟩ := Option.bind_eq_some_iff.mp h
 split at h
 ·rename_i htb
  have htb' : tb_ = true := htb
  subst htb'
  have A19 := Aside0.mk A190
  clear A190 htb
  obtain ⟨⟨d1, d2⟩, A210, h⟩ := Option.bind_eq_some_iff.mp h
  have A21 := Aside0.mk A210
  clear A210
  have hd : d1 = r2 := by simpa using h
  subst hd
  clear h
  have hmf : ∀ (fn : Fn) (first cap : Array Value) (w : World), (Instr.makeFunc fn first cap).run Tryd.prog w = .ok (.func fn first cap) w := fun _ _ _ _ => rfl
  go_enter_defers Tryd.func5, Tryd.ntmps5
  go_wp2_with (first|((with_reducible refine gate_dst (N := 2) rfl ?_);refine box_event ?hg (N := 2) ?hd (cs := #[.slice none 0 0]) (t := 23) ?hr ?_;(case hd => rfl);(case hg => rfl);(case hr => first|(go_simp;done)|(go_simp;rfl));intro gb366 hg w14 hbox hb;have n0_ := Aside0.mk (below_step (by repeat (first|(with_reducible first|exact HB.out|apply below_alloc|apply pw_below_drewN|apply below_drew1)|exact HB.out)) hb);have n1_ := Aside0.mk (hbox);have n2_ := Aside0.mk ((by rw [hg];exact (below_size (by repeat (first|(with_reducible first|exact HB.out|apply below_alloc|apply pw_below_drewN|apply below_drew1)|exact HB.out))) : w.heap.size ≤ gb366));have n3_ := Aside0.mk ((by rw [hg];exact (below_size (by repeat (first|(with_reducible first|exact HB.out|apply below_alloc|apply pw_below_drewN|apply below_drew1)|exact HB.out))) : w.heap.size ≤ gb366));clear HB;have HB := n0_;have BK366 := n1_;have GW366 := n2_;have GE366 := n3_;clear n0_ n1_ n2_ n3_;clear hb hbox hg)|((with_reducible refine gate_dst (N := 3) rfl ?_);refine box_event ?hg (N := 3) ?hd (cs := #[.int .i64 0]) (t := 3) ?hr ?_;(case hd => rfl);(case hg => rfl);(case hr => first|(go_simp;done)|(go_simp;rfl));intro gb367 hg w15 hbox hb;have n0_ := Aside0.mk (blk_below (g := gb366) (o := .cells #[.slice none 0 0] 23 (0, 0)) (by (with_reducible repeat (first|refine blk_drewN ?_ _|refine blk_drew ?_|refine blk_alloc ?_ _));exact BK366.out) hb);have n1_ := Aside0.mk (below_step (by repeat (first|(with_reducible first|exact HB.out|apply below_alloc|apply pw_below_drewN|apply below_drew1|refine below_set ?_ GE366.out)|exact HB.out)) hb);have n2_ := Aside0.mk (hbox);have n3_ := Aside0.mk ((by rw [hg];exact (below_size (by repeat (first|(with_reducible first|exact HB.out|apply below_alloc|apply pw_below_drewN|apply below_drew1|refine below_set ?_ GE366.out)|exact HB.out))) : w.heap.size ≤ gb367));have n4_ := Aside0.mk ((by rw [hg];exact (below_size (by repeat (first|(with_reducible first|exact HB.out|apply below_alloc|apply pw_below_drewN|apply below_drew1|refine below_set ?_ GE366.out)|exact HB.out))) : w.heap.size ≤ gb367));have n5_ := Aside0.mk ((by rw [hg];exact Nat.ne_of_lt (blk_lt (g := gb366) (o := .cells #[.slice none 0 0] 23 (0, 0)) (by (with_reducible repeat (first|refine blk_drewN ?_ _|refine blk_drew ?_|refine blk_alloc ?_ _));exact BK366.out)) : gb366 ≠ gb367));have n6_ := Aside0.mk ((by rw [hg];exact Nat.ne_of_gt (blk_lt (g := gb366) (o := .cells #[.slice none 0 0] 23 (0, 0)) (by (with_reducible repeat (first|refine blk_drewN ?_ _|refine blk_drew ?_|refine blk_alloc ?_ _));exact BK366.out)) : gb367 ≠ gb366));clear BK366;clear HB;have BK366 := n0_;have HB := n1_;have BK367 := n2_;have GW367 := n3_;have GE367 := n4_;have NB366_367 := n5_;have NB367_366 := n6_;clear n0_ n1_ n2_ n3_ n4_ n5_ n6_;clear hb hbox hg)|((with_reducible refine gate_dst (N := 4) rfl ?_);refine box_event ?hg (N := 4) ?hd (cs := #[.int .i64 0]) (t := 24) ?hr ?_;(case hd => rfl);(case hg => rfl);(case hr => first|(go_simp;done)|(go_simp;rfl));intro gb368 hg w16 hbox hb;have n0_ := Aside0.mk (blk_below (g := gb366) (o := .cells #[.slice none 0 0] 23 (0, 0)) (by (with_reducible repeat (first|refine blk_drewN ?_ _|refine blk_drew ?_|refine blk_alloc ?_ _));exact BK366.out) hb);have n1_ := Aside0.mk (blk_below (g := gb367) (o := .cells #[.int .i64 0] 3 (0, 0)) (by (with_reducible repeat (first|refine blk_drewN ?_ _|refine blk_drew ?_|refine blk_alloc ?_ _));exact BK367.out) hb);have n2_ := Aside0.mk (below_step (by repeat (first|(with_reducible first|exact HB.out|apply below_alloc|apply pw_below_drewN|apply below_drew1|refine below_set ?_ GE366.out|refine below_set ?_ GE367.out)|exact HB.out)) hb);have n3_ := Aside0.mk (hbox);have n4_ := Aside0.mk ((by rw [hg];exact (below_size (by repeat (first|(with_reducible first|exact HB.out|apply below_alloc|apply pw_below_drewN|apply below_drew1|refine below_set ?_ GE366.out|refine below_set ?_ GE367.out)|exact HB.out))) : w.heap.size ≤ gb368));have n5_ := Aside0.mk ((by rw [hg];exact (below_size (by repeat (first|(with_reducible first|exact HB.out|apply below_alloc|apply pw_below_drewN|apply below_drew1|refine below_set ?_ GE366.out|refine below_set ?_ GE367.out)|exact HB.out))) : w.heap.size ≤ gb368));have n6_ := Aside0.mk ((by rw [hg];exact Nat.ne_of_lt (blk_lt (g := gb366) (o := .cells #[.slice none 0 0] 23 (0, 0)) (by (with_reducible repeat (first|refine blk_drewN ?_ _|refine blk_drew ?_|refine blk_alloc ?_ _));exact BK366.out)) : gb366 ≠ gb368));have n7_ := Aside0.mk ((by rw [hg];exact Nat.ne_of_gt (blk_lt (g := gb366) (o := .cells #[.slice none 0 0] 23 (0, 0)) (by (with_reducible repeat (first|refine blk_drewN ?_ _|refine blk_drew ?_|refine blk_alloc ?_ _));exact BK366.out)) : gb368 ≠ gb366));have n8_ := Aside0.mk ((by rw [hg];exact Nat.ne_of_lt (blk_lt (g := gb367) (o := .cells #[.int .i64 0] 3 (0, 0)) (by (with_reducible repeat (first|refine blk_drewN ?_ _|refine blk_drew ?_|refine blk_alloc ?_ _));exact BK367.out)) : gb367 ≠ gb368));have n9_ := Aside0.mk ((by rw [hg];exact Nat.ne_of_gt (blk_lt (g := gb367) (o := .cells #[.int .i64 0] 3 (0, 0)) (by (with_reducible repeat (first|refine blk_drewN ?_ _|refine blk_drew ?_|refine blk_alloc ?_ _));exact BK367.out)) : gb368 ≠ gb367));clear BK366;clear BK367;clear HB;have BK366 := n0_;have BK367 := n1_;have HB := n2_;have BK368 := n3_;have GW368 := n4_;have GE368 := n5_;have NB366_368 := n6_;have NB368_366 := n7_;have NB367_368 := n8_;have NB368_367 := n9_;clear n0_ n1_ n2_ n3_ n4_ n5_ n6_ n7_ n8_ n9_;clear hb hbox hg)|((with_reducible refine gate_callee (f := 9) rfl ?_);refine goesL_ (some 8) rfl rfl Tryd.func9 (by kernel_rfl) rfl #[.slice A0 l0.length c0, .func (.func 10) #[] #[]] rfl (by (try simp only [List.map_toArray, List.map_cons, List.map_nil]);first|done|rfl|(simp only [List.length_drop, List.length_take];rfl)) ?_;(with_reducible refine (slices_IndexFunc_int_int_token_Scan_1.calls k _ _ l0  t369 _ ?side1 ?side2 A2.out).mono ?_);(case side1 => repeat (first|exact (Kd.C_below HR0.out HB.out)|(with_reducible refine Kd.C_alloc ?_ _)|(with_reducible refine Kd.C_drewN ?_ _)|(with_reducible refine Kd.C_drew ?_)));(case side2 => exact HC0.out);rintro e w' ⟨rfl, ⟨nd, rfl⟩⟩;refine ⟨_, rfl, ?_⟩)|((with_reducible refine gate_dst (N := 15) rfl ?_);refine box_event ?hg (N := 15) ?hd (cs := #[.slice A0 l0.length c0, .int .i64 0]) (t := 50) ?hr ?_;(case hd => rfl);(case hg => rfl);(case hr => first|(go_simp;done)|(go_simp;rfl));intro gb370 hg w17 hbox hb;have n0_ := Aside0.mk (blk_below (g := gb366) (o := .cells #[.slice none 0 0] 23 (0, 0)) (by (with_reducible repeat (first|refine blk_drewN ?_ _|refine blk_drew ?_|refine blk_alloc ?_ _));exact BK366.out) hb);have n1_ := Aside0.mk (blk_below (g := gb367) (o := .cells #[.int .i64 0] 3 (0, 0)) (by (with_reducible repeat (first|refine blk_drewN ?_ _|refine blk_drew ?_|refine blk_alloc ?_ _));exact BK367.out) hb);have n2_ := Aside0.mk (blk_below (g := gb368) (o := .cells #[.int .i64 0] 24 (0, 0)) (by (with_reducible repeat (first|refine blk_drewN ?_ _|refine blk_drew ?_|refine blk_alloc ?_ _));exact BK368.out) hb);have n3_ := Aside0.mk (below_step (by repeat (first|(with_reducible first|exact HB.out|apply below_alloc|apply pw_below_drewN|apply below_drew1|refine below_set ?_ GE366.out|refine below_set ?_ GE367.out|refine below_set ?_ GE368.out)|exact HB.out)) hb);have n4_ := Aside0.mk ((show IsS50 w w17 gb370 l0 0 from ⟨A0, c0, hbox, (by rw [hg];exact (below_size (by repeat (first|(with_reducible first|exact HB.out|apply below_alloc|apply pw_below_drewN|apply below_drew1|refine below_set ?_ GE366.out|refine below_set ?_ GE367.out|refine below_set ?_ GE368.out)|exact HB.out))) : w.heap.size ≤ gb370), ⟨HR0.out, HC0.out⟩⟩));have n5_ := Aside0.mk ((by rw [hg];exact Nat.ne_of_lt (blk_lt (g := gb366) (o := .cells #[.slice none 0 0] 23 (0, 0)) (by (with_reducible repeat (first|refine blk_drewN ?_ _|refine blk_drew ?_|refine blk_alloc ?_ _));exact BK366.out)) : gb366 ≠ gb370));have n6_ := Aside0.mk ((by rw [hg];exact Nat.ne_of_gt (blk_lt (g := gb366) (o := .cells #[.slice none 0 0] 23 (0, 0)) (by (with_reducible repeat (first|refine blk_drewN ?_ _|refine blk_drew ?_|refine blk_alloc ?_ _));exact BK366.out)) : gb370 ≠ gb366));have n7_ := Aside0.mk ((by rw [hg];exact Nat.ne_of_lt (blk_lt (g := gb367) (o := .cells #[.int .i64 0] 3 (0, 0)) (by (with_reducible repeat (first|refine blk_drewN ?_ _|refine blk_drew ?_|refine blk_alloc ?_ _));exact BK367.out)) : gb367 ≠ gb370));have n8_ := Aside0.mk ((by rw [hg];exact Nat.ne_of_gt (blk_lt (g := gb367) (o := .cells #[.int .i64 0] 3 (0, 0)) (by (with_reducible repeat (first|refine blk_drewN ?_ _|refine blk_drew ?_|refine blk_alloc ?_ _));exact BK367.out)) : gb370 ≠ gb367));have n9_ := Aside0.mk ((by rw [hg];exact Nat.ne_of_lt (blk_lt (g := gb368) (o := .cells #[.int .i64 0] 24 (0, 0)) (by (with_reducible repeat (first|refine blk_drewN ?_ _|refine blk_drew ?_|refine blk_alloc ?_ _));exact BK368.out)) : gb368 ≠ gb370));have n10_ := Aside0.mk ((by rw [hg];exact Nat.ne_of_gt (blk_lt (g := gb368) (o := .cells #[.int .i64 0] 24 (0, 0)) (by (with_reducible repeat (first|refine blk_drewN ?_ _|refine blk_drew ?_|refine blk_alloc ?_ _));exact BK368.out)) : gb370 ≠ gb368));clear BK366;clear BK367;clear BK368;clear HB;have BK366 := n0_;have BK367 := n1_;have BK368 := n2_;have HB := n3_;have HI370 := n4_;have NB366_370 := n5_;have NB370_366 := n6_;have NB367_370 := n7_;have NB370_367 := n8_;have NB368_370 := n9_;have NB370_368 := n10_;clear n0_ n1_ n2_ n3_ n4_ n5_ n6_ n7_ n8_ n9_ n10_;clear hb hbox hg)|((with_reducible refine gate_callee (f := 13) rfl ?_);refine goesL_ (some 17) rfl rfl Tryd.func13 (by kernel_rfl) rfl #[.pointer (some ⟨gb370, 0, none⟩)] rfl (by (try simp only [List.map_toArray, List.map_cons, List.map_nil]);first|done|rfl|(simp only [List.length_drop, List.length_take];rfl)) ?_;(with_reducible refine (token_scanner_blanks.calls k gb370 l0 0 p0 w _ ?side1 ?side2 A13.out).mono ?_);(case side1 => repeat (first|(with_reducible first|exact HI370.out|apply IsS50.alloc|apply IsS50.drewN|apply IsS50.drew|apply IsS50.set_1|refine IsS50.far ?_ NB370_366.out _|refine IsS50.far ?_ NB370_367.out _|refine IsS50.far ?_ NB370_368.out _)|exact HI370.out));(case side2 => repeat (first|(with_reducible first|exact HB.out|apply below_alloc|apply pw_below_drewN|apply below_drew1|refine below_set ?_ (IsS50.ge HI370.out)|refine below_set ?_ GE366.out|refine below_set ?_ GE367.out|refine below_set ?_ GE368.out)|exact HB.out));rintro e w18 ⟨rfl, hi, hb, hk⟩;refine ⟨_, rfl, ?_⟩;have n0_ := Aside0.mk (KeepBut.blk hk (g' := gb366) (o := .cells #[.slice none 0 0] 23 (0, 0)) (by (with_reducible repeat (first|refine blk_drewN ?_ _|refine blk_drew ?_|refine blk_alloc ?_ _));exact BK366.out) NB366_370.out (by simp));have n1_ := Aside0.mk (KeepBut.blk hk (g' := gb367) (o := .cells #[.int .i64 0] 3 (0, 0)) (by (with_reducible repeat (first|refine blk_drewN ?_ _|refine blk_drew ?_|refine blk_alloc ?_ _));exact BK367.out) NB367_370.out (by simp));have n2_ := Aside0.mk (KeepBut.blk hk (g' := gb368) (o := .cells #[.int .i64 0] 24 (0, 0)) (by (with_reducible repeat (first|refine blk_drewN ?_ _|refine blk_drew ?_|refine blk_alloc ?_ _));exact BK368.out) NB368_370.out (by simp));have n3_ := Aside0.mk (hb);have n4_ := Aside0.mk (hi);clear BK366;clear BK367;clear BK368;clear HB;clear HI370;have BK366 := n0_;have BK367 := n1_;have BK368 := n2_;have HB := n3_;have HI370 := n4_;clear n0_ n1_ n2_ n3_ n4_;(try clear hb);(try clear hb2);(try clear hk);(try clear hi)))
  try simp only [Act.put, List.setIfInBounds_toArray, List.set_cons_zero, List.set_cons_succ]
  go_loopg [] k (fun kq w' => Aside0 (w'.heap[gb366]? = some (.cells #[.slice none 0 0] 23 (0, 0))) ∧ Aside0 (w'.heap[gb367]? = some (.cells #[.int .i64 0] 3 (0, 0))) ∧ Aside0 (w'.heap[gb368]? = some (.cells #[.int .i64 0] 24 (0, 0))) ∧ Aside0 (IsS50 w w' gb370 l0 p0) ∧ Aside0 (Below w.heap.size w w'))
  case atStart => exact ⟨⟨by (with_reducible repeat (first|refine blk_drewN ?_ _|refine blk_drew ?_|refine blk_alloc ?_ _));exact BK366.out⟩, ⟨by (with_reducible repeat (first|refine blk_drewN ?_ _|refine blk_drew ?_|refine blk_alloc ?_ _));exact BK367.out⟩, ⟨by (with_reducible repeat (first|refine blk_drewN ?_ _|refine blk_drew ?_|refine blk_alloc ?_ _));exact BK368.out⟩, ⟨by repeat (first|(with_reducible first|exact HI370.out|apply IsS50.alloc|apply IsS50.drewN|apply IsS50.drew|apply IsS50.set_1|refine IsS50.far ?_ NB370_366.out _|refine IsS50.far ?_ NB370_367.out _|refine IsS50.far ?_ NB370_368.out _)|exact HI370.out)⟩, ⟨by repeat (first|(with_reducible first|exact HB.out|apply below_alloc|apply pw_below_drewN|apply below_drew1|refine below_set ?_ (IsS50.ge HI370.out)|refine below_set ?_ GE366.out|refine below_set ?_ GE367.out|refine below_set ?_ GE368.out)|exact HB.out)⟩⟩
  case round =>
   obtain ⟨BK366, BK367, BK368, HI370, HB⟩ := hrel
   try go_wp2_with (first|((with_reducible refine gate_callee (f := 14) rfl ?_);refine goesL_ (some 19) rfl rfl Tryd.func14 (by kernel_rfl) rfl #[.pointer (some ⟨gb370, 0, none⟩), .int .i64 1] rfl (by (try simp only [List.map_toArray, List.map_cons, List.map_nil]);first|done|rfl|(simp only [List.length_drop, List.length_take];rfl)) ?_;(with_reducible refine (token_scanner_left.calls gb370 l0 p0 1 true t373 w _ ?side1 ?side2 A19.out).mono ?_);(case side1 => repeat (first|(with_reducible first|exact HI370.out|apply IsS50.alloc|apply IsS50.drewN|apply IsS50.drew|apply IsS50.set_1|refine IsS50.far ?_ NB370_366.out _|refine IsS50.far ?_ NB370_367.out _|refine IsS50.far ?_ NB370_368.out _)|exact HI370.out));(case side2 => repeat (first|(with_reducible first|exact HB.out|apply below_alloc|apply pw_below_drewN|apply below_drew1|refine below_set ?_ (IsS50.ge HI370.out)|refine below_set ?_ GE366.out|refine below_set ?_ GE367.out|refine below_set ?_ GE368.out)|exact HB.out));rintro e w24 ⟨rfl, hi, hb, hk⟩;refine ⟨_, rfl, ?_⟩;have n1_ := Aside0.mk (KeepBut.blk hk (g' := gb366) (o := .cells #[(.slice none 0 0)] 23 (0, 0)) (by (with_reducible repeat (first|refine blk_drewN ?_ _|refine blk_drew ?_|refine blk_alloc ?_ _));exact BK366.out) NB366_370.out (by simp));have n2_ := Aside0.mk (KeepBut.blk hk (g' := gb367) (o := .cells #[.int .i64 0] 3 (0, 0)) (by (with_reducible repeat (first|refine blk_drewN ?_ _|refine blk_drew ?_|refine blk_alloc ?_ _));exact BK367.out) NB367_370.out (by simp));have n3_ := Aside0.mk (KeepBut.blk hk (g' := gb368) (o := .cells #[.int .i64 0] 24 (0, 0)) (by (with_reducible repeat (first|refine blk_drewN ?_ _|refine blk_drew ?_|refine blk_alloc ?_ _));exact BK368.out) NB368_370.out (by simp));have n4_ := Aside0.mk (hb);have n5_ := Aside0.mk (hi);clear BK366;clear BK367;clear BK368;clear HB;clear HI370;have BK366 := n1_;have BK367 := n2_;have BK368 := n3_;have HB := n4_;have HI370 := n5_;clear n1_ n2_ n3_ n4_ n5_;(try clear hb);(try clear hb2);(try clear hk);(try clear hi)))
   have n1_ := Aside0.mk (blk_drew BK366.out)
   have n2_ := Aside0.mk (blk_drew BK367.out)
   have n3_ := Aside0.mk (blk_drew BK368.out)
   have n4_ := Aside0.mk (IsS50.drew HI370.out)
   have n5_ := Aside0.mk (below_drew1 HB.out)
   clear BK366
   clear BK367
   clear BK368
   clear HI370
   clear HB
   have BK366 := n1_
   have BK367 := n2_
   have BK368 := n3_
   have HI370 := n4_
   have HB := n5_
   clear n1_ n2_ n3_ n4_ n5_
   refine start_ (n := 6) (S := fun w' => w'.cell? ⟨gb366, 0, none⟩ = some ((.slice none 0 0))) (ds := [5]) #[false, false, false, false, false, false] (by kernel_rfl) rfl rfl ((blk_cell BK366.out 0).trans rfl) (fun hHeld => ?_)
   generalize w24.drew = w25 at BK366 BK367 BK368 HI370 HB hHeld ⊢
   refine pure_ (i := 1) (N := some 23) (v := ?_) (a' := ?_) #[false, true, false, false, false, false] rfl rfl (by kernel_rfl) (by first | exact (fun _ _ _ h => h) | exact (fun _ _ _ h => leavesD_put (by kernel_rfl) h)) (Or.inl ⟨by rfl, ?_⟩) ?_ ?_
   rotate_left
   ·intro w'
    go_simp
    with_reducible rfl
   rotate_left
   ·simp only [Act.put, List.setIfInBounds_toArray, List.set_cons_zero, List.set_cons_succ, i64_w, i32_w]
    rfl
   refine take_ (i := 0) (N := some 22) (v := ?_) (a' := ?_) #[true, true, false, false, false, false] rfl rfl (by kernel_rfl) (by first | exact (fun _ _ _ h => h) | exact (fun _ _ _ h => leavesD_put (by kernel_rfl) h)) (Or.inl ⟨by rfl, ?_⟩) hHeld ?_ ?_
   rotate_left
   ·intro w' s0
    go_simp
    with_reducible rfl
   rotate_left
   ·simp only [Act.put, List.setIfInBounds_toArray, List.set_cons_zero, List.set_cons_succ, i64_w, i32_w]
    rfl
   refine one_ (i := 2) (N := some 24) #[true, true, true, false, false, false] rfl rfl (by kernel_rfl) (by decide) (fun K hK => ?_)
   refine goes_dies Tryd.func15 (by kernel_rfl) rfl #[.pointer (some ⟨gb370, 0, none⟩)] (by rfl) rfl rfl (by (try simp only [List.map_toArray, List.map_cons, List.map_nil]); first | done | rfl | (simp only [List.length_drop, List.length_take]; rfl)) ?_
   with_reducible refine (token_scanner_next_dies.calls k gb370 l0 t373 d1 d2 w _ ?side1 ?side2 ?side3 A21.out).mono ?_
   (case side1 => repeat (first|(with_reducible first|exact HI370.out|apply IsS50.alloc|apply IsS50.drewN|apply IsS50.drew|apply IsS50.set_1|refine IsS50.far ?_ NB370_366.out _|refine IsS50.far ?_ NB370_367.out _|refine IsS50.far ?_ NB370_368.out _)|exact HI370.out))
   (case side2 => repeat (first|(with_reducible first|exact HB.out|apply below_alloc|apply pw_below_drewN|apply below_drew1|refine below_set ?_ (IsS50.ge HI370.out)|refine below_set ?_ GE366.out|refine below_set ?_ GE367.out|refine below_set ?_ GE368.out)|exact HB.out))
   (case side3 => exact HLD.out)
   rintro e w26 ⟨rfl, hi, hb, hk⟩
   refine ⟨_, rfl, ?_⟩
   refine leavesD_dies (f := 12) (by rfl) (by first | rfl | simp [go_sem]) ?_
   refine (token_Scan_2_catch gb366 gb367 gb368 d1 _ _ _ _ (KeepBut.blk hk (g' := gb366) (by (with_reducible repeat (first|refine blk_drewN ?_ _|refine blk_drew ?_|refine blk_alloc ?_ _));exact BK366.out) NB366_370.out (by simp)) (KeepBut.blk hk (g' := gb367) (by (with_reducible repeat (first|refine blk_drewN ?_ _|refine blk_drew ?_|refine blk_alloc ?_ _));exact BK367.out) NB367_370.out (by simp)) (KeepBut.blk hk (g' := gb368) (by (with_reducible repeat (first|refine blk_drewN ?_ _|refine blk_drew ?_|refine blk_alloc ?_ _));exact BK368.out) NB368_370.out (by simp)) NB366_367.out NB366_368.out NB367_368.out).mono ?_
   rintro e_ u_ w_ ⟨rfl, rfl, hq⟩
   obtain ⟨q1, q2, q3, q4⟩ := hq
   refine leaves_retx (rs := [.cell 2 23, .cell 3 3, .cell 4 24]) rfl (by simp) (.plain gb366 23 _ _ rfl q1 Tryd.underlying23 rfl (.plain gb367 3 _ _ rfl q2 Tryd.underlying3 rfl (.plain gb368 24 _ _ rfl q3 Tryd.underlying24 rfl .nil))) ?_
   exact ⟨_, rfl, Kd.N_nil _ _ _ _ _, q4 w hb GE366.out GE367.out GE368.out⟩
 ·cases h
theorem token_Scan_dies.mono : ∀ a0 k, LeO (token_Scan_dies.f k a0) (token_Scan_dies.f (k + 1) a0) := by
 intro a0 k
 unfold token_Scan_dies.f
 repeat' first
   | (with_reducible exact slices_IndexFunc_int_int_token_Scan_1.mono _ _)
   | (with_reducible exact token_scanner_blanks.mono _ _ _)
   | (with_reducible exact token_scanner_next_dies.mono _ _ _)
   | (with_reducible exact LeO.refl _)
   | (with_reducible exact LeO.none _)
   | (with_reducible refine LeO.ite ?_ ?_)
   | (with_reducible refine LeO.bind ?_ (fun _ => ?_))
   | exact LeO.none _
   | refine LeO.ite ?_ ?_
   | refine LeO.bind ?_ (fun _ => ?_)
noncomputable def token_ScanC.f (k : Nat) (l0 : List Int) : Option ((List (S38)) × Int × Int) := @ite _ (∃ k' r, token_Scan_dies.f k' l0 = some r) (Classical.propDecidable _) ((token_Scan_dies.f k l0).bind fun r => some ([], r, 3)) (token_Scan.f k l0)
theorem token_ScanC.mono : ∀ a0 k, LeO (token_ScanC.f k a0) (token_ScanC.f (k + 1) a0) := by
 intro a0 k
 unfold token_ScanC.f
 split
 ·exact LeO.bind (token_Scan_dies.mono _ _) (fun _ => LeO.refl _)
 ·exact token_Scan.mono _ _
theorem token_ScanC.calls (k : Nat) (A0 : Option Addr) (c0 : Nat) (l0 : List Int) (r1 : List (S38)) (r2 : Int) (r3 : Int) (w : World) (hLD : LD w) (hr0 : Kd.C (Kd.int .i64) w A0 l0.length l0) (hc0 : l0.length ≤ c0) (h : token_ScanC.f k l0 = some (r1, r2, r3)) :
  Calls Tryd.prog 5 #[.slice A0 l0.length c0] w fun e w' => ∃ v0_ : Value, e = .returned (.tuple #[v0_, .int .i64 r2, .int .i64 r3]) ∧ Kd.N k38 38 w' w.heap.size (fun k_ => (w.heap.size ≤ k_)) v0_ r1 ∧ Below w.heap.size w w' := by
 unfold token_ScanC.f at h
 split at h
 ·obtain ⟨r, hr, he⟩ := Option.bind_eq_some_iff.mp h
  simp only [Option.some.injEq, Prod.mk.injEq] at he
  obtain ⟨rfl, rfl, rfl⟩ := he
  exact token_Scan_dies.calls k A0 c0 l0 r w hLD hr0 hc0 hr
 ·exact token_Scan.calls k A0 c0 l0 r1 r2 r3 w hLD hr0 hc0 h
end Go.Proofs.YtefefpkgiecikaaDoor.P
namespace Go.Proofs.YtefefpkgiecikaaDoor.P
open Go.RowKit Go.Proofs.YtefefpkgiecikaaDoorW.PrintWords Go.Proofs.YtefefpkgiecikaaDoorW.PrintLast Go.Proofs.YtefefpkgiecikaaDoorW.PrintMore
attribute [local go_sem] max2_int min2_int max_two min_two max_three min_three max_four min_four
set_option linter.unusedVariables false
set_option linter.unusedSimpArgs false
def marginalialaw03_answers.f (k : Nat)  : Option (Bool) := (token_Scan.f k (([40, 97, 41] : List Int))).bind fun bt395 => (if bt395.2.2 = 0 then (if (bt395.1.length : Int) = 3 then (if 1 < (bt395.1.length : Int) then (some (((rd_T38 bt395.1 1).f2.f1).toList == ([97] : List UInt8))) else (none)) else (some false)) else (some false))
theorem marginalialaw03_answers.mono : ∀ k, LeO (marginalialaw03_answers.f k ) (marginalialaw03_answers.f (k + 1) ) := by
 intro  k
 unfold marginalialaw03_answers.f
 repeat' first
   | (with_reducible exact token_Scan.mono _ _)
   | (with_reducible exact LeO.refl _)
   | (with_reducible exact LeO.none _)
   | (with_reducible refine LeO.ite ?_ ?_)
   | (with_reducible refine LeO.bind ?_ (fun _ => ?_))
   | exact token_Scan.mono _ _
   | exact LeO.none _
   | refine LeO.ite ?_ ?_
   | refine LeO.bind ?_ (fun _ => ?_)
set_option maxHeartbeats 8000000 in
set_option maxRecDepth 100000 in
theorem marginalialaw03_answers.calls (k : Nat)  (r : Bool) (w : World) (hLD : LD w) (h : marginalialaw03_answers.f k  = some r) :
  Calls Tryd.prog 7 #[] w fun e w' => e = .returned (.bool r) ∧ Below w.heap.size w w' := by
 have HLD := Aside0.mk hLD
 clear hLD
 have HB := Aside0.mk (Below.refl w.heap.size w)
 have H : ((token_Scan.f k (([40, 97, 41] : List Int))).bind fun bt395 => (if bt395.2.2 = 0 then (if (bt395.1.length : Int) = 3 then (if 1 < (bt395.1.length : Int) then (some (((rd_T38 bt395.1 1).f2.f1).toList == ([97] : List UInt8))) else (none)) else (some false)) else (some false))) = some r := h
 clear h
 obtain ⟨y392, hy392⟩ : ∃ y_ : List Int, y_ = (([40, 97, 41] : List Int)) := ⟨_, rfl⟩
 replace H : ((token_Scan.f k y392).bind fun bt395 => (if bt395.2.2 = 0 then (if (bt395.1.length : Int) = 3 then (if 1 < (bt395.1.length : Int) then (some (((rd_T38 bt395.1 1).f2.f1).toList == ([97] : List UInt8))) else (none)) else (some false)) else (some false))) = some r := by first | (rw [hy392]; with_reducible exact H) | (have H2_ := (Option.bind_some _ _).symm.trans H; rw [hy392]; with_reducible exact H2_) | (have H2_ := (Option.bind_some _ _).symm.trans H; with_reducible exact H2_) | with_reducible exact H | (rw [hy392]; exact H) | exact H
 have Ny392 := Aside0.mk hy392
 clear hy392
 replace H := Option.bind_eq_some_iff.mp H
 obtain ⟨⟨t395, t398, t399⟩, A10, H⟩ := H
 replace H : (if t399 = 0 then (if (t395.length : Int) = 3 then (if 1 < (t395.length : Int) then (some (((rd_T38 t395 1).f2.f1).toList == ([97] : List UInt8))) else (none)) else (some false)) else (some false)) = some r := H
 have A1 := Aside0.mk A10
 clear A10
 by_cases c2 : t399 = 0
 ·rw [if_pos c2] at H
  have c2b0 : (t399 == 0) = true := beq_iff_eq.mpr c2
  have c2b1 : (t399 != 0) = false := bne_eq_false_iff_eq.mpr c2
  clear c2
  by_cases c3 : (t395.length : Int) = 3
  ·rw [if_pos c3] at H
   have c3b0 : ((t395.length : Int) == 3) = true := beq_iff_eq.mpr c3
   have c3b1 : ((t395.length : Int) != 3) = false := bne_eq_false_iff_eq.mpr c3
   clear c3
   by_cases c4 : 1 < (t395.length : Int)
   ·rw [if_pos c4] at H
    have c4b0 : decide (1 < (t395.length : Int)) = true := decide_eq_true c4
    have c4b1 : decide (1 < t395.length) = true := decide_eq_true (by omega)
    clear c4
    obtain rfl := Option.some.inj H
    go_enter Tryd.func7, Tryd.ntmps7
    go_wp2_with (first|((with_reducible refine gate_dst (N := 5) rfl ?_);(try (refine gate_guard (by rfl) ?_;dsimp only));refine Kd.R_lit (Kd.int .i64) _ 3 ?hg (N := 5) ?hd (xs := ([40, 97, 41] : List Int)) (inner := [.int .i64 40, .int .i64 97, .int .i64 41]) (ok := fun _ => True) (okp := fun _ => True) ?hr ?hp (fun _ hk => hk) trivial (Below.refl _ _) (Nat.le_refl _) (by simp) ?_;(case hd => rfl);(case hg => rfl);(case hr => first|(go_simp;done)|(go_simp;rfl));(case hp => exact (Reps.one (show Kd.M (Kd.int .i64) _ _ _ 40 [.int .i64 40] from rfl) (Reps.one (show Kd.M (Kd.int .i64) _ _ _ 97 [.int .i64 97] from rfl) (Reps.one (show Kd.M (Kd.int .i64) _ _ _ 41 [.int .i64 41] from rfl) (Reps.none _ _)))));intro v393 w5 ho6 hb hg_ hnew_;clear hg_ hnew_;(first|rw [← Ny392.out] at ho6|(simp only [Int.reduceToNat] at ho6;rw [← Ny392.out] at ho6));have n0_ := Aside0.mk (Kd.R_lower ho6 (below_size (by repeat (first|(with_reducible first|exact HB.out|apply below_alloc|apply pw_below_drewN|apply below_drew1)|exact HB.out))));have n1_ := Aside0.mk (below_step (by repeat (first|(with_reducible first|exact HB.out|apply below_alloc|apply pw_below_drewN|apply below_drew1)|exact HB.out)) hb);clear HB;have HO394 := n0_;have HB := n1_;clear n0_ n1_;clear hb ho6;obtain ⟨Ao7, co7, eo7⟩ := Kd.R_slice HO394.out;subst eo7)|((with_reducible refine gate_callee (f := 5) rfl ?_);refine goesL_ (some 6) rfl rfl Tryd.func5 (by kernel_rfl) rfl #[.slice Ao7 y392.length co7] rfl (by (try simp only [List.map_toArray, List.map_cons, List.map_nil]);first|done|rfl|(simp only [List.length_drop, List.length_take];rfl)) ?_;(with_reducible refine (token_Scan.calls k _ _ y392 t395 t398 t399 _ ?side1 ?side2 ?side3 A1.out).mono ?_);(case side1 => exact LD.below HLD.out (by repeat (first|(with_reducible first|exact HB.out|apply below_alloc|apply pw_below_drewN|apply below_drew1)|exact HB.out)));(case side2 => repeat (first|exact (Kd.R_reads' HO394.out).2.2|(with_reducible refine Kd.C_alloc ?_ _)|(with_reducible refine Kd.C_drewN ?_ _)|(with_reducible refine Kd.C_drew ?_)));(case side3 => exact (Kd.R_reads' HO394.out).2.1);rintro e w8 ⟨v396, rfl, ho0, hb⟩;refine ⟨_, rfl, ?_⟩;have n0_ := Aside0.mk (Kd.R_below (by (with_reducible repeat (first|apply Kd.R_alloc|apply Kd.R_drewN|apply Kd.R_drew));exact HO394.out) hb);have n1_ := Aside0.mk (Kd.N_lower (Kd.N_mono (ok' := fun k_ => some k_ ≠ (.slice Ao7 y392.length co7 : Value).ownBlock) ho0 (fun k_ hk_ => (Kd.fresh' (Kd.R_lt (by (with_reducible repeat (first|apply Kd.R_alloc|apply Kd.R_drewN|apply Kd.R_drew));exact HO394.out)) k_ hk_))) (below_size (by repeat (first|(with_reducible first|exact HB.out|apply below_alloc|apply pw_below_drewN|apply below_drew1)|exact HB.out))));have n2_ := Aside0.mk (below_step (by repeat (first|(with_reducible first|exact HB.out|apply below_alloc|apply pw_below_drewN|apply below_drew1)|exact HB.out)) hb);clear HO394;clear HB;have HO394 := n0_;have HO397 := n1_;have HB := n2_;clear n0_ n1_ n2_;(try clear hb);(try clear hb2);(try clear hk);(try clear hi);(try clear ho0);obtain ⟨Ao9, co9, eo9⟩ := Kd.N_slice HO397.out;subst eo9;have p400 : 0 ≤ (1 : Int) := (by omega);have q400 : 1 < (t395.length : Int) := of_decide_eq_true (by first|(with_reducible assumption)|assumption);obtain ⟨ad400, A400_5, c400_5, A400_6, c400_6, e400, hx400_0, hx400_1, hx400_2, hx400_3, hx400_4, hx400_5, hx400_6, hx400_7, hx400_8, hl400_5, hi400_5, hl400_6, hi400_6⟩ := at_T38 (Kd.N_reads' HO397.out).2.2 1 p400 q400;cases e400;obtain ⟨ce400, hce400, hMe400, hcc400⟩ := Kd.N_get HO397.out z38 1 p400 (by first|exact q400|exact of_decide_eq_true (by first|(with_reducible assumption)|assumption)|(have e_ := (Kd.N_reads' HO397.out).1;omega));obtain ⟨ua400_5, uc400_5, ua400_6, uc400_6, rfl, ul400_5, ge400_5, ul400_6, ge400_6⟩ := k38_openF hMe400;have hv400_5 := hcc400 5 _ rfl;rw [add_field _ _ 5 (by omega)] at hv400_5;replace hv400_5 := Option.some.inj (hv400_5.symm.trans hx400_5);injection hv400_5 with hva_ hvn_ hvc_;rw [hva_] at ge400_5;rw [hvc_] at ul400_5;have HL400_5 := Aside0.mk (show Kd.V (Kd.int .u32) 73 _ w.heap.size _ _ ((rd_T38 t395 1).f2.f2.f1) from Kd.V_mk ul400_5 ge400_5);clear hva_ hvn_ hvc_ ge400_5 ul400_5;have hv400_6 := hcc400 6 _ rfl;rw [add_field _ _ 6 (by omega)] at hv400_6;replace hv400_6 := Option.some.inj (hv400_6.symm.trans hx400_6);injection hv400_6 with hva_ hvn_ hvc_;rw [hva_] at ge400_6;rw [hvc_] at ul400_6;have HL400_6 := Aside0.mk (show Kd.V k33 33 _ w.heap.size _ _ ((rd_T38 t395 1).f2.f3) from Kd.V_mk ul400_6 ge400_6);clear hva_ hvn_ hvc_ ge400_6 ul400_6;clear hcc400 hce400;(try simp only [show (1 : Int).toNat = 1 from rfl, Nat.reduceMul, Nat.reduceEqDiff, Go.Addr.add, ↓reduceIte] at hx400_0);(try simp only [show (1 : Int).toNat = 1 from rfl, Nat.reduceMul, Nat.reduceEqDiff, Go.Addr.add, ↓reduceIte] at hx400_1);(try simp only [show (1 : Int).toNat = 1 from rfl, Nat.reduceMul, Nat.reduceEqDiff, Go.Addr.add, ↓reduceIte] at hx400_2);(try simp only [show (1 : Int).toNat = 1 from rfl, Nat.reduceMul, Nat.reduceEqDiff, Go.Addr.add, ↓reduceIte] at hx400_3);(try simp only [show (1 : Int).toNat = 1 from rfl, Nat.reduceMul, Nat.reduceEqDiff, Go.Addr.add, ↓reduceIte] at hx400_4);(try simp only [show (1 : Int).toNat = 1 from rfl, Nat.reduceMul, Nat.reduceEqDiff, Go.Addr.add, ↓reduceIte] at hx400_5);(try simp only [show (1 : Int).toNat = 1 from rfl, Nat.reduceMul, Nat.reduceEqDiff, Go.Addr.add, ↓reduceIte] at hx400_6);(try simp only [show (1 : Int).toNat = 1 from rfl, Nat.reduceMul, Nat.reduceEqDiff, Go.Addr.add, ↓reduceIte] at hx400_7);(try simp only [show (1 : Int).toNat = 1 from rfl, Nat.reduceMul, Nat.reduceEqDiff, Go.Addr.add, ↓reduceIte] at hx400_8);have qi400 : (1 < t395.length) = True := eq_true (by omega);(try rw [show ((1 : Int)).toNat = 1 from rfl] at hx400_0);(try rw [show 1 * 9 = 9 from rfl] at hx400_0);(try rw [show ((1 : Int)).toNat = 1 from rfl] at hx400_1);(try rw [show 1 * 9 = 9 from rfl] at hx400_1);(try rw [show ((1 : Int)).toNat = 1 from rfl] at hx400_2);(try rw [show 1 * 9 = 9 from rfl] at hx400_2);(try rw [show ((1 : Int)).toNat = 1 from rfl] at hx400_3);(try rw [show 1 * 9 = 9 from rfl] at hx400_3);(try rw [show ((1 : Int)).toNat = 1 from rfl] at hx400_4);(try rw [show 1 * 9 = 9 from rfl] at hx400_4);(try rw [show ((1 : Int)).toNat = 1 from rfl] at hx400_5);(try rw [show 1 * 9 = 9 from rfl] at hx400_5);(try rw [show ((1 : Int)).toNat = 1 from rfl] at hx400_6);(try rw [show 1 * 9 = 9 from rfl] at hx400_6);(try rw [show ((1 : Int)).toNat = 1 from rfl] at hx400_7);(try rw [show 1 * 9 = 9 from rfl] at hx400_7);(try rw [show ((1 : Int)).toNat = 1 from rfl] at hx400_8);(try rw [show 1 * 9 = 9 from rfl] at hx400_8);have HR400_5 := Aside0.mk hi400_5;have HC400_5 := Aside0.mk hl400_5;clear hi400_5 hl400_5;have HR400_6 := Aside0.mk hi400_6;have HC400_6 := Aside0.mk hl400_6;clear hi400_6 hl400_6;replace p400 := eq_true p400;replace q400 := eq_true q400))
    go_ret
    exact ⟨by first|rfl|(simp [errW_none, errW_some] <;> rfl)|(simp [*, errW_none, errW_some] <;> rfl), by repeat (first|(with_reducible first|exact HB.out|apply below_alloc|apply pw_below_drewN|apply below_drew1)|exact HB.out)⟩
   ·rw [if_neg c4] at H
    exact absurd H (by simp)
  ·rw [if_neg c3] at H
   have c3b0 : ((t395.length : Int) == 3) = false := beq_eq_false_iff_ne.mpr c3
   have c3b1 : ((t395.length : Int) != 3) = true := bne_iff_ne.mpr c3
   obtain rfl := Option.some.inj H
   go_enter Tryd.func7, Tryd.ntmps7
   go_wp2_with (first|((with_reducible refine gate_dst (N := 5) rfl ?_);(try (refine gate_guard (by rfl) ?_;dsimp only));refine Kd.R_lit (Kd.int .i64) _ 3 ?hg (N := 5) ?hd (xs := ([40, 97, 41] : List Int)) (inner := [.int .i64 40, .int .i64 97, .int .i64 41]) (ok := fun _ => True) (okp := fun _ => True) ?hr ?hp (fun _ hk => hk) trivial (Below.refl _ _) (Nat.le_refl _) (by simp) ?_;(case hd => rfl);(case hg => rfl);(case hr => first|(go_simp;done)|(go_simp;rfl));(case hp => exact (Reps.one (show Kd.M (Kd.int .i64) _ _ _ 40 [.int .i64 40] from rfl) (Reps.one (show Kd.M (Kd.int .i64) _ _ _ 97 [.int .i64 97] from rfl) (Reps.one (show Kd.M (Kd.int .i64) _ _ _ 41 [.int .i64 41] from rfl) (Reps.none _ _)))));intro v393 w10 ho11 hb hg_ hnew_;clear hg_ hnew_;(first|rw [← Ny392.out] at ho11|(simp only [Int.reduceToNat] at ho11;rw [← Ny392.out] at ho11));have n0_ := Aside0.mk (Kd.R_lower ho11 (below_size (by repeat (first|(with_reducible first|exact HB.out|apply below_alloc|apply pw_below_drewN|apply below_drew1)|exact HB.out))));have n1_ := Aside0.mk (below_step (by repeat (first|(with_reducible first|exact HB.out|apply below_alloc|apply pw_below_drewN|apply below_drew1)|exact HB.out)) hb);clear HB;have HO394 := n0_;have HB := n1_;clear n0_ n1_;clear hb ho11;obtain ⟨Ao12, co12, eo12⟩ := Kd.R_slice HO394.out;subst eo12)|((with_reducible refine gate_callee (f := 5) rfl ?_);refine goesL_ (some 6) rfl rfl Tryd.func5 (by kernel_rfl) rfl #[.slice Ao12 y392.length co12] rfl (by (try simp only [List.map_toArray, List.map_cons, List.map_nil]);first|done|rfl|(simp only [List.length_drop, List.length_take];rfl)) ?_;(with_reducible refine (token_Scan.calls k _ _ y392 t395 t398 t399 _ ?side1 ?side2 ?side3 A1.out).mono ?_);(case side1 => exact LD.below HLD.out (by repeat (first|(with_reducible first|exact HB.out|apply below_alloc|apply pw_below_drewN|apply below_drew1)|exact HB.out)));(case side2 => repeat (first|exact (Kd.R_reads' HO394.out).2.2|(with_reducible refine Kd.C_alloc ?_ _)|(with_reducible refine Kd.C_drewN ?_ _)|(with_reducible refine Kd.C_drew ?_)));(case side3 => exact (Kd.R_reads' HO394.out).2.1);rintro e w13 ⟨v396, rfl, ho0, hb⟩;refine ⟨_, rfl, ?_⟩;have n0_ := Aside0.mk (Kd.R_below (by (with_reducible repeat (first|apply Kd.R_alloc|apply Kd.R_drewN|apply Kd.R_drew));exact HO394.out) hb);have n1_ := Aside0.mk (Kd.N_lower (Kd.N_mono (ok' := fun k_ => some k_ ≠ (.slice Ao12 y392.length co12 : Value).ownBlock) ho0 (fun k_ hk_ => (Kd.fresh' (Kd.R_lt (by (with_reducible repeat (first|apply Kd.R_alloc|apply Kd.R_drewN|apply Kd.R_drew));exact HO394.out)) k_ hk_))) (below_size (by repeat (first|(with_reducible first|exact HB.out|apply below_alloc|apply pw_below_drewN|apply below_drew1)|exact HB.out))));have n2_ := Aside0.mk (below_step (by repeat (first|(with_reducible first|exact HB.out|apply below_alloc|apply pw_below_drewN|apply below_drew1)|exact HB.out)) hb);clear HO394;clear HB;have HO394 := n0_;have HO397 := n1_;have HB := n2_;clear n0_ n1_ n2_;(try clear hb);(try clear hb2);(try clear hk);(try clear hi);(try clear ho0);obtain ⟨Ao14, co14, eo14⟩ := Kd.N_slice HO397.out;subst eo14))
   go_ret
   exact ⟨by first|rfl|(simp [errW_none, errW_some] <;> rfl)|(simp [*, errW_none, errW_some] <;> rfl), by repeat (first|(with_reducible first|exact HB.out|apply below_alloc|apply pw_below_drewN|apply below_drew1)|exact HB.out)⟩
 ·rw [if_neg c2] at H
  have c2b0 : (t399 == 0) = false := beq_eq_false_iff_ne.mpr c2
  have c2b1 : (t399 != 0) = true := bne_iff_ne.mpr c2
  obtain rfl := Option.some.inj H
  go_enter Tryd.func7, Tryd.ntmps7
  go_wp2_with (first|((with_reducible refine gate_dst (N := 5) rfl ?_);(try (refine gate_guard (by rfl) ?_;dsimp only));refine Kd.R_lit (Kd.int .i64) _ 3 ?hg (N := 5) ?hd (xs := ([40, 97, 41] : List Int)) (inner := [.int .i64 40, .int .i64 97, .int .i64 41]) (ok := fun _ => True) (okp := fun _ => True) ?hr ?hp (fun _ hk => hk) trivial (Below.refl _ _) (Nat.le_refl _) (by simp) ?_;(case hd => rfl);(case hg => rfl);(case hr => first|(go_simp;done)|(go_simp;rfl));(case hp => exact (Reps.one (show Kd.M (Kd.int .i64) _ _ _ 40 [.int .i64 40] from rfl) (Reps.one (show Kd.M (Kd.int .i64) _ _ _ 97 [.int .i64 97] from rfl) (Reps.one (show Kd.M (Kd.int .i64) _ _ _ 41 [.int .i64 41] from rfl) (Reps.none _ _)))));intro v393 w15 ho16 hb hg_ hnew_;clear hg_ hnew_;(first|rw [← Ny392.out] at ho16|(simp only [Int.reduceToNat] at ho16;rw [← Ny392.out] at ho16));have n0_ := Aside0.mk (Kd.R_lower ho16 (below_size (by repeat (first|(with_reducible first|exact HB.out|apply below_alloc|apply pw_below_drewN|apply below_drew1)|exact HB.out))));have n1_ := Aside0.mk (below_step (by repeat (first|(with_reducible first|exact HB.out|apply below_alloc|apply pw_below_drewN|apply below_drew1)|exact HB.out)) hb);clear HB;have HO394 := n0_;have HB := n1_;clear n0_ n1_;clear hb ho16;obtain ⟨Ao17, co17, eo17⟩ := Kd.R_slice HO394.out;subst eo17)|((with_reducible refine gate_callee (f := 5) rfl ?_);refine goesL_ (some 6) rfl rfl Tryd.func5 (by kernel_rfl) rfl #[.slice Ao17 y392.length co17] rfl (by (try simp only [List.map_toArray, List.map_cons, List.map_nil]);first|done|rfl|(simp only [List.length_drop, List.length_take];rfl)) ?_;(with_reducible refine (token_Scan.calls k _ _ y392 t395 t398 t399 _ ?side1 ?side2 ?side3 A1.out).mono ?_);(case side1 => exact LD.below HLD.out (by repeat (first|(with_reducible first|exact HB.out|apply below_alloc|apply pw_below_drewN|apply below_drew1)|exact HB.out)));(case side2 => repeat (first|exact (Kd.R_reads' HO394.out).2.2|(with_reducible refine Kd.C_alloc ?_ _)|(with_reducible refine Kd.C_drewN ?_ _)|(with_reducible refine Kd.C_drew ?_)));(case side3 => exact (Kd.R_reads' HO394.out).2.1);rintro e w18 ⟨v396, rfl, ho0, hb⟩;refine ⟨_, rfl, ?_⟩;have n0_ := Aside0.mk (Kd.R_below (by (with_reducible repeat (first|apply Kd.R_alloc|apply Kd.R_drewN|apply Kd.R_drew));exact HO394.out) hb);have n1_ := Aside0.mk (Kd.N_lower (Kd.N_mono (ok' := fun k_ => some k_ ≠ (.slice Ao17 y392.length co17 : Value).ownBlock) ho0 (fun k_ hk_ => (Kd.fresh' (Kd.R_lt (by (with_reducible repeat (first|apply Kd.R_alloc|apply Kd.R_drewN|apply Kd.R_drew));exact HO394.out)) k_ hk_))) (below_size (by repeat (first|(with_reducible first|exact HB.out|apply below_alloc|apply pw_below_drewN|apply below_drew1)|exact HB.out))));have n2_ := Aside0.mk (below_step (by repeat (first|(with_reducible first|exact HB.out|apply below_alloc|apply pw_below_drewN|apply below_drew1)|exact HB.out)) hb);clear HO394;clear HB;have HO394 := n0_;have HO397 := n1_;have HB := n2_;clear n0_ n1_ n2_;(try clear hb);(try clear hb2);(try clear hk);(try clear hi);(try clear ho0)))
  go_ret
  exact ⟨by first|rfl|(simp [errW_none, errW_some] <;> rfl)|(simp [*, errW_none, errW_some] <;> rfl), by repeat (first|(with_reducible first|exact HB.out|apply below_alloc|apply pw_below_drewN|apply below_drew1)|exact HB.out)⟩
end Go.Proofs.YtefefpkgiecikaaDoor.P
