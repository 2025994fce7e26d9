/- Words and walks for the claim, merged by a program of this session (part 4). -/
import Derived.Test.YtefefpkgiecikaaDoorTl1
import Derived.Test.YtefefpkgiecikaaDoorTl2
import Derived.Test.YtefefpkgiecikaaDoorTl3
set_option linter.unusedVariables false
set_option linter.unusedSimpArgs false
namespace Go.Proofs.YtefefpkgiecikaaDoor.P
open Go.RowKit Go.Proofs.YtefefpkgiecikaaDoorW.PrintWords Go.Proofs.YtefefpkgiecikaaDoorW.PrintLast Go.Proofs.YtefefpkgiecikaaDoorW.PrintMore
attribute [local go_sem] max2_int min2_int max_two min_two max_three min_three max_four min_four
set_option linter.unusedVariables false
set_option linter.unusedSimpArgs false
def token_scanner_char.f (k : Nat) (s0_0 : List Int) (s0_1 : Int) : Option (ByteArray × Bool × Int) := (token_scanner_left.f s0_0 s0_1 1).bind fun bt281 => (if bt281.1 = true then ((token_scanner_while.f k s0_0 bt281.2 1).bind fun bt283 => ((utf_Named.f k bt283.1).bind fun bt285 => ((utf_Encode.f k (([bt285.1] : List Int))).bind fun bt290 => (some (strOfNums bt290.1, bt285.2, bt283.2))))) else (some ((⟨#[]⟩ : ByteArray), false, bt281.2)))
theorem token_scanner_char.mono : ∀ a0 a1 k, LeO (token_scanner_char.f k a0 a1) (token_scanner_char.f (k + 1) a0 a1) := by
 intro a0 a1 k
 unfold token_scanner_char.f
 repeat' first
   | (with_reducible exact token_scanner_while.mono _ _ _ _)
   | (with_reducible exact utf_Encode.mono _ _)
   | (with_reducible exact utf_Named.mono _ _)
   | (with_reducible exact LeO.refl _)
   | (with_reducible exact LeO.none _)
   | (with_reducible refine LeO.ite ?_ ?_)
   | (with_reducible refine LeO.bind ?_ (fun _ => ?_))
   | exact token_scanner_while.mono _ _ _ _
   | exact utf_Encode.mono _ _
   | exact utf_Named.mono _ _
   | exact LeO.none _
   | refine LeO.ite ?_ ?_
   | refine LeO.bind ?_ (fun _ => ?_)
set_option maxHeartbeats 8000000 in
set_option maxRecDepth 100000 in
theorem token_scanner_char.calls (k : Nat) (g : Nat) (s0_0 : List Int) (s0_1 : Int) (r1 : ByteArray) (r2 : Bool) (r3 : Int) (w0 w : World) (hI : IsS50 w0 w g s0_0 s0_1) (hB : Below w0.heap.size w0 w) (hLD : LD w0) (h : token_scanner_char.f k s0_0 s0_1 = some (r1, r2, r3)) :
  Calls Tryd.prog 38 #[.pointer (some ⟨g, 0, none⟩)] w fun e w' => e = .returned (.tuple #[.string r1, .bool r2]) ∧ IsS50 w0 w' g s0_0 r3 ∧ Below w0.heap.size w0 w' ∧ KeepBut w w' g none := by
 have HI0 := Aside0.mk hI
 have HK := Aside0.mk (KeepBut.refl w g none)
 have HL := Aside0.mk hB.size
 clear hI
 have HLD := Aside0.mk hLD
 clear hLD
 have HW0 := Aside0.mk hB.size
 have HB := Aside0.mk hB
 clear hB
 have H : ((token_scanner_left.f s0_0 s0_1 1).bind fun bt281 => (if bt281.1 = true then ((token_scanner_while.f k s0_0 bt281.2 1).bind fun bt283 => ((utf_Named.f k bt283.1).bind fun bt285 => ((utf_Encode.f k (([bt285.1] : List Int))).bind fun bt290 => (some (strOfNums bt290.1, bt285.2, bt283.2))))) else (some ((⟨#[]⟩ : ByteArray), false, bt281.2)))) = some (r1, r2, r3) := h
 clear h
 replace H := Option.bind_eq_some_iff.mp H
 obtain ⟨⟨t281, t282⟩, A20, H⟩ := H
 replace H : (if t281 = true then ((token_scanner_while.f k s0_0 t282 1).bind fun bt283 => ((utf_Named.f k bt283.1).bind fun bt285 => ((utf_Encode.f k (([bt285.1] : List Int))).bind fun bt290 => (some (strOfNums bt290.1, bt285.2, bt283.2))))) else (some ((⟨#[]⟩ : ByteArray), false, t282))) = some (r1, r2, r3) := H
 have A2 := Aside0.mk A20
 clear A20
 by_cases c3 : t281 = true
 ·subst c3
  have H1 : ((token_scanner_while.f k s0_0 t282 1).bind fun bt283 => ((utf_Named.f k bt283.1).bind fun bt285 => ((utf_Encode.f k (([bt285.1] : List Int))).bind fun bt290 => (some (strOfNums bt290.1, bt285.2, bt283.2))))) = some (r1, r2, r3) := by rw [if_pos rfl] at H; exact H
  clear H
  have H := H1
  clear H1
  replace H := Option.bind_eq_some_iff.mp H
  obtain ⟨⟨t283, t284⟩, A40, H⟩ := H
  replace H : ((utf_Named.f k t283).bind fun bt285 => ((utf_Encode.f k (([bt285.1] : List Int))).bind fun bt290 => (some (strOfNums bt290.1, bt285.2, t284)))) = some (r1, r2, r3) := H
  have A4 := Aside0.mk A40
  clear A40
  replace H := Option.bind_eq_some_iff.mp H
  obtain ⟨⟨t285, t286⟩, A50, H⟩ := H
  replace H : ((utf_Encode.f k (([t285] : List Int))).bind fun bt290 => (some (strOfNums bt290.1, t286, t284))) = some (r1, r2, r3) := H
  have A5 := Aside0.mk A50
  clear A50
  obtain ⟨y287, hy287⟩ : ∃ y_ : List Int, y_ = (([t285] : List Int)) := ⟨_, rfl⟩
  replace H : ((utf_Encode.f k y287).bind fun bt290 => (some (strOfNums bt290.1, t286, t284))) = some (r1, r2, r3) := by first | (rw [hy287]; with_reducible exact H) | (have H2_ := (Option.bind_some _ _).symm.trans H; rw [hy287]; with_reducible exact H2_) | (have H2_ := (Option.bind_some _ _).symm.trans H; with_reducible exact H2_) | with_reducible exact H | (rw [hy287]; exact H) | exact H
  have Ny287 := Aside0.mk hy287
  clear hy287
  replace H := Option.bind_eq_some_iff.mp H
  obtain ⟨⟨t290, t291⟩, A60, H⟩ := H
  replace H : (some (strOfNums t290, t286, t284)) = some (r1, r2, r3) := H
  have A6 := Aside0.mk A60
  clear A60
  simp only [Option.some.injEq, Prod.mk.injEq] at H
  obtain ⟨rfl, rfl, rfl⟩ := H
  go_enter Tryd.func38, Tryd.ntmps38
  go_wp2_with (first|((with_reducible refine gate_callee (f := 14) rfl ?_);refine goesL_ (some 9) rfl rfl Tryd.func14 (by kernel_rfl) rfl #[.pointer (some ⟨g, 0, none⟩), .int .i64 1] rfl (by (try simp only [List.map_toArray, List.map_cons, List.map_nil]);first|done|rfl|(simp only [List.length_drop, List.length_take];rfl)) ?_;(with_reducible refine (token_scanner_left.calls g s0_0 s0_1 1 true t282 w0 _ ?side1 ?side2 A2.out).mono ?_);(case side1 => repeat (first|(with_reducible first|exact HI0.out|apply IsS50.alloc|apply IsS50.drewN|apply IsS50.drew|apply IsS50.set_1)|exact HI0.out));(case side2 => repeat (first|(with_reducible first|exact HB.out|apply below_alloc|apply pw_below_drewN|apply below_drew1|refine below_set ?_ (IsS50.ge HI0.out))|exact HB.out));rintro e w7 ⟨rfl, hi, hb, hk⟩;refine ⟨_, rfl, ?_⟩;have n0_ := Aside0.mk (KeepBut.trans (by repeat (first|(with_reducible first|exact HK.out|apply KeepBut.set_|apply keep_drewN|apply keep_drew|apply keep_alloc)|exact HK.out)) hk (.inl rfl));have n1_ := Aside0.mk (hb);have n2_ := Aside0.mk (hi);clear HK;clear HB;clear HI0;have HK := n0_;have HB := n1_;have HI0 := n2_;clear n0_ n1_ n2_;(try clear hb);(try clear hb2);(try clear hk);(try clear hi))|((with_reducible refine gate_callee (f := 39) rfl ?_);refine goesL_ (some 13) rfl rfl Tryd.func39 (by kernel_rfl) rfl #[.pointer (some ⟨g, 0, none⟩), .int .i64 1] rfl (by (try simp only [List.map_toArray, List.map_cons, List.map_nil]);first|done|rfl|(simp only [List.length_drop, List.length_take];rfl)) ?_;(with_reducible refine (token_scanner_while.calls k g s0_0 t282 1 t283 t284 w0 _ ?side1 ?side2 A4.out).mono ?_);(case side1 => repeat (first|(with_reducible first|exact HI0.out|apply IsS50.alloc|apply IsS50.drewN|apply IsS50.drew|apply IsS50.set_1)|exact HI0.out));(case side2 => repeat (first|(with_reducible first|exact HB.out|apply below_alloc|apply pw_below_drewN|apply below_drew1|refine below_set ?_ (IsS50.ge HI0.out))|exact HB.out));rintro e w8 ⟨rfl, hi, hb, hk⟩;refine ⟨_, rfl, ?_⟩;have n0_ := Aside0.mk (KeepBut.trans (by repeat (first|(with_reducible first|exact HK.out|apply KeepBut.set_|apply keep_drewN|apply keep_drew|apply keep_alloc)|exact HK.out)) hk (.inl rfl));have n1_ := Aside0.mk (hb);have n2_ := Aside0.mk (hi);clear HK;clear HB;clear HI0;have HK := n0_;have HB := n1_;have HI0 := n2_;clear n0_ n1_ n2_;(try clear hb);(try clear hb2);(try clear hk);(try clear hi))|((with_reducible refine gate_callee (f := 57) rfl ?_);refine goesL_ (some 14) rfl rfl Tryd.func57 (by kernel_rfl) rfl #[.string t283] rfl (by (try simp only [List.map_toArray, List.map_cons, List.map_nil]);first|done|rfl|(simp only [List.length_drop, List.length_take];rfl)) ?_;(with_reducible refine (utf_Named.calls k t283 t285 t286 _ ?side1 A5.out).mono ?_);(case side1 => exact LD.below HLD.out (by repeat (first|(with_reducible first|exact HB.out|apply below_alloc|apply pw_below_drewN|apply below_drew1|refine below_set ?_ (IsS50.ge HI0.out))|exact HB.out)));rintro e w9 ⟨rfl, hb⟩;refine ⟨_, rfl, ?_⟩;have n0_ := Aside0.mk (IsS50.below (by repeat (first|(with_reducible first|exact HI0.out|apply IsS50.alloc|apply IsS50.drewN|apply IsS50.drew|apply IsS50.set_1)|exact HI0.out)) hb);have n1_ := Aside0.mk (KeepBut.trans (by repeat (first|(with_reducible first|exact HK.out|apply KeepBut.set_|apply keep_drewN|apply keep_drew|apply keep_alloc)|exact HK.out)) (KeepBut.of_below hb g none) (.inl rfl));have n2_ := Aside0.mk (below_step (by repeat (first|(with_reducible first|exact HB.out|apply below_alloc|apply pw_below_drewN|apply below_drew1|refine below_set ?_ (IsS50.ge HI0.out))|exact HB.out)) hb);clear HI0;clear HK;clear HB;have HI0 := n0_;have HK := n1_;have HB := n2_;clear n0_ n1_ n2_;(try clear hb);(try clear hb2);(try clear hk);(try clear hi))|((with_reducible refine gate_dst (N := 19) rfl ?_);refine Kd.R_lit (Kd.int .i64) _ 3 ?hg (N := 19) ?hd (xs := ([t285] : List Int)) (inner := [.int .i64 t285]) (ok := fun _ => True) (okp := fun _ => True) ?hr ?hp (fun _ hk => hk) trivial (Below.refl _ _) (Nat.le_refl _) (by simp) ?_;(case hd => rfl);(case hg => rfl);(case hr => first|(go_simp;done)|(go_simp;rfl));(case hp => exact (Reps.one (show Kd.M (Kd.int .i64) _ _ _ t285 [.int .i64 t285] from rfl) (Reps.none _ _)));intro v288 w10 ho11 hb hg_ hnew_;clear hg_ hnew_;(first|rw [← Ny287.out] at ho11|(simp only [Int.reduceToNat] at ho11;rw [← Ny287.out] at ho11));have n0_ := Aside0.mk (Kd.R_lower ho11 (keep_size (w := w) (g := g) (row := none) (by repeat (first|(with_reducible first|exact HK.out|apply KeepBut.set_|apply keep_drewN|apply keep_drew|apply keep_alloc)|exact HK.out))));have n1_ := Aside0.mk (IsS50.below (by repeat (first|(with_reducible first|exact HI0.out|apply IsS50.alloc|apply IsS50.drewN|apply IsS50.drew|apply IsS50.set_1)|exact HI0.out)) hb);have n2_ := Aside0.mk (KeepBut.trans (by repeat (first|(with_reducible first|exact HK.out|apply KeepBut.set_|apply keep_drewN|apply keep_drew|apply keep_alloc)|exact HK.out)) (KeepBut.of_below hb g none) (.inl rfl));have n3_ := Aside0.mk (below_step (by repeat (first|(with_reducible first|exact HB.out|apply below_alloc|apply pw_below_drewN|apply below_drew1|refine below_set ?_ (IsS50.ge HI0.out))|exact HB.out)) hb);clear HI0;clear HK;clear HB;have HO289 := n0_;have HI0 := n1_;have HK := n2_;have HB := n3_;clear n0_ n1_ n2_ n3_;clear hb ho11;obtain ⟨Ao12, co12, eo12⟩ := Kd.R_slice HO289.out;subst eo12)|((with_reducible refine gate_callee (f := 55) rfl ?_);refine goesL_ (some 20) rfl rfl Tryd.func55 (by kernel_rfl) rfl #[.slice Ao12 y287.length co12] rfl (by (try simp only [List.map_toArray, List.map_cons, List.map_nil]);first|done|rfl|(simp only [List.length_drop, List.length_take];rfl)) ?_;(with_reducible refine (utf_Encode.calls k _ _ y287 t290 t291 _ ?side1 ?side2 A6.out).mono ?_);(case side1 => repeat (first|exact (Kd.R_reads' HO289.out).2.2|(with_reducible refine Kd.C_alloc ?_ _)|(with_reducible refine Kd.C_drewN ?_ _)|(with_reducible refine Kd.C_drew ?_)));(case side2 => exact (Kd.R_reads' HO289.out).2.1);rintro e w13 ⟨v292, rfl, ho0, hb⟩;refine ⟨_, rfl, ?_⟩;have n0_ := Aside0.mk (Kd.R_below (by (with_reducible repeat (first|apply Kd.R_alloc|apply Kd.R_drewN|apply Kd.R_drew));exact HO289.out) hb);have n1_ := Aside0.mk (Kd.R_lower ho0 (keep_size (w := w) (g := g) (row := none) (by repeat (first|(with_reducible first|exact HK.out|apply KeepBut.set_|apply keep_drewN|apply keep_drew|apply keep_alloc)|exact HK.out))));have n2_ := Aside0.mk (IsS50.below (by repeat (first|(with_reducible first|exact HI0.out|apply IsS50.alloc|apply IsS50.drewN|apply IsS50.drew|apply IsS50.set_1)|exact HI0.out)) hb);have n3_ := Aside0.mk (KeepBut.trans (by repeat (first|(with_reducible first|exact HK.out|apply KeepBut.set_|apply keep_drewN|apply keep_drew|apply keep_alloc)|exact HK.out)) (KeepBut.of_below hb g none) (.inl rfl));have n4_ := Aside0.mk (below_step (by repeat (first|(with_reducible first|exact HB.out|apply below_alloc|apply pw_below_drewN|apply below_drew1|refine below_set ?_ (IsS50.ge HI0.out))|exact HB.out)) hb);clear HO289;clear HI0;clear HK;clear HB;have HO289 := n0_;have HO293 := n1_;have HI0 := n2_;have HK := n3_;have HB := n4_;clear n0_ n1_ n2_ n3_ n4_;(try clear hb);(try clear hb2);(try clear hk);(try clear hi);(try clear ho0);have hcv14 := own_string (P := Tryd.prog) Tryd.underlying27 Tryd.underlying5 Tryd.underlying9 (Kd.own_of_R HO293.out)))
  go_ret2
  exact ⟨by first|rfl|(simp [errW_none, errW_some] <;> rfl)|(simp [*, errW_none, errW_some] <;> rfl), by repeat (first|(with_reducible first|exact HI0.out|apply IsS50.alloc|apply IsS50.drewN|apply IsS50.drew|apply IsS50.set_1)|exact HI0.out), by repeat (first|(with_reducible first|exact HB.out|apply below_alloc|apply pw_below_drewN|apply below_drew1|refine below_set ?_ (IsS50.ge HI0.out))|exact HB.out), by repeat (first|(with_reducible first|exact HK.out|apply KeepBut.set_|apply keep_drewN|apply keep_drew|apply keep_alloc)|exact HK.out)⟩
 ·replace c3 := Bool.eq_false_iff.mpr c3
  subst c3
  have H1 : (some ((⟨#[]⟩ : ByteArray), false, t282)) = some (r1, r2, r3) := by rw [if_neg (show ¬ (false = true) by decide)] at H; exact H
  clear H
  have H := H1
  clear H1
  simp only [Option.some.injEq, Prod.mk.injEq] at H
  obtain ⟨rfl, rfl, rfl⟩ := H
  go_enter Tryd.func38, Tryd.ntmps38
  go_wp2_with (first|((with_reducible refine gate_callee (f := 14) rfl ?_);refine goesL_ (some 9) rfl rfl Tryd.func14 (by kernel_rfl) rfl #[.pointer (some ⟨g, 0, none⟩), .int .i64 1] rfl (by (try simp only [List.map_toArray, List.map_cons, List.map_nil]);first|done|rfl|(simp only [List.length_drop, List.length_take];rfl)) ?_;(with_reducible refine (token_scanner_left.calls g s0_0 s0_1 1 false t282 w0 _ ?side1 ?side2 A2.out).mono ?_);(case side1 => repeat (first|(with_reducible first|exact HI0.out|apply IsS50.alloc|apply IsS50.drewN|apply IsS50.drew|apply IsS50.set_1)|exact HI0.out));(case side2 => repeat (first|(with_reducible first|exact HB.out|apply below_alloc|apply pw_below_drewN|apply below_drew1|refine below_set ?_ (IsS50.ge HI0.out))|exact HB.out));rintro e w15 ⟨rfl, hi, hb, hk⟩;refine ⟨_, rfl, ?_⟩;have n0_ := Aside0.mk (KeepBut.trans (by repeat (first|(with_reducible first|exact HK.out|apply KeepBut.set_|apply keep_drewN|apply keep_drew|apply keep_alloc)|exact HK.out)) hk (.inl rfl));have n1_ := Aside0.mk (hb);have n2_ := Aside0.mk (hi);clear HK;clear HB;clear HI0;have HK := n0_;have HB := n1_;have HI0 := n2_;clear n0_ n1_ n2_;(try clear hb);(try clear hb2);(try clear hk);(try clear hi)))
  go_ret2
  exact ⟨by first|rfl|(simp [errW_none, errW_some] <;> rfl)|(simp [*, errW_none, errW_some] <;> rfl), by repeat (first|(with_reducible first|exact HI0.out|apply IsS50.alloc|apply IsS50.drewN|apply IsS50.drew|apply IsS50.set_1)|exact HI0.out), by repeat (first|(with_reducible first|exact HB.out|apply below_alloc|apply pw_below_drewN|apply below_drew1|refine below_set ?_ (IsS50.ge HI0.out))|exact HB.out), by repeat (first|(with_reducible first|exact HK.out|apply KeepBut.set_|apply keep_drewN|apply keep_drew|apply keep_alloc)|exact HK.out)⟩
end Go.Proofs.YtefefpkgiecikaaDoor.P
namespace Go.Proofs.YtefefpkgiecikaaDoor.P
open Go.RowKit Go.Proofs.YtefefpkgiecikaaDoorW.PrintWords Go.Proofs.YtefefpkgiecikaaDoorW.PrintLast Go.Proofs.YtefefpkgiecikaaDoorW.PrintMore
attribute [local go_sem] max2_int min2_int max_two min_two max_three min_three max_four min_four
set_option linter.unusedVariables false
set_option linter.unusedSimpArgs false
def token_scanner_datum.f (k : Nat) (s0_0 : List Int) (s0_1 : Int) : Option (Int × ByteArray × Bool × List Int × (List (S33)) × Int × Bool × Int) := (token_scanner_here.f k s0_0 s0_1 (⟨#[34]⟩ : ByteArray)).bind fun bt295 => (if bt295.1 = true then ((token_scanner_str.f k s0_0 (wrap64 (bt295.2 + 1))).bind fun bt297 => (some (5, bt297.1, false, ([] : List Int), ([] : List (S33)), 0, bt297.2.1, bt297.2.2))) else ((token_scanner_here.f k s0_0 bt295.2 (⟨#[35, 92]⟩ : ByteArray)).bind fun bt300 => (if bt300.1 = true then ((token_scanner_char.f k s0_0 (wrap64 (bt300.2 + 2))).bind fun bt302 => (some (6, bt302.1, false, ([] : List Int), ([] : List (S33)), 0, bt302.2.1, bt302.2.2))) else ((token_scanner_while.f k s0_0 bt300.2 0).bind fun bt305 => ((token_Atom.f k bt305.1).bind fun bt307 => (some (bt307.1, bt307.2.1, bt307.2.2.1, bt307.2.2.2.1, bt307.2.2.2.2.1, bt307.2.2.2.2.2.1, bt307.2.2.2.2.2.2, bt305.2)))))))
theorem token_scanner_datum.mono : ∀ a0 a1 k, LeO (token_scanner_datum.f k a0 a1) (token_scanner_datum.f (k + 1) a0 a1) := by
 intro a0 a1 k
 unfold token_scanner_datum.f
 repeat' first
   | (with_reducible exact token_Atom.mono _ _)
   | (with_reducible exact token_scanner_char.mono _ _ _)
   | (with_reducible exact token_scanner_here.mono _ _ _ _)
   | (with_reducible exact token_scanner_str.mono _ _ _)
   | (with_reducible exact token_scanner_while.mono _ _ _ _)
   | (with_reducible exact LeO.refl _)
   | (with_reducible exact LeO.none _)
   | (with_reducible refine LeO.ite ?_ ?_)
   | (with_reducible refine LeO.bind ?_ (fun _ => ?_))
   | exact token_Atom.mono _ _
   | exact token_scanner_char.mono _ _ _
   | exact token_scanner_here.mono _ _ _ _
   | exact token_scanner_str.mono _ _ _
   | exact token_scanner_while.mono _ _ _ _
   | exact LeO.none _
   | refine LeO.ite ?_ ?_
   | refine LeO.bind ?_ (fun _ => ?_)
set_option maxHeartbeats 8000000 in
set_option maxRecDepth 100000 in
theorem token_scanner_datum.calls (k : Nat) (g : Nat) (s0_0 : List Int) (s0_1 : Int) (r1 : Int) (r2 : ByteArray) (r3 : Bool) (r4 : List Int) (r5 : List (S33)) (r6 : Int) (r7 : Bool) (r8 : Int) (w0 w : World) (hI : IsS50 w0 w g s0_0 s0_1) (hB : Below w0.heap.size w0 w) (hLD : LD w0) (h : token_scanner_datum.f k s0_0 s0_1 = some (r1, r2, r3, r4, r5, r6, r7, r8)) :
  Calls Tryd.prog 27 #[.pointer (some ⟨g, 0, none⟩)] w fun e w' => ∃ v3_ v4_ : Value, e = .returned (.tuple #[.agg #[.int .i64 r1, .string r2, .bool r3, v3_, v4_, .int .i64 r6], .bool r7]) ∧ Kd.V (Kd.int .u32) 73 w' w.heap.size (fun k_ => (w.heap.size ≤ k_) ∧ some k_ ≠ (v4_ : Value).ownBlock) v3_ r4 ∧ Kd.R k33 33 w' w.heap.size (fun k_ => (w.heap.size ≤ k_)) v4_ r5 ∧ IsS50 w0 w' g s0_0 r8 ∧ Below w0.heap.size w0 w' ∧ KeepBut w w' g none := by
 have hu33 := Tryd.underlying33
 have HI0 := Aside0.mk hI
 have HK := Aside0.mk (KeepBut.refl w g none)
 have HL := Aside0.mk hB.size
 clear hI
 have HLD := Aside0.mk hLD
 clear hLD
 have HW0 := Aside0.mk hB.size
 have HB := Aside0.mk hB
 clear hB
 have H : ((token_scanner_here.f k s0_0 s0_1 (⟨#[34]⟩ : ByteArray)).bind fun bt295 => (if bt295.1 = true then ((token_scanner_str.f k s0_0 (wrap64 (bt295.2 + 1))).bind fun bt297 => (some (5, bt297.1, false, ([] : List Int), ([] : List (S33)), 0, bt297.2.1, bt297.2.2))) else ((token_scanner_here.f k s0_0 bt295.2 (⟨#[35, 92]⟩ : ByteArray)).bind fun bt300 => (if bt300.1 = true then ((token_scanner_char.f k s0_0 (wrap64 (bt300.2 + 2))).bind fun bt302 => (some (6, bt302.1, false, ([] : List Int), ([] : List (S33)), 0, bt302.2.1, bt302.2.2))) else ((token_scanner_while.f k s0_0 bt300.2 0).bind fun bt305 => ((token_Atom.f k bt305.1).bind fun bt307 => (some (bt307.1, bt307.2.1, bt307.2.2.1, bt307.2.2.2.1, bt307.2.2.2.2.1, bt307.2.2.2.2.2.1, bt307.2.2.2.2.2.2, bt305.2)))))))) = some (r1, r2, r3, r4, r5, r6, r7, r8) := h
 clear h
 replace H := Option.bind_eq_some_iff.mp H
 obtain ⟨⟨t295, t296⟩, A20, H⟩ := H
 replace H : (if t295 = true then ((token_scanner_str.f k s0_0 (wrap64 (t296 + 1))).bind fun bt297 => (some (5, bt297.1, false, ([] : List Int), ([] : List (S33)), 0, bt297.2.1, bt297.2.2))) else ((token_scanner_here.f k s0_0 t296 (⟨#[35, 92]⟩ : ByteArray)).bind fun bt300 => (if bt300.1 = true then ((token_scanner_char.f k s0_0 (wrap64 (bt300.2 + 2))).bind fun bt302 => (some (6, bt302.1, false, ([] : List Int), ([] : List (S33)), 0, bt302.2.1, bt302.2.2))) else ((token_scanner_while.f k s0_0 bt300.2 0).bind fun bt305 => ((token_Atom.f k bt305.1).bind fun bt307 => (some (bt307.1, bt307.2.1, bt307.2.2.1, bt307.2.2.2.1, bt307.2.2.2.2.1, bt307.2.2.2.2.2.1, bt307.2.2.2.2.2.2, bt305.2))))))) = some (r1, r2, r3, r4, r5, r6, r7, r8) := H
 have A2 := Aside0.mk A20
 clear A20
 by_cases c3 : t295 = true
 ·subst c3
  have H1 : ((token_scanner_str.f k s0_0 (wrap64 (t296 + 1))).bind fun bt297 => (some (5, bt297.1, false, ([] : List Int), ([] : List (S33)), 0, bt297.2.1, bt297.2.2))) = some (r1, r2, r3, r4, r5, r6, r7, r8) := by rw [if_pos rfl] at H; exact H
  clear H
  have H := H1
  clear H1
  replace H := Option.bind_eq_some_iff.mp H
  obtain ⟨⟨t297, t298, t299⟩, A40, H⟩ := H
  replace H : (some (5, t297, false, ([] : List Int), ([] : List (S33)), 0, t298, t299)) = some (r1, r2, r3, r4, r5, r6, r7, r8) := H
  have A4 := Aside0.mk A40
  clear A40
  simp only [Option.some.injEq, Prod.mk.injEq] at H
  obtain ⟨rfl, rfl, rfl, rfl, rfl, rfl, rfl, rfl⟩ := H
  go_enter Tryd.func27, Tryd.ntmps27
  go_wp2_with (first|((with_reducible refine gate_dst (N := 2) rfl ?_);refine box_event ?hg (N := 2) ?hd (cs := #[.int .i64 0, .string (⟨#[]⟩ : ByteArray), .bool false, .slice none 0 0, .slice none 0 0, .int .i64 0]) (t := 33) ?hr ?_;(case hd => rfl);(case hg => rfl);(case hr => first|(go_simp;done)|(go_simp;rfl));intro gb294 hg w5 hbox hb;have n0_ := Aside0.mk (IsS50.below (by repeat (first|(with_reducible first|exact HI0.out|apply IsS50.alloc|apply IsS50.drewN|apply IsS50.drew|apply IsS50.set_1)|exact HI0.out)) hb);have n1_ := Aside0.mk (KeepBut.trans (by repeat (first|(with_reducible first|exact HK.out|apply KeepBut.set_|apply keep_drewN|apply keep_drew|apply keep_alloc)|exact HK.out)) (KeepBut.of_below hb g none) (.inl rfl));have n2_ := Aside0.mk (below_step (by repeat (first|(with_reducible first|exact HB.out|apply below_alloc|apply pw_below_drewN|apply below_drew1|refine below_set ?_ (IsS50.ge HI0.out))|exact HB.out)) hb);have n3_ := Aside0.mk (hbox);have n4_ := Aside0.mk ((by rw [hg];exact (keep_size (w := w) (g := g) (row := none) (by repeat (first|(with_reducible first|exact HK.out|apply KeepBut.set_|apply keep_drewN|apply keep_drew|apply keep_alloc)|exact HK.out))) : w.heap.size ≤ gb294));have n5_ := Aside0.mk ((Nat.le_trans HW0.out (by rw [hg];exact (keep_size (w := w) (g := g) (row := none) (by repeat (first|(with_reducible first|exact HK.out|apply KeepBut.set_|apply keep_drewN|apply keep_drew|apply keep_alloc)|exact HK.out))) : w.heap.size ≤ gb294) : w0.heap.size ≤ gb294));have n6_ := Aside0.mk ((by rw [hg];exact Nat.ne_of_lt (IsS50.lt (show IsS50 w0 _ g s0_0 s0_1 from by repeat (first|(with_reducible first|exact HI0.out|apply IsS50.alloc|apply IsS50.drewN|apply IsS50.drew|apply IsS50.set_1)|exact HI0.out))) : g ≠ gb294));have n7_ := Aside0.mk ((by rw [hg];exact Nat.ne_of_gt (IsS50.lt (show IsS50 w0 _ g s0_0 s0_1 from by repeat (first|(with_reducible first|exact HI0.out|apply IsS50.alloc|apply IsS50.drewN|apply IsS50.drew|apply IsS50.set_1)|exact HI0.out))) : gb294 ≠ g));clear HI0;clear HK;clear HB;have HI0 := n0_;have HK := n1_;have HB := n2_;have BK294 := n3_;have GW294 := n4_;have GE294 := n5_;have NB0_294 := n6_;have NB294_0 := n7_;clear n0_ n1_ n2_ n3_ n4_ n5_ n6_ n7_;clear hb hbox hg)|((with_reducible refine gate_callee (f := 26) rfl ?_);refine goesL_ (some 10) rfl rfl Tryd.func26 (by kernel_rfl) rfl #[.pointer (some ⟨g, 0, none⟩), .string (⟨#[34]⟩ : ByteArray)] rfl (by (try simp only [List.map_toArray, List.map_cons, List.map_nil]);first|done|rfl|(simp only [List.length_drop, List.length_take];rfl)) ?_;(with_reducible refine (token_scanner_here.calls k g s0_0 s0_1 (⟨#[34]⟩ : ByteArray) true t296 w0 _ ?side1 ?side2 A2.out).mono ?_);(case side1 => repeat (first|(with_reducible first|exact HI0.out|apply IsS50.alloc|apply IsS50.drewN|apply IsS50.drew|apply IsS50.set_1|refine IsS50.far ?_ NB0_294.out _)|exact HI0.out));(case side2 => repeat (first|(with_reducible first|exact HB.out|apply below_alloc|apply pw_below_drewN|apply below_drew1|refine below_set ?_ (IsS50.ge HI0.out)|refine below_set ?_ GE294.out)|exact HB.out));rintro e w6 ⟨rfl, hi, hb, hk⟩;refine ⟨_, rfl, ?_⟩;have n0_ := Aside0.mk (KeepBut.blk hk (g' := gb294) (o := .cells #[.int .i64 0, .string (⟨#[]⟩ : ByteArray), .bool false, .slice none 0 0, .slice none 0 0, .int .i64 0] 33 (0, 0)) (by (with_reducible repeat (first|refine blk_drewN ?_ _|refine blk_drew ?_|refine blk_alloc ?_ _));exact BK294.out) NB294_0.out (by simp));have n1_ := Aside0.mk (KeepBut.trans (by repeat (first|(with_reducible first|exact HK.out|apply KeepBut.set_|apply keep_drewN|apply keep_drew|apply keep_alloc|refine keep_far ?_ GW294.out _)|exact HK.out)) hk (.inl rfl));have n2_ := Aside0.mk (hb);have n3_ := Aside0.mk (hi);clear BK294;clear HK;clear HB;clear HI0;have BK294 := n0_;have HK := n1_;have HB := n2_;have HI0 := n3_;clear n0_ n1_ n2_ n3_;(try clear hb);(try clear hb2);(try clear hk);(try clear hi);obtain ⟨ASz7_0, cSz7_0, HGz7, hgz7, ⟨HSz7_0, HCSz7_0⟩⟩ := HI0.out;have hcz7_0 := cellS50_0 HGz7;have hcz7_1 := cellS50_1 HGz7;have hfz7_1 := blk_frozen HGz7 1;have BKSz7 := Aside0.mk HGz7;clear HGz7 hgz7)|((with_reducible refine gate_callee (f := 37) rfl ?_);refine goesL_ (some 20) rfl rfl Tryd.func37 (by kernel_rfl) rfl #[.pointer (some ⟨g, 0, none⟩)] rfl (by (try simp only [List.map_toArray, List.map_cons, List.map_nil]);first|done|rfl|(simp only [List.length_drop, List.length_take];rfl)) ?_;(with_reducible refine (token_scanner_str.calls k g s0_0 (wrap64 (t296 + 1)) t297 t298 t299 w0 _ ?side1 ?side2 ?side3 A4.out).mono ?_);(case side1 => repeat (first|(with_reducible first|exact HI0.out|apply IsS50.alloc|apply IsS50.drewN|apply IsS50.drew|apply IsS50.set_1|refine IsS50.far ?_ NB0_294.out _)|exact HI0.out));(case side2 => repeat (first|(with_reducible first|exact HB.out|apply below_alloc|apply pw_below_drewN|apply below_drew1|refine below_set ?_ (IsS50.ge HI0.out)|refine below_set ?_ GE294.out)|exact HB.out));(case side3 => exact HLD.out);rintro e w8 ⟨rfl, hi, hb, hk⟩;refine ⟨_, rfl, ?_⟩;have n0_ := Aside0.mk (KeepBut.blk hk (g' := gb294) (o := .cells #[.int .i64 0, .string (⟨#[]⟩ : ByteArray), .bool false, .slice none 0 0, .slice none 0 0, .int .i64 0] 33 (0, 0)) (by (with_reducible repeat (first|refine blk_drewN ?_ _|refine blk_drew ?_|refine blk_alloc ?_ _));refine blk_far ?_ NB294_0.out _;(with_reducible repeat (first|refine blk_drewN ?_ _|refine blk_drew ?_|refine blk_alloc ?_ _));exact BK294.out) NB294_0.out (by simp));have n1_ := Aside0.mk (KeepBut.trans (by repeat (first|(with_reducible first|exact HK.out|apply KeepBut.set_|apply keep_drewN|apply keep_drew|apply keep_alloc|refine keep_far ?_ GW294.out _)|exact HK.out)) hk (.inl rfl));have n2_ := Aside0.mk (hb);have n3_ := Aside0.mk (hi);clear BK294;clear HK;clear HB;clear HI0;have BK294 := n0_;have HK := n1_;have HB := n2_;have HI0 := n3_;clear n0_ n1_ n2_ n3_;(try clear hb);(try clear hb2);(try clear hk);(try clear hi);have hnb9 := NB294_0.out;have hnc9 := NB0_294.out;have hcz10_0 : w8.cell? ⟨gb294, 0, none⟩ = some (.int .i64 0) := (blk_cell BK294.out 0).trans rfl;have hcz10_1 : w8.cell? ⟨gb294, 1, none⟩ = some (.string (⟨#[]⟩ : ByteArray)) := (blk_cell BK294.out 1).trans rfl;have hcz10_2 : w8.cell? ⟨gb294, 2, none⟩ = some (.bool false) := (blk_cell BK294.out 2).trans rfl;have hcz10_3 : w8.cell? ⟨gb294, 3, none⟩ = some (.slice none 0 0) := (blk_cell BK294.out 3).trans rfl;have hcz10_4 : w8.cell? ⟨gb294, 4, none⟩ = some (.slice none 0 0) := (blk_cell BK294.out 4).trans rfl;have hcz10_5 : w8.cell? ⟨gb294, 5, none⟩ = some (.int .i64 0) := (blk_cell BK294.out 5).trans rfl;have hfz10_0 := blk_frozen BK294.out 0;have hfz10_1 := blk_frozen BK294.out 1;have hfz10_2 := blk_frozen BK294.out 2;have hfz10_3 := blk_frozen BK294.out 3;have hfz10_4 := blk_frozen BK294.out 4;have hfz10_5 := blk_frozen BK294.out 5)|((with_reducible refine gate_store (t := 33) (p := 2) rfl ?_);refine store_event (t := 33) (p := 2) (v := ?vo_w11) (w1 := ((((((w8.setCell ⟨gb294, 0, none⟩ (.int .i64 5)).setCell ⟨gb294, 1, none⟩ (.string t297)).setCell ⟨gb294, 2, none⟩ (.bool false)).setCell ⟨gb294, 3, none⟩ (.slice none 0 0)).setCell ⟨gb294, 4, none⟩ (.slice none 0 0)).setCell ⟨gb294, 5, none⟩ (.int .i64 0))) ?hg ?ho ?hn ?hr ?_;(case ho => rfl);(case hg => rfl);(case hn => rfl);(case hr => first|(go_simp;done)|(go_simp;rfl));intro w11 hw;have n0_ : Aside0 (w11.heap[gb294]? = some (.cells #[.int .i64 5, .string t297, .bool false, .slice none 0 0, .slice none 0 0, .int .i64 0] 33 (0, 0))) := ⟨(by rw [hw];exact (by (with_reducible repeat (first|refine blk_drewN ?_ _|refine blk_drew ?_|refine blk_alloc ?_ _));refine blk_put (cs := #[.int .i64 5, .string t297, .bool false, .slice none 0 0, .slice none 0 0, .int .i64 0]) ?_ 5 _ rfl;(with_reducible repeat (first|refine blk_drewN ?_ _|refine blk_drew ?_|refine blk_alloc ?_ _));refine blk_put (cs := #[.int .i64 5, .string t297, .bool false, .slice none 0 0, .slice none 0 0, .int .i64 0]) ?_ 4 _ rfl;(with_reducible repeat (first|refine blk_drewN ?_ _|refine blk_drew ?_|refine blk_alloc ?_ _));refine blk_put (cs := #[.int .i64 5, .string t297, .bool false, .slice none 0 0, .slice none 0 0, .int .i64 0]) ?_ 3 _ rfl;(with_reducible repeat (first|refine blk_drewN ?_ _|refine blk_drew ?_|refine blk_alloc ?_ _));refine blk_put (cs := #[.int .i64 5, .string t297, .bool false, .slice none 0 0, .slice none 0 0, .int .i64 0]) ?_ 2 _ rfl;(with_reducible repeat (first|refine blk_drewN ?_ _|refine blk_drew ?_|refine blk_alloc ?_ _));refine blk_put (cs := #[.int .i64 5, .string (⟨#[]⟩ : ByteArray), .bool false, .slice none 0 0, .slice none 0 0, .int .i64 0]) ?_ 1 _ rfl;(with_reducible repeat (first|refine blk_drewN ?_ _|refine blk_drew ?_|refine blk_alloc ?_ _));refine blk_put (cs := #[.int .i64 0, .string (⟨#[]⟩ : ByteArray), .bool false, .slice none 0 0, .slice none 0 0, .int .i64 0]) ?_ 0 _ rfl;(with_reducible repeat (first|refine blk_drewN ?_ _|refine blk_drew ?_|refine blk_alloc ?_ _));exact BK294.out))⟩;have n1_ : Aside0 (IsS50 w0 w11 g s0_0 t299) := ⟨(by rw [hw];exact (by repeat (first|(with_reducible first|exact HI0.out|apply IsS50.alloc|apply IsS50.drewN|apply IsS50.drew|apply IsS50.set_1|refine IsS50.far ?_ NB0_294.out _)|exact HI0.out)))⟩;have n2_ : Aside0 (KeepBut w w11 g none) := ⟨(by rw [hw];exact (by repeat (first|(with_reducible first|exact HK.out|apply KeepBut.set_|apply keep_drewN|apply keep_drew|apply keep_alloc|refine keep_far ?_ GW294.out _)|exact HK.out)))⟩;have n3_ : Aside0 (Below w0.heap.size w0 w11) := ⟨(by rw [hw];exact (by repeat (first|(with_reducible first|exact HB.out|apply below_alloc|apply pw_below_drewN|apply below_drew1|refine below_set ?_ (IsS50.ge HI0.out)|refine below_set ?_ GE294.out)|exact HB.out)))⟩;clear hw;clear BK294;clear HI0;clear HK;clear HB;have BK294 := n0_;have HI0 := n1_;have HK := n2_;have HB := n3_;clear n0_ n1_ n2_ n3_))
  refine bodyPost_ret (results_ct rfl _ _ gb294 33 #[.int .i64 5, .string t297, .bool false, .slice none 0 0, .slice none 0 0, .int .i64 0] (0, 0) _ rfl (by (with_reducible repeat (first|refine blk_drewN ?_ _|refine blk_drew ?_|refine blk_alloc ?_ _));exact BK294.out) Tryd.underlying33 rfl (by kernel_rfl)) rfl ?_
  exact ⟨_, _, by first|rfl|(simp [errW_none, errW_some] <;> rfl)|(simp [*, errW_none, errW_some] <;> rfl), Kd.V_nil _ _ _ _ _, by first|exact Kd.R_nil _ _ _ _ _|exact Kd.N_nil _ _ _ _ _|exact Kd.V_nil _ _ _ _ _|exact Kd.Q_nil _ _ _ _ _|exact Kd.S_nil _ _ _ _ _, by repeat (first|(with_reducible first|exact HI0.out|apply IsS50.alloc|apply IsS50.drewN|apply IsS50.drew|apply IsS50.set_1|refine IsS50.far ?_ NB0_294.out _)|exact HI0.out), by repeat (first|(with_reducible first|exact HB.out|apply below_alloc|apply pw_below_drewN|apply below_drew1|refine below_set ?_ (IsS50.ge HI0.out)|refine below_set ?_ GE294.out)|exact HB.out), by repeat (first|(with_reducible first|exact HK.out|apply KeepBut.set_|apply keep_drewN|apply keep_drew|apply keep_alloc|refine keep_far ?_ GW294.out _)|exact HK.out)⟩
 ·replace c3 := Bool.eq_false_iff.mpr c3
  subst c3
  have H1 : ((token_scanner_here.f k s0_0 t296 (⟨#[35, 92]⟩ : ByteArray)).bind fun bt300 => (if bt300.1 = true then ((token_scanner_char.f k s0_0 (wrap64 (bt300.2 + 2))).bind fun bt302 => (some (6, bt302.1, false, ([] : List Int), ([] : List (S33)), 0, bt302.2.1, bt302.2.2))) else ((token_scanner_while.f k s0_0 bt300.2 0).bind fun bt305 => ((token_Atom.f k bt305.1).bind fun bt307 => (some (bt307.1, bt307.2.1, bt307.2.2.1, bt307.2.2.2.1, bt307.2.2.2.2.1, bt307.2.2.2.2.2.1, bt307.2.2.2.2.2.2, bt305.2)))))) = some (r1, r2, r3, r4, r5, r6, r7, r8) := by rw [if_neg (show ¬ (false = true) by decide)] at H; exact H
  clear H
  have H := H1
  clear H1
  replace H := Option.bind_eq_some_iff.mp H
  obtain ⟨⟨t300, t301⟩, A120, H⟩ := H
  replace H : (if t300 = true then ((token_scanner_char.f k s0_0 (wrap64 (t301 + 2))).bind fun bt302 => (some (6, bt302.1, false, ([] : List Int), ([] : List (S33)), 0, bt302.2.1, bt302.2.2))) else ((token_scanner_while.f k s0_0 t301 0).bind fun bt305 => ((token_Atom.f k bt305.1).bind fun bt307 => (some (bt307.1, bt307.2.1, bt307.2.2.1, bt307.2.2.2.1, bt307.2.2.2.2.1, bt307.2.2.2.2.2.1, bt307.2.2.2.2.2.2, bt305.2))))) = some (r1, r2, r3, r4, r5, r6, r7, r8) := H
  have A12 := Aside0.mk A120
  clear A120
  by_cases c13 : t300 = true
  ·subst c13
   have H1 : ((token_scanner_char.f k s0_0 (wrap64 (t301 + 2))).bind fun bt302 => (some (6, bt302.1, false, ([] : List Int), ([] : List (S33)), 0, bt302.2.1, bt302.2.2))) = some (r1, r2, r3, r4, r5, r6, r7, r8) := by rw [if_pos rfl] at H; exact H
   clear H
   have H := H1
   clear H1
   replace H := Option.bind_eq_some_iff.mp H
   obtain ⟨⟨t302, t303, t304⟩, A140, H⟩ := H
   replace H : (some (6, t302, false, ([] : List Int), ([] : List (S33)), 0, t303, t304)) = some (r1, r2, r3, r4, r5, r6, r7, r8) := H
   have A14 := Aside0.mk A140
   clear A140
   simp only [Option.some.injEq, Prod.mk.injEq] at H
   obtain ⟨rfl, rfl, rfl, rfl, rfl, rfl, rfl, rfl⟩ := H
   go_enter Tryd.func27, Tryd.ntmps27
   go_wp2_with (first|((with_reducible refine gate_dst (N := 2) rfl ?_);refine box_event ?hg (N := 2) ?hd (cs := #[.int .i64 0, .string (⟨#[]⟩ : ByteArray), .bool false, .slice none 0 0, .slice none 0 0, .int .i64 0]) (t := 33) ?hr ?_;(case hd => rfl);(case hg => rfl);(case hr => first|(go_simp;done)|(go_simp;rfl));intro gb294 hg w15 hbox hb;have n0_ := Aside0.mk (IsS50.below (by repeat (first|(with_reducible first|exact HI0.out|apply IsS50.alloc|apply IsS50.drewN|apply IsS50.drew|apply IsS50.set_1)|exact HI0.out)) hb);have n1_ := Aside0.mk (KeepBut.trans (by repeat (first|(with_reducible first|exact HK.out|apply KeepBut.set_|apply keep_drewN|apply keep_drew|apply keep_alloc)|exact HK.out)) (KeepBut.of_below hb g none) (.inl rfl));have n2_ := Aside0.mk (below_step (by repeat (first|(with_reducible first|exact HB.out|apply below_alloc|apply pw_below_drewN|apply below_drew1|refine below_set ?_ (IsS50.ge HI0.out))|exact HB.out)) hb);have n3_ := Aside0.mk (hbox);have n4_ := Aside0.mk ((by rw [hg];exact (keep_size (w := w) (g := g) (row := none) (by repeat (first|(with_reducible first|exact HK.out|apply KeepBut.set_|apply keep_drewN|apply keep_drew|apply keep_alloc)|exact HK.out))) : w.heap.size ≤ gb294));have n5_ := Aside0.mk ((Nat.le_trans HW0.out (by rw [hg];exact (keep_size (w := w) (g := g) (row := none) (by repeat (first|(with_reducible first|exact HK.out|apply KeepBut.set_|apply keep_drewN|apply keep_drew|apply keep_alloc)|exact HK.out))) : w.heap.size ≤ gb294) : w0.heap.size ≤ gb294));have n6_ := Aside0.mk ((by rw [hg];exact Nat.ne_of_lt (IsS50.lt (show IsS50 w0 _ g s0_0 s0_1 from by repeat (first|(with_reducible first|exact HI0.out|apply IsS50.alloc|apply IsS50.drewN|apply IsS50.drew|apply IsS50.set_1)|exact HI0.out))) : g ≠ gb294));have n7_ := Aside0.mk ((by rw [hg];exact Nat.ne_of_gt (IsS50.lt (show IsS50 w0 _ g s0_0 s0_1 from by repeat (first|(with_reducible first|exact HI0.out|apply IsS50.alloc|apply IsS50.drewN|apply IsS50.drew|apply IsS50.set_1)|exact HI0.out))) : gb294 ≠ g));clear HI0;clear HK;clear HB;have HI0 := n0_;have HK := n1_;have HB := n2_;have BK294 := n3_;have GW294 := n4_;have GE294 := n5_;have NB0_294 := n6_;have NB294_0 := n7_;clear n0_ n1_ n2_ n3_ n4_ n5_ n6_ n7_;clear hb hbox hg)|((with_reducible refine gate_callee (f := 26) rfl ?_);refine goesL_ (some 10) rfl rfl Tryd.func26 (by kernel_rfl) rfl #[.pointer (some ⟨g, 0, none⟩), .string (⟨#[34]⟩ : ByteArray)] rfl (by (try simp only [List.map_toArray, List.map_cons, List.map_nil]);first|done|rfl|(simp only [List.length_drop, List.length_take];rfl)) ?_;(with_reducible refine (token_scanner_here.calls k g s0_0 s0_1 (⟨#[34]⟩ : ByteArray) false t296 w0 _ ?side1 ?side2 A2.out).mono ?_);(case side1 => repeat (first|(with_reducible first|exact HI0.out|apply IsS50.alloc|apply IsS50.drewN|apply IsS50.drew|apply IsS50.set_1|refine IsS50.far ?_ NB0_294.out _)|exact HI0.out));(case side2 => repeat (first|(with_reducible first|exact HB.out|apply below_alloc|apply pw_below_drewN|apply below_drew1|refine below_set ?_ (IsS50.ge HI0.out)|refine below_set ?_ GE294.out)|exact HB.out));rintro e w16 ⟨rfl, hi, hb, hk⟩;refine ⟨_, rfl, ?_⟩;have n0_ := Aside0.mk (KeepBut.blk hk (g' := gb294) (o := .cells #[.int .i64 0, .string (⟨#[]⟩ : ByteArray), .bool false, .slice none 0 0, .slice none 0 0, .int .i64 0] 33 (0, 0)) (by (with_reducible repeat (first|refine blk_drewN ?_ _|refine blk_drew ?_|refine blk_alloc ?_ _));exact BK294.out) NB294_0.out (by simp));have n1_ := Aside0.mk (KeepBut.trans (by repeat (first|(with_reducible first|exact HK.out|apply KeepBut.set_|apply keep_drewN|apply keep_drew|apply keep_alloc|refine keep_far ?_ GW294.out _)|exact HK.out)) hk (.inl rfl));have n2_ := Aside0.mk (hb);have n3_ := Aside0.mk (hi);clear BK294;clear HK;clear HB;clear HI0;have BK294 := n0_;have HK := n1_;have HB := n2_;have HI0 := n3_;clear n0_ n1_ n2_ n3_;(try clear hb);(try clear hb2);(try clear hk);(try clear hi))|((with_reducible refine gate_callee (f := 26) rfl ?_);refine goesL_ (some 28) rfl rfl Tryd.func26 (by kernel_rfl) rfl #[.pointer (some ⟨g, 0, none⟩), .string (⟨#[35, 92]⟩ : ByteArray)] rfl (by (try simp only [List.map_toArray, List.map_cons, List.map_nil]);first|done|rfl|(simp only [List.length_drop, List.length_take];rfl)) ?_;(with_reducible refine (token_scanner_here.calls k g s0_0 t296 (⟨#[35, 92]⟩ : ByteArray) true t301 w0 _ ?side1 ?side2 A12.out).mono ?_);(case side1 => repeat (first|(with_reducible first|exact HI0.out|apply IsS50.alloc|apply IsS50.drewN|apply IsS50.drew|apply IsS50.set_1|refine IsS50.far ?_ NB0_294.out _)|exact HI0.out));(case side2 => repeat (first|(with_reducible first|exact HB.out|apply below_alloc|apply pw_below_drewN|apply below_drew1|refine below_set ?_ (IsS50.ge HI0.out)|refine below_set ?_ GE294.out)|exact HB.out));rintro e w17 ⟨rfl, hi, hb, hk⟩;refine ⟨_, rfl, ?_⟩;have n0_ := Aside0.mk (KeepBut.blk hk (g' := gb294) (o := .cells #[.int .i64 0, .string (⟨#[]⟩ : ByteArray), .bool false, .slice none 0 0, .slice none 0 0, .int .i64 0] 33 (0, 0)) (by (with_reducible repeat (first|refine blk_drewN ?_ _|refine blk_drew ?_|refine blk_alloc ?_ _));exact BK294.out) NB294_0.out (by simp));have n1_ := Aside0.mk (KeepBut.trans (by repeat (first|(with_reducible first|exact HK.out|apply KeepBut.set_|apply keep_drewN|apply keep_drew|apply keep_alloc|refine keep_far ?_ GW294.out _)|exact HK.out)) hk (.inl rfl));have n2_ := Aside0.mk (hb);have n3_ := Aside0.mk (hi);clear BK294;clear HK;clear HB;clear HI0;have BK294 := n0_;have HK := n1_;have HB := n2_;have HI0 := n3_;clear n0_ n1_ n2_ n3_;(try clear hb);(try clear hb2);(try clear hk);(try clear hi);obtain ⟨ASz18_0, cSz18_0, HGz18, hgz18, ⟨HSz18_0, HCSz18_0⟩⟩ := HI0.out;have hcz18_0 := cellS50_0 HGz18;have hcz18_1 := cellS50_1 HGz18;have hfz18_1 := blk_frozen HGz18 1;have BKSz18 := Aside0.mk HGz18;clear HGz18 hgz18)|((with_reducible refine gate_callee (f := 38) rfl ?_);refine goesL_ (some 38) rfl rfl Tryd.func38 (by kernel_rfl) rfl #[.pointer (some ⟨g, 0, none⟩)] rfl (by (try simp only [List.map_toArray, List.map_cons, List.map_nil]);first|done|rfl|(simp only [List.length_drop, List.length_take];rfl)) ?_;(with_reducible refine (token_scanner_char.calls k g s0_0 (wrap64 (t301 + 2)) t302 t303 t304 w0 _ ?side1 ?side2 ?side3 A14.out).mono ?_);(case side1 => repeat (first|(with_reducible first|exact HI0.out|apply IsS50.alloc|apply IsS50.drewN|apply IsS50.drew|apply IsS50.set_1|refine IsS50.far ?_ NB0_294.out _)|exact HI0.out));(case side2 => repeat (first|(with_reducible first|exact HB.out|apply below_alloc|apply pw_below_drewN|apply below_drew1|refine below_set ?_ (IsS50.ge HI0.out)|refine below_set ?_ GE294.out)|exact HB.out));(case side3 => exact HLD.out);rintro e w19 ⟨rfl, hi, hb, hk⟩;refine ⟨_, rfl, ?_⟩;have n0_ := Aside0.mk (KeepBut.blk hk (g' := gb294) (o := .cells #[.int .i64 0, .string (⟨#[]⟩ : ByteArray), .bool false, .slice none 0 0, .slice none 0 0, .int .i64 0] 33 (0, 0)) (by (with_reducible repeat (first|refine blk_drewN ?_ _|refine blk_drew ?_|refine blk_alloc ?_ _));refine blk_far ?_ NB294_0.out _;(with_reducible repeat (first|refine blk_drewN ?_ _|refine blk_drew ?_|refine blk_alloc ?_ _));exact BK294.out) NB294_0.out (by simp));have n1_ := Aside0.mk (KeepBut.trans (by repeat (first|(with_reducible first|exact HK.out|apply KeepBut.set_|apply keep_drewN|apply keep_drew|apply keep_alloc|refine keep_far ?_ GW294.out _)|exact HK.out)) hk (.inl rfl));have n2_ := Aside0.mk (hb);have n3_ := Aside0.mk (hi);clear BK294;clear HK;clear HB;clear HI0;have BK294 := n0_;have HK := n1_;have HB := n2_;have HI0 := n3_;clear n0_ n1_ n2_ n3_;(try clear hb);(try clear hb2);(try clear hk);(try clear hi);have hnb20 := NB294_0.out;have hnc20 := NB0_294.out;have hcz21_0 : w19.cell? ⟨gb294, 0, none⟩ = some (.int .i64 0) := (blk_cell BK294.out 0).trans rfl;have hcz21_1 : w19.cell? ⟨gb294, 1, none⟩ = some (.string (⟨#[]⟩ : ByteArray)) := (blk_cell BK294.out 1).trans rfl;have hcz21_2 : w19.cell? ⟨gb294, 2, none⟩ = some (.bool false) := (blk_cell BK294.out 2).trans rfl;have hcz21_3 : w19.cell? ⟨gb294, 3, none⟩ = some (.slice none 0 0) := (blk_cell BK294.out 3).trans rfl;have hcz21_4 : w19.cell? ⟨gb294, 4, none⟩ = some (.slice none 0 0) := (blk_cell BK294.out 4).trans rfl;have hcz21_5 : w19.cell? ⟨gb294, 5, none⟩ = some (.int .i64 0) := (blk_cell BK294.out 5).trans rfl;have hfz21_0 := blk_frozen BK294.out 0;have hfz21_1 := blk_frozen BK294.out 1;have hfz21_2 := blk_frozen BK294.out 2;have hfz21_3 := blk_frozen BK294.out 3;have hfz21_4 := blk_frozen BK294.out 4;have hfz21_5 := blk_frozen BK294.out 5)|((with_reducible refine gate_store (t := 33) (p := 2) rfl ?_);refine store_event (t := 33) (p := 2) (v := ?vo_w22) (w1 := ((((((w19.setCell ⟨gb294, 0, none⟩ (.int .i64 6)).setCell ⟨gb294, 1, none⟩ (.string t302)).setCell ⟨gb294, 2, none⟩ (.bool false)).setCell ⟨gb294, 3, none⟩ (.slice none 0 0)).setCell ⟨gb294, 4, none⟩ (.slice none 0 0)).setCell ⟨gb294, 5, none⟩ (.int .i64 0))) ?hg ?ho ?hn ?hr ?_;(case ho => rfl);(case hg => rfl);(case hn => rfl);(case hr => first|(go_simp;done)|(go_simp;rfl));intro w22 hw;have n0_ : Aside0 (w22.heap[gb294]? = some (.cells #[.int .i64 6, .string t302, .bool false, .slice none 0 0, .slice none 0 0, .int .i64 0] 33 (0, 0))) := ⟨(by rw [hw];exact (by (with_reducible repeat (first|refine blk_drewN ?_ _|refine blk_drew ?_|refine blk_alloc ?_ _));refine blk_put (cs := #[.int .i64 6, .string t302, .bool false, .slice none 0 0, .slice none 0 0, .int .i64 0]) ?_ 5 _ rfl;(with_reducible repeat (first|refine blk_drewN ?_ _|refine blk_drew ?_|refine blk_alloc ?_ _));refine blk_put (cs := #[.int .i64 6, .string t302, .bool false, .slice none 0 0, .slice none 0 0, .int .i64 0]) ?_ 4 _ rfl;(with_reducible repeat (first|refine blk_drewN ?_ _|refine blk_drew ?_|refine blk_alloc ?_ _));refine blk_put (cs := #[.int .i64 6, .string t302, .bool false, .slice none 0 0, .slice none 0 0, .int .i64 0]) ?_ 3 _ rfl;(with_reducible repeat (first|refine blk_drewN ?_ _|refine blk_drew ?_|refine blk_alloc ?_ _));refine blk_put (cs := #[.int .i64 6, .string t302, .bool false, .slice none 0 0, .slice none 0 0, .int .i64 0]) ?_ 2 _ rfl;(with_reducible repeat (first|refine blk_drewN ?_ _|refine blk_drew ?_|refine blk_alloc ?_ _));refine blk_put (cs := #[.int .i64 6, .string (⟨#[]⟩ : ByteArray), .bool false, .slice none 0 0, .slice none 0 0, .int .i64 0]) ?_ 1 _ rfl;(with_reducible repeat (first|refine blk_drewN ?_ _|refine blk_drew ?_|refine blk_alloc ?_ _));refine blk_put (cs := #[.int .i64 0, .string (⟨#[]⟩ : ByteArray), .bool false, .slice none 0 0, .slice none 0 0, .int .i64 0]) ?_ 0 _ rfl;(with_reducible repeat (first|refine blk_drewN ?_ _|refine blk_drew ?_|refine blk_alloc ?_ _));exact BK294.out))⟩;have n1_ : Aside0 (IsS50 w0 w22 g s0_0 t304) := ⟨(by rw [hw];exact (by repeat (first|(with_reducible first|exact HI0.out|apply IsS50.alloc|apply IsS50.drewN|apply IsS50.drew|apply IsS50.set_1|refine IsS50.far ?_ NB0_294.out _)|exact HI0.out)))⟩;have n2_ : Aside0 (KeepBut w w22 g none) := ⟨(by rw [hw];exact (by repeat (first|(with_reducible first|exact HK.out|apply KeepBut.set_|apply keep_drewN|apply keep_drew|apply keep_alloc|refine keep_far ?_ GW294.out _)|exact HK.out)))⟩;have n3_ : Aside0 (Below w0.heap.size w0 w22) := ⟨(by rw [hw];exact (by repeat (first|(with_reducible first|exact HB.out|apply below_alloc|apply pw_below_drewN|apply below_drew1|refine below_set ?_ (IsS50.ge HI0.out)|refine below_set ?_ GE294.out)|exact HB.out)))⟩;clear hw;clear BK294;clear HI0;clear HK;clear HB;have BK294 := n0_;have HI0 := n1_;have HK := n2_;have HB := n3_;clear n0_ n1_ n2_ n3_))
   refine bodyPost_ret (results_ct rfl _ _ gb294 33 #[.int .i64 6, .string t302, .bool false, .slice none 0 0, .slice none 0 0, .int .i64 0] (0, 0) _ rfl (by (with_reducible repeat (first|refine blk_drewN ?_ _|refine blk_drew ?_|refine blk_alloc ?_ _));exact BK294.out) Tryd.underlying33 rfl (by kernel_rfl)) rfl ?_
   exact ⟨_, _, by first|rfl|(simp [errW_none, errW_some] <;> rfl)|(simp [*, errW_none, errW_some] <;> rfl), Kd.V_nil _ _ _ _ _, by first|exact Kd.R_nil _ _ _ _ _|exact Kd.N_nil _ _ _ _ _|exact Kd.V_nil _ _ _ _ _|exact Kd.Q_nil _ _ _ _ _|exact Kd.S_nil _ _ _ _ _, by repeat (first|(with_reducible first|exact HI0.out|apply IsS50.alloc|apply IsS50.drewN|apply IsS50.drew|apply IsS50.set_1|refine IsS50.far ?_ NB0_294.out _)|exact HI0.out), by repeat (first|(with_reducible first|exact HB.out|apply below_alloc|apply pw_below_drewN|apply below_drew1|refine below_set ?_ (IsS50.ge HI0.out)|refine below_set ?_ GE294.out)|exact HB.out), by repeat (first|(with_reducible first|exact HK.out|apply KeepBut.set_|apply keep_drewN|apply keep_drew|apply keep_alloc|refine keep_far ?_ GW294.out _)|exact HK.out)⟩
  ·replace c13 := Bool.eq_false_iff.mpr c13
   subst c13
   have H1 : ((token_scanner_while.f k s0_0 t301 0).bind fun bt305 => ((token_Atom.f k bt305.1).bind fun bt307 => (some (bt307.1, bt307.2.1, bt307.2.2.1, bt307.2.2.2.1, bt307.2.2.2.2.1, bt307.2.2.2.2.2.1, bt307.2.2.2.2.2.2, bt305.2)))) = some (r1, r2, r3, r4, r5, r6, r7, r8) := by rw [if_neg (show ¬ (false = true) by decide)] at H; exact H
   clear H
   have H := H1
   clear H1
   replace H := Option.bind_eq_some_iff.mp H
   obtain ⟨⟨t305, t306⟩, A230, H⟩ := H
   replace H : ((token_Atom.f k t305).bind fun bt307 => (some (bt307.1, bt307.2.1, bt307.2.2.1, bt307.2.2.2.1, bt307.2.2.2.2.1, bt307.2.2.2.2.2.1, bt307.2.2.2.2.2.2, t306))) = some (r1, r2, r3, r4, r5, r6, r7, r8) := H
   have A23 := Aside0.mk A230
   clear A230
   replace H := Option.bind_eq_some_iff.mp H
   obtain ⟨⟨t307, t308, t309, t310, t313, t316, t317⟩, A240, H⟩ := H
   replace H : (some (t307, t308, t309, t310, t313, t316, t317, t306)) = some (r1, r2, r3, r4, r5, r6, r7, r8) := H
   have A24 := Aside0.mk A240
   clear A240
   simp only [Option.some.injEq, Prod.mk.injEq] at H
   obtain ⟨rfl, rfl, rfl, rfl, rfl, rfl, rfl, rfl⟩ := H
   go_enter Tryd.func27, Tryd.ntmps27
   go_wp2_with (first|((with_reducible refine gate_dst (N := 2) rfl ?_);refine box_event ?hg (N := 2) ?hd (cs := #[.int .i64 0, .string (⟨#[]⟩ : ByteArray), .bool false, .slice none 0 0, .slice none 0 0, .int .i64 0]) (t := 33) ?hr ?_;(case hd => rfl);(case hg => rfl);(case hr => first|(go_simp;done)|(go_simp;rfl));intro gb294 hg w25 hbox hb;have n0_ := Aside0.mk (IsS50.below (by repeat (first|(with_reducible first|exact HI0.out|apply IsS50.alloc|apply IsS50.drewN|apply IsS50.drew|apply IsS50.set_1)|exact HI0.out)) hb);have n1_ := Aside0.mk (KeepBut.trans (by repeat (first|(with_reducible first|exact HK.out|apply KeepBut.set_|apply keep_drewN|apply keep_drew|apply keep_alloc)|exact HK.out)) (KeepBut.of_below hb g none) (.inl rfl));have n2_ := Aside0.mk (below_step (by repeat (first|(with_reducible first|exact HB.out|apply below_alloc|apply pw_below_drewN|apply below_drew1|refine below_set ?_ (IsS50.ge HI0.out))|exact HB.out)) hb);have n3_ := Aside0.mk (hbox);have n4_ := Aside0.mk ((by rw [hg];exact (keep_size (w := w) (g := g) (row := none) (by repeat (first|(with_reducible first|exact HK.out|apply KeepBut.set_|apply keep_drewN|apply keep_drew|apply keep_alloc)|exact HK.out))) : w.heap.size ≤ gb294));have n5_ := Aside0.mk ((Nat.le_trans HW0.out (by rw [hg];exact (keep_size (w := w) (g := g) (row := none) (by repeat (first|(with_reducible first|exact HK.out|apply KeepBut.set_|apply keep_drewN|apply keep_drew|apply keep_alloc)|exact HK.out))) : w.heap.size ≤ gb294) : w0.heap.size ≤ gb294));have n6_ := Aside0.mk ((by rw [hg];exact Nat.ne_of_lt (IsS50.lt (show IsS50 w0 _ g s0_0 s0_1 from by repeat (first|(with_reducible first|exact HI0.out|apply IsS50.alloc|apply IsS50.drewN|apply IsS50.drew|apply IsS50.set_1)|exact HI0.out))) : g ≠ gb294));have n7_ := Aside0.mk ((by rw [hg];exact Nat.ne_of_gt (IsS50.lt (show IsS50 w0 _ g s0_0 s0_1 from by repeat (first|(with_reducible first|exact HI0.out|apply IsS50.alloc|apply IsS50.drewN|apply IsS50.drew|apply IsS50.set_1)|exact HI0.out))) : gb294 ≠ g));clear HI0;clear HK;clear HB;have HI0 := n0_;have HK := n1_;have HB := n2_;have BK294 := n3_;have GW294 := n4_;have GE294 := n5_;have NB0_294 := n6_;have NB294_0 := n7_;clear n0_ n1_ n2_ n3_ n4_ n5_ n6_ n7_;clear hb hbox hg)|((with_reducible refine gate_callee (f := 26) rfl ?_);refine goesL_ (some 10) rfl rfl Tryd.func26 (by kernel_rfl) rfl #[.pointer (some ⟨g, 0, none⟩), .string (⟨#[34]⟩ : ByteArray)] rfl (by (try simp only [List.map_toArray, List.map_cons, List.map_nil]);first|done|rfl|(simp only [List.length_drop, List.length_take];rfl)) ?_;(with_reducible refine (token_scanner_here.calls k g s0_0 s0_1 (⟨#[34]⟩ : ByteArray) false t296 w0 _ ?side1 ?side2 A2.out).mono ?_);(case side1 => repeat (first|(with_reducible first|exact HI0.out|apply IsS50.alloc|apply IsS50.drewN|apply IsS50.drew|apply IsS50.set_1|refine IsS50.far ?_ NB0_294.out _)|exact HI0.out));(case side2 => repeat (first|(with_reducible first|exact HB.out|apply below_alloc|apply pw_below_drewN|apply below_drew1|refine below_set ?_ (IsS50.ge HI0.out)|refine below_set ?_ GE294.out)|exact HB.out));rintro e w26 ⟨rfl, hi, hb, hk⟩;refine ⟨_, rfl, ?_⟩;have n0_ := Aside0.mk (KeepBut.blk hk (g' := gb294) (o := .cells #[.int .i64 0, .string (⟨#[]⟩ : ByteArray), .bool false, .slice none 0 0, .slice none 0 0, .int .i64 0] 33 (0, 0)) (by (with_reducible repeat (first|refine blk_drewN ?_ _|refine blk_drew ?_|refine blk_alloc ?_ _));exact BK294.out) NB294_0.out (by simp));have n1_ := Aside0.mk (KeepBut.trans (by repeat (first|(with_reducible first|exact HK.out|apply KeepBut.set_|apply keep_drewN|apply keep_drew|apply keep_alloc|refine keep_far ?_ GW294.out _)|exact HK.out)) hk (.inl rfl));have n2_ := Aside0.mk (hb);have n3_ := Aside0.mk (hi);clear BK294;clear HK;clear HB;clear HI0;have BK294 := n0_;have HK := n1_;have HB := n2_;have HI0 := n3_;clear n0_ n1_ n2_ n3_;(try clear hb);(try clear hb2);(try clear hk);(try clear hi))|((with_reducible refine gate_callee (f := 26) rfl ?_);refine goesL_ (some 28) rfl rfl Tryd.func26 (by kernel_rfl) rfl #[.pointer (some ⟨g, 0, none⟩), .string (⟨#[35, 92]⟩ : ByteArray)] rfl (by (try simp only [List.map_toArray, List.map_cons, List.map_nil]);first|done|rfl|(simp only [List.length_drop, List.length_take];rfl)) ?_;(with_reducible refine (token_scanner_here.calls k g s0_0 t296 (⟨#[35, 92]⟩ : ByteArray) false t301 w0 _ ?side1 ?side2 A12.out).mono ?_);(case side1 => repeat (first|(with_reducible first|exact HI0.out|apply IsS50.alloc|apply IsS50.drewN|apply IsS50.drew|apply IsS50.set_1|refine IsS50.far ?_ NB0_294.out _)|exact HI0.out));(case side2 => repeat (first|(with_reducible first|exact HB.out|apply below_alloc|apply pw_below_drewN|apply below_drew1|refine below_set ?_ (IsS50.ge HI0.out)|refine below_set ?_ GE294.out)|exact HB.out));rintro e w27 ⟨rfl, hi, hb, hk⟩;refine ⟨_, rfl, ?_⟩;have n0_ := Aside0.mk (KeepBut.blk hk (g' := gb294) (o := .cells #[.int .i64 0, .string (⟨#[]⟩ : ByteArray), .bool false, .slice none 0 0, .slice none 0 0, .int .i64 0] 33 (0, 0)) (by (with_reducible repeat (first|refine blk_drewN ?_ _|refine blk_drew ?_|refine blk_alloc ?_ _));exact BK294.out) NB294_0.out (by simp));have n1_ := Aside0.mk (KeepBut.trans (by repeat (first|(with_reducible first|exact HK.out|apply KeepBut.set_|apply keep_drewN|apply keep_drew|apply keep_alloc|refine keep_far ?_ GW294.out _)|exact HK.out)) hk (.inl rfl));have n2_ := Aside0.mk (hb);have n3_ := Aside0.mk (hi);clear BK294;clear HK;clear HB;clear HI0;have BK294 := n0_;have HK := n1_;have HB := n2_;have HI0 := n3_;clear n0_ n1_ n2_ n3_;(try clear hb);(try clear hb2);(try clear hk);(try clear hi))|((with_reducible refine gate_callee (f := 39) rfl ?_);refine goesL_ (some 45) rfl rfl Tryd.func39 (by kernel_rfl) rfl #[.pointer (some ⟨g, 0, none⟩), .int .i64 0] rfl (by (try simp only [List.map_toArray, List.map_cons, List.map_nil]);first|done|rfl|(simp only [List.length_drop, List.length_take];rfl)) ?_;(with_reducible refine (token_scanner_while.calls k g s0_0 t301 0 t305 t306 w0 _ ?side1 ?side2 A23.out).mono ?_);(case side1 => repeat (first|(with_reducible first|exact HI0.out|apply IsS50.alloc|apply IsS50.drewN|apply IsS50.drew|apply IsS50.set_1|refine IsS50.far ?_ NB0_294.out _)|exact HI0.out));(case side2 => repeat (first|(with_reducible first|exact HB.out|apply below_alloc|apply pw_below_drewN|apply below_drew1|refine below_set ?_ (IsS50.ge HI0.out)|refine below_set ?_ GE294.out)|exact HB.out));rintro e w28 ⟨rfl, hi, hb, hk⟩;refine ⟨_, rfl, ?_⟩;have n0_ := Aside0.mk (KeepBut.blk hk (g' := gb294) (o := .cells #[.int .i64 0, .string (⟨#[]⟩ : ByteArray), .bool false, .slice none 0 0, .slice none 0 0, .int .i64 0] 33 (0, 0)) (by (with_reducible repeat (first|refine blk_drewN ?_ _|refine blk_drew ?_|refine blk_alloc ?_ _));exact BK294.out) NB294_0.out (by simp));have n1_ := Aside0.mk (KeepBut.trans (by repeat (first|(with_reducible first|exact HK.out|apply KeepBut.set_|apply keep_drewN|apply keep_drew|apply keep_alloc|refine keep_far ?_ GW294.out _)|exact HK.out)) hk (.inl rfl));have n2_ := Aside0.mk (hb);have n3_ := Aside0.mk (hi);clear BK294;clear HK;clear HB;clear HI0;have BK294 := n0_;have HK := n1_;have HB := n2_;have HI0 := n3_;clear n0_ n1_ n2_ n3_;(try clear hb);(try clear hb2);(try clear hk);(try clear hi))|((with_reducible refine gate_callee (f := 6) rfl ?_);refine goesL_ (some 46) rfl rfl Tryd.func6 (by kernel_rfl) rfl #[.string t305] rfl (by (try simp only [List.map_toArray, List.map_cons, List.map_nil]);first|done|rfl|(simp only [List.length_drop, List.length_take];rfl)) ?_;(with_reducible refine (token_Atom.calls k t305 t307 t308 t309 t310 t313 t316 t317 _ ?side1 A24.out).mono ?_);(case side1 => exact LD.below HLD.out (by repeat (first|(with_reducible first|exact HB.out|apply below_alloc|apply pw_below_drewN|apply below_drew1|refine below_set ?_ (IsS50.ge HI0.out)|refine below_set ?_ GE294.out)|exact HB.out)));rintro e w29 ⟨v311, v314, rfl, ho0, ho1, hb⟩;refine ⟨_, rfl, ?_⟩;have n0_ := Aside0.mk (Kd.V_lower (Kd.V_mono (ok' := fun k_ => (w.heap.size ≤ k_) ∧ some k_ ≠ (v314 : Value).ownBlock ∧ k_ ≠ gb294 ∧ k_ ≠ g) ho0 (fun k_ hk_ => ⟨(Nat.le_trans (keep_size (w := w) (g := g) (row := none) (by repeat (first|(with_reducible first|exact HK.out|apply KeepBut.set_|apply keep_drewN|apply keep_drew|apply keep_alloc|refine keep_far ?_ GW294.out _)|exact HK.out))) hk_.1), hk_.2, (Kd.freshB (g := gb294) (o := .cells #[.int .i64 0, .string (⟨#[]⟩ : ByteArray), .bool false, .slice none 0 0, .slice none 0 0, .int .i64 0] 33 (0, 0)) (by (with_reducible repeat (first|refine blk_drewN ?_ _|refine blk_drew ?_|refine blk_alloc ?_ _));exact BK294.out) k_ hk_.1), (IsS50.fresh (by repeat (first|(with_reducible first|exact HI0.out|apply IsS50.alloc|apply IsS50.drewN|apply IsS50.drew|apply IsS50.set_1|refine IsS50.far ?_ NB0_294.out _)|exact HI0.out)) k_ hk_.1)⟩)) (keep_size (w := w) (g := g) (row := none) (by repeat (first|(with_reducible first|exact HK.out|apply KeepBut.set_|apply keep_drewN|apply keep_drew|apply keep_alloc|refine keep_far ?_ GW294.out _)|exact HK.out))));have n1_ := Aside0.mk (Kd.R_lower (Kd.R_newB (Kd.R_newM (M := fun k_ => (w.heap.size ≤ k_)) (Kd.R_mono (ok' := fun k_ => True) ho1 (fun _ hk_ => trivial)) (keep_size (w := w) (g := g) (row := none) (by repeat (first|(with_reducible first|exact HK.out|apply KeepBut.set_|apply keep_drewN|apply keep_drew|apply keep_alloc|refine keep_far ?_ GW294.out _)|exact HK.out))) (fun k_ h_ => h_)) (g := gb294) (o := .cells #[.int .i64 0, .string (⟨#[]⟩ : ByteArray), .bool false, .slice none 0 0, .slice none 0 0, .int .i64 0] 33 (0, 0)) (by (with_reducible repeat (first|refine blk_drewN ?_ _|refine blk_drew ?_|refine blk_alloc ?_ _));exact BK294.out)) (keep_size (w := w) (g := g) (row := none) (by repeat (first|(with_reducible first|exact HK.out|apply KeepBut.set_|apply keep_drewN|apply keep_drew|apply keep_alloc|refine keep_far ?_ GW294.out _)|exact HK.out))));have n2_ := Aside0.mk (IsS50.below (by repeat (first|(with_reducible first|exact HI0.out|apply IsS50.alloc|apply IsS50.drewN|apply IsS50.drew|apply IsS50.set_1|refine IsS50.far ?_ NB0_294.out _)|exact HI0.out)) hb);have n3_ := Aside0.mk (blk_below (g := gb294) (o := .cells #[.int .i64 0, .string (⟨#[]⟩ : ByteArray), .bool false, .slice none 0 0, .slice none 0 0, .int .i64 0] 33 (0, 0)) (by (with_reducible repeat (first|refine blk_drewN ?_ _|refine blk_drew ?_|refine blk_alloc ?_ _));exact BK294.out) hb);have n4_ := Aside0.mk (KeepBut.trans (by repeat (first|(with_reducible first|exact HK.out|apply KeepBut.set_|apply keep_drewN|apply keep_drew|apply keep_alloc|refine keep_far ?_ GW294.out _)|exact HK.out)) (KeepBut.of_below hb g none) (.inl rfl));have n5_ := Aside0.mk (below_step (by repeat (first|(with_reducible first|exact HB.out|apply below_alloc|apply pw_below_drewN|apply below_drew1|refine below_set ?_ (IsS50.ge HI0.out)|refine below_set ?_ GE294.out)|exact HB.out)) hb);clear HI0;clear BK294;clear HK;clear HB;have HO312 := n0_;have HO315 := n1_;have HI0 := n2_;have BK294 := n3_;have HK := n4_;have HB := n5_;clear n0_ n1_ n2_ n3_ n4_ n5_;(try clear hb);(try clear hb2);(try clear hk);(try clear hi);(try clear ho0);(try clear ho1);have hnb30 := NB294_0.out;have hnc30 := NB0_294.out;have hcz31_0 : w29.cell? ⟨gb294, 0, none⟩ = some (.int .i64 0) := (blk_cell BK294.out 0).trans rfl;have hcz31_1 : w29.cell? ⟨gb294, 1, none⟩ = some (.string (⟨#[]⟩ : ByteArray)) := (blk_cell BK294.out 1).trans rfl;have hcz31_2 : w29.cell? ⟨gb294, 2, none⟩ = some (.bool false) := (blk_cell BK294.out 2).trans rfl;have hcz31_3 : w29.cell? ⟨gb294, 3, none⟩ = some (.slice none 0 0) := (blk_cell BK294.out 3).trans rfl;have hcz31_4 : w29.cell? ⟨gb294, 4, none⟩ = some (.slice none 0 0) := (blk_cell BK294.out 4).trans rfl;have hcz31_5 : w29.cell? ⟨gb294, 5, none⟩ = some (.int .i64 0) := (blk_cell BK294.out 5).trans rfl;have hfz31_0 := blk_frozen BK294.out 0;have hfz31_1 := blk_frozen BK294.out 1;have hfz31_2 := blk_frozen BK294.out 2;have hfz31_3 := blk_frozen BK294.out 3;have hfz31_4 := blk_frozen BK294.out 4;have hfz31_5 := blk_frozen BK294.out 5;obtain ⟨Ao32, co32, eo32⟩ := Kd.V_slice HO312.out;subst eo32;obtain ⟨Ao33, co33, eo33⟩ := Kd.R_slice HO315.out;subst eo33)|((with_reducible refine gate_store (t := 33) (p := 2) rfl ?_);refine store_event (t := 33) (p := 2) (v := ?vo_w34) (w1 := ((((((w29.setCell ⟨gb294, 0, none⟩ (.int .i64 t307)).setCell ⟨gb294, 1, none⟩ (.string t308)).setCell ⟨gb294, 2, none⟩ (.bool t309)).setCell ⟨gb294, 3, none⟩ (.slice Ao32 t310.length co32)).setCell ⟨gb294, 4, none⟩ (.slice Ao33 t313.length co33)).setCell ⟨gb294, 5, none⟩ (.int .i64 t316))) ?hg ?ho ?hn ?hr ?_;(case ho => rfl);(case hg => rfl);(case hn => rfl);(case hr => first|(go_simp;done)|(go_simp;rfl));intro w34 hw;have n0_ : Aside0 (Kd.V (Kd.int .u32) 73 w34 w.heap.size (fun k_ => (w.heap.size ≤ k_) ∧ some k_ ≠ (.slice Ao33 t313.length co33 : Value).ownBlock ∧ k_ ≠ gb294 ∧ k_ ≠ g) (.slice Ao32 t310.length co32) t310) := ⟨(by rw [hw];exact (by (with_reducible repeat (first|apply Kd.V_alloc|apply Kd.V_drewN|apply Kd.V_drew));exact Kd.V_mono (Kd.V_far (p := ⟨gb294, 5, none⟩) (Kd.V_far (p := ⟨gb294, 4, none⟩) (Kd.V_far (p := ⟨gb294, 3, none⟩) (Kd.V_far (p := ⟨gb294, 2, none⟩) (Kd.V_far (p := ⟨gb294, 1, none⟩) (Kd.V_far (p := ⟨gb294, 0, none⟩) (Kd.V_mono HO312.out (fun k_ hk => (⟨hk, hk.2.2.1⟩ : _ ∧ k_ ≠ gb294))) (fun _ hk => hk.2) (.int .i64 t307)) (fun _ hk => hk.2) (.string t308)) (fun _ hk => hk.2) (.bool t309)) (fun _ hk => hk.2) (.slice Ao32 t310.length co32)) (fun _ hk => hk.2) (.slice Ao33 t313.length co33)) (fun _ hk => hk.2) (.int .i64 t316)) (fun _ hk => ⟨hk.1.1, ⟨hk.1.2.1, ⟨hk.1.2.2.1, hk.1.2.2.2⟩⟩⟩)))⟩;have n1_ : Aside0 (Kd.R k33 33 w34 w.heap.size (fun k_ => (w.heap.size ≤ k_) ∧ k_ ≠ gb294) (.slice Ao33 t313.length co33) t313) := ⟨(by rw [hw];exact (by (with_reducible repeat (first|apply Kd.R_alloc|apply Kd.R_drewN|apply Kd.R_drew));exact Kd.R_mono (Kd.R_far (p := ⟨gb294, 5, none⟩) (Kd.R_far (p := ⟨gb294, 4, none⟩) (Kd.R_far (p := ⟨gb294, 3, none⟩) (Kd.R_far (p := ⟨gb294, 2, none⟩) (Kd.R_far (p := ⟨gb294, 1, none⟩) (Kd.R_far (p := ⟨gb294, 0, none⟩) (Kd.R_mono HO315.out (fun k_ hk => (⟨hk, hk.2⟩ : _ ∧ k_ ≠ gb294))) (fun _ hk => hk.2) (.int .i64 t307)) (fun _ hk => hk.2) (.string t308)) (fun _ hk => hk.2) (.bool t309)) (fun _ hk => hk.2) (.slice Ao32 t310.length co32)) (fun _ hk => hk.2) (.slice Ao33 t313.length co33)) (fun _ hk => hk.2) (.int .i64 t316)) (fun _ hk => ⟨hk.1.1.1, hk.1.2⟩)))⟩;have n2_ : Aside0 (w34.heap[gb294]? = some (.cells #[.int .i64 t307, .string t308, .bool t309, .slice Ao32 t310.length co32, .slice Ao33 t313.length co33, .int .i64 t316] 33 (0, 0))) := ⟨(by rw [hw];exact (by (with_reducible repeat (first|refine blk_drewN ?_ _|refine blk_drew ?_|refine blk_alloc ?_ _));refine blk_put (cs := #[.int .i64 t307, .string t308, .bool t309, .slice Ao32 t310.length co32, .slice Ao33 t313.length co33, .int .i64 0]) ?_ 5 _ rfl;(with_reducible repeat (first|refine blk_drewN ?_ _|refine blk_drew ?_|refine blk_alloc ?_ _));refine blk_put (cs := #[.int .i64 t307, .string t308, .bool t309, .slice Ao32 t310.length co32, .slice none 0 0, .int .i64 0]) ?_ 4 _ rfl;(with_reducible repeat (first|refine blk_drewN ?_ _|refine blk_drew ?_|refine blk_alloc ?_ _));refine blk_put (cs := #[.int .i64 t307, .string t308, .bool t309, .slice none 0 0, .slice none 0 0, .int .i64 0]) ?_ 3 _ rfl;(with_reducible repeat (first|refine blk_drewN ?_ _|refine blk_drew ?_|refine blk_alloc ?_ _));refine blk_put (cs := #[.int .i64 t307, .string t308, .bool false, .slice none 0 0, .slice none 0 0, .int .i64 0]) ?_ 2 _ rfl;(with_reducible repeat (first|refine blk_drewN ?_ _|refine blk_drew ?_|refine blk_alloc ?_ _));refine blk_put (cs := #[.int .i64 t307, .string (⟨#[]⟩ : ByteArray), .bool false, .slice none 0 0, .slice none 0 0, .int .i64 0]) ?_ 1 _ rfl;(with_reducible repeat (first|refine blk_drewN ?_ _|refine blk_drew ?_|refine blk_alloc ?_ _));refine blk_put (cs := #[.int .i64 0, .string (⟨#[]⟩ : ByteArray), .bool false, .slice none 0 0, .slice none 0 0, .int .i64 0]) ?_ 0 _ rfl;(with_reducible repeat (first|refine blk_drewN ?_ _|refine blk_drew ?_|refine blk_alloc ?_ _));exact BK294.out))⟩;have n3_ : Aside0 (IsS50 w0 w34 g s0_0 t306) := ⟨(by rw [hw];exact (by repeat (first|(with_reducible first|exact HI0.out|apply IsS50.alloc|apply IsS50.drewN|apply IsS50.drew|apply IsS50.set_1|refine IsS50.far ?_ NB0_294.out _)|exact HI0.out)))⟩;have n4_ : Aside0 (KeepBut w w34 g none) := ⟨(by rw [hw];exact (by repeat (first|(with_reducible first|exact HK.out|apply KeepBut.set_|apply keep_drewN|apply keep_drew|apply keep_alloc|refine keep_far ?_ GW294.out _)|exact HK.out)))⟩;have n5_ : Aside0 (Below w0.heap.size w0 w34) := ⟨(by rw [hw];exact (by repeat (first|(with_reducible first|exact HB.out|apply below_alloc|apply pw_below_drewN|apply below_drew1|refine below_set ?_ (IsS50.ge HI0.out)|refine below_set ?_ GE294.out)|exact HB.out)))⟩;clear hw;clear HO312;clear HO315;clear BK294;clear HI0;clear HK;clear HB;have HO312 := n0_;have HO315 := n1_;have BK294 := n2_;have HI0 := n3_;have HK := n4_;have HB := n5_;clear n0_ n1_ n2_ n3_ n4_ n5_))
   refine bodyPost_ret (results_ct rfl _ _ gb294 33 #[.int .i64 t307, .string t308, .bool t309, .slice Ao32 t310.length co32, .slice Ao33 t313.length co33, .int .i64 t316] (0, 0) _ rfl (by (with_reducible repeat (first|refine blk_drewN ?_ _|refine blk_drew ?_|refine blk_alloc ?_ _));exact BK294.out) Tryd.underlying33 rfl (by kernel_rfl)) rfl ?_
   exact ⟨_, _, by first|rfl|(simp [errW_none, errW_some] <;> rfl)|(simp [*, errW_none, errW_some] <;> rfl), by (with_reducible repeat (first|apply Kd.V_alloc|apply Kd.V_drewN|apply Kd.V_drew));exact Kd.V_mono HO312.out (fun _ hk => ⟨hk.1, hk.2.1⟩), by (with_reducible repeat (first|apply Kd.R_alloc|apply Kd.R_drewN|apply Kd.R_drew));exact Kd.R_mono HO315.out (fun _ hk => hk.1), by repeat (first|(with_reducible first|exact HI0.out|apply IsS50.alloc|apply IsS50.drewN|apply IsS50.drew|apply IsS50.set_1|refine IsS50.far ?_ NB0_294.out _)|exact HI0.out), by repeat (first|(with_reducible first|exact HB.out|apply below_alloc|apply pw_below_drewN|apply below_drew1|refine below_set ?_ (IsS50.ge HI0.out)|refine below_set ?_ GE294.out)|exact HB.out), by repeat (first|(with_reducible first|exact HK.out|apply KeepBut.set_|apply keep_drewN|apply keep_drew|apply keep_alloc|refine keep_far ?_ GW294.out _)|exact HK.out)⟩
end Go.Proofs.YtefefpkgiecikaaDoor.P
namespace Go.Proofs.YtefefpkgiecikaaDoor.P
open Go.RowKit Go.Proofs.YtefefpkgiecikaaDoorW.PrintWords Go.Proofs.YtefefpkgiecikaaDoorW.PrintLast Go.Proofs.YtefefpkgiecikaaDoorW.PrintMore
attribute [local go_sem] max2_int min2_int max_two min_two max_three min_three max_four min_four
set_option linter.unusedVariables false
set_option linter.unusedSimpArgs false
mutual
def token_scanner_next.l0 : Nat → Int → Int → List Int → Int → Option (Int × ByteArray × Int × ByteArray × Bool × List Int × (List (S33)) × Int × Int × Int)
 | 0, _, _, _, _ => none
 | k + 1, x3, x13, x1000, x1001 => if x13 < 12 then (if 0 ≤ x13 then ((token_scanner_here.f k x1000 x1001 (token_signs_0 x13)).bind fun bt320 => (if bt320.1 = true then (some (token_signs_1 x13, token_signs_2 x13, 0, (⟨#[]⟩ : ByteArray), false, ([] : List Int), ([] : List (S33)), 0, x3, wrap64 (bt320.2 + ((token_signs_0 x13).size : Int)))) else (token_scanner_next.l0 k x3 (wrap64 (x13 + 1)) x1000 bt320.2))) else (none)) else ((token_scanner_peek.f x1000 x1001 0).bind fun bt322 => (if bt322.1 = 46 then ((token_scanner_left.f x1000 bt322.2 2).bind fun bt324 => (if bt324.1 = true then ((token_scanner_peek.f x1000 bt324.2 1).bind fun bt326 => ((utf_Ends.f bt326.1).bind fun t328 => (token_scanner_next.j1 k x3 t328 x1000 bt326.2))) else (token_scanner_next.j1 k x3 true x1000 bt324.2))) else (token_scanner_next.j1 k x3 false x1000 bt322.2)))
def token_scanner_next.j1 : Nat → Int → Bool → List Int → Int → Option (Int × ByteArray × Int × ByteArray × Bool × List Int × (List (S33)) × Int × Int × Int)
 | 0, _, _, _, _ => none
 | k + 1, x3, x49, x1000, x1001 => if x49 = true then (some (4, (⟨#[]⟩ : ByteArray), 0, (⟨#[]⟩ : ByteArray), false, ([] : List Int), ([] : List (S33)), 0, x3, wrap64 (x1001 + 1))) else ((token_scanner_datum.f k x1000 x1001).bind fun bt329 => (if bt329.2.2.2.2.2.2.1 = true then (some (7, (⟨#[]⟩ : ByteArray), bt329.1, bt329.2.1, bt329.2.2.1, bt329.2.2.2.1, bt329.2.2.2.2.1, x3, x3, bt329.2.2.2.2.2.2.2)) else (none)))
end
def token_scanner_next.f (k : Nat) (s0_0 : List Int) (s0_1 : Int) : Option (Int × ByteArray × Int × ByteArray × Bool × List Int × (List (S33)) × Int × Int × Int) := token_scanner_next.l0 k s0_1 0 s0_0 s0_1
theorem token_scanner_next.mono_l : ∀ k, (∀ y0 y1 y2 y3, LeO (token_scanner_next.l0 k y0 y1 y2 y3) (token_scanner_next.l0 (k + 1) y0 y1 y2 y3)) ∧ (∀ y0 y1 y2 y3, LeO (token_scanner_next.j1 k y0 y1 y2 y3) (token_scanner_next.j1 (k + 1) y0 y1 y2 y3))
 | 0 => ⟨fun _ _ _ _ r h => by simp [token_scanner_next.l0] at h, fun _ _ _ _ r h => by simp [token_scanner_next.j1] at h⟩
 | k + 1 => by
  obtain ⟨ih0, ih1⟩ := token_scanner_next.mono_l k
  refine ⟨?_, ?_⟩
  ·intro y0 y1 y2 y3
   unfold token_scanner_next.l0
   repeat' first
   | (with_reducible exact ih0 _ _ _ _)
   | (with_reducible exact ih1 _ _ _ _)
   | (with_reducible exact token_scanner_datum.mono _ _ _)
   | (with_reducible exact token_scanner_here.mono _ _ _ _)
   | (with_reducible exact LeO.refl _)
   | (with_reducible exact LeO.none _)
   | (with_reducible refine LeO.ite ?_ ?_)
   | (with_reducible refine LeO.bind ?_ (fun _ => ?_))
   | exact ih0 _ _ _ _
   | exact ih1 _ _ _ _
   | exact token_scanner_datum.mono _ _ _
   | exact token_scanner_here.mono _ _ _ _
   | exact LeO.none _
   | refine LeO.ite ?_ ?_
   | refine LeO.bind ?_ (fun _ => ?_)
  ·intro y0 y1 y2 y3
   unfold token_scanner_next.j1
   repeat' first
   | (with_reducible exact ih0 _ _ _ _)
   | (with_reducible exact ih1 _ _ _ _)
   | (with_reducible exact token_scanner_datum.mono _ _ _)
   | (with_reducible exact token_scanner_here.mono _ _ _ _)
   | (with_reducible exact LeO.refl _)
   | (with_reducible exact LeO.none _)
   | (with_reducible refine LeO.ite ?_ ?_)
   | (with_reducible refine LeO.bind ?_ (fun _ => ?_))
   | exact ih0 _ _ _ _
   | exact ih1 _ _ _ _
   | exact token_scanner_datum.mono _ _ _
   | exact token_scanner_here.mono _ _ _ _
   | exact LeO.none _
   | refine LeO.ite ?_ ?_
   | refine LeO.bind ?_ (fun _ => ?_)
theorem token_scanner_next.mono : ∀ a0 a1 k, LeO (token_scanner_next.f k a0 a1) (token_scanner_next.f (k + 1) a0 a1) := by
 intro a0 a1 k
 obtain ⟨ih0, ih1⟩ := token_scanner_next.mono_l k
 unfold token_scanner_next.f
 repeat' first
   | (with_reducible exact ih0 _ _ _ _)
   | (with_reducible exact ih1 _ _ _ _)
   | (with_reducible exact token_scanner_datum.mono _ _ _)
   | (with_reducible exact token_scanner_here.mono _ _ _ _)
   | (with_reducible exact LeO.refl _)
   | (with_reducible exact LeO.none _)
   | (with_reducible refine LeO.ite ?_ ?_)
   | (with_reducible refine LeO.bind ?_ (fun _ => ?_))
   | exact ih0 _ _ _ _
   | exact ih1 _ _ _ _
   | exact token_scanner_datum.mono _ _ _
   | exact token_scanner_here.mono _ _ _ _
   | exact LeO.none _
   | refine LeO.ite ?_ ?_
   | refine LeO.bind ?_ (fun _ => ?_)
def token_scanner_next.T6 : Bool × List (List Nat × List Nat) := (true, [([], []), ([0], [0]), ([1], [1]), ([2], [2]), ([], []), ([4], [4]), ([5], [5]), ([3, 6], [3, 6]), ([0, 0, 1, 2, 3, 4, 5, 6, 7], [0]), ([8, 0, 1, 2, 3, 4, 5, 6, 7], [8]), ([9, 7, 0, 1, 2, 3, 4, 5, 6, 7], [7, 9])])
def token_scanner_next.B6 : List Nat := [0, 1, 3, 7, 0, 16, 48, 127, 255, 511, 1023]
theorem token_scanner_next.tab6 : rtab .any (opsOf Tryd.f15 6) = token_scanner_next.T6 := by kernel_rfl
theorem token_scanner_next.bits6 : waitsOk token_scanner_next.T6.2 token_scanner_next.B6 = true := by kernel_rfl
set_option maxHeartbeats 8000000 in
set_option maxRecDepth 100000 in
theorem token_scanner_next.calls (k : Nat) (g : Nat) (s0_0 : List Int) (s0_1 : Int) (r1 : Int) (r2 : ByteArray) (r3 : Int) (r4 : ByteArray) (r5 : Bool) (r6 : List Int) (r7 : List (S33)) (r8 : Int) (r9 : Int) (r10 : Int) (w0 w : World) (hI : IsS50 w0 w g s0_0 s0_1) (hB : Below w0.heap.size w0 w) (hLD : LD w0) (h : token_scanner_next.f k s0_0 s0_1 = some (r1, r2, r3, r4, r5, r6, r7, r8, r9, r10)) :
  Calls Tryd.prog 15 #[.pointer (some ⟨g, 0, none⟩)] w fun e w' => ∃ v5_ v6_ : Value, e = .returned (.agg #[.int .i64 r1, .string r2, .int .i64 r3, .string r4, .bool r5, v5_, v6_, .int .i64 r8, .int .i64 r9]) ∧ Kd.V (Kd.int .u32) 73 w' w.heap.size (fun k_ => (w.heap.size ≤ k_) ∧ some k_ ≠ (v6_ : Value).ownBlock) v5_ r6 ∧ Kd.R k33 33 w' w.heap.size (fun k_ => (w.heap.size ≤ k_)) v6_ r7 ∧ IsS50 w0 w' g s0_0 r10 ∧ Below w0.heap.size w0 w' ∧ KeepBut w w' g none := by
 have hu38 := Tryd.underlying38
 have hu64 := Tryd.underlying64
 have hu33 := Tryd.underlying33
 have hu46 := Tryd.underlying46
 have HI0 := Aside0.mk hI
 have HK := Aside0.mk (KeepBut.refl w g none)
 have HL := Aside0.mk hB.size
 clear hI
 have HLD := Aside0.mk hLD
 clear hLD
 have HW0 := Aside0.mk hB.size
 have HB := Aside0.mk hB
 clear hB
 have H : (token_scanner_next.l0 k s0_1 0 s0_0 s0_1) = some (r1, r2, r3, r4, r5, r6, r7, r8, r9, r10) := h
 clear h
 have H' := Aside0.mk H
 clear H
 go_enter Tryd.func15, Tryd.ntmps15
 go_wp2_with (first|((with_reducible refine gate_dst (N := 2) rfl ?_);refine box_event ?hg (N := 2) ?hd (cs := #[.int .i64 0, .string (⟨#[]⟩ : ByteArray), .int .i64 0, .string (⟨#[]⟩ : ByteArray), .bool false, .slice none 0 0, .slice none 0 0, .int .i64 0, .int .i64 0]) (t := 38) ?hr ?_;(case hd => rfl);(case hg => rfl);(case hr => first|(go_simp;done)|(go_simp;rfl));intro gb318 hg w2 hbox hb;have n0_ := Aside0.mk (IsS50.below (by repeat (first|(with_reducible first|exact HI0.out|apply IsS50.alloc|apply IsS50.drewN|apply IsS50.drew|apply IsS50.set_1)|exact HI0.out)) hb);have n1_ := Aside0.mk (KeepBut.trans (by repeat (first|(with_reducible first|exact HK.out|apply KeepBut.set_|apply keep_drewN|apply keep_drew|apply keep_alloc)|exact HK.out)) (KeepBut.of_below hb g none) (.inl rfl));have n2_ := Aside0.mk (below_step (by repeat (first|(with_reducible first|exact HB.out|apply below_alloc|apply pw_below_drewN|apply below_drew1|refine below_set ?_ (IsS50.ge HI0.out))|exact HB.out)) hb);have n3_ := Aside0.mk (hbox);have n4_ := Aside0.mk ((by rw [hg];exact (keep_size (w := w) (g := g) (row := none) (by repeat (first|(with_reducible first|exact HK.out|apply KeepBut.set_|apply keep_drewN|apply keep_drew|apply keep_alloc)|exact HK.out))) : w.heap.size ≤ gb318));have n5_ := Aside0.mk ((Nat.le_trans HW0.out (by rw [hg];exact (keep_size (w := w) (g := g) (row := none) (by repeat (first|(with_reducible first|exact HK.out|apply KeepBut.set_|apply keep_drewN|apply keep_drew|apply keep_alloc)|exact HK.out))) : w.heap.size ≤ gb318) : w0.heap.size ≤ gb318));have n6_ := Aside0.mk ((by rw [hg];exact Nat.ne_of_lt (IsS50.lt (show IsS50 w0 _ g s0_0 s0_1 from by repeat (first|(with_reducible first|exact HI0.out|apply IsS50.alloc|apply IsS50.drewN|apply IsS50.drew|apply IsS50.set_1)|exact HI0.out))) : g ≠ gb318));have n7_ := Aside0.mk ((by rw [hg];exact Nat.ne_of_gt (IsS50.lt (show IsS50 w0 _ g s0_0 s0_1 from by repeat (first|(with_reducible first|exact HI0.out|apply IsS50.alloc|apply IsS50.drewN|apply IsS50.drew|apply IsS50.set_1)|exact HI0.out))) : gb318 ≠ g));clear HI0;clear HK;clear HB;have HI0 := n0_;have HK := n1_;have HB := n2_;have BK318 := n3_;have GW318 := n4_;have GE318 := n5_;have NB0_318 := n6_;have NB318_0 := n7_;clear n0_ n1_ n2_ n3_ n4_ n5_ n6_ n7_;clear hb hbox hg;obtain ⟨ASz3_0, cSz3_0, HGz3, hgz3, ⟨HSz3_0, HCSz3_0⟩⟩ := HI0.out;have hcz3_0 := cellS50_0 HGz3;have hcz3_1 := cellS50_1 HGz3;have hfz3_1 := blk_frozen HGz3 1;have BKSz3 := Aside0.mk HGz3;clear HGz3 hgz3)|((with_reducible refine gate_dst (N := 12) rfl ?_);refine LD.load_token_signs (LD.below HLD.out (by repeat (first|(with_reducible first|exact HB.out|apply below_alloc|apply pw_below_drewN|apply below_drew1|refine below_set ?_ (IsS50.ge HI0.out)|refine below_set ?_ GE318.out)|exact HB.out))) rfl rfl ?_))
 go_loopg [13] k (fun kq v13 w' => ∃ (x13_1 : Int) (x1001_1 : Int) (x319000_1 : Int) (x319001_1 : ByteArray) (x319002_1 : Int) (x319003_1 : ByteArray) (x319004_1 : Bool) (x319007_1 : Int) (x319008_1 : Int), v13 = .int .i64 x13_1 ∧ Aside0 (token_scanner_next.l0 kq s0_1 x13_1 s0_0 x1001_1 = some (r1, r2, r3, r4, r5, r6, r7, r8, r9, r10)) ∧ Aside0 (kq ≤ k) ∧ Aside0 (w'.heap[gb318]? = some (.cells #[.int .i64 x319000_1, .string x319001_1, .int .i64 x319002_1, .string x319003_1, .bool x319004_1, (.slice none 0 0), (.slice none 0 0), .int .i64 x319007_1, .int .i64 x319008_1] 38 (0, 0))) ∧ Aside0 (IsS50 w0 w' g s0_0 x1001_1) ∧ Aside0 (KeepBut w w' g none) ∧ Aside0 (Below w0.heap.size w0 w'))
 case atStart => exact ⟨(0), (s0_1), (0), ((⟨#[]⟩ : ByteArray)), (0), ((⟨#[]⟩ : ByteArray)), (false), (0), (0), (by first|rfl|(simp;done)|(simp [*];done)), H', ⟨Nat.le_refl _⟩, ⟨by (with_reducible repeat (first|refine blk_drewN ?_ _|refine blk_drew ?_|refine blk_alloc ?_ _));exact BK318.out⟩, ⟨by repeat (first|(with_reducible first|exact HI0.out|apply IsS50.alloc|apply IsS50.drewN|apply IsS50.drew|apply IsS50.set_1|refine IsS50.far ?_ NB0_318.out _)|exact HI0.out)⟩, ⟨by repeat (first|(with_reducible first|exact HK.out|apply KeepBut.set_|apply keep_drewN|apply keep_drew|apply keep_alloc|refine keep_far ?_ GW318.out _)|exact HK.out)⟩, ⟨by repeat (first|(with_reducible first|exact HB.out|apply below_alloc|apply pw_below_drewN|apply below_drew1|refine below_set ?_ (IsS50.ge HI0.out)|refine below_set ?_ GE318.out)|exact HB.out)⟩⟩
 case round =>
  clear H'
  try clear c1
  try clear p2
  try clear hcz3_0
  try clear hcz3_1
  try clear hfz3_1
  obtain ⟨x13_1, x1001_1, x319000_1, x319001_1, x319002_1, x319003_1, x319004_1, x319007_1, x319008_1, rfl, HA, HK1, BK318, HI0, HK, HB⟩ := hrel
  cases gk with
  | zero => exact absurd HA.out (by simp [token_scanner_next.l0])
  | succ k1 =>
   have H := HA.out
   clear HA
   simp only [token_scanner_next.l0] at H
   by_cases c4 : x13_1 < 12
   ·rw [if_pos c4] at H
    have c4b0 : decide (x13_1 < 12) = true := decide_eq_true c4
    clear c4
    by_cases c5 : 0 ≤ x13_1
    ·rw [if_pos c5] at H
     have c5b0 : decide (0 ≤ x13_1) = true := decide_eq_true c5
     clear c5
     replace H := Option.bind_eq_some_iff.mp H
     obtain ⟨⟨t320, t321⟩, A60, H⟩ := H
     replace H : (if t320 = true then (some (token_signs_1 x13_1, token_signs_2 x13_1, 0, (⟨#[]⟩ : ByteArray), false, ([] : List Int), ([] : List (S33)), 0, s0_1, wrap64 (t321 + ((token_signs_0 x13_1).size : Int)))) else (token_scanner_next.l0 k1 s0_1 (wrap64 (x13_1 + 1)) s0_0 t321)) = some (r1, r2, r3, r4, r5, r6, r7, r8, r9, r10) := H
     have A6 := Aside0.mk A60
     clear A60
     by_cases c7 : t320 = true
     ·subst c7
      have H1 : (some (token_signs_1 x13_1, token_signs_2 x13_1, 0, (⟨#[]⟩ : ByteArray), false, ([] : List Int), ([] : List (S33)), 0, s0_1, wrap64 (t321 + ((token_signs_0 x13_1).size : Int)))) = some (r1, r2, r3, r4, r5, r6, r7, r8, r9, r10) := by rw [if_pos rfl] at H; exact H
      clear H
      have H := H1
      clear H1
      simp only [Option.some.injEq, Prod.mk.injEq] at H
      obtain ⟨rfl, rfl, rfl, rfl, rfl, rfl, rfl, rfl, rfl, rfl⟩ := H
      have hgi8 := token_signs_at x13_1 (of_decide_eq_true (by first | (with_reducible assumption) | assumption)) (of_decide_eq_true (by first | (with_reducible assumption) | assumption))
      try go_wp2_with (first|((with_reducible refine gate_dst (N := 5) rfl ?_);refine box_event ?hg (N := 5) ?hd (cs := #[.string (⟨#[]⟩ : ByteArray), .int .i64 0, .string (⟨#[]⟩ : ByteArray)]) (t := 64) ?hr ?_;(case hd => rfl);(case hg => rfl);(case hr => first|(go_simp;done)|(go_simp;rfl));intro gb319 hg w9 hbox hb;have n0_ := Aside0.mk (blk_below (g := gb318) (o := .cells #[.int .i64 x319000_1, .string x319001_1, .int .i64 x319002_1, .string x319003_1, .bool x319004_1, .slice none 0 0, .slice none 0 0, .int .i64 x319007_1, .int .i64 x319008_1] 38 (0, 0)) (by (with_reducible repeat (first|refine blk_drewN ?_ _|refine blk_drew ?_|refine blk_alloc ?_ _));exact BK318.out) hb);have n1_ := Aside0.mk (IsS50.below (by repeat (first|(with_reducible first|exact HI0.out|apply IsS50.alloc|apply IsS50.drewN|apply IsS50.drew|apply IsS50.set_1|refine IsS50.far ?_ NB0_318.out _)|exact HI0.out)) hb);have n2_ := Aside0.mk (KeepBut.trans (by repeat (first|(with_reducible first|exact HK.out|apply KeepBut.set_|apply keep_drewN|apply keep_drew|apply keep_alloc|refine keep_far ?_ GW318.out _)|exact HK.out)) (KeepBut.of_below hb g none) (.inl rfl));have n3_ := Aside0.mk (below_step (by repeat (first|(with_reducible first|exact HB.out|apply below_alloc|apply pw_below_drewN|apply below_drew1|refine below_set ?_ (IsS50.ge HI0.out)|refine below_set ?_ GE318.out)|exact HB.out)) hb);have n4_ := Aside0.mk (hbox);have n5_ := Aside0.mk ((by rw [hg];exact (keep_size (w := w) (g := g) (row := none) (by repeat (first|(with_reducible first|exact HK.out|apply KeepBut.set_|apply keep_drewN|apply keep_drew|apply keep_alloc|refine keep_far ?_ GW318.out _)|exact HK.out))) : w.heap.size ≤ gb319));have n6_ := Aside0.mk ((Nat.le_trans HW0.out (by rw [hg];exact (keep_size (w := w) (g := g) (row := none) (by repeat (first|(with_reducible first|exact HK.out|apply KeepBut.set_|apply keep_drewN|apply keep_drew|apply keep_alloc|refine keep_far ?_ GW318.out _)|exact HK.out))) : w.heap.size ≤ gb319) : w0.heap.size ≤ gb319));have n7_ := Aside0.mk ((by rw [hg];exact Nat.ne_of_lt (blk_lt (g := gb318) (o := .cells #[.int .i64 x319000_1, .string x319001_1, .int .i64 x319002_1, .string x319003_1, .bool x319004_1, .slice none 0 0, .slice none 0 0, .int .i64 x319007_1, .int .i64 x319008_1] 38 (0, 0)) (by (with_reducible repeat (first|refine blk_drewN ?_ _|refine blk_drew ?_|refine blk_alloc ?_ _));exact BK318.out)) : gb318 ≠ gb319));have n8_ := Aside0.mk ((by rw [hg];exact Nat.ne_of_gt (blk_lt (g := gb318) (o := .cells #[.int .i64 x319000_1, .string x319001_1, .int .i64 x319002_1, .string x319003_1, .bool x319004_1, .slice none 0 0, .slice none 0 0, .int .i64 x319007_1, .int .i64 x319008_1] 38 (0, 0)) (by (with_reducible repeat (first|refine blk_drewN ?_ _|refine blk_drew ?_|refine blk_alloc ?_ _));exact BK318.out)) : gb319 ≠ gb318));have n9_ := Aside0.mk ((by rw [hg];exact Nat.ne_of_lt (IsS50.lt (show IsS50 w0 _ g s0_0 x1001_1 from by repeat (first|(with_reducible first|exact HI0.out|apply IsS50.alloc|apply IsS50.drewN|apply IsS50.drew|apply IsS50.set_1|refine IsS50.far ?_ NB0_318.out _)|exact HI0.out))) : g ≠ gb319));have n10_ := Aside0.mk ((by rw [hg];exact Nat.ne_of_gt (IsS50.lt (show IsS50 w0 _ g s0_0 x1001_1 from by repeat (first|(with_reducible first|exact HI0.out|apply IsS50.alloc|apply IsS50.drewN|apply IsS50.drew|apply IsS50.set_1|refine IsS50.far ?_ NB0_318.out _)|exact HI0.out))) : gb319 ≠ g));clear BK318;clear HI0;clear HK;clear HB;have BK318 := n0_;have HI0 := n1_;have HK := n2_;have HB := n3_;have BK319 := n4_;have GW319 := n5_;have GE319 := n6_;have NB318_319 := n7_;have NB319_318 := n8_;have NB0_319 := n9_;have NB319_0 := n10_;clear n0_ n1_ n2_ n3_ n4_ n5_ n6_ n7_ n8_ n9_ n10_;clear hb hbox hg;have hnb10 := NB319_318.out;have hnc10 := NB318_319.out;have hnb11 := NB319_0.out;have hnc11 := NB0_319.out;have hcz12_0 : w9.cell? ⟨gb319, 0, none⟩ = some (.string (⟨#[]⟩ : ByteArray)) := (blk_cell BK319.out 0).trans rfl;have hcz12_1 : w9.cell? ⟨gb319, 1, none⟩ = some (.int .i64 0) := (blk_cell BK319.out 1).trans rfl;have hcz12_2 : w9.cell? ⟨gb319, 2, none⟩ = some (.string (⟨#[]⟩ : ByteArray)) := (blk_cell BK319.out 2).trans rfl;have hfz12_0 := blk_frozen BK319.out 0;have hfz12_1 := blk_frozen BK319.out 1;have hfz12_2 := blk_frozen BK319.out 2)|((with_reducible refine gate_callee (f := 26) rfl ?_);refine goesL_ (some 19) rfl rfl Tryd.func26 (by kernel_rfl) rfl #[.pointer (some ⟨g, 0, none⟩), .string (token_signs_0 x13_1)] rfl (by (try simp only [List.map_toArray, List.map_cons, List.map_nil]);first|done|rfl|(simp only [List.length_drop, List.length_take];rfl)) ?_;(with_reducible refine (token_scanner_here.calls k1 g s0_0 x1001_1 (token_signs_0 x13_1) true t321 w0 _ ?side1 ?side2 A6.out).mono ?_);(case side1 => repeat (first|(with_reducible first|exact HI0.out|apply IsS50.alloc|apply IsS50.drewN|apply IsS50.drew|apply IsS50.set_1|refine IsS50.far ?_ NB0_318.out _|refine IsS50.far ?_ NB0_319.out _)|exact HI0.out));(case side2 => repeat (first|(with_reducible first|exact HB.out|apply below_alloc|apply pw_below_drewN|apply below_drew1|refine below_set ?_ (IsS50.ge HI0.out)|refine below_set ?_ GE318.out|refine below_set ?_ GE319.out)|exact HB.out));rintro e w13 ⟨rfl, hi, hb, hk⟩;refine ⟨_, rfl, ?_⟩;have n0_ := Aside0.mk (KeepBut.blk hk (g' := gb318) (o := .cells #[.int .i64 x319000_1, .string x319001_1, .int .i64 x319002_1, .string x319003_1, .bool x319004_1, .slice none 0 0, .slice none 0 0, .int .i64 x319007_1, .int .i64 x319008_1] 38 (0, 0)) (by (with_reducible repeat (first|refine blk_drewN ?_ _|refine blk_drew ?_|refine blk_alloc ?_ _));refine blk_far ?_ NB318_319.out _;(with_reducible repeat (first|refine blk_drewN ?_ _|refine blk_drew ?_|refine blk_alloc ?_ _));refine blk_far ?_ NB318_319.out _;(with_reducible repeat (first|refine blk_drewN ?_ _|refine blk_drew ?_|refine blk_alloc ?_ _));refine blk_far ?_ NB318_319.out _;(with_reducible repeat (first|refine blk_drewN ?_ _|refine blk_drew ?_|refine blk_alloc ?_ _));exact BK318.out) NB318_0.out (by simp));have n1_ := Aside0.mk (KeepBut.blk hk (g' := gb319) (o := .cells #[.string (token_signs_0 x13_1), .int .i64 (token_signs_1 x13_1), .string (token_signs_2 x13_1)] 64 (0, 0)) (by (with_reducible repeat (first|refine blk_drewN ?_ _|refine blk_drew ?_|refine blk_alloc ?_ _));refine blk_put (cs := #[.string (token_signs_0 x13_1), .int .i64 (token_signs_1 x13_1), .string (⟨#[]⟩ : ByteArray)]) ?_ 2 _ rfl;(with_reducible repeat (first|refine blk_drewN ?_ _|refine blk_drew ?_|refine blk_alloc ?_ _));refine blk_put (cs := #[.string (token_signs_0 x13_1), .int .i64 0, .string (⟨#[]⟩ : ByteArray)]) ?_ 1 _ rfl;(with_reducible repeat (first|refine blk_drewN ?_ _|refine blk_drew ?_|refine blk_alloc ?_ _));refine blk_put (cs := #[.string (⟨#[]⟩ : ByteArray), .int .i64 0, .string (⟨#[]⟩ : ByteArray)]) ?_ 0 _ rfl;(with_reducible repeat (first|refine blk_drewN ?_ _|refine blk_drew ?_|refine blk_alloc ?_ _));exact BK319.out) NB319_0.out (by simp));have n2_ := Aside0.mk (KeepBut.trans (by repeat (first|(with_reducible first|exact HK.out|apply KeepBut.set_|apply keep_drewN|apply keep_drew|apply keep_alloc|refine keep_far ?_ GW318.out _|refine keep_far ?_ GW319.out _)|exact HK.out)) hk (.inl rfl));have n3_ := Aside0.mk (hb);have n4_ := Aside0.mk (hi);clear BK318;clear BK319;clear HK;clear HB;clear HI0;have BK318 := n0_;have BK319 := n1_;have HK := n2_;have HB := n3_;have HI0 := n4_;clear n0_ n1_ n2_ n3_ n4_;(try clear hb);(try clear hb2);(try clear hk);(try clear hi)))
      have n0_ := Aside0.mk (blk_drew BK318.out)
      have n1_ := Aside0.mk (blk_drew BK319.out)
      have n2_ := Aside0.mk (IsS50.drew HI0.out)
      have n3_ := Aside0.mk (keep_drew HK.out)
      have n4_ := Aside0.mk (below_drew1 HB.out)
      clear BK318
      clear BK319
      clear HI0
      clear HK
      clear HB
      have BK318 := n0_
      have BK319 := n1_
      have HI0 := n2_
      have HK := n3_
      have HB := n4_
      clear n0_ n1_ n2_ n3_ n4_
      obtain ⟨ASz15_0, cSz15_0, HGz15, hgz15, ⟨HSz15_0, HCSz15_0⟩⟩ := HI0.out
      have hcz15_0 := cellS50_0 HGz15
      have hcz15_1 := cellS50_1 HGz15
      have hfz15_1 := blk_frozen HGz15 1
      have BKSz15 := Aside0.mk HGz15
      clear HGz15 hgz15
      refine start_ (n := 11) (S := fun w' => w'.cell? ⟨g, 0, none⟩ = some (.slice ASz15_0 s0_0.length cSz15_0) ∧ w'.cell? ⟨g, 1, none⟩ = some (.int .i64 t321) ∧ w'.cell? ⟨gb319, 0, none⟩ = some (.string (token_signs_0 x13_1)) ∧ w'.cell? ⟨gb319, 1, none⟩ = some (.int .i64 (token_signs_1 x13_1)) ∧ w'.cell? ⟨gb319, 2, none⟩ = some (.string (token_signs_2 x13_1))) (ds := [10]) #[false, false, false, false, false, false, false, false, false, false, false] (by kernel_rfl) rfl rfl ⟨(blk_cell BKSz15.out 0).trans rfl, (blk_cell BKSz15.out 1).trans rfl, (blk_cell BK319.out 0).trans rfl, (blk_cell BK319.out 1).trans rfl, (blk_cell BK319.out 2).trans rfl⟩ (fun hHeld => ?_); refine with_tabW token_scanner_next.tab6 token_scanner_next.bits6 (fun HT_ HW_ => ?_)
      generalize w13.drew = w14 at BK318 BK319 HI0 HK HB BKSz15 hHeld ⊢
      refine pure_ (i := 0) (N := some 20) (v := ?_) (a' := ?_) #[true, false, false, false, false, false, false, false, false, false, false] rfl rfl (any_of HT_.out (by kernel_rfl)) (fun _ _ _ h => h) (Or.inl ⟨by rfl, ?_⟩) ?_ ?_
      rotate_left
      ·intro w'
       go_simp
       with_reducible rfl
      rotate_left
      ·simp only [Act.put, List.setIfInBounds_toArray, List.set_cons_zero, List.set_cons_succ, i64_w, i32_w]
       rfl
      refine pure_ (i := 1) (N := some 21) (v := ?_) (a' := ?_) #[true, true, false, false, false, false, false, false, false, false, false] rfl rfl (any_of HT_.out (by kernel_rfl)) (fun _ _ _ h => h) (Or.inl ⟨by rfl, ?_⟩) ?_ ?_
      rotate_left
      ·intro w'
       go_simp
       with_reducible rfl
      rotate_left
      ·simp only [Act.put, List.setIfInBounds_toArray, List.set_cons_zero, List.set_cons_succ, i64_w, i32_w]
       rfl
      refine pure_ (i := 2) (N := some 22) (v := ?_) (a' := ?_) #[true, true, true, false, false, false, false, false, false, false, false] rfl rfl (any_of HT_.out (by kernel_rfl)) (fun _ _ _ h => h) (Or.inl ⟨by rfl, ?_⟩) ?_ ?_
      rotate_left
      ·intro w'
       go_simp
       with_reducible rfl
      rotate_left
      ·simp only [Act.put, List.setIfInBounds_toArray, List.set_cons_zero, List.set_cons_succ, i64_w, i32_w]
       rfl
      refine pure_ (i := 4) (N := some 24) (v := ?_) (a' := ?_) #[true, true, true, false, true, false, false, false, false, false, false] rfl rfl (any_of HT_.out (by kernel_rfl)) (fun _ _ _ h => h) (Or.inl ⟨by rfl, ?_⟩) ?_ ?_
      rotate_left
      ·intro w'
       go_simp
       with_reducible rfl
      rotate_left
      ·simp only [Act.put, List.setIfInBounds_toArray, List.set_cons_zero, List.set_cons_succ, i64_w, i32_w]
       rfl
      refine take_ (i := 3) (N := some 23) (v := ?_) (a' := ?_) #[true, true, true, true, true, false, false, false, false, false, false] rfl rfl (take_ofW HT_.out HW_.out (by kernel_rfl)) (fun _ _ _ h => h) (Or.inl ⟨by rfl, ?_⟩) hHeld ?_ ?_
      rotate_left
      ·rintro w' ⟨s0, s1, s2, s3, s4⟩
       go_simp
       with_reducible rfl
      rotate_left
      ·simp only [Act.put, List.setIfInBounds_toArray, List.set_cons_zero, List.set_cons_succ, i64_w, i32_w]
       rfl
      refine take_ (i := 5) (N := some 25) (v := ?_) (a' := ?_) #[true, true, true, true, true, true, false, false, false, false, false] rfl rfl (take_ofW HT_.out HW_.out (by kernel_rfl)) (fun _ _ _ h => h) (Or.inl ⟨by rfl, ?_⟩) hHeld ?_ ?_
      rotate_left
      ·rintro w' ⟨s0, s1, s2, s3, s4⟩
       go_simp
       with_reducible rfl
      rotate_left
      ·simp only [Act.put, List.setIfInBounds_toArray, List.set_cons_zero, List.set_cons_succ, i64_w, i32_w]
       rfl
      refine pure_ (i := 6) (N := some 26) (v := ?_) (a' := ?_) #[true, true, true, true, true, true, true, false, false, false, false] rfl rfl (any_of HT_.out (by kernel_rfl)) (fun _ _ _ h => h) (Or.inl ⟨by rfl, ?_⟩) ?_ ?_
      rotate_left
      ·intro w'
       go_simp
       with_reducible rfl
      rotate_left
      ·simp only [Act.put, List.setIfInBounds_toArray, List.set_cons_zero, List.set_cons_succ, i64_w, i32_w]
       rfl
      refine pure_ (i := 7) (N := some 27) (v := ?_) (a' := ?_) #[true, true, true, true, true, true, true, true, false, false, false] rfl rfl (any_of HT_.out (by kernel_rfl)) (fun _ _ _ h => h) (Or.inl ⟨by rfl, ?_⟩) ?_ ?_
      rotate_left
      ·intro w'
       go_simp
       with_reducible rfl
      rotate_left
      ·simp only [Act.put, List.setIfInBounds_toArray, List.set_cons_zero, List.set_cons_succ, i64_w, i32_w]
       rfl
      refine pure_ (i := 8) (N := some 28) (v := ?_) (a' := ?_) #[true, true, true, true, true, true, true, true, true, false, false] rfl rfl (any_of HT_.out (by kernel_rfl)) (fun _ _ _ h => h) (Or.inl ⟨by rfl, ?_⟩) ?_ ?_
      rotate_left
      ·intro w'
       go_simp
       with_reducible rfl
      rotate_left
      ·simp only [Act.put, List.setIfInBounds_toArray, List.set_cons_zero, List.set_cons_succ, i64_w, i32_w]
       rfl
      refine pure_ (i := 9) (N := some 29) (v := ?_) (a' := ?_) #[true, true, true, true, true, true, true, true, true, true, false] rfl rfl (any_of HT_.out (by kernel_rfl)) (fun _ _ _ h => h) (Or.inl ⟨by rfl, ?_⟩) ?_ ?_
      rotate_left
      ·intro w'
       go_simp
       with_reducible rfl
      rotate_left
      ·simp only [Act.put, List.setIfInBounds_toArray, List.set_cons_zero, List.set_cons_succ, i64_w, i32_w]
       rfl
      refine last_ (i := 10) (N := none) #[true, true, true, true, true, true, true, true, true, true, true] rfl rfl (one_of HT_.out (by kernel_rfl)) (by decide) (fun K hK => ?_)
      have hs16 : w14.cell? ⟨g, 1, none⟩ = some (.int .i64 t321) := (blk_cell BKSz15.out 1).trans rfl
      have hfs16 := blk_frozen BKSz15.out 1
      have hns16_0 := NB318_0.out
      have hns16_1 := NB319_0.out
      have hms16_0 := NB0_318.out
      have hms16_1 := NB0_319.out
      refine skip_ (w1 := ?_) (by rfl) rfl ?_ ?_
      rotate_left
      ·go_simp
       rfl
      refine hK.out _ _ ?_
      clear hK K
      refine done_ (done_of HT_.out (by kernel_rfl)) ?_
      have hcz17_0 : w14.cell? ⟨gb319, 0, none⟩ = some (.string (token_signs_0 x13_1)) := (blk_cell BK319.out 0).trans rfl
      have hcz17_1 : w14.cell? ⟨gb319, 1, none⟩ = some (.int .i64 (token_signs_1 x13_1)) := (blk_cell BK319.out 1).trans rfl
      have hcz17_2 : w14.cell? ⟨gb319, 2, none⟩ = some (.string (token_signs_2 x13_1)) := (blk_cell BK319.out 2).trans rfl
      have hfz17_0 := blk_frozen BK319.out 0
      have hfz17_1 := blk_frozen BK319.out 1
      have hfz17_2 := blk_frozen BK319.out 2
      have hnb18 := NB318_0.out
      have hnc18 := NB0_318.out
      have hcz19_0 : w14.cell? ⟨gb318, 0, none⟩ = some (.int .i64 x319000_1) := (blk_cell BK318.out 0).trans rfl
      have hcz19_1 : w14.cell? ⟨gb318, 1, none⟩ = some (.string x319001_1) := (blk_cell BK318.out 1).trans rfl
      have hcz19_2 : w14.cell? ⟨gb318, 2, none⟩ = some (.int .i64 x319002_1) := (blk_cell BK318.out 2).trans rfl
      have hcz19_3 : w14.cell? ⟨gb318, 3, none⟩ = some (.string x319003_1) := (blk_cell BK318.out 3).trans rfl
      have hcz19_4 : w14.cell? ⟨gb318, 4, none⟩ = some (.bool x319004_1) := (blk_cell BK318.out 4).trans rfl
      have hcz19_5 : w14.cell? ⟨gb318, 5, none⟩ = some (.slice none 0 0) := (blk_cell BK318.out 5).trans rfl
      have hcz19_6 : w14.cell? ⟨gb318, 6, none⟩ = some (.slice none 0 0) := (blk_cell BK318.out 6).trans rfl
      have hcz19_7 : w14.cell? ⟨gb318, 7, none⟩ = some (.int .i64 x319007_1) := (blk_cell BK318.out 7).trans rfl
      have hcz19_8 : w14.cell? ⟨gb318, 8, none⟩ = some (.int .i64 x319008_1) := (blk_cell BK318.out 8).trans rfl
      have hfz19_0 := blk_frozen BK318.out 0
      have hfz19_1 := blk_frozen BK318.out 1
      have hfz19_2 := blk_frozen BK318.out 2
      have hfz19_3 := blk_frozen BK318.out 3
      have hfz19_4 := blk_frozen BK318.out 4
      have hfz19_5 := blk_frozen BK318.out 5
      have hfz19_6 := blk_frozen BK318.out 6
      have hfz19_7 := blk_frozen BK318.out 7
      have hfz19_8 := blk_frozen BK318.out 8
      try go_wp2
      refine bodyPost_ret (results_cell_row rfl _ _ gb318 38 #[.int .i64 (token_signs_1 x13_1), .string (token_signs_2 x13_1), .int .i64 0, .string (⟨#[]⟩ : ByteArray), .bool false, .slice none 0 0, .slice none 0 0, .int .i64 0, .int .i64 s0_1] (0, 0) _ rfl (by (with_reducible repeat (first|refine blk_drewN ?_ _|refine blk_drew ?_|refine blk_alloc ?_ _));refine blk_put (cs := #[.int .i64 (token_signs_1 x13_1), .string (token_signs_2 x13_1), .int .i64 0, .string (⟨#[]⟩ : ByteArray), .bool false, .slice none 0 0, .slice none 0 0, .int .i64 0, .int .i64 x319008_1]) ?_ 8 _ rfl;(with_reducible repeat (first|refine blk_drewN ?_ _|refine blk_drew ?_|refine blk_alloc ?_ _));refine blk_put (cs := #[.int .i64 (token_signs_1 x13_1), .string (token_signs_2 x13_1), .int .i64 0, .string (⟨#[]⟩ : ByteArray), .bool false, .slice none 0 0, .slice none 0 0, .int .i64 x319007_1, .int .i64 x319008_1]) ?_ 7 _ rfl;(with_reducible repeat (first|refine blk_drewN ?_ _|refine blk_drew ?_|refine blk_alloc ?_ _));refine blk_put (cs := #[.int .i64 (token_signs_1 x13_1), .string (token_signs_2 x13_1), .int .i64 0, .string (⟨#[]⟩ : ByteArray), .bool false, .slice none 0 0, .slice none 0 0, .int .i64 x319007_1, .int .i64 x319008_1]) ?_ 6 _ rfl;(with_reducible repeat (first|refine blk_drewN ?_ _|refine blk_drew ?_|refine blk_alloc ?_ _));refine blk_put (cs := #[.int .i64 (token_signs_1 x13_1), .string (token_signs_2 x13_1), .int .i64 0, .string (⟨#[]⟩ : ByteArray), .bool false, .slice none 0 0, .slice none 0 0, .int .i64 x319007_1, .int .i64 x319008_1]) ?_ 5 _ rfl;(with_reducible repeat (first|refine blk_drewN ?_ _|refine blk_drew ?_|refine blk_alloc ?_ _));refine blk_put (cs := #[.int .i64 (token_signs_1 x13_1), .string (token_signs_2 x13_1), .int .i64 0, .string (⟨#[]⟩ : ByteArray), .bool x319004_1, .slice none 0 0, .slice none 0 0, .int .i64 x319007_1, .int .i64 x319008_1]) ?_ 4 _ rfl;(with_reducible repeat (first|refine blk_drewN ?_ _|refine blk_drew ?_|refine blk_alloc ?_ _));refine blk_put (cs := #[.int .i64 (token_signs_1 x13_1), .string (token_signs_2 x13_1), .int .i64 0, .string x319003_1, .bool x319004_1, .slice none 0 0, .slice none 0 0, .int .i64 x319007_1, .int .i64 x319008_1]) ?_ 3 _ rfl;(with_reducible repeat (first|refine blk_drewN ?_ _|refine blk_drew ?_|refine blk_alloc ?_ _));refine blk_put (cs := #[.int .i64 (token_signs_1 x13_1), .string (token_signs_2 x13_1), .int .i64 x319002_1, .string x319003_1, .bool x319004_1, .slice none 0 0, .slice none 0 0, .int .i64 x319007_1, .int .i64 x319008_1]) ?_ 2 _ rfl;(with_reducible repeat (first|refine blk_drewN ?_ _|refine blk_drew ?_|refine blk_alloc ?_ _));refine blk_put (cs := #[.int .i64 (token_signs_1 x13_1), .string x319001_1, .int .i64 x319002_1, .string x319003_1, .bool x319004_1, .slice none 0 0, .slice none 0 0, .int .i64 x319007_1, .int .i64 x319008_1]) ?_ 1 _ rfl;(with_reducible repeat (first|refine blk_drewN ?_ _|refine blk_drew ?_|refine blk_alloc ?_ _));refine blk_put (cs := #[.int .i64 x319000_1, .string x319001_1, .int .i64 x319002_1, .string x319003_1, .bool x319004_1, .slice none 0 0, .slice none 0 0, .int .i64 x319007_1, .int .i64 x319008_1]) ?_ 0 _ rfl;(with_reducible repeat (first|refine blk_drewN ?_ _|refine blk_drew ?_|refine blk_alloc ?_ _));refine blk_far ?_ NB318_0.out _;(with_reducible repeat (first|refine blk_drewN ?_ _|refine blk_drew ?_|refine blk_alloc ?_ _));exact BK318.out) Tryd.underlying38 rfl (by kernel_rfl)) rfl ?_
      exact ⟨_, _, by first|rfl|(simp [errW_none, errW_some] <;> rfl)|(simp [*, errW_none, errW_some] <;> rfl), Kd.V_nil _ _ _ _ _, by first|exact Kd.R_nil _ _ _ _ _|exact Kd.N_nil _ _ _ _ _|exact Kd.V_nil _ _ _ _ _|exact Kd.Q_nil _ _ _ _ _|exact Kd.S_nil _ _ _ _ _, by repeat (first|(with_reducible first|exact HI0.out|apply IsS50.alloc|apply IsS50.drewN|apply IsS50.drew|apply IsS50.set_1|refine IsS50.far ?_ NB0_318.out _|refine IsS50.far ?_ NB0_319.out _)|exact HI0.out), by repeat (first|(with_reducible first|exact HB.out|apply below_alloc|apply pw_below_drewN|apply below_drew1|refine below_set ?_ (IsS50.ge HI0.out)|refine below_set ?_ GE318.out|refine below_set ?_ GE319.out)|exact HB.out), by repeat (first|(with_reducible first|exact HK.out|apply KeepBut.set_|apply keep_drewN|apply keep_drew|apply keep_alloc|refine keep_far ?_ GW318.out _|refine keep_far ?_ GW319.out _)|exact HK.out)⟩
     ·replace c7 := Bool.eq_false_iff.mpr c7
      subst c7
      have H1 : (token_scanner_next.l0 k1 s0_1 (wrap64 (x13_1 + 1)) s0_0 t321) = some (r1, r2, r3, r4, r5, r6, r7, r8, r9, r10) := by rw [if_neg (show ¬ (false = true) by decide)] at H; exact H
      clear H
      have H := H1
      clear H1
      have H' := Aside0.mk H
      clear H
      have hgi20 := token_signs_at x13_1 (of_decide_eq_true (by first | (with_reducible assumption) | assumption)) (of_decide_eq_true (by first | (with_reducible assumption) | assumption))
      go_wp2_with (first|((with_reducible refine gate_dst (N := 5) rfl ?_);refine box_event ?hg (N := 5) ?hd (cs := #[.string (⟨#[]⟩ : ByteArray), .int .i64 0, .string (⟨#[]⟩ : ByteArray)]) (t := 64) ?hr ?_;(case hd => rfl);(case hg => rfl);(case hr => first|(go_simp;done)|(go_simp;rfl));intro gb319 hg w21 hbox hb;have n0_ := Aside0.mk (blk_below (g := gb318) (o := .cells #[.int .i64 x319000_1, .string x319001_1, .int .i64 x319002_1, .string x319003_1, .bool x319004_1, .slice none 0 0, .slice none 0 0, .int .i64 x319007_1, .int .i64 x319008_1] 38 (0, 0)) (by (with_reducible repeat (first|refine blk_drewN ?_ _|refine blk_drew ?_|refine blk_alloc ?_ _));exact BK318.out) hb);have n1_ := Aside0.mk (IsS50.below (by repeat (first|(with_reducible first|exact HI0.out|apply IsS50.alloc|apply IsS50.drewN|apply IsS50.drew|apply IsS50.set_1|refine IsS50.far ?_ NB0_318.out _)|exact HI0.out)) hb);have n2_ := Aside0.mk (KeepBut.trans (by repeat (first|(with_reducible first|exact HK.out|apply KeepBut.set_|apply keep_drewN|apply keep_drew|apply keep_alloc|refine keep_far ?_ GW318.out _)|exact HK.out)) (KeepBut.of_below hb g none) (.inl rfl));have n3_ := Aside0.mk (below_step (by repeat (first|(with_reducible first|exact HB.out|apply below_alloc|apply pw_below_drewN|apply below_drew1|refine below_set ?_ (IsS50.ge HI0.out)|refine below_set ?_ GE318.out)|exact HB.out)) hb);have n4_ := Aside0.mk (hbox);have n5_ := Aside0.mk ((by rw [hg];exact (keep_size (w := w) (g := g) (row := none) (by repeat (first|(with_reducible first|exact HK.out|apply KeepBut.set_|apply keep_drewN|apply keep_drew|apply keep_alloc|refine keep_far ?_ GW318.out _)|exact HK.out))) : w.heap.size ≤ gb319));have n6_ := Aside0.mk ((Nat.le_trans HW0.out (by rw [hg];exact (keep_size (w := w) (g := g) (row := none) (by repeat (first|(with_reducible first|exact HK.out|apply KeepBut.set_|apply keep_drewN|apply keep_drew|apply keep_alloc|refine keep_far ?_ GW318.out _)|exact HK.out))) : w.heap.size ≤ gb319) : w0.heap.size ≤ gb319));have n7_ := Aside0.mk ((by rw [hg];exact Nat.ne_of_lt (blk_lt (g := gb318) (o := .cells #[.int .i64 x319000_1, .string x319001_1, .int .i64 x319002_1, .string x319003_1, .bool x319004_1, .slice none 0 0, .slice none 0 0, .int .i64 x319007_1, .int .i64 x319008_1] 38 (0, 0)) (by (with_reducible repeat (first|refine blk_drewN ?_ _|refine blk_drew ?_|refine blk_alloc ?_ _));exact BK318.out)) : gb318 ≠ gb319));have n8_ := Aside0.mk ((by rw [hg];exact Nat.ne_of_gt (blk_lt (g := gb318) (o := .cells #[.int .i64 x319000_1, .string x319001_1, .int .i64 x319002_1, .string x319003_1, .bool x319004_1, .slice none 0 0, .slice none 0 0, .int .i64 x319007_1, .int .i64 x319008_1] 38 (0, 0)) (by (with_reducible repeat (first|refine blk_drewN ?_ _|refine blk_drew ?_|refine blk_alloc ?_ _));exact BK318.out)) : gb319 ≠ gb318));have n9_ := Aside0.mk ((by rw [hg];exact Nat.ne_of_lt (IsS50.lt (show IsS50 w0 _ g s0_0 x1001_1 from by repeat (first|(with_reducible first|exact HI0.out|apply IsS50.alloc|apply IsS50.drewN|apply IsS50.drew|apply IsS50.set_1|refine IsS50.far ?_ NB0_318.out _)|exact HI0.out))) : g ≠ gb319));have n10_ := Aside0.mk ((by rw [hg];exact Nat.ne_of_gt (IsS50.lt (show IsS50 w0 _ g s0_0 x1001_1 from by repeat (first|(with_reducible first|exact HI0.out|apply IsS50.alloc|apply IsS50.drewN|apply IsS50.drew|apply IsS50.set_1|refine IsS50.far ?_ NB0_318.out _)|exact HI0.out))) : gb319 ≠ g));clear BK318;clear HI0;clear HK;clear HB;have BK318 := n0_;have HI0 := n1_;have HK := n2_;have HB := n3_;have BK319 := n4_;have GW319 := n5_;have GE319 := n6_;have NB318_319 := n7_;have NB319_318 := n8_;have NB0_319 := n9_;have NB319_0 := n10_;clear n0_ n1_ n2_ n3_ n4_ n5_ n6_ n7_ n8_ n9_ n10_;clear hb hbox hg;have hnb22 := NB319_318.out;have hnc22 := NB318_319.out;have hnb23 := NB319_0.out;have hnc23 := NB0_319.out;have hcz24_0 : w21.cell? ⟨gb319, 0, none⟩ = some (.string (⟨#[]⟩ : ByteArray)) := (blk_cell BK319.out 0).trans rfl;have hcz24_1 : w21.cell? ⟨gb319, 1, none⟩ = some (.int .i64 0) := (blk_cell BK319.out 1).trans rfl;have hcz24_2 : w21.cell? ⟨gb319, 2, none⟩ = some (.string (⟨#[]⟩ : ByteArray)) := (blk_cell BK319.out 2).trans rfl;have hfz24_0 := blk_frozen BK319.out 0;have hfz24_1 := blk_frozen BK319.out 1;have hfz24_2 := blk_frozen BK319.out 2)|((with_reducible refine gate_callee (f := 26) rfl ?_);refine goesL_ (some 19) rfl rfl Tryd.func26 (by kernel_rfl) rfl #[.pointer (some ⟨g, 0, none⟩), .string (token_signs_0 x13_1)] rfl (by (try simp only [List.map_toArray, List.map_cons, List.map_nil]);first|done|rfl|(simp only [List.length_drop, List.length_take];rfl)) ?_;(with_reducible refine (token_scanner_here.calls k1 g s0_0 x1001_1 (token_signs_0 x13_1) false t321 w0 _ ?side1 ?side2 A6.out).mono ?_);(case side1 => repeat (first|(with_reducible first|exact HI0.out|apply IsS50.alloc|apply IsS50.drewN|apply IsS50.drew|apply IsS50.set_1|refine IsS50.far ?_ NB0_318.out _|refine IsS50.far ?_ NB0_319.out _)|exact HI0.out));(case side2 => repeat (first|(with_reducible first|exact HB.out|apply below_alloc|apply pw_below_drewN|apply below_drew1|refine below_set ?_ (IsS50.ge HI0.out)|refine below_set ?_ GE318.out|refine below_set ?_ GE319.out)|exact HB.out));rintro e w25 ⟨rfl, hi, hb, hk⟩;refine ⟨_, rfl, ?_⟩;have n0_ := Aside0.mk (KeepBut.blk hk (g' := gb318) (o := .cells #[.int .i64 x319000_1, .string x319001_1, .int .i64 x319002_1, .string x319003_1, .bool x319004_1, .slice none 0 0, .slice none 0 0, .int .i64 x319007_1, .int .i64 x319008_1] 38 (0, 0)) (by (with_reducible repeat (first|refine blk_drewN ?_ _|refine blk_drew ?_|refine blk_alloc ?_ _));refine blk_far ?_ NB318_319.out _;(with_reducible repeat (first|refine blk_drewN ?_ _|refine blk_drew ?_|refine blk_alloc ?_ _));refine blk_far ?_ NB318_319.out _;(with_reducible repeat (first|refine blk_drewN ?_ _|refine blk_drew ?_|refine blk_alloc ?_ _));refine blk_far ?_ NB318_319.out _;(with_reducible repeat (first|refine blk_drewN ?_ _|refine blk_drew ?_|refine blk_alloc ?_ _));exact BK318.out) NB318_0.out (by simp));have n1_ := Aside0.mk (KeepBut.blk hk (g' := gb319) (o := .cells #[.string (token_signs_0 x13_1), .int .i64 (token_signs_1 x13_1), .string (token_signs_2 x13_1)] 64 (0, 0)) (by (with_reducible repeat (first|refine blk_drewN ?_ _|refine blk_drew ?_|refine blk_alloc ?_ _));refine blk_put (cs := #[.string (token_signs_0 x13_1), .int .i64 (token_signs_1 x13_1), .string (⟨#[]⟩ : ByteArray)]) ?_ 2 _ rfl;(with_reducible repeat (first|refine blk_drewN ?_ _|refine blk_drew ?_|refine blk_alloc ?_ _));refine blk_put (cs := #[.string (token_signs_0 x13_1), .int .i64 0, .string (⟨#[]⟩ : ByteArray)]) ?_ 1 _ rfl;(with_reducible repeat (first|refine blk_drewN ?_ _|refine blk_drew ?_|refine blk_alloc ?_ _));refine blk_put (cs := #[.string (⟨#[]⟩ : ByteArray), .int .i64 0, .string (⟨#[]⟩ : ByteArray)]) ?_ 0 _ rfl;(with_reducible repeat (first|refine blk_drewN ?_ _|refine blk_drew ?_|refine blk_alloc ?_ _));exact BK319.out) NB319_0.out (by simp));have n2_ := Aside0.mk (KeepBut.trans (by repeat (first|(with_reducible first|exact HK.out|apply KeepBut.set_|apply keep_drewN|apply keep_drew|apply keep_alloc|refine keep_far ?_ GW318.out _|refine keep_far ?_ GW319.out _)|exact HK.out)) hk (.inl rfl));have n3_ := Aside0.mk (hb);have n4_ := Aside0.mk (hi);clear BK318;clear BK319;clear HK;clear HB;clear HI0;have BK318 := n0_;have BK319 := n1_;have HK := n2_;have HB := n3_;have HI0 := n4_;clear n0_ n1_ n2_ n3_ n4_;(try clear hb);(try clear hb2);(try clear hk);(try clear hi)))
      go_roundg k1
      case measure => have := HK1.out; omega
      case rel => exact ⟨(wrap64 (x13_1 + 1)), (t321), (x319000_1), (x319001_1), (x319002_1), (x319003_1), (x319004_1), (x319007_1), (x319008_1), (by first|rfl|(simp;done)|(simp [*];done)), H', ⟨by have := HK1.out;omega⟩, ⟨by (with_reducible repeat (first|refine blk_drewN ?_ _|refine blk_drew ?_|refine blk_alloc ?_ _));exact BK318.out⟩, ⟨by repeat (first|(with_reducible first|exact HI0.out|apply IsS50.alloc|apply IsS50.drewN|apply IsS50.drew|apply IsS50.set_1|refine IsS50.far ?_ NB0_318.out _|refine IsS50.far ?_ NB0_319.out _)|exact HI0.out)⟩, ⟨by repeat (first|(with_reducible first|exact HK.out|apply KeepBut.set_|apply keep_drewN|apply keep_drew|apply keep_alloc|refine keep_far ?_ GW318.out _|refine keep_far ?_ GW319.out _)|exact HK.out)⟩, ⟨by repeat (first|(with_reducible first|exact HB.out|apply below_alloc|apply pw_below_drewN|apply below_drew1|refine below_set ?_ (IsS50.ge HI0.out)|refine below_set ?_ GE318.out|refine below_set ?_ GE319.out)|exact HB.out)⟩⟩
    ·rw [if_neg c5] at H
     exact absurd H (by simp)
   ·rw [if_neg c4] at H
    have c4b0 : decide (x13_1 < 12) = false := decide_eq_false c4
    clear c4
    have HC26 := Aside0.mk H
    clear H
    go_upto_region 9 with (fail)
    go_cut [49] (fun v49 wc => ∃ (kq : Nat) (x49_25 : Bool) (x1001_25 : Int), v49 = .bool x49_25 ∧ Aside0 (token_scanner_next.j1 kq s0_1 x49_25 s0_0 x1001_25 = some (r1, r2, r3, r4, r5, r6, r7, r8, r9, r10)) ∧ Aside0 (kq ≤ k1) ∧ Aside0 (wc.heap[gb318]? = some (.cells #[.int .i64 x319000_1, .string x319001_1, .int .i64 x319002_1, .string x319003_1, .bool x319004_1, (.slice none 0 0), (.slice none 0 0), .int .i64 x319007_1, .int .i64 x319008_1] 38 (0, 0))) ∧ Aside0 (IsS50 w0 wc g s0_0 x1001_25) ∧ Aside0 (KeepBut w wc g none) ∧ Aside0 (Below w0.heap.size w0 wc))
    case first =>
     have H := HC26.out
     clear HC26
     replace H := Option.bind_eq_some_iff.mp H
     obtain ⟨⟨t322, t323⟩, A270, H⟩ := H
     replace H : (if t322 = 46 then ((token_scanner_left.f s0_0 t323 2).bind fun bt324 => (if bt324.1 = true then ((token_scanner_peek.f s0_0 bt324.2 1).bind fun bt326 => ((utf_Ends.f bt326.1).bind fun t328 => (token_scanner_next.j1 k1 s0_1 t328 s0_0 bt326.2))) else (token_scanner_next.j1 k1 s0_1 true s0_0 bt324.2))) else (token_scanner_next.j1 k1 s0_1 false s0_0 t323)) = some (r1, r2, r3, r4, r5, r6, r7, r8, r9, r10) := H
     have A27 := Aside0.mk A270
     clear A270
     by_cases c28 : t322 = 46
     ·rw [if_pos c28] at H
      have c28b0 : (t322 == 46) = true := beq_iff_eq.mpr c28
      have c28b1 : (t322 != 46) = false := bne_eq_false_iff_eq.mpr c28
      clear c28
      (first|rw [c28b0]|(simp only [i64_w, i32_w];rw [c28b0])|skip)
      replace H := Option.bind_eq_some_iff.mp H
      obtain ⟨⟨t324, t325⟩, A290, H⟩ := H
      replace H : (if t324 = true then ((token_scanner_peek.f s0_0 t325 1).bind fun bt326 => ((utf_Ends.f bt326.1).bind fun t328 => (token_scanner_next.j1 k1 s0_1 t328 s0_0 bt326.2))) else (token_scanner_next.j1 k1 s0_1 true s0_0 t325)) = some (r1, r2, r3, r4, r5, r6, r7, r8, r9, r10) := H
      have A29 := Aside0.mk A290
      clear A290
      by_cases c30 : t324 = true
      ·subst c30
       have H1 : ((token_scanner_peek.f s0_0 t325 1).bind fun bt326 => ((utf_Ends.f bt326.1).bind fun t328 => (token_scanner_next.j1 k1 s0_1 t328 s0_0 bt326.2))) = some (r1, r2, r3, r4, r5, r6, r7, r8, r9, r10) := by rw [if_pos rfl] at H; exact H
       clear H
       have H := H1
       clear H1
       replace H := Option.bind_eq_some_iff.mp H
       obtain ⟨⟨t326, t327⟩, A310, H⟩ := H
       replace H : ((utf_Ends.f t326).bind fun t328 => (token_scanner_next.j1 k1 s0_1 t328 s0_0 t327)) = some (r1, r2, r3, r4, r5, r6, r7, r8, r9, r10) := H
       have A31 := Aside0.mk A310
       clear A310
       replace H := Option.bind_eq_some_iff.mp H
       obtain ⟨t328, A320, H⟩ := H
       replace H : (token_scanner_next.j1 k1 s0_1 t328 s0_0 t327) = some (r1, r2, r3, r4, r5, r6, r7, r8, r9, r10) := H
       have A32 := Aside0.mk A320
       clear A320
       have H' := Aside0.mk H
       clear H
       go_wp2_with (first|((with_reducible refine gate_callee (f := 24) rfl ?_);refine goesL_ (some 38) rfl rfl Tryd.func24 (by kernel_rfl) rfl #[.pointer (some ⟨g, 0, none⟩), .int .i64 0] rfl (by (try simp only [List.map_toArray, List.map_cons, List.map_nil]);first|done|rfl|(simp only [List.length_drop, List.length_take];rfl)) ?_;(with_reducible refine (token_scanner_peek.calls g s0_0 x1001_1 0 t322 t323 w0 _ ?side1 ?side2 A27.out).mono ?_);(case side1 => repeat (first|(with_reducible first|exact HI0.out|apply IsS50.alloc|apply IsS50.drewN|apply IsS50.drew|apply IsS50.set_1|refine IsS50.far ?_ NB0_318.out _)|exact HI0.out));(case side2 => repeat (first|(with_reducible first|exact HB.out|apply below_alloc|apply pw_below_drewN|apply below_drew1|refine below_set ?_ (IsS50.ge HI0.out)|refine below_set ?_ GE318.out)|exact HB.out));rintro e w33 ⟨rfl, hi, hb, hk⟩;refine ⟨_, rfl, ?_⟩;have n0_ := Aside0.mk (KeepBut.blk hk (g' := gb318) (o := .cells #[.int .i64 x319000_1, .string x319001_1, .int .i64 x319002_1, .string x319003_1, .bool x319004_1, .slice none 0 0, .slice none 0 0, .int .i64 x319007_1, .int .i64 x319008_1] 38 (0, 0)) (by (with_reducible repeat (first|refine blk_drewN ?_ _|refine blk_drew ?_|refine blk_alloc ?_ _));exact BK318.out) NB318_0.out (by simp));have n1_ := Aside0.mk (KeepBut.trans (by repeat (first|(with_reducible first|exact HK.out|apply KeepBut.set_|apply keep_drewN|apply keep_drew|apply keep_alloc|refine keep_far ?_ GW318.out _)|exact HK.out)) hk (.inl rfl));have n2_ := Aside0.mk (hb);have n3_ := Aside0.mk (hi);clear BK318;clear HK;clear HB;clear HI0;have BK318 := n0_;have HK := n1_;have HB := n2_;have HI0 := n3_;clear n0_ n1_ n2_ n3_;(try clear hb);(try clear hb2);(try clear hk);(try clear hi))|(go_at_call 14;(with_reducible refine (token_scanner_left.calls g s0_0 t323 2 true t325 w0 _ ?side1 ?side2 A29.out).mono ?_);(case side1 => repeat (first|(with_reducible first|exact HI0.out|apply IsS50.alloc|apply IsS50.drewN|apply IsS50.drew|apply IsS50.set_1|refine IsS50.far ?_ NB0_318.out _)|exact HI0.out));(case side2 => repeat (first|(with_reducible first|exact HB.out|apply below_alloc|apply pw_below_drewN|apply below_drew1|refine below_set ?_ (IsS50.ge HI0.out)|refine below_set ?_ GE318.out)|exact HB.out));rintro e w34 ⟨rfl, hi, hb, hk⟩;have n0_ := Aside0.mk (KeepBut.blk hk (g' := gb318) (o := .cells #[.int .i64 x319000_1, .string x319001_1, .int .i64 x319002_1, .string x319003_1, .bool x319004_1, .slice none 0 0, .slice none 0 0, .int .i64 x319007_1, .int .i64 x319008_1] 38 (0, 0)) (by (with_reducible repeat (first|refine blk_drewN ?_ _|refine blk_drew ?_|refine blk_alloc ?_ _));exact BK318.out) NB318_0.out (by simp));have n1_ := Aside0.mk (KeepBut.trans (by repeat (first|(with_reducible first|exact HK.out|apply KeepBut.set_|apply keep_drewN|apply keep_drew|apply keep_alloc|refine keep_far ?_ GW318.out _)|exact HK.out)) hk (.inl rfl));have n2_ := Aside0.mk (hb);have n3_ := Aside0.mk (hi);clear BK318;clear HK;clear HB;clear HI0;have BK318 := n0_;have HK := n1_;have HB := n2_;have HI0 := n3_;clear n0_ n1_ n2_ n3_;(try clear hb);(try clear hb2);(try clear hk);(try clear hi))|(go_at_call 24;(with_reducible refine (token_scanner_peek.calls g s0_0 t325 1 t326 t327 w0 _ ?side1 ?side2 A31.out).mono ?_);(case side1 => repeat (first|(with_reducible first|exact HI0.out|apply IsS50.alloc|apply IsS50.drewN|apply IsS50.drew|apply IsS50.set_1|refine IsS50.far ?_ NB0_318.out _)|exact HI0.out));(case side2 => repeat (first|(with_reducible first|exact HB.out|apply below_alloc|apply pw_below_drewN|apply below_drew1|refine below_set ?_ (IsS50.ge HI0.out)|refine below_set ?_ GE318.out)|exact HB.out));rintro e w35 ⟨rfl, hi, hb, hk⟩;have n0_ := Aside0.mk (KeepBut.blk hk (g' := gb318) (o := .cells #[.int .i64 x319000_1, .string x319001_1, .int .i64 x319002_1, .string x319003_1, .bool x319004_1, .slice none 0 0, .slice none 0 0, .int .i64 x319007_1, .int .i64 x319008_1] 38 (0, 0)) (by (with_reducible repeat (first|refine blk_drewN ?_ _|refine blk_drew ?_|refine blk_alloc ?_ _));exact BK318.out) NB318_0.out (by simp));have n1_ := Aside0.mk (KeepBut.trans (by repeat (first|(with_reducible first|exact HK.out|apply KeepBut.set_|apply keep_drewN|apply keep_drew|apply keep_alloc|refine keep_far ?_ GW318.out _)|exact HK.out)) hk (.inl rfl));have n2_ := Aside0.mk (hb);have n3_ := Aside0.mk (hi);clear BK318;clear HK;clear HB;clear HI0;have BK318 := n0_;have HK := n1_;have HB := n2_;have HI0 := n3_;clear n0_ n1_ n2_ n3_;(try clear hb);(try clear hb2);(try clear hk);(try clear hi))|(go_at_call 20;(with_reducible refine (utf_Ends.calls t326 t328 _ A32.out).mono ?_);rintro e w' ⟨rfl, ⟨nd, rfl⟩⟩))
       go_meet
       case rel => exact ⟨_, (t328), (t327), (by first|rfl|(simp;done)|(simp [*];done)), H', ⟨by have := HK1.out;first|omega|exact Nat.le_refl _⟩, ⟨by (with_reducible repeat (first|refine blk_drewN ?_ _|refine blk_drew ?_|refine blk_alloc ?_ _));exact BK318.out⟩, ⟨by repeat (first|(with_reducible first|exact HI0.out|apply IsS50.alloc|apply IsS50.drewN|apply IsS50.drew|apply IsS50.set_1|refine IsS50.far ?_ NB0_318.out _)|exact HI0.out)⟩, ⟨by repeat (first|(with_reducible first|exact HK.out|apply KeepBut.set_|apply keep_drewN|apply keep_drew|apply keep_alloc|refine keep_far ?_ GW318.out _)|exact HK.out)⟩, ⟨by repeat (first|(with_reducible first|exact HB.out|apply below_alloc|apply pw_below_drewN|apply below_drew1|refine below_set ?_ (IsS50.ge HI0.out)|refine below_set ?_ GE318.out)|exact HB.out)⟩⟩
      ·replace c30 := Bool.eq_false_iff.mpr c30
       subst c30
       have H1 : (token_scanner_next.j1 k1 s0_1 true s0_0 t325) = some (r1, r2, r3, r4, r5, r6, r7, r8, r9, r10) := by rw [if_neg (show ¬ (false = true) by decide)] at H; exact H
       clear H
       have H := H1
       clear H1
       have H' := Aside0.mk H
       clear H
       go_wp2_with (first|((with_reducible refine gate_callee (f := 24) rfl ?_);refine goesL_ (some 38) rfl rfl Tryd.func24 (by kernel_rfl) rfl #[.pointer (some ⟨g, 0, none⟩), .int .i64 0] rfl (by (try simp only [List.map_toArray, List.map_cons, List.map_nil]);first|done|rfl|(simp only [List.length_drop, List.length_take];rfl)) ?_;(with_reducible refine (token_scanner_peek.calls g s0_0 x1001_1 0 t322 t323 w0 _ ?side1 ?side2 A27.out).mono ?_);(case side1 => repeat (first|(with_reducible first|exact HI0.out|apply IsS50.alloc|apply IsS50.drewN|apply IsS50.drew|apply IsS50.set_1|refine IsS50.far ?_ NB0_318.out _)|exact HI0.out));(case side2 => repeat (first|(with_reducible first|exact HB.out|apply below_alloc|apply pw_below_drewN|apply below_drew1|refine below_set ?_ (IsS50.ge HI0.out)|refine below_set ?_ GE318.out)|exact HB.out));rintro e w36 ⟨rfl, hi, hb, hk⟩;refine ⟨_, rfl, ?_⟩;have n0_ := Aside0.mk (KeepBut.blk hk (g' := gb318) (o := .cells #[.int .i64 x319000_1, .string x319001_1, .int .i64 x319002_1, .string x319003_1, .bool x319004_1, .slice none 0 0, .slice none 0 0, .int .i64 x319007_1, .int .i64 x319008_1] 38 (0, 0)) (by (with_reducible repeat (first|refine blk_drewN ?_ _|refine blk_drew ?_|refine blk_alloc ?_ _));exact BK318.out) NB318_0.out (by simp));have n1_ := Aside0.mk (KeepBut.trans (by repeat (first|(with_reducible first|exact HK.out|apply KeepBut.set_|apply keep_drewN|apply keep_drew|apply keep_alloc|refine keep_far ?_ GW318.out _)|exact HK.out)) hk (.inl rfl));have n2_ := Aside0.mk (hb);have n3_ := Aside0.mk (hi);clear BK318;clear HK;clear HB;clear HI0;have BK318 := n0_;have HK := n1_;have HB := n2_;have HI0 := n3_;clear n0_ n1_ n2_ n3_;(try clear hb);(try clear hb2);(try clear hk);(try clear hi))|(go_at_call 14;(with_reducible refine (token_scanner_left.calls g s0_0 t323 2 false t325 w0 _ ?side1 ?side2 A29.out).mono ?_);(case side1 => repeat (first|(with_reducible first|exact HI0.out|apply IsS50.alloc|apply IsS50.drewN|apply IsS50.drew|apply IsS50.set_1|refine IsS50.far ?_ NB0_318.out _)|exact HI0.out));(case side2 => repeat (first|(with_reducible first|exact HB.out|apply below_alloc|apply pw_below_drewN|apply below_drew1|refine below_set ?_ (IsS50.ge HI0.out)|refine below_set ?_ GE318.out)|exact HB.out));rintro e w37 ⟨rfl, hi, hb, hk⟩;have n0_ := Aside0.mk (KeepBut.blk hk (g' := gb318) (o := .cells #[.int .i64 x319000_1, .string x319001_1, .int .i64 x319002_1, .string x319003_1, .bool x319004_1, .slice none 0 0, .slice none 0 0, .int .i64 x319007_1, .int .i64 x319008_1] 38 (0, 0)) (by (with_reducible repeat (first|refine blk_drewN ?_ _|refine blk_drew ?_|refine blk_alloc ?_ _));exact BK318.out) NB318_0.out (by simp));have n1_ := Aside0.mk (KeepBut.trans (by repeat (first|(with_reducible first|exact HK.out|apply KeepBut.set_|apply keep_drewN|apply keep_drew|apply keep_alloc|refine keep_far ?_ GW318.out _)|exact HK.out)) hk (.inl rfl));have n2_ := Aside0.mk (hb);have n3_ := Aside0.mk (hi);clear BK318;clear HK;clear HB;clear HI0;have BK318 := n0_;have HK := n1_;have HB := n2_;have HI0 := n3_;clear n0_ n1_ n2_ n3_;(try clear hb);(try clear hb2);(try clear hk);(try clear hi)))
       go_meet
       case rel => exact ⟨_, (true), (t325), (by first|rfl|(simp;done)|(simp [*];done)), H', ⟨by have := HK1.out;first|omega|exact Nat.le_refl _⟩, ⟨by (with_reducible repeat (first|refine blk_drewN ?_ _|refine blk_drew ?_|refine blk_alloc ?_ _));exact BK318.out⟩, ⟨by repeat (first|(with_reducible first|exact HI0.out|apply IsS50.alloc|apply IsS50.drewN|apply IsS50.drew|apply IsS50.set_1|refine IsS50.far ?_ NB0_318.out _)|exact HI0.out)⟩, ⟨by repeat (first|(with_reducible first|exact HK.out|apply KeepBut.set_|apply keep_drewN|apply keep_drew|apply keep_alloc|refine keep_far ?_ GW318.out _)|exact HK.out)⟩, ⟨by repeat (first|(with_reducible first|exact HB.out|apply below_alloc|apply pw_below_drewN|apply below_drew1|refine below_set ?_ (IsS50.ge HI0.out)|refine below_set ?_ GE318.out)|exact HB.out)⟩⟩
     ·rw [if_neg c28] at H
      have c28b0 : (t322 == 46) = false := beq_eq_false_iff_ne.mpr c28
      have c28b1 : (t322 != 46) = true := bne_iff_ne.mpr c28
      (first|rw [c28b0]|(simp only [i64_w, i32_w];rw [c28b0])|skip)
      have H' := Aside0.mk H
      clear H
      go_wp2_with (first|((with_reducible refine gate_callee (f := 24) rfl ?_);refine goesL_ (some 38) rfl rfl Tryd.func24 (by kernel_rfl) rfl #[.pointer (some ⟨g, 0, none⟩), .int .i64 0] rfl (by (try simp only [List.map_toArray, List.map_cons, List.map_nil]);first|done|rfl|(simp only [List.length_drop, List.length_take];rfl)) ?_;(with_reducible refine (token_scanner_peek.calls g s0_0 x1001_1 0 t322 t323 w0 _ ?side1 ?side2 A27.out).mono ?_);(case side1 => repeat (first|(with_reducible first|exact HI0.out|apply IsS50.alloc|apply IsS50.drewN|apply IsS50.drew|apply IsS50.set_1|refine IsS50.far ?_ NB0_318.out _)|exact HI0.out));(case side2 => repeat (first|(with_reducible first|exact HB.out|apply below_alloc|apply pw_below_drewN|apply below_drew1|refine below_set ?_ (IsS50.ge HI0.out)|refine below_set ?_ GE318.out)|exact HB.out));rintro e w38 ⟨rfl, hi, hb, hk⟩;refine ⟨_, rfl, ?_⟩;have n0_ := Aside0.mk (KeepBut.blk hk (g' := gb318) (o := .cells #[.int .i64 x319000_1, .string x319001_1, .int .i64 x319002_1, .string x319003_1, .bool x319004_1, .slice none 0 0, .slice none 0 0, .int .i64 x319007_1, .int .i64 x319008_1] 38 (0, 0)) (by (with_reducible repeat (first|refine blk_drewN ?_ _|refine blk_drew ?_|refine blk_alloc ?_ _));exact BK318.out) NB318_0.out (by simp));have n1_ := Aside0.mk (KeepBut.trans (by repeat (first|(with_reducible first|exact HK.out|apply KeepBut.set_|apply keep_drewN|apply keep_drew|apply keep_alloc|refine keep_far ?_ GW318.out _)|exact HK.out)) hk (.inl rfl));have n2_ := Aside0.mk (hb);have n3_ := Aside0.mk (hi);clear BK318;clear HK;clear HB;clear HI0;have BK318 := n0_;have HK := n1_;have HB := n2_;have HI0 := n3_;clear n0_ n1_ n2_ n3_;(try clear hb);(try clear hb2);(try clear hk);(try clear hi)))
      go_meet
      case rel => exact ⟨_, (false), (t323), (by first|rfl|(simp;done)|(simp [*];done)), H', ⟨by have := HK1.out;first|omega|exact Nat.le_refl _⟩, ⟨by (with_reducible repeat (first|refine blk_drewN ?_ _|refine blk_drew ?_|refine blk_alloc ?_ _));exact BK318.out⟩, ⟨by repeat (first|(with_reducible first|exact HI0.out|apply IsS50.alloc|apply IsS50.drewN|apply IsS50.drew|apply IsS50.set_1|refine IsS50.far ?_ NB0_318.out _)|exact HI0.out)⟩, ⟨by repeat (first|(with_reducible first|exact HK.out|apply KeepBut.set_|apply keep_drewN|apply keep_drew|apply keep_alloc|refine keep_far ?_ GW318.out _)|exact HK.out)⟩, ⟨by repeat (first|(with_reducible first|exact HB.out|apply below_alloc|apply pw_below_drewN|apply below_drew1|refine below_set ?_ (IsS50.ge HI0.out)|refine below_set ?_ GE318.out)|exact HB.out)⟩⟩
    case rest =>
     clear HC26
     try clear c1
     try clear c2
     try clear p2
     try clear c3
     try clear c4
     try clear c4b0
     try clear c5
     try clear c5b0
     try clear p6
     try clear c7
     try clear c10
     try clear c11
     try clear c15
     try clear c18
     try clear c22
     try clear c23
     try clear c24
     try clear c26
     try clear c28
     try clear c28b0
     try clear c28b1
     try clear c30
     try clear hcz12_0
     try clear hcz12_1
     try clear hcz12_2
     try clear hcz15_0
     try clear hcz15_1
     try clear hcz17_0
     try clear hcz17_1
     try clear hcz17_2
     try clear hcz19_0
     try clear hcz19_1
     try clear hcz19_2
     try clear hcz19_3
     try clear hcz19_4
     try clear hcz19_5
     try clear hcz19_6
     try clear hcz19_7
     try clear hcz19_8
     try clear hcz24_0
     try clear hcz24_1
     try clear hcz24_2
     try clear hcz3_0
     try clear hcz3_1
     try clear hfz12_0
     try clear hfz12_1
     try clear hfz12_2
     try clear hfz15_1
     try clear hfz17_0
     try clear hfz17_1
     try clear hfz17_2
     try clear hfz19_0
     try clear hfz19_1
     try clear hfz19_2
     try clear hfz19_3
     try clear hfz19_4
     try clear hfz19_5
     try clear hfz19_6
     try clear hfz19_7
     try clear hfz19_8
     try clear hfz24_0
     try clear hfz24_1
     try clear hfz24_2
     try clear hfz3_1
     try clear p2
     obtain ⟨kq, x49_25, x1001_25, rfl, HA, HJ25, BK318, HI0, HK, HB⟩ := hcut
     cases kq with
     | zero => exact absurd HA.out (by simp [token_scanner_next.j1])
     | succ kj25 =>
      have H := HA.out
      clear HA
      simp only [token_scanner_next.j1] at H
      by_cases c39 : x49_25 = true
      ·subst c39
       have H1 : (some (4, (⟨#[]⟩ : ByteArray), 0, (⟨#[]⟩ : ByteArray), false, ([] : List Int), ([] : List (S33)), 0, s0_1, wrap64 (x1001_25 + 1))) = some (r1, r2, r3, r4, r5, r6, r7, r8, r9, r10) := by rw [if_pos rfl] at H; exact H
       clear H
       have H := H1
       clear H1
       simp only [Option.some.injEq, Prod.mk.injEq] at H
       obtain ⟨rfl, rfl, rfl, rfl, rfl, rfl, rfl, rfl, rfl, rfl⟩ := H
       obtain ⟨ASz40_0, cSz40_0, HGz40, hgz40, ⟨HSz40_0, HCSz40_0⟩⟩ := HI0.out
       have hcz40_0 := cellS50_0 HGz40
       have hcz40_1 := cellS50_1 HGz40
       have hfz40_1 := blk_frozen HGz40 1
       have BKSz40 := Aside0.mk HGz40
       clear HGz40 hgz40
       have hnb41 := NB318_0.out
       have hnc41 := NB0_318.out
       have hcz42_0 : wc.cell? ⟨gb318, 0, none⟩ = some (.int .i64 x319000_1) := (blk_cell BK318.out 0).trans rfl
       have hcz42_1 : wc.cell? ⟨gb318, 1, none⟩ = some (.string x319001_1) := (blk_cell BK318.out 1).trans rfl
       have hcz42_2 : wc.cell? ⟨gb318, 2, none⟩ = some (.int .i64 x319002_1) := (blk_cell BK318.out 2).trans rfl
       have hcz42_3 : wc.cell? ⟨gb318, 3, none⟩ = some (.string x319003_1) := (blk_cell BK318.out 3).trans rfl
       have hcz42_4 : wc.cell? ⟨gb318, 4, none⟩ = some (.bool x319004_1) := (blk_cell BK318.out 4).trans rfl
       have hcz42_5 : wc.cell? ⟨gb318, 5, none⟩ = some (.slice none 0 0) := (blk_cell BK318.out 5).trans rfl
       have hcz42_6 : wc.cell? ⟨gb318, 6, none⟩ = some (.slice none 0 0) := (blk_cell BK318.out 6).trans rfl
       have hcz42_7 : wc.cell? ⟨gb318, 7, none⟩ = some (.int .i64 x319007_1) := (blk_cell BK318.out 7).trans rfl
       have hcz42_8 : wc.cell? ⟨gb318, 8, none⟩ = some (.int .i64 x319008_1) := (blk_cell BK318.out 8).trans rfl
       have hfz42_0 := blk_frozen BK318.out 0
       have hfz42_1 := blk_frozen BK318.out 1
       have hfz42_2 := blk_frozen BK318.out 2
       have hfz42_3 := blk_frozen BK318.out 3
       have hfz42_4 := blk_frozen BK318.out 4
       have hfz42_5 := blk_frozen BK318.out 5
       have hfz42_6 := blk_frozen BK318.out 6
       have hfz42_7 := blk_frozen BK318.out 7
       have hfz42_8 := blk_frozen BK318.out 8
       go_wp2
       refine bodyPost_ret (results_cell_row rfl _ _ gb318 38 #[.int .i64 4, .string (⟨#[]⟩ : ByteArray), .int .i64 0, .string (⟨#[]⟩ : ByteArray), .bool false, .slice none 0 0, .slice none 0 0, .int .i64 0, .int .i64 s0_1] (0, 0) _ rfl (by (with_reducible repeat (first|refine blk_drewN ?_ _|refine blk_drew ?_|refine blk_alloc ?_ _));refine blk_put (cs := #[.int .i64 4, .string (⟨#[]⟩ : ByteArray), .int .i64 0, .string (⟨#[]⟩ : ByteArray), .bool false, .slice none 0 0, .slice none 0 0, .int .i64 0, .int .i64 x319008_1]) ?_ 8 _ rfl;(with_reducible repeat (first|refine blk_drewN ?_ _|refine blk_drew ?_|refine blk_alloc ?_ _));refine blk_put (cs := #[.int .i64 4, .string (⟨#[]⟩ : ByteArray), .int .i64 0, .string (⟨#[]⟩ : ByteArray), .bool false, .slice none 0 0, .slice none 0 0, .int .i64 x319007_1, .int .i64 x319008_1]) ?_ 7 _ rfl;(with_reducible repeat (first|refine blk_drewN ?_ _|refine blk_drew ?_|refine blk_alloc ?_ _));refine blk_put (cs := #[.int .i64 4, .string (⟨#[]⟩ : ByteArray), .int .i64 0, .string (⟨#[]⟩ : ByteArray), .bool false, .slice none 0 0, .slice none 0 0, .int .i64 x319007_1, .int .i64 x319008_1]) ?_ 6 _ rfl;(with_reducible repeat (first|refine blk_drewN ?_ _|refine blk_drew ?_|refine blk_alloc ?_ _));refine blk_put (cs := #[.int .i64 4, .string (⟨#[]⟩ : ByteArray), .int .i64 0, .string (⟨#[]⟩ : ByteArray), .bool false, .slice none 0 0, .slice none 0 0, .int .i64 x319007_1, .int .i64 x319008_1]) ?_ 5 _ rfl;(with_reducible repeat (first|refine blk_drewN ?_ _|refine blk_drew ?_|refine blk_alloc ?_ _));refine blk_put (cs := #[.int .i64 4, .string (⟨#[]⟩ : ByteArray), .int .i64 0, .string (⟨#[]⟩ : ByteArray), .bool x319004_1, .slice none 0 0, .slice none 0 0, .int .i64 x319007_1, .int .i64 x319008_1]) ?_ 4 _ rfl;(with_reducible repeat (first|refine blk_drewN ?_ _|refine blk_drew ?_|refine blk_alloc ?_ _));refine blk_put (cs := #[.int .i64 4, .string (⟨#[]⟩ : ByteArray), .int .i64 0, .string x319003_1, .bool x319004_1, .slice none 0 0, .slice none 0 0, .int .i64 x319007_1, .int .i64 x319008_1]) ?_ 3 _ rfl;(with_reducible repeat (first|refine blk_drewN ?_ _|refine blk_drew ?_|refine blk_alloc ?_ _));refine blk_put (cs := #[.int .i64 4, .string (⟨#[]⟩ : ByteArray), .int .i64 x319002_1, .string x319003_1, .bool x319004_1, .slice none 0 0, .slice none 0 0, .int .i64 x319007_1, .int .i64 x319008_1]) ?_ 2 _ rfl;(with_reducible repeat (first|refine blk_drewN ?_ _|refine blk_drew ?_|refine blk_alloc ?_ _));refine blk_put (cs := #[.int .i64 4, .string x319001_1, .int .i64 x319002_1, .string x319003_1, .bool x319004_1, .slice none 0 0, .slice none 0 0, .int .i64 x319007_1, .int .i64 x319008_1]) ?_ 1 _ rfl;(with_reducible repeat (first|refine blk_drewN ?_ _|refine blk_drew ?_|refine blk_alloc ?_ _));refine blk_put (cs := #[.int .i64 x319000_1, .string x319001_1, .int .i64 x319002_1, .string x319003_1, .bool x319004_1, .slice none 0 0, .slice none 0 0, .int .i64 x319007_1, .int .i64 x319008_1]) ?_ 0 _ rfl;(with_reducible repeat (first|refine blk_drewN ?_ _|refine blk_drew ?_|refine blk_alloc ?_ _));refine blk_far ?_ NB318_0.out _;(with_reducible repeat (first|refine blk_drewN ?_ _|refine blk_drew ?_|refine blk_alloc ?_ _));exact BK318.out) Tryd.underlying38 rfl (by kernel_rfl)) rfl ?_
       exact ⟨_, _, by first|rfl|(simp [errW_none, errW_some] <;> rfl)|(simp [*, errW_none, errW_some] <;> rfl), Kd.V_nil _ _ _ _ _, by first|exact Kd.R_nil _ _ _ _ _|exact Kd.N_nil _ _ _ _ _|exact Kd.V_nil _ _ _ _ _|exact Kd.Q_nil _ _ _ _ _|exact Kd.S_nil _ _ _ _ _, by repeat (first|(with_reducible first|exact HI0.out|apply IsS50.alloc|apply IsS50.drewN|apply IsS50.drew|apply IsS50.set_1|refine IsS50.far ?_ NB0_318.out _)|exact HI0.out), by repeat (first|(with_reducible first|exact HB.out|apply below_alloc|apply pw_below_drewN|apply below_drew1|refine below_set ?_ (IsS50.ge HI0.out)|refine below_set ?_ GE318.out)|exact HB.out), by repeat (first|(with_reducible first|exact HK.out|apply KeepBut.set_|apply keep_drewN|apply keep_drew|apply keep_alloc|refine keep_far ?_ GW318.out _)|exact HK.out)⟩
      ·replace c39 := Bool.eq_false_iff.mpr c39
       subst c39
       have H1 : ((token_scanner_datum.f kj25 s0_0 x1001_25).bind fun bt329 => (if bt329.2.2.2.2.2.2.1 = true then (some (7, (⟨#[]⟩ : ByteArray), bt329.1, bt329.2.1, bt329.2.2.1, bt329.2.2.2.1, bt329.2.2.2.2.1, s0_1, s0_1, bt329.2.2.2.2.2.2.2)) else (none))) = some (r1, r2, r3, r4, r5, r6, r7, r8, r9, r10) := by rw [if_neg (show ¬ (false = true) by decide)] at H; exact H
       clear H
       have H := H1
       clear H1
       replace H := Option.bind_eq_some_iff.mp H
       obtain ⟨⟨t329, t330, t331, t332, t335, t338, t339, t340⟩, A430, H⟩ := H
       replace H : (if t339 = true then (some (7, (⟨#[]⟩ : ByteArray), t329, t330, t331, t332, t335, s0_1, s0_1, t340)) else (none)) = some (r1, r2, r3, r4, r5, r6, r7, r8, r9, r10) := H
       have A43 := Aside0.mk A430
       clear A430
       by_cases c44 : t339 = true
       ·subst c44
        have H1 : (some (7, (⟨#[]⟩ : ByteArray), t329, t330, t331, t332, t335, s0_1, s0_1, t340)) = some (r1, r2, r3, r4, r5, r6, r7, r8, r9, r10) := by rw [if_pos rfl] at H; exact H
        clear H
        have H := H1
        clear H1
        simp only [Option.some.injEq, Prod.mk.injEq] at H
        obtain ⟨rfl, rfl, rfl, rfl, rfl, rfl, rfl, rfl, rfl, rfl⟩ := H
        go_wp2_with (first|((with_reducible refine gate_callee (f := 27) rfl ?_);refine goesL_ (some 61) rfl rfl Tryd.func27 (by kernel_rfl) rfl #[.pointer (some ⟨g, 0, none⟩)] rfl (by (try simp only [List.map_toArray, List.map_cons, List.map_nil]);first|done|rfl|(simp only [List.length_drop, List.length_take];rfl)) ?_;(with_reducible refine (token_scanner_datum.calls kj25 g s0_0 x1001_25 t329 t330 t331 t332 t335 t338 true t340 w0 _ ?side1 ?side2 ?side3 A43.out).mono ?_);(case side1 => repeat (first|(with_reducible first|exact HI0.out|apply IsS50.alloc|apply IsS50.drewN|apply IsS50.drew|apply IsS50.set_1|refine IsS50.far ?_ NB0_318.out _)|exact HI0.out));(case side2 => repeat (first|(with_reducible first|exact HB.out|apply below_alloc|apply pw_below_drewN|apply below_drew1|refine below_set ?_ (IsS50.ge HI0.out)|refine below_set ?_ GE318.out)|exact HB.out));(case side3 => exact HLD.out);rintro e w45 ⟨v333, v336, rfl, ho0, ho1, hi, hb, hk⟩;refine ⟨_, rfl, ?_⟩;have n0_ := Aside0.mk (KeepBut.blk hk (g' := gb318) (o := .cells #[.int .i64 x319000_1, .string x319001_1, .int .i64 x319002_1, .string x319003_1, .bool x319004_1, .slice none 0 0, .slice none 0 0, .int .i64 x319007_1, .int .i64 x319008_1] 38 (0, 0)) (by (with_reducible repeat (first|refine blk_drewN ?_ _|refine blk_drew ?_|refine blk_alloc ?_ _));exact BK318.out) NB318_0.out (by simp));have n1_ := Aside0.mk (Kd.V_lower (Kd.V_mono (ok' := fun k_ => (w.heap.size ≤ k_) ∧ some k_ ≠ (v336 : Value).ownBlock ∧ k_ ≠ gb318 ∧ k_ ≠ g) ho0 (fun k_ hk_ => ⟨(Nat.le_trans (keep_size (w := w) (g := g) (row := none) (by repeat (first|(with_reducible first|exact HK.out|apply KeepBut.set_|apply keep_drewN|apply keep_drew|apply keep_alloc|refine keep_far ?_ GW318.out _)|exact HK.out))) hk_.1), hk_.2, (Kd.freshB (g := gb318) (o := .cells #[.int .i64 x319000_1, .string x319001_1, .int .i64 x319002_1, .string x319003_1, .bool x319004_1, .slice none 0 0, .slice none 0 0, .int .i64 x319007_1, .int .i64 x319008_1] 38 (0, 0)) (by (with_reducible repeat (first|refine blk_drewN ?_ _|refine blk_drew ?_|refine blk_alloc ?_ _));exact BK318.out) k_ hk_.1), (IsS50.fresh (by repeat (first|(with_reducible first|exact HI0.out|apply IsS50.alloc|apply IsS50.drewN|apply IsS50.drew|apply IsS50.set_1|refine IsS50.far ?_ NB0_318.out _)|exact HI0.out)) k_ hk_.1)⟩)) (keep_size (w := w) (g := g) (row := none) (by repeat (first|(with_reducible first|exact HK.out|apply KeepBut.set_|apply keep_drewN|apply keep_drew|apply keep_alloc|refine keep_far ?_ GW318.out _)|exact HK.out))));have n2_ := Aside0.mk (Kd.R_lower (Kd.R_newM (M := fun k_ => (w.heap.size ≤ k_)) (Kd.R_mono (ok' := fun k_ => True) ho1 (fun _ hk_ => trivial)) (keep_size (w := w) (g := g) (row := none) (by repeat (first|(with_reducible first|exact HK.out|apply KeepBut.set_|apply keep_drewN|apply keep_drew|apply keep_alloc|refine keep_far ?_ GW318.out _)|exact HK.out))) (fun k_ h_ => h_)) (keep_size (w := w) (g := g) (row := none) (by repeat (first|(with_reducible first|exact HK.out|apply KeepBut.set_|apply keep_drewN|apply keep_drew|apply keep_alloc|refine keep_far ?_ GW318.out _)|exact HK.out))));have n3_ := Aside0.mk (KeepBut.trans (by repeat (first|(with_reducible first|exact HK.out|apply KeepBut.set_|apply keep_drewN|apply keep_drew|apply keep_alloc|refine keep_far ?_ GW318.out _)|exact HK.out)) hk (.inl rfl));have n4_ := Aside0.mk (hb);have n5_ := Aside0.mk (hi);clear BK318;clear HK;clear HB;clear HI0;have BK318 := n0_;have HO334 := n1_;have HO337 := n2_;have HK := n3_;have HB := n4_;have HI0 := n5_;clear n0_ n1_ n2_ n3_ n4_ n5_;(try clear hb);(try clear hb2);(try clear hk);(try clear hi);(try clear ho0);(try clear ho1))|((with_reducible refine gate_dst (N := 6) rfl ?_);refine box_event ?hg (N := 6) ?hd (cs := #[.int .i64 0, .string (⟨#[]⟩ : ByteArray), .bool false, .slice none 0 0, .slice none 0 0, .int .i64 0]) (t := 33) ?hr ?_;(case hd => rfl);(case hg => rfl);(case hr => first|(go_simp;done)|(go_simp;rfl));intro gb341 hg w46 hbox hb;have n0_ := Aside0.mk (Kd.V_below (Kd.V_elderB (by (with_reducible repeat (first|apply Kd.V_alloc|apply Kd.V_drewN|apply Kd.V_drew));exact HO334.out) gb341 (Nat.le_of_eq hg.symm)) hb);have n1_ := Aside0.mk (Kd.R_below (Kd.R_elderB (by (with_reducible repeat (first|apply Kd.R_alloc|apply Kd.R_drewN|apply Kd.R_drew));exact HO337.out) gb341 (Nat.le_of_eq hg.symm)) hb);have n2_ := Aside0.mk (blk_below (g := gb318) (o := .cells #[.int .i64 x319000_1, .string x319001_1, .int .i64 x319002_1, .string x319003_1, .bool x319004_1, .slice none 0 0, .slice none 0 0, .int .i64 x319007_1, .int .i64 x319008_1] 38 (0, 0)) (by (with_reducible repeat (first|refine blk_drewN ?_ _|refine blk_drew ?_|refine blk_alloc ?_ _));exact BK318.out) hb);have n3_ := Aside0.mk (IsS50.below (by repeat (first|(with_reducible first|exact HI0.out|apply IsS50.alloc|apply IsS50.drewN|apply IsS50.drew|apply IsS50.set_1|refine IsS50.far ?_ NB0_318.out _)|exact HI0.out)) hb);have n4_ := Aside0.mk (KeepBut.trans (by repeat (first|(with_reducible first|exact HK.out|apply KeepBut.set_|apply keep_drewN|apply keep_drew|apply keep_alloc|refine keep_far ?_ GW318.out _)|exact HK.out)) (KeepBut.of_below hb g none) (.inl rfl));have n5_ := Aside0.mk (below_step (by repeat (first|(with_reducible first|exact HB.out|apply below_alloc|apply pw_below_drewN|apply below_drew1|refine below_set ?_ (IsS50.ge HI0.out)|refine below_set ?_ GE318.out)|exact HB.out)) hb);have n6_ := Aside0.mk (hbox);have n7_ := Aside0.mk ((by rw [hg];exact (keep_size (w := w) (g := g) (row := none) (by repeat (first|(with_reducible first|exact HK.out|apply KeepBut.set_|apply keep_drewN|apply keep_drew|apply keep_alloc|refine keep_far ?_ GW318.out _)|exact HK.out))) : w.heap.size ≤ gb341));have n8_ := Aside0.mk ((Nat.le_trans HW0.out (by rw [hg];exact (keep_size (w := w) (g := g) (row := none) (by repeat (first|(with_reducible first|exact HK.out|apply KeepBut.set_|apply keep_drewN|apply keep_drew|apply keep_alloc|refine keep_far ?_ GW318.out _)|exact HK.out))) : w.heap.size ≤ gb341) : w0.heap.size ≤ gb341));have n9_ := Aside0.mk ((by rw [hg];exact Nat.ne_of_lt (blk_lt (g := gb318) (o := .cells #[.int .i64 x319000_1, .string x319001_1, .int .i64 x319002_1, .string x319003_1, .bool x319004_1, .slice none 0 0, .slice none 0 0, .int .i64 x319007_1, .int .i64 x319008_1] 38 (0, 0)) (by (with_reducible repeat (first|refine blk_drewN ?_ _|refine blk_drew ?_|refine blk_alloc ?_ _));exact BK318.out)) : gb318 ≠ gb341));have n10_ := Aside0.mk ((by rw [hg];exact Nat.ne_of_gt (blk_lt (g := gb318) (o := .cells #[.int .i64 x319000_1, .string x319001_1, .int .i64 x319002_1, .string x319003_1, .bool x319004_1, .slice none 0 0, .slice none 0 0, .int .i64 x319007_1, .int .i64 x319008_1] 38 (0, 0)) (by (with_reducible repeat (first|refine blk_drewN ?_ _|refine blk_drew ?_|refine blk_alloc ?_ _));exact BK318.out)) : gb341 ≠ gb318));have n11_ := Aside0.mk ((by rw [hg];exact Nat.ne_of_lt (IsS50.lt (show IsS50 w0 _ g s0_0 t340 from by repeat (first|(with_reducible first|exact HI0.out|apply IsS50.alloc|apply IsS50.drewN|apply IsS50.drew|apply IsS50.set_1|refine IsS50.far ?_ NB0_318.out _)|exact HI0.out))) : g ≠ gb341));have n12_ := Aside0.mk ((by rw [hg];exact Nat.ne_of_gt (IsS50.lt (show IsS50 w0 _ g s0_0 t340 from by repeat (first|(with_reducible first|exact HI0.out|apply IsS50.alloc|apply IsS50.drewN|apply IsS50.drew|apply IsS50.set_1|refine IsS50.far ?_ NB0_318.out _)|exact HI0.out))) : gb341 ≠ g));clear HO334;clear HO337;clear BK318;clear HI0;clear HK;clear HB;have HO334 := n0_;have HO337 := n1_;have BK318 := n2_;have HI0 := n3_;have HK := n4_;have HB := n5_;have BK341 := n6_;have GW341 := n7_;have GE341 := n8_;have NB318_341 := n9_;have NB341_318 := n10_;have NB0_341 := n11_;have NB341_0 := n12_;clear n0_ n1_ n2_ n3_ n4_ n5_ n6_ n7_ n8_ n9_ n10_ n11_ n12_;clear hb hbox hg;have hnb47 := NB341_318.out;have hnc47 := NB318_341.out;have hnb48 := NB341_0.out;have hnc48 := NB0_341.out;have hcz49_0 : w46.cell? ⟨gb341, 0, none⟩ = some (.int .i64 0) := (blk_cell BK341.out 0).trans rfl;have hcz49_1 : w46.cell? ⟨gb341, 1, none⟩ = some (.string (⟨#[]⟩ : ByteArray)) := (blk_cell BK341.out 1).trans rfl;have hcz49_2 : w46.cell? ⟨gb341, 2, none⟩ = some (.bool false) := (blk_cell BK341.out 2).trans rfl;have hcz49_3 : w46.cell? ⟨gb341, 3, none⟩ = some (.slice none 0 0) := (blk_cell BK341.out 3).trans rfl;have hcz49_4 : w46.cell? ⟨gb341, 4, none⟩ = some (.slice none 0 0) := (blk_cell BK341.out 4).trans rfl;have hcz49_5 : w46.cell? ⟨gb341, 5, none⟩ = some (.int .i64 0) := (blk_cell BK341.out 5).trans rfl;have hfz49_0 := blk_frozen BK341.out 0;have hfz49_1 := blk_frozen BK341.out 1;have hfz49_2 := blk_frozen BK341.out 2;have hfz49_3 := blk_frozen BK341.out 3;have hfz49_4 := blk_frozen BK341.out 4;have hfz49_5 := blk_frozen BK341.out 5;obtain ⟨Ao50, co50, eo50⟩ := Kd.V_slice HO334.out;subst eo50;obtain ⟨Ao51, co51, eo51⟩ := Kd.R_slice HO337.out;subst eo51)|((with_reducible refine gate_store (t := 33) (p := 6) rfl ?_);refine store_event (t := 33) (p := 6) (v := ?vo_w52) (w1 := ((((((w46.setCell ⟨gb341, 0, none⟩ (.int .i64 t329)).setCell ⟨gb341, 1, none⟩ (.string t330)).setCell ⟨gb341, 2, none⟩ (.bool t331)).setCell ⟨gb341, 3, none⟩ (.slice Ao50 t332.length co50)).setCell ⟨gb341, 4, none⟩ (.slice Ao51 t335.length co51)).setCell ⟨gb341, 5, none⟩ (.int .i64 t338))) ?hg ?ho ?hn ?hr ?_;(case ho => rfl);(case hg => rfl);(case hn => rfl);(case hr => first|(go_simp;done)|(go_simp;rfl));intro w52 hw;have n0_ : Aside0 (Kd.V (Kd.int .u32) 73 w52 w.heap.size (fun k_ => (w.heap.size ≤ k_) ∧ some k_ ≠ (.slice Ao51 t335.length co51 : Value).ownBlock ∧ k_ ≠ gb318 ∧ k_ ≠ g ∧ k_ ≠ gb341) (.slice Ao50 t332.length co50) t332) := ⟨(by rw [hw];exact (by (with_reducible repeat (first|apply Kd.V_alloc|apply Kd.V_drewN|apply Kd.V_drew));exact Kd.V_mono (Kd.V_far (p := ⟨gb341, 5, none⟩) (Kd.V_far (p := ⟨gb341, 4, none⟩) (Kd.V_far (p := ⟨gb341, 3, none⟩) (Kd.V_far (p := ⟨gb341, 2, none⟩) (Kd.V_far (p := ⟨gb341, 1, none⟩) (Kd.V_far (p := ⟨gb341, 0, none⟩) (Kd.V_mono HO334.out (fun k_ hk => (⟨hk, hk.2⟩ : _ ∧ k_ ≠ gb341))) (fun _ hk => hk.2) (.int .i64 t329)) (fun _ hk => hk.2) (.string t330)) (fun _ hk => hk.2) (.bool t331)) (fun _ hk => hk.2) (.slice Ao50 t332.length co50)) (fun _ hk => hk.2) (.slice Ao51 t335.length co51)) (fun _ hk => hk.2) (.int .i64 t338)) (fun _ hk => ⟨hk.1.1.1, ⟨hk.1.1.2.1, ⟨hk.1.1.2.2.1, ⟨hk.1.1.2.2.2, hk.1.2⟩⟩⟩⟩)))⟩;have n1_ : Aside0 (Kd.R k33 33 w52 w.heap.size (fun k_ => (w.heap.size ≤ k_) ∧ k_ ≠ gb341) (.slice Ao51 t335.length co51) t335) := ⟨(by rw [hw];exact (by (with_reducible repeat (first|apply Kd.R_alloc|apply Kd.R_drewN|apply Kd.R_drew));exact Kd.R_mono (Kd.R_far (p := ⟨gb341, 5, none⟩) (Kd.R_far (p := ⟨gb341, 4, none⟩) (Kd.R_far (p := ⟨gb341, 3, none⟩) (Kd.R_far (p := ⟨gb341, 2, none⟩) (Kd.R_far (p := ⟨gb341, 1, none⟩) (Kd.R_far (p := ⟨gb341, 0, none⟩) (Kd.R_mono HO337.out (fun k_ hk => (⟨hk, hk.2⟩ : _ ∧ k_ ≠ gb341))) (fun _ hk => hk.2) (.int .i64 t329)) (fun _ hk => hk.2) (.string t330)) (fun _ hk => hk.2) (.bool t331)) (fun _ hk => hk.2) (.slice Ao50 t332.length co50)) (fun _ hk => hk.2) (.slice Ao51 t335.length co51)) (fun _ hk => hk.2) (.int .i64 t338)) (fun _ hk => ⟨hk.1.1.1, hk.1.2⟩)))⟩;have n2_ : Aside0 (w52.heap[gb318]? = some (.cells #[.int .i64 x319000_1, .string x319001_1, .int .i64 x319002_1, .string x319003_1, .bool x319004_1, .slice none 0 0, .slice none 0 0, .int .i64 x319007_1, .int .i64 x319008_1] 38 (0, 0))) := ⟨(by rw [hw];exact (by (with_reducible repeat (first|refine blk_drewN ?_ _|refine blk_drew ?_|refine blk_alloc ?_ _));refine blk_far ?_ NB318_341.out _;(with_reducible repeat (first|refine blk_drewN ?_ _|refine blk_drew ?_|refine blk_alloc ?_ _));refine blk_far ?_ NB318_341.out _;(with_reducible repeat (first|refine blk_drewN ?_ _|refine blk_drew ?_|refine blk_alloc ?_ _));refine blk_far ?_ NB318_341.out _;(with_reducible repeat (first|refine blk_drewN ?_ _|refine blk_drew ?_|refine blk_alloc ?_ _));refine blk_far ?_ NB318_341.out _;(with_reducible repeat (first|refine blk_drewN ?_ _|refine blk_drew ?_|refine blk_alloc ?_ _));refine blk_far ?_ NB318_341.out _;(with_reducible repeat (first|refine blk_drewN ?_ _|refine blk_drew ?_|refine blk_alloc ?_ _));refine blk_far ?_ NB318_341.out _;(with_reducible repeat (first|refine blk_drewN ?_ _|refine blk_drew ?_|refine blk_alloc ?_ _));exact BK318.out))⟩;have n3_ : Aside0 (w52.heap[gb341]? = some (.cells #[.int .i64 t329, .string t330, .bool t331, .slice Ao50 t332.length co50, .slice Ao51 t335.length co51, .int .i64 t338] 33 (0, 0))) := ⟨(by rw [hw];exact (by (with_reducible repeat (first|refine blk_drewN ?_ _|refine blk_drew ?_|refine blk_alloc ?_ _));refine blk_put (cs := #[.int .i64 t329, .string t330, .bool t331, .slice Ao50 t332.length co50, .slice Ao51 t335.length co51, .int .i64 0]) ?_ 5 _ rfl;(with_reducible repeat (first|refine blk_drewN ?_ _|refine blk_drew ?_|refine blk_alloc ?_ _));refine blk_put (cs := #[.int .i64 t329, .string t330, .bool t331, .slice Ao50 t332.length co50, .slice none 0 0, .int .i64 0]) ?_ 4 _ rfl;(with_reducible repeat (first|refine blk_drewN ?_ _|refine blk_drew ?_|refine blk_alloc ?_ _));refine blk_put (cs := #[.int .i64 t329, .string t330, .bool t331, .slice none 0 0, .slice none 0 0, .int .i64 0]) ?_ 3 _ rfl;(with_reducible repeat (first|refine blk_drewN ?_ _|refine blk_drew ?_|refine blk_alloc ?_ _));refine blk_put (cs := #[.int .i64 t329, .string t330, .bool false, .slice none 0 0, .slice none 0 0, .int .i64 0]) ?_ 2 _ rfl;(with_reducible repeat (first|refine blk_drewN ?_ _|refine blk_drew ?_|refine blk_alloc ?_ _));refine blk_put (cs := #[.int .i64 t329, .string (⟨#[]⟩ : ByteArray), .bool false, .slice none 0 0, .slice none 0 0, .int .i64 0]) ?_ 1 _ rfl;(with_reducible repeat (first|refine blk_drewN ?_ _|refine blk_drew ?_|refine blk_alloc ?_ _));refine blk_put (cs := #[.int .i64 0, .string (⟨#[]⟩ : ByteArray), .bool false, .slice none 0 0, .slice none 0 0, .int .i64 0]) ?_ 0 _ rfl;(with_reducible repeat (first|refine blk_drewN ?_ _|refine blk_drew ?_|refine blk_alloc ?_ _));exact BK341.out))⟩;have n4_ : Aside0 (IsS50 w0 w52 g s0_0 t340) := ⟨(by rw [hw];exact (by repeat (first|(with_reducible first|exact HI0.out|apply IsS50.alloc|apply IsS50.drewN|apply IsS50.drew|apply IsS50.set_1|refine IsS50.far ?_ NB0_318.out _|refine IsS50.far ?_ NB0_341.out _)|exact HI0.out)))⟩;have n5_ : Aside0 (KeepBut w w52 g none) := ⟨(by rw [hw];exact (by repeat (first|(with_reducible first|exact HK.out|apply KeepBut.set_|apply keep_drewN|apply keep_drew|apply keep_alloc|refine keep_far ?_ GW318.out _|refine keep_far ?_ GW341.out _)|exact HK.out)))⟩;have n6_ : Aside0 (Below w0.heap.size w0 w52) := ⟨(by rw [hw];exact (by repeat (first|(with_reducible first|exact HB.out|apply below_alloc|apply pw_below_drewN|apply below_drew1|refine below_set ?_ (IsS50.ge HI0.out)|refine below_set ?_ GE318.out|refine below_set ?_ GE341.out)|exact HB.out)))⟩;clear hw;clear HO334;clear HO337;clear BK318;clear BK341;clear HI0;clear HK;clear HB;have HO334 := n0_;have HO337 := n1_;have BK318 := n2_;have BK341 := n3_;have HI0 := n4_;have HK := n5_;have HB := n6_;clear n0_ n1_ n2_ n3_ n4_ n5_ n6_;have hcz53_0 : w52.cell? ⟨gb341, 0, none⟩ = some (.int .i64 t329) := (blk_cell BK341.out 0).trans rfl;have hcz53_1 : w52.cell? ⟨gb341, 1, none⟩ = some (.string t330) := (blk_cell BK341.out 1).trans rfl;have hcz53_2 : w52.cell? ⟨gb341, 2, none⟩ = some (.bool t331) := (blk_cell BK341.out 2).trans rfl;have hcz53_3 : w52.cell? ⟨gb341, 3, none⟩ = some (.slice Ao50 t332.length co50) := (blk_cell BK341.out 3).trans rfl;have hcz53_4 : w52.cell? ⟨gb341, 4, none⟩ = some (.slice Ao51 t335.length co51) := (blk_cell BK341.out 4).trans rfl;have hcz53_5 : w52.cell? ⟨gb341, 5, none⟩ = some (.int .i64 t338) := (blk_cell BK341.out 5).trans rfl;have hfz53_0 := blk_frozen BK341.out 0;have hfz53_1 := blk_frozen BK341.out 1;have hfz53_2 := blk_frozen BK341.out 2;have hfz53_3 := blk_frozen BK341.out 3;have hfz53_4 := blk_frozen BK341.out 4;have hfz53_5 := blk_frozen BK341.out 5;have hnb54 := NB318_0.out;have hnc54 := NB0_318.out;have hcz55_0 : w52.cell? ⟨gb318, 0, none⟩ = some (.int .i64 x319000_1) := (blk_cell BK318.out 0).trans rfl;have hcz55_1 : w52.cell? ⟨gb318, 1, none⟩ = some (.string x319001_1) := (blk_cell BK318.out 1).trans rfl;have hcz55_2 : w52.cell? ⟨gb318, 2, none⟩ = some (.int .i64 x319002_1) := (blk_cell BK318.out 2).trans rfl;have hcz55_3 : w52.cell? ⟨gb318, 3, none⟩ = some (.string x319003_1) := (blk_cell BK318.out 3).trans rfl;have hcz55_4 : w52.cell? ⟨gb318, 4, none⟩ = some (.bool x319004_1) := (blk_cell BK318.out 4).trans rfl;have hcz55_5 : w52.cell? ⟨gb318, 5, none⟩ = some (.slice none 0 0) := (blk_cell BK318.out 5).trans rfl;have hcz55_6 : w52.cell? ⟨gb318, 6, none⟩ = some (.slice none 0 0) := (blk_cell BK318.out 6).trans rfl;have hcz55_7 : w52.cell? ⟨gb318, 7, none⟩ = some (.int .i64 x319007_1) := (blk_cell BK318.out 7).trans rfl;have hcz55_8 : w52.cell? ⟨gb318, 8, none⟩ = some (.int .i64 x319008_1) := (blk_cell BK318.out 8).trans rfl;have hfz55_0 := blk_frozen BK318.out 0;have hfz55_1 := blk_frozen BK318.out 1;have hfz55_2 := blk_frozen BK318.out 2;have hfz55_3 := blk_frozen BK318.out 3;have hfz55_4 := blk_frozen BK318.out 4;have hfz55_5 := blk_frozen BK318.out 5;have hfz55_6 := blk_frozen BK318.out 6;have hfz55_7 := blk_frozen BK318.out 7;have hfz55_8 := blk_frozen BK318.out 8)|((with_reducible refine gate_store (t := 38) (p := 2) rfl ?_);refine store_event (t := 38) (p := 2) (v := ?vo_w56) (w1 := ((((((((((w52.setCell ⟨gb341, 5, none⟩ (.int .i64 s0_1)).setCell ⟨gb318, 0, none⟩ (.int .i64 7)).setCell ⟨gb318, 1, none⟩ (.string (⟨#[]⟩ : ByteArray))).setCell ⟨gb318, 2, none⟩ (.int .i64 t329)).setCell ⟨gb318, 3, none⟩ (.string t330)).setCell ⟨gb318, 4, none⟩ (.bool t331)).setCell ⟨gb318, 5, none⟩ (.slice Ao50 t332.length co50)).setCell ⟨gb318, 6, none⟩ (.slice Ao51 t335.length co51)).setCell ⟨gb318, 7, none⟩ (.int .i64 s0_1)).setCell ⟨gb318, 8, none⟩ (.int .i64 s0_1))) ?hg ?ho ?hn ?hr ?_;(case ho => rfl);(case hg => rfl);(case hn => rfl);(case hr => first|(go_simp;done)|(go_simp;rfl));intro w56 hw;have n0_ : Aside0 (Kd.V (Kd.int .u32) 73 w56 w.heap.size (fun k_ => (w.heap.size ≤ k_) ∧ some k_ ≠ (.slice Ao51 t335.length co51 : Value).ownBlock ∧ k_ ≠ gb318 ∧ k_ ≠ g ∧ k_ ≠ gb341) (.slice Ao50 t332.length co50) t332) := ⟨(by rw [hw];exact (by (with_reducible repeat (first|apply Kd.V_alloc|apply Kd.V_drewN|apply Kd.V_drew));exact Kd.V_mono (Kd.V_far (p := ⟨gb318, 8, none⟩) (Kd.V_far (p := ⟨gb318, 7, none⟩) (Kd.V_far (p := ⟨gb318, 6, none⟩) (Kd.V_far (p := ⟨gb318, 5, none⟩) (Kd.V_far (p := ⟨gb318, 4, none⟩) (Kd.V_far (p := ⟨gb318, 3, none⟩) (Kd.V_far (p := ⟨gb318, 2, none⟩) (Kd.V_far (p := ⟨gb318, 1, none⟩) (Kd.V_far (p := ⟨gb318, 0, none⟩) (Kd.V_far (p := ⟨gb341, 5, none⟩) (Kd.V_mono (Kd.V_mono HO334.out (fun k_ hk => (⟨hk, hk.2.2.2.2⟩ : _ ∧ k_ ≠ gb341))) (fun k_ hk => (⟨hk, hk.1.2.2.1⟩ : _ ∧ k_ ≠ gb318))) (fun _ hk => hk.1.2) (.int .i64 s0_1)) (fun _ hk => hk.2) (.int .i64 7)) (fun _ hk => hk.2) (.string (⟨#[]⟩ : ByteArray))) (fun _ hk => hk.2) (.int .i64 t329)) (fun _ hk => hk.2) (.string t330)) (fun _ hk => hk.2) (.bool t331)) (fun _ hk => hk.2) (.slice Ao50 t332.length co50)) (fun _ hk => hk.2) (.slice Ao51 t335.length co51)) (fun _ hk => hk.2) (.int .i64 s0_1)) (fun _ hk => hk.2) (.int .i64 s0_1)) (fun _ hk => ⟨hk.1.1.1, ⟨hk.1.1.2.1, ⟨hk.1.1.2.2.1, ⟨hk.1.1.2.2.2.1, hk.1.1.2.2.2.2⟩⟩⟩⟩)))⟩;have n1_ : Aside0 (Kd.R k33 33 w56 w.heap.size (fun k_ => (w.heap.size ≤ k_) ∧ k_ ≠ gb341) (.slice Ao51 t335.length co51) t335) := ⟨(by rw [hw];exact (by (with_reducible repeat (first|apply Kd.R_alloc|apply Kd.R_drewN|apply Kd.R_drew));exact Kd.R_mono (Kd.R_far (p := ⟨gb318, 8, none⟩) (Kd.R_far (p := ⟨gb318, 7, none⟩) (Kd.R_far (p := ⟨gb318, 6, none⟩) (Kd.R_far (p := ⟨gb318, 5, none⟩) (Kd.R_far (p := ⟨gb318, 4, none⟩) (Kd.R_far (p := ⟨gb318, 3, none⟩) (Kd.R_far (p := ⟨gb318, 2, none⟩) (Kd.R_far (p := ⟨gb318, 1, none⟩) (Kd.R_far (p := ⟨gb318, 0, none⟩) (Kd.R_far (p := ⟨gb341, 5, none⟩) (Kd.R_types (Kd.R_mono HO337.out (fun k_ hk => (⟨hk, hk.2⟩ : _ ∧ k_ ≠ gb341))) BK318.out (by decide)) (fun _ hk => hk.1.2) (.int .i64 s0_1)) (fun _ hk => hk.2) (.int .i64 7)) (fun _ hk => hk.2) (.string (⟨#[]⟩ : ByteArray))) (fun _ hk => hk.2) (.int .i64 t329)) (fun _ hk => hk.2) (.string t330)) (fun _ hk => hk.2) (.bool t331)) (fun _ hk => hk.2) (.slice Ao50 t332.length co50)) (fun _ hk => hk.2) (.slice Ao51 t335.length co51)) (fun _ hk => hk.2) (.int .i64 s0_1)) (fun _ hk => hk.2) (.int .i64 s0_1)) (fun _ hk => ⟨hk.1.1.1, hk.1.1.2⟩)))⟩;have n2_ : Aside0 (w56.heap[gb318]? = some (.cells #[.int .i64 7, .string (⟨#[]⟩ : ByteArray), .int .i64 t329, .string t330, .bool t331, .slice Ao50 t332.length co50, .slice Ao51 t335.length co51, .int .i64 s0_1, .int .i64 s0_1] 38 (0, 0))) := ⟨(by rw [hw];exact (by (with_reducible repeat (first|refine blk_drewN ?_ _|refine blk_drew ?_|refine blk_alloc ?_ _));refine blk_put (cs := #[.int .i64 7, .string (⟨#[]⟩ : ByteArray), .int .i64 t329, .string t330, .bool t331, .slice Ao50 t332.length co50, .slice Ao51 t335.length co51, .int .i64 s0_1, .int .i64 x319008_1]) ?_ 8 _ rfl;(with_reducible repeat (first|refine blk_drewN ?_ _|refine blk_drew ?_|refine blk_alloc ?_ _));refine blk_put (cs := #[.int .i64 7, .string (⟨#[]⟩ : ByteArray), .int .i64 t329, .string t330, .bool t331, .slice Ao50 t332.length co50, .slice Ao51 t335.length co51, .int .i64 x319007_1, .int .i64 x319008_1]) ?_ 7 _ rfl;(with_reducible repeat (first|refine blk_drewN ?_ _|refine blk_drew ?_|refine blk_alloc ?_ _));refine blk_put (cs := #[.int .i64 7, .string (⟨#[]⟩ : ByteArray), .int .i64 t329, .string t330, .bool t331, .slice Ao50 t332.length co50, .slice none 0 0, .int .i64 x319007_1, .int .i64 x319008_1]) ?_ 6 _ rfl;(with_reducible repeat (first|refine blk_drewN ?_ _|refine blk_drew ?_|refine blk_alloc ?_ _));refine blk_put (cs := #[.int .i64 7, .string (⟨#[]⟩ : ByteArray), .int .i64 t329, .string t330, .bool t331, .slice none 0 0, .slice none 0 0, .int .i64 x319007_1, .int .i64 x319008_1]) ?_ 5 _ rfl;(with_reducible repeat (first|refine blk_drewN ?_ _|refine blk_drew ?_|refine blk_alloc ?_ _));refine blk_put (cs := #[.int .i64 7, .string (⟨#[]⟩ : ByteArray), .int .i64 t329, .string t330, .bool x319004_1, .slice none 0 0, .slice none 0 0, .int .i64 x319007_1, .int .i64 x319008_1]) ?_ 4 _ rfl;(with_reducible repeat (first|refine blk_drewN ?_ _|refine blk_drew ?_|refine blk_alloc ?_ _));refine blk_put (cs := #[.int .i64 7, .string (⟨#[]⟩ : ByteArray), .int .i64 t329, .string x319003_1, .bool x319004_1, .slice none 0 0, .slice none 0 0, .int .i64 x319007_1, .int .i64 x319008_1]) ?_ 3 _ rfl;(with_reducible repeat (first|refine blk_drewN ?_ _|refine blk_drew ?_|refine blk_alloc ?_ _));refine blk_put (cs := #[.int .i64 7, .string (⟨#[]⟩ : ByteArray), .int .i64 x319002_1, .string x319003_1, .bool x319004_1, .slice none 0 0, .slice none 0 0, .int .i64 x319007_1, .int .i64 x319008_1]) ?_ 2 _ rfl;(with_reducible repeat (first|refine blk_drewN ?_ _|refine blk_drew ?_|refine blk_alloc ?_ _));refine blk_put (cs := #[.int .i64 7, .string x319001_1, .int .i64 x319002_1, .string x319003_1, .bool x319004_1, .slice none 0 0, .slice none 0 0, .int .i64 x319007_1, .int .i64 x319008_1]) ?_ 1 _ rfl;(with_reducible repeat (first|refine blk_drewN ?_ _|refine blk_drew ?_|refine blk_alloc ?_ _));refine blk_put (cs := #[.int .i64 x319000_1, .string x319001_1, .int .i64 x319002_1, .string x319003_1, .bool x319004_1, .slice none 0 0, .slice none 0 0, .int .i64 x319007_1, .int .i64 x319008_1]) ?_ 0 _ rfl;(with_reducible repeat (first|refine blk_drewN ?_ _|refine blk_drew ?_|refine blk_alloc ?_ _));refine blk_far ?_ NB318_341.out _;(with_reducible repeat (first|refine blk_drewN ?_ _|refine blk_drew ?_|refine blk_alloc ?_ _));exact BK318.out))⟩;have n3_ : Aside0 (w56.heap[gb341]? = some (.cells #[.int .i64 t329, .string t330, .bool t331, .slice Ao50 t332.length co50, .slice Ao51 t335.length co51, .int .i64 s0_1] 33 (0, 0))) := ⟨(by rw [hw];exact (by (with_reducible repeat (first|refine blk_drewN ?_ _|refine blk_drew ?_|refine blk_alloc ?_ _));refine blk_far ?_ NB341_318.out _;(with_reducible repeat (first|refine blk_drewN ?_ _|refine blk_drew ?_|refine blk_alloc ?_ _));refine blk_far ?_ NB341_318.out _;(with_reducible repeat (first|refine blk_drewN ?_ _|refine blk_drew ?_|refine blk_alloc ?_ _));refine blk_far ?_ NB341_318.out _;(with_reducible repeat (first|refine blk_drewN ?_ _|refine blk_drew ?_|refine blk_alloc ?_ _));refine blk_far ?_ NB341_318.out _;(with_reducible repeat (first|refine blk_drewN ?_ _|refine blk_drew ?_|refine blk_alloc ?_ _));refine blk_far ?_ NB341_318.out _;(with_reducible repeat (first|refine blk_drewN ?_ _|refine blk_drew ?_|refine blk_alloc ?_ _));refine blk_far ?_ NB341_318.out _;(with_reducible repeat (first|refine blk_drewN ?_ _|refine blk_drew ?_|refine blk_alloc ?_ _));refine blk_far ?_ NB341_318.out _;(with_reducible repeat (first|refine blk_drewN ?_ _|refine blk_drew ?_|refine blk_alloc ?_ _));refine blk_far ?_ NB341_318.out _;(with_reducible repeat (first|refine blk_drewN ?_ _|refine blk_drew ?_|refine blk_alloc ?_ _));refine blk_far ?_ NB341_318.out _;(with_reducible repeat (first|refine blk_drewN ?_ _|refine blk_drew ?_|refine blk_alloc ?_ _));refine blk_put (cs := #[.int .i64 t329, .string t330, .bool t331, .slice Ao50 t332.length co50, .slice Ao51 t335.length co51, .int .i64 t338]) ?_ 5 _ rfl;(with_reducible repeat (first|refine blk_drewN ?_ _|refine blk_drew ?_|refine blk_alloc ?_ _));exact BK341.out))⟩;have n4_ : Aside0 (IsS50 w0 w56 g s0_0 t340) := ⟨(by rw [hw];exact (by repeat (first|(with_reducible first|exact HI0.out|apply IsS50.alloc|apply IsS50.drewN|apply IsS50.drew|apply IsS50.set_1|refine IsS50.far ?_ NB0_318.out _|refine IsS50.far ?_ NB0_341.out _)|exact HI0.out)))⟩;have n5_ : Aside0 (KeepBut w w56 g none) := ⟨(by rw [hw];exact (by repeat (first|(with_reducible first|exact HK.out|apply KeepBut.set_|apply keep_drewN|apply keep_drew|apply keep_alloc|refine keep_far ?_ GW318.out _|refine keep_far ?_ GW341.out _)|exact HK.out)))⟩;have n6_ : Aside0 (Below w0.heap.size w0 w56) := ⟨(by rw [hw];exact (by repeat (first|(with_reducible first|exact HB.out|apply below_alloc|apply pw_below_drewN|apply below_drew1|refine below_set ?_ (IsS50.ge HI0.out)|refine below_set ?_ GE318.out|refine below_set ?_ GE341.out)|exact HB.out)))⟩;clear hw;clear HO334;clear HO337;clear BK318;clear BK341;clear HI0;clear HK;clear HB;have HO334 := n0_;have HO337 := n1_;have BK318 := n2_;have BK341 := n3_;have HI0 := n4_;have HK := n5_;have HB := n6_;clear n0_ n1_ n2_ n3_ n4_ n5_ n6_))
        refine bodyPost_ret (results_cell_row rfl _ _ gb318 38 #[.int .i64 7, .string (⟨#[]⟩ : ByteArray), .int .i64 t329, .string t330, .bool t331, .slice Ao50 t332.length co50, .slice Ao51 t335.length co51, .int .i64 s0_1, .int .i64 s0_1] (0, 0) _ rfl (by (with_reducible repeat (first|refine blk_drewN ?_ _|refine blk_drew ?_|refine blk_alloc ?_ _));exact BK318.out) Tryd.underlying38 rfl (by kernel_rfl)) rfl ?_
        exact ⟨_, _, by first|rfl|(simp [errW_none, errW_some] <;> rfl)|(simp [*, errW_none, errW_some] <;> rfl), by (with_reducible repeat (first|apply Kd.V_alloc|apply Kd.V_drewN|apply Kd.V_drew));exact Kd.V_mono HO334.out (fun _ hk => ⟨hk.1, hk.2.1⟩), by (with_reducible repeat (first|apply Kd.R_alloc|apply Kd.R_drewN|apply Kd.R_drew));exact Kd.R_mono HO337.out (fun _ hk => hk.1), by repeat (first|(with_reducible first|exact HI0.out|apply IsS50.alloc|apply IsS50.drewN|apply IsS50.drew|apply IsS50.set_1|refine IsS50.far ?_ NB0_318.out _|refine IsS50.far ?_ NB0_341.out _)|exact HI0.out), by repeat (first|(with_reducible first|exact HB.out|apply below_alloc|apply pw_below_drewN|apply below_drew1|refine below_set ?_ (IsS50.ge HI0.out)|refine below_set ?_ GE318.out|refine below_set ?_ GE341.out)|exact HB.out), by repeat (first|(with_reducible first|exact HK.out|apply KeepBut.set_|apply keep_drewN|apply keep_drew|apply keep_alloc|refine keep_far ?_ GW318.out _|refine keep_far ?_ GW341.out _)|exact HK.out)⟩
       ·replace c44 := Bool.eq_false_iff.mpr c44
        subst c44
        have H1 : (none) = some (r1, r2, r3, r4, r5, r6, r7, r8, r9, r10) := by rw [if_neg (show ¬ (false = true) by decide)] at H; exact H
        clear H
        have H := H1
        clear H1
        exact absurd H (by simp)
end Go.Proofs.YtefefpkgiecikaaDoor.P
namespace Go.Proofs.YtefefpkgiecikaaDoor.P
open Go.RowKit Go.Proofs.YtefefpkgiecikaaDoorW.PrintWords Go.Proofs.YtefefpkgiecikaaDoorW.PrintLast Go.Proofs.YtefefpkgiecikaaDoorW.PrintMore
attribute [local go_sem] max2_int min2_int max_two min_two max_three min_three max_four min_four
set_option linter.unusedVariables false
set_option linter.unusedSimpArgs false
def token_Scan_1.f (k : Nat) (a0 : Int) : Option (Bool) := (utf_Scalar.f k a0).bind fun t366 => (some (!t366))
theorem token_Scan_1.mono : ∀ a0 k, LeO (token_Scan_1.f k a0) (token_Scan_1.f (k + 1) a0) := by
 intro a0 k
 unfold token_Scan_1.f
 repeat' first
   | (with_reducible exact utf_Scalar.mono _ _)
   | (with_reducible exact LeO.refl _)
   | (with_reducible exact LeO.none _)
   | (with_reducible refine LeO.ite ?_ ?_)
   | (with_reducible refine LeO.bind ?_ (fun _ => ?_))
   | exact utf_Scalar.mono _ _
   | exact LeO.none _
   | refine LeO.ite ?_ ?_
   | refine LeO.bind ?_ (fun _ => ?_)
set_option maxHeartbeats 8000000 in
set_option maxRecDepth 100000 in
theorem token_Scan_1.calls (k : Nat) (a0 : Int) (r : Bool) (w : World) (h : token_Scan_1.f k a0 = some r) :
  Calls Tryd.prog 10 #[.int .i64 a0] w fun e w' => e = .returned (.bool r) ∧ Drawn0 w w' := by
 have H : ((utf_Scalar.f k a0).bind fun t366 => (some (!t366))) = some r := h
 clear h
 replace H := Option.bind_eq_some_iff.mp H
 obtain ⟨t366, A20, H⟩ := H
 replace H : (some (!t366)) = some r := H
 have A2 := Aside0.mk A20
 clear A20
 obtain rfl := Option.some.inj H
 go_enter Tryd.func10, Tryd.ntmps10
 go_wp2_with (first|((with_reducible refine gate_callee (f := 11) rfl ?_);refine goesL_ (some 4) rfl rfl Tryd.func11 (by kernel_rfl) rfl #[.int .i64 a0] rfl (by (try simp only [List.map_toArray, List.map_cons, List.map_nil]);first|done|rfl|(simp only [List.length_drop, List.length_take];rfl)) ?_;(with_reducible refine (utf_Scalar.calls k a0 t366 _ A2.out).mono ?_);rintro e w' ⟨rfl, ⟨nd, rfl⟩⟩;refine ⟨_, rfl, ?_⟩))
 go_ret
 exact ⟨by first|rfl|(simp;done)|(simp [*];done), by repeat (first|exact Drawn0.refl _|apply Drawn0.step)⟩
end Go.Proofs.YtefefpkgiecikaaDoor.P
namespace Go.Proofs.YtefefpkgiecikaaDoor.P
open Go.RowKit Go.Proofs.YtefefpkgiecikaaDoorW.PrintWords Go.Proofs.YtefefpkgiecikaaDoorW.PrintLast Go.Proofs.YtefefpkgiecikaaDoorW.PrintMore
attribute [local go_sem] max2_int min2_int max_two min_two max_three min_three max_four min_four
set_option linter.unusedVariables false
set_option linter.unusedSimpArgs false
def slices_IndexFunc_int_int_token_Scan_1.l0 : Nat → List Int → Int → Int → Option (Int)
 | 0, _, _, _ => none
 | k + 1, x0, x7, x8 => if x8 < x7 then (if 0 ≤ x8 then (if x8 < (x0.length : Int) then ((token_Scan_1.f k (rd x0 x8)).bind fun t368 => (if t368 = true then (some x8) else (slices_IndexFunc_int_int_token_Scan_1.l0 k x0 x7 (wrap64 (x8 + 1))))) else (none)) else (none)) else (some (-1))
def slices_IndexFunc_int_int_token_Scan_1.f (k : Nat) (l0 : List Int)  : Option (Int) := slices_IndexFunc_int_int_token_Scan_1.l0 k l0 (l0.length : Int) 0
theorem slices_IndexFunc_int_int_token_Scan_1.mono_l : ∀ k, (∀ y0 y1 y2, LeO (slices_IndexFunc_int_int_token_Scan_1.l0 k y0 y1 y2) (slices_IndexFunc_int_int_token_Scan_1.l0 (k + 1) y0 y1 y2))
 | 0 => fun _ _ _ r h => by simp [slices_IndexFunc_int_int_token_Scan_1.l0] at h
 | k + 1 => by
  have ih0 := slices_IndexFunc_int_int_token_Scan_1.mono_l k
  ·intro y0 y1 y2
   unfold slices_IndexFunc_int_int_token_Scan_1.l0
   repeat' first
   | (with_reducible exact ih0 _ _ _)
   | (with_reducible exact token_Scan_1.mono _ _)
   | (with_reducible exact LeO.refl _)
   | (with_reducible exact LeO.none _)
   | (with_reducible refine LeO.ite ?_ ?_)
   | (with_reducible refine LeO.bind ?_ (fun _ => ?_))
   | exact ih0 _ _ _
   | exact token_Scan_1.mono _ _
   | exact LeO.none _
   | refine LeO.ite ?_ ?_
   | refine LeO.bind ?_ (fun _ => ?_)
theorem slices_IndexFunc_int_int_token_Scan_1.mono : ∀ a0 k, LeO (slices_IndexFunc_int_int_token_Scan_1.f k a0) (slices_IndexFunc_int_int_token_Scan_1.f (k + 1) a0) := by
 intro a0 k
 have ih0 := slices_IndexFunc_int_int_token_Scan_1.mono_l k
 unfold slices_IndexFunc_int_int_token_Scan_1.f
 repeat' first
   | (with_reducible exact ih0 _ _ _)
   | (with_reducible exact token_Scan_1.mono _ _)
   | (with_reducible exact LeO.refl _)
   | (with_reducible exact LeO.none _)
   | (with_reducible refine LeO.ite ?_ ?_)
   | (with_reducible refine LeO.bind ?_ (fun _ => ?_))
   | exact ih0 _ _ _
   | exact token_Scan_1.mono _ _
   | exact LeO.none _
   | refine LeO.ite ?_ ?_
   | refine LeO.bind ?_ (fun _ => ?_)
set_option maxHeartbeats 8000000 in
set_option maxRecDepth 100000 in
theorem slices_IndexFunc_int_int_token_Scan_1.calls (k : Nat) (A0 : Option Addr) (c0 : Nat) (l0 : List Int)  (r : Int) (w : World) (hr0 : Kd.C (Kd.int .i64) w A0 l0.length l0) (hc0 : l0.length ≤ c0) (h : slices_IndexFunc_int_int_token_Scan_1.f k l0 = some r) :
  Calls Tryd.prog 9 #[.slice A0 l0.length c0, .func (.func 10) #[] #[]] w fun e w' => e = .returned (.int .i64 r) ∧ Drawn0 w w' := by
 have HR0 := Aside0.mk hr0
 have HC0 := Aside0.mk hc0
 clear hr0 hc0
 have H : (slices_IndexFunc_int_int_token_Scan_1.l0 k l0 (l0.length : Int) 0) = some r := h
 clear h
 have H' := Aside0.mk H
 clear H
 go_enter Tryd.func9, Tryd.ntmps9
 go_wp2
 go_loopg [8] k (fun kq v8 w' => ∃ (x8_1 : Int), v8 = .int .i64 x8_1 ∧ Aside0 (slices_IndexFunc_int_int_token_Scan_1.l0 kq l0 (l0.length : Int) x8_1 = some r) ∧ Aside0 (kq ≤ k) ∧ Drawn0 w w')
 case atStart => exact ⟨(0), (by first|rfl|(simp;done)|(simp [*];done)), H', ⟨Nat.le_refl _⟩, by repeat (first|exact Drawn0.refl _|apply Drawn0.step)⟩
 case round =>
  clear H'
  try clear p2
  obtain ⟨x8_1, rfl, HA, HK1, ⟨m1, rfl⟩⟩ := hrel
  cases gk with
  | zero => exact absurd HA.out (by simp [slices_IndexFunc_int_int_token_Scan_1.l0])
  | succ k1 =>
   have H := HA.out
   clear HA
   simp only [slices_IndexFunc_int_int_token_Scan_1.l0] at H
   by_cases c3 : x8_1 < (l0.length : Int)
   ·rw [if_pos c3] at H
    have c3b0 : decide (x8_1 < (l0.length : Int)) = true := decide_eq_true c3
    clear c3
    by_cases c4 : 0 ≤ x8_1
    ·rw [if_pos c4] at H
     have c4b0 : decide (0 ≤ x8_1) = true := decide_eq_true c4
     clear c4
     by_cases c5 : x8_1 < (l0.length : Int)
     ·rw [if_pos c5] at H
      have c5b0 : decide (x8_1 < (l0.length : Int)) = true := decide_eq_true c5
      clear c5
      replace H := Option.bind_eq_some_iff.mp H
      obtain ⟨t368, A60, H⟩ := H
      replace H : (if t368 = true then (some x8_1) else (slices_IndexFunc_int_int_token_Scan_1.l0 k1 l0 (l0.length : Int) (wrap64 (x8_1 + 1)))) = some r := H
      have A6 := Aside0.mk A60
      clear A60
      by_cases c7 : t368 = true
      ·subst c7
       have H1 : (some x8_1) = some r := by rw [if_pos rfl] at H; exact H
       clear H
       have H := H1
       clear H1
       obtain rfl := Option.some.inj H
       have p367 : 0 ≤ (x8_1 : Int) := of_decide_eq_true (by first | (with_reducible assumption) | assumption)
       have q367 : x8_1 < (l0.length : Int) := of_decide_eq_true (by first | (with_reducible assumption) | assumption)
       obtain ⟨ad367, e367, hx367_0⟩ := Kd.at_int HR0.out x8_1 p367 q367
       cases e367
       replace p367 := eq_true p367
       replace q367 := eq_true q367
       go_wp2_with (first|(go_at_call 10;(with_reducible refine (token_Scan_1.calls k1 (rd l0 x8_1) true _ A6.out).mono ?_);rintro e w' ⟨rfl, ⟨nd, rfl⟩⟩))
       go_ret
       exact ⟨by first|rfl|(simp;done)|(simp [*];done), by repeat (first|exact Drawn0.refl _|apply Drawn0.step)⟩
      ·replace c7 := Bool.eq_false_iff.mpr c7
       subst c7
       have H1 : (slices_IndexFunc_int_int_token_Scan_1.l0 k1 l0 (l0.length : Int) (wrap64 (x8_1 + 1))) = some r := by rw [if_neg (show ¬ (false = true) by decide)] at H; exact H
       clear H
       have H := H1
       clear H1
       have H' := Aside0.mk H
       clear H
       have p367 : 0 ≤ (x8_1 : Int) := of_decide_eq_true (by first | (with_reducible assumption) | assumption)
       have q367 : x8_1 < (l0.length : Int) := of_decide_eq_true (by first | (with_reducible assumption) | assumption)
       obtain ⟨ad367, e367, hx367_0⟩ := Kd.at_int HR0.out x8_1 p367 q367
       cases e367
       replace p367 := eq_true p367
       replace q367 := eq_true q367
       go_wp2_with (first|(go_at_call 10;(with_reducible refine (token_Scan_1.calls k1 (rd l0 x8_1) false _ A6.out).mono ?_);rintro e w' ⟨rfl, ⟨nd, rfl⟩⟩))
       go_roundg k1
       case measure => have := HK1.out; omega
       case rel => exact ⟨(wrap64 (x8_1 + 1)), (by first|rfl|(simp;done)|(simp [*];done)), H', ⟨by have := HK1.out;omega⟩, by repeat (first|exact Drawn0.refl _|apply Drawn0.step)⟩
     ·rw [if_neg c5] at H
      exact absurd H (by simp)
    ·rw [if_neg c4] at H
     exact absurd H (by simp)
   ·rw [if_neg c3] at H
    have c3b0 : decide (x8_1 < (l0.length : Int)) = false := decide_eq_false c3
    clear c3
    obtain rfl := Option.some.inj H
    go_wp2
    go_ret
    exact ⟨by first|rfl|(simp;done)|(simp [*];done), by repeat (first|exact Drawn0.refl _|apply Drawn0.step)⟩
end Go.Proofs.YtefefpkgiecikaaDoor.P
namespace Go.Proofs.YtefefpkgiecikaaDoor.P
open Go.RowKit Go.Proofs.YtefefpkgiecikaaDoorW.PrintWords Go.Proofs.YtefefpkgiecikaaDoorW.PrintLast Go.Proofs.YtefefpkgiecikaaDoorW.PrintMore
attribute [local go_sem] max2_int min2_int max_two min_two max_three min_three max_four min_four
set_option linter.unusedVariables false
set_option linter.unusedSimpArgs false
def token_Scan.l0 : Nat → List (S38) → List Int → Int → Option ((List (S38)) × Int × Int)
 | 0, _, _, _ => none
 | k + 1, x367000, x371000, x371001 => (token_scanner_left.f x371000 x371001 1).bind fun bt372 => (if bt372.1 = true then ((token_scanner_next.f k x371000 bt372.2).bind fun bt374 => (if x367000.length < 1172812402961 then ((token_scanner_blanks.f k x371000 bt374.2.2.2.2.2.2.2.2.2).bind fun t391 => (token_Scan.l0 k (x367000 ++ [(⟨bt374.1, bt374.2.1, (⟨bt374.2.2.1, bt374.2.2.2.1, (⟨bt374.2.2.2.2.1, bt374.2.2.2.2.2.1⟩ : S30), bt374.2.2.2.2.2.2.1, bt374.2.2.2.2.2.2.2.1⟩ : S33), bt374.2.2.2.2.2.2.2.2.1⟩ : S38)]) x371000 t391)) else (none))) else (some (x367000, 0, 0)))
def token_Scan.f (k : Nat) (l0 : List Int) : Option ((List (S38)) × Int × Int) := (slices_IndexFunc_int_int_token_Scan_1.f k l0).bind fun t369 => (if t369 ≥ 0 then (some (([] : List (S38)), t369, 1)) else ((token_scanner_blanks.f k l0 0).bind fun t371 => (token_Scan.l0 k ([] : List (S38)) l0 t371)))
theorem token_Scan.mono_l : ∀ k, (∀ y0 y1 y2, LeO (token_Scan.l0 k y0 y1 y2) (token_Scan.l0 (k + 1) y0 y1 y2))
 | 0 => fun _ _ _ r h => by simp [token_Scan.l0] at h
 | k + 1 => by
  have ih0 := token_Scan.mono_l k
  ·intro y0 y1 y2
   unfold token_Scan.l0
   repeat' first
   | (with_reducible exact ih0 _ _ _)
   | (with_reducible exact slices_IndexFunc_int_int_token_Scan_1.mono _ _)
   | (with_reducible exact token_scanner_blanks.mono _ _ _)
   | (with_reducible exact token_scanner_next.mono _ _ _)
   | (with_reducible exact LeO.refl _)
   | (with_reducible exact LeO.none _)
   | (with_reducible refine LeO.ite ?_ ?_)
   | (with_reducible refine LeO.bind ?_ (fun _ => ?_))
   | exact ih0 _ _ _
   | exact slices_IndexFunc_int_int_token_Scan_1.mono _ _
   | exact token_scanner_blanks.mono _ _ _
   | exact token_scanner_next.mono _ _ _
   | exact LeO.none _
   | refine LeO.ite ?_ ?_
   | refine LeO.bind ?_ (fun _ => ?_)
theorem token_Scan.mono : ∀ a0 k, LeO (token_Scan.f k a0) (token_Scan.f (k + 1) a0) := by
 intro a0 k
 have ih0 := token_Scan.mono_l k
 unfold token_Scan.f
 repeat' first
   | (with_reducible exact ih0 _ _ _)
   | (with_reducible exact slices_IndexFunc_int_int_token_Scan_1.mono _ _)
   | (with_reducible exact token_scanner_blanks.mono _ _ _)
   | (with_reducible exact token_scanner_next.mono _ _ _)
   | (with_reducible exact LeO.refl _)
   | (with_reducible exact LeO.none _)
   | (with_reducible refine LeO.ite ?_ ?_)
   | (with_reducible refine LeO.bind ?_ (fun _ => ?_))
   | exact ih0 _ _ _
   | exact slices_IndexFunc_int_int_token_Scan_1.mono _ _
   | exact token_scanner_blanks.mono _ _ _
   | exact token_scanner_next.mono _ _ _
   | exact LeO.none _
   | refine LeO.ite ?_ ?_
   | refine LeO.bind ?_ (fun _ => ?_)
set_option maxHeartbeats 8000000 in
set_option maxRecDepth 100000 in
theorem token_Scan.calls (k : Nat) (A0 : Option Addr) (c0 : Nat) (l0 : List Int) (r1 : List (S38)) (r2 : Int) (r3 : Int) (w : World) (hLD : LD w) (hr0 : Kd.C (Kd.int .i64) w A0 l0.length l0) (hc0 : l0.length ≤ c0) (h : token_Scan.f k l0 = some (r1, r2, r3)) :
  Calls Tryd.prog 5 #[.slice A0 l0.length c0] w fun e w' => ∃ v0_ : Value, e = .returned (.tuple #[v0_, .int .i64 r2, .int .i64 r3]) ∧ Kd.N k38 38 w' w.heap.size (fun k_ => (w.heap.size ≤ k_)) v0_ r1 ∧ Below w.heap.size w w' := by
 have hu50 := Tryd.underlying50
 have HR0 := Aside0.mk hr0
 have HC0 := Aside0.mk hc0
 clear hr0 hc0
 have HLD := Aside0.mk hLD
 clear hLD
 have HB := Aside0.mk (Below.refl w.heap.size w)
 have H : ((slices_IndexFunc_int_int_token_Scan_1.f k l0).bind fun t369 => (if t369 ≥ 0 then (some (([] : List (S38)), t369, 1)) else ((token_scanner_blanks.f k l0 0).bind fun t371 => (token_Scan.l0 k ([] : List (S38)) l0 t371)))) = some (r1, r2, r3) := h
 clear h
 replace H := Option.bind_eq_some_iff.mp H
 obtain ⟨t369, A20, H⟩ := H
 replace H : (if t369 ≥ 0 then (some (([] : List (S38)), t369, 1)) else ((token_scanner_blanks.f k l0 0).bind fun t371 => (token_Scan.l0 k ([] : List (S38)) l0 t371))) = some (r1, r2, r3) := H
 have A2 := Aside0.mk A20
 clear A20
 by_cases c3 : t369 ≥ 0
 ·rw [if_pos c3] at H
  have c3b0 : decide (0 ≤ t369) = true := decide_eq_true c3
  clear c3
  simp only [Option.some.injEq, Prod.mk.injEq] at H
  obtain ⟨rfl, rfl, rfl⟩ := H
  have hmf : ∀ (fn : Fn) (first cap : Array Value) (w : World), (Instr.makeFunc fn first cap).run Tryd.prog w = .ok (.func fn first cap) w := fun _ _ _ _ => rfl
  go_enter_defers Tryd.func5, Tryd.ntmps5
  go_wp2_with (first|((with_reducible refine gate_dst (N := 2) rfl ?_);refine box_event ?hg (N := 2) ?hd (cs := #[.slice none 0 0]) (t := 23) ?hr ?_;(case hd => rfl);(case hg => rfl);(case hr => first|(go_simp;done)|(go_simp;rfl));intro gb366 hg w4 hbox hb;have n0_ := Aside0.mk (below_step (by repeat (first|(with_reducible first|exact HB.out|apply below_alloc|apply pw_below_drewN|apply below_drew1)|exact HB.out)) hb);have n1_ := Aside0.mk (hbox);have n2_ := Aside0.mk ((by rw [hg];exact (below_size (by repeat (first|(with_reducible first|exact HB.out|apply below_alloc|apply pw_below_drewN|apply below_drew1)|exact HB.out))) : w.heap.size ≤ gb366));have n3_ := Aside0.mk ((by rw [hg];exact (below_size (by repeat (first|(with_reducible first|exact HB.out|apply below_alloc|apply pw_below_drewN|apply below_drew1)|exact HB.out))) : w.heap.size ≤ gb366));clear HB;have HB := n0_;have BK366 := n1_;have GW366 := n2_;have GE366 := n3_;clear n0_ n1_ n2_ n3_;clear hb hbox hg)|((with_reducible refine gate_dst (N := 3) rfl ?_);refine box_event ?hg (N := 3) ?hd (cs := #[.int .i64 0]) (t := 3) ?hr ?_;(case hd => rfl);(case hg => rfl);(case hr => first|(go_simp;done)|(go_simp;rfl));intro gb367 hg w5 hbox hb;have n0_ := Aside0.mk (blk_below (g := gb366) (o := .cells #[.slice none 0 0] 23 (0, 0)) (by (with_reducible repeat (first|refine blk_drewN ?_ _|refine blk_drew ?_|refine blk_alloc ?_ _));exact BK366.out) hb);have n1_ := Aside0.mk (below_step (by repeat (first|(with_reducible first|exact HB.out|apply below_alloc|apply pw_below_drewN|apply below_drew1|refine below_set ?_ GE366.out)|exact HB.out)) hb);have n2_ := Aside0.mk (hbox);have n3_ := Aside0.mk ((by rw [hg];exact (below_size (by repeat (first|(with_reducible first|exact HB.out|apply below_alloc|apply pw_below_drewN|apply below_drew1|refine below_set ?_ GE366.out)|exact HB.out))) : w.heap.size ≤ gb367));have n4_ := Aside0.mk ((by rw [hg];exact (below_size (by repeat (first|(with_reducible first|exact HB.out|apply below_alloc|apply pw_below_drewN|apply below_drew1|refine below_set ?_ GE366.out)|exact HB.out))) : w.heap.size ≤ gb367));have n5_ := Aside0.mk ((by rw [hg];exact Nat.ne_of_lt (blk_lt (g := gb366) (o := .cells #[.slice none 0 0] 23 (0, 0)) (by (with_reducible repeat (first|refine blk_drewN ?_ _|refine blk_drew ?_|refine blk_alloc ?_ _));exact BK366.out)) : gb366 ≠ gb367));have n6_ := Aside0.mk ((by rw [hg];exact Nat.ne_of_gt (blk_lt (g := gb366) (o := .cells #[.slice none 0 0] 23 (0, 0)) (by (with_reducible repeat (first|refine blk_drewN ?_ _|refine blk_drew ?_|refine blk_alloc ?_ _));exact BK366.out)) : gb367 ≠ gb366));clear BK366;clear HB;have BK366 := n0_;have HB := n1_;have BK367 := n2_;have GW367 := n3_;have GE367 := n4_;have NB366_367 := n5_;have NB367_366 := n6_;clear n0_ n1_ n2_ n3_ n4_ n5_ n6_;clear hb hbox hg)|((with_reducible refine gate_dst (N := 4) rfl ?_);refine box_event ?hg (N := 4) ?hd (cs := #[.int .i64 0]) (t := 24) ?hr ?_;(case hd => rfl);(case hg => rfl);(case hr => first|(go_simp;done)|(go_simp;rfl));intro gb368 hg w6 hbox hb;have n0_ := Aside0.mk (blk_below (g := gb366) (o := .cells #[.slice none 0 0] 23 (0, 0)) (by (with_reducible repeat (first|refine blk_drewN ?_ _|refine blk_drew ?_|refine blk_alloc ?_ _));exact BK366.out) hb);have n1_ := Aside0.mk (blk_below (g := gb367) (o := .cells #[.int .i64 0] 3 (0, 0)) (by (with_reducible repeat (first|refine blk_drewN ?_ _|refine blk_drew ?_|refine blk_alloc ?_ _));exact BK367.out) hb);have n2_ := Aside0.mk (below_step (by repeat (first|(with_reducible first|exact HB.out|apply below_alloc|apply pw_below_drewN|apply below_drew1|refine below_set ?_ GE366.out|refine below_set ?_ GE367.out)|exact HB.out)) hb);have n3_ := Aside0.mk (hbox);have n4_ := Aside0.mk ((by rw [hg];exact (below_size (by repeat (first|(with_reducible first|exact HB.out|apply below_alloc|apply pw_below_drewN|apply below_drew1|refine below_set ?_ GE366.out|refine below_set ?_ GE367.out)|exact HB.out))) : w.heap.size ≤ gb368));have n5_ := Aside0.mk ((by rw [hg];exact (below_size (by repeat (first|(with_reducible first|exact HB.out|apply below_alloc|apply pw_below_drewN|apply below_drew1|refine below_set ?_ GE366.out|refine below_set ?_ GE367.out)|exact HB.out))) : w.heap.size ≤ gb368));have n6_ := Aside0.mk ((by rw [hg];exact Nat.ne_of_lt (blk_lt (g := gb366) (o := .cells #[.slice none 0 0] 23 (0, 0)) (by (with_reducible repeat (first|refine blk_drewN ?_ _|refine blk_drew ?_|refine blk_alloc ?_ _));exact BK366.out)) : gb366 ≠ gb368));have n7_ := Aside0.mk ((by rw [hg];exact Nat.ne_of_gt (blk_lt (g := gb366) (o := .cells #[.slice none 0 0] 23 (0, 0)) (by (with_reducible repeat (first|refine blk_drewN ?_ _|refine blk_drew ?_|refine blk_alloc ?_ _));exact BK366.out)) : gb368 ≠ gb366));have n8_ := Aside0.mk ((by rw [hg];exact Nat.ne_of_lt (blk_lt (g := gb367) (o := .cells #[.int .i64 0] 3 (0, 0)) (by (with_reducible repeat (first|refine blk_drewN ?_ _|refine blk_drew ?_|refine blk_alloc ?_ _));exact BK367.out)) : gb367 ≠ gb368));have n9_ := Aside0.mk ((by rw [hg];exact Nat.ne_of_gt (blk_lt (g := gb367) (o := .cells #[.int .i64 0] 3 (0, 0)) (by (with_reducible repeat (first|refine blk_drewN ?_ _|refine blk_drew ?_|refine blk_alloc ?_ _));exact BK367.out)) : gb368 ≠ gb367));clear BK366;clear BK367;clear HB;have BK366 := n0_;have BK367 := n1_;have HB := n2_;have BK368 := n3_;have GW368 := n4_;have GE368 := n5_;have NB366_368 := n6_;have NB368_366 := n7_;have NB367_368 := n8_;have NB368_367 := n9_;clear n0_ n1_ n2_ n3_ n4_ n5_ n6_ n7_ n8_ n9_;clear hb hbox hg)|((with_reducible refine gate_callee (f := 9) rfl ?_);refine goesL_ (some 8) rfl rfl Tryd.func9 (by kernel_rfl) rfl #[.slice A0 l0.length c0, .func (.func 10) #[] #[]] rfl (by (try simp only [List.map_toArray, List.map_cons, List.map_nil]);first|done|rfl|(simp only [List.length_drop, List.length_take];rfl)) ?_;(with_reducible refine (slices_IndexFunc_int_int_token_Scan_1.calls k _ _ l0  t369 _ ?side1 ?side2 A2.out).mono ?_);(case side1 => repeat (first|exact (Kd.C_below HR0.out HB.out)|(with_reducible refine Kd.C_alloc ?_ _)|(with_reducible refine Kd.C_drewN ?_ _)|(with_reducible refine Kd.C_drew ?_)));(case side2 => exact HC0.out);rintro e w' ⟨rfl, ⟨nd, rfl⟩⟩;refine ⟨_, rfl, ?_⟩;(try (rw [drewN_self w6];generalize hq_ : World.drewN w6 _ = w6;have n0_ : Aside0 (w6.heap[gb366]? = some (.cells #[.slice none 0 0] 23 (0, 0))) := ⟨by rw [← hq_];exact (by (with_reducible repeat (first|refine blk_drewN ?_ _|refine blk_drew ?_|refine blk_alloc ?_ _));exact BK366.out)⟩;have n1_ : Aside0 (w6.heap[gb367]? = some (.cells #[.int .i64 0] 3 (0, 0))) := ⟨by rw [← hq_];exact (by (with_reducible repeat (first|refine blk_drewN ?_ _|refine blk_drew ?_|refine blk_alloc ?_ _));exact BK367.out)⟩;have n2_ : Aside0 (w6.heap[gb368]? = some (.cells #[.int .i64 0] 24 (0, 0))) := ⟨by rw [← hq_];exact (by (with_reducible repeat (first|refine blk_drewN ?_ _|refine blk_drew ?_|refine blk_alloc ?_ _));exact BK368.out)⟩;have n3_ : Aside0 (Below w.heap.size w w6) := ⟨by rw [← hq_];exact (by repeat (first|(with_reducible first|exact HB.out|apply below_alloc|apply pw_below_drewN|apply below_drew1|refine below_set ?_ GE366.out|refine below_set ?_ GE367.out|refine below_set ?_ GE368.out)|exact HB.out))⟩;clear BK366 BK367 BK368 HB hq_;have BK366 := n0_;have BK367 := n1_;have BK368 := n2_;have HB := n3_;clear n0_ n1_ n2_ n3_));have hnb7 := NB366_367.out;have hnc7 := NB367_366.out;have hnb8 := NB366_368.out;have hnc8 := NB368_366.out;have hcz9_0 : w6.cell? ⟨gb366, 0, none⟩ = some (.slice none 0 0) := (blk_cell BK366.out 0).trans rfl;have hfz9_0 := blk_frozen BK366.out 0;have hnb10 := NB367_368.out;have hnc10 := NB368_367.out;have hcz11_0 : w6.cell? ⟨gb367, 0, none⟩ = some (.int .i64 0) := (blk_cell BK367.out 0).trans rfl;have hfz11_0 := blk_frozen BK367.out 0;have hcz12_0 : w6.cell? ⟨gb368, 0, none⟩ = some (.int .i64 0) := (blk_cell BK368.out 0).trans rfl;have hfz12_0 := blk_frozen BK368.out 0))
  (try simp only [Exit.inBlock, Exit.then])
  first | skip
  first|refine leavesD_retx (rs := [.cell 2 23, .cell 3 3, .cell 4 24]) (by rfl) rfl (by simp) (.plain gb366 23 (.slice none 0 0) _ rfl (by (with_reducible repeat (first|refine blk_drewN ?_ _|refine blk_drew ?_|refine blk_alloc ?_ _));refine blk_far ?_ NB366_368.out _;(with_reducible repeat (first|refine blk_drewN ?_ _|refine blk_drew ?_|refine blk_alloc ?_ _));refine blk_far ?_ NB366_367.out _;(with_reducible repeat (first|refine blk_drewN ?_ _|refine blk_drew ?_|refine blk_alloc ?_ _));refine blk_put (cs := #[.slice none 0 0]) ?_ 0 _ rfl;(with_reducible repeat (first|refine blk_drewN ?_ _|refine blk_drew ?_|refine blk_alloc ?_ _));exact BK366.out) Tryd.underlying23 rfl (.plain gb367 3 (.int .i64 t369) _ rfl (by (with_reducible repeat (first|refine blk_drewN ?_ _|refine blk_drew ?_|refine blk_alloc ?_ _));refine blk_far ?_ NB367_368.out _;(with_reducible repeat (first|refine blk_drewN ?_ _|refine blk_drew ?_|refine blk_alloc ?_ _));refine blk_put (cs := #[.int .i64 0]) ?_ 0 _ rfl;(with_reducible repeat (first|refine blk_drewN ?_ _|refine blk_drew ?_|refine blk_alloc ?_ _));refine blk_far ?_ NB367_366.out _;(with_reducible repeat (first|refine blk_drewN ?_ _|refine blk_drew ?_|refine blk_alloc ?_ _));exact BK367.out) Tryd.underlying3 rfl (.plain gb368 24 (.int .i64 1) _ rfl (by (with_reducible repeat (first|refine blk_drewN ?_ _|refine blk_drew ?_|refine blk_alloc ?_ _));refine blk_put (cs := #[.int .i64 0]) ?_ 0 _ rfl;(with_reducible repeat (first|refine blk_drewN ?_ _|refine blk_drew ?_|refine blk_alloc ?_ _));refine blk_far ?_ NB368_367.out _;(with_reducible repeat (first|refine blk_drewN ?_ _|refine blk_drew ?_|refine blk_alloc ?_ _));refine blk_far ?_ NB368_366.out _;(with_reducible repeat (first|refine blk_drewN ?_ _|refine blk_drew ?_|refine blk_alloc ?_ _));exact BK368.out) Tryd.underlying24 rfl .nil))) ?_|(refine leavesD_cons (f := 12) (by rfl) (by first|rfl|simp [go_sem]) ?_;refine (token_Scan_2_idle _ _ _ _).mono ?_;rintro e_ u_ w_ ⟨rfl, rfl, rfl⟩;refine leaves_retx (rs := [.cell 2 23, .cell 3 3, .cell 4 24]) rfl (by simp) (.plain gb366 23 (.slice none 0 0) _ rfl (by (with_reducible repeat (first|refine blk_drewN ?_ _|refine blk_drew ?_|refine blk_alloc ?_ _));refine blk_far ?_ NB366_368.out _;(with_reducible repeat (first|refine blk_drewN ?_ _|refine blk_drew ?_|refine blk_alloc ?_ _));refine blk_far ?_ NB366_367.out _;(with_reducible repeat (first|refine blk_drewN ?_ _|refine blk_drew ?_|refine blk_alloc ?_ _));refine blk_put (cs := #[.slice none 0 0]) ?_ 0 _ rfl;(with_reducible repeat (first|refine blk_drewN ?_ _|refine blk_drew ?_|refine blk_alloc ?_ _));exact BK366.out) Tryd.underlying23 rfl (.plain gb367 3 (.int .i64 t369) _ rfl (by (with_reducible repeat (first|refine blk_drewN ?_ _|refine blk_drew ?_|refine blk_alloc ?_ _));refine blk_far ?_ NB367_368.out _;(with_reducible repeat (first|refine blk_drewN ?_ _|refine blk_drew ?_|refine blk_alloc ?_ _));refine blk_put (cs := #[.int .i64 0]) ?_ 0 _ rfl;(with_reducible repeat (first|refine blk_drewN ?_ _|refine blk_drew ?_|refine blk_alloc ?_ _));refine blk_far ?_ NB367_366.out _;(with_reducible repeat (first|refine blk_drewN ?_ _|refine blk_drew ?_|refine blk_alloc ?_ _));exact BK367.out) Tryd.underlying3 rfl (.plain gb368 24 (.int .i64 1) _ rfl (by (with_reducible repeat (first|refine blk_drewN ?_ _|refine blk_drew ?_|refine blk_alloc ?_ _));refine blk_put (cs := #[.int .i64 0]) ?_ 0 _ rfl;(with_reducible repeat (first|refine blk_drewN ?_ _|refine blk_drew ?_|refine blk_alloc ?_ _));refine blk_far ?_ NB368_367.out _;(with_reducible repeat (first|refine blk_drewN ?_ _|refine blk_drew ?_|refine blk_alloc ?_ _));refine blk_far ?_ NB368_366.out _;(with_reducible repeat (first|refine blk_drewN ?_ _|refine blk_drew ?_|refine blk_alloc ?_ _));exact BK368.out) Tryd.underlying24 rfl .nil))) ?_)
  exact ⟨_, by first|rfl|(simp [errW_none, errW_some] <;> rfl)|(simp [*, errW_none, errW_some] <;> rfl), by first|exact Kd.R_nil _ _ _ _ _|exact Kd.N_nil _ _ _ _ _|exact Kd.V_nil _ _ _ _ _|exact Kd.Q_nil _ _ _ _ _|exact Kd.S_nil _ _ _ _ _, by repeat (first|(with_reducible first|exact HB.out|apply below_alloc|apply pw_below_drewN|apply below_drew1|refine below_set ?_ GE366.out|refine below_set ?_ GE367.out|refine below_set ?_ GE368.out)|exact HB.out)⟩
 ·rw [if_neg c3] at H
  have c3b0 : decide (0 ≤ t369) = false := decide_eq_false c3
  clear c3
  replace H := Option.bind_eq_some_iff.mp H
  obtain ⟨t371, A130, H⟩ := H
  replace H : (token_Scan.l0 k ([] : List (S38)) l0 t371) = some (r1, r2, r3) := H
  have A13 := Aside0.mk A130
  clear A130
  have H' := Aside0.mk H
  clear H
  have hmf : ∀ (fn : Fn) (first cap : Array Value) (w : World), (Instr.makeFunc fn first cap).run Tryd.prog w = .ok (.func fn first cap) w := fun _ _ _ _ => rfl
  go_enter_defers Tryd.func5, Tryd.ntmps5
  go_wp2_with (first|((with_reducible refine gate_dst (N := 2) rfl ?_);refine box_event ?hg (N := 2) ?hd (cs := #[.slice none 0 0]) (t := 23) ?hr ?_;(case hd => rfl);(case hg => rfl);(case hr => first|(go_simp;done)|(go_simp;rfl));intro gb366 hg w14 hbox hb;have n0_ := Aside0.mk (below_step (by repeat (first|(with_reducible first|exact HB.out|apply below_alloc|apply pw_below_drewN|apply below_drew1)|exact HB.out)) hb);have n1_ := Aside0.mk (hbox);have n2_ := Aside0.mk ((by rw [hg];exact (below_size (by repeat (first|(with_reducible first|exact HB.out|apply below_alloc|apply pw_below_drewN|apply below_drew1)|exact HB.out))) : w.heap.size ≤ gb366));have n3_ := Aside0.mk ((by rw [hg];exact (below_size (by repeat (first|(with_reducible first|exact HB.out|apply below_alloc|apply pw_below_drewN|apply below_drew1)|exact HB.out))) : w.heap.size ≤ gb366));clear HB;have HB := n0_;have BK366 := n1_;have GW366 := n2_;have GE366 := n3_;clear n0_ n1_ n2_ n3_;clear hb hbox hg)|((with_reducible refine gate_dst (N := 3) rfl ?_);refine box_event ?hg (N := 3) ?hd (cs := #[.int .i64 0]) (t := 3) ?hr ?_;(case hd => rfl);(case hg => rfl);(case hr => first|(go_simp;done)|(go_simp;rfl));intro gb367 hg w15 hbox hb;have n0_ := Aside0.mk (blk_below (g := gb366) (o := .cells #[.slice none 0 0] 23 (0, 0)) (by (with_reducible repeat (first|refine blk_drewN ?_ _|refine blk_drew ?_|refine blk_alloc ?_ _));exact BK366.out) hb);have n1_ := Aside0.mk (below_step (by repeat (first|(with_reducible first|exact HB.out|apply below_alloc|apply pw_below_drewN|apply below_drew1|refine below_set ?_ GE366.out)|exact HB.out)) hb);have n2_ := Aside0.mk (hbox);have n3_ := Aside0.mk ((by rw [hg];exact (below_size (by repeat (first|(with_reducible first|exact HB.out|apply below_alloc|apply pw_below_drewN|apply below_drew1|refine below_set ?_ GE366.out)|exact HB.out))) : w.heap.size ≤ gb367));have n4_ := Aside0.mk ((by rw [hg];exact (below_size (by repeat (first|(with_reducible first|exact HB.out|apply below_alloc|apply pw_below_drewN|apply below_drew1|refine below_set ?_ GE366.out)|exact HB.out))) : w.heap.size ≤ gb367));have n5_ := Aside0.mk ((by rw [hg];exact Nat.ne_of_lt (blk_lt (g := gb366) (o := .cells #[.slice none 0 0] 23 (0, 0)) (by (with_reducible repeat (first|refine blk_drewN ?_ _|refine blk_drew ?_|refine blk_alloc ?_ _));exact BK366.out)) : gb366 ≠ gb367));have n6_ := Aside0.mk ((by rw [hg];exact Nat.ne_of_gt (blk_lt (g := gb366) (o := .cells #[.slice none 0 0] 23 (0, 0)) (by (with_reducible repeat (first|refine blk_drewN ?_ _|refine blk_drew ?_|refine blk_alloc ?_ _));exact BK366.out)) : gb367 ≠ gb366));clear BK366;clear HB;have BK366 := n0_;have HB := n1_;have BK367 := n2_;have GW367 := n3_;have GE367 := n4_;have NB366_367 := n5_;have NB367_366 := n6_;clear n0_ n1_ n2_ n3_ n4_ n5_ n6_;clear hb hbox hg)|((with_reducible refine gate_dst (N := 4) rfl ?_);refine box_event ?hg (N := 4) ?hd (cs := #[.int .i64 0]) (t := 24) ?hr ?_;(case hd => rfl);(case hg => rfl);(case hr => first|(go_simp;done)|(go_simp;rfl));intro gb368 hg w16 hbox hb;have n0_ := Aside0.mk (blk_below (g := gb366) (o := .cells #[.slice none 0 0] 23 (0, 0)) (by (with_reducible repeat (first|refine blk_drewN ?_ _|refine blk_drew ?_|refine blk_alloc ?_ _));exact BK366.out) hb);have n1_ := Aside0.mk (blk_below (g := gb367) (o := .cells #[.int .i64 0] 3 (0, 0)) (by (with_reducible repeat (first|refine blk_drewN ?_ _|refine blk_drew ?_|refine blk_alloc ?_ _));exact BK367.out) hb);have n2_ := Aside0.mk (below_step (by repeat (first|(with_reducible first|exact HB.out|apply below_alloc|apply pw_below_drewN|apply below_drew1|refine below_set ?_ GE366.out|refine below_set ?_ GE367.out)|exact HB.out)) hb);have n3_ := Aside0.mk (hbox);have n4_ := Aside0.mk ((by rw [hg];exact (below_size (by repeat (first|(with_reducible first|exact HB.out|apply below_alloc|apply pw_below_drewN|apply below_drew1|refine below_set ?_ GE366.out|refine below_set ?_ GE367.out)|exact HB.out))) : w.heap.size ≤ gb368));have n5_ := Aside0.mk ((by rw [hg];exact (below_size (by repeat (first|(with_reducible first|exact HB.out|apply below_alloc|apply pw_below_drewN|apply below_drew1|refine below_set ?_ GE366.out|refine below_set ?_ GE367.out)|exact HB.out))) : w.heap.size ≤ gb368));have n6_ := Aside0.mk ((by rw [hg];exact Nat.ne_of_lt (blk_lt (g := gb366) (o := .cells #[.slice none 0 0] 23 (0, 0)) (by (with_reducible repeat (first|refine blk_drewN ?_ _|refine blk_drew ?_|refine blk_alloc ?_ _));exact BK366.out)) : gb366 ≠ gb368));have n7_ := Aside0.mk ((by rw [hg];exact Nat.ne_of_gt (blk_lt (g := gb366) (o := .cells #[.slice none 0 0] 23 (0, 0)) (by (with_reducible repeat (first|refine blk_drewN ?_ _|refine blk_drew ?_|refine blk_alloc ?_ _));exact BK366.out)) : gb368 ≠ gb366));have n8_ := Aside0.mk ((by rw [hg];exact Nat.ne_of_lt (blk_lt (g := gb367) (o := .cells #[.int .i64 0] 3 (0, 0)) (by (with_reducible repeat (first|refine blk_drewN ?_ _|refine blk_drew ?_|refine blk_alloc ?_ _));exact BK367.out)) : gb367 ≠ gb368));have n9_ := Aside0.mk ((by rw [hg];exact Nat.ne_of_gt (blk_lt (g := gb367) (o := .cells #[.int .i64 0] 3 (0, 0)) (by (with_reducible repeat (first|refine blk_drewN ?_ _|refine blk_drew ?_|refine blk_alloc ?_ _));exact BK367.out)) : gb368 ≠ gb367));clear BK366;clear BK367;clear HB;have BK366 := n0_;have BK367 := n1_;have HB := n2_;have BK368 := n3_;have GW368 := n4_;have GE368 := n5_;have NB366_368 := n6_;have NB368_366 := n7_;have NB367_368 := n8_;have NB368_367 := n9_;clear n0_ n1_ n2_ n3_ n4_ n5_ n6_ n7_ n8_ n9_;clear hb hbox hg)|((with_reducible refine gate_callee (f := 9) rfl ?_);refine goesL_ (some 8) rfl rfl Tryd.func9 (by kernel_rfl) rfl #[.slice A0 l0.length c0, .func (.func 10) #[] #[]] rfl (by (try simp only [List.map_toArray, List.map_cons, List.map_nil]);first|done|rfl|(simp only [List.length_drop, List.length_take];rfl)) ?_;(with_reducible refine (slices_IndexFunc_int_int_token_Scan_1.calls k _ _ l0  t369 _ ?side1 ?side2 A2.out).mono ?_);(case side1 => repeat (first|exact (Kd.C_below HR0.out HB.out)|(with_reducible refine Kd.C_alloc ?_ _)|(with_reducible refine Kd.C_drewN ?_ _)|(with_reducible refine Kd.C_drew ?_)));(case side2 => exact HC0.out);rintro e w' ⟨rfl, ⟨nd, rfl⟩⟩;refine ⟨_, rfl, ?_⟩)|((with_reducible refine gate_dst (N := 15) rfl ?_);refine box_event ?hg (N := 15) ?hd (cs := #[.slice A0 l0.length c0, .int .i64 0]) (t := 50) ?hr ?_;(case hd => rfl);(case hg => rfl);(case hr => first|(go_simp;done)|(go_simp;rfl));intro gb370 hg w17 hbox hb;have n0_ := Aside0.mk (blk_below (g := gb366) (o := .cells #[.slice none 0 0] 23 (0, 0)) (by (with_reducible repeat (first|refine blk_drewN ?_ _|refine blk_drew ?_|refine blk_alloc ?_ _));exact BK366.out) hb);have n1_ := Aside0.mk (blk_below (g := gb367) (o := .cells #[.int .i64 0] 3 (0, 0)) (by (with_reducible repeat (first|refine blk_drewN ?_ _|refine blk_drew ?_|refine blk_alloc ?_ _));exact BK367.out) hb);have n2_ := Aside0.mk (blk_below (g := gb368) (o := .cells #[.int .i64 0] 24 (0, 0)) (by (with_reducible repeat (first|refine blk_drewN ?_ _|refine blk_drew ?_|refine blk_alloc ?_ _));exact BK368.out) hb);have n3_ := Aside0.mk (below_step (by repeat (first|(with_reducible first|exact HB.out|apply below_alloc|apply pw_below_drewN|apply below_drew1|refine below_set ?_ GE366.out|refine below_set ?_ GE367.out|refine below_set ?_ GE368.out)|exact HB.out)) hb);have n4_ := Aside0.mk ((show IsS50 w w17 gb370 l0 0 from ⟨A0, c0, hbox, (by rw [hg];exact (below_size (by repeat (first|(with_reducible first|exact HB.out|apply below_alloc|apply pw_below_drewN|apply below_drew1|refine below_set ?_ GE366.out|refine below_set ?_ GE367.out|refine below_set ?_ GE368.out)|exact HB.out))) : w.heap.size ≤ gb370), ⟨HR0.out, HC0.out⟩⟩));have n5_ := Aside0.mk ((by rw [hg];exact Nat.ne_of_lt (blk_lt (g := gb366) (o := .cells #[.slice none 0 0] 23 (0, 0)) (by (with_reducible repeat (first|refine blk_drewN ?_ _|refine blk_drew ?_|refine blk_alloc ?_ _));exact BK366.out)) : gb366 ≠ gb370));have n6_ := Aside0.mk ((by rw [hg];exact Nat.ne_of_gt (blk_lt (g := gb366) (o := .cells #[.slice none 0 0] 23 (0, 0)) (by (with_reducible repeat (first|refine blk_drewN ?_ _|refine blk_drew ?_|refine blk_alloc ?_ _));exact BK366.out)) : gb370 ≠ gb366));have n7_ := Aside0.mk ((by rw [hg];exact Nat.ne_of_lt (blk_lt (g := gb367) (o := .cells #[.int .i64 0] 3 (0, 0)) (by (with_reducible repeat (first|refine blk_drewN ?_ _|refine blk_drew ?_|refine blk_alloc ?_ _));exact BK367.out)) : gb367 ≠ gb370));have n8_ := Aside0.mk ((by rw [hg];exact Nat.ne_of_gt (blk_lt (g := gb367) (o := .cells #[.int .i64 0] 3 (0, 0)) (by (with_reducible repeat (first|refine blk_drewN ?_ _|refine blk_drew ?_|refine blk_alloc ?_ _));exact BK367.out)) : gb370 ≠ gb367));have n9_ := Aside0.mk ((by rw [hg];exact Nat.ne_of_lt (blk_lt (g := gb368) (o := .cells #[.int .i64 0] 24 (0, 0)) (by (with_reducible repeat (first|refine blk_drewN ?_ _|refine blk_drew ?_|refine blk_alloc ?_ _));exact BK368.out)) : gb368 ≠ gb370));have n10_ := Aside0.mk ((by rw [hg];exact Nat.ne_of_gt (blk_lt (g := gb368) (o := .cells #[.int .i64 0] 24 (0, 0)) (by (with_reducible repeat (first|refine blk_drewN ?_ _|refine blk_drew ?_|refine blk_alloc ?_ _));exact BK368.out)) : gb370 ≠ gb368));clear BK366;clear BK367;clear BK368;clear HB;have BK366 := n0_;have BK367 := n1_;have BK368 := n2_;have HB := n3_;have HI370 := n4_;have NB366_370 := n5_;have NB370_366 := n6_;have NB367_370 := n7_;have NB370_367 := n8_;have NB368_370 := n9_;have NB370_368 := n10_;clear n0_ n1_ n2_ n3_ n4_ n5_ n6_ n7_ n8_ n9_ n10_;clear hb hbox hg)|((with_reducible refine gate_callee (f := 13) rfl ?_);refine goesL_ (some 17) rfl rfl Tryd.func13 (by kernel_rfl) rfl #[.pointer (some ⟨gb370, 0, none⟩)] rfl (by (try simp only [List.map_toArray, List.map_cons, List.map_nil]);first|done|rfl|(simp only [List.length_drop, List.length_take];rfl)) ?_;(with_reducible refine (token_scanner_blanks.calls k gb370 l0 0 t371 w _ ?side1 ?side2 A13.out).mono ?_);(case side1 => repeat (first|(with_reducible first|exact HI370.out|apply IsS50.alloc|apply IsS50.drewN|apply IsS50.drew|apply IsS50.set_1|refine IsS50.far ?_ NB370_366.out _|refine IsS50.far ?_ NB370_367.out _|refine IsS50.far ?_ NB370_368.out _)|exact HI370.out));(case side2 => repeat (first|(with_reducible first|exact HB.out|apply below_alloc|apply pw_below_drewN|apply below_drew1|refine below_set ?_ (IsS50.ge HI370.out)|refine below_set ?_ GE366.out|refine below_set ?_ GE367.out|refine below_set ?_ GE368.out)|exact HB.out));rintro e w18 ⟨rfl, hi, hb, hk⟩;refine ⟨_, rfl, ?_⟩;have n0_ := Aside0.mk (KeepBut.blk hk (g' := gb366) (o := .cells #[.slice none 0 0] 23 (0, 0)) (by (with_reducible repeat (first|refine blk_drewN ?_ _|refine blk_drew ?_|refine blk_alloc ?_ _));exact BK366.out) NB366_370.out (by simp));have n1_ := Aside0.mk (KeepBut.blk hk (g' := gb367) (o := .cells #[.int .i64 0] 3 (0, 0)) (by (with_reducible repeat (first|refine blk_drewN ?_ _|refine blk_drew ?_|refine blk_alloc ?_ _));exact BK367.out) NB367_370.out (by simp));have n2_ := Aside0.mk (KeepBut.blk hk (g' := gb368) (o := .cells #[.int .i64 0] 24 (0, 0)) (by (with_reducible repeat (first|refine blk_drewN ?_ _|refine blk_drew ?_|refine blk_alloc ?_ _));exact BK368.out) NB368_370.out (by simp));have n3_ := Aside0.mk (hb);have n4_ := Aside0.mk (hi);clear BK366;clear BK367;clear BK368;clear HB;clear HI370;have BK366 := n0_;have BK367 := n1_;have BK368 := n2_;have HB := n3_;have HI370 := n4_;clear n0_ n1_ n2_ n3_ n4_;(try clear hb);(try clear hb2);(try clear hk);(try clear hi)))
  try simp only [Act.put, List.setIfInBounds_toArray, List.set_cons_zero, List.set_cons_succ]
  go_loopg [] k (fun kq w' => ∃ (x367000_1 : List (S38)) (x371001_1 : Int) (u367000 : Value), Aside0 (token_Scan.l0 kq x367000_1 l0 x371001_1 = some (r1, r2, r3)) ∧ Aside0 (kq ≤ k) ∧ Aside0 (Kd.N k38 38 w' w.heap.size (fun k_ => (w.heap.size ≤ k_) ∧ k_ ≠ gb366 ∧ k_ ≠ gb367 ∧ k_ ≠ gb368 ∧ k_ ≠ gb370) u367000 x367000_1) ∧ Aside0 (w'.heap[gb366]? = some (.cells #[u367000] 23 (0, 0))) ∧ Aside0 (w'.heap[gb367]? = some (.cells #[.int .i64 0] 3 (0, 0))) ∧ Aside0 (w'.heap[gb368]? = some (.cells #[.int .i64 0] 24 (0, 0))) ∧ Aside0 (IsS50 w w' gb370 l0 x371001_1) ∧ Aside0 (Below w.heap.size w w'))
  case atStart => exact ⟨(([] : List (S38))), (t371), (.slice none 0 0), H', ⟨Nat.le_refl _⟩, ⟨by first|exact Kd.R_nil _ _ _ _ _|exact Kd.N_nil _ _ _ _ _|exact Kd.V_nil _ _ _ _ _|exact Kd.Q_nil _ _ _ _ _|exact Kd.S_nil _ _ _ _ _⟩, ⟨by (with_reducible repeat (first|refine blk_drewN ?_ _|refine blk_drew ?_|refine blk_alloc ?_ _));exact BK366.out⟩, ⟨by (with_reducible repeat (first|refine blk_drewN ?_ _|refine blk_drew ?_|refine blk_alloc ?_ _));exact BK367.out⟩, ⟨by (with_reducible repeat (first|refine blk_drewN ?_ _|refine blk_drew ?_|refine blk_alloc ?_ _));exact BK368.out⟩, ⟨by repeat (first|(with_reducible first|exact HI370.out|apply IsS50.alloc|apply IsS50.drewN|apply IsS50.drew|apply IsS50.set_1|refine IsS50.far ?_ NB370_366.out _|refine IsS50.far ?_ NB370_367.out _|refine IsS50.far ?_ NB370_368.out _)|exact HI370.out)⟩, ⟨by repeat (first|(with_reducible first|exact HB.out|apply below_alloc|apply pw_below_drewN|apply below_drew1|refine below_set ?_ (IsS50.ge HI370.out)|refine below_set ?_ GE366.out|refine below_set ?_ GE367.out|refine below_set ?_ GE368.out)|exact HB.out)⟩⟩
  case round =>
   clear H'
   try clear c1
   try clear p2
   try clear c3
   try clear c3b0
   try clear c5
   try clear c7
   try clear c8
   try clear c9
   try clear c10
   try clear c13
   try clear hcz11_0
   try clear hcz12_0
   try clear hcz9_0
   try clear hfz11_0
   try clear hfz12_0
   try clear hfz9_0
   obtain ⟨x367000_1, x371001_1, u367000, HA, HK1, HO_367000, BK366, BK367, BK368, HI370, HB⟩ := hrel
   cases gk with
   | zero => exact absurd HA.out (by simp [token_Scan.l0])
   | succ k1 =>
    have H := HA.out
    clear HA
    simp only [token_Scan.l0] at H
    replace H := Option.bind_eq_some_iff.mp H
    obtain ⟨⟨t372, t373⟩, A190, H⟩ := H
    replace H : (if t372 = true then ((token_scanner_next.f k1 l0 t373).bind fun bt374 => (if x367000_1.length < 1172812402961 then ((token_scanner_blanks.f k1 l0 bt374.2.2.2.2.2.2.2.2.2).bind fun t391 => (token_Scan.l0 k1 (x367000_1 ++ [(⟨bt374.1, bt374.2.1, (⟨bt374.2.2.1, bt374.2.2.2.1, (⟨bt374.2.2.2.2.1, bt374.2.2.2.2.2.1⟩ : S30), bt374.2.2.2.2.2.2.1, bt374.2.2.2.2.2.2.2.1⟩ : S33), bt374.2.2.2.2.2.2.2.2.1⟩ : S38)]) l0 t391)) else (none))) else (some (x367000_1, 0, 0))) = some (r1, r2, r3) := H
    have A19 := Aside0.mk A190
    clear A190
    by_cases c20 : t372 = true
    ·subst c20
     have H1 : ((token_scanner_next.f k1 l0 t373).bind fun bt374 => (if x367000_1.length < 1172812402961 then ((token_scanner_blanks.f k1 l0 bt374.2.2.2.2.2.2.2.2.2).bind fun t391 => (token_Scan.l0 k1 (x367000_1 ++ [(⟨bt374.1, bt374.2.1, (⟨bt374.2.2.1, bt374.2.2.2.1, (⟨bt374.2.2.2.2.1, bt374.2.2.2.2.2.1⟩ : S30), bt374.2.2.2.2.2.2.1, bt374.2.2.2.2.2.2.2.1⟩ : S33), bt374.2.2.2.2.2.2.2.2.1⟩ : S38)]) l0 t391)) else (none))) = some (r1, r2, r3) := by rw [if_pos rfl] at H; exact H
     clear H
     have H := H1
     clear H1
     replace H := Option.bind_eq_some_iff.mp H
     obtain ⟨⟨t374, t375, t376, t377, t378, t379, t382, t385, t386, t387⟩, A210, H⟩ := H
     replace H : (if x367000_1.length < 1172812402961 then ((token_scanner_blanks.f k1 l0 t387).bind fun t391 => (token_Scan.l0 k1 (x367000_1 ++ [(⟨t374, t375, (⟨t376, t377, (⟨t378, t379⟩ : S30), t382, t385⟩ : S33), t386⟩ : S38)]) l0 t391)) else (none)) = some (r1, r2, r3) := H
     have A21 := Aside0.mk A210
     clear A210
     by_cases c22 : x367000_1.length < 1172812402961
     ·rw [if_pos c22] at H
      have LMc22 := Aside0.mk c22
      clear c22
      obtain ⟨y388, hy388⟩ : ∃ y_ : List (S38), y_ = (x367000_1 ++ [(⟨t374, t375, (⟨t376, t377, (⟨t378, t379⟩ : S30), t382, t385⟩ : S33), t386⟩ : S38)]) := ⟨_, rfl⟩
      replace H : ((token_scanner_blanks.f k1 l0 t387).bind fun t391 => (token_Scan.l0 k1 y388 l0 t391)) = some (r1, r2, r3) := by first | (rw [hy388]; with_reducible exact H) | (have H2_ := (Option.bind_some _ _).symm.trans H; rw [hy388]; with_reducible exact H2_) | (have H2_ := (Option.bind_some _ _).symm.trans H; with_reducible exact H2_) | with_reducible exact H | (rw [hy388]; exact H) | exact H
      have Ny388 := Aside0.mk hy388
      clear hy388
      replace H := Option.bind_eq_some_iff.mp H
      obtain ⟨t391, A230, H⟩ := H
      replace H : (token_Scan.l0 k1 y388 l0 t391) = some (r1, r2, r3) := H
      have A23 := Aside0.mk A230
      clear A230
      have H' := Aside0.mk H
      clear H
      try go_wp2_with (first|((with_reducible refine gate_callee (f := 14) rfl ?_);refine goesL_ (some 19) rfl rfl Tryd.func14 (by kernel_rfl) rfl #[.pointer (some ⟨gb370, 0, none⟩), .int .i64 1] rfl (by (try simp only [List.map_toArray, List.map_cons, List.map_nil]);first|done|rfl|(simp only [List.length_drop, List.length_take];rfl)) ?_;(with_reducible refine (token_scanner_left.calls gb370 l0 x371001_1 1 true t373 w _ ?side1 ?side2 A19.out).mono ?_);(case side1 => repeat (first|(with_reducible first|exact HI370.out|apply IsS50.alloc|apply IsS50.drewN|apply IsS50.drew|apply IsS50.set_1|refine IsS50.far ?_ NB370_366.out _|refine IsS50.far ?_ NB370_367.out _|refine IsS50.far ?_ NB370_368.out _)|exact HI370.out));(case side2 => repeat (first|(with_reducible first|exact HB.out|apply below_alloc|apply pw_below_drewN|apply below_drew1|refine below_set ?_ (IsS50.ge HI370.out)|refine below_set ?_ GE366.out|refine below_set ?_ GE367.out|refine below_set ?_ GE368.out)|exact HB.out));rintro e w24 ⟨rfl, hi, hb, hk⟩;refine ⟨_, rfl, ?_⟩;have n0_ := Aside0.mk (Kd.N_mono (Kd.N_keep (Kd.N_mono (ok := fun k_ => (((w.heap.size ≤ k_)) ∧ (k_ ≠ gb366 ∧ (k_ ≠ gb367 ∧ (k_ ≠ gb368 ∧ k_ ≠ gb370))))) (by (with_reducible repeat (first|apply Kd.N_alloc|apply Kd.N_drewN|apply Kd.N_drew));exact HO_367000.out) (fun k_ hk_ => (⟨hk_, hk_.2.2.2.2⟩ : _ ∧ k_ ≠ gb370))) hk (fun _ h => h.2)) (fun _ h => h.1));have n1_ := Aside0.mk (KeepBut.blk hk (g' := gb366) (o := .cells #[u367000] 23 (0, 0)) (by (with_reducible repeat (first|refine blk_drewN ?_ _|refine blk_drew ?_|refine blk_alloc ?_ _));exact BK366.out) NB366_370.out (by simp));have n2_ := Aside0.mk (KeepBut.blk hk (g' := gb367) (o := .cells #[.int .i64 0] 3 (0, 0)) (by (with_reducible repeat (first|refine blk_drewN ?_ _|refine blk_drew ?_|refine blk_alloc ?_ _));exact BK367.out) NB367_370.out (by simp));have n3_ := Aside0.mk (KeepBut.blk hk (g' := gb368) (o := .cells #[.int .i64 0] 24 (0, 0)) (by (with_reducible repeat (first|refine blk_drewN ?_ _|refine blk_drew ?_|refine blk_alloc ?_ _));exact BK368.out) NB368_370.out (by simp));have n4_ := Aside0.mk (hb);have n5_ := Aside0.mk (hi);clear HO_367000;clear BK366;clear BK367;clear BK368;clear HB;clear HI370;have HO_367000 := n0_;have BK366 := n1_;have BK367 := n2_;have BK368 := n3_;have HB := n4_;have HI370 := n5_;clear n0_ n1_ n2_ n3_ n4_ n5_;(try clear hb);(try clear hb2);(try clear hk);(try clear hi)))
      have n0_ := Aside0.mk (Kd.N_drew HO_367000.out)
      have n1_ := Aside0.mk (blk_drew BK366.out)
      have n2_ := Aside0.mk (blk_drew BK367.out)
      have n3_ := Aside0.mk (blk_drew BK368.out)
      have n4_ := Aside0.mk (IsS50.drew HI370.out)
      have n5_ := Aside0.mk (below_drew1 HB.out)
      clear HO_367000
      clear BK366
      clear BK367
      clear BK368
      clear HI370
      clear HB
      have HO_367000 := n0_
      have BK366 := n1_
      have BK367 := n2_
      have BK368 := n3_
      have HI370 := n4_
      have HB := n5_
      clear n0_ n1_ n2_ n3_ n4_ n5_
      refine start_ (n := 6) (S := fun w' => w'.cell? ⟨gb366, 0, none⟩ = some (u367000)) (ds := [5]) #[false, false, false, false, false, false] (by kernel_rfl) rfl rfl ((blk_cell BK366.out 0).trans rfl) (fun hHeld => ?_)
      generalize w24.drew = w25 at HO_367000 BK366 BK367 BK368 HI370 HB hHeld ⊢
      refine pure_ (i := 1) (N := some 23) (v := ?_) (a' := ?_) #[false, true, false, false, false, false] rfl rfl (by kernel_rfl) (by first | exact (fun _ _ _ h => h) | exact (fun _ _ _ h => leavesD_put (by kernel_rfl) h)) (Or.inl ⟨by rfl, ?_⟩) ?_ ?_
      rotate_left
      ·intro w'
       go_simp
       with_reducible rfl
      rotate_left
      ·simp only [Act.put, List.setIfInBounds_toArray, List.set_cons_zero, List.set_cons_succ, i64_w, i32_w]
       rfl
      refine take_ (i := 0) (N := some 22) (v := ?_) (a' := ?_) #[true, true, false, false, false, false] rfl rfl (by kernel_rfl) (by first | exact (fun _ _ _ h => h) | exact (fun _ _ _ h => leavesD_put (by kernel_rfl) h)) (Or.inl ⟨by rfl, ?_⟩) hHeld ?_ ?_
      rotate_left
      ·intro w' s0
       go_simp
       with_reducible rfl
      rotate_left
      ·simp only [Act.put, List.setIfInBounds_toArray, List.set_cons_zero, List.set_cons_succ, i64_w, i32_w]
       rfl
      refine one_ (i := 2) (N := some 24) #[true, true, true, false, false, false] rfl rfl (by kernel_rfl) (by decide) (fun K hK => ?_)
      refine goes_ Tryd.func15 (by kernel_rfl) rfl #[.pointer (some ⟨gb370, 0, none⟩)] (by rfl) rfl rfl (by (try simp only [List.map_toArray, List.map_cons, List.map_nil]); first | done | rfl | (simp only [List.length_drop, List.length_take]; rfl)) ?_
      with_reducible refine (token_scanner_next.calls k1 gb370 l0 t373 t374 t375 t376 t377 t378 t379 t382 t385 t386 t387 w _ ?side1 ?side2 ?side3 A21.out).mono ?_
      (case side1 => repeat (first|(with_reducible first|exact HI370.out|apply IsS50.alloc|apply IsS50.drewN|apply IsS50.drew|apply IsS50.set_1|refine IsS50.far ?_ NB370_366.out _|refine IsS50.far ?_ NB370_367.out _|refine IsS50.far ?_ NB370_368.out _)|exact HI370.out))
      (case side2 => repeat (first|(with_reducible first|exact HB.out|apply below_alloc|apply pw_below_drewN|apply below_drew1|refine below_set ?_ (IsS50.ge HI370.out)|refine below_set ?_ GE366.out|refine below_set ?_ GE367.out|refine below_set ?_ GE368.out)|exact HB.out))
      (case side3 => exact HLD.out)
      rintro e w26 ⟨v380, v383, rfl, ho0, ho1, hi, hb, hk⟩
      refine ⟨_, rfl, ?_⟩
      replace ho1 := Kd.R_N ho1
      have n0_ := Aside0.mk (Kd.N_mono (Kd.N_told (Kd.N_oldK (Kd.N_mono (ok := fun k_ => (((w.heap.size ≤ k_)) ∧ (k_ ≠ gb366 ∧ (k_ ≠ gb367 ∧ (k_ ≠ gb368 ∧ k_ ≠ gb370))))) (by (with_reducible repeat (first|apply Kd.N_alloc|apply Kd.N_drewN|apply Kd.N_drew));exact HO_367000.out) (fun k_ hk_ => (⟨hk_, hk_.2.2.2.2⟩ : _ ∧ k_ ≠ gb370))) hk) (Kd.N_base ho1)) (fun _ h_ => h_.1))
      have n1_ := Aside0.mk (KeepBut.blk hk (g' := gb366) (o := .cells #[u367000] 23 (0, 0)) (by (with_reducible repeat (first|refine blk_drewN ?_ _|refine blk_drew ?_|refine blk_alloc ?_ _));exact BK366.out) NB366_370.out (by simp))
      have n2_ := Aside0.mk (KeepBut.blk hk (g' := gb367) (o := .cells #[.int .i64 0] 3 (0, 0)) (by (with_reducible repeat (first|refine blk_drewN ?_ _|refine blk_drew ?_|refine blk_alloc ?_ _));exact BK367.out) NB367_370.out (by simp))
      have n3_ := Aside0.mk (KeepBut.blk hk (g' := gb368) (o := .cells #[.int .i64 0] 24 (0, 0)) (by (with_reducible repeat (first|refine blk_drewN ?_ _|refine blk_drew ?_|refine blk_alloc ?_ _));exact BK368.out) NB368_370.out (by simp))
      have n4_ := Aside0.mk (Kd.V_lower (Kd.V_mono (ok' := fun k_ => (w.heap.size ≤ k_) ∧ some k_ ≠ (v383 : Value).ownBlock ∧ some k_ ≠ (u367000 : Value).ownBlock ∧ k_ ≠ gb366 ∧ k_ ≠ gb367 ∧ k_ ≠ gb368 ∧ k_ ≠ gb370) ho0 (fun k_ hk_ => ⟨(Nat.le_trans (below_size (by repeat (first|(with_reducible first|exact HB.out|apply below_alloc|apply pw_below_drewN|apply below_drew1|refine below_set ?_ (IsS50.ge HI370.out)|refine below_set ?_ GE366.out|refine below_set ?_ GE367.out|refine below_set ?_ GE368.out)|exact HB.out))) hk_.1), hk_.2, (Kd.fresh' (Kd.N_lt (by (with_reducible repeat (first|apply Kd.N_alloc|apply Kd.N_drewN|apply Kd.N_drew));exact HO_367000.out)) k_ hk_.1), (Kd.freshB (g := gb366) (o := .cells #[u367000] 23 (0, 0)) (by (with_reducible repeat (first|refine blk_drewN ?_ _|refine blk_drew ?_|refine blk_alloc ?_ _));exact BK366.out) k_ hk_.1), (Kd.freshB (g := gb367) (o := .cells #[.int .i64 0] 3 (0, 0)) (by (with_reducible repeat (first|refine blk_drewN ?_ _|refine blk_drew ?_|refine blk_alloc ?_ _));exact BK367.out) k_ hk_.1), (Kd.freshB (g := gb368) (o := .cells #[.int .i64 0] 24 (0, 0)) (by (with_reducible repeat (first|refine blk_drewN ?_ _|refine blk_drew ?_|refine blk_alloc ?_ _));exact BK368.out) k_ hk_.1), (IsS50.fresh (by repeat (first|(with_reducible first|exact HI370.out|apply IsS50.alloc|apply IsS50.drewN|apply IsS50.drew|apply IsS50.set_1|refine IsS50.far ?_ NB370_366.out _|refine IsS50.far ?_ NB370_367.out _|refine IsS50.far ?_ NB370_368.out _)|exact HI370.out)) k_ hk_.1)⟩)) (below_size (by repeat (first|(with_reducible first|exact HB.out|apply below_alloc|apply pw_below_drewN|apply below_drew1|refine below_set ?_ (IsS50.ge HI370.out)|refine below_set ?_ GE366.out|refine below_set ?_ GE367.out|refine below_set ?_ GE368.out)|exact HB.out))))
      have n5_ := Aside0.mk (Kd.N_lower (Kd.N_mono (ok' := fun k_ => (w.heap.size ≤ k_) ∧ some k_ ≠ (u367000 : Value).ownBlock ∧ k_ ≠ gb366 ∧ k_ ≠ gb367 ∧ k_ ≠ gb368 ∧ k_ ≠ gb370) ho1 (fun k_ hk_ => ⟨(Nat.le_trans (below_size (by repeat (first|(with_reducible first|exact HB.out|apply below_alloc|apply pw_below_drewN|apply below_drew1|refine below_set ?_ (IsS50.ge HI370.out)|refine below_set ?_ GE366.out|refine below_set ?_ GE367.out|refine below_set ?_ GE368.out)|exact HB.out))) hk_), (Kd.fresh' (Kd.N_lt (by (with_reducible repeat (first|apply Kd.N_alloc|apply Kd.N_drewN|apply Kd.N_drew));exact HO_367000.out)) k_ hk_), (Kd.freshB (g := gb366) (o := .cells #[u367000] 23 (0, 0)) (by (with_reducible repeat (first|refine blk_drewN ?_ _|refine blk_drew ?_|refine blk_alloc ?_ _));exact BK366.out) k_ hk_), (Kd.freshB (g := gb367) (o := .cells #[.int .i64 0] 3 (0, 0)) (by (with_reducible repeat (first|refine blk_drewN ?_ _|refine blk_drew ?_|refine blk_alloc ?_ _));exact BK367.out) k_ hk_), (Kd.freshB (g := gb368) (o := .cells #[.int .i64 0] 24 (0, 0)) (by (with_reducible repeat (first|refine blk_drewN ?_ _|refine blk_drew ?_|refine blk_alloc ?_ _));exact BK368.out) k_ hk_), (IsS50.fresh (by repeat (first|(with_reducible first|exact HI370.out|apply IsS50.alloc|apply IsS50.drewN|apply IsS50.drew|apply IsS50.set_1|refine IsS50.far ?_ NB370_366.out _|refine IsS50.far ?_ NB370_367.out _|refine IsS50.far ?_ NB370_368.out _)|exact HI370.out)) k_ hk_)⟩)) (below_size (by repeat (first|(with_reducible first|exact HB.out|apply below_alloc|apply pw_below_drewN|apply below_drew1|refine below_set ?_ (IsS50.ge HI370.out)|refine below_set ?_ GE366.out|refine below_set ?_ GE367.out|refine below_set ?_ GE368.out)|exact HB.out))))
      have n6_ := Aside0.mk (hb)
      have n7_ := Aside0.mk (hi)
      clear HO_367000
      clear BK366
      clear BK367
      clear BK368
      clear HB
      clear HI370
      have HO_367000 := n0_
      have BK366 := n1_
      have BK367 := n2_
      have BK368 := n3_
      have HO381 := n4_
      have HO384 := n5_
      have HB := n6_
      have HI370 := n7_
      clear n0_ n1_ n2_ n3_ n4_ n5_ n6_ n7_
      (try clear hb)
      (try clear hb2)
      (try clear hk)
      (try clear hi)
      (try clear ho0)
      (try clear ho1)
      obtain ⟨Ao28, co28, eo28⟩ := Kd.V_slice HO381.out
      (first|subst eo28|(injection eo28 with f1_ f2_ f3_;have f4_ := f1_.symm;have f5_ := f3_.symm;clear f1_ f2_ f3_;subst f4_;subst f5_))
      obtain ⟨Ao29, co29, eo29⟩ := Kd.N_slice HO384.out
      (first|subst eo29|(injection eo29 with f1_ f2_ f3_;have f4_ := f1_.symm;have f5_ := f3_.symm;clear f1_ f2_ f3_;subst f4_;subst f5_))
      refine hK.out _ _ ((blk_cell BK366.out 0).trans rfl) (fun hHeld => ?_)
      clear hK K
      refine norm_ (a' := ?_) ?_ ?_
      rotate_left
      ·show Act.put _ (some 24) _ = _
       simp only [Act.put, List.setIfInBounds_toArray, List.set_cons_zero, List.set_cons_succ, i64_w, i32_w]
       rfl
      refine one_ (i := 3) (N := some 25) #[true, true, true, true, false, false] rfl rfl (by kernel_rfl) (by decide) (fun K hK => ?_)
      refine value_ (w1 := ?_) (v := ?_) (by rfl) rfl ?_ ?_
      rotate_left 2
      ·go_simp
       constructor
       ·rfl
       ·rfl
      refine hK.out _ _ ((blk_cell (blk_alloc BK366.out _) 0).trans rfl) (fun hHeld => ?_)
      clear hK K
      refine norm_ (a' := ?_) ?_ ?_
      rotate_left
      ·show Act.put _ (some 25) _ = _
       simp only [Act.put, List.setIfInBounds_toArray, List.set_cons_zero, List.set_cons_succ, i64_w, i32_w]
       rfl
      refine one_ (i := 4) (N := some 26) #[true, true, true, true, true, false] rfl rfl (by kernel_rfl) (by decide) (fun K hK => ?_)
      refine Kd.N_append_step k38 (w0 := w) w.heap.size (by rfl) (.tmp 22) (.tmp 25) 23 38 (.agg #[(.int .i64 0), (.string ⟨#[]⟩), (.int .i64 0), (.string ⟨#[]⟩), (.bool false), (.slice none 0 0), (.slice none 0 0), (.int .i64 0), (.int .i64 0)]) 120 rfl Tryd.underlying23 info38 rfl (by decide) (by omega) u367000 x367000_1 (⟨t374, t375, (⟨t376, t377, (⟨t378, t379⟩ : S30), t382, t385⟩ : S33), t386⟩ : S38) [.int .i64 t374, .string t375, .int .i64 t376, .string t377, .bool t378, .slice Ao28 t379.length co28, .slice Ao29 t382.length co29, .int .i64 t385, .int .i64 t386] (fun k_ => (w.heap.size ≤ k_) ∧ k_ ≠ gb366 ∧ k_ ≠ gb367 ∧ k_ ≠ gb368 ∧ k_ ≠ gb370) (fun k_ => ((fun k_ => (w.heap.size ≤ k_) ∧ k_ ≠ gb366 ∧ k_ ≠ gb367 ∧ k_ ≠ gb368 ∧ k_ ≠ gb370)) k_ ∧ some k_ ≠ (u367000 : Value).ownBlock) rfl rfl ?aP (fun _ hk => hk) ?aF ?aO ?aB ?aS ?aL ?_
      (case aP => exact (k38_mkF _ _ (⟨t374, t375, (⟨t376, t377, (⟨t378, t379⟩ : S30), t382, t385⟩ : S33), t386⟩ : S38) (Kd.V_reads' (Kd.V_mono (ok' := (fun k_ => ((fun k_ => (w.heap.size ≤ k_) ∧ k_ ≠ gb366 ∧ k_ ≠ gb367 ∧ k_ ≠ gb368 ∧ k_ ≠ gb370)) k_ ∧ some k_ ≠ (u367000 : Value).ownBlock)) (HO381.out) (fun k_ hk => ⟨⟨hk.1, ⟨hk.2.2.2.1, ⟨hk.2.2.2.2.1, ⟨hk.2.2.2.2.2.1, hk.2.2.2.2.2.2⟩⟩⟩⟩, hk.2.2.1⟩))).2.1 (Kd.V_F (Kd.V_mono (ok' := (fun k_ => ((fun k_ => (w.heap.size ≤ k_) ∧ k_ ≠ gb366 ∧ k_ ≠ gb367 ∧ k_ ≠ gb368 ∧ k_ ≠ gb370)) k_ ∧ some k_ ≠ (u367000 : Value).ownBlock)) (HO381.out) (fun k_ hk => ⟨⟨hk.1, ⟨hk.2.2.2.1, ⟨hk.2.2.2.2.1, ⟨hk.2.2.2.2.2.1, hk.2.2.2.2.2.2⟩⟩⟩⟩, hk.2.2.1⟩))) (Kd.N_reads' (Kd.N_mono (ok' := (fun k_ => ((fun k_ => (w.heap.size ≤ k_) ∧ k_ ≠ gb366 ∧ k_ ≠ gb367 ∧ k_ ≠ gb368 ∧ k_ ≠ gb370)) k_ ∧ some k_ ≠ (u367000 : Value).ownBlock)) (HO384.out) (fun k_ hk => ⟨⟨hk.1, ⟨hk.2.2.1, ⟨hk.2.2.2.1, ⟨hk.2.2.2.2.1, hk.2.2.2.2.2⟩⟩⟩⟩, hk.2.1⟩))).2.1 (Kd.N_F (Kd.N_mono (ok' := (fun k_ => ((fun k_ => (w.heap.size ≤ k_) ∧ k_ ≠ gb366 ∧ k_ ≠ gb367 ∧ k_ ≠ gb368 ∧ k_ ≠ gb370)) k_ ∧ some k_ ≠ (u367000 : Value).ownBlock)) (HO384.out) (fun k_ hk => ⟨⟨hk.1, ⟨hk.2.2.1, ⟨hk.2.2.2.1, ⟨hk.2.2.2.2.1, hk.2.2.2.2.2⟩⟩⟩⟩, hk.2.1⟩)))))
      (case aB => exact (by repeat (first|(with_reducible first|exact HB.out|apply below_alloc|apply pw_below_drewN|apply below_drew1|refine below_set ?_ (IsS50.ge HI370.out)|refine below_set ?_ GE366.out|refine below_set ?_ GE367.out|refine below_set ?_ GE368.out)|exact HB.out)))
      (case aF => exact (fun k_ hk => ⟨(Nat.le_trans (below_size (by repeat (first|(with_reducible first|exact HB.out|apply below_alloc|apply pw_below_drewN|apply below_drew1|refine below_set ?_ (IsS50.ge HI370.out)|refine below_set ?_ GE366.out|refine below_set ?_ GE367.out|refine below_set ?_ GE368.out)|exact HB.out))) hk), Kd.freshB (g := gb366) (o := .cells #[u367000] 23 (0, 0)) (by (with_reducible repeat (first|refine blk_drewN ?_ _|refine blk_drew ?_|refine blk_alloc ?_ _));exact BK366.out) k_ hk, Kd.freshB (g := gb367) (o := .cells #[.int .i64 0] 3 (0, 0)) (by (with_reducible repeat (first|refine blk_drewN ?_ _|refine blk_drew ?_|refine blk_alloc ?_ _));exact BK367.out) k_ hk, Kd.freshB (g := gb368) (o := .cells #[.int .i64 0] 24 (0, 0)) (by (with_reducible repeat (first|refine blk_drewN ?_ _|refine blk_drew ?_|refine blk_alloc ?_ _));exact BK368.out) k_ hk, IsS50.fresh (by repeat (first|(with_reducible first|exact HI370.out|apply IsS50.alloc|apply IsS50.drewN|apply IsS50.drew|apply IsS50.set_1|refine IsS50.far ?_ NB370_366.out _|refine IsS50.far ?_ NB370_367.out _|refine IsS50.far ?_ NB370_368.out _)|exact HI370.out)) k_ hk⟩))
      (case aO => exact (by (with_reducible repeat (first|apply Kd.N_alloc|apply Kd.N_drewN|apply Kd.N_drew));exact Kd.N_mono HO_367000.out (fun _ hk => ⟨hk.1.1, ⟨hk.1.2.1, ⟨hk.1.2.2.1, ⟨hk.1.2.2.2.1, hk.1.2.2.2.2⟩⟩⟩⟩)))
      (case aS => exact (below_size (by repeat (first|(with_reducible first|exact HB.out|apply below_alloc|apply pw_below_drewN|apply below_drew1|refine below_set ?_ (IsS50.ge HI370.out)|refine below_set ?_ GE366.out|refine below_set ?_ GE367.out|refine below_set ?_ GE368.out)|exact HB.out))))
      (case aL => have := LMc22.out; omega)
      intro v389 w27 ho hb hg hat
      rw [← Ny388.out] at ho
      have n0_ := Aside0.mk (blk_grown (g := gb366) (o := .cells #[u367000] 23 (0, 0)) (by (with_reducible repeat (first|refine blk_drewN ?_ _|refine blk_drew ?_|refine blk_alloc ?_ _));exact BK366.out) hg (Kd.N_ne HO_367000.out BK366.out (by decide)))
      have n1_ := Aside0.mk (blk_grown (g := gb367) (o := .cells #[.int .i64 0] 3 (0, 0)) (by (with_reducible repeat (first|refine blk_drewN ?_ _|refine blk_drew ?_|refine blk_alloc ?_ _));exact BK367.out) hg (Kd.N_ne HO_367000.out BK367.out (by decide)))
      have n2_ := Aside0.mk (blk_grown (g := gb368) (o := .cells #[.int .i64 0] 24 (0, 0)) (by (with_reducible repeat (first|refine blk_drewN ?_ _|refine blk_drew ?_|refine blk_alloc ?_ _));exact BK368.out) hg (Kd.N_ne HO_367000.out BK368.out (by decide)))
      have n3_ := Aside0.mk (IsS50.grown (by repeat (first|(with_reducible first|exact HI370.out|apply IsS50.alloc|apply IsS50.drewN|apply IsS50.drew|apply IsS50.set_1|refine IsS50.far ?_ NB370_366.out _|refine IsS50.far ?_ NB370_367.out _|refine IsS50.far ?_ NB370_368.out _)|exact HI370.out)) hg (IsS50.own_neN HI370.out HO_367000.out (by decide)))
      have n4_ := Aside0.mk (Kd.V_afterv (ok := (fun k_ => (w.heap.size ≤ k_) ∧ some k_ ≠ (.slice Ao29 t382.length co29 : Value).ownBlock ∧ k_ ≠ gb366 ∧ k_ ≠ gb367 ∧ k_ ≠ gb368 ∧ k_ ≠ gb370)) (by (with_reducible repeat (first|apply Kd.V_alloc|apply Kd.V_drewN|apply Kd.V_drew));exact Kd.V_mono HO381.out (fun _ hk => ⟨⟨hk.1, ⟨hk.2.1, ⟨hk.2.2.2.1, ⟨hk.2.2.2.2.1, ⟨hk.2.2.2.2.2.1, hk.2.2.2.2.2.2⟩⟩⟩⟩⟩, hk.2.2.1⟩)) hg hat)
      have n5_ := Aside0.mk (hb)
      have n6_ := Aside0.mk (ho)
      clear BK366
      clear BK367
      clear BK368
      clear HI370
      clear HO381
      clear HB
      clear HO_367000
      clear HO384
      have BK366 := n0_
      have BK367 := n1_
      have BK368 := n2_
      have HI370 := n3_
      have HO381 := n4_
      have HB := n5_
      have HO390 := n6_
      clear n0_ n1_ n2_ n3_ n4_ n5_ n6_
      clear ho hb hg hat
      obtain ⟨Ao30, co30, eo30⟩ := Kd.N_slice HO390.out
      (first|subst eo30|(injection eo30 with f1_ f2_ f3_;have f4_ := f1_.symm;have f5_ := f3_.symm;clear f1_ f2_ f3_;subst f4_;subst f5_))
      refine hK.out _ _ ((blk_cell BK366.out 0).trans rfl) (fun hHeld => ?_)
      clear hK K
      refine norm_ (a' := ?_) ?_ ?_
      rotate_left
      ·show Act.put _ (some 26) _ = _
       simp only [Act.put, List.setIfInBounds_toArray, List.set_cons_zero, List.set_cons_succ, i64_w, i32_w]
       rfl
      refine last_ (i := 5) (N := none) #[true, true, true, true, true, true] rfl rfl (by kernel_rfl) (by decide) (fun K hK => ?_)
      have hs31 : w27.cell? ⟨gb366, 0, none⟩ = some (u367000) := (blk_cell BK366.out 0).trans rfl
      have hfs31 := blk_frozen BK366.out 0
      have hns31_1 := NB367_366.out
      have hns31_2 := NB368_366.out
      have hms31_1 := NB366_367.out
      have hms31_2 := NB366_368.out
      refine skip_ (w1 := ?_) (by rfl) rfl ?_ ?_
      rotate_left
      ·go_simp
       rfl
      refine hK.out _ _ ?_
      clear hK K
      refine done_ (by kernel_rfl) ?_
      try go_wp2_with (first|((with_reducible refine gate_callee (f := 13) rfl ?_);refine goesL_ (some 21) rfl rfl Tryd.func13 (by kernel_rfl) rfl #[.pointer (some ⟨gb370, 0, none⟩)] rfl (by (try simp only [List.map_toArray, List.map_cons, List.map_nil]);first|done|rfl|(simp only [List.length_drop, List.length_take];rfl)) ?_;(with_reducible refine (token_scanner_blanks.calls k1 gb370 l0 t387 t391 w _ ?side1 ?side2 A23.out).mono ?_);(case side1 => repeat (first|(with_reducible first|exact HI370.out|apply IsS50.alloc|apply IsS50.drewN|apply IsS50.drew|apply IsS50.set_1|refine IsS50.far ?_ NB370_366.out _|refine IsS50.far ?_ NB370_367.out _|refine IsS50.far ?_ NB370_368.out _)|exact HI370.out));(case side2 => repeat (first|(with_reducible first|exact HB.out|apply below_alloc|apply pw_below_drewN|apply below_drew1|refine below_set ?_ (IsS50.ge HI370.out)|refine below_set ?_ GE366.out|refine below_set ?_ GE367.out|refine below_set ?_ GE368.out)|exact HB.out));rintro e w32 ⟨rfl, hi, hb, hk⟩;refine ⟨_, rfl, ?_⟩;have n0_ := Aside0.mk (KeepBut.blk hk (g' := gb366) (o := .cells #[.slice Ao30 y388.length co30] 23 (0, 0)) (by (with_reducible repeat (first|refine blk_drewN ?_ _|refine blk_drew ?_|refine blk_alloc ?_ _));refine blk_put (cs := #[u367000]) ?_ 0 _ rfl;(with_reducible repeat (first|refine blk_drewN ?_ _|refine blk_drew ?_|refine blk_alloc ?_ _));exact BK366.out) NB366_370.out (by simp));have n1_ := Aside0.mk (KeepBut.blk hk (g' := gb367) (o := .cells #[.int .i64 0] 3 (0, 0)) (by (with_reducible repeat (first|refine blk_drewN ?_ _|refine blk_drew ?_|refine blk_alloc ?_ _));refine blk_far ?_ NB367_366.out _;(with_reducible repeat (first|refine blk_drewN ?_ _|refine blk_drew ?_|refine blk_alloc ?_ _));exact BK367.out) NB367_370.out (by simp));have n2_ := Aside0.mk (KeepBut.blk hk (g' := gb368) (o := .cells #[.int .i64 0] 24 (0, 0)) (by (with_reducible repeat (first|refine blk_drewN ?_ _|refine blk_drew ?_|refine blk_alloc ?_ _));refine blk_far ?_ NB368_366.out _;(with_reducible repeat (first|refine blk_drewN ?_ _|refine blk_drew ?_|refine blk_alloc ?_ _));exact BK368.out) NB368_370.out (by simp));have n3_ := Aside0.mk (Kd.N_mono (Kd.N_keep (Kd.N_mono (ok := fun k_ => (((w.heap.size ≤ k_)) ∧ (k_ ≠ gb366 ∧ (k_ ≠ gb367 ∧ (k_ ≠ gb368 ∧ k_ ≠ gb370))))) (by (with_reducible repeat (first|apply Kd.N_alloc|apply Kd.N_drewN|apply Kd.N_drew));exact (Kd.N_mono (Kd.N_far (p := ⟨gb366, 0, none⟩) (Kd.N_mono HO390.out (fun k_ hk => (⟨hk, hk.2.1⟩ : _ ∧ k_ ≠ gb366))) (fun _ hk => hk.2) (.slice Ao30 y388.length co30)) (fun _ h_ => h_.1))) (fun k_ hk_ => (⟨hk_, hk_.2.2.2.2⟩ : _ ∧ k_ ≠ gb370))) hk (fun _ h => h.2)) (fun _ h => h.1));have n4_ := Aside0.mk (hb);have n5_ := Aside0.mk (hi);clear BK366;clear BK367;clear BK368;clear HO390;clear HB;clear HI370;have BK366 := n0_;have BK367 := n1_;have BK368 := n2_;have HO390 := n3_;have HB := n4_;have HI370 := n5_;clear n0_ n1_ n2_ n3_ n4_ n5_;(try clear hb);(try clear hb2);(try clear hk);(try clear hi)))
      go_roundg k1
      case measure => have := HK1.out; omega
      case rel => exact ⟨(y388), (t391), (.slice Ao30 y388.length co30), H', ⟨by have := HK1.out;omega⟩, ⟨by (with_reducible repeat (first|apply Kd.N_alloc|apply Kd.N_drewN|apply Kd.N_drew));exact HO390.out⟩, ⟨by (with_reducible repeat (first|refine blk_drewN ?_ _|refine blk_drew ?_|refine blk_alloc ?_ _));exact BK366.out⟩, ⟨by (with_reducible repeat (first|refine blk_drewN ?_ _|refine blk_drew ?_|refine blk_alloc ?_ _));exact BK367.out⟩, ⟨by (with_reducible repeat (first|refine blk_drewN ?_ _|refine blk_drew ?_|refine blk_alloc ?_ _));exact BK368.out⟩, ⟨by repeat (first|(with_reducible first|exact HI370.out|apply IsS50.alloc|apply IsS50.drewN|apply IsS50.drew|apply IsS50.set_1|refine IsS50.far ?_ NB370_366.out _|refine IsS50.far ?_ NB370_367.out _|refine IsS50.far ?_ NB370_368.out _)|exact HI370.out)⟩, ⟨by repeat (first|(with_reducible first|exact HB.out|apply below_alloc|apply pw_below_drewN|apply below_drew1|refine below_set ?_ (IsS50.ge HI370.out)|refine below_set ?_ GE366.out|refine below_set ?_ GE367.out|refine below_set ?_ GE368.out)|exact HB.out)⟩⟩
     ·rw [if_neg c22] at H
      exact absurd H (by simp)
    ·replace c20 := Bool.eq_false_iff.mpr c20
     subst c20
     have H1 : (some (x367000_1, 0, 0)) = some (r1, r2, r3) := by rw [if_neg (show ¬ (false = true) by decide)] at H; exact H
     clear H
     have H := H1
     clear H1
     simp only [Option.some.injEq, Prod.mk.injEq] at H
     obtain ⟨rfl, rfl, rfl⟩ := H
     go_wp2_with (first|((with_reducible refine gate_callee (f := 14) rfl ?_);refine goesL_ (some 19) rfl rfl Tryd.func14 (by kernel_rfl) rfl #[.pointer (some ⟨gb370, 0, none⟩), .int .i64 1] rfl (by (try simp only [List.map_toArray, List.map_cons, List.map_nil]);first|done|rfl|(simp only [List.length_drop, List.length_take];rfl)) ?_;(with_reducible refine (token_scanner_left.calls gb370 l0 x371001_1 1 false t373 w _ ?side1 ?side2 A19.out).mono ?_);(case side1 => repeat (first|(with_reducible first|exact HI370.out|apply IsS50.alloc|apply IsS50.drewN|apply IsS50.drew|apply IsS50.set_1|refine IsS50.far ?_ NB370_366.out _|refine IsS50.far ?_ NB370_367.out _|refine IsS50.far ?_ NB370_368.out _)|exact HI370.out));(case side2 => repeat (first|(with_reducible first|exact HB.out|apply below_alloc|apply pw_below_drewN|apply below_drew1|refine below_set ?_ (IsS50.ge HI370.out)|refine below_set ?_ GE366.out|refine below_set ?_ GE367.out|refine below_set ?_ GE368.out)|exact HB.out));rintro e w33 ⟨rfl, hi, hb, hk⟩;refine ⟨_, rfl, ?_⟩;have n0_ := Aside0.mk (Kd.N_mono (Kd.N_keep (Kd.N_mono (ok := fun k_ => (((w.heap.size ≤ k_)) ∧ (k_ ≠ gb366 ∧ (k_ ≠ gb367 ∧ (k_ ≠ gb368 ∧ k_ ≠ gb370))))) (by (with_reducible repeat (first|apply Kd.N_alloc|apply Kd.N_drewN|apply Kd.N_drew));exact HO_367000.out) (fun k_ hk_ => (⟨hk_, hk_.2.2.2.2⟩ : _ ∧ k_ ≠ gb370))) hk (fun _ h => h.2)) (fun _ h => h.1));have n1_ := Aside0.mk (KeepBut.blk hk (g' := gb366) (o := .cells #[u367000] 23 (0, 0)) (by (with_reducible repeat (first|refine blk_drewN ?_ _|refine blk_drew ?_|refine blk_alloc ?_ _));exact BK366.out) NB366_370.out (by simp));have n2_ := Aside0.mk (KeepBut.blk hk (g' := gb367) (o := .cells #[.int .i64 0] 3 (0, 0)) (by (with_reducible repeat (first|refine blk_drewN ?_ _|refine blk_drew ?_|refine blk_alloc ?_ _));exact BK367.out) NB367_370.out (by simp));have n3_ := Aside0.mk (KeepBut.blk hk (g' := gb368) (o := .cells #[.int .i64 0] 24 (0, 0)) (by (with_reducible repeat (first|refine blk_drewN ?_ _|refine blk_drew ?_|refine blk_alloc ?_ _));exact BK368.out) NB368_370.out (by simp));have n4_ := Aside0.mk (hb);have n5_ := Aside0.mk (hi);clear HO_367000;clear BK366;clear BK367;clear BK368;clear HB;clear HI370;have HO_367000 := n0_;have BK366 := n1_;have BK367 := n2_;have BK368 := n3_;have HB := n4_;have HI370 := n5_;clear n0_ n1_ n2_ n3_ n4_ n5_;(try clear hb);(try clear hb2);(try clear hk);(try clear hi);have hnb34 := NB366_367.out;have hnc34 := NB367_366.out;have hnb35 := NB366_368.out;have hnc35 := NB368_366.out;have hnb36 := NB366_370.out;have hnc36 := NB370_366.out;have hcz37_0 : w33.cell? ⟨gb366, 0, none⟩ = some (u367000) := (blk_cell BK366.out 0).trans rfl;have hfz37_0 := blk_frozen BK366.out 0;obtain ⟨Ao38, co38, eo38⟩ := Kd.N_slice HO_367000.out;subst eo38;have hnb39 := NB367_368.out;have hnc39 := NB368_367.out;have hnb40 := NB367_370.out;have hnc40 := NB370_367.out;have hcz41_0 : w33.cell? ⟨gb367, 0, none⟩ = some (.int .i64 0) := (blk_cell BK367.out 0).trans rfl;have hfz41_0 := blk_frozen BK367.out 0;have hnb42 := NB368_370.out;have hnc42 := NB370_368.out;have hcz43_0 : w33.cell? ⟨gb368, 0, none⟩ = some (.int .i64 0) := (blk_cell BK368.out 0).trans rfl;have hfz43_0 := blk_frozen BK368.out 0))
     (try simp only [Exit.inBlock, Exit.then])
     first | skip
     first|refine leavesD_retx (rs := [.cell 2 23, .cell 3 3, .cell 4 24]) (by rfl) rfl (by simp) (.plain gb366 23 (.slice Ao38 x367000_1.length co38) _ rfl (by (with_reducible repeat (first|refine blk_drewN ?_ _|refine blk_drew ?_|refine blk_alloc ?_ _));refine blk_far ?_ NB366_368.out _;(with_reducible repeat (first|refine blk_drewN ?_ _|refine blk_drew ?_|refine blk_alloc ?_ _));refine blk_far ?_ NB366_367.out _;(with_reducible repeat (first|refine blk_drewN ?_ _|refine blk_drew ?_|refine blk_alloc ?_ _));refine blk_put (cs := #[.slice Ao38 x367000_1.length co38]) ?_ 0 _ rfl;(with_reducible repeat (first|refine blk_drewN ?_ _|refine blk_drew ?_|refine blk_alloc ?_ _));exact BK366.out) Tryd.underlying23 rfl (.plain gb367 3 (.int .i64 0) _ rfl (by (with_reducible repeat (first|refine blk_drewN ?_ _|refine blk_drew ?_|refine blk_alloc ?_ _));refine blk_far ?_ NB367_368.out _;(with_reducible repeat (first|refine blk_drewN ?_ _|refine blk_drew ?_|refine blk_alloc ?_ _));refine blk_put (cs := #[.int .i64 0]) ?_ 0 _ rfl;(with_reducible repeat (first|refine blk_drewN ?_ _|refine blk_drew ?_|refine blk_alloc ?_ _));refine blk_far ?_ NB367_366.out _;(with_reducible repeat (first|refine blk_drewN ?_ _|refine blk_drew ?_|refine blk_alloc ?_ _));exact BK367.out) Tryd.underlying3 rfl (.plain gb368 24 (.int .i64 0) _ rfl (by (with_reducible repeat (first|refine blk_drewN ?_ _|refine blk_drew ?_|refine blk_alloc ?_ _));refine blk_put (cs := #[.int .i64 0]) ?_ 0 _ rfl;(with_reducible repeat (first|refine blk_drewN ?_ _|refine blk_drew ?_|refine blk_alloc ?_ _));refine blk_far ?_ NB368_367.out _;(with_reducible repeat (first|refine blk_drewN ?_ _|refine blk_drew ?_|refine blk_alloc ?_ _));refine blk_far ?_ NB368_366.out _;(with_reducible repeat (first|refine blk_drewN ?_ _|refine blk_drew ?_|refine blk_alloc ?_ _));exact BK368.out) Tryd.underlying24 rfl .nil))) ?_|(refine leavesD_cons (f := 12) (by rfl) (by first|rfl|simp [go_sem]) ?_;refine (token_Scan_2_idle _ _ _ _).mono ?_;rintro e_ u_ w_ ⟨rfl, rfl, rfl⟩;refine leaves_retx (rs := [.cell 2 23, .cell 3 3, .cell 4 24]) rfl (by simp) (.plain gb366 23 (.slice Ao38 x367000_1.length co38) _ rfl (by (with_reducible repeat (first|refine blk_drewN ?_ _|refine blk_drew ?_|refine blk_alloc ?_ _));refine blk_far ?_ NB366_368.out _;(with_reducible repeat (first|refine blk_drewN ?_ _|refine blk_drew ?_|refine blk_alloc ?_ _));refine blk_far ?_ NB366_367.out _;(with_reducible repeat (first|refine blk_drewN ?_ _|refine blk_drew ?_|refine blk_alloc ?_ _));refine blk_put (cs := #[.slice Ao38 x367000_1.length co38]) ?_ 0 _ rfl;(with_reducible repeat (first|refine blk_drewN ?_ _|refine blk_drew ?_|refine blk_alloc ?_ _));exact BK366.out) Tryd.underlying23 rfl (.plain gb367 3 (.int .i64 0) _ rfl (by (with_reducible repeat (first|refine blk_drewN ?_ _|refine blk_drew ?_|refine blk_alloc ?_ _));refine blk_far ?_ NB367_368.out _;(with_reducible repeat (first|refine blk_drewN ?_ _|refine blk_drew ?_|refine blk_alloc ?_ _));refine blk_put (cs := #[.int .i64 0]) ?_ 0 _ rfl;(with_reducible repeat (first|refine blk_drewN ?_ _|refine blk_drew ?_|refine blk_alloc ?_ _));refine blk_far ?_ NB367_366.out _;(with_reducible repeat (first|refine blk_drewN ?_ _|refine blk_drew ?_|refine blk_alloc ?_ _));exact BK367.out) Tryd.underlying3 rfl (.plain gb368 24 (.int .i64 0) _ rfl (by (with_reducible repeat (first|refine blk_drewN ?_ _|refine blk_drew ?_|refine blk_alloc ?_ _));refine blk_put (cs := #[.int .i64 0]) ?_ 0 _ rfl;(with_reducible repeat (first|refine blk_drewN ?_ _|refine blk_drew ?_|refine blk_alloc ?_ _));refine blk_far ?_ NB368_367.out _;(with_reducible repeat (first|refine blk_drewN ?_ _|refine blk_drew ?_|refine blk_alloc ?_ _));refine blk_far ?_ NB368_366.out _;(with_reducible repeat (first|refine blk_drewN ?_ _|refine blk_drew ?_|refine blk_alloc ?_ _));exact BK368.out) Tryd.underlying24 rfl .nil))) ?_)
     exact ⟨_, by first|rfl|(simp [errW_none, errW_some] <;> rfl)|(simp [*, errW_none, errW_some] <;> rfl), by (with_reducible repeat (first|apply Kd.N_alloc|apply Kd.N_drewN|apply Kd.N_drew));exact Kd.N_mono (Kd.N_far (p := ⟨gb368, 0, none⟩) (Kd.N_far (p := ⟨gb367, 0, none⟩) (Kd.N_far (p := ⟨gb366, 0, none⟩) (Kd.N_mono (Kd.N_mono (Kd.N_mono HO_367000.out (fun k_ hk => (⟨hk, hk.2.1⟩ : _ ∧ k_ ≠ gb366))) (fun k_ hk => (⟨hk, hk.1.2.2.1⟩ : _ ∧ k_ ≠ gb367))) (fun k_ hk => (⟨hk, hk.1.1.2.2.2.1⟩ : _ ∧ k_ ≠ gb368))) (fun _ hk => hk.1.1.2) (.slice Ao38 x367000_1.length co38)) (fun _ hk => hk.1.2) (.int .i64 0)) (fun _ hk => hk.2) (.int .i64 0)) (fun _ hk => hk.1.1.1.1), by repeat (first|(with_reducible first|exact HB.out|apply below_alloc|apply pw_below_drewN|apply below_drew1|refine below_set ?_ (IsS50.ge HI370.out)|refine below_set ?_ GE366.out|refine below_set ?_ GE367.out|refine below_set ?_ GE368.out)|exact HB.out)⟩
end Go.Proofs.YtefefpkgiecikaaDoor.P
