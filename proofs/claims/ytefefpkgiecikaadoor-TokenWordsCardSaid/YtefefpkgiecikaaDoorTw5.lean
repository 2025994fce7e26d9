/- For every list of picks: words that are written one behind the other with blanks between are scanned as these words, so the law TokenWords returns true and leaves its argument as it was. Conditions: those of the given row alone (the listed package-level variables hold what the program's text lays; the card ties them). -/
import Derived.Test.YtefefpkgiecikaaDoorTw1
import Derived.Test.YtefefpkgiecikaaDoorTw4
import Derived.ProofKit
import Derived.LaidMore
import Derived.OpenShut
import Derived.Stop.Joined
import Derived.KernelRfl
import Derived.Test.YtefefpkgiecikaaDoorRows
import Derived.Test.YtefefpkgiecikaaDoorCards
import Derived.Test.YtefefpkgiecikaaDoorTie
import Derived.WalkKit
import Derived.ShutString
import Derived.ChangeOld
import Derived.Below
import Derived.SizedLaws
import Derived.SevenTiedAt
import Derived.Lay
import Derived.Test.YtefefpkgiecikaaDoorTw0
namespace Go.Proofs.YtefefpkgiecikaaDoor.P
open Go.RowKit Go.Proofs.YtefefpkgiecikaaDoorW.PrintWords Go.Proofs.YtefefpkgiecikaaDoorW.PrintLast Go.Proofs.YtefefpkgiecikaaDoorW.PrintMore
attribute [local go_sem] max2_int min2_int max_two min_two max_three min_three max_four min_four
set_option linter.unusedVariables false
set_option linter.unusedSimpArgs false
mutual
def marginalialaw03_TokenWords.l0 : Nat → List Int → List ByteArray → List Int → ByteArray → Int → Option (Bool)
 | 0, _, _, _, _, _ => none
 | k + 1, x0, x3, x4, x5, x6 => if x6 < (x0.length : Int) then (if 0 ≤ x6 then (if 0 ≤ (Int.tmod (wrap64 (rd x0 x6)) 17) then (if (Int.tmod (wrap64 (rd x0 x6)) 17) < (x3.length : Int) then (if x5.size + (rdOf ByteArray.empty x3 (Int.tmod (wrap64 (rd x0 x6)) 17)).size ≤ 9223372036854775807 then (if (x5 ++ (rdOf ByteArray.empty x3 (Int.tmod (wrap64 (rd x0 x6)) 17))).size + 1 ≤ 9223372036854775807 then (marginalialaw03_TokenWords.l0 k x0 x3 x4 ((x5 ++ (rdOf ByteArray.empty x3 (Int.tmod (wrap64 (rd x0 x6)) 17))) ++ (⟨#[32]⟩ : ByteArray)) (wrap64 (x6 + 1))) else (none)) else (none)) else (none)) else (none)) else (none)) else ((marginalialaw03_chars.f k x5).bind fun t440 => ((token_Scan.f k t440).bind fun bt443 => ((marginalialaw03_answers.f k).bind fun t448 => (if t448 = true then (if bt443.2.2 = 0 then (marginalialaw03_TokenWords.j1 k x0 x3 x4 bt443.1 ((bt443.1.length : Int) != (x0.length : Int))) else (marginalialaw03_TokenWords.j1 k x0 x3 x4 bt443.1 true)) else (marginalialaw03_TokenWords.j1 k x0 x3 x4 bt443.1 true)))))
def marginalialaw03_TokenWords.j1 : Nat → List Int → List ByteArray → List Int → List (S38) → Bool → Option (Bool)
 | 0, _, _, _, _, _ => none
 | k + 1, x0, x3, x4, x7, x56 => if x56 = true then (some false) else (marginalialaw03_TokenWords.l1 k x0 x3 x4 x7 0 0)
def marginalialaw03_TokenWords.l1 : Nat → List Int → List ByteArray → List Int → List (S38) → Int → Int → Option (Bool)
 | 0, _, _, _, _, _, _ => none
 | k + 1, x0, x3, x4, x7, x10, x11 => if x11 < (x7.length : Int) then (if 0 ≤ x11 then (if x11 < (x0.length : Int) then (if 0 ≤ (Int.tmod (wrap64 (rd x0 x11)) 17) then (if (Int.tmod (wrap64 (rd x0 x11)) 17) < (x4.length : Int) then (if ((rd_T38 x7 x11).f0) = (rd x4 (Int.tmod (wrap64 (rd x0 x11)) 17)) then (if ((rd_T38 x7 x11).f3) = x10 then (if (Int.tmod (wrap64 (rd x0 x11)) 17) < (x3.length : Int) then (marginalialaw03_TokenWords.l1 k x0 x3 x4 x7 (wrap64 ((wrap64 (x10 + ((rdOf ByteArray.empty x3 (Int.tmod (wrap64 (rd x0 x11)) 17)).size : Int))) + 1)) (wrap64 (x11 + 1))) else (none)) else (some false)) else (some false)) else (none)) else (none)) else (none)) else (none)) else (some true)
end
def marginalialaw03_TokenWords.f (k : Nat) (l0 : List Int) : Option (Bool) := if (l0.length : Int) > 200 then ((marginalialaw03_answers.f k).bind fun t437 => (some t437)) else (marginalialaw03_TokenWords.l0 k l0 (([(⟨#[40]⟩ : ByteArray), (⟨#[41]⟩ : ByteArray), (⟨#[35, 40]⟩ : ByteArray), (⟨#[35, 59]⟩ : ByteArray), (⟨#[39]⟩ : ByteArray), (⟨#[44]⟩ : ByteArray), (⟨#[44, 64]⟩ : ByteArray), (⟨#[35, 39]⟩ : ByteArray), (⟨#[35, 44]⟩ : ByteArray), (⟨#[35, 44, 64]⟩ : ByteArray), (⟨#[97]⟩ : ByteArray), (⟨#[45, 53]⟩ : ByteArray), (⟨#[35, 116]⟩ : ByteArray), (⟨#[34, 120, 32, 121, 34]⟩ : ByteArray), (⟨#[35, 92, 97]⟩ : ByteArray), (⟨#[46, 46, 46]⟩ : ByteArray), (⟨#[43]⟩ : ByteArray)] : List ByteArray)) (([1, 2, 3, 5, 6, 6, 6, 6, 6, 6, 7, 7, 7, 7, 7, 7, 7] : List Int)) (⟨#[]⟩ : ByteArray) 0)
theorem marginalialaw03_TokenWords.mono_l : ∀ k, (∀ y0 y1 y2 y3 y4, LeO (marginalialaw03_TokenWords.l0 k y0 y1 y2 y3 y4) (marginalialaw03_TokenWords.l0 (k + 1) y0 y1 y2 y3 y4)) ∧ (∀ y0 y1 y2 y3 y4, LeO (marginalialaw03_TokenWords.j1 k y0 y1 y2 y3 y4) (marginalialaw03_TokenWords.j1 (k + 1) y0 y1 y2 y3 y4)) ∧ (∀ y0 y1 y2 y3 y4 y5, LeO (marginalialaw03_TokenWords.l1 k y0 y1 y2 y3 y4 y5) (marginalialaw03_TokenWords.l1 (k + 1) y0 y1 y2 y3 y4 y5))
 | 0 => ⟨fun _ _ _ _ _ r h => by simp [marginalialaw03_TokenWords.l0] at h, fun _ _ _ _ _ r h => by simp [marginalialaw03_TokenWords.j1] at h, fun _ _ _ _ _ _ r h => by simp [marginalialaw03_TokenWords.l1] at h⟩
 | k + 1 => by
  obtain ⟨ih0, ih1, ih2⟩ := marginalialaw03_TokenWords.mono_l k
  refine ⟨?_, ?_, ?_⟩
  ·intro y0 y1 y2 y3 y4
   unfold marginalialaw03_TokenWords.l0
   repeat' first
   | (with_reducible exact ih0 _ _ _ _ _)
   | (with_reducible exact ih1 _ _ _ _ _)
   | (with_reducible exact ih2 _ _ _ _ _ _)
   | (with_reducible exact marginalialaw03_answers.mono _)
   | (with_reducible exact marginalialaw03_chars.mono _ _)
   | (with_reducible exact token_Scan.mono _ _)
   | (with_reducible exact LeO.refl _)
   | (with_reducible exact LeO.none _)
   | (with_reducible refine LeO.ite ?_ ?_)
   | (with_reducible refine LeO.bind ?_ (fun _ => ?_))
   | exact ih0 _ _ _ _ _
   | exact ih1 _ _ _ _ _
   | exact ih2 _ _ _ _ _ _
   | exact marginalialaw03_answers.mono _
   | exact marginalialaw03_chars.mono _ _
   | exact token_Scan.mono _ _
   | exact LeO.none _
   | refine LeO.ite ?_ ?_
   | refine LeO.bind ?_ (fun _ => ?_)
  ·intro y0 y1 y2 y3 y4
   unfold marginalialaw03_TokenWords.j1
   repeat' first
   | (with_reducible exact ih0 _ _ _ _ _)
   | (with_reducible exact ih1 _ _ _ _ _)
   | (with_reducible exact ih2 _ _ _ _ _ _)
   | (with_reducible exact marginalialaw03_answers.mono _)
   | (with_reducible exact marginalialaw03_chars.mono _ _)
   | (with_reducible exact token_Scan.mono _ _)
   | (with_reducible exact LeO.refl _)
   | (with_reducible exact LeO.none _)
   | (with_reducible refine LeO.ite ?_ ?_)
   | (with_reducible refine LeO.bind ?_ (fun _ => ?_))
   | exact ih0 _ _ _ _ _
   | exact ih1 _ _ _ _ _
   | exact ih2 _ _ _ _ _ _
   | exact marginalialaw03_answers.mono _
   | exact marginalialaw03_chars.mono _ _
   | exact token_Scan.mono _ _
   | exact LeO.none _
   | refine LeO.ite ?_ ?_
   | refine LeO.bind ?_ (fun _ => ?_)
  ·intro y0 y1 y2 y3 y4 y5
   unfold marginalialaw03_TokenWords.l1
   repeat' first
   | (with_reducible exact ih0 _ _ _ _ _)
   | (with_reducible exact ih1 _ _ _ _ _)
   | (with_reducible exact ih2 _ _ _ _ _ _)
   | (with_reducible exact marginalialaw03_answers.mono _)
   | (with_reducible exact marginalialaw03_chars.mono _ _)
   | (with_reducible exact token_Scan.mono _ _)
   | (with_reducible exact LeO.refl _)
   | (with_reducible exact LeO.none _)
   | (with_reducible refine LeO.ite ?_ ?_)
   | (with_reducible refine LeO.bind ?_ (fun _ => ?_))
   | exact ih0 _ _ _ _ _
   | exact ih1 _ _ _ _ _
   | exact ih2 _ _ _ _ _ _
   | exact marginalialaw03_answers.mono _
   | exact marginalialaw03_chars.mono _ _
   | exact token_Scan.mono _ _
   | exact LeO.none _
   | refine LeO.ite ?_ ?_
   | refine LeO.bind ?_ (fun _ => ?_)
theorem marginalialaw03_TokenWords.mono : ∀ a0 k, LeO (marginalialaw03_TokenWords.f k a0) (marginalialaw03_TokenWords.f (k + 1) a0) := by
 intro a0 k
 obtain ⟨ih0, ih1, ih2⟩ := marginalialaw03_TokenWords.mono_l k
 unfold marginalialaw03_TokenWords.f
 repeat' first
   | (with_reducible exact ih0 _ _ _ _ _)
   | (with_reducible exact ih1 _ _ _ _ _)
   | (with_reducible exact ih2 _ _ _ _ _ _)
   | (with_reducible exact marginalialaw03_answers.mono _)
   | (with_reducible exact marginalialaw03_chars.mono _ _)
   | (with_reducible exact token_Scan.mono _ _)
   | (with_reducible exact LeO.refl _)
   | (with_reducible exact LeO.none _)
   | (with_reducible refine LeO.ite ?_ ?_)
   | (with_reducible refine LeO.bind ?_ (fun _ => ?_))
   | exact ih0 _ _ _ _ _
   | exact ih1 _ _ _ _ _
   | exact ih2 _ _ _ _ _ _
   | exact marginalialaw03_answers.mono _
   | exact marginalialaw03_chars.mono _ _
   | exact token_Scan.mono _ _
   | exact LeO.none _
   | refine LeO.ite ?_ ?_
   | refine LeO.bind ?_ (fun _ => ?_)
set_option maxHeartbeats 8000000 in
set_option maxRecDepth 100000 in
theorem marginalialaw03_TokenWords.calls (k : Nat) (A0 : Option Addr) (c0 : Nat) (l0 : List Int) (r : Bool) (w : World) (hLD : LD w) (hr0 : Kd.C (Kd.int .u8) w A0 l0.length l0) (hc0 : l0.length ≤ c0) (h : marginalialaw03_TokenWords.f k l0 = some r) :
  Calls Tryd.prog 4 #[.slice A0 l0.length c0] w fun e w' => e = .returned (.bool r) ∧ Below w.heap.size w w' := by
 have HR0 := Aside0.mk hr0
 have HC0 := Aside0.mk hc0
 clear hr0 hc0
 have HLD := Aside0.mk hLD
 clear hLD
 have HB := Aside0.mk (Below.refl w.heap.size w)
 have H : (if (l0.length : Int) > 200 then ((marginalialaw03_answers.f k).bind fun t437 => (some t437)) else (marginalialaw03_TokenWords.l0 k l0 (([(⟨#[40]⟩ : ByteArray), (⟨#[41]⟩ : ByteArray), (⟨#[35, 40]⟩ : ByteArray), (⟨#[35, 59]⟩ : ByteArray), (⟨#[39]⟩ : ByteArray), (⟨#[44]⟩ : ByteArray), (⟨#[44, 64]⟩ : ByteArray), (⟨#[35, 39]⟩ : ByteArray), (⟨#[35, 44]⟩ : ByteArray), (⟨#[35, 44, 64]⟩ : ByteArray), (⟨#[97]⟩ : ByteArray), (⟨#[45, 53]⟩ : ByteArray), (⟨#[35, 116]⟩ : ByteArray), (⟨#[34, 120, 32, 121, 34]⟩ : ByteArray), (⟨#[35, 92, 97]⟩ : ByteArray), (⟨#[46, 46, 46]⟩ : ByteArray), (⟨#[43]⟩ : ByteArray)] : List ByteArray)) (([1, 2, 3, 5, 6, 6, 6, 6, 6, 6, 7, 7, 7, 7, 7, 7, 7] : List Int)) (⟨#[]⟩ : ByteArray) 0)) = some r := h
 clear h
 obtain ⟨y431, hy431⟩ : ∃ y_ : List ByteArray, y_ = (([(⟨#[40]⟩ : ByteArray), (⟨#[41]⟩ : ByteArray), (⟨#[35, 40]⟩ : ByteArray), (⟨#[35, 59]⟩ : ByteArray), (⟨#[39]⟩ : ByteArray), (⟨#[44]⟩ : ByteArray), (⟨#[44, 64]⟩ : ByteArray), (⟨#[35, 39]⟩ : ByteArray), (⟨#[35, 44]⟩ : ByteArray), (⟨#[35, 44, 64]⟩ : ByteArray), (⟨#[97]⟩ : ByteArray), (⟨#[45, 53]⟩ : ByteArray), (⟨#[35, 116]⟩ : ByteArray), (⟨#[34, 120, 32, 121, 34]⟩ : ByteArray), (⟨#[35, 92, 97]⟩ : ByteArray), (⟨#[46, 46, 46]⟩ : ByteArray), (⟨#[43]⟩ : ByteArray)] : List ByteArray)) := ⟨_, rfl⟩
 replace H : (if (l0.length : Int) > 200 then ((marginalialaw03_answers.f k).bind fun t437 => (some t437)) else (marginalialaw03_TokenWords.l0 k l0 y431 (([1, 2, 3, 5, 6, 6, 6, 6, 6, 6, 7, 7, 7, 7, 7, 7, 7] : List Int)) (⟨#[]⟩ : ByteArray) 0)) = some r := by first | (rw [hy431]; with_reducible exact H) | (have H2_ := (Option.bind_some _ _).symm.trans H; rw [hy431]; with_reducible exact H2_) | (have H2_ := (Option.bind_some _ _).symm.trans H; with_reducible exact H2_) | with_reducible exact H | (rw [hy431]; exact H) | exact H
 have Ny431 := Aside0.mk hy431
 clear hy431
 obtain ⟨y434, hy434⟩ : ∃ y_ : List Int, y_ = (([1, 2, 3, 5, 6, 6, 6, 6, 6, 6, 7, 7, 7, 7, 7, 7, 7] : List Int)) := ⟨_, rfl⟩
 replace H : (if (l0.length : Int) > 200 then ((marginalialaw03_answers.f k).bind fun t437 => (some t437)) else (marginalialaw03_TokenWords.l0 k l0 y431 y434 (⟨#[]⟩ : ByteArray) 0)) = some r := by first | (rw [hy434]; with_reducible exact H) | (have H2_ := (Option.bind_some _ _).symm.trans H; rw [hy434]; with_reducible exact H2_) | (have H2_ := (Option.bind_some _ _).symm.trans H; with_reducible exact H2_) | with_reducible exact H | (rw [hy434]; exact H) | exact H
 have Ny434 := Aside0.mk hy434
 clear hy434
 by_cases c2 : (l0.length : Int) > 200
 ·rw [if_pos c2] at H
  have c2b0 : decide (200 < (l0.length : Int)) = true := decide_eq_true c2
  have c2b1 : decide (200 < l0.length) = true := decide_eq_true (by omega)
  clear c2
  replace H := Option.bind_eq_some_iff.mp H
  obtain ⟨t437, A30, H⟩ := H
  replace H : (some t437) = some r := H
  have A3 := Aside0.mk A30
  clear A30
  obtain rfl := Option.some.inj H
  go_enter Tryd.func4, Tryd.ntmps4
  go_wp2_with (first | ((with_reducible refine gate_dst (N := 13) rfl ?_); (try (refine gate_guard (by rfl) ?_; dsimp only)); refine Kd.R_lit Kd.string _ 9 ?hg (N := 13) ?hd (xs := ([(⟨#[40]⟩ : ByteArray), (⟨#[41]⟩ : ByteArray), (⟨#[35, 40]⟩ : ByteArray), (⟨#[35, 59]⟩ : ByteArray), (⟨#[39]⟩ : ByteArray), (⟨#[44]⟩ : ByteArray), (⟨#[44, 64]⟩ : ByteArray), (⟨#[35, 39]⟩ : ByteArray), (⟨#[35, 44]⟩ : ByteArray), (⟨#[35, 44, 64]⟩ : ByteArray), (⟨#[97]⟩ : ByteArray), (⟨#[45, 53]⟩ : ByteArray), (⟨#[35, 116]⟩ : ByteArray), (⟨#[34, 120, 32, 121, 34]⟩ : ByteArray), (⟨#[35, 92, 97]⟩ : ByteArray), (⟨#[46, 46, 46]⟩ : ByteArray), (⟨#[43]⟩ : ByteArray)] : List ByteArray)) (inner := [.string (⟨#[40]⟩ : ByteArray), .string (⟨#[41]⟩ : ByteArray), .string (⟨#[35, 40]⟩ : ByteArray), .string (⟨#[35, 59]⟩ : ByteArray), .string (⟨#[39]⟩ : ByteArray), .string (⟨#[44]⟩ : ByteArray), .string (⟨#[44, 64]⟩ : ByteArray), .string (⟨#[35, 39]⟩ : ByteArray), .string (⟨#[35, 44]⟩ : ByteArray), .string (⟨#[35, 44, 64]⟩ : ByteArray), .string (⟨#[97]⟩ : ByteArray), .string (⟨#[45, 53]⟩ : ByteArray), .string (⟨#[35, 116]⟩ : ByteArray), .string (⟨#[34, 120, 32, 121, 34]⟩ : ByteArray), .string (⟨#[35, 92, 97]⟩ : ByteArray), .string (⟨#[46, 46, 46]⟩ : ByteArray), .string (⟨#[43]⟩ : ByteArray)]) (ok := fun _ => True) (okp := fun _ => True) ?hr ?hp (fun _ hk => hk) trivial (Below.refl _ _) (Nat.le_refl _) (by simp) ?_; (case hd => rfl); (case hg => rfl); (case hr => first | (go_simp; done) | (go_simp; rfl)); (case hp => exact (Reps.one (show Kd.M Kd.string _ _ _ (⟨#[40]⟩ : ByteArray) [.string (⟨#[40]⟩ : ByteArray)] from rfl) (Reps.one (show Kd.M Kd.string _ _ _ (⟨#[41]⟩ : ByteArray) [.string (⟨#[41]⟩ : ByteArray)] from rfl) (Reps.one (show Kd.M Kd.string _ _ _ (⟨#[35, 40]⟩ : ByteArray) [.string (⟨#[35, 40]⟩ : ByteArray)] from rfl) (Reps.one (show Kd.M Kd.string _ _ _ (⟨#[35, 59]⟩ : ByteArray) [.string (⟨#[35, 59]⟩ : ByteArray)] from rfl) (Reps.one (show Kd.M Kd.string _ _ _ (⟨#[39]⟩ : ByteArray) [.string (⟨#[39]⟩ : ByteArray)] from rfl) (Reps.one (show Kd.M Kd.string _ _ _ (⟨#[44]⟩ : ByteArray) [.string (⟨#[44]⟩ : ByteArray)] from rfl) (Reps.one (show Kd.M Kd.string _ _ _ (⟨#[44, 64]⟩ : ByteArray) [.string (⟨#[44, 64]⟩ : ByteArray)] from rfl) (Reps.one (show Kd.M Kd.string _ _ _ (⟨#[35, 39]⟩ : ByteArray) [.string (⟨#[35, 39]⟩ : ByteArray)] from rfl) (Reps.one (show Kd.M Kd.string _ _ _ (⟨#[35, 44]⟩ : ByteArray) [.string (⟨#[35, 44]⟩ : ByteArray)] from rfl) (Reps.one (show Kd.M Kd.string _ _ _ (⟨#[35, 44, 64]⟩ : ByteArray) [.string (⟨#[35, 44, 64]⟩ : ByteArray)] from rfl) (Reps.one (show Kd.M Kd.string _ _ _ (⟨#[97]⟩ : ByteArray) [.string (⟨#[97]⟩ : ByteArray)] from rfl) (Reps.one (show Kd.M Kd.string _ _ _ (⟨#[45, 53]⟩ : ByteArray) [.string (⟨#[45, 53]⟩ : ByteArray)] from rfl) (Reps.one (show Kd.M Kd.string _ _ _ (⟨#[35, 116]⟩ : ByteArray) [.string (⟨#[35, 116]⟩ : ByteArray)] from rfl) (Reps.one (show Kd.M Kd.string _ _ _ (⟨#[34, 120, 32, 121, 34]⟩ : ByteArray) [.string (⟨#[34, 120, 32, 121, 34]⟩ : ByteArray)] from rfl) (Reps.one (show Kd.M Kd.string _ _ _ (⟨#[35, 92, 97]⟩ : ByteArray) [.string (⟨#[35, 92, 97]⟩ : ByteArray)] from rfl) (Reps.one (show Kd.M Kd.string _ _ _ (⟨#[46, 46, 46]⟩ : ByteArray) [.string (⟨#[46, 46, 46]⟩ : ByteArray)] from rfl) (Reps.one (show Kd.M Kd.string _ _ _ (⟨#[43]⟩ : ByteArray) [.string (⟨#[43]⟩ : ByteArray)] from rfl) (Reps.none _ _))))))))))))))))))); intro v432 w4 ho5 hb hg_ hnew_; clear hg_ hnew_; (first | rw [← Ny431.out] at ho5 | (simp only [Int.reduceToNat] at ho5; rw [← Ny431.out] at ho5)); have n0_ := Aside0.mk (Kd.R_lower ho5 (below_size (by repeat (first | (with_reducible first | exact HB.out | apply below_alloc | apply pw_below_drewN | apply below_drew1) | exact HB.out)))); have n1_ := Aside0.mk (below_step (by repeat (first | (with_reducible first | exact HB.out | apply below_alloc | apply pw_below_drewN | apply below_drew1) | exact HB.out)) hb); clear HB; have HO433 := n0_; have HB := n1_; clear n0_ n1_; clear hb ho5) | ((with_reducible refine gate_dst (N := 14) rfl ?_); (try (refine gate_guard (by rfl) ?_; dsimp only)); refine Kd.R_lit (Kd.int .i64) _ 3 ?hg (N := 14) ?hd (xs := ([1, 2, 3, 5, 6, 6, 6, 6, 6, 6, 7, 7, 7, 7, 7, 7, 7] : List Int)) (inner := [.int .i64 1, .int .i64 2, .int .i64 3, .int .i64 5, .int .i64 6, .int .i64 6, .int .i64 6, .int .i64 6, .int .i64 6, .int .i64 6, .int .i64 7, .int .i64 7, .int .i64 7, .int .i64 7, .int .i64 7, .int .i64 7, .int .i64 7]) (ok := fun _ => True) (okp := fun _ => True) ?hr ?hp (fun _ hk => hk) trivial (Below.refl _ _) (Nat.le_refl _) (by simp) ?_; (case hd => rfl); (case hg => rfl); (case hr => first | (go_simp; done) | (go_simp; rfl)); (case hp => exact (Reps.one (show Kd.M (Kd.int .i64) _ _ _ 1 [.int .i64 1] from rfl) (Reps.one (show Kd.M (Kd.int .i64) _ _ _ 2 [.int .i64 2] from rfl) (Reps.one (show Kd.M (Kd.int .i64) _ _ _ 3 [.int .i64 3] from rfl) (Reps.one (show Kd.M (Kd.int .i64) _ _ _ 5 [.int .i64 5] from rfl) (Reps.one (show Kd.M (Kd.int .i64) _ _ _ 6 [.int .i64 6] from rfl) (Reps.one (show Kd.M (Kd.int .i64) _ _ _ 6 [.int .i64 6] from rfl) (Reps.one (show Kd.M (Kd.int .i64) _ _ _ 6 [.int .i64 6] from rfl) (Reps.one (show Kd.M (Kd.int .i64) _ _ _ 6 [.int .i64 6] from rfl) (Reps.one (show Kd.M (Kd.int .i64) _ _ _ 6 [.int .i64 6] from rfl) (Reps.one (show Kd.M (Kd.int .i64) _ _ _ 6 [.int .i64 6] from rfl) (Reps.one (show Kd.M (Kd.int .i64) _ _ _ 7 [.int .i64 7] from rfl) (Reps.one (show Kd.M (Kd.int .i64) _ _ _ 7 [.int .i64 7] from rfl) (Reps.one (show Kd.M (Kd.int .i64) _ _ _ 7 [.int .i64 7] from rfl) (Reps.one (show Kd.M (Kd.int .i64) _ _ _ 7 [.int .i64 7] from rfl) (Reps.one (show Kd.M (Kd.int .i64) _ _ _ 7 [.int .i64 7] from rfl) (Reps.one (show Kd.M (Kd.int .i64) _ _ _ 7 [.int .i64 7] from rfl) (Reps.one (show Kd.M (Kd.int .i64) _ _ _ 7 [.int .i64 7] from rfl) (Reps.none _ _))))))))))))))))))); intro v435 w6 ho7 hb hg_ hnew_; clear hg_ hnew_; (first | rw [← Ny434.out] at ho7 | (simp only [Int.reduceToNat] at ho7; rw [← Ny434.out] at ho7)); have n0_ := Aside0.mk (Kd.R_below (by (with_reducible repeat (first | apply Kd.R_alloc | apply Kd.R_drewN | apply Kd.R_drew)); exact HO433.out) hb); have n1_ := Aside0.mk (Kd.R_lower ho7 (below_size (by repeat (first | (with_reducible first | exact HB.out | apply below_alloc | apply pw_below_drewN | apply below_drew1) | exact HB.out)))); have n2_ := Aside0.mk (below_step (by repeat (first | (with_reducible first | exact HB.out | apply below_alloc | apply pw_below_drewN | apply below_drew1) | exact HB.out)) hb); clear HO433; clear HB; have HO433 := n0_; have HO436 := n1_; have HB := n2_; clear n0_ n1_ n2_; clear hb ho7) | (go_at_call 7; (with_reducible refine (marginalialaw03_answers.calls k  t437 _ ?side1 A3.out).mono ?_); (case side1 => exact LD.below HLD.out (by repeat (first | (with_reducible first | exact HB.out | apply below_alloc | apply pw_below_drewN | apply below_drew1) | exact HB.out))); rintro e w8 ⟨rfl, hb⟩; have n0_ := Aside0.mk (Kd.R_below (by (with_reducible repeat (first | apply Kd.R_alloc | apply Kd.R_drewN | apply Kd.R_drew)); exact HO433.out) hb); have n1_ := Aside0.mk (Kd.R_below (by (with_reducible repeat (first | apply Kd.R_alloc | apply Kd.R_drewN | apply Kd.R_drew)); exact HO436.out) hb); have n2_ := Aside0.mk (below_step (by repeat (first | (with_reducible first | exact HB.out | apply below_alloc | apply pw_below_drewN | apply below_drew1) | exact HB.out)) hb); clear HO433; clear HO436; clear HB; have HO433 := n0_; have HO436 := n1_; have HB := n2_; clear n0_ n1_ n2_; (try clear hb); (try clear hb2); (try clear hk); (try clear hi)))
  repeat (go_quiet (first | ((with_reducible refine gate_dst (N := 13) rfl ?_); (try (refine gate_guard (by rfl) ?_; dsimp only)); refine Kd.R_lit Kd.string _ 9 ?hg (N := 13) ?hd (xs := ([(⟨#[40]⟩ : ByteArray), (⟨#[41]⟩ : ByteArray), (⟨#[35, 40]⟩ : ByteArray), (⟨#[35, 59]⟩ : ByteArray), (⟨#[39]⟩ : ByteArray), (⟨#[44]⟩ : ByteArray), (⟨#[44, 64]⟩ : ByteArray), (⟨#[35, 39]⟩ : ByteArray), (⟨#[35, 44]⟩ : ByteArray), (⟨#[35, 44, 64]⟩ : ByteArray), (⟨#[97]⟩ : ByteArray), (⟨#[45, 53]⟩ : ByteArray), (⟨#[35, 116]⟩ : ByteArray), (⟨#[34, 120, 32, 121, 34]⟩ : ByteArray), (⟨#[35, 92, 97]⟩ : ByteArray), (⟨#[46, 46, 46]⟩ : ByteArray), (⟨#[43]⟩ : ByteArray)] : List ByteArray)) (inner := [.string (⟨#[40]⟩ : ByteArray), .string (⟨#[41]⟩ : ByteArray), .string (⟨#[35, 40]⟩ : ByteArray), .string (⟨#[35, 59]⟩ : ByteArray), .string (⟨#[39]⟩ : ByteArray), .string (⟨#[44]⟩ : ByteArray), .string (⟨#[44, 64]⟩ : ByteArray), .string (⟨#[35, 39]⟩ : ByteArray), .string (⟨#[35, 44]⟩ : ByteArray), .string (⟨#[35, 44, 64]⟩ : ByteArray), .string (⟨#[97]⟩ : ByteArray), .string (⟨#[45, 53]⟩ : ByteArray), .string (⟨#[35, 116]⟩ : ByteArray), .string (⟨#[34, 120, 32, 121, 34]⟩ : ByteArray), .string (⟨#[35, 92, 97]⟩ : ByteArray), .string (⟨#[46, 46, 46]⟩ : ByteArray), .string (⟨#[43]⟩ : ByteArray)]) (ok := fun _ => True) (okp := fun _ => True) ?hr ?hp (fun _ hk => hk) trivial (Below.refl _ _) (Nat.le_refl _) (by simp) ?_; (case hd => rfl); (case hg => rfl); (case hr => first | (go_simp; done) | (go_simp; rfl)); (case hp => exact (Reps.one (show Kd.M Kd.string _ _ _ (⟨#[40]⟩ : ByteArray) [.string (⟨#[40]⟩ : ByteArray)] from rfl) (Reps.one (show Kd.M Kd.string _ _ _ (⟨#[41]⟩ : ByteArray) [.string (⟨#[41]⟩ : ByteArray)] from rfl) (Reps.one (show Kd.M Kd.string _ _ _ (⟨#[35, 40]⟩ : ByteArray) [.string (⟨#[35, 40]⟩ : ByteArray)] from rfl) (Reps.one (show Kd.M Kd.string _ _ _ (⟨#[35, 59]⟩ : ByteArray) [.string (⟨#[35, 59]⟩ : ByteArray)] from rfl) (Reps.one (show Kd.M Kd.string _ _ _ (⟨#[39]⟩ : ByteArray) [.string (⟨#[39]⟩ : ByteArray)] from rfl) (Reps.one (show Kd.M Kd.string _ _ _ (⟨#[44]⟩ : ByteArray) [.string (⟨#[44]⟩ : ByteArray)] from rfl) (Reps.one (show Kd.M Kd.string _ _ _ (⟨#[44, 64]⟩ : ByteArray) [.string (⟨#[44, 64]⟩ : ByteArray)] from rfl) (Reps.one (show Kd.M Kd.string _ _ _ (⟨#[35, 39]⟩ : ByteArray) [.string (⟨#[35, 39]⟩ : ByteArray)] from rfl) (Reps.one (show Kd.M Kd.string _ _ _ (⟨#[35, 44]⟩ : ByteArray) [.string (⟨#[35, 44]⟩ : ByteArray)] from rfl) (Reps.one (show Kd.M Kd.string _ _ _ (⟨#[35, 44, 64]⟩ : ByteArray) [.string (⟨#[35, 44, 64]⟩ : ByteArray)] from rfl) (Reps.one (show Kd.M Kd.string _ _ _ (⟨#[97]⟩ : ByteArray) [.string (⟨#[97]⟩ : ByteArray)] from rfl) (Reps.one (show Kd.M Kd.string _ _ _ (⟨#[45, 53]⟩ : ByteArray) [.string (⟨#[45, 53]⟩ : ByteArray)] from rfl) (Reps.one (show Kd.M Kd.string _ _ _ (⟨#[35, 116]⟩ : ByteArray) [.string (⟨#[35, 116]⟩ : ByteArray)] from rfl) (Reps.one (show Kd.M Kd.string _ _ _ (⟨#[34, 120, 32, 121, 34]⟩ : ByteArray) [.string (⟨#[34, 120, 32, 121, 34]⟩ : ByteArray)] from rfl) (Reps.one (show Kd.M Kd.string _ _ _ (⟨#[35, 92, 97]⟩ : ByteArray) [.string (⟨#[35, 92, 97]⟩ : ByteArray)] from rfl) (Reps.one (show Kd.M Kd.string _ _ _ (⟨#[46, 46, 46]⟩ : ByteArray) [.string (⟨#[46, 46, 46]⟩ : ByteArray)] from rfl) (Reps.one (show Kd.M Kd.string _ _ _ (⟨#[43]⟩ : ByteArray) [.string (⟨#[43]⟩ : ByteArray)] from rfl) (Reps.none _ _))))))))))))))))))); intro v432 w4 ho5 hb hg_ hnew_; clear hg_ hnew_; (first | rw [← Ny431.out] at ho5 | (simp only [Int.reduceToNat] at ho5; rw [← Ny431.out] at ho5)); have n0_ := Aside0.mk (Kd.R_lower ho5 (below_size (by repeat (first | (with_reducible first | exact HB.out | apply below_alloc | apply pw_below_drewN | apply below_drew1) | exact HB.out)))); have n1_ := Aside0.mk (below_step (by repeat (first | (with_reducible first | exact HB.out | apply below_alloc | apply pw_below_drewN | apply below_drew1) | exact HB.out)) hb); clear HB; have HO433 := n0_; have HB := n1_; clear n0_ n1_; clear hb ho5) | ((with_reducible refine gate_dst (N := 14) rfl ?_); (try (refine gate_guard (by rfl) ?_; dsimp only)); refine Kd.R_lit (Kd.int .i64) _ 3 ?hg (N := 14) ?hd (xs := ([1, 2, 3, 5, 6, 6, 6, 6, 6, 6, 7, 7, 7, 7, 7, 7, 7] : List Int)) (inner := [.int .i64 1, .int .i64 2, .int .i64 3, .int .i64 5, .int .i64 6, .int .i64 6, .int .i64 6, .int .i64 6, .int .i64 6, .int .i64 6, .int .i64 7, .int .i64 7, .int .i64 7, .int .i64 7, .int .i64 7, .int .i64 7, .int .i64 7]) (ok := fun _ => True) (okp := fun _ => True) ?hr ?hp (fun _ hk => hk) trivial (Below.refl _ _) (Nat.le_refl _) (by simp) ?_; (case hd => rfl); (case hg => rfl); (case hr => first | (go_simp; done) | (go_simp; rfl)); (case hp => exact (Reps.one (show Kd.M (Kd.int .i64) _ _ _ 1 [.int .i64 1] from rfl) (Reps.one (show Kd.M (Kd.int .i64) _ _ _ 2 [.int .i64 2] from rfl) (Reps.one (show Kd.M (Kd.int .i64) _ _ _ 3 [.int .i64 3] from rfl) (Reps.one (show Kd.M (Kd.int .i64) _ _ _ 5 [.int .i64 5] from rfl) (Reps.one (show Kd.M (Kd.int .i64) _ _ _ 6 [.int .i64 6] from rfl) (Reps.one (show Kd.M (Kd.int .i64) _ _ _ 6 [.int .i64 6] from rfl) (Reps.one (show Kd.M (Kd.int .i64) _ _ _ 6 [.int .i64 6] from rfl) (Reps.one (show Kd.M (Kd.int .i64) _ _ _ 6 [.int .i64 6] from rfl) (Reps.one (show Kd.M (Kd.int .i64) _ _ _ 6 [.int .i64 6] from rfl) (Reps.one (show Kd.M (Kd.int .i64) _ _ _ 6 [.int .i64 6] from rfl) (Reps.one (show Kd.M (Kd.int .i64) _ _ _ 7 [.int .i64 7] from rfl) (Reps.one (show Kd.M (Kd.int .i64) _ _ _ 7 [.int .i64 7] from rfl) (Reps.one (show Kd.M (Kd.int .i64) _ _ _ 7 [.int .i64 7] from rfl) (Reps.one (show Kd.M (Kd.int .i64) _ _ _ 7 [.int .i64 7] from rfl) (Reps.one (show Kd.M (Kd.int .i64) _ _ _ 7 [.int .i64 7] from rfl) (Reps.one (show Kd.M (Kd.int .i64) _ _ _ 7 [.int .i64 7] from rfl) (Reps.one (show Kd.M (Kd.int .i64) _ _ _ 7 [.int .i64 7] from rfl) (Reps.none _ _))))))))))))))))))); intro v435 w6 ho7 hb hg_ hnew_; clear hg_ hnew_; (first | rw [← Ny434.out] at ho7 | (simp only [Int.reduceToNat] at ho7; rw [← Ny434.out] at ho7)); have n0_ := Aside0.mk (Kd.R_below (by (with_reducible repeat (first | apply Kd.R_alloc | apply Kd.R_drewN | apply Kd.R_drew)); exact HO433.out) hb); have n1_ := Aside0.mk (Kd.R_lower ho7 (below_size (by repeat (first | (with_reducible first | exact HB.out | apply below_alloc | apply pw_below_drewN | apply below_drew1) | exact HB.out)))); have n2_ := Aside0.mk (below_step (by repeat (first | (with_reducible first | exact HB.out | apply below_alloc | apply pw_below_drewN | apply below_drew1) | exact HB.out)) hb); clear HO433; clear HB; have HO433 := n0_; have HO436 := n1_; have HB := n2_; clear n0_ n1_ n2_; clear hb ho7) | (go_at_call 7; (with_reducible refine (marginalialaw03_answers.calls k  t437 _ ?side1 A3.out).mono ?_); (case side1 => exact LD.below HLD.out (by repeat (first | (with_reducible first | exact HB.out | apply below_alloc | apply pw_below_drewN | apply below_drew1) | exact HB.out))); rintro e w8 ⟨rfl, hb⟩; have n0_ := Aside0.mk (Kd.R_below (by (with_reducible repeat (first | apply Kd.R_alloc | apply Kd.R_drewN | apply Kd.R_drew)); exact HO433.out) hb); have n1_ := Aside0.mk (Kd.R_below (by (with_reducible repeat (first | apply Kd.R_alloc | apply Kd.R_drewN | apply Kd.R_drew)); exact HO436.out) hb); have n2_ := Aside0.mk (below_step (by repeat (first | (with_reducible first | exact HB.out | apply below_alloc | apply pw_below_drewN | apply below_drew1) | exact HB.out)) hb); clear HO433; clear HO436; clear HB; have HO433 := n0_; have HO436 := n1_; have HB := n2_; clear n0_ n1_ n2_; (try clear hb); (try clear hb2); (try clear hk); (try clear hi))); try go_wp2_with (first | ((with_reducible refine gate_dst (N := 13) rfl ?_); (try (refine gate_guard (by rfl) ?_; dsimp only)); refine Kd.R_lit Kd.string _ 9 ?hg (N := 13) ?hd (xs := ([(⟨#[40]⟩ : ByteArray), (⟨#[41]⟩ : ByteArray), (⟨#[35, 40]⟩ : ByteArray), (⟨#[35, 59]⟩ : ByteArray), (⟨#[39]⟩ : ByteArray), (⟨#[44]⟩ : ByteArray), (⟨#[44, 64]⟩ : ByteArray), (⟨#[35, 39]⟩ : ByteArray), (⟨#[35, 44]⟩ : ByteArray), (⟨#[35, 44, 64]⟩ : ByteArray), (⟨#[97]⟩ : ByteArray), (⟨#[45, 53]⟩ : ByteArray), (⟨#[35, 116]⟩ : ByteArray), (⟨#[34, 120, 32, 121, 34]⟩ : ByteArray), (⟨#[35, 92, 97]⟩ : ByteArray), (⟨#[46, 46, 46]⟩ : ByteArray), (⟨#[43]⟩ : ByteArray)] : List ByteArray)) (inner := [.string (⟨#[40]⟩ : ByteArray), .string (⟨#[41]⟩ : ByteArray), .string (⟨#[35, 40]⟩ : ByteArray), .string (⟨#[35, 59]⟩ : ByteArray), .string (⟨#[39]⟩ : ByteArray), .string (⟨#[44]⟩ : ByteArray), .string (⟨#[44, 64]⟩ : ByteArray), .string (⟨#[35, 39]⟩ : ByteArray), .string (⟨#[35, 44]⟩ : ByteArray), .string (⟨#[35, 44, 64]⟩ : ByteArray), .string (⟨#[97]⟩ : ByteArray), .string (⟨#[45, 53]⟩ : ByteArray), .string (⟨#[35, 116]⟩ : ByteArray), .string (⟨#[34, 120, 32, 121, 34]⟩ : ByteArray), .string (⟨#[35, 92, 97]⟩ : ByteArray), .string (⟨#[46, 46, 46]⟩ : ByteArray), .string (⟨#[43]⟩ : ByteArray)]) (ok := fun _ => True) (okp := fun _ => True) ?hr ?hp (fun _ hk => hk) trivial (Below.refl _ _) (Nat.le_refl _) (by simp) ?_; (case hd => rfl); (case hg => rfl); (case hr => first | (go_simp; done) | (go_simp; rfl)); (case hp => exact (Reps.one (show Kd.M Kd.string _ _ _ (⟨#[40]⟩ : ByteArray) [.string (⟨#[40]⟩ : ByteArray)] from rfl) (Reps.one (show Kd.M Kd.string _ _ _ (⟨#[41]⟩ : ByteArray) [.string (⟨#[41]⟩ : ByteArray)] from rfl) (Reps.one (show Kd.M Kd.string _ _ _ (⟨#[35, 40]⟩ : ByteArray) [.string (⟨#[35, 40]⟩ : ByteArray)] from rfl) (Reps.one (show Kd.M Kd.string _ _ _ (⟨#[35, 59]⟩ : ByteArray) [.string (⟨#[35, 59]⟩ : ByteArray)] from rfl) (Reps.one (show Kd.M Kd.string _ _ _ (⟨#[39]⟩ : ByteArray) [.string (⟨#[39]⟩ : ByteArray)] from rfl) (Reps.one (show Kd.M Kd.string _ _ _ (⟨#[44]⟩ : ByteArray) [.string (⟨#[44]⟩ : ByteArray)] from rfl) (Reps.one (show Kd.M Kd.string _ _ _ (⟨#[44, 64]⟩ : ByteArray) [.string (⟨#[44, 64]⟩ : ByteArray)] from rfl) (Reps.one (show Kd.M Kd.string _ _ _ (⟨#[35, 39]⟩ : ByteArray) [.string (⟨#[35, 39]⟩ : ByteArray)] from rfl) (Reps.one (show Kd.M Kd.string _ _ _ (⟨#[35, 44]⟩ : ByteArray) [.string (⟨#[35, 44]⟩ : ByteArray)] from rfl) (Reps.one (show Kd.M Kd.string _ _ _ (⟨#[35, 44, 64]⟩ : ByteArray) [.string (⟨#[35, 44, 64]⟩ : ByteArray)] from rfl) (Reps.one (show Kd.M Kd.string _ _ _ (⟨#[97]⟩ : ByteArray) [.string (⟨#[97]⟩ : ByteArray)] from rfl) (Reps.one (show Kd.M Kd.string _ _ _ (⟨#[45, 53]⟩ : ByteArray) [.string (⟨#[45, 53]⟩ : ByteArray)] from rfl) (Reps.one (show Kd.M Kd.string _ _ _ (⟨#[35, 116]⟩ : ByteArray) [.string (⟨#[35, 116]⟩ : ByteArray)] from rfl) (Reps.one (show Kd.M Kd.string _ _ _ (⟨#[34, 120, 32, 121, 34]⟩ : ByteArray) [.string (⟨#[34, 120, 32, 121, 34]⟩ : ByteArray)] from rfl) (Reps.one (show Kd.M Kd.string _ _ _ (⟨#[35, 92, 97]⟩ : ByteArray) [.string (⟨#[35, 92, 97]⟩ : ByteArray)] from rfl) (Reps.one (show Kd.M Kd.string _ _ _ (⟨#[46, 46, 46]⟩ : ByteArray) [.string (⟨#[46, 46, 46]⟩ : ByteArray)] from rfl) (Reps.one (show Kd.M Kd.string _ _ _ (⟨#[43]⟩ : ByteArray) [.string (⟨#[43]⟩ : ByteArray)] from rfl) (Reps.none _ _))))))))))))))))))); intro v432 w4 ho5 hb hg_ hnew_; clear hg_ hnew_; (first | rw [← Ny431.out] at ho5 | (simp only [Int.reduceToNat] at ho5; rw [← Ny431.out] at ho5)); have n0_ := Aside0.mk (Kd.R_lower ho5 (below_size (by repeat (first | (with_reducible first | exact HB.out | apply below_alloc | apply pw_below_drewN | apply below_drew1) | exact HB.out)))); have n1_ := Aside0.mk (below_step (by repeat (first | (with_reducible first | exact HB.out | apply below_alloc | apply pw_below_drewN | apply below_drew1) | exact HB.out)) hb); clear HB; have HO433 := n0_; have HB := n1_; clear n0_ n1_; clear hb ho5) | ((with_reducible refine gate_dst (N := 14) rfl ?_); (try (refine gate_guard (by rfl) ?_; dsimp only)); refine Kd.R_lit (Kd.int .i64) _ 3 ?hg (N := 14) ?hd (xs := ([1, 2, 3, 5, 6, 6, 6, 6, 6, 6, 7, 7, 7, 7, 7, 7, 7] : List Int)) (inner := [.int .i64 1, .int .i64 2, .int .i64 3, .int .i64 5, .int .i64 6, .int .i64 6, .int .i64 6, .int .i64 6, .int .i64 6, .int .i64 6, .int .i64 7, .int .i64 7, .int .i64 7, .int .i64 7, .int .i64 7, .int .i64 7, .int .i64 7]) (ok := fun _ => True) (okp := fun _ => True) ?hr ?hp (fun _ hk => hk) trivial (Below.refl _ _) (Nat.le_refl _) (by simp) ?_; (case hd => rfl); (case hg => rfl); (case hr => first | (go_simp; done) | (go_simp; rfl)); (case hp => exact (Reps.one (show Kd.M (Kd.int .i64) _ _ _ 1 [.int .i64 1] from rfl) (Reps.one (show Kd.M (Kd.int .i64) _ _ _ 2 [.int .i64 2] from rfl) (Reps.one (show Kd.M (Kd.int .i64) _ _ _ 3 [.int .i64 3] from rfl) (Reps.one (show Kd.M (Kd.int .i64) _ _ _ 5 [.int .i64 5] from rfl) (Reps.one (show Kd.M (Kd.int .i64) _ _ _ 6 [.int .i64 6] from rfl) (Reps.one (show Kd.M (Kd.int .i64) _ _ _ 6 [.int .i64 6] from rfl) (Reps.one (show Kd.M (Kd.int .i64) _ _ _ 6 [.int .i64 6] from rfl) (Reps.one (show Kd.M (Kd.int .i64) _ _ _ 6 [.int .i64 6] from rfl) (Reps.one (show Kd.M (Kd.int .i64) _ _ _ 6 [.int .i64 6] from rfl) (Reps.one (show Kd.M (Kd.int .i64) _ _ _ 6 [.int .i64 6] from rfl) (Reps.one (show Kd.M (Kd.int .i64) _ _ _ 7 [.int .i64 7] from rfl) (Reps.one (show Kd.M (Kd.int .i64) _ _ _ 7 [.int .i64 7] from rfl) (Reps.one (show Kd.M (Kd.int .i64) _ _ _ 7 [.int .i64 7] from rfl) (Reps.one (show Kd.M (Kd.int .i64) _ _ _ 7 [.int .i64 7] from rfl) (Reps.one (show Kd.M (Kd.int .i64) _ _ _ 7 [.int .i64 7] from rfl) (Reps.one (show Kd.M (Kd.int .i64) _ _ _ 7 [.int .i64 7] from rfl) (Reps.one (show Kd.M (Kd.int .i64) _ _ _ 7 [.int .i64 7] from rfl) (Reps.none _ _))))))))))))))))))); intro v435 w6 ho7 hb hg_ hnew_; clear hg_ hnew_; (first | rw [← Ny434.out] at ho7 | (simp only [Int.reduceToNat] at ho7; rw [← Ny434.out] at ho7)); have n0_ := Aside0.mk (Kd.R_below (by (with_reducible repeat (first | apply Kd.R_alloc | apply Kd.R_drewN | apply Kd.R_drew)); exact HO433.out) hb); have n1_ := Aside0.mk (Kd.R_lower ho7 (below_size (by repeat (first | (with_reducible first | exact HB.out | apply below_alloc | apply pw_below_drewN | apply below_drew1) | exact HB.out)))); have n2_ := Aside0.mk (below_step (by repeat (first | (with_reducible first | exact HB.out | apply below_alloc | apply pw_below_drewN | apply below_drew1) | exact HB.out)) hb); clear HO433; clear HB; have HO433 := n0_; have HO436 := n1_; have HB := n2_; clear n0_ n1_ n2_; clear hb ho7) | (go_at_call 7; (with_reducible refine (marginalialaw03_answers.calls k  t437 _ ?side1 A3.out).mono ?_); (case side1 => exact LD.below HLD.out (by repeat (first | (with_reducible first | exact HB.out | apply below_alloc | apply pw_below_drewN | apply below_drew1) | exact HB.out))); rintro e w8 ⟨rfl, hb⟩; have n0_ := Aside0.mk (Kd.R_below (by (with_reducible repeat (first | apply Kd.R_alloc | apply Kd.R_drewN | apply Kd.R_drew)); exact HO433.out) hb); have n1_ := Aside0.mk (Kd.R_below (by (with_reducible repeat (first | apply Kd.R_alloc | apply Kd.R_drewN | apply Kd.R_drew)); exact HO436.out) hb); have n2_ := Aside0.mk (below_step (by repeat (first | (with_reducible first | exact HB.out | apply below_alloc | apply pw_below_drewN | apply below_drew1) | exact HB.out)) hb); clear HO433; clear HO436; clear HB; have HO433 := n0_; have HO436 := n1_; have HB := n2_; clear n0_ n1_ n2_; (try clear hb); (try clear hb2); (try clear hk); (try clear hi))))
  go_ret
  exact ⟨by first | rfl | (simp [errW_none, errW_some] <;> rfl) | (simp [*, errW_none, errW_some] <;> rfl), by repeat (first | (with_reducible first | exact HB.out | apply below_alloc | apply pw_below_drewN | apply below_drew1) | exact HB.out)⟩
 ·rw [if_neg c2] at H
  have c2b0 : decide (200 < (l0.length : Int)) = false := decide_eq_false c2
  have c2b1 : decide (200 < l0.length) = false := decide_eq_false (by omega)
  clear c2
  have H' := Aside0.mk H
  clear H
  go_enter Tryd.func4, Tryd.ntmps4
  go_wp2_with (first | ((with_reducible refine gate_dst (N := 13) rfl ?_); (try (refine gate_guard (by rfl) ?_; dsimp only)); refine Kd.R_lit Kd.string _ 9 ?hg (N := 13) ?hd (xs := ([(⟨#[40]⟩ : ByteArray), (⟨#[41]⟩ : ByteArray), (⟨#[35, 40]⟩ : ByteArray), (⟨#[35, 59]⟩ : ByteArray), (⟨#[39]⟩ : ByteArray), (⟨#[44]⟩ : ByteArray), (⟨#[44, 64]⟩ : ByteArray), (⟨#[35, 39]⟩ : ByteArray), (⟨#[35, 44]⟩ : ByteArray), (⟨#[35, 44, 64]⟩ : ByteArray), (⟨#[97]⟩ : ByteArray), (⟨#[45, 53]⟩ : ByteArray), (⟨#[35, 116]⟩ : ByteArray), (⟨#[34, 120, 32, 121, 34]⟩ : ByteArray), (⟨#[35, 92, 97]⟩ : ByteArray), (⟨#[46, 46, 46]⟩ : ByteArray), (⟨#[43]⟩ : ByteArray)] : List ByteArray)) (inner := [.string (⟨#[40]⟩ : ByteArray), .string (⟨#[41]⟩ : ByteArray), .string (⟨#[35, 40]⟩ : ByteArray), .string (⟨#[35, 59]⟩ : ByteArray), .string (⟨#[39]⟩ : ByteArray), .string (⟨#[44]⟩ : ByteArray), .string (⟨#[44, 64]⟩ : ByteArray), .string (⟨#[35, 39]⟩ : ByteArray), .string (⟨#[35, 44]⟩ : ByteArray), .string (⟨#[35, 44, 64]⟩ : ByteArray), .string (⟨#[97]⟩ : ByteArray), .string (⟨#[45, 53]⟩ : ByteArray), .string (⟨#[35, 116]⟩ : ByteArray), .string (⟨#[34, 120, 32, 121, 34]⟩ : ByteArray), .string (⟨#[35, 92, 97]⟩ : ByteArray), .string (⟨#[46, 46, 46]⟩ : ByteArray), .string (⟨#[43]⟩ : ByteArray)]) (ok := fun _ => True) (okp := fun _ => True) ?hr ?hp (fun _ hk => hk) trivial (Below.refl _ _) (Nat.le_refl _) (by simp) ?_; (case hd => rfl); (case hg => rfl); (case hr => first | (go_simp; done) | (go_simp; rfl)); (case hp => exact (Reps.one (show Kd.M Kd.string _ _ _ (⟨#[40]⟩ : ByteArray) [.string (⟨#[40]⟩ : ByteArray)] from rfl) (Reps.one (show Kd.M Kd.string _ _ _ (⟨#[41]⟩ : ByteArray) [.string (⟨#[41]⟩ : ByteArray)] from rfl) (Reps.one (show Kd.M Kd.string _ _ _ (⟨#[35, 40]⟩ : ByteArray) [.string (⟨#[35, 40]⟩ : ByteArray)] from rfl) (Reps.one (show Kd.M Kd.string _ _ _ (⟨#[35, 59]⟩ : ByteArray) [.string (⟨#[35, 59]⟩ : ByteArray)] from rfl) (Reps.one (show Kd.M Kd.string _ _ _ (⟨#[39]⟩ : ByteArray) [.string (⟨#[39]⟩ : ByteArray)] from rfl) (Reps.one (show Kd.M Kd.string _ _ _ (⟨#[44]⟩ : ByteArray) [.string (⟨#[44]⟩ : ByteArray)] from rfl) (Reps.one (show Kd.M Kd.string _ _ _ (⟨#[44, 64]⟩ : ByteArray) [.string (⟨#[44, 64]⟩ : ByteArray)] from rfl) (Reps.one (show Kd.M Kd.string _ _ _ (⟨#[35, 39]⟩ : ByteArray) [.string (⟨#[35, 39]⟩ : ByteArray)] from rfl) (Reps.one (show Kd.M Kd.string _ _ _ (⟨#[35, 44]⟩ : ByteArray) [.string (⟨#[35, 44]⟩ : ByteArray)] from rfl) (Reps.one (show Kd.M Kd.string _ _ _ (⟨#[35, 44, 64]⟩ : ByteArray) [.string (⟨#[35, 44, 64]⟩ : ByteArray)] from rfl) (Reps.one (show Kd.M Kd.string _ _ _ (⟨#[97]⟩ : ByteArray) [.string (⟨#[97]⟩ : ByteArray)] from rfl) (Reps.one (show Kd.M Kd.string _ _ _ (⟨#[45, 53]⟩ : ByteArray) [.string (⟨#[45, 53]⟩ : ByteArray)] from rfl) (Reps.one (show Kd.M Kd.string _ _ _ (⟨#[35, 116]⟩ : ByteArray) [.string (⟨#[35, 116]⟩ : ByteArray)] from rfl) (Reps.one (show Kd.M Kd.string _ _ _ (⟨#[34, 120, 32, 121, 34]⟩ : ByteArray) [.string (⟨#[34, 120, 32, 121, 34]⟩ : ByteArray)] from rfl) (Reps.one (show Kd.M Kd.string _ _ _ (⟨#[35, 92, 97]⟩ : ByteArray) [.string (⟨#[35, 92, 97]⟩ : ByteArray)] from rfl) (Reps.one (show Kd.M Kd.string _ _ _ (⟨#[46, 46, 46]⟩ : ByteArray) [.string (⟨#[46, 46, 46]⟩ : ByteArray)] from rfl) (Reps.one (show Kd.M Kd.string _ _ _ (⟨#[43]⟩ : ByteArray) [.string (⟨#[43]⟩ : ByteArray)] from rfl) (Reps.none _ _))))))))))))))))))); intro v432 w9 ho10 hb hg_ hnew_; clear hg_ hnew_; (first | rw [← Ny431.out] at ho10 | (simp only [Int.reduceToNat] at ho10; rw [← Ny431.out] at ho10)); have n0_ := Aside0.mk (Kd.R_lower ho10 (below_size (by repeat (first | (with_reducible first | exact HB.out | apply below_alloc | apply pw_below_drewN | apply below_drew1) | exact HB.out)))); have n1_ := Aside0.mk (below_step (by repeat (first | (with_reducible first | exact HB.out | apply below_alloc | apply pw_below_drewN | apply below_drew1) | exact HB.out)) hb); clear HB; have HO433 := n0_; have HB := n1_; clear n0_ n1_; clear hb ho10) | ((with_reducible refine gate_dst (N := 14) rfl ?_); (try (refine gate_guard (by rfl) ?_; dsimp only)); refine Kd.R_lit (Kd.int .i64) _ 3 ?hg (N := 14) ?hd (xs := ([1, 2, 3, 5, 6, 6, 6, 6, 6, 6, 7, 7, 7, 7, 7, 7, 7] : List Int)) (inner := [.int .i64 1, .int .i64 2, .int .i64 3, .int .i64 5, .int .i64 6, .int .i64 6, .int .i64 6, .int .i64 6, .int .i64 6, .int .i64 6, .int .i64 7, .int .i64 7, .int .i64 7, .int .i64 7, .int .i64 7, .int .i64 7, .int .i64 7]) (ok := fun _ => True) (okp := fun _ => True) ?hr ?hp (fun _ hk => hk) trivial (Below.refl _ _) (Nat.le_refl _) (by simp) ?_; (case hd => rfl); (case hg => rfl); (case hr => first | (go_simp; done) | (go_simp; rfl)); (case hp => exact (Reps.one (show Kd.M (Kd.int .i64) _ _ _ 1 [.int .i64 1] from rfl) (Reps.one (show Kd.M (Kd.int .i64) _ _ _ 2 [.int .i64 2] from rfl) (Reps.one (show Kd.M (Kd.int .i64) _ _ _ 3 [.int .i64 3] from rfl) (Reps.one (show Kd.M (Kd.int .i64) _ _ _ 5 [.int .i64 5] from rfl) (Reps.one (show Kd.M (Kd.int .i64) _ _ _ 6 [.int .i64 6] from rfl) (Reps.one (show Kd.M (Kd.int .i64) _ _ _ 6 [.int .i64 6] from rfl) (Reps.one (show Kd.M (Kd.int .i64) _ _ _ 6 [.int .i64 6] from rfl) (Reps.one (show Kd.M (Kd.int .i64) _ _ _ 6 [.int .i64 6] from rfl) (Reps.one (show Kd.M (Kd.int .i64) _ _ _ 6 [.int .i64 6] from rfl) (Reps.one (show Kd.M (Kd.int .i64) _ _ _ 6 [.int .i64 6] from rfl) (Reps.one (show Kd.M (Kd.int .i64) _ _ _ 7 [.int .i64 7] from rfl) (Reps.one (show Kd.M (Kd.int .i64) _ _ _ 7 [.int .i64 7] from rfl) (Reps.one (show Kd.M (Kd.int .i64) _ _ _ 7 [.int .i64 7] from rfl) (Reps.one (show Kd.M (Kd.int .i64) _ _ _ 7 [.int .i64 7] from rfl) (Reps.one (show Kd.M (Kd.int .i64) _ _ _ 7 [.int .i64 7] from rfl) (Reps.one (show Kd.M (Kd.int .i64) _ _ _ 7 [.int .i64 7] from rfl) (Reps.one (show Kd.M (Kd.int .i64) _ _ _ 7 [.int .i64 7] from rfl) (Reps.none _ _))))))))))))))))))); intro v435 w11 ho12 hb hg_ hnew_; clear hg_ hnew_; (first | rw [← Ny434.out] at ho12 | (simp only [Int.reduceToNat] at ho12; rw [← Ny434.out] at ho12)); have n0_ := Aside0.mk (Kd.R_below (by (with_reducible repeat (first | apply Kd.R_alloc | apply Kd.R_drewN | apply Kd.R_drew)); exact HO433.out) hb); have n1_ := Aside0.mk (Kd.R_lower ho12 (below_size (by repeat (first | (with_reducible first | exact HB.out | apply below_alloc | apply pw_below_drewN | apply below_drew1) | exact HB.out)))); have n2_ := Aside0.mk (below_step (by repeat (first | (with_reducible first | exact HB.out | apply below_alloc | apply pw_below_drewN | apply below_drew1) | exact HB.out)) hb); clear HO433; clear HB; have HO433 := n0_; have HO436 := n1_; have HB := n2_; clear n0_ n1_ n2_; clear hb ho12))
  repeat (go_quiet (first | ((with_reducible refine gate_dst (N := 13) rfl ?_); (try (refine gate_guard (by rfl) ?_; dsimp only)); refine Kd.R_lit Kd.string _ 9 ?hg (N := 13) ?hd (xs := ([(⟨#[40]⟩ : ByteArray), (⟨#[41]⟩ : ByteArray), (⟨#[35, 40]⟩ : ByteArray), (⟨#[35, 59]⟩ : ByteArray), (⟨#[39]⟩ : ByteArray), (⟨#[44]⟩ : ByteArray), (⟨#[44, 64]⟩ : ByteArray), (⟨#[35, 39]⟩ : ByteArray), (⟨#[35, 44]⟩ : ByteArray), (⟨#[35, 44, 64]⟩ : ByteArray), (⟨#[97]⟩ : ByteArray), (⟨#[45, 53]⟩ : ByteArray), (⟨#[35, 116]⟩ : ByteArray), (⟨#[34, 120, 32, 121, 34]⟩ : ByteArray), (⟨#[35, 92, 97]⟩ : ByteArray), (⟨#[46, 46, 46]⟩ : ByteArray), (⟨#[43]⟩ : ByteArray)] : List ByteArray)) (inner := [.string (⟨#[40]⟩ : ByteArray), .string (⟨#[41]⟩ : ByteArray), .string (⟨#[35, 40]⟩ : ByteArray), .string (⟨#[35, 59]⟩ : ByteArray), .string (⟨#[39]⟩ : ByteArray), .string (⟨#[44]⟩ : ByteArray), .string (⟨#[44, 64]⟩ : ByteArray), .string (⟨#[35, 39]⟩ : ByteArray), .string (⟨#[35, 44]⟩ : ByteArray), .string (⟨#[35, 44, 64]⟩ : ByteArray), .string (⟨#[97]⟩ : ByteArray), .string (⟨#[45, 53]⟩ : ByteArray), .string (⟨#[35, 116]⟩ : ByteArray), .string (⟨#[34, 120, 32, 121, 34]⟩ : ByteArray), .string (⟨#[35, 92, 97]⟩ : ByteArray), .string (⟨#[46, 46, 46]⟩ : ByteArray), .string (⟨#[43]⟩ : ByteArray)]) (ok := fun _ => True) (okp := fun _ => True) ?hr ?hp (fun _ hk => hk) trivial (Below.refl _ _) (Nat.le_refl _) (by simp) ?_; (case hd => rfl); (case hg => rfl); (case hr => first | (go_simp; done) | (go_simp; rfl)); (case hp => exact (Reps.one (show Kd.M Kd.string _ _ _ (⟨#[40]⟩ : ByteArray) [.string (⟨#[40]⟩ : ByteArray)] from rfl) (Reps.one (show Kd.M Kd.string _ _ _ (⟨#[41]⟩ : ByteArray) [.string (⟨#[41]⟩ : ByteArray)] from rfl) (Reps.one (show Kd.M Kd.string _ _ _ (⟨#[35, 40]⟩ : ByteArray) [.string (⟨#[35, 40]⟩ : ByteArray)] from rfl) (Reps.one (show Kd.M Kd.string _ _ _ (⟨#[35, 59]⟩ : ByteArray) [.string (⟨#[35, 59]⟩ : ByteArray)] from rfl) (Reps.one (show Kd.M Kd.string _ _ _ (⟨#[39]⟩ : ByteArray) [.string (⟨#[39]⟩ : ByteArray)] from rfl) (Reps.one (show Kd.M Kd.string _ _ _ (⟨#[44]⟩ : ByteArray) [.string (⟨#[44]⟩ : ByteArray)] from rfl) (Reps.one (show Kd.M Kd.string _ _ _ (⟨#[44, 64]⟩ : ByteArray) [.string (⟨#[44, 64]⟩ : ByteArray)] from rfl) (Reps.one (show Kd.M Kd.string _ _ _ (⟨#[35, 39]⟩ : ByteArray) [.string (⟨#[35, 39]⟩ : ByteArray)] from rfl) (Reps.one (show Kd.M Kd.string _ _ _ (⟨#[35, 44]⟩ : ByteArray) [.string (⟨#[35, 44]⟩ : ByteArray)] from rfl) (Reps.one (show Kd.M Kd.string _ _ _ (⟨#[35, 44, 64]⟩ : ByteArray) [.string (⟨#[35, 44, 64]⟩ : ByteArray)] from rfl) (Reps.one (show Kd.M Kd.string _ _ _ (⟨#[97]⟩ : ByteArray) [.string (⟨#[97]⟩ : ByteArray)] from rfl) (Reps.one (show Kd.M Kd.string _ _ _ (⟨#[45, 53]⟩ : ByteArray) [.string (⟨#[45, 53]⟩ : ByteArray)] from rfl) (Reps.one (show Kd.M Kd.string _ _ _ (⟨#[35, 116]⟩ : ByteArray) [.string (⟨#[35, 116]⟩ : ByteArray)] from rfl) (Reps.one (show Kd.M Kd.string _ _ _ (⟨#[34, 120, 32, 121, 34]⟩ : ByteArray) [.string (⟨#[34, 120, 32, 121, 34]⟩ : ByteArray)] from rfl) (Reps.one (show Kd.M Kd.string _ _ _ (⟨#[35, 92, 97]⟩ : ByteArray) [.string (⟨#[35, 92, 97]⟩ : ByteArray)] from rfl) (Reps.one (show Kd.M Kd.string _ _ _ (⟨#[46, 46, 46]⟩ : ByteArray) [.string (⟨#[46, 46, 46]⟩ : ByteArray)] from rfl) (Reps.one (show Kd.M Kd.string _ _ _ (⟨#[43]⟩ : ByteArray) [.string (⟨#[43]⟩ : ByteArray)] from rfl) (Reps.none _ _))))))))))))))))))); intro v432 w9 ho10 hb hg_ hnew_; clear hg_ hnew_; (first | rw [← Ny431.out] at ho10 | (simp only [Int.reduceToNat] at ho10; rw [← Ny431.out] at ho10)); have n0_ := Aside0.mk (Kd.R_lower ho10 (below_size (by repeat (first | (with_reducible first | exact HB.out | apply below_alloc | apply pw_below_drewN | apply below_drew1) | exact HB.out)))); have n1_ := Aside0.mk (below_step (by repeat (first | (with_reducible first | exact HB.out | apply below_alloc | apply pw_below_drewN | apply below_drew1) | exact HB.out)) hb); clear HB; have HO433 := n0_; have HB := n1_; clear n0_ n1_; clear hb ho10) | ((with_reducible refine gate_dst (N := 14) rfl ?_); (try (refine gate_guard (by rfl) ?_; dsimp only)); refine Kd.R_lit (Kd.int .i64) _ 3 ?hg (N := 14) ?hd (xs := ([1, 2, 3, 5, 6, 6, 6, 6, 6, 6, 7, 7, 7, 7, 7, 7, 7] : List Int)) (inner := [.int .i64 1, .int .i64 2, .int .i64 3, .int .i64 5, .int .i64 6, .int .i64 6, .int .i64 6, .int .i64 6, .int .i64 6, .int .i64 6, .int .i64 7, .int .i64 7, .int .i64 7, .int .i64 7, .int .i64 7, .int .i64 7, .int .i64 7]) (ok := fun _ => True) (okp := fun _ => True) ?hr ?hp (fun _ hk => hk) trivial (Below.refl _ _) (Nat.le_refl _) (by simp) ?_; (case hd => rfl); (case hg => rfl); (case hr => first | (go_simp; done) | (go_simp; rfl)); (case hp => exact (Reps.one (show Kd.M (Kd.int .i64) _ _ _ 1 [.int .i64 1] from rfl) (Reps.one (show Kd.M (Kd.int .i64) _ _ _ 2 [.int .i64 2] from rfl) (Reps.one (show Kd.M (Kd.int .i64) _ _ _ 3 [.int .i64 3] from rfl) (Reps.one (show Kd.M (Kd.int .i64) _ _ _ 5 [.int .i64 5] from rfl) (Reps.one (show Kd.M (Kd.int .i64) _ _ _ 6 [.int .i64 6] from rfl) (Reps.one (show Kd.M (Kd.int .i64) _ _ _ 6 [.int .i64 6] from rfl) (Reps.one (show Kd.M (Kd.int .i64) _ _ _ 6 [.int .i64 6] from rfl) (Reps.one (show Kd.M (Kd.int .i64) _ _ _ 6 [.int .i64 6] from rfl) (Reps.one (show Kd.M (Kd.int .i64) _ _ _ 6 [.int .i64 6] from rfl) (Reps.one (show Kd.M (Kd.int .i64) _ _ _ 6 [.int .i64 6] from rfl) (Reps.one (show Kd.M (Kd.int .i64) _ _ _ 7 [.int .i64 7] from rfl) (Reps.one (show Kd.M (Kd.int .i64) _ _ _ 7 [.int .i64 7] from rfl) (Reps.one (show Kd.M (Kd.int .i64) _ _ _ 7 [.int .i64 7] from rfl) (Reps.one (show Kd.M (Kd.int .i64) _ _ _ 7 [.int .i64 7] from rfl) (Reps.one (show Kd.M (Kd.int .i64) _ _ _ 7 [.int .i64 7] from rfl) (Reps.one (show Kd.M (Kd.int .i64) _ _ _ 7 [.int .i64 7] from rfl) (Reps.one (show Kd.M (Kd.int .i64) _ _ _ 7 [.int .i64 7] from rfl) (Reps.none _ _))))))))))))))))))); intro v435 w11 ho12 hb hg_ hnew_; clear hg_ hnew_; (first | rw [← Ny434.out] at ho12 | (simp only [Int.reduceToNat] at ho12; rw [← Ny434.out] at ho12)); have n0_ := Aside0.mk (Kd.R_below (by (with_reducible repeat (first | apply Kd.R_alloc | apply Kd.R_drewN | apply Kd.R_drew)); exact HO433.out) hb); have n1_ := Aside0.mk (Kd.R_lower ho12 (below_size (by repeat (first | (with_reducible first | exact HB.out | apply below_alloc | apply pw_below_drewN | apply below_drew1) | exact HB.out)))); have n2_ := Aside0.mk (below_step (by repeat (first | (with_reducible first | exact HB.out | apply below_alloc | apply pw_below_drewN | apply below_drew1) | exact HB.out)) hb); clear HO433; clear HB; have HO433 := n0_; have HO436 := n1_; have HB := n2_; clear n0_ n1_ n2_; clear hb ho12)); try go_wp2_with (first | ((with_reducible refine gate_dst (N := 13) rfl ?_); (try (refine gate_guard (by rfl) ?_; dsimp only)); refine Kd.R_lit Kd.string _ 9 ?hg (N := 13) ?hd (xs := ([(⟨#[40]⟩ : ByteArray), (⟨#[41]⟩ : ByteArray), (⟨#[35, 40]⟩ : ByteArray), (⟨#[35, 59]⟩ : ByteArray), (⟨#[39]⟩ : ByteArray), (⟨#[44]⟩ : ByteArray), (⟨#[44, 64]⟩ : ByteArray), (⟨#[35, 39]⟩ : ByteArray), (⟨#[35, 44]⟩ : ByteArray), (⟨#[35, 44, 64]⟩ : ByteArray), (⟨#[97]⟩ : ByteArray), (⟨#[45, 53]⟩ : ByteArray), (⟨#[35, 116]⟩ : ByteArray), (⟨#[34, 120, 32, 121, 34]⟩ : ByteArray), (⟨#[35, 92, 97]⟩ : ByteArray), (⟨#[46, 46, 46]⟩ : ByteArray), (⟨#[43]⟩ : ByteArray)] : List ByteArray)) (inner := [.string (⟨#[40]⟩ : ByteArray), .string (⟨#[41]⟩ : ByteArray), .string (⟨#[35, 40]⟩ : ByteArray), .string (⟨#[35, 59]⟩ : ByteArray), .string (⟨#[39]⟩ : ByteArray), .string (⟨#[44]⟩ : ByteArray), .string (⟨#[44, 64]⟩ : ByteArray), .string (⟨#[35, 39]⟩ : ByteArray), .string (⟨#[35, 44]⟩ : ByteArray), .string (⟨#[35, 44, 64]⟩ : ByteArray), .string (⟨#[97]⟩ : ByteArray), .string (⟨#[45, 53]⟩ : ByteArray), .string (⟨#[35, 116]⟩ : ByteArray), .string (⟨#[34, 120, 32, 121, 34]⟩ : ByteArray), .string (⟨#[35, 92, 97]⟩ : ByteArray), .string (⟨#[46, 46, 46]⟩ : ByteArray), .string (⟨#[43]⟩ : ByteArray)]) (ok := fun _ => True) (okp := fun _ => True) ?hr ?hp (fun _ hk => hk) trivial (Below.refl _ _) (Nat.le_refl _) (by simp) ?_; (case hd => rfl); (case hg => rfl); (case hr => first | (go_simp; done) | (go_simp; rfl)); (case hp => exact (Reps.one (show Kd.M Kd.string _ _ _ (⟨#[40]⟩ : ByteArray) [.string (⟨#[40]⟩ : ByteArray)] from rfl) (Reps.one (show Kd.M Kd.string _ _ _ (⟨#[41]⟩ : ByteArray) [.string (⟨#[41]⟩ : ByteArray)] from rfl) (Reps.one (show Kd.M Kd.string _ _ _ (⟨#[35, 40]⟩ : ByteArray) [.string (⟨#[35, 40]⟩ : ByteArray)] from rfl) (Reps.one (show Kd.M Kd.string _ _ _ (⟨#[35, 59]⟩ : ByteArray) [.string (⟨#[35, 59]⟩ : ByteArray)] from rfl) (Reps.one (show Kd.M Kd.string _ _ _ (⟨#[39]⟩ : ByteArray) [.string (⟨#[39]⟩ : ByteArray)] from rfl) (Reps.one (show Kd.M Kd.string _ _ _ (⟨#[44]⟩ : ByteArray) [.string (⟨#[44]⟩ : ByteArray)] from rfl) (Reps.one (show Kd.M Kd.string _ _ _ (⟨#[44, 64]⟩ : ByteArray) [.string (⟨#[44, 64]⟩ : ByteArray)] from rfl) (Reps.one (show Kd.M Kd.string _ _ _ (⟨#[35, 39]⟩ : ByteArray) [.string (⟨#[35, 39]⟩ : ByteArray)] from rfl) (Reps.one (show Kd.M Kd.string _ _ _ (⟨#[35, 44]⟩ : ByteArray) [.string (⟨#[35, 44]⟩ : ByteArray)] from rfl) (Reps.one (show Kd.M Kd.string _ _ _ (⟨#[35, 44, 64]⟩ : ByteArray) [.string (⟨#[35, 44, 64]⟩ : ByteArray)] from rfl) (Reps.one (show Kd.M Kd.string _ _ _ (⟨#[97]⟩ : ByteArray) [.string (⟨#[97]⟩ : ByteArray)] from rfl) (Reps.one (show Kd.M Kd.string _ _ _ (⟨#[45, 53]⟩ : ByteArray) [.string (⟨#[45, 53]⟩ : ByteArray)] from rfl) (Reps.one (show Kd.M Kd.string _ _ _ (⟨#[35, 116]⟩ : ByteArray) [.string (⟨#[35, 116]⟩ : ByteArray)] from rfl) (Reps.one (show Kd.M Kd.string _ _ _ (⟨#[34, 120, 32, 121, 34]⟩ : ByteArray) [.string (⟨#[34, 120, 32, 121, 34]⟩ : ByteArray)] from rfl) (Reps.one (show Kd.M Kd.string _ _ _ (⟨#[35, 92, 97]⟩ : ByteArray) [.string (⟨#[35, 92, 97]⟩ : ByteArray)] from rfl) (Reps.one (show Kd.M Kd.string _ _ _ (⟨#[46, 46, 46]⟩ : ByteArray) [.string (⟨#[46, 46, 46]⟩ : ByteArray)] from rfl) (Reps.one (show Kd.M Kd.string _ _ _ (⟨#[43]⟩ : ByteArray) [.string (⟨#[43]⟩ : ByteArray)] from rfl) (Reps.none _ _))))))))))))))))))); intro v432 w9 ho10 hb hg_ hnew_; clear hg_ hnew_; (first | rw [← Ny431.out] at ho10 | (simp only [Int.reduceToNat] at ho10; rw [← Ny431.out] at ho10)); have n0_ := Aside0.mk (Kd.R_lower ho10 (below_size (by repeat (first | (with_reducible first | exact HB.out | apply below_alloc | apply pw_below_drewN | apply below_drew1) | exact HB.out)))); have n1_ := Aside0.mk (below_step (by repeat (first | (with_reducible first | exact HB.out | apply below_alloc | apply pw_below_drewN | apply below_drew1) | exact HB.out)) hb); clear HB; have HO433 := n0_; have HB := n1_; clear n0_ n1_; clear hb ho10) | ((with_reducible refine gate_dst (N := 14) rfl ?_); (try (refine gate_guard (by rfl) ?_; dsimp only)); refine Kd.R_lit (Kd.int .i64) _ 3 ?hg (N := 14) ?hd (xs := ([1, 2, 3, 5, 6, 6, 6, 6, 6, 6, 7, 7, 7, 7, 7, 7, 7] : List Int)) (inner := [.int .i64 1, .int .i64 2, .int .i64 3, .int .i64 5, .int .i64 6, .int .i64 6, .int .i64 6, .int .i64 6, .int .i64 6, .int .i64 6, .int .i64 7, .int .i64 7, .int .i64 7, .int .i64 7, .int .i64 7, .int .i64 7, .int .i64 7]) (ok := fun _ => True) (okp := fun _ => True) ?hr ?hp (fun _ hk => hk) trivial (Below.refl _ _) (Nat.le_refl _) (by simp) ?_; (case hd => rfl); (case hg => rfl); (case hr => first | (go_simp; done) | (go_simp; rfl)); (case hp => exact (Reps.one (show Kd.M (Kd.int .i64) _ _ _ 1 [.int .i64 1] from rfl) (Reps.one (show Kd.M (Kd.int .i64) _ _ _ 2 [.int .i64 2] from rfl) (Reps.one (show Kd.M (Kd.int .i64) _ _ _ 3 [.int .i64 3] from rfl) (Reps.one (show Kd.M (Kd.int .i64) _ _ _ 5 [.int .i64 5] from rfl) (Reps.one (show Kd.M (Kd.int .i64) _ _ _ 6 [.int .i64 6] from rfl) (Reps.one (show Kd.M (Kd.int .i64) _ _ _ 6 [.int .i64 6] from rfl) (Reps.one (show Kd.M (Kd.int .i64) _ _ _ 6 [.int .i64 6] from rfl) (Reps.one (show Kd.M (Kd.int .i64) _ _ _ 6 [.int .i64 6] from rfl) (Reps.one (show Kd.M (Kd.int .i64) _ _ _ 6 [.int .i64 6] from rfl) (Reps.one (show Kd.M (Kd.int .i64) _ _ _ 6 [.int .i64 6] from rfl) (Reps.one (show Kd.M (Kd.int .i64) _ _ _ 7 [.int .i64 7] from rfl) (Reps.one (show Kd.M (Kd.int .i64) _ _ _ 7 [.int .i64 7] from rfl) (Reps.one (show Kd.M (Kd.int .i64) _ _ _ 7 [.int .i64 7] from rfl) (Reps.one (show Kd.M (Kd.int .i64) _ _ _ 7 [.int .i64 7] from rfl) (Reps.one (show Kd.M (Kd.int .i64) _ _ _ 7 [.int .i64 7] from rfl) (Reps.one (show Kd.M (Kd.int .i64) _ _ _ 7 [.int .i64 7] from rfl) (Reps.one (show Kd.M (Kd.int .i64) _ _ _ 7 [.int .i64 7] from rfl) (Reps.none _ _))))))))))))))))))); intro v435 w11 ho12 hb hg_ hnew_; clear hg_ hnew_; (first | rw [← Ny434.out] at ho12 | (simp only [Int.reduceToNat] at ho12; rw [← Ny434.out] at ho12)); have n0_ := Aside0.mk (Kd.R_below (by (with_reducible repeat (first | apply Kd.R_alloc | apply Kd.R_drewN | apply Kd.R_drew)); exact HO433.out) hb); have n1_ := Aside0.mk (Kd.R_lower ho12 (below_size (by repeat (first | (with_reducible first | exact HB.out | apply below_alloc | apply pw_below_drewN | apply below_drew1) | exact HB.out)))); have n2_ := Aside0.mk (below_step (by repeat (first | (with_reducible first | exact HB.out | apply below_alloc | apply pw_below_drewN | apply below_drew1) | exact HB.out)) hb); clear HO433; clear HB; have HO433 := n0_; have HO436 := n1_; have HB := n2_; clear n0_ n1_ n2_; clear hb ho12)))
  go_loopg [5, 6] k (fun kq v5 v6 w' => ∃ (x5_1 : ByteArray) (x6_1 : Int), v5 = .string x5_1 ∧ v6 = .int .i64 x6_1 ∧ Aside0 (marginalialaw03_TokenWords.l0 kq l0 y431 y434 x5_1 x6_1 = some r) ∧ Aside0 (kq ≤ k) ∧ Aside0 (Kd.R Kd.string 9 w' w.heap.size (fun _ => True) v432 y431) ∧ Aside0 (Kd.R (Kd.int .i64) 3 w' w.heap.size (fun _ => True) v435 y434) ∧ Aside0 (Below w.heap.size w w'))
  case atStart => exact ⟨((⟨#[]⟩ : ByteArray)), (0), (by first | rfl | (simp; done) | (simp [*]; done)), (by first | rfl | (simp; done) | (simp [*]; done)), H', ⟨Nat.le_refl _⟩, ⟨by (with_reducible repeat (first | apply Kd.R_alloc | apply Kd.R_drewN | apply Kd.R_drew)); exact HO433.out⟩, ⟨by (with_reducible repeat (first | apply Kd.R_alloc | apply Kd.R_drewN | apply Kd.R_drew)); exact HO436.out⟩, ⟨by repeat (first | (with_reducible first | exact HB.out | apply below_alloc | apply pw_below_drewN | apply below_drew1) | exact HB.out)⟩⟩
  case round =>
   clear H'
   try clear c2
   try clear c2b0
   try clear c2b1
   try clear p2
   try clear c4
   obtain ⟨x5_1, x6_1, rfl, rfl, HA, HK1, HO_3, HO_4, HB⟩ := hrel
   cases gk with
   | zero => exact absurd HA.out (by simp [marginalialaw03_TokenWords.l0])
   | succ k1 =>
    have H := HA.out
    clear HA
    simp only [marginalialaw03_TokenWords.l0] at H
    by_cases c13 : x6_1 < (l0.length : Int)
    ·rw [if_pos c13] at H
     have c13b0 : decide (x6_1 < (l0.length : Int)) = true := decide_eq_true c13
     clear c13
     by_cases c14 : 0 ≤ x6_1
     ·rw [if_pos c14] at H
      have c14b0 : decide (0 ≤ x6_1) = true := decide_eq_true c14
      clear c14
      obtain ⟨ji15, hji15⟩ : ∃ j_ : Int, (Int.tmod (wrap64 (rd l0 x6_1)) 17) = j_ := ⟨_, rfl⟩
      replace H : (if 0 ≤ (ji15) then (if (ji15) < (y431.length : Int) then (if x5_1.size + (rdOf ByteArray.empty y431 (ji15)).size ≤ 9223372036854775807 then (if (x5_1 ++ (rdOf ByteArray.empty y431 (ji15))).size + 1 ≤ 9223372036854775807 then (marginalialaw03_TokenWords.l0 k1 l0 y431 y434 ((x5_1 ++ (rdOf ByteArray.empty y431 (ji15))) ++ (⟨#[32]⟩ : ByteArray)) (wrap64 (x6_1 + 1))) else (none)) else (none)) else (none)) else (none)) = some r := by first | (rw [hji15] at H; exact H) | (simp only [hji15] at H ⊢; exact H)
      by_cases c16 : 0 ≤ (ji15)
      ·rw [if_pos c16] at H
       have c16b0 : decide (0 ≤ (ji15)) = true := decide_eq_true c16
       clear c16
       by_cases c17 : (ji15) < (y431.length : Int)
       ·rw [if_pos c17] at H
        have c17b0 : decide ((ji15) < (y431.length : Int)) = true := decide_eq_true c17
        clear c17
        by_cases c18 : x5_1.size + (rdOf ByteArray.empty y431 (ji15)).size ≤ 9223372036854775807
        ·rw [if_pos c18] at H
         have c18b0 := eq_true c18
         have c18b1 : decide (x5_1.size + (rdOf ByteArray.empty y431 (ji15)).size ≤ 9223372036854775807) = true := decide_eq_true c18
         try have c18b2 : (9223372036854775807 < x5_1.size + (rdOf ByteArray.empty y431 (ji15)).size) = False := eq_false (Nat.not_lt.2 c18)
         by_cases c19 : (x5_1 ++ (rdOf ByteArray.empty y431 (ji15))).size + 1 ≤ 9223372036854775807
         ·rw [if_pos c19] at H
          have c19b0 := eq_true c19
          have c19b1 : decide ((x5_1 ++ (rdOf ByteArray.empty y431 (ji15))).size + 1 ≤ 9223372036854775807) = true := decide_eq_true c19
          try have c19b2 : (9223372036854775807 < (x5_1 ++ (rdOf ByteArray.empty y431 (ji15))).size + 1) = False := eq_false (Nat.not_lt.2 c19)
          try (have c19b3 := c19b2; simp only [ByteArray.size_append] at c19b3)
          have H' := Aside0.mk H
          clear H
          have p438 : 0 ≤ (x6_1 : Int) := of_decide_eq_true (by first | (with_reducible assumption) | assumption)
          have q438 : x6_1 < (l0.length : Int) := of_decide_eq_true (by first | (with_reducible assumption) | assumption)
          obtain ⟨ad438, e438, hx438_0⟩ := Kd.at_int HR0.out x6_1 p438 q438
          cases e438
          replace hx438_0 := (HB.out.cell (World.block_lt_of_cell? w _ hx438_0)).trans hx438_0
          replace p438 := eq_true p438
          replace q438 := eq_true q438
          obtain ⟨Ao20, co20, eo20⟩ := Kd.R_slice HO_3.out
          subst eo20
          have p439 : 0 ≤ ((ji15) : Int) := of_decide_eq_true (by first | (with_reducible assumption) | assumption)
          have q439 : (ji15) < (y431.length : Int) := of_decide_eq_true (by first | (with_reducible assumption) | assumption)
          obtain ⟨ad439, e439, hx439_0⟩ := Kd.at_string (Kd.R_reads' HO_3.out).2.2 (ji15) p439 q439
          cases e439
          replace p439 := eq_true p439
          replace q439 := eq_true q439
          go_wp2
          repeat (go_quiet (fail); try go_wp2)
          go_roundg k1
          case measure => have := HK1.out; omega
          case rel => exact ⟨((x5_1 ++ (rdOf ByteArray.empty y431 (ji15))) ++ (⟨#[32]⟩ : ByteArray)), (wrap64 (x6_1 + 1)), (by first | rfl | (simp; done) | (simp only [← hji15] <;> (first | rfl | simp)) | (simp [*]; done)), (by first | rfl | (simp; done) | (simp [*]; done)), H', ⟨by have := HK1.out; omega⟩, ⟨by (with_reducible repeat (first | apply Kd.R_alloc | apply Kd.R_drewN | apply Kd.R_drew)); exact HO_3.out⟩, ⟨by (with_reducible repeat (first | apply Kd.R_alloc | apply Kd.R_drewN | apply Kd.R_drew)); exact HO_4.out⟩, ⟨by repeat (first | (with_reducible first | exact HB.out | apply below_alloc | apply pw_below_drewN | apply below_drew1) | exact HB.out)⟩⟩
         ·rw [if_neg c19] at H
          exact absurd H (by simp)
        ·rw [if_neg c18] at H
         exact absurd H (by simp)
       ·rw [if_neg c17] at H
        exact absurd H (by simp)
      ·rw [if_neg c16] at H
       exact absurd H (by simp)
     ·rw [if_neg c14] at H
      exact absurd H (by simp)
    ·rw [if_neg c13] at H
     have c13b0 : decide (x6_1 < (l0.length : Int)) = false := decide_eq_false c13
     clear c13
     replace H := Option.bind_eq_some_iff.mp H
     obtain ⟨t440, A210, H⟩ := H
     replace H : ((token_Scan.f k1 t440).bind fun bt443 => ((marginalialaw03_answers.f k1).bind fun t448 => (if t448 = true then (if bt443.2.2 = 0 then (marginalialaw03_TokenWords.j1 k1 l0 y431 y434 bt443.1 ((bt443.1.length : Int) != (l0.length : Int))) else (marginalialaw03_TokenWords.j1 k1 l0 y431 y434 bt443.1 true)) else (marginalialaw03_TokenWords.j1 k1 l0 y431 y434 bt443.1 true)))) = some r := H
     have A21 := Aside0.mk A210
     clear A210
     replace H := Option.bind_eq_some_iff.mp H
     obtain ⟨⟨t443, t446, t447⟩, A220, H⟩ := H
     replace H : ((marginalialaw03_answers.f k1).bind fun t448 => (if t448 = true then (if t447 = 0 then (marginalialaw03_TokenWords.j1 k1 l0 y431 y434 t443 ((t443.length : Int) != (l0.length : Int))) else (marginalialaw03_TokenWords.j1 k1 l0 y431 y434 t443 true)) else (marginalialaw03_TokenWords.j1 k1 l0 y431 y434 t443 true))) = some r := H
     have A22 := Aside0.mk A220
     clear A220
     have HC23 := Aside0.mk H
     clear H
     go_upto_region 11 with (first | (go_at_call 8; (with_reducible refine (marginalialaw03_chars.calls k1 x5_1 t440 _ A21.out).mono ?_); rintro e w24 ⟨v441, rfl, ho0, hb⟩; have n0_ := Aside0.mk (Kd.R_below (by (with_reducible repeat (first | apply Kd.R_alloc | apply Kd.R_drewN | apply Kd.R_drew)); exact HO_3.out) hb); have n1_ := Aside0.mk (Kd.R_elder' (by (with_reducible repeat (first | apply Kd.R_alloc | apply Kd.R_drewN | apply Kd.R_drew)); exact HO_4.out) (Kd.R_base ho0) hb); have n2_ := Aside0.mk (Kd.R_lower (Kd.R_new' ho0 (Kd.R_lt (by (with_reducible repeat (first | apply Kd.R_alloc | apply Kd.R_drewN | apply Kd.R_drew)); exact HO_4.out))) (below_size (by repeat (first | (with_reducible first | exact HB.out | apply below_alloc | apply pw_below_drewN | apply below_drew1) | exact HB.out)))); have n3_ := Aside0.mk (below_step (by repeat (first | (with_reducible first | exact HB.out | apply below_alloc | apply pw_below_drewN | apply below_drew1) | exact HB.out)) hb); clear HO_3; clear HO_4; clear HB; have HO_3 := n0_; have HO_4 := n1_; have HO442 := n2_; have HB := n3_; clear n0_ n1_ n2_ n3_; (try clear hb); (try clear hb2); (try clear hk); (try clear hi); (try clear ho0); obtain ⟨Ao25, co25, eo25⟩ := Kd.R_slice HO442.out; subst eo25) | (go_at_call 5; (with_reducible refine (token_Scan.calls k1 _ _ t440 t443 t446 t447 _ ?side1 ?side2 ?side3 A22.out).mono ?_); (case side1 => exact LD.below HLD.out (by repeat (first | (with_reducible first | exact HB.out | apply below_alloc | apply pw_below_drewN | apply below_drew1) | exact HB.out))); (case side2 => repeat (first | exact (Kd.R_reads' HO442.out).2.2 | (with_reducible refine Kd.C_alloc ?_ _) | (with_reducible refine Kd.C_drewN ?_ _) | (with_reducible refine Kd.C_drew ?_))); (case side3 => exact (Kd.R_reads' HO442.out).2.1); rintro e w26 ⟨v444, rfl, ho0, hb⟩; have n0_ := Aside0.mk (Kd.R_below (by (with_reducible repeat (first | apply Kd.R_alloc | apply Kd.R_drewN | apply Kd.R_drew)); exact HO_3.out) hb); have n1_ := Aside0.mk (Kd.R_below (by (with_reducible repeat (first | apply Kd.R_alloc | apply Kd.R_drewN | apply Kd.R_drew)); exact HO_4.out) hb); have n2_ := Aside0.mk (Kd.R_below (by (with_reducible repeat (first | apply Kd.R_alloc | apply Kd.R_drewN | apply Kd.R_drew)); exact HO442.out) hb); have n3_ := Aside0.mk (Kd.N_lower (Kd.N_mono (ok' := fun k_ => some k_ ≠ (v432 : Value).ownBlock ∧ some k_ ≠ (v435 : Value).ownBlock ∧ some k_ ≠ (.slice Ao25 t440.length co25 : Value).ownBlock) ho0 (fun k_ hk_ => ⟨(Kd.fresh' (Kd.R_lt (by (with_reducible repeat (first | apply Kd.R_alloc | apply Kd.R_drewN | apply Kd.R_drew)); exact HO_3.out)) k_ hk_), (Kd.fresh' (Kd.R_lt (by (with_reducible repeat (first | apply Kd.R_alloc | apply Kd.R_drewN | apply Kd.R_drew)); exact HO_4.out)) k_ hk_), (Kd.fresh' (Kd.R_lt (by (with_reducible repeat (first | apply Kd.R_alloc | apply Kd.R_drewN | apply Kd.R_drew)); exact HO442.out)) k_ hk_)⟩)) (below_size (by repeat (first | (with_reducible first | exact HB.out | apply below_alloc | apply pw_below_drewN | apply below_drew1) | exact HB.out)))); have n4_ := Aside0.mk (below_step (by repeat (first | (with_reducible first | exact HB.out | apply below_alloc | apply pw_below_drewN | apply below_drew1) | exact HB.out)) hb); clear HO_3; clear HO_4; clear HO442; clear HB; have HO_3 := n0_; have HO_4 := n1_; have HO442 := n2_; have HO445 := n3_; have HB := n4_; clear n0_ n1_ n2_ n3_ n4_; (try clear hb); (try clear hb2); (try clear hk); (try clear hi); (try clear ho0)))
     repeat (go_quiet (first | (go_at_call 8; (with_reducible refine (marginalialaw03_chars.calls k1 x5_1 t440 _ A21.out).mono ?_); rintro e w24 ⟨v441, rfl, ho0, hb⟩; have n0_ := Aside0.mk (Kd.R_below (by (with_reducible repeat (first | apply Kd.R_alloc | apply Kd.R_drewN | apply Kd.R_drew)); exact HO_3.out) hb); have n1_ := Aside0.mk (Kd.R_elder' (by (with_reducible repeat (first | apply Kd.R_alloc | apply Kd.R_drewN | apply Kd.R_drew)); exact HO_4.out) (Kd.R_base ho0) hb); have n2_ := Aside0.mk (Kd.R_lower (Kd.R_new' ho0 (Kd.R_lt (by (with_reducible repeat (first | apply Kd.R_alloc | apply Kd.R_drewN | apply Kd.R_drew)); exact HO_4.out))) (below_size (by repeat (first | (with_reducible first | exact HB.out | apply below_alloc | apply pw_below_drewN | apply below_drew1) | exact HB.out)))); have n3_ := Aside0.mk (below_step (by repeat (first | (with_reducible first | exact HB.out | apply below_alloc | apply pw_below_drewN | apply below_drew1) | exact HB.out)) hb); clear HO_3; clear HO_4; clear HB; have HO_3 := n0_; have HO_4 := n1_; have HO442 := n2_; have HB := n3_; clear n0_ n1_ n2_ n3_; (try clear hb); (try clear hb2); (try clear hk); (try clear hi); (try clear ho0); obtain ⟨Ao25, co25, eo25⟩ := Kd.R_slice HO442.out; subst eo25) | (go_at_call 5; (with_reducible refine (token_Scan.calls k1 _ _ t440 t443 t446 t447 _ ?side1 ?side2 ?side3 A22.out).mono ?_); (case side1 => exact LD.below HLD.out (by repeat (first | (with_reducible first | exact HB.out | apply below_alloc | apply pw_below_drewN | apply below_drew1) | exact HB.out))); (case side2 => repeat (first | exact (Kd.R_reads' HO442.out).2.2 | (with_reducible refine Kd.C_alloc ?_ _) | (with_reducible refine Kd.C_drewN ?_ _) | (with_reducible refine Kd.C_drew ?_))); (case side3 => exact (Kd.R_reads' HO442.out).2.1); rintro e w26 ⟨v444, rfl, ho0, hb⟩; have n0_ := Aside0.mk (Kd.R_below (by (with_reducible repeat (first | apply Kd.R_alloc | apply Kd.R_drewN | apply Kd.R_drew)); exact HO_3.out) hb); have n1_ := Aside0.mk (Kd.R_below (by (with_reducible repeat (first | apply Kd.R_alloc | apply Kd.R_drewN | apply Kd.R_drew)); exact HO_4.out) hb); have n2_ := Aside0.mk (Kd.R_below (by (with_reducible repeat (first | apply Kd.R_alloc | apply Kd.R_drewN | apply Kd.R_drew)); exact HO442.out) hb); have n3_ := Aside0.mk (Kd.N_lower (Kd.N_mono (ok' := fun k_ => some k_ ≠ (v432 : Value).ownBlock ∧ some k_ ≠ (v435 : Value).ownBlock ∧ some k_ ≠ (.slice Ao25 t440.length co25 : Value).ownBlock) ho0 (fun k_ hk_ => ⟨(Kd.fresh' (Kd.R_lt (by (with_reducible repeat (first | apply Kd.R_alloc | apply Kd.R_drewN | apply Kd.R_drew)); exact HO_3.out)) k_ hk_), (Kd.fresh' (Kd.R_lt (by (with_reducible repeat (first | apply Kd.R_alloc | apply Kd.R_drewN | apply Kd.R_drew)); exact HO_4.out)) k_ hk_), (Kd.fresh' (Kd.R_lt (by (with_reducible repeat (first | apply Kd.R_alloc | apply Kd.R_drewN | apply Kd.R_drew)); exact HO442.out)) k_ hk_)⟩)) (below_size (by repeat (first | (with_reducible first | exact HB.out | apply below_alloc | apply pw_below_drewN | apply below_drew1) | exact HB.out)))); have n4_ := Aside0.mk (below_step (by repeat (first | (with_reducible first | exact HB.out | apply below_alloc | apply pw_below_drewN | apply below_drew1) | exact HB.out)) hb); clear HO_3; clear HO_4; clear HO442; clear HB; have HO_3 := n0_; have HO_4 := n1_; have HO442 := n2_; have HO445 := n3_; have HB := n4_; clear n0_ n1_ n2_ n3_ n4_; (try clear hb); (try clear hb2); (try clear hk); (try clear hi); (try clear ho0))); go_upto_region 11 with (first | (go_at_call 8; (with_reducible refine (marginalialaw03_chars.calls k1 x5_1 t440 _ A21.out).mono ?_); rintro e w24 ⟨v441, rfl, ho0, hb⟩; have n0_ := Aside0.mk (Kd.R_below (by (with_reducible repeat (first | apply Kd.R_alloc | apply Kd.R_drewN | apply Kd.R_drew)); exact HO_3.out) hb); have n1_ := Aside0.mk (Kd.R_elder' (by (with_reducible repeat (first | apply Kd.R_alloc | apply Kd.R_drewN | apply Kd.R_drew)); exact HO_4.out) (Kd.R_base ho0) hb); have n2_ := Aside0.mk (Kd.R_lower (Kd.R_new' ho0 (Kd.R_lt (by (with_reducible repeat (first | apply Kd.R_alloc | apply Kd.R_drewN | apply Kd.R_drew)); exact HO_4.out))) (below_size (by repeat (first | (with_reducible first | exact HB.out | apply below_alloc | apply pw_below_drewN | apply below_drew1) | exact HB.out)))); have n3_ := Aside0.mk (below_step (by repeat (first | (with_reducible first | exact HB.out | apply below_alloc | apply pw_below_drewN | apply below_drew1) | exact HB.out)) hb); clear HO_3; clear HO_4; clear HB; have HO_3 := n0_; have HO_4 := n1_; have HO442 := n2_; have HB := n3_; clear n0_ n1_ n2_ n3_; (try clear hb); (try clear hb2); (try clear hk); (try clear hi); (try clear ho0); obtain ⟨Ao25, co25, eo25⟩ := Kd.R_slice HO442.out; subst eo25) | (go_at_call 5; (with_reducible refine (token_Scan.calls k1 _ _ t440 t443 t446 t447 _ ?side1 ?side2 ?side3 A22.out).mono ?_); (case side1 => exact LD.below HLD.out (by repeat (first | (with_reducible first | exact HB.out | apply below_alloc | apply pw_below_drewN | apply below_drew1) | exact HB.out))); (case side2 => repeat (first | exact (Kd.R_reads' HO442.out).2.2 | (with_reducible refine Kd.C_alloc ?_ _) | (with_reducible refine Kd.C_drewN ?_ _) | (with_reducible refine Kd.C_drew ?_))); (case side3 => exact (Kd.R_reads' HO442.out).2.1); rintro e w26 ⟨v444, rfl, ho0, hb⟩; have n0_ := Aside0.mk (Kd.R_below (by (with_reducible repeat (first | apply Kd.R_alloc | apply Kd.R_drewN | apply Kd.R_drew)); exact HO_3.out) hb); have n1_ := Aside0.mk (Kd.R_below (by (with_reducible repeat (first | apply Kd.R_alloc | apply Kd.R_drewN | apply Kd.R_drew)); exact HO_4.out) hb); have n2_ := Aside0.mk (Kd.R_below (by (with_reducible repeat (first | apply Kd.R_alloc | apply Kd.R_drewN | apply Kd.R_drew)); exact HO442.out) hb); have n3_ := Aside0.mk (Kd.N_lower (Kd.N_mono (ok' := fun k_ => some k_ ≠ (v432 : Value).ownBlock ∧ some k_ ≠ (v435 : Value).ownBlock ∧ some k_ ≠ (.slice Ao25 t440.length co25 : Value).ownBlock) ho0 (fun k_ hk_ => ⟨(Kd.fresh' (Kd.R_lt (by (with_reducible repeat (first | apply Kd.R_alloc | apply Kd.R_drewN | apply Kd.R_drew)); exact HO_3.out)) k_ hk_), (Kd.fresh' (Kd.R_lt (by (with_reducible repeat (first | apply Kd.R_alloc | apply Kd.R_drewN | apply Kd.R_drew)); exact HO_4.out)) k_ hk_), (Kd.fresh' (Kd.R_lt (by (with_reducible repeat (first | apply Kd.R_alloc | apply Kd.R_drewN | apply Kd.R_drew)); exact HO442.out)) k_ hk_)⟩)) (below_size (by repeat (first | (with_reducible first | exact HB.out | apply below_alloc | apply pw_below_drewN | apply below_drew1) | exact HB.out)))); have n4_ := Aside0.mk (below_step (by repeat (first | (with_reducible first | exact HB.out | apply below_alloc | apply pw_below_drewN | apply below_drew1) | exact HB.out)) hb); clear HO_3; clear HO_4; clear HO442; clear HB; have HO_3 := n0_; have HO_4 := n1_; have HO442 := n2_; have HO445 := n3_; have HB := n4_; clear n0_ n1_ n2_ n3_ n4_; (try clear hb); (try clear hb2); (try clear hk); (try clear hi); (try clear ho0))))
     (try simp only [Act.put, List.setIfInBounds_toArray, List.set_cons_zero, List.set_cons_succ])
     go_cut [56] (fun v56 wc => ∃ (kq : Nat) (x56_22 : Bool), v56 = .bool x56_22 ∧ Aside0 (marginalialaw03_TokenWords.j1 kq l0 y431 y434 t443 x56_22 = some r) ∧ Aside0 (kq ≤ k1) ∧ Aside0 (Kd.R Kd.string 9 wc w.heap.size (fun _ => True) v432 y431) ∧ Aside0 (Kd.R (Kd.int .i64) 3 wc w.heap.size (fun _ => True) v435 y434) ∧ Aside0 (Kd.N k38 38 wc w.heap.size (fun k_ => some k_ ≠ (v432 : Value).ownBlock ∧ some k_ ≠ (v435 : Value).ownBlock) v444 t443) ∧ Aside0 (Below w.heap.size w wc))
     case first =>
      have H := HC23.out
      clear HC23
      replace H := Option.bind_eq_some_iff.mp H
      obtain ⟨t448, A270, H⟩ := H
      replace H : (if t448 = true then (if t447 = 0 then (marginalialaw03_TokenWords.j1 k1 l0 y431 y434 t443 ((t443.length : Int) != (l0.length : Int))) else (marginalialaw03_TokenWords.j1 k1 l0 y431 y434 t443 true)) else (marginalialaw03_TokenWords.j1 k1 l0 y431 y434 t443 true)) = some r := H
      have A27 := Aside0.mk A270
      clear A270
      by_cases c28 : t448 = true
      ·subst c28
       have H1 : (if t447 = 0 then (marginalialaw03_TokenWords.j1 k1 l0 y431 y434 t443 ((t443.length : Int) != (l0.length : Int))) else (marginalialaw03_TokenWords.j1 k1 l0 y431 y434 t443 true)) = some r := by rw [if_pos rfl] at H; exact H
       clear H
       have H := H1
       clear H1
       by_cases c29 : t447 = 0
       ·rw [if_pos c29] at H
        have c29b0 : (t447 == 0) = true := beq_iff_eq.mpr c29
        have c29b1 : (t447 != 0) = false := bne_eq_false_iff_eq.mpr c29
        clear c29
        (first | rw [c29b0] | (simp only [i64_w, i32_w]; rw [c29b0]) | skip)
        have H' := Aside0.mk H
        clear H
        go_wp2_with (first | (go_at_call 7; (with_reducible refine (marginalialaw03_answers.calls k1  true _ ?side1 A27.out).mono ?_); (case side1 => exact LD.below HLD.out (by repeat (first | (with_reducible first | exact HB.out | apply below_alloc | apply pw_below_drewN | apply below_drew1) | exact HB.out))); rintro e w30 ⟨rfl, hb⟩; have n0_ := Aside0.mk (Kd.R_below (by (with_reducible repeat (first | apply Kd.R_alloc | apply Kd.R_drewN | apply Kd.R_drew)); exact HO_3.out) hb); have n1_ := Aside0.mk (Kd.R_below (by (with_reducible repeat (first | apply Kd.R_alloc | apply Kd.R_drewN | apply Kd.R_drew)); exact HO_4.out) hb); have n2_ := Aside0.mk (Kd.R_below (by (with_reducible repeat (first | apply Kd.R_alloc | apply Kd.R_drewN | apply Kd.R_drew)); exact HO442.out) hb); have n3_ := Aside0.mk (Kd.N_below (by (with_reducible repeat (first | apply Kd.N_alloc | apply Kd.N_drewN | apply Kd.N_drew)); exact HO445.out) hb); have n4_ := Aside0.mk (below_step (by repeat (first | (with_reducible first | exact HB.out | apply below_alloc | apply pw_below_drewN | apply below_drew1) | exact HB.out)) hb); clear HO_3; clear HO_4; clear HO442; clear HO445; clear HB; have HO_3 := n0_; have HO_4 := n1_; have HO442 := n2_; have HO445 := n3_; have HB := n4_; clear n0_ n1_ n2_ n3_ n4_; (try clear hb); (try clear hb2); (try clear hk); (try clear hi); obtain ⟨Ao31, co31, eo31⟩ := Kd.N_slice HO445.out; subst eo31))
        repeat (go_quiet (first | (go_at_call 7; (with_reducible refine (marginalialaw03_answers.calls k1  true _ ?side1 A27.out).mono ?_); (case side1 => exact LD.below HLD.out (by repeat (first | (with_reducible first | exact HB.out | apply below_alloc | apply pw_below_drewN | apply below_drew1) | exact HB.out))); rintro e w30 ⟨rfl, hb⟩; have n0_ := Aside0.mk (Kd.R_below (by (with_reducible repeat (first | apply Kd.R_alloc | apply Kd.R_drewN | apply Kd.R_drew)); exact HO_3.out) hb); have n1_ := Aside0.mk (Kd.R_below (by (with_reducible repeat (first | apply Kd.R_alloc | apply Kd.R_drewN | apply Kd.R_drew)); exact HO_4.out) hb); have n2_ := Aside0.mk (Kd.R_below (by (with_reducible repeat (first | apply Kd.R_alloc | apply Kd.R_drewN | apply Kd.R_drew)); exact HO442.out) hb); have n3_ := Aside0.mk (Kd.N_below (by (with_reducible repeat (first | apply Kd.N_alloc | apply Kd.N_drewN | apply Kd.N_drew)); exact HO445.out) hb); have n4_ := Aside0.mk (below_step (by repeat (first | (with_reducible first | exact HB.out | apply below_alloc | apply pw_below_drewN | apply below_drew1) | exact HB.out)) hb); clear HO_3; clear HO_4; clear HO442; clear HO445; clear HB; have HO_3 := n0_; have HO_4 := n1_; have HO442 := n2_; have HO445 := n3_; have HB := n4_; clear n0_ n1_ n2_ n3_ n4_; (try clear hb); (try clear hb2); (try clear hk); (try clear hi); obtain ⟨Ao31, co31, eo31⟩ := Kd.N_slice HO445.out; subst eo31)); try go_wp2_with (first | (go_at_call 7; (with_reducible refine (marginalialaw03_answers.calls k1  true _ ?side1 A27.out).mono ?_); (case side1 => exact LD.below HLD.out (by repeat (first | (with_reducible first | exact HB.out | apply below_alloc | apply pw_below_drewN | apply below_drew1) | exact HB.out))); rintro e w30 ⟨rfl, hb⟩; have n0_ := Aside0.mk (Kd.R_below (by (with_reducible repeat (first | apply Kd.R_alloc | apply Kd.R_drewN | apply Kd.R_drew)); exact HO_3.out) hb); have n1_ := Aside0.mk (Kd.R_below (by (with_reducible repeat (first | apply Kd.R_alloc | apply Kd.R_drewN | apply Kd.R_drew)); exact HO_4.out) hb); have n2_ := Aside0.mk (Kd.R_below (by (with_reducible repeat (first | apply Kd.R_alloc | apply Kd.R_drewN | apply Kd.R_drew)); exact HO442.out) hb); have n3_ := Aside0.mk (Kd.N_below (by (with_reducible repeat (first | apply Kd.N_alloc | apply Kd.N_drewN | apply Kd.N_drew)); exact HO445.out) hb); have n4_ := Aside0.mk (below_step (by repeat (first | (with_reducible first | exact HB.out | apply below_alloc | apply pw_below_drewN | apply below_drew1) | exact HB.out)) hb); clear HO_3; clear HO_4; clear HO442; clear HO445; clear HB; have HO_3 := n0_; have HO_4 := n1_; have HO442 := n2_; have HO445 := n3_; have HB := n4_; clear n0_ n1_ n2_ n3_ n4_; (try clear hb); (try clear hb2); (try clear hk); (try clear hi); obtain ⟨Ao31, co31, eo31⟩ := Kd.N_slice HO445.out; subst eo31)))
        go_meet
        case rel => exact ⟨_, (((t443.length : Int) != (l0.length : Int))), (by first | rfl | (simp; done) | (simp [*]; done)), H', ⟨by have := HK1.out; first | omega | exact Nat.le_refl _⟩, ⟨by (with_reducible repeat (first | apply Kd.R_alloc | apply Kd.R_drewN | apply Kd.R_drew)); exact HO_3.out⟩, ⟨by (with_reducible repeat (first | apply Kd.R_alloc | apply Kd.R_drewN | apply Kd.R_drew)); exact Kd.R_mono HO_4.out (fun _ hk => trivial)⟩, ⟨by (with_reducible repeat (first | apply Kd.N_alloc | apply Kd.N_drewN | apply Kd.N_drew)); exact Kd.N_mono HO445.out (fun _ hk => ⟨hk.1, hk.2.1⟩)⟩, ⟨by repeat (first | (with_reducible first | exact HB.out | apply below_alloc | apply pw_below_drewN | apply below_drew1) | exact HB.out)⟩⟩
       ·rw [if_neg c29] at H
        have c29b0 : (t447 == 0) = false := beq_eq_false_iff_ne.mpr c29
        have c29b1 : (t447 != 0) = true := bne_iff_ne.mpr c29
        (first | rw [c29b0] | (simp only [i64_w, i32_w]; rw [c29b0]) | skip)
        have H' := Aside0.mk H
        clear H
        go_wp2_with (first | (go_at_call 7; (with_reducible refine (marginalialaw03_answers.calls k1  true _ ?side1 A27.out).mono ?_); (case side1 => exact LD.below HLD.out (by repeat (first | (with_reducible first | exact HB.out | apply below_alloc | apply pw_below_drewN | apply below_drew1) | exact HB.out))); rintro e w32 ⟨rfl, hb⟩; have n0_ := Aside0.mk (Kd.R_below (by (with_reducible repeat (first | apply Kd.R_alloc | apply Kd.R_drewN | apply Kd.R_drew)); exact HO_3.out) hb); have n1_ := Aside0.mk (Kd.R_below (by (with_reducible repeat (first | apply Kd.R_alloc | apply Kd.R_drewN | apply Kd.R_drew)); exact HO_4.out) hb); have n2_ := Aside0.mk (Kd.R_below (by (with_reducible repeat (first | apply Kd.R_alloc | apply Kd.R_drewN | apply Kd.R_drew)); exact HO442.out) hb); have n3_ := Aside0.mk (Kd.N_below (by (with_reducible repeat (first | apply Kd.N_alloc | apply Kd.N_drewN | apply Kd.N_drew)); exact HO445.out) hb); have n4_ := Aside0.mk (below_step (by repeat (first | (with_reducible first | exact HB.out | apply below_alloc | apply pw_below_drewN | apply below_drew1) | exact HB.out)) hb); clear HO_3; clear HO_4; clear HO442; clear HO445; clear HB; have HO_3 := n0_; have HO_4 := n1_; have HO442 := n2_; have HO445 := n3_; have HB := n4_; clear n0_ n1_ n2_ n3_ n4_; (try clear hb); (try clear hb2); (try clear hk); (try clear hi)))
        repeat (go_quiet (first | (go_at_call 7; (with_reducible refine (marginalialaw03_answers.calls k1  true _ ?side1 A27.out).mono ?_); (case side1 => exact LD.below HLD.out (by repeat (first | (with_reducible first | exact HB.out | apply below_alloc | apply pw_below_drewN | apply below_drew1) | exact HB.out))); rintro e w32 ⟨rfl, hb⟩; have n0_ := Aside0.mk (Kd.R_below (by (with_reducible repeat (first | apply Kd.R_alloc | apply Kd.R_drewN | apply Kd.R_drew)); exact HO_3.out) hb); have n1_ := Aside0.mk (Kd.R_below (by (with_reducible repeat (first | apply Kd.R_alloc | apply Kd.R_drewN | apply Kd.R_drew)); exact HO_4.out) hb); have n2_ := Aside0.mk (Kd.R_below (by (with_reducible repeat (first | apply Kd.R_alloc | apply Kd.R_drewN | apply Kd.R_drew)); exact HO442.out) hb); have n3_ := Aside0.mk (Kd.N_below (by (with_reducible repeat (first | apply Kd.N_alloc | apply Kd.N_drewN | apply Kd.N_drew)); exact HO445.out) hb); have n4_ := Aside0.mk (below_step (by repeat (first | (with_reducible first | exact HB.out | apply below_alloc | apply pw_below_drewN | apply below_drew1) | exact HB.out)) hb); clear HO_3; clear HO_4; clear HO442; clear HO445; clear HB; have HO_3 := n0_; have HO_4 := n1_; have HO442 := n2_; have HO445 := n3_; have HB := n4_; clear n0_ n1_ n2_ n3_ n4_; (try clear hb); (try clear hb2); (try clear hk); (try clear hi))); try go_wp2_with (first | (go_at_call 7; (with_reducible refine (marginalialaw03_answers.calls k1  true _ ?side1 A27.out).mono ?_); (case side1 => exact LD.below HLD.out (by repeat (first | (with_reducible first | exact HB.out | apply below_alloc | apply pw_below_drewN | apply below_drew1) | exact HB.out))); rintro e w32 ⟨rfl, hb⟩; have n0_ := Aside0.mk (Kd.R_below (by (with_reducible repeat (first | apply Kd.R_alloc | apply Kd.R_drewN | apply Kd.R_drew)); exact HO_3.out) hb); have n1_ := Aside0.mk (Kd.R_below (by (with_reducible repeat (first | apply Kd.R_alloc | apply Kd.R_drewN | apply Kd.R_drew)); exact HO_4.out) hb); have n2_ := Aside0.mk (Kd.R_below (by (with_reducible repeat (first | apply Kd.R_alloc | apply Kd.R_drewN | apply Kd.R_drew)); exact HO442.out) hb); have n3_ := Aside0.mk (Kd.N_below (by (with_reducible repeat (first | apply Kd.N_alloc | apply Kd.N_drewN | apply Kd.N_drew)); exact HO445.out) hb); have n4_ := Aside0.mk (below_step (by repeat (first | (with_reducible first | exact HB.out | apply below_alloc | apply pw_below_drewN | apply below_drew1) | exact HB.out)) hb); clear HO_3; clear HO_4; clear HO442; clear HO445; clear HB; have HO_3 := n0_; have HO_4 := n1_; have HO442 := n2_; have HO445 := n3_; have HB := n4_; clear n0_ n1_ n2_ n3_ n4_; (try clear hb); (try clear hb2); (try clear hk); (try clear hi))))
        go_meet
        case rel => exact ⟨_, (true), (by first | rfl | (simp; done) | (simp [*]; done)), H', ⟨by have := HK1.out; first | omega | exact Nat.le_refl _⟩, ⟨by (with_reducible repeat (first | apply Kd.R_alloc | apply Kd.R_drewN | apply Kd.R_drew)); exact HO_3.out⟩, ⟨by (with_reducible repeat (first | apply Kd.R_alloc | apply Kd.R_drewN | apply Kd.R_drew)); exact Kd.R_mono HO_4.out (fun _ hk => trivial)⟩, ⟨by (with_reducible repeat (first | apply Kd.N_alloc | apply Kd.N_drewN | apply Kd.N_drew)); exact Kd.N_mono HO445.out (fun _ hk => ⟨hk.1, hk.2.1⟩)⟩, ⟨by repeat (first | (with_reducible first | exact HB.out | apply below_alloc | apply pw_below_drewN | apply below_drew1) | exact HB.out)⟩⟩
      ·replace c28 := Bool.eq_false_iff.mpr c28
       subst c28
       have H1 : (marginalialaw03_TokenWords.j1 k1 l0 y431 y434 t443 true) = some r := by rw [if_neg (show ¬ (false = true) by decide)] at H; exact H
       clear H
       have H := H1
       clear H1
       have H' := Aside0.mk H
       clear H
       go_wp2_with (first | (go_at_call 7; (with_reducible refine (marginalialaw03_answers.calls k1  false _ ?side1 A27.out).mono ?_); (case side1 => exact LD.below HLD.out (by repeat (first | (with_reducible first | exact HB.out | apply below_alloc | apply pw_below_drewN | apply below_drew1) | exact HB.out))); rintro e w33 ⟨rfl, hb⟩; have n0_ := Aside0.mk (Kd.R_below (by (with_reducible repeat (first | apply Kd.R_alloc | apply Kd.R_drewN | apply Kd.R_drew)); exact HO_3.out) hb); have n1_ := Aside0.mk (Kd.R_below (by (with_reducible repeat (first | apply Kd.R_alloc | apply Kd.R_drewN | apply Kd.R_drew)); exact HO_4.out) hb); have n2_ := Aside0.mk (Kd.R_below (by (with_reducible repeat (first | apply Kd.R_alloc | apply Kd.R_drewN | apply Kd.R_drew)); exact HO442.out) hb); have n3_ := Aside0.mk (Kd.N_below (by (with_reducible repeat (first | apply Kd.N_alloc | apply Kd.N_drewN | apply Kd.N_drew)); exact HO445.out) hb); have n4_ := Aside0.mk (below_step (by repeat (first | (with_reducible first | exact HB.out | apply below_alloc | apply pw_below_drewN | apply below_drew1) | exact HB.out)) hb); clear HO_3; clear HO_4; clear HO442; clear HO445; clear HB; have HO_3 := n0_; have HO_4 := n1_; have HO442 := n2_; have HO445 := n3_; have HB := n4_; clear n0_ n1_ n2_ n3_ n4_; (try clear hb); (try clear hb2); (try clear hk); (try clear hi)))
       repeat (go_quiet (first | (go_at_call 7; (with_reducible refine (marginalialaw03_answers.calls k1  false _ ?side1 A27.out).mono ?_); (case side1 => exact LD.below HLD.out (by repeat (first | (with_reducible first | exact HB.out | apply below_alloc | apply pw_below_drewN | apply below_drew1) | exact HB.out))); rintro e w33 ⟨rfl, hb⟩; have n0_ := Aside0.mk (Kd.R_below (by (with_reducible repeat (first | apply Kd.R_alloc | apply Kd.R_drewN | apply Kd.R_drew)); exact HO_3.out) hb); have n1_ := Aside0.mk (Kd.R_below (by (with_reducible repeat (first | apply Kd.R_alloc | apply Kd.R_drewN | apply Kd.R_drew)); exact HO_4.out) hb); have n2_ := Aside0.mk (Kd.R_below (by (with_reducible repeat (first | apply Kd.R_alloc | apply Kd.R_drewN | apply Kd.R_drew)); exact HO442.out) hb); have n3_ := Aside0.mk (Kd.N_below (by (with_reducible repeat (first | apply Kd.N_alloc | apply Kd.N_drewN | apply Kd.N_drew)); exact HO445.out) hb); have n4_ := Aside0.mk (below_step (by repeat (first | (with_reducible first | exact HB.out | apply below_alloc | apply pw_below_drewN | apply below_drew1) | exact HB.out)) hb); clear HO_3; clear HO_4; clear HO442; clear HO445; clear HB; have HO_3 := n0_; have HO_4 := n1_; have HO442 := n2_; have HO445 := n3_; have HB := n4_; clear n0_ n1_ n2_ n3_ n4_; (try clear hb); (try clear hb2); (try clear hk); (try clear hi))); try go_wp2_with (first | (go_at_call 7; (with_reducible refine (marginalialaw03_answers.calls k1  false _ ?side1 A27.out).mono ?_); (case side1 => exact LD.below HLD.out (by repeat (first | (with_reducible first | exact HB.out | apply below_alloc | apply pw_below_drewN | apply below_drew1) | exact HB.out))); rintro e w33 ⟨rfl, hb⟩; have n0_ := Aside0.mk (Kd.R_below (by (with_reducible repeat (first | apply Kd.R_alloc | apply Kd.R_drewN | apply Kd.R_drew)); exact HO_3.out) hb); have n1_ := Aside0.mk (Kd.R_below (by (with_reducible repeat (first | apply Kd.R_alloc | apply Kd.R_drewN | apply Kd.R_drew)); exact HO_4.out) hb); have n2_ := Aside0.mk (Kd.R_below (by (with_reducible repeat (first | apply Kd.R_alloc | apply Kd.R_drewN | apply Kd.R_drew)); exact HO442.out) hb); have n3_ := Aside0.mk (Kd.N_below (by (with_reducible repeat (first | apply Kd.N_alloc | apply Kd.N_drewN | apply Kd.N_drew)); exact HO445.out) hb); have n4_ := Aside0.mk (below_step (by repeat (first | (with_reducible first | exact HB.out | apply below_alloc | apply pw_below_drewN | apply below_drew1) | exact HB.out)) hb); clear HO_3; clear HO_4; clear HO442; clear HO445; clear HB; have HO_3 := n0_; have HO_4 := n1_; have HO442 := n2_; have HO445 := n3_; have HB := n4_; clear n0_ n1_ n2_ n3_ n4_; (try clear hb); (try clear hb2); (try clear hk); (try clear hi))))
       go_meet
       case rel => exact ⟨_, (true), (by first | rfl | (simp; done) | (simp [*]; done)), H', ⟨by have := HK1.out; first | omega | exact Nat.le_refl _⟩, ⟨by (with_reducible repeat (first | apply Kd.R_alloc | apply Kd.R_drewN | apply Kd.R_drew)); exact HO_3.out⟩, ⟨by (with_reducible repeat (first | apply Kd.R_alloc | apply Kd.R_drewN | apply Kd.R_drew)); exact Kd.R_mono HO_4.out (fun _ hk => trivial)⟩, ⟨by (with_reducible repeat (first | apply Kd.N_alloc | apply Kd.N_drewN | apply Kd.N_drew)); exact Kd.N_mono HO445.out (fun _ hk => ⟨hk.1, hk.2.1⟩)⟩, ⟨by repeat (first | (with_reducible first | exact HB.out | apply below_alloc | apply pw_below_drewN | apply below_drew1) | exact HB.out)⟩⟩
     case rest =>
      clear HC23
      try clear c1
      try clear c2
      try clear c2b0
      try clear c2b1
      try clear p2
      try clear c4
      try clear p4
      try clear q4
      try clear hx4
      try clear p6
      try clear c13
      try clear c13b0
      try clear c14
      try clear c14b0
      try clear c16
      try clear c16b0
      try clear c17
      try clear c17b0
      try clear c18
      try clear c18b0
      try clear c18b1
      try clear c18b2
      try clear c19
      try clear c19b0
      try clear c19b1
      try clear c19b2
      try clear c28
      try clear c29
      try clear c29b0
      try clear c29b1
      try clear hx438_0
      try clear hx439_0
      try clear p2
      try clear p438
      try clear p439
      try clear q438
      try clear q439
      obtain ⟨kq, x56_22, rfl, HA, HJ22, HO_3, HO_4, HO_7, HB⟩ := hcut
      cases kq with
      | zero => exact absurd HA.out (by simp [marginalialaw03_TokenWords.j1])
      | succ kj22 =>
       have H := HA.out
       clear HA
       simp only [marginalialaw03_TokenWords.j1] at H
       by_cases c34 : x56_22 = true
       ·subst c34
        have H1 : (some false) = some r := by rw [if_pos rfl] at H; exact H
        clear H
        have H := H1
        clear H1
        obtain rfl := Option.some.inj H
        go_wp2
        repeat (go_quiet (fail); try go_wp2)
        go_ret
        exact ⟨by first | rfl | (simp [errW_none, errW_some] <;> rfl) | (simp [*, errW_none, errW_some] <;> rfl), by repeat (first | (with_reducible first | exact HB.out | apply below_alloc | apply pw_below_drewN | apply below_drew1) | exact HB.out)⟩
       ·replace c34 := Bool.eq_false_iff.mpr c34
        subst c34
        have H1 : (marginalialaw03_TokenWords.l1 kj22 l0 y431 y434 t443 0 0) = some r := by rw [if_neg (show ¬ (false = true) by decide)] at H; exact H
        clear H
        have H := H1
        clear H1
        have H' := Aside0.mk H
        clear H
        go_wp2
        repeat (go_quiet (fail); try go_wp2)
        go_loopg [10, 11] kj22 (fun kq v10 v11 w' => ∃ (x10_3 : Int) (x11_3 : Int), v10 = .int .i64 x10_3 ∧ v11 = .int .i64 x11_3 ∧ Aside0 (marginalialaw03_TokenWords.l1 kq l0 y431 y434 t443 x10_3 x11_3 = some r) ∧ Aside0 (kq ≤ kj22) ∧ Aside0 (Kd.R Kd.string 9 w' w.heap.size (fun _ => True) v432 y431) ∧ Aside0 (Kd.R (Kd.int .i64) 3 w' w.heap.size (fun _ => True) v435 y434) ∧ Aside0 (Kd.N k38 38 w' w.heap.size (fun k_ => some k_ ≠ (v432 : Value).ownBlock ∧ some k_ ≠ (v435 : Value).ownBlock) v444 t443) ∧ Aside0 (Below w.heap.size w w'))
        case atStart => exact ⟨(0), (0), (by first | rfl | (simp; done) | (simp [*]; done)), (by first | rfl | (simp; done) | (simp [*]; done)), H', ⟨Nat.le_refl _⟩, ⟨by (with_reducible repeat (first | apply Kd.R_alloc | apply Kd.R_drewN | apply Kd.R_drew)); exact HO_3.out⟩, ⟨by (with_reducible repeat (first | apply Kd.R_alloc | apply Kd.R_drewN | apply Kd.R_drew)); exact HO_4.out⟩, ⟨by (with_reducible repeat (first | apply Kd.N_alloc | apply Kd.N_drewN | apply Kd.N_drew)); exact HO_7.out⟩, ⟨by repeat (first | (with_reducible first | exact HB.out | apply below_alloc | apply pw_below_drewN | apply below_drew1) | exact HB.out)⟩⟩
        case round =>
         clear H'
         try clear c1
         try clear c2
         try clear c2b0
         try clear c2b1
         try clear p2
         try clear c3
         try clear c4
         try clear p4
         try clear q4
         try clear hx4
         try clear p6
         try clear c13
         try clear c13b0
         try clear c14
         try clear c14b0
         try clear c16
         try clear c16b0
         try clear c17
         try clear c17b0
         try clear c18
         try clear c18b0
         try clear c18b1
         try clear c18b2
         try clear c19
         try clear c19b0
         try clear c19b1
         try clear c19b2
         try clear c28
         try clear c29
         try clear c29b0
         try clear c29b1
         try clear c34
         try clear hx438_0
         try clear hx439_0
         try clear p2
         try clear p4
         try clear p438
         try clear p439
         try clear p6
         try clear q4
         try clear q438
         try clear q439
         obtain ⟨x10_3, x11_3, rfl, rfl, HA, HK3, HO_3, HO_4, HO_7, HB⟩ := hrel
         cases gk with
         | zero => exact absurd HA.out (by simp [marginalialaw03_TokenWords.l1])
         | succ k3 =>
          have H := HA.out
          clear HA
          simp only [marginalialaw03_TokenWords.l1] at H
          by_cases c35 : x11_3 < (t443.length : Int)
          ·rw [if_pos c35] at H
           have c35b0 : decide (x11_3 < (t443.length : Int)) = true := decide_eq_true c35
           clear c35
           by_cases c36 : 0 ≤ x11_3
           ·rw [if_pos c36] at H
            have c36b0 : decide (0 ≤ x11_3) = true := decide_eq_true c36
            clear c36
            by_cases c37 : x11_3 < (l0.length : Int)
            ·rw [if_pos c37] at H
             have c37b0 : decide (x11_3 < (l0.length : Int)) = true := decide_eq_true c37
             clear c37
             obtain ⟨ji38, hji38⟩ : ∃ j_ : Int, (Int.tmod (wrap64 (rd l0 x11_3)) 17) = j_ := ⟨_, rfl⟩
             replace H : (if 0 ≤ (ji38) then (if (ji38) < (y434.length : Int) then (if ((rd_T38 t443 x11_3).f0) = (rd y434 (ji38)) then (if ((rd_T38 t443 x11_3).f3) = x10_3 then (if (ji38) < (y431.length : Int) then (marginalialaw03_TokenWords.l1 k3 l0 y431 y434 t443 (wrap64 ((wrap64 (x10_3 + ((rdOf ByteArray.empty y431 (ji38)).size : Int))) + 1)) (wrap64 (x11_3 + 1))) else (none)) else (some false)) else (some false)) else (none)) else (none)) = some r := by first | (rw [hji38] at H; exact H) | (simp only [hji38] at H ⊢; exact H)
             by_cases c39 : 0 ≤ (ji38)
             ·rw [if_pos c39] at H
              have c39b0 : decide (0 ≤ (ji38)) = true := decide_eq_true c39
              clear c39
              by_cases c40 : (ji38) < (y434.length : Int)
              ·rw [if_pos c40] at H
               have c40b0 : decide ((ji38) < (y434.length : Int)) = true := decide_eq_true c40
               clear c40
               by_cases c41 : ((rd_T38 t443 x11_3).f0) = (rd y434 (ji38))
               ·rw [if_pos c41] at H
                have c41b0 : (((rd_T38 t443 x11_3).f0) == (rd y434 (ji38))) = true := beq_iff_eq.mpr c41
                have c41b1 : (((rd_T38 t443 x11_3).f0) != (rd y434 (ji38))) = false := bne_eq_false_iff_eq.mpr c41
                clear c41
                by_cases c42 : ((rd_T38 t443 x11_3).f3) = x10_3
                ·rw [if_pos c42] at H
                 have c42b0 : (((rd_T38 t443 x11_3).f3) == x10_3) = true := beq_iff_eq.mpr c42
                 have c42b1 : (((rd_T38 t443 x11_3).f3) != x10_3) = false := bne_eq_false_iff_eq.mpr c42
                 clear c42
                 by_cases c43 : (ji38) < (y431.length : Int)
                 ·rw [if_pos c43] at H
                  have c43b0 : decide ((ji38) < (y431.length : Int)) = true := decide_eq_true c43
                  clear c43
                  have H' := Aside0.mk H
                  clear H
                  obtain ⟨Ao44, co44, eo44⟩ := Kd.N_slice HO_7.out
                  subst eo44
                  have p449 : 0 ≤ (x11_3 : Int) := of_decide_eq_true (by first | (with_reducible assumption) | assumption)
                  have q449 : x11_3 < (l0.length : Int) := of_decide_eq_true (by first | (with_reducible assumption) | assumption)
                  obtain ⟨ad449, e449, hx449_0⟩ := Kd.at_int HR0.out x11_3 p449 q449
                  cases e449
                  replace hx449_0 := (HB.out.cell (World.block_lt_of_cell? w _ hx449_0)).trans hx449_0
                  replace p449 := eq_true p449
                  replace q449 := eq_true q449
                  have p450 : 0 ≤ (x11_3 : Int) := of_decide_eq_true (by first | (with_reducible assumption) | assumption)
                  have q450 : x11_3 < (t443.length : Int) := of_decide_eq_true (by first | (with_reducible assumption) | assumption)
                  obtain ⟨ad450, A450_5, c450_5, A450_6, c450_6, e450, hx450_0, hx450_1, hx450_2, hx450_3, hx450_4, hx450_5, hx450_6, hx450_7, hx450_8, hl450_5, hi450_5, hl450_6, hi450_6⟩ := at_T38 (Kd.N_reads' HO_7.out).2.2 x11_3 p450 q450
                  cases e450
                  obtain ⟨ce450, hce450, hMe450, hcc450⟩ := Kd.N_get HO_7.out z38 x11_3 p450 (by first | exact q450 | exact of_decide_eq_true (by first | (with_reducible assumption) | assumption) | (have e_ := (Kd.N_reads' HO_7.out).1; omega))
                  obtain ⟨ua450_5, uc450_5, ua450_6, uc450_6, rfl, ul450_5, ge450_5, ul450_6, ge450_6⟩ := k38_openF hMe450
                  have hv450_5 := hcc450 5 _ rfl
                  rw [add_field _ _ 5 (by omega)] at hv450_5
                  replace hv450_5 := Option.some.inj (hv450_5.symm.trans hx450_5)
                  injection hv450_5 with hva_ hvn_ hvc_
                  rw [hva_] at ge450_5
                  rw [hvc_] at ul450_5
                  have HL450_5 := Aside0.mk (show Kd.V (Kd.int .u32) 73 _ w.heap.size _ _ ((rd_T38 t443 x11_3).f2.f2.f1) from Kd.V_mk ul450_5 ge450_5)
                  clear hva_ hvn_ hvc_ ge450_5 ul450_5
                  have hv450_6 := hcc450 6 _ rfl
                  rw [add_field _ _ 6 (by omega)] at hv450_6
                  replace hv450_6 := Option.some.inj (hv450_6.symm.trans hx450_6)
                  injection hv450_6 with hva_ hvn_ hvc_
                  rw [hva_] at ge450_6
                  rw [hvc_] at ul450_6
                  have HL450_6 := Aside0.mk (show Kd.V k33 33 _ w.heap.size _ _ ((rd_T38 t443 x11_3).f2.f3) from Kd.V_mk ul450_6 ge450_6)
                  clear hva_ hvn_ hvc_ ge450_6 ul450_6
                  clear hcc450 hce450
                  have HR450_5 := Aside0.mk hi450_5
                  have HC450_5 := Aside0.mk hl450_5
                  clear hi450_5 hl450_5
                  have HR450_6 := Aside0.mk hi450_6
                  have HC450_6 := Aside0.mk hl450_6
                  clear hi450_6 hl450_6
                  replace p450 := eq_true p450
                  replace q450 := eq_true q450
                  obtain ⟨Ao45, co45, eo45⟩ := Kd.R_slice HO_4.out
                  subst eo45
                  have p451 : 0 ≤ ((ji38) : Int) := of_decide_eq_true (by first | (with_reducible assumption) | assumption)
                  have q451 : (ji38) < (y434.length : Int) := of_decide_eq_true (by first | (with_reducible assumption) | assumption)
                  obtain ⟨ad451, e451, hx451_0⟩ := Kd.at_int (Kd.R_reads' HO_4.out).2.2 (ji38) p451 q451
                  cases e451
                  replace p451 := eq_true p451
                  replace q451 := eq_true q451
                  have p452 : 0 ≤ (x11_3 : Int) := of_decide_eq_true (by first | (with_reducible assumption) | assumption)
                  have q452 : x11_3 < (t443.length : Int) := of_decide_eq_true (by first | (with_reducible assumption) | assumption)
                  obtain ⟨ad452, A452_5, c452_5, A452_6, c452_6, e452, hx452_0, hx452_1, hx452_2, hx452_3, hx452_4, hx452_5, hx452_6, hx452_7, hx452_8, hl452_5, hi452_5, hl452_6, hi452_6⟩ := at_T38 (Kd.N_reads' HO_7.out).2.2 x11_3 p452 q452
                  obtain rfl : ad450 = ad452 := (by injection e452)
                  obtain ⟨ce452, hce452, hMe452, hcc452⟩ := Kd.N_get HO_7.out z38 x11_3 p452 (by first | exact q452 | exact of_decide_eq_true (by first | (with_reducible assumption) | assumption) | (have e_ := (Kd.N_reads' HO_7.out).1; omega))
                  obtain ⟨ua452_5, uc452_5, ua452_6, uc452_6, rfl, ul452_5, ge452_5, ul452_6, ge452_6⟩ := k38_openF hMe452
                  have hv452_5 := hcc452 5 _ rfl
                  rw [add_field _ _ 5 (by omega)] at hv452_5
                  replace hv452_5 := Option.some.inj (hv452_5.symm.trans hx452_5)
                  injection hv452_5 with hva_ hvn_ hvc_
                  rw [hva_] at ge452_5
                  rw [hvc_] at ul452_5
                  have HL452_5 := Aside0.mk (show Kd.V (Kd.int .u32) 73 _ w.heap.size _ _ ((rd_T38 t443 x11_3).f2.f2.f1) from Kd.V_mk ul452_5 ge452_5)
                  clear hva_ hvn_ hvc_ ge452_5 ul452_5
                  have hv452_6 := hcc452 6 _ rfl
                  rw [add_field _ _ 6 (by omega)] at hv452_6
                  replace hv452_6 := Option.some.inj (hv452_6.symm.trans hx452_6)
                  injection hv452_6 with hva_ hvn_ hvc_
                  rw [hva_] at ge452_6
                  rw [hvc_] at ul452_6
                  have HL452_6 := Aside0.mk (show Kd.V k33 33 _ w.heap.size _ _ ((rd_T38 t443 x11_3).f2.f3) from Kd.V_mk ul452_6 ge452_6)
                  clear hva_ hvn_ hvc_ ge452_6 ul452_6
                  clear hcc452 hce452
                  have HR452_5 := Aside0.mk hi452_5
                  have HC452_5 := Aside0.mk hl452_5
                  clear hi452_5 hl452_5
                  have HR452_6 := Aside0.mk hi452_6
                  have HC452_6 := Aside0.mk hl452_6
                  clear hi452_6 hl452_6
                  replace p452 := eq_true p452
                  replace q452 := eq_true q452
                  have ea_ := Option.some.inj (hx450_5.symm.trans hx452_5)
                  injection ea_ with ea_ en_ ec_
                  subst ea_
                  subst ec_
                  clear en_
                  have ea_ := Option.some.inj (hx450_6.symm.trans hx452_6)
                  injection ea_ with ea_ en_ ec_
                  subst ea_
                  subst ec_
                  clear en_
                  obtain ⟨Ao46, co46, eo46⟩ := Kd.R_slice HO_3.out
                  subst eo46
                  have p453 : 0 ≤ ((ji38) : Int) := of_decide_eq_true (by first | (with_reducible assumption) | assumption)
                  have q453 : (ji38) < (y431.length : Int) := of_decide_eq_true (by first | (with_reducible assumption) | assumption)
                  obtain ⟨ad453, e453, hx453_0⟩ := Kd.at_string (Kd.R_reads' HO_3.out).2.2 (ji38) p453 q453
                  cases e453
                  replace p453 := eq_true p453
                  replace q453 := eq_true q453
                  go_wp2
                  repeat (go_quiet (fail); try go_wp2)
                  go_roundg k3
                  case measure => have := HK1.out; have := HJ22.out; have := HK3.out; omega
                  case rel => exact ⟨(wrap64 ((wrap64 (x10_3 + ((rdOf ByteArray.empty y431 (ji38)).size : Int))) + 1)), (wrap64 (x11_3 + 1)), (by first | rfl | (simp; done) | (simp only [← hji38] <;> (first | rfl | simp)) | (simp [*]; done)), (by first | rfl | (simp; done) | (simp [*]; done)), H', ⟨by have := HK1.out; have := HJ22.out; have := HK3.out; omega⟩, ⟨by (with_reducible repeat (first | apply Kd.R_alloc | apply Kd.R_drewN | apply Kd.R_drew)); exact HO_3.out⟩, ⟨by (with_reducible repeat (first | apply Kd.R_alloc | apply Kd.R_drewN | apply Kd.R_drew)); exact HO_4.out⟩, ⟨by (with_reducible repeat (first | apply Kd.N_alloc | apply Kd.N_drewN | apply Kd.N_drew)); exact HO_7.out⟩, ⟨by repeat (first | (with_reducible first | exact HB.out | apply below_alloc | apply pw_below_drewN | apply below_drew1) | exact HB.out)⟩⟩
                 ·rw [if_neg c43] at H
                  exact absurd H (by simp)
                ·rw [if_neg c42] at H
                 have c42b0 : (((rd_T38 t443 x11_3).f3) == x10_3) = false := beq_eq_false_iff_ne.mpr c42
                 have c42b1 : (((rd_T38 t443 x11_3).f3) != x10_3) = true := bne_iff_ne.mpr c42
                 obtain rfl := Option.some.inj H
                 obtain ⟨Ao47, co47, eo47⟩ := Kd.N_slice HO_7.out
                 subst eo47
                 have p449 : 0 ≤ (x11_3 : Int) := of_decide_eq_true (by first | (with_reducible assumption) | assumption)
                 have q449 : x11_3 < (l0.length : Int) := of_decide_eq_true (by first | (with_reducible assumption) | assumption)
                 obtain ⟨ad449, e449, hx449_0⟩ := Kd.at_int HR0.out x11_3 p449 q449
                 cases e449
                 replace hx449_0 := (HB.out.cell (World.block_lt_of_cell? w _ hx449_0)).trans hx449_0
                 replace p449 := eq_true p449
                 replace q449 := eq_true q449
                 have p450 : 0 ≤ (x11_3 : Int) := of_decide_eq_true (by first | (with_reducible assumption) | assumption)
                 have q450 : x11_3 < (t443.length : Int) := of_decide_eq_true (by first | (with_reducible assumption) | assumption)
                 obtain ⟨ad450, A450_5, c450_5, A450_6, c450_6, e450, hx450_0, hx450_1, hx450_2, hx450_3, hx450_4, hx450_5, hx450_6, hx450_7, hx450_8, hl450_5, hi450_5, hl450_6, hi450_6⟩ := at_T38 (Kd.N_reads' HO_7.out).2.2 x11_3 p450 q450
                 cases e450
                 obtain ⟨ce450, hce450, hMe450, hcc450⟩ := Kd.N_get HO_7.out z38 x11_3 p450 (by first | exact q450 | exact of_decide_eq_true (by first | (with_reducible assumption) | assumption) | (have e_ := (Kd.N_reads' HO_7.out).1; omega))
                 obtain ⟨ua450_5, uc450_5, ua450_6, uc450_6, rfl, ul450_5, ge450_5, ul450_6, ge450_6⟩ := k38_openF hMe450
                 have hv450_5 := hcc450 5 _ rfl
                 rw [add_field _ _ 5 (by omega)] at hv450_5
                 replace hv450_5 := Option.some.inj (hv450_5.symm.trans hx450_5)
                 injection hv450_5 with hva_ hvn_ hvc_
                 rw [hva_] at ge450_5
                 rw [hvc_] at ul450_5
                 have HL450_5 := Aside0.mk (show Kd.V (Kd.int .u32) 73 _ w.heap.size _ _ ((rd_T38 t443 x11_3).f2.f2.f1) from Kd.V_mk ul450_5 ge450_5)
                 clear hva_ hvn_ hvc_ ge450_5 ul450_5
                 have hv450_6 := hcc450 6 _ rfl
                 rw [add_field _ _ 6 (by omega)] at hv450_6
                 replace hv450_6 := Option.some.inj (hv450_6.symm.trans hx450_6)
                 injection hv450_6 with hva_ hvn_ hvc_
                 rw [hva_] at ge450_6
                 rw [hvc_] at ul450_6
                 have HL450_6 := Aside0.mk (show Kd.V k33 33 _ w.heap.size _ _ ((rd_T38 t443 x11_3).f2.f3) from Kd.V_mk ul450_6 ge450_6)
                 clear hva_ hvn_ hvc_ ge450_6 ul450_6
                 clear hcc450 hce450
                 have HR450_5 := Aside0.mk hi450_5
                 have HC450_5 := Aside0.mk hl450_5
                 clear hi450_5 hl450_5
                 have HR450_6 := Aside0.mk hi450_6
                 have HC450_6 := Aside0.mk hl450_6
                 clear hi450_6 hl450_6
                 replace p450 := eq_true p450
                 replace q450 := eq_true q450
                 obtain ⟨Ao48, co48, eo48⟩ := Kd.R_slice HO_4.out
                 subst eo48
                 have p451 : 0 ≤ ((ji38) : Int) := of_decide_eq_true (by first | (with_reducible assumption) | assumption)
                 have q451 : (ji38) < (y434.length : Int) := of_decide_eq_true (by first | (with_reducible assumption) | assumption)
                 obtain ⟨ad451, e451, hx451_0⟩ := Kd.at_int (Kd.R_reads' HO_4.out).2.2 (ji38) p451 q451
                 cases e451
                 replace p451 := eq_true p451
                 replace q451 := eq_true q451
                 have p452 : 0 ≤ (x11_3 : Int) := of_decide_eq_true (by first | (with_reducible assumption) | assumption)
                 have q452 : x11_3 < (t443.length : Int) := of_decide_eq_true (by first | (with_reducible assumption) | assumption)
                 obtain ⟨ad452, A452_5, c452_5, A452_6, c452_6, e452, hx452_0, hx452_1, hx452_2, hx452_3, hx452_4, hx452_5, hx452_6, hx452_7, hx452_8, hl452_5, hi452_5, hl452_6, hi452_6⟩ := at_T38 (Kd.N_reads' HO_7.out).2.2 x11_3 p452 q452
                 obtain rfl : ad450 = ad452 := (by injection e452)
                 obtain ⟨ce452, hce452, hMe452, hcc452⟩ := Kd.N_get HO_7.out z38 x11_3 p452 (by first | exact q452 | exact of_decide_eq_true (by first | (with_reducible assumption) | assumption) | (have e_ := (Kd.N_reads' HO_7.out).1; omega))
                 obtain ⟨ua452_5, uc452_5, ua452_6, uc452_6, rfl, ul452_5, ge452_5, ul452_6, ge452_6⟩ := k38_openF hMe452
                 have hv452_5 := hcc452 5 _ rfl
                 rw [add_field _ _ 5 (by omega)] at hv452_5
                 replace hv452_5 := Option.some.inj (hv452_5.symm.trans hx452_5)
                 injection hv452_5 with hva_ hvn_ hvc_
                 rw [hva_] at ge452_5
                 rw [hvc_] at ul452_5
                 have HL452_5 := Aside0.mk (show Kd.V (Kd.int .u32) 73 _ w.heap.size _ _ ((rd_T38 t443 x11_3).f2.f2.f1) from Kd.V_mk ul452_5 ge452_5)
                 clear hva_ hvn_ hvc_ ge452_5 ul452_5
                 have hv452_6 := hcc452 6 _ rfl
                 rw [add_field _ _ 6 (by omega)] at hv452_6
                 replace hv452_6 := Option.some.inj (hv452_6.symm.trans hx452_6)
                 injection hv452_6 with hva_ hvn_ hvc_
                 rw [hva_] at ge452_6
                 rw [hvc_] at ul452_6
                 have HL452_6 := Aside0.mk (show Kd.V k33 33 _ w.heap.size _ _ ((rd_T38 t443 x11_3).f2.f3) from Kd.V_mk ul452_6 ge452_6)
                 clear hva_ hvn_ hvc_ ge452_6 ul452_6
                 clear hcc452 hce452
                 have HR452_5 := Aside0.mk hi452_5
                 have HC452_5 := Aside0.mk hl452_5
                 clear hi452_5 hl452_5
                 have HR452_6 := Aside0.mk hi452_6
                 have HC452_6 := Aside0.mk hl452_6
                 clear hi452_6 hl452_6
                 replace p452 := eq_true p452
                 replace q452 := eq_true q452
                 have ea_ := Option.some.inj (hx450_5.symm.trans hx452_5)
                 injection ea_ with ea_ en_ ec_
                 subst ea_
                 subst ec_
                 clear en_
                 have ea_ := Option.some.inj (hx450_6.symm.trans hx452_6)
                 injection ea_ with ea_ en_ ec_
                 subst ea_
                 subst ec_
                 clear en_
                 go_wp2
                 repeat (go_quiet (fail); try go_wp2)
                 go_ret
                 exact ⟨by first | rfl | (simp [errW_none, errW_some] <;> rfl) | (simp only [← hji38]; first | rfl | (simp [errW_none, errW_some] <;> rfl)) | (simp [*, errW_none, errW_some] <;> rfl), by repeat (first | (with_reducible first | exact HB.out | apply below_alloc | apply pw_below_drewN | apply below_drew1) | exact HB.out)⟩
               ·rw [if_neg c41] at H
                have c41b0 : (((rd_T38 t443 x11_3).f0) == (rd y434 (ji38))) = false := beq_eq_false_iff_ne.mpr c41
                have c41b1 : (((rd_T38 t443 x11_3).f0) != (rd y434 (ji38))) = true := bne_iff_ne.mpr c41
                obtain rfl := Option.some.inj H
                obtain ⟨Ao49, co49, eo49⟩ := Kd.N_slice HO_7.out
                subst eo49
                have p449 : 0 ≤ (x11_3 : Int) := of_decide_eq_true (by first | (with_reducible assumption) | assumption)
                have q449 : x11_3 < (l0.length : Int) := of_decide_eq_true (by first | (with_reducible assumption) | assumption)
                obtain ⟨ad449, e449, hx449_0⟩ := Kd.at_int HR0.out x11_3 p449 q449
                cases e449
                replace hx449_0 := (HB.out.cell (World.block_lt_of_cell? w _ hx449_0)).trans hx449_0
                replace p449 := eq_true p449
                replace q449 := eq_true q449
                have p450 : 0 ≤ (x11_3 : Int) := of_decide_eq_true (by first | (with_reducible assumption) | assumption)
                have q450 : x11_3 < (t443.length : Int) := of_decide_eq_true (by first | (with_reducible assumption) | assumption)
                obtain ⟨ad450, A450_5, c450_5, A450_6, c450_6, e450, hx450_0, hx450_1, hx450_2, hx450_3, hx450_4, hx450_5, hx450_6, hx450_7, hx450_8, hl450_5, hi450_5, hl450_6, hi450_6⟩ := at_T38 (Kd.N_reads' HO_7.out).2.2 x11_3 p450 q450
                cases e450
                obtain ⟨ce450, hce450, hMe450, hcc450⟩ := Kd.N_get HO_7.out z38 x11_3 p450 (by first | exact q450 | exact of_decide_eq_true (by first | (with_reducible assumption) | assumption) | (have e_ := (Kd.N_reads' HO_7.out).1; omega))
                obtain ⟨ua450_5, uc450_5, ua450_6, uc450_6, rfl, ul450_5, ge450_5, ul450_6, ge450_6⟩ := k38_openF hMe450
                have hv450_5 := hcc450 5 _ rfl
                rw [add_field _ _ 5 (by omega)] at hv450_5
                replace hv450_5 := Option.some.inj (hv450_5.symm.trans hx450_5)
                injection hv450_5 with hva_ hvn_ hvc_
                rw [hva_] at ge450_5
                rw [hvc_] at ul450_5
                have HL450_5 := Aside0.mk (show Kd.V (Kd.int .u32) 73 _ w.heap.size _ _ ((rd_T38 t443 x11_3).f2.f2.f1) from Kd.V_mk ul450_5 ge450_5)
                clear hva_ hvn_ hvc_ ge450_5 ul450_5
                have hv450_6 := hcc450 6 _ rfl
                rw [add_field _ _ 6 (by omega)] at hv450_6
                replace hv450_6 := Option.some.inj (hv450_6.symm.trans hx450_6)
                injection hv450_6 with hva_ hvn_ hvc_
                rw [hva_] at ge450_6
                rw [hvc_] at ul450_6
                have HL450_6 := Aside0.mk (show Kd.V k33 33 _ w.heap.size _ _ ((rd_T38 t443 x11_3).f2.f3) from Kd.V_mk ul450_6 ge450_6)
                clear hva_ hvn_ hvc_ ge450_6 ul450_6
                clear hcc450 hce450
                have HR450_5 := Aside0.mk hi450_5
                have HC450_5 := Aside0.mk hl450_5
                clear hi450_5 hl450_5
                have HR450_6 := Aside0.mk hi450_6
                have HC450_6 := Aside0.mk hl450_6
                clear hi450_6 hl450_6
                replace p450 := eq_true p450
                replace q450 := eq_true q450
                obtain ⟨Ao50, co50, eo50⟩ := Kd.R_slice HO_4.out
                subst eo50
                have p451 : 0 ≤ ((ji38) : Int) := of_decide_eq_true (by first | (with_reducible assumption) | assumption)
                have q451 : (ji38) < (y434.length : Int) := of_decide_eq_true (by first | (with_reducible assumption) | assumption)
                obtain ⟨ad451, e451, hx451_0⟩ := Kd.at_int (Kd.R_reads' HO_4.out).2.2 (ji38) p451 q451
                cases e451
                replace p451 := eq_true p451
                replace q451 := eq_true q451
                go_wp2
                repeat (go_quiet (fail); try go_wp2)
                go_ret
                exact ⟨by first | rfl | (simp [errW_none, errW_some] <;> rfl) | (simp only [← hji38]; first | rfl | (simp [errW_none, errW_some] <;> rfl)) | (simp [*, errW_none, errW_some] <;> rfl), by repeat (first | (with_reducible first | exact HB.out | apply below_alloc | apply pw_below_drewN | apply below_drew1) | exact HB.out)⟩
              ·rw [if_neg c40] at H
               exact absurd H (by simp)
             ·rw [if_neg c39] at H
              exact absurd H (by simp)
            ·rw [if_neg c37] at H
             exact absurd H (by simp)
           ·rw [if_neg c36] at H
            exact absurd H (by simp)
          ·rw [if_neg c35] at H
           have c35b0 : decide (x11_3 < (t443.length : Int)) = false := decide_eq_false c35
           clear c35
           obtain rfl := Option.some.inj H
           obtain ⟨Ao51, co51, eo51⟩ := Kd.N_slice HO_7.out
           subst eo51
           go_wp2
           repeat (go_quiet (fail); try go_wp2)
           go_ret
           exact ⟨by first | rfl | (simp [errW_none, errW_some] <;> rfl) | (simp [*, errW_none, errW_some] <;> rfl), by repeat (first | (with_reducible first | exact HB.out | apply below_alloc | apply pw_below_drewN | apply below_drew1) | exact HB.out)⟩
end Go.Proofs.YtefefpkgiecikaaDoor.P
namespace Go.Proofs.YtefefpkgiecikaaDoor.R
open Go
def plainV : DataW Unit → Option Value
 | .lit (.int k n) => some (.int k n)
 | .lit (.string l) => some (.string ⟨l.toArray⟩)
 | _ => none
def elemV : DataW Unit → List (Option Value)
 | .agg ds => ds.map plainV
 | d => [plainV d]
def plainT (P : Program) (t : TypeId) : Bool := (match P.underlying t with | some (.int _) => true | some .string => true | _ => false) && P.cellsOf t == 1
def rowT (P : Program) (fs : Array Field) : Bool := (List.range fs.size).all fun i => match fs[i]? with | some f => plainT P f.type && f.offset == i | none => false
section
variable {P : Program} {w : World} {base : Nat} {spare : Nat → Bool} {held : Bool} {fuel : Nat} {t e : TypeId} {cs : List Value}
abbrev en : TypeId × Value → Unit := fun _ => ()
theorem trod_one {d : DataW Unit} {q : List MemPlace} (ht : plainT P t = true) (h : DataW.trod en P w base spare held fuel t cs = some (d, q)) : ∃ v, cs = [v] ∧ plainV d = some v := by
 unfold plainT at ht
 simp only [Bool.and_eq_true] at ht
 rcases hu : P.underlying t with _ | u
 ·simp [hu] at ht
 ·rw [hu] at ht
  cases u with
  | int k =>
   obtain ⟨n, h1, h2, _⟩ := DataW.trod_int hu h
   simp only [Prod.mk.injEq] at h2
   exact ⟨_, h1, by rw [h2.1]; rfl⟩
  | string =>
   obtain ⟨s, h1, h2, _⟩ := DataW.trod_string hu h
   simp only [Prod.mk.injEq] at h2
   exact ⟨_, h1, by rw [h2.1]; simp [plainV]⟩
  | _ => simp at ht
theorem elem_one {d : DataW Unit} {q : List MemPlace} (ht : plainT P t = true) (h : DataW.trod en P w base spare held fuel t cs = some (d, q)) : cs.map some = elemV d := by
 obtain ⟨v, rfl, hv⟩ := trod_one ht h
 cases d with
 | agg ds => simp [plainV] at hv
 | _ => simp [elemV, hv]
theorem elem_row {d : DataW Unit} {q : List MemPlace} {fs : Array Field} (hu : P.underlying t = some (.struct fs)) (hf : rowT P fs = true) (hc : P.cellsOf t = fs.size)
  (h : DataW.trod en P w base spare held fuel t cs = some (d, q)) : cs.map some = elemV d := by
 obtain ⟨xs, n, rfl, hx, hlen, hxs, hel⟩ := DataW.trod_struct hu h
 simp only [Prod.mk.injEq] at hx
 rw [hx.1]
 show cs.map some = (xs.map _).map plainV
 refine List.ext_getElem? (fun i => ?_)
 by_cases hi : i < fs.size
 ·obtain ⟨f, hfi⟩ : ∃ f, fs[i]? = some f := ⟨fs[i], by simp [hi]⟩
  have h1 := List.all_eq_true.mp hf i (by simp [hi])
  rw [hfi] at h1
  simp only [Bool.and_eq_true, beq_iff_eq] at h1
  have h2 := hel i f hfi
  have hc1 : P.cellsOf f.type = 1 := by
   have := h1.1
   unfold plainT at this
   simp only [Bool.and_eq_true, beq_iff_eq] at this
   exact this.2
  rw [hc1, h1.2] at h2
  obtain ⟨x, hxi⟩ : ∃ x, xs[i]? = some x := ⟨xs[i]'(by omega), by simp [hxs, hi]⟩
  rw [hxi] at h2
  obtain ⟨v, hv1, hv2⟩ := trod_one (d := x.1) (q := x.2) h1.1 h2
  have h3 : cs[i]? = some v := by
   have := congrArg (fun l => l[0]?) hv1
   simpa using this
  simp [h3, hxi, hv2]
 ·have a1 : cs.length ≤ i := by omega
  have a2 : xs.length ≤ i := by omega
  simp [a1, a2]
theorem chunks {α : Type} (m : Nat) : ∀ (n : Nat) (cs : List α), cs.length = n * m → cs = (List.range n).flatMap fun i => (cs.drop (i * m)).take m
 | 0, cs, h => by
  simp at h
  simp [h]
 | n + 1, cs, h => by
  have ih := chunks m n (cs.drop m) (by rw [List.length_drop, h, Nat.succ_mul]; omega)
  rw [List.range_succ_eq_map, List.flatMap_cons, List.flatMap_map]
  have hi : ∀ i, (cs.drop ((i + 1) * m)).take m = ((cs.drop m).drop (i * m)).take m := by
   intro i
   rw [List.drop_drop]
   congr 2
   rw [Nat.succ_mul]
   omega
  simp only [Nat.zero_mul, List.drop_zero, Nat.succ_eq_add_one, hi]
  rw [← ih, List.take_append_drop]
theorem flatMap_same {α β : Type} {f g : α → List β} : ∀ l : List α, (∀ x ∈ l, f x = g x) → l.flatMap f = l.flatMap g
 | [], _ => rfl
 | x :: l, h => by
  rw [List.flatMap_cons, List.flatMap_cons, h x (by simp), flatMap_same l (fun y hy => h y (by simp [hy]))]
theorem table {rows : List (DataW Unit)} {q : List MemPlace} {n m : Nat} (hu : P.underlying t = some (.array n e)) (hct : P.cellsOf t = n * m) (hce : P.cellsOf e = m)
  (he : ∀ (fuel : Nat) (cs : List Value) (d : DataW Unit) (q : List MemPlace), DataW.trod en P w base spare held fuel e cs = some (d, q) → cs.map some = elemV d)
  {d : DataW Unit} (hd : d = .agg rows) (h : DataW.trod en P w base spare held fuel t cs = some (d, q)) {vals : List Value} (hv : (List.range n).flatMap (fun i => elemV (rows.getD i (.lit .nil))) = vals.map some) : cs = vals := by
 subst hd
 obtain ⟨xs, k, rfl, hx, hlen, hxs, hel⟩ := DataW.trod_array hu h
 simp only [Prod.mk.injEq, DataW.agg.injEq] at hx
 have h1 := chunks m n cs (by rw [hlen, hct])
 have h2 : cs.map some = vals.map some := by
  rw [← hv, h1, List.map_flatMap]
  refine flatMap_same _ ?_
  intro i hi
  have hi' : i < n := by simpa using hi
  have h3 := hel i hi'
  rw [hce] at h3
  obtain ⟨x, hxi⟩ : ∃ x, xs[i]? = some x := ⟨xs[i]'(by omega), by simp [hxs, hi']⟩
  rw [hxi] at h3
  rw [he _ _ x.1 x.2 h3, hx.1]
  simp [hxi]
 exact (List.map_inj_right (fun _ _ h => Option.some.inj h)).mp h2
end
theorem gNames : Tryd.prog.globalNamed "marginalia/utf.names" = some 3 := by kernel_rfl
theorem gSigns : Tryd.prog.globalNamed "marginalia/token.signs" = some 0 := by kernel_rfl
theorem gFirst : Tryd.prog.globalNamed "unicode/utf8.first" = some 1 := by kernel_rfl
theorem gAcc : Tryd.prog.globalNamed "unicode/utf8.acceptRanges" = some 2 := by kernel_rfl
theorem tNames : (Tryd.prog.globals[3]?).map (·.type) = some 116 := by kernel_rfl
theorem tSigns : (Tryd.prog.globals[0]?).map (·.type) = some 65 := by kernel_rfl
theorem tFirst : (Tryd.prog.globals[1]?).map (·.type) = some 108 := by kernel_rfl
theorem tAcc : (Tryd.prog.globals[2]?).map (·.type) = some 112 := by kernel_rfl
theorem names_cells {W : World} {fuel : Nat} {cs : List Value} {q : List MemPlace} (h : DataW.trod en Tryd.prog W 0 (fun _ => true) false fuel 116 cs = some (Rows.laid_marginalia_utf_names, q)) : cs = utf_namesC.toList :=
 table (m := 2) Tryd.underlying116 (by kernel_rfl) (by kernel_rfl) (fun _ _ _ _ h => elem_row Tryd.underlying115 (by kernel_rfl) (by kernel_rfl) h) rfl h (by kernel_rfl)
theorem signs_cells {W : World} {fuel : Nat} {cs : List Value} {q : List MemPlace} (h : DataW.trod en Tryd.prog W 0 (fun _ => true) false fuel 65 cs = some (Rows.laid_marginalia_token_signs, q)) : cs = token_signsC.toList :=
 table (m := 3) Tryd.underlying65 (by kernel_rfl) (by kernel_rfl) (fun _ _ _ _ h => elem_row Tryd.underlying64 (by kernel_rfl) (by kernel_rfl) h) rfl h (by kernel_rfl)
theorem first_cells {W : World} {fuel : Nat} {cs : List Value} {q : List MemPlace} (h : DataW.trod en Tryd.prog W 0 (fun _ => true) false fuel 108 cs = some (Rows.laid_unicode_utf8_first, q)) : cs = (List.range 256).map fun c => Value.int .u8 (Lib.firstT c) :=
 table (m := 1) Tryd.underlying108 (by kernel_rfl) (by kernel_rfl) (fun _ _ _ _ h => elem_one (by kernel_rfl) h) rfl h (by kernel_rfl)
theorem acc_cells {W : World} {fuel : Nat} {cs : List Value} {q : List MemPlace} (h : DataW.trod en Tryd.prog W 0 (fun _ => true) false fuel 112 cs = some (Rows.laid_unicode_utf8_acceptRanges, q)) : cs = (List.range 16).flatMap fun i => [Value.int .u8 (Lib.accLo i), Value.int .u8 (Lib.accHi i)] :=
 table (m := 2) Tryd.underlying112 (by kernel_rfl) (by kernel_rfl) (fun _ _ _ _ h => elem_row Tryd.underlying111 (by kernel_rfl) (by kernel_rfl) h) rfl h (by kernel_rfl)
theorem var_block {P : Program} {w : World} {n : String} {g : Nat} {cs : Array Value} (hg : P.globalNamed n = some g) (h : World.var? P w n = some cs) : ∃ t fr, w.heap[g]? = some (.cells cs t fr) := by
 unfold World.var? at h
 rw [hg] at h
 simp only [Option.bind_some] at h
 split at h
 ·next c e f he => cases h; exact ⟨_, _, he⟩
 ·cases h
theorem of_laid {W : World} (h : laidMetH Tryd.prog Rows.tokenWordsRow.laid W) : LD W := by
 rw [MakeChecks.laidMetH_plain _ _ _ (by kernel_rfl)] at h
 obtain ⟨ps, ⟨_, _, _, _, _, _, _, _, _, _, ⟨_, _, _, _, _, _, _, _, _, _, ⟨_, _, _, _, _, _, _, _, _, _, ⟨ga, ta, ca, fa, pa, qa, hga, hta, hva, hda, ⟨_, _, _, _, _, _, _, _, _, _, ⟨_, _, _, _, _, _, _, _, _, _, ⟨gn, tn, cn, fn, pn, qn, hgn, htn, hvn, hdn, ⟨gs, ts, cs, fs, p_, qs, hgs, hts, hvs, hds, ⟨gf, tf, cf, ff, pf, qf, hgf, htf, hvf, hdf, _, _⟩, _⟩, _⟩, _⟩, _⟩, _⟩, _⟩, _⟩, _⟩, _, _⟩ := h
 obtain rfl := Option.some.inj (gAcc.symm.trans hga)
 obtain rfl := Option.some.inj (tAcc.symm.trans hta)
 obtain rfl := Option.some.inj (gNames.symm.trans hgn)
 obtain rfl := Option.some.inj (tNames.symm.trans htn)
 obtain rfl := Option.some.inj (gSigns.symm.trans hgs)
 obtain rfl := Option.some.inj (tSigns.symm.trans hts)
 obtain rfl := Option.some.inj (gFirst.symm.trans hgf)
 obtain rfl := Option.some.inj (tFirst.symm.trans htf)
 have ea := acc_cells hda
 have en_ := names_cells hdn
 have es := signs_cells hds
 have ef := first_cells hdf
 obtain ⟨_, _, ba⟩ := var_block gAcc hva
 obtain ⟨t1, f1, bn⟩ := var_block gNames hvn
 obtain ⟨t2, f2, bs⟩ := var_block gSigns hvs
 obtain ⟨_, _, bf⟩ := var_block gFirst hvf
 refine ⟨⟨fun c hc => ?_, fun i hi => ?_⟩, lt_of_block bf, lt_of_block ba, ⟨t1, f1, ?_⟩, ⟨t2, f2, ?_⟩⟩
 ·have h1 := World.var?_cell hgf hvf c
  rw [← Array.getElem?_toList, ef] at h1
  rw [h1]
  simp [hc]
 ·have h1 := World.var?_cell hga hva (2 * i)
  have h2 := World.var?_cell hga hva (2 * i + 1)
  rw [← Array.getElem?_toList, ea] at h1 h2
  rw [h1, h2]
  have hk : i = 0 ∨ i = 1 ∨ i = 2 ∨ i = 3 ∨ i = 4 ∨ i = 5 ∨ i = 6 ∨ i = 7 ∨ i = 8 ∨ i = 9 ∨ i = 10 ∨ i = 11 ∨ i = 12 ∨ i = 13 ∨ i = 14 ∨ i = 15 := by omega
  rcases hk with rfl | rfl | rfl | rfl | rfl | rfl | rfl | rfl | rfl | rfl | rfl | rfl | rfl | rfl | rfl | rfl <;> exact ⟨rfl, rfl⟩
 ·rw [bn, show cn = utf_namesC from Array.toList_inj.mp en_]
 ·rw [bs, show cs = token_signsC from Array.toList_inj.mp es]
end Go.Proofs.YtefefpkgiecikaaDoor.R
namespace Go.Proofs.YtefefpkgiecikaaDoor.Pure
open Go Go.RowKit Go.Proofs.YtefefpkgiecikaaDoor.P Go.Proofs.YtefefpkgiecikaaDoorW.PrintWords Go.Proofs.YtefefpkgiecikaaDoorW.PrintLast Go.Proofs.YtefefpkgiecikaaDoorW.PrintMore
def pk (l : List Int) (p : Int) : Int := if p < (l.length : Int) then l.getD p.toNat 0 else -1
theorem w64 {x : Int} (h0 : 0 ≤ x) (h1 : x < 9223372036854775808) : wrap64 x = x := by
 unfold wrap64
 omega
theorem left_eq (l : List Int) (at_ n : Int) (h0 : 0 ≤ at_) (hn : 0 ≤ n) (hb : at_ + n < 9223372036854775808) : token_scanner_left.f l at_ n = some (decide (at_ + n ≤ (l.length : Int)), at_) := by
 unfold token_scanner_left.f
 rw [w64 (by omega) hb]
theorem peek_eq (l : List Int) (at_ n : Int) (h0 : 0 ≤ at_) (hn : 0 ≤ n) (hb : at_ + n + 1 < 9223372036854775808) : token_scanner_peek.f l at_ n = some (pk l (at_ + n), at_) := by
 unfold token_scanner_peek.f
 rw [w64 (x := n + 1) (by omega) (by omega), left_eq l at_ (n + 1) h0 (by omega) (by omega)]
 simp only [Option.bind_some]
 rw [w64 (x := at_ + n) (by omega) (by omega)]
 unfold pk rd
 by_cases h : at_ + n < (l.length : Int)
 ·rw [if_pos (by simpa using (by omega : at_ + (n + 1) ≤ (l.length : Int))), if_pos (by omega), if_pos h, if_pos h]
 ·rw [if_neg (by simpa using (by omega : ¬ at_ + (n + 1) ≤ (l.length : Int))), if_neg h]
def hereP (l : List Int) (at_ : Int) (s : ByteArray) : Nat → Nat → Bool
 | 0, _ => true
 | m + 1, i => if pk l (at_ + i) = (bt s i) then hereP l at_ s m (i + 1) else false
theorem here_l0 (l : List Int) (at_ : Int) (s : ByteArray) (h0 : 0 ≤ at_) (hs : s.size < 1000) (hb : at_ + 2000 < 9223372036854775808) (hbt : ∀ i : Nat, i < s.size → 0 ≤ bt s i ∧ bt s i < 256) : ∀ (m i k : Nat), m + i = s.size → m < k →
  token_scanner_here.l0 k s (s.size : Int) (i : Int) l at_ = some (hereP l at_ s m i, at_)
 | 0, i, k + 1, h, hk => by
  simp only [token_scanner_here.l0]
  rw [if_neg (by omega)]
  rfl
 | m + 1, i, k + 1, h, hk => by
  simp only [token_scanner_here.l0]
  rw [if_pos (by omega), peek_eq l at_ i h0 (by omega) (by omega)]
  simp only [Option.bind_some]
  rw [if_pos (by omega), if_pos (by omega), w64 (hbt i (by omega)).1 (by have := (hbt i (by omega)).2; omega), w64 (x := (i : Int) + 1) (by omega) (by omega)]
  unfold hereP
  by_cases hc : pk l (at_ + i) = bt s i
  ·rw [if_pos hc, if_pos hc]
   have := here_l0 l at_ s h0 hs hb hbt m (i + 1) k (by omega) (by omega)
   simpa using this
  ·rw [if_neg hc, if_neg hc]
 | _, _, 0, _, hk => by omega
theorem here_f (l : List Int) (at_ : Int) (s : ByteArray) (h0 : 0 ≤ at_) (hs : s.size < 1000) (hb : at_ + 2000 < 9223372036854775808) (hbt : ∀ i : Nat, i < s.size → 0 ≤ bt s i ∧ bt s i < 256) (k : Nat) (hk : s.size < k) :
  token_scanner_here.f k l at_ s = some (hereP l at_ s s.size 0, at_) := here_l0 l at_ s h0 hs hb hbt s.size 0 k (by omega) hk
theorem signs_small : ∀ j : Nat, j < 12 → (token_signs_0 j).size < 4 ∧ ∀ i : Nat, i < (token_signs_0 j).size → 0 ≤ bt (token_signs_0 j) i ∧ bt (token_signs_0 j) i < 256 := by
 intro j hj
 have h : j = 0 ∨ j = 1 ∨ j = 2 ∨ j = 3 ∨ j = 4 ∨ j = 5 ∨ j = 6 ∨ j = 7 ∨ j = 8 ∨ j = 9 ∨ j = 10 ∨ j = 11 := by omega
 have small : ∀ (s : ByteArray), s.size < 4 → (bt s 0 < 256 ∧ 0 ≤ bt s 0) → (bt s 1 < 256 ∧ 0 ≤ bt s 1) → (bt s 2 < 256 ∧ 0 ≤ bt s 2) → s.size < 4 ∧ ∀ i : Nat, i < s.size → 0 ≤ bt s i ∧ bt s i < 256 := by
  intro s h1 a b c
  refine ⟨h1, fun i hi => ?_⟩
  have : i = 0 ∨ i = 1 ∨ i = 2 := by omega
  rcases this with rfl | rfl | rfl
  ·exact ⟨a.2, a.1⟩
  ·exact ⟨b.2, b.1⟩
  ·exact ⟨c.2, c.1⟩
 rcases h with rfl | rfl | rfl | rfl | rfl | rfl | rfl | rfl | rfl | rfl | rfl | rfl <;> exact small _ (by decide) (by decide) (by decide) (by decide)
def signP (l : List Int) (at_ : Int) (j : Nat) : Bool := hereP l at_ (token_signs_0 j) (token_signs_0 j).size 0
theorem next_sign (l : List Int) (at_ : Int) (h0 : 0 ≤ at_) (hb : at_ + 2000 < 9223372036854775808) (j : Nat) (hj : j < 12) (hyes : signP l at_ j = true) : ∀ (m x k : Nat), x + m = j → (∀ i, x ≤ i → i < j → signP l at_ i = false) → m + 5 < k →
  token_scanner_next.l0 k at_ (x : Int) l at_ = some (token_signs_1 j, token_signs_2 j, 0, (⟨#[]⟩ : ByteArray), false, ([] : List Int), ([] : List (S33)), 0, at_, at_ + ((token_signs_0 j).size : Int))
 | 0, x, k + 1, h, hno, hk => by
  obtain rfl : x = j := by omega
  have hs := signs_small x hj
  simp only [token_scanner_next.l0]
  rw [if_pos (by omega), if_pos (by omega), here_f l at_ _ h0 (by omega) hb hs.2 k (by omega)]
  simp only [Option.bind_some]
  rw [if_pos (by exact hyes), w64 (by omega) (by omega)]
 | m + 1, x, k + 1, h, hno, hk => by
  have hs := signs_small x (by omega)
  simp only [token_scanner_next.l0]
  rw [if_pos (by omega), if_pos (by omega), here_f l at_ _ h0 (by omega) hb hs.2 k (by omega)]
  simp only [Option.bind_some]
  rw [if_neg (by have := hno x (Nat.le_refl _) (by omega); unfold signP at this; simp [this]), w64 (by omega) (by omega)]
  have := next_sign l at_ h0 hb j hj hyes m (x + 1) k (by omega) (fun i hi => hno i (by omega)) (by omega)
  simpa using this
 | _, _, 0, _, _, hk => by omega
theorem lift {α : Type} {f : Nat → Option α} (hm : ∀ k, LeO (f k) (f (k + 1))) {k0 : Nat} {r : α} (h : f k0 = some r) : ∀ {k : Nat}, k0 ≤ k → f k = some r
 | 0, hk => by
  obtain rfl : k0 = 0 := by omega
  exact h
 | k + 1, hk => by
  by_cases he : k0 = k + 1
  ·subst he; exact h
  ·exact hm k r (lift hm h (by omega))
theorem while_l0 (l : List Int) (x5 : Int) (h5 : 0 ≤ x5) (bs : List Int) (q : Int) (fin : Int) (kE : Nat) (hE : ∀ k, kE ≤ k → utf_Encode.f k ((l.take fin.toNat).drop x5.toNat) = some (bs, q)) (hlen : (l.length : Int) < 9223372036854770000) (hfl : fin < l.length)
  (hend : utf_Ends.f (pk l fin) = some true) (h5f : x5 ≤ fin) : ∀ (m : Nat) (p : Int) (k : Nat), 0 ≤ p → p + m = fin → (∀ i : Nat, i < m → utf_Ends.f (pk l (p + i)) = some false) → m + kE < k →
  token_scanner_while.l0 k x5 l p = some (strOfNums bs, fin)
 | 0, p, k + 1, hp, hpm, hno, hk => by
  obtain rfl : p = fin := by omega
  simp only [token_scanner_while.l0]
  rw [left_eq l p 1 hp (by omega) (by omega)]
  simp only [Option.bind_some]
  rw [if_pos (by simpa using (by omega : p + 1 ≤ (l.length : Int))), peek_eq l p 0 hp (by omega) (by omega)]
  simp only [Option.bind_some, Int.add_zero]
  rw [hend]
  simp only [Option.bind_some, if_true]
  rw [if_pos h5, if_pos h5f, if_pos (by omega), hE k (by omega)]
  rfl
 | m + 1, p, k + 1, hp, hpm, hno, hk => by
  simp only [token_scanner_while.l0]
  rw [left_eq l p 1 hp (by omega) (by omega)]
  simp only [Option.bind_some]
  rw [if_pos (by simpa using (by omega : p + 1 ≤ (l.length : Int))), peek_eq l p 0 hp (by omega) (by omega)]
  have h1 := hno 0 (by omega)
  simp only [Option.bind_some, Int.add_zero, Int.natCast_zero] at h1 ⊢
  rw [h1]
  simp only [Option.bind_some]
  rw [if_neg (by decide), w64 (by omega) (by omega)]
  refine while_l0 l x5 h5 bs q fin kE hE hlen hfl hend h5f m (p + 1) k (by omega) (by omega) (fun i hi => ?_) (by omega)
  have := hno (i + 1) (by omega)
  rw [show p + 1 + (i : Int) = p + ((i + 1 : Nat) : Int) by omega]
  exact this
 | _, _, 0, _, _, _, hk => by omega
theorem next_none (l : List Int) (at_ : Int) (h0 : 0 ≤ at_) (hb : at_ + 2000 < 9223372036854775808) (hno : ∀ i, i < 12 → signP l at_ i = false) (h46 : pk l at_ ≠ 46) : ∀ (m x k K : Nat), x + m = 12 → K = k + m + 7 →
  token_scanner_next.l0 K at_ (x : Int) l at_ = token_scanner_next.j1 (k + 6) at_ false l at_
 | 0, x, k, K + 1, h, hK => by
  obtain rfl : K = k + 6 := by omega
  simp only [token_scanner_next.l0]
  rw [if_neg (by omega), peek_eq l at_ 0 h0 (by omega) (by omega)]
  simp only [Option.bind_some, Int.add_zero]
  rw [if_neg h46]
 | m + 1, x, k, K + 1, h, hK => by
  have hs := signs_small x (by omega)
  simp only [token_scanner_next.l0]
  rw [if_pos (by omega), if_pos (by omega), here_f l at_ _ h0 (by omega) hb hs.2 K (by omega)]
  simp only [Option.bind_some]
  rw [if_neg (by have := hno x (by omega); unfold signP at this; simp [this]), w64 (by omega) (by omega)]
  have := next_none l at_ h0 hb hno h46 m (x + 1) k K (by omega) (by omega)
  simpa using this
 | _, _, _, 0, _, hK => by omega
def sg (s : ByteArray) (c0 c1 c2 : Int) : Bool := match s.size with
 | 0 => true
 | 1 => decide (c0 = bt s 0)
 | 2 => (decide (c0 = bt s 0)) && (decide (c1 = bt s 1))
 | _ => ((decide (c0 = bt s 0)) && (decide (c1 = bt s 1))) && (decide (c2 = bt s 2))
theorem sg_eq (l : List Int) (at_ : Int) (s : ByteArray) (h : s.size = 1 ∨ s.size = 2 ∨ s.size = 3) : hereP l at_ s s.size 0 = sg s (pk l at_) (pk l (at_ + 1)) (pk l (at_ + 2)) := by
 unfold sg
 rcases h with h | h | h <;> rw [h] <;> simp only [hereP, Int.natCast_zero, Int.add_zero] <;> split <;> simp_all
theorem signP_eq (l : List Int) (at_ : Int) (j : Nat) (hj : j < 12) : signP l at_ j = sg (token_signs_0 j) (pk l at_) (pk l (at_ + 1)) (pk l (at_ + 2)) := by
 have h : j = 0 ∨ j = 1 ∨ j = 2 ∨ j = 3 ∨ j = 4 ∨ j = 5 ∨ j = 6 ∨ j = 7 ∨ j = 8 ∨ j = 9 ∨ j = 10 ∨ j = 11 := by omega
 exact sg_eq l at_ _ (by rcases h with rfl | rfl | rfl | rfl | rfl | rfl | rfl | rfl | rfl | rfl | rfl | rfl <;> decide)
theorem next_by (l : List Int) (at_ : Int) (h0 : 0 ≤ at_) (hb : at_ + 2000 < 9223372036854775808) (j : Nat) (hj : j < 12) (c0 c1 : Int) (hc0 : pk l at_ = c0) (hc1 : pk l (at_ + 1) = c1)
  (hyes : ∀ c2, pk l (at_ + 2) = c2 → sg (token_signs_0 j) c0 c1 c2 = true) (hno : ∀ c2, pk l (at_ + 2) = c2 → ∀ i, i < j → sg (token_signs_0 i) c0 c1 c2 = false) (k : Nat) (hk : 20 < k) :
  token_scanner_next.f k l at_ = some (token_signs_1 j, token_signs_2 j, 0, (⟨#[]⟩ : ByteArray), false, ([] : List Int), ([] : List (S33)), 0, at_, at_ + ((token_signs_0 j).size : Int)) := by
 unfold token_scanner_next.f
 have := next_sign l at_ h0 hb j hj (by rw [signP_eq l at_ j hj, hc0, hc1]; exact hyes _ rfl) j 0 k (by omega) (fun i _ hi => by rw [signP_eq l at_ i (by omega), hc0, hc1]; exact hno _ rfl i hi) (by omega)
 simpa using this
theorem t_open (l : List Int) (at_ : Int) (h0 : 0 ≤ at_) (hb : at_ + 2000 < 9223372036854775808) (a0 : pk l at_ = 40) (a1 : pk l (at_ + 1) = 32) (k : Nat) (hk : 20 < k) :
  ∃ t, token_scanner_next.f k l at_ = some (1, t, 0, (⟨#[]⟩ : ByteArray), false, ([] : List Int), ([] : List (S33)), 0, at_, at_ + 1) :=
 ⟨_, next_by l at_ h0 hb 7 (by decide) 40 32 a0 a1 (fun _ _ => rfl) (fun c2 e2 i hi => by
  have h : i = 0 ∨ i = 1 ∨ i = 2 ∨ i = 3 ∨ i = 4 ∨ i = 5 ∨ i = 6 := by omega
  rcases h with rfl | rfl | rfl | rfl | rfl | rfl | rfl <;> rfl) k hk⟩
theorem t_close (l : List Int) (at_ : Int) (h0 : 0 ≤ at_) (hb : at_ + 2000 < 9223372036854775808) (a0 : pk l at_ = 41) (a1 : pk l (at_ + 1) = 32) (k : Nat) (hk : 20 < k) :
  ∃ t, token_scanner_next.f k l at_ = some (2, t, 0, (⟨#[]⟩ : ByteArray), false, ([] : List Int), ([] : List (S33)), 0, at_, at_ + 1) :=
 ⟨_, next_by l at_ h0 hb 8 (by decide) 41 32 a0 a1 (fun _ _ => rfl) (fun c2 e2 i hi => by
  have h : i = 0 ∨ i = 1 ∨ i = 2 ∨ i = 3 ∨ i = 4 ∨ i = 5 ∨ i = 6 ∨ i = 7 := by omega
  rcases h with rfl | rfl | rfl | rfl | rfl | rfl | rfl | rfl <;> rfl) k hk⟩
theorem t_vec (l : List Int) (at_ : Int) (h0 : 0 ≤ at_) (hb : at_ + 2000 < 9223372036854775808) (a0 : pk l at_ = 35) (a1 : pk l (at_ + 1) = 40) (a2 : pk l (at_ + 2) = 32) (k : Nat) (hk : 20 < k) :
  ∃ t, token_scanner_next.f k l at_ = some (3, t, 0, (⟨#[]⟩ : ByteArray), false, ([] : List Int), ([] : List (S33)), 0, at_, at_ + 2) :=
 ⟨_, next_by l at_ h0 hb 1 (by decide) 35 40 a0 a1 (fun c2 e2 => by rw [a2] at e2; subst e2; rfl) (fun c2 e2 i hi => by
  rw [a2] at e2; subst e2; obtain rfl : i = 0 := by omega
  rfl) k hk⟩
theorem t_skip (l : List Int) (at_ : Int) (h0 : 0 ≤ at_) (hb : at_ + 2000 < 9223372036854775808) (a0 : pk l at_ = 35) (a1 : pk l (at_ + 1) = 59) (a2 : pk l (at_ + 2) = 32) (k : Nat) (hk : 20 < k) :
  ∃ t, token_scanner_next.f k l at_ = some (5, t, 0, (⟨#[]⟩ : ByteArray), false, ([] : List Int), ([] : List (S33)), 0, at_, at_ + 2) :=
 ⟨_, next_by l at_ h0 hb 2 (by decide) 35 59 a0 a1 (fun c2 e2 => by rw [a2] at e2; subst e2; rfl) (fun c2 e2 i hi => by
  rw [a2] at e2; subst e2; have h : i = 0 ∨ i = 1 := by omega
  rcases h with rfl | rfl <;> rfl) k hk⟩
theorem t_quote (l : List Int) (at_ : Int) (h0 : 0 ≤ at_) (hb : at_ + 2000 < 9223372036854775808) (a0 : pk l at_ = 39) (a1 : pk l (at_ + 1) = 32) (k : Nat) (hk : 20 < k) :
  ∃ t, token_scanner_next.f k l at_ = some (6, t, 0, (⟨#[]⟩ : ByteArray), false, ([] : List Int), ([] : List (S33)), 0, at_, at_ + 1) :=
 ⟨_, next_by l at_ h0 hb 9 (by decide) 39 32 a0 a1 (fun _ _ => rfl) (fun c2 e2 i hi => by
  have h : i = 0 ∨ i = 1 ∨ i = 2 ∨ i = 3 ∨ i = 4 ∨ i = 5 ∨ i = 6 ∨ i = 7 ∨ i = 8 := by omega
  rcases h with rfl | rfl | rfl | rfl | rfl | rfl | rfl | rfl | rfl <;> rfl) k hk⟩
theorem t_unq (l : List Int) (at_ : Int) (h0 : 0 ≤ at_) (hb : at_ + 2000 < 9223372036854775808) (a0 : pk l at_ = 44) (a1 : pk l (at_ + 1) = 32) (k : Nat) (hk : 20 < k) :
  ∃ t, token_scanner_next.f k l at_ = some (6, t, 0, (⟨#[]⟩ : ByteArray), false, ([] : List Int), ([] : List (S33)), 0, at_, at_ + 1) :=
 ⟨_, next_by l at_ h0 hb 11 (by decide) 44 32 a0 a1 (fun _ _ => rfl) (fun c2 e2 i hi => by
  have h : i = 0 ∨ i = 1 ∨ i = 2 ∨ i = 3 ∨ i = 4 ∨ i = 5 ∨ i = 6 ∨ i = 7 ∨ i = 8 ∨ i = 9 ∨ i = 10 := by omega
  rcases h with rfl | rfl | rfl | rfl | rfl | rfl | rfl | rfl | rfl | rfl | rfl <;> rfl) k hk⟩
theorem t_unqs (l : List Int) (at_ : Int) (h0 : 0 ≤ at_) (hb : at_ + 2000 < 9223372036854775808) (a0 : pk l at_ = 44) (a1 : pk l (at_ + 1) = 64) (a2 : pk l (at_ + 2) = 32) (k : Nat) (hk : 20 < k) :
  ∃ t, token_scanner_next.f k l at_ = some (6, t, 0, (⟨#[]⟩ : ByteArray), false, ([] : List Int), ([] : List (S33)), 0, at_, at_ + 2) :=
 ⟨_, next_by l at_ h0 hb 6 (by decide) 44 64 a0 a1 (fun c2 e2 => by rw [a2] at e2; subst e2; rfl) (fun c2 e2 i hi => by
  rw [a2] at e2; subst e2; have h : i = 0 ∨ i = 1 ∨ i = 2 ∨ i = 3 ∨ i = 4 ∨ i = 5 := by omega
  rcases h with rfl | rfl | rfl | rfl | rfl | rfl <;> rfl) k hk⟩
theorem t_syn (l : List Int) (at_ : Int) (h0 : 0 ≤ at_) (hb : at_ + 2000 < 9223372036854775808) (a0 : pk l at_ = 35) (a1 : pk l (at_ + 1) = 39) (a2 : pk l (at_ + 2) = 32) (k : Nat) (hk : 20 < k) :
  ∃ t, token_scanner_next.f k l at_ = some (6, t, 0, (⟨#[]⟩ : ByteArray), false, ([] : List Int), ([] : List (S33)), 0, at_, at_ + 2) :=
 ⟨_, next_by l at_ h0 hb 3 (by decide) 35 39 a0 a1 (fun c2 e2 => by rw [a2] at e2; subst e2; rfl) (fun c2 e2 i hi => by
  rw [a2] at e2; subst e2; have h : i = 0 ∨ i = 1 ∨ i = 2 := by omega
  rcases h with rfl | rfl | rfl <;> rfl) k hk⟩
theorem t_uns (l : List Int) (at_ : Int) (h0 : 0 ≤ at_) (hb : at_ + 2000 < 9223372036854775808) (a0 : pk l at_ = 35) (a1 : pk l (at_ + 1) = 44) (a2 : pk l (at_ + 2) = 32) (k : Nat) (hk : 20 < k) :
  ∃ t, token_scanner_next.f k l at_ = some (6, t, 0, (⟨#[]⟩ : ByteArray), false, ([] : List Int), ([] : List (S33)), 0, at_, at_ + 2) :=
 ⟨_, next_by l at_ h0 hb 5 (by decide) 35 44 a0 a1 (fun c2 e2 => by rw [a2] at e2; subst e2; rfl) (fun c2 e2 i hi => by
  rw [a2] at e2; subst e2; have h : i = 0 ∨ i = 1 ∨ i = 2 ∨ i = 3 ∨ i = 4 := by omega
  rcases h with rfl | rfl | rfl | rfl | rfl <;> rfl) k hk⟩
theorem t_unss (l : List Int) (at_ : Int) (h0 : 0 ≤ at_) (hb : at_ + 2000 < 9223372036854775808) (a0 : pk l at_ = 35) (a1 : pk l (at_ + 1) = 44) (a2 : pk l (at_ + 2) = 64) (a3 : pk l (at_ + 3) = 32) (k : Nat) (hk : 20 < k) :
  ∃ t, token_scanner_next.f k l at_ = some (6, t, 0, (⟨#[]⟩ : ByteArray), false, ([] : List Int), ([] : List (S33)), 0, at_, at_ + 3) :=
 ⟨_, next_by l at_ h0 hb 0 (by decide) 35 44 a0 a1 (fun c2 e2 => by rw [a2] at e2; subst e2; rfl) (fun _ _ i hi => absurd hi (Nat.not_lt_zero i)) k hk⟩
theorem here_1 (l : List Int) (at_ : Int) (h0 : 0 ≤ at_) (hb : at_ + 2000 < 9223372036854775808) (k : Nat) (hk : 5 < k) : token_scanner_here.f k l at_ (⟨#[34]⟩ : ByteArray) = some (sg (⟨#[34]⟩ : ByteArray) (pk l at_) (pk l (at_ + 1)) (pk l (at_ + 2)), at_) := by
 rw [here_f l at_ _ h0 (by decide) hb (fun i hi => by
  have : i = 0 := by have : i < 1 := hi; omega
  subst this; decide) k (by show 1 < k; omega), sg_eq l at_ _ (.inl rfl)]
theorem here_2 (l : List Int) (at_ : Int) (h0 : 0 ≤ at_) (hb : at_ + 2000 < 9223372036854775808) (k : Nat) (hk : 5 < k) : token_scanner_here.f k l at_ (⟨#[35, 92]⟩ : ByteArray) = some (sg (⟨#[35, 92]⟩ : ByteArray) (pk l at_) (pk l (at_ + 1)) (pk l (at_ + 2)), at_) := by
 rw [here_f l at_ _ h0 (by decide) hb (fun i hi => by
  have : i = 0 ∨ i = 1 := by have : i < 2 := hi; omega
  rcases this with rfl | rfl <;> decide) k (by show 2 < k; omega), sg_eq l at_ _ (.inr (.inl rfl))]
theorem datum_plain (l : List Int) (at_ : Int) (h0 : 0 ≤ at_) (hb : at_ + 2000 < 9223372036854775808) (c0 c1 : Int) (hc0 : pk l at_ = c0) (hc1 : pk l (at_ + 1) = c1) (h34 : c0 ≠ 34) (h92 : c0 = 35 → c1 ≠ 92)
  (n : Nat) (bs : List Int) (q : Int) (hE : utf_Encode.f 100 ((l.take (at_ + n).toNat).drop at_.toNat) = some (bs, q)) (hlen : (l.length : Int) < 9223372036854770000) (hfl : at_ + n < l.length)
  (hend : utf_Ends.f (pk l (at_ + n)) = some true) (hin : ∀ i : Nat, i < n → utf_Ends.f (pk l (at_ + i)) = some false)
  (r : Int × ByteArray × Bool × List Int × (List S33) × Int × Bool) (hA : token_Atom.f 100 (strOfNums bs) = some r) (k : Nat) (hk : 150 + n < k) :
  token_scanner_datum.f k l at_ = some (r.1, r.2.1, r.2.2.1, r.2.2.2.1, r.2.2.2.2.1, r.2.2.2.2.2.1, r.2.2.2.2.2.2, at_ + n) := by
 unfold token_scanner_datum.f
 rw [here_1 l at_ h0 hb k (by omega), hc0, hc1]
 simp only [Option.bind_some]
 rw [if_neg (by show ¬ (sg _ c0 c1 _ = true); unfold sg; show ¬ (decide (c0 = 34) = true); simpa using h34), here_2 l at_ h0 hb k (by omega), hc0, hc1]
 simp only [Option.bind_some]
 rw [if_neg (by show ¬ ((decide (c0 = 35) && decide (c1 = 92)) = true); simpa using h92)]
 unfold token_scanner_while.f
 rw [Int.add_zero, w64 h0 (by omega), while_l0 l at_ h0 bs q (at_ + n) 100 (fun k hk => lift (f := fun k => utf_Encode.f k _) (fun k => utf_Encode.mono _ k) hE hk) hlen hfl hend (by omega) n at_ k h0 rfl hin (by omega)]
 simp only [Option.bind_some]
 rw [lift (f := fun k => token_Atom.f k (strOfNums bs)) (fun k => token_Atom.mono _ k) hA (by omega : 100 ≤ k)]
 simp only [Option.bind_some]
theorem next_plain (l : List Int) (at_ : Int) (h0 : 0 ≤ at_) (hb : at_ + 2000 < 9223372036854775808) (c0 c1 : Int) (hc0 : pk l at_ = c0) (hc1 : pk l (at_ + 1) = c1) (h34 : c0 ≠ 34) (h92 : c0 = 35 → c1 ≠ 92) (h46 : c0 ≠ 46)
  (hno : ∀ c2, pk l (at_ + 2) = c2 → ∀ i : Nat, i < 12 → sg (token_signs_0 i) c0 c1 c2 = false)
  (n : Nat) (bs : List Int) (q : Int) (hE : utf_Encode.f 100 ((l.take (at_ + n).toNat).drop at_.toNat) = some (bs, q)) (hlen : (l.length : Int) < 9223372036854770000) (hfl : at_ + n < l.length)
  (hend : utf_Ends.f (pk l (at_ + n)) = some true) (hin : ∀ i : Nat, i < n → utf_Ends.f (pk l (at_ + i)) = some false)
  (r : Int × ByteArray × Bool × List Int × (List S33) × Int × Bool) (hA : token_Atom.f 100 (strOfNums bs) = some r) (hr : r.2.2.2.2.2.2 = true) (k : Nat) (hk : 200 + n < k) :
  token_scanner_next.f k l at_ = some (7, (⟨#[]⟩ : ByteArray), r.1, r.2.1, r.2.2.1, r.2.2.2.1, r.2.2.2.2.1, at_, at_, at_ + n) := by
 unfold token_scanner_next.f
 obtain ⟨K, rfl⟩ : ∃ K, k = K + 19 := ⟨k - 19, by omega⟩
 have := next_none l at_ h0 hb (fun i hi => by rw [signP_eq l at_ i hi, hc0, hc1]; exact hno _ rfl i hi) (by rw [hc0]; exact h46) 12 0 K (K + 19) (by omega) (by omega)
 rw [show (0 : Int) = ((0 : Nat) : Int) from rfl, this, show K + 6 = (K + 5) + 1 from rfl]
 simp only [token_scanner_next.j1]
 rw [if_neg (by decide), datum_plain l at_ h0 hb c0 c1 hc0 hc1 h34 h92 n bs q hE hlen hfl hend hin r hA (K + 5) (by omega)]
 simp only [Option.bind_some]
 rw [if_pos hr]
theorem answers_eq : marginalialaw03_answers.f 200 = some true := by kernel_rfl
theorem e_a : utf_Encode.f 100 [97] = some ([97], 0) := by kernel_rfl
theorem e_m5 : utf_Encode.f 100 [45, 53] = some ([45, 53], 0) := by kernel_rfl
theorem e_t : utf_Encode.f 100 [35, 116] = some ([35, 116], 0) := by kernel_rfl
theorem e_dots : utf_Encode.f 100 [46, 46, 46] = some ([46, 46, 46], 0) := by kernel_rfl
theorem e_plus : utf_Encode.f 100 [43] = some ([43], 0) := by kernel_rfl
theorem e_xy : utf_Encode.f 100 [120, 32, 121] = some ([120, 32, 121], 0) := by kernel_rfl
theorem of_map {α : Type} {f : α → Bool} : ∀ {o : Option α}, o.map f = some true → ∃ r, o = some r ∧ f r = true
 | some r, h => ⟨r, rfl, Option.some.inj h⟩
theorem a_a : ∃ r, token_Atom.f 100 (strOfNums [97]) = some r ∧ r.2.2.2.2.2.2 = true := of_map (by kernel_rfl)
theorem a_m5 : ∃ r, token_Atom.f 100 (strOfNums [45, 53]) = some r ∧ r.2.2.2.2.2.2 = true := of_map (by kernel_rfl)
theorem a_t : ∃ r, token_Atom.f 100 (strOfNums [35, 116]) = some r ∧ r.2.2.2.2.2.2 = true := of_map (by kernel_rfl)
theorem a_dots : ∃ r, token_Atom.f 100 (strOfNums [46, 46, 46]) = some r ∧ r.2.2.2.2.2.2 = true := of_map (by kernel_rfl)
theorem a_plus : ∃ r, token_Atom.f 100 (strOfNums [43]) = some r ∧ r.2.2.2.2.2.2 = true := of_map (by kernel_rfl)
theorem t_a (l : List Int) (at_ : Int) (h0 : 0 ≤ at_) (hb : at_ + 2000 < 9223372036854775808) (a0 : pk l at_ = 97) (a1 : pk l (at_ + 1) = 32) (hlen : (l.length : Int) < 9223372036854770000) (hfl : at_ + 1 < l.length) (hw : (l.take (at_ + ((1 : Nat) : Int)).toNat).drop at_.toNat = [97]) (k : Nat) (hk : 210 < k) :
  ∃ r1 r2 r3 r4 r5, token_scanner_next.f k l at_ = some (7, (⟨#[]⟩ : ByteArray), r1, r2, r3, r4, r5, at_, at_, at_ + 1) := by
 obtain ⟨r, hA, hr⟩ := a_a
 exact ⟨_, _, _, _, _, next_plain l at_ h0 hb 97 32 a0 a1 (by decide) (by decide) (by decide) (fun c2 e2 i hi => by
  have h : i = 0 ∨ i = 1 ∨ i = 2 ∨ i = 3 ∨ i = 4 ∨ i = 5 ∨ i = 6 ∨ i = 7 ∨ i = 8 ∨ i = 9 ∨ i = 10 ∨ i = 11 := by omega
  rcases h with rfl | rfl | rfl | rfl | rfl | rfl | rfl | rfl | rfl | rfl | rfl | rfl <;> rfl) 1 _ 0 (by rw [hw]; exact e_a) hlen (by omega) (by rw [show at_ + ((1 : Nat) : Int) = at_ + 1 by omega, a1]; rfl) (fun i hi => by
  obtain rfl : i = 0 := by omega
  rw [show at_ + ((0 : Nat) : Int) = at_ by omega, a0]; rfl) r hA hr k (by omega)⟩
theorem t_m5 (l : List Int) (at_ : Int) (h0 : 0 ≤ at_) (hb : at_ + 2000 < 9223372036854775808) (a0 : pk l at_ = 45) (a1 : pk l (at_ + 1) = 53) (a2 : pk l (at_ + 2) = 32) (hlen : (l.length : Int) < 9223372036854770000) (hfl : at_ + 2 < l.length) (hw : (l.take (at_ + ((2 : Nat) : Int)).toNat).drop at_.toNat = [45, 53]) (k : Nat) (hk : 210 < k) :
  ∃ r1 r2 r3 r4 r5, token_scanner_next.f k l at_ = some (7, (⟨#[]⟩ : ByteArray), r1, r2, r3, r4, r5, at_, at_, at_ + 2) := by
 obtain ⟨r, hA, hr⟩ := a_m5
 exact ⟨_, _, _, _, _, next_plain l at_ h0 hb 45 53 a0 a1 (by decide) (by decide) (by decide) (fun c2 e2 i hi => by
  rw [a2] at e2; subst e2; have h : i = 0 ∨ i = 1 ∨ i = 2 ∨ i = 3 ∨ i = 4 ∨ i = 5 ∨ i = 6 ∨ i = 7 ∨ i = 8 ∨ i = 9 ∨ i = 10 ∨ i = 11 := by omega
  rcases h with rfl | rfl | rfl | rfl | rfl | rfl | rfl | rfl | rfl | rfl | rfl | rfl <;> rfl) 2 _ 0 (by rw [hw]; exact e_m5) hlen (by omega) (by rw [show at_ + ((2 : Nat) : Int) = at_ + 2 by omega, a2]; rfl) (fun i hi => by
  have h : i = 0 ∨ i = 1 := by omega
  rcases h with rfl | rfl
  ·rw [show at_ + ((0 : Nat) : Int) = at_ by omega, a0]; rfl
  ·rw [show at_ + ((1 : Nat) : Int) = at_ + 1 by omega, a1]; rfl) r hA hr k (by omega)⟩
theorem t_t (l : List Int) (at_ : Int) (h0 : 0 ≤ at_) (hb : at_ + 2000 < 9223372036854775808) (a0 : pk l at_ = 35) (a1 : pk l (at_ + 1) = 116) (a2 : pk l (at_ + 2) = 32) (hlen : (l.length : Int) < 9223372036854770000) (hfl : at_ + 2 < l.length) (hw : (l.take (at_ + ((2 : Nat) : Int)).toNat).drop at_.toNat = [35, 116]) (k : Nat) (hk : 210 < k) :
  ∃ r1 r2 r3 r4 r5, token_scanner_next.f k l at_ = some (7, (⟨#[]⟩ : ByteArray), r1, r2, r3, r4, r5, at_, at_, at_ + 2) := by
 obtain ⟨r, hA, hr⟩ := a_t
 exact ⟨_, _, _, _, _, next_plain l at_ h0 hb 35 116 a0 a1 (by decide) (by decide) (by decide) (fun c2 e2 i hi => by
  rw [a2] at e2; subst e2; have h : i = 0 ∨ i = 1 ∨ i = 2 ∨ i = 3 ∨ i = 4 ∨ i = 5 ∨ i = 6 ∨ i = 7 ∨ i = 8 ∨ i = 9 ∨ i = 10 ∨ i = 11 := by omega
  rcases h with rfl | rfl | rfl | rfl | rfl | rfl | rfl | rfl | rfl | rfl | rfl | rfl <;> rfl) 2 _ 0 (by rw [hw]; exact e_t) hlen (by omega) (by rw [show at_ + ((2 : Nat) : Int) = at_ + 2 by omega, a2]; rfl) (fun i hi => by
  have h : i = 0 ∨ i = 1 := by omega
  rcases h with rfl | rfl
  ·rw [show at_ + ((0 : Nat) : Int) = at_ by omega, a0]; rfl
  ·rw [show at_ + ((1 : Nat) : Int) = at_ + 1 by omega, a1]; rfl) r hA hr k (by omega)⟩
theorem t_plus (l : List Int) (at_ : Int) (h0 : 0 ≤ at_) (hb : at_ + 2000 < 9223372036854775808) (a0 : pk l at_ = 43) (a1 : pk l (at_ + 1) = 32) (hlen : (l.length : Int) < 9223372036854770000) (hfl : at_ + 1 < l.length) (hw : (l.take (at_ + ((1 : Nat) : Int)).toNat).drop at_.toNat = [43]) (k : Nat) (hk : 210 < k) :
  ∃ r1 r2 r3 r4 r5, token_scanner_next.f k l at_ = some (7, (⟨#[]⟩ : ByteArray), r1, r2, r3, r4, r5, at_, at_, at_ + 1) := by
 obtain ⟨r, hA, hr⟩ := a_plus
 exact ⟨_, _, _, _, _, next_plain l at_ h0 hb 43 32 a0 a1 (by decide) (by decide) (by decide) (fun c2 e2 i hi => by
  have h : i = 0 ∨ i = 1 ∨ i = 2 ∨ i = 3 ∨ i = 4 ∨ i = 5 ∨ i = 6 ∨ i = 7 ∨ i = 8 ∨ i = 9 ∨ i = 10 ∨ i = 11 := by omega
  rcases h with rfl | rfl | rfl | rfl | rfl | rfl | rfl | rfl | rfl | rfl | rfl | rfl <;> rfl) 1 _ 0 (by rw [hw]; exact e_plus) hlen (by omega) (by rw [show at_ + ((1 : Nat) : Int) = at_ + 1 by omega, a1]; rfl) (fun i hi => by
  obtain rfl : i = 0 := by omega
  rw [show at_ + ((0 : Nat) : Int) = at_ by omega, a0]; rfl) r hA hr k (by omega)⟩
theorem n_a : utf_Named.f 100 (strOfNums [97]) = some (97, true) := by kernel_rfl
theorem t_char (l : List Int) (at_ : Int) (h0 : 0 ≤ at_) (hb : at_ + 2000 < 9223372036854775808) (a0 : pk l at_ = 35) (a1 : pk l (at_ + 1) = 92) (a2 : pk l (at_ + 2) = 97) (a3 : pk l (at_ + 3) = 32) (hlen : (l.length : Int) < 9223372036854770000) (hfl : at_ + 3 < l.length) (hw : (l.take (at_ + 3).toNat).drop (at_ + 2).toNat = [97]) (k : Nat) (hk : 210 < k) :
  ∃ r1 r2 r3 r4 r5, token_scanner_next.f k l at_ = some (7, (⟨#[]⟩ : ByteArray), r1, r2, r3, r4, r5, at_, at_, at_ + 3) := by
 unfold token_scanner_next.f
 obtain ⟨K, rfl⟩ : ∃ K, k = K + 19 := ⟨k - 19, by omega⟩
 have := next_none l at_ h0 hb (fun i hi => by
  rw [signP_eq l at_ i hi, a0, a1, a2]
  have h : i = 0 ∨ i = 1 ∨ i = 2 ∨ i = 3 ∨ i = 4 ∨ i = 5 ∨ i = 6 ∨ i = 7 ∨ i = 8 ∨ i = 9 ∨ i = 10 ∨ i = 11 := by omega
  rcases h with rfl | rfl | rfl | rfl | rfl | rfl | rfl | rfl | rfl | rfl | rfl | rfl <;> rfl) (by rw [a0]; decide) 12 0 K (K + 19) (by omega) (by omega)
 rw [show (0 : Int) = ((0 : Nat) : Int) from rfl, this, show K + 6 = (K + 5) + 1 from rfl]
 simp only [token_scanner_next.j1]
 rw [if_neg (by decide)]
 unfold token_scanner_datum.f
 rw [here_1 l at_ h0 hb _ (by omega), a0, a1, a2]
 simp only [Option.bind_some]
 rw [if_neg (by decide), here_2 l at_ h0 hb _ (by omega), a0, a1, a2]
 simp only [Option.bind_some]
 rw [if_pos (by rfl), w64 (by omega) (by omega)]
 unfold token_scanner_char.f
 rw [left_eq l (at_ + 2) 1 (by omega) (by omega) (by omega)]
 simp only [Option.bind_some]
 rw [if_pos (by simpa using (by omega : at_ + 2 + 1 ≤ (l.length : Int)))]
 unfold token_scanner_while.f
 rw [w64 (by omega) (by omega), show at_ + 2 + 1 = at_ + 3 by omega, while_l0 l (at_ + 2) (by omega) [97] 0 (at_ + 3) 100 (fun k hk => by rw [hw]; exact lift (f := fun k => utf_Encode.f k _) (fun k => utf_Encode.mono _ k) e_a hk) hlen hfl (by rw [a3]; rfl) (by omega) 0 (at_ + 3) _ (by omega) (by omega) (fun i hi => absurd hi (by omega)) (by omega)]
 simp only [Option.bind_some]
 rw [lift (f := fun k => utf_Named.f k _) (fun k => utf_Named.mono _ k) n_a (by omega : 100 ≤ K + 5)]
 simp only [Option.bind_some]
 rw [lift (f := fun k => utf_Encode.f k _) (fun k => utf_Encode.mono _ k) e_a (by omega : 100 ≤ K + 5)]
 simp only [Option.bind_some]
 exact ⟨_, _, _, _, _, rfl⟩
theorem next_none46 (l : List Int) (at_ : Int) (h0 : 0 ≤ at_) (hb : at_ + 2000 < 9223372036854775808) (hno : ∀ i, i < 12 → signP l at_ i = false) (a0 : pk l at_ = 46) (a1 : pk l (at_ + 1) = 46) (hl : at_ + 2 ≤ (l.length : Int)) : ∀ (m x k K : Nat), x + m = 12 → K = k + m + 7 →
  token_scanner_next.l0 K at_ (x : Int) l at_ = token_scanner_next.j1 (k + 6) at_ false l at_
 | 0, x, k, K + 1, h, hK => by
  obtain rfl : K = k + 6 := by omega
  simp only [token_scanner_next.l0]
  rw [if_neg (by omega), peek_eq l at_ 0 h0 (by omega) (by omega)]
  simp only [Option.bind_some, Int.add_zero]
  rw [if_pos a0, left_eq l at_ 2 h0 (by omega) (by omega)]
  simp only [Option.bind_some]
  rw [if_pos (by simpa using hl), peek_eq l at_ 1 h0 (by omega) (by omega), a1]
  simp only [Option.bind_some]
  rw [show utf_Ends.f 46 = some false by rfl]
  simp only [Option.bind_some]
 | m + 1, x, k, K + 1, h, hK => by
  have hs := signs_small x (by omega)
  simp only [token_scanner_next.l0]
  rw [if_pos (by omega), if_pos (by omega), here_f l at_ _ h0 (by omega) hb hs.2 K (by omega)]
  simp only [Option.bind_some]
  rw [if_neg (by have := hno x (by omega); unfold signP at this; simp [this]), w64 (by omega) (by omega)]
  have := next_none46 l at_ h0 hb hno a0 a1 hl m (x + 1) k K (by omega) (by omega)
  simpa using this
 | _, _, _, 0, _, hK => by omega
theorem t_dots (l : List Int) (at_ : Int) (h0 : 0 ≤ at_) (hb : at_ + 2000 < 9223372036854775808) (a0 : pk l at_ = 46) (a1 : pk l (at_ + 1) = 46) (a2 : pk l (at_ + 2) = 46) (a3 : pk l (at_ + 3) = 32) (hlen : (l.length : Int) < 9223372036854770000) (hfl : at_ + 3 < l.length) (hw : (l.take (at_ + ((3 : Nat) : Int)).toNat).drop at_.toNat = [46, 46, 46]) (k : Nat) (hk : 210 < k) :
  ∃ r1 r2 r3 r4 r5, token_scanner_next.f k l at_ = some (7, (⟨#[]⟩ : ByteArray), r1, r2, r3, r4, r5, at_, at_, at_ + 3) := by
 obtain ⟨r, hA, hr⟩ := a_dots
 unfold token_scanner_next.f
 obtain ⟨K, rfl⟩ : ∃ K, k = K + 19 := ⟨k - 19, by omega⟩
 have := next_none46 l at_ h0 hb (fun i hi => by
  rw [signP_eq l at_ i hi, a0, a1, a2]
  have h : i = 0 ∨ i = 1 ∨ i = 2 ∨ i = 3 ∨ i = 4 ∨ i = 5 ∨ i = 6 ∨ i = 7 ∨ i = 8 ∨ i = 9 ∨ i = 10 ∨ i = 11 := by omega
  rcases h with rfl | rfl | rfl | rfl | rfl | rfl | rfl | rfl | rfl | rfl | rfl | rfl <;> rfl) a0 a1 (by omega) 12 0 K (K + 19) (by omega) (by omega)
 rw [show (0 : Int) = ((0 : Nat) : Int) from rfl, this, show K + 6 = (K + 5) + 1 from rfl]
 simp only [token_scanner_next.j1]
 rw [if_neg (by decide), datum_plain l at_ h0 hb 46 46 a0 a1 (by decide) (by decide) 3 [46, 46, 46] 0 (by rw [hw]; exact e_dots) hlen (by omega) (by rw [show at_ + ((3 : Nat) : Int) = at_ + 3 by omega, a3]; rfl) (fun i hi => by
  have h : i = 0 ∨ i = 1 ∨ i = 2 := by omega
  rcases h with rfl | rfl | rfl
  ·rw [show at_ + ((0 : Nat) : Int) = at_ by omega, a0]; rfl
  ·rw [show at_ + ((1 : Nat) : Int) = at_ + 1 by omega, a1]; rfl
  ·rw [show at_ + ((2 : Nat) : Int) = at_ + 2 by omega, a2]; rfl) r hA (K + 5) (by omega)]
 simp only [Option.bind_some]
 rw [if_pos hr]
 exact ⟨_, _, _, _, _, rfl⟩
theorem str_step (l x4 : List Int) (p c : Int) (k : Nat) (h0 : 0 ≤ p) (hb : p + 2000 < 9223372036854775808) (hp : p < l.length) (hc : pk l p = c) (h34 : c ≠ 34) (h92 : c ≠ 92) (hx : x4.length < 17592186044416) :
  token_scanner_str.l0 (k + 1) x4 l p = token_scanner_str.l0 k (x4 ++ [c]) l (p + 1) := by
 rw [token_scanner_str.l0]
 rw [left_eq l p 1 h0 (by omega) (by omega)]
 simp only [Option.bind_some]
 rw [if_pos (by simpa using (by omega : p + 1 ≤ (l.length : Int))), peek_eq l p 0 h0 (by omega) (by omega)]
 simp only [Option.bind_some, Int.add_zero]
 rw [hc, if_neg h34, if_neg h92, if_pos hx, w64 (by omega) (by omega)]
theorem str_end (l x4 : List Int) (p : Int) (k : Nat) (h0 : 0 ≤ p) (hb : p + 2000 < 9223372036854775808) (hp : p < l.length) (hc : pk l p = 34) (bs : List Int) (q : Int) (hE : utf_Encode.f k x4 = some (bs, q)) :
  token_scanner_str.l0 (k + 1) x4 l p = some (strOfNums bs, decide ((x4.length : Int) ≤ 4096), p + 1) := by
 rw [token_scanner_str.l0]
 rw [left_eq l p 1 h0 (by omega) (by omega)]
 simp only [Option.bind_some]
 rw [if_pos (by simpa using (by omega : p + 1 ≤ (l.length : Int))), peek_eq l p 0 h0 (by omega) (by omega)]
 simp only [Option.bind_some, Int.add_zero]
 rw [hc, if_pos rfl, hE]
 simp only [Option.bind_some]
 rw [w64 (by omega) (by omega)]
theorem t_str (l : List Int) (at_ : Int) (h0 : 0 ≤ at_) (hb : at_ + 3000 < 9223372036854775808) (a0 : pk l at_ = 34) (a1 : pk l (at_ + 1) = 120) (a2 : pk l (at_ + 2) = 32) (a3 : pk l (at_ + 3) = 121) (a4 : pk l (at_ + 4) = 34) (hfl : at_ + 5 < l.length) (k : Nat) (hk : 210 < k) :
  ∃ r1 r2 r3 r4 r5, token_scanner_next.f k l at_ = some (7, (⟨#[]⟩ : ByteArray), r1, r2, r3, r4, r5, at_, at_, at_ + 5) := by
 unfold token_scanner_next.f
 obtain ⟨K, rfl⟩ : ∃ K, k = K + 19 := ⟨k - 19, by omega⟩
 have := next_none l at_ h0 (by omega) (fun i hi => by
  rw [signP_eq l at_ i hi, a0, a1, a2]
  have h : i = 0 ∨ i = 1 ∨ i = 2 ∨ i = 3 ∨ i = 4 ∨ i = 5 ∨ i = 6 ∨ i = 7 ∨ i = 8 ∨ i = 9 ∨ i = 10 ∨ i = 11 := by omega
  rcases h with rfl | rfl | rfl | rfl | rfl | rfl | rfl | rfl | rfl | rfl | rfl | rfl <;> rfl) (by rw [a0]; decide) 12 0 K (K + 19) (by omega) (by omega)
 rw [show (0 : Int) = ((0 : Nat) : Int) from rfl, this, show K + 6 = (K + 5) + 1 from rfl]
 simp only [token_scanner_next.j1]
 rw [if_neg (by decide)]
 unfold token_scanner_datum.f
 rw [here_1 l at_ h0 (by omega) _ (by omega), a0, a1, a2]
 simp only [Option.bind_some]
 rw [if_pos (by rfl), w64 (by omega) (by omega)]
 unfold token_scanner_str.f
 rw [show K + 5 = K + 4 + 1 from rfl, str_step l [] (at_ + 1) 120 _ (by omega) (by omega) (by omega) a1 (by decide) (by decide) (by decide), show K + 4 = K + 3 + 1 from rfl, show at_ + 1 + 1 = at_ + 2 by omega, str_step l _ (at_ + 2) 32 _ (by omega) (by omega) (by omega) a2 (by decide) (by decide) (by decide), show K + 3 = K + 2 + 1 from rfl, show at_ + 2 + 1 = at_ + 3 by omega, str_step l _ (at_ + 3) 121 _ (by omega) (by omega) (by omega) a3 (by decide) (by decide) (by decide), show K + 2 = K + 1 + 1 from rfl, show at_ + 3 + 1 = at_ + 4 by omega, show ([] ++ [120] ++ [32] ++ [121] : List Int) = [120, 32, 121] from rfl,
  str_end l _ (at_ + 4) _ (by omega) (by omega) (by omega) a4 [120, 32, 121] 0 (lift (f := fun k => utf_Encode.f k _) (fun k => utf_Encode.mono _ k) e_xy (by omega : 100 ≤ K + 1))]
 simp only [Option.bind_some]
 rw [if_pos (by rfl), show at_ + 4 + 1 = at_ + 5 by omega]
 exact ⟨_, _, _, _, _, rfl⟩
theorem blanks_stop (l : List Int) (p c : Int) (k : Nat) (h0 : 0 ≤ p) (hb : p + 2000 < 9223372036854775808) (hc : pk l p = c) (h : c = -1 ∨ (0 ≤ c ∧ utf_Blank.f c = some false ∧ c ≠ 59)) : token_scanner_blanks.f (k + 2) l p = some p := by
 unfold token_scanner_blanks.f
 rw [token_scanner_blanks.l0, peek_eq l p 0 h0 (by omega) (by omega)]
 simp only [Option.bind_some, Int.add_zero]
 rw [hc]
 rcases h with rfl | ⟨h1, h2, h3⟩
 ·rw [if_neg (by decide), token_scanner_blanks.j1, if_neg (by decide), if_neg (by decide)]
 ·rw [if_pos h1, h2]
  simp only [Option.bind_some]
  rw [token_scanner_blanks.j1, if_neg (by decide), if_neg h3]
theorem blanks_step (l : List Int) (p : Int) (k : Nat) (h0 : 0 ≤ p) (hb : p + 2000 < 9223372036854775808) (hc : pk l p = 32) : token_scanner_blanks.f (k + 2) l p = token_scanner_blanks.f k l (p + 1) := by
 unfold token_scanner_blanks.f
 rw [token_scanner_blanks.l0, peek_eq l p 0 h0 (by omega) (by omega)]
 simp only [Option.bind_some, Int.add_zero]
 rw [hc, if_pos (by decide), show utf_Blank.f 32 = some true by rfl]
 simp only [Option.bind_some]
 rw [token_scanner_blanks.j1, if_pos rfl, w64 (by omega) (by omega)]
theorem sc_all : (List.range 128).all (fun n => decide (token_Scan_1.f 20 (n : Int) = some false)) = true := by kernel_rfl
theorem sc_ascii (x : Int) (h0 : 0 ≤ x) (h1 : x < 128) (k : Nat) (hk : 20 ≤ k) : token_Scan_1.f k x = some false := by
 obtain ⟨n, rfl⟩ := Int.eq_ofNat_of_zero_le h0
 have h := List.all_eq_true.mp sc_all n (by simp; omega)
 exact lift (f := fun k => token_Scan_1.f k _) (fun k => token_Scan_1.mono _ k) (of_decide_eq_true h) hk
theorem idx_l0 (l : List Int) (hl : ∀ i : Nat, i < l.length → 0 ≤ rd l i ∧ rd l i < 128) (hlen : (l.length : Int) < 9223372036854770000) : ∀ (m i k : Nat), i + m = l.length → m + 25 < k →
  slices_IndexFunc_int_int_token_Scan_1.l0 k l (l.length : Int) (i : Int) = some (-1)
 | 0, i, k + 1, h, hk => by
  rw [slices_IndexFunc_int_int_token_Scan_1.l0, if_neg (by omega)]
 | m + 1, i, k + 1, h, hk => by
  rw [slices_IndexFunc_int_int_token_Scan_1.l0, if_pos (by omega), if_pos (by omega), if_pos (by omega), sc_ascii _ (hl i (by omega)).1 (hl i (by omega)).2 k (by omega)]
  simp only [Option.bind_some]
  rw [if_neg (by decide), w64 (by omega) (by omega)]
  have := idx_l0 l hl hlen m (i + 1) k (by omega) (by omega)
  simpa using this
 | _, _, 0, _, hk => by omega
theorem idx_none (l : List Int) (hl : ∀ i : Nat, i < l.length → 0 ≤ rd l i ∧ rd l i < 128) (hlen : (l.length : Int) < 9223372036854770000) (k : Nat) (hk : l.length + 25 < k) : slices_IndexFunc_int_int_token_Scan_1.f k l = some (-1) := by
 unfold slices_IndexFunc_int_int_token_Scan_1.f
 exact idx_l0 l hl hlen l.length 0 k (by omega) hk
end Go.Proofs.YtefefpkgiecikaaDoor.Pure
namespace Go.Proofs.YtefefpkgiecikaaDoor.Pure
open Go Go.RowKit Go.Proofs.YtefefpkgiecikaaDoor.P Go.Proofs.YtefefpkgiecikaaDoorW.PrintWords Go.Proofs.YtefefpkgiecikaaDoorW.PrintLast Go.Proofs.YtefefpkgiecikaaDoorW.PrintMore
theorem w64_id {x : Int} (h0 : 0 ≤ x) (h1 : x < 128) : wrap64 x = x := w64 h0 (by omega)
theorem sc2_all : (List.range 128).all (fun n => decide (marginaliaref02_Scalar.f (n : Int) = some true) && decide (marginaliaref02_Bytes.f (n : Int) = some [(n : Int)])) = true := by kernel_rfl
theorem one_ascii (l : List Int) (i : Nat) (hi : i < l.length) (hlen : (l.length : Int) < 9223372036854770000) (h0 : 0 ≤ rd l i) (h1 : rd l i < 128) (k : Nat) (hk : 20 < k) : marginaliaref02_one.f k l (i : Int) = some (rd l i, 1) := by
 obtain ⟨K, rfl⟩ : ∃ K, k = K + 10 := ⟨k - 10, by omega⟩
 unfold marginaliaref02_one.f
 rw [if_pos (by omega), if_pos (by omega), w64_id h0 h1, if_neg (by omega)]
 rw [marginaliaref02_one.j0, if_neg (by decide), if_neg (by omega), marginaliaref02_one.j1, if_neg (by decide), if_neg (by omega), marginaliaref02_one.j2, if_neg (by decide), if_neg (by omega), marginaliaref02_one.j3, w64 (by omega) (by omega), if_neg (by omega), marginaliaref02_one.l0, if_neg (by omega)]
 obtain ⟨n, hn⟩ := Int.eq_ofNat_of_zero_le h0
 have h := List.all_eq_true.mp sc2_all n (by simp; omega)
 simp only [Bool.and_eq_true, decide_eq_true_eq] at h
 rw [hn, h.1]
 simp only [Option.bind_some, if_true]
 rw [h.2]
 simp
theorem chars_l0 (l : List Int) (hl : ∀ i : Nat, i < l.length → 0 ≤ rd l i ∧ rd l i < 128) (hlen : l.length < 1000000) : ∀ (m i k : Nat), i + m = l.length → m + 30 < k → marginaliaref02_Chars.l0 k l (l.take i) (i : Int) = some (l, -1)
 | 0, i, k + 1, h, hk => by
  rw [marginaliaref02_Chars.l0, if_neg (by omega), List.take_of_length_le (by omega)]
 | m + 1, i, k + 1, h, hk => by
  rw [marginaliaref02_Chars.l0, if_pos (by omega), one_ascii l i (by omega) (by omega) (hl i (by omega)).1 (hl i (by omega)).2 k (by omega)]
  simp only [Option.bind_some]
  rw [if_neg (by decide), if_pos (by rw [List.length_take]; omega), w64 (by omega) (by omega)]
  have := chars_l0 l hl hlen m (i + 1) k (by omega) (by omega)
  rw [show (i : Int) + 1 = ((i + 1 : Nat) : Int) by omega, ← this, List.take_add_one]
  congr 2
  unfold rd
  simp [List.getD_eq_getElem?_getD, show i < l.length by omega]
 | _, _, 0, _, hk => by omega
theorem chars_ascii (s : ByteArray) (hs : s.size < 1000000) (hl : ∀ i : Nat, i < (bytesOf s).length → 0 ≤ rd (bytesOf s) i ∧ rd (bytesOf s) i < 128) (k : Nat) (hk : s.size + 40 < k) : marginalialaw03_chars.f k s = some (bytesOf s) := by
 unfold marginalialaw03_chars.f
 rw [if_pos (by omega)]
 unfold marginaliaref02_Chars.f
 have := chars_l0 (bytesOf s) hl (by rw [bytesOf_length]; exact hs) (bytesOf s).length 0 k (by omega) (by rw [bytesOf_length]; omega)
 rw [show ((0 : Nat) : Int) = 0 from rfl, List.take_zero] at this
 rw [this]
 rfl
end Go.Proofs.YtefefpkgiecikaaDoor.Pure
namespace Go.Proofs.YtefefpkgiecikaaDoor.Pure
open Go Go.RowKit Go.Proofs.YtefefpkgiecikaaDoor.P Go.Proofs.YtefefpkgiecikaaDoorW.PrintWords Go.Proofs.YtefefpkgiecikaaDoorW.PrintLast Go.Proofs.YtefefpkgiecikaaDoorW.PrintMore
theorem pk_app (pre x : List Int) (i : Nat) (hi : i < x.length) : pk (pre ++ x) ((pre.length : Int) + (i : Int)) = x[i] := by
 unfold pk
 rw [if_pos (by rw [List.length_append]; omega), show ((pre.length : Int) + (i : Int)).toNat = pre.length + i by omega]
 rw [List.getD_eq_getElem?_getD, List.getElem?_append_right (by omega)]
 simp [hi]
theorem slice_app (pre w x : List Int) : ((pre ++ (w ++ x)).take ((pre.length : Int) + ((w.length : Nat) : Int)).toNat).drop ((pre.length : Int)).toNat = w := by
 rw [show ((pre.length : Int) + ((w.length : Nat) : Int)).toNat = pre.length + w.length by omega, show ((pre.length : Int)).toNat = pre.length by omega, List.take_length_add_append, List.drop_left, List.take_left]
def wd : Nat → List Int
 | 0 => [40]
 | 1 => [41]
 | 2 => [35, 40]
 | 3 => [35, 59]
 | 4 => [39]
 | 5 => [44]
 | 6 => [44, 64]
 | 7 => [35, 39]
 | 8 => [35, 44]
 | 9 => [35, 44, 64]
 | 10 => [97]
 | 11 => [45, 53]
 | 12 => [35, 116]
 | 13 => [34, 120, 32, 121, 34]
 | 14 => [35, 92, 97]
 | 15 => [46, 46, 46]
 | 16 => [43]
 | _ => []
def kd : Nat → Int
 | 0 => 1
 | 1 => 2
 | 2 => 3
 | 3 => 5
 | 4 => 6
 | 5 => 6
 | 6 => 6
 | 7 => 6
 | 8 => 6
 | 9 => 6
 | 10 => 7
 | 11 => 7
 | 12 => 7
 | 13 => 7
 | 14 => 7
 | 15 => 7
 | 16 => 7
 | _ => 0
theorem at_open (pre rest : List Int) (hlen : pre.length + rest.length < 1000000) (k : Nat) (hk : 300 < k) : ∃ r, token_scanner_next.f k (pre ++ ([40] ++ 32 :: rest)) (pre.length : Int) = some r ∧ r.1 = 1 ∧ r.2.2.2.2.2.2.2.2.1 = pre.length ∧ r.2.2.2.2.2.2.2.2.2 = (pre.length : Int) + 1 := by
 obtain ⟨l, hl⟩ : ∃ l, l = pre ++ ([40] ++ 32 :: rest) := ⟨_, rfl⟩
 have h0 : (0 : Int) ≤ pre.length := by omega
 have hll : l.length = pre.length + 2 + rest.length := by rw [hl]; simp; omega
 have a0 : pk l (pre.length : Int) = 40 := by have := pk_app pre ([40] ++ 32 :: rest) 0 (by simp); simpa [hl] using this
 have a1 : pk l ((pre.length : Int) + 1) = 32 := by have := pk_app pre ([40] ++ 32 :: rest) 1 (by simp); simpa [hl] using this
 rw [← hl]
 obtain ⟨t, ht⟩ := t_open l (pre.length : Int) h0 (by omega) a0 a1 k (by omega)
 exact ⟨_, ht, rfl, rfl, rfl⟩
theorem at_close (pre rest : List Int) (hlen : pre.length + rest.length < 1000000) (k : Nat) (hk : 300 < k) : ∃ r, token_scanner_next.f k (pre ++ ([41] ++ 32 :: rest)) (pre.length : Int) = some r ∧ r.1 = 2 ∧ r.2.2.2.2.2.2.2.2.1 = pre.length ∧ r.2.2.2.2.2.2.2.2.2 = (pre.length : Int) + 1 := by
 obtain ⟨l, hl⟩ : ∃ l, l = pre ++ ([41] ++ 32 :: rest) := ⟨_, rfl⟩
 have h0 : (0 : Int) ≤ pre.length := by omega
 have hll : l.length = pre.length + 2 + rest.length := by rw [hl]; simp; omega
 have a0 : pk l (pre.length : Int) = 41 := by have := pk_app pre ([41] ++ 32 :: rest) 0 (by simp); simpa [hl] using this
 have a1 : pk l ((pre.length : Int) + 1) = 32 := by have := pk_app pre ([41] ++ 32 :: rest) 1 (by simp); simpa [hl] using this
 rw [← hl]
 obtain ⟨t, ht⟩ := t_close l (pre.length : Int) h0 (by omega) a0 a1 k (by omega)
 exact ⟨_, ht, rfl, rfl, rfl⟩
theorem at_vec (pre rest : List Int) (hlen : pre.length + rest.length < 1000000) (k : Nat) (hk : 300 < k) : ∃ r, token_scanner_next.f k (pre ++ ([35, 40] ++ 32 :: rest)) (pre.length : Int) = some r ∧ r.1 = 3 ∧ r.2.2.2.2.2.2.2.2.1 = pre.length ∧ r.2.2.2.2.2.2.2.2.2 = (pre.length : Int) + 2 := by
 obtain ⟨l, hl⟩ : ∃ l, l = pre ++ ([35, 40] ++ 32 :: rest) := ⟨_, rfl⟩
 have h0 : (0 : Int) ≤ pre.length := by omega
 have hll : l.length = pre.length + 3 + rest.length := by rw [hl]; simp; omega
 have a0 : pk l (pre.length : Int) = 35 := by have := pk_app pre ([35, 40] ++ 32 :: rest) 0 (by simp); simpa [hl] using this
 have a1 : pk l ((pre.length : Int) + 1) = 40 := by have := pk_app pre ([35, 40] ++ 32 :: rest) 1 (by simp); simpa [hl] using this
 have a2 : pk l ((pre.length : Int) + 2) = 32 := by have := pk_app pre ([35, 40] ++ 32 :: rest) 2 (by simp); simpa [hl] using this
 rw [← hl]
 obtain ⟨t, ht⟩ := t_vec l (pre.length : Int) h0 (by omega) a0 a1 a2 k (by omega)
 exact ⟨_, ht, rfl, rfl, rfl⟩
theorem at_skip (pre rest : List Int) (hlen : pre.length + rest.length < 1000000) (k : Nat) (hk : 300 < k) : ∃ r, token_scanner_next.f k (pre ++ ([35, 59] ++ 32 :: rest)) (pre.length : Int) = some r ∧ r.1 = 5 ∧ r.2.2.2.2.2.2.2.2.1 = pre.length ∧ r.2.2.2.2.2.2.2.2.2 = (pre.length : Int) + 2 := by
 obtain ⟨l, hl⟩ : ∃ l, l = pre ++ ([35, 59] ++ 32 :: rest) := ⟨_, rfl⟩
 have h0 : (0 : Int) ≤ pre.length := by omega
 have hll : l.length = pre.length + 3 + rest.length := by rw [hl]; simp; omega
 have a0 : pk l (pre.length : Int) = 35 := by have := pk_app pre ([35, 59] ++ 32 :: rest) 0 (by simp); simpa [hl] using this
 have a1 : pk l ((pre.length : Int) + 1) = 59 := by have := pk_app pre ([35, 59] ++ 32 :: rest) 1 (by simp); simpa [hl] using this
 have a2 : pk l ((pre.length : Int) + 2) = 32 := by have := pk_app pre ([35, 59] ++ 32 :: rest) 2 (by simp); simpa [hl] using this
 rw [← hl]
 obtain ⟨t, ht⟩ := t_skip l (pre.length : Int) h0 (by omega) a0 a1 a2 k (by omega)
 exact ⟨_, ht, rfl, rfl, rfl⟩
theorem at_quote (pre rest : List Int) (hlen : pre.length + rest.length < 1000000) (k : Nat) (hk : 300 < k) : ∃ r, token_scanner_next.f k (pre ++ ([39] ++ 32 :: rest)) (pre.length : Int) = some r ∧ r.1 = 6 ∧ r.2.2.2.2.2.2.2.2.1 = pre.length ∧ r.2.2.2.2.2.2.2.2.2 = (pre.length : Int) + 1 := by
 obtain ⟨l, hl⟩ : ∃ l, l = pre ++ ([39] ++ 32 :: rest) := ⟨_, rfl⟩
 have h0 : (0 : Int) ≤ pre.length := by omega
 have hll : l.length = pre.length + 2 + rest.length := by rw [hl]; simp; omega
 have a0 : pk l (pre.length : Int) = 39 := by have := pk_app pre ([39] ++ 32 :: rest) 0 (by simp); simpa [hl] using this
 have a1 : pk l ((pre.length : Int) + 1) = 32 := by have := pk_app pre ([39] ++ 32 :: rest) 1 (by simp); simpa [hl] using this
 rw [← hl]
 obtain ⟨t, ht⟩ := t_quote l (pre.length : Int) h0 (by omega) a0 a1 k (by omega)
 exact ⟨_, ht, rfl, rfl, rfl⟩
theorem at_unq (pre rest : List Int) (hlen : pre.length + rest.length < 1000000) (k : Nat) (hk : 300 < k) : ∃ r, token_scanner_next.f k (pre ++ ([44] ++ 32 :: rest)) (pre.length : Int) = some r ∧ r.1 = 6 ∧ r.2.2.2.2.2.2.2.2.1 = pre.length ∧ r.2.2.2.2.2.2.2.2.2 = (pre.length : Int) + 1 := by
 obtain ⟨l, hl⟩ : ∃ l, l = pre ++ ([44] ++ 32 :: rest) := ⟨_, rfl⟩
 have h0 : (0 : Int) ≤ pre.length := by omega
 have hll : l.length = pre.length + 2 + rest.length := by rw [hl]; simp; omega
 have a0 : pk l (pre.length : Int) = 44 := by have := pk_app pre ([44] ++ 32 :: rest) 0 (by simp); simpa [hl] using this
 have a1 : pk l ((pre.length : Int) + 1) = 32 := by have := pk_app pre ([44] ++ 32 :: rest) 1 (by simp); simpa [hl] using this
 rw [← hl]
 obtain ⟨t, ht⟩ := t_unq l (pre.length : Int) h0 (by omega) a0 a1 k (by omega)
 exact ⟨_, ht, rfl, rfl, rfl⟩
theorem at_unqs (pre rest : List Int) (hlen : pre.length + rest.length < 1000000) (k : Nat) (hk : 300 < k) : ∃ r, token_scanner_next.f k (pre ++ ([44, 64] ++ 32 :: rest)) (pre.length : Int) = some r ∧ r.1 = 6 ∧ r.2.2.2.2.2.2.2.2.1 = pre.length ∧ r.2.2.2.2.2.2.2.2.2 = (pre.length : Int) + 2 := by
 obtain ⟨l, hl⟩ : ∃ l, l = pre ++ ([44, 64] ++ 32 :: rest) := ⟨_, rfl⟩
 have h0 : (0 : Int) ≤ pre.length := by omega
 have hll : l.length = pre.length + 3 + rest.length := by rw [hl]; simp; omega
 have a0 : pk l (pre.length : Int) = 44 := by have := pk_app pre ([44, 64] ++ 32 :: rest) 0 (by simp); simpa [hl] using this
 have a1 : pk l ((pre.length : Int) + 1) = 64 := by have := pk_app pre ([44, 64] ++ 32 :: rest) 1 (by simp); simpa [hl] using this
 have a2 : pk l ((pre.length : Int) + 2) = 32 := by have := pk_app pre ([44, 64] ++ 32 :: rest) 2 (by simp); simpa [hl] using this
 rw [← hl]
 obtain ⟨t, ht⟩ := t_unqs l (pre.length : Int) h0 (by omega) a0 a1 a2 k (by omega)
 exact ⟨_, ht, rfl, rfl, rfl⟩
theorem at_syn (pre rest : List Int) (hlen : pre.length + rest.length < 1000000) (k : Nat) (hk : 300 < k) : ∃ r, token_scanner_next.f k (pre ++ ([35, 39] ++ 32 :: rest)) (pre.length : Int) = some r ∧ r.1 = 6 ∧ r.2.2.2.2.2.2.2.2.1 = pre.length ∧ r.2.2.2.2.2.2.2.2.2 = (pre.length : Int) + 2 := by
 obtain ⟨l, hl⟩ : ∃ l, l = pre ++ ([35, 39] ++ 32 :: rest) := ⟨_, rfl⟩
 have h0 : (0 : Int) ≤ pre.length := by omega
 have hll : l.length = pre.length + 3 + rest.length := by rw [hl]; simp; omega
 have a0 : pk l (pre.length : Int) = 35 := by have := pk_app pre ([35, 39] ++ 32 :: rest) 0 (by simp); simpa [hl] using this
 have a1 : pk l ((pre.length : Int) + 1) = 39 := by have := pk_app pre ([35, 39] ++ 32 :: rest) 1 (by simp); simpa [hl] using this
 have a2 : pk l ((pre.length : Int) + 2) = 32 := by have := pk_app pre ([35, 39] ++ 32 :: rest) 2 (by simp); simpa [hl] using this
 rw [← hl]
 obtain ⟨t, ht⟩ := t_syn l (pre.length : Int) h0 (by omega) a0 a1 a2 k (by omega)
 exact ⟨_, ht, rfl, rfl, rfl⟩
theorem at_uns (pre rest : List Int) (hlen : pre.length + rest.length < 1000000) (k : Nat) (hk : 300 < k) : ∃ r, token_scanner_next.f k (pre ++ ([35, 44] ++ 32 :: rest)) (pre.length : Int) = some r ∧ r.1 = 6 ∧ r.2.2.2.2.2.2.2.2.1 = pre.length ∧ r.2.2.2.2.2.2.2.2.2 = (pre.length : Int) + 2 := by
 obtain ⟨l, hl⟩ : ∃ l, l = pre ++ ([35, 44] ++ 32 :: rest) := ⟨_, rfl⟩
 have h0 : (0 : Int) ≤ pre.length := by omega
 have hll : l.length = pre.length + 3 + rest.length := by rw [hl]; simp; omega
 have a0 : pk l (pre.length : Int) = 35 := by have := pk_app pre ([35, 44] ++ 32 :: rest) 0 (by simp); simpa [hl] using this
 have a1 : pk l ((pre.length : Int) + 1) = 44 := by have := pk_app pre ([35, 44] ++ 32 :: rest) 1 (by simp); simpa [hl] using this
 have a2 : pk l ((pre.length : Int) + 2) = 32 := by have := pk_app pre ([35, 44] ++ 32 :: rest) 2 (by simp); simpa [hl] using this
 rw [← hl]
 obtain ⟨t, ht⟩ := t_uns l (pre.length : Int) h0 (by omega) a0 a1 a2 k (by omega)
 exact ⟨_, ht, rfl, rfl, rfl⟩
theorem at_unss (pre rest : List Int) (hlen : pre.length + rest.length < 1000000) (k : Nat) (hk : 300 < k) : ∃ r, token_scanner_next.f k (pre ++ ([35, 44, 64] ++ 32 :: rest)) (pre.length : Int) = some r ∧ r.1 = 6 ∧ r.2.2.2.2.2.2.2.2.1 = pre.length ∧ r.2.2.2.2.2.2.2.2.2 = (pre.length : Int) + 3 := by
 obtain ⟨l, hl⟩ : ∃ l, l = pre ++ ([35, 44, 64] ++ 32 :: rest) := ⟨_, rfl⟩
 have h0 : (0 : Int) ≤ pre.length := by omega
 have hll : l.length = pre.length + 4 + rest.length := by rw [hl]; simp; omega
 have a0 : pk l (pre.length : Int) = 35 := by have := pk_app pre ([35, 44, 64] ++ 32 :: rest) 0 (by simp); simpa [hl] using this
 have a1 : pk l ((pre.length : Int) + 1) = 44 := by have := pk_app pre ([35, 44, 64] ++ 32 :: rest) 1 (by simp); simpa [hl] using this
 have a2 : pk l ((pre.length : Int) + 2) = 64 := by have := pk_app pre ([35, 44, 64] ++ 32 :: rest) 2 (by simp); simpa [hl] using this
 have a3 : pk l ((pre.length : Int) + 3) = 32 := by have := pk_app pre ([35, 44, 64] ++ 32 :: rest) 3 (by simp); simpa [hl] using this
 rw [← hl]
 obtain ⟨t, ht⟩ := t_unss l (pre.length : Int) h0 (by omega) a0 a1 a2 a3 k (by omega)
 exact ⟨_, ht, rfl, rfl, rfl⟩
theorem at_a (pre rest : List Int) (hlen : pre.length + rest.length < 1000000) (k : Nat) (hk : 300 < k) : ∃ r, token_scanner_next.f k (pre ++ ([97] ++ 32 :: rest)) (pre.length : Int) = some r ∧ r.1 = 7 ∧ r.2.2.2.2.2.2.2.2.1 = pre.length ∧ r.2.2.2.2.2.2.2.2.2 = (pre.length : Int) + 1 := by
 obtain ⟨l, hl⟩ : ∃ l, l = pre ++ ([97] ++ 32 :: rest) := ⟨_, rfl⟩
 have h0 : (0 : Int) ≤ pre.length := by omega
 have hll : l.length = pre.length + 2 + rest.length := by rw [hl]; simp; omega
 have a0 : pk l (pre.length : Int) = 97 := by have := pk_app pre ([97] ++ 32 :: rest) 0 (by simp); simpa [hl] using this
 have a1 : pk l ((pre.length : Int) + 1) = 32 := by have := pk_app pre ([97] ++ 32 :: rest) 1 (by simp); simpa [hl] using this
 have hw : (l.take ((pre.length : Int) + ((1 : Nat) : Int)).toNat).drop (pre.length : Int).toNat = [97] := by rw [hl]; exact slice_app pre [97] (32 :: rest)
 rw [← hl]
 obtain ⟨r1, r2, r3, r4, r5, ht⟩ := t_a l (pre.length : Int) h0 (by omega) a0 a1 (by omega) (by omega) hw k (by omega)
 exact ⟨_, ht, rfl, rfl, rfl⟩
theorem at_m5 (pre rest : List Int) (hlen : pre.length + rest.length < 1000000) (k : Nat) (hk : 300 < k) : ∃ r, token_scanner_next.f k (pre ++ ([45, 53] ++ 32 :: rest)) (pre.length : Int) = some r ∧ r.1 = 7 ∧ r.2.2.2.2.2.2.2.2.1 = pre.length ∧ r.2.2.2.2.2.2.2.2.2 = (pre.length : Int) + 2 := by
 obtain ⟨l, hl⟩ : ∃ l, l = pre ++ ([45, 53] ++ 32 :: rest) := ⟨_, rfl⟩
 have h0 : (0 : Int) ≤ pre.length := by omega
 have hll : l.length = pre.length + 3 + rest.length := by rw [hl]; simp; omega
 have a0 : pk l (pre.length : Int) = 45 := by have := pk_app pre ([45, 53] ++ 32 :: rest) 0 (by simp); simpa [hl] using this
 have a1 : pk l ((pre.length : Int) + 1) = 53 := by have := pk_app pre ([45, 53] ++ 32 :: rest) 1 (by simp); simpa [hl] using this
 have a2 : pk l ((pre.length : Int) + 2) = 32 := by have := pk_app pre ([45, 53] ++ 32 :: rest) 2 (by simp); simpa [hl] using this
 have hw : (l.take ((pre.length : Int) + ((2 : Nat) : Int)).toNat).drop (pre.length : Int).toNat = [45, 53] := by rw [hl]; exact slice_app pre [45, 53] (32 :: rest)
 rw [← hl]
 obtain ⟨r1, r2, r3, r4, r5, ht⟩ := t_m5 l (pre.length : Int) h0 (by omega) a0 a1 a2 (by omega) (by omega) hw k (by omega)
 exact ⟨_, ht, rfl, rfl, rfl⟩
theorem at_t (pre rest : List Int) (hlen : pre.length + rest.length < 1000000) (k : Nat) (hk : 300 < k) : ∃ r, token_scanner_next.f k (pre ++ ([35, 116] ++ 32 :: rest)) (pre.length : Int) = some r ∧ r.1 = 7 ∧ r.2.2.2.2.2.2.2.2.1 = pre.length ∧ r.2.2.2.2.2.2.2.2.2 = (pre.length : Int) + 2 := by
 obtain ⟨l, hl⟩ : ∃ l, l = pre ++ ([35, 116] ++ 32 :: rest) := ⟨_, rfl⟩
 have h0 : (0 : Int) ≤ pre.length := by omega
 have hll : l.length = pre.length + 3 + rest.length := by rw [hl]; simp; omega
 have a0 : pk l (pre.length : Int) = 35 := by have := pk_app pre ([35, 116] ++ 32 :: rest) 0 (by simp); simpa [hl] using this
 have a1 : pk l ((pre.length : Int) + 1) = 116 := by have := pk_app pre ([35, 116] ++ 32 :: rest) 1 (by simp); simpa [hl] using this
 have a2 : pk l ((pre.length : Int) + 2) = 32 := by have := pk_app pre ([35, 116] ++ 32 :: rest) 2 (by simp); simpa [hl] using this
 have hw : (l.take ((pre.length : Int) + ((2 : Nat) : Int)).toNat).drop (pre.length : Int).toNat = [35, 116] := by rw [hl]; exact slice_app pre [35, 116] (32 :: rest)
 rw [← hl]
 obtain ⟨r1, r2, r3, r4, r5, ht⟩ := t_t l (pre.length : Int) h0 (by omega) a0 a1 a2 (by omega) (by omega) hw k (by omega)
 exact ⟨_, ht, rfl, rfl, rfl⟩
theorem at_str (pre rest : List Int) (hlen : pre.length + rest.length < 1000000) (k : Nat) (hk : 300 < k) : ∃ r, token_scanner_next.f k (pre ++ ([34, 120, 32, 121, 34] ++ 32 :: rest)) (pre.length : Int) = some r ∧ r.1 = 7 ∧ r.2.2.2.2.2.2.2.2.1 = pre.length ∧ r.2.2.2.2.2.2.2.2.2 = (pre.length : Int) + 5 := by
 obtain ⟨l, hl⟩ : ∃ l, l = pre ++ ([34, 120, 32, 121, 34] ++ 32 :: rest) := ⟨_, rfl⟩
 have h0 : (0 : Int) ≤ pre.length := by omega
 have hll : l.length = pre.length + 6 + rest.length := by rw [hl]; simp; omega
 have a0 : pk l (pre.length : Int) = 34 := by have := pk_app pre ([34, 120, 32, 121, 34] ++ 32 :: rest) 0 (by simp); simpa [hl] using this
 have a1 : pk l ((pre.length : Int) + 1) = 120 := by have := pk_app pre ([34, 120, 32, 121, 34] ++ 32 :: rest) 1 (by simp); simpa [hl] using this
 have a2 : pk l ((pre.length : Int) + 2) = 32 := by have := pk_app pre ([34, 120, 32, 121, 34] ++ 32 :: rest) 2 (by simp); simpa [hl] using this
 have a3 : pk l ((pre.length : Int) + 3) = 121 := by have := pk_app pre ([34, 120, 32, 121, 34] ++ 32 :: rest) 3 (by simp); simpa [hl] using this
 have a4 : pk l ((pre.length : Int) + 4) = 34 := by have := pk_app pre ([34, 120, 32, 121, 34] ++ 32 :: rest) 4 (by simp); simpa [hl] using this
 have a5 : pk l ((pre.length : Int) + 5) = 32 := by have := pk_app pre ([34, 120, 32, 121, 34] ++ 32 :: rest) 5 (by simp); simpa [hl] using this
 rw [← hl]
 obtain ⟨r1, r2, r3, r4, r5, ht⟩ := t_str l (pre.length : Int) h0 (by omega) a0 a1 a2 a3 a4 (by omega) k (by omega)
 exact ⟨_, ht, rfl, rfl, rfl⟩
theorem at_char (pre rest : List Int) (hlen : pre.length + rest.length < 1000000) (k : Nat) (hk : 300 < k) : ∃ r, token_scanner_next.f k (pre ++ ([35, 92, 97] ++ 32 :: rest)) (pre.length : Int) = some r ∧ r.1 = 7 ∧ r.2.2.2.2.2.2.2.2.1 = pre.length ∧ r.2.2.2.2.2.2.2.2.2 = (pre.length : Int) + 3 := by
 obtain ⟨l, hl⟩ : ∃ l, l = pre ++ ([35, 92, 97] ++ 32 :: rest) := ⟨_, rfl⟩
 have h0 : (0 : Int) ≤ pre.length := by omega
 have hll : l.length = pre.length + 4 + rest.length := by rw [hl]; simp; omega
 have a0 : pk l (pre.length : Int) = 35 := by have := pk_app pre ([35, 92, 97] ++ 32 :: rest) 0 (by simp); simpa [hl] using this
 have a1 : pk l ((pre.length : Int) + 1) = 92 := by have := pk_app pre ([35, 92, 97] ++ 32 :: rest) 1 (by simp); simpa [hl] using this
 have a2 : pk l ((pre.length : Int) + 2) = 97 := by have := pk_app pre ([35, 92, 97] ++ 32 :: rest) 2 (by simp); simpa [hl] using this
 have a3 : pk l ((pre.length : Int) + 3) = 32 := by have := pk_app pre ([35, 92, 97] ++ 32 :: rest) 3 (by simp); simpa [hl] using this
 have hw : (l.take ((pre.length : Int) + 3).toNat).drop ((pre.length : Int) + 2).toNat = [97] := by
  have := slice_app (pre ++ [35, 92]) [97] (32 :: rest)
  simpa [hl, show (pre.length : Int) + 2 + 1 = (pre.length : Int) + 3 by omega] using this
 rw [← hl]
 obtain ⟨r1, r2, r3, r4, r5, ht⟩ := t_char l (pre.length : Int) h0 (by omega) a0 a1 a2 a3 (by omega) (by omega) hw k (by omega)
 exact ⟨_, ht, rfl, rfl, rfl⟩
theorem at_dots (pre rest : List Int) (hlen : pre.length + rest.length < 1000000) (k : Nat) (hk : 300 < k) : ∃ r, token_scanner_next.f k (pre ++ ([46, 46, 46] ++ 32 :: rest)) (pre.length : Int) = some r ∧ r.1 = 7 ∧ r.2.2.2.2.2.2.2.2.1 = pre.length ∧ r.2.2.2.2.2.2.2.2.2 = (pre.length : Int) + 3 := by
 obtain ⟨l, hl⟩ : ∃ l, l = pre ++ ([46, 46, 46] ++ 32 :: rest) := ⟨_, rfl⟩
 have h0 : (0 : Int) ≤ pre.length := by omega
 have hll : l.length = pre.length + 4 + rest.length := by rw [hl]; simp; omega
 have a0 : pk l (pre.length : Int) = 46 := by have := pk_app pre ([46, 46, 46] ++ 32 :: rest) 0 (by simp); simpa [hl] using this
 have a1 : pk l ((pre.length : Int) + 1) = 46 := by have := pk_app pre ([46, 46, 46] ++ 32 :: rest) 1 (by simp); simpa [hl] using this
 have a2 : pk l ((pre.length : Int) + 2) = 46 := by have := pk_app pre ([46, 46, 46] ++ 32 :: rest) 2 (by simp); simpa [hl] using this
 have a3 : pk l ((pre.length : Int) + 3) = 32 := by have := pk_app pre ([46, 46, 46] ++ 32 :: rest) 3 (by simp); simpa [hl] using this
 have hw : (l.take ((pre.length : Int) + ((3 : Nat) : Int)).toNat).drop (pre.length : Int).toNat = [46, 46, 46] := by rw [hl]; exact slice_app pre [46, 46, 46] (32 :: rest)
 rw [← hl]
 obtain ⟨r1, r2, r3, r4, r5, ht⟩ := t_dots l (pre.length : Int) h0 (by omega) a0 a1 a2 a3 (by omega) (by omega) hw k (by omega)
 exact ⟨_, ht, rfl, rfl, rfl⟩
theorem at_plus (pre rest : List Int) (hlen : pre.length + rest.length < 1000000) (k : Nat) (hk : 300 < k) : ∃ r, token_scanner_next.f k (pre ++ ([43] ++ 32 :: rest)) (pre.length : Int) = some r ∧ r.1 = 7 ∧ r.2.2.2.2.2.2.2.2.1 = pre.length ∧ r.2.2.2.2.2.2.2.2.2 = (pre.length : Int) + 1 := by
 obtain ⟨l, hl⟩ : ∃ l, l = pre ++ ([43] ++ 32 :: rest) := ⟨_, rfl⟩
 have h0 : (0 : Int) ≤ pre.length := by omega
 have hll : l.length = pre.length + 2 + rest.length := by rw [hl]; simp; omega
 have a0 : pk l (pre.length : Int) = 43 := by have := pk_app pre ([43] ++ 32 :: rest) 0 (by simp); simpa [hl] using this
 have a1 : pk l ((pre.length : Int) + 1) = 32 := by have := pk_app pre ([43] ++ 32 :: rest) 1 (by simp); simpa [hl] using this
 have hw : (l.take ((pre.length : Int) + ((1 : Nat) : Int)).toNat).drop (pre.length : Int).toNat = [43] := by rw [hl]; exact slice_app pre [43] (32 :: rest)
 rw [← hl]
 obtain ⟨r1, r2, r3, r4, r5, ht⟩ := t_plus l (pre.length : Int) h0 (by omega) a0 a1 (by omega) (by omega) hw k (by omega)
 exact ⟨_, ht, rfl, rfl, rfl⟩
theorem next_word (c : Nat) (hc : c < 17) (pre rest : List Int) (hlen : pre.length + rest.length < 1000000) (k : Nat) (hk : 300 < k) : ∃ r, token_scanner_next.f k (pre ++ (wd c ++ 32 :: rest)) (pre.length : Int) = some r ∧ r.1 = kd c ∧ r.2.2.2.2.2.2.2.2.1 = pre.length ∧ r.2.2.2.2.2.2.2.2.2 = (pre.length : Int) + ((wd c).length : Int) :=
 match c, hc with
 | 0, _ => at_open pre rest hlen k hk
 | 1, _ => at_close pre rest hlen k hk
 | 2, _ => at_vec pre rest hlen k hk
 | 3, _ => at_skip pre rest hlen k hk
 | 4, _ => at_quote pre rest hlen k hk
 | 5, _ => at_unq pre rest hlen k hk
 | 6, _ => at_unqs pre rest hlen k hk
 | 7, _ => at_syn pre rest hlen k hk
 | 8, _ => at_uns pre rest hlen k hk
 | 9, _ => at_unss pre rest hlen k hk
 | 10, _ => at_a pre rest hlen k hk
 | 11, _ => at_m5 pre rest hlen k hk
 | 12, _ => at_t pre rest hlen k hk
 | 13, _ => at_str pre rest hlen k hk
 | 14, _ => at_char pre rest hlen k hk
 | 15, _ => at_dots pre rest hlen k hk
 | 16, _ => at_plus pre rest hlen k hk
 | n + 17, h => absurd h (by omega)
end Go.Proofs.YtefefpkgiecikaaDoor.Pure
namespace Go.Proofs.YtefefpkgiecikaaDoor.Pure
open Go Go.RowKit Go.Proofs.YtefefpkgiecikaaDoor.P Go.Proofs.YtefefpkgiecikaaDoorW.PrintWords Go.Proofs.YtefefpkgiecikaaDoorW.PrintLast Go.Proofs.YtefefpkgiecikaaDoorW.PrintMore
def txt : List Nat → List Int
 | [] => []
 | c :: cs => wd c ++ 32 :: txt cs
def Good : List S38 → List Nat → Int → Prop
 | [], [], _ => True
 | t :: ts, c :: cs, p => t.f0 = kd c ∧ t.f3 = p ∧ Good ts cs (p + (wd c).length + 1)
 | _, _, _ => False
theorem first_all : (List.range 17).all (fun c => match wd c with | [] => false | x :: _ => decide (0 ≤ x) && decide (utf_Blank.f x = some false) && decide (x ≠ 59)) = true := by kernel_rfl
theorem first_ok (c : Nat) (hc : c < 17) : ∃ x r, wd c = x :: r ∧ 0 ≤ x ∧ utf_Blank.f x = some false ∧ x ≠ 59 := by
 have h := List.all_eq_true.mp first_all c (by simpa using hc)
 cases hw : wd c with
 | nil => rw [hw] at h; simp at h
 | cons x r =>
  rw [hw] at h
  simp only [Bool.and_eq_true, decide_eq_true_eq] at h
  exact ⟨x, r, rfl, h.1.1, h.1.2, h.2⟩
theorem stop_at (cs : List Nat) (hcs : ∀ c ∈ cs, c < 17) (pre : List Int) (hb : pre.length < 1000000) (k : Nat) : token_scanner_blanks.f (k + 2) (pre ++ txt cs) (pre.length : Int) = some (pre.length : Int) := by
 cases cs with
 | nil => exact blanks_stop _ _ (-1) k (by omega) (by omega) (by unfold pk; rw [if_neg (by simp [txt])]) (.inl rfl)
 | cons c cs =>
  obtain ⟨x, r, hw, h1, h2, h3⟩ := first_ok c (hcs c (by simp))
  have hp : pk (pre ++ txt (c :: cs)) (pre.length : Int) = x := by
   have := pk_app pre (txt (c :: cs)) 0 (by simp [txt]; omega)
   simpa [txt, hw] using this
  exact blanks_stop _ _ x k (by omega) (by omega) hp (.inr ⟨h1, h2, h3⟩)
theorem scan_l0 (cs : List Nat) : ∀ (hcs : ∀ c ∈ cs, c < 17) (pre : List Int) (acc : List S38) (k : Nat) (hb : pre.length + (txt cs).length < 900000) (ha : acc.length + cs.length < 1000000) (hk : 400 + cs.length < k),
  ∃ toks, token_Scan.l0 k acc (pre ++ txt cs) (pre.length : Int) = some (acc ++ toks, 0, 0) ∧ toks.length = cs.length ∧ Good toks cs pre.length := by
 induction cs with
 | nil =>
  intro _ pre acc k hb ha hk
  obtain ⟨k, rfl⟩ : ∃ m, k = m + 1 := ⟨k - 1, by omega⟩
  refine ⟨[], ?_, rfl, trivial⟩
  rw [token_Scan.l0, left_eq _ _ 1 (by omega) (by omega) (by omega)]
  simp only [Option.bind_some]
  rw [if_neg (by simp [txt]; omega), List.append_nil]
 | cons c cs ih =>
  intro hcs pre acc k hb ha hk
  obtain ⟨k, rfl⟩ : ∃ m, k = m + 1 := ⟨k - 1, by omega⟩
  have hlt : (txt (c :: cs)).length = (wd c).length + 1 + (txt cs).length := by simp [txt]; omega
  simp only [List.length_cons] at ha hk
  rw [token_Scan.l0, left_eq _ _ 1 (by omega) (by omega) (by omega)]
  simp only [Option.bind_some]
  rw [if_pos (by simp only [decide_eq_true_eq, List.length_append]; omega)]
  obtain ⟨r, hr, h1, h2, h3⟩ := next_word c (hcs c (by simp)) pre (txt cs) (by omega) k (by omega)
  rw [show txt (c :: cs) = wd c ++ 32 :: txt cs from rfl, hr]
  simp only [Option.bind_some]
  rw [if_pos (by omega), h3]
  have hp : pk (pre ++ (wd c ++ 32 :: txt cs)) ((pre.length : Int) + ((wd c).length : Int)) = 32 := by
   have := pk_app (pre ++ wd c) (32 :: txt cs) 0 (by simp)
   simpa using this
  obtain ⟨K, rfl⟩ : ∃ K, k = K + 2 + 2 := ⟨k - 4, by omega⟩
  have hs := stop_at cs (fun x hx => hcs x (by simp [hx])) (pre ++ (wd c ++ [32])) (by simp; omega) K
  have he : pre ++ (wd c ++ [32]) ++ txt cs = pre ++ (wd c ++ 32 :: txt cs) := by simp
  have hl : ((pre ++ (wd c ++ [32])).length : Int) = (pre.length : Int) + ((wd c).length : Int) + 1 := by simp; omega
  rw [he, hl] at hs
  have hst := blanks_step (pre ++ (wd c ++ 32 :: txt cs)) ((pre.length : Int) + ((wd c).length : Int)) (K + 2) (by omega) (by omega) hp
  have hst2 := hst.trans hs
  rw [hst2, Option.bind_some]
  obtain ⟨toks, ht, hn, hg⟩ := ih (fun x hx => hcs x (by simp [hx])) (pre ++ (wd c ++ [32])) (acc ++ [(⟨r.1, r.2.1, (⟨r.2.2.1, r.2.2.2.1, (⟨r.2.2.2.2.1, r.2.2.2.2.2.1⟩ : S30), r.2.2.2.2.2.2.1, r.2.2.2.2.2.2.2.1⟩ : S33), r.2.2.2.2.2.2.2.2.1⟩ : S38)]) (K + 2 + 2) (by simp; omega) (by simp; omega) (by omega)
  rw [he, hl] at ht
  refine ⟨_ :: toks, by rw [ht, List.append_assoc]; rfl, by simp [hn], h1, h2, ?_⟩
  rw [hl] at hg
  exact hg
end Go.Proofs.YtefefpkgiecikaaDoor.Pure
namespace Go.Proofs.YtefefpkgiecikaaDoor.Pure
open Go Go.RowKit Go.Proofs.YtefefpkgiecikaaDoor.P Go.Proofs.YtefefpkgiecikaaDoorW.PrintWords Go.Proofs.YtefefpkgiecikaaDoorW.PrintLast Go.Proofs.YtefefpkgiecikaaDoorW.PrintMore
def sgB : List ByteArray := [(⟨#[40]⟩ : ByteArray), (⟨#[41]⟩ : ByteArray), (⟨#[35, 40]⟩ : ByteArray), (⟨#[35, 59]⟩ : ByteArray), (⟨#[39]⟩ : ByteArray), (⟨#[44]⟩ : ByteArray), (⟨#[44, 64]⟩ : ByteArray), (⟨#[35, 39]⟩ : ByteArray), (⟨#[35, 44]⟩ : ByteArray), (⟨#[35, 44, 64]⟩ : ByteArray), (⟨#[97]⟩ : ByteArray), (⟨#[45, 53]⟩ : ByteArray), (⟨#[35, 116]⟩ : ByteArray), (⟨#[34, 120, 32, 121, 34]⟩ : ByteArray), (⟨#[35, 92, 97]⟩ : ByteArray), (⟨#[46, 46, 46]⟩ : ByteArray), (⟨#[43]⟩ : ByteArray)]
def kdL : List Int := [1, 2, 3, 5, 6, 6, 6, 6, 6, 6, 7, 7, 7, 7, 7, 7, 7]
theorem words_all : (List.range 17).all (fun c => decide (bytesOf (rdOf ByteArray.empty sgB (c : Int)) = wd c) && decide (rd kdL (c : Int) = kd c) && decide ((wd c).length ≤ 5) && decide (0 < (wd c).length) && (wd c).all (fun x => decide (0 ≤ x) && decide (x < 128))) = true := by kernel_rfl
theorem words_at (c : Nat) (hc : c < 17) : bytesOf (rdOf ByteArray.empty sgB (c : Int)) = wd c ∧ rd kdL (c : Int) = kd c ∧ (wd c).length ≤ 5 ∧ 0 < (wd c).length ∧ ∀ x ∈ wd c, 0 ≤ x ∧ x < 128 := by
 have h := List.all_eq_true.mp words_all c (by simpa using hc)
 simp only [Bool.and_eq_true, decide_eq_true_eq, List.all_eq_true] at h
 obtain ⟨⟨⟨⟨h1, h2⟩, h3⟩, h4⟩, h5⟩ := h
 exact ⟨h1, h2, h3, h4, h5⟩
theorem bytesOf_append (a b : ByteArray) : bytesOf (a ++ b) = bytesOf a ++ bytesOf b := by
 unfold bytesOf
 rw [← List.map_append]
 simp [ByteArray.data_append]
def pickC (x : Int) : Nat := (Int.tmod (wrap64 x) 17).toNat
theorem pick_eq (x : Int) (h0 : 0 ≤ x) (h1 : x < 256) : Int.tmod (wrap64 x) 17 = (pickC x : Int) ∧ pickC x < 17 := by
 unfold pickC
 rw [w64 h0 (by omega), Int.tmod_eq_emod_of_nonneg h0]
 omega
theorem txt_append (a b : List Nat) : txt (a ++ b) = txt a ++ txt b := by
 induction a with
 | nil => rfl
 | cons c cs ih => simp [txt, ih]
theorem txt_small (cs : List Nat) (h : ∀ c ∈ cs, c < 17) : (txt cs).length ≤ 6 * cs.length ∧ ∀ x ∈ txt cs, 0 ≤ x ∧ x < 128 := by
 induction cs with
 | nil => exact ⟨by simp [txt], by simp [txt]⟩
 | cons c cs ih =>
  obtain ⟨i1, i2⟩ := ih (fun x hx => h x (by simp [hx]))
  obtain ⟨_, _, h3, _, h5⟩ := words_at c (h c (by simp))
  refine ⟨by simp only [txt, List.length_append, List.length_cons]; omega, fun x hx => ?_⟩
  simp only [txt, List.mem_append, List.mem_cons] at hx
  rcases hx with hx | rfl | hx
  ·exact h5 x hx
  ·omega
  ·exact i2 x hx
theorem good_l1 (l : List Int) (hl : ∀ i : Nat, i < l.length → 0 ≤ rd l i ∧ rd l i < 256) (toks : List S38) (hn : toks.length = l.length) (hlen : l.length < 100000) : ∀ (m i : Nat) (p : Int) (k : Nat), i + m = l.length → 0 ≤ p → p + 6 * m < 10000000 → m < k → Good (toks.drop i) ((l.drop i).map pickC) p →
  marginalialaw03_TokenWords.l1 k l sgB kdL toks p (i : Int) = some true := by
 intro m
 induction m with
 | zero =>
  intro i p k him h0 hb hk hg
  obtain ⟨k, rfl⟩ : ∃ m, k = m + 1 := ⟨k - 1, by omega⟩
  rw [marginalialaw03_TokenWords.l1, if_neg (by omega)]
 | succ m ih =>
  intro i p k him h0 hb hk hg
  obtain ⟨k, rfl⟩ : ∃ m, k = m + 1 := ⟨k - 1, by omega⟩
  have hi : i < l.length := by omega
  have hit : i < toks.length := by omega
  obtain ⟨hr0, hr1⟩ := hl i hi
  have hrd : rd l i = l[i] := by unfold rd; simp [List.getD_eq_getElem?_getD, hi]
  obtain ⟨hp, hp17⟩ := pick_eq (rd l i) hr0 hr1
  obtain ⟨c1, c2, c3, c4, c5⟩ := words_at _ hp17
  rw [List.drop_eq_getElem_cons hi, List.drop_eq_getElem_cons hit] at hg
  simp only [List.map_cons, Good] at hg
  obtain ⟨g1, g2, g3⟩ := hg
  rw [← hrd] at g1 g3
  have hT : rd_T38 toks i = toks[i] := by unfold rd_T38; simp [List.getD_eq_getElem?_getD, hit]
  have hsz : ((rdOf ByteArray.empty sgB (pickC (rd l i) : Int)).size : Int) = ((wd (pickC (rd l i))).length : Int) := by rw [← c1, bytesOf_length]
  have hk17 : (kdL.length : Int) = 17 := rfl
  have hs17 : (sgB.length : Int) = 17 := rfl
  rw [marginalialaw03_TokenWords.l1, if_pos (by omega), if_pos (by omega), if_pos (by omega), hp, if_pos (by omega), if_pos (by omega), hT, if_pos (by rw [g1, c2]), if_pos g2, if_pos (by omega), hsz, w64 (x := p + _) (by omega) (by omega), w64 (x := p + _ + 1) (by omega) (by omega), w64 (x := (i : Int) + 1) (by omega) (by omega)]
  exact ih (i + 1) _ k (by omega) (by omega) (by omega) (by omega) g3
theorem law_l0 (l : List Int) (hl : ∀ i : Nat, i < l.length → 0 ≤ rd l i ∧ rd l i < 256) (hlen : l.length ≤ 200) : ∀ (m i : Nat) (x5 : ByteArray) (k : Nat), i + m = l.length → bytesOf x5 = txt ((l.take i).map pickC) → m + 3000 < k →
  marginalialaw03_TokenWords.l0 k l sgB kdL x5 (i : Int) = some true := by
 have hall : ∀ l' : List Int, (∀ x ∈ l', 0 ≤ x ∧ x < 256) → ∀ c ∈ l'.map pickC, c < 17 := by
  intro l' h c hc
  obtain ⟨x, hx, rfl⟩ := List.mem_map.mp hc
  exact (pick_eq x (h x hx).1 (h x hx).2).2
 have hmem : ∀ x ∈ l, 0 ≤ x ∧ x < 256 := by
  intro x hx
  obtain ⟨i, hi, rfl⟩ := List.getElem_of_mem hx
  have := hl i hi
  rwa [show rd l i = l[i] by unfold rd; simp [List.getD_eq_getElem?_getD, hi]] at this
 intro m
 induction m with
 | zero =>
  intro i x5 k him hx hk
  obtain ⟨k, rfl⟩ : ∃ m, k = m + 1 := ⟨k - 1, by omega⟩
  rw [List.take_of_length_le (by omega)] at hx
  have hcs := hall l hmem
  obtain ⟨hs1, hs2⟩ := txt_small _ hcs
  rw [List.length_map] at hs1
  have hsz : x5.size = (txt (l.map pickC)).length := by rw [← hx, bytesOf_length]
  have hasc : ∀ i : Nat, i < (bytesOf x5).length → 0 ≤ rd (bytesOf x5) i ∧ rd (bytesOf x5) i < 128 := by
   intro i hi
   rw [hx] at hi ⊢
   have hq : rd (txt (l.map pickC)) i = (txt (l.map pickC))[i] := by unfold rd; simp [List.getD_eq_getElem?_getD, hi]
   rw [hq]
   exact hs2 _ (List.getElem_mem hi)
  have hch := chars_ascii x5 (by omega) hasc k (by omega)
  have hidx := idx_none (bytesOf x5) hasc (by rw [bytesOf_length]; omega) k (by rw [bytesOf_length]; omega)
  have hst := stop_at (l.map pickC) hcs [] (by simp) (k - 2)
  rw [show k - 2 + 2 = k by omega] at hst
  obtain ⟨toks, ht, hn, hg⟩ := scan_l0 (l.map pickC) hcs [] [] k (by simp only [List.length_nil]; omega) (by simp only [List.length_nil, List.length_map]; omega) (by rw [List.length_map]; omega)
  simp only [List.nil_append, List.length_nil, Int.natCast_zero, List.length_map] at hst ht hn hg
  have hscan : token_Scan.f k (bytesOf x5) = some (toks, 0, 0) := by
   unfold token_Scan.f
   rw [hidx, Option.bind_some, if_neg (by decide), hx, hst, Option.bind_some]
   exact ht
  have hans : marginalialaw03_answers.f k = some true := lift marginalialaw03_answers.mono answers_eq (by omega)
  rw [marginalialaw03_TokenWords.l0, if_neg (by omega), hch, Option.bind_some, hscan, Option.bind_some, hans, Option.bind_some, if_pos rfl, if_pos rfl, hn]
  obtain ⟨K, rfl⟩ : ∃ m, k = m + 1 := ⟨k - 1, by omega⟩
  rw [marginalialaw03_TokenWords.j1, if_neg (by simp)]
  exact good_l1 l hl toks hn (by omega) l.length 0 0 K (by omega) (by omega) (by omega) (by omega) (by simpa using hg)
 | succ m ih =>
  intro i x5 k him hx hk
  obtain ⟨k, rfl⟩ : ∃ m, k = m + 1 := ⟨k - 1, by omega⟩
  have hi : i < l.length := by omega
  obtain ⟨hr0, hr1⟩ := hl i hi
  have hrd : rd l i = l[i] := by unfold rd; simp [List.getD_eq_getElem?_getD, hi]
  obtain ⟨hp, hp17⟩ := pick_eq (rd l i) hr0 hr1
  obtain ⟨c1, c2, c3, c4, c5⟩ := words_at _ hp17
  have hs17 : (sgB.length : Int) = 17 := rfl
  obtain ⟨hs1, _⟩ := txt_small _ (hall (l.take i) (fun x hx => hmem x (List.mem_of_mem_take hx)))
  rw [List.length_map, List.length_take] at hs1
  have hsz5 : x5.size = (txt ((l.take i).map pickC)).length := by rw [← hx, bytesOf_length]
  have hsz : (rdOf ByteArray.empty sgB (pickC (rd l i) : Int)).size = (wd (pickC (rd l i))).length := by rw [← c1, bytesOf_length]
  rw [marginalialaw03_TokenWords.l0, if_pos (by omega), if_pos (by omega), if_pos (by omega), hp, if_pos (by omega), if_pos (by omega), if_pos (by rw [ByteArray.size_append]; omega), w64 (x := (i : Int) + 1) (by omega) (by omega)]
  refine ih (i + 1) _ k (by omega) ?_ (by omega)
  rw [bytesOf_append, bytesOf_append, hx, c1, List.take_add_one, List.map_append, txt_append]
  simp [hi, txt, hrd, bytesOf]
theorem TokenWords : ∀ (l0 : List Int), l0.length ≤ maxLen → l0.length * 1 ≤ 140737488351232 → (∀ x ∈ l0, (Lit.int .u8 x).wf = true) → ∃ k, P.marginalialaw03_TokenWords.f k l0 = some true := by
 intro l _ _ hw
 have hl : ∀ i : Nat, i < l.length → 0 ≤ rd l i ∧ rd l i < 256 := by
  intro i hi
  have h := hw l[i] (List.getElem_mem hi)
  have hrd : rd l i = l[i] := by unfold rd; simp [List.getD_eq_getElem?_getD, hi]
  rw [hrd]
  have hq := bounds_u8 h
  omega
 by_cases h : (l.length : Int) > 200
 ·refine ⟨200, ?_⟩
  unfold marginalialaw03_TokenWords.f
  rw [if_pos h, answers_eq]
  rfl
 ·refine ⟨4000, ?_⟩
  unfold marginalialaw03_TokenWords.f
  rw [if_neg h]
  exact law_l0 l hl (by omega) l.length 0 _ 4000 (by omega) (by rfl) (by omega)
end Go.Proofs.YtefefpkgiecikaaDoor.Pure
namespace Go.Proofs.YtefefpkgiecikaaDoor.tokenWords
open Go.ChangeShapes Go.WideShapes Go.ChangeAt Go.RowKit Go.Proofs.YtefefpkgiecikaaDoorW
open Go.ChangeMaps (open_string shut_string)
set_option linter.unusedVariables false
theorem own : ownKnob Tryd.prog.godebug = none := by kernel_rfl
theorem laidOut : laidOutB Tryd.prog = true := by kernel_rfl
def IsRow (k : IntKind) (w : World) (a : Option Addr) (len cap : Nat) (zs : List Int) : Prop :=
 (a = none ∧ len = 0 ∧ cap = 0 ∧ zs = []) ∨
 ∃ x, a = some x ∧ len ≤ cap ∧ cap ≤ maxLen ∧ zs.length = cap ∧ (∀ i, i < zs.length → w.cell? (x.add i) = some (.int k (zs.getD i 0))) ∧ ∀ n ∈ zs, (Lit.int k n).wf = true
theorem walk (a0 : Option Addr) (len0 cap0 : Nat) (z0 : List Int) (w : World) (hL : LD w) (w0 : IsRow .u8 w a0 len0 cap0 z0) (y0 : len0 * 1 ≤ 140737488351232) :
  Calls Tryd.prog 4 #[.slice a0 len0 cap0] w fun e w' => e = .returned (.bool true) ∧ Below w.heap.size w w' := by
 obtain ⟨l0, rfl, hr0, hm0, hw0, hc0⟩ := PrintWords.ReadsInt.ofRowC w0
 obtain ⟨k, h⟩ := Pure.TokenWords l0 hm0 y0 hw0
 refine (P.marginalialaw03_TokenWords.calls k _ _ l0 true w hL (PrintWords.Kd.C_of_reads (d := (0 : Int)) (h1 := fun _ => rfl) hr0) hc0 h).mono ?_
 rintro e w' ⟨rfl, hd⟩
 first | exact ⟨rfl, hd⟩ | exact ⟨rfl, hd.below⟩
theorem door_met (os : Os) (args : Array Value) : laidMetH Tryd.prog Rows.tokenWordsRow.laid ((World.laidAll Tryd.prog os Rows.tokenWordsRow.laid).forCall (fun _ _ => 0) ⟨#[], args, []⟩).memory := by
 rw [MakeChecks.laidMetH_plain _ _ _ (by kernel_rfl)]
 exact laidMet_laidAll _ (by kernel_rfl) (by kernel_rfl)
set_option maxRecDepth 100000 in
theorem lifted (os : Os) (started : os.Started) (H : Type) (enc : TypeId × Value → H) :
  ReturnsInHanded {} Tryd.checked os 4 .any (fun w args => (Rows.tokenWordsSpec.pre enc Tryd.prog Tryd.f4 [] false w args ∧ laidMetH Tryd.prog Rows.tokenWordsRow.laid w) ∧ sizedMet enc Tryd.prog Tryd.f4 (OpenSpec.ofChange Rows.tokenWordsSpec) false w args) (Rows.tokenWordsSpec.post enc Tryd.prog Tryd.f4 false true false false) := by
 refine returnsInHanded_of_change_and (C := Tryd.checked) (X := fun w _ => laidMetH Tryd.prog Rows.tokenWordsRow.laid w) (fun _ _ _ hh h => h.of_heap hh) own started (by kernel_rfl) Tryd.func4
  (ChangeSpec.witness_shaped (enc := enc) (C := Tryd.checked) (os := os) (X := fun w _ => laidMetH Tryd.prog Rows.tokenWordsRow.laid w) false (World.laidAll Tryd.prog os Rows.tokenWordsRow.laid) #[.slice none 0 0] 8 rfl (World.shaped_of_ZipB (by kernel_rfl) (by kernel_rfl)) (by kernel_rfl) (by kernel_rfl) (by kernel_rfl) (door_met os _)) ?_
 intro W base args ds gs before hval0 hW hcnd hsz0 hL0 _
 have hL := R.of_laid hL0
 have hsz : (DataW.weightsEach Tryd.prog (Tryd.f4.params.toList ++ Rows.tokenWordsSpec.plain.varTypes Tryd.prog) (ds ++ gs)).all (· ≤ reachBytes) = true := hsz0
 have hval : ∀ (j : Nat) t v, Tryd.f4.params[j]? = some t → args[j]? = some v → Value.okWide Tryd.prog W .any base t v := hval0
 have hW' := hW
 obtain ⟨p, q, hA0, hV, rfl, hfz, hnd⟩ := hW
 have hA : DataW.TrodAll enc Tryd.prog W 0 (fun _ => true) true Tryd.f4.params.toList args.toList ds p := hA0
 rw [Tryd.params4] at hA hval hsz
 obtain ⟨v0, vs0, d0, ds0, p0, q0, hargs, rfl, rfl, h0, r0⟩ := trodAll_cons hA
 obtain ⟨rfl, rfl, rfl⟩ := trodAll_nil r0
 obtain rfl : args = #[v0] := by cases args; simp_all
 obtain ⟨rfl, rfl⟩ := trodVars_none hV
 obtain ⟨a0, len0, cap0, rfl⟩ := okWide_slice Tryd.underlying27 (hval 0 27 v0 rfl rfl)
 have k0 := h0
 have lt0 : ∀ x ∈ p0, x.block < W.heap.size := by obtain ⟨m, hm⟩ := k0; exact DataW.trod_lt m _ _ _ hm
 obtain ⟨z0, w0⟩ : ∃ zs, IsRow .u8 W a0 len0 cap0 zs := by
  obtain ⟨fuel, hf⟩ := h0
  rcases open_ints Tryd.underlying27 Tryd.underlying5 (by kernel_rfl) hf with ⟨hcs, _⟩ | ⟨x, l, c, zs, hcs, _, hl, hm, hz, _, hcell, hwz⟩
  ·simp [Value.cells] at hcs
   obtain ⟨rfl, rfl, rfl⟩ := hcs
   exact ⟨[], .inl ⟨rfl, rfl, rfl, rfl⟩⟩
  ·simp [Value.cells] at hcs
   obtain ⟨rfl, rfl, rfl⟩ := hcs
   exact ⟨zs, .inr ⟨_, rfl, hl, hm, by simpa using hz, hcell, hwz⟩⟩
 have y0 : len0 * 1 ≤ 140737488351232 := PrintWords.sized_ints hsz (j := 0) (t := 27) rfl rfl Tryd.underlying27 Tryd.underlying5 (by kernel_rfl) (by kernel_rfl) h0
 clear hA0 hval0 hsz0 hsz
 refine (walk a0 len0 cap0 z0 W hL w0 y0).mono fun e W' ⟨he, bel⟩ => ?_
 subst he
 exact ⟨_, rfl, _, _, _, [], _, [], hW', trodAll_mk1 (shut_bool Tryd.underlying4 _), (trodAll_cons_mk (Below.trod laidOut (by kernel_rfl) (of_decide_eq_true (by kernel_rfl)) k0 bel lt0) trodAll_mk0), rfl, bel.frame _, fun h => by cases h⟩
theorem over : Rows.TokenWordsSaid :=
 OpenClaim.holds_of_wide 4 Tryd.f4 rfl rfl rfl rfl rfl rfl rfl ⟨rfl, rfl, rfl, rfl, rfl⟩ rfl rfl rfl rfl rfl (by kernel_rfl) Tryd.func4 (by kernel_rfl)
  (of_decide_eq_true (by kernel_rfl)) (by unfold Func.isWrapper; first | (rw [if_pos (by decide +kernel)]; kernel_rfl) | (rw [if_neg (by decide +kernel)]; exact ⟨rfl, rfl⟩))
  (fun os started H enc _ => lifted os started H enc)
theorem card_holds : Rows.TokenWordsCardSaid :=
 Claim7.holds_tied_plain_at .later [] [.data, .data, .data, .data, .sentinel, .sentinel, .data, .data, .pinned] true (true, "e1d2f9723d748b2be5023b7f0acfdbc32b0e3e039c35fb4b8538212f87a860f4") true
  over (fun _ h => by cases h) (by kernel_rfl) (fun _ h => by cases h) tokenWords_row_tie rfl ⟨rfl, rfl⟩ (by kernel_rfl) rfl
  (fun f fn hf hfn => by
   obtain rfl : f = 4 := Option.some.inj ((show Tryd.prog.funcNamed "marginalia/marginalialaw03.TokenWords" = some 4 by kernel_rfl).symm.trans hf) |>.symm
   obtain rfl : fn = Tryd.f4 := (Option.some.inj (Tryd.func4.symm.trans hfn)).symm
   exact ⟨by kernel_rfl, fun j t ht => by
    rw [Tryd.params4] at ht
    have hm : t ∈ [27] := by simpa using Array.mem_of_getElem? ht
    have hall : ([27].all fun u => !Tryd.prog.wantsStandIn u) = true := by kernel_rfl
    exact (show Tryd.prog.wantsStandIn t = false by simpa using List.all_eq_true.1 hall t hm)⟩)
  (by kernel_rfl)
#print axioms card_holds
end Go.Proofs.YtefefpkgiecikaaDoor.tokenWords
