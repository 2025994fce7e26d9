/- Words and walks for the claim, merged by a program of this session (part 1). -/
import Derived.Test.YtefefpkgiecikaaDoorProg
import Derived.Test.YtefefpkgiecikaaDoorTl0
import Derived.Shelf.Unicode.DecodeSlow
import Derived.Laws.Rows
import Derived.KernelRfl
import Derived.Defers
import Derived.Recover
import Derived.Below
import Derived.Deep.Draws
import Derived.Deep.AppendLies
import Derived.Maps.AppendAt
import Derived.OwnWalk
import Derived.Laws.BytesArg
import Derived.Laws.MakeOwn
import Derived.Laws.OwnMore
import Derived.Deep.OwnRows
import Derived.Tactics
import Derived.Lib.ConvBytes
import Derived.Laws.Slices
import Derived.WalkKit
import Derived.RowKit3
import Derived.Deep.LoopGhost
import Derived.Deep.QuietTactic
import Derived.BigQuiet
import Derived.WideLaws
import Derived.Deep.DeepCutAuto
import Derived.Deep.CutBlock
import Derived.Deep.RegionHeld3
import Derived.Lib.AppendStr
import Derived.ArgAppend
import Derived.Laws.IdiomCopy
import Derived.OrdersHeld
import Derived.Laws.BitsLemmas
import Derived.RowKit
import Derived.Shelf.Small.Strs
import Derived.Shelf.Spec.DecodeRune
import Derived.Shelf.Strconv.Atoi
import Derived.Shelf.Strings.SlTrimAscii
import Derived.Shelf.Unicode.DecodeAny
set_option linter.unusedVariables false
set_option linter.unusedSimpArgs false
namespace Go.Proofs.YtefefpkgiecikaaDoorW.PrintWords.Kd
open Go.RowKit Go.Proofs.YtefefpkgiecikaaDoorW.PrintWords Go.Proofs.YtefefpkgiecikaaDoorW.PrintMore
section
variable {P : Program} {ops : Array Oper} {rest : List Oper} {o : Oper} {a : Act} {Q : Exit → Act → World → Prop} {Kc : Act → World → Prop}
theorem conv_row (W : World) (e : Nat) (s : ByteArray) (hsz : s.size ≤ 9223372036854775807) (base : Nat) :
  V (int .u8) e (Lib.bytesWorld W e s) base (fun k => W.heap.size ≤ k) (.slice (some ⟨W.heap.size, 0, none⟩) s.size (grownCap W s.size 0 e)) (bytesOf s) := by
 refine ⟨some ⟨W.heap.size, 0, none⟩, grownCap W s.size 0 e, by rw [bytesOf_length], by rw [bytesOf_length]; exact grownCap_ge _ _ _ _, ?_⟩
 intro W' hk
 have hb := hk W.heap.size (Nat.le_refl _) (by rw [Lib.bytesWorld_size]; omega)
 have hr := bytes_reads W e s hsz
 rw [bytesOf_length]
 refine C_of_reads (d := (0 : Int)) (h1 := fun _ => rfl) ⟨hr.1, hr.2.1, fun hn => ?_⟩
 obtain ⟨ad, ea, hc⟩ := hr.2.2 hn
 refine ⟨ad, ea, fun j hj => ?_⟩
 injection ea with ea
 subst ea
 have h2 := hc j hj
 rw [← h2]
 refine World.cell?_of_block ?_
 have hbl : (Addr.add ⟨W.heap.size, 0, none⟩ j).block = W.heap.size := by unfold Addr.add; split <;> rfl
 rw [hbl]
 exact hb
theorem V_conv {w0 W : World} {base : Nat} (src dst e : Nat) (hgd : o.guard = none) {N : Tmp} (_hd : o.dst = some N) (s : ByteArray) {x : Operand} (ho : o.op = .convert src dst x) (hx : a.eval x = .string s) {u : TypeDesc}
  (hs : P.underlying src = some u) (hd : P.underlying dst = some (.slice e)) (he : P.underlying e = some (.int .u8)) (hsz : s.size ≤ 9223372036854775807) (HB : Below base w0 W) (hbase : base ≤ W.heap.size)
  (h : ∀ v1 w1, V (int .u8) e w1 base (fun k => W.heap.size ≤ k) v1 (bytesOf s) → Below base w0 w1 → W.grownBy w1 none → (∃ b, v1.ownBlock = some b ∧ W.heap.size ≤ b) → wpList P ops Q rest (a.put o.dst v1) w1) :
  wpList P ops Q (o :: rest) a W := by
 have hrun : (execOp a.eval o).run P W = .ok (.value (.slice (some ⟨W.heap.size, 0, none⟩) s.size (grownCap W s.size 0 e))) (Lib.bytesWorld W e s) := by
  have hc := print_bytes (P := P) src dst e hs hd he s W
  simp [execOp, ho, hx, hc]
 refine event_run hgd hrun (h _ _ (conv_row W e s hsz base) (bytes_below HB hbase e s) ?_ ⟨W.heap.size, by simp [Value.ownBlock], Nat.le_refl _⟩)
 exact grown_of_below (bytes_below (Below.refl _ _) (Nat.le_refl _) e s) none
end
end Go.Proofs.YtefefpkgiecikaaDoorW.PrintWords.Kd
namespace Go.Proofs.YtefefpkgiecikaaDoor
open Go.RowKit
def utf_names_0 (i : Int) : Int := ([32, 10, 9, 13, 0, 127] : List Int).getD i.toNat 0
def utf_names_1 (i : Int) : ByteArray := ([⟨#[115, 112, 97, 99, 101]⟩, ⟨#[110, 101, 119, 108, 105, 110, 101]⟩, ⟨#[116, 97, 98]⟩, ⟨#[114, 101, 116, 117, 114, 110]⟩, ⟨#[110, 117, 108, 108]⟩, ⟨#[100, 101, 108, 101, 116, 101]⟩] : List ByteArray).getD i.toNat ⟨#[]⟩
def utf_namesC : Array Value := #[.int .i64 32, .string ⟨#[115, 112, 97, 99, 101]⟩, .int .i64 10, .string ⟨#[110, 101, 119, 108, 105, 110, 101]⟩, .int .i64 9, .string ⟨#[116, 97, 98]⟩, .int .i64 13, .string ⟨#[114, 101, 116, 117, 114, 110]⟩, .int .i64 0, .string ⟨#[110, 117, 108, 108]⟩, .int .i64 127, .string ⟨#[100, 101, 108, 101, 116, 101]⟩]
def utf_namesV : Value := .agg utf_namesC
def token_signs_0 (i : Int) : ByteArray := ([⟨#[35, 44, 64]⟩, ⟨#[35, 40]⟩, ⟨#[35, 59]⟩, ⟨#[35, 39]⟩, ⟨#[35, 96]⟩, ⟨#[35, 44]⟩, ⟨#[44, 64]⟩, ⟨#[40]⟩, ⟨#[41]⟩, ⟨#[39]⟩, ⟨#[96]⟩, ⟨#[44]⟩] : List ByteArray).getD i.toNat ⟨#[]⟩
def token_signs_1 (i : Int) : Int := ([6, 3, 5, 6, 6, 6, 6, 1, 2, 6, 6, 6] : List Int).getD i.toNat 0
def token_signs_2 (i : Int) : ByteArray := ([⟨#[117, 110, 115, 121, 110, 116, 97, 120, 45, 115, 112, 108, 105, 99, 105, 110, 103]⟩, ⟨#[]⟩, ⟨#[]⟩, ⟨#[115, 121, 110, 116, 97, 120]⟩, ⟨#[113, 117, 97, 115, 105, 115, 121, 110, 116, 97, 120]⟩, ⟨#[117, 110, 115, 121, 110, 116, 97, 120]⟩, ⟨#[117, 110, 113, 117, 111, 116, 101, 45, 115, 112, 108, 105, 99, 105, 110, 103]⟩, ⟨#[]⟩, ⟨#[]⟩, ⟨#[113, 117, 111, 116, 101]⟩, ⟨#[113, 117, 97, 115, 105, 113, 117, 111, 116, 101]⟩, ⟨#[117, 110, 113, 117, 111, 116, 101]⟩] : List ByteArray).getD i.toNat ⟨#[]⟩
def token_signsC : Array Value := #[.string ⟨#[35, 44, 64]⟩, .int .i64 6, .string ⟨#[117, 110, 115, 121, 110, 116, 97, 120, 45, 115, 112, 108, 105, 99, 105, 110, 103]⟩, .string ⟨#[35, 40]⟩, .int .i64 3, .string ⟨#[]⟩, .string ⟨#[35, 59]⟩, .int .i64 5, .string ⟨#[]⟩, .string ⟨#[35, 39]⟩, .int .i64 6, .string ⟨#[115, 121, 110, 116, 97, 120]⟩, .string ⟨#[35, 96]⟩, .int .i64 6, .string ⟨#[113, 117, 97, 115, 105, 115, 121, 110, 116, 97, 120]⟩, .string ⟨#[35, 44]⟩, .int .i64 6, .string ⟨#[117, 110, 115, 121, 110, 116, 97, 120]⟩, .string ⟨#[44, 64]⟩, .int .i64 6, .string ⟨#[117, 110, 113, 117, 111, 116, 101, 45, 115, 112, 108, 105, 99, 105, 110, 103]⟩, .string ⟨#[40]⟩, .int .i64 1, .string ⟨#[]⟩, .string ⟨#[41]⟩, .int .i64 2, .string ⟨#[]⟩, .string ⟨#[39]⟩, .int .i64 6, .string ⟨#[113, 117, 111, 116, 101]⟩, .string ⟨#[96]⟩, .int .i64 6, .string ⟨#[113, 117, 97, 115, 105, 113, 117, 111, 116, 101]⟩, .string ⟨#[44]⟩, .int .i64 6, .string ⟨#[117, 110, 113, 117, 111, 116, 101]⟩]
def token_signsV : Value := .agg token_signsC
theorem utf_names_at (i : Int) (h0 : 0 ≤ i) (h1 : i < 6) : ∀ W : World, (Instr.index 116 utf_namesV (.int .i64 i)).run Tryd.prog W = .ok (.agg #[.int .i64 (utf_names_0 i), .string (utf_names_1 i)]) W := by
 obtain ⟨n, rfl⟩ := Int.eq_ofNat_of_zero_le h0
 have h : n = 0 ∨ n = 1 ∨ n = 2 ∨ n = 3 ∨ n = 4 ∨ n = 5 := by omega
 intro W
 rcases h with rfl | rfl | rfl | rfl | rfl | rfl <;> kernel_rfl
theorem token_signs_at (i : Int) (h0 : 0 ≤ i) (h1 : i < 12) : ∀ W : World, (Instr.index 65 token_signsV (.int .i64 i)).run Tryd.prog W = .ok (.agg #[.string (token_signs_0 i), .int .i64 (token_signs_1 i), .string (token_signs_2 i)]) W := by
 obtain ⟨n, rfl⟩ := Int.eq_ofNat_of_zero_le h0
 have h : n = 0 ∨ n = 1 ∨ n = 2 ∨ n = 3 ∨ n = 4 ∨ n = 5 ∨ n = 6 ∨ n = 7 ∨ n = 8 ∨ n = 9 ∨ n = 10 ∨ n = 11 := by omega
 intro W
 rcases h with rfl | rfl | rfl | rfl | rfl | rfl | rfl | rfl | rfl | rfl | rfl | rfl <;> kernel_rfl
structure LD (w : World) : Prop where
 utf8 : Lib.Utf8Tabs 1 2 w
 first_lt : 1 < w.heap.size
 acc_lt : 2 < w.heap.size
 names : ∃ t fr, w.heap[3]? = some (.cells utf_namesC t fr)
 signs : ∃ t fr, w.heap[0]? = some (.cells token_signsC t fr)
theorem lt_of_block {w : World} {g : Nat} {o : Obj} (h : w.heap[g]? = some o) : g < w.heap.size := by
 rcases Nat.lt_or_ge g w.heap.size with hlt | hge
 ·exact hlt
 ·rw [Array.getElem?_eq_none hge] at h; cases h
theorem LD.below {w W : World} (h : LD w) (hb : Below w.heap.size w W) : LD W where
 utf8 := ⟨fun c hc => (hb.cell (p := ⟨_, c, none⟩) h.first_lt).trans (h.utf8.1 c hc), fun i hi => ⟨(hb.cell (p := ⟨_, 2 * i, none⟩) h.acc_lt).trans (h.utf8.2 i hi).1, (hb.cell (p := ⟨_, 2 * i + 1, none⟩) h.acc_lt).trans (h.utf8.2 i hi).2⟩⟩
 first_lt := Nat.lt_of_lt_of_le h.first_lt hb.size
 acc_lt := Nat.lt_of_lt_of_le h.acc_lt hb.size
 names := by obtain ⟨t, fr, hn⟩ := h.names; exact ⟨t, fr, (hb.block _ (lt_of_block hn)).trans hn⟩
 signs := by obtain ⟨t, fr, hn⟩ := h.signs; exact ⟨t, fr, (hb.block _ (lt_of_block hn)).trans hn⟩
section
variable {P : Program} {ops : Array Oper} {rest : List Oper} {o : Oper} {a : Act} {Q : Exit → Act → World → Prop}
theorem LD.load_utf_names {W : World} (h : LD W) (hgd : o.guard = none) (ho : o.op = .load 116 (.global 3)) (k : wpList Tryd.prog ops Q rest (a.put o.dst utf_namesV) W) : wpList Tryd.prog ops Q (o :: rest) a W := by
 obtain ⟨t, fr, hn⟩ := h.names
 exact wpList_load_row hgd _ _ ho _ rfl t _ fr _ hn Tryd.underlying116 rfl (by kernel_rfl) k
theorem LD.load_token_signs {W : World} (h : LD W) (hgd : o.guard = none) (ho : o.op = .load 65 (.global 0)) (k : wpList Tryd.prog ops Q rest (a.put o.dst token_signsV) W) : wpList Tryd.prog ops Q (o :: rest) a W := by
 obtain ⟨t, fr, hn⟩ := h.signs
 exact wpList_load_row hgd _ _ ho _ rfl t _ fr _ hn Tryd.underlying65 rfl (by kernel_rfl) k
end
end Go.Proofs.YtefefpkgiecikaaDoor
namespace Go.Proofs.YtefefpkgiecikaaDoorW.PrintWords
open Go.RowKit
inductive ValsX (P : Program) (tmps : Array Value) (w : World) : List ResultVar → List Value → Prop where
 | nil : ValsX P tmps w [] []
 | tmp {u : Tmp} {rs : List ResultVar} {vs : List Value} (h : ValsX P tmps w rs vs) : ValsX P tmps w (.tmp u :: rs) (tmps.getD u undef :: vs)
 | cell {p : Tmp} {ty : TypeId} {rs : List ResultVar} {vs : List Value} (g : Nat) (t : TypeId) (cs : Array Value) (fr : Nat × Nat) (d : TypeDesc)
   (hp : tmps.getD p undef = .pointer (some ⟨g, 0, none⟩)) (hg : w.heap[g]? = some (.cells cs t fr))
   (hu : P.underlying ty = some d) (hd : (match d with | .struct _ | .array _ _ => true | _ => false) = true) (hi : (P.info? ty).map (·.size) = some cs.size)
   (h : ValsX P tmps w rs vs) : ValsX P tmps w (.cell p ty :: rs) (.agg cs :: vs)
 | plain {p : Tmp} {ty : TypeId} {rs : List ResultVar} {vs : List Value} (g : Nat) (t : TypeId) (v : Value) (d : TypeDesc)
   (hp : tmps.getD p undef = .pointer (some ⟨g, 0, none⟩)) (hg : w.heap[g]? = some (.cells #[v] t (0, 0)))
   (hu : P.underlying ty = some d) (hd : (match d with | .struct _ | .array _ _ => true | _ => false) = false)
   (h : ValsX P tmps w rs vs) : ValsX P tmps w (.cell p ty :: rs) (v :: vs)
section
variable {P : Program} {tmps : Array Value} {w : World}
theorem loadVar_plain (w : World) (a : Addr) (ty : TypeId) (v : Value) (d : TypeDesc) (hc : w.cell? a = some v) (hu : P.underlying ty = some d)
  (hd : (match d with | .struct _ | .array _ _ => true | _ => false) = false) : (loadVar ty a).run P w = .ok v w := by
 have h1 : (underlying ty).run P w = .ok d w := by simp [underlying, hu, go_sem]
 cases d <;> simp_all [loadVar, isAgg, go_sem]
theorem valsX_run {rs : List ResultVar} {vs : List Value} (hv : ValsX P tmps w rs vs) (f : ResultVar → Sem Value) (hf : ∀ u, f (.tmp u) = pure (tmps.getD u undef)) (hc : ∀ a t, f (.cell a t) = (do loadVar t (← asAddr (tmps.getD a undef)))) :
  (rs.mapM f).run P w = .ok vs w := by
 induction hv with
 | nil => simp
 | tmp h ih => simp [List.mapM_cons, hf, ih]
 | cell g t cs fr d hp hg hu hd hi h ih =>
  rw [List.mapM_cons, hc, hp]
  simp [asAddr, run_loadVar_row w g t _ cs fr d hg hu hd hi, ih]
 | plain g t v d hp hg hu hd h ih =>
  rw [List.mapM_cons, hc, hp]
  have hcell : w.cell? ⟨g, 0, none⟩ = some v := by have hq := blk_cell hg 0; simpa using hq
  simp [asAddr, loadVar_plain w ⟨g, 0, none⟩ _ v d hcell hu hd, ih]
theorem results_x {fn : Func} {rs : List ResultVar} {vs : List Value} (h : fn.results = rs.toArray) (hl : vs.length ≠ 1) (hv : ValsX P tmps w rs vs) : (results fn tmps).run P w = .ok (.tuple vs.toArray) w := by
 unfold results
 rw [h, List.mapM_toArray]
 simp only [Sem.run_bind, Sem.run_map]
 rw [valsX_run hv]
 ·simp [hl]
 ·intro u
  rfl
 ·intro a t
  rfl
theorem leaves_ret {fn : Func} {R : Ending → World → Prop} {v : Value} (h : (results fn tmps).run P w = .ok v w) (hR : R (.returned v) w) : Leaves P fn tmps R [] .returning w := ⟨v, h, hR⟩
theorem mapM_same {α β : Type} (f g : α → Sem β) : ∀ l : List α, (∀ x ∈ l, f x = g x) → l.mapM f = l.mapM g
 | [], _ => rfl
 | x :: l, h => by
  rw [List.mapM_cons, List.mapM_cons, h x (by simp), mapM_same f g l (fun y hy => h y (by simp [hy]))]
def offB (fn : Func) (N : Tmp) : Bool := fn.results.toList.all (fun r => match r with | .tmp t => t != N | .cell t _ => t != N)
theorem results_put {fn : Func} {a : Act} {N : Tmp} {v : Value} (h : offB fn N = true) : results fn (a.put (some N) v).tmps = results fn a.tmps := by
 unfold offB at h
 unfold results
 rw [← Array.toArray_toList (xs := fn.results), List.mapM_toArray, List.mapM_toArray]
 congr 2
 refine mapM_same _ _ _ (fun r hr => ?_)
 have h1 := List.all_eq_true.mp h r hr
 cases r with
 | tmp t =>
  simp only [bne_iff_ne, ne_eq] at h1
  simp [Act.put, Array.getD_eq_getD_getElem?, Array.getElem?_setIfInBounds, Ne.symm h1]
 | cell t ty =>
  simp only [bne_iff_ne, ne_eq] at h1
  simp [Act.put, Array.getD_eq_getD_getElem?, Array.getElem?_setIfInBounds, Ne.symm h1]
theorem leaves_same {fn : Func} {R : Ending → World → Prop} {t t' : Array Value} (h : results fn t = results fn t') : ∀ (ds : List Deferred) (u : FrameMode) (w : World), Leaves P fn t R ds u w → Leaves P fn t' R ds u w
 | [], .returning, w, ⟨v, hv, hR⟩ => ⟨v, h ▸ hv, hR⟩
 | [], .panicking _, _, hR => hR
 | _ :: ds, _, _, ⟨hu, fv, cap, f, args, h1, h2, h3⟩ => ⟨hu, fv, cap, f, args, h1, h2, h3.mono (fun e u' w' hh => by
   cases e with
   | returned v => exact leaves_same h ds _ _ hh
   | panicked c => exact leaves_same h ds _ _ hh
   | outgrown => exact hh)⟩
theorem leavesD_put {fn : Func} {R : Ending → World → Prop} {c : List PanicEntry} {a : Act} {N : Tmp} {v : Value} (h : offB fn N = true) (hh : bodyPostD P fn R (.panic c) (a.put (some N) v) w) : bodyPostD P fn R (.panic c) a w :=
 leaves_same (results_put h) _ _ _ hh
theorem leavesD_ret {fn : Func} {R : Ending → World → Prop} {a : Act} {v : Value} (hd : a.defers = []) (h : (results fn a.tmps).run P w = .ok v w) (hR : R (.returned v) w) : bodyPostD P fn R .ret a w := by
 show Leaves P fn a.tmps R a.defers .returning w
 rw [hd]
 exact leaves_ret h hR
theorem leaves_retx {fn : Func} {R : Ending → World → Prop} {rs : List ResultVar} {vs : List Value} (h : fn.results = rs.toArray) (hl : vs.length ≠ 1) (hv : ValsX P tmps w rs vs) (hR : R (.returned (.tuple vs.toArray)) w) : Leaves P fn tmps R [] (settle .returning) w :=
 leaves_ret (results_x h hl hv) hR
theorem leavesD_retx {fn : Func} {R : Ending → World → Prop} {a : Act} {rs : List ResultVar} {vs : List Value} (hd : a.defers = []) (h : fn.results = rs.toArray) (hl : vs.length ≠ 1) (hv : ValsX P a.tmps w rs vs) (hR : R (.returned (.tuple vs.toArray)) w) : bodyPostD P fn R .ret a w :=
 leavesD_ret hd (results_x h hl hv) hR
theorem leavesD_cons {fn : Func} {R : Ending → World → Prop} {a : Act} {fv : Fn} {cap dargs : Array Value} {ds : List Deferred} {f : FuncId} {args : Array Value}
  (hd : a.defers = { target := .fn fv cap, args := dargs } :: ds) (hi : (invoke (.fn fv cap) dargs).run P w = .ok (.enter f args) w)
  (h : CallsD P f args .returning w fun
   | .returned _, u', w' => Leaves P fn a.tmps R ds (settle u') w'
   | .panicked chain, u', w' => Leaves P fn a.tmps R ds (raised u' chain) w'
   | .outgrown, _, w' => R .outgrown w') : bodyPostD P fn R .ret a w := by
 show Leaves P fn a.tmps R a.defers .returning w
 rw [hd]
 exact leaves_cons (by simp) hi h
theorem leavesD_dies {fn : Func} {R : Ending → World → Prop} {a : Act} {fv : Fn} {cap dargs : Array Value} {ds : List Deferred} {f : FuncId} {args : Array Value} {chain : List PanicEntry}
  (hd : a.defers = { target := .fn fv cap, args := dargs } :: ds) (hi : (invoke (.fn fv cap) dargs).run P w = .ok (.enter f args) w)
  (h : CallsD P f args (.panicking chain) w fun
   | .returned _, u', w' => Leaves P fn a.tmps R ds (settle u') w'
   | .panicked chain, u', w' => Leaves P fn a.tmps R ds (raised u' chain) w'
   | .outgrown, _, w' => R .outgrown w') : bodyPostD P fn R (.panic chain) a w := by
 show Leaves P fn a.tmps R a.defers (.panicking chain) w
 rw [hd]
 exact leaves_cons (by simp) hi h
end
end Go.Proofs.YtefefpkgiecikaaDoorW.PrintWords
namespace Go.Proofs.YtefefpkgiecikaaDoor.P
open Go.RowKit Go.Proofs
theorem token_Scan_2_idle (a b c : Option Addr) (w : World) :
  CallsD Tryd.prog 12 #[.pointer a, .pointer b, .pointer c] .returning w fun e u' w' => e = .returned (.tuple #[]) ∧ u' = .returning ∧ w' = w := by
 refine callsD_of_wpS Tryd.func12 rfl fun c₀ cs hu => ?_
 apply wpS_seq
 apply wpS_region
 simp [wpOpsS, go_sem, recoverD, hu, Tryd.ntmps12, Exit.thenS]
 apply wpS_seq
 apply wpS_region
 simp [wpOpsS, go_sem, hu, Exit.thenS]
 refine wpS_cond (t := false) (by simp [Act.eval, Array.replicate]) ?_
 simp only [Bool.false_eq_true, if_false]
 refine wpS_of_wp (wp_skip ?_)
 cases c₀
 simp_all [bodyPostS, results, Tryd.results12]
end Go.Proofs.YtefefpkgiecikaaDoor.P
namespace Go.Proofs.YtefefpkgiecikaaDoor.P
open Go.RowKit Go.Proofs.YtefefpkgiecikaaDoorW.PrintWords Go.Proofs.YtefefpkgiecikaaDoorW.PrintLast Go.Proofs.YtefefpkgiecikaaDoorW.PrintMore
attribute [local go_sem] max2_int min2_int max_two min_two max_three min_three max_four min_four
set_option linter.unusedVariables false
set_option linter.unusedSimpArgs false
def errW : Option Int → Value
 | none => .nilIface
 | some c => .iface 0 (.int .i64 c)
theorem errW_none : errW none = .nilIface := rfl
theorem errW_some (c : Int) : errW (some c) = .iface 0 (.int .i64 c) := rfl
theorem info3 : (Tryd.prog.info? 3).map (fun i => (i.zero, i.size, i.bytes)) = some (some (.int .i64 0), 1, 8) := by kernel_rfl
theorem info5 : (Tryd.prog.info? 5).map (fun i => (i.zero, i.size, i.bytes)) = some (some (.int .u8 0), 1, 1) := by kernel_rfl
theorem info38 : (Tryd.prog.info? 38).map (fun i => (i.zero, i.size, i.bytes)) = some (some (.agg #[(.int .i64 0), (.string ⟨#[]⟩), (.int .i64 0), (.string ⟨#[]⟩), (.bool false), (.slice none 0 0), (.slice none 0 0), (.int .i64 0), (.int .i64 0)]), 9, 120) := by kernel_rfl
theorem info73 : (Tryd.prog.info? 73).map (fun i => (i.zero, i.size, i.bytes)) = some (some (.int .u32 0), 1, 4) := by kernel_rfl
structure S30 where
 f0 : Bool
 f1 : (List Int)
def z30 : S30 := ⟨false, ([] : List Int)⟩
def k30 : Kd S30 := Kd.iso (Kd.pair Kd.bool (Kd.slice 73 (Kd.int .u32))) (fun x : S30 => (x.f0, x.f1))
theorem k30_open {w : World} {x : S30} {cs : List Value} (h : k30.K w x cs) : ∃ A1 c1, cs = [.bool x.f0, .slice A1 x.f1.length c1] ∧ x.f1.length ≤ c1 ∧ (Kd.int .u32).C w A1 x.f1.length x.f1 := by
 obtain ⟨_, _, rfl, rfl, ⟨A1, c1, rfl, l1, g1⟩⟩ := h
 exact ⟨A1, c1, rfl, l1, g1⟩
theorem k30_mk (w : World) (x : S30) {A1 : Option Addr} {c1 : Nat} (l1 : x.f1.length ≤ c1) (g1 : (Kd.int .u32).C w A1 x.f1.length x.f1) : k30.K w x [.bool x.f0, .slice A1 x.f1.length c1] := ⟨[.bool x.f0], [.slice A1 x.f1.length c1], rfl, rfl, ⟨A1, c1, rfl, l1, g1⟩⟩
structure S33 where
 f0 : Int
 f1 : ByteArray
 f2 : S30
 f3 : (List S33)
 f4 : Int
def z33 : S33 := ⟨(0 : Int), (⟨#[]⟩ : ByteArray), z30, ([] : List S33), (0 : Int)⟩
def F33 (d : Kd S33) : Kd S33 := Kd.iso (Kd.pair (Kd.int .i64) (Kd.pair Kd.string (Kd.pair k30 (Kd.pair (Kd.slice 33 d) (Kd.int .i64))))) (fun x : S33 => (x.f0, x.f1, x.f2, x.f3, x.f4))
theorem mono33 : Kd.Mono F33 := Kd.mono_iso _ (Kd.mono_pair (Kd.mono_const _) (Kd.mono_pair (Kd.mono_const _) (Kd.mono_pair (Kd.mono_const _) (Kd.mono_pair (Kd.mono_slice 33 Kd.mono_id) (Kd.mono_const _)))))
theorem sub33 : Kd.Sub F33 [33, 73] := Kd.sub_iso _ (Kd.sub_pair (Kd.sub_const _ (by decide)) (Kd.sub_pair (Kd.sub_const _ (by decide)) (Kd.sub_pair (Kd.sub_const _ (by decide)) (Kd.sub_pair (Kd.sub_slice 33 (by decide) Kd.sub_id) (Kd.sub_const _ (by decide))))))
theorem sz33 : ∀ n, (Kd.upto F33 6 [33, 73] n).sz = 6 := Kd.upto_sz (fun _ => rfl)
def k33 : Kd S33 := Kd.fix F33 6 [33, 73] sz33 (Kd.upto_E sub33)
theorem k33_open {w : World} {x : S33} {cs : List Value} (h : k33.K w x cs) : ∃ A3 c3 A4 c4, cs = [.int .i64 x.f0, .string x.f1, .bool x.f2.f0, .slice A3 x.f2.f1.length c3, .slice A4 x.f3.length c4, .int .i64 x.f4] ∧ x.f2.f1.length ≤ c3 ∧ (Kd.int .u32).C w A3 x.f2.f1.length x.f2.f1 ∧ x.f3.length ≤ c4 ∧ k33.C w A4 x.f3.length x.f3 := by
 obtain ⟨n, h⟩ := h
 cases n with
 | zero => exact h.elim
 | succ n =>
  obtain ⟨_, _, rfl, rfl, ⟨_, _, rfl, rfl, ⟨_, _, rfl, s2, ⟨_, _, rfl, ⟨A4, c4, rfl, l4, g4⟩, rfl⟩⟩⟩⟩ := h
  obtain ⟨A3, c3, rfl, l3, g3⟩ := k30_open s2
  exact ⟨A3, c3, A4, c4, rfl, l3, g3, l4, Kd.fix_C g4⟩
theorem k33_mk (w : World) (x : S33) {A3 : Option Addr} {c3 : Nat} (l3 : x.f2.f1.length ≤ c3) (g3 : (Kd.int .u32).C w A3 x.f2.f1.length x.f2.f1) {A4 : Option Addr} {c4 : Nat} (l4 : x.f3.length ≤ c4) (g4 : k33.C w A4 x.f3.length x.f3) : k33.K w x [.int .i64 x.f0, .string x.f1, .bool x.f2.f0, .slice A3 x.f2.f1.length c3, .slice A4 x.f3.length c4, .int .i64 x.f4] := by
 obtain ⟨n4, q4⟩ := Kd.fix_C_back mono33 g4
 have r4 := Kd.upto_C_le mono33 sz33 (show n4 ≤ n4 by omega) q4
 exact ⟨n4 + 1, ⟨[.int .i64 x.f0], [.string x.f1, .bool x.f2.f0, .slice A3 x.f2.f1.length c3, .slice A4 x.f3.length c4, .int .i64 x.f4], rfl, rfl, ⟨[.string x.f1], [.bool x.f2.f0, .slice A3 x.f2.f1.length c3, .slice A4 x.f3.length c4, .int .i64 x.f4], rfl, rfl, ⟨[.bool x.f2.f0, .slice A3 x.f2.f1.length c3], [.slice A4 x.f3.length c4, .int .i64 x.f4], rfl, (k30_mk w x.f2 l3 g3), ⟨[.slice A4 x.f3.length c4], [.int .i64 x.f4], rfl, ⟨A4, c4, rfl, l4, r4⟩, rfl⟩⟩⟩⟩⟩
structure S38 where
 f0 : Int
 f1 : ByteArray
 f2 : S33
 f3 : Int
def z38 : S38 := ⟨(0 : Int), (⟨#[]⟩ : ByteArray), z33, (0 : Int)⟩
def k38 : Kd S38 := Kd.iso (Kd.pair (Kd.int .i64) (Kd.pair Kd.string (Kd.pair k33 (Kd.int .i64)))) (fun x : S38 => (x.f0, x.f1, x.f2, x.f3))
theorem k38_open {w : World} {x : S38} {cs : List Value} (h : k38.K w x cs) : ∃ A5 c5 A6 c6, cs = [.int .i64 x.f0, .string x.f1, .int .i64 x.f2.f0, .string x.f2.f1, .bool x.f2.f2.f0, .slice A5 x.f2.f2.f1.length c5, .slice A6 x.f2.f3.length c6, .int .i64 x.f2.f4, .int .i64 x.f3] ∧ x.f2.f2.f1.length ≤ c5 ∧ (Kd.int .u32).C w A5 x.f2.f2.f1.length x.f2.f2.f1 ∧ x.f2.f3.length ≤ c6 ∧ k33.C w A6 x.f2.f3.length x.f2.f3 := by
 obtain ⟨_, _, rfl, rfl, ⟨_, _, rfl, rfl, ⟨_, _, rfl, s2, rfl⟩⟩⟩ := h
 obtain ⟨A5, c5, A6, c6, rfl, l5, g5, l6, g6⟩ := k33_open s2
 exact ⟨A5, c5, A6, c6, rfl, l5, g5, l6, g6⟩
theorem k38_mk (w : World) (x : S38) {A5 : Option Addr} {c5 : Nat} (l5 : x.f2.f2.f1.length ≤ c5) (g5 : (Kd.int .u32).C w A5 x.f2.f2.f1.length x.f2.f2.f1) {A6 : Option Addr} {c6 : Nat} (l6 : x.f2.f3.length ≤ c6) (g6 : k33.C w A6 x.f2.f3.length x.f2.f3) : k38.K w x [.int .i64 x.f0, .string x.f1, .int .i64 x.f2.f0, .string x.f2.f1, .bool x.f2.f2.f0, .slice A5 x.f2.f2.f1.length c5, .slice A6 x.f2.f3.length c6, .int .i64 x.f2.f4, .int .i64 x.f3] := ⟨[.int .i64 x.f0], [.string x.f1, .int .i64 x.f2.f0, .string x.f2.f1, .bool x.f2.f2.f0, .slice A5 x.f2.f2.f1.length c5, .slice A6 x.f2.f3.length c6, .int .i64 x.f2.f4, .int .i64 x.f3], rfl, rfl, ⟨[.string x.f1], [.int .i64 x.f2.f0, .string x.f2.f1, .bool x.f2.f2.f0, .slice A5 x.f2.f2.f1.length c5, .slice A6 x.f2.f3.length c6, .int .i64 x.f2.f4, .int .i64 x.f3], rfl, rfl, ⟨[.int .i64 x.f2.f0, .string x.f2.f1, .bool x.f2.f2.f0, .slice A5 x.f2.f2.f1.length c5, .slice A6 x.f2.f3.length c6, .int .i64 x.f2.f4], [.int .i64 x.f3], rfl, (k33_mk w x.f2 l5 g5 l6 g6), rfl⟩⟩⟩
theorem k38_openF {W : World} {ok : Nat → Prop} {x : S38} {cs : List Value} (h : Kd.FK k38 W ok x cs) : ∃ A5 c5 A6 c6, cs = [.int .i64 x.f0, .string x.f1, .int .i64 x.f2.f0, .string x.f2.f1, .bool x.f2.f2.f0, .slice A5 x.f2.f2.f1.length c5, .slice A6 x.f2.f3.length c6, .int .i64 x.f2.f4, .int .i64 x.f3] ∧ x.f2.f2.f1.length ≤ c5 ∧ Kd.F (Kd.int .u32) W ok A5 x.f2.f2.f1.length x.f2.f2.f1 ∧ x.f2.f3.length ≤ c6 ∧ Kd.F k33 W ok A6 x.f2.f3.length x.f2.f3 := by
 obtain ⟨A5, c5, A6, c6, rfl, l5, _, l6, _⟩ := k38_open (Kd.FK_now h)
 exact ⟨A5, c5, A6, c6, rfl, l5, (fun W' hW => by obtain ⟨A5_, c5_, A6_, c6_, he, l5_, g5_, l6_, g6_⟩ := k38_open (h W' hW); injection (Option.some.inj (show some (Value.slice A5 x.f2.f2.f1.length c5) = some (Value.slice A5_ x.f2.f2.f1.length c5_) from congrArg (fun l => l[5]?) he)) with ha_ _ _; rw [ha_]; exact g5_), l6, (fun W' hW => by obtain ⟨A5_, c5_, A6_, c6_, he, l5_, g5_, l6_, g6_⟩ := k38_open (h W' hW); injection (Option.some.inj (show some (Value.slice A6 x.f2.f3.length c6) = some (Value.slice A6_ x.f2.f3.length c6_) from congrArg (fun l => l[6]?) he)) with ha_ _ _; rw [ha_]; exact g6_)⟩
theorem k38_mkF (W : World) (ok : Nat → Prop) (x : S38) {A5 : Option Addr} {c5 : Nat} (l5 : x.f2.f2.f1.length ≤ c5) (g5 : Kd.F (Kd.int .u32) W ok A5 x.f2.f2.f1.length x.f2.f2.f1) {A6 : Option Addr} {c6 : Nat} (l6 : x.f2.f3.length ≤ c6) (g6 : Kd.F k33 W ok A6 x.f2.f3.length x.f2.f3) : Kd.FK k38 W ok x [.int .i64 x.f0, .string x.f1, .int .i64 x.f2.f0, .string x.f2.f1, .bool x.f2.f2.f0, .slice A5 x.f2.f2.f1.length c5, .slice A6 x.f2.f3.length c6, .int .i64 x.f2.f4, .int .i64 x.f3] := fun W2 hW => k38_mk W2 x l5 (g5 W2 hW) l6 (g6 W2 hW)
def rd_T38 (xs : List S38) (i : Int) : S38 := xs.getD i.toNat z38
theorem at_T38 {w : World} {A : Option Addr} {n : Nat} {xs : List S38} (h : Kd.C k38 w A n xs) (i : Int) (h0 : 0 ≤ i) (h1 : i < n) : ∃ ad A5 c5 A6 c6, A = some ad ∧ w.cell? (ad.add (i.toNat * 9)) = some (.int .i64 (rd_T38 xs i).f0) ∧ w.cell? ⟨(ad.add (i.toNat * 9)).block, (ad.add (i.toNat * 9)).off + 1, none⟩ = some (.string (rd_T38 xs i).f1) ∧ w.cell? ⟨(ad.add (i.toNat * 9)).block, (ad.add (i.toNat * 9)).off + 2, none⟩ = some (.int .i64 (rd_T38 xs i).f2.f0) ∧ w.cell? ⟨(ad.add (i.toNat * 9)).block, (ad.add (i.toNat * 9)).off + 3, none⟩ = some (.string (rd_T38 xs i).f2.f1) ∧ w.cell? ⟨(ad.add (i.toNat * 9)).block, (ad.add (i.toNat * 9)).off + 4, none⟩ = some (.bool (rd_T38 xs i).f2.f2.f0) ∧ w.cell? ⟨(ad.add (i.toNat * 9)).block, (ad.add (i.toNat * 9)).off + 5, none⟩ = some (.slice A5 (rd_T38 xs i).f2.f2.f1.length c5) ∧ w.cell? ⟨(ad.add (i.toNat * 9)).block, (ad.add (i.toNat * 9)).off + 6, none⟩ = some (.slice A6 (rd_T38 xs i).f2.f3.length c6) ∧ w.cell? ⟨(ad.add (i.toNat * 9)).block, (ad.add (i.toNat * 9)).off + 7, none⟩ = some (.int .i64 (rd_T38 xs i).f2.f4) ∧ w.cell? ⟨(ad.add (i.toNat * 9)).block, (ad.add (i.toNat * 9)).off + 8, none⟩ = some (.int .i64 (rd_T38 xs i).f3) ∧ (rd_T38 xs i).f2.f2.f1.length ≤ c5 ∧ (Kd.int .u32).C w A5 (rd_T38 xs i).f2.f2.f1.length (rd_T38 xs i).f2.f2.f1 ∧ (rd_T38 xs i).f2.f3.length ≤ c6 ∧ k33.C w A6 (rd_T38 xs i).f2.f3.length (rd_T38 xs i).f2.f3 := by
 obtain ⟨ad, c, e, _, hK, hc0⟩ := Kd.C_get h z38 i h0 h1
 have hc : ∀ j u, c[j]? = some u → w.cell? (ad.add (i.toNat * 9 + j)) = some u := hc0
 obtain ⟨A5, c5, A6, c6, rfl, l5, g5, l6, g6⟩ := k38_open hK
 exact ⟨ad, A5, c5, A6, c6, e, hc 0 _ rfl, by rw [← add_field _ _ 1 (by omega)]; exact hc 1 _ rfl, by rw [← add_field _ _ 2 (by omega)]; exact hc 2 _ rfl, by rw [← add_field _ _ 3 (by omega)]; exact hc 3 _ rfl, by rw [← add_field _ _ 4 (by omega)]; exact hc 4 _ rfl, by rw [← add_field _ _ 5 (by omega)]; exact hc 5 _ rfl, by rw [← add_field _ _ 6 (by omega)]; exact hc 6 _ rfl, by rw [← add_field _ _ 7 (by omega)]; exact hc 7 _ rfl, by rw [← add_field _ _ 8 (by omega)]; exact hc 8 _ rfl, l5, g5, l6, g6⟩
end Go.Proofs.YtefefpkgiecikaaDoor.P
namespace Go.Proofs.YtefefpkgiecikaaDoor.P
open Go.RowKit Go.Proofs.YtefefpkgiecikaaDoorW.PrintWords Go.Proofs.YtefefpkgiecikaaDoorW.PrintLast Go.Proofs.YtefefpkgiecikaaDoorW.PrintMore
attribute [local go_sem] max2_int min2_int max_two min_two max_three min_three max_four min_four
set_option linter.unusedVariables false
set_option linter.unusedSimpArgs false
def stringslite_HasPrefix.f (a0 : ByteArray) (a1 : ByteArray) : Option (Bool) := if (a0.size : Int) ≥ (a1.size : Int) then (if 0 ≤ (a1.size : Int) then (if (a1.size : Int) ≤ (a0.size : Int) then (some ((a0.extract 0 ((a1.size : Int) : Int).toNat).toList == a1.toList)) else (none)) else (none)) else (some false)
set_option maxHeartbeats 8000000 in
set_option maxRecDepth 100000 in
theorem stringslite_HasPrefix.calls (a0 : ByteArray) (a1 : ByteArray) (r : Bool) (w : World) (h : stringslite_HasPrefix.f a0 a1 = some r) :
  Calls Tryd.prog 34 #[.string a0, .string a1] w fun e w' => e = .returned (.bool r) ∧ Drawn0 w w' := by
 have H : (if (a0.size : Int) ≥ (a1.size : Int) then (if 0 ≤ (a1.size : Int) then (if (a1.size : Int) ≤ (a0.size : Int) then (some ((a0.extract 0 ((a1.size : Int) : Int).toNat).toList == a1.toList)) else (none)) else (none)) else (some false)) = some r := h
 clear h
 by_cases c3 : (a0.size : Int) ≥ (a1.size : Int)
 ·rw [if_pos c3] at H
  have c3b0 : decide ((a1.size : Int) ≤ (a0.size : Int)) = true := decide_eq_true c3
  have c3b1 : decide (a1.size ≤ a0.size) = true := decide_eq_true (Int.ofNat_le.mp c3)
  clear c3
  by_cases c4 : 0 ≤ (a1.size : Int)
  ·rw [if_pos c4] at H
   have c4b0 := eq_true c4
   have c4b1 : decide (0 ≤ (a1.size : Int)) = true := decide_eq_true c4
   clear c4
   by_cases c5 : (a1.size : Int) ≤ (a0.size : Int)
   ·rw [if_pos c5] at H
    have c5b0 := eq_true c5
    have c5b1 : decide ((a1.size : Int) ≤ (a0.size : Int)) = true := decide_eq_true c5
    clear c5
    obtain rfl := Option.some.inj H
    go_enter Tryd.func34, Tryd.ntmps34
    go_wp2
    go_ret
    exact ⟨by first|rfl|(simp;done)|(simp [*];done), by repeat (first|exact Drawn0.refl _|apply Drawn0.step)⟩
   ·rw [if_neg c5] at H
    exact absurd H (by simp)
  ·rw [if_neg c4] at H
   exact absurd H (by simp)
 ·rw [if_neg c3] at H
  have c3b0 : decide ((a1.size : Int) ≤ (a0.size : Int)) = false := decide_eq_false c3
  have c3b1 : decide (a1.size ≤ a0.size) = false := decide_eq_false (fun h => c3 (Int.ofNat_le.mpr h))
  clear c3
  obtain rfl := Option.some.inj H
  go_enter Tryd.func34, Tryd.ntmps34
  go_wp2
  go_ret
  exact ⟨by first|rfl|(simp;done)|(simp [*];done), by repeat (first|exact Drawn0.refl _|apply Drawn0.step)⟩
end Go.Proofs.YtefefpkgiecikaaDoor.P
namespace Go.Proofs.YtefefpkgiecikaaDoor.P
open Go.RowKit Go.Proofs.YtefefpkgiecikaaDoorW.PrintWords Go.Proofs.YtefefpkgiecikaaDoorW.PrintLast Go.Proofs.YtefefpkgiecikaaDoorW.PrintMore
attribute [local go_sem] max2_int min2_int max_two min_two max_three min_three max_four min_four
set_option linter.unusedVariables false
set_option linter.unusedSimpArgs false
def stringslite_TrimPrefix.f (a0 : ByteArray) (a1 : ByteArray) : Option (ByteArray) := (stringslite_HasPrefix.f a0 a1).bind fun t115 => (if t115 = true then (if 0 ≤ (a1.size : Int) then (if (a1.size : Int) ≤ (a0.size : Int) then (some (a0.extract ((a1.size : Int) : Int).toNat a0.size)) else (none)) else (none)) else (some a0))
set_option maxHeartbeats 8000000 in
set_option maxRecDepth 100000 in
theorem stringslite_TrimPrefix.calls (a0 : ByteArray) (a1 : ByteArray) (r : ByteArray) (w : World) (h : stringslite_TrimPrefix.f a0 a1 = some r) :
  Calls Tryd.prog 40 #[.string a0, .string a1] w fun e w' => e = .returned (.string r) ∧ Drawn0 w w' := by
 have H : ((stringslite_HasPrefix.f a0 a1).bind fun t115 => (if t115 = true then (if 0 ≤ (a1.size : Int) then (if (a1.size : Int) ≤ (a0.size : Int) then (some (a0.extract ((a1.size : Int) : Int).toNat a0.size)) else (none)) else (none)) else (some a0))) = some r := h
 clear h
 replace H := Option.bind_eq_some_iff.mp H
 obtain ⟨t115, A30, H⟩ := H
 replace H : (if t115 = true then (if 0 ≤ (a1.size : Int) then (if (a1.size : Int) ≤ (a0.size : Int) then (some (a0.extract ((a1.size : Int) : Int).toNat a0.size)) else (none)) else (none)) else (some a0)) = some r := H
 have A3 := Aside0.mk A30
 clear A30
 by_cases c4 : t115 = true
 ·subst c4
  have H1 : (if 0 ≤ (a1.size : Int) then (if (a1.size : Int) ≤ (a0.size : Int) then (some (a0.extract ((a1.size : Int) : Int).toNat a0.size)) else (none)) else (none)) = some r := by rw [if_pos rfl] at H; exact H
  clear H
  have H := H1
  clear H1
  by_cases c5 : 0 ≤ (a1.size : Int)
  ·rw [if_pos c5] at H
   have c5b0 := eq_true c5
   have c5b1 : decide (0 ≤ (a1.size : Int)) = true := decide_eq_true c5
   clear c5
   by_cases c6 : (a1.size : Int) ≤ (a0.size : Int)
   ·rw [if_pos c6] at H
    have c6b0 := eq_true c6
    have c6b1 : decide ((a1.size : Int) ≤ (a0.size : Int)) = true := decide_eq_true c6
    clear c6
    obtain rfl := Option.some.inj H
    go_enter Tryd.func40, Tryd.ntmps40
    go_wp2_with (first|((with_reducible refine gate_callee (f := 34) rfl ?_);refine goesL_ (some 7) rfl rfl Tryd.func34 (by kernel_rfl) rfl #[.string a0, .string a1] rfl (by (try simp only [List.map_toArray, List.map_cons, List.map_nil]);first|done|rfl|(simp only [List.length_drop, List.length_take];rfl)) ?_;(with_reducible refine (stringslite_HasPrefix.calls a0 a1 true _ A3.out).mono ?_);rintro e w' ⟨rfl, ⟨nd, rfl⟩⟩;refine ⟨_, rfl, ?_⟩))
    go_ret
    exact ⟨by first|rfl|(simp;done)|(simp [*];done), by repeat (first|exact Drawn0.refl _|apply Drawn0.step)⟩
   ·rw [if_neg c6] at H
    exact absurd H (by simp)
  ·rw [if_neg c5] at H
   exact absurd H (by simp)
 ·replace c4 := Bool.eq_false_iff.mpr c4
  subst c4
  have H1 : (some a0) = some r := by rw [if_neg (show ¬ (false = true) by decide)] at H; exact H
  clear H
  have H := H1
  clear H1
  obtain rfl := Option.some.inj H
  go_enter Tryd.func40, Tryd.ntmps40
  go_wp2_with (first|((with_reducible refine gate_callee (f := 34) rfl ?_);refine goesL_ (some 7) rfl rfl Tryd.func34 (by kernel_rfl) rfl #[.string a0, .string a1] rfl (by (try simp only [List.map_toArray, List.map_cons, List.map_nil]);first|done|rfl|(simp only [List.length_drop, List.length_take];rfl)) ?_;(with_reducible refine (stringslite_HasPrefix.calls a0 a1 false _ A3.out).mono ?_);rintro e w' ⟨rfl, ⟨nd, rfl⟩⟩;refine ⟨_, rfl, ?_⟩))
  go_ret
  exact ⟨by first|rfl|(simp;done)|(simp [*];done), by repeat (first|exact Drawn0.refl _|apply Drawn0.step)⟩
end Go.Proofs.YtefefpkgiecikaaDoor.P
namespace Go.Proofs.YtefefpkgiecikaaDoor.P
open Go.RowKit Go.Proofs.YtefefpkgiecikaaDoorW.PrintWords Go.Proofs.YtefefpkgiecikaaDoorW.PrintLast Go.Proofs.YtefefpkgiecikaaDoorW.PrintMore
attribute [local go_sem] max2_int min2_int max_two min_two max_three min_three max_four min_four
set_option linter.unusedVariables false
set_option linter.unusedSimpArgs false
def strings_TrimPrefix.f (a0 : ByteArray) (a1 : ByteArray) : Option (ByteArray) := (stringslite_TrimPrefix.f a0 a1).bind fun t116 => (some t116)
set_option maxHeartbeats 8000000 in
set_option maxRecDepth 100000 in
theorem strings_TrimPrefix.calls (a0 : ByteArray) (a1 : ByteArray) (r : ByteArray) (w : World) (h : strings_TrimPrefix.f a0 a1 = some r) :
  Calls Tryd.prog 28 #[.string a0, .string a1] w fun e w' => e = .returned (.string r) ∧ Drawn0 w w' := by
 have H : ((stringslite_TrimPrefix.f a0 a1).bind fun t116 => (some t116)) = some r := h
 clear h
 replace H := Option.bind_eq_some_iff.mp H
 obtain ⟨t116, A30, H⟩ := H
 replace H : (some t116) = some r := H
 have A3 := Aside0.mk A30
 clear A30
 obtain rfl := Option.some.inj H
 go_enter Tryd.func28, Tryd.ntmps28
 go_wp2_with (first|((with_reducible refine gate_callee (f := 40) rfl ?_);refine goesL_ (some 7) rfl rfl Tryd.func40 (by kernel_rfl) rfl #[.string a0, .string a1] rfl (by (try simp only [List.map_toArray, List.map_cons, List.map_nil]);first|done|rfl|(simp only [List.length_drop, List.length_take];rfl)) ?_;(with_reducible refine (stringslite_TrimPrefix.calls a0 a1 t116 _ A3.out).mono ?_);rintro e w' ⟨rfl, ⟨nd, rfl⟩⟩;refine ⟨_, rfl, ?_⟩))
 go_ret
 exact ⟨by first|rfl|(simp;done)|(simp [*];done), by repeat (first|exact Drawn0.refl _|apply Drawn0.step)⟩
end Go.Proofs.YtefefpkgiecikaaDoor.P
namespace Go.Proofs.YtefefpkgiecikaaDoor.P
open Go.RowKit Go.Proofs.YtefefpkgiecikaaDoorW.PrintWords Go.Proofs.YtefefpkgiecikaaDoorW.PrintLast Go.Proofs.YtefefpkgiecikaaDoorW.PrintMore
attribute [local go_sem] max2_int min2_int max_two min_two max_three min_three max_four min_four
set_option linter.unusedVariables false
set_option linter.unusedSimpArgs false
def num_cut.l0 : Nat → List Int → Option (List Int)
 | 0, _ => none
 | k + 1, x0 => if (x0.length : Int) > 0 then (if 0 ≤ (wrap64 ((x0.length : Int) - 1)) then (if (wrap64 ((x0.length : Int) - 1)) < (x0.length : Int) then (if (rd x0 (wrap64 ((x0.length : Int) - 1))) = 0 then (if (wrap64 ((x0.length : Int) - 1)) ≤ (x0.length : Int) then (num_cut.l0 k (x0.take ((wrap64 ((x0.length : Int) - 1)) : Int).toNat)) else (none)) else (some x0)) else (none)) else (none)) else (some x0)
def num_cut.f (k : Nat) (l0 : List Int) : Option (List Int) := num_cut.l0 k l0
theorem num_cut.mono_l : ∀ k, (∀ y0, LeO (num_cut.l0 k y0) (num_cut.l0 (k + 1) y0))
 | 0 => fun _ r h => by simp [num_cut.l0] at h
 | k + 1 => by
  have ih0 := num_cut.mono_l k
  ·intro y0
   unfold num_cut.l0
   repeat' first
   | (with_reducible exact ih0 _)
   | (with_reducible exact LeO.refl _)
   | (with_reducible exact LeO.none _)
   | (with_reducible refine LeO.ite ?_ ?_)
   | (with_reducible refine LeO.bind ?_ (fun _ => ?_))
   | exact ih0 _
   | exact LeO.none _
   | refine LeO.ite ?_ ?_
   | refine LeO.bind ?_ (fun _ => ?_)
theorem num_cut.mono : ∀ a0 k, LeO (num_cut.f k a0) (num_cut.f (k + 1) a0) := by
 intro a0 k
 have ih0 := num_cut.mono_l k
 unfold num_cut.f
 repeat' first
   | (with_reducible exact ih0 _)
   | (with_reducible exact LeO.refl _)
   | (with_reducible exact LeO.none _)
   | (with_reducible refine LeO.ite ?_ ?_)
   | (with_reducible refine LeO.bind ?_ (fun _ => ?_))
   | exact ih0 _
   | exact LeO.none _
   | refine LeO.ite ?_ ?_
   | refine LeO.bind ?_ (fun _ => ?_)
set_option maxHeartbeats 8000000 in
set_option maxRecDepth 100000 in
theorem num_cut.calls (k : Nat) (P0_ : Nat → Prop) (A0 : Option Addr) (c0 : Nat) (l0 : List Int) (r : List Int) (w : World) (hs0 : Kd.V (Kd.int .u32) 73 w w.heap.size (fun k_ => P0_ k_) (.slice A0 l0.length c0) l0) (h : num_cut.f k l0 = some r) :
  Calls Tryd.prog 50 #[.slice A0 l0.length c0] w fun e w' => ∃ v0_ : Value, e = .returned (v0_) ∧ Kd.V (Kd.int .u32) 73 w' w.heap.size (fun k_ => (P0_ k_ ∨ w.heap.size ≤ k_)) v0_ r ∧ Below w.heap.size w w' := by
 have HO0 := Aside0.mk (show Kd.V (Kd.int .u32) 73 w w.heap.size (fun k_ => (P0_ k_ ∨ w.heap.size ≤ k_)) (.slice A0 l0.length c0) l0 from Kd.V_mono hs0 (fun k_ hk => .inl hk))
 have HB := Aside0.mk (Below.refl w.heap.size w)
 have H : (num_cut.l0 k l0) = some r := h
 clear h
 have H' := Aside0.mk H
 clear H
 go_enter Tryd.func50, Tryd.ntmps50
 go_wp2
 go_loopg [0] k (fun kq v0 w' => ∃ (x0_1 : List Int), Aside0 (num_cut.l0 kq x0_1 = some r) ∧ Aside0 (kq ≤ k) ∧ Aside0 (Kd.V (Kd.int .u32) 73 w' w.heap.size (fun k_ => (P0_ k_ ∨ w.heap.size ≤ k_)) v0 x0_1) ∧ Aside0 (Below w.heap.size w w'))
 case atStart => exact ⟨(l0), H', ⟨Nat.le_refl _⟩, ⟨by (with_reducible repeat (first|apply Kd.V_alloc|apply Kd.V_drewN|apply Kd.V_drew));exact HO0.out⟩, ⟨by repeat (first|(with_reducible first|exact HB.out|apply below_alloc|apply pw_below_drewN|apply below_drew1)|exact HB.out)⟩⟩
 case round =>
  clear H'
  obtain ⟨x0_1, HA, HK1, HO_0, HB⟩ := hrel
  cases gk with
  | zero => exact absurd HA.out (by simp [num_cut.l0])
  | succ k1 =>
   have H := HA.out
   clear HA
   simp only [num_cut.l0] at H
   by_cases c2 : (x0_1.length : Int) > 0
   ·rw [if_pos c2] at H
    have c2b0 : decide (0 < (x0_1.length : Int)) = true := decide_eq_true c2
    have c2b1 : decide (0 < x0_1.length) = true := decide_eq_true (by omega)
    clear c2
    obtain ⟨ji3, hji3⟩ : ∃ j_ : Int, (wrap64 ((x0_1.length : Int) - 1)) = j_ := ⟨_, rfl⟩
    replace H : (if 0 ≤ (ji3) then (if (ji3) < (x0_1.length : Int) then (if (rd x0_1 (ji3)) = 0 then (if (ji3) ≤ (x0_1.length : Int) then (num_cut.l0 k1 (x0_1.take ((ji3) : Int).toNat)) else (none)) else (some x0_1)) else (none)) else (none)) = some r := by first | (rw [hji3] at H; exact H) | (simp only [hji3] at H ⊢; exact H)
    have hji3w : (IntKind.i64.wrap ((x0_1.length : Int) - 1)) = ji3 := (i64_w _).trans hji3
    by_cases c4 : 0 ≤ (ji3)
    ·rw [if_pos c4] at H
     have c4b0 : decide (0 ≤ (ji3)) = true := decide_eq_true c4
     clear c4
     by_cases c5 : (ji3) < (x0_1.length : Int)
     ·rw [if_pos c5] at H
      have c5b0 : decide ((ji3) < (x0_1.length : Int)) = true := decide_eq_true c5
      clear c5
      by_cases c6 : (rd x0_1 (ji3)) = 0
      ·rw [if_pos c6] at H
       have c6b0 : ((rd x0_1 (ji3)) == 0) = true := beq_iff_eq.mpr c6
       have c6b1 : ((rd x0_1 (ji3)) != 0) = false := bne_eq_false_iff_eq.mpr c6
       clear c6
       have c7b0 := eq_true (of_decide_eq_true (by first | (with_reducible assumption) | assumption) : 0 ≤ (ji3))
       by_cases c8 : (ji3) ≤ (x0_1.length : Int)
       ·rw [if_pos c8] at H
        have c8b0 := eq_true c8
        have c8b1 : decide ((ji3) ≤ (x0_1.length : Int)) = true := decide_eq_true c8
        clear c8
        obtain ⟨y118, hy118⟩ : ∃ y_ : List Int, y_ = (x0_1.take ((ji3) : Int).toNat) := ⟨_, rfl⟩
        replace H : (num_cut.l0 k1 y118) = some r := by first | (rw [hy118]; with_reducible exact H) | (have H2_ := (Option.bind_some _ _).symm.trans H; rw [hy118]; with_reducible exact H2_) | (have H2_ := (Option.bind_some _ _).symm.trans H; with_reducible exact H2_) | with_reducible exact H | (rw [hy118]; exact H) | exact H
        have Ny118 := Aside0.mk hy118
        clear hy118
        have H' := Aside0.mk H
        clear H
        obtain ⟨Ao9, co9, eo9⟩ := Kd.V_slice HO_0.out
        subst eo9
        have p117 : 0 ≤ ((ji3) : Int) := of_decide_eq_true (by first | (with_reducible assumption) | assumption)
        have q117 : (ji3) < (x0_1.length : Int) := of_decide_eq_true (by first | (with_reducible assumption) | assumption)
        obtain ⟨ad117, e117, hx117_0⟩ := Kd.at_int (Kd.V_reads' HO_0.out).2.2 (ji3) p117 q117
        cases e117
        replace p117 := eq_true p117
        replace q117 := eq_true q117
        have q10 : ((ji3) : Int) ≤ ((x0_1.length : Int) : Int) := of_decide_eq_true (by first | (with_reducible assumption) | assumption)
        obtain ⟨i010, hi010, _, hsz10, _⟩ := info_parts info73
        have hroom10 : x0_1.length ≤ co9 := (Kd.V_reads' HO_0.out).2.1
        have hC10 : Kd.F (Kd.int .u32) _ _ (some ad117) x0_1.length x0_1 := (Kd.V_at (base := w.heap.size) HO_0.out).2.2
        have hcut10 := cut_to (P := Tryd.prog) 28 73 .i64 Tryd.underlying28 hi010 (some ad117) x0_1.length co9 (ji3) (of_decide_eq_true (by first | (with_reducible assumption) | assumption)) q10 hroom10
        have hr10 := Kd.F_take (m := ((ji3) : Int).toNat) hC10 (by omega)
        have hy10 : y118.length = ((ji3) : Int).toNat := (by rw [Ny118.out, List.length_take]; omega)
        rw [← Ny118.out] at hr10
        rw [← hy10] at hcut10
        have HO122 := Aside0.mk (show Kd.V (Kd.int .u32) 73 _ w.heap.size _ (.slice (some ad117) y118.length co9) y118 from Kd.V_mk (by omega) hr10)
        have HC122 := Aside0.mk (show y118.length ≤ co9 from by omega)
        clear hr10 hC10 hroom10 hi010 hsz10
        have KY10 := Aside0.mk hy10
        clear hy10
        replace q10 := eq_true q10
        go_wp2
        go_roundg k1
        case measure => have := HK1.out; omega
        case rel => exact ⟨(y118), H', ⟨by have := HK1.out;omega⟩, ⟨by (with_reducible repeat (first|apply Kd.V_alloc|apply Kd.V_drewN|apply Kd.V_drew));exact HO122.out⟩, ⟨by repeat (first|(with_reducible first|exact HB.out|apply below_alloc|apply pw_below_drewN|apply below_drew1)|exact HB.out)⟩⟩
       ·rw [if_neg c8] at H
        exact absurd H (by simp)
      ·rw [if_neg c6] at H
       have c6b0 : ((rd x0_1 (ji3)) == 0) = false := beq_eq_false_iff_ne.mpr c6
       have c6b1 : ((rd x0_1 (ji3)) != 0) = true := bne_iff_ne.mpr c6
       obtain rfl := Option.some.inj H
       obtain ⟨Ao11, co11, eo11⟩ := Kd.V_slice HO_0.out
       subst eo11
       have p117 : 0 ≤ ((ji3) : Int) := of_decide_eq_true (by first | (with_reducible assumption) | assumption)
       have q117 : (ji3) < (x0_1.length : Int) := of_decide_eq_true (by first | (with_reducible assumption) | assumption)
       obtain ⟨ad117, e117, hx117_0⟩ := Kd.at_int (Kd.V_reads' HO_0.out).2.2 (ji3) p117 q117
       cases e117
       replace p117 := eq_true p117
       replace q117 := eq_true q117
       go_wp2
       go_ret
       exact ⟨_, by first|rfl|(simp [errW_none, errW_some] <;> rfl)|(simp only [← hji3];first|rfl|(simp [errW_none, errW_some] <;> rfl))|(simp [*, errW_none, errW_some] <;> rfl), by (with_reducible repeat (first|apply Kd.V_alloc|apply Kd.V_drewN|apply Kd.V_drew));exact HO_0.out, by repeat (first|(with_reducible first|exact HB.out|apply below_alloc|apply pw_below_drewN|apply below_drew1)|exact HB.out)⟩
     ·rw [if_neg c5] at H
      exact absurd H (by simp)
    ·rw [if_neg c4] at H
     exact absurd H (by simp)
   ·rw [if_neg c2] at H
    have c2b0 : decide (0 < (x0_1.length : Int)) = false := decide_eq_false c2
    have c2b1 : decide (0 < x0_1.length) = false := decide_eq_false (by omega)
    clear c2
    obtain rfl := Option.some.inj H
    obtain ⟨Ao12, co12, eo12⟩ := Kd.V_slice HO_0.out
    subst eo12
    go_wp2
    go_ret
    exact ⟨_, by first|rfl|(simp [errW_none, errW_some] <;> rfl)|(simp [*, errW_none, errW_some] <;> rfl), by (with_reducible repeat (first|apply Kd.V_alloc|apply Kd.V_drewN|apply Kd.V_drew));exact HO_0.out, by repeat (first|(with_reducible first|exact HB.out|apply below_alloc|apply pw_below_drewN|apply below_drew1)|exact HB.out)⟩
end Go.Proofs.YtefefpkgiecikaaDoor.P
namespace Go.Proofs.YtefefpkgiecikaaDoor.P
open Go.RowKit Go.Proofs.YtefefpkgiecikaaDoorW.PrintWords Go.Proofs.YtefefpkgiecikaaDoorW.PrintLast Go.Proofs.YtefefpkgiecikaaDoorW.PrintMore
attribute [local go_sem] max2_int min2_int max_two min_two max_three min_three max_four min_four
set_option linter.unusedVariables false
set_option linter.unusedSimpArgs false
def num_of.f (k : Nat) (a0 : Bool) (l1 : List Int) : Option (Bool × List Int × Int) := (num_cut.f k l1).bind fun t124 => (if (t124.length : Int) > 64 then (some (false, ([] : List Int), 6)) else (if a0 = true then (some (decide (0 < t124.length), t124, 0)) else (some (false, t124, 0))))
theorem num_of.mono : ∀ a0 a1 k, LeO (num_of.f k a0 a1) (num_of.f (k + 1) a0 a1) := by
 intro a0 a1 k
 unfold num_of.f
 repeat' first
   | (with_reducible exact num_cut.mono _ _)
   | (with_reducible exact LeO.refl _)
   | (with_reducible exact LeO.none _)
   | (with_reducible refine LeO.ite ?_ ?_)
   | (with_reducible refine LeO.bind ?_ (fun _ => ?_))
   | exact num_cut.mono _ _
   | exact LeO.none _
   | refine LeO.ite ?_ ?_
   | refine LeO.bind ?_ (fun _ => ?_)
set_option maxHeartbeats 8000000 in
set_option maxRecDepth 100000 in
theorem num_of.calls (k : Nat) (a0 : Bool) (P1_ : Nat → Prop) (A1 : Option Addr) (c1 : Nat) (l1 : List Int) (r1 : Bool) (r2 : List Int) (r3 : Int) (w : World) (hs1 : Kd.V (Kd.int .u32) 73 w w.heap.size (fun k_ => P1_ k_) (.slice A1 l1.length c1) l1) (h : num_of.f k a0 l1 = some (r1, r2, r3)) :
  Calls Tryd.prog 32 #[.bool a0, .slice A1 l1.length c1] w fun e w' => ∃ v1_ : Value, e = .returned (.tuple #[.agg #[.bool r1, v1_], .int .i64 r3]) ∧ Kd.V (Kd.int .u32) 73 w' w.heap.size (fun k_ => (P1_ k_ ∨ w.heap.size ≤ k_)) v1_ r2 ∧ Below w.heap.size w w' := by
 have hu30 := Tryd.underlying30
 have HO1 := Aside0.mk (show Kd.V (Kd.int .u32) 73 w w.heap.size (fun k_ => (P1_ k_ ∨ w.heap.size ≤ k_)) (.slice A1 l1.length c1) l1 from Kd.V_mono hs1 (fun k_ hk => .inl hk))
 have HB := Aside0.mk (Below.refl w.heap.size w)
 have H : ((num_cut.f k l1).bind fun t124 => (if (t124.length : Int) > 64 then (some (false, ([] : List Int), 6)) else (if a0 = true then (some (decide (0 < t124.length), t124, 0)) else (some (false, t124, 0))))) = some (r1, r2, r3) := h
 clear h
 replace H := Option.bind_eq_some_iff.mp H
 obtain ⟨t124, A30, H⟩ := H
 replace H : (if (t124.length : Int) > 64 then (some (false, ([] : List Int), 6)) else (if a0 = true then (some (decide (0 < t124.length), t124, 0)) else (some (false, t124, 0)))) = some (r1, r2, r3) := H
 have A3 := Aside0.mk A30
 clear A30
 by_cases c4 : (t124.length : Int) > 64
 ·rw [if_pos c4] at H
  have c4b0 : decide (64 < (t124.length : Int)) = true := decide_eq_true c4
  have c4b1 : decide (64 < t124.length) = true := decide_eq_true (by omega)
  clear c4
  simp only [Option.some.injEq, Prod.mk.injEq] at H
  obtain ⟨rfl, rfl, rfl⟩ := H
  go_enter Tryd.func32, Tryd.ntmps32
  go_wp2_with (first|((with_reducible refine gate_dst (N := 4) rfl ?_);(try (refine gate_guard (by rfl) ?_;dsimp only));refine box_event ?hg (N := 4) ?hd (cs := #[.bool false, .slice none 0 0]) (t := 30) ?hr ?_;(case hd => rfl);(case hg => rfl);(case hr => first|(go_simp;done)|(go_simp;rfl));intro gb123 hg w5 hbox hb;have n0_ := Aside0.mk (Kd.V_below (Kd.V_elderB (by (with_reducible repeat (first|apply Kd.V_alloc|apply Kd.V_drewN|apply Kd.V_drew));exact HO1.out) gb123 (Nat.le_of_eq hg.symm)) hb);have n1_ := Aside0.mk (below_step (by repeat (first|(with_reducible first|exact HB.out|apply below_alloc|apply pw_below_drewN|apply below_drew1)|exact HB.out)) hb);have n2_ := Aside0.mk (hbox);have n3_ := Aside0.mk ((by rw [hg];exact (below_size (by repeat (first|(with_reducible first|exact HB.out|apply below_alloc|apply pw_below_drewN|apply below_drew1)|exact HB.out))) : w.heap.size ≤ gb123));have n4_ := Aside0.mk ((by rw [hg];exact (below_size (by repeat (first|(with_reducible first|exact HB.out|apply below_alloc|apply pw_below_drewN|apply below_drew1)|exact HB.out))) : w.heap.size ≤ gb123));clear HO1;clear HB;have HO1 := n0_;have HB := n1_;have BK123 := n2_;have GW123 := n3_;have GE123 := n4_;clear n0_ n1_ n2_ n3_ n4_;clear hb hbox hg)|((with_reducible refine gate_callee (f := 50) rfl ?_);refine goesL_ (some 7) rfl rfl Tryd.func50 (by kernel_rfl) rfl #[.slice A1 l1.length c1] rfl (by (try simp only [List.map_toArray, List.map_cons, List.map_nil]);first|done|rfl|(simp only [List.length_drop, List.length_take];rfl)) ?_;(with_reducible refine (num_cut.calls k (fun k_ => ((P1_ k_ ∨ w.heap.size ≤ k_) ∧ k_ ≠ gb123)) _ _ l1 t124 _ ?side1 A3.out).mono ?_);(case side1 => exact HO1.out);rintro e w6 ⟨v125, rfl, ho0, hb⟩;refine ⟨_, rfl, ?_⟩;have n0_ := Aside0.mk (Kd.V_below (by (with_reducible repeat (first|apply Kd.V_alloc|apply Kd.V_drewN|apply Kd.V_drew));exact HO1.out) hb);have n1_ := Aside0.mk (Kd.V_lower (Kd.V_mono (ok' := fun k_ => (P1_ k_ ∨ w.heap.size ≤ k_) ∧ k_ ≠ gb123) ho0 (fun k_ hk_ => ⟨Or.elim hk_ (fun hs_ => hs_.1) (fun hn_ => (.inr (Nat.le_trans (below_size (by repeat (first|(with_reducible first|exact HB.out|apply below_alloc|apply pw_below_drewN|apply below_drew1|refine below_set ?_ GE123.out)|exact HB.out))) hn_))), Or.elim hk_ (fun hs_ => hs_.2) (fun hn_ => (Kd.freshB (g := gb123) (o := .cells #[.bool false, .slice none 0 0] 30 (0, 0)) (by (with_reducible repeat (first|refine blk_drewN ?_ _|refine blk_drew ?_|refine blk_alloc ?_ _));exact BK123.out) k_ hn_))⟩)) (below_size (by repeat (first|(with_reducible first|exact HB.out|apply below_alloc|apply pw_below_drewN|apply below_drew1|refine below_set ?_ GE123.out)|exact HB.out))));have n2_ := Aside0.mk (blk_below (g := gb123) (o := .cells #[.bool false, .slice none 0 0] 30 (0, 0)) (by (with_reducible repeat (first|refine blk_drewN ?_ _|refine blk_drew ?_|refine blk_alloc ?_ _));exact BK123.out) hb);have n3_ := Aside0.mk (below_step (by repeat (first|(with_reducible first|exact HB.out|apply below_alloc|apply pw_below_drewN|apply below_drew1|refine below_set ?_ GE123.out)|exact HB.out)) hb);clear HO1;clear BK123;clear HB;have HO1 := n0_;have HO126 := n1_;have BK123 := n2_;have HB := n3_;clear n0_ n1_ n2_ n3_;(try clear hb);(try clear hb2);(try clear hk);(try clear hi);(try clear ho0);obtain ⟨Ao7, co7, eo7⟩ := Kd.V_slice HO126.out;subst eo7;have hcz8_0 : w6.cell? ⟨gb123, 0, none⟩ = some (.bool false) := (blk_cell BK123.out 0).trans rfl;have hcz8_1 : w6.cell? ⟨gb123, 1, none⟩ = some (.slice none 0 0) := (blk_cell BK123.out 1).trans rfl;have hfz8_0 := blk_frozen BK123.out 0;have hfz8_1 := blk_frozen BK123.out 1))
  refine bodyPost_ret (results_ct rfl _ _ gb123 30 #[.bool false, .slice none 0 0] (0, 0) _ rfl (by (with_reducible repeat (first|refine blk_drewN ?_ _|refine blk_drew ?_|refine blk_alloc ?_ _));refine blk_put (cs := #[.bool false, .slice none 0 0]) ?_ 1 _ rfl;(with_reducible repeat (first|refine blk_drewN ?_ _|refine blk_drew ?_|refine blk_alloc ?_ _));refine blk_put (cs := #[.bool false, .slice none 0 0]) ?_ 0 _ rfl;(with_reducible repeat (first|refine blk_drewN ?_ _|refine blk_drew ?_|refine blk_alloc ?_ _));exact BK123.out) Tryd.underlying30 rfl (by kernel_rfl)) rfl ?_
  exact ⟨_, by first|rfl|(simp [errW_none, errW_some] <;> rfl)|(simp [*, errW_none, errW_some] <;> rfl), Kd.V_nil _ _ _ _ _, by repeat (first|(with_reducible first|exact HB.out|apply below_alloc|apply pw_below_drewN|apply below_drew1|refine below_set ?_ GE123.out)|exact HB.out)⟩
 ·rw [if_neg c4] at H
  have c4b0 : decide (64 < (t124.length : Int)) = false := decide_eq_false c4
  have c4b1 : decide (64 < t124.length) = false := decide_eq_false (by omega)
  clear c4
  by_cases c9 : a0 = true
  ·subst c9
   have H1 : (some (decide (0 < t124.length), t124, 0)) = some (r1, r2, r3) := by rw [if_pos rfl] at H; exact H
   clear H
   have H := H1
   clear H1
   simp only [Option.some.injEq, Prod.mk.injEq] at H
   obtain ⟨rfl, rfl, rfl⟩ := H
   go_enter Tryd.func32, Tryd.ntmps32
   go_wp2_with (first|((with_reducible refine gate_dst (N := 4) rfl ?_);(try (refine gate_guard (by rfl) ?_;dsimp only));refine box_event ?hg (N := 4) ?hd (cs := #[.bool false, .slice none 0 0]) (t := 30) ?hr ?_;(case hd => rfl);(case hg => rfl);(case hr => first|(go_simp;done)|(go_simp;rfl));intro gb123 hg w10 hbox hb;have n0_ := Aside0.mk (Kd.V_below (Kd.V_elderB (by (with_reducible repeat (first|apply Kd.V_alloc|apply Kd.V_drewN|apply Kd.V_drew));exact HO1.out) gb123 (Nat.le_of_eq hg.symm)) hb);have n1_ := Aside0.mk (below_step (by repeat (first|(with_reducible first|exact HB.out|apply below_alloc|apply pw_below_drewN|apply below_drew1)|exact HB.out)) hb);have n2_ := Aside0.mk (hbox);have n3_ := Aside0.mk ((by rw [hg];exact (below_size (by repeat (first|(with_reducible first|exact HB.out|apply below_alloc|apply pw_below_drewN|apply below_drew1)|exact HB.out))) : w.heap.size ≤ gb123));have n4_ := Aside0.mk ((by rw [hg];exact (below_size (by repeat (first|(with_reducible first|exact HB.out|apply below_alloc|apply pw_below_drewN|apply below_drew1)|exact HB.out))) : w.heap.size ≤ gb123));clear HO1;clear HB;have HO1 := n0_;have HB := n1_;have BK123 := n2_;have GW123 := n3_;have GE123 := n4_;clear n0_ n1_ n2_ n3_ n4_;clear hb hbox hg)|((with_reducible refine gate_callee (f := 50) rfl ?_);refine goesL_ (some 7) rfl rfl Tryd.func50 (by kernel_rfl) rfl #[.slice A1 l1.length c1] rfl (by (try simp only [List.map_toArray, List.map_cons, List.map_nil]);first|done|rfl|(simp only [List.length_drop, List.length_take];rfl)) ?_;(with_reducible refine (num_cut.calls k (fun k_ => ((P1_ k_ ∨ w.heap.size ≤ k_) ∧ k_ ≠ gb123)) _ _ l1 t124 _ ?side1 A3.out).mono ?_);(case side1 => exact HO1.out);rintro e w11 ⟨v125, rfl, ho0, hb⟩;refine ⟨_, rfl, ?_⟩;have n0_ := Aside0.mk (Kd.V_below (by (with_reducible repeat (first|apply Kd.V_alloc|apply Kd.V_drewN|apply Kd.V_drew));exact HO1.out) hb);have n1_ := Aside0.mk (Kd.V_lower (Kd.V_mono (ok' := fun k_ => (P1_ k_ ∨ w.heap.size ≤ k_) ∧ k_ ≠ gb123) ho0 (fun k_ hk_ => ⟨Or.elim hk_ (fun hs_ => hs_.1) (fun hn_ => (.inr (Nat.le_trans (below_size (by repeat (first|(with_reducible first|exact HB.out|apply below_alloc|apply pw_below_drewN|apply below_drew1|refine below_set ?_ GE123.out)|exact HB.out))) hn_))), Or.elim hk_ (fun hs_ => hs_.2) (fun hn_ => (Kd.freshB (g := gb123) (o := .cells #[.bool false, .slice none 0 0] 30 (0, 0)) (by (with_reducible repeat (first|refine blk_drewN ?_ _|refine blk_drew ?_|refine blk_alloc ?_ _));exact BK123.out) k_ hn_))⟩)) (below_size (by repeat (first|(with_reducible first|exact HB.out|apply below_alloc|apply pw_below_drewN|apply below_drew1|refine below_set ?_ GE123.out)|exact HB.out))));have n2_ := Aside0.mk (blk_below (g := gb123) (o := .cells #[.bool false, .slice none 0 0] 30 (0, 0)) (by (with_reducible repeat (first|refine blk_drewN ?_ _|refine blk_drew ?_|refine blk_alloc ?_ _));exact BK123.out) hb);have n3_ := Aside0.mk (below_step (by repeat (first|(with_reducible first|exact HB.out|apply below_alloc|apply pw_below_drewN|apply below_drew1|refine below_set ?_ GE123.out)|exact HB.out)) hb);clear HO1;clear BK123;clear HB;have HO1 := n0_;have HO126 := n1_;have BK123 := n2_;have HB := n3_;clear n0_ n1_ n2_ n3_;(try clear hb);(try clear hb2);(try clear hk);(try clear hi);(try clear ho0);obtain ⟨Ao12, co12, eo12⟩ := Kd.V_slice HO126.out;subst eo12;have hcz13_0 : w11.cell? ⟨gb123, 0, none⟩ = some (.bool false) := (blk_cell BK123.out 0).trans rfl;have hcz13_1 : w11.cell? ⟨gb123, 1, none⟩ = some (.slice none 0 0) := (blk_cell BK123.out 1).trans rfl;have hfz13_0 := blk_frozen BK123.out 0;have hfz13_1 := blk_frozen BK123.out 1))
   refine bodyPost_ret (results_ct rfl _ _ gb123 30 #[.bool (decide (0 < t124.length)), .slice Ao12 t124.length co12] (0, 0) _ rfl (by (with_reducible repeat (first|refine blk_drewN ?_ _|refine blk_drew ?_|refine blk_alloc ?_ _));refine blk_put (cs := #[.bool (decide (0 < t124.length)), .slice none 0 0]) ?_ 1 _ rfl;(with_reducible repeat (first|refine blk_drewN ?_ _|refine blk_drew ?_|refine blk_alloc ?_ _));refine blk_put (cs := #[.bool false, .slice none 0 0]) ?_ 0 _ rfl;(with_reducible repeat (first|refine blk_drewN ?_ _|refine blk_drew ?_|refine blk_alloc ?_ _));exact BK123.out) Tryd.underlying30 rfl (by kernel_rfl)) rfl ?_
   exact ⟨_, by first|rfl|(simp [errW_none, errW_some] <;> rfl)|(simp [*, errW_none, errW_some] <;> rfl), by (with_reducible repeat (first|apply Kd.V_alloc|apply Kd.V_drewN|apply Kd.V_drew));exact Kd.V_mono (Kd.V_far (p := ⟨gb123, 1, none⟩) (Kd.V_far (p := ⟨gb123, 0, none⟩) (Kd.V_mono HO126.out (fun k_ hk => (⟨hk, hk.2⟩ : _ ∧ k_ ≠ gb123))) (fun _ hk => hk.2) (.bool (decide (0 < t124.length)))) (fun _ hk => hk.2) (.slice Ao12 t124.length co12)) (fun _ hk => hk.1.1), by repeat (first|(with_reducible first|exact HB.out|apply below_alloc|apply pw_below_drewN|apply below_drew1|refine below_set ?_ GE123.out)|exact HB.out)⟩
  ·replace c9 := Bool.eq_false_iff.mpr c9
   subst c9
   have H1 : (some (false, t124, 0)) = some (r1, r2, r3) := by rw [if_neg (show ¬ (false = true) by decide)] at H; exact H
   clear H
   have H := H1
   clear H1
   simp only [Option.some.injEq, Prod.mk.injEq] at H
   obtain ⟨rfl, rfl, rfl⟩ := H
   go_enter Tryd.func32, Tryd.ntmps32
   go_wp2_with (first|((with_reducible refine gate_dst (N := 4) rfl ?_);(try (refine gate_guard (by rfl) ?_;dsimp only));refine box_event ?hg (N := 4) ?hd (cs := #[.bool false, .slice none 0 0]) (t := 30) ?hr ?_;(case hd => rfl);(case hg => rfl);(case hr => first|(go_simp;done)|(go_simp;rfl));intro gb123 hg w14 hbox hb;have n0_ := Aside0.mk (Kd.V_below (Kd.V_elderB (by (with_reducible repeat (first|apply Kd.V_alloc|apply Kd.V_drewN|apply Kd.V_drew));exact HO1.out) gb123 (Nat.le_of_eq hg.symm)) hb);have n1_ := Aside0.mk (below_step (by repeat (first|(with_reducible first|exact HB.out|apply below_alloc|apply pw_below_drewN|apply below_drew1)|exact HB.out)) hb);have n2_ := Aside0.mk (hbox);have n3_ := Aside0.mk ((by rw [hg];exact (below_size (by repeat (first|(with_reducible first|exact HB.out|apply below_alloc|apply pw_below_drewN|apply below_drew1)|exact HB.out))) : w.heap.size ≤ gb123));have n4_ := Aside0.mk ((by rw [hg];exact (below_size (by repeat (first|(with_reducible first|exact HB.out|apply below_alloc|apply pw_below_drewN|apply below_drew1)|exact HB.out))) : w.heap.size ≤ gb123));clear HO1;clear HB;have HO1 := n0_;have HB := n1_;have BK123 := n2_;have GW123 := n3_;have GE123 := n4_;clear n0_ n1_ n2_ n3_ n4_;clear hb hbox hg)|((with_reducible refine gate_callee (f := 50) rfl ?_);refine goesL_ (some 7) rfl rfl Tryd.func50 (by kernel_rfl) rfl #[.slice A1 l1.length c1] rfl (by (try simp only [List.map_toArray, List.map_cons, List.map_nil]);first|done|rfl|(simp only [List.length_drop, List.length_take];rfl)) ?_;(with_reducible refine (num_cut.calls k (fun k_ => ((P1_ k_ ∨ w.heap.size ≤ k_) ∧ k_ ≠ gb123)) _ _ l1 t124 _ ?side1 A3.out).mono ?_);(case side1 => exact HO1.out);rintro e w15 ⟨v125, rfl, ho0, hb⟩;refine ⟨_, rfl, ?_⟩;have n0_ := Aside0.mk (Kd.V_below (by (with_reducible repeat (first|apply Kd.V_alloc|apply Kd.V_drewN|apply Kd.V_drew));exact HO1.out) hb);have n1_ := Aside0.mk (Kd.V_lower (Kd.V_mono (ok' := fun k_ => (P1_ k_ ∨ w.heap.size ≤ k_) ∧ k_ ≠ gb123) ho0 (fun k_ hk_ => ⟨Or.elim hk_ (fun hs_ => hs_.1) (fun hn_ => (.inr (Nat.le_trans (below_size (by repeat (first|(with_reducible first|exact HB.out|apply below_alloc|apply pw_below_drewN|apply below_drew1|refine below_set ?_ GE123.out)|exact HB.out))) hn_))), Or.elim hk_ (fun hs_ => hs_.2) (fun hn_ => (Kd.freshB (g := gb123) (o := .cells #[.bool false, .slice none 0 0] 30 (0, 0)) (by (with_reducible repeat (first|refine blk_drewN ?_ _|refine blk_drew ?_|refine blk_alloc ?_ _));exact BK123.out) k_ hn_))⟩)) (below_size (by repeat (first|(with_reducible first|exact HB.out|apply below_alloc|apply pw_below_drewN|apply below_drew1|refine below_set ?_ GE123.out)|exact HB.out))));have n2_ := Aside0.mk (blk_below (g := gb123) (o := .cells #[.bool false, .slice none 0 0] 30 (0, 0)) (by (with_reducible repeat (first|refine blk_drewN ?_ _|refine blk_drew ?_|refine blk_alloc ?_ _));exact BK123.out) hb);have n3_ := Aside0.mk (below_step (by repeat (first|(with_reducible first|exact HB.out|apply below_alloc|apply pw_below_drewN|apply below_drew1|refine below_set ?_ GE123.out)|exact HB.out)) hb);clear HO1;clear BK123;clear HB;have HO1 := n0_;have HO126 := n1_;have BK123 := n2_;have HB := n3_;clear n0_ n1_ n2_ n3_;(try clear hb);(try clear hb2);(try clear hk);(try clear hi);(try clear ho0);obtain ⟨Ao16, co16, eo16⟩ := Kd.V_slice HO126.out;subst eo16;have hcz17_0 : w15.cell? ⟨gb123, 0, none⟩ = some (.bool false) := (blk_cell BK123.out 0).trans rfl;have hcz17_1 : w15.cell? ⟨gb123, 1, none⟩ = some (.slice none 0 0) := (blk_cell BK123.out 1).trans rfl;have hfz17_0 := blk_frozen BK123.out 0;have hfz17_1 := blk_frozen BK123.out 1))
   refine bodyPost_ret (results_ct rfl _ _ gb123 30 #[.bool false, .slice Ao16 t124.length co16] (0, 0) _ rfl (by (with_reducible repeat (first|refine blk_drewN ?_ _|refine blk_drew ?_|refine blk_alloc ?_ _));refine blk_put (cs := #[.bool false, .slice none 0 0]) ?_ 1 _ rfl;(with_reducible repeat (first|refine blk_drewN ?_ _|refine blk_drew ?_|refine blk_alloc ?_ _));refine blk_put (cs := #[.bool false, .slice none 0 0]) ?_ 0 _ rfl;(with_reducible repeat (first|refine blk_drewN ?_ _|refine blk_drew ?_|refine blk_alloc ?_ _));exact BK123.out) Tryd.underlying30 rfl (by kernel_rfl)) rfl ?_
   exact ⟨_, by first|rfl|(simp [errW_none, errW_some] <;> rfl)|(simp [*, errW_none, errW_some] <;> rfl), by (with_reducible repeat (first|apply Kd.V_alloc|apply Kd.V_drewN|apply Kd.V_drew));exact Kd.V_mono (Kd.V_far (p := ⟨gb123, 1, none⟩) (Kd.V_far (p := ⟨gb123, 0, none⟩) (Kd.V_mono HO126.out (fun k_ hk => (⟨hk, hk.2⟩ : _ ∧ k_ ≠ gb123))) (fun _ hk => hk.2) (.bool false)) (fun _ hk => hk.2) (.slice Ao16 t124.length co16)) (fun _ hk => hk.1.1), by repeat (first|(with_reducible first|exact HB.out|apply below_alloc|apply pw_below_drewN|apply below_drew1|refine below_set ?_ GE123.out)|exact HB.out)⟩
end Go.Proofs.YtefefpkgiecikaaDoor.P
namespace Go.Proofs
open Go.Shelf
def Tryd.l137_ren : Go.Shelf.Ren := ⟨fun | 137 => 35 | 217 => 52 | 266 => 67 | n => n, fun | 9 => 9 | 5 => 5 | 3 => 3 | n => n, fun | n => n⟩
theorem Tryd.l137 : Go.Proofs.Lays.n137 Tryd.prog Tryd.l137_ren := {
 mixed := by kernel_rfl,
 f137 := Tryd.func35.trans (congrArg some (by kernel_rfl)),
 f217 := Tryd.func52.trans (congrArg some (by kernel_rfl)),
 f266 := Tryd.func67.trans (congrArg some (by kernel_rfl)),
 t3 := Tryd.underlying3,
 a3 := Tryd.isAgg3,
 z3 := Tryd.sizeOf3,
 v3 := Tryd.zeroValue3,
 t5 := Tryd.underlying5,
 a5 := Tryd.isAgg5,
 z5 := Tryd.sizeOf5,
 v5 := Tryd.zeroValue5,
 t9 := Tryd.underlying9,
 a9 := Tryd.isAgg9,
 z9 := Tryd.sizeOf9,
 v9 := Tryd.zeroValue9 }
def Tryd.l160_ren : Go.Shelf.Ren := ⟨fun | 160 => 29 | 232 => 42 | 231 => 41 | 227 => 43 | 234 => 45 | 233 => 44 | 236 => 47 | 235 => 46 | 228 => 58 | 271 => 61 | 151 => 60 | 197 => 59 | 120 => 74 | 152 => 73 | 260 => 72 | 137 => 35 | 119 => 23 | 224 => 81 | 225 => 82 | 217 => 52 | 266 => 67 | n => n, fun | 9 => 9 | 4 => 4 | 3 => 3 | 5 => 5 | 117 => 87 | 116 => 86 | 0 => 0 | 124 => 90 | 21 => 21 | 105 => 76 | 46 => 109 | 119 => 108 | 139 => 112 | 138 => 111 | n => n, fun | 3 => 1 | 4 => 2 | n => n⟩
theorem Tryd.l160 : Go.Proofs.Lays.n160 Tryd.prog Tryd.l160_ren := {
 mixed := by kernel_rfl,
 f119 := Tryd.func23.trans (congrArg some (by kernel_rfl)),
 f120 := Tryd.func74.trans (congrArg some (by kernel_rfl)),
 f137 := Tryd.func35.trans (congrArg some (by kernel_rfl)),
 f151 := Tryd.func60.trans (congrArg some (by kernel_rfl)),
 f152 := Tryd.func73.trans (congrArg some (by kernel_rfl)),
 f160 := Tryd.func29.trans (congrArg some (by kernel_rfl)),
 f197 := Tryd.func59.trans (congrArg some (by kernel_rfl)),
 f217 := Tryd.func52.trans (congrArg some (by kernel_rfl)),
 f224 := Tryd.func81.trans (congrArg some (by kernel_rfl)),
 f225 := Tryd.func82.trans (congrArg some (by kernel_rfl)),
 f227 := Tryd.func43.trans (congrArg some (by kernel_rfl)),
 f228 := Tryd.func58.trans (congrArg some (by kernel_rfl)),
 f231 := Tryd.func41.trans (congrArg some (by kernel_rfl)),
 f232 := Tryd.func42.trans (congrArg some (by kernel_rfl)),
 f233 := Tryd.func44.trans (congrArg some (by kernel_rfl)),
 f234 := Tryd.func45.trans (congrArg some (by kernel_rfl)),
 f235 := Tryd.func46.trans (congrArg some (by kernel_rfl)),
 f236 := Tryd.func47.trans (congrArg some (by kernel_rfl)),
 f260 := Tryd.func72.trans (congrArg some (by kernel_rfl)),
 f266 := Tryd.func67.trans (congrArg some (by kernel_rfl)),
 f271 := Tryd.func61.trans (congrArg some (by kernel_rfl)),
 t0 := Tryd.underlying0,
 a0 := Tryd.isAgg0,
 z0 := Tryd.sizeOf0,
 v0 := Tryd.zeroValue0,
 t3 := Tryd.underlying3,
 a3 := Tryd.isAgg3,
 z3 := Tryd.sizeOf3,
 v3 := Tryd.zeroValue3,
 t4 := Tryd.underlying4,
 a4 := Tryd.isAgg4,
 z4 := Tryd.sizeOf4,
 v4 := Tryd.zeroValue4,
 t5 := Tryd.underlying5,
 a5 := Tryd.isAgg5,
 z5 := Tryd.sizeOf5,
 v5 := Tryd.zeroValue5,
 t9 := Tryd.underlying9,
 a9 := Tryd.isAgg9,
 z9 := Tryd.sizeOf9,
 v9 := Tryd.zeroValue9,
 t21 := Tryd.underlying21,
 a21 := Tryd.isAgg21,
 z21 := Tryd.sizeOf21,
 v21 := Tryd.zeroValue21,
 t46 := Tryd.underlying109,
 a46 := Tryd.isAgg109,
 z46 := Tryd.sizeOf109,
 v46 := Tryd.zeroValue109,
 t105 := Tryd.underlying76,
 a105 := Tryd.isAgg76,
 z105 := Tryd.sizeOf76,
 v105 := Tryd.zeroValue76,
 t116 := Tryd.underlying86,
 a116 := Tryd.isAgg86,
 z116 := Tryd.sizeOf86,
 t117 := Tryd.underlying87,
 a117 := Tryd.isAgg87,
 z117 := Tryd.sizeOf87,
 v117 := Tryd.zeroValue87,
 t119 := Tryd.underlying108,
 a119 := Tryd.isAgg108,
 z119 := Tryd.sizeOf108,
 t124 := Tryd.underlying90,
 a124 := Tryd.isAgg90,
 z124 := Tryd.sizeOf90,
 v124 := Tryd.zeroValue90,
 t138 := Tryd.underlying111,
 a138 := Tryd.isAgg111,
 z138 := Tryd.sizeOf111,
 v138 := Tryd.zeroValue111,
 t139 := Tryd.underlying112,
 a139 := Tryd.isAgg112,
 z139 := Tryd.sizeOf112,
 v139 := Tryd.zeroValue112,
 g3 := by kernel_rfl,
 g4 := by kernel_rfl }
def Tryd.l161_ren : Go.Shelf.Ren := ⟨fun | 161 => 30 | 231 => 41 | 227 => 43 | 233 => 44 | 235 => 46 | 228 => 58 | 197 => 59 | 151 => 60 | 260 => 72 | 152 => 73 | 137 => 35 | 119 => 23 | 224 => 81 | 225 => 82 | 217 => 52 | 266 => 67 | n => n, fun | 9 => 9 | 4 => 4 | 3 => 3 | 5 => 5 | 117 => 87 | 116 => 86 | 0 => 0 | 124 => 90 | 105 => 76 | 21 => 21 | 119 => 108 | 46 => 109 | 139 => 112 | 138 => 111 | n => n, fun | 3 => 1 | 4 => 2 | n => n⟩
theorem Tryd.l161 : Go.Proofs.Lays.n161 Tryd.prog Tryd.l161_ren := {
 mixed := by kernel_rfl,
 f119 := Tryd.func23.trans (congrArg some (by kernel_rfl)),
 f137 := Tryd.func35.trans (congrArg some (by kernel_rfl)),
 f151 := Tryd.func60.trans (congrArg some (by kernel_rfl)),
 f152 := Tryd.func73.trans (congrArg some (by kernel_rfl)),
 f161 := Tryd.func30.trans (congrArg some (by kernel_rfl)),
 f197 := Tryd.func59.trans (congrArg some (by kernel_rfl)),
 f217 := Tryd.func52.trans (congrArg some (by kernel_rfl)),
 f224 := Tryd.func81.trans (congrArg some (by kernel_rfl)),
 f225 := Tryd.func82.trans (congrArg some (by kernel_rfl)),
 f227 := Tryd.func43.trans (congrArg some (by kernel_rfl)),
 f228 := Tryd.func58.trans (congrArg some (by kernel_rfl)),
 f231 := Tryd.func41.trans (congrArg some (by kernel_rfl)),
 f233 := Tryd.func44.trans (congrArg some (by kernel_rfl)),
 f235 := Tryd.func46.trans (congrArg some (by kernel_rfl)),
 f260 := Tryd.func72.trans (congrArg some (by kernel_rfl)),
 f266 := Tryd.func67.trans (congrArg some (by kernel_rfl)),
 t0 := Tryd.underlying0,
 a0 := Tryd.isAgg0,
 z0 := Tryd.sizeOf0,
 v0 := Tryd.zeroValue0,
 t3 := Tryd.underlying3,
 a3 := Tryd.isAgg3,
 z3 := Tryd.sizeOf3,
 v3 := Tryd.zeroValue3,
 t4 := Tryd.underlying4,
 a4 := Tryd.isAgg4,
 z4 := Tryd.sizeOf4,
 v4 := Tryd.zeroValue4,
 t5 := Tryd.underlying5,
 a5 := Tryd.isAgg5,
 z5 := Tryd.sizeOf5,
 v5 := Tryd.zeroValue5,
 t9 := Tryd.underlying9,
 a9 := Tryd.isAgg9,
 z9 := Tryd.sizeOf9,
 v9 := Tryd.zeroValue9,
 t21 := Tryd.underlying21,
 a21 := Tryd.isAgg21,
 z21 := Tryd.sizeOf21,
 v21 := Tryd.zeroValue21,
 t46 := Tryd.underlying109,
 a46 := Tryd.isAgg109,
 z46 := Tryd.sizeOf109,
 v46 := Tryd.zeroValue109,
 t105 := Tryd.underlying76,
 a105 := Tryd.isAgg76,
 z105 := Tryd.sizeOf76,
 v105 := Tryd.zeroValue76,
 t116 := Tryd.underlying86,
 a116 := Tryd.isAgg86,
 z116 := Tryd.sizeOf86,
 t117 := Tryd.underlying87,
 a117 := Tryd.isAgg87,
 z117 := Tryd.sizeOf87,
 v117 := Tryd.zeroValue87,
 t119 := Tryd.underlying108,
 a119 := Tryd.isAgg108,
 z119 := Tryd.sizeOf108,
 t124 := Tryd.underlying90,
 a124 := Tryd.isAgg90,
 z124 := Tryd.sizeOf90,
 v124 := Tryd.zeroValue90,
 t138 := Tryd.underlying111,
 a138 := Tryd.isAgg111,
 z138 := Tryd.sizeOf111,
 v138 := Tryd.zeroValue111,
 t139 := Tryd.underlying112,
 a139 := Tryd.isAgg112,
 z139 := Tryd.sizeOf112,
 v139 := Tryd.zeroValue112,
 g3 := by kernel_rfl,
 g4 := by kernel_rfl }
def Tryd.l172_ren : Go.Shelf.Ren := ⟨fun | 172 => 31 | 244 => 48 | 245 => 49 | 247 => 62 | 279 => 63 | 280 => 64 | 281 => 65 | 282 => 66 | 287 => 75 | 316 => 76 | 171 => 78 | 205 => 77 | 321 => 83 | 322 => 84 | 243 => 85 | 246 => 86 | 283 => 87 | 284 => 88 | 285 => 89 | 286 => 90 | 129 => 92 | 317 => 91 | 318 => 93 | 319 => 94 | 320 => 95 | 337 => 96 | 338 => 97 | n => n, fun | 9 => 9 | 3 => 3 | 75 => 70 | 76 => 71 | 4 => 4 | 5 => 5 | 167 => 102 | 37 => 27 | 0 => 0 | 85 => 103 | 2 => 2 | 168 => 105 | 53 => 118 | 175 => 119 | 46 => 109 | 210 => 124 | 127 => 128 | 145 => 131 | 143 => 129 | 21 => 21 | 171 => 133 | 173 => 136 | 212 => 139 | 51 => 73 | 20 => 20 | 213 => 140 | 232 => 143 | 233 => 144 | 80 => 145 | n => n, fun | 15 => 4 | 16 => 5 | 17 => 7 | 18 => 8 | 19 => 9 | n => n⟩
theorem Tryd.l172 : Go.Proofs.Lays.n172 Tryd.prog Tryd.l172_ren := {
 mixed := by kernel_rfl,
 f129 := Tryd.func92.trans (congrArg some (by kernel_rfl)),
 f171 := Tryd.func78.trans (congrArg some (by kernel_rfl)),
 f172 := Tryd.func31.trans (congrArg some (by kernel_rfl)),
 f205 := Tryd.func77.trans (congrArg some (by kernel_rfl)),
 f243 := Tryd.func85.trans (congrArg some (by kernel_rfl)),
 f244 := Tryd.func48.trans (congrArg some (by kernel_rfl)),
 f245 := Tryd.func49.trans (congrArg some (by kernel_rfl)),
 f246 := Tryd.func86.trans (congrArg some (by kernel_rfl)),
 f247 := Tryd.func62.trans (congrArg some (by kernel_rfl)),
 f279 := Tryd.func63.trans (congrArg some (by kernel_rfl)),
 f280 := Tryd.func64.trans (congrArg some (by kernel_rfl)),
 f281 := Tryd.func65.trans (congrArg some (by kernel_rfl)),
 f282 := Tryd.func66.trans (congrArg some (by kernel_rfl)),
 f283 := Tryd.func87.trans (congrArg some (by kernel_rfl)),
 f284 := Tryd.func88.trans (congrArg some (by kernel_rfl)),
 f285 := Tryd.func89.trans (congrArg some (by kernel_rfl)),
 f286 := Tryd.func90.trans (congrArg some (by kernel_rfl)),
 f287 := Tryd.func75.trans (congrArg some (by kernel_rfl)),
 f316 := Tryd.func76.trans (congrArg some (by kernel_rfl)),
 f317 := Tryd.func91.trans (congrArg some (by kernel_rfl)),
 f318 := Tryd.func93.trans (congrArg some (by kernel_rfl)),
 f319 := Tryd.func94.trans (congrArg some (by kernel_rfl)),
 f320 := Tryd.func95.trans (congrArg some (by kernel_rfl)),
 f321 := Tryd.func83.trans (congrArg some (by kernel_rfl)),
 f322 := Tryd.func84.trans (congrArg some (by kernel_rfl)),
 f337 := Tryd.func96.trans (congrArg some (by kernel_rfl)),
 f338 := Tryd.func97.trans (congrArg some (by kernel_rfl)),
 t0 := Tryd.underlying0,
 a0 := Tryd.isAgg0,
 z0 := Tryd.sizeOf0,
 v0 := Tryd.zeroValue0,
 t2 := Tryd.underlying2,
 a2 := Tryd.isAgg2,
 z2 := Tryd.sizeOf2,
 v2 := Tryd.zeroValue2,
 t3 := Tryd.underlying3,
 a3 := Tryd.isAgg3,
 z3 := Tryd.sizeOf3,
 v3 := Tryd.zeroValue3,
 t4 := Tryd.underlying4,
 a4 := Tryd.isAgg4,
 z4 := Tryd.sizeOf4,
 v4 := Tryd.zeroValue4,
 t5 := Tryd.underlying5,
 a5 := Tryd.isAgg5,
 z5 := Tryd.sizeOf5,
 v5 := Tryd.zeroValue5,
 t9 := Tryd.underlying9,
 a9 := Tryd.isAgg9,
 z9 := Tryd.sizeOf9,
 v9 := Tryd.zeroValue9,
 t20 := Tryd.underlying20,
 a20 := Tryd.isAgg20,
 z20 := Tryd.sizeOf20,
 v20 := Tryd.zeroValue20,
 t21 := Tryd.underlying21,
 a21 := Tryd.isAgg21,
 z21 := Tryd.sizeOf21,
 v21 := Tryd.zeroValue21,
 t37 := Tryd.underlying27,
 a37 := Tryd.isAgg27,
 z37 := Tryd.sizeOf27,
 v37 := Tryd.zeroValue27,
 t46 := Tryd.underlying109,
 a46 := Tryd.isAgg109,
 z46 := Tryd.sizeOf109,
 v46 := Tryd.zeroValue109,
 t51 := Tryd.underlying73,
 a51 := Tryd.isAgg73,
 z51 := Tryd.sizeOf73,
 v51 := Tryd.zeroValue73,
 t53 := Tryd.underlying118,
 a53 := Tryd.isAgg118,
 z53 := Tryd.sizeOf118,
 v53 := Tryd.zeroValue118,
 t75 := Tryd.underlying70,
 a75 := Tryd.isAgg70,
 z75 := Tryd.sizeOf70,
 v75 := Tryd.zeroValue70,
 t76 := Tryd.underlying71,
 a76 := Tryd.isAgg71,
 z76 := Tryd.sizeOf71,
 v76 := Tryd.zeroValue71,
 t85 := Tryd.underlying103,
 a85 := Tryd.isAgg103,
 z85 := Tryd.sizeOf103,
 v85 := Tryd.zeroValue103,
 t127 := Tryd.underlying128,
 a127 := Tryd.isAgg128,
 z127 := Tryd.sizeOf128,
 v127 := Tryd.zeroValue128,
 t143 := Tryd.underlying129,
 a143 := Tryd.isAgg129,
 z143 := Tryd.sizeOf129,
 v143 := Tryd.zeroValue129,
 t145 := Tryd.underlying131,
 a145 := Tryd.isAgg131,
 z145 := Tryd.sizeOf131,
 v145 := Tryd.zeroValue131,
 t167 := Tryd.underlying102,
 a167 := Tryd.isAgg102,
 z167 := Tryd.sizeOf102,
 v167 := Tryd.zeroValue102,
 t168 := Tryd.underlying105,
 a168 := Tryd.isAgg105,
 z168 := Tryd.sizeOf105,
 v168 := Tryd.zeroValue105,
 t171 := Tryd.underlying133,
 a171 := Tryd.isAgg133,
 z171 := Tryd.sizeOf133,
 v171 := Tryd.zeroValue133,
 t173 := Tryd.underlying136,
 a173 := Tryd.isAgg136,
 z173 := Tryd.sizeOf136,
 v173 := Tryd.zeroValue136,
 t175 := Tryd.underlying119,
 a175 := Tryd.isAgg119,
 z175 := Tryd.sizeOf119,
 v175 := Tryd.zeroValue119,
 t210 := Tryd.underlying124,
 a210 := Tryd.isAgg124,
 z210 := Tryd.sizeOf124,
 v210 := Tryd.zeroValue124,
 t212 := Tryd.underlying139,
 a212 := Tryd.isAgg139,
 z212 := Tryd.sizeOf139,
 v212 := Tryd.zeroValue139,
 t213 := Tryd.underlying140,
 a213 := Tryd.isAgg140,
 z213 := Tryd.sizeOf140,
 t232 := Tryd.underlying143,
 a232 := Tryd.isAgg143,
 z232 := Tryd.sizeOf143,
 v232 := Tryd.zeroValue143,
 t233 := Tryd.underlying144,
 a233 := Tryd.isAgg144,
 z233 := Tryd.sizeOf144,
 v233 := Tryd.zeroValue144,
 g15 := by kernel_rfl,
 g16 := by kernel_rfl,
 g17 := by kernel_rfl,
 g18 := by kernel_rfl,
 g19 := by kernel_rfl }
def Tryd.l7_32_ren : Go.Shelf.Ren := ⟨fun | 32 => 33 | 49 => 51 | n => n, fun | 30 => 27 | 21 => 21 | 3 => 3 | 0 => 0 | 5 => 5 | 4 => 4 | 33 => 76 | 66 => 108 | 25 => 109 | 69 => 112 | 68 => 111 | n => n, fun | 2 => 1 | 3 => 2 | n => n⟩
theorem Tryd.l7_32 : Go.Proofs.Lays7.n32 Tryd.prog Tryd.l7_32_ren := {
 mixed := by kernel_rfl,
 f32 := Tryd.func33.trans (congrArg some (by kernel_rfl)),
 f49 := Tryd.func51.trans (congrArg some (by kernel_rfl)),
 t0 := Tryd.underlying0,
 a0 := Tryd.isAgg0,
 z0 := Tryd.sizeOf0,
 v0 := Tryd.zeroValue0,
 i0 := by kernel_rfl,
 t3 := Tryd.underlying3,
 a3 := Tryd.isAgg3,
 z3 := Tryd.sizeOf3,
 v3 := Tryd.zeroValue3,
 i3 := by kernel_rfl,
 t4 := Tryd.underlying4,
 a4 := Tryd.isAgg4,
 z4 := Tryd.sizeOf4,
 v4 := Tryd.zeroValue4,
 i4 := by kernel_rfl,
 t5 := Tryd.underlying5,
 a5 := Tryd.isAgg5,
 z5 := Tryd.sizeOf5,
 v5 := Tryd.zeroValue5,
 i5 := by kernel_rfl,
 t21 := Tryd.underlying21,
 a21 := Tryd.isAgg21,
 z21 := Tryd.sizeOf21,
 v21 := Tryd.zeroValue21,
 i21 := by kernel_rfl,
 t25 := Tryd.underlying109,
 a25 := Tryd.isAgg109,
 z25 := Tryd.sizeOf109,
 v25 := Tryd.zeroValue109,
 i25 := by kernel_rfl,
 t30 := Tryd.underlying27,
 a30 := Tryd.isAgg27,
 z30 := Tryd.sizeOf27,
 v30 := Tryd.zeroValue27,
 i30 := by kernel_rfl,
 t33 := Tryd.underlying76,
 a33 := Tryd.isAgg76,
 z33 := Tryd.sizeOf76,
 v33 := Tryd.zeroValue76,
 i33 := by kernel_rfl,
 t66 := Tryd.underlying108,
 a66 := Tryd.isAgg108,
 z66 := Tryd.sizeOf108,
 t68 := Tryd.underlying111,
 a68 := Tryd.isAgg111,
 z68 := Tryd.sizeOf111,
 v68 := Tryd.zeroValue111,
 i68 := by kernel_rfl,
 t69 := Tryd.underlying112,
 a69 := Tryd.isAgg112,
 z69 := Tryd.sizeOf112,
 v69 := Tryd.zeroValue112,
 i69 := by kernel_rfl,
 g2 := by kernel_rfl,
 g3 := by kernel_rfl }
def Tryd.l197_ren : Go.Shelf.Ren := ⟨fun | 197 => 59 | 260 => 72 | n => n, fun | 9 => 9 | 21 => 21 | 3 => 3 | 4 => 4 | 5 => 5 | 105 => 76 | 119 => 108 | 0 => 0 | 46 => 109 | 139 => 112 | 138 => 111 | n => n, fun | 3 => 1 | 4 => 2 | n => n⟩
theorem Tryd.l197 : Go.Proofs.Lays.n197 Tryd.prog Tryd.l197_ren := {
 mixed := by kernel_rfl,
 f197 := Tryd.func59.trans (congrArg some (by kernel_rfl)),
 f260 := Tryd.func72.trans (congrArg some (by kernel_rfl)),
 t0 := Tryd.underlying0,
 a0 := Tryd.isAgg0,
 z0 := Tryd.sizeOf0,
 v0 := Tryd.zeroValue0,
 t3 := Tryd.underlying3,
 a3 := Tryd.isAgg3,
 z3 := Tryd.sizeOf3,
 v3 := Tryd.zeroValue3,
 t4 := Tryd.underlying4,
 a4 := Tryd.isAgg4,
 z4 := Tryd.sizeOf4,
 v4 := Tryd.zeroValue4,
 t5 := Tryd.underlying5,
 a5 := Tryd.isAgg5,
 z5 := Tryd.sizeOf5,
 v5 := Tryd.zeroValue5,
 t9 := Tryd.underlying9,
 a9 := Tryd.isAgg9,
 z9 := Tryd.sizeOf9,
 v9 := Tryd.zeroValue9,
 t21 := Tryd.underlying21,
 a21 := Tryd.isAgg21,
 z21 := Tryd.sizeOf21,
 v21 := Tryd.zeroValue21,
 t46 := Tryd.underlying109,
 a46 := Tryd.isAgg109,
 z46 := Tryd.sizeOf109,
 v46 := Tryd.zeroValue109,
 t105 := Tryd.underlying76,
 a105 := Tryd.isAgg76,
 z105 := Tryd.sizeOf76,
 v105 := Tryd.zeroValue76,
 t119 := Tryd.underlying108,
 a119 := Tryd.isAgg108,
 z119 := Tryd.sizeOf108,
 t138 := Tryd.underlying111,
 a138 := Tryd.isAgg111,
 z138 := Tryd.sizeOf111,
 v138 := Tryd.zeroValue111,
 t139 := Tryd.underlying112,
 a139 := Tryd.isAgg112,
 z139 := Tryd.sizeOf112,
 v139 := Tryd.zeroValue112,
 g3 := by kernel_rfl,
 g4 := by kernel_rfl }
end Go.Proofs
namespace Go.Proofs.YtefefpkgiecikaaDoor.P
open Go.RowKit Go.Proofs.YtefefpkgiecikaaDoorW.PrintWords Go.Proofs.YtefefpkgiecikaaDoorW.PrintLast
def strings_IndexByte.f (a0 : ByteArray) (a1 : Int) : Option Int := some (Lib.indexByte a0.data.toList a1.toNat.toUInt8)
theorem strings_IndexByte.calls (a0 : ByteArray) (a1 : Int) (r : Int) (w : World) (h : strings_IndexByte.f a0 a1 = some r) :
  Calls Tryd.prog 35 #[.string a0, .int .u8 a1] w fun e w' => e = .returned (.int .i64 r) ∧ Drawn0 w w' := by
 refine (Any.strings_IndexByte Tryd.l137 a0 a1 w).mono ?_
 rintro e w' ⟨rfl, rfl⟩
 unfold strings_IndexByte.f at h
 injection h with h
 subst h
 exact ⟨rfl, Drawn0.refl _⟩
def strings_Trim.f (a0 a1 : ByteArray) : Option ByteArray :=
 if a0.size ≤ 9223372036854775807 ∧ a1.size < 4294967281 ∧ a1.data.toList.all (fun b => decide (b.toNat < 128)) = true then some ⟨(Lib.trimS a0.data.toList a1.data.toList).toArray⟩ else none
theorem strings_Trim.calls (a0 a1 : ByteArray) (r : ByteArray) (w : World) (h : strings_Trim.f a0 a1 = some r) :
  Calls Tryd.prog 29 #[.string a0, .string a1] w fun e w' => e = .returned (.string r) ∧ Below w.heap.size w w' := by
 unfold strings_Trim.f at h
 split at h
 ·rename_i hc
  injection h with h
  subst h
  exact Any.strings_Trim_laid Tryd.l160 (by kernel_rfl) a0 a1 w hc.1 hc.2.1 (ascii_of_all hc.2.2)
 ·cases h
def strings_TrimLeft.f (a0 a1 : ByteArray) : Option ByteArray :=
 if a1.size < 4294967281 ∧ a1.data.toList.all (fun b => decide (b.toNat < 128)) = true then some ⟨(Lib.trimLeftS a0.data.toList a1.data.toList).toArray⟩ else none
theorem strings_TrimLeft.calls (a0 a1 : ByteArray) (r : ByteArray) (w : World) (h : strings_TrimLeft.f a0 a1 = some r) :
  Calls Tryd.prog 30 #[.string a0, .string a1] w fun e w' => e = .returned (.string r) ∧ Below w.heap.size w w' := by
 unfold strings_TrimLeft.f at h
 split at h
 ·rename_i hc
  injection h with h
  subst h
  exact Any.strings_TrimLeft_laid Tryd.l161 (by kernel_rfl) a0 a1 w hc.1 (ascii_of_all hc.2)
 ·cases h
def strconv_toError.f (_ _ : ByteArray) (_ _ : Int) (_ : Option Int) : Option (Option Int) := none
theorem strconv_toError.calls (a0 a1 : ByteArray) (a2 a3 : Int) (a4 : Option Int) (r : Option Int) (w : World) (h : strconv_toError.f a0 a1 a2 a3 a4 = some r) :
  Calls Tryd.prog 49 #[.string a0, .string a1, .int .i64 a2, .int .i64 a3, errW a4] w fun e w' => e = .returned (errW r) ∧ Below w.heap.size w w' := by cases h
def strconv_underscoreOK.f (_ : ByteArray) : Option Bool := none
theorem strconv_underscoreOK.calls (a0 : ByteArray) (r : Bool) (w : World) (h : strconv_underscoreOK.f a0 = some r) :
  Calls Tryd.prog 84 #[.string a0] w fun e w' => e = .returned (.bool r) ∧ Below w.heap.size w w' := by cases h
def strconv_ParseUint.f (_ : ByteArray) (_ _ : Int) : Option (Int × Option Int) := none
theorem strconv_ParseUint.calls (a0 : ByteArray) (a1 a2 : Int) (r1 : Int) (r2 : Option Int) (w : World) (h : strconv_ParseUint.f a0 a1 a2 = some (r1, r2)) :
  Calls Tryd.prog 71 #[.string a0, .int .i64 a1, .int .i64 a2] w fun e w' => e = .returned (.tuple #[.int .u64 r1, errW r2]) ∧ Below w.heap.size w w' := by cases h
def strconv_Atoi.f (a0 : ByteArray) : Option (Int × Option Int) := if a0.size ≤ 18 then (Lib.atoi a0.data.toList).map fun n => (n, none) else none
theorem strconv_Atoi.calls (a0 : ByteArray) (r1 : Int) (r2 : Option Int) (w : World) (h : strconv_Atoi.f a0 = some (r1, r2)) :
  Calls Tryd.prog 31 #[.string a0] w fun e w' => e = .returned (.tuple #[.int .i64 r1, errW r2]) ∧ Below w.heap.size w w' := by
 unfold strconv_Atoi.f at h
 split at h
 ·rename_i hc
  obtain ⟨n, hn, he⟩ := Option.map_eq_some_iff.1 h
  injection he with h1 h2
  subst h1 h2
  refine (Any.strconv_Atoi Tryd.l172 a0 n hc hn w).mono ?_
  rintro e w' ⟨rfl, t, rfl⟩
  exact ⟨rfl, bytes_below (Below.refl _ _) (Nat.le_refl _) _ _⟩
 ·cases h
def bytesB (l : List Int) : Bool := l.all fun x => decide (0 ≤ x) && decide (x ≤ 255)
theorem bytesB_at {l : List Int} (h : bytesB l = true) (j : Nat) (hj : j < l.length) : 0 ≤ l[j] ∧ l[j] ≤ 255 := by
 have := List.all_eq_true.1 h l[j] (List.getElem_mem hj)
 simpa using this
theorem strOf_get {l : List Int} (h : bytesB l = true) (j : Nat) (hj : j < l.length) : (((strOfNums l).get! j).toNat : Int) = l[j] := by
 have hb := bytesB_at h j hj
 have hs : j < (strOfNums l).size := by rw [strOfNums_size]; exact hj
 have e1 : (strOfNums l).get! j = UInt8.ofNat l[j].toNat := by
  have hs' : j < (strOfNums l).data.size := hs
  show (strOfNums l).data[j]! = _
  rw [getElem!_pos (strOfNums l).data j hs']
  simp [strOfNums]
 rw [e1]
 have : (UInt8.ofNat l[j].toNat).toNat = l[j].toNat := by
  simp
  omega
 omega
def utf8_DecodeRune.f (l0 : List Int) : Option (Int × Int) := if 0 < l0.length then (if bytesB l0 = true then some (((Lib.decodeGo (strOfNums l0)).1 : Int), ((Lib.decodeGo (strOfNums l0)).2 : Int)) else none) else none
theorem utf8_DecodeRune.calls (A0 : Option Addr) (c0 : Nat) (l0 : List Int) (r1 r2 : Int) (w : World) (hLD : LD w) (hr0 : Kd.C (Kd.int .u8) w A0 l0.length l0) (hc0 : l0.length ≤ c0) (h : utf8_DecodeRune.f l0 = some (r1, r2)) :
  Calls Tryd.prog 33 #[.slice A0 l0.length c0] w fun e w' => e = .returned (.tuple #[.int .i32 r1, .int .i64 r2]) ∧ Below w.heap.size w w' := by
 unfold utf8_DecodeRune.f at h
 split at h
 ·rename_i hl
  split at h
  ·rename_i hb
   simp only [Option.some.injEq, Prod.mk.injEq] at h
   obtain ⟨rfl, rfl⟩ := h
   obtain ⟨ad, rfl, hc⟩ := (Kd.reads_of_C (d := (0 : Int)) hr0).2.2 hl
   have h0 := hc 0 hl
   obtain ⟨b, off, sp⟩ := ad
   have hsp : sp = none := by
    cases sp with
    | none => rfl
    | some z => simp [Addr.add, World.cell?] at h0; split at h0 <;> simp_all
   subst hsp
   have hz := Any7.utf8_DecodeRune Tryd.l7_32 (strOfNums l0) b off c0 w hLD.utf8 (fun j hj => by
    rw [strOfNums_size] at hj
    have h1 := hc j hj
    have ha : (Addr.add ⟨b, off, none⟩ j) = ⟨b, off + j, none⟩ := by unfold Addr.add; split <;> simp_all
    rw [ha] at h1
    rw [h1, strOf_get hb j hj]
    simp [List.getD_eq_getElem?_getD, List.getElem?_eq_getElem hj])
   rw [strOfNums_size] at hz
   exact hz
  ·cases h
 ·cases h
def utf8_DecodeRuneInString.f (a0 : ByteArray) : Option (Int × Int) := some (((Lib.decodeGo a0).1 : Int), ((Lib.decodeGo a0).2 : Int))
theorem utf8_DecodeRuneInString.calls (a0 : ByteArray) (r1 r2 : Int) (w : World) (hLD : LD w) (h : utf8_DecodeRuneInString.f a0 = some (r1, r2)) :
  Calls Tryd.prog 59 #[.string a0] w fun e w' => e = .returned (.tuple #[.int .i32 r1, .int .i64 r2]) ∧ Below w.heap.size w w' := by
 unfold utf8_DecodeRuneInString.f at h
 simp only [Option.some.injEq, Prod.mk.injEq] at h
 obtain ⟨rfl, rfl⟩ := h
 exact Any.utf8_DecodeRuneInString Tryd.l197 a0 w hLD.utf8
end Go.Proofs.YtefefpkgiecikaaDoor.P
namespace Go.Proofs.YtefefpkgiecikaaDoor.P
open Go.RowKit Go.Proofs.YtefefpkgiecikaaDoorW.PrintWords Go.Proofs.YtefefpkgiecikaaDoorW.PrintLast Go.Proofs.YtefefpkgiecikaaDoorW.PrintMore
attribute [local go_sem] max2_int min2_int max_two min_two max_three min_three max_four min_four
set_option linter.unusedVariables false
set_option linter.unusedSimpArgs false
mutual
def num_Parse.j0 : Nat → ByteArray → Bool → Bool → Option (Bool × List Int × Bool)
 | 0, _, _, _ => none
 | k + 1, x4, x5, x27 => if x27 = true then (some (false, ([] : List Int), false)) else ((strings_TrimLeft.f x4 (⟨#[48]⟩ : ByteArray)).bind fun t131 => (if (t131.size : Int) > 576 then (some (false, ([] : List Int), false)) else (num_Parse.l0 k t131 x5 ([] : List Int) (t131.size : Int))))
def num_Parse.l0 : Nat → ByteArray → Bool → List Int → Int → Option (Bool × List Int × Bool)
 | 0, _, _, _, _ => none
 | k + 1, x4, x5, x6, x7 => if x7 > 0 then (if 0 ≤ (mx (wrap64 (x7 - 9)) 0) then (if (mx (wrap64 (x7 - 9)) 0) ≤ x7 then (if x7 ≤ (x4.size : Int) then ((strconv_Atoi.f (x4.extract ((mx (wrap64 (x7 - 9)) 0) : Int).toNat (x7 : Int).toNat)).bind fun bt132 => (if x6.length < 35184372088832 then (num_Parse.l0 k x4 x5 (x6 ++ [(bt132.1) % 4294967296]) (wrap64 (x7 - 9))) else (none))) else (none)) else (none)) else (none)) else ((num_of.f k x5 x6).bind fun bt137 => (some (bt137.1, bt137.2.1, (bt137.2.2 == 0))))
def num_Parse.j2 : Nat → ByteArray → Bool → Bool → Option (Bool × List Int × Bool)
 | 0, _, _, _ => none
 | k + 1, x4, x5, x27 => if x27 = true then (some (false, ([] : List Int), false)) else ((strings_TrimLeft.f x4 (⟨#[48]⟩ : ByteArray)).bind fun t144 => (if (t144.size : Int) > 576 then (some (false, ([] : List Int), false)) else (num_Parse.l0 k t144 x5 ([] : List Int) (t144.size : Int))))
end
def num_Parse.f (k : Nat) (a0 : ByteArray) : Option (Bool × List Int × Bool) := (strings_TrimPrefix.f a0 (⟨#[45]⟩ : ByteArray)).bind fun t128 => (if t128.toList = a0.toList then ((strings_TrimPrefix.f a0 (⟨#[43]⟩ : ByteArray)).bind fun t129 => (if t129.toList = ([] : List UInt8) then (num_Parse.j0 k t129 false true) else ((strings_Trim.f t129 (⟨#[48, 49, 50, 51, 52, 53, 54, 55, 56, 57]⟩ : ByteArray)).bind fun t130 => (num_Parse.j0 k t129 false (!t130.toList.isEmpty))))) else (if t128.toList = ([] : List UInt8) then (num_Parse.j2 k t128 true true) else ((strings_Trim.f t128 (⟨#[48, 49, 50, 51, 52, 53, 54, 55, 56, 57]⟩ : ByteArray)).bind fun t143 => (num_Parse.j2 k t128 true (!t143.toList.isEmpty)))))
theorem num_Parse.mono_l : ∀ k, (∀ y0 y1 y2, LeO (num_Parse.j0 k y0 y1 y2) (num_Parse.j0 (k + 1) y0 y1 y2)) ∧ (∀ y0 y1 y2 y3, LeO (num_Parse.l0 k y0 y1 y2 y3) (num_Parse.l0 (k + 1) y0 y1 y2 y3)) ∧ (∀ y0 y1 y2, LeO (num_Parse.j2 k y0 y1 y2) (num_Parse.j2 (k + 1) y0 y1 y2))
 | 0 => ⟨fun _ _ _ r h => by simp [num_Parse.j0] at h, fun _ _ _ _ r h => by simp [num_Parse.l0] at h, fun _ _ _ r h => by simp [num_Parse.j2] at h⟩
 | k + 1 => by
  obtain ⟨ih0, ih1, ih2⟩ := num_Parse.mono_l k
  refine ⟨?_, ?_, ?_⟩
  ·intro y0 y1 y2
   unfold num_Parse.j0
   repeat' first
   | (with_reducible exact ih0 _ _ _)
   | (with_reducible exact ih1 _ _ _ _)
   | (with_reducible exact ih2 _ _ _)
   | (with_reducible exact num_of.mono _ _ _)
   | (with_reducible exact LeO.refl _)
   | (with_reducible exact LeO.none _)
   | (with_reducible refine LeO.ite ?_ ?_)
   | (with_reducible refine LeO.bind ?_ (fun _ => ?_))
   | exact ih0 _ _ _
   | exact ih1 _ _ _ _
   | exact ih2 _ _ _
   | exact num_of.mono _ _ _
   | exact LeO.none _
   | refine LeO.ite ?_ ?_
   | refine LeO.bind ?_ (fun _ => ?_)
  ·intro y0 y1 y2 y3
   unfold num_Parse.l0
   repeat' first
   | (with_reducible exact ih0 _ _ _)
   | (with_reducible exact ih1 _ _ _ _)
   | (with_reducible exact ih2 _ _ _)
   | (with_reducible exact num_of.mono _ _ _)
   | (with_reducible exact LeO.refl _)
   | (with_reducible exact LeO.none _)
   | (with_reducible refine LeO.ite ?_ ?_)
   | (with_reducible refine LeO.bind ?_ (fun _ => ?_))
   | exact ih0 _ _ _
   | exact ih1 _ _ _ _
   | exact ih2 _ _ _
   | exact num_of.mono _ _ _
   | exact LeO.none _
   | refine LeO.ite ?_ ?_
   | refine LeO.bind ?_ (fun _ => ?_)
  ·intro y0 y1 y2
   unfold num_Parse.j2
   repeat' first
   | (with_reducible exact ih0 _ _ _)
   | (with_reducible exact ih1 _ _ _ _)
   | (with_reducible exact ih2 _ _ _)
   | (with_reducible exact num_of.mono _ _ _)
   | (with_reducible exact LeO.refl _)
   | (with_reducible exact LeO.none _)
   | (with_reducible refine LeO.ite ?_ ?_)
   | (with_reducible refine LeO.bind ?_ (fun _ => ?_))
   | exact ih0 _ _ _
   | exact ih1 _ _ _ _
   | exact ih2 _ _ _
   | exact num_of.mono _ _ _
   | exact LeO.none _
   | refine LeO.ite ?_ ?_
   | refine LeO.bind ?_ (fun _ => ?_)
theorem num_Parse.mono : ∀ a0 k, LeO (num_Parse.f k a0) (num_Parse.f (k + 1) a0) := by
 intro a0 k
 obtain ⟨ih0, ih1, ih2⟩ := num_Parse.mono_l k
 unfold num_Parse.f
 repeat' first
   | (with_reducible exact ih0 _ _ _)
   | (with_reducible exact ih1 _ _ _ _)
   | (with_reducible exact ih2 _ _ _)
   | (with_reducible exact num_of.mono _ _ _)
   | (with_reducible exact LeO.refl _)
   | (with_reducible exact LeO.none _)
   | (with_reducible refine LeO.ite ?_ ?_)
   | (with_reducible refine LeO.bind ?_ (fun _ => ?_))
   | exact ih0 _ _ _
   | exact ih1 _ _ _ _
   | exact ih2 _ _ _
   | exact num_of.mono _ _ _
   | exact LeO.none _
   | refine LeO.ite ?_ ?_
   | refine LeO.bind ?_ (fun _ => ?_)
set_option maxHeartbeats 8000000 in
set_option maxRecDepth 100000 in
theorem num_Parse.calls (k : Nat) (a0 : ByteArray) (r1 : Bool) (r2 : List Int) (r3 : Bool) (w : World) (h : num_Parse.f k a0 = some (r1, r2, r3)) :
  Calls Tryd.prog 16 #[.string a0] w fun e w' => ∃ v1_ : Value, e = .returned (.tuple #[.agg #[.bool r1, v1_], .bool r3]) ∧ Kd.V (Kd.int .u32) 73 w' w.heap.size (fun k_ => (w.heap.size ≤ k_)) v1_ r2 ∧ Below w.heap.size w w' := by
 have hu30 := Tryd.underlying30
 have HB := Aside0.mk (Below.refl w.heap.size w)
 have H : ((strings_TrimPrefix.f a0 (⟨#[45]⟩ : ByteArray)).bind fun t128 => (if t128.toList = a0.toList then ((strings_TrimPrefix.f a0 (⟨#[43]⟩ : ByteArray)).bind fun t129 => (if t129.toList = ([] : List UInt8) then (num_Parse.j0 k t129 false true) else ((strings_Trim.f t129 (⟨#[48, 49, 50, 51, 52, 53, 54, 55, 56, 57]⟩ : ByteArray)).bind fun t130 => (num_Parse.j0 k t129 false (!t130.toList.isEmpty))))) else (if t128.toList = ([] : List UInt8) then (num_Parse.j2 k t128 true true) else ((strings_Trim.f t128 (⟨#[48, 49, 50, 51, 52, 53, 54, 55, 56, 57]⟩ : ByteArray)).bind fun t143 => (num_Parse.j2 k t128 true (!t143.toList.isEmpty)))))) = some (r1, r2, r3) := h
 clear h
 replace H := Option.bind_eq_some_iff.mp H
 obtain ⟨t128, A20, H⟩ := H
 replace H : (if t128.toList = a0.toList then ((strings_TrimPrefix.f a0 (⟨#[43]⟩ : ByteArray)).bind fun t129 => (if t129.toList = ([] : List UInt8) then (num_Parse.j0 k t129 false true) else ((strings_Trim.f t129 (⟨#[48, 49, 50, 51, 52, 53, 54, 55, 56, 57]⟩ : ByteArray)).bind fun t130 => (num_Parse.j0 k t129 false (!t130.toList.isEmpty))))) else (if t128.toList = ([] : List UInt8) then (num_Parse.j2 k t128 true true) else ((strings_Trim.f t128 (⟨#[48, 49, 50, 51, 52, 53, 54, 55, 56, 57]⟩ : ByteArray)).bind fun t143 => (num_Parse.j2 k t128 true (!t143.toList.isEmpty))))) = some (r1, r2, r3) := H
 have A2 := Aside0.mk A20
 clear A20
 by_cases c3 : t128.toList = a0.toList
 ·rw [if_pos c3] at H
  have c3b0 : (t128.toList == a0.toList) = true := beq_iff_eq.mpr c3
  have c3b1 : (t128.toList != a0.toList) = false := bne_eq_false_iff_eq.mpr c3
  clear c3
  replace H := Option.bind_eq_some_iff.mp H
  obtain ⟨t129, A40, H⟩ := H
  replace H : (if t129.toList = ([] : List UInt8) then (num_Parse.j0 k t129 false true) else ((strings_Trim.f t129 (⟨#[48, 49, 50, 51, 52, 53, 54, 55, 56, 57]⟩ : ByteArray)).bind fun t130 => (num_Parse.j0 k t129 false (!t130.toList.isEmpty)))) = some (r1, r2, r3) := H
  have A4 := Aside0.mk A40
  clear A40
  have HC5 := Aside0.mk H
  clear H
  go_enter Tryd.func16, Tryd.ntmps16
  go_upto_region 5 with (first|((with_reducible refine gate_dst (N := 2) rfl ?_);refine box_event ?hg (N := 2) ?hd (cs := #[.bool false, .slice none 0 0]) (t := 30) ?hr ?_;(case hd => rfl);(case hg => rfl);(case hr => first|(go_simp;done)|(go_simp;rfl));intro gb127 hg w6 hbox hb;have n0_ := Aside0.mk (below_step (by repeat (first|(with_reducible first|exact HB.out|apply below_alloc|apply pw_below_drewN|apply below_drew1)|exact HB.out)) hb);have n1_ := Aside0.mk (hbox);have n2_ := Aside0.mk ((by rw [hg];exact (below_size (by repeat (first|(with_reducible first|exact HB.out|apply below_alloc|apply pw_below_drewN|apply below_drew1)|exact HB.out))) : w.heap.size ≤ gb127));have n3_ := Aside0.mk ((by rw [hg];exact (below_size (by repeat (first|(with_reducible first|exact HB.out|apply below_alloc|apply pw_below_drewN|apply below_drew1)|exact HB.out))) : w.heap.size ≤ gb127));clear HB;have HB := n0_;have BK127 := n1_;have GW127 := n2_;have GE127 := n3_;clear n0_ n1_ n2_ n3_;clear hb hbox hg)|((with_reducible refine gate_callee (f := 28) rfl ?_);refine goesL_ (some 13) rfl rfl Tryd.func28 (by kernel_rfl) rfl #[.string a0, .string (⟨#[45]⟩ : ByteArray)] rfl (by (try simp only [List.map_toArray, List.map_cons, List.map_nil]);first|done|rfl|(simp only [List.length_drop, List.length_take];rfl)) ?_;(with_reducible refine (strings_TrimPrefix.calls a0 (⟨#[45]⟩ : ByteArray) t128 _ A2.out).mono ?_);rintro e w' ⟨rfl, ⟨nd, rfl⟩⟩;refine ⟨_, rfl, ?_⟩)|((with_reducible refine gate_callee (f := 28) rfl ?_);refine goesL_ (some 20) rfl rfl Tryd.func28 (by kernel_rfl) rfl #[.string a0, .string (⟨#[43]⟩ : ByteArray)] rfl (by (try simp only [List.map_toArray, List.map_cons, List.map_nil]);first|done|rfl|(simp only [List.length_drop, List.length_take];rfl)) ?_;(with_reducible refine (strings_TrimPrefix.calls a0 (⟨#[43]⟩ : ByteArray) t129 _ A4.out).mono ?_);rintro e w' ⟨rfl, ⟨nd, rfl⟩⟩;refine ⟨_, rfl, ?_⟩))
  (try simp only [Act.put, List.setIfInBounds_toArray, List.set_cons_zero, List.set_cons_succ])
  go_cut [27] (fun v27 wc => ∃ (kq : Nat) (x27_4 : Bool), v27 = .bool x27_4 ∧ Aside0 (num_Parse.j0 kq t129 false x27_4 = some (r1, r2, r3)) ∧ Aside0 (kq ≤ k) ∧ Aside0 (wc.heap[gb127]? = some (.cells #[.bool false, (.slice none 0 0)] 30 (0, 0))) ∧ Aside0 (Below w.heap.size w wc))
  case first =>
   have H := HC5.out
   clear HC5
   by_cases c7 : t129.toList = ([] : List UInt8)
   ·rw [if_pos c7] at H
    have c7b0 : (t129.toList == ([] : List UInt8)) = true := beq_iff_eq.mpr c7
    have c7b1 : (t129.toList != ([] : List UInt8)) = false := bne_eq_false_iff_eq.mpr c7
    clear c7
    (first|rw [c7b0]|(simp only [i64_w, i32_w];rw [c7b0])|skip)
    have H' := Aside0.mk H
    clear H
    go_wp2
    go_meet
    case rel => exact ⟨_, (true), (by first|rfl|(simp;done)|(simp [*];done)), H', ⟨by first|omega|exact Nat.le_refl _⟩, ⟨by (with_reducible repeat (first|refine blk_drewN ?_ _|refine blk_drew ?_|refine blk_alloc ?_ _));exact BK127.out⟩, ⟨by repeat (first|(with_reducible first|exact HB.out|apply below_alloc|apply pw_below_drewN|apply below_drew1|refine below_set ?_ GE127.out)|exact HB.out)⟩⟩
   ·rw [if_neg c7] at H
    have c7b0 : (t129.toList == ([] : List UInt8)) = false := beq_eq_false_iff_ne.mpr c7
    have c7b1 : (t129.toList != ([] : List UInt8)) = true := bne_iff_ne.mpr c7
    (first|rw [c7b0]|(simp only [i64_w, i32_w];rw [c7b0])|skip)
    replace H := Option.bind_eq_some_iff.mp H
    obtain ⟨t130, A80, H⟩ := H
    replace H : (num_Parse.j0 k t129 false (!t130.toList.isEmpty)) = some (r1, r2, r3) := H
    have A8 := Aside0.mk A80
    clear A80
    have H' := Aside0.mk H
    clear H
    go_wp2_with (first|(go_at_call 29;(with_reducible refine (strings_Trim.calls t129 (⟨#[48, 49, 50, 51, 52, 53, 54, 55, 56, 57]⟩ : ByteArray) t130 _ A8.out).mono ?_);rintro e w9 ⟨rfl, hb⟩;have n0_ := Aside0.mk (blk_below (g := gb127) (o := .cells #[.bool false, .slice none 0 0] 30 (0, 0)) (by (with_reducible repeat (first|refine blk_drewN ?_ _|refine blk_drew ?_|refine blk_alloc ?_ _));exact BK127.out) hb);have n1_ := Aside0.mk (below_step (by repeat (first|(with_reducible first|exact HB.out|apply below_alloc|apply pw_below_drewN|apply below_drew1|refine below_set ?_ GE127.out)|exact HB.out)) hb);clear BK127;clear HB;have BK127 := n0_;have HB := n1_;clear n0_ n1_;(try clear hb);(try clear hb2);(try clear hk);(try clear hi)))
    go_meet
    case rel => exact ⟨_, ((!t130.toList.isEmpty)), (by first|rfl|(simp;done)|(simp [*];done)), H', ⟨by first|omega|exact Nat.le_refl _⟩, ⟨by (with_reducible repeat (first|refine blk_drewN ?_ _|refine blk_drew ?_|refine blk_alloc ?_ _));exact BK127.out⟩, ⟨by repeat (first|(with_reducible first|exact HB.out|apply below_alloc|apply pw_below_drewN|apply below_drew1|refine below_set ?_ GE127.out)|exact HB.out)⟩⟩
  case rest =>
   clear HC5
   try clear c1
   try clear c2
   try clear p2
   try clear c3
   try clear c3b0
   try clear c3b1
   try clear c7
   try clear c7b0
   try clear c7b1
   obtain ⟨kq, x27_4, rfl, HA, HJ4, BK127, HB⟩ := hcut
   cases kq with
   | zero => exact absurd HA.out (by simp [num_Parse.j0])
   | succ kj4 =>
    have H := HA.out
    clear HA
    simp only [num_Parse.j0] at H
    by_cases c10 : x27_4 = true
    ·subst c10
     have H1 : (some (false, ([] : List Int), false)) = some (r1, r2, r3) := by rw [if_pos rfl] at H; exact H
     clear H
     have H := H1
     clear H1
     simp only [Option.some.injEq, Prod.mk.injEq] at H
     obtain ⟨rfl, rfl, rfl⟩ := H
     have hcz11_0 : wc.cell? ⟨gb127, 0, none⟩ = some (.bool false) := (blk_cell BK127.out 0).trans rfl
     have hcz11_1 : wc.cell? ⟨gb127, 1, none⟩ = some (.slice none 0 0) := (blk_cell BK127.out 1).trans rfl
     have hfz11_0 := blk_frozen BK127.out 0
     have hfz11_1 := blk_frozen BK127.out 1
     go_wp2
     refine bodyPost_ret (results_ct rfl _ _ gb127 30 #[.bool false, .slice none 0 0] (0, 0) _ rfl (by (with_reducible repeat (first|refine blk_drewN ?_ _|refine blk_drew ?_|refine blk_alloc ?_ _));refine blk_put (cs := #[.bool false, .slice none 0 0]) ?_ 1 _ rfl;(with_reducible repeat (first|refine blk_drewN ?_ _|refine blk_drew ?_|refine blk_alloc ?_ _));refine blk_put (cs := #[.bool false, .slice none 0 0]) ?_ 0 _ rfl;(with_reducible repeat (first|refine blk_drewN ?_ _|refine blk_drew ?_|refine blk_alloc ?_ _));exact BK127.out) Tryd.underlying30 rfl (by kernel_rfl)) rfl ?_
     exact ⟨_, by first|rfl|(simp [errW_none, errW_some] <;> rfl)|(simp [*, errW_none, errW_some] <;> rfl), Kd.V_nil _ _ _ _ _, by repeat (first|(with_reducible first|exact HB.out|apply below_alloc|apply pw_below_drewN|apply below_drew1|refine below_set ?_ GE127.out)|exact HB.out)⟩
    ·replace c10 := Bool.eq_false_iff.mpr c10
     subst c10
     have H1 : ((strings_TrimLeft.f t129 (⟨#[48]⟩ : ByteArray)).bind fun t131 => (if (t131.size : Int) > 576 then (some (false, ([] : List Int), false)) else (num_Parse.l0 kj4 t131 false ([] : List Int) (t131.size : Int)))) = some (r1, r2, r3) := by rw [if_neg (show ¬ (false = true) by decide)] at H; exact H
     clear H
     have H := H1
     clear H1
     replace H := Option.bind_eq_some_iff.mp H
     obtain ⟨t131, A120, H⟩ := H
     replace H : (if (t131.size : Int) > 576 then (some (false, ([] : List Int), false)) else (num_Parse.l0 kj4 t131 false ([] : List Int) (t131.size : Int))) = some (r1, r2, r3) := H
     have A12 := Aside0.mk A120
     clear A120
     by_cases c13 : (t131.size : Int) > 576
     ·rw [if_pos c13] at H
      have c13b0 : decide (576 < (t131.size : Int)) = true := decide_eq_true c13
      have c13b1 : decide (576 < t131.size) = true := decide_eq_true (by omega)
      clear c13
      simp only [Option.some.injEq, Prod.mk.injEq] at H
      obtain ⟨rfl, rfl, rfl⟩ := H
      go_wp2_with (first|((with_reducible refine gate_callee (f := 30) rfl ?_);refine goesL_ (some 30) rfl rfl Tryd.func30 (by kernel_rfl) rfl #[.string t129, .string (⟨#[48]⟩ : ByteArray)] rfl (by (try simp only [List.map_toArray, List.map_cons, List.map_nil]);first|done|rfl|(simp only [List.length_drop, List.length_take];rfl)) ?_;(with_reducible refine (strings_TrimLeft.calls t129 (⟨#[48]⟩ : ByteArray) t131 _ A12.out).mono ?_);rintro e w14 ⟨rfl, hb⟩;refine ⟨_, rfl, ?_⟩;have n0_ := Aside0.mk (blk_below (g := gb127) (o := .cells #[.bool false, .slice none 0 0] 30 (0, 0)) (by (with_reducible repeat (first|refine blk_drewN ?_ _|refine blk_drew ?_|refine blk_alloc ?_ _));exact BK127.out) hb);have n1_ := Aside0.mk (below_step (by repeat (first|(with_reducible first|exact HB.out|apply below_alloc|apply pw_below_drewN|apply below_drew1|refine below_set ?_ GE127.out)|exact HB.out)) hb);clear BK127;clear HB;have BK127 := n0_;have HB := n1_;clear n0_ n1_;(try clear hb);(try clear hb2);(try clear hk);(try clear hi);have hcz15_0 : w14.cell? ⟨gb127, 0, none⟩ = some (.bool false) := (blk_cell BK127.out 0).trans rfl;have hcz15_1 : w14.cell? ⟨gb127, 1, none⟩ = some (.slice none 0 0) := (blk_cell BK127.out 1).trans rfl;have hfz15_0 := blk_frozen BK127.out 0;have hfz15_1 := blk_frozen BK127.out 1))
      refine bodyPost_ret (results_ct rfl _ _ gb127 30 #[.bool false, .slice none 0 0] (0, 0) _ rfl (by (with_reducible repeat (first|refine blk_drewN ?_ _|refine blk_drew ?_|refine blk_alloc ?_ _));refine blk_put (cs := #[.bool false, .slice none 0 0]) ?_ 1 _ rfl;(with_reducible repeat (first|refine blk_drewN ?_ _|refine blk_drew ?_|refine blk_alloc ?_ _));refine blk_put (cs := #[.bool false, .slice none 0 0]) ?_ 0 _ rfl;(with_reducible repeat (first|refine blk_drewN ?_ _|refine blk_drew ?_|refine blk_alloc ?_ _));exact BK127.out) Tryd.underlying30 rfl (by kernel_rfl)) rfl ?_
      exact ⟨_, by first|rfl|(simp [errW_none, errW_some] <;> rfl)|(simp [*, errW_none, errW_some] <;> rfl), Kd.V_nil _ _ _ _ _, by repeat (first|(with_reducible first|exact HB.out|apply below_alloc|apply pw_below_drewN|apply below_drew1|refine below_set ?_ GE127.out)|exact HB.out)⟩
     ·rw [if_neg c13] at H
      have c13b0 : decide (576 < (t131.size : Int)) = false := decide_eq_false c13
      have c13b1 : decide (576 < t131.size) = false := decide_eq_false (by omega)
      clear c13
      have H' := Aside0.mk H
      clear H
      go_wp2_with (first|((with_reducible refine gate_callee (f := 30) rfl ?_);refine goesL_ (some 30) rfl rfl Tryd.func30 (by kernel_rfl) rfl #[.string t129, .string (⟨#[48]⟩ : ByteArray)] rfl (by (try simp only [List.map_toArray, List.map_cons, List.map_nil]);first|done|rfl|(simp only [List.length_drop, List.length_take];rfl)) ?_;(with_reducible refine (strings_TrimLeft.calls t129 (⟨#[48]⟩ : ByteArray) t131 _ A12.out).mono ?_);rintro e w16 ⟨rfl, hb⟩;refine ⟨_, rfl, ?_⟩;have n0_ := Aside0.mk (blk_below (g := gb127) (o := .cells #[.bool false, .slice none 0 0] 30 (0, 0)) (by (with_reducible repeat (first|refine blk_drewN ?_ _|refine blk_drew ?_|refine blk_alloc ?_ _));exact BK127.out) hb);have n1_ := Aside0.mk (below_step (by repeat (first|(with_reducible first|exact HB.out|apply below_alloc|apply pw_below_drewN|apply below_drew1|refine below_set ?_ GE127.out)|exact HB.out)) hb);clear BK127;clear HB;have BK127 := n0_;have HB := n1_;clear n0_ n1_;(try clear hb);(try clear hb2);(try clear hk);(try clear hi)))
      go_loopg [6, 7] kj4 (fun kq v6 v7 w' => ∃ (x6_2 : List Int) (x7_2 : Int), v7 = .int .i64 x7_2 ∧ Aside0 (num_Parse.l0 kq t131 false x6_2 x7_2 = some (r1, r2, r3)) ∧ Aside0 (kq ≤ kj4) ∧ Aside0 (Kd.R (Kd.int .u32) 73 w' w.heap.size (fun k_ => (w.heap.size ≤ k_)) v6 x6_2) ∧ Aside0 (w'.heap[gb127]? = some (.cells #[.bool false, (.slice none 0 0)] 30 (0, 0))) ∧ Aside0 (Below w.heap.size w w'))
      case atStart => exact ⟨(([] : List Int)), ((t131.size : Int)), (by first|rfl|(simp;done)|(simp [*];done)), H', ⟨Nat.le_refl _⟩, ⟨by first|exact Kd.R_nil _ _ _ _ _|exact Kd.N_nil _ _ _ _ _|exact Kd.V_nil _ _ _ _ _|exact Kd.Q_nil _ _ _ _ _|exact Kd.S_nil _ _ _ _ _⟩, ⟨by (with_reducible repeat (first|refine blk_drewN ?_ _|refine blk_drew ?_|refine blk_alloc ?_ _));exact BK127.out⟩, ⟨by repeat (first|(with_reducible first|exact HB.out|apply below_alloc|apply pw_below_drewN|apply below_drew1|refine below_set ?_ GE127.out)|exact HB.out)⟩⟩
      case round =>
       clear H'
       try clear c1
       try clear c2
       try clear p2
       try clear c3
       try clear c3b0
       try clear c3b1
       try clear c7
       try clear c7b0
       try clear c7b1
       try clear c10
       try clear c13
       try clear c13b0
       try clear c13b1
       try clear c16
       try clear hcz11_0
       try clear hcz11_1
       try clear hcz15_0
       try clear hcz15_1
       try clear hfz11_0
       try clear hfz11_1
       try clear hfz15_0
       try clear hfz15_1
       try clear p2
       obtain ⟨x6_2, x7_2, rfl, HA, HK2, HO_6, BK127, HB⟩ := hrel
       cases gk with
       | zero => exact absurd HA.out (by simp [num_Parse.l0])
       | succ k2 =>
        have H := HA.out
        clear HA
        simp only [num_Parse.l0] at H
        by_cases c17 : x7_2 > 0
        ·rw [if_pos c17] at H
         have c17b0 : decide (0 < x7_2) = true := decide_eq_true c17
         clear c17
         obtain ⟨ji18, hji18⟩ : ∃ j_ : Int, (mx (wrap64 (x7_2 - 9)) 0) = j_ := ⟨_, rfl⟩
         replace H : (if 0 ≤ (ji18) then (if (ji18) ≤ x7_2 then (if x7_2 ≤ (t131.size : Int) then ((strconv_Atoi.f (t131.extract ((ji18) : Int).toNat (x7_2 : Int).toNat)).bind fun bt132 => (if x6_2.length < 35184372088832 then (num_Parse.l0 k2 t131 false (x6_2 ++ [(bt132.1) % 4294967296]) (wrap64 (x7_2 - 9))) else (none))) else (none)) else (none)) else (none)) = some (r1, r2, r3) := by first | (rw [hji18] at H; exact H) | (simp only [hji18] at H ⊢; exact H)
         have hji18_ : (if (wrap64 (x7_2 - 9)) < 0 then 0 else (wrap64 (x7_2 - 9))) = ji18 := hji18
         by_cases c19 : 0 ≤ (ji18)
         ·rw [if_pos c19] at H
          have c19b0 := eq_true c19
          have c19b1 : decide (0 ≤ (ji18)) = true := decide_eq_true c19
          clear c19
          by_cases c20 : (ji18) ≤ x7_2
          ·rw [if_pos c20] at H
           have c20b0 := eq_true c20
           have c20b1 : decide ((ji18) ≤ x7_2) = true := decide_eq_true c20
           clear c20
           by_cases c21 : x7_2 ≤ (t131.size : Int)
           ·rw [if_pos c21] at H
            have c21b0 := eq_true c21
            have c21b1 : decide (x7_2 ≤ (t131.size : Int)) = true := decide_eq_true c21
            clear c21
            replace H := Option.bind_eq_some_iff.mp H
            obtain ⟨⟨t132, t133⟩, A220, H⟩ := H
            replace H : (if x6_2.length < 35184372088832 then (num_Parse.l0 k2 t131 false (x6_2 ++ [(t132) % 4294967296]) (wrap64 (x7_2 - 9))) else (none)) = some (r1, r2, r3) := H
            have A22 := Aside0.mk A220
            clear A220
            by_cases c23 : x6_2.length < 35184372088832
            ·rw [if_pos c23] at H
             have LMc23 := Aside0.mk c23
             clear c23
             obtain ⟨y134, hy134⟩ : ∃ y_ : List Int, y_ = (x6_2 ++ [(t132) % 4294967296]) := ⟨_, rfl⟩
             replace H : (num_Parse.l0 k2 t131 false y134 (wrap64 (x7_2 - 9))) = some (r1, r2, r3) := by first | (rw [hy134]; with_reducible exact H) | (have H2_ := (Option.bind_some _ _).symm.trans H; rw [hy134]; with_reducible exact H2_) | (have H2_ := (Option.bind_some _ _).symm.trans H; with_reducible exact H2_) | with_reducible exact H | (rw [hy134]; exact H) | exact H
             have Ny134 := Aside0.mk hy134
             clear hy134
             have H' := Aside0.mk H
             clear H
             go_wp2_with (first|((with_reducible refine gate_callee (f := 31) rfl ?_);refine goesL_ (some 48) rfl rfl Tryd.func31 (by kernel_rfl) rfl #[.string (t131.extract ((ji18) : Int).toNat (x7_2 : Int).toNat)] rfl (by (try simp only [List.map_toArray, List.map_cons, List.map_nil]);first|done|(simp only [hji18];rfl)|rfl|(simp only [List.length_drop, List.length_take];rfl)) ?_;(with_reducible refine (strconv_Atoi.calls (t131.extract ((ji18) : Int).toNat (x7_2 : Int).toNat) t132 t133 _ A22.out).mono ?_);rintro e w24 ⟨rfl, hb⟩;refine ⟨_, rfl, ?_⟩;have n0_ := Aside0.mk (Kd.R_below (by (with_reducible repeat (first|apply Kd.R_alloc|apply Kd.R_drewN|apply Kd.R_drew));exact HO_6.out) hb);have n1_ := Aside0.mk (blk_below (g := gb127) (o := .cells #[.bool false, .slice none 0 0] 30 (0, 0)) (by (with_reducible repeat (first|refine blk_drewN ?_ _|refine blk_drew ?_|refine blk_alloc ?_ _));exact BK127.out) hb);have n2_ := Aside0.mk (below_step (by repeat (first|(with_reducible first|exact HB.out|apply below_alloc|apply pw_below_drewN|apply below_drew1|refine below_set ?_ GE127.out)|exact HB.out)) hb);clear HO_6;clear BK127;clear HB;have HO_6 := n0_;have BK127 := n1_;have HB := n2_;clear n0_ n1_ n2_;(try clear hb);(try clear hb2);(try clear hk);(try clear hi);(try simp only [errW_none, errW_some]))|((with_reducible refine gate_builtin (b := .append) (xs := #[.tmp 51, .tmp 54]) rfl ?_);at_builtin;refine Kd.R_append (Kd.int .u32) (w0 := w) w.heap.size rfl (.tmp 51) (.tmp 54) 28 73 (.int .u32 0) 4 rfl Tryd.underlying28 info73 rfl (by decide) (by omega) u6 x6_2 ((t132) % 4294967296) [.int .u32 ((t132) % 4294967296)] (fun k_ => (w.heap.size ≤ k_)) (fun _ => False) rfl rfl ?aP (fun _ hk => hk.elim) ?aF ?aO ?aB ?aS ?aL ?_;(case aP => exact rfl);(case aB => exact (by repeat (first|(with_reducible first|exact HB.out|apply below_alloc|apply pw_below_drewN|apply below_drew1|refine below_set ?_ GE127.out)|exact HB.out)));(case aF => exact (fun k_ hk => (Nat.le_trans (below_size (by repeat (first|(with_reducible first|exact HB.out|apply below_alloc|apply pw_below_drewN|apply below_drew1|refine below_set ?_ GE127.out)|exact HB.out))) hk)));(case aO => exact (by (with_reducible repeat (first|apply Kd.R_alloc|apply Kd.R_drewN|apply Kd.R_drew));exact HO_6.out));(case aS => exact (below_size (by repeat (first|(with_reducible first|exact HB.out|apply below_alloc|apply pw_below_drewN|apply below_drew1|refine below_set ?_ GE127.out)|exact HB.out))));(case aL => have := LMc23.out;omega);intro v135 w25 ho hb hg hat;rw [← Ny134.out] at ho;have n0_ := Aside0.mk (blk_grown (g := gb127) (o := .cells #[.bool false, .slice none 0 0] 30 (0, 0)) (by (with_reducible repeat (first|refine blk_drewN ?_ _|refine blk_drew ?_|refine blk_alloc ?_ _));exact BK127.out) hg (Kd.R_ne HO_6.out BK127.out (by decide)));have n1_ := Aside0.mk (hb);have n2_ := Aside0.mk (ho);clear BK127;clear HB;clear HO_6;have BK127 := n0_;have HB := n1_;have HO136 := n2_;clear n0_ n1_ n2_;clear ho hb hg hat))
             go_roundg k2
             case measure => have := HJ4.out; have := HK2.out; omega
             case rel => exact ⟨(y134), (wrap64 (x7_2 - 9)), (by first|rfl|(simp;done)|(simp [*];done)), H', ⟨by have := HJ4.out;have := HK2.out;omega⟩, ⟨by (with_reducible repeat (first|apply Kd.R_alloc|apply Kd.R_drewN|apply Kd.R_drew));exact HO136.out⟩, ⟨by (with_reducible repeat (first|refine blk_drewN ?_ _|refine blk_drew ?_|refine blk_alloc ?_ _));exact BK127.out⟩, ⟨by repeat (first|(with_reducible first|exact HB.out|apply below_alloc|apply pw_below_drewN|apply below_drew1|refine below_set ?_ GE127.out)|exact HB.out)⟩⟩
            ·rw [if_neg c23] at H
             exact absurd H (by simp)
           ·rw [if_neg c21] at H
            exact absurd H (by simp)
          ·rw [if_neg c20] at H
           exact absurd H (by simp)
         ·rw [if_neg c19] at H
          exact absurd H (by simp)
        ·rw [if_neg c17] at H
         have c17b0 : decide (0 < x7_2) = false := decide_eq_false c17
         clear c17
         replace H := Option.bind_eq_some_iff.mp H
         obtain ⟨⟨t137, t138, t141⟩, A260, H⟩ := H
         replace H : (some (t137, t138, (t141 == 0))) = some (r1, r2, r3) := H
         have A26 := Aside0.mk A260
         clear A260
         simp only [Option.some.injEq, Prod.mk.injEq] at H
         obtain ⟨rfl, rfl, rfl⟩ := H
         obtain ⟨Ao27, co27, eo27⟩ := Kd.R_slice HO_6.out
         subst eo27
         go_wp2_with (first|((with_reducible refine gate_callee (f := 32) rfl ?_);refine goesL_ (some 59) rfl rfl Tryd.func32 (by kernel_rfl) rfl #[.bool false, .slice Ao27 x6_2.length co27] rfl (by (try simp only [List.map_toArray, List.map_cons, List.map_nil]);first|done|rfl|(simp only [List.length_drop, List.length_take];rfl)) ?_;(with_reducible refine (num_of.calls k2 false (fun k_ => some k_ = (.slice Ao27 x6_2.length co27 : Value).ownBlock) _ _ x6_2 t137 t138 t141 _ ?side1 A26.out).mono ?_);(case side1 => exact Kd.R_V (Kd.R_tight rfl (Kd.R_types (HO_6.out) BK127.out (by decide))));rintro e w28 ⟨v139, rfl, ho0, hb⟩;refine ⟨_, rfl, ?_⟩;have n0_ := Aside0.mk (Kd.R_below (by (with_reducible repeat (first|apply Kd.R_alloc|apply Kd.R_drewN|apply Kd.R_drew));exact HO_6.out) hb);have n1_ := Aside0.mk (Kd.V_lower (Kd.V_mono (ok' := fun k_ => (w.heap.size ≤ k_) ∧ k_ ≠ gb127) ho0 (fun k_ hk_ => ⟨Or.elim hk_ (fun hs_ => ((Kd.R_types (HO_6.out) BK127.out (by decide)).1 k_ hs_.symm).1) (fun hn_ => (Nat.le_trans (below_size (by repeat (first|(with_reducible first|exact HB.out|apply below_alloc|apply pw_below_drewN|apply below_drew1|refine below_set ?_ GE127.out)|exact HB.out))) hn_)), Or.elim hk_ (fun hs_ => ((Kd.R_types (HO_6.out) BK127.out (by decide)).1 k_ hs_.symm).2) (fun hn_ => (Kd.freshB (g := gb127) (o := .cells #[.bool false, .slice none 0 0] 30 (0, 0)) (by (with_reducible repeat (first|refine blk_drewN ?_ _|refine blk_drew ?_|refine blk_alloc ?_ _));exact BK127.out) k_ hn_))⟩)) (below_size (by repeat (first|(with_reducible first|exact HB.out|apply below_alloc|apply pw_below_drewN|apply below_drew1|refine below_set ?_ GE127.out)|exact HB.out))));have n2_ := Aside0.mk (blk_below (g := gb127) (o := .cells #[.bool false, .slice none 0 0] 30 (0, 0)) (by (with_reducible repeat (first|refine blk_drewN ?_ _|refine blk_drew ?_|refine blk_alloc ?_ _));exact BK127.out) hb);have n3_ := Aside0.mk (below_step (by repeat (first|(with_reducible first|exact HB.out|apply below_alloc|apply pw_below_drewN|apply below_drew1|refine below_set ?_ GE127.out)|exact HB.out)) hb);clear HO_6;clear BK127;clear HB;have HO_6 := n0_;have HO140 := n1_;have BK127 := n2_;have HB := n3_;clear n0_ n1_ n2_ n3_;(try clear hb);(try clear hb2);(try clear hk);(try clear hi);(try clear ho0))|((with_reducible refine gate_dst (N := 10) rfl ?_);refine box_event ?hg (N := 10) ?hd (cs := #[.bool false, .slice none 0 0]) (t := 30) ?hr ?_;(case hd => rfl);(case hg => rfl);(case hr => first|(go_simp;done)|(go_simp;rfl));intro gb142 hg w29 hbox hb;have n0_ := Aside0.mk (Kd.R_below (by (with_reducible repeat (first|apply Kd.R_alloc|apply Kd.R_drewN|apply Kd.R_drew));exact HO_6.out) hb);have n1_ := Aside0.mk (Kd.V_below (Kd.V_elderB (by (with_reducible repeat (first|apply Kd.V_alloc|apply Kd.V_drewN|apply Kd.V_drew));exact HO140.out) gb142 (Nat.le_of_eq hg.symm)) hb);have n2_ := Aside0.mk (blk_below (g := gb127) (o := .cells #[.bool false, .slice none 0 0] 30 (0, 0)) (by (with_reducible repeat (first|refine blk_drewN ?_ _|refine blk_drew ?_|refine blk_alloc ?_ _));exact BK127.out) hb);have n3_ := Aside0.mk (below_step (by repeat (first|(with_reducible first|exact HB.out|apply below_alloc|apply pw_below_drewN|apply below_drew1|refine below_set ?_ GE127.out)|exact HB.out)) hb);have n4_ := Aside0.mk (hbox);have n5_ := Aside0.mk ((by rw [hg];exact (below_size (by repeat (first|(with_reducible first|exact HB.out|apply below_alloc|apply pw_below_drewN|apply below_drew1|refine below_set ?_ GE127.out)|exact HB.out))) : w.heap.size ≤ gb142));have n6_ := Aside0.mk ((by rw [hg];exact (below_size (by repeat (first|(with_reducible first|exact HB.out|apply below_alloc|apply pw_below_drewN|apply below_drew1|refine below_set ?_ GE127.out)|exact HB.out))) : w.heap.size ≤ gb142));have n7_ := Aside0.mk ((by rw [hg];exact Nat.ne_of_lt (blk_lt (g := gb127) (o := .cells #[.bool false, .slice none 0 0] 30 (0, 0)) (by (with_reducible repeat (first|refine blk_drewN ?_ _|refine blk_drew ?_|refine blk_alloc ?_ _));exact BK127.out)) : gb127 ≠ gb142));have n8_ := Aside0.mk ((by rw [hg];exact Nat.ne_of_gt (blk_lt (g := gb127) (o := .cells #[.bool false, .slice none 0 0] 30 (0, 0)) (by (with_reducible repeat (first|refine blk_drewN ?_ _|refine blk_drew ?_|refine blk_alloc ?_ _));exact BK127.out)) : gb142 ≠ gb127));clear HO_6;clear HO140;clear BK127;clear HB;have HO_6 := n0_;have HO140 := n1_;have BK127 := n2_;have HB := n3_;have BK142 := n4_;have GW142 := n5_;have GE142 := n6_;have NB127_142 := n7_;have NB142_127 := n8_;clear n0_ n1_ n2_ n3_ n4_ n5_ n6_ n7_ n8_;clear hb hbox hg;have hnb30 := NB142_127.out;have hnc30 := NB127_142.out;have hcz31_0 : w29.cell? ⟨gb142, 0, none⟩ = some (.bool false) := (blk_cell BK142.out 0).trans rfl;have hcz31_1 : w29.cell? ⟨gb142, 1, none⟩ = some (.slice none 0 0) := (blk_cell BK142.out 1).trans rfl;have hfz31_0 := blk_frozen BK142.out 0;have hfz31_1 := blk_frozen BK142.out 1;obtain ⟨Ao32, co32, eo32⟩ := Kd.V_slice HO140.out;subst eo32;have hcz33_0 : w29.cell? ⟨gb127, 0, none⟩ = some (.bool false) := (blk_cell BK127.out 0).trans rfl;have hcz33_1 : w29.cell? ⟨gb127, 1, none⟩ = some (.slice none 0 0) := (blk_cell BK127.out 1).trans rfl;have hfz33_0 := blk_frozen BK127.out 0;have hfz33_1 := blk_frozen BK127.out 1))
         refine bodyPost_ret (results_ct rfl _ _ gb127 30 #[.bool t137, .slice Ao32 t138.length co32] (0, 0) _ rfl (by (with_reducible repeat (first|refine blk_drewN ?_ _|refine blk_drew ?_|refine blk_alloc ?_ _));refine blk_put (cs := #[.bool t137, .slice none 0 0]) ?_ 1 _ rfl;(with_reducible repeat (first|refine blk_drewN ?_ _|refine blk_drew ?_|refine blk_alloc ?_ _));refine blk_put (cs := #[.bool false, .slice none 0 0]) ?_ 0 _ rfl;(with_reducible repeat (first|refine blk_drewN ?_ _|refine blk_drew ?_|refine blk_alloc ?_ _));refine blk_far ?_ NB127_142.out _;(with_reducible repeat (first|refine blk_drewN ?_ _|refine blk_drew ?_|refine blk_alloc ?_ _));refine blk_far ?_ NB127_142.out _;(with_reducible repeat (first|refine blk_drewN ?_ _|refine blk_drew ?_|refine blk_alloc ?_ _));exact BK127.out) Tryd.underlying30 rfl (by kernel_rfl)) rfl ?_
         exact ⟨_, by first|rfl|(simp [errW_none, errW_some] <;> rfl)|(simp [*, errW_none, errW_some] <;> rfl), by (with_reducible repeat (first|apply Kd.V_alloc|apply Kd.V_drewN|apply Kd.V_drew));exact Kd.V_mono (Kd.V_far (p := ⟨gb127, 1, none⟩) (Kd.V_far (p := ⟨gb127, 0, none⟩) (Kd.V_far (p := ⟨gb142, 1, none⟩) (Kd.V_far (p := ⟨gb142, 0, none⟩) (Kd.V_mono (Kd.V_mono HO140.out (fun k_ hk => (⟨hk, hk.2⟩ : _ ∧ k_ ≠ gb142))) (fun k_ hk => (⟨hk, hk.1.1.2⟩ : _ ∧ k_ ≠ gb127))) (fun _ hk => hk.1.2) (.bool t137)) (fun _ hk => hk.1.2) (.slice Ao32 t138.length co32)) (fun _ hk => hk.2) (.bool t137)) (fun _ hk => hk.2) (.slice Ao32 t138.length co32)) (fun _ hk => hk.1.1.1.1), by repeat (first|(with_reducible first|exact HB.out|apply below_alloc|apply pw_below_drewN|apply below_drew1|refine below_set ?_ GE127.out|refine below_set ?_ GE142.out)|exact HB.out)⟩
 ·rw [if_neg c3] at H
  have c3b0 : (t128.toList == a0.toList) = false := beq_eq_false_iff_ne.mpr c3
  have c3b1 : (t128.toList != a0.toList) = true := bne_iff_ne.mpr c3
  have HC34 := Aside0.mk H
  clear H
  go_enter Tryd.func16, Tryd.ntmps16
  go_upto_region 5 with (first|((with_reducible refine gate_dst (N := 2) rfl ?_);refine box_event ?hg (N := 2) ?hd (cs := #[.bool false, .slice none 0 0]) (t := 30) ?hr ?_;(case hd => rfl);(case hg => rfl);(case hr => first|(go_simp;done)|(go_simp;rfl));intro gb127 hg w35 hbox hb;have n0_ := Aside0.mk (below_step (by repeat (first|(with_reducible first|exact HB.out|apply below_alloc|apply pw_below_drewN|apply below_drew1)|exact HB.out)) hb);have n1_ := Aside0.mk (hbox);have n2_ := Aside0.mk ((by rw [hg];exact (below_size (by repeat (first|(with_reducible first|exact HB.out|apply below_alloc|apply pw_below_drewN|apply below_drew1)|exact HB.out))) : w.heap.size ≤ gb127));have n3_ := Aside0.mk ((by rw [hg];exact (below_size (by repeat (first|(with_reducible first|exact HB.out|apply below_alloc|apply pw_below_drewN|apply below_drew1)|exact HB.out))) : w.heap.size ≤ gb127));clear HB;have HB := n0_;have BK127 := n1_;have GW127 := n2_;have GE127 := n3_;clear n0_ n1_ n2_ n3_;clear hb hbox hg)|((with_reducible refine gate_callee (f := 28) rfl ?_);refine goesL_ (some 13) rfl rfl Tryd.func28 (by kernel_rfl) rfl #[.string a0, .string (⟨#[45]⟩ : ByteArray)] rfl (by (try simp only [List.map_toArray, List.map_cons, List.map_nil]);first|done|rfl|(simp only [List.length_drop, List.length_take];rfl)) ?_;(with_reducible refine (strings_TrimPrefix.calls a0 (⟨#[45]⟩ : ByteArray) t128 _ A2.out).mono ?_);rintro e w' ⟨rfl, ⟨nd, rfl⟩⟩;refine ⟨_, rfl, ?_⟩))
  (try simp only [Act.put, List.setIfInBounds_toArray, List.set_cons_zero, List.set_cons_succ])
  go_cut [27] (fun v27 wc => ∃ (kq : Nat) (x27_33 : Bool), v27 = .bool x27_33 ∧ Aside0 (num_Parse.j2 kq t128 true x27_33 = some (r1, r2, r3)) ∧ Aside0 (kq ≤ k) ∧ Aside0 (wc.heap[gb127]? = some (.cells #[.bool false, (.slice none 0 0)] 30 (0, 0))) ∧ Aside0 (Below w.heap.size w wc))
  case first =>
   have H := HC34.out
   clear HC34
   by_cases c36 : t128.toList = ([] : List UInt8)
   ·rw [if_pos c36] at H
    have c36b0 : (t128.toList == ([] : List UInt8)) = true := beq_iff_eq.mpr c36
    have c36b1 : (t128.toList != ([] : List UInt8)) = false := bne_eq_false_iff_eq.mpr c36
    clear c36
    (first|rw [c36b0]|(simp only [i64_w, i32_w];rw [c36b0])|skip)
    have H' := Aside0.mk H
    clear H
    go_wp2
    go_meet
    case rel => exact ⟨_, (true), (by first|rfl|(simp;done)|(simp [*];done)), H', ⟨by first|omega|exact Nat.le_refl _⟩, ⟨by (with_reducible repeat (first|refine blk_drewN ?_ _|refine blk_drew ?_|refine blk_alloc ?_ _));exact BK127.out⟩, ⟨by repeat (first|(with_reducible first|exact HB.out|apply below_alloc|apply pw_below_drewN|apply below_drew1|refine below_set ?_ GE127.out)|exact HB.out)⟩⟩
   ·rw [if_neg c36] at H
    have c36b0 : (t128.toList == ([] : List UInt8)) = false := beq_eq_false_iff_ne.mpr c36
    have c36b1 : (t128.toList != ([] : List UInt8)) = true := bne_iff_ne.mpr c36
    (first|rw [c36b0]|(simp only [i64_w, i32_w];rw [c36b0])|skip)
    replace H := Option.bind_eq_some_iff.mp H
    obtain ⟨t143, A370, H⟩ := H
    replace H : (num_Parse.j2 k t128 true (!t143.toList.isEmpty)) = some (r1, r2, r3) := H
    have A37 := Aside0.mk A370
    clear A370
    have H' := Aside0.mk H
    clear H
    go_wp2_with (first|(go_at_call 29;(with_reducible refine (strings_Trim.calls t128 (⟨#[48, 49, 50, 51, 52, 53, 54, 55, 56, 57]⟩ : ByteArray) t143 _ A37.out).mono ?_);rintro e w38 ⟨rfl, hb⟩;have n0_ := Aside0.mk (blk_below (g := gb127) (o := .cells #[.bool false, .slice none 0 0] 30 (0, 0)) (by (with_reducible repeat (first|refine blk_drewN ?_ _|refine blk_drew ?_|refine blk_alloc ?_ _));exact BK127.out) hb);have n1_ := Aside0.mk (below_step (by repeat (first|(with_reducible first|exact HB.out|apply below_alloc|apply pw_below_drewN|apply below_drew1|refine below_set ?_ GE127.out)|exact HB.out)) hb);clear BK127;clear HB;have BK127 := n0_;have HB := n1_;clear n0_ n1_;(try clear hb);(try clear hb2);(try clear hk);(try clear hi)))
    go_meet
    case rel => exact ⟨_, ((!t143.toList.isEmpty)), (by first|rfl|(simp;done)|(simp [*];done)), H', ⟨by first|omega|exact Nat.le_refl _⟩, ⟨by (with_reducible repeat (first|refine blk_drewN ?_ _|refine blk_drew ?_|refine blk_alloc ?_ _));exact BK127.out⟩, ⟨by repeat (first|(with_reducible first|exact HB.out|apply below_alloc|apply pw_below_drewN|apply below_drew1|refine below_set ?_ GE127.out)|exact HB.out)⟩⟩
  case rest =>
   clear HC34
   try clear c1
   try clear c2
   try clear p2
   try clear c3
   try clear c3b0
   try clear c3b1
   try clear p6
   try clear c7
   try clear c7b0
   try clear c7b1
   try clear c10
   try clear c13
   try clear c13b0
   try clear c13b1
   try clear c16
   try clear c17
   try clear c17b0
   try clear c19
   try clear c19b0
   try clear c19b1
   try clear c20
   try clear c20b0
   try clear c20b1
   try clear c21
   try clear c21b0
   try clear c21b1
   try clear c23
   try clear c28
   try clear c30
   try clear c31
   try clear c32
   try clear c36
   try clear c36b0
   try clear c36b1
   try clear hcz11_0
   try clear hcz11_1
   try clear hcz15_0
   try clear hcz15_1
   try clear hcz31_0
   try clear hcz31_1
   try clear hcz33_0
   try clear hcz33_1
   try clear hfz11_0
   try clear hfz11_1
   try clear hfz15_0
   try clear hfz15_1
   try clear hfz31_0
   try clear hfz31_1
   try clear hfz33_0
   try clear hfz33_1
   try clear p2
   obtain ⟨kq, x27_33, rfl, HA, HJ33, BK127, HB⟩ := hcut
   cases kq with
   | zero => exact absurd HA.out (by simp [num_Parse.j2])
   | succ kj33 =>
    have H := HA.out
    clear HA
    simp only [num_Parse.j2] at H
    by_cases c39 : x27_33 = true
    ·subst c39
     have H1 : (some (false, ([] : List Int), false)) = some (r1, r2, r3) := by rw [if_pos rfl] at H; exact H
     clear H
     have H := H1
     clear H1
     simp only [Option.some.injEq, Prod.mk.injEq] at H
     obtain ⟨rfl, rfl, rfl⟩ := H
     have hcz40_0 : wc.cell? ⟨gb127, 0, none⟩ = some (.bool false) := (blk_cell BK127.out 0).trans rfl
     have hcz40_1 : wc.cell? ⟨gb127, 1, none⟩ = some (.slice none 0 0) := (blk_cell BK127.out 1).trans rfl
     have hfz40_0 := blk_frozen BK127.out 0
     have hfz40_1 := blk_frozen BK127.out 1
     go_wp2
     refine bodyPost_ret (results_ct rfl _ _ gb127 30 #[.bool false, .slice none 0 0] (0, 0) _ rfl (by (with_reducible repeat (first|refine blk_drewN ?_ _|refine blk_drew ?_|refine blk_alloc ?_ _));refine blk_put (cs := #[.bool false, .slice none 0 0]) ?_ 1 _ rfl;(with_reducible repeat (first|refine blk_drewN ?_ _|refine blk_drew ?_|refine blk_alloc ?_ _));refine blk_put (cs := #[.bool false, .slice none 0 0]) ?_ 0 _ rfl;(with_reducible repeat (first|refine blk_drewN ?_ _|refine blk_drew ?_|refine blk_alloc ?_ _));exact BK127.out) Tryd.underlying30 rfl (by kernel_rfl)) rfl ?_
     exact ⟨_, by first|rfl|(simp [errW_none, errW_some] <;> rfl)|(simp [*, errW_none, errW_some] <;> rfl), Kd.V_nil _ _ _ _ _, by repeat (first|(with_reducible first|exact HB.out|apply below_alloc|apply pw_below_drewN|apply below_drew1|refine below_set ?_ GE127.out)|exact HB.out)⟩
    ·replace c39 := Bool.eq_false_iff.mpr c39
     subst c39
     have H1 : ((strings_TrimLeft.f t128 (⟨#[48]⟩ : ByteArray)).bind fun t144 => (if (t144.size : Int) > 576 then (some (false, ([] : List Int), false)) else (num_Parse.l0 kj33 t144 true ([] : List Int) (t144.size : Int)))) = some (r1, r2, r3) := by rw [if_neg (show ¬ (false = true) by decide)] at H; exact H
     clear H
     have H := H1
     clear H1
     replace H := Option.bind_eq_some_iff.mp H
     obtain ⟨t144, A410, H⟩ := H
     replace H : (if (t144.size : Int) > 576 then (some (false, ([] : List Int), false)) else (num_Parse.l0 kj33 t144 true ([] : List Int) (t144.size : Int))) = some (r1, r2, r3) := H
     have A41 := Aside0.mk A410
     clear A410
     by_cases c42 : (t144.size : Int) > 576
     ·rw [if_pos c42] at H
      have c42b0 : decide (576 < (t144.size : Int)) = true := decide_eq_true c42
      have c42b1 : decide (576 < t144.size) = true := decide_eq_true (by omega)
      clear c42
      simp only [Option.some.injEq, Prod.mk.injEq] at H
      obtain ⟨rfl, rfl, rfl⟩ := H
      go_wp2_with (first|((with_reducible refine gate_callee (f := 30) rfl ?_);refine goesL_ (some 30) rfl rfl Tryd.func30 (by kernel_rfl) rfl #[.string t128, .string (⟨#[48]⟩ : ByteArray)] rfl (by (try simp only [List.map_toArray, List.map_cons, List.map_nil]);first|done|rfl|(simp only [List.length_drop, List.length_take];rfl)) ?_;(with_reducible refine (strings_TrimLeft.calls t128 (⟨#[48]⟩ : ByteArray) t144 _ A41.out).mono ?_);rintro e w43 ⟨rfl, hb⟩;refine ⟨_, rfl, ?_⟩;have n0_ := Aside0.mk (blk_below (g := gb127) (o := .cells #[.bool false, .slice none 0 0] 30 (0, 0)) (by (with_reducible repeat (first|refine blk_drewN ?_ _|refine blk_drew ?_|refine blk_alloc ?_ _));exact BK127.out) hb);have n1_ := Aside0.mk (below_step (by repeat (first|(with_reducible first|exact HB.out|apply below_alloc|apply pw_below_drewN|apply below_drew1|refine below_set ?_ GE127.out)|exact HB.out)) hb);clear BK127;clear HB;have BK127 := n0_;have HB := n1_;clear n0_ n1_;(try clear hb);(try clear hb2);(try clear hk);(try clear hi);have hcz44_0 : w43.cell? ⟨gb127, 0, none⟩ = some (.bool false) := (blk_cell BK127.out 0).trans rfl;have hcz44_1 : w43.cell? ⟨gb127, 1, none⟩ = some (.slice none 0 0) := (blk_cell BK127.out 1).trans rfl;have hfz44_0 := blk_frozen BK127.out 0;have hfz44_1 := blk_frozen BK127.out 1))
      refine bodyPost_ret (results_ct rfl _ _ gb127 30 #[.bool false, .slice none 0 0] (0, 0) _ rfl (by (with_reducible repeat (first|refine blk_drewN ?_ _|refine blk_drew ?_|refine blk_alloc ?_ _));refine blk_put (cs := #[.bool false, .slice none 0 0]) ?_ 1 _ rfl;(with_reducible repeat (first|refine blk_drewN ?_ _|refine blk_drew ?_|refine blk_alloc ?_ _));refine blk_put (cs := #[.bool false, .slice none 0 0]) ?_ 0 _ rfl;(with_reducible repeat (first|refine blk_drewN ?_ _|refine blk_drew ?_|refine blk_alloc ?_ _));exact BK127.out) Tryd.underlying30 rfl (by kernel_rfl)) rfl ?_
      exact ⟨_, by first|rfl|(simp [errW_none, errW_some] <;> rfl)|(simp [*, errW_none, errW_some] <;> rfl), Kd.V_nil _ _ _ _ _, by repeat (first|(with_reducible first|exact HB.out|apply below_alloc|apply pw_below_drewN|apply below_drew1|refine below_set ?_ GE127.out)|exact HB.out)⟩
     ·rw [if_neg c42] at H
      have c42b0 : decide (576 < (t144.size : Int)) = false := decide_eq_false c42
      have c42b1 : decide (576 < t144.size) = false := decide_eq_false (by omega)
      clear c42
      have H' := Aside0.mk H
      clear H
      go_wp2_with (first|((with_reducible refine gate_callee (f := 30) rfl ?_);refine goesL_ (some 30) rfl rfl Tryd.func30 (by kernel_rfl) rfl #[.string t128, .string (⟨#[48]⟩ : ByteArray)] rfl (by (try simp only [List.map_toArray, List.map_cons, List.map_nil]);first|done|rfl|(simp only [List.length_drop, List.length_take];rfl)) ?_;(with_reducible refine (strings_TrimLeft.calls t128 (⟨#[48]⟩ : ByteArray) t144 _ A41.out).mono ?_);rintro e w45 ⟨rfl, hb⟩;refine ⟨_, rfl, ?_⟩;have n0_ := Aside0.mk (blk_below (g := gb127) (o := .cells #[.bool false, .slice none 0 0] 30 (0, 0)) (by (with_reducible repeat (first|refine blk_drewN ?_ _|refine blk_drew ?_|refine blk_alloc ?_ _));exact BK127.out) hb);have n1_ := Aside0.mk (below_step (by repeat (first|(with_reducible first|exact HB.out|apply below_alloc|apply pw_below_drewN|apply below_drew1|refine below_set ?_ GE127.out)|exact HB.out)) hb);clear BK127;clear HB;have BK127 := n0_;have HB := n1_;clear n0_ n1_;(try clear hb);(try clear hb2);(try clear hk);(try clear hi)))
      go_loopg [6, 7] kj33 (fun kq v6 v7 w' => ∃ (x6_2 : List Int) (x7_2 : Int), v7 = .int .i64 x7_2 ∧ Aside0 (num_Parse.l0 kq t144 true x6_2 x7_2 = some (r1, r2, r3)) ∧ Aside0 (kq ≤ kj33) ∧ Aside0 (Kd.R (Kd.int .u32) 73 w' w.heap.size (fun k_ => (w.heap.size ≤ k_)) v6 x6_2) ∧ Aside0 (w'.heap[gb127]? = some (.cells #[.bool false, (.slice none 0 0)] 30 (0, 0))) ∧ Aside0 (Below w.heap.size w w'))
      case atStart => exact ⟨(([] : List Int)), ((t144.size : Int)), (by first|rfl|(simp;done)|(simp [*];done)), H', ⟨Nat.le_refl _⟩, ⟨by first|exact Kd.R_nil _ _ _ _ _|exact Kd.N_nil _ _ _ _ _|exact Kd.V_nil _ _ _ _ _|exact Kd.Q_nil _ _ _ _ _|exact Kd.S_nil _ _ _ _ _⟩, ⟨by (with_reducible repeat (first|refine blk_drewN ?_ _|refine blk_drew ?_|refine blk_alloc ?_ _));exact BK127.out⟩, ⟨by repeat (first|(with_reducible first|exact HB.out|apply below_alloc|apply pw_below_drewN|apply below_drew1|refine below_set ?_ GE127.out)|exact HB.out)⟩⟩
      case round =>
       clear H'
       try clear c1
       try clear c2
       try clear p2
       try clear c3
       try clear c3b0
       try clear c3b1
       try clear c4
       try clear p6
       try clear c7
       try clear c7b0
       try clear c7b1
       try clear c10
       try clear c13
       try clear c13b0
       try clear c13b1
       try clear c16
       try clear c17
       try clear c17b0
       try clear c19
       try clear c19b0
       try clear c19b1
       try clear c20
       try clear c20b0
       try clear c20b1
       try clear c21
       try clear c21b0
       try clear c21b1
       try clear c23
       try clear c28
       try clear c30
       try clear c31
       try clear c32
       try clear c36
       try clear c36b0
       try clear c36b1
       try clear c39
       try clear c42
       try clear c42b0
       try clear c42b1
       try clear hcz11_0
       try clear hcz11_1
       try clear hcz15_0
       try clear hcz15_1
       try clear hcz31_0
       try clear hcz31_1
       try clear hcz33_0
       try clear hcz33_1
       try clear hcz40_0
       try clear hcz40_1
       try clear hcz44_0
       try clear hcz44_1
       try clear hfz11_0
       try clear hfz11_1
       try clear hfz15_0
       try clear hfz15_1
       try clear hfz31_0
       try clear hfz31_1
       try clear hfz33_0
       try clear hfz33_1
       try clear hfz40_0
       try clear hfz40_1
       try clear hfz44_0
       try clear hfz44_1
       try clear p2
       try clear p6
       obtain ⟨x6_2, x7_2, rfl, HA, HK2, HO_6, BK127, HB⟩ := hrel
       cases gk with
       | zero => exact absurd HA.out (by simp [num_Parse.l0])
       | succ k2 =>
        have H := HA.out
        clear HA
        simp only [num_Parse.l0] at H
        by_cases c46 : x7_2 > 0
        ·rw [if_pos c46] at H
         have c46b0 : decide (0 < x7_2) = true := decide_eq_true c46
         clear c46
         obtain ⟨ji47, hji47⟩ : ∃ j_ : Int, (mx (wrap64 (x7_2 - 9)) 0) = j_ := ⟨_, rfl⟩
         replace H : (if 0 ≤ (ji47) then (if (ji47) ≤ x7_2 then (if x7_2 ≤ (t144.size : Int) then ((strconv_Atoi.f (t144.extract ((ji47) : Int).toNat (x7_2 : Int).toNat)).bind fun bt132 => (if x6_2.length < 35184372088832 then (num_Parse.l0 k2 t144 true (x6_2 ++ [(bt132.1) % 4294967296]) (wrap64 (x7_2 - 9))) else (none))) else (none)) else (none)) else (none)) = some (r1, r2, r3) := by first | (rw [hji47] at H; exact H) | (simp only [hji47] at H ⊢; exact H)
         have hji47_ : (if (wrap64 (x7_2 - 9)) < 0 then 0 else (wrap64 (x7_2 - 9))) = ji47 := hji47
         by_cases c48 : 0 ≤ (ji47)
         ·rw [if_pos c48] at H
          have c48b0 := eq_true c48
          have c48b1 : decide (0 ≤ (ji47)) = true := decide_eq_true c48
          clear c48
          by_cases c49 : (ji47) ≤ x7_2
          ·rw [if_pos c49] at H
           have c49b0 := eq_true c49
           have c49b1 : decide ((ji47) ≤ x7_2) = true := decide_eq_true c49
           clear c49
           by_cases c50 : x7_2 ≤ (t144.size : Int)
           ·rw [if_pos c50] at H
            have c50b0 := eq_true c50
            have c50b1 : decide (x7_2 ≤ (t144.size : Int)) = true := decide_eq_true c50
            clear c50
            replace H := Option.bind_eq_some_iff.mp H
            obtain ⟨⟨t132, t133⟩, A510, H⟩ := H
            replace H : (if x6_2.length < 35184372088832 then (num_Parse.l0 k2 t144 true (x6_2 ++ [(t132) % 4294967296]) (wrap64 (x7_2 - 9))) else (none)) = some (r1, r2, r3) := H
            have A51 := Aside0.mk A510
            clear A510
            by_cases c52 : x6_2.length < 35184372088832
            ·rw [if_pos c52] at H
             have LMc52 := Aside0.mk c52
             clear c52
             obtain ⟨y134, hy134⟩ : ∃ y_ : List Int, y_ = (x6_2 ++ [(t132) % 4294967296]) := ⟨_, rfl⟩
             replace H : (num_Parse.l0 k2 t144 true y134 (wrap64 (x7_2 - 9))) = some (r1, r2, r3) := by first | (rw [hy134]; with_reducible exact H) | (have H2_ := (Option.bind_some _ _).symm.trans H; rw [hy134]; with_reducible exact H2_) | (have H2_ := (Option.bind_some _ _).symm.trans H; with_reducible exact H2_) | with_reducible exact H | (rw [hy134]; exact H) | exact H
             have Ny134 := Aside0.mk hy134
             clear hy134
             have H' := Aside0.mk H
             clear H
             go_wp2_with (first|((with_reducible refine gate_callee (f := 31) rfl ?_);refine goesL_ (some 48) rfl rfl Tryd.func31 (by kernel_rfl) rfl #[.string (t144.extract ((ji47) : Int).toNat (x7_2 : Int).toNat)] rfl (by (try simp only [List.map_toArray, List.map_cons, List.map_nil]);first|done|(simp only [hji47];rfl)|rfl|(simp only [List.length_drop, List.length_take];rfl)) ?_;(with_reducible refine (strconv_Atoi.calls (t144.extract ((ji47) : Int).toNat (x7_2 : Int).toNat) t132 t133 _ A51.out).mono ?_);rintro e w53 ⟨rfl, hb⟩;refine ⟨_, rfl, ?_⟩;have n0_ := Aside0.mk (Kd.R_below (by (with_reducible repeat (first|apply Kd.R_alloc|apply Kd.R_drewN|apply Kd.R_drew));exact HO_6.out) hb);have n1_ := Aside0.mk (blk_below (g := gb127) (o := .cells #[.bool false, .slice none 0 0] 30 (0, 0)) (by (with_reducible repeat (first|refine blk_drewN ?_ _|refine blk_drew ?_|refine blk_alloc ?_ _));exact BK127.out) hb);have n2_ := Aside0.mk (below_step (by repeat (first|(with_reducible first|exact HB.out|apply below_alloc|apply pw_below_drewN|apply below_drew1|refine below_set ?_ GE127.out)|exact HB.out)) hb);clear HO_6;clear BK127;clear HB;have HO_6 := n0_;have BK127 := n1_;have HB := n2_;clear n0_ n1_ n2_;(try clear hb);(try clear hb2);(try clear hk);(try clear hi);(try simp only [errW_none, errW_some]))|((with_reducible refine gate_builtin (b := .append) (xs := #[.tmp 51, .tmp 54]) rfl ?_);at_builtin;refine Kd.R_append (Kd.int .u32) (w0 := w) w.heap.size rfl (.tmp 51) (.tmp 54) 28 73 (.int .u32 0) 4 rfl Tryd.underlying28 info73 rfl (by decide) (by omega) u6 x6_2 ((t132) % 4294967296) [.int .u32 ((t132) % 4294967296)] (fun k_ => (w.heap.size ≤ k_)) (fun _ => False) rfl rfl ?aP (fun _ hk => hk.elim) ?aF ?aO ?aB ?aS ?aL ?_;(case aP => exact rfl);(case aB => exact (by repeat (first|(with_reducible first|exact HB.out|apply below_alloc|apply pw_below_drewN|apply below_drew1|refine below_set ?_ GE127.out)|exact HB.out)));(case aF => exact (fun k_ hk => (Nat.le_trans (below_size (by repeat (first|(with_reducible first|exact HB.out|apply below_alloc|apply pw_below_drewN|apply below_drew1|refine below_set ?_ GE127.out)|exact HB.out))) hk)));(case aO => exact (by (with_reducible repeat (first|apply Kd.R_alloc|apply Kd.R_drewN|apply Kd.R_drew));exact HO_6.out));(case aS => exact (below_size (by repeat (first|(with_reducible first|exact HB.out|apply below_alloc|apply pw_below_drewN|apply below_drew1|refine below_set ?_ GE127.out)|exact HB.out))));(case aL => have := LMc52.out;omega);intro v135 w54 ho hb hg hat;rw [← Ny134.out] at ho;have n0_ := Aside0.mk (blk_grown (g := gb127) (o := .cells #[.bool false, .slice none 0 0] 30 (0, 0)) (by (with_reducible repeat (first|refine blk_drewN ?_ _|refine blk_drew ?_|refine blk_alloc ?_ _));exact BK127.out) hg (Kd.R_ne HO_6.out BK127.out (by decide)));have n1_ := Aside0.mk (hb);have n2_ := Aside0.mk (ho);clear BK127;clear HB;clear HO_6;have BK127 := n0_;have HB := n1_;have HO136 := n2_;clear n0_ n1_ n2_;clear ho hb hg hat))
             go_roundg k2
             case measure => have := HJ33.out; have := HK2.out; omega
             case rel => exact ⟨(y134), (wrap64 (x7_2 - 9)), (by first|rfl|(simp;done)|(simp [*];done)), H', ⟨by have := HJ33.out;have := HK2.out;omega⟩, ⟨by (with_reducible repeat (first|apply Kd.R_alloc|apply Kd.R_drewN|apply Kd.R_drew));exact HO136.out⟩, ⟨by (with_reducible repeat (first|refine blk_drewN ?_ _|refine blk_drew ?_|refine blk_alloc ?_ _));exact BK127.out⟩, ⟨by repeat (first|(with_reducible first|exact HB.out|apply below_alloc|apply pw_below_drewN|apply below_drew1|refine below_set ?_ GE127.out)|exact HB.out)⟩⟩
            ·rw [if_neg c52] at H
             exact absurd H (by simp)
           ·rw [if_neg c50] at H
            exact absurd H (by simp)
          ·rw [if_neg c49] at H
           exact absurd H (by simp)
         ·rw [if_neg c48] at H
          exact absurd H (by simp)
        ·rw [if_neg c46] at H
         have c46b0 : decide (0 < x7_2) = false := decide_eq_false c46
         clear c46
         replace H := Option.bind_eq_some_iff.mp H
         obtain ⟨⟨t137, t138, t141⟩, A550, H⟩ := H
         replace H : (some (t137, t138, (t141 == 0))) = some (r1, r2, r3) := H
         have A55 := Aside0.mk A550
         clear A550
         simp only [Option.some.injEq, Prod.mk.injEq] at H
         obtain ⟨rfl, rfl, rfl⟩ := H
         obtain ⟨Ao56, co56, eo56⟩ := Kd.R_slice HO_6.out
         subst eo56
         go_wp2_with (first|((with_reducible refine gate_callee (f := 32) rfl ?_);refine goesL_ (some 59) rfl rfl Tryd.func32 (by kernel_rfl) rfl #[.bool true, .slice Ao56 x6_2.length co56] rfl (by (try simp only [List.map_toArray, List.map_cons, List.map_nil]);first|done|rfl|(simp only [List.length_drop, List.length_take];rfl)) ?_;(with_reducible refine (num_of.calls k2 true (fun k_ => some k_ = (.slice Ao56 x6_2.length co56 : Value).ownBlock) _ _ x6_2 t137 t138 t141 _ ?side1 A55.out).mono ?_);(case side1 => exact Kd.R_V (Kd.R_tight rfl (Kd.R_types (HO_6.out) BK127.out (by decide))));rintro e w57 ⟨v139, rfl, ho0, hb⟩;refine ⟨_, rfl, ?_⟩;have n0_ := Aside0.mk (Kd.R_below (by (with_reducible repeat (first|apply Kd.R_alloc|apply Kd.R_drewN|apply Kd.R_drew));exact HO_6.out) hb);have n1_ := Aside0.mk (Kd.V_lower (Kd.V_mono (ok' := fun k_ => (w.heap.size ≤ k_) ∧ k_ ≠ gb127) ho0 (fun k_ hk_ => ⟨Or.elim hk_ (fun hs_ => ((Kd.R_types (HO_6.out) BK127.out (by decide)).1 k_ hs_.symm).1) (fun hn_ => (Nat.le_trans (below_size (by repeat (first|(with_reducible first|exact HB.out|apply below_alloc|apply pw_below_drewN|apply below_drew1|refine below_set ?_ GE127.out)|exact HB.out))) hn_)), Or.elim hk_ (fun hs_ => ((Kd.R_types (HO_6.out) BK127.out (by decide)).1 k_ hs_.symm).2) (fun hn_ => (Kd.freshB (g := gb127) (o := .cells #[.bool false, .slice none 0 0] 30 (0, 0)) (by (with_reducible repeat (first|refine blk_drewN ?_ _|refine blk_drew ?_|refine blk_alloc ?_ _));exact BK127.out) k_ hn_))⟩)) (below_size (by repeat (first|(with_reducible first|exact HB.out|apply below_alloc|apply pw_below_drewN|apply below_drew1|refine below_set ?_ GE127.out)|exact HB.out))));have n2_ := Aside0.mk (blk_below (g := gb127) (o := .cells #[.bool false, .slice none 0 0] 30 (0, 0)) (by (with_reducible repeat (first|refine blk_drewN ?_ _|refine blk_drew ?_|refine blk_alloc ?_ _));exact BK127.out) hb);have n3_ := Aside0.mk (below_step (by repeat (first|(with_reducible first|exact HB.out|apply below_alloc|apply pw_below_drewN|apply below_drew1|refine below_set ?_ GE127.out)|exact HB.out)) hb);clear HO_6;clear BK127;clear HB;have HO_6 := n0_;have HO140 := n1_;have BK127 := n2_;have HB := n3_;clear n0_ n1_ n2_ n3_;(try clear hb);(try clear hb2);(try clear hk);(try clear hi);(try clear ho0))|((with_reducible refine gate_dst (N := 10) rfl ?_);refine box_event ?hg (N := 10) ?hd (cs := #[.bool false, .slice none 0 0]) (t := 30) ?hr ?_;(case hd => rfl);(case hg => rfl);(case hr => first|(go_simp;done)|(go_simp;rfl));intro gb142 hg w58 hbox hb;have n0_ := Aside0.mk (Kd.R_below (by (with_reducible repeat (first|apply Kd.R_alloc|apply Kd.R_drewN|apply Kd.R_drew));exact HO_6.out) hb);have n1_ := Aside0.mk (Kd.V_below (Kd.V_elderB (by (with_reducible repeat (first|apply Kd.V_alloc|apply Kd.V_drewN|apply Kd.V_drew));exact HO140.out) gb142 (Nat.le_of_eq hg.symm)) hb);have n2_ := Aside0.mk (blk_below (g := gb127) (o := .cells #[.bool false, .slice none 0 0] 30 (0, 0)) (by (with_reducible repeat (first|refine blk_drewN ?_ _|refine blk_drew ?_|refine blk_alloc ?_ _));exact BK127.out) hb);have n3_ := Aside0.mk (below_step (by repeat (first|(with_reducible first|exact HB.out|apply below_alloc|apply pw_below_drewN|apply below_drew1|refine below_set ?_ GE127.out)|exact HB.out)) hb);have n4_ := Aside0.mk (hbox);have n5_ := Aside0.mk ((by rw [hg];exact (below_size (by repeat (first|(with_reducible first|exact HB.out|apply below_alloc|apply pw_below_drewN|apply below_drew1|refine below_set ?_ GE127.out)|exact HB.out))) : w.heap.size ≤ gb142));have n6_ := Aside0.mk ((by rw [hg];exact (below_size (by repeat (first|(with_reducible first|exact HB.out|apply below_alloc|apply pw_below_drewN|apply below_drew1|refine below_set ?_ GE127.out)|exact HB.out))) : w.heap.size ≤ gb142));have n7_ := Aside0.mk ((by rw [hg];exact Nat.ne_of_lt (blk_lt (g := gb127) (o := .cells #[.bool false, .slice none 0 0] 30 (0, 0)) (by (with_reducible repeat (first|refine blk_drewN ?_ _|refine blk_drew ?_|refine blk_alloc ?_ _));exact BK127.out)) : gb127 ≠ gb142));have n8_ := Aside0.mk ((by rw [hg];exact Nat.ne_of_gt (blk_lt (g := gb127) (o := .cells #[.bool false, .slice none 0 0] 30 (0, 0)) (by (with_reducible repeat (first|refine blk_drewN ?_ _|refine blk_drew ?_|refine blk_alloc ?_ _));exact BK127.out)) : gb142 ≠ gb127));clear HO_6;clear HO140;clear BK127;clear HB;have HO_6 := n0_;have HO140 := n1_;have BK127 := n2_;have HB := n3_;have BK142 := n4_;have GW142 := n5_;have GE142 := n6_;have NB127_142 := n7_;have NB142_127 := n8_;clear n0_ n1_ n2_ n3_ n4_ n5_ n6_ n7_ n8_;clear hb hbox hg;have hnb59 := NB142_127.out;have hnc59 := NB127_142.out;have hcz60_0 : w58.cell? ⟨gb142, 0, none⟩ = some (.bool false) := (blk_cell BK142.out 0).trans rfl;have hcz60_1 : w58.cell? ⟨gb142, 1, none⟩ = some (.slice none 0 0) := (blk_cell BK142.out 1).trans rfl;have hfz60_0 := blk_frozen BK142.out 0;have hfz60_1 := blk_frozen BK142.out 1;obtain ⟨Ao61, co61, eo61⟩ := Kd.V_slice HO140.out;subst eo61;have hcz62_0 : w58.cell? ⟨gb127, 0, none⟩ = some (.bool false) := (blk_cell BK127.out 0).trans rfl;have hcz62_1 : w58.cell? ⟨gb127, 1, none⟩ = some (.slice none 0 0) := (blk_cell BK127.out 1).trans rfl;have hfz62_0 := blk_frozen BK127.out 0;have hfz62_1 := blk_frozen BK127.out 1))
         refine bodyPost_ret (results_ct rfl _ _ gb127 30 #[.bool t137, .slice Ao61 t138.length co61] (0, 0) _ rfl (by (with_reducible repeat (first|refine blk_drewN ?_ _|refine blk_drew ?_|refine blk_alloc ?_ _));refine blk_put (cs := #[.bool t137, .slice none 0 0]) ?_ 1 _ rfl;(with_reducible repeat (first|refine blk_drewN ?_ _|refine blk_drew ?_|refine blk_alloc ?_ _));refine blk_put (cs := #[.bool false, .slice none 0 0]) ?_ 0 _ rfl;(with_reducible repeat (first|refine blk_drewN ?_ _|refine blk_drew ?_|refine blk_alloc ?_ _));refine blk_far ?_ NB127_142.out _;(with_reducible repeat (first|refine blk_drewN ?_ _|refine blk_drew ?_|refine blk_alloc ?_ _));refine blk_far ?_ NB127_142.out _;(with_reducible repeat (first|refine blk_drewN ?_ _|refine blk_drew ?_|refine blk_alloc ?_ _));exact BK127.out) Tryd.underlying30 rfl (by kernel_rfl)) rfl ?_
         exact ⟨_, by first|rfl|(simp [errW_none, errW_some] <;> rfl)|(simp [*, errW_none, errW_some] <;> rfl), by (with_reducible repeat (first|apply Kd.V_alloc|apply Kd.V_drewN|apply Kd.V_drew));exact Kd.V_mono (Kd.V_far (p := ⟨gb127, 1, none⟩) (Kd.V_far (p := ⟨gb127, 0, none⟩) (Kd.V_far (p := ⟨gb142, 1, none⟩) (Kd.V_far (p := ⟨gb142, 0, none⟩) (Kd.V_mono (Kd.V_mono HO140.out (fun k_ hk => (⟨hk, hk.2⟩ : _ ∧ k_ ≠ gb142))) (fun k_ hk => (⟨hk, hk.1.1.2⟩ : _ ∧ k_ ≠ gb127))) (fun _ hk => hk.1.2) (.bool t137)) (fun _ hk => hk.1.2) (.slice Ao61 t138.length co61)) (fun _ hk => hk.2) (.bool t137)) (fun _ hk => hk.2) (.slice Ao61 t138.length co61)) (fun _ hk => hk.1.1.1.1), by repeat (first|(with_reducible first|exact HB.out|apply below_alloc|apply pw_below_drewN|apply below_drew1|refine below_set ?_ GE127.out|refine below_set ?_ GE142.out)|exact HB.out)⟩
end Go.Proofs.YtefefpkgiecikaaDoor.P
namespace Go.Proofs.YtefefpkgiecikaaDoor.P
open Go.RowKit Go.Proofs.YtefefpkgiecikaaDoorW.PrintWords Go.Proofs.YtefefpkgiecikaaDoorW.PrintLast Go.Proofs.YtefefpkgiecikaaDoorW.PrintMore
attribute [local go_sem] max2_int min2_int max_two min_two max_three min_three max_four min_four
set_option linter.unusedVariables false
set_option linter.unusedSimpArgs false
def utf_Decode.l0 : Nat → List Int → List Int → Int → Option (List Int × Int × Int)
 | 0, _, _, _ => none
 | k + 1, x0, x2, x3 => if x3 < (x0.length : Int) then (if 0 ≤ x3 then (if x3 ≤ (x0.length : Int) then ((utf8_DecodeRune.f (x0.drop (x3 : Int).toNat)).bind fun bt146 => (if bt146.1 = 65533 then (if bt146.2 < 2 then (some (([] : List Int), x3, 4)) else (if x2.length < 17592186044416 then (utf_Decode.l0 k x0 (x2 ++ [wrap64 (bt146.1)]) (wrap64 (x3 + bt146.2))) else (none))) else (if x2.length < 17592186044416 then (utf_Decode.l0 k x0 (x2 ++ [wrap64 (bt146.1)]) (wrap64 (x3 + bt146.2))) else (none)))) else (none)) else (none)) else (some (x2, 0, 0))
def utf_Decode.f (k : Nat) (l0 : List Int) : Option (List Int × Int × Int) := if (l0.length : Int) > 65536 then (some (([] : List Int), 0, 6)) else (utf_Decode.l0 k l0 ([] : List Int) 0)
theorem utf_Decode.mono_l : ∀ k, (∀ y0 y1 y2, LeO (utf_Decode.l0 k y0 y1 y2) (utf_Decode.l0 (k + 1) y0 y1 y2))
 | 0 => fun _ _ _ r h => by simp [utf_Decode.l0] at h
 | k + 1 => by
  have ih0 := utf_Decode.mono_l k
  ·intro y0 y1 y2
   unfold utf_Decode.l0
   repeat' first
   | (with_reducible exact ih0 _ _ _)
   | (with_reducible exact LeO.refl _)
   | (with_reducible exact LeO.none _)
   | (with_reducible refine LeO.ite ?_ ?_)
   | (with_reducible refine LeO.bind ?_ (fun _ => ?_))
   | exact ih0 _ _ _
   | exact LeO.none _
   | refine LeO.ite ?_ ?_
   | refine LeO.bind ?_ (fun _ => ?_)
theorem utf_Decode.mono : ∀ a0 k, LeO (utf_Decode.f k a0) (utf_Decode.f (k + 1) a0) := by
 intro a0 k
 have ih0 := utf_Decode.mono_l k
 unfold utf_Decode.f
 repeat' first
   | (with_reducible exact ih0 _ _ _)
   | (with_reducible exact LeO.refl _)
   | (with_reducible exact LeO.none _)
   | (with_reducible refine LeO.ite ?_ ?_)
   | (with_reducible refine LeO.bind ?_ (fun _ => ?_))
   | exact ih0 _ _ _
   | exact LeO.none _
   | refine LeO.ite ?_ ?_
   | refine LeO.bind ?_ (fun _ => ?_)
set_option maxHeartbeats 8000000 in
set_option maxRecDepth 100000 in
theorem utf_Decode.calls (k : Nat) (A0 : Option Addr) (c0 : Nat) (l0 : List Int) (r1 : List Int) (r2 : Int) (r3 : Int) (w : World) (hLD : LD w) (hr0 : Kd.C (Kd.int .u8) w A0 l0.length l0) (hc0 : l0.length ≤ c0) (h : utf_Decode.f k l0 = some (r1, r2, r3)) :
  Calls Tryd.prog 17 #[.slice A0 l0.length c0] w fun e w' => ∃ v0_ : Value, e = .returned (.tuple #[v0_, .int .i64 r2, .int .i64 r3]) ∧ Kd.R (Kd.int .i64) 3 w' w.heap.size (fun _ => True) v0_ r1 ∧ Below w.heap.size w w' := by
 have HR0 := Aside0.mk hr0
 have HC0 := Aside0.mk hc0
 clear hr0 hc0
 have HLD := Aside0.mk hLD
 clear hLD
 have HB := Aside0.mk (Below.refl w.heap.size w)
 have H : (if (l0.length : Int) > 65536 then (some (([] : List Int), 0, 6)) else (utf_Decode.l0 k l0 ([] : List Int) 0)) = some (r1, r2, r3) := h
 clear h
 by_cases c2 : (l0.length : Int) > 65536
 ·rw [if_pos c2] at H
  have c2b0 : decide (65536 < (l0.length : Int)) = true := decide_eq_true c2
  have c2b1 : decide (65536 < l0.length) = true := decide_eq_true (by omega)
  clear c2
  simp only [Option.some.injEq, Prod.mk.injEq] at H
  obtain ⟨rfl, rfl, rfl⟩ := H
  go_enter Tryd.func17, Tryd.ntmps17
  go_wp2
  go_ret3
  exact ⟨_, by first|rfl|(simp [errW_none, errW_some] <;> rfl)|(simp [*, errW_none, errW_some] <;> rfl), by first|exact Kd.R_nil _ _ _ _ _|exact Kd.N_nil _ _ _ _ _|exact Kd.V_nil _ _ _ _ _|exact Kd.Q_nil _ _ _ _ _|exact Kd.S_nil _ _ _ _ _, by repeat (first|(with_reducible first|exact HB.out|apply below_alloc|apply pw_below_drewN|apply below_drew1)|exact HB.out)⟩
 ·rw [if_neg c2] at H
  have c2b0 : decide (65536 < (l0.length : Int)) = false := decide_eq_false c2
  have c2b1 : decide (65536 < l0.length) = false := decide_eq_false (by omega)
  clear c2
  have H' := Aside0.mk H
  clear H
  go_enter Tryd.func17, Tryd.ntmps17
  go_wp2
  go_loopg [2, 3] k (fun kq v2 v3 w' => ∃ (x2_1 : List Int) (x3_1 : Int), v3 = .int .i64 x3_1 ∧ Aside0 (utf_Decode.l0 kq l0 x2_1 x3_1 = some (r1, r2, r3)) ∧ Aside0 (kq ≤ k) ∧ Aside0 (Kd.R (Kd.int .i64) 3 w' w.heap.size (fun _ => True) v2 x2_1) ∧ Aside0 (Below w.heap.size w w'))
  case atStart => exact ⟨(([] : List Int)), (0), (by first|rfl|(simp;done)|(simp [*];done)), H', ⟨Nat.le_refl _⟩, ⟨by first|exact Kd.R_nil _ _ _ _ _|exact Kd.N_nil _ _ _ _ _|exact Kd.V_nil _ _ _ _ _|exact Kd.Q_nil _ _ _ _ _|exact Kd.S_nil _ _ _ _ _⟩, ⟨by repeat (first|(with_reducible first|exact HB.out|apply below_alloc|apply pw_below_drewN|apply below_drew1)|exact HB.out)⟩⟩
  case round =>
   clear H'
   try clear c1
   try clear c2
   try clear c2b0
   try clear c2b1
   try clear p2
   obtain ⟨x2_1, x3_1, rfl, HA, HK1, HO_2, HB⟩ := hrel
   cases gk with
   | zero => exact absurd HA.out (by simp [utf_Decode.l0])
   | succ k1 =>
    have H := HA.out
    clear HA
    simp only [utf_Decode.l0] at H
    by_cases c3 : x3_1 < (l0.length : Int)
    ·rw [if_pos c3] at H
     have c3b0 : decide (x3_1 < (l0.length : Int)) = true := decide_eq_true c3
     clear c3
     by_cases c4 : 0 ≤ x3_1
     ·rw [if_pos c4] at H
      have c4b0 := eq_true c4
      have c4b1 : decide (0 ≤ x3_1) = true := decide_eq_true c4
      clear c4
      by_cases c5 : x3_1 ≤ (l0.length : Int)
      ·rw [if_pos c5] at H
       have c5b0 := eq_true c5
       have c5b1 : decide (x3_1 ≤ (l0.length : Int)) = true := decide_eq_true c5
       clear c5
       replace H := Option.bind_eq_some_iff.mp H
       obtain ⟨⟨t146, t147⟩, A60, H⟩ := H
       replace H : (if t146 = 65533 then (if t147 < 2 then (some (([] : List Int), x3_1, 4)) else (if x2_1.length < 17592186044416 then (utf_Decode.l0 k1 l0 (x2_1 ++ [wrap64 (t146)]) (wrap64 (x3_1 + t147))) else (none))) else (if x2_1.length < 17592186044416 then (utf_Decode.l0 k1 l0 (x2_1 ++ [wrap64 (t146)]) (wrap64 (x3_1 + t147))) else (none))) = some (r1, r2, r3) := H
       have A6 := Aside0.mk A60
       clear A60
       by_cases c7 : t146 = 65533
       ·rw [if_pos c7] at H
        have c7b0 : (t146 == 65533) = true := beq_iff_eq.mpr c7
        have c7b1 : (t146 != 65533) = false := bne_eq_false_iff_eq.mpr c7
        clear c7
        by_cases c8 : t147 < 2
        ·rw [if_pos c8] at H
         have c8b0 : decide (t147 < 2) = true := decide_eq_true c8
         clear c8
         simp only [Option.some.injEq, Prod.mk.injEq] at H
         obtain ⟨rfl, rfl, rfl⟩ := H
         obtain ⟨i09, hi09, _, hsz9, _⟩ := info_parts info5
         obtain ⟨A9, hcut9, hA9, hC9⟩ := print_drop_of (P := Tryd.prog) (Value.int .u8) 0 27 5 .i64 Tryd.underlying27 hi09 hsz9 A0 c0 l0 x3_1 (of_decide_eq_true (by first | (with_reducible assumption) | assumption)) (of_decide_eq_true (by first | (with_reducible assumption) | assumption)) HC0.out
         have HR145 := Aside0.mk (Kd.C_of_reads (h1 := fun _ => rfl) (hA9 _ (Kd.reads_of_C HR0.out)))
         have HC145 := Aside0.mk hC9
         clear hA9 hC9 hi09 hsz9
         go_wp2_with (first|((with_reducible refine gate_callee (f := 33) rfl ?_);refine goesL_ (some 18) rfl rfl Tryd.func33 (by kernel_rfl) rfl #[.slice A9 (l0.drop (x3_1 : Int).toNat).length (c0 - x3_1.toNat)] rfl (by (try simp only [List.map_toArray, List.map_cons, List.map_nil]);first|done|(rw [show (l0.drop (x3_1 : Int).toNat).length = (l0.length - x3_1.toNat) from List.length_drop] <;> rfl)|rfl|(simp only [List.length_drop, List.length_take];rfl)) ?_;(with_reducible refine (utf8_DecodeRune.calls _ _ (l0.drop (x3_1 : Int).toNat) t146 t147 _ ?side1 ?side2 ?side3 A6.out).mono ?_);(case side1 => exact LD.below HLD.out (by repeat (first|(with_reducible first|exact HB.out|apply below_alloc|apply pw_below_drewN|apply below_drew1)|exact HB.out)));(case side2 => repeat (first|exact (Kd.C_below HR145.out HB.out)|(with_reducible refine Kd.C_alloc ?_ _)|(with_reducible refine Kd.C_drewN ?_ _)|(with_reducible refine Kd.C_drew ?_)));(case side3 => exact HC145.out);rintro e w10 ⟨rfl, hb⟩;refine ⟨_, rfl, ?_⟩;have n0_ := Aside0.mk (Kd.R_below (by (with_reducible repeat (first|apply Kd.R_alloc|apply Kd.R_drewN|apply Kd.R_drew));exact HO_2.out) hb);have n1_ := Aside0.mk (below_step (by repeat (first|(with_reducible first|exact HB.out|apply below_alloc|apply pw_below_drewN|apply below_drew1)|exact HB.out)) hb);clear HO_2;clear HB;have HO_2 := n0_;have HB := n1_;clear n0_ n1_;(try clear hb);(try clear hb2);(try clear hk);(try clear hi)))
         go_ret3
         exact ⟨_, by first|rfl|(simp [errW_none, errW_some] <;> rfl)|(simp [*, errW_none, errW_some] <;> rfl), by first|exact Kd.R_nil _ _ _ _ _|exact Kd.N_nil _ _ _ _ _|exact Kd.V_nil _ _ _ _ _|exact Kd.Q_nil _ _ _ _ _|exact Kd.S_nil _ _ _ _ _, by repeat (first|(with_reducible first|exact HB.out|apply below_alloc|apply pw_below_drewN|apply below_drew1)|exact HB.out)⟩
        ·rw [if_neg c8] at H
         have c8b0 : decide (t147 < 2) = false := decide_eq_false c8
         clear c8
         by_cases c11 : x2_1.length < 17592186044416
         ·rw [if_pos c11] at H
          have LMc11 := Aside0.mk c11
          clear c11
          obtain ⟨y148, hy148⟩ : ∃ y_ : List Int, y_ = (x2_1 ++ [wrap64 (t146)]) := ⟨_, rfl⟩
          replace H : (utf_Decode.l0 k1 l0 y148 (wrap64 (x3_1 + t147))) = some (r1, r2, r3) := by first | (rw [hy148]; with_reducible exact H) | (have H2_ := (Option.bind_some _ _).symm.trans H; rw [hy148]; with_reducible exact H2_) | (have H2_ := (Option.bind_some _ _).symm.trans H; with_reducible exact H2_) | with_reducible exact H | (rw [hy148]; exact H) | exact H
          have Ny148 := Aside0.mk hy148
          clear hy148
          have H' := Aside0.mk H
          clear H
          obtain ⟨i012, hi012, _, hsz12, _⟩ := info_parts info5
          obtain ⟨A12, hcut12, hA12, hC12⟩ := print_drop_of (P := Tryd.prog) (Value.int .u8) 0 27 5 .i64 Tryd.underlying27 hi012 hsz12 A0 c0 l0 x3_1 (of_decide_eq_true (by first | (with_reducible assumption) | assumption)) (of_decide_eq_true (by first | (with_reducible assumption) | assumption)) HC0.out
          have HR145 := Aside0.mk (Kd.C_of_reads (h1 := fun _ => rfl) (hA12 _ (Kd.reads_of_C HR0.out)))
          have HC145 := Aside0.mk hC12
          clear hA12 hC12 hi012 hsz12
          go_wp2_with (first|((with_reducible refine gate_callee (f := 33) rfl ?_);refine goesL_ (some 18) rfl rfl Tryd.func33 (by kernel_rfl) rfl #[.slice A12 (l0.drop (x3_1 : Int).toNat).length (c0 - x3_1.toNat)] rfl (by (try simp only [List.map_toArray, List.map_cons, List.map_nil]);first|done|(rw [show (l0.drop (x3_1 : Int).toNat).length = (l0.length - x3_1.toNat) from List.length_drop] <;> rfl)|rfl|(simp only [List.length_drop, List.length_take];rfl)) ?_;(with_reducible refine (utf8_DecodeRune.calls _ _ (l0.drop (x3_1 : Int).toNat) t146 t147 _ ?side1 ?side2 ?side3 A6.out).mono ?_);(case side1 => exact LD.below HLD.out (by repeat (first|(with_reducible first|exact HB.out|apply below_alloc|apply pw_below_drewN|apply below_drew1)|exact HB.out)));(case side2 => repeat (first|exact (Kd.C_below HR145.out HB.out)|(with_reducible refine Kd.C_alloc ?_ _)|(with_reducible refine Kd.C_drewN ?_ _)|(with_reducible refine Kd.C_drew ?_)));(case side3 => exact HC145.out);rintro e w13 ⟨rfl, hb⟩;refine ⟨_, rfl, ?_⟩;have n0_ := Aside0.mk (Kd.R_below (by (with_reducible repeat (first|apply Kd.R_alloc|apply Kd.R_drewN|apply Kd.R_drew));exact HO_2.out) hb);have n1_ := Aside0.mk (below_step (by repeat (first|(with_reducible first|exact HB.out|apply below_alloc|apply pw_below_drewN|apply below_drew1)|exact HB.out)) hb);clear HO_2;clear HB;have HO_2 := n0_;have HB := n1_;clear n0_ n1_;(try clear hb);(try clear hb2);(try clear hk);(try clear hi))|((with_reducible refine gate_builtin (b := .append) (xs := #[.tmp 28, .tmp 31]) rfl ?_);at_builtin;refine Kd.R_append (Kd.int .i64) (w0 := w) w.heap.size rfl (.tmp 28) (.tmp 31) 22 3 (.int .i64 0) 8 rfl Tryd.underlying22 info3 rfl (by decide) (by omega) u2 x2_1 (wrap64 (t146)) [.int .i64 (wrap64 (t146))] (fun _ => True) (fun _ => False) rfl rfl ?aP (fun _ hk => hk.elim) ?aF ?aO ?aB ?aS ?aL ?_;(case aP => exact rfl);(case aB => exact (by repeat (first|(with_reducible first|exact HB.out|apply below_alloc|apply pw_below_drewN|apply below_drew1)|exact HB.out)));(case aF => exact (fun _ _ => trivial));(case aO => exact (by (with_reducible repeat (first|apply Kd.R_alloc|apply Kd.R_drewN|apply Kd.R_drew));exact HO_2.out));(case aS => exact (below_size (by repeat (first|(with_reducible first|exact HB.out|apply below_alloc|apply pw_below_drewN|apply below_drew1)|exact HB.out))));(case aL => have := LMc11.out;omega);intro v149 w14 ho hb hg hat;rw [← Ny148.out] at ho;have n0_ := Aside0.mk (hb);have n1_ := Aside0.mk (ho);clear HB;clear HO_2;have HB := n0_;have HO150 := n1_;clear n0_ n1_;clear ho hb hg hat))
          go_roundg k1
          case measure => have := HK1.out; omega
          case rel => exact ⟨(y148), (wrap64 (x3_1 + t147)), (by first|rfl|(simp;done)|(simp [*];done)), H', ⟨by have := HK1.out;omega⟩, ⟨by (with_reducible repeat (first|apply Kd.R_alloc|apply Kd.R_drewN|apply Kd.R_drew));exact HO150.out⟩, ⟨by repeat (first|(with_reducible first|exact HB.out|apply below_alloc|apply pw_below_drewN|apply below_drew1)|exact HB.out)⟩⟩
         ·rw [if_neg c11] at H
          exact absurd H (by simp)
       ·rw [if_neg c7] at H
        have c7b0 : (t146 == 65533) = false := beq_eq_false_iff_ne.mpr c7
        have c7b1 : (t146 != 65533) = true := bne_iff_ne.mpr c7
        by_cases c15 : x2_1.length < 17592186044416
        ·rw [if_pos c15] at H
         have LMc15 := Aside0.mk c15
         clear c15
         obtain ⟨y151, hy151⟩ : ∃ y_ : List Int, y_ = (x2_1 ++ [wrap64 (t146)]) := ⟨_, rfl⟩
         replace H : (utf_Decode.l0 k1 l0 y151 (wrap64 (x3_1 + t147))) = some (r1, r2, r3) := by first | (rw [hy151]; with_reducible exact H) | (have H2_ := (Option.bind_some _ _).symm.trans H; rw [hy151]; with_reducible exact H2_) | (have H2_ := (Option.bind_some _ _).symm.trans H; with_reducible exact H2_) | with_reducible exact H | (rw [hy151]; exact H) | exact H
         have Ny151 := Aside0.mk hy151
         clear hy151
         have H' := Aside0.mk H
         clear H
         obtain ⟨i016, hi016, _, hsz16, _⟩ := info_parts info5
         obtain ⟨A16, hcut16, hA16, hC16⟩ := print_drop_of (P := Tryd.prog) (Value.int .u8) 0 27 5 .i64 Tryd.underlying27 hi016 hsz16 A0 c0 l0 x3_1 (of_decide_eq_true (by first | (with_reducible assumption) | assumption)) (of_decide_eq_true (by first | (with_reducible assumption) | assumption)) HC0.out
         have HR145 := Aside0.mk (Kd.C_of_reads (h1 := fun _ => rfl) (hA16 _ (Kd.reads_of_C HR0.out)))
         have HC145 := Aside0.mk hC16
         clear hA16 hC16 hi016 hsz16
         go_wp2_with (first|((with_reducible refine gate_callee (f := 33) rfl ?_);refine goesL_ (some 18) rfl rfl Tryd.func33 (by kernel_rfl) rfl #[.slice A16 (l0.drop (x3_1 : Int).toNat).length (c0 - x3_1.toNat)] rfl (by (try simp only [List.map_toArray, List.map_cons, List.map_nil]);first|done|(rw [show (l0.drop (x3_1 : Int).toNat).length = (l0.length - x3_1.toNat) from List.length_drop] <;> rfl)|rfl|(simp only [List.length_drop, List.length_take];rfl)) ?_;(with_reducible refine (utf8_DecodeRune.calls _ _ (l0.drop (x3_1 : Int).toNat) t146 t147 _ ?side1 ?side2 ?side3 A6.out).mono ?_);(case side1 => exact LD.below HLD.out (by repeat (first|(with_reducible first|exact HB.out|apply below_alloc|apply pw_below_drewN|apply below_drew1)|exact HB.out)));(case side2 => repeat (first|exact (Kd.C_below HR145.out HB.out)|(with_reducible refine Kd.C_alloc ?_ _)|(with_reducible refine Kd.C_drewN ?_ _)|(with_reducible refine Kd.C_drew ?_)));(case side3 => exact HC145.out);rintro e w17 ⟨rfl, hb⟩;refine ⟨_, rfl, ?_⟩;have n0_ := Aside0.mk (Kd.R_below (by (with_reducible repeat (first|apply Kd.R_alloc|apply Kd.R_drewN|apply Kd.R_drew));exact HO_2.out) hb);have n1_ := Aside0.mk (below_step (by repeat (first|(with_reducible first|exact HB.out|apply below_alloc|apply pw_below_drewN|apply below_drew1)|exact HB.out)) hb);clear HO_2;clear HB;have HO_2 := n0_;have HB := n1_;clear n0_ n1_;(try clear hb);(try clear hb2);(try clear hk);(try clear hi))|((with_reducible refine gate_builtin (b := .append) (xs := #[.tmp 28, .tmp 31]) rfl ?_);at_builtin;refine Kd.R_append (Kd.int .i64) (w0 := w) w.heap.size rfl (.tmp 28) (.tmp 31) 22 3 (.int .i64 0) 8 rfl Tryd.underlying22 info3 rfl (by decide) (by omega) u2 x2_1 (wrap64 (t146)) [.int .i64 (wrap64 (t146))] (fun _ => True) (fun _ => False) rfl rfl ?aP (fun _ hk => hk.elim) ?aF ?aO ?aB ?aS ?aL ?_;(case aP => exact rfl);(case aB => exact (by repeat (first|(with_reducible first|exact HB.out|apply below_alloc|apply pw_below_drewN|apply below_drew1)|exact HB.out)));(case aF => exact (fun _ _ => trivial));(case aO => exact (by (with_reducible repeat (first|apply Kd.R_alloc|apply Kd.R_drewN|apply Kd.R_drew));exact HO_2.out));(case aS => exact (below_size (by repeat (first|(with_reducible first|exact HB.out|apply below_alloc|apply pw_below_drewN|apply below_drew1)|exact HB.out))));(case aL => have := LMc15.out;omega);intro v152 w18 ho hb hg hat;rw [← Ny151.out] at ho;have n0_ := Aside0.mk (hb);have n1_ := Aside0.mk (ho);clear HB;clear HO_2;have HB := n0_;have HO153 := n1_;clear n0_ n1_;clear ho hb hg hat))
         go_roundg k1
         case measure => have := HK1.out; omega
         case rel => exact ⟨(y151), (wrap64 (x3_1 + t147)), (by first|rfl|(simp;done)|(simp [*];done)), H', ⟨by have := HK1.out;omega⟩, ⟨by (with_reducible repeat (first|apply Kd.R_alloc|apply Kd.R_drewN|apply Kd.R_drew));exact HO153.out⟩, ⟨by repeat (first|(with_reducible first|exact HB.out|apply below_alloc|apply pw_below_drewN|apply below_drew1)|exact HB.out)⟩⟩
        ·rw [if_neg c15] at H
         exact absurd H (by simp)
      ·rw [if_neg c5] at H
       exact absurd H (by simp)
     ·rw [if_neg c4] at H
      exact absurd H (by simp)
    ·rw [if_neg c3] at H
     have c3b0 : decide (x3_1 < (l0.length : Int)) = false := decide_eq_false c3
     clear c3
     simp only [Option.some.injEq, Prod.mk.injEq] at H
     obtain ⟨rfl, rfl, rfl⟩ := H
     go_wp2
     go_ret3
     exact ⟨_, by first|rfl|(simp [errW_none, errW_some] <;> rfl)|(simp [*, errW_none, errW_some] <;> rfl), by (with_reducible repeat (first|apply Kd.R_alloc|apply Kd.R_drewN|apply Kd.R_drew));exact HO_2.out, by repeat (first|(with_reducible first|exact HB.out|apply below_alloc|apply pw_below_drewN|apply below_drew1)|exact HB.out)⟩
end Go.Proofs.YtefefpkgiecikaaDoor.P
namespace Go.Proofs.YtefefpkgiecikaaDoor.P
open Go.RowKit Go.Proofs.YtefefpkgiecikaaDoorW.PrintWords Go.Proofs.YtefefpkgiecikaaDoorW.PrintLast Go.Proofs.YtefefpkgiecikaaDoorW.PrintMore
attribute [local go_sem] max2_int min2_int max_two min_two max_three min_three max_four min_four
set_option linter.unusedVariables false
set_option linter.unusedSimpArgs false
def strings_HasPrefix.f (a0 : ByteArray) (a1 : ByteArray) : Option (Bool) := (stringslite_HasPrefix.f a0 a1).bind fun t154 => (some t154)
set_option maxHeartbeats 8000000 in
set_option maxRecDepth 100000 in
theorem strings_HasPrefix.calls (a0 : ByteArray) (a1 : ByteArray) (r : Bool) (w : World) (h : strings_HasPrefix.f a0 a1 = some r) :
  Calls Tryd.prog 18 #[.string a0, .string a1] w fun e w' => e = .returned (.bool r) ∧ Drawn0 w w' := by
 have H : ((stringslite_HasPrefix.f a0 a1).bind fun t154 => (some t154)) = some r := h
 clear h
 replace H := Option.bind_eq_some_iff.mp H
 obtain ⟨t154, A30, H⟩ := H
 replace H : (some t154) = some r := H
 have A3 := Aside0.mk A30
 clear A30
 obtain rfl := Option.some.inj H
 go_enter Tryd.func18, Tryd.ntmps18
 go_wp2_with (first|((with_reducible refine gate_callee (f := 34) rfl ?_);refine goesL_ (some 7) rfl rfl Tryd.func34 (by kernel_rfl) rfl #[.string a0, .string a1] rfl (by (try simp only [List.map_toArray, List.map_cons, List.map_nil]);first|done|rfl|(simp only [List.length_drop, List.length_take];rfl)) ?_;(with_reducible refine (stringslite_HasPrefix.calls a0 a1 t154 _ A3.out).mono ?_);rintro e w' ⟨rfl, ⟨nd, rfl⟩⟩;refine ⟨_, rfl, ?_⟩))
 go_ret
 exact ⟨by first|rfl|(simp;done)|(simp [*];done), by repeat (first|exact Drawn0.refl _|apply Drawn0.step)⟩
end Go.Proofs.YtefefpkgiecikaaDoor.P
namespace Go.Proofs.YtefefpkgiecikaaDoor.P
open Go.RowKit Go.Proofs.YtefefpkgiecikaaDoorW.PrintWords Go.Proofs.YtefefpkgiecikaaDoorW.PrintLast Go.Proofs.YtefefpkgiecikaaDoorW.PrintMore
attribute [local go_sem] max2_int min2_int max_two min_two max_three min_three max_four min_four
set_option linter.unusedVariables false
set_option linter.unusedSimpArgs false
def token_digit.f (a0 : ByteArray) (a1 : Int) : Option (Bool) := if a1 < (a0.size : Int) then (if 0 ≤ a1 then (if (bt a0 a1) ≥ 48 then (some (decide ((bt a0 a1) ≤ 57))) else (some false)) else (none)) else (some false)
set_option maxHeartbeats 8000000 in
set_option maxRecDepth 100000 in
theorem token_digit.calls (a0 : ByteArray) (a1 : Int) (r : Bool) (w : World) (h : token_digit.f a0 a1 = some r) :
  Calls Tryd.prog 21 #[.string a0, .int .i64 a1] w fun e w' => e = .returned (.bool r) ∧ Drawn0 w w' := by
 have H : (if a1 < (a0.size : Int) then (if 0 ≤ a1 then (if (bt a0 a1) ≥ 48 then (some (decide ((bt a0 a1) ≤ 57))) else (some false)) else (none)) else (some false)) = some r := h
 clear h
 by_cases c3 : a1 < (a0.size : Int)
 ·rw [if_pos c3] at H
  have c3b0 : decide (a1 < (a0.size : Int)) = true := decide_eq_true c3
  clear c3
  by_cases c4 : 0 ≤ a1
  ·rw [if_pos c4] at H
   have c4b0 : decide (0 ≤ a1) = true := decide_eq_true c4
   clear c4
   by_cases c6 : (bt a0 a1) ≥ 48
   ·rw [if_pos c6] at H
    have c6b0 : decide (48 ≤ (bt a0 a1)) = true := decide_eq_true c6
    clear c6
    obtain rfl := Option.some.inj H
    have p5 : 0 ≤ (a1 : Int) := of_decide_eq_true (by first | (with_reducible assumption) | assumption)
    have q5 : a1 < (a0.size : Int) := of_decide_eq_true (by first | (with_reducible assumption) | assumption)
    have hx5 := bt_at a0 a1
    replace p5 := eq_true p5
    replace q5 := eq_true q5
    have p7 : 0 ≤ (a1 : Int) := of_decide_eq_true (by first | (with_reducible assumption) | assumption)
    have q7 : a1 < (a0.size : Int) := of_decide_eq_true (by first | (with_reducible assumption) | assumption)
    have hx7 := bt_at a0 a1
    replace p7 := eq_true p7
    replace q7 := eq_true q7
    go_enter Tryd.func21, Tryd.ntmps21
    go_wp2
    go_ret
    exact ⟨by first|rfl|(simp;done)|(simp [*];done), by repeat (first|exact Drawn0.refl _|apply Drawn0.step)⟩
   ·rw [if_neg c6] at H
    have c6b0 : decide (48 ≤ (bt a0 a1)) = false := decide_eq_false c6
    clear c6
    obtain rfl := Option.some.inj H
    have p5 : 0 ≤ (a1 : Int) := of_decide_eq_true (by first | (with_reducible assumption) | assumption)
    have q5 : a1 < (a0.size : Int) := of_decide_eq_true (by first | (with_reducible assumption) | assumption)
    have hx5 := bt_at a0 a1
    replace p5 := eq_true p5
    replace q5 := eq_true q5
    go_enter Tryd.func21, Tryd.ntmps21
    go_wp2
    go_ret
    exact ⟨by first|rfl|(simp;done)|(simp [*];done), by repeat (first|exact Drawn0.refl _|apply Drawn0.step)⟩
  ·rw [if_neg c4] at H
   exact absurd H (by simp)
 ·rw [if_neg c3] at H
  have c3b0 : decide (a1 < (a0.size : Int)) = false := decide_eq_false c3
  clear c3
  obtain rfl := Option.some.inj H
  go_enter Tryd.func21, Tryd.ntmps21
  go_wp2
  go_ret
  exact ⟨by first|rfl|(simp;done)|(simp [*];done), by repeat (first|exact Drawn0.refl _|apply Drawn0.step)⟩
end Go.Proofs.YtefefpkgiecikaaDoor.P
namespace Go.Proofs.YtefefpkgiecikaaDoor.P
open Go.RowKit Go.Proofs.YtefefpkgiecikaaDoorW.PrintWords Go.Proofs.YtefefpkgiecikaaDoorW.PrintLast Go.Proofs.YtefefpkgiecikaaDoorW.PrintMore
attribute [local go_sem] max2_int min2_int max_two min_two max_three min_three max_four min_four
set_option linter.unusedVariables false
set_option linter.unusedSimpArgs false
def utf_Blank.f (a0 : Int) : Option (Bool) := if a0 = 9 then (some true) else (if a0 = 10 then (some true) else (if a0 = 13 then (some true) else (some (a0 == 32))))
set_option maxHeartbeats 8000000 in
set_option maxRecDepth 100000 in
theorem utf_Blank.calls (a0 : Int) (r : Bool) (w : World) (h : utf_Blank.f a0 = some r) :
  Calls Tryd.prog 25 #[.int .i64 a0] w fun e w' => e = .returned (.bool r) ∧ Drawn0 w w' := by
 have H : (if a0 = 9 then (some true) else (if a0 = 10 then (some true) else (if a0 = 13 then (some true) else (some (a0 == 32))))) = some r := h
 clear h
 by_cases c2 : a0 = 9
 ·rw [if_pos c2] at H
  have c2b0 : (a0 == 9) = true := beq_iff_eq.mpr c2
  have c2b1 : (a0 != 9) = false := bne_eq_false_iff_eq.mpr c2
  clear c2
  obtain rfl := Option.some.inj H
  go_enter Tryd.func25, Tryd.ntmps25
  go_wp2
  go_ret
  exact ⟨by first|rfl|(simp;done)|(simp [*];done), by repeat (first|exact Drawn0.refl _|apply Drawn0.step)⟩
 ·rw [if_neg c2] at H
  have c2b0 : (a0 == 9) = false := beq_eq_false_iff_ne.mpr c2
  have c2b1 : (a0 != 9) = true := bne_iff_ne.mpr c2
  by_cases c3 : a0 = 10
  ·rw [if_pos c3] at H
   have c3b0 : (a0 == 10) = true := beq_iff_eq.mpr c3
   have c3b1 : (a0 != 10) = false := bne_eq_false_iff_eq.mpr c3
   clear c3
   obtain rfl := Option.some.inj H
   go_enter Tryd.func25, Tryd.ntmps25
   go_wp2
   go_ret
   exact ⟨by first|rfl|(simp;done)|(simp [*];done), by repeat (first|exact Drawn0.refl _|apply Drawn0.step)⟩
  ·rw [if_neg c3] at H
   have c3b0 : (a0 == 10) = false := beq_eq_false_iff_ne.mpr c3
   have c3b1 : (a0 != 10) = true := bne_iff_ne.mpr c3
   by_cases c4 : a0 = 13
   ·rw [if_pos c4] at H
    have c4b0 : (a0 == 13) = true := beq_iff_eq.mpr c4
    have c4b1 : (a0 != 13) = false := bne_eq_false_iff_eq.mpr c4
    clear c4
    obtain rfl := Option.some.inj H
    go_enter Tryd.func25, Tryd.ntmps25
    go_wp2
    go_ret
    exact ⟨by first|rfl|(simp;done)|(simp [*];done), by repeat (first|exact Drawn0.refl _|apply Drawn0.step)⟩
   ·rw [if_neg c4] at H
    have c4b0 : (a0 == 13) = false := beq_eq_false_iff_ne.mpr c4
    have c4b1 : (a0 != 13) = true := bne_iff_ne.mpr c4
    obtain rfl := Option.some.inj H
    go_enter Tryd.func25, Tryd.ntmps25
    go_wp2
    go_ret
    exact ⟨by first|rfl|(simp;done)|(simp [*];done), by repeat (first|exact Drawn0.refl _|apply Drawn0.step)⟩
end Go.Proofs.YtefefpkgiecikaaDoor.P
namespace Go.Proofs.YtefefpkgiecikaaDoor.P
open Go.RowKit Go.Proofs.YtefefpkgiecikaaDoorW.PrintWords Go.Proofs.YtefefpkgiecikaaDoorW.PrintLast Go.Proofs.YtefefpkgiecikaaDoorW.PrintMore
attribute [local go_sem] max2_int min2_int max_two min_two max_three min_three max_four min_four
set_option linter.unusedVariables false
set_option linter.unusedSimpArgs false
def utf_Ends.f (a0 : Int) : Option (Bool) := (utf_Blank.f a0).bind fun t111 => (if t111 = true then (some true) else (if a0 > 0 then (if a0 < 128 then ((strings_IndexByte.f (⟨#[40, 41, 59, 34, 39, 96, 44]⟩ : ByteArray) ((a0) % 256)).bind fun t112 => (some (decide (t112 ≥ 0)))) else (some false)) else (some false)))
set_option maxHeartbeats 8000000 in
set_option maxRecDepth 100000 in
theorem utf_Ends.calls (a0 : Int) (r : Bool) (w : World) (h : utf_Ends.f a0 = some r) :
  Calls Tryd.prog 20 #[.int .i64 a0] w fun e w' => e = .returned (.bool r) ∧ Drawn0 w w' := by
 have H : ((utf_Blank.f a0).bind fun t111 => (if t111 = true then (some true) else (if a0 > 0 then (if a0 < 128 then ((strings_IndexByte.f (⟨#[40, 41, 59, 34, 39, 96, 44]⟩ : ByteArray) ((a0) % 256)).bind fun t112 => (some (decide (t112 ≥ 0)))) else (some false)) else (some false)))) = some r := h
 clear h
 replace H := Option.bind_eq_some_iff.mp H
 obtain ⟨t111, A20, H⟩ := H
 replace H : (if t111 = true then (some true) else (if a0 > 0 then (if a0 < 128 then ((strings_IndexByte.f (⟨#[40, 41, 59, 34, 39, 96, 44]⟩ : ByteArray) ((a0) % 256)).bind fun t112 => (some (decide (t112 ≥ 0)))) else (some false)) else (some false))) = some r := H
 have A2 := Aside0.mk A20
 clear A20
 by_cases c3 : t111 = true
 ·subst c3
  have H1 : (some true) = some r := by rw [if_pos rfl] at H; exact H
  clear H
  have H := H1
  clear H1
  obtain rfl := Option.some.inj H
  go_enter Tryd.func20, Tryd.ntmps20
  go_wp2_with (first|((with_reducible refine gate_callee (f := 25) rfl ?_);refine goesL_ (some 4) rfl rfl Tryd.func25 (by kernel_rfl) rfl #[.int .i64 a0] rfl (by (try simp only [List.map_toArray, List.map_cons, List.map_nil]);first|done|rfl|(simp only [List.length_drop, List.length_take];rfl)) ?_;(with_reducible refine (utf_Blank.calls a0 true _ A2.out).mono ?_);rintro e w' ⟨rfl, ⟨nd, rfl⟩⟩;refine ⟨_, rfl, ?_⟩))
  go_ret
  exact ⟨by first|rfl|(simp;done)|(simp [*];done), by repeat (first|exact Drawn0.refl _|apply Drawn0.step)⟩
 ·replace c3 := Bool.eq_false_iff.mpr c3
  subst c3
  have H1 : (if a0 > 0 then (if a0 < 128 then ((strings_IndexByte.f (⟨#[40, 41, 59, 34, 39, 96, 44]⟩ : ByteArray) ((a0) % 256)).bind fun t112 => (some (decide (t112 ≥ 0)))) else (some false)) else (some false)) = some r := by rw [if_neg (show ¬ (false = true) by decide)] at H; exact H
  clear H
  have H := H1
  clear H1
  by_cases c4 : a0 > 0
  ·rw [if_pos c4] at H
   have c4b0 : decide (0 < a0) = true := decide_eq_true c4
   clear c4
   by_cases c5 : a0 < 128
   ·rw [if_pos c5] at H
    have c5b0 : decide (a0 < 128) = true := decide_eq_true c5
    clear c5
    replace H := Option.bind_eq_some_iff.mp H
    obtain ⟨t112, A60, H⟩ := H
    replace H : (some (decide (t112 ≥ 0))) = some r := H
    have A6 := Aside0.mk A60
    clear A60
    obtain rfl := Option.some.inj H
    go_enter Tryd.func20, Tryd.ntmps20
    go_wp2_with (first|((with_reducible refine gate_callee (f := 25) rfl ?_);refine goesL_ (some 4) rfl rfl Tryd.func25 (by kernel_rfl) rfl #[.int .i64 a0] rfl (by (try simp only [List.map_toArray, List.map_cons, List.map_nil]);first|done|rfl|(simp only [List.length_drop, List.length_take];rfl)) ?_;(with_reducible refine (utf_Blank.calls a0 false _ A2.out).mono ?_);rintro e w' ⟨rfl, ⟨nd, rfl⟩⟩;refine ⟨_, rfl, ?_⟩)|(go_at_call 35;(with_reducible refine (strings_IndexByte.calls (⟨#[40, 41, 59, 34, 39, 96, 44]⟩ : ByteArray) ((a0) % 256) t112 _ A6.out).mono ?_);rintro e w' ⟨rfl, ⟨nd, rfl⟩⟩))
    go_ret
    exact ⟨by first|rfl|(simp;done)|(simp [*];done), by repeat (first|exact Drawn0.refl _|apply Drawn0.step)⟩
   ·rw [if_neg c5] at H
    have c5b0 : decide (a0 < 128) = false := decide_eq_false c5
    clear c5
    obtain rfl := Option.some.inj H
    go_enter Tryd.func20, Tryd.ntmps20
    go_wp2_with (first|((with_reducible refine gate_callee (f := 25) rfl ?_);refine goesL_ (some 4) rfl rfl Tryd.func25 (by kernel_rfl) rfl #[.int .i64 a0] rfl (by (try simp only [List.map_toArray, List.map_cons, List.map_nil]);first|done|rfl|(simp only [List.length_drop, List.length_take];rfl)) ?_;(with_reducible refine (utf_Blank.calls a0 false _ A2.out).mono ?_);rintro e w' ⟨rfl, ⟨nd, rfl⟩⟩;refine ⟨_, rfl, ?_⟩))
    go_ret
    exact ⟨by first|rfl|(simp;done)|(simp [*];done), by repeat (first|exact Drawn0.refl _|apply Drawn0.step)⟩
  ·rw [if_neg c4] at H
   have c4b0 : decide (0 < a0) = false := decide_eq_false c4
   clear c4
   obtain rfl := Option.some.inj H
   go_enter Tryd.func20, Tryd.ntmps20
   go_wp2_with (first|((with_reducible refine gate_callee (f := 25) rfl ?_);refine goesL_ (some 4) rfl rfl Tryd.func25 (by kernel_rfl) rfl #[.int .i64 a0] rfl (by (try simp only [List.map_toArray, List.map_cons, List.map_nil]);first|done|rfl|(simp only [List.length_drop, List.length_take];rfl)) ?_;(with_reducible refine (utf_Blank.calls a0 false _ A2.out).mono ?_);rintro e w' ⟨rfl, ⟨nd, rfl⟩⟩;refine ⟨_, rfl, ?_⟩))
   go_ret
   exact ⟨by first|rfl|(simp;done)|(simp [*];done), by repeat (first|exact Drawn0.refl _|apply Drawn0.step)⟩
end Go.Proofs.YtefefpkgiecikaaDoor.P
namespace Go.Proofs.YtefefpkgiecikaaDoor.P
open Go.RowKit Go.Proofs.YtefefpkgiecikaaDoorW.PrintWords Go.Proofs.YtefefpkgiecikaaDoorW.PrintLast Go.Proofs.YtefefpkgiecikaaDoorW.PrintMore
attribute [local go_sem] max2_int min2_int max_two min_two max_three min_three max_four min_four
set_option linter.unusedVariables false
set_option linter.unusedSimpArgs false
def slices_IndexFunc_int_int_utf_Ends.l0 : Nat → List Int → Int → Int → Option (Int)
 | 0, _, _, _ => none
 | k + 1, x0, x7, x8 => if x8 < x7 then (if 0 ≤ x8 then (if x8 < (x0.length : Int) then ((utf_Ends.f (rd x0 x8)).bind fun t156 => (if t156 = true then (some x8) else (slices_IndexFunc_int_int_utf_Ends.l0 k x0 x7 (wrap64 (x8 + 1))))) else (none)) else (none)) else (some (-1))
def slices_IndexFunc_int_int_utf_Ends.f (k : Nat) (l0 : List Int)  : Option (Int) := slices_IndexFunc_int_int_utf_Ends.l0 k l0 (l0.length : Int) 0
theorem slices_IndexFunc_int_int_utf_Ends.mono_l : ∀ k, (∀ y0 y1 y2, LeO (slices_IndexFunc_int_int_utf_Ends.l0 k y0 y1 y2) (slices_IndexFunc_int_int_utf_Ends.l0 (k + 1) y0 y1 y2))
 | 0 => fun _ _ _ r h => by simp [slices_IndexFunc_int_int_utf_Ends.l0] at h
 | k + 1 => by
  have ih0 := slices_IndexFunc_int_int_utf_Ends.mono_l k
  ·intro y0 y1 y2
   unfold slices_IndexFunc_int_int_utf_Ends.l0
   repeat' first
   | (with_reducible exact ih0 _ _ _)
   | (with_reducible exact LeO.refl _)
   | (with_reducible exact LeO.none _)
   | (with_reducible refine LeO.ite ?_ ?_)
   | (with_reducible refine LeO.bind ?_ (fun _ => ?_))
   | exact ih0 _ _ _
   | exact LeO.none _
   | refine LeO.ite ?_ ?_
   | refine LeO.bind ?_ (fun _ => ?_)
theorem slices_IndexFunc_int_int_utf_Ends.mono : ∀ a0 k, LeO (slices_IndexFunc_int_int_utf_Ends.f k a0) (slices_IndexFunc_int_int_utf_Ends.f (k + 1) a0) := by
 intro a0 k
 have ih0 := slices_IndexFunc_int_int_utf_Ends.mono_l k
 unfold slices_IndexFunc_int_int_utf_Ends.f
 repeat' first
   | (with_reducible exact ih0 _ _ _)
   | (with_reducible exact LeO.refl _)
   | (with_reducible exact LeO.none _)
   | (with_reducible refine LeO.ite ?_ ?_)
   | (with_reducible refine LeO.bind ?_ (fun _ => ?_))
   | exact ih0 _ _ _
   | exact LeO.none _
   | refine LeO.ite ?_ ?_
   | refine LeO.bind ?_ (fun _ => ?_)
set_option maxHeartbeats 8000000 in
set_option maxRecDepth 100000 in
theorem slices_IndexFunc_int_int_utf_Ends.calls (k : Nat) (A0 : Option Addr) (c0 : Nat) (l0 : List Int)  (r : Int) (w : World) (hr0 : Kd.C (Kd.int .i64) w A0 l0.length l0) (hc0 : l0.length ≤ c0) (h : slices_IndexFunc_int_int_utf_Ends.f k l0 = some r) :
  Calls Tryd.prog 9 #[.slice A0 l0.length c0, .func (.func 20) #[] #[]] w fun e w' => e = .returned (.int .i64 r) ∧ Drawn0 w w' := by
 have HR0 := Aside0.mk hr0
 have HC0 := Aside0.mk hc0
 clear hr0 hc0
 have H : (slices_IndexFunc_int_int_utf_Ends.l0 k l0 (l0.length : Int) 0) = some r := h
 clear h
 have H' := Aside0.mk H
 clear H
 go_enter Tryd.func9, Tryd.ntmps9
 go_wp2
 go_loopg [8] k (fun kq v8 w' => ∃ (x8_1 : Int), v8 = .int .i64 x8_1 ∧ Aside0 (slices_IndexFunc_int_int_utf_Ends.l0 kq l0 (l0.length : Int) x8_1 = some r) ∧ Aside0 (kq ≤ k) ∧ Drawn0 w w')
 case atStart => exact ⟨(0), (by first|rfl|(simp;done)|(simp [*];done)), H', ⟨Nat.le_refl _⟩, by repeat (first|exact Drawn0.refl _|apply Drawn0.step)⟩
 case round =>
  clear H'
  try clear p2
  obtain ⟨x8_1, rfl, HA, HK1, ⟨m1, rfl⟩⟩ := hrel
  cases gk with
  | zero => exact absurd HA.out (by simp [slices_IndexFunc_int_int_utf_Ends.l0])
  | succ k1 =>
   have H := HA.out
   clear HA
   simp only [slices_IndexFunc_int_int_utf_Ends.l0] at H
   by_cases c3 : x8_1 < (l0.length : Int)
   ·rw [if_pos c3] at H
    have c3b0 : decide (x8_1 < (l0.length : Int)) = true := decide_eq_true c3
    clear c3
    by_cases c4 : 0 ≤ x8_1
    ·rw [if_pos c4] at H
     have c4b0 : decide (0 ≤ x8_1) = true := decide_eq_true c4
     clear c4
     by_cases c5 : x8_1 < (l0.length : Int)
     ·rw [if_pos c5] at H
      have c5b0 : decide (x8_1 < (l0.length : Int)) = true := decide_eq_true c5
      clear c5
      replace H := Option.bind_eq_some_iff.mp H
      obtain ⟨t156, A60, H⟩ := H
      replace H : (if t156 = true then (some x8_1) else (slices_IndexFunc_int_int_utf_Ends.l0 k1 l0 (l0.length : Int) (wrap64 (x8_1 + 1)))) = some r := H
      have A6 := Aside0.mk A60
      clear A60
      by_cases c7 : t156 = true
      ·subst c7
       have H1 : (some x8_1) = some r := by rw [if_pos rfl] at H; exact H
       clear H
       have H := H1
       clear H1
       obtain rfl := Option.some.inj H
       have p155 : 0 ≤ (x8_1 : Int) := of_decide_eq_true (by first | (with_reducible assumption) | assumption)
       have q155 : x8_1 < (l0.length : Int) := of_decide_eq_true (by first | (with_reducible assumption) | assumption)
       obtain ⟨ad155, e155, hx155_0⟩ := Kd.at_int HR0.out x8_1 p155 q155
       cases e155
       replace p155 := eq_true p155
       replace q155 := eq_true q155
       go_wp2_with (first|(go_at_call 20;(with_reducible refine (utf_Ends.calls (rd l0 x8_1) true _ A6.out).mono ?_);rintro e w' ⟨rfl, ⟨nd, rfl⟩⟩))
       go_ret
       exact ⟨by first|rfl|(simp;done)|(simp [*];done), by repeat (first|exact Drawn0.refl _|apply Drawn0.step)⟩
      ·replace c7 := Bool.eq_false_iff.mpr c7
       subst c7
       have H1 : (slices_IndexFunc_int_int_utf_Ends.l0 k1 l0 (l0.length : Int) (wrap64 (x8_1 + 1))) = some r := by rw [if_neg (show ¬ (false = true) by decide)] at H; exact H
       clear H
       have H := H1
       clear H1
       have H' := Aside0.mk H
       clear H
       have p155 : 0 ≤ (x8_1 : Int) := of_decide_eq_true (by first | (with_reducible assumption) | assumption)
       have q155 : x8_1 < (l0.length : Int) := of_decide_eq_true (by first | (with_reducible assumption) | assumption)
       obtain ⟨ad155, e155, hx155_0⟩ := Kd.at_int HR0.out x8_1 p155 q155
       cases e155
       replace p155 := eq_true p155
       replace q155 := eq_true q155
       go_wp2_with (first|(go_at_call 20;(with_reducible refine (utf_Ends.calls (rd l0 x8_1) false _ A6.out).mono ?_);rintro e w' ⟨rfl, ⟨nd, rfl⟩⟩))
       go_roundg k1
       case measure => have := HK1.out; omega
       case rel => exact ⟨(wrap64 (x8_1 + 1)), (by first|rfl|(simp;done)|(simp [*];done)), H', ⟨by have := HK1.out;omega⟩, by repeat (first|exact Drawn0.refl _|apply Drawn0.step)⟩
     ·rw [if_neg c5] at H
      exact absurd H (by simp)
    ·rw [if_neg c4] at H
     exact absurd H (by simp)
   ·rw [if_neg c3] at H
    have c3b0 : decide (x8_1 < (l0.length : Int)) = false := decide_eq_false c3
    clear c3
    obtain rfl := Option.some.inj H
    go_wp2
    go_ret
    exact ⟨by first|rfl|(simp;done)|(simp [*];done), by repeat (first|exact Drawn0.refl _|apply Drawn0.step)⟩
end Go.Proofs.YtefefpkgiecikaaDoor.P
namespace Go.Proofs.YtefefpkgiecikaaDoor.P
open Go.RowKit Go.Proofs.YtefefpkgiecikaaDoorW.PrintWords Go.Proofs.YtefefpkgiecikaaDoorW.PrintLast Go.Proofs.YtefefpkgiecikaaDoorW.PrintMore
attribute [local go_sem] max2_int min2_int max_two min_two max_three min_three max_four min_four
set_option linter.unusedVariables false
set_option linter.unusedSimpArgs false
def slices_ContainsFunc_int_int_utf_Ends.f (k : Nat) (l0 : List Int)  : Option (Bool) := (slices_IndexFunc_int_int_utf_Ends.f k l0).bind fun t157 => (some (decide (t157 ≥ 0)))
theorem slices_ContainsFunc_int_int_utf_Ends.mono : ∀ a0 k, LeO (slices_ContainsFunc_int_int_utf_Ends.f k a0) (slices_ContainsFunc_int_int_utf_Ends.f (k + 1) a0) := by
 intro a0 k
 unfold slices_ContainsFunc_int_int_utf_Ends.f
 repeat' first
   | (with_reducible exact slices_IndexFunc_int_int_utf_Ends.mono _ _)
   | (with_reducible exact LeO.refl _)
   | (with_reducible exact LeO.none _)
   | (with_reducible refine LeO.ite ?_ ?_)
   | (with_reducible refine LeO.bind ?_ (fun _ => ?_))
   | exact slices_IndexFunc_int_int_utf_Ends.mono _ _
   | exact LeO.none _
   | refine LeO.ite ?_ ?_
   | refine LeO.bind ?_ (fun _ => ?_)
set_option maxHeartbeats 8000000 in
set_option maxRecDepth 100000 in
theorem slices_ContainsFunc_int_int_utf_Ends.calls (k : Nat) (A0 : Option Addr) (c0 : Nat) (l0 : List Int)  (r : Bool) (w : World) (hr0 : Kd.C (Kd.int .i64) w A0 l0.length l0) (hc0 : l0.length ≤ c0) (h : slices_ContainsFunc_int_int_utf_Ends.f k l0 = some r) :
  Calls Tryd.prog 19 #[.slice A0 l0.length c0, .func (.func 20) #[] #[]] w fun e w' => e = .returned (.bool r) ∧ Drawn0 w w' := by
 have HR0 := Aside0.mk hr0
 have HC0 := Aside0.mk hc0
 clear hr0 hc0
 have H : ((slices_IndexFunc_int_int_utf_Ends.f k l0).bind fun t157 => (some (decide (t157 ≥ 0)))) = some r := h
 clear h
 replace H := Option.bind_eq_some_iff.mp H
 obtain ⟨t157, A30, H⟩ := H
 replace H : (some (decide (t157 ≥ 0))) = some r := H
 have A3 := Aside0.mk A30
 clear A30
 obtain rfl := Option.some.inj H
 go_enter Tryd.func19, Tryd.ntmps19
 go_wp2_with (first|(go_at_call 9;(with_reducible refine (slices_IndexFunc_int_int_utf_Ends.calls k _ _ l0  t157 _ ?side1 ?side2 A3.out).mono ?_);(case side1 => repeat (first|exact HR0.out|(with_reducible refine Kd.C_alloc ?_ _)|(with_reducible refine Kd.C_drewN ?_ _)|(with_reducible refine Kd.C_drew ?_)));(case side2 => exact HC0.out);rintro e w' ⟨rfl, ⟨nd, rfl⟩⟩))
 go_ret
 exact ⟨by first|rfl|(simp;done)|(simp [*];done), by repeat (first|exact Drawn0.refl _|apply Drawn0.step)⟩
end Go.Proofs.YtefefpkgiecikaaDoor.P
