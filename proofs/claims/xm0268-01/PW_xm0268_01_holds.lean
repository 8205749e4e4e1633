import PyProof.Rows.All
import Wide.All
import OpenK.AllK
import Wide.FinOn
import Lean
import PySem.Challenge.RW_xm0268_01
open PySem PySem.W PyProof.Rows PySem.Calls
set_option Elab.async false
set_option maxRecDepth 100000
set_option maxHeartbeats 8000000
set_option linter.unusedVariables false
set_option linter.unusedSimpArgs false
set_option compiler.extract_closed false
namespace Mine
def hrow : RowW := OpenRow.toRowW (OpenLaw.row PySem.Challenge.rw_xm0268_01)
def hq : Program := view PySem.Challenge.pw_xm0268_01 [138]
def hloose : List Str := (PySem.Challenge.pw_xm0268_01.main.body.flatMap bindsAtTop).filter fun x => x != Str.ofString "law"
theorem and2 {a b : Bool} (h : a = true) (k : b = true) : (a && b) = true := by rw [h, k]; rfl
theorem said : OpenLaw.wellSaid PySem.Challenge.rw_xm0268_01 = true := (congrFun PySem.W.Fast.te9446332074065402090 _).trans (by
  repeat' (first | with_reducible refine and2 ?_ ?_ | delta PySem.W.Fast.tw9446332074065402090 | delta PySem.W.Fast.tw17960256430627541270 | delta PySem.W.Fast.tw2436336058641802641 | delta PySem.W.Fast.tw12908688711261696721 | decide +kernel))
end Mine
local macro_rules
  | `(tactic| o_law) => `(tactic| refine holds_law Mine.said fun said => ?_)
local macro_rules
  | `(tactic| o_head $H) => `(tactic| refine (fun h => holds_open (q := Mine.hq) (loose := Mine.hloose) (Xt := fun s => xlAt Mine.hq [] s && recOk (RowW.records Mine.hrow) s) (XP := XL Mine.hq []) (Yf := Hook.obs $H) (Ya := Hook.val $H) (YP := Hook.says $H) (N := 16336) (And.left h) (Hook.of $H) (Hook.keeps $H) (fun s e => xl_of s (Bool.and_eq_true_iff.mp e).1) XL.keeps (by rfl) (by rfl) (by rfl) (fun s e => recFacts_of (Bool.and_eq_true_iff.mp e).2) (by rfl) (by first | assumption | decide +kernel) (by decide +kernel) ⟨rfl, rfl, rfl, rfl, rfl, by decide +kernel⟩ ?hw (And.right h)) ?hc)
open_top hd for PySem.Challenge.rw_xm0268_01
section HB_
namespace Mine
noncomputable def goG (ok : Thread → Bool) (st : SharedT → Thread → Option (SharedT × Thread)) : Nat → SharedT → Thread → Option (SharedT × Thread)
  | 0, s, t => some (s, t)
  | n + 1, s, t => match through t with
    | true => none
    | false => match ok t with
      | false => none
      | true => match st s t with
        | some (s', t') => goG ok st n s' t'
        | none => none
noncomputable def endG (ok : Thread → Bool) (st : SharedT → Thread → Option (SharedT × Thread)) : Nat → SharedT → Thread → Option SharedT
  | 0, _, _ => none
  | n + 1, s, t => match through t with
    | true => some s
    | false => match ok t with
      | false => none
      | true => match st s t with
        | some (s', t') => endG ok st n s' t'
        | none => none
section
variable {tb : String → Option Builtin} {p : Program} {w : World} {n₀ : Nat} {ann : Option Value}
theorem goG_spec : ∀ {n : Nat} {s s' : SharedT} {t t' : Thread}, goG (stepOk n₀ ann) (stepT (denote tb) p w) n s t = some (s', t') → topGo tb p w n₀ ann n s.abs t = some (s'.abs, t')
  | 0, _, _, _, _, h => by cases h; rfl
  | n + 1, s, s', t, t', h => by
    unfold goG at h
    unfold topGo
    cases he : through t with
    | true => rw [he] at h; cases h
    | false =>
      rw [he] at h
      cases hk : stepOk n₀ ann t with
      | false => rw [hk] at h; cases h
      | true =>
        rw [hk] at h
        cases hs : stepT (denote tb) p w s t with
        | none => rw [hs] at h; cases h
        | some r => obtain ⟨s₂, t₂⟩ := r; rw [hs] at h; dsimp only; rw [stepT_spec hs]; exact goG_spec h
theorem endG_spec : ∀ {n : Nat} {s s' : SharedT} {t : Thread}, endG (stepOk n₀ ann) (stepT (denote tb) p w) n s t = some s' → topRun tb p w n₀ ann n s.abs t = some s'.abs
  | 0, _, _, _, h => by cases h
  | n + 1, s, s', t, h => by
    unfold endG at h
    unfold topRun
    cases he : through t with
    | true => rw [he] at h; cases h; rfl
    | false =>
      rw [he] at h
      cases hk : stepOk n₀ ann t with
      | false => rw [hk] at h; cases h
      | true =>
        rw [hk] at h
        cases hs : stepT (denote tb) p w s t with
        | none => rw [hs] at h; cases h
        | some r => obtain ⟨s₂, t₂⟩ := r; rw [hs] at h; dsimp only; rw [stepT_spec hs]; exact endG_spec h
end
noncomputable def bt : Nat → BT → List Obj → BT
  | _, t, [] => t
  | n, t, o :: r => bt (n + 1) (t.ins n o) r
noncomputable def s0 (w : World) (os : OsState) : SharedT := ⟨bt 0 .nil (boot_heap w.params).objs.toList, 11, (boot_heap w.params).life, Array.mk [], boot_drawn, boot_toks, os⟩
theorem s0_abs : ∀ (w : World) (os : OsState), (s0 w os).abs = ⟨boot_heap w.params, Array.mk [], boot_drawn, boot_toks, os⟩ := by
  intro w os; kernel_rfl!
theorem boot_size : ∀ w : World, ((boot_heap w.params).isNs mainGlobals && (Array.mk [] : Array GenState).size == 0, (boot_heap w.params).objs.size, (boot_heap w.params).nsMap mainGlobals "__annotations__") = (true, 11, some (Value.ref 6)) := by
  intro w; kernel_rfl!

theorem leftO_of {p q : Program} {loose : List Str} {Xt : Shared → Bool} {α : Type} {Yf : Shared → α} {Ya : World → α} {N k M : Nat} {g0 : Bool} (X : World → OsState → SharedT × Thread)
    (open_ : ∀ w : World, (fencedOpening treeTable p w N).map (fun s => (s.heap, s.gens, s.drawn, s.toks)) = some (boot_heap w.params, Array.mk [], boot_drawn, boot_toks))
    (A : ∀ w os, goG (stepOk 11 (some (Value.ref 6))) (stepT (denote treeTable) p w) k (s0 w os) (topStub p) = some (X w os))
    (B : ∀ w os, (endG (stepOk 11 (some (Value.ref 6))) (stepT (denote treeTable) p w) M (X w os).1 (X w os).2).map (fun s => (staticsOk (importedModules p.main.body) (boot_heap w.params) s.abs.heap && namesBound p s.abs.heap && gensDone s.abs && laidKept (boot_heap w.params) s.abs.heap,
        openSeen q loose (importedModules p.main.body) Xt g0 s.abs, Yf s.abs)) = some (true, openGood q loose, Ya w))
    (le : Nat.ble (k + M) N = true) : LeftO p q loose Xt Yf Ya N g0 := fun w => by
  obtain ⟨⟨h, gs, d, kk, os⟩, e, e'⟩ := Option.map_eq_some_iff.mp (open_ w)
  obtain ⟨rfl, rfl, rfl, rfl⟩ : h = boot_heap w.params ∧ gs = Array.mk [] ∧ d = boot_drawn ∧ kk = boot_toks := by simpa using e'
  obtain ⟨z1, z2, z3⟩ : _ ∧ _ ∧ _ := by simpa only [Prod.mk.injEq] using boot_size w
  obtain ⟨s1, b1, b2⟩ := Option.map_eq_some_iff.mp (B w os)
  obtain ⟨l1, l2, l3⟩ : _ ∧ _ ∧ _ := by simpa only [Prod.mk.injEq] using b2
  have r := go_top (goG_spec (A w os)) (endG_spec b1)
  rw [s0_abs] at r
  have r := topRun_mono (N - (k + M)) _ _ _ _ r
  rw [show k + M + (N - (k + M)) = N by have := Nat.le_of_ble_eq_true le; lia] at r
  have t : topFrom treeTable p w N ⟨boot_heap w.params, Array.mk [], boot_drawn, boot_toks, os⟩ = some s1.abs := by
    unfold topFrom
    dsimp only
    rw [z1, z2, z3, r]
    show (match staticsOk (importedModules p.main.body) (boot_heap w.params) s1.abs.heap && namesBound p s1.abs.heap && gensDone s1.abs && laidKept (boot_heap w.params) s1.abs.heap with | true => _ | false => _) = _
    rw [l1]
  unfold openEnds
  rw [e]
  show (topFrom treeTable p w N _).map _ = _
  rw [t]
  exact congrArg some (Prod.ext l2 l3)
abbrev pr : Program := PySem.Challenge.pw_xm0268_01
theorem open0 : ∀ w : World, (fencedOpening treeTable pr w 16336).map (fun s => (s.heap, s.gens, s.drawn, s.toks)) = some (boot_heap w.params, Array.mk [], boot_drawn, boot_toks) :=
  boot_open (p := pr) (by kernel_rfl!) (by decide) (fun s => by kernel_rfl!)
noncomputable abbrev okQ := PySem.W.Fast.tw6613529449190102663 11 (some (Value.ref 6))
noncomputable abbrev stQ (w : World) := PySem.W.Fast.tw10156331382660048174 (PySem.W.Fast.tw11892475500146522536 PySem.W.Fast.tw14364793385576792824) pr w
theorem okQ_eq : stepOk 11 (some (Value.ref 6)) = okQ := congrFun (congrFun PySem.W.Fast.te6613529449190102663 _) _
theorem stQ_eq (w : World) : stepT (denote treeTable) pr w = stQ w := by
  show _ = PySem.W.Fast.tw10156331382660048174 _ _ _
  rw [← PySem.W.Fast.te10156331382660048174, ← PySem.W.Fast.te11892475500146522536, ← PySem.W.Fast.te14364793385576792824]
noncomputable def x0 (w : World) (os : OsState) : SharedT × Thread := (goG okQ (stQ (w.withFollow "special-get-raises" false)) 445 (s0 (w.withFollow "special-get-raises" false) os) (topStub pr)).getD (s0 w os, topStub pr)
theorem A0 : ∀ (w : World) (os : OsState), goG (stepOk 11 (some (Value.ref 6))) (stepT (denote treeTable) pr w) 445 (s0 w os) (topStub pr) = some (x0 w os) := by
  refine fun w => byRow2 "special-get-raises" (P := fun w => ∀ (os : OsState), goG (stepOk 11 (some (Value.ref 6))) (stepT (denote treeTable) pr w) 445 (s0 w os) (topStub pr) = some (x0 w os)) (fun w os => ?_) (fun w os => ?_) w
  · rw [okQ_eq, stQ_eq]; kernel_rfl!
  · rw [okQ_eq, stQ_eq]; kernel_rfl!
theorem seen_eq : @openSeen = @PySem.W.Fast.tw4187177175401517315 := PySem.W.Fast.te4187177175401517315
noncomputable def ys (w : World) (os : OsState) : Option SharedT := endG okQ (stQ w) 9000 (x0 w os).1 (x0 w os).2
noncomputable def getT (s : SharedT) (a : Nat) : Option Obj := match Nat.blt a s.n with | true => alive ((s.tree.get a).getD default) | false => none
theorem getT_eq (s : SharedT) : s.abs.heap.get? = getT s := by
  funext a
  show (absHeap s.tree s.n s.life).get? a = _
  unfold Heap.get? getT
  rw [absHeap_at]
  by_cases h : a < s.n
  · rw [if_pos h, show Nat.blt a s.n = true from Nat.ble_eq_true_of_le h]
    show (match some ((s.tree.get a).getD default) with | some ⟨_, _, .freed, _⟩ => none | o => o) = alive _
    generalize (s.tree.get a).getD default = o
    obtain ⟨c, d, dt, sl⟩ := o
    cases dt <;> rfl
  · rw [if_neg h]
    have : Nat.blt a s.n = false := by
      cases e : Nat.blt a s.n with
      | false => rfl
      | true => exact absurd (Nat.le_of_ble_eq_true e) h
    rw [this]
theorem imp_eq : @importedModules = @PySem.W.Fast.tw5923862056798008813 := PySem.W.Fast.te5923862056798008813
noncomputable def look (w : World) (s : SharedT) := (staticsOk (PySem.W.Fast.tw5923862056798008813 pr.main.body) (boot_heap w.params) s.abs.heap && namesBound pr s.abs.heap && gensDone s.abs && laidKept (boot_heap w.params) s.abs.heap,
  PySem.W.Fast.tw4187177175401517315 hq hloose (PySem.W.Fast.tw5923862056798008813 pr.main.body) (fun s => xlAt hq [] s && recOk (RowW.records hrow) s) true s.abs, ((hd.heap_1 w.params).map (·.1)).map (getT s))
theorem B0 : ∀ (w : World) (os : OsState), (ys w os).map (look w) = some (true, openGood hq hloose, (hd.heap_1 w.params).map fun p => some p.2) := by
  intro w os; kernel_rfl!
theorem leftO (as : List Addr) (e : ∀ P, as = (hd.heap_1 P).map (·.1)) :
    LeftO pr hq hloose (fun s => xlAt hq [] s && recOk (RowW.records hrow) s) (kHook hd.heap_1 as e).obs (kHook hd.heap_1 as e).val 16336 := by
  refine leftO_of (M := 9000) x0 open0 A0 (fun w os => ?_) (by decide)
  have h := B0 w os
  unfold ys look at h
  rw [← okQ_eq, ← stQ_eq, ← imp_eq, ← seen_eq] at h
  obtain ⟨s, h1, h2⟩ := Option.map_eq_some_iff.mp h
  rw [h1]
  obtain ⟨l1, l2, l3⟩ : _ ∧ _ ∧ _ := by simpa only [Prod.mk.injEq] using h2
  refine congrArg some (Prod.ext l1 (Prod.ext l2 ?_))
  show as.map s.abs.heap.get? = (hd.heap_1 w.params).map fun p => some p.2
  rw [e w.params, getT_eq]
  exact l3
end Mine
end HB_
theorem Mine.fill_once : (∀ w : World, PySem.Challenge.rw_xm0268_01 = PySem.Challenge.rw_xm0268_01 ∧ hd.heap_1 w.params = hd.heap_1 w.params) := by
  k_fill
  intro w; exact ⟨rfl, rfl⟩
local macro_rules | `(‹0›) => `(by k_extra "IN")
local macro_rules | `(‹1›) => `(by k_extra "AT")
local macro_rules | `(‹3›) => `(by k_extra "ATOS")
local macro_rules | `(‹4›) => `(by k_extra "INS")
local macro_rules | `(‹5›) => `(by k_extra "STA")
local macro_rules | `(‹6›) => `(by k_extra "PUT")
set_option hygiene false in
local macro_rules | `(‹8›) => `(Ok.le (by assumption) (by decide))
set_option hygiene false in
local macro_rules | `(tactic| k_extra "DEC") => `(tactic| (first | rfl | assumption | (simp only [decide_eq_true_eq, decide_eq_false_iff_not, Bool.not_eq_true', Bool.not_eq_false', bne_iff_ne, beq_iff_eq, bne_eq_false_iff_eq, beq_eq_false_iff_ne, ne_eq, not_true_eq_false, not_false_eq_true, decide_not, Bool.not_not] at *; first | (first | all_goals fail | fail) | lia | assumption)))
set_option hygiene false in
local macro_rules | `(tactic| k_extra "IN") => `(tactic| ((repeat (first | with_reducible exact List.mem_cons_self | with_reducible assumption | with_reducible refine List.mem_cons_of_mem _ ?_)); first | all_goals fail | fail))
set_option hygiene false in
local macro_rules | `(tactic| k_extra "INS") => `(tactic| ((repeat (first | with_reducible apply List.mem_cons_self | with_reducible apply List.mem_cons_of_mem)); first | all_goals fail | fail))
set_option hygiene false in
local macro_rules | `(tactic| k_extra "PUT") => `(tactic| ((repeat (first | with_reducible apply Put.here | with_reducible apply Put.there)); first | all_goals fail | fail))
set_option hygiene false in
local macro_rules | `(tactic| k_extra "AT") => `(tactic| ((repeat (first | with_reducible apply At.here | with_reducible apply At.there)); first | all_goals fail | fail))
set_option hygiene false in
local macro_rules | `(tactic| k_extra "STA") => `(tactic| (first | with_reducible exact Hs.sta ‹_› | with_reducible exact Rep.sta ‹_›))
set_option hygiene false in
local macro_rules | `(tactic| clear gl $gs*) => `(tactic| with_reducible first $[| exact $gs _]*)
set_option hygiene false in
local macro_rules | `(tactic| clear pg $gs*) => `(tactic| with_reducible first $[| exact pgn ($gs _)]*)
set_option hygiene false in
local macro_rules | `(tactic| clear ato $gs*) => `(tactic| (first | with_reducible apply Ato.int | (with_reducible apply Ato.loc; focus (k_extra "AT")) | (with_reducible apply Ato.glo; focus (k_extra "INS"); focus (clear gl $gs*)) | with_reducible apply Ato.str | with_reducible apply Ato.none | with_reducible apply Ato.bool))
set_option hygiene false in
local macro_rules | `(tactic| clear atos $gs*) => `(tactic| ((repeat (first | with_reducible apply Atos.nil | (with_reducible apply Atos.cons; focus (clear ato $gs*)))); first | all_goals fail | fail))
set_option hygiene false in
local macro_rules | `(tactic| k_extra "ATO") => `(tactic| clear ato)
set_option hygiene false in
local macro_rules | `(tactic| k_extra "ATOS") => `(tactic| clear atos)
set_option hygiene false in
local macro_rules | `(tactic| clear r0) => `(tactic| (with_reducible refine e_loc ‹_› ‹_› ‹1› ?_))
set_option hygiene false in
local macro_rules | `(tactic| clear r1 $gs*) => `(tactic| (with_reducible refine e_glo ‹_› ‹_› ‹_› ‹_› ‹4› (by clear gl $gs*) ?_))
set_option hygiene false in
local macro_rules | `(tactic| clear r107 $gs*) => `(tactic| (with_reducible refine cb ‹_› ‹_› (by clear ato $gs*) (by clear atos $gs*) ?_))
set_option hygiene false in
local macro_rules | `(tactic| clear r109 $gs*) => `(tactic| ((with_reducible refine c_fun ‹_› (by clear gl $gs*) ?_ ?he ?hp); (case he => exact rfl); (case hp => exact rfl); skip))
set_option hygiene false in
local macro_rules | `(tactic| clear r11 $gs*) => `(tactic| (with_reducible refine su2 ‹_› ‹_› (by clear ato $gs*) (by clear ato $gs*) ?_))
set_option hygiene false in
local macro_rules | `(tactic| clear r122) => `(tactic| ((with_reducible refine newTuple_H ‹_› ‹_› ‹_› ?hz ?_); (case hz => exact Nat.le_of_ble_eq_true rfl); intro l' n' h' F' N' H'))
set_option hygiene false in
local macro_rules | `(tactic| clear r124) => `(tactic| ((with_reducible refine st_loc ‹_› ‹_› ‹_› ‹6› ?_); intro h' F' N'))
set_option hygiene false in
local macro_rules | `(tactic| clear r125) => `(tactic| (with_reducible refine spliced_none ?_))
set_option hygiene false in
local macro_rules | `(tactic| clear r126 $gs*) => `(tactic| (with_reducible refine sp1 ‹_› ‹_› (by clear ato $gs*) ?_))
set_option hygiene false in
local macro_rules | `(tactic| clear r127) => `(tactic| ((with_reducible refine spliced_more ?_ ?he); (case he => exact rfl); skip))
set_option hygiene false in
local macro_rules | `(tactic| clear r128) => `(tactic| (with_reducible refine and_in ‹_› ‹_› ?_))
set_option hygiene false in
local macro_rules | `(tactic| clear r129) => `(tactic| (with_reducible refine wpAny_truthy_bool ?_))
set_option hygiene false in
local macro_rules | `(tactic| clear r132) => `(tactic| ((with_reducible refine Br.f ?hc ?_); (case hc => (k_extra "DEC"))))
set_option hygiene false in
local macro_rules | `(tactic| clear r133) => `(tactic| ((with_reducible refine Br.t ?hc ?_); (case hc => (k_extra "DEC"))))
set_option hygiene false in
local macro_rules | `(tactic| clear r134) => `(tactic| ((with_reducible refine Ret.val ‹_› ‹_› ?_); intro kF kN))
set_option hygiene false in
local macro_rules | `(tactic| clear r14 $gs*) => `(tactic| (with_reducible refine ae ‹_› ‹_› (by clear ato $gs*) ?_))
set_option hygiene false in
local macro_rules | `(tactic| clear r16 $gs*) => `(tactic| (with_reducible refine bi2 ‹_› ‹_› (by clear ato $gs*) (by clear ato $gs*) ?_))
set_option hygiene false in
local macro_rules | `(tactic| clear r194) => `(tactic| ((with_reducible show wpAny _ _ (execs (Stmt.For _ _ _ _ _ :: _) _) _ _ _); (with_reducible refine x_for ‹_› ‹_› ?hx ?_ ?hs); (case hx => walk_at "INS"); (case hs => intro x; exact rfl)))
set_option hygiene false in
local macro_rules | `(tactic| clear r2 $gs*) => `(tactic| (with_reducible refine e_blt ‹_› ‹_› ‹_› ‹_› ‹4› (by clear gl $gs*) (by with_reducible first | exact b_len | exact b_range | exact b_chr | exact b_ord | exact b_min | exact b_max) ?_))
set_option hygiene false in
local macro_rules | `(tactic| clear r21) => `(tactic| ((with_reducible refine wpAny_Compare1 ?_ ?hm); (case hm => with_unfolding_all exact rfl); skip))
set_option hygiene false in
local macro_rules | `(tactic| clear r246) => `(tactic| ((with_reducible refine texts_itemH ‹_› ‹_› ?h0 (by with_unfolding_all assumption) ?hz ?_ ?hs); (case h0 => (first | assumption | lia | (dsimp only; lia))); (case hz => (first | assumption | lia | (dsimp only; lia))); (case hs => with_unfolding_all exact rfl); intro H'))
set_option hygiene false in
local macro_rules | `(tactic| clear r251) => `(tactic| ((with_reducible refine law_long ‹8› ‹_› ‹_› ‹_› ‹0› ?za ?_); (case za => (first | assumption | lia | (dsimp only; lia))); ((try clear H'); (try clear F' N'); intro t' n' h' tk' F' N' H')))
set_option hygiene false in
local macro_rules | `(tactic| clear r252) => `(tactic| ((with_reducible refine law_letter ‹8› ‹_› ‹_› ‹_› ‹0› ?za ?h0 ?h1 ?_); (case za => (first | assumption | lia | (dsimp only; lia))); (case h0 => (first | assumption | lia | (dsimp only; lia))); (case h1 => (first | assumption | lia | (dsimp only; lia))); ((try clear H'); (try clear F' N'); intro t' n' h' tk' F' N' H')))
set_option hygiene false in
local macro_rules | `(tactic| clear r255) => `(tactic| ((with_reducible refine joinS ‹8› ‹_› ‹_› ‹_› ‹0› ‹0› ?hz ?za ?zb ?_); (case hz => (first | assumption | lia | (dsimp only; lia))); (case za => (first | assumption | lia | (dsimp only; lia))); (case zb => (first | assumption | lia | (dsimp only; lia))); ((try clear H'); (try clear F' N'); intro r' k' s' n' h' tk' es' ls' F' N' H')))
set_option hygiene false in
local macro_rules | `(tactic| clear r259) => `(tactic| ((with_reducible refine partS ‹8› ‹_› ‹_› ‹_› ‹0› ?za ?hz ?h0 ?h1 ?h2 ?_); (case za => (first | assumption | lia | (dsimp only; lia))); (case hz => (first | assumption | lia | (dsimp only; lia))); (case h0 => (first | assumption | lia | (dsimp only; lia))); (case h1 => (first | assumption | lia | (dsimp only; lia))); (case h2 => (first | assumption | lia | (dsimp only; lia))); ((try clear H'); (try clear F' N'); intro r' k' s' n' h' tk' es' ls' F' N' H')))
set_option hygiene false in
local macro_rules | `(tactic| clear r260) => `(tactic| ((with_reducible refine oneS ‹8› ‹_› ‹_› ‹_› ‹0› ‹0› ?za ?_ ?_); (case za => (first | assumption | lia | (dsimp only; lia))); rotate_left; ((try clear H'); (try clear F' N'); intro n' h' tk' F' N' H')))
set_option hygiene false in
local macro_rules | `(tactic| clear r271) => `(tactic| ((with_reducible refine newTuple_H ‹_› ‹_› ‹_› ?hz ?_); (case hz => exact Nat.le_of_ble_eq_true rfl); ((try clear H'); (try clear F' N'); intro l' n' h' F' N' H')))
set_option hygiene false in
local macro_rules | `(tactic| clear r272) => `(tactic| ((with_reducible refine newList_H ‹_› ‹_› ‹_› ?hz ?_); (case hz => exact Nat.le_of_ble_eq_true rfl); ((try clear H'); (try clear F' N'); intro l' n' h' F' N' H')))
set_option hygiene false in
local macro_rules | `(tactic| clear r273) => `(tactic| ((with_reducible refine st_loc ‹_› ‹_› ‹_› ‹6› ?_); ((try clear F' N'); intro h' F' N')))
set_option hygiene false in
local macro_rules | `(tactic| clear r28 $gs*) => `(tactic| (with_reducible refine li ‹_› ‹_› (by clear atos $gs*) ?_))
set_option hygiene false in
local macro_rules | `(tactic| clear r3) => `(tactic| (with_reducible refine e_int ?_))
set_option hygiene false in
local macro_rules | `(tactic| clear r31) => `(tactic| (with_reducible refine x_ret ?_))
set_option hygiene false in
local macro_rules | `(tactic| clear r32) => `(tactic| (with_reducible refine x_if ?_))
set_option hygiene false in
local macro_rules | `(tactic| clear r33) => `(tactic| ((with_reducible refine x_asg ?_ ?hs); (case hs => exact rfl); skip))
set_option hygiene false in
local macro_rules | `(tactic| clear r341) => `(tactic| ((with_reducible refine newTuple_Hg ‹_› ‹_› ‹_› ?hz ?_); (case hz => exact Nat.le_of_ble_eq_true rfl); ((try clear H'); (try clear F' N'); intro l' n' h' tk' Φ' F' N' H' sb' mt')))
set_option hygiene false in
local macro_rules | `(tactic| clear r349 $gs*) => `(tactic| ((with_reducible refine set_S ‹_› ‹_› ‹_› ‹_› ‹_› ?hb (by clear gl $gs*) (by clear gl $gs*) (by clear gl $gs*) (by clear gl $gs*) ?_); (case hb => exact Nat.le_of_ble_eq_true rfl); (try clear Fl'); (try clear D'); (try clear F' N'); intro es' n' h' F' N' D' Fl'))
set_option hygiene false in
local macro_rules | `(tactic| clear r35) => `(tactic| ((with_reducible refine x_attr ?_ ?hs); (case hs => exact rfl); skip))
set_option hygiene false in
local macro_rules | `(tactic| clear r350) => `(tactic| ((with_reducible refine dict_S ‹_› ‹_› ‹_› (Top.nolimit ‹_›) ?_); (try clear D'); (try clear F' N'); intro d' o' h' F' N' D' lo' ds' di'))
set_option hygiene false in
local macro_rules | `(tactic| clear r41 $gs*) => `(tactic| (with_reducible refine ct2 ‹_› ‹_› (by clear ato $gs*) (by clear ato $gs*) ?_))
set_option hygiene false in
local macro_rules | `(tactic| clear r42 $gs*) => `(tactic| ((with_reducible refine ct1 ‹_› ‹_› (by clear ato $gs*) ?_ ?hm); (case hm => with_unfolding_all exact rfl); skip))
set_option hygiene false in
local macro_rules | `(tactic| clear r43) => `(tactic| ((with_reducible refine wpAny_isTrue_Compare1 ?_ ?hm); (case hm => with_unfolding_all exact rfl); skip))
set_option hygiene false in
local macro_rules | `(tactic| clear r48) => `(tactic| (with_reducible refine t_or ?_))
set_option hygiene false in
local macro_rules | `(tactic| clear r7 $gs*) => `(tactic| (with_reducible refine ca ‹_› ‹_› (by clear atos $gs*) ‹4› (by clear gl $gs*) (by clear gl $gs*) ?_))
set_option hygiene false in
local macro_rules | `(tactic| clear r8) => `(tactic| ((with_reducible refine Call_ ?_ ?he); (case he => exact rfl); skip))
set_option hygiene false in
local macro_rules | `(tactic| clear r87) => `(tactic| ((with_reducible refine tv_1 ‹_› ‹_› ‹0› ?_ ?hs); (case hs => with_unfolding_all exact rfl); intro t'))
set_option hygiene false in
local macro_rules | `(tactic| clear r9 $gs*) => `(tactic| ((with_reducible refine me ‹_› ‹_› (by clear ato $gs*) ?_ ?h1 ?h2); (case h1 => exact rfl); (case h2 => exact rfl); skip))
set_option hygiene false in
local macro_rules | `(tactic| clear r91) => `(tactic| ((with_reducible refine ls_0 ‹_› ‹_› ‹0› ?_ ?hs); (case hs => with_unfolding_all exact rfl); skip))
set_option hygiene false in
local macro_rules | `(tactic| clear r92) => `(tactic| ((with_reducible refine ls_1 ‹_› ‹_› ‹0› ?_ ?hs); (case hs => with_unfolding_all exact rfl); skip))
set_option hygiene false in
local macro_rules | `(tactic| clear r95) => `(tactic| ((with_reducible refine tu_1 ‹_› ‹_› ‹0› ?_ ?hs); (case hs => with_unfolding_all exact rfl); skip))
set_option hygiene false in
local macro_rules | `(tactic| clear r98) => `(tactic| ((with_reducible refine text_at ‹8› ‹_› ‹_› ‹_› ‹0› ?_); intro t' h' tk' F' N'))
set_option hygiene false in
local macro_rules | `(tactic| clear s0 $f) => `(tactic| ((with_reducible refine $f ?_ ?hs); (case hs => exact rfl); skip))
set_option hygiene false in
local macro_rules | `(tactic| clear s1 $f) => `(tactic| ((with_reducible refine' $f ?_ ?he); (case he => exact rfl); skip))
set_option hygiene false in
local macro_rules | `(tactic| clear s2 $f) => `(tactic| ((with_reducible refine $f ?_ ?he); (case he => with_unfolding_all exact rfl); skip))
set_option hygiene false in
local macro_rules | `(tactic| clear s3 $f $gs*) => `(tactic| (with_reducible refine $f ‹_› ‹_› (by clear ato $gs*) ?_))
set_option hygiene false in
local macro_rules | `(tactic| clear s4 $f) => `(tactic| (with_reducible refine $f ‹_› ‹_› ‹_› ‹5› ?_))
set_option hygiene false in
local macro_rules | `(tactic| clear s5 $f) => `(tactic| (with_reducible refine $f ‹_› ‹_› ‹_› ‹_› ?_))
set_option hygiene false in
local macro_rules | `(tactic| clear s6 $f) => `(tactic| (with_reducible refine $f ‹_› ‹_› ?_))
set_option hygiene false in
local macro_rules | `(tactic| clear s7 $f $gs*) => `(tactic| (with_reducible refine $f ‹_› ‹_› (by clear ato $gs*) (by clear atos $gs*) ?_))
set_option hygiene false in
local macro_rules | `(tactic| clear s8 $f) => `(tactic| (with_reducible refine $f ‹_› ‹_› ‹_› ?_))
set_option hygiene false in
local macro_rules | `(tactic| clear s9 $f) => `(tactic| (with_reducible refine $f ?_))
set_option hygiene false in
local macro_rules | `(tactic| clear s10 $f $gs*) => `(tactic| (with_reducible refine $f ‹_› ‹_› (by clear ato $gs*) (by clear ato $gs*) ?_))
set_option hygiene false in
local macro_rules | `(tactic| clear s11 $f) => `(tactic| ((with_reducible refine $f ‹_› ‹_› ‹_› ‹_› ?hv ?_); (case hv => exact rfl); skip))
set_option hygiene false in
local macro_rules | `(tactic| clear s12 $f) => `(tactic| ((with_reducible refine $f ‹_› ‹_› ?_); intro kF kN))
set_option hygiene false in
local macro_rules | `(tactic| clear s13 $f) => `(tactic| ((with_reducible refine $f ‹8› ‹_› ‹_› ‹_› ‹0› ?_); intro t' h' tk' F' N'))
set_option hygiene false in
local macro_rules | `(tactic| clear s14 $f $gs*) => `(tactic| ((with_reducible refine $f ‹_› (by clear gl $gs*) ?_ ?he ?hp); (case he => exact rfl); (case hp => exact rfl); skip))
set_option hygiene false in
local macro_rules | `(tactic| clear s15 $f) => `(tactic| ((with_reducible refine $f ‹_› ‹_› ‹_› ?hz ?_); (case hz => exact Nat.le_of_ble_eq_true rfl); intro l' n' h' F' N' H'))
set_option hygiene false in
local macro_rules | `(tactic| clear s16 $f $gs*) => `(tactic| ((with_reducible refine $f ‹_› ‹_› ‹_› ‹_› ‹_› ‹_› ?hb (by clear gl $gs*) (by clear gl $gs*) (by clear gl $gs*) (by clear gl $gs*) ?_); (case hb => exact Nat.le_of_ble_eq_true rfl); intro es' n' h' F' N' Fl'))
set_option hygiene false in
local macro_rules | `(tactic| clear s17 $f) => `(tactic| ((with_reducible refine $f ‹_› ‹_› ‹_› ‹_› ?_); intro t'))
set_option hygiene false in
local macro_rules | `(tactic| clear s18 $f) => `(tactic| ((with_reducible refine $f ‹_› ‹_› ‹_› ‹_› ?_); intro n' h' F' N' R' K'))
set_option hygiene false in
local macro_rules | `(tactic| clear s19 $f) => `(tactic| ((with_reducible refine $f ?_ ?hi ?hs); (case hi => exact rfl); (case hs => exact rfl); skip))
set_option hygiene false in
local macro_rules | `(tactic| clear s20 $f) => `(tactic| ((with_reducible refine $f ‹_› ‹_› ‹_› ?hz ?_); (case hz => (first | assumption | lia)); intro n' h' F' N' R' K'))
set_option hygiene false in
local macro_rules | `(tactic| clear s21 $f $gs*) => `(tactic| ((with_reducible refine $f ‹_› ‹_› ‹_› ‹_› (by first | (k_extra "IN") | ((refine put1_mem ?_ (by with_unfolding_all rfl)); (k_extra "IN"))) (by clear pg $gs*) (by clear gl $gs*) (by clear gl $gs*) ?hv ?_); (case hv => exact rfl); skip))
set_option hygiene false in
local macro_rules | `(tactic| clear s22 $f $gs*) => `(tactic| (with_reducible refine $f ‹_› ‹_› (by clear atos $gs*) (by clear gl $gs*) ?_))
set_option hygiene false in
local macro_rules | `(tactic| clear s23 $f) => `(tactic| ((with_reducible refine $f ?_ ?he ?hp); (case he => exact rfl); (case hp => exact rfl); skip))
set_option hygiene false in
local macro_rules | `(tactic| clear s24 $f) => `(tactic| ((with_reducible refine $f ‹8› ‹_› ‹_› ‹_› ?hz ?_); (case hz => (first | assumption | lia)); intro l' n' n2' h' tk' F' N' K' H'))
set_option hygiene false in
local macro_rules | `(tactic| clear s25 $f) => `(tactic| ((with_reducible refine $f ‹8› ‹_› ‹_› ‹_› ?hz ?_); (case hz => (first | assumption | lia)); intro t' n' h' tk' F' N' H'))
set_option hygiene false in
local macro_rules | `(tactic| clear s26 $f) => `(tactic| ((with_reducible refine $f ‹_› ‹_› ‹0› ?_ ?hs); (case hs => with_unfolding_all exact rfl); skip))
set_option hygiene false in
local macro_rules | `(tactic| clear s27 $f) => `(tactic| ((with_reducible refine $f ‹8› ‹_› ‹_› ‹_› ‹0› ?_); intro h' tk' F' N'))
set_option hygiene false in
local macro_rules | `(tactic| clear s28 $f) => `(tactic| ((with_reducible refine $f ?hz ?_); (case hz => (first | assumption | lia)); skip))
set_option hygiene false in
local macro_rules | `(tactic| clear s29 $f) => `(tactic| ((with_reducible refine $f ‹8› ‹_› ‹_› ‹_› ?_); intro l' t1' t2' n' h' tk' F' N' H'))
set_option hygiene false in
local macro_rules | `(tactic| clear s30 $f) => `(tactic| ((with_reducible refine $f ‹_› ‹5› ?_ ?hs); (case hs => with_unfolding_all exact rfl); skip))
set_option hygiene false in
local macro_rules | `(tactic| clear s31 $f) => `(tactic| ((with_reducible refine $f ‹8› ‹_› ‹_› ‹_› ‹0› ‹0› ?za ?_); (case za => (first | assumption | lia)); intro t' n' h' tk' F' N' H'))
set_option hygiene false in
local macro_rules | `(tactic| clear s32 $f) => `(tactic| ((with_reducible refine $f ‹8› ‹_› ‹_› ‹_› ‹0› ‹0› ‹0› ?_); intro t' n' h' tk' F' N' H'))
set_option hygiene false in
local macro_rules | `(tactic| clear s33 $f) => `(tactic| ((with_reducible refine $f ‹8› ‹_› ‹_› ‹_› ‹0› ‹0› ?_); intro t' n' h' tk' F' N' H'))
set_option hygiene false in
local macro_rules | `(tactic| clear s34 $f) => `(tactic| ((with_reducible refine $f ‹8› ‹_› ‹_› ‹_› ‹0› ?za ?_); (case za => (first | assumption | lia)); intro t' n' h' tk' F' N' H'))
set_option hygiene false in
local macro_rules | `(tactic| clear s35 $f) => `(tactic| ((with_reducible refine $f ‹8› ‹_› ‹_› ‹_› ‹0› ?za ?_); (case za => (first | assumption | lia | (dsimp only; lia))); intro t' n' h' tk' F' N' H'))
set_option hygiene false in
local macro_rules | `(tactic| clear s36 $f) => `(tactic| ((with_reducible refine $f ‹_› ‹_› ‹_› ‹0› ?hz ?_); (case hz => (first | assumption | lia | (dsimp only; lia))); intro n' h' F' N' H'))
set_option hygiene false in
local macro_rules | `(tactic| clear s37 $f) => `(tactic| ((with_reducible refine $f ‹8› ‹_› ‹_› ‹_› ‹0› ?za ?_); (case za => (first | assumption | lia | (dsimp only; lia))); ((try clear H'); (try clear F' N'); intro t' n' h' tk' F' N' H')))
set_option hygiene false in
local macro_rules | `(tactic| clear s38 $f) => `(tactic| ((with_reducible refine $f ‹_› ‹_› ‹_› ?_); ((try clear H'); (try clear F' N'); intro rr' t1' t2' t3' n' h' tk' F' N' H')))
set_option hygiene false in
local macro_rules | `(tactic| clear s39 $f) => `(tactic| ((with_reducible refine $f ‹8› ‹_› ‹_› ‹_› ‹0› ‹0› ?hz ?za ?zb ?_); (case hz => (first | assumption | lia | (dsimp only; lia))); (case za => (first | assumption | lia | (dsimp only; lia))); (case zb => (first | assumption | lia | (dsimp only; lia))); ((try clear H'); (try clear F' N'); intro r' k' s' n' h' tk' es' ls' F' N' H')))
set_option hygiene false in
local macro_rules | `(tactic| clear s40 $f) => `(tactic| ((with_reducible refine $f ‹8› ‹_› ‹_› ‹_› ‹0› ‹0› ?_); ((try clear H'); (try clear F' N'); intro t' n' h' tk' F' N' H')))
set_option hygiene false in
local macro_rules | `(tactic| clear s41 $f) => `(tactic| ((with_reducible refine $f ‹8› ‹_› ‹_› ‹_› ‹0› ‹0› ‹0› ?_); ((try clear H'); (try clear F' N'); intro t' n' h' tk' F' N' H')))
set_option hygiene false in
local macro_rules | `(tactic| clear s42 $f) => `(tactic| ((with_reducible refine $f ‹_› ‹_› ‹_› ?_); ((try clear H'); (try clear F' N'); intro nul' n' h' F' N' H')))
set_option hygiene false in
local macro_rules | `(tactic| clear s43 $f) => `(tactic| (with_reducible refine $f ‹8› ‹_› ‹_› ‹0› ‹0› ?_))
set_option hygiene false in
local macro_rules | `(tactic| clear s44 $f) => `(tactic| ((with_reducible refine $f ‹8› ‹_› ‹_› ‹_› ‹0› ?za ?hz ?hz2 ?_); (case za => (first | assumption | lia | (dsimp only; lia))); (case hz => (first | assumption | lia | (dsimp only; lia))); (case hz2 => (first | assumption | lia | (dsimp only; lia))); ((try clear H'); (try clear F' N'); intro st' n' h' tk' K' F' N' H')))
set_option hygiene false in
local macro_rules | `(tactic| clear s45 $f) => `(tactic| ((with_reducible refine $f (Ok.hand ‹_›) ‹_› ‹_› ?_); ((try clear F' N'); intro h' t' tk' F' N')))
set_option hygiene false in
local macro_rules | `(tactic| clear s46 $f) => `(tactic| ((with_reducible refine $f ‹8› ‹_› ‹_› ?_); ((try clear F' N'); intro t' h' tk' F' N')))
set_option hygiene false in
local macro_rules | `(tactic| clear s47 $f) => `(tactic| ((with_reducible refine $f ?hb ?_); (case hb => (first | lia | decide)); intro r' r0' r1' re'))
set_option hygiene false in
local macro_rules | `(tactic| clear s48 $f) => `(tactic| ((with_reducible refine $f ?hb ?hs ?_); (case hb => (first | lia | decide)); (case hs => (first | lia | decide)); intro r' re' r0'))
set_option hygiene false in
local macro_rules | `(tactic| clear s49 $f) => `(tactic| ((with_reducible refine $f ‹8› ‹_› ‹_› ‹_› ‹0› ‹0› ‹0› ‹0› ?za ?h0 ?ht ?_); (case za => (first | assumption | lia | (dsimp only; lia))); (case h0 => (first | assumption | lia | (dsimp only; lia))); (case ht => (first | assumption | (dsimp only; assumption) | rfl)); ((try clear H'); (try clear F' N'); intro r' t1' t2' n' h' tk' F' N' H')))
set_option hygiene false in
local macro_rules | `(tactic| clear s50 $f) => `(tactic| ((with_reducible refine $f ‹8› ‹_› ‹_› ‹_› ‹0› ‹0› ‹0› ?za ?h0 ?ht ?_); (case za => (first | assumption | lia | (dsimp only; lia))); (case h0 => (first | assumption | lia | (dsimp only; lia))); (case ht => (first | assumption | (dsimp only; assumption) | rfl)); ((try clear H'); (try clear F' N'); intro r' t1' t2' n' h' tk' F' N' H')))
set_option hygiene false in
local macro_rules | `(tactic| clear s51 $f) => `(tactic| ((with_reducible refine $f ‹8› ‹_› ‹_› ‹_› ?hz ?_); (case hz => (first | assumption | lia | (dsimp only; lia))); ((try clear H'); (try clear F' N'); intro r' k' n' h' tk' F' N' H')))
set_option hygiene false in
local macro_rules | `(tactic| clear s52 $f) => `(tactic| ((with_reducible refine $f ‹8› ‹_› ‹_› ‹_› ‹0› ‹0› ‹0› ?za ?h0 ?h1 ?_); (case za => (first | assumption | lia | (dsimp only; lia))); (case h0 => (first | assumption | lia | (dsimp only; lia))); (case h1 => (first | assumption | lia | (dsimp only; lia))); ((try clear H'); (try clear F' N'); intro r' t1' t2' n' h' tk' F' N' H')))
set_option hygiene false in
local macro_rules | `(tactic| clear s53 $f) => `(tactic| ((with_reducible refine $f ‹8› ‹_› ‹_› ‹_› ‹0› ‹0› ?hz ?ea ?eb ?_); (case hz => (first | assumption | lia | (dsimp only; lia))); (case ea => (first | exact rfl | assumption)); (case eb => (first | exact rfl | assumption)); ((try clear H'); (try clear F' N'); intro r' k' n' h' tk' F' N' H')))
set_option hygiene false in
local macro_rules | `(tactic| clear s54 $f) => `(tactic| ((with_reducible refine $f ‹_› ‹_› ‹_› ‹_› ?hz ?_); (case hz => exact Nat.le_of_ble_eq_true rfl); ((try clear H'); (try clear F' N'); intro h' F' N' H')))
set_option hygiene false in
local macro_rules | `(tactic| clear s55 $f) => `(tactic| ((with_reducible refine $f ‹_› ‹_› ‹_› ?_); (try clear D'); (try clear F' N'); intro l' h' F' N' D'))
set_option hygiene false in
local macro_rules | `(tactic| clear s56 $f $gs*) => `(tactic| ((with_reducible refine $f ‹_› ‹_› ‹_› ‹_› (by clear gl $gs*) (by clear gl $gs*) ?_); (try clear D'); (try clear F' N'); intro x' dx' h' F' N' D'))
set_option hygiene false in
local macro_rules | `(tactic| clear s57 $f) => `(tactic| ((with_reducible refine $f (C := 447) ‹_› ‹_› ‹_› ‹0› ‹0› ‹_› (pgn (Z156 _)) (Z157 _) (Z179 _) ?hv ?_); (case hv => exact rfl); skip))
set_option hygiene false in
local macro_rules | `(tactic| clear s58 $f) => `(tactic| ((with_reducible refine $f ‹_› ‹_› ‹_› ‹_› ?_ ?hz); (case hz => exact Nat.le_of_ble_eq_true rfl); (try clear D'); (try clear F' N'); intro h' o' F' N' D' hd'))
set_option hygiene false in
local macro_rules | `(tactic| clear s59 $f) => `(tactic| ((with_reducible refine $f ‹_› ‹_› ‹_› ⟨_, List.mem_cons_self⟩ ?hz ?_); (case hz => exact Nat.le_of_ble_eq_true rfl); (try clear D'); intro l' h' F' N' D'))
set_option hygiene false in
local macro_rules | `(tactic| walk_at "DEC") => `(tactic| (k_extra "DEC"))
set_option hygiene false in
local macro_rules | `(tactic| walk_at "ENTER") => `(tactic| ((case ho => k_is); (case hcd => k_is); (case hb => exact rfl); (case hl => exact rfl); (case hS => exact rfl); (case hc => exact rfl); (case hv => exact rfl); (case hpm => exact rfl); intro g' L' h' tk' p' lo' me' mg' mb' S' O' X' T' F' N'; have Z' := Zn.mk S' X' ⟨_, _, _, _, _, T'⟩))
set_option hygiene false in
local macro_rules | `(tactic| walk_at "IN") => `(tactic| (k_extra "IN"))
set_option hygiene false in
local macro_rules | `(tactic| walk_at "INS") => `(tactic| (k_extra "INS"))
set_option hygiene false in
local macro_rules | `(tactic| walk_at "PUT") => `(tactic| (k_extra "PUT"))
set_option hygiene false in
local macro_rules | `(tactic| walk_at "ENTERE") => `(tactic| ((case ho => k_is); (case hcd => k_is); (case hb => exact rfl); (case hl => exact rfl); (case hS => exact rfl); (case hc => exact rfl); (case hv => exact rfl); (case hpm => exact rfl); refine (?_ : EntAll _ _ _ _ _ _ _ _ _ _ _ _ _ _ _ _ _ _ _) _ _ _ _ _ _ _ _ _; ((try clear F' N'); intro g' L' h' tk' p' lo' me' mg' mb' S' O' X' T' F' N'); have Z' := Zn.mk S' X' ⟨_, _, _, _, _, T'⟩))
set_option hygiene false in
local macro_rules | `(tactic| walk_at "NE") => `(tactic| (repeat' (first | with_reducible refine nePr ?_ ?_ | exact neW | exact neA | exact neD | exact neP | exact neS | exact neG | exact neSc | exact neM | infer_instance)))
section B1_
namespace Mine
abbrev PR : Program := PySem.Challenge.rw_xm0268_01.row.prog

structure Ok (w : World) (A : Around) (h₀ : Heap) (L : Addr) (d : Nat) : Prop where
  frames : ∃ A₀ base outer env, Below A₀ base outer h₀ ∧ A.frames = some (env :: outer) ∧ env.frame = some L ∧ env.scope.kind = .function
  depth : A.depth + d < 1000
  units : A.units + 8 * d < 9900
  hand : A.handled = none
  X : (hd.heap_1 w.params).In h₀
  T : ∃ p loose mean mg mb, Top p loose mean mg mb h₀
theorem Ok.le {w : World} {A : Around} {h₀ : Heap} {L : Addr} {d d' : Nat} (O : Ok w A h₀ L d) (h : d' ≤ d) : Ok w A h₀ L d' :=
  ⟨O.frames, by have := O.depth; lia, by have := O.units; lia, O.hand, O.X, O.T⟩

theorem enter {w : World} {A : Around} {h₀ : Heap} {L : Addr} {d : Nat} {m : Str → Option Value} {s : Shared} {news : List (Addr × Obj)} {R : Result → Shared → Prop} {name qual : Str} {params : Arguments} {body : List Stmt} {scope : Scope}
    {dV kV doc pm cdv ct oc : Value} {an od : Option Addr} {osl : Array (Option Value)} {f : Addr} {args : Args} {binds : List (Str × Value)}
    (O : Ok w A h₀ L (d + 1)) (F : Fr h₀ L s.heap m) (N : News h₀ L s.heap news)
    (ho : (hd.heap_1 w.params).lookup f = some ⟨oc, od, .func (fnOf name qual params body scope dV kV doc pm an cdv ct), osl⟩) (hcd : codeIn (hd.heap_1 w.params) cdv qual = true)
    (hbind : bindArgs (fnOf name qual params body scope dV kV doc pm an cdv ct) args = pure binds)
    (hloc : (binds.all fun x => decide (scope.names.lookup x.1 = some .local)) = true)
    (h : ∀ g L' h₁ tk p loose mean mg mb, Ok w (A.deeper (envOf qual scope L' f cdv)) g L' d → (hd.heap_1 w.params).In g → Top p loose mean mg mb g → Fr g L' h₁ (fun y => binds.reverse.lookup y) → News g L' h₁ news → (∀ p ∈ news, p.1 < L') →
      wpAny (model PR w) (A.deeper (envOf qual scope L' f cdv)) (execs body (envOf qual scope L' f cdv))
        (fun fl s' => LeaveK h₀ L m g R (match fl with | .ret v => v | _ => .none) s')
        (fun e s' => wpAny (model PR w) (A.deeper (envOf qual scope L' f cdv)) (leaving (envOf qual scope L' f cdv) e) (fun _ s'' => R (.error e) s'') (fun e' s'' => R (.error e') s'') s')
        { s with heap := h₁, toks := tk })
    (hco : scope.isCoroutine = false) (hgen : scope.isGenerator = false) (hk : scope.kind = .function)
    (hcell : (scope.names.all fun x => decide (x.2 ≠ .cell)) = true) : codeAny (model PR w) A (.call (.ref f) args) R s := by
  obtain ⟨A₀, base, outer, env, B, hA, hf, hke⟩ := O.frames
  obtain ⟨p, loose, mean, mg, mb, T⟩ := O.T
  have hu := O.units
  have hd := O.depth
  refine callX_plain (cl := []) B F N T.nolimit hA hf hke ((O.X.keeps F.keep) _ _ ho) rfl (codeRec_of (O.X.keeps F.keep) hcd) (by show A.depth < 1000; lia) (BindsTo.of_eq hbind) (locs hloc) (fun g L' h₁ FG F' N' B' st l => ?_)
    (fun x hx => of_decide_eq_true (List.all_eq_true.mp hcell x hx)) hco hgen hk
  have X' := O.X.keeps st
  have T' := T.keeps st
  have hd' := O.depth
  refine h g L' h₁ _ _ _ _ _ _ ⟨⟨_, _, _, envOf qual scope L' f cdv, B', ?_, rfl, hk⟩, ?_, ?_, O.hand, X', ⟨_, _, _, _, _, T'⟩⟩ X' T' F' N' l
  · show A.frames.map _ = _
    rw [hA]; rfl
  · show A.depth + 1 + d < 1000
    lia
  · show A.units + 3 + 8 * d < 9900
    lia
end Mine
end B1_
section B2_
namespace Mine

abbrev Led := List (Addr × Obj)
def upd (news : Led) (d : Addr) (o : Obj) : Led := (d, o) :: news.filter fun p => p.1 != d
theorem mem_upd {news : Led} {d : Addr} {o : Obj} : (d, o) ∈ upd news d o := .head _
theorem mem_upd_ne {news : Led} {d : Addr} {o : Obj} {p : Addr × Obj} (h : p ∈ news) (hne : p.1 ≠ d) : p ∈ upd news d o :=
  .tail _ (List.mem_filter.mpr ⟨h, by simpa using hne⟩)
theorem of_mem_upd {news : Led} {d : Addr} {o : Obj} {p : Addr × Obj} (h : p ∈ upd news d o) : p = (d, o) ∨ (p ∈ news ∧ p.1 ≠ d) := by
  rcases List.mem_cons.mp h with h | h
  · exact .inl h
  · have := List.mem_filter.mp h; exact .inr ⟨this.1, by simpa using this.2⟩
theorem upd_key {news : Led} {d : Addr} {o : Obj} {p : Addr × Obj} (hd : ∃ o, (d, o) ∈ news) (h : p ∈ upd news d o) : ∃ q ∈ news, q.1 = p.1 := by
  rcases of_mem_upd h with rfl | h
  · obtain ⟨o', ho⟩ := hd; exact ⟨_, ho, rfl⟩
  · exact ⟨p, h.1, rfl⟩
section
variable {h₀ h : Heap} {L : Addr} {led led' : Led}
theorem news_sub (N : News h₀ L h led) (hs : ∀ p ∈ led', p ∈ led) : News h₀ L h led' := fun p hp => N p (hs p hp)
theorem news_fun (N : News h₀ L h led) {a : Addr} {o o' : Obj} (h1 : (a, o) ∈ led) (h2 : (a, o') ∈ led) : o = o' := by
  have e1 := (N _ h1).1; have e2 := (N _ h2).1
  dsimp only at e1 e2
  rw [e1] at e2; exact Option.some.inj e2
theorem upd_news (N : News h₀ L h led) {d : Addr} {o : Obj} (hp : (d, o) ∈ led) : News h₀ L h (upd led d o) := fun p hq => by
  rcases of_mem_upd hq with rfl | hq
  · exact N _ hp
  · exact N _ hq.1
theorem upd_U {d : Addr} {o o' : Obj} : Upd d o o' (upd led d o) (upd led d o') := Upd.head fun p hp => by
  have := (List.mem_filter.mp hp).2; simpa using this
theorem upd_UF {d : Addr} {o : Obj} : UpdF d o (upd led d o) (upd led d) := UpdF.head fun p hp => by
  have := (List.mem_filter.mp hp).2; simpa using this
end

inductive Mk where
  | hd | things | tab | itn | itv | thrown | texts | facts
  deriving DecidableEq
structure Pl where
  w : Addr
  m : Addr
  h : Addr
  nat : Addr
  told : Addr
  bad : Addr
  sweep : Addr
  ni : Nat → Addr
  adr : Mk → Addr
def Pl.isMut (P : Pl) (a : Addr) : Prop := ∃ k, P.adr k = a
abbrev tupOf (vs : List Value) : Obj := { cls := .type "tuple", data := .seq vs.toArray }
def Im (P : Pl) (news : Led) (a : Addr) (o : Obj) : Prop := (a, o) ∈ news ∧ ¬ P.isMut a
def Inst (P : Pl) (news : Led) (x C : Addr) (fs : List (Str × Value)) (no : List Str) : Prop :=
  ∃ dx es n, Im P news x (instObj C dx) ∧ Im P news dx (dictOf es n) ∧ (∀ p ∈ fs, getL p.1 es = some (some p.2)) ∧ ∀ k ∈ no, getL k es = some none
def Thing (P : Pl) (news : Led) (th : Addr) (a : Int) (s : Str) : Prop :=
  ∃ t1 t2 sl tp t3 t4 n, Inst P news th 96 [("addr", .int a t1), ("kind", .int 13 t2), ("slots", .ref sl)] [] ∧ Im P news sl (listOf #[.ref tp] n) ∧ Im P news tp (tupOf [.int 8 t3, .str s t4])
def Stay (P : Pl) (news news' : Led) : Prop := ∀ p ∈ news, ¬ P.isMut p.1 → p ∈ news'
section
variable {P : Pl} {news news' : Led} {a x C th : Addr} {o : Obj} {fs : List (Str × Value)} {no : List Str} {i : Int} {s : Str}
theorem Stay.refl : Stay P news news := fun _ h _ => h
theorem Stay.trans {n3 : Led} (h : Stay P news news') (h' : Stay P news' n3) : Stay P news n3 := fun p hp hm => h' p (h p hp hm) hm
theorem Stay.cons {p : Addr × Obj} : Stay P news (p :: news) := fun _ h _ => .tail _ h
theorem Stay.upd {k : Mk} : Stay P news (upd news (P.adr k) o) := fun p h hm => mem_upd_ne h fun e => hm ⟨k, e.symm⟩
theorem Im.mono (k : Stay P news news') (h : Im P news a o) : Im P news' a o := ⟨k _ h.1 h.2, h.2⟩
theorem Inst.mono' (h : Inst P news x C fs no) (k : Stay P news news') : Inst P news' x C fs no :=
  let ⟨dx, es, n, a, b, c⟩ := h; ⟨dx, es, n, a.mono k, b.mono k, c⟩
theorem Inst.mono (k : Stay P news news') (h : Inst P news x C fs no) : Inst P news' x C fs no :=
  let ⟨dx, es, n, a, b, c⟩ := h; ⟨dx, es, n, a.mono k, b.mono k, c⟩
theorem Thing.mono (k : Stay P news news') (h : Thing P news th i s) : Thing P news' th i s :=
  let ⟨t1, t2, sl, tp, t3, t4, n, a, b, c⟩ := h; ⟨t1, t2, sl, tp, t3, t4, n, a.mono k, b.mono k, c.mono k⟩
end

structure Sg where
  top : Int
  fresh : Int
  made : Int
  nth : Nat
  tab : List (Int × Value)
  itn : List (Str × Value)
  itv : List Value
  thrown : List Value
  texts : List Value
  facts : List Value

def MutOk (w : World) (P : Pl) (σ : Sg) : Mk → Obj → Prop
  | .hd, o => ∃ es n t1 t2 t3, o = dictOf es n ∧ es.length ≤ 50 ∧ es.any (·.refKey) = false ∧ getL "things" es = some (some (.ref (P.adr .things))) ∧ getL "at" es = some (some (.ref (P.adr .tab))) ∧
      getL "top" es = some (some (.int σ.top t1)) ∧ getL "fresh" es = some (some (.int σ.fresh t2)) ∧ getL "made" es = some (some (.int σ.made t3))
  | .things, o => ∃ its n, o = listOf its n ∧ its.size = σ.nth
  | .tab, o => o.IsDictOf (intKind PR w) σ.tab
  | .itn, o => o.IsDictOf (PySem.strKind PR w) σ.itn
  | .itv, o => ∃ n, o = listOf σ.itv.toArray n
  | .thrown, o => ∃ n, o = listOf σ.thrown.toArray n
  | .texts, o => ∃ n, o = listOf σ.texts.toArray n
  | .facts, o => ∃ n, o = listOf σ.facts.toArray n

def Pl.mf (P : Pl) (t : Tok) : List (Str × Value) := [("heap", .ref P.h), ("natives", .ref P.nat), ("thrown", .ref (P.adr .thrown)), ("told", .ref P.told), ("interned", .ref (P.adr .itn)), ("internv", .ref (P.adr .itv)),
    ("sweeper", .ref P.sweep), ("state", .int 0 t)]
structure Sta (w : World) (P : Pl) (news : Led) : Prop where
  wd : ∃ o, Im P news P.w o ∧ o.IsDictOf (PySem.strKind PR w) [("m", .ref P.m), ("texts", .ref (P.adr .texts)), ("facts", .ref (P.adr .facts)), ("bad", .ref P.bad)]
  m : ∃ t, Inst P news P.m 447 (P.mf t) ["alloc", "text_of", "text_ref", "new_text", "throw_new"]
  h : Im P news P.h (instObj 117 (P.adr .hd))
  sw : Inst P news P.sweep 223 [] ["before"]
  nat : ∃ o, Im P news P.nat o ∧ o.IsDictOf (intKind PR w) [(1, .ref (P.ni 1)), (2, .ref (P.ni 2)), (3, .ref (P.ni 3)), (4, .ref (P.ni 4)), (5, .ref (P.ni 5)), (6, .ref (P.ni 6)), (7, .ref (P.ni 7)), (8, .ref (P.ni 8)), (9, .ref (P.ni 9))]
  n1 : Inst P news (P.ni 1) 578 [] ["call"]
  n2 : Inst P news (P.ni 2) 597 [] ["call"]
  n3 : Inst P news (P.ni 3) 616 [] ["call"]
  n4 : Inst P news (P.ni 4) 635 [] ["call"]
  n5 : Inst P news (P.ni 5) 654 [] ["call"]
  n6 : Inst P news (P.ni 6) 673 [] ["call"]
  n7 : Inst P news (P.ni 7) 692 [] ["call"]
  n8 : Inst P news (P.ni 8) 711 [] ["call"]
  n9 : Inst P news (P.ni 9) 730 [] ["call"]
  told : ∃ n, Im P news P.told (listOf #[] n)
  bad : ∃ n, Im P news P.bad (listOf #[] n)
theorem Sta.mono {w : World} {P : Pl} {news news' : Led} (k : Stay P news news') (S : Sta w P news) : Sta w P news' where
  wd := let ⟨o, a, b⟩ := S.wd; ⟨o, a.mono k, b⟩
  m := let ⟨t, a⟩ := S.m; ⟨t, a.mono k⟩
  h := S.h.mono k
  sw := S.sw.mono k
  nat := let ⟨o, a, b⟩ := S.nat; ⟨o, a.mono k, b⟩
  n1 := S.n1.mono k
  n2 := S.n2.mono k
  n3 := S.n3.mono k
  n4 := S.n4.mono k
  n5 := S.n5.mono k
  n6 := S.n6.mono k
  n7 := S.n7.mono k
  n8 := S.n8.mono k
  n9 := S.n9.mono k
  told := let ⟨n, a⟩ := S.told; ⟨n, a.mono k⟩
  bad := let ⟨n, a⟩ := S.bad; ⟨n, a.mono k⟩

structure Rep (w : World) (P : Pl) (X : Led) (σ : Sg) (news : Led) : Prop where
  inj : ∀ k k', P.adr k = P.adr k' → k = k'
  low : ∀ k, (P.adr k == sysModules) = false
  sta : Sta w P news
  mu : ∀ k, ∃ o, (P.adr k, o) ∈ news ∧ MutOk w P σ k o
  dj : ∀ p ∈ X, ∀ q ∈ news, p.1 ≠ q.1
section
variable {w : World} {P : Pl} {X : Led} {σ σ' : Sg} {news : Led}
theorem Rep.cons {a : Addr} {o : Obj} (R : Rep w P X σ news) (ha : ∀ p ∈ X, p.1 ≠ a) : Rep w P X σ ((a, o) :: news) where
  inj := R.inj
  low := R.low
  sta := R.sta.mono .cons
  mu k := let ⟨o, h, q⟩ := R.mu k; ⟨o, .tail _ h, q⟩
  dj p hp q hq := by
    rcases List.mem_cons.mp hq with rfl | hq
    · exact ha p hp
    · exact R.dj p hp q hq
theorem Rep.put (R : Rep w P X σ news) (k : Mk) (o' : Obj) (h1 : MutOk w P σ' k o') (h2 : ∀ k', k' ≠ k → ∀ o, MutOk w P σ k' o → MutOk w P σ' k' o) : Rep w P X σ' (upd news (P.adr k) o') where
  inj := R.inj
  low := R.low
  sta := R.sta.mono .upd
  mu k' := by
    by_cases e : k' = k
    · subst e; exact ⟨o', mem_upd, h1⟩
    · obtain ⟨o, h, q⟩ := R.mu k'
      exact ⟨o, mem_upd_ne h fun z => e (R.inj _ _ z), h2 k' e o q⟩
  dj p hp q hq := by
    obtain ⟨o, h, -⟩ := R.mu k
    obtain ⟨q', hq', e⟩ := upd_key ⟨o, h⟩ hq
    rw [← e]; exact R.dj p hp q' hq'
theorem Rep.frame {X' : Led} (R : Rep w P X σ news) (h : ∀ p ∈ X', ∀ q ∈ news, p.1 ≠ q.1) : Rep w P X' σ news := { inj := R.inj, low := R.low, sta := R.sta, mu := R.mu, dj := h }
theorem Rep.fresh {h₀ h : Heap} {L : Addr} (R : Rep w P X σ news) (N : News h₀ L h (X ++ news)) {a : Addr} (ha : h.objs.size ≤ a) : ¬ P.isMut a := by
  rintro ⟨k, rfl⟩
  obtain ⟨o, h, -⟩ := R.mu k
  have := Heap.lt_size (N _ (List.mem_append_right _ h)).1
  exact absurd this (Nat.not_lt.mpr ha)
end

def ad (n : Nat) : Int := if n = 0 then 0 else 13 + 3 * (n : Int)
def Tv (P : Pl) (mem : List Str) (news : Led) (a : Addr) (n : Nat) (os : Option Str) : Prop :=
  (∃ t t', Im P news a (tupOf [.int 4 t, .int (ad n) t'])) ∧ ((n = 0 ∧ os = none) ∨ ∃ i s, n = i + 1 ∧ mem[i]? = some s ∧ os = some s)
def hashFrom (h : Int) (l : List Nat) : Int := l.foldl (fun (h : Int) (c : Nat) => (h * 33 + (c : Int)) % 4294967296) h
def wrap (n : Int) : Int := if n < 2147483648 then n else n - 4294967296
def hashS (s : Str) : Int := wrap (hashFrom 5381 s.cps.toList)
def lenO : Option Str → Int
  | none => 0
  | some s => s.length
def hashO : Option Str → Int
  | none => 0
  | some s => hashS s

inductive Fact where
  | tv (a : Addr) (n : Nat) (os : Option Str)
  | ls (a : Addr) (vs : List Value)
  | tu (a : Addr) (vs : List Value)
  | pool (s : Str) (n : Nat)
  | priv (n : Nat)
  | ent (a : Addr) (o : Obj)
structure St where
  T : List (Addr × Nat × Option Str)
  th : List Int
  b : Nat
  fc : List (Int × Int)
def Fact.says (P : Pl) (mem : List Str) (pool : Str → Option Nat) (news : Led) : Fact → Prop
  | .tv a n os => Tv P mem news a n os
  | .ls a vs => ∃ n, Im P news a (listOf vs.toArray n)
  | .tu a vs => Im P news a (tupOf vs)
  | .pool s n => pool s = some n
  | .priv n => n ≤ mem.length ∧ ∀ s, pool s ≠ some n
  | .ent a o => Im P news a o

structure Inv (P : Pl) (σ : Sg) (news : Led) (mem : List Str) (pool : Str → Option Nat) : Prop where
  top : σ.top = 16 + 3 * (mem.length : Int)
  fresh : σ.fresh = 3 * (mem.length : Int)
  made : σ.made = (mem.length : Int)
  nth : σ.nth = mem.length
  len : σ.tab.length ≤ mem.length
  tab : ∀ (i : Nat) s, mem[i]? = some s → ∃ th, valueAt σ.tab (16 + 3 * (i : Int)) = some (.ref th) ∧ Thing P news th (16 + 3 * (i : Int)) s
  low0 : valueAt σ.tab 0 = none
  itl : σ.itn.length ≤ σ.itv.length ∧ σ.itv.length ≤ mem.length
  itn : ∀ s, (pool s = none ∧ valueAt σ.itn s = none) ∨ ∃ j t a n, pool s = some n ∧ valueAt σ.itn s = some (.int ((j : Nat) : Int) t) ∧ σ.itv[j]? = some (.ref a) ∧ Tv P mem news a n (some s)
structure Txs (P : Pl) (σ : Sg) (news : Led) (mem : List Str) (st : St) : Prop where
  b : mem.length ≤ st.b
  th : IntsAre σ.thrown st.th
  texts : σ.texts = st.T.map fun x => Value.ref x.1
  tv : ∀ x ∈ st.T, Tv P mem news x.1 x.2.1 x.2.2
  fl : σ.facts.length = st.fc.length
  facts : ∀ (i : Nat) x, st.fc[i]? = some x → ∃ fa t t', σ.facts[i]? = some (.ref fa) ∧ Im P news fa (tupOf [.int x.1 t, .int x.2 t'])
def Hs (w : World) (P : Pl) (X : Led) (st : St) (news : Led) (Φ : List Fact) : Prop :=
  ∃ σ mem pool, Rep w P X σ news ∧ Inv P σ news mem pool ∧ Txs P σ news mem st ∧ ∀ f ∈ Φ, f.says P mem pool news
section
variable {w : World} {P : Pl} {X : Led} {σ : Sg} {news news' : Led} {mem : List Str} {pool : Str → Option Nat} {st : St} {Φ : List Fact}
theorem Tv.mono {a : Addr} {n : Nat} {os : Option Str} (k : Stay P news news') (h : Tv P mem news a n os) : Tv P mem news' a n os :=
  let ⟨⟨t, t', x⟩, y⟩ := h; ⟨⟨t, t', x.mono k⟩, y⟩
theorem Fact.mono {f : Fact} (k : Stay P news news') (h : f.says P mem pool news) : f.says P mem pool news' := by
  cases f with
  | tv a n os => exact Tv.mono k h
  | ls a vs => obtain ⟨n, h⟩ := h; exact ⟨n, h.mono k⟩
  | tu a vs => exact Im.mono k h
  | pool s n => exact h
  | priv n => exact h
  | ent a o => exact Im.mono k h
theorem Inv.mono (k : Stay P news news') (I : Inv P σ news mem pool) : Inv P σ news' mem pool where
  top := I.top
  fresh := I.fresh
  made := I.made
  nth := I.nth
  len := I.len
  tab i s h := let ⟨th, a, b⟩ := I.tab i s h; ⟨th, a, b.mono k⟩
  low0 := I.low0
  itl := I.itl
  itn s := (I.itn s).imp id fun ⟨j, t, a, n, h1, h2, h3, h4⟩ => ⟨j, t, a, n, h1, h2, h3, h4.mono k⟩
theorem Txs.mono (k : Stay P news news') (T : Txs P σ news mem st) : Txs P σ news' mem st where
  b := T.b
  th := T.th
  texts := T.texts
  tv x hx := (T.tv x hx).mono k
  fl := T.fl
  facts i x h := let ⟨fa, t, t', a, b⟩ := T.facts i x h; ⟨fa, t, t', a, b.mono k⟩
theorem Tv.some {a : Addr} {n : Nat} {x : Str} (h : Tv P mem news a n (some x)) : ∃ i, n = i + 1 ∧ mem[i]? = some x := by
  obtain ⟨-, (⟨-, h⟩ | ⟨i, s, e, hm, h⟩)⟩ := h
  · cases h
  · cases h; exact ⟨i, e, hm⟩
theorem Tv.none {a : Addr} {n : Nat} (h : Tv P mem news a n none) : n = 0 := by
  obtain ⟨-, (⟨h, -⟩ | ⟨i, s, e, hm, h⟩)⟩ := h
  · exact h
  · cases h
theorem ad_succ {i : Nat} : ad (i + 1) = 16 + 3 * (i : Int) := by unfold ad; rw [if_neg (by lia)]; lia
theorem ad_zero : ad 0 = 0 := rfl
theorem ad_inj {i j : Nat} (h : ad i = ad j) : i = j := by unfold ad at h; split at h <;> split at h <;> lia
theorem ad_eq_zero {i : Nat} (h : ad i = 0) : i = 0 := ad_inj (h.trans ad_zero.symm)
theorem Hs.cons (H : Hs w P X st news Φ) {a : Addr} {o : Obj} (ha : ∀ p ∈ X, p.1 ≠ a) : Hs w P X st ((a, o) :: news) Φ :=
  let ⟨σ, mem, pool, R, I, T, F⟩ := H
  ⟨σ, mem, pool, R.cons ha, I.mono .cons, T.mono .cons, fun f hf => Fact.mono .cons (F f hf)⟩
theorem Hs.sub {Φ' : List Fact} (H : Hs w P X st news Φ) (h : ∀ f ∈ Φ', f ∈ Φ) : Hs w P X st news Φ' :=
  let ⟨σ, mem, pool, R, I, T, F⟩ := H
  ⟨σ, mem, pool, R, I, T, fun f hf => F f (h f hf)⟩
theorem Hs.more {b : Nat} (H : Hs w P X st news Φ) (h : st.b ≤ b) : Hs w P X ⟨st.T, st.th, b, st.fc⟩ news Φ :=
  let ⟨σ, mem, pool, R, I, T, F⟩ := H
  ⟨σ, mem, pool, R, I, ⟨Nat.le_trans T.b h, T.th, T.texts, T.tv, T.fl, T.facts⟩, F⟩
theorem Hs.frame {X' : Led} (H : Hs w P X st news Φ) (h : ∀ p ∈ X', ∀ q ∈ news, p.1 ≠ q.1) : Hs w P X' st news Φ :=
  let ⟨σ, mem, pool, R, I, T, F⟩ := H
  ⟨σ, mem, pool, R.frame h, I, T, F⟩
theorem Hs.dj (H : Hs w P X st news Φ) : ∀ p ∈ X, ∀ q ∈ news, p.1 ≠ q.1 := let ⟨_, _, _, R, _⟩ := H; R.dj
end
end Mine
end B2_
namespace Mine
section XB2_

noncomputable def ep {α : Type} (ne : Nonempty α) (K : α → Prop) : α := @Classical.epsilon α ne fun r => ¬ K r
theorem ep_all {α : Type} {ne : Nonempty α} {K : α → Prop} (h : K (ep ne K)) : ∀ r, K r :=
  fun r => Classical.byContradiction fun hr => (Classical.epsilon_spec (p := fun r => ¬ K r) ⟨r, hr⟩ : ¬ K (ep ne K)) h
abbrev HT := (((((((((World × Around) × Heap) × Addr) × (Str → Option Value)) × Heap) × (Array GenState)) × Drawn) × Nat) × OsState)
abbrev HT13 := (((HT × Led) × (Value → Shared → Prop)) × (Value → Shared → Prop))
abbrev c13 {β : Type} (S : World → Around → Heap → Addr → (Str → Option Value) → Heap → (Array GenState) → Drawn → Nat → OsState → Led → (Value → Shared → Prop) → (Value → Shared → Prop) → β) (r : HT13) : β := S r.1.1.1.1.1.1.1.1.1.1.1.1 r.1.1.1.1.1.1.1.1.1.1.1.2 r.1.1.1.1.1.1.1.1.1.1.2 r.1.1.1.1.1.1.1.1.1.2 r.1.1.1.1.1.1.1.1.2 r.1.1.1.1.1.1.1.2 r.1.1.1.1.1.1.2 r.1.1.1.1.1.2 r.1.1.1.1.2 r.1.1.1.2 r.1.1.2 r.1.2 r.2
abbrev HT16 := ((((((HT × Pl) × Led) × Led) × Sg) × (Value → Shared → Prop)) × (Value → Shared → Prop))
abbrev c16 {β : Type} (S : World → Around → Heap → Addr → (Str → Option Value) → Heap → (Array GenState) → Drawn → Nat → OsState → Pl → Led → Led → Sg → (Value → Shared → Prop) → (Value → Shared → Prop) → β) (r : HT16) : β := S r.1.1.1.1.1.1.1.1.1.1.1.1.1.1.1 r.1.1.1.1.1.1.1.1.1.1.1.1.1.1.2 r.1.1.1.1.1.1.1.1.1.1.1.1.1.2 r.1.1.1.1.1.1.1.1.1.1.1.1.2 r.1.1.1.1.1.1.1.1.1.1.1.2 r.1.1.1.1.1.1.1.1.1.1.2 r.1.1.1.1.1.1.1.1.1.2 r.1.1.1.1.1.1.1.1.2 r.1.1.1.1.1.1.1.2 r.1.1.1.1.1.1.2 r.1.1.1.1.1.2 r.1.1.1.1.2 r.1.1.1.2 r.1.1.2 r.1.2 r.2
abbrev HT17 := (((((((HT × Pl) × Led) × Led) × St) × (List Fact)) × (Value → Shared → Prop)) × (Value → Shared → Prop))
abbrev c17 {β : Type} (S : World → Around → Heap → Addr → (Str → Option Value) → Heap → (Array GenState) → Drawn → Nat → OsState → Pl → Led → Led → St → (List Fact) → (Value → Shared → Prop) → (Value → Shared → Prop) → β) (r : HT17) : β := S r.1.1.1.1.1.1.1.1.1.1.1.1.1.1.1.1 r.1.1.1.1.1.1.1.1.1.1.1.1.1.1.1.2 r.1.1.1.1.1.1.1.1.1.1.1.1.1.1.2 r.1.1.1.1.1.1.1.1.1.1.1.1.1.2 r.1.1.1.1.1.1.1.1.1.1.1.1.2 r.1.1.1.1.1.1.1.1.1.1.1.2 r.1.1.1.1.1.1.1.1.1.1.2 r.1.1.1.1.1.1.1.1.1.2 r.1.1.1.1.1.1.1.1.2 r.1.1.1.1.1.1.1.2 r.1.1.1.1.1.1.2 r.1.1.1.1.1.2 r.1.1.1.1.2 r.1.1.1.2 r.1.1.2 r.1.2 r.2
theorem ep1 {α : Type} (ne : Nonempty α) {K : α → Prop} (h : K (ep ne fun r : α => K r)) : ∀ x0, K x0 := fun x0 => ep_all (K := fun r : α => K r) h x0
theorem ep2 {α β : Type} (ne : Nonempty (α × β)) {K : α → β → Prop} (h : K (ep ne fun r : (α × β) => K r.1 r.2).1 (ep ne fun r : (α × β) => K r.1 r.2).2) : ∀ x0 x1, K x0 x1 := fun x0 x1 => ep_all (K := fun r : (α × β) => K r.1 r.2) h (x0, x1)
theorem ep3 {α β γ : Type} (ne : Nonempty ((α × β) × γ)) {K : α → β → γ → Prop} (h : K (ep ne fun r : ((α × β) × γ) => K r.1.1 r.1.2 r.2).1.1 (ep ne fun r : ((α × β) × γ) => K r.1.1 r.1.2 r.2).1.2 (ep ne fun r : ((α × β) × γ) => K r.1.1 r.1.2 r.2).2) : ∀ x0 x1 x2, K x0 x1 x2 := fun x0 x1 x2 => ep_all (K := fun r : ((α × β) × γ) => K r.1.1 r.1.2 r.2) h ((x0, x1), x2)
theorem ep4 {α β γ δ : Type} (ne : Nonempty (((α × β) × γ) × δ)) {K : α → β → γ → δ → Prop} (h : K (ep ne fun r : (((α × β) × γ) × δ) => K r.1.1.1 r.1.1.2 r.1.2 r.2).1.1.1 (ep ne fun r : (((α × β) × γ) × δ) => K r.1.1.1 r.1.1.2 r.1.2 r.2).1.1.2 (ep ne fun r : (((α × β) × γ) × δ) => K r.1.1.1 r.1.1.2 r.1.2 r.2).1.2 (ep ne fun r : (((α × β) × γ) × δ) => K r.1.1.1 r.1.1.2 r.1.2 r.2).2) : ∀ x0 x1 x2 x3, K x0 x1 x2 x3 := fun x0 x1 x2 x3 => ep_all (K := fun r : (((α × β) × γ) × δ) => K r.1.1.1 r.1.1.2 r.1.2 r.2) h (((x0, x1), x2), x3)
theorem ep5 {α β γ δ ε : Type} (ne : Nonempty ((((α × β) × γ) × δ) × ε)) {K : α → β → γ → δ → ε → Prop} (h : K (ep ne fun r : ((((α × β) × γ) × δ) × ε) => K r.1.1.1.1 r.1.1.1.2 r.1.1.2 r.1.2 r.2).1.1.1.1 (ep ne fun r : ((((α × β) × γ) × δ) × ε) => K r.1.1.1.1 r.1.1.1.2 r.1.1.2 r.1.2 r.2).1.1.1.2 (ep ne fun r : ((((α × β) × γ) × δ) × ε) => K r.1.1.1.1 r.1.1.1.2 r.1.1.2 r.1.2 r.2).1.1.2 (ep ne fun r : ((((α × β) × γ) × δ) × ε) => K r.1.1.1.1 r.1.1.1.2 r.1.1.2 r.1.2 r.2).1.2 (ep ne fun r : ((((α × β) × γ) × δ) × ε) => K r.1.1.1.1 r.1.1.1.2 r.1.1.2 r.1.2 r.2).2) : ∀ x0 x1 x2 x3 x4, K x0 x1 x2 x3 x4 := fun x0 x1 x2 x3 x4 => ep_all (K := fun r : ((((α × β) × γ) × δ) × ε) => K r.1.1.1.1 r.1.1.1.2 r.1.1.2 r.1.2 r.2) h ((((x0, x1), x2), x3), x4)
theorem ep6 {α β γ δ ε ζ : Type} (ne : Nonempty (((((α × β) × γ) × δ) × ε) × ζ)) {K : α → β → γ → δ → ε → ζ → Prop} (h : K (ep ne fun r : (((((α × β) × γ) × δ) × ε) × ζ) => K r.1.1.1.1.1 r.1.1.1.1.2 r.1.1.1.2 r.1.1.2 r.1.2 r.2).1.1.1.1.1 (ep ne fun r : (((((α × β) × γ) × δ) × ε) × ζ) => K r.1.1.1.1.1 r.1.1.1.1.2 r.1.1.1.2 r.1.1.2 r.1.2 r.2).1.1.1.1.2 (ep ne fun r : (((((α × β) × γ) × δ) × ε) × ζ) => K r.1.1.1.1.1 r.1.1.1.1.2 r.1.1.1.2 r.1.1.2 r.1.2 r.2).1.1.1.2 (ep ne fun r : (((((α × β) × γ) × δ) × ε) × ζ) => K r.1.1.1.1.1 r.1.1.1.1.2 r.1.1.1.2 r.1.1.2 r.1.2 r.2).1.1.2 (ep ne fun r : (((((α × β) × γ) × δ) × ε) × ζ) => K r.1.1.1.1.1 r.1.1.1.1.2 r.1.1.1.2 r.1.1.2 r.1.2 r.2).1.2 (ep ne fun r : (((((α × β) × γ) × δ) × ε) × ζ) => K r.1.1.1.1.1 r.1.1.1.1.2 r.1.1.1.2 r.1.1.2 r.1.2 r.2).2) : ∀ x0 x1 x2 x3 x4 x5, K x0 x1 x2 x3 x4 x5 := fun x0 x1 x2 x3 x4 x5 => ep_all (K := fun r : (((((α × β) × γ) × δ) × ε) × ζ) => K r.1.1.1.1.1 r.1.1.1.1.2 r.1.1.1.2 r.1.1.2 r.1.2 r.2) h (((((x0, x1), x2), x3), x4), x5)
theorem ep7 {α β γ δ ε ζ η : Type} (ne : Nonempty ((((((α × β) × γ) × δ) × ε) × ζ) × η)) {K : α → β → γ → δ → ε → ζ → η → Prop} (h : K (ep ne fun r : ((((((α × β) × γ) × δ) × ε) × ζ) × η) => K r.1.1.1.1.1.1 r.1.1.1.1.1.2 r.1.1.1.1.2 r.1.1.1.2 r.1.1.2 r.1.2 r.2).1.1.1.1.1.1 (ep ne fun r : ((((((α × β) × γ) × δ) × ε) × ζ) × η) => K r.1.1.1.1.1.1 r.1.1.1.1.1.2 r.1.1.1.1.2 r.1.1.1.2 r.1.1.2 r.1.2 r.2).1.1.1.1.1.2 (ep ne fun r : ((((((α × β) × γ) × δ) × ε) × ζ) × η) => K r.1.1.1.1.1.1 r.1.1.1.1.1.2 r.1.1.1.1.2 r.1.1.1.2 r.1.1.2 r.1.2 r.2).1.1.1.1.2 (ep ne fun r : ((((((α × β) × γ) × δ) × ε) × ζ) × η) => K r.1.1.1.1.1.1 r.1.1.1.1.1.2 r.1.1.1.1.2 r.1.1.1.2 r.1.1.2 r.1.2 r.2).1.1.1.2 (ep ne fun r : ((((((α × β) × γ) × δ) × ε) × ζ) × η) => K r.1.1.1.1.1.1 r.1.1.1.1.1.2 r.1.1.1.1.2 r.1.1.1.2 r.1.1.2 r.1.2 r.2).1.1.2 (ep ne fun r : ((((((α × β) × γ) × δ) × ε) × ζ) × η) => K r.1.1.1.1.1.1 r.1.1.1.1.1.2 r.1.1.1.1.2 r.1.1.1.2 r.1.1.2 r.1.2 r.2).1.2 (ep ne fun r : ((((((α × β) × γ) × δ) × ε) × ζ) × η) => K r.1.1.1.1.1.1 r.1.1.1.1.1.2 r.1.1.1.1.2 r.1.1.1.2 r.1.1.2 r.1.2 r.2).2) : ∀ x0 x1 x2 x3 x4 x5 x6, K x0 x1 x2 x3 x4 x5 x6 := fun x0 x1 x2 x3 x4 x5 x6 => ep_all (K := fun r : ((((((α × β) × γ) × δ) × ε) × ζ) × η) => K r.1.1.1.1.1.1 r.1.1.1.1.1.2 r.1.1.1.1.2 r.1.1.1.2 r.1.1.2 r.1.2 r.2) h ((((((x0, x1), x2), x3), x4), x5), x6)
theorem ep8 {α β γ δ ε ζ η θ : Type} (ne : Nonempty (((((((α × β) × γ) × δ) × ε) × ζ) × η) × θ)) {K : α → β → γ → δ → ε → ζ → η → θ → Prop} (h : K (ep ne fun r : (((((((α × β) × γ) × δ) × ε) × ζ) × η) × θ) => K r.1.1.1.1.1.1.1 r.1.1.1.1.1.1.2 r.1.1.1.1.1.2 r.1.1.1.1.2 r.1.1.1.2 r.1.1.2 r.1.2 r.2).1.1.1.1.1.1.1 (ep ne fun r : (((((((α × β) × γ) × δ) × ε) × ζ) × η) × θ) => K r.1.1.1.1.1.1.1 r.1.1.1.1.1.1.2 r.1.1.1.1.1.2 r.1.1.1.1.2 r.1.1.1.2 r.1.1.2 r.1.2 r.2).1.1.1.1.1.1.2 (ep ne fun r : (((((((α × β) × γ) × δ) × ε) × ζ) × η) × θ) => K r.1.1.1.1.1.1.1 r.1.1.1.1.1.1.2 r.1.1.1.1.1.2 r.1.1.1.1.2 r.1.1.1.2 r.1.1.2 r.1.2 r.2).1.1.1.1.1.2 (ep ne fun r : (((((((α × β) × γ) × δ) × ε) × ζ) × η) × θ) => K r.1.1.1.1.1.1.1 r.1.1.1.1.1.1.2 r.1.1.1.1.1.2 r.1.1.1.1.2 r.1.1.1.2 r.1.1.2 r.1.2 r.2).1.1.1.1.2 (ep ne fun r : (((((((α × β) × γ) × δ) × ε) × ζ) × η) × θ) => K r.1.1.1.1.1.1.1 r.1.1.1.1.1.1.2 r.1.1.1.1.1.2 r.1.1.1.1.2 r.1.1.1.2 r.1.1.2 r.1.2 r.2).1.1.1.2 (ep ne fun r : (((((((α × β) × γ) × δ) × ε) × ζ) × η) × θ) => K r.1.1.1.1.1.1.1 r.1.1.1.1.1.1.2 r.1.1.1.1.1.2 r.1.1.1.1.2 r.1.1.1.2 r.1.1.2 r.1.2 r.2).1.1.2 (ep ne fun r : (((((((α × β) × γ) × δ) × ε) × ζ) × η) × θ) => K r.1.1.1.1.1.1.1 r.1.1.1.1.1.1.2 r.1.1.1.1.1.2 r.1.1.1.1.2 r.1.1.1.2 r.1.1.2 r.1.2 r.2).1.2 (ep ne fun r : (((((((α × β) × γ) × δ) × ε) × ζ) × η) × θ) => K r.1.1.1.1.1.1.1 r.1.1.1.1.1.1.2 r.1.1.1.1.1.2 r.1.1.1.1.2 r.1.1.1.2 r.1.1.2 r.1.2 r.2).2) : ∀ x0 x1 x2 x3 x4 x5 x6 x7, K x0 x1 x2 x3 x4 x5 x6 x7 := fun x0 x1 x2 x3 x4 x5 x6 x7 => ep_all (K := fun r : (((((((α × β) × γ) × δ) × ε) × ζ) × η) × θ) => K r.1.1.1.1.1.1.1 r.1.1.1.1.1.1.2 r.1.1.1.1.1.2 r.1.1.1.1.2 r.1.1.1.2 r.1.1.2 r.1.2 r.2) h (((((((x0, x1), x2), x3), x4), x5), x6), x7)
theorem ep9 {α β γ δ ε ζ η θ ι : Type} (ne : Nonempty ((((((((α × β) × γ) × δ) × ε) × ζ) × η) × θ) × ι)) {K : α → β → γ → δ → ε → ζ → η → θ → ι → Prop} (h : K (ep ne fun r : ((((((((α × β) × γ) × δ) × ε) × ζ) × η) × θ) × ι) => K r.1.1.1.1.1.1.1.1 r.1.1.1.1.1.1.1.2 r.1.1.1.1.1.1.2 r.1.1.1.1.1.2 r.1.1.1.1.2 r.1.1.1.2 r.1.1.2 r.1.2 r.2).1.1.1.1.1.1.1.1 (ep ne fun r : ((((((((α × β) × γ) × δ) × ε) × ζ) × η) × θ) × ι) => K r.1.1.1.1.1.1.1.1 r.1.1.1.1.1.1.1.2 r.1.1.1.1.1.1.2 r.1.1.1.1.1.2 r.1.1.1.1.2 r.1.1.1.2 r.1.1.2 r.1.2 r.2).1.1.1.1.1.1.1.2 (ep ne fun r : ((((((((α × β) × γ) × δ) × ε) × ζ) × η) × θ) × ι) => K r.1.1.1.1.1.1.1.1 r.1.1.1.1.1.1.1.2 r.1.1.1.1.1.1.2 r.1.1.1.1.1.2 r.1.1.1.1.2 r.1.1.1.2 r.1.1.2 r.1.2 r.2).1.1.1.1.1.1.2 (ep ne fun r : ((((((((α × β) × γ) × δ) × ε) × ζ) × η) × θ) × ι) => K r.1.1.1.1.1.1.1.1 r.1.1.1.1.1.1.1.2 r.1.1.1.1.1.1.2 r.1.1.1.1.1.2 r.1.1.1.1.2 r.1.1.1.2 r.1.1.2 r.1.2 r.2).1.1.1.1.1.2 (ep ne fun r : ((((((((α × β) × γ) × δ) × ε) × ζ) × η) × θ) × ι) => K r.1.1.1.1.1.1.1.1 r.1.1.1.1.1.1.1.2 r.1.1.1.1.1.1.2 r.1.1.1.1.1.2 r.1.1.1.1.2 r.1.1.1.2 r.1.1.2 r.1.2 r.2).1.1.1.1.2 (ep ne fun r : ((((((((α × β) × γ) × δ) × ε) × ζ) × η) × θ) × ι) => K r.1.1.1.1.1.1.1.1 r.1.1.1.1.1.1.1.2 r.1.1.1.1.1.1.2 r.1.1.1.1.1.2 r.1.1.1.1.2 r.1.1.1.2 r.1.1.2 r.1.2 r.2).1.1.1.2 (ep ne fun r : ((((((((α × β) × γ) × δ) × ε) × ζ) × η) × θ) × ι) => K r.1.1.1.1.1.1.1.1 r.1.1.1.1.1.1.1.2 r.1.1.1.1.1.1.2 r.1.1.1.1.1.2 r.1.1.1.1.2 r.1.1.1.2 r.1.1.2 r.1.2 r.2).1.1.2 (ep ne fun r : ((((((((α × β) × γ) × δ) × ε) × ζ) × η) × θ) × ι) => K r.1.1.1.1.1.1.1.1 r.1.1.1.1.1.1.1.2 r.1.1.1.1.1.1.2 r.1.1.1.1.1.2 r.1.1.1.1.2 r.1.1.1.2 r.1.1.2 r.1.2 r.2).1.2 (ep ne fun r : ((((((((α × β) × γ) × δ) × ε) × ζ) × η) × θ) × ι) => K r.1.1.1.1.1.1.1.1 r.1.1.1.1.1.1.1.2 r.1.1.1.1.1.1.2 r.1.1.1.1.1.2 r.1.1.1.1.2 r.1.1.1.2 r.1.1.2 r.1.2 r.2).2) : ∀ x0 x1 x2 x3 x4 x5 x6 x7 x8, K x0 x1 x2 x3 x4 x5 x6 x7 x8 := fun x0 x1 x2 x3 x4 x5 x6 x7 x8 => ep_all (K := fun r : ((((((((α × β) × γ) × δ) × ε) × ζ) × η) × θ) × ι) => K r.1.1.1.1.1.1.1.1 r.1.1.1.1.1.1.1.2 r.1.1.1.1.1.1.2 r.1.1.1.1.1.2 r.1.1.1.1.2 r.1.1.1.2 r.1.1.2 r.1.2 r.2) h ((((((((x0, x1), x2), x3), x4), x5), x6), x7), x8)
theorem ep10 {α β γ δ ε ζ η θ ι κ : Type} (ne : Nonempty (((((((((α × β) × γ) × δ) × ε) × ζ) × η) × θ) × ι) × κ)) {K : α → β → γ → δ → ε → ζ → η → θ → ι → κ → Prop} (h : K (ep ne fun r : (((((((((α × β) × γ) × δ) × ε) × ζ) × η) × θ) × ι) × κ) => K r.1.1.1.1.1.1.1.1.1 r.1.1.1.1.1.1.1.1.2 r.1.1.1.1.1.1.1.2 r.1.1.1.1.1.1.2 r.1.1.1.1.1.2 r.1.1.1.1.2 r.1.1.1.2 r.1.1.2 r.1.2 r.2).1.1.1.1.1.1.1.1.1 (ep ne fun r : (((((((((α × β) × γ) × δ) × ε) × ζ) × η) × θ) × ι) × κ) => K r.1.1.1.1.1.1.1.1.1 r.1.1.1.1.1.1.1.1.2 r.1.1.1.1.1.1.1.2 r.1.1.1.1.1.1.2 r.1.1.1.1.1.2 r.1.1.1.1.2 r.1.1.1.2 r.1.1.2 r.1.2 r.2).1.1.1.1.1.1.1.1.2 (ep ne fun r : (((((((((α × β) × γ) × δ) × ε) × ζ) × η) × θ) × ι) × κ) => K r.1.1.1.1.1.1.1.1.1 r.1.1.1.1.1.1.1.1.2 r.1.1.1.1.1.1.1.2 r.1.1.1.1.1.1.2 r.1.1.1.1.1.2 r.1.1.1.1.2 r.1.1.1.2 r.1.1.2 r.1.2 r.2).1.1.1.1.1.1.1.2 (ep ne fun r : (((((((((α × β) × γ) × δ) × ε) × ζ) × η) × θ) × ι) × κ) => K r.1.1.1.1.1.1.1.1.1 r.1.1.1.1.1.1.1.1.2 r.1.1.1.1.1.1.1.2 r.1.1.1.1.1.1.2 r.1.1.1.1.1.2 r.1.1.1.1.2 r.1.1.1.2 r.1.1.2 r.1.2 r.2).1.1.1.1.1.1.2 (ep ne fun r : (((((((((α × β) × γ) × δ) × ε) × ζ) × η) × θ) × ι) × κ) => K r.1.1.1.1.1.1.1.1.1 r.1.1.1.1.1.1.1.1.2 r.1.1.1.1.1.1.1.2 r.1.1.1.1.1.1.2 r.1.1.1.1.1.2 r.1.1.1.1.2 r.1.1.1.2 r.1.1.2 r.1.2 r.2).1.1.1.1.1.2 (ep ne fun r : (((((((((α × β) × γ) × δ) × ε) × ζ) × η) × θ) × ι) × κ) => K r.1.1.1.1.1.1.1.1.1 r.1.1.1.1.1.1.1.1.2 r.1.1.1.1.1.1.1.2 r.1.1.1.1.1.1.2 r.1.1.1.1.1.2 r.1.1.1.1.2 r.1.1.1.2 r.1.1.2 r.1.2 r.2).1.1.1.1.2 (ep ne fun r : (((((((((α × β) × γ) × δ) × ε) × ζ) × η) × θ) × ι) × κ) => K r.1.1.1.1.1.1.1.1.1 r.1.1.1.1.1.1.1.1.2 r.1.1.1.1.1.1.1.2 r.1.1.1.1.1.1.2 r.1.1.1.1.1.2 r.1.1.1.1.2 r.1.1.1.2 r.1.1.2 r.1.2 r.2).1.1.1.2 (ep ne fun r : (((((((((α × β) × γ) × δ) × ε) × ζ) × η) × θ) × ι) × κ) => K r.1.1.1.1.1.1.1.1.1 r.1.1.1.1.1.1.1.1.2 r.1.1.1.1.1.1.1.2 r.1.1.1.1.1.1.2 r.1.1.1.1.1.2 r.1.1.1.1.2 r.1.1.1.2 r.1.1.2 r.1.2 r.2).1.1.2 (ep ne fun r : (((((((((α × β) × γ) × δ) × ε) × ζ) × η) × θ) × ι) × κ) => K r.1.1.1.1.1.1.1.1.1 r.1.1.1.1.1.1.1.1.2 r.1.1.1.1.1.1.1.2 r.1.1.1.1.1.1.2 r.1.1.1.1.1.2 r.1.1.1.1.2 r.1.1.1.2 r.1.1.2 r.1.2 r.2).1.2 (ep ne fun r : (((((((((α × β) × γ) × δ) × ε) × ζ) × η) × θ) × ι) × κ) => K r.1.1.1.1.1.1.1.1.1 r.1.1.1.1.1.1.1.1.2 r.1.1.1.1.1.1.1.2 r.1.1.1.1.1.1.2 r.1.1.1.1.1.2 r.1.1.1.1.2 r.1.1.1.2 r.1.1.2 r.1.2 r.2).2) : ∀ x0 x1 x2 x3 x4 x5 x6 x7 x8 x9, K x0 x1 x2 x3 x4 x5 x6 x7 x8 x9 := fun x0 x1 x2 x3 x4 x5 x6 x7 x8 x9 => ep_all (K := fun r : (((((((((α × β) × γ) × δ) × ε) × ζ) × η) × θ) × ι) × κ) => K r.1.1.1.1.1.1.1.1.1 r.1.1.1.1.1.1.1.1.2 r.1.1.1.1.1.1.1.2 r.1.1.1.1.1.1.2 r.1.1.1.1.1.2 r.1.1.1.1.2 r.1.1.1.2 r.1.1.2 r.1.2 r.2) h (((((((((x0, x1), x2), x3), x4), x5), x6), x7), x8), x9)
theorem ep11 {α β γ δ ε ζ η θ ι κ χ : Type} (ne : Nonempty ((((((((((α × β) × γ) × δ) × ε) × ζ) × η) × θ) × ι) × κ) × χ)) {K : α → β → γ → δ → ε → ζ → η → θ → ι → κ → χ → Prop} (h : K (ep ne fun r : ((((((((((α × β) × γ) × δ) × ε) × ζ) × η) × θ) × ι) × κ) × χ) => K r.1.1.1.1.1.1.1.1.1.1 r.1.1.1.1.1.1.1.1.1.2 r.1.1.1.1.1.1.1.1.2 r.1.1.1.1.1.1.1.2 r.1.1.1.1.1.1.2 r.1.1.1.1.1.2 r.1.1.1.1.2 r.1.1.1.2 r.1.1.2 r.1.2 r.2).1.1.1.1.1.1.1.1.1.1 (ep ne fun r : ((((((((((α × β) × γ) × δ) × ε) × ζ) × η) × θ) × ι) × κ) × χ) => K r.1.1.1.1.1.1.1.1.1.1 r.1.1.1.1.1.1.1.1.1.2 r.1.1.1.1.1.1.1.1.2 r.1.1.1.1.1.1.1.2 r.1.1.1.1.1.1.2 r.1.1.1.1.1.2 r.1.1.1.1.2 r.1.1.1.2 r.1.1.2 r.1.2 r.2).1.1.1.1.1.1.1.1.1.2 (ep ne fun r : ((((((((((α × β) × γ) × δ) × ε) × ζ) × η) × θ) × ι) × κ) × χ) => K r.1.1.1.1.1.1.1.1.1.1 r.1.1.1.1.1.1.1.1.1.2 r.1.1.1.1.1.1.1.1.2 r.1.1.1.1.1.1.1.2 r.1.1.1.1.1.1.2 r.1.1.1.1.1.2 r.1.1.1.1.2 r.1.1.1.2 r.1.1.2 r.1.2 r.2).1.1.1.1.1.1.1.1.2 (ep ne fun r : ((((((((((α × β) × γ) × δ) × ε) × ζ) × η) × θ) × ι) × κ) × χ) => K r.1.1.1.1.1.1.1.1.1.1 r.1.1.1.1.1.1.1.1.1.2 r.1.1.1.1.1.1.1.1.2 r.1.1.1.1.1.1.1.2 r.1.1.1.1.1.1.2 r.1.1.1.1.1.2 r.1.1.1.1.2 r.1.1.1.2 r.1.1.2 r.1.2 r.2).1.1.1.1.1.1.1.2 (ep ne fun r : ((((((((((α × β) × γ) × δ) × ε) × ζ) × η) × θ) × ι) × κ) × χ) => K r.1.1.1.1.1.1.1.1.1.1 r.1.1.1.1.1.1.1.1.1.2 r.1.1.1.1.1.1.1.1.2 r.1.1.1.1.1.1.1.2 r.1.1.1.1.1.1.2 r.1.1.1.1.1.2 r.1.1.1.1.2 r.1.1.1.2 r.1.1.2 r.1.2 r.2).1.1.1.1.1.1.2 (ep ne fun r : ((((((((((α × β) × γ) × δ) × ε) × ζ) × η) × θ) × ι) × κ) × χ) => K r.1.1.1.1.1.1.1.1.1.1 r.1.1.1.1.1.1.1.1.1.2 r.1.1.1.1.1.1.1.1.2 r.1.1.1.1.1.1.1.2 r.1.1.1.1.1.1.2 r.1.1.1.1.1.2 r.1.1.1.1.2 r.1.1.1.2 r.1.1.2 r.1.2 r.2).1.1.1.1.1.2 (ep ne fun r : ((((((((((α × β) × γ) × δ) × ε) × ζ) × η) × θ) × ι) × κ) × χ) => K r.1.1.1.1.1.1.1.1.1.1 r.1.1.1.1.1.1.1.1.1.2 r.1.1.1.1.1.1.1.1.2 r.1.1.1.1.1.1.1.2 r.1.1.1.1.1.1.2 r.1.1.1.1.1.2 r.1.1.1.1.2 r.1.1.1.2 r.1.1.2 r.1.2 r.2).1.1.1.1.2 (ep ne fun r : ((((((((((α × β) × γ) × δ) × ε) × ζ) × η) × θ) × ι) × κ) × χ) => K r.1.1.1.1.1.1.1.1.1.1 r.1.1.1.1.1.1.1.1.1.2 r.1.1.1.1.1.1.1.1.2 r.1.1.1.1.1.1.1.2 r.1.1.1.1.1.1.2 r.1.1.1.1.1.2 r.1.1.1.1.2 r.1.1.1.2 r.1.1.2 r.1.2 r.2).1.1.1.2 (ep ne fun r : ((((((((((α × β) × γ) × δ) × ε) × ζ) × η) × θ) × ι) × κ) × χ) => K r.1.1.1.1.1.1.1.1.1.1 r.1.1.1.1.1.1.1.1.1.2 r.1.1.1.1.1.1.1.1.2 r.1.1.1.1.1.1.1.2 r.1.1.1.1.1.1.2 r.1.1.1.1.1.2 r.1.1.1.1.2 r.1.1.1.2 r.1.1.2 r.1.2 r.2).1.1.2 (ep ne fun r : ((((((((((α × β) × γ) × δ) × ε) × ζ) × η) × θ) × ι) × κ) × χ) => K r.1.1.1.1.1.1.1.1.1.1 r.1.1.1.1.1.1.1.1.1.2 r.1.1.1.1.1.1.1.1.2 r.1.1.1.1.1.1.1.2 r.1.1.1.1.1.1.2 r.1.1.1.1.1.2 r.1.1.1.1.2 r.1.1.1.2 r.1.1.2 r.1.2 r.2).1.2 (ep ne fun r : ((((((((((α × β) × γ) × δ) × ε) × ζ) × η) × θ) × ι) × κ) × χ) => K r.1.1.1.1.1.1.1.1.1.1 r.1.1.1.1.1.1.1.1.1.2 r.1.1.1.1.1.1.1.1.2 r.1.1.1.1.1.1.1.2 r.1.1.1.1.1.1.2 r.1.1.1.1.1.2 r.1.1.1.1.2 r.1.1.1.2 r.1.1.2 r.1.2 r.2).2) : ∀ x0 x1 x2 x3 x4 x5 x6 x7 x8 x9 x10, K x0 x1 x2 x3 x4 x5 x6 x7 x8 x9 x10 := fun x0 x1 x2 x3 x4 x5 x6 x7 x8 x9 x10 => ep_all (K := fun r : ((((((((((α × β) × γ) × δ) × ε) × ζ) × η) × θ) × ι) × κ) × χ) => K r.1.1.1.1.1.1.1.1.1.1 r.1.1.1.1.1.1.1.1.1.2 r.1.1.1.1.1.1.1.1.2 r.1.1.1.1.1.1.1.2 r.1.1.1.1.1.1.2 r.1.1.1.1.1.2 r.1.1.1.1.2 r.1.1.1.2 r.1.1.2 r.1.2 r.2) h ((((((((((x0, x1), x2), x3), x4), x5), x6), x7), x8), x9), x10)
theorem ep12 {α β γ δ ε ζ η θ ι κ χ μ : Type} (ne : Nonempty (((((((((((α × β) × γ) × δ) × ε) × ζ) × η) × θ) × ι) × κ) × χ) × μ)) {K : α → β → γ → δ → ε → ζ → η → θ → ι → κ → χ → μ → Prop} (h : K (ep ne fun r : (((((((((((α × β) × γ) × δ) × ε) × ζ) × η) × θ) × ι) × κ) × χ) × μ) => K r.1.1.1.1.1.1.1.1.1.1.1 r.1.1.1.1.1.1.1.1.1.1.2 r.1.1.1.1.1.1.1.1.1.2 r.1.1.1.1.1.1.1.1.2 r.1.1.1.1.1.1.1.2 r.1.1.1.1.1.1.2 r.1.1.1.1.1.2 r.1.1.1.1.2 r.1.1.1.2 r.1.1.2 r.1.2 r.2).1.1.1.1.1.1.1.1.1.1.1 (ep ne fun r : (((((((((((α × β) × γ) × δ) × ε) × ζ) × η) × θ) × ι) × κ) × χ) × μ) => K r.1.1.1.1.1.1.1.1.1.1.1 r.1.1.1.1.1.1.1.1.1.1.2 r.1.1.1.1.1.1.1.1.1.2 r.1.1.1.1.1.1.1.1.2 r.1.1.1.1.1.1.1.2 r.1.1.1.1.1.1.2 r.1.1.1.1.1.2 r.1.1.1.1.2 r.1.1.1.2 r.1.1.2 r.1.2 r.2).1.1.1.1.1.1.1.1.1.1.2 (ep ne fun r : (((((((((((α × β) × γ) × δ) × ε) × ζ) × η) × θ) × ι) × κ) × χ) × μ) => K r.1.1.1.1.1.1.1.1.1.1.1 r.1.1.1.1.1.1.1.1.1.1.2 r.1.1.1.1.1.1.1.1.1.2 r.1.1.1.1.1.1.1.1.2 r.1.1.1.1.1.1.1.2 r.1.1.1.1.1.1.2 r.1.1.1.1.1.2 r.1.1.1.1.2 r.1.1.1.2 r.1.1.2 r.1.2 r.2).1.1.1.1.1.1.1.1.1.2 (ep ne fun r : (((((((((((α × β) × γ) × δ) × ε) × ζ) × η) × θ) × ι) × κ) × χ) × μ) => K r.1.1.1.1.1.1.1.1.1.1.1 r.1.1.1.1.1.1.1.1.1.1.2 r.1.1.1.1.1.1.1.1.1.2 r.1.1.1.1.1.1.1.1.2 r.1.1.1.1.1.1.1.2 r.1.1.1.1.1.1.2 r.1.1.1.1.1.2 r.1.1.1.1.2 r.1.1.1.2 r.1.1.2 r.1.2 r.2).1.1.1.1.1.1.1.1.2 (ep ne fun r : (((((((((((α × β) × γ) × δ) × ε) × ζ) × η) × θ) × ι) × κ) × χ) × μ) => K r.1.1.1.1.1.1.1.1.1.1.1 r.1.1.1.1.1.1.1.1.1.1.2 r.1.1.1.1.1.1.1.1.1.2 r.1.1.1.1.1.1.1.1.2 r.1.1.1.1.1.1.1.2 r.1.1.1.1.1.1.2 r.1.1.1.1.1.2 r.1.1.1.1.2 r.1.1.1.2 r.1.1.2 r.1.2 r.2).1.1.1.1.1.1.1.2 (ep ne fun r : (((((((((((α × β) × γ) × δ) × ε) × ζ) × η) × θ) × ι) × κ) × χ) × μ) => K r.1.1.1.1.1.1.1.1.1.1.1 r.1.1.1.1.1.1.1.1.1.1.2 r.1.1.1.1.1.1.1.1.1.2 r.1.1.1.1.1.1.1.1.2 r.1.1.1.1.1.1.1.2 r.1.1.1.1.1.1.2 r.1.1.1.1.1.2 r.1.1.1.1.2 r.1.1.1.2 r.1.1.2 r.1.2 r.2).1.1.1.1.1.1.2 (ep ne fun r : (((((((((((α × β) × γ) × δ) × ε) × ζ) × η) × θ) × ι) × κ) × χ) × μ) => K r.1.1.1.1.1.1.1.1.1.1.1 r.1.1.1.1.1.1.1.1.1.1.2 r.1.1.1.1.1.1.1.1.1.2 r.1.1.1.1.1.1.1.1.2 r.1.1.1.1.1.1.1.2 r.1.1.1.1.1.1.2 r.1.1.1.1.1.2 r.1.1.1.1.2 r.1.1.1.2 r.1.1.2 r.1.2 r.2).1.1.1.1.1.2 (ep ne fun r : (((((((((((α × β) × γ) × δ) × ε) × ζ) × η) × θ) × ι) × κ) × χ) × μ) => K r.1.1.1.1.1.1.1.1.1.1.1 r.1.1.1.1.1.1.1.1.1.1.2 r.1.1.1.1.1.1.1.1.1.2 r.1.1.1.1.1.1.1.1.2 r.1.1.1.1.1.1.1.2 r.1.1.1.1.1.1.2 r.1.1.1.1.1.2 r.1.1.1.1.2 r.1.1.1.2 r.1.1.2 r.1.2 r.2).1.1.1.1.2 (ep ne fun r : (((((((((((α × β) × γ) × δ) × ε) × ζ) × η) × θ) × ι) × κ) × χ) × μ) => K r.1.1.1.1.1.1.1.1.1.1.1 r.1.1.1.1.1.1.1.1.1.1.2 r.1.1.1.1.1.1.1.1.1.2 r.1.1.1.1.1.1.1.1.2 r.1.1.1.1.1.1.1.2 r.1.1.1.1.1.1.2 r.1.1.1.1.1.2 r.1.1.1.1.2 r.1.1.1.2 r.1.1.2 r.1.2 r.2).1.1.1.2 (ep ne fun r : (((((((((((α × β) × γ) × δ) × ε) × ζ) × η) × θ) × ι) × κ) × χ) × μ) => K r.1.1.1.1.1.1.1.1.1.1.1 r.1.1.1.1.1.1.1.1.1.1.2 r.1.1.1.1.1.1.1.1.1.2 r.1.1.1.1.1.1.1.1.2 r.1.1.1.1.1.1.1.2 r.1.1.1.1.1.1.2 r.1.1.1.1.1.2 r.1.1.1.1.2 r.1.1.1.2 r.1.1.2 r.1.2 r.2).1.1.2 (ep ne fun r : (((((((((((α × β) × γ) × δ) × ε) × ζ) × η) × θ) × ι) × κ) × χ) × μ) => K r.1.1.1.1.1.1.1.1.1.1.1 r.1.1.1.1.1.1.1.1.1.1.2 r.1.1.1.1.1.1.1.1.1.2 r.1.1.1.1.1.1.1.1.2 r.1.1.1.1.1.1.1.2 r.1.1.1.1.1.1.2 r.1.1.1.1.1.2 r.1.1.1.1.2 r.1.1.1.2 r.1.1.2 r.1.2 r.2).1.2 (ep ne fun r : (((((((((((α × β) × γ) × δ) × ε) × ζ) × η) × θ) × ι) × κ) × χ) × μ) => K r.1.1.1.1.1.1.1.1.1.1.1 r.1.1.1.1.1.1.1.1.1.1.2 r.1.1.1.1.1.1.1.1.1.2 r.1.1.1.1.1.1.1.1.2 r.1.1.1.1.1.1.1.2 r.1.1.1.1.1.1.2 r.1.1.1.1.1.2 r.1.1.1.1.2 r.1.1.1.2 r.1.1.2 r.1.2 r.2).2) : ∀ x0 x1 x2 x3 x4 x5 x6 x7 x8 x9 x10 x11, K x0 x1 x2 x3 x4 x5 x6 x7 x8 x9 x10 x11 := fun x0 x1 x2 x3 x4 x5 x6 x7 x8 x9 x10 x11 => ep_all (K := fun r : (((((((((((α × β) × γ) × δ) × ε) × ζ) × η) × θ) × ι) × κ) × χ) × μ) => K r.1.1.1.1.1.1.1.1.1.1.1 r.1.1.1.1.1.1.1.1.1.1.2 r.1.1.1.1.1.1.1.1.1.2 r.1.1.1.1.1.1.1.1.2 r.1.1.1.1.1.1.1.2 r.1.1.1.1.1.1.2 r.1.1.1.1.1.2 r.1.1.1.1.2 r.1.1.1.2 r.1.1.2 r.1.2 r.2) h (((((((((((x0, x1), x2), x3), x4), x5), x6), x7), x8), x9), x10), x11)
theorem neA : Nonempty Around := ⟨{}⟩
theorem neD : Nonempty Drawn := ⟨{}⟩
theorem neW : Nonempty World := ⟨{ draws := fun _ _ => 0, params := { strHash := fun _ => 0, shareClass := id, mergeTok := id, idOf := fun _ => 0, idOfShared := fun _ _ => 0, followText := fun _ => true, idOfImm := fun _ => 0 } }⟩
theorem neP : Nonempty Pl := ⟨⟨0, 0, 0, 0, 0, 0, 0, fun _ => 0, fun _ => 0⟩⟩
theorem neS : Nonempty St := ⟨⟨[], [], 0, []⟩⟩
theorem neSc : Nonempty Scope := ⟨⟨.module, [], false, false, []⟩⟩
theorem neM : Nonempty Model := neW.elim fun w => ⟨model PR w⟩
theorem nePr {α β : Type} (a : Nonempty α) (b : Nonempty β) : Nonempty (α × β) := a.elim fun x => b.elim fun y => ⟨(x, y)⟩
theorem neG : Nonempty Sg := ⟨⟨0, 0, 0, 0, [], [], [], [], [], []⟩⟩
theorem neE : Nonempty ((((((((Heap × Addr) × Heap) × Nat) × Program) × List Str) × (ExcName → Option Value)) × (Str → Option Value)) × (Str → Option Value)) := ⟨((((((((default, 0), default), 0), default), []), fun _ => none), fun _ => none), fun _ => none)⟩
end XB2_
end Mine
section B3_
namespace Mine
def GM (M : Model) (A : Around) (ov : Value) (name : Str) (Q : Value → List Value → Shared → Prop) (E : Value → Shared → Prop) (s : Shared) : Prop := ∀ pl, wpAny M A (getMethod ov name pl) (fun fx s₂ => Q fx.1 fx.2 s₂) E s
section
variable {w : World} {A : Around} {E : Value → Shared → Prop} {hp : Heap} {gn : Array GenState} {dr : Drawn} {tk : Nat} {oS : OsState} {h₀ : Heap} {L : Addr} {m : Str → Option Value} {P : Pl} {X news : Led} {st : St} {Φ : List Fact}

theorem off_X {h : Heap} (N : News h₀ L h (X ++ news)) {a : Addr} (ha : h.objs.size ≤ a) : ∀ p ∈ X, p.1 ≠ a := fun p hp e => by
  have := Heap.lt_size (N p (List.mem_append_left _ hp)).1
  exact absurd this (by rw [e]; exact Nat.not_lt.mpr ha)
theorem past_X {h : Heap} {a : Addr} {o : Obj} (N : News h₀ L h ((a, o) :: (X ++ news))) : News h₀ L h (X ++ ((a, o) :: news)) := news_sub N fun p hp => by
  rcases List.mem_append.mp hp with h | h
  · exact .tail _ (List.mem_append_left _ h)
  · rcases List.mem_cons.mp h with rfl | h
    · exact .head _
    · exact .tail _ (List.mem_append_right _ h)
theorem Hs.says (H : Hs w P X st news Φ) {f : Fact} (h : f ∈ Φ) : ∃ mem pool, f.says P mem pool news := let ⟨_, mem, pool, _, _, _, F⟩ := H; ⟨mem, pool, F f h⟩
theorem Hs.freshAt {h : Heap} (H : Hs w P X st news Φ) (N : News h₀ L h (X ++ news)) {a : Addr} (ha : h.objs.size ≤ a) : ¬ P.isMut a := let ⟨_, _, _, R, _⟩ := H; R.fresh N ha
theorem Hs.fact {f : Fact} {a : Addr} {o : Obj} (H : Hs w P X st news Φ) (ha : ∀ p ∈ X, p.1 ≠ a) (hf : ∀ mem pool, f.says P mem pool ((a, o) :: news)) : Hs w P X st ((a, o) :: news) (f :: Φ) :=
  let ⟨σ, mem, pool, R, I, T, F⟩ := H
  ⟨σ, mem, pool, R.cons ha, I.mono .cons, T.mono .cons, fun g hg => by
    rcases List.mem_cons.mp hg with rfl | hg
    · exact hf mem pool
    · exact Fact.mono .cons (F g hg)⟩

theorem newList_H {M : Model} {vs : List Value} {Q : Value → Shared → Prop} (F : Fr h₀ L hp m) (N : News h₀ L hp (X ++ news)) (H : Hs w P X st news Φ) (hz : vs.length ≤ 1000)
    (h : ∀ l news' h', Fr h₀ L h' m → News h₀ L h' (X ++ news') → Hs w P X st news' (.ls l vs :: Φ) → Q (.ref l) ⟨h', gn, dr, tk, oS⟩) : wpAny M A (newList vs) Q E ⟨hp, gn, dr, tk, oS⟩ :=
  newList_N F N (fun h' F' N' => h _ _ h' F' (past_X N') (H.fact (off_X N (Nat.le_refl _)) fun _ _ => ⟨_, .head _, H.freshAt N (Nat.le_refl _)⟩)) (by rw [sizeLine_eq]; lia)
theorem newTuple_H {M : Model} {vs : List Value} {Q : Value → Shared → Prop} (F : Fr h₀ L hp m) (N : News h₀ L hp (X ++ news)) (H : Hs w P X st news Φ) (hz : vs.length ≤ 1000)
    (h : ∀ l news' h', Fr h₀ L h' m → News h₀ L h' (X ++ news') → Hs w P X st news' (.tu l vs :: Φ) → Q (.ref l) ⟨h', gn, dr, tk, oS⟩) : wpAny M A (newTuple vs) Q E ⟨hp, gn, dr, tk, oS⟩ :=
  newTuple_N F N (fun h' F' N' => h _ _ h' F' (past_X N') (H.fact (off_X N (Nat.le_refl _)) fun _ _ => ⟨.head _, H.freshAt N (Nat.le_refl _)⟩)) (by rw [sizeLine_eq]; lia)

theorem Im.isTup {h : Heap} {a : Addr} {vs : List Value} (N : News h₀ L h (X ++ news)) (I : Im P news a (tupOf vs)) : IsTup h a vs.toArray := ⟨_, (N _ (List.mem_append_right _ I.1)).1, rfl, 0, rfl⟩
theorem Im.isList {h : Heap} {a : Addr} {vs : Array Value} {n : Nat} (N : News h₀ L h (X ++ news)) (I : Im P news a (listOf vs n)) : h.IsList a vs := ⟨_, (N _ (List.mem_append_right _ I.1)).1, rfl, n, rfl⟩

theorem tv_0 {value slice : Expr} {a : Addr} {n : Nat} {os : Option Str} {u : Tok} {Q : Value → Shared → Prop} (N : News h₀ L hp (X ++ news)) (H : Hs w P X st news Φ) (hm : Fact.tv a n os ∈ Φ) (h : ∀ t, Q (.int 4 t) ⟨hp, gn, dr, tk, oS⟩)
    (hs : subscripted slice false (.ref a) (.int 0 u) = operate [.ref a, .int 0 u] (getItem (.ref a) (.int 0 u))) : wpAny (model PR w) A (subscriptTail value slice (.ref a) (.int 0 u)) Q E ⟨hp, gn, dr, tk, oS⟩ := by
  obtain ⟨mem, pool, ⟨t, t', I⟩, -⟩ := H.says hm
  exact item_tupleT (l := [.int 4 t, .int (ad n) t']) (k := 0) (j := 0) (I.isTup N) (by decide) (by decide) rfl rfl (h t) hs
theorem tv_1 {value slice : Expr} {a : Addr} {n : Nat} {os : Option Str} {u : Tok} {Q : Value → Shared → Prop} (N : News h₀ L hp (X ++ news)) (H : Hs w P X st news Φ) (hm : Fact.tv a n os ∈ Φ) (h : ∀ t, Q (.int (ad n) t) ⟨hp, gn, dr, tk, oS⟩)
    (hs : subscripted slice false (.ref a) (.int 1 u) = operate [.ref a, .int 1 u] (getItem (.ref a) (.int 1 u))) : wpAny (model PR w) A (subscriptTail value slice (.ref a) (.int 1 u)) Q E ⟨hp, gn, dr, tk, oS⟩ := by
  obtain ⟨mem, pool, ⟨t, t', I⟩, -⟩ := H.says hm
  exact item_tupleT (l := [.int 4 t, .int (ad n) t']) (k := 1) (j := 1) (I.isTup N) (by decide) (by decide) rfl rfl (h t') hs
theorem tu_i {value slice : Expr} {a : Addr} {vs : List Value} {k : Nat} {v : Value} {u : Tok} {Q : Value → Shared → Prop} (N : News h₀ L hp (X ++ news)) (H : Hs w P X st news Φ) (hm : Fact.tu a vs ∈ Φ) (hk : vs[k]? = some v) (hz : vs.length ≤ 1000) (h : Q v ⟨hp, gn, dr, tk, oS⟩)
    (hs : subscripted slice false (.ref a) (.int k u) = operate [.ref a, .int k u] (getItem (.ref a) (.int k u))) : wpAny (model PR w) A (subscriptTail value slice (.ref a) (.int (k : Int) u)) Q E ⟨hp, gn, dr, tk, oS⟩ := by
  obtain ⟨mem, pool, I⟩ := H.says hm
  obtain ⟨hlt, -⟩ := List.getElem?_eq_some_iff.mp hk
  exact item_tupleT (k := (k : Int)) (j := k) (Im.isTup N I) (by lia) (by lia) (by unfold seqIndex?; simp; lia) hk h hs
theorem ls_i {value slice : Expr} {a : Addr} {vs : List Value} {k : Nat} {v : Value} {u : Tok} {Q : Value → Shared → Prop} (N : News h₀ L hp (X ++ news)) (H : Hs w P X st news Φ) (hm : Fact.ls a vs ∈ Φ) (hk : vs[k]? = some v) (hz : vs.length ≤ 1000) (h : Q v ⟨hp, gn, dr, tk, oS⟩)
    (hs : subscripted slice false (.ref a) (.int k u) = operate [.ref a, .int k u] (getItem (.ref a) (.int k u))) : wpAny (model PR w) A (subscriptTail value slice (.ref a) (.int (k : Int) u)) Q E ⟨hp, gn, dr, tk, oS⟩ := by
  obtain ⟨mem, pool, n, I⟩ := H.says hm
  obtain ⟨hlt, -⟩ := List.getElem?_eq_some_iff.mp hk
  have hl := Im.isList N I
  exact tail_any hl.typeIs slot_list_getitem.lookup (wpAny_getItem_list hl (by lia) (by lia) (by simpa using hk) h) hs
end
end Mine
end B3_
section BG_
namespace Mine
theorem kfacts (w : World) : ((((((((nsIn (hd.heap_1 w.params) mainGlobals "wrap_bits" = some (some (Value.ref 58))) ∧ (nsIn (hd.heap_1 w.params) mainGlobals "LEAST_SIZE" = some (some (Value.int 3 360)))) ∧ ((nsIn (hd.heap_1 w.params) mainGlobals "HEAD_WORDS" = some (some (Value.int 2 358))) ∧ ((nsIn (hd.heap_1 w.params) mainGlobals "words_for" = some (some (Value.ref 79))) ∧ (nsIn (hd.heap_1 w.params) mainGlobals "FIRST_ADDRESS" = some (some (Value.int 16 356)))))) ∧ (((nsIn (hd.heap_1 w.params) mainGlobals "Thing" = some (some (Value.ref 96))) ∧ (nsIn (hd.heap_1 w.params) mainGlobals "ST_RUN" = some (some (Value.int 0 496)))) ∧ ((nsIn (hd.heap_1 w.params) mainGlobals "PlaceHost" = some (some (Value.ref 145))) ∧ ((nsIn (hd.heap_1 w.params) mainGlobals "Starter" = some (some (Value.ref 202))) ∧ (nsIn (hd.heap_1 w.params) mainGlobals "KindCloser" = some (some (Value.ref 251))))))) ∧ ((((nsIn (hd.heap_1 w.params) mainGlobals "Sweeper" = some (some (Value.ref 223))) ∧ (nsIn (hd.heap_1 w.params) mainGlobals "alloc_thing" = some (some (Value.ref 498)))) ∧ ((nsIn (hd.heap_1 w.params) mainGlobals "text_held" = some (some (Value.ref 505))) ∧ ((nsIn (hd.heap_1 w.params) mainGlobals "interned_text" = some (some (Value.ref 519))) ∧ (nsIn (hd.heap_1 w.params) mainGlobals "made_text" = some (some (Value.ref 512)))))) ∧ (((nsIn (hd.heap_1 w.params) mainGlobals "JP_STAY" = some (some (Value.int (-2) 494))) ∧ ((nsIn (hd.heap_1 w.params) mainGlobals "STRING" = some (some (Value.int 13 222))) ∧ (nsIn (hd.heap_1 w.params) mainGlobals "V_TEXT" = some (some (Value.int 8 323))))) ∧ ((nsIn (hd.heap_1 w.params) mainGlobals "heap_alloc" = some (some (Value.ref 128))) ∧ ((nsIn (hd.heap_1 w.params) mainGlobals "first_slots" = some (some (Value.ref 491))) ∧ (nsIn (hd.heap_1 w.params) mainGlobals "V_REF" = some (some (Value.int 4 321)))))))) ∧ (((((nsIn (hd.heap_1 w.params) mainGlobals "V_I4" = some (some (Value.int 1 315))) ∧ (nsIn (hd.heap_1 w.params) mainGlobals "T_NULLREF" = some (some (Value.int 21 303)))) ∧ ((nsIn (hd.heap_1 w.params) mainGlobals "TEXT_NULL" = some (some (Value.str "Object reference not set to an instance of an object." 506))) ∧ ((nsIn (hd.heap_1 w.params) mainGlobals "NT_STAY" = some (some (Value.int (-2) 504))) ∧ (nsIn (hd.heap_1 w.params) mainGlobals "wrap32" = some (some (Value.ref 65)))))) ∧ (((nsIn (hd.heap_1 w.params) mainGlobals "text_at" = some (some (Value.ref 540))) ∧ ((nsIn (hd.heap_1 w.params) mainGlobals "MOST_UNITS" = some (some (Value.int 1048576 1068))) ∧ (nsIn (hd.heap_1 w.params) mainGlobals "bad_argument" = some (some (Value.ref 554))))) ∧ ((nsIn (hd.heap_1 w.params) mainGlobals "T_OOM" = some (some (Value.int 30 307))) ∧ ((nsIn (hd.heap_1 w.params) mainGlobals "LONG_TEXT" = some (some (Value.str "Insufficient memory to continue the execution of the program." 1070))) ∧ (nsIn (hd.heap_1 w.params) mainGlobals "no_object" = some (some (Value.ref 547))))))) ∧ ((((nsIn (hd.heap_1 w.params) mainGlobals "T_INDEX" = some (some (Value.int 22 305))) ∧ (nsIn (hd.heap_1 w.params) mainGlobals "bool_value" = some (some (Value.ref 526)))) ∧ ((nsIn (hd.heap_1 w.params) mainGlobals "thing_named" = some (some (Value.ref 533))) ∧ ((nsIn (hd.heap_1 w.params) mainGlobals "text_hash" = some (some (Value.ref 561))) ∧ (nsIn (hd.heap_1 w.params) mainGlobals "T_ARGRANGE" = some (some (Value.int 32 311)))))) ∧ (((nsIn (hd.heap_1 w.params) mainGlobals "EMPTY_RANGE" = some (some (Value.str "Index and length must refer to a location within the string." 1072))) ∧ ((nsIn (hd.heap_1 w.params) mainGlobals "T_ARG" = some (some (Value.int 31 309))) ∧ (nsIn (hd.heap_1 w.params) mainGlobals "N_CONCAT" = some (some (Value.int 1 1050))))) ∧ ((nsIn (hd.heap_1 w.params) mainGlobals "TextConcat" = some (some (Value.ref 578))) ∧ ((nsIn (hd.heap_1 w.params) mainGlobals "N_STR_LENGTH" = some (some (Value.int 2 1052))) ∧ (nsIn (hd.heap_1 w.params) mainGlobals "TextLength" = some (some (Value.ref 597))))))))) ∧ ((((((nsIn (hd.heap_1 w.params) mainGlobals "N_STR_CHARS" = some (some (Value.int 3 1054))) ∧ (nsIn (hd.heap_1 w.params) mainGlobals "TextChars" = some (some (Value.ref 616)))) ∧ ((nsIn (hd.heap_1 w.params) mainGlobals "N_STR_EQ" = some (some (Value.int 4 1056))) ∧ ((nsIn (hd.heap_1 w.params) mainGlobals "TextSame" = some (some (Value.ref 635))) ∧ (nsIn (hd.heap_1 w.params) mainGlobals "N_STR_EQUALS" = some (some (Value.int 5 1058)))))) ∧ (((nsIn (hd.heap_1 w.params) mainGlobals "TextEquals" = some (some (Value.ref 654))) ∧ (nsIn (hd.heap_1 w.params) mainGlobals "N_STR_HASH" = some (some (Value.int 6 1060)))) ∧ ((nsIn (hd.heap_1 w.params) mainGlobals "TextHash" = some (some (Value.ref 673))) ∧ ((nsIn (hd.heap_1 w.params) mainGlobals "N_SUBSTRING" = some (some (Value.int 7 1062))) ∧ (nsIn (hd.heap_1 w.params) mainGlobals "TextPart" = some (some (Value.ref 692))))))) ∧ ((((nsIn (hd.heap_1 w.params) mainGlobals "N_INDEXOF" = some (some (Value.int 8 1064))) ∧ (nsIn (hd.heap_1 w.params) mainGlobals "TextIndex" = some (some (Value.ref 711)))) ∧ ((nsIn (hd.heap_1 w.params) mainGlobals "N_STR_COMPARE" = some (some (Value.int 9 1066))) ∧ ((nsIn (hd.heap_1 w.params) mainGlobals "TextCompare" = some (some (Value.ref 730))) ∧ (nsIn (hd.heap_1 w.params) mainGlobals "_law_ask" = some (some (Value.ref 816)))))) ∧ (((nsIn (hd.heap_1 w.params) mainGlobals "_law_number" = some (some (Value.ref 823))) ∧ ((nsIn (hd.heap_1 w.params) mainGlobals "_law_text" = some (some (Value.ref 830))) ∧ (nsIn (hd.heap_1 w.params) mainGlobals "_law_equal" = some (some (Value.ref 858))))) ∧ ((nsIn (hd.heap_1 w.params) mainGlobals "_law_order" = some (some (Value.ref 851))) ∧ ((nsIn (hd.heap_1 w.params) mainGlobals "_law_long" = some (some (Value.ref 837))) ∧ (nsIn (hd.heap_1 w.params) mainGlobals "_law_part" = some (some (Value.ref 872)))))))) ∧ (((((nsIn (hd.heap_1 w.params) mainGlobals "_law_one" = some (some (Value.ref 879))) ∧ (nsIn (hd.heap_1 w.params) mainGlobals "_law_join" = some (some (Value.ref 865)))) ∧ ((nsIn (hd.heap_1 w.params) mainGlobals "_law_size" = some (some (Value.ref 893))) ∧ ((nsIn (hd.heap_1 w.params) mainGlobals "_law_letter" = some (some (Value.ref 844))) ∧ (nsIn (hd.heap_1 w.params) mainGlobals "_law_keep" = some (some (Value.ref 886)))))) ∧ (((nsIn (hd.heap_1 w.params) mainGlobals "_law_first" = some (some (Value.ref 914))) ∧ ((nsIn (hd.heap_1 w.params) mainGlobals "_law_sign" = some (some (Value.ref 928))) ∧ (nsIn (hd.heap_1 w.params) mainGlobals "_law_units" = some (some (Value.ref 809))))) ∧ ((nsIn (hd.heap_1 w.params) mainGlobals "_law_place" = some (some (Value.ref 956))) ∧ ((nsIn (hd.heap_1 w.params) mainGlobals "_law_seam" = some (some (Value.ref 907))) ∧ (nsIn (hd.heap_1 w.params) mainGlobals "_law_nested" = some (some (Value.ref 942))))))) ∧ ((((nsIn (hd.heap_1 w.params) mainGlobals "_law_made" = some (some (Value.ref 949))) ∧ (nsIn (hd.heap_1 w.params) mainGlobals "_law_cuts" = some (some (Value.ref 900)))) ∧ ((nsIn (hd.heap_1 w.params) mainGlobals "_law_index" = some (some (Value.ref 921))) ∧ ((nsIn (hd.heap_1 w.params) mainGlobals "_law_ordered" = some (some (Value.ref 935))) ∧ (nsIn (hd.heap_1 w.params) mainGlobals "_law_bounds" = some (some (Value.ref 963)))))) ∧ (((nsIn (hd.heap_1 w.params) mainGlobals "_law_hollow" = some (some (Value.ref 970))) ∧ ((nsIn (hd.heap_1 w.params) mainGlobals "Shelf" = some (some (Value.ref 447))) ∧ (nsIn (hd.heap_1 w.params) mainGlobals "BareHost" = some (some (Value.ref 798))))) ∧ ((nsIn (hd.heap_1 w.params) mainGlobals "Heap" = some (some (Value.ref 117))) ∧ ((nsIn (hd.heap_1 w.params) mainGlobals "install_native_text" = some (some (Value.ref 739))) ∧ (nsIn (hd.heap_1 w.params) mainGlobals "_law_known" = some (some (Value.ref 984)))))))))) ∧ (((((((nsIn (hd.heap_1 w.params) mainGlobals "_law_step" = some (some (Value.ref 977))) ∧ (nsIn (hd.heap_1 w.params) mainGlobals "note_thrown" = some (some (Value.ref 456)))) ∧ ((nsIn (hd.heap_1 w.params) mainGlobals "len" = some none) ∧ ((nsIn (hd.heap_1 w.params) mainGlobals "ord" = some none) ∧ (nsIn (hd.heap_1 w.params) mainGlobals "chr" = some none)))) ∧ (((nsIn (hd.heap_1 w.params) mainGlobals "range" = some none) ∧ (nsIn (hd.heap_1 w.params) mainGlobals "min" = some none)) ∧ ((nsIn (hd.heap_1 w.params) mainGlobals "max" = some none) ∧ ((plainGet (hd.heap_1 w.params) 96 "" = true) ∧ (hasDictIn (hd.heap_1 w.params) 96 = true))))) ∧ ((((makesIn (hd.heap_1 w.params) 96 = true) ∧ (keepIn (hd.heap_1 w.params) (.ref 96) = true)) ∧ ((findIn (hd.heap_1 w.params) (.ref 96) "__init__" = some (some (.ref 93))) ∧ ((isFn (hd.heap_1 w.params) (.ref 93) = true) ∧ (plainOver (hd.heap_1 w.params) 96 = true)))) ∧ (((findIn (hd.heap_1 w.params) (.ref 96) "__setattr__" = some (some (.builtin "object.__setattr__"))) ∧ ((findIn (hd.heap_1 w.params) (.ref 96) "addr" = some none) ∧ (findIn (hd.heap_1 w.params) (.ref 96) "kind" = some none))) ∧ ((findIn (hd.heap_1 w.params) (.ref 96) "slots" = some none) ∧ ((findIn (hd.heap_1 w.params) (.ref 96) "gen" = some none) ∧ (findIn (hd.heap_1 w.params) (.ref 96) "size" = some none)))))) ∧ (((((findIn (hd.heap_1 w.params) (.ref 96) "serial" = some none) ∧ (plainGet (hd.heap_1 w.params) 117 "" = true)) ∧ ((hasDictIn (hd.heap_1 w.params) 117 = true) ∧ ((makesIn (hd.heap_1 w.params) 117 = true) ∧ (keepIn (hd.heap_1 w.params) (.ref 117) = true)))) ∧ (((findIn (hd.heap_1 w.params) (.ref 117) "__init__" = some (some (.ref 114))) ∧ ((isFn (hd.heap_1 w.params) (.ref 114) = true) ∧ (plainOver (hd.heap_1 w.params) 117 = true))) ∧ ((findIn (hd.heap_1 w.params) (.ref 117) "__setattr__" = some (some (.builtin "object.__setattr__"))) ∧ ((findIn (hd.heap_1 w.params) (.ref 117) "things" = some none) ∧ (findIn (hd.heap_1 w.params) (.ref 117) "at" = some none))))) ∧ ((((findIn (hd.heap_1 w.params) (.ref 117) "top" = some none) ∧ (findIn (hd.heap_1 w.params) (.ref 117) "limit" = some none)) ∧ ((findIn (hd.heap_1 w.params) (.ref 117) "cards" = some none) ∧ ((findIn (hd.heap_1 w.params) (.ref 117) "card_bits" = some none) ∧ (findIn (hd.heap_1 w.params) (.ref 117) "fresh" = some none)))) ∧ (((findIn (hd.heap_1 w.params) (.ref 117) "young_limit" = some none) ∧ ((findIn (hd.heap_1 w.params) (.ref 117) "finals" = some none) ∧ (findIn (hd.heap_1 w.params) (.ref 117) "ready" = some none))) ∧ ((findIn (hd.heap_1 w.params) (.ref 117) "moved" = some none) ∧ ((findIn (hd.heap_1 w.params) (.ref 117) "made" = some none) ∧ (plainGet (hd.heap_1 w.params) 145 "" = true))))))) ∧ ((((((hasDictIn (hd.heap_1 w.params) 145 = true) ∧ (makesIn (hd.heap_1 w.params) 145 = true)) ∧ ((keepIn (hd.heap_1 w.params) (.ref 145) = true) ∧ ((findIn (hd.heap_1 w.params) (.ref 145) "__init__" = some (some (.ref 142))) ∧ (isFn (hd.heap_1 w.params) (.ref 142) = true)))) ∧ (((plainOver (hd.heap_1 w.params) 145 = true) ∧ (findIn (hd.heap_1 w.params) (.ref 145) "__setattr__" = some (some (.builtin "object.__setattr__")))) ∧ ((findIn (hd.heap_1 w.params) (.ref 145) "heap" = some none) ∧ ((findIn (hd.heap_1 w.params) (.ref 145) "frames" = some none) ∧ (findIn (hd.heap_1 w.params) (.ref 145) "statics" = some none))))) ∧ ((((plainGet (hd.heap_1 w.params) 202 "" = true) ∧ (hasDictIn (hd.heap_1 w.params) 202 = true)) ∧ ((makesIn (hd.heap_1 w.params) 202 = true) ∧ ((keepIn (hd.heap_1 w.params) (.ref 202) = true) ∧ (findIn (hd.heap_1 w.params) (.ref 202) "__init__" = some (some (.builtin "object.__init__")))))) ∧ (((plainGet (hd.heap_1 w.params) 223 "" = true) ∧ ((hasDictIn (hd.heap_1 w.params) 223 = true) ∧ (makesIn (hd.heap_1 w.params) 223 = true))) ∧ ((keepIn (hd.heap_1 w.params) (.ref 223) = true) ∧ ((findIn (hd.heap_1 w.params) (.ref 223) "__init__" = some (some (.builtin "object.__init__"))) ∧ (findIn (hd.heap_1 w.params) (.ref 223) "before" = some (some (.ref 220)))))))) ∧ (((((isFn (hd.heap_1 w.params) (.ref 220) = true) ∧ (plainGet (hd.heap_1 w.params) 251 "" = true)) ∧ ((hasDictIn (hd.heap_1 w.params) 251 = true) ∧ ((makesIn (hd.heap_1 w.params) 251 = true) ∧ (keepIn (hd.heap_1 w.params) (.ref 251) = true)))) ∧ (((findIn (hd.heap_1 w.params) (.ref 251) "__init__" = some (some (.builtin "object.__init__"))) ∧ ((plainGet (hd.heap_1 w.params) 447 "" = true) ∧ (hasDictIn (hd.heap_1 w.params) 447 = true))) ∧ ((makesIn (hd.heap_1 w.params) 447 = true) ∧ ((keepIn (hd.heap_1 w.params) (.ref 447) = true) ∧ (findIn (hd.heap_1 w.params) (.ref 447) "__init__" = some (some (.ref 395))))))) ∧ ((((isFn (hd.heap_1 w.params) (.ref 395) = true) ∧ (plainOver (hd.heap_1 w.params) 447 = true)) ∧ ((findIn (hd.heap_1 w.params) (.ref 447) "__setattr__" = some (some (.builtin "object.__setattr__"))) ∧ ((findIn (hd.heap_1 w.params) (.ref 447) "store" = some none) ∧ (findIn (hd.heap_1 w.params) (.ref 447) "kt" = some none)))) ∧ (((findIn (hd.heap_1 w.params) (.ref 447) "heap" = some none) ∧ ((findIn (hd.heap_1 w.params) (.ref 447) "kin" = some none) ∧ (findIn (hd.heap_1 w.params) (.ref 447) "rows" = some none))) ∧ ((findIn (hd.heap_1 w.params) (.ref 447) "targets" = some none) ∧ ((findIn (hd.heap_1 w.params) (.ref 447) "defaults" = some none) ∧ (findIn (hd.heap_1 w.params) (.ref 447) "unders" = some none))))))))) ∧ ((((((((findIn (hd.heap_1 w.params) (.ref 447) "finals" = some none) ∧ (findIn (hd.heap_1 w.params) (.ref 447) "frames" = some none)) ∧ ((findIn (hd.heap_1 w.params) (.ref 447) "by_number" = some none) ∧ ((findIn (hd.heap_1 w.params) (.ref 447) "statics" = some none) ∧ (findIn (hd.heap_1 w.params) (.ref 447) "inits" = some none)))) ∧ (((findIn (hd.heap_1 w.params) (.ref 447) "fails" = some none) ∧ (findIn (hd.heap_1 w.params) (.ref 447) "ops" = some none)) ∧ ((findIn (hd.heap_1 w.params) (.ref 447) "natives" = some none) ∧ ((findIn (hd.heap_1 w.params) (.ref 447) "state" = some none) ∧ (findIn (hd.heap_1 w.params) (.ref 447) "told" = some none))))) ∧ ((((findIn (hd.heap_1 w.params) (.ref 447) "thrown" = some none) ∧ (findIn (hd.heap_1 w.params) (.ref 447) "calls" = some none)) ∧ ((findIn (hd.heap_1 w.params) (.ref 447) "pushed" = some none) ∧ ((findIn (hd.heap_1 w.params) (.ref 447) "chases" = some none) ∧ (findIn (hd.heap_1 w.params) (.ref 447) "interned" = some none)))) ∧ (((findIn (hd.heap_1 w.params) (.ref 447) "internv" = some none) ∧ ((findIn (hd.heap_1 w.params) (.ref 447) "held" = some none) ∧ (findIn (hd.heap_1 w.params) (.ref 447) "result" = some none))) ∧ ((findIn (hd.heap_1 w.params) (.ref 447) "last" = some none) ∧ ((findIn (hd.heap_1 w.params) (.ref 447) "unhandled" = some none) ∧ (findIn (hd.heap_1 w.params) (.ref 447) "handles" = some none)))))) ∧ (((((findIn (hd.heap_1 w.params) (.ref 447) "places" = some none) ∧ (findIn (hd.heap_1 w.params) (.ref 447) "starter" = some none)) ∧ ((findIn (hd.heap_1 w.params) (.ref 447) "closer" = some none) ∧ ((findIn (hd.heap_1 w.params) (.ref 447) "sweeper" = some none) ∧ (findIn (hd.heap_1 w.params) (.ref 447) "alloc" = some (some (.ref 416)))))) ∧ (((isFn (hd.heap_1 w.params) (.ref 416) = true) ∧ ((findIn (hd.heap_1 w.params) (.ref 447) "text_of" = some (some (.ref 430))) ∧ (isFn (hd.heap_1 w.params) (.ref 430) = true))) ∧ ((findIn (hd.heap_1 w.params) (.ref 447) "text_ref" = some (some (.ref 437))) ∧ ((isFn (hd.heap_1 w.params) (.ref 437) = true) ∧ (findIn (hd.heap_1 w.params) (.ref 447) "new_text" = some (some (.ref 444))))))) ∧ ((((isFn (hd.heap_1 w.params) (.ref 444) = true) ∧ (findIn (hd.heap_1 w.params) (.ref 447) "throw_new" = some (some (.ref 367)))) ∧ ((isFn (hd.heap_1 w.params) (.ref 367) = true) ∧ ((plainGet (hd.heap_1 w.params) 798 "" = true) ∧ (hasDictIn (hd.heap_1 w.params) 798 = true)))) ∧ (((makesIn (hd.heap_1 w.params) 798 = true) ∧ ((keepIn (hd.heap_1 w.params) (.ref 798) = true) ∧ (findIn (hd.heap_1 w.params) (.ref 798) "__init__" = some (some (.ref 753))))) ∧ ((isFn (hd.heap_1 w.params) (.ref 753) = true) ∧ ((plainOver (hd.heap_1 w.params) 798 = true) ∧ (findIn (hd.heap_1 w.params) (.ref 798) "__setattr__" = some (some (.builtin "object.__setattr__"))))))))) ∧ ((((((findIn (hd.heap_1 w.params) (.ref 798) "kt" = some none) ∧ (findIn (hd.heap_1 w.params) (.ref 798) "bases" = some none)) ∧ ((findIn (hd.heap_1 w.params) (.ref 798) "ifaces" = some none) ∧ ((findIn (hd.heap_1 w.params) (.ref 798) "sorts" = some none) ∧ (findIn (hd.heap_1 w.params) (.ref 798) "variances" = some none)))) ∧ (((findIn (hd.heap_1 w.params) (.ref 798) "unders" = some none) ∧ (findIn (hd.heap_1 w.params) (.ref 798) "bounds" = some none)) ∧ ((findIn (hd.heap_1 w.params) (.ref 798) "gflags" = some none) ∧ ((findIn (hd.heap_1 w.params) (.ref 798) "news" = some none) ∧ (plainGet (hd.heap_1 w.params) 578 "" = true))))) ∧ ((((hasDictIn (hd.heap_1 w.params) 578 = true) ∧ (makesIn (hd.heap_1 w.params) 578 = true)) ∧ ((keepIn (hd.heap_1 w.params) (.ref 578) = true) ∧ ((findIn (hd.heap_1 w.params) (.ref 578) "__init__" = some (some (.builtin "object.__init__"))) ∧ (findIn (hd.heap_1 w.params) (.ref 578) "call" = some (some (.ref 575)))))) ∧ (((isFn (hd.heap_1 w.params) (.ref 575) = true) ∧ ((plainGet (hd.heap_1 w.params) 597 "" = true) ∧ (hasDictIn (hd.heap_1 w.params) 597 = true))) ∧ ((makesIn (hd.heap_1 w.params) 597 = true) ∧ ((keepIn (hd.heap_1 w.params) (.ref 597) = true) ∧ (findIn (hd.heap_1 w.params) (.ref 597) "__init__" = some (some (.builtin "object.__init__")))))))) ∧ (((((findIn (hd.heap_1 w.params) (.ref 597) "call" = some (some (.ref 594))) ∧ (isFn (hd.heap_1 w.params) (.ref 594) = true)) ∧ ((plainGet (hd.heap_1 w.params) 616 "" = true) ∧ ((hasDictIn (hd.heap_1 w.params) 616 = true) ∧ (makesIn (hd.heap_1 w.params) 616 = true)))) ∧ (((keepIn (hd.heap_1 w.params) (.ref 616) = true) ∧ ((findIn (hd.heap_1 w.params) (.ref 616) "__init__" = some (some (.builtin "object.__init__"))) ∧ (findIn (hd.heap_1 w.params) (.ref 616) "call" = some (some (.ref 613))))) ∧ ((isFn (hd.heap_1 w.params) (.ref 613) = true) ∧ ((plainGet (hd.heap_1 w.params) 635 "" = true) ∧ (hasDictIn (hd.heap_1 w.params) 635 = true))))) ∧ ((((makesIn (hd.heap_1 w.params) 635 = true) ∧ (keepIn (hd.heap_1 w.params) (.ref 635) = true)) ∧ ((findIn (hd.heap_1 w.params) (.ref 635) "__init__" = some (some (.builtin "object.__init__"))) ∧ ((findIn (hd.heap_1 w.params) (.ref 635) "call" = some (some (.ref 632))) ∧ (isFn (hd.heap_1 w.params) (.ref 632) = true)))) ∧ (((plainGet (hd.heap_1 w.params) 654 "" = true) ∧ ((hasDictIn (hd.heap_1 w.params) 654 = true) ∧ (makesIn (hd.heap_1 w.params) 654 = true))) ∧ ((keepIn (hd.heap_1 w.params) (.ref 654) = true) ∧ ((findIn (hd.heap_1 w.params) (.ref 654) "__init__" = some (some (.builtin "object.__init__"))) ∧ (findIn (hd.heap_1 w.params) (.ref 654) "call" = some (some (.ref 651)))))))))) ∧ (((((((isFn (hd.heap_1 w.params) (.ref 651) = true) ∧ (plainGet (hd.heap_1 w.params) 673 "" = true)) ∧ ((hasDictIn (hd.heap_1 w.params) 673 = true) ∧ ((makesIn (hd.heap_1 w.params) 673 = true) ∧ (keepIn (hd.heap_1 w.params) (.ref 673) = true)))) ∧ (((findIn (hd.heap_1 w.params) (.ref 673) "__init__" = some (some (.builtin "object.__init__"))) ∧ (findIn (hd.heap_1 w.params) (.ref 673) "call" = some (some (.ref 670)))) ∧ ((isFn (hd.heap_1 w.params) (.ref 670) = true) ∧ ((plainGet (hd.heap_1 w.params) 692 "" = true) ∧ (hasDictIn (hd.heap_1 w.params) 692 = true))))) ∧ ((((makesIn (hd.heap_1 w.params) 692 = true) ∧ (keepIn (hd.heap_1 w.params) (.ref 692) = true)) ∧ ((findIn (hd.heap_1 w.params) (.ref 692) "__init__" = some (some (.builtin "object.__init__"))) ∧ ((findIn (hd.heap_1 w.params) (.ref 692) "call" = some (some (.ref 689))) ∧ (isFn (hd.heap_1 w.params) (.ref 689) = true)))) ∧ (((plainGet (hd.heap_1 w.params) 711 "" = true) ∧ ((hasDictIn (hd.heap_1 w.params) 711 = true) ∧ (makesIn (hd.heap_1 w.params) 711 = true))) ∧ ((keepIn (hd.heap_1 w.params) (.ref 711) = true) ∧ ((findIn (hd.heap_1 w.params) (.ref 711) "__init__" = some (some (.builtin "object.__init__"))) ∧ (findIn (hd.heap_1 w.params) (.ref 711) "call" = some (some (.ref 708)))))))) ∧ (((((isFn (hd.heap_1 w.params) (.ref 708) = true) ∧ (plainGet (hd.heap_1 w.params) 730 "" = true)) ∧ ((hasDictIn (hd.heap_1 w.params) 730 = true) ∧ ((makesIn (hd.heap_1 w.params) 730 = true) ∧ (keepIn (hd.heap_1 w.params) (.ref 730) = true)))) ∧ (((findIn (hd.heap_1 w.params) (.ref 730) "__init__" = some (some (.builtin "object.__init__"))) ∧ ((findIn (hd.heap_1 w.params) (.ref 730) "call" = some (some (.ref 727))) ∧ (isFn (hd.heap_1 w.params) (.ref 727) = true))) ∧ ((keepIn (hd.heap_1 w.params) (.ref 58) = true) ∧ ((keepIn (hd.heap_1 w.params) (.ref 79) = true) ∧ (keepIn (hd.heap_1 w.params) (.ref 498) = true))))) ∧ ((((keepIn (hd.heap_1 w.params) (.ref 505) = true) ∧ (keepIn (hd.heap_1 w.params) (.ref 519) = true)) ∧ ((keepIn (hd.heap_1 w.params) (.ref 512) = true) ∧ ((keepIn (hd.heap_1 w.params) (.ref 128) = true) ∧ (keepIn (hd.heap_1 w.params) (.ref 491) = true)))) ∧ (((keepIn (hd.heap_1 w.params) (.ref 65) = true) ∧ ((keepIn (hd.heap_1 w.params) (.ref 540) = true) ∧ (keepIn (hd.heap_1 w.params) (.ref 554) = true))) ∧ ((keepIn (hd.heap_1 w.params) (.ref 547) = true) ∧ ((keepIn (hd.heap_1 w.params) (.ref 526) = true) ∧ (keepIn (hd.heap_1 w.params) (.ref 533) = true))))))) ∧ ((((((keepIn (hd.heap_1 w.params) (.ref 561) = true) ∧ (keepIn (hd.heap_1 w.params) (.ref 816) = true)) ∧ ((keepIn (hd.heap_1 w.params) (.ref 823) = true) ∧ ((keepIn (hd.heap_1 w.params) (.ref 830) = true) ∧ (keepIn (hd.heap_1 w.params) (.ref 858) = true)))) ∧ (((keepIn (hd.heap_1 w.params) (.ref 851) = true) ∧ ((keepIn (hd.heap_1 w.params) (.ref 837) = true) ∧ (keepIn (hd.heap_1 w.params) (.ref 872) = true))) ∧ ((keepIn (hd.heap_1 w.params) (.ref 879) = true) ∧ ((keepIn (hd.heap_1 w.params) (.ref 865) = true) ∧ (keepIn (hd.heap_1 w.params) (.ref 893) = true))))) ∧ ((((keepIn (hd.heap_1 w.params) (.ref 844) = true) ∧ (keepIn (hd.heap_1 w.params) (.ref 886) = true)) ∧ ((keepIn (hd.heap_1 w.params) (.ref 914) = true) ∧ ((keepIn (hd.heap_1 w.params) (.ref 928) = true) ∧ (keepIn (hd.heap_1 w.params) (.ref 809) = true)))) ∧ (((keepIn (hd.heap_1 w.params) (.ref 956) = true) ∧ ((keepIn (hd.heap_1 w.params) (.ref 907) = true) ∧ (keepIn (hd.heap_1 w.params) (.ref 942) = true))) ∧ ((keepIn (hd.heap_1 w.params) (.ref 949) = true) ∧ ((keepIn (hd.heap_1 w.params) (.ref 900) = true) ∧ (keepIn (hd.heap_1 w.params) (.ref 921) = true)))))) ∧ (((((keepIn (hd.heap_1 w.params) (.ref 935) = true) ∧ (keepIn (hd.heap_1 w.params) (.ref 963) = true)) ∧ ((keepIn (hd.heap_1 w.params) (.ref 970) = true) ∧ ((keepIn (hd.heap_1 w.params) (.ref 739) = true) ∧ (keepIn (hd.heap_1 w.params) (.ref 984) = true)))) ∧ (((keepIn (hd.heap_1 w.params) (.ref 977) = true) ∧ ((keepIn (hd.heap_1 w.params) (.ref 456) = true) ∧ (keepIn (hd.heap_1 w.params) (.ref 416) = true))) ∧ ((keepIn (hd.heap_1 w.params) (.ref 430) = true) ∧ ((keepIn (hd.heap_1 w.params) (.ref 437) = true) ∧ (keepIn (hd.heap_1 w.params) (.ref 444) = true))))) ∧ ((((keepIn (hd.heap_1 w.params) (.ref 367) = true) ∧ (keepIn (hd.heap_1 w.params) (.ref 220) = true)) ∧ ((keepIn (hd.heap_1 w.params) (.ref 575) = true) ∧ ((keepIn (hd.heap_1 w.params) (.ref 594) = true) ∧ (keepIn (hd.heap_1 w.params) (.ref 613) = true)))) ∧ (((keepIn (hd.heap_1 w.params) (.ref 632) = true) ∧ ((keepIn (hd.heap_1 w.params) (.ref 651) = true) ∧ (keepIn (hd.heap_1 w.params) (.ref 670) = true))) ∧ ((keepIn (hd.heap_1 w.params) (.ref 689) = true) ∧ ((keepIn (hd.heap_1 w.params) (.ref 708) = true) ∧ (keepIn (hd.heap_1 w.params) (.ref 727) = true))))))))) :=
  ⟨⟨⟨⟨⟨⟨⟨⟨by k_is, by k_is⟩, ⟨by k_is, ⟨by k_is, by k_is⟩⟩⟩, ⟨⟨by k_is, by k_is⟩, ⟨by k_is, ⟨by k_is, by k_is⟩⟩⟩⟩, ⟨⟨⟨by k_is, by k_is⟩, ⟨by k_is, ⟨by k_is, by k_is⟩⟩⟩, ⟨⟨by k_is, ⟨by k_is, by k_is⟩⟩, ⟨by k_is, ⟨by k_is, by k_is⟩⟩⟩⟩⟩, ⟨⟨⟨⟨by k_is, by k_is⟩, ⟨by k_is, ⟨by k_is, by k_is⟩⟩⟩, ⟨⟨by k_is, ⟨by k_is, by k_is⟩⟩, ⟨by k_is, ⟨by k_is, by k_is⟩⟩⟩⟩, ⟨⟨⟨by k_is, by k_is⟩, ⟨by k_is, ⟨by k_is, by k_is⟩⟩⟩, ⟨⟨by k_is, ⟨by k_is, by k_is⟩⟩, ⟨by k_is, ⟨by k_is, by k_is⟩⟩⟩⟩⟩⟩, ⟨⟨⟨⟨⟨by k_is, by k_is⟩, ⟨by k_is, ⟨by k_is, by k_is⟩⟩⟩, ⟨⟨by k_is, by k_is⟩, ⟨by k_is, ⟨by k_is, by k_is⟩⟩⟩⟩, ⟨⟨⟨by k_is, by k_is⟩, ⟨by k_is, ⟨by k_is, by k_is⟩⟩⟩, ⟨⟨by k_is, ⟨by k_is, by k_is⟩⟩, ⟨by k_is, ⟨by k_is, by k_is⟩⟩⟩⟩⟩, ⟨⟨⟨⟨by k_is, by k_is⟩, ⟨by k_is, ⟨by k_is, by k_is⟩⟩⟩, ⟨⟨by k_is, ⟨by k_is, by k_is⟩⟩, ⟨by k_is, ⟨by k_is, by k_is⟩⟩⟩⟩, ⟨⟨⟨by k_is, by k_is⟩, ⟨by k_is, ⟨by k_is, by k_is⟩⟩⟩, ⟨⟨by k_is, ⟨by k_is, by k_is⟩⟩, ⟨by k_is, ⟨by k_is, by k_is⟩⟩⟩⟩⟩⟩⟩, ⟨⟨⟨⟨⟨⟨by k_is, by k_is⟩, ⟨by k_is, ⟨by k_is, by k_is⟩⟩⟩, ⟨⟨by k_is, by k_is⟩, ⟨by k_is, ⟨by k_is, by k_is⟩⟩⟩⟩, ⟨⟨⟨by k_is, by k_is⟩, ⟨by k_is, ⟨by k_is, by k_is⟩⟩⟩, ⟨⟨by k_is, ⟨by k_is, by k_is⟩⟩, ⟨by k_is, ⟨by k_is, by k_is⟩⟩⟩⟩⟩, ⟨⟨⟨⟨by k_is, by k_is⟩, ⟨by k_is, ⟨by k_is, by k_is⟩⟩⟩, ⟨⟨by k_is, ⟨by k_is, by k_is⟩⟩, ⟨by k_is, ⟨by k_is, by k_is⟩⟩⟩⟩, ⟨⟨⟨by k_is, by k_is⟩, ⟨by k_is, ⟨by k_is, by k_is⟩⟩⟩, ⟨⟨by k_is, ⟨by k_is, by k_is⟩⟩, ⟨by k_is, ⟨by k_is, by k_is⟩⟩⟩⟩⟩⟩, ⟨⟨⟨⟨⟨by k_is, by k_is⟩, ⟨by k_is, ⟨by k_is, by k_is⟩⟩⟩, ⟨⟨by k_is, by k_is⟩, ⟨by k_is, ⟨by k_is, by k_is⟩⟩⟩⟩, ⟨⟨⟨by k_is, by k_is⟩, ⟨by k_is, ⟨by k_is, by k_is⟩⟩⟩, ⟨⟨by k_is, ⟨by k_is, by k_is⟩⟩, ⟨by k_is, ⟨by k_is, by k_is⟩⟩⟩⟩⟩, ⟨⟨⟨⟨by k_is, by k_is⟩, ⟨by k_is, ⟨by k_is, by k_is⟩⟩⟩, ⟨⟨by k_is, ⟨by k_is, by k_is⟩⟩, ⟨by k_is, ⟨by k_is, by k_is⟩⟩⟩⟩, ⟨⟨⟨by k_is, by k_is⟩, ⟨by k_is, ⟨by k_is, by k_is⟩⟩⟩, ⟨⟨by k_is, ⟨by k_is, by k_is⟩⟩, ⟨by k_is, ⟨by k_is, by k_is⟩⟩⟩⟩⟩⟩⟩⟩, ⟨⟨⟨⟨⟨⟨⟨by k_is, by k_is⟩, ⟨by k_is, ⟨by k_is, by k_is⟩⟩⟩, ⟨⟨by k_is, by k_is⟩, ⟨by k_is, ⟨by k_is, by k_is⟩⟩⟩⟩, ⟨⟨⟨by k_is, by k_is⟩, ⟨by k_is, ⟨by k_is, by k_is⟩⟩⟩, ⟨⟨by k_is, ⟨by k_is, by k_is⟩⟩, ⟨by k_is, ⟨by k_is, by k_is⟩⟩⟩⟩⟩, ⟨⟨⟨⟨by k_is, by k_is⟩, ⟨by k_is, ⟨by k_is, by k_is⟩⟩⟩, ⟨⟨by k_is, ⟨by k_is, by k_is⟩⟩, ⟨by k_is, ⟨by k_is, by k_is⟩⟩⟩⟩, ⟨⟨⟨by k_is, by k_is⟩, ⟨by k_is, ⟨by k_is, by k_is⟩⟩⟩, ⟨⟨by k_is, ⟨by k_is, by k_is⟩⟩, ⟨by k_is, ⟨by k_is, by k_is⟩⟩⟩⟩⟩⟩, ⟨⟨⟨⟨⟨by k_is, by k_is⟩, ⟨by k_is, ⟨by k_is, by k_is⟩⟩⟩, ⟨⟨by k_is, by k_is⟩, ⟨by k_is, ⟨by k_is, by k_is⟩⟩⟩⟩, ⟨⟨⟨by k_is, by k_is⟩, ⟨by k_is, ⟨by k_is, by k_is⟩⟩⟩, ⟨⟨by k_is, ⟨by k_is, by k_is⟩⟩, ⟨by k_is, ⟨by k_is, by k_is⟩⟩⟩⟩⟩, ⟨⟨⟨⟨by k_is, by k_is⟩, ⟨by k_is, ⟨by k_is, by k_is⟩⟩⟩, ⟨⟨by k_is, ⟨by k_is, by k_is⟩⟩, ⟨by k_is, ⟨by k_is, by k_is⟩⟩⟩⟩, ⟨⟨⟨by k_is, by k_is⟩, ⟨by k_is, ⟨by k_is, by k_is⟩⟩⟩, ⟨⟨by k_is, ⟨by k_is, by k_is⟩⟩, ⟨by k_is, ⟨by k_is, by k_is⟩⟩⟩⟩⟩⟩⟩, ⟨⟨⟨⟨⟨⟨by k_is, by k_is⟩, ⟨by k_is, ⟨by k_is, by k_is⟩⟩⟩, ⟨⟨by k_is, by k_is⟩, ⟨by k_is, ⟨by k_is, by k_is⟩⟩⟩⟩, ⟨⟨⟨by k_is, by k_is⟩, ⟨by k_is, ⟨by k_is, by k_is⟩⟩⟩, ⟨⟨by k_is, ⟨by k_is, by k_is⟩⟩, ⟨by k_is, ⟨by k_is, by k_is⟩⟩⟩⟩⟩, ⟨⟨⟨⟨by k_is, by k_is⟩, ⟨by k_is, ⟨by k_is, by k_is⟩⟩⟩, ⟨⟨by k_is, ⟨by k_is, by k_is⟩⟩, ⟨by k_is, ⟨by k_is, by k_is⟩⟩⟩⟩, ⟨⟨⟨by k_is, by k_is⟩, ⟨by k_is, ⟨by k_is, by k_is⟩⟩⟩, ⟨⟨by k_is, ⟨by k_is, by k_is⟩⟩, ⟨by k_is, ⟨by k_is, by k_is⟩⟩⟩⟩⟩⟩, ⟨⟨⟨⟨⟨by k_is, by k_is⟩, ⟨by k_is, ⟨by k_is, by k_is⟩⟩⟩, ⟨⟨by k_is, ⟨by k_is, by k_is⟩⟩, ⟨by k_is, ⟨by k_is, by k_is⟩⟩⟩⟩, ⟨⟨⟨by k_is, by k_is⟩, ⟨by k_is, ⟨by k_is, by k_is⟩⟩⟩, ⟨⟨by k_is, ⟨by k_is, by k_is⟩⟩, ⟨by k_is, ⟨by k_is, by k_is⟩⟩⟩⟩⟩, ⟨⟨⟨⟨by k_is, by k_is⟩, ⟨by k_is, ⟨by k_is, by k_is⟩⟩⟩, ⟨⟨by k_is, ⟨by k_is, by k_is⟩⟩, ⟨by k_is, ⟨by k_is, by k_is⟩⟩⟩⟩, ⟨⟨⟨by k_is, by k_is⟩, ⟨by k_is, ⟨by k_is, by k_is⟩⟩⟩, ⟨⟨by k_is, ⟨by k_is, by k_is⟩⟩, ⟨by k_is, ⟨by k_is, by k_is⟩⟩⟩⟩⟩⟩⟩⟩⟩
theorem Z0 (w : World) : nsIn (hd.heap_1 w.params) mainGlobals "wrap_bits" = some (some (Value.ref 58)) := (kfacts w).1.1.1.1.1.1.1.1
theorem Z1 (w : World) : nsIn (hd.heap_1 w.params) mainGlobals "LEAST_SIZE" = some (some (Value.int 3 360)) := (kfacts w).1.1.1.1.1.1.1.2
theorem Z2 (w : World) : nsIn (hd.heap_1 w.params) mainGlobals "HEAD_WORDS" = some (some (Value.int 2 358)) := (kfacts w).1.1.1.1.1.1.2.1
theorem Z3 (w : World) : nsIn (hd.heap_1 w.params) mainGlobals "words_for" = some (some (Value.ref 79)) := (kfacts w).1.1.1.1.1.1.2.2.1
theorem Z4 (w : World) : nsIn (hd.heap_1 w.params) mainGlobals "FIRST_ADDRESS" = some (some (Value.int 16 356)) := (kfacts w).1.1.1.1.1.1.2.2.2
theorem Z5 (w : World) : nsIn (hd.heap_1 w.params) mainGlobals "Thing" = some (some (Value.ref 96)) := (kfacts w).1.1.1.1.1.2.1.1
theorem Z6 (w : World) : nsIn (hd.heap_1 w.params) mainGlobals "ST_RUN" = some (some (Value.int 0 496)) := (kfacts w).1.1.1.1.1.2.1.2
theorem Z7 (w : World) : nsIn (hd.heap_1 w.params) mainGlobals "PlaceHost" = some (some (Value.ref 145)) := (kfacts w).1.1.1.1.1.2.2.1
theorem Z8 (w : World) : nsIn (hd.heap_1 w.params) mainGlobals "Starter" = some (some (Value.ref 202)) := (kfacts w).1.1.1.1.1.2.2.2.1
theorem Z9 (w : World) : nsIn (hd.heap_1 w.params) mainGlobals "KindCloser" = some (some (Value.ref 251)) := (kfacts w).1.1.1.1.1.2.2.2.2
theorem Z10 (w : World) : nsIn (hd.heap_1 w.params) mainGlobals "Sweeper" = some (some (Value.ref 223)) := (kfacts w).1.1.1.1.2.1.1.1
theorem Z11 (w : World) : nsIn (hd.heap_1 w.params) mainGlobals "alloc_thing" = some (some (Value.ref 498)) := (kfacts w).1.1.1.1.2.1.1.2
theorem Z12 (w : World) : nsIn (hd.heap_1 w.params) mainGlobals "text_held" = some (some (Value.ref 505)) := (kfacts w).1.1.1.1.2.1.2.1
theorem Z13 (w : World) : nsIn (hd.heap_1 w.params) mainGlobals "interned_text" = some (some (Value.ref 519)) := (kfacts w).1.1.1.1.2.1.2.2.1
theorem Z14 (w : World) : nsIn (hd.heap_1 w.params) mainGlobals "made_text" = some (some (Value.ref 512)) := (kfacts w).1.1.1.1.2.1.2.2.2
theorem Z15 (w : World) : nsIn (hd.heap_1 w.params) mainGlobals "JP_STAY" = some (some (Value.int (-2) 494)) := (kfacts w).1.1.1.1.2.2.1.1
theorem Z16 (w : World) : nsIn (hd.heap_1 w.params) mainGlobals "STRING" = some (some (Value.int 13 222)) := (kfacts w).1.1.1.1.2.2.1.2.1
theorem Z17 (w : World) : nsIn (hd.heap_1 w.params) mainGlobals "V_TEXT" = some (some (Value.int 8 323)) := (kfacts w).1.1.1.1.2.2.1.2.2
theorem Z18 (w : World) : nsIn (hd.heap_1 w.params) mainGlobals "heap_alloc" = some (some (Value.ref 128)) := (kfacts w).1.1.1.1.2.2.2.1
theorem Z19 (w : World) : nsIn (hd.heap_1 w.params) mainGlobals "first_slots" = some (some (Value.ref 491)) := (kfacts w).1.1.1.1.2.2.2.2.1
theorem Z20 (w : World) : nsIn (hd.heap_1 w.params) mainGlobals "V_REF" = some (some (Value.int 4 321)) := (kfacts w).1.1.1.1.2.2.2.2.2
theorem Z21 (w : World) : nsIn (hd.heap_1 w.params) mainGlobals "V_I4" = some (some (Value.int 1 315)) := (kfacts w).1.1.1.2.1.1.1.1
theorem Z22 (w : World) : nsIn (hd.heap_1 w.params) mainGlobals "T_NULLREF" = some (some (Value.int 21 303)) := (kfacts w).1.1.1.2.1.1.1.2
theorem Z23 (w : World) : nsIn (hd.heap_1 w.params) mainGlobals "TEXT_NULL" = some (some (Value.str "Object reference not set to an instance of an object." 506)) := (kfacts w).1.1.1.2.1.1.2.1
theorem Z24 (w : World) : nsIn (hd.heap_1 w.params) mainGlobals "NT_STAY" = some (some (Value.int (-2) 504)) := (kfacts w).1.1.1.2.1.1.2.2.1
theorem Z25 (w : World) : nsIn (hd.heap_1 w.params) mainGlobals "wrap32" = some (some (Value.ref 65)) := (kfacts w).1.1.1.2.1.1.2.2.2
theorem Z26 (w : World) : nsIn (hd.heap_1 w.params) mainGlobals "text_at" = some (some (Value.ref 540)) := (kfacts w).1.1.1.2.1.2.1.1
theorem Z27 (w : World) : nsIn (hd.heap_1 w.params) mainGlobals "MOST_UNITS" = some (some (Value.int 1048576 1068)) := (kfacts w).1.1.1.2.1.2.1.2.1
theorem Z28 (w : World) : nsIn (hd.heap_1 w.params) mainGlobals "bad_argument" = some (some (Value.ref 554)) := (kfacts w).1.1.1.2.1.2.1.2.2
theorem Z29 (w : World) : nsIn (hd.heap_1 w.params) mainGlobals "T_OOM" = some (some (Value.int 30 307)) := (kfacts w).1.1.1.2.1.2.2.1
theorem Z30 (w : World) : nsIn (hd.heap_1 w.params) mainGlobals "LONG_TEXT" = some (some (Value.str "Insufficient memory to continue the execution of the program." 1070)) := (kfacts w).1.1.1.2.1.2.2.2.1
theorem Z31 (w : World) : nsIn (hd.heap_1 w.params) mainGlobals "no_object" = some (some (Value.ref 547)) := (kfacts w).1.1.1.2.1.2.2.2.2
theorem Z32 (w : World) : nsIn (hd.heap_1 w.params) mainGlobals "T_INDEX" = some (some (Value.int 22 305)) := (kfacts w).1.1.1.2.2.1.1.1
theorem Z33 (w : World) : nsIn (hd.heap_1 w.params) mainGlobals "bool_value" = some (some (Value.ref 526)) := (kfacts w).1.1.1.2.2.1.1.2
theorem Z34 (w : World) : nsIn (hd.heap_1 w.params) mainGlobals "thing_named" = some (some (Value.ref 533)) := (kfacts w).1.1.1.2.2.1.2.1
theorem Z35 (w : World) : nsIn (hd.heap_1 w.params) mainGlobals "text_hash" = some (some (Value.ref 561)) := (kfacts w).1.1.1.2.2.1.2.2.1
theorem Z36 (w : World) : nsIn (hd.heap_1 w.params) mainGlobals "T_ARGRANGE" = some (some (Value.int 32 311)) := (kfacts w).1.1.1.2.2.1.2.2.2
theorem Z37 (w : World) : nsIn (hd.heap_1 w.params) mainGlobals "EMPTY_RANGE" = some (some (Value.str "Index and length must refer to a location within the string." 1072)) := (kfacts w).1.1.1.2.2.2.1.1
theorem Z38 (w : World) : nsIn (hd.heap_1 w.params) mainGlobals "T_ARG" = some (some (Value.int 31 309)) := (kfacts w).1.1.1.2.2.2.1.2.1
theorem Z39 (w : World) : nsIn (hd.heap_1 w.params) mainGlobals "N_CONCAT" = some (some (Value.int 1 1050)) := (kfacts w).1.1.1.2.2.2.1.2.2
theorem Z40 (w : World) : nsIn (hd.heap_1 w.params) mainGlobals "TextConcat" = some (some (Value.ref 578)) := (kfacts w).1.1.1.2.2.2.2.1
theorem Z41 (w : World) : nsIn (hd.heap_1 w.params) mainGlobals "N_STR_LENGTH" = some (some (Value.int 2 1052)) := (kfacts w).1.1.1.2.2.2.2.2.1
theorem Z42 (w : World) : nsIn (hd.heap_1 w.params) mainGlobals "TextLength" = some (some (Value.ref 597)) := (kfacts w).1.1.1.2.2.2.2.2.2
theorem Z43 (w : World) : nsIn (hd.heap_1 w.params) mainGlobals "N_STR_CHARS" = some (some (Value.int 3 1054)) := (kfacts w).1.1.2.1.1.1.1.1
theorem Z44 (w : World) : nsIn (hd.heap_1 w.params) mainGlobals "TextChars" = some (some (Value.ref 616)) := (kfacts w).1.1.2.1.1.1.1.2
theorem Z45 (w : World) : nsIn (hd.heap_1 w.params) mainGlobals "N_STR_EQ" = some (some (Value.int 4 1056)) := (kfacts w).1.1.2.1.1.1.2.1
theorem Z46 (w : World) : nsIn (hd.heap_1 w.params) mainGlobals "TextSame" = some (some (Value.ref 635)) := (kfacts w).1.1.2.1.1.1.2.2.1
theorem Z47 (w : World) : nsIn (hd.heap_1 w.params) mainGlobals "N_STR_EQUALS" = some (some (Value.int 5 1058)) := (kfacts w).1.1.2.1.1.1.2.2.2
theorem Z48 (w : World) : nsIn (hd.heap_1 w.params) mainGlobals "TextEquals" = some (some (Value.ref 654)) := (kfacts w).1.1.2.1.1.2.1.1
theorem Z49 (w : World) : nsIn (hd.heap_1 w.params) mainGlobals "N_STR_HASH" = some (some (Value.int 6 1060)) := (kfacts w).1.1.2.1.1.2.1.2
theorem Z50 (w : World) : nsIn (hd.heap_1 w.params) mainGlobals "TextHash" = some (some (Value.ref 673)) := (kfacts w).1.1.2.1.1.2.2.1
theorem Z51 (w : World) : nsIn (hd.heap_1 w.params) mainGlobals "N_SUBSTRING" = some (some (Value.int 7 1062)) := (kfacts w).1.1.2.1.1.2.2.2.1
theorem Z52 (w : World) : nsIn (hd.heap_1 w.params) mainGlobals "TextPart" = some (some (Value.ref 692)) := (kfacts w).1.1.2.1.1.2.2.2.2
theorem Z53 (w : World) : nsIn (hd.heap_1 w.params) mainGlobals "N_INDEXOF" = some (some (Value.int 8 1064)) := (kfacts w).1.1.2.1.2.1.1.1
theorem Z54 (w : World) : nsIn (hd.heap_1 w.params) mainGlobals "TextIndex" = some (some (Value.ref 711)) := (kfacts w).1.1.2.1.2.1.1.2
theorem Z55 (w : World) : nsIn (hd.heap_1 w.params) mainGlobals "N_STR_COMPARE" = some (some (Value.int 9 1066)) := (kfacts w).1.1.2.1.2.1.2.1
theorem Z56 (w : World) : nsIn (hd.heap_1 w.params) mainGlobals "TextCompare" = some (some (Value.ref 730)) := (kfacts w).1.1.2.1.2.1.2.2.1
theorem Z57 (w : World) : nsIn (hd.heap_1 w.params) mainGlobals "_law_ask" = some (some (Value.ref 816)) := (kfacts w).1.1.2.1.2.1.2.2.2
theorem Z58 (w : World) : nsIn (hd.heap_1 w.params) mainGlobals "_law_number" = some (some (Value.ref 823)) := (kfacts w).1.1.2.1.2.2.1.1
theorem Z59 (w : World) : nsIn (hd.heap_1 w.params) mainGlobals "_law_text" = some (some (Value.ref 830)) := (kfacts w).1.1.2.1.2.2.1.2.1
theorem Z60 (w : World) : nsIn (hd.heap_1 w.params) mainGlobals "_law_equal" = some (some (Value.ref 858)) := (kfacts w).1.1.2.1.2.2.1.2.2
theorem Z61 (w : World) : nsIn (hd.heap_1 w.params) mainGlobals "_law_order" = some (some (Value.ref 851)) := (kfacts w).1.1.2.1.2.2.2.1
theorem Z62 (w : World) : nsIn (hd.heap_1 w.params) mainGlobals "_law_long" = some (some (Value.ref 837)) := (kfacts w).1.1.2.1.2.2.2.2.1
theorem Z63 (w : World) : nsIn (hd.heap_1 w.params) mainGlobals "_law_part" = some (some (Value.ref 872)) := (kfacts w).1.1.2.1.2.2.2.2.2
theorem Z64 (w : World) : nsIn (hd.heap_1 w.params) mainGlobals "_law_one" = some (some (Value.ref 879)) := (kfacts w).1.1.2.2.1.1.1.1
theorem Z65 (w : World) : nsIn (hd.heap_1 w.params) mainGlobals "_law_join" = some (some (Value.ref 865)) := (kfacts w).1.1.2.2.1.1.1.2
theorem Z66 (w : World) : nsIn (hd.heap_1 w.params) mainGlobals "_law_size" = some (some (Value.ref 893)) := (kfacts w).1.1.2.2.1.1.2.1
theorem Z67 (w : World) : nsIn (hd.heap_1 w.params) mainGlobals "_law_letter" = some (some (Value.ref 844)) := (kfacts w).1.1.2.2.1.1.2.2.1
theorem Z68 (w : World) : nsIn (hd.heap_1 w.params) mainGlobals "_law_keep" = some (some (Value.ref 886)) := (kfacts w).1.1.2.2.1.1.2.2.2
theorem Z69 (w : World) : nsIn (hd.heap_1 w.params) mainGlobals "_law_first" = some (some (Value.ref 914)) := (kfacts w).1.1.2.2.1.2.1.1
theorem Z70 (w : World) : nsIn (hd.heap_1 w.params) mainGlobals "_law_sign" = some (some (Value.ref 928)) := (kfacts w).1.1.2.2.1.2.1.2.1
theorem Z71 (w : World) : nsIn (hd.heap_1 w.params) mainGlobals "_law_units" = some (some (Value.ref 809)) := (kfacts w).1.1.2.2.1.2.1.2.2
theorem Z72 (w : World) : nsIn (hd.heap_1 w.params) mainGlobals "_law_place" = some (some (Value.ref 956)) := (kfacts w).1.1.2.2.1.2.2.1
theorem Z73 (w : World) : nsIn (hd.heap_1 w.params) mainGlobals "_law_seam" = some (some (Value.ref 907)) := (kfacts w).1.1.2.2.1.2.2.2.1
theorem Z74 (w : World) : nsIn (hd.heap_1 w.params) mainGlobals "_law_nested" = some (some (Value.ref 942)) := (kfacts w).1.1.2.2.1.2.2.2.2
theorem Z75 (w : World) : nsIn (hd.heap_1 w.params) mainGlobals "_law_made" = some (some (Value.ref 949)) := (kfacts w).1.1.2.2.2.1.1.1
theorem Z76 (w : World) : nsIn (hd.heap_1 w.params) mainGlobals "_law_cuts" = some (some (Value.ref 900)) := (kfacts w).1.1.2.2.2.1.1.2
theorem Z77 (w : World) : nsIn (hd.heap_1 w.params) mainGlobals "_law_index" = some (some (Value.ref 921)) := (kfacts w).1.1.2.2.2.1.2.1
theorem Z78 (w : World) : nsIn (hd.heap_1 w.params) mainGlobals "_law_ordered" = some (some (Value.ref 935)) := (kfacts w).1.1.2.2.2.1.2.2.1
theorem Z79 (w : World) : nsIn (hd.heap_1 w.params) mainGlobals "_law_bounds" = some (some (Value.ref 963)) := (kfacts w).1.1.2.2.2.1.2.2.2
theorem Z80 (w : World) : nsIn (hd.heap_1 w.params) mainGlobals "_law_hollow" = some (some (Value.ref 970)) := (kfacts w).1.1.2.2.2.2.1.1
theorem Z81 (w : World) : nsIn (hd.heap_1 w.params) mainGlobals "Shelf" = some (some (Value.ref 447)) := (kfacts w).1.1.2.2.2.2.1.2.1
theorem Z82 (w : World) : nsIn (hd.heap_1 w.params) mainGlobals "BareHost" = some (some (Value.ref 798)) := (kfacts w).1.1.2.2.2.2.1.2.2
theorem Z83 (w : World) : nsIn (hd.heap_1 w.params) mainGlobals "Heap" = some (some (Value.ref 117)) := (kfacts w).1.1.2.2.2.2.2.1
theorem Z84 (w : World) : nsIn (hd.heap_1 w.params) mainGlobals "install_native_text" = some (some (Value.ref 739)) := (kfacts w).1.1.2.2.2.2.2.2.1
theorem Z85 (w : World) : nsIn (hd.heap_1 w.params) mainGlobals "_law_known" = some (some (Value.ref 984)) := (kfacts w).1.1.2.2.2.2.2.2.2
theorem Z86 (w : World) : nsIn (hd.heap_1 w.params) mainGlobals "_law_step" = some (some (Value.ref 977)) := (kfacts w).1.2.1.1.1.1.1.1
theorem Z87 (w : World) : nsIn (hd.heap_1 w.params) mainGlobals "note_thrown" = some (some (Value.ref 456)) := (kfacts w).1.2.1.1.1.1.1.2
theorem Z88 (w : World) : nsIn (hd.heap_1 w.params) mainGlobals "len" = some none := (kfacts w).1.2.1.1.1.1.2.1
theorem Z89 (w : World) : nsIn (hd.heap_1 w.params) mainGlobals "ord" = some none := (kfacts w).1.2.1.1.1.1.2.2.1
theorem Z90 (w : World) : nsIn (hd.heap_1 w.params) mainGlobals "chr" = some none := (kfacts w).1.2.1.1.1.1.2.2.2
theorem Z91 (w : World) : nsIn (hd.heap_1 w.params) mainGlobals "range" = some none := (kfacts w).1.2.1.1.1.2.1.1
theorem Z92 (w : World) : nsIn (hd.heap_1 w.params) mainGlobals "min" = some none := (kfacts w).1.2.1.1.1.2.1.2
theorem Z93 (w : World) : nsIn (hd.heap_1 w.params) mainGlobals "max" = some none := (kfacts w).1.2.1.1.1.2.2.1
theorem Z94 (w : World) : plainGet (hd.heap_1 w.params) 96 "" = true := (kfacts w).1.2.1.1.1.2.2.2.1
theorem Z95 (w : World) : hasDictIn (hd.heap_1 w.params) 96 = true := (kfacts w).1.2.1.1.1.2.2.2.2
theorem Z96 (w : World) : makesIn (hd.heap_1 w.params) 96 = true := (kfacts w).1.2.1.1.2.1.1.1
theorem Z97 (w : World) : keepIn (hd.heap_1 w.params) (.ref 96) = true := (kfacts w).1.2.1.1.2.1.1.2
theorem Z98 (w : World) : findIn (hd.heap_1 w.params) (.ref 96) "__init__" = some (some (.ref 93)) := (kfacts w).1.2.1.1.2.1.2.1
theorem Z99 (w : World) : isFn (hd.heap_1 w.params) (.ref 93) = true := (kfacts w).1.2.1.1.2.1.2.2.1
theorem Z100 (w : World) : plainOver (hd.heap_1 w.params) 96 = true := (kfacts w).1.2.1.1.2.1.2.2.2
theorem Z101 (w : World) : findIn (hd.heap_1 w.params) (.ref 96) "__setattr__" = some (some (.builtin "object.__setattr__")) := (kfacts w).1.2.1.1.2.2.1.1
theorem Z102 (w : World) : findIn (hd.heap_1 w.params) (.ref 96) "addr" = some none := (kfacts w).1.2.1.1.2.2.1.2.1
theorem Z103 (w : World) : findIn (hd.heap_1 w.params) (.ref 96) "kind" = some none := (kfacts w).1.2.1.1.2.2.1.2.2
theorem Z104 (w : World) : findIn (hd.heap_1 w.params) (.ref 96) "slots" = some none := (kfacts w).1.2.1.1.2.2.2.1
theorem Z105 (w : World) : findIn (hd.heap_1 w.params) (.ref 96) "gen" = some none := (kfacts w).1.2.1.1.2.2.2.2.1
theorem Z106 (w : World) : findIn (hd.heap_1 w.params) (.ref 96) "size" = some none := (kfacts w).1.2.1.1.2.2.2.2.2
theorem Z107 (w : World) : findIn (hd.heap_1 w.params) (.ref 96) "serial" = some none := (kfacts w).1.2.1.2.1.1.1.1
theorem Z108 (w : World) : plainGet (hd.heap_1 w.params) 117 "" = true := (kfacts w).1.2.1.2.1.1.1.2
theorem Z109 (w : World) : hasDictIn (hd.heap_1 w.params) 117 = true := (kfacts w).1.2.1.2.1.1.2.1
theorem Z110 (w : World) : makesIn (hd.heap_1 w.params) 117 = true := (kfacts w).1.2.1.2.1.1.2.2.1
theorem Z111 (w : World) : keepIn (hd.heap_1 w.params) (.ref 117) = true := (kfacts w).1.2.1.2.1.1.2.2.2
theorem Z112 (w : World) : findIn (hd.heap_1 w.params) (.ref 117) "__init__" = some (some (.ref 114)) := (kfacts w).1.2.1.2.1.2.1.1
theorem Z113 (w : World) : isFn (hd.heap_1 w.params) (.ref 114) = true := (kfacts w).1.2.1.2.1.2.1.2.1
theorem Z114 (w : World) : plainOver (hd.heap_1 w.params) 117 = true := (kfacts w).1.2.1.2.1.2.1.2.2
theorem Z115 (w : World) : findIn (hd.heap_1 w.params) (.ref 117) "__setattr__" = some (some (.builtin "object.__setattr__")) := (kfacts w).1.2.1.2.1.2.2.1
theorem Z116 (w : World) : findIn (hd.heap_1 w.params) (.ref 117) "things" = some none := (kfacts w).1.2.1.2.1.2.2.2.1
theorem Z117 (w : World) : findIn (hd.heap_1 w.params) (.ref 117) "at" = some none := (kfacts w).1.2.1.2.1.2.2.2.2
theorem Z118 (w : World) : findIn (hd.heap_1 w.params) (.ref 117) "top" = some none := (kfacts w).1.2.1.2.2.1.1.1
theorem Z119 (w : World) : findIn (hd.heap_1 w.params) (.ref 117) "limit" = some none := (kfacts w).1.2.1.2.2.1.1.2
theorem Z120 (w : World) : findIn (hd.heap_1 w.params) (.ref 117) "cards" = some none := (kfacts w).1.2.1.2.2.1.2.1
theorem Z121 (w : World) : findIn (hd.heap_1 w.params) (.ref 117) "card_bits" = some none := (kfacts w).1.2.1.2.2.1.2.2.1
theorem Z122 (w : World) : findIn (hd.heap_1 w.params) (.ref 117) "fresh" = some none := (kfacts w).1.2.1.2.2.1.2.2.2
theorem Z123 (w : World) : findIn (hd.heap_1 w.params) (.ref 117) "young_limit" = some none := (kfacts w).1.2.1.2.2.2.1.1
theorem Z124 (w : World) : findIn (hd.heap_1 w.params) (.ref 117) "finals" = some none := (kfacts w).1.2.1.2.2.2.1.2.1
theorem Z125 (w : World) : findIn (hd.heap_1 w.params) (.ref 117) "ready" = some none := (kfacts w).1.2.1.2.2.2.1.2.2
theorem Z126 (w : World) : findIn (hd.heap_1 w.params) (.ref 117) "moved" = some none := (kfacts w).1.2.1.2.2.2.2.1
theorem Z127 (w : World) : findIn (hd.heap_1 w.params) (.ref 117) "made" = some none := (kfacts w).1.2.1.2.2.2.2.2.1
theorem Z128 (w : World) : plainGet (hd.heap_1 w.params) 145 "" = true := (kfacts w).1.2.1.2.2.2.2.2.2
theorem Z129 (w : World) : hasDictIn (hd.heap_1 w.params) 145 = true := (kfacts w).1.2.2.1.1.1.1.1
theorem Z130 (w : World) : makesIn (hd.heap_1 w.params) 145 = true := (kfacts w).1.2.2.1.1.1.1.2
theorem Z131 (w : World) : keepIn (hd.heap_1 w.params) (.ref 145) = true := (kfacts w).1.2.2.1.1.1.2.1
theorem Z132 (w : World) : findIn (hd.heap_1 w.params) (.ref 145) "__init__" = some (some (.ref 142)) := (kfacts w).1.2.2.1.1.1.2.2.1
theorem Z133 (w : World) : isFn (hd.heap_1 w.params) (.ref 142) = true := (kfacts w).1.2.2.1.1.1.2.2.2
theorem Z134 (w : World) : plainOver (hd.heap_1 w.params) 145 = true := (kfacts w).1.2.2.1.1.2.1.1
theorem Z135 (w : World) : findIn (hd.heap_1 w.params) (.ref 145) "__setattr__" = some (some (.builtin "object.__setattr__")) := (kfacts w).1.2.2.1.1.2.1.2
theorem Z136 (w : World) : findIn (hd.heap_1 w.params) (.ref 145) "heap" = some none := (kfacts w).1.2.2.1.1.2.2.1
theorem Z137 (w : World) : findIn (hd.heap_1 w.params) (.ref 145) "frames" = some none := (kfacts w).1.2.2.1.1.2.2.2.1
theorem Z138 (w : World) : findIn (hd.heap_1 w.params) (.ref 145) "statics" = some none := (kfacts w).1.2.2.1.1.2.2.2.2
theorem Z139 (w : World) : plainGet (hd.heap_1 w.params) 202 "" = true := (kfacts w).1.2.2.1.2.1.1.1
theorem Z140 (w : World) : hasDictIn (hd.heap_1 w.params) 202 = true := (kfacts w).1.2.2.1.2.1.1.2
theorem Z141 (w : World) : makesIn (hd.heap_1 w.params) 202 = true := (kfacts w).1.2.2.1.2.1.2.1
theorem Z142 (w : World) : keepIn (hd.heap_1 w.params) (.ref 202) = true := (kfacts w).1.2.2.1.2.1.2.2.1
theorem Z143 (w : World) : findIn (hd.heap_1 w.params) (.ref 202) "__init__" = some (some (.builtin "object.__init__")) := (kfacts w).1.2.2.1.2.1.2.2.2
theorem Z144 (w : World) : plainGet (hd.heap_1 w.params) 223 "" = true := (kfacts w).1.2.2.1.2.2.1.1
theorem Z145 (w : World) : hasDictIn (hd.heap_1 w.params) 223 = true := (kfacts w).1.2.2.1.2.2.1.2.1
theorem Z146 (w : World) : makesIn (hd.heap_1 w.params) 223 = true := (kfacts w).1.2.2.1.2.2.1.2.2
theorem Z147 (w : World) : keepIn (hd.heap_1 w.params) (.ref 223) = true := (kfacts w).1.2.2.1.2.2.2.1
theorem Z148 (w : World) : findIn (hd.heap_1 w.params) (.ref 223) "__init__" = some (some (.builtin "object.__init__")) := (kfacts w).1.2.2.1.2.2.2.2.1
theorem Z149 (w : World) : findIn (hd.heap_1 w.params) (.ref 223) "before" = some (some (.ref 220)) := (kfacts w).1.2.2.1.2.2.2.2.2
theorem Z150 (w : World) : isFn (hd.heap_1 w.params) (.ref 220) = true := (kfacts w).1.2.2.2.1.1.1.1
theorem Z151 (w : World) : plainGet (hd.heap_1 w.params) 251 "" = true := (kfacts w).1.2.2.2.1.1.1.2
theorem Z152 (w : World) : hasDictIn (hd.heap_1 w.params) 251 = true := (kfacts w).1.2.2.2.1.1.2.1
theorem Z153 (w : World) : makesIn (hd.heap_1 w.params) 251 = true := (kfacts w).1.2.2.2.1.1.2.2.1
theorem Z154 (w : World) : keepIn (hd.heap_1 w.params) (.ref 251) = true := (kfacts w).1.2.2.2.1.1.2.2.2
theorem Z155 (w : World) : findIn (hd.heap_1 w.params) (.ref 251) "__init__" = some (some (.builtin "object.__init__")) := (kfacts w).1.2.2.2.1.2.1.1
theorem Z156 (w : World) : plainGet (hd.heap_1 w.params) 447 "" = true := (kfacts w).1.2.2.2.1.2.1.2.1
theorem Z157 (w : World) : hasDictIn (hd.heap_1 w.params) 447 = true := (kfacts w).1.2.2.2.1.2.1.2.2
theorem Z158 (w : World) : makesIn (hd.heap_1 w.params) 447 = true := (kfacts w).1.2.2.2.1.2.2.1
theorem Z159 (w : World) : keepIn (hd.heap_1 w.params) (.ref 447) = true := (kfacts w).1.2.2.2.1.2.2.2.1
theorem Z160 (w : World) : findIn (hd.heap_1 w.params) (.ref 447) "__init__" = some (some (.ref 395)) := (kfacts w).1.2.2.2.1.2.2.2.2
theorem Z161 (w : World) : isFn (hd.heap_1 w.params) (.ref 395) = true := (kfacts w).1.2.2.2.2.1.1.1
theorem Z162 (w : World) : plainOver (hd.heap_1 w.params) 447 = true := (kfacts w).1.2.2.2.2.1.1.2
theorem Z163 (w : World) : findIn (hd.heap_1 w.params) (.ref 447) "__setattr__" = some (some (.builtin "object.__setattr__")) := (kfacts w).1.2.2.2.2.1.2.1
theorem Z164 (w : World) : findIn (hd.heap_1 w.params) (.ref 447) "store" = some none := (kfacts w).1.2.2.2.2.1.2.2.1
theorem Z165 (w : World) : findIn (hd.heap_1 w.params) (.ref 447) "kt" = some none := (kfacts w).1.2.2.2.2.1.2.2.2
theorem Z166 (w : World) : findIn (hd.heap_1 w.params) (.ref 447) "heap" = some none := (kfacts w).1.2.2.2.2.2.1.1
theorem Z167 (w : World) : findIn (hd.heap_1 w.params) (.ref 447) "kin" = some none := (kfacts w).1.2.2.2.2.2.1.2.1
theorem Z168 (w : World) : findIn (hd.heap_1 w.params) (.ref 447) "rows" = some none := (kfacts w).1.2.2.2.2.2.1.2.2
theorem Z169 (w : World) : findIn (hd.heap_1 w.params) (.ref 447) "targets" = some none := (kfacts w).1.2.2.2.2.2.2.1
theorem Z170 (w : World) : findIn (hd.heap_1 w.params) (.ref 447) "defaults" = some none := (kfacts w).1.2.2.2.2.2.2.2.1
theorem Z171 (w : World) : findIn (hd.heap_1 w.params) (.ref 447) "unders" = some none := (kfacts w).1.2.2.2.2.2.2.2.2
theorem Z172 (w : World) : findIn (hd.heap_1 w.params) (.ref 447) "finals" = some none := (kfacts w).2.1.1.1.1.1.1.1
theorem Z173 (w : World) : findIn (hd.heap_1 w.params) (.ref 447) "frames" = some none := (kfacts w).2.1.1.1.1.1.1.2
theorem Z174 (w : World) : findIn (hd.heap_1 w.params) (.ref 447) "by_number" = some none := (kfacts w).2.1.1.1.1.1.2.1
theorem Z175 (w : World) : findIn (hd.heap_1 w.params) (.ref 447) "statics" = some none := (kfacts w).2.1.1.1.1.1.2.2.1
theorem Z176 (w : World) : findIn (hd.heap_1 w.params) (.ref 447) "inits" = some none := (kfacts w).2.1.1.1.1.1.2.2.2
theorem Z177 (w : World) : findIn (hd.heap_1 w.params) (.ref 447) "fails" = some none := (kfacts w).2.1.1.1.1.2.1.1
theorem Z178 (w : World) : findIn (hd.heap_1 w.params) (.ref 447) "ops" = some none := (kfacts w).2.1.1.1.1.2.1.2
theorem Z179 (w : World) : findIn (hd.heap_1 w.params) (.ref 447) "natives" = some none := (kfacts w).2.1.1.1.1.2.2.1
theorem Z180 (w : World) : findIn (hd.heap_1 w.params) (.ref 447) "state" = some none := (kfacts w).2.1.1.1.1.2.2.2.1
theorem Z181 (w : World) : findIn (hd.heap_1 w.params) (.ref 447) "told" = some none := (kfacts w).2.1.1.1.1.2.2.2.2
theorem Z182 (w : World) : findIn (hd.heap_1 w.params) (.ref 447) "thrown" = some none := (kfacts w).2.1.1.1.2.1.1.1
theorem Z183 (w : World) : findIn (hd.heap_1 w.params) (.ref 447) "calls" = some none := (kfacts w).2.1.1.1.2.1.1.2
theorem Z184 (w : World) : findIn (hd.heap_1 w.params) (.ref 447) "pushed" = some none := (kfacts w).2.1.1.1.2.1.2.1
theorem Z185 (w : World) : findIn (hd.heap_1 w.params) (.ref 447) "chases" = some none := (kfacts w).2.1.1.1.2.1.2.2.1
theorem Z186 (w : World) : findIn (hd.heap_1 w.params) (.ref 447) "interned" = some none := (kfacts w).2.1.1.1.2.1.2.2.2
theorem Z187 (w : World) : findIn (hd.heap_1 w.params) (.ref 447) "internv" = some none := (kfacts w).2.1.1.1.2.2.1.1
theorem Z188 (w : World) : findIn (hd.heap_1 w.params) (.ref 447) "held" = some none := (kfacts w).2.1.1.1.2.2.1.2.1
theorem Z189 (w : World) : findIn (hd.heap_1 w.params) (.ref 447) "result" = some none := (kfacts w).2.1.1.1.2.2.1.2.2
theorem Z190 (w : World) : findIn (hd.heap_1 w.params) (.ref 447) "last" = some none := (kfacts w).2.1.1.1.2.2.2.1
theorem Z191 (w : World) : findIn (hd.heap_1 w.params) (.ref 447) "unhandled" = some none := (kfacts w).2.1.1.1.2.2.2.2.1
theorem Z192 (w : World) : findIn (hd.heap_1 w.params) (.ref 447) "handles" = some none := (kfacts w).2.1.1.1.2.2.2.2.2
theorem Z193 (w : World) : findIn (hd.heap_1 w.params) (.ref 447) "places" = some none := (kfacts w).2.1.1.2.1.1.1.1
theorem Z194 (w : World) : findIn (hd.heap_1 w.params) (.ref 447) "starter" = some none := (kfacts w).2.1.1.2.1.1.1.2
theorem Z195 (w : World) : findIn (hd.heap_1 w.params) (.ref 447) "closer" = some none := (kfacts w).2.1.1.2.1.1.2.1
theorem Z196 (w : World) : findIn (hd.heap_1 w.params) (.ref 447) "sweeper" = some none := (kfacts w).2.1.1.2.1.1.2.2.1
theorem Z197 (w : World) : findIn (hd.heap_1 w.params) (.ref 447) "alloc" = some (some (.ref 416)) := (kfacts w).2.1.1.2.1.1.2.2.2
theorem Z198 (w : World) : isFn (hd.heap_1 w.params) (.ref 416) = true := (kfacts w).2.1.1.2.1.2.1.1
theorem Z199 (w : World) : findIn (hd.heap_1 w.params) (.ref 447) "text_of" = some (some (.ref 430)) := (kfacts w).2.1.1.2.1.2.1.2.1
theorem Z200 (w : World) : isFn (hd.heap_1 w.params) (.ref 430) = true := (kfacts w).2.1.1.2.1.2.1.2.2
theorem Z201 (w : World) : findIn (hd.heap_1 w.params) (.ref 447) "text_ref" = some (some (.ref 437)) := (kfacts w).2.1.1.2.1.2.2.1
theorem Z202 (w : World) : isFn (hd.heap_1 w.params) (.ref 437) = true := (kfacts w).2.1.1.2.1.2.2.2.1
theorem Z203 (w : World) : findIn (hd.heap_1 w.params) (.ref 447) "new_text" = some (some (.ref 444)) := (kfacts w).2.1.1.2.1.2.2.2.2
theorem Z204 (w : World) : isFn (hd.heap_1 w.params) (.ref 444) = true := (kfacts w).2.1.1.2.2.1.1.1
theorem Z205 (w : World) : findIn (hd.heap_1 w.params) (.ref 447) "throw_new" = some (some (.ref 367)) := (kfacts w).2.1.1.2.2.1.1.2
theorem Z206 (w : World) : isFn (hd.heap_1 w.params) (.ref 367) = true := (kfacts w).2.1.1.2.2.1.2.1
theorem Z207 (w : World) : plainGet (hd.heap_1 w.params) 798 "" = true := (kfacts w).2.1.1.2.2.1.2.2.1
theorem Z208 (w : World) : hasDictIn (hd.heap_1 w.params) 798 = true := (kfacts w).2.1.1.2.2.1.2.2.2
theorem Z209 (w : World) : makesIn (hd.heap_1 w.params) 798 = true := (kfacts w).2.1.1.2.2.2.1.1
theorem Z210 (w : World) : keepIn (hd.heap_1 w.params) (.ref 798) = true := (kfacts w).2.1.1.2.2.2.1.2.1
theorem Z211 (w : World) : findIn (hd.heap_1 w.params) (.ref 798) "__init__" = some (some (.ref 753)) := (kfacts w).2.1.1.2.2.2.1.2.2
theorem Z212 (w : World) : isFn (hd.heap_1 w.params) (.ref 753) = true := (kfacts w).2.1.1.2.2.2.2.1
theorem Z213 (w : World) : plainOver (hd.heap_1 w.params) 798 = true := (kfacts w).2.1.1.2.2.2.2.2.1
theorem Z214 (w : World) : findIn (hd.heap_1 w.params) (.ref 798) "__setattr__" = some (some (.builtin "object.__setattr__")) := (kfacts w).2.1.1.2.2.2.2.2.2
theorem Z215 (w : World) : findIn (hd.heap_1 w.params) (.ref 798) "kt" = some none := (kfacts w).2.1.2.1.1.1.1.1
theorem Z216 (w : World) : findIn (hd.heap_1 w.params) (.ref 798) "bases" = some none := (kfacts w).2.1.2.1.1.1.1.2
theorem Z217 (w : World) : findIn (hd.heap_1 w.params) (.ref 798) "ifaces" = some none := (kfacts w).2.1.2.1.1.1.2.1
theorem Z218 (w : World) : findIn (hd.heap_1 w.params) (.ref 798) "sorts" = some none := (kfacts w).2.1.2.1.1.1.2.2.1
theorem Z219 (w : World) : findIn (hd.heap_1 w.params) (.ref 798) "variances" = some none := (kfacts w).2.1.2.1.1.1.2.2.2
theorem Z220 (w : World) : findIn (hd.heap_1 w.params) (.ref 798) "unders" = some none := (kfacts w).2.1.2.1.1.2.1.1
theorem Z221 (w : World) : findIn (hd.heap_1 w.params) (.ref 798) "bounds" = some none := (kfacts w).2.1.2.1.1.2.1.2
theorem Z222 (w : World) : findIn (hd.heap_1 w.params) (.ref 798) "gflags" = some none := (kfacts w).2.1.2.1.1.2.2.1
theorem Z223 (w : World) : findIn (hd.heap_1 w.params) (.ref 798) "news" = some none := (kfacts w).2.1.2.1.1.2.2.2.1
theorem Z224 (w : World) : plainGet (hd.heap_1 w.params) 578 "" = true := (kfacts w).2.1.2.1.1.2.2.2.2
theorem Z225 (w : World) : hasDictIn (hd.heap_1 w.params) 578 = true := (kfacts w).2.1.2.1.2.1.1.1
theorem Z226 (w : World) : makesIn (hd.heap_1 w.params) 578 = true := (kfacts w).2.1.2.1.2.1.1.2
theorem Z227 (w : World) : keepIn (hd.heap_1 w.params) (.ref 578) = true := (kfacts w).2.1.2.1.2.1.2.1
theorem Z228 (w : World) : findIn (hd.heap_1 w.params) (.ref 578) "__init__" = some (some (.builtin "object.__init__")) := (kfacts w).2.1.2.1.2.1.2.2.1
theorem Z229 (w : World) : findIn (hd.heap_1 w.params) (.ref 578) "call" = some (some (.ref 575)) := (kfacts w).2.1.2.1.2.1.2.2.2
theorem Z230 (w : World) : isFn (hd.heap_1 w.params) (.ref 575) = true := (kfacts w).2.1.2.1.2.2.1.1
theorem Z231 (w : World) : plainGet (hd.heap_1 w.params) 597 "" = true := (kfacts w).2.1.2.1.2.2.1.2.1
theorem Z232 (w : World) : hasDictIn (hd.heap_1 w.params) 597 = true := (kfacts w).2.1.2.1.2.2.1.2.2
theorem Z233 (w : World) : makesIn (hd.heap_1 w.params) 597 = true := (kfacts w).2.1.2.1.2.2.2.1
theorem Z234 (w : World) : keepIn (hd.heap_1 w.params) (.ref 597) = true := (kfacts w).2.1.2.1.2.2.2.2.1
theorem Z235 (w : World) : findIn (hd.heap_1 w.params) (.ref 597) "__init__" = some (some (.builtin "object.__init__")) := (kfacts w).2.1.2.1.2.2.2.2.2
theorem Z236 (w : World) : findIn (hd.heap_1 w.params) (.ref 597) "call" = some (some (.ref 594)) := (kfacts w).2.1.2.2.1.1.1.1
theorem Z237 (w : World) : isFn (hd.heap_1 w.params) (.ref 594) = true := (kfacts w).2.1.2.2.1.1.1.2
theorem Z238 (w : World) : plainGet (hd.heap_1 w.params) 616 "" = true := (kfacts w).2.1.2.2.1.1.2.1
theorem Z239 (w : World) : hasDictIn (hd.heap_1 w.params) 616 = true := (kfacts w).2.1.2.2.1.1.2.2.1
theorem Z240 (w : World) : makesIn (hd.heap_1 w.params) 616 = true := (kfacts w).2.1.2.2.1.1.2.2.2
theorem Z241 (w : World) : keepIn (hd.heap_1 w.params) (.ref 616) = true := (kfacts w).2.1.2.2.1.2.1.1
theorem Z242 (w : World) : findIn (hd.heap_1 w.params) (.ref 616) "__init__" = some (some (.builtin "object.__init__")) := (kfacts w).2.1.2.2.1.2.1.2.1
theorem Z243 (w : World) : findIn (hd.heap_1 w.params) (.ref 616) "call" = some (some (.ref 613)) := (kfacts w).2.1.2.2.1.2.1.2.2
theorem Z244 (w : World) : isFn (hd.heap_1 w.params) (.ref 613) = true := (kfacts w).2.1.2.2.1.2.2.1
theorem Z245 (w : World) : plainGet (hd.heap_1 w.params) 635 "" = true := (kfacts w).2.1.2.2.1.2.2.2.1
theorem Z246 (w : World) : hasDictIn (hd.heap_1 w.params) 635 = true := (kfacts w).2.1.2.2.1.2.2.2.2
theorem Z247 (w : World) : makesIn (hd.heap_1 w.params) 635 = true := (kfacts w).2.1.2.2.2.1.1.1
theorem Z248 (w : World) : keepIn (hd.heap_1 w.params) (.ref 635) = true := (kfacts w).2.1.2.2.2.1.1.2
theorem Z249 (w : World) : findIn (hd.heap_1 w.params) (.ref 635) "__init__" = some (some (.builtin "object.__init__")) := (kfacts w).2.1.2.2.2.1.2.1
theorem Z250 (w : World) : findIn (hd.heap_1 w.params) (.ref 635) "call" = some (some (.ref 632)) := (kfacts w).2.1.2.2.2.1.2.2.1
theorem Z251 (w : World) : isFn (hd.heap_1 w.params) (.ref 632) = true := (kfacts w).2.1.2.2.2.1.2.2.2
theorem Z252 (w : World) : plainGet (hd.heap_1 w.params) 654 "" = true := (kfacts w).2.1.2.2.2.2.1.1
theorem Z253 (w : World) : hasDictIn (hd.heap_1 w.params) 654 = true := (kfacts w).2.1.2.2.2.2.1.2.1
theorem Z254 (w : World) : makesIn (hd.heap_1 w.params) 654 = true := (kfacts w).2.1.2.2.2.2.1.2.2
theorem Z255 (w : World) : keepIn (hd.heap_1 w.params) (.ref 654) = true := (kfacts w).2.1.2.2.2.2.2.1
theorem Z256 (w : World) : findIn (hd.heap_1 w.params) (.ref 654) "__init__" = some (some (.builtin "object.__init__")) := (kfacts w).2.1.2.2.2.2.2.2.1
theorem Z257 (w : World) : findIn (hd.heap_1 w.params) (.ref 654) "call" = some (some (.ref 651)) := (kfacts w).2.1.2.2.2.2.2.2.2
theorem Z258 (w : World) : isFn (hd.heap_1 w.params) (.ref 651) = true := (kfacts w).2.2.1.1.1.1.1.1
theorem Z259 (w : World) : plainGet (hd.heap_1 w.params) 673 "" = true := (kfacts w).2.2.1.1.1.1.1.2
theorem Z260 (w : World) : hasDictIn (hd.heap_1 w.params) 673 = true := (kfacts w).2.2.1.1.1.1.2.1
theorem Z261 (w : World) : makesIn (hd.heap_1 w.params) 673 = true := (kfacts w).2.2.1.1.1.1.2.2.1
theorem Z262 (w : World) : keepIn (hd.heap_1 w.params) (.ref 673) = true := (kfacts w).2.2.1.1.1.1.2.2.2
theorem Z263 (w : World) : findIn (hd.heap_1 w.params) (.ref 673) "__init__" = some (some (.builtin "object.__init__")) := (kfacts w).2.2.1.1.1.2.1.1
theorem Z264 (w : World) : findIn (hd.heap_1 w.params) (.ref 673) "call" = some (some (.ref 670)) := (kfacts w).2.2.1.1.1.2.1.2
theorem Z265 (w : World) : isFn (hd.heap_1 w.params) (.ref 670) = true := (kfacts w).2.2.1.1.1.2.2.1
theorem Z266 (w : World) : plainGet (hd.heap_1 w.params) 692 "" = true := (kfacts w).2.2.1.1.1.2.2.2.1
theorem Z267 (w : World) : hasDictIn (hd.heap_1 w.params) 692 = true := (kfacts w).2.2.1.1.1.2.2.2.2
theorem Z268 (w : World) : makesIn (hd.heap_1 w.params) 692 = true := (kfacts w).2.2.1.1.2.1.1.1
theorem Z269 (w : World) : keepIn (hd.heap_1 w.params) (.ref 692) = true := (kfacts w).2.2.1.1.2.1.1.2
theorem Z270 (w : World) : findIn (hd.heap_1 w.params) (.ref 692) "__init__" = some (some (.builtin "object.__init__")) := (kfacts w).2.2.1.1.2.1.2.1
theorem Z271 (w : World) : findIn (hd.heap_1 w.params) (.ref 692) "call" = some (some (.ref 689)) := (kfacts w).2.2.1.1.2.1.2.2.1
theorem Z272 (w : World) : isFn (hd.heap_1 w.params) (.ref 689) = true := (kfacts w).2.2.1.1.2.1.2.2.2
theorem Z273 (w : World) : plainGet (hd.heap_1 w.params) 711 "" = true := (kfacts w).2.2.1.1.2.2.1.1
theorem Z274 (w : World) : hasDictIn (hd.heap_1 w.params) 711 = true := (kfacts w).2.2.1.1.2.2.1.2.1
theorem Z275 (w : World) : makesIn (hd.heap_1 w.params) 711 = true := (kfacts w).2.2.1.1.2.2.1.2.2
theorem Z276 (w : World) : keepIn (hd.heap_1 w.params) (.ref 711) = true := (kfacts w).2.2.1.1.2.2.2.1
theorem Z277 (w : World) : findIn (hd.heap_1 w.params) (.ref 711) "__init__" = some (some (.builtin "object.__init__")) := (kfacts w).2.2.1.1.2.2.2.2.1
theorem Z278 (w : World) : findIn (hd.heap_1 w.params) (.ref 711) "call" = some (some (.ref 708)) := (kfacts w).2.2.1.1.2.2.2.2.2
theorem Z279 (w : World) : isFn (hd.heap_1 w.params) (.ref 708) = true := (kfacts w).2.2.1.2.1.1.1.1
theorem Z280 (w : World) : plainGet (hd.heap_1 w.params) 730 "" = true := (kfacts w).2.2.1.2.1.1.1.2
theorem Z281 (w : World) : hasDictIn (hd.heap_1 w.params) 730 = true := (kfacts w).2.2.1.2.1.1.2.1
theorem Z282 (w : World) : makesIn (hd.heap_1 w.params) 730 = true := (kfacts w).2.2.1.2.1.1.2.2.1
theorem Z283 (w : World) : keepIn (hd.heap_1 w.params) (.ref 730) = true := (kfacts w).2.2.1.2.1.1.2.2.2
theorem Z284 (w : World) : findIn (hd.heap_1 w.params) (.ref 730) "__init__" = some (some (.builtin "object.__init__")) := (kfacts w).2.2.1.2.1.2.1.1
theorem Z285 (w : World) : findIn (hd.heap_1 w.params) (.ref 730) "call" = some (some (.ref 727)) := (kfacts w).2.2.1.2.1.2.1.2.1
theorem Z286 (w : World) : isFn (hd.heap_1 w.params) (.ref 727) = true := (kfacts w).2.2.1.2.1.2.1.2.2
theorem Z287 (w : World) : keepIn (hd.heap_1 w.params) (.ref 58) = true := (kfacts w).2.2.1.2.1.2.2.1
theorem Z288 (w : World) : keepIn (hd.heap_1 w.params) (.ref 79) = true := (kfacts w).2.2.1.2.1.2.2.2.1
theorem Z289 (w : World) : keepIn (hd.heap_1 w.params) (.ref 498) = true := (kfacts w).2.2.1.2.1.2.2.2.2
theorem Z290 (w : World) : keepIn (hd.heap_1 w.params) (.ref 505) = true := (kfacts w).2.2.1.2.2.1.1.1
theorem Z291 (w : World) : keepIn (hd.heap_1 w.params) (.ref 519) = true := (kfacts w).2.2.1.2.2.1.1.2
theorem Z292 (w : World) : keepIn (hd.heap_1 w.params) (.ref 512) = true := (kfacts w).2.2.1.2.2.1.2.1
theorem Z293 (w : World) : keepIn (hd.heap_1 w.params) (.ref 128) = true := (kfacts w).2.2.1.2.2.1.2.2.1
theorem Z294 (w : World) : keepIn (hd.heap_1 w.params) (.ref 491) = true := (kfacts w).2.2.1.2.2.1.2.2.2
theorem Z295 (w : World) : keepIn (hd.heap_1 w.params) (.ref 65) = true := (kfacts w).2.2.1.2.2.2.1.1
theorem Z296 (w : World) : keepIn (hd.heap_1 w.params) (.ref 540) = true := (kfacts w).2.2.1.2.2.2.1.2.1
theorem Z297 (w : World) : keepIn (hd.heap_1 w.params) (.ref 554) = true := (kfacts w).2.2.1.2.2.2.1.2.2
theorem Z298 (w : World) : keepIn (hd.heap_1 w.params) (.ref 547) = true := (kfacts w).2.2.1.2.2.2.2.1
theorem Z299 (w : World) : keepIn (hd.heap_1 w.params) (.ref 526) = true := (kfacts w).2.2.1.2.2.2.2.2.1
theorem Z300 (w : World) : keepIn (hd.heap_1 w.params) (.ref 533) = true := (kfacts w).2.2.1.2.2.2.2.2.2
theorem Z301 (w : World) : keepIn (hd.heap_1 w.params) (.ref 561) = true := (kfacts w).2.2.2.1.1.1.1.1
theorem Z302 (w : World) : keepIn (hd.heap_1 w.params) (.ref 816) = true := (kfacts w).2.2.2.1.1.1.1.2
theorem Z303 (w : World) : keepIn (hd.heap_1 w.params) (.ref 823) = true := (kfacts w).2.2.2.1.1.1.2.1
theorem Z304 (w : World) : keepIn (hd.heap_1 w.params) (.ref 830) = true := (kfacts w).2.2.2.1.1.1.2.2.1
theorem Z305 (w : World) : keepIn (hd.heap_1 w.params) (.ref 858) = true := (kfacts w).2.2.2.1.1.1.2.2.2
theorem Z306 (w : World) : keepIn (hd.heap_1 w.params) (.ref 851) = true := (kfacts w).2.2.2.1.1.2.1.1
theorem Z307 (w : World) : keepIn (hd.heap_1 w.params) (.ref 837) = true := (kfacts w).2.2.2.1.1.2.1.2.1
theorem Z308 (w : World) : keepIn (hd.heap_1 w.params) (.ref 872) = true := (kfacts w).2.2.2.1.1.2.1.2.2
theorem Z309 (w : World) : keepIn (hd.heap_1 w.params) (.ref 879) = true := (kfacts w).2.2.2.1.1.2.2.1
theorem Z310 (w : World) : keepIn (hd.heap_1 w.params) (.ref 865) = true := (kfacts w).2.2.2.1.1.2.2.2.1
theorem Z311 (w : World) : keepIn (hd.heap_1 w.params) (.ref 893) = true := (kfacts w).2.2.2.1.1.2.2.2.2
theorem Z312 (w : World) : keepIn (hd.heap_1 w.params) (.ref 844) = true := (kfacts w).2.2.2.1.2.1.1.1
theorem Z313 (w : World) : keepIn (hd.heap_1 w.params) (.ref 886) = true := (kfacts w).2.2.2.1.2.1.1.2
theorem Z314 (w : World) : keepIn (hd.heap_1 w.params) (.ref 914) = true := (kfacts w).2.2.2.1.2.1.2.1
theorem Z315 (w : World) : keepIn (hd.heap_1 w.params) (.ref 928) = true := (kfacts w).2.2.2.1.2.1.2.2.1
theorem Z316 (w : World) : keepIn (hd.heap_1 w.params) (.ref 809) = true := (kfacts w).2.2.2.1.2.1.2.2.2
theorem Z317 (w : World) : keepIn (hd.heap_1 w.params) (.ref 956) = true := (kfacts w).2.2.2.1.2.2.1.1
theorem Z318 (w : World) : keepIn (hd.heap_1 w.params) (.ref 907) = true := (kfacts w).2.2.2.1.2.2.1.2.1
theorem Z319 (w : World) : keepIn (hd.heap_1 w.params) (.ref 942) = true := (kfacts w).2.2.2.1.2.2.1.2.2
theorem Z320 (w : World) : keepIn (hd.heap_1 w.params) (.ref 949) = true := (kfacts w).2.2.2.1.2.2.2.1
theorem Z321 (w : World) : keepIn (hd.heap_1 w.params) (.ref 900) = true := (kfacts w).2.2.2.1.2.2.2.2.1
theorem Z322 (w : World) : keepIn (hd.heap_1 w.params) (.ref 921) = true := (kfacts w).2.2.2.1.2.2.2.2.2
theorem Z323 (w : World) : keepIn (hd.heap_1 w.params) (.ref 935) = true := (kfacts w).2.2.2.2.1.1.1.1
theorem Z324 (w : World) : keepIn (hd.heap_1 w.params) (.ref 963) = true := (kfacts w).2.2.2.2.1.1.1.2
theorem Z325 (w : World) : keepIn (hd.heap_1 w.params) (.ref 970) = true := (kfacts w).2.2.2.2.1.1.2.1
theorem Z326 (w : World) : keepIn (hd.heap_1 w.params) (.ref 739) = true := (kfacts w).2.2.2.2.1.1.2.2.1
theorem Z327 (w : World) : keepIn (hd.heap_1 w.params) (.ref 984) = true := (kfacts w).2.2.2.2.1.1.2.2.2
theorem Z328 (w : World) : keepIn (hd.heap_1 w.params) (.ref 977) = true := (kfacts w).2.2.2.2.1.2.1.1
theorem Z329 (w : World) : keepIn (hd.heap_1 w.params) (.ref 456) = true := (kfacts w).2.2.2.2.1.2.1.2.1
theorem Z330 (w : World) : keepIn (hd.heap_1 w.params) (.ref 416) = true := (kfacts w).2.2.2.2.1.2.1.2.2
theorem Z331 (w : World) : keepIn (hd.heap_1 w.params) (.ref 430) = true := (kfacts w).2.2.2.2.1.2.2.1
theorem Z332 (w : World) : keepIn (hd.heap_1 w.params) (.ref 437) = true := (kfacts w).2.2.2.2.1.2.2.2.1
theorem Z333 (w : World) : keepIn (hd.heap_1 w.params) (.ref 444) = true := (kfacts w).2.2.2.2.1.2.2.2.2
theorem Z334 (w : World) : keepIn (hd.heap_1 w.params) (.ref 367) = true := (kfacts w).2.2.2.2.2.1.1.1
theorem Z335 (w : World) : keepIn (hd.heap_1 w.params) (.ref 220) = true := (kfacts w).2.2.2.2.2.1.1.2
theorem Z336 (w : World) : keepIn (hd.heap_1 w.params) (.ref 575) = true := (kfacts w).2.2.2.2.2.1.2.1
theorem Z337 (w : World) : keepIn (hd.heap_1 w.params) (.ref 594) = true := (kfacts w).2.2.2.2.2.1.2.2.1
theorem Z338 (w : World) : keepIn (hd.heap_1 w.params) (.ref 613) = true := (kfacts w).2.2.2.2.2.1.2.2.2
theorem Z339 (w : World) : keepIn (hd.heap_1 w.params) (.ref 632) = true := (kfacts w).2.2.2.2.2.2.1.1
theorem Z340 (w : World) : keepIn (hd.heap_1 w.params) (.ref 651) = true := (kfacts w).2.2.2.2.2.2.1.2.1
theorem Z341 (w : World) : keepIn (hd.heap_1 w.params) (.ref 670) = true := (kfacts w).2.2.2.2.2.2.1.2.2
theorem Z342 (w : World) : keepIn (hd.heap_1 w.params) (.ref 689) = true := (kfacts w).2.2.2.2.2.2.2.1
theorem Z343 (w : World) : keepIn (hd.heap_1 w.params) (.ref 708) = true := (kfacts w).2.2.2.2.2.2.2.2.1
theorem Z344 (w : World) : keepIn (hd.heap_1 w.params) (.ref 727) = true := (kfacts w).2.2.2.2.2.2.2.2.2
end Mine
end BG_
section B4_
namespace Mine
section
variable {w : World} {A : Around} {E : Value → Shared → Prop} {hp : Heap} {gn : Array GenState} {dr : Drawn} {tk : Nat} {oS : OsState} {h₀ : Heap} {L : Addr} {m : Str → Option Value} {P : Pl} {X news : Led} {st : St} {Φ : List Fact}

theorem inst_at {h : Heap} {x C : Addr} {fs : List (Str × Value)} {no : List Str} (N : News h₀ L h (X ++ news)) (I : Inst P news x C fs no) :
    ∃ ox es n, InstAt h x ox C (some (dictOf es n)) ∧ (∀ p ∈ fs, getL p.1 es = some (some p.2)) ∧ ∀ k ∈ no, getL k es = some none :=
  let ⟨_, es, n, a, b, c, d⟩ := I
  ⟨_, es, n, InstAt.of_news N (List.mem_append_right _ a.1) (List.mem_append_right _ b.1), c, d⟩
theorem inst_get {x C : Addr} {fs : List (Str × Value)} {no : List Str} {name : Str} {v : Value} {expr : Bool} {Q : Value → Shared → Prop} (F : Fr h₀ L hp m) (X₀ : (hd.heap_1 w.params).In h₀) (N : News h₀ L hp (X ++ news)) (I : Inst P news x C fs no)
    (hm : (name, v) ∈ fs) (hg : plainGet (hd.heap_1 w.params) C name = true) (hh : hasDictIn (hd.heap_1 w.params) C = true) (ha : findIn (hd.heap_1 w.params) (.ref C) name = some none) (hv : handedIn v = true)
    (h : Q v ⟨hp, gn, dr, tk + 1, oS⟩) : wpAny (model PR w) A (getAttr (.ref x) name expr) Q E ⟨hp, gn, dr, tk, oS⟩ := by
  obtain ⟨ox, es, n, I', c, -⟩ := inst_at N I
  exact get_own F X₀ I' hg hh ha rfl (c _ hm) hv h
theorem inst_method {x C f : Addr} {fs : List (Str × Value)} {no : List Str} {name : Str} {pl : Sem Bool} {Q : Value × List Value → Shared → Prop} (F : Fr h₀ L hp m) (X₀ : (hd.heap_1 w.params).In h₀) (N : News h₀ L hp (X ++ news)) (I : Inst P news x C fs no)
    (hm : name ∈ no) (hg : plainGet (hd.heap_1 w.params) C name = true) (hf : findIn (hd.heap_1 w.params) (.ref C) name = some (some (.ref f))) (ht : isFn (hd.heap_1 w.params) (.ref f) = true)
    (h : Q (.ref f, [.ref x]) ⟨hp, gn, dr, tk, oS⟩) : wpAny (model PR w) A (getMethod (.ref x) name pl) Q E ⟨hp, gn, dr, tk, oS⟩ := by
  obtain ⟨ox, es, n, I', -, d⟩ := inst_at N I
  exact method_inst F X₀ I' hg hf ht (d _ hm) h

-- the machine's own names
theorem m_get {name : Str} {v : Value} {expr : Bool} {Q : Value → Shared → Prop} (F : Fr h₀ L hp m) (X₀ : (hd.heap_1 w.params).In h₀) (N : News h₀ L hp (X ++ news)) (S : Sta w P news)
    (hm : ∀ t, (name, v) ∈ P.mf t) (ha : findIn (hd.heap_1 w.params) (.ref 447) name = some none) (hv : handedIn v = true)
    (h : Q v ⟨hp, gn, dr, tk + 1, oS⟩) : wpAny (model PR w) A (getAttr (.ref P.m) name expr) Q E ⟨hp, gn, dr, tk, oS⟩ := by
  obtain ⟨t, I⟩ := S.m
  exact inst_get F X₀ N I (hm t) (Z156 w) (Z157 w) ha hv h
theorem m_heap {expr : Bool} {Q : Value → Shared → Prop} (F : Fr h₀ L hp m) (X₀ : (hd.heap_1 w.params).In h₀) (N : News h₀ L hp (X ++ news)) (S : Sta w P news)
    (h : Q (.ref P.h) ⟨hp, gn, dr, tk + 1, oS⟩) : wpAny (model PR w) A (getAttr (.ref P.m) "heap" expr) Q E ⟨hp, gn, dr, tk, oS⟩ := m_get F X₀ N S (fun _ => .head _) (Z166 w) rfl h
theorem m_natives {expr : Bool} {Q : Value → Shared → Prop} (F : Fr h₀ L hp m) (X₀ : (hd.heap_1 w.params).In h₀) (N : News h₀ L hp (X ++ news)) (S : Sta w P news)
    (h : Q (.ref P.nat) ⟨hp, gn, dr, tk + 1, oS⟩) : wpAny (model PR w) A (getAttr (.ref P.m) "natives" expr) Q E ⟨hp, gn, dr, tk, oS⟩ := m_get F X₀ N S (fun _ => .tail _ (.head _)) (Z179 w) rfl h
theorem m_thrown {expr : Bool} {Q : Value → Shared → Prop} (F : Fr h₀ L hp m) (X₀ : (hd.heap_1 w.params).In h₀) (N : News h₀ L hp (X ++ news)) (S : Sta w P news)
    (h : Q (.ref (P.adr .thrown)) ⟨hp, gn, dr, tk + 1, oS⟩) : wpAny (model PR w) A (getAttr (.ref P.m) "thrown" expr) Q E ⟨hp, gn, dr, tk, oS⟩ := m_get F X₀ N S (fun _ => .tail _ (.tail _ (.head _))) (Z182 w) rfl h
theorem m_told {expr : Bool} {Q : Value → Shared → Prop} (F : Fr h₀ L hp m) (X₀ : (hd.heap_1 w.params).In h₀) (N : News h₀ L hp (X ++ news)) (S : Sta w P news)
    (h : Q (.ref P.told) ⟨hp, gn, dr, tk + 1, oS⟩) : wpAny (model PR w) A (getAttr (.ref P.m) "told" expr) Q E ⟨hp, gn, dr, tk, oS⟩ := m_get F X₀ N S (fun _ => .tail _ (.tail _ (.tail _ (.head _)))) (Z181 w) rfl h
theorem m_interned {expr : Bool} {Q : Value → Shared → Prop} (F : Fr h₀ L hp m) (X₀ : (hd.heap_1 w.params).In h₀) (N : News h₀ L hp (X ++ news)) (S : Sta w P news)
    (h : Q (.ref (P.adr .itn)) ⟨hp, gn, dr, tk + 1, oS⟩) : wpAny (model PR w) A (getAttr (.ref P.m) "interned" expr) Q E ⟨hp, gn, dr, tk, oS⟩ := m_get F X₀ N S (fun _ => .tail _ (.tail _ (.tail _ (.tail _ (.head _))))) (Z186 w) rfl h
theorem m_internv {expr : Bool} {Q : Value → Shared → Prop} (F : Fr h₀ L hp m) (X₀ : (hd.heap_1 w.params).In h₀) (N : News h₀ L hp (X ++ news)) (S : Sta w P news)
    (h : Q (.ref (P.adr .itv)) ⟨hp, gn, dr, tk + 1, oS⟩) : wpAny (model PR w) A (getAttr (.ref P.m) "internv" expr) Q E ⟨hp, gn, dr, tk, oS⟩ := m_get F X₀ N S (fun _ => .tail _ (.tail _ (.tail _ (.tail _ (.tail _ (.head _)))))) (Z187 w) rfl h
theorem m_sweeper {expr : Bool} {Q : Value → Shared → Prop} (F : Fr h₀ L hp m) (X₀ : (hd.heap_1 w.params).In h₀) (N : News h₀ L hp (X ++ news)) (S : Sta w P news)
    (h : Q (.ref P.sweep) ⟨hp, gn, dr, tk + 1, oS⟩) : wpAny (model PR w) A (getAttr (.ref P.m) "sweeper" expr) Q E ⟨hp, gn, dr, tk, oS⟩ := m_get F X₀ N S (fun _ => .tail _ (.tail _ (.tail _ (.tail _ (.tail _ (.tail _ (.head _))))))) (Z196 w) rfl h
theorem m_state {expr : Bool} {Q : Value → Shared → Prop} (F : Fr h₀ L hp m) (X₀ : (hd.heap_1 w.params).In h₀) (N : News h₀ L hp (X ++ news)) (S : Sta w P news)
    (h : ∀ t, Q (.int 0 t) ⟨hp, gn, dr, tk + 1, oS⟩) : wpAny (model PR w) A (getAttr (.ref P.m) "state" expr) Q E ⟨hp, gn, dr, tk, oS⟩ := by
  obtain ⟨t, I⟩ := S.m
  exact inst_get F X₀ N I (.tail _ (.tail _ (.tail _ (.tail _ (.tail _ (.tail _ (.tail _ (.head _)))))))) (Z156 w) (Z157 w) (Z180 w) rfl (h t)
theorem mm_alloc {Q : Value → List Value → Shared → Prop} (F : Fr h₀ L hp m) (X₀ : (hd.heap_1 w.params).In h₀) (N : News h₀ L hp (X ++ news)) (S : Sta w P news)
    (h : Q (.ref 416) [.ref P.m] ⟨hp, gn, dr, tk, oS⟩) : GM (model PR w) A (.ref P.m) "alloc" Q E ⟨hp, gn, dr, tk, oS⟩ := by
  intro pl
  obtain ⟨t, I⟩ := S.m
  exact inst_method F X₀ N I (.head _) (Z156 w) (Z197 w) (Z198 w) h
theorem mm_text_of {Q : Value → List Value → Shared → Prop} (F : Fr h₀ L hp m) (X₀ : (hd.heap_1 w.params).In h₀) (N : News h₀ L hp (X ++ news)) (S : Sta w P news)
    (h : Q (.ref 430) [.ref P.m] ⟨hp, gn, dr, tk, oS⟩) : GM (model PR w) A (.ref P.m) "text_of" Q E ⟨hp, gn, dr, tk, oS⟩ := by
  intro pl
  obtain ⟨t, I⟩ := S.m
  exact inst_method F X₀ N I (.tail _ (.head _)) (Z156 w) (Z199 w) (Z200 w) h
theorem mm_text_ref {Q : Value → List Value → Shared → Prop} (F : Fr h₀ L hp m) (X₀ : (hd.heap_1 w.params).In h₀) (N : News h₀ L hp (X ++ news)) (S : Sta w P news)
    (h : Q (.ref 437) [.ref P.m] ⟨hp, gn, dr, tk, oS⟩) : GM (model PR w) A (.ref P.m) "text_ref" Q E ⟨hp, gn, dr, tk, oS⟩ := by
  intro pl
  obtain ⟨t, I⟩ := S.m
  exact inst_method F X₀ N I (.tail _ (.tail _ (.head _))) (Z156 w) (Z201 w) (Z202 w) h
theorem mm_new_text {Q : Value → List Value → Shared → Prop} (F : Fr h₀ L hp m) (X₀ : (hd.heap_1 w.params).In h₀) (N : News h₀ L hp (X ++ news)) (S : Sta w P news)
    (h : Q (.ref 444) [.ref P.m] ⟨hp, gn, dr, tk, oS⟩) : GM (model PR w) A (.ref P.m) "new_text" Q E ⟨hp, gn, dr, tk, oS⟩ := by
  intro pl
  obtain ⟨t, I⟩ := S.m
  exact inst_method F X₀ N I (.tail _ (.tail _ (.tail _ (.head _)))) (Z156 w) (Z203 w) (Z204 w) h
theorem mm_throw_new {Q : Value → List Value → Shared → Prop} (F : Fr h₀ L hp m) (X₀ : (hd.heap_1 w.params).In h₀) (N : News h₀ L hp (X ++ news)) (S : Sta w P news)
    (h : Q (.ref 367) [.ref P.m] ⟨hp, gn, dr, tk, oS⟩) : GM (model PR w) A (.ref P.m) "throw_new" Q E ⟨hp, gn, dr, tk, oS⟩ := by
  intro pl
  obtain ⟨t, I⟩ := S.m
  exact inst_method F X₀ N I (.tail _ (.tail _ (.tail _ (.tail _ (.head _))))) (Z156 w) (Z205 w) (Z206 w) h
theorem nm_1 {Q : Value → List Value → Shared → Prop} (F : Fr h₀ L hp m) (X₀ : (hd.heap_1 w.params).In h₀) (N : News h₀ L hp (X ++ news)) (S : Sta w P news)
    (h : Q (.ref 575) [.ref (P.ni 1)] ⟨hp, gn, dr, tk, oS⟩) : GM (model PR w) A (.ref (P.ni 1)) "call" Q E ⟨hp, gn, dr, tk, oS⟩ := fun _ => inst_method F X₀ N S.n1 (.head _) (Z224 w) (Z229 w) (Z230 w) h
theorem nm_2 {Q : Value → List Value → Shared → Prop} (F : Fr h₀ L hp m) (X₀ : (hd.heap_1 w.params).In h₀) (N : News h₀ L hp (X ++ news)) (S : Sta w P news)
    (h : Q (.ref 594) [.ref (P.ni 2)] ⟨hp, gn, dr, tk, oS⟩) : GM (model PR w) A (.ref (P.ni 2)) "call" Q E ⟨hp, gn, dr, tk, oS⟩ := fun _ => inst_method F X₀ N S.n2 (.head _) (Z231 w) (Z236 w) (Z237 w) h
theorem nm_3 {Q : Value → List Value → Shared → Prop} (F : Fr h₀ L hp m) (X₀ : (hd.heap_1 w.params).In h₀) (N : News h₀ L hp (X ++ news)) (S : Sta w P news)
    (h : Q (.ref 613) [.ref (P.ni 3)] ⟨hp, gn, dr, tk, oS⟩) : GM (model PR w) A (.ref (P.ni 3)) "call" Q E ⟨hp, gn, dr, tk, oS⟩ := fun _ => inst_method F X₀ N S.n3 (.head _) (Z238 w) (Z243 w) (Z244 w) h
theorem nm_4 {Q : Value → List Value → Shared → Prop} (F : Fr h₀ L hp m) (X₀ : (hd.heap_1 w.params).In h₀) (N : News h₀ L hp (X ++ news)) (S : Sta w P news)
    (h : Q (.ref 632) [.ref (P.ni 4)] ⟨hp, gn, dr, tk, oS⟩) : GM (model PR w) A (.ref (P.ni 4)) "call" Q E ⟨hp, gn, dr, tk, oS⟩ := fun _ => inst_method F X₀ N S.n4 (.head _) (Z245 w) (Z250 w) (Z251 w) h
theorem nm_5 {Q : Value → List Value → Shared → Prop} (F : Fr h₀ L hp m) (X₀ : (hd.heap_1 w.params).In h₀) (N : News h₀ L hp (X ++ news)) (S : Sta w P news)
    (h : Q (.ref 651) [.ref (P.ni 5)] ⟨hp, gn, dr, tk, oS⟩) : GM (model PR w) A (.ref (P.ni 5)) "call" Q E ⟨hp, gn, dr, tk, oS⟩ := fun _ => inst_method F X₀ N S.n5 (.head _) (Z252 w) (Z257 w) (Z258 w) h
theorem nm_6 {Q : Value → List Value → Shared → Prop} (F : Fr h₀ L hp m) (X₀ : (hd.heap_1 w.params).In h₀) (N : News h₀ L hp (X ++ news)) (S : Sta w P news)
    (h : Q (.ref 670) [.ref (P.ni 6)] ⟨hp, gn, dr, tk, oS⟩) : GM (model PR w) A (.ref (P.ni 6)) "call" Q E ⟨hp, gn, dr, tk, oS⟩ := fun _ => inst_method F X₀ N S.n6 (.head _) (Z259 w) (Z264 w) (Z265 w) h
theorem nm_7 {Q : Value → List Value → Shared → Prop} (F : Fr h₀ L hp m) (X₀ : (hd.heap_1 w.params).In h₀) (N : News h₀ L hp (X ++ news)) (S : Sta w P news)
    (h : Q (.ref 689) [.ref (P.ni 7)] ⟨hp, gn, dr, tk, oS⟩) : GM (model PR w) A (.ref (P.ni 7)) "call" Q E ⟨hp, gn, dr, tk, oS⟩ := fun _ => inst_method F X₀ N S.n7 (.head _) (Z266 w) (Z271 w) (Z272 w) h
theorem nm_8 {Q : Value → List Value → Shared → Prop} (F : Fr h₀ L hp m) (X₀ : (hd.heap_1 w.params).In h₀) (N : News h₀ L hp (X ++ news)) (S : Sta w P news)
    (h : Q (.ref 708) [.ref (P.ni 8)] ⟨hp, gn, dr, tk, oS⟩) : GM (model PR w) A (.ref (P.ni 8)) "call" Q E ⟨hp, gn, dr, tk, oS⟩ := fun _ => inst_method F X₀ N S.n8 (.head _) (Z273 w) (Z278 w) (Z279 w) h
theorem nm_9 {Q : Value → List Value → Shared → Prop} (F : Fr h₀ L hp m) (X₀ : (hd.heap_1 w.params).In h₀) (N : News h₀ L hp (X ++ news)) (S : Sta w P news)
    (h : Q (.ref 727) [.ref (P.ni 9)] ⟨hp, gn, dr, tk, oS⟩) : GM (model PR w) A (.ref (P.ni 9)) "call" Q E ⟨hp, gn, dr, tk, oS⟩ := fun _ => inst_method F X₀ N S.n9 (.head _) (Z280 w) (Z285 w) (Z286 w) h
theorem sw_before {Q : Value → List Value → Shared → Prop} (F : Fr h₀ L hp m) (X₀ : (hd.heap_1 w.params).In h₀) (N : News h₀ L hp (X ++ news)) (S : Sta w P news)
    (h : Q (.ref 220) [.ref P.sweep] ⟨hp, gn, dr, tk, oS⟩) : GM (model PR w) A (.ref P.sweep) "before" Q E ⟨hp, gn, dr, tk, oS⟩ := fun _ => inst_method F X₀ N S.sw (.head _) (Z144 w) (Z149 w) (Z150 w) h
-- the heap's own names
theorem h_at {h : Heap} {σ : Sg} (N : News h₀ L h (X ++ news)) (R : Rep w P X σ news) : ∃ es n t1 t2 t3, InstAt h P.h (instObj 117 (P.adr .hd)) 117 (some (dictOf es n)) ∧ (P.adr .hd, dictOf es n) ∈ news ∧ es.length ≤ 50 ∧ es.any (·.refKey) = false ∧ getL "things" es = some (some (.ref (P.adr .things))) ∧ getL "at" es = some (some (.ref (P.adr .tab))) ∧
      getL "top" es = some (some (.int σ.top t1)) ∧ getL "fresh" es = some (some (.int σ.fresh t2)) ∧ getL "made" es = some (some (.int σ.made t3)) := by
  obtain ⟨o, ho, es, n, t1, t2, t3, rfl, r⟩ := R.mu .hd
  exact ⟨es, n, t1, t2, t3, InstAt.of_news N (List.mem_append_right _ R.sta.h.1) (List.mem_append_right _ ho), ho, r⟩
theorem h_tab {expr : Bool} {σ : Sg} {Q : Value → Shared → Prop} (F : Fr h₀ L hp m) (X₀ : (hd.heap_1 w.params).In h₀) (N : News h₀ L hp (X ++ news)) (R : Rep w P X σ news)
    (h : Q (.ref (P.adr .tab)) ⟨hp, gn, dr, tk + 1, oS⟩) : wpAny (model PR w) A (getAttr (.ref P.h) "at" expr) Q E ⟨hp, gn, dr, tk, oS⟩ := by
  obtain ⟨es, n, t1, t2, t3, I, -, -, -, g1, g2, g3, g4, g5⟩ := h_at N R
  exact get_own F X₀ I (Z108 w) (Z109 w) (attr := none) (Z117 w) rfl g2 rfl h
theorem h_things {expr : Bool} {σ : Sg} {Q : Value → Shared → Prop} (F : Fr h₀ L hp m) (X₀ : (hd.heap_1 w.params).In h₀) (N : News h₀ L hp (X ++ news)) (R : Rep w P X σ news)
    (h : Q (.ref (P.adr .things)) ⟨hp, gn, dr, tk + 1, oS⟩) : wpAny (model PR w) A (getAttr (.ref P.h) "things" expr) Q E ⟨hp, gn, dr, tk, oS⟩ := by
  obtain ⟨es, n, t1, t2, t3, I, -, -, -, g1, g2, g3, g4, g5⟩ := h_at N R
  exact get_own F X₀ I (Z108 w) (Z109 w) (attr := none) (Z116 w) rfl g1 rfl h
theorem h_top {expr : Bool} {σ : Sg} {Q : Value → Shared → Prop} (F : Fr h₀ L hp m) (X₀ : (hd.heap_1 w.params).In h₀) (N : News h₀ L hp (X ++ news)) (R : Rep w P X σ news)
    (h : ∀ t, Q (.int σ.top t) ⟨hp, gn, dr, tk + 1, oS⟩) : wpAny (model PR w) A (getAttr (.ref P.h) "top" expr) Q E ⟨hp, gn, dr, tk, oS⟩ := by
  obtain ⟨es, n, t1, t2, t3, I, -, -, -, g1, g2, g3, g4, g5⟩ := h_at N R
  exact get_own F X₀ I (Z108 w) (Z109 w) (attr := none) (Z118 w) rfl g3 rfl (h t1)
theorem h_fresh {expr : Bool} {σ : Sg} {Q : Value → Shared → Prop} (F : Fr h₀ L hp m) (X₀ : (hd.heap_1 w.params).In h₀) (N : News h₀ L hp (X ++ news)) (R : Rep w P X σ news)
    (h : ∀ t, Q (.int σ.fresh t) ⟨hp, gn, dr, tk + 1, oS⟩) : wpAny (model PR w) A (getAttr (.ref P.h) "fresh" expr) Q E ⟨hp, gn, dr, tk, oS⟩ := by
  obtain ⟨es, n, t1, t2, t3, I, -, -, -, g1, g2, g3, g4, g5⟩ := h_at N R
  exact get_own F X₀ I (Z108 w) (Z109 w) (attr := none) (Z122 w) rfl g4 rfl (h t2)
theorem h_made {expr : Bool} {σ : Sg} {Q : Value → Shared → Prop} (F : Fr h₀ L hp m) (X₀ : (hd.heap_1 w.params).In h₀) (N : News h₀ L hp (X ++ news)) (R : Rep w P X σ news)
    (h : ∀ t, Q (.int σ.made t) ⟨hp, gn, dr, tk + 1, oS⟩) : wpAny (model PR w) A (getAttr (.ref P.h) "made" expr) Q E ⟨hp, gn, dr, tk, oS⟩ := by
  obtain ⟨es, n, t1, t2, t3, I, -, -, -, g1, g2, g3, g4, g5⟩ := h_at N R
  exact get_own F X₀ I (Z108 w) (Z109 w) (attr := none) (Z127 w) rfl g5 rfl (h t3)
-- the table of things
theorem tab_method {σ : Sg} {Q : Value → List Value → Shared → Prop} (N : News h₀ L hp (X ++ news)) (R : Rep w P X σ news) (h : Q (.builtin "dict.get") [.ref (P.adr .tab)] ⟨hp, gn, dr, tk, oS⟩) :
    GM (model PR w) A (.ref (P.adr .tab)) "get" Q E ⟨hp, gn, dr, tk, oS⟩ := by
  intro pl
  obtain ⟨o, ho, hd⟩ := R.mu .tab
  exact kdg_method (knd := intKind PR w) N (List.mem_append_right _ ho) hd h
theorem tab_get {σ : Sg} {k : Int} {t : Tok} {v : Value} {Q : Value → Shared → Prop} (N : News h₀ L hp (X ++ news)) (R : Rep w P X σ news) (hv : valueAt σ.tab k = some v) (h : Q v ⟨hp, gn, dr, tk + 1, oS⟩) :
    wpAny (model PR w) A (call (.builtin "dict.get") [.ref (P.adr .tab), .int k t]) Q E ⟨hp, gn, dr, tk, oS⟩ := by
  obtain ⟨o, ho, hd⟩ := R.mu .tab
  exact kdg_get1 (knd := intKind PR w) N (List.mem_append_right _ ho) hd (R.low _) (intKind_is _ _ _ _) (some v) hv h
end
end Mine
end B4_
section B5_
namespace Mine
noncomputable def lc : List Str → List (Option Value) → Str → Option Value
  | n :: ns, v :: vs => fun y => if y = n then v else lc ns vs y
  | _, _ => fun _ => none
inductive At : List Str → List (Option Value) → Str → Option Value → Prop
  | here {x ns v vs} : At (x :: ns) (v :: vs) x v
  | there {x n ns v w vs} : At ns vs x v → At (n :: ns) (w :: vs) x v
inductive Put : List Str → List (Option Value) → Str → Value → List (Option Value) → Prop
  | here {x ns w v vs} : Put (x :: ns) (w :: vs) x v (some v :: vs)
  | there {x n ns v w vs vs'} : Put ns vs x v vs' → Put (n :: ns) (w :: vs) x v (w :: vs')
theorem At.mem {ns vs x v} (h : At ns vs x v) : x ∈ ns := by
  induction h with
  | here => exact .head _
  | there _ ih => exact .tail _ ih
theorem Put.mem {ns vs x v vs'} (h : Put ns vs x v vs') : x ∈ ns := by
  induction h with
  | here => exact .head _
  | there _ ih => exact .tail _ ih
theorem At.lc {ns vs x v} (h : At ns vs x v) (hn : ns.Nodup) : lc ns vs x = v := by
  induction h with
  | here => simp [Mine.lc]
  | there h ih =>
    have := List.nodup_cons.mp hn
    simp only [Mine.lc]
    rw [if_neg (fun e => this.1 (by rw [← e]; exact h.mem))]
    exact ih this.2
theorem lc_off {ns x} (h : x ∉ ns) : ∀ vs, lc ns vs x = none := by
  induction ns with
  | nil => intro vs; cases vs <;> rfl
  | cons n ns ih =>
    intro vs
    cases vs with
    | nil => rfl
    | cons v vs =>
      simp only [lc]
      rw [if_neg fun e => h (by rw [e]; exact .head _)]
      exact ih (fun m => h (.tail _ m)) vs
theorem Put.lc {ns vs x v vs'} (h : Put ns vs x v vs') (hn : ns.Nodup) : lc ns vs' = fun y => if y = x then some v else lc ns vs y := by
  induction h with
  | here => funext y; simp only [Mine.lc]; split <;> rfl
  | there h ih =>
    have := List.nodup_cons.mp hn
    funext y
    simp only [Mine.lc]
    rw [ih this.2]
    split
    · rename_i e; rw [if_neg]; intro e'; exact this.1 (by rw [← e, e']; exact h.mem)
    · rfl
theorem lc_none : ∀ (ns : List Str) (y : Str), lc ns (ns.map fun _ => none) y = none
  | [], _ => rfl
  | n :: ns, y => by simp only [List.map_cons, lc]; split; rfl; exact lc_none ns y
theorem lc_binds : ∀ (ps : List Str) (args : List Value) (more : List Str), (ps ++ more).Nodup → ps.length = args.length →
    (fun y => (ps.zip args).reverse.lookup y) = lc (ps ++ more) (args.map some ++ more.map fun _ => none) := by
  intro ps args more hn hl
  funext y
  induction ps generalizing args with
  | nil =>
    cases args with
    | nil => simp only [List.zip_nil_left, List.reverse_nil, List.lookup_nil, List.nil_append, List.map_nil]; exact (lc_none more y).symm
    | cons a as => cases hl
  | cons p ps ih =>
    cases args with
    | nil => cases hl
    | cons a as =>
      have hn' := List.nodup_cons.mp hn
      have ih' := ih as hn'.2 (by simpa using hl)
      simp only [List.zip_cons_cons, List.reverse_cons, List.cons_append, List.map_cons, lc]
      rw [List.lookup_append, ih']
      by_cases e : y = p
      · subst e
        rw [if_pos rfl, show lc (ps ++ more) _ y = none from lc_off hn'.1 _]
        simp
      · rw [if_neg e]
        have : List.lookup y [(p, a)] = none := by simp [List.lookup, beq_eq_false_iff_ne.mpr e]
        rw [this]; simp
theorem b_len : bootBuiltins "len" = some (.builtin "len") ∧ ("len" : Str) ≠ "__name__" := ⟨by boot_fast, by decide⟩
theorem b_ord : bootBuiltins "ord" = some (.builtin "ord") ∧ ("ord" : Str) ≠ "__name__" := ⟨by boot_fast, by decide⟩
theorem b_chr : bootBuiltins "chr" = some (.builtin "chr") ∧ ("chr" : Str) ≠ "__name__" := ⟨by boot_fast, by decide⟩
theorem b_min : bootBuiltins "min" = some (.builtin "min") ∧ ("min" : Str) ≠ "__name__" := ⟨by boot_fast, by decide⟩
theorem b_max : bootBuiltins "max" = some (.builtin "max") ∧ ("max" : Str) ≠ "__name__" := ⟨by boot_fast, by decide⟩
theorem b_range : bootBuiltins "range" = some (.type "range") ∧ ("range" : Str) ≠ "__name__" := ⟨by boot_fast, by decide⟩
structure Fn (scope : Scope) (ns gs : List Str) : Prop where
  kind : scope.kind = .function
  loc : ∀ x ∈ ns, scope.names.lookup x = some .local
  glo : ∀ x ∈ gs, scope.names.lookup x = some .globalImplicit
  nd : ns.Nodup
  dbg : ∀ x, x ∈ ns ∨ x ∈ gs → (x == ("__debug__" : Str)) = false
def fnOk (scope : Scope) (ns gs : List Str) : Bool := decide (scope.kind = .function) && (ns.all fun x => decide (scope.names.lookup x = some .local)) && (gs.all fun x => decide (scope.names.lookup x = some .globalImplicit)) && decide ns.Nodup &&
  ((ns ++ gs).all fun x => decide ((x == ("__debug__" : Str)) = false))
theorem Fn.of {scope ns gs} (h : fnOk scope ns gs = true) : Fn scope ns gs := by
  simp only [fnOk, Bool.and_eq_true, decide_eq_true_eq, List.all_eq_true, List.mem_append] at h
  obtain ⟨⟨⟨⟨a, b⟩, c⟩, d⟩, e⟩ := h
  exact ⟨a, b, c, d, e⟩
def Br (c : Bool) (A B : Prop) : Prop := (c = true → A) ∧ (c = false → B)
theorem Br.t {c : Bool} {A B : Prop} (h : c = true) (a : A) : Br c A B := ⟨fun _ => a, fun e => by rw [h] at e; cases e⟩
theorem Br.f {c : Bool} {A B : Prop} (h : c = false) (b : B) : Br c A B := ⟨(fun e => by rw [h] at e; cases e), fun _ => b⟩
theorem Br.ite {c : Bool} {A B : Prop} (h : Br c A B) : if c = true then A else B := by
  cases c with
  | true => exact h.1 rfl
  | false => exact h.2 rfl
section
variable {M : Model} {w : World} {A : Around} {E : Value → Shared → Prop} {hp : Heap} {gn : Array GenState} {dr : Drawn} {tk : Nat} {oS : OsState} {g h₀ : Heap} {L a : Addr} {m : Str → Option Value} {fname : Str} {scope : Scope} {cd : Value} {ns gs : List Str} {vals vals' : List (Option Value)} {led : Led}
theorem e_loc {x : Str} {pos : Pos} {v : Value} {Q : Value → Shared → Prop} (S : Fn scope ns gs) (F : Fr g L hp (lc ns vals)) (hat : At ns vals x (some v)) (h : Q v ⟨hp, gn, dr, tk, oS⟩) : wpAny M A (eval (.Name x pos) (envOf fname scope L a cd)) Q E ⟨hp, gn, dr, tk, oS⟩ :=
  ld F (hat.lc S.nd) h S.kind (S.loc x hat.mem) (S.dbg x (.inl hat.mem))
theorem e_glo {p : Program} {loose : List Str} {mean : ExcName → Option Value} {mg mb : Str → Option Value} {x : Str} {pos : Pos} {v : Value} {Q : Value → Shared → Prop} (S : Fn scope ns gs) (F : Fr g L hp m) (X : (hd.heap_1 w.params).In g) (T : Top p loose mean mg mb g) (hx : x ∈ gs) (e : nsIn (hd.heap_1 w.params) mainGlobals x = some (some v)) (h : Q v ⟨hp, gn, dr, tk, oS⟩) :
    wpAny M A (eval (.Name x pos) (envOf fname scope L a cd)) Q E ⟨hp, gn, dr, tk, oS⟩ := name_K F X (topRead_of T) e h S.kind (S.glo x hx) (S.dbg x (.inr hx))
theorem e_blt {p : Program} {loose : List Str} {mean : ExcName → Option Value} {mg mb : Str → Option Value} {x : Str} {pos : Pos} {v : Value} {Q : Value → Shared → Prop} (S : Fn scope ns gs) (F : Fr g L hp m) (X : (hd.heap_1 w.params).In g) (T : Top p loose mean mg mb g) (hx : x ∈ gs) (e : nsIn (hd.heap_1 w.params) mainGlobals x = some none) (hv : bootBuiltins x = some v ∧ x ≠ "__name__") (h : Q v ⟨hp, gn, dr, tk, oS⟩) :
    wpAny M A (eval (.Name x pos) (envOf fname scope L a cd)) Q E ⟨hp, gn, dr, tk, oS⟩ := name_B F X (topRead_of T) e hv.1 hv.2 h S.kind (S.glo x hx) (S.dbg x (.inr hx))
theorem l_loc {x : Str} {v : Value} {Q : Value → Shared → Prop} (S : Fn scope ns gs) (F : Fr g L hp (lc ns vals)) (hat : At ns vals x (some v)) (h : Q v ⟨hp, gn, dr, tk, oS⟩) : wpAny M A (loadName (envOf fname scope L a cd) x) Q E ⟨hp, gn, dr, tk, oS⟩ :=
  ldn F (hat.lc S.nd) h S.kind (S.loc x hat.mem)
theorem st_loc {x : Str} {v : Value} {Q : Unit → Shared → Prop} (S : Fn scope ns gs) (F : Fr g L hp (lc ns vals)) (N : News g L hp led) (hpu : Put ns vals x v vals')
    (h : ∀ h', Fr g L h' (lc ns vals') → News g L h' led → Q () ⟨h', gn, dr, tk + 1, oS⟩) : wpAny M A (storeName (envOf fname scope L a cd) x v) Q E ⟨hp, gn, dr, tk, oS⟩ :=
  stN F N (fun h' F' N' => h h' (by rw [hpu.lc S.nd]; exact F') N') S.kind (S.loc x hpu.mem)
end
section
variable {M : Model} {w : World} {A : Around} {E : Value → Shared → Prop} {s : Shared} {env : Env}
def Thn (M : Model) (A : Around) (env : Env) (rest : List Stmt) (Q : Flow → Shared → Prop) (E : Value → Shared → Prop) (f : Flow) (s : Shared) : Prop := match f with
  | .next => wpAny M A (execs rest env) Q E s
  | f => Q f s
theorem Thn.next {rest : List Stmt} {Q : Flow → Shared → Prop} (h : wpAny M A (execs rest env) Q E s) : Thn M A env rest Q E .next s := h
theorem Thn.ret {rest : List Stmt} {Q : Flow → Shared → Prop} {v : Value} (h : Q (.ret v) s) : Thn M A env rest Q E (.ret v) s := h
theorem x_cons {st rest} {Q : Flow → Shared → Prop} (h : wpAny M A (exec st env) (Thn M A env rest Q E) E s) : wpAny M A (execs (st :: rest) env) Q E s := wpAny_execs_cons (wpAny_mono h (fun f _ x => by cases f <;> exact x) fun _ _ x => x)
theorem x_ret {e pos rest} {Q : Flow → Shared → Prop} (h : wpAny M A (eval e env) (fun v s' => Q (.ret v) s') E s) : wpAny M A (execs (.Return (some e) pos :: rest) env) Q E s := x_cons (wpAny_Return_some h)
theorem x_if {t b pos rest} {Q : Flow → Shared → Prop} (h : wpAny M A (isTrue t env (eval t env)) (fun c s₂ => Br c (wpAny M A (execs b env) (Thn M A env rest Q E) E s₂) (wpAny M A (execs rest env) Q E s₂)) E s) :
    wpAny M A (execs (.If t b [] pos :: rest) env) Q E s := x_cons (wpAny_If (wpAny_mono h (fun c s₂ x => by
      cases c with
      | true => exact x.1 rfl
      | false => exact wpAny_execs_nil (x.2 rfl)) fun _ _ x => x))
theorem x_ifelse {t b e o pos rest} {Q : Flow → Shared → Prop} (h : wpAny M A (isTrue t env (eval t env)) (fun c s₂ => Br c (wpAny M A (execs b env) (Thn M A env rest Q E) E s₂) (wpAny M A (execs (e :: o) env) (Thn M A env rest Q E) E s₂)) E s) :
    wpAny M A (execs (.If t b (e :: o) pos :: rest) env) Q E s := x_cons (wpAny_If (wpAny_mono h (fun c s₂ x => by
      cases c with
      | true => exact x.1 rfl
      | false => exact x.2 rfl) fun _ _ x => x))
theorem x_asg {x px value pos rest} {Q : Flow → Shared → Prop} (h : wpAny M A (eval value env) (fun v s₁ => wpAny M A (storeName env x v) (fun _ s₂ => wpAny M A (execs rest env) Q E s₂) E s₁) E s)
    (hs : swapsWith value (some (.Name x px)) pos.line env = pure false) : wpAny M A (execs (.Assign [.Name x px] value pos :: rest) env) Q E s := x_cons (wpAny_Assign_Name h hs)
theorem x_expr {e pos rest} {Q : Flow → Shared → Prop} (h : wpAny (model PR w) A (eval e env) (fun _ s' => wpAny (model PR w) A (execs rest env) Q E s') E s)
    (hi : interactive env = false) (hs : swapsWith e none pos.line env = pure false) : wpAny (model PR w) A (execs (.Expr e pos :: rest) env) Q E s := x_cons (wpAny_Expr_any h hi hs)
theorem e_if {t b o pos} {Q : Value → Shared → Prop} (h : wpAny M A (isTrue t env (eval t env)) (fun c s₂ => Br c (wpAny M A (eval b env) Q E s₂) (wpAny M A (eval o env) Q E s₂)) E s) : wpAny M A (eval (.IfExp t b o pos) env) Q E s :=
  IfExp_ (wpAny_mono h (fun _ _ x => x.ite) fun _ _ x => x)
theorem t_and {x rest pos whole} {Q : Bool → Shared → Prop} (h : wpAny M A (isTrue x env (eval x env)) (fun c s' => Br c (wpAny M A (isTrue (.BoolOp .And rest pos) env whole) Q E s') (Q false s')) E s) :
    wpAny M A (isTrue (.BoolOp .And (x :: rest) pos) env whole) Q E s := isTrue_and (wpAny_mono h (fun _ _ x => x.ite) fun _ _ x => x)
theorem t_or {x rest pos whole} {Q : Bool → Shared → Prop} (h : wpAny M A (isTrue x env (eval x env)) (fun c s' => Br c (Q true s') (wpAny M A (isTrue (.BoolOp .Or rest pos) env whole) Q E s')) E s) :
    wpAny M A (isTrue (.BoolOp .Or (x :: rest) pos) env whole) Q E s := isTrue_or (wpAny_mono h (fun _ _ x => x.ite) fun _ _ x => x)
theorem e_and {e₁ e₂ rest pos} {Q : Value → Shared → Prop} (h : wpAny M A (eval e₁ env) (fun v s₁ => wpAny M A (truthy v) (fun c s₂ => Br c (wpAny M A (eval (.BoolOp .And (e₂ :: rest) pos) env) Q E s₂) (Q v s₂)) E s₁) E s) :
    wpAny M A (eval (.BoolOp .And (e₁ :: e₂ :: rest) pos) env) Q E s := BoolOp_and (wpAny_mono h (fun _ _ y => wpAny_mono y (fun _ _ x => x.ite) fun _ _ x => x) fun _ _ x => x)
theorem e_or {e₁ e₂ rest pos} {Q : Value → Shared → Prop} (h : wpAny M A (eval e₁ env) (fun v s₁ => wpAny M A (truthy v) (fun c s₂ => Br c (Q v s₂) (wpAny M A (eval (.BoolOp .Or (e₂ :: rest) pos) env) Q E s₂)) E s₁) E s) :
    wpAny M A (eval (.BoolOp .Or (e₁ :: e₂ :: rest) pos) env) Q E s := BoolOp_or (wpAny_mono h (fun _ _ y => wpAny_mono y (fun _ _ x => x.ite) fun _ _ x => x) fun _ _ x => x)
end
section
variable {M : Model} {w : World} {A : Around} {E : Value → Shared → Prop} {hp : Heap} {gn : Array GenState} {dr : Drawn} {tk : Nat} {oS : OsState} {env : Env}
theorem e_int {i : Int} {k pos} {Q : Value → Shared → Prop} (h : Q (.int i tk) ⟨hp, gn, dr, tk + 1, oS⟩) : wpAny M A (eval (.Constant (.int i) k pos) env) Q E ⟨hp, gn, dr, tk, oS⟩ := wpAny_Constant_int h
theorem e_str {x : Str} {k pos} {Q : Value → Shared → Prop} (h : Q (.str x tk) ⟨hp, gn, dr, tk + 1, oS⟩) : wpAny M A (eval (.Constant (.str x) k pos) env) Q E ⟨hp, gn, dr, tk, oS⟩ := Constant_str h
theorem o_add {a b : Int} {t u : Tok} {Q : Value → Shared → Prop} (h : Q (.int (a + b) tk) ⟨hp, gn, dr, tk + 1, oS⟩) : wpAny (model PR w) A (binaryOp .Add (.int a t) (.int b u)) Q E ⟨hp, gn, dr, tk, oS⟩ := P.add_int h
theorem o_sub {a b : Int} {t u : Tok} {Q : Value → Shared → Prop} (h : Q (.int (a - b) tk) ⟨hp, gn, dr, tk + 1, oS⟩) : wpAny (model PR w) A (binaryOp .Sub (.int a t) (.int b u)) Q E ⟨hp, gn, dr, tk, oS⟩ := P.sub_int h
theorem o_iadd {a b : Int} {t u : Tok} {Q : Value → Shared → Prop} (h : Q (.int (a + b) tk) ⟨hp, gn, dr, tk + 1, oS⟩) : wpAny (model PR w) A (inplaceOp .Add (.int a t) (.int b u)) Q E ⟨hp, gn, dr, tk, oS⟩ := P.iadd_int h
theorem o_neg {a : Int} {t : Tok} {Q : Value → Shared → Prop} (h : Q (.int (-a) tk) ⟨hp, gn, dr, tk + 1, oS⟩) : wpAny (model PR w) A (unaryOp .USub (.int a t)) Q E ⟨hp, gn, dr, tk, oS⟩ := P.neg_int h
theorem o_mul {a b : Int} {t u : Tok} {Q : Value → Shared → Prop} (hm : IntMulOk a b) (h : Q (.int (a * b) tk) ⟨hp, gn, dr, tk + 1, oS⟩) : wpAny (model PR w) A (binaryOp .Mult (.int a t) (.int b u)) Q E ⟨hp, gn, dr, tk, oS⟩ := P.mul_int h hm
theorem o_mod {a b : Int} {t u : Tok} {Q : Value → Shared → Prop} (hb : b ≠ 0) (h : Q (.int (a.fmod b) tk) ⟨hp, gn, dr, tk + 1, oS⟩) : wpAny (model PR w) A (binaryOp .Mod (.int a t) (.int b u)) Q E ⟨hp, gn, dr, tk, oS⟩ := mod_int' hb h
theorem e_meth {s : Shared} {o : PySem.Expr} {name : Str} {apos pos : Pos} {args : List PySem.Expr} {pl : Sem Bool} {Q : Value → Shared → Prop}
    (h : wpAny M A (eval o env) (fun ov s₁ => GM M A ov name (fun f first s₂ => wpAny M A (callWith pos f first (backTo pos (starEach args env)) []) Q E s₂) E s₁) E s)
    (he : eval (.Call (.Attribute o name apos) args [] pos) env = (do
      let ov ← eval o env
      standAt apos.atName
      let (f, first) ← holding [ov] (getMethod ov name pl)
      callWith pos f first (backTo pos (starEach args env)) (backToKw pos (keywordEach [] env)))) :
    wpAny M A (eval (.Call (.Attribute o name apos) args [] pos) env) Q E s := MethodCall_ (wpAny_mono h (fun _ _ x => x pl) fun _ _ x => x) he
end
end Mine
end B5_
section B6_
namespace Mine
def Ret (h₀ : Heap) (L : Addr) (m : Str → Option Value) (g : Heap) (R : Result → Shared → Prop) (fl : Flow) (s' : Shared) : Prop := LeaveK h₀ L m g R (match fl with | .ret v => v | _ => .none) s'
theorem Ret.val {h₀ g : Heap} {L L' : Addr} {m m' : Str → Option Value} {news' : Led} {Q E : Value → Shared → Prop} {v : Value} {s' : Shared} (F' : Fr g L' s'.heap m') (N' : News g L' s'.heap news')
    (k : Fr h₀ L s'.heap m → News h₀ L s'.heap news' → Q v s') : Ret h₀ L m g (fun r s' => match r with | .ok (.ret v) => Q v s' | .ok _ => False | .error e => E e s') (.ret v) s' := leaveK_ F' N' k
theorem Ret.nil {h₀ g : Heap} {L L' : Addr} {m m' : Str → Option Value} {news' : Led} {Q E : Value → Shared → Prop} {s' : Shared} (F' : Fr g L' s'.heap m') (N' : News g L' s'.heap news')
    (k : Fr h₀ L s'.heap m → News h₀ L s'.heap news' → Q .none s') : Ret h₀ L m g (fun r s' => match r with | .ok (.ret v) => Q v s' | .ok _ => False | .error e => E e s') .next s' := leaveK_ F' N' k
theorem Ret.ini {h₀ g : Heap} {L L' x : Addr} {m m' : Str → Option Value} {news' : Led} {Q E : Value → Shared → Prop} {s' : Shared} (F' : Fr g L' s'.heap m') (N' : News g L' s'.heap news')
    (k : Fr h₀ L s'.heap m → News h₀ L s'.heap news' → Q (.ref x) s') : Ret h₀ L m g (InitBack x fun r s' => match r with | .ok (.ret v) => Q v s' | .ok _ => False | .error e => E e s') .next s' := leaveK_ F' N' fun a b => ⟨rfl, k a b⟩
theorem callc {w : World} {A : Around} {h₀ : Heap} {L : Addr} {d : Nat} {m : Str → Option Value} {hp : Heap} {gn : Array GenState} {dr : Drawn} {tk : Nat} {oS : OsState} {led : Led} {R : Result → Shared → Prop} {name qual : Str} {params : Arguments} {body : List Stmt} {scope : Scope}
    {dV kV doc pm cdv ct oc : Value} {an od : Option Addr} {osl : Array (Option Value)} {f : Addr} {args : List Value} (ps more gs : List Str) (vals : List (Option Value))
    (O : Ok w A h₀ L (d + 1)) (F : Fr h₀ L hp m) (N : News h₀ L hp led)
    (ho : (hd.heap_1 w.params).lookup f = some ⟨oc, od, .func (fnOf name qual params body scope dV kV doc pm an cdv ct), osl⟩) (hcd : codeIn (hd.heap_1 w.params) cdv qual = true)
    (hbind : bindArgs (fnOf name qual params body scope dV kV doc pm an cdv ct) ⟨args, []⟩ = pure (ps.zip args)) (hl : ps.length = args.length)
    (hS : fnOk scope (ps ++ more) gs = true)
    (hc : (!scope.isCoroutine && !scope.isGenerator && (scope.names.all fun x => decide (x.2 ≠ .cell))) = true)
    (hv : args.map some ++ more.map (fun _ => none) = vals) (hps : List Str) (hpm : ps ++ more = hps)
    (h : ∀ g L' h₁ tk' p loose mean mg mb, Fn scope hps gs → Ok w (A.deeper (envOf qual scope L' f cdv)) g L' d → (hd.heap_1 w.params).In g → Top p loose mean mg mb g → Fr g L' h₁ (lc hps vals) → News g L' h₁ led →
      wpAny (model PR w) (A.deeper (envOf qual scope L' f cdv)) (execs body (envOf qual scope L' f cdv))
        (Ret h₀ L m g R) (fun _ _ => False) ⟨h₁, gn, dr, tk', oS⟩) :
    codeAny (model PR w) A (.call (.ref f) ⟨args, []⟩) R ⟨hp, gn, dr, tk, oS⟩ := by
  subst hv hpm
  have S := Fn.of hS
  simp only [Bool.and_eq_true, Bool.not_eq_true'] at hc
  refine enter (binds := ps.zip args) O F N ho hcd hbind ?_ ?_ hc.1.1 hc.1.2 S.kind hc.2
  · refine List.all_eq_true.mpr fun x hx => decide_eq_true (S.loc _ (List.mem_append_left _ ?_))
    exact (List.of_mem_zip hx).1
  · intro g L' h₁ tk' p loose mean mg mb O' X' T' F' N' _
    rw [lc_binds ps args more S.nd hl] at F'
    exact wpAny_mono (h g L' h₁ tk' _ _ _ _ _ S O' X' T' F' N') (fun _ _ x => x) fun _ _ x => x.elim
theorem callf {w : World} {A : Around} {h₀ : Heap} {L : Addr} {d : Nat} {m : Str → Option Value} {hp : Heap} {gn : Array GenState} {dr : Drawn} {tk : Nat} {oS : OsState} {led : Led} {Q E : Value → Shared → Prop} {name qual : Str} {params : Arguments} {body : List Stmt} {scope : Scope}
    {dV kV doc pm cdv ct oc : Value} {an od : Option Addr} {osl : Array (Option Value)} {f : Addr} {args : List Value} (ps more gs : List Str) (vals : List (Option Value))
    (O : Ok w A h₀ L (d + 1)) (F : Fr h₀ L hp m) (N : News h₀ L hp led)
    (ho : (hd.heap_1 w.params).lookup f = some ⟨oc, od, .func (fnOf name qual params body scope dV kV doc pm an cdv ct), osl⟩) (hcd : codeIn (hd.heap_1 w.params) cdv qual = true)
    (hbind : bindArgs (fnOf name qual params body scope dV kV doc pm an cdv ct) ⟨args, []⟩ = pure (ps.zip args)) (hl : ps.length = args.length)
    (hS : fnOk scope (ps ++ more) gs = true)
    (hc : (!scope.isCoroutine && !scope.isGenerator && (scope.names.all fun x => decide (x.2 ≠ .cell))) = true)
    (hv : args.map some ++ more.map (fun _ => none) = vals) (hps : List Str) (hpm : ps ++ more = hps)
    (h : ∀ g L' h₁ tk' p loose mean mg mb, Fn scope hps gs → Ok w (A.deeper (envOf qual scope L' f cdv)) g L' d → (hd.heap_1 w.params).In g → Top p loose mean mg mb g → Fr g L' h₁ (lc hps vals) → News g L' h₁ led →
      wpAny (model PR w) (A.deeper (envOf qual scope L' f cdv)) (execs body (envOf qual scope L' f cdv))
        (Ret h₀ L m g (fun r s' => match r with | .ok (.ret v) => Q v s' | .ok _ => False | .error e => E e s')) (fun _ _ => False) ⟨h₁, gn, dr, tk', oS⟩) :
    wpAny (model PR w) A (call (.ref f) args) Q E ⟨hp, gn, dr, tk, oS⟩ :=
  wpAny_call (callc ps more gs vals O F N ho hcd hbind hl hS hc hv hps hpm h)
theorem Hs.sta {w : World} {P : Pl} {X news : Led} {st : St} {Φ : List Fact} (H : Hs w P X st news Φ) : Sta w P news := let ⟨_, _, _, R, _⟩ := H; R.sta
section
variable {w : World} {A : Around} {E : Value → Shared → Prop} {hp : Heap} {gn : Array GenState} {dr : Drawn} {tk : Nat} {oS : OsState} {g : Heap} {L : Addr} {env : Env} {m : Str → Option Value}
theorem c_fun {s : Shared} {pos : Pos} {f : Addr} {e : PySem.Expr} {rest : List PySem.Expr} {Q : Value → Shared → Prop} (X : (hd.heap_1 w.params).In g) (hk : keepIn (hd.heap_1 w.params) (.ref f) = true)
    (h : wpAny (model PR w) A (spliced (backTo pos (starEach (e :: rest) env))) (fun vs s₁ => (hd.heap_1 w.params).In s₁.heap ∧ wpAny (model PR w) A (call (.ref f) vs) Q E s₁) E s)
    (he : starEach (e :: rest) env = (false, eval e env) :: starEach rest env) (hplain : (backTo pos (starEach rest env)).any (·.1) = false) :
    wpAny (model PR w) A (callWith pos (.ref f) [] (backTo pos (starEach (e :: rest) env)) []) Q E s := callWith_K X hk h he hplain
theorem c_mth {s : Shared} {pos : Pos} {f : Addr} {x : Value} {e : PySem.Expr} {rest : List PySem.Expr} {Q : Value → Shared → Prop} (X : (hd.heap_1 w.params).In g) (hk : keepIn (hd.heap_1 w.params) (.ref f) = true)
    (h : wpAny (model PR w) A (spliced (backTo pos (starEach (e :: rest) env))) (fun vs s₁ => (hd.heap_1 w.params).In s₁.heap ∧ wpAny (model PR w) A (call (.ref f) (x :: vs)) Q E s₁) E s)
    (he : starEach (e :: rest) env = (false, eval e env) :: starEach rest env) (hplain : (backTo pos (starEach rest env)).any (·.1) = false) :
    wpAny (model PR w) A (callWith pos (.ref f) [x] (backTo pos (starEach (e :: rest) env)) []) Q E s := callWith_K X hk h he hplain
theorem c_fun0 {pos : Pos} {f : Addr} {Q : Value → Shared → Prop} (X : (hd.heap_1 w.params).In g) (F : Fr g L hp m) (hk : keepIn (hd.heap_1 w.params) (.ref f) = true)
    (h : wpAny (model PR w) A (call (.ref f) []) Q E ⟨hp, gn, dr, tk, oS⟩) : wpAny (model PR w) A (callWith pos (.ref f) [] (backTo pos (starEach [] env)) []) Q E ⟨hp, gn, dr, tk, oS⟩ := callWith_K0 (X.keeps F.keep) hk h
theorem c_mth0 {pos : Pos} {f : Addr} {x : Value} {Q : Value → Shared → Prop} (X : (hd.heap_1 w.params).In g) (F : Fr g L hp m) (hk : keepIn (hd.heap_1 w.params) (.ref f) = true)
    (h : wpAny (model PR w) A (call (.ref f) [x]) Q E ⟨hp, gn, dr, tk, oS⟩) : wpAny (model PR w) A (callWith pos (.ref f) [x] (backTo pos (starEach [] env)) []) Q E ⟨hp, gn, dr, tk, oS⟩ := callWith_K0 (X.keeps F.keep) hk h
theorem c_blt {M : Model} {s : Shared} {pos : Pos} {id : String} {e : PySem.Expr} {rest : List PySem.Expr} {Q : Value → Shared → Prop}
    (h : wpAny M A (spliced (backTo pos (starEach (e :: rest) env))) (fun vs s₁ => wpAny M A (call (.builtin id) vs) Q E s₁) E s)
    (he : starEach (e :: rest) env = (false, eval e env) :: starEach rest env) (hplain : (backTo pos (starEach rest env)).any (·.1) = false) :
    wpAny M A (callWith pos (.builtin id) [] (backTo pos (starEach (e :: rest) env)) []) Q E s := callWith_builtin1 h he hplain
theorem c_bmt {M : Model} {s : Shared} {pos : Pos} {id : String} {x : Value} {e : PySem.Expr} {rest : List PySem.Expr} {Q : Value → Shared → Prop}
    (h : wpAny M A (spliced (backTo pos (starEach (e :: rest) env))) (fun vs s₁ => wpAny M A (call (.builtin id) (x :: vs)) Q E s₁) E s)
    (he : starEach (e :: rest) env = (false, eval e env) :: starEach rest env) (hplain : (backTo pos (starEach rest env)).any (·.1) = false) :
    wpAny M A (callWith pos (.builtin id) [x] (backTo pos (starEach (e :: rest) env)) []) Q E s := callWith_method1 h he hplain
theorem c_bmt0 {M : Model} {s : Shared} {pos : Pos} {id : String} {first : List Value} {Q : Value → Shared → Prop} (h : wpAny M A (call (.builtin id) first) Q E s) :
    wpAny M A (callWith pos (.builtin id) first (backTo pos (starEach [] env)) []) Q E s := callWith_method0 h
theorem c_typ {M : Model} {s : Shared} {pos : Pos} {T : String} {e : PySem.Expr} {rest : List PySem.Expr} {Q : Value → Shared → Prop}
    (h : wpAny M A (spliced (backTo pos (starEach (e :: rest) env))) (fun vs s₁ => wpAny M A (call (.type T) vs) Q E s₁) E s)
    (he : starEach (e :: rest) env = (false, eval e env) :: starEach rest env) (hplain : (backTo pos (starEach rest env)).any (·.1) = false) :
    wpAny M A (callWith pos (.type T) [] (backTo pos (starEach (e :: rest) env)) []) Q E s := Pv.callWith_type1 h he hplain
theorem and_in {B : Prop} (X : (hd.heap_1 w.params).In g) (F : Fr g L hp m) (h : B) : (hd.heap_1 w.params).In (Shared.heap ⟨hp, gn, dr, tk, oS⟩) ∧ B := ⟨X.keeps F.keep, h⟩
end
section
variable {w : World} {A : Around} {E : Value → Shared → Prop} {hp : Heap} {gn : Array GenState} {dr : Drawn} {tk : Nat} {oS : OsState} {h₀ : Heap} {L : Addr} {m : Str → Option Value} {P : Pl} {X news : Led} {x : Addr} {va vk vs : Value} {no : List Str}
theorem th_addr {expr : Bool} {Q : Value → Shared → Prop} (F : Fr h₀ L hp m) (X₀ : (hd.heap_1 w.params).In h₀) (N : News h₀ L hp (X ++ news)) (I : Inst P news x 96 [("addr", va), ("kind", vk), ("slots", vs)] no) (hv : handedIn va = true)
    (h : Q va ⟨hp, gn, dr, tk + 1, oS⟩) : wpAny (model PR w) A (getAttr (.ref x) "addr" expr) Q E ⟨hp, gn, dr, tk, oS⟩ := inst_get F X₀ N I (.head _) (Z94 w) (Z95 w) (Z102 w) hv h
theorem th_kind {expr : Bool} {Q : Value → Shared → Prop} (F : Fr h₀ L hp m) (X₀ : (hd.heap_1 w.params).In h₀) (N : News h₀ L hp (X ++ news)) (I : Inst P news x 96 [("addr", va), ("kind", vk), ("slots", vs)] no) (hv : handedIn vk = true)
    (h : Q vk ⟨hp, gn, dr, tk + 1, oS⟩) : wpAny (model PR w) A (getAttr (.ref x) "kind" expr) Q E ⟨hp, gn, dr, tk, oS⟩ := inst_get F X₀ N I (.tail _ (.head _)) (Z94 w) (Z95 w) (Z103 w) hv h
theorem th_slots {expr : Bool} {Q : Value → Shared → Prop} (F : Fr h₀ L hp m) (X₀ : (hd.heap_1 w.params).In h₀) (N : News h₀ L hp (X ++ news)) (I : Inst P news x 96 [("addr", va), ("kind", vk), ("slots", vs)] no) (hv : handedIn vs = true)
    (h : Q vs ⟨hp, gn, dr, tk + 1, oS⟩) : wpAny (model PR w) A (getAttr (.ref x) "slots" expr) Q E ⟨hp, gn, dr, tk, oS⟩ := inst_get F X₀ N I (.tail _ (.tail _ (.head _))) (Z94 w) (Z95 w) (Z104 w) hv h
theorem il_0 {value slice : PySem.Expr} {a : Addr} {v : Value} {n : Nat} {u : Tok} {Q : Value → Shared → Prop} (N : News h₀ L hp (X ++ news)) (I : Im P news a (listOf #[v] n)) (h : Q v ⟨hp, gn, dr, tk, oS⟩)
    (hs : subscripted slice false (.ref a) (.int 0 u) = operate [.ref a, .int 0 u] (getItem (.ref a) (.int 0 u))) : wpAny (model PR w) A (subscriptTail value slice (.ref a) (.int 0 u)) Q E ⟨hp, gn, dr, tk, oS⟩ := by
  have hl := I.isList N
  exact tail_any hl.typeIs slot_list_getitem.lookup (wpAny_getItem_list hl (by decide) (by decide) rfl h) hs
theorem it_0 {value slice : PySem.Expr} {a : Addr} {v v' : Value} {u : Tok} {Q : Value → Shared → Prop} (N : News h₀ L hp (X ++ news)) (I : Im P news a (tupOf [v, v'])) (h : Q v ⟨hp, gn, dr, tk, oS⟩)
    (hs : subscripted slice false (.ref a) (.int 0 u) = operate [.ref a, .int 0 u] (getItem (.ref a) (.int 0 u))) : wpAny (model PR w) A (subscriptTail value slice (.ref a) (.int 0 u)) Q E ⟨hp, gn, dr, tk, oS⟩ :=
  item_tupleT (l := [v, v']) (k := 0) (j := 0) (I.isTup N) (by decide) (by decide) rfl rfl h hs
theorem it_1 {value slice : PySem.Expr} {a : Addr} {v v' : Value} {u : Tok} {Q : Value → Shared → Prop} (N : News h₀ L hp (X ++ news)) (I : Im P news a (tupOf [v, v'])) (h : Q v' ⟨hp, gn, dr, tk, oS⟩)
    (hs : subscripted slice false (.ref a) (.int 1 u) = operate [.ref a, .int 1 u] (getItem (.ref a) (.int 1 u))) : wpAny (model PR w) A (subscriptTail value slice (.ref a) (.int 1 u)) Q E ⟨hp, gn, dr, tk, oS⟩ :=
  item_tupleT (l := [v, v']) (k := 1) (j := 1) (I.isTup N) (by decide) (by decide) rfl rfl h hs
theorem ls_0 {value slice : PySem.Expr} {a : Addr} {v0 : Value} {vr : List Value} {u : Tok} {st : St} {Φ : List Fact} {Q : Value → Shared → Prop} (N : News h₀ L hp (X ++ news)) (H : Hs w P X st news Φ) (hm : Fact.ls a ( v0 :: vr) ∈ Φ) (h : Q v0 ⟨hp, gn, dr, tk, oS⟩)
    (hs : subscripted slice false (.ref a) (.int 0 u) = operate [.ref a, .int 0 u] (getItem (.ref a) (.int 0 u))) : wpAny (model PR w) A (subscriptTail value slice (.ref a) (.int 0 u)) Q E ⟨hp, gn, dr, tk, oS⟩ := by
  obtain ⟨mem, pool, n, I⟩ := H.says hm
  have hl := Im.isList N I
  exact tail_any hl.typeIs slot_list_getitem.lookup (wpAny_getItem_list hl (by decide) (by decide) (by rfl) h) hs
theorem ls_1 {value slice : PySem.Expr} {a : Addr} {v0 v1 : Value} {vr : List Value} {u : Tok} {st : St} {Φ : List Fact} {Q : Value → Shared → Prop} (N : News h₀ L hp (X ++ news)) (H : Hs w P X st news Φ) (hm : Fact.ls a ( v0 :: v1 :: vr) ∈ Φ) (h : Q v1 ⟨hp, gn, dr, tk, oS⟩)
    (hs : subscripted slice false (.ref a) (.int 1 u) = operate [.ref a, .int 1 u] (getItem (.ref a) (.int 1 u))) : wpAny (model PR w) A (subscriptTail value slice (.ref a) (.int 1 u)) Q E ⟨hp, gn, dr, tk, oS⟩ := by
  obtain ⟨mem, pool, n, I⟩ := H.says hm
  have hl := Im.isList N I
  exact tail_any hl.typeIs slot_list_getitem.lookup (wpAny_getItem_list hl (by decide) (by decide) (by rfl) h) hs
theorem ls_2 {value slice : PySem.Expr} {a : Addr} {v0 v1 v2 : Value} {vr : List Value} {u : Tok} {st : St} {Φ : List Fact} {Q : Value → Shared → Prop} (N : News h₀ L hp (X ++ news)) (H : Hs w P X st news Φ) (hm : Fact.ls a ( v0 :: v1 :: v2 :: vr) ∈ Φ) (h : Q v2 ⟨hp, gn, dr, tk, oS⟩)
    (hs : subscripted slice false (.ref a) (.int 2 u) = operate [.ref a, .int 2 u] (getItem (.ref a) (.int 2 u))) : wpAny (model PR w) A (subscriptTail value slice (.ref a) (.int 2 u)) Q E ⟨hp, gn, dr, tk, oS⟩ := by
  obtain ⟨mem, pool, n, I⟩ := H.says hm
  have hl := Im.isList N I
  exact tail_any hl.typeIs slot_list_getitem.lookup (wpAny_getItem_list hl (by decide) (by decide) (by rfl) h) hs
theorem ls_3 {value slice : PySem.Expr} {a : Addr} {v0 v1 v2 v3 : Value} {vr : List Value} {u : Tok} {st : St} {Φ : List Fact} {Q : Value → Shared → Prop} (N : News h₀ L hp (X ++ news)) (H : Hs w P X st news Φ) (hm : Fact.ls a ( v0 :: v1 :: v2 :: v3 :: vr) ∈ Φ) (h : Q v3 ⟨hp, gn, dr, tk, oS⟩)
    (hs : subscripted slice false (.ref a) (.int 3 u) = operate [.ref a, .int 3 u] (getItem (.ref a) (.int 3 u))) : wpAny (model PR w) A (subscriptTail value slice (.ref a) (.int 3 u)) Q E ⟨hp, gn, dr, tk, oS⟩ := by
  obtain ⟨mem, pool, n, I⟩ := H.says hm
  have hl := Im.isList N I
  exact tail_any hl.typeIs slot_list_getitem.lookup (wpAny_getItem_list hl (by decide) (by decide) (by rfl) h) hs
theorem ls_4 {value slice : PySem.Expr} {a : Addr} {v0 v1 v2 v3 v4 : Value} {vr : List Value} {u : Tok} {st : St} {Φ : List Fact} {Q : Value → Shared → Prop} (N : News h₀ L hp (X ++ news)) (H : Hs w P X st news Φ) (hm : Fact.ls a ( v0 :: v1 :: v2 :: v3 :: v4 :: vr) ∈ Φ) (h : Q v4 ⟨hp, gn, dr, tk, oS⟩)
    (hs : subscripted slice false (.ref a) (.int 4 u) = operate [.ref a, .int 4 u] (getItem (.ref a) (.int 4 u))) : wpAny (model PR w) A (subscriptTail value slice (.ref a) (.int 4 u)) Q E ⟨hp, gn, dr, tk, oS⟩ := by
  obtain ⟨mem, pool, n, I⟩ := H.says hm
  have hl := Im.isList N I
  exact tail_any hl.typeIs slot_list_getitem.lookup (wpAny_getItem_list hl (by decide) (by decide) (by rfl) h) hs
theorem tu_0 {value slice : PySem.Expr} {a : Addr} {v0 : Value} {vr : List Value} {u : Tok} {st : St} {Φ : List Fact} {Q : Value → Shared → Prop} (N : News h₀ L hp (X ++ news)) (H : Hs w P X st news Φ) (hm : Fact.tu a ( v0 :: vr) ∈ Φ) (h : Q v0 ⟨hp, gn, dr, tk, oS⟩)
    (hs : subscripted slice false (.ref a) (.int 0 u) = operate [.ref a, .int 0 u] (getItem (.ref a) (.int 0 u))) : wpAny (model PR w) A (subscriptTail value slice (.ref a) (.int 0 u)) Q E ⟨hp, gn, dr, tk, oS⟩ := by
  obtain ⟨mem, pool, I⟩ := H.says hm
  exact item_tupleT (k := 0) (j := 0) (Im.isTup N I) (by decide) (by decide) (by unfold seqIndex?; simp <;> lia) rfl h hs
theorem tu_1 {value slice : PySem.Expr} {a : Addr} {v0 v1 : Value} {vr : List Value} {u : Tok} {st : St} {Φ : List Fact} {Q : Value → Shared → Prop} (N : News h₀ L hp (X ++ news)) (H : Hs w P X st news Φ) (hm : Fact.tu a ( v0 :: v1 :: vr) ∈ Φ) (h : Q v1 ⟨hp, gn, dr, tk, oS⟩)
    (hs : subscripted slice false (.ref a) (.int 1 u) = operate [.ref a, .int 1 u] (getItem (.ref a) (.int 1 u))) : wpAny (model PR w) A (subscriptTail value slice (.ref a) (.int 1 u)) Q E ⟨hp, gn, dr, tk, oS⟩ := by
  obtain ⟨mem, pool, I⟩ := H.says hm
  exact item_tupleT (k := 1) (j := 1) (Im.isTup N I) (by decide) (by decide) (by unfold seqIndex?; simp <;> lia) rfl h hs
theorem tu_2 {value slice : PySem.Expr} {a : Addr} {v0 v1 v2 : Value} {vr : List Value} {u : Tok} {st : St} {Φ : List Fact} {Q : Value → Shared → Prop} (N : News h₀ L hp (X ++ news)) (H : Hs w P X st news Φ) (hm : Fact.tu a ( v0 :: v1 :: v2 :: vr) ∈ Φ) (h : Q v2 ⟨hp, gn, dr, tk, oS⟩)
    (hs : subscripted slice false (.ref a) (.int 2 u) = operate [.ref a, .int 2 u] (getItem (.ref a) (.int 2 u))) : wpAny (model PR w) A (subscriptTail value slice (.ref a) (.int 2 u)) Q E ⟨hp, gn, dr, tk, oS⟩ := by
  obtain ⟨mem, pool, I⟩ := H.says hm
  exact item_tupleT (k := 2) (j := 2) (Im.isTup N I) (by decide) (by decide) (by unfold seqIndex?; simp <;> lia) rfl h hs
theorem tu_3 {value slice : PySem.Expr} {a : Addr} {v0 v1 v2 v3 : Value} {vr : List Value} {u : Tok} {st : St} {Φ : List Fact} {Q : Value → Shared → Prop} (N : News h₀ L hp (X ++ news)) (H : Hs w P X st news Φ) (hm : Fact.tu a ( v0 :: v1 :: v2 :: v3 :: vr) ∈ Φ) (h : Q v3 ⟨hp, gn, dr, tk, oS⟩)
    (hs : subscripted slice false (.ref a) (.int 3 u) = operate [.ref a, .int 3 u] (getItem (.ref a) (.int 3 u))) : wpAny (model PR w) A (subscriptTail value slice (.ref a) (.int 3 u)) Q E ⟨hp, gn, dr, tk, oS⟩ := by
  obtain ⟨mem, pool, I⟩ := H.says hm
  exact item_tupleT (k := 3) (j := 3) (Im.isTup N I) (by decide) (by decide) (by unfold seqIndex?; simp <;> lia) rfl h hs
theorem tu_4 {value slice : PySem.Expr} {a : Addr} {v0 v1 v2 v3 v4 : Value} {vr : List Value} {u : Tok} {st : St} {Φ : List Fact} {Q : Value → Shared → Prop} (N : News h₀ L hp (X ++ news)) (H : Hs w P X st news Φ) (hm : Fact.tu a ( v0 :: v1 :: v2 :: v3 :: v4 :: vr) ∈ Φ) (h : Q v4 ⟨hp, gn, dr, tk, oS⟩)
    (hs : subscripted slice false (.ref a) (.int 4 u) = operate [.ref a, .int 4 u] (getItem (.ref a) (.int 4 u))) : wpAny (model PR w) A (subscriptTail value slice (.ref a) (.int 4 u)) Q E ⟨hp, gn, dr, tk, oS⟩ := by
  obtain ⟨mem, pool, I⟩ := H.says hm
  exact item_tupleT (k := 4) (j := 4) (Im.isTup N I) (by decide) (by decide) (by unfold seqIndex?; simp <;> lia) rfl h hs
end
end Mine
end B6_
namespace Mine
section XB6_
section
variable (w : World) (A : Around) (h₀ : Heap) (L : Addr) (m : Str → Option Value) (gn : Array GenState) (dr : Drawn) (oS : OsState) (led : Led) (R : Result → Shared → Prop) (d : Nat) (qual : Str) (body : List Stmt) (scope : Scope) (cdv : Value) (f : Addr) (vals : List (Option Value)) (hps gs : List Str)
def Ent (g : Heap) (L' : Addr) (h₁ : Heap) (tk' : Nat) (p : Program) (loose : List Str) (mean : ExcName → Option Value) (mg mb : Str → Option Value) : Prop := Fn scope hps gs → Ok w (A.deeper (envOf qual scope L' f cdv)) g L' d → (hd.heap_1 w.params).In g → Top p loose mean mg mb g → Fr g L' h₁ (lc hps vals) → News g L' h₁ led →
      wpAny (model PR w) (A.deeper (envOf qual scope L' f cdv)) (execs body (envOf qual scope L' f cdv))
        (Ret h₀ L m g R) (fun _ _ => False) ⟨h₁, gn, dr, tk', oS⟩
def EntAll : Prop := ∀ g L' h₁ tk' p loose mean mg mb, Ent w A h₀ L m gn dr oS led R d qual body scope cdv f vals hps gs g L' h₁ tk' p loose mean mg mb
noncomputable def epE : ((((((((Heap × Addr) × Heap) × Nat) × Program) × List Str) × (ExcName → Option Value)) × (Str → Option Value)) × (Str → Option Value)) := ep neE fun r => Ent w A h₀ L m gn dr oS led R d qual body scope cdv f vals hps gs r.1.1.1.1.1.1.1.1 r.1.1.1.1.1.1.1.2 r.1.1.1.1.1.1.2 r.1.1.1.1.1.2 r.1.1.1.1.2 r.1.1.1.2 r.1.1.2 r.1.2 r.2
end
theorem callcE {w : World} {A : Around} {h₀ : Heap} {L : Addr} {d : Nat} {m : Str → Option Value} {hp : Heap} {gn : Array GenState} {dr : Drawn} {tk : Nat} {oS : OsState} {led : Led} {R : Result → Shared → Prop} {name qual : Str} {params : Arguments} {body : List Stmt} {scope : Scope}
    {dV kV doc pm cdv ct oc : Value} {an od : Option Addr} {osl : Array (Option Value)} {f : Addr} {args : List Value} (ps more gs : List Str) (vals : List (Option Value))
    (O : Ok w A h₀ L (d + 1)) (F : Fr h₀ L hp m) (N : News h₀ L hp led)
    (ho : (hd.heap_1 w.params).lookup f = some ⟨oc, od, .func (fnOf name qual params body scope dV kV doc pm an cdv ct), osl⟩) (hcd : codeIn (hd.heap_1 w.params) cdv qual = true)
    (hbind : bindArgs (fnOf name qual params body scope dV kV doc pm an cdv ct) ⟨args, []⟩ = pure (ps.zip args)) (hl : ps.length = args.length)
    (hS : fnOk scope (ps ++ more) gs = true)
    (hc : (!scope.isCoroutine && !scope.isGenerator && (scope.names.all fun x => decide (x.2 ≠ .cell))) = true)
    (hv : args.map some ++ more.map (fun _ => none) = vals) (hps : List Str) (hpm : ps ++ more = hps)
    (h : Ent w A h₀ L m gn dr oS led R d qual body scope cdv f vals hps gs (epE w A h₀ L m gn dr oS led R d qual body scope cdv f vals hps gs).1.1.1.1.1.1.1.1 (epE w A h₀ L m gn dr oS led R d qual body scope cdv f vals hps gs).1.1.1.1.1.1.1.2 (epE w A h₀ L m gn dr oS led R d qual body scope cdv f vals hps gs).1.1.1.1.1.1.2 (epE w A h₀ L m gn dr oS led R d qual body scope cdv f vals hps gs).1.1.1.1.1.2 (epE w A h₀ L m gn dr oS led R d qual body scope cdv f vals hps gs).1.1.1.1.2 (epE w A h₀ L m gn dr oS led R d qual body scope cdv f vals hps gs).1.1.1.2 (epE w A h₀ L m gn dr oS led R d qual body scope cdv f vals hps gs).1.1.2 (epE w A h₀ L m gn dr oS led R d qual body scope cdv f vals hps gs).1.2 (epE w A h₀ L m gn dr oS led R d qual body scope cdv f vals hps gs).2) :
    codeAny (model PR w) A (.call (.ref f) ⟨args, []⟩) R ⟨hp, gn, dr, tk, oS⟩ :=
  callc ps more gs vals O F N ho hcd hbind hl hS hc hv hps hpm fun g L' h₁ tk' p loose mean mg mb S' O' X' T' F' N' =>
    ep_all (K := fun r : ((((((((Heap × Addr) × Heap) × Nat) × Program) × List Str) × (ExcName → Option Value)) × (Str → Option Value)) × (Str → Option Value)) => Ent w A h₀ L m gn dr oS led R d qual body scope cdv f vals hps gs r.1.1.1.1.1.1.1.1 r.1.1.1.1.1.1.1.2 r.1.1.1.1.1.1.2 r.1.1.1.1.1.2 r.1.1.1.1.2 r.1.1.1.2 r.1.1.2 r.1.2 r.2) h ((((((((g, L'), h₁), tk'), p), loose), mean), mg), mb) S' O' X' T' F' N'
theorem callfE {w : World} {A : Around} {h₀ : Heap} {L : Addr} {d : Nat} {m : Str → Option Value} {hp : Heap} {gn : Array GenState} {dr : Drawn} {tk : Nat} {oS : OsState} {led : Led} {Q E : Value → Shared → Prop} {name qual : Str} {params : Arguments} {body : List Stmt} {scope : Scope}
    {dV kV doc pm cdv ct oc : Value} {an od : Option Addr} {osl : Array (Option Value)} {f : Addr} {args : List Value} (ps more gs : List Str) (vals : List (Option Value))
    (O : Ok w A h₀ L (d + 1)) (F : Fr h₀ L hp m) (N : News h₀ L hp led)
    (ho : (hd.heap_1 w.params).lookup f = some ⟨oc, od, .func (fnOf name qual params body scope dV kV doc pm an cdv ct), osl⟩) (hcd : codeIn (hd.heap_1 w.params) cdv qual = true)
    (hbind : bindArgs (fnOf name qual params body scope dV kV doc pm an cdv ct) ⟨args, []⟩ = pure (ps.zip args)) (hl : ps.length = args.length)
    (hS : fnOk scope (ps ++ more) gs = true)
    (hc : (!scope.isCoroutine && !scope.isGenerator && (scope.names.all fun x => decide (x.2 ≠ .cell))) = true)
    (hv : args.map some ++ more.map (fun _ => none) = vals) (hps : List Str) (hpm : ps ++ more = hps)
    (h : Ent w A h₀ L m gn dr oS led (fun r s' => match r with | .ok (.ret v) => Q v s' | .ok _ => False | .error e => E e s') d qual body scope cdv f vals hps gs (epE w A h₀ L m gn dr oS led (fun r s' => match r with | .ok (.ret v) => Q v s' | .ok _ => False | .error e => E e s') d qual body scope cdv f vals hps gs).1.1.1.1.1.1.1.1 (epE w A h₀ L m gn dr oS led (fun r s' => match r with | .ok (.ret v) => Q v s' | .ok _ => False | .error e => E e s') d qual body scope cdv f vals hps gs).1.1.1.1.1.1.1.2 (epE w A h₀ L m gn dr oS led (fun r s' => match r with | .ok (.ret v) => Q v s' | .ok _ => False | .error e => E e s') d qual body scope cdv f vals hps gs).1.1.1.1.1.1.2 (epE w A h₀ L m gn dr oS led (fun r s' => match r with | .ok (.ret v) => Q v s' | .ok _ => False | .error e => E e s') d qual body scope cdv f vals hps gs).1.1.1.1.1.2 (epE w A h₀ L m gn dr oS led (fun r s' => match r with | .ok (.ret v) => Q v s' | .ok _ => False | .error e => E e s') d qual body scope cdv f vals hps gs).1.1.1.1.2 (epE w A h₀ L m gn dr oS led (fun r s' => match r with | .ok (.ret v) => Q v s' | .ok _ => False | .error e => E e s') d qual body scope cdv f vals hps gs).1.1.1.2 (epE w A h₀ L m gn dr oS led (fun r s' => match r with | .ok (.ret v) => Q v s' | .ok _ => False | .error e => E e s') d qual body scope cdv f vals hps gs).1.1.2 (epE w A h₀ L m gn dr oS led (fun r s' => match r with | .ok (.ret v) => Q v s' | .ok _ => False | .error e => E e s') d qual body scope cdv f vals hps gs).1.2 (epE w A h₀ L m gn dr oS led (fun r s' => match r with | .ok (.ret v) => Q v s' | .ok _ => False | .error e => E e s') d qual body scope cdv f vals hps gs).2) :
    wpAny (model PR w) A (call (.ref f) args) Q E ⟨hp, gn, dr, tk, oS⟩ :=
  wpAny_call (callcE ps more gs vals O F N ho hcd hbind hl hS hc hv hps hpm h)
end XB6_
end Mine
section B7_
namespace Mine
def Fs (es : List DictEntry) (fs : List (Str × Value)) (b : Nat) : Prop :=
  (∀ p ∈ fs, getL p.1 es = some (some p.2)) ∧ (∀ k, k ∉ fs.map (·.1) → getL k es = some none) ∧ es.any (·.refKey) = false ∧ es.length ≤ b
def put1 (fs : List (Str × Value)) (name : Str) (v : Value) : List (Str × Value) := (name, v) :: fs.filter fun p => p.1 != name
theorem Fs.nil : Fs [] [] 0 := ⟨(fun _ h => nomatch h), (fun _ _ => rfl), rfl, Nat.le_refl _⟩
theorem isStr_str (x y : Str) (t : Tok) : Value.isStr (.str x t) y = (x == y) := rfl
theorem getL_put (name name' : Str) (h : Int) (t : Tok) (v : Value) : ∀ es : List DictEntry, es.any (·.refKey) = false →
    getL name' (putL name h (.str name t) v es) = if name' = name then some (some v) else getL name' es
  | [], _ => by
    unfold putL getL
    simp only [List.find?_cons, isStr_str, List.find?_nil]
    by_cases e : name' = name
    · subst e; simp
    · have : (name == name') = false := beq_eq_false_iff_ne.mpr fun x => e x.symm
      simp [this, e, DictEntry.refKey]
  | e :: r, hr => by
    simp only [List.any_cons, Bool.or_eq_false_iff] at hr
    have ih := getL_put name name' h t v r hr.2
    unfold putL
    by_cases hk : e.key.isStr name = true
    · rw [if_pos hk]
      unfold getL
      simp only [List.find?_cons, List.any_cons]
      by_cases e' : name' = name
      · subst e'; simp [hk]
      · have hne : e.key.isStr name' = false := by
          cases q : e.key with
          | str x u =>
            rw [q] at hk
            have hx : x = name := by simpa [isStr_str] using hk
            rw [isStr_str]; exact beq_eq_false_iff_ne.mpr fun z => e' (by rw [← z, hx])
          | _ => rfl
        simp [hne, e', DictEntry.refKey]
    · rw [if_neg hk]
      unfold getL at ih ⊢
      simp only [List.find?_cons, List.any_cons, hr.1, Bool.false_or]
      cases q : e.key.isStr name' with
      | true =>
        have : name' ≠ name := fun z => hk (z ▸ q)
        simp [this]
      | false => simpa using ih
theorem refKey_put (name : Str) (h : Int) (t : Tok) (v : Value) : ∀ es : List DictEntry, es.any (·.refKey) = false → (putL name h (.str name t) v es).any (·.refKey) = false
  | [], _ => by simp [putL, DictEntry.refKey]
  | e :: r, hr => by
    simp only [List.any_cons, Bool.or_eq_false_iff] at hr
    unfold putL
    split
    · simp only [List.any_cons, hr.2, Bool.or_false]; exact hr.1
    · simp only [List.any_cons, hr.1, Bool.false_or]; exact refKey_put name h t v r hr.2
theorem length_put (name : Str) (h : Int) (t : Tok) (v : Value) : ∀ es : List DictEntry, (putL name h (.str name t) v es).length = if es.any (fun e => e.key.isStr name) then es.length else es.length + 1
  | [] => rfl
  | e :: r => by
    have ih := length_put name h t v r
    unfold putL
    by_cases q : e.key.isStr name = true
    · simp [q]
    · have q' : e.key.isStr name = false := by simpa using q
      rw [if_neg q]
      simp only [List.length_cons, List.any_cons, q', Bool.false_or, ih]
      split <;> rfl
theorem Fs.put {es : List DictEntry} {fs : List (Str × Value)} {b : Nat} (F : Fs es fs b) (name : Str) (h : Int) (t : Tok) (v : Value) : Fs (putL name h (.str name t) v es) (put1 fs name v) (b + 1) := by
  obtain ⟨f1, f2, f3, f4⟩ := F
  refine ⟨fun p hp => ?_, fun k hk => ?_, refKey_put name h t v es f3, ?_⟩
  · rw [getL_put _ _ _ _ _ _ f3]
    rcases List.mem_cons.mp hp with rfl | hp
    · rw [if_pos rfl]
    · have := List.mem_filter.mp hp
      rw [if_neg (by simpa using this.2)]
      exact f1 p this.1
  · rw [getL_put _ _ _ _ _ _ f3]
    simp only [put1, List.map_cons, List.mem_cons, not_or] at hk
    rw [if_neg hk.1]
    refine f2 k fun hm => hk.2 ?_
    obtain ⟨p, hp, rfl⟩ := List.mem_map.mp hm
    exact List.mem_map_of_mem (List.mem_filter.mpr ⟨hp, by simpa using hk.1⟩)
  · rw [length_put]
    split <;> lia
theorem Fs.some {es : List DictEntry} {fs : List (Str × Value)} {b : Nat} (F : Fs es fs b) (k : Str) : (getL k es).isSome = true := by
  by_cases h : k ∈ fs.map (·.1)
  · obtain ⟨p, hp, rfl⟩ := List.mem_map.mp h
    rw [F.1 p hp]; rfl
  · rw [F.2.1 k h]; rfl
section
variable {w : World} {A : Around} {E : Value → Shared → Prop} {hp : Heap} {gn : Array GenState} {dr : Drawn} {tk : Nat} {oS : OsState} {h₀ : Heap} {L : Addr} {m : Str → Option Value} {x C dx : Addr} {es : List DictEntry} {n b : Nat} {fs : List (Str × Value)} {rest : Led}
theorem set_F {name : Str} {v : Value} {Q : Unit → Shared → Prop} (F : Fr h₀ L hp m) (X₀ : (hd.heap_1 w.params).In h₀) (N : News h₀ L hp ((x, instObj C dx) :: (dx, dictOf es n) :: rest)) (l : ∀ p ∈ rest, p.1 ≠ dx) (hx : x ≠ dx) (Fl : Fs es fs b) (hb : b ≤ 100)
    (sa : findIn (hd.heap_1 w.params) (.ref C) "__setattr__" = some (some (.builtin "object.__setattr__"))) (po : plainOver (hd.heap_1 w.params) C = true) (fi : findIn (hd.heap_1 w.params) (.ref C) name = some none) (hh : hasDictIn (hd.heap_1 w.params) C = true)
    (h : ∀ es' n' h', Fr h₀ L h' m → News h₀ L h' ((x, instObj C dx) :: (dx, dictOf es' n') :: rest) → Fs es' (put1 fs name v) (b + 1) → Q () ⟨h', gn, dr, tk + 2, oS⟩) :
    wpAny (model PR w) A (setAttr (.ref x) name v) Q E ⟨hp, gn, dr, tk, oS⟩ :=
  set_dict (es' := putL name (PyData.keyHash w.params name) (.str name (tk + 1)) v es) (n' := putN name es n) F X₀ N (InstAt.of_news N (.head _) (.tail _ (.head _))) rfl sa po (by unfold takerIn; rw [fi]; rfl) hh (Fl.some name) rfl
    (.tail hx (.head l)) (by have := (Fl.put name (PyData.keyHash w.params name) (tk + 1) v).2.2.2; lia) fun h' F' N' => h _ _ h' F' N' (Fl.put ..)
theorem get_F {name : Str} {v : Value} {expr : Bool} {Q : Value → Shared → Prop} (F : Fr h₀ L hp m) (X₀ : (hd.heap_1 w.params).In h₀) (N : News h₀ L hp ((x, instObj C dx) :: (dx, dictOf es n) :: rest)) (Fl : Fs es fs b) (hm : (name, v) ∈ fs)
    (hg : plainGet (hd.heap_1 w.params) C name = true) (hh : hasDictIn (hd.heap_1 w.params) C = true) (fi : findIn (hd.heap_1 w.params) (.ref C) name = some none) (hv : handedIn v = true)
    (h : Q v ⟨hp, gn, dr, tk + 1, oS⟩) : wpAny (model PR w) A (getAttr (.ref x) name expr) Q E ⟨hp, gn, dr, tk, oS⟩ :=
  get_own (attr := none) F X₀ (InstAt.of_news N (.head _) (.tail _ (.head _))) hg hh fi rfl (Fl.1 _ hm) hv h
theorem new_inst {d : Nat} {pos : List Value} {fI : Addr} {led : Led} {Q : Value → Shared → Prop} (O : Ok w A h₀ L (d + 1)) (F : Fr h₀ L hp m) (N : News h₀ L hp led) (hm : makesIn (hd.heap_1 w.params) C = true)
    (hi : findIn (hd.heap_1 w.params) (.ref C) "__init__" = some (some (.ref fI))) (hf : isFn (hd.heap_1 w.params) (.ref fI) = true)
    (h : ∀ x dx h', Fr h₀ L h' m → News h₀ L h' ((x, instObj C dx) :: (dx, dictOf [] 0) :: led) → (∀ p ∈ led, p.1 ≠ dx) → (∀ p ∈ led, p.1 ≠ x) → x ≠ dx → Ok w (A.under (.builtin "type.__call__" ⟨.ref C :: pos, []⟩)) h₀ L d →
      codeAny (model PR w) (A.under (.builtin "type.__call__" ⟨.ref C :: pos, []⟩)) (.call (.ref fI) ⟨.ref x :: pos, []⟩) (InitBack x fun r s' => match r with | .ok (.ret v) => Q v s' | .ok _ => False | .error e => E e s') ⟨h', gn, dr, tk, oS⟩) :
    wpAny (model PR w) A (call (.ref C) pos) Q E ⟨hp, gn, dr, tk, oS⟩ := by
  refine call_cls F O.X N hm hi hf fun x dx h' F' N' l1 l2 => h x dx h' F' N' (fun p hp => Nat.ne_of_lt (l1 p hp)) (fun p hp => Nat.ne_of_lt (Nat.lt_trans (l1 p hp) l2)) (Nat.ne_of_gt l2) ?_
  obtain ⟨A₀, base, outer, env, B, hA, hf', hke⟩ := O.frames
  have h1 := O.depth
  have h2 := O.units
  have e : (Code.builtin "type.__call__" ⟨.ref C :: pos, []⟩).cUnits = 1 := rfl
  refine ⟨⟨A₀, base, outer, env, B, hA, hf', hke⟩, ?_, ?_, O.hand, O.X, O.T⟩
  · show A.depth + 1 + d < 1000
    lia
  · show A.units + (Code.builtin "type.__call__" ⟨.ref C :: pos, []⟩).cUnits + 8 * d < 9900
    lia
end
end Mine
end B7_
section B8_
namespace Mine
def Sg.pMade (σ : Sg) (x : Int) : Sg := { σ with made := x }
def Sg.pTop (σ : Sg) (x : Int) : Sg := { σ with top := x }
def Sg.pFresh (σ : Sg) (x : Int) : Sg := { σ with fresh := x }
def Sg.pNth (σ : Sg) (x : Nat) : Sg := { σ with nth := x }
def Sg.pItv (σ : Sg) (x : List Value) : Sg := { σ with itv := x }
def Sg.pThrown (σ : Sg) (x : List Value) : Sg := { σ with thrown := x }
def Sg.pTexts (σ : Sg) (x : List Value) : Sg := { σ with texts := x }
def Sg.pFacts (σ : Sg) (x : List Value) : Sg := { σ with facts := x }
def Sg.pTab (σ : Sg) (x : List (Int × Value)) : Sg := { σ with tab := x }
def Sg.pItn (σ : Sg) (x : List (Str × Value)) : Sg := { σ with itn := x }
theorem mut_post {h₀ h' : Heap} {L d : Addr} {o' : Obj} {X news : Led} (hX : ∀ p ∈ X, p.1 ≠ d) (N : News h₀ L h' (upd (X ++ news) d o')) : News h₀ L h' (X ++ upd news d o') := news_sub N fun p hp => by
  rcases List.mem_append.mp hp with h | h
  · exact mem_upd_ne (List.mem_append_left _ h) (hX p h)
  · rcases of_mem_upd h with rfl | h
    · exact mem_upd
    · exact mem_upd_ne (List.mem_append_right _ h.1) h.2
theorem any_of_getL {name : Str} {v : Value} {es : List DictEntry} (h : getL name es = some (some v)) : es.any (fun e => e.key.isStr name) = true := by
  unfold getL at h
  split at h
  · rename_i e he
    exact List.any_eq_true.mpr ⟨e, List.mem_of_find?_eq_some he, by simpa using List.find?_some he⟩
  · split at h <;> cases h
section
variable {w : World} {A : Around} {E : Value → Shared → Prop} {hp : Heap} {gn : Array GenState} {dr : Drawn} {tk : Nat} {oS : OsState} {h₀ : Heap} {L : Addr} {m : Str → Option Value} {P : Pl} {X news : Led} {σ : Sg}
theorem Rep.at_ (R : Rep w P X σ news) (k : Mk) : ∃ o, (P.adr k, o) ∈ news ∧ MutOk w P σ k o := R.mu k
theorem Rep.offX (R : Rep w P X σ news) (k : Mk) : ∀ p ∈ X, p.1 ≠ P.adr k := fun p hp => let ⟨o, h, _⟩ := R.mu k; R.dj p hp _ h

theorem set_H {name : Str} {v : Value} {σ' : Sg} {Q : Unit → Shared → Prop} (F : Fr h₀ L hp m) (X₀ : (hd.heap_1 w.params).In h₀) (N : News h₀ L hp (X ++ news)) (R : Rep w P X σ news) (fi : findIn (hd.heap_1 w.params) (.ref 117) name = some none)
    (old : ∀ es, getL "top" es ≠ some none → getL "fresh" es ≠ some none → getL "made" es ≠ some none → ∃ u, getL name es = some (some u) ∨ getL "top" es = none ∨ getL "fresh" es = none ∨ getL "made" es = none)
    (hm : ∀ es n t, MutOk w P σ .hd (dictOf es n) → ∀ n', MutOk w P σ' .hd (dictOf (putL name (PyData.keyHash w.params name) (.str name t) v es) n'))
    (hr : ∀ k, k ≠ .hd → ∀ o, MutOk w P σ k o → MutOk w P σ' k o)
    (h : ∀ news' h', Fr h₀ L h' m → News h₀ L h' (X ++ news') → Rep w P X σ' news' → Stay P news news' → Q () ⟨h', gn, dr, tk + 2, oS⟩) : wpAny (model PR w) A (setAttr (.ref P.h) name v) Q E ⟨hp, gn, dr, tk, oS⟩ := by
  obtain ⟨o, ho, es, n, t1, t2, t3, rfl, z1, z2, z3, z4, z5, z6, z7⟩ := R.mu .hd
  have hM : MutOk w P σ .hd (dictOf es n) := ⟨es, n, t1, t2, t3, rfl, z1, z2, z3, z4, z5, z6, z7⟩
  obtain ⟨u, hu⟩ := old es (by rw [z5]; simp) (by rw [z6]; simp) (by rw [z7]; simp)
  have hu : getL name es = some (some u) := by
    rcases hu with h | h | h | h
    · exact h
    · rw [z5] at h; cases h
    · rw [z6] at h; cases h
    · rw [z7] at h; cases h
  have N₂ := upd_news N (List.mem_append_right X ho)
  have I : InstAt hp P.h (instObj 117 (P.adr .hd)) 117 (some (dictOf es n)) := InstAt.of_news N (List.mem_append_right _ R.sta.h.1) (List.mem_append_right _ ho)
  refine set_dict (es' := putL name (PyData.keyHash w.params name) (.str name (tk + 1)) v es) (n' := putN name es n) F X₀ N₂ I rfl (Z115 w) (Z114 w) (by unfold takerIn; rw [fi]; rfl) (Z109 w) (by rw [hu]; rfl) rfl
    upd_U ?_ fun h' F' N' => h (upd news (P.adr .hd) (dictOf (putL name (PyData.keyHash w.params name) (.str name (tk + 1)) v es) (putN name es n))) h' F' (mut_post (R.offX _) N') (R.put .hd _ (hm es n _ hM _) hr) .upd
  rw [length_put, any_of_getL hu, if_pos rfl]; lia
theorem set_made {i : Int} {t : Tok} {Q : Unit → Shared → Prop} (F : Fr h₀ L hp m) (X₀ : (hd.heap_1 w.params).In h₀) (N : News h₀ L hp (X ++ news)) (R : Rep w P X σ news)
    (h : ∀ news' h', Fr h₀ L h' m → News h₀ L h' (X ++ news') → Rep w P X (σ.pMade i) news' → Stay P news news' → Q () ⟨h', gn, dr, tk + 2, oS⟩) : wpAny (model PR w) A (setAttr (.ref P.h) "made" (.int i t)) Q E ⟨hp, gn, dr, tk, oS⟩ := by
  refine set_H F X₀ N R (Z127 w) (fun es _ _ h => ?_) ?_ ?_ h
  · cases q : getL "made" es with
    | none => exact ⟨.none, .inr (.inr (.inr rfl))⟩
    | some x => cases x with
      | none => exact absurd q h
      | some u => exact ⟨u, .inl rfl⟩
  · rintro es n t' ⟨es', n₁, t1, t2, t3, e, z1, z2, z3, z4, z5, z6, z7⟩ n'
    cases e
    refine ⟨_, n', t1, t2, t, rfl, ?_, refKey_put _ _ _ _ _ z2, ?_, ?_, ?_, ?_, ?_⟩
    · rw [length_put, any_of_getL z7, if_pos rfl]; exact z1
    all_goals rw [getL_put _ _ _ _ _ _ z2]
    · rw [if_neg (by decide)]; exact z3
    · rw [if_neg (by decide)]; exact z4
    · rw [if_neg (by decide)]; exact z5
    · rw [if_neg (by decide)]; exact z6
    · rw [if_pos rfl]; rfl
  · intro k hk o ho; cases k <;> first | exact ho | exact absurd rfl hk
theorem set_top {i : Int} {t : Tok} {Q : Unit → Shared → Prop} (F : Fr h₀ L hp m) (X₀ : (hd.heap_1 w.params).In h₀) (N : News h₀ L hp (X ++ news)) (R : Rep w P X σ news)
    (h : ∀ news' h', Fr h₀ L h' m → News h₀ L h' (X ++ news') → Rep w P X (σ.pTop i) news' → Stay P news news' → Q () ⟨h', gn, dr, tk + 2, oS⟩) : wpAny (model PR w) A (setAttr (.ref P.h) "top" (.int i t)) Q E ⟨hp, gn, dr, tk, oS⟩ := by
  refine set_H F X₀ N R (Z118 w) (fun es h _ _ => ?_) ?_ ?_ h
  · cases q : getL "top" es with
    | none => exact ⟨.none, .inr (.inl rfl)⟩
    | some x => cases x with
      | none => exact absurd q h
      | some u => exact ⟨u, .inl rfl⟩
  · rintro es n t' ⟨es', n₁, t1, t2, t3, e, z1, z2, z3, z4, z5, z6, z7⟩ n'
    cases e
    refine ⟨_, n', t, t2, t3, rfl, ?_, refKey_put _ _ _ _ _ z2, ?_, ?_, ?_, ?_, ?_⟩
    · rw [length_put, any_of_getL z5, if_pos rfl]; exact z1
    all_goals rw [getL_put _ _ _ _ _ _ z2]
    · rw [if_neg (by decide)]; exact z3
    · rw [if_neg (by decide)]; exact z4
    · rw [if_pos rfl]; rfl
    · rw [if_neg (by decide)]; exact z6
    · rw [if_neg (by decide)]; exact z7
  · intro k hk o ho; cases k <;> first | exact ho | exact absurd rfl hk
theorem set_fresh {i : Int} {t : Tok} {Q : Unit → Shared → Prop} (F : Fr h₀ L hp m) (X₀ : (hd.heap_1 w.params).In h₀) (N : News h₀ L hp (X ++ news)) (R : Rep w P X σ news)
    (h : ∀ news' h', Fr h₀ L h' m → News h₀ L h' (X ++ news') → Rep w P X (σ.pFresh i) news' → Stay P news news' → Q () ⟨h', gn, dr, tk + 2, oS⟩) : wpAny (model PR w) A (setAttr (.ref P.h) "fresh" (.int i t)) Q E ⟨hp, gn, dr, tk, oS⟩ := by
  refine set_H F X₀ N R (Z122 w) (fun es _ h _ => ?_) ?_ ?_ h
  · cases q : getL "fresh" es with
    | none => exact ⟨.none, .inr (.inr (.inl rfl))⟩
    | some x => cases x with
      | none => exact absurd q h
      | some u => exact ⟨u, .inl rfl⟩
  · rintro es n t' ⟨es', n₁, t1, t2, t3, e, z1, z2, z3, z4, z5, z6, z7⟩ n'
    cases e
    refine ⟨_, n', t1, t, t3, rfl, ?_, refKey_put _ _ _ _ _ z2, ?_, ?_, ?_, ?_, ?_⟩
    · rw [length_put, any_of_getL z6, if_pos rfl]; exact z1
    all_goals rw [getL_put _ _ _ _ _ _ z2]
    · rw [if_neg (by decide)]; exact z3
    · rw [if_neg (by decide)]; exact z4
    · rw [if_neg (by decide)]; exact z5
    · rw [if_pos rfl]; rfl
    · rw [if_neg (by decide)]; exact z7
  · intro k hk o ho; cases k <;> first | exact ho | exact absurd rfl hk

-- the mutable lists
theorem kl_last_app (vs : List Value) (v : Value) : kl_last (vs ++ [v]) = some (vs, v) := by
  induction vs with
  | nil => rfl
  | cons x r ih => simp only [List.cons_append, kl_last, ih]
theorem list_add {k : Mk} {its : Array Value} {n : Nat} {v : Value} {σ' : Sg} {Q : Value → Shared → Prop} (F : Fr h₀ L hp m) (N : News h₀ L hp (X ++ news)) (R : Rep w P X σ news) (ho : (P.adr k, listOf its n) ∈ news) (hz : its.size ≤ 1000000)
    (hm : MutOk w P σ' k (listOf (its.push v) (n + 1))) (hr : ∀ k', k' ≠ k → ∀ o, MutOk w P σ k' o → MutOk w P σ' k' o)
    (h : ∀ news' h', Fr h₀ L h' m → News h₀ L h' (X ++ news') → Rep w P X σ' news' → Stay P news news' → Q .none ⟨h', gn, dr, tk, oS⟩) : wpAny (model PR w) A (call (.builtin "list.append") [.ref (P.adr k), v]) Q E ⟨hp, gn, dr, tk, oS⟩ :=
  append_K F (upd_news N (List.mem_append_right X ho)) upd_U (fun h' F' N' => h _ h' F' (mut_post (R.offX _) N') (R.put k _ hm hr) .upd) (by rw [sizeLine_eq]; lia)
theorem things_add {v : Value} {Q : Value → Shared → Prop} (F : Fr h₀ L hp m) (N : News h₀ L hp (X ++ news)) (R : Rep w P X σ news) (hz : σ.nth ≤ 1000000)
    (h : ∀ news' h', Fr h₀ L h' m → News h₀ L h' (X ++ news') → Rep w P X (σ.pNth (σ.nth + 1)) news' → Stay P news news' → Q .none ⟨h', gn, dr, tk, oS⟩) : wpAny (model PR w) A (call (.builtin "list.append") [.ref (P.adr .things), v]) Q E ⟨hp, gn, dr, tk, oS⟩ := by
  obtain ⟨o, ho, its, n, rfl, hs⟩ := R.mu .things
  exact list_add F N R ho (by lia) ⟨_, _, rfl, by simp [hs, Sg.pNth]⟩ (fun k hk o ho => by cases k <;> first | exact ho | exact absurd rfl hk) h
theorem itv_add {v : Value} {Q : Value → Shared → Prop} (F : Fr h₀ L hp m) (N : News h₀ L hp (X ++ news)) (R : Rep w P X σ news) (hz : σ.itv.length ≤ 1000000)
    (h : ∀ news' h', Fr h₀ L h' m → News h₀ L h' (X ++ news') → Rep w P X (σ.pItv (σ.itv ++ [v])) news' → Stay P news news' → Q .none ⟨h', gn, dr, tk, oS⟩) : wpAny (model PR w) A (call (.builtin "list.append") [.ref (P.adr .itv), v]) Q E ⟨hp, gn, dr, tk, oS⟩ := by
  obtain ⟨o, ho, n, rfl⟩ := R.mu .itv
  exact list_add F N R ho (by simpa using hz) ⟨_, by simp [Sg.pItv, Sg.pThrown, Sg.pTexts, Sg.pFacts]; rfl⟩ (fun k hk o ho => by cases k <;> first | exact ho | exact absurd rfl hk) h
theorem thrown_add {v : Value} {Q : Value → Shared → Prop} (F : Fr h₀ L hp m) (N : News h₀ L hp (X ++ news)) (R : Rep w P X σ news) (hz : σ.thrown.length ≤ 1000000)
    (h : ∀ news' h', Fr h₀ L h' m → News h₀ L h' (X ++ news') → Rep w P X (σ.pThrown (σ.thrown ++ [v])) news' → Stay P news news' → Q .none ⟨h', gn, dr, tk, oS⟩) : wpAny (model PR w) A (call (.builtin "list.append") [.ref (P.adr .thrown), v]) Q E ⟨hp, gn, dr, tk, oS⟩ := by
  obtain ⟨o, ho, n, rfl⟩ := R.mu .thrown
  exact list_add F N R ho (by simpa using hz) ⟨_, by simp [Sg.pItv, Sg.pThrown, Sg.pTexts, Sg.pFacts]; rfl⟩ (fun k hk o ho => by cases k <;> first | exact ho | exact absurd rfl hk) h
theorem texts_add {v : Value} {Q : Value → Shared → Prop} (F : Fr h₀ L hp m) (N : News h₀ L hp (X ++ news)) (R : Rep w P X σ news) (hz : σ.texts.length ≤ 1000000)
    (h : ∀ news' h', Fr h₀ L h' m → News h₀ L h' (X ++ news') → Rep w P X (σ.pTexts (σ.texts ++ [v])) news' → Stay P news news' → Q .none ⟨h', gn, dr, tk, oS⟩) : wpAny (model PR w) A (call (.builtin "list.append") [.ref (P.adr .texts), v]) Q E ⟨hp, gn, dr, tk, oS⟩ := by
  obtain ⟨o, ho, n, rfl⟩ := R.mu .texts
  exact list_add F N R ho (by simpa using hz) ⟨_, by simp [Sg.pItv, Sg.pThrown, Sg.pTexts, Sg.pFacts]; rfl⟩ (fun k hk o ho => by cases k <;> first | exact ho | exact absurd rfl hk) h
theorem facts_add {v : Value} {Q : Value → Shared → Prop} (F : Fr h₀ L hp m) (N : News h₀ L hp (X ++ news)) (R : Rep w P X σ news) (hz : σ.facts.length ≤ 1000000)
    (h : ∀ news' h', Fr h₀ L h' m → News h₀ L h' (X ++ news') → Rep w P X (σ.pFacts (σ.facts ++ [v])) news' → Stay P news news' → Q .none ⟨h', gn, dr, tk, oS⟩) : wpAny (model PR w) A (call (.builtin "list.append") [.ref (P.adr .facts), v]) Q E ⟨hp, gn, dr, tk, oS⟩ := by
  obtain ⟨o, ho, n, rfl⟩ := R.mu .facts
  exact list_add F N R ho (by simpa using hz) ⟨_, by simp [Sg.pItv, Sg.pThrown, Sg.pTexts, Sg.pFacts]; rfl⟩ (fun k hk o ho => by cases k <;> first | exact ho | exact absurd rfl hk) h
theorem thrown_pop {vs : List Value} {v : Value} {Q : Value → Shared → Prop} (F : Fr h₀ L hp m) (N : News h₀ L hp (X ++ news)) (R : Rep w P X σ news) (hv : σ.thrown = vs ++ [v]) (hz : σ.thrown.length ≤ 1000000)
    (h : ∀ news' h', Fr h₀ L h' m → News h₀ L h' (X ++ news') → Rep w P X (σ.pThrown vs) news' → Stay P news news' → Q v ⟨h', gn, dr, tk, oS⟩) : wpAny (model PR w) A (call (.builtin "list.pop") [.ref (P.adr .thrown)]) Q E ⟨hp, gn, dr, tk, oS⟩ := by
  obtain ⟨o, ho, n, rfl⟩ := R.mu .thrown
  rw [hv] at ho hz
  refine kl_pop (p := vs) (y := v) F (upd_news N (List.mem_append_right X ho)) (?_) upd_U (by rw [sizeLine_eq]; simp at hz ⊢; lia) fun h' F' N' => h _ h' F' (mut_post (R.offX _) N') (R.put .thrown _ ⟨_, rfl⟩ fun k hk o ho => by cases k <;> first | exact ho | exact absurd rfl hk) .upd
  exact kl_last_app vs v
-- their methods, their lengths
theorem gm_append {k : Mk} {its : Array Value} {n : Nat} {Q : Value → List Value → Shared → Prop} (N : News h₀ L hp (X ++ news)) (ho : (P.adr k, listOf its n) ∈ news) (h : Q (.builtin "list.append") [.ref (P.adr k)] ⟨hp, gn, dr, tk, oS⟩) :
    GM (model PR w) A (.ref (P.adr k)) "append" Q E ⟨hp, gn, dr, tk, oS⟩ := fun _ => kl_method N (List.mem_append_right _ ho) PySem.F.slot_list_append PySem.F.type_list_append h
theorem gm_pop {k : Mk} {its : Array Value} {n : Nat} {Q : Value → List Value → Shared → Prop} (N : News h₀ L hp (X ++ news)) (ho : (P.adr k, listOf its n) ∈ news) (h : Q (.builtin "list.pop") [.ref (P.adr k)] ⟨hp, gn, dr, tk, oS⟩) :
    GM (model PR w) A (.ref (P.adr k)) "pop" Q E ⟨hp, gn, dr, tk, oS⟩ := fun _ => kl_method N (List.mem_append_right _ ho) PySem.F.slot_list_pop PySem.F.type_list_pop h
-- the two tables
theorem tab_set {k : Int} {t : Tok} {v : Value} {Q : Unit → Shared → Prop} (F : Fr h₀ L hp m) (N : News h₀ L hp (X ++ news)) (R : Rep w P X σ news) (hz : σ.tab.length ≤ 1000000)
    (h : ∀ news' h', Fr h₀ L h' m → News h₀ L h' (X ++ news') → Rep w P X (σ.pTab (stored σ.tab k v)) news' → Stay P news news' → Q () ⟨h', gn, dr, tk + 1, oS⟩) : wpAny (model PR w) A (setItem (.ref (P.adr .tab)) (.int k t) v) Q E ⟨hp, gn, dr, tk, oS⟩ := by
  obtain ⟨o, ho, hd⟩ := R.mu .tab
  exact kda_set (knd := intKind PR w) F (upd_news N (List.mem_append_right X ho)) upd_UF hd (intKind_is _ _ _ _) (by rw [sizeLine_eq]; lia) fun h' o' F' N' hd' => h _ h' F' (mut_post (R.offX _) N') (R.put .tab _ hd' fun k hk o ho => by cases k <;> first | exact ho | exact absurd rfl hk) .upd
theorem itn_set {x : Str} {t : Tok} {v : Value} {Q : Unit → Shared → Prop} (F : Fr h₀ L hp m) (N : News h₀ L hp (X ++ news)) (R : Rep w P X σ news) (hz : σ.itn.length ≤ 1000000)
    (h : ∀ news' h', Fr h₀ L h' m → News h₀ L h' (X ++ news') → Rep w P X (σ.pItn (stored σ.itn x v)) news' → Stay P news news' → Q () ⟨h', gn, dr, tk + 1, oS⟩) : wpAny (model PR w) A (setItem (.ref (P.adr .itn)) (.str x t) v) Q E ⟨hp, gn, dr, tk, oS⟩ := by
  obtain ⟨o, ho, hd⟩ := R.mu .itn
  exact kda_set (knd := PySem.strKind PR w) F (upd_news N (List.mem_append_right X ho)) upd_UF hd (strKind_is _ _ _ _) (by rw [sizeLine_eq]; lia) fun h' o' F' N' hd' => h _ h' F' (mut_post (R.offX _) N') (R.put .itn _ hd' fun k hk o ho => by cases k <;> first | exact ho | exact absurd rfl hk) .upd
theorem itn_method {Q : Value → List Value → Shared → Prop} (N : News h₀ L hp (X ++ news)) (R : Rep w P X σ news) (h : Q (.builtin "dict.get") [.ref (P.adr .itn)] ⟨hp, gn, dr, tk, oS⟩) :
    GM (model PR w) A (.ref (P.adr .itn)) "get" Q E ⟨hp, gn, dr, tk, oS⟩ := by
  intro pl
  obtain ⟨o, ho, hd⟩ := R.mu .itn
  exact kdg_method (knd := PySem.strKind PR w) N (List.mem_append_right _ ho) hd h
theorem itn_get {x : Str} {t : Tok} {v d : Value} {Q : Value → Shared → Prop} (N : News h₀ L hp (X ++ news)) (R : Rep w P X σ news) (hv : (valueAt σ.itn x).getD d = v) (h : Q v ⟨hp, gn, dr, tk + 1, oS⟩) :
    wpAny (model PR w) A (call (.builtin "dict.get") [.ref (P.adr .itn), .str x t, d]) Q E ⟨hp, gn, dr, tk, oS⟩ := by
  obtain ⟨o, ho, hd⟩ := R.mu .itn
  exact kdg_get2 (knd := PySem.strKind PR w) N (List.mem_append_right _ ho) hd (R.low _) (strKind_is _ _ _ _) _ rfl (by rw [hv]; exact h)
theorem stored_at {K : Type} [DecidableEq K] (kvs : List (K × Value)) (k k' : K) (v : Value) : valueAt (stored kvs k v) k' = if k' = k then some v else valueAt kvs k' := by
  unfold stored valueAt
  split
  · rename_i h
    by_cases e : k' = k
    · subst e
      rw [if_pos rfl]
      induction kvs with
      | nil => simp at h
      | cons p r ih =>
        simp only [List.map_cons, List.find?_cons]
        by_cases q : p.1 = k'
        · simp [q]
        · rw [List.any_cons] at h
          rw [decide_eq_false q, Bool.false_or] at h
          have := ih h
          simp only [if_neg q, decide_eq_false q]; exact this
    · rw [if_neg e]
      clear h
      induction kvs with
      | nil => rfl
      | cons p r ih =>
        simp only [List.map_cons, List.find?_cons]
        by_cases q : p.1 = k
        · have : ¬ p.1 = k' := fun z => e (z.symm.trans q)
          have h2 : ¬ k = k' := fun z => e z.symm
          simp only [q, if_true, h2, decide_false]
          exact ih
        · simp only [q, if_false]
          by_cases q' : p.1 = k'
          · simp [q']
          · simp only [q', decide_false]; exact ih
  · rename_i h
    rw [List.find?_append]
    by_cases e : k' = k
    · subst e
      rw [if_pos rfl]
      have : kvs.find? (fun kv => kv.1 = k') = none := by
        rw [List.find?_eq_none]; intro p hp q; exact h (List.any_eq_true.mpr ⟨p, hp, by simpa using q⟩)
      rw [this]; simp
    · rw [if_neg e]
      have h2 : ¬ k = k' := fun z => e z.symm
      simp [h2]
theorem stored_length {K : Type} [DecidableEq K] (kvs : List (K × Value)) (k : K) (v : Value) : (stored kvs k v).length ≤ kvs.length + 1 := by
  unfold stored; split <;> simp
end
end Mine
end B8_
section B9_
namespace Mine
section
variable {M : Model} {w : World} {A : Around} {E : Value → Shared → Prop} {s : Shared} {env : Env} {rest : List Stmt} {Q : Flow → Shared → Prop}
theorem x_attr {o attr pos' value pos} (h : wpAny M A (eval value env) (fun v s₁ => wpAny M A (eval o env) (fun ov s₂ => wpAny M A (setAttr ov attr v) (fun _ s₃ => wpAny M A (execs rest env) Q E s₃) E s₂) E s₁) E s)
    (hs : swapsWith value (some (.Attribute o attr pos')) pos.line env = pure false) : wpAny M A (execs (.Assign [.Attribute o attr pos'] value pos :: rest) env) Q E s := x_cons (plainObj_wpAny_Assign_Attribute h hs)
theorem x_item {o i pos' value pos} (h : wpAny M A (eval value env) (fun v s₁ => wpAny M A (eval o env) (fun ov s₂ => wpAny M A (eval i env) (fun iv s₃ => wpAny M A (setItem ov iv v) (fun _ s₄ => wpAny M A (execs rest env) Q E s₄) E s₃) E s₂) E s₁) E s)
    (hs : swapsWith value (some (.Subscript o i pos')) pos.line env = pure false) : wpAny M A (execs (.Assign [.Subscript o i pos'] value pos :: rest) env) Q E s := x_cons (wpAny_Assign_Subscript h hs)
theorem x_augn {x pos' op value pos} (h : wpAny M A (loadName env x) (fun old s₁ => wpAny M A (eval value env) (fun v s₂ => wpAny M A (inplaceOp op old v) (fun r s₃ => wpAny M A (storeName env x r) (fun _ s₄ => wpAny M A (execs rest env) Q E s₄) E s₃) E s₂) E s₁) E s) :
    wpAny M A (execs (.AugAssign (.Name x pos') op value pos :: rest) env) Q E s := x_cons (wpAny_AugAssign_Name h)
theorem x_auga {o attr tpos op value pos} (h : wpAny M A (eval o env) (fun ov s₁ => wpAny M A (getAttr ov attr true) (fun old s₂ => wpAny M A (eval value env) (fun v s₃ => wpAny M A (inplaceOp op old v) (fun new s₄ => wpAny M A (setAttr ov attr new) (fun _ s₅ => wpAny M A (execs rest env) Q E s₅) E s₄) E s₃) E s₂) E s₁) E s) :
    wpAny M A (execs (.AugAssign (.Attribute o attr tpos) op value pos :: rest) env) Q E s := x_cons (wpAny_AugAssign_AttributeAny h)
end
section
variable {w : World} {A : Around} {E : Value → Shared → Prop} {hp : Heap} {gn : Array GenState} {dr : Drawn} {tk : Nat} {oS : OsState} {h₀ : Heap} {L : Addr} {m : Str → Option Value} {P : Pl} {X news led rest : Led} {σ : Sg}
theorem led_isList {l : Addr} {its : Array Value} {n : Nat} (N : News h₀ L hp led) (h : (l, listOf its n) ∈ led) : hp.IsList l its := ⟨_, (N _ h).1, rfl, n, rfl⟩
theorem len_led {l : Addr} {its : Array Value} {n : Nat} {Q : Value → Shared → Prop} (N : News h₀ L hp led) (hm : (l, listOf its n) ∈ led) (hz : its.size ≤ 1000000) (h : Q (.int its.size (tk + 1)) ⟨hp, gn, dr, tk + 1 + 1, oS⟩) :
    wpAny (model PR w) A (call (.builtin "len") [.ref l]) Q E ⟨hp, gn, dr, tk, oS⟩ := call_len_list (led_isList N hm) (by lia) h
theorem set_head {l : Addr} {v v' : Value} {n : Nat} {t : Tok} {Q : Unit → Shared → Prop} (F : Fr h₀ L hp m) (N : News h₀ L hp ((l, listOf #[v] n) :: rest)) (hl : ∀ p ∈ rest, p.1 ≠ l)
    (h : ∀ h', Fr h₀ L h' m → News h₀ L h' ((l, listOf #[v'] n) :: rest) → Q () ⟨h', gn, dr, tk, oS⟩) : wpAny (model PR w) A (setItem (.ref l) (.int 0 t) v') Q E ⟨hp, gn, dr, tk, oS⟩ :=
  ki_set (q := [v']) F N (by decide) (by decide) rfl (.head hl) fun h' F' N' => h h' F' N'
theorem newList_X {M : Model} {vs : List Value} {Q : Value → Shared → Prop} (F : Fr h₀ L hp m) (N : News h₀ L hp led) (hz : vs.length ≤ 1000)
    (h : ∀ l h', Fr h₀ L h' m → News h₀ L h' ((l, listOf vs.toArray 0) :: led) → (∀ p ∈ led, p.1 ≠ l) → Q (.ref l) ⟨h', gn, dr, tk, oS⟩) : wpAny M A (newList vs) Q E ⟨hp, gn, dr, tk, oS⟩ :=
  newList_K F N (fun l h' F' N' hl => h l h' F' N' fun p hp => Nat.ne_of_lt (hl p hp)) (by rw [sizeLine_eq]; lia)
theorem newTuple_X {M : Model} {vs : List Value} {Q : Value → Shared → Prop} (F : Fr h₀ L hp m) (N : News h₀ L hp led) (hz : vs.length ≤ 1000)
    (h : ∀ l h', Fr h₀ L h' m → News h₀ L h' ((l, tupOf vs) :: led) → (∀ p ∈ led, p.1 ≠ l) → Q (.ref l) ⟨h', gn, dr, tk, oS⟩) : wpAny M A (newTuple vs) Q E ⟨hp, gn, dr, tk, oS⟩ :=
  newTuple_N F N (fun h' F' N' => h _ h' F' N' fun p hp => Nat.ne_of_lt (Heap.lt_size (N p hp).1)) (by rw [sizeLine_eq]; lia)
end
end Mine
end B9_
section B10_
namespace Mine
section
variable {M : Model} {w : World} {A : Around} {E : Value → Shared → Prop} {hp : Heap} {gn : Array GenState} {dr : Drawn} {tk : Nat} {oS : OsState} {h₀ : Heap} {L : Addr} {m : Str → Option Value} {P : Pl} {X news led rest : Led} {σ : Sg} {x C dx l : Addr} {es : List DictEntry} {n b : Nat} {fs : List (Str × Value)}
theorem pgn {name : Str} (h : plainGet (hd.heap_1 w.params) C "" = true) : plainGet (hd.heap_1 w.params) C name = true := h
theorem put1_mem {p : Str × Value} {name : Str} {v : Value} (h : p ∈ fs) (hn : (p.1 != name) = true) : p ∈ put1 fs name v := .tail _ (List.mem_filter.mpr ⟨h, hn⟩)
theorem Rep.adopt {p : Addr × Obj} (R : Rep w P (p :: X) σ news) (hp : ∀ q ∈ X, q.1 ≠ p.1) : Rep w P X σ (p :: news) ∧ ¬ P.isMut p.1 := by
  refine ⟨(R.frame (X' := X) fun q hq => R.dj q (.tail _ hq)).cons (a := p.1) (o := p.2) hp, ?_⟩
  rintro ⟨k, e⟩
  obtain ⟨o, ho, -⟩ := R.mu k
  exact R.dj p (.head _) _ ho e.symm
theorem news_adopt {h : Heap} {p : Addr × Obj} (N : News h₀ L h ((p :: X) ++ news)) : News h₀ L h (X ++ (p :: news)) := past_X N
theorem Rep.keys {X' : Led} (R : Rep w P X σ news) (h : ∀ p ∈ X', ∃ q ∈ X, q.1 = p.1) : Rep w P X' σ news := R.frame fun p hp q hq => by
  obtain ⟨p', h1, h2⟩ := h p hp
  rw [← h2]; exact R.dj p' h1 q hq
theorem Rep.into {p : Addr × Obj} (R : Rep w P X σ news) (h : ∀ q ∈ news, q.1 ≠ p.1) : Rep w P (p :: X) σ news := R.frame fun p' hp q hq => by
  rcases List.mem_cons.mp hp with rfl | hp
  · exact fun e => h q hq e.symm
  · exact R.dj p' hp q hq
theorem set_FX {name : Str} {v : Value} {Q : Unit → Shared → Prop} (F : Fr h₀ L hp m) (X₀ : (hd.heap_1 w.params).In h₀) (N : News h₀ L hp (((x, instObj C dx) :: (dx, dictOf es n) :: X) ++ news)) (R : Rep w P ((x, instObj C dx) :: (dx, dictOf es n) :: X) σ news) (l : ∀ p ∈ X, p.1 ≠ dx) (hx : x ≠ dx) (Fl : Fs es fs b) (hb : b ≤ 100)
    (sa : findIn (hd.heap_1 w.params) (.ref C) "__setattr__" = some (some (.builtin "object.__setattr__"))) (po : plainOver (hd.heap_1 w.params) C = true) (fi : findIn (hd.heap_1 w.params) (.ref C) name = some none) (hh : hasDictIn (hd.heap_1 w.params) C = true)
    (h : ∀ es' n' h', Fr h₀ L h' m → News h₀ L h' (((x, instObj C dx) :: (dx, dictOf es' n') :: X) ++ news) → Rep w P ((x, instObj C dx) :: (dx, dictOf es' n') :: X) σ news → Fs es' (put1 fs name v) (b + 1) → Q () ⟨h', gn, dr, tk + 2, oS⟩) :
    wpAny (model PR w) A (setAttr (.ref x) name v) Q E ⟨hp, gn, dr, tk, oS⟩ :=
  set_F (rest := X ++ news) F X₀ N (fun p hp => by
    rcases List.mem_append.mp hp with hp | hp
    · exact l p hp
    · exact fun e => R.dj (dx, _) (.tail _ (.head _)) p hp e.symm) hx Fl hb sa po fi hh fun es' n' h' F' N' Fl' => h es' n' h' F' N' (R.keys fun p hp => by
      rcases List.mem_cons.mp hp with rfl | hp
      · exact ⟨_, .head _, rfl⟩
      rcases List.mem_cons.mp hp with rfl | hp
      · exact ⟨_, .tail _ (.head _), rfl⟩
      · exact ⟨p, .tail _ (.tail _ hp), rfl⟩) Fl'
theorem get_FX {name : Str} {v : Value} {expr : Bool} {Q : Value → Shared → Prop} (F : Fr h₀ L hp m) (X₀ : (hd.heap_1 w.params).In h₀) (N : News h₀ L hp (((x, instObj C dx) :: (dx, dictOf es n) :: X) ++ news)) (Fl : Fs es fs b) (hm : (name, v) ∈ fs)
    (hg : plainGet (hd.heap_1 w.params) C name = true) (hh : hasDictIn (hd.heap_1 w.params) C = true) (fi : findIn (hd.heap_1 w.params) (.ref C) name = some none) (hv : handedIn v = true)
    (h : Q v ⟨hp, gn, dr, tk + 1, oS⟩) : wpAny (model PR w) A (getAttr (.ref x) name expr) Q E ⟨hp, gn, dr, tk, oS⟩ := get_F (rest := X ++ news) F X₀ N Fl hm hg hh fi hv h
theorem newTuple_R {vs : List Value} {Q : Value → Shared → Prop} (F : Fr h₀ L hp m) (N : News h₀ L hp (X ++ news)) (R : Rep w P X σ news) (hz : vs.length ≤ 1000)
    (h : ∀ l h', Fr h₀ L h' m → News h₀ L h' (X ++ ((l, tupOf vs) :: news)) → Rep w P X σ ((l, tupOf vs) :: news) → ¬ P.isMut l → Stay P news ((l, tupOf vs) :: news) → Q (.ref l) ⟨h', gn, dr, tk, oS⟩) : wpAny M A (newTuple vs) Q E ⟨hp, gn, dr, tk, oS⟩ :=
  newTuple_N F N (fun h' F' N' => h _ h' F' (past_X N') (R.cons (off_X N (Nat.le_refl _))) (R.fresh N (Nat.le_refl _)) .cons) (by rw [sizeLine_eq]; lia)
theorem newList_R {vs : List Value} {Q : Value → Shared → Prop} (F : Fr h₀ L hp m) (N : News h₀ L hp (X ++ news)) (R : Rep w P X σ news) (hz : vs.length ≤ 1000)
    (h : ∀ l h', Fr h₀ L h' m → News h₀ L h' (((l, listOf vs.toArray 0) :: X) ++ news) → Rep w P ((l, listOf vs.toArray 0) :: X) σ news → (∀ p ∈ X, p.1 ≠ l) → Q (.ref l) ⟨h', gn, dr, tk, oS⟩) : wpAny M A (newList vs) Q E ⟨hp, gn, dr, tk, oS⟩ :=
  newList_X F N hz fun l h' F' N' hl => h l h' F' N' (R.into fun q hq => hl q (List.mem_append_right _ hq)) fun p hp => hl p (List.mem_append_left _ hp)
theorem set_X {v v' : Value} {t : Tok} {Q : Unit → Shared → Prop} (F : Fr h₀ L hp m) (N : News h₀ L hp (((l, listOf #[v] n) :: X) ++ news)) (R : Rep w P ((l, listOf #[v] n) :: X) σ news) (hl : ∀ p ∈ X, p.1 ≠ l)
    (h : ∀ h', Fr h₀ L h' m → News h₀ L h' (((l, listOf #[v'] n) :: X) ++ news) → Rep w P ((l, listOf #[v'] n) :: X) σ news → Q () ⟨h', gn, dr, tk, oS⟩) : wpAny (model PR w) A (setItem (.ref l) (.int 0 t) v') Q E ⟨hp, gn, dr, tk, oS⟩ :=
  set_head (rest := X ++ news) F N (fun p hp => by
    rcases List.mem_append.mp hp with hp | hp
    · exact hl p hp
    · exact fun e => R.dj (l, _) (.head _) p hp e.symm) fun h' F' N' => h h' F' N' (R.keys fun p hp => by
      rcases List.mem_cons.mp hp with rfl | hp
      · exact ⟨_, .head _, rfl⟩
      · exact ⟨p, .tail _ hp, rfl⟩)
theorem gm_things {Q : Value → List Value → Shared → Prop} (N : News h₀ L hp (X ++ news)) (R : Rep w P X σ news) (h : Q (.builtin "list.append") [.ref (P.adr .things)] ⟨hp, gn, dr, tk, oS⟩) :
    GM (model PR w) A (.ref (P.adr .things)) "append" Q E ⟨hp, gn, dr, tk, oS⟩ := by
  obtain ⟨o, ho, its, n, rfl, hs⟩ := R.mu .things
  exact gm_append N ho h
theorem gm_itv {Q : Value → List Value → Shared → Prop} (N : News h₀ L hp (X ++ news)) (R : Rep w P X σ news) (h : Q (.builtin "list.append") [.ref (P.adr .itv)] ⟨hp, gn, dr, tk, oS⟩) :
    GM (model PR w) A (.ref (P.adr .itv)) "append" Q E ⟨hp, gn, dr, tk, oS⟩ := by
  obtain ⟨o, ho, n, rfl⟩ := R.mu .itv
  exact gm_append N ho h
theorem gm_thrown {Q : Value → List Value → Shared → Prop} (N : News h₀ L hp (X ++ news)) (R : Rep w P X σ news) (h : Q (.builtin "list.append") [.ref (P.adr .thrown)] ⟨hp, gn, dr, tk, oS⟩) :
    GM (model PR w) A (.ref (P.adr .thrown)) "append" Q E ⟨hp, gn, dr, tk, oS⟩ := by
  obtain ⟨o, ho, n, rfl⟩ := R.mu .thrown
  exact gm_append N ho h
theorem gm_thrown_pop {Q : Value → List Value → Shared → Prop} (N : News h₀ L hp (X ++ news)) (R : Rep w P X σ news) (h : Q (.builtin "list.pop") [.ref (P.adr .thrown)] ⟨hp, gn, dr, tk, oS⟩) :
    GM (model PR w) A (.ref (P.adr .thrown)) "pop" Q E ⟨hp, gn, dr, tk, oS⟩ := by
  obtain ⟨o, ho, n, rfl⟩ := R.mu .thrown
  exact gm_pop N ho h
theorem gm_texts {Q : Value → List Value → Shared → Prop} (N : News h₀ L hp (X ++ news)) (R : Rep w P X σ news) (h : Q (.builtin "list.append") [.ref (P.adr .texts)] ⟨hp, gn, dr, tk, oS⟩) :
    GM (model PR w) A (.ref (P.adr .texts)) "append" Q E ⟨hp, gn, dr, tk, oS⟩ := by
  obtain ⟨o, ho, n, rfl⟩ := R.mu .texts
  exact gm_append N ho h
theorem gm_facts {Q : Value → List Value → Shared → Prop} (N : News h₀ L hp (X ++ news)) (R : Rep w P X σ news) (h : Q (.builtin "list.append") [.ref (P.adr .facts)] ⟨hp, gn, dr, tk, oS⟩) :
    GM (model PR w) A (.ref (P.adr .facts)) "append" Q E ⟨hp, gn, dr, tk, oS⟩ := by
  obtain ⟨o, ho, n, rfl⟩ := R.mu .facts
  exact gm_append N ho h

theorem Inv.grow {mem : List Str} {pool : Str → Option Nat} {news' : Led} {th : Addr} {s : Str} (I : Inv P σ news mem pool) (K : Stay P news news') (T : Thing P news' th σ.top s) :
    Inv P { σ with made := σ.made + 1, nth := σ.nth + 1, tab := stored σ.tab σ.top (.ref th), top := σ.top + 3, fresh := σ.fresh + 3 } news' (mem ++ [s]) pool where
  top := by show σ.top + 3 = _; rw [I.top]; simp; lia
  fresh := by show σ.fresh + 3 = _; rw [I.fresh]; simp; lia
  made := by show σ.made + 1 = _; rw [I.made]; simp
  nth := by show σ.nth + 1 = _; rw [I.nth]; simp
  len := by have := stored_length σ.tab σ.top (.ref th); have := I.len; simp; show (stored σ.tab σ.top (Value.ref th)).length ≤ _; lia
  tab i s' hi := by
    show ∃ th', valueAt (stored σ.tab σ.top (.ref th)) _ = _ ∧ _
    rw [stored_at]
    by_cases e : i = mem.length
    · subst e
      rw [List.getElem?_append_right (Nat.le_refl _)] at hi
      simp at hi
      subst hi
      rw [if_pos I.top.symm]
      exact ⟨th, rfl, by rw [← I.top]; exact T⟩
    · have hlt : i < mem.length := by
        have := (List.getElem?_eq_some_iff.mp hi).1
        simp at this; lia
      rw [List.getElem?_append_left hlt] at hi
      rw [if_neg (by rw [I.top]; lia)]
      obtain ⟨th', h1, h2⟩ := I.tab i s' hi
      exact ⟨th', h1, h2.mono K⟩
  low0 := by
    show valueAt (stored σ.tab σ.top (.ref th)) 0 = none
    rw [stored_at, if_neg (by rw [I.top]; lia)]; exact I.low0
  itl := ⟨I.itl.1, by have := I.itl.2; simp; show σ.itv.length ≤ _; lia⟩
  itn s' := (I.itn s').imp id fun ⟨j, t, a, n, h1, h2, h3, h4⟩ => ⟨j, t, a, n, h1, h2, h3, by
    obtain ⟨h4, h5⟩ := h4.mono K
    refine ⟨h4, h5.imp id ?_⟩
    rintro ⟨i, s, e, hm, h⟩
    exact ⟨i, s, e, by rw [List.getElem?_append_left (List.getElem?_eq_some_iff.mp hm).1]; exact hm, h⟩⟩
theorem Tv.grow {mem : List Str} {a : Addr} {n : Nat} {os : Option Str} {s : Str} (T : Tv P mem news a n os) : Tv P (mem ++ [s]) news a n os := by
  obtain ⟨h4, h5⟩ := T
  refine ⟨h4, h5.imp id ?_⟩
  rintro ⟨i, s, e, hm, h⟩
  exact ⟨i, s, e, by rw [List.getElem?_append_left (List.getElem?_eq_some_iff.mp hm).1]; exact hm, h⟩
theorem Tv.le {mem : List Str} {a : Addr} {n : Nat} {os : Option Str} (T : Tv P mem news a n os) : n ≤ mem.length := by
  obtain ⟨-, ⟨h, -⟩ | ⟨i, s, e, hm, -⟩⟩ := T
  · lia
  · have := (List.getElem?_eq_some_iff.mp hm).1; lia
theorem Fact.grow {mem : List Str} {pool : Str → Option Nat} {s : Str} {f : Fact} (h : f.says P mem pool news) : f.says P (mem ++ [s]) pool news := by
  cases f with
  | tv a n os => exact Tv.grow h
  | ls a vs => exact h
  | tu a vs => exact h
  | pool s n => exact h
  | priv n => exact ⟨by have := h.1; simp; lia, h.2⟩
  | ent a o => exact h
def Sg.grown (σ : Sg) (x : Addr) : Sg := { σ with made := σ.made + 1, nth := σ.nth + 1, tab := stored σ.tab σ.top (.ref x), top := σ.top + 3, fresh := σ.fresh + 3 }
theorem Inv.pool_le {mem : List Str} {pool : Str → Option Nat} {s : Str} {n : Nat} (I : Inv P σ news mem pool) (h : pool s = some n) : n ≤ mem.length := by
  obtain ⟨h', -⟩ | ⟨j, t, a, n', h1, -, -, h4⟩ := I.itn s
  · rw [h'] at h; cases h
  · rw [h1] at h; cases h; exact h4.le
def Hs.grow_S (st : Mine.St) (Φ : List Fact) (mem : List Str) (pool : Str → Option Nat) (news' : Led) (th l : Addr) (s : Str) (t t' : Tok) : Prop := ∀ (I : Inv P σ news mem pool) (Tx : Txs P σ news mem st) (Fs : ∀ f ∈ Φ, f.says P mem pool news) (R : Rep w P X (σ.grown th) news') (K : Stay P news news') (T : Thing P news' th σ.top s) (J : Im P news' l (tupOf [.int 4 t, .int σ.top t'])), ∃ n, σ.top = ad n ∧ 0 < n ∧ (∀ a' n' os', Fact.tv a' n' os' ∈ Φ → n' < n) ∧ (∀ s n', Fact.pool s n' ∈ Φ → n' < n) ∧ Hs w P X ⟨st.T, st.th, st.b + 1, st.fc⟩ news' (.tv l n (some s) :: .priv n :: Φ)
theorem Hs.grow_r : ∀ r : ((((((((((((((World × Pl) × Led) × Led) × Sg) × Mine.St) × (List Fact)) × (List Str)) × (Str → Option Nat)) × Led) × Addr) × Addr) × Str) × Tok) × Tok), @Hs.grow_S r.1.1.1.1.1.1.1.1.1.1.1.1.1.1 r.1.1.1.1.1.1.1.1.1.1.1.1.1.2 r.1.1.1.1.1.1.1.1.1.1.1.1.2 r.1.1.1.1.1.1.1.1.1.1.1.2 r.1.1.1.1.1.1.1.1.1.1.2 r.1.1.1.1.1.1.1.1.1.2 r.1.1.1.1.1.1.1.1.2 r.1.1.1.1.1.1.1.2 r.1.1.1.1.1.1.2 r.1.1.1.1.1.2 r.1.1.1.1.2 r.1.1.1.2 r.1.1.2 r.1.2 r.2 := by
  refine ep_all (ne := by walk_at "NE") ((?_ : ∀ w P X news σ st Φ mem pool news' th l s t t', @Hs.grow_S w P X news σ st Φ mem pool news' th l s t t') _ _ _ _ _ _ _ _ _ _ _ _ _ _ _)
  intro w P X news σ st Φ mem pool news' th l s t t' I Tx Fs R K T J
  have e : σ.top = ad (mem.length + 1) := by rw [I.top, ad_succ]
  have I' : Inv P (σ.grown th) news' (mem ++ [s]) pool := I.grow K T
  refine ⟨mem.length + 1, e, Nat.succ_pos _, fun a' n' os' h => ?_, fun s n' h => ?_, σ.grown th, mem ++ [s], pool, R, I', ?_, ?_⟩
  · exact Nat.lt_succ_of_le (Tv.le (Fs _ h))
  · exact Nat.lt_succ_of_le (I.pool_le (Fs _ h))
  · exact ⟨by have := Tx.b; simp; lia, Tx.th, Tx.texts, fun x hx => ((Tx.tv x hx).mono K).grow, Tx.fl, fun i x h => let ⟨fa, t, t', a, b⟩ := Tx.facts i x h; ⟨fa, t, t', a, b.mono K⟩⟩
  · intro f hf
    rcases List.mem_cons.mp hf with rfl | hf
    · exact ⟨⟨t, t', by rw [← e]; exact J⟩, .inr ⟨mem.length, s, rfl, by simp, rfl⟩⟩
    rcases List.mem_cons.mp hf with rfl | hf
    · refine ⟨by simp, fun s' h => ?_⟩
      have := I.pool_le h; lia
    · exact Fact.grow (Fact.mono K (Fs f hf))
theorem Hs.grow {st : St} {Φ : List Fact} {mem : List Str} {pool : Str → Option Nat} {news' : Led} {th l : Addr} {s : Str} {t t' : Tok} (I : Inv P σ news mem pool) (Tx : Txs P σ news mem st) (Fs : ∀ f ∈ Φ, f.says P mem pool news)
    (R : Rep w P X (σ.grown th) news') (K : Stay P news news') (T : Thing P news' th σ.top s) (J : Im P news' l (tupOf [.int 4 t, .int σ.top t'])) :
    ∃ n, σ.top = ad n ∧ 0 < n ∧ (∀ a' n' os', Fact.tv a' n' os' ∈ Φ → n' < n) ∧ (∀ s n', Fact.pool s n' ∈ Φ → n' < n) ∧ Hs w P X ⟨st.T, st.th, st.b + 1, st.fc⟩ news' (.tv l n (some s) :: .priv n :: Φ) := Hs.grow_r ((((((((((((((w, P), X), news), σ), st), Φ), mem), pool), news'), th), l), s), t), t') I Tx Fs R K T J

end
end Mine
end B10_
section B11_
namespace Mine
section
variable {M : Model} {w : World} {A : Around} {E : Value → Shared → Prop} {hp : Heap} {gn : Array GenState} {dr : Drawn} {tk : Nat} {oS : OsState} {h₀ : Heap} {L : Addr} {m : Str → Option Value} {P : Pl} {X news led rest : Led} {σ : Sg} {st : St} {Φ : List Fact}
theorem itn_get_some {x : Str} {t : Tok} {v d : Value} {Q : Value → Shared → Prop} (N : News h₀ L hp (X ++ news)) (R : Rep w P X σ news) (hv : valueAt σ.itn x = some v) (h : Q v ⟨hp, gn, dr, tk + 1, oS⟩) :
    wpAny (model PR w) A (call (.builtin "dict.get") [.ref (P.adr .itn), .str x t, d]) Q E ⟨hp, gn, dr, tk, oS⟩ := itn_get N R (by rw [hv]; rfl) h
theorem itn_get_none {x : Str} {t : Tok} {d : Value} {Q : Value → Shared → Prop} (N : News h₀ L hp (X ++ news)) (R : Rep w P X σ news) (hv : valueAt σ.itn x = none) (h : Q d ⟨hp, gn, dr, tk + 1, oS⟩) :
    wpAny (model PR w) A (call (.builtin "dict.get") [.ref (P.adr .itn), .str x t, d]) Q E ⟨hp, gn, dr, tk, oS⟩ := itn_get N R (by rw [hv]; rfl) h
theorem itv_item {value slice : Expr} {j : Nat} {v : Value} {u : Tok} {Q : Value → Shared → Prop} (N : News h₀ L hp (X ++ news)) (R : Rep w P X σ news) (hj : σ.itv[j]? = some v) (hz : σ.itv.length ≤ 1000000) (h : Q v ⟨hp, gn, dr, tk, oS⟩)
    (hs : subscripted slice false (.ref (P.adr .itv)) (.int j u) = operate [.ref (P.adr .itv), .int j u] (getItem (.ref (P.adr .itv)) (.int j u))) : wpAny (model PR w) A (subscriptTail value slice (.ref (P.adr .itv)) (.int (j : Int) u)) Q E ⟨hp, gn, dr, tk, oS⟩ := by
  obtain ⟨o, ho, n, rfl⟩ := R.mu .itv
  have hl := led_isList N (List.mem_append_right X ho)
  obtain ⟨hlt, -⟩ := List.getElem?_eq_some_iff.mp hj
  exact tail_any hl.typeIs slot_list_getitem.lookup (wpAny_getItem_list hl (by lia) (by lia) (by simpa using hj) h) hs
theorem len_itv {Q : Value → Shared → Prop} (N : News h₀ L hp (X ++ news)) (R : Rep w P X σ news) (hz : σ.itv.length ≤ 1000000) (h : Q (.int (σ.itv.length : Nat) (tk + 1)) ⟨hp, gn, dr, tk + 1 + 1, oS⟩) :
    wpAny (model PR w) A (call (.builtin "len") [.ref (P.adr .itv)]) Q E ⟨hp, gn, dr, tk, oS⟩ := by
  obtain ⟨o, ho, n, rfl⟩ := R.mu .itv
  exact len_led N (List.mem_append_right X ho) (by simpa using hz) (by simpa using h)
theorem len_thrown {Q : Value → Shared → Prop} (N : News h₀ L hp (X ++ news)) (R : Rep w P X σ news) (hz : σ.thrown.length ≤ 1000000) (h : Q (.int (σ.thrown.length : Nat) (tk + 1)) ⟨hp, gn, dr, tk + 1 + 1, oS⟩) :
    wpAny (model PR w) A (call (.builtin "len") [.ref (P.adr .thrown)]) Q E ⟨hp, gn, dr, tk, oS⟩ := by
  obtain ⟨o, ho, n, rfl⟩ := R.mu .thrown
  exact len_led N (List.mem_append_right X ho) (by simpa using hz) (by simpa using h)
theorem Hs.found {mem : List Str} {pool : Str → Option Nat} {x : Str} {a : Addr} {n : Nat} (R : Rep w P X σ news) (I : Inv P σ news mem pool) (Tx : Txs P σ news mem st) (Fs : ∀ f ∈ Φ, f.says P mem pool news)
    (hp : pool x = some n) (ht : Tv P mem news a n (some x)) : Hs w P X ⟨st.T, st.th, st.b + 1, st.fc⟩ news (.tv a n (some x) :: .pool x n :: Φ) :=
  ⟨σ, mem, pool, R, I, ⟨Nat.le_succ_of_le Tx.b, Tx.th, Tx.texts, Tx.tv, Tx.fl, Tx.facts⟩, fun f hf => by
    rcases List.mem_cons.mp hf with rfl | hf
    · exact ht
    rcases List.mem_cons.mp hf with rfl | hf
    · exact hp
    · exact Fs f hf⟩
def Hs.intern_S (mem : List Str) (pool : Str → Option Nat) (news' : Led) (th l : Addr) (x : Str) (t t' u : Tok) : Prop := ∀ (I : Inv P σ news mem pool) (Tx : Txs P σ news mem st) (Fs : ∀ f ∈ Φ, f.says P mem pool news) (hp : pool x = none) (R : Rep w P X (((σ.grown th).pItn (stored (σ.grown th).itn x (.int (σ.itv.length : Nat) u))).pItv (((σ.grown th).pItn (stored (σ.grown th).itn x (.int (σ.itv.length : Nat) u))).itv ++ [.ref l])) news') (K : Stay P news news') (T : Thing P news' th σ.top x) (J : Im P news' l (tupOf [.int 4 t, .int σ.top t'])), ∃ n, Hs w P X ⟨st.T, st.th, st.b + 1, st.fc⟩ news' (.tv l n (some x) :: .pool x n :: Φ)
theorem Hs.intern_r : ∀ r : (((((((((((((((World × Pl) × Led) × Led) × Sg) × Mine.St) × (List Fact)) × (List Str)) × (Str → Option Nat)) × Led) × Addr) × Addr) × Str) × Tok) × Tok) × Tok), @Hs.intern_S r.1.1.1.1.1.1.1.1.1.1.1.1.1.1.1 r.1.1.1.1.1.1.1.1.1.1.1.1.1.1.2 r.1.1.1.1.1.1.1.1.1.1.1.1.1.2 r.1.1.1.1.1.1.1.1.1.1.1.1.2 r.1.1.1.1.1.1.1.1.1.1.1.2 r.1.1.1.1.1.1.1.1.1.1.2 r.1.1.1.1.1.1.1.1.1.2 r.1.1.1.1.1.1.1.1.2 r.1.1.1.1.1.1.1.2 r.1.1.1.1.1.1.2 r.1.1.1.1.1.2 r.1.1.1.1.2 r.1.1.1.2 r.1.1.2 r.1.2 r.2 := by
  refine ep_all (ne := by walk_at "NE") ((?_ : ∀ w P X news σ st Φ mem pool news' th l x t t' u, @Hs.intern_S w P X news σ st Φ mem pool news' th l x t t' u) _ _ _ _ _ _ _ _ _ _ _ _ _ _ _ _)
  intro w P X news σ st Φ mem pool news' th l x t t' u I Tx Fs hp R K T J
  have e : σ.top = ad (mem.length + 1) := by rw [I.top, ad_succ]
  have I' : Inv P (σ.grown th) news' (mem ++ [x]) pool := I.grow K T
  have tv : Tv P (mem ++ [x]) news' l (mem.length + 1) (some x) := ⟨⟨t, t', by rw [← e]; exact J⟩, .inr ⟨mem.length, x, rfl, by simp, rfl⟩⟩
  have hI : valueAt σ.itn x = none := by
    obtain ⟨-, h⟩ | ⟨j, t, a, n, h, -⟩ := I.itn x
    · exact h
    · rw [hp] at h; cases h
  refine ⟨mem.length + 1, _, mem ++ [x], (fun s => if s = x then some (mem.length + 1) else pool s), R, ?_, ?_, ?_⟩
  · refine ⟨I'.top, I'.fresh, I'.made, I'.nth, I'.len, I'.tab, I'.low0, ⟨?_, ?_⟩, fun s => ?_⟩
    · have := stored_length σ.itn x (.int (σ.itv.length : Nat) u)
      have := I.itl.1
      show (stored σ.itn x (Value.int (σ.itv.length : Nat) u)).length ≤ (σ.itv ++ [Value.ref l]).length
      simp; lia
    · have := I.itl.2
      show (σ.itv ++ [Value.ref l]).length ≤ (mem ++ [x]).length
      simp; lia
    · show _ ∧ valueAt (stored σ.itn x (.int (σ.itv.length : Nat) u)) s = none ∨ ∃ j t a n, _ ∧ valueAt (stored σ.itn x (.int (σ.itv.length : Nat) u)) s = some (.int ((j : Nat) : Int) t) ∧ (σ.itv ++ [Value.ref l])[j]? = _ ∧ _
      rw [stored_at]
      by_cases q : s = x
      · subst q
        rw [if_pos rfl, if_pos rfl]
        exact .inr ⟨σ.itv.length, u, l, mem.length + 1, rfl, rfl, by simp, tv⟩
      · rw [if_neg q, if_neg q]
        refine (I'.itn s).imp id ?_
        rintro ⟨j, t, a, n, h1, h2, h3, h4⟩
        refine ⟨j, t, a, n, h1, h2, ?_, h4⟩
        have h3 : σ.itv[j]? = some (.ref a) := h3
        rw [List.getElem?_append_left (List.getElem?_eq_some_iff.mp h3).1]; exact h3
  · exact ⟨by have := Tx.b; simp; lia, Tx.th, Tx.texts, fun x hx => ((Tx.tv x hx).mono K).grow, Tx.fl, fun i x h => let ⟨fa, t, t', a, b⟩ := Tx.facts i x h; ⟨fa, t, t', a, b.mono K⟩⟩
  · intro f hf
    rcases List.mem_cons.mp hf with rfl | hf
    · exact tv
    rcases List.mem_cons.mp hf with rfl | hf
    · exact if_pos rfl
    · have g := Fact.grow (s := x) (Fact.mono K (Fs f hf))
      have g0 := Fs f hf
      cases f with
      | pool s n =>
        show (if s = x then _ else _) = _
        rw [if_neg fun q => ?_]
        · exact g
        · subst q; have : pool s = some n := g0; rw [hp] at this; cases this
      | priv n =>
        refine ⟨g.1, fun s => ?_⟩
        show (if s = x then _ else _) ≠ _
        split
        · have := g0.1; intro q; cases q; lia
        · exact g.2 s
      | tv a n os => exact g
      | ls a vs => exact g
      | tu a vs => exact g
      | ent a o => exact g
theorem Hs.intern {mem : List Str} {pool : Str → Option Nat} {news' : Led} {th l : Addr} {x : Str} {t t' u : Tok} (I : Inv P σ news mem pool) (Tx : Txs P σ news mem st) (Fs : ∀ f ∈ Φ, f.says P mem pool news) (hp : pool x = none)
    (R : Rep w P X (((σ.grown th).pItn (stored (σ.grown th).itn x (.int (σ.itv.length : Nat) u))).pItv (((σ.grown th).pItn (stored (σ.grown th).itn x (.int (σ.itv.length : Nat) u))).itv ++ [.ref l])) news')
    (K : Stay P news news') (T : Thing P news' th σ.top x) (J : Im P news' l (tupOf [.int 4 t, .int σ.top t'])) :
    ∃ n, Hs w P X ⟨st.T, st.th, st.b + 1, st.fc⟩ news' (.tv l n (some x) :: .pool x n :: Φ) := Hs.intern_r (((((((((((((((w, P), X), news), σ), st), Φ), mem), pool), news'), th), l), x), t), t'), u) I Tx Fs hp R K T J

theorem Hs.pool_eq {s : Str} {n n' : Nat} (H : Hs w P X st news Φ) (h : Fact.pool s n ∈ Φ) (h' : Fact.pool s n' ∈ Φ) : n = n' := by
  obtain ⟨σ, mem, pool, R, I, T, F⟩ := H
  have a : pool s = some n := F _ h
  have b : pool s = some n' := F _ h'
  rw [a] at b; exact Option.some.inj b
theorem Hs.priv_ne {s : Str} {n n' : Nat} (H : Hs w P X st news Φ) (h : Fact.pool s n ∈ Φ) (h' : Fact.priv n' ∈ Φ) : n ≠ n' := by
  obtain ⟨σ, mem, pool, R, I, T, F⟩ := H
  have a : pool s = some n := F _ h
  have b := (F _ h').2 s
  intro e; subst e; exact b a
theorem Hs.tv_pos {a : Addr} {n : Nat} {s : Str} (H : Hs w P X st news Φ) (h : Fact.tv a n (some s) ∈ Φ) : 0 < n := by
  obtain ⟨σ, mem, pool, R, I, T, F⟩ := H
  obtain ⟨i, e, -⟩ := (F _ h : Tv P mem news a n (some s)).some
  lia
theorem Hs.tv_zero {a : Addr} {n : Nat} (H : Hs w P X st news Φ) (h : Fact.tv a n none ∈ Φ) : n = 0 := by
  obtain ⟨σ, mem, pool, R, I, T, F⟩ := H
  exact (F _ h : Tv P mem news a n none).none
theorem Hs.tv_eq {a a' : Addr} {n : Nat} {os os' : Option Str} (H : Hs w P X st news Φ) (h : Fact.tv a n os ∈ Φ) (h' : Fact.tv a' n os' ∈ Φ) : os = os' := by
  obtain ⟨σ, mem, pool, R, I, T, F⟩ := H
  obtain ⟨-, q⟩ : Tv P mem news a n os := F _ h
  obtain ⟨-, q'⟩ : Tv P mem news a' n os' := F _ h'
  rcases q with ⟨q, r⟩ | ⟨i, s, q, hm, r⟩ <;> rcases q' with ⟨q', r'⟩ | ⟨i', s', q', hm', r'⟩
  · rw [r, r']
  · lia
  · lia
  · obtain rfl : i = i' := by lia
    rw [hm] at hm'; cases hm'; rw [r, r']
end
end Mine
end B11_
section B12_
namespace Mine
def Bd (w : World) (P : Pl) (g : Heap) (L : Addr) (ns : List Str) (X' : Led) (Ent : List Fact) (gn : Array GenState) (dr : Drawn) (oS : OsState) (Iv : List (Option Value) → St → List Fact → Prop) (Qr : Flow → Shared → Prop) (f : Flow) (s' : Shared) : Prop :=
  match f with
  | .ret v => Qr (.ret v) s'
  | .brk => Qr .next s'
  | _ => ∃ h' tk' vals news st Φ, s' = ⟨h', gn, dr, tk', oS⟩ ∧ Fr g L h' (lc ns vals) ∧ News g L h' (X' ++ news) ∧ Hs w P X' st news (Ent ++ Φ) ∧ Iv vals st Φ
section
variable {w : World} {A : Around} {E : Value → Shared → Prop} {hp : Heap} {gn : Array GenState} {dr : Drawn} {tk : Nat} {oS : OsState} {g h₀ : Heap} {L a : Addr} {m : Str → Option Value} {P : Pl} {X news led rest : Led} {σ : Sg} {st : St} {Φ Ent : List Fact} {fname : Str} {scope : Scope} {cd : Value} {ns gs : List Str} {vals vals' : List (Option Value)}
theorem Bd.next {X' : Led} {Iv : List (Option Value) → St → List Fact → Prop} {Qr : Flow → Shared → Prop} {Φ' : List Fact} (Φ : List Fact) (F : Fr g L hp (lc ns vals)) (N : News g L hp (X' ++ news)) (H : Hs w P X' st news Φ') (hΦ : ∀ f ∈ Ent ++ Φ, f ∈ Φ') (hI : Iv vals st Φ) :
    Bd w P g L ns X' Ent gn dr oS Iv Qr .next ⟨hp, gn, dr, tk, oS⟩ := ⟨hp, tk, vals, news, st, Φ, rfl, F, N, H.sub hΦ, hI⟩
theorem Bd.ret {X' : Led} {Iv : List (Option Value) → St → List Fact → Prop} {Qr : Flow → Shared → Prop} {v : Value} {s' : Shared} (h : Qr (.ret v) s') : Bd w P g L ns X' Ent gn dr oS Iv Qr (.ret v) s' := h
theorem fr_put {x : Str} {v : Value} {h : Heap} (S : Fn scope ns gs) (F : Fr g L h (fun y => if y = x then some v else lc ns vals y)) (p : Put ns vals x v vals') : Fr g L h (lc ns vals') := by rw [p.lc S.nd]; exact F

def loop_core_S (x : Str) (body : List Stmt) (I : Addr) (fp : List Addr) (n : Nat) (Pv : Nat → Value → Prop) (St' : Nat → Heap → Prop) (Qf : Flow → Shared → Prop) (Iv : Nat → List (Option Value) → Mine.St → List Fact → Prop) : Prop := ∀ (W : Walks PR w A I fp [I] n Pv St') (hst : St' 0 hp) (hI : ∀ i h, St' i h → ∃ o, h.get? I = some o) (hLf : L ∉ fp) (hnew : g.get? I = none) (F : Fr g L hp (lc ns vals)) (N : News g L hp (X ++ news)) (H : Hs w P X st news (Ent ++ Φ)) (hoff : ∀ p ∈ X ++ news, p.1 ≠ I) (hent : ∀ b ∈ fp, b ≠ I → ∃ o, Fact.ent b o ∈ Ent ∨ (b, o) ∈ X) (h0 : Iv 0 vals st Φ) (turn : ∀ i v h' tk' X' vals st news Φ, i < n → Pv i v → Iv i vals st Φ → (∀ p ∈ X, p ∈ X') → Fr g L h' (fun y => if y = x then some v else lc ns vals y) → News g L h' (X' ++ news) → Hs w P X' st news (Ent ++ Φ) →
      wpAny (model PR w) A (execs body (envOf fname scope L a cd)) (Bd w P g L ns X' Ent gn dr oS (Iv (i + 1)) Qf) E ⟨h', gn, dr, tk', oS⟩) (done : ∀ h' tk' vals st news Φ, Iv n vals st Φ → Fr g L h' (lc ns vals) → News g L h' (X ++ news) → Hs w P X st news (Ent ++ Φ) → Qf .next ⟨h', gn, dr, tk', oS⟩), LoopAtV PR w A g (envOf fname scope L a cd) x body Qf E (.ref I) ⟨hp, gn, dr, tk, oS⟩
theorem loop_core_r : ∀ r : ((((((((((((((((((((((((((((((World × Around) × (Value → Shared → Prop)) × Heap) × (Array GenState)) × Drawn) × Nat) × OsState) × Heap) × Addr) × Addr) × Pl) × Led) × Led) × Mine.St) × (List Fact)) × (List Fact)) × Str) × Scope) × Value) × (List Str)) × (List (Option Value))) × Str) × (List Stmt)) × Addr) × (List Addr)) × Nat) × (Nat → Value → Prop)) × (Nat → Heap → Prop)) × (Flow → Shared → Prop)) × (Nat → List (Option Value) → Mine.St → List Fact → Prop)), @loop_core_S r.1.1.1.1.1.1.1.1.1.1.1.1.1.1.1.1.1.1.1.1.1.1.1.1.1.1.1.1.1.1 r.1.1.1.1.1.1.1.1.1.1.1.1.1.1.1.1.1.1.1.1.1.1.1.1.1.1.1.1.1.2 r.1.1.1.1.1.1.1.1.1.1.1.1.1.1.1.1.1.1.1.1.1.1.1.1.1.1.1.1.2 r.1.1.1.1.1.1.1.1.1.1.1.1.1.1.1.1.1.1.1.1.1.1.1.1.1.1.1.2 r.1.1.1.1.1.1.1.1.1.1.1.1.1.1.1.1.1.1.1.1.1.1.1.1.1.1.2 r.1.1.1.1.1.1.1.1.1.1.1.1.1.1.1.1.1.1.1.1.1.1.1.1.1.2 r.1.1.1.1.1.1.1.1.1.1.1.1.1.1.1.1.1.1.1.1.1.1.1.1.2 r.1.1.1.1.1.1.1.1.1.1.1.1.1.1.1.1.1.1.1.1.1.1.1.2 r.1.1.1.1.1.1.1.1.1.1.1.1.1.1.1.1.1.1.1.1.1.1.2 r.1.1.1.1.1.1.1.1.1.1.1.1.1.1.1.1.1.1.1.1.1.2 r.1.1.1.1.1.1.1.1.1.1.1.1.1.1.1.1.1.1.1.1.2 r.1.1.1.1.1.1.1.1.1.1.1.1.1.1.1.1.1.1.1.2 r.1.1.1.1.1.1.1.1.1.1.1.1.1.1.1.1.1.1.2 r.1.1.1.1.1.1.1.1.1.1.1.1.1.1.1.1.1.2 r.1.1.1.1.1.1.1.1.1.1.1.1.1.1.1.1.2 r.1.1.1.1.1.1.1.1.1.1.1.1.1.1.1.2 r.1.1.1.1.1.1.1.1.1.1.1.1.1.1.2 r.1.1.1.1.1.1.1.1.1.1.1.1.1.2 r.1.1.1.1.1.1.1.1.1.1.1.1.2 r.1.1.1.1.1.1.1.1.1.1.1.2 r.1.1.1.1.1.1.1.1.1.1.2 r.1.1.1.1.1.1.1.1.1.2 r.1.1.1.1.1.1.1.1.2 r.1.1.1.1.1.1.1.2 r.1.1.1.1.1.1.2 r.1.1.1.1.1.2 r.1.1.1.1.2 r.1.1.1.2 r.1.1.2 r.1.2 r.2 := by
  refine ep_all (ne := by walk_at "NE") ((?_ : ∀ w A E hp gn dr tk oS g L a P X news st Φ Ent fname scope cd ns vals x body I fp n Pv St' Qf Iv, @loop_core_S w A E hp gn dr tk oS g L a P X news st Φ Ent fname scope cd ns vals x body I fp n Pv St' Qf Iv) _ _ _ _ _ _ _ _ _ _ _ _ _ _ _ _ _ _ _ _ _ _ _ _ _ _ _ _ _ _ _)
  intro w A E hp gn dr tk oS g L a P X news st Φ Ent fname scope cd ns vals x body I fp n Pv St' Qf Iv W hst hI hLf hnew F N H hoff hent h0 turn done
  refine ⟨I, fp, [I], n, Pv, St', lc ns vals, X ++ news, (fun i m' led => ∃ vals news st Φ, m' = lc ns vals ∧ led = X ++ news ∧ Hs w P X st news (Ent ++ Φ) ∧ Iv i vals st Φ), rfl, W, hLf, ?_, ?_, hst, F, N, ⟨vals, news, st, Φ, rfl, rfl, H, h0⟩, ?_, ?_⟩
  · intro b hb; rw [List.mem_singleton.mp hb]; exact hnew
  · intro p hp hb; exact hoff p hp (List.mem_singleton.mp hb)
  · rintro i v m₁ news₁ s₁ own ⟨h1, tk1, rfl⟩ hin hP ⟨vals, news, st, Φ, rfl, rfl, H, hIv⟩ hoff1 hown hget hall hst1 F1 N1
    obtain ⟨oI, hoI⟩ := hI _ _ hst1
    have mI := hall I (W.sub _ (.head _)) hnew oI hoI
    let O := own.filter fun p => decide (p.1 = I)
    have mO : ∀ p, p ∈ O ↔ p ∈ own ∧ p.1 = I := fun p => by simp [O]
    have N2 : News g L h1 ((O ++ X) ++ news) := news_sub N1 fun p hp => by
      rcases List.mem_append.mp hp with hp | hp
      · rcases List.mem_append.mp hp with hp | hp
        · exact List.mem_append_left _ ((mO p).mp hp).1
        · exact List.mem_append_right _ (List.mem_append_left _ hp)
      · exact List.mem_append_right _ (List.mem_append_right _ hp)
    have H2 : Hs w P (O ++ X) st news (Ent ++ Φ) := H.frame fun p hp q hq => by
      rcases List.mem_append.mp hp with hp | hp
      · rw [((mO p).mp hp).2]
        exact fun e => hoff1 q (List.mem_append_right _ hq) (List.mem_singleton.mpr e.symm)
      · exact H.dj p hp q hq
    refine wpAny_mono (turn i v h1 tk1 (O ++ X) vals st news Φ hin hP hIv (fun p hp => List.mem_append_right _ hp) F1 N2 H2) (fun f s₂ hf => ?_) fun _ _ e => e
    have fin : (∃ h' tk' vals news st Φ, s₂ = ⟨h', gn, dr, tk', oS⟩ ∧ Fr g L h' (lc ns vals) ∧ News g L h' ((O ++ X) ++ news) ∧ Hs w P (O ++ X) st news (Ent ++ Φ) ∧ Iv (i + 1) vals st Φ) →
        LoopStepU g L [I] own (fun m' led => ∃ vals news st Φ, m' = lc ns vals ∧ led = X ++ news ∧ Hs w P X st news (Ent ++ Φ) ∧ Iv (i + 1) vals st Φ) ⟨h1, gn, dr, tk1, oS⟩ .next s₂ := by
      rintro ⟨h', tk', vals', news', st', Φ', rfl, F', N', H', hIv'⟩
      refine ⟨rfl, h', tk', lc ns vals', X ++ news', rfl, F', ?_, ?_, vals', news', st', Φ', rfl, rfl, H'.frame fun p hp q hq => H'.dj p (List.mem_append_right _ hp) q hq, hIv'⟩
      · intro p hp
        rcases List.mem_append.mp hp with hp | hp
        · by_cases e : p.1 = I
          · exact N' p (List.mem_append_left _ (List.mem_append_left _ ((mO p).mpr ⟨hp, e⟩)))
          · obtain ⟨o, ho⟩ := hent _ (hown p hp) e
            have key : ∀ q, q = (p.1, o) → News g L h1 (own ++ (X ++ news)) → q ∈ own ++ (X ++ news) → p = q := by
              rintro q rfl NN hq
              have : p.2 = o := news_fun NN (a := p.1) (List.mem_append_left _ hp) hq
              exact Prod.ext rfl this
            rcases ho with ho | ho
            · obtain ⟨_, _, h1⟩ := H.says (List.mem_append_left _ ho)
              obtain ⟨_, _, h2⟩ := H'.says (List.mem_append_left _ ho)
              rw [key _ rfl N1 (List.mem_append_right _ (List.mem_append_right _ h1.1))]
              exact N' _ (List.mem_append_right _ h2.1)
            · rw [key _ rfl N1 (List.mem_append_right _ (List.mem_append_left _ ho))]
              exact N' _ (List.mem_append_left _ (List.mem_append_right _ ho))
        · rcases List.mem_append.mp hp with hp | hp
          · exact N' p (List.mem_append_left _ (List.mem_append_right _ hp))
          · exact N' p (List.mem_append_right _ hp)
      · intro p hp hb
        have e := List.mem_singleton.mp hb
        rcases List.mem_append.mp hp with hp | hp
        · exact hoff1 p (List.mem_append_left _ hp) hb
        · exact H'.dj (I, oI) (List.mem_append_left _ ((mO _).mpr ⟨mI, rfl⟩)) p hp e.symm
    cases f with
    | ret v => exact .ret hf
    | brk => exact .brk hf
    | next => exact .next (fin hf)
    | cont => exact .cont (fin hf)
  · rintro h' tk' m' news' F' N' _ ⟨vals, news, st, Φ, rfl, rfl, H, hIv⟩
    exact done h' tk' vals st news Φ hIv F' N' H
theorem loop_core {x : Str} {body : List Stmt} {I : Addr} {fp : List Addr} {n : Nat} {Pv : Nat → Value → Prop} {St' : Nat → Heap → Prop} {Qf : Flow → Shared → Prop}
    (W : Walks PR w A I fp [I] n Pv St') (hst : St' 0 hp) (hI : ∀ i h, St' i h → ∃ o, h.get? I = some o) (hLf : L ∉ fp) (hnew : g.get? I = none)
    (F : Fr g L hp (lc ns vals)) (N : News g L hp (X ++ news)) (H : Hs w P X st news (Ent ++ Φ)) (hoff : ∀ p ∈ X ++ news, p.1 ≠ I) (hent : ∀ b ∈ fp, b ≠ I → ∃ o, Fact.ent b o ∈ Ent ∨ (b, o) ∈ X)
    (Iv : Nat → List (Option Value) → St → List Fact → Prop) (h0 : Iv 0 vals st Φ)
    (turn : ∀ i v h' tk' X' vals st news Φ, i < n → Pv i v → Iv i vals st Φ → (∀ p ∈ X, p ∈ X') → Fr g L h' (fun y => if y = x then some v else lc ns vals y) → News g L h' (X' ++ news) → Hs w P X' st news (Ent ++ Φ) →
      wpAny (model PR w) A (execs body (envOf fname scope L a cd)) (Bd w P g L ns X' Ent gn dr oS (Iv (i + 1)) Qf) E ⟨h', gn, dr, tk', oS⟩)
    (done : ∀ h' tk' vals st news Φ, Iv n vals st Φ → Fr g L h' (lc ns vals) → News g L h' (X ++ news) → Hs w P X st news (Ent ++ Φ) → Qf .next ⟨h', gn, dr, tk', oS⟩) :
    LoopAtV PR w A g (envOf fname scope L a cd) x body Qf E (.ref I) ⟨hp, gn, dr, tk, oS⟩ := loop_core_r ((((((((((((((((((((((((((((((w, A), E), hp), gn), dr), tk), oS), g), L), a), P), X), news), st), Φ), Ent), fname), scope), cd), ns), vals), x), body), I), fp), n), Pv), St'), Qf), Iv) W hst hI hLf hnew F N H hoff hent h0 turn done

def ForIt (w : World) (A : Around) (g : Heap) (env : Env) (x : Str) (body : List Stmt) (Q : Flow → Shared → Prop) (E : Value → Shared → Prop) (xv : Value) (s : Shared) : Prop :=
  wpAny (model PR w) A (pyIter xv) (fun it s₂ => LoopAtV PR w A g env x body Q E it s₂) E s
theorem x_for {x : Str} {px pos : Pos} {iter : Expr} {body rest : List Stmt} {s : Shared} {Q : Flow → Shared → Prop} (S : Fn scope ns gs) (F : Fr g L s.heap m) (hx : x ∈ ns)
    (h : wpAny (model PR w) A (eval iter (envOf fname scope L a cd)) (fun xv s₁ => ForIt w A g (envOf fname scope L a cd) x body (Thn (model PR w) A (envOf fname scope L a cd) rest Q (fun _ _ => False)) (fun _ _ => False) xv s₁) (fun _ _ => False) s)
    (hs : ∀ x, foldedSetIterable iter (envOf fname scope L a cd) x = pure x) : wpAny (model PR w) A (execs (.For (.Name x px) iter body [] pos :: rest) (envOf fname scope L a cd)) Q (fun _ _ => False) s := by
  refine x_cons (For_invV g (S.loc x hx) ?_ h hs)
  show (scope.kind == .class || (scope.kind == .module && _)) = false
  rw [S.kind]; rfl

def rangeOb (a b : Int) (t u v : Tok) : Obj := { cls := .type "range", dict := none, data := .fields #[.int a t, .int b u, .int 1 v], slots := #[] }
theorem push_H {o : Obj} (ho : o.isFreed = false) (F : Fr h₀ L hp m) (N : News h₀ L hp (X ++ news)) (H : Hs w P X st news Φ) : Fr h₀ L (hp.push o) m ∧ News h₀ L (hp.push o) (X ++ ((hp.objs.size, o) :: news)) ∧ Hs w P X st ((hp.objs.size, o) :: news) (.ent hp.objs.size o :: Φ) := by
  refine ⟨F.push _, past_X fun p hp' => ?_, H.fact (off_X N (Nat.le_refl _)) fun _ _ => ⟨.head _, H.freshAt N (Nat.le_refl _)⟩⟩
  rcases List.mem_cons.mp hp' with rfl | hp'
  · exact ⟨Heap.get?_push_size _ ho, fun e => absurd F.ns.lt (e ▸ Nat.lt_irrefl _), next_is_new F⟩
  · exact ⟨Heap.get?_push_of_some _ (N p hp').1, (N p hp').2⟩
theorem range1_H {n : Int} {t : Tok} {Q : Value → Shared → Prop} (F : Fr h₀ L hp m) (N : News h₀ L hp (X ++ news)) (H : Hs w P X st news Φ)
    (h : ∀ r t u v news' h' tk', Fr h₀ L h' m → News h₀ L h' (X ++ news') → Hs w P X st news' (.ent r (rangeOb 0 n t u v) :: Φ) → Q (.ref r) ⟨h', gn, dr, tk', oS⟩) :
    wpAny (model PR w) A (call (.type "range") [.int n t]) Q E ⟨hp, gn, dr, tk, oS⟩ := by
  refine call_range_1 ?_
  obtain ⟨a, b, c⟩ := push_H (o := rangeOb 0 n tk t (tk + 1)) (by with_unfolding_all rfl) F N H
  exact h _ _ _ _ _ _ _ a b c
theorem range2_H {n k : Int} {t u : Tok} {Q : Value → Shared → Prop} (F : Fr h₀ L hp m) (N : News h₀ L hp (X ++ news)) (H : Hs w P X st news Φ)
    (h : ∀ r t u v news' h' tk', Fr h₀ L h' m → News h₀ L h' (X ++ news') → Hs w P X st news' (.ent r (rangeOb k n t u v) :: Φ) → Q (.ref r) ⟨h', gn, dr, tk', oS⟩) :
    wpAny (model PR w) A (call (.type "range") [.int k u, .int n t]) Q E ⟨hp, gn, dr, tk, oS⟩ := by
  refine call_range_2 ?_
  obtain ⟨a, b, c⟩ := push_H (o := rangeOb k n u t tk) (by with_unfolding_all rfl) F N H
  exact h _ _ _ _ _ _ _ a b c
end
end Mine
end B12_
section B13_
namespace Mine
section
variable {w : World} {A : Around} {E : Value → Shared → Prop} {hp : Heap} {gn : Array GenState} {dr : Drawn} {tk : Nat} {oS : OsState} {g h₀ : Heap} {L a : Addr} {m : Str → Option Value} {P : Pl} {X news led rest : Led} {σ : Sg} {st : St} {Φ Ent : List Fact} {fname : Str} {scope : Scope} {cd : Value} {ns gs : List Str} {vals vals' : List (Option Value)}
variable {x : Str} {body : List Stmt} {Qf : Flow → Shared → Prop}
theorem iterFrame {o : Obj} (ho : o.isFreed = false) (F : Fr g L hp (lc ns vals)) (N : News g L hp (X ++ news)) :
    Fr g L (hp.push o) (lc ns vals) ∧ News g L (hp.push o) (X ++ news) ∧ g.get? hp.objs.size = none ∧ (∀ p ∈ X ++ news, p.1 ≠ hp.objs.size) ∧ L ≠ hp.objs.size :=
  ⟨F.push _, (fun p hp' => ⟨Heap.get?_push_of_some _ (N p hp').1, (N p hp').2⟩), next_is_new F, (fun p hp' e => by
    have := Heap.lt_size (N p hp').1
    rw [e] at this; exact Nat.lt_irrefl _ this), fun e => absurd F.ns.lt (e ▸ Nat.lt_irrefl _)⟩
theorem for_range {r : Addr} {b e : Int} {t u v : Tok} (n : Nat) (hh : A.handled = none) (F : Fr g L hp (lc ns vals)) (N : News g L hp (X ++ news)) (H : Hs w P X st news Φ) (hr : Fact.ent r (rangeOb b e t u v) ∈ Φ)
    (hb : -1000000000000 ≤ b ∧ b ≤ 1000000000000) (he : -1000000000000 ≤ e ∧ e ≤ 1000000000000) (hn : n = (e - b).toNat)
    (Iv : Nat → List (Option Value) → St → List Fact → Prop) (h0 : Iv 0 vals st Φ)
    (turn : ∀ i t h' tk' X' vals st news Φ, i < n → Iv i vals st Φ → (∀ p ∈ X, p ∈ X') → Fr g L h' (fun y => if y = x then some (.int (b + (i : Int)) t) else lc ns vals y) → News g L h' (X' ++ news) → Hs w P X' st news Φ →
      wpAny (model PR w) A (execs body (envOf fname scope L a cd)) (Bd w P g L ns X' [] gn dr oS (Iv (i + 1)) Qf) E ⟨h', gn, dr, tk', oS⟩)
    (done : ∀ h' tk' vals st news Φ, Iv n vals st Φ → Fr g L h' (lc ns vals) → News g L h' (X ++ news) → Hs w P X st news Φ → Qf .next ⟨h', gn, dr, tk', oS⟩) :
    ForIt w A g (envOf fname scope L a cd) x body Qf E (.ref r) ⟨hp, gn, dr, tk, oS⟩ := by
  obtain ⟨mem, pool, hI⟩ := H.says hr
  have hR : IsRange hp r b e 1 t u v := (N _ (List.mem_append_right _ hI.1)).1
  refine wpAny_pyIter_range hR (small_one (by lia) (by lia) (by lia) (by lia)) ?_
  have hsz : Builtin.Range.rangeSize b e 1 = (n : Int) := by rw [rangeSize_one]; split <;> lia
  obtain ⟨F1, N1, hnew, hoff, hL⟩ := iterFrame (o := { cls := .type "range_iterator", data := .fields #[rawInt b, rawInt (Builtin.Range.rangeSize b e 1), rawInt 1] }) (by with_unfolding_all rfl) F N
  refine loop_core (Ent := []) (Walks.range hh _ b 1 n) (by show IsRangeIter _ _ _ _ _; rw [hsz]; simpa using Heap.get?_push_size _ rfl) (fun i h st => ⟨_, st⟩) ?_ hnew F1 N1 H hoff ?_ Iv h0 ?_ done
  · intro hm; exact hL (List.mem_singleton.mp hm)
  · intro b hb q; exact absurd (List.mem_singleton.mp hb) q
  · rintro i v h' tk' X' vals st news Φ hi ⟨t, rfl⟩ hIv hX F' N' H'
    have e1 : b + (i : Int) * 1 = b + (i : Int) := by lia
    rw [e1] at F'
    exact turn i t h' tk' X' vals st news Φ hi hIv hX F' N' H'
theorem for_str {s : Str} {t : Tok} (hh : A.handled = none) (F : Fr g L hp (lc ns vals)) (N : News g L hp (X ++ news)) (H : Hs w P X st news Φ)
    (Iv : Nat → List (Option Value) → St → List Fact → Prop) (h0 : Iv 0 vals st Φ)
    (turn : ∀ i c t h' tk' X' vals st news Φ, i < s.cps.size → s.cps[i]? = some c → Iv i vals st Φ → (∀ p ∈ X, p ∈ X') → Fr g L h' (fun y => if y = x then some (.str ⟨#[c]⟩ t) else lc ns vals y) → News g L h' (X' ++ news) → Hs w P X' st news Φ →
      wpAny (model PR w) A (execs body (envOf fname scope L a cd)) (Bd w P g L ns X' [] gn dr oS (Iv (i + 1)) Qf) E ⟨h', gn, dr, tk', oS⟩)
    (done : ∀ h' tk' vals st news Φ, Iv s.cps.size vals st Φ → Fr g L h' (lc ns vals) → News g L h' (X ++ news) → Hs w P X st news Φ → Qf .next ⟨h', gn, dr, tk', oS⟩) :
    ForIt w A g (envOf fname scope L a cd) x body Qf E (.str s t) ⟨hp, gn, dr, tk, oS⟩ := by
  have step : ∀ i v h' tk' X' vals st news Φ, i < s.cps.size → SignAt s i v → Iv i vals st Φ → (∀ p ∈ X, p ∈ X') → Fr g L h' (fun y => if y = x then some v else lc ns vals y) → News g L h' (X' ++ news) → Hs w P X' st news ([] ++ Φ) →
      wpAny (model PR w) A (execs body (envOf fname scope L a cd)) (Bd w P g L ns X' [] gn dr oS (Iv (i + 1)) Qf) E ⟨h', gn, dr, tk', oS⟩ := by
    rintro i v h' tk' X' vals st news Φ hi ⟨c, u, hc, rfl⟩ hIv hX F' N' H'
    exact turn i c u h' tk' X' vals st news Φ hi hc hIv hX F' N' H'
  have one : ∀ b, b ∈ [hp.objs.size] → b ≠ hp.objs.size → ∃ o, Fact.ent b o ∈ ([] : List Fact) ∨ (b, o) ∈ X := fun b hb q => absurd (List.mem_singleton.mp hb) q
  cases ha : s.cps.all (· < 128)
  · refine wpAny_pyIter_wide ha ?_
    obtain ⟨F1, N1, hnew, hoff, hL⟩ := iterFrame (o := { cls := .type "str_iterator", data := .fields #[.str s t, .int 0 0] }) (by with_unfolding_all rfl) F N
    exact loop_core (Ent := []) (Walks.strWide hh _ s t) ⟨_, Heap.get?_push_size _ rfl, rfl, rfl⟩ (fun i h st => let ⟨o, ho, _⟩ := st; ⟨o, ho⟩) (fun hm => hL (List.mem_singleton.mp hm)) hnew F1 N1 H hoff one Iv h0 step done
  · refine wpAny_pyIter_ascii ha ?_
    obtain ⟨F1, N1, hnew, hoff, hL⟩ := iterFrame (o := { cls := .type "str_ascii_iterator", data := .fields #[.str s t, .int 0 0] }) (by with_unfolding_all rfl) F N
    exact loop_core (Ent := []) (Walks.strAscii hh _ s t) ⟨_, Heap.get?_push_size _ rfl, rfl, rfl⟩ (fun i h st => let ⟨o, ho, _⟩ := st; ⟨o, ho⟩) (fun hm => hL (List.mem_singleton.mp hm)) hnew F1 N1 H hoff one Iv h0 step done
theorem Hs.add {f : Fact} (H : Hs w P X st news Φ) (hf : ∀ mem pool, (∀ f ∈ Φ, f.says P mem pool news) → f.says P mem pool news) : Hs w P X st news (f :: Φ) :=
  let ⟨σ, mem, pool, R, I, T, Fc⟩ := H
  ⟨σ, mem, pool, R, I, T, fun g hg => by
    rcases List.mem_cons.mp hg with rfl | hg
    · exact hf mem pool Fc
    · exact Fc g hg⟩
theorem for_tup {l : Addr} {vs : List Value} (hh : A.handled = none) (F : Fr g L hp (lc ns vals)) (N : News g L hp (X ++ news)) (H : Hs w P X st news Φ) (hl : Fact.tu l vs ∈ Φ)
    (Iv : Nat → List (Option Value) → St → List Fact → Prop) (h0 : Iv 0 vals st Φ)
    (turn : ∀ i v h' tk' X' vals st news Φ, i < vs.length → vs[i]? = some v → Iv i vals st Φ → (∀ p ∈ X, p ∈ X') → Fr g L h' (fun y => if y = x then some v else lc ns vals y) → News g L h' (X' ++ news) → Hs w P X' st news (.ent l (tupOf vs) :: Φ) →
      wpAny (model PR w) A (execs body (envOf fname scope L a cd)) (Bd w P g L ns X' [.ent l (tupOf vs)] gn dr oS (Iv (i + 1)) Qf) E ⟨h', gn, dr, tk', oS⟩)
    (done : ∀ h' tk' vals st news Φ, Iv vs.length vals st Φ → Fr g L h' (lc ns vals) → News g L h' (X ++ news) → Hs w P X st news (.ent l (tupOf vs) :: Φ) → Qf .next ⟨h', gn, dr, tk', oS⟩) :
    ForIt w A g (envOf fname scope L a cd) x body Qf E (.ref l) ⟨hp, gn, dr, tk, oS⟩ := by
  obtain ⟨mem, pool, hI⟩ := H.says hl
  have ht : hp.IsTuple l vs.toArray := ⟨_, (N _ (List.mem_append_right _ hI.1)).1, rfl, 0, rfl⟩
  refine wpAny_pyIter_tuple ht ?_
  obtain ⟨F1, N1, hnew, hoff, hL⟩ := iterFrame (o := { cls := .type "tuple_iterator", data := .fields #[.ref l, .int 0 0] }) (by with_unfolding_all rfl) F N
  have hne : l ≠ hp.objs.size := hoff _ (List.mem_append_right _ hI.1)
  have H1 : Hs w P X st news ([.ent l (tupOf vs)] ++ Φ) := H.add fun mem pool Fc => (Fc _ hl : Im P news l (tupOf vs))
  have hLl : L ≠ l := fun e => absurd (N _ (List.mem_append_right _ hI.1)).2.1 (by simp [e])
  have W := Walks.tuple (prog := PR) (w := w) hh hp.objs.size l hne vs.toArray
  rw [show vs.toArray.size = vs.length by simp] at W
  refine loop_core (Ent := [.ent l (tupOf vs)]) (n := vs.length) W ⟨⟨_, Heap.get?_push_size _ rfl, rfl, rfl⟩, ht.push _⟩ (fun i h st => let ⟨o, ho, _⟩ := st.1; ⟨o, ho⟩) ?_ hnew F1 N1 H1 hoff ?_ Iv h0 ?_ done
  · intro hm
    simp only [List.mem_cons, List.not_mem_nil, or_false] at hm
    rcases hm with e | e
    · exact hL e
    · exact hLl e
  · intro b hb q
    simp only [List.mem_cons, List.not_mem_nil, or_false] at hb
    rcases hb with e | e
    · exact absurd e q
    · subst e; exact ⟨_, .inl (.head _)⟩
  · rintro i v h' tk' X' vals st news Φ hi hv hIv hX F' N' H'
    exact turn i v h' tk' X' vals st news Φ hi (by simpa using hv) hIv hX F' N' H'
theorem for_lst {l : Addr} {vs : List Value} {k : Nat} (Ent : List Fact) (hh : A.handled = none) (F : Fr g L hp (lc ns vals)) (N : News g L hp (X ++ news)) (H : Hs w P X st news (Ent ++ Φ)) (hl : Fact.ent l (listOf vs.toArray k) ∈ Ent ∨ (l, listOf vs.toArray k) ∈ X)
    (Iv : Nat → List (Option Value) → St → List Fact → Prop) (h0 : Iv 0 vals st Φ)
    (turn : ∀ i v h' tk' X' vals st news Φ, i < vs.length → vs[i]? = some v → Iv i vals st Φ → (∀ p ∈ X, p ∈ X') → Fr g L h' (fun y => if y = x then some v else lc ns vals y) → News g L h' (X' ++ news) → Hs w P X' st news (Ent ++ Φ) →
      wpAny (model PR w) A (execs body (envOf fname scope L a cd)) (Bd w P g L ns X' Ent gn dr oS (Iv (i + 1)) Qf) E ⟨h', gn, dr, tk', oS⟩)
    (done : ∀ h' tk' vals st news Φ, Iv vs.length vals st Φ → Fr g L h' (lc ns vals) → News g L h' (X ++ news) → Hs w P X st news (Ent ++ Φ) → Qf .next ⟨h', gn, dr, tk', oS⟩) :
    ForIt w A g (envOf fname scope L a cd) x body Qf E (.ref l) ⟨hp, gn, dr, tk, oS⟩ := by
  have hm : (l, listOf vs.toArray k) ∈ X ++ news := by
    rcases hl with hl | hl
    · obtain ⟨mem, pool, hI⟩ := H.says (List.mem_append_left _ hl)
      exact List.mem_append_right _ hI.1
    · exact List.mem_append_left _ hl
  have ht : hp.IsList l vs.toArray := ⟨_, (N _ hm).1, rfl, k, rfl⟩
  refine wpAny_pyIter_list ht ?_
  obtain ⟨F1, N1, hnew, hoff, hL⟩ := iterFrame (o := { cls := .type "list_iterator", data := .fields #[.ref l, .int 0 0] }) (by with_unfolding_all rfl) F N
  have hne : l ≠ hp.objs.size := hoff _ hm
  have hLl : L ≠ l := fun e => absurd (N _ hm).2.1 (by simp [e])
  have W := Walks.list (prog := PR) (w := w) hh hp.objs.size l hne vs.toArray
  rw [show vs.toArray.size = vs.length by simp] at W
  refine loop_core (Ent := Ent) (n := vs.length) W ⟨⟨_, Heap.get?_push_size _ rfl, rfl, rfl⟩, ht.push _⟩ (fun i h st => let ⟨o, ho, _⟩ := st.1; ⟨o, ho⟩) ?_ hnew F1 N1 H hoff ?_ Iv h0 ?_ done
  · intro hm
    simp only [List.mem_cons, List.not_mem_nil, or_false] at hm
    rcases hm with e | e
    · exact hL e
    · exact hLl e
  · intro b hb q
    simp only [List.mem_cons, List.not_mem_nil, or_false] at hb
    rcases hb with e | e
    · exact absurd e q
    · subst e; exact ⟨_, hl⟩
  · rintro i v h' tk' X' vals st news Φ hi hv hIv hX F' N' H'
    exact turn i v h' tk' X' vals st news Φ hi (by simpa using hv) hIv hX F' N' H'
end
end Mine
end B13_
section B14_
namespace Mine
theorem size_le {n : Nat} (h : n ≤ 1000000) : n ≤ sizeLine := by rw [sizeLine_eq]; lia
theorem strlen (x : Str) : x.length = x.cps.toList.length := by simp [Str.length]
theorem str_ext {x y : Str} (h : x.cps.toList = y.cps.toList) : x = y := by
  cases x; cases y; simp at h; rw [h]
theorem app_list (x y : Str) : (x ++ y).cps.toList = x.cps.toList ++ y.cps.toList := by show (x.cps ++ y.cps).toList = _; simp
theorem app_len (x y : Str) : (x ++ y).length = x.length + y.length := by rw [strlen, app_list]; simp [strlen]
def cut (x : Str) (i n : Nat) : Str := ⟨((x.cps.toList.drop i).take n).toArray⟩
theorem cut_list (x : Str) (i n : Nat) : (cut x i n).cps.toList = (x.cps.toList.drop i).take n := by simp [cut]
section
variable {M : Model} {w : World} {A : Around} {E : Value → Shared → Prop} {hp : Heap} {gn : Array GenState} {dr : Drawn} {tk : Nat} {oS : OsState} {g h₀ : Heap} {L : Addr} {m : Str → Option Value} {P : Pl} {X news led rest : Led} {σ : Sg} {st : St} {Φ Ent : List Fact} {env : Env}
theorem o_and {a b : Int} {t u : Tok} {Q : Value → Shared → Prop} (h : Q (.int (Builtin.bitAnd a b) tk) ⟨hp, gn, dr, tk + 1, oS⟩) : wpAny (model PR w) A (binaryOp .BitAnd (.int a t) (.int b u)) Q E ⟨hp, gn, dr, tk, oS⟩ := and_int h
theorem o_shl {a b : Int} {t u : Tok} {Q : Value → Shared → Prop} (hb : 0 ≤ b ∧ b ≤ 1000) (ha : a.natAbs < 2 ^ 64) (h : Q (.int (a * 2 ^ b.toNat) tk) ⟨hp, gn, dr, tk + 1, oS⟩) : wpAny (model PR w) A (binaryOp .LShift (.int a t) (.int b u)) Q E ⟨hp, gn, dr, tk, oS⟩ := lshift_int_small hb.1 (by lia) ha h
theorem o_shr {a b : Int} {t u : Tok} {Q : Value → Shared → Prop} (hb : 0 ≤ b) (h : Q (.int (a.fdiv (2 ^ b.toNat)) tk) ⟨hp, gn, dr, tk + 1, oS⟩) : wpAny (model PR w) A (binaryOp .RShift (.int a t) (.int b u)) Q E ⟨hp, gn, dr, tk, oS⟩ := rshift_int hb h
theorem o_fdiv {a b : Int} {t u : Tok} {Q : Value → Shared → Prop} (hb : 0 < b) (hs : b < 1073741824) (h : Q (.int (a / b) tk) ⟨hp, gn, dr, tk + 1, oS⟩) : wpAny (model PR w) A (binaryOp .FloorDiv (.int a t) (.int b u)) Q E ⟨hp, gn, dr, tk, oS⟩ :=
  floordiv_int (by lia) (by rw [Int.fdiv_eq_ediv_of_nonneg _ (by lia)]; exact h) (.inl (PyProof.noPylong_small (by lia)))
theorem o_emod {a b : Int} {t u : Tok} {Q : Value → Shared → Prop} (hb : 0 < b) (h : Q (.int (a % b) tk) ⟨hp, gn, dr, tk + 1, oS⟩) : wpAny (model PR w) A (binaryOp .Mod (.int a t) (.int b u)) Q E ⟨hp, gn, dr, tk, oS⟩ :=
  o_mod (by lia) (by rw [Int.fmod_eq_emod_of_nonneg _ (by lia)]; exact h)
theorem o_mulS {a b : Int} {t u : Tok} {Q : Value → Shared → Prop} (hb : -1000000 ≤ b ∧ b ≤ 1000000) (h : Q (.int (a * b) tk) ⟨hp, gn, dr, tk + 1, oS⟩) : wpAny (model PR w) A (binaryOp .Mult (.int a t) (.int b u)) Q E ⟨hp, gn, dr, tk, oS⟩ :=
  o_mul (.of_right (intBits_le_64 (by lia) (by lia))) h
theorem o_adds {x y : Str} {t u : Tok} {Q : Value → Shared → Prop} (hz : x.length + y.length ≤ 1000000) (h : ∀ t tk', Q (.str (x ++ y) t) ⟨hp, gn, dr, tk', oS⟩) : wpAny (model PR w) A (binaryOp .Add (.str x t) (.str y u)) Q E ⟨hp, gn, dr, tk, oS⟩ := by
  refine P.add_str ?_
  by_cases h1 : (x.length == 0) = true
  · rw [if_pos h1]
    have : x ++ y = y := str_ext (by rw [app_list]; have := eq_of_beq h1; rw [strlen] at this; rw [List.length_eq_zero_iff.mp this]; rfl)
    rw [this] at h; exact h u tk
  · rw [if_neg h1]
    by_cases h2 : (y.length == 0) = true
    · rw [if_pos h2]
      have : x ++ y = x := str_ext (by rw [app_list]; have := eq_of_beq h2; rw [strlen] at this; rw [List.length_eq_zero_iff.mp this]; simp)
      rw [this] at h; exact h t tk
    · rw [if_neg h2]
      exact ⟨size_le (by rw [app_len]; exact hz), h _ _⟩
theorem c_eqs {x y : Str} {t u : Tok} {Q : Value → Shared → Prop} (h : Q (.bool (decide (x = y))) ⟨hp, gn, dr, tk, oS⟩) : wpAny (model PR w) A (compareOp .Eq (.str x t) (.str y u)) Q E ⟨hp, gn, dr, tk, oS⟩ := P.eq_str (by
  have e : (x.cps.toList == y.cps.toList) = decide (x = y) := by
    by_cases e : x = y
    · subst e; simp
    · rw [decide_eq_false e]; exact beq_eq_false_iff_ne.mpr fun z => e (str_ext z)
  rw [e]; exact h)
theorem c_lts {x y : Str} {t u : Tok} {Q : Value → Shared → Prop} (h : Q (.bool (decide (x.cps.toList < y.cps.toList))) ⟨hp, gn, dr, tk, oS⟩) : wpAny (model PR w) A (compareOp .Lt (.str x t) (.str y u)) Q E ⟨hp, gn, dr, tk, oS⟩ := P.lt_str h
theorem c_gts {x y : Str} {t u : Tok} {Q : Value → Shared → Prop} (h : Q (.bool (decide (y.cps.toList < x.cps.toList))) ⟨hp, gn, dr, tk, oS⟩) : wpAny (model PR w) A (compareOp .Gt (.str x t) (.str y u)) Q E ⟨hp, gn, dr, tk, oS⟩ := P.gt_str h
theorem s_len {x : Str} {t : Tok} {Q : Value → Shared → Prop} (hz : x.length ≤ 1000000) (h : Q (.int (x.length : Nat) (tk + 1)) ⟨hp, gn, dr, tk + 1 + 1, oS⟩) : wpAny (model PR w) A (call (.builtin "len") [.str x t]) Q E ⟨hp, gn, dr, tk, oS⟩ := P.len_str (by lia) h
theorem s_item {value slice : Expr} {x : Str} {i : Int} {t u : Tok} {Q : Value → Shared → Prop} (h0 : 0 ≤ i) (h1 : i < x.length) (hz : x.length ≤ 1000000) (h : Q (.str ⟨#[x.cps.toList.getD i.toNat 0]⟩ tk) ⟨hp, gn, dr, tk + 1, oS⟩)
    (hs : subscripted slice false (.str x t) (.int i u) = operate [.str x t, .int i u] (getItem (.str x t) (.int i u)))
    (ht : ∀ r, letTemporaryGo value (.str x t) r = pure ()) : wpAny (model PR w) A (subscriptTail value slice (.str x t) (.int i u)) Q E ⟨hp, gn, dr, tk, oS⟩ :=
  item_str (by unfold fitsSsize; simp; lia) (by lia) h1 (fun _ => by
    have : Txt.item x i = ⟨#[x.cps.toList.getD i.toNat 0]⟩ := by
      unfold Txt.item Txt.charAt
      have e : seqIndex? i x.length = some i.toNat := by unfold seqIndex?; simp; lia
      rw [e]; simp [List.getD_eq_getElem?_getD]
    rw [this]; exact h) hs ht
theorem s_cut {value slice : Expr} {x : Str} {i j : Int} {t u v : Tok} {Q : Value → Shared → Prop} (F : Fr h₀ L hp m) (N : News h₀ L hp led) (h0 : 0 ≤ i) (h1 : i ≤ j) (h2 : j ≤ x.length) (hz : x.length ≤ 1000000)
    (h : ∀ h' t' tk', Fr h₀ L h' m → News h₀ L h' led → Q (.str (cut x i.toNat (j - i).toNat) t') ⟨h', gn, dr, tk', oS⟩)
    (hs : subscripted slice false (.str x t) (.ref hp.objs.size) = operate [.ref hp.objs.size, .str x t] (getItem (.str x t) (.ref hp.objs.size)))
    (ht : ∀ r, letTemporaryGo value (.str x t) r = pure ()) :
    wpAny (model PR w) A (subscriptTail value slice (.str x t) (.ref hp.objs.size)) Q E ⟨hp.push { cls := .type "slice", data := .fields #[.int i u, .int j v, .none] }, gn, dr, tk, oS⟩ := by
  refine slice_strN_ss (s := ⟨hp, gn, dr, tk, oS⟩) F N (fun h' t' k F' N' => ?_) hs ht (size_le hz)
  have : Txt.slice x (some i) (some j) = cut x i.toNat (j - i).toNat := eq_of_beq (slice_closesL h0 h1 h2)
  rw [this]; exact h h' t' k F' N'
theorem s_find {x y : Str} {t u : Tok} {Q : Value → Shared → Prop} (h : Q (.int (Txt.find x y) tk) ⟨hp, gn, dr, tk + 1, oS⟩) : wpAny (model PR w) A (call (.builtin "str.find") [.str x t, .str y u]) Q E ⟨hp, gn, dr, tk, oS⟩ := PySem.SC.find h
theorem gm_find {x : Str} {t : Tok} {Q : Value → List Value → Shared → Prop} (h : Q (.builtin "str.find") [.str x t] ⟨hp, gn, dr, tk, oS⟩) : GM (model PR w) A (.str x t) "find" Q E ⟨hp, gn, dr, tk, oS⟩ := fun _ => PySem.GM.find h
theorem s_ord {c : Nat} {t : Tok} {Q : Value → Shared → Prop} (h : Q (.int c tk) ⟨hp, gn, dr, tk + 1, oS⟩) : wpAny (model PR w) A (call (.builtin "ord") [.str ⟨#[c]⟩ t]) Q E ⟨hp, gn, dr, tk, oS⟩ := P.ord_of_char h
theorem s_chr {i : Int} {t : Tok} {Q : Value → Shared → Prop} (hi : 0 ≤ i ∧ i ≤ 1114111) (h : Q (.str ⟨#[i.toNat]⟩ tk) ⟨hp, gn, dr, tk + 1, oS⟩) : wpAny (model PR w) A (call (.builtin "chr") [.int i t]) Q E ⟨hp, gn, dr, tk, oS⟩ := chr_of_range hi.1 hi.2 h
theorem i_min {a b : Int} {t u : Tok} {Q : Value → Shared → Prop} (hh : A.handled = none) (F : Fr h₀ L hp m) (N : News h₀ L hp led) (h : ∀ h' t' tk', Fr h₀ L h' m → News h₀ L h' led → Q (.int (if b < a then b else a) t') ⟨h', gn, dr, tk', oS⟩) :
    wpAny (model PR w) A (call (.builtin "min") [.int a t, .int b u]) Q E ⟨hp, gn, dr, tk, oS⟩ := min_two_N hh F N fun h' tk' F' N' => h h' _ tk' F' N'
theorem i_max {a b : Int} {t u : Tok} {Q : Value → Shared → Prop} (hh : A.handled = none) (F : Fr h₀ L hp m) (N : News h₀ L hp led) (h : ∀ h' t' tk', Fr h₀ L h' m → News h₀ L h' led → Q (.int (if b > a then b else a) t') ⟨h', gn, dr, tk', oS⟩) :
    wpAny (model PR w) A (call (.builtin "max") [.int a t, .int b u]) Q E ⟨hp, gn, dr, tk, oS⟩ := max_two_N hh F N fun h' tk' F' N' => h h' _ tk' F' N'
theorem i_truthy {a : Int} {t : Tok} {Q : Bool → Shared → Prop} (h : Q (decide (a ≠ 0)) ⟨hp, gn, dr, tk, oS⟩) : wpAny (model PR w) A (truthy (.int a t)) Q E ⟨hp, gn, dr, tk, oS⟩ := truthy_int (by
  have : (a != 0) = decide (a ≠ 0) := by by_cases e : a = 0 <;> simp [e]
  rw [this]; exact h)

inductive Sc : Value → PyData → Prop
  | int (i t) : Sc (.int i t) (.int i)
  | str (x t) (h : PyData.strOk x = true) : Sc (.str x t) (.str x)
theorem Sc.reads {v : Value} {d : PyData} {h : Heap} (s : Sc v d) : Reads h v d [] := by cases s with
  | int i t => exact .int i t
  | str x t _ => exact .str x t
theorem Sc.lay {v : Value} {d : PyData} (s : Sc v d) : d.canLay0 = true ∧ d.depth = 0 := by cases s with
  | int i t => exact ⟨rfl, rfl⟩
  | str x t h => exact ⟨h, rfl⟩
def Two (P : Pl) (news : Led) (a : Addr) (d e : PyData) : Prop := ∃ v u, Im P news a (tupOf [v, u]) ∧ Sc v d ∧ Sc u e
theorem Two.reads {h : Heap} {a : Addr} {d e : PyData} (N : News h₀ L h (X ++ news)) (T : Two P news a d e) : Reads h (.ref a) (.tuple [d, e]) [] ∧ SeqAt.shaped (.tuple [d, e]) = true := by
  obtain ⟨v, u, I, s1, s2⟩ := T
  refine ⟨reads_tuple_at (N _ (List.mem_append_right _ I.1)).1 rfl rfl (.cons s1.reads (.cons s2.reads .nil)), ?_⟩
  have l1 := s1.lay
  have l2 := s2.lay
  unfold SeqAt.shaped
  simp [PyData.canLay0, PyData.canLayAll0, PyData.depth, PyData.depthAll, l1.1, l2.1, l1.2, l2.2]
theorem two_tv {a : Addr} {n : Nat} {os : Option Str} (H : Hs w P X st news Φ) (h : Fact.tv a n os ∈ Φ) : Two P news a (.int 4) (.int (ad n)) := by
  obtain ⟨mem, pool, ⟨t, t', I⟩, -⟩ := H.says h
  exact ⟨_, _, I, .int _ _, .int _ _⟩
theorem two_tu {a : Addr} {v u : Value} {d e : PyData} (H : Hs w P X st news Φ) (h : Fact.tu a [v, u] ∈ Φ) (s1 : Sc v d) (s2 : Sc u e) : Two P news a d e := by
  obtain ⟨mem, pool, I⟩ := H.says h
  exact ⟨_, _, I, s1, s2⟩
theorem eqv_two (a b c d : PyData) : PyData.eqv (.tuple [a, b]) (.tuple [c, d]) = (PyData.eqv a c && PyData.eqv b d) := by simp [PyData.eqv, PyData.eqvAll]
theorem c_eq2 {a b : Addr} {d e d' e' : PyData} {c : Bool} {Q : Value → Shared → Prop} (O : Ok w A h₀ L 9) (N : News h₀ L hp (X ++ news)) (Ta : Two P news a d e) (Tb : Two P news b d' e') (hc : (PyData.eqv d d' && PyData.eqv e e') = c) (h : Q (.bool c) ⟨hp, gn, dr, tk, oS⟩) :
    wpAny (model PR w) A (compareOp .Eq (.ref a) (.ref b)) Q E ⟨hp, gn, dr, tk, oS⟩ := by
  obtain ⟨r1, s1⟩ := Ta.reads N
  obtain ⟨r2, s2⟩ := Tb.reads N
  exact eq_dataH r1 r2 s1 s2 (by have := O.units; show _ < 9900; lia) (by rw [eqv_two, hc]; exact h)
theorem c_ne2 {a b : Addr} {d e d' e' : PyData} {c : Bool} {Q : Value → Shared → Prop} (O : Ok w A h₀ L 9) (N : News h₀ L hp (X ++ news)) (Ta : Two P news a d e) (Tb : Two P news b d' e') (hc : (!(PyData.eqv d d' && PyData.eqv e e')) = c) (h : Q (.bool c) ⟨hp, gn, dr, tk, oS⟩) :
    wpAny (model PR w) A (compareOp .NotEq (.ref a) (.ref b)) Q E ⟨hp, gn, dr, tk, oS⟩ := by
  obtain ⟨r1, s1⟩ := Ta.reads N
  obtain ⟨r2, s2⟩ := Tb.reads N
  exact ne_dataH r1 r2 s1 s2 (by have := O.units; show _ < 9900; lia) (by rw [eqv_two, hc]; exact h)
theorem c_eqti {a : Addr} {d e : PyData} {i : Int} {t : Tok} {Q : Value → Shared → Prop} (O : Ok w A h₀ L 9) (N : News h₀ L hp (X ++ news)) (Ta : Two P news a d e) (h : Q (.bool false) ⟨hp, gn, dr, tk, oS⟩) :
    wpAny (model PR w) A (compareOp .Eq (.ref a) (.int i t)) Q E ⟨hp, gn, dr, tk, oS⟩ := by
  obtain ⟨r1, s1⟩ := Ta.reads N
  exact eq_dataH r1 (.int i t) s1 rfl (by have := O.units; show _ < 9900; lia) (by simpa [PyData.eqv] using h)
end
end Mine
end B14_
section B15_
namespace Mine
theorem ints_snoc {vs : List Value} {ns : List Int} (h : IntsAre vs ns) (i : Int) (t : Tok) : IntsAre (vs ++ [.int i t]) (ns ++ [i]) := by
  induction h with
  | nil => exact .cons i t .nil
  | cons n t' _ ih => exact .cons n t' ih
theorem bitAnd_32 (x : Int) (h : 0 ≤ x) : Builtin.bitAnd x 4294967295 = x % 4294967296 := by
  unfold Builtin.bitAnd
  rw [decide_eq_true h, decide_eq_true (by decide : (0 : Int) ≤ 4294967295)]
  show ((x.toNat &&& 4294967295 : Nat) : Int) = _
  have : x.toNat &&& 4294967295 = x.toNat % 2 ^ 32 := Nat.and_two_pow_sub_one_eq_mod x.toNat 32
  rw [this]; lia
theorem hashFrom_snoc (h : Int) (l : List Nat) (c : Nat) : hashFrom h (l ++ [c]) = (hashFrom h l * 33 + (c : Int)) % 4294967296 := by simp [hashFrom, List.foldl_append]
theorem hashFrom_range {h : Int} (h0 : 0 ≤ h ∧ h < 4294967296) (l : List Nat) : 0 ≤ hashFrom h l ∧ hashFrom h l < 4294967296 := by
  induction l generalizing h with
  | nil => exact h0
  | cons c l ih => exact ih (h := (h * 33 + (c : Int)) % 4294967296) (by lia)
section
variable {M : Model} {w : World} {A : Around} {E : Value → Shared → Prop} {hp : Heap} {gn : Array GenState} {dr : Drawn} {tk : Nat} {oS : OsState} {g h₀ : Heap} {L : Addr} {m : Str → Option Value} {P : Pl} {X news led rest : Led} {σ : Sg} {st : St} {Φ Ent : List Fact} {env : Env}
theorem Hs.thrown {mem : List Str} {pool : Str → Option Nat} {news' : Led} {i : Int} {t : Tok} (I : Inv P σ news mem pool) (Tx : Txs P σ news mem st) (Fs : ∀ f ∈ Φ, f.says P mem pool news)
    (R : Rep w P X (σ.pThrown (σ.thrown ++ [.int i t])) news') (K : Stay P news news') : Hs w P X ⟨st.T, st.th ++ [i], st.b, st.fc⟩ news' Φ :=
  ⟨_, mem, pool, R, ⟨I.top, I.fresh, I.made, I.nth, I.len, (I.mono K).tab, I.low0, I.itl, (I.mono K).itn⟩, ⟨Tx.b, ints_snoc Tx.th i t, Tx.texts, (Tx.mono K).tv, Tx.fl, (Tx.mono K).facts⟩, fun f hf => Fact.mono K (Fs f hf)⟩
theorem Hs.popped {mem : List Str} {pool : Str → Option Nat} {news' : Led} {vs : List Value} {th : List Int} (I : Inv P σ news mem pool) (Tx : Txs P σ news mem st) (Fs : ∀ f ∈ Φ, f.says P mem pool news)
    (R : Rep w P X (σ.pThrown vs) news') (hv : IntsAre vs th) (K : Stay P news news') : Hs w P X ⟨st.T, th, st.b, st.fc⟩ news' Φ :=
  ⟨_, mem, pool, R, ⟨I.top, I.fresh, I.made, I.nth, I.len, (I.mono K).tab, I.low0, I.itl, (I.mono K).itn⟩, ⟨Tx.b, hv, Tx.texts, (Tx.mono K).tv, Tx.fl, (Tx.mono K).facts⟩, fun f hf => Fact.mono K (Fs f hf)⟩
theorem tab_get_none {σ : Sg} {k : Int} {t : Tok} {Q : Value → Shared → Prop} (N : News h₀ L hp (X ++ news)) (R : Rep w P X σ news) (hv : valueAt σ.tab k = none) (h : Q .none ⟨hp, gn, dr, tk + 1, oS⟩) :
    wpAny (model PR w) A (call (.builtin "dict.get") [.ref (P.adr .tab), .int k t]) Q E ⟨hp, gn, dr, tk, oS⟩ := by
  obtain ⟨o, ho, hd⟩ := R.mu .tab
  exact kdg_get1 (knd := intKind PR w) N (List.mem_append_right _ ho) hd (R.low _) (intKind_is _ _ _ _) none hv h
end
end Mine
end B15_
section B16_
namespace Mine
section
variable {M : Model} {w : World} {A : Around} {E : Value → Shared → Prop} {hp : Heap} {gn : Array GenState} {dr : Drawn} {tk : Nat} {oS : OsState} {g h₀ : Heap} {L : Addr} {m : Str → Option Value} {P : Pl} {X news led rest : Led} {σ : Sg} {st : St} {Φ Ent : List Fact} {env : Env}
theorem w_item {value slice : Expr} {x : Str} {u : Tok} {v : Value} {Q : Value → Shared → Prop} (N : News h₀ L hp (X ++ news)) (S : Sta w P news)
    (hv : valueAt [(("m" : Str), Value.ref P.m), ("texts", .ref (P.adr .texts)), ("facts", .ref (P.adr .facts)), ("bad", .ref P.bad)] x = some v) (h : Q v ⟨hp, gn, dr, tk + 1, oS⟩)
    (hs : subscripted slice false (.ref P.w) (.str x u) = operate [.ref P.w, .str x u] (getItem (.ref P.w) (.str x u))) :
    wpAny (model PR w) A (subscriptTail value slice (.ref P.w) (.str x u)) Q E ⟨hp, gn, dr, tk, oS⟩ := by
  obtain ⟨o, I, hd⟩ := S.wd
  have hD := kda_dict (s := ⟨hp, gn, dr, tk, oS⟩) N (List.mem_append_right _ I.1) hd
  exact tail_any hD.typeIs slot_dict_getitem.lookup (wpAny_getItem_of (strKind_is _ _ _ _) hD.mapOf hv h) hs
theorem w_m {value slice : Expr} {u : Tok} {Q : Value → Shared → Prop} (N : News h₀ L hp (X ++ news)) (S : Sta w P news) (h : Q (.ref (P.m)) ⟨hp, gn, dr, tk + 1, oS⟩)
    (hs : subscripted slice false (.ref P.w) (.str "m" u) = operate [.ref P.w, .str "m" u] (getItem (.ref P.w) (.str "m" u))) :
    wpAny (model PR w) A (subscriptTail value slice (.ref P.w) (.str "m" u)) Q E ⟨hp, gn, dr, tk, oS⟩ := w_item N S (by rfl) h hs
theorem w_texts {value slice : Expr} {u : Tok} {Q : Value → Shared → Prop} (N : News h₀ L hp (X ++ news)) (S : Sta w P news) (h : Q (.ref (P.adr .texts)) ⟨hp, gn, dr, tk + 1, oS⟩)
    (hs : subscripted slice false (.ref P.w) (.str "texts" u) = operate [.ref P.w, .str "texts" u] (getItem (.ref P.w) (.str "texts" u))) :
    wpAny (model PR w) A (subscriptTail value slice (.ref P.w) (.str "texts" u)) Q E ⟨hp, gn, dr, tk, oS⟩ := w_item N S (by rfl) h hs
theorem w_facts {value slice : Expr} {u : Tok} {Q : Value → Shared → Prop} (N : News h₀ L hp (X ++ news)) (S : Sta w P news) (h : Q (.ref (P.adr .facts)) ⟨hp, gn, dr, tk + 1, oS⟩)
    (hs : subscripted slice false (.ref P.w) (.str "facts" u) = operate [.ref P.w, .str "facts" u] (getItem (.ref P.w) (.str "facts" u))) :
    wpAny (model PR w) A (subscriptTail value slice (.ref P.w) (.str "facts" u)) Q E ⟨hp, gn, dr, tk, oS⟩ := w_item N S (by rfl) h hs
theorem w_bad {value slice : Expr} {u : Tok} {Q : Value → Shared → Prop} (N : News h₀ L hp (X ++ news)) (S : Sta w P news) (h : Q (.ref (P.bad)) ⟨hp, gn, dr, tk + 1, oS⟩)
    (hs : subscripted slice false (.ref P.w) (.str "bad" u) = operate [.ref P.w, .str "bad" u] (getItem (.ref P.w) (.str "bad" u))) :
    wpAny (model PR w) A (subscriptTail value slice (.ref P.w) (.str "bad" u)) Q E ⟨hp, gn, dr, tk, oS⟩ := w_item N S (by rfl) h hs
theorem nat_item {value slice : Expr} {k : Int} {u : Tok} {v : Value} {Q : Value → Shared → Prop} (N : News h₀ L hp (X ++ news)) (S : Sta w P news)
    (hv : valueAt [((1 : Int), Value.ref (P.ni 1)), (2, .ref (P.ni 2)), (3, .ref (P.ni 3)), (4, .ref (P.ni 4)), (5, .ref (P.ni 5)), (6, .ref (P.ni 6)), (7, .ref (P.ni 7)), (8, .ref (P.ni 8)), (9, .ref (P.ni 9))] k = some v) (h : Q v ⟨hp, gn, dr, tk + 1, oS⟩)
    (hs : subscripted slice false (.ref P.nat) (.int k u) = operate [.ref P.nat, .int k u] (getItem (.ref P.nat) (.int k u))) :
    wpAny (model PR w) A (subscriptTail value slice (.ref P.nat) (.int k u)) Q E ⟨hp, gn, dr, tk, oS⟩ := by
  obtain ⟨o, I, hd⟩ := S.nat
  have hD := kda_dict (s := ⟨hp, gn, dr, tk, oS⟩) N (List.mem_append_right _ I.1) hd
  exact tail_any hD.typeIs slot_dict_getitem.lookup (wpAny_getItem_of (intKind_is _ _ _ _) hD.mapOf hv h) hs
def Nat_ (w : World) (P : Pl) (X news : Led) (gn : Array GenState) (dr : Drawn) (oS : OsState) (k : Nat) (f l : Addr) (Post : Addr → Led → Prop) : Prop :=
  ∀ A h₀ L m hp tk Q E, Ok w A h₀ L 13 → Fr h₀ L hp m → News h₀ L hp (X ++ news) → (∀ r news' h' tk', Fr h₀ L h' m → News h₀ L h' (X ++ news') → Post r news' → Q (.ref r) ⟨h', gn, dr, tk', oS⟩) →
    wpAny (model PR w) A (call (.ref f) [.ref (P.ni k), .ref P.m, .none, .ref l]) Q E ⟨hp, gn, dr, tk, oS⟩
structure NatK (w : World) (P : Pl) (k : Nat) (f : Addr) : Prop where
  item : valueAt [((1 : Int), Value.ref (P.ni 1)), (2, .ref (P.ni 2)), (3, .ref (P.ni 3)), (4, .ref (P.ni 4)), (5, .ref (P.ni 5)), (6, .ref (P.ni 6)), (7, .ref (P.ni 7)), (8, .ref (P.ni 8)), (9, .ref (P.ni 9))] (k : Int) = some (.ref (P.ni k))
  keep : keepIn (hd.heap_1 w.params) (.ref f) = true
  meth : ∀ {A : Around} {E : Value → Shared → Prop} {hp : Heap} {gn : Array GenState} {dr : Drawn} {tk : Nat} {oS : OsState} {h₀ : Heap} {L : Addr} {m : Str → Option Value} {X news : Led} {Q : Value → List Value → Shared → Prop}, Fr h₀ L hp m → (hd.heap_1 w.params).In h₀ → News h₀ L hp (X ++ news) → Sta w P news →
    Q (.ref f) [.ref (P.ni k)] ⟨hp, gn, dr, tk, oS⟩ → GM (model PR w) A (.ref (P.ni k)) "call" Q E ⟨hp, gn, dr, tk, oS⟩
theorem nk1 : NatK w P 1 575 := ⟨rfl, Z336 w, nm_1⟩
theorem nk2 : NatK w P 2 594 := ⟨rfl, Z337 w, nm_2⟩
theorem nk3 : NatK w P 3 613 := ⟨rfl, Z338 w, nm_3⟩
theorem nk4 : NatK w P 4 632 := ⟨rfl, Z339 w, nm_4⟩
theorem nk5 : NatK w P 5 651 := ⟨rfl, Z340 w, nm_5⟩
theorem nk6 : NatK w P 6 670 := ⟨rfl, Z341 w, nm_6⟩
theorem nk7 : NatK w P 7 689 := ⟨rfl, Z342 w, nm_7⟩
theorem nk8 : NatK w P 8 708 := ⟨rfl, Z343 w, nm_8⟩
theorem nk9 : NatK w P 9 727 := ⟨rfl, Z344 w, nm_9⟩
theorem NatK.item' {k : Nat} {f : Addr} {value slice : Expr} {u : Tok} {Q : Value → Shared → Prop} (N : News h₀ L hp (X ++ news)) (S : Sta w P news) (K : NatK w P k f) (h : Q (.ref (P.ni k)) ⟨hp, gn, dr, tk + 1, oS⟩)
    (hs : subscripted slice false (.ref P.nat) (.int k u) = operate [.ref P.nat, .int k u] (getItem (.ref P.nat) (.int k u))) :
    wpAny (model PR w) A (subscriptTail value slice (.ref P.nat) (.int (k : Nat) u)) Q E ⟨hp, gn, dr, tk, oS⟩ := nat_item N S K.item h hs
end
end Mine
end B16_
section B17_
namespace Mine
section
variable {M : Model} {w : World} {A : Around} {E : Value → Shared → Prop} {hp : Heap} {gn : Array GenState} {dr : Drawn} {tk : Nat} {oS : OsState} {g h₀ : Heap} {L : Addr} {m : Str → Option Value} {P : Pl} {X news led rest : Led} {σ : Sg} {st : St} {Φ Ent : List Fact} {env : Env}
theorem Hs.textAdd {mem : List Str} {pool : Str → Option Nat} {news' : Led} {a : Addr} {n : Nat} {os : Option Str} (I : Inv P σ news mem pool) (Tx : Txs P σ news mem st) (Fs : ∀ f ∈ Φ, f.says P mem pool news) (hx : Fact.tv a n os ∈ Φ)
    (R : Rep w P X (σ.pTexts (σ.texts ++ [.ref a])) news') (K : Stay P news news') : Hs w P X ⟨st.T ++ [(a, n, os)], st.th, st.b, st.fc⟩ news' Φ :=
  ⟨_, mem, pool, R, ⟨I.top, I.fresh, I.made, I.nth, I.len, (I.mono K).tab, I.low0, I.itl, (I.mono K).itn⟩,
    ⟨Tx.b, Tx.th, by show σ.texts ++ [Value.ref a] = _; rw [Tx.texts]; simp, fun x hx' => by
      rcases List.mem_append.mp hx' with h | h
      · exact (Tx.mono K).tv x h
      · rw [List.mem_singleton.mp h]; exact Tv.mono K (Fs _ hx), Tx.fl, (Tx.mono K).facts⟩, fun f hf => Fact.mono K (Fs f hf)⟩
theorem Hs.factAdd {mem : List Str} {pool : Str → Option Nat} {news' : Led} {a : Addr} {i j : Int} {t t' : Tok} (I : Inv P σ news mem pool) (Tx : Txs P σ news mem st) (Fs : ∀ f ∈ Φ, f.says P mem pool news) (hx : Fact.tu a [.int i t, .int j t'] ∈ Φ)
    (R : Rep w P X (σ.pFacts (σ.facts ++ [.ref a])) news') (K : Stay P news news') : Hs w P X ⟨st.T, st.th, st.b, st.fc ++ [(i, j)]⟩ news' Φ :=
  ⟨_, mem, pool, R, ⟨I.top, I.fresh, I.made, I.nth, I.len, (I.mono K).tab, I.low0, I.itl, (I.mono K).itn⟩,
    ⟨Tx.b, Tx.th, Tx.texts, (Tx.mono K).tv, by show (σ.facts ++ [Value.ref a]).length = _; simp [Tx.fl], fun k x hk => by
      show ∃ fa t t', (σ.facts ++ [Value.ref a])[k]? = some (.ref fa) ∧ _
      by_cases e : k < st.fc.length
      · rw [List.getElem?_append_left e] at hk
        rw [List.getElem?_append_left (by rw [Tx.fl]; exact e)]
        exact (Tx.mono K).facts k x hk
      · have hlt := (List.getElem?_eq_some_iff.mp hk).1
        simp at hlt
        have ek : k = st.fc.length := by lia
        subst ek
        rw [List.getElem?_append_right (Nat.le_refl _)] at hk
        simp at hk
        subst hk
        refine ⟨a, t, t', ?_, (Im.mono K (Fs _ hx))⟩
        rw [← Tx.fl, List.getElem?_append_right (Nat.le_refl _)]; simp⟩, fun f hf => Fact.mono K (Fs f hf)⟩
end
theorem cmpL_irrefl (x : List Nat) : ¬ x < x := List.lt_irrefl x
end Mine
end B17_
section BA_
namespace Mine
inductive Ato (w : World) (ns gs : List Str) (vals : List (Option Value)) : Nat → PySem.Expr → Value → Nat → Prop
  | loc {x p v tk} : At ns vals x (some v) → Ato w ns gs vals tk (.Name x p) v tk
  | glo {x p v tk} : x ∈ gs → nsIn (hd.heap_1 w.params) mainGlobals x = some (some v) → Ato w ns gs vals tk (.Name x p) v tk
  | blt {x p v tk} : x ∈ gs → nsIn (hd.heap_1 w.params) mainGlobals x = some none → (bootBuiltins x = some v ∧ x ≠ "__name__") → Ato w ns gs vals tk (.Name x p) v tk
  | int {i k p tk} : Ato w ns gs vals tk (.Constant (.int i) k p) (.int i tk) (tk + 1)
  | str {x k p tk} : Ato w ns gs vals tk (.Constant (.str x) k p) (.str x tk) (tk + 1)
  | none {k p tk} : Ato w ns gs vals tk (.Constant .none k p) .none tk
  | bool {b k p tk} : Ato w ns gs vals tk (.Constant (.bool b) k p) (.bool b) tk
inductive Atos (w : World) (ns gs : List Str) (vals : List (Option Value)) : Nat → List PySem.Expr → List Value → Nat → Prop
  | nil {tk} : Atos w ns gs vals tk [] [] tk
  | cons {tk e v t1 es vs t2} : Ato w ns gs vals tk e v t1 → Atos w ns gs vals t1 es vs t2 → Atos w ns gs vals tk (e :: es) (v :: vs) t2
structure Zn (w : World) (scope : Scope) (ns gs : List Str) (g : Heap) : Prop where
  S : Fn scope ns gs
  X : (hd.heap_1 w.params).In g
  T : ∃ p loose mean mg mb, Top p loose mean mg mb g
section
variable {w : World} {A : Around} {gn : Array GenState} {dr : Drawn} {oS : OsState} {hp g : Heap} {L a : Addr} {fname : Str} {scope : Scope} {cd : Value} {ns gs : List Str} {vals : List (Option Value)} {tk t1 t2 t3 : Nat} {e e' : PySem.Expr} {v v' : Value} {es rest : List PySem.Expr} {vs : List Value} {pos fp : Pos} {M : Model} {E : Value → Shared → Prop}
theorem Ato.ev {Q : Value → Shared → Prop} (Z : Zn w scope ns gs g) (F : Fr g L hp (lc ns vals)) (x : Ato w ns gs vals tk e v t1) (h : Q v ⟨hp, gn, dr, t1, oS⟩) : wpAny M A (eval e (envOf fname scope L a cd)) Q E ⟨hp, gn, dr, tk, oS⟩ := by
  obtain ⟨_, _, _, _, _, T⟩ := Z.T
  cases x with
  | loc q => exact e_loc Z.S F q h
  | glo hx q => exact e_glo Z.S F Z.X T hx q h
  | blt hx q hv => exact e_blt Z.S F Z.X T hx q hv h
  | int => exact e_int h
  | str => exact e_str h
  | none => exact wpAny_Constant_none h
  | bool => exact wpAny_Constant_bool h
theorem Ato.plain (x : Ato w ns gs vals tk e v t1) (env : Env) : starEach (e :: rest) env = (false, eval e env) :: starEach rest env := by cases x <;> rfl
theorem Atos.sp (Z : Zn w scope ns gs g) (F : Fr g L hp (lc ns vals)) (x : Atos w ns gs vals tk es vs t1) : ∀ {Q : List Value → Shared → Prop}, Q vs ⟨hp, gn, dr, t1, oS⟩ → wpAny M A (spliced (backTo pos (starEach es (envOf fname scope L a cd)))) Q E ⟨hp, gn, dr, tk, oS⟩ := by
  induction x with
  | nil => intro Q h; exact spliced_none h
  | cons y _ ih => intro Q h; exact spliced_more (y.ev Z F (ih h)) (y.plain _)
theorem Atos.mark (x : Atos w ns gs vals tk es vs t1) (env : Env) : (backTo pos (starEach es env)).any (·.1) = false := by
  induction x with
  | nil => rfl
  | cons y _ ih => rw [y.plain]; exact ih
theorem sp1 {Q : List Value → Shared → Prop} (Z : Zn w scope ns gs g) (F : Fr g L hp (lc ns vals)) (x : Ato w ns gs vals tk e v t1)
    (h : wpAny M A (spliced (backTo pos (starEach rest (envOf fname scope L a cd)))) (fun vs s₂ => Q (v :: vs) s₂) E ⟨hp, gn, dr, t1, oS⟩) :
    wpAny M A (spliced (backTo pos (starEach (e :: rest) (envOf fname scope L a cd)))) Q E ⟨hp, gn, dr, tk, oS⟩ := spliced_more (x.ev Z F h) (x.plain _)
theorem call_name {x : Str} {args : List PySem.Expr} {env : Env} : eval (.Call (.Name x fp) args [] pos) env = (do
    let f ← eval (.Name x fp) env
    callWith pos f [] (backTo pos (starEach args env)) (backToKw pos (keywordEach [] env))) := rfl
theorem meth_name {name : Str} {ap : Pos} {args : List PySem.Expr} {env : Env} {x : Str} (h1 : methodCallForm args.length (backTo pos (starEach args env)) [] = true) (h2 : (ap.endLine == pos.line) = true) : eval (.Call (.Attribute (.Name x fp) name ap) args [] pos) env = (do
    let ov ← eval (.Name x fp) env
    standAt ap.atName
    let (f, first) ← holding [ov] (getMethod ov name (do return (← importBound (.Name x fp) env).getD true))
    callWith pos f first (backTo pos (starEach args env)) (backToKw pos (keywordEach [] env))) := by
  show (do
    let ov ← eval (.Name x fp) env
    standAt ap.atName
    methodCall (.Name x fp) name ap pos env ov (args.length + 0) (backTo pos (starEach args env)) []) = _
  unfold methodCall methodCallPos calleeOf
  rw [Nat.add_zero, h1, h2]
  rfl
theorem attr_name {attr : Str} {ap : Pos} {env : Env} {x : Str} : eval (.Attribute (.Name x fp) attr ap) env = (do
    let o ← eval (.Name x fp) env
    standAt ap.atName
    let r ← holding [o] (getAttr o attr true)
    letTemporaryGo (.Name x fp) o r
    pure r) := rfl
theorem ca {Q : Value → Shared → Prop} {x : Str} {f : Addr} (Z : Zn w scope ns gs g) (F : Fr g L hp (lc ns vals)) (as : Atos w ns gs vals tk es vs t1) (hx : x ∈ gs) (he : nsIn (hd.heap_1 w.params) mainGlobals x = some (some (.ref f))) (hk : keepIn (hd.heap_1 w.params) (.ref f) = true)
    (h : wpAny (model PR w) A (call (.ref f) vs) Q (fun _ _ => False) ⟨hp, gn, dr, t1, oS⟩) :
    wpAny (model PR w) A (eval (.Call (.Name x fp) es [] pos) (envOf fname scope L a cd)) Q (fun _ _ => False) ⟨hp, gn, dr, tk, oS⟩ := by
  refine Call_ ?_ call_name
  refine Ato.ev Z F (.glo hx he) ?_
  cases as with
  | nil => exact c_fun0 Z.X F hk h
  | cons y ys => exact c_fun Z.X hk ((Atos.cons y ys).sp Z F (and_in Z.X F h)) (y.plain _) (ys.mark _)
theorem cf {Q : Value → Shared → Prop} {f : Addr} (Z : Zn w scope ns gs g) (F : Fr g L hp (lc ns vals)) (as : Atos w ns gs vals tk es vs t1) (hk : keepIn (hd.heap_1 w.params) (.ref f) = true)
    (h : wpAny (model PR w) A (call (.ref f) vs) Q (fun _ _ => False) ⟨hp, gn, dr, t1, oS⟩) :
    wpAny (model PR w) A (callWith pos (.ref f) [] (backTo pos (starEach es (envOf fname scope L a cd))) []) Q (fun _ _ => False) ⟨hp, gn, dr, tk, oS⟩ := by
  cases as with
  | nil => exact c_fun0 Z.X F hk h
  | cons y ys => exact c_fun Z.X hk ((Atos.cons y ys).sp Z F (and_in Z.X F h)) (y.plain _) (ys.mark _)
theorem cm {Q : Value → Shared → Prop} {f : Addr} {x : Value} (Z : Zn w scope ns gs g) (F : Fr g L hp (lc ns vals)) (as : Atos w ns gs vals tk es vs t1) (hk : keepIn (hd.heap_1 w.params) (.ref f) = true)
    (h : wpAny (model PR w) A (call (.ref f) (x :: vs)) Q (fun _ _ => False) ⟨hp, gn, dr, t1, oS⟩) :
    wpAny (model PR w) A (callWith pos (.ref f) [x] (backTo pos (starEach es (envOf fname scope L a cd))) []) Q (fun _ _ => False) ⟨hp, gn, dr, tk, oS⟩ := by
  cases as with
  | nil => exact c_mth0 Z.X F hk h
  | cons y ys => exact c_mth Z.X hk ((Atos.cons y ys).sp Z F (and_in Z.X F h)) (y.plain _) (ys.mark _)
theorem cb {Q : Value → Shared → Prop} {id : String} (Z : Zn w scope ns gs g) (F : Fr g L hp (lc ns vals)) (y : Ato w ns gs vals tk e v t1) (ys : Atos w ns gs vals t1 es vs t2)
    (h : wpAny (model PR w) A (call (.builtin id) (v :: vs)) Q (fun _ _ => False) ⟨hp, gn, dr, t2, oS⟩) :
    wpAny (model PR w) A (callWith pos (.builtin id) [] (backTo pos (starEach (e :: es) (envOf fname scope L a cd))) []) Q (fun _ _ => False) ⟨hp, gn, dr, tk, oS⟩ :=
  c_blt ((Atos.cons y ys).sp Z F h) (y.plain _) (ys.mark _)
theorem cbm {Q : Value → Shared → Prop} {id : String} {x : Value} (Z : Zn w scope ns gs g) (F : Fr g L hp (lc ns vals)) (y : Ato w ns gs vals tk e v t1) (ys : Atos w ns gs vals t1 es vs t2)
    (h : wpAny (model PR w) A (call (.builtin id) (x :: v :: vs)) Q (fun _ _ => False) ⟨hp, gn, dr, t2, oS⟩) :
    wpAny (model PR w) A (callWith pos (.builtin id) [x] (backTo pos (starEach (e :: es) (envOf fname scope L a cd))) []) Q (fun _ _ => False) ⟨hp, gn, dr, tk, oS⟩ :=
  c_bmt ((Atos.cons y ys).sp Z F h) (y.plain _) (ys.mark _)
theorem me {Q : Value → Shared → Prop} {x name : Str} {ap : Pos} {ov : Value} (Z : Zn w scope ns gs g) (F : Fr g L hp (lc ns vals)) (y : Ato w ns gs vals tk (.Name x fp) ov t1)
    (h : GM (model PR w) A ov name (fun f first s₂ => wpAny (model PR w) A (callWith pos f first (backTo pos (starEach es (envOf fname scope L a cd))) []) Q (fun _ _ => False) s₂) (fun _ _ => False) ⟨hp, gn, dr, t1, oS⟩) (h1 : methodCallForm es.length (backTo pos (starEach es (envOf fname scope L a cd))) [] = true) (h2 : (ap.endLine == pos.line) = true) :
    wpAny (model PR w) A (eval (.Call (.Attribute (.Name x fp) name ap) es [] pos) (envOf fname scope L a cd)) Q (fun _ _ => False) ⟨hp, gn, dr, tk, oS⟩ := e_meth (y.ev Z F h) (meth_name h1 h2)
theorem ae {Q : Value → Shared → Prop} {x attr : Str} {ap : Pos} {ov : Value} (Z : Zn w scope ns gs g) (F : Fr g L hp (lc ns vals)) (y : Ato w ns gs vals tk (.Name x fp) ov t1)
    (h : wpAny (model PR w) A (getAttr ov attr true) Q (fun _ _ => False) ⟨hp, gn, dr, t1, oS⟩) :
    wpAny (model PR w) A (eval (.Attribute (.Name x fp) attr ap) (envOf fname scope L a cd)) Q (fun _ _ => False) ⟨hp, gn, dr, tk, oS⟩ := Attribute_any_ (y.ev Z F h) attr_name
theorem su2 {Q : Value → Shared → Prop} (Z : Zn w scope ns gs g) (F : Fr g L hp (lc ns vals)) (y : Ato w ns gs vals tk e v t1) (z : Ato w ns gs vals t1 e' v' t2)
    (h : wpAny (model PR w) A (subscriptTail e e' v v') Q (fun _ _ => False) ⟨hp, gn, dr, t2, oS⟩) :
    wpAny (model PR w) A (eval (.Subscript e e' pos) (envOf fname scope L a cd)) Q (fun _ _ => False) ⟨hp, gn, dr, tk, oS⟩ := Subscript_ (y.ev Z F (z.ev Z F h))
theorem su1 {Q : Value → Shared → Prop} (Z : Zn w scope ns gs g) (F : Fr g L hp (lc ns vals)) (y : Ato w ns gs vals tk e v t1)
    (h : wpAny (model PR w) A (eval e' (envOf fname scope L a cd)) (fun i s₂ => wpAny (model PR w) A (subscriptTail e e' v i) Q (fun _ _ => False) s₂) (fun _ _ => False) ⟨hp, gn, dr, t1, oS⟩) :
    wpAny (model PR w) A (eval (.Subscript e e' pos) (envOf fname scope L a cd)) Q (fun _ _ => False) ⟨hp, gn, dr, tk, oS⟩ := Subscript_ (y.ev Z F h)
theorem bi2 {Q : Value → Shared → Prop} {op : Operator} (Z : Zn w scope ns gs g) (F : Fr g L hp (lc ns vals)) (y : Ato w ns gs vals tk e v t1) (z : Ato w ns gs vals t1 e' v' t2)
    (h : wpAny (model PR w) A (binaryOp op v v') Q (fun _ _ => False) ⟨hp, gn, dr, t2, oS⟩) :
    wpAny (model PR w) A (eval (.BinOp e op e' pos) (envOf fname scope L a cd)) Q (fun _ _ => False) ⟨hp, gn, dr, tk, oS⟩ := wpAny_BinOp (y.ev Z F (z.ev Z F h))
theorem bi1 {Q : Value → Shared → Prop} {op : Operator} (Z : Zn w scope ns gs g) (F : Fr g L hp (lc ns vals)) (y : Ato w ns gs vals tk e v t1)
    (h : wpAny (model PR w) A (eval e' (envOf fname scope L a cd)) (fun b s₂ => wpAny (model PR w) A (binaryOp op v b) Q (fun _ _ => False) s₂) (fun _ _ => False) ⟨hp, gn, dr, t1, oS⟩) :
    wpAny (model PR w) A (eval (.BinOp e op e' pos) (envOf fname scope L a cd)) Q (fun _ _ => False) ⟨hp, gn, dr, tk, oS⟩ := wpAny_BinOp (y.ev Z F h)
theorem ct2 {Q : Bool → Shared → Prop} {op : CmpOp} {whole : Sem Value} (Z : Zn w scope ns gs g) (F : Fr g L hp (lc ns vals)) (y : Ato w ns gs vals tk e v t1) (z : Ato w ns gs vals t1 e' v' t2)
    (h : wpAny (model PR w) A (compareOp op v v') (fun c s₃ => wpAny (model PR w) A (truthy c) Q (fun _ _ => False) s₃) (fun _ _ => False) ⟨hp, gn, dr, t2, oS⟩) :
    wpAny (model PR w) A (PySem.isTrue (.Compare e [op] [e'] pos) (envOf fname scope L a cd) whole) Q (fun _ _ => False) ⟨hp, gn, dr, tk, oS⟩ := wpAny_isTrue_Compare1 (y.ev Z F (z.ev Z F h)) (by cases z <;> cases op <;> rfl)
theorem ct1 {Q : Bool → Shared → Prop} {op : CmpOp} {whole : Sem Value} (Z : Zn w scope ns gs g) (F : Fr g L hp (lc ns vals)) (y : Ato w ns gs vals tk e v t1)
    (h : wpAny (model PR w) A (eval e' (envOf fname scope L a cd)) (fun b s₂ => wpAny (model PR w) A (compareOp op v b) (fun c s₃ => wpAny (model PR w) A (truthy c) Q (fun _ _ => False) s₃) (fun _ _ => False) s₂) (fun _ _ => False) ⟨hp, gn, dr, t1, oS⟩) (hm : behindInMarks op e' = false) :
    wpAny (model PR w) A (PySem.isTrue (.Compare e [op] [e'] pos) (envOf fname scope L a cd) whole) Q (fun _ _ => False) ⟨hp, gn, dr, tk, oS⟩ := wpAny_isTrue_Compare1 (y.ev Z F h) hm
theorem ce2 {Q : Value → Shared → Prop} {op : CmpOp} (Z : Zn w scope ns gs g) (F : Fr g L hp (lc ns vals)) (y : Ato w ns gs vals tk e v t1) (z : Ato w ns gs vals t1 e' v' t2)
    (h : wpAny (model PR w) A (compareOp op v v') Q (fun _ _ => False) ⟨hp, gn, dr, t2, oS⟩) :
    wpAny (model PR w) A (eval (.Compare e [op] [e'] pos) (envOf fname scope L a cd)) Q (fun _ _ => False) ⟨hp, gn, dr, tk, oS⟩ := wpAny_Compare1 (y.ev Z F (z.ev Z F h)) (by cases z <;> cases op <;> rfl)
theorem re1 {Q : Flow → Shared → Prop} {rs : List Stmt} (Z : Zn w scope ns gs g) (F : Fr g L hp (lc ns vals)) (y : Ato w ns gs vals tk e v t1) (h : Q (.ret v) ⟨hp, gn, dr, t1, oS⟩) :
    wpAny (model PR w) A (execs (.Return (some e) pos :: rs) (envOf fname scope L a cd)) Q (fun _ _ => False) ⟨hp, gn, dr, tk, oS⟩ := x_ret (y.ev Z F h)
theorem li {Q : Value → Shared → Prop} (Z : Zn w scope ns gs g) (F : Fr g L hp (lc ns vals)) (as : Atos w ns gs vals tk es vs t1) (h : wpAny (model PR w) A (newList vs) Q (fun _ _ => False) ⟨hp, gn, dr, t1, oS⟩) :
    wpAny (model PR w) A (eval (.List es pos) (envOf fname scope L a cd)) Q (fun _ _ => False) ⟨hp, gn, dr, tk, oS⟩ := List_ (as.sp Z F h)
theorem tu {k : Nat} {Q : Value → Shared → Prop} (Z : Zn w scope ns gs g) (F : Fr g L hp (lc ns vals)) (as : Atos w ns gs vals tk es vs t1) (h : wpAny (model PR w) A (newTuple vs) Q (fun _ _ => False) ⟨hp, gn, dr, t1, oS⟩) :
    wpAny (model PR w) A (eval (.Tuple es k pos) (envOf fname scope L a cd)) Q (fun _ _ => False) ⟨hp, gn, dr, tk, oS⟩ := Tuple_ (as.sp Z F h)
end
end Mine
end BA_
section S1_
namespace Mine
def b2i : Bool → Int
  | true => 1
  | false => 0
section
variable {w : World} {A : Around} {h₀ : Heap} {L : Addr} {m : Str → Option Value} {hp : Heap} {gn : Array GenState} {dr : Drawn} {tk : Nat} {oS : OsState} {P : Pl} {X news : Led} {st : St} {Φ : List Fact} {Q E : Value → Shared → Prop}

def text_held_S (a : Addr) (n : Nat) (t : Tok) (x : Str) : Prop := ∀ (O : Ok w A h₀ L 3) (F : Fr h₀ L hp m) (N : News h₀ L hp (X ++ news)) (H : Hs w P X st news Φ) (hx : Fact.tv a n (some x) ∈ Φ) (hret : ∀ t' h' tk', Fr h₀ L h' m → News h₀ L h' (X ++ news) → Q (.str x t') ⟨h', gn, dr, tk', oS⟩), wpAny (model PR w) A (call (.ref 505) [.ref P.m, .int (ad n) t]) Q E ⟨hp, gn, dr, tk, oS⟩
theorem text_held_r : ∀ r : ((((HT17 × Addr) × Nat) × Tok) × Str), (c17 (@text_held_S) r.1.1.1.1) r.1.1.1.2 r.1.1.2 r.1.2 r.2 := by
  refine ep_all (ne := by walk_at "NE") ((?_ : ∀ w A h₀ L m hp gn dr tk oS P X news st Φ Q E a n t x, @text_held_S w A h₀ L m hp gn dr tk oS P X news st Φ Q E a n t x) _ _ _ _ _ _ _ _ _ _ _ _ _ _ _ _ _ _ _ _ _)
  intro w A h₀ L m hp gn dr tk oS P X news st Φ Q E a n t x O F N H hx hret
  refine' callfE (d := 2) ["m", "addr"] ["thing"] ["STRING", "W_KIND"] [some (.ref P.m), some (.int (ad n) t), none] O F N ?ho ?hcd ?hb ?hl ?hS ?hc ?hv ["m", "addr", "thing"] ?hpm ?_
  walk_at "ENTERE"
  obtain ⟨σ, mem, pool, R, I, Tx, Fs⟩ := id H
  obtain ⟨i, rfl, hm⟩ := Tv.some (Fs _ hx)
  obtain ⟨th, hv, t1, t2, sl, tp, t3, t4, n, hi, hsl, htp⟩ := I.tab i x hm
  rw [← ad_succ] at hv
  (clear r33; clear s1 e_meth; clear s2 Attribute_any_; clear r14; clear s4 m_heap; clear s5 h_tab; clear s6 tab_method; clear s7 cbm; clear s8 tab_get; clear r124; clear r32; clear r48; clear r41; clear s9 is_none; clear r129; clear r132; clear r48; clear r43; clear r14; clear s11 th_kind; clear r1 Z16; clear s9 ne_int; clear r129; clear r132; clear s9 isTrue_or_nil; clear r132; clear r31; clear s9 Subscript_; clear s9 Subscript_; clear r14; clear s11 th_slots; clear r3; ((with_reducible refine il_0 ‹_› ‹_› ?_ ?hs); (case hs => with_unfolding_all exact rfl); skip); clear r3; ((with_reducible refine it_1 ‹_› ‹_› ?_ ?hs); (case hs => with_unfolding_all exact rfl); skip); clear r134)
  exact hret _ _ _ ‹_› ‹_›
theorem text_held {a n t x} (O : Ok w A h₀ L 3) (F : Fr h₀ L hp m) (N : News h₀ L hp (X ++ news)) (H : Hs w P X st news Φ) (hx : Fact.tv a n (some x) ∈ Φ)
    (hret : ∀ t' h' tk', Fr h₀ L h' m → News h₀ L h' (X ++ news) → Q (.str x t') ⟨h', gn, dr, tk', oS⟩) :
    wpAny (model PR w) A (call (.ref 505) [.ref P.m, .int (ad n) t]) Q E ⟨hp, gn, dr, tk, oS⟩ := text_held_r ((((((((((((((((((((w, A), h₀), L), m), hp), gn), dr), tk), oS), P), X), news), st), Φ), Q), E), a), n), t), x) O F N H hx hret

theorem text_of {a n t x} (O : Ok w A h₀ L 4) (F : Fr h₀ L hp m) (N : News h₀ L hp (X ++ news)) (H : Hs w P X st news Φ) (hx : Fact.tv a n (some x) ∈ Φ)
    (hret : ∀ t' h' tk', Fr h₀ L h' m → News h₀ L h' (X ++ news) → Q (.str x t') ⟨h', gn, dr, tk', oS⟩) :
    wpAny (model PR w) A (call (.ref 430) [.ref P.m, .int (ad n) t]) Q E ⟨hp, gn, dr, tk, oS⟩ := by
  refine' callf (d := 3) ["self", "addr"] [] ["text_held"] [some (.ref P.m), some (.int (ad n) t)] O F N ?ho ?hcd ?hb ?hl ?hS ?hc ?hv ["self", "addr"] ?hpm ?_
  walk_at "ENTER"
  (clear r31; clear r7 Z12 Z290; clear s13 text_held; clear r134)
  exact hret _ _ _ ‹_› ‹_›


def text_at_S (a : Addr) (n : Nat) (x : Str) : Prop := ∀ (O : Ok w A h₀ L 5) (F : Fr h₀ L hp m) (N : News h₀ L hp (X ++ news)) (H : Hs w P X st news Φ) (hx : Fact.tv a n (some x) ∈ Φ) (hret : ∀ t' h' tk', Fr h₀ L h' m → News h₀ L h' (X ++ news) → Q (.str x t') ⟨h', gn, dr, tk', oS⟩), wpAny (model PR w) A (call (.ref 540) [.ref P.m, .ref a]) Q E ⟨hp, gn, dr, tk, oS⟩
theorem text_at_r : ∀ r : (((HT17 × Addr) × Nat) × Str), (c17 (@text_at_S) r.1.1.1) r.1.1.2 r.1.2 r.2 := by
  refine ep_all (ne := by walk_at "NE") ((?_ : ∀ w A h₀ L m hp gn dr tk oS P X news st Φ Q E a n x, @text_at_S w A h₀ L m hp gn dr tk oS P X news st Φ Q E a n x) _ _ _ _ _ _ _ _ _ _ _ _ _ _ _ _ _ _ _ _)
  intro w A h₀ L m hp gn dr tk oS P X news st Φ Q E a n x O F N H hx hret
  refine' callfE (d := 4) ["m", "value"] [] [] [some (.ref P.m), some (.ref a)] O F N ?ho ?hcd ?hb ?hl ?hS ?hc ?hv ["m", "value"] ?hpm ?_
  walk_at "ENTERE"
  have hne : ¬ ad n = 0 := by
    intro h
    obtain ⟨mem, pool, hT⟩ := H.says hx
    obtain ⟨i, rfl, -⟩ := Tv.some hT
    exact absurd (ad_eq_zero h) (by lia)
  (clear r32; clear r43; clear r11; clear r87; clear r3; clear s9 eq_int; clear r129; clear r132; clear r31; clear r9; clear s4 mm_text_of; clear s14 c_mth Z331; clear r127; clear r11; clear r87; clear r125; clear r128; clear s13 text_of; clear r134)
  exact hret _ _ _ ‹_› ‹_›
theorem text_at {a n x} (O : Ok w A h₀ L 5) (F : Fr h₀ L hp m) (N : News h₀ L hp (X ++ news)) (H : Hs w P X st news Φ) (hx : Fact.tv a n (some x) ∈ Φ)
    (hret : ∀ t' h' tk', Fr h₀ L h' m → News h₀ L h' (X ++ news) → Q (.str x t') ⟨h', gn, dr, tk', oS⟩) :
    wpAny (model PR w) A (call (.ref 540) [.ref P.m, .ref a]) Q E ⟨hp, gn, dr, tk, oS⟩ := text_at_r (((((((((((((((((((w, A), h₀), L), m), hp), gn), dr), tk), oS), P), X), news), st), Φ), Q), E), a), n), x) O F N H hx hret

theorem text_at0 {a} (O : Ok w A h₀ L 5) (F : Fr h₀ L hp m) (N : News h₀ L hp (X ++ news)) (H : Hs w P X st news Φ) (hx : Fact.tv a 0 none ∈ Φ)
    (hret : ∀  h' tk', Fr h₀ L h' m → News h₀ L h' (X ++ news) → Q (.none) ⟨h', gn, dr, tk', oS⟩) :
    wpAny (model PR w) A (call (.ref 540) [.ref P.m, .ref a]) Q E ⟨hp, gn, dr, tk, oS⟩ := by
  refine' callf (d := 4) ["m", "value"] [] [] [some (.ref P.m), some (.ref a)] O F N ?ho ?hcd ?hb ?hl ?hS ?hc ?hv ["m", "value"] ?hpm ?_
  walk_at "ENTER"
  (clear r32; clear r43; clear r11; clear r87; clear r3; clear s9 eq_int; clear r129; clear r133; clear s3 re1; clear s9 Thn.ret; clear r134)
  exact hret _ _ ‹_› ‹_›


def bool_value_S (b : Bool) : Prop := ∀ (O : Ok w A h₀ L 1) (F : Fr h₀ L hp m) (N : News h₀ L hp (X ++ news)) (H : Hs w P X st news Φ) (hret : ∀ l t t' news' h' tk', Fr h₀ L h' m → News h₀ L h' (X ++ news') → Hs w P X st news' (Fact.tu l [.int 1 t, .int (b2i b) t'] :: Φ) → Q (.ref l) ⟨h', gn, dr, tk', oS⟩), wpAny (model PR w) A (call (.ref 526) [.bool b]) Q E ⟨hp, gn, dr, tk, oS⟩
theorem bool_value_r : ∀ r : (HT17 × Bool), (c17 (@bool_value_S) r.1) r.2 := by
  refine ep_all (ne := by walk_at "NE") ((?_ : ∀ w A h₀ L m hp gn dr tk oS P X news st Φ Q E b, @bool_value_S w A h₀ L m hp gn dr tk oS P X news st Φ Q E b) _ _ _ _ _ _ _ _ _ _ _ _ _ _ _ _ _ _)
  intro w A h₀ L m hp gn dr tk oS P X news st Φ Q E b O F N H hret
  refine' callfE (d := 0) ["yes"] [] ["V_I4"] [some (.bool b)] O F N ?ho ?hcd ?hb ?hl ?hS ?hc ?hv ["yes"] ?hpm ?_
  walk_at "ENTERE"
  cases b
  · (clear r32; (refine isTrue_plain ?_ ?he; (case he => exact rfl)); clear r0; clear r129; clear r132; clear r31; clear s9 Tuple_; clear r127; clear r1 Z21; clear r126; clear r125; clear r122; clear r134)
    exact hret _ _ _ _ _ _ ‹_› ‹_› ‹_›
  · (clear r32; (refine isTrue_plain ?_ ?he; (case he => exact rfl)); clear r0; clear r129; clear r133; clear r31; clear s9 Tuple_; clear r127; clear r1 Z21; clear r126; clear r125; clear r122; clear s9 Thn.ret; clear r134)
    exact hret _ _ _ _ _ _ ‹_› ‹_› ‹_›
theorem bool_value {b} (O : Ok w A h₀ L 1) (F : Fr h₀ L hp m) (N : News h₀ L hp (X ++ news)) (H : Hs w P X st news Φ) 
    (hret : ∀ l t t' news' h' tk', Fr h₀ L h' m → News h₀ L h' (X ++ news') → Hs w P X st news' (Fact.tu l [.int 1 t, .int (b2i b) t'] :: Φ) → Q (.ref l) ⟨h', gn, dr, tk', oS⟩) :
    wpAny (model PR w) A (call (.ref 526) [.bool b]) Q E ⟨hp, gn, dr, tk, oS⟩ := bool_value_r (((((((((((((((((w, A), h₀), L), m), hp), gn), dr), tk), oS), P), X), news), st), Φ), Q), E), b) O F N H hret

end
end Mine
end S1_
section S2_
namespace Mine

section
variable {w : World} {A : Around} {h₀ : Heap} {L : Addr} {m : Str → Option Value} {hp : Heap} {gn : Array GenState} {dr : Drawn} {tk : Nat} {oS : OsState} {P : Pl} {X news led : Led} {st : St} {σ : Sg} {Φ : List Fact} {Q E : Value → Shared → Prop}

theorem len_led1 {l : Addr} {v : Value} {n : Nat} (N : News h₀ L hp led) (hm : (l, listOf #[v] n) ∈ led) (h : Q (.int 1 (tk+1)) ⟨hp, gn, dr, tk + 1 + 1, oS⟩) :
    wpAny (model PR w) A (call (.builtin "len") [.ref l]) Q E ⟨hp, gn, dr, tk, oS⟩ := len_led N hm (Nat.le_of_ble_eq_true rfl) h

theorem words_for1 {t} (O : Ok w A h₀ L 1) (F : Fr h₀ L hp m) (N : News h₀ L hp (led)) 
    (hret : ∀ t' h' tk', Fr h₀ L h' m → News h₀ L h' led → Q (.int 3 t') ⟨h', gn, dr, tk', oS⟩) :
    wpAny (model PR w) A (call (.ref 79) [.int 1 t]) Q E ⟨hp, gn, dr, tk, oS⟩ := by
  refine' callf (d := 0) ["count"] [] ["LEAST_SIZE", "HEAD_WORDS"] [some (.int 1 t)] O F N ?ho ?hcd ?hb ?hl ?hS ?hc ?hv ["count"] ?hpm ?_
  walk_at "ENTER"
  (clear r32; clear r43; clear s9 wpAny_BinOp; clear r1 Z2; clear r0; clear s9 o_add; clear r1 Z1; clear s9 lt_int; clear r129; clear r132; clear r31; clear s9 wpAny_BinOp; clear r1 Z2; clear r0; clear s9 o_add; clear r134)
  exact hret _ _ _ ‹_› ‹_›


def thing_new_S (a : Int) (ta tb : Tok) (sl : Addr) (v0 : Value) (k : Nat) : Prop := ∀ (O : Ok w A h₀ L 4) (F : Fr h₀ L hp m) (N : News h₀ L hp led) (hs : (sl, listOf #[v0] k) ∈ led) (hret : ∀ x dx es n' t1 t2 t3 h' tk', Fr h₀ L h' m → News h₀ L h' ((x, instObj 96 dx) :: (dx, dictOf es n') :: led) → (∀ p ∈ led, p.1 ≠ dx) → (∀ p ∈ led, p.1 ≠ x) → x ≠ dx →
      Fs es [("serial", .int 0 t1), ("size", .int 3 t2), ("gen", .int 0 t3), ("slots", .ref sl), ("kind", .int 13 tb), ("addr", .int a ta)] 6 → Q (.ref x) ⟨h', gn, dr, tk', oS⟩), wpAny (model PR w) A (call (.ref 96) [.int a ta, .int 13 tb, .ref sl]) Q E ⟨hp, gn, dr, tk, oS⟩
theorem thing_new_r : ∀ r : ((((((HT13 × Int) × Tok) × Tok) × Addr) × Value) × Nat), (c13 (@thing_new_S) r.1.1.1.1.1.1) r.1.1.1.1.1.2 r.1.1.1.1.2 r.1.1.1.2 r.1.1.2 r.1.2 r.2 := by
  refine ep_all (ne := by walk_at "NE") ((?_ : ∀ w A h₀ L m hp gn dr tk oS led Q E a ta tb sl v0 k, @thing_new_S w A h₀ L m hp gn dr tk oS led Q E a ta tb sl v0 k) _ _ _ _ _ _ _ _ _ _ _ _ _ _ _ _ _ _ _)
  intro w A h₀ L m hp gn dr tk oS led Q E a ta tb sl v0 k O F N hs hret
  refine new_inst O F N (Z96 w) (Z98 w) (Z99 w) fun x dx h1 F1 N1 l1 l2 hx O1 => ?_
  refine' callcE (d := 2) ["self", "addr", "kind", "slots"] [] ["words_for", "len"] [some (.ref x), some (.int a ta), some (.int 13 tb), some (.ref sl)] O1 F1 N1 ?ho ?hcd ?hb ?hl ?hS ?hc ?hv ["self", "addr", "kind", "slots"] ?hpm ?_
  walk_at "ENTERE"
  have Fl0 := Fs.nil
  have hs' : (sl, listOf #[v0] k) ∈ (x, instObj 96 dx) :: (dx, dictOf [] 0) :: led := .tail _ (.tail _ hs)
  (clear r35; clear r0; clear r0; clear s16 set_F Z101 Z100 Z102 Z95; clear r35; clear r0; clear r0; clear s16 set_F Z101 Z100 Z103 Z95; clear r35; clear r0; clear r0; clear s16 set_F Z101 Z100 Z104 Z95; clear r35; clear r3; clear r0; clear s16 set_F Z101 Z100 Z105 Z95; clear r35; clear r8; clear r1 Z3; clear r109 Z288; clear r127; clear r8; clear r2 Z88; clear r107; (with_reducible refine len_led1 ‹_› ‹0› ?_); clear r125; clear r128; ((with_reducible refine words_for1 ‹8› ‹_› ‹_› ?_); intro t' h' tk' F' N'); clear r0; clear s16 set_F Z101 Z100 Z106 Z95; clear r35; clear r3; clear r0; clear s16 set_F Z101 Z100 Z107 Z95; clear s9 wpAny_execs_nil; ((with_reducible show Ret _ _ _ _ _ _ _); refine Ret.ini ‹_› ‹_› ?_; intro kF kN))

  exact hret _ _ _ _ _ _ _ _ _ kF kN l1 l2 hx Fl'
theorem thing_new {a : Int} {ta tb : Tok} {sl : Addr} {v0 : Value} {k : Nat} (O : Ok w A h₀ L 4) (F : Fr h₀ L hp m) (N : News h₀ L hp led) (hs : (sl, listOf #[v0] k) ∈ led)
    (hret : ∀ x dx es n' t1 t2 t3 h' tk', Fr h₀ L h' m → News h₀ L h' ((x, instObj 96 dx) :: (dx, dictOf es n') :: led) → (∀ p ∈ led, p.1 ≠ dx) → (∀ p ∈ led, p.1 ≠ x) → x ≠ dx →
      Fs es [("serial", .int 0 t1), ("size", .int 3 t2), ("gen", .int 0 t3), ("slots", .ref sl), ("kind", .int 13 tb), ("addr", .int a ta)] 6 → Q (.ref x) ⟨h', gn, dr, tk', oS⟩) :
    wpAny (model PR w) A (call (.ref 96) [.int a ta, .int 13 tb, .ref sl]) Q E ⟨hp, gn, dr, tk, oS⟩ := thing_new_r ((((((((((((((((((w, A), h₀), L), m), hp), gn), dr), tk), oS), led), Q), E), a), ta), tb), sl), v0), k) O F N hs hret

def first_slots_S (t u : Tok) : Prop := ∀ (O : Ok w A h₀ L 1) (F : Fr h₀ L hp m) (N : News h₀ L hp (led)) (hret : ∀ sl tp t3 t4 h' tk', Fr h₀ L h' m → News h₀ L h' ((sl, listOf #[.ref tp] 0) :: (tp, tupOf [.int 8 t3, .str "" t4]) :: led) → (∀ p ∈ led, p.1 ≠ tp) → (∀ p ∈ (tp, tupOf [.int 8 t3, .str "" t4]) :: led, p.1 ≠ sl) → Q (.ref sl) ⟨h', gn, dr, tk', oS⟩), wpAny (model PR w) A (call (.ref 491) [.ref P.m, .int 13 t, .int 1 u]) Q E ⟨hp, gn, dr, tk, oS⟩
theorem first_slots_r : ∀ r : (((((((((((((((World × Around) × Heap) × Addr) × (Str → Option Value)) × Heap) × (Array GenState)) × Drawn) × Nat) × OsState) × Pl) × Led) × (Value → Shared → Prop)) × (Value → Shared → Prop)) × Tok) × Tok), @first_slots_S r.1.1.1.1.1.1.1.1.1.1.1.1.1.1.1 r.1.1.1.1.1.1.1.1.1.1.1.1.1.1.2 r.1.1.1.1.1.1.1.1.1.1.1.1.1.2 r.1.1.1.1.1.1.1.1.1.1.1.1.2 r.1.1.1.1.1.1.1.1.1.1.1.2 r.1.1.1.1.1.1.1.1.1.1.2 r.1.1.1.1.1.1.1.1.1.2 r.1.1.1.1.1.1.1.1.2 r.1.1.1.1.1.1.1.2 r.1.1.1.1.1.1.2 r.1.1.1.1.1.2 r.1.1.1.1.2 r.1.1.1.2 r.1.1.2 r.1.2 r.2 := by
  refine ep_all (ne := by walk_at "NE") ((?_ : ∀ w A h₀ L m hp gn dr tk oS P led Q E t u, @first_slots_S w A h₀ L m hp gn dr tk oS P led Q E t u) _ _ _ _ _ _ _ _ _ _ _ _ _ _ _ _)
  intro w A h₀ L m hp gn dr tk oS P led Q E t u O F N hret
  refine' callfE (d := 0) ["m", "kind", "count"] ["sort", "out", "k"] ["STRING", "V_TEXT", "is_value", "kind_sort", "R_ARRAY", "elem_of", "R_CLASS", "len", "NULLV"] [some (.ref P.m), some (.int 13 t), some (.int 1 u), none, none, none] O F N ?ho ?hcd ?hb ?hl ?hS ?hc ?hv ["m", "kind", "count", "sort", "out", "k"] ?hpm ?_
  walk_at "ENTERE"
  (clear r32; clear r42; clear r1 Z16; clear s9 eq_int; clear r129; clear r133; clear r31; clear s9 List_; clear r127; clear s9 Tuple_; clear r127; clear r1 Z17; clear r126; clear r125; ((with_reducible refine newTuple_X ‹_› ‹_› ?hz ?_); (case hz => exact Nat.le_of_ble_eq_true rfl); intro l' h' F' N' l1'); clear r125; ((with_reducible refine newList_X ‹_› ‹_› ?hz ?_); (case hz => exact Nat.le_of_ble_eq_true rfl); intro l' h' F' N' l1'); clear s9 Thn.ret; clear r134)
  exact hret _ _ _ _ _ _ kF kN ‹_› ‹_›
theorem first_slots {t u} (O : Ok w A h₀ L 1) (F : Fr h₀ L hp m) (N : News h₀ L hp (led)) 
    (hret : ∀ sl tp t3 t4 h' tk', Fr h₀ L h' m → News h₀ L h' ((sl, listOf #[.ref tp] 0) :: (tp, tupOf [.int 8 t3, .str "" t4]) :: led) → (∀ p ∈ led, p.1 ≠ tp) → (∀ p ∈ (tp, tupOf [.int 8 t3, .str "" t4]) :: led, p.1 ≠ sl) → Q (.ref sl) ⟨h', gn, dr, tk', oS⟩) :
    wpAny (model PR w) A (call (.ref 491) [.ref P.m, .int 13 t, .int 1 u]) Q E ⟨hp, gn, dr, tk, oS⟩ := first_slots_r (((((((((((((((w, A), h₀), L), m), hp), gn), dr), tk), oS), P), led), Q), E), t), u) O F N hret

theorem before  (O : Ok w A h₀ L 1) (F : Fr h₀ L hp m) (N : News h₀ L hp (led)) 
    (hret : ∀ h' tk', Fr h₀ L h' m → News h₀ L h' led → Q .none ⟨h', gn, dr, tk', oS⟩) :
    wpAny (model PR w) A (call (.ref 220) [.ref P.sweep, .ref P.m]) Q E ⟨hp, gn, dr, tk, oS⟩ := by
  refine' callf (d := 0) ["self", "m"] [] [] [some (.ref P.sweep), some (.ref P.m)] O F N ?ho ?hcd ?hb ?hl ?hS ?hc ?hv ["self", "m"] ?hpm ?_
  walk_at "ENTER"
  (clear s3 re1; clear r134)
  exact hret _ _ kF kN


end
end Mine
end S2_
section S3_
namespace Mine

section
variable {w : World} {A : Around} {h₀ : Heap} {L : Addr} {m : Str → Option Value} {hp : Heap} {gn : Array GenState} {dr : Drawn} {tk : Nat} {oS : OsState} {P : Pl} {X news led : Led} {st : St} {σ : Sg} {Φ : List Fact} {Q E : Value → Shared → Prop}

theorem all3 {es : List DictEntry} {n1 n2 n3 : Str} {v1 v2 v3 : Value} (h1 : getL n1 es = some (some v1)) (h2 : getL n2 es = some (some v2)) (h3 : getL n3 es = some (some v3)) : ∀ p ∈ [(n1, v1), (n2, v2), (n3, v3)], getL p.1 es = some (some p.2) := by
  intro p hp
  simp only [List.mem_cons, List.not_mem_nil, or_false] at hp
  rcases hp with rfl | rfl | rfl
  · exact h1
  · exact h2
  · exact h3
theorem thing_newX {a : Int} {ta tb : Tok} {sl : Addr} {v0 : Value} {k : Nat} (O : Ok w A h₀ L 4) (F : Fr h₀ L hp m) (N : News h₀ L hp (X ++ news)) (R : Rep w P X σ news) (hs : (sl, listOf #[v0] k) ∈ X)
    (hret : ∀ x dx es n' t1 t2 t3 h' tk', Fr h₀ L h' m → News h₀ L h' (((x, instObj 96 dx) :: (dx, dictOf es n') :: X) ++ news) → Rep w P ((x, instObj 96 dx) :: (dx, dictOf es n') :: X) σ news → (∀ p ∈ X, p.1 ≠ dx) → (∀ p ∈ X, p.1 ≠ x) → x ≠ dx →
      Fs es [("serial", .int 0 t1), ("size", .int 3 t2), ("gen", .int 0 t3), ("slots", .ref sl), ("kind", .int 13 tb), ("addr", .int a ta)] 6 → Q (.ref x) ⟨h', gn, dr, tk', oS⟩) :
    wpAny (model PR w) A (call (.ref 96) [.int a ta, .int 13 tb, .ref sl]) Q E ⟨hp, gn, dr, tk, oS⟩ :=
  thing_new O F N (List.mem_append_left _ hs) fun x dx es n' t1 t2 t3 h' tk' F' N' l1 l2 hx Fl => hret x dx es n' t1 t2 t3 h' tk' F' N'
    ((R.into (p := (dx, dictOf es n')) fun q hq => l1 q (List.mem_append_right _ hq)).into (p := (x, instObj 96 dx)) fun q hq => l2 q (List.mem_append_right _ hq))
    (fun p hp => l1 p (List.mem_append_left _ hp)) (fun p hp => l2 p (List.mem_append_left _ hp)) hx Fl

def heap_alloc_S (tb : Tok) (sl : Addr) (v0 : Value) (k : Nat) : Prop := ∀ (O : Ok w A h₀ L 6) (F : Fr h₀ L hp m) (N : News h₀ L hp (X ++ news)) (R : Rep w P X σ news) (hs : (sl, listOf #[v0] k) ∈ X) (hz1 : σ.nth ≤ 1000000) (hz2 : σ.tab.length ≤ 1000000) (hret : ∀ x news' h' t1 t2 tk', Fr h₀ L h' m → News h₀ L h' (X ++ news') → Rep w P X (σ.grown x) news' → Stay P news news' →
      Inst P news' x 96 [("addr", .int σ.top t1), ("kind", .int 13 t2), ("slots", .ref sl)] [] → Q (.ref x) ⟨h', gn, dr, tk', oS⟩), wpAny (model PR w) A (call (.ref 128) [.ref P.h, .int 13 tb, .ref sl]) Q E ⟨hp, gn, dr, tk, oS⟩
theorem heap_alloc_r : ∀ r : ((((HT16 × Tok) × Addr) × Value) × Nat), (c16 (@heap_alloc_S) r.1.1.1.1) r.1.1.1.2 r.1.1.2 r.1.2 r.2 := by
  refine ep_all (ne := by walk_at "NE") ((?_ : ∀ w A h₀ L m hp gn dr tk oS P X news σ Q E tb sl v0 k, @heap_alloc_S w A h₀ L m hp gn dr tk oS P X news σ Q E tb sl v0 k) _ _ _ _ _ _ _ _ _ _ _ _ _ _ _ _ _ _ _ _)
  intro w A h₀ L m hp gn dr tk oS P X news σ Q E tb sl v0 k O F N R hs hz1 hz2 hret
  refine' callfE (d := 5) ["heap", "kind", "slots"] ["thing"] ["Thing"] [some (.ref P.h), some (.int 13 tb), some (.ref sl), none] O F N ?ho ?hcd ?hb ?hl ?hS ?hc ?hv ["heap", "kind", "slots", "thing"] ?hpm ?_
  walk_at "ENTERE"
  (clear r33; clear r8; clear r1 Z5; clear r109 Z97; clear r127; clear r14; clear s17 h_top; clear r126; clear r126; clear r125; clear r128; ((with_reducible refine thing_newX ‹8› ‹_› ‹_› ‹_› ‹_› ?_); intro x dx es' n' t1' t2' t3' h' tk' F' N' R' l1 l2 hx Fl'); clear r124; clear s9 x_auga; clear r0; clear s17 h_made; clear r3; clear s9 o_iadd; clear s18 set_made; clear r35; clear r14; clear s17 h_made; clear r0; ((with_reducible refine set_FX ‹_› ‹_› ‹_› ‹_› ‹_› ‹_› ‹_› ?hb (by clear gl Z101 Z100 Z107 Z95) (by clear gl Z101 Z100 Z107 Z95) (by clear gl Z101 Z100 Z107 Z95) (by clear gl Z101 Z100 Z107 Z95) ?_); (case hb => exact Nat.le_of_ble_eq_true rfl); intro es' n' h' F' N' R' Fl'); clear s19 x_expr; clear s1 e_meth; clear r14; clear s5 h_things; clear s6 gm_things; clear s7 cbm; clear s20 things_add; clear s0 x_item; clear r0; clear r14; clear s5 h_tab; clear r14; clear s21 get_FX Z94 Z95 Z102; clear s20 tab_set; clear s9 x_auga; clear r0; clear s17 h_top; clear r14; clear s21 get_FX Z94 Z95 Z106; clear s9 o_iadd; clear s18 set_top; clear s9 x_auga; clear r0; clear s17 h_fresh; clear r14; clear s21 get_FX Z94 Z95 Z106; clear s9 o_iadd; clear s18 set_fresh; clear s3 re1; clear r134)
  obtain ⟨Ra, ma⟩ := R'.adopt (fun q hq => by
    rcases List.mem_cons.mp hq with rfl | hq
    · exact fun e => hx e.symm
    · exact l2 q hq)
  obtain ⟨Rb, mb⟩ := Ra.adopt l1
  have N1 := news_adopt (news_adopt kN)
  have fa := Fl'.1 _ (put1_mem (name := "serial") (.tail _ (.tail _ (.tail _ (.tail _ (.tail _ (.head _)))))) rfl)
  have fk := Fl'.1 _ (put1_mem (name := "serial") (.tail _ (.tail _ (.tail _ (.tail _ (.head _))))) rfl)
  have fs := Fl'.1 _ (put1_mem (name := "serial") (.tail _ (.tail _ (.tail _ (.head _)))) rfl)
  exact hret x _ _ _ _ _ kF N1 Rb (.trans (by ((repeat' (first | with_reducible assumption | with_reducible exact Stay.refl | with_reducible refine Stay.trans ‹_› ?_)); first | all_goals fail | fail)) (.trans .cons .cons)) ⟨dx, _, _, ⟨.tail _ (.head _), ma⟩, ⟨.head _, mb⟩, (fun p hp => all3 fa fk fs p hp), fun _ h => nomatch h⟩
theorem heap_alloc {tb : Tok} {sl : Addr} {v0 : Value} {k : Nat} (O : Ok w A h₀ L 6) (F : Fr h₀ L hp m) (N : News h₀ L hp (X ++ news)) (R : Rep w P X σ news) (hs : (sl, listOf #[v0] k) ∈ X) (hz1 : σ.nth ≤ 1000000) (hz2 : σ.tab.length ≤ 1000000)
    (hret : ∀ x news' h' t1 t2 tk', Fr h₀ L h' m → News h₀ L h' (X ++ news') → Rep w P X (σ.grown x) news' → Stay P news news' →
      Inst P news' x 96 [("addr", .int σ.top t1), ("kind", .int 13 t2), ("slots", .ref sl)] [] → Q (.ref x) ⟨h', gn, dr, tk', oS⟩) :
    wpAny (model PR w) A (call (.ref 128) [.ref P.h, .int 13 tb, .ref sl]) Q E ⟨hp, gn, dr, tk, oS⟩ := heap_alloc_r (((((((((((((((((((w, A), h₀), L), m), hp), gn), dr), tk), oS), P), X), news), σ), Q), E), tb), sl), v0), k) O F N R hs hz1 hz2 hret

end
end Mine
end S3_
section S4_
namespace Mine

section
variable {w : World} {A : Around} {h₀ : Heap} {L : Addr} {m : Str → Option Value} {hp : Heap} {gn : Array GenState} {dr : Drawn} {tk : Nat} {oS : OsState} {P : Pl} {X news led : Led} {st : St} {σ : Sg} {Φ : List Fact} {Q E : Value → Shared → Prop}

theorem first_slotsX {t u : Tok} (O : Ok w A h₀ L 1) (F : Fr h₀ L hp m) (N : News h₀ L hp (X ++ news)) (R : Rep w P X σ news)
    (hret : ∀ sl tp t3 t4 h' tk', Fr h₀ L h' m → News h₀ L h' (((sl, listOf #[.ref tp] 0) :: X) ++ ((tp, tupOf [.int 8 t3, .str "" t4]) :: news)) → Rep w P ((sl, listOf #[.ref tp] 0) :: X) σ ((tp, tupOf [.int 8 t3, .str "" t4]) :: news) → (∀ p ∈ X, p.1 ≠ sl) →
      Stay P news ((tp, tupOf [.int 8 t3, .str "" t4]) :: news) → Q (.ref sl) ⟨h', gn, dr, tk', oS⟩) :
    wpAny (model PR w) A (call (.ref 491) [.ref P.m, .int 13 t, .int 1 u]) Q E ⟨hp, gn, dr, tk, oS⟩ :=
  first_slots O F N fun sl tp t3 t4 h' tk' F' N' l1 l2 => by
    have R1 := R.into (p := (tp, tupOf [.int 8 t3, .str "" t4])) fun q hq => l1 q (List.mem_append_right _ hq)
    obtain ⟨R2, -⟩ := R1.adopt fun q hq => l1 q (List.mem_append_left _ hq)
    have R3 := R2.into (p := (sl, listOf #[.ref tp] 0)) fun q hq => by
      rcases List.mem_cons.mp hq with rfl | hq
      · exact l2 _ (.head _)
      · exact l2 _ (.tail _ (List.mem_append_right _ hq))
    refine hret sl tp t3 t4 h' tk' F' ?_ R3 (fun q hq => l2 q (.tail _ (List.mem_append_left _ hq))) .cons
    refine news_sub N' fun p hp => ?_
    simp only [List.cons_append, List.mem_cons, List.mem_append] at hp ⊢
    rcases hp with h | h | h | h
    · exact .inl h
    · exact .inr (.inr (.inl h))
    · exact .inr (.inl h)
    · exact .inr (.inr (.inr h))

def alloc_thing_S (t u : Tok) : Prop := ∀ (O : Ok w A h₀ L 7) (F : Fr h₀ L hp m) (N : News h₀ L hp (X ++ news)) (R : Rep w P X σ news) (hz1 : σ.nth ≤ 1000000) (hz2 : σ.tab.length ≤ 1000000) (hret : ∀ x sl tp n news' h' t1 t2 tk', Fr h₀ L h' m → News h₀ L h' (((sl, listOf #[.ref tp] n) :: X) ++ news') → Rep w P ((sl, listOf #[.ref tp] n) :: X) (σ.grown x) news' → (∀ p ∈ X, p.1 ≠ sl) → Stay P news news' → Inst P news' x 96 [("addr", .int σ.top t1), ("kind", .int 13 t2), ("slots", .ref sl)] [] → Q (.ref x) ⟨h', gn, dr, tk', oS⟩), wpAny (model PR w) A (call (.ref 498) [.ref P.m, .int 13 t, .int 1 u]) Q E ⟨hp, gn, dr, tk, oS⟩
theorem alloc_thing_r : ∀ r : ((HT16 × Tok) × Tok), (c16 (@alloc_thing_S) r.1.1) r.1.2 r.2 := by
  refine ep_all (ne := by walk_at "NE") ((?_ : ∀ w A h₀ L m hp gn dr tk oS P X news σ Q E t u, @alloc_thing_S w A h₀ L m hp gn dr tk oS P X news σ Q E t u) _ _ _ _ _ _ _ _ _ _ _ _ _ _ _ _ _ _)
  intro w A h₀ L m hp gn dr tk oS P X news σ Q E t u O F N R hz1 hz2 hret
  refine' callfE (d := 6) ["m", "kind", "count"] [] ["heap_alloc", "first_slots"] [some (.ref P.m), some (.int 13 t), some (.int 1 u)] O F N ?ho ?hcd ?hb ?hl ?hS ?hc ?hv ["m", "kind", "count"] ?hpm ?_
  walk_at "ENTERE"
  (clear s19 x_expr; clear s1 e_meth; clear r14; clear s4 m_sweeper; clear s4 sw_before; clear s22 cm Z335; ((with_reducible refine before ‹8› ‹_› ‹_› ?_); intro h' tk' F' N'); clear r31; clear r8; clear r1 Z18; clear r109 Z293; clear r127; clear r14; clear s4 m_heap; clear r126; clear r127; clear r7 Z19 Z294; ((with_reducible refine first_slotsX ‹8› ‹_› ‹_› ‹_› ?_); intro sl tp t3 t4 h' tk' F' N' R' lsl K'); clear r125; clear r128; ((with_reducible refine heap_alloc ‹8› ‹_› ‹_› ‹_› ‹0› ?hz1 ?hz2 ?_); (case hz1 => (first | assumption | lia)); (case hz2 => (first | assumption | lia)); intro x n' h' t1' t2' tk' F' N' R' K' I'); clear r134)
  exact hret _ _ _ _ _ _ _ _ _ kF kN R' lsl (by ((repeat' (first | with_reducible assumption | with_reducible exact Stay.refl | with_reducible refine Stay.trans ‹_› ?_)); first | all_goals fail | fail)) I'
theorem alloc_thing {t u : Tok} (O : Ok w A h₀ L 7) (F : Fr h₀ L hp m) (N : News h₀ L hp (X ++ news)) (R : Rep w P X σ news) (hz1 : σ.nth ≤ 1000000) (hz2 : σ.tab.length ≤ 1000000)
    (hret : ∀ x sl tp n news' h' t1 t2 tk', Fr h₀ L h' m → News h₀ L h' (((sl, listOf #[.ref tp] n) :: X) ++ news') → Rep w P ((sl, listOf #[.ref tp] n) :: X) (σ.grown x) news' → (∀ p ∈ X, p.1 ≠ sl) → Stay P news news' → Inst P news' x 96 [("addr", .int σ.top t1), ("kind", .int 13 t2), ("slots", .ref sl)] [] → Q (.ref x) ⟨h', gn, dr, tk', oS⟩) :
    wpAny (model PR w) A (call (.ref 498) [.ref P.m, .int 13 t, .int 1 u]) Q E ⟨hp, gn, dr, tk, oS⟩ := alloc_thing_r (((((((((((((((((w, A), h₀), L), m), hp), gn), dr), tk), oS), P), X), news), σ), Q), E), t), u) O F N R hz1 hz2 hret

theorem shelf_alloc {t u : Tok} (O : Ok w A h₀ L 8) (F : Fr h₀ L hp m) (N : News h₀ L hp (X ++ news)) (R : Rep w P X σ news) (hz1 : σ.nth ≤ 1000000) (hz2 : σ.tab.length ≤ 1000000)
    (hret : ∀ x sl tp n news' h' t1 t2 tk', Fr h₀ L h' m → News h₀ L h' (((sl, listOf #[.ref tp] n) :: X) ++ news') → Rep w P ((sl, listOf #[.ref tp] n) :: X) (σ.grown x) news' → (∀ p ∈ X, p.1 ≠ sl) → Stay P news news' → Inst P news' x 96 [("addr", .int σ.top t1), ("kind", .int 13 t2), ("slots", .ref sl)] [] → Q (.ref x) ⟨h', gn, dr, tk', oS⟩) :
    wpAny (model PR w) A (call (.ref 416) [.ref P.m, .int 13 t, .int 1 u]) Q E ⟨hp, gn, dr, tk, oS⟩ := by
  refine' callf (d := 7) ["self", "kind", "count"] [] ["alloc_thing"] [some (.ref P.m), some (.int 13 t), some (.int 1 u)] O F N ?ho ?hcd ?hb ?hl ?hS ?hc ?hv ["self", "kind", "count"] ?hpm ?_
  walk_at "ENTER"
  (clear r31; clear r7 Z11 Z289; ((with_reducible refine alloc_thing ‹8› ‹_› ‹_› ‹_› ?hz1 ?hz2 ?_); (case hz1 => (first | assumption | lia)); (case hz2 => (first | assumption | lia)); intro th sl tp n' n2' h' t1 t2 tk' F' N' R' lsl K' I'); clear r134)
  exact hret _ _ _ _ _ _ _ _ _ kF kN R' lsl (by ((repeat' (first | with_reducible assumption | with_reducible exact Stay.refl | with_reducible refine Stay.trans ‹_› ?_)); first | all_goals fail | fail)) I'


def made_text_S (x : Str) (t : Tok) : Prop := ∀ (O : Ok w A h₀ L 9) (F : Fr h₀ L hp m) (N : News h₀ L hp (X ++ news)) (R : Rep w P X σ news) (hz1 : σ.nth ≤ 1000000) (hz2 : σ.tab.length ≤ 1000000) (hret : ∀ l th t t' news' h' tk', Fr h₀ L h' m → News h₀ L h' (X ++ news') → Rep w P X (σ.grown th) news' → Stay P news news' → Thing P news' th σ.top x → Im P news' l (tupOf [.int 4 t, .int σ.top t']) → Q (.ref l) ⟨h', gn, dr, tk', oS⟩), wpAny (model PR w) A (call (.ref 512) [.ref P.m, .str x t]) Q E ⟨hp, gn, dr, tk, oS⟩
theorem made_text_r : ∀ r : ((HT16 × Str) × Tok), (c16 (@made_text_S) r.1.1) r.1.2 r.2 := by
  refine ep_all (ne := by walk_at "NE") ((?_ : ∀ w A h₀ L m hp gn dr tk oS P X news σ Q E x t, @made_text_S w A h₀ L m hp gn dr tk oS P X news σ Q E x t) _ _ _ _ _ _ _ _ _ _ _ _ _ _ _ _ _ _)
  intro w A h₀ L m hp gn dr tk oS P X news σ Q E x t O F N R hz1 hz2 hret
  refine' callfE (d := 8) ["m", "text"] ["thing"] ["STRING", "V_TEXT", "V_REF"] [some (.ref P.m), some (.str x t), none] O F N ?ho ?hcd ?hb ?hl ?hS ?hc ?hv ["m", "text", "thing"] ?hpm ?_
  walk_at "ENTERE"
  (clear r33; clear r9; clear s4 mm_alloc; clear s14 c_mth Z330; clear r127; clear r1 Z16; clear r126; clear r125; clear r128; ((with_reducible refine shelf_alloc ‹8› ‹_› ‹_› ‹_› ?hz1 ?hz2 ?_); (case hz1 => (first | assumption | lia)); (case hz2 => (first | assumption | lia)); intro th sl tp n' n2' h' t1 t2 tk' F' N' R' lsl K' I'); clear r124; clear s0 x_item; clear s9 Tuple_; clear r127; clear r1 Z17; clear r126; clear r125; ((with_reducible refine newTuple_R ‹_› ‹_› ‹_› ?hz ?_); (case hz => exact Nat.le_of_ble_eq_true rfl); intro l' h' F' N' R' I' K'); clear r14; ((with_reducible refine th_slots ‹_› ‹_› ‹_› (Inst.mono' ‹_› (by ((repeat' (first | with_reducible assumption | with_reducible exact Stay.refl | with_reducible refine Stay.trans ‹_› ?_)); first | all_goals fail | fail))) ?hv ?_); (case hv => exact rfl); skip); clear r3; ((with_reducible refine set_X ‹_› ‹_› ‹_› ‹_› ?_); intro h' F' N' R'); clear r31; clear s9 Tuple_; clear r127; clear r1 Z20; clear r127; clear r14; ((with_reducible refine th_addr ‹_› ‹_› ‹_› (Inst.mono' ‹_› (by ((repeat' (first | with_reducible assumption | with_reducible exact Stay.refl | with_reducible refine Stay.trans ‹_› ?_)); first | all_goals fail | fail))) ?hv ?_); (case hv => exact rfl); skip); clear r125; ((with_reducible refine newTuple_R ‹_› ‹_› ‹_› ?hz ?_); (case hz => exact Nat.le_of_ble_eq_true rfl); intro l' h' F' N' R' I' K'); clear r134)
  obtain ⟨R2, msl⟩ := R'.adopt lsl
  have N2 := news_adopt kN
  exact hret _ th _ _ _ _ _ kF N2 R2 (.trans (.trans ‹_› ‹_›) (.trans ‹_› .cons)) ⟨_, _, sl, _, _, _, n', .mono' ‹_› (.trans ‹_› (.trans ‹_› .cons)), ⟨.head _, msl⟩, ⟨.tail _ (.tail _ (.head _)), by assumption⟩⟩ ⟨.tail _ (.head _), by assumption⟩
theorem made_text {x t} (O : Ok w A h₀ L 9) (F : Fr h₀ L hp m) (N : News h₀ L hp (X ++ news)) (R : Rep w P X σ news) (hz1 : σ.nth ≤ 1000000) (hz2 : σ.tab.length ≤ 1000000)
    (hret : ∀ l th t t' news' h' tk', Fr h₀ L h' m → News h₀ L h' (X ++ news') → Rep w P X (σ.grown th) news' → Stay P news news' → Thing P news' th σ.top x → Im P news' l (tupOf [.int 4 t, .int σ.top t']) → Q (.ref l) ⟨h', gn, dr, tk', oS⟩) :
    wpAny (model PR w) A (call (.ref 512) [.ref P.m, .str x t]) Q E ⟨hp, gn, dr, tk, oS⟩ := made_text_r (((((((((((((((((w, A), h₀), L), m), hp), gn), dr), tk), oS), P), X), news), σ), Q), E), x), t) O F N R hz1 hz2 hret

def new_textR_S (x : Str) (t : Tok) : Prop := ∀ (O : Ok w A h₀ L 10) (F : Fr h₀ L hp m) (N : News h₀ L hp (X ++ news)) (R : Rep w P X σ news) (hz1 : σ.nth ≤ 1000000) (hz2 : σ.tab.length ≤ 1000000) (hret : ∀ l th t t' news' h' tk', Fr h₀ L h' m → News h₀ L h' (X ++ news') → Rep w P X (σ.grown th) news' → Stay P news news' → Thing P news' th σ.top x → Im P news' l (tupOf [.int 4 t, .int σ.top t']) → Q (.ref l) ⟨h', gn, dr, tk', oS⟩), wpAny (model PR w) A (call (.ref 444) [.ref P.m, .str x t]) Q E ⟨hp, gn, dr, tk, oS⟩
theorem new_textR_r : ∀ r : ((HT16 × Str) × Tok), (c16 (@new_textR_S) r.1.1) r.1.2 r.2 := by
  refine ep_all (ne := by walk_at "NE") ((?_ : ∀ w A h₀ L m hp gn dr tk oS P X news σ Q E x t, @new_textR_S w A h₀ L m hp gn dr tk oS P X news σ Q E x t) _ _ _ _ _ _ _ _ _ _ _ _ _ _ _ _ _ _)
  intro w A h₀ L m hp gn dr tk oS P X news σ Q E x t O F N R hz1 hz2 hret
  refine' callfE (d := 9) ["self", "text"] [] ["made_text"] [some (.ref P.m), some (.str x t)] O F N ?ho ?hcd ?hb ?hl ?hS ?hc ?hv ["self", "text"] ?hpm ?_
  walk_at "ENTERE"
  (clear r31; clear r7 Z14 Z292; ((with_reducible refine made_text ‹8› ‹_› ‹_› ‹_› ?hz1 ?hz2 ?_); (case hz1 => (first | assumption | lia)); (case hz2 => (first | assumption | lia)); intro l' th t1' t2' n2' h' tk' F' N' R' K' T1 I'); clear r134)
  exact hret _ _ _ _ _ _ _ kF kN R' K' T1 I'
theorem new_textR {x t} (O : Ok w A h₀ L 10) (F : Fr h₀ L hp m) (N : News h₀ L hp (X ++ news)) (R : Rep w P X σ news) (hz1 : σ.nth ≤ 1000000) (hz2 : σ.tab.length ≤ 1000000)
    (hret : ∀ l th t t' news' h' tk', Fr h₀ L h' m → News h₀ L h' (X ++ news') → Rep w P X (σ.grown th) news' → Stay P news news' → Thing P news' th σ.top x → Im P news' l (tupOf [.int 4 t, .int σ.top t']) → Q (.ref l) ⟨h', gn, dr, tk', oS⟩) :
    wpAny (model PR w) A (call (.ref 444) [.ref P.m, .str x t]) Q E ⟨hp, gn, dr, tk, oS⟩ := new_textR_r (((((((((((((((((w, A), h₀), L), m), hp), gn), dr), tk), oS), P), X), news), σ), Q), E), x), t) O F N R hz1 hz2 hret

theorem new_text {x : Str} {t : Tok} (O : Ok w A h₀ L 10) (F : Fr h₀ L hp m) (N : News h₀ L hp (X ++ news)) (H : Hs w P X st news Φ) (hz : st.b ≤ 1000000)
    (hret : ∀ l n news' h' tk', Fr h₀ L h' m → News h₀ L h' (X ++ news') → 0 < n → (∀ a' n' os', Fact.tv a' n' os' ∈ Φ → n' < n) → (∀ s n', Fact.pool s n' ∈ Φ → n' < n) → Stay P news news' → Hs w P X ⟨st.T, st.th, st.b + 1, st.fc⟩ news' (.tv l n (some x) :: .priv n :: Φ) → Q (.ref l) ⟨h', gn, dr, tk', oS⟩) : wpAny (model PR w) A (call (.ref 444) [.ref P.m, .str x t]) Q E ⟨hp, gn, dr, tk, oS⟩ := by
  obtain ⟨σ, mem, pool, R, I, Tx, Fs⟩ := id H
  have hz1 : σ.nth ≤ 1000000 := by have := I.nth; have := Tx.b; lia
  have hz2 : σ.tab.length ≤ 1000000 := by have := I.len; have := Tx.b; lia
  refine new_textR O F N R hz1 hz2 fun l th t t' news' h' tk' F' N' R' K' T' J => ?_
  obtain ⟨n, e, hn, u1, u2, H2⟩ := Hs.grow I Tx Fs R' K' T' J
  exact hret l n news' h' tk' F' N' hn u1 u2 K' H2

end
end Mine
end S4_
section S5_
namespace Mine

section
variable {w : World} {A : Around} {h₀ : Heap} {L : Addr} {m : Str → Option Value} {hp : Heap} {gn : Array GenState} {dr : Drawn} {tk : Nat} {oS : OsState} {P : Pl} {X news led : Led} {st : St} {σ : Sg} {Φ : List Fact} {Q E : Value → Shared → Prop}

def interned_text_S (x : Str) (t : Tok) : Prop := ∀ (O : Ok w A h₀ L 11) (F : Fr h₀ L hp m) (N : News h₀ L hp (X ++ news)) (H : Hs w P X st news Φ) (hz : st.b ≤ 1000000) (hret : ∀ l n news' h' tk', Fr h₀ L h' m → News h₀ L h' (X ++ news') → Stay P news news' → Hs w P X ⟨st.T, st.th, st.b + 1, st.fc⟩ news' (.tv l n (some x) :: .pool x n :: Φ) → Q (.ref l) ⟨h', gn, dr, tk', oS⟩), wpAny (model PR w) A (call (.ref 519) [.ref P.m, .str x t]) Q E ⟨hp, gn, dr, tk, oS⟩
theorem interned_text_r : ∀ r : ((HT17 × Str) × Tok), (c17 (@interned_text_S) r.1.1) r.1.2 r.2 := by
  refine ep_all (ne := by walk_at "NE") ((?_ : ∀ w A h₀ L m hp gn dr tk oS P X news st Φ Q E x t, @interned_text_S w A h₀ L m hp gn dr tk oS P X news st Φ Q E x t) _ _ _ _ _ _ _ _ _ _ _ _ _ _ _ _ _ _ _)
  intro w A h₀ L m hp gn dr tk oS P X news st Φ Q E x t O F N H hz hret
  refine' callfE (d := 10) ["m", "text"] ["place", "value"] ["len"] [some (.ref P.m), some (.str x t), none, none] O F N ?ho ?hcd ?hb ?hl ?hS ?hc ?hv ["m", "text", "place", "value"] ?hpm ?_
  walk_at "ENTERE"
  obtain ⟨σ, mem, pool, R, I, Tx, Fs⟩ := id H
  have hz1 : σ.nth ≤ 1000000 := by have := I.nth; have := Tx.b; lia
  have hz2 : σ.tab.length ≤ 1000000 := by have := I.len; have := Tx.b; lia
  have hz3 : σ.itv.length ≤ 1000000 := by have := I.itl.2; have := Tx.b; lia
  have hz4 : σ.itn.length ≤ 1000000 := by have := I.itl.1; lia
  obtain ⟨hp, hv⟩ | ⟨j, t1, a, n, hp, hv, hj, ht⟩ := I.itn x
  · clear H
    (clear r33; clear s1 e_meth; clear r14; clear s4 m_interned; clear s6 itn_method; clear s23 c_bmt; clear r126; clear r127; clear s9 UnaryOp_; clear r3; clear s9 o_neg; clear r125; clear s8 itn_get_none; clear r124; clear r32; clear r41; clear s9 ge_int; clear r129; clear r132; clear r33; clear r9; clear s4 mm_new_text; clear s22 cm Z333; ((with_reducible refine new_textR ‹8› ‹_› ‹_› ‹_› ?hz1 ?hz2 ?_); (case hz1 => (first | assumption | lia)); (case hz2 => (first | assumption | lia)); intro l' th t1' t2' n2' h' tk' F' N' R' K' T1 I'); clear r124; clear s0 x_item; clear r8; clear r2 Z88; clear s23 c_blt; clear r127; clear r14; clear s4 m_internv; clear r125; ((with_reducible refine len_itv ‹_› ‹_› ?hz ?_); (case hz => (first | assumption | lia)); skip); clear r14; clear s4 m_interned; clear r0; clear s20 itn_set; clear s19 x_expr; clear s1 e_meth; clear r14; clear s4 m_internv; clear s6 gm_itv; clear s7 cbm; clear s20 itv_add; clear s3 re1; clear r134)
    obtain ⟨n, H2⟩ := Hs.intern I Tx Fs hp R' (.trans ‹_› (.trans ‹_› ‹_›)) (Thing.mono (.trans ‹_› ‹_›) T1) (Im.mono (.trans ‹_› ‹_›) I')
    exact hret _ _ _ _ _ kF kN (.trans ‹_› (.trans ‹_› ‹_›)) H2
  · (clear r33; clear s1 e_meth; clear r14; clear s4 m_interned; clear s6 itn_method; clear s23 c_bmt; clear r126; clear r127; clear s9 UnaryOp_; clear r3; clear s9 o_neg; clear r125; clear s8 itn_get_some; clear r124; clear r32; clear r41; clear s9 ge_int; clear r129; clear r133; clear r31; clear s9 Subscript_; clear r14; clear s4 m_internv; clear r0; ((with_reducible refine itv_item ‹_› ‹_› ‹_› ?hz ?_ ?hs); (case hz => (first | assumption | lia)); (case hs => with_unfolding_all exact rfl); skip); clear s9 Thn.ret; clear r134)
    exact hret _ _ _ _ _ kF kN .refl (Hs.found R I Tx Fs hp ht)
theorem interned_text {x t} (O : Ok w A h₀ L 11) (F : Fr h₀ L hp m) (N : News h₀ L hp (X ++ news)) (H : Hs w P X st news Φ) (hz : st.b ≤ 1000000)
    (hret : ∀ l n news' h' tk', Fr h₀ L h' m → News h₀ L h' (X ++ news') → Stay P news news' → Hs w P X ⟨st.T, st.th, st.b + 1, st.fc⟩ news' (.tv l n (some x) :: .pool x n :: Φ) → Q (.ref l) ⟨h', gn, dr, tk', oS⟩) :
    wpAny (model PR w) A (call (.ref 519) [.ref P.m, .str x t]) Q E ⟨hp, gn, dr, tk, oS⟩ := interned_text_r ((((((((((((((((((w, A), h₀), L), m), hp), gn), dr), tk), oS), P), X), news), st), Φ), Q), E), x), t) O F N H hz hret

theorem text_ref {x t} (O : Ok w A h₀ L 12) (F : Fr h₀ L hp m) (N : News h₀ L hp (X ++ news)) (H : Hs w P X st news Φ) (hz : st.b ≤ 1000000)
    (hret : ∀ l n news' h' tk', Fr h₀ L h' m → News h₀ L h' (X ++ news') → Stay P news news' → Hs w P X ⟨st.T, st.th, st.b + 1, st.fc⟩ news' (.tv l n (some x) :: .pool x n :: Φ) → Q (.ref l) ⟨h', gn, dr, tk', oS⟩) :
    wpAny (model PR w) A (call (.ref 437) [.ref P.m, .str x t]) Q E ⟨hp, gn, dr, tk, oS⟩ := by
  refine' callf (d := 11) ["self", "text"] [] ["interned_text"] [some (.ref P.m), some (.str x t)] O F N ?ho ?hcd ?hb ?hl ?hS ?hc ?hv ["self", "text"] ?hpm ?_
  walk_at "ENTER"
  (clear r31; clear r7 Z13 Z291; clear s24 interned_text; clear r134)
  exact hret _ _ _ _ _ kF kN K' H'


end
end Mine
end S5_
section S6_
namespace Mine

section
variable {w : World} {A : Around} {h₀ : Heap} {L : Addr} {m : Str → Option Value} {hp : Heap} {gn : Array GenState} {dr : Drawn} {tk : Nat} {oS : OsState} {P : Pl} {X news led : Led} {st : St} {σ : Sg} {Φ : List Fact} {Q E : Value → Shared → Prop}

def note_thrown_S (i : Int) (t : Tok) : Prop := ∀ (O : Ok w A h₀ L 1) (F : Fr h₀ L hp m) (N : News h₀ L hp (X ++ news)) (H : Hs w P X st news Φ) (hz : st.th.length ≤ 1000) (hret : ∀ t' news' h' tk', Fr h₀ L h' m → News h₀ L h' (X ++ news') → Hs w P X ⟨st.T, st.th ++ [i], st.b, st.fc⟩ news' (Φ) → Q (.int (-2) t') ⟨h', gn, dr, tk', oS⟩), wpAny (model PR w) A (call (.ref 456) [.ref P.m, .int i t]) Q E ⟨hp, gn, dr, tk, oS⟩
theorem note_thrown_r : ∀ r : ((HT17 × Int) × Tok), (c17 (@note_thrown_S) r.1.1) r.1.2 r.2 := by
  refine ep_all (ne := by walk_at "NE") ((?_ : ∀ w A h₀ L m hp gn dr tk oS P X news st Φ Q E i t, @note_thrown_S w A h₀ L m hp gn dr tk oS P X news st Φ Q E i t) _ _ _ _ _ _ _ _ _ _ _ _ _ _ _ _ _ _ _)
  intro w A h₀ L m hp gn dr tk oS P X news st Φ Q E i t O F N H hz hret
  refine' callfE (d := 0) ["m", "tid"] [] ["ST_RUN", "JP_STAY"] [some (.ref P.m), some (.int i t)] O F N ?ho ?hcd ?hb ?hl ?hS ?hc ?hv ["m", "tid"] ?hpm ?_
  walk_at "ENTERE"
  obtain ⟨σ, mem, pool, R, I, Tx, Fs⟩ := id H
  have hz1 : σ.thrown.length ≤ 1000000 := by have := Tx.th.length; lia
  (clear r32; clear r43; clear r14; ((with_reducible refine m_state ‹_› ‹_› ‹_› ‹5› ?_); intro t'); clear r1 Z6; clear s9 eq_int; clear r129; clear r133; clear s19 x_expr; clear s1 e_meth; clear r14; clear s4 m_thrown; clear s6 gm_thrown; clear s7 cbm; clear s20 thrown_add; clear s9 wpAny_execs_nil; clear s9 Thn.next; clear r31; clear r1 Z15; clear r134)
  exact hret _ _ _ _ kF kN (Hs.thrown I Tx Fs R' K')
theorem note_thrown {i t} (O : Ok w A h₀ L 1) (F : Fr h₀ L hp m) (N : News h₀ L hp (X ++ news)) (H : Hs w P X st news Φ) (hz : st.th.length ≤ 1000)
    (hret : ∀ t' news' h' tk', Fr h₀ L h' m → News h₀ L h' (X ++ news') → Hs w P X ⟨st.T, st.th ++ [i], st.b, st.fc⟩ news' (Φ) → Q (.int (-2) t') ⟨h', gn, dr, tk', oS⟩) :
    wpAny (model PR w) A (call (.ref 456) [.ref P.m, .int i t]) Q E ⟨hp, gn, dr, tk, oS⟩ := note_thrown_r ((((((((((((((((((w, A), h₀), L), m), hp), gn), dr), tk), oS), P), X), news), st), Φ), Q), E), i), t) O F N H hz hret

theorem throw_new {i t x u} (O : Ok w A h₀ L 2) (F : Fr h₀ L hp m) (N : News h₀ L hp (X ++ news)) (H : Hs w P X st news Φ) (hz : st.th.length ≤ 1000)
    (hret : ∀ t' news' h' tk', Fr h₀ L h' m → News h₀ L h' (X ++ news') → Hs w P X ⟨st.T, st.th ++ [i], st.b, st.fc⟩ news' (Φ) → Q (.int (-2) t') ⟨h', gn, dr, tk', oS⟩) :
    wpAny (model PR w) A (call (.ref 367) [.ref P.m, .int i t, .str x u]) Q E ⟨hp, gn, dr, tk, oS⟩ := by
  refine' callf (d := 1) ["self", "tid", "text"] [] ["note_thrown"] [some (.ref P.m), some (.int i t), some (.str x u)] O F N ?ho ?hcd ?hb ?hl ?hS ?hc ?hv ["self", "tid", "text"] ?hpm ?_
  walk_at "ENTER"
  (clear r31; clear r7 Z87 Z329; clear s25 note_thrown; clear r134)
  exact hret _ _ _ _ kF kN H'


theorem bad_argument {i t x u} (O : Ok w A h₀ L 3) (F : Fr h₀ L hp m) (N : News h₀ L hp (X ++ news)) (H : Hs w P X st news Φ) (hz : st.th.length ≤ 1000)
    (hret : ∀ t' news' h' tk', Fr h₀ L h' m → News h₀ L h' (X ++ news') → Hs w P X ⟨st.T, st.th ++ [i], st.b, st.fc⟩ news' (Φ) → Q (.int (-2) t') ⟨h', gn, dr, tk', oS⟩) :
    wpAny (model PR w) A (call (.ref 554) [.ref P.m, .int i t, .str x u]) Q E ⟨hp, gn, dr, tk, oS⟩ := by
  refine' callf (d := 2) ["m", "tid", "text"] [] ["NT_STAY"] [some (.ref P.m), some (.int i t), some (.str x u)] O F N ?ho ?hcd ?hb ?hl ?hS ?hc ?hv ["m", "tid", "text"] ?hpm ?_
  walk_at "ENTER"
  (clear s19 x_expr; clear r9; clear s4 mm_throw_new; clear s22 cm Z334; clear s25 throw_new; clear r31; clear r1 Z24; clear r134)
  exact hret _ _ _ _ kF kN H'


def thing_named_S (a : Addr) (n : Nat) (x : Str) : Prop := ∀ (O : Ok w A h₀ L 1) (F : Fr h₀ L hp m) (N : News h₀ L hp (X ++ news)) (H : Hs w P X st news Φ) (hx : Fact.tv a n (some x) ∈ Φ) (hret : ∀ th t1 t2 sl h' tk', Fr h₀ L h' m → News h₀ L h' (X ++ news) → Inst P news th 96 [("addr", .int (ad n) t1), ("kind", .int 13 t2), ("slots", .ref sl)] [] → Q (.ref th) ⟨h', gn, dr, tk', oS⟩), wpAny (model PR w) A (call (.ref 533) [.ref P.m, .ref a]) Q E ⟨hp, gn, dr, tk, oS⟩
theorem thing_named_r : ∀ r : (((HT17 × Addr) × Nat) × Str), (c17 (@thing_named_S) r.1.1.1) r.1.1.2 r.1.2 r.2 := by
  refine ep_all (ne := by walk_at "NE") ((?_ : ∀ w A h₀ L m hp gn dr tk oS P X news st Φ Q E a n x, @thing_named_S w A h₀ L m hp gn dr tk oS P X news st Φ Q E a n x) _ _ _ _ _ _ _ _ _ _ _ _ _ _ _ _ _ _ _ _)
  intro w A h₀ L m hp gn dr tk oS P X news st Φ Q E a n x O F N H hx hret
  refine' callfE (d := 0) ["m", "value"] [] [] [some (.ref P.m), some (.ref a)] O F N ?ho ?hcd ?hb ?hl ?hS ?hc ?hv ["m", "value"] ?hpm ?_
  walk_at "ENTERE"
  obtain ⟨σ, mem, pool, R, I, Tx, Fs⟩ := id H
  obtain ⟨i, rfl, hm⟩ := Tv.some (Fs _ hx)
  obtain ⟨th, hv, t1, t2, sl, tp, t3, t4, n, hi, hsl, htp⟩ := I.tab i x hm
  rw [← ad_succ] at hv hi
  (clear r31; clear s1 e_meth; clear s2 Attribute_any_; clear r14; clear s4 m_heap; clear s5 h_tab; clear s6 tab_method; clear s23 c_bmt; clear r127; clear r11; clear r87; clear r125; clear s8 tab_get; clear r134)
  exact hret _ _ _ _ _ _ kF kN hi
theorem thing_named {a n x} (O : Ok w A h₀ L 1) (F : Fr h₀ L hp m) (N : News h₀ L hp (X ++ news)) (H : Hs w P X st news Φ) (hx : Fact.tv a n (some x) ∈ Φ)
    (hret : ∀ th t1 t2 sl h' tk', Fr h₀ L h' m → News h₀ L h' (X ++ news) → Inst P news th 96 [("addr", .int (ad n) t1), ("kind", .int 13 t2), ("slots", .ref sl)] [] → Q (.ref th) ⟨h', gn, dr, tk', oS⟩) :
    wpAny (model PR w) A (call (.ref 533) [.ref P.m, .ref a]) Q E ⟨hp, gn, dr, tk, oS⟩ := thing_named_r (((((((((((((((((((w, A), h₀), L), m), hp), gn), dr), tk), oS), P), X), news), st), Φ), Q), E), a), n), x) O F N H hx hret

def thing_named0_S (a : Addr) : Prop := ∀ (O : Ok w A h₀ L 1) (F : Fr h₀ L hp m) (N : News h₀ L hp (X ++ news)) (H : Hs w P X st news Φ) (hx : Fact.tv a 0 none ∈ Φ) (hret : ∀  h' tk', Fr h₀ L h' m → News h₀ L h' (X ++ news) → Q (.none) ⟨h', gn, dr, tk', oS⟩), wpAny (model PR w) A (call (.ref 533) [.ref P.m, .ref a]) Q E ⟨hp, gn, dr, tk, oS⟩
theorem thing_named0_r : ∀ r : (HT17 × Addr), (c17 (@thing_named0_S) r.1) r.2 := by
  refine ep_all (ne := by walk_at "NE") ((?_ : ∀ w A h₀ L m hp gn dr tk oS P X news st Φ Q E a, @thing_named0_S w A h₀ L m hp gn dr tk oS P X news st Φ Q E a) _ _ _ _ _ _ _ _ _ _ _ _ _ _ _ _ _ _)
  intro w A h₀ L m hp gn dr tk oS P X news st Φ Q E a O F N H hx hret
  refine' callfE (d := 0) ["m", "value"] [] [] [some (.ref P.m), some (.ref a)] O F N ?ho ?hcd ?hb ?hl ?hS ?hc ?hv ["m", "value"] ?hpm ?_
  walk_at "ENTERE"
  obtain ⟨σ, mem, pool, R, I, Tx, Fs⟩ := id H
  have hv : valueAt σ.tab (ad 0) = none := I.low0
  (clear r31; clear s1 e_meth; clear s2 Attribute_any_; clear r14; clear s4 m_heap; clear s5 h_tab; clear s6 tab_method; clear s23 c_bmt; clear r127; clear r11; clear r87; clear r125; clear s8 tab_get_none; clear r134)
  exact hret _ _ kF kN
theorem thing_named0 {a} (O : Ok w A h₀ L 1) (F : Fr h₀ L hp m) (N : News h₀ L hp (X ++ news)) (H : Hs w P X st news Φ) (hx : Fact.tv a 0 none ∈ Φ)
    (hret : ∀  h' tk', Fr h₀ L h' m → News h₀ L h' (X ++ news) → Q (.none) ⟨h', gn, dr, tk', oS⟩) :
    wpAny (model PR w) A (call (.ref 533) [.ref P.m, .ref a]) Q E ⟨hp, gn, dr, tk, oS⟩ := thing_named0_r (((((((((((((((((w, A), h₀), L), m), hp), gn), dr), tk), oS), P), X), news), st), Φ), Q), E), a) O F N H hx hret

def wrap_bits_S (n : Int) (t u : Tok) : Prop := ∀ (O : Ok w A h₀ L 1) (F : Fr h₀ L hp m) (N : News h₀ L hp (led)) (h0 : 0 ≤ n ∧ n < 4294967296) (hret : ∀ t' h' tk', Fr h₀ L h' m → News h₀ L h' led → Q (.int (wrap n) t') ⟨h', gn, dr, tk', oS⟩), wpAny (model PR w) A (call (.ref 58) [.int n t, .int 32 u]) Q E ⟨hp, gn, dr, tk, oS⟩
theorem wrap_bits_r : ∀ r : (((HT13 × Int) × Tok) × Tok), (c13 (@wrap_bits_S) r.1.1.1) r.1.1.2 r.1.2 r.2 := by
  refine ep_all (ne := by walk_at "NE") ((?_ : ∀ w A h₀ L m hp gn dr tk oS led Q E n t u, @wrap_bits_S w A h₀ L m hp gn dr tk oS led Q E n t u) _ _ _ _ _ _ _ _ _ _ _ _ _ _ _ _)
  intro w A h₀ L m hp gn dr tk oS led Q E n t u O F N h0 hret
  refine' callfE (d := 0) ["n", "bits"] [] [] [some (.int n t), some (.int 32 u)] O F N ?ho ?hcd ?hb ?hl ?hS ?hc ?hv ["n", "bits"] ?hpm ?_
  walk_at "ENTERE"
  have e1 : Builtin.bitAnd n (1 * 2 ^ Int.toNat 32 - 1) = n := by
    show Builtin.bitAnd n 4294967295 = n
    rw [bitAnd_32 n h0.1]; lia
  (clear r33; clear s3 bi1; clear s9 wpAny_BinOp; clear r16; ((with_reducible refine o_shl ?hb ?ha ?_); (case hb => exact ⟨by decide, by decide⟩); (case ha => decide); skip); clear r3; clear s9 o_sub; clear s9 o_and; clear r124; clear r32; (refine isTrue_plain ?_ ?he; (case he => exact rfl)); clear s3 bi1; clear r16; clear s9 o_sub; ((with_reducible refine o_shr ?hb ?_); (case hb => decide); skip); ((with_reducible show wpAny _ _ (truthy (Value.int _ _)) _ _ _); refine i_truthy ?_))
  rw [e1]
  by_cases hc : n < 2147483648
  · have e2 : n.fdiv (2 ^ (32 - 1 : Int).toNat) = 0 := by
      show n.fdiv 2147483648 = 0
      rw [Int.fdiv_eq_ediv_of_nonneg _ (by decide)]; lia
    refine Br.f (by rw [e2]; rfl) ?_
    (clear s3 re1; clear r134)
    refine (?_ : ∀ v, v = wrap n → Q (.int v _) _) _ ?_
    · rintro _ rfl; exact hret _ _ _ kF kN
    · rw [wrap, if_pos hc, e1]
  · have e2 : n.fdiv (2 ^ (32 - 1 : Int).toNat) = 1 := by
      show n.fdiv 2147483648 = 1
      rw [Int.fdiv_eq_ediv_of_nonneg _ (by decide)]; lia
    refine Br.t (by rw [e2]; rfl) ?_
    (clear r31; clear s3 bi1; clear r16; ((with_reducible refine o_shl ?hb ?ha ?_); (case hb => exact ⟨by decide, by decide⟩); (case ha => decide); skip); clear s9 o_sub; clear s9 Thn.ret; clear r134)
    refine (?_ : ∀ v, v = wrap n → Q (.int v _) _) _ ?_
    · rintro _ rfl; exact hret _ _ _ kF kN
    · rw [wrap, if_neg hc, e1]; rfl
theorem wrap_bits {n t u} (O : Ok w A h₀ L 1) (F : Fr h₀ L hp m) (N : News h₀ L hp (led)) (h0 : 0 ≤ n ∧ n < 4294967296)
    (hret : ∀ t' h' tk', Fr h₀ L h' m → News h₀ L h' led → Q (.int (wrap n) t') ⟨h', gn, dr, tk', oS⟩) :
    wpAny (model PR w) A (call (.ref 58) [.int n t, .int 32 u]) Q E ⟨hp, gn, dr, tk, oS⟩ := wrap_bits_r (((((((((((((((w, A), h₀), L), m), hp), gn), dr), tk), oS), led), Q), E), n), t), u) O F N h0 hret

theorem wrap32 {n t} (O : Ok w A h₀ L 2) (F : Fr h₀ L hp m) (N : News h₀ L hp (led)) (h0 : 0 ≤ n ∧ n < 4294967296)
    (hret : ∀ t' h' tk', Fr h₀ L h' m → News h₀ L h' led → Q (.int (wrap n) t') ⟨h', gn, dr, tk', oS⟩) :
    wpAny (model PR w) A (call (.ref 65) [.int n t]) Q E ⟨hp, gn, dr, tk, oS⟩ := by
  refine' callf (d := 1) ["n"] [] ["wrap_bits"] [some (.int n t)] O F N ?ho ?hcd ?hb ?hl ?hS ?hc ?hv ["n"] ?hpm ?_
  walk_at "ENTER"
  (clear r31; clear r7 Z0 Z287; ((with_reducible refine wrap_bits ‹8› ‹_› ‹_› ?h0 ?_); (case h0 => (first | assumption | lia)); intro t' h' tk' F' N'); clear r134)
  exact hret _ _ _ kF kN


def text_hash_S (s : Str) (t : Tok) : Prop := ∀ (O : Ok w A h₀ L 3) (F : Fr h₀ L hp m) (N : News h₀ L hp (X ++ news)) (H : Hs w P X st news Φ) (hret : ∀ t' news' h' tk', Fr h₀ L h' m → News h₀ L h' (X ++ news') → Hs w P X st news' (Φ) → Q (.int (hashS s) t') ⟨h', gn, dr, tk', oS⟩), wpAny (model PR w) A (call (.ref 561) [.str s t]) Q E ⟨hp, gn, dr, tk, oS⟩
theorem text_hash_r : ∀ r : ((HT17 × Str) × Tok), (c17 (@text_hash_S) r.1.1) r.1.2 r.2 := by
  refine ep_all (ne := by walk_at "NE") ((?_ : ∀ w A h₀ L m hp gn dr tk oS P X news st Φ Q E s t, @text_hash_S w A h₀ L m hp gn dr tk oS P X news st Φ Q E s t) _ _ _ _ _ _ _ _ _ _ _ _ _ _ _ _ _ _ _)
  intro w A h₀ L m hp gn dr tk oS P X news st Φ Q E s t O F N H hret
  refine' callfE (d := 2) ["text"] ["h", "letter"] ["ord", "wrap32"] [some (.str s t), none, none] O F N ?ho ?hcd ?hb ?hl ?hS ?hc ?hv ["text", "h", "letter"] ?hpm ?_
  walk_at "ENTERE"
  have hr := fun l => hashFrom_range (h := 5381) ⟨by decide, by decide⟩ l
  (clear r33; clear r3; clear r124; clear r194; clear r0)
  refine for_str O'.hand ‹_› ‹_› H (fun i vals st' Φ' => ∃ hv t1 v, vals = [some (.str s t), some (.int hv t1), v] ∧ hv = hashFrom 5381 (s.cps.toList.take i) ∧ st = st' ∧ Φ = Φ') ⟨_, _, _, rfl, rfl, rfl, rfl⟩ ?_ ?_
  · rintro i c t' h1 tk1 X1 _ _ n1 _ hi hc ⟨hv, t1, v, rfl, e, rfl, rfl⟩ hX F1 N1 H1
    have F2 := fr_put S' F1 (by walk_at "PUT")
    clear F1
    (clear r33; clear s9 wpAny_BinOp; clear s9 wpAny_BinOp; clear r16; ((with_reducible refine o_mulS ?hb ?_); (case hb => exact ⟨by decide, by decide⟩); skip); clear r8; clear r2 Z89; clear r107; clear s9 s_ord; clear s9 o_add; clear r3; clear s9 o_and; clear r124; clear s9 wpAny_execs_nil)
    refine Bd.next Φ ‹_› ‹_› H1 (fun f hf => hf) ⟨_, _, _, rfl, ?_, rfl, rfl⟩
    have hb := hr (s.cps.toList.take i)
    have hl : s.cps.toList[i]? = some c := by simpa using hc
    rw [e, bitAnd_32 _ (by lia), List.take_add_one, hl, Option.toList_some, hashFrom_snoc]
  · rintro h1 tk1 _ _ n1 _ ⟨hv, t1, v, rfl, e, rfl, rfl⟩ F1 N1 H1
    have h0 : 0 ≤ hv ∧ hv < 4294967296 := e ▸ hr _
    (clear s9 Thn.next; clear r31; clear r7 Z25 Z295; ((with_reducible refine wrap32 ‹8› ‹_› ‹_› ?h0 ?_); (case h0 => (first | assumption | lia)); intro t' h' tk' F' N'); clear r134)
    have e2 : wrap hv = hashS s := by rw [e, hashS, show s.cps.size = s.cps.toList.length by simp, List.take_length]
    rw [e2]
    exact hret _ _ _ _ kF kN H1
theorem text_hash {s t} (O : Ok w A h₀ L 3) (F : Fr h₀ L hp m) (N : News h₀ L hp (X ++ news)) (H : Hs w P X st news Φ) 
    (hret : ∀ t' news' h' tk', Fr h₀ L h' m → News h₀ L h' (X ++ news') → Hs w P X st news' (Φ) → Q (.int (hashS s) t') ⟨h', gn, dr, tk', oS⟩) :
    wpAny (model PR w) A (call (.ref 561) [.str s t]) Q E ⟨hp, gn, dr, tk, oS⟩ := text_hash_r ((((((((((((((((((w, A), h₀), L), m), hp), gn), dr), tk), oS), P), X), news), st), Φ), Q), E), s), t) O F N H hret

end
end Mine
end S6_
section S7_
namespace Mine

section
variable {w : World} {A : Around} {h₀ : Heap} {L : Addr} {m : Str → Option Value} {hp : Heap} {gn : Array GenState} {dr : Drawn} {tk : Nat} {oS : OsState} {P : Pl} {X news led : Led} {st : St} {σ : Sg} {Φ : List Fact} {Q E : Value → Shared → Prop}

def gd (os : Option Str) : Str := os.getD ""
def CatOk (xa xb : Str) (na nb : Nat) (Φ : List Fact) (ex : List Fact) (n : Nat) : Prop :=
  (xa = "" ∧ xb = "" ∧ ex = [.pool "" n]) ∨ (xa = "" ∧ xb ≠ "" ∧ ex = [] ∧ n = nb) ∨ (xa ≠ "" ∧ xb = "" ∧ ex = [] ∧ n = na) ∨ (xa ≠ "" ∧ xb ≠ "" ∧ ex = [.priv n] ∧ ∀ a' n' os', Fact.tv a' n' os' ∈ Φ → n' < n)
theorem Hs.dup {f : Fact} (H : Hs w P X st news Φ) (h : f ∈ Φ) : Hs w P X ⟨st.T, st.th, st.b + 1, st.fc⟩ news (f :: Φ) := (H.more (Nat.le_succ _)).sub fun g hg => by
  rcases List.mem_cons.mp hg with rfl | hg
  · exact h
  · exact hg
theorem nil_app (x : Str) : ("" : Str) ++ x = x := str_ext (by rw [app_list]; rfl)
theorem app_nil (x : Str) : x ++ ("" : Str) = x := str_ext (by rw [app_list]; exact List.append_nil _)

def n_concat_S (l a b : Addr) (na nb : Nat) (osa osb : Option Str) : Prop := ∀ (O : Ok w A h₀ L 13) (F : Fr h₀ L hp m) (N : News h₀ L hp (X ++ news)) (H : Hs w P X st news Φ) (hl : Fact.ls l [.ref a, .ref b] ∈ Φ) (ha : Fact.tv a na osa ∈ Φ) (hb : Fact.tv b nb osb ∈ Φ) (hz : st.b ≤ 1000000) (za : (gd osa).length ≤ 1000) (zb : (gd osb).length ≤ 1000) (hret : ∀ r n ex news' h' tk', Fr h₀ L h' m → News h₀ L h' (X ++ news') → CatOk (gd osa) (gd osb) na nb Φ ex n → Hs w P X ⟨st.T, st.th, st.b + 1, st.fc⟩ news' (.tv r n (some (gd osa ++ gd osb)) :: (ex ++ Φ)) → Q (.ref r) ⟨h', gn, dr, tk', oS⟩), wpAny (model PR w) A (call (.ref 575) [.ref (P.ni 1), .ref P.m, .none, .ref l]) Q E ⟨hp, gn, dr, tk, oS⟩
theorem n_concat_r : ∀ r : (((((((HT17 × Addr) × Addr) × Addr) × Nat) × Nat) × (Option Str)) × (Option Str)), (c17 (@n_concat_S) r.1.1.1.1.1.1.1) r.1.1.1.1.1.1.2 r.1.1.1.1.1.2 r.1.1.1.1.2 r.1.1.1.2 r.1.1.2 r.1.2 r.2 := by
  refine ep_all (ne := by walk_at "NE") ((?_ : ∀ w A h₀ L m hp gn dr tk oS P X news st Φ Q E l a b na nb osa osb, @n_concat_S w A h₀ L m hp gn dr tk oS P X news st Φ Q E l a b na nb osa osb) _ _ _ _ _ _ _ _ _ _ _ _ _ _ _ _ _ _ _ _ _ _ _ _)
  intro w A h₀ L m hp gn dr tk oS P X news st Φ Q E l a b na nb osa osb O F N H hl ha hb hz za zb hret
  refine' callfE (d := 12) ["self", "m", "f", "args"] ["a", "b"] ["text_at", "MOST_UNITS", "bad_argument", "T_OOM", "LONG_TEXT", "len"] [some (.ref (P.ni 1)), some (.ref P.m), some (.none), some (.ref l), none, none] O F N ?ho ?hcd ?hb ?hl ?hS ?hc ?hv ["self", "m", "f", "args", "a", "b"] ?hpm ?_
  walk_at "ENTERE"
  cases osa with
  | none =>
    obtain rfl := H.tv_zero ha
    cases osb with
    | none =>
      obtain rfl := H.tv_zero hb
      (clear r33; clear r8; clear r1 Z26; clear r109 Z296; clear r126; clear r127; clear r11; clear r91; clear r125; clear r128; clear s27 text_at0; clear r124; clear r33; clear r8; clear r1 Z26; clear r109 Z296; clear r126; clear r127; clear r11; clear r92; clear r125; clear r128; clear s27 text_at0; clear r124; clear r32; clear r48; clear r41; clear s9 is_none; clear r129; clear r133; clear r133; clear r32; clear r48; clear r41; clear s9 is_none; clear r129; clear r133; clear r133; clear r31; clear r9; clear s4 mm_text_ref; clear s22 cm Z332; clear s24 text_ref; clear s9 Thn.ret; clear s9 Thn.ret; clear r134)
      exact hret _ _ [.pool "" _] _ _ _ kF kN (.inl ⟨rfl, rfl, rfl⟩) (by rw [show gd none ++ gd none = "" from nil_app _]; exact H')
    | some y =>
      by_cases hy : y = ""
      · subst hy
        (clear r33; clear r8; clear r1 Z26; clear r109 Z296; clear r126; clear r127; clear r11; clear r91; clear r125; clear r128; clear s27 text_at0; clear r124; clear r33; clear r8; clear r1 Z26; clear r109 Z296; clear r126; clear r127; clear r11; clear r92; clear r125; clear r128; clear r98; clear r124; clear r32; clear r48; clear r41; clear s9 is_none; clear r129; clear r133; clear r133; clear r32; clear r48; clear r41; clear s9 is_none; clear r129; clear r132; clear r48; clear r41; clear s9 c_eqs; clear r129; clear r133; clear r133; clear r31; clear r9; clear s4 mm_text_ref; clear s22 cm Z332; clear s24 text_ref; clear s9 Thn.ret; clear s9 Thn.ret; clear r134)
        exact hret _ _ [.pool "" _] _ _ _ kF kN (.inl ⟨rfl, rfl, rfl⟩) (by rw [show gd none ++ gd (some "") = "" from nil_app _]; exact H')
      · (clear r33; clear r8; clear r1 Z26; clear r109 Z296; clear r126; clear r127; clear r11; clear r91; clear r125; clear r128; clear s27 text_at0; clear r124; clear r33; clear r8; clear r1 Z26; clear r109 Z296; clear r126; clear r127; clear r11; clear r92; clear r125; clear r128; clear r98; clear r124; clear r32; clear r48; clear r41; clear s9 is_none; clear r129; clear r133; clear r133; clear r32; clear r48; clear r41; clear s9 is_none; clear r129; clear r132; clear r48; clear r41; clear s9 c_eqs; clear r129; clear r132; clear s9 isTrue_or_nil; clear r132; clear r31; clear r11; clear r92; clear s9 Thn.ret; clear r134)
        exact hret _ _ [] _ _ _ kF kN (.inr (.inl ⟨rfl, hy, rfl, rfl⟩)) (by rw [show gd none ++ gd (some y) = y from nil_app _]; exact H.dup hb)
  | some x =>
    by_cases hx : x = ""
    · subst hx
      cases osb with
      | none =>
        obtain rfl := H.tv_zero hb
        (clear r33; clear r8; clear r1 Z26; clear r109 Z296; clear r126; clear r127; clear r11; clear r91; clear r125; clear r128; clear r98; clear r124; clear r33; clear r8; clear r1 Z26; clear r109 Z296; clear r126; clear r127; clear r11; clear r92; clear r125; clear r128; clear s27 text_at0; clear r124; clear r32; clear r48; clear r41; clear s9 is_none; clear r129; clear r132; clear r48; clear r41; clear s9 c_eqs; clear r129; clear r133; clear r133; clear r32; clear r48; clear r41; clear s9 is_none; clear r129; clear r133; clear r133; clear r31; clear r9; clear s4 mm_text_ref; clear s22 cm Z332; clear s24 text_ref; clear s9 Thn.ret; clear s9 Thn.ret; clear r134)
        exact hret _ _ [.pool "" _] _ _ _ kF kN (.inl ⟨rfl, rfl, rfl⟩) (by rw [show gd (some "") ++ gd none = "" from nil_app _]; exact H')
      | some y =>
        by_cases hy : y = ""
        · subst hy
          (clear r33; clear r8; clear r1 Z26; clear r109 Z296; clear r126; clear r127; clear r11; clear r91; clear r125; clear r128; clear r98; clear r124; clear r33; clear r8; clear r1 Z26; clear r109 Z296; clear r126; clear r127; clear r11; clear r92; clear r125; clear r128; clear r98; clear r124; clear r32; clear r48; clear r41; clear s9 is_none; clear r129; clear r132; clear r48; clear r41; clear s9 c_eqs; clear r129; clear r133; clear r133; clear r32; clear r48; clear r41; clear s9 is_none; clear r129; clear r132; clear r48; clear r41; clear s9 c_eqs; clear r129; clear r133; clear r133; clear r31; clear r9; clear s4 mm_text_ref; clear s22 cm Z332; clear s24 text_ref; clear s9 Thn.ret; clear s9 Thn.ret; clear r134)
          exact hret _ _ [.pool "" _] _ _ _ kF kN (.inl ⟨rfl, rfl, rfl⟩) (by rw [show gd (some "") ++ gd (some "") = "" from nil_app _]; exact H')
        · (clear r33; clear r8; clear r1 Z26; clear r109 Z296; clear r126; clear r127; clear r11; clear r91; clear r125; clear r128; clear r98; clear r124; clear r33; clear r8; clear r1 Z26; clear r109 Z296; clear r126; clear r127; clear r11; clear r92; clear r125; clear r128; clear r98; clear r124; clear r32; clear r48; clear r41; clear s9 is_none; clear r129; clear r132; clear r48; clear r41; clear s9 c_eqs; clear r129; clear r133; clear r133; clear r32; clear r48; clear r41; clear s9 is_none; clear r129; clear r132; clear r48; clear r41; clear s9 c_eqs; clear r129; clear r132; clear s9 isTrue_or_nil; clear r132; clear r31; clear r11; clear r92; clear s9 Thn.ret; clear r134)
          exact hret _ _ [] _ _ _ kF kN (.inr (.inl ⟨rfl, hy, rfl, rfl⟩)) (by rw [show gd (some "") ++ gd (some y) = y from nil_app _]; exact H.dup hb)
    · cases osb with
      | none =>
        obtain rfl := H.tv_zero hb
        (clear r33; clear r8; clear r1 Z26; clear r109 Z296; clear r126; clear r127; clear r11; clear r91; clear r125; clear r128; clear r98; clear r124; clear r33; clear r8; clear r1 Z26; clear r109 Z296; clear r126; clear r127; clear r11; clear r92; clear r125; clear r128; clear s27 text_at0; clear r124; clear r32; clear r48; clear r41; clear s9 is_none; clear r129; clear r132; clear r48; clear r41; clear s9 c_eqs; clear r129; clear r132; clear s9 isTrue_or_nil; clear r132; clear r32; clear r48; clear r41; clear s9 is_none; clear r129; clear r133; clear r133; clear r31; clear r11; clear r91; clear s9 Thn.ret; clear r134)
        exact hret _ _ [] _ _ _ kF kN (.inr (.inr (.inl ⟨hx, rfl, rfl, rfl⟩))) (by rw [show gd (some x) ++ gd none = x from app_nil _]; exact H.dup ha)
      | some y =>
        by_cases hy : y = ""
        · subst hy
          (clear r33; clear r8; clear r1 Z26; clear r109 Z296; clear r126; clear r127; clear r11; clear r91; clear r125; clear r128; clear r98; clear r124; clear r33; clear r8; clear r1 Z26; clear r109 Z296; clear r126; clear r127; clear r11; clear r92; clear r125; clear r128; clear r98; clear r124; clear r32; clear r48; clear r41; clear s9 is_none; clear r129; clear r132; clear r48; clear r41; clear s9 c_eqs; clear r129; clear r132; clear s9 isTrue_or_nil; clear r132; clear r32; clear r48; clear r41; clear s9 is_none; clear r129; clear r132; clear r48; clear r41; clear s9 c_eqs; clear r129; clear r133; clear r133; clear r31; clear r11; clear r91; clear s9 Thn.ret; clear r134)
          exact hret _ _ [] _ _ _ kF kN (.inr (.inr (.inl ⟨hx, rfl, rfl, rfl⟩))) (by rw [show gd (some x) ++ gd (some "") = x from app_nil _]; exact H.dup ha)
        · replace za : x.length ≤ 1000 := za
          replace zb : y.length ≤ 1000 := zb
          (clear r33; clear r8; clear r1 Z26; clear r109 Z296; clear r126; clear r127; clear r11; clear r91; clear r125; clear r128; clear r98; clear r124; clear r33; clear r8; clear r1 Z26; clear r109 Z296; clear r126; clear r127; clear r11; clear r92; clear r125; clear r128; clear r98; clear r124; clear r32; clear r48; clear r41; clear s9 is_none; clear r129; clear r132; clear r48; clear r41; clear s9 c_eqs; clear r129; clear r132; clear s9 isTrue_or_nil; clear r132; clear r32; clear r48; clear r41; clear s9 is_none; clear r129; clear r132; clear r48; clear r41; clear s9 c_eqs; clear r129; clear r132; clear s9 isTrue_or_nil; clear r132; clear r32; clear r43; clear s9 wpAny_BinOp; clear r8; clear r2 Z88; clear r107; clear s28 s_len; clear r8; clear r2 Z88; clear r107; clear s28 s_len; clear s9 o_add; clear r1 Z27; clear s9 gt_int; clear r129; clear r132; clear r31; clear r9; clear s4 mm_new_text; clear s14 c_mth Z333; clear r127; clear r16; ((with_reducible refine o_adds ?hz ?_); (case hz => (first | assumption | lia)); intro t' tk'); clear r125; clear r128; ((with_reducible refine new_text ‹8› ‹_› ‹_› ‹_› ?hz ?_); (case hz => (first | assumption | lia)); intro l' n' n2' h' tk' F' N' u1 u2 u3 K' H'); clear r134)
          exact hret _ _ [.priv _] _ _ _ kF kN (.inr (.inr (.inr ⟨hx, hy, rfl, u2⟩))) H'
theorem n_concat {l a b na nb osa osb} (O : Ok w A h₀ L 13) (F : Fr h₀ L hp m) (N : News h₀ L hp (X ++ news)) (H : Hs w P X st news Φ) (hl : Fact.ls l [.ref a, .ref b] ∈ Φ) (ha : Fact.tv a na osa ∈ Φ) (hb : Fact.tv b nb osb ∈ Φ) (hz : st.b ≤ 1000000) (za : (gd osa).length ≤ 1000) (zb : (gd osb).length ≤ 1000)
    (hret : ∀ r n ex news' h' tk', Fr h₀ L h' m → News h₀ L h' (X ++ news') → CatOk (gd osa) (gd osb) na nb Φ ex n → Hs w P X ⟨st.T, st.th, st.b + 1, st.fc⟩ news' (.tv r n (some (gd osa ++ gd osb)) :: (ex ++ Φ)) → Q (.ref r) ⟨h', gn, dr, tk', oS⟩) :
    wpAny (model PR w) A (call (.ref 575) [.ref (P.ni 1), .ref P.m, .none, .ref l]) Q E ⟨hp, gn, dr, tk, oS⟩ := n_concat_r (((((((((((((((((((((((w, A), h₀), L), m), hp), gn), dr), tk), oS), P), X), news), st), Φ), Q), E), l), a), b), na), nb), osa), osb) O F N H hl ha hb hz za zb hret

def n_length_S (l a : Addr) (na : Nat) (x : Str) : Prop := ∀ (O : Ok w A h₀ L 13) (F : Fr h₀ L hp m) (N : News h₀ L hp (X ++ news)) (H : Hs w P X st news Φ) (hl : Fact.ls l [.ref a] ∈ Φ) (ha : Fact.tv a na (some x) ∈ Φ) (za : x.length ≤ 1000) (hret : ∀ r t t' news' h' tk', Fr h₀ L h' m → News h₀ L h' (X ++ news') → Hs w P X st news' (Fact.tu r [.int 1 t, .int (x.length : Nat) t'] :: Φ) → Q (.ref r) ⟨h', gn, dr, tk', oS⟩), wpAny (model PR w) A (call (.ref 594) [.ref (P.ni 2), .ref P.m, .none, .ref l]) Q E ⟨hp, gn, dr, tk, oS⟩
theorem n_length_r : ∀ r : ((((HT17 × Addr) × Addr) × Nat) × Str), (c17 (@n_length_S) r.1.1.1.1) r.1.1.1.2 r.1.1.2 r.1.2 r.2 := by
  refine ep_all (ne := by walk_at "NE") ((?_ : ∀ w A h₀ L m hp gn dr tk oS P X news st Φ Q E l a na x, @n_length_S w A h₀ L m hp gn dr tk oS P X news st Φ Q E l a na x) _ _ _ _ _ _ _ _ _ _ _ _ _ _ _ _ _ _ _ _ _)
  intro w A h₀ L m hp gn dr tk oS P X news st Φ Q E l a na x O F N H hl ha za hret
  refine' callfE (d := 12) ["self", "m", "f", "args"] ["text"] ["text_at", "no_object", "V_I4", "len"] [some (.ref (P.ni 2)), some (.ref P.m), some (.none), some (.ref l), none] O F N ?ho ?hcd ?hb ?hl ?hS ?hc ?hv ["self", "m", "f", "args", "text"] ?hpm ?_
  walk_at "ENTERE"
  (clear r33; clear r8; clear r1 Z26; clear r109 Z296; clear r126; clear r127; clear r11; clear r91; clear r125; clear r128; clear r98; clear r124; clear r32; clear r41; clear s9 is_none; clear r129; clear r132; clear r31; clear s9 Tuple_; clear r127; clear r1 Z21; clear r127; clear r8; clear r2 Z88; clear r107; clear s28 s_len; clear r125; clear r122; clear r134)
  exact hret _ _ _ _ _ _ kF kN H'
theorem n_length {l a na x} (O : Ok w A h₀ L 13) (F : Fr h₀ L hp m) (N : News h₀ L hp (X ++ news)) (H : Hs w P X st news Φ) (hl : Fact.ls l [.ref a] ∈ Φ) (ha : Fact.tv a na (some x) ∈ Φ) (za : x.length ≤ 1000)
    (hret : ∀ r t t' news' h' tk', Fr h₀ L h' m → News h₀ L h' (X ++ news') → Hs w P X st news' (Fact.tu r [.int 1 t, .int (x.length : Nat) t'] :: Φ) → Q (.ref r) ⟨h', gn, dr, tk', oS⟩) :
    wpAny (model PR w) A (call (.ref 594) [.ref (P.ni 2), .ref P.m, .none, .ref l]) Q E ⟨hp, gn, dr, tk, oS⟩ := n_length_r ((((((((((((((((((((w, A), h₀), L), m), hp), gn), dr), tk), oS), P), X), news), st), Φ), Q), E), l), a), na), x) O F N H hl ha za hret

def n_hash_S (l a : Addr) (na : Nat) (x : Str) : Prop := ∀ (O : Ok w A h₀ L 13) (F : Fr h₀ L hp m) (N : News h₀ L hp (X ++ news)) (H : Hs w P X st news Φ) (hl : Fact.ls l [.ref a] ∈ Φ) (ha : Fact.tv a na (some x) ∈ Φ) (za : x.length ≤ 1000) (hret : ∀ r t t' news' h' tk', Fr h₀ L h' m → News h₀ L h' (X ++ news') → Hs w P X st news' (Fact.tu r [.int 1 t, .int (hashS x) t'] :: Φ) → Q (.ref r) ⟨h', gn, dr, tk', oS⟩), wpAny (model PR w) A (call (.ref 670) [.ref (P.ni 6), .ref P.m, .none, .ref l]) Q E ⟨hp, gn, dr, tk, oS⟩
theorem n_hash_r : ∀ r : ((((HT17 × Addr) × Addr) × Nat) × Str), (c17 (@n_hash_S) r.1.1.1.1) r.1.1.1.2 r.1.1.2 r.1.2 r.2 := by
  refine ep_all (ne := by walk_at "NE") ((?_ : ∀ w A h₀ L m hp gn dr tk oS P X news st Φ Q E l a na x, @n_hash_S w A h₀ L m hp gn dr tk oS P X news st Φ Q E l a na x) _ _ _ _ _ _ _ _ _ _ _ _ _ _ _ _ _ _ _ _ _)
  intro w A h₀ L m hp gn dr tk oS P X news st Φ Q E l a na x O F N H hl ha za hret
  refine' callfE (d := 12) ["self", "m", "f", "args"] ["text"] ["text_at", "no_object", "V_I4", "text_hash"] [some (.ref (P.ni 6)), some (.ref P.m), some (.none), some (.ref l), none] O F N ?ho ?hcd ?hb ?hl ?hS ?hc ?hv ["self", "m", "f", "args", "text"] ?hpm ?_
  walk_at "ENTERE"
  (clear r33; clear r8; clear r1 Z26; clear r109 Z296; clear r126; clear r127; clear r11; clear r91; clear r125; clear r128; clear r98; clear r124; clear r32; clear r41; clear s9 is_none; clear r129; clear r132; clear r31; clear s9 Tuple_; clear r127; clear r1 Z21; clear r127; clear r7 Z35 Z301; ((with_reducible refine text_hash ‹8› ‹_› ‹_› ‹_› ?_); intro t' n' h' tk' F' N' H'); clear r125; clear r122; clear r134)
  exact hret _ _ _ _ _ _ kF kN H'
theorem n_hash {l a na x} (O : Ok w A h₀ L 13) (F : Fr h₀ L hp m) (N : News h₀ L hp (X ++ news)) (H : Hs w P X st news Φ) (hl : Fact.ls l [.ref a] ∈ Φ) (ha : Fact.tv a na (some x) ∈ Φ) (za : x.length ≤ 1000)
    (hret : ∀ r t t' news' h' tk', Fr h₀ L h' m → News h₀ L h' (X ++ news') → Hs w P X st news' (Fact.tu r [.int 1 t, .int (hashS x) t'] :: Φ) → Q (.ref r) ⟨h', gn, dr, tk', oS⟩) :
    wpAny (model PR w) A (call (.ref 670) [.ref (P.ni 6), .ref P.m, .none, .ref l]) Q E ⟨hp, gn, dr, tk, oS⟩ := n_hash_r ((((((((((((((((((((w, A), h₀), L), m), hp), gn), dr), tk), oS), P), X), news), st), Φ), Q), E), l), a), na), x) O F N H hl ha za hret

def n_chars_S (l a b : Addr) (na : Nat) (x : Str) (i : Int) (tb ti : Tok) : Prop := ∀ (O : Ok w A h₀ L 13) (F : Fr h₀ L hp m) (N : News h₀ L hp (X ++ news)) (H : Hs w P X st news Φ) (hl : Fact.ls l [.ref a, .ref b] ∈ Φ) (ha : Fact.tv a na (some x) ∈ Φ) (hb : Fact.tu b [.int 1 tb, .int i ti] ∈ Φ) (za : x.length ≤ 1000) (h0 : 0 ≤ i) (h1 : i < x.length) (hret : ∀ r t t' news' h' tk', Fr h₀ L h' m → News h₀ L h' (X ++ news') → Hs w P X st news' (Fact.tu r [.int 1 t, .int (x.cps.toList.getD i.toNat 0 : Nat) t'] :: Φ) → Q (.ref r) ⟨h', gn, dr, tk', oS⟩), wpAny (model PR w) A (call (.ref 613) [.ref (P.ni 3), .ref P.m, .none, .ref l]) Q E ⟨hp, gn, dr, tk, oS⟩
theorem n_chars_r : ∀ r : ((((((((HT17 × Addr) × Addr) × Addr) × Nat) × Str) × Int) × Tok) × Tok), (c17 (@n_chars_S) r.1.1.1.1.1.1.1.1) r.1.1.1.1.1.1.1.2 r.1.1.1.1.1.1.2 r.1.1.1.1.1.2 r.1.1.1.1.2 r.1.1.1.2 r.1.1.2 r.1.2 r.2 := by
  refine ep_all (ne := by walk_at "NE") ((?_ : ∀ w A h₀ L m hp gn dr tk oS P X news st Φ Q E l a b na x i tb ti, @n_chars_S w A h₀ L m hp gn dr tk oS P X news st Φ Q E l a b na x i tb ti) _ _ _ _ _ _ _ _ _ _ _ _ _ _ _ _ _ _ _ _ _ _ _ _ _)
  intro w A h₀ L m hp gn dr tk oS P X news st Φ Q E l a b na x i tb ti O F N H hl ha hb za h0 h1 hret
  refine' callfE (d := 12) ["self", "m", "f", "args"] ["text", "place"] ["text_at", "no_object", "bad_argument", "T_INDEX", "len", "V_I4", "ord"] [some (.ref (P.ni 3)), some (.ref P.m), some (.none), some (.ref l), none, none] O F N ?ho ?hcd ?hb ?hl ?hS ?hc ?hv ["self", "m", "f", "args", "text", "place"] ?hpm ?_
  walk_at "ENTERE"
  (clear r33; clear r8; clear r1 Z26; clear r109 Z296; clear r126; clear r127; clear r11; clear r91; clear r125; clear r128; clear r98; clear r124; clear r32; clear r41; clear s9 is_none; clear r129; clear r132; clear r33; clear s9 Subscript_; clear r11; clear r92; clear r3; clear r95; clear r124; clear r32; clear r48; clear r41; clear s9 lt_int; clear r129; clear r132; clear r48; clear r42; clear r8; clear r2 Z88; clear r107; clear s28 s_len; clear s9 ge_int; clear r129; clear r132; clear s9 isTrue_or_nil; clear r132; clear r31; clear s9 Tuple_; clear r127; clear r1 Z21; clear r127; clear r8; clear r2 Z89; clear s23 c_blt; clear r127; clear r11; ((with_reducible refine s_item ?h0 ?h1 ?hz ?_ ?hs ?ht); (case h0 => (first | assumption | lia)); (case h1 => (first | assumption | lia)); (case hz => (first | assumption | lia)); (case hs => with_unfolding_all exact rfl); (case ht => (intro _; with_unfolding_all rfl)); skip); clear r125; clear s9 s_ord; clear r125; clear r122; clear r134)
  exact hret _ _ _ _ _ _ kF kN H'
theorem n_chars {l a b na x i tb ti} (O : Ok w A h₀ L 13) (F : Fr h₀ L hp m) (N : News h₀ L hp (X ++ news)) (H : Hs w P X st news Φ) (hl : Fact.ls l [.ref a, .ref b] ∈ Φ) (ha : Fact.tv a na (some x) ∈ Φ) (hb : Fact.tu b [.int 1 tb, .int i ti] ∈ Φ) (za : x.length ≤ 1000) (h0 : 0 ≤ i) (h1 : i < x.length)
    (hret : ∀ r t t' news' h' tk', Fr h₀ L h' m → News h₀ L h' (X ++ news') → Hs w P X st news' (Fact.tu r [.int 1 t, .int (x.cps.toList.getD i.toNat 0 : Nat) t'] :: Φ) → Q (.ref r) ⟨h', gn, dr, tk', oS⟩) :
    wpAny (model PR w) A (call (.ref 613) [.ref (P.ni 3), .ref P.m, .none, .ref l]) Q E ⟨hp, gn, dr, tk, oS⟩ := n_chars_r ((((((((((((((((((((((((w, A), h₀), L), m), hp), gn), dr), tk), oS), P), X), news), st), Φ), Q), E), l), a), b), na), x), i), tb), ti) O F N H hl ha hb za h0 h1 hret

def n_chars_bad_S (l a b : Addr) (na : Nat) (x : Str) (i : Int) (tb ti : Tok) : Prop := ∀ (O : Ok w A h₀ L 13) (F : Fr h₀ L hp m) (N : News h₀ L hp (X ++ news)) (H : Hs w P X st news Φ) (hl : Fact.ls l [.ref a, .ref b] ∈ Φ) (ha : Fact.tv a na (some x) ∈ Φ) (hb : Fact.tu b [.int 1 tb, .int i ti] ∈ Φ) (za : x.length ≤ 1000) (h0 : i < 0 ∨ x.length ≤ i) (hz : st.th.length ≤ 1000) (hret : ∀ t' news' h' tk', Fr h₀ L h' m → News h₀ L h' (X ++ news') → Hs w P X ⟨st.T, st.th ++ [22], st.b, st.fc⟩ news' Φ → Q (.int (-2) t') ⟨h', gn, dr, tk', oS⟩), wpAny (model PR w) A (call (.ref 613) [.ref (P.ni 3), .ref P.m, .none, .ref l]) Q E ⟨hp, gn, dr, tk, oS⟩
theorem n_chars_bad_r : ∀ r : ((((((((HT17 × Addr) × Addr) × Addr) × Nat) × Str) × Int) × Tok) × Tok), (c17 (@n_chars_bad_S) r.1.1.1.1.1.1.1.1) r.1.1.1.1.1.1.1.2 r.1.1.1.1.1.1.2 r.1.1.1.1.1.2 r.1.1.1.1.2 r.1.1.1.2 r.1.1.2 r.1.2 r.2 := by
  refine ep_all (ne := by walk_at "NE") ((?_ : ∀ w A h₀ L m hp gn dr tk oS P X news st Φ Q E l a b na x i tb ti, @n_chars_bad_S w A h₀ L m hp gn dr tk oS P X news st Φ Q E l a b na x i tb ti) _ _ _ _ _ _ _ _ _ _ _ _ _ _ _ _ _ _ _ _ _ _ _ _ _)
  intro w A h₀ L m hp gn dr tk oS P X news st Φ Q E l a b na x i tb ti O F N H hl ha hb za h0 hz hret
  refine' callfE (d := 12) ["self", "m", "f", "args"] ["text", "place"] ["text_at", "no_object", "bad_argument", "T_INDEX", "len", "V_I4", "ord"] [some (.ref (P.ni 3)), some (.ref P.m), some (.none), some (.ref l), none, none] O F N ?ho ?hcd ?hb ?hl ?hS ?hc ?hv ["self", "m", "f", "args", "text", "place"] ?hpm ?_
  walk_at "ENTERE"
  rcases h0 with h0 | h0
  · (clear r33; clear r8; clear r1 Z26; clear r109 Z296; clear r126; clear r127; clear r11; clear r91; clear r125; clear r128; clear r98; clear r124; clear r32; clear r41; clear s9 is_none; clear r129; clear r132; clear r33; clear s9 Subscript_; clear r11; clear r92; clear r3; clear r95; clear r124; clear r32; clear r48; clear r41; clear s9 lt_int; clear r129; clear r133; clear r133; clear r31; clear r8; clear r1 Z28; clear r109 Z297; clear r126; clear r127; clear r1 Z32; clear r126; clear r125; clear r128; clear s25 bad_argument; clear s9 Thn.ret; clear r134)
    exact hret _ _ _ _ kF kN H'
  · (clear r33; clear r8; clear r1 Z26; clear r109 Z296; clear r126; clear r127; clear r11; clear r91; clear r125; clear r128; clear r98; clear r124; clear r32; clear r41; clear s9 is_none; clear r129; clear r132; clear r33; clear s9 Subscript_; clear r11; clear r92; clear r3; clear r95; clear r124; clear r32; clear r48; clear r41; clear s9 lt_int; clear r129; clear r132; clear r48; clear r42; clear r8; clear r2 Z88; clear r107; clear s28 s_len; clear s9 ge_int; clear r129; clear r133; clear r133; clear r31; clear r8; clear r1 Z28; clear r109 Z297; clear r126; clear r127; clear r1 Z32; clear r126; clear r125; clear r128; clear s25 bad_argument; clear s9 Thn.ret; clear r134)
    exact hret _ _ _ _ kF kN H'
theorem n_chars_bad {l a b na x i tb ti} (O : Ok w A h₀ L 13) (F : Fr h₀ L hp m) (N : News h₀ L hp (X ++ news)) (H : Hs w P X st news Φ) (hl : Fact.ls l [.ref a, .ref b] ∈ Φ) (ha : Fact.tv a na (some x) ∈ Φ) (hb : Fact.tu b [.int 1 tb, .int i ti] ∈ Φ) (za : x.length ≤ 1000) (h0 : i < 0 ∨ x.length ≤ i) (hz : st.th.length ≤ 1000)
    (hret : ∀ t' news' h' tk', Fr h₀ L h' m → News h₀ L h' (X ++ news') → Hs w P X ⟨st.T, st.th ++ [22], st.b, st.fc⟩ news' Φ → Q (.int (-2) t') ⟨h', gn, dr, tk', oS⟩) :
    wpAny (model PR w) A (call (.ref 613) [.ref (P.ni 3), .ref P.m, .none, .ref l]) Q E ⟨hp, gn, dr, tk, oS⟩ := n_chars_bad_r ((((((((((((((((((((((((w, A), h₀), L), m), hp), gn), dr), tk), oS), P), X), news), st), Φ), Q), E), l), a), b), na), x), i), tb), ti) O F N H hl ha hb za h0 hz hret

def n_same_S (l a b : Addr) (na nb : Nat) (osa osb : Option Str) : Prop := ∀ (O : Ok w A h₀ L 13) (F : Fr h₀ L hp m) (N : News h₀ L hp (X ++ news)) (H : Hs w P X st news Φ) (hl : Fact.ls l [.ref a, .ref b] ∈ Φ) (ha : Fact.tv a na osa ∈ Φ) (hb : Fact.tv b nb osb ∈ Φ) (hret : ∀ r t t' news' h' tk', Fr h₀ L h' m → News h₀ L h' (X ++ news') → Hs w P X st news' (Fact.tu r [.int 1 t, .int (b2i (decide (osa = osb))) t'] :: Φ) → Q (.ref r) ⟨h', gn, dr, tk', oS⟩), wpAny (model PR w) A (call (.ref 632) [.ref (P.ni 4), .ref P.m, .none, .ref l]) Q E ⟨hp, gn, dr, tk, oS⟩
theorem n_same_r : ∀ r : (((((((HT17 × Addr) × Addr) × Addr) × Nat) × Nat) × (Option Str)) × (Option Str)), (c17 (@n_same_S) r.1.1.1.1.1.1.1) r.1.1.1.1.1.1.2 r.1.1.1.1.1.2 r.1.1.1.1.2 r.1.1.1.2 r.1.1.2 r.1.2 r.2 := by
  refine ep_all (ne := by walk_at "NE") ((?_ : ∀ w A h₀ L m hp gn dr tk oS P X news st Φ Q E l a b na nb osa osb, @n_same_S w A h₀ L m hp gn dr tk oS P X news st Φ Q E l a b na nb osa osb) _ _ _ _ _ _ _ _ _ _ _ _ _ _ _ _ _ _ _ _ _ _ _ _)
  intro w A h₀ L m hp gn dr tk oS P X news st Φ Q E l a b na nb osa osb O F N H hl ha hb hret
  refine' callfE (d := 12) ["self", "m", "f", "args"] ["a", "b"] ["bool_value", "text_at"] [some (.ref (P.ni 4)), some (.ref P.m), some (.none), some (.ref l), none, none] O F N ?ho ?hcd ?hb ?hl ?hS ?hc ?hv ["self", "m", "f", "args", "a", "b"] ?hpm ?_
  walk_at "ENTERE"
  by_cases hn : na = nb
  · subst hn
    obtain rfl := H.tv_eq ha hb
    (clear r32; clear r43; clear s9 Subscript_; clear r11; clear r91; clear r3; clear r87; clear s9 Subscript_; clear r11; clear r92; clear r3; clear r87; clear s9 eq_int; clear r129; clear r133; clear r31; clear r7 Z33 Z299; clear s29 bool_value; clear s9 Thn.ret; clear r134)
    exact hret _ _ _ _ _ _ kF kN (by rw [decide_eq_true rfl]; exact H')
  · have hd : ¬ ad na = ad nb := fun e => hn (ad_inj e)
    cases osa with
    | none =>
      obtain rfl := H.tv_zero ha
      cases osb with
      | none => exact absurd (H.tv_zero hb).symm hn
      | some y =>
        (clear r32; clear r43; clear s9 Subscript_; clear r11; clear r91; clear r3; clear r87; clear s9 Subscript_; clear r11; clear r92; clear r3; clear r87; clear s9 eq_int; clear r129; clear r132; clear r33; clear r8; clear r1 Z26; clear r109 Z296; clear r126; clear r127; clear r11; clear r91; clear r125; clear r128; clear s27 text_at0; clear r124; clear r33; clear r8; clear r1 Z26; clear r109 Z296; clear r126; clear r127; clear r11; clear r92; clear r125; clear r128; clear r98; clear r124; clear r31; clear r8; clear r1 Z33; clear r109 Z299; clear r127; clear s9 e_and; clear s10 ce2; clear s9 isNot_none; clear r129; clear r132; clear r125; clear r128; clear s29 bool_value; clear r134)
        exact hret _ _ _ _ _ _ kF kN H'
    | some x =>
      cases osb with
      | none =>
        obtain rfl := H.tv_zero hb
        (clear r32; clear r43; clear s9 Subscript_; clear r11; clear r91; clear r3; clear r87; clear s9 Subscript_; clear r11; clear r92; clear r3; clear r87; clear s9 eq_int; clear r129; clear r132; clear r33; clear r8; clear r1 Z26; clear r109 Z296; clear r126; clear r127; clear r11; clear r91; clear r125; clear r128; clear r98; clear r124; clear r33; clear r8; clear r1 Z26; clear r109 Z296; clear r126; clear r127; clear r11; clear r92; clear r125; clear r128; clear s27 text_at0; clear r124; clear r31; clear r8; clear r1 Z33; clear r109 Z299; clear r127; clear s9 e_and; clear s10 ce2; clear s9 isNot_none; clear r129; clear r133; clear s9 e_and; clear s10 ce2; clear s9 isNot_none; clear r129; clear r132; clear r125; clear r128; clear s29 bool_value; clear r134)
        exact hret _ _ _ _ _ _ kF kN H'
      | some y =>
        (clear r32; clear r43; clear s9 Subscript_; clear r11; clear r91; clear r3; clear r87; clear s9 Subscript_; clear r11; clear r92; clear r3; clear r87; clear s9 eq_int; clear r129; clear r132; clear r33; clear r8; clear r1 Z26; clear r109 Z296; clear r126; clear r127; clear r11; clear r91; clear r125; clear r128; clear r98; clear r124; clear r33; clear r8; clear r1 Z26; clear r109 Z296; clear r126; clear r127; clear r11; clear r92; clear r125; clear r128; clear r98; clear r124; clear r31; clear r8; clear r1 Z33; clear r109 Z299; clear r127; clear s9 e_and; clear s10 ce2; clear s9 isNot_none; clear r129; clear r133; clear s9 e_and; clear s10 ce2; clear s9 isNot_none; clear r129; clear r133; clear s9 BoolOp_one; clear s10 ce2; clear s9 c_eqs; clear r125; clear r128; clear s29 bool_value; clear r134)
        exact hret _ _ _ _ _ _ kF kN (by simpa using H')
theorem n_same {l a b na nb osa osb} (O : Ok w A h₀ L 13) (F : Fr h₀ L hp m) (N : News h₀ L hp (X ++ news)) (H : Hs w P X st news Φ) (hl : Fact.ls l [.ref a, .ref b] ∈ Φ) (ha : Fact.tv a na osa ∈ Φ) (hb : Fact.tv b nb osb ∈ Φ)
    (hret : ∀ r t t' news' h' tk', Fr h₀ L h' m → News h₀ L h' (X ++ news') → Hs w P X st news' (Fact.tu r [.int 1 t, .int (b2i (decide (osa = osb))) t'] :: Φ) → Q (.ref r) ⟨h', gn, dr, tk', oS⟩) :
    wpAny (model PR w) A (call (.ref 632) [.ref (P.ni 4), .ref P.m, .none, .ref l]) Q E ⟨hp, gn, dr, tk, oS⟩ := n_same_r (((((((((((((((((((((((w, A), h₀), L), m), hp), gn), dr), tk), oS), P), X), news), st), Φ), Q), E), l), a), b), na), nb), osa), osb) O F N H hl ha hb hret

def n_equals_S (l a b : Addr) (na nb : Nat) (x : Str) (osb : Option Str) : Prop := ∀ (O : Ok w A h₀ L 13) (F : Fr h₀ L hp m) (N : News h₀ L hp (X ++ news)) (H : Hs w P X st news Φ) (hl : Fact.ls l [.ref a, .ref b] ∈ Φ) (ha : Fact.tv a na (some x) ∈ Φ) (hb : Fact.tv b nb osb ∈ Φ) (hret : ∀ r t t' news' h' tk', Fr h₀ L h' m → News h₀ L h' (X ++ news') → Hs w P X st news' (Fact.tu r [.int 1 t, .int (b2i (decide (some x = osb))) t'] :: Φ) → Q (.ref r) ⟨h', gn, dr, tk', oS⟩), wpAny (model PR w) A (call (.ref 651) [.ref (P.ni 5), .ref P.m, .none, .ref l]) Q E ⟨hp, gn, dr, tk, oS⟩
theorem n_equals_r : ∀ r : (((((((HT17 × Addr) × Addr) × Addr) × Nat) × Nat) × Str) × (Option Str)), (c17 (@n_equals_S) r.1.1.1.1.1.1.1) r.1.1.1.1.1.1.2 r.1.1.1.1.1.2 r.1.1.1.1.2 r.1.1.1.2 r.1.1.2 r.1.2 r.2 := by
  refine ep_all (ne := by walk_at "NE") ((?_ : ∀ w A h₀ L m hp gn dr tk oS P X news st Φ Q E l a b na nb x osb, @n_equals_S w A h₀ L m hp gn dr tk oS P X news st Φ Q E l a b na nb x osb) _ _ _ _ _ _ _ _ _ _ _ _ _ _ _ _ _ _ _ _ _ _ _ _)
  intro w A h₀ L m hp gn dr tk oS P X news st Φ Q E l a b na nb x osb O F N H hl ha hb hret
  refine' callfE (d := 12) ["self", "m", "f", "args"] ["text", "other"] ["text_at", "no_object", "thing_named", "STRING", "bool_value"] [some (.ref (P.ni 5)), some (.ref P.m), some (.none), some (.ref l), none, none] O F N ?ho ?hcd ?hb ?hl ?hS ?hc ?hv ["self", "m", "f", "args", "text", "other"] ?hpm ?_
  walk_at "ENTERE"
  cases osb with
  | none =>
    obtain rfl := H.tv_zero hb
    (clear r33; clear r8; clear r1 Z26; clear r109 Z296; clear r126; clear r127; clear r11; clear r91; clear r125; clear r128; clear r98; clear r124; clear r32; clear r41; clear s9 is_none; clear r129; clear r132; clear r33; clear r8; clear r1 Z34; clear r109 Z300; clear r126; clear r127; clear r11; clear r92; clear r125; clear r128; clear s27 thing_named0; clear r124; clear r32; clear r48; clear r41; clear s9 is_none; clear r129; clear r133; clear r133; clear r31; clear r7 Z33 Z299; clear s29 bool_value; clear s9 Thn.ret; clear r134)
    exact hret _ _ _ _ _ _ kF kN H'
  | some y =>
    (clear r33; clear r8; clear r1 Z26; clear r109 Z296; clear r126; clear r127; clear r11; clear r91; clear r125; clear r128; clear r98; clear r124; clear r32; clear r41; clear s9 is_none; clear r129; clear r132; clear r33; clear r8; clear r1 Z34; clear r109 Z300; clear r126; clear r127; clear r11; clear r92; clear r125; clear r128; ((with_reducible refine thing_named ‹8› ‹_› ‹_› ‹_› ‹0› ?_); intro th t1' t2' sl' h' tk' F' N' I'); clear r124; clear r32; clear r48; clear r41; clear s9 is_none; clear r129; clear r132; clear r48; clear r43; clear r14; clear s11 th_kind; clear r1 Z16; clear s9 ne_int; clear r129; clear r132; clear s9 isTrue_or_nil; clear r132; clear r31; clear r8; clear r1 Z33; clear r109 Z299; clear r127; clear r21; clear r0; clear r9; clear s4 mm_text_of; clear s14 c_mth Z331; clear r127; clear r14; clear s11 th_addr; clear r125; clear r128; clear s13 text_of; clear s9 c_eqs; clear r125; clear r128; clear s29 bool_value; clear r134)
    exact hret _ _ _ _ _ _ kF kN (by simpa using H')
theorem n_equals {l a b na nb x osb} (O : Ok w A h₀ L 13) (F : Fr h₀ L hp m) (N : News h₀ L hp (X ++ news)) (H : Hs w P X st news Φ) (hl : Fact.ls l [.ref a, .ref b] ∈ Φ) (ha : Fact.tv a na (some x) ∈ Φ) (hb : Fact.tv b nb osb ∈ Φ)
    (hret : ∀ r t t' news' h' tk', Fr h₀ L h' m → News h₀ L h' (X ++ news') → Hs w P X st news' (Fact.tu r [.int 1 t, .int (b2i (decide (some x = osb))) t'] :: Φ) → Q (.ref r) ⟨h', gn, dr, tk', oS⟩) :
    wpAny (model PR w) A (call (.ref 651) [.ref (P.ni 5), .ref P.m, .none, .ref l]) Q E ⟨hp, gn, dr, tk, oS⟩ := n_equals_r (((((((((((((((((((((((w, A), h₀), L), m), hp), gn), dr), tk), oS), P), X), news), st), Φ), Q), E), l), a), b), na), nb), x), osb) O F N H hl ha hb hret

def n_index_S (l a b : Addr) (na nb : Nat) (x y : Str) : Prop := ∀ (O : Ok w A h₀ L 13) (F : Fr h₀ L hp m) (N : News h₀ L hp (X ++ news)) (H : Hs w P X st news Φ) (hl : Fact.ls l [.ref a, .ref b] ∈ Φ) (ha : Fact.tv a na (some x) ∈ Φ) (hb : Fact.tv b nb (some y) ∈ Φ) (hret : ∀ r t t' news' h' tk', Fr h₀ L h' m → News h₀ L h' (X ++ news') → Hs w P X st news' (Fact.tu r [.int 1 t, .int (Txt.find x y) t'] :: Φ) → Q (.ref r) ⟨h', gn, dr, tk', oS⟩), wpAny (model PR w) A (call (.ref 708) [.ref (P.ni 8), .ref P.m, .none, .ref l]) Q E ⟨hp, gn, dr, tk, oS⟩
theorem n_index_r : ∀ r : (((((((HT17 × Addr) × Addr) × Addr) × Nat) × Nat) × Str) × Str), (c17 (@n_index_S) r.1.1.1.1.1.1.1) r.1.1.1.1.1.1.2 r.1.1.1.1.1.2 r.1.1.1.1.2 r.1.1.1.2 r.1.1.2 r.1.2 r.2 := by
  refine ep_all (ne := by walk_at "NE") ((?_ : ∀ w A h₀ L m hp gn dr tk oS P X news st Φ Q E l a b na nb x y, @n_index_S w A h₀ L m hp gn dr tk oS P X news st Φ Q E l a b na nb x y) _ _ _ _ _ _ _ _ _ _ _ _ _ _ _ _ _ _ _ _ _ _ _ _)
  intro w A h₀ L m hp gn dr tk oS P X news st Φ Q E l a b na nb x y O F N H hl ha hb hret
  refine' callfE (d := 12) ["self", "m", "f", "args"] ["text", "other"] ["text_at", "no_object", "bad_argument", "T_ARG", "V_I4"] [some (.ref (P.ni 8)), some (.ref P.m), some (.none), some (.ref l), none, none] O F N ?ho ?hcd ?hb ?hl ?hS ?hc ?hv ["self", "m", "f", "args", "text", "other"] ?hpm ?_
  walk_at "ENTERE"
  (clear r33; clear r8; clear r1 Z26; clear r109 Z296; clear r126; clear r127; clear r11; clear r91; clear r125; clear r128; clear r98; clear r124; clear r32; clear r41; clear s9 is_none; clear r129; clear r132; clear r33; clear r8; clear r1 Z26; clear r109 Z296; clear r126; clear r127; clear r11; clear r92; clear r125; clear r128; clear r98; clear r124; clear r32; clear r41; clear s9 is_none; clear r129; clear r132; clear r31; clear s9 Tuple_; clear r127; clear r1 Z21; clear r127; clear r9; clear s9 gm_find; clear s7 cbm; clear s9 s_find; clear r125; clear r122; clear r134)
  exact hret _ _ _ _ _ _ kF kN H'
theorem n_index {l a b na nb x y} (O : Ok w A h₀ L 13) (F : Fr h₀ L hp m) (N : News h₀ L hp (X ++ news)) (H : Hs w P X st news Φ) (hl : Fact.ls l [.ref a, .ref b] ∈ Φ) (ha : Fact.tv a na (some x) ∈ Φ) (hb : Fact.tv b nb (some y) ∈ Φ)
    (hret : ∀ r t t' news' h' tk', Fr h₀ L h' m → News h₀ L h' (X ++ news') → Hs w P X st news' (Fact.tu r [.int 1 t, .int (Txt.find x y) t'] :: Φ) → Q (.ref r) ⟨h', gn, dr, tk', oS⟩) :
    wpAny (model PR w) A (call (.ref 708) [.ref (P.ni 8), .ref P.m, .none, .ref l]) Q E ⟨hp, gn, dr, tk, oS⟩ := n_index_r (((((((((((((((((((((((w, A), h₀), L), m), hp), gn), dr), tk), oS), P), X), news), st), Φ), Q), E), l), a), b), na), nb), x), y) O F N H hl ha hb hret

def cmpS (x y : List Nat) : Int := if y < x then 1 else if x < y then -1 else 0
def cmpO (x : Str) : Option Str → Int
  | none => 1
  | some y => cmpS x.cps.toList y.cps.toList

def n_compare_S (l a b : Addr) (na nb : Nat) (x : Str) (osb : Option Str) : Prop := ∀ (O : Ok w A h₀ L 13) (F : Fr h₀ L hp m) (N : News h₀ L hp (X ++ news)) (H : Hs w P X st news Φ) (hl : Fact.ls l [.ref a, .ref b] ∈ Φ) (ha : Fact.tv a na (some x) ∈ Φ) (hb : Fact.tv b nb osb ∈ Φ) (hret : ∀ r t t' news' h' tk', Fr h₀ L h' m → News h₀ L h' (X ++ news') → Hs w P X st news' (Fact.tu r [.int 1 t, .int (cmpO x osb) t'] :: Φ) → Q (.ref r) ⟨h', gn, dr, tk', oS⟩), wpAny (model PR w) A (call (.ref 727) [.ref (P.ni 9), .ref P.m, .none, .ref l]) Q E ⟨hp, gn, dr, tk, oS⟩
theorem n_compare_r : ∀ r : (((((((HT17 × Addr) × Addr) × Addr) × Nat) × Nat) × Str) × (Option Str)), (c17 (@n_compare_S) r.1.1.1.1.1.1.1) r.1.1.1.1.1.1.2 r.1.1.1.1.1.2 r.1.1.1.1.2 r.1.1.1.2 r.1.1.2 r.1.2 r.2 := by
  refine ep_all (ne := by walk_at "NE") ((?_ : ∀ w A h₀ L m hp gn dr tk oS P X news st Φ Q E l a b na nb x osb, @n_compare_S w A h₀ L m hp gn dr tk oS P X news st Φ Q E l a b na nb x osb) _ _ _ _ _ _ _ _ _ _ _ _ _ _ _ _ _ _ _ _ _ _ _ _)
  intro w A h₀ L m hp gn dr tk oS P X news st Φ Q E l a b na nb x osb O F N H hl ha hb hret
  refine' callfE (d := 12) ["self", "m", "f", "args"] ["text", "other"] ["text_at", "no_object", "V_I4"] [some (.ref (P.ni 9)), some (.ref P.m), some (.none), some (.ref l), none, none] O F N ?ho ?hcd ?hb ?hl ?hS ?hc ?hv ["self", "m", "f", "args", "text", "other"] ?hpm ?_
  walk_at "ENTERE"
  cases osb with
  | none =>
    obtain rfl := H.tv_zero hb
    (clear r33; clear r8; clear r1 Z26; clear r109 Z296; clear r126; clear r127; clear r11; clear r91; clear r125; clear r128; clear r98; clear r124; clear r32; clear r41; clear s9 is_none; clear r129; clear r132; clear r33; clear r8; clear r1 Z26; clear r109 Z296; clear r126; clear r127; clear r11; clear r92; clear r125; clear r128; clear s27 text_at0; clear r124; clear r32; clear r48; clear r41; clear s9 is_none; clear r129; clear r133; clear r133; clear r31; clear s9 Tuple_; clear r127; clear r1 Z21; clear r126; clear r125; clear r122; clear s9 Thn.ret; clear r134)
    exact hret _ _ _ _ _ _ kF kN H'
  | some y =>
    by_cases h1 : y.cps.toList < x.cps.toList
    · (clear r33; clear r8; clear r1 Z26; clear r109 Z296; clear r126; clear r127; clear r11; clear r91; clear r125; clear r128; clear r98; clear r124; clear r32; clear r41; clear s9 is_none; clear r129; clear r132; clear r33; clear r8; clear r1 Z26; clear r109 Z296; clear r126; clear r127; clear r11; clear r92; clear r125; clear r128; clear r98; clear r124; clear r32; clear r48; clear r41; clear s9 is_none; clear r129; clear r132; clear r48; clear r41; clear s9 c_gts; clear r129; clear r133; clear r133; clear r31; clear s9 Tuple_; clear r127; clear r1 Z21; clear r126; clear r125; clear r122; clear s9 Thn.ret; clear r134)
      exact hret _ _ _ _ _ _ kF kN (by rw [cmpO, cmpS, if_pos h1]; exact H')
    · by_cases h2 : x.cps.toList < y.cps.toList
      · (clear r33; clear r8; clear r1 Z26; clear r109 Z296; clear r126; clear r127; clear r11; clear r91; clear r125; clear r128; clear r98; clear r124; clear r32; clear r41; clear s9 is_none; clear r129; clear r132; clear r33; clear r8; clear r1 Z26; clear r109 Z296; clear r126; clear r127; clear r11; clear r92; clear r125; clear r128; clear r98; clear r124; clear r32; clear r48; clear r41; clear s9 is_none; clear r129; clear r132; clear r48; clear r41; clear s9 c_gts; clear r129; clear r132; clear s9 isTrue_or_nil; clear r132; clear r32; clear r41; clear s9 c_lts; clear r129; clear r133; clear r31; clear s9 Tuple_; clear r127; clear r1 Z21; clear r127; clear s9 UnaryOp_; clear r3; clear s9 o_neg; clear r125; clear r122; clear s9 Thn.ret; clear r134)
        exact hret _ _ _ _ _ _ kF kN (by rw [cmpO, cmpS, if_neg h1, if_pos h2]; exact H')
      · (clear r33; clear r8; clear r1 Z26; clear r109 Z296; clear r126; clear r127; clear r11; clear r91; clear r125; clear r128; clear r98; clear r124; clear r32; clear r41; clear s9 is_none; clear r129; clear r132; clear r33; clear r8; clear r1 Z26; clear r109 Z296; clear r126; clear r127; clear r11; clear r92; clear r125; clear r128; clear r98; clear r124; clear r32; clear r48; clear r41; clear s9 is_none; clear r129; clear r132; clear r48; clear r41; clear s9 c_gts; clear r129; clear r132; clear s9 isTrue_or_nil; clear r132; clear r32; clear r41; clear s9 c_lts; clear r129; clear r132; clear r31; clear s9 Tuple_; clear r127; clear r1 Z21; clear r126; clear r125; clear r122; clear r134)
        exact hret _ _ _ _ _ _ kF kN (by rw [cmpO, cmpS, if_neg h1, if_neg h2]; exact H')
theorem n_compare {l a b na nb x osb} (O : Ok w A h₀ L 13) (F : Fr h₀ L hp m) (N : News h₀ L hp (X ++ news)) (H : Hs w P X st news Φ) (hl : Fact.ls l [.ref a, .ref b] ∈ Φ) (ha : Fact.tv a na (some x) ∈ Φ) (hb : Fact.tv b nb osb ∈ Φ)
    (hret : ∀ r t t' news' h' tk', Fr h₀ L h' m → News h₀ L h' (X ++ news') → Hs w P X st news' (Fact.tu r [.int 1 t, .int (cmpO x osb) t'] :: Φ) → Q (.ref r) ⟨h', gn, dr, tk', oS⟩) :
    wpAny (model PR w) A (call (.ref 727) [.ref (P.ni 9), .ref P.m, .none, .ref l]) Q E ⟨hp, gn, dr, tk, oS⟩ := n_compare_r (((((((((((((((((((((((w, A), h₀), L), m), hp), gn), dr), tk), oS), P), X), news), st), Φ), Q), E), l), a), b), na), nb), x), osb) O F N H hl ha hb hret

def PartOk (x : Str) (na : Nat) (k : Int) (Φ : List Fact) (ex : List Fact) (n : Nat) : Prop :=
  (k = 0 ∧ ex = [.pool "" n]) ∨ (k ≠ 0 ∧ k = x.length ∧ ex = [] ∧ n = na) ∨ (k ≠ 0 ∧ k ≠ x.length ∧ ex = [.priv n] ∧ ∀ a' n' os', Fact.tv a' n' os' ∈ Φ → n' < n)
theorem cut_nil (x : Str) (i : Nat) : cut x i 0 = "" := str_ext (by rw [cut_list]; simp; rfl)
theorem cut_all (x : Str) : cut x 0 x.length = x := str_ext (by rw [cut_list, strlen, List.drop_zero, List.take_length])

def n_part_S (l a b c : Addr) (na : Nat) (x : Str) (i k : Int) (tb ti tc tk' : Tok) : Prop := ∀ (O : Ok w A h₀ L 13) (F : Fr h₀ L hp m) (N : News h₀ L hp (X ++ news)) (H : Hs w P X st news Φ) (hl : Fact.ls l [.ref a, .ref b, .ref c] ∈ Φ) (ha : Fact.tv a na (some x) ∈ Φ) (hb : Fact.tu b [.int 1 tb, .int i ti] ∈ Φ) (hc : Fact.tu c [.int 1 tc, .int k tk'] ∈ Φ) (za : x.length ≤ 1000) (hz : st.b ≤ 1000000) (h0 : 0 ≤ i) (h1 : 0 ≤ k) (h2 : i + k ≤ x.length) (hret : ∀ r n ex news' h' tk', Fr h₀ L h' m → News h₀ L h' (X ++ news') → PartOk x na k Φ ex n → Hs w P X ⟨st.T, st.th, st.b + 1, st.fc⟩ news' (.tv r n (some (cut x i.toNat k.toNat)) :: (ex ++ Φ)) → Q (.ref r) ⟨h', gn, dr, tk', oS⟩), wpAny (model PR w) A (call (.ref 689) [.ref (P.ni 7), .ref P.m, .none, .ref l]) Q E ⟨hp, gn, dr, tk, oS⟩
theorem n_part_r : ∀ r : ((((((((((((HT17 × Addr) × Addr) × Addr) × Addr) × Nat) × Str) × Int) × Int) × Tok) × Tok) × Tok) × Tok), (c17 (@n_part_S) r.1.1.1.1.1.1.1.1.1.1.1.1) r.1.1.1.1.1.1.1.1.1.1.1.2 r.1.1.1.1.1.1.1.1.1.1.2 r.1.1.1.1.1.1.1.1.1.2 r.1.1.1.1.1.1.1.1.2 r.1.1.1.1.1.1.1.2 r.1.1.1.1.1.1.2 r.1.1.1.1.1.2 r.1.1.1.1.2 r.1.1.1.2 r.1.1.2 r.1.2 r.2 := by
  refine ep_all (ne := by walk_at "NE") ((?_ : ∀ w A h₀ L m hp gn dr tk oS P X news st Φ Q E l a b c na x i k tb ti tc tk', @n_part_S w A h₀ L m hp gn dr tk oS P X news st Φ Q E l a b c na x i k tb ti tc tk') _ _ _ _ _ _ _ _ _ _ _ _ _ _ _ _ _ _ _ _ _ _ _ _ _ _ _ _ _)
  intro w A h₀ L m hp gn dr tk oS P X news st Φ Q E l a b c na x i k tb ti tc tk' O F N H hl ha hb hc za hz h0 h1 h2 hret
  refine' callfE (d := 12) ["self", "m", "f", "args"] ["text", "first", "count"] ["text_at", "no_object", "bad_argument", "T_ARGRANGE", "EMPTY_RANGE", "len"] [some (.ref (P.ni 7)), some (.ref P.m), some (.none), some (.ref l), none, none, none] O F N ?ho ?hcd ?hb ?hl ?hS ?hc ?hv ["self", "m", "f", "args", "text", "first", "count"] ?hpm ?_
  walk_at "ENTERE"
  by_cases e0 : k = 0
  · subst e0
    (clear r33; clear r8; clear r1 Z26; clear r109 Z296; clear r126; clear r127; clear r11; clear r91; clear r125; clear r128; clear r98; clear r124; clear r32; clear r41; clear s9 is_none; clear r129; clear r132; clear r33; clear s9 Subscript_; clear r11; clear r92; clear r3; clear r95; clear r124; clear r33; clear s9 Subscript_; clear r11; clear s26 ls_2; clear r3; clear r95; clear r124; clear r32; clear r48; clear r41; clear s9 lt_int; clear r129; clear r132; clear r48; clear r41; clear s9 lt_int; clear r129; clear r132; clear r48; clear r43; clear r16; clear s9 o_add; clear r8; clear r2 Z88; clear r107; clear s28 s_len; clear s9 gt_int; clear r129; clear r132; clear s9 isTrue_or_nil; clear r132; clear r32; clear r41; clear s9 eq_int; clear r129; clear r133; clear r31; clear r9; clear s4 mm_text_ref; clear s22 cm Z332; clear s24 text_ref; clear s9 Thn.ret; clear r134)
    exact hret _ _ [.pool "" _] _ _ _ kF kN (.inl ⟨rfl, rfl⟩) (by rw [show cut x i.toNat (0 : Int).toNat = "" from cut_nil _ _]; exact H')
  · by_cases e1 : k = x.length
    · (clear r33; clear r8; clear r1 Z26; clear r109 Z296; clear r126; clear r127; clear r11; clear r91; clear r125; clear r128; clear r98; clear r124; clear r32; clear r41; clear s9 is_none; clear r129; clear r132; clear r33; clear s9 Subscript_; clear r11; clear r92; clear r3; clear r95; clear r124; clear r33; clear s9 Subscript_; clear r11; clear s26 ls_2; clear r3; clear r95; clear r124; clear r32; clear r48; clear r41; clear s9 lt_int; clear r129; clear r132; clear r48; clear r41; clear s9 lt_int; clear r129; clear r132; clear r48; clear r43; clear r16; clear s9 o_add; clear r8; clear r2 Z88; clear r107; clear s28 s_len; clear s9 gt_int; clear r129; clear r132; clear s9 isTrue_or_nil; clear r132; clear r32; clear r41; clear s9 eq_int; clear r129; clear r132; clear r32; clear r42; clear r8; clear r2 Z88; clear r107; clear s28 s_len; clear s9 eq_int; clear r129; clear r133; clear r31; clear r11; clear r91; clear s9 Thn.ret; clear r134)
      have ei : i = 0 := by lia
      exact hret _ _ [] _ _ _ kF kN (.inr (.inl ⟨e0, e1, rfl, rfl⟩)) (by rw [ei, e1, show cut x (0 : Int).toNat ((x.length : Nat) : Int).toNat = x from cut_all _]; exact H.dup ha)
    · (clear r33; clear r8; clear r1 Z26; clear r109 Z296; clear r126; clear r127; clear r11; clear r91; clear r125; clear r128; clear r98; clear r124; clear r32; clear r41; clear s9 is_none; clear r129; clear r132; clear r33; clear s9 Subscript_; clear r11; clear r92; clear r3; clear r95; clear r124; clear r33; clear s9 Subscript_; clear r11; clear s26 ls_2; clear r3; clear r95; clear r124; clear r32; clear r48; clear r41; clear s9 lt_int; clear r129; clear r132; clear r48; clear r41; clear s9 lt_int; clear r129; clear r132; clear r48; clear r43; clear r16; clear s9 o_add; clear r8; clear r2 Z88; clear r107; clear s28 s_len; clear s9 gt_int; clear r129; clear r132; clear s9 isTrue_or_nil; clear r132; clear r32; clear r41; clear s9 eq_int; clear r129; clear r132; clear r32; clear r42; clear r8; clear r2 Z88; clear r107; clear s28 s_len; clear s9 eq_int; clear r129; clear r132; clear r31; clear r9; clear s4 mm_new_text; clear s14 c_mth Z333; clear r127; clear s3 su1; clear s9 wpAny_Slice; clear s9 evalPart_some_step; clear r0; clear s9 evalPart_some_step; clear r16; clear s9 o_add; clear s9 evalPart_none_step; ((with_reducible refine s_cut ‹_› ‹_› ?h0 ?h1 ?h2 ?hz ?_ ?hs ?ht); (case h0 => (first | assumption | lia)); (case h1 => (first | assumption | lia)); (case h2 => (first | assumption | lia)); (case hz => (first | assumption | lia)); (case hs => with_unfolding_all exact rfl); (case ht => (intro _; with_unfolding_all rfl)); intro h' t' tk' F' N'); clear r125; clear r128; ((with_reducible refine new_text ‹8› ‹_› ‹_› ‹_› ?hz ?_); (case hz => (first | assumption | lia)); intro l' n' n2' h' tk' F' N' u1 u2 u3 K' H'); clear r134)
      have e2 : (i + k - i).toNat = k.toNat := by lia
      rw [e2] at H'
      exact hret _ _ [.priv _] _ _ _ kF kN (.inr (.inr ⟨e0, e1, rfl, u2⟩)) H'
theorem n_part {l a b c na x i k tb ti tc tk'} (O : Ok w A h₀ L 13) (F : Fr h₀ L hp m) (N : News h₀ L hp (X ++ news)) (H : Hs w P X st news Φ) (hl : Fact.ls l [.ref a, .ref b, .ref c] ∈ Φ) (ha : Fact.tv a na (some x) ∈ Φ) (hb : Fact.tu b [.int 1 tb, .int i ti] ∈ Φ) (hc : Fact.tu c [.int 1 tc, .int k tk'] ∈ Φ) (za : x.length ≤ 1000) (hz : st.b ≤ 1000000) (h0 : 0 ≤ i) (h1 : 0 ≤ k) (h2 : i + k ≤ x.length)
    (hret : ∀ r n ex news' h' tk', Fr h₀ L h' m → News h₀ L h' (X ++ news') → PartOk x na k Φ ex n → Hs w P X ⟨st.T, st.th, st.b + 1, st.fc⟩ news' (.tv r n (some (cut x i.toNat k.toNat)) :: (ex ++ Φ)) → Q (.ref r) ⟨h', gn, dr, tk', oS⟩) :
    wpAny (model PR w) A (call (.ref 689) [.ref (P.ni 7), .ref P.m, .none, .ref l]) Q E ⟨hp, gn, dr, tk, oS⟩ := n_part_r ((((((((((((((((((((((((((((w, A), h₀), L), m), hp), gn), dr), tk), oS), P), X), news), st), Φ), Q), E), l), a), b), c), na), x), i), k), tb), ti), tc), tk') O F N H hl ha hb hc za hz h0 h1 h2 hret

def n_part_bad_S (l a b c : Addr) (na : Nat) (x : Str) (i k : Int) (tb ti tc tk' : Tok) : Prop := ∀ (O : Ok w A h₀ L 13) (F : Fr h₀ L hp m) (N : News h₀ L hp (X ++ news)) (H : Hs w P X st news Φ) (hl : Fact.ls l [.ref a, .ref b, .ref c] ∈ Φ) (ha : Fact.tv a na (some x) ∈ Φ) (hb : Fact.tu b [.int 1 tb, .int i ti] ∈ Φ) (hc : Fact.tu c [.int 1 tc, .int k tk'] ∈ Φ) (za : x.length ≤ 1000) (h0 : i < 0 ∨ k < 0 ∨ (x.length : Int) < i + k) (hz : st.th.length ≤ 1000) (hret : ∀ t' news' h' tk', Fr h₀ L h' m → News h₀ L h' (X ++ news') → Hs w P X ⟨st.T, st.th ++ [32], st.b, st.fc⟩ news' Φ → Q (.int (-2) t') ⟨h', gn, dr, tk', oS⟩), wpAny (model PR w) A (call (.ref 689) [.ref (P.ni 7), .ref P.m, .none, .ref l]) Q E ⟨hp, gn, dr, tk, oS⟩
theorem n_part_bad_r : ∀ r : ((((((((((((HT17 × Addr) × Addr) × Addr) × Addr) × Nat) × Str) × Int) × Int) × Tok) × Tok) × Tok) × Tok), (c17 (@n_part_bad_S) r.1.1.1.1.1.1.1.1.1.1.1.1) r.1.1.1.1.1.1.1.1.1.1.1.2 r.1.1.1.1.1.1.1.1.1.1.2 r.1.1.1.1.1.1.1.1.1.2 r.1.1.1.1.1.1.1.1.2 r.1.1.1.1.1.1.1.2 r.1.1.1.1.1.1.2 r.1.1.1.1.1.2 r.1.1.1.1.2 r.1.1.1.2 r.1.1.2 r.1.2 r.2 := by
  refine ep_all (ne := by walk_at "NE") ((?_ : ∀ w A h₀ L m hp gn dr tk oS P X news st Φ Q E l a b c na x i k tb ti tc tk', @n_part_bad_S w A h₀ L m hp gn dr tk oS P X news st Φ Q E l a b c na x i k tb ti tc tk') _ _ _ _ _ _ _ _ _ _ _ _ _ _ _ _ _ _ _ _ _ _ _ _ _ _ _ _ _)
  intro w A h₀ L m hp gn dr tk oS P X news st Φ Q E l a b c na x i k tb ti tc tk' O F N H hl ha hb hc za h0 hz hret
  refine' callfE (d := 12) ["self", "m", "f", "args"] ["text", "first", "count"] ["text_at", "no_object", "bad_argument", "T_ARGRANGE", "EMPTY_RANGE", "len"] [some (.ref (P.ni 7)), some (.ref P.m), some (.none), some (.ref l), none, none, none] O F N ?ho ?hcd ?hb ?hl ?hS ?hc ?hv ["self", "m", "f", "args", "text", "first", "count"] ?hpm ?_
  walk_at "ENTERE"
  by_cases e0 : i < 0
  · (clear r33; clear r8; clear r1 Z26; clear r109 Z296; clear r126; clear r127; clear r11; clear r91; clear r125; clear r128; clear r98; clear r124; clear r32; clear r41; clear s9 is_none; clear r129; clear r132; clear r33; clear s9 Subscript_; clear r11; clear r92; clear r3; clear r95; clear r124; clear r33; clear s9 Subscript_; clear r11; clear s26 ls_2; clear r3; clear r95; clear r124; clear r32; clear r48; clear r41; clear s9 lt_int; clear r129; clear r133; clear r133; clear r31; clear r8; clear r1 Z28; clear r109 Z297; clear r126; clear r127; clear r1 Z36; clear r127; clear r1 Z37; clear r125; clear r128; clear s25 bad_argument; clear s9 Thn.ret; clear r134)
    exact hret _ _ _ _ kF kN H'
  · by_cases e1 : k < 0
    · (clear r33; clear r8; clear r1 Z26; clear r109 Z296; clear r126; clear r127; clear r11; clear r91; clear r125; clear r128; clear r98; clear r124; clear r32; clear r41; clear s9 is_none; clear r129; clear r132; clear r33; clear s9 Subscript_; clear r11; clear r92; clear r3; clear r95; clear r124; clear r33; clear s9 Subscript_; clear r11; clear s26 ls_2; clear r3; clear r95; clear r124; clear r32; clear r48; clear r41; clear s9 lt_int; clear r129; clear r132; clear r48; clear r41; clear s9 lt_int; clear r129; clear r133; clear r133; clear r31; clear r8; clear r1 Z28; clear r109 Z297; clear r126; clear r127; clear r1 Z36; clear r127; clear r1 Z37; clear r125; clear r128; clear s25 bad_argument; clear s9 Thn.ret; clear r134)
      exact hret _ _ _ _ kF kN H'
    · have e2 : (x.length : Int) < i + k := by lia
      (clear r33; clear r8; clear r1 Z26; clear r109 Z296; clear r126; clear r127; clear r11; clear r91; clear r125; clear r128; clear r98; clear r124; clear r32; clear r41; clear s9 is_none; clear r129; clear r132; clear r33; clear s9 Subscript_; clear r11; clear r92; clear r3; clear r95; clear r124; clear r33; clear s9 Subscript_; clear r11; clear s26 ls_2; clear r3; clear r95; clear r124; clear r32; clear r48; clear r41; clear s9 lt_int; clear r129; clear r132; clear r48; clear r41; clear s9 lt_int; clear r129; clear r132; clear r48; clear r43; clear r16; clear s9 o_add; clear r8; clear r2 Z88; clear r107; clear s28 s_len; clear s9 gt_int; clear r129; clear r133; clear r133; clear r31; clear r8; clear r1 Z28; clear r109 Z297; clear r126; clear r127; clear r1 Z36; clear r127; clear r1 Z37; clear r125; clear r128; clear s25 bad_argument; clear s9 Thn.ret; clear r134)
      exact hret _ _ _ _ kF kN H'
theorem n_part_bad {l a b c na x i k tb ti tc tk'} (O : Ok w A h₀ L 13) (F : Fr h₀ L hp m) (N : News h₀ L hp (X ++ news)) (H : Hs w P X st news Φ) (hl : Fact.ls l [.ref a, .ref b, .ref c] ∈ Φ) (ha : Fact.tv a na (some x) ∈ Φ) (hb : Fact.tu b [.int 1 tb, .int i ti] ∈ Φ) (hc : Fact.tu c [.int 1 tc, .int k tk'] ∈ Φ) (za : x.length ≤ 1000) (h0 : i < 0 ∨ k < 0 ∨ (x.length : Int) < i + k) (hz : st.th.length ≤ 1000)
    (hret : ∀ t' news' h' tk', Fr h₀ L h' m → News h₀ L h' (X ++ news') → Hs w P X ⟨st.T, st.th ++ [32], st.b, st.fc⟩ news' Φ → Q (.int (-2) t') ⟨h', gn, dr, tk', oS⟩) :
    wpAny (model PR w) A (call (.ref 689) [.ref (P.ni 7), .ref P.m, .none, .ref l]) Q E ⟨hp, gn, dr, tk, oS⟩ := n_part_bad_r ((((((((((((((((((((((((((((w, A), h₀), L), m), hp), gn), dr), tk), oS), P), X), news), st), Φ), Q), E), l), a), b), c), na), x), i), k), tb), ti), tc), tk') O F N H hl ha hb hc za h0 hz hret

end
end Mine
end S7_
section S8_
namespace Mine

section
variable {w : World} {A : Around} {h₀ : Heap} {L : Addr} {m : Str → Option Value} {hp : Heap} {gn : Array GenState} {dr : Drawn} {tk : Nat} {oS : OsState} {P : Pl} {X news led : Led} {st : St} {σ : Sg} {Φ : List Fact} {Q E : Value → Shared → Prop}

def ask_ok_S (k : Nat) (f l : Addr) (u : Tok) (Post : Addr → Led → Prop) : Prop := ∀ (O : Ok w A h₀ L 15) (F : Fr h₀ L hp m) (N : News h₀ L hp (X ++ news)) (H : Hs w P X st news Φ) (hn : Nat_ w P X news gn dr oS k f l Post) (K : NatK w P k f) (hP : ∀ r news', Post r news' → Sta w P news' ∧ ∃ d e, Two P news' r d e) (hret : ∀ r news' h' tk', Fr h₀ L h' m → News h₀ L h' (X ++ news') → Post r news' → Q (.ref r) ⟨h', gn, dr, tk', oS⟩), wpAny (model PR w) A (call (.ref 816) [.ref P.w, .int (k : Nat) u, .ref l]) Q E ⟨hp, gn, dr, tk, oS⟩
theorem ask_ok_r : ∀ r : (((((HT17 × Nat) × Addr) × Addr) × Tok) × (Addr → Led → Prop)), (c17 (@ask_ok_S) r.1.1.1.1.1) r.1.1.1.1.2 r.1.1.1.2 r.1.1.2 r.1.2 r.2 := by
  refine ep_all (ne := by walk_at "NE") ((?_ : ∀ w A h₀ L m hp gn dr tk oS P X news st Φ Q E k f l u Post, @ask_ok_S w A h₀ L m hp gn dr tk oS P X news st Φ Q E k f l u Post) _ _ _ _ _ _ _ _ _ _ _ _ _ _ _ _ _ _ _ _ _ _)
  intro w A h₀ L m hp gn dr tk oS P X news st Φ Q E k f l u Post O F N H hn K hP hret
  refine' callfE (d := 14) ["w", "number", "args"] ["m", "gave"] ["NT_STAY", "len"] [some (.ref P.w), some (.int (k : Nat) u), some (.ref l), none, none] O F N ?ho ?hcd ?hb ?hl ?hS ?hc ?hv ["w", "number", "args", "m", "gave"] ?hpm ?_
  walk_at "ENTERE"
  (clear r33; clear r11; clear s30 w_m; clear r124; clear r33; clear s1 e_meth; clear s9 Subscript_; clear r14; clear s4 m_natives; clear r0; ((with_reducible refine NatK.item' ‹_› ‹5› ‹_› ?_ ?hs); (case hs => with_unfolding_all exact rfl)); (with_reducible refine NatK.meth ‹_› ‹_› ‹_› ‹_› ‹5› ?_); ((with_reducible refine c_mth ‹_› (NatK.keep ‹_›) ?_ ?he ?hp); (case he => exact rfl); (case hp => exact rfl)); clear r126; clear r126; clear r126; clear r125; clear r128)
  refine hn _ _ _ _ _ _ _ _ (O'.le (by decide)) ‹_› ‹_› fun r n1 h1 tk1 F1 N1 hp1 => ?_
  obtain ⟨S1, d, e, T2⟩ := hP r n1 hp1
  (clear r124; clear r32; clear s9 t_and; clear r42; clear r1 Z24; ((with_reducible refine c_eqti ‹8› ‹_› ‹_› ?_)); clear r129; clear r132; clear r132; clear s3 re1; clear r134)
  exact hret _ _ _ _ kF kN hp1
theorem ask_ok {k f l u Post} (O : Ok w A h₀ L 15) (F : Fr h₀ L hp m) (N : News h₀ L hp (X ++ news)) (H : Hs w P X st news Φ) (hn : Nat_ w P X news gn dr oS k f l Post) (K : NatK w P k f) (hP : ∀ r news', Post r news' → Sta w P news' ∧ ∃ d e, Two P news' r d e)
    (hret : ∀ r news' h' tk', Fr h₀ L h' m → News h₀ L h' (X ++ news') → Post r news' → Q (.ref r) ⟨h', gn, dr, tk', oS⟩) :
    wpAny (model PR w) A (call (.ref 816) [.ref P.w, .int (k : Nat) u, .ref l]) Q E ⟨hp, gn, dr, tk, oS⟩ := ask_ok_r (((((((((((((((((((((w, A), h₀), L), m), hp), gn), dr), tk), oS), P), X), news), st), Φ), Q), E), k), f), l), u), Post) O F N H hn K hP hret

def number_ok_S (k : Nat) (f l : Addr) (u : Tok) (v : Int) (st' : Mine.St) (Φ' : List Fact) : Prop := ∀ (O : Ok w A h₀ L 17) (F : Fr h₀ L hp m) (N : News h₀ L hp (X ++ news)) (H : Hs w P X st news Φ) (hn : Nat_ w P X news gn dr oS k f l (fun r news' => ∃ t t', Hs w P X st' news' (Fact.tu r [.int 1 t, .int v t'] :: Φ'))) (K : NatK w P k f) (hret : ∀ t' news' h' tk', Fr h₀ L h' m → News h₀ L h' (X ++ news') → Hs w P X st' news' Φ' → Q (.int v t') ⟨h', gn, dr, tk', oS⟩), wpAny (model PR w) A (call (.ref 823) [.ref P.w, .int (k : Nat) u, .ref l]) Q E ⟨hp, gn, dr, tk, oS⟩
theorem number_ok_r : ∀ r : (((((((HT17 × Nat) × Addr) × Addr) × Tok) × Int) × Mine.St) × (List Fact)), (c17 (@number_ok_S) r.1.1.1.1.1.1.1) r.1.1.1.1.1.1.2 r.1.1.1.1.1.2 r.1.1.1.1.2 r.1.1.1.2 r.1.1.2 r.1.2 r.2 := by
  refine ep_all (ne := by walk_at "NE") ((?_ : ∀ w A h₀ L m hp gn dr tk oS P X news st Φ Q E k f l u v st' Φ', @number_ok_S w A h₀ L m hp gn dr tk oS P X news st Φ Q E k f l u v st' Φ') _ _ _ _ _ _ _ _ _ _ _ _ _ _ _ _ _ _ _ _ _ _ _ _)
  intro w A h₀ L m hp gn dr tk oS P X news st Φ Q E k f l u v st' Φ' O F N H hn K hret
  refine' callfE (d := 16) ["w", "number", "args"] ["gave"] ["_law_ask", "V_I4"] [some (.ref P.w), some (.int (k : Nat) u), some (.ref l), none] O F N ?ho ?hcd ?hb ?hl ?hS ?hc ?hv ["w", "number", "args", "gave"] ?hpm ?_
  walk_at "ENTERE"
  (clear r33; clear r7 Z57 Z302)
  refine ask_ok (O'.le (by decide)) ‹_› ‹_› H hn K (fun r n1 hp => ?_) fun r n1 h1 tk1 F1 N1 hp => ?_
  · obtain ⟨t, t', hp⟩ := hp
    exact ⟨hp.sta, _, _, two_tu hp (.head _) (.int _ _) (.int _ _)⟩
  obtain ⟨t, t', H1⟩ := hp
  clear H
  (clear r124; clear r32; clear r43; clear r11; clear s26 tu_0; clear r1 Z21; clear s9 ne_int; clear r129; clear r132; clear r31; clear r11; clear r95; clear r134)
  exact hret _ _ _ _ kF kN (H1.sub fun f hf => .tail _ hf)
theorem number_ok {k f l u} {v : Int} {st' : St} {Φ' : List Fact} (O : Ok w A h₀ L 17) (F : Fr h₀ L hp m) (N : News h₀ L hp (X ++ news)) (H : Hs w P X st news Φ) (hn : Nat_ w P X news gn dr oS k f l (fun r news' => ∃ t t', Hs w P X st' news' (Fact.tu r [.int 1 t, .int v t'] :: Φ'))) (K : NatK w P k f)
    (hret : ∀ t' news' h' tk', Fr h₀ L h' m → News h₀ L h' (X ++ news') → Hs w P X st' news' Φ' → Q (.int v t') ⟨h', gn, dr, tk', oS⟩) :
    wpAny (model PR w) A (call (.ref 823) [.ref P.w, .int (k : Nat) u, .ref l]) Q E ⟨hp, gn, dr, tk, oS⟩ := number_ok_r (((((((((((((((((((((((w, A), h₀), L), m), hp), gn), dr), tk), oS), P), X), news), st), Φ), Q), E), k), f), l), u), v), st'), Φ') O F N H hn K hret

def text_ok_S (k : Nat) (f l : Addr) (u : Tok) (Post : Addr → Led → Prop) : Prop := ∀ (O : Ok w A h₀ L 17) (F : Fr h₀ L hp m) (N : News h₀ L hp (X ++ news)) (H : Hs w P X st news Φ) (hn : Nat_ w P X news gn dr oS k f l Post) (K : NatK w P k f) (hT : ∀ r news', Post r news' → ∃ st' n x Φ', Hs w P X st' news' Φ' ∧ Fact.tv r n (some x) ∈ Φ') (hret : ∀ r news' h' tk', Fr h₀ L h' m → News h₀ L h' (X ++ news') → Post r news' → Q (.ref r) ⟨h', gn, dr, tk', oS⟩), wpAny (model PR w) A (call (.ref 830) [.ref P.w, .int (k : Nat) u, .ref l]) Q E ⟨hp, gn, dr, tk, oS⟩
theorem text_ok_r : ∀ r : (((((HT17 × Nat) × Addr) × Addr) × Tok) × (Addr → Led → Prop)), (c17 (@text_ok_S) r.1.1.1.1.1) r.1.1.1.1.2 r.1.1.1.2 r.1.1.2 r.1.2 r.2 := by
  refine ep_all (ne := by walk_at "NE") ((?_ : ∀ w A h₀ L m hp gn dr tk oS P X news st Φ Q E k f l u Post, @text_ok_S w A h₀ L m hp gn dr tk oS P X news st Φ Q E k f l u Post) _ _ _ _ _ _ _ _ _ _ _ _ _ _ _ _ _ _ _ _ _ _)
  intro w A h₀ L m hp gn dr tk oS P X news st Φ Q E k f l u Post O F N H hn K hT hret
  refine' callfE (d := 16) ["w", "number", "args"] ["gave"] ["_law_ask", "V_REF"] [some (.ref P.w), some (.int (k : Nat) u), some (.ref l), none] O F N ?ho ?hcd ?hb ?hl ?hS ?hc ?hv ["w", "number", "args", "gave"] ?hpm ?_
  walk_at "ENTERE"
  (clear r33; clear r7 Z57 Z302)
  refine ask_ok (O'.le (by decide)) ‹_› ‹_› H hn K (fun r n1 hp => ?_) fun r n1 h1 tk1 F1 N1 hp => ?_
  · obtain ⟨st', n, x, Φ', H', h'⟩ := hT r n1 hp
    exact ⟨H'.sta, _, _, two_tv H' h'⟩
  obtain ⟨st', n, x, Φ', H1, hx⟩ := hT r n1 hp
  have hne : ¬ ad n = 0 := fun e => by have := H1.tv_pos hx; have := ad_eq_zero e; lia
  clear H
  (clear r124; clear r32; clear r48; clear r43; clear r11; ((with_reducible refine tv_0 ‹_› ‹_› ‹0› ?_ ?hs); (case hs => with_unfolding_all exact rfl); intro t'); clear r1 Z20; clear s9 ne_int; clear r129; clear r132; clear r48; clear r43; clear r11; clear r87; clear r3; clear s9 eq_int; clear r129; clear r132; clear s9 isTrue_or_nil; clear r132; clear s3 re1; clear r134)
  exact hret _ _ _ _ kF kN hp
theorem text_ok {k f l u Post} (O : Ok w A h₀ L 17) (F : Fr h₀ L hp m) (N : News h₀ L hp (X ++ news)) (H : Hs w P X st news Φ) (hn : Nat_ w P X news gn dr oS k f l Post) (K : NatK w P k f) (hT : ∀ r news', Post r news' → ∃ st' n x Φ', Hs w P X st' news' Φ' ∧ Fact.tv r n (some x) ∈ Φ')
    (hret : ∀ r news' h' tk', Fr h₀ L h' m → News h₀ L h' (X ++ news') → Post r news' → Q (.ref r) ⟨h', gn, dr, tk', oS⟩) :
    wpAny (model PR w) A (call (.ref 830) [.ref P.w, .int (k : Nat) u, .ref l]) Q E ⟨hp, gn, dr, tk, oS⟩ := text_ok_r (((((((((((((((((((((w, A), h₀), L), m), hp), gn), dr), tk), oS), P), X), news), st), Φ), Q), E), k), f), l), u), Post) O F N H hn K hT hret

end
end Mine
end S8_
section S9_
namespace Mine

section
variable {w : World} {A : Around} {h₀ : Heap} {L : Addr} {m : Str → Option Value} {hp : Heap} {gn : Array GenState} {dr : Drawn} {tk : Nat} {oS : OsState} {P : Pl} {X news led : Led} {st : St} {σ : Sg} {Φ : List Fact} {Q E : Value → Shared → Prop}

theorem CatOk.mono {xa xb : Str} {na nb n : Nat} {Φ' ex : List Fact} (h : CatOk xa xb na nb Φ ex n) (hs : ∀ f ∈ Φ', f ∈ Φ) : CatOk xa xb na nb Φ' ex n := by
  rcases h with h | h | h | ⟨a, b, c, d⟩
  · exact .inl h
  · exact .inr (.inl h)
  · exact .inr (.inr (.inl h))
  · exact .inr (.inr (.inr ⟨a, b, c, fun a' n' os' h => d a' n' os' (hs _ h)⟩))
theorem PartOk.mono {x : Str} {na n : Nat} {k : Int} {Φ' ex : List Fact} (h : PartOk x na k Φ ex n) (hs : ∀ f ∈ Φ', f ∈ Φ) : PartOk x na k Φ' ex n := by
  rcases h with h | h | ⟨a, b, c, d⟩
  · exact .inl h
  · exact .inr (.inl h)
  · exact .inr (.inr ⟨a, b, c, fun a' n' os' h => d a' n' os' (hs _ h)⟩)
theorem sub_mid {f : Fact} {ex Φ' : List Fact} (hs : ∀ f ∈ Φ', f ∈ Φ) : ∀ g ∈ f :: (ex ++ Φ'), g ∈ f :: (ex ++ Φ) := fun g hg => by
  rcases List.mem_cons.mp hg with rfl | hg
  · exact .head _
  · rcases List.mem_append.mp hg with hg | hg
    · exact .tail _ (List.mem_append_left _ hg)
    · exact .tail _ (List.mem_append_right _ (hs _ hg))

theorem num_length {l a na x} {u : Tok} (O : Ok w A h₀ L 17) (F : Fr h₀ L hp m) (N : News h₀ L hp (X ++ news)) (H : Hs w P X st news Φ) (hl : Fact.ls l [.ref a] ∈ Φ) (ha : Fact.tv a na (some x) ∈ Φ) (za : x.length ≤ 1000)
    (hret : ∀ t' news' h' tk', Fr h₀ L h' m → News h₀ L h' (X ++ news') → Hs w P X st news' Φ → Q (.int ((x.length : Nat)) t') ⟨h', gn, dr, tk', oS⟩) :
    wpAny (model PR w) A (call (.ref 823) [.ref P.w, .int 2 u, .ref l]) Q E ⟨hp, gn, dr, tk, oS⟩ :=
  number_ok (k := 2) (st' := st) (Φ' := Φ) (v := (x.length : Nat)) O F N H (fun _ _ _ _ _ _ _ _ O F N hr => n_length O F N H hl ha za fun r t t' n1 h1 tk1 F1 N1 H1 => hr r n1 h1 tk1 F1 N1 ⟨t, t', H1⟩) nk2 hret

theorem num_hash {l a na x} {u : Tok} (O : Ok w A h₀ L 17) (F : Fr h₀ L hp m) (N : News h₀ L hp (X ++ news)) (H : Hs w P X st news Φ) (hl : Fact.ls l [.ref a] ∈ Φ) (ha : Fact.tv a na (some x) ∈ Φ) (za : x.length ≤ 1000)
    (hret : ∀ t' news' h' tk', Fr h₀ L h' m → News h₀ L h' (X ++ news') → Hs w P X st news' Φ → Q (.int (hashS x) t') ⟨h', gn, dr, tk', oS⟩) :
    wpAny (model PR w) A (call (.ref 823) [.ref P.w, .int 6 u, .ref l]) Q E ⟨hp, gn, dr, tk, oS⟩ :=
  number_ok (k := 6) (st' := st) (Φ' := Φ) (v := hashS x) O F N H (fun _ _ _ _ _ _ _ _ O F N hr => n_hash O F N H hl ha za fun r t t' n1 h1 tk1 F1 N1 H1 => hr r n1 h1 tk1 F1 N1 ⟨t, t', H1⟩) nk6 hret

theorem num_chars {l a b na x tb ti} {i : Int} {u : Tok} (O : Ok w A h₀ L 17) (F : Fr h₀ L hp m) (N : News h₀ L hp (X ++ news)) (H : Hs w P X st news Φ) (hl : Fact.ls l [.ref a, .ref b] ∈ Φ) (ha : Fact.tv a na (some x) ∈ Φ) (hb : Fact.tu b [.int 1 tb, .int i ti] ∈ Φ) (za : x.length ≤ 1000) (h0 : 0 ≤ i) (h1 : i < x.length)
    (hret : ∀ t' news' h' tk', Fr h₀ L h' m → News h₀ L h' (X ++ news') → Hs w P X st news' Φ → Q (.int ((x.cps.toList.getD i.toNat 0 : Nat)) t') ⟨h', gn, dr, tk', oS⟩) :
    wpAny (model PR w) A (call (.ref 823) [.ref P.w, .int 3 u, .ref l]) Q E ⟨hp, gn, dr, tk, oS⟩ :=
  number_ok (k := 3) (st' := st) (Φ' := Φ) (v := (x.cps.toList.getD i.toNat 0 : Nat)) O F N H (fun _ _ _ _ _ _ _ _ O F N hr => n_chars O F N H hl ha hb za h0 h1 fun r t t' n1 h1 tk1 F1 N1 H1 => hr r n1 h1 tk1 F1 N1 ⟨t, t', H1⟩) nk3 hret

theorem num_same {l a b na nb osa osb} {u : Tok} (O : Ok w A h₀ L 17) (F : Fr h₀ L hp m) (N : News h₀ L hp (X ++ news)) (H : Hs w P X st news Φ) (hl : Fact.ls l [.ref a, .ref b] ∈ Φ) (ha : Fact.tv a na osa ∈ Φ) (hb : Fact.tv b nb osb ∈ Φ)
    (hret : ∀ t' news' h' tk', Fr h₀ L h' m → News h₀ L h' (X ++ news') → Hs w P X st news' Φ → Q (.int (b2i (decide (osa = osb))) t') ⟨h', gn, dr, tk', oS⟩) :
    wpAny (model PR w) A (call (.ref 823) [.ref P.w, .int 4 u, .ref l]) Q E ⟨hp, gn, dr, tk, oS⟩ :=
  number_ok (k := 4) (st' := st) (Φ' := Φ) (v := b2i (decide (osa = osb))) O F N H (fun _ _ _ _ _ _ _ _ O F N hr => n_same O F N H hl ha hb fun r t t' n1 h1 tk1 F1 N1 H1 => hr r n1 h1 tk1 F1 N1 ⟨t, t', H1⟩) nk4 hret

theorem num_equals {l a b na nb x osb} {u : Tok} (O : Ok w A h₀ L 17) (F : Fr h₀ L hp m) (N : News h₀ L hp (X ++ news)) (H : Hs w P X st news Φ) (hl : Fact.ls l [.ref a, .ref b] ∈ Φ) (ha : Fact.tv a na (some x) ∈ Φ) (hb : Fact.tv b nb osb ∈ Φ)
    (hret : ∀ t' news' h' tk', Fr h₀ L h' m → News h₀ L h' (X ++ news') → Hs w P X st news' Φ → Q (.int (b2i (decide (some x = osb))) t') ⟨h', gn, dr, tk', oS⟩) :
    wpAny (model PR w) A (call (.ref 823) [.ref P.w, .int 5 u, .ref l]) Q E ⟨hp, gn, dr, tk, oS⟩ :=
  number_ok (k := 5) (st' := st) (Φ' := Φ) (v := b2i (decide (some x = osb))) O F N H (fun _ _ _ _ _ _ _ _ O F N hr => n_equals O F N H hl ha hb fun r t t' n1 h1 tk1 F1 N1 H1 => hr r n1 h1 tk1 F1 N1 ⟨t, t', H1⟩) nk5 hret

theorem num_index {l a b na nb x y} {u : Tok} (O : Ok w A h₀ L 17) (F : Fr h₀ L hp m) (N : News h₀ L hp (X ++ news)) (H : Hs w P X st news Φ) (hl : Fact.ls l [.ref a, .ref b] ∈ Φ) (ha : Fact.tv a na (some x) ∈ Φ) (hb : Fact.tv b nb (some y) ∈ Φ)
    (hret : ∀ t' news' h' tk', Fr h₀ L h' m → News h₀ L h' (X ++ news') → Hs w P X st news' Φ → Q (.int (Txt.find x y) t') ⟨h', gn, dr, tk', oS⟩) :
    wpAny (model PR w) A (call (.ref 823) [.ref P.w, .int 8 u, .ref l]) Q E ⟨hp, gn, dr, tk, oS⟩ :=
  number_ok (k := 8) (st' := st) (Φ' := Φ) (v := Txt.find x y) O F N H (fun _ _ _ _ _ _ _ _ O F N hr => n_index O F N H hl ha hb fun r t t' n1 h1 tk1 F1 N1 H1 => hr r n1 h1 tk1 F1 N1 ⟨t, t', H1⟩) nk8 hret

theorem num_compare {l a b na nb x osb} {u : Tok} (O : Ok w A h₀ L 17) (F : Fr h₀ L hp m) (N : News h₀ L hp (X ++ news)) (H : Hs w P X st news Φ) (hl : Fact.ls l [.ref a, .ref b] ∈ Φ) (ha : Fact.tv a na (some x) ∈ Φ) (hb : Fact.tv b nb osb ∈ Φ)
    (hret : ∀ t' news' h' tk', Fr h₀ L h' m → News h₀ L h' (X ++ news') → Hs w P X st news' Φ → Q (.int (cmpO x osb) t') ⟨h', gn, dr, tk', oS⟩) :
    wpAny (model PR w) A (call (.ref 823) [.ref P.w, .int 9 u, .ref l]) Q E ⟨hp, gn, dr, tk, oS⟩ :=
  number_ok (k := 9) (st' := st) (Φ' := Φ) (v := cmpO x osb) O F N H (fun _ _ _ _ _ _ _ _ O F N hr => n_compare O F N H hl ha hb fun r t t' n1 h1 tk1 F1 N1 H1 => hr r n1 h1 tk1 F1 N1 ⟨t, t', H1⟩) nk9 hret

theorem txt_concat {l a b na nb osa osb} {u : Tok} (O : Ok w A h₀ L 17) (F : Fr h₀ L hp m) (N : News h₀ L hp (X ++ news)) (H : Hs w P X st news Φ) (hl : Fact.ls l [.ref a, .ref b] ∈ Φ) (ha : Fact.tv a na osa ∈ Φ) (hb : Fact.tv b nb osb ∈ Φ) (hz : st.b ≤ 1000000) (za : (gd osa).length ≤ 1000) (zb : (gd osb).length ≤ 1000)
    (hret : ∀ r n ex news' h' tk', Fr h₀ L h' m → News h₀ L h' (X ++ news') → CatOk (gd osa) (gd osb) na nb Φ ex n → Hs w P X ⟨st.T, st.th, st.b + 1, st.fc⟩ news' (.tv r n (some (gd osa ++ gd osb)) :: (ex ++ Φ)) → Q (.ref r) ⟨h', gn, dr, tk', oS⟩) :
    wpAny (model PR w) A (call (.ref 830) [.ref P.w, .int 1 u, .ref l]) Q E ⟨hp, gn, dr, tk, oS⟩ :=
  text_ok (k := 1) (Post := fun r news' => ∃ n ex, CatOk (gd osa) (gd osb) na nb Φ ex n ∧ Hs w P X ⟨st.T, st.th, st.b + 1, st.fc⟩ news' (.tv r n (some (gd osa ++ gd osb)) :: (ex ++ Φ))) O F N H
    (fun _ _ _ _ _ _ _ _ O F N hr => n_concat O F N H hl ha hb hz za zb fun r n ex n1 h1 tk1 F1 N1 C H1 => hr r n1 h1 tk1 F1 N1 ⟨n, ex, C, H1⟩) nk1 (fun r n1 ⟨n, ex, C, H1⟩ => ⟨_, n, _, _, H1, .head _⟩) fun r n1 h1 tk1 F1 N1 ⟨n, ex, C, H1⟩ => hret r n ex n1 h1 tk1 F1 N1 C H1

theorem txt_part {l a b c na x tb ti tc tk0} {i k : Int} {u : Tok} (O : Ok w A h₀ L 17) (F : Fr h₀ L hp m) (N : News h₀ L hp (X ++ news)) (H : Hs w P X st news Φ) (hl : Fact.ls l [.ref a, .ref b, .ref c] ∈ Φ) (ha : Fact.tv a na (some x) ∈ Φ) (hb : Fact.tu b [.int 1 tb, .int i ti] ∈ Φ) (hc : Fact.tu c [.int 1 tc, .int k tk0] ∈ Φ) (za : x.length ≤ 1000) (hz : st.b ≤ 1000000) (h0 : 0 ≤ i) (h1 : 0 ≤ k) (h2 : i + k ≤ x.length)
    (hret : ∀ r n ex news' h' tk', Fr h₀ L h' m → News h₀ L h' (X ++ news') → PartOk x na k Φ ex n → Hs w P X ⟨st.T, st.th, st.b + 1, st.fc⟩ news' (.tv r n (some (cut x i.toNat k.toNat)) :: (ex ++ Φ)) → Q (.ref r) ⟨h', gn, dr, tk', oS⟩) :
    wpAny (model PR w) A (call (.ref 830) [.ref P.w, .int 7 u, .ref l]) Q E ⟨hp, gn, dr, tk, oS⟩ :=
  text_ok (k := 7) (Post := fun r news' => ∃ n ex, PartOk x na k Φ ex n ∧ Hs w P X ⟨st.T, st.th, st.b + 1, st.fc⟩ news' (.tv r n (some (cut x i.toNat k.toNat)) :: (ex ++ Φ))) O F N H
    (fun _ _ _ _ _ _ _ _ O F N hr => n_part O F N H hl ha hb hc za hz h0 h1 h2 fun r n ex n1 h1 tk1 F1 N1 C H1 => hr r n1 h1 tk1 F1 N1 ⟨n, ex, C, H1⟩) nk7 (fun r n1 ⟨n, ex, C, H1⟩ => ⟨_, n, _, _, H1, .head _⟩) fun r n1 h1 tk1 F1 N1 ⟨n, ex, C, H1⟩ => hret r n ex n1 h1 tk1 F1 N1 C H1

theorem law_long {a na x} (O : Ok w A h₀ L 18) (F : Fr h₀ L hp m) (N : News h₀ L hp (X ++ news)) (H : Hs w P X st news Φ) (ha : Fact.tv a na (some x) ∈ Φ) (za : x.length ≤ 1000)
    (hret : ∀ t' news' h' tk', Fr h₀ L h' m → News h₀ L h' (X ++ news') → Hs w P X st news' (Φ) → Q (.int ((x.length : Nat)) t') ⟨h', gn, dr, tk', oS⟩) :
    wpAny (model PR w) A (call (.ref 837) [.ref P.w, .ref a]) Q E ⟨hp, gn, dr, tk, oS⟩ := by
  refine' callf (d := 17) ["w", "x"] [] ["_law_number", "N_STR_LENGTH"] [some (.ref P.w), some (.ref a)] O F N ?ho ?hcd ?hb ?hl ?hS ?hc ?hv ["w", "x"] ?hpm ?_
  walk_at "ENTER"
  (clear r31; clear r8; clear r1 Z58; clear r109 Z303; clear r126; clear r127; clear r1 Z41; clear r127; clear r28; clear s15 newList_H; clear r125; clear r128; clear s31 num_length; clear r134)
  exact hret _ _ _ _ kF kN (H'.sub fun f hf => by repeat (first | exact hf | refine .tail _ ?_))


def law_letter_S (a : Addr) (na : Nat) (x : Str) (ti : Tok) (i : Int) : Prop := ∀ (O : Ok w A h₀ L 18) (F : Fr h₀ L hp m) (N : News h₀ L hp (X ++ news)) (H : Hs w P X st news Φ) (ha : Fact.tv a na (some x) ∈ Φ) (za : x.length ≤ 1000) (h0 : 0 ≤ i) (h1 : i < x.length) (hret : ∀ t' news' h' tk', Fr h₀ L h' m → News h₀ L h' (X ++ news') → Hs w P X st news' (Φ) → Q (.int ((x.cps.toList.getD i.toNat 0 : Nat)) t') ⟨h', gn, dr, tk', oS⟩), wpAny (model PR w) A (call (.ref 844) [.ref P.w, .ref a, .int i ti]) Q E ⟨hp, gn, dr, tk, oS⟩
theorem law_letter_r : ∀ r : (((((HT17 × Addr) × Nat) × Str) × Tok) × Int), (c17 (@law_letter_S) r.1.1.1.1.1) r.1.1.1.1.2 r.1.1.1.2 r.1.1.2 r.1.2 r.2 := by
  refine ep_all (ne := by walk_at "NE") ((?_ : ∀ w A h₀ L m hp gn dr tk oS P X news st Φ Q E a na x ti i, @law_letter_S w A h₀ L m hp gn dr tk oS P X news st Φ Q E a na x ti i) _ _ _ _ _ _ _ _ _ _ _ _ _ _ _ _ _ _ _ _ _ _)
  intro w A h₀ L m hp gn dr tk oS P X news st Φ Q E a na x ti i O F N H ha za h0 h1 hret
  refine' callfE (d := 17) ["w", "x", "i"] [] ["_law_number", "N_STR_CHARS", "V_I4"] [some (.ref P.w), some (.ref a), some (.int i ti)] O F N ?ho ?hcd ?hb ?hl ?hS ?hc ?hv ["w", "x", "i"] ?hpm ?_
  walk_at "ENTERE"
  (clear r31; clear r8; clear r1 Z58; clear r109 Z303; clear r126; clear r127; clear r1 Z43; clear r127; clear s9 List_; clear r126; clear r127; clear s9 Tuple_; clear r127; clear r1 Z21; clear r126; clear r125; clear r122; clear r125; clear s15 newList_H; clear r125; clear r128; ((with_reducible refine num_chars ‹8› ‹_› ‹_› ‹_› ‹0› ‹0› ‹0› ?za ?h0 ?h1 ?_); (case za => (first | assumption | lia)); (case h0 => (first | assumption | lia)); (case h1 => (first | assumption | lia)); intro t' n' h' tk' F' N' H'); clear r134)
  exact hret _ _ _ _ kF kN (H'.sub fun f hf => by repeat (first | exact hf | refine .tail _ ?_))
theorem law_letter {a na x ti} {i : Int} (O : Ok w A h₀ L 18) (F : Fr h₀ L hp m) (N : News h₀ L hp (X ++ news)) (H : Hs w P X st news Φ) (ha : Fact.tv a na (some x) ∈ Φ) (za : x.length ≤ 1000) (h0 : 0 ≤ i) (h1 : i < x.length)
    (hret : ∀ t' news' h' tk', Fr h₀ L h' m → News h₀ L h' (X ++ news') → Hs w P X st news' (Φ) → Q (.int ((x.cps.toList.getD i.toNat 0 : Nat)) t') ⟨h', gn, dr, tk', oS⟩) :
    wpAny (model PR w) A (call (.ref 844) [.ref P.w, .ref a, .int i ti]) Q E ⟨hp, gn, dr, tk, oS⟩ := law_letter_r (((((((((((((((((((((w, A), h₀), L), m), hp), gn), dr), tk), oS), P), X), news), st), Φ), Q), E), a), na), x), ti), i) O F N H ha za h0 h1 hret

theorem law_order {a b na nb x osb} (O : Ok w A h₀ L 18) (F : Fr h₀ L hp m) (N : News h₀ L hp (X ++ news)) (H : Hs w P X st news Φ) (ha : Fact.tv a na (some x) ∈ Φ) (hb : Fact.tv b nb osb ∈ Φ)
    (hret : ∀ t' news' h' tk', Fr h₀ L h' m → News h₀ L h' (X ++ news') → Hs w P X st news' (Φ) → Q (.int (cmpO x osb) t') ⟨h', gn, dr, tk', oS⟩) :
    wpAny (model PR w) A (call (.ref 851) [.ref P.w, .ref a, .ref b]) Q E ⟨hp, gn, dr, tk, oS⟩ := by
  refine' callf (d := 17) ["w", "x", "y"] [] ["_law_number", "N_STR_COMPARE"] [some (.ref P.w), some (.ref a), some (.ref b)] O F N ?ho ?hcd ?hb ?hl ?hS ?hc ?hv ["w", "x", "y"] ?hpm ?_
  walk_at "ENTER"
  (clear r31; clear r8; clear r1 Z58; clear r109 Z303; clear r126; clear r127; clear r1 Z55; clear r127; clear r28; clear s15 newList_H; clear r125; clear r128; clear s32 num_compare; clear r134)
  exact hret _ _ _ _ kF kN (H'.sub fun f hf => by repeat (first | exact hf | refine .tail _ ?_))


theorem law_equal {a b na nb osa osb} (O : Ok w A h₀ L 18) (F : Fr h₀ L hp m) (N : News h₀ L hp (X ++ news)) (H : Hs w P X st news Φ) (ha : Fact.tv a na osa ∈ Φ) (hb : Fact.tv b nb osb ∈ Φ)
    (hret : ∀ t' news' h' tk', Fr h₀ L h' m → News h₀ L h' (X ++ news') → Hs w P X st news' (Φ) → Q (.int (b2i (decide (osa = osb))) t') ⟨h', gn, dr, tk', oS⟩) :
    wpAny (model PR w) A (call (.ref 858) [.ref P.w, .ref a, .ref b]) Q E ⟨hp, gn, dr, tk, oS⟩ := by
  refine' callf (d := 17) ["w", "x", "y"] [] ["_law_number", "N_STR_EQ"] [some (.ref P.w), some (.ref a), some (.ref b)] O F N ?ho ?hcd ?hb ?hl ?hS ?hc ?hv ["w", "x", "y"] ?hpm ?_
  walk_at "ENTER"
  (clear r31; clear r8; clear r1 Z58; clear r109 Z303; clear r126; clear r127; clear r1 Z45; clear r127; clear r28; clear s15 newList_H; clear r125; clear r128; clear s32 num_same; clear r134)
  exact hret _ _ _ _ kF kN (H'.sub fun f hf => by repeat (first | exact hf | refine .tail _ ?_))


theorem law_join {a b na nb osa osb} (O : Ok w A h₀ L 18) (F : Fr h₀ L hp m) (N : News h₀ L hp (X ++ news)) (H : Hs w P X st news Φ) (ha : Fact.tv a na osa ∈ Φ) (hb : Fact.tv b nb osb ∈ Φ) (hz : st.b ≤ 1000000) (za : (gd osa).length ≤ 1000) (zb : (gd osb).length ≤ 1000)
    (hret : ∀ r n ex news' h' tk', Fr h₀ L h' m → News h₀ L h' (X ++ news') → CatOk (gd osa) (gd osb) na nb Φ ex n → Hs w P X ⟨st.T, st.th, st.b + 1, st.fc⟩ news' (.tv r n (some (gd osa ++ gd osb)) :: (ex ++ Φ)) → Q (.ref r) ⟨h', gn, dr, tk', oS⟩) :
    wpAny (model PR w) A (call (.ref 865) [.ref P.w, .ref a, .ref b]) Q E ⟨hp, gn, dr, tk, oS⟩ := by
  refine' callf (d := 17) ["w", "x", "y"] [] ["_law_text", "N_CONCAT"] [some (.ref P.w), some (.ref a), some (.ref b)] O F N ?ho ?hcd ?hb ?hl ?hS ?hc ?hv ["w", "x", "y"] ?hpm ?_
  walk_at "ENTER"
  (clear r31; clear r8; clear r1 Z59; clear r109 Z304; clear r126; clear r127; clear r1 Z39; clear r127; clear r28; clear s15 newList_H; clear r125; clear r128; ((with_reducible refine txt_concat ‹8› ‹_› ‹_› ‹_› ‹0› ‹0› ‹0› ?hz ?za ?zb ?_); (case hz => (first | assumption | lia)); (case za => (first | assumption | lia)); (case zb => (first | assumption | lia)); intro r' n' ex' n2' h' tk' F' N' C' H'); clear r134)
  exact hret _ _ _ _ _ _ kF kN (C'.mono (by intro f hf; repeat (first | exact hf | refine List.mem_cons_of_mem _ ?_))) (H'.sub (sub_mid (by intro f hf; repeat (first | exact hf | refine List.mem_cons_of_mem _ ?_))))


def law_part_S (a : Addr) (na : Nat) (x : Str) (ti tk0 : Tok) (i k : Int) : Prop := ∀ (O : Ok w A h₀ L 18) (F : Fr h₀ L hp m) (N : News h₀ L hp (X ++ news)) (H : Hs w P X st news Φ) (ha : Fact.tv a na (some x) ∈ Φ) (za : x.length ≤ 1000) (hz : st.b ≤ 1000000) (h0 : 0 ≤ i) (h1 : 0 ≤ k) (h2 : i + k ≤ x.length) (hret : ∀ r n ex news' h' tk', Fr h₀ L h' m → News h₀ L h' (X ++ news') → PartOk x na k Φ ex n → Hs w P X ⟨st.T, st.th, st.b + 1, st.fc⟩ news' (.tv r n (some (cut x i.toNat k.toNat)) :: (ex ++ Φ)) → Q (.ref r) ⟨h', gn, dr, tk', oS⟩), wpAny (model PR w) A (call (.ref 872) [.ref P.w, .ref a, .int i ti, .int k tk0]) Q E ⟨hp, gn, dr, tk, oS⟩
theorem law_part_r : ∀ r : (((((((HT17 × Addr) × Nat) × Str) × Tok) × Tok) × Int) × Int), (c17 (@law_part_S) r.1.1.1.1.1.1.1) r.1.1.1.1.1.1.2 r.1.1.1.1.1.2 r.1.1.1.1.2 r.1.1.1.2 r.1.1.2 r.1.2 r.2 := by
  refine ep_all (ne := by walk_at "NE") ((?_ : ∀ w A h₀ L m hp gn dr tk oS P X news st Φ Q E a na x ti tk0 i k, @law_part_S w A h₀ L m hp gn dr tk oS P X news st Φ Q E a na x ti tk0 i k) _ _ _ _ _ _ _ _ _ _ _ _ _ _ _ _ _ _ _ _ _ _ _ _)
  intro w A h₀ L m hp gn dr tk oS P X news st Φ Q E a na x ti tk0 i k O F N H ha za hz h0 h1 h2 hret
  refine' callfE (d := 17) ["w", "x", "i", "n"] [] ["_law_text", "N_SUBSTRING", "V_I4"] [some (.ref P.w), some (.ref a), some (.int i ti), some (.int k tk0)] O F N ?ho ?hcd ?hb ?hl ?hS ?hc ?hv ["w", "x", "i", "n"] ?hpm ?_
  walk_at "ENTERE"
  (clear r31; clear r8; clear r1 Z59; clear r109 Z304; clear r126; clear r127; clear r1 Z51; clear r127; clear s9 List_; clear r126; clear r127; clear s9 Tuple_; clear r127; clear r1 Z21; clear r126; clear r125; clear r122; clear r127; clear s9 Tuple_; clear r127; clear r1 Z21; clear r126; clear r125; clear r122; clear r125; clear s15 newList_H; clear r125; clear r128; ((with_reducible refine txt_part ‹8› ‹_› ‹_› ‹_› ‹0› ‹0› ‹0› ‹0› ?za ?hz ?h0 ?h1 ?h2 ?_); (case za => (first | assumption | lia)); (case hz => (first | assumption | lia)); (case h0 => (first | assumption | lia)); (case h1 => (first | assumption | lia)); (case h2 => (first | assumption | lia)); intro r' n' ex' n2' h' tk' F' N' C' H'); clear r134)
  exact hret _ _ _ _ _ _ kF kN (C'.mono (by intro f hf; repeat (first | exact hf | refine List.mem_cons_of_mem _ ?_))) (H'.sub (sub_mid (by intro f hf; repeat (first | exact hf | refine List.mem_cons_of_mem _ ?_))))
theorem law_part {a na x ti tk0} {i k : Int} (O : Ok w A h₀ L 18) (F : Fr h₀ L hp m) (N : News h₀ L hp (X ++ news)) (H : Hs w P X st news Φ) (ha : Fact.tv a na (some x) ∈ Φ) (za : x.length ≤ 1000) (hz : st.b ≤ 1000000) (h0 : 0 ≤ i) (h1 : 0 ≤ k) (h2 : i + k ≤ x.length)
    (hret : ∀ r n ex news' h' tk', Fr h₀ L h' m → News h₀ L h' (X ++ news') → PartOk x na k Φ ex n → Hs w P X ⟨st.T, st.th, st.b + 1, st.fc⟩ news' (.tv r n (some (cut x i.toNat k.toNat)) :: (ex ++ Φ)) → Q (.ref r) ⟨h', gn, dr, tk', oS⟩) :
    wpAny (model PR w) A (call (.ref 872) [.ref P.w, .ref a, .int i ti, .int k tk0]) Q E ⟨hp, gn, dr, tk, oS⟩ := law_part_r (((((((((((((((((((((((w, A), h₀), L), m), hp), gn), dr), tk), oS), P), X), news), st), Φ), Q), E), a), na), x), ti), tk0), i), k) O F N H ha za hz h0 h1 h2 hret

end
end Mine
end S9_
section S10_
namespace Mine

section
variable {w : World} {A : Around} {h₀ : Heap} {L : Addr} {m : Str → Option Value} {hp : Heap} {gn : Array GenState} {dr : Drawn} {tk : Nat} {oS : OsState} {P : Pl} {X news led : Led} {st : St} {σ : Sg} {Φ : List Fact} {Q E : Value → Shared → Prop}

theorem cmpS_self (x : List Nat) : cmpS x x = 0 := by unfold cmpS; rw [if_neg (cmpL_irrefl x), if_neg (cmpL_irrefl x)]

def sgn (n : Int) : Int := if n < 0 then -1 else if 0 < n then 1 else 0

def law_one_S (a b : Addr) (na nb : Nat) (x : Str) : Prop := ∀ (O : Ok w A h₀ L 20) (F : Fr h₀ L hp m) (N : News h₀ L hp (X ++ news)) (H : Hs w P X st news Φ) (ha : Fact.tv a na (some x) ∈ Φ) (hb : Fact.tv b nb (some x) ∈ Φ) (za : x.length ≤ 1000) (hret : ∀  news' h' tk', Fr h₀ L h' m → News h₀ L h' (X ++ news') → Hs w P X st news' (Φ) → Q (.bool true) ⟨h', gn, dr, tk', oS⟩), wpAny (model PR w) A (call (.ref 879) [.ref P.w, .ref a, .ref b]) Q E ⟨hp, gn, dr, tk, oS⟩
theorem law_one_r : ∀ r : (((((HT17 × Addr) × Addr) × Nat) × Nat) × Str), (c17 (@law_one_S) r.1.1.1.1.1) r.1.1.1.1.2 r.1.1.1.2 r.1.1.2 r.1.2 r.2 := by
  refine ep_all (ne := by walk_at "NE") ((?_ : ∀ w A h₀ L m hp gn dr tk oS P X news st Φ Q E a b na nb x, @law_one_S w A h₀ L m hp gn dr tk oS P X news st Φ Q E a b na nb x) _ _ _ _ _ _ _ _ _ _ _ _ _ _ _ _ _ _ _ _ _ _)
  intro w A h₀ L m hp gn dr tk oS P X news st Φ Q E a b na nb x O F N H ha hb za hret
  refine' callfE (d := 19) ["w", "x", "y"] [] ["_law_equal", "_law_number", "N_STR_EQUALS", "_law_order", "_law_long", "N_STR_HASH"] [some (.ref P.w), some (.ref a), some (.ref b)] O F N ?ho ?hcd ?hb ?hl ?hS ?hc ?hv ["w", "x", "y"] ?hpm ?_
  walk_at "ENTERE"
  have e1 : b2i (decide (some x = some x)) = 1 := by simp [b2i]
  have e2 : cmpO x (some x) = 0 := cmpS_self _
  (clear r32; clear r48; clear r43; clear r7 Z60 Z305; clear s33 law_equal; clear r3; clear s9 ne_int; clear r129; clear r132; clear r48; clear r43; clear r8; clear r1 Z58; clear r109 Z303; clear r126; clear r127; clear r1 Z47; clear r127; clear r28; clear s15 newList_H; clear r125; clear r128; clear s32 num_equals; clear r3; clear s9 ne_int; clear r129; clear r132; clear s9 isTrue_or_nil; clear r132; clear r32; clear r48; clear r43; clear r7 Z61 Z306; clear s33 law_order; clear r3; clear s9 ne_int; clear r129; clear r132; clear r48; clear r43; clear r7 Z61 Z306; clear s33 law_order; clear r3; clear s9 ne_int; clear r129; clear r132; clear s9 isTrue_or_nil; clear r132; clear r31; clear s9 e_and; clear r21; clear r7 Z62 Z307; clear s34 law_long; clear r7 Z62 Z307; clear s34 law_long; clear s9 eq_int; clear r129; clear r133; clear s9 BoolOp_one; clear r21; clear r8; clear r1 Z58; clear r109 Z303; clear r126; clear r127; clear r1 Z49; clear r127; clear r28; clear s15 newList_H; clear r125; clear r128; clear s31 num_hash; clear r8; clear r1 Z58; clear r109 Z303; clear r126; clear r127; clear r1 Z49; clear r127; clear r28; clear s15 newList_H; clear r125; clear r128; clear s31 num_hash; clear s9 eq_int; clear r134)
  refine (?_ : ∀ v, v = true → Q (.bool v) _) _ ?_
  · rintro _ rfl; exact hret _ _ _ kF kN (H'.sub (by intro f hf; repeat (first | exact hf | refine List.mem_cons_of_mem _ ?_)))
  · simp
theorem law_one {a b na nb x} (O : Ok w A h₀ L 20) (F : Fr h₀ L hp m) (N : News h₀ L hp (X ++ news)) (H : Hs w P X st news Φ) (ha : Fact.tv a na (some x) ∈ Φ) (hb : Fact.tv b nb (some x) ∈ Φ) (za : x.length ≤ 1000)
    (hret : ∀  news' h' tk', Fr h₀ L h' m → News h₀ L h' (X ++ news') → Hs w P X st news' (Φ) → Q (.bool true) ⟨h', gn, dr, tk', oS⟩) :
    wpAny (model PR w) A (call (.ref 879) [.ref P.w, .ref a, .ref b]) Q E ⟨hp, gn, dr, tk, oS⟩ := law_one_r (((((((((((((((((((((w, A), h₀), L), m), hp), gn), dr), tk), oS), P), X), news), st), Φ), Q), E), a), b), na), nb), x) O F N H ha hb za hret

def law_sign_S (n : Int) (t : Tok) : Prop := ∀ (O : Ok w A h₀ L 1) (F : Fr h₀ L hp m) (N : News h₀ L hp (led)) (hret : ∀ t' h' tk', Fr h₀ L h' m → News h₀ L h' led → Q (.int (sgn n) t') ⟨h', gn, dr, tk', oS⟩), wpAny (model PR w) A (call (.ref 928) [.int n t]) Q E ⟨hp, gn, dr, tk, oS⟩
theorem law_sign_r : ∀ r : ((HT13 × Int) × Tok), (c13 (@law_sign_S) r.1.1) r.1.2 r.2 := by
  refine ep_all (ne := by walk_at "NE") ((?_ : ∀ w A h₀ L m hp gn dr tk oS led Q E n t, @law_sign_S w A h₀ L m hp gn dr tk oS led Q E n t) _ _ _ _ _ _ _ _ _ _ _ _ _ _ _)
  intro w A h₀ L m hp gn dr tk oS led Q E n t O F N hret
  refine' callfE (d := 0) ["n"] [] [] [some (.int n t)] O F N ?ho ?hcd ?hb ?hl ?hS ?hc ?hv ["n"] ?hpm ?_
  walk_at "ENTERE"
  by_cases h1 : n < 0
  · (clear r32; clear r41; clear s9 lt_int; clear r129; clear r133; clear r31; clear s9 UnaryOp_; clear r3; clear s9 o_neg; clear s9 Thn.ret; clear r134)
    rw [sgn, if_pos h1] at hret
    exact hret _ _ _ kF kN
  · by_cases h2 : 0 < n
    · (clear r32; clear r41; clear s9 lt_int; clear r129; clear r132; clear r31; clear s9 e_if; clear r41; clear s9 gt_int; clear r129; clear r133; clear r3; clear r134)
      rw [sgn, if_neg h1, if_pos h2] at hret
      exact hret _ _ _ kF kN
    · (clear r32; clear r41; clear s9 lt_int; clear r129; clear r132; clear r31; clear s9 e_if; clear r41; clear s9 gt_int; clear r129; clear r132; clear r3; clear r134)
      rw [sgn, if_neg h1, if_neg h2] at hret
      exact hret _ _ _ kF kN
theorem law_sign {n t} (O : Ok w A h₀ L 1) (F : Fr h₀ L hp m) (N : News h₀ L hp (led)) 
    (hret : ∀ t' h' tk', Fr h₀ L h' m → News h₀ L h' led → Q (.int (sgn n) t') ⟨h', gn, dr, tk', oS⟩) :
    wpAny (model PR w) A (call (.ref 928) [.int n t]) Q E ⟨hp, gn, dr, tk, oS⟩ := law_sign_r ((((((((((((((w, A), h₀), L), m), hp), gn), dr), tk), oS), led), Q), E), n), t) O F N hret

def law_size_S (a : Addr) (na : Nat) (os : Option Str) : Prop := ∀ (O : Ok w A h₀ L 19) (F : Fr h₀ L hp m) (N : News h₀ L hp (X ++ news)) (H : Hs w P X st news Φ) (ha : Fact.tv a na os ∈ Φ) (za : (gd os).length ≤ 1000) (hret : ∀ t' news' h' tk', Fr h₀ L h' m → News h₀ L h' (X ++ news') → Hs w P X st news' (Φ) → Q (.int ((gd os).length : Nat) t') ⟨h', gn, dr, tk', oS⟩), wpAny (model PR w) A (call (.ref 893) [.ref P.w, .ref a]) Q E ⟨hp, gn, dr, tk, oS⟩
theorem law_size_r : ∀ r : (((HT17 × Addr) × Nat) × (Option Str)), (c17 (@law_size_S) r.1.1.1) r.1.1.2 r.1.2 r.2 := by
  refine ep_all (ne := by walk_at "NE") ((?_ : ∀ w A h₀ L m hp gn dr tk oS P X news st Φ Q E a na os, @law_size_S w A h₀ L m hp gn dr tk oS P X news st Φ Q E a na os) _ _ _ _ _ _ _ _ _ _ _ _ _ _ _ _ _ _ _ _)
  intro w A h₀ L m hp gn dr tk oS P X news st Φ Q E a na os O F N H ha za hret
  refine' callfE (d := 18) ["w", "x"] [] ["V_REF", "_law_long"] [some (.ref P.w), some (.ref a)] O F N ?ho ?hcd ?hb ?hl ?hS ?hc ?hv ["w", "x"] ?hpm ?_
  walk_at "ENTERE"
  cases os with
  | none =>
    obtain rfl := H.tv_zero ha
    have heq : (PyData.eqv (.int 4) (.int 4) && PyData.eqv (.int (ad 0)) (.int 0)) = true := rfl
    (clear r32; clear r42; clear s9 Tuple_; clear r127; clear r1 Z20; clear r126; clear r125; clear r122; ((with_reducible refine' c_eq2 ‹8› ‹_› (two_tv ‹_› ‹0›) (two_tu ‹_› ‹0› (.int _ _) (.int _ _)) ?hc ?_); (case hc => exact heq)); clear r129; clear r133; clear s3 re1; clear s9 Thn.ret; clear r134)
    exact hret _ _ _ _ kF kN (H'.sub fun f hf => .tail _ hf)
  | some x =>
    have hne : ¬ ad na = 0 := fun e => by have := H.tv_pos ha; have := ad_eq_zero e; lia
    have heq : (PyData.eqv (.int 4) (.int 4) && PyData.eqv (.int (ad na)) (.int 0)) = false := by simp [PyData.eqv, hne]
    replace za : x.length ≤ 1000 := za
    (clear r32; clear r42; clear s9 Tuple_; clear r127; clear r1 Z20; clear r126; clear r125; clear r122; ((with_reducible refine' c_eq2 ‹8› ‹_› (two_tv ‹_› ‹0›) (two_tu ‹_› ‹0› (.int _ _) (.int _ _)) ?hc ?_); (case hc => exact heq)); clear r129; clear r132; clear r31; clear r7 Z62 Z307; clear s34 law_long; clear r134)
    exact hret _ _ _ _ kF kN (H'.sub fun f hf => .tail _ hf)
theorem law_size {a na os} (O : Ok w A h₀ L 19) (F : Fr h₀ L hp m) (N : News h₀ L hp (X ++ news)) (H : Hs w P X st news Φ) (ha : Fact.tv a na os ∈ Φ) (za : (gd os).length ≤ 1000)
    (hret : ∀ t' news' h' tk', Fr h₀ L h' m → News h₀ L h' (X ++ news') → Hs w P X st news' (Φ) → Q (.int ((gd os).length : Nat) t') ⟨h', gn, dr, tk', oS⟩) :
    wpAny (model PR w) A (call (.ref 893) [.ref P.w, .ref a]) Q E ⟨hp, gn, dr, tk, oS⟩ := law_size_r (((((((((((((((((((w, A), h₀), L), m), hp), gn), dr), tk), oS), P), X), news), st), Φ), Q), E), a), na), os) O F N H ha za hret

end
end Mine
end S10_
section B18_
namespace Mine
section
variable {M : Model} {w : World} {A : Around} {E : Value → Shared → Prop} {hp : Heap} {gn : Array GenState} {dr : Drawn} {tk : Nat} {oS : OsState} {g h₀ : Heap} {L a : Addr} {m : Str → Option Value} {P : Pl} {X news led rest : Led} {σ : Sg} {st : St} {Φ Ent : List Fact} {fname : Str} {scope : Scope} {cd : Value} {ns gs : List Str} {vals vals' : List (Option Value)}
theorem gm_textsH {Q : Value → List Value → Shared → Prop} (N : News h₀ L hp (X ++ news)) (H : Hs w P X st news Φ) (h : Q (.builtin "list.append") [.ref (P.adr .texts)] ⟨hp, gn, dr, tk, oS⟩) :
    GM (model PR w) A (.ref (P.adr .texts)) "append" Q E ⟨hp, gn, dr, tk, oS⟩ := let ⟨_, _, _, R, _⟩ := H; gm_texts N R h
theorem gm_factsH {Q : Value → List Value → Shared → Prop} (N : News h₀ L hp (X ++ news)) (H : Hs w P X st news Φ) (h : Q (.builtin "list.append") [.ref (P.adr .facts)] ⟨hp, gn, dr, tk, oS⟩) :
    GM (model PR w) A (.ref (P.adr .facts)) "append" Q E ⟨hp, gn, dr, tk, oS⟩ := let ⟨_, _, _, R, _⟩ := H; gm_facts N R h
theorem texts_addH {x : Addr} {n : Nat} {os : Option Str} {Q : Value → Shared → Prop} (F : Fr h₀ L hp m) (N : News h₀ L hp (X ++ news)) (H : Hs w P X st news Φ) (hx : Fact.tv x n os ∈ Φ) (hz : st.T.length ≤ 1000)
    (h : ∀ news' h', Fr h₀ L h' m → News h₀ L h' (X ++ news') → Hs w P X ⟨st.T ++ [(x, n, os)], st.th, st.b, st.fc⟩ news' Φ → Q .none ⟨h', gn, dr, tk, oS⟩) :
    wpAny (model PR w) A (call (.builtin "list.append") [.ref (P.adr .texts), .ref x]) Q E ⟨hp, gn, dr, tk, oS⟩ := by
  obtain ⟨σ, mem, pool, R, I, T, Fc⟩ := H
  exact texts_add F N R (by rw [T.texts]; simp; lia) fun news' h' F' N' R' K' => h news' h' F' N' (Hs.textAdd I T Fc hx R' K')
theorem facts_addH {x : Addr} {i j : Int} {t t' : Tok} {Q : Value → Shared → Prop} (F : Fr h₀ L hp m) (N : News h₀ L hp (X ++ news)) (H : Hs w P X st news Φ) (hx : Fact.tu x [.int i t, .int j t'] ∈ Φ) (hz : st.fc.length ≤ 1000)
    (h : ∀ news' h', Fr h₀ L h' m → News h₀ L h' (X ++ news') → Hs w P X ⟨st.T, st.th, st.b, st.fc ++ [(i, j)]⟩ news' Φ → Q .none ⟨h', gn, dr, tk, oS⟩) :
    wpAny (model PR w) A (call (.builtin "list.append") [.ref (P.adr .facts), .ref x]) Q E ⟨hp, gn, dr, tk, oS⟩ := by
  obtain ⟨σ, mem, pool, R, I, T, Fc⟩ := H
  exact facts_add F N R (by rw [T.fl]; lia) fun news' h' F' N' R' K' => h news' h' F' N' (Hs.factAdd I T Fc hx R' K')
theorem texts_itemH {value slice : Expr} {k : Int} {u : Tok} {x : Addr} {n : Nat} {os : Option Str} {Q : Value → Shared → Prop} (N : News h₀ L hp (X ++ news)) (H : Hs w P X st news Φ) (h0 : 0 ≤ k) (hk : st.T[k.toNat]? = some (x, n, os)) (hz : st.T.length ≤ 1000)
    (h : Hs w P X st news (.tv x n os :: Φ) → Q (.ref x) ⟨hp, gn, dr, tk, oS⟩)
    (hs : subscripted slice false (.ref (P.adr .texts)) (.int k u) = operate [.ref (P.adr .texts), .int k u] (getItem (.ref (P.adr .texts)) (.int k u))) :
    wpAny (model PR w) A (subscriptTail value slice (.ref (P.adr .texts)) (.int k u)) Q E ⟨hp, gn, dr, tk, oS⟩ := by
  obtain ⟨σ, mem, pool, R, I, T, Fc⟩ := H
  have H1 : Hs w P X st news (.tv x n os :: Φ) := ⟨σ, mem, pool, R, I, T, fun f hf => by
    rcases List.mem_cons.mp hf with rfl | hf
    · exact T.tv _ (List.mem_of_getElem? hk)
    · exact Fc f hf⟩
  obtain ⟨o, ho, q, rfl⟩ := R.mu .texts
  have hl := led_isList N (List.mem_append_right X ho)
  obtain ⟨hlt, -⟩ := List.getElem?_eq_some_iff.mp hk
  exact tail_any hl.typeIs slot_list_getitem.lookup (wpAny_getItem_list hl h0 (by lia) (by rw [List.getElem?_toArray, T.texts, List.getElem?_map, hk]; rfl) (h H1)) hs
theorem facts_itemH {value slice : Expr} {k : Int} {u : Tok} {i j : Int} {Q : Value → Shared → Prop} (N : News h₀ L hp (X ++ news)) (H : Hs w P X st news Φ) (h0 : 0 ≤ k) (hk : st.fc[k.toNat]? = some (i, j)) (hz : st.fc.length ≤ 1000)
    (h : ∀ x t t', Hs w P X st news (.tu x [.int i t, .int j t'] :: Φ) → Q (.ref x) ⟨hp, gn, dr, tk, oS⟩)
    (hs : subscripted slice false (.ref (P.adr .facts)) (.int k u) = operate [.ref (P.adr .facts), .int k u] (getItem (.ref (P.adr .facts)) (.int k u))) :
    wpAny (model PR w) A (subscriptTail value slice (.ref (P.adr .facts)) (.int k u)) Q E ⟨hp, gn, dr, tk, oS⟩ := by
  obtain ⟨σ, mem, pool, R, I, T, Fc⟩ := H
  obtain ⟨x, t, t', e, J⟩ := T.facts _ _ hk
  have H1 : Hs w P X st news (.tu x [.int i t, .int j t'] :: Φ) := ⟨σ, mem, pool, R, I, T, fun f hf => by
    rcases List.mem_cons.mp hf with rfl | hf
    · exact J
    · exact Fc f hf⟩
  obtain ⟨o, ho, q, rfl⟩ := R.mu .facts
  have hl := led_isList N (List.mem_append_right X ho)
  obtain ⟨hlt, -⟩ := List.getElem?_eq_some_iff.mp hk
  exact tail_any hl.typeIs slot_list_getitem.lookup (wpAny_getItem_list hl h0 (by lia) (by rw [List.getElem?_toArray, e]) (h x t t' H1)) hs
theorem len_textsH {Q : Value → Shared → Prop} (N : News h₀ L hp (X ++ news)) (H : Hs w P X st news Φ) (hz : st.T.length ≤ 1000) (h : Q (.int (st.T.length : Nat) (tk + 1)) ⟨hp, gn, dr, tk + 1 + 1, oS⟩) :
    wpAny (model PR w) A (call (.builtin "len") [.ref (P.adr .texts)]) Q E ⟨hp, gn, dr, tk, oS⟩ := by
  obtain ⟨σ, mem, pool, R, I, T, Fc⟩ := H
  obtain ⟨o, ho, n, rfl⟩ := R.mu .texts
  have e : (σ.texts.toArray.size) = st.T.length := by simp [T.texts]
  exact len_led N (List.mem_append_right X ho) (by rw [e]; lia) (by rw [e]; exact h)
theorem null_H {t t' : Tok} {Q : Value → Shared → Prop} (F : Fr h₀ L hp m) (N : News h₀ L hp (X ++ news)) (H : Hs w P X st news Φ)
    (h : ∀ l news' h', Fr h₀ L h' m → News h₀ L h' (X ++ news') → Hs w P X st news' (.tv l 0 none :: Φ) → Q (.ref l) ⟨h', gn, dr, tk, oS⟩) : wpAny M A (newTuple [.int 4 t, .int 0 t']) Q E ⟨hp, gn, dr, tk, oS⟩ :=
  newTuple_H F N H (Nat.le_of_ble_eq_true rfl) fun l news' h' F' N' H' => h l news' h' F' N' ((H'.add (f := .tv l 0 none) fun mem pool Fc => (⟨⟨t, t', Fc _ (.head _)⟩, .inl ⟨rfl, rfl⟩⟩ : Tv P mem news' l 0 none)).sub fun f hf => by
    rcases List.mem_cons.mp hf with rfl | hf
    · exact .head _
    · exact .tail _ (.tail _ hf))
theorem eqv_ad (n n' : Nat) : (PyData.eqv (.int 4) (.int 4) && PyData.eqv (.int (ad n)) (.int (ad n'))) = decide (n = n') := by
  by_cases h : n = n'
  · subst h; simp [PyData.eqv]
  · have : ¬ ad n = ad n' := fun e => h (ad_inj e)
    simp [PyData.eqv, h, this]
theorem c_eqtv {x y : Addr} {n n' : Nat} {os os' : Option Str} {Q : Value → Shared → Prop} (O : Ok w A h₀ L 9) (N : News h₀ L hp (X ++ news)) (H : Hs w P X st news Φ) (hx : Fact.tv x n os ∈ Φ) (hy : Fact.tv y n' os' ∈ Φ)
    (h : Q (.bool (decide (n = n'))) ⟨hp, gn, dr, tk, oS⟩) : wpAny (model PR w) A (compareOp .Eq (.ref x) (.ref y)) Q E ⟨hp, gn, dr, tk, oS⟩ := c_eq2 O N (two_tv H hx) (two_tv H hy) (eqv_ad n n') h
theorem c_netv {x y : Addr} {n n' : Nat} {os os' : Option Str} {Q : Value → Shared → Prop} (O : Ok w A h₀ L 9) (N : News h₀ L hp (X ++ news)) (H : Hs w P X st news Φ) (hx : Fact.tv x n os ∈ Φ) (hy : Fact.tv y n' os' ∈ Φ)
    (h : Q (.bool (!decide (n = n'))) ⟨hp, gn, dr, tk, oS⟩) : wpAny (model PR w) A (compareOp .NotEq (.ref x) (.ref y)) Q E ⟨hp, gn, dr, tk, oS⟩ := c_ne2 O N (two_tv H hx) (two_tv H hy) (by rw [eqv_ad]) h
theorem o_emodB {a b : Int} {t u : Tok} {Q : Value → Shared → Prop} (hb : 0 < b) (h : ∀ r, 0 ≤ r → r < b → r = a % b → Q (.int r tk) ⟨hp, gn, dr, tk + 1, oS⟩) : wpAny (model PR w) A (binaryOp .Mod (.int a t) (.int b u)) Q E ⟨hp, gn, dr, tk, oS⟩ :=
  o_emod hb (h _ (Int.emod_nonneg _ (by lia)) (Int.emod_lt_of_pos _ hb) rfl)
theorem o_fdivB {a b : Int} {t u : Tok} {Q : Value → Shared → Prop} (hb : 0 < b) (hs : b < 1073741824) (h : ∀ r, r = a / b → (0 ≤ a → 0 ≤ r) → Q (.int r tk) ⟨hp, gn, dr, tk + 1, oS⟩) : wpAny (model PR w) A (binaryOp .FloorDiv (.int a t) (.int b u)) Q E ⟨hp, gn, dr, tk, oS⟩ :=
  o_fdiv hb hs (h _ rfl fun h0 => Int.ediv_nonneg h0 (by lia))
def Wd (w : World) (P : Pl) (g : Heap) (L : Addr) (ns : List Str) (X : Led) (gn : Array GenState) (dr : Drawn) (oS : OsState) (J : Nat → List (Option Value) → St → List Fact → Prop) (n : Nat) (f : Flow) (s' : Shared) : Prop :=
  f = .next ∧ ∃ n' h' tk' vals news st Φ, s' = ⟨h', gn, dr, tk', oS⟩ ∧ Fr g L h' (lc ns vals) ∧ News g L h' (X ++ news) ∧ Hs w P X st news Φ ∧ n' < n ∧ J n' vals st Φ
theorem Wd.next {J : Nat → List (Option Value) → St → List Fact → Prop} {n n' : Nat} {Φ' : List Fact} (Φ : List Fact) (F : Fr g L hp (lc ns vals)) (N : News g L hp (X ++ news)) (H : Hs w P X st news Φ') (hΦ : ∀ f ∈ Φ, f ∈ Φ') (hn : n' < n) (hJ : J n' vals st Φ) :
    Wd w P g L ns X gn dr oS J n .next ⟨hp, gn, dr, tk, oS⟩ := ⟨rfl, n', hp, tk, vals, news, st, Φ, rfl, F, N, H.sub hΦ, hn, hJ⟩
def x_while_S (test : PySem.Expr) (body rest : List Stmt) (pos : Pos) (Q : Flow → Shared → Prop) (J : Nat → List (Option Value) → Mine.St → List Fact → Prop) (n₀ : Nat) : Prop := ∀ (F : Fr g L hp (lc ns vals)) (N : News g L hp (X ++ news)) (H : Hs w P X st news Φ) (h0 : J n₀ vals st Φ) (turn : ∀ n vals st news Φ h' tk', J n vals st Φ → Fr g L h' (lc ns vals) → News g L h' (X ++ news) → Hs w P X st news Φ →
      wpAny (model PR w) A (isTrue test (envOf fname scope L a cd) (eval test (envOf fname scope L a cd))) (fun b s₂ => Br b (wpAny (model PR w) A (execs body (envOf fname scope L a cd)) (Wd w P g L ns X gn dr oS J n) (fun _ _ => False) s₂)
        (wpAny (model PR w) A (execs rest (envOf fname scope L a cd)) Q (fun _ _ => False) s₂)) (fun _ _ => False) ⟨h', gn, dr, tk', oS⟩), wpAny (model PR w) A (execs (.While test body [] pos :: rest) (envOf fname scope L a cd)) Q (fun _ _ => False) ⟨hp, gn, dr, tk, oS⟩
theorem x_while_r : ∀ r : ((((((((((((((((((((((((((World × Around) × Heap) × (Array GenState)) × Drawn) × Nat) × OsState) × Heap) × Addr) × Addr) × Pl) × Led) × Led) × Mine.St) × (List Fact)) × Str) × Scope) × Value) × (List Str)) × (List (Option Value))) × PySem.Expr) × (List Stmt)) × (List Stmt)) × Pos) × (Flow → Shared → Prop)) × (Nat → List (Option Value) → Mine.St → List Fact → Prop)) × Nat), @x_while_S r.1.1.1.1.1.1.1.1.1.1.1.1.1.1.1.1.1.1.1.1.1.1.1.1.1.1 r.1.1.1.1.1.1.1.1.1.1.1.1.1.1.1.1.1.1.1.1.1.1.1.1.1.2 r.1.1.1.1.1.1.1.1.1.1.1.1.1.1.1.1.1.1.1.1.1.1.1.1.2 r.1.1.1.1.1.1.1.1.1.1.1.1.1.1.1.1.1.1.1.1.1.1.1.2 r.1.1.1.1.1.1.1.1.1.1.1.1.1.1.1.1.1.1.1.1.1.1.2 r.1.1.1.1.1.1.1.1.1.1.1.1.1.1.1.1.1.1.1.1.1.2 r.1.1.1.1.1.1.1.1.1.1.1.1.1.1.1.1.1.1.1.1.2 r.1.1.1.1.1.1.1.1.1.1.1.1.1.1.1.1.1.1.1.2 r.1.1.1.1.1.1.1.1.1.1.1.1.1.1.1.1.1.1.2 r.1.1.1.1.1.1.1.1.1.1.1.1.1.1.1.1.1.2 r.1.1.1.1.1.1.1.1.1.1.1.1.1.1.1.1.2 r.1.1.1.1.1.1.1.1.1.1.1.1.1.1.1.2 r.1.1.1.1.1.1.1.1.1.1.1.1.1.1.2 r.1.1.1.1.1.1.1.1.1.1.1.1.1.2 r.1.1.1.1.1.1.1.1.1.1.1.1.2 r.1.1.1.1.1.1.1.1.1.1.1.2 r.1.1.1.1.1.1.1.1.1.1.2 r.1.1.1.1.1.1.1.1.1.2 r.1.1.1.1.1.1.1.1.2 r.1.1.1.1.1.1.1.2 r.1.1.1.1.1.1.2 r.1.1.1.1.1.2 r.1.1.1.1.2 r.1.1.1.2 r.1.1.2 r.1.2 r.2 := by
  refine ep_all (ne := by walk_at "NE") ((?_ : ∀ w A hp gn dr tk oS g L a P X news st Φ fname scope cd ns vals test body rest pos Q J n₀, @x_while_S w A hp gn dr tk oS g L a P X news st Φ fname scope cd ns vals test body rest pos Q J n₀) _ _ _ _ _ _ _ _ _ _ _ _ _ _ _ _ _ _ _ _ _ _ _ _ _ _ _)
  intro w A hp gn dr tk oS g L a P X news st Φ fname scope cd ns vals test body rest pos Q J n₀ F N H h0 turn
  refine x_cons (While_inv (h₀ := g) (L := L) (fun n m' led => ∃ vals news st Φ, m' = lc ns vals ∧ led = X ++ news ∧ Hs w P X st news Φ ∧ J n vals st Φ) (n₀ := n₀) F N ⟨vals, news, st, Φ, rfl, rfl, H, h0⟩ ?_)
  rintro n m1 news1 h1 tk1 F1 N1 ⟨vals, news, st, Φ, rfl, rfl, H, hJ⟩
  refine wpAny_mono (turn n vals st news Φ h1 tk1 hJ F1 N1 H) (fun b s₂ x => ?_) fun _ _ x => x
  cases b with
  | false => exact x.2 rfl
  | true =>
    refine wpAny_mono (x.1 rfl) (fun f s₃ hf => ?_) fun _ _ x => x
    obtain ⟨rfl, n', h', tk', vals, news, st, Φ, rfl, F', N', H', hn, hJ'⟩ := hf
    exact WhileStep.intro F' N' hn ⟨vals, news, st, Φ, rfl, rfl, H', hJ'⟩
theorem x_while {test : Expr} {body rest : List Stmt} {pos : Pos} {Q : Flow → Shared → Prop} (F : Fr g L hp (lc ns vals)) (N : News g L hp (X ++ news)) (H : Hs w P X st news Φ)
    (J : Nat → List (Option Value) → St → List Fact → Prop) (n₀ : Nat) (h0 : J n₀ vals st Φ)
    (turn : ∀ n vals st news Φ h' tk', J n vals st Φ → Fr g L h' (lc ns vals) → News g L h' (X ++ news) → Hs w P X st news Φ →
      wpAny (model PR w) A (isTrue test (envOf fname scope L a cd) (eval test (envOf fname scope L a cd))) (fun b s₂ => Br b (wpAny (model PR w) A (execs body (envOf fname scope L a cd)) (Wd w P g L ns X gn dr oS J n) (fun _ _ => False) s₂)
        (wpAny (model PR w) A (execs rest (envOf fname scope L a cd)) Q (fun _ _ => False) s₂)) (fun _ _ => False) ⟨h', gn, dr, tk', oS⟩) :
    wpAny (model PR w) A (execs (.While test body [] pos :: rest) (envOf fname scope L a cd)) Q (fun _ _ => False) ⟨hp, gn, dr, tk, oS⟩ := x_while_r ((((((((((((((((((((((((((w, A), hp), gn), dr), tk), oS), g), L), a), P), X), news), st), Φ), fname), scope), cd), ns), vals), test), body), rest), pos), Q), J), n₀) F N H h0 turn

theorem for_range0 {x : Str} {body : List Stmt} {Qf : Flow → Shared → Prop} {r : Addr} {e : Int} {t u v : Tok} (n : Nat) (hh : A.handled = none) (F : Fr g L hp (lc ns vals)) (N : News g L hp (X ++ news)) (H : Hs w P X st news Φ) (hr : Fact.ent r (rangeOb 0 e t u v) ∈ Φ)
    (he : -1000000000000 ≤ e ∧ e ≤ 1000000000000) (hn : n = e.toNat)
    (Iv : Nat → List (Option Value) → St → List Fact → Prop) (h0 : Iv 0 vals st Φ)
    (turn : ∀ i t h' tk' X' vals st news Φ, i < n → Iv i vals st Φ → (∀ p ∈ X, p ∈ X') → Fr g L h' (fun y => if y = x then some (.int (i : Int) t) else lc ns vals y) → News g L h' (X' ++ news) → Hs w P X' st news Φ →
      wpAny (model PR w) A (execs body (envOf fname scope L a cd)) (Bd w P g L ns X' [] gn dr oS (Iv (i + 1)) Qf) E ⟨h', gn, dr, tk', oS⟩)
    (done : ∀ h' tk' vals st news Φ, Iv n vals st Φ → Fr g L h' (lc ns vals) → News g L h' (X ++ news) → Hs w P X st news Φ → Qf .next ⟨h', gn, dr, tk', oS⟩) :
    ForIt w A g (envOf fname scope L a cd) x body Qf E (.ref r) ⟨hp, gn, dr, tk, oS⟩ :=
  for_range n hh F N H hr (by lia) he (by rw [hn]; congr 1; lia) Iv h0 (fun i t h' tk' X' vals st news Φ hi hIv hX F' N' H' => turn i t h' tk' X' vals st news Φ hi hIv hX (by rw [Int.zero_add] at F'; exact F') N' H') done
end
theorem Hs.narrow {w : World} {P : Pl} {X X' news : Led} {st : St} {Φ : List Fact} (H : Hs w P X' st news Φ) (hX : ∀ p ∈ X, p ∈ X') : Hs w P X st news Φ := H.frame fun p hp q hq => H.dj p (hX p hp) q hq
theorem news_narrow {h₀ h : Heap} {L : Addr} {X X' news : Led} (N : News h₀ L h (X' ++ news)) (hX : ∀ p ∈ X, p ∈ X') : News h₀ L h (X ++ news) := news_sub N fun p hp => by
  rcases List.mem_append.mp hp with hp | hp
  · exact List.mem_append_left _ (hX p hp)
  · exact List.mem_append_right _ hp
def Kept (c : Nat) (st st' : St) : Prop := st'.th = st.th ∧ st.b ≤ st'.b ∧ st'.b ≤ st.b + c ∧
  ((st'.T = st.T ∧ st'.fc = st.fc) ∨ ∃ a n x, x.length ≤ 6 ∧ st'.T = st.T ++ [(a, n, some x)] ∧ st'.fc = st.fc ++ [(((x.length : Nat) : Int), hashS x)])
theorem Kept.same {st : St} {b c : Nat} (h1 : st.b ≤ b) (h2 : b ≤ st.b + c) : Kept c st ⟨st.T, st.th, b, st.fc⟩ := ⟨rfl, h1, h2, .inl ⟨rfl, rfl⟩⟩
theorem Kept.up {st st' s1 : St} {c d : Nat} (K : Kept c s1 st') (hT : s1.T = st.T) (hf : s1.fc = st.fc) (ht : s1.th = st.th) (h1 : st.b ≤ s1.b) (h2 : s1.b + c ≤ st.b + d) : Kept d st st' := ⟨K.1.trans ht, Nat.le_trans h1 K.2.1, Nat.le_trans K.2.2.1 h2, by rw [← hT, ← hf]; exact K.2.2.2⟩
theorem Kept.more {st st' : St} {b c e d : Nat} (K : Kept c st st') (h1 : st'.b ≤ e) (h2 : e ≤ st.b + d) : Kept d st ⟨st'.T, st'.th, e, st'.fc⟩ := ⟨K.1, Nat.le_trans K.2.1 h1, h2, K.2.2.2⟩
end Mine
end B18_
section L1_
namespace Mine
theorem lt_or_ge' (x y : List Nat) : x < y ∨ x = y ∨ y < x := by
  rcases Decidable.em (x < y) with h | h
  · exact .inl h
  · rcases Decidable.em (y < x) with h' | h'
    · exact .inr (.inr h')
    · exact .inr (.inl (List.le_antisymm (Std.not_lt.mp h') (Std.not_lt.mp h)))
theorem cmpS_lt {x y : List Nat} (h : x < y) : cmpS x y = -1 := by
  unfold cmpS; rw [if_neg (Std.not_gt_of_lt h), if_pos h]
theorem cmpS_gt {x y : List Nat} (h : y < x) : cmpS x y = 1 := by unfold cmpS; rw [if_pos h]
theorem cmpS_rfl (x : List Nat) : cmpS x x = 0 := by unfold cmpS; rw [if_neg (List.lt_irrefl x), if_neg (List.lt_irrefl x)]
theorem cmpS_cases (x y : List Nat) : (x < y ∧ cmpS x y = -1 ∧ cmpS y x = 1) ∨ (x = y ∧ cmpS x y = 0 ∧ cmpS y x = 0) ∨ (y < x ∧ cmpS x y = 1 ∧ cmpS y x = -1) := by
  rcases lt_or_ge' x y with h | h | h
  · exact .inl ⟨h, cmpS_lt h, cmpS_gt h⟩
  · subst h; exact .inr (.inl ⟨rfl, cmpS_rfl _, cmpS_rfl _⟩)
  · exact .inr (.inr ⟨h, cmpS_gt h, cmpS_lt h⟩)
theorem cmpS_turn (x y : List Nat) : cmpS y x = -cmpS x y := by
  rcases cmpS_cases x y with ⟨-, a, b⟩ | ⟨-, a, b⟩ | ⟨-, a, b⟩ <;> rw [a, b] <;> rfl
theorem cmpS_zero {x y : List Nat} : cmpS x y = 0 ↔ x = y := by
  rcases cmpS_cases x y with ⟨h, a, b⟩ | ⟨h, a, b⟩ | ⟨h, a, b⟩
  · rw [a]; exact ⟨(fun e => by cases e), fun e => by subst e; exact absurd h (List.lt_irrefl _)⟩
  · rw [a]; exact ⟨fun _ => h, fun _ => rfl⟩
  · rw [a]; exact ⟨(fun e => by cases e), fun e => by subst e; exact absurd h (List.lt_irrefl _)⟩
theorem cmpS_min {x y z : List Nat} (h1 : cmpS x y ≤ 0) (h2 : cmpS y z ≤ 0) : cmpS x z = if cmpS y z < cmpS x y then cmpS y z else cmpS x y := by
  rcases cmpS_cases x y with ⟨h, a, -⟩ | ⟨h, a, -⟩ | ⟨h, a, -⟩
  · rcases cmpS_cases y z with ⟨h', a', -⟩ | ⟨h', a', -⟩ | ⟨h', a', -⟩
    · rw [a, a', cmpS_lt (Std.lt_trans h h')]; rfl
    · subst h'; rw [a, a']; rfl
    · rw [a'] at h2; lia
  · subst h; rw [a]
    split
    · rfl
    · lia
  · rw [a] at h1; lia
theorem cmpS_max {x y z : List Nat} (h1 : 0 ≤ cmpS x y) (h2 : 0 ≤ cmpS y z) : cmpS x z = if cmpS y z > cmpS x y then cmpS y z else cmpS x y := by
  have := cmpS_min (x := z) (y := y) (z := x) (by rw [cmpS_turn]; lia) (by rw [cmpS_turn]; lia)
  rw [cmpS_turn x z, cmpS_turn y z, cmpS_turn x y] at this
  split at this <;> split <;> lia
theorem cmpS_app (c a b : List Nat) : cmpS (c ++ a) (c ++ b) = cmpS a b := by
  induction c with
  | nil => rfl
  | cons n c ih =>
    have e : ∀ u v : List Nat, (n :: u < n :: v) ↔ u < v := fun u v => by rw [List.cons_lt_cons_iff]; simp
    rw [← ih]
    unfold cmpS
    simp only [List.cons_append, e]
theorem cmpS_cons (n : Nat) (a b : List Nat) : cmpS (n :: a) (n :: b) = cmpS a b := cmpS_app [n] a b
theorem cmpS_nil_cons (n : Nat) (b : List Nat) : cmpS [] (n :: b) = -1 := cmpS_lt (List.nil_lt_cons _ _)
theorem cmpS_cons_nil (n : Nat) (b : List Nat) : cmpS (n :: b) [] = 1 := cmpS_gt (List.nil_lt_cons _ _)
theorem cmpS_pre (a b : List Nat) : cmpS (a ++ b) a = sgn (b.length : Nat) := by
  have := cmpS_app a b []
  rw [List.append_nil] at this
  rw [this]
  cases b with
  | nil => rfl
  | cons n r => rw [cmpS_cons_nil, sgn, if_neg (by simp only [List.length_cons, List.length_nil]; lia), if_pos (by simp only [List.length_cons, List.length_nil]; lia)]
theorem cmpS_at : ∀ (i : Nat) (a b : List Nat), a.take i = b.take i → i ≤ a.length → i ≤ b.length → (cmpS (a.drop i) (b.drop i) = cmpS a b) ∧
    ((i = a.length ∨ i = b.length) → cmpS a b = sgn ((a.length : Nat) - (b.length : Nat) : Int)) ∧
    (i < a.length → i < b.length → a.getD i 0 ≠ b.getD i 0 → cmpS a b = sgn (((a.getD i 0 : Nat) : Int) - ((b.getD i 0 : Nat) : Int)))
  | 0, a, b, _, _, _ => by
    refine ⟨rfl, ?_, ?_⟩
    · intro h
      cases a with
      | nil => cases b with
        | nil => rfl
        | cons m r => rw [cmpS_nil_cons, sgn, if_pos (by simp only [List.length_cons, List.length_nil]; lia)]
      | cons n r => cases b with
        | nil => rw [cmpS_cons_nil, sgn, if_neg (by simp only [List.length_cons, List.length_nil]; lia), if_pos (by simp only [List.length_cons, List.length_nil]; lia)]
        | cons m r' => simp at h
    · intro h1 h2 hne
      cases a with
      | nil => simp at h1
      | cons n r => cases b with
        | nil => simp at h2
        | cons m r' =>
          simp at hne ⊢
          rcases Nat.lt_or_gt_of_ne hne with h | h
          · rw [cmpS_lt (List.cons_lt_cons_iff.mpr (.inl h)), sgn, if_pos (by lia)]
          · rw [cmpS_gt (List.cons_lt_cons_iff.mpr (.inl h)), sgn, if_neg (by lia), if_pos (by lia)]
  | i + 1, a, b, h, ha, hb => by
    cases a with
    | nil => simp at ha
    | cons n r => cases b with
      | nil => simp at hb
      | cons m r' =>
        simp at h ha hb
        obtain ⟨rfl, h⟩ := h
        obtain ⟨h1, h2, h3⟩ := cmpS_at i r r' h ha hb
        refine ⟨by simpa [cmpS_cons] using h1, ?_, ?_⟩
        · intro h
          rw [cmpS_cons, h2 (by simp at h; exact h)]
          simp; congr 1; lia
        · intro g1 g2 g3
          rw [cmpS_cons]
          simp at g1 g2 g3 ⊢
          exact h3 g1 g2 (by simpa using g3)
theorem cut_len {x : Str} {i n : Nat} (h : i + n ≤ x.length) : (cut x i n).length = n := by
  rw [strlen, cut_list]; rw [strlen] at h; simp; simp at h; lia
theorem cut_app (x : Str) {i : Nat} (h : i ≤ x.length) : cut x 0 i ++ cut x i (x.length - i) = x := str_ext (by
  rw [app_list, cut_list, cut_list, List.drop_zero]
  rw [List.take_of_length_le (l := x.cps.toList.drop i) (by rw [strlen]; simp), List.take_append_drop])
theorem cut_cut (x : Str) {i k j n : Nat} (h : j + n ≤ k) : cut (cut x i k) j n = cut x (i + j) n := str_ext (by
  rw [cut_list, cut_list, cut_list, List.drop_take, List.drop_drop, List.take_take, Nat.min_eq_left (by lia)])
theorem cut_front (x y : Str) : cut (x ++ y) 0 x.length = x := str_ext (by rw [cut_list, app_list, strlen, List.drop_zero]; simp)
theorem cut_back (x y : Str) : cut (x ++ y) x.length y.length = y := str_ext (by rw [cut_list, app_list, strlen, strlen, List.drop_left, List.take_length])
theorem cut_in (a x b : Str) : cut (a ++ (x ++ b)) a.length x.length = x := str_ext (by rw [cut_list, app_list, app_list, strlen, strlen]; simp)
theorem cut_getD (x : Str) {i n k : Nat} (h : k < n) : (cut x i n).cps.toList.getD k 0 = x.cps.toList.getD (i + k) 0 := by
  rw [cut_list, List.getD_eq_getElem?_getD, List.getD_eq_getElem?_getD, List.getElem?_take, if_pos h, List.getElem?_drop]
theorem app_getD_l {x : Str} (y : Str) {k : Nat} (h : k < x.length) : (x ++ y).cps.toList.getD k 0 = x.cps.toList.getD k 0 := by
  rw [app_list, List.getD_eq_getElem?_getD, List.getD_eq_getElem?_getD, List.getElem?_append_left (by rw [← strlen]; exact h)]
theorem app_getD_r (x y : Str) (k : Nat) : (x ++ y).cps.toList.getD (x.length + k) 0 = y.cps.toList.getD k 0 := by
  rw [app_list, List.getD_eq_getElem?_getD, List.getD_eq_getElem?_getD, List.getElem?_append_right (by rw [← strlen]; lia)]
  congr 2; rw [strlen]; lia
theorem app_assoc (x y z : Str) : x ++ y ++ z = x ++ (y ++ z) := str_ext (by simp only [app_list, List.append_assoc])
theorem len_zero {x : Str} : x.length = 0 ↔ x = "" := by
  constructor
  · intro h; refine str_ext ?_
    rw [strlen] at h; rw [List.length_eq_zero_iff.mp h]; rfl
  · rintro rfl; rfl
theorem cut_drop (x : Str) (i : Nat) : (cut x i (x.length - i)).cps.toList = x.cps.toList.drop i := by
  rw [cut_list, List.take_of_length_le (by rw [strlen]; simp)]
def atI (x y : Str) (i : Nat) : Prop := i + y.length ≤ x.length ∧ cut x i y.length = y
theorem at_iff (x y : Str) (i : Nat) : StrLaws.At x y x.length i ↔ atI x y i := by
  have e := atS_iff x y i
  have e1 : ((i : Int)).toNat = i := by lia
  have e2 : ((i : Int) + (y.length : Int) - (i : Int)).toNat = y.length := by lia
  rw [← e]
  unfold atS atI cut
  rw [e1, e2]
  simp only [Bool.and_eq_true, Bool.not_eq_true', decide_eq_false_iff_not, beq_iff_eq]
  exact and_congr ⟨fun h => by lia, fun h => by lia⟩ Iff.rfl
theorem find_spec (x y : Str) : (Txt.find x y = -1 ∧ ∀ i, ¬ atI x y i) ∨ ∃ i : Nat, Txt.find x y = (i : Int) ∧ atI x y i ∧ ∀ k, k < i → ¬ atI x y k := by
  rcases find_whole x y with ⟨h, hn⟩ | ⟨i, h, hi, hn⟩
  · exact .inl ⟨h, fun i q => hn i ((at_iff x y i).mpr q)⟩
  · exact .inr ⟨i, h, (at_iff x y i).mp hi, fun k hk q => hn k hk ((at_iff x y k).mpr q)⟩
theorem at_behind (a p : Str) : atI (a ++ p) p a.length := ⟨by rw [app_len]; lia, cut_back a p⟩
theorem at_front (a p : Str) : atI (p ++ a) p 0 := ⟨by rw [app_len]; lia, cut_front p a⟩
theorem find_behind (a p : Str) : 0 ≤ Txt.find (a ++ p) p ∧ Txt.find (a ++ p) p ≤ a.length := by
  rcases find_spec (a ++ p) p with ⟨h, hn⟩ | ⟨i, h, hi, hn⟩
  · exact absurd (at_behind a p) (hn _)
  · rw [h]
    refine ⟨by lia, ?_⟩
    rcases Nat.lt_or_ge a.length i with q | q
    · exact absurd (at_behind a p) (hn _ q)
    · lia
theorem find_front (a p : Str) : Txt.find (p ++ a) p = 0 := by
  rcases find_spec (p ++ a) p with ⟨h, hn⟩ | ⟨i, h, hi, hn⟩
  · exact absurd (at_front a p) (hn _)
  · rw [h]
    rcases Nat.eq_zero_or_pos i with q | q
    · subst q; rfl
    · exact absurd (at_front a p) (hn _ q)
theorem find_hit {x y : Str} {i : Nat} (hi : atI x y i) (hn : ∀ k, k < i → ¬ atI x y k) : Txt.find x y = (i : Int) := by
  rcases find_spec x y with ⟨h, h'⟩ | ⟨j, h, hj, h'⟩
  · exact absurd hi (h' _)
  · rw [h]
    rcases Nat.lt_trichotomy i j with q | q | q
    · exact absurd hi (h' _ q)
    · rw [q]
    · exact absurd hj (hn _ q)
theorem find_miss {x y : Str} (hn : ∀ k, k + y.length ≤ x.length → ¬ atI x y k) : Txt.find x y = -1 := by
  rcases find_spec x y with ⟨h, h'⟩ | ⟨j, h, hj, h'⟩
  · exact h
  · exact absurd hj (hn _ hj.1)
end Mine
end L1_
section B19_
namespace Mine
section
variable {M : Model} {w : World} {A : Around} {E : Value → Shared → Prop} {hp : Heap} {gn : Array GenState} {dr : Drawn} {tk : Nat} {oS : OsState} {g h₀ : Heap} {L a : Addr} {m : Str → Option Value} {P : Pl} {X news led rest : Led} {σ : Sg} {st : St} {Φ Ent : List Fact} {fname : Str} {scope : Scope} {cd : Value} {ns gs : List Str} {vals vals' : List (Option Value)}
def Nay (w : World) (P : Pl) (g : Heap) (L : Addr) (X : Led) (gn : Array GenState) (dr : Drawn) (oS : OsState) (ns : List Str) (vals : List (Option Value)) (st : St) (Φ : List Fact) (c : Bool) (s : Shared) : Prop :=
  c = false ∧ ∃ h' tk' news', s = ⟨h', gn, dr, tk', oS⟩ ∧ Fr g L h' (lc ns vals) ∧ News g L h' (X ++ news') ∧ Hs w P X st news' Φ
theorem Nay.mk {c : Bool} {Φ' : List Fact} (hc : c = false) (F : Fr g L hp (lc ns vals)) (N : News g L hp (X ++ news)) (H : Hs w P X st news Φ') (hs : ∀ f ∈ Φ, f ∈ Φ') : Nay w P g L X gn dr oS ns vals st Φ c ⟨hp, gn, dr, tk, oS⟩ := ⟨hc, hp, tk, news, rfl, F, N, H.sub hs⟩
theorem x_ifn {t : Expr} {b rest : List Stmt} {pos : Pos} {env : Env} {Q : Flow → Shared → Prop} (F : Fr g L hp (lc ns vals)) (N : News g L hp (X ++ news)) (H : Hs w P X st news Φ) (J : wpAny (model PR w) A (isTrue t env (eval t env)) (Nay w P g L X gn dr oS ns vals st Φ) (fun _ _ => False) ⟨hp, gn, dr, tk, oS⟩)
    (k : ∀ h' tk' news', Fr g L h' (lc ns vals) → News g L h' (X ++ news') → Hs w P X st news' Φ → wpAny (model PR w) A (execs rest env) Q (fun _ _ => False) ⟨h', gn, dr, tk', oS⟩) :
    wpAny (model PR w) A (execs (.If t b [] pos :: rest) env) Q (fun _ _ => False) ⟨hp, gn, dr, tk, oS⟩ :=
  x_if (wpAny_mono J (fun c s₂ h => by
    obtain ⟨rfl, h', tk', news', rfl, F, N, H⟩ := h
    exact Br.f rfl (k h' tk' news' F N H)) fun _ _ x => x)
end
theorem Kept.le {st st' : St} {c : Nat} (K : Kept c st st') : st'.b ≤ st.b + c := K.2.2.1
theorem Kept.fin {st st' s1 : St} {c e d : Nat} (K : Kept c s1 st') (hT : s1.T = st.T) (hf : s1.fc = st.fc) (ht : s1.th = st.th) (h1 : st.b ≤ s1.b) (h2 : st'.b ≤ e) (h3 : e ≤ st.b + d) : Kept d st ⟨st'.T, st'.th, e, st'.fc⟩ :=
  ⟨K.1.trans ht, Nat.le_trans h1 (Nat.le_trans K.2.1 h2), h3, by rw [← hT, ← hf]; exact K.2.2.2⟩
end Mine
end B19_
section B20_
namespace Mine
def BdM (w : World) (P : Pl) (g : Heap) (L : Addr) (ns : List Str) (l : Addr) (X' : Led) (gn : Array GenState) (dr : Drawn) (oS : OsState) (Iv : Obj → List (Option Value) → St → List Fact → Prop) (Qr : Flow → Shared → Prop) (f : Flow) (s' : Shared) : Prop :=
  match f with
  | .ret v => Qr (.ret v) s'
  | .brk => Qr .next s'
  | _ => ∃ h' tk' o vals news st Φ, s' = ⟨h', gn, dr, tk', oS⟩ ∧ Fr g L h' (lc ns vals) ∧ News g L h' (((l, o) :: X') ++ news) ∧ Hs w P ((l, o) :: X') st news Φ ∧ Iv o vals st Φ
theorem ints_get {vs : List Value} {us : List Int} (h : IntsAre vs us) : ∀ {i : Nat} {v : Value}, vs[i]? = some v → ∃ u t, v = .int u t ∧ us[i]? = some u := by
  induction h with
  | nil => intro i v h; simp at h
  | cons n t _ ih =>
    intro i v h
    cases i with
    | zero => simp at h; exact ⟨n, t, h.symm, rfl⟩
    | succ i => simp at h; obtain ⟨u, t', e, h'⟩ := ih h; exact ⟨u, t', e, by simpa using h'⟩
section
variable {M : Model} {w : World} {A : Around} {E : Value → Shared → Prop} {hp : Heap} {gn : Array GenState} {dr : Drawn} {tk : Nat} {oS : OsState} {g h₀ : Heap} {L a l : Addr} {m : Str → Option Value} {P : Pl} {X news led rest : Led} {σ : Sg} {st : St} {Φ Ent : List Fact} {fname : Str} {scope : Scope} {cd : Value} {ns gs : List Str} {vals vals' : List (Option Value)} {o : Obj}
theorem BdM.next {X' : Led} {Iv : Obj → List (Option Value) → St → List Fact → Prop} {Qr : Flow → Shared → Prop} {Φ' : List Fact} (Φ : List Fact) (F : Fr g L hp (lc ns vals)) (N : News g L hp (((l, o) :: X') ++ news)) (H : Hs w P ((l, o) :: X') st news Φ') (hΦ : ∀ f ∈ Φ, f ∈ Φ') (hI : Iv o vals st Φ) :
    BdM w P g L ns l X' gn dr oS Iv Qr .next ⟨hp, gn, dr, tk, oS⟩ := ⟨hp, tk, o, vals, news, st, Φ, rfl, F, N, H.sub hΦ, hI⟩
theorem Hs.key {o' : Obj} (H : Hs w P ((l, o) :: X) st news Φ) : Hs w P ((l, o') :: X) st news Φ := H.frame fun p hp q hq => by
  rcases List.mem_cons.mp hp with rfl | hp
  · exact H.dj (l, o) (.head _) q hq
  · exact H.dj p (.tail _ hp) q hq
def for_rangeM_S (x : Str) (body : List Stmt) (Qf : Flow → Shared → Prop) (r : Addr) (e : Int) (t u v : Tok) (n : Nat) (Iv : Nat → Obj → List (Option Value) → Mine.St → List Fact → Prop) : Prop := ∀ (hh : A.handled = none) (F : Fr g L hp (lc ns vals)) (N : News g L hp (((l, o) :: X) ++ news)) (H : Hs w P ((l, o) :: X) st news Φ) (hl : ∀ p ∈ X, p.1 ≠ l) (hr : Fact.ent r (rangeOb 0 e t u v) ∈ Φ) (he : -1000000000000 ≤ e ∧ e ≤ 1000000000000) (hn : n = e.toNat) (h0 : Iv 0 o vals st Φ) (turn : ∀ i t h' tk' X' o vals st news Φ, i < n → Iv i o vals st Φ → (∀ p ∈ X, p ∈ X') → (∀ p ∈ X', p.1 ≠ l) → Fr g L h' (fun y => if y = x then some (.int (i : Int) t) else lc ns vals y) → News g L h' (((l, o) :: X') ++ news) → Hs w P ((l, o) :: X') st news Φ →
      wpAny (model PR w) A (execs body (envOf fname scope L a cd)) (BdM w P g L ns l X' gn dr oS (Iv (i + 1)) Qf) E ⟨h', gn, dr, tk', oS⟩) (done : ∀ h' tk' o vals st news Φ, Iv n o vals st Φ → Fr g L h' (lc ns vals) → News g L h' (((l, o) :: X) ++ news) → Hs w P ((l, o) :: X) st news Φ → Qf .next ⟨h', gn, dr, tk', oS⟩), ForIt w A g (envOf fname scope L a cd) x body Qf E (.ref r) ⟨hp, gn, dr, tk, oS⟩
theorem for_rangeM_r : ∀ r : ((((((((((((((((((((((((((((((((World × Around) × (Value → Shared → Prop)) × Heap) × (Array GenState)) × Drawn) × Nat) × OsState) × Heap) × Addr) × Addr) × Addr) × Pl) × Led) × Led) × Mine.St) × (List Fact)) × Str) × Scope) × Value) × (List Str)) × (List (Option Value))) × Obj) × Str) × (List Stmt)) × (Flow → Shared → Prop)) × Addr) × Int) × Tok) × Tok) × Tok) × Nat) × (Nat → Obj → List (Option Value) → Mine.St → List Fact → Prop)), @for_rangeM_S r.1.1.1.1.1.1.1.1.1.1.1.1.1.1.1.1.1.1.1.1.1.1.1.1.1.1.1.1.1.1.1.1 r.1.1.1.1.1.1.1.1.1.1.1.1.1.1.1.1.1.1.1.1.1.1.1.1.1.1.1.1.1.1.1.2 r.1.1.1.1.1.1.1.1.1.1.1.1.1.1.1.1.1.1.1.1.1.1.1.1.1.1.1.1.1.1.2 r.1.1.1.1.1.1.1.1.1.1.1.1.1.1.1.1.1.1.1.1.1.1.1.1.1.1.1.1.1.2 r.1.1.1.1.1.1.1.1.1.1.1.1.1.1.1.1.1.1.1.1.1.1.1.1.1.1.1.1.2 r.1.1.1.1.1.1.1.1.1.1.1.1.1.1.1.1.1.1.1.1.1.1.1.1.1.1.1.2 r.1.1.1.1.1.1.1.1.1.1.1.1.1.1.1.1.1.1.1.1.1.1.1.1.1.1.2 r.1.1.1.1.1.1.1.1.1.1.1.1.1.1.1.1.1.1.1.1.1.1.1.1.1.2 r.1.1.1.1.1.1.1.1.1.1.1.1.1.1.1.1.1.1.1.1.1.1.1.1.2 r.1.1.1.1.1.1.1.1.1.1.1.1.1.1.1.1.1.1.1.1.1.1.1.2 r.1.1.1.1.1.1.1.1.1.1.1.1.1.1.1.1.1.1.1.1.1.1.2 r.1.1.1.1.1.1.1.1.1.1.1.1.1.1.1.1.1.1.1.1.1.2 r.1.1.1.1.1.1.1.1.1.1.1.1.1.1.1.1.1.1.1.1.2 r.1.1.1.1.1.1.1.1.1.1.1.1.1.1.1.1.1.1.1.2 r.1.1.1.1.1.1.1.1.1.1.1.1.1.1.1.1.1.1.2 r.1.1.1.1.1.1.1.1.1.1.1.1.1.1.1.1.1.2 r.1.1.1.1.1.1.1.1.1.1.1.1.1.1.1.1.2 r.1.1.1.1.1.1.1.1.1.1.1.1.1.1.1.2 r.1.1.1.1.1.1.1.1.1.1.1.1.1.1.2 r.1.1.1.1.1.1.1.1.1.1.1.1.1.2 r.1.1.1.1.1.1.1.1.1.1.1.1.2 r.1.1.1.1.1.1.1.1.1.1.1.2 r.1.1.1.1.1.1.1.1.1.1.2 r.1.1.1.1.1.1.1.1.1.2 r.1.1.1.1.1.1.1.1.2 r.1.1.1.1.1.1.1.2 r.1.1.1.1.1.1.2 r.1.1.1.1.1.2 r.1.1.1.1.2 r.1.1.1.2 r.1.1.2 r.1.2 r.2 := by
  refine ep_all (ne := by walk_at "NE") ((?_ : ∀ w A E hp gn dr tk oS g L a l P X news st Φ fname scope cd ns vals o x body Qf r e t u v n Iv, @for_rangeM_S w A E hp gn dr tk oS g L a l P X news st Φ fname scope cd ns vals o x body Qf r e t u v n Iv) _ _ _ _ _ _ _ _ _ _ _ _ _ _ _ _ _ _ _ _ _ _ _ _ _ _ _ _ _ _ _ _ _)
  intro w A E hp gn dr tk oS g L a l P X news st Φ fname scope cd ns vals o x body Qf r e t u v n Iv hh F N H hl hr he hn h0 turn done
  obtain ⟨mem, pool, hI⟩ := H.says hr
  have hR : IsRange hp r 0 e 1 t u v := (N _ (List.mem_append_right _ hI.1)).1
  refine wpAny_pyIter_range hR (small_one (by lia) (by lia) (by lia) (by lia)) ?_
  have hsz : Builtin.Range.rangeSize 0 e 1 = (n : Int) := by rw [rangeSize_one]; split <;> lia
  obtain ⟨F1, N1, hnew, hoff, hL⟩ := iterFrame (o := { cls := .type "range_iterator", data := .fields #[rawInt 0, rawInt (Builtin.Range.rangeSize 0 e 1), rawInt 1] }) (by with_unfolding_all rfl) F N
  have W : Walks PR w A hp.objs.size [hp.objs.size] [hp.objs.size] n _ _ := Walks.range hh _ 0 1 n
  have hlI : l ≠ hp.objs.size := hoff (l, o) (.head _)
  refine ⟨hp.objs.size, [hp.objs.size], [hp.objs.size], n, _, _, lc ns vals, ((l, o) :: X) ++ news, (fun i m' led => ∃ o vals news st Φ, m' = lc ns vals ∧ led = ((l, o) :: X) ++ news ∧ Hs w P ((l, o) :: X) st news Φ ∧ Iv i o vals st Φ), rfl, W, ?_, ?_, ?_, ?_, F1, N1, ⟨o, vals, news, st, Φ, rfl, rfl, H, h0⟩, ?_, ?_⟩
  · intro hm; exact hL (List.mem_singleton.mp hm)
  · intro b hb; rw [List.mem_singleton.mp hb]; exact hnew
  · intro p hp hb; exact hoff p hp (List.mem_singleton.mp hb)
  · show IsRangeIter _ _ _ _ _
    rw [hsz]; simpa using Heap.get?_push_size _ rfl
  · rintro i v m₁ news₁ s₁ own ⟨h1, tk1, rfl⟩ hin hP ⟨o, vals, news, st, Φ, rfl, rfl, H, hIv⟩ hoff1 hown hget hall hst1 F1 N1
    obtain ⟨t', rfl⟩ := hP
    have e1 : (0 : Int) + (i : Int) * 1 = (i : Int) := by lia
    rw [e1] at F1
    have mI := hall hp.objs.size (.head _) hnew _ hst1
    have oI : ∀ p ∈ own, p.1 = hp.objs.size := fun p hp' => List.mem_singleton.mp (hown p hp')
    have N2 : News g L h1 (((l, o) :: (own ++ X)) ++ news) := news_sub N1 fun p hp => by
      simp only [List.cons_append, List.mem_cons, List.mem_append] at hp ⊢
      rcases hp with h | (h | h) | h
      · exact .inr (.inl h)
      · exact .inl h
      · exact .inr (.inr (.inl h))
      · exact .inr (.inr (.inr h))
    have H2 : Hs w P ((l, o) :: (own ++ X)) st news Φ := H.frame fun p hp q hq => by
      rcases List.mem_cons.mp hp with rfl | hp
      · exact H.dj (l, o) (.head _) q hq
      rcases List.mem_append.mp hp with hp | hp
      · rw [oI p hp]
        exact fun e => hoff1 q (.tail _ (List.mem_append_right _ hq)) (List.mem_singleton.mpr e.symm)
      · exact H.dj p (.tail _ hp) q hq
    refine wpAny_mono (turn i t' h1 tk1 (own ++ X) o vals st news Φ hin hIv (fun p hp => List.mem_append_right _ hp) (fun p hp => ?_) F1 N2 H2) (fun f s₂ hf => ?_) fun _ _ e => e
    · rcases List.mem_append.mp hp with hp | hp
      · rw [oI p hp]; exact fun e => hlI e.symm
      · exact hl p hp
    have fin : (∃ h' tk' o vals news st Φ, s₂ = ⟨h', gn, dr, tk', oS⟩ ∧ Fr g L h' (lc ns vals) ∧ News g L h' (((l, o) :: (own ++ X)) ++ news) ∧ Hs w P ((l, o) :: (own ++ X)) st news Φ ∧ Iv (i + 1) o vals st Φ) →
        LoopStepU g L [hp.objs.size] own (fun m' led => ∃ o vals news st Φ, m' = lc ns vals ∧ led = ((l, o) :: X) ++ news ∧ Hs w P ((l, o) :: X) st news Φ ∧ Iv (i + 1) o vals st Φ) ⟨h1, gn, dr, tk1, oS⟩ .next s₂ := by
      rintro ⟨h', tk', o', vals', news', st', Φ', rfl, F', N', H', hIv'⟩
      refine ⟨rfl, h', tk', lc ns vals', ((l, o') :: X) ++ news', rfl, F', ?_, ?_, o', vals', news', st', Φ', rfl, rfl, H'.frame fun p hp q hq => ?_, hIv'⟩
      · exact news_sub N' fun p hp => by
          simp only [List.cons_append, List.mem_cons, List.mem_append] at hp ⊢
          rcases hp with h | h | h | h
          · exact .inr (.inl (.inl h))
          · exact .inl h
          · exact .inr (.inl (.inr h))
          · exact .inr (.inr h)
      · intro p hp hb
        have e := List.mem_singleton.mp hb
        rcases List.mem_cons.mp hp with rfl | hp
        · exact hlI e
        rcases List.mem_append.mp hp with hp | hp
        · exact hoff1 p (.tail _ (List.mem_append_left _ hp)) hb
        · exact H'.dj _ (.tail _ (List.mem_append_left _ mI)) p hp e.symm
      · rcases List.mem_cons.mp hp with rfl | hp
        · exact H'.dj (l, o') (.head _) q hq
        · exact H'.dj p (.tail _ (List.mem_append_right _ hp)) q hq
    cases f with
    | ret v => exact .ret hf
    | brk => exact .brk hf
    | next => exact .next (fin hf)
    | cont => exact .cont (fin hf)
  · rintro h' tk' m' news' F' N' _ ⟨o, vals, news, st, Φ, rfl, rfl, H, hIv⟩
    exact done h' tk' o vals st news Φ hIv F' N' H
theorem for_rangeM {x : Str} {body : List Stmt} {Qf : Flow → Shared → Prop} {r : Addr} {e : Int} {t u v : Tok} (n : Nat) (hh : A.handled = none) (F : Fr g L hp (lc ns vals)) (N : News g L hp (((l, o) :: X) ++ news)) (H : Hs w P ((l, o) :: X) st news Φ) (hl : ∀ p ∈ X, p.1 ≠ l) (hr : Fact.ent r (rangeOb 0 e t u v) ∈ Φ)
    (he : -1000000000000 ≤ e ∧ e ≤ 1000000000000) (hn : n = e.toNat)
    (Iv : Nat → Obj → List (Option Value) → St → List Fact → Prop) (h0 : Iv 0 o vals st Φ)
    (turn : ∀ i t h' tk' X' o vals st news Φ, i < n → Iv i o vals st Φ → (∀ p ∈ X, p ∈ X') → (∀ p ∈ X', p.1 ≠ l) → Fr g L h' (fun y => if y = x then some (.int (i : Int) t) else lc ns vals y) → News g L h' (((l, o) :: X') ++ news) → Hs w P ((l, o) :: X') st news Φ →
      wpAny (model PR w) A (execs body (envOf fname scope L a cd)) (BdM w P g L ns l X' gn dr oS (Iv (i + 1)) Qf) E ⟨h', gn, dr, tk', oS⟩)
    (done : ∀ h' tk' o vals st news Φ, Iv n o vals st Φ → Fr g L h' (lc ns vals) → News g L h' (((l, o) :: X) ++ news) → Hs w P ((l, o) :: X) st news Φ → Qf .next ⟨h', gn, dr, tk', oS⟩) :
    ForIt w A g (envOf fname scope L a cd) x body Qf E (.ref r) ⟨hp, gn, dr, tk, oS⟩ := for_rangeM_r ((((((((((((((((((((((((((((((((w, A), E), hp), gn), dr), tk), oS), g), L), a), l), P), X), news), st), Φ), fname), scope), cd), ns), vals), o), x), body), Qf), r), e), t), u), v), n), Iv) hh F N H hl hr he hn h0 turn done

theorem newList_M {vs : List Value} {Q : Value → Shared → Prop} (F : Fr h₀ L hp m) (N : News h₀ L hp (X ++ news)) (H : Hs w P X st news Φ) (hz : vs.length ≤ 1000)
    (h : ∀ l h', Fr h₀ L h' m → News h₀ L h' (((l, listOf vs.toArray 0) :: X) ++ news) → Hs w P ((l, listOf vs.toArray 0) :: X) st news Φ → (∀ p ∈ X, p.1 ≠ l) → Q (.ref l) ⟨h', gn, dr, tk, oS⟩) : wpAny M A (newList vs) Q E ⟨hp, gn, dr, tk, oS⟩ :=
  newList_X F N hz fun l h' F' N' hl => h l h' F' N' (H.frame fun p hp q hq => by
    rcases List.mem_cons.mp hp with rfl | hp
    · exact fun e => hl q (List.mem_append_right _ hq) e.symm
    · exact H.dj p hp q hq) fun p hp => hl p (List.mem_append_left _ hp)
theorem gm_appendM {k : Nat} {its : Array Value} {Q : Value → List Value → Shared → Prop} (N : News h₀ L hp (((l, listOf its k) :: X) ++ news)) (h : Q (.builtin "list.append") [.ref l] ⟨hp, gn, dr, tk, oS⟩) :
    GM (model PR w) A (.ref l) "append" Q E ⟨hp, gn, dr, tk, oS⟩ := fun _ => kl_method N (.head _) PySem.F.slot_list_append PySem.F.type_list_append h
theorem appendM {k : Nat} {vs : List Value} {v : Value} {Q : Value → Shared → Prop} (F : Fr h₀ L hp m) (N : News h₀ L hp (((l, listOf vs.toArray k) :: X) ++ news)) (H : Hs w P ((l, listOf vs.toArray k) :: X) st news Φ) (hl : ∀ p ∈ X, p.1 ≠ l) (hz : vs.length ≤ 1000)
    (h : ∀ h', Fr h₀ L h' m → News h₀ L h' (((l, listOf (vs ++ [v]).toArray (k + 1)) :: X) ++ news) → Hs w P ((l, listOf (vs ++ [v]).toArray (k + 1)) :: X) st news Φ → Q .none ⟨h', gn, dr, tk, oS⟩) :
    wpAny (model PR w) A (call (.builtin "list.append") [.ref l, v]) Q E ⟨hp, gn, dr, tk, oS⟩ := by
  have hsz : vs.toArray.size ≤ sizeLine := by rw [sizeLine_eq, List.size_toArray]; lia
  refine append_K (its := vs.toArray) (n := k) (news := (l, listOf vs.toArray k) :: (X ++ news)) (news' := (l, listOf (vs ++ [v]).toArray (k + 1)) :: (X ++ news)) F N ?_ (fun h' F' N' => h h' F' N' H.key) hsz
  rw [show (vs ++ [v]).toArray = vs.toArray.push v by simp]
  exact Upd.head fun p hp => by
    rcases List.mem_append.mp hp with hp | hp
    · exact hl p hp
    · exact fun e => H.dj (l, _) (.head _) p hp e.symm
theorem tu_pick {value slice : Expr} {y : Addr} {vs : List Value} {us : List Int} {k : Int} {u : Tok} {Q : Value → Shared → Prop} (N : News h₀ L hp (X ++ news)) (H : Hs w P X st news Φ) (hm : Fact.tu y vs ∈ Φ) (hu : IntsAre vs us) (h0 : 0 ≤ k) (h1 : k < us.length) (hz : us.length ≤ 1000) (h : ∀ i t, i ∈ us → Q (.int i t) ⟨hp, gn, dr, tk, oS⟩)
    (hs : subscripted slice false (.ref y) (.int k u) = operate [.ref y, .int k u] (getItem (.ref y) (.int k u))) : wpAny (model PR w) A (subscriptTail value slice (.ref y) (.int k u)) Q E ⟨hp, gn, dr, tk, oS⟩ := by
  obtain ⟨mem, pool, I⟩ := H.says hm
  have hl := hu.length
  have hk : vs[k.toNat]? = some (vs[k.toNat]'(by lia)) := List.getElem?_eq_getElem _
  obtain ⟨i, t, e, hi⟩ := ints_get hu hk
  rw [e] at hk
  exact item_tupleT (k := k) (j := k.toNat) (Im.isTup N I) (by lia) (by lia) (by unfold seqIndex?; simp; lia) hk (h i t (List.mem_of_getElem? hi)) hs
theorem o_pow7 {b : Int} {t u : Tok} {Q : Value → Shared → Prop} (h0 : 0 ≤ b) (h1 : b ≤ 4) (h : ∀ r, 0 < r → r < 1073741824 → Q (.int r tk) ⟨hp, gn, dr, tk + 1, oS⟩) : wpAny (model PR w) A (binaryOp .Pow (.int 7 t) (.int b u)) Q E ⟨hp, gn, dr, tk, oS⟩ := by
  refine pow_int_small h0 (by lia) (by decide) (h _ ?_ ?_)
  all_goals
    have e : b.toNat = 0 ∨ b.toNat = 1 ∨ b.toNat = 2 ∨ b.toNat = 3 ∨ b.toNat = 4 := by lia
    rcases e with e | e | e | e | e <;> rw [e] <;> decide
end
end Mine
end B20_
section B21_
namespace Mine
def BdT (w : World) (P : Pl) (g : Heap) (L : Addr) (ns : List Str) (X' : Led) (Ent : List Fact) (gn : Array GenState) (dr : Drawn) (oS : OsState) (Iv : List (Option Value) → St → List Fact → Prop) (f : Flow) (s' : Shared) : Prop :=
  f = .next ∧ ∃ h' tk' vals news st Φ, s' = ⟨h', gn, dr, tk', oS⟩ ∧ Fr g L h' (lc ns vals) ∧ News g L h' (X' ++ news) ∧ Hs w P X' st news (Ent ++ Φ) ∧ Iv vals st Φ
section
variable {M : Model} {w : World} {A : Around} {E : Value → Shared → Prop} {hp : Heap} {gn : Array GenState} {dr : Drawn} {tk : Nat} {oS : OsState} {g h₀ : Heap} {L a l : Addr} {m : Str → Option Value} {P : Pl} {X news led rest : Led} {σ : Sg} {st : St} {Φ Ent : List Fact} {fname : Str} {scope : Scope} {cd : Value} {ns gs : List Str} {vals vals' : List (Option Value)} {o : Obj}
def ForItT (w : World) (A : Around) (g : Heap) (env : Env) (target : Expr) (body : List Stmt) (Q : Flow → Shared → Prop) (E : Value → Shared → Prop) (xv : Value) (s : Shared) : Prop :=
  wpAny (model PR w) A (pyIter xv) (fun it s₂ => LoopAtT PR w A g env target body Q E it s₂) E s
theorem x_forT {elts : List Expr} {c} {px pos : Pos} {iter : Expr} {body rest : List Stmt} {s : Shared} {Q : Flow → Shared → Prop} (F : Fr g L s.heap m)
    (h : wpAny (model PR w) A (eval iter (envOf fname scope L a cd)) (fun xv s₁ => ForItT w A g (envOf fname scope L a cd) (.Tuple elts c px) body (Thn (model PR w) A (envOf fname scope L a cd) rest Q (fun _ _ => False)) (fun _ _ => False) xv s₁) (fun _ _ => False) s)
    (hs : ∀ x, foldedSetIterable iter (envOf fname scope L a cd) x = pure x) : wpAny (model PR w) A (execs (.For (.Tuple elts c px) iter body [] pos :: rest) (envOf fname scope L a cd)) Q (fun _ _ => False) s :=
  x_cons (For_invT g h hs)
def for_tupT_S (target : PySem.Expr) (body : List Stmt) (Qf : Flow → Shared → Prop) (l : Addr) (vs : List Value) (Iv : Nat → List (Option Value) → Mine.St → List Fact → Prop) : Prop := ∀ (hh : A.handled = none) (F : Fr g L hp (lc ns vals)) (N : News g L hp (X ++ news)) (H : Hs w P X st news Φ) (hl : Fact.tu l vs ∈ Φ) (h0 : Iv 0 vals st Φ) (turn : ∀ gn dr oS i v h' tk' X' vals st news Φ, i < vs.length → vs[i]? = some v → Iv i vals st Φ → (∀ p ∈ X, p ∈ X') → Fr g L h' (lc ns vals) → News g L h' (X' ++ news) → Hs w P X' st news (.ent l (tupOf vs) :: Φ) →
      wpAny (model PR w) A (assign target (envOf fname scope L a cd) v) (fun _ s₃ => wpAny (model PR w) A (execs body (envOf fname scope L a cd)) (BdT w P g L ns X' [.ent l (tupOf vs)] gn dr oS (Iv (i + 1))) E s₃) E ⟨h', gn, dr, tk', oS⟩) (done : ∀ h' tk' vals st news Φ, Iv vs.length vals st Φ → Fr g L h' (lc ns vals) → News g L h' (X ++ news) → Hs w P X st news (.ent l (tupOf vs) :: Φ) → Qf .next ⟨h', gn, dr, tk', oS⟩), ForItT w A g (envOf fname scope L a cd) target body Qf E (.ref l) ⟨hp, gn, dr, tk, oS⟩
theorem for_tupT_r : ∀ r : ((((((((((((((((((((((((((World × Around) × (Value → Shared → Prop)) × Heap) × (Array GenState)) × Drawn) × Nat) × OsState) × Heap) × Addr) × Addr) × Pl) × Led) × Led) × Mine.St) × (List Fact)) × Str) × Scope) × Value) × (List Str)) × (List (Option Value))) × PySem.Expr) × (List Stmt)) × (Flow → Shared → Prop)) × Addr) × (List Value)) × (Nat → List (Option Value) → Mine.St → List Fact → Prop)), @for_tupT_S r.1.1.1.1.1.1.1.1.1.1.1.1.1.1.1.1.1.1.1.1.1.1.1.1.1.1 r.1.1.1.1.1.1.1.1.1.1.1.1.1.1.1.1.1.1.1.1.1.1.1.1.1.2 r.1.1.1.1.1.1.1.1.1.1.1.1.1.1.1.1.1.1.1.1.1.1.1.1.2 r.1.1.1.1.1.1.1.1.1.1.1.1.1.1.1.1.1.1.1.1.1.1.1.2 r.1.1.1.1.1.1.1.1.1.1.1.1.1.1.1.1.1.1.1.1.1.1.2 r.1.1.1.1.1.1.1.1.1.1.1.1.1.1.1.1.1.1.1.1.1.2 r.1.1.1.1.1.1.1.1.1.1.1.1.1.1.1.1.1.1.1.1.2 r.1.1.1.1.1.1.1.1.1.1.1.1.1.1.1.1.1.1.1.2 r.1.1.1.1.1.1.1.1.1.1.1.1.1.1.1.1.1.1.2 r.1.1.1.1.1.1.1.1.1.1.1.1.1.1.1.1.1.2 r.1.1.1.1.1.1.1.1.1.1.1.1.1.1.1.1.2 r.1.1.1.1.1.1.1.1.1.1.1.1.1.1.1.2 r.1.1.1.1.1.1.1.1.1.1.1.1.1.1.2 r.1.1.1.1.1.1.1.1.1.1.1.1.1.2 r.1.1.1.1.1.1.1.1.1.1.1.1.2 r.1.1.1.1.1.1.1.1.1.1.1.2 r.1.1.1.1.1.1.1.1.1.1.2 r.1.1.1.1.1.1.1.1.1.2 r.1.1.1.1.1.1.1.1.2 r.1.1.1.1.1.1.1.2 r.1.1.1.1.1.1.2 r.1.1.1.1.1.2 r.1.1.1.1.2 r.1.1.1.2 r.1.1.2 r.1.2 r.2 := by
  refine ep_all (ne := by walk_at "NE") ((?_ : ∀ w A E hp gn dr tk oS g L a P X news st Φ fname scope cd ns vals target body Qf l vs Iv, @for_tupT_S w A E hp gn dr tk oS g L a P X news st Φ fname scope cd ns vals target body Qf l vs Iv) _ _ _ _ _ _ _ _ _ _ _ _ _ _ _ _ _ _ _ _ _ _ _ _ _ _ _)
  intro w A E hp gn dr tk oS g L a P X news st Φ fname scope cd ns vals target body Qf l vs Iv hh F N H hl h0 turn done
  obtain ⟨mem, pool, hI⟩ := H.says hl
  have ht : hp.IsTuple l vs.toArray := ⟨_, (N _ (List.mem_append_right _ hI.1)).1, rfl, 0, rfl⟩
  refine wpAny_pyIter_tuple ht ?_
  obtain ⟨F1, N1, hnew, hoff, hL⟩ := iterFrame (o := { cls := .type "tuple_iterator", data := .fields #[.ref l, .int 0 0] }) (by with_unfolding_all rfl) F N
  have hne : l ≠ hp.objs.size := hoff _ (List.mem_append_right _ hI.1)
  have H1 : Hs w P X st news (.ent l (tupOf vs) :: Φ) := H.add fun mem pool Fc => (Fc _ hl : Im P news l (tupOf vs))
  have hLl : L ≠ l := fun e => absurd (N _ (List.mem_append_right _ hI.1)).2.1 (by simp [e])
  have W := Walks.tuple (prog := PR) (w := w) hh hp.objs.size l hne vs.toArray
  rw [show vs.toArray.size = vs.length by simp] at W
  refine ⟨hp.objs.size, _, _, vs.length, _, _, lc ns vals, X ++ news, (fun i m' led => ∃ vals news st Φ, m' = lc ns vals ∧ led = X ++ news ∧ Hs w P X st news (.ent l (tupOf vs) :: Φ) ∧ Iv i vals st Φ), rfl, W, ?_, ?_, ?_, ⟨⟨_, Heap.get?_push_size _ rfl, rfl, rfl⟩, ht.push _⟩, F1, N1, ?_, ⟨vals, news, st, Φ, rfl, rfl, H1, h0⟩, ?_, ?_⟩
  · intro hm
    simp only [List.mem_cons, List.not_mem_nil, or_false] at hm
    rcases hm with e | e
    · exact hL e
    · exact hLl e
  · intro b hb; rw [List.mem_singleton.mp hb]; exact hnew
  · intro p hp hb; exact hoff p hp (List.mem_singleton.mp hb)
  · intro i s' v Q' st hQ'
    exact letGo_tupleiter st.1 hQ'
  · rintro i v m₁ news₁ ⟨h1, gn1, dr1, tk1, oS1⟩ own hin hP ⟨vals, news, st, Φ, rfl, rfl, H, hIv⟩ hoff1 hown hget hall hst1 F1 N1
    obtain ⟨oI, hoI, -⟩ := hst1.1
    have mI := hall hp.objs.size (W.sub _ (.head _)) hnew oI hoI
    let O := own.filter fun p => decide (p.1 = hp.objs.size)
    have mO : ∀ p, p ∈ O ↔ p ∈ own ∧ p.1 = hp.objs.size := fun p => by simp [O]
    have N2 : News g L h1 ((O ++ X) ++ news) := news_sub N1 fun p hp => by
      rcases List.mem_append.mp hp with hp | hp
      · rcases List.mem_append.mp hp with hp | hp
        · exact List.mem_append_left _ ((mO p).mp hp).1
        · exact List.mem_append_right _ (List.mem_append_left _ hp)
      · exact List.mem_append_right _ (List.mem_append_right _ hp)
    have H2 : Hs w P (O ++ X) st news (.ent l (tupOf vs) :: Φ) := H.frame fun p hp q hq => by
      rcases List.mem_append.mp hp with hp | hp
      · rw [((mO p).mp hp).2]
        exact fun e => hoff1 q (List.mem_append_right _ hq) (List.mem_singleton.mpr e.symm)
      · exact H.dj p hp q hq
    refine wpAny_mono (turn gn1 dr1 oS1 i v h1 tk1 (O ++ X) vals st news Φ hin (by simpa using hP) hIv (fun p hp => List.mem_append_right _ hp) F1 N2 H2) (fun _ s₃ h3 => wpAny_mono h3 (fun f s₂ hf => ?_) fun _ _ e => e) fun _ _ e => e
    have fin : (∃ h' tk' vals news st Φ, s₂ = ⟨h', gn1, dr1, tk', oS1⟩ ∧ Fr g L h' (lc ns vals) ∧ News g L h' ((O ++ X) ++ news) ∧ Hs w P (O ++ X) st news (.ent l (tupOf vs) :: Φ) ∧ Iv (i + 1) vals st Φ) →
        LoopStepU g L [hp.objs.size] own (fun m' led => ∃ vals news st Φ, m' = lc ns vals ∧ led = X ++ news ∧ Hs w P X st news (.ent l (tupOf vs) :: Φ) ∧ Iv (i + 1) vals st Φ) ⟨h1, gn1, dr1, tk1, oS1⟩ .next s₂ := by
      rintro ⟨h', tk', vals', news', st', Φ', rfl, F', N', H', hIv'⟩
      refine ⟨rfl, h', tk', lc ns vals', X ++ news', rfl, F', ?_, ?_, vals', news', st', Φ', rfl, rfl, H'.frame fun p hm q hq => H'.dj p (List.mem_append_right _ hm) q hq, hIv'⟩
      · intro p hm
        rcases List.mem_append.mp hm with hm | hm
        · by_cases e : p.1 = hp.objs.size
          · exact N' p (List.mem_append_left _ (List.mem_append_left _ ((mO p).mpr ⟨hm, e⟩)))
          · have hq := hown p hm
            simp only [List.mem_cons, List.not_mem_nil, or_false] at hq
            rcases hq with hq | hq
            · exact absurd hq e
            · obtain ⟨_, _, i1⟩ := H.says (.head _)
              obtain ⟨_, _, i2⟩ := H'.says (.head _)
              have : p = (l, tupOf vs) := by
                have e2 : p.2 = tupOf vs := news_fun N1 (a := p.1) (List.mem_append_left _ hm) (by rw [hq]; exact List.mem_append_right _ (List.mem_append_right _ i1.1))
                exact Prod.ext hq e2
              rw [this]
              exact N' _ (List.mem_append_right _ i2.1)
        · rcases List.mem_append.mp hm with hm | hm
          · exact N' p (List.mem_append_left _ (List.mem_append_right _ hm))
          · exact N' p (List.mem_append_right _ hm)
      · intro p hm hb
        have e := List.mem_singleton.mp hb
        rcases List.mem_append.mp hm with hm | hm
        · exact hoff1 p (List.mem_append_left _ hm) hb
        · exact H'.dj _ (List.mem_append_left _ ((mO _).mpr ⟨mI, rfl⟩)) p hm e.symm
    obtain ⟨rfl, hf⟩ := hf
    exact fin hf
  · rintro h' tk' m' news' F' N' _ ⟨vals, news, st, Φ, rfl, rfl, H, hIv⟩
    exact done h' tk' vals st news Φ hIv F' N' H
theorem for_tupT {target : Expr} {body : List Stmt} {Qf : Flow → Shared → Prop} {l : Addr} {vs : List Value} (hh : A.handled = none) (F : Fr g L hp (lc ns vals)) (N : News g L hp (X ++ news)) (H : Hs w P X st news Φ) (hl : Fact.tu l vs ∈ Φ)
    (Iv : Nat → List (Option Value) → St → List Fact → Prop) (h0 : Iv 0 vals st Φ)
    (turn : ∀ gn dr oS i v h' tk' X' vals st news Φ, i < vs.length → vs[i]? = some v → Iv i vals st Φ → (∀ p ∈ X, p ∈ X') → Fr g L h' (lc ns vals) → News g L h' (X' ++ news) → Hs w P X' st news (.ent l (tupOf vs) :: Φ) →
      wpAny (model PR w) A (assign target (envOf fname scope L a cd) v) (fun _ s₃ => wpAny (model PR w) A (execs body (envOf fname scope L a cd)) (BdT w P g L ns X' [.ent l (tupOf vs)] gn dr oS (Iv (i + 1))) E s₃) E ⟨h', gn, dr, tk', oS⟩)
    (done : ∀ h' tk' vals st news Φ, Iv vs.length vals st Φ → Fr g L h' (lc ns vals) → News g L h' (X ++ news) → Hs w P X st news (.ent l (tupOf vs) :: Φ) → Qf .next ⟨h', gn, dr, tk', oS⟩) :
    ForItT w A g (envOf fname scope L a cd) target body Qf E (.ref l) ⟨hp, gn, dr, tk, oS⟩ := for_tupT_r ((((((((((((((((((((((((((w, A), E), hp), gn), dr), tk), oS), g), L), a), P), X), news), st), Φ), fname), scope), cd), ns), vals), target), body), Qf), l), vs), Iv) hh F N H hl h0 turn done

theorem BdT.next {X' : Led} {Iv : List (Option Value) → St → List Fact → Prop} {Φ' : List Fact} (Φ : List Fact) (F : Fr g L hp (lc ns vals)) (N : News g L hp (X' ++ news)) (H : Hs w P X' st news Φ') (hΦ : ∀ f ∈ Ent ++ Φ, f ∈ Φ') (hI : Iv vals st Φ) :
    BdT w P g L ns X' Ent gn dr oS Iv .next ⟨hp, gn, dr, tk, oS⟩ := ⟨rfl, hp, tk, vals, news, st, Φ, rfl, F, N, H.sub hΦ, hI⟩
theorem asg4 {x1 x2 x3 x4 : Str} {p1 p2 p3 p4 pos : Pos} {k} {env : Env} {t : Addr} {v1 v2 v3 v4 : Value} {Q : Unit → Shared → Prop} (hh : A.handled = none) (F : Fr g L hp m) (N : News g L hp (X ++ news)) (H : Hs w P X st news Φ) (hm : Fact.tu t [v1, v2, v3, v4] ∈ Φ)
    (h : ∀ h', Fr g L h' m → News g L h' (X ++ news) → wpAny (model PR w) A (storeName env x1 v1) (fun _ s₁ => wpAny (model PR w) A (storeName env x2 v2) (fun _ s₂ => wpAny (model PR w) A (storeName env x3 v3) (fun _ s₃ => wpAny (model PR w) A (storeName env x4 v4) Q E s₃) E s₂) E s₁) E ⟨h', gn, dr, tk, oS⟩) :
    wpAny (model PR w) A (assign (.Tuple [.Name x1 p1, .Name x2 p2, .Name x3 p3, .Name x4 p4] k pos) env (.ref t)) Q E ⟨hp, gn, dr, tk, oS⟩ := by
  obtain ⟨mem, pool, I⟩ := H.says hm
  refine unpackN_ F N (Im.isTup N I) hh rfl rfl fun h' F' N' => ?_
  refine assignInOrder_cons (PySem.wpAny_assign_Name ?_)
  refine wpAny_mono (h h' F' N') (fun _ s₁ h1 => ?_) fun _ _ e => e
  refine assignInOrder_cons (PySem.wpAny_assign_Name ?_)
  refine wpAny_mono h1 (fun _ s₂ h2 => ?_) fun _ _ e => e
  refine assignInOrder_cons (PySem.wpAny_assign_Name ?_)
  refine wpAny_mono h2 (fun _ s₃ h3 => ?_) fun _ _ e => e
  refine assignInOrder_cons (PySem.wpAny_assign_Name ?_)
  exact wpAny_mono h3 (fun _ s₄ h4 => assignInOrder_nil h4) fun _ _ e => e
theorem adopt_ls {vs : List Value} {k : Nat} (N : News g L hp (((l, listOf vs.toArray k) :: X) ++ news)) (H : Hs w P ((l, listOf vs.toArray k) :: X) st news Φ) (hl : ∀ p ∈ X, p.1 ≠ l) :
    News g L hp (X ++ ((l, listOf vs.toArray k) :: news)) ∧ Hs w P X st ((l, listOf vs.toArray k) :: news) (.ls l vs :: Φ) := by
  refine ⟨past_X N, ?_⟩
  obtain ⟨σ, mem, pool, R, I, T, Fc⟩ := H
  obtain ⟨R', hm⟩ := R.adopt hl
  exact ⟨σ, mem, pool, R', I.mono .cons, T.mono .cons, fun f hf => by
    rcases List.mem_cons.mp hf with rfl | hf
    · exact ⟨k, .head _, hm⟩
    · exact Fact.mono .cons (Fc f hf)⟩
theorem h_tabH {expr : Bool} {Q : Value → Shared → Prop} (F : Fr h₀ L hp m) (X₀ : (hd.heap_1 w.params).In h₀) (N : News h₀ L hp (X ++ news)) (H : Hs w P X st news Φ)
    (h : Q (.ref (P.adr .tab)) ⟨hp, gn, dr, tk + 1, oS⟩) : wpAny (model PR w) A (getAttr (.ref P.h) "at" expr) Q E ⟨hp, gn, dr, tk, oS⟩ := let ⟨_, _, _, R, _⟩ := H; h_tab F X₀ N R h
theorem tab_itemH {value slice : Expr} {t : Addr} {n : Nat} {x : Str} {u : Tok} {Q : Value → Shared → Prop} (N : News h₀ L hp (X ++ news)) (H : Hs w P X st news Φ) (hm : Fact.tv t n (some x) ∈ Φ)
    (h : ∀ th sl tp t1 t2 t3 t4 k, Inst P news th 96 [("addr", .int (ad n) t1), ("kind", .int 13 t2), ("slots", .ref sl)] [] → Hs w P X st news (.ent sl (listOf #[.ref tp] k) :: .ent tp (tupOf [.int 8 t3, .str x t4]) :: Φ) → Q (.ref th) ⟨hp, gn, dr, tk + 1, oS⟩)
    (hs : subscripted slice false (.ref (P.adr .tab)) (.int (ad n) u) = operate [.ref (P.adr .tab), .int (ad n) u] (getItem (.ref (P.adr .tab)) (.int (ad n) u))) :
    wpAny (model PR w) A (subscriptTail value slice (.ref (P.adr .tab)) (.int (ad n) u)) Q E ⟨hp, gn, dr, tk, oS⟩ := by
  obtain ⟨σ, mem, pool, R, I, T, Fc⟩ := H
  obtain ⟨i, rfl, hi⟩ := Tv.some (Fc _ hm)
  obtain ⟨th, hv, t1, t2, sl, tp, t3, t4, k, a1, a2, a3⟩ := I.tab i x hi
  have H1 : Hs w P X st news (.ent sl (listOf #[.ref tp] k) :: .ent tp (tupOf [.int 8 t3, .str x t4]) :: Φ) := ⟨σ, mem, pool, R, I, T, List.forall_mem_cons.mpr ⟨a2, List.forall_mem_cons.mpr ⟨a3, Fc⟩⟩⟩
  rw [← ad_succ] at hv a1
  obtain ⟨o, ho, hd⟩ := R.mu .tab
  have hD := kda_dict (s := ⟨hp, gn, dr, tk, oS⟩) N (List.mem_append_right _ ho) hd
  exact tail_any hD.typeIs slot_dict_getitem.lookup (wpAny_getItem_of (intKind_is _ _ _ _) hD.mapOf hv (h th sl tp t1 t2 t3 t4 k a1 H1)) hs
theorem c_eqSl {sl tp y z : Addr} {k : Nat} {x : Str} {t3 t4 t5 t6 : Tok} {Q : Value → Shared → Prop} (O : Ok w A h₀ L 9) (N : News h₀ L hp (X ++ news)) (H : Hs w P X st news Φ) (e1 : Fact.ent sl (listOf #[.ref tp] k) ∈ Φ) (e2 : Fact.ent tp (tupOf [.int 8 t3, .str x t4]) ∈ Φ)
    (hy : Fact.ls y [.ref z] ∈ Φ) (hz : Fact.tu z [.int 8 t5, .str x t6] ∈ Φ) (hx : PyData.strOk x = true) (h : Q (.bool true) ⟨hp, gn, dr, tk, oS⟩) : wpAny (model PR w) A (compareOp .Eq (.ref sl) (.ref y)) Q E ⟨hp, gn, dr, tk, oS⟩ := by
  obtain ⟨_, _, i1⟩ := H.says e1
  obtain ⟨_, _, i2⟩ := H.says e2
  obtain ⟨_, _, k', j1⟩ := H.says hy
  obtain ⟨_, _, j2⟩ := H.says hz
  have s1 : SeqAt.shaped (.list [.tuple [.int 8, .str x]]) = true := by
    unfold SeqAt.shaped
    simp [PyData.canLay0, PyData.canLayAll0, PyData.depth, PyData.depthAll, hx]
  have r1 : Reads hp (.ref sl) (.list [.tuple [.int 8, .str x]]) [sl] := reads_list_at (N _ (List.mem_append_right _ i1.1)).1 rfl rfl (.cons (reads_tuple_at (N _ (List.mem_append_right _ i2.1)).1 rfl rfl (.cons (.int _ _) (.cons (.str _ _) .nil))) .nil)
  have r2 : Reads hp (.ref y) (.list [.tuple [.int 8, .str x]]) [y] := reads_list_at (N _ (List.mem_append_right _ j1.1)).1 rfl rfl (.cons (reads_tuple_at (N _ (List.mem_append_right _ j2.1)).1 rfl rfl (.cons (.int _ _) (.cons (.str _ _) .nil))) .nil)
  exact eq_dataH r1 r2 s1 s1 (by have := O.units; show _ < 9900; lia) (by rw [SeqAt.eqv_refl _ (by simp [PyData.canLay0, PyData.canLayAll0, hx])]; exact h)
end
end Mine
end B21_
section S11_
namespace Mine

section
variable {w : World} {A : Around} {h₀ : Heap} {L : Addr} {m : Str → Option Value} {hp : Heap} {gn : Array GenState} {dr : Drawn} {tk : Nat} {oS : OsState} {P : Pl} {X news led : Led} {st : St} {σ : Sg} {Φ : List Fact} {Q E : Value → Shared → Prop}

theorem orderS {a b : Addr} {na nb : Nat} {x y : Str} (O : Ok w A h₀ L 18) (F : Fr h₀ L hp m) (N : News h₀ L hp (X ++ news)) (H : Hs w P X st news Φ) (ha : Fact.tv a na (some x) ∈ Φ) (hb : Fact.tv b nb (some y) ∈ Φ)
    (hret : ∀ t' news' h' tk', Fr h₀ L h' m → News h₀ L h' (X ++ news') → Hs w P X st news' Φ → Q (.int (cmpS x.cps.toList y.cps.toList) t') ⟨h', gn, dr, tk', oS⟩) :
    wpAny (model PR w) A (call (.ref 851) [.ref P.w, .ref a, .ref b]) Q E ⟨hp, gn, dr, tk, oS⟩ := law_order O F N H ha hb hret
theorem equalS {a b : Addr} {na nb : Nat} {x y : Str} (O : Ok w A h₀ L 18) (F : Fr h₀ L hp m) (N : News h₀ L hp (X ++ news)) (H : Hs w P X st news Φ) (ha : Fact.tv a na (some x) ∈ Φ) (hb : Fact.tv b nb (some y) ∈ Φ)
    (hret : ∀ t' news' h' tk', Fr h₀ L h' m → News h₀ L h' (X ++ news') → Hs w P X st news' Φ → Q (.int (b2i (decide (x = y))) t') ⟨h', gn, dr, tk', oS⟩) :
    wpAny (model PR w) A (call (.ref 858) [.ref P.w, .ref a, .ref b]) Q E ⟨hp, gn, dr, tk, oS⟩ := law_equal O F N H ha hb (by
      have e : decide (some x = some y) = decide (x = y) := by by_cases h : x = y <;> simp [h]
      rw [e]; exact hret)
theorem joinS {a b : Addr} {na nb : Nat} {x y : Str} (O : Ok w A h₀ L 18) (F : Fr h₀ L hp m) (N : News h₀ L hp (X ++ news)) (H : Hs w P X st news Φ) (ha : Fact.tv a na (some x) ∈ Φ) (hb : Fact.tv b nb (some y) ∈ Φ) (hz : st.b ≤ 1000000) (za : x.length ≤ 1000) (zb : y.length ≤ 1000)
    (hret : ∀ r n s news' h' tk', s = x ++ y → s.length = x.length + y.length → Fr h₀ L h' m → News h₀ L h' (X ++ news') → Hs w P X ⟨st.T, st.th, st.b + 1, st.fc⟩ news' (.tv r n (some s) :: Φ) → Q (.ref r) ⟨h', gn, dr, tk', oS⟩) :
    wpAny (model PR w) A (call (.ref 865) [.ref P.w, .ref a, .ref b]) Q E ⟨hp, gn, dr, tk, oS⟩ := law_join O F N H ha hb hz za zb fun r n ex news' h' tk' F' N' C H' => hret r n _ news' h' tk' rfl (app_len x y) F' N' (H'.sub fun f hf => by
      rcases List.mem_cons.mp hf with rfl | hf
      · exact .head _
      · exact .tail _ (List.mem_append_right _ hf))
theorem partS {a : Addr} {na : Nat} {x : Str} {ti tk0 : Tok} {i k : Int} (O : Ok w A h₀ L 18) (F : Fr h₀ L hp m) (N : News h₀ L hp (X ++ news)) (H : Hs w P X st news Φ) (ha : Fact.tv a na (some x) ∈ Φ) (za : x.length ≤ 1000) (hz : st.b ≤ 1000000) (h0 : 0 ≤ i) (h1 : 0 ≤ k) (h2 : i + k ≤ x.length)
    (hret : ∀ r n s news' h' tk', s = cut x i.toNat k.toNat → (s.length : Int) = k → Fr h₀ L h' m → News h₀ L h' (X ++ news') → Hs w P X ⟨st.T, st.th, st.b + 1, st.fc⟩ news' (.tv r n (some s) :: Φ) → Q (.ref r) ⟨h', gn, dr, tk', oS⟩) :
    wpAny (model PR w) A (call (.ref 872) [.ref P.w, .ref a, .int i ti, .int k tk0]) Q E ⟨hp, gn, dr, tk, oS⟩ := law_part O F N H ha za hz h0 h1 h2 fun r n ex news' h' tk' F' N' C H' => hret r n _ news' h' tk' rfl (by rw [cut_len (by lia)]; lia) F' N' (H'.sub fun f hf => by
      rcases List.mem_cons.mp hf with rfl | hf
      · exact .head _
      · exact .tail _ (List.mem_append_right _ hf))
theorem oneS {a b : Addr} {na nb : Nat} {x y : Str} (O : Ok w A h₀ L 20) (F : Fr h₀ L hp m) (N : News h₀ L hp (X ++ news)) (H : Hs w P X st news Φ) (ha : Fact.tv a na (some x) ∈ Φ) (hb : Fact.tv b nb (some y) ∈ Φ) (za : x.length ≤ 1000) (ex : x = y)
    (hret : ∀ news' h' tk', Fr h₀ L h' m → News h₀ L h' (X ++ news') → Hs w P X st news' Φ → Q (.bool true) ⟨h', gn, dr, tk', oS⟩) :
    wpAny (model PR w) A (call (.ref 879) [.ref P.w, .ref a, .ref b]) Q E ⟨hp, gn, dr, tk, oS⟩ := by
  subst ex
  exact law_one O F N H ha hb za hret

theorem joinG {a b : Addr} {na nb : Nat} {oa ob : Option Str} (O : Ok w A h₀ L 18) (F : Fr h₀ L hp m) (N : News h₀ L hp (X ++ news)) (H : Hs w P X st news Φ) (ha : Fact.tv a na oa ∈ Φ) (hb : Fact.tv b nb ob ∈ Φ) (hz : st.b ≤ 1000000) (za : (gd oa).length ≤ 1000) (zb : (gd ob).length ≤ 1000)
    (hret : ∀ r n s news' h' tk', s = gd oa ++ gd ob → s.length = (gd oa).length + (gd ob).length → Fr h₀ L h' m → News h₀ L h' (X ++ news') → Hs w P X ⟨st.T, st.th, st.b + 1, st.fc⟩ news' (.tv r n (some s) :: Φ) → Q (.ref r) ⟨h', gn, dr, tk', oS⟩) :
    wpAny (model PR w) A (call (.ref 865) [.ref P.w, .ref a, .ref b]) Q E ⟨hp, gn, dr, tk, oS⟩ := law_join O F N H ha hb hz za zb fun r n ex news' h' tk' F' N' C H' => hret r n _ news' h' tk' rfl (app_len _ _) F' N' (H'.sub fun f hf => by
      rcases List.mem_cons.mp hf with rfl | hf
      · exact .head _
      · exact .tail _ (List.mem_append_right _ hf))

theorem joinA {a b : Addr} {na nb : Nat} {x : Str} {ob : Option Str} (O : Ok w A h₀ L 18) (F : Fr h₀ L hp m) (N : News h₀ L hp (X ++ news)) (H : Hs w P X st news Φ) (ha : Fact.tv a na (some x) ∈ Φ) (hb : Fact.tv b nb ob ∈ Φ) (hz : st.b ≤ 1000000) (za : (x).length ≤ 1000) (zb : (gd ob).length ≤ 1000)
    (hret : ∀ r n s news' h' tk', s = x ++ gd ob → s.length = (x).length + (gd ob).length → Fr h₀ L h' m → News h₀ L h' (X ++ news') → Hs w P X ⟨st.T, st.th, st.b + 1, st.fc⟩ news' (.tv r n (some s) :: Φ) → Q (.ref r) ⟨h', gn, dr, tk', oS⟩) :
    wpAny (model PR w) A (call (.ref 865) [.ref P.w, .ref a, .ref b]) Q E ⟨hp, gn, dr, tk, oS⟩ := law_join O F N H ha hb hz za zb fun r n ex news' h' tk' F' N' C H' => hret r n _ news' h' tk' rfl (app_len _ _) F' N' (H'.sub fun f hf => by
      rcases List.mem_cons.mp hf with rfl | hf
      · exact .head _
      · exact .tail _ (List.mem_append_right _ hf))

theorem joinB {a b : Addr} {na nb : Nat} {oa : Option Str} {y : Str} (O : Ok w A h₀ L 18) (F : Fr h₀ L hp m) (N : News h₀ L hp (X ++ news)) (H : Hs w P X st news Φ) (ha : Fact.tv a na oa ∈ Φ) (hb : Fact.tv b nb (some y) ∈ Φ) (hz : st.b ≤ 1000000) (za : (gd oa).length ≤ 1000) (zb : (y).length ≤ 1000)
    (hret : ∀ r n s news' h' tk', s = gd oa ++ y → s.length = (gd oa).length + (y).length → Fr h₀ L h' m → News h₀ L h' (X ++ news') → Hs w P X ⟨st.T, st.th, st.b + 1, st.fc⟩ news' (.tv r n (some s) :: Φ) → Q (.ref r) ⟨h', gn, dr, tk', oS⟩) :
    wpAny (model PR w) A (call (.ref 865) [.ref P.w, .ref a, .ref b]) Q E ⟨hp, gn, dr, tk, oS⟩ := law_join O F N H ha hb hz za zb fun r n ex news' h' tk' F' N' C H' => hret r n _ news' h' tk' rfl (app_len _ _) F' N' (H'.sub fun f hf => by
      rcases List.mem_cons.mp hf with rfl | hf
      · exact .head _
      · exact .tail _ (List.mem_append_right _ hf))

def law_keep_S (a : Addr) (na : Nat) (x : Str) : Prop := ∀ (O : Ok w A h₀ L 20) (F : Fr h₀ L hp m) (N : News h₀ L hp (X ++ news)) (H : Hs w P X st news Φ) (ha : Fact.tv a na (some x) ∈ Φ) (za : x.length ≤ 1000) (hz : st.T.length ≤ 999) (hz2 : st.fc.length ≤ 999) (hret : ∀ st' news' h' tk', Kept 0 st st' → Fr h₀ L h' m → News h₀ L h' (X ++ news') → Hs w P X st' news' Φ → Q (.none) ⟨h', gn, dr, tk', oS⟩), wpAny (model PR w) A (call (.ref 886) [.ref P.w, .ref a]) Q E ⟨hp, gn, dr, tk, oS⟩
theorem law_keep_r : ∀ r : (((HT17 × Addr) × Nat) × Str), (c17 (@law_keep_S) r.1.1.1) r.1.1.2 r.1.2 r.2 := by
  refine ep_all (ne := by walk_at "NE") ((?_ : ∀ w A h₀ L m hp gn dr tk oS P X news st Φ Q E a na x, @law_keep_S w A h₀ L m hp gn dr tk oS P X news st Φ Q E a na x) _ _ _ _ _ _ _ _ _ _ _ _ _ _ _ _ _ _ _ _)
  intro w A h₀ L m hp gn dr tk oS P X news st Φ Q E a na x O F N H ha za hz hz2 hret
  refine' callfE (d := 19) ["w", "x"] ["many"] ["_law_long", "_law_number", "N_STR_HASH"] [some (.ref P.w), some (.ref a), none] O F N ?ho ?hcd ?hb ?hl ?hS ?hc ?hv ["w", "x", "many"] ?hpm ?_
  walk_at "ENTERE"
  by_cases h7 : x.length < 7
  · (clear r33; clear r7 Z62 Z307; clear s35 law_long; clear r124; clear r32; clear r41; clear s9 lt_int; clear r129; clear r133; clear s19 x_expr; clear s1 e_meth; clear r11; clear s30 w_texts; clear s6 gm_textsH; clear s7 cbm; clear s36 texts_addH; clear s19 x_expr; clear s1 e_meth; clear r11; clear s30 w_facts; clear s6 gm_factsH; clear s23 c_bmt; clear r127; clear s9 Tuple_; clear r126; clear r127; clear r8; clear r1 Z58; clear r109 Z303; clear r126; clear r127; clear r1 Z49; clear r127; clear r28; clear s15 newList_H; clear r125; clear r128; ((with_reducible refine num_hash ‹8› ‹_› ‹_› ‹_› ‹0› ‹0› ?za ?_); (case za => (first | assumption | lia | (dsimp only; lia))); intro t' n' h' tk' F' N' H'); clear r125; clear r122; clear r125; clear s36 facts_addH; clear s9 wpAny_execs_nil; clear s9 Thn.next; clear s9 wpAny_execs_nil; clear s12 Ret.nil)
    refine hret _ _ _ _ ?_ kF kN (H'.sub (by intro f hf; repeat (first | exact hf | refine List.mem_cons_of_mem _ ?_)))
    exact ⟨rfl, Nat.le_refl _, Nat.le_add_right _ _, .inr ⟨a, na, x, by lia, rfl, rfl⟩⟩
  · (clear r33; clear r7 Z62 Z307; clear s35 law_long; clear r124; clear r32; clear r41; clear s9 lt_int; clear r129; clear r132; clear s9 wpAny_execs_nil; clear s12 Ret.nil)
    exact hret _ _ _ _ (.same (Nat.le_refl _) (Nat.le_add_right _ _)) kF kN (H'.sub (by intro f hf; repeat (first | exact hf | refine List.mem_cons_of_mem _ ?_)))
theorem law_keep {a na x} (O : Ok w A h₀ L 20) (F : Fr h₀ L hp m) (N : News h₀ L hp (X ++ news)) (H : Hs w P X st news Φ) (ha : Fact.tv a na (some x) ∈ Φ) (za : x.length ≤ 1000) (hz : st.T.length ≤ 999) (hz2 : st.fc.length ≤ 999)
    (hret : ∀ st' news' h' tk', Kept 0 st st' → Fr h₀ L h' m → News h₀ L h' (X ++ news') → Hs w P X st' news' Φ → Q (.none) ⟨h', gn, dr, tk', oS⟩) :
    wpAny (model PR w) A (call (.ref 886) [.ref P.w, .ref a]) Q E ⟨hp, gn, dr, tk, oS⟩ := law_keep_r (((((((((((((((((((w, A), h₀), L), m), hp), gn), dr), tk), oS), P), X), news), st), Φ), Q), E), a), na), x) O F N H ha za hz hz2 hret

end
end Mine
end S11_
section S12_
namespace Mine

set_option hygiene false in
local macro_rules | `(tactic| walk_at "ENTER") => `(tactic| ((case ho => k_is); (case hcd => k_is); (case hb => exact rfl); (case hl => exact rfl); (case hS => exact rfl); (case hc => exact rfl); (case hv => exact rfl); (case hpm => exact rfl); ((try clear F' N'); intro g' L' h' tk' p' lo' me' mg' mb' S' O' X' T' F' N'); have Z' := Zn.mk S' X' ⟨_, _, _, _, _, T'⟩))
section
variable {w : World} {A : Around} {h₀ : Heap} {L : Addr} {m : Str → Option Value} {hp : Heap} {gn : Array GenState} {dr : Drawn} {tk : Nat} {oS : OsState} {P : Pl} {X news led : Led} {st : St} {σ : Sg} {Φ : List Fact} {Q E : Value → Shared → Prop}

def law_cuts_S (a : Addr) (na : Nat) (x : Str) : Prop := ∀ (O : Ok w A h₀ L 21) (F : Fr h₀ L hp m) (N : News h₀ L hp (X ++ news)) (H : Hs w P X st news Φ) (ha : Fact.tv a na (some x) ∈ Φ) (za : x.length ≤ 20) (hz : st.b ≤ 900000) (hret : ∀ st' news' h' tk', Kept 1000 st st' → Fr h₀ L h' m → News h₀ L h' (X ++ news') → Hs w P X st' news' Φ → Q (.bool true) ⟨h', gn, dr, tk', oS⟩), wpAny (model PR w) A (call (.ref 900) [.ref P.w, .ref a]) Q E ⟨hp, gn, dr, tk, oS⟩
theorem law_cuts_r : ∀ r : (((HT17 × Addr) × Nat) × Str), (c17 (@law_cuts_S) r.1.1.1) r.1.1.2 r.1.2 r.2 := by
  refine ep_all (ne := by walk_at "NE") ((?_ : ∀ w A h₀ L m hp gn dr tk oS P X news st Φ Q E a na x, @law_cuts_S w A h₀ L m hp gn dr tk oS P X news st Φ Q E a na x) _ _ _ _ _ _ _ _ _ _ _ _ _ _ _ _ _ _ _ _)
  intro w A h₀ L m hp gn dr tk oS P X news st Φ Q E a na x O F N H ha za hz hret
  refine' callfE (d := 20) ["w", "a"] ["many", "i", "x", "y"] ["_law_long", "range", "_law_part", "_law_one", "_law_join"] [some (.ref P.w), some (.ref a), none, none, none, none] O F N ?ho ?hcd ?hb ?hl ?hS ?hc ?hv ["w", "a", "many", "i", "x", "y"] ?hpm ?_
  walk_at "ENTERE"
  have za' : x.length ≤ 1000 := by lia
  (clear r33; clear r7 Z62 Z307; clear r251; clear r273; clear r194; clear r8; clear r2 Z91; clear s23 c_typ; clear r127; clear r16; clear s9 o_add; clear r125; clear s38 range1_H)
  refine for_range0 (x.length + 1) O'.hand ‹_› ‹_› H' (.head _) (by lia) (by lia) (fun i vals st' Φ' => ∃ t v1 v2 v3 b, vals = [some (.ref P.w), some (.ref a), some (.int (x.length : Nat) t), v1, v2, v3] ∧ st' = ⟨st.T, st.th, b, st.fc⟩ ∧ st.b ≤ b ∧ b ≤ st.b + 3 * i ∧ Φ' = Fact.ent rr' (rangeOb 0 ((x.length : Nat) + 1) t1' t2' t3') :: Φ) ⟨_, _, _, _, st.b, rfl, rfl, Nat.le_refl _, Nat.le_refl _, rfl⟩ ?_ ?_
  · rintro i t h1 tk1 X1 _ _ n1 _ hi ⟨t0, v1, v2, v3, b, rfl, rfl, b0, b1, rfl⟩ hX F1 N1 H1
    have F2 := fr_put S' F1 (by walk_at "PUT")
    clear F1
    (clear r33; clear r7 Z63 Z308; clear r259; clear r273; clear r33; clear r8; clear r1 Z63; clear r109 Z308; clear r126; clear r126; clear r126; clear r127; clear r16; clear s9 o_sub; clear r125; clear r128; clear r259; clear r273; clear r32; clear r48; clear r43; clear r7 Z62 Z307; clear r251; clear r0; clear s9 ne_int; clear r129; clear r132; clear r48; clear s9 isTrue_not; (refine isTrue_plain ?_ ?he; (case he => exact rfl)); clear r8; clear r1 Z64; clear r109 Z309; clear r126; clear r127; clear r7 Z65 Z310; clear r255; clear r126; clear r125; clear r128; clear r260; clear r129; clear r132; clear s9 isTrue_or_nil; clear r132; clear s9 wpAny_execs_nil; rotate_left; rotate_left)
    · exact Bd.next _ ‹_› ‹_› H' (by intro f hf; repeat (first | exact hf | refine List.mem_cons_of_mem _ ?_)) ⟨_, _, _, _, _, rfl, rfl, (by (try dsimp only); lia), (by (try dsimp only); lia), rfl⟩
    · subst_vars
      have e : ((x.length : Nat) - (i : Nat) : Int).toNat = x.length - i := by lia
      rw [e]; exact cut_app x (by lia)
  · rintro h1 tk1 _ _ n1 _ ⟨t0, v1, v2, v3, b, rfl, rfl, b0, b1, rfl⟩ F1 N1 H1
    (clear s9 Thn.next; clear s3 re1; clear r134)
    exact hret _ _ _ _ (.same b0 (by (try dsimp only); lia)) kF kN (H1.sub fun f hf => .tail _ hf)
theorem law_cuts {a na x} (O : Ok w A h₀ L 21) (F : Fr h₀ L hp m) (N : News h₀ L hp (X ++ news)) (H : Hs w P X st news Φ) (ha : Fact.tv a na (some x) ∈ Φ) (za : x.length ≤ 20) (hz : st.b ≤ 900000)
    (hret : ∀ st' news' h' tk', Kept 1000 st st' → Fr h₀ L h' m → News h₀ L h' (X ++ news') → Hs w P X st' news' Φ → Q (.bool true) ⟨h', gn, dr, tk', oS⟩) :
    wpAny (model PR w) A (call (.ref 900) [.ref P.w, .ref a]) Q E ⟨hp, gn, dr, tk, oS⟩ := law_cuts_r (((((((((((((((((((w, A), h₀), L), m), hp), gn), dr), tk), oS), P), X), news), st), Φ), Q), E), a), na), x) O F N H ha za hz hret

def law_first_S (a p : Addr) (na np : Nat) (x y : Str) : Prop := ∀ (O : Ok w A h₀ L 21) (F : Fr h₀ L hp m) (N : News h₀ L hp (X ++ news)) (H : Hs w P X st news Φ) (ha : Fact.tv a na (some x) ∈ Φ) (hq : Fact.tv p np (some y) ∈ Φ) (za : x.length ≤ 20) (zb : y.length ≤ 20) (hz : st.b ≤ 900000) (hret : ∀ t' b news' h' tk', st.b ≤ b → b ≤ st.b + 30 → Fr h₀ L h' m → News h₀ L h' (X ++ news') → Hs w P X ⟨st.T, st.th, b, st.fc⟩ news' Φ → Q (.int (Txt.find x y) t') ⟨h', gn, dr, tk', oS⟩), wpAny (model PR w) A (call (.ref 914) [.ref P.w, .ref a, .ref p]) Q E ⟨hp, gn, dr, tk, oS⟩
theorem law_first_r : ∀ r : ((((((HT17 × Addr) × Addr) × Nat) × Nat) × Str) × Str), (c17 (@law_first_S) r.1.1.1.1.1.1) r.1.1.1.1.1.2 r.1.1.1.1.2 r.1.1.1.2 r.1.1.2 r.1.2 r.2 := by
  refine ep_all (ne := by walk_at "NE") ((?_ : ∀ w A h₀ L m hp gn dr tk oS P X news st Φ Q E a p na np x y, @law_first_S w A h₀ L m hp gn dr tk oS P X news st Φ Q E a p na np x y) _ _ _ _ _ _ _ _ _ _ _ _ _ _ _ _ _ _ _ _ _ _ _)
  intro w A h₀ L m hp gn dr tk oS P X news st Φ Q E a p na np x y O F N H ha hq za zb hz hret
  refine' callfE (d := 20) ["w", "whole", "p"] ["n", "i"] ["_law_long", "range", "_law_equal", "_law_part"] [some (.ref P.w), some (.ref a), some (.ref p), none, none] O F N ?ho ?hcd ?hb ?hl ?hS ?hc ?hv ["w", "whole", "p", "n", "i"] ?hpm ?_
  walk_at "ENTERE"
  have za' : x.length ≤ 1000 := by lia
  have zb' : y.length ≤ 1000 := by lia
  (clear r33; clear r7 Z62 Z307; clear r251; clear r273; clear r194; clear r8; clear r2 Z91; clear s23 c_typ; clear r127; clear s9 wpAny_BinOp; clear s9 wpAny_BinOp; clear r7 Z62 Z307; clear r251; clear r0; clear s9 o_sub; clear r3; clear s9 o_add; clear r125; clear s38 range1_H)
  refine for_range0 (((x.length : Nat) - (y.length : Nat) + 1 : Int).toNat) O'.hand ‹_› ‹_› H' (.head _) (by lia) rfl (fun i vals st' Φ' => ∃ t v1 b, vals = [some (.ref P.w), some (.ref a), some (.ref p), some (.int (y.length : Nat) t), v1] ∧ st' = ⟨st.T, st.th, b, st.fc⟩ ∧ st.b ≤ b ∧ b ≤ st.b + i ∧ (∀ k, k < i → ¬ atI x y k) ∧ Φ' = Fact.ent rr' (rangeOb 0 ((x.length : Nat) - (y.length : Nat) + 1) t1' t2' t3') :: Φ) ⟨_, _, st.b, rfl, rfl, Nat.le_refl _, Nat.le_refl _, (fun k hk => absurd hk (Nat.not_lt_zero _)), rfl⟩ ?_ ?_
  · rintro i t h1 tk1 X1 _ _ n1 _ hi ⟨t0, v1, b, rfl, rfl, b0, b1, hk, rfl⟩ hX F1 N1 H1
    have F2 := fr_put S' F1 (by walk_at "PUT")
    clear F1
    have hlen : i + y.length ≤ x.length := by lia
    (clear r32; clear r43; clear r8; clear r1 Z60; clear r109 Z305; clear r126; clear r127; clear r7 Z63 Z308; clear r259; clear r126; clear r125; clear r128; clear s40 equalS; clear r3; clear s9 eq_int; clear r129)
    by_cases e : s' = y
    · have hat : atI x y i := ⟨hlen, es'.symm.trans e⟩
      refine Br.t (by rw [decide_eq_true e]; rfl) ?_
      (clear s3 re1; clear s9 Thn.ret; clear s9 Bd.ret; clear s9 Thn.ret; clear r134)
      rw [find_hit hat hk] at hret
      exact hret t (b + 1) _ _ _ (by lia) (by lia) kF (news_narrow kN hX) ((H'.sub (by intro f hf; repeat (first | exact hf | refine List.mem_cons_of_mem _ ?_))).narrow hX)
    · have hat : ¬ atI x y i := fun q => e (es'.trans q.2)
      refine Br.f (by rw [decide_eq_false e]; rfl) ?_
      (clear s9 wpAny_execs_nil)
      refine Bd.next _ ‹_› ‹_› H' (by intro f hf; repeat (first | exact hf | refine List.mem_cons_of_mem _ ?_)) ⟨_, _, _, rfl, rfl, (by (try dsimp only); lia), (by (try dsimp only); lia), fun k hk' => ?_, rfl⟩
      rcases Nat.lt_succ_iff_lt_or_eq.mp hk' with q | q
      · exact hk k q
      · rw [q]; exact hat
  · rintro h1 tk1 _ _ n1 _ ⟨t0, v1, b, rfl, rfl, b0, b1, hk, rfl⟩ F1 N1 H1
    (clear s9 Thn.next; clear r31; clear s9 UnaryOp_; clear r3; clear s9 o_neg; clear r134)
    have e : Txt.find x y = -1 := find_miss fun k hk' => hk k (by lia)
    rw [e] at hret
    exact hret _ _ _ _ _ b0 (by (try dsimp only); lia) kF kN (H1.sub fun f hf => .tail _ hf)
theorem law_first {a p na np x y} (O : Ok w A h₀ L 21) (F : Fr h₀ L hp m) (N : News h₀ L hp (X ++ news)) (H : Hs w P X st news Φ) (ha : Fact.tv a na (some x) ∈ Φ) (hq : Fact.tv p np (some y) ∈ Φ) (za : x.length ≤ 20) (zb : y.length ≤ 20) (hz : st.b ≤ 900000)
    (hret : ∀ t' b news' h' tk', st.b ≤ b → b ≤ st.b + 30 → Fr h₀ L h' m → News h₀ L h' (X ++ news') → Hs w P X ⟨st.T, st.th, b, st.fc⟩ news' Φ → Q (.int (Txt.find x y) t') ⟨h', gn, dr, tk', oS⟩) :
    wpAny (model PR w) A (call (.ref 914) [.ref P.w, .ref a, .ref p]) Q E ⟨hp, gn, dr, tk, oS⟩ := law_first_r ((((((((((((((((((((((w, A), h₀), L), m), hp), gn), dr), tk), oS), P), X), news), st), Φ), Q), E), a), p), na), np), x), y) O F N H ha hq za zb hz hret

end
set_option hygiene false in
local macro_rules | `(tactic| walk_at "ENTER") => `(tactic| ((case ho => k_is); (case hcd => k_is); (case hb => exact rfl); (case hl => exact rfl); (case hS => exact rfl); (case hc => exact rfl); (case hv => exact rfl); (case hpm => exact rfl); ((try clear F' N'); intro g' L' h' tk' p' lo' me' mg' mb' S' O' X' T' F' N'); have Z' := Zn.mk S' X' ⟨_, _, _, _, _, T'⟩))
section
variable {w : World} {A : Around} {h₀ : Heap} {L : Addr} {m : Str → Option Value} {hp : Heap} {gn : Array GenState} {dr : Drawn} {tk : Nat} {oS : OsState} {P : Pl} {X news led : Led} {st : St} {σ : Sg} {Φ : List Fact} {Q E : Value → Shared → Prop}

def law_index_S (a p : Addr) (na np : Nat) (x y : Str) : Prop := ∀ (O : Ok w A h₀ L 22) (F : Fr h₀ L hp m) (N : News h₀ L hp (X ++ news)) (H : Hs w P X st news Φ) (ha : Fact.tv a na (some x) ∈ Φ) (hq : Fact.tv p np (some y) ∈ Φ) (za : x.length ≤ 6) (zb : y.length ≤ 6) (hz : st.b ≤ 800000) (hret : ∀ st' news' h' tk', Kept 1000 st st' → Fr h₀ L h' m → News h₀ L h' (X ++ news') → Hs w P X st' news' Φ → Q (.bool true) ⟨h', gn, dr, tk', oS⟩), wpAny (model PR w) A (call (.ref 921) [.ref P.w, .ref a, .ref p]) Q E ⟨hp, gn, dr, tk, oS⟩
theorem law_index_r : ∀ r : ((((((HT17 × Addr) × Addr) × Nat) × Nat) × Str) × Str), (c17 (@law_index_S) r.1.1.1.1.1.1) r.1.1.1.1.1.2 r.1.1.1.1.2 r.1.1.1.2 r.1.1.2 r.1.2 r.2 := by
  refine ep_all (ne := by walk_at "NE") ((?_ : ∀ w A h₀ L m hp gn dr tk oS P X news st Φ Q E a p na np x y, @law_index_S w A h₀ L m hp gn dr tk oS P X news st Φ Q E a p na np x y) _ _ _ _ _ _ _ _ _ _ _ _ _ _ _ _ _ _ _ _ _ _ _)
  intro w A h₀ L m hp gn dr tk oS P X news st Φ Q E a p na np x y O F N H ha hq za zb hz hret
  refine' callfE (d := 21) ["w", "a", "p"] ["behind", "place"] ["_law_join", "_law_number", "N_INDEXOF", "_law_long", "_law_first"] [some (.ref P.w), some (.ref a), some (.ref p), none, none] O F N ?ho ?hcd ?hb ?hl ?hS ?hc ?hv ["w", "a", "p", "behind", "place"] ?hpm ?_
  walk_at "ENTERE"
  have f0 := find_behind x y
  have f1 := find_front x y
  (clear r33; clear r7 Z65 Z310; clear r255; clear r273; clear r33; clear r8; clear r1 Z58; clear r109 Z303; clear r126; clear r127; clear r1 Z53; clear r127; clear r28; clear r272; clear r125; clear r128; clear s41 num_index; clear r273; clear r32; clear r48; clear r41; clear s9 lt_int; clear r129)
  rw [← es'] at f0
  (clear r132; clear r48; clear r42; clear r7 Z62 Z307; clear r251; clear s9 gt_int; clear r129; clear r132; clear r48; clear r42; clear r7 Z69 Z314; ((with_reducible refine law_first ‹8› ‹_› ‹_› ‹_› ‹0› ‹0› ?za ?zb ?hz ?_); (case za => (first | assumption | lia | (dsimp only; lia))); (case zb => (first | assumption | lia | (dsimp only; lia))); (case hz => (first | assumption | lia | (dsimp only; lia))); ((try clear H'); (try clear F' N'); intro t' b' n' h' tk' b0' b1' F' N' H'); (try dsimp only at b0' b1')); clear s9 ne_int; clear r129; clear r132; clear s9 isTrue_or_nil; clear r132; clear r32; clear r43; clear r8; clear r1 Z58; clear r109 Z303; clear r126; clear r127; clear r1 Z53; clear r127; clear r28; clear r272; clear r125; clear r128; clear s41 num_index; clear r7 Z69 Z314; ((with_reducible refine law_first ‹8› ‹_› ‹_› ‹_› ‹0› ‹0› ?za ?zb ?hz ?_); (case za => (first | assumption | lia | (dsimp only; lia))); (case zb => (first | assumption | lia | (dsimp only; lia))); (case hz => (first | assumption | lia | (dsimp only; lia))); ((try clear H'); (try clear F' N'); intro t' b' n' h' tk' b0' b1' F' N' H'); (try dsimp only at b0' b1')); clear s9 ne_int; clear r129; clear r132; clear r31; clear r21; clear r8; clear r1 Z58; clear r109 Z303; clear r126; clear r127; clear r1 Z53; clear r127; clear s9 List_; clear r127; clear r7 Z65 Z310; clear r255; clear r126; clear r125; clear r272; clear r125; clear r128; clear s41 num_index; clear r3; clear s9 eq_int; clear r134)
  refine (?_ : ∀ v, v = true → Q (.bool v) _) _ ?_
  · rintro _ rfl; exact hret _ _ _ _ (.same (by (try dsimp only); lia) (by (try dsimp only); lia)) kF kN (H'.sub (by intro f hf; repeat (first | exact hf | refine List.mem_cons_of_mem _ ?_)))
  · rw [es', f1]; rfl
theorem law_index {a p na np x y} (O : Ok w A h₀ L 22) (F : Fr h₀ L hp m) (N : News h₀ L hp (X ++ news)) (H : Hs w P X st news Φ) (ha : Fact.tv a na (some x) ∈ Φ) (hq : Fact.tv p np (some y) ∈ Φ) (za : x.length ≤ 6) (zb : y.length ≤ 6) (hz : st.b ≤ 800000)
    (hret : ∀ st' news' h' tk', Kept 1000 st st' → Fr h₀ L h' m → News h₀ L h' (X ++ news') → Hs w P X st' news' Φ → Q (.bool true) ⟨h', gn, dr, tk', oS⟩) :
    wpAny (model PR w) A (call (.ref 921) [.ref P.w, .ref a, .ref p]) Q E ⟨hp, gn, dr, tk, oS⟩ := law_index_r ((((((((((((((((((((((w, A), h₀), L), m), hp), gn), dr), tk), oS), P), X), news), st), Φ), Q), E), a), p), na), np), x), y) O F N H ha hq za zb hz hret

end
end Mine
end S12_
section S13_
namespace Mine

set_option hygiene false in
local macro_rules | `(tactic| walk_at "ENTER") => `(tactic| ((case ho => k_is); (case hcd => k_is); (case hb => exact rfl); (case hl => exact rfl); (case hS => exact rfl); (case hc => exact rfl); (case hv => exact rfl); (case hpm => exact rfl); ((try clear F' N'); intro g' L' h' tk' p' lo' me' mg' mb' S' O' X' T' F' N'); have Z' := Zn.mk S' X' ⟨_, _, _, _, _, T'⟩))
section
variable {w : World} {A : Around} {h₀ : Heap} {L : Addr} {m : Str → Option Value} {hp : Heap} {gn : Array GenState} {dr : Drawn} {tk : Nat} {oS : OsState} {P : Pl} {X news led : Led} {st : St} {σ : Sg} {Φ : List Fact} {Q E : Value → Shared → Prop}

def law_seam_S (a b : Addr) (na nb : Nat) (oa ob : Option Str) : Prop := ∀ (O : Ok w A h₀ L 22) (F : Fr h₀ L hp m) (N : News h₀ L hp (X ++ news)) (H : Hs w P X st news Φ) (ha : Fact.tv a na oa ∈ Φ) (hb : Fact.tv b nb ob ∈ Φ) (za : (gd oa).length ≤ 6) (zb : (gd ob).length ≤ 6) (hz : st.b ≤ 800000) (hT : st.T.length ≤ 999) (hT2 : st.fc.length ≤ 999) (hret : ∀ st' news' h' tk', Kept 1000 st st' → Fr h₀ L h' m → News h₀ L h' (X ++ news') → Hs w P X st' news' Φ → Q (.bool true) ⟨h', gn, dr, tk', oS⟩), wpAny (model PR w) A (call (.ref 907) [.ref P.w, .ref a, .ref b]) Q E ⟨hp, gn, dr, tk, oS⟩
theorem law_seam_r : ∀ r : ((((((HT17 × Addr) × Addr) × Nat) × Nat) × (Option Str)) × (Option Str)), (c17 (@law_seam_S) r.1.1.1.1.1.1) r.1.1.1.1.1.2 r.1.1.1.1.2 r.1.1.1.2 r.1.1.2 r.1.2 r.2 := by
  refine ep_all (ne := by walk_at "NE") ((?_ : ∀ w A h₀ L m hp gn dr tk oS P X news st Φ Q E a b na nb oa ob, @law_seam_S w A h₀ L m hp gn dr tk oS P X news st Φ Q E a b na nb oa ob) _ _ _ _ _ _ _ _ _ _ _ _ _ _ _ _ _ _ _ _ _ _ _)
  intro w A h₀ L m hp gn dr tk oS P X news st Φ Q E a b na nb oa ob O F N H ha hb za zb hz hT hT2 hret
  refine' callfE (d := 21) ["w", "a", "b"] ["n", "put_by", "i", "front", "back"] ["_law_size", "_law_join", "_law_long", "range", "_law_letter", "_law_part", "V_REF", "_law_one", "_law_keep"] [some (.ref P.w), some (.ref a), some (.ref b), none, none, none, none, none] O F N ?ho ?hcd ?hb ?hl ?hS ?hc ?hv ["w", "a", "b", "n", "put_by", "i", "front", "back"] ?hpm ?_
  walk_at "ENTERE"
  have za' : (gd oa).length ≤ 1000 := by lia
  have zb' : (gd ob).length ≤ 1000 := by lia
  (clear r33; clear r7 Z66 Z311; clear s37 law_size; clear r273; clear r33; clear r7 Z65 Z310; clear s39 joinG; clear r273; clear r32; clear r43; clear r7 Z62 Z307; clear r251; clear s3 bi1; clear r7 Z66 Z311; clear s37 law_size; clear s9 o_add; clear s9 ne_int; clear r129; clear r132; clear r194; clear r8; clear r2 Z91; clear s23 c_typ; clear r126; clear r125; clear s38 range1_H)
  have ex : ∀ i : Nat, i < (gd oa).length → s'.cps.toList.getD (i : Int).toNat 0 = (gd oa).cps.toList.getD (i : Int).toNat 0 := fun i hi => by rw [es']; exact app_getD_l _ hi
  have ey : ∀ i : Nat, s'.cps.toList.getD (((gd oa).length : Nat) + (i : Int)).toNat 0 = (gd ob).cps.toList.getD (i : Int).toNat 0 := fun i => by
    rw [es', show ((((gd oa).length : Nat) : Int) + (i : Int)).toNat = (gd oa).length + i by lia]; exact app_getD_r _ _ _
  refine for_range0 (gd oa).length O'.hand ‹_› ‹_› H' (.head _) (by lia) (by lia) (fun i vals st' Φ' => ∃ t v, vals = [some (.ref P.w), some (.ref a), some (.ref b), some (.int ((gd oa).length : Nat) t), some (.ref r'), v, none, none] ∧ st' = ⟨st.T, st.th, st.b + 1, st.fc⟩ ∧ Φ' = Fact.ent rr' (rangeOb 0 ((gd oa).length : Nat) t1' t2' t3') :: Fact.tv r' k' (some s') :: Φ) ⟨_, _, rfl, rfl, rfl⟩ ?_ ?_
  · rintro i t h1 tk1 X1 _ _ n1 _ hi ⟨t0, v, rfl, rfl, rfl⟩ hX F1 N1 H1
    have F2 := fr_put S' F1 (by walk_at "PUT")
    clear F1
    cases oa with
    | none => exact absurd hi (Nat.not_lt_zero _)
    | some x =>
      have hi' : i < x.length := hi
      have zx : x.length ≤ 1000 := za'
      have e := ex i hi
      simp only [show gd (some x) = x from rfl] at *
      (clear r32; clear r43; clear r7 Z67 Z312; clear r252; clear r7 Z67 Z312; clear r252; clear s9 ne_int; clear r129; clear r132; clear s9 wpAny_execs_nil)
      exact Bd.next _ ‹_› ‹_› H' (by intro f hf; repeat (first | exact hf | refine List.mem_cons_of_mem _ ?_)) ⟨_, _, rfl, rfl, rfl⟩
  · rintro h1 tk1 _ _ n1 _ ⟨t0, v, rfl, rfl, rfl⟩ F1 N1 H1
    replace H1 := H1.sub (Φ' := Fact.tv r' k' (some s') :: Φ) fun f hf => .tail _ hf
    (clear s9 Thn.next; clear r194; clear r8; clear r2 Z91; clear s23 c_typ; clear r127; clear r7 Z66 Z311; clear s37 law_size; clear r125; clear s38 range1_H)
    refine for_range0 (gd ob).length O'.hand ‹_› ‹_› H' (.head _) (by lia) (by lia) (fun i vals st' Φ' => ∃ t v, vals = [some (.ref P.w), some (.ref a), some (.ref b), some (.int ((gd oa).length : Nat) t), some (.ref r'), v, none, none] ∧ st' = ⟨st.T, st.th, st.b + 1, st.fc⟩ ∧ Φ' = Fact.ent rr' (rangeOb 0 ((gd ob).length : Nat) t1' t2' t3') :: Fact.tv r' k' (some s') :: Φ) ⟨_, _, rfl, rfl, rfl⟩ ?_ ?_
    · rintro i t h1 tk1 X1 _ _ n1 _ hi ⟨t0, v, rfl, rfl, rfl⟩ hX F1 N1 H1
      have F2 := fr_put S' F1 (by walk_at "PUT")
      clear F1
      cases ob with
      | none => exact absurd hi (Nat.not_lt_zero _)
      | some y =>
        have hi' : i < y.length := hi
        have zy : y.length ≤ 1000 := zb'
        have e := ey i
        simp only [show gd (some y) = y from rfl] at *
        (clear r32; clear r43; clear r8; clear r1 Z67; clear r109 Z312; clear r126; clear r126; clear r127; clear r16; clear s9 o_add; clear r125; clear r128; clear r252; clear r7 Z67 Z312; clear r252; clear s9 ne_int; clear r129; clear r132; clear s9 wpAny_execs_nil)
        exact Bd.next _ ‹_› ‹_› H' (by intro f hf; repeat (first | exact hf | refine List.mem_cons_of_mem _ ?_)) ⟨_, _, rfl, rfl, rfl⟩
    · rintro h1 tk1 _ _ n1 _ ⟨t0, v, rfl, rfl, rfl⟩ F1 N1 H1
      replace H1 := H1.sub (Φ' := Fact.tv r' k' (some s') :: Φ) fun f hf => .tail _ hf
      (clear s9 Thn.next; clear r33; clear r7 Z63 Z308; clear r259; clear r273; clear r33; clear r8; clear r1 Z63; clear r109 Z308; clear r126; clear r126; clear r126; clear r127; clear r7 Z66 Z311; clear s37 law_size; clear r125; clear r128; clear r259; clear r273; clear r32; clear s9 t_and; clear r42; clear s9 Tuple_; clear r127; clear r1 Z20; clear r126; clear r125; clear s42 null_H; clear s43 c_netv; clear r129)
      cases oa with
      | none =>
        obtain rfl := H.tv_zero ha
        (clear r132; clear r132; clear r32; clear s9 t_and; clear r42; clear s9 Tuple_; clear r127; clear r1 Z20; clear r126; clear r125; clear s42 null_H; clear s43 c_netv; clear r129)
        cases ob with
        | none =>
          obtain rfl := H.tv_zero hb
          (clear r132; clear r132; clear s19 x_expr; clear r7 Z68 Z313; clear s44 law_keep; clear s3 re1; clear r134)
          exact hret _ _ _ _ (K'.up rfl rfl rfl (by (try dsimp only); lia) (by (try dsimp only); lia)) kF kN (H'.sub (by intro f hf; repeat (first | exact hf | refine List.mem_cons_of_mem _ ?_)))
        | some y =>
          have hnb := H.tv_pos hb
          have hnb' : ¬ nb = 0 := by lia
          (clear r133; clear s9 t_and; clear s9 isTrue_not; (refine isTrue_plain ?_ ?he; (case he => exact rfl)); clear r7 Z64 Z309; clear r260; clear r129; clear r132; clear r132; clear s19 x_expr; clear r7 Z68 Z313; clear s44 law_keep; clear s3 re1; clear r134; rotate_left; rotate_left)
          · exact hret _ _ _ _ (K'.up rfl rfl rfl (by (try dsimp only); lia) (by (try dsimp only); lia)) kF kN (H'.sub (by intro f hf; repeat (first | exact hf | refine List.mem_cons_of_mem _ ?_)))
          · subst_vars; exact cut_back _ y
      | some x =>
        have hna := H.tv_pos ha
        have hna' : ¬ na = 0 := by lia
        (clear r133; clear s9 t_and; clear s9 isTrue_not; (refine isTrue_plain ?_ ?he; (case he => exact rfl)); clear r7 Z64 Z309; clear r260; clear r129; clear r132; clear r132; clear r32; clear s9 t_and; clear r42; clear s9 Tuple_; clear r127; clear r1 Z20; clear r126; clear r125; clear s42 null_H; clear s43 c_netv; clear r129; rotate_left; rotate_left)
        rotate_left
        · subst_vars; exact cut_front x _
        cases ob with
        | none =>
          obtain rfl := H.tv_zero hb
          (clear r132; clear r132; clear s19 x_expr; clear r7 Z68 Z313; clear s44 law_keep; clear s3 re1; clear r134)
          exact hret _ _ _ _ (K'.up rfl rfl rfl (by (try dsimp only); lia) (by (try dsimp only); lia)) kF kN (H'.sub (by intro f hf; repeat (first | exact hf | refine List.mem_cons_of_mem _ ?_)))
        | some y =>
          have hnb := H.tv_pos hb
          have hnb' : ¬ nb = 0 := by lia
          (clear r133; clear s9 t_and; clear s9 isTrue_not; (refine isTrue_plain ?_ ?he; (case he => exact rfl)); clear r7 Z64 Z309; clear r260; clear r129; clear r132; clear r132; clear s19 x_expr; clear r7 Z68 Z313; clear s44 law_keep; clear s3 re1; clear r134; rotate_left; rotate_left)
          · exact hret _ _ _ _ (K'.up rfl rfl rfl (by (try dsimp only); lia) (by (try dsimp only); lia)) kF kN (H'.sub (by intro f hf; repeat (first | exact hf | refine List.mem_cons_of_mem _ ?_)))
          · subst_vars; exact cut_back _ y
theorem law_seam {a b na nb oa ob} (O : Ok w A h₀ L 22) (F : Fr h₀ L hp m) (N : News h₀ L hp (X ++ news)) (H : Hs w P X st news Φ) (ha : Fact.tv a na oa ∈ Φ) (hb : Fact.tv b nb ob ∈ Φ) (za : (gd oa).length ≤ 6) (zb : (gd ob).length ≤ 6) (hz : st.b ≤ 800000) (hT : st.T.length ≤ 999) (hT2 : st.fc.length ≤ 999)
    (hret : ∀ st' news' h' tk', Kept 1000 st st' → Fr h₀ L h' m → News h₀ L h' (X ++ news') → Hs w P X st' news' Φ → Q (.bool true) ⟨h', gn, dr, tk', oS⟩) :
    wpAny (model PR w) A (call (.ref 907) [.ref P.w, .ref a, .ref b]) Q E ⟨hp, gn, dr, tk, oS⟩ := law_seam_r ((((((((((((((((((((((w, A), h₀), L), m), hp), gn), dr), tk), oS), P), X), news), st), Φ), Q), E), a), b), na), nb), oa), ob) O F N H ha hb za zb hz hT hT2 hret

end
end Mine
end S13_
section S14_
namespace Mine

set_option hygiene false in
local macro_rules | `(tactic| walk_at "ENTER") => `(tactic| ((case ho => k_is); (case hcd => k_is); (case hb => exact rfl); (case hl => exact rfl); (case hS => exact rfl); (case hc => exact rfl); (case hv => exact rfl); (case hpm => exact rfl); ((try clear F' N'); intro g' L' h' tk' p' lo' me' mg' mb' S' O' X' T' F' N'); have Z' := Zn.mk S' X' ⟨_, _, _, _, _, T'⟩))
section
variable {w : World} {A : Around} {h₀ : Heap} {L : Addr} {m : Str → Option Value} {hp : Heap} {gn : Array GenState} {dr : Drawn} {tk : Nat} {oS : OsState} {P : Pl} {X news led : Led} {st : St} {σ : Sg} {Φ : List Fact} {Q E : Value → Shared → Prop}

def law_ordered_S (a b c : Addr) (na nb nc : Nat) (xa xb xc : Str) : Prop := ∀ (O : Ok w A h₀ L 22) (F : Fr h₀ L hp m) (N : News h₀ L hp (X ++ news)) (H : Hs w P X st news Φ) (ha : Fact.tv a na (some xa) ∈ Φ) (hb : Fact.tv b nb (some xb) ∈ Φ) (hc : Fact.tv c nc (some xc) ∈ Φ) (za : xa.length ≤ 6) (zb : xb.length ≤ 6) (zc : xc.length ≤ 6) (hz : st.b ≤ 800000) (hret : ∀ st' news' h' tk', Kept 1000 st st' → Fr h₀ L h' m → News h₀ L h' (X ++ news') → Hs w P X st' news' Φ → Q (.bool true) ⟨h', gn, dr, tk', oS⟩), wpAny (model PR w) A (call (.ref 935) [.ref P.w, .ref a, .ref b, .ref c]) Q E ⟨hp, gn, dr, tk, oS⟩
theorem law_ordered_r : ∀ r : (((((((((HT17 × Addr) × Addr) × Addr) × Nat) × Nat) × Nat) × Str) × Str) × Str), (c17 (@law_ordered_S) r.1.1.1.1.1.1.1.1.1) r.1.1.1.1.1.1.1.1.2 r.1.1.1.1.1.1.1.2 r.1.1.1.1.1.1.2 r.1.1.1.1.1.2 r.1.1.1.1.2 r.1.1.1.2 r.1.1.2 r.1.2 r.2 := by
  refine ep_all (ne := by walk_at "NE") ((?_ : ∀ w A h₀ L m hp gn dr tk oS P X news st Φ Q E a b c na nb nc xa xb xc, @law_ordered_S w A h₀ L m hp gn dr tk oS P X news st Φ Q E a b c na nb nc xa xb xc) _ _ _ _ _ _ _ _ _ _ _ _ _ _ _ _ _ _ _ _ _ _ _ _ _ _)
  intro w A h₀ L m hp gn dr tk oS P X news st Φ Q E a b c na nb nc xa xb xc O F N H ha hb hc za zb zc hz hret
  refine' callfE (d := 21) ["w", "a", "b", "c"] ["x", "same", "y", "z", "m", "n", "i", "want"] ["_law_order", "_law_equal", "_law_number", "N_STR_EQUALS", "_law_one", "min", "max", "_law_join", "_law_sign", "_law_long", "_law_letter", "_law_part"] [some (.ref P.w), some (.ref a), some (.ref b), some (.ref c), none, none, none, none, none, none, none, none] O F N ?ho ?hcd ?hb ?hl ?hS ?hc ?hv ["w", "a", "b", "c", "x", "same", "y", "z", "m", "n", "i", "want"] ?hpm ?_
  walk_at "ENTERE"
  have t1 := cmpS_turn xa.cps.toList xb.cps.toList
  have t2 : b2i (decide (xb = xa)) = b2i (decide (xa = xb)) := by congr 1; exact decide_eq_decide.mpr ⟨Eq.symm, Eq.symm⟩
  have t3 : b2i (decide (some xa = some xb)) = b2i (decide (xa = xb)) := by congr 1; exact decide_eq_decide.mpr ⟨Option.some.inj, congrArg some⟩
  have e1 : xa = xb → b2i (decide (xa = xb)) = 1 ∧ cmpS xa.cps.toList xb.cps.toList = 0 := fun e => ⟨by rw [decide_eq_true e]; rfl, cmpS_zero.mpr (congrArg (fun x : Str => x.cps.toList) e)⟩
  have e2 : xa ≠ xb → b2i (decide (xa = xb)) = 0 ∧ cmpS xa.cps.toList xb.cps.toList ≠ 0 := fun e => ⟨by rw [decide_eq_false e]; rfl, fun q => e (str_ext (cmpS_zero.mp q))⟩
  have e3 : ((cmpS xa.cps.toList xb.cps.toList == 0) != (b2i (decide (xa = xb)) == 1)) = false := by
    by_cases e : xa = xb
    · rw [(e1 e).1, (e1 e).2]; rfl
    · rw [(e2 e).1, beq_eq_false_iff_ne.mpr (e2 e).2]; rfl
  (clear r33; clear r7 Z61 Z306; clear s40 orderS; clear r273; clear r33; clear r7 Z60 Z305; clear s40 equalS; clear r273)
  refine x_if ?_
  (clear r48; clear r43; clear r7 Z61 Z306; clear s40 orderS; clear s9 UnaryOp_; clear r0; clear s9 o_neg; clear s9 ne_int; clear r129; clear r132; clear r48; clear r42; clear r7 Z60 Z305; clear s40 equalS; clear s9 ne_int; clear r129; clear r132; clear r48; clear r42; clear r8; clear r1 Z58; clear r109 Z303; clear r126; clear r127; clear r1 Z47; clear r127; clear r28; clear r272; clear r125; clear r128; clear s41 num_equals; clear s9 ne_int; clear r129; clear r132; clear s9 isTrue_or_nil; clear r132)
  refine x_ifn ‹_› ‹_› ‹_› ?J ?K
  case J =>
    by_cases e : xa = xb
    · have f1 := (e1 e).1
      (clear r48; clear r43; clear s10 ce2; clear s9 eq_int; clear s10 ce2; clear s9 eq_int; clear s9 ne_bool; clear r129; clear r132; clear r48; clear s9 t_and; clear r41; clear s9 eq_int; clear r129; clear r133; clear s9 t_and; clear s9 isTrue_not; (refine isTrue_plain ?_ ?he; (case he => exact rfl)); clear r7 Z64 Z309; clear r260; clear r129; clear r132; clear r132; clear s9 isTrue_or_nil; rotate_left; rotate_left)
      · exact Nay.mk rfl ‹_› ‹_› H' (by intro f hf; repeat (first | exact hf | refine List.mem_cons_of_mem _ ?_))
      · exact e
    · have f1 := (e2 e).1
      (clear r48; clear r43; clear s10 ce2; clear s9 eq_int; clear s10 ce2; clear s9 eq_int; clear s9 ne_bool; clear r129; clear r132; clear r48; clear s9 t_and; clear r41; clear s9 eq_int; clear r129; clear r132; clear r132; clear s9 isTrue_or_nil)
      exact Nay.mk rfl ‹_› ‹_› H' (by intro f hf; repeat (first | exact hf | refine List.mem_cons_of_mem _ ?_))
  case K =>
    intro h1 tk1 n1 F1 N1 H1
    (clear r33; clear r7 Z61 Z306; clear s40 orderS; clear r273; clear r33; clear r7 Z61 Z306; clear s40 orderS; clear r273)
    have m1 := @cmpS_min xa.cps.toList xb.cps.toList xc.cps.toList
    have m2 := @cmpS_max xa.cps.toList xb.cps.toList xc.cps.toList
    refine x_ifn ‹_› ‹_› ‹_› ?J ?K
    case J =>
      rcases cmpS_cases xa.cps.toList xb.cps.toList with ⟨-, q1, -⟩ | ⟨-, q1, -⟩ | ⟨-, q1, -⟩
      all_goals rcases cmpS_cases xb.cps.toList xc.cps.toList with ⟨-, q2, -⟩ | ⟨-, q2, -⟩ | ⟨-, q2, -⟩
      all_goals (try have q3 := m1 (by lia) (by lia))
      all_goals (try have q4 := m2 (by lia) (by lia))
      all_goals (first | (clear r48; clear s9 t_and; clear r41; clear s9 le_int; clear r129; clear r133; clear s9 t_and; clear r41; clear s9 le_int; clear r129; clear r133; clear s9 t_and; clear r42; clear r8; clear r2 Z92; clear r107; clear s45 i_min; clear s9 ne_int; clear r129; clear r132; clear r132; clear r48; clear s9 t_and; clear r41; clear s9 ge_int; clear r129; clear r133; clear s9 t_and; clear r41; clear s9 ge_int; clear r129; clear r133; clear s9 t_and; clear r42; clear r8; clear r2 Z93; clear r107; clear s45 i_max; clear s9 ne_int; clear r129; clear r132; clear r132; clear s9 isTrue_or_nil) | (clear r48; clear s9 t_and; clear r41; clear s9 le_int; clear r129; clear r133; clear s9 t_and; clear r41; clear s9 le_int; clear r129; clear r133; clear s9 t_and; clear r42; clear r8; clear r2 Z92; clear r107; clear s45 i_min; clear s9 ne_int; clear r129; clear r132; clear r132; clear r48; clear s9 t_and; clear r41; clear s9 ge_int; clear r129; clear r133; clear s9 t_and; clear r41; clear s9 ge_int; clear r129; clear r132; clear r132; clear s9 isTrue_or_nil) | (clear r48; clear s9 t_and; clear r41; clear s9 le_int; clear r129; clear r133; clear s9 t_and; clear r41; clear s9 le_int; clear r129; clear r132; clear r132; clear r48; clear s9 t_and; clear r41; clear s9 ge_int; clear r129; clear r133; clear s9 t_and; clear r41; clear s9 ge_int; clear r129; clear r133; clear s9 t_and; clear r42; clear r8; clear r2 Z93; clear r107; clear s45 i_max; clear s9 ne_int; clear r129; clear r132; clear r132; clear s9 isTrue_or_nil) | (clear r48; clear s9 t_and; clear r41; clear s9 le_int; clear r129; clear r133; clear s9 t_and; clear r41; clear s9 le_int; clear r129; clear r133; clear s9 t_and; clear r42; clear r8; clear r2 Z92; clear r107; clear s45 i_min; clear s9 ne_int; clear r129; clear r132; clear r132; clear r48; clear s9 t_and; clear r41; clear s9 ge_int; clear r129; clear r132; clear r132; clear s9 isTrue_or_nil) | (clear r48; clear s9 t_and; clear r41; clear s9 le_int; clear r129; clear r132; clear r132; clear r48; clear s9 t_and; clear r41; clear s9 ge_int; clear r129; clear r133; clear s9 t_and; clear r41; clear s9 ge_int; clear r129; clear r133; clear s9 t_and; clear r42; clear r8; clear r2 Z93; clear r107; clear s45 i_max; clear s9 ne_int; clear r129; clear r132; clear r132; clear s9 isTrue_or_nil) | (clear r48; clear s9 t_and; clear r41; clear s9 le_int; clear r129; clear r133; clear s9 t_and; clear r41; clear s9 le_int; clear r129; clear r132; clear r132; clear r48; clear s9 t_and; clear r41; clear s9 ge_int; clear r129; clear r132; clear r132; clear s9 isTrue_or_nil) | (clear r48; clear s9 t_and; clear r41; clear s9 le_int; clear r129; clear r132; clear r132; clear r48; clear s9 t_and; clear r41; clear s9 ge_int; clear r129; clear r133; clear s9 t_and; clear r41; clear s9 ge_int; clear r129; clear r132; clear r132; clear s9 isTrue_or_nil))
      all_goals exact Nay.mk rfl ‹_› ‹_› ‹_› (fun f hf => hf)
    case K =>
      intro h1 tk1 n1 F1 N1 H1
      refine x_if ?_
      (clear r43; clear r8; clear r1 Z61; clear r109 Z306; clear r126; clear r127; clear r7 Z65 Z310; clear r255; clear r127; clear r7 Z65 Z310; clear r255; clear r125; clear r128; clear s40 orderS; clear r0; clear s9 ne_int; clear r129)
      have f1 : ∀ u v : Str, u = xc ++ xa → v = xc ++ xb → cmpS u.cps.toList v.cps.toList = cmpS xa.cps.toList xb.cps.toList := fun u v e e' => by rw [e, e', app_list, app_list, cmpS_app]
      have f1 := f1 _ _ ‹_› ‹_›
      have f2 : ∀ u : Str, u = xa ++ xb → cmpS u.cps.toList xa.cps.toList = sgn ((xb.length : Nat) : Int) := fun u e => by rw [e, app_list, cmpS_pre, strlen]
      (clear r132)
      refine x_if ?_
      (clear r43; clear r8; clear r1 Z61; clear r109 Z306; clear r126; clear r127; clear r7 Z65 Z310; clear r255; clear r126; clear r125; clear r128; clear s40 orderS; clear r8; clear r1 Z70; clear r109 Z315; clear r127; clear r7 Z62 Z307; clear r251; clear r125; clear r128; clear s46 law_sign; clear s9 ne_int; clear r129)
      have f2 := f2 _ ‹_›
      (clear r132; clear r33; clear r7 Z62 Z307; clear r251; clear r273; clear r33; clear r7 Z62 Z307; clear r251; clear r273; clear r33; clear r3; clear r273)
      replace H' := H'.sub (Φ' := Φ) (by intro f hf; repeat (first | exact hf | refine List.mem_cons_of_mem _ ?_))
      refine x_while ‹_› ‹_› H' (fun k vals st' Φ' => ∃ (i : Nat) (t t1 t2 t3 t4 t5 t6 : Tok) (b' : Nat), vals = [some (.ref P.w), some (.ref a), some (.ref b), some (.ref c), some (.int (cmpS xa.cps.toList xb.cps.toList) t1), some (.int (b2i (decide (xa = xb))) t2), some (.int (cmpS xb.cps.toList xc.cps.toList) t3), some (.int (cmpS xa.cps.toList xc.cps.toList) t4), some (.int (xa.length : Nat) t5), some (.int (xb.length : Nat) t6), some (.int (i : Nat) t), none] ∧
        i ≤ xa.length ∧ i ≤ xb.length ∧ xa.cps.toList.take i = xb.cps.toList.take i ∧ k = xa.length - i ∧ st' = ⟨st.T, st.th, b', st.fc⟩ ∧ st.b ≤ b' ∧ b' ≤ st.b + 3 ∧ Φ = Φ') xa.length ⟨0, _, _, _, _, _, _, _, _, rfl, Nat.zero_le _, Nat.zero_le _, rfl, rfl, rfl, (by (try dsimp only); lia), (by (try dsimp only); lia), rfl⟩ ?_
      rintro k _ _ n2 _ h2 tk2 ⟨i, t, u1, u2, u3, u4, u5, u6, b', rfl, hi, hj, htk, rfl, rfl, b0, b1, rfl⟩ F2 N2 H2
      obtain ⟨g1, g2, g3⟩ := cmpS_at i xa.cps.toList xb.cps.toList htk (by rw [← strlen]; exact hi) (by rw [← strlen]; exact hj)
      have f3 : ∀ u v : Str, u = cut xa ((i : Nat) : Int).toNat (((xa.length : Nat) : Int) - ((i : Nat) : Int)).toNat → v = cut xb ((i : Nat) : Int).toNat (((xb.length : Nat) : Int) - ((i : Nat) : Int)).toNat → cmpS u.cps.toList v.cps.toList = cmpS xa.cps.toList xb.cps.toList := fun u v e e' => by
        have q1 : (((xa.length : Nat) : Int) - ((i : Nat) : Int)).toNat = xa.length - i := by lia
        have q2 : (((xb.length : Nat) : Int) - ((i : Nat) : Int)).toNat = xb.length - i := by lia
        rw [e, e', q1, q2, Int.toNat_natCast, cut_drop, cut_drop]; exact g1
      by_cases c1 : i < xa.length
      · by_cases c2 : i < xb.length
        · by_cases c3 : xa.cps.toList.getD ((i : Nat) : Int).toNat 0 = xb.cps.toList.getD ((i : Nat) : Int).toNat 0
          · clear g1 g2 g3 f3
            (clear s9 t_and; clear r41; clear s9 lt_int; clear r129; clear r133; clear s9 t_and; clear r41; clear s9 lt_int; clear r129; clear r133; clear s9 t_and; clear r43; clear r7 Z67 Z312; clear r252; clear r7 Z67 Z312; clear r252; clear s9 eq_int; clear r129; clear r133; clear s9 isTrue_and_nil; clear r133; clear s9 x_augn; (with_reducible refine l_loc ‹_› ‹_› ‹1› ?_); clear r3; clear s9 o_iadd; clear r273; clear s9 wpAny_execs_nil)
            refine Wd.next (n' := xa.length - (i + 1)) Φ ‹_› ‹_› H' (fun f hf => hf) (by lia) ⟨i + 1, _, _, _, _, _, _, _, _, rfl, by lia, by lia, ?_, rfl, rfl, b0, b1, rfl⟩
            rw [List.take_add_one, List.take_add_one, htk]
            congr 1
            simp only [Int.toNat_natCast, List.getD_eq_getElem?_getD] at c3
            have l1 : i < xa.cps.toList.length := by rw [← strlen]; exact c1
            have l2 : i < xb.cps.toList.length := by rw [← strlen]; exact c2
            rw [List.getElem?_eq_getElem l1, List.getElem?_eq_getElem l2] at c3 ⊢
            simp only [Option.getD_some] at c3
            rw [c3]
          · have g3 := g3 (by rw [← strlen]; exact c1) (by rw [← strlen]; exact c2) c3
            clear g1 g2
            have f3 := f3
            (clear s9 t_and; clear r41; clear s9 lt_int; clear r129; clear r133; clear s9 t_and; clear r41; clear s9 lt_int; clear r129; clear r133; clear s9 t_and; clear r43; clear r7 Z67 Z312; clear r252; clear r7 Z67 Z312; clear r252; clear s9 eq_int; clear r129; clear r132; clear r132; clear r33; clear r8; clear r1 Z70; clear r109 Z315; clear r127; clear r16; clear s9 o_sub; clear r125; clear r128; clear s46 law_sign; clear r273)
            refine x_if ?_
            (clear s9 t_and; clear r41; clear s9 lt_int; clear r129; clear r133; clear s9 t_and; clear r41; clear s9 lt_int; clear r129; clear r133; clear s9 isTrue_and_nil; clear r133; clear r33; clear r8; clear r1 Z70; clear r109 Z315; clear r127; clear s9 wpAny_BinOp; clear r7 Z67 Z312; clear r252; clear r7 Z67 Z312; clear r252; clear s9 o_sub; clear r125; clear r128; clear s46 law_sign; clear r273; clear s9 wpAny_execs_nil; clear s9 Thn.next; clear r31; clear s9 e_and; clear s10 ce2; clear s9 eq_int; clear r129; clear r133; clear s9 BoolOp_one; clear r21; clear r8; clear r1 Z61; clear r109 Z306; clear r126; clear r127; clear r8; clear r1 Z63; clear r109 Z308; clear r126; clear r126; clear r126; clear r127; clear r16; clear s9 o_sub; clear r125; clear r128; clear r259; clear r127; clear r8; clear r1 Z63; clear r109 Z308; clear r126; clear r126; clear r126; clear r127; clear r16; clear s9 o_sub; clear r125; clear r128; clear r259; clear r125; clear r128; clear s40 orderS; clear r0; clear s9 eq_int; clear r134)
            refine (?_ : ∀ v, v = true → Q (.bool v) _) _ ?_
            · rintro _ rfl; exact hret _ _ _ _ (.same (b := b' + 1 + 1) (by (try dsimp only); lia) (by (try dsimp only); lia)) kF kN (H'.sub (by intro f hf; repeat (first | exact hf | refine List.mem_cons_of_mem _ ?_)))
            · exact beq_iff_eq.mpr (f3 _ _ ‹_› ‹_›)
        · have g2 := g2 (.inr (by rw [← strlen]; lia))
          rw [← strlen, ← strlen] at g2
          clear g1 g3
          have f3 := f3
          (clear s9 t_and; clear r41; clear s9 lt_int; clear r129; clear r133; clear s9 t_and; clear r41; clear s9 lt_int; clear r129; clear r132; clear r132; clear r33; clear r8; clear r1 Z70; clear r109 Z315; clear r127; clear r16; clear s9 o_sub; clear r125; clear r128; clear s46 law_sign; clear r273)
          refine x_if ?_
          (clear s9 t_and; clear r41; clear s9 lt_int; clear r129; clear r133; clear s9 t_and; clear r41; clear s9 lt_int; clear r129; clear r132; clear r132; clear r31; clear s9 e_and; clear s10 ce2; clear s9 eq_int; clear r129; clear r133; clear s9 BoolOp_one; clear r21; clear r8; clear r1 Z61; clear r109 Z306; clear r126; clear r127; clear r8; clear r1 Z63; clear r109 Z308; clear r126; clear r126; clear r126; clear r127; clear r16; clear s9 o_sub; clear r125; clear r128; clear r259; clear r127; clear r8; clear r1 Z63; clear r109 Z308; clear r126; clear r126; clear r126; clear r127; clear r16; clear s9 o_sub; clear r125; clear r128; clear r259; clear r125; clear r128; clear s40 orderS; clear r0; clear s9 eq_int; clear r134)
          refine (?_ : ∀ v, v = true → Q (.bool v) _) _ ?_
          · rintro _ rfl; exact hret _ _ _ _ (.same (b := b' + 1 + 1) (by (try dsimp only); lia) (by (try dsimp only); lia)) kF kN (H'.sub (by intro f hf; repeat (first | exact hf | refine List.mem_cons_of_mem _ ?_)))
          · exact beq_iff_eq.mpr (f3 _ _ ‹_› ‹_›)
      · have g2 := g2 (.inl (by rw [← strlen]; lia))
        rw [← strlen, ← strlen] at g2
        clear g1 g3
        have f3 := f3
        (clear s9 t_and; clear r41; clear s9 lt_int; clear r129; clear r132; clear r132; clear r33; clear r8; clear r1 Z70; clear r109 Z315; clear r127; clear r16; clear s9 o_sub; clear r125; clear r128; clear s46 law_sign; clear r273)
        refine x_if ?_
        (clear s9 t_and; clear r41; clear s9 lt_int; clear r129; clear r132; clear r132; clear r31; clear s9 e_and; clear s10 ce2; clear s9 eq_int; clear r129; clear r133; clear s9 BoolOp_one; clear r21; clear r8; clear r1 Z61; clear r109 Z306; clear r126; clear r127; clear r8; clear r1 Z63; clear r109 Z308; clear r126; clear r126; clear r126; clear r127; clear r16; clear s9 o_sub; clear r125; clear r128; clear r259; clear r127; clear r8; clear r1 Z63; clear r109 Z308; clear r126; clear r126; clear r126; clear r127; clear r16; clear s9 o_sub; clear r125; clear r128; clear r259; clear r125; clear r128; clear s40 orderS; clear r0; clear s9 eq_int; clear r134)
        refine (?_ : ∀ v, v = true → Q (.bool v) _) _ ?_
        · rintro _ rfl; exact hret _ _ _ _ (.same (b := b' + 1 + 1) (by (try dsimp only); lia) (by (try dsimp only); lia)) kF kN (H'.sub (by intro f hf; repeat (first | exact hf | refine List.mem_cons_of_mem _ ?_)))
        · exact beq_iff_eq.mpr (f3 _ _ ‹_› ‹_›)
theorem law_ordered {a b c na nb nc} {xa xb xc : Str} (O : Ok w A h₀ L 22) (F : Fr h₀ L hp m) (N : News h₀ L hp (X ++ news)) (H : Hs w P X st news Φ) (ha : Fact.tv a na (some xa) ∈ Φ) (hb : Fact.tv b nb (some xb) ∈ Φ) (hc : Fact.tv c nc (some xc) ∈ Φ) (za : xa.length ≤ 6) (zb : xb.length ≤ 6) (zc : xc.length ≤ 6) (hz : st.b ≤ 800000)
    (hret : ∀ st' news' h' tk', Kept 1000 st st' → Fr h₀ L h' m → News h₀ L h' (X ++ news') → Hs w P X st' news' Φ → Q (.bool true) ⟨h', gn, dr, tk', oS⟩) :
    wpAny (model PR w) A (call (.ref 935) [.ref P.w, .ref a, .ref b, .ref c]) Q E ⟨hp, gn, dr, tk, oS⟩ := law_ordered_r (((((((((((((((((((((((((w, A), h₀), L), m), hp), gn), dr), tk), oS), P), X), news), st), Φ), Q), E), a), b), c), na), nb), nc), xa), xb), xc) O F N H ha hb hc za zb zc hz hret

end
end Mine
end S14_
section S15_
namespace Mine

set_option hygiene false in
local macro_rules | `(tactic| walk_at "ENTER") => `(tactic| ((case ho => k_is); (case hcd => k_is); (case hb => exact rfl); (case hl => exact rfl); (case hS => exact rfl); (case hc => exact rfl); (case hv => exact rfl); (case hpm => exact rfl); ((try clear F' N'); intro g' L' h' tk' p' lo' me' mg' mb' S' O' X' T' F' N'); have Z' := Zn.mk S' X' ⟨_, _, _, _, _, T'⟩))
section
variable {w : World} {A : Around} {h₀ : Heap} {L : Addr} {m : Str → Option Value} {hp : Heap} {gn : Array GenState} {dr : Drawn} {tk : Nat} {oS : OsState} {P : Pl} {X news led : Led} {st : St} {σ : Sg} {Φ : List Fact} {Q E : Value → Shared → Prop}

theorem cut_cutI (x : Str) {i k j n : Int} (h0 : 0 ≤ i) (h1 : 0 ≤ j) (h2 : 0 ≤ n) (h3 : j + n ≤ k) : cut (cut x i.toNat k.toNat) j.toNat n.toNat = cut x (i + j).toNat n.toNat := by
  rw [@cut_cut x i.toNat k.toNat j.toNat n.toNat (by lia)]; congr 1; lia

def law_nested_S (a b c : Addr) (na nb nc : Nat) (oa ob oc : Option Str) (z : Int) (tz : Tok) : Prop := ∀ (O : Ok w A h₀ L 22) (F : Fr h₀ L hp m) (N : News h₀ L hp (X ++ news)) (H : Hs w P X st news Φ) (ha : Fact.tv a na oa ∈ Φ) (hb : Fact.tv b nb ob ∈ Φ) (hc : Fact.tv c nc oc ∈ Φ) (za : (gd oa).length ≤ 6) (zb : (gd ob).length ≤ 6) (zc : (gd oc).length ≤ 6) (hz : st.b ≤ 800000) (hT : st.T.length ≤ 999) (hT2 : st.fc.length ≤ 999) (hret : ∀ st' news' h' tk', Kept 1000 st st' → Fr h₀ L h' m → News h₀ L h' (X ++ news') → Hs w P X st' news' Φ → Q (.bool true) ⟨h', gn, dr, tk', oS⟩), wpAny (model PR w) A (call (.ref 942) [.ref P.w, .ref a, .ref b, .ref c, .int z tz]) Q E ⟨hp, gn, dr, tk, oS⟩
theorem law_nested_r : ∀ r : (((((((((((HT17 × Addr) × Addr) × Addr) × Nat) × Nat) × Nat) × (Option Str)) × (Option Str)) × (Option Str)) × Int) × Tok), (c17 (@law_nested_S) r.1.1.1.1.1.1.1.1.1.1.1) r.1.1.1.1.1.1.1.1.1.1.2 r.1.1.1.1.1.1.1.1.1.2 r.1.1.1.1.1.1.1.1.2 r.1.1.1.1.1.1.1.2 r.1.1.1.1.1.1.2 r.1.1.1.1.1.2 r.1.1.1.1.2 r.1.1.1.2 r.1.1.2 r.1.2 r.2 := by
  refine ep_all (ne := by walk_at "NE") ((?_ : ∀ w A h₀ L m hp gn dr tk oS P X news st Φ Q E a b c na nb nc oa ob oc z tz, @law_nested_S w A h₀ L m hp gn dr tk oS P X news st Φ Q E a b c na nb nc oa ob oc z tz) _ _ _ _ _ _ _ _ _ _ _ _ _ _ _ _ _ _ _ _ _ _ _ _ _ _ _ _)
  intro w A h₀ L m hp gn dr tk oS P X news st Φ Q E a b c na nb nc oa ob oc z tz O F N H ha hb hc za zb zc hz hT hT2 hret
  refine' callfE (d := 21) ["w", "a", "b", "c", "z"] ["whole", "n", "i", "k", "j", "m", "inner"] ["_law_join", "_law_one", "_law_long", "_law_part", "_law_keep"] [some (.ref P.w), some (.ref a), some (.ref b), some (.ref c), some (.int z tz), none, none, none, none, none, none, none] O F N ?ho ?hcd ?hb ?hl ?hS ?hc ?hv ["w", "a", "b", "c", "z", "whole", "n", "i", "k", "j", "m", "inner"] ?hpm ?_
  walk_at "ENTERE"
  ((focus clear r33); (focus clear r8); (focus clear r1 Z65); (focus clear r109 Z310); (focus clear r126); (focus clear r127); (focus clear r7 Z65 Z310); (focus clear s39 joinG); (focus clear r126); (focus clear r125); (focus clear r128); (focus clear s39 joinA); (focus clear r273); (focus clear r32); (focus clear s9 isTrue_not); (focus (refine isTrue_plain ?_ ?he; (case he => exact rfl))); (focus clear r8); (focus clear r1 Z64); (focus clear r109 Z309); (focus clear r126); (focus clear r126); (focus clear r127); (focus clear r8); (focus clear r1 Z65); (focus clear r109 Z310); (focus clear r126); (focus clear r126); (focus clear r127); (focus clear r7 Z65 Z310); (focus clear s39 joinG); (focus clear r125); (focus clear r128); (focus clear s39 joinB); (focus clear r125); (focus clear r128); (focus clear r260); (focus clear r129); (focus clear r132); (focus clear r33); (focus clear r7 Z62 Z307); (focus clear r251); (focus clear r273); (focus clear r33); (focus clear s3 bi1); (focus clear r16); (focus clear s9 o_add); (focus clear s47 o_emodB); (focus clear r273); (focus clear r33); (focus clear s9 wpAny_BinOp); (focus clear r16); (focus clear s9 o_sub); (focus clear s9 wpAny_BinOp); (focus clear r16); (focus clear s48 o_fdivB); (focus clear s9 wpAny_BinOp); (focus clear r16); (focus clear s9 o_sub); (focus clear r3); (focus clear s9 o_add); (focus clear s47 o_emodB); (focus clear s9 o_sub); (focus clear r273); (focus clear r33); (focus clear s9 wpAny_BinOp); (focus clear r16); (focus clear s48 o_fdivB); (focus clear r16); (focus clear s9 o_add); (focus clear s47 o_emodB); (focus clear r273); (focus clear r33); (focus clear s9 wpAny_BinOp); (focus clear r16); (focus clear s9 o_sub); (focus clear s9 wpAny_BinOp); (focus clear r16); (focus clear s48 o_fdivB); (focus clear s9 wpAny_BinOp); (focus clear r16); (focus clear s9 o_sub); (focus clear r3); (focus clear s9 o_add); (focus clear s47 o_emodB); (focus clear s9 o_sub); (focus clear r273); (focus clear r33); (focus clear r8); (focus clear r1 Z63); (focus clear r109 Z308); (focus clear r126); (focus clear r127); (focus clear r7 Z63 Z308); (focus clear r259); (focus clear r126); (focus clear r126); (focus clear r125); (focus clear r128); (focus clear r259); (focus clear r273); (focus clear s19 x_expr); (focus clear r7 Z68 Z313); (focus ((with_reducible refine law_keep ‹8› ‹_› ‹_› ‹_› ‹0› ?za ?hz ?hz2 ?_); (case za => (first | assumption | lia | (dsimp only; lia))); (case hz => (first | assumption | lia | (dsimp only; lia))); (case hz2 => (first | assumption | lia | (dsimp only; lia))); ((try clear H'); (try clear F' N'); intro st' n' h' tk' K' F' N' H'); have kb' := Kept.le K'; (try dsimp only at kb'))); (focus clear r31); (focus clear s9 e_and); (focus clear r21); (focus clear r7 Z62 Z307); (focus clear r251); (focus clear r0); (focus clear s9 eq_int); (focus clear r129); (focus clear r133); (focus clear s9 BoolOp_one); (focus clear r8); (focus clear r1 Z64); (focus clear r109 Z309); (focus clear r126); (focus clear r126); (focus clear r127); (focus clear r8); (focus clear r1 Z63); (focus clear r109 Z308); (focus clear r126); (focus clear r126); (focus clear r127); (focus clear r16); (focus clear s9 o_add); (focus clear r126); (focus clear r125); (focus clear r128); (focus clear r259); (focus clear r125); (focus clear r128); (focus clear r260); (focus clear r134); rotate_left; rotate_left; rotate_left)
  · refine hret _ _ _ _ (K'.fin (e := st'.b + 1) rfl rfl rfl (by (try dsimp only); lia) (by lia) (by lia)) kF kN (H'.sub (by intro f hf; repeat (first | exact hf | refine List.mem_cons_of_mem _ ?_)))
  · subst_vars; exact cut_cutI _ (by lia) (by lia) (by lia) (by lia)
  · subst_vars; exact app_assoc _ _ _
theorem law_nested {a b c na nb nc} {oa ob oc : Option Str} {z : Int} {tz : Tok} (O : Ok w A h₀ L 22) (F : Fr h₀ L hp m) (N : News h₀ L hp (X ++ news)) (H : Hs w P X st news Φ) (ha : Fact.tv a na oa ∈ Φ) (hb : Fact.tv b nb ob ∈ Φ) (hc : Fact.tv c nc oc ∈ Φ) (za : (gd oa).length ≤ 6) (zb : (gd ob).length ≤ 6) (zc : (gd oc).length ≤ 6) (hz : st.b ≤ 800000) (hT : st.T.length ≤ 999) (hT2 : st.fc.length ≤ 999)
    (hret : ∀ st' news' h' tk', Kept 1000 st st' → Fr h₀ L h' m → News h₀ L h' (X ++ news') → Hs w P X st' news' Φ → Q (.bool true) ⟨h', gn, dr, tk', oS⟩) :
    wpAny (model PR w) A (call (.ref 942) [.ref P.w, .ref a, .ref b, .ref c, .int z tz]) Q E ⟨hp, gn, dr, tk, oS⟩ := law_nested_r (((((((((((((((((((((((((((w, A), h₀), L), m), hp), gn), dr), tk), oS), P), X), news), st), Φ), Q), E), a), b), c), na), nb), nc), oa), ob), oc), z), tz) O F N H ha hb hc za zb zc hz hT hT2 hret

def ofU (us : List Int) : Str := ⟨(us.map Int.toNat).toArray⟩
theorem ofU_list (us : List Int) : (ofU us).cps.toList = us.map Int.toNat := by simp [ofU]
theorem ofU_snoc (us : List Int) (u : Int) : ofU us ++ ⟨#[u.toNat]⟩ = ofU (us ++ [u]) := str_ext (by rw [app_list, ofU_list, ofU_list]; simp)
theorem ofU_len (us : List Int) : (ofU us).length = us.length := by rw [strlen, ofU_list]; simp

end
section
variable {w : World} {A : Around} {h₀ : Heap} {L : Addr} {m : Str → Option Value} {hp : Heap} {gn : Array GenState} {dr : Drawn} {tk : Nat} {oS : OsState} {P : Pl} {X news led : Led} {st : St} {σ : Sg} {Φ : List Fact} {Q E : Value → Shared → Prop}

def law_units_S (l : Addr) (vs : List Value) (k : Nat) (us : List Int) : Prop := ∀ (O : Ok w A h₀ L 2) (F : Fr h₀ L hp m) (N : News h₀ L hp (X ++ news)) (H : Hs w P X st news Φ) (hl : Fact.ent l (listOf vs.toArray k) ∈ Φ ∨ (l, listOf vs.toArray k) ∈ X) (hu : IntsAre vs us) (hr : ∀ u ∈ us, 0 ≤ u ∧ u ≤ 1114111) (hz : us.length ≤ 1000) (hret : ∀ t' news' h' tk', Fr h₀ L h' m → News h₀ L h' (X ++ news') → Hs w P X st news' Φ → Q (.str (ofU us) t') ⟨h', gn, dr, tk', oS⟩), wpAny (model PR w) A (call (.ref 809) [.ref l]) Q E ⟨hp, gn, dr, tk, oS⟩
theorem law_units_r : ∀ r : ((((HT17 × Addr) × (List Value)) × Nat) × (List Int)), (c17 (@law_units_S) r.1.1.1.1) r.1.1.1.2 r.1.1.2 r.1.2 r.2 := by
  refine ep_all (ne := by walk_at "NE") ((?_ : ∀ w A h₀ L m hp gn dr tk oS P X news st Φ Q E l vs k us, @law_units_S w A h₀ L m hp gn dr tk oS P X news st Φ Q E l vs k us) _ _ _ _ _ _ _ _ _ _ _ _ _ _ _ _ _ _ _ _ _)
  intro w A h₀ L m hp gn dr tk oS P X news st Φ Q E l vs k us O F N H hl hu hr hz hret
  refine' callfE (d := 1) ["units"] ["text", "u"] ["chr"] [some (.ref l), none, none] O F N ?ho ?hcd ?hb ?hl ?hS ?hc ?hv ["units", "text", "u"] ?hpm ?_
  walk_at "ENTERE"
  have hlen := hu.length
  (clear r33; clear s9 e_str; clear r124; clear r194; clear r0)
  refine for_lst (vs := vs) (Φ := []) Φ O'.hand ‹_› ‹_› (H.sub (by simp)) hl (fun i vals st' Φ' => ∃ t v, vals = [some (.ref l), some (.str (ofU (us.take i)) t), v] ∧ st' = st ∧ Φ' = []) ⟨_, _, rfl, rfl, rfl⟩ ?_ ?_
  · rintro i v h1 tk1 X1 _ _ n1 _ hi hv ⟨t0, v0, rfl, rfl, rfl⟩ hX F1 N1 H1
    obtain ⟨u, tu, rfl, hu'⟩ := ints_get hu hv
    have hb := hr u (List.mem_of_getElem? hu')
    have F2 := fr_put S' F1 (by walk_at "PUT")
    clear F1
    have hl1 := ofU_len (us.take i)
    have hl2 : (us.take i).length ≤ us.length := by simp; lia
    have hl3 : (⟨#[u.toNat]⟩ : Str).length = 1 := rfl
    (clear r33; clear s3 bi1; clear r8; clear r2 Z90; clear r107; ((with_reducible refine s_chr ?hi ?_); (case hi => (first | assumption | lia | (dsimp only; lia))); skip); ((with_reducible show wpAny _ _ (binaryOp _ _ _) _ _ _); ((with_reducible refine o_adds ?hz ?_); (case hz => (first | assumption | lia | (dsimp only; lia))); intro t' tk')); clear r124; clear s9 wpAny_execs_nil)
    have e : ofU (us.take i) ++ ⟨#[u.toNat]⟩ = ofU (us.take (i + 1)) := by
      rw [ofU_snoc, List.take_add_one, hu']; rfl
    rw [e] at F'
    exact Bd.next [] F' ‹_› H1 (fun f hf => hf) ⟨_, _, rfl, rfl, rfl⟩
  · rintro h1 tk1 _ _ n1 _ ⟨t0, v0, rfl, rfl, rfl⟩ F1 N1 H1
    rw [show vs.length = us.length by lia, List.take_length] at F1
    (clear s9 Thn.next; clear s3 re1; clear r134)
    exact hret _ _ _ _ kF kN (H1.sub (by simp))
theorem law_units {l vs k us} (O : Ok w A h₀ L 2) (F : Fr h₀ L hp m) (N : News h₀ L hp (X ++ news)) (H : Hs w P X st news Φ) (hl : Fact.ent l (listOf vs.toArray k) ∈ Φ ∨ (l, listOf vs.toArray k) ∈ X) (hu : IntsAre vs us) (hr : ∀ u ∈ us, 0 ≤ u ∧ u ≤ 1114111) (hz : us.length ≤ 1000)
    (hret : ∀ t' news' h' tk', Fr h₀ L h' m → News h₀ L h' (X ++ news') → Hs w P X st news' Φ → Q (.str (ofU us) t') ⟨h', gn, dr, tk', oS⟩) :
    wpAny (model PR w) A (call (.ref 809) [.ref l]) Q E ⟨hp, gn, dr, tk, oS⟩ := law_units_r ((((((((((((((((((((w, A), h₀), L), m), hp), gn), dr), tk), oS), P), X), news), st), Φ), Q), E), l), vs), k), us) O F N H hl hu hr hz hret

end
end Mine
end S15_
section S16_
namespace Mine

set_option hygiene false in
local macro_rules | `(tactic| walk_at "ENTER") => `(tactic| ((case ho => k_is); (case hcd => k_is); (case hb => exact rfl); (case hl => exact rfl); (case hS => exact rfl); (case hc => exact rfl); (case hv => exact rfl); (case hpm => exact rfl); ((try clear F' N'); intro g' L' h' tk' p' lo' me' mg' mb' S' O' X' T' F' N'); have Z' := Zn.mk S' X' ⟨_, _, _, _, _, T'⟩))
section
variable {w : World} {A : Around} {h₀ : Heap} {L : Addr} {m : Str → Option Value} {hp : Heap} {gn : Array GenState} {dr : Drawn} {tk : Nat} {oS : OsState} {P : Pl} {X news led : Led} {st : St} {σ : Sg} {Φ : List Fact} {Q E : Value → Shared → Prop}

def law_place_S (n : Int) (t : Tok) (z : Int) (u : Tok) : Prop := ∀ (O : Ok w A h₀ L 1) (F : Fr h₀ L hp m) (N : News h₀ L hp (led)) (h0 : 0 ≤ n) (h1 : n ≤ 1000) (hret : ∀ v t' h' tk', -1 ≤ v → v ≤ 2147483647 → Fr h₀ L h' m → News h₀ L h' led → Q (.int v t') ⟨h', gn, dr, tk', oS⟩), wpAny (model PR w) A (call (.ref 956) [.int n t, .int z u]) Q E ⟨hp, gn, dr, tk, oS⟩
theorem law_place_r : ∀ r : ((((HT13 × Int) × Tok) × Int) × Tok), (c13 (@law_place_S) r.1.1.1.1) r.1.1.1.2 r.1.1.2 r.1.2 r.2 := by
  refine ep_all (ne := by walk_at "NE") ((?_ : ∀ w A h₀ L m hp gn dr tk oS led Q E n t z u, @law_place_S w A h₀ L m hp gn dr tk oS led Q E n t z u) _ _ _ _ _ _ _ _ _ _ _ _ _ _ _ _ _)
  intro w A h₀ L m hp gn dr tk oS led Q E n t z u O F N h0 h1 hret
  refine' callfE (d := 0) ["n", "z"] [] [] [some (.int n t), some (.int z u)] O F N ?ho ?hcd ?hb ?hl ?hS ?hc ?hv ["n", "z"] ?hpm ?_
  walk_at "ENTERE"
  (clear r32; clear r43; clear s3 bi1; clear r16; clear s9 o_add; clear s47 o_emodB; clear r16; clear s9 o_add; clear s9 eq_int; clear r129)
  by_cases e : r' = n + 3
  · (clear r133; clear s3 re1; clear s9 Thn.ret; clear r134)
    exact hret _ _ _ _ (by lia) (by lia) kF kN
  · (clear r132; clear r31; clear s9 wpAny_BinOp; clear s3 bi1; clear r16; clear s9 o_add; clear s47 o_emodB; clear r3; clear s9 o_sub; clear r134)
    exact hret _ _ _ _ (by lia) (by lia) kF kN
theorem law_place {n t z u} (O : Ok w A h₀ L 1) (F : Fr h₀ L hp m) (N : News h₀ L hp (led)) (h0 : 0 ≤ n) (h1 : n ≤ 1000)
    (hret : ∀ v t' h' tk', -1 ≤ v → v ≤ 2147483647 → Fr h₀ L h' m → News h₀ L h' led → Q (.int v t') ⟨h', gn, dr, tk', oS⟩) :
    wpAny (model PR w) A (call (.ref 956) [.int n t, .int z u]) Q E ⟨hp, gn, dr, tk, oS⟩ := law_place_r ((((((((((((((((w, A), h₀), L), m), hp), gn), dr), tk), oS), led), Q), E), n), t), z), u) O F N h0 h1 hret

def NatB (w : World) (P : Pl) (X news : Led) (gn : Array GenState) (dr : Drawn) (oS : OsState) (k : Nat) (f l : Addr) (st : St) (i : Int) (Φ : List Fact) : Prop :=
  ∀ A h₀ L m hp tk Q E, Ok w A h₀ L 13 → Fr h₀ L hp m → News h₀ L hp (X ++ news) → (∀ t news' h' tk', Fr h₀ L h' m → News h₀ L h' (X ++ news') → Hs w P X ⟨st.T, st.th ++ [i], st.b, st.fc⟩ news' Φ → Q (.int (-2) t) ⟨h', gn, dr, tk', oS⟩) →
    wpAny (model PR w) A (call (.ref f) [.ref (P.ni k), .ref P.m, .none, .ref l]) Q E ⟨hp, gn, dr, tk, oS⟩
theorem gm_thrownH {Q : Value → List Value → Shared → Prop} (N : News h₀ L hp (X ++ news)) (H : Hs w P X st news Φ) (h : Q (.builtin "list.pop") [.ref (P.adr .thrown)] ⟨hp, gn, dr, tk, oS⟩) :
    GM (model PR w) A (.ref (P.adr .thrown)) "pop" Q E ⟨hp, gn, dr, tk, oS⟩ := let ⟨_, _, _, R, _⟩ := H; gm_thrown_pop N R h
theorem len_thrownH {i : Int} {T0 : List (Addr × Nat × Option Str)} {b0 : Nat} {f0 : List (Int × Int)} (N : News h₀ L hp (X ++ news)) (H : Hs w P X ⟨T0, [i], b0, f0⟩ news Φ) (h : Q (.int 1 (tk + 1)) ⟨hp, gn, dr, tk + 1 + 1, oS⟩) :
    wpAny (model PR w) A (call (.builtin "len") [.ref (P.adr .thrown)]) Q E ⟨hp, gn, dr, tk, oS⟩ := by
  obtain ⟨σ, mem, pool, R, I, T, Fc⟩ := H
  have e := T.th.length
  simp only [List.length_cons, List.length_nil] at e
  exact len_thrown N R (by lia) (by rw [e]; exact h)
theorem thrown_popH {i : Int} {T0 : List (Addr × Nat × Option Str)} {b0 : Nat} {f0 : List (Int × Int)} (F : Fr h₀ L hp m) (N : News h₀ L hp (X ++ news)) (H : Hs w P X ⟨T0, [i], b0, f0⟩ news Φ)
    (h : ∀ t news' h', Fr h₀ L h' m → News h₀ L h' (X ++ news') → Hs w P X ⟨T0, [], b0, f0⟩ news' Φ → Q (.int i t) ⟨h', gn, dr, tk, oS⟩) :
    wpAny (model PR w) A (call (.builtin "list.pop") [.ref (P.adr .thrown)]) Q E ⟨hp, gn, dr, tk, oS⟩ := by
  obtain ⟨σ, mem, pool, R, I, T, Fc⟩ := H
  obtain ⟨t, e⟩ : ∃ t, σ.thrown = [.int i t] := by
    have h := T.th
    generalize σ.thrown = vs at h
    cases h with
    | cons n t r => cases r; exact ⟨t, rfl⟩
  exact thrown_pop (vs := []) F N R e (by rw [e]; show 1 ≤ 1000000; lia) fun news' h' F' N' R' K' => h t news' h' F' N' (Hs.popped (st := ⟨T0, [i], b0, f0⟩) I T Fc R' .nil K')

end
set_option hygiene false in
local macro_rules | `(tactic| walk_at "ENTER") => `(tactic| ((case ho => k_is); (case hcd => k_is); (case hb => exact rfl); (case hl => exact rfl); (case hS => exact rfl); (case hc => exact rfl); (case hv => exact rfl); (case hpm => exact rfl); ((try clear F' N'); intro g' L' h' tk' p' lo' me' mg' mb' S' O' X' T' F' N'); have Z' := Zn.mk S' X' ⟨_, _, _, _, _, T'⟩))
section
variable {w : World} {A : Around} {h₀ : Heap} {L : Addr} {m : Str → Option Value} {hp : Heap} {gn : Array GenState} {dr : Drawn} {tk : Nat} {oS : OsState} {P : Pl} {X news led : Led} {st : St} {σ : Sg} {Φ : List Fact} {Q E : Value → Shared → Prop}

def ask_bad_S (k : Nat) (f l : Addr) (u : Tok) (i : Int) : Prop := ∀ (O : Ok w A h₀ L 15) (F : Fr h₀ L hp m) (N : News h₀ L hp (X ++ news)) (H : Hs w P X st news Φ) (hn : NatB w P X news gn dr oS k f l st i Φ) (K : NatK w P k f) (ht : st.th = []) (hret : ∀ r t t' news' h' tk', Fr h₀ L h' m → News h₀ L h' (X ++ news') → Hs w P X st news' (.tu r [.str "refused" t, .int i t'] :: Φ) → Q (.ref r) ⟨h', gn, dr, tk', oS⟩), wpAny (model PR w) A (call (.ref 816) [.ref P.w, .int (k : Nat) u, .ref l]) Q E ⟨hp, gn, dr, tk, oS⟩
theorem ask_bad_r : ∀ r : (((((HT17 × Nat) × Addr) × Addr) × Tok) × Int), (c17 (@ask_bad_S) r.1.1.1.1.1) r.1.1.1.1.2 r.1.1.1.2 r.1.1.2 r.1.2 r.2 := by
  refine ep_all (ne := by walk_at "NE") ((?_ : ∀ w A h₀ L m hp gn dr tk oS P X news st Φ Q E k f l u i, @ask_bad_S w A h₀ L m hp gn dr tk oS P X news st Φ Q E k f l u i) _ _ _ _ _ _ _ _ _ _ _ _ _ _ _ _ _ _ _ _ _ _)
  intro w A h₀ L m hp gn dr tk oS P X news st Φ Q E k f l u i O F N H hn K ht hret
  refine' callfE (d := 14) ["w", "number", "args"] ["m", "gave"] ["NT_STAY", "len"] [some (.ref P.w), some (.int (k : Nat) u), some (.ref l), none, none] O F N ?ho ?hcd ?hb ?hl ?hS ?hc ?hv ["w", "number", "args", "m", "gave"] ?hpm ?_
  walk_at "ENTERE"
  obtain ⟨T0, th0, b0, fc0⟩ := st
  replace ht : th0 = [] := ht
  subst ht
  (clear r33; clear r11; clear s30 w_m; clear r273; clear r33; clear s1 e_meth; clear s9 Subscript_; clear r14; clear s4 m_natives; clear r0; ((with_reducible refine NatK.item' ‹_› ‹5› ‹_› ?_ ?hs); (case hs => with_unfolding_all exact rfl)); (with_reducible refine NatK.meth ‹_› ‹_› ‹_› ‹_› ‹5› ?_); ((with_reducible refine c_mth ‹_› (NatK.keep ‹_›) ?_ ?he ?hp); (case he => exact rfl); (case hp => exact rfl)); clear r126; clear r126; clear r126; clear r125; clear r128)
  refine hn _ _ _ _ _ _ _ _ (O'.le (by decide)) ‹_› ‹_› fun t n1 h1 tk1 F1 N1 H1 => ?_
  clear H
  have H2 : Hs w P X ⟨T0, [i], b0, fc0⟩ n1 Φ := H1
  clear H1
  (clear r273; clear r32; clear s9 t_and; clear r42; clear r1 Z24; clear s9 eq_int; clear r129; clear r133; clear s9 t_and; clear r43; clear r8; clear r2 Z88; clear s23 c_blt; clear r127; clear r14; clear s4 m_thrown; clear r125; clear s6 len_thrownH; clear r3; clear s9 eq_int; clear r129; clear r133; clear s9 isTrue_and_nil; clear r133; clear r31; clear s9 Tuple_; clear r126; clear r127; clear s1 e_meth; clear r14; clear s4 m_thrown; clear s6 gm_thrownH; clear s9 c_bmt0; ((with_reducible refine thrown_popH ‹_› ‹_› ‹_› ?_); ((try clear H'); (try clear F' N'); intro t' n' h' F' N' H')); clear r125; clear r271; clear s9 Thn.ret; clear r134)
  exact hret _ _ _ _ _ _ kF kN H'
theorem ask_bad {k f l u} {i : Int} (O : Ok w A h₀ L 15) (F : Fr h₀ L hp m) (N : News h₀ L hp (X ++ news)) (H : Hs w P X st news Φ) (hn : NatB w P X news gn dr oS k f l st i Φ) (K : NatK w P k f) (ht : st.th = [])
    (hret : ∀ r t t' news' h' tk', Fr h₀ L h' m → News h₀ L h' (X ++ news') → Hs w P X st news' (.tu r [.str "refused" t, .int i t'] :: Φ) → Q (.ref r) ⟨h', gn, dr, tk', oS⟩) :
    wpAny (model PR w) A (call (.ref 816) [.ref P.w, .int (k : Nat) u, .ref l]) Q E ⟨hp, gn, dr, tk, oS⟩ := ask_bad_r (((((((((((((((((((((w, A), h₀), L), m), hp), gn), dr), tk), oS), P), X), news), st), Φ), Q), E), k), f), l), u), i) O F N H hn K ht hret

theorem ask_part_bad {l a b c na x tb ti tc tk0} {i k : Int} {u : Tok} (O : Ok w A h₀ L 15) (F : Fr h₀ L hp m) (N : News h₀ L hp (X ++ news)) (H : Hs w P X st news Φ) (hl : Fact.ls l [.ref a, .ref b, .ref c] ∈ Φ) (ha : Fact.tv a na (some x) ∈ Φ) (hb : Fact.tu b [.int 1 tb, .int i ti] ∈ Φ) (hc : Fact.tu c [.int 1 tc, .int k tk0] ∈ Φ) (za : x.length ≤ 1000) (h0 : i < 0 ∨ k < 0 ∨ (x.length : Int) < i + k) (ht : st.th = [])
    (hret : ∀ r t t' news' h' tk', Fr h₀ L h' m → News h₀ L h' (X ++ news') → Hs w P X st news' (.tu r [.str "refused" t, .int 32 t'] :: Φ) → Q (.ref r) ⟨h', gn, dr, tk', oS⟩) :
    wpAny (model PR w) A (call (.ref 816) [.ref P.w, .int 7 u, .ref l]) Q E ⟨hp, gn, dr, tk, oS⟩ :=
  ask_bad (k := 7) (f := 689) O F N H (fun _ _ _ _ _ _ _ _ O F N hr => n_part_bad O F N H hl ha hb hc za h0 (by rw [ht]; exact Nat.zero_le _) hr) nk7 ht hret

theorem ask_chars_bad {l a b na x tb ti} {i : Int} {u : Tok} (O : Ok w A h₀ L 15) (F : Fr h₀ L hp m) (N : News h₀ L hp (X ++ news)) (H : Hs w P X st news Φ) (hl : Fact.ls l [.ref a, .ref b] ∈ Φ) (ha : Fact.tv a na (some x) ∈ Φ) (hb : Fact.tu b [.int 1 tb, .int i ti] ∈ Φ) (za : x.length ≤ 1000) (h0 : i < 0 ∨ (x.length : Int) ≤ i) (ht : st.th = [])
    (hret : ∀ r t t' news' h' tk', Fr h₀ L h' m → News h₀ L h' (X ++ news') → Hs w P X st news' (.tu r [.str "refused" t, .int 22 t'] :: Φ) → Q (.ref r) ⟨h', gn, dr, tk', oS⟩) :
    wpAny (model PR w) A (call (.ref 816) [.ref P.w, .int 3 u, .ref l]) Q E ⟨hp, gn, dr, tk, oS⟩ :=
  ask_bad (k := 3) (f := 613) O F N H (fun _ _ _ _ _ _ _ _ O F N hr => n_chars_bad O F N H hl ha hb za (by lia) (by rw [ht]; exact Nat.zero_le _) hr) nk3 ht hret

theorem ask_chars_ok {l a b na x tb ti} {i : Int} {u : Tok} (O : Ok w A h₀ L 15) (F : Fr h₀ L hp m) (N : News h₀ L hp (X ++ news)) (H : Hs w P X st news Φ) (hl : Fact.ls l [.ref a, .ref b] ∈ Φ) (ha : Fact.tv a na (some x) ∈ Φ) (hb : Fact.tu b [.int 1 tb, .int i ti] ∈ Φ) (za : x.length ≤ 1000) (h0 : 0 ≤ i) (h1 : i < x.length)
    (hret : ∀ r t t' news' h' tk', Fr h₀ L h' m → News h₀ L h' (X ++ news') → Hs w P X st news' (.tu r [.int 1 t, .int (x.cps.toList.getD i.toNat 0 : Nat) t'] :: Φ) → Q (.ref r) ⟨h', gn, dr, tk', oS⟩) :
    wpAny (model PR w) A (call (.ref 816) [.ref P.w, .int 3 u, .ref l]) Q E ⟨hp, gn, dr, tk, oS⟩ :=
  ask_ok (k := 3) (f := 613) (Post := fun r news' => ∃ t t', Hs w P X st news' (.tu r [.int 1 t, .int (x.cps.toList.getD i.toNat 0 : Nat) t'] :: Φ)) O F N H (fun _ _ _ _ _ _ _ _ O F N hr => n_chars O F N H hl ha hb za h0 h1 fun r t t' n1 h1 tk1 F1 N1 H1 => hr r n1 h1 tk1 F1 N1 ⟨t, t', H1⟩) nk3 (fun r n1 ⟨t, t', H1⟩ => ⟨H1.sta, _, _, two_tu H1 (.head _) (.int _ _) (.int _ _)⟩) fun r n1 h1 tk1 F1 N1 ⟨t, t', H1⟩ => hret r t t' n1 h1 tk1 F1 N1 H1

theorem ask_part_ok {l a b c na x tb ti tc tk0} {i k : Int} {u : Tok} (O : Ok w A h₀ L 15) (F : Fr h₀ L hp m) (N : News h₀ L hp (X ++ news)) (H : Hs w P X st news Φ) (hl : Fact.ls l [.ref a, .ref b, .ref c] ∈ Φ) (ha : Fact.tv a na (some x) ∈ Φ) (hb : Fact.tu b [.int 1 tb, .int i ti] ∈ Φ) (hc : Fact.tu c [.int 1 tc, .int k tk0] ∈ Φ) (za : x.length ≤ 1000) (hz : st.b ≤ 1000000) (h0 : 0 ≤ i) (h1 : 0 ≤ k) (h2 : i + k ≤ x.length)
    (hret : ∀ r n ex news' h' tk', Fr h₀ L h' m → News h₀ L h' (X ++ news') → PartOk x na k Φ ex n → Hs w P X ⟨st.T, st.th, st.b + 1, st.fc⟩ news' (.tv r n (some (cut x i.toNat k.toNat)) :: (ex ++ Φ)) → Q (.ref r) ⟨h', gn, dr, tk', oS⟩) :
    wpAny (model PR w) A (call (.ref 816) [.ref P.w, .int 7 u, .ref l]) Q E ⟨hp, gn, dr, tk, oS⟩ :=
  ask_ok (k := 7) (f := 689) (Post := fun r news' => ∃ n ex, PartOk x na k Φ ex n ∧ Hs w P X ⟨st.T, st.th, st.b + 1, st.fc⟩ news' (.tv r n (some (cut x i.toNat k.toNat)) :: (ex ++ Φ))) O F N H (fun _ _ _ _ _ _ _ _ O F N hr => n_part O F N H hl ha hb hc za hz h0 h1 h2 fun r n ex n1 h1 tk1 F1 N1 C H1 => hr r n1 h1 tk1 F1 N1 ⟨n, ex, C, H1⟩) nk7 (fun r n1 ⟨n, ex, C, H1⟩ => ⟨H1.sta, _, _, two_tv H1 (.head _)⟩) fun r n1 h1 tk1 F1 N1 ⟨n, ex, C, H1⟩ => hret r n ex n1 h1 tk1 F1 N1 C H1

theorem ask_part_0 {l a b c na x tb ti tc tk0} {i : Int} {u : Tok} (O : Ok w A h₀ L 15) (F : Fr h₀ L hp m) (N : News h₀ L hp (X ++ news)) (H : Hs w P X st news Φ) (hl : Fact.ls l [.ref a, .ref b, .ref c] ∈ Φ) (ha : Fact.tv a na (some x) ∈ Φ) (hb : Fact.tu b [.int 1 tb, .int i ti] ∈ Φ) (hc : Fact.tu c [.int 1 tc, .int 0 tk0] ∈ Φ) (za : x.length ≤ 1000) (hz : st.b ≤ 1000000) (h0 : 0 ≤ i) (h2 : i ≤ x.length)
    (hret : ∀ r n news' h' tk', Fr h₀ L h' m → News h₀ L h' (X ++ news') → Hs w P X ⟨st.T, st.th, st.b + 1, st.fc⟩ news' (.tv r n (some "") :: .pool "" n :: Φ) → Q (.ref r) ⟨h', gn, dr, tk', oS⟩) :
    wpAny (model PR w) A (call (.ref 816) [.ref P.w, .int 7 u, .ref l]) Q E ⟨hp, gn, dr, tk, oS⟩ :=
  ask_part_ok O F N H hl ha hb hc za hz h0 (Int.le_refl 0) (by lia) fun r n ex n1 h1 tk1 F1 N1 C H1 => by
    rcases C with ⟨-, rfl⟩ | ⟨h, -⟩ | ⟨h, -⟩
    · rw [show cut x i.toNat (0 : Int).toNat = "" from cut_nil _ _] at H1
      exact hret r n n1 h1 tk1 F1 N1 H1
    · exact absurd rfl h
    · exact absurd rfl h

theorem ask_part_w {l a b c na x tb ti tc tk0} {i k : Int} {u : Tok} (O : Ok w A h₀ L 15) (F : Fr h₀ L hp m) (N : News h₀ L hp (X ++ news)) (H : Hs w P X st news Φ) (hl : Fact.ls l [.ref a, .ref b, .ref c] ∈ Φ) (ha : Fact.tv a na (some x) ∈ Φ) (hb : Fact.tu b [.int 1 tb, .int i ti] ∈ Φ) (hc : Fact.tu c [.int 1 tc, .int k tk0] ∈ Φ) (za : x.length ≤ 1000) (hz : st.b ≤ 1000000) (h0 : i = 0) (h1 : 0 < k) (h2 : k = x.length)
    (hret : ∀ r news' h' tk', Fr h₀ L h' m → News h₀ L h' (X ++ news') → Hs w P X ⟨st.T, st.th, st.b + 1, st.fc⟩ news' (.tv r na (some x) :: Φ) → Q (.ref r) ⟨h', gn, dr, tk', oS⟩) :
    wpAny (model PR w) A (call (.ref 816) [.ref P.w, .int 7 u, .ref l]) Q E ⟨hp, gn, dr, tk, oS⟩ :=
  ask_part_ok O F N H hl ha hb hc za hz (by lia) (by lia) (by lia) fun r n ex n1 h1 tk1 F1 N1 C H1 => by
    rcases C with ⟨h, -⟩ | ⟨-, -, rfl, rfl⟩ | ⟨-, h, -⟩
    · lia
    · rw [h0, h2, show cut x (0 : Int).toNat ((x.length : Nat) : Int).toNat = x from cut_all _] at H1
      exact hret r n1 h1 tk1 F1 N1 H1
    · exact absurd h2 h

theorem ask_part_m {l a b c na x tb ti tc tk0} {i k : Int} {u : Tok} (O : Ok w A h₀ L 15) (F : Fr h₀ L hp m) (N : News h₀ L hp (X ++ news)) (H : Hs w P X st news Φ) (hl : Fact.ls l [.ref a, .ref b, .ref c] ∈ Φ) (ha : Fact.tv a na (some x) ∈ Φ) (hb : Fact.tu b [.int 1 tb, .int i ti] ∈ Φ) (hc : Fact.tu c [.int 1 tc, .int k tk0] ∈ Φ) (za : x.length ≤ 1000) (hz : st.b ≤ 1000000) (h0 : 0 ≤ i) (h1 : 0 < k) (h2 : k < x.length) (h3 : i + k ≤ x.length)
    (hret : ∀ r n s news' h' tk', n ≠ na → s = cut x i.toNat k.toNat → (s.length : Int) = k → Fr h₀ L h' m → News h₀ L h' (X ++ news') → Hs w P X ⟨st.T, st.th, st.b + 1, st.fc⟩ news' (.tv r n (some s) :: Φ) → Q (.ref r) ⟨h', gn, dr, tk', oS⟩) :
    wpAny (model PR w) A (call (.ref 816) [.ref P.w, .int 7 u, .ref l]) Q E ⟨hp, gn, dr, tk, oS⟩ :=
  ask_part_ok O F N H hl ha hb hc za hz h0 (by lia) h3 fun r n ex n1 h1' tk1 F1 N1 C H1 => by
    rcases C with ⟨h, -⟩ | ⟨-, h, -⟩ | ⟨-, -, rfl, hn⟩
    · lia
    · lia
    · exact hret r n _ n1 h1' tk1 (Nat.ne_of_gt (hn _ _ _ ha)) rfl (by rw [cut_len (by lia)]; lia) F1 N1 (H1.sub fun f hf => by
        rcases List.mem_cons.mp hf with rfl | hf
        · exact .head _
        · exact .tail _ (.tail _ hf))

theorem text_refS {x : Str} {t : Tok} (O : Ok w A h₀ L 12) (F : Fr h₀ L hp m) (N : News h₀ L hp (X ++ news)) (H : Hs w P X st news Φ) (hz : st.b ≤ 1000000)
    (hret : ∀ r n news' h' tk', Fr h₀ L h' m → News h₀ L h' (X ++ news') → Hs w P X ⟨st.T, st.th, st.b + 1, st.fc⟩ news' (.tv r n (some x) :: .pool x n :: Φ) → Q (.ref r) ⟨h', gn, dr, tk', oS⟩) :
    wpAny (model PR w) A (call (.ref 437) [.ref P.m, .str x t]) Q E ⟨hp, gn, dr, tk, oS⟩ := text_ref O F N H hz fun r n n1 h1 tk1 F1 N1 _ H1 => hret r n n1 h1 tk1 F1 N1 H1
theorem new_textS {x : Str} {t : Tok} (O : Ok w A h₀ L 10) (F : Fr h₀ L hp m) (N : News h₀ L hp (X ++ news)) (H : Hs w P X st news Φ) (hz : st.b ≤ 1000000)
    (hret : ∀ r n news' h' tk', Fr h₀ L h' m → News h₀ L h' (X ++ news') → Hs w P X ⟨st.T, st.th, st.b + 1, st.fc⟩ news' (.tv r n (some x) :: .priv n :: Φ) → Q (.ref r) ⟨h', gn, dr, tk', oS⟩) :
    wpAny (model PR w) A (call (.ref 444) [.ref P.m, .str x t]) Q E ⟨hp, gn, dr, tk, oS⟩ := new_text O F N H hz fun r n n1 h1 tk1 F1 N1 _ _ _ _ H1 => hret r n n1 h1 tk1 F1 N1 H1
theorem okR : PyData.strOk "refused" = true := by decide +kernel
theorem c_eqR {x y : Addr} {i j : Int} {t t' u u' : Tok} (O : Ok w A h₀ L 9) (N : News h₀ L hp (X ++ news)) (H : Hs w P X st news Φ) (hx : Fact.tu x [.str "refused" t, .int i t'] ∈ Φ) (hy : Fact.tu y [.str "refused" u, .int j u'] ∈ Φ)
    (h : Q (.bool (decide (i = j))) ⟨hp, gn, dr, tk, oS⟩) : wpAny (model PR w) A (compareOp .Eq (.ref x) (.ref y)) Q E ⟨hp, gn, dr, tk, oS⟩ :=
  c_eq2 O N (two_tu H hx (.str _ _ okR) (.int _ _)) (two_tu H hy (.str _ _ okR) (.int _ _)) (by simp [PyData.eqv]; rfl) h
theorem c_neR {x y : Addr} {i j : Int} {t t' u u' : Tok} (O : Ok w A h₀ L 9) (N : News h₀ L hp (X ++ news)) (H : Hs w P X st news Φ) (hx : Fact.tu x [.str "refused" t, .int i t'] ∈ Φ) (hy : Fact.tu y [.str "refused" u, .int j u'] ∈ Φ)
    (h : Q (.bool (!decide (i = j))) ⟨hp, gn, dr, tk, oS⟩) : wpAny (model PR w) A (compareOp .NotEq (.ref x) (.ref y)) Q E ⟨hp, gn, dr, tk, oS⟩ :=
  c_ne2 O N (two_tu H hx (.str _ _ okR) (.int _ _)) (two_tu H hy (.str _ _ okR) (.int _ _)) (by simp [PyData.eqv]; rfl) h
theorem c_neI {x y : Addr} {i j a : Int} {t t' u u' : Tok} (O : Ok w A h₀ L 9) (N : News h₀ L hp (X ++ news)) (H : Hs w P X st news Φ) (hx : Fact.tu x [.int a t, .int i t'] ∈ Φ) (hy : Fact.tu y [.int a u, .int j u'] ∈ Φ)
    (h : Q (.bool (!decide (i = j))) ⟨hp, gn, dr, tk, oS⟩) : wpAny (model PR w) A (compareOp .NotEq (.ref x) (.ref y)) Q E ⟨hp, gn, dr, tk, oS⟩ :=
  c_ne2 O N (two_tu H hx (.int _ _) (.int _ _)) (two_tu H hy (.int _ _) (.int _ _)) (by simp [PyData.eqv]; rfl) h

end
end Mine
end S16_
section S17_
namespace Mine

set_option hygiene false in
local macro_rules | `(tactic| walk_at "ENTER") => `(tactic| ((case ho => k_is); (case hcd => k_is); (case hb => exact rfl); (case hl => exact rfl); (case hS => exact rfl); (case hc => exact rfl); (case hv => exact rfl); (case hpm => exact rfl); ((try clear F' N'); intro g' L' h' tk' p' lo' me' mg' mb' S' O' X' T' F' N'); have Z' := Zn.mk S' X' ⟨_, _, _, _, _, T'⟩))
section
variable {w : World} {A : Around} {h₀ : Heap} {L : Addr} {m : Str → Option Value} {hp : Heap} {gn : Array GenState} {dr : Drawn} {tk : Nat} {oS : OsState} {P : Pl} {X news led : Led} {st : St} {σ : Sg} {Φ : List Fact} {Q E : Value → Shared → Prop}

def law_bounds_S (a : Addr) (na : Nat) (x : Str) (z : Int) (tz : Tok) : Prop := ∀ (O : Ok w A h₀ L 22) (F : Fr h₀ L hp m) (N : News h₀ L hp (X ++ news)) (H : Hs w P X st news Φ) (ha : Fact.tv a na (some x) ∈ Φ) (za : x.length ≤ 6) (hz : st.b ≤ 800000) (hth : st.th = []) (hret : ∀ st' news' h' tk', Kept 1000 st st' → Fr h₀ L h' m → News h₀ L h' (X ++ news') → Hs w P X st' news' Φ → Q (.bool true) ⟨h', gn, dr, tk', oS⟩), wpAny (model PR w) A (call (.ref 963) [.ref P.w, .ref a, .int z tz]) Q E ⟨hp, gn, dr, tk, oS⟩
theorem law_bounds_r : ∀ r : (((((HT17 × Addr) × Nat) × Str) × Int) × Tok), (c17 (@law_bounds_S) r.1.1.1.1.1) r.1.1.1.1.2 r.1.1.1.2 r.1.1.2 r.1.2 r.2 := by
  refine ep_all (ne := by walk_at "NE") ((?_ : ∀ w A h₀ L m hp gn dr tk oS P X news st Φ Q E a na x z tz, @law_bounds_S w A h₀ L m hp gn dr tk oS P X news st Φ Q E a na x z tz) _ _ _ _ _ _ _ _ _ _ _ _ _ _ _ _ _ _ _ _ _ _)
  intro w A h₀ L m hp gn dr tk oS P X news st Φ Q E a na x z tz O F N H ha za hz hth hret
  refine' callfE (d := 21) ["w", "a", "z"] ["n", "i", "count", "gave", "letter_given", "k"] ["_law_long", "_law_place", "_law_ask", "N_SUBSTRING", "V_I4", "N_STR_CHARS", "T_INDEX", "_law_letter", "_law_part", "T_ARGRANGE", "V_REF", "range"] [some (.ref P.w), some (.ref a), some (.int z tz), none, none, none, none, none, none] O F N ?ho ?hcd ?hb ?hl ?hS ?hc ?hv ["w", "a", "z", "n", "i", "count", "gave", "letter_given", "k"] ?hpm ?_
  walk_at "ENTERE"
  have za' : x.length ≤ 1000 := by lia
  (clear r33; clear r7 Z62 Z307; clear r251; clear r273; clear r33; clear r7 Z72 Z317)
  refine law_place ‹8› ‹_› ‹_› (by lia) (by lia) fun i ti h1 tk1 i0 i1 F1 N1 => ?_
  (clear r273; clear r33; clear r8; clear r1 Z72; clear r109 Z317; clear r126; clear r127; clear s3 bi1; clear r16; clear s9 o_add; clear s48 o_fdivB; clear r125; clear r128)
  refine law_place ‹8› ‹_› ‹_› (by lia) (by lia) fun k tk2 h2 tk3 k0 k1 F2 N2 => ?_
  (clear r273; clear r33; clear r8; clear r1 Z57; clear r109 Z302; clear r126; clear r127; clear r1 Z51; clear r127; clear s9 List_; clear r126; clear r127; clear s9 Tuple_; clear r127; clear r1 Z21; clear r126; clear r125; clear r271; clear r127; clear s9 Tuple_; clear r127; clear r1 Z21; clear r126; clear r125; clear r271; clear r125; clear r272; clear r125; clear r128)
  have fl : ∀ s : Str, s = cut x i.toNat (1 : Int).toNat → s.cps.toList.getD (0 : Int).toNat 0 = x.cps.toList.getD i.toNat 0 := fun s e => by
    rw [e]; exact cut_getD x (i := i.toNat) (n := 1) (k := 0) (by decide)
  rcases (by lia : (i < 0 ∨ (x.length : Int) ≤ i) ∨ (0 ≤ i ∧ i < x.length)) with c | ⟨c0, c1⟩
  · rcases (by lia : (i < 0 ∨ k < 0 ∨ (x.length : Int) < i + k) ∨ (k = 0 ∧ 0 ≤ i ∧ i ≤ x.length)) with d | ⟨rfl, d0, d1⟩
    · by_cases c' : i < 0
      · (clear s49 ask_part_bad; clear r273; clear r33; clear r8; clear r1 Z57; clear r109 Z302; clear r126; clear r127; clear r1 Z43; clear r127; clear s9 List_; clear r126; clear r127; clear s9 Tuple_; clear r127; clear r1 Z21; clear r126; clear r125; clear r271; clear r125; clear r272; clear r125; clear r128; clear s50 ask_chars_bad; clear r273; clear s9 x_ifelse; clear r48; clear r41; clear s9 lt_int; clear r129; clear r133; clear r133; clear r32; clear r42; clear s9 Tuple_; clear r126; clear r127; clear r1 Z32; clear r125; clear r271; clear s43 c_neR; clear r129; clear r132; clear s9 wpAny_execs_nil; clear s9 Thn.next; clear r32; clear r48; clear r41; clear s9 lt_int; clear r129; clear r133; clear r133; clear r31; clear r21; clear r0; clear s9 Tuple_; clear r126; clear r127; clear r1 Z36; clear r125; clear r271; clear s43 c_eqR; clear s9 Thn.ret; clear r134)
        refine (?_ : ∀ v, v = true → Q (.bool v) _) _ ?_
        · rintro _ rfl; exact hret _ _ _ _ (.same (b := st.b + 0) (by lia) (by lia)) kF kN (H'.sub (by intro f hf; repeat (first | exact hf | refine List.mem_cons_of_mem _ ?_)))
        · rfl
      · by_cases d' : k < 0
        · (clear s49 ask_part_bad; clear r273; clear r33; clear r8; clear r1 Z57; clear r109 Z302; clear r126; clear r127; clear r1 Z43; clear r127; clear s9 List_; clear r126; clear r127; clear s9 Tuple_; clear r127; clear r1 Z21; clear r126; clear r125; clear r271; clear r125; clear r272; clear r125; clear r128; clear s50 ask_chars_bad; clear r273; clear s9 x_ifelse; clear r48; clear r41; clear s9 lt_int; clear r129; clear r132; clear r48; clear r41; clear s9 ge_int; clear r129; clear r133; clear r133; clear r32; clear r42; clear s9 Tuple_; clear r126; clear r127; clear r1 Z32; clear r125; clear r271; clear s43 c_neR; clear r129; clear r132; clear s9 wpAny_execs_nil; clear s9 Thn.next; clear r32; clear r48; clear r41; clear s9 lt_int; clear r129; clear r132; clear r48; clear r41; clear s9 lt_int; clear r129; clear r133; clear r133; clear r31; clear r21; clear r0; clear s9 Tuple_; clear r126; clear r127; clear r1 Z36; clear r125; clear r271; clear s43 c_eqR; clear s9 Thn.ret; clear r134)
          refine (?_ : ∀ v, v = true → Q (.bool v) _) _ ?_
          · rintro _ rfl; exact hret _ _ _ _ (.same (b := st.b + 0) (by lia) (by lia)) kF kN (H'.sub (by intro f hf; repeat (first | exact hf | refine List.mem_cons_of_mem _ ?_)))
          · rfl
        · (clear s49 ask_part_bad; clear r273; clear r33; clear r8; clear r1 Z57; clear r109 Z302; clear r126; clear r127; clear r1 Z43; clear r127; clear s9 List_; clear r126; clear r127; clear s9 Tuple_; clear r127; clear r1 Z21; clear r126; clear r125; clear r271; clear r125; clear r272; clear r125; clear r128; clear s50 ask_chars_bad; clear r273; clear s9 x_ifelse; clear r48; clear r41; clear s9 lt_int; clear r129; clear r132; clear r48; clear r41; clear s9 ge_int; clear r129; clear r133; clear r133; clear r32; clear r42; clear s9 Tuple_; clear r126; clear r127; clear r1 Z32; clear r125; clear r271; clear s43 c_neR; clear r129; clear r132; clear s9 wpAny_execs_nil; clear s9 Thn.next; clear r32; clear r48; clear r41; clear s9 lt_int; clear r129; clear r132; clear r48; clear r41; clear s9 lt_int; clear r129; clear r132; clear r48; clear r43; clear r16; clear s9 o_add; clear r0; clear s9 gt_int; clear r129; clear r133; clear r133; clear r31; clear r21; clear r0; clear s9 Tuple_; clear r126; clear r127; clear r1 Z36; clear r125; clear r271; clear s43 c_eqR; clear s9 Thn.ret; clear r134)
          refine (?_ : ∀ v, v = true → Q (.bool v) _) _ ?_
          · rintro _ rfl; exact hret _ _ _ _ (.same (b := st.b + 0) (by lia) (by lia)) kF kN (H'.sub (by intro f hf; repeat (first | exact hf | refine List.mem_cons_of_mem _ ?_)))
          · rfl
    · (((with_reducible refine ask_part_0 ‹8› ‹_› ‹_› ‹_› ‹0› ‹0› ‹0› ‹0› ?za ?hz ?h0 ?h2 ?_); (case za => (first | assumption | lia | (dsimp only; lia))); (case hz => (first | assumption | lia | (dsimp only; lia))); (case h0 => (first | assumption | lia | (dsimp only; lia))); (case h2 => (first | assumption | lia | (dsimp only; lia))); ((try clear H'); (try clear F' N'); intro r' k' n' h' tk' F' N' H')); clear r273; clear r33; clear r8; clear r1 Z57; clear r109 Z302; clear r126; clear r127; clear r1 Z43; clear r127; clear s9 List_; clear r126; clear r127; clear s9 Tuple_; clear r127; clear r1 Z21; clear r126; clear r125; clear r271; clear r125; clear r272; clear r125; clear r128; clear s50 ask_chars_bad; clear r273; clear s9 x_ifelse; clear r48; clear r41; clear s9 lt_int; clear r129; clear r132; clear r48; clear r41; clear s9 ge_int; clear r129; clear r133; clear r133; clear r32; clear r42; clear s9 Tuple_; clear r126; clear r127; clear r1 Z32; clear r125; clear r271; clear s43 c_neR; clear r129; clear r132; clear s9 wpAny_execs_nil; clear s9 Thn.next; clear r32; clear r48; clear r41; clear s9 lt_int; clear r129; clear r132; clear r48; clear r41; clear s9 lt_int; clear r129; clear r132; clear r48; clear r43; clear r16; clear s9 o_add; clear r0; clear s9 gt_int; clear r129; clear r132; clear s9 isTrue_or_nil; clear r132; clear r32; clear r41; clear s9 eq_int; clear r129; clear r133; clear r31; clear r21; clear r0; clear s1 e_meth; clear r11; clear s30 w_m; clear s4 mm_text_ref; clear s22 cm Z332; clear s51 text_refS; clear s43 c_eqtv; clear s9 Thn.ret; clear r134)
      refine (?_ : ∀ v, v = true → Q (.bool v) _) _ ?_
      · rintro _ rfl; exact hret _ _ _ _ (.same (b := st.b + 2) (by lia) (by lia)) kF kN (H'.sub (by intro f hf; repeat (first | exact hf | refine List.mem_cons_of_mem _ ?_)))
      · exact decide_eq_true (H'.pool_eq (by walk_at "IN") (by walk_at "IN"))
  · rcases (by lia : (i < 0 ∨ k < 0 ∨ (x.length : Int) < i + k) ∨ (k = 0 ∧ 0 ≤ i ∧ i ≤ x.length) ∨ (i = 0 ∧ 0 < k ∧ k = x.length) ∨ (0 < k ∧ k < x.length ∧ i + k ≤ x.length)) with d | ⟨rfl, d0, d1⟩ | ⟨d0, d1, d2⟩ | ⟨d1, d2, d3⟩
    · (clear s49 ask_part_bad; clear r273; clear r33; clear r8; clear r1 Z57; clear r109 Z302; clear r126; clear r127; clear r1 Z43; clear r127; clear s9 List_; clear r126; clear r127; clear s9 Tuple_; clear r127; clear r1 Z21; clear r126; clear r125; clear r271; clear r125; clear r272; clear r125; clear r128; clear s52 ask_chars_ok; clear r273; clear s9 x_ifelse; clear r48; clear r41; clear s9 lt_int; clear r129; clear r132; clear r48; clear r41; clear s9 ge_int; clear r129; clear r132; clear s9 isTrue_or_nil; clear r132; clear r32; clear r42; clear s9 Tuple_; clear r127; clear r1 Z21; clear r127; clear r8; clear r1 Z67; clear r109 Z312; clear r126; clear r127; clear r7 Z63 Z308; clear r259; clear r126; clear r125; clear r128; clear r252; clear r125; clear r271; clear s43 c_neI; clear r129)
      have fl := fl _ ‹_›
      by_cases d' : k < 0
      · (clear r132; clear s9 wpAny_execs_nil; clear s9 Thn.next; clear r32; clear r48; clear r41; clear s9 lt_int; clear r129; clear r132; clear r48; clear r41; clear s9 lt_int; clear r129; clear r133; clear r133; clear r31; clear r21; clear r0; clear s9 Tuple_; clear r126; clear r127; clear r1 Z36; clear r125; clear r271; clear s43 c_eqR; clear s9 Thn.ret; clear r134)
        refine (?_ : ∀ v, v = true → Q (.bool v) _) _ ?_
        · rintro _ rfl; exact hret _ _ _ _ (.same (b := st.b + 1) (by lia) (by lia)) kF kN (H'.sub (by intro f hf; repeat (first | exact hf | refine List.mem_cons_of_mem _ ?_)))
        · rfl
      · (clear r132; clear s9 wpAny_execs_nil; clear s9 Thn.next; clear r32; clear r48; clear r41; clear s9 lt_int; clear r129; clear r132; clear r48; clear r41; clear s9 lt_int; clear r129; clear r132; clear r48; clear r43; clear r16; clear s9 o_add; clear r0; clear s9 gt_int; clear r129; clear r133; clear r133; clear r31; clear r21; clear r0; clear s9 Tuple_; clear r126; clear r127; clear r1 Z36; clear r125; clear r271; clear s43 c_eqR; clear s9 Thn.ret; clear r134)
        refine (?_ : ∀ v, v = true → Q (.bool v) _) _ ?_
        · rintro _ rfl; exact hret _ _ _ _ (.same (b := st.b + 1) (by lia) (by lia)) kF kN (H'.sub (by intro f hf; repeat (first | exact hf | refine List.mem_cons_of_mem _ ?_)))
        · rfl
    · (((with_reducible refine ask_part_0 ‹8› ‹_› ‹_› ‹_› ‹0› ‹0› ‹0› ‹0› ?za ?hz ?h0 ?h2 ?_); (case za => (first | assumption | lia | (dsimp only; lia))); (case hz => (first | assumption | lia | (dsimp only; lia))); (case h0 => (first | assumption | lia | (dsimp only; lia))); (case h2 => (first | assumption | lia | (dsimp only; lia))); ((try clear H'); (try clear F' N'); intro r' k' n' h' tk' F' N' H')); clear r273; clear r33; clear r8; clear r1 Z57; clear r109 Z302; clear r126; clear r127; clear r1 Z43; clear r127; clear s9 List_; clear r126; clear r127; clear s9 Tuple_; clear r127; clear r1 Z21; clear r126; clear r125; clear r271; clear r125; clear r272; clear r125; clear r128; clear s52 ask_chars_ok; clear r273; clear s9 x_ifelse; clear r48; clear r41; clear s9 lt_int; clear r129; clear r132; clear r48; clear r41; clear s9 ge_int; clear r129; clear r132; clear s9 isTrue_or_nil; clear r132; clear r32; clear r42; clear s9 Tuple_; clear r127; clear r1 Z21; clear r127; clear r8; clear r1 Z67; clear r109 Z312; clear r126; clear r127; clear r7 Z63 Z308; clear r259; clear r126; clear r125; clear r128; clear r252; clear r125; clear r271; clear s43 c_neI; clear r129)
      have fl := fl _ ‹_›
      (clear r132; clear s9 wpAny_execs_nil; clear s9 Thn.next; clear r32; clear r48; clear r41; clear s9 lt_int; clear r129; clear r132; clear r48; clear r41; clear s9 lt_int; clear r129; clear r132; clear r48; clear r43; clear r16; clear s9 o_add; clear r0; clear s9 gt_int; clear r129; clear r132; clear s9 isTrue_or_nil; clear r132; clear r32; clear r41; clear s9 eq_int; clear r129; clear r133; clear r31; clear r21; clear r0; clear s1 e_meth; clear r11; clear s30 w_m; clear s4 mm_text_ref; clear s22 cm Z332; clear s51 text_refS; clear s43 c_eqtv; clear s9 Thn.ret; clear r134)
      refine (?_ : ∀ v, v = true → Q (.bool v) _) _ ?_
      · rintro _ rfl; exact hret _ _ _ _ (.same (b := st.b + 3) (by lia) (by lia)) kF kN (H'.sub (by intro f hf; repeat (first | exact hf | refine List.mem_cons_of_mem _ ?_)))
      · exact decide_eq_true (H'.pool_eq (by walk_at "IN") (by walk_at "IN"))
    · (((with_reducible refine ask_part_w ‹8› ‹_› ‹_› ‹_› ‹0› ‹0› ‹0› ‹0› ?za ?hz ?h0 ?h1 ?h2 ?_); (case za => (first | assumption | lia | (dsimp only; lia))); (case hz => (first | assumption | lia | (dsimp only; lia))); (case h0 => (first | assumption | lia | (dsimp only; lia))); (case h1 => (first | assumption | lia | (dsimp only; lia))); (case h2 => (first | assumption | lia | (dsimp only; lia))); ((try clear H'); (try clear F' N'); intro r' n' h' tk' F' N' H')); clear r273; clear r33; clear r8; clear r1 Z57; clear r109 Z302; clear r126; clear r127; clear r1 Z43; clear r127; clear s9 List_; clear r126; clear r127; clear s9 Tuple_; clear r127; clear r1 Z21; clear r126; clear r125; clear r271; clear r125; clear r272; clear r125; clear r128; clear s52 ask_chars_ok; clear r273; clear s9 x_ifelse; clear r48; clear r41; clear s9 lt_int; clear r129; clear r132; clear r48; clear r41; clear s9 ge_int; clear r129; clear r132; clear s9 isTrue_or_nil; clear r132; clear r32; clear r42; clear s9 Tuple_; clear r127; clear r1 Z21; clear r127; clear r8; clear r1 Z67; clear r109 Z312; clear r126; clear r127; clear r7 Z63 Z308; clear r259; clear r126; clear r125; clear r128; clear r252; clear r125; clear r271; clear s43 c_neI; clear r129)
      have fl := fl _ ‹_›
      (clear r132; clear s9 wpAny_execs_nil; clear s9 Thn.next; clear r32; clear r48; clear r41; clear s9 lt_int; clear r129; clear r132; clear r48; clear r41; clear s9 lt_int; clear r129; clear r132; clear r48; clear r43; clear r16; clear s9 o_add; clear r0; clear s9 gt_int; clear r129; clear r132; clear s9 isTrue_or_nil; clear r132; clear r32; clear r41; clear s9 eq_int; clear r129; clear r132; clear r32; clear r41; clear s9 eq_int; clear r129; clear r133; clear r31; clear s10 ce2; clear s43 c_eqtv; clear s9 Thn.ret; clear r134)
      refine (?_ : ∀ v, v = true → Q (.bool v) _) _ ?_
      · rintro _ rfl; exact hret _ _ _ _ (.same (b := st.b + 2) (by lia) (by lia)) kF kN (H'.sub (by intro f hf; repeat (first | exact hf | refine List.mem_cons_of_mem _ ?_)))
      · exact decide_eq_true rfl
    · refine ask_part_m ‹8› ‹_› ‹_› ‹_› (by walk_at "IN") (by walk_at "IN") (by walk_at "IN") (by walk_at "IN") za' (by lia) c0 d1 d2 d3 fun r n s n3 h3 tk4 nk es ls F3 N3 H3 => ?_
      (clear r273; clear r33; clear r8; clear r1 Z57; clear r109 Z302; clear r126; clear r127; clear r1 Z43; clear r127; clear s9 List_; clear r126; clear r127; clear s9 Tuple_; clear r127; clear r1 Z21; clear r126; clear r125; clear r271; clear r125; clear r272; clear r125; clear r128; clear s52 ask_chars_ok; clear r273; clear s9 x_ifelse; clear r48; clear r41; clear s9 lt_int; clear r129; clear r132; clear r48; clear r41; clear s9 ge_int; clear r129; clear r132; clear s9 isTrue_or_nil; clear r132; clear r32; clear r42; clear s9 Tuple_; clear r127; clear r1 Z21; clear r127; clear r8; clear r1 Z67; clear r109 Z312; clear r126; clear r127; clear r7 Z63 Z308; clear r259; clear r126; clear r125; clear r128; clear r252; clear r125; clear r271; clear s43 c_neI; clear r129)
      have fl := fl _ ‹_›
      (clear r132; clear s9 wpAny_execs_nil; clear s9 Thn.next; clear r32; clear r48; clear r41; clear s9 lt_int; clear r129; clear r132; clear r48; clear r41; clear s9 lt_int; clear r129; clear r132; clear r48; clear r43; clear r16; clear s9 o_add; clear r0; clear s9 gt_int; clear r129; clear r132; clear s9 isTrue_or_nil; clear r132; clear r32; clear r41; clear s9 eq_int; clear r129; clear r132; clear r32; clear r41; clear s9 eq_int; clear r129; clear r132; clear r32; clear r48; clear r43; clear r11; ((with_reducible refine tv_0 ‹_› ‹_› ‹0› ?_ ?hs); (case hs => with_unfolding_all exact rfl); intro t'); clear r1 Z20; clear s9 ne_int; clear r129; clear r132; clear r48; clear r41; clear s43 c_eqtv; clear r129; clear r132; clear r48; clear r43; clear r7 Z62 Z307; clear r251; clear r0; clear s9 ne_int; clear r129; clear r132; clear s9 isTrue_or_nil; clear r132; clear r194; clear r8; clear r2 Z91; clear s23 c_typ; clear r126; clear r125; clear s38 range1_H)
      replace H' := H'.sub (Φ' := Fact.ent rr' (rangeOb 0 k t1' t2' t3') :: Fact.tv r n (some s) :: Φ) (List.forall_mem_cons.mpr ⟨.head _, List.forall_mem_cons.mpr ⟨by walk_at "IN", (by intro f hf; repeat (first | exact hf | refine List.mem_cons_of_mem _ ?_))⟩⟩)
      refine for_range0 k.toNat O'.hand ‹_› ‹_› H' (.head _) (by lia) rfl (fun j vals st' Φ' => ∃ u1 u2 u3 lg v, vals = [some (.ref P.w), some (.ref a), some (.int z tz), some (.int (x.length : Nat) u1), some (.int i u2), some (.int k u3), some (.ref r), lg, v] ∧ st' = ⟨st.T, st.th, st.b + 2, st.fc⟩ ∧ Φ' = Fact.ent rr' (rangeOb 0 k t1' t2' t3') :: Fact.tv r n (some s) :: Φ) ⟨_, _, _, _, _, rfl, rfl, rfl⟩ ?_ ?_
      · rintro j t h1 tk1 X1 _ _ n1 _ hj ⟨u1, u2, u3, lg, v, rfl, rfl, rfl⟩ hX F1 N1 H1
        have F2 := fr_put S' F1 (by walk_at "PUT")
        clear F1
        have e : s.cps.toList.getD ((j : Nat) : Int).toNat 0 = x.cps.toList.getD (i + ((j : Nat) : Int)).toNat 0 := by
          rw [es, show ((j : Nat) : Int).toNat = j by lia, show (i + ((j : Nat) : Int)).toNat = i.toNat + j by lia]
          exact cut_getD x (by lia)
        (clear r32; clear r43; clear r7 Z67 Z312; clear r252; clear r8; clear r1 Z67; clear r109 Z312; clear r126; clear r126; clear r127; clear r16; clear s9 o_add; clear r125; clear r128; clear r252; clear s9 ne_int; clear r129; clear r132; clear s9 wpAny_execs_nil)
        exact Bd.next _ ‹_› ‹_› H' (by intro f hf; repeat (first | exact hf | refine List.mem_cons_of_mem _ ?_)) ⟨_, _, _, _, _, rfl, rfl, rfl⟩
      · rintro h1 tk1 _ _ n1 _ ⟨u1, u2, u3, lg, v, rfl, rfl, rfl⟩ F1 N1 H1
        (clear s9 Thn.next; clear s3 re1; clear r134)
        exact hret _ _ _ _ (.same (by lia) (by lia)) kF kN (H1.sub (by intro f hf; repeat (first | exact hf | refine List.mem_cons_of_mem _ ?_)))
theorem law_bounds {a na x} {z : Int} {tz : Tok} (O : Ok w A h₀ L 22) (F : Fr h₀ L hp m) (N : News h₀ L hp (X ++ news)) (H : Hs w P X st news Φ) (ha : Fact.tv a na (some x) ∈ Φ) (za : x.length ≤ 6) (hz : st.b ≤ 800000) (hth : st.th = [])
    (hret : ∀ st' news' h' tk', Kept 1000 st st' → Fr h₀ L h' m → News h₀ L h' (X ++ news') → Hs w P X st' news' Φ → Q (.bool true) ⟨h', gn, dr, tk', oS⟩) :
    wpAny (model PR w) A (call (.ref 963) [.ref P.w, .ref a, .int z tz]) Q E ⟨hp, gn, dr, tk, oS⟩ := law_bounds_r (((((((((((((((((((((w, A), h₀), L), m), hp), gn), dr), tk), oS), P), X), news), st), Φ), Q), E), a), na), x), z), tz) O F N H ha za hz hth hret

end
end Mine
end S17_
section S18_
namespace Mine

set_option hygiene false in
local macro_rules | `(tactic| walk_at "ENTER") => `(tactic| ((case ho => k_is); (case hcd => k_is); (case hb => exact rfl); (case hl => exact rfl); (case hS => exact rfl); (case hc => exact rfl); (case hv => exact rfl); (case hpm => exact rfl); ((try clear F' N'); intro g' L' h' tk' p' lo' me' mg' mb' S' O' X' T' F' N'); have Z' := Zn.mk S' X' ⟨_, _, _, _, _, T'⟩))
section
variable {w : World} {A : Around} {h₀ : Heap} {L : Addr} {m : Str → Option Value} {hp : Heap} {gn : Array GenState} {dr : Drawn} {tk : Nat} {oS : OsState} {P : Pl} {X news led : Led} {st : St} {σ : Sg} {Φ : List Fact} {Q E : Value → Shared → Prop}

theorem joinL {a b : Addr} {na nb : Nat} {x : Str} {ob : Option Str} (O : Ok w A h₀ L 18) (F : Fr h₀ L hp m) (N : News h₀ L hp (X ++ news)) (H : Hs w P X st news Φ) (ha : Fact.tv a na (some x) ∈ Φ) (hb : Fact.tv b nb ob ∈ Φ) (hz : st.b ≤ 1000000) (za : x.length ≤ 1000) (ex : x ≠ "") (eb : gd ob = "")
    (hret : ∀ r news' h' tk', Fr h₀ L h' m → News h₀ L h' (X ++ news') → Hs w P X ⟨st.T, st.th, st.b + 1, st.fc⟩ news' (.tv r na (some x) :: Φ) → Q (.ref r) ⟨h', gn, dr, tk', oS⟩) :
    wpAny (model PR w) A (call (.ref 865) [.ref P.w, .ref a, .ref b]) Q E ⟨hp, gn, dr, tk, oS⟩ := law_join O F N H ha hb hz (by first | exact za | (rw [eb]; exact Nat.zero_le _)) (by first | exact za | (rw [eb]; exact Nat.zero_le _)) fun r n ex' news' h' tk' F' N' C H' => by
    rcases C with ⟨h, -⟩ | ⟨h, -⟩ | ⟨-, -, rfl, rfl⟩ | ⟨-, h, -⟩
    · exact absurd h ex
    · exact absurd h ex
    · rw [eb, show gd (some x) ++ "" = x from app_nil x] at H'; exact hret r news' h' tk' F' N' H'
    · exact absurd eb h

theorem joinR {a b : Addr} {na nb : Nat} {x : Str} {oa : Option Str} (O : Ok w A h₀ L 18) (F : Fr h₀ L hp m) (N : News h₀ L hp (X ++ news)) (H : Hs w P X st news Φ) (ha : Fact.tv a na oa ∈ Φ) (hb : Fact.tv b nb (some x) ∈ Φ) (hz : st.b ≤ 1000000) (za : x.length ≤ 1000) (ex : x ≠ "") (eb : gd oa = "")
    (hret : ∀ r news' h' tk', Fr h₀ L h' m → News h₀ L h' (X ++ news') → Hs w P X ⟨st.T, st.th, st.b + 1, st.fc⟩ news' (.tv r nb (some x) :: Φ) → Q (.ref r) ⟨h', gn, dr, tk', oS⟩) :
    wpAny (model PR w) A (call (.ref 865) [.ref P.w, .ref a, .ref b]) Q E ⟨hp, gn, dr, tk, oS⟩ := law_join O F N H ha hb hz (by first | exact za | (rw [eb]; exact Nat.zero_le _)) (by first | exact za | (rw [eb]; exact Nat.zero_le _)) fun r n ex' news' h' tk' F' N' C H' => by
    rcases C with ⟨-, h, -⟩ | ⟨-, -, rfl, rfl⟩ | ⟨-, h, -⟩ | ⟨h, -⟩
    · exact absurd h ex
    · rw [eb, show "" ++ gd (some x) = x from nil_app x] at H'; exact hret r news' h' tk' F' N' H'
    · exact absurd h ex
    · exact absurd eb h

theorem pool_br {n n' : Nat} (h : n = n') : (!decide (n = n')) = false := by simp [h]

theorem joinE {a b : Addr} {na nb : Nat} {oa ob : Option Str} (O : Ok w A h₀ L 18) (F : Fr h₀ L hp m) (N : News h₀ L hp (X ++ news)) (H : Hs w P X st news Φ) (ha : Fact.tv a na oa ∈ Φ) (hb : Fact.tv b nb ob ∈ Φ) (hz : st.b ≤ 1000000) (ea : gd oa = "") (eb : gd ob = "")
    (hret : ∀ r n news' h' tk', Fr h₀ L h' m → News h₀ L h' (X ++ news') → Hs w P X ⟨st.T, st.th, st.b + 1, st.fc⟩ news' (.tv r n (some "") :: .pool "" n :: Φ) → Q (.ref r) ⟨h', gn, dr, tk', oS⟩) :
    wpAny (model PR w) A (call (.ref 865) [.ref P.w, .ref a, .ref b]) Q E ⟨hp, gn, dr, tk, oS⟩ := law_join O F N H ha hb hz (by rw [ea]; exact Nat.zero_le _) (by rw [eb]; exact Nat.zero_le _) fun r n ex' news' h' tk' F' N' C H' => by
    rcases C with ⟨-, -, rfl⟩ | ⟨-, h, -⟩ | ⟨h, -⟩ | ⟨h, -⟩
    · rw [ea, eb, show ("" : Str) ++ "" = "" from app_nil ""] at H'; exact hret r n news' h' tk' F' N' H'
    · exact absurd eb h
    · exact absurd ea h
    · exact absurd ea h

def law_hollow_S (a : Addr) (na : Nat) (x : Str) (a1 : Addr) (n1 : Nat) : Prop := ∀ (O : Ok w A h₀ L 22) (F : Fr h₀ L hp m) (N : News h₀ L hp (X ++ news)) (H : Hs w P X st news Φ) (ha : Fact.tv a na (some x) ∈ Φ) (za : x.length ≤ 6) (hz : st.b ≤ 800000) (hT : st.T[1]? = some (a1, n1, some ("" : Str))) (hT2 : st.T.length ≤ 999) (hret : ∀ st' news' h' tk', Kept 1000 st st' → Fr h₀ L h' m → News h₀ L h' (X ++ news') → Hs w P X st' news' Φ → Q (.bool true) ⟨h', gn, dr, tk', oS⟩), wpAny (model PR w) A (call (.ref 970) [.ref P.w, .ref a]) Q E ⟨hp, gn, dr, tk, oS⟩
theorem law_hollow_r : ∀ r : (((((HT17 × Addr) × Nat) × Str) × Addr) × Nat), (c17 (@law_hollow_S) r.1.1.1.1.1) r.1.1.1.1.2 r.1.1.1.2 r.1.1.2 r.1.2 r.2 := by
  refine ep_all (ne := by walk_at "NE") ((?_ : ∀ w A h₀ L m hp gn dr tk oS P X news st Φ Q E a na x a1 n1, @law_hollow_S w A h₀ L m hp gn dr tk oS P X news st Φ Q E a na x a1 n1) _ _ _ _ _ _ _ _ _ _ _ _ _ _ _ _ _ _ _ _ _ _)
  intro w A h₀ L m hp gn dr tk oS P X news st Φ Q E a na x a1 n1 O F N H ha za hz hT hT2 hret
  refine' callfE (d := 21) ["w", "a"] ["null", "want", "hollow"] ["V_REF", "_law_long", "_law_join", "_law_equal", "_law_number", "N_STR_EQUALS", "_law_order"] [some (.ref P.w), some (.ref a), none, none, none] O F N ?ho ?hcd ?hb ?hl ?hS ?hc ?hv ["w", "a", "null", "want", "hollow"] ?hpm ?_
  walk_at "ENTERE"
  have za' : x.length ≤ 1000 := by lia
  have q1 : b2i (decide (some x = (none : Option Str))) = 0 := rfl
  have q2 : b2i (decide ((none : Option Str) = some x)) = 0 := rfl
  have q3 : b2i (decide ((none : Option Str) = none)) = 1 := rfl
  have q4 : cmpO x none = 1 := rfl
  by_cases hx : x = ""
  · subst hx
    (clear r33; clear s9 Tuple_; clear r127; clear r1 Z20; clear r126; clear r125; clear s42 null_H; clear r273; clear r33; clear r0; clear r273; clear r32; clear r43; clear r7 Z62 Z307; clear r251; clear r3; clear s9 eq_int; clear r129; clear r133; clear r33; clear s1 e_meth; clear r11; clear s30 w_m; clear s4 mm_text_ref; clear s22 cm Z332; clear s51 text_refS; clear r273; clear s9 wpAny_execs_nil; clear s9 Thn.next; clear r194; clear s9 Tuple_; clear r126; clear r127; clear s9 Subscript_; clear r11; clear s30 w_texts; clear r3; clear r246; clear r127; clear s1 e_meth; clear r11; clear s30 w_m; clear s4 mm_text_ref; clear s22 cm Z332; clear s51 text_refS; clear r125; clear r271)
    refine for_tup O'.hand ‹_› ‹_› H' (.head _) (fun i vals st' Φ' => ∃ (nu wa : Addr) (nw : Nat) (hv : Option Value) (b : Nat), vals = [some (.ref P.w), some (.ref a), some (.ref nu), some (.ref wa), hv] ∧ Fact.tv nu 0 none ∈ Φ' ∧ Fact.tv wa nw (some ("" : Str)) ∈ Φ' ∧ (("" : Str) = "" → Fact.pool "" nw ∈ Φ') ∧ (("" : Str) ≠ "" → nw = na) ∧ (∀ f ∈ Φ, f ∈ Φ') ∧ st' = ⟨st.T, st.th, b, st.fc⟩ ∧ st.b ≤ b ∧ b ≤ st.b + 5 + 2 * i ∧ ∀ v ∈ [Value.ref nul', .ref a1, .ref r'], ∃ h nh oh, v = .ref h ∧ Fact.tv h nh oh ∈ Φ' ∧ gd oh = "") ⟨_, _, _, _, _, rfl, by walk_at "IN", by walk_at "IN", fun _ => by walk_at "IN", fun h => absurd rfl h, (by intro f hf; repeat (first | exact hf | refine List.mem_cons_of_mem _ ?_)), rfl, (by (try dsimp only); lia), (by (try dsimp only); lia), fun v hv => by
      simp only [List.mem_cons, List.not_mem_nil, or_false] at hv
      rcases hv with rfl | rfl | rfl
      · exact ⟨_, _, _, rfl, by walk_at "IN", rfl⟩
      · exact ⟨_, _, _, rfl, by walk_at "IN", rfl⟩
      · exact ⟨_, _, _, rfl, by walk_at "IN", rfl⟩⟩ ?_ ?_
    · rintro i v h1 tk1 X1 _ _ n1 Φ1 hi hv ⟨nu, wa, nw, hv0, b, rfl, m1, m2, m3, m4, m5, rfl, b0, b1, m6⟩ hX F1 N1 H1
      obtain ⟨h, nh, oh, rfl, m7, eh⟩ := m6 v (List.mem_of_getElem? hv)
      have ha := m5 _ ha
      have hi' : i < 3 := hi
      have m3 := m3 rfl
      have F2 := fr_put S' F1 (by walk_at "PUT")
      clear F1
      (clear r32; clear r48; clear r43; clear r7 Z65 Z310; clear s53 joinE; clear r0; clear s43 c_netv; clear r129)
      refine Br.f (pool_br (H'.pool_eq (s := "") (by walk_at "IN") (by walk_at "IN"))) ?_
      (clear r48; clear r43; clear r7 Z65 Z310; clear s53 joinE; clear r0; clear s43 c_netv; clear r129)
      refine Br.f (pool_br (H'.pool_eq (s := "") (by walk_at "IN") (by walk_at "IN"))) ?_
      (clear s9 isTrue_or_nil; clear r132; clear s9 wpAny_execs_nil)
      exact Bd.next Φ1 ‹_› ‹_› H' (by
      intro f hf
      rcases List.mem_cons.mp hf with rfl | hf
      · walk_at "IN"
      · have hf : f ∈ Φ1 := hf
        walk_at "IN") ⟨_, _, _, _, _, rfl, m1, m2, fun _ => m3, fun h => absurd rfl h, m5, rfl, (by (try dsimp only); lia), (by (try dsimp only); lia), m6⟩
    · rintro h1 tk1 _ _ n1 Φ1 ⟨nu, wa, nw, hv0, b, rfl, m1, m2, m3, m4, m5, rfl, b0, b1, m6⟩ F1 N1 H1
      have ha := m5 _ ha
      have b1 : b ≤ st.b + 11 := b1
      (clear s9 Thn.next; clear r32; clear r43; clear r7 Z65 Z310; clear s53 joinE; clear s1 e_meth; clear r11; clear s30 w_m; clear s4 mm_text_ref; clear s22 cm Z332; clear s51 text_refS; clear s43 c_netv; clear r129)
      refine Br.f (pool_br (H'.pool_eq (s := "") (by walk_at "IN") (by walk_at "IN"))) ?_
      (clear r32; clear r48; clear r43; clear r7 Z60 Z305; clear s40 law_equal; clear r3; clear s9 ne_int; clear r129; clear r132; clear r48; clear r43; clear r7 Z60 Z305; clear s40 law_equal; clear r3; clear s9 ne_int; clear r129; clear r132; clear r48; clear r43; clear r7 Z60 Z305; clear s40 law_equal; clear r3; clear s9 ne_int; clear r129; clear r132; clear s9 isTrue_or_nil; clear r132; clear r31; clear s9 e_and; clear r21; clear r8; clear r1 Z58; clear r109 Z303; clear r126; clear r127; clear r1 Z47; clear r127; clear r28; clear r272; clear r125; clear r128; clear s41 num_equals; clear r3; clear s9 eq_int; clear r129; clear r133; clear s9 BoolOp_one; clear r21; clear r7 Z61 Z306; clear s40 law_order; clear r3; clear s9 eq_int; clear r134)
      exact hret _ _ _ _ (.same (b := b + 2) (by lia) (by lia)) kF kN (H'.sub fun f hf => by have := m5 f hf; walk_at "IN")
  · have hx' : x.length ≠ 0 := fun h => hx (len_zero.mp h)
    (clear r33; clear s9 Tuple_; clear r127; clear r1 Z20; clear r126; clear r125; clear s42 null_H; clear r273; clear r33; clear r0; clear r273; clear r32; clear r43; clear r7 Z62 Z307; clear r251; clear r3; clear s9 eq_int; clear r129; clear r132; clear r194; clear s9 Tuple_; clear r126; clear r127; clear s9 Subscript_; clear r11; clear s30 w_texts; clear r3; clear r246; clear r127; clear s1 e_meth; clear r11; clear s30 w_m; clear s4 mm_text_ref; clear s22 cm Z332; clear s51 text_refS; clear r125; clear r271)
    refine for_tup O'.hand ‹_› ‹_› H' (.head _) (fun i vals st' Φ' => ∃ (nu wa : Addr) (nw : Nat) (hv : Option Value) (b : Nat), vals = [some (.ref P.w), some (.ref a), some (.ref nu), some (.ref wa), hv] ∧ Fact.tv nu 0 none ∈ Φ' ∧ Fact.tv wa nw (some x) ∈ Φ' ∧ (x = "" → Fact.pool "" nw ∈ Φ') ∧ (x ≠ "" → nw = na) ∧ (∀ f ∈ Φ, f ∈ Φ') ∧ st' = ⟨st.T, st.th, b, st.fc⟩ ∧ st.b ≤ b ∧ b ≤ st.b + 5 + 2 * i ∧ ∀ v ∈ [Value.ref nul', .ref a1, .ref r'], ∃ h nh oh, v = .ref h ∧ Fact.tv h nh oh ∈ Φ' ∧ gd oh = "") ⟨_, _, _, _, _, rfl, by walk_at "IN", by walk_at "IN", fun h => absurd h hx, fun _ => rfl, (by intro f hf; repeat (first | exact hf | refine List.mem_cons_of_mem _ ?_)), rfl, (by (try dsimp only); lia), (by (try dsimp only); lia), fun v hv => by
      simp only [List.mem_cons, List.not_mem_nil, or_false] at hv
      rcases hv with rfl | rfl | rfl
      · exact ⟨_, _, _, rfl, by walk_at "IN", rfl⟩
      · exact ⟨_, _, _, rfl, by walk_at "IN", rfl⟩
      · exact ⟨_, _, _, rfl, by walk_at "IN", rfl⟩⟩ ?_ ?_
    · rintro i v h1 tk1 X1 _ _ n1 Φ1 hi hv ⟨nu, wa, nw, hv0, b, rfl, m1, m2, m3, m4, m5, rfl, b0, b1, m6⟩ hX F1 N1 H1
      obtain ⟨h, nh, oh, rfl, m7, eh⟩ := m6 v (List.mem_of_getElem? hv)
      have ha := m5 _ ha
      have hi' : i < 3 := hi
      obtain rfl := m4 hx
      have F2 := fr_put S' F1 (by walk_at "PUT")
      clear F1
      (clear r32; clear r48; clear r43; clear r7 Z65 Z310; ((with_reducible refine joinL ‹8› ‹_› ‹_› ‹_› ‹0› ‹0› ?hz ?za ?ex ?eb ?_); (case hz => (first | assumption | lia | (dsimp only; lia))); (case za => (first | assumption | lia | (dsimp only; lia))); (case ex => assumption); (case eb => (first | exact rfl | assumption)); ((try clear H'); (try clear F' N'); intro r' n' h' tk' F' N' H')); clear r0; clear s43 c_netv; clear r129; clear r132; clear r48; clear r43; clear r7 Z65 Z310; ((with_reducible refine joinR ‹8› ‹_› ‹_› ‹_› ‹0› ‹0› ?hz ?za ?ex ?ea ?_); (case hz => (first | assumption | lia | (dsimp only; lia))); (case za => (first | assumption | lia | (dsimp only; lia))); (case ex => assumption); (case ea => (first | exact rfl | assumption)); ((try clear H'); (try clear F' N'); intro r' n' h' tk' F' N' H')); clear r0; clear s43 c_netv; clear r129; clear r132; clear s9 isTrue_or_nil; clear r132; clear s9 wpAny_execs_nil)
      exact Bd.next Φ1 ‹_› ‹_› H' (by
      intro f hf
      rcases List.mem_cons.mp hf with rfl | hf
      · walk_at "IN"
      · have hf : f ∈ Φ1 := hf
        walk_at "IN") ⟨_, _, _, _, _, rfl, m1, m2, fun h => absurd h hx, fun _ => rfl, m5, rfl, (by (try dsimp only); lia), (by (try dsimp only); lia), m6⟩
    · rintro h1 tk1 _ _ n1 Φ1 ⟨nu, wa, nw, hv0, b, rfl, m1, m2, m3, m4, m5, rfl, b0, b1, m6⟩ F1 N1 H1
      have ha := m5 _ ha
      have b1 : b ≤ st.b + 11 := b1
      (clear s9 Thn.next; clear r32; clear r43; clear r7 Z65 Z310; clear s53 joinE; clear s1 e_meth; clear r11; clear s30 w_m; clear s4 mm_text_ref; clear s22 cm Z332; clear s51 text_refS; clear s43 c_netv; clear r129)
      refine Br.f (pool_br (H'.pool_eq (s := "") (by walk_at "IN") (by walk_at "IN"))) ?_
      (clear r32; clear r48; clear r43; clear r7 Z60 Z305; clear s40 law_equal; clear r3; clear s9 ne_int; clear r129; clear r132; clear r48; clear r43; clear r7 Z60 Z305; clear s40 law_equal; clear r3; clear s9 ne_int; clear r129; clear r132; clear r48; clear r43; clear r7 Z60 Z305; clear s40 law_equal; clear r3; clear s9 ne_int; clear r129; clear r132; clear s9 isTrue_or_nil; clear r132; clear r31; clear s9 e_and; clear r21; clear r8; clear r1 Z58; clear r109 Z303; clear r126; clear r127; clear r1 Z47; clear r127; clear r28; clear r272; clear r125; clear r128; clear s41 num_equals; clear r3; clear s9 eq_int; clear r129; clear r133; clear s9 BoolOp_one; clear r21; clear r7 Z61 Z306; clear s40 law_order; clear r3; clear s9 eq_int; clear r134)
      exact hret _ _ _ _ (.same (b := b + 2) (by lia) (by lia)) kF kN (H'.sub fun f hf => by have := m5 f hf; walk_at "IN")
theorem law_hollow {a na x a1 n1} (O : Ok w A h₀ L 22) (F : Fr h₀ L hp m) (N : News h₀ L hp (X ++ news)) (H : Hs w P X st news Φ) (ha : Fact.tv a na (some x) ∈ Φ) (za : x.length ≤ 6) (hz : st.b ≤ 800000) (hT : st.T[1]? = some (a1, n1, some ("" : Str))) (hT2 : st.T.length ≤ 999)
    (hret : ∀ st' news' h' tk', Kept 1000 st st' → Fr h₀ L h' m → News h₀ L h' (X ++ news') → Hs w P X st' news' Φ → Q (.bool true) ⟨h', gn, dr, tk', oS⟩) :
    wpAny (model PR w) A (call (.ref 970) [.ref P.w, .ref a]) Q E ⟨hp, gn, dr, tk, oS⟩ := law_hollow_r (((((((((((((((((((((w, A), h₀), L), m), hp), gn), dr), tk), oS), P), X), news), st), Φ), Q), E), a), na), x), a1), n1) O F N H ha za hz hT hT2 hret

end
end Mine
end S18_
section S19_
namespace Mine

section
variable {w : World} {A : Around} {h₀ : Heap} {L : Addr} {m : Str → Option Value} {hp : Heap} {gn : Array GenState} {dr : Drawn} {tk : Nat} {oS : OsState} {P : Pl} {X news led : Led} {st : St} {σ : Sg} {Φ : List Fact} {Q E : Value → Shared → Prop}
theorem pool_br9 {n n' : Nat} (h : n = n') : (!decide (n = n')) = false := by simp [h]
theorem ofU_nil : ofU [] = "" := str_ext rfl
theorem newList_M2 {M : Model} (F : Fr h₀ L hp m) (N : News h₀ L hp (X ++ news)) (H : Hs w P X st news Φ)
    (h : ∀ l h', (∀ p ∈ X, p.1 ≠ l) → Fr h₀ L h' m → News h₀ L h' (((l, listOf [].toArray 0) :: X) ++ news) → Hs w P ((l, listOf [].toArray 0) :: X) st news Φ → Q (.ref l) ⟨h', gn, dr, tk, oS⟩) : wpAny M A (newList []) Q E ⟨hp, gn, dr, tk, oS⟩ :=
  newList_M F N H (Nat.zero_le _) fun l h' F' N' H' hl => h l h' hl F' N' H'
end

set_option hygiene false in
local macro_rules | `(tactic| walk_at "ENTER") => `(tactic| ((case ho => k_is); (case hcd => k_is); (case hb => exact rfl); (case hl => exact rfl); (case hS => exact rfl); (case hc => exact rfl); (case hv => exact rfl); (case hpm => exact rfl); ((try clear F' N'); intro g' L' h' tk' p' lo' me' mg' mb' S' O' X' T' F' N'); have Z' := Zn.mk S' X' ⟨_, _, _, _, _, T'⟩))
section
variable {w : World} {A : Around} {h₀ : Heap} {L : Addr} {m : Str → Option Value} {hp : Heap} {gn : Array GenState} {dr : Drawn} {tk : Nat} {oS : OsState} {P : Pl} {X news led : Led} {st : St} {σ : Sg} {Φ : List Fact} {Q E : Value → Shared → Prop}

theorem joinP {a b : Addr} {na nb : Nat} {x y : Str} (O : Ok w A h₀ L 18) (F : Fr h₀ L hp m) (N : News h₀ L hp (X ++ news)) (H : Hs w P X st news Φ) (ha : Fact.tv a na (some x) ∈ Φ) (hb : Fact.tv b nb (some y) ∈ Φ) (hpr : Fact.priv nb ∈ Φ) (hz : st.b ≤ 1000000) (za : x.length ≤ 1000) (zb : y.length ≤ 1000) (hy : y ≠ "")
    (hret : ∀ r n s news' h' tk', s = x ++ y → s.length = x.length + y.length → Fr h₀ L h' m → News h₀ L h' (X ++ news') → Hs w P X ⟨st.T, st.th, st.b + 1, st.fc⟩ news' (.tv r n (some s) :: .priv n :: Φ) → Q (.ref r) ⟨h', gn, dr, tk', oS⟩) :
    wpAny (model PR w) A (call (.ref 865) [.ref P.w, .ref a, .ref b]) Q E ⟨hp, gn, dr, tk, oS⟩ := law_join O F N H ha hb hz za zb fun r n ex news' h' tk' F' N' C H' => by
    refine hret r n _ news' h' tk' rfl (app_len x y) F' N' ?_
    rcases C with ⟨-, h, -⟩ | ⟨-, -, rfl, rfl⟩ | ⟨-, h, -⟩ | ⟨-, -, rfl, -⟩
    · exact absurd h hy
    · exact H'.sub fun f hf => by
        rcases List.mem_cons.mp hf with rfl | hf
        · exact .head _
        rcases List.mem_cons.mp hf with rfl | hf
        · exact .tail _ hpr
        · exact .tail _ hf
    · exact absurd h hy
    · exact H'

def law_made_S (a1 : Addr) (n1 : Nat) (a4 : Addr) (n4 : Nat) (a6 : Addr) (n6 : Nat) (x4 x6 : Str) (z : Int) (tz : Tok) : Prop := ∀ (O : Ok w A h₀ L 22) (F : Fr h₀ L hp m) (N : News h₀ L hp (X ++ news)) (H : Hs w P X st news Φ) (hz : st.b ≤ 800000) (h1 : st.T[1]? = some (a1, n1, some ("" : Str))) (h4 : st.T[4]? = some (a4, n4, some x4)) (h6 : st.T[6]? = some (a6, n6, some x6)) (hpr : Fact.priv n1 ∈ Φ) (l4 : x4.length ≤ 6) (l6 : x6.length = 2) (hT : st.T.length ≤ 999) (hT2 : st.fc.length ≤ 999) (hret : ∀ st' news' h' tk', Kept 1000 st st' → Fr h₀ L h' m → News h₀ L h' (X ++ news') → Hs w P X st' news' Φ → Q (.bool true) ⟨h', gn, dr, tk', oS⟩), wpAny (model PR w) A (call (.ref 949) [.ref P.w, .int z tz]) Q E ⟨hp, gn, dr, tk, oS⟩
theorem law_made_r : ∀ r : ((((((((((HT17 × Addr) × Nat) × Addr) × Nat) × Addr) × Nat) × Str) × Str) × Int) × Tok), (c17 (@law_made_S) r.1.1.1.1.1.1.1.1.1.1) r.1.1.1.1.1.1.1.1.1.2 r.1.1.1.1.1.1.1.1.2 r.1.1.1.1.1.1.1.2 r.1.1.1.1.1.1.2 r.1.1.1.1.1.2 r.1.1.1.1.2 r.1.1.1.2 r.1.1.2 r.1.2 r.2 := by
  refine ep_all (ne := by walk_at "NE") ((?_ : ∀ w A h₀ L m hp gn dr tk oS P X news st Φ Q E a1 n1 a4 n4 a6 n6 x4 x6 z tz, @law_made_S w A h₀ L m hp gn dr tk oS P X news st Φ Q E a1 n1 a4 n4 a6 n6 x4 x6 z tz) _ _ _ _ _ _ _ _ _ _ _ _ _ _ _ _ _ _ _ _ _ _ _ _ _ _ _)
  intro w A h₀ L m hp gn dr tk oS P X news st Φ Q E a1 n1 a4 n4 a6 n6 x4 x6 z tz O F N H hz h1 h4 h6 hpr l4 l6 hT hT2 hret
  refine' callfE (d := 21) ["w", "z"] ["m", "units", "k", "text", "fresh", "kept", "put_by", "u", "longer"] ["range", "_law_units", "_law_join", "chr", "_law_keep", "_law_one", "_law_part", "len"] [some (.ref P.w), some (.int z tz), none, none, none, none, none, none, none, none, none] O F N ?ho ?hcd ?hb ?hl ?hS ?hc ?hv ["w", "z", "m", "units", "k", "text", "fresh", "kept", "put_by", "u", "longer"] ?hpm ?_
  walk_at "ENTERE"
  (clear r33; clear r11; clear s30 w_m; clear r273; clear r33; clear r28; ((with_reducible refine newList_M2 ‹_› ‹_› ‹_› ?_); ((try clear H'); (try clear F' N'); intro l' h' hl' F' N' H')); clear r273; clear r194; clear r8; clear r2 Z91; clear s23 c_typ; clear r127; clear r16; clear s47 o_emodB; clear r125; clear s38 range1_H)
  refine for_rangeM (r'.toNat) O'.hand ‹_› ‹_› H' hl' (by walk_at "IN") (by lia) rfl (fun i o vals st' Φ' => ∃ vs us k t v1, o = listOf vs.toArray k ∧ IntsAre vs us ∧ (∀ u ∈ us, 0 ≤ u ∧ u ≤ 1114111) ∧ us.length = i ∧ vals = [some (.ref P.w), some (.int z t), some (.ref P.m), some (.ref l'), v1, none, none, none, none, none, none] ∧ st = st' ∧ Φ' = Fact.ent rr' (rangeOb 0 r' t1' t2' t3') :: Φ) ⟨[], [], 0, _, _, rfl, .nil, (fun _ h => nomatch h), rfl, rfl, rfl, rfl⟩ ?_ ?_
  · rintro i t hh1 tk1 X1 o _ _ nn1 _ hi ⟨vs, us, k, t0, v1, rfl, hu, hr, hlen, rfl, rfl, rfl⟩ hX hl1 F1 N1 H1
    have F2 := fr_put S' F1 (by walk_at "PUT")
    clear F1
    have hvl := hu.length
    (clear s19 x_expr; clear r9; ((with_reducible refine gm_appendM ‹_› ?_)); clear s23 c_bmt; clear r127; clear s9 Subscript_; (with_reducible refine tu ‹_› ‹_› ‹3› ?_); clear r271; clear s9 wpAny_BinOp; clear s9 wpAny_BinOp; clear r16; clear s48 o_fdivB; clear r16; ((with_reducible show wpAny _ _ (binaryOp _ _ _) _ _ _); ((with_reducible refine o_pow7 ?h0 ?h1 ?_); (case h0 => (first | assumption | lia | (dsimp only; lia))); (case h1 => (first | assumption | lia | (dsimp only; lia))); intro r' r0' r1')); clear s48 o_fdivB; clear r3; clear s47 o_emodB; ((with_reducible refine tu_pick ‹_› ‹_› ‹0› (.cons _ _ (.cons _ _ (.cons _ _ (.cons _ _ (.cons _ _ (.cons _ _ (.cons _ _ .nil))))))) ?h0 ?h1 ?hz ?_ ?hs); (case h0 => (first | assumption | lia | (dsimp only; lia))); (case h1 => first | assumption | (simp only [List.length_cons, List.length_nil]; lia)); (case hz => exact Nat.le_of_ble_eq_true rfl); (case hs => with_unfolding_all exact rfl); intro u' tu' hu'); clear r125; ((with_reducible refine appendM ‹_› ‹_› ‹_› ‹_› ?hz ?_); (case hz => (first | assumption | lia | (dsimp only; lia))); ((try clear H'); (try clear F' N'); intro h' F' N' H')); clear s9 wpAny_execs_nil)
    refine BdM.next _ ‹_› ‹_› H' (by intro f hf; repeat (first | exact hf | refine List.mem_cons_of_mem _ ?_)) ⟨vs ++ [.int u' tu'], us ++ [u'], k + 1, _, _, rfl, ints_snoc hu _ _, ?_, by simp [hlen], rfl, rfl, rfl⟩
    intro v hv
    rcases List.mem_append.mp hv with hv | hv
    · exact hr v hv
    · rw [List.mem_singleton.mp hv]
      simp only [List.mem_cons, List.not_mem_nil, or_false] at hu'
      lia
  · rintro hh1 tk1 o _ _ nn1 _ ⟨vs, us, k, t0, v1, rfl, hu, hr, hlen, rfl, rfl, rfl⟩ F1 N1 H1
    have hvl := hu.length
    have hul : us.length ≤ 4 := by lia
    have hol := ofU_len us
    (clear s9 Thn.next; clear r33; clear r7 Z71 Z316)
    refine law_units (vs := vs) (us := us) (k := k) ‹8› ‹_› ‹_› ‹_› (.inr (.head _)) hu hr (by lia) fun tt n5 h5 tk5 F5 N5 H5 => ?_
    (clear r273; clear r33; clear r9; clear s4 mm_new_text; clear s22 cm Z333)
    refine new_textS ‹8› ‹_› ‹_› ‹_› (by (try dsimp only); lia) fun fr kf n2 h2 tk2 F2 N2 H2 => ?_
    (clear r273; clear r33; clear r9; clear s4 mm_text_ref; clear s22 cm Z332)
    refine text_refS ‹8› ‹_› ‹_› ‹_› (by (try dsimp only); lia) fun kp kk n3 h3 tk3 F3 N3 H3 => ?_
    (clear r273; clear r33; clear s9 Subscript_; clear r11; clear s30 w_texts; clear r3; clear r246; clear r273; clear r194; clear r0)
    refine for_lst (vs := vs) (Φ := _) [] O'.hand ‹_› ‹_› H' (.inr (.head _)) (fun i vals st' Φ' => ∃ r n b t t2 v1 v2, vals = [some (.ref P.w), some (.int z t), some (.ref P.m), some (.ref l'), v1, some (.str (ofU us) t2), some (.ref fr), some (.ref kp), some (.ref r), v2, none] ∧ Fact.tv r n (some (ofU (us.take i))) ∈ Φ' ∧ Fact.priv n ∈ Φ' ∧ (∀ f ∈ Fact.tv kp kk (some (ofU us)) :: Fact.pool (ofU us) kk :: Fact.tv fr kf (some (ofU us)) :: Fact.priv kf :: Φ, f ∈ Φ') ∧ st' = ⟨st.T, st.th, b, st.fc⟩ ∧ st.b ≤ b ∧ b ≤ st.b + 2 + 2 * i) ⟨a1, n1, _, _, _, _, _, rfl, by rw [show us.take 0 = [] from rfl, ofU_nil]; walk_at "IN", by walk_at "IN", List.forall_mem_cons.mpr ⟨by walk_at "IN", List.forall_mem_cons.mpr ⟨by walk_at "IN", List.forall_mem_cons.mpr ⟨by walk_at "IN", List.forall_mem_cons.mpr ⟨by walk_at "IN", (by intro f hf; repeat (first | exact hf | refine List.mem_cons_of_mem _ ?_))⟩⟩⟩⟩, rfl, (by (try dsimp only); lia), (by (try dsimp only); lia)⟩ ?_ ?_
    · rintro i v h2 tk2 X1 _ _ n2 Φ1 hi hv ⟨r, n, b, t3, t4, v2, v3, rfl, p1, p2, p3, rfl, b0, b1⟩ hX F2 N2 H2
      obtain ⟨u, tu, rfl, hu'⟩ := ints_get hu hv
      have hb := hr u (List.mem_of_getElem? hu')
      have F3 := fr_put S' F2 (by walk_at "PUT")
      clear F2
      have hl1 := ofU_len (us.take i)
      have hl2 : (us.take i).length ≤ us.length := by simp; lia
      have hy : (⟨#[u.toNat]⟩ : Str) ≠ "" := fun h => by have := congrArg Str.length h; cases this
      have hy1 : (⟨#[u.toNat]⟩ : Str).length = 1 := rfl
      replace H2 : Hs w P _ _ n2 Φ1 := H2
      (clear r33; clear r8; clear r1 Z65; clear r109 Z310; clear r126; clear r126; clear r127; clear r9; clear s4 mm_new_text; clear s14 c_mth Z333; clear r127; clear r8; clear r2 Z90; clear r107; ((with_reducible refine s_chr ?hi ?_); (case hi => (first | assumption | lia | (dsimp only; lia))); skip); clear r125; clear r128)
      refine new_textS ‹8› ‹_› ‹_› ‹_› (by (try dsimp only); lia) fun cr ck n4 h4 tk4 F4 N4 H4 => ?_
      (clear r125; clear r128; ((with_reducible refine joinP ‹8› ‹_› ‹_› ‹_› ‹0› ‹0› ‹0› ?hz ?za ?zb ?hy ?_); (case hz => (first | assumption | lia | (dsimp only; lia))); (case za => (first | assumption | lia | (dsimp only; lia))); (case zb => (first | assumption | lia | (dsimp only; lia))); (case hy => assumption); ((try clear H'); (try clear F' N'); intro r' k' s' n' h' tk' es' ls' F' N' H')); clear r273; clear s9 wpAny_execs_nil)
      have e : s' = ofU (us.take (i + 1)) := by rw [es', ofU_snoc, List.take_add_one, hu']; rfl
      exact Bd.next (Fact.tv r' k' (some s') :: Fact.priv k' :: Φ1) ‹_› ‹_› H' (List.forall_mem_cons.mpr ⟨.head _, List.forall_mem_cons.mpr ⟨.tail _ (.head _), fun f hf => .tail _ (.tail _ (.tail _ (.tail _ hf)))⟩⟩) ⟨_, _, _, _, _, _, _, rfl, by rw [← e]; exact .head _, .tail _ (.head _), fun f hf => .tail _ (.tail _ (p3 f hf)), rfl, (by (try dsimp only); lia), (by (try dsimp only); lia)⟩
    · rintro h2 tk2 _ _ n2 Φ1 ⟨r, n, b, t3, t4, v2, v3, rfl, p1, p2, p3, rfl, b0, b1⟩ F2 N2 H2
      rw [hvl, List.take_length] at p1
      replace H2 : Hs w P _ _ n2 Φ1 := H2
      have q1 := p3 _ (.head _)
      have q2 := p3 _ (.tail _ (.head _))
      have q3 := p3 _ (.tail _ (.tail _ (.head _)))
      have q4 := p3 _ (.tail _ (.tail _ (.tail _ (.head _))))
      (clear s9 Thn.next; clear r32; clear r48; clear r41; clear s43 c_eqtv; clear r129)
      refine Br.f (decide_eq_false (H2.priv_ne q2 q4)) ?_
      (clear r48; clear r41; clear s43 c_eqtv; clear r129)
      refine Br.f (decide_eq_false (H2.priv_ne q2 p2)) ?_
      (clear r48; clear r43; clear r9; clear s4 mm_text_ref; clear s22 cm Z332)
      refine text_refS ‹8› ‹_› ‹_› ‹_› (by (try dsimp only); lia) fun k3 kn n6 h6' tk6 F6 N6 H6 => ?_
      clear F' N' H'
      (clear r0; clear s43 c_netv; clear r129)
      refine Br.f (pool_br9 (H6.pool_eq (.tail _ (.head _)) (.tail _ (.tail _ q2)))) ?_
      (clear s9 isTrue_or_nil; clear r132; clear r33; clear r8; clear r1 Z65; clear r109 Z310; clear r126; clear r127; clear s9 Subscript_; clear r11; clear s30 w_texts; clear r3; clear r246; clear r127; clear r8; clear r1 Z65; clear r109 Z310; clear r126; clear r126; clear r127; clear s9 Subscript_; clear r11; clear s30 w_texts; clear r3; clear r246; clear r125; clear r128; clear r255; clear r125; clear r128; clear r255; clear r273; clear s19 x_expr; clear r7 Z68 Z313; ((with_reducible refine law_keep ‹8› ‹_› ‹_› ‹_› ‹0› ?za ?hz ?hz2 ?_); (case za => (first | assumption | lia | (dsimp only; lia))); (case hz => (first | assumption | lia | (dsimp only; lia))); (case hz2 => (first | assumption | lia | (dsimp only; lia))); ((try clear H'); (try clear F' N'); intro st' n' h' tk' K' F' N' H'); have kb' := Kept.le K'; (try dsimp only at kb')); clear r31; clear s9 e_and; clear r7 Z64 Z309; clear r260; clear r129; clear r133; clear s9 e_and; clear r7 Z64 Z309; clear r260; clear r129; clear r133; clear s9 BoolOp_one; clear r8; clear r1 Z64; clear r109 Z309; clear r126; clear r127; clear r8; clear r1 Z63; clear r109 Z308; clear r126; clear r126; clear r126; clear r127; clear r8; clear r2 Z88; clear r107; ((with_reducible show wpAny _ _ (call (Value.builtin "len") _) _ _ _); ((with_reducible refine len_led ‹_› (by first | exact List.mem_append_left _ ‹_› | exact List.mem_cons_self | exact List.mem_append_left _ List.mem_cons_self) ?hz ?_); (case hz => (rw [List.size_toArray]; lia)); skip)); clear r125; clear r128; rotate_left; rotate_left; rotate_left)
      rotate_left
      · rfl
      · rfl
      have hsz : vs.toArray.size = vs.length := by simp
      (clear r259; clear r126; clear r125; clear r128; clear r260; clear r134; rotate_left; rotate_left)
      · exact hret _ _ _ _ (K'.fin (e := st'.b + 1) rfl rfl rfl (by (try dsimp only); lia) (by lia) (by lia)) kF (news_narrow kN (fun p hp => .tail _ hp)) ((H'.sub fun f hf => by have := p3 f (.tail _ (.tail _ (.tail _ (.tail _ hf)))); walk_at "IN").narrow (fun p hp => .tail _ hp))
      · have hc := cut_in x6 (ofU us) x4
        rw [l6, hol] at hc
        rw [show ((vs.toArray.size : Nat) : Int).toNat = us.length by lia] at es'
        subst_vars
        exact hc
theorem law_made {a1 n1 a4 n4 a6 n6 x4 x6} {z : Int} {tz : Tok} (O : Ok w A h₀ L 22) (F : Fr h₀ L hp m) (N : News h₀ L hp (X ++ news)) (H : Hs w P X st news Φ) (hz : st.b ≤ 800000) (h1 : st.T[1]? = some (a1, n1, some ("" : Str))) (h4 : st.T[4]? = some (a4, n4, some x4)) (h6 : st.T[6]? = some (a6, n6, some x6)) (hpr : Fact.priv n1 ∈ Φ) (l4 : x4.length ≤ 6) (l6 : x6.length = 2) (hT : st.T.length ≤ 999) (hT2 : st.fc.length ≤ 999)
    (hret : ∀ st' news' h' tk', Kept 1000 st st' → Fr h₀ L h' m → News h₀ L h' (X ++ news') → Hs w P X st' news' Φ → Q (.bool true) ⟨h', gn, dr, tk', oS⟩) :
    wpAny (model PR w) A (call (.ref 949) [.ref P.w, .int z tz]) Q E ⟨hp, gn, dr, tk, oS⟩ := law_made_r ((((((((((((((((((((((((((w, A), h₀), L), m), hp), gn), dr), tk), oS), P), X), news), st), Φ), Q), E), a1), n1), a4), n4), a6), n6), x4), x6), z), tz) O F N H hz h1 h4 h6 hpr l4 l6 hT hT2 hret

end
end Mine
end S19_
section U0_
namespace Mine
structure Base (T : List (Addr × Nat × Option Str)) (Φ : List Fact) : Prop where
  t0 : ∃ a, T[0]? = some (a, 0, none)
  t1 : ∃ a n, T[1]? = some (a, n, some ("" : Str)) ∧ Fact.priv n ∈ Φ
  t3 : ∃ a n x, T[3]? = some (a, n, some x) ∧ x.length ≤ 6
  t4 : ∃ a n x, T[4]? = some (a, n, some x) ∧ x.length ≤ 6
  t5 : ∃ a n x, T[5]? = some (a, n, some x) ∧ x.length ≤ 6
  t6 : ∃ a n x, T[6]? = some (a, n, some x) ∧ x.length = 2
structure Good (Φ : List Fact) (k : Nat) (st : St) : Prop where
  th : st.th = []
  base : Base st.T Φ
  ten : 10 ≤ st.T.length ∧ st.T.length ≤ 10 + k
  fl : st.fc.length = st.T.length
  row : ∀ (i : Nat) a n os, 0 < i → st.T[i]? = some (a, n, os) → ∃ x, os = some x ∧ x.length ≤ 6 ∧ st.fc[i]? = some (((x.length : Nat) : Int), hashS x)
  b : st.b ≤ 5000 + 1000 * k
def Good.kept_S (Φ : List Fact) (k : Nat) (st st' : Mine.St) : Prop := ∀ (G : Good Φ k st) (K : Kept 1000 st st'), Good Φ (k + 1) st'
theorem Good.kept_r : ∀ r : ((((List Fact) × Nat) × Mine.St) × Mine.St), @Good.kept_S r.1.1.1 r.1.1.2 r.1.2 r.2 := by
  refine ep_all (ne := by walk_at "NE") ((?_ : ∀ Φ k st st', @Good.kept_S Φ k st st') _ _ _ _)
  intro Φ k st st' G K
  obtain ⟨h1, h2, h3, h4⟩ := K
  rcases h4 with ⟨e1, e2⟩ | ⟨a, n, x, hx, e1, e2⟩
  · exact ⟨h1.trans G.th, by rw [e1]; exact G.base, by rw [e1]; have := G.ten; lia, by rw [e1, e2]; exact G.fl, by rw [e1, e2]; exact G.row, by have := G.b; lia⟩
  · have ht := G.ten
    have hf := G.fl
    have old : ∀ (i : Nat) y, st.T[i]? = some y → st'.T[i]? = some y := fun i y h => by
      rw [e1, List.getElem?_append_left (List.getElem?_eq_some_iff.mp h).1]; exact h
    refine ⟨h1.trans G.th, ?_, ?_, ?_, ?_, by have := G.b; lia⟩
    · obtain ⟨⟨a0, t0⟩, ⟨a1, n1, t1, p1⟩, ⟨a3, n3, x3, t3, l3⟩, ⟨a4, n4, x4, t4, l4⟩, ⟨a5, n5, x5, t5, l5⟩, ⟨a6, n6, x6, t6, l6⟩⟩ := G.base
      exact ⟨⟨a0, old _ _ t0⟩, ⟨a1, n1, old _ _ t1, p1⟩, ⟨a3, n3, x3, old _ _ t3, l3⟩, ⟨a4, n4, x4, old _ _ t4, l4⟩, ⟨a5, n5, x5, old _ _ t5, l5⟩, ⟨a6, n6, x6, old _ _ t6, l6⟩⟩
    · rw [e1]; simp; lia
    · rw [e1, e2]; simp; lia
    · intro i a' n' os hi h
      by_cases q : i < st.T.length
      · rw [e1, List.getElem?_append_left q] at h
        obtain ⟨y, r1, r2, r3⟩ := G.row i a' n' os hi h
        exact ⟨y, r1, r2, by rw [e2, List.getElem?_append_left (by lia)]; exact r3⟩
      · have hlt := (List.getElem?_eq_some_iff.mp h).1
        rw [e1] at hlt
        simp at hlt
        have ei : i = st.T.length := by lia
        subst ei
        rw [e1, List.getElem?_append_right (Nat.le_refl _)] at h
        simp at h
        obtain ⟨rfl, rfl, rfl⟩ := h
        exact ⟨x, rfl, hx, by rw [e2, ← hf, List.getElem?_append_right (Nat.le_refl _)]; simp⟩
theorem Good.kept {Φ : List Fact} {k : Nat} {st st' : St} (G : Good Φ k st) (K : Kept 1000 st st') : Good Φ (k + 1) st' := Good.kept_r (((Φ, k), st), st') G K

theorem Good.pick {Φ : List Fact} {k : Nat} {st : St} (G : Good Φ k st) {j : Int} (h0 : 0 ≤ j) (h1 : j < (st.T.length : Nat)) :
    ∃ a n os, st.T[j.toNat]? = some (a, n, os) ∧ (gd os).length ≤ 6 ∧ ((os = none) ∨ ∃ x, os = some x ∧ x.length ≤ 6) := by
  have hlt : j.toNat < st.T.length := by lia
  obtain ⟨⟨a, n, os⟩, hx⟩ : ∃ x, st.T[j.toNat]? = some x := ⟨_, List.getElem?_eq_getElem hlt⟩
  refine ⟨a, n, os, hx, ?_⟩
  by_cases hj : j.toNat = 0
  · obtain ⟨a0, h0⟩ := G.base.t0
    rw [hj, h0] at hx
    cases hx
    exact ⟨Nat.zero_le _, .inl rfl⟩
  · obtain ⟨x, rfl, hl, -⟩ := G.row _ a n os (by lia) hx
    exact ⟨hl, .inr ⟨x, rfl, hl⟩⟩
end Mine
end U0_
section S20_
namespace Mine

set_option hygiene false in
local macro_rules | `(tactic| walk_at "ENTER") => `(tactic| ((case ho => k_is); (case hcd => k_is); (case hb => exact rfl); (case hl => exact rfl); (case hS => exact rfl); (case hc => exact rfl); (case hv => exact rfl); (case hpm => exact rfl); ((try clear F' N'); intro g' L' h' tk' p' lo' me' mg' mb' S' O' X' T' F' N'); have Z' := Zn.mk S' X' ⟨_, _, _, _, _, T'⟩))
section
variable {w : World} {A : Around} {h₀ : Heap} {L : Addr} {m : Str → Option Value} {hp : Heap} {gn : Array GenState} {dr : Drawn} {tk : Nat} {oS : OsState} {P : Pl} {X news led : Led} {st : St} {σ : Sg} {Φ : List Fact} {Q E : Value → Shared → Prop}
variable {g : Heap} {env : Env} {ns : List Str} {vals : List (Option Value)}

def Jn (w : World) (P : Pl) (g : Heap) (L : Addr) (X : Led) (gn : Array GenState) (dr : Drawn) (oS : OsState) (ns : List Str) (st : St) (R : List (Option Value) → List Fact → Prop) (s : Shared) : Prop :=
  ∃ h' tk' vals' news' Φ', s = ⟨h', gn, dr, tk', oS⟩ ∧ Fr g L h' (lc ns vals') ∧ News g L h' (X ++ news') ∧ Hs w P X st news' Φ' ∧ R vals' Φ'
theorem Jn.mk {R : List (Option Value) → List Fact → Prop} (F : Fr g L hp (lc ns vals)) (N : News g L hp (X ++ news)) (H : Hs w P X st news Φ) (r : R vals Φ) : Jn w P g L X gn dr oS ns st R ⟨hp, gn, dr, tk, oS⟩ := ⟨hp, tk, vals, news, Φ, rfl, F, N, H, r⟩
theorem x_ifj {t : PySem.Expr} {b rest : List Stmt} {pos : Pos} {Q : Flow → Shared → Prop} (F : Fr g L hp (lc ns vals)) (N : News g L hp (X ++ news)) (H : Hs w P X st news Φ) (R : List (Option Value) → List Fact → Prop)
    (J : wpAny (model PR w) A (isTrue t env (eval t env)) (fun c s₂ => Br c (wpAny (model PR w) A (execs b env) (fun f s => f = .next ∧ Jn w P g L X gn dr oS ns st R s) (fun _ _ => False) s₂) (Jn w P g L X gn dr oS ns st R s₂)) (fun _ _ => False) ⟨hp, gn, dr, tk, oS⟩)
    (k : ∀ h' tk' news' vals' Φ', R vals' Φ' → Fr g L h' (lc ns vals') → News g L h' (X ++ news') → Hs w P X st news' Φ' → wpAny (model PR w) A (execs rest env) Q (fun _ _ => False) ⟨h', gn, dr, tk', oS⟩) :
    wpAny (model PR w) A (execs (.If t b [] pos :: rest) env) Q (fun _ _ => False) ⟨hp, gn, dr, tk, oS⟩ := by
  refine x_if (wpAny_mono J (fun c s₂ h => ?_) fun _ _ x => x)
  cases c with
  | true => exact ⟨fun _ => wpAny_mono (h.1 rfl) (fun f s₃ hf => by
      obtain ⟨rfl, h', tk', vals', news', Φ', rfl, F', N', H', r⟩ := hf
      exact k h' tk' news' vals' Φ' r F' N' H') fun _ _ x => x, fun e => by cases e⟩
  | false =>
    obtain ⟨h', tk', vals', news', Φ', rfl, F', N', H', r⟩ := h.2 rfl
    exact Br.f rfl (k h' tk' news' vals' Φ' r F' N' H')

def law_step_S (q : Int) (tq : Tok) (k : Nat) : Prop := ∀ (O : Ok w A h₀ L 23) (F : Fr h₀ L hp m) (N : News h₀ L hp (X ++ news)) (H : Hs w P X st news Φ) (hq : 0 ≤ q) (hq2 : q < 1000000007) (G : Good Φ k st) (hk : k ≤ 100) (hret : ∀ st' news' h' tk', Kept 1000 st st' → Fr h₀ L h' m → News h₀ L h' (X ++ news') → Hs w P X st' news' Φ → Q (.bool true) ⟨h', gn, dr, tk', oS⟩), wpAny (model PR w) A (call (.ref 977) [.ref P.w, .int q tq]) Q E ⟨hp, gn, dr, tk, oS⟩
theorem law_step_r : ∀ r : (((HT17 × Int) × Tok) × Nat), (c17 (@law_step_S) r.1.1.1) r.1.1.2 r.1.2 r.2 := by
  refine ep_all (ne := by walk_at "NE") ((?_ : ∀ w A h₀ L m hp gn dr tk oS P X news st Φ Q E q tq k, @law_step_S w A h₀ L m hp gn dr tk oS P X news st Φ Q E q tq k) _ _ _ _ _ _ _ _ _ _ _ _ _ _ _ _ _ _ _ _)
  intro w A h₀ L m hp gn dr tk oS P X news st Φ Q E q tq k O F N H hq hq2 G hk hret
  refine' callfE (d := 22) ["w", "q"] ["op", "y", "many", "a", "b", "c"] ["len", "_law_seam", "_law_nested", "_law_made", "V_REF", "_law_cuts", "_law_index", "_law_ordered", "_law_bounds", "_law_hollow"] [some (.ref P.w), some (.int q tq), none, none, none, none, none, none] O F N ?ho ?hcd ?hb ?hl ?hS ?hc ?hv ["w", "q", "op", "y", "many", "a", "b", "c"] ?hpm ?_
  walk_at "ENTERE"
  have hten := G.ten
  have hfl := G.fl
  have hb := G.b
  (clear r33; clear r16; clear s47 o_emodB; clear r273; clear r33; clear r16; clear s48 o_fdivB; clear r273; clear r33; clear r8; clear r2 Z88; clear s23 c_blt; clear r127; clear r11; clear s30 w_texts; clear r125; ((with_reducible refine len_textsH ‹_› ‹_› ?hz ?_); (case hz => (first | assumption | lia | (dsimp only; lia))); skip); clear r273; clear r33; clear s9 Subscript_; clear r11; clear s30 w_texts; clear r16; clear s47 o_emodB)
  obtain ⟨a, na, oa, ha, za, oka⟩ := G.pick r0' r1'
  refine texts_itemH ‹_› ‹_› r0' ha (by lia) (fun H1 => ?_) (by with_unfolding_all rfl)
  try clear H'
  (clear r273; clear r33; clear s9 Subscript_; clear r11; clear s30 w_texts; clear s9 wpAny_BinOp; clear r16; clear s48 o_fdivB; clear r0; clear s47 o_emodB)
  obtain ⟨b, nb, ob, hb, zb, okb⟩ := G.pick r0' r1'
  refine texts_itemH ‹_› ‹_› r0' hb (by lia) (fun H1 => ?_) (by with_unfolding_all rfl)
  try clear H'
  (clear r273; clear r33; clear s9 Subscript_; clear r11; clear s30 w_texts; clear s9 wpAny_BinOp; clear s9 wpAny_BinOp; clear r16; clear s48 o_fdivB; clear r0; clear s48 o_fdivB; clear r0; clear s47 o_emodB)
  obtain ⟨c, nc, oc, hc, zc, okc⟩ := G.pick r0' r1'
  refine texts_itemH ‹_› ‹_› r0' hc (by lia) (fun H1 => ?_) (by with_unfolding_all rfl)
  try clear H'
  (clear r273)
  rcases (by lia : q % 8 = 1 ∨ q % 8 = 4 ∨ q % 8 = 5 ∨ (q % 8 ≠ 1 ∧ q % 8 ≠ 4 ∧ q % 8 ≠ 5)) with e | e | e | ⟨e1, e4, e5⟩
  · (clear r32; clear r41; clear s9 eq_int; clear r129; clear r133; clear r31; clear r7 Z73 Z318; ((with_reducible refine law_seam ‹8› ‹_› ‹_› ‹_› ‹0› ‹0› ?za ?zb ?hz ?hT ?hT2 ?_); (case za => (first | assumption | lia | (dsimp only; lia))); (case zb => (first | assumption | lia | (dsimp only; lia))); (case hz => (first | assumption | lia | (dsimp only; lia))); (case hT => (first | assumption | lia | (dsimp only; lia))); (case hT2 => (first | assumption | lia | (dsimp only; lia))); ((try clear H'); (try clear F' N'); intro st' n' h' tk' K' F' N' H')); clear s9 Thn.ret; clear r134)
    exact hret _ _ _ _ K' kF kN (H'.sub (by intro f hf; repeat (first | exact hf | refine List.mem_cons_of_mem _ ?_)))
  · (clear r32; clear r41; clear s9 eq_int; clear r129; clear r132; clear r32; clear r41; clear s9 eq_int; clear r129; clear r133; clear r31; clear r8; clear r1 Z74; clear r109 Z319; clear r126; clear r126; clear r126; clear r126; clear r127; clear r16; clear s48 o_fdivB; clear r125; clear r128; ((with_reducible refine law_nested ‹8› ‹_› ‹_› ‹_› ‹0› ‹0› ‹0› ?za ?zb ?zc ?hz ?hT ?hT2 ?_); (case za => (first | assumption | lia | (dsimp only; lia))); (case zb => (first | assumption | lia | (dsimp only; lia))); (case zc => (first | assumption | lia | (dsimp only; lia))); (case hz => (first | assumption | lia | (dsimp only; lia))); (case hT => (first | assumption | lia | (dsimp only; lia))); (case hT2 => (first | assumption | lia | (dsimp only; lia))); ((try clear H'); (try clear F' N'); intro st' n' h' tk' K' F' N' H')); clear s9 Thn.ret; clear r134)
    exact hret _ _ _ _ K' kF kN (H'.sub (by intro f hf; repeat (first | exact hf | refine List.mem_cons_of_mem _ ?_)))
  · obtain ⟨a1, n1, h1, p1⟩ := G.base.t1
    obtain ⟨d4, nd4, x4, h4, l4⟩ := G.base.t4
    obtain ⟨d6, nd6, x6, h6, l6⟩ := G.base.t6
    have p1 : Fact.priv n1 ∈ Φ := p1
    (clear r32; clear r41; clear s9 eq_int; clear r129; clear r132; clear r32; clear r41; clear s9 eq_int; clear r129; clear r132; clear r32; clear r41; clear s9 eq_int; clear r129; clear r133; clear r31; clear r7 Z75 Z320)
    refine law_made ‹8› ‹_› ‹_› ‹_› (by lia) h1 h4 h6 p1 (by lia) (by lia) (by lia) (by lia) fun st2 nn hh tt K2 F2 N2 H2 => ?_
    (clear s9 Thn.ret; clear r134)
    exact hret _ _ _ _ K2 kF kN (H2.sub (by intro f hf; repeat (first | exact hf | refine List.mem_cons_of_mem _ ?_)))
  · refine x_if ?_
    (clear r41; clear s9 eq_int; clear r129; clear r132)
    refine x_if ?_
    (clear r41; clear s9 eq_int; clear r129; clear r132)
    refine x_if ?_
    (clear r41; clear s9 eq_int; clear r129; clear r132)
    refine x_ifj ‹_› ‹_› ‹_› (fun vals' Φ' => ∃ (v1 : Option Value) (op' y' : Int) (t2 t3 t4 : Tok) (a' : Addr) (na' : Nat) (xa : Str), vals' = [some (.ref P.w), v1, some (.int op' t2), some (.int y' t3), some (.int (st.T.length : Nat) t4), some (.ref a'), some (.ref b), some (.ref c)] ∧ op' = q % 8 ∧ 0 ≤ y' ∧ Fact.tv a' na' (some xa) ∈ Φ' ∧ xa.length ≤ 6 ∧ Fact.tv b nb ob ∈ Φ' ∧ Fact.tv c nc oc ∈ Φ' ∧ ∀ f ∈ Φ, f ∈ Φ') ?_ ?_
    · rcases oka with rfl | ⟨x, rfl, hx⟩
      · obtain rfl : na = 0 := Hs.tv_zero (a := a) ‹_› (by walk_at "IN")
        (clear r42; clear s9 Tuple_; clear r127; clear r1 Z20; clear r126; clear r125; clear s42 null_H; clear s43 c_eqtv; clear r129; clear r133; clear r33; clear s9 Subscript_; clear r11; clear s30 w_texts; clear r3)
        obtain ⟨d, nd, xd, hd, hx⟩ := G.base.t3
        refine texts_itemH ‹_› ‹_› (by decide) hd (by lia) (fun H1 => ?_) (by with_unfolding_all rfl)
        try clear H'
        (clear r273; clear s9 wpAny_execs_nil)
        exact ⟨rfl, .mk ‹_› ‹_› ‹_› ⟨_, _, _, _, _, _, _, _, _, rfl, by lia, by lia, by walk_at "IN", hx, by walk_at "IN", by walk_at "IN", (by intro f hf; repeat (first | exact hf | refine List.mem_cons_of_mem _ ?_))⟩⟩
      · have hn : ¬ na = 0 := by
          have : 0 < na := Hs.tv_pos (a := a) ‹_› (by walk_at "IN")
          lia
        (clear r42; clear s9 Tuple_; clear r127; clear r1 Z20; clear r126; clear r125; clear s42 null_H; clear s43 c_eqtv; clear r129; clear r132)
        exact .mk ‹_› ‹_› ‹_› ⟨_, _, _, _, _, _, _, _, _, rfl, by lia, by lia, by walk_at "IN", hx, by walk_at "IN", by walk_at "IN", (by intro f hf; repeat (first | exact hf | refine List.mem_cons_of_mem _ ?_))⟩
    rintro h01 tk01 n01 _ Φ0 ⟨v1, op', y', u2, u3, u4, a', na', xa, rfl, hop, hy, ma, ga, mb, mc, m5⟩ F01 N01 H01
    refine x_ifj ‹_› ‹_› ‹_› (fun vals' Φ' => ∃ (v1 : Option Value) (op' y' : Int) (t2 t3 t4 : Tok) (a' : Addr) (na' : Nat) (xa : Str) (b' : Addr) (nb' : Nat) (xb : Str), vals' = [some (.ref P.w), v1, some (.int op' t2), some (.int y' t3), some (.int (st.T.length : Nat) t4), some (.ref a'), some (.ref b'), some (.ref c)] ∧ op' = q % 8 ∧ 0 ≤ y' ∧ Fact.tv a' na' (some xa) ∈ Φ' ∧ xa.length ≤ 6 ∧ Fact.tv b' nb' (some xb) ∈ Φ' ∧ xb.length ≤ 6 ∧ Fact.tv c nc oc ∈ Φ' ∧ ∀ f ∈ Φ, f ∈ Φ') ?_ ?_
    · rcases okb with rfl | ⟨x, rfl, hx⟩
      · obtain rfl : nb = 0 := Hs.tv_zero (a := b) ‹_› (by walk_at "IN")
        (clear r42; clear s9 Tuple_; clear r127; clear r1 Z20; clear r126; clear r125; clear s42 null_H; clear s43 c_eqtv; clear r129; clear r133; clear r33; clear s9 Subscript_; clear r11; clear s30 w_texts; clear r3)
        obtain ⟨d, nd, xd, hd, hx⟩ := G.base.t4
        refine texts_itemH ‹_› ‹_› (by decide) hd (by lia) (fun H1 => ?_) (by with_unfolding_all rfl)
        try clear H'
        (clear r273; clear s9 wpAny_execs_nil)
        exact ⟨rfl, .mk ‹_› ‹_› ‹_› ⟨_, _, _, _, _, _, _, _, _, _, _, _, rfl, by lia, by lia, by walk_at "IN", ga, by walk_at "IN", hx, by walk_at "IN", (fun f hf => by have := m5 f hf; walk_at "IN")⟩⟩
      · have hn : ¬ nb = 0 := by
          have : 0 < nb := Hs.tv_pos (a := b) ‹_› (by walk_at "IN")
          lia
        (clear r42; clear s9 Tuple_; clear r127; clear r1 Z20; clear r126; clear r125; clear s42 null_H; clear s43 c_eqtv; clear r129; clear r132)
        exact .mk ‹_› ‹_› ‹_› ⟨_, _, _, _, _, _, _, _, _, _, _, _, rfl, by lia, by lia, by walk_at "IN", ga, by walk_at "IN", hx, by walk_at "IN", (fun f hf => by have := m5 f hf; walk_at "IN")⟩
    rintro h11 tk11 n11 _ Φ1 ⟨v1, op', y', u2, u3, u4, a', na', xa, b', nb', xb, rfl, hop, hy, ma, ga, mb, gb, mc, m5⟩ F11 N11 H11
    refine x_ifj ‹_› ‹_› ‹_› (fun vals' Φ' => ∃ (v1 : Option Value) (op' y' : Int) (t2 t3 t4 : Tok) (a' : Addr) (na' : Nat) (xa : Str) (b' : Addr) (nb' : Nat) (xb : Str) (c' : Addr) (nc' : Nat) (xc : Str), vals' = [some (.ref P.w), v1, some (.int op' t2), some (.int y' t3), some (.int (st.T.length : Nat) t4), some (.ref a'), some (.ref b'), some (.ref c')] ∧ op' = q % 8 ∧ 0 ≤ y' ∧ Fact.tv a' na' (some xa) ∈ Φ' ∧ xa.length ≤ 6 ∧ Fact.tv b' nb' (some xb) ∈ Φ' ∧ xb.length ≤ 6 ∧ Fact.tv c' nc' (some xc) ∈ Φ' ∧ xc.length ≤ 6 ∧ ∀ f ∈ Φ, f ∈ Φ') ?_ ?_
    · rcases okc with rfl | ⟨x, rfl, hx⟩
      · obtain rfl : nc = 0 := Hs.tv_zero (a := c) ‹_› (by walk_at "IN")
        (clear r42; clear s9 Tuple_; clear r127; clear r1 Z20; clear r126; clear r125; clear s42 null_H; clear s43 c_eqtv; clear r129; clear r133; clear r33; clear s9 Subscript_; clear r11; clear s30 w_texts; clear r3)
        obtain ⟨d, nd, xd, hd, hx⟩ := G.base.t5
        refine texts_itemH ‹_› ‹_› (by decide) hd (by lia) (fun H1 => ?_) (by with_unfolding_all rfl)
        try clear H'
        (clear r273; clear s9 wpAny_execs_nil)
        exact ⟨rfl, .mk ‹_› ‹_› ‹_› ⟨_, _, _, _, _, _, _, _, _, _, _, _, _, _, _, rfl, by lia, by lia, by walk_at "IN", ga, by walk_at "IN", gb, by walk_at "IN", hx, (fun f hf => by have := m5 f hf; walk_at "IN")⟩⟩
      · have hn : ¬ nc = 0 := by
          have : 0 < nc := Hs.tv_pos (a := c) ‹_› (by walk_at "IN")
          lia
        (clear r42; clear s9 Tuple_; clear r127; clear r1 Z20; clear r126; clear r125; clear s42 null_H; clear s43 c_eqtv; clear r129; clear r132)
        exact .mk ‹_› ‹_› ‹_› ⟨_, _, _, _, _, _, _, _, _, _, _, _, _, _, _, rfl, by lia, by lia, by walk_at "IN", ga, by walk_at "IN", gb, by walk_at "IN", hx, (fun f hf => by have := m5 f hf; walk_at "IN")⟩
    rintro h21 tk21 n21 _ Φ2 ⟨v1, op', y', u2, u3, u4, a', na', xa, b', nb', xb, c', nc', xc, rfl, hop, hy, ma, ga, mb, gb, mc, gc, m5⟩ F21 N21 H21
    obtain ⟨a1, n1, h1, p1⟩ := G.base.t1
    rcases (by lia : q % 8 = 0 ∨ q % 8 = 2 ∨ q % 8 = 3 ∨ q % 8 = 6 ∨ q % 8 = 7) with e | e | e | e | e
    all_goals (first | (clear r32; clear r41; clear s9 eq_int; clear r129; clear r132; clear r32; clear r41; clear s9 eq_int; clear r129; clear r132; clear r32; clear r41; clear s9 eq_int; clear r129; clear r132; clear r32; clear r41; clear s9 eq_int; clear r129; clear r133; clear r31; clear r8; clear r1 Z79; clear r109 Z324; clear r126; clear r126; clear r127; clear r16; clear s48 o_fdivB; clear r125; clear r128; ((with_reducible refine law_bounds ‹8› ‹_› ‹_› ‹_› ‹0› ?za ?hz ?hth ?_); (case za => (first | assumption | lia | (dsimp only; lia))); (case hz => (first | assumption | lia | (dsimp only; lia))); (case hth => exact G.th); ((try clear H'); (try clear F' N'); intro st' n' h' tk' K' F' N' H')); clear s9 Thn.ret; clear r134) | (clear r32; clear r41; clear s9 eq_int; clear r129; clear r132; clear r32; clear r41; clear s9 eq_int; clear r129; clear r132; clear r32; clear r41; clear s9 eq_int; clear r129; clear r132; clear r32; clear r41; clear s9 eq_int; clear r129; clear r132; clear r31; clear r7 Z80 Z325; ((with_reducible refine law_hollow ‹8› ‹_› ‹_› ‹_› ‹0› ?za ?hz ‹_› ?hT2 ?_); (case za => (first | assumption | lia | (dsimp only; lia))); (case hz => (first | assumption | lia | (dsimp only; lia))); (case hT2 => (first | assumption | lia | (dsimp only; lia))); ((try clear H'); (try clear F' N'); intro st' n' h' tk' K' F' N' H')); clear r134) | (clear r32; clear r41; clear s9 eq_int; clear r129; clear r132; clear r32; clear r41; clear s9 eq_int; clear r129; clear r132; clear r32; clear r41; clear s9 eq_int; clear r129; clear r133; clear r31; clear r7 Z78 Z323; ((with_reducible refine law_ordered ‹8› ‹_› ‹_› ‹_› ‹0› ‹0› ‹0› ?za ?zb ?zc ?hz ?_); (case za => (first | assumption | lia | (dsimp only; lia))); (case zb => (first | assumption | lia | (dsimp only; lia))); (case zc => (first | assumption | lia | (dsimp only; lia))); (case hz => (first | assumption | lia | (dsimp only; lia))); ((try clear H'); (try clear F' N'); intro st' n' h' tk' K' F' N' H')); clear s9 Thn.ret; clear r134) | (clear r32; clear r41; clear s9 eq_int; clear r129; clear r132; clear r32; clear r41; clear s9 eq_int; clear r129; clear r133; clear r31; clear r7 Z77 Z322; ((with_reducible refine law_index ‹8› ‹_› ‹_› ‹_› ‹0› ‹0› ?za ?zb ?hz ?_); (case za => (first | assumption | lia | (dsimp only; lia))); (case zb => (first | assumption | lia | (dsimp only; lia))); (case hz => (first | assumption | lia | (dsimp only; lia))); ((try clear H'); (try clear F' N'); intro st' n' h' tk' K' F' N' H')); clear s9 Thn.ret; clear r134) | (clear r32; clear r41; clear s9 eq_int; clear r129; clear r133; clear r31; clear r7 Z76 Z321; ((with_reducible refine law_cuts ‹8› ‹_› ‹_› ‹_› ‹0› ?za ?hz ?_); (case za => (first | assumption | lia | (dsimp only; lia))); (case hz => (first | assumption | lia | (dsimp only; lia))); ((try clear H'); (try clear F' N'); intro st' n' h' tk' K' F' N' H')); clear s9 Thn.ret; clear r134))
    all_goals exact hret _ _ _ _ K' kF kN (H'.sub fun f hf => by have := m5 f hf; walk_at "IN")
theorem law_step {q : Int} {tq : Tok} {k : Nat} (O : Ok w A h₀ L 23) (F : Fr h₀ L hp m) (N : News h₀ L hp (X ++ news)) (H : Hs w P X st news Φ) (hq : 0 ≤ q) (hq2 : q < 1000000007) (G : Good Φ k st) (hk : k ≤ 100)
    (hret : ∀ st' news' h' tk', Kept 1000 st st' → Fr h₀ L h' m → News h₀ L h' (X ++ news') → Hs w P X st' news' Φ → Q (.bool true) ⟨h', gn, dr, tk', oS⟩) :
    wpAny (model PR w) A (call (.ref 977) [.ref P.w, .int q tq]) Q E ⟨hp, gn, dr, tk, oS⟩ := law_step_r (((((((((((((((((((w, A), h₀), L), m), hp), gn), dr), tk), oS), P), X), news), st), Φ), Q), E), q), tq), k) O F N H hq hq2 G hk hret

end
end Mine
end S20_
section S21_
namespace Mine

section
variable {w : World} {A : Around} {h₀ : Heap} {L : Addr} {m : Str → Option Value} {hp : Heap} {gn : Array GenState} {dr : Drawn} {tk : Nat} {oS : OsState} {P : Pl} {X news led : Led} {st : St} {σ : Sg} {Φ : List Fact} {Q E : Value → Shared → Prop}

theorem newList_M1 {M : Model} {v : Value} (F : Fr h₀ L hp m) (N : News h₀ L hp (X ++ news)) (H : Hs w P X st news Φ)
    (h : ∀ l h', (∀ p ∈ X, p.1 ≠ l) → Fr h₀ L h' m → News h₀ L h' (((l, listOf [v].toArray 0) :: X) ++ news) → Hs w P ((l, listOf [v].toArray 0) :: X) st news Φ → Q (.ref l) ⟨h', gn, dr, tk, oS⟩) : wpAny M A (newList [v]) Q E ⟨hp, gn, dr, tk, oS⟩ :=
  newList_M F N H (Nat.le_of_ble_eq_true rfl) fun l h' F' N' H' hl => h l h' hl F' N' H'
theorem law_unitsL {l : Addr} {vs : List Value} {us : List Int} (O : Ok w A h₀ L 2) (F : Fr h₀ L hp m) (N : News h₀ L hp (X ++ news)) (H : Hs w P X st news Φ) (hl : Fact.ls l vs ∈ Φ) (hu : IntsAre vs us) (hr : ∀ u ∈ us, 0 ≤ u ∧ u ≤ 1114111) (hz : us.length ≤ 1000)
    (hret : ∀ t' news' h' tk', Fr h₀ L h' m → News h₀ L h' (X ++ news') → Hs w P X st news' Φ → Q (.str (ofU us) t') ⟨h', gn, dr, tk', oS⟩) :
    wpAny (model PR w) A (call (.ref 809) [.ref l]) Q E ⟨hp, gn, dr, tk, oS⟩ := by
  obtain ⟨mem, pool, k, I⟩ := H.says hl
  exact law_units O F N (H.add (f := .ent l (listOf vs.toArray k)) fun _ _ _ => I) (.inl (.head _)) hu hr hz fun t' n1 h1 tk1 F1 N1 H1 => hret t' n1 h1 tk1 F1 N1 (H1.sub fun f hf => .tail _ hf)
structure Sb (Φ Φ' : List Fact) : Prop where
  mem : ∀ {f}, f ∈ Φ → f ∈ Φ'
theorem newTuple_Hg {M : Model} {vs : List Value} (F : Fr h₀ L hp m) (N : News h₀ L hp (X ++ news)) (H : Hs w P X st news Φ) (hz : vs.length ≤ 1000)
    (h : ∀ l news' h' tk' Φ', Fr h₀ L h' m → News h₀ L h' (X ++ news') → Hs w P X st news' Φ' → Sb Φ Φ' → Fact.tu l vs ∈ Φ' → Q (.ref l) ⟨h', gn, dr, tk', oS⟩) : wpAny M A (newTuple vs) Q E ⟨hp, gn, dr, tk, oS⟩ :=
  newTuple_H F N H hz fun l n' h' F' N' H' => h l n' h' _ _ F' N' H' ⟨fun q => .tail _ q⟩ (.head _)
inductive RowOk (T : List (Addr × Nat × Option Str)) : Int → Int → Int → Int → Prop
  | len {i : Int} {a k x} : 0 ≤ i → T[i.toNat]? = some (a, k, some x) → x.length ≤ 1000 → RowOk T 2 i (-1) (x.length : Nat)
  | idx {i j : Int} {a k x b k' y} : 0 ≤ i → 0 ≤ j → T[i.toNat]? = some (a, k, some x) → T[j.toNat]? = some (b, k', some y) → RowOk T 8 i j (Txt.find x y)
  | cmp {i j : Int} {a k x b k' os} : 0 ≤ i → 0 ≤ j → T[i.toNat]? = some (a, k, some x) → T[j.toNat]? = some (b, k', os) → RowOk T 9 i j (cmpO x os)
  | same {i j : Int} {a k os b k' os'} : 0 ≤ i → 0 ≤ j → T[i.toNat]? = some (a, k, os) → T[j.toNat]? = some (b, k', os') → RowOk T 4 i j (b2i (decide (os = os')))
  | equ {i j : Int} {a k x b k' os} : 0 ≤ i → 0 ≤ j → T[i.toNat]? = some (a, k, some x) → T[j.toNat]? = some (b, k', os) → RowOk T 5 i j (b2i (decide (some x = os)))
end

set_option hygiene false in
local macro_rules | `(tactic| walk_at "IN") => `(tactic| ((repeat (first | with_reducible exact List.mem_cons_self | with_reducible assumption | with_reducible refine List.mem_cons_of_mem _ ?_ | with_reducible refine Sb.mem (by with_reducible assumption) ?_)); first | all_goals fail | fail))
set_option hygiene false in
local macro_rules | `(tactic| walk_at "ENTER") => `(tactic| ((case ho => k_is); (case hcd => k_is); (case hb => exact rfl); (case hl => exact rfl); (case hS => exact rfl); (case hc => exact rfl); (case hv => exact rfl); (case hpm => exact rfl); ((try clear F' N'); intro g' L' h' tk' p' lo' me' mg' mb' S' O' X' T' F' N'); have Z' := Zn.mk S' X' ⟨_, _, _, _, _, T'⟩))
section
variable {w : World} {A : Around} {h₀ : Heap} {L : Addr} {m : Str → Option Value} {hp : Heap} {gn : Array GenState} {dr : Drawn} {tk : Nat} {oS : OsState} {P : Pl} {X news led : Led} {st : St} {σ : Sg} {Φ : List Fact} {Q E : Value → Shared → Prop}

end
set_option hygiene false in
local macro_rules | `(tactic| walk_at "ENTER") => `(tactic| ((case ho => k_is); (case hcd => k_is); (case hb => exact rfl); (case hl => exact rfl); (case hS => exact rfl); (case hc => exact rfl); (case hv => exact rfl); (case hpm => exact rfl); ((try clear F' N'); intro g' L' h' tk' p' lo' me' mg' mb' S' O' X' T' F' N'); have Z' := Zn.mk S' X' ⟨_, _, _, _, _, T'⟩))
set_option hygiene false in
local macro_rules | `(tactic| walk_at "IN") => `(tactic| ((repeat (first | with_reducible exact List.mem_cons_self | with_reducible assumption | with_reducible refine List.mem_cons_of_mem _ ?_ | with_reducible refine Sb.mem (by with_reducible assumption) ?_)); first | all_goals fail | fail))
section
variable {w : World} {A : Around} {h₀ : Heap} {L : Addr} {m : Str → Option Value} {hp : Heap} {gn : Array GenState} {dr : Drawn} {tk : Nat} {oS : OsState} {P : Pl} {X news led : Led} {st : St} {σ : Sg} {Φ : List Fact} {Q E : Value → Shared → Prop}
variable {g : Heap} {fname : Str} {scope : Scope} {cd : Value} {ns gs : List Str} {vals : List (Option Value)} {a : Addr}

def RowP (T : List (Addr × Nat × Option Str)) (Φ : List Fact) (v : Value) : Prop := ∃ ra n i j wt u1 u2 u3 u4, v = .ref ra ∧ Fact.tu ra [.int n u1, .int i u2, .int j u3, .int wt u4] ∈ Φ ∧ RowOk T n i j wt
theorem RowP.mk {T Φ ra n i j wt u1 u2 u3 u4} (h : Fact.tu ra [.int n u1, .int i u2, .int j u3, .int wt u4] ∈ Φ) (r : RowOk T n i j wt) : RowP T Φ (.ref ra) := ⟨_, _, _, _, _, _, _, _, _, rfl, h, r⟩
theorem for_rows {target : PySem.Expr} {body : List Stmt} {Qf : Flow → Shared → Prop} {l : Addr} {vs : List Value} (hh : A.handled = none) (F : Fr g L hp (lc ns vals)) (N : News g L hp (X ++ news)) (H : Hs w P X st news Φ) (hl : Fact.tu l vs ∈ Φ) (hall : ∀ v ∈ vs, RowP st.T Φ v)
    (Iv : List (Option Value) → Prop) (h0 : Iv vals)
    (turn : ∀ (gn : Array GenState) (dr : Drawn) (oS : OsState) (i : Nat) (v : Value) h' tk' X' vals news, vs[i]? = some v → RowP st.T Φ v → Iv vals → Fr g L h' (lc ns vals) → News g L h' (X' ++ news) → Hs w P X' st news (.ent l (tupOf vs) :: Φ) →
      wpAny (model PR w) A (assign target (envOf fname scope L a cd) v) (fun _ s₃ => wpAny (model PR w) A (execs body (envOf fname scope L a cd)) (BdT w P g L ns X' [.ent l (tupOf vs)] gn dr oS (fun vals st' Φ' => Iv vals ∧ st = st' ∧ Φ = Φ')) E s₃) E ⟨h', gn, dr, tk', oS⟩)
    (done : ∀ h' tk' vals news, Iv vals → Fr g L h' (lc ns vals) → News g L h' (X ++ news) → Hs w P X st news Φ → Qf .next ⟨h', gn, dr, tk', oS⟩) :
    ForItT w A g (envOf fname scope L a cd) target body Qf E (.ref l) ⟨hp, gn, dr, tk, oS⟩ := by
  refine for_tupT hh F N H hl (fun i vals st' Φ' => Iv vals ∧ st = st' ∧ Φ = Φ') ⟨h0, rfl, rfl⟩ ?_ ?_
  · rintro gn dr oS i v h' tk' X' vals _ news _ hi hv ⟨hIv, rfl, rfl⟩ hX F N H
    exact turn gn dr oS i v h' tk' X' vals news hv (hall v (List.mem_of_getElem? hv)) hIv F N H
  · rintro h' tk' vals _ news _ ⟨hIv, rfl, rfl⟩ F N H
    exact done h' tk' vals news hIv F N (H.sub fun f hf => .tail _ hf)

def law_known_S (a0 a1 : Addr) (n1 : Nat) (a2 : Addr) (n2 : Nat) (a3 : Addr) (n3 : Nat) (a4 : Addr) (n4 : Nat) (a5 : Addr) (n5 : Nat) (a6 : Addr) (n6 : Nat) (a7 : Addr) (n7 : Nat) (a8 : Addr) (n8 : Nat) (a9 : Addr) (n9 : Nat) : Prop := ∀ (O : Ok w A h₀ L 21) (F : Fr h₀ L hp m) (N : News h₀ L hp (X ++ news)) (H : Hs w P X st news Φ) (e0 : st.T[0]? = some (a0, 0, none)) (e1 : st.T[1]? = some (a1, n1, some (ofU []))) (e2 : st.T[2]? = some (a2, n2, some (ofU [97, 98]))) (e3 : st.T[3]? = some (a3, n3, some (ofU [97, 98, 97]))) (e4 : st.T[4]? = some (a4, n4, some (ofU [98]))) (e5 : st.T[5]? = some (a5, n5, some (ofU [97, 55357]))) (e6 : st.T[6]? = some (a6, n6, some (ofU [56832, 98]))) (e7 : st.T[7]? = some (a7, n7, some (ofU [97, 55357, 56832, 98]))) (e8 : st.T[8]? = some (a8, n8, some (ofU [65535, 0]))) (e9 : st.T[9]? = some (a9, n9, some (ofU [97, 98]))) (hz : st.b ≤ 800000) (hT : st.T.length = 10) (hret : ∀ st' news' h' tk', Kept 1000 st st' → Fr h₀ L h' m → News h₀ L h' (X ++ news') → Hs w P X st' news' Φ → Q (.bool true) ⟨h', gn, dr, tk', oS⟩), wpAny (model PR w) A (call (.ref 984) [.ref P.w]) Q E ⟨hp, gn, dr, tk, oS⟩
theorem law_known_r : ∀ r : (((((((((((((((((((HT17 × Addr) × Addr) × Nat) × Addr) × Nat) × Addr) × Nat) × Addr) × Nat) × Addr) × Nat) × Addr) × Nat) × Addr) × Nat) × Addr) × Nat) × Addr) × Nat), (c17 (@law_known_S) r.1.1.1.1.1.1.1.1.1.1.1.1.1.1.1.1.1.1.1) r.1.1.1.1.1.1.1.1.1.1.1.1.1.1.1.1.1.1.2 r.1.1.1.1.1.1.1.1.1.1.1.1.1.1.1.1.1.2 r.1.1.1.1.1.1.1.1.1.1.1.1.1.1.1.1.2 r.1.1.1.1.1.1.1.1.1.1.1.1.1.1.1.2 r.1.1.1.1.1.1.1.1.1.1.1.1.1.1.2 r.1.1.1.1.1.1.1.1.1.1.1.1.1.2 r.1.1.1.1.1.1.1.1.1.1.1.1.2 r.1.1.1.1.1.1.1.1.1.1.1.2 r.1.1.1.1.1.1.1.1.1.1.2 r.1.1.1.1.1.1.1.1.1.2 r.1.1.1.1.1.1.1.1.2 r.1.1.1.1.1.1.1.2 r.1.1.1.1.1.1.2 r.1.1.1.1.1.2 r.1.1.1.1.2 r.1.1.1.2 r.1.1.2 r.1.2 r.2 := by
  refine ep_all (ne := by walk_at "NE") ((?_ : ∀ w A h₀ L m hp gn dr tk oS P X news st Φ Q E a0 a1 n1 a2 n2 a3 n3 a4 n4 a5 n5 a6 n6 a7 n7 a8 n8 a9 n9, @law_known_S w A h₀ L m hp gn dr tk oS P X news st Φ Q E a0 a1 n1 a2 n2 a3 n3 a4 n4 a5 n5 a6 n6 a7 n7 a8 n8 a9 n9) _ _ _ _ _ _ _ _ _ _ _ _ _ _ _ _ _ _ _ _ _ _ _ _ _ _ _ _ _ _ _ _ _ _ _ _)
  intro w A h₀ L m hp gn dr tk oS P X news st Φ Q E a0 a1 n1 a2 n2 a3 n3 a4 n4 a5 n5 a6 n6 a7 n7 a8 n8 a9 n9 O F N H e0 e1 e2 e3 e4 e5 e6 e7 e8 e9 hz hT hret
  refine' callfE (d := 20) ["w"] ["t", "rows", "number", "i", "j", "want", "args", "put_by", "part", "at"] ["N_STR_LENGTH", "N_INDEXOF", "N_STR_COMPARE", "N_STR_EQ", "N_STR_EQUALS", "_law_number", "_law_join", "_law_part", "_law_letter", "V_TEXT", "_law_units"] [some (.ref P.w), none, none, none, none, none, none, none, none, none, none] O F N ?ho ?hcd ?hb ?hl ?hS ?hc ?hv ["w", "t", "rows", "number", "i", "j", "want", "args", "put_by", "part", "at"] ?hpm ?_
  walk_at "ENTERE"
  have v0 : ((ofU [97, 98, 97]).length : Int) = 3 := by decide +kernel
  have r0 : RowOk st.T 2 3 (-1) (3) := v0 ▸ (RowOk.len (by decide) e3 (by decide) : RowOk st.T 2 3 (-1) (((ofU [97, 98, 97]).length : Int)))
  have v1 : ((ofU [97, 55357, 56832, 98]).length : Int) = 4 := by decide +kernel
  have r1 : RowOk st.T 2 7 (-1) (4) := v1 ▸ (RowOk.len (by decide) e7 (by decide) : RowOk st.T 2 7 (-1) (((ofU [97, 55357, 56832, 98]).length : Int)))
  have v2 : Txt.find (ofU [97, 98, 97]) (ofU [98]) = 1 := by decide +kernel
  have r2 : RowOk st.T 8 3 (4) (1) := v2 ▸ (RowOk.idx (by decide) (by decide) e3 e4 : RowOk st.T 8 3 (4) (Txt.find (ofU [97, 98, 97]) (ofU [98])))
  have v3 : Txt.find (ofU [98]) (ofU [97, 98, 97]) = -1 := by decide +kernel
  have r3 : RowOk st.T 8 4 (3) (-1) := v3 ▸ (RowOk.idx (by decide) (by decide) e4 e3 : RowOk st.T 8 4 (3) (Txt.find (ofU [98]) (ofU [97, 98, 97])))
  have v4 : Txt.find (ofU [97, 55357, 56832, 98]) (ofU [56832, 98]) = 2 := by decide +kernel
  have r4 : RowOk st.T 8 7 (6) (2) := v4 ▸ (RowOk.idx (by decide) (by decide) e7 e6 : RowOk st.T 8 7 (6) (Txt.find (ofU [97, 55357, 56832, 98]) (ofU [56832, 98])))
  have v5 : Txt.find (ofU [97, 98, 97]) (ofU []) = 0 := by decide +kernel
  have r5 : RowOk st.T 8 3 (1) (0) := v5 ▸ (RowOk.idx (by decide) (by decide) e3 e1 : RowOk st.T 8 3 (1) (Txt.find (ofU [97, 98, 97]) (ofU [])))
  have v6 : cmpO (ofU [97, 98]) (some (ofU [97, 98, 97])) = -1 := by decide +kernel
  have r6 : RowOk st.T 9 2 (3) (-1) := v6 ▸ (RowOk.cmp (by decide) (by decide) e2 e3 : RowOk st.T 9 2 (3) (cmpO (ofU [97, 98]) (some (ofU [97, 98, 97]))))
  have v7 : cmpO (ofU [98]) (some (ofU [97, 98, 97])) = 1 := by decide +kernel
  have r7 : RowOk st.T 9 4 (3) (1) := v7 ▸ (RowOk.cmp (by decide) (by decide) e4 e3 : RowOk st.T 9 4 (3) (cmpO (ofU [98]) (some (ofU [97, 98, 97]))))
  have v8 : cmpO (ofU [97, 55357, 56832, 98]) (some (ofU [65535, 0])) = -1 := by decide +kernel
  have r8 : RowOk st.T 9 7 (8) (-1) := v8 ▸ (RowOk.cmp (by decide) (by decide) e7 e8 : RowOk st.T 9 7 (8) (cmpO (ofU [97, 55357, 56832, 98]) (some (ofU [65535, 0]))))
  have v9 : cmpO (ofU []) ((none : Option Str)) = 1 := by decide +kernel
  have r9 : RowOk st.T 9 1 (0) (1) := v9 ▸ (RowOk.cmp (by decide) (by decide) e1 e0 : RowOk st.T 9 1 (0) (cmpO (ofU []) ((none : Option Str))))
  have v10 : b2i (decide ((none : Option Str) = (none : Option Str))) = 1 := by decide +kernel
  have r10 : RowOk st.T 4 0 (0) (1) := v10 ▸ (RowOk.same (by decide) (by decide) e0 e0 : RowOk st.T 4 0 (0) (b2i (decide ((none : Option Str) = (none : Option Str)))))
  have v11 : b2i (decide (some (ofU [97, 98]) = some (ofU [97, 98]))) = 1 := by decide +kernel
  have r11 : RowOk st.T 4 2 (9) (1) := v11 ▸ (RowOk.same (by decide) (by decide) e2 e9 : RowOk st.T 4 2 (9) (b2i (decide (some (ofU [97, 98]) = some (ofU [97, 98])))))
  have v12 : b2i (decide (some (ofU [97, 98]) = (none : Option Str))) = 0 := by decide +kernel
  have r12 : RowOk st.T 4 2 (0) (0) := v12 ▸ (RowOk.same (by decide) (by decide) e2 e0 : RowOk st.T 4 2 (0) (b2i (decide (some (ofU [97, 98]) = (none : Option Str)))))
  have v13 : b2i (decide (some (ofU [97, 98]) = some (ofU [97, 98, 97]))) = 0 := by decide +kernel
  have r13 : RowOk st.T 4 2 (3) (0) := v13 ▸ (RowOk.same (by decide) (by decide) e2 e3 : RowOk st.T 4 2 (3) (b2i (decide (some (ofU [97, 98]) = some (ofU [97, 98, 97])))))
  have v14 : b2i (decide (some (ofU [97, 98]) = some (ofU [97, 98]))) = 1 := by decide +kernel
  have r14 : RowOk st.T 5 9 (2) (1) := v14 ▸ (RowOk.equ (by decide) (by decide) e9 e2 : RowOk st.T 5 9 (2) (b2i (decide (some (ofU [97, 98]) = some (ofU [97, 98])))))
  (clear r33; clear r11; clear s30 w_texts; clear r273; clear r33; clear s9 Tuple_; clear r127; clear s9 Tuple_; clear r127; clear r1 Z41; clear r126; clear r127; clear s9 UnaryOp_; clear r3; clear s9 o_neg; clear r126; clear r125; clear r341; clear r127; clear s9 Tuple_; clear r127; clear r1 Z41; clear r126; clear r127; clear s9 UnaryOp_; clear r3; clear s9 o_neg; clear r126; clear r125; clear r341; clear r127; clear s9 Tuple_; clear r127; clear r1 Z53; clear r126; clear r126; clear r126; clear r125; clear r341; clear r127; clear s9 Tuple_; clear r127; clear r1 Z53; clear r126; clear r126; clear r127; clear s9 UnaryOp_; clear r3; clear s9 o_neg; clear r125; clear r341; clear r127; clear s9 Tuple_; clear r127; clear r1 Z53; clear r126; clear r126; clear r126; clear r125; clear r341; clear r127; clear s9 Tuple_; clear r127; clear r1 Z53; clear r126; clear r126; clear r126; clear r125; clear r341; clear r127; clear s9 Tuple_; clear r127; clear r1 Z55; clear r126; clear r126; clear r127; clear s9 UnaryOp_; clear r3; clear s9 o_neg; clear r125; clear r341; clear r127; clear s9 Tuple_; clear r127; clear r1 Z55; clear r126; clear r126; clear r126; clear r125; clear r341; clear r127; clear s9 Tuple_; clear r127; clear r1 Z55; clear r126; clear r126; clear r127; clear s9 UnaryOp_; clear r3; clear s9 o_neg; clear r125; clear r341; clear r127; clear s9 Tuple_; clear r127; clear r1 Z55; clear r126; clear r126; clear r126; clear r125; clear r341; clear r127; clear s9 Tuple_; clear r127; clear r1 Z45; clear r126; clear r126; clear r126; clear r125; clear r341; clear r127; clear s9 Tuple_; clear r127; clear r1 Z45; clear r126; clear r126; clear r126; clear r125; clear r341; clear r127; clear s9 Tuple_; clear r127; clear r1 Z45; clear r126; clear r126; clear r126; clear r125; clear r341; clear r127; clear s9 Tuple_; clear r127; clear r1 Z45; clear r126; clear r126; clear r126; clear r125; clear r341; clear r127; clear s9 Tuple_; clear r127; clear r1 Z47; clear r126; clear r126; clear r126; clear r125; clear r341; clear r125; clear r341; clear r273; ((with_reducible show wpAny _ _ (execs (Stmt.For (Expr.Tuple _ _ _) _ _ _ _ :: _) _) _ _ _); (with_reducible refine x_forT ‹_› ?_ ?hs); (case hs => intro x; exact rfl)); clear r0)
  refine for_rows O'.hand ‹_› ‹_› H' (by walk_at "IN") (fun v hv => ?_) (fun vals => ∃ v1 v2 v3 v4 v5 v6 t, vals = [some (.ref P.w), some (.ref (P.adr .texts)), v1, v2, v3, v4, v5, v6, none, none, t]) ⟨_, _, _, _, _, _, _, rfl⟩ ?_ ?_
  · simp only [List.mem_cons, List.not_mem_nil, or_false] at hv
    rcases hv with rfl | rfl | rfl | rfl | rfl | rfl | rfl | rfl | rfl | rfl | rfl | rfl | rfl | rfl | rfl
    · exact RowP.mk (by walk_at "IN") r0
    · exact RowP.mk (by walk_at "IN") r1
    · exact RowP.mk (by walk_at "IN") r2
    · exact RowP.mk (by walk_at "IN") r3
    · exact RowP.mk (by walk_at "IN") r4
    · exact RowP.mk (by walk_at "IN") r5
    · exact RowP.mk (by walk_at "IN") r6
    · exact RowP.mk (by walk_at "IN") r7
    · exact RowP.mk (by walk_at "IN") r8
    · exact RowP.mk (by walk_at "IN") r9
    · exact RowP.mk (by walk_at "IN") r10
    · exact RowP.mk (by walk_at "IN") r11
    · exact RowP.mk (by walk_at "IN") r12
    · exact RowP.mk (by walk_at "IN") r13
    · exact RowP.mk (by walk_at "IN") r14
  · rintro gn dr oS i v h1 tk1 X1 _ n1 hv ⟨ra, n, i', j, wt, u1, u2, u3, u4, rfl, hm, hr⟩ ⟨v1, v2, v3, v4, v5, v6, t, rfl⟩ F1 N1 H1
    refine asg4 O'.hand F1 N1 H1 (by walk_at "IN") fun h2 F2 N2 => ?_
    clear F1 N1
    cases hr
    · (clear r273; clear r273; clear r273; clear r273; clear r33; clear s9 List_; clear r127; clear r11; clear r246; clear r125; ((with_reducible show wpAny _ _ (newList [_]) _ _ _); ((with_reducible refine newList_M1 ‹_› ‹_› ‹_› ?_); ((try clear H'); (try clear F' N'); intro l' h' hl' F' N' H'))); clear r273; clear r32; clear r41; clear s9 ge_int; clear r129; clear r132; clear r32; clear r43; clear r7 Z58 Z303)
      obtain ⟨N5, H5⟩ := adopt_ls N' H' hl'
      clear H' N'
      refine num_length ‹8› ‹_› N5 H5 (.head _) (by walk_at "IN") ‹_› fun t5 n6 h6 tk6 F6 N6 H6 => ?_
      clear N5 H5 F'
      (clear r0; clear s9 ne_int; clear r129; clear r132; clear s9 wpAny_execs_nil)
      exact BdT.next _ ‹_› ‹_› H6 (by intro f hf; repeat (first | exact hf | refine List.mem_cons_of_mem _ ?_ | refine Sb.mem (by with_reducible assumption) ?_)) ⟨⟨_, _, _, _, _, _, _, rfl⟩, rfl, rfl⟩
    · (clear r273; clear r273; clear r273; clear r273; clear r33; clear s9 List_; clear r127; clear r11; clear r246; clear r125; ((with_reducible show wpAny _ _ (newList [_]) _ _ _); ((with_reducible refine newList_M1 ‹_› ‹_› ‹_› ?_); ((try clear H'); (try clear F' N'); intro l' h' hl' F' N' H'))); clear r273; clear r32; clear r41; clear s9 ge_int; clear r129; clear r133; clear s19 x_expr; clear r9; ((with_reducible refine gm_appendM ‹_› ?_)); clear s23 c_bmt; clear r127; clear r11; clear r246; clear r125; clear s54 appendM; clear s9 wpAny_execs_nil; clear s9 Thn.next; clear r32; clear r43; clear r7 Z58 Z303)
      obtain ⟨N5, H5⟩ := adopt_ls N' H' hl'
      clear H' N'
      refine num_index ‹8› ‹_› N5 H5 (.head _) (by walk_at "IN") (by walk_at "IN") fun t5 n6 h6 tk6 F6 N6 H6 => ?_
      clear N5 H5 F'
      (clear r0; clear s9 ne_int; clear r129; clear r132; clear s9 wpAny_execs_nil)
      exact BdT.next _ ‹_› ‹_› H6 (by intro f hf; repeat (first | exact hf | refine List.mem_cons_of_mem _ ?_ | refine Sb.mem (by with_reducible assumption) ?_)) ⟨⟨_, _, _, _, _, _, _, rfl⟩, rfl, rfl⟩
    · (clear r273; clear r273; clear r273; clear r273; clear r33; clear s9 List_; clear r127; clear r11; clear r246; clear r125; ((with_reducible show wpAny _ _ (newList [_]) _ _ _); ((with_reducible refine newList_M1 ‹_› ‹_› ‹_› ?_); ((try clear H'); (try clear F' N'); intro l' h' hl' F' N' H'))); clear r273; clear r32; clear r41; clear s9 ge_int; clear r129; clear r133; clear s19 x_expr; clear r9; ((with_reducible refine gm_appendM ‹_› ?_)); clear s23 c_bmt; clear r127; clear r11; clear r246; clear r125; clear s54 appendM; clear s9 wpAny_execs_nil; clear s9 Thn.next; clear r32; clear r43; clear r7 Z58 Z303)
      obtain ⟨N5, H5⟩ := adopt_ls N' H' hl'
      clear H' N'
      refine num_compare ‹8› ‹_› N5 H5 (.head _) (by walk_at "IN") (by walk_at "IN") fun t5 n6 h6 tk6 F6 N6 H6 => ?_
      clear N5 H5 F'
      (clear r0; clear s9 ne_int; clear r129; clear r132; clear s9 wpAny_execs_nil)
      exact BdT.next _ ‹_› ‹_› H6 (by intro f hf; repeat (first | exact hf | refine List.mem_cons_of_mem _ ?_ | refine Sb.mem (by with_reducible assumption) ?_)) ⟨⟨_, _, _, _, _, _, _, rfl⟩, rfl, rfl⟩
    · (clear r273; clear r273; clear r273; clear r273; clear r33; clear s9 List_; clear r127; clear r11; clear r246; clear r125; ((with_reducible show wpAny _ _ (newList [_]) _ _ _); ((with_reducible refine newList_M1 ‹_› ‹_› ‹_› ?_); ((try clear H'); (try clear F' N'); intro l' h' hl' F' N' H'))); clear r273; clear r32; clear r41; clear s9 ge_int; clear r129; clear r133; clear s19 x_expr; clear r9; ((with_reducible refine gm_appendM ‹_› ?_)); clear s23 c_bmt; clear r127; clear r11; clear r246; clear r125; clear s54 appendM; clear s9 wpAny_execs_nil; clear s9 Thn.next; clear r32; clear r43; clear r7 Z58 Z303)
      obtain ⟨N5, H5⟩ := adopt_ls N' H' hl'
      clear H' N'
      refine num_same ‹8› ‹_› N5 H5 (.head _) (by walk_at "IN") (by walk_at "IN") fun t5 n6 h6 tk6 F6 N6 H6 => ?_
      clear N5 H5 F'
      (clear r0; clear s9 ne_int; clear r129; clear r132; clear s9 wpAny_execs_nil)
      exact BdT.next _ ‹_› ‹_› H6 (by intro f hf; repeat (first | exact hf | refine List.mem_cons_of_mem _ ?_ | refine Sb.mem (by with_reducible assumption) ?_)) ⟨⟨_, _, _, _, _, _, _, rfl⟩, rfl, rfl⟩
    · (clear r273; clear r273; clear r273; clear r273; clear r33; clear s9 List_; clear r127; clear r11; clear r246; clear r125; ((with_reducible show wpAny _ _ (newList [_]) _ _ _); ((with_reducible refine newList_M1 ‹_› ‹_› ‹_› ?_); ((try clear H'); (try clear F' N'); intro l' h' hl' F' N' H'))); clear r273; clear r32; clear r41; clear s9 ge_int; clear r129; clear r133; clear s19 x_expr; clear r9; ((with_reducible refine gm_appendM ‹_› ?_)); clear s23 c_bmt; clear r127; clear r11; clear r246; clear r125; clear s54 appendM; clear s9 wpAny_execs_nil; clear s9 Thn.next; clear r32; clear r43; clear r7 Z58 Z303)
      obtain ⟨N5, H5⟩ := adopt_ls N' H' hl'
      clear H' N'
      refine num_equals ‹8› ‹_› N5 H5 (.head _) (by walk_at "IN") (by walk_at "IN") fun t5 n6 h6 tk6 F6 N6 H6 => ?_
      clear N5 H5 F'
      (clear r0; clear s9 ne_int; clear r129; clear r132; clear s9 wpAny_execs_nil)
      exact BdT.next _ ‹_› ‹_› H6 (by intro f hf; repeat (first | exact hf | refine List.mem_cons_of_mem _ ?_ | refine Sb.mem (by with_reducible assumption) ?_)) ⟨⟨_, _, _, _, _, _, _, rfl⟩, rfl, rfl⟩
  · rintro h1 tk1 _ n1 ⟨v1, v2, v3, v4, v5, v6, t, rfl⟩ F1 N1 H1
    clear H' F' N'
    replace H1 := H1.sub (Φ' := Φ) (by intro f hf; repeat (first | exact hf | refine List.mem_cons_of_mem _ ?_ | refine Sb.mem (by with_reducible assumption) ?_))
    have okB : PyData.strOk "ba" = true := by decide +kernel
    have okU : PyData.strOk (ofU [97, 55357, 56832, 98]) = true := by decide +kernel
    have w1 : cut (ofU [97, 98, 97]) (1 : Int).toNat (2 : Int).toNat = "ba" := str_ext (by decide +kernel)
    have w2 : ofU [97, 55357] ++ ofU [56832, 98] = ofU [97, 55357, 56832, 98] := str_ext (by decide +kernel)
    have w3 : (ofU [65535, 0]).cps.toList.getD (0 : Int).toNat 0 = 65535 := by decide +kernel
    have l3 : (ofU [97, 98, 97]).length = 3 := ofU_len _
    have l5 : (ofU [97, 55357]).length = 2 := ofU_len _
    have l6 : (ofU [56832, 98]).length = 2 := ofU_len _
    have l8 : (ofU [65535, 0]).length = 2 := ofU_len _
    (clear s9 Thn.next; clear r33; clear r8; clear r1 Z65; clear r109 Z310; clear r126; clear r127; clear r11; clear r246; clear r127; clear r11; clear r246; clear r125; clear r128; clear r255; clear r273; clear r33; clear r8; clear r1 Z63; clear r109 Z308; clear r126; clear r127; clear r11; clear r246; clear r126; clear r126; clear r125; clear r128; clear r259; clear r273; clear r33; clear s2 Attribute_any_; clear s2 Attribute_any_; clear r11; clear s30 w_m; clear s4 m_heap; clear s5 h_tabH; clear r273; clear r31; clear s9 e_and; clear r21; clear r8; clear r1 Z67; clear r109 Z312; clear r126; clear r127; clear r11; clear r246; clear r126; clear r125; clear r128; clear r252; clear r3; clear s9 eq_int; clear r129; clear r133; clear s9 e_and; clear r21; clear s2 Attribute_any_; clear s3 su1; clear r11; clear r87; ((with_reducible show wpAny _ _ (subscriptTail _ _ _ _) _ _ _); ((with_reducible refine tab_itemH ‹_› ‹_› ‹0› ?_ ?hs); (case hs => with_unfolding_all exact rfl); intro th' sl' tp' t1' t2' t3' t4' q' I1' H')); clear s11 th_slots; clear s9 List_; clear r127; clear s9 Tuple_; clear r127; clear r1 Z17; clear r126; clear r125; clear r271; clear r125; clear r272)
    subst_vars
    simp only [w1, w2] at H'
    (((with_reducible show wpAny _ _ (compareOp _ _ _) _ _ _); (with_reducible refine c_eqSl ‹8› ‹_› ‹_› ‹0› ‹0› ‹0› ‹0› ‹_› ?_)); clear r129; clear r133; clear s9 BoolOp_one; clear r21; clear s2 Attribute_any_; clear s3 su1; clear r11; clear r87; ((with_reducible show wpAny _ _ (subscriptTail _ _ _ _) _ _ _); ((with_reducible refine tab_itemH ‹_› ‹_› ‹0› ?_ ?hs); (case hs => with_unfolding_all exact rfl); intro th' sl' tp' t1' t2' t3' t4' q' I1' H')); clear s11 th_slots; clear s9 List_; clear r127; clear s9 Tuple_; clear r127; clear r1 Z17; clear r127; clear r8; clear r1 Z71; clear r109 Z316; clear r127; clear r28; clear r272; clear r125; clear r128; ((with_reducible refine law_unitsL ‹8› ‹_› ‹_› ‹_› ‹0› (.cons _ _ (.cons _ _ (.cons _ _ (.cons _ _ .nil)))) ?hr ?hz ?_); (case hr => decide); (case hz => exact Nat.le_of_ble_eq_true rfl); ((try clear H'); (try clear F' N'); intro t' n' h' tk' F' N' H')); clear r125; clear r271; clear r125; clear r272; ((with_reducible show wpAny _ _ (compareOp _ _ _) _ _ _); (with_reducible refine c_eqSl ‹8› ‹_› ‹_› ‹0› ‹0› ‹0› ‹0› ‹_› ?_)); clear r134)
    exact hret _ _ _ _ (.same (b := st.b + 2) (by lia) (by lia)) kF kN (H'.sub (by intro f hf; repeat (first | exact hf | refine List.mem_cons_of_mem _ ?_ | refine Sb.mem (by with_reducible assumption) ?_)))
theorem law_known {a0 a1 n1 a2 n2 a3 n3 a4 n4 a5 n5 a6 n6 a7 n7 a8 n8 a9 n9} (O : Ok w A h₀ L 21) (F : Fr h₀ L hp m) (N : News h₀ L hp (X ++ news)) (H : Hs w P X st news Φ) (e0 : st.T[0]? = some (a0, 0, none)) (e1 : st.T[1]? = some (a1, n1, some (ofU []))) (e2 : st.T[2]? = some (a2, n2, some (ofU [97, 98]))) (e3 : st.T[3]? = some (a3, n3, some (ofU [97, 98, 97]))) (e4 : st.T[4]? = some (a4, n4, some (ofU [98]))) (e5 : st.T[5]? = some (a5, n5, some (ofU [97, 55357]))) (e6 : st.T[6]? = some (a6, n6, some (ofU [56832, 98]))) (e7 : st.T[7]? = some (a7, n7, some (ofU [97, 55357, 56832, 98]))) (e8 : st.T[8]? = some (a8, n8, some (ofU [65535, 0]))) (e9 : st.T[9]? = some (a9, n9, some (ofU [97, 98]))) (hz : st.b ≤ 800000) (hT : st.T.length = 10)
    (hret : ∀ st' news' h' tk', Kept 1000 st st' → Fr h₀ L h' m → News h₀ L h' (X ++ news') → Hs w P X st' news' Φ → Q (.bool true) ⟨h', gn, dr, tk', oS⟩) :
    wpAny (model PR w) A (call (.ref 984) [.ref P.w]) Q E ⟨hp, gn, dr, tk, oS⟩ := law_known_r (((((((((((((((((((((((((((((((((((w, A), h₀), L), m), hp), gn), dr), tk), oS), P), X), news), st), Φ), Q), E), a0), a1), n1), a2), n2), a3), n3), a4), n4), a5), n5), a6), n6), a7), n7), a8), n8), a9), n9) O F N H e0 e1 e2 e3 e4 e5 e6 e7 e8 e9 hz hT hret

end
end Mine
end S21_
section U1_
namespace Mine
def Ds (led : Led) : Prop := (led.map (·.1)).Nodup ∧ ∀ a ∈ led.map (·.1), 1 < a
theorem Ds.off {p : Addr × Obj} {l : Led} (D : Ds (p :: l)) {q : Addr × Obj} (h : q ∈ l) : p.1 ≠ q.1 := fun e => (List.nodup_cons.mp D.1).1 (List.mem_map.mpr ⟨q, h, e.symm⟩)
theorem Ds.low {l : Led} (D : Ds l) {q : Addr × Obj} (h : q ∈ l) : 1 < q.1 := D.2 _ (List.mem_map_of_mem h)
theorem Ds.tail {p : Addr × Obj} {l : Led} (D : Ds (p :: l)) : Ds l := ⟨(List.nodup_cons.mp D.1).2, fun a h => D.2 a (.tail _ h)⟩
theorem Ds.cons {p : Addr × Obj} {l : Led} (D : Ds l) (h : ∀ q ∈ l, q.1 ≠ p.1) (h1 : 1 < p.1) : Ds (p :: l) := ⟨List.nodup_cons.mpr ⟨fun hm => by
  obtain ⟨q, hq, e⟩ := List.mem_map.mp hm
  exact h q hq e, D.1⟩, fun a ha => by
  rcases List.mem_cons.mp ha with rfl | ha
  · exact h1
  · exact D.2 a ha⟩
theorem Ds.nil : Ds [] := ⟨List.nodup_nil, fun _ h => nomatch h⟩
inductive Pick (p : Addr × Obj) : Led → Led → Prop
  | here {l} : Pick p (p :: l) l
  | there {q l l'} : Pick p l l' → Pick p (q :: l) (q :: l')
theorem Pick.mem {p : Addr × Obj} {l l' : Led} (h : Pick p l l') : ∀ q, q ∈ l ↔ q = p ∨ q ∈ l' := by
  induction h with
  | here => intro q; simp
  | there _ ih => intro q; simp only [List.mem_cons, ih]; exact ⟨fun h => by rcases h with h | h | h <;> simp [h], fun h => by rcases h with h | h | h <;> simp [h]⟩
theorem Pick.ds {p : Addr × Obj} {l l' : Led} (h : Pick p l l') : Ds l → Ds (p :: l') := by
  induction h with
  | here => exact id
  | there h ih =>
    intro D
    have D1 := ih D.tail
    refine (D1.tail.cons (fun q hq e => D.off ((h.mem _).mpr (.inr hq)) e.symm) (D.low (.head _))).cons (fun q hq => ?_) (D1.low (.head _))
    rcases List.mem_cons.mp hq with rfl | hq
    · exact D.off ((h.mem _).mpr (.inl rfl))
    · exact fun e => D1.off hq e.symm
theorem Pick.news {h₀ h : Heap} {L : Addr} {p : Addr × Obj} {l l' : Led} (k : Pick p l l') (N : News h₀ L h l) : News h₀ L h (p :: l') := news_sub N fun q hq => (k.mem q).mpr (List.mem_cons.mp hq)
theorem Ds.ins {p q r : Addr × Obj} {l : Led} (D : Ds (p :: q :: l)) (h : ∀ x ∈ p :: q :: l, x.1 < r.1) : Ds (p :: q :: r :: l) := by
  have h1 : 1 < r.1 := Nat.lt_trans (D.low (.head _)) (h p (.head _))
  refine (((D.tail.tail).cons (fun x hx => Nat.ne_of_lt (h x (.tail _ (.tail _ hx)))) h1).cons (fun x hx => ?_) (D.low (.tail _ (.head _)))).cons (fun x hx => ?_) (D.low (.head _))
  · rcases List.mem_cons.mp hx with rfl | hx
    · exact Nat.ne_of_gt (h q (.tail _ (.head _)))
    · exact fun e => D.tail.off hx e.symm
  · rcases List.mem_cons.mp hx with rfl | hx
    · exact fun e => D.off (.head _) e.symm
    rcases List.mem_cons.mp hx with rfl | hx
    · exact Nat.ne_of_gt (h p (.head _))
    · exact fun e => D.off (.tail _ hx) e.symm
theorem news_ins {h₀ h : Heap} {L : Addr} {p q r : Addr × Obj} {l : Led} (N : News h₀ L h (r :: p :: q :: l)) : News h₀ L h (p :: q :: r :: l) := news_sub N fun x hx => by
  simp only [List.mem_cons] at hx ⊢
  rcases hx with h | h | h | h <;> simp [h]
section
variable {M : Model} {w : World} {A : Around} {E : Value → Shared → Prop} {hp : Heap} {gn : Array GenState} {dr : Drawn} {tk : Nat} {oS : OsState} {g h₀ : Heap} {L a : Addr} {m : Str → Option Value} {P : Pl} {led rest : Led} {x C dx : Addr} {es : List DictEntry} {n b : Nat} {fs : List (Str × Value)} {p q : Addr × Obj} {env : Env}
theorem set_S {name : Str} {v : Value} {Q : Unit → Shared → Prop} (F : Fr h₀ L hp m) (X₀ : (hd.heap_1 w.params).In h₀) (N : News h₀ L hp ((x, instObj C dx) :: (dx, dictOf es n) :: rest)) (D : Ds ((x, instObj C dx) :: (dx, dictOf es n) :: rest)) (Fl : Fs es fs b) (hb : b ≤ 100)
    (sa : findIn (hd.heap_1 w.params) (.ref C) "__setattr__" = some (some (.builtin "object.__setattr__"))) (po : plainOver (hd.heap_1 w.params) C = true) (fi : findIn (hd.heap_1 w.params) (.ref C) name = some none) (hh : hasDictIn (hd.heap_1 w.params) C = true)
    (h : ∀ es' n' h', Fr h₀ L h' m → News h₀ L h' ((x, instObj C dx) :: (dx, dictOf es' n') :: rest) → Ds ((x, instObj C dx) :: (dx, dictOf es' n') :: rest) → Fs es' (put1 fs name v) (b + 1) → Q () ⟨h', gn, dr, tk + 2, oS⟩) :
    wpAny (model PR w) A (setAttr (.ref x) name v) Q E ⟨hp, gn, dr, tk, oS⟩ :=
  set_F F X₀ N (fun p hp e => D.tail.off hp e.symm) (D.off (.head _)) Fl hb sa po fi hh fun es' n' h' F' N' Fl' => h es' n' h' F' N' D Fl'
theorem get_L {name : Str} {v : Value} {expr : Bool} {Q : Value → Shared → Prop} (F : Fr h₀ L hp m) (X₀ : (hd.heap_1 w.params).In h₀) (N : News h₀ L hp led) (h1 : (x, instObj C dx) ∈ led) (h2 : (dx, dictOf es n) ∈ led) (h3 : getL name es = some (some v))
    (hg : plainGet (hd.heap_1 w.params) C name = true) (hh : hasDictIn (hd.heap_1 w.params) C = true) (fi : findIn (hd.heap_1 w.params) (.ref C) name = some none) (hv : handedIn v = true)
    (h : Q v ⟨hp, gn, dr, tk + 1, oS⟩) : wpAny (model PR w) A (getAttr (.ref x) name expr) Q E ⟨hp, gn, dr, tk, oS⟩ :=
  get_own (attr := none) F X₀ (InstAt.of_news N h1 h2) hg hh fi rfl h3 hv h
theorem dict_S {pos : Pos} {Q : Value → Shared → Prop} (F : Fr h₀ L hp m) (N : News h₀ L hp (p :: q :: rest)) (D : Ds (p :: q :: rest)) (hbig : h₀.NoLimit)
    (k : ∀ d o h', Fr h₀ L h' m → News h₀ L h' (p :: q :: (d, o) :: rest) → Ds (p :: q :: (d, o) :: rest) → (d == sysModules) = false → o.IsDictOf (PySem.strKind PR w) [] → o.IsDictOf (intKind PR w) [] → Q (.ref d) ⟨h', gn, dr, tk, oS⟩) :
    wpAny (model PR w) A (eval (.Dict [] [] pos) env) Q E ⟨hp, gn, dr, tk, oS⟩ :=
  newDict_K F N hbig fun d h' o F' N' l lo a _ c _ => k d o h' F' (news_ins N') (D.ins l) lo a c
theorem list_S {Q : Value → Shared → Prop} (F : Fr h₀ L hp m) (N : News h₀ L hp (p :: q :: rest)) (D : Ds (p :: q :: rest))
    (h : ∀ l h', Fr h₀ L h' m → News h₀ L h' (p :: q :: (l, listOf #[] 0) :: rest) → Ds (p :: q :: (l, listOf #[] 0) :: rest) → Q (.ref l) ⟨h', gn, dr, tk, oS⟩) : wpAny M A (newList []) Q E ⟨hp, gn, dr, tk, oS⟩ :=
  newList_K F N (fun l h' F' N' hl => h l h' F' (news_ins N') (D.ins hl)) (by rw [sizeLine_eq]; exact Nat.zero_le _)
theorem cls_S0 {Q : Value → Shared → Prop} (F : Fr h₀ L hp m) (X₀ : (hd.heap_1 w.params).In h₀) (N : News h₀ L hp (p :: q :: rest)) (D : Ds (p :: q :: rest)) (hm : makesIn (hd.heap_1 w.params) C = true)
    (hi : findIn (hd.heap_1 w.params) (.ref C) "__init__" = some (some (.builtin "object.__init__")))
    (h : ∀ x dx h', Fr h₀ L h' m → News h₀ L h' (p :: q :: (x, instObj C dx) :: (dx, dictOf [] 0) :: rest) → Ds (p :: q :: (x, instObj C dx) :: (dx, dictOf [] 0) :: rest) → Q (.ref x) ⟨h', gn, dr, tk, oS⟩) :
    wpAny (model PR w) A (call (.ref C) [] []) Q E ⟨hp, gn, dr, tk, oS⟩ :=
  call_cls0 F X₀ N hm hi fun x dx h' F' N' l1 l2 => h x dx h' F' (news_ins (news_sub N' fun y hy => by
    simp only [List.mem_cons] at hy ⊢
    rcases hy with h | h | h | h | h <;> simp [h]) ) (Ds.ins (D.ins l1) fun y hy => by
      simp only [List.mem_cons] at hy
      rcases hy with h | h | h | h
      · subst h; exact Nat.lt_trans (l1 _ (.head _)) l2
      · subst h; exact Nat.lt_trans (l1 _ (.tail _ (.head _))) l2
      · subst h; exact l2
      · exact Nat.lt_trans (l1 _ (.tail _ (.tail _ h))) l2)
theorem new_S {d : Nat} {pos : List Value} {fI : Addr} {Q : Value → Shared → Prop} (O : Ok w A h₀ L (d + 1)) (F : Fr h₀ L hp m) (N : News h₀ L hp led) (D : Ds led) (hne : ∃ p, p ∈ led) (hm : makesIn (hd.heap_1 w.params) C = true)
    (hi : findIn (hd.heap_1 w.params) (.ref C) "__init__" = some (some (.ref fI))) (hf : isFn (hd.heap_1 w.params) (.ref fI) = true)
    (h : ∀ x dx h', Fr h₀ L h' m → News h₀ L h' ((x, instObj C dx) :: (dx, dictOf [] 0) :: led) → Ds ((x, instObj C dx) :: (dx, dictOf [] 0) :: led) → Ok w (A.under (.builtin "type.__call__" ⟨.ref C :: pos, []⟩)) h₀ L d →
      codeAny (model PR w) (A.under (.builtin "type.__call__" ⟨.ref C :: pos, []⟩)) (.call (.ref fI) ⟨.ref x :: pos, []⟩) (InitBack x fun r s' => match r with | .ok (.ret v) => Q v s' | .ok _ => False | .error e => E e s') ⟨h', gn, dr, tk, oS⟩) :
    wpAny (model PR w) A (call (.ref C) pos) Q E ⟨hp, gn, dr, tk, oS⟩ := by
  obtain ⟨p0, hp0⟩ := hne
  refine call_cls F O.X N hm hi hf fun x dx h' F' N' l1 l2 => h x dx h' F' N' ((D.cons (fun p hp => Nat.ne_of_lt (l1 p hp)) (Nat.lt_trans (D.low hp0) (l1 _ hp0))).cons (fun q hq => ?_) (Nat.lt_trans (Nat.lt_trans (D.low hp0) (l1 _ hp0)) l2)) ?_
  · rcases List.mem_cons.mp hq with rfl | hq
    · exact Nat.ne_of_lt l2
    · exact Nat.ne_of_lt (Nat.lt_trans (l1 q hq) l2)
  obtain ⟨A₀, base, outer, env, B, hA, hf', hke⟩ := O.frames
  have h1 := O.depth
  have h2 := O.units
  have e : (Code.builtin "type.__call__" ⟨.ref C :: pos, []⟩).cUnits = 1 := rfl
  refine ⟨⟨A₀, base, outer, env, B, hA, hf', hke⟩, ?_, ?_, O.hand, O.X, O.T⟩
  · show A.depth + 1 + d < 1000
    lia
  · show A.units + (Code.builtin "type.__call__" ⟨.ref C :: pos, []⟩).cUnits + 8 * d < 9900
    lia
end
end Mine
end U1_
namespace Mine
section XU1_
section
variable (w : World) (A : Around) (h₀ : Heap) (L : Addr) (m : Str → Option Value) (gn : Array GenState) (dr : Drawn) (tk : Nat) (oS : OsState) (led : Led) (Q E : Value → Shared → Prop) (d : Nat) (C : Addr) (pos : List Value) (fI : Addr)
def NwEnt (x dx : Addr) (h' : Heap) : Prop := Fr h₀ L h' m → News h₀ L h' ((x, instObj C dx) :: (dx, dictOf [] 0) :: led) → Ds ((x, instObj C dx) :: (dx, dictOf [] 0) :: led) → Ok w (A.under (.builtin "type.__call__" ⟨.ref C :: pos, []⟩)) h₀ L d →
      codeAny (model PR w) (A.under (.builtin "type.__call__" ⟨.ref C :: pos, []⟩)) (.call (.ref fI) ⟨.ref x :: pos, []⟩) (InitBack x fun r s' => match r with | .ok (.ret v) => Q v s' | .ok _ => False | .error e => E e s') ⟨h', gn, dr, tk, oS⟩
def NwAll : Prop := ∀ x dx h', NwEnt w A h₀ L m gn dr tk oS led Q E d C pos fI x dx h'
theorem neN : Nonempty ((Addr × Addr) × Heap) := by infer_instance
noncomputable def epN : (Addr × Addr) × Heap := ep neN fun r => NwEnt w A h₀ L m gn dr tk oS led Q E d C pos fI r.1.1 r.1.2 r.2
end
theorem new_SE {w : World} {A : Around} {h₀ hp : Heap} {L : Addr} {m : Str → Option Value} {gn : Array GenState} {dr : Drawn} {tk : Nat} {oS : OsState} {led : Led} {Q E : Value → Shared → Prop} {d : Nat} {C : Addr} {pos : List Value} {fI : Addr} (O : Ok w A h₀ L (d + 1)) (F : Fr h₀ L hp m) (N : News h₀ L hp led) (D : Ds led) (hne : ∃ p, p ∈ led) (hm : makesIn (hd.heap_1 w.params) C = true)
    (hi : findIn (hd.heap_1 w.params) (.ref C) "__init__" = some (some (.ref fI))) (hf : isFn (hd.heap_1 w.params) (.ref fI) = true)
    (h : NwEnt w A h₀ L m gn dr tk oS led Q E d C pos fI (epN w A h₀ L m gn dr tk oS led Q E d C pos fI).1.1 (epN w A h₀ L m gn dr tk oS led Q E d C pos fI).1.2 (epN w A h₀ L m gn dr tk oS led Q E d C pos fI).2) :
    wpAny (model PR w) A (call (.ref C) pos) Q E ⟨hp, gn, dr, tk, oS⟩ :=
  new_S O F N D hne hm hi hf fun x dx h' F' N' D' O' => ep_all (K := fun r : (Addr × Addr) × Heap => NwEnt w A h₀ L m gn dr tk oS led Q E d C pos fI r.1.1 r.1.2 r.2) h ((x, dx), h') F' N' D' O'
end XU1_
end Mine
section U2_
namespace Mine

section
variable {w : World} {A : Around} {h₀ : Heap} {L : Addr} {m : Str → Option Value} {hp : Heap} {gn : Array GenState} {dr : Drawn} {tk : Nat} {oS : OsState} {P : Pl} {X news led : Led} {st : St} {σ : Sg} {Φ : List Fact} {Q E : Value → Shared → Prop}

theorem put1_self {fs : List (Str × Value)} {name : Str} {v : Value} : (name, v) ∈ put1 fs name v := .head _
theorem put1_not {fs : List (Str × Value)} {name k : Str} {v : Value} (h : k ∉ fs.map (·.1)) (hn : k ≠ name) : k ∉ (put1 fs name v).map (·.1) := by
  intro hm
  simp only [put1, List.map_cons, List.mem_cons] at hm
  rcases hm with e | hm
  · exact hn e
  · obtain ⟨p, hp, rfl⟩ := List.mem_map.mp hm
    exact h (List.mem_map_of_mem (List.mem_filter.mp hp).1)
theorem news_subl {h : Heap} {l l' : Led} (N : News h₀ L h l) (s : List.Sublist l' l) : News h₀ L h l' := news_sub N fun p hp => s.subset hp
theorem Ds.subl {l l' : Led} (D : Ds l) (s : List.Sublist l' l) : Ds l' := ⟨List.Pairwise.sublist (s.map _) D.1, fun a h => D.2 a ((s.map _).subset h)⟩

def place_new_S (v1 v2 v3 : Value) : Prop := ∀ (O : Ok w A h₀ L 2) (F : Fr h₀ L hp m) (N : News h₀ L hp led) (D : Ds led) (hne : ∃ p, p ∈ led) (hret : ∀ x h' tk', Fr h₀ L h' m → News h₀ L h' led → Q (.ref x) ⟨h', gn, dr, tk', oS⟩), wpAny (model PR w) A (call (.ref 145) [v1, v2, v3]) Q E ⟨hp, gn, dr, tk, oS⟩
theorem place_new_r : ∀ r : (((HT13 × Value) × Value) × Value), (c13 (@place_new_S) r.1.1.1) r.1.1.2 r.1.2 r.2 := by
  refine ep_all (ne := by walk_at "NE") ((?_ : ∀ w A h₀ L m hp gn dr tk oS led Q E v1 v2 v3, @place_new_S w A h₀ L m hp gn dr tk oS led Q E v1 v2 v3) _ _ _ _ _ _ _ _ _ _ _ _ _ _ _ _)
  intro w A h₀ L m hp gn dr tk oS led Q E v1 v2 v3 O F N D hne hret
  refine new_SE O F N D hne (Z130 w) (Z132 w) (Z133 w) ?_
  refine (?_ : NwAll _ _ _ _ _ _ _ _ _ _ _ _ _ _ _ _) _ _ _
  intro x dx h1 F1 N1 D1 O1
  refine' callcE (d := 0) ["self", "heap", "frames", "statics"] [] [] [some (.ref x), some (v1), some (v2), some (v3)] O1 F1 N1 ?ho ?hcd ?hb ?hl ?hS ?hc ?hv ["self", "heap", "frames", "statics"] ?hpm ?_
  walk_at "ENTERE"
  have Fl0 := Fs.nil
  (clear r35; clear r0; clear r0; clear r349 Z135 Z134 Z136 Z129; clear r35; clear r0; clear r0; clear r349 Z135 Z134 Z137 Z129; clear r35; clear r0; clear r0; clear r349 Z135 Z134 Z138 Z129; clear s9 wpAny_execs_nil; ((with_reducible show Ret _ _ _ _ _ _ _); refine Ret.ini ‹_› ‹_› ?_; intro kF kN))
  exact hret _ _ _ kF (news_sub kN fun p hp => .tail _ (.tail _ hp))
theorem place_new {v1 v2 v3 : Value} (O : Ok w A h₀ L 2) (F : Fr h₀ L hp m) (N : News h₀ L hp led) (D : Ds led) (hne : ∃ p, p ∈ led) 
    (hret : ∀ x h' tk', Fr h₀ L h' m → News h₀ L h' led → Q (.ref x) ⟨h', gn, dr, tk', oS⟩) :
    wpAny (model PR w) A (call (.ref 145) [v1, v2, v3]) Q E ⟨hp, gn, dr, tk, oS⟩ := place_new_r (((((((((((((((w, A), h₀), L), m), hp), gn), dr), tk), oS), led), Q), E), v1), v2), v3) O F N D hne hret

def bare_new_S : Prop := ∀ (O : Ok w A h₀ L 2) (F : Fr h₀ L hp m) (N : News h₀ L hp led) (D : Ds led) (hne : ∃ p, p ∈ led) (hret : ∀ x dx es n h' tk', Fr h₀ L h' m → News h₀ L h' ((x, instObj 798 dx) :: (dx, dictOf es n) :: led) → Ds ((x, instObj 798 dx) :: (dx, dictOf es n) :: led) → getL "kt" es = some (some .none) → Q (.ref x) ⟨h', gn, dr, tk', oS⟩), wpAny (model PR w) A (call (.ref 798) [.none]) Q E ⟨hp, gn, dr, tk, oS⟩
theorem bare_new_r : ∀ r : HT13, (c13 (@bare_new_S) r) := by
  refine ep_all (ne := by walk_at "NE") ((?_ : ∀ w A h₀ L m hp gn dr tk oS led Q E, @bare_new_S w A h₀ L m hp gn dr tk oS led Q E) _ _ _ _ _ _ _ _ _ _ _ _ _)
  intro w A h₀ L m hp gn dr tk oS led Q E O F N D hne hret
  refine new_SE O F N D hne (Z209 w) (Z211 w) (Z212 w) ?_
  refine (?_ : NwAll _ _ _ _ _ _ _ _ _ _ _ _ _ _ _ _) _ _ _
  intro x dx h1 F1 N1 D1 O1
  refine' callcE (d := 0) ["self", "kt"] [] [] [some (.ref x), some (.none)] O1 F1 N1 ?ho ?hcd ?hb ?hl ?hS ?hc ?hv ["self", "kt"] ?hpm ?_
  walk_at "ENTERE"
  have Fl0 := Fs.nil
  (clear r35; clear r0; clear r0; clear r349 Z214 Z213 Z215 Z208; clear r35; clear r350; clear r0; clear r349 Z214 Z213 Z216 Z208; clear r35; clear r350; clear r0; clear r349 Z214 Z213 Z217 Z208; clear r35; clear r350; clear r0; clear r349 Z214 Z213 Z218 Z208; clear r35; clear r350; clear r0; clear r349 Z214 Z213 Z219 Z208; clear r35; clear r350; clear r0; clear r349 Z214 Z213 Z220 Z208; clear r35; clear r350; clear r0; clear r349 Z214 Z213 Z221 Z208; clear r35; clear r350; clear r0; clear r349 Z214 Z213 Z222 Z208; clear r35; clear r350; clear r0; clear r349 Z214 Z213 Z223 Z208; clear s9 wpAny_execs_nil; ((with_reducible show Ret _ _ _ _ _ _ _); refine Ret.ini ‹_› ‹_› ?_; intro kF kN))
  exact hret _ _ _ _ _ _ kF (news_subl kN (by ((repeat' (first | with_reducible exact List.Sublist.refl _ | with_reducible refine List.Sublist.cons₂ _ ?_ | with_reducible refine List.Sublist.cons _ ?_)); first | all_goals fail | fail))) (D'.subl (by ((repeat' (first | with_reducible exact List.Sublist.refl _ | with_reducible refine List.Sublist.cons₂ _ ?_ | with_reducible refine List.Sublist.cons _ ?_)); first | all_goals fail | fail))) (Fl'.1 ("kt", _) (by ((repeat' (first | with_reducible exact put1_self | with_reducible refine put1_mem ?_ (by with_unfolding_all rfl))); first | all_goals fail | fail)))
theorem bare_new  (O : Ok w A h₀ L 2) (F : Fr h₀ L hp m) (N : News h₀ L hp led) (D : Ds led) (hne : ∃ p, p ∈ led) 
    (hret : ∀ x dx es n h' tk', Fr h₀ L h' m → News h₀ L h' ((x, instObj 798 dx) :: (dx, dictOf es n) :: led) → Ds ((x, instObj 798 dx) :: (dx, dictOf es n) :: led) → getL "kt" es = some (some .none) → Q (.ref x) ⟨h', gn, dr, tk', oS⟩) :
    wpAny (model PR w) A (call (.ref 798) [.none]) Q E ⟨hp, gn, dr, tk, oS⟩ := bare_new_r ((((((((((((w, A), h₀), L), m), hp), gn), dr), tk), oS), led), Q), E) O F N D hne hret

def heap_new_S (t u : Tok) : Prop := ∀ (O : Ok w A h₀ L 2) (F : Fr h₀ L hp m) (N : News h₀ L hp led) (D : Ds led) (hne : ∃ p, p ∈ led) (hret : ∀ x dx es n tab o th t1 t2 t3 h' tk', Fr h₀ L h' m → News h₀ L h' ((x, instObj 117 dx) :: (dx, dictOf es n) :: (tab, o) :: (th, listOf #[] 0) :: led) → Ds ((x, instObj 117 dx) :: (dx, dictOf es n) :: (tab, o) :: (th, listOf #[] 0) :: led) → o.IsDictOf (intKind PR w) [] → (tab == sysModules) = false → es.length ≤ 50 → es.any (·.refKey) = false → (∀ p ∈ [(("things" : Str), Value.ref th), ("at", .ref tab), ("top", .int 16 t1), ("fresh", .int 0 t2), ("made", .int 0 t3)], getL p.1 es = some (some p.2)) → Q (.ref x) ⟨h', gn, dr, tk', oS⟩), wpAny (model PR w) A (call (.ref 117) [.int 4000 t, .int 4 u]) Q E ⟨hp, gn, dr, tk, oS⟩
theorem heap_new_r : ∀ r : ((HT13 × Tok) × Tok), (c13 (@heap_new_S) r.1.1) r.1.2 r.2 := by
  refine ep_all (ne := by walk_at "NE") ((?_ : ∀ w A h₀ L m hp gn dr tk oS led Q E t u, @heap_new_S w A h₀ L m hp gn dr tk oS led Q E t u) _ _ _ _ _ _ _ _ _ _ _ _ _ _ _)
  intro w A h₀ L m hp gn dr tk oS led Q E t u O F N D hne hret
  refine new_SE O F N D hne (Z110 w) (Z112 w) (Z113 w) ?_
  refine (?_ : NwAll _ _ _ _ _ _ _ _ _ _ _ _ _ _ _ _) _ _ _
  intro x dx h1 F1 N1 D1 O1
  refine' callcE (d := 0) ["self", "limit", "card_bits"] [] ["FIRST_ADDRESS"] [some (.ref x), some (.int 4000 t), some (.int 4 u)] O1 F1 N1 ?ho ?hcd ?hb ?hl ?hS ?hc ?hv ["self", "limit", "card_bits"] ?hpm ?_
  walk_at "ENTERE"
  have Fl0 := Fs.nil
  (clear r35; clear r28; clear s55 list_S; clear r0; clear r349 Z115 Z114 Z116 Z109; clear r35; clear r350; clear r0; clear r349 Z115 Z114 Z117 Z109; clear r35; clear r1 Z4; clear r0; clear r349 Z115 Z114 Z118 Z109; clear r35; clear r0; clear r0; clear r349 Z115 Z114 Z119 Z109; clear r35; clear r350; clear r0; clear r349 Z115 Z114 Z120 Z109; clear r35; clear r0; clear r0; clear r349 Z115 Z114 Z121 Z109; clear r35; clear r3; clear r0; clear r349 Z115 Z114 Z122 Z109; clear r35; clear s9 wpAny_BinOp; clear r16; ((with_reducible refine o_fdiv ?hb ?hs ?_); (case hb => decide); (case hs => decide); skip); clear r3; clear s9 o_add; clear r0; clear r349 Z115 Z114 Z123 Z109; clear r35; clear r28; clear s55 list_S; clear r0; clear r349 Z115 Z114 Z124 Z109; clear r35; clear r28; clear s55 list_S; clear r0; clear r349 Z115 Z114 Z125 Z109; clear r35; clear r3; clear r0; clear r349 Z115 Z114 Z126 Z109; clear r35; clear r3; clear r0; clear r349 Z115 Z114 Z127 Z109; clear s9 wpAny_execs_nil; ((with_reducible show Ret _ _ _ _ _ _ _); refine Ret.ini ‹_› ‹_› ?_; intro kF kN))
  refine' hret _ _ _ _ _ _ _ _ _ _ _ _ kF ?qn ?qd ?qo ?qlo (Nat.le_trans Fl'.2.2.2 (by decide)) Fl'.2.2.1 ?qf
  case qf => exact List.forall_mem_cons.mpr ⟨Fl'.1 ("things", _) (by ((repeat' (first | with_reducible exact put1_self | with_reducible refine put1_mem ?_ (by with_unfolding_all rfl))); first | all_goals fail | fail)), List.forall_mem_cons.mpr ⟨Fl'.1 ("at", _) (by ((repeat' (first | with_reducible exact put1_self | with_reducible refine put1_mem ?_ (by with_unfolding_all rfl))); first | all_goals fail | fail)), List.forall_mem_cons.mpr ⟨Fl'.1 ("top", _) (by ((repeat' (first | with_reducible exact put1_self | with_reducible refine put1_mem ?_ (by with_unfolding_all rfl))); first | all_goals fail | fail)), List.forall_mem_cons.mpr ⟨Fl'.1 ("fresh", _) (by ((repeat' (first | with_reducible exact put1_self | with_reducible refine put1_mem ?_ (by with_unfolding_all rfl))); first | all_goals fail | fail)), List.forall_mem_cons.mpr ⟨Fl'.1 ("made", _) (by ((repeat' (first | with_reducible exact put1_self | with_reducible refine put1_mem ?_ (by with_unfolding_all rfl))); first | all_goals fail | fail)), fun _ h => nomatch h⟩⟩⟩⟩⟩
  case qn => exact news_subl kN (by ((repeat' (first | with_reducible exact List.Sublist.refl _ | with_reducible refine List.Sublist.cons₂ _ ?_ | with_reducible refine List.Sublist.cons _ ?_)); first | all_goals fail | fail))
  case qd => exact D'.subl (by ((repeat' (first | with_reducible exact List.Sublist.refl _ | with_reducible refine List.Sublist.cons₂ _ ?_ | with_reducible refine List.Sublist.cons _ ?_)); first | all_goals fail | fail))
  case qo => assumption
  case qlo => assumption
theorem heap_new {t u : Tok} (O : Ok w A h₀ L 2) (F : Fr h₀ L hp m) (N : News h₀ L hp led) (D : Ds led) (hne : ∃ p, p ∈ led) 
    (hret : ∀ x dx es n tab o th t1 t2 t3 h' tk', Fr h₀ L h' m → News h₀ L h' ((x, instObj 117 dx) :: (dx, dictOf es n) :: (tab, o) :: (th, listOf #[] 0) :: led) → Ds ((x, instObj 117 dx) :: (dx, dictOf es n) :: (tab, o) :: (th, listOf #[] 0) :: led) → o.IsDictOf (intKind PR w) [] → (tab == sysModules) = false → es.length ≤ 50 → es.any (·.refKey) = false → (∀ p ∈ [(("things" : Str), Value.ref th), ("at", .ref tab), ("top", .int 16 t1), ("fresh", .int 0 t2), ("made", .int 0 t3)], getL p.1 es = some (some p.2)) → Q (.ref x) ⟨h', gn, dr, tk', oS⟩) :
    wpAny (model PR w) A (call (.ref 117) [.int 4000 t, .int 4 u]) Q E ⟨hp, gn, dr, tk, oS⟩ := heap_new_r ((((((((((((((w, A), h₀), L), m), hp), gn), dr), tk), oS), led), Q), E), t), u) O F N D hne hret

end
end Mine
end U2_
section U3_
namespace Mine

section
variable {w : World} {A : Around} {h₀ : Heap} {L : Addr} {m : Str → Option Value} {hp : Heap} {gn : Array GenState} {dr : Drawn} {tk : Nat} {oS : OsState} {P : Pl} {X news led : Led} {st : St} {σ : Sg} {Φ : List Fact} {Q E : Value → Shared → Prop}

def shelf_new_S (bx bdx hx : Addr) (bes : List DictEntry) (bn : Nat) : Prop := ∀ (O : Ok w A h₀ L 6) (F : Fr h₀ L hp m) (N : News h₀ L hp led) (D : Ds led) (hne : ∃ p, p ∈ led) (hb1 : (bx, instObj 798 bdx) ∈ led) (hb2 : (bdx, dictOf bes bn) ∈ led) (hb3 : getL "kt" bes = some (some .none)) (hret : ∀ x dx es n sw dsw nat on told thr itn oi itv t h' tk', Fr h₀ L h' m → News h₀ L h' ((x, instObj 447 dx) :: (dx, dictOf es n) :: (sw, instObj 223 dsw) :: (dsw, dictOf [] 0) :: (itv, listOf #[] 0) :: (itn, oi) :: (thr, listOf #[] 0) :: (told, listOf #[] 0) :: (nat, on) :: led) → Ds ((x, instObj 447 dx) :: (dx, dictOf es n) :: (sw, instObj 223 dsw) :: (dsw, dictOf [] 0) :: (itv, listOf #[] 0) :: (itn, oi) :: (thr, listOf #[] 0) :: (told, listOf #[] 0) :: (nat, on) :: led) → on.IsDictOf (intKind PR w) [] → oi.IsDictOf (PySem.strKind PR w) [] → (nat == sysModules) = false → (itn == sysModules) = false → (∀ p ∈ [(("heap" : Str), Value.ref hx), ("natives", .ref nat), ("thrown", .ref thr), ("told", .ref told), ("interned", .ref itn), ("internv", .ref itv), ("sweeper", .ref sw), ("state", .int 0 t)], getL p.1 es = some (some p.2)) → (∀ k ∈ [("alloc" : Str), "text_of", "text_ref", "new_text", "throw_new"], getL k es = some none) → Q (.ref x) ⟨h', gn, dr, tk', oS⟩), wpAny (model PR w) A (call (.ref 447) [.ref bx, .ref hx]) Q E ⟨hp, gn, dr, tk, oS⟩
theorem shelf_new_r : ∀ r : (((((HT13 × Addr) × Addr) × Addr) × (List DictEntry)) × Nat), (c13 (@shelf_new_S) r.1.1.1.1.1) r.1.1.1.1.2 r.1.1.1.2 r.1.1.2 r.1.2 r.2 := by
  refine ep_all (ne := by walk_at "NE") ((?_ : ∀ w A h₀ L m hp gn dr tk oS led Q E bx bdx hx bes bn, @shelf_new_S w A h₀ L m hp gn dr tk oS led Q E bx bdx hx bes bn) _ _ _ _ _ _ _ _ _ _ _ _ _ _ _ _ _ _)
  intro w A h₀ L m hp gn dr tk oS led Q E bx bdx hx bes bn O F N D hne hb1 hb2 hb3 hret
  refine new_SE O F N D hne (Z158 w) (Z160 w) (Z161 w) ?_
  refine (?_ : NwAll _ _ _ _ _ _ _ _ _ _ _ _ _ _ _ _) _ _ _
  intro x dx h1 F1 N1 D1 O1
  refine' callcE (d := 4) ["self", "store", "heap"] [] ["ST_RUN", "PlaceHost", "Starter", "KindCloser", "Sweeper"] [some (.ref x), some (.ref bx), some (.ref hx)] O1 F1 N1 ?ho ?hcd ?hb ?hl ?hS ?hc ?hv ["self", "store", "heap"] ?hpm ?_
  walk_at "ENTERE"
  have Fl0 := Fs.nil
  (clear r35; clear r0; clear r0; clear r349 Z163 Z162 Z164 Z157; clear r35; clear r14; ((with_reducible refine get_L (C := 798) ‹_› ‹_› ‹_› ‹0› ‹0› ‹_› (pgn (Z207 _)) (Z208 _) (Z215 _) ?hv ?_); (case hv => exact rfl); skip); clear r0; clear r349 Z163 Z162 Z165 Z157; clear r35; clear r0; clear r0; clear r349 Z163 Z162 Z166 Z157; clear r35; clear r350; clear r0; clear r349 Z163 Z162 Z167 Z157; clear r35; clear r350; clear r0; clear r349 Z163 Z162 Z168 Z157; clear r35; clear r350; clear r0; clear r349 Z163 Z162 Z169 Z157; clear r35; clear r350; clear r0; clear r349 Z163 Z162 Z170 Z157; clear r35; clear r350; clear r0; clear r349 Z163 Z162 Z171 Z157; clear r35; clear r350; clear r0; clear r349 Z163 Z162 Z172 Z157; clear r35; clear r28; clear s55 list_S; clear r0; clear r349 Z163 Z162 Z173 Z157; clear r35; clear r350; clear r0; clear r349 Z163 Z162 Z174 Z157; clear r35; clear r350; clear r0; clear r349 Z163 Z162 Z175 Z157; clear r35; clear r350; clear r0; clear r349 Z163 Z162 Z176 Z157; clear r35; clear r350; clear r0; clear r349 Z163 Z162 Z177 Z157; clear r35; clear r350; clear r0; clear r349 Z163 Z162 Z178 Z157; clear r35; clear r350; clear r0; clear r349 Z163 Z162 Z179 Z157; clear r35; clear r1 Z6; clear r0; clear r349 Z163 Z162 Z180 Z157; clear r35; clear r28; clear s55 list_S; clear r0; clear r349 Z163 Z162 Z181 Z157; clear r35; clear r28; clear s55 list_S; clear r0; clear r349 Z163 Z162 Z182 Z157; clear r35; clear r28; clear s55 list_S; clear r0; clear r349 Z163 Z162 Z183 Z157; clear r35; clear r28; clear s55 list_S; clear r0; clear r349 Z163 Z162 Z184 Z157; clear r35; clear r28; clear s55 list_S; clear r0; clear r349 Z163 Z162 Z185 Z157; clear r35; clear r350; clear r0; clear r349 Z163 Z162 Z186 Z157; clear r35; clear r28; clear s55 list_S; clear r0; clear r349 Z163 Z162 Z187 Z157; clear r35; clear r28; clear s55 list_S; clear r0; clear r349 Z163 Z162 Z188 Z157; clear r35; clear s9 wpAny_Constant_none; clear r0; clear r349 Z163 Z162 Z189 Z157; clear r35; clear s9 wpAny_Constant_none; clear r0; clear r349 Z163 Z162 Z190 Z157; clear r35; clear r28; clear s55 list_S; clear r0; clear r349 Z163 Z162 Z191 Z157; clear r35; clear s9 wpAny_Constant_none; clear r0; clear r349 Z163 Z162 Z192 Z157; clear r35; clear r8; clear r1 Z7; clear r109 Z131; clear r126; clear r127; clear r14; ((with_reducible refine get_F (C := 447) ‹_› ‹_› ‹_› ‹_› (by ((repeat' (first | with_reducible exact put1_self | with_reducible refine put1_mem ?_ (by with_unfolding_all rfl))); first | all_goals fail | fail)) (pgn (Z156 _)) (Z157 _) (by with_reducible exact Z174 _) ?hv ?_); (case hv => exact rfl); skip); clear r127; clear r14; ((with_reducible refine get_F (C := 447) ‹_› ‹_› ‹_› ‹_› (by ((repeat' (first | with_reducible exact put1_self | with_reducible refine put1_mem ?_ (by with_unfolding_all rfl))); first | all_goals fail | fail)) (pgn (Z156 _)) (Z157 _) (by with_reducible exact Z175 _) ?hv ?_); (case hv => exact rfl); skip); clear r125; clear r128; ((with_reducible refine place_new ‹8› ‹_› ‹_› ‹_› ⟨_, List.mem_cons_self⟩ ?_); (try clear F' N'); intro x' h' tk' F' N'); clear r0; clear r349 Z163 Z162 Z193 Z157; clear r35; clear r7 Z8 Z142; clear s56 cls_S0 Z141 Z143; clear r0; clear r349 Z163 Z162 Z194 Z157; clear r35; clear r7 Z9 Z154; clear s56 cls_S0 Z153 Z155; clear r0; clear r349 Z163 Z162 Z195 Z157; clear r35; clear r7 Z10 Z147; clear s56 cls_S0 Z146 Z148; clear r0; clear r349 Z163 Z162 Z196 Z157; clear s9 wpAny_execs_nil; ((with_reducible show Ret _ _ _ _ _ _ _); refine Ret.ini ‹_› ‹_› ?_; intro kF kN))
  have f0 := Fl'.1 ("heap", _) (by ((repeat' (first | with_reducible exact put1_self | with_reducible refine put1_mem ?_ (by with_unfolding_all rfl))); first | all_goals fail | fail))
  have f1 := Fl'.1 ("natives", _) (by ((repeat' (first | with_reducible exact put1_self | with_reducible refine put1_mem ?_ (by with_unfolding_all rfl))); first | all_goals fail | fail))
  have f2 := Fl'.1 ("thrown", _) (by ((repeat' (first | with_reducible exact put1_self | with_reducible refine put1_mem ?_ (by with_unfolding_all rfl))); first | all_goals fail | fail))
  have f3 := Fl'.1 ("told", _) (by ((repeat' (first | with_reducible exact put1_self | with_reducible refine put1_mem ?_ (by with_unfolding_all rfl))); first | all_goals fail | fail))
  have f4 := Fl'.1 ("interned", _) (by ((repeat' (first | with_reducible exact put1_self | with_reducible refine put1_mem ?_ (by with_unfolding_all rfl))); first | all_goals fail | fail))
  have f5 := Fl'.1 ("internv", _) (by ((repeat' (first | with_reducible exact put1_self | with_reducible refine put1_mem ?_ (by with_unfolding_all rfl))); first | all_goals fail | fail))
  have f6 := Fl'.1 ("sweeper", _) (by ((repeat' (first | with_reducible exact put1_self | with_reducible refine put1_mem ?_ (by with_unfolding_all rfl))); first | all_goals fail | fail))
  have f7 := Fl'.1 ("state", _) (by ((repeat' (first | with_reducible exact put1_self | with_reducible refine put1_mem ?_ (by with_unfolding_all rfl))); first | all_goals fail | fail))
  have no : ∀ k ∈ [("alloc" : Str), "text_of", "text_ref", "new_text", "throw_new"], getL k es' = some none := by
    intro k hk
    refine Fl'.2.1 k ?_
    simp only [List.mem_cons, List.not_mem_nil, or_false] at hk
    rcases hk with rfl | rfl | rfl | rfl | rfl
    all_goals (repeat' (first | refine put1_not ?_ (by decide) | exact fun h => nomatch h))
  exact hret _ _ _ _ _ _ _ _ _ _ _ _ _ _ _ _ kF (news_subl kN (by ((repeat' (first | with_reducible exact List.Sublist.refl _ | with_reducible refine List.Sublist.cons₂ _ ?_ | with_reducible refine List.Sublist.cons _ ?_)); first | all_goals fail | fail))) (D'.subl (by ((repeat' (first | with_reducible exact List.Sublist.refl _ | with_reducible refine List.Sublist.cons₂ _ ?_ | with_reducible refine List.Sublist.cons _ ?_)); first | all_goals fail | fail))) ‹_› ‹_› ‹_› ‹_› (List.forall_mem_cons.mpr ⟨f0, (List.forall_mem_cons.mpr ⟨f1, (List.forall_mem_cons.mpr ⟨f2, (List.forall_mem_cons.mpr ⟨f3, (List.forall_mem_cons.mpr ⟨f4, (List.forall_mem_cons.mpr ⟨f5, (List.forall_mem_cons.mpr ⟨f6, (List.forall_mem_cons.mpr ⟨f7, fun _ h => nomatch h⟩)⟩)⟩)⟩)⟩)⟩)⟩)⟩) no
theorem shelf_new {bx bdx hx : Addr} {bes : List DictEntry} {bn : Nat} (O : Ok w A h₀ L 6) (F : Fr h₀ L hp m) (N : News h₀ L hp led) (D : Ds led) (hne : ∃ p, p ∈ led) (hb1 : (bx, instObj 798 bdx) ∈ led) (hb2 : (bdx, dictOf bes bn) ∈ led) (hb3 : getL "kt" bes = some (some .none))
    (hret : ∀ x dx es n sw dsw nat on told thr itn oi itv t h' tk', Fr h₀ L h' m → News h₀ L h' ((x, instObj 447 dx) :: (dx, dictOf es n) :: (sw, instObj 223 dsw) :: (dsw, dictOf [] 0) :: (itv, listOf #[] 0) :: (itn, oi) :: (thr, listOf #[] 0) :: (told, listOf #[] 0) :: (nat, on) :: led) → Ds ((x, instObj 447 dx) :: (dx, dictOf es n) :: (sw, instObj 223 dsw) :: (dsw, dictOf [] 0) :: (itv, listOf #[] 0) :: (itn, oi) :: (thr, listOf #[] 0) :: (told, listOf #[] 0) :: (nat, on) :: led) → on.IsDictOf (intKind PR w) [] → oi.IsDictOf (PySem.strKind PR w) [] → (nat == sysModules) = false → (itn == sysModules) = false → (∀ p ∈ [(("heap" : Str), Value.ref hx), ("natives", .ref nat), ("thrown", .ref thr), ("told", .ref told), ("interned", .ref itn), ("internv", .ref itv), ("sweeper", .ref sw), ("state", .int 0 t)], getL p.1 es = some (some p.2)) → (∀ k ∈ [("alloc" : Str), "text_of", "text_ref", "new_text", "throw_new"], getL k es = some none) → Q (.ref x) ⟨h', gn, dr, tk', oS⟩) :
    wpAny (model PR w) A (call (.ref 447) [.ref bx, .ref hx]) Q E ⟨hp, gn, dr, tk, oS⟩ := shelf_new_r (((((((((((((((((w, A), h₀), L), m), hp), gn), dr), tk), oS), led), Q), E), bx), bdx), hx), bes), bn) O F N D hne hb1 hb2 hb3 hret

end
end Mine
end U3_
section U4_
namespace Mine

section
variable {w : World} {A : Around} {h₀ : Heap} {L : Addr} {m : Str → Option Value} {hp : Heap} {gn : Array GenState} {dr : Drawn} {tk : Nat} {oS : OsState} {P : Pl} {X news led : Led} {st : St} {σ : Sg} {Φ : List Fact} {Q E : Value → Shared → Prop}

theorem nat_set {nat : Addr} {on : Obj} {q : Addr × Obj} {kvs : List (Int × Value)} {k : Int} {t : Tok} {v : Value} {rest : Led} {Q : Unit → Shared → Prop} (F : Fr h₀ L hp m) (N : News h₀ L hp ((nat, on) :: q :: rest)) (D : Ds ((nat, on) :: q :: rest)) (hd : on.IsDictOf (intKind PR w) kvs)
    (h : ∀ h' o', Fr h₀ L h' m → News h₀ L h' ((nat, o') :: q :: rest) → Ds ((nat, o') :: q :: rest) → o'.IsDictOf (intKind PR w) (stored kvs k v) → Q () ⟨h', gn, dr, tk + 1, oS⟩) (hz : kvs.length ≤ 1000) :
    wpAny (model PR w) A (setItem (.ref nat) (.int k t) v) Q E ⟨hp, gn, dr, tk, oS⟩ :=
  kda_set (knd := intKind PR w) F N (UpdF.head fun p hp e => D.off hp e.symm) hd (intKind_is _ _ _ _) (by rw [sizeLine_eq]; lia) fun h' o' F' N' hd' => h h' o' F' N' D hd'

def install_S (x dx nat : Addr) (on : Obj) (rest : Led) (es : List DictEntry) (n : Nat) : Prop := ∀ (O : Ok w A h₀ L 1) (F : Fr h₀ L hp m) (N : News h₀ L hp (led)) (D : Ds led) (hl : led = (nat, on) :: (x, instObj 447 dx) :: (dx, dictOf es n) :: rest) (hd : on.IsDictOf (intKind PR w) []) (h3 : getL "natives" es = some (some (.ref nat))) (hret : ∀ i1 d1 i2 d2 i3 d3 i4 d4 i5 d5 i6 d6 i7 d7 i8 d8 i9 d9 on' h' tk', Fr h₀ L h' m → News h₀ L h' ((nat, on') :: (x, instObj 447 dx) :: (i9, instObj 730 d9) :: (d9, dictOf [] 0) :: (i8, instObj 711 d8) :: (d8, dictOf [] 0) :: (i7, instObj 692 d7) :: (d7, dictOf [] 0) :: (i6, instObj 673 d6) :: (d6, dictOf [] 0) :: (i5, instObj 654 d5) :: (d5, dictOf [] 0) :: (i4, instObj 635 d4) :: (d4, dictOf [] 0) :: (i3, instObj 616 d3) :: (d3, dictOf [] 0) :: (i2, instObj 597 d2) :: (d2, dictOf [] 0) :: (i1, instObj 578 d1) :: (d1, dictOf [] 0) :: (dx, dictOf es n) :: rest) → Ds ((nat, on') :: (x, instObj 447 dx) :: (i9, instObj 730 d9) :: (d9, dictOf [] 0) :: (i8, instObj 711 d8) :: (d8, dictOf [] 0) :: (i7, instObj 692 d7) :: (d7, dictOf [] 0) :: (i6, instObj 673 d6) :: (d6, dictOf [] 0) :: (i5, instObj 654 d5) :: (d5, dictOf [] 0) :: (i4, instObj 635 d4) :: (d4, dictOf [] 0) :: (i3, instObj 616 d3) :: (d3, dictOf [] 0) :: (i2, instObj 597 d2) :: (d2, dictOf [] 0) :: (i1, instObj 578 d1) :: (d1, dictOf [] 0) :: (dx, dictOf es n) :: rest) → on'.IsDictOf (intKind PR w) [((1 : Int), Value.ref i1), (2, .ref i2), (3, .ref i3), (4, .ref i4), (5, .ref i5), (6, .ref i6), (7, .ref i7), (8, .ref i8), (9, .ref i9)] → Q .none ⟨h', gn, dr, tk', oS⟩), wpAny (model PR w) A (call (.ref 739) [.ref x]) Q E ⟨hp, gn, dr, tk, oS⟩
theorem install_r : ∀ r : (((((((HT13 × Addr) × Addr) × Addr) × Obj) × Led) × (List DictEntry)) × Nat), (c13 (@install_S) r.1.1.1.1.1.1.1) r.1.1.1.1.1.1.2 r.1.1.1.1.1.2 r.1.1.1.1.2 r.1.1.1.2 r.1.1.2 r.1.2 r.2 := by
  refine ep_all (ne := by walk_at "NE") ((?_ : ∀ w A h₀ L m hp gn dr tk oS led Q E x dx nat on rest es n, @install_S w A h₀ L m hp gn dr tk oS led Q E x dx nat on rest es n) _ _ _ _ _ _ _ _ _ _ _ _ _ _ _ _ _ _ _ _)
  intro w A h₀ L m hp gn dr tk oS led Q E x dx nat on rest es n O F N D hl hd h3 hret
  refine' callfE (d := 0) ["m"] [] ["N_CONCAT", "TextConcat", "N_STR_LENGTH", "TextLength", "N_STR_CHARS", "TextChars", "N_STR_EQ", "TextSame", "N_STR_EQUALS", "TextEquals", "N_STR_HASH", "TextHash", "N_SUBSTRING", "TextPart", "N_INDEXOF", "TextIndex", "N_STR_COMPARE", "TextCompare"] [some (.ref x)] O F N ?ho ?hcd ?hb ?hl ?hS ?hc ?hv ["m"] ?hpm ?_
  walk_at "ENTERE"
  subst hl
  (clear s0 x_item; clear r7 Z40 Z227; clear s56 cls_S0 Z226 Z228; clear r14; clear s57 get_L; clear r1 Z39; clear s58 nat_set; clear s0 x_item; clear r7 Z42 Z234; clear s56 cls_S0 Z233 Z235; clear r14; clear s57 get_L; clear r1 Z41; clear s58 nat_set; clear s0 x_item; clear r7 Z44 Z241; clear s56 cls_S0 Z240 Z242; clear r14; clear s57 get_L; clear r1 Z43; clear s58 nat_set; clear s0 x_item; clear r7 Z46 Z248; clear s56 cls_S0 Z247 Z249; clear r14; clear s57 get_L; clear r1 Z45; clear s58 nat_set; clear s0 x_item; clear r7 Z48 Z255; clear s56 cls_S0 Z254 Z256; clear r14; clear s57 get_L; clear r1 Z47; clear s58 nat_set; clear s0 x_item; clear r7 Z50 Z262; clear s56 cls_S0 Z261 Z263; clear r14; clear s57 get_L; clear r1 Z49; clear s58 nat_set; clear s0 x_item; clear r7 Z52 Z269; clear s56 cls_S0 Z268 Z270; clear r14; clear s57 get_L; clear r1 Z51; clear s58 nat_set; clear s0 x_item; clear r7 Z54 Z276; clear s56 cls_S0 Z275 Z277; clear r14; clear s57 get_L; clear r1 Z53; clear s58 nat_set; clear s0 x_item; clear r7 Z56 Z283; clear s56 cls_S0 Z282 Z284; clear r14; clear s57 get_L; clear r1 Z55; clear s58 nat_set; clear s9 wpAny_execs_nil; clear s12 Ret.nil)
  exact hret _ _ _ _ _ _ _ _ _ _ _ _ _ _ _ _ _ _ _ _ _ kF kN D' hd'
theorem install {x dx nat : Addr} {on : Obj} {rest : Led} {es : List DictEntry} {n : Nat} (O : Ok w A h₀ L 1) (F : Fr h₀ L hp m) (N : News h₀ L hp (led)) (D : Ds led) (hl : led = (nat, on) :: (x, instObj 447 dx) :: (dx, dictOf es n) :: rest) (hd : on.IsDictOf (intKind PR w) []) (h3 : getL "natives" es = some (some (.ref nat)))
    (hret : ∀ i1 d1 i2 d2 i3 d3 i4 d4 i5 d5 i6 d6 i7 d7 i8 d8 i9 d9 on' h' tk', Fr h₀ L h' m → News h₀ L h' ((nat, on') :: (x, instObj 447 dx) :: (i9, instObj 730 d9) :: (d9, dictOf [] 0) :: (i8, instObj 711 d8) :: (d8, dictOf [] 0) :: (i7, instObj 692 d7) :: (d7, dictOf [] 0) :: (i6, instObj 673 d6) :: (d6, dictOf [] 0) :: (i5, instObj 654 d5) :: (d5, dictOf [] 0) :: (i4, instObj 635 d4) :: (d4, dictOf [] 0) :: (i3, instObj 616 d3) :: (d3, dictOf [] 0) :: (i2, instObj 597 d2) :: (d2, dictOf [] 0) :: (i1, instObj 578 d1) :: (d1, dictOf [] 0) :: (dx, dictOf es n) :: rest) → Ds ((nat, on') :: (x, instObj 447 dx) :: (i9, instObj 730 d9) :: (d9, dictOf [] 0) :: (i8, instObj 711 d8) :: (d8, dictOf [] 0) :: (i7, instObj 692 d7) :: (d7, dictOf [] 0) :: (i6, instObj 673 d6) :: (d6, dictOf [] 0) :: (i5, instObj 654 d5) :: (d5, dictOf [] 0) :: (i4, instObj 635 d4) :: (d4, dictOf [] 0) :: (i3, instObj 616 d3) :: (d3, dictOf [] 0) :: (i2, instObj 597 d2) :: (d2, dictOf [] 0) :: (i1, instObj 578 d1) :: (d1, dictOf [] 0) :: (dx, dictOf es n) :: rest) → on'.IsDictOf (intKind PR w) [((1 : Int), Value.ref i1), (2, .ref i2), (3, .ref i3), (4, .ref i4), (5, .ref i5), (6, .ref i6), (7, .ref i7), (8, .ref i8), (9, .ref i9)] → Q .none ⟨h', gn, dr, tk', oS⟩) :
    wpAny (model PR w) A (call (.ref 739) [.ref x]) Q E ⟨hp, gn, dr, tk, oS⟩ := install_r (((((((((((((((((((w, A), h₀), L), m), hp), gn), dr), tk), oS), led), Q), E), x), dx), nat), on), rest), es), n) O F N D hl hd h3 hret

end
end Mine
end U4_
section U5_
namespace Mine
section
variable {w : World} {A : Around} {E : Value → Shared → Prop} {hp : Heap} {gn : Array GenState} {dr : Drawn} {tk : Nat} {oS : OsState} {g h₀ : Heap} {L a : Addr} {m : Str → Option Value} {P : Pl} {led rest : Led} {env : Env}
theorem tup_T {vs : List Value} {Q : Value → Shared → Prop} (F : Fr h₀ L hp m) (N : News h₀ L hp led) (D : Ds led) (hbig : h₀.NoLimit) (hz : vs.length ≤ 1000)
    (h : ∀ l h', Fr h₀ L h' m → News h₀ L h' ((l, tupOf vs) :: led) → Ds ((l, tupOf vs) :: led) → Q (.ref l) ⟨h', gn, dr, tk, oS⟩) : wpAny (model PR w) A (newTuple vs) Q E ⟨hp, gn, dr, tk, oS⟩ :=
  newTuple_N F N (fun h' F' N' => h _ h' F' N' (D.cons (fun p hp => Nat.ne_of_lt (Heap.lt_size (N p hp).1)) (Nat.lt_trans (modules_low hbig) (Nat.lt_of_le_of_lt F.above F.ns.lt)))) (by rw [sizeLine_eq]; lia)
theorem list_T {vs : List Value} {Q : Value → Shared → Prop} (F : Fr h₀ L hp m) (N : News h₀ L hp led) (D : Ds led) (hne : ∃ p, p ∈ led) (hz : vs.length ≤ 1000)
    (h : ∀ l h', Fr h₀ L h' m → News h₀ L h' ((l, listOf vs.toArray 0) :: led) → Ds ((l, listOf vs.toArray 0) :: led) → Q (.ref l) ⟨h', gn, dr, tk, oS⟩) : wpAny (model PR w) A (newList vs) Q E ⟨hp, gn, dr, tk, oS⟩ := by
  obtain ⟨p0, hp0⟩ := hne
  exact newList_K F N (fun l h' F' N' hl => h l h' F' N' (D.cons (fun p hp => Nat.ne_of_lt (hl p hp)) (Nat.lt_trans (D.low hp0) (hl _ hp0)))) (by rw [sizeLine_eq]; lia)
def DW (w : World) (g : Heap) (L : Addr) (m : Str → Option Value) (gn : Array GenState) (dr : Drawn) (oS : OsState) (d : Addr) (o : Obj) (Q : Value → Shared → Prop) (vs : List (Value × Value)) (s : Shared) : Prop :=
  ∃ h2 tk2 led1 led2, s = ⟨h2, gn, dr, tk2, oS⟩ ∧ Fr g L h2 m ∧ News g L h2 led1 ∧ Ds led1 ∧ Pick (d, o) led1 led2 ∧ allStrKeys vs = true ∧ ((strPairs vs).map (·.1)).Nodup ∧
    ∀ h' o', Fr g L h' m → News g L h' ((d, o') :: led2) → Ds ((d, o') :: led2) → o'.IsDictOf (PySem.strKind PR w) (strPairs vs) → Q (.ref d) ⟨h', gn, dr, tk2 + vs.length, oS⟩
def dict_T_S (keys : List (Option PySem.Expr)) (values : List PySem.Expr) (pos : Pos) (Q : Value → Shared → Prop) : Prop := ∀ (F : Fr h₀ L hp m) (N : News h₀ L hp led) (D : Ds led) (hbig : h₀.NoLimit) (hk : strLits keys = true) (hall : keys.all (·.isSome) = true) (hl : keys.length = values.length) (h0 : keys ≠ []) (hlen : keys.length ≤ 15) (h : ∀ d o h1, Fr h₀ L h1 m → News h₀ L h1 ((d, o) :: led) → Ds ((d, o) :: led) → wpAny (model PR w) A (evalPairs (pairTrees keys values env pos)) (DW w h₀ L m gn dr oS d o Q) E ⟨h1, gn, dr, tk, oS⟩), wpAny (model PR w) A (eval (.Dict keys values pos) env) Q E ⟨hp, gn, dr, tk, oS⟩
theorem dict_T_r : ∀ r : ((((((((((((((((World × Around) × (Value → Shared → Prop)) × Heap) × (Array GenState)) × Drawn) × Nat) × OsState) × Heap) × Addr) × (Str → Option Value)) × Led) × Env) × (List (Option PySem.Expr))) × (List PySem.Expr)) × Pos) × (Value → Shared → Prop)), @dict_T_S r.1.1.1.1.1.1.1.1.1.1.1.1.1.1.1.1 r.1.1.1.1.1.1.1.1.1.1.1.1.1.1.1.2 r.1.1.1.1.1.1.1.1.1.1.1.1.1.1.2 r.1.1.1.1.1.1.1.1.1.1.1.1.1.2 r.1.1.1.1.1.1.1.1.1.1.1.1.2 r.1.1.1.1.1.1.1.1.1.1.1.2 r.1.1.1.1.1.1.1.1.1.1.2 r.1.1.1.1.1.1.1.1.1.2 r.1.1.1.1.1.1.1.1.2 r.1.1.1.1.1.1.1.2 r.1.1.1.1.1.1.2 r.1.1.1.1.1.2 r.1.1.1.1.2 r.1.1.1.2 r.1.1.2 r.1.2 r.2 := by
  refine ep_all (ne := by walk_at "NE") ((?_ : ∀ w A E hp gn dr tk oS h₀ L m led env keys values pos Q, @dict_T_S w A E hp gn dr tk oS h₀ L m led env keys values pos Q) _ _ _ _ _ _ _ _ _ _ _ _ _ _ _ _ _)
  intro w A E hp gn dr tk oS h₀ L m led env keys values pos Q F N D hbig hk hall hl h0 hlen h
  refine Dict_made_str hk F hall hl h0 hlen fun F1 => ?_
  have N1 : News h₀ L (hp.push { cls := .type "dict", data := .dict #[] }) ((hp.objs.size, { cls := .type "dict", data := .dict #[] }) :: led) := News.push F N _
  have D1 : Ds ((hp.objs.size, ({ cls := .type "dict", data := .dict #[] } : Obj)) :: led) := D.cons (fun p hp => Nat.ne_of_lt (Heap.lt_size (N p hp).1)) (Nat.lt_trans (modules_low hbig) (Nat.lt_of_le_of_lt F.above F.ns.lt))
  have hd0 : (hp.push { cls := .type "dict", data := .dict #[] }).DictOf (PySem.strKind PR w) hp.objs.size [] := Heap.DictOf.new hp
  refine wpAny_mono (h _ _ _ F1 N1 D1) (fun vs s₁ hq => ?_) fun _ _ e => e
  obtain ⟨h2, tk2, led1, led2, rfl, F2, N2, D2, pk, ks, nd, k⟩ := hq
  have N3 := pk.news N2
  have D3 := pk.ds D2
  have hd2 : h2.DictOf (PySem.strKind PR w) hp.objs.size [] := by
    obtain ⟨o, ho, hd⟩ := Heap.dictOf_iff.mp hd0
    have e1 : o = { cls := .type "dict", data := .dict #[] } := by
      have := (N1 _ (.head _)).1
      rw [ho] at this; exact Option.some.inj this
    subst e1
    exact Heap.dictOf_iff.mpr ⟨_, (N3 _ (.head _)).1, hd⟩
  refine display_done_str ks nd hd2 fun h' hm hs => ?_
  obtain ⟨o, ho, hd⟩ := Heap.dictOf_iff.mp hm
  have z := N3 _ (.head _)
  exact k h' o (F2.change hs z.2.1 z.2.2) (news_set (pre := []) N3 (fun _ h => nomatch h) (fun p hp e => D3.off hp e.symm) hs ho) D3 hd
theorem dict_T {keys : List (Option Expr)} {values : List Expr} {pos : Pos} {Q : Value → Shared → Prop} (F : Fr h₀ L hp m) (N : News h₀ L hp led) (D : Ds led) (hbig : h₀.NoLimit)
    (hk : strLits keys = true) (hall : keys.all (·.isSome) = true) (hl : keys.length = values.length) (h0 : keys ≠ []) (hlen : keys.length ≤ 15)
    (h : ∀ d o h1, Fr h₀ L h1 m → News h₀ L h1 ((d, o) :: led) → Ds ((d, o) :: led) → wpAny (model PR w) A (evalPairs (pairTrees keys values env pos)) (DW w h₀ L m gn dr oS d o Q) E ⟨h1, gn, dr, tk, oS⟩) :
    wpAny (model PR w) A (eval (.Dict keys values pos) env) Q E ⟨hp, gn, dr, tk, oS⟩ := dict_T_r ((((((((((((((((w, A), E), hp), gn), dr), tk), oS), h₀), L), m), led), env), keys), values), pos), Q) F N D hbig hk hall hl h0 hlen h

def start_S (P : Pl) (news : Led) (odT odI : Obj) (es : List DictEntry) (n : Nat) (t1 t2 t3 u1 u2 u3 u4 u5 : Tok) (t0 f0 : Addr) : Prop := ∀ (S : Sta w P news) (hinj : ∀ k k', P.adr k = P.adr k' → k = k') (hlow : ∀ k, 1 < P.adr k) (m1 : (P.adr .hd, dictOf es n) ∈ news) (m2 : (P.adr .things, listOf #[] 0) ∈ news) (m3 : (P.adr .tab, odT) ∈ news) (m4 : (P.adr .itn, odI) ∈ news) (m5 : (P.adr .itv, listOf #[] 0) ∈ news) (m6 : (P.adr .thrown, listOf #[] 0) ∈ news) (m7 : (P.adr .texts, listOf #[.ref t0] 0) ∈ news) (m8 : (P.adr .facts, listOf #[.ref f0] 0) ∈ news) (hT : odT.IsDictOf (intKind PR w) []) (hI : odI.IsDictOf (PySem.strKind PR w) []) (he : es.length ≤ 50) (hr : es.any (·.refKey) = false) (hf : ∀ p ∈ [(("things" : Str), Value.ref (P.adr .things)), ("at", .ref (P.adr .tab)), ("top", .int 16 t1), ("fresh", .int 0 t2), ("made", .int 0 t3)], getL p.1 es = some (some p.2)) (i1 : Im P news t0 (tupOf [.int 4 u1, .int 0 u2])) (i2 : Im P news f0 (tupOf [.int 0 u3, .int 0 u4])), Hs w P [] ⟨[(t0, 0, none)], [], 0, [(0, 0)]⟩ news []
theorem start_r : ∀ r : ((((((((((((((((World × Pl) × Led) × Obj) × Obj) × (List DictEntry)) × Nat) × Tok) × Tok) × Tok) × Tok) × Tok) × Tok) × Tok) × Tok) × Addr) × Addr), @start_S r.1.1.1.1.1.1.1.1.1.1.1.1.1.1.1.1 r.1.1.1.1.1.1.1.1.1.1.1.1.1.1.1.2 r.1.1.1.1.1.1.1.1.1.1.1.1.1.1.2 r.1.1.1.1.1.1.1.1.1.1.1.1.1.2 r.1.1.1.1.1.1.1.1.1.1.1.1.2 r.1.1.1.1.1.1.1.1.1.1.1.2 r.1.1.1.1.1.1.1.1.1.1.2 r.1.1.1.1.1.1.1.1.1.2 r.1.1.1.1.1.1.1.1.2 r.1.1.1.1.1.1.1.2 r.1.1.1.1.1.1.2 r.1.1.1.1.1.2 r.1.1.1.1.2 r.1.1.1.2 r.1.1.2 r.1.2 r.2 := by
  refine ep_all (ne := by walk_at "NE") ((?_ : ∀ w P news odT odI es n t1 t2 t3 u1 u2 u3 u4 u5 t0 f0, @start_S w P news odT odI es n t1 t2 t3 u1 u2 u3 u4 u5 t0 f0) _ _ _ _ _ _ _ _ _ _ _ _ _ _ _ _ _)
  intro w P news odT odI es n t1 t2 t3 u1 u2 u3 u4 u5 t0 f0 S hinj hlow m1 m2 m3 m4 m5 m6 m7 m8 hT hI he hr hf i1 i2
  refine ⟨⟨16, 0, 0, 0, [], [], [], [], [.ref t0], [.ref f0]⟩, [], fun _ => none, ⟨hinj, fun k => beq_eq_false_iff_ne.mpr (Nat.ne_of_gt (hlow k)), S, ?_, fun _ h => nomatch h⟩, ?_, ?_, fun _ h => nomatch h⟩
  · intro k
    cases k
    · exact ⟨_, m1, es, n, t1, t2, t3, rfl, he, hr, hf _ (.head _), hf _ (.tail _ (.head _)), hf _ (.tail _ (.tail _ (.head _))), hf _ (.tail _ (.tail _ (.tail _ (.head _)))), hf _ (.tail _ (.tail _ (.tail _ (.tail _ (.head _)))))⟩
    · exact ⟨_, m2, _, _, rfl, rfl⟩
    · exact ⟨_, m3, hT⟩
    · exact ⟨_, m4, hI⟩
    · exact ⟨_, m5, _, rfl⟩
    · exact ⟨_, m6, _, rfl⟩
    · exact ⟨_, m7, _, rfl⟩
    · exact ⟨_, m8, _, rfl⟩
  · exact ⟨rfl, rfl, rfl, rfl, Nat.le_refl _, (fun i s h => by simp at h), rfl, ⟨Nat.le_refl _, Nat.le_refl _⟩, fun s => .inl ⟨rfl, rfl⟩⟩
  · refine ⟨Nat.le_refl _, .nil, rfl, fun x hx => ?_, rfl, fun i x hx => ?_⟩
    · rw [List.mem_singleton.mp hx]
      exact ⟨⟨u1, u2, i1⟩, .inl ⟨rfl, rfl⟩⟩
    · cases i with
      | zero => simp at hx; subst hx; exact ⟨f0, u3, u4, rfl, i2⟩
      | succ i => simp at hx
theorem start {P : Pl} {news : Led} {odT odI : Obj} {es : List DictEntry} {n : Nat} {t1 t2 t3 u1 u2 u3 u4 u5 : Tok} {t0 f0 : Addr} (S : Sta w P news) (hinj : ∀ k k', P.adr k = P.adr k' → k = k')
    (hlow : ∀ k, 1 < P.adr k) (m1 : (P.adr .hd, dictOf es n) ∈ news) (m2 : (P.adr .things, listOf #[] 0) ∈ news) (m3 : (P.adr .tab, odT) ∈ news) (m4 : (P.adr .itn, odI) ∈ news) (m5 : (P.adr .itv, listOf #[] 0) ∈ news) (m6 : (P.adr .thrown, listOf #[] 0) ∈ news)
    (m7 : (P.adr .texts, listOf #[.ref t0] 0) ∈ news) (m8 : (P.adr .facts, listOf #[.ref f0] 0) ∈ news) (hT : odT.IsDictOf (intKind PR w) []) (hI : odI.IsDictOf (PySem.strKind PR w) [])
    (he : es.length ≤ 50) (hr : es.any (·.refKey) = false) (hf : ∀ p ∈ [(("things" : Str), Value.ref (P.adr .things)), ("at", .ref (P.adr .tab)), ("top", .int 16 t1), ("fresh", .int 0 t2), ("made", .int 0 t3)], getL p.1 es = some (some p.2))
    (i1 : Im P news t0 (tupOf [.int 4 u1, .int 0 u2])) (i2 : Im P news f0 (tupOf [.int 0 u3, .int 0 u4])) :
    Hs w P [] ⟨[(t0, 0, none)], [], 0, [(0, 0)]⟩ news [] := start_r ((((((((((((((((w, P), news), odT), odI), es), n), t1), t2), t3), u1), u2), u3), u4), u5), t0), f0) S hinj hlow m1 m2 m3 m4 m5 m6 m7 m8 hT hI he hr hf i1 i2

theorem slc_T {value slice : Expr} {l : Addr} {vs : List Value} {us : List Int} {u : Tok} {Q : Value → Shared → Prop} (F : Fr h₀ L hp m) (N : News h₀ L hp led) (D : Ds led) (hbig : h₀.NoLimit) (hl : hp.IsList l vs.toArray) (hu : IntsAre vs us) (hz : us.length ≤ 1000)
    (h : ∀ l' vs' h', Fr h₀ L h' m → News h₀ L h' ((l', listOf vs'.toArray 0) :: led) → Ds ((l', listOf vs'.toArray 0) :: led) → IntsAre vs' (us.take 14) → Q (.ref l') ⟨h', gn, dr, tk, oS⟩)
    (hs : subscripted slice false (.ref l) (.ref hp.objs.size) = operate [.ref hp.objs.size, .ref l] (getItem (.ref l) (.ref hp.objs.size))) (ht : ∀ r, letTemporaryGo value (.ref l) r = pure ()) :
    wpAny (model PR w) A (subscriptTail value slice (.ref l) (.ref hp.objs.size)) Q E ⟨hp.push { cls := .type "slice", data := .fields #[.none, .int 14 u, .none] }, gn, dr, tk, oS⟩ := by
  have hvl := hu.length
  refine slice_list (s := ⟨hp, gn, dr, tk, oS⟩) (lo := none) (hi := some 14) F N hl .none (.int 14 u) (fun h' F' N' => ?_) hs ht (by rw [sizeLine_eq, List.size_toArray]; lia)
  have e : (slicePick vs.toArray none (some 14) none) = (slicePick vs.toArray none (some 14) none).toList.toArray := by simp
  rw [e] at N'
  exact h _ _ h' F' N' (D.cons (fun p hp => Nat.ne_of_lt (Nat.lt_succ_of_lt (Heap.lt_size (N p hp).1))) (Nat.lt_succ_of_lt (Nat.lt_trans (modules_low hbig) (Nat.lt_of_le_of_lt F.above F.ns.lt)))) (slice_ints_uptoW hu (by decide))
def Fin1 (g : Heap) (L : Addr) (gn : Array GenState) (dr : Drawn) (oS : OsState) (fl : Flow) (s : Shared) : Prop := fl = .ret (.bool true) ∧ ∃ h tk m led, s = ⟨h, gn, dr, tk, oS⟩ ∧ Fr g L h m ∧ News g L h led
theorem law_go {s : Shared} {h : Heap} {l fa : Addr} {vs : List Value} {us : List Int} {p : Program} {loose : List Str} {mean : ExcName → Option Value} {mg mb : Str → Option Value} {nm : Str} {scope : Scope} {cd : Value} {t : Sem Flow} {Q : Flow → Shared → Prop} {E : Value → Shared → Prop} {tk0 : Nat}
    (KX : (hd.heap_1 w.params).In s.heap) (T : Top p loose mean mg mb s.heap) (hL : s.heap.IsList l vs.toArray) (hI : IntsAre vs us) (hlen : us.length ≤ 63) (F : Fr s.heap s.heap.objs.size h (fun x => List.lookup x [(("script" : Str), Value.ref l)].reverse)) (N : News s.heap s.heap.objs.size h [])
    (gs : List Str) (hS : fnOk scope ["script", "m", "w", "units", "t", "n", "i"] gs = true)
    (post : ∀ h' tk' m' led', Fr s.heap s.heap.objs.size h' m' → News s.heap s.heap.objs.size h' led' → Q (.ret (.bool true)) ⟨h', gn, dr, tk', oS⟩)
    (k : Fn scope ["script", "m", "w", "units", "t", "n", "i"] gs → Ok w (callerA.deeper (envOf nm scope s.heap.objs.size fa cd)) s.heap s.heap.objs.size 40 → (hd.heap_1 w.params).In s.heap → Top p loose mean mg mb s.heap → h.IsList l vs.toArray → IntsAre vs us → us.length ≤ 63 →
      Fr s.heap s.heap.objs.size h (lc ["script", "m", "w", "units", "t", "n", "i"] [some (.ref l), none, none, none, none, none, none]) → News s.heap s.heap.objs.size h [] → wpAny (model PR w) (callerA.deeper (envOf nm scope s.heap.objs.size fa cd)) t (Fin1 s.heap s.heap.objs.size gn dr oS) (fun _ _ => False) ⟨h, gn, dr, tk0, oS⟩) :
    wpAny (model PR w) (callerA.deeper (envOf nm scope s.heap.objs.size fa cd)) t Q E ⟨h, gn, dr, tk0, oS⟩ := by
  refine wpAny_mono (E := fun _ _ => False) (Q := Fin1 s.heap s.heap.objs.size gn dr oS) ?_ (fun fl s' hq => by obtain ⟨rfl, h', tk', m', led', rfl, F', N'⟩ := hq; exact post h' tk' m' led' F' N') fun _ _ x => False.elim x
  refine k (Fn.of hS) ⟨⟨callerA, s.heap, [], envOf nm scope s.heap.objs.size fa cd, below_caller s.heap, rfl, rfl, (Fn.of hS).kind⟩, ?_, ?_, rfl, KX, ⟨_, _, _, _, _, T⟩⟩ KX T (hL.at fun o e => F.keep l o e) hI hlen ?_ N
  · show 301 + 1 + 40 < 1000
    lia
  · show 4 + 3 + 8 * 40 < 9900
    lia
  · have e := lc_binds ["script"] [.ref l] ["m", "w", "units", "t", "n", "i"] (by decide) rfl
    have F' : Fr s.heap s.heap.objs.size h (fun y => ((["script"] : List Str).zip [Value.ref l]).reverse.lookup y) := F
    rw [e] at F'
    exact F'
end
end Mine
end U5_
namespace Mine
section XU5_

def LawEnt (scope : Scope) (body : List Stmt) (gs : List Str) (w : World) (gn : Array GenState) (dr : Drawn) (oS : OsState) (g : Heap) (h : Heap) (l : Addr) (fa : Addr) (vs : List Value) (us : List Int) (p : Program) (loose : List Str) (mean : ExcName → Option Value) (mg : Str → Option Value) (mb : Str → Option Value) (nm : Str) (cd : Value) (tk0 : Nat) : Prop := Fn scope ["script", "m", "w", "units", "t", "n", "i"] gs → Ok w (callerA.deeper (envOf nm scope g.objs.size fa cd)) g g.objs.size 40 → (hd.heap_1 w.params).In g → Top p loose mean mg mb g → h.IsList l vs.toArray → IntsAre vs us → us.length ≤ 63 →
      Fr g g.objs.size h (lc ["script", "m", "w", "units", "t", "n", "i"] [some (.ref l), none, none, none, none, none, none]) → News g g.objs.size h [] → wpAny (model PR w) (callerA.deeper (envOf nm scope g.objs.size fa cd)) (execs body (envOf nm scope g.objs.size fa cd)) (Fin1 g g.objs.size gn dr oS) (fun _ _ => False) ⟨h, gn, dr, tk0, oS⟩
def LawAll (scope : Scope) (body : List Stmt) (gs : List Str) : Prop := ∀ w gn dr oS g h l fa vs us p loose mean mg mb nm cd tk0, LawEnt scope body gs w gn dr oS g h l fa vs us p loose mean mg mb nm cd tk0
theorem neL : Nonempty (((((((((((((((((World × (Array GenState)) × Drawn) × OsState) × Heap) × Heap) × Addr) × Addr) × (List Value)) × (List Int)) × Program) × (List Str)) × (ExcName → Option Value)) × (Str → Option Value)) × (Str → Option Value)) × Str) × Value) × Nat) := by walk_at "NE"
noncomputable def epL (scope : Scope) (body : List Stmt) (gs : List Str) : (((((((((((((((((World × (Array GenState)) × Drawn) × OsState) × Heap) × Heap) × Addr) × Addr) × (List Value)) × (List Int)) × Program) × (List Str)) × (ExcName → Option Value)) × (Str → Option Value)) × (Str → Option Value)) × Str) × Value) × Nat) := ep neL fun r => LawEnt scope body gs r.1.1.1.1.1.1.1.1.1.1.1.1.1.1.1.1.1 r.1.1.1.1.1.1.1.1.1.1.1.1.1.1.1.1.2 r.1.1.1.1.1.1.1.1.1.1.1.1.1.1.1.2 r.1.1.1.1.1.1.1.1.1.1.1.1.1.1.2 r.1.1.1.1.1.1.1.1.1.1.1.1.1.2 r.1.1.1.1.1.1.1.1.1.1.1.1.2 r.1.1.1.1.1.1.1.1.1.1.1.2 r.1.1.1.1.1.1.1.1.1.1.2 r.1.1.1.1.1.1.1.1.1.2 r.1.1.1.1.1.1.1.1.2 r.1.1.1.1.1.1.1.2 r.1.1.1.1.1.1.2 r.1.1.1.1.1.2 r.1.1.1.1.2 r.1.1.1.2 r.1.1.2 r.1.2 r.2
theorem law_goE {w : World} {gn : Array GenState} {dr : Drawn} {oS : OsState} {s : Shared} {h : Heap} {l fa : Addr} {vs : List Value} {us : List Int} {p : Program} {loose : List Str} {mean : ExcName → Option Value} {mg mb : Str → Option Value} {nm : Str} {scope : Scope} {cd : Value} {body : List Stmt} {Q : Flow → Shared → Prop} {E : Value → Shared → Prop} {tk0 : Nat}
    (KX : (hd.heap_1 w.params).In s.heap) (T : Top p loose mean mg mb s.heap) (hL : s.heap.IsList l vs.toArray) (hI : IntsAre vs us) (hlen : us.length ≤ 63) (F : Fr s.heap s.heap.objs.size h (fun x => List.lookup x [(("script" : Str), Value.ref l)].reverse)) (N : News s.heap s.heap.objs.size h [])
    (gs : List Str) (hS : fnOk scope ["script", "m", "w", "units", "t", "n", "i"] gs = true)
    (post : ∀ h' tk' m' led', Fr s.heap s.heap.objs.size h' m' → News s.heap s.heap.objs.size h' led' → Q (.ret (.bool true)) ⟨h', gn, dr, tk', oS⟩)
    (k : LawEnt scope body gs (epL scope body gs).1.1.1.1.1.1.1.1.1.1.1.1.1.1.1.1.1 (epL scope body gs).1.1.1.1.1.1.1.1.1.1.1.1.1.1.1.1.2 (epL scope body gs).1.1.1.1.1.1.1.1.1.1.1.1.1.1.1.2 (epL scope body gs).1.1.1.1.1.1.1.1.1.1.1.1.1.1.2 (epL scope body gs).1.1.1.1.1.1.1.1.1.1.1.1.1.2 (epL scope body gs).1.1.1.1.1.1.1.1.1.1.1.1.2 (epL scope body gs).1.1.1.1.1.1.1.1.1.1.1.2 (epL scope body gs).1.1.1.1.1.1.1.1.1.1.2 (epL scope body gs).1.1.1.1.1.1.1.1.1.2 (epL scope body gs).1.1.1.1.1.1.1.1.2 (epL scope body gs).1.1.1.1.1.1.1.2 (epL scope body gs).1.1.1.1.1.1.2 (epL scope body gs).1.1.1.1.1.2 (epL scope body gs).1.1.1.1.2 (epL scope body gs).1.1.1.2 (epL scope body gs).1.1.2 (epL scope body gs).1.2 (epL scope body gs).2) :
    wpAny (model PR w) (callerA.deeper (envOf nm scope s.heap.objs.size fa cd)) (execs body (envOf nm scope s.heap.objs.size fa cd)) Q E ⟨h, gn, dr, tk0, oS⟩ :=
  law_go KX T hL hI hlen F N gs hS post (ep_all (K := fun r : (((((((((((((((((World × (Array GenState)) × Drawn) × OsState) × Heap) × Heap) × Addr) × Addr) × (List Value)) × (List Int)) × Program) × (List Str)) × (ExcName → Option Value)) × (Str → Option Value)) × (Str → Option Value)) × Str) × Value) × Nat) => LawEnt scope body gs r.1.1.1.1.1.1.1.1.1.1.1.1.1.1.1.1.1 r.1.1.1.1.1.1.1.1.1.1.1.1.1.1.1.1.2 r.1.1.1.1.1.1.1.1.1.1.1.1.1.1.1.2 r.1.1.1.1.1.1.1.1.1.1.1.1.1.1.2 r.1.1.1.1.1.1.1.1.1.1.1.1.1.2 r.1.1.1.1.1.1.1.1.1.1.1.1.2 r.1.1.1.1.1.1.1.1.1.1.1.2 r.1.1.1.1.1.1.1.1.1.1.2 r.1.1.1.1.1.1.1.1.1.2 r.1.1.1.1.1.1.1.1.2 r.1.1.1.1.1.1.1.2 r.1.1.1.1.1.1.2 r.1.1.1.1.1.2 r.1.1.1.1.2 r.1.1.1.2 r.1.1.2 r.1.2 r.2) k (((((((((((((((((w, gn), dr), oS), s.heap), h), l), fa), vs), us), p), loose), mean), mg), mb), nm), cd), tk0))
def MidEnt (w : World) (A : Around) (gn : Array GenState) (dr : Drawn) (oS : OsState) (g : Heap) (L : Addr) (env : Env) (body : List Stmt) (Q : Flow → Shared → Prop) (us : List Int) (sl : Addr) (vs : List Value) (h : Heap) (P : Pl) (news : Led) (tk : Nat) (a0 : Addr) : Prop := IntsAre vs us → Fr g L h (lc ["script", "m", "w", "units", "t", "n", "i"] [some (.ref sl), some (.ref P.m), some (.ref P.w), none, none, none, none]) → News g L h ([] ++ news) → Hs w P [] ⟨[(a0, 0, none)], [], 0, [(0, 0)]⟩ news [Fact.ent sl (listOf vs.toArray 0)] →
      wpAny (model PR w) A (execs body env) Q (fun _ _ => False) ⟨h, gn, dr, tk, oS⟩
def MidAll (w : World) (A : Around) (gn : Array GenState) (dr : Drawn) (oS : OsState) (g : Heap) (L : Addr) (env : Env) (body : List Stmt) (Q : Flow → Shared → Prop) (us : List Int) : Prop := ∀ sl vs h P news tk a0, MidEnt w A gn dr oS g L env body Q us sl vs h P news tk a0
theorem neMid : Nonempty ((((((Addr × (List Value)) × Heap) × Pl) × Led) × Nat) × Addr) := by walk_at "NE"
noncomputable def epM (w : World) (A : Around) (gn : Array GenState) (dr : Drawn) (oS : OsState) (g : Heap) (L : Addr) (env : Env) (body : List Stmt) (Q : Flow → Shared → Prop) (us : List Int) : ((((((Addr × (List Value)) × Heap) × Pl) × Led) × Nat) × Addr) := ep neMid fun r => MidEnt w A gn dr oS g L env body Q us r.1.1.1.1.1.1 r.1.1.1.1.1.2 r.1.1.1.1.2 r.1.1.1.2 r.1.1.2 r.1.2 r.2
theorem mid_use {w : World} {A : Around} {gn : Array GenState} {dr : Drawn} {oS : OsState} {g : Heap} {L : Addr} {env : Env} {body : List Stmt} {Q : Flow → Shared → Prop} {us : List Int} {sl : Addr} {vs : List Value} {h : Heap} {P : Pl} {news : Led} {tk : Nat} {a0 : Addr} (hyp : MidEnt w A gn dr oS g L env body Q us (epM w A gn dr oS g L env body Q us).1.1.1.1.1.1 (epM w A gn dr oS g L env body Q us).1.1.1.1.1.2 (epM w A gn dr oS g L env body Q us).1.1.1.1.2 (epM w A gn dr oS g L env body Q us).1.1.1.2 (epM w A gn dr oS g L env body Q us).1.1.2 (epM w A gn dr oS g L env body Q us).1.2 (epM w A gn dr oS g L env body Q us).2) (hv : IntsAre vs us) (F : Fr g L h (lc ["script", "m", "w", "units", "t", "n", "i"] [some (.ref sl), some (.ref P.m), some (.ref P.w), none, none, none, none])) (N : News g L h ([] ++ news)) (H : Hs w P [] ⟨[(a0, 0, none)], [], 0, [(0, 0)]⟩ news [Fact.ent sl (listOf vs.toArray 0)]) :
    wpAny (model PR w) A (execs body env) Q (fun _ _ => False) ⟨h, gn, dr, tk, oS⟩ := ep_all (K := fun r : ((((((Addr × (List Value)) × Heap) × Pl) × Led) × Nat) × Addr) => MidEnt w A gn dr oS g L env body Q us r.1.1.1.1.1.1 r.1.1.1.1.1.2 r.1.1.1.1.2 r.1.1.1.2 r.1.1.2 r.1.2 r.2) hyp ((((((sl, vs), h), P), news), tk), a0) hv F N H
end XU5_
end Mine
section U6_
namespace Mine
def mkP (wd x hx nat told bad sw i1 i2 i3 i4 i5 i6 i7 i8 i9 hdx th tab itn itv thr tx fx : Addr) : Pl := ⟨wd, x, hx, nat, told, bad, sw, fun k => match k with | 1 => i1 | 2 => i2 | 3 => i3 | 4 => i4 | 5 => i5 | 6 => i6 | 7 => i7 | 8 => i8 | _ => i9, fun k => match k with | .hd => hdx | .things => th | .tab => tab | .itn => itn | .itv => itv | .thrown => thr | .texts => tx | .facts => fx⟩
theorem Ds.subl' {l l' : Led} (D : Ds l) (s : List.Sublist l' l) : Ds l' := ⟨List.Pairwise.sublist (s.map _) D.1, fun a h => D.2 a ((s.map _).subset h)⟩
def build_S (w : World) (wd bad fx f0 tx t0 nat x i9 d9 i8 d8 i7 d7 i6 d6 i5 d5 i4 d4 i3 d3 i2 d2 i1 d1 dx sw dsw itv itn thr told hx hdx tab th bx bdx sl : Addr) (wo on oi oT : Obj) (es hes bes : List DictEntry) (n hn bn : Nat) (vs : List Value) (u1 u2 u3 u4 ht1 ht2 ht3 stt : Tok) : Prop := ∀ (D : Ds [(wd, wo), (bad, listOf #[] 0), (fx, listOf #[.ref f0] 0), (f0, tupOf [.int 0 u3, .int 0 u4]), (tx, listOf #[.ref t0] 0), (t0, tupOf [.int 4 u1, .int 0 u2]), (nat, on), (x, instObj 447 dx), (i9, instObj 730 d9), (d9, dictOf [] 0), (i8, instObj 711 d8), (d8, dictOf [] 0), (i7, instObj 692 d7), (d7, dictOf [] 0), (i6, instObj 673 d6), (d6, dictOf [] 0), (i5, instObj 654 d5), (d5, dictOf [] 0), (i4, instObj 635 d4), (d4, dictOf [] 0), (i3, instObj 616 d3), (d3, dictOf [] 0), (i2, instObj 597 d2), (d2, dictOf [] 0), (i1, instObj 578 d1), (d1, dictOf [] 0), (dx, dictOf es n), (sw, instObj 223 dsw), (dsw, dictOf [] 0), (itv, listOf #[] 0), (itn, oi), (thr, listOf #[] 0), (told, listOf #[] 0), (hx, instObj 117 hdx), (hdx, dictOf hes hn), (tab, oT), (th, listOf #[] 0), (bx, instObj 798 bdx), (bdx, dictOf bes bn), (sl, listOf vs.toArray 0)]) (hwd : wo.IsDictOf (PySem.strKind PR w) [("m", .ref x), ("texts", .ref tx), ("facts", .ref fx), ("bad", .ref bad)]) (hnat : on.IsDictOf (intKind PR w) [(1, .ref i1), (2, .ref i2), (3, .ref i3), (4, .ref i4), (5, .ref i5), (6, .ref i6), (7, .ref i7), (8, .ref i8), (9, .ref i9)]) (hoi : oi.IsDictOf (PySem.strKind PR w) []) (hoT : oT.IsDictOf (intKind PR w) []) (hel : hes.length ≤ 50) (her : hes.any (·.refKey) = false) (hef : ∀ p ∈ [(("things" : Str), Value.ref th), ("at", .ref tab), ("top", .int 16 ht1), ("fresh", .int 0 ht2), ("made", .int 0 ht3)], getL p.1 hes = some (some p.2)) (hsf : ∀ p ∈ [(("heap" : Str), Value.ref hx), ("natives", .ref nat), ("thrown", .ref thr), ("told", .ref told), ("interned", .ref itn), ("internv", .ref itv), ("sweeper", .ref sw), ("state", .int 0 stt)], getL p.1 es = some (some p.2)) (hno : ∀ k ∈ [("alloc" : Str), "text_of", "text_ref", "new_text", "throw_new"], getL k es = some none), Hs w (mkP wd x hx nat told bad sw i1 i2 i3 i4 i5 i6 i7 i8 i9 hdx th tab itn itv thr tx fx) [] ⟨[(t0, 0, none)], [], 0, [(0, 0)]⟩ [(wd, wo), (bad, listOf #[] 0), (fx, listOf #[.ref f0] 0), (f0, tupOf [.int 0 u3, .int 0 u4]), (tx, listOf #[.ref t0] 0), (t0, tupOf [.int 4 u1, .int 0 u2]), (nat, on), (x, instObj 447 dx), (i9, instObj 730 d9), (d9, dictOf [] 0), (i8, instObj 711 d8), (d8, dictOf [] 0), (i7, instObj 692 d7), (d7, dictOf [] 0), (i6, instObj 673 d6), (d6, dictOf [] 0), (i5, instObj 654 d5), (d5, dictOf [] 0), (i4, instObj 635 d4), (d4, dictOf [] 0), (i3, instObj 616 d3), (d3, dictOf [] 0), (i2, instObj 597 d2), (d2, dictOf [] 0), (i1, instObj 578 d1), (d1, dictOf [] 0), (dx, dictOf es n), (sw, instObj 223 dsw), (dsw, dictOf [] 0), (itv, listOf #[] 0), (itn, oi), (thr, listOf #[] 0), (told, listOf #[] 0), (hx, instObj 117 hdx), (hdx, dictOf hes hn), (tab, oT), (th, listOf #[] 0), (bx, instObj 798 bdx), (bdx, dictOf bes bn), (sl, listOf vs.toArray 0)] [.ent sl (listOf vs.toArray 0)]
theorem build_r : ∀ r : (((((((((((((((((((((((((((((((((((((((((((((((((((((((((((World × Addr) × Addr) × Addr) × Addr) × Addr) × Addr) × Addr) × Addr) × Addr) × Addr) × Addr) × Addr) × Addr) × Addr) × Addr) × Addr) × Addr) × Addr) × Addr) × Addr) × Addr) × Addr) × Addr) × Addr) × Addr) × Addr) × Addr) × Addr) × Addr) × Addr) × Addr) × Addr) × Addr) × Addr) × Addr) × Addr) × Addr) × Addr) × Addr) × Addr) × Obj) × Obj) × Obj) × Obj) × (List DictEntry)) × (List DictEntry)) × (List DictEntry)) × Nat) × Nat) × Nat) × (List Value)) × Tok) × Tok) × Tok) × Tok) × Tok) × Tok) × Tok) × Tok), @build_S r.1.1.1.1.1.1.1.1.1.1.1.1.1.1.1.1.1.1.1.1.1.1.1.1.1.1.1.1.1.1.1.1.1.1.1.1.1.1.1.1.1.1.1.1.1.1.1.1.1.1.1.1.1.1.1.1.1.1.1 r.1.1.1.1.1.1.1.1.1.1.1.1.1.1.1.1.1.1.1.1.1.1.1.1.1.1.1.1.1.1.1.1.1.1.1.1.1.1.1.1.1.1.1.1.1.1.1.1.1.1.1.1.1.1.1.1.1.1.2 r.1.1.1.1.1.1.1.1.1.1.1.1.1.1.1.1.1.1.1.1.1.1.1.1.1.1.1.1.1.1.1.1.1.1.1.1.1.1.1.1.1.1.1.1.1.1.1.1.1.1.1.1.1.1.1.1.1.2 r.1.1.1.1.1.1.1.1.1.1.1.1.1.1.1.1.1.1.1.1.1.1.1.1.1.1.1.1.1.1.1.1.1.1.1.1.1.1.1.1.1.1.1.1.1.1.1.1.1.1.1.1.1.1.1.1.2 r.1.1.1.1.1.1.1.1.1.1.1.1.1.1.1.1.1.1.1.1.1.1.1.1.1.1.1.1.1.1.1.1.1.1.1.1.1.1.1.1.1.1.1.1.1.1.1.1.1.1.1.1.1.1.1.2 r.1.1.1.1.1.1.1.1.1.1.1.1.1.1.1.1.1.1.1.1.1.1.1.1.1.1.1.1.1.1.1.1.1.1.1.1.1.1.1.1.1.1.1.1.1.1.1.1.1.1.1.1.1.1.2 r.1.1.1.1.1.1.1.1.1.1.1.1.1.1.1.1.1.1.1.1.1.1.1.1.1.1.1.1.1.1.1.1.1.1.1.1.1.1.1.1.1.1.1.1.1.1.1.1.1.1.1.1.1.2 r.1.1.1.1.1.1.1.1.1.1.1.1.1.1.1.1.1.1.1.1.1.1.1.1.1.1.1.1.1.1.1.1.1.1.1.1.1.1.1.1.1.1.1.1.1.1.1.1.1.1.1.1.2 r.1.1.1.1.1.1.1.1.1.1.1.1.1.1.1.1.1.1.1.1.1.1.1.1.1.1.1.1.1.1.1.1.1.1.1.1.1.1.1.1.1.1.1.1.1.1.1.1.1.1.1.2 r.1.1.1.1.1.1.1.1.1.1.1.1.1.1.1.1.1.1.1.1.1.1.1.1.1.1.1.1.1.1.1.1.1.1.1.1.1.1.1.1.1.1.1.1.1.1.1.1.1.1.2 r.1.1.1.1.1.1.1.1.1.1.1.1.1.1.1.1.1.1.1.1.1.1.1.1.1.1.1.1.1.1.1.1.1.1.1.1.1.1.1.1.1.1.1.1.1.1.1.1.1.2 r.1.1.1.1.1.1.1.1.1.1.1.1.1.1.1.1.1.1.1.1.1.1.1.1.1.1.1.1.1.1.1.1.1.1.1.1.1.1.1.1.1.1.1.1.1.1.1.1.2 r.1.1.1.1.1.1.1.1.1.1.1.1.1.1.1.1.1.1.1.1.1.1.1.1.1.1.1.1.1.1.1.1.1.1.1.1.1.1.1.1.1.1.1.1.1.1.1.2 r.1.1.1.1.1.1.1.1.1.1.1.1.1.1.1.1.1.1.1.1.1.1.1.1.1.1.1.1.1.1.1.1.1.1.1.1.1.1.1.1.1.1.1.1.1.1.2 r.1.1.1.1.1.1.1.1.1.1.1.1.1.1.1.1.1.1.1.1.1.1.1.1.1.1.1.1.1.1.1.1.1.1.1.1.1.1.1.1.1.1.1.1.1.2 r.1.1.1.1.1.1.1.1.1.1.1.1.1.1.1.1.1.1.1.1.1.1.1.1.1.1.1.1.1.1.1.1.1.1.1.1.1.1.1.1.1.1.1.1.2 r.1.1.1.1.1.1.1.1.1.1.1.1.1.1.1.1.1.1.1.1.1.1.1.1.1.1.1.1.1.1.1.1.1.1.1.1.1.1.1.1.1.1.1.2 r.1.1.1.1.1.1.1.1.1.1.1.1.1.1.1.1.1.1.1.1.1.1.1.1.1.1.1.1.1.1.1.1.1.1.1.1.1.1.1.1.1.1.2 r.1.1.1.1.1.1.1.1.1.1.1.1.1.1.1.1.1.1.1.1.1.1.1.1.1.1.1.1.1.1.1.1.1.1.1.1.1.1.1.1.1.2 r.1.1.1.1.1.1.1.1.1.1.1.1.1.1.1.1.1.1.1.1.1.1.1.1.1.1.1.1.1.1.1.1.1.1.1.1.1.1.1.1.2 r.1.1.1.1.1.1.1.1.1.1.1.1.1.1.1.1.1.1.1.1.1.1.1.1.1.1.1.1.1.1.1.1.1.1.1.1.1.1.1.2 r.1.1.1.1.1.1.1.1.1.1.1.1.1.1.1.1.1.1.1.1.1.1.1.1.1.1.1.1.1.1.1.1.1.1.1.1.1.1.2 r.1.1.1.1.1.1.1.1.1.1.1.1.1.1.1.1.1.1.1.1.1.1.1.1.1.1.1.1.1.1.1.1.1.1.1.1.1.2 r.1.1.1.1.1.1.1.1.1.1.1.1.1.1.1.1.1.1.1.1.1.1.1.1.1.1.1.1.1.1.1.1.1.1.1.1.2 r.1.1.1.1.1.1.1.1.1.1.1.1.1.1.1.1.1.1.1.1.1.1.1.1.1.1.1.1.1.1.1.1.1.1.1.2 r.1.1.1.1.1.1.1.1.1.1.1.1.1.1.1.1.1.1.1.1.1.1.1.1.1.1.1.1.1.1.1.1.1.1.2 r.1.1.1.1.1.1.1.1.1.1.1.1.1.1.1.1.1.1.1.1.1.1.1.1.1.1.1.1.1.1.1.1.1.2 r.1.1.1.1.1.1.1.1.1.1.1.1.1.1.1.1.1.1.1.1.1.1.1.1.1.1.1.1.1.1.1.1.2 r.1.1.1.1.1.1.1.1.1.1.1.1.1.1.1.1.1.1.1.1.1.1.1.1.1.1.1.1.1.1.1.2 r.1.1.1.1.1.1.1.1.1.1.1.1.1.1.1.1.1.1.1.1.1.1.1.1.1.1.1.1.1.1.2 r.1.1.1.1.1.1.1.1.1.1.1.1.1.1.1.1.1.1.1.1.1.1.1.1.1.1.1.1.1.2 r.1.1.1.1.1.1.1.1.1.1.1.1.1.1.1.1.1.1.1.1.1.1.1.1.1.1.1.1.2 r.1.1.1.1.1.1.1.1.1.1.1.1.1.1.1.1.1.1.1.1.1.1.1.1.1.1.1.2 r.1.1.1.1.1.1.1.1.1.1.1.1.1.1.1.1.1.1.1.1.1.1.1.1.1.1.2 r.1.1.1.1.1.1.1.1.1.1.1.1.1.1.1.1.1.1.1.1.1.1.1.1.1.2 r.1.1.1.1.1.1.1.1.1.1.1.1.1.1.1.1.1.1.1.1.1.1.1.1.2 r.1.1.1.1.1.1.1.1.1.1.1.1.1.1.1.1.1.1.1.1.1.1.1.2 r.1.1.1.1.1.1.1.1.1.1.1.1.1.1.1.1.1.1.1.1.1.1.2 r.1.1.1.1.1.1.1.1.1.1.1.1.1.1.1.1.1.1.1.1.1.2 r.1.1.1.1.1.1.1.1.1.1.1.1.1.1.1.1.1.1.1.1.2 r.1.1.1.1.1.1.1.1.1.1.1.1.1.1.1.1.1.1.1.2 r.1.1.1.1.1.1.1.1.1.1.1.1.1.1.1.1.1.1.2 r.1.1.1.1.1.1.1.1.1.1.1.1.1.1.1.1.1.2 r.1.1.1.1.1.1.1.1.1.1.1.1.1.1.1.1.2 r.1.1.1.1.1.1.1.1.1.1.1.1.1.1.1.2 r.1.1.1.1.1.1.1.1.1.1.1.1.1.1.2 r.1.1.1.1.1.1.1.1.1.1.1.1.1.2 r.1.1.1.1.1.1.1.1.1.1.1.1.2 r.1.1.1.1.1.1.1.1.1.1.1.2 r.1.1.1.1.1.1.1.1.1.1.2 r.1.1.1.1.1.1.1.1.1.2 r.1.1.1.1.1.1.1.1.2 r.1.1.1.1.1.1.1.2 r.1.1.1.1.1.1.2 r.1.1.1.1.1.2 r.1.1.1.1.2 r.1.1.1.2 r.1.1.2 r.1.2 r.2 := by
  refine ep_all (ne := by walk_at "NE") ((?_ : ∀ w wd bad fx f0 tx t0 nat x i9 d9 i8 d8 i7 d7 i6 d6 i5 d5 i4 d4 i3 d3 i2 d2 i1 d1 dx sw dsw itv itn thr told hx hdx tab th bx bdx sl wo on oi oT es hes bes n hn bn vs u1 u2 u3 u4 ht1 ht2 ht3 stt, @build_S w wd bad fx f0 tx t0 nat x i9 d9 i8 d8 i7 d7 i6 d6 i5 d5 i4 d4 i3 d3 i2 d2 i1 d1 dx sw dsw itv itn thr told hx hdx tab th bx bdx sl wo on oi oT es hes bes n hn bn vs u1 u2 u3 u4 ht1 ht2 ht3 stt) _ _ _ _ _ _ _ _ _ _ _ _ _ _ _ _ _ _ _ _ _ _ _ _ _ _ _ _ _ _ _ _ _ _ _ _ _ _ _ _ _ _ _ _ _ _ _ _ _ _ _ _ _ _ _ _ _ _ _ _)
  intro w wd bad fx f0 tx t0 nat x i9 d9 i8 d8 i7 d7 i6 d6 i5 d5 i4 d4 i3 d3 i2 d2 i1 d1 dx sw dsw itv itn thr told hx hdx tab th bx bdx sl wo on oi oT es hes bes n hn bn vs u1 u2 u3 u4 ht1 ht2 ht3 stt D hwd hnat hoi hoT hel her hef hsf hno
  have p0 : Pick (hdx, dictOf hes hn) [(wd, wo), (bad, listOf #[] 0), (fx, listOf #[.ref f0] 0), (f0, tupOf [.int 0 u3, .int 0 u4]), (tx, listOf #[.ref t0] 0), (t0, tupOf [.int 4 u1, .int 0 u2]), (nat, on), (x, instObj 447 dx), (i9, instObj 730 d9), (d9, dictOf [] 0), (i8, instObj 711 d8), (d8, dictOf [] 0), (i7, instObj 692 d7), (d7, dictOf [] 0), (i6, instObj 673 d6), (d6, dictOf [] 0), (i5, instObj 654 d5), (d5, dictOf [] 0), (i4, instObj 635 d4), (d4, dictOf [] 0), (i3, instObj 616 d3), (d3, dictOf [] 0), (i2, instObj 597 d2), (d2, dictOf [] 0), (i1, instObj 578 d1), (d1, dictOf [] 0), (dx, dictOf es n), (sw, instObj 223 dsw), (dsw, dictOf [] 0), (itv, listOf #[] 0), (itn, oi), (thr, listOf #[] 0), (told, listOf #[] 0), (hx, instObj 117 hdx), (hdx, dictOf hes hn), (tab, oT), (th, listOf #[] 0), (bx, instObj 798 bdx), (bdx, dictOf bes bn), (sl, listOf vs.toArray 0)] [(wd, wo), (bad, listOf #[] 0), (fx, listOf #[.ref f0] 0), (f0, tupOf [.int 0 u3, .int 0 u4]), (tx, listOf #[.ref t0] 0), (t0, tupOf [.int 4 u1, .int 0 u2]), (nat, on), (x, instObj 447 dx), (i9, instObj 730 d9), (d9, dictOf [] 0), (i8, instObj 711 d8), (d8, dictOf [] 0), (i7, instObj 692 d7), (d7, dictOf [] 0), (i6, instObj 673 d6), (d6, dictOf [] 0), (i5, instObj 654 d5), (d5, dictOf [] 0), (i4, instObj 635 d4), (d4, dictOf [] 0), (i3, instObj 616 d3), (d3, dictOf [] 0), (i2, instObj 597 d2), (d2, dictOf [] 0), (i1, instObj 578 d1), (d1, dictOf [] 0), (dx, dictOf es n), (sw, instObj 223 dsw), (dsw, dictOf [] 0), (itv, listOf #[] 0), (itn, oi), (thr, listOf #[] 0), (told, listOf #[] 0), (hx, instObj 117 hdx), (tab, oT), (th, listOf #[] 0), (bx, instObj 798 bdx), (bdx, dictOf bes bn), (sl, listOf vs.toArray 0)] := (.there (.there (.there (.there (.there (.there (.there (.there (.there (.there (.there (.there (.there (.there (.there (.there (.there (.there (.there (.there (.there (.there (.there (.there (.there (.there (.there (.there (.there (.there (.there (.there (.there (.there .here))))))))))))))))))))))))))))))))))
  have D0 := Pick.ds (p := (hdx, dictOf hes hn)) p0 D
  have p1 : Pick (th, listOf #[] 0) [(wd, wo), (bad, listOf #[] 0), (fx, listOf #[.ref f0] 0), (f0, tupOf [.int 0 u3, .int 0 u4]), (tx, listOf #[.ref t0] 0), (t0, tupOf [.int 4 u1, .int 0 u2]), (nat, on), (x, instObj 447 dx), (i9, instObj 730 d9), (d9, dictOf [] 0), (i8, instObj 711 d8), (d8, dictOf [] 0), (i7, instObj 692 d7), (d7, dictOf [] 0), (i6, instObj 673 d6), (d6, dictOf [] 0), (i5, instObj 654 d5), (d5, dictOf [] 0), (i4, instObj 635 d4), (d4, dictOf [] 0), (i3, instObj 616 d3), (d3, dictOf [] 0), (i2, instObj 597 d2), (d2, dictOf [] 0), (i1, instObj 578 d1), (d1, dictOf [] 0), (dx, dictOf es n), (sw, instObj 223 dsw), (dsw, dictOf [] 0), (itv, listOf #[] 0), (itn, oi), (thr, listOf #[] 0), (told, listOf #[] 0), (hx, instObj 117 hdx), (tab, oT), (th, listOf #[] 0), (bx, instObj 798 bdx), (bdx, dictOf bes bn), (sl, listOf vs.toArray 0)] [(wd, wo), (bad, listOf #[] 0), (fx, listOf #[.ref f0] 0), (f0, tupOf [.int 0 u3, .int 0 u4]), (tx, listOf #[.ref t0] 0), (t0, tupOf [.int 4 u1, .int 0 u2]), (nat, on), (x, instObj 447 dx), (i9, instObj 730 d9), (d9, dictOf [] 0), (i8, instObj 711 d8), (d8, dictOf [] 0), (i7, instObj 692 d7), (d7, dictOf [] 0), (i6, instObj 673 d6), (d6, dictOf [] 0), (i5, instObj 654 d5), (d5, dictOf [] 0), (i4, instObj 635 d4), (d4, dictOf [] 0), (i3, instObj 616 d3), (d3, dictOf [] 0), (i2, instObj 597 d2), (d2, dictOf [] 0), (i1, instObj 578 d1), (d1, dictOf [] 0), (dx, dictOf es n), (sw, instObj 223 dsw), (dsw, dictOf [] 0), (itv, listOf #[] 0), (itn, oi), (thr, listOf #[] 0), (told, listOf #[] 0), (hx, instObj 117 hdx), (tab, oT), (bx, instObj 798 bdx), (bdx, dictOf bes bn), (sl, listOf vs.toArray 0)] := (.there (.there (.there (.there (.there (.there (.there (.there (.there (.there (.there (.there (.there (.there (.there (.there (.there (.there (.there (.there (.there (.there (.there (.there (.there (.there (.there (.there (.there (.there (.there (.there (.there (.there (.there .here)))))))))))))))))))))))))))))))))))
  have D1 := Pick.ds (p := (th, listOf #[] 0)) (.there p1) D0
  have p2 : Pick (tab, oT) [(wd, wo), (bad, listOf #[] 0), (fx, listOf #[.ref f0] 0), (f0, tupOf [.int 0 u3, .int 0 u4]), (tx, listOf #[.ref t0] 0), (t0, tupOf [.int 4 u1, .int 0 u2]), (nat, on), (x, instObj 447 dx), (i9, instObj 730 d9), (d9, dictOf [] 0), (i8, instObj 711 d8), (d8, dictOf [] 0), (i7, instObj 692 d7), (d7, dictOf [] 0), (i6, instObj 673 d6), (d6, dictOf [] 0), (i5, instObj 654 d5), (d5, dictOf [] 0), (i4, instObj 635 d4), (d4, dictOf [] 0), (i3, instObj 616 d3), (d3, dictOf [] 0), (i2, instObj 597 d2), (d2, dictOf [] 0), (i1, instObj 578 d1), (d1, dictOf [] 0), (dx, dictOf es n), (sw, instObj 223 dsw), (dsw, dictOf [] 0), (itv, listOf #[] 0), (itn, oi), (thr, listOf #[] 0), (told, listOf #[] 0), (hx, instObj 117 hdx), (tab, oT), (bx, instObj 798 bdx), (bdx, dictOf bes bn), (sl, listOf vs.toArray 0)] [(wd, wo), (bad, listOf #[] 0), (fx, listOf #[.ref f0] 0), (f0, tupOf [.int 0 u3, .int 0 u4]), (tx, listOf #[.ref t0] 0), (t0, tupOf [.int 4 u1, .int 0 u2]), (nat, on), (x, instObj 447 dx), (i9, instObj 730 d9), (d9, dictOf [] 0), (i8, instObj 711 d8), (d8, dictOf [] 0), (i7, instObj 692 d7), (d7, dictOf [] 0), (i6, instObj 673 d6), (d6, dictOf [] 0), (i5, instObj 654 d5), (d5, dictOf [] 0), (i4, instObj 635 d4), (d4, dictOf [] 0), (i3, instObj 616 d3), (d3, dictOf [] 0), (i2, instObj 597 d2), (d2, dictOf [] 0), (i1, instObj 578 d1), (d1, dictOf [] 0), (dx, dictOf es n), (sw, instObj 223 dsw), (dsw, dictOf [] 0), (itv, listOf #[] 0), (itn, oi), (thr, listOf #[] 0), (told, listOf #[] 0), (hx, instObj 117 hdx), (bx, instObj 798 bdx), (bdx, dictOf bes bn), (sl, listOf vs.toArray 0)] := (.there (.there (.there (.there (.there (.there (.there (.there (.there (.there (.there (.there (.there (.there (.there (.there (.there (.there (.there (.there (.there (.there (.there (.there (.there (.there (.there (.there (.there (.there (.there (.there (.there (.there .here))))))))))))))))))))))))))))))))))
  have D2 := Pick.ds (p := (tab, oT)) (.there (.there p2)) D1
  have p3 : Pick (itn, oi) [(wd, wo), (bad, listOf #[] 0), (fx, listOf #[.ref f0] 0), (f0, tupOf [.int 0 u3, .int 0 u4]), (tx, listOf #[.ref t0] 0), (t0, tupOf [.int 4 u1, .int 0 u2]), (nat, on), (x, instObj 447 dx), (i9, instObj 730 d9), (d9, dictOf [] 0), (i8, instObj 711 d8), (d8, dictOf [] 0), (i7, instObj 692 d7), (d7, dictOf [] 0), (i6, instObj 673 d6), (d6, dictOf [] 0), (i5, instObj 654 d5), (d5, dictOf [] 0), (i4, instObj 635 d4), (d4, dictOf [] 0), (i3, instObj 616 d3), (d3, dictOf [] 0), (i2, instObj 597 d2), (d2, dictOf [] 0), (i1, instObj 578 d1), (d1, dictOf [] 0), (dx, dictOf es n), (sw, instObj 223 dsw), (dsw, dictOf [] 0), (itv, listOf #[] 0), (itn, oi), (thr, listOf #[] 0), (told, listOf #[] 0), (hx, instObj 117 hdx), (bx, instObj 798 bdx), (bdx, dictOf bes bn), (sl, listOf vs.toArray 0)] [(wd, wo), (bad, listOf #[] 0), (fx, listOf #[.ref f0] 0), (f0, tupOf [.int 0 u3, .int 0 u4]), (tx, listOf #[.ref t0] 0), (t0, tupOf [.int 4 u1, .int 0 u2]), (nat, on), (x, instObj 447 dx), (i9, instObj 730 d9), (d9, dictOf [] 0), (i8, instObj 711 d8), (d8, dictOf [] 0), (i7, instObj 692 d7), (d7, dictOf [] 0), (i6, instObj 673 d6), (d6, dictOf [] 0), (i5, instObj 654 d5), (d5, dictOf [] 0), (i4, instObj 635 d4), (d4, dictOf [] 0), (i3, instObj 616 d3), (d3, dictOf [] 0), (i2, instObj 597 d2), (d2, dictOf [] 0), (i1, instObj 578 d1), (d1, dictOf [] 0), (dx, dictOf es n), (sw, instObj 223 dsw), (dsw, dictOf [] 0), (itv, listOf #[] 0), (thr, listOf #[] 0), (told, listOf #[] 0), (hx, instObj 117 hdx), (bx, instObj 798 bdx), (bdx, dictOf bes bn), (sl, listOf vs.toArray 0)] := (.there (.there (.there (.there (.there (.there (.there (.there (.there (.there (.there (.there (.there (.there (.there (.there (.there (.there (.there (.there (.there (.there (.there (.there (.there (.there (.there (.there (.there (.there .here))))))))))))))))))))))))))))))
  have D3 := Pick.ds (p := (itn, oi)) (.there (.there (.there p3))) D2
  have p4 : Pick (itv, listOf #[] 0) [(wd, wo), (bad, listOf #[] 0), (fx, listOf #[.ref f0] 0), (f0, tupOf [.int 0 u3, .int 0 u4]), (tx, listOf #[.ref t0] 0), (t0, tupOf [.int 4 u1, .int 0 u2]), (nat, on), (x, instObj 447 dx), (i9, instObj 730 d9), (d9, dictOf [] 0), (i8, instObj 711 d8), (d8, dictOf [] 0), (i7, instObj 692 d7), (d7, dictOf [] 0), (i6, instObj 673 d6), (d6, dictOf [] 0), (i5, instObj 654 d5), (d5, dictOf [] 0), (i4, instObj 635 d4), (d4, dictOf [] 0), (i3, instObj 616 d3), (d3, dictOf [] 0), (i2, instObj 597 d2), (d2, dictOf [] 0), (i1, instObj 578 d1), (d1, dictOf [] 0), (dx, dictOf es n), (sw, instObj 223 dsw), (dsw, dictOf [] 0), (itv, listOf #[] 0), (thr, listOf #[] 0), (told, listOf #[] 0), (hx, instObj 117 hdx), (bx, instObj 798 bdx), (bdx, dictOf bes bn), (sl, listOf vs.toArray 0)] [(wd, wo), (bad, listOf #[] 0), (fx, listOf #[.ref f0] 0), (f0, tupOf [.int 0 u3, .int 0 u4]), (tx, listOf #[.ref t0] 0), (t0, tupOf [.int 4 u1, .int 0 u2]), (nat, on), (x, instObj 447 dx), (i9, instObj 730 d9), (d9, dictOf [] 0), (i8, instObj 711 d8), (d8, dictOf [] 0), (i7, instObj 692 d7), (d7, dictOf [] 0), (i6, instObj 673 d6), (d6, dictOf [] 0), (i5, instObj 654 d5), (d5, dictOf [] 0), (i4, instObj 635 d4), (d4, dictOf [] 0), (i3, instObj 616 d3), (d3, dictOf [] 0), (i2, instObj 597 d2), (d2, dictOf [] 0), (i1, instObj 578 d1), (d1, dictOf [] 0), (dx, dictOf es n), (sw, instObj 223 dsw), (dsw, dictOf [] 0), (thr, listOf #[] 0), (told, listOf #[] 0), (hx, instObj 117 hdx), (bx, instObj 798 bdx), (bdx, dictOf bes bn), (sl, listOf vs.toArray 0)] := (.there (.there (.there (.there (.there (.there (.there (.there (.there (.there (.there (.there (.there (.there (.there (.there (.there (.there (.there (.there (.there (.there (.there (.there (.there (.there (.there (.there (.there .here)))))))))))))))))))))))))))))
  have D4 := Pick.ds (p := (itv, listOf #[] 0)) (.there (.there (.there (.there p4)))) D3
  have p5 : Pick (thr, listOf #[] 0) [(wd, wo), (bad, listOf #[] 0), (fx, listOf #[.ref f0] 0), (f0, tupOf [.int 0 u3, .int 0 u4]), (tx, listOf #[.ref t0] 0), (t0, tupOf [.int 4 u1, .int 0 u2]), (nat, on), (x, instObj 447 dx), (i9, instObj 730 d9), (d9, dictOf [] 0), (i8, instObj 711 d8), (d8, dictOf [] 0), (i7, instObj 692 d7), (d7, dictOf [] 0), (i6, instObj 673 d6), (d6, dictOf [] 0), (i5, instObj 654 d5), (d5, dictOf [] 0), (i4, instObj 635 d4), (d4, dictOf [] 0), (i3, instObj 616 d3), (d3, dictOf [] 0), (i2, instObj 597 d2), (d2, dictOf [] 0), (i1, instObj 578 d1), (d1, dictOf [] 0), (dx, dictOf es n), (sw, instObj 223 dsw), (dsw, dictOf [] 0), (thr, listOf #[] 0), (told, listOf #[] 0), (hx, instObj 117 hdx), (bx, instObj 798 bdx), (bdx, dictOf bes bn), (sl, listOf vs.toArray 0)] [(wd, wo), (bad, listOf #[] 0), (fx, listOf #[.ref f0] 0), (f0, tupOf [.int 0 u3, .int 0 u4]), (tx, listOf #[.ref t0] 0), (t0, tupOf [.int 4 u1, .int 0 u2]), (nat, on), (x, instObj 447 dx), (i9, instObj 730 d9), (d9, dictOf [] 0), (i8, instObj 711 d8), (d8, dictOf [] 0), (i7, instObj 692 d7), (d7, dictOf [] 0), (i6, instObj 673 d6), (d6, dictOf [] 0), (i5, instObj 654 d5), (d5, dictOf [] 0), (i4, instObj 635 d4), (d4, dictOf [] 0), (i3, instObj 616 d3), (d3, dictOf [] 0), (i2, instObj 597 d2), (d2, dictOf [] 0), (i1, instObj 578 d1), (d1, dictOf [] 0), (dx, dictOf es n), (sw, instObj 223 dsw), (dsw, dictOf [] 0), (told, listOf #[] 0), (hx, instObj 117 hdx), (bx, instObj 798 bdx), (bdx, dictOf bes bn), (sl, listOf vs.toArray 0)] := (.there (.there (.there (.there (.there (.there (.there (.there (.there (.there (.there (.there (.there (.there (.there (.there (.there (.there (.there (.there (.there (.there (.there (.there (.there (.there (.there (.there (.there .here)))))))))))))))))))))))))))))
  have D5 := Pick.ds (p := (thr, listOf #[] 0)) (.there (.there (.there (.there (.there p5))))) D4
  have p6 : Pick (tx, listOf #[.ref t0] 0) [(wd, wo), (bad, listOf #[] 0), (fx, listOf #[.ref f0] 0), (f0, tupOf [.int 0 u3, .int 0 u4]), (tx, listOf #[.ref t0] 0), (t0, tupOf [.int 4 u1, .int 0 u2]), (nat, on), (x, instObj 447 dx), (i9, instObj 730 d9), (d9, dictOf [] 0), (i8, instObj 711 d8), (d8, dictOf [] 0), (i7, instObj 692 d7), (d7, dictOf [] 0), (i6, instObj 673 d6), (d6, dictOf [] 0), (i5, instObj 654 d5), (d5, dictOf [] 0), (i4, instObj 635 d4), (d4, dictOf [] 0), (i3, instObj 616 d3), (d3, dictOf [] 0), (i2, instObj 597 d2), (d2, dictOf [] 0), (i1, instObj 578 d1), (d1, dictOf [] 0), (dx, dictOf es n), (sw, instObj 223 dsw), (dsw, dictOf [] 0), (told, listOf #[] 0), (hx, instObj 117 hdx), (bx, instObj 798 bdx), (bdx, dictOf bes bn), (sl, listOf vs.toArray 0)] [(wd, wo), (bad, listOf #[] 0), (fx, listOf #[.ref f0] 0), (f0, tupOf [.int 0 u3, .int 0 u4]), (t0, tupOf [.int 4 u1, .int 0 u2]), (nat, on), (x, instObj 447 dx), (i9, instObj 730 d9), (d9, dictOf [] 0), (i8, instObj 711 d8), (d8, dictOf [] 0), (i7, instObj 692 d7), (d7, dictOf [] 0), (i6, instObj 673 d6), (d6, dictOf [] 0), (i5, instObj 654 d5), (d5, dictOf [] 0), (i4, instObj 635 d4), (d4, dictOf [] 0), (i3, instObj 616 d3), (d3, dictOf [] 0), (i2, instObj 597 d2), (d2, dictOf [] 0), (i1, instObj 578 d1), (d1, dictOf [] 0), (dx, dictOf es n), (sw, instObj 223 dsw), (dsw, dictOf [] 0), (told, listOf #[] 0), (hx, instObj 117 hdx), (bx, instObj 798 bdx), (bdx, dictOf bes bn), (sl, listOf vs.toArray 0)] := (.there (.there (.there (.there .here))))
  have D6 := Pick.ds (p := (tx, listOf #[.ref t0] 0)) (.there (.there (.there (.there (.there (.there p6)))))) D5
  have p7 : Pick (fx, listOf #[.ref f0] 0) [(wd, wo), (bad, listOf #[] 0), (fx, listOf #[.ref f0] 0), (f0, tupOf [.int 0 u3, .int 0 u4]), (t0, tupOf [.int 4 u1, .int 0 u2]), (nat, on), (x, instObj 447 dx), (i9, instObj 730 d9), (d9, dictOf [] 0), (i8, instObj 711 d8), (d8, dictOf [] 0), (i7, instObj 692 d7), (d7, dictOf [] 0), (i6, instObj 673 d6), (d6, dictOf [] 0), (i5, instObj 654 d5), (d5, dictOf [] 0), (i4, instObj 635 d4), (d4, dictOf [] 0), (i3, instObj 616 d3), (d3, dictOf [] 0), (i2, instObj 597 d2), (d2, dictOf [] 0), (i1, instObj 578 d1), (d1, dictOf [] 0), (dx, dictOf es n), (sw, instObj 223 dsw), (dsw, dictOf [] 0), (told, listOf #[] 0), (hx, instObj 117 hdx), (bx, instObj 798 bdx), (bdx, dictOf bes bn), (sl, listOf vs.toArray 0)] [(wd, wo), (bad, listOf #[] 0), (f0, tupOf [.int 0 u3, .int 0 u4]), (t0, tupOf [.int 4 u1, .int 0 u2]), (nat, on), (x, instObj 447 dx), (i9, instObj 730 d9), (d9, dictOf [] 0), (i8, instObj 711 d8), (d8, dictOf [] 0), (i7, instObj 692 d7), (d7, dictOf [] 0), (i6, instObj 673 d6), (d6, dictOf [] 0), (i5, instObj 654 d5), (d5, dictOf [] 0), (i4, instObj 635 d4), (d4, dictOf [] 0), (i3, instObj 616 d3), (d3, dictOf [] 0), (i2, instObj 597 d2), (d2, dictOf [] 0), (i1, instObj 578 d1), (d1, dictOf [] 0), (dx, dictOf es n), (sw, instObj 223 dsw), (dsw, dictOf [] 0), (told, listOf #[] 0), (hx, instObj 117 hdx), (bx, instObj 798 bdx), (bdx, dictOf bes bn), (sl, listOf vs.toArray 0)] := (.there (.there .here))
  have D7 := Pick.ds (p := (fx, listOf #[.ref f0] 0)) (.there (.there (.there (.there (.there (.there (.there p7))))))) D6
  let P := mkP wd x hx nat told bad sw i1 i2 i3 i4 i5 i6 i7 i8 i9 hdx th tab itn itv thr tx fx
  have up : ∀ q ∈ [(wd, wo), (bad, listOf #[] 0), (f0, tupOf [.int 0 u3, .int 0 u4]), (t0, tupOf [.int 4 u1, .int 0 u2]), (nat, on), (x, instObj 447 dx), (i9, instObj 730 d9), (d9, dictOf [] 0), (i8, instObj 711 d8), (d8, dictOf [] 0), (i7, instObj 692 d7), (d7, dictOf [] 0), (i6, instObj 673 d6), (d6, dictOf [] 0), (i5, instObj 654 d5), (d5, dictOf [] 0), (i4, instObj 635 d4), (d4, dictOf [] 0), (i3, instObj 616 d3), (d3, dictOf [] 0), (i2, instObj 597 d2), (d2, dictOf [] 0), (i1, instObj 578 d1), (d1, dictOf [] 0), (dx, dictOf es n), (sw, instObj 223 dsw), (dsw, dictOf [] 0), (told, listOf #[] 0), (hx, instObj 117 hdx), (bx, instObj 798 bdx), (bdx, dictOf bes bn), (sl, listOf vs.toArray 0)], q ∈ [(wd, wo), (bad, listOf #[] 0), (fx, listOf #[.ref f0] 0), (f0, tupOf [.int 0 u3, .int 0 u4]), (tx, listOf #[.ref t0] 0), (t0, tupOf [.int 4 u1, .int 0 u2]), (nat, on), (x, instObj 447 dx), (i9, instObj 730 d9), (d9, dictOf [] 0), (i8, instObj 711 d8), (d8, dictOf [] 0), (i7, instObj 692 d7), (d7, dictOf [] 0), (i6, instObj 673 d6), (d6, dictOf [] 0), (i5, instObj 654 d5), (d5, dictOf [] 0), (i4, instObj 635 d4), (d4, dictOf [] 0), (i3, instObj 616 d3), (d3, dictOf [] 0), (i2, instObj 597 d2), (d2, dictOf [] 0), (i1, instObj 578 d1), (d1, dictOf [] 0), (dx, dictOf es n), (sw, instObj 223 dsw), (dsw, dictOf [] 0), (itv, listOf #[] 0), (itn, oi), (thr, listOf #[] 0), (told, listOf #[] 0), (hx, instObj 117 hdx), (hdx, dictOf hes hn), (tab, oT), (th, listOf #[] 0), (bx, instObj 798 bdx), (bdx, dictOf bes bn), (sl, listOf vs.toArray 0)] := fun q h => ((p0.mem q).mpr (.inr ((p1.mem q).mpr (.inr ((p2.mem q).mpr (.inr ((p3.mem q).mpr (.inr ((p4.mem q).mpr (.inr ((p5.mem q).mpr (.inr ((p6.mem q).mpr (.inr ((p7.mem q).mpr (.inr h))))))))))))))))
  have M0 : (hdx, dictOf hes hn) ∈ [(wd, wo), (bad, listOf #[] 0), (fx, listOf #[.ref f0] 0), (f0, tupOf [.int 0 u3, .int 0 u4]), (tx, listOf #[.ref t0] 0), (t0, tupOf [.int 4 u1, .int 0 u2]), (nat, on), (x, instObj 447 dx), (i9, instObj 730 d9), (d9, dictOf [] 0), (i8, instObj 711 d8), (d8, dictOf [] 0), (i7, instObj 692 d7), (d7, dictOf [] 0), (i6, instObj 673 d6), (d6, dictOf [] 0), (i5, instObj 654 d5), (d5, dictOf [] 0), (i4, instObj 635 d4), (d4, dictOf [] 0), (i3, instObj 616 d3), (d3, dictOf [] 0), (i2, instObj 597 d2), (d2, dictOf [] 0), (i1, instObj 578 d1), (d1, dictOf [] 0), (dx, dictOf es n), (sw, instObj 223 dsw), (dsw, dictOf [] 0), (itv, listOf #[] 0), (itn, oi), (thr, listOf #[] 0), (told, listOf #[] 0), (hx, instObj 117 hdx), (hdx, dictOf hes hn), (tab, oT), (th, listOf #[] 0), (bx, instObj 798 bdx), (bdx, dictOf bes bn), (sl, listOf vs.toArray 0)] := (.tail _ (.tail _ (.tail _ (.tail _ (.tail _ (.tail _ (.tail _ (.tail _ (.tail _ (.tail _ (.tail _ (.tail _ (.tail _ (.tail _ (.tail _ (.tail _ (.tail _ (.tail _ (.tail _ (.tail _ (.tail _ (.tail _ (.tail _ (.tail _ (.tail _ (.tail _ (.tail _ (.tail _ (.tail _ (.tail _ (.tail _ (.tail _ (.tail _ (.tail _ (.head _)))))))))))))))))))))))))))))))))))
  have M1 : (th, listOf #[] 0) ∈ [(wd, wo), (bad, listOf #[] 0), (fx, listOf #[.ref f0] 0), (f0, tupOf [.int 0 u3, .int 0 u4]), (tx, listOf #[.ref t0] 0), (t0, tupOf [.int 4 u1, .int 0 u2]), (nat, on), (x, instObj 447 dx), (i9, instObj 730 d9), (d9, dictOf [] 0), (i8, instObj 711 d8), (d8, dictOf [] 0), (i7, instObj 692 d7), (d7, dictOf [] 0), (i6, instObj 673 d6), (d6, dictOf [] 0), (i5, instObj 654 d5), (d5, dictOf [] 0), (i4, instObj 635 d4), (d4, dictOf [] 0), (i3, instObj 616 d3), (d3, dictOf [] 0), (i2, instObj 597 d2), (d2, dictOf [] 0), (i1, instObj 578 d1), (d1, dictOf [] 0), (dx, dictOf es n), (sw, instObj 223 dsw), (dsw, dictOf [] 0), (itv, listOf #[] 0), (itn, oi), (thr, listOf #[] 0), (told, listOf #[] 0), (hx, instObj 117 hdx), (hdx, dictOf hes hn), (tab, oT), (th, listOf #[] 0), (bx, instObj 798 bdx), (bdx, dictOf bes bn), (sl, listOf vs.toArray 0)] := (.tail _ (.tail _ (.tail _ (.tail _ (.tail _ (.tail _ (.tail _ (.tail _ (.tail _ (.tail _ (.tail _ (.tail _ (.tail _ (.tail _ (.tail _ (.tail _ (.tail _ (.tail _ (.tail _ (.tail _ (.tail _ (.tail _ (.tail _ (.tail _ (.tail _ (.tail _ (.tail _ (.tail _ (.tail _ (.tail _ (.tail _ (.tail _ (.tail _ (.tail _ (.tail _ (.tail _ (.head _)))))))))))))))))))))))))))))))))))))
  have M2 : (tab, oT) ∈ [(wd, wo), (bad, listOf #[] 0), (fx, listOf #[.ref f0] 0), (f0, tupOf [.int 0 u3, .int 0 u4]), (tx, listOf #[.ref t0] 0), (t0, tupOf [.int 4 u1, .int 0 u2]), (nat, on), (x, instObj 447 dx), (i9, instObj 730 d9), (d9, dictOf [] 0), (i8, instObj 711 d8), (d8, dictOf [] 0), (i7, instObj 692 d7), (d7, dictOf [] 0), (i6, instObj 673 d6), (d6, dictOf [] 0), (i5, instObj 654 d5), (d5, dictOf [] 0), (i4, instObj 635 d4), (d4, dictOf [] 0), (i3, instObj 616 d3), (d3, dictOf [] 0), (i2, instObj 597 d2), (d2, dictOf [] 0), (i1, instObj 578 d1), (d1, dictOf [] 0), (dx, dictOf es n), (sw, instObj 223 dsw), (dsw, dictOf [] 0), (itv, listOf #[] 0), (itn, oi), (thr, listOf #[] 0), (told, listOf #[] 0), (hx, instObj 117 hdx), (hdx, dictOf hes hn), (tab, oT), (th, listOf #[] 0), (bx, instObj 798 bdx), (bdx, dictOf bes bn), (sl, listOf vs.toArray 0)] := (.tail _ (.tail _ (.tail _ (.tail _ (.tail _ (.tail _ (.tail _ (.tail _ (.tail _ (.tail _ (.tail _ (.tail _ (.tail _ (.tail _ (.tail _ (.tail _ (.tail _ (.tail _ (.tail _ (.tail _ (.tail _ (.tail _ (.tail _ (.tail _ (.tail _ (.tail _ (.tail _ (.tail _ (.tail _ (.tail _ (.tail _ (.tail _ (.tail _ (.tail _ (.tail _ (.head _))))))))))))))))))))))))))))))))))))
  have M3 : (itn, oi) ∈ [(wd, wo), (bad, listOf #[] 0), (fx, listOf #[.ref f0] 0), (f0, tupOf [.int 0 u3, .int 0 u4]), (tx, listOf #[.ref t0] 0), (t0, tupOf [.int 4 u1, .int 0 u2]), (nat, on), (x, instObj 447 dx), (i9, instObj 730 d9), (d9, dictOf [] 0), (i8, instObj 711 d8), (d8, dictOf [] 0), (i7, instObj 692 d7), (d7, dictOf [] 0), (i6, instObj 673 d6), (d6, dictOf [] 0), (i5, instObj 654 d5), (d5, dictOf [] 0), (i4, instObj 635 d4), (d4, dictOf [] 0), (i3, instObj 616 d3), (d3, dictOf [] 0), (i2, instObj 597 d2), (d2, dictOf [] 0), (i1, instObj 578 d1), (d1, dictOf [] 0), (dx, dictOf es n), (sw, instObj 223 dsw), (dsw, dictOf [] 0), (itv, listOf #[] 0), (itn, oi), (thr, listOf #[] 0), (told, listOf #[] 0), (hx, instObj 117 hdx), (hdx, dictOf hes hn), (tab, oT), (th, listOf #[] 0), (bx, instObj 798 bdx), (bdx, dictOf bes bn), (sl, listOf vs.toArray 0)] := (.tail _ (.tail _ (.tail _ (.tail _ (.tail _ (.tail _ (.tail _ (.tail _ (.tail _ (.tail _ (.tail _ (.tail _ (.tail _ (.tail _ (.tail _ (.tail _ (.tail _ (.tail _ (.tail _ (.tail _ (.tail _ (.tail _ (.tail _ (.tail _ (.tail _ (.tail _ (.tail _ (.tail _ (.tail _ (.tail _ (.head _)))))))))))))))))))))))))))))))
  have M4 : (itv, listOf #[] 0) ∈ [(wd, wo), (bad, listOf #[] 0), (fx, listOf #[.ref f0] 0), (f0, tupOf [.int 0 u3, .int 0 u4]), (tx, listOf #[.ref t0] 0), (t0, tupOf [.int 4 u1, .int 0 u2]), (nat, on), (x, instObj 447 dx), (i9, instObj 730 d9), (d9, dictOf [] 0), (i8, instObj 711 d8), (d8, dictOf [] 0), (i7, instObj 692 d7), (d7, dictOf [] 0), (i6, instObj 673 d6), (d6, dictOf [] 0), (i5, instObj 654 d5), (d5, dictOf [] 0), (i4, instObj 635 d4), (d4, dictOf [] 0), (i3, instObj 616 d3), (d3, dictOf [] 0), (i2, instObj 597 d2), (d2, dictOf [] 0), (i1, instObj 578 d1), (d1, dictOf [] 0), (dx, dictOf es n), (sw, instObj 223 dsw), (dsw, dictOf [] 0), (itv, listOf #[] 0), (itn, oi), (thr, listOf #[] 0), (told, listOf #[] 0), (hx, instObj 117 hdx), (hdx, dictOf hes hn), (tab, oT), (th, listOf #[] 0), (bx, instObj 798 bdx), (bdx, dictOf bes bn), (sl, listOf vs.toArray 0)] := (.tail _ (.tail _ (.tail _ (.tail _ (.tail _ (.tail _ (.tail _ (.tail _ (.tail _ (.tail _ (.tail _ (.tail _ (.tail _ (.tail _ (.tail _ (.tail _ (.tail _ (.tail _ (.tail _ (.tail _ (.tail _ (.tail _ (.tail _ (.tail _ (.tail _ (.tail _ (.tail _ (.tail _ (.tail _ (.head _))))))))))))))))))))))))))))))
  have M5 : (thr, listOf #[] 0) ∈ [(wd, wo), (bad, listOf #[] 0), (fx, listOf #[.ref f0] 0), (f0, tupOf [.int 0 u3, .int 0 u4]), (tx, listOf #[.ref t0] 0), (t0, tupOf [.int 4 u1, .int 0 u2]), (nat, on), (x, instObj 447 dx), (i9, instObj 730 d9), (d9, dictOf [] 0), (i8, instObj 711 d8), (d8, dictOf [] 0), (i7, instObj 692 d7), (d7, dictOf [] 0), (i6, instObj 673 d6), (d6, dictOf [] 0), (i5, instObj 654 d5), (d5, dictOf [] 0), (i4, instObj 635 d4), (d4, dictOf [] 0), (i3, instObj 616 d3), (d3, dictOf [] 0), (i2, instObj 597 d2), (d2, dictOf [] 0), (i1, instObj 578 d1), (d1, dictOf [] 0), (dx, dictOf es n), (sw, instObj 223 dsw), (dsw, dictOf [] 0), (itv, listOf #[] 0), (itn, oi), (thr, listOf #[] 0), (told, listOf #[] 0), (hx, instObj 117 hdx), (hdx, dictOf hes hn), (tab, oT), (th, listOf #[] 0), (bx, instObj 798 bdx), (bdx, dictOf bes bn), (sl, listOf vs.toArray 0)] := (.tail _ (.tail _ (.tail _ (.tail _ (.tail _ (.tail _ (.tail _ (.tail _ (.tail _ (.tail _ (.tail _ (.tail _ (.tail _ (.tail _ (.tail _ (.tail _ (.tail _ (.tail _ (.tail _ (.tail _ (.tail _ (.tail _ (.tail _ (.tail _ (.tail _ (.tail _ (.tail _ (.tail _ (.tail _ (.tail _ (.tail _ (.head _))))))))))))))))))))))))))))))))
  have M6 : (tx, listOf #[.ref t0] 0) ∈ [(wd, wo), (bad, listOf #[] 0), (fx, listOf #[.ref f0] 0), (f0, tupOf [.int 0 u3, .int 0 u4]), (tx, listOf #[.ref t0] 0), (t0, tupOf [.int 4 u1, .int 0 u2]), (nat, on), (x, instObj 447 dx), (i9, instObj 730 d9), (d9, dictOf [] 0), (i8, instObj 711 d8), (d8, dictOf [] 0), (i7, instObj 692 d7), (d7, dictOf [] 0), (i6, instObj 673 d6), (d6, dictOf [] 0), (i5, instObj 654 d5), (d5, dictOf [] 0), (i4, instObj 635 d4), (d4, dictOf [] 0), (i3, instObj 616 d3), (d3, dictOf [] 0), (i2, instObj 597 d2), (d2, dictOf [] 0), (i1, instObj 578 d1), (d1, dictOf [] 0), (dx, dictOf es n), (sw, instObj 223 dsw), (dsw, dictOf [] 0), (itv, listOf #[] 0), (itn, oi), (thr, listOf #[] 0), (told, listOf #[] 0), (hx, instObj 117 hdx), (hdx, dictOf hes hn), (tab, oT), (th, listOf #[] 0), (bx, instObj 798 bdx), (bdx, dictOf bes bn), (sl, listOf vs.toArray 0)] := (.tail _ (.tail _ (.tail _ (.tail _ (.head _)))))
  have M7 : (fx, listOf #[.ref f0] 0) ∈ [(wd, wo), (bad, listOf #[] 0), (fx, listOf #[.ref f0] 0), (f0, tupOf [.int 0 u3, .int 0 u4]), (tx, listOf #[.ref t0] 0), (t0, tupOf [.int 4 u1, .int 0 u2]), (nat, on), (x, instObj 447 dx), (i9, instObj 730 d9), (d9, dictOf [] 0), (i8, instObj 711 d8), (d8, dictOf [] 0), (i7, instObj 692 d7), (d7, dictOf [] 0), (i6, instObj 673 d6), (d6, dictOf [] 0), (i5, instObj 654 d5), (d5, dictOf [] 0), (i4, instObj 635 d4), (d4, dictOf [] 0), (i3, instObj 616 d3), (d3, dictOf [] 0), (i2, instObj 597 d2), (d2, dictOf [] 0), (i1, instObj 578 d1), (d1, dictOf [] 0), (dx, dictOf es n), (sw, instObj 223 dsw), (dsw, dictOf [] 0), (itv, listOf #[] 0), (itn, oi), (thr, listOf #[] 0), (told, listOf #[] 0), (hx, instObj 117 hdx), (hdx, dictOf hes hn), (tab, oT), (th, listOf #[] 0), (bx, instObj 798 bdx), (bdx, dictOf bes bn), (sl, listOf vs.toArray 0)] := (.tail _ (.tail _ (.head _)))
  have off : ∀ q ∈ [(wd, wo), (bad, listOf #[] 0), (f0, tupOf [.int 0 u3, .int 0 u4]), (t0, tupOf [.int 4 u1, .int 0 u2]), (nat, on), (x, instObj 447 dx), (i9, instObj 730 d9), (d9, dictOf [] 0), (i8, instObj 711 d8), (d8, dictOf [] 0), (i7, instObj 692 d7), (d7, dictOf [] 0), (i6, instObj 673 d6), (d6, dictOf [] 0), (i5, instObj 654 d5), (d5, dictOf [] 0), (i4, instObj 635 d4), (d4, dictOf [] 0), (i3, instObj 616 d3), (d3, dictOf [] 0), (i2, instObj 597 d2), (d2, dictOf [] 0), (i1, instObj 578 d1), (d1, dictOf [] 0), (dx, dictOf es n), (sw, instObj 223 dsw), (dsw, dictOf [] 0), (told, listOf #[] 0), (hx, instObj 117 hdx), (bx, instObj 798 bdx), (bdx, dictOf bes bn), (sl, listOf vs.toArray 0)], ¬ P.isMut q.1 := by
    rintro q hq ⟨k, e⟩
    have x_hd : hdx ≠ q.1 := D7.tail.tail.tail.tail.tail.tail.tail.off hq
    have x_things : th ≠ q.1 := D7.tail.tail.tail.tail.tail.tail.off (.tail _ hq)
    have x_tab : tab ≠ q.1 := D7.tail.tail.tail.tail.tail.off (.tail _ (.tail _ hq))
    have x_itn : itn ≠ q.1 := D7.tail.tail.tail.tail.off (.tail _ (.tail _ (.tail _ hq)))
    have x_itv : itv ≠ q.1 := D7.tail.tail.tail.off (.tail _ (.tail _ (.tail _ (.tail _ hq))))
    have x_thrown : thr ≠ q.1 := D7.tail.tail.off (.tail _ (.tail _ (.tail _ (.tail _ (.tail _ hq)))))
    have x_texts : tx ≠ q.1 := D7.tail.off (.tail _ (.tail _ (.tail _ (.tail _ (.tail _ (.tail _ hq))))))
    have x_facts : fx ≠ q.1 := D7.off (.tail _ (.tail _ (.tail _ (.tail _ (.tail _ (.tail _ (.tail _ hq)))))))
    cases k
    · exact x_hd e
    · exact x_things e
    · exact x_tab e
    · exact x_itn e
    · exact x_itv e
    · exact x_thrown e
    · exact x_texts e
    · exact x_facts e
  have im : ∀ q ∈ [(wd, wo), (bad, listOf #[] 0), (f0, tupOf [.int 0 u3, .int 0 u4]), (t0, tupOf [.int 4 u1, .int 0 u2]), (nat, on), (x, instObj 447 dx), (i9, instObj 730 d9), (d9, dictOf [] 0), (i8, instObj 711 d8), (d8, dictOf [] 0), (i7, instObj 692 d7), (d7, dictOf [] 0), (i6, instObj 673 d6), (d6, dictOf [] 0), (i5, instObj 654 d5), (d5, dictOf [] 0), (i4, instObj 635 d4), (d4, dictOf [] 0), (i3, instObj 616 d3), (d3, dictOf [] 0), (i2, instObj 597 d2), (d2, dictOf [] 0), (i1, instObj 578 d1), (d1, dictOf [] 0), (dx, dictOf es n), (sw, instObj 223 dsw), (dsw, dictOf [] 0), (told, listOf #[] 0), (hx, instObj 117 hdx), (bx, instObj 798 bdx), (bdx, dictOf bes bn), (sl, listOf vs.toArray 0)], Im P [(wd, wo), (bad, listOf #[] 0), (fx, listOf #[.ref f0] 0), (f0, tupOf [.int 0 u3, .int 0 u4]), (tx, listOf #[.ref t0] 0), (t0, tupOf [.int 4 u1, .int 0 u2]), (nat, on), (x, instObj 447 dx), (i9, instObj 730 d9), (d9, dictOf [] 0), (i8, instObj 711 d8), (d8, dictOf [] 0), (i7, instObj 692 d7), (d7, dictOf [] 0), (i6, instObj 673 d6), (d6, dictOf [] 0), (i5, instObj 654 d5), (d5, dictOf [] 0), (i4, instObj 635 d4), (d4, dictOf [] 0), (i3, instObj 616 d3), (d3, dictOf [] 0), (i2, instObj 597 d2), (d2, dictOf [] 0), (i1, instObj 578 d1), (d1, dictOf [] 0), (dx, dictOf es n), (sw, instObj 223 dsw), (dsw, dictOf [] 0), (itv, listOf #[] 0), (itn, oi), (thr, listOf #[] 0), (told, listOf #[] 0), (hx, instObj 117 hdx), (hdx, dictOf hes hn), (tab, oT), (th, listOf #[] 0), (bx, instObj 798 bdx), (bdx, dictOf bes bn), (sl, listOf vs.toArray 0)] q.1 q.2 := fun q h => ⟨up q h, off q h⟩
  have D8 : Ds [(fx, listOf #[.ref f0] 0), (tx, listOf #[.ref t0] 0), (thr, listOf #[] 0), (itv, listOf #[] 0), (itn, oi), (tab, oT), (th, listOf #[] 0), (hdx, dictOf hes hn)] := Ds.subl' D7 (by repeat' (first | exact List.nil_sublist _ | refine List.Sublist.cons_cons _ ?_))
  have hinj : ∀ k k', P.adr k = P.adr k' → k = k' := by
    have n01 : fx ≠ tx := D8.off (.head _)
    have n02 : fx ≠ thr := D8.off (.tail _ (.head _))
    have n03 : fx ≠ itv := D8.off (.tail _ (.tail _ (.head _)))
    have n04 : fx ≠ itn := D8.off (.tail _ (.tail _ (.tail _ (.head _))))
    have n05 : fx ≠ tab := D8.off (.tail _ (.tail _ (.tail _ (.tail _ (.head _)))))
    have n06 : fx ≠ th := D8.off (.tail _ (.tail _ (.tail _ (.tail _ (.tail _ (.head _))))))
    have n07 : fx ≠ hdx := D8.off (.tail _ (.tail _ (.tail _ (.tail _ (.tail _ (.tail _ (.head _)))))))
    have n12 : tx ≠ thr := D8.tail.off (.head _)
    have n13 : tx ≠ itv := D8.tail.off (.tail _ (.head _))
    have n14 : tx ≠ itn := D8.tail.off (.tail _ (.tail _ (.head _)))
    have n15 : tx ≠ tab := D8.tail.off (.tail _ (.tail _ (.tail _ (.head _))))
    have n16 : tx ≠ th := D8.tail.off (.tail _ (.tail _ (.tail _ (.tail _ (.head _)))))
    have n17 : tx ≠ hdx := D8.tail.off (.tail _ (.tail _ (.tail _ (.tail _ (.tail _ (.head _))))))
    have n23 : thr ≠ itv := D8.tail.tail.off (.head _)
    have n24 : thr ≠ itn := D8.tail.tail.off (.tail _ (.head _))
    have n25 : thr ≠ tab := D8.tail.tail.off (.tail _ (.tail _ (.head _)))
    have n26 : thr ≠ th := D8.tail.tail.off (.tail _ (.tail _ (.tail _ (.head _))))
    have n27 : thr ≠ hdx := D8.tail.tail.off (.tail _ (.tail _ (.tail _ (.tail _ (.head _)))))
    have n34 : itv ≠ itn := D8.tail.tail.tail.off (.head _)
    have n35 : itv ≠ tab := D8.tail.tail.tail.off (.tail _ (.head _))
    have n36 : itv ≠ th := D8.tail.tail.tail.off (.tail _ (.tail _ (.head _)))
    have n37 : itv ≠ hdx := D8.tail.tail.tail.off (.tail _ (.tail _ (.tail _ (.head _))))
    have n45 : itn ≠ tab := D8.tail.tail.tail.tail.off (.head _)
    have n46 : itn ≠ th := D8.tail.tail.tail.tail.off (.tail _ (.head _))
    have n47 : itn ≠ hdx := D8.tail.tail.tail.tail.off (.tail _ (.tail _ (.head _)))
    have n56 : tab ≠ th := D8.tail.tail.tail.tail.tail.off (.head _)
    have n57 : tab ≠ hdx := D8.tail.tail.tail.tail.tail.off (.tail _ (.head _))
    have n67 : th ≠ hdx := D8.tail.tail.tail.tail.tail.tail.off (.head _)
    intro k k' e
    cases k <;> cases k' <;> first | rfl | exact absurd e ‹_› | exact absurd e.symm ‹_›
  have S : Sta w P [(wd, wo), (bad, listOf #[] 0), (fx, listOf #[.ref f0] 0), (f0, tupOf [.int 0 u3, .int 0 u4]), (tx, listOf #[.ref t0] 0), (t0, tupOf [.int 4 u1, .int 0 u2]), (nat, on), (x, instObj 447 dx), (i9, instObj 730 d9), (d9, dictOf [] 0), (i8, instObj 711 d8), (d8, dictOf [] 0), (i7, instObj 692 d7), (d7, dictOf [] 0), (i6, instObj 673 d6), (d6, dictOf [] 0), (i5, instObj 654 d5), (d5, dictOf [] 0), (i4, instObj 635 d4), (d4, dictOf [] 0), (i3, instObj 616 d3), (d3, dictOf [] 0), (i2, instObj 597 d2), (d2, dictOf [] 0), (i1, instObj 578 d1), (d1, dictOf [] 0), (dx, dictOf es n), (sw, instObj 223 dsw), (dsw, dictOf [] 0), (itv, listOf #[] 0), (itn, oi), (thr, listOf #[] 0), (told, listOf #[] 0), (hx, instObj 117 hdx), (hdx, dictOf hes hn), (tab, oT), (th, listOf #[] 0), (bx, instObj 798 bdx), (bdx, dictOf bes bn), (sl, listOf vs.toArray 0)] := {
    wd := ⟨_, (im (wd, wo) (.head _)), hwd⟩
    m := ⟨stt, _, _, _, (im (x, instObj 447 dx) (.tail _ (.tail _ (.tail _ (.tail _ (.tail _ (.head _))))))), (im (dx, dictOf es n) (.tail _ (.tail _ (.tail _ (.tail _ (.tail _ (.tail _ (.tail _ (.tail _ (.tail _ (.tail _ (.tail _ (.tail _ (.tail _ (.tail _ (.tail _ (.tail _ (.tail _ (.tail _ (.tail _ (.tail _ (.tail _ (.tail _ (.tail _ (.tail _ (.head _)))))))))))))))))))))))))), hsf, hno⟩
    h := (im (hx, instObj 117 hdx) (.tail _ (.tail _ (.tail _ (.tail _ (.tail _ (.tail _ (.tail _ (.tail _ (.tail _ (.tail _ (.tail _ (.tail _ (.tail _ (.tail _ (.tail _ (.tail _ (.tail _ (.tail _ (.tail _ (.tail _ (.tail _ (.tail _ (.tail _ (.tail _ (.tail _ (.tail _ (.tail _ (.tail _ (.head _))))))))))))))))))))))))))))))
    sw := ⟨_, _, _, (im (sw, instObj 223 dsw) (.tail _ (.tail _ (.tail _ (.tail _ (.tail _ (.tail _ (.tail _ (.tail _ (.tail _ (.tail _ (.tail _ (.tail _ (.tail _ (.tail _ (.tail _ (.tail _ (.tail _ (.tail _ (.tail _ (.tail _ (.tail _ (.tail _ (.tail _ (.tail _ (.tail _ (.head _))))))))))))))))))))))))))), (im (dsw, dictOf [] 0) (.tail _ (.tail _ (.tail _ (.tail _ (.tail _ (.tail _ (.tail _ (.tail _ (.tail _ (.tail _ (.tail _ (.tail _ (.tail _ (.tail _ (.tail _ (.tail _ (.tail _ (.tail _ (.tail _ (.tail _ (.tail _ (.tail _ (.tail _ (.tail _ (.tail _ (.tail _ (.head _)))))))))))))))))))))))))))), (fun _ h => nomatch h), fun k hk => by rw [List.mem_singleton.mp hk]; rfl⟩
    nat := ⟨_, (im (nat, on) (.tail _ (.tail _ (.tail _ (.tail _ (.head _)))))), hnat⟩
    n1 := ⟨_, _, _, (im (i1, instObj 578 d1) (.tail _ (.tail _ (.tail _ (.tail _ (.tail _ (.tail _ (.tail _ (.tail _ (.tail _ (.tail _ (.tail _ (.tail _ (.tail _ (.tail _ (.tail _ (.tail _ (.tail _ (.tail _ (.tail _ (.tail _ (.tail _ (.tail _ (.head _)))))))))))))))))))))))), (im (d1, dictOf [] 0) (.tail _ (.tail _ (.tail _ (.tail _ (.tail _ (.tail _ (.tail _ (.tail _ (.tail _ (.tail _ (.tail _ (.tail _ (.tail _ (.tail _ (.tail _ (.tail _ (.tail _ (.tail _ (.tail _ (.tail _ (.tail _ (.tail _ (.tail _ (.head _))))))))))))))))))))))))), (fun _ h => nomatch h), fun k hk => by rw [List.mem_singleton.mp hk]; rfl⟩
    n2 := ⟨_, _, _, (im (i2, instObj 597 d2) (.tail _ (.tail _ (.tail _ (.tail _ (.tail _ (.tail _ (.tail _ (.tail _ (.tail _ (.tail _ (.tail _ (.tail _ (.tail _ (.tail _ (.tail _ (.tail _ (.tail _ (.tail _ (.tail _ (.tail _ (.head _)))))))))))))))))))))), (im (d2, dictOf [] 0) (.tail _ (.tail _ (.tail _ (.tail _ (.tail _ (.tail _ (.tail _ (.tail _ (.tail _ (.tail _ (.tail _ (.tail _ (.tail _ (.tail _ (.tail _ (.tail _ (.tail _ (.tail _ (.tail _ (.tail _ (.tail _ (.head _))))))))))))))))))))))), (fun _ h => nomatch h), fun k hk => by rw [List.mem_singleton.mp hk]; rfl⟩
    n3 := ⟨_, _, _, (im (i3, instObj 616 d3) (.tail _ (.tail _ (.tail _ (.tail _ (.tail _ (.tail _ (.tail _ (.tail _ (.tail _ (.tail _ (.tail _ (.tail _ (.tail _ (.tail _ (.tail _ (.tail _ (.tail _ (.tail _ (.head _)))))))))))))))))))), (im (d3, dictOf [] 0) (.tail _ (.tail _ (.tail _ (.tail _ (.tail _ (.tail _ (.tail _ (.tail _ (.tail _ (.tail _ (.tail _ (.tail _ (.tail _ (.tail _ (.tail _ (.tail _ (.tail _ (.tail _ (.tail _ (.head _))))))))))))))))))))), (fun _ h => nomatch h), fun k hk => by rw [List.mem_singleton.mp hk]; rfl⟩
    n4 := ⟨_, _, _, (im (i4, instObj 635 d4) (.tail _ (.tail _ (.tail _ (.tail _ (.tail _ (.tail _ (.tail _ (.tail _ (.tail _ (.tail _ (.tail _ (.tail _ (.tail _ (.tail _ (.tail _ (.tail _ (.head _)))))))))))))))))), (im (d4, dictOf [] 0) (.tail _ (.tail _ (.tail _ (.tail _ (.tail _ (.tail _ (.tail _ (.tail _ (.tail _ (.tail _ (.tail _ (.tail _ (.tail _ (.tail _ (.tail _ (.tail _ (.tail _ (.head _))))))))))))))))))), (fun _ h => nomatch h), fun k hk => by rw [List.mem_singleton.mp hk]; rfl⟩
    n5 := ⟨_, _, _, (im (i5, instObj 654 d5) (.tail _ (.tail _ (.tail _ (.tail _ (.tail _ (.tail _ (.tail _ (.tail _ (.tail _ (.tail _ (.tail _ (.tail _ (.tail _ (.tail _ (.head _)))))))))))))))), (im (d5, dictOf [] 0) (.tail _ (.tail _ (.tail _ (.tail _ (.tail _ (.tail _ (.tail _ (.tail _ (.tail _ (.tail _ (.tail _ (.tail _ (.tail _ (.tail _ (.tail _ (.head _))))))))))))))))), (fun _ h => nomatch h), fun k hk => by rw [List.mem_singleton.mp hk]; rfl⟩
    n6 := ⟨_, _, _, (im (i6, instObj 673 d6) (.tail _ (.tail _ (.tail _ (.tail _ (.tail _ (.tail _ (.tail _ (.tail _ (.tail _ (.tail _ (.tail _ (.tail _ (.head _)))))))))))))), (im (d6, dictOf [] 0) (.tail _ (.tail _ (.tail _ (.tail _ (.tail _ (.tail _ (.tail _ (.tail _ (.tail _ (.tail _ (.tail _ (.tail _ (.tail _ (.head _))))))))))))))), (fun _ h => nomatch h), fun k hk => by rw [List.mem_singleton.mp hk]; rfl⟩
    n7 := ⟨_, _, _, (im (i7, instObj 692 d7) (.tail _ (.tail _ (.tail _ (.tail _ (.tail _ (.tail _ (.tail _ (.tail _ (.tail _ (.tail _ (.head _)))))))))))), (im (d7, dictOf [] 0) (.tail _ (.tail _ (.tail _ (.tail _ (.tail _ (.tail _ (.tail _ (.tail _ (.tail _ (.tail _ (.tail _ (.head _))))))))))))), (fun _ h => nomatch h), fun k hk => by rw [List.mem_singleton.mp hk]; rfl⟩
    n8 := ⟨_, _, _, (im (i8, instObj 711 d8) (.tail _ (.tail _ (.tail _ (.tail _ (.tail _ (.tail _ (.tail _ (.tail _ (.head _)))))))))), (im (d8, dictOf [] 0) (.tail _ (.tail _ (.tail _ (.tail _ (.tail _ (.tail _ (.tail _ (.tail _ (.tail _ (.head _))))))))))), (fun _ h => nomatch h), fun k hk => by rw [List.mem_singleton.mp hk]; rfl⟩
    n9 := ⟨_, _, _, (im (i9, instObj 730 d9) (.tail _ (.tail _ (.tail _ (.tail _ (.tail _ (.tail _ (.head _)))))))), (im (d9, dictOf [] 0) (.tail _ (.tail _ (.tail _ (.tail _ (.tail _ (.tail _ (.tail _ (.head _))))))))), (fun _ h => nomatch h), fun k hk => by rw [List.mem_singleton.mp hk]; rfl⟩
    told := ⟨_, (im (told, listOf #[] 0) (.tail _ (.tail _ (.tail _ (.tail _ (.tail _ (.tail _ (.tail _ (.tail _ (.tail _ (.tail _ (.tail _ (.tail _ (.tail _ (.tail _ (.tail _ (.tail _ (.tail _ (.tail _ (.tail _ (.tail _ (.tail _ (.tail _ (.tail _ (.tail _ (.tail _ (.tail _ (.tail _ (.head _)))))))))))))))))))))))))))))⟩
    bad := ⟨_, (im (bad, listOf #[] 0) (.tail _ (.head _)))⟩ }
  have H := start (P := P) (u5 := stt) S hinj (fun k => by
    cases k
    · exact D.low M0
    · exact D.low M1
    · exact D.low M2
    · exact D.low M3
    · exact D.low M4
    · exact D.low M5
    · exact D.low M6
    · exact D.low M7) M0 M1 M2 M3 M4 M5 M6 M7 hoT hoi hel her hef (im (t0, tupOf [.int 4 u1, .int 0 u2]) (.tail _ (.tail _ (.tail _ (.head _))))) (im (f0, tupOf [.int 0 u3, .int 0 u4]) (.tail _ (.tail _ (.head _))))
  exact H.add (f := .ent sl (listOf vs.toArray 0)) fun _ _ _ => (im (sl, listOf vs.toArray 0) (.tail _ (.tail _ (.tail _ (.tail _ (.tail _ (.tail _ (.tail _ (.tail _ (.tail _ (.tail _ (.tail _ (.tail _ (.tail _ (.tail _ (.tail _ (.tail _ (.tail _ (.tail _ (.tail _ (.tail _ (.tail _ (.tail _ (.tail _ (.tail _ (.tail _ (.tail _ (.tail _ (.tail _ (.tail _ (.tail _ (.tail _ (.head _)))))))))))))))))))))))))))))))))
theorem build {w : World} {wd bad fx f0 tx t0 nat x i9 d9 i8 d8 i7 d7 i6 d6 i5 d5 i4 d4 i3 d3 i2 d2 i1 d1 dx sw dsw itv itn thr told hx hdx tab th bx bdx sl : Addr} {wo on oi oT : Obj} {es hes bes : List DictEntry} {n hn bn : Nat} {vs : List Value} {u1 u2 u3 u4 ht1 ht2 ht3 stt : Tok}
    (D : Ds [(wd, wo), (bad, listOf #[] 0), (fx, listOf #[.ref f0] 0), (f0, tupOf [.int 0 u3, .int 0 u4]), (tx, listOf #[.ref t0] 0), (t0, tupOf [.int 4 u1, .int 0 u2]), (nat, on), (x, instObj 447 dx), (i9, instObj 730 d9), (d9, dictOf [] 0), (i8, instObj 711 d8), (d8, dictOf [] 0), (i7, instObj 692 d7), (d7, dictOf [] 0), (i6, instObj 673 d6), (d6, dictOf [] 0), (i5, instObj 654 d5), (d5, dictOf [] 0), (i4, instObj 635 d4), (d4, dictOf [] 0), (i3, instObj 616 d3), (d3, dictOf [] 0), (i2, instObj 597 d2), (d2, dictOf [] 0), (i1, instObj 578 d1), (d1, dictOf [] 0), (dx, dictOf es n), (sw, instObj 223 dsw), (dsw, dictOf [] 0), (itv, listOf #[] 0), (itn, oi), (thr, listOf #[] 0), (told, listOf #[] 0), (hx, instObj 117 hdx), (hdx, dictOf hes hn), (tab, oT), (th, listOf #[] 0), (bx, instObj 798 bdx), (bdx, dictOf bes bn), (sl, listOf vs.toArray 0)])
    (hwd : wo.IsDictOf (PySem.strKind PR w) [("m", .ref x), ("texts", .ref tx), ("facts", .ref fx), ("bad", .ref bad)])
    (hnat : on.IsDictOf (intKind PR w) [(1, .ref i1), (2, .ref i2), (3, .ref i3), (4, .ref i4), (5, .ref i5), (6, .ref i6), (7, .ref i7), (8, .ref i8), (9, .ref i9)])
    (hoi : oi.IsDictOf (PySem.strKind PR w) []) (hoT : oT.IsDictOf (intKind PR w) []) (hel : hes.length ≤ 50) (her : hes.any (·.refKey) = false)
    (hef : ∀ p ∈ [(("things" : Str), Value.ref th), ("at", .ref tab), ("top", .int 16 ht1), ("fresh", .int 0 ht2), ("made", .int 0 ht3)], getL p.1 hes = some (some p.2))
    (hsf : ∀ p ∈ [(("heap" : Str), Value.ref hx), ("natives", .ref nat), ("thrown", .ref thr), ("told", .ref told), ("interned", .ref itn), ("internv", .ref itv), ("sweeper", .ref sw), ("state", .int 0 stt)], getL p.1 es = some (some p.2))
    (hno : ∀ k ∈ [("alloc" : Str), "text_of", "text_ref", "new_text", "throw_new"], getL k es = some none) :
    Hs w (mkP wd x hx nat told bad sw i1 i2 i3 i4 i5 i6 i7 i8 i9 hdx th tab itn itv thr tx fx) [] ⟨[(t0, 0, none)], [], 0, [(0, 0)]⟩ [(wd, wo), (bad, listOf #[] 0), (fx, listOf #[.ref f0] 0), (f0, tupOf [.int 0 u3, .int 0 u4]), (tx, listOf #[.ref t0] 0), (t0, tupOf [.int 4 u1, .int 0 u2]), (nat, on), (x, instObj 447 dx), (i9, instObj 730 d9), (d9, dictOf [] 0), (i8, instObj 711 d8), (d8, dictOf [] 0), (i7, instObj 692 d7), (d7, dictOf [] 0), (i6, instObj 673 d6), (d6, dictOf [] 0), (i5, instObj 654 d5), (d5, dictOf [] 0), (i4, instObj 635 d4), (d4, dictOf [] 0), (i3, instObj 616 d3), (d3, dictOf [] 0), (i2, instObj 597 d2), (d2, dictOf [] 0), (i1, instObj 578 d1), (d1, dictOf [] 0), (dx, dictOf es n), (sw, instObj 223 dsw), (dsw, dictOf [] 0), (itv, listOf #[] 0), (itn, oi), (thr, listOf #[] 0), (told, listOf #[] 0), (hx, instObj 117 hdx), (hdx, dictOf hes hn), (tab, oT), (th, listOf #[] 0), (bx, instObj 798 bdx), (bdx, dictOf bes bn), (sl, listOf vs.toArray 0)] [.ent sl (listOf vs.toArray 0)] := build_r (((((((((((((((((((((((((((((((((((((((((((((((((((((((((((w, wd), bad), fx), f0), tx), t0), nat), x), i9), d9), i8), d8), i7), d7), i6), d6), i5), d5), i4), d4), i3), d3), i2), d2), i1), d1), dx), sw), dsw), itv), itn), thr), told), hx), hdx), tab), th), bx), bdx), sl), wo), on), oi), oT), es), hes), bes), n), hn), bn), vs), u1), u2), u3), u4), ht1), ht2), ht3), stt) D hwd hnat hoi hoT hel her hef hsf hno

end Mine
end U6_
section S22_
namespace Mine

section
variable {w : World} {A : Around} {h₀ : Heap} {L : Addr} {m : Str → Option Value} {hp : Heap} {gn : Array GenState} {dr : Drawn} {tk : Nat} {oS : OsState} {P : Pl} {X news led : Led} {st : St} {σ : Sg} {Φ : List Fact} {Q E : Value → Shared → Prop}

def law_keep7_S (a : Addr) (na : Nat) (x : Str) : Prop := ∀ (O : Ok w A h₀ L 20) (F : Fr h₀ L hp m) (N : News h₀ L hp (X ++ news)) (H : Hs w P X st news Φ) (ha : Fact.tv a na (some x) ∈ Φ) (za : x.length ≤ 6) (hz : st.T.length ≤ 999) (hz2 : st.fc.length ≤ 999) (hret : ∀ news' h' tk', Fr h₀ L h' m → News h₀ L h' (X ++ news') → Hs w P X ⟨st.T ++ [(a, na, some x)], st.th, st.b, st.fc ++ [(((x.length : Nat) : Int), hashS x)]⟩ news' Φ → Q .none ⟨h', gn, dr, tk', oS⟩), wpAny (model PR w) A (call (.ref 886) [.ref P.w, .ref a]) Q E ⟨hp, gn, dr, tk, oS⟩
theorem law_keep7_r : ∀ r : (((HT17 × Addr) × Nat) × Str), (c17 (@law_keep7_S) r.1.1.1) r.1.1.2 r.1.2 r.2 := by
  refine ep_all (ne := by walk_at "NE") ((?_ : ∀ w A h₀ L m hp gn dr tk oS P X news st Φ Q E a na x, @law_keep7_S w A h₀ L m hp gn dr tk oS P X news st Φ Q E a na x) _ _ _ _ _ _ _ _ _ _ _ _ _ _ _ _ _ _ _ _)
  intro w A h₀ L m hp gn dr tk oS P X news st Φ Q E a na x O F N H ha za hz hz2 hret
  refine' callfE (d := 19) ["w", "x"] ["many"] ["_law_long", "_law_number", "N_STR_HASH"] [some (.ref P.w), some (.ref a), none] O F N ?ho ?hcd ?hb ?hl ?hS ?hc ?hv ["w", "x", "many"] ?hpm ?_
  walk_at "ENTERE"
  (clear r33; clear r7 Z62 Z307; clear s35 law_long; clear r124; clear r32; clear r41; clear s9 lt_int; clear r129; clear r133; clear s19 x_expr; clear s1 e_meth; clear r11; clear s30 w_texts; clear s6 gm_textsH; clear s7 cbm; clear s36 texts_addH; clear s19 x_expr; clear s1 e_meth; clear r11; clear s30 w_facts; clear s6 gm_factsH; clear s23 c_bmt; clear r127; clear s9 Tuple_; clear r126; clear r127; clear r8; clear r1 Z58; clear r109 Z303; clear r126; clear r127; clear r1 Z49; clear r127; clear r28; clear s15 newList_H; clear r125; clear r128; ((with_reducible refine num_hash ‹8› ‹_› ‹_› ‹_› ‹0› ‹0› ?za ?_); (case za => (first | assumption | lia | (dsimp only; lia))); intro t' n' h' tk' F' N' H'); clear r125; clear r122; clear r125; clear s36 facts_addH; clear s9 wpAny_execs_nil; clear s9 Thn.next; clear s9 wpAny_execs_nil; clear s12 Ret.nil)
  exact hret _ _ _ kF kN (H'.sub (by intro f hf; repeat (first | exact hf | refine List.mem_cons_of_mem _ ?_)))
theorem law_keep7 {a na x} (O : Ok w A h₀ L 20) (F : Fr h₀ L hp m) (N : News h₀ L hp (X ++ news)) (H : Hs w P X st news Φ) (ha : Fact.tv a na (some x) ∈ Φ) (za : x.length ≤ 6) (hz : st.T.length ≤ 999) (hz2 : st.fc.length ≤ 999)
    (hret : ∀ news' h' tk', Fr h₀ L h' m → News h₀ L h' (X ++ news') → Hs w P X ⟨st.T ++ [(a, na, some x)], st.th, st.b, st.fc ++ [(((x.length : Nat) : Int), hashS x)]⟩ news' Φ → Q .none ⟨h', gn, dr, tk', oS⟩) :
    wpAny (model PR w) A (call (.ref 886) [.ref P.w, .ref a]) Q E ⟨hp, gn, dr, tk, oS⟩ := law_keep7_r (((((((((((((((((((w, A), h₀), L), m), hp), gn), dr), tk), oS), P), X), news), st), Φ), Q), E), a), na), x) O F N H ha za hz hz2 hret

theorem c_eqE {x y : Addr} {Q : Value → Shared → Prop} (O : Ok w A h₀ L 9) (N : News h₀ L hp (X ++ news)) (H : Hs w P X st news Φ) (hx : ∃ n, (x, listOf #[] n) ∈ news) (hy : Fact.ls y [] ∈ Φ) (h : Q (.bool true) ⟨hp, gn, dr, tk, oS⟩) :
    wpAny (model PR w) A (compareOp .Eq (.ref x) (.ref y)) Q E ⟨hp, gn, dr, tk, oS⟩ := by
  obtain ⟨n, hx⟩ := hx
  obtain ⟨_, _, k, j⟩ := H.says hy
  have r1 : Reads hp (.ref x) (.list []) [x] := reads_list_at (N _ (List.mem_append_right _ hx)).1 rfl rfl .nil
  have r2 : Reads hp (.ref y) (.list []) [y] := reads_list_at (N _ (List.mem_append_right _ j.1)).1 rfl rfl .nil
  exact eq_dataH r1 r2 rfl rfl (by have := O.units; show _ < 9900; lia) h
theorem bad_nil (H : Hs w P X st news Φ) : ∃ n, (P.bad, listOf #[] n) ∈ news := let ⟨n, h⟩ := H.sta.bad; ⟨n, h.1⟩
theorem told_nil (H : Hs w P X st news Φ) : ∃ n, (P.told, listOf #[] n) ∈ news := let ⟨n, h⟩ := H.sta.told; ⟨n, h.1⟩
theorem thrown_nil (H : Hs w P X st news Φ) (h : st.th = []) : ∃ n, (P.adr .thrown, listOf #[] n) ∈ news := by
  obtain ⟨σ, mem, pool, R, I, T, Fc⟩ := H
  obtain ⟨o, ho, n, rfl⟩ := R.mu .thrown
  have e : σ.thrown = [] := by
    have := T.th.length
    rw [h] at this
    exact List.length_eq_zero_iff.mp (by simpa using this)
  rw [e] at ho
  exact ⟨n, ho⟩
def US : List (List Int) := [[], [97, 98], [97, 98, 97], [98], [97, 55357], [56832, 98], [97, 55357, 56832, 98], [65535, 0], [97, 98]]
def UnP (Φ : List Fact) (us : List Int) (v : Value) : Prop := ∃ l vs, v = .ref l ∧ Fact.ls l vs ∈ Φ ∧ IntsAre vs us
structure Nine (t0 : Addr) (j : Nat) (st : St) (Φ' : List Fact) : Prop where
  th : st.th = []
  b : st.b ≤ j
  len : st.T.length = j + 1
  fl : st.fc.length = j + 1
  t0 : st.T[0]? = some (t0, 0, none)
  row : ∀ i, i < j → ∃ a n, st.T[i + 1]? = some (a, n, some (ofU (US.getD i []))) ∧ st.fc[i + 1]? = some ((((ofU (US.getD i [])).length : Nat) : Int), hashS (ofU (US.getD i []))) ∧ Fact.priv n ∈ Φ'
theorem Nine.step {t0 a : Addr} {n j b : Nat} {st : St} {Φ Φ' : List Fact} (G : Nine t0 j st Φ) (hs : ∀ f ∈ Φ, f ∈ Φ') (hp : Fact.priv n ∈ Φ') (hb : b ≤ j + 1) :
    Nine t0 (j + 1) ⟨st.T ++ [(a, n, some (ofU (US.getD j [])))], st.th, b, st.fc ++ [((((ofU (US.getD j [])).length : Nat) : Int), hashS (ofU (US.getD j [])))]⟩ Φ' := by
  have h1 := G.len
  have h2 := G.fl
  refine ⟨G.th, hb, by simp [h1], by simp [h2], ?_, fun i hi => ?_⟩
  · show (st.T ++ _)[0]? = _
    rw [List.getElem?_append_left (by lia)]; exact G.t0
  · show ∃ a' n', (st.T ++ _)[i + 1]? = _ ∧ (st.fc ++ _)[i + 1]? = _ ∧ _
    by_cases e : i < j
    · obtain ⟨a', n', r1, r2, r3⟩ := G.row i e
      exact ⟨a', n', by rw [List.getElem?_append_left (by lia)]; exact r1, by rw [List.getElem?_append_left (by lia)]; exact r2, hs _ r3⟩
    · have e : i = j := by lia
      subst e
      refine ⟨a, n, ?_, ?_, hp⟩
      · rw [List.getElem?_append_right (by lia), h1, Nat.sub_self]; rfl
      · rw [List.getElem?_append_right (by lia), h2, Nat.sub_self]; rfl
theorem us_ok : ∀ us ∈ US, (∀ u ∈ us, 0 ≤ u ∧ u ≤ 1114111) ∧ us.length ≤ 6 := by decide
theorem us_get {j : Nat} (h : j < 9) : US.getD j [] ∈ US := by
  rw [List.getD_eq_getElem?_getD, List.getElem?_eq_getElem (show j < US.length from h)]
  exact List.getElem_mem _
theorem Nine.good {t0 : Addr} {st : St} {Φ : List Fact} (G : Nine t0 9 st Φ) : Good Φ 0 st := by
  have row := fun i (h : i < 9) => G.row i h
  have lenU : ∀ i, i < 9 → (ofU (US.getD i [])).length ≤ 6 := fun i h => by rw [ofU_len]; exact (us_ok _ (us_get h)).2
  refine ⟨G.th, ⟨⟨t0, G.t0⟩, ?_, ?_, ?_, ?_, ?_⟩, by rw [G.len]; lia, by rw [G.fl, G.len], ?_, by have := G.b; lia⟩
  · obtain ⟨a, n, r, -, p⟩ := row 0 (by lia)
    refine ⟨a, n, ?_, p⟩
    rw [show (("" : Str)) = ofU [] from (str_ext rfl)]; exact r
  · obtain ⟨a, n, r, -, p⟩ := row 2 (by lia); exact ⟨a, n, _, r, lenU 2 (by lia)⟩
  · obtain ⟨a, n, r, -, p⟩ := row 3 (by lia); exact ⟨a, n, _, r, lenU 3 (by lia)⟩
  · obtain ⟨a, n, r, -, p⟩ := row 4 (by lia); exact ⟨a, n, _, r, lenU 4 (by lia)⟩
  · obtain ⟨a, n, r, -, p⟩ := row 5 (by lia); exact ⟨a, n, _, r, ofU_len _⟩
  · intro i a n os hi h
    have hl := (List.getElem?_eq_some_iff.mp h).1
    rw [G.len] at hl
    obtain ⟨a', n', r1, r2, -⟩ := row (i - 1) (by lia)
    rw [show i - 1 + 1 = i by lia] at r1 r2
    rw [h] at r1
    cases r1
    exact ⟨_, rfl, lenU (i - 1) (by lia), r2⟩
theorem Good.at {Φ : List Fact} {k : Nat} {st : St} (G : Good Φ k st) {i : Nat} (h0 : 0 < i) (h1 : i < 10) : ∃ a n x, st.T[i]? = some (a, n, some x) ∧ x.length ≤ 6 := by
  have := G.ten
  have hlt : i < st.T.length := by lia
  obtain ⟨⟨a, n, os⟩, hx⟩ : ∃ x, st.T[i]? = some x := ⟨_, List.getElem?_eq_getElem hlt⟩
  obtain ⟨x, rfl, hl, -⟩ := G.row i a n os h0 hx
  exact ⟨a, n, x, hx, hl⟩

end
section
variable {w : World} {A : Around} {h₀ : Heap} {L : Addr} {m : Str → Option Value} {hp : Heap} {gn : Array GenState} {dr : Drawn} {tk : Nat} {oS : OsState} {P : Pl} {X news led : Led} {st : St} {σ : Sg} {Φ : List Fact} {Q E : Value → Shared → Prop}
variable {g : Heap} {fname : Str} {scope : Scope} {cd : Value} {ns gs : List Str} {vals : List (Option Value)} {a : Addr}
def for_units_S (x : Str) (body : List Stmt) (Qf : Flow → Shared → Prop) (l t0 : Addr) (vs : List Value) (VI : List (Option Value) → Prop) : Prop := ∀ (hh : A.handled = none) (F : Fr g L hp (lc ns vals)) (N : News g L hp (X ++ news)) (H : Hs w P X st news Φ) (hl : Fact.tu l vs ∈ Φ) (hall : ∀ j v, vs[j]? = some v → UnP Φ (US.getD j []) v) (hn : vs.length = 9) (h0 : Nine t0 0 st Φ) (hv0 : VI vals) (turn : ∀ (i : Nat) (v : Value) h' tk' X' vals st' news Φ', i < 9 → UnP Φ' (US.getD i []) v → VI vals → Nine t0 i st' Φ' → Fr g L h' (fun y => if y = x then some v else lc ns vals y) → News g L h' (X' ++ news) → Hs w P X' st' news (.ent l (tupOf vs) :: Φ') →
      wpAny (model PR w) A (execs body (envOf fname scope L a cd)) (Bd w P g L ns X' [.ent l (tupOf vs)] gn dr oS (fun vals st'' Φ'' => VI vals ∧ Nine t0 (i + 1) st'' Φ'' ∧ ∀ f ∈ Φ', f ∈ Φ'') Qf) E ⟨h', gn, dr, tk', oS⟩) (done : ∀ h' tk' vals st' news Φ', VI vals → Nine t0 9 st' Φ' → (∀ f ∈ Φ, f ∈ Φ') → Fr g L h' (lc ns vals) → News g L h' (X ++ news) → Hs w P X st' news Φ' → Qf .next ⟨h', gn, dr, tk', oS⟩), ForIt w A g (envOf fname scope L a cd) x body Qf E (.ref l) ⟨hp, gn, dr, tk, oS⟩
theorem for_units_r : ∀ r : (((((((((((((((((((((((((((World × Around) × Addr) × Heap) × (Array GenState)) × Drawn) × Nat) × OsState) × Pl) × Led) × Led) × Mine.St) × (List Fact)) × (Value → Shared → Prop)) × Heap) × Str) × Scope) × Value) × (List Str)) × (List (Option Value))) × Addr) × Str) × (List Stmt)) × (Flow → Shared → Prop)) × Addr) × Addr) × (List Value)) × (List (Option Value) → Prop)), @for_units_S r.1.1.1.1.1.1.1.1.1.1.1.1.1.1.1.1.1.1.1.1.1.1.1.1.1.1.1 r.1.1.1.1.1.1.1.1.1.1.1.1.1.1.1.1.1.1.1.1.1.1.1.1.1.1.2 r.1.1.1.1.1.1.1.1.1.1.1.1.1.1.1.1.1.1.1.1.1.1.1.1.1.2 r.1.1.1.1.1.1.1.1.1.1.1.1.1.1.1.1.1.1.1.1.1.1.1.1.2 r.1.1.1.1.1.1.1.1.1.1.1.1.1.1.1.1.1.1.1.1.1.1.1.2 r.1.1.1.1.1.1.1.1.1.1.1.1.1.1.1.1.1.1.1.1.1.1.2 r.1.1.1.1.1.1.1.1.1.1.1.1.1.1.1.1.1.1.1.1.1.2 r.1.1.1.1.1.1.1.1.1.1.1.1.1.1.1.1.1.1.1.1.2 r.1.1.1.1.1.1.1.1.1.1.1.1.1.1.1.1.1.1.1.2 r.1.1.1.1.1.1.1.1.1.1.1.1.1.1.1.1.1.1.2 r.1.1.1.1.1.1.1.1.1.1.1.1.1.1.1.1.1.2 r.1.1.1.1.1.1.1.1.1.1.1.1.1.1.1.1.2 r.1.1.1.1.1.1.1.1.1.1.1.1.1.1.1.2 r.1.1.1.1.1.1.1.1.1.1.1.1.1.1.2 r.1.1.1.1.1.1.1.1.1.1.1.1.1.2 r.1.1.1.1.1.1.1.1.1.1.1.1.2 r.1.1.1.1.1.1.1.1.1.1.1.2 r.1.1.1.1.1.1.1.1.1.1.2 r.1.1.1.1.1.1.1.1.1.2 r.1.1.1.1.1.1.1.1.2 r.1.1.1.1.1.1.1.2 r.1.1.1.1.1.1.2 r.1.1.1.1.1.2 r.1.1.1.1.2 r.1.1.1.2 r.1.1.2 r.1.2 r.2 := by
  refine ep_all (ne := by walk_at "NE") ((?_ : ∀ w A L hp gn dr tk oS P X news st Φ E g fname scope cd ns vals a x body Qf l t0 vs VI, @for_units_S w A L hp gn dr tk oS P X news st Φ E g fname scope cd ns vals a x body Qf l t0 vs VI) _ _ _ _ _ _ _ _ _ _ _ _ _ _ _ _ _ _ _ _ _ _ _ _ _ _ _ _)
  intro w A L hp gn dr tk oS P X news st Φ E g fname scope cd ns vals a x body Qf l t0 vs VI hh F N H hl hall hn h0 hv0 turn done
  refine for_tup hh F N H hl (fun i vals st' Φ' => VI vals ∧ Nine t0 i st' Φ' ∧ ∀ f ∈ Φ, f ∈ Φ') ⟨hv0, h0, fun f hf => hf⟩ ?_ ?_
  · rintro i v h' tk' X' vals st' news Φ' hi hv ⟨h1, h2, h3⟩ hX F N H
    obtain ⟨l', vs', e, h4, h5⟩ := hall i v hv
    refine wpAny_mono (turn i v h' tk' X' vals st' news Φ' (by lia) ⟨l', vs', e, h3 _ h4, h5⟩ h1 h2 F N H) (fun f s hf => ?_) fun _ _ e => e
    cases f with
    | ret v => exact hf
    | brk => exact hf
    | next => obtain ⟨h', tk', vals, news, st, Φ2, e, F, N, H, q1, q2, q3⟩ := hf; exact ⟨h', tk', vals, news, st, Φ2, e, F, N, H, q1, q2, fun f hf => q3 f (h3 f hf)⟩
    | cont => obtain ⟨h', tk', vals, news, st, Φ2, e, F, N, H, q1, q2, q3⟩ := hf; exact ⟨h', tk', vals, news, st, Φ2, e, F, N, H, q1, q2, fun f hf => q3 f (h3 f hf)⟩
  · rintro h' tk' vals st' news Φ' ⟨h1, h2, h3⟩ F N H
    rw [hn] at h2
    exact done h' tk' vals st' news Φ' h1 h2 h3 F N (H.sub fun f hf => .tail _ hf)
theorem for_units {x : Str} {body : List Stmt} {Qf : Flow → Shared → Prop} {l t0 : Addr} {vs : List Value} (hh : A.handled = none) (F : Fr g L hp (lc ns vals)) (N : News g L hp (X ++ news)) (H : Hs w P X st news Φ) (hl : Fact.tu l vs ∈ Φ)
    (hall : ∀ j v, vs[j]? = some v → UnP Φ (US.getD j []) v) (hn : vs.length = 9) (h0 : Nine t0 0 st Φ) (VI : List (Option Value) → Prop) (hv0 : VI vals)
    (turn : ∀ (i : Nat) (v : Value) h' tk' X' vals st' news Φ', i < 9 → UnP Φ' (US.getD i []) v → VI vals → Nine t0 i st' Φ' → Fr g L h' (fun y => if y = x then some v else lc ns vals y) → News g L h' (X' ++ news) → Hs w P X' st' news (.ent l (tupOf vs) :: Φ') →
      wpAny (model PR w) A (execs body (envOf fname scope L a cd)) (Bd w P g L ns X' [.ent l (tupOf vs)] gn dr oS (fun vals st'' Φ'' => VI vals ∧ Nine t0 (i + 1) st'' Φ'' ∧ ∀ f ∈ Φ', f ∈ Φ'') Qf) E ⟨h', gn, dr, tk', oS⟩)
    (done : ∀ h' tk' vals st' news Φ', VI vals → Nine t0 9 st' Φ' → (∀ f ∈ Φ, f ∈ Φ') → Fr g L h' (lc ns vals) → News g L h' (X ++ news) → Hs w P X st' news Φ' → Qf .next ⟨h', gn, dr, tk', oS⟩) :
    ForIt w A g (envOf fname scope L a cd) x body Qf E (.ref l) ⟨hp, gn, dr, tk, oS⟩ := for_units_r (((((((((((((((((((((((((((w, A), L), hp), gn), dr), tk), oS), P), X), news), st), Φ), E), g), fname), scope), cd), ns), vals), a), x), body), Qf), l), t0), vs), VI) hh F N H hl hall hn h0 hv0 turn done

end
section
variable {w : World} {A : Around} {h₀ : Heap} {L : Addr} {m : Str → Option Value} {hp : Heap} {gn : Array GenState} {dr : Drawn} {tk : Nat} {oS : OsState} {P : Pl} {X news led : Led} {st : St} {σ : Sg} {Φ : List Fact} {Q E : Value → Shared → Prop}

theorem build_k {G : Prop} {h : Heap} {wd bad fx f0 tx t0 nat x i9 d9 i8 d8 i7 d7 i6 d6 i5 d5 i4 d4 i3 d3 i2 d2 i1 d1 dx sw dsw itv itn thr told hx hdx tab th bx bdx sl : Addr} {wo on oi oT : Obj} {es hes bes : List DictEntry} {n hn bn : Nat} {vs : List Value} {u1 u2 u3 u4 ht1 ht2 ht3 stt : Tok}
    (N : News h₀ L h ([(wd, wo), (bad, listOf #[] 0), (fx, listOf #[.ref f0] 0), (f0, tupOf [.int 0 u3, .int 0 u4]), (tx, listOf #[.ref t0] 0), (t0, tupOf [.int 4 u1, .int 0 u2]), (nat, on), (x, instObj 447 dx), (i9, instObj 730 d9), (d9, dictOf [] 0), (i8, instObj 711 d8), (d8, dictOf [] 0), (i7, instObj 692 d7), (d7, dictOf [] 0), (i6, instObj 673 d6), (d6, dictOf [] 0), (i5, instObj 654 d5), (d5, dictOf [] 0), (i4, instObj 635 d4), (d4, dictOf [] 0), (i3, instObj 616 d3), (d3, dictOf [] 0), (i2, instObj 597 d2), (d2, dictOf [] 0), (i1, instObj 578 d1), (d1, dictOf [] 0), (dx, dictOf es n), (sw, instObj 223 dsw), (dsw, dictOf [] 0), (itv, listOf #[] 0), (itn, oi), (thr, listOf #[] 0), (told, listOf #[] 0), (hx, instObj 117 hdx), (hdx, dictOf hes hn), (tab, oT), (th, listOf #[] 0), (bx, instObj 798 bdx), (bdx, dictOf bes bn), (sl, listOf vs.toArray 0)])) (D : Ds [(wd, wo), (bad, listOf #[] 0), (fx, listOf #[.ref f0] 0), (f0, tupOf [.int 0 u3, .int 0 u4]), (tx, listOf #[.ref t0] 0), (t0, tupOf [.int 4 u1, .int 0 u2]), (nat, on), (x, instObj 447 dx), (i9, instObj 730 d9), (d9, dictOf [] 0), (i8, instObj 711 d8), (d8, dictOf [] 0), (i7, instObj 692 d7), (d7, dictOf [] 0), (i6, instObj 673 d6), (d6, dictOf [] 0), (i5, instObj 654 d5), (d5, dictOf [] 0), (i4, instObj 635 d4), (d4, dictOf [] 0), (i3, instObj 616 d3), (d3, dictOf [] 0), (i2, instObj 597 d2), (d2, dictOf [] 0), (i1, instObj 578 d1), (d1, dictOf [] 0), (dx, dictOf es n), (sw, instObj 223 dsw), (dsw, dictOf [] 0), (itv, listOf #[] 0), (itn, oi), (thr, listOf #[] 0), (told, listOf #[] 0), (hx, instObj 117 hdx), (hdx, dictOf hes hn), (tab, oT), (th, listOf #[] 0), (bx, instObj 798 bdx), (bdx, dictOf bes bn), (sl, listOf vs.toArray 0)])
    (hwd : wo.IsDictOf (PySem.strKind PR w) [("m", .ref x), ("texts", .ref tx), ("facts", .ref fx), ("bad", .ref bad)])
    (hnat : on.IsDictOf (intKind PR w) [(1, .ref i1), (2, .ref i2), (3, .ref i3), (4, .ref i4), (5, .ref i5), (6, .ref i6), (7, .ref i7), (8, .ref i8), (9, .ref i9)])
    (hoi : oi.IsDictOf (PySem.strKind PR w) []) (hoT : oT.IsDictOf (intKind PR w) []) (hel : hes.length ≤ 50) (her : hes.any (·.refKey) = false)
    (hef : ∀ p ∈ [(("things" : Str), Value.ref th), ("at", .ref tab), ("top", .int 16 ht1), ("fresh", .int 0 ht2), ("made", .int 0 ht3)], getL p.1 hes = some (some p.2))
    (hsf : ∀ p ∈ [(("heap" : Str), Value.ref hx), ("natives", .ref nat), ("thrown", .ref thr), ("told", .ref told), ("interned", .ref itn), ("internv", .ref itv), ("sweeper", .ref sw), ("state", .int 0 stt)], getL p.1 es = some (some p.2))
    (hno : ∀ k ∈ [("alloc" : Str), "text_of", "text_ref", "new_text", "throw_new"], getL k es = some none)
    (k : ∀ P news, P.w = wd → P.m = x → News h₀ L h ([] ++ news) → Hs w P [] ⟨[(t0, 0, none)], [], 0, [(0, 0)]⟩ news [.ent sl (listOf vs.toArray 0)] → G) : G :=
  k (mkP wd x hx nat told bad sw i1 i2 i3 i4 i5 i6 i7 i8 i9 hdx th tab itn itv thr tx fx) _ rfl rfl N (build (u3 := u3) (u4 := u4) (u1 := u1) (u2 := u2) D hwd hnat hoi hoT hel her hef hsf hno)

end
end Mine
end S22_
section F1_
namespace Mine

set_option hygiene false in
local macro_rules | `(tactic| walk_at "ENTER") => `(tactic| ((case ho => k_is); (case hcd => k_is); (case hb => exact rfl); (case hl => exact rfl); (case hS => exact rfl); (case hc => exact rfl); (case hv => exact rfl); (case hpm => exact rfl); ((try clear F' N'); intro g' L' h' tk' p' lo' me' mg' mb' S' O' X' T' F' N'); have Z' := Zn.mk S' X' ⟨_, _, _, _, _, T'⟩))
local macro_rules | `(tactic| k_qdec) => `(tactic| decide +kernel)
theorem fin_all : PySem.Challenge.rw_xm0268_01.Holds := hd ⟨leftO _ _, by
  k_go0
  · refine law_goE ‹_› ‹_› ‹_› ‹_› (by lia) ‹_› ‹_› ["Shelf", "BareHost", "Heap", "install_native_text", "V_REF", "_law_keep", "_law_units", "_law_known", "_law_cuts", "_law_seam", "_law_index", "_law_ordered", "_law_step", "range", "len", "_law_long", "_law_number", "N_STR_HASH", "ST_RUN"] rfl ?post ((?_ : LawAll _ _ _) _ _ _ _ _ _ _ _ _ _ _ _ _ _ _ _ _ _)
    case post =>
      intro h tk m led F N
      refine ⟨.inl ⟨.bool true, .bool true, [], rfl, ?p1, ?p2, ?p3, fun _ => ⟨List.nodup_nil, fun _ h => nomatch h⟩⟩, ?p4, ?p5, ?p6⟩
      case p1 => intro cls; rfl
      case p2 => constructor
      case p3 => wrow_post
      case p4 => exact F.keep
      case p5 => exact rfl
      case p6 => assumption
    intro w gn dr oS g h l fa vs us p loose mean mg mb nm cd tk0 S' O' X' T' hl hu hus F' N'
    have D' := Ds.nil
    dsimp only
    (clear r33; clear s9 Subscript_; clear r0; clear s9 wpAny_Slice; clear s9 evalPart_none_step; clear s9 evalPart_some_step; clear r3; clear s9 evalPart_none_step; ((with_reducible show wpAny _ _ (subscriptTail _ _ _ _) _ _ _); ((with_reducible refine slc_T ‹_› ‹_› ‹_› (Top.nolimit ‹_›) ‹_› ‹_› ?hz ?_ ?hs ?ht); (case hz => lia); (case hs => with_unfolding_all exact rfl); (case ht => (intro _; with_unfolding_all rfl)); intro sl' vs' h' F' N' D' hv')); clear r124; clear r33; clear r8; clear r1 Z81; clear r109 Z159; clear r127; clear r8; clear r1 Z82; clear r109 Z210; clear r127; clear s9 wpAny_Constant_none; clear r125; clear r128)
    refine bare_new (O'.le (by decide)) ‹_› ‹_› ‹_› ⟨_, List.mem_cons_self⟩ fun bx bdx bes bn h1 tk1 F1 N1 D1 hkt => ?_
    clear D' F' N'
    (clear r127; clear r8; clear r1 Z83; clear r109 Z111; clear r127; clear r3; clear r127; clear r3; clear r125; clear r128)
    refine heap_new (O'.le (by decide)) ‹_› ‹_› ‹_› ⟨_, List.mem_cons_self⟩ fun hx hdx hes hn tab oT th ht1 ht2 ht3 h2 tk2 F2 N2 D2 hoT hlo hel her hef => ?_
    clear D1 F1 N1
    (clear r125; clear r128)
    refine shelf_new (bx := bx) (bdx := bdx) (O'.le (by decide)) ‹_› ‹_› ‹_› ⟨_, List.mem_cons_self⟩ (.tail _ (.tail _ (.tail _ (.tail _ (.head _))))) (.tail _ (.tail _ (.tail _ (.tail _ (.tail _ (.head _)))))) hkt fun x dx es n sw dsw nat on told thr itn oi itv stt h3 tk3 F3 N3 D3 hon hoi lo1 lo2 hsf hno => ?_
    clear D2 F2 N2
    (clear r124; clear s19 x_expr; clear r8; clear r1 Z84; clear r109 Z326; clear r127; clear r0; clear r125; clear r128)
    have pk := @Pick.there (nat, on) (x, instObj 447 dx) _ _ (.there (q := (dx, dictOf es n)) (.there (q := (sw, instObj 223 dsw)) (.there (q := (dsw, dictOf [] 0)) (.there (q := (itv, listOf #[] 0)) (.there (q := (itn, oi)) (.there (q := (thr, listOf #[] 0)) (.there (q := (told, listOf #[] 0)) (.here (l := [(hx, instObj 117 hdx), (hdx, dictOf hes hn), (tab, oT), (th, listOf #[] 0), (bx, instObj 798 bdx), (bdx, dictOf bes bn), (sl', listOf vs'.toArray 0)])))))))))
    refine install (O'.le (by decide)) ‹_› (pk.news ‹_›) (pk.ds ‹_›) rfl hon (hsf _ (.tail _ (.head _))) fun i1 d1 i2 d2 i3 d3 i4 d4 i5 d5 i6 d6 i7 d7 i8 d8 i9 d9 on' h4 tk4 F4 N4 D4 hnat => ?_
    clear pk D3 N3 F3
    try clear F' N'
    (clear r33)
    refine dict_T ‹_› ‹_› ‹_› (Top.nolimit ‹_›) rfl rfl rfl (by simp) (by decide) fun wd wo h5 F5 N5 D5 => ?_
    clear F4 N4 D4
    ((refine pairTrees_cons_walk ?_); clear s9 e_str; clear r0; (refine pairTrees_cons_walk ?_); clear s9 e_str; clear s9 List_; clear r127; clear s9 Tuple_; clear r127; clear r1 Z20; clear r127; clear r3; clear r125; ((with_reducible refine tup_T ‹_› ‹_› ‹_› (Top.nolimit ‹_›) ?hz ?_); (case hz => exact Nat.le_of_ble_eq_true rfl); (try clear D'); intro l' h' F' N' D'); clear r125; clear s59 list_T; (refine pairTrees_cons_walk ?_); clear s9 e_str; clear s9 List_; clear r127; clear s9 Tuple_; clear r127; clear r3; clear r127; clear r3; clear r125; ((with_reducible refine tup_T ‹_› ‹_› ‹_› (Top.nolimit ‹_›) ?hz ?_); (case hz => exact Nat.le_of_ble_eq_true rfl); (try clear D'); intro l' h' F' N' D'); clear r125; clear s59 list_T; (refine pairTrees_cons_walk ?_); clear s9 e_str; clear s9 List_; clear r125; clear s59 list_T; (refine pairTrees_nil_walk ?_))
    refine ⟨_, _, _, _, rfl, by assumption, by assumption, by assumption, .there (.there (.there (.there (.there .here)))), rfl, of_decide_eq_true rfl, fun h6 wo' F6 N6 D6 hwd => ?_⟩
    clear D' F' N'
    refine build_k (vs := vs') N6 D6 hwd hnat hoi hoT hel her hef hsf hno fun P news eP em N7 H7 => ?_
    clear D6 N6 hwd hnat hoi hoT hel her hef hsf hno
    subst eP em
    (clear r273)
    with_reducible refine mid_use (w := w) (gn := gn) (dr := dr) (oS := oS) (g := g) (L := g.objs.size) ?_ hv' F' N' H7
    refine (?_ : MidAll _ _ _ _ _ _ _ _ _ _ _) _ _ _ _ _ _ _
    intro sl' vs' h' P news tk5 a0 hv' F' N' H'
    (clear r194; clear s9 Tuple_; clear r127; clear s9 List_; clear r125; clear r272; clear r127; clear s9 List_; clear r127; clear r3; clear r127; clear r3; clear r125; clear r272; clear r127; clear s9 List_; clear r127; clear r3; clear r127; clear r3; clear r127; clear r3; clear r125; clear r272; clear r127; clear s9 List_; clear r127; clear r3; clear r125; clear r272; clear r127; clear s9 List_; clear r127; clear r3; clear r127; clear r3; clear r125; clear r272; clear r127; clear s9 List_; clear r127; clear r3; clear r127; clear r3; clear r125; clear r272; clear r127; clear s9 List_; clear r127; clear r3; clear r127; clear r3; clear r127; clear r3; clear r127; clear r3; clear r125; clear r272; clear r127; clear s9 List_; clear r127; clear r3; clear r127; clear r3; clear r125; clear r272; clear r127; clear s9 List_; clear r127; clear r3; clear r127; clear r3; clear r125; clear r272; clear r125; clear r271)
    refine for_units O'.hand ‹_› ‹_› ‹_› (.head _) (fun j v hj => ?_) rfl ⟨rfl, Nat.le_refl _, rfl, rfl, rfl, fun i hi => absurd hi (Nat.not_lt_zero _)⟩ (fun vals => ∃ v, vals = [some (.ref sl'), some (.ref P.m), some (.ref P.w), v, none, none, none]) ⟨_, rfl⟩ ?_ ?_
    · rcases j with _ | j
      · obtain rfl := Option.some.inj hj
        exact ⟨_, _, rfl, by walk_at "IN", by repeat' (first | exact .nil | refine IntsAre.cons _ _ ?_)⟩
      rcases j with _ | j
      · obtain rfl := Option.some.inj hj
        exact ⟨_, _, rfl, by walk_at "IN", by repeat' (first | exact .nil | refine IntsAre.cons _ _ ?_)⟩
      rcases j with _ | j
      · obtain rfl := Option.some.inj hj
        exact ⟨_, _, rfl, by walk_at "IN", by repeat' (first | exact .nil | refine IntsAre.cons _ _ ?_)⟩
      rcases j with _ | j
      · obtain rfl := Option.some.inj hj
        exact ⟨_, _, rfl, by walk_at "IN", by repeat' (first | exact .nil | refine IntsAre.cons _ _ ?_)⟩
      rcases j with _ | j
      · obtain rfl := Option.some.inj hj
        exact ⟨_, _, rfl, by walk_at "IN", by repeat' (first | exact .nil | refine IntsAre.cons _ _ ?_)⟩
      rcases j with _ | j
      · obtain rfl := Option.some.inj hj
        exact ⟨_, _, rfl, by walk_at "IN", by repeat' (first | exact .nil | refine IntsAre.cons _ _ ?_)⟩
      rcases j with _ | j
      · obtain rfl := Option.some.inj hj
        exact ⟨_, _, rfl, by walk_at "IN", by repeat' (first | exact .nil | refine IntsAre.cons _ _ ?_)⟩
      rcases j with _ | j
      · obtain rfl := Option.some.inj hj
        exact ⟨_, _, rfl, by walk_at "IN", by repeat' (first | exact .nil | refine IntsAre.cons _ _ ?_)⟩
      rcases j with _ | j
      · obtain rfl := Option.some.inj hj
        exact ⟨_, _, rfl, by walk_at "IN", by repeat' (first | exact .nil | refine IntsAre.cons _ _ ?_)⟩
      cases hj
    · rintro i v hh1 tk1 X1 _ st1 nn1 Φ1 hi ⟨ul, uvs, rfl, hls, hui⟩ ⟨v0, rfl⟩ G F1 N1 H1
      have F2 := fr_put S' F1 (by walk_at "PUT")
      clear F1
      obtain ⟨hr, hu6⟩ := us_ok _ (us_get hi)
      have hul := ofU_len (US.getD i [])
      have gl := G.len
      have gf := G.fl
      have gb := G.b
      (clear s19 x_expr; clear r8; clear r1 Z68; clear r109 Z313; clear r127; clear r0; clear r127; clear s1 e_meth; clear r0; clear s4 mm_new_text; clear s14 c_mth Z333; clear r127; clear r8; clear r1 Z71; clear r109 Z316; clear r127; clear r0; clear r125; clear r128; ((with_reducible refine law_unitsL ‹8› ‹_› ‹_› ‹_› ‹0› ‹_› ‹_› ?hz ?_); (case hz => (first | assumption | lia | (dsimp only; lia))); ((try clear H'); (try clear F' N'); intro t' n' h' tk' F' N' H')); clear r125; clear r128; clear s51 new_textS; clear r125; clear r128; ((with_reducible refine law_keep7 ‹8› ‹_› ‹_› ‹_› ‹0› ?za ?hz ?hz2 ?_); (case za => (first | assumption | lia | (dsimp only; lia))); (case hz => (first | assumption | lia | (dsimp only; lia))); (case hz2 => (first | assumption | lia | (dsimp only; lia))); ((try clear H'); (try clear F' N'); intro n' h' tk' F' N' H')); clear s9 wpAny_execs_nil)
      exact Bd.next (Fact.priv k' :: Φ1) ‹_› ‹_› H' (List.forall_mem_cons.mpr ⟨by walk_at "IN", List.forall_mem_cons.mpr ⟨by walk_at "IN", fun f hf => by walk_at "IN"⟩⟩) ⟨⟨_, rfl⟩, G.step (fun f hf => .tail _ hf) (.head _) (by (try dsimp only); lia), fun f hf => .tail _ hf⟩
    rintro hh1 tk1 _ st9 nn1 Φ9 ⟨v0, rfl⟩ G9 hΦ F1 N1 H1
    have hent : Fact.ent sl' (listOf vs'.toArray 0) ∈ Φ9 := hΦ _ (by walk_at "IN")
    clear hΦ
    (revert G9 F1 N1 H1 hent; revert hh1 tk1 st9 nn1 Φ9 v0; refine Mine.ep6 (by walk_at "NE") ?_; generalize Prod.fst (Prod.fst (Prod.fst (Prod.fst (Prod.fst (Mine.ep _ _))))) = hh1; generalize Prod.snd (Prod.fst (Prod.fst (Prod.fst (Prod.fst (Mine.ep _ _))))) = tk1; generalize Prod.snd (Prod.fst (Prod.fst (Prod.fst (Mine.ep _ _)))) = st9; generalize Prod.snd (Prod.fst (Prod.fst (Mine.ep _ _))) = nn1; generalize Prod.snd (Prod.fst (Mine.ep _ _)) = Φ9; generalize Prod.snd (Mine.ep _ _) = v0; intro G9 F1 N1 H1 hent)
    have gl := G9.len
    have gf := G9.fl
    have gb := G9.b
    try clear H'
    try clear F'
    try clear N'
    (clear s9 Thn.next; clear r32; clear s9 isTrue_not; (refine isTrue_plain ?_ ?he; (case he => exact rfl)); clear r8; clear r1 Z85; clear r109 Z327; clear r127; clear r0; clear r125; clear r128)
    obtain ⟨a1, n1, e1, -, -⟩ := G9.row 0 (by decide)
    obtain ⟨a2, n2, e2, -, -⟩ := G9.row 1 (by decide)
    obtain ⟨a3, n3, e3, -, -⟩ := G9.row 2 (by decide)
    obtain ⟨a4, n4, e4, -, -⟩ := G9.row 3 (by decide)
    obtain ⟨a5, n5, e5, -, -⟩ := G9.row 4 (by decide)
    obtain ⟨a6, n6, e6, -, -⟩ := G9.row 5 (by decide)
    obtain ⟨a7, n7, e7, -, -⟩ := G9.row 6 (by decide)
    obtain ⟨a8, n8, e8, -, -⟩ := G9.row 7 (by decide)
    obtain ⟨a9, n9, e9, -, -⟩ := G9.row 8 (by decide)
    refine law_known (O'.le (by decide)) ‹_› ‹_› ‹_› G9.t0 e1 e2 e3 e4 e5 e6 e7 e8 e9 (by lia) (by lia) fun st1 nnk hhk ttk Kk FFk NNk HHk => ?_
    have G0 := G9.good
    have G1 := G0.kept Kk
    clear Kk
    clear H1 F1 N1
    (clear r129; clear r132; clear r33; clear s9 Subscript_; clear r0; clear s9 e_str; clear s30 w_texts; clear r273; clear r32; clear r48; clear s9 isTrue_not; (refine isTrue_plain ?_ ?he; (case he => exact rfl)); clear r8; clear r1 Z76; clear r109 Z321; clear r127; clear r0; clear r127; clear s9 Subscript_; clear r0; clear r3)
    obtain ⟨bp, mp, yp, ep, lp⟩ := G1.at (i := 7) (by decide) (by decide)
    refine texts_itemH ‹_› ‹_› (by decide) ep (by have := G1.ten; lia) (fun HHp => ?_) (by with_unfolding_all rfl)
    try clear H'
    (clear r125; clear r128)
    refine law_cuts (O'.le (by decide)) ‹_› ‹_› ‹_› (by walk_at "IN") (by lia) (by have := G1.b; lia) fun st2 nn1' hh1' tt1' K1 FF1 NN1 HH_1 => ?_
    have G2 := G1.kept K1
    clear K1
    try clear H'
    try clear F'
    try clear N'
    (clear r129; clear r132; clear r48; clear s9 isTrue_not; (refine isTrue_plain ?_ ?he; (case he => exact rfl)); clear r8; clear r1 Z73; clear r109 Z318; clear r127; clear r0; clear r127; clear s9 Subscript_; clear r0; clear r3)
    obtain ⟨bq, mq, yq, eq, lq⟩ := G2.at (i := 5) (by decide) (by decide)
    refine texts_itemH ‹_› ‹_› (by decide) eq (by have := G2.ten; lia) (fun HHq => ?_) (by with_unfolding_all rfl)
    try clear H'
    (clear r127; clear s9 Subscript_; clear r0; clear r3)
    obtain ⟨br, mr, yr, er, lr⟩ := G2.at (i := 6) (by decide) (by decide)
    refine texts_itemH ‹_› ‹_› (by decide) er (by have := G2.ten; lia) (fun HHr => ?_) (by with_unfolding_all rfl)
    try clear H'
    (clear r125; clear r128)
    refine law_seam (oa := some yq) (ob := some yr) (O'.le (by decide)) ‹_› ‹_› ‹_› (by walk_at "IN") (by walk_at "IN") lq lr (by have := G2.b; lia) (by have := G2.ten; lia) (by have := G2.ten; have := G2.fl; lia) fun st3 nn2' hh2' tt2' K2 FF2 NN2 HH_2 => ?_
    have G3 := G2.kept K2
    clear K2
    try clear H'
    try clear F'
    try clear N'
    (clear r129; clear r132; clear r48; clear s9 isTrue_not; (refine isTrue_plain ?_ ?he; (case he => exact rfl)); clear r8; clear r1 Z77; clear r109 Z322; clear r127; clear r0; clear r127; clear s9 Subscript_; clear r0; clear r3)
    obtain ⟨bs, ms, ys, es, ls⟩ := G3.at (i := 3) (by decide) (by decide)
    refine texts_itemH ‹_› ‹_› (by decide) es (by have := G3.ten; lia) (fun HHs => ?_) (by with_unfolding_all rfl)
    try clear H'
    (clear r127; clear s9 Subscript_; clear r0; clear r3)
    obtain ⟨bt, mt, yt, et, lt⟩ := G3.at (i := 2) (by decide) (by decide)
    refine texts_itemH ‹_› ‹_› (by decide) et (by have := G3.ten; lia) (fun HHt => ?_) (by with_unfolding_all rfl)
    try clear H'
    (clear r125; clear r128)
    refine law_index (O'.le (by decide)) ‹_› ‹_› ‹_› (by walk_at "IN") (by walk_at "IN") ls lt (by have := G3.b; lia) fun st4 nn3' hh3' tt3' K3 FF3 NN3 HH_3 => ?_
    have G4 := G3.kept K3
    clear K3
    try clear H'
    try clear F'
    try clear N'
    (clear r129; clear r132; clear s9 isTrue_or_nil; clear r132; clear r32; clear s9 isTrue_not; (refine isTrue_plain ?_ ?he; (case he => exact rfl)); clear r8; clear r1 Z78; clear r109 Z323; clear r127; clear r0; clear r127; clear s9 Subscript_; clear r0; clear r3)
    obtain ⟨bu, mu, yu, eu, lu⟩ := G4.at (i := 2) (by decide) (by decide)
    refine texts_itemH ‹_› ‹_› (by decide) eu (by have := G4.ten; lia) (fun HHu => ?_) (by with_unfolding_all rfl)
    try clear H'
    (clear r127; clear s9 Subscript_; clear r0; clear r3)
    obtain ⟨bv, mv, yv, ev, lv⟩ := G4.at (i := 3) (by decide) (by decide)
    refine texts_itemH ‹_› ‹_› (by decide) ev (by have := G4.ten; lia) (fun HHv => ?_) (by with_unfolding_all rfl)
    try clear H'
    (clear r127; clear s9 Subscript_; clear r0; clear r3)
    obtain ⟨bw, mw, yw, ew, lw⟩ := G4.at (i := 4) (by decide) (by decide)
    refine texts_itemH ‹_› ‹_› (by decide) ew (by have := G4.ten; lia) (fun HHw => ?_) (by with_unfolding_all rfl)
    try clear H'
    (clear r125; clear r128)
    refine law_ordered (O'.le (by decide)) ‹_› ‹_› ‹_› (by walk_at "IN") (by walk_at "IN") (by walk_at "IN") lu lv lw (by have := G4.b; lia) fun st5 nn4' hh4' tt4' K4 FF4 NN4 HH_4 => ?_
    have G5 := G4.kept K4
    clear K4
    try clear H'
    try clear F'
    try clear N'
    (clear r129; clear r132; clear r194; clear r0)
    have hv14 : vs'.length ≤ 14 := by
      have h1 := hv'.length
      rw [List.length_take] at h1
      lia
    have H6 : Hs _ P [] st5 _ (Φ9 ++ []) := HH_4.sub (by intro f hf; rw [List.append_nil] at hf; walk_at "IN")
    refine for_lst (vs := vs') (k := 0) (Φ := []) Φ9 O'.hand ‹_› ‹_› H6 (.inl hent) (fun i vals st' Φ' => ∃ v, vals = [some (.ref sl'), some (.ref P.m), some (.ref P.w), v0, some (.ref (P.adr .texts)), v, none] ∧ Good Φ9 (5 + i) st' ∧ Φ' = []) ⟨_, rfl, G5, rfl⟩ ?_ ?_
    · rintro i v hh6 tk6 X1 _ st6 nn6 _ hi hvi ⟨v1, rfl, G6, rfl⟩ hX F6 N6 H6
      obtain ⟨u, tu, rfl, hu'⟩ := ints_get hv' hvi
      have F7 := fr_put S' F6 (by walk_at "PUT")
      clear F6
      replace H6 : Hs _ P X1 st6 nn6 Φ9 := H6.sub fun f hf => by rw [List.append_nil]; exact hf
      (clear r32; clear s9 isTrue_not; (refine isTrue_plain ?_ ?he; (case he => exact rfl)); clear r8; clear r1 Z86; clear r109 Z328; clear r127; clear r0; clear r127; clear s9 wpAny_BinOp; clear r0; clear r3)
      refine o_emodB (by decide) fun r' r0' r1' re' => ?_
      (clear r125; clear r128)
      refine law_step (k := 5 + i) (O'.le (by decide)) ‹_› ‹_› ‹_› r0' r1' G6 (by lia) fun st7 nn7 hh7 tt7 K7 FF7 NN7 HH_7 => ?_
      (clear r129; clear r132; clear s9 wpAny_execs_nil)
      exact Bd.next [] ‹_› ‹_› HH_7 (fun f hf => by rw [List.append_nil] at hf; exact hf) ⟨_, rfl, G6.kept K7, rfl⟩
    rintro hh8 tk8 _ st8 nn8 _ ⟨v1, rfl, G8, rfl⟩ F8 N8 H8
    replace H8 : Hs _ P [] st8 nn8 Φ9 := H8.sub fun f hf => by rw [List.append_nil]; exact hf
    have gt := G8.ten
    have gfl := G8.fl
    have hth := G8.th
    (clear s9 Thn.next; clear r194; clear r8; clear r2 Z91; clear s23 c_typ; clear r127; clear r3; clear r127; clear r8; clear r2 Z88; clear s23 c_blt; clear r127; clear r0; clear r125; ((with_reducible refine len_textsH ‹_› ‹_› ?hz ?_); (case hz => (first | assumption | lia | (dsimp only; lia))); skip); clear r125; clear s38 range2_H)
    refine for_range (b := 1) (e := (st8.T.length : Nat)) (st8.T.length - 1) O'.hand ‹_› ‹_› H' (.head _) (by lia) (by lia) (by lia) (fun i vals st' Φ' => ∃ v, vals = [some (.ref sl'), some (.ref P.m), some (.ref P.w), v0, some (.ref (P.adr .texts)), v1, v] ∧ st8 = st' ∧ Φ' = Fact.ent rr' (rangeOb 1 (st8.T.length : Nat) t1' t2' t3') :: Φ9) ⟨_, rfl, rfl, rfl⟩ ?_ ?_
    · rintro i t hh9 tk9 X1 _ _ nn9 _ hi ⟨v2, rfl, rfl, rfl⟩ hX F9 N9 H9
      have F10 := fr_put S' F9 (by walk_at "PUT")
      clear F9
      have hlt : i + 1 < st8.T.length := by lia
      obtain ⟨⟨a, n, os⟩, hx⟩ : ∃ x, st8.T[i + 1]? = some x := ⟨_, List.getElem?_eq_getElem hlt⟩
      obtain ⟨x, rfl, hxl, hfc⟩ := G8.row (i + 1) a n os (by lia) hx
      have e1 : ((1 : Int) + ((i : Nat) : Int)).toNat = i + 1 := by lia
      have hx1 : st8.T[((1 : Int) + ((i : Nat) : Int)).toNat]? = some (a, n, some x) := by rw [e1]; exact hx
      have hf1 : st8.fc[((1 : Int) + ((i : Nat) : Int)).toNat]? = some (((x.length : Nat) : Int), hashS x) := by rw [e1]; exact hfc
      (clear r32; clear r43; clear s9 Subscript_; clear s9 Subscript_; clear r0; clear s9 e_str; clear s30 w_facts; clear r0; ((with_reducible refine facts_itemH ‹_› ‹_› ?h0 (by with_unfolding_all assumption) ?hz ?_ ?hs); (case h0 => (first | assumption | lia | (dsimp only; lia))); (case hz => (first | assumption | lia | (dsimp only; lia))); (case hs => with_unfolding_all exact rfl); intro x' t' t1' H'); clear s9 Tuple_; clear r127; clear r8; clear r1 Z62; clear r109 Z307; clear r127; clear r0; clear r127; clear s9 Subscript_; clear r0; clear r0; clear r246; clear r125; clear r128; clear r251; clear r127; clear r8; clear r1 Z58; clear r109 Z303; clear r127; clear r0; clear r127; clear r1 Z49; clear r127; clear s9 List_; clear r127; clear s9 Subscript_; clear r0; clear r0; clear r246; clear r125; clear r272; clear r125; clear r128; ((with_reducible refine num_hash ‹8› ‹_› ‹_› ‹_› ‹0› ‹0› ?za ?_); (case za => (first | assumption | lia | (dsimp only; lia))); ((try clear H'); (try clear F' N'); intro t' n' h' tk' F' N' H')); clear r125; clear r271; clear s43 c_neI; clear r129; clear r132; clear s9 wpAny_execs_nil)
      exact Bd.next _ ‹_› ‹_› H' (by intro f hf; repeat (first | exact hf | refine List.mem_cons_of_mem _ ?_)) ⟨_, rfl, rfl, rfl⟩
    rintro hh10 tk10 _ _ nn10 _ ⟨v2, rfl, rfl, rfl⟩ F10 N10 H10
    replace H10 := H10.sub (Φ' := Φ9) fun f hf => .tail _ hf
    (clear s9 Thn.next; clear r31; clear s9 e_and; clear r21; clear s9 Subscript_; clear r0; clear s9 e_str; clear s30 w_bad; clear s9 List_; clear r125; clear r272; ((with_reducible show wpAny _ _ (compareOp _ _ _) _ _ _); (with_reducible refine c_eqE ‹8› ‹_› ‹_› (by first | exact bad_nil ‹_› | exact told_nil ‹_› | exact thrown_nil ‹_› ‹_›) ‹0› ?_)); clear r129; clear r133; clear s9 e_and; clear r21; clear s2 Attribute_any_; clear r0; clear s4 m_thrown; clear s9 List_; clear r125; clear r272; ((with_reducible show wpAny _ _ (compareOp _ _ _) _ _ _); (with_reducible refine c_eqE ‹8› ‹_› ‹_› (by first | exact bad_nil ‹_› | exact told_nil ‹_› | exact thrown_nil ‹_› ‹_›) ‹0› ?_)); clear r129; clear r133; clear s9 e_and; clear r21; clear s2 Attribute_any_; clear r0; clear s4 m_told; clear s9 List_; clear r125; clear r272; ((with_reducible show wpAny _ _ (compareOp _ _ _) _ _ _); (with_reducible refine c_eqE ‹8› ‹_› ‹_› (by first | exact bad_nil ‹_› | exact told_nil ‹_› | exact thrown_nil ‹_› ‹_›) ‹0› ?_)); clear r129; clear r133; clear s9 BoolOp_one; clear r21; clear s2 Attribute_any_; clear r0; ((with_reducible refine m_state ‹_› ‹_› ‹_› ‹5› ?_); intro t'); clear r1 Z6; clear s9 eq_int)
    exact ⟨rfl, _, _, _, _, rfl, by assumption, by assumption⟩⟩

end Mine
end F1_
theorem PySem.Challenge.cw_xm0268_01_holds : PySem.Challenge.rw_xm0268_01.Holds :=
  Mine.fin_all
