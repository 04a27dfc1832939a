import PyProof.Rows.All
import Wide.All
import OpenK.AllK
import Wide.FinOn
import PySem.Challenge.RW_pf0095_01
set_option Elab.async false
set_option rowWalk.seconds 0
set_option linter.all false

namespace Mine
section
open PySem PySem.W PyProof.Rows
set_option maxRecDepth 100000
set_option maxHeartbeats 8000000
/-- the statements of the top that bind what the law reaches -/
def topQ : Program := PySem.W.view PySem.Challenge.pw_pf0095_01 [1, 2, 4, 5, 6, 7, 8, 9, 11, 12, 13, 14, 15, 16, 17, 18, 19, 20, 21, 22, 23, 25, 26, 27, 28, 29, 30, 31, 32, 33, 34, 35, 37, 38, 39, 40, 41, 42, 43, 44, 45, 46, 47, 48, 49, 50, 51]
abbrev rowR : RowW := OpenRow.toRowW (OpenLaw.row PySem.Challenge.rw_pf0095_01)

/-- the run of the top over a heap kept as a tree -/
def topRG (ok : Nat → Option Value → Thread → Bool) (st : (Code → Sem Fin) → Program → World → SharedT → Thread → Option (SharedT × Thread)) (den : Code → Sem Fin) (p : Program) (w : World) (n₀ : Nat) (ann : Option Value) : Nat → SharedT → Thread → Option SharedT
  | 0, _, _ => none
  | n + 1, s, t => match through t with
    | true => some s
    | false => match ok n₀ ann t with
      | false => none
      | true => match st den p w s t with
        | some (s', t') => topRG ok st den p w n₀ ann n s' t'
        | none => none
noncomputable abbrev topRQ := topRG PySem.W.Fast.tw6613529449190102663 PySem.W.Fast.tw10156331382660048174 (PySem.W.Fast.tw11892475500146522536 PySem.W.Fast.tw14364793385576792824)
theorem topRQ_eq : topRQ = topRG stepOk stepT (denote treeTable) := by
  unfold topRQ
  rw [← PySem.W.Fast.te6613529449190102663, ← PySem.W.Fast.te10156331382660048174, ← PySem.W.Fast.te11892475500146522536, ← PySem.W.Fast.te14364793385576792824]
theorem topRT_of {p : Program} {w : World} {n₀ : Nat} {ann : Option Value} : ∀ {n : Nat} {s s' : SharedT} {t : Thread}, topRG stepOk stepT (denote treeTable) p w n₀ ann n s t = some s' → topRun treeTable p w n₀ ann n s.abs t = some s'.abs
  | 0, _, _, _, h => by cases h
  | n + 1, s, s', t, h => by
    unfold topRG at h
    unfold topRun
    cases ht : through t with
    | true => rw [ht] at h; cases h; rfl
    | false =>
      rw [ht] at h
      cases hk : stepOk n₀ ann t with
      | false => rw [hk] at h; cases h
      | true =>
        rw [hk] at h
        cases hs : stepT (denote treeTable) p w s t with
        | none => rw [hs] at h; cases h
        | some r => obtain ⟨s₂, t₂⟩ := r; rw [hs] at h; dsimp only; rw [stepT_spec hs]; exact topRT_of h
def treeFrom : BT → Nat → List Obj → BT
  | t, _, [] => t
  | t, n, o :: l => treeFrom (t.ins n o) (n + 1) l
noncomputable def bootTree (P : Params) : BT := treeFrom .nil 0 (boot_heap P).objs.toList
theorem boot_abs (P : Params) : boot_heap P = absHeap (bootTree P) 11 {} := by kernel_rfl
theorem boot_ann (P : Params) : (boot_heap P).nsMap mainGlobals "__annotations__" = some (Value.ref 6) := by kernel_rfl
theorem boot_isNs (P : Params) : ((boot_heap P).isNs mainGlobals && (Array.mk [] : Array GenState).size == 0) = true := by kernel_rfl

noncomputable def goodQ (q : Program) (loose : List Str) :=
  ((⟨(PySem.W.Fast.tw3399658132070893891 q).map fun d => some d.shape, true, [], true, true, true, 0⟩ : Seen), bltViewBooted, true, true, ((PySem.W.Fast.tw3247288618530077131 q).map fun d => some d.1.shape, true),
   (PySem.W.Fast.tw210736558901404530 q (PySem.W.Fast.tw821141287760084731 q loose)).map (fun c => some (PySem.W.Fast.tw12515865711710729776 c).plainShape), (PySem.W.Fast.tw4354255287344443571 q loose).map (fun c => some (c.plainShape, true)),
   ((PySem.W.Fast.tw694669760492028198 q).map fun d => some d.1.shape, true),
   (PySem.W.Fast.tw1571739515156823405 q loose).map fun c => (some ((PySem.W.Fast.tw5066977653060700880 c.body).map fun m => some (m.1.shape c.name), true), (some (c.plainShape, true) : Option (PlainShape × Bool))))
theorem goodQ_eq (q : Program) (loose : List Str) : openGood q loose = goodQ q loose := by
  unfold openGood goodQ expectedOf pinGoodD plainGoodE plainGoodD wideGood clsGoodW wclsGood
  rw [← PySem.W.Fast.te3399658132070893891, ← PySem.W.Fast.te3247288618530077131, ← PySem.W.Fast.te210736558901404530, ← PySem.W.Fast.te821141287760084731, ← PySem.W.Fast.te12515865711710729776, ← PySem.W.Fast.te4354255287344443571, ← PySem.W.Fast.te694669760492028198, ← PySem.W.Fast.te1571739515156823405, ← PySem.W.Fast.te5066977653060700880]
noncomputable def seeT (s : SharedT) (a : Nat) : Option Obj := match Nat.blt a s.n with
  | true => match s.tree.get a with
    | some o => alive o
    | none => s.abs.heap.get? a
  | false => s.abs.heap.get? a
theorem seeT_eq (s : SharedT) (a : Nat) : s.abs.heap.get? a = seeT s a := by
  unfold seeT
  cases e : Nat.blt a s.n with
  | false => rfl
  | true =>
    cases g : s.tree.get a with
    | none => rfl
    | some o => exact abs_get (Nat.le_of_ble_eq_true e) g
theorem seenT (as : List Addr) (s : SharedT) : as.map s.abs.heap.get? = as.map (seeT s) := List.map_congr_left fun a _ => seeT_eq s a
theorem left_tree {p q : Program} {loose : List Str} {Xt : Shared → Bool} {α : Type} {Yf : Shared → α} {Ya : World → α} {N : Nat} {g0 : Bool} {Yt : SharedT → α} (hY : ∀ s, Yf s.abs = Yt s)
    (open_ : ∀ w : World, (fencedOpening treeTable p w N).map (fun s => (s.heap, s.gens, s.drawn, s.toks)) = some (boot_heap w.params, Array.mk [], boot_drawn, boot_toks))
    (k : ∀ (w : World) (os : OsState), (topRQ p w 11 (some (Value.ref 6)) N ⟨bootTree w.params, 11, {}, Array.mk [], boot_drawn, boot_toks, os⟩ (topStub p)).map (fun s =>
      (staticsOk (PySem.W.Fast.tw5923862056798008813 p.main.body) (boot_heap w.params) s.abs.heap && namesBound p s.abs.heap && gensDone s.abs && laidKept (boot_heap w.params) s.abs.heap,
       PySem.W.Fast.tw4187177175401517315 q loose (PySem.W.Fast.tw5923862056798008813 p.main.body) Xt g0 s.abs, Yt s)) = some (true, goodQ q loose, Ya w)) : LeftO p q loose Xt Yf Ya N g0 := fun w => by
  obtain ⟨⟨h, gs, d, tk, os⟩, e, e'⟩ := Option.map_eq_some_iff.mp (open_ w)
  obtain ⟨rfl, rfl, rfl, rfl⟩ : h = boot_heap w.params ∧ gs = Array.mk [] ∧ d = boot_drawn ∧ tk = boot_toks := by simpa using e'
  have k := k w os
  rw [topRQ_eq, ← goodQ_eq, ← PySem.W.Fast.te5923862056798008813, ← PySem.W.Fast.te4187177175401517315] at k
  obtain ⟨s, t, a⟩ := Option.map_eq_some_iff.mp k
  have r := topRT_of t
  obtain ⟨l1, l2⟩ := Prod.mk.inj a
  unfold openEnds
  rw [e]
  have T : topFrom treeTable p w N ⟨boot_heap w.params, Array.mk [], boot_drawn, boot_toks, os⟩ = some s.abs := by
    unfold topFrom
    dsimp only
    rw [boot_ann]
    have h1 : (boot_heap w.params).objs.size = 11 := by rw [boot_abs, absHeap_size]
    have h2 : ((boot_heap w.params).isNs mainGlobals && (Array.mk [] : Array GenState).size == 0) = true := boot_isNs w.params
    rw [h1, h2]
    have r' : topRun treeTable p w 11 (some (Value.ref 6)) N ⟨boot_heap w.params, Array.mk [], boot_drawn, boot_toks, os⟩ (topStub p) = some s.abs := by
      rw [boot_abs]; exact r
    rw [r']
    show (match staticsOk (importedModules p.main.body) (boot_heap w.params) s.abs.heap && namesBound p s.abs.heap && gensDone s.abs && laidKept (boot_heap w.params) s.abs.heap with | true => _ | false => _) = _
    rw [l1]
  show (topFrom treeTable p w N _).map _ = _
  rw [T]
  rw [← hY] at l2
  exact congrArg some l2
theorem plain_pw : opening PySem.Challenge.pw_pf0095_01 = plainProg PySem.Challenge.pw_pf0095_01.main.scope.names := by kernel_rfl
theorem fence_pw : ∀ s, fenceModules? PySem.Challenge.pw_pf0095_01 s = some s := fun s => by kernel_rfl
theorem law_said : OpenLaw.wellSaid PySem.Challenge.rw_pf0095_01 = true := by
  rw [PySem.W.Fast.te9446332074065402090]
  kernel_rfl
local macro_rules | `(tactic| k_head) => `(tactic| x_head)
local macro_rules | `(tactic| o_law) => `(tactic| (refine holds_law law_said fun said => ?_))
local macro_rules | `(tactic| o_head $H) => `(tactic| (refine holds_open (q := topQ) (loose := []) (Xt := fun s => xlAt topQ [] s && recOk (RowW.records rowR) s) (XP := XL topQ []) (Yf := Hook.obs $H) (Ya := Hook.val $H) (YP := Hook.says $H) (N := 5050) (left_tree (fun s => seenT _ s) (boot_open plain_pw (by decide +kernel) fence_pw) (fun w os => by kernel_rfl)) (Hook.of $H) (Hook.keeps $H) (fun s e => xl_of s (Bool.and_eq_true_iff.mp e).1) XL.keeps (by rfl) (by rfl) (by rfl) (fun s e => recFacts_of (Bool.and_eq_true_iff.mp e).2) (by rfl) (by first | assumption | decide +kernel) (by decide +kernel) ⟨rfl, rfl, rfl, rfl, rfl, by decide +kernel⟩ ?$(Lean.mkIdent `hw) ?$(Lean.mkIdent `hc)))
open_top hd0 for PySem.Challenge.rw_pf0095_01
end
end Mine

open PySem PySem.W PyProof.Rows PySem.Calls PySem.Spec
set_option maxRecDepth 100000
set_option maxHeartbeats 8000000
theorem Mine.fillNow0 : PySem.Challenge.rw_pf0095_01 = PySem.Challenge.rw_pf0095_01 ∧ hd0.heap_1 = hd0.heap_1 := by k_fill; w_top off; exact ⟨rfl, rfl⟩
open Mine
local macro_rules | `(tactic| walk_at $s:str) => `(tactic| k_extra $s)
local macro_rules | `(tactic| ktr_enter) => `(tactic| k_extra "ktr_enter")
local macro_rules | `(tactic| kts_go) => `(tactic| k_extra "kts_go")
local macro_rules | `(tactic| kxw_text) => `(tactic| k_extra "kxw_text")
local macro_rules | `(tactic| kxw_bool) => `(tactic| k_extra "kxw_bool")
local macro_rules | `(tactic| kpt_eq) => `(tactic| k_extra "kpt_eq")
local macro_rules | `(tactic| kfm_cat2) => `(tactic| k_extra "kfm_cat2")
local macro_rules | `(tactic| k_ne) => `(tactic| k_extra "k_ne")
local macro_rules | `(tactic| k_in) => `(tactic| k_extra "k_in")
local macro_rules | `(tactic| fail $s:str) => `(tactic| k_extra $s)
local macro_rules | `(tactic| k_mem) => `(tactic| k_extra "k_mem")
local macro_rules | `(tactic| is_list) => `(tactic| k_extra "is_list")
local macro_rules | `(tactic| ktr_room) => `(tactic| k_extra "ktr_room")
local macro_rules | `(tactic| ktr_units) => `(tactic| k_extra "ktr_units")
local macro_rules | `(tactic| units_room) => `(tactic| k_extra "units_room")
local macro_rules | `(tactic| l_idx) => `(tactic| k_extra "l_idx")
local macro_rules | `(tactic| l_fit) => `(tactic| k_extra "l_fit")
local macro_rules | `(tactic| k_memK) => `(tactic| k_extra "k_memK")
local macro_rules | `(tactic| k_lt $_h:ident) => `(tactic| k_extra "k_lt")
local macro_rules | `(tactic| omega) => `(tactic| ((fail_if_success (fail_if_success omega +splitDisjunctions)); lia))

section
namespace Mine
theorem resetN0 : True := by (k_with_none; w_top off); trivial
/-! many parts at once -/
theorem ex2 {α0 : Type _} {α1 : Type _} {P : α0 → α1 → Prop} {G : Prop} (h : ∃ a0 a1, P a0 a1) (k : ∀ a0 a1, P a0 a1 → G) : G := h.elim fun a h => h.elim (k a)
theorem ex3 {α0 : Type _} {α1 : Type _} {α2 : Type _} {P : α0 → α1 → α2 → Prop} {G : Prop} (h : ∃ a0 a1 a2, P a0 a1 a2) (k : ∀ a0 a1 a2, P a0 a1 a2 → G) : G := h.elim fun a h => ex2 h (k a)
theorem ex4 {α0 : Type _} {α1 : Type _} {α2 : Type _} {α3 : Type _} {P : α0 → α1 → α2 → α3 → Prop} {G : Prop} (h : ∃ a0 a1 a2 a3, P a0 a1 a2 a3) (k : ∀ a0 a1 a2 a3, P a0 a1 a2 a3 → G) : G := h.elim fun a h => ex3 h (k a)
theorem ex5 {α0 : Type _} {α1 : Type _} {α2 : Type _} {α3 : Type _} {α4 : Type _} {P : α0 → α1 → α2 → α3 → α4 → Prop} {G : Prop} (h : ∃ a0 a1 a2 a3 a4, P a0 a1 a2 a3 a4) (k : ∀ a0 a1 a2 a3 a4, P a0 a1 a2 a3 a4 → G) : G := h.elim fun a h => ex4 h (k a)
theorem ex6 {α0 : Type _} {α1 : Type _} {α2 : Type _} {α3 : Type _} {α4 : Type _} {α5 : Type _} {P : α0 → α1 → α2 → α3 → α4 → α5 → Prop} {G : Prop} (h : ∃ a0 a1 a2 a3 a4 a5, P a0 a1 a2 a3 a4 a5) (k : ∀ a0 a1 a2 a3 a4 a5, P a0 a1 a2 a3 a4 a5 → G) : G := h.elim fun a h => ex5 h (k a)
theorem ex7 {α0 : Type _} {α1 : Type _} {α2 : Type _} {α3 : Type _} {α4 : Type _} {α5 : Type _} {α6 : Type _} {P : α0 → α1 → α2 → α3 → α4 → α5 → α6 → Prop} {G : Prop} (h : ∃ a0 a1 a2 a3 a4 a5 a6, P a0 a1 a2 a3 a4 a5 a6) (k : ∀ a0 a1 a2 a3 a4 a5 a6, P a0 a1 a2 a3 a4 a5 a6 → G) : G := h.elim fun a h => ex6 h (k a)
theorem ex8 {α0 : Type _} {α1 : Type _} {α2 : Type _} {α3 : Type _} {α4 : Type _} {α5 : Type _} {α6 : Type _} {α7 : Type _} {P : α0 → α1 → α2 → α3 → α4 → α5 → α6 → α7 → Prop} {G : Prop} (h : ∃ a0 a1 a2 a3 a4 a5 a6 a7, P a0 a1 a2 a3 a4 a5 a6 a7) (k : ∀ a0 a1 a2 a3 a4 a5 a6 a7, P a0 a1 a2 a3 a4 a5 a6 a7 → G) : G := h.elim fun a h => ex7 h (k a)
theorem ex9 {α0 : Type _} {α1 : Type _} {α2 : Type _} {α3 : Type _} {α4 : Type _} {α5 : Type _} {α6 : Type _} {α7 : Type _} {α8 : Type _} {P : α0 → α1 → α2 → α3 → α4 → α5 → α6 → α7 → α8 → Prop} {G : Prop} (h : ∃ a0 a1 a2 a3 a4 a5 a6 a7 a8, P a0 a1 a2 a3 a4 a5 a6 a7 a8) (k : ∀ a0 a1 a2 a3 a4 a5 a6 a7 a8, P a0 a1 a2 a3 a4 a5 a6 a7 a8 → G) : G := h.elim fun a h => ex8 h (k a)
theorem ex10 {α0 : Type _} {α1 : Type _} {α2 : Type _} {α3 : Type _} {α4 : Type _} {α5 : Type _} {α6 : Type _} {α7 : Type _} {α8 : Type _} {α9 : Type _} {P : α0 → α1 → α2 → α3 → α4 → α5 → α6 → α7 → α8 → α9 → Prop} {G : Prop} (h : ∃ a0 a1 a2 a3 a4 a5 a6 a7 a8 a9, P a0 a1 a2 a3 a4 a5 a6 a7 a8 a9) (k : ∀ a0 a1 a2 a3 a4 a5 a6 a7 a8 a9, P a0 a1 a2 a3 a4 a5 a6 a7 a8 a9 → G) : G := h.elim fun a h => ex9 h (k a)
theorem ex11 {α0 : Type _} {α1 : Type _} {α2 : Type _} {α3 : Type _} {α4 : Type _} {α5 : Type _} {α6 : Type _} {α7 : Type _} {α8 : Type _} {α9 : Type _} {α10 : Type _} {P : α0 → α1 → α2 → α3 → α4 → α5 → α6 → α7 → α8 → α9 → α10 → Prop} {G : Prop} (h : ∃ a0 a1 a2 a3 a4 a5 a6 a7 a8 a9 a10, P a0 a1 a2 a3 a4 a5 a6 a7 a8 a9 a10) (k : ∀ a0 a1 a2 a3 a4 a5 a6 a7 a8 a9 a10, P a0 a1 a2 a3 a4 a5 a6 a7 a8 a9 a10 → G) : G := h.elim fun a h => ex10 h (k a)
theorem ex12 {α0 : Type _} {α1 : Type _} {α2 : Type _} {α3 : Type _} {α4 : Type _} {α5 : Type _} {α6 : Type _} {α7 : Type _} {α8 : Type _} {α9 : Type _} {α10 : Type _} {α11 : Type _} {P : α0 → α1 → α2 → α3 → α4 → α5 → α6 → α7 → α8 → α9 → α10 → α11 → Prop} {G : Prop} (h : ∃ a0 a1 a2 a3 a4 a5 a6 a7 a8 a9 a10 a11, P a0 a1 a2 a3 a4 a5 a6 a7 a8 a9 a10 a11) (k : ∀ a0 a1 a2 a3 a4 a5 a6 a7 a8 a9 a10 a11, P a0 a1 a2 a3 a4 a5 a6 a7 a8 a9 a10 a11 → G) : G := h.elim fun a h => ex11 h (k a)
theorem ex13 {α0 : Type _} {α1 : Type _} {α2 : Type _} {α3 : Type _} {α4 : Type _} {α5 : Type _} {α6 : Type _} {α7 : Type _} {α8 : Type _} {α9 : Type _} {α10 : Type _} {α11 : Type _} {α12 : Type _} {P : α0 → α1 → α2 → α3 → α4 → α5 → α6 → α7 → α8 → α9 → α10 → α11 → α12 → Prop} {G : Prop} (h : ∃ a0 a1 a2 a3 a4 a5 a6 a7 a8 a9 a10 a11 a12, P a0 a1 a2 a3 a4 a5 a6 a7 a8 a9 a10 a11 a12) (k : ∀ a0 a1 a2 a3 a4 a5 a6 a7 a8 a9 a10 a11 a12, P a0 a1 a2 a3 a4 a5 a6 a7 a8 a9 a10 a11 a12 → G) : G := h.elim fun a h => ex12 h (k a)
theorem ex14 {α0 : Type _} {α1 : Type _} {α2 : Type _} {α3 : Type _} {α4 : Type _} {α5 : Type _} {α6 : Type _} {α7 : Type _} {α8 : Type _} {α9 : Type _} {α10 : Type _} {α11 : Type _} {α12 : Type _} {α13 : Type _} {P : α0 → α1 → α2 → α3 → α4 → α5 → α6 → α7 → α8 → α9 → α10 → α11 → α12 → α13 → Prop} {G : Prop} (h : ∃ a0 a1 a2 a3 a4 a5 a6 a7 a8 a9 a10 a11 a12 a13, P a0 a1 a2 a3 a4 a5 a6 a7 a8 a9 a10 a11 a12 a13) (k : ∀ a0 a1 a2 a3 a4 a5 a6 a7 a8 a9 a10 a11 a12 a13, P a0 a1 a2 a3 a4 a5 a6 a7 a8 a9 a10 a11 a12 a13 → G) : G := h.elim fun a h => ex13 h (k a)
theorem ex15 {α0 : Type _} {α1 : Type _} {α2 : Type _} {α3 : Type _} {α4 : Type _} {α5 : Type _} {α6 : Type _} {α7 : Type _} {α8 : Type _} {α9 : Type _} {α10 : Type _} {α11 : Type _} {α12 : Type _} {α13 : Type _} {α14 : Type _} {P : α0 → α1 → α2 → α3 → α4 → α5 → α6 → α7 → α8 → α9 → α10 → α11 → α12 → α13 → α14 → Prop} {G : Prop} (h : ∃ a0 a1 a2 a3 a4 a5 a6 a7 a8 a9 a10 a11 a12 a13 a14, P a0 a1 a2 a3 a4 a5 a6 a7 a8 a9 a10 a11 a12 a13 a14) (k : ∀ a0 a1 a2 a3 a4 a5 a6 a7 a8 a9 a10 a11 a12 a13 a14, P a0 a1 a2 a3 a4 a5 a6 a7 a8 a9 a10 a11 a12 a13 a14 → G) : G := h.elim fun a h => ex14 h (k a)
theorem ex16 {α0 : Type _} {α1 : Type _} {α2 : Type _} {α3 : Type _} {α4 : Type _} {α5 : Type _} {α6 : Type _} {α7 : Type _} {α8 : Type _} {α9 : Type _} {α10 : Type _} {α11 : Type _} {α12 : Type _} {α13 : Type _} {α14 : Type _} {α15 : Type _} {P : α0 → α1 → α2 → α3 → α4 → α5 → α6 → α7 → α8 → α9 → α10 → α11 → α12 → α13 → α14 → α15 → Prop} {G : Prop} (h : ∃ a0 a1 a2 a3 a4 a5 a6 a7 a8 a9 a10 a11 a12 a13 a14 a15, P a0 a1 a2 a3 a4 a5 a6 a7 a8 a9 a10 a11 a12 a13 a14 a15) (k : ∀ a0 a1 a2 a3 a4 a5 a6 a7 a8 a9 a10 a11 a12 a13 a14 a15, P a0 a1 a2 a3 a4 a5 a6 a7 a8 a9 a10 a11 a12 a13 a14 a15 → G) : G := h.elim fun a h => ex15 h (k a)
theorem ex17 {α0 : Type _} {α1 : Type _} {α2 : Type _} {α3 : Type _} {α4 : Type _} {α5 : Type _} {α6 : Type _} {α7 : Type _} {α8 : Type _} {α9 : Type _} {α10 : Type _} {α11 : Type _} {α12 : Type _} {α13 : Type _} {α14 : Type _} {α15 : Type _} {α16 : Type _} {P : α0 → α1 → α2 → α3 → α4 → α5 → α6 → α7 → α8 → α9 → α10 → α11 → α12 → α13 → α14 → α15 → α16 → Prop} {G : Prop} (h : ∃ a0 a1 a2 a3 a4 a5 a6 a7 a8 a9 a10 a11 a12 a13 a14 a15 a16, P a0 a1 a2 a3 a4 a5 a6 a7 a8 a9 a10 a11 a12 a13 a14 a15 a16) (k : ∀ a0 a1 a2 a3 a4 a5 a6 a7 a8 a9 a10 a11 a12 a13 a14 a15 a16, P a0 a1 a2 a3 a4 a5 a6 a7 a8 a9 a10 a11 a12 a13 a14 a15 a16 → G) : G := h.elim fun a h => ex16 h (k a)
theorem an2 {p0 p1 G : Prop} (h : p0 ∧ p1) (k : p0 → p1 → G) : G := k h.1 h.2
theorem an3 {p0 p1 p2 G : Prop} (h : p0 ∧ p1 ∧ p2) (k : p0 → p1 → p2 → G) : G := an2 h.2 (k h.1)
theorem an4 {p0 p1 p2 p3 G : Prop} (h : p0 ∧ p1 ∧ p2 ∧ p3) (k : p0 → p1 → p2 → p3 → G) : G := an3 h.2 (k h.1)
theorem an5 {p0 p1 p2 p3 p4 G : Prop} (h : p0 ∧ p1 ∧ p2 ∧ p3 ∧ p4) (k : p0 → p1 → p2 → p3 → p4 → G) : G := an4 h.2 (k h.1)
theorem an6 {p0 p1 p2 p3 p4 p5 G : Prop} (h : p0 ∧ p1 ∧ p2 ∧ p3 ∧ p4 ∧ p5) (k : p0 → p1 → p2 → p3 → p4 → p5 → G) : G := an5 h.2 (k h.1)
theorem an7 {p0 p1 p2 p3 p4 p5 p6 G : Prop} (h : p0 ∧ p1 ∧ p2 ∧ p3 ∧ p4 ∧ p5 ∧ p6) (k : p0 → p1 → p2 → p3 → p4 → p5 → p6 → G) : G := an6 h.2 (k h.1)
theorem an8 {p0 p1 p2 p3 p4 p5 p6 p7 G : Prop} (h : p0 ∧ p1 ∧ p2 ∧ p3 ∧ p4 ∧ p5 ∧ p6 ∧ p7) (k : p0 → p1 → p2 → p3 → p4 → p5 → p6 → p7 → G) : G := an7 h.2 (k h.1)
theorem an9 {p0 p1 p2 p3 p4 p5 p6 p7 p8 G : Prop} (h : p0 ∧ p1 ∧ p2 ∧ p3 ∧ p4 ∧ p5 ∧ p6 ∧ p7 ∧ p8) (k : p0 → p1 → p2 → p3 → p4 → p5 → p6 → p7 → p8 → G) : G := an8 h.2 (k h.1)
theorem an10 {p0 p1 p2 p3 p4 p5 p6 p7 p8 p9 G : Prop} (h : p0 ∧ p1 ∧ p2 ∧ p3 ∧ p4 ∧ p5 ∧ p6 ∧ p7 ∧ p8 ∧ p9) (k : p0 → p1 → p2 → p3 → p4 → p5 → p6 → p7 → p8 → p9 → G) : G := an9 h.2 (k h.1)
theorem an11 {p0 p1 p2 p3 p4 p5 p6 p7 p8 p9 p10 G : Prop} (h : p0 ∧ p1 ∧ p2 ∧ p3 ∧ p4 ∧ p5 ∧ p6 ∧ p7 ∧ p8 ∧ p9 ∧ p10) (k : p0 → p1 → p2 → p3 → p4 → p5 → p6 → p7 → p8 → p9 → p10 → G) : G := an10 h.2 (k h.1)
theorem an12 {p0 p1 p2 p3 p4 p5 p6 p7 p8 p9 p10 p11 G : Prop} (h : p0 ∧ p1 ∧ p2 ∧ p3 ∧ p4 ∧ p5 ∧ p6 ∧ p7 ∧ p8 ∧ p9 ∧ p10 ∧ p11) (k : p0 → p1 → p2 → p3 → p4 → p5 → p6 → p7 → p8 → p9 → p10 → p11 → G) : G := an11 h.2 (k h.1)
theorem an13 {p0 p1 p2 p3 p4 p5 p6 p7 p8 p9 p10 p11 p12 G : Prop} (h : p0 ∧ p1 ∧ p2 ∧ p3 ∧ p4 ∧ p5 ∧ p6 ∧ p7 ∧ p8 ∧ p9 ∧ p10 ∧ p11 ∧ p12) (k : p0 → p1 → p2 → p3 → p4 → p5 → p6 → p7 → p8 → p9 → p10 → p11 → p12 → G) : G := an12 h.2 (k h.1)
theorem letP {P : Prop} (k : let P' := P; P') : P := k
end Mine
end

section
namespace Mine
theorem resetBase1 : True := by (k_with_none; w_top off); trivial
/-- where a call stands: the frames below, the frame, the text's objects, the ledger, the top -/
structure Site (w : World) (p : Program) (loose : List Str) (mean : ExcName → Option Value) (mg mb : Str → Option Value) (cs : Scope) (outer : List Env) (A₀ : Around) (base h₀ : Heap) (L : Addr) (m : Str → Option Value) (news : List (Addr × Obj)) (h : Heap) : Prop where
  B : Below A₀ base outer h₀
  F : Fr h₀ L h m
  X : (hd0.heap_1 w.params).In h₀
  N : News h₀ L h news
  T : Top p loose mean mg mb h₀
  hk : cs.kind = .function
/-- the end of a body that was walked over a small ledger -/
def LeaveE (g : Heap) (P : List (Addr × Obj) → Prop) (s' : Shared) : Prop :=
  ∃ L' m' small', Fr g L' s'.heap m' ∧ News g L' s'.heap small' ∧ P small'
theorem news_fun {h₀ h : Heap} {L : Addr} {news : List (Addr × Obj)} (N : News h₀ L h news) {a : Addr} {o o' : Obj} (h1 : (a, o) ∈ news) (h2 : (a, o') ∈ news) : o = o' := by
  have e1 := (N _ h1).1
  have e2 := (N _ h2).1
  exact Option.some.inj (e1.symm.trans e2)
theorem updF_was {d : Addr} {o : Obj} {l : List (Addr × Obj)} {g : Obj → List (Addr × Obj)} (U : UpdF d o l g) : (d, o) ∈ l := by
  induction U with
  | head _ => exact List.mem_cons_self
  | tail _ _ ih => exact List.mem_cons_of_mem _ ih
theorem updF_are {d : Addr} {o o' : Obj} {l : List (Addr × Obj)} {g : Obj → List (Addr × Obj)} (U : UpdF d o l g) : ∀ q ∈ g o', q = (d, o') ∨ (q ∈ l ∧ q.1 ≠ d) := by
  induction U with
  | head hr =>
    intro q hq
    rcases List.mem_cons.mp hq with rfl | hq
    · exact .inl rfl
    · exact .inr ⟨List.mem_cons_of_mem _ hq, hr _ hq⟩
  | tail hp _ ih =>
    intro q hq
    rcases List.mem_cons.mp hq with rfl | hq
    · exact .inr ⟨List.mem_cons_self, hp⟩
    · rcases ih q hq with e | ⟨x, y⟩
      · exact .inl e
      · exact .inr ⟨List.mem_cons_of_mem _ x, y⟩
theorem off1_of {D : Addr} {l : List (Addr × Obj)} (h : ∀ q ∈ l, q.1 ≠ D) : LCg.Off1 D l := by
  induction l with
  | nil => exact True.intro
  | cons q r ih => exact And.intro (h q List.mem_cons_self) (ih fun q hq => h q (List.mem_cons_of_mem _ hq))
theorem of_off1 {D : Addr} {l : List (Addr × Obj)} (h : LCg.Off1 D l) : ∀ q ∈ l, q.1 ≠ D := by
  induction l with
  | nil => intro q hq; nomatch hq
  | cons x r ih =>
    intro q hq
    rcases List.mem_cons.mp hq with e | hq
    · rw [e]; exact (show _ ∧ _ from h).1
    · exact ih (show _ ∧ _ from h).2 q hq
/-- what was only read stands as it stood -/
theorem cond_read {h₀ h : Heap} {L : Addr} {news small small' : List (Addr × Obj)} (N : News h₀ L h news) (hs : ∀ q ∈ small, q ∈ news) (hs' : ∀ q ∈ small, q ∈ small') :
    ∀ q ∈ news, q ∈ small' ∨ (q ∈ news ∧ ∀ x ∈ small, q.1 ≠ x.1) := by
  intro q hq
  by_cases e : ∃ x ∈ small, q.1 = x.1
  · obtain ⟨x, hx, e⟩ := e
    obtain ⟨q1, q2⟩ := q
    obtain ⟨x1, x2⟩ := x
    have e' : q1 = x1 := e
    subst e'
    rw [news_fun N hq (hs _ hx)]
    exact .inl (hs' _ hx)
  · exact .inr ⟨hq, fun x hx z => e ⟨x, hx, z⟩⟩
/-- what is new lies apart from all that stood -/
theorem off_new {g h' : Heap} {L' D : Addr} {o : Obj} {news small small' : List (Addr × Obj)} (N : News g L' h' small') (hm : (D, o) ∈ small') (hg : ∀ q ∈ news, (∀ x ∈ small, q.1 ≠ x.1) → g.get? q.1 = some q.2) (hx : ∀ x ∈ small, x.1 ≠ D) : LCg.Off1 D news := by
  refine off1_of fun q hq e => ?_
  by_cases z : ∃ x ∈ small, q.1 = x.1
  · obtain ⟨x, h1, h2⟩ := z
    exact hx x h1 (h2.symm.trans e)
  · have e2 := hg q hq fun x h1 h2 => z ⟨x, h1, h2⟩
    rw [e, (N _ hm).2.2] at e2
    cases e2
theorem leaveE_ {g : Heap} {P : List (Addr × Obj) → Prop} {s' : Shared} {L' : Addr} {m' : Str → Option Value} {small' : List (Addr × Obj)} (F : Fr g L' s'.heap m') (N : News g L' s'.heap small') (k : P small') : LeaveE g P s' := ⟨L', m', small', F, N, k⟩
section
variable {prog p : Program} {w : World} {loose : List Str} {mean : ExcName → Option Value} {mg mb : Str → Option Value} {dp un : Nat} {gd : Option (List Code)} {cn : Str} {cs : Scope} {a : Addr} {ccd : Value} {outer : List Env} {A₀ : Around} {base h₀ : Heap} {L : Addr} {m : Str → Option Value} {s : Shared} {Q E : Value → Shared → Prop} {cl : List (Str × Addr)}
    {news small : List (Addr × Obj)} {name qual : Str} {params : Arguments} {body : List Stmt} {scope : Scope} {dV kV doc pm cdv ct oc : Value} {an od : Option Addr} {osl : Array (Option Value)} {f : Addr} {args : List Value} {binds : List (Str × Value)}
theorem enterK (S : Site w p loose mean mg mb cs outer A₀ base h₀ L m news s.heap) (hsub : ∀ q ∈ small, q ∈ news)
    (ho : (hd0.heap_1 w.params).lookup f = some ⟨oc, od, .func (fnOf name qual params body scope dV kV doc pm an cdv ct), osl⟩) (hcd : codeIn (hd0.heap_1 w.params) cdv qual = true) (hroom : dp < recursionLimit)
    (hbind : BindsTo s (fnOf name qual params body scope dV kV doc pm an cdv ct) ⟨args, []⟩ binds) (hloc : ∀ y ∈ binds, scope.names.lookup y.1 = some .local)
    (h : ∀ g L' h₁, Fr g L' h₁ (fun y => binds.reverse.lookup y) → News g L' h₁ small → Below (ktrTop dp un gd cn cs L a ccd cl outer) base (envX cn cs L a ccd cl :: outer) g → (hd0.heap_1 w.params).In g → Top p loose mean mg mb g → (∀ q ∈ small, q.1 < L') → (∀ q ∈ news, (∀ x ∈ small, q.1 ≠ x.1) → g.get? q.1 = some q.2) → ∀ tk : Nat,
      wpAny (model prog w) ((ktrTop dp un gd cn cs L a ccd cl outer).deeper (envOf qual scope L' f cdv)) (execs body (envOf qual scope L' f cdv))
        (fun fl s' => LeaveE g (fun small' => ∃ news', (∀ q ∈ news', q ∈ small' ∨ (q ∈ news ∧ ∀ x ∈ small, q.1 ≠ x.1)) ∧ (Fr h₀ L s'.heap m → News h₀ L s'.heap news' → Q (match fl with | .ret v => v | _ => .none) s')) s')
        (fun _ _ => False)
        { s with heap := h₁, toks := tk })
    (hco : scope.isCoroutine = false) (hgen : scope.isGenerator = false) (hkf : scope.kind = .function)
    (hcell : ∀ x ∈ scope.names, x.2 ≠ .cell) :
    wpAny (model prog w) (ktrTop dp un gd cn cs L a ccd cl outer) (call (.ref f) args) Q E s := by
  obtain ⟨B, F, X₀, N, T, hk⟩ := S
  refine wpAny_call ?_
  have Ns : News h₀ L s.heap small := fun q hq => N q (hsub q hq)
  obtain ⟨FG, BG, st, _⟩ := groundX (R := fun _ _ => True) (A := ktrTop dp un gd cn cs L a ccd cl outer) (env := envX cn cs L a ccd cl) B F Ns rfl rfl hk
  have X := X₀.keeps F.keep
  refine codeAny_call_def (fd := fnOf name qual params body scope dV kV doc pm an cdv ct) (body := body) (binds := binds) hroom (X _ _ ho) rfl (T.nolimit.keeps F.keep) (codeRec_of X hcd) rfl hbind hcell hloc (fun h₁ hns hk₁ => ?_) hco hgen hkf
  refine wpAny_mono (h _ s.heap.objs.size h₁ ⟨hns, fun b o e => hk₁ b o (of_hideAll _ e), Nat.le_of_eq (hideAll_size _ _)⟩
    (fun q hq => ⟨hk₁ _ _ (Ns q hq).1, Nat.ne_of_lt (Heap.lt_size (Ns q hq).1), hideAll_none _ (List.mem_map_of_mem hq)⟩) BG (X₀.keeps st) (T.keeps st) (fun q hq => Heap.lt_size (Ns q hq).1) (fun q hq hx => hideAll_get _ (N q hq).1 fun z => by obtain ⟨x, hx1, hx2⟩ := List.mem_map.mp z; exact hx x hx1 hx2.symm) _) (fun fl s' hl => ?_) fun _ _ y => y.elim
  obtain ⟨L', m', small', F', N', news', hn, k⟩ := hl
  obtain ⟨oL, es, ep, hLg, hLd, hLk, hLf⟩ := FG.ns
  refine k ⟨⟨oL, es, ep, F'.keep L oL hLg, hLd, hLk, hLf⟩, fun b o e => F'.keep b o (st b o e), F.above⟩ fun q hq => ?_
  rcases hn q hq with hq | ⟨hq, hx⟩
  · refine ⟨(N' q hq).1, fun z => ?_, ?_⟩
    · have := (N' q hq).2.2
      rw [z, hLg] at this
      cases this
    · cases z : h₀.get? q.1 with
      | none => rfl
      | some o =>
        have := (N' q hq).2.2
        rw [st _ _ z] at this
        cases this
  · refine ⟨F'.keep _ _ (hideAll_get _ (N q hq).1 fun z => ?_), (N q hq).2⟩
    obtain ⟨x, hx1, hx2⟩ := List.mem_map.mp z
    exact hx x hx1 hx2.symm
theorem enterC (S : Site w p loose mean mg mb cs outer A₀ base h₀ L m news s.heap) (hsub : ∀ q ∈ small, q ∈ news)
    (ho : (hd0.heap_1 w.params).lookup f = some ⟨oc, od, .func (fnOf name qual params body scope dV kV doc pm an cdv ct), osl⟩) (hcd : codeIn (hd0.heap_1 w.params) cdv qual = true) (hroom : dp < recursionLimit)
    (hbind : BindsTo s (fnOf name qual params body scope dV kV doc pm an cdv ct) ⟨args, []⟩ binds)
    (hkind : (binds.all fun y => scope.names.lookup y.1 == some .local || scope.names.lookup y.1 == some .cell) = true)
    (hnd : ((cellsFrom 0 scope.names []).map (·.1)).Nodup)
    (h : ∀ g L' h₁ tk cells, Fr g L' h₁ (bindL (envOfC qual scope L' f cdv).kindOf binds fun _ => none) → News g L' h₁ (cells ++ small) →
      CellsAre (bindC (envOfC qual scope L' f cdv).kindOf binds fun _ => none) (cellsFrom (L' + 1) scope.names []) cells →
      Below (ktrTop dp un gd cn cs L a ccd cl outer) base (envX cn cs L a ccd cl :: outer) g → (hd0.heap_1 w.params).In g → Top p loose mean mg mb g → (∀ q ∈ small, q.1 < L') → (∀ q ∈ news, (∀ x ∈ small, q.1 ≠ x.1) → g.get? q.1 = some q.2) →
      wpAny (model prog w) ((ktrTop dp un gd cn cs L a ccd cl outer).deeper (envOfC qual scope L' f cdv)) (execs body (envOfC qual scope L' f cdv))
        (fun fl s' => LeaveE g (fun small' => ∃ news', (∀ q ∈ news', q ∈ small' ∨ (q ∈ news ∧ ∀ x ∈ small, q.1 ≠ x.1)) ∧ (Fr h₀ L s'.heap m → News h₀ L s'.heap news' → Q (match fl with | .ret v => v | _ => .none) s')) s')
        (fun _ _ => False)
        { s with heap := h₁, toks := tk })
    (hco : scope.isCoroutine = false) (hgen : scope.isGenerator = false) (hkf : scope.kind = .function) :
    wpAny (model prog w) (ktrTop dp un gd cn cs L a ccd cl outer) (call (.ref f) args) Q E s := by
  obtain ⟨B, F, X₀, N, T, hk⟩ := S
  refine wpAny_call ?_
  have Ns : News h₀ L s.heap small := fun q hq => N q (hsub q hq)
  obtain ⟨FG, BG, st, _⟩ := groundX (R := fun _ _ => True) (A := ktrTop dp un gd cn cs L a ccd cl outer) (env := envX cn cs L a ccd cl) B F Ns rfl rfl hk
  have X := X₀.keeps F.keep
  refine codeAny_call_function hroom (X _ _ ho) rfl hco hgen rfl (codeRec_of X hcd) (hbind _ _ _ _ ?_)
  refine wpAny_newFunctionEnv_cells hkf (kindsX hkind _) fun env' he s' x => ?_
  subst he
  refine ⟨(T.nolimit.keeps F.keep).keeps x.toInCall.keep, codeAny_func ?_⟩
  obtain ⟨h₁, tk, rfl, _⟩ := x.done
  have hk₁ := x.toInCall.keep
  obtain ⟨cells, NC, Y⟩ := Cl.news (h₀ := s.heap) (Nat.le_refl _) fun n c hm => ⟨x.cell n c (lookup_of_mem_nodup (cellsFrom_names scope.names 0 (s.heap.objs.size + 1) [] [] rfl ▸ hnd) hm), x.above n c hm⟩
  refine wpAny_mono (h _ s.heap.objs.size h₁ tk cells ⟨x.toInCall.ns, fun b o e => hk₁ b o (of_hideAll _ e), Nat.le_of_eq (hideAll_size _ _)⟩ (fun q hq => ?_) Y BG (X₀.keeps st) (T.keeps st) (fun q hq => Heap.lt_size (Ns q hq).1) (fun q hq hx => hideAll_get _ (N q hq).1 fun z => by obtain ⟨x, hx1, hx2⟩ := List.mem_map.mp z; exact hx x hx1 hx2.symm)) (fun fl s' hl => ?_) fun _ _ y => y.elim
  · rcases List.mem_append.mp hq with hq | hq
    · refine ⟨(NC q hq).1, (NC q hq).2.1, ?_⟩
      cases z : (hideAll s.heap (small.map (·.1))).get? q.1 with
      | none => rfl
      | some o =>
        have := of_hideAll _ z
        rw [(NC q hq).2.2] at this
        cases this
    · exact ⟨hk₁ _ _ (Ns q hq).1, Nat.ne_of_lt (Heap.lt_size (Ns q hq).1), hideAll_none _ (List.mem_map_of_mem hq)⟩
  obtain ⟨L', m', small', F', N', news', hn, k⟩ := hl
  obtain ⟨oL, es, ep, hLg, hLd, hLk, hLf⟩ := FG.ns
  refine k ⟨⟨oL, es, ep, F'.keep L oL hLg, hLd, hLk, hLf⟩, fun b o e => F'.keep b o (st b o e), F.above⟩ fun q hq => ?_
  rcases hn q hq with hq | ⟨hq, hx⟩
  · refine ⟨(N' q hq).1, fun z => ?_, ?_⟩
    · have := (N' q hq).2.2
      rw [z, hLg] at this
      cases this
    · cases z : h₀.get? q.1 with
      | none => rfl
      | some o =>
        have := (N' q hq).2.2
        rw [st _ _ z] at this
        cases this
  · refine ⟨F'.keep _ _ (hideAll_get _ (N q hq).1 fun z => ?_), (N q hq).2⟩
    obtain ⟨x, hx1, hx2⟩ := List.mem_map.mp z
    exact hx x hx1 hx2.symm
end
end Mine
end

section
namespace Mine
theorem resetHD : True := by (k_with_none; w_top off); trivial
/-- a post under a name -/
def Hid {α : Type} (q : α → Shared → Prop) (v : α) (s : Shared) : Prop := q v s
def HidP {α : Type} (P q : α → Shared → Prop) : Prop := ∀ v s, P v s → q v s
theorem hideQ {α : Type} {M : Model} {A : Around} {t : Sem α} {P : α → Shared → Prop} {E : Value → Shared → Prop} {s : Shared}
    (h : ∀ q : α → Shared → Prop, HidP P q → wpAny M A t (Hid q) E s) : wpAny M A t P E s := h P fun _ _ x => x
theorem unhid {α : Type} {P q : α → Shared → Prop} {v : α} {s : Shared} (h : HidP P q) (k : P v s) : Hid q v s := h v s k
theorem execHid {M : Model} {A : Around} {st : Stmt} {rest : List Stmt} {env : Env} {Q : Flow → Shared → Prop} {E : Value → Shared → Prop} {s : Shared}
    (h : ∀ q : Flow → Shared → Prop, HidP (fun f s' => match f with | .next => wpAny M A (execs rest env) Q E s' | f => Q f s') q → wpAny M A (exec st env) (Hid q) E s) :
    wpAny M A (execs (st :: rest) env) Q E s := wpAny_execs_cons (h _ fun _ _ x => x)
theorem execHidH {M : Model} {A : Around} {st : Stmt} {rest : List Stmt} {env : Env} {q₀ : Flow → Shared → Prop} {E : Value → Shared → Prop} {s : Shared}
    (h : ∀ q : Flow → Shared → Prop, HidP (fun f s' => match f with | .next => wpAny M A (execs rest env) (Hid q₀) E s' | f => Hid q₀ f s') q → wpAny M A (exec st env) (Hid q) E s) :
    wpAny M A (execs (st :: rest) env) (Hid q₀) E s := wpAny_execs_cons (h _ fun _ _ x => x)
/-- what stands behind a statement -/
def Behind (M : Model) (A : Around) (rest : List Stmt) (env : Env) (q₀ : Flow → Shared → Prop) (E : Value → Shared → Prop) : Flow → Shared → Prop := fun f s' => match f with | .next => wpAny M A (execs rest env) (Hid q₀) E s' | f => Hid q₀ f s'
theorem execHidB {M : Model} {A : Around} {st : Stmt} {rest : List Stmt} {env : Env} {q₀ : Flow → Shared → Prop} {E : Value → Shared → Prop} {s : Shared}
    (h : ∀ q : Flow → Shared → Prop, HidP (Behind M A rest env q₀ E) q → wpAny M A (exec st env) (Hid q) E s) :
    wpAny M A (execs (st :: rest) env) (Hid q₀) E s := wpAny_execs_cons (h _ fun _ _ x => x)
theorem unhidNext {M : Model} {A : Around} {rest : List Stmt} {env : Env} {q₀ q : Flow → Shared → Prop} {E : Value → Shared → Prop} {s : Shared} (h : HidP (Behind M A rest env q₀ E) q) (k : wpAny M A (execs rest env) (Hid q₀) E s) : Hid q .next s := h _ _ k
theorem unhidNextT {M : Model} {A : Around} {rest : List Stmt} {env : Env} {q₀ q : Flow → Shared → Prop} {E : Value → Shared → Prop} {h : Heap} {g : Array GenState} {d : Drawn} {tk : Nat} {os : OsState} (hq : HidP (Behind M A rest env q₀ E) q) (k : ∀ tk, wpAny M A (execs rest env) (Hid q₀) E ⟨h, g, d, tk, os⟩) : Hid q .next ⟨h, g, d, tk, os⟩ := hq _ _ (k tk)
theorem unhidRet {M : Model} {A : Around} {rest : List Stmt} {env : Env} {q₀ q : Flow → Shared → Prop} {E : Value → Shared → Prop} {s : Shared} {v : Value} (h : HidP (Behind M A rest env q₀ E) q) (k : Hid q₀ (.ret v) s) : Hid q (.ret v) s := h _ _ k
/-- the place under a name of its own -/
theorem letA {α : Type} {M : Model} {A : Around} {t : Sem α} {Q : α → Shared → Prop} {E : Value → Shared → Prop} {s : Shared}
    (h : let A' := A; wpAny M A' t Q E s) : wpAny M A t Q E s := h
/-- the frame's map and the ledger under names -/
theorem letF {h₀ h : Heap} {L : Addr} {m : Str → Option Value} {P : Prop} (F : Fr h₀ L h m) (k : let m' := m; Fr h₀ L h m' → P) : P := k F
theorem letN {h₀ h : Heap} {L : Addr} {news : List (Addr × Obj)} {P : Prop} (N : News h₀ L h news) (k : let n' := news; News h₀ L h n' → P) : P := k N
theorem offAt0 {D a : Addr} {o : Obj} : ∀ {l : List (Addr × Obj)} (_ : LCg.Off1 D l) (i : Nat), l[i]? = some (a, o) → @Ne Nat a D
  | [], _, _, e => by cases e
  | p :: _, h, 0, e => by cases e; exact h.1
  | _ :: r, h, i + 1, e => offAt0 (l := r) h.2 i e
theorem offAt {D a : Addr} {l : List (Addr × Obj)} (h : LCg.Off1 D l) (i : Nat) (e : (l[i]?).map Prod.fst = some a) : @Ne Nat a D := by
  cases hq : l[i]? with
  | none => rw [hq] at e; cases e
  | some p => rw [hq] at e; cases e; exact offAt0 h i hq
theorem ltAt {D a : Addr} {l : List (Addr × Obj)} (h : ∀ p : Addr × Obj, p ∈ l → p.1 < D) (i : Nat) (e : (l[i]?).map Prod.fst = some a) : @Ne Nat a D := by
  cases hq : l[i]? with
  | none => rw [hq] at e; cases e
  | some p => rw [hq] at e; cases e; exact Nat.ne_of_lt (h p (List.mem_of_getElem? hq))
theorem ltB {D a : Addr} {l : List (Addr × Obj)} (h : ∀ p : Addr × Obj, p ∈ l → p.1 < D) (i : Nat) (e : (l[i]?).map Prod.fst = some a) : @LT.lt Nat _ a D := by
  cases hq : l[i]? with
  | none => rw [hq] at e; cases e
  | some p => rw [hq] at e; cases e; exact h p (List.mem_of_getElem? hq)
theorem memAt {α : Type} {p : α} {l : List α} (i : Nat) (e : l[i]? = some p) : p ∈ l := List.mem_of_getElem? e
theorem rl0 {a c M N : Nat} (h : a + c ≤ M) (e : Nat.ble (M + 1) (N + c) = true) : a < N := by have := Nat.le_of_ble_eq_true e; omega
theorem rm0 {a c M N : Nat} (h : a + c ≤ M) (e : Nat.ble (M) (N + c) = true) : a ≤ N := by have := Nat.le_of_ble_eq_true e; omega
theorem rl1 {a c M N i : Nat} (h : a + c ≤ M) (e : Nat.ble (M + i + 1) (N + c) = true) : a + i < N := by have := Nat.le_of_ble_eq_true e; omega
theorem rm1 {a c M N i : Nat} (h : a + c ≤ M) (e : Nat.ble (M + i) (N + c) = true) : a + i ≤ N := by have := Nat.le_of_ble_eq_true e; omega
theorem rl2 {a c M N i j : Nat} (h : a + c ≤ M) (e : Nat.ble (M + i + j + 1) (N + c) = true) : a + i + j < N := by have := Nat.le_of_ble_eq_true e; omega
theorem rm2 {a c M N i j : Nat} (h : a + c ≤ M) (e : Nat.ble (M + i + j) (N + c) = true) : a + i + j ≤ N := by have := Nat.le_of_ble_eq_true e; omega
theorem rl3 {a c M N i j k : Nat} (h : a + c ≤ M) (e : Nat.ble (M + i + j + k + 1) (N + c) = true) : a + i + j + k < N := by have := Nat.le_of_ble_eq_true e; omega
theorem rm3 {a c M N i j k : Nat} (h : a + c ≤ M) (e : Nat.ble (M + i + j + k) (N + c) = true) : a + i + j + k ≤ N := by have := Nat.le_of_ble_eq_true e; omega
theorem rl4 {a c M N i j k l : Nat} (h : a + c ≤ M) (e : Nat.ble (M + i + j + k + l + 1) (N + c) = true) : a + i + j + k + l < N := by have := Nat.le_of_ble_eq_true e; omega
theorem rm4 {a c M N i j k l : Nat} (h : a + c ≤ M) (e : Nat.ble (M + i + j + k + l) (N + c) = true) : a + i + j + k + l ≤ N := by have := Nat.le_of_ble_eq_true e; omega
theorem updNe {z x : Str} {i : Decidable (z = x)} {a b c : Option Value} (h : z ≠ x) (k : b = c) : @ite _ (z = x) i a b = c := (if_neg h).trans k
theorem updHas {st : List Str} {z : Str} {i : Decidable (st.contains z = true)} {a b c : Option Value} (h : st.contains z = false) (k : b = c) : @ite _ (st.contains z = true) i a b = c := (if_neg (by rw [h]; exact Bool.false_ne_true)).trans k
theorem hasNil {z : Str} : ([] : List Str).contains z = false := rfl
theorem hasCons {st : List Str} {x z : Str} (h : z ≠ x) (k : st.contains z = false) : (x :: st).contains z = false := by
  rw [List.contains_cons, k, Bool.or_false]
  exact beq_eq_false_iff_ne.mpr h
theorem neOf {ps : List (Str × Value)} {z y : Str} (h : ∀ p : Str × Value, p ∈ ps → z ≠ p.1) (i : Nat) (e : (ps[i]?).map Prod.fst = some y) : z ≠ y := by
  cases hq : ps[i]? with
  | none => rw [hq] at e; cases e
  | some p => rw [hq] at e; cases e; exact h p (List.mem_of_getElem? hq)
theorem neHas {st : List Str} {z y : Str} (h : st.contains z = false) (hy : y ∈ st) : z ≠ y := fun e => by
  subst e
  rw [List.contains_iff_mem.mpr hy] at h
  cases h
end Mine
end

section
namespace Mine
theorem resetFX : True := by (k_with_none; w_top off); trivial
/-- what a name of the frame or a constant is worth, and the tokens behind it -/
def sv (env : Env) (m : Str → Option Value) (t : Nat) : Expr → Option (Value × Nat)
  | .Name x _ => if (x == ("__debug__" : Str)) then none else match env.kindOf x with
      | some .local => (match m x with | some v => some (v, t) | none => none)
      | _ => none
  | .Constant (.int i) _ _ => some (.int i t, t + 1)
  | .Constant (.str x) _ _ => some (.str x t, t + 1)
  | .Constant (.bool b) _ _ => some (.bool b, t)
  | _ => none
def svs (env : Env) (m : Str → Option Value) : Nat → List Expr → Option (List Value × Nat)
  | t, [] => some ([], t)
  | t, e :: r => match sv env m t e with
    | some (v, t1) => (match svs env m t1 r with | some (vs, t2) => some (v :: vs, t2) | none => none)
    | none => none
/-- names and constants alone: said ahead, so that another row falls at once -/
def plainAll : List Expr → Bool
  | [] => true
  | .Name _ _ :: r => plainAll r
  | .Constant _ _ _ :: r => plainAll r
  | _ => false
def svp (env : Env) (m : Str → Option Value) (t : Nat) (es : List Expr) : Option (List Value × Nat) := match plainAll es with
  | true => svs env m t es
  | false => none
theorem svp_of {env : Env} {m : Str → Option Value} {t : Nat} {es : List Expr} {q : List Value × Nat} (h : svp env m t es = some q) : svs env m t es = some q := by
  unfold svp at h
  split at h
  · exact h
  · cases h
section
variable {M : Model} {A : Around} {E : Value → Shared → Prop} {h : Heap} {gs : Array GenState} {dr : Drawn} {os : OsState} {t t' t1 t2 : Nat} {K : Frag} {h₀ : Heap} {L a : Addr} {m mg mb : Str → Option Value} {cn : Str} {cs : Scope} {ccd : Value} {cl : List (Str × Addr)} {p : Program} {loose : List Str}
  {x f : Str} {pos p1 : Pos} {v w : Value} {vs : List Value}
theorem sv_ok {Q : Value → Shared → Prop} {e : Expr} {s : Shared} (F : Fr h₀ L s.heap m) (hk : cs.kind = .function) (he : sv (envX cn cs L a ccd cl) m s.toks e = some (v, t')) (hq : Q v { s with toks := t' }) :
    wpAny M A (eval e (envX cn cs L a ccd cl)) Q E s := by
  unfold sv at he
  split at he
  · rename_i x pos
    split at he
    · cases he
    · rename_i hd
      split at he
      · rename_i hx
        split at he
        · rename_i v' hv
          cases he
          exact nameX_L F hv hq hk hx (by simpa using hd)
        · cases he
      · cases he
  · cases he; exact wpAny_Constant_int hq
  · cases he; exact wpAny_Constant_str hq
  · cases he; exact wpAny_Constant_bool hq
  · cases he
theorem sv_star {env : Env} {e : Expr} {r : List Expr} {q : Value × Nat} (he : sv env m t e = some q) : starEach (e :: r) env = (false, eval e env) :: starEach r env := by
  unfold sv at he
  split at he <;> first | rfl | cases he
theorem svs_ok {env : Env} : ∀ {es : List Expr} {Q : List Value → Shared → Prop} {s : Shared} {vs : List Value} {t' : Nat}, env = envX cn cs L a ccd cl → Fr h₀ L s.heap m → cs.kind = .function → svs env m s.toks es = some (vs, t') → Q vs { s with toks := t' } →
    wpAny M A (spliced (backTo pos (starEach es env))) Q E s
  | [], Q, s, vs, t', he, F, hk, hs, hq => by
    cases hs
    exact args_nil hq
  | e :: r, Q, s, vs, t', he, F, hk, hs, hq => by
    unfold svs at hs
    split at hs
    · rename_i v t1 hv
      split at hs
      · rename_i vs' t2 hr
        cases hs
        refine args_cons ?_ (sv_star hv)
        subst he
        refine sv_ok F hk hv ?_
        exact svs_ok (s := { s with toks := t1 }) rfl F hk hr hq
      · cases hs
    · cases hs
/-- the arguments that are left are plain -/
theorem argsF {Q : List Value → Shared → Prop} {es : List Expr} (F : Fr h₀ L h m) (hk : cs.kind = .function) (hs : svp (envX cn cs L a ccd cl) m t es = some (vs, t')) (hq : Q vs (Shared.mk h gs dr t' os)) :
    wpAny M A (spliced (backTo pos (starEach es (envX cn cs L a ccd cl)))) Q E (Shared.mk h gs dr t os) := svs_ok (s := Shared.mk h gs dr t os) rfl F hk (svp_of hs) hq
/-- a function of the text, called with plain arguments -/
theorem callF {Q : Value → Shared → Prop} {e : Expr} {es : List Expr} (F : Fr h₀ L h m) (X : K.In h₀) (T : TopRead p loose mg mb h₀) (ef : nsIn K mainGlobals f = some (some w)) (hkeep : keepIn K w = true) (hk : cs.kind = .function)
    (hf : (envX cn cs L a ccd cl).kindOf f = some .globalImplicit) (hs : svp (envX cn cs L a ccd cl) m t (e :: es) = some (vs, t')) (hq : wpAny M A (call w vs) Q E (Shared.mk h gs dr t' os)) (hd : (f == ("__debug__" : Str)) = false := by decide)
    (hpl : (backTo pos (starEach es (envX cn cs L a ccd cl))).any (·.1) = false := by rfl) :
    wpAny M A (eval (.Call (.Name f p1) (e :: es) [] pos) (envX cn cs L a ccd cl)) Q E (Shared.mk h gs dr t os) := by
  have hs := svp_of hs
  refine Call_ (nameX_K (s := Shared.mk h gs dr t os) F X T ef ?_ hk hf hd)
  have hst : ∃ q, sv (envX cn cs L a ccd cl) m t e = some q := by
    unfold svs at hs
    split at hs
    · exact ⟨_, by assumption⟩
    · cases hs
  obtain ⟨q, hq1⟩ := hst
  refine callWith_K X hkeep ?_ (sv_star hq1) hpl
  exact svs_ok (s := Shared.mk h gs dr t os) rfl F hk hs ⟨X.keeps F.keep, hq⟩
/-- a function of the text, called with nothing behind what it is bound to -/
theorem callF0 {Q : Value → Shared → Prop} {first : List Value} {env : Env} (F : Fr h₀ L h m) (X : K.In h₀) (hk : keepIn K w = true) (hq : wpAny M A (call w (first ++ [])) Q E (Shared.mk h gs dr t os)) :
    wpAny M A (callWith pos w first (backTo pos (starEach [] env)) []) Q E (Shared.mk h gs dr t os) := callWith_K0 (X.keeps F.keep) hk hq
end
end Mine
end

section
namespace Mine
theorem resetBase2 : True := by (k_with_none; w_top off); trivial
section
variable {prog : Program} {w : World} {A : Around} {E : Value → Shared → Prop} {s : Shared} {h₀ : Heap} {L : Addr} {m : Str → Option Value} {env : Env}
/-- a comprehension's source that is a range with a step -/
def CompSrcS (prog : Program) (w : World) (A : Around) (h₀ : Heap) (L : Addr) (m : Str → Option Value) (env : Env) (elt : PySem.Expr) (x : Str) (scope : Scope) (cl : List (Str × Addr)) (Fin : Shared → List Value → List (Addr × Obj) → Prop) (xv : Value) (s₁ : Shared) : Prop :=
  ∃ r a b c t u v n news, xv = .ref r ∧ A.handled = none ∧ Fr h₀ L s₁.heap m ∧ News h₀ L s₁.heap news ∧ IsRange s₁.heap r a b c t u v ∧ Builtin.Range.small a b c = true ∧ Builtin.Range.rangeSize a b c = ((n : Nat) : Int) ∧ n ≤ sizeLine ∧
    ∀ g, LCg.CompRest prog w A h₀ L m env elt x scope cl { s₁ with heap := g } (fun _ => True) (fun i v => i < n ∧ ∃ t, v = .int (a + (i : Int) * c) t) (Fin { s₁ with heap := g }) n 0 [] news
theorem rangeS_st {I : Addr} {a c : Int} {n : Nat} : ∀ i (h h' : Heap) (o : Obj) (nw : List (Addr × Obj)), IsRangeIter h I (a + (i : Nat) * c) ((n : Int) - (i : Nat)) c → h.get? I = some o → h'.get? I = some o → (∀ b o, h₀.get? b = some o → h'.get? b = some o) → News h₀ L h' nw → True → IsRangeIter h' I (a + (i : Nat) * c) ((n : Int) - (i : Nat)) c :=
  fun i h h' o nw st e e' _ _ _ => by
    have st' : h.get? I = some _ := st
    show h'.get? I = some _
    rw [e', ← e]
    exact st'
theorem ListComp_S {elt iter : PySem.Expr} {x : Str} {px : Pos} {scope : Scope} {cl : List (Str × Addr)} {pos : Pos} {Q : Value → Shared → Prop} (F₀ : Fr h₀ L s.heap m)
    (hclos : closureFor scope env = pure cl) (hcell : ∀ y ∈ scope.names, y.2 ≠ .cell) (hkind : scope.kind = .function)
    (hnames : ∀ y ∈ scope.names, y.2 = .local → scope.names.lookup y.1 = some .local) (hx : scope.names.lookup x = some .local)
    (h : wpAny (model prog w) A (eval iter env) (CompSrcS prog w A h₀ L m env elt x scope cl (fun s₂ => LCg.FinE h₀ L m s₂ Q)) E s)
    (hs : ∀ x, foldedSetIterable iter env x = pure x := by intro _; rfl) :
    wpAny (model prog w) A (eval (.ListComp elt [⟨.Name x px, iter, [], 0⟩] scope pos) env) Q E s := by
  rw [eval_ListComp]
  refine wpAny_comprehension_free (use := none) rfl hs hclos hkind hnames (wpAny_mono h (fun xv s₁ h₁ => ?_) fun _ _ e => e)
  refine ex9 h₁ ?_
  clear h₁
  intro r a b c t u v n news hc9_14
  refine an9 hc9_14 ?_
  clear hc9_14
  intro e9_14_0 hh F N hr hsm hn hsz R
  subst e9_14_0
  refine wpAny_pyIter_range hr hsm ?_
  refine LCg.block_U ((Walks.range hh s₁.heap.objs.size a c n).bound) hsz (fun i h st => ⟨_, st⟩) rangeS_st hcell hkind hx (by show IsRangeIter _ _ _ _ _; rw [hn]; simpa using Heap.get?_push_size _ rfl) (fun b hb => ?_)
    (F.keeps fun _ _ e => Heap.get?_push_of_some _ e) (N.grown fun _ _ e => Heap.get?_push_of_some _ e) (Nat.ne_of_lt F.ns.lt) (next_is_new F) (fun p hp => Nat.ne_of_lt (Heap.lt_size (N p hp).1)) trivial (R _) ?_
  · rw [List.mem_singleton.mp hb]
    show s₁.heap.objs.size < (s₁.heap.push _).objs.size
    rw [Heap.size_push]
    exact Nat.lt_succ_self _
  · intro D C h tk m' ys news' F' N' o1 hn hC₀ hD₀ hCL hDL hCD offC fin
    refine ⟨m', hn, fun h'' hs'' => fin D h'' tk (F'.change hs'' hCL hC₀) (fun p hp => ?_) o1⟩
    refine ⟨hs''.extBut _ _ ?_ (N' p hp).1, (N' p hp).2⟩
    rcases List.mem_cons.mp hp with rfl | hp
    · exact Ne.symm hCD
    · exact offC p hp
end
/-- the places of a range with a step -/
def stepKs (a c : Int) (n : Nat) : List Int := (List.range n).map fun (i : Nat) => a + (i : Int) * c
theorem stepKs_at {a c : Int} {n : Nat} (i : Nat) (v : Value) (hi : i < n) (hv : i < n ∧ ∃ t, v = .int (a + (i : Int) * c) t) : ∃ k t, (stepKs a c n)[i]? = some k ∧ v = .int k t := by
  obtain ⟨_, t, rfl⟩ := hv
  exact ⟨_, t, by simp [stepKs, hi], rfl⟩
theorem stepKs_length (a c : Int) (n : Nat) : (stepKs a c n).length = n := by simp [stepKs]
theorem mem_stepKs {a c k : Int} {n : Nat} (h : k ∈ stepKs a c n) : ∃ i : Nat, i < n ∧ k = a + (i : Int) * c := by
  obtain ⟨i, hi, rfl⟩ := List.mem_map.mp h
  exact ⟨i, List.mem_range.mp hi, rfl⟩
theorem range8 (W : Nat) : Builtin.Range.rangeSize 0 (W : Int) 8 = (((W + 7) / 8 : Nat) : Int) := by
  unfold Builtin.Range.rangeSize
  rw [if_pos (by decide)]
  split <;> omega
theorem small8 {W : Nat} (h : W ≤ 2 ^ 40) : Builtin.Range.small 0 (W : Int) 8 = true := by
  have h2 : W ≤ 1099511627776 := h
  unfold Builtin.Range.small
  rw [range8]
  have e1 : Builtin.Range.rangeFitsLong 0 = true := by decide
  have e2 : Builtin.Range.rangeFitsLong (W : Int) = true := by
    unfold Builtin.Range.rangeFitsLong
    simp only [Bool.and_eq_true, decide_eq_true_eq]
    omega
  have e3 : Builtin.Range.rangeFitsLong 8 = true := by decide
  have e4 : Builtin.Range.rangeFitsLong (((W + 7) / 8 : Nat) : Int) = true := by
    unfold Builtin.Range.rangeFitsLong
    simp only [Bool.and_eq_true, decide_eq_true_eq]
    omega
  have e5 : Builtin.Range.rangeFitsLong ((W : Int) + (8 - 1)) = true := by
    unfold Builtin.Range.rangeFitsLong
    simp only [Bool.and_eq_true, decide_eq_true_eq]
    omega
  rw [e1, e2, e3, e4, if_pos (by decide), e5]
  simp
theorem mem_step8 {k : Int} {W : Nat} (h : k ∈ stepKs 0 8 ((W + 7) / 8)) : 0 ≤ k ∧ k < (W : Int) := by
  obtain ⟨i, hi, rfl⟩ := mem_stepKs h
  omega
section
variable {prog : Program} {w : World} {A : Around} {h₀ : Heap} {L : Addr} {m : Str → Option Value} {env : Env} {elt : PySem.Expr} {x : Str} {scope : Scope} {cl : List (Str × Addr)} {s : Shared} {S : List (Addr × Obj) → Prop} {Fin : List Value → List (Addr × Obj) → Prop} {news : List (Addr × Obj)}
theorem kcf_step8 {W : Nat} (g : Int → Int)
    (turn : ∀ k t I oI C oC D m₂ ys h tk (E' : Value → Shared → Prop), 0 ≤ k → k < (W : Int) → LCg.NsObj oC m₂ → m₂ x = some (.int k t) → Fr h₀ L h m → News h₀ L h ((I, oI) :: (C, oC) :: (D, LCg.lst ys) :: news) → LCg.Off3 I C D news → ((@Ne Nat I C) ∧ (@Ne Nat I D) ∧ (@Ne Nat C D)) → KPfMark →
      wpAny (model prog w) A (eval elt (compEnvC scope cl C env)) (LCg.CompEnd h₀ L m { s with heap := h, toks := tk } I oI C oC D (LCg.lst ys) S (fun y news' => KCfEl news (g k) y news')) E' { s with heap := h, toks := tk })
    (fin : KPfDone (∀ ys, IntsAre ys ((stepKs 0 8 ((W + 7) / 8)).map g) → Fin ys news)) : LCg.CompRest prog w A h₀ L m env elt x scope cl s S (fun i v => i < (W + 7) / 8 ∧ ∃ t, v = .int (0 + (i : Int) * 8) t) Fin ((W + 7) / 8) 0 [] news :=
  kcf_rest (ks := stepKs 0 8 ((W + 7) / 8)) g (stepKs_length _ _ _) stepKs_at
    (fun k t I oI C oC D m₂ ys h tk E' hk hC hx F N off ne mk => turn k t I oI C oC D m₂ ys h tk E' (mem_step8 hk).1 (mem_step8 hk).2 hC hx F N off ne mk) fin
end
end Mine
end

local macro_rules | `(tactic| k_room) => `(tactic| ktr_room)
local macro_rules | `(tactic| k_units) => `(tactic| ktr_units)
section
namespace Mine
theorem wordsC20 : True := by
  k_with_none
  w_top off
  k_with "a9" => (with_reducible assumption)
  k_with "c9" => (repeat (with_reducible rename _ ∧ _ => hA9; clear hA9)); (repeat (with_reducible rename _ ≠ _ => hA9; clear hA9))
  k_with "u9" => ((with_reducible rename News _ _ _ _ => N9); dsimp +zetaDelta only at N9)
  k_with "p0" => (refine offAt (by fail "a9") 0 ?_; exact rfl)
  k_with "p1" => (refine offAt (by fail "a9") 1 ?_; exact rfl)
  k_with "p2" => (refine offAt (by fail "a9") 2 ?_; exact rfl)
  k_with "p3" => (refine offAt (by fail "a9") 3 ?_; exact rfl)
  k_with "p4" => (refine offAt (by fail "a9") 4 ?_; exact rfl)
  k_with "p5" => (refine offAt (by fail "a9") 5 ?_; exact rfl)
  k_with "p6" => (refine offAt (by fail "a9") 6 ?_; exact rfl)
  k_with "p7" => (refine offAt (by fail "a9") 7 ?_; exact rfl)
  k_with "p8" => (refine offAt (by fail "a9") 8 ?_; exact rfl)
  k_with "p9" => (refine offAt (by fail "a9") 9 ?_; exact rfl)
  k_with "p10" => (refine offAt (by fail "a9") 10 ?_; exact rfl)
  k_with "p11" => (refine offAt (by fail "a9") 11 ?_; exact rfl)
  k_with "p12" => (refine offAt (by fail "a9") 12 ?_; exact rfl)
  k_with "p13" => (refine offAt (by fail "a9") 13 ?_; exact rfl)
  k_with "p14" => (refine ltAt (by fail "a9") 0 ?_; exact rfl)
  k_with "p15" => (refine ltAt (by fail "a9") 1 ?_; exact rfl)
  k_with "p16" => (refine ltAt (by fail "a9") 2 ?_; exact rfl)
  k_with "p17" => (refine ltAt (by fail "a9") 3 ?_; exact rfl)
  k_with "p18" => (refine ltAt (by fail "a9") 4 ?_; exact rfl)
  k_with "p19" => (refine ltAt (by fail "a9") 5 ?_; exact rfl)
  k_with "p20" => (refine ltAt (by fail "a9") 6 ?_; exact rfl)
  k_with "p21" => (refine ltAt (by fail "a9") 7 ?_; exact rfl)
  k_with "p22" => (refine ltAt (by fail "a9") 8 ?_; exact rfl)
  k_with "p23" => (refine ltAt (by fail "a9") 9 ?_; exact rfl)
  k_with "p24" => (refine ltAt (by fail "a9") 10 ?_; exact rfl)
  k_with "p25" => (refine ltAt (by fail "a9") 11 ?_; exact rfl)
  k_with "p26" => (refine ltAt (by fail "a9") 12 ?_; exact rfl)
  k_with "p27" => (refine ltAt (by fail "a9") 13 ?_; exact rfl)
  k_with "r9" => (fail "w1")
  k_with "w1" => (first | fail "a9" | exact Nat.le_of_lt (by fail "a9"))
  k_with "offs9" => (first | fail "p0" | fail "p1" | fail "p2" | fail "p3" | fail "p4" | fail "p5" | fail "p6" | fail "p7" | fail "p8" | fail "p9" | fail "p10" | fail "p11" | fail "p12" | fail "p13" | fail "p14" | fail "p15" | fail "p16" | fail "p17" | fail "p18" | fail "p19" | fail "p20" | fail "p21" | fail "p22" | fail "p23" | fail "p24" | fail "p25" | fail "p26" | fail "p27")
  k_with "mem9" => (fail "w2")
  k_with "w2" => (first | exact List.Mem.head _ | exact List.Mem.tail _ (List.Mem.head _) | (refine memAt 0 ?_; exact rfl) | (refine memAt 1 ?_; exact rfl) | (refine memAt 2 ?_; exact rfl) | (refine memAt 3 ?_; exact rfl) | (refine memAt 4 ?_; exact rfl) | (refine memAt 5 ?_; exact rfl) | (refine memAt 6 ?_; exact rfl) | (refine memAt 7 ?_; exact rfl) | (refine memAt 8 ?_; exact rfl) | (refine memAt 9 ?_; exact rfl) | (refine memAt 10 ?_; exact rfl) | (refine memAt 11 ?_; exact rfl) | (refine memAt 12 ?_; exact rfl) | (refine memAt 13 ?_; exact rfl) | (refine memAt 14 ?_; exact rfl) | (refine memAt 15 ?_; exact rfl) | (refine memAt 16 ?_; exact rfl) | (refine memAt 17 ?_; exact rfl))
  k_with "lts9" => (fail "w3")
  k_with "w3" => (first | (refine ltB (by fail "a9") 0 ?_; exact rfl) | (refine ltB (by fail "a9") 1 ?_; exact rfl) | (refine ltB (by fail "a9") 2 ?_; exact rfl) | (refine ltB (by fail "a9") 3 ?_; exact rfl) | (refine ltB (by fail "a9") 4 ?_; exact rfl) | (refine ltB (by fail "a9") 5 ?_; exact rfl) | (refine ltB (by fail "a9") 6 ?_; exact rfl) | (refine ltB (by fail "a9") 7 ?_; exact rfl) | (refine ltB (by fail "a9") 8 ?_; exact rfl) | (refine ltB (by fail "a9") 9 ?_; exact rfl) | (refine ltB (by fail "a9") 10 ?_; exact rfl) | (refine ltB (by fail "a9") 11 ?_; exact rfl) | (refine ltB (by fail "a9") 12 ?_; exact rfl) | (refine ltB (by fail "a9") 13 ?_; exact rfl))
  k_with "rooms9" => (fail "w4")
  k_with "w4" => (first | (refine rl2 (by fail "r9") ?_; exact rfl) | (refine rl1 (by fail "r9") ?_; exact rfl) | (refine rl3 (by fail "r9") ?_; exact rfl) | (refine rl0 (by fail "r9") ?_; exact rfl) | (refine rl4 (by fail "r9") ?_; exact rfl) | (refine rm2 (by fail "r9") ?_; exact rfl) | (refine rm1 (by fail "r9") ?_; exact rfl) | (refine rm3 (by fail "r9") ?_; exact rfl) | (refine rm0 (by fail "r9") ?_; exact rfl) | (refine rm4 (by fail "r9") ?_; exact rfl))
  k_with "k_ne" => (fail "w5")
  k_with "w5" => (refine neN ?_; (try dsimp only); first | fail "a9" | (refine Ne.symm ?_; fail "a9") | exact Nat.ne_of_lt (by fail "a9") | exact Nat.ne_of_gt (by fail "a9") | k_extra "offs9" | (refine Ne.symm ?_; first | k_extra "offs9") | ((try simp only [LCg.Off1, and_true] at *); omega))
  k_with "k_mem" => (fail "w6")
  k_with "w6" => (first | fail "a9" | k_extra "mem9")
  k_with "k_memK" => (first | k_extra "mem9")
  k_with "is_list" => (fail "w7")
  k_with "w7" => (exact News.isList (by fail "a9") (by k_mem))
  k_with "ktr_room" => (fail "w8")
  k_with "w8" => ((try dsimp only [depth_under_make, depth_under_kw, depth_in1, depth_deeper, depth_caller]); (try dsimp only [ktrTop]); first | decide | k_extra "rooms9")
  k_with "units_room" => (fail "w9")
  k_with "w9" => ((try dsimp only [units_in1, units_deeper, Around.mark_units, units_caller]); (try dsimp only [ktrTop]); first | decide | k_extra "rooms9")
  k_with "l_idx" => ((k_extra "c9"); omega)
  k_with "l_fit" => ((k_extra "c9"); omega)
  k_with "ktr_units" => (fail "w10")
  k_with "w10" => ((try dsimp only [units_in1, units_deeper, Around.mark_units, units_caller]); (try dsimp only [ktrTop]); first | decide | k_extra "rooms9")
  k_with "execs cons" => (fail "w11")
  k_with "w11" => (k_here; first | k_gentoks | ((try dsimp only); (try k_gentoks); (try (with_reducible refine letA ?_; intro A9)); (try ((with_reducible rename Fr _ _ _ _ => F9); refine letF F9 ?_; clear F9; intro m9 F9)); (first | (with_reducible refine execHidB fun q9 hq9 => ?_) | (refine hideQ fun q9 hq9 => ?_; with_reducible refine execHidB fun q9 hq9 => ?_))))
  k_with "Hid" => (fail "w12")
  k_with "w12" => (first | ((with_reducible refine unhidNextT (by fail "a9") ?_); intro tk9; (try dsimp only)) | ((with_reducible refine unhidNext (by fail "a9") ?_); (try dsimp only)) | ((with_reducible refine unhidRet (by fail "a9") ?_); (try dsimp only)) | ((with_reducible refine unhid (by fail "a9") ?_); (try dsimp only [Behind])))
  k_with "spliced" => (fail "w13")
  k_with "w13" => (k_here; (with_reducible show wpAny _ _ (spliced (backTo _ (starEach (_ :: _ :: _ :: _) _))) _ _ _); k_dflt (refine' args_cons ?_ ?_; rotate_left; rfl))
  k_with "spliced" => (fail "w14")
  k_with "w14" => (k_here; k_dflt ((refine' argsF ?_ ?_ ?_ ?_); (rotate_left 4); k_asm; rfl; rfl); (try dsimp only [List.nil_append, List.cons_append]))
  k_with "eval Call" => (fail "w15")
  k_with "w15" => (k_here; (with_reducible show wpAny _ _ (eval (PySem.Expr.Call (PySem.Expr.Name _ _) (_ :: _) [] _) _) _ _ _); first | (k_dflt ((refine' callF ?_ ?_ ?_ ?_ ?_ ?_ ?_ ?_ ?_ ?_ ?_); (rotate_left 10); k_asm; k_asm; k_asm; k_is; k_is; rfl; rfl; rfl; rotate_left; decide; rfl)) | k_compRoot | k_dflt (refine' Call_ ?_))
  k_with "eval Name" => (fail "w16")
  k_with "w16" => (k_here; (with_reducible show wpAny _ _ (eval (PySem.Expr.Name _ _) (envOf _ _ _ _ _)) _ _ _); first | k_dflt ((refine' nameX_K ?_ ?_ ?_ ?_ ?_ ?_ ?_ ?_); (rotate_left 8); k_asm; k_asm; k_asm; k_is; rotate_left; rfl; rfl; decide) | k_dflt ((refine' nameX_L ?_ ?_ ?_ ?_ ?_ ?_); (rotate_left 3); k_asm; rfl; rotate_left; rfl; rfl; decide))
  k_with "callWith ref" => (fail "w17")
  k_with "w17" => (k_here; (with_reducible show wpAny _ _ (callWith _ _ _ (backTo _ (starEach [] _)) []) _ _ _); k_dflt (refine callF0 (by fail "a9") (by fail "a9") (by k_is) ?_))
  k_with "k_lt" => skip
  k_with "ktr_enter" => (fail "w18")
  k_with "w18" => first | (refine enterK (by assumption) (by assumption) (by k_is) (by k_is) (by ktr_room) (by exact BindsTo.of_eq rfl) (by exact locs rfl) ?_ (by exact rfl) (by exact rfl) (by exact rfl) (by decide); k_whole; intro g' L' h' F' N' B' X' T' lN' gN' tk9'; (try k_lt lN'); (try dsimp only); (try k_fold)) | (refine enterC (by assumption) (by assumption) (by k_is) (by k_is) (by ktr_room) (by exact BindsTo.of_eq rfl) (by exact rfl) (by decide +kernel) ?_ (by exact rfl) (by exact rfl) (by exact rfl); k_whole; intro g' L' h' tk' cells' F' N' Y' B' X' T' lN' gN'; (try k_lt lN'); k_cells Y'; (try simp only [List.cons_append, List.nil_append] at N'); (try dsimp only); (try k_fold))
  trivial
def bitsL (n wd : Int) : List Int := (rangeKs 0 (wd - 0).toNat).map fun k => (n.fdiv (2 ^ k.toNat)).fmod 2
theorem bits_spec {prog p : Program} {w : World} {loose : List Str} {mean : ExcName → Option Value} {mg mb : Str → Option Value} {dp un : Nat} {gd : Option (List Code)} {cn : Str} {cs : Scope} {a : Addr} {ccd : Value} {outer : List Env} {A₀ : Around} {base h₀ : Heap} {L : Addr} {m : Str → Option Value} {s : Shared} {Q E : Value → Shared → Prop}
    {news : List (Addr × Obj)} {cl : List (Str × Addr)} {n wd : Int} {tn tw : Tok}
    (S : Site w p loose mean mg mb cs outer A₀ base h₀ L m news s.heap)
    (h0 : 0 ≤ wd) (h1 : wd ≤ 400) (hn1 : -(2 ^ 60) ≤ n) (hn2 : n ≤ 2 ^ 60)
    (hdp : dp + 4 < recursionLimit) (hun : un + 40 < cLine)
    (h : ∀ (l : Addr) (vs : List Value) (nl : Nat) (h' : Heap) (tk' : Nat), IntsAre vs (bitsL n wd) → LCg.Off1 l news →
      Fr h₀ L h' m → News h₀ L h' ((l, PySem.W.listOf vs.toArray nl) :: news) → Q (.ref l) { s with heap := h', toks := tk' }) :
    wpAny (model prog w) (ktrTop dp un gd cn cs L a ccd cl outer) (call (.ref 281) [.int n tn, .int wd tw]) Q E s := by
  have hsub : ∀ q ∈ news, q ∈ news := fun _ h => h
  k_dflt ktr_enter
  k_steps
  with_reducible rename (_ ∧ LCg.Off1 _ _) => o9
  with_reducible rename IntsAre _ _ => i9
  exact leaveE_ (by assumption) (by assumption) ⟨(_, LCg.lst _) :: news, fun q hq => .inl (by
    rcases List.mem_cons.mp hq with rfl | hq
    · exact List.mem_cons_self
    · exact List.mem_cons_of_mem _ (List.mem_cons_of_mem _ hq)), fun F9 N9 => h _ _ _ _ _ i9 o9.2 F9 N9⟩
end Mine
end

section
namespace Mine
theorem wordsC30 : True := by
  k_with_none
  w_top off
  k_with "a9" => (with_reducible assumption)
  k_with "c9" => (repeat (with_reducible rename _ ∧ _ => hA9; clear hA9)); (repeat (with_reducible rename _ ≠ _ => hA9; clear hA9))
  k_with "u9" => ((with_reducible rename News _ _ _ _ => N9); dsimp +zetaDelta only at N9)
  k_with "p0" => (refine offAt (by fail "a9") 0 ?_; exact rfl)
  k_with "p1" => (refine offAt (by fail "a9") 1 ?_; exact rfl)
  k_with "p2" => (refine offAt (by fail "a9") 2 ?_; exact rfl)
  k_with "p3" => (refine offAt (by fail "a9") 3 ?_; exact rfl)
  k_with "p4" => (refine offAt (by fail "a9") 4 ?_; exact rfl)
  k_with "p5" => (refine offAt (by fail "a9") 5 ?_; exact rfl)
  k_with "p6" => (refine offAt (by fail "a9") 6 ?_; exact rfl)
  k_with "p7" => (refine offAt (by fail "a9") 7 ?_; exact rfl)
  k_with "p8" => (refine offAt (by fail "a9") 8 ?_; exact rfl)
  k_with "p9" => (refine offAt (by fail "a9") 9 ?_; exact rfl)
  k_with "p10" => (refine offAt (by fail "a9") 10 ?_; exact rfl)
  k_with "p11" => (refine offAt (by fail "a9") 11 ?_; exact rfl)
  k_with "p12" => (refine offAt (by fail "a9") 12 ?_; exact rfl)
  k_with "p13" => (refine offAt (by fail "a9") 13 ?_; exact rfl)
  k_with "p14" => (refine ltAt (by fail "a9") 0 ?_; exact rfl)
  k_with "p15" => (refine ltAt (by fail "a9") 1 ?_; exact rfl)
  k_with "p16" => (refine ltAt (by fail "a9") 2 ?_; exact rfl)
  k_with "p17" => (refine ltAt (by fail "a9") 3 ?_; exact rfl)
  k_with "p18" => (refine ltAt (by fail "a9") 4 ?_; exact rfl)
  k_with "p19" => (refine ltAt (by fail "a9") 5 ?_; exact rfl)
  k_with "p20" => (refine ltAt (by fail "a9") 6 ?_; exact rfl)
  k_with "p21" => (refine ltAt (by fail "a9") 7 ?_; exact rfl)
  k_with "p22" => (refine ltAt (by fail "a9") 8 ?_; exact rfl)
  k_with "p23" => (refine ltAt (by fail "a9") 9 ?_; exact rfl)
  k_with "p24" => (refine ltAt (by fail "a9") 10 ?_; exact rfl)
  k_with "p25" => (refine ltAt (by fail "a9") 11 ?_; exact rfl)
  k_with "p26" => (refine ltAt (by fail "a9") 12 ?_; exact rfl)
  k_with "p27" => (refine ltAt (by fail "a9") 13 ?_; exact rfl)
  k_with "r9" => (fail "w1")
  k_with "w1" => (first | fail "a9" | exact Nat.le_of_lt (by fail "a9"))
  k_with "offs9" => (first | fail "p0" | fail "p1" | fail "p2" | fail "p3" | fail "p4" | fail "p5" | fail "p6" | fail "p7" | fail "p8" | fail "p9" | fail "p10" | fail "p11" | fail "p12" | fail "p13" | fail "p14" | fail "p15" | fail "p16" | fail "p17" | fail "p18" | fail "p19" | fail "p20" | fail "p21" | fail "p22" | fail "p23" | fail "p24" | fail "p25" | fail "p26" | fail "p27")
  k_with "mem9" => (fail "w2")
  k_with "w2" => (first | exact List.Mem.head _ | exact List.Mem.tail _ (List.Mem.head _) | (refine memAt 0 ?_; exact rfl) | (refine memAt 1 ?_; exact rfl) | (refine memAt 2 ?_; exact rfl) | (refine memAt 3 ?_; exact rfl) | (refine memAt 4 ?_; exact rfl) | (refine memAt 5 ?_; exact rfl) | (refine memAt 6 ?_; exact rfl) | (refine memAt 7 ?_; exact rfl) | (refine memAt 8 ?_; exact rfl) | (refine memAt 9 ?_; exact rfl) | (refine memAt 10 ?_; exact rfl) | (refine memAt 11 ?_; exact rfl) | (refine memAt 12 ?_; exact rfl) | (refine memAt 13 ?_; exact rfl) | (refine memAt 14 ?_; exact rfl) | (refine memAt 15 ?_; exact rfl) | (refine memAt 16 ?_; exact rfl) | (refine memAt 17 ?_; exact rfl))
  k_with "lts9" => (fail "w3")
  k_with "w3" => (first | (refine ltB (by fail "a9") 0 ?_; exact rfl) | (refine ltB (by fail "a9") 1 ?_; exact rfl) | (refine ltB (by fail "a9") 2 ?_; exact rfl) | (refine ltB (by fail "a9") 3 ?_; exact rfl) | (refine ltB (by fail "a9") 4 ?_; exact rfl) | (refine ltB (by fail "a9") 5 ?_; exact rfl) | (refine ltB (by fail "a9") 6 ?_; exact rfl) | (refine ltB (by fail "a9") 7 ?_; exact rfl) | (refine ltB (by fail "a9") 8 ?_; exact rfl) | (refine ltB (by fail "a9") 9 ?_; exact rfl) | (refine ltB (by fail "a9") 10 ?_; exact rfl) | (refine ltB (by fail "a9") 11 ?_; exact rfl) | (refine ltB (by fail "a9") 12 ?_; exact rfl) | (refine ltB (by fail "a9") 13 ?_; exact rfl))
  k_with "rooms9" => (fail "w4")
  k_with "w4" => (first | (refine rl2 (by fail "r9") ?_; exact rfl) | (refine rl1 (by fail "r9") ?_; exact rfl) | (refine rl3 (by fail "r9") ?_; exact rfl) | (refine rl0 (by fail "r9") ?_; exact rfl) | (refine rl4 (by fail "r9") ?_; exact rfl) | (refine rm2 (by fail "r9") ?_; exact rfl) | (refine rm1 (by fail "r9") ?_; exact rfl) | (refine rm3 (by fail "r9") ?_; exact rfl) | (refine rm0 (by fail "r9") ?_; exact rfl) | (refine rm4 (by fail "r9") ?_; exact rfl))
  k_with "k_ne" => (fail "w5")
  k_with "w5" => (refine neN ?_; (try dsimp only); first | fail "a9" | (refine Ne.symm ?_; fail "a9") | exact Nat.ne_of_lt (by fail "a9") | exact Nat.ne_of_gt (by fail "a9") | k_extra "offs9" | (refine Ne.symm ?_; first | k_extra "offs9") | ((repeat (with_reducible rename _ ∧ _ => hA9; obtain ⟨_, _⟩ := hA9)); (first | fail "a9" | (refine Ne.symm ?_; fail "a9") | exact Nat.ne_of_lt (by fail "a9") | exact Nat.ne_of_gt (by fail "a9"))) | ((try simp only [LCg.Off1, and_true] at *); omega))
  k_with "k_mem" => (fail "w6")
  k_with "w6" => (first | fail "a9" | k_extra "mem9")
  k_with "k_memK" => (first | k_extra "mem9")
  k_with "is_list" => (fail "w7")
  k_with "w7" => (exact News.isList (by fail "a9") (by k_mem))
  k_with "ktr_room" => (fail "w8")
  k_with "w8" => ((try dsimp only [depth_under_make, depth_under_kw, depth_in1, depth_deeper, depth_caller]); (try dsimp only [ktrTop]); first | decide | k_extra "rooms9")
  k_with "units_room" => (fail "w9")
  k_with "w9" => ((try dsimp only [units_in1, units_deeper, Around.mark_units, units_caller]); (try dsimp only [ktrTop]); first | decide | k_extra "rooms9")
  k_with "l_idx" => ((k_extra "c9"); omega)
  k_with "l_fit" => ((k_extra "c9"); omega)
  k_with "ktr_units" => (fail "w10")
  k_with "w10" => ((try dsimp only [units_in1, units_deeper, Around.mark_units, units_caller]); (try dsimp only [ktrTop]); first | decide | k_extra "rooms9")
  k_with "execs cons" => (fail "w11")
  k_with "w11" => (k_here; first | k_gentoks | ((try dsimp only); (try k_gentoks); (try (with_reducible refine letA ?_; intro A9)); (try ((with_reducible rename Fr _ _ _ _ => F9); refine letF F9 ?_; clear F9; intro m9 F9)); (first | (with_reducible refine execHidB fun q9 hq9 => ?_) | (refine hideQ fun q9 hq9 => ?_; with_reducible refine execHidB fun q9 hq9 => ?_))))
  k_with "Hid" => (fail "w12")
  k_with "w12" => (first | ((with_reducible refine unhidNextT (by fail "a9") ?_); intro tk9; (try dsimp only)) | ((with_reducible refine unhidNext (by fail "a9") ?_); (try dsimp only)) | ((with_reducible refine unhidRet (by fail "a9") ?_); (try dsimp only)) | ((with_reducible refine unhid (by fail "a9") ?_); (try dsimp only [Behind])))
  k_with "spliced" => (fail "w13")
  k_with "w13" => (k_here; (with_reducible show wpAny _ _ (spliced (backTo _ (starEach (_ :: _ :: _ :: _) _))) _ _ _); k_dflt (refine' args_cons ?_ ?_; rotate_left; rfl))
  k_with "spliced" => (fail "w14")
  k_with "w14" => (k_here; k_dflt ((refine' argsF ?_ ?_ ?_ ?_); (rotate_left 4); k_asm; rfl; rfl); (try dsimp only [List.nil_append, List.cons_append]))
  k_with "eval Call" => (fail "w15")
  k_with "w15" => (k_here; (with_reducible show wpAny _ _ (eval (PySem.Expr.Call (PySem.Expr.Name _ _) (_ :: _) [] _) _) _ _ _); first | (k_dflt ((refine' callF ?_ ?_ ?_ ?_ ?_ ?_ ?_ ?_ ?_ ?_ ?_); (rotate_left 10); k_asm; k_asm; k_asm; k_is; k_is; rfl; rfl; rfl; rotate_left; decide; rfl)) | k_compRoot | k_dflt (refine' Call_ ?_))
  k_with "eval Name" => (fail "w16")
  k_with "w16" => (k_here; (with_reducible show wpAny _ _ (eval (PySem.Expr.Name _ _) (envOf _ _ _ _ _)) _ _ _); first | k_dflt ((refine' nameX_K ?_ ?_ ?_ ?_ ?_ ?_ ?_ ?_); (rotate_left 8); k_asm; k_asm; k_asm; k_is; rotate_left; rfl; rfl; decide) | k_dflt ((refine' nameX_L ?_ ?_ ?_ ?_ ?_ ?_); (rotate_left 3); k_asm; rfl; rotate_left; rfl; rfl; decide))
  k_with "callWith ref" => (fail "w17")
  k_with "w17" => (k_here; (with_reducible show wpAny _ _ (callWith _ _ _ (backTo _ (starEach [] _)) []) _ _ _); k_dflt (refine callF0 (by fail "a9") (by fail "a9") (by k_is) ?_))
  k_with "ktr_enter" => (fail "w18")
  k_with "w18" => first | (refine enterK (by assumption) (by assumption) (by k_is) (by k_is) (by ktr_room) (by exact BindsTo.of_eq rfl) (by exact locs rfl) ?_ (by exact rfl) (by exact rfl) (by exact rfl) (by decide); k_whole; intro g' L' h' F' N' B' X' T' lN' gN' tk9'; (try k_lt lN'); (try dsimp only); (try k_fold)) | (refine enterC (by assumption) (by assumption) (by k_is) (by k_is) (by ktr_room) (by exact BindsTo.of_eq rfl) (by exact rfl) (by decide +kernel) ?_ (by exact rfl) (by exact rfl) (by exact rfl); k_whole; intro g' L' h' tk' cells' F' N' Y' B' X' T' lN' gN'; (try k_lt lN'); k_cells Y'; (try simp only [List.cons_append, List.nil_append] at N'); (try dsimp only); (try k_fold))
  trivial
/-- the number of a row of low bits, as the text reckons it -/
def numR (ns : List Int) : Int := (List.foldl (fun l' k' => if ns.getD k'.toNat 0 = 1 then l' ++ [2 ^ k'.toNat] else l') [] (rangeKs 0 ((ns.length : Int) - 0).toNat)).sum
theorem number_spec {prog p : Program} {w : World} {loose : List Str} {mean : ExcName → Option Value} {mg mb : Str → Option Value} {dp un : Nat} {gd : Option (List Code)} {cn : Str} {cs : Scope} {a : Addr} {ccd : Value} {outer : List Env} {A₀ : Around} {base h₀ : Heap} {L : Addr} {m : Str → Option Value} {s : Shared} {Q E : Value → Shared → Prop}
    {news : List (Addr × Obj)} {cl : List (Str × Addr)}
    {l : Addr} {vs : List Value} {ns : List Int} {nl : Nat}
    (S : Site w p loose mean mg mb cs outer A₀ base h₀ L m news s.heap)
    (hl : (l, PySem.W.listOf vs.toArray nl) ∈ news) (hi : IntsAre vs ns) (hs : ns.length ≤ 400)
    (hdp : dp + 4 < recursionLimit) (hun : un + 40 < cLine)
    (h : ∀ (t : Tok) (h' : Heap) (tk' : Nat), 
      Fr h₀ L h' m → News h₀ L h' news → Q (.int (numR ns) t) { s with heap := h', toks := tk' }) :
    wpAny (model prog w) (ktrTop dp un gd cn cs L a ccd cl outer) (call (.ref 286) [.ref l]) Q E s := by
  have hsub : ∀ q ∈ [(l, PySem.W.listOf vs.toArray nl)], q ∈ news := fun q h => by
    rcases List.mem_cons.mp h with rfl | h
    · exact hl
    · nomatch h
  k_dflt ktr_enter
  k_steps
  exact leaveE_ (by assumption) (by assumption) ⟨news, cond_read S.N hsub (fun q h => by
    rcases List.mem_cons.mp h with rfl | h
    · exact List.mem_cons_of_mem _ (List.mem_cons_of_mem _ List.mem_cons_self)
    · nomatch h), fun F9 N9 => h _ _ _ F9 N9⟩
end Mine
end

section
namespace Mine
theorem wordsC40 : True := by
  k_with_none
  w_top off
  k_with "a9" => (with_reducible assumption)
  k_with "c9" => (repeat (with_reducible rename _ ∧ _ => hA9; clear hA9)); (repeat (with_reducible rename _ ≠ _ => hA9; clear hA9))
  k_with "u9" => ((with_reducible rename News _ _ _ _ => N9); dsimp +zetaDelta only at N9)
  k_with "p0" => (refine offAt (by fail "a9") 0 ?_; exact rfl)
  k_with "p1" => (refine offAt (by fail "a9") 1 ?_; exact rfl)
  k_with "p2" => (refine offAt (by fail "a9") 2 ?_; exact rfl)
  k_with "p3" => (refine offAt (by fail "a9") 3 ?_; exact rfl)
  k_with "p4" => (refine offAt (by fail "a9") 4 ?_; exact rfl)
  k_with "p5" => (refine offAt (by fail "a9") 5 ?_; exact rfl)
  k_with "p6" => (refine offAt (by fail "a9") 6 ?_; exact rfl)
  k_with "p7" => (refine offAt (by fail "a9") 7 ?_; exact rfl)
  k_with "p8" => (refine offAt (by fail "a9") 8 ?_; exact rfl)
  k_with "p9" => (refine offAt (by fail "a9") 9 ?_; exact rfl)
  k_with "p10" => (refine offAt (by fail "a9") 10 ?_; exact rfl)
  k_with "p11" => (refine offAt (by fail "a9") 11 ?_; exact rfl)
  k_with "p12" => (refine offAt (by fail "a9") 12 ?_; exact rfl)
  k_with "p13" => (refine offAt (by fail "a9") 13 ?_; exact rfl)
  k_with "p14" => (refine ltAt (by fail "a9") 0 ?_; exact rfl)
  k_with "p15" => (refine ltAt (by fail "a9") 1 ?_; exact rfl)
  k_with "p16" => (refine ltAt (by fail "a9") 2 ?_; exact rfl)
  k_with "p17" => (refine ltAt (by fail "a9") 3 ?_; exact rfl)
  k_with "p18" => (refine ltAt (by fail "a9") 4 ?_; exact rfl)
  k_with "p19" => (refine ltAt (by fail "a9") 5 ?_; exact rfl)
  k_with "p20" => (refine ltAt (by fail "a9") 6 ?_; exact rfl)
  k_with "p21" => (refine ltAt (by fail "a9") 7 ?_; exact rfl)
  k_with "p22" => (refine ltAt (by fail "a9") 8 ?_; exact rfl)
  k_with "p23" => (refine ltAt (by fail "a9") 9 ?_; exact rfl)
  k_with "p24" => (refine ltAt (by fail "a9") 10 ?_; exact rfl)
  k_with "p25" => (refine ltAt (by fail "a9") 11 ?_; exact rfl)
  k_with "p26" => (refine ltAt (by fail "a9") 12 ?_; exact rfl)
  k_with "p27" => (refine ltAt (by fail "a9") 13 ?_; exact rfl)
  k_with "r9" => (fail "w1")
  k_with "w1" => (first | fail "a9" | exact Nat.le_of_lt (by fail "a9"))
  k_with "offs9" => (first | fail "p0" | fail "p1" | fail "p2" | fail "p3" | fail "p4" | fail "p5" | fail "p6" | fail "p7" | fail "p8" | fail "p9" | fail "p10" | fail "p11" | fail "p12" | fail "p13" | fail "p14" | fail "p15" | fail "p16" | fail "p17" | fail "p18" | fail "p19" | fail "p20" | fail "p21" | fail "p22" | fail "p23" | fail "p24" | fail "p25" | fail "p26" | fail "p27")
  k_with "mem9" => (fail "w2")
  k_with "w2" => (first | exact List.Mem.head _ | exact List.Mem.tail _ (List.Mem.head _) | (refine memAt 0 ?_; exact rfl) | (refine memAt 1 ?_; exact rfl) | (refine memAt 2 ?_; exact rfl) | (refine memAt 3 ?_; exact rfl) | (refine memAt 4 ?_; exact rfl) | (refine memAt 5 ?_; exact rfl) | (refine memAt 6 ?_; exact rfl) | (refine memAt 7 ?_; exact rfl) | (refine memAt 8 ?_; exact rfl) | (refine memAt 9 ?_; exact rfl) | (refine memAt 10 ?_; exact rfl) | (refine memAt 11 ?_; exact rfl) | (refine memAt 12 ?_; exact rfl) | (refine memAt 13 ?_; exact rfl) | (refine memAt 14 ?_; exact rfl) | (refine memAt 15 ?_; exact rfl) | (refine memAt 16 ?_; exact rfl) | (refine memAt 17 ?_; exact rfl))
  k_with "lts9" => (fail "w3")
  k_with "w3" => (first | (refine ltB (by fail "a9") 0 ?_; exact rfl) | (refine ltB (by fail "a9") 1 ?_; exact rfl) | (refine ltB (by fail "a9") 2 ?_; exact rfl) | (refine ltB (by fail "a9") 3 ?_; exact rfl) | (refine ltB (by fail "a9") 4 ?_; exact rfl) | (refine ltB (by fail "a9") 5 ?_; exact rfl) | (refine ltB (by fail "a9") 6 ?_; exact rfl) | (refine ltB (by fail "a9") 7 ?_; exact rfl) | (refine ltB (by fail "a9") 8 ?_; exact rfl) | (refine ltB (by fail "a9") 9 ?_; exact rfl) | (refine ltB (by fail "a9") 10 ?_; exact rfl) | (refine ltB (by fail "a9") 11 ?_; exact rfl) | (refine ltB (by fail "a9") 12 ?_; exact rfl) | (refine ltB (by fail "a9") 13 ?_; exact rfl))
  k_with "rooms9" => (fail "w4")
  k_with "w4" => (first | (refine rl2 (by fail "r9") ?_; exact rfl) | (refine rl1 (by fail "r9") ?_; exact rfl) | (refine rl3 (by fail "r9") ?_; exact rfl) | (refine rl0 (by fail "r9") ?_; exact rfl) | (refine rl4 (by fail "r9") ?_; exact rfl) | (refine rm2 (by fail "r9") ?_; exact rfl) | (refine rm1 (by fail "r9") ?_; exact rfl) | (refine rm3 (by fail "r9") ?_; exact rfl) | (refine rm0 (by fail "r9") ?_; exact rfl) | (refine rm4 (by fail "r9") ?_; exact rfl))
  k_with "k_ne" => (fail "w5")
  k_with "w5" => (refine neN ?_; (try dsimp only); first | fail "a9" | (refine Ne.symm ?_; fail "a9") | exact Nat.ne_of_lt (by fail "a9") | exact Nat.ne_of_gt (by fail "a9") | k_extra "offs9" | (refine Ne.symm ?_; first | k_extra "offs9") | ((try simp only [LCg.Off1, and_true] at *); omega))
  k_with "k_mem" => (fail "w6")
  k_with "w6" => (first | fail "a9" | k_extra "mem9")
  k_with "k_memK" => (first | k_extra "mem9")
  k_with "is_list" => (fail "w7")
  k_with "w7" => (exact News.isList (by fail "a9") (by k_mem))
  k_with "ktr_room" => (fail "w8")
  k_with "w8" => ((try dsimp only [depth_under_make, depth_under_kw, depth_in1, depth_deeper, depth_caller]); (try dsimp only [ktrTop]); first | decide | k_extra "rooms9")
  k_with "units_room" => (fail "w9")
  k_with "w9" => ((try dsimp only [units_in1, units_deeper, Around.mark_units, units_caller]); (try dsimp only [ktrTop]); first | decide | k_extra "rooms9")
  k_with "l_idx" => ((k_extra "c9"); omega)
  k_with "l_fit" => ((k_extra "c9"); omega)
  k_with "ktr_units" => (fail "w10")
  k_with "w10" => ((try dsimp only [units_in1, units_deeper, Around.mark_units, units_caller]); (try dsimp only [ktrTop]); first | decide | k_extra "rooms9")
  k_with "execs cons" => (fail "w11")
  k_with "w11" => (k_here; first | k_gentoks | ((try dsimp only); (try k_gentoks); (try (with_reducible refine letA ?_; intro A9)); (try ((with_reducible rename Fr _ _ _ _ => F9); refine letF F9 ?_; clear F9; intro m9 F9)); (try ((with_reducible rename News _ _ _ _ => N9); refine letN N9 ?_; clear N9; intro n9 N9)); (first | (with_reducible refine execHidB fun q9 hq9 => ?_) | (refine hideQ fun q9 hq9 => ?_; with_reducible refine execHidB fun q9 hq9 => ?_))))
  k_with "Hid" => (fail "w12")
  k_with "w12" => (first | ((with_reducible refine unhidNextT (by fail "a9") ?_); intro tk9; (try dsimp only)) | ((with_reducible refine unhidNext (by fail "a9") ?_); (try dsimp only)) | ((with_reducible refine unhidRet (by fail "a9") ?_); (try dsimp only)) | ((with_reducible refine unhid (by fail "a9") ?_); (try dsimp only [Behind])))
  k_with "spliced" => (fail "w13")
  k_with "w13" => (k_here; (with_reducible show wpAny _ _ (spliced (backTo _ (starEach (_ :: _ :: _ :: _) _))) _ _ _); k_dflt (refine' args_cons ?_ ?_; rotate_left; rfl))
  k_with "spliced" => (fail "w14")
  k_with "w14" => (k_here; k_dflt ((refine' argsF ?_ ?_ ?_ ?_); (rotate_left 4); k_asm; rfl; rfl); (try dsimp only [List.nil_append, List.cons_append]))
  k_with "eval Call" => (fail "w15")
  k_with "w15" => (k_here; (with_reducible show wpAny _ _ (eval (PySem.Expr.Call (PySem.Expr.Name _ _) (_ :: _) [] _) _) _ _ _); first | (k_dflt ((refine' callF ?_ ?_ ?_ ?_ ?_ ?_ ?_ ?_ ?_ ?_ ?_); (rotate_left 10); k_asm; k_asm; k_asm; k_is; k_is; rfl; rfl; rfl; rotate_left; decide; rfl)) | k_compRoot | k_dflt (refine' Call_ ?_))
  k_with "eval Name" => (fail "w16")
  k_with "w16" => (k_here; (with_reducible show wpAny _ _ (eval (PySem.Expr.Name _ _) (envOf _ _ _ _ _)) _ _ _); first | k_dflt ((refine' nameX_K ?_ ?_ ?_ ?_ ?_ ?_ ?_ ?_); (rotate_left 8); k_asm; k_asm; k_asm; k_is; rotate_left; rfl; rfl; decide) | k_dflt ((refine' nameX_L ?_ ?_ ?_ ?_ ?_ ?_); (rotate_left 3); k_asm; rfl; rotate_left; rfl; rfl; decide))
  k_with "callWith ref" => (fail "w17")
  k_with "w17" => (k_here; (with_reducible show wpAny _ _ (callWith _ _ _ (backTo _ (starEach [] _)) []) _ _ _); k_dflt (refine callF0 (by fail "a9") (by fail "a9") (by k_is) ?_))
  k_with "last getItem" => k_extra "u9"
  k_with "last setItem" => k_extra "u9"
  k_with "last setAttr" => k_extra "u9"
  k_with "last getAttr" => k_extra "u9"
  k_with "last subscriptTail" => k_extra "u9"
  k_with "last getMethod" => k_extra "u9"
  k_with "last call" => k_extra "u9"
  k_with "last pyIter" => k_extra "u9"
  k_with "last eval" => k_extra "u9"
  k_with "last exec" => k_extra "u9"
  k_with "last inplaceOp" => k_extra "u9"
  k_with "last binaryOp" => k_extra "u9"
  k_with "last InvEndN" => k_extra "u9"
  k_with "last GEnd" => k_extra "u9"
  k_with "last KEnd" => k_extra "u9"
  k_with "last LeaveT" => k_extra "u9"
  k_with "last noteFrame" => k_extra "u9"
  k_with "last leaving" => k_extra "u9"
  k_with "k_lt" => skip
  k_with "ktr_enter" => (fail "w18")
  k_with "w18" => first | (refine enterK (by assumption) (by assumption) (by k_is) (by k_is) (by ktr_room) (by exact BindsTo.of_eq rfl) (by exact locs rfl) ?_ (by exact rfl) (by exact rfl) (by exact rfl) (by decide); k_whole; intro g' L' h' F' N' B' X' T' lN' gN' tk9'; (try k_lt lN'); (try dsimp only); (try k_fold)) | (refine enterC (by assumption) (by assumption) (by k_is) (by k_is) (by ktr_room) (by exact BindsTo.of_eq rfl) (by exact rfl) (by decide +kernel) ?_ (by exact rfl) (by exact rfl) (by exact rfl); k_whole; intro g' L' h' tk' cells' F' N' Y' B' X' T' lN' gN'; (try k_lt lN'); k_cells Y'; (try simp only [List.cons_append, List.nil_append] at N'); (try dsimp only); (try k_fold))
  k_with "call ref" => (fail "w19")
  k_with "w19" => (k_here; k_dflt (refine number_spec (by exact ⟨by k_asm, by k_asm, by k_asm, by k_asm, by k_asm, by first | exact rfl | assumption⟩) (by k_mem) (by first | k_asm | l_ints) (by first | omega | l_fact) (by ktr_room) (by ktr_units) ?_; intro t9 h9 tk9 F9 N9; (try dsimp only); (try k_fold)))
  k_with "storeName" => (fail "w20")
  k_with "w20" => (k_here; k_dflt (refine storeX_C (by k_asm) (by k_asm) (by rfl) (by k_updF) (by k_asm) ?_ (by rfl) (by rfl); k_whole; intro h' o' F' N' d'; (try dsimp only at N'); (try k_sweep)))
  trivial
/-- the row filled up with noughts to a whole octet -/
abbrev wholeR (ns : List Int) : List Int := ns ++ (List.replicate ((-(ns.length : Int)).fmod 8).toNat [(0 : Int)]).flatten
theorem flat_len (k : Nat) : (List.replicate k [(0 : Int)]).flatten.length = k := by
  induction k with
  | zero => rfl
  | succ k ih => rw [List.replicate_succ, List.flatten_cons, List.length_append, ih]; simp; omega
theorem wholeR_len (ns : List Int) : (wholeR ns).length = 8 * ((ns.length + 7) / 8) := by
  show (ns ++ _).length = _
  rw [List.length_append, flat_len, Int.fmod_eq_emod_of_nonneg _ (by decide)]
  omega
/-- the number of the eight places from k on -/
abbrev octAt (ns : List Int) (k : Int) : Int := numR (List.take (min (k + 8).toNat (wholeR ns).length - k.toNat) (List.drop k.toNat (wholeR ns)))
/-- the octets of a row of low bits, as the text reckons them -/
def octR (ns : List Int) : List Int := (stepKs 0 8 (((wholeR ns).length + 7) / 8)).map (octAt ns)
section
variable {prog : Program} {w : World} {A : Around} {h₀ : Heap} {L : Addr} {m : Str → Option Value} {env : Env} {elt : PySem.Expr} {x : Str} {scope : Scope} {cl : List (Str × Addr)} {s : Shared} {S : List (Addr × Obj) → Prop} {Fin : List Value → List (Addr × Obj) → Prop} {news : List (Addr × Obj)}
theorem kcf_octs {ws : List Value} {ns : List Int} (_hi : IntsAre ws (wholeR ns))
    (turn : ∀ k t I oI C oC D m₂ ys h tk (E' : Value → Shared → Prop), 0 ≤ k → k < ((wholeR ns).length : Int) → LCg.NsObj oC m₂ → m₂ x = some (.int k t) → Fr h₀ L h m → News h₀ L h ((I, oI) :: (C, oC) :: (D, LCg.lst ys) :: news) → LCg.Off3 I C D news → ((@Ne Nat I C) ∧ (@Ne Nat I D) ∧ (@Ne Nat C D)) → KPfMark →
      wpAny (model prog w) A (eval elt (compEnvC scope cl C env)) (LCg.CompEnd h₀ L m { s with heap := h, toks := tk } I oI C oC D (LCg.lst ys) S (fun y news' => KCfEl news (octAt ns k) y news')) E' { s with heap := h, toks := tk })
    (fin : KPfDone (∀ ys, IntsAre ys (octR ns) → Fin ys news)) : LCg.CompRest prog w A h₀ L m env elt x scope cl s S (fun i v => i < ((wholeR ns).length + 7) / 8 ∧ ∃ t, v = .int (0 + (i : Int) * 8) t) Fin (((wholeR ns).length + 7) / 8) 0 [] news :=
  kcf_step8 (octAt ns) turn fin
end
theorem wordsC41 : True := by
  k_with "call builtin:len" => (fail "w21")
  k_with "w21" => (k_here; (with_reducible show wpAny _ _ (call (Value.builtin "len") [Value.ref _]) _ _ _); k_dflt (refine kst_len (k := (wholeR _).length) (by k_asm) (by k_mem) (by exact IntsAre.length (by assumption)) (by (rw [wholeR_len]; omega)) ?_; k_whole))
  k_with "eval ListComp" => (fail "w22")
  k_with "w22" => (k_here; k_dflt (refine ListComp_S (F₀ := by k_asm) (by with_unfolding_all rfl) (by decide) (by rfl) (by decide) (by rfl) ?_))
  k_with "CompSrcS" => (fail "w23")
  k_with "w23" => (k_here; k_dflt (refine ⟨_, _, _, _, _, _, _, _, _, rfl, rfl, (by k_asm), (by k_asm), (by assumption), (by exact small8 (by rw [wholeR_len]; omega)), range8 _, (by (rw [wholeR_len, sizeLine_eq]; omega)), ?_⟩); intro g'; (refine kcf_octs (by assumption) (fun k' t' I' oI' C' oC' D' m' ys' h' tk' E' hk' hk2' hC' hx' F' N' off' ne' hMark' => ?_) ?_); (all_goals (try (simp only [LCg.Off3, and_true] at off'))); kcf_last)
  k_with "KCfEl" => (fail "w24")
  k_with "w24" => (refine kcf_el (by rfl) (by with_unfolding_all rfl) (by with_unfolding_all rfl))
  trivial
theorem octets_spec {prog p : Program} {w : World} {loose : List Str} {mean : ExcName → Option Value} {mg mb : Str → Option Value} {dp un : Nat} {gd : Option (List Code)} {cn : Str} {cs : Scope} {a : Addr} {ccd : Value} {outer : List Env} {A₀ : Around} {base h₀ : Heap} {L : Addr} {m : Str → Option Value} {s : Shared} {Q E : Value → Shared → Prop}
    {news : List (Addr × Obj)} {cl : List (Str × Addr)}
    {l : Addr} {vs : List Value} {ns : List Int} {nl : Nat}
    (S : Site w p loose mean mg mb cs outer A₀ base h₀ L m news s.heap)
    (hl : (l, PySem.W.listOf vs.toArray nl) ∈ news) (hi : IntsAre vs ns) (hs : ns.length ≤ 300)
    (hdp : dp + 8 < recursionLimit) (hun : un + 80 < cLine)
    (h : ∀ (l' : Addr) (vs' : List Value) (nl' : Nat) (h' : Heap) (tk' : Nat), IntsAre vs' (octR ns) → LCg.Off1 l' news →
      Fr h₀ L h' m → News h₀ L h' ((l', PySem.W.listOf vs'.toArray nl') :: news) → Q (.ref l') { s with heap := h', toks := tk' }) :
    wpAny (model prog w) (ktrTop dp un gd cn cs L a ccd cl outer) (call (.ref 291) [.ref l]) Q E s := by
  have hsub : ∀ q ∈ [(l, PySem.W.listOf vs.toArray nl)], q ∈ news := fun q h => by
    rcases List.mem_cons.mp h with rfl | h
    · exact hl
    · nomatch h
  k_dflt ktr_enter
  k_steps
  with_reducible rename (∀ q ∈ news, _) => g9
  with_reducible rename IntsAre _ (octR ns) => i9
  with_reducible rename News _ _ _ _ => n9
  exact leaveE_ (by assumption) n9 ⟨(_, LCg.lst _) :: news, fun q hq => by
    rcases List.mem_cons.mp hq with rfl | hq
    · exact .inl List.mem_cons_self
    · exact (cond_read S.N hsub (fun q h => by
        rcases List.mem_cons.mp h with rfl | h
        · k_mem
        · nomatch h)) q hq, fun F9 N9 => h _ _ _ _ _ i9 (off_new n9 List.mem_cons_self g9 (fun x hx => by
    rcases List.mem_cons.mp hx with rfl | hx
    · k_ne
    · nomatch hx)) F9 N9⟩
end Mine
end

section
namespace Mine
local macro_rules | `(tactic| walk_at "CompSrcS") => `(tactic| (k_here; k_dflt (refine' ⟨_, _, _, _, _, _, _, _, _, rfl, rfl, ?F, ?N, ?R, ?sm, range8 _, ?sz, ?_⟩; (case F => k_asm); (case N => k_asm); (case R => assumption); (case sm => exact small8 (by first | ((repeat (with_reducible rename _ ∧ _ => hA9; clear hA9)); (repeat (with_reducible rename _ ≠ _ => hA9; clear hA9)); omega) | omega)); (case sz => (rw [sizeLine_eq]; omega))); intro g'; (refine' kcf_step8 _ (fun k' t' I' oI' C' oC' D' m' ys' h' tk' E' hk' hk2' hC' hx' F' N' off' ne' hMark' => ?_) ?_); (all_goals (try (simp only [LCg.Off3, and_true] at off'))); kcf_last))
theorem wordsW10 : True := by
  k_with_none
  w_top off
  k_with "a9" => (with_reducible assumption)
  k_with "c9" => (repeat (with_reducible rename _ ∧ _ => hA9; clear hA9)); (repeat (with_reducible rename _ ≠ _ => hA9; clear hA9))
  k_with "u9" => ((with_reducible rename News _ _ _ _ => N9); dsimp +zetaDelta only at N9)
  k_with "p0" => (refine offAt (by fail "a9") 0 ?_; exact rfl)
  k_with "p1" => (refine offAt (by fail "a9") 1 ?_; exact rfl)
  k_with "p2" => (refine offAt (by fail "a9") 2 ?_; exact rfl)
  k_with "p3" => (refine offAt (by fail "a9") 3 ?_; exact rfl)
  k_with "p4" => (refine offAt (by fail "a9") 4 ?_; exact rfl)
  k_with "p5" => (refine offAt (by fail "a9") 5 ?_; exact rfl)
  k_with "p6" => (refine offAt (by fail "a9") 6 ?_; exact rfl)
  k_with "p7" => (refine offAt (by fail "a9") 7 ?_; exact rfl)
  k_with "p8" => (refine offAt (by fail "a9") 8 ?_; exact rfl)
  k_with "p9" => (refine offAt (by fail "a9") 9 ?_; exact rfl)
  k_with "p10" => (refine offAt (by fail "a9") 10 ?_; exact rfl)
  k_with "p11" => (refine offAt (by fail "a9") 11 ?_; exact rfl)
  k_with "p12" => (refine offAt (by fail "a9") 12 ?_; exact rfl)
  k_with "p13" => (refine offAt (by fail "a9") 13 ?_; exact rfl)
  k_with "p14" => (refine ltAt (by fail "a9") 0 ?_; exact rfl)
  k_with "p15" => (refine ltAt (by fail "a9") 1 ?_; exact rfl)
  k_with "p16" => (refine ltAt (by fail "a9") 2 ?_; exact rfl)
  k_with "p17" => (refine ltAt (by fail "a9") 3 ?_; exact rfl)
  k_with "p18" => (refine ltAt (by fail "a9") 4 ?_; exact rfl)
  k_with "p19" => (refine ltAt (by fail "a9") 5 ?_; exact rfl)
  k_with "p20" => (refine ltAt (by fail "a9") 6 ?_; exact rfl)
  k_with "p21" => (refine ltAt (by fail "a9") 7 ?_; exact rfl)
  k_with "p22" => (refine ltAt (by fail "a9") 8 ?_; exact rfl)
  k_with "p23" => (refine ltAt (by fail "a9") 9 ?_; exact rfl)
  k_with "p24" => (refine ltAt (by fail "a9") 10 ?_; exact rfl)
  k_with "p25" => (refine ltAt (by fail "a9") 11 ?_; exact rfl)
  k_with "p26" => (refine ltAt (by fail "a9") 12 ?_; exact rfl)
  k_with "p27" => (refine ltAt (by fail "a9") 13 ?_; exact rfl)
  k_with "r9" => (fail "w1")
  k_with "w1" => (first | fail "a9" | exact Nat.le_of_lt (by fail "a9"))
  k_with "offs9" => (first | fail "p0" | fail "p1" | fail "p2" | fail "p3" | fail "p4" | fail "p5" | fail "p6" | fail "p7" | fail "p8" | fail "p9" | fail "p10" | fail "p11" | fail "p12" | fail "p13" | fail "p14" | fail "p15" | fail "p16" | fail "p17" | fail "p18" | fail "p19" | fail "p20" | fail "p21" | fail "p22" | fail "p23" | fail "p24" | fail "p25" | fail "p26" | fail "p27")
  k_with "mem9" => (fail "w2")
  k_with "w2" => (first | exact List.Mem.head _ | exact List.Mem.tail _ (List.Mem.head _) | (refine memAt 0 ?_; exact rfl) | (refine memAt 1 ?_; exact rfl) | (refine memAt 2 ?_; exact rfl) | (refine memAt 3 ?_; exact rfl) | (refine memAt 4 ?_; exact rfl) | (refine memAt 5 ?_; exact rfl) | (refine memAt 6 ?_; exact rfl) | (refine memAt 7 ?_; exact rfl) | (refine memAt 8 ?_; exact rfl) | (refine memAt 9 ?_; exact rfl) | (refine memAt 10 ?_; exact rfl) | (refine memAt 11 ?_; exact rfl) | (refine memAt 12 ?_; exact rfl) | (refine memAt 13 ?_; exact rfl) | (refine memAt 14 ?_; exact rfl) | (refine memAt 15 ?_; exact rfl) | (refine memAt 16 ?_; exact rfl) | (refine memAt 17 ?_; exact rfl))
  k_with "lts9" => (fail "w3")
  k_with "w3" => (first | (refine ltB (by fail "a9") 0 ?_; exact rfl) | (refine ltB (by fail "a9") 1 ?_; exact rfl) | (refine ltB (by fail "a9") 2 ?_; exact rfl) | (refine ltB (by fail "a9") 3 ?_; exact rfl) | (refine ltB (by fail "a9") 4 ?_; exact rfl) | (refine ltB (by fail "a9") 5 ?_; exact rfl) | (refine ltB (by fail "a9") 6 ?_; exact rfl) | (refine ltB (by fail "a9") 7 ?_; exact rfl) | (refine ltB (by fail "a9") 8 ?_; exact rfl) | (refine ltB (by fail "a9") 9 ?_; exact rfl) | (refine ltB (by fail "a9") 10 ?_; exact rfl) | (refine ltB (by fail "a9") 11 ?_; exact rfl) | (refine ltB (by fail "a9") 12 ?_; exact rfl) | (refine ltB (by fail "a9") 13 ?_; exact rfl))
  k_with "rooms9" => (fail "w4")
  k_with "w4" => (first | (refine rl2 (by fail "r9") ?_; exact rfl) | (refine rl1 (by fail "r9") ?_; exact rfl) | (refine rl3 (by fail "r9") ?_; exact rfl) | (refine rl0 (by fail "r9") ?_; exact rfl) | (refine rl4 (by fail "r9") ?_; exact rfl) | (refine rm2 (by fail "r9") ?_; exact rfl) | (refine rm1 (by fail "r9") ?_; exact rfl) | (refine rm3 (by fail "r9") ?_; exact rfl) | (refine rm0 (by fail "r9") ?_; exact rfl) | (refine rm4 (by fail "r9") ?_; exact rfl))
  k_with "k_ne" => (fail "w5")
  k_with "w5" => (refine neN ?_; (try dsimp only); first | fail "a9" | (refine Ne.symm ?_; fail "a9") | exact Nat.ne_of_lt (by fail "a9") | exact Nat.ne_of_gt (by fail "a9") | k_extra "offs9" | (refine Ne.symm ?_; first | k_extra "offs9") | ((try simp only [LCg.Off1, and_true] at *); omega))
  k_with "k_mem" => (fail "w6")
  k_with "w6" => (first | fail "a9" | k_extra "mem9")
  k_with "k_memK" => (first | k_extra "mem9")
  k_with "is_list" => (fail "w7")
  k_with "w7" => (exact News.isList (by fail "a9") (by k_mem))
  k_with "ktr_room" => (fail "w8")
  k_with "w8" => ((try dsimp only [depth_under_make, depth_under_kw, depth_in1, depth_deeper, depth_caller]); (try dsimp only [ktrTop]); first | decide | k_extra "rooms9")
  k_with "units_room" => (fail "w9")
  k_with "w9" => ((try dsimp only [units_in1, units_deeper, Around.mark_units, units_caller]); (try dsimp only [ktrTop]); first | decide | k_extra "rooms9")
  k_with "l_idx" => ((k_extra "c9"); omega)
  k_with "l_fit" => ((k_extra "c9"); omega)
  k_with "ktr_units" => (fail "w10")
  k_with "w10" => ((try dsimp only [units_in1, units_deeper, Around.mark_units, units_caller]); (try dsimp only [ktrTop]); first | decide | k_extra "rooms9")
  k_with "execs cons" => (fail "w11")
  k_with "w11" => (k_here; first | k_gentoks | ((try dsimp only); (try k_gentoks); (try (with_reducible refine letA ?_; intro A9)); (try ((with_reducible rename Fr _ _ _ _ => F9); refine letF F9 ?_; clear F9; intro m9 F9)); (try ((with_reducible rename News _ _ _ _ => N9); refine letN N9 ?_; clear N9; intro n9 N9)); (first | (with_reducible refine execHidB fun q9 hq9 => ?_) | (refine hideQ fun q9 hq9 => ?_; with_reducible refine execHidB fun q9 hq9 => ?_))))
  k_with "Hid" => (fail "w12")
  k_with "w12" => (first | ((with_reducible refine unhidNextT (by fail "a9") ?_); intro tk9; (try dsimp only)) | ((with_reducible refine unhidNext (by fail "a9") ?_); (try dsimp only)) | ((with_reducible refine unhidRet (by fail "a9") ?_); (try dsimp only)) | ((with_reducible refine unhid (by fail "a9") ?_); (try dsimp only [Behind])))
  k_with "spliced" => (fail "w13")
  k_with "w13" => (k_here; (with_reducible show wpAny _ _ (spliced (backTo _ (starEach (_ :: _ :: _ :: _) _))) _ _ _); k_dflt (refine' args_cons ?_ ?_; rotate_left; rfl))
  k_with "spliced" => (fail "w14")
  k_with "w14" => (k_here; k_dflt ((refine' argsF ?_ ?_ ?_ ?_); (rotate_left 4); k_asm; rfl; rfl); (try dsimp only [List.nil_append, List.cons_append]))
  k_with "eval Call" => (fail "w15")
  k_with "w15" => (k_here; (with_reducible show wpAny _ _ (eval (PySem.Expr.Call (PySem.Expr.Name _ _) (_ :: _) [] _) _) _ _ _); first | (k_dflt ((refine' callF ?_ ?_ ?_ ?_ ?_ ?_ ?_ ?_ ?_ ?_ ?_); (rotate_left 10); k_asm; k_asm; k_asm; k_is; k_is; rfl; rfl; rfl; rotate_left; decide; rfl)) | k_compRoot | k_dflt (refine' Call_ ?_))
  k_with "eval Name" => (fail "w16")
  k_with "w16" => (k_here; (with_reducible show wpAny _ _ (eval (PySem.Expr.Name _ _) (envOf _ _ _ _ _)) _ _ _); first | k_dflt ((refine' nameX_K ?_ ?_ ?_ ?_ ?_ ?_ ?_ ?_); (rotate_left 8); k_asm; k_asm; k_asm; k_is; rotate_left; rfl; rfl; decide) | k_dflt ((refine' nameX_L ?_ ?_ ?_ ?_ ?_ ?_); (rotate_left 3); k_asm; rfl; rotate_left; rfl; rfl; decide))
  k_with "callWith ref" => (fail "w17")
  k_with "w17" => (k_here; (with_reducible show wpAny _ _ (callWith _ _ _ (backTo _ (starEach [] _)) []) _ _ _); k_dflt (refine callF0 (by fail "a9") (by fail "a9") (by k_is) ?_))
  k_with "last getItem" => k_extra "u9"
  k_with "last setItem" => k_extra "u9"
  k_with "last setAttr" => k_extra "u9"
  k_with "last getAttr" => k_extra "u9"
  k_with "last subscriptTail" => k_extra "u9"
  k_with "last getMethod" => k_extra "u9"
  k_with "last call" => k_extra "u9"
  k_with "last pyIter" => k_extra "u9"
  k_with "last eval" => k_extra "u9"
  k_with "last exec" => k_extra "u9"
  k_with "last inplaceOp" => k_extra "u9"
  k_with "last binaryOp" => k_extra "u9"
  k_with "last InvEndN" => k_extra "u9"
  k_with "last GEnd" => k_extra "u9"
  k_with "last KEnd" => k_extra "u9"
  k_with "last LeaveT" => k_extra "u9"
  k_with "last noteFrame" => k_extra "u9"
  k_with "last leaving" => k_extra "u9"
  k_with "k_lt" => skip
  k_with "ktr_enter" => (fail "w18")
  k_with "w18" => first | (refine enterK (by assumption) (by assumption) (by k_is) (by k_is) (by ktr_room) (by exact BindsTo.of_eq rfl) (by exact locs rfl) ?_ (by exact rfl) (by exact rfl) (by exact rfl) (by decide); k_whole; intro g' L' h' F' N' B' X' T' lN' gN' tk9'; (try k_lt lN'); (try dsimp only); (try k_fold)) | (refine enterC (by assumption) (by assumption) (by k_is) (by k_is) (by ktr_room) (by exact BindsTo.of_eq rfl) (by exact rfl) (by decide +kernel) ?_ (by exact rfl) (by exact rfl) (by exact rfl); k_whole; intro g' L' h' tk' cells' F' N' Y' B' X' T' lN' gN'; (try k_lt lN'); k_cells Y'; (try simp only [List.cons_append, List.nil_append] at N'); (try dsimp only); (try k_fold))
  k_with "eval ListComp" => (fail "w19")
  k_with "w19" => (k_here; k_dflt (refine ListComp_S (F₀ := by k_asm) (by with_unfolding_all rfl) (by decide) (by rfl) (by decide) (by rfl) ?_))
  trivial
/-- the octets of a word -/
def wOct (W : Int) (C : Nat) : List Int := (stepKs 0 8 ((C + 7) / 8)).map fun k => Builtin.bitAnd (W.fdiv (2 ^ k.toNat)) 255
theorem wOct_in (W : Int) (C : Nat) : KBa.In (wOct W C) := fun n hn => by
  obtain ⟨k, _, rfl⟩ := List.mem_map.mp hn
  rw [bitAnd_m8]
  omega
theorem wOct_len (W : Int) (C : Nat) : (wOct W C).length = (C + 7) / 8 := by simp [wOct, stepKs]
theorem wordsW11 : True := by
  k_with "call type:bytes" => (fail "w20")
  k_with "w20" => (k_here; (with_reducible show wpAny _ _ (call (Value.type "bytes") [Value.ref _]) _ _ _); k_dflt (refine KBa.make_K (ns := wOct _ _) (by k_asm) (by k_asm) (by rfl) (by kba_isList) (by assumption) (by exact wOct_in _ _) (by (rw [wOct_len]; omega)) ?_); intro h' t' tk' F' N' kbaIn)
  k_with "KCfEl" => (fail "w21")
  k_with "w21" => (refine kcf_el (by rfl) (by with_unfolding_all rfl) (by with_unfolding_all rfl))
  trivial
theorem wocts_spec {prog p : Program} {w : World} {loose : List Str} {mean : ExcName → Option Value} {mg mb : Str → Option Value} {dp un : Nat} {gd : Option (List Code)} {cn : Str} {cs : Scope} {a : Addr} {ccd : Value} {outer : List Env} {A₀ : Around} {base h₀ : Heap} {L : Addr} {m : Str → Option Value} {s : Shared} {Q E : Value → Shared → Prop}
    {news : List (Addr × Obj)} {cl : List (Str × Addr)}
    {wr dw : Addr} {ea eb : Int} {k1 k2 t1 t2 : Tok} {nr C : Nat} {W : Int}
    (S : Site w p loose mean mg mb cs outer A₀ base h₀ L m news s.heap)
    (hr : (wr, instObj 103 dw) ∈ news) (hdr : (dw, dictOf [⟨ea, .str (Str.ofString "word") k1, .int W t1⟩, ⟨eb, .str (Str.ofString "count") k2, .int (C : Int) t2⟩] nr) ∈ news)
    (hne : wr ≠ dw) (hC : C ≤ 400) (hW : 0 ≤ W)
    (hdp : dp + 4 < recursionLimit) (hun : un + 40 < cLine)
    (h : ∀ (b : Array UInt8) (t : Tok) (h' : Heap) (tk' : Nat), KBw.bInts b = wOct W C → 
      Fr h₀ L h' m → News h₀ L h' news → Q (.bytes b t) { s with heap := h', toks := tk' }) :
    wpAny (model prog w) (ktrTop dp un gd cn cs L a ccd cl outer) (call (.ref 100) [.ref wr]) Q E s := by
  have hsub : ∀ q ∈ [(wr, instObj 103 dw), (dw, dictOf [⟨ea, .str (Str.ofString "word") k1, .int W t1⟩, ⟨eb, .str (Str.ofString "count") k2, .int (C : Int) t2⟩] nr)], q ∈ news := by
    intro q hq
    rcases List.mem_cons.mp hq with rfl | hq
    · exact hr
    · rcases List.mem_cons.mp hq with rfl | hq
      · exact hdr
      · nomatch hq
  have hne := neN hne
  k_dflt ktr_enter
  k_steps
  exact leaveE_ (by assumption) (by assumption) ⟨news, cond_read S.N hsub (fun q h => List.mem_cons_of_mem _ (List.mem_cons_of_mem _ h)), fun F9 N9 => h _ _ _ _ (KBa.ints_make (wOct_in _ _)) F9 N9⟩
end Mine
end

section
namespace Mine
theorem resetM1 : True := by (k_with_none; w_top off); trivial
theorem bitOr_pp {x y : Int} (hx : 0 ≤ x) (hy : 0 ≤ y) : Builtin.bitOr x y = ((x.toNat ||| y.toNat : Nat) : Int) := by
  have hn : ∀ z : Int, Builtin.bitNot (Builtin.bitNot z) = z := fun z => by simp only [Builtin.bitNot]; omega
  have h1 : ¬ 0 ≤ Builtin.bitNot x := by simp only [Builtin.bitNot]; omega
  have h2 : ¬ 0 ≤ Builtin.bitNot y := by simp only [Builtin.bitNot]; omega
  unfold Builtin.bitOr
  rw [bitAnd_nn h1 h2, hn, hn, hn]
theorem or_shift {W k : Int} {n : Nat} (h0 : 0 ≤ W) (h1 : W < 2 ^ n) (hk : 0 ≤ k) : Builtin.bitOr W (k * 2 ^ n) = W + k * 2 ^ n := by
  obtain ⟨a, rfl⟩ := Int.eq_ofNat_of_zero_le h0
  obtain ⟨b, rfl⟩ := Int.eq_ofNat_of_zero_le hk
  have e1 : ((b : Int) * 2 ^ n) = ((2 ^ n * b : Nat) : Int) := by
    rw [Int.natCast_mul, Int.mul_comm]
    congr 1
  have h2 : a < 2 ^ n := by
    have e : ((2 : Int) ^ n) = ((2 ^ n : Nat) : Int) := by simp
    rw [e] at h1
    omega
  rw [e1, bitOr_pp (by omega) (by omega)]
  have := Nat.two_pow_add_eq_or_of_lt h2 b
  simp only [Int.toNat_natCast]
  rw [Nat.or_comm, ← this]
  omega
/-- octets, the lowest first, as one number -/
def rdV : List Int → Int
  | [] => 0
  | o :: r => o + 256 * rdV r
theorem rdV_app (a b : List Int) : rdV (a ++ b) = rdV a + 2 ^ (8 * a.length) * rdV b := by
  induction a with
  | nil => simp [rdV]
  | cons o r ih =>
    simp only [List.cons_append, rdV, ih, List.length_cons]
    have e : (2 : Int) ^ (8 * (r.length + 1)) = 256 * 2 ^ (8 * r.length) := by
      rw [show 8 * (r.length + 1) = 8 * r.length + 8 from by omega, Int.pow_add]
      have : (2 : Int) ^ 8 = 256 := by decide
      rw [this, Int.mul_comm]
    rw [e, Int.mul_add, Int.mul_assoc]
    omega
theorem rdV_range {a : List Int} (h : KBa.In a) : 0 ≤ rdV a ∧ rdV a < 2 ^ (8 * a.length) := by
  induction a with
  | nil => simp [rdV]
  | cons o r ih =>
    have h1 := h o List.mem_cons_self
    have h2 := ih fun n hn => h n (List.mem_cons_of_mem _ hn)
    simp only [rdV, List.length_cons]
    have e : (2 : Int) ^ (8 * (r.length + 1)) = 256 * 2 ^ (8 * r.length) := by
      rw [show 8 * (r.length + 1) = 8 * r.length + 8 from by omega, Int.pow_add]
      have : (2 : Int) ^ 8 = 256 := by decide
      rw [this, Int.mul_comm]
    rw [e]
    omega
/-- one octet more -/
theorem rdV_step {ks : List Int} {i : Nat} {k : Int} (h : KBa.In ks) (hi : ks[i]? = some k) : Builtin.bitOr (rdV (ks.take i)) (k * 2 ^ (8 * i)) = rdV (ks.take (i + 1)) := by
  have hlt : i < ks.length := by
    rcases Nat.lt_or_ge i ks.length with q | q
    · exact q
    · rw [List.getElem?_eq_none q] at hi
      cases hi
  have hl : (ks.take i).length = i := by rw [List.length_take]; omega
  have hr := rdV_range (a := ks.take i) fun n hn => h n (List.mem_of_mem_take hn)
  rw [hl] at hr
  have hk := h k (List.mem_of_getElem? hi)
  rw [or_shift hr.1 hr.2 hk.1, List.take_add_one, hi]
  simp only [Option.toList_some]
  rw [rdV_app, hl]
  simp only [rdV, Int.mul_zero, Int.add_zero]
  rw [Int.mul_comm k]
end Mine
end

section
namespace Mine
theorem resetXN : True := by (k_with_none; w_top off); trivial
open PySem.Builtin PySem.Builtin.ObjectAttr
abbrev tupObj (vs : List Value) : Obj := { cls := .type "tuple", data := .seq vs.toArray }
abbrev excObj (C t : Addr) (d : Option Addr) : Obj := { cls := .ref C, dict := d, data := .fields #[.ref t, .none, .none, .none, .bool false, .none] }
/-- a class of exceptions of the text's own, made by Exception.__new__ -/
structure ExcMakes (M : Model) (h : Heap) (C : Addr) : Prop where
  obj : ∃ oc od cd sl, h.get? C = some ⟨oc, od, .cls cd, sl⟩ ∧ cd.abstract = false ∧ cd.hasDel = false ∧ cd.mro.isEmpty = false
  made : Looks M h (Bind.madeBy (.ref C)) (some "Exception.__new__")
  base : Looks M h (Bind.staticBase (.ref C)) (.ref C)
  self : Looks M h (isSubtype (.ref C) (.ref C)) true
  exc : Looks M h (isSubtype (.ref C) (.type "Exception")) true
  notAttr : Looks M h (isSubtype (.ref C) (.type "AttributeError")) false
  notName : Looks M h (isSubtype (.ref C) (.type "NameError")) false
  call : Looks M h (specialOf (.ref C) "__call__") (some (.builtin "type.__call__"))
  typ : Looks M h (isInstance (.ref C) (.type "type")) true
theorem excMakes_of {K : Frag} {M : Model} {h : Heap} (X : K.In h) {C : Addr} {oc : Value} {od : Option Addr} {cd : ClassData} {sl : Array (Option Value)} {l : List Value}
    (ho : K.lookup C = some ⟨oc, od, .cls cd, sl⟩) (e1 : cd.abstract = false) (e2 : cd.hasDel = false) (hl : cd.mro = .ref C :: l) (e3 : sl.toList[4]? = some (some (.builtin "Exception.__new__")))
    (s1 : mroIn K C (.ref C) = some true) (s2 : mroIn K C (.type "Exception") = some true) (s3 : mroIn K C (.type "AttributeError") = some false) (s4 : mroIn K C (.type "NameError") = some false)
    (e7 : specialIn K (.ref C) "__call__" = some (some (.builtin "type.__call__"))) (e8 : instIn K (.ref C) (.type "type") = some true) : ExcMakes M h C := by
  have hc : clsIn K C = some cd := by unfold clsIn; rw [ho]
  have hm : Looks M h (mroOf (.ref C)) cd.mro := (looks_clsIn X hc).andThen .now
  have made : Looks M h (Bind.madeBy (.ref C)) (some "Exception.__new__") := by
    intro A Q E s k q
    unfold Bind.madeBy
    refine wpAny_bind (hm A _ E s k ?_)
    rw [hl, List.forIn_cons]
    refine wpAny_bind (wpAny_bind (wpAny_bind (wpAny_bind (wpAny_bind (wpAny_loadPart (k _ _ (X _ _ ho)) (wpAny_pure ?_))))))
    dsimp only
    rw [← Array.getElem?_toList, e3]
    exact wpAny_pure (wpAny_pure (wpAny_pure (wpAny_pure q)))
  refine ⟨⟨oc, od, cd, sl, X _ _ ho, e1, e2, by rw [hl]; rfl⟩, made, ?_, looks_mroIn X s1, looks_mroIn X s2, looks_mroIn X s3, looks_mroIn X s4, looks_specialIn X e7, looks_instIn X e8⟩
  intro A Q E s k q
  unfold Bind.staticBase
  refine wpAny_bind (hm A _ E s k ?_)
  rw [hl, List.forIn_cons]
  exact wpAny_bind (wpAny_bind (wpAny_bind (made A _ E s k (wpAny_pure (wpAny_pure (wpAny_pure q))))))
section
variable {prog : Program} {w : World} {A : Around} {K : Frag} {C : Addr} {R : Result → Shared → Prop} {h : Heap} {g : Array GenState} {d : Drawn} {t : Nat} {os : OsState}
theorem ifNT {α : Type} {M : Model} {A : Around} {a b : Sem α} {Q : α → Shared → Prop} {E : Value → Shared → Prop} {s : Shared} (h : wpAny M A b Q E s) : wpAny M A (if (!true) = true then a else b) Q E s := h
theorem ifF {α : Type} {M : Model} {A : Around} {a b : Sem α} {Q : α → Shared → Prop} {E : Value → Shared → Prop} {s : Shared} (h : wpAny M A b Q E s) : wpAny M A (if false = true then a else b) Q E s := h
theorem ifBne {α : Type} {M : Model} {A : Around} {x : String} {a b : Sem α} {Q : α → Shared → Prop} {E : Value → Shared → Prop} {s : Shared} (h : wpAny M A b Q E s) : wpAny M A (if (x != x) = true then a else b) Q E s := by rw [bne_self_eq_false]; exact h
theorem ifB {α : Type} {M : Model} {A : Around} {b : Bool} {x y : Sem α} {Q : α → Shared → Prop} {E : Value → Shared → Prop} {s : Shared} (e : b = false) (h : wpAny M A y Q E s) : wpAny M A (if b = true then x else y) Q E s := by rw [e]; exact h
theorem exc_args (C : Addr) (rest : List Value) : Bind.checkArgs "Exception.__new__" ⟨.any, "Exception", "Exception", .cls, [⟨"args", .varPos, false⟩, ⟨"kwargs", .varKw, false⟩]⟩ ⟨.ref C :: rest, []⟩ = pure () := by kernel_rfl
theorem exc_chk {M : Model} {rest : List Value} {Q : Unit → Shared → Prop} {E : Value → Shared → Prop} (Y : ExcMakes M h C) (hq : Q () ⟨h, g, d, t, os⟩) : wpAny M A (checkBuiltinCall "Exception.__new__" ⟨.ref C :: rest, []⟩) Q E ⟨h, g, d, t, os⟩ := by
  obtain ⟨⟨oc, od, cd, sl, hC, e1, e2, e4⟩, made, base, self, exc, na, nn, call, typ⟩ := Y
  have F := PySem.F.excBase_Exception
  unfold checkBuiltinCall
  rw [F.newKind, F.newSplit, F.newRow]
  dsimp only
  rw [exc_args]
  repeat (first | exact hq | with_reducible refine ifNT ?_ | with_reducible refine ifF ?_ | with_reducible refine ifBne ?_ | lk)
theorem exc_new {rest : List Value} (Y : ExcMakes (model prog w) h C) (hrest : rest.length ≤ sizeLine)
    (hq : R (.ok (.ret (.ref (h.objs.size + 1)))) ⟨(h.push (tupObj rest)).push (excObj C h.objs.size none), g, d, t, os⟩) :
    codeAny (model prog w) A (.call (.builtin "Exception.__new__") ⟨.ref C :: rest, []⟩) R ⟨h, g, d, t, os⟩ := by
  have F := PySem.F.excBase_Exception
  refine codeAny_call_builtin_code (Code.quiet_builtin _ F.quiet) (exc_chk Y ?_)
  obtain ⟨⟨oc, od, cd, sl, hC, e1, e2, e4⟩, made, base, self, exc, na, nn, call, typ⟩ := Y
  have here : Looks (model prog w) h (Bind.madeHere "BaseException.__new__" (.ref C)) () := base.andThen (made.andThen (Looks.of_pure (by simp only [Option.map_some, F.canon, bne_self_eq_false, Bool.false_eq_true, if_false])))
  have hends := F.ends
  refine codeAny_builtinAt F.entry ?_
  unfold Builtin.«BaseException.__new__»
  refine PySem.wpAt_bind ?_
  show PySem.wpAt _ _ _ (stack >>= _) _ _ _
  refine PySem.wpAt_bind (PySem.wpAt_stack fun p below => PySem.wpAt_of_wpAny ?_)
  wp_walk
  refine PySem.wpAt_of_wpAny ?_
  rw [F.owner]
  repeat (first | with_reducible refine ifNT ?_ | with_reducible refine ifF ?_ | lk)
  refine wpAny_newObj_type (T := "tuple") (data := .seq rest.toArray) (dict := none) ?_ (by simpa [sizeOk] using hrest)
  have hC₁ := Heap.get?_push_of_some (tupObj rest) hC
  have hC₂ := Heap.get?_push_of_some (excObj C h.objs.size none) hC₁
  refine wpAny_bind ?_
  unfold newObj
  dsimp only
  rw [if_neg (by simp [sizeLine_eq])]
  unfold newObjAsIs classHasDel
  refine wpAny_bind (wpAny_alloc (wpAny_bind (wpAny_bind (wpAny_load hC₂ (wpAny_pure ?_)))))
  rw [e2]
  refine wpAny_pure (wpAny_pure ?_)
  show R _ _
  rw [Heap.size_push]
  exact hq
theorem exc_core {rest : List Value} {init : Value} (Y : ExcMakes (model prog w) h C) (hi : Looks (model prog w) h (typeLookup (.ref C) "__init__") (some init)) (hrest : rest.length ≤ sizeLine)
    (hb : ∀ self, Looks (model prog w) h (bindSpecial init self) (init, [self]))
    (hq : codeAny (model prog w) (A.under (.builtin "type.__call__" ⟨.ref C :: rest, []⟩)) (.call init ⟨.ref (h.objs.size + 1) :: rest, []⟩) (InitBack (h.objs.size + 1) R) ⟨(h.push (tupObj rest)).push (excObj C h.objs.size none), g, d, t, os⟩) :
    codeAny (model prog w) A (.call (.ref C) ⟨rest, []⟩) R ⟨h, g, d, t, os⟩ := by
  have Y' := Y
  obtain ⟨⟨oc, od, cd, sl, hC, e1, e2, e4⟩, made, base, self, exc, na, nn, call, typ⟩ := Y
  refine codeAny_of_tree ?_
  show wpAny _ _ (callAny (.ref C) _) _ _ _
  refine nd_load hC ?_
  show wpAny _ _ (callAny.viaDunder (.ref C) _) _ _ _
  unfold callAny.viaDunder
  refine wpAny_bind (call.at ?_)
  dsimp only
  rw [tc_bind]
  refine wpAny_bind (wpAny_pure (wpAny_bind (wpAny_pure ?_)))
  refine wpAny_pure (a := Fin.again (.call (.builtin "type.__call__") ⟨.ref C :: rest, []⟩)) (And.intro rfl ?_)
  refine codeAny_call_builtin_at (Code.quiet_builtin _ (by decide +kernel)) entry_typeCall (check_slot tc_kind tc_split typ (tc_args _ _ _) ?_)
  unfold Builtin.«type.__call__»
  have hm : Looks (model prog w) h (mroOf (.ref C)) cd.mro := ((Looks.ld (part := none) hC).andThen .now).andThen .now
  repeat (first | with_reducible refine ifB e4 ?_ | with_reducible refine ifNT ?_ | with_reducible refine ifF ?_ | with_reducible refine wpAny_call ?_ | lk)
  refine exc_new Y' hrest ?_
  have k : ∀ b o, h.get? b = some o → ((h.push (tupObj rest)).push (excObj C h.objs.size none)).get? b = some o := fun b o e => Heap.get?_push_of_some _ (Heap.get?_push_of_some _ e)
  have hx : ((h.push (tupObj rest)).push (excObj C h.objs.size none)).get? (h.objs.size + 1) = some (excObj C h.objs.size none) := by heap_get
  have t1 : Looks (model prog w) ((h.push (tupObj rest)).push (excObj C h.objs.size none)) (typeOf (.ref (h.objs.size + 1))) (.ref C) := (Looks.ld hx).andThen .now
  have s1 := self.keeps k
  have i1 := hi.keeps k
  have b1 := (hb (.ref (h.objs.size + 1))).keeps k
  unfold isInstance callSpecial? specialOf
  repeat (first | with_reducible refine wpAny_call ?_ | lk)
  refine codeAny_mono hq fun r s' z => ?_
  rcases r with e | (v | _ | _ | _) <;> first | exact z | exact z.elim | skip
  obtain ⟨rfl, z⟩ := z
  exact wpAny_pure (wpAny_pure z)
end
end Mine
end

section
namespace Mine
theorem resetXS : True := by (k_with_none; w_top off); trivial
open PySem.Builtin PySem.Builtin.ObjectAttr
section
variable {prog : Program} {w : World} {A A₀ : Around} {E : Value → Shared → Prop} {s : Shared} {K : Frag} {C L x : Addr} {h₀ base : Heap} {m mg mb : Str → Option Value} {news : List (Addr × Obj)} {R : Result → Shared → Prop} {name : Str} {v : Value} {tk : Tok}
theorem exc_passes (self : Value) : refuseLoop self "__setattr__" [.type "Exception", .type "BaseException", .type "object"] = pure () := by kernel_rfl
theorem osaE_open {cd : ClassData} {ox : Obj} {od : Option Obj} {a b : Addr} (X : K.In s.heap) (I : InstAt s.heap x ox C od) (hc : clsIn K C = some cd) (hl : cd.mro = [.ref a, .ref b, .type "Exception", .type "BaseException", .type "object"]) (hm : mroIn K C (.type "object") = some true) (ht : findIn K (.ref C) name = some none)
    (h : wpAny (model prog w) A.in1 (storeInOwnDict (.ref x) (.ref C) (.str name tk) name v false)
      (fun fin s' => match fin with | .done f => R (.ok f) s' | .again c' => c'.quiet = true ∧ codeAny (model prog w) A c' R s') (fun e s' => R (.error e) s') s) :
    codeAny (model prog w) A (.call (.builtin "object.__setattr__") ⟨[.ref x, .str name tk, v], []⟩) R s := by
  have SF := PySem.F.store_object
  refine codeAny_call_builtin SF.slot.plain SF.entry (@check_slot (model prog w) _ _ s "object.__setattr__" "object" "__setattr__" (.ref x) [.str name tk, v] [] _ SF.kind SF.split (I.type.andThen (looks_mroIn X hm)) (SF.args (.ref x) (.str name tk) v) ?_)
  have hmr : Looks (model prog w) s.heap (mroOf (.ref C)) cd.mro := (looks_clsIn X hc).andThen .now
  rw [osa_eq, refuse_eq]
  refine wpAny_bind (wpAny_bind (I.type.here (wpAny_bind (hmr.here ?_))))
  rw [hl, refuseLoop_ref, refuseLoop_ref, exc_passes]
  refine wpAny_pure (wpAny_bind (I.type.here (wpAny_bind ((looks_findIn X ht).here (wpAny_bind (wpAny_pure ?_))))))
  exact h
theorem store_put {d : Addr} {es es' : List DictEntry} {n n' : Nat} {Q : Fin → Shared → Prop} (hd : s.heap.get? d = some (dictOf es n)) (hr : es.any (·.refKey) = false) (hz : es'.length ≤ 1000)
    (e : (putL name (PyData.keyHash w.params name) (.str name s.toks) v es, putN name es n) = (es', n'))
    (h : Q (.done (.ret .none)) { s with heap := s.heap.update d (Obj.putName name (PyData.keyHash w.params name) (.str name s.toks) v), toks := s.toks + 1 }) :
    wpAny (model prog w) A (storeInDict d (.str name tk) name v) Q E s := by
  obtain ⟨e1, e2⟩ := Prod.mk.inj e
  have U := Heap.get?_update_self (Obj.putName name (PyData.keyHash w.params name) (.str name s.toks) v) hd (by rw [putName_dict]; rfl)
  rw [putName_dict, e1, e2] at U
  refine wpAny_bind (wpAny_pure (wpAny_bind ?_))
  unfold nsSet
  refine wpAny_bind (wpAny_bind (wpAny_askSetting (wpAny_pure (wpAny_bind (wpAny_mkText (wpAny_bind (wpAny_loadPart hd ?_)))))))
  show wpAny _ _ (if aRefKeyMayBeTheName name es.toArray then _ else _) _ _ _
  rw [aRefKeyMayBeTheName_at, show es.toArray.any (fun x => x.refKey) = false from by rw [← Array.any_toList]; exact hr, Bool.and_false]
  refine wpAny_updatePart hd ?_
  refine wpAny_bind (wpAny_lookBehind U (pastItsLine_dict (by rw [List.size_toArray, sizeLine_eq]; omega)) ?_)
  exact wpAny_pure h
/-- an attribute of an exception that has a dict -/
theorem excStore {cd : ClassData} {t dx : Addr} {es es' : List DictEntry} {n n' : Nat} {a b : Addr} {pre post : List (Addr × Obj)} (F : Fr h₀ L s.heap m) (X : K.In s.heap) (N : News h₀ L s.heap (pre ++ (dx, dictOf es n) :: post)) (hx : s.heap.get? x = some (excObj C t (some dx)))
    (hc : clsIn K C = some cd) (hl : cd.mro = [.ref a, .ref b, .type "Exception", .type "BaseException", .type "object"]) (hdc : cd.hasDict = true) (hm : mroIn K C (.type "object") = some true) (ht : findIn K (.ref C) name = some none)
    (h1 : ∀ p ∈ pre, p.1 ≠ dx) (h2 : ∀ p ∈ post, p.1 ≠ dx) (hr : es.any (·.refKey) = false) (hz : es'.length ≤ 1000)
    (e : (putL name (PyData.keyHash w.params name) (.str name s.toks) v es, putN name es n) = (es', n'))
    (h : ∀ h', Fr h₀ L h' m → News h₀ L h' (pre ++ (dx, dictOf es' n') :: post) → R (.ok (.ret .none)) { s with heap := h', toks := s.toks + 1 }) : codeAny (model prog w) A (.call (.builtin "object.__setattr__") ⟨[.ref x, .str name tk, v], []⟩) R s := by
  have D := (N (dx, dictOf es n) (by simp)).1
  have I : InstAt s.heap x (excObj C t (some dx)) C (some (dictOf es n)) := ⟨hx, rfl, rfl, D⟩
  obtain ⟨e1, e2⟩ := Prod.mk.inj e
  obtain ⟨U1, U2⟩ := news_upd (f := Obj.putName name (PyData.keyHash w.params name) (.str name s.toks) v) F N h1 h2 (by rw [putName_dict, e1, e2]) rfl
  refine osaE_open X I hc hl hm ht ?_
  refine wpAny_bind (wpAny_pure (wpAny_bind (wpAny_bind (wpAny_loadPart hx (wpAny_bind ((looks_clsIn X hc).here ?_))))))
  rw [hdc]
  exact wpAny_pure (a := some dx) (store_put D hr hz e (h _ U1 U2))
/-- an attribute of an exception that has no dict yet -/
theorem excStore0 {cd : ClassData} {t : Addr} {es' : List DictEntry} {n' : Nat} {a b : Addr} {post : List (Addr × Obj)} (F : Fr h₀ L s.heap m) (X : K.In s.heap) (N : News h₀ L s.heap ((x, excObj C t none) :: post))
    (hc : clsIn K C = some cd) (hl : cd.mro = [.ref a, .ref b, .type "Exception", .type "BaseException", .type "object"]) (hdc : cd.hasDict = true) (hm : mroIn K C (.type "object") = some true) (ht : findIn K (.ref C) name = some none)
    (h1 : ∀ p ∈ post, p.1 ≠ x) (hz : es'.length ≤ 1000)
    (e : (putL name (PyData.keyHash w.params name) (.str name s.toks) v [], putN name [] 0) = (es', n'))
    (h : ∀ h' dx, Fr h₀ L h' m → News h₀ L h' ((dx, dictOf es' n') :: (x, excObj C t (some dx)) :: post) → (∀ p ∈ (x, excObj C t (some dx)) :: post, p.1 ≠ dx) → R (.ok (.ret .none)) { s with heap := h', toks := s.toks + 1 }) : codeAny (model prog w) A (.call (.builtin "object.__setattr__") ⟨[.ref x, .str name tk, v], []⟩) R s := by
  have hx := (N (x, excObj C t none) List.mem_cons_self).1
  have I : InstAt s.heap x (excObj C t none) C none := ⟨hx, rfl, rfl, True.intro⟩
  obtain ⟨e1, e2⟩ := Prod.mk.inj e
  refine osaE_open X I hc hl hm ht ?_
  refine wpAny_bind (wpAny_pure (wpAny_bind (wpAny_bind (wpAny_loadPart hx (wpAny_bind ((looks_clsIn X hc).here ?_))))))
  rw [hdc]
  show wpAny _ _ (alloc _ >>= _) _ _ _
  have F1 := F.push (dictOf [] 0)
  have N1 := N.push F (dictOf [] 0)
  have ne : ∀ p ∈ (x, excObj C t none) :: post, p.1 ≠ s.heap.objs.size := fun p hp => Nat.ne_of_lt (Heap.lt_size (N p hp).1)
  obtain ⟨F2, N2⟩ := news_upd (pre := [(s.heap.objs.size, dictOf [] 0)]) (o' := excObj C t (some s.heap.objs.size)) (f := fun o => { o with dict := some s.heap.objs.size }) F1 N1 (fun p hp => by rcases List.mem_cons.mp hp with rfl | hp; exact Ne.symm (ne _ List.mem_cons_self); nomatch hp) h1 rfl rfl
  have ne2 : ∀ p ∈ (x, excObj C t (some s.heap.objs.size)) :: post, p.1 ≠ s.heap.objs.size := fun p hp => by
    rcases List.mem_cons.mp hp with rfl | hp
    · exact ne (x, excObj C t none) List.mem_cons_self
    · exact ne _ (List.mem_cons_of_mem _ hp)
  obtain ⟨U1, U2⟩ := news_upd (pre := []) (f := Obj.putName name (PyData.keyHash w.params name) (.str name s.toks) v) F2 N2 (fun p hp => nomatch hp) ne2 (by rw [putName_dict, e1, e2]) rfl
  refine wpAny_bind (wpAny_alloc (wpAny_bind (wpAny_update (Heap.get?_push_of_some _ hx) (wpAny_bind (wpAny_pure ?_)))))
  exact wpAny_pure (a := some s.heap.objs.size) (store_put (N2 _ List.mem_cons_self).1 rfl hz e (h _ _ U1 U2 ne2))
end
end Mine
end

section
namespace Mine
theorem resetXI : True := by (k_with_none; w_top off); trivial
open PySem.Builtin PySem.Builtin.ObjectAttr
section
variable {prog : Program} {w : World} {A A₀ : Around} {E : Value → Shared → Prop} {s : Shared} {K : Frag} {C L x : Addr} {h₀ base : Heap} {m mg mb : Str → Option Value} {news : List (Addr × Obj)} {R : Result → Shared → Prop} {name : Str} {v : Value} {tk : Tok}
theorem excInitChk {M : Model} {cd : ClassData} {s : Shared} {Q : Unit → Shared → Prop} (hty : Looks M s.heap (typeOf (.ref x)) (.ref C)) (hcl : Looks M s.heap (classData C) cd)
    (hsub : Looks M s.heap (isInstance (.ref x) (.type "Exception")) true) (h : Q () s) : wpAny M A (checkBuiltinCall "Exception.__init__" ⟨[.ref x, v], []⟩) Q E s := by
  have F0 := PySem.F.excBase_Exception
  have hstar := F0.noStar
  simp only [checkBuiltinCall, F0.initKind, F0.initSplit, F0.initRow]
  repeat (first | exact h | with_reducible refine ifNT ?_ | with_reducible refine ifF ?_ | lk)
theorem excInit {cd : ClassData} {oc : Value} {od : Option Addr} {sl : Array (Option Value)} {t0 : Addr} {post : List (Addr × Obj)} {Q : Value → Shared → Prop} (F : Fr h₀ L s.heap m) (X₀ : K.In h₀) (N : News h₀ L s.heap ((x, excObj C t0 none) :: post))
    (ho : K.lookup C = some ⟨oc, od, .cls cd, sl⟩) (hm : mroIn K C (.type "Exception") = some true) (h1 : ∀ p ∈ post, p.1 ≠ x)
    (h : ∀ h' t, Fr h₀ L h' m → News h₀ L h' ((x, excObj C t none) :: (t, tupObj [v]) :: post) → (∀ p ∈ (x, excObj C t none) :: post, p.1 ≠ t) → Q .none { s with heap := h' }) :
    wpAny (model prog w) A (call (.builtin "Exception.__init__") [.ref x, v]) Q E s := by
  have X := X₀.keeps F.keep
  have F0 := PySem.F.excBase_Exception
  have hx := (N (x, excObj C t0 none) List.mem_cons_self).1
  have hC := X _ _ ho
  have I : InstAt s.heap x (excObj C t0 none) C none := ⟨hx, rfl, rfl, True.intro⟩
  have F1 := F.push (tupObj [v])
  have N1 := N.push F (tupObj [v])
  have ne : ∀ p ∈ (x, excObj C t0 none) :: post, p.1 ≠ s.heap.objs.size := fun p hp => Nat.ne_of_lt (Heap.lt_size (N p hp).1)
  obtain ⟨F2, N2⟩ := news_upd (pre := [(s.heap.objs.size, tupObj [v])]) (o' := excObj C s.heap.objs.size none) (f := Obj.mapFields (·.setIfInBounds 0 (.ref s.heap.objs.size))) F1 N1 (fun p hp => by rcases List.mem_cons.mp hp with rfl | hp; exact Ne.symm (ne _ List.mem_cons_self); nomatch hp) h1 rfl rfl
  have hsub : Looks (model prog w) s.heap (isInstance (.ref x) (.type "Exception")) true := I.type.andThen (looks_mroIn X hm)
  have hty := I.type (M := model prog w)
  have hcl : Looks (model prog w) s.heap (classData C) cd := looks_clsIn X (by unfold clsIn; rw [ho])
  refine wpAny_call (codeAny_call_builtin F0.init.plain F0.initEntry (excInitChk hty hcl hsub ?_))
  unfold Builtin.«BaseException.__init__»
  dsimp only
  rw [if_neg (by simp)]
  unfold newTuple Builtin.BaseException.bexcPut
  have hx₁ := (N1 (x, excObj C t0 none) (List.mem_cons_of_mem _ List.mem_cons_self)).1
  refine wpAny_bind (wpAny_newObj_type (wpAny_bind (wpAny_bind (wpAny_field hx₁ rfl rfl (wpAny_bind (wpAny_setField hx₁ rfl (by show 0 < 6; decide) ?_))))) (by size_fits))
  exact wpAny_letGo (wpAny_pure (h _ _ F2 (fun q hq => N2 q (by
    rcases List.mem_cons.mp hq with rfl | hq
    · exact List.mem_cons_of_mem _ List.mem_cons_self
    · rcases List.mem_cons.mp hq with rfl | hq
      · exact List.mem_cons_self
      · exact List.mem_cons_of_mem _ (List.mem_cons_of_mem _ hq))) fun p hp => by
    rcases List.mem_cons.mp hp with rfl | hp
    · exact ne (x, excObj C t0 none) List.mem_cons_self
    · exact ne _ (List.mem_cons_of_mem _ hp)))
end
end Mine
end

section
namespace Mine
theorem exc_fn (w : World) : ∀ {r : Bool}, r = r := rfl
theorem look51 (w : World) : ∃ cd sl, (hd0.heap_1 w.params).lookup 51 = some ⟨.type "type", none, .cls cd, sl⟩ ∧ cd.abstract = false ∧ cd.hasDel = false ∧ cd.hasDict = true ∧ cd.mro = [.ref 51, .ref 31, .type "Exception", .type "BaseException", .type "object"] ∧ sl.toList[4]? = some (some (.builtin "Exception.__new__")) :=
  ⟨_, _, rfl, rfl, rfl, rfl, rfl, rfl⟩
theorem is51 (w : World) : mroIn (hd0.heap_1 w.params) 51 (.ref 51) = some true := by k_is
theorem exc51 (w : World) : mroIn (hd0.heap_1 w.params) 51 (.type "Exception") = some true := by k_is
theorem obj51 (w : World) : mroIn (hd0.heap_1 w.params) 51 (.type "object") = some true := by k_is
theorem na51 (w : World) : mroIn (hd0.heap_1 w.params) 51 (.type "AttributeError") = some false := by k_is
theorem nn51 (w : World) : mroIn (hd0.heap_1 w.params) 51 (.type "NameError") = some false := by k_is
theorem sp51 (w : World) : specialIn (hd0.heap_1 w.params) (.ref 51) "__call__" = some (some (.builtin "type.__call__")) := by k_is
theorem ty51 (w : World) : instIn (hd0.heap_1 w.params) (.ref 51) (.type "type") = some true := by k_is
theorem in51 (w : World) : findIn (hd0.heap_1 w.params) (.ref 51) "__init__" = some (some (.ref 48)) := by k_is
theorem sa51 (w : World) : findIn (hd0.heap_1 w.params) (.ref 51) "__setattr__" = some (some (.builtin "object.__setattr__")) := by k_is
theorem tx51 (w : World) : findIn (hd0.heap_1 w.params) (.ref 51) (Str.ofString "text") = some none := by k_is
theorem sq51 (w : World) : findIn (hd0.heap_1 w.params) (.ref 51) (Str.ofString "square") = some none := by k_is
theorem made51 {M : Model} {w : World} {h : Heap} (X : (hd0.heap_1 w.params).In h) : ExcMakes M h 51 := by
  obtain ⟨cd, sl, ho, e1, e2, _, hl, e3⟩ := look51 w
  exact excMakes_of X ho e1 e2 hl e3 (is51 w) (exc51 w) (na51 w) (nn51 w) (sp51 w) (ty51 w)
theorem metaExc : typeOf (.type "Exception") = pure (.type "type") := by kernel_rfl
section
variable {prog p : Program} {w : World} {loose : List Str} {mean : ExcName → Option Value} {mg mb : Str → Option Value} {dp un : Nat} {gd : Option (List Code)} {cn : Str} {cs : Scope} {a : Addr} {ccd : Value} {outer : List Env} {A₀ : Around} {base h₀ : Heap} {L : Addr} {m : Str → Option Value} {s : Shared} {Q E : Value → Shared → Prop}
    {news : List (Addr × Obj)} {cl : List (Str × Addr)} {name qual : Str} {params : Arguments} {body : List Stmt} {scope : Scope} {dV kV doc pm cdv ct oc : Value} {an od : Option Addr} {osl : Array (Option Value)} {args : List Value} {binds : Addr → List (Str × Value)}
theorem under_top51 {dp un : Nat} {gd : Option (List Code)} {cn : Str} {cs : Scope} {L a C : Addr} {ccd : Value} {cl : List (Str × Addr)} {outer : List Env} {rest : List Value} :
    (ktrTop dp un gd cn cs L a ccd cl outer).under (.builtin "type.__call__" ⟨.ref C :: rest, []⟩) = ktrTop (dp + 1) (un + 1) gd cn cs L a ccd cl outer := rfl
theorem call_exc (F : Fr h₀ L s.heap m) (X₀ : (hd0.heap_1 w.params).In h₀) (N : News h₀ L s.heap news) (hn : args.length ≤ 1000) (hf : isFn (hd0.heap_1 w.params) (.ref 48) = true)
    (h : ∀ x t0 h', Fr h₀ L h' m → News h₀ L h' ((x, excObj 51 t0 none) :: news) → (∀ p ∈ news, p.1 ≠ x) →
      codeAny (model prog w) (ktrTop (dp + 1) (un + 1) gd cn cs L a ccd cl outer) (.call (.ref 48) ⟨.ref x :: args, []⟩) (InitBack x fun r s' => match r with | .ok (.ret v) => Q v s' | .ok _ => False | .error e => E e s') { s with heap := h' }) :
    wpAny (model prog w) (ktrTop dp un gd cn cs L a ccd cl outer) (call (.ref 51) args) Q E s := by
  have X1 := X₀.keeps F.keep
  obtain ⟨hp, g0, d0, tk0, os0⟩ := s
  have N₁ := (N.push F (tupObj args)).push (F.push _) (excObj 51 hp.objs.size none)
  rw [Heap.size_push] at N₁
  refine wpAny_call (exc_core (made51 X1) (looks_findIn X1 (in51 w)) (by rw [sizeLine_eq]; omega) (fun self => bind_fn X1 self (beq_iff_eq.mp hf)) (h (hp.objs.size + 1) hp.objs.size _ ((F.push (tupObj args)).push (excObj 51 hp.objs.size none)) (fun q hq => ?_) fun q hq z => ?_))
  · rcases List.mem_cons.mp hq with rfl | hq
    · exact N₁ _ List.mem_cons_self
    · exact N₁ _ (List.mem_cons_of_mem _ (List.mem_cons_of_mem _ hq))
  · have := Heap.lt_size (N q hq).1
    rw [z] at this
    exact Nat.lt_irrefl _ (Nat.lt_trans (Nat.lt_succ_self _) this)
/-- BadPosition is called and its __init__ entered -/
theorem enterE (S : Site w p loose mean mg mb cs outer A₀ base h₀ L m news s.heap) (hn : args.length ≤ 1000)
    (ho : (hd0.heap_1 w.params).lookup 48 = some ⟨oc, od, .func (fnOf name qual params body scope dV kV doc pm an cdv ct), osl⟩) (hf : isFn (hd0.heap_1 w.params) (.ref 48) = true) (hcd : codeIn (hd0.heap_1 w.params) cdv qual = true) (hroom : dp + 1 < recursionLimit)
    (hbind : ∀ x s, BindsTo s (fnOf name qual params body scope dV kV doc pm an cdv ct) ⟨.ref x :: args, []⟩ (binds x)) (hloc : ∀ x, ∀ y ∈ binds x, scope.names.lookup y.1 = some .local)
    (h : ∀ x t0 g L' h₁ tk, LCg.Off1 x news → Fr g L' h₁ (fun y => (binds x).reverse.lookup y) → News g L' h₁ [(x, excObj 51 t0 none)] → Below (ktrTop (dp + 1) (un + 1) gd cn cs L a ccd cl outer) base (envX cn cs L a ccd cl :: outer) g → (hd0.heap_1 w.params).In g → Top p loose mean mg mb g → @LT.lt Nat _ x L' →
      (∀ q ∈ news, g.get? q.1 = some q.2) →
      wpAny (model prog w) ((ktrTop (dp + 1) (un + 1) gd cn cs L a ccd cl outer).deeper (envOf qual scope L' 48 cdv)) (execs body (envOf qual scope L' 48 cdv))
        (fun fl s' => LeaveE g (fun small' => (match fl with | .ret v => v | _ => .none) = .none ∧ ∃ news', (∀ q ∈ news', q ∈ small' ∨ q ∈ news) ∧ (Fr h₀ L s'.heap m → News h₀ L s'.heap news' → Q (.ref x) s')) s')
        (fun _ _ => False)
        { s with heap := h₁, toks := tk })
    (hco : scope.isCoroutine = false) (hgen : scope.isGenerator = false) (hkf : scope.kind = .function)
    (hcell : ∀ x ∈ scope.names, x.2 ≠ .cell) :
    wpAny (model prog w) (ktrTop dp un gd cn cs L a ccd cl outer) (call (.ref 51) args) Q E s := by
  obtain ⟨B, F, X₀, N, T, hk⟩ := S
  refine call_exc F X₀ N hn hf fun x t0 h' F₁ N₁ hx => ?_
  have Ns : News h₀ L h' [(x, excObj 51 t0 none)] := fun q hq => N₁ q (by
    rcases List.mem_cons.mp hq with rfl | hq
    · exact List.mem_cons_self
    · nomatch hq)
  obtain ⟨FG, BG, st, _⟩ := groundX (s := { s with heap := h' }) (R := fun _ _ => True) (A := ktrTop (dp + 1) (un + 1) gd cn cs L a ccd cl outer) (env := envX cn cs L a ccd cl) B F₁ Ns rfl rfl hk
  have X := X₀.keeps F₁.keep
  refine codeAny_call_def (fd := fnOf name qual params body scope dV kV doc pm an cdv ct) (body := body) (binds := binds x) hroom (X _ _ ho) rfl (T.nolimit.keeps F₁.keep) (codeRec_of X hcd) rfl (hbind _ _) hcell (hloc _) (fun h₁ hns hk₁ => ?_) hco hgen hkf
  have hg : ∀ q ∈ news, (hideAll h' ([(x, excObj 51 t0 none)].map (·.1))).get? q.1 = some q.2 := fun q hq =>
    hideAll_get _ (N₁ q (List.mem_cons_of_mem _ hq)).1 fun z => by
      rcases List.mem_cons.mp z with z | z
      · exact hx q hq z
      · nomatch z
  refine wpAny_mono (h _ t0 _ _ h₁ _ (off1_of hx) ⟨hns, fun b o e => hk₁ b o (of_hideAll _ e), Nat.le_of_eq (hideAll_size _ _)⟩
    (fun q hq => ⟨hk₁ _ _ (Ns q hq).1, Nat.ne_of_lt (Heap.lt_size (Ns q hq).1), hideAll_none _ (List.mem_map_of_mem hq)⟩) BG (X₀.keeps st) (T.keeps st) (Heap.lt_size (Ns _ List.mem_cons_self).1) hg) (fun fl s' hl => ?_) fun _ _ y => y.elim
  obtain ⟨L', m', small', F', N', hv, news', hn, k⟩ := hl
  obtain ⟨oL, es, ep, hLg, hLd, hLk, hLf⟩ := FG.ns
  refine And.intro ?_ (k ⟨⟨oL, es, ep, F'.keep L oL hLg, hLd, hLk, hLf⟩, fun b o e => F'.keep b o (st b o e), F₁.above⟩ fun q hq => ?_)
  · exact hv
  · rcases hn q hq with hq | hq
    · refine ⟨(N' q hq).1, fun z => ?_, ?_⟩
      · have := (N' q hq).2.2
        rw [z, hLg] at this
        cases this
      · cases z : h₀.get? q.1 with
        | none => rfl
        | some o =>
          have := (N' q hq).2.2
          rw [st _ _ z] at this
          cases this
    · exact ⟨F'.keep _ _ (hg q hq), (N q hq).2⟩
end
section
variable {prog : Program} {w : World} {A : Around} {E : Value → Shared → Prop} {s : Shared} {L x : Addr} {h₀ : Heap} {m : Str → Option Value} {name : Str} {v : Value} {Q : Unit → Shared → Prop}
theorem excSet0 {t : Addr} {tp : Obj} {es' : List DictEntry} {n' : Nat} (F : Fr h₀ L s.heap m) (X₀ : (hd0.heap_1 w.params).In h₀) (N : News h₀ L s.heap [(x, excObj 51 t none), (t, tp)])
    (ht : findIn (hd0.heap_1 w.params) (.ref 51) name = some none) (h1 : ∀ p ∈ [(x, excObj 51 t none)], p.1 ≠ t)
    (e : (putL name (PyData.keyHash w.params name) (.str name (s.toks + 1)) v [], putN name [] 0) = (es', n')) (hz : es'.length ≤ 1000)
    (h : ∀ h' dx, Fr h₀ L h' m → News h₀ L h' [(dx, dictOf es' n'), (x, excObj 51 t (some dx)), (t, tp)] → (∀ p ∈ [(x, excObj 51 t (some dx)), (t, tp)], p.1 ≠ dx) → Q () { s with heap := h', toks := s.toks + 2 }) :
    wpAny (model prog w) A (setAttr (.ref x) name v) Q E s := by
  have X := X₀.keeps F.keep
  obtain ⟨cd, sl, ho, e1, e2, e3, hl, _⟩ := look51 w
  have hx := (N (x, excObj 51 t none) List.mem_cons_self).1
  exact set_plain (od := none) X ⟨hx, rfl, rfl, True.intro⟩ (sa51 w) (excStore0 (s := { s with toks := s.toks + 1 }) F X N (by unfold clsIn; rw [ho]) hl e3 (obj51 w) ht (fun p hp => by
    rcases List.mem_cons.mp hp with rfl | hp
    · exact Ne.symm (h1 _ List.mem_cons_self)
    · nomatch hp) hz e h)
theorem excSet1 {t dx : Addr} {es es' : List DictEntry} {n n' : Nat} {post : List (Addr × Obj)} (F : Fr h₀ L s.heap m) (X₀ : (hd0.heap_1 w.params).In h₀) (N : News h₀ L s.heap ((dx, dictOf es n) :: (x, excObj 51 t (some dx)) :: post))
    (ht : findIn (hd0.heap_1 w.params) (.ref 51) name = some none) (h1 : ∀ p ∈ (x, excObj 51 t (some dx)) :: post, p.1 ≠ dx) (hr : es.any (·.refKey) = false)
    (e : (putL name (PyData.keyHash w.params name) (.str name (s.toks + 1)) v es, putN name es n) = (es', n')) (hz : es'.length ≤ 1000)
    (h : ∀ h', Fr h₀ L h' m → News h₀ L h' ((dx, dictOf es' n') :: (x, excObj 51 t (some dx)) :: post) → Q () { s with heap := h', toks := s.toks + 2 }) :
    wpAny (model prog w) A (setAttr (.ref x) name v) Q E s := by
  have X := X₀.keeps F.keep
  obtain ⟨cd, sl, ho, e1, e2, e3, hl, _⟩ := look51 w
  have hx := (N (x, excObj 51 t (some dx)) (List.mem_cons_of_mem _ List.mem_cons_self)).1
  exact set_plain (od := some (dictOf es n)) X ⟨hx, rfl, rfl, (N _ List.mem_cons_self).1⟩ (sa51 w) (excStore (s := { s with toks := s.toks + 1 }) (pre := []) F X N hx (by unfold clsIn; rw [ho]) hl e3 (obj51 w) ht (fun p hp => nomatch hp) h1 hr hz e h)
theorem excInit51 {t0 : Addr} {post : List (Addr × Obj)} {Q : Value → Shared → Prop} (F : Fr h₀ L s.heap m) (X₀ : (hd0.heap_1 w.params).In h₀) (N : News h₀ L s.heap ((x, excObj 51 t0 none) :: post)) (h1 : ∀ p ∈ post, p.1 ≠ x)
    (h : ∀ h' t, Fr h₀ L h' m → News h₀ L h' ((x, excObj 51 t none) :: (t, tupObj [v]) :: post) → (∀ p ∈ (x, excObj 51 t none) :: post, p.1 ≠ t) → Q .none { s with heap := h' }) :
    wpAny (model prog w) A (call (.builtin "Exception.__init__") [.ref x, v]) Q E s := by
  obtain ⟨cd, sl, ho, _⟩ := look51 w
  exact excInit F X₀ N ho (exc51 w) h1 h
end
theorem wordsXW0 : True := by
  k_with_none
  w_top off
  k_with "a9" => (with_reducible assumption)
  k_with "c9" => (repeat (with_reducible rename _ ∧ _ => hA9; clear hA9)); (repeat (with_reducible rename _ ≠ _ => hA9; clear hA9))
  k_with "u9" => ((with_reducible rename News _ _ _ _ => N9); dsimp +zetaDelta only at N9)
  k_with "p0" => (refine offAt (by fail "a9") 0 ?_; exact rfl)
  k_with "p1" => (refine offAt (by fail "a9") 1 ?_; exact rfl)
  k_with "p2" => (refine offAt (by fail "a9") 2 ?_; exact rfl)
  k_with "p3" => (refine offAt (by fail "a9") 3 ?_; exact rfl)
  k_with "p4" => (refine offAt (by fail "a9") 4 ?_; exact rfl)
  k_with "p5" => (refine offAt (by fail "a9") 5 ?_; exact rfl)
  k_with "p6" => (refine offAt (by fail "a9") 6 ?_; exact rfl)
  k_with "p7" => (refine offAt (by fail "a9") 7 ?_; exact rfl)
  k_with "p8" => (refine offAt (by fail "a9") 8 ?_; exact rfl)
  k_with "p9" => (refine offAt (by fail "a9") 9 ?_; exact rfl)
  k_with "p10" => (refine offAt (by fail "a9") 10 ?_; exact rfl)
  k_with "p11" => (refine offAt (by fail "a9") 11 ?_; exact rfl)
  k_with "p12" => (refine offAt (by fail "a9") 12 ?_; exact rfl)
  k_with "p13" => (refine offAt (by fail "a9") 13 ?_; exact rfl)
  k_with "p14" => (refine ltAt (by fail "a9") 0 ?_; exact rfl)
  k_with "p15" => (refine ltAt (by fail "a9") 1 ?_; exact rfl)
  k_with "p16" => (refine ltAt (by fail "a9") 2 ?_; exact rfl)
  k_with "p17" => (refine ltAt (by fail "a9") 3 ?_; exact rfl)
  k_with "p18" => (refine ltAt (by fail "a9") 4 ?_; exact rfl)
  k_with "p19" => (refine ltAt (by fail "a9") 5 ?_; exact rfl)
  k_with "p20" => (refine ltAt (by fail "a9") 6 ?_; exact rfl)
  k_with "p21" => (refine ltAt (by fail "a9") 7 ?_; exact rfl)
  k_with "p22" => (refine ltAt (by fail "a9") 8 ?_; exact rfl)
  k_with "p23" => (refine ltAt (by fail "a9") 9 ?_; exact rfl)
  k_with "p24" => (refine ltAt (by fail "a9") 10 ?_; exact rfl)
  k_with "p25" => (refine ltAt (by fail "a9") 11 ?_; exact rfl)
  k_with "p26" => (refine ltAt (by fail "a9") 12 ?_; exact rfl)
  k_with "p27" => (refine ltAt (by fail "a9") 13 ?_; exact rfl)
  k_with "r9" => (fail "w1")
  k_with "w1" => (first | fail "a9" | exact Nat.le_of_lt (by fail "a9"))
  k_with "offs9" => (first | fail "p0" | fail "p1" | fail "p2" | fail "p3" | fail "p4" | fail "p5" | fail "p6" | fail "p7" | fail "p8" | fail "p9" | fail "p10" | fail "p11" | fail "p12" | fail "p13" | fail "p14" | fail "p15" | fail "p16" | fail "p17" | fail "p18" | fail "p19" | fail "p20" | fail "p21" | fail "p22" | fail "p23" | fail "p24" | fail "p25" | fail "p26" | fail "p27")
  k_with "mem9" => (fail "w2")
  k_with "w2" => (first | exact List.Mem.head _ | exact List.Mem.tail _ (List.Mem.head _) | (refine memAt 0 ?_; exact rfl) | (refine memAt 1 ?_; exact rfl) | (refine memAt 2 ?_; exact rfl) | (refine memAt 3 ?_; exact rfl) | (refine memAt 4 ?_; exact rfl) | (refine memAt 5 ?_; exact rfl) | (refine memAt 6 ?_; exact rfl) | (refine memAt 7 ?_; exact rfl) | (refine memAt 8 ?_; exact rfl) | (refine memAt 9 ?_; exact rfl) | (refine memAt 10 ?_; exact rfl) | (refine memAt 11 ?_; exact rfl) | (refine memAt 12 ?_; exact rfl) | (refine memAt 13 ?_; exact rfl) | (refine memAt 14 ?_; exact rfl) | (refine memAt 15 ?_; exact rfl) | (refine memAt 16 ?_; exact rfl) | (refine memAt 17 ?_; exact rfl))
  k_with "lts9" => (fail "w3")
  k_with "w3" => (first | (refine ltB (by fail "a9") 0 ?_; exact rfl) | (refine ltB (by fail "a9") 1 ?_; exact rfl) | (refine ltB (by fail "a9") 2 ?_; exact rfl) | (refine ltB (by fail "a9") 3 ?_; exact rfl) | (refine ltB (by fail "a9") 4 ?_; exact rfl) | (refine ltB (by fail "a9") 5 ?_; exact rfl) | (refine ltB (by fail "a9") 6 ?_; exact rfl) | (refine ltB (by fail "a9") 7 ?_; exact rfl) | (refine ltB (by fail "a9") 8 ?_; exact rfl) | (refine ltB (by fail "a9") 9 ?_; exact rfl) | (refine ltB (by fail "a9") 10 ?_; exact rfl) | (refine ltB (by fail "a9") 11 ?_; exact rfl) | (refine ltB (by fail "a9") 12 ?_; exact rfl) | (refine ltB (by fail "a9") 13 ?_; exact rfl))
  k_with "rooms9" => (fail "w4")
  k_with "w4" => (first | (refine rl2 (by fail "r9") ?_; exact rfl) | (refine rl1 (by fail "r9") ?_; exact rfl) | (refine rl3 (by fail "r9") ?_; exact rfl) | (refine rl0 (by fail "r9") ?_; exact rfl) | (refine rl4 (by fail "r9") ?_; exact rfl) | (refine rm2 (by fail "r9") ?_; exact rfl) | (refine rm1 (by fail "r9") ?_; exact rfl) | (refine rm3 (by fail "r9") ?_; exact rfl) | (refine rm0 (by fail "r9") ?_; exact rfl) | (refine rm4 (by fail "r9") ?_; exact rfl))
  k_with "k_ne" => (fail "w5")
  k_with "w5" => (refine neN ?_; (try dsimp only); first | fail "a9" | (refine Ne.symm ?_; fail "a9") | exact Nat.ne_of_lt (by fail "a9") | exact Nat.ne_of_gt (by fail "a9") | k_extra "offs9" | (refine Ne.symm ?_; first | k_extra "offs9") | ((try simp only [LCg.Off1, and_true] at *); omega))
  k_with "k_mem" => (fail "w6")
  k_with "w6" => (first | fail "a9" | k_extra "mem9")
  k_with "k_memK" => (first | k_extra "mem9")
  k_with "is_list" => (fail "w7")
  k_with "w7" => (exact News.isList (by fail "a9") (by k_mem))
  k_with "ktr_room" => (fail "w8")
  k_with "w8" => ((try dsimp only [depth_under_make, depth_under_kw, depth_in1, depth_deeper, depth_caller]); (try dsimp only [ktrTop]); first | decide | k_extra "rooms9")
  k_with "units_room" => (fail "w9")
  k_with "w9" => ((try dsimp only [units_in1, units_deeper, Around.mark_units, units_caller]); (try dsimp only [ktrTop]); first | decide | k_extra "rooms9")
  k_with "l_idx" => ((k_extra "c9"); omega)
  k_with "l_fit" => ((k_extra "c9"); omega)
  k_with "ktr_units" => (fail "w10")
  k_with "w10" => ((try dsimp only [units_in1, units_deeper, Around.mark_units, units_caller]); (try dsimp only [ktrTop]); first | decide | k_extra "rooms9")
  k_with "execs cons" => (fail "w11")
  k_with "w11" => (k_here; first | k_gentoks | ((try dsimp only); (try k_gentoks); (try (with_reducible refine letA ?_; intro A9)); (try ((with_reducible rename Fr _ _ _ _ => F9); refine letF F9 ?_; clear F9; intro m9 F9)); (first | (with_reducible refine execHidB fun q9 hq9 => ?_) | (refine hideQ fun q9 hq9 => ?_; with_reducible refine execHidB fun q9 hq9 => ?_))))
  k_with "Hid" => (fail "w12")
  k_with "w12" => (first | ((with_reducible refine unhidNextT (by fail "a9") ?_); intro tk9; (try dsimp only)) | ((with_reducible refine unhidNext (by fail "a9") ?_); (try dsimp only)) | ((with_reducible refine unhidRet (by fail "a9") ?_); (try dsimp only)) | ((with_reducible refine unhid (by fail "a9") ?_); (try dsimp only [Behind])))
  k_with "spliced" => (fail "w13")
  k_with "w13" => (k_here; (with_reducible show wpAny _ _ (spliced (backTo _ (starEach (_ :: _ :: _ :: _) _))) _ _ _); k_dflt (refine' args_cons ?_ ?_; rotate_left; rfl))
  k_with "spliced" => (fail "w14")
  k_with "w14" => (k_here; k_dflt ((refine' argsF ?_ ?_ ?_ ?_); (rotate_left 4); k_asm; rfl; rfl); (try dsimp only [List.nil_append, List.cons_append]))
  k_with "eval Call" => (fail "w15")
  k_with "w15" => (k_here; (with_reducible show wpAny _ _ (eval (PySem.Expr.Call (PySem.Expr.Name _ _) (_ :: _) [] _) _) _ _ _); first | (k_dflt ((refine' callF ?_ ?_ ?_ ?_ ?_ ?_ ?_ ?_ ?_ ?_ ?_); (rotate_left 10); k_asm; k_asm; k_asm; k_is; k_is; rfl; rfl; rfl; rotate_left; decide; rfl)) | k_compRoot | k_dflt (refine' Call_ ?_))
  k_with "eval Name" => (fail "w16")
  k_with "w16" => (k_here; (with_reducible show wpAny _ _ (eval (PySem.Expr.Name _ _) (envOf _ _ _ _ _)) _ _ _); first | k_dflt ((refine' nameX_K ?_ ?_ ?_ ?_ ?_ ?_ ?_ ?_); (rotate_left 8); k_asm; k_asm; k_asm; k_is; rotate_left; rfl; rfl; decide) | k_dflt ((refine' nameX_L ?_ ?_ ?_ ?_ ?_ ?_); (rotate_left 3); k_asm; rfl; rotate_left; rfl; rfl; decide))
  k_with "callWith ref" => (fail "w17")
  k_with "w17" => (k_here; (with_reducible show wpAny _ _ (callWith _ _ _ (backTo _ (starEach [] _)) []) _ _ _); k_dflt (refine callF0 (by fail "a9") (by fail "a9") (by k_is) ?_))
  k_with "k_lt" => skip
  k_with "ktr_enter" => (fail "w18")
  k_with "w18" => (refine enterK (by assumption) (by assumption) (by k_is) (by k_is) (by ktr_room) (by exact BindsTo.of_eq rfl) (by exact locs rfl) ?_ (by exact rfl) (by exact rfl) (by exact rfl) (by decide); k_whole; intro g' L' h' F' N' B' X' T' lN' gN' tk9'; (try dsimp only); (try k_fold))
  k_with "getMethod type:Exception" => (fail "w19")
  k_with "w19" => (k_here; (with_reducible refine' method_type ?_ ?_ metaExc ?_ ?_ ?_ ?_); (rotate_left 5); k_dflt (k_asm; k_asm; decide +kernel; k_is; k_handed))
  k_with "call builtin:Exception.__init__" => (fail "w20")
  k_with "w20" => (k_here; k_dflt (refine excInit51 (by k_asm) (by k_asm) (by k_asm) (by intro p hp; nomatch hp) ?_); intro h' t' F' N' ne'; (try k_sweep))
  k_with "setAttr ref" => (fail "w21")
  k_with "w21" => (k_here; k_dflt (first | (refine excSet0 (by k_asm) (by k_asm) (by k_asm) (tx51 _) (by assumption) (by k_put) (by exact Nat.le_of_ble_eq_true rfl) ?_; intro h' d' F' N' ne2'; (try k_sweep)) | (refine excSet1 (by k_asm) (by k_asm) (by k_asm) (sq51 _) (by assumption) rfl (by k_put) (by exact Nat.le_of_ble_eq_true rfl) ?_; intro h' F' N'; (try k_sweep))))
  trivial
abbrev txD (h1 : Int) (k1 : Tok) (x : Str) (t1 : Tok) : Obj := dictOf [⟨h1, .str (Str.ofString "text") k1, .str x t1⟩] 1
theorem init28 {prog p : Program} {w : World} {loose : List Str} {mean : ExcName → Option Value} {mg mb : Str → Option Value} {dp un : Nat} {gd : Option (List Code)} {cn : Str} {cs : Scope} {a : Addr} {ccd : Value} {outer : List Env} {A₀ : Around} {base h₀ : Heap} {L : Addr} {m : Str → Option Value} {s : Shared} {Q E : Value → Shared → Prop} {cl : List (Str × Addr)}
    {e t0 : Addr} {x : Str} {t1 : Tok}
    (S : Site w p loose mean mg mb cs outer A₀ base h₀ L m [(e, excObj 51 t0 none)] s.heap)
    (hdp : dp + 4 < recursionLimit) (hun : un + 40 < cLine)
    (h : ∀ h' dx t tk h1 k1, Fr h₀ L h' m → News h₀ L h' [(dx, txD h1 k1 x t1), (e, excObj 51 t (some dx)), (t, tupObj [.str x t1])] → (∀ p ∈ [(e, excObj 51 t (some dx)), (t, tupObj [.str x t1])], p.1 ≠ dx) → (∀ p ∈ [(e, excObj 51 t none)], p.1 ≠ t) → Q .none { s with heap := h', toks := tk }) :
    wpAny (model prog w) (ktrTop dp un gd cn cs L a ccd cl outer) (call (.ref 28) [.ref e, .str x t1]) Q E s := by
  have hsub : ∀ q ∈ [(e, excObj 51 t0 none)], q ∈ [(e, excObj 51 t0 none)] := fun q hq => hq
  ktr_enter
  k_steps
  exact leaveE_ (by assumption) (by assumption) ⟨_, fun q hq => .inl hq, fun F9 N9 => h _ _ _ _ _ _ F9 N9 (by assumption) (by assumption)⟩
/-- a BadPosition that stands beside a ledger -/
structure BadIs (g h' : Heap) (e dx t : Addr) (x : Str) (led : List (Addr × Obj)) : Prop where
  he : h'.get? e = some (excObj 51 t (some dx))
  ht : ∃ tt, h'.TupAt t [.str x tt]
  ge : g.get? e = none
  gt : g.get? t = none
  hn : ∀ q ∈ led, q.1 ≠ e ∧ q.1 ≠ t
abbrev badD (h1 h2 : Int) (k1 k2 : Tok) (x : Str) (t1 : Tok) (sq : Int) (t2 : Tok) (ep : Nat) : Obj :=
  dictOf [⟨h1, .str (Str.ofString "text") k1, .str x t1⟩, ⟨h2, .str (Str.ofString "square") k2, .int sq t2⟩] ep
theorem bad_end {g h₀ h' : Heap} {L L' e dx t : Addr} {x : Str} {t1 : Tok} {sq : Int} {t2 : Tok} {h1 h2 : Int} {k1 k2 : Tok} {news : List (Addr × Obj)}
    (N' : News g L' h' [(dx, badD h1 h2 k1 k2 x t1 sq t2 2), (e, excObj 51 t (some dx)), (t, tupObj [.str x t1])]) (N9 : News h₀ L h' ([(dx, badD h1 h2 k1 k2 x t1 sq t2 2), (e, excObj 51 t (some dx)), (t, tupObj [.str x t1])] ++ news))
    (o1 : LCg.Off1 e news) (gN : ∀ q ∈ news, g.get? q.1 = some q.2) (n1 : ∀ p ∈ [(e, excObj 51 t (some dx)), (t, tupObj [.str x t1])], p.1 ≠ dx) (n2 : ∀ p ∈ [(e, excObj 51 t none)], p.1 ≠ t) :
    News h₀ L h' ((dx, badD h1 h2 k1 k2 x t1 sq t2 2) :: news) ∧ LCg.Off1 dx news ∧ BadIs h₀ h' e dx t x ((dx, badD h1 h2 k1 k2 x t1 sq t2 2) :: news) := by
  have off : ∀ D o, (D, o) ∈ [(dx, badD h1 h2 k1 k2 x t1 sq t2 2), (e, excObj 51 t (some dx)), (t, tupObj [.str x t1])] → ∀ q ∈ news, q.1 ≠ D := fun D o hm q hq z => by
    have e2 := gN q hq
    rw [z, (N' _ hm).2.2] at e2
    cases e2
  have m1 := List.mem_cons_self (a := (dx, badD h1 h2 k1 k2 x t1 sq t2 2)) (l := [(e, excObj 51 t (some dx)), (t, tupObj [.str x t1])])
  have m2 : (e, excObj 51 t (some dx)) ∈ [(dx, badD h1 h2 k1 k2 x t1 sq t2 2), (e, excObj 51 t (some dx)), (t, tupObj [.str x t1])] := List.mem_cons_of_mem _ List.mem_cons_self
  have m3 : (t, tupObj [.str x t1]) ∈ [(dx, badD h1 h2 k1 k2 x t1 sq t2 2), (e, excObj 51 t (some dx)), (t, tupObj [.str x t1])] := List.mem_cons_of_mem _ (List.mem_cons_of_mem _ List.mem_cons_self)
  refine ⟨fun q hq => N9 q ?_, off1_of (off _ _ m1), ⟨(N' _ m2).1, ⟨t1, _, _, (N' _ m3).1, rfl, rfl⟩, (N9 _ (List.mem_append_left _ m2)).2.2, (N9 _ (List.mem_append_left _ m3)).2.2, fun q hq => ?_⟩⟩
  · rcases List.mem_cons.mp hq with rfl | hq
    · exact List.mem_append_left _ m1
    · exact List.mem_append_right _ hq
  · rcases List.mem_cons.mp hq with rfl | hq
    · exact ⟨Ne.symm (n1 _ List.mem_cons_self), Ne.symm (n1 _ (List.mem_cons_of_mem _ List.mem_cons_self))⟩
    · exact ⟨of_off1 o1 q hq, off _ _ m3 q hq⟩
theorem wordsXW1 : True := by
  k_with "call ref" => (fail "w22")
  k_with "w22" => (k_here; (with_reducible show wpAny _ _ (call (Value.ref 28) _) _ _ _); k_dflt (refine init28 ⟨by k_asm, by k_asm, by k_asm, by k_asm, by k_asm, by first | exact rfl | assumption⟩ (by ktr_room) (by ktr_units) ?_); intro h' d' t' tk' e' k' F' N' n1' n2'; (try k_sweep))
  trivial
theorem bad_call {prog p : Program} {w : World} {loose : List Str} {mean : ExcName → Option Value} {mg mb : Str → Option Value} {dp un : Nat} {gd : Option (List Code)} {cn : Str} {cs : Scope} {a : Addr} {ccd : Value} {outer : List Env} {A₀ : Around} {base h₀ : Heap} {L : Addr} {m : Str → Option Value} {s : Shared} {Q E : Value → Shared → Prop} {news : List (Addr × Obj)} {cl : List (Str × Addr)} {x : Str} {t1 t2 : Tok} {sq : Int}
    (S : Site w p loose mean mg mb cs outer A₀ base h₀ L m news s.heap) (hdp : dp + 6 < recursionLimit) (hun : un + 80 < cLine)
    (h : ∀ h' e dx t tk h1 h2 k1 k2, Fr h₀ L h' m → News h₀ L h' ((dx, badD h1 h2 k1 k2 x t1 sq t2 2) :: news) → LCg.Off1 dx news → BadIs h₀ h' e dx t x ((dx, badD h1 h2 k1 k2 x t1 sq t2 2) :: news) → Q (.ref e) { s with heap := h', toks := tk }) :
    wpAny (model prog w) (ktrTop dp un gd cn cs L a ccd cl outer) (call (.ref 51) [.str x t1, .int sq t2]) Q E s := by
  refine' enterE S ?k1 ?k2 ?k3 ?k4 ?k5 ?k6 ?k7 ?_ ?c1 ?c2 ?c3 ?c4
  case k1 => exact Nat.le_of_ble_eq_true rfl
  case k2 => k_is
  case k3 => k_is
  case k4 => k_is
  case k5 => ktr_room
  case k6 => exact fun _ _ => BindsTo.of_eq rfl
  case k7 => exact fun _ => locs rfl
  case c1 => exact rfl
  case c2 => exact rfl
  case c3 => exact rfl
  case c4 => decide
  k_whole
  intro e' t0' g' L' h' tk' o1' F' N' B' X' T' lN' gN'
  try dsimp only
  try k_fold
  k_steps
  refine leaveE_ (by assumption) (by assumption) ⟨rfl, _ ++ news, fun q hq => List.mem_append.mp hq, fun F9 N9 => ?_⟩
  obtain ⟨a1, a2, a3⟩ := bad_end (by assumption) N9 (by assumption) (by assumption) (by assumption) (by assumption)
  exact h _ _ _ _ _ _ _ _ _ F9 a1 a2 a3
end Mine
end

section
namespace Mine
theorem resetE2 : True := by (k_with_none; w_top off); trivial
open PySem.W.X
/-- the object at e has its own table at dx -/
def CtxNone (o : Obj) : Prop := ∃ ws, o.data = .fields ws ∧ ws[2]? = some .none
/-- .. and flies in no other's wake -/
def HasD (h : Heap) (e dx : Addr) : Prop := ∃ o, h.get? e = some o ∧ o.dict = some dx ∧ CtxNone o
/-- a tree that calls nothing and turns no object's table -/
def DK {α : Type} : Sem α → Prop
  | .pure _ => True
  | .raise _ => True
  | .unsupported _ => True
  | .finish _ => True
  | .rule _ k => ∀ x, DK (k x)
  | .at _ k => ∀ x, DK (k x)
  | .load _ _ k => ∀ x, DK (k x)
  | .update _ _ f k => (∀ o, o.isFreed = false → (f o).isFreed = false ∧ (f o).dict = o.dict ∧ (CtxNone o → CtxNone (f o))) ∧ ∀ x, DK (k x)
  | .alloc _ k => ∀ x, DK (k x)
  | .loadIfAlive _ k => ∀ x, DK (k x)
  | .point _ k => ∀ x, DK (k x)
  | .register _ _ => True
  | .fresh k => ∀ x, DK (k x)
  | .ask k => ∀ x, DK (k x)
  | .choose _ _ k => ∀ x, DK (k x)
  | .os _ _ k => ∀ x, DK (k x)
  | .call .. => False
  | .handled _ k => ∀ x, DK (k x)
  | .newGen _ _ => False
  | .genState _ _ => False
  | .resume .. => False
  | .yield .. => True
  | .stack k => ∀ x, DK (k x)
  | .fork _ _ => True
  | .thread k => ∀ x, DK (k x)
  | .await .. => True
theorem dk_bind {α β : Type} {m : Sem α} {f : α → Sem β} (h : DK m) (hf : ∀ a, DK (f a)) : DK (m.bind f) := by
  induction m with
  | pure a => exact hf a
  | raise => trivial
  | unsupported => trivial
  | finish => trivial
  | register => trivial
  | yield => trivial
  | fork => trivial
  | await => trivial
  | call => exact h.elim
  | newGen => exact h.elim
  | genState => exact h.elim
  | resume => exact h.elim
  | update a p g k ih => exact ⟨h.1, fun x => ih x (h.2 x)⟩
  | rule _ k ih => exact fun x => ih x (h x)
  | «at» _ k ih => exact fun x => ih x (h x)
  | load _ _ k ih => exact fun x => ih x (h x)
  | alloc _ k ih => exact fun x => ih x (h x)
  | loadIfAlive _ k ih => exact fun x => ih x (h x)
  | point _ k ih => exact fun x => ih x (h x)
  | fresh k ih => exact fun x => ih x (h x)
  | ask k ih => exact fun x => ih x (h x)
  | choose _ _ k ih => exact fun x => ih x (h x)
  | os _ _ k ih => exact fun x => ih x (h x)
  | handled _ k ih => exact fun x => ih x (h x)
  | stack k ih => exact fun x => ih x (h x)
  | thread k ih => exact fun x => ih x (h x)
theorem dk_bind' {α β : Type} {m : Sem α} {f : α → Sem β} (h : DK m) (hf : ∀ a, DK (f a)) : DK (m >>= f) := dk_bind h hf
theorem dk_wp {α : Type} {M : Model} {Γ : PySem.Ctx} {t : Sem α} {Q : α → Pos → Shared → Prop} {E : Value → Pos → Shared → Prop} {e dx : Addr} (h : DK t) : ∀ {p : Pos} {s : Shared}, HasD s.heap e dx → Sem.wp M Γ t Q E p s →
    Sem.wp M Γ t (fun a p' s' => Q a p' s' ∧ HasD s'.heap e dx) E p s := by
  induction t with
  | pure a => exact fun hd hw => ⟨hw, hd⟩
  | raise => exact fun _ hw => hw
  | unsupported => exact fun _ hw => hw
  | finish => exact fun _ hw => hw
  | register => exact fun _ hw => hw
  | yield => exact fun _ hw => hw
  | fork => exact fun _ hw => hw
  | await => exact fun _ hw => hw
  | call => exact h.elim
  | newGen => exact h.elim
  | genState => exact h.elim
  | resume => exact h.elim
  | update a p g k ih =>
    intro p' s hd hw
    refine ⟨hw.1, ih () (h.2 ()) ?_ hw.2⟩
    obtain ⟨o, ho, hdx⟩ := hd
    by_cases q : a = e
    · subst q
      have z := h.1 o (Heap.get?_some_iff.mp ho).2
      exact ⟨g o, Heap.get?_update_self g ho z.1, z.2.1.trans hdx.1, z.2.2 hdx.2⟩
    · exact ⟨o, (Heap.get?_update_other _ _ q).trans ho, hdx⟩
  | alloc o k ih =>
    intro p' s hd hw
    obtain ⟨o', ho, hdx⟩ := hd
    exact ih _ (h _) ⟨o', Heap.get?_push_of_some _ ho, hdx⟩ hw
  | load _ _ k ih =>
    intro p' s hd hw
    obtain ⟨o, ho, hw⟩ := hw
    exact ⟨o, ho, ih _ (h _) hd hw⟩
  | choose _ _ k ih =>
    intro p' s hd hw
    exact ⟨hw.1, ih _ (h _) hd hw.2⟩
  | rule _ k ih => exact fun hd hw => ih _ (h _) hd hw
  | «at» _ k ih => exact fun hd hw => ih _ (h _) hd hw
  | loadIfAlive _ k ih => exact fun hd hw => ih _ (h _) hd hw
  | point _ k ih => exact fun hd hw => ih _ (h _) hd hw
  | fresh k ih => exact fun {p' s} hd hw => ih _ (h _) (s := { s with toks := s.toks + 1 }) hd hw
  | ask k ih => exact fun hd hw => ih _ (h _) hd hw
  | os q _ k ih => exact fun {p' s} hd hw => ih _ (h _) (s := { s with os := (Os.step s.os q).1 }) hd hw
  | handled _ k ih => exact fun hd hw => ih _ (h _) hd hw
  | stack k ih => exact fun hd hw => ih _ (h _) hd hw
  | thread k ih => exact fun hd hw => ih _ (h _) hd hw
theorem keepD {α : Type} {M : Model} {A : Around} {t : Sem α} {Q : α → Shared → Prop} {E : Value → Shared → Prop} {s : Shared} {e dx : Addr} (h : DK t) (hd : HasD s.heap e dx) (hw : wpAny M A t Q E s) :
    wpAny M A t (fun a s' => Q a s' ∧ HasD s'.heap e dx) E s := fun Γ p hΓ => dk_wp h hd (hw Γ p hΓ)
theorem with_dict {M : Model} {A : Around} {t : Sem Unit} {Q : Unit → Shared → Prop} {E : Value → Shared → Prop} {s : Shared} {e dx : Addr} {P : Heap → Prop} (h : DK t) (hd : HasD s.heap e dx)
    (hL : ∀ Q₁ : Unit → Shared → Prop, (∀ h', P h' → Q₁ () { s with heap := h' }) → wpAny M A t Q₁ E s) (k : ∀ h', P h' → HasD h' e dx → Q () { s with heap := h' }) : wpAny M A t Q E s := by
  refine wpAny_mono (keepD h hd (hL (fun _ s' => ∃ h', s' = { s with heap := h' } ∧ P h') fun h' hp => ⟨h', rfl, hp⟩)) (fun a s' q => ?_) fun _ _ x => x
  obtain ⟨⟨h', rfl, hp⟩, hd'⟩ := q
  exact k h' hp hd'
theorem freed_fields (f : Array Value → Array Value) (hf : ∀ ws, ws[2]? = some .none → (f ws)[2]? = some .none) (o : Obj) : o.isFreed = false → (Obj.mapFields f o).isFreed = false ∧ (Obj.mapFields f o).dict = o.dict ∧ (CtxNone o → CtxNone (Obj.mapFields f o)) := by
  obtain ⟨c, d, dt, sl⟩ := o
  cases dt <;> intro h <;> refine ⟨h, rfl, fun hc => ?_⟩ <;> obtain ⟨ws, e, hw⟩ := hc <;> first | cases e; exact ⟨_, rfl, hf _ hw⟩ | cases e
theorem dk_fieldsOf (v : Value) : DK (fieldsOf v) := by
  unfold fieldsOf
  cases v <;> try trivial
  refine dk_bind' (fun o => trivial) fun o => ?_
  split <;> trivial
theorem dk_field (v : Value) (i : Nat) : DK (field v i) := by
  unfold field
  refine dk_bind' (dk_fieldsOf v) fun o => ?_
  split <;> trivial
theorem dk_setField (v : Value) (i : Nat) (x : Value) (hi : i ≠ 2 := by decide) : DK (setField v i x) := by
  unfold setField
  cases v <;> try trivial
  show DK (updateField _ i x)
  unfold updateField
  refine dk_bind' (fun o => trivial) fun o => ?_
  split
  · split
    · exact ⟨fun o => freed_fields _ (fun ws hw => by simp only [Array.set!_eq_setIfInBounds, Array.getElem?_setIfInBounds]; rw [if_neg hi]; exact hw) o, fun _ => trivial⟩
    · trivial
  · trivial
theorem dk_setFlight (v : Value) (f : Option Addr) : DK (setFlight v f) := by
  unfold setFlight
  refine dk_bind' (dk_field v 1) fun t => ?_
  split
  · exact dk_setField _ _ _
  · trivial
theorem dk_ready : ∀ l : List Env, DK (readyFrames l)
  | [] => trivial
  | env :: outer => by
    unfold readyFrames
    split
    · refine dk_bind' (fun o => trivial) fun o => ?_
      split
      · trivial
      · refine dk_bind' ?_ fun b => dk_bind' ?_ fun c => dk_bind' ?_ fun _ => dk_ready outer
        · unfold behindIsImport
          split
          · trivial
          · split
            · trivial
            · exact dk_bind' (dk_field _ _) fun _ => trivial
        · unfold keptBack underTheClaimsCaller
          split
          · split
            · trivial
            · refine dk_bind' ?_ fun _ => trivial
              exact dk_bind' (fun _ => trivial) fun _ => trivial
          · trivial
        · exact ⟨fun o h => ⟨by obtain ⟨c, d, dt, sl⟩ := o; cases dt <;> first | rfl | exact h, rfl, fun hc => by obtain ⟨ws, e, hw⟩ := hc; obtain ⟨c, d, dt, sl⟩ := o; cases e; exact ⟨ws, rfl, hw⟩⟩, fun _ => trivial⟩
    · trivial
theorem dk_frameOf (env : Env) : DK (PySem.frameOf env) := by
  unfold PySem.frameOf frameEnvs
  refine dk_bind' (dk_bind' (fun _ => trivial) fun _ => trivial) fun l => dk_bind' ?_ fun r => ?_
  · unfold frameObject
    split
    · trivial
    · exact dk_bind' (dk_ready _) fun _ => trivial
  · split <;> trivial
theorem dk_newEntry (a b c d e : Value) (pl : List Value) : DK (EntryCells.newEntry a b c d e pl) := by
  unfold EntryCells.newEntry newFields newObj
  generalize ([a, b, c, d, e] ++ if pl.isEmpty then List.replicate 6 Value.none else pl) = l
  have base : DK (newObjAsIs (Value.type "traceback") (Data.fields l.toArray)) := by
    unfold newObjAsIs
    exact dk_bind' (fun _ => trivial) fun _ => trivial
  dsimp only
  split
  · exact dk_bind' trivial fun _ => base
  · exact base
theorem dk_noteFrame (e : Value) (env : Env) : DK (noteFrame e env) := by
  unfold noteFrame
  split
  · refine dk_bind' (dk_field _ _) fun head => ?_
    have last : DK (do setField e 1 (← EntryCells.newEntry head (← PySem.frameOf env) .none (rawInt ‹Addr›) .none (← entryPlaceOf ‹Addr› (head != .none)))) := by
      refine dk_bind' (dk_frameOf env) fun _ => dk_bind' ?_ fun _ => dk_bind' (dk_newEntry _ _ _ _ _ _) fun _ => dk_setField _ _ _
      unfold entryPlaceOf
      refine dk_bind' (fun _ => trivial) fun _ => ?_
      split <;> trivial
    split
    · refine dk_bind' (dk_field _ _) fun _ => ?_
      split
      · trivial
      · exact dk_bind' (dk_setField _ _ _) fun _ => last
    · exact last
  · trivial
theorem dk_leaving (e : Value) (env : Env) : DK (leaving env e) := dk_bind' (dk_noteFrame e env) fun _ => dk_setFlight e none
end Mine
end

section
namespace Mine
theorem resetE3 : True := by (k_with_none; w_top off); trivial
open PySem.W.X
/-- the object of a BadPosition -/
abbrev badObj (t dx : Addr) : Obj := { cls := .ref 51, dict := some dx, data := .fields #[.ref t, .none, .none, .none, .bool false, .none] }
/-- where a BadPosition is about to fly -/
def BadE (w : World) (E : Value → Shared → Prop) (v : Value) (s₁ : Shared) : Prop :=
  ∃ e dx t, v = .ref e ∧ (hd0.heap_1 w.params).In s₁.heap ∧ s₁.heap.get? e = some (badObj t dx) ∧ E (.ref e) s₁
theorem cls51 {w : World} {h : Heap} (X : (hd0.heap_1 w.params).In h) : ∃ nm qn N bs bm hdct sn sub ab col dd k0 k1 k2 k3 k5 newId,
    h.get? 51 = some (excClassObj nm qn 51 N bs bm hdct sn sub ab col dd k0 k1 k2 k3 k5 newId) ∧ bm.contains (.type "BaseException") = true ∧ bm.contains (.type "BaseException") = true :=
  kts_cls X (by kts_isx)
theorem raiseStmt_bad {prog : Program} {w : World} {A : Around} {E : Value → Shared → Prop} {env : Env} {s : Shared} {x : Sem Value} {Q : Flow → Shared → Prop} (hh : A.handled = none)
    (h : wpAny (model prog w) A x (BadE w E) E s) : wpAny (model prog w) A (raiseStmt env (some x) none) Q E s := by
  unfold raiseStmt
  refine wpAny_bind (wpAny_mono h (fun v s₁ h₁ => ?_) fun _ _ x => x)
  obtain ⟨e, dx, t, rfl, X, he, hE⟩ := h₁
  obtain ⟨nm, qn, N, bs, bm, hdct, sn, sub, ab, col, dd, k0, k1, k2, k3, k5, newId, hC, hb, _⟩ := cls51 X
  have hcB : (Value.ref 51 :: bm).contains (.type "BaseException") = true := by rw [List.contains_cons, hb, Bool.or_true]
  obtain ⟨hp, g, d, tk, os⟩ := s₁
  repeat (first | with_reducible refine wpAny_loadPart_at he ?_ | with_reducible refine wpAny_loadPart_at hC ?_ | (with_reducible refine wpAny_isSubtype_exc hC ?_; rw [hcB]) | wp_step)
  exact wpAny_raiseNew_none hh hE
theorem Raise_bad {prog : Program} {w : World} {A : Around} {E : Value → Shared → Prop} {env : Env} {s : Shared} {x : PySem.Expr} {pos : Pos} {Q : Flow → Shared → Prop} (hh : A.handled = none)
    (h : wpAny (model prog w) A (eval x env) (BadE w E) E s) : wpAny (model prog w) A (exec (.Raise (some x) none pos) env) Q E s := by
  rw [arm_exec_Raise]
  refine wpAny_bind (wpAny_standAt ?_)
  simp only [evalOpt, Option.map]
  exact raiseStmt_bad hh (wpAny_bind (wpAny_mono h (fun v s₁ h₁ => wpAny_bind (wpAny_standAt (wpAny_pure h₁))) fun _ _ x => x))
section
variable {M : Model} {A : Around} {E : Value → Shared → Prop} {s' : Shared} {base g g₂ : Heap} {outer : List Env} {L a e t dx : Addr} {m : Str → Option Value} {name : Str} {scope : Scope} {cd : Value} {Q : Unit → Shared → Prop} {news : List (Addr × Obj)} {vs : List Value}
/-- a BadPosition leaves the frame that raised it -/
theorem leave_bad (K : Below A base outer g) (F : Fr g L s'.heap m) (N : News g L s'.heap news) (he : s'.heap.get? e = some (badObj t dx)) (ht : s'.heap.TupAt t vs) (ge : g.get? e = none) (gt : g.get? t = none) (hn : ∀ q ∈ news, q.1 ≠ e ∧ q.1 ≠ t)
    (hQ : ∀ h', (RaisedS base g outer e (.ref 51) t vs news h' ∧ g.UpToSlots h') → HasD h' e dx → Q () { s' with heap := h' }) (hk : scope.kind = .function := by rfl) :
    wpAny M (A.deeper (envOf name scope L a cd)) (leaving (envOf name scope L a cd) (.ref e)) Q E s' := by
  refine with_dict (P := fun h' => RaisedS base g outer e (.ref 51) t vs news h' ∧ g.UpToSlots h') (dk_leaving _ _) ⟨_, he, rfl, _, rfl, rfl⟩ (fun Q₁ hQ₁ => ?_) hQ
  have K' := K.push (name := name) (a := a) (cd := cd) F hk
  have eL : e ≠ L := fun z => by
    obtain ⟨oL, es, ep, hL, hLd, _⟩ := F.ns
    rw [← z, he] at hL
    cases hL
    cases hLd
  have tL : t ≠ L := fun z => by
    obtain ⟨oL, es, ep, hL, hLd, _⟩ := F.ns
    obtain ⟨o, n, ho, _, hd⟩ := ht
    rw [← z, ho] at hL
    cases hL
    rw [hd] at hLd
    cases hLd
  have be : base.get? e = none := fresh_of_stays K.stays ge
  have bt : base.get? t = none := fresh_of_stays K.stays gt
  have hfs : ∀ b, b ∈ (envOf name scope L a cd :: outer).filterMap (·.frame) → base.get? b = none := fun b hm => (K'.frames.mem hm).1
  have gfs : ∀ b, b ∈ outer.filterMap (·.frame) → base.get? b = none := fun b hm => (K.frames.mem hm).1
  let as := e :: t :: (envOf name scope L a cd :: outer).filterMap (·.frame)
  have hin : ∀ env ∈ (envOf name scope L a cd :: outer), ∀ b, env.frame = some b → b ∈ as := fun env he' b hb => List.mem_cons_of_mem _ (List.mem_cons_of_mem _ (List.mem_filterMap.mpr ⟨env, he', hb⟩))
  have mem_as : ∀ b, b ∈ as → b = e ∨ b = t ∨ b ∈ (envOf name scope L a cd :: outer).filterMap (·.frame) := fun b hb => by
    rcases List.mem_cons.mp hb with hb | hb
    · exact .inl hb
    · rcases List.mem_cons.mp hb with hb | hb
      · exact .inr (.inl hb)
      · exact .inr (.inr hb)
  have st : base.StaysIn (hideAll s'.heap as) := fun b o q => hideAll_get _ (K'.stays b o q) fun hm => by
    rcases mem_as b hm with z | z | z
    · rw [z, be] at q; cases q
    · rw [z, bt] at q; cases q
    · rw [hfs b z] at q; cases q
  have sg : ∀ b o, g.get? b = some o → b ∉ outer.filterMap (·.frame) → (hideAll s'.heap as).get? b = some o := fun b o q nm => hideAll_get _ (F.keep b o q) fun hm => by
    rcases mem_as b hm with z | z | z
    · rw [z, ge] at q; cases q
    · rw [z, gt] at q; cases q
    · rcases kts_mem z with z | z
      · rw [z, kts_self F] at q; cases q
      · exact nm z
  have hl : ∀ q ∈ news, (hideAll s'.heap as).get? q.1 = some q.2 ∧ g.get? q.1 = none ∧ base.get? q.1 = none := fun q hq => by
    refine ⟨hideAll_get _ (N q hq).1 fun hm => ?_, (N q hq).2.2, fresh_of_stays K.stays (N q hq).2.2⟩
    rcases mem_as _ hm with z | z | z
    · exact (hn q hq).1 z
    · exact (hn q hq).2 z
    · rcases kts_mem z with z | z
      · exact (N q hq).2.1 z
      · obtain ⟨_, o, ho, _⟩ := K.frames.mem z
        rw [(N q hq).2.2] at ho
        cases ho
  refine wpAny_leaving_firstW (a0 := .ref t) K'.stack (funFrames_hide K'.frames hin) rfl he (fun b o q => of_hideAll _ q) (hideAll_none _ List.mem_cons_self) rfl rfl rfl fun h' hL => ?_
  obtain ⟨k1, ⟨_, _, k2⟩, k3, k4⟩ := hL
  exact hQ₁ h' ⟨⟨⟨_, st, sg, hl, ⟨k1, hideAll_none _ List.mem_cons_self, k2, k3⟩, hideAll_none _ (List.mem_cons_of_mem _ List.mem_cons_self)⟩, ht.of_slots k4⟩, (Heap.UpToSlots.of_keeps F.keep).trans k4⟩
/-- and a frame above -/
theorem leave_badOn (K : Below A base outer g) (F : Fr g L g₂ m) (R : RaisedS base g₂ (envOf name scope L a cd :: outer) e (.ref 51) t vs news s'.heap) (hd : HasD s'.heap e dx) (hsm : g₂.UpToSlots s'.heap)
    (hQ : ∀ h', (RaisedS base g outer e (.ref 51) t vs news h' ∧ g.UpToSlots h') → HasD h' e dx → Q () { s' with heap := h' }) :
    wpAny M (A.deeper (envOf name scope L a cd)) (leaving (envOf name scope L a cd) (.ref e)) Q E s' :=
  with_dict (P := fun h' => RaisedS base g outer e (.ref 51) t vs news h' ∧ g.UpToSlots h') (dk_leaving _ _) hd (fun Q₁ hQ₁ => leave_onS K F R hsm fun h' r _ u => hQ₁ h' ⟨r, u⟩) hQ
end
section
variable {prog : Program} {w : World} {A₀ : Around} {E : Value → Shared → Prop} {s' : Shared} {base g g₀ G : Heap} {outer : List Env} {L a e t dx : Addr} {m : Str → Option Value} {name : Str} {scope : Scope} {cd : Value}
  {vs : List Value} {n x : Str} {b₀ : Stmt} {suite : List Stmt} {pos np : Pos} {rest : List PySem.ExceptHandler} {Q : Flow → Shared → Prop} {news : List (Addr × Obj)}
  {p : Program} {loose : List Str} {mean : ExcName → Option Value} {mg mb : Str → Option Value}
/-- a BadPosition is caught by its own name and bound -/
theorem caught_bad (R : RaisedS base G (envOf name scope L a cd :: outer) e (.ref 51) t vs news s'.heap) (hdx : HasD s'.heap e dx) (F : Fr g L G m) (K : Below A₀ base outer g) (hsm : G.UpToSlots s'.heap) (XB : (hd0.heap_1 w.params).In base) (TB : Top p loose mean mg mb base)
    (D : KtsDicts (outer.filterMap (·.frame)) g) (T0 : KtsTurn (outer.filterMap (·.frame)) g₀ g)
    (ex : nsIn (hd0.heap_1 w.params) mainGlobals x = some (some (.ref 51)))
    (k : ∀ h' g' ws sl tk, KtsTurn (outer.filterMap (·.frame)) g₀ g' → Fr g' L h' (fun y => if y = n then some (.ref e) else m y) → News g' L h' ((e, ({ cls := .ref 51, dict := some dx, data := .fields ws, slots := sl } : Obj)) :: news) → Below A₀ base outer g' → (hd0.heap_1 w.params).In g' → Top p loose mean mg mb g' → KtsDicts (outer.filterMap (·.frame)) g' → ws[2]? = some .none →
      wpAny (model prog w) ((A₀.deeper (envOf name scope L a cd)).mark (some (.ref e))) (execs (b₀ :: suite) (envOf name scope L a cd))
        (fun f s₄ => wpAny (model prog w) (A₀.deeper (envOf name scope L a cd)) (do bindName (envOf name scope L a cd) n .none; unbindBehindTheSuite (envOf name scope L a cd) n pos) (fun _ s₅ => Q f s₅) E s₄)
        (AsSuiteRaised (model prog w) ((A₀.deeper (envOf name scope L a cd)).mark (some (.ref e))) (envOf name scope L a cd) n pos (notedBy (model prog w) ((A₀.deeper (envOf name scope L a cd)).mark (some (.ref e))) (envOf name scope L a cd) (cameBackBy (model prog w) (A₀.deeper (envOf name scope L a cd)) (envOf name scope L a cd) E)))
        { s' with heap := h', toks := tk })
    (hk : scope.kind = .function := by rfl) (hlo : (envOf name scope L a cd).kindOf n = some .local := by rfl) (hx : (envOf name scope L a cd).kindOf x = some .globalImplicit := by rfl) (hd : (x == ("__debug__" : Str)) = false := by decide) :
    wpAny (model prog w) (A₀.deeper (envOf name scope L a cd)) (noteFrame (.ref e) (envOf name scope L a cd))
      (fun _ s₂ => wpAny (model prog w) (A₀.deeper (envOf name scope L a cd)) (setFlight (.ref e) none) (fun _ s₃ =>
        wpAny (model prog w) (A₀.deeper (envOf name scope L a cd)) (handleBy (.ref e) (envOf name scope L a cd) (.ExceptHandler (some (.Name x np)) (some n) (b₀ :: suite) pos :: rest)) Q E s₃) E s₂) E s' := by
  refine letP ?_
  intro P9
  obtain ⟨⟨B, hB, hBG, hl, hfl, hnew⟩, htup⟩ := R
  have hL : B.get? L = none := by
    obtain ⟨_, ⟨L', _, hf, hn', _⟩, _⟩ := hfl.2.2.1
    obtain rfl : L = L' := Option.some.inj hf
    exact hn'
  refine with_dict (P := fun h' => Heap.HeldW B (envOf name scope L a cd :: outer) e (.ref 51) (.ref t) L h' ∧ s'.heap.UpToSlots h') (dk_noteFrame _ _) hdx (fun Q₁ hQ₁ => wpAny_looks_onW (Around.frames_deeper K.stack) rfl hfl fun h₄ a b => hQ₁ h₄ ⟨a, b⟩) fun h₄ r₄ d₄ => ?_
  have hheld₄ := r₄.1
  have hsm₄ := r₄.2
  refine with_dict (P := fun h' => Heap.FlyingW B (envOf name scope L a cd :: outer) e (.ref 51) (.ref t) h' ∧ h₄.UpToSlots h') (dk_setFlight _ _) d₄ (fun Q₁ hQ₁ => wpAny_landsW hheld₄ fun h₅ a b => hQ₁ h₅ ⟨a, b⟩) fun h₅ r₅ d₅ => ?_
  have hheld := r₅.1
  have hsm₅' := r₅.2
  have hsm₅ := hsm₄.trans hsm₅'
  refine letP ?_
  intro P8
  obtain ⟨g₅, T₅, F₅, K₅⟩ := kts_ground K F hBG hheld.1 (hsm.trans hsm₅)
  have X₅ : (hd0.heap_1 w.params).In g₅ := XB.keeps K₅.stays
  have P₅ : TopRead p loose mg mb g₅ := topRead_of (TB.keeps K₅.stays)
  obtain ⟨ob, hob, hobc⟩ := hheld.there
  obtain ⟨nm, q', N, bs, bm, hdct, sn, sub, ab, col, dd, k0, k1, k2, k3, k5, newId, hC, hbase, _⟩ := cls51 X₅
  have hC₅ := F₅.keep _ _ hC
  refine wpAny_handleBy_cons (codeAny_handlers_test (name_K F₅ X₅ P₅ ex ?_ hk hx hd)) (by intro q; cases q)
  refine wpAny_excMatches_sub_self hC₅ hob hobc hbase (codeAny_handlers_suite_as ?_)
  refine with_dict (P := fun h' => Heap.FlyingW B (envOf name scope L a cd :: outer) e (.ref 51) (.ref t) h' ∧ h₅.UpToSlots h') (dk_setFlight _ _) d₅ (fun Q₁ hQ₁ => lands_againW hheld fun h₆ a b => hQ₁ h₆ ⟨a, b⟩) fun h₆ r₆ d₆ => ?_
  have hfl₆ := r₆.1
  have hsm₆ := r₆.2
  refine letP ?_
  intro P7
  obtain ⟨g₆, T₆, F₆, K₆⟩ := kts_ground K F hBG hfl₆.1 ((hsm.trans hsm₅).trans hsm₆)
  obtain ⟨oe, ws, hoe, hoec, hoed, _⟩ := hfl₆.first
  have hall : oe.dict = some dx ∧ ws[2]? = some .none := by
    obtain ⟨oe', hoe', hdict, wx, hwx, hw2⟩ := d₆
    rw [hoe] at hoe'
    cases hoe'
    rw [hoed] at hwx
    cases hwx
    exact ⟨hdict, hw2⟩
  have hdict := hall.1
  have hws := hall.2
  have eo : oe = { cls := .ref 51, dict := some dx, data := .fields ws, slots := oe.slots } := by
    obtain ⟨c, d, dt, sl⟩ := oe
    dsimp only at hoec hoed hdict
    subst hoec hoed hdict
    rfl
  have ne₆ : g₆.get? e = none := T₆.none_ _ (kts_fresh F hBG hfl₆.2.1 fun o ho m => by
    obtain ⟨_, o', ho', hd⟩ := K.frames.mem m
    rw [ho] at ho'
    cases ho'
    obtain ⟨sl, hs⟩ := ((hsm.trans hsm₅).trans hsm₆) _ _ (F.keep _ _ ho) hd
    rw [hoe] at hs
    cases hs
    exact hd _ hoed)
  have N₆ := News.more F₆ (fun q hq => ⟨hfl₆.1 _ _ (hl q hq).1, (fun z => by have := (hl q hq).1; rw [z, hL] at this; cases this), T₆.none_ _ (kts_none F.keep (hl q hq).2.1)⟩ : News g₆ L h₆ news) hoe (fun es n q => by rw [hoed] at q; cases q) ne₆
  have X₆ : (hd0.heap_1 w.params).In g₆ := XB.keeps K₆.stays
  have P₆ : Top p loose mean mg mb g₆ := TB.keeps K₆.stays
  have D₆ : KtsDicts (outer.filterMap (·.frame)) g₆ := D.turn T₆
  rw [eo] at N₆
  refine stN F₆ N₆ (fun h₇ F₇ N₇ => ?_) hk hlo
  exact k h₇ g₆ ws _ _ (T0.trans T₆) F₇ N₇ K₆ X₆ P₆ D₆ hws
end
end Mine
end

section
namespace Mine
theorem resetE4 : True := by (k_with_none; w_top off); trivial
open PySem.W.X
/-- where a call stands that may catch: beneath it the bottom stands too -/
structure SiteS (w : World) (p : Program) (loose : List Str) (mean : ExcName → Option Value) (mg mb : Str → Option Value) (cs : Scope) (outer : List Env) (A₀ : Around) (base h₀ : Heap) (L : Addr) (m : Str → Option Value) (news : List (Addr × Obj)) (h : Heap) : Prop where
  B : Below A₀ base outer h₀
  F : Fr h₀ L h m
  X : (hd0.heap_1 w.params).In h₀
  N : News h₀ L h news
  T : Top p loose mean mg mb h₀
  XB : (hd0.heap_1 w.params).In base
  TB : Top p loose mean mg mb base
  D : KtsDicts (outer.filterMap (·.frame)) h₀
  hk : cs.kind = .function
/-- the end of such a body -/
def LeaveT (fs : List Addr) (g : Heap) (P : List (Addr × Obj) → Prop) (s' : Shared) : Prop :=
  ∃ g' L' m' small', KtsTurn fs g g' ∧ Fr g' L' s'.heap m' ∧ News g' L' s'.heap small' ∧ P small'
theorem leaveT_ {fs : List Addr} {g g' : Heap} {P : List (Addr × Obj) → Prop} {s' : Shared} {L' : Addr} {m' : Str → Option Value} {small' : List (Addr × Obj)} (T : KtsTurn fs g g') (F : Fr g' L' s'.heap m') (N : News g' L' s'.heap small') (k : P small') : LeaveT fs g P s' := ⟨g', L', m', small', T, F, N, k⟩
/-- what the caller is told behind it -/
def BackT (w : World) (p : Program) (loose : List Str) (mean : ExcName → Option Value) (mg mb : Str → Option Value) (outer : List Env) (A₀ : Around) (base h₀ : Heap) (L : Addr) (m : Str → Option Value) (news' : List (Addr × Obj)) (h' : Heap) (P : Prop) : Prop :=
  ∀ kg, KtsTurn (outer.filterMap (·.frame)) h₀ kg → Fr kg L h' m → News kg L h' news' → Below A₀ base outer kg → (hd0.heap_1 w.params).In kg → Top p loose mean mg mb kg → KtsDicts (outer.filterMap (·.frame)) kg → P
section
variable {prog p : Program} {w : World} {loose : List Str} {mean : ExcName → Option Value} {mg mb : Str → Option Value} {dp un : Nat} {gd : Option (List Code)} {cn : Str} {cs : Scope} {a : Addr} {ccd : Value} {outer : List Env} {A₀ : Around} {base h₀ : Heap} {L : Addr} {m : Str → Option Value} {s : Shared} {Q E : Value → Shared → Prop}
    {news small : List (Addr × Obj)} {name qual : Str} {params : Arguments} {body : List Stmt} {scope : Scope} {dV kV doc pm cdv ct oc : Value} {an od : Option Addr} {osl : Array (Option Value)} {f : Addr} {args : List Value} {binds : List (Str × Value)}
theorem enterS (S : SiteS w p loose mean mg mb cs outer A₀ base h₀ L m news s.heap) (hsub : ∀ q ∈ small, q ∈ news)
    (ho : (hd0.heap_1 w.params).lookup f = some ⟨oc, od, .func (fnOf name qual params body scope dV kV doc pm an cdv ct), osl⟩) (hcd : codeIn (hd0.heap_1 w.params) cdv qual = true) (hroom : dp < recursionLimit)
    (hbind : BindsTo s (fnOf name qual params body scope dV kV doc pm an cdv ct) ⟨args, []⟩ binds) (hloc : ∀ y ∈ binds, scope.names.lookup y.1 = some .local)
    (h : ∀ g L' h₁, Fr g L' h₁ (fun y => binds.reverse.lookup y) → News g L' h₁ small → Below (ktrTop dp un gd cn cs L a ccd [] outer) base (envOf cn cs L a ccd :: outer) g → (hd0.heap_1 w.params).In g → Top p loose mean mg mb g → KtsDicts ((envOf cn cs L a ccd :: outer).filterMap (·.frame)) g → (∀ q ∈ small, q.1 < L') → (∀ q ∈ news, (∀ x ∈ small, q.1 ≠ x.1) → g.get? q.1 = some q.2) → ∀ tk : Nat,
      wpAny (model prog w) ((ktrTop dp un gd cn cs L a ccd [] outer).deeper (envOf qual scope L' f cdv)) (execs body (envOf qual scope L' f cdv))
        (fun fl s' => LeaveT ((envOf cn cs L a ccd :: outer).filterMap (·.frame)) g (fun small' => ∃ news', (∀ q ∈ news', q ∈ small' ∨ (q ∈ news ∧ ∀ x ∈ small, q.1 ≠ x.1)) ∧ BackT w p loose mean mg mb outer A₀ base h₀ L m news' s'.heap (Q (match fl with | .ret v => v | _ => .none) s')) s')
        (fun _ _ => False)
        { s with heap := h₁, toks := tk })
    (hco : scope.isCoroutine = false) (hgen : scope.isGenerator = false) (hkf : scope.kind = .function)
    (hcell : ∀ x ∈ scope.names, x.2 ≠ .cell) :
    wpAny (model prog w) (ktrTop dp un gd cn cs L a ccd [] outer) (call (.ref f) args) Q E s := by
  obtain ⟨B, F, X₀, N, T, XB, TB, D, hk⟩ := S
  refine wpAny_call ?_
  have Ns : News h₀ L s.heap small := fun q hq => N q (hsub q hq)
  have X := X₀.keeps F.keep
  refine codeAny_call_def (fd := fnOf name qual params body scope dV kV doc pm an cdv ct) (body := body) (binds := binds) hroom (X _ _ ho) rfl (T.nolimit.keeps F.keep) (codeRec_of X hcd) rfl hbind hcell hloc (fun h₁ hns hk₁ => ?_) hco hgen hkf
  obtain ⟨oL, es, ep, hLg, hLd, hN, hNs, st, B₂⟩ := kts_enter (A := ktrTop dp un gd cn cs L a ccd [] outer) (cn := cn) (a := a) (ccd := ccd) B F Ns rfl hk
  have gn : ∀ q ∈ news, (∀ x ∈ small, q.1 ≠ x.1) → (hideAll s.heap (small.map (·.1))).get? q.1 = some q.2 := fun q hq hx => hideAll_get _ (N q hq).1 fun z => by
    obtain ⟨x, hx1, hx2⟩ := List.mem_map.mp z
    exact hx x hx1 hx2.symm
  refine wpAny_mono (h _ s.heap.objs.size h₁ ⟨hns, fun b o e => hk₁ b o (of_hideAll _ e), Nat.le_of_eq (hideAll_size _ _)⟩
    (fun q hq => ⟨hk₁ _ _ (Ns q hq).1, Nat.ne_of_lt (Heap.lt_size (Ns q hq).1), hideAll_none _ (List.mem_map_of_mem hq)⟩) B₂ (X₀.keeps st) (T.keeps st) (fun b hb => by
      rcases kts_mem hb with rfl | hb
      · exact ⟨oL, es, ep, hLg, hLd⟩
      · obtain ⟨o, es', n', ho', hd'⟩ := D b hb
        exact ⟨o, es', n', st b o ho', hd'⟩) (fun q hq => Heap.lt_size (Ns q hq).1) gn _) (fun fl s' hl => ?_) fun _ _ y => y.elim
  have nL₀ : h₀.get? L = none := kts_self F
  refine ex4 hl ?_
  clear hl
  intro g' L' m' small' hc9_15
  refine an4 hc9_15 ?_
  clear hc9_15
  intro T' F' N' c9_15_3
  obtain ⟨news', hn, k⟩ := c9_15_3
  obtain ⟨sl, hs⟩ := T'.up hLg
  obtain ⟨T₁, S₁⟩ := kts_turn_at (h := s'.heap) (fs := outer.filterMap (·.frame)) (g := h₀)
    (fun b hb => by
      obtain ⟨_, o, ho', _⟩ := B.frames.mem hb
      exact ⟨o, ho'⟩)
    (fun b o e nmem => F'.keep b o (T'.other b o (st b o e) (fun q => by
      rcases kts_mem q with z | z
      · rw [z, nL₀] at e
        cases e
      · exact nmem z)))
    (fun b o e hm => by
      obtain ⟨sl', hs'⟩ := T'.up (st b o e)
      exact ⟨sl', F'.keep _ _ hs'⟩)
  have B₃ : Below A₀ base outer (ktsHeap s'.heap (outer.filterMap (·.frame)) h₀) := ⟨B.stack, fun b o e => T₁.other b o (B.stays b o e) (fun hm => by
    rw [(B.frames.mem hm).1] at e
    cases e), B.frames.of_keeps fun b o e _ => by
    obtain ⟨sl', hs'⟩ := T₁.up e
    exact ⟨_, hs', rfl⟩⟩
  refine k _ T₁ ⟨hNs sl _ (F'.keep _ _ hs), S₁, by rw [T₁.size]; exact F.above⟩ (fun q hq => ?_) B₃ (XB.keeps B₃.stays) (TB.keeps B₃.stays) (D.turn T₁)
  rcases hn q hq with hq | ⟨hq, hx⟩
  · refine ⟨(N' q hq).1, fun z => ?_, T₁.none_ _ ?_⟩
    · have := (N' q hq).2.2
      rw [z, hs] at this
      cases this
    · cases z : h₀.get? q.1 with
      | none => rfl
      | some o =>
        obtain ⟨sl', hs'⟩ := T'.up (st _ _ z)
        have := (N' q hq).2.2
        rw [hs'] at this
        cases this
  · refine ⟨F'.keep _ _ (T'.other _ _ (gn q hq hx) fun z => ?_), (N q hq).2.1, T₁.none_ _ (N q hq).2.2⟩
    rcases kts_mem z with z | z
    · exact (N q hq).2.1 z
    · obtain ⟨o, _, _, ho', _⟩ := D _ z
      rw [(N q hq).2.2] at ho'
      cases ho'
end
end Mine
end

section
namespace Mine
theorem resetE5 : True := by (k_with_none; w_top off); trivial
open PySem.W.X
theorem leave_badI {M : Model} {A : Around} {E : Value → Shared → Prop} {s' : Shared} {base g : Heap} {outer : List Env} {L a e t dx : Addr} {m : Str → Option Value} {name : Str} {scope : Scope} {cd : Value} {Q : Unit → Shared → Prop} {news : List (Addr × Obj)} {x : Str}
    (K : Below A base outer g) (F : Fr g L s'.heap m) (N : News g L s'.heap news) (I : BadIs g s'.heap e dx t x news)
    (hQ : ∀ h' vs, RaisedS base g outer e (.ref 51) t vs news h' → g.UpToSlots h' → HasD h' e dx → Q () { s' with heap := h' }) (hk : scope.kind = .function := by rfl) :
    wpAny M (A.deeper (envOf name scope L a cd)) (leaving (envOf name scope L a cd) (.ref e)) Q E s' := by
  obtain ⟨tt, ht⟩ := I.ht
  exact leave_bad K F N I.he ht I.ge I.gt I.hn (fun h' r d => hQ h' _ r.1 r.2 d) hk
theorem leave_badOnI {M : Model} {A : Around} {E : Value → Shared → Prop} {s' : Shared} {base g g₂ : Heap} {outer : List Env} {L a e t dx : Addr} {m : Str → Option Value} {name : Str} {scope : Scope} {cd : Value} {Q : Unit → Shared → Prop} {news : List (Addr × Obj)} {vs : List Value}
    (K : Below A base outer g) (F : Fr g L g₂ m) (R : RaisedS base g₂ (envOf name scope L a cd :: outer) e (.ref 51) t vs news s'.heap) (hd : HasD s'.heap e dx) (hsm : g₂.UpToSlots s'.heap)
    (hQ : ∀ h', RaisedS base g outer e (.ref 51) t vs news h' → g.UpToSlots h' → HasD h' e dx → Q () { s' with heap := h' }) :
    wpAny M (A.deeper (envOf name scope L a cd)) (leaving (envOf name scope L a cd) (.ref e)) Q E s' :=
  leave_badOn K F R hd hsm fun h' r d => hQ h' r.1 r.2 d
theorem instBad {h₀ h : Heap} {L x C dx : Addr} {news : List (Addr × Obj)} {od : Obj} {ws : Array Value} {sl : Array (Option Value)} (N : News h₀ L h news) (h1 : (x, ({ cls := .ref C, dict := some dx, data := .fields ws, slots := sl } : Obj)) ∈ news) (h2 : (dx, od) ∈ news) :
    InstAt h x { cls := .ref C, dict := some dx, data := .fields ws, slots := sl } C (some od) := ⟨(N _ h1).1, rfl, rfl, (N _ h2).1⟩
end Mine
end

section
namespace Mine
theorem resetE6 : True := by (k_with_none; w_top off); trivial
open PySem.W.X
section
variable {prog : Program} {w : World} {A : Around} {E : Value → Shared → Prop} {s : Shared} {K : Frag} {x C : Addr} {ox : Obj} {od : Option Obj} {name : Str} {expr : Bool} {Q : Value → Shared → Prop}
theorem find_entry {v : Value} {tk : Tok} {R : Result → Shared → Prop} (X : K.In s.heap) (I : InstAt s.heap x ox C od) (hm : mroIn K C (.type "BaseException") = some true)
    (hf : findObj K C od name = some (.value v)) (h : R (.ok (.ret v)) s) : codeAny (model prog w) A (.call (.builtin "BaseException.__getattribute__") ⟨[.ref x, .str name tk], []⟩) R s := by
  obtain ⟨hh', g, d, t, os⟩ := s
  have L0 := I.type (M := model prog w)
  have L1 := looks_find (M := model prog w) X I hf
  have L2 := looks_mroIn (M := model prog w) X hm
  refine codeAny_call_builtin F.excAttr_ValueError.ga.plain F.entry_bexc_ga ?_
  have hk : builtinKind "BaseException.__getattribute__" = some .slot := by decide +kernel
  have hsplit : splitId "BaseException.__getattribute__" = some ("BaseException", "__getattribute__") := by decide +kernel
  have ha := F.args_bexc_ga (.ref x) (.str name tk)
  simp only [checkBuiltinCall, hk, hsplit]
  refine wpAny_bind ?_
  unfold isInstance
  refine wpAny_bind (L0.at (L2.at ?_))
  obtain ⟨hc, hcl, _⟩ := I
  repeat (any_goals (first | assumption | (with_reducible refine wpAny_loadPart_at hc ?_; rw [hcl]) | with_reducible refine L1.at ?_ | wp_step))
theorem get_fault {v : Value} (X : K.In s.heap) (I : InstAt s.heap x ox C od) (hga : findIn K (.ref C) "__getattribute__" = some (some (.builtin "BaseException.__getattribute__"))) (hgt : findIn K (.ref C) "__getattr__" = some none) (hm : mroIn K C (.type "BaseException") = some true)
    (hf : findObj K C od name = some (.value v)) (hh : handedIn v = true) (h : Q v { s with toks := s.toks + 1 }) : wpAny (model prog w) A (getAttr (.ref x) name expr) Q E s := by
  obtain ⟨hp, g, d, t, os⟩ := s
  have L0 := I.type (M := model prog w)
  have L1 := looks_findIn (M := model prog w) X hga
  have L2 := looks_findIn (M := model prog w) X hgt
  have f3 := F.excAttr_ValueError.ga.bind (.ref x)
  have hx0 : (expr && onTheHeap (Value.builtin "BaseException.__getattribute__")) = false := by cases expr <;> rfl
  have hx2 : (Value.builtin "BaseException.__getattribute__" == Value.builtin "object.__getattribute__") = false := by decide +kernel
  have hx1 : (onTheHeap (Value.ref C) && Value.builtin "BaseException.__getattribute__" == Value.builtin "object.__getattribute__") = false := by rw [hx2]; rfl
  unfold getAttr getAttrBy
  refine wpAny_bind (wpAny_mkText (wpAny_holding (wpAny_bind (L0.at (wpAny_bind (L1.at ?_))))))
  dsimp only
  rw [hx1]
  show wpAny _ _ (getAttrByItsOwn _ _ _ _ _ _) _ _ _
  unfold getAttrByItsOwn
  refine wpAny_bind ?_
  show wpAny _ _ (typeLookup (.ref C) "__getattr__") _ _ _
  refine L2.at ?_
  repeat (any_goals (first | assumption | (refine find_entry (s := ⟨hp, g, d, _, os⟩) X I hm hf ?_) | wp_step))
  show wpAny _ _ (handedOut v) _ _ _
  rw [handedOut_of hh]
  exact wpAny_pure h
end
theorem ga51 (w : World) : findIn (hd0.heap_1 w.params) (.ref 51) "__getattribute__" = some (some (.builtin "BaseException.__getattribute__")) := by k_is
theorem gt51 (w : World) : findIn (hd0.heap_1 w.params) (.ref 51) "__getattr__" = some none := by k_is
theorem base51 (w : World) : mroIn (hd0.heap_1 w.params) 51 (.type "BaseException") = some true := by k_is
theorem dict51 (w : World) : hasDictIn (hd0.heap_1 w.params) 51 = true := by k_is
section
variable {prog : Program} {w : World} {A : Around} {E : Value → Shared → Prop} {s : Shared} {h₀ : Heap} {L e dx : Addr} {m : Str → Option Value} {news : List (Addr × Obj)} {ws : Array Value} {sl : Array (Option Value)} {expr : Bool} {Q : Value → Shared → Prop} {x : Str} {t1 t2 k1 k2 : Tok} {h1 h2 sq : Int} {ep : Nat}
theorem fault_square (F : Fr h₀ L s.heap m) (X : (hd0.heap_1 w.params).In h₀) (N : News h₀ L s.heap news) (he : (e, ({ cls := .ref 51, dict := some dx, data := .fields ws, slots := sl } : Obj)) ∈ news) (hx : (dx, badD h1 h2 k1 k2 x t1 sq t2 ep) ∈ news)
    (h : Q (.int sq t2) { s with toks := s.toks + 1 }) : wpAny (model prog w) A (getAttr (.ref e) (Str.ofString "square") expr) Q E s :=
  get_fault (X.keeps F.keep) (instBad N he hx) (ga51 w) (gt51 w) (base51 w) (findObj_own (dict51 w) (sq51 w) rfl rfl) rfl h
theorem fault_text (F : Fr h₀ L s.heap m) (X : (hd0.heap_1 w.params).In h₀) (N : News h₀ L s.heap news) (he : (e, ({ cls := .ref 51, dict := some dx, data := .fields ws, slots := sl } : Obj)) ∈ news) (hx : (dx, badD h1 h2 k1 k2 x t1 sq t2 ep) ∈ news)
    (h : Q (.str x t1) { s with toks := s.toks + 1 }) : wpAny (model prog w) A (getAttr (.ref e) (Str.ofString "text") expr) Q E s :=
  get_fault (X.keeps F.keep) (instBad N he hx) (ga51 w) (gt51 w) (base51 w) (findObj_own (dict51 w) (tx51 w) rfl rfl) rfl h
end
end Mine
end

section
namespace Mine
theorem resetI1 : True := by (k_with_none; w_top off); trivial
theorem under_top {dp un : Nat} {gd : Option (List Code)} {cn : Str} {cs : Scope} {L a C : Addr} {ccd : Value} {cl : List (Str × Addr)} {outer : List Env} {rest : List Value} :
    (ktrTop dp un gd cn cs L a ccd cl outer).under (.builtin "type.__call__" ⟨.ref C :: rest, []⟩) = ktrTop (dp + 1) (un + 1) gd cn cs L a ccd cl outer := rfl
section
variable {prog p : Program} {w : World} {loose : List Str} {mean : ExcName → Option Value} {mg mb : Str → Option Value} {dp un : Nat} {gd : Option (List Code)} {cn : Str} {cs : Scope} {a : Addr} {ccd : Value} {outer : List Env} {A₀ : Around} {base h₀ : Heap} {L : Addr} {m : Str → Option Value} {s : Shared} {Q E : Value → Shared → Prop}
    {news : List (Addr × Obj)} {cl : List (Str × Addr)} {name qual : Str} {params : Arguments} {body : List Stmt} {scope : Scope} {dV kV doc pm cdv ct oc : Value} {an od : Option Addr} {osl : Array (Option Value)} {C fI : Addr} {args : List Value} {binds : Addr → List (Str × Value)}
/-- a class is called and its own __init__ entered -/
theorem enterI (S : Site w p loose mean mg mb cs outer A₀ base h₀ L m news s.heap)
    (hm : makesIn (hd0.heap_1 w.params) C = true) (hi : findIn (hd0.heap_1 w.params) (.ref C) "__init__" = some (some (.ref fI))) (hf : isFn (hd0.heap_1 w.params) (.ref fI) = true)
    (ho : (hd0.heap_1 w.params).lookup fI = some ⟨oc, od, .func (fnOf name qual params body scope dV kV doc pm an cdv ct), osl⟩) (hcd : codeIn (hd0.heap_1 w.params) cdv qual = true) (hroom : dp + 1 < recursionLimit)
    (hbind : ∀ x s, BindsTo s (fnOf name qual params body scope dV kV doc pm an cdv ct) ⟨.ref x :: args, []⟩ (binds x)) (hloc : ∀ x, ∀ y ∈ binds x, scope.names.lookup y.1 = some .local)
    (h : ∀ x dx g L' h₁ tk, LCg.Off1 x news → LCg.Off1 dx news → (@Ne Nat x dx) → Fr g L' h₁ (fun y => (binds x).reverse.lookup y) → News g L' h₁ [(x, instObj C dx), (dx, dictOf [] 0)] → Below (ktrTop (dp + 1) (un + 1) gd cn cs L a ccd cl outer) base (envX cn cs L a ccd cl :: outer) g → (hd0.heap_1 w.params).In g → Top p loose mean mg mb g → (@LT.lt Nat _ x L' ∧ @LT.lt Nat _ dx L') →
      wpAny (model prog w) ((ktrTop (dp + 1) (un + 1) gd cn cs L a ccd cl outer).deeper (envOf qual scope L' fI cdv)) (execs body (envOf qual scope L' fI cdv))
        (fun fl s' => LeaveE g (fun small' => (match fl with | .ret v => v | _ => .none) = .none ∧ ∃ news', (∀ q ∈ news', q ∈ small' ∨ q ∈ news) ∧ (Fr h₀ L s'.heap m → News h₀ L s'.heap news' → Q (.ref x) s')) s')
        (fun _ _ => False)
        { s with heap := h₁, toks := tk })
    (hco : scope.isCoroutine = false) (hgen : scope.isGenerator = false) (hkf : scope.kind = .function)
    (hcell : ∀ x ∈ scope.names, x.2 ≠ .cell) :
    wpAny (model prog w) (ktrTop dp un gd cn cs L a ccd cl outer) (call (.ref C) args) Q E s := by
  obtain ⟨B, F, X₀, N, T, hk⟩ := S
  refine call_cls F X₀ N hm hi hf fun x dx h' F₁ N₁ l1 l2 => ?_
  rw [under_top]
  have hne : x ≠ dx := fun z => by
    rw [z] at l2
    exact Nat.lt_irrefl _ l2
  have hx : ∀ q ∈ news, q.1 ≠ x := fun q hq z => by
    have := l1 q hq
    rw [z] at this
    exact Nat.lt_irrefl _ (Nat.lt_trans this l2)
  have hdx : ∀ q ∈ news, q.1 ≠ dx := fun q hq z => by
    have := l1 q hq
    rw [z] at this
    exact Nat.lt_irrefl _ this
  let small : List (Addr × Obj) := [(x, instObj C dx), (dx, dictOf [] 0)]
  have Ns : News h₀ L h' small := fun q hq => N₁ q (by
    rcases List.mem_cons.mp hq with rfl | hq
    · exact List.mem_cons_self
    · rcases List.mem_cons.mp hq with rfl | hq
      · exact List.mem_cons_of_mem _ List.mem_cons_self
      · nomatch hq)
  obtain ⟨FG, BG, st, _⟩ := groundX (s := { s with heap := h' }) (R := fun _ _ => True) (A := ktrTop (dp + 1) (un + 1) gd cn cs L a ccd cl outer) (env := envX cn cs L a ccd cl) B F₁ Ns rfl rfl hk
  have X := X₀.keeps F₁.keep
  refine codeAny_call_def (fd := fnOf name qual params body scope dV kV doc pm an cdv ct) (body := body) (binds := binds x) hroom (X _ _ ho) rfl (T.nolimit.keeps F₁.keep) (codeRec_of X hcd) rfl (hbind x _) hcell (hloc x) (fun h₁ hns hk₁ => ?_) hco hgen hkf
  refine wpAny_mono (h x dx _ h'.objs.size h₁ _ (off1_of hx) (off1_of hdx) hne ⟨hns, fun b o e => hk₁ b o (of_hideAll _ e), Nat.le_of_eq (hideAll_size _ _)⟩
    (fun q hq => ⟨hk₁ _ _ (Ns q hq).1, Nat.ne_of_lt (Heap.lt_size (Ns q hq).1), hideAll_none _ (List.mem_map_of_mem hq)⟩) BG (X₀.keeps st) (T.keeps st) ⟨Heap.lt_size (N₁ _ List.mem_cons_self).1, Heap.lt_size (N₁ _ (List.mem_cons_of_mem _ List.mem_cons_self)).1⟩) (fun fl s' hl => ?_) fun _ _ y => y.elim
  obtain ⟨L', m', small', F', N', hv, news', hn, k⟩ := hl
  obtain ⟨oL, es, ep, hLg, hLd, hLk, hLf⟩ := FG.ns
  refine And.intro ?_ (k ⟨⟨oL, es, ep, F'.keep L oL hLg, hLd, hLk, hLf⟩, fun b o e => F'.keep b o (st b o e), F₁.above⟩ fun q hq => ?_)
  · exact hv
  · rcases hn q hq with hq | hq
    · refine ⟨(N' q hq).1, fun z => ?_, ?_⟩
      · have := (N' q hq).2.2
        rw [z, hLg] at this
        cases this
      · cases z : h₀.get? q.1 with
        | none => rfl
        | some o =>
          have := (N' q hq).2.2
          rw [st _ _ z] at this
          cases this
    · refine ⟨F'.keep _ _ (hideAll_get _ (N₁ q (List.mem_cons_of_mem _ (List.mem_cons_of_mem _ hq))).1 fun z => ?_), (N₁ q (List.mem_cons_of_mem _ (List.mem_cons_of_mem _ hq))).2⟩
      obtain ⟨y, hy1, hy2⟩ := List.mem_map.mp z
      rcases List.mem_cons.mp hy1 with rfl | hy1
      · exact hx q hq hy2.symm
      · rcases List.mem_cons.mp hy1 with rfl | hy1
        · exact hdx q hq hy2.symm
        · nomatch hy1
end
end Mine
end

section
namespace Mine
theorem wordsR10 : True := by
  k_with_none
  w_top off
  k_with "a9" => (with_reducible assumption)
  k_with "c9" => (repeat (with_reducible rename _ ∧ _ => hA9; clear hA9)); (repeat (with_reducible rename _ ≠ _ => hA9; clear hA9))
  k_with "u9" => ((with_reducible rename News _ _ _ _ => N9); dsimp +zetaDelta only at N9)
  k_with "p0" => (refine offAt (by fail "a9") 0 ?_; exact rfl)
  k_with "p1" => (refine offAt (by fail "a9") 1 ?_; exact rfl)
  k_with "p2" => (refine offAt (by fail "a9") 2 ?_; exact rfl)
  k_with "p3" => (refine offAt (by fail "a9") 3 ?_; exact rfl)
  k_with "p4" => (refine offAt (by fail "a9") 4 ?_; exact rfl)
  k_with "p5" => (refine offAt (by fail "a9") 5 ?_; exact rfl)
  k_with "p6" => (refine offAt (by fail "a9") 6 ?_; exact rfl)
  k_with "p7" => (refine offAt (by fail "a9") 7 ?_; exact rfl)
  k_with "p8" => (refine offAt (by fail "a9") 8 ?_; exact rfl)
  k_with "p9" => (refine offAt (by fail "a9") 9 ?_; exact rfl)
  k_with "p10" => (refine offAt (by fail "a9") 10 ?_; exact rfl)
  k_with "p11" => (refine offAt (by fail "a9") 11 ?_; exact rfl)
  k_with "p12" => (refine offAt (by fail "a9") 12 ?_; exact rfl)
  k_with "p13" => (refine offAt (by fail "a9") 13 ?_; exact rfl)
  k_with "p14" => (refine ltAt (by fail "a9") 0 ?_; exact rfl)
  k_with "p15" => (refine ltAt (by fail "a9") 1 ?_; exact rfl)
  k_with "p16" => (refine ltAt (by fail "a9") 2 ?_; exact rfl)
  k_with "p17" => (refine ltAt (by fail "a9") 3 ?_; exact rfl)
  k_with "p18" => (refine ltAt (by fail "a9") 4 ?_; exact rfl)
  k_with "p19" => (refine ltAt (by fail "a9") 5 ?_; exact rfl)
  k_with "p20" => (refine ltAt (by fail "a9") 6 ?_; exact rfl)
  k_with "p21" => (refine ltAt (by fail "a9") 7 ?_; exact rfl)
  k_with "p22" => (refine ltAt (by fail "a9") 8 ?_; exact rfl)
  k_with "p23" => (refine ltAt (by fail "a9") 9 ?_; exact rfl)
  k_with "p24" => (refine ltAt (by fail "a9") 10 ?_; exact rfl)
  k_with "p25" => (refine ltAt (by fail "a9") 11 ?_; exact rfl)
  k_with "p26" => (refine ltAt (by fail "a9") 12 ?_; exact rfl)
  k_with "p27" => (refine ltAt (by fail "a9") 13 ?_; exact rfl)
  k_with "r9" => (fail "w1")
  k_with "w1" => (first | fail "a9" | exact Nat.le_of_lt (by fail "a9"))
  k_with "offs9" => (first | fail "p0" | fail "p1" | fail "p2" | fail "p3" | fail "p4" | fail "p5" | fail "p6" | fail "p7" | fail "p8" | fail "p9" | fail "p10" | fail "p11" | fail "p12" | fail "p13" | fail "p14" | fail "p15" | fail "p16" | fail "p17" | fail "p18" | fail "p19" | fail "p20" | fail "p21" | fail "p22" | fail "p23" | fail "p24" | fail "p25" | fail "p26" | fail "p27")
  k_with "mem9" => (fail "w2")
  k_with "w2" => (first | exact List.Mem.head _ | exact List.Mem.tail _ (List.Mem.head _) | (refine memAt 0 ?_; exact rfl) | (refine memAt 1 ?_; exact rfl) | (refine memAt 2 ?_; exact rfl) | (refine memAt 3 ?_; exact rfl) | (refine memAt 4 ?_; exact rfl) | (refine memAt 5 ?_; exact rfl) | (refine memAt 6 ?_; exact rfl) | (refine memAt 7 ?_; exact rfl) | (refine memAt 8 ?_; exact rfl) | (refine memAt 9 ?_; exact rfl) | (refine memAt 10 ?_; exact rfl) | (refine memAt 11 ?_; exact rfl) | (refine memAt 12 ?_; exact rfl) | (refine memAt 13 ?_; exact rfl) | (refine memAt 14 ?_; exact rfl) | (refine memAt 15 ?_; exact rfl) | (refine memAt 16 ?_; exact rfl) | (refine memAt 17 ?_; exact rfl))
  k_with "lts9" => (fail "w3")
  k_with "w3" => (first | (refine ltB (by fail "a9") 0 ?_; exact rfl) | (refine ltB (by fail "a9") 1 ?_; exact rfl) | (refine ltB (by fail "a9") 2 ?_; exact rfl) | (refine ltB (by fail "a9") 3 ?_; exact rfl) | (refine ltB (by fail "a9") 4 ?_; exact rfl) | (refine ltB (by fail "a9") 5 ?_; exact rfl) | (refine ltB (by fail "a9") 6 ?_; exact rfl) | (refine ltB (by fail "a9") 7 ?_; exact rfl) | (refine ltB (by fail "a9") 8 ?_; exact rfl) | (refine ltB (by fail "a9") 9 ?_; exact rfl) | (refine ltB (by fail "a9") 10 ?_; exact rfl) | (refine ltB (by fail "a9") 11 ?_; exact rfl) | (refine ltB (by fail "a9") 12 ?_; exact rfl) | (refine ltB (by fail "a9") 13 ?_; exact rfl))
  k_with "rooms9" => (fail "w4")
  k_with "w4" => (first | (refine rl2 (by fail "r9") ?_; exact rfl) | (refine rl1 (by fail "r9") ?_; exact rfl) | (refine rl3 (by fail "r9") ?_; exact rfl) | (refine rl0 (by fail "r9") ?_; exact rfl) | (refine rl4 (by fail "r9") ?_; exact rfl) | (refine rm2 (by fail "r9") ?_; exact rfl) | (refine rm1 (by fail "r9") ?_; exact rfl) | (refine rm3 (by fail "r9") ?_; exact rfl) | (refine rm0 (by fail "r9") ?_; exact rfl) | (refine rm4 (by fail "r9") ?_; exact rfl))
  k_with "k_ne" => (fail "w5")
  k_with "w5" => (refine neN ?_; (try dsimp only); first | fail "a9" | (refine Ne.symm ?_; fail "a9") | exact Nat.ne_of_lt (by fail "a9") | exact Nat.ne_of_gt (by fail "a9") | k_extra "offs9" | (refine Ne.symm ?_; first | k_extra "offs9") | ((try simp only [LCg.Off1, and_true] at *); omega))
  k_with "k_mem" => (fail "w6")
  k_with "w6" => (first | fail "a9" | k_extra "mem9")
  k_with "k_memK" => (first | k_extra "mem9")
  k_with "is_list" => (fail "w7")
  k_with "w7" => (exact News.isList (by fail "a9") (by k_mem))
  k_with "ktr_room" => (fail "w8")
  k_with "w8" => ((try dsimp only [depth_under_make, depth_under_kw, depth_in1, depth_deeper, depth_caller]); (try dsimp only [ktrTop]); first | decide | k_extra "rooms9")
  k_with "units_room" => (fail "w9")
  k_with "w9" => ((try dsimp only [units_in1, units_deeper, Around.mark_units, units_caller]); (try dsimp only [ktrTop]); first | decide | k_extra "rooms9")
  k_with "l_idx" => ((k_extra "c9"); omega)
  k_with "l_fit" => ((k_extra "c9"); omega)
  k_with "ktr_units" => (fail "w10")
  k_with "w10" => ((try dsimp only [units_in1, units_deeper, Around.mark_units, units_caller]); (try dsimp only [ktrTop]); first | decide | k_extra "rooms9")
  k_with "execs cons" => (fail "w11")
  k_with "w11" => (k_here; first | k_gentoks | ((try dsimp only); (try k_gentoks); (try (with_reducible refine letA ?_; intro A9)); (try ((with_reducible rename Fr _ _ _ _ => F9); refine letF F9 ?_; clear F9; intro m9 F9)); (first | (with_reducible refine execHidB fun q9 hq9 => ?_) | (refine hideQ fun q9 hq9 => ?_; with_reducible refine execHidB fun q9 hq9 => ?_))))
  k_with "Hid" => (fail "w12")
  k_with "w12" => (first | ((with_reducible refine unhidNextT (by fail "a9") ?_); intro tk9; (try dsimp only)) | ((with_reducible refine unhidNext (by fail "a9") ?_); (try dsimp only)) | ((with_reducible refine unhidRet (by fail "a9") ?_); (try dsimp only)) | ((with_reducible refine unhid (by fail "a9") ?_); (try dsimp only [Behind])))
  k_with "spliced" => (fail "w13")
  k_with "w13" => (k_here; (with_reducible show wpAny _ _ (spliced (backTo _ (starEach (_ :: _ :: _ :: _) _))) _ _ _); k_dflt (refine' args_cons ?_ ?_; rotate_left; rfl))
  k_with "spliced" => (fail "w14")
  k_with "w14" => (k_here; k_dflt ((refine' argsF ?_ ?_ ?_ ?_); (rotate_left 4); k_asm; rfl; rfl); (try dsimp only [List.nil_append, List.cons_append]))
  k_with "eval Call" => (fail "w15")
  k_with "w15" => (k_here; (with_reducible show wpAny _ _ (eval (PySem.Expr.Call (PySem.Expr.Name _ _) (_ :: _) [] _) _) _ _ _); first | (k_dflt ((refine' callF ?_ ?_ ?_ ?_ ?_ ?_ ?_ ?_ ?_ ?_ ?_); (rotate_left 10); k_asm; k_asm; k_asm; k_is; k_is; rfl; rfl; rfl; rotate_left; decide; rfl)) | k_compRoot | k_dflt (refine' Call_ ?_))
  k_with "eval Name" => (fail "w16")
  k_with "w16" => (k_here; (with_reducible show wpAny _ _ (eval (PySem.Expr.Name _ _) (envOf _ _ _ _ _)) _ _ _); first | k_dflt ((refine' nameX_K ?_ ?_ ?_ ?_ ?_ ?_ ?_ ?_); (rotate_left 8); k_asm; k_asm; k_asm; k_is; rotate_left; rfl; rfl; decide) | k_dflt ((refine' nameX_L ?_ ?_ ?_ ?_ ?_ ?_); (rotate_left 3); k_asm; rfl; rotate_left; rfl; rfl; decide))
  k_with "callWith ref" => (fail "w17")
  k_with "w17" => (k_here; (with_reducible show wpAny _ _ (callWith _ _ _ (backTo _ (starEach [] _)) []) _ _ _); k_dflt (refine callF0 (by fail "a9") (by fail "a9") (by k_is) ?_))
  k_with "k_lt" => skip
  k_with "ktr_enter" => (fail "w18")
  k_with "w18" => first | (refine enterK (by assumption) (by assumption) (by k_is) (by k_is) (by ktr_room) (by exact BindsTo.of_eq rfl) (by exact locs rfl) ?_ (by exact rfl) (by exact rfl) (by exact rfl) (by decide); k_whole; intro g' L' h' F' N' B' X' T' lN' gN' tk9'; (try k_lt lN'); (try dsimp only); (try k_fold)) | (refine enterC (by assumption) (by assumption) (by k_is) (by k_is) (by ktr_room) (by exact BindsTo.of_eq rfl) (by exact rfl) (by decide +kernel) ?_ (by exact rfl) (by exact rfl) (by exact rfl); k_whole; intro g' L' h' tk' cells' F' N' Y' B' X' T' lN' gN'; (try k_lt lN'); k_cells Y'; (try simp only [List.cons_append, List.nil_append] at N'); (try dsimp only); (try k_fold))
  trivial
/-- the turns of a reader over its octets -/
structure RdS where
  (W C ea eb ec : Int) (k1 k2 k3 t1 t2 t3 : Tok)
abbrev rdLed (x dx : Addr) (c : RdS) : List (Addr × Obj) := [(x, instObj 138 dx), (dx, dictOf [⟨c.ea, .str (Str.ofString "word") c.k1, .int c.W c.t1⟩, ⟨c.eb, .str (Str.ofString "count") c.k2, .int c.C c.t2⟩, ⟨c.ec, .str (Str.ofString "at") c.k3, .int 0 c.t3⟩] 3)]
def rdP (pre : List Int) (c : RdS) : Prop := c.W = rdV pre ∧ c.C = 8 * (pre.length : Int)
theorem rdP_next {ks pre post : List Int} {n : Int} (h : KBa.In ks) (e : ks = pre ++ n :: post) : Builtin.bitOr (rdV pre) (n * 2 ^ (8 * (pre.length : Int)).toNat) = rdV (pre ++ [n]) := by
  have e1 : ks.take pre.length = pre := by rw [e, List.take_left]
  have e2 : ks.take (pre.length + 1) = pre ++ [n] := by rw [e, List.take_append, List.take_of_length_le (Nat.le_succ _)]; simp
  have e3 : ks[pre.length]? = some n := by rw [e]; simp
  have := rdV_step h e3
  rw [e1, e2] at this
  rw [show (8 * (pre.length : Int)).toNat = 8 * pre.length from by omega]
  exact this
theorem rdP_same {pre : List Int} {ea eb ec : Int} {k1 k2 k3 t1 t2 t3 : Tok} {n W C : Int} {ks post : List Int} (h : KBa.In ks) (e : ks = pre ++ n :: post) (e1 : W = Builtin.bitOr (rdV pre) (n * 2 ^ (8 * (pre.length : Int)).toNat)) (e2 : C = 8 * (pre.length : Int) + 8) : rdP (pre ++ [n]) ⟨W, C, ea, eb, ec, k1, k2, k3, t1, t2, t3⟩ :=
  ⟨by rw [e1, rdP_next h e], by rw [e2, List.length_append]; simp; omega⟩
theorem wordsR11 : True := by
  k_with "InvEndN" => (fail "w19")
  k_with "w19" => (refine InvEndN.intro (by assumption) (by assumption) (nx := [(_, instObj 138 _), (_, dictOf [⟨_, .str _ _, .int _ _⟩, ⟨_, .str _ _, .int _ _⟩, ⟨_, .str _ _, .int _ _⟩] 3)]) ⟨⟨_, _, _, _, _, _, _, _, _, _, _⟩, rfl, True.intro, (fun p hp => nomatch hp), (by intro z h1 _ _; first | rfl | (simp +zetaDelta [h1]; done)), rdP_same (by assumption) (by assumption) rfl rfl⟩ (by rfl) (by k_allIn) (by intro p hp; k_ownIn))
  k_with "pyIter bytes" => (fail "w20")
  k_with "w20" => (k_here; (with_reducible rename Fr _ _ _ _ => kF); (with_reducible rename News _ _ _ _ => kN); (refine' KStb.kst_bytes (rdLed _ _) (fun _ => []) (fun _ => True) [] rdP ⟨0, 0, _, _, _, _, _, _, _, _, _⟩ (by assumption) rfl rfl kF kN True.intro (fun p hp => nomatch hp) ⟨rfl, rfl⟩ ?_ ?_); (clear kF kN; intro c' pre' post' n' t' u' h' tk' own' e' lt' lo' hi' off' _ P' F' N'; obtain ⟨W', C', _, _, _, _, _, _, _, _, _⟩ := c'; obtain ⟨P1', P2'⟩ := P'; dsimp only at P1' P2'; subst P1' P2'; (try dsimp only [rdLed, List.map] at N' off'); (try simp only [List.cons_append, List.nil_append] at N'); (try dsimp only [kstB] at F'));  rotate_left; (clear kF kN; intro c' u' h' tk' l' _ P' F' N'; obtain ⟨W', C', _, _, _, _, _, _, _, _, _⟩ := c'; obtain ⟨P1', P2'⟩ := P'; dsimp only at P1' P2'; subst P1' P2'; (try dsimp only [rdLed] at N'); (try dsimp only [kstB] at F')); rotate_left; (all_goals (try k_fold)))
  trivial
theorem breader_spec {prog p : Program} {w : World} {loose : List Str} {mean : ExcName → Option Value} {mg mb : Str → Option Value} {dp un : Nat} {gd : Option (List Code)} {cn : Str} {cs : Scope} {a : Addr} {ccd : Value} {outer : List Env} {A₀ : Around} {base h₀ : Heap} {L : Addr} {m : Str → Option Value} {s : Shared} {Q E : Value → Shared → Prop}
    {news : List (Addr × Obj)} {cl : List (Str × Addr)}
    {b : Array UInt8} {t : Tok} {os : List Int}
    (S : Site w p loose mean mg mb cs outer A₀ base h₀ L m news s.heap)
    (hb : KBw.bInts b = os) (hin : KBa.In os) (hlen : os.length ≤ 40)
    (hdp : dp + 4 < recursionLimit) (hun : un + 40 < cLine)
    (h : ∀ (r dr : Addr) ea eb ec k1 k2 k3 t1 t2 t3 (h' : Heap) (tk' : Nat), LCg.Off1 r news → LCg.Off1 dr news → (@Ne Nat r dr) →
      Fr h₀ L h' m → News h₀ L h' ((r, instObj 138 dr) :: (dr, dictOf [⟨ea, .str (Str.ofString "word") k1, .int (rdV os) t1⟩, ⟨eb, .str (Str.ofString "count") k2, .int (8 * (os.length : Int)) t2⟩, ⟨ec, .str (Str.ofString "at") k3, .int 0 t3⟩] 3) :: news) → Q (.ref r) { s with heap := h', toks := tk' }) :
    wpAny (model prog w) (ktrTop dp un gd cn cs L a ccd cl outer) (call (.ref 138) [.bytes b t]) Q E s := by
  refine' enterI S ?k1 ?k2 ?k3 ?k4 ?k5 ?k6 ?k7 ?k8 ?_ ?c1 ?c2 ?c3 ?c4
  case k1 => k_is
  case k2 => k_is
  case k3 => k_is
  case k4 => k_is
  case k5 => k_is
  case k6 => ktr_room
  case k7 => exact fun _ _ => BindsTo.of_eq rfl
  case k8 => exact fun _ => locs rfl
  case c1 => exact rfl
  case c2 => exact rfl
  case c3 => exact rfl
  case c4 => decide
  k_whole
  intro x' d' g' L' h' tk' o1' o2' n1' F' N' B' X' T' lN'
  try dsimp only
  try k_fold
  k_steps
  exact leaveE_ (by assumption) (by assumption) ⟨rfl, (_, instObj 138 _) :: (_, dictOf [⟨_, .str _ _, .int _ _⟩, ⟨_, .str _ _, .int _ _⟩, ⟨_, .str _ _, .int _ _⟩] 3) :: news, fun q hq => by
    rcases List.mem_cons.mp hq with rfl | hq
    · exact .inl List.mem_cons_self
    · rcases List.mem_cons.mp hq with rfl | hq
      · exact .inl (List.mem_cons_of_mem _ List.mem_cons_self)
      · exact .inr hq, fun F9 N9 => h _ _ _ _ _ _ _ _ _ _ _ _ _ (by assumption) (by assumption) (by assumption) F9 N9⟩
end Mine
end

section
namespace Mine
theorem resetM2 : True := by (k_with_none; w_top off); trivial
theorem emod_mul {W : Int} (h : 0 ≤ W) (a b : Nat) : W % (((a * b : Nat)) : Int) = W % (a : Int) + a * (W / (a : Int) % (b : Int)) := by
  obtain ⟨x, rfl⟩ := Int.eq_ofNat_of_zero_le h
  have := Nat.mod_mul (x := x) (a := a) (b := b)
  exact_mod_cast this
theorem wOct_eq (W : Int) (C : Nat) : wOct W C = (List.range ((C + 7) / 8)).map fun i => W / 2 ^ (8 * i) % 256 := by
  unfold wOct stepKs
  rw [List.map_map]
  refine List.map_congr_left fun i _ => ?_
  show Builtin.bitAnd (W.fdiv (2 ^ (0 + (i : Int) * 8).toNat)) 255 = _
  rw [bitAnd_m8, Int.fdiv_eq_ediv_of_nonneg _ (Int.le_of_lt (Int.pow_pos (by decide))), show (0 + (i : Int) * 8).toNat = 8 * i from by omega]
theorem rdV_low {W : Int} (h : 0 ≤ W) (n : Nat) : rdV ((List.range n).map fun i => W / 2 ^ (8 * i) % 256) = W % 2 ^ (8 * n) := by
  induction n with
  | zero => simp [rdV]
  | succ n ih =>
    rw [List.range_succ, List.map_append, rdV_app, ih]
    simp only [List.map_cons, List.map_nil, rdV, List.length_map, List.length_range]
    have e := emod_mul h (2 ^ (8 * n)) 256
    have e1 : ((2 ^ (8 * n) * 256 : Nat) : Int) = 2 ^ (8 * (n + 1)) := by
      rw [show 8 * (n + 1) = 8 * n + 8 from by omega, Int.pow_add]
      simp
    rw [e1] at e
    rw [e]
    simp
theorem rdV_wOct {W : Int} {C : Nat} (h : 0 ≤ W) (h1 : W < 2 ^ C) : rdV (wOct W C) = W := by
  rw [wOct_eq, rdV_low h]
  refine Int.emod_eq_of_lt h (Int.lt_of_lt_of_le h1 ?_)
  have : (2 : Nat) ^ C ≤ 2 ^ (8 * ((C + 7) / 8)) := Nat.pow_le_pow_right (by decide) (by omega)
  exact_mod_cast this
end Mine
end

section
namespace Mine
theorem resetM3 : True := by (k_with_none; w_top off); trivial
/-- low bits, the lowest first, as one number -/
def numV : List Int → Int
  | [] => 0
  | b :: r => b + 2 * numV r
def Bits (bs : List Int) : Prop := ∀ b ∈ bs, b = 0 ∨ b = 1
theorem Bits.tail {b : Int} {r : List Int} (h : Bits (b :: r)) : Bits r := fun x hx => h x (List.mem_cons_of_mem _ hx)
theorem Bits.head {b : Int} {r : List Int} (h : Bits (b :: r)) : b = 0 ∨ b = 1 := h b List.mem_cons_self
theorem Bits.append {a b : List Int} (h : Bits a) (h2 : Bits b) : Bits (a ++ b) := fun x hx => (List.mem_append.mp hx).elim (h x) (h2 x)
theorem Bits.take {a : List Int} (h : Bits a) (n : Nat) : Bits (a.take n) := fun x hx => h x (List.mem_of_mem_take hx)
theorem Bits.drop {a : List Int} (h : Bits a) (n : Nat) : Bits (a.drop n) := fun x hx => h x (List.mem_of_mem_drop hx)
theorem numV_nonneg : ∀ {bs : List Int}, Bits bs → 0 ≤ numV bs
  | [], _ => Int.le_refl _
  | b :: r, h => by
    have := numV_nonneg h.tail
    have := h.head
    simp only [numV]
    omega
theorem pow_succ2 (n : Nat) : (2 : Int) ^ (n + 1) = 2 * 2 ^ n := by rw [Int.pow_succ, Int.mul_comm]
theorem numV_app : ∀ (a b : List Int), numV (a ++ b) = numV a + 2 ^ a.length * numV b
  | [], b => by simp [numV]
  | x :: r, b => by
    simp only [List.cons_append, numV, numV_app r b, List.length_cons, pow_succ2, Int.mul_add, Int.mul_assoc]
    omega
theorem numV_lt : ∀ {bs : List Int}, Bits bs → numV bs < 2 ^ bs.length
  | [], _ => by simp [numV]
  | b :: r, h => by
    have := numV_lt h.tail
    have := h.head
    simp only [numV, List.length_cons, pow_succ2]
    omega
theorem numV_drop : ∀ {bs : List Int} (k : Nat), Bits bs → numV (bs.drop k) = numV bs / 2 ^ k
  | bs, 0, _ => by simp
  | [], k + 1, _ => by simp [numV]
  | b :: r, k + 1, h => by
    rw [List.drop_succ_cons, numV_drop k h.tail, pow_succ2, ← Int.ediv_ediv_of_nonneg (by decide)]
    have := h.head
    simp only [numV]
    congr 1
    omega
theorem numV_take : ∀ {bs : List Int} (n : Nat), Bits bs → numV (bs.take n) = numV bs % 2 ^ n
  | bs, 0, _ => by simp [numV]
  | [], n + 1, _ => by simp [numV]
  | b :: r, n + 1, h => by
    rw [List.take_succ_cons]
    have hb := h.head
    have hr := numV_nonneg h.tail
    have e := emod_mul (W := b + 2 * numV r) (by omega) 2 (2 ^ n)
    have e1 : ((2 * 2 ^ n : Nat) : Int) = 2 ^ (n + 1) := by rw [pow_succ2]; simp
    rw [e1] at e
    simp only [numV]
    rw [e, numV_take n h.tail]
    have e2 : ((2 ^ n : Nat) : Int) = 2 ^ n := by simp
    rw [e2]
    have e3 : (b + 2 * numV r) / ((2 : Nat) : Int) = numV r := by omega
    rw [e3]
    omega
theorem numV_zeros (n : Nat) : numV (List.replicate n 0) = 0 := by
  induction n with
  | zero => rfl
  | succ n ih => rw [List.replicate_succ]; simp [numV, ih]
theorem flat_zeros (k : Nat) : (List.replicate k [(0 : Int)]).flatten = List.replicate k 0 := by
  induction k with
  | zero => rfl
  | succ k ih => rw [List.replicate_succ, List.flatten_cons, ih, List.replicate_succ]; rfl
theorem pick_sum (g : Int → Bool) (f : Int → Int) : ∀ (ks l : List Int), (ks.foldl (fun l' k' => if g k' then l' ++ [f k'] else l') l).sum = l.sum + (ks.map fun k => if g k then f k else 0).sum
  | [], l => by simp
  | k :: r, l => by
    rw [List.foldl_cons, pick_sum g f r]
    by_cases h : g k
    · simp [h]
      omega
    · simp [h]
theorem numR_sum (ns : List Int) : numR ns = ((List.range ns.length).map fun i => if ns.getD i 0 = 1 then (2 : Int) ^ i else 0).sum := by
  have h := pick_sum (fun k => decide (ns.getD k.toNat 0 = 1)) (fun k => 2 ^ k.toNat) (rangeKs 0 ((ns.length : Int) - 0).toNat) []
  simp only [decide_eq_true_eq] at h
  unfold numR
  rw [h, show ((ns.length : Int) - 0).toNat = ns.length from by omega, rangeKs, List.map_map]
  simp only [List.sum_nil, Int.zero_add]
  congr 1
theorem sum_double (f : Nat → Int) : ∀ (l : List Nat), (l.map fun i => 2 * f i).sum = 2 * (l.map f).sum
  | [] => rfl
  | a :: r => by
    simp only [List.map_cons, List.sum_cons, sum_double f r]
    omega
theorem numR_eq : ∀ {bs : List Int}, Bits bs → numR bs = numV bs
  | [], _ => by rw [numR_sum]; rfl
  | b :: r, h => by
    have ih := numR_eq h.tail
    rw [numR_sum] at ih
    rw [numR_sum, List.length_cons, List.range_succ_eq_map, List.map_cons, List.map_map, List.sum_cons]
    have e : (List.map ((fun i => if (b :: r).getD i 0 = 1 then (2 : Int) ^ i else 0) ∘ Nat.succ) (List.range r.length)) = (List.range r.length).map fun i => 2 * (if r.getD i 0 = 1 then (2 : Int) ^ i else 0) := by
      refine List.map_congr_left fun i _ => ?_
      simp only [Function.comp, Nat.succ_eq_add_one, List.getD_cons_succ, pow_succ2]
      split <;> simp
    rw [e, sum_double, ih]
    simp only [numV, List.getD_cons_zero]
    rcases h.head with rfl | rfl <;> simp
theorem bits_whole {ns : List Int} (h : Bits ns) : Bits (wholeR ns) := by
  refine h.append fun x hx => ?_
  rw [flat_zeros] at hx
  exact .inl (List.eq_of_mem_replicate hx)
theorem numV_whole (ns : List Int) : numV (wholeR ns) = numV ns := by
  show numV (ns ++ _) = _
  rw [numV_app, flat_zeros, numV_zeros]
  simp
/-- the octets that the text reckons are the word's octets -/
theorem octR_eq {ns : List Int} (h : Bits ns) : octR ns = wOct (numV ns) ns.length := by
  have hn : ((wholeR ns).length + 7) / 8 = (ns.length + 7) / 8 := by rw [wholeR_len]; omega
  rw [wOct_eq]
  unfold octR stepKs
  rw [hn, List.map_map]
  refine List.map_congr_left fun i hi => ?_
  have hi := List.mem_range.mp hi
  show numR (List.take _ (List.drop (0 + (i : Int) * 8).toNat (wholeR ns))) = _
  rw [show (0 + (i : Int) * 8).toNat = 8 * i from by omega, show (0 + (i : Int) * 8 + 8).toNat = 8 * i + 8 from by omega]
  rw [show min (8 * i + 8) (wholeR ns).length - 8 * i = 8 from by rw [wholeR_len]; omega]
  have hw := bits_whole h
  rw [numR_eq ((hw.drop _).take _), numV_take _ (hw.drop _), numV_drop _ hw, numV_whole]
  rfl
theorem bitsL_len (n wd : Int) : (bitsL n wd).length = wd.toNat := by simp [bitsL, rangeKs]
theorem bitsL_bits (n wd : Int) : Bits (bitsL n wd) := fun x hx => by
  obtain ⟨k, _, rfl⟩ := List.mem_map.mp hx
  have h1 := Int.fmod_nonneg_of_pos (n.fdiv (2 ^ k.toNat)) (b := 2) (by decide)
  have h2 := Int.fmod_lt_of_pos (n.fdiv (2 ^ k.toNat)) (b := 2) (by decide)
  omega
theorem bitsL_eq (n : Int) (wd : Nat) : bitsL n wd = (List.range wd).map fun i => n / 2 ^ i % 2 := by
  unfold bitsL rangeKs
  rw [List.map_map, show ((wd : Int) - 0).toNat = wd from by omega]
  refine List.map_congr_left fun i _ => ?_
  show (n.fdiv (2 ^ (0 + (i : Int)).toNat)).fmod 2 = _
  rw [show (0 + (i : Int)).toNat = i from by omega, Int.fdiv_eq_ediv_of_nonneg _ (Int.le_of_lt (Int.pow_pos (by decide))), Int.fmod_eq_emod_of_nonneg _ (by decide)]
theorem numV_bitsL : ∀ (n : Int) (wd : Nat), numV (bitsL n wd) = n % 2 ^ wd
  | n, 0 => by rw [bitsL_eq]; simp [numV]
  | n, wd + 1 => by
    have ih := numV_bitsL (n / 2) wd
    rw [bitsL_eq] at ih ⊢
    rw [List.range_succ_eq_map, List.map_cons, List.map_map]
    have e : (List.map ((fun i => n / 2 ^ i % 2) ∘ Nat.succ) (List.range wd)) = (List.range wd).map fun i => n / 2 / 2 ^ i % 2 := by
      refine List.map_congr_left fun i _ => ?_
      simp only [Function.comp, Nat.succ_eq_add_one]
      rw [pow_succ2, Int.ediv_ediv_of_nonneg (by decide)]
    simp only [numV]
    rw [e, ih, pow_succ2]
    have q : (0 : Int) < 2 ^ wd := Int.pow_pos (by decide)
    simp only [Int.pow_zero, Int.ediv_one]
    have a1 := Int.emod_add_mul_ediv n (2 * 2 ^ wd)
    have a2 := Int.emod_add_mul_ediv (n / 2) (2 ^ wd)
    have a3 := Int.emod_add_mul_ediv n 2
    rw [Int.ediv_ediv_of_nonneg (by decide)] at a2
    rw [Int.mul_assoc] at a1
    omega
end Mine
end

section
namespace Mine
theorem wordsW00 : True := by
  k_with_none
  w_top off
  k_with "a9" => (with_reducible assumption)
  k_with "c9" => (repeat (with_reducible rename _ ∧ _ => hA9; clear hA9)); (repeat (with_reducible rename _ ≠ _ => hA9; clear hA9))
  k_with "u9" => ((with_reducible rename News _ _ _ _ => N9); dsimp +zetaDelta only at N9)
  k_with "p0" => (refine offAt (by fail "a9") 0 ?_; exact rfl)
  k_with "p1" => (refine offAt (by fail "a9") 1 ?_; exact rfl)
  k_with "p2" => (refine offAt (by fail "a9") 2 ?_; exact rfl)
  k_with "p3" => (refine offAt (by fail "a9") 3 ?_; exact rfl)
  k_with "p4" => (refine offAt (by fail "a9") 4 ?_; exact rfl)
  k_with "p5" => (refine offAt (by fail "a9") 5 ?_; exact rfl)
  k_with "p6" => (refine offAt (by fail "a9") 6 ?_; exact rfl)
  k_with "p7" => (refine offAt (by fail "a9") 7 ?_; exact rfl)
  k_with "p8" => (refine offAt (by fail "a9") 8 ?_; exact rfl)
  k_with "p9" => (refine offAt (by fail "a9") 9 ?_; exact rfl)
  k_with "p10" => (refine offAt (by fail "a9") 10 ?_; exact rfl)
  k_with "p11" => (refine offAt (by fail "a9") 11 ?_; exact rfl)
  k_with "p12" => (refine offAt (by fail "a9") 12 ?_; exact rfl)
  k_with "p13" => (refine offAt (by fail "a9") 13 ?_; exact rfl)
  k_with "p14" => (refine ltAt (by fail "a9") 0 ?_; exact rfl)
  k_with "p15" => (refine ltAt (by fail "a9") 1 ?_; exact rfl)
  k_with "p16" => (refine ltAt (by fail "a9") 2 ?_; exact rfl)
  k_with "p17" => (refine ltAt (by fail "a9") 3 ?_; exact rfl)
  k_with "p18" => (refine ltAt (by fail "a9") 4 ?_; exact rfl)
  k_with "p19" => (refine ltAt (by fail "a9") 5 ?_; exact rfl)
  k_with "p20" => (refine ltAt (by fail "a9") 6 ?_; exact rfl)
  k_with "p21" => (refine ltAt (by fail "a9") 7 ?_; exact rfl)
  k_with "p22" => (refine ltAt (by fail "a9") 8 ?_; exact rfl)
  k_with "p23" => (refine ltAt (by fail "a9") 9 ?_; exact rfl)
  k_with "p24" => (refine ltAt (by fail "a9") 10 ?_; exact rfl)
  k_with "p25" => (refine ltAt (by fail "a9") 11 ?_; exact rfl)
  k_with "p26" => (refine ltAt (by fail "a9") 12 ?_; exact rfl)
  k_with "p27" => (refine ltAt (by fail "a9") 13 ?_; exact rfl)
  k_with "r9" => (fail "w1")
  k_with "w1" => (first | fail "a9" | exact Nat.le_of_lt (by fail "a9"))
  k_with "offs9" => (first | fail "p0" | fail "p1" | fail "p2" | fail "p3" | fail "p4" | fail "p5" | fail "p6" | fail "p7" | fail "p8" | fail "p9" | fail "p10" | fail "p11" | fail "p12" | fail "p13" | fail "p14" | fail "p15" | fail "p16" | fail "p17" | fail "p18" | fail "p19" | fail "p20" | fail "p21" | fail "p22" | fail "p23" | fail "p24" | fail "p25" | fail "p26" | fail "p27")
  k_with "mem9" => (fail "w2")
  k_with "w2" => (first | exact List.Mem.head _ | exact List.Mem.tail _ (List.Mem.head _) | (refine memAt 0 ?_; exact rfl) | (refine memAt 1 ?_; exact rfl) | (refine memAt 2 ?_; exact rfl) | (refine memAt 3 ?_; exact rfl) | (refine memAt 4 ?_; exact rfl) | (refine memAt 5 ?_; exact rfl) | (refine memAt 6 ?_; exact rfl) | (refine memAt 7 ?_; exact rfl) | (refine memAt 8 ?_; exact rfl) | (refine memAt 9 ?_; exact rfl) | (refine memAt 10 ?_; exact rfl) | (refine memAt 11 ?_; exact rfl) | (refine memAt 12 ?_; exact rfl) | (refine memAt 13 ?_; exact rfl) | (refine memAt 14 ?_; exact rfl) | (refine memAt 15 ?_; exact rfl) | (refine memAt 16 ?_; exact rfl) | (refine memAt 17 ?_; exact rfl))
  k_with "lts9" => (fail "w3")
  k_with "w3" => (first | (refine ltB (by fail "a9") 0 ?_; exact rfl) | (refine ltB (by fail "a9") 1 ?_; exact rfl) | (refine ltB (by fail "a9") 2 ?_; exact rfl) | (refine ltB (by fail "a9") 3 ?_; exact rfl) | (refine ltB (by fail "a9") 4 ?_; exact rfl) | (refine ltB (by fail "a9") 5 ?_; exact rfl) | (refine ltB (by fail "a9") 6 ?_; exact rfl) | (refine ltB (by fail "a9") 7 ?_; exact rfl) | (refine ltB (by fail "a9") 8 ?_; exact rfl) | (refine ltB (by fail "a9") 9 ?_; exact rfl) | (refine ltB (by fail "a9") 10 ?_; exact rfl) | (refine ltB (by fail "a9") 11 ?_; exact rfl) | (refine ltB (by fail "a9") 12 ?_; exact rfl) | (refine ltB (by fail "a9") 13 ?_; exact rfl))
  k_with "rooms9" => (fail "w4")
  k_with "w4" => (first | (refine rl2 (by fail "r9") ?_; exact rfl) | (refine rl1 (by fail "r9") ?_; exact rfl) | (refine rl3 (by fail "r9") ?_; exact rfl) | (refine rl0 (by fail "r9") ?_; exact rfl) | (refine rl4 (by fail "r9") ?_; exact rfl) | (refine rm2 (by fail "r9") ?_; exact rfl) | (refine rm1 (by fail "r9") ?_; exact rfl) | (refine rm3 (by fail "r9") ?_; exact rfl) | (refine rm0 (by fail "r9") ?_; exact rfl) | (refine rm4 (by fail "r9") ?_; exact rfl))
  k_with "k_ne" => (fail "w5")
  k_with "w5" => (refine neN ?_; (try dsimp only); first | fail "a9" | (refine Ne.symm ?_; fail "a9") | exact Nat.ne_of_lt (by fail "a9") | exact Nat.ne_of_gt (by fail "a9") | k_extra "offs9" | (refine Ne.symm ?_; first | k_extra "offs9") | ((try simp only [LCg.Off1, and_true] at *); omega))
  k_with "k_mem" => (fail "w6")
  k_with "w6" => (first | fail "a9" | k_extra "mem9")
  k_with "k_memK" => (first | k_extra "mem9")
  k_with "is_list" => (fail "w7")
  k_with "w7" => (exact News.isList (by fail "a9") (by k_mem))
  k_with "ktr_room" => (fail "w8")
  k_with "w8" => ((try dsimp only [depth_under_make, depth_under_kw, depth_in1, depth_deeper, depth_caller]); (try dsimp only [ktrTop]); first | decide | k_extra "rooms9")
  k_with "units_room" => (fail "w9")
  k_with "w9" => ((try dsimp only [units_in1, units_deeper, Around.mark_units, units_caller]); (try dsimp only [ktrTop]); first | decide | k_extra "rooms9")
  k_with "l_idx" => ((k_extra "c9"); omega)
  k_with "l_fit" => ((k_extra "c9"); omega)
  k_with "ktr_units" => (fail "w10")
  k_with "w10" => ((try dsimp only [units_in1, units_deeper, Around.mark_units, units_caller]); (try dsimp only [ktrTop]); first | decide | k_extra "rooms9")
  k_with "execs cons" => (fail "w11")
  k_with "w11" => (k_here; first | k_gentoks | ((try dsimp only); (try k_gentoks); (try (with_reducible refine letA ?_; intro A9)); (try ((with_reducible rename Fr _ _ _ _ => F9); refine letF F9 ?_; clear F9; intro m9 F9)); (try ((with_reducible rename News _ _ _ _ => N9); refine letN N9 ?_; clear N9; intro n9 N9)); (first | (with_reducible refine execHidB fun q9 hq9 => ?_) | (refine hideQ fun q9 hq9 => ?_; with_reducible refine execHidB fun q9 hq9 => ?_))))
  k_with "Hid" => (fail "w12")
  k_with "w12" => (first | ((with_reducible refine unhidNextT (by fail "a9") ?_); intro tk9; (try dsimp only)) | ((with_reducible refine unhidNext (by fail "a9") ?_); (try dsimp only)) | ((with_reducible refine unhidRet (by fail "a9") ?_); (try dsimp only)) | ((with_reducible refine unhid (by fail "a9") ?_); (try dsimp only [Behind])))
  k_with "spliced" => (fail "w13")
  k_with "w13" => (k_here; (with_reducible show wpAny _ _ (spliced (backTo _ (starEach (_ :: _ :: _ :: _) _))) _ _ _); k_dflt (refine' args_cons ?_ ?_; rotate_left; rfl))
  k_with "spliced" => (fail "w14")
  k_with "w14" => (k_here; k_dflt ((refine' argsF ?_ ?_ ?_ ?_); (rotate_left 4); k_asm; rfl; rfl); (try dsimp only [List.nil_append, List.cons_append]))
  k_with "eval Call" => (fail "w15")
  k_with "w15" => (k_here; (with_reducible show wpAny _ _ (eval (PySem.Expr.Call (PySem.Expr.Name _ _) (_ :: _) [] _) _) _ _ _); first | (k_dflt ((refine' callF ?_ ?_ ?_ ?_ ?_ ?_ ?_ ?_ ?_ ?_ ?_); (rotate_left 10); k_asm; k_asm; k_asm; k_is; k_is; rfl; rfl; rfl; rotate_left; decide; rfl)) | k_compRoot | k_dflt (refine' Call_ ?_))
  k_with "eval Name" => (fail "w16")
  k_with "w16" => (k_here; (with_reducible show wpAny _ _ (eval (PySem.Expr.Name _ _) (envOf _ _ _ _ _)) _ _ _); first | k_dflt ((refine' nameX_K ?_ ?_ ?_ ?_ ?_ ?_ ?_ ?_); (rotate_left 8); k_asm; k_asm; k_asm; k_is; rotate_left; rfl; rfl; decide) | k_dflt ((refine' nameX_L ?_ ?_ ?_ ?_ ?_ ?_); (rotate_left 3); k_asm; rfl; rotate_left; rfl; rfl; decide))
  k_with "callWith ref" => (fail "w17")
  k_with "w17" => (k_here; (with_reducible show wpAny _ _ (callWith _ _ _ (backTo _ (starEach [] _)) []) _ _ _); k_dflt (refine callF0 (by fail "a9") (by fail "a9") (by k_is) ?_))
  k_with "last getItem" => k_extra "u9"
  k_with "last setItem" => k_extra "u9"
  k_with "last setAttr" => k_extra "u9"
  k_with "last getAttr" => k_extra "u9"
  k_with "last subscriptTail" => k_extra "u9"
  k_with "last getMethod" => k_extra "u9"
  k_with "last call" => k_extra "u9"
  k_with "last pyIter" => k_extra "u9"
  k_with "last eval" => k_extra "u9"
  k_with "last exec" => k_extra "u9"
  k_with "last inplaceOp" => k_extra "u9"
  k_with "last binaryOp" => k_extra "u9"
  k_with "last InvEndN" => k_extra "u9"
  k_with "last GEnd" => k_extra "u9"
  k_with "last KEnd" => k_extra "u9"
  k_with "last LeaveT" => k_extra "u9"
  k_with "last noteFrame" => k_extra "u9"
  k_with "last leaving" => k_extra "u9"
  k_with "ktr_enter" => (fail "w18")
  k_with "w18" => first | (refine enterK (by assumption) (by assumption) (by k_is) (by k_is) (by ktr_room) (by exact BindsTo.of_eq rfl) (by exact locs rfl) ?_ (by exact rfl) (by exact rfl) (by exact rfl) (by decide); k_whole; intro g' L' h' F' N' B' X' T' lN' gN' tk9'; (try k_lt lN'); (try dsimp only); (try k_fold)) | (refine enterC (by assumption) (by assumption) (by k_is) (by k_is) (by ktr_room) (by exact BindsTo.of_eq rfl) (by exact rfl) (by decide +kernel) ?_ (by exact rfl) (by exact rfl) (by exact rfl); k_whole; intro g' L' h' tk' cells' F' N' Y' B' X' T' lN' gN'; (try k_lt lN'); k_cells Y'; (try simp only [List.cons_append, List.nil_append] at N'); (try dsimp only); (try k_fold))
  trivial
theorem bwriter_spec {prog p : Program} {w : World} {loose : List Str} {mean : ExcName → Option Value} {mg mb : Str → Option Value} {dp un : Nat} {gd : Option (List Code)} {cn : Str} {cs : Scope} {a : Addr} {ccd : Value} {outer : List Env} {A₀ : Around} {base h₀ : Heap} {L : Addr} {m : Str → Option Value} {s : Shared} {Q E : Value → Shared → Prop}
    {news : List (Addr × Obj)} {cl : List (Str × Addr)}
    (S : Site w p loose mean mg mb cs outer A₀ base h₀ L m news s.heap)
    (hdp : dp + 4 < recursionLimit) (hun : un + 40 < cLine)
    (h : ∀ (r dr : Addr) ea eb k1 k2 t1 t2 (h' : Heap) (tk' : Nat), LCg.Off1 r news → LCg.Off1 dr news → (@Ne Nat r dr) →
      Fr h₀ L h' m → News h₀ L h' ((r, instObj 103 dr) :: (dr, dictOf [⟨ea, .str (Str.ofString "word") k1, .int 0 t1⟩, ⟨eb, .str (Str.ofString "count") k2, .int 0 t2⟩] 2) :: news) → Q (.ref r) { s with heap := h', toks := tk' }) :
    wpAny (model prog w) (ktrTop dp un gd cn cs L a ccd cl outer) (call (.ref 103) []) Q E s := by
  refine' enterI S ?k1 ?k2 ?k3 ?k4 ?k5 ?k6 ?k7 ?k8 ?_ ?c1 ?c2 ?c3 ?c4
  case k1 => k_is
  case k2 => k_is
  case k3 => k_is
  case k4 => k_is
  case k5 => k_is
  case k6 => ktr_room
  case k7 => exact fun _ _ => BindsTo.of_eq rfl
  case k8 => exact fun _ => locs rfl
  case c1 => exact rfl
  case c2 => exact rfl
  case c3 => exact rfl
  case c4 => decide
  k_whole
  intro x' d' g' L' h' tk' o1' o2' n1' F' N' B' X' T' lN'
  try dsimp only
  try k_fold
  k_steps
  exact leaveE_ (by assumption) (by assumption) ⟨rfl, (_, instObj 103 _) :: (_, dictOf [⟨_, .str _ _, .int _ _⟩, ⟨_, .str _ _, .int _ _⟩] 2) :: news, fun q hq => by
    rcases List.mem_cons.mp hq with rfl | hq
    · exact .inl List.mem_cons_self
    · rcases List.mem_cons.mp hq with rfl | hq
      · exact .inl (List.mem_cons_of_mem _ List.mem_cons_self)
      · exact .inr hq, fun F9 N9 => h _ _ _ _ _ _ _ _ _ _ (by assumption) (by assumption) (by assumption) F9 N9⟩
theorem mask_bits {v : Int} {wd C : Nat} (hwd : wd ≤ 64) (hC : C ≤ 400) : (Builtin.Int.intBits (Builtin.bitAnd v (1 * 2 ^ ((wd : Int)).toNat - 1)) : Int) + (C : Int) ≤ 2 ^ 27 := by
  have e : Builtin.bitAnd v (1 * 2 ^ ((wd : Int)).toNat - 1) = v % 2 ^ wd := by rw [Int.one_mul, Int.toNat_natCast, kbt_mask]
  have h0 : (0 : Int) < 2 ^ wd := Int.pow_pos (by decide)
  have h1 := Int.emod_nonneg v (Int.ne_of_gt h0)
  have h2 := Int.emod_lt_of_pos v h0
  have e2 : ((2 : Int) ^ wd) = ((2 ^ wd : Nat) : Int) := by simp
  have : Builtin.Int.intBits (v % 2 ^ wd) ≤ wd := intBits_le_iff.mpr (by omega)
  rw [e]
  omega
theorem put_word {W v : Int} {C wd : Nat} (h0 : 0 ≤ W) (h1 : W < 2 ^ C) : Builtin.bitOr W (Builtin.bitAnd v (1 * 2 ^ wd - 1) * 2 ^ C) = W + v % 2 ^ wd * 2 ^ C := by
  rw [Int.one_mul, kbt_mask, or_shift h0 h1 (Int.emod_nonneg _ (Int.ne_of_gt (Int.pow_pos (by decide))))]
theorem put_range {W v : Int} {C wd : Nat} (h0 : 0 ≤ W) (h1 : W < 2 ^ C) : 0 ≤ W + v % 2 ^ wd * 2 ^ C ∧ W + v % 2 ^ wd * 2 ^ C < 2 ^ (C + wd) := by
  have p : (0 : Int) < 2 ^ C := Int.pow_pos (by decide)
  have q : (0 : Int) < 2 ^ wd := Int.pow_pos (by decide)
  have a := Int.emod_nonneg v (Int.ne_of_gt q)
  have b := Int.emod_lt_of_pos v q
  have c : 0 ≤ v % 2 ^ wd * 2 ^ C := Int.mul_nonneg a (Int.le_of_lt p)
  have d : (v % 2 ^ wd + 1) * 2 ^ C ≤ 2 ^ wd * 2 ^ C := Int.mul_le_mul_of_nonneg_right (by omega) (Int.le_of_lt p)
  rw [Int.add_mul, Int.one_mul] at d
  rw [Int.pow_add, Int.mul_comm (2 ^ C)]
  omega
theorem put_cond {h₀ h : Heap} {L : Addr} {news : List (Addr × Obj)} {wr dw : Addr} {od o' io : Obj} {gU : Obj → List (Addr × Obj)} (N : News h₀ L h news) (U : UpdF dw od news gU) (hr : (wr, io) ∈ news) :
    ∀ q ∈ gU o', q ∈ [(wr, io), (dw, o')] ∨ (q ∈ news ∧ ∀ x ∈ [(wr, io), (dw, od)], q.1 ≠ x.1) := by
  intro q hq
  rcases updF_are U q hq with rfl | ⟨hn, hc⟩
  · exact .inl (List.mem_cons_of_mem _ List.mem_cons_self)
  · by_cases e : q.1 = wr
    · refine .inl ?_
      obtain ⟨q1, q2⟩ := q
      have e' : q1 = wr := e
      subst e'
      rw [news_fun N hn hr]
      exact List.mem_cons_self
    · refine .inr ⟨hn, fun x hx => ?_⟩
      rcases List.mem_cons.mp hx with rfl | hx
      · exact e
      · rcases List.mem_cons.mp hx with rfl | hx
        · exact hc
        · nomatch hx
theorem wordsW01 : True := by
  k_with "binaryOp LShift int int" => (fail "w19")
  k_with "w19" => (k_here; refine lshift_int (by first | ((k_extra "c9"); omega) | omega) (mask_bits (by assumption) (by assumption)) ?_; (try dsimp only))
  trivial
theorem put_spec {prog p : Program} {w : World} {loose : List Str} {mean : ExcName → Option Value} {mg mb : Str → Option Value} {dp un : Nat} {gd : Option (List Code)} {cn : Str} {cs : Scope} {a : Addr} {ccd : Value} {outer : List Env} {A₀ : Around} {base h₀ : Heap} {L : Addr} {m : Str → Option Value} {s : Shared} {Q E : Value → Shared → Prop}
    {news : List (Addr × Obj)} {cl : List (Str × Addr)}
    {wr dw : Addr} {ea eb : Int} {k1 k2 t1 t2 tv tw : Tok} {W v : Int} {C wd : Nat} {gU : Obj → List (Addr × Obj)}
    (S : Site w p loose mean mg mb cs outer A₀ base h₀ L m news s.heap)
    (hr : (wr, instObj 103 dw) ∈ news) (U : UpdF dw (dictOf [⟨ea, .str (Str.ofString "word") k1, .int W t1⟩, ⟨eb, .str (Str.ofString "count") k2, .int (C : Int) t2⟩] 2) news gU)
    (hne : wr ≠ dw) (hW : 0 ≤ W) (hW2 : W < 2 ^ C) (hC : C ≤ 400) (hwd : wd ≤ 64)
    (hdp : dp + 4 < recursionLimit) (hun : un + 40 < cLine)
    (h : ∀ (W' : Int) (t1 t2 : Tok) (h' : Heap) (tk' : Nat), W' = W + v % 2 ^ wd * 2 ^ C → 0 ≤ W' → W' < 2 ^ (C + wd) →
      Fr h₀ L h' m → News h₀ L h' (gU (dictOf [⟨ea, .str (Str.ofString "word") k1, .int W' t1⟩, ⟨eb, .str (Str.ofString "count") k2, .int ((C + wd : Nat) : Int) t2⟩] 2)) → Q .none { s with heap := h', toks := tk' }) :
    wpAny (model prog w) (ktrTop dp un gd cn cs L a ccd cl outer) (call (.ref 95) [.ref wr, .int v tv, .int (wd : Int) tw]) Q E s := by
  have hsub : ∀ q ∈ [(wr, instObj 103 dw), (dw, dictOf [⟨ea, .str (Str.ofString "word") k1, .int W t1⟩, ⟨eb, .str (Str.ofString "count") k2, .int (C : Int) t2⟩] 2)], q ∈ news := by
    intro q hq
    rcases List.mem_cons.mp hq with rfl | hq
    · exact hr
    · rcases List.mem_cons.mp hq with rfl | hq
      · exact updF_was U
      · nomatch hq
  have hne := neN hne
  k_dflt ktr_enter
  k_steps
  have e9 : Builtin.bitOr W (Builtin.bitAnd v (1 * 2 ^ ((wd : Int)).toNat - 1) * 2 ^ ((C : Int)).toNat) = W + v % 2 ^ wd * 2 ^ C := by rw [Int.toNat_natCast, Int.toNat_natCast, put_word hW hW2]
  with_reducible rename News _ _ _ _ => n9
  rw [e9, ← Int.natCast_add] at n9
  have b9 := put_range (v := v) (wd := wd) hW hW2
  exact leaveE_ (by assumption) n9 ⟨gU _, put_cond S.N U hr, fun F9 N9 => h _ _ _ _ _ rfl b9.1 b9.2 F9 N9⟩
end Mine
end

section
namespace Mine
theorem resetR2 : True := by (k_with_none; w_top off); trivial
/-- a reader made from a writer's octets -/
theorem breader_w {prog p : Program} {w : World} {loose : List Str} {mean : ExcName → Option Value} {mg mb : Str → Option Value} {dp un : Nat} {gd : Option (List Code)} {cn : Str} {cs : Scope} {a : Addr} {ccd : Value} {outer : List Env} {A₀ : Around} {base h₀ : Heap} {L : Addr} {m : Str → Option Value} {s : Shared} {Q E : Value → Shared → Prop}
    {news : List (Addr × Obj)} {cl : List (Str × Addr)}
    {b : Array UInt8} {t : Tok} {W : Int} {C n : Nat}
    (S : Site w p loose mean mg mb cs outer A₀ base h₀ L m news s.heap)
    (hb : KBw.bInts b = wOct W C) (hW : 0 ≤ W) (hW2 : W < 2 ^ C) (hlen : C ≤ 300) (hn : 8 * ((C + 7) / 8) = n)
    (hdp : dp + 4 < recursionLimit) (hun : un + 40 < cLine)
    (h : ∀ (r dr : Addr) ea eb ec k1 k2 k3 t1 t2 t3 (h' : Heap) (tk' : Nat), LCg.Off1 r news → LCg.Off1 dr news → (@Ne Nat r dr) →
      Fr h₀ L h' m → News h₀ L h' ((r, instObj 138 dr) :: (dr, dictOf [⟨ea, .str (Str.ofString "word") k1, .int W t1⟩, ⟨eb, .str (Str.ofString "count") k2, .int (n : Int) t2⟩, ⟨ec, .str (Str.ofString "at") k3, .int 0 t3⟩] 3) :: news) → Q (.ref r) { s with heap := h', toks := tk' }) :
    wpAny (model prog w) (ktrTop dp un gd cn cs L a ccd cl outer) (call (.ref 138) [.bytes b t]) Q E s := by
  refine breader_spec S hb (wOct_in _ _) (by rw [wOct_len]; omega) hdp hun fun r dr ea eb ec k1 k2 k3 t1 t2 t3 h' tk' o1 o2 n1 F' N' => ?_
  rw [rdV_wOct hW hW2, wOct_len, show (8 * (((C + 7) / 8 : Nat) : Int)) = ((n : Nat) : Int) from by omega] at N'
  exact h r dr ea eb ec k1 k2 k3 t1 t2 t3 h' tk' o1 o2 n1 F' N'
end Mine
end

section
namespace Mine
theorem resetLB : True := by (k_with_none; w_top off); trivial
theorem ints_of_get : ∀ {vs : List Value} {ns : List Int}, vs.length = ns.length → (∀ (j : Nat) v, vs[j]? = some v → ∃ n t, ns[j]? = some n ∧ v = .int n t) → IntsAre vs ns
  | [], [], _, _ => .nil
  | [], _ :: _, h, _ => by simp at h
  | _ :: _, [], h, _ => by simp at h
  | v :: vs, n :: ns, h, g => by
    obtain ⟨n', t, e, rfl⟩ := g 0 v rfl
    have e' : n = n' := by simpa using e
    subst e'
    exact .cons n t (ints_of_get (by simpa using h) fun j u hu => g (j + 1) u (by simpa using hu))
section
variable {prog : Program} {w : World} {A : Around} {E : Value → Shared → Prop} {s : Shared} {b : Array UInt8} {t : Tok}
/-- the octets that a list of bytes holds -/
abbrev OctAt (b : Array UInt8) (i : Nat) (v : Value) : Prop := ∃ c u, b[i]? = some c ∧ v = .int (c.toNat : Int) u
theorem hint_bytes {Q : Bool → Shared → Prop} (h : Q false s) : wpAny (model prog w) A (Builtin.List.listLengthHint (.bytes b t)) Q E s := by
  unfold Builtin.List.listLengthHint
  refine wpAny_bind (wpAny_specialOf (typeIs_bytes s b t) FB.slot_bytes_len.lookup ?_)
  wp_delta
  refine wpAny_bind (wpAny_isInstance (T := "bytes") (v := .bytes b t) (b := true) (typeIs_bytes s b t) (by rw [isSubtype_type]; kernel_rfl) ?_)
  show wpAny _ _ (typeOf (Value.bytes b t) >>= _) _ _ _
  refine wpAny_bind (wpAny_typeOf (T := "bytes") (v := .bytes b t) (typeIs_bytes s b t) ?_)
  exact wpAny_pure h
/-- a fresh list takes the octets -/
theorem fill_bytes {R : Result → Shared → Prop} (hh : A.handled = none) (S : Addr) (res : Value) (c₀ : Nat) (hS : s.heap.get? S = some { cls := .type "list", data := .seq #[] c₀ }) (hn : b.size ≤ sizeLine)
    (hR : ∀ h' tk acc' c', (∀ d o, d ≠ S → s.heap.get? d = some o → h'.get? d = some o) → h'.get? S = some { cls := .type "list", dict := none, data := .seq acc' c', slots := #[] } →
      ItemsOf (OctAt b) acc' b.size → R (.ok (.ret res)) { s with heap := h', toks := tk }) :
    wpAny (model prog w) A.in1 (Builtin.List.listExtendWith (.ref S) (.bytes b t) res)
      (fun fin s' => match fin with | .done f => R (.ok f) s' | .again c' => c'.quiet = true ∧ codeAny (model prog w) A c' R s') (fun e s' => R (.error e) s') s := by
  have ne : S ≠ s.heap.objs.size := Nat.ne_of_lt (Heap.lt_size hS)
  have nf : S ∉ [s.heap.objs.size] := fun hm => ne (List.mem_singleton.mp hm)
  unfold Builtin.List.listExtendWith
  refine wpAny_bind (wpAny_typeOf (T := "bytes") (v := .bytes b t) (typeIs_bytes s b t) ?_)
  have e1 : Builtin.List.listSameRef (.ref S) (.bytes b t) = false := rfl
  have e2 : (Value.type "bytes" == Value.type "list") = false := by decide
  have e3 : (Value.type "bytes" == Value.type "tuple") = false := by decide
  simp only [e1, e2, e3, Bool.or_false, Bool.false_eq_true, if_false]
  refine wpAny_bind (KBw.pyIter_bytes (wpAny_bind (wpAny_holding (hint_bytes ?_))))
  rw [if_neg (by decide)]
  refine wpAny_pure ⟨plainId_quiet F.plain_extend_loop _, codeAny_extend_loopS (KBw.walks (A := A.in1) hh s.heap.objs.size b t).toS hn _ nf _ b.size 0 _ _ _ rfl (Nat.zero_le _) ⟨_, Heap.get?_push_size _ rfl, rfl, rfl⟩ (Heap.get?_push_of_some _ hS) (ItemsOf.nil _) fun s' acc' c' hm hS' hacc => ?_⟩
  rw [Moved.eq_with hm]
  refine hR s'.heap s'.toks acc' c' (fun d o hd e => hm.heap d o (fun hm' => ?_) (Heap.get?_push_of_some _ e)) hS' hacc
  rcases List.mem_cons.mp hm' with e' | hm'
  · exact hd e'
  · have := Heap.lt_size e
    rw [List.mem_singleton.mp hm'] at this
    exact Nat.lt_irrefl _ this
theorem init_bytes {R : Result → Shared → Prop} (hh : A.handled = none) (S : Addr) (hS : s.heap.get? S = some { cls := .type "list", data := .seq #[] }) (hn : b.size ≤ sizeLine)
    (hR : ∀ h' tk acc' c', (∀ d o, d ≠ S → s.heap.get? d = some o → h'.get? d = some o) → h'.get? S = some { cls := .type "list", dict := none, data := .seq acc' c', slots := #[] } →
      ItemsOf (OctAt b) acc' b.size → R (.ok (.ret .none)) { s with heap := h', toks := tk }) :
    wpAny (model prog w) A.in1 (Builtin.«list.__init__» ⟨[.ref S, .bytes b t], []⟩)
      (fun fin s' => match fin with | .done f => R (.ok f) s' | .again c' => c'.quiet = true ∧ codeAny (model prog w) A c' R s') (fun e s' => R (.error e) s') s := by
  show wpAny _ _ (do let old ← Builtin.List.listItems (.ref S); Builtin.List.listUpdate (.ref S) (fun _ => #[]); letGo old.toList.reverse; Builtin.List.listExtendWith (.ref S) (.bytes b t) .none) _ _ s
  refine wpAny_bind ?_
  unfold Builtin.List.listItems
  refine wpAny_bind (wpAny_seqItems hS rfl (wpAny_pure (wpAny_bind ?_)))
  show wpAny _ _ (updateSeq S (fun _ => #[])) _ _ s
  refine wpAny_updateSeq hS rfl (wpAny_bind (wpAny_letGo ?_))
  have oth : ∀ d o, d ≠ S → s.heap.get? d = some o → (s.heap.update S (Obj.mapSeq (fun _ => (#[] : Array Value)))).get? d = some o :=
    fun d o hd e => (Heap.get?_update_other _ _ (Ne.symm hd)).trans e
  exact fill_bytes hh S .none _ (Heap.get?_update_self (Obj.mapSeq (fun _ => (#[] : Array Value))) hS rfl) hn fun h' tk acc' c' hk hS' hacc =>
    hR h' tk acc' c' (fun d o hd e => hk d o hd (oth d o hd e)) hS' hacc
theorem list_of_bytes {h₀ : Heap} {L : Addr} {m : Str → Option Value} {news : List (Addr × Obj)} {ks : List Int} {Q : Value → Shared → Prop} (hh : A.handled = none) (F₀ : Fr h₀ L s.heap m) (N : News h₀ L s.heap news) (hk : KBw.bInts b = ks) (hn : ks.length ≤ sizeLine)
    (h : ∀ (l : Addr) (vs : List Value) (nl : Nat) (h' : Heap) (tk : Nat), IntsAre vs ks → LCg.Off1 l news → Fr h₀ L h' m → News h₀ L h' ((l, PySem.W.listOf vs.toArray nl) :: news) → Q (.ref l) { s with heap := h', toks := tk }) :
    wpAny (model prog w) A (call (.type "list") [.bytes b t]) Q E s := by
  have hs : b.size ≤ sizeLine := by rw [← KBw.ints_length b, hk]; exact hn
  refine callType_codes (Q₁ := fun obj s₁ => obj = .ref s.heap.objs.size ∧ s₁ = { s with heap := s.heap.push { cls := .type "list", data := .seq #[] } }) F.called_list (F.typeCall_list_1 _) F.entry_list_init
    (code_list_new _ ⟨rfl, rfl⟩) fun obj s₁ h₁ => ?_
  obtain ⟨rfl, rfl⟩ := h₁
  have hS : (s.heap.push { cls := .type "list", data := .seq #[] }).get? s.heap.objs.size = some { cls := .type "list", data := .seq #[] } := Heap.get?_push_size _ rfl
  refine ⟨⟨_, hS, rfl⟩, F.args_list_init_2 _ _, init_bytes (A := A.in1) hh _ hS hs fun h' tk acc' c' hk' hS' hacc => ⟨rfl, ?_⟩⟩
  have kp : ∀ d o, s.heap.get? d = some o → h'.get? d = some o := fun d o e => hk' d o (Nat.ne_of_lt (Heap.lt_size e)) (Heap.get?_push_of_some _ e)
  refine h s.heap.objs.size acc'.toList c' h' tk ?_ (off1_of fun q hq e => ?_) (F₀.keeps kp) fun q hq => ?_
  · refine ints_of_get ?_ fun j v hv => ?_
    · rw [← hk, KBw.ints_length, Array.length_toList, hacc.1]
    · obtain ⟨c, u, hc, e⟩ := hacc.2 j v (by simpa using hv)
      exact ⟨_, u, hk ▸ KBw.ints_get hc, e⟩
  · have := Heap.lt_size (N q hq).1
    rw [e] at this
    exact Nat.lt_irrefl _ this
  · rcases List.mem_cons.mp hq with rfl | hq
    · refine ⟨by simpa using hS', Nat.ne_of_gt F₀.ns.lt, ?_⟩
      cases e : h₀.get? s.heap.objs.size with
      | none => rfl
      | some o => exact absurd (Heap.lt_size (F₀.keep _ _ e)) (Nat.lt_irrefl _)
    · exact ⟨kp _ _ (N q hq).1, (N q hq).2⟩
end
end Mine
end

section
namespace Mine
theorem resetO2 : True := by (k_with_none; w_top off); trivial
theorem Bits.nil : Bits [] := fun x hx => nomatch hx
theorem Bits.one {x : Int} (h : x = 0 ∨ x = 1) : Bits [x] := fun y hy => by
  rw [List.mem_singleton.mp hy]
  exact h
theorem numV_bitsL' (n wd : Int) : numV (bitsL n wd) = n % 2 ^ wd.toNat := by
  rcases Int.le_total 0 wd with h | h
  · obtain ⟨k, rfl⟩ := Int.eq_ofNat_of_zero_le h
    exact numV_bitsL n k
  · have : bitsL n wd = [] := List.length_eq_zero_iff.mp (by rw [bitsL_len]; omega)
    rw [this, show wd.toNat = 0 from by omega]
    simp [numV]
theorem fdiv_lit (x : Int) (k : Nat) : x.fdiv (2 ^ k) = x / 2 ^ k := Int.fdiv_eq_ediv_of_nonneg _ (Int.le_of_lt (Int.pow_pos (by decide)))
theorem fdiv_8 (x : Int) : x.fdiv 8 = x / 8 := Int.fdiv_eq_ediv_of_nonneg _ (by decide)
theorem fdiv_64 (x : Int) : x.fdiv 64 = x / 64 := Int.fdiv_eq_ediv_of_nonneg _ (by decide)
theorem fdiv_256 (x : Int) : x.fdiv 256 = x / 256 := Int.fdiv_eq_ediv_of_nonneg _ (by decide)
theorem octets_w {prog p : Program} {w : World} {loose : List Str} {mean : ExcName → Option Value} {mg mb : Str → Option Value} {dp un : Nat} {gd : Option (List Code)} {cn : Str} {cs : Scope} {a : Addr} {ccd : Value} {outer : List Env} {A₀ : Around} {base h₀ : Heap} {L : Addr} {m : Str → Option Value} {s : Shared} {Q E : Value → Shared → Prop}
    {news : List (Addr × Obj)} {cl : List (Str × Addr)}
    {l : Addr} {vs us : List Value} {ns : List Int} {nl C : Nat} {W : Int} (h0 : IntsAre us (wOct W C))
    (S : Site w p loose mean mg mb cs outer A₀ base h₀ L m news s.heap)
    (hl : (l, PySem.W.listOf vs.toArray nl) ∈ news) (hi : IntsAre vs ns) (hs : ns.length ≤ 300) (hb : Bits ns) (hw : numV ns = W) (hc : ns.length = C)
    (hdp : dp + 8 < recursionLimit) (hun : un + 80 < cLine)
    (h : ∀ (l' : Addr) (vs' : List Value) (nl' : Nat) (h' : Heap) (tk' : Nat), IntsAre vs' (wOct W C) → LCg.Off1 l' news →
      Fr h₀ L h' m → News h₀ L h' ((l', PySem.W.listOf vs'.toArray nl') :: news) → Q (.ref l') { s with heap := h', toks := tk' }) :
    wpAny (model prog w) (ktrTop dp un gd cn cs L a ccd cl outer) (call (.ref 291) [.ref l]) Q E s := by
  subst hw hc
  refine octets_spec S hl hi hs hdp hun fun l' vs' nl' h' tk' i' => ?_
  rw [octR_eq hb] at i'
  exact h l' vs' nl' h' tk' i'
theorem one_bytes {x : Int} (h0 : 0 ≤ x) (h1 : x < 256) : KBw.bInts #[x.toNat.toUInt8] = [x] := by
  show [((x.toNat.toUInt8.toNat : Nat) : Int)] = [x]
  rw [byte_back h0 h1]
theorem one_in {x : Int} (h0 : 0 ≤ x) (h1 : x < 256) : KBa.In [x] := fun n hn => by
  rw [List.mem_singleton.mp hn]
  exact ⟨h0, h1⟩
theorem three_bytes {x y z : Int} (h0 : 0 ≤ x) (h1 : x < 256) (h2 : 0 ≤ y) (h3 : y < 256) (h4 : 0 ≤ z) (h5 : z < 256) : KBw.bInts #[x.toNat.toUInt8, y.toNat.toUInt8, z.toNat.toUInt8] = [x, y, z] := by
  show [((x.toNat.toUInt8.toNat : Nat) : Int), ((y.toNat.toUInt8.toNat : Nat) : Int), ((z.toNat.toUInt8.toNat : Nat) : Int)] = [x, y, z]
  rw [byte_back h0 h1, byte_back h2 h3, byte_back h4 h5]
theorem three_in {x y z : Int} (h0 : 0 ≤ x) (h1 : x < 256) (h2 : 0 ≤ y) (h3 : y < 256) (h4 : 0 ≤ z) (h5 : z < 256) : KBa.In [x, y, z] := fun n hn => by
  simp only [List.mem_cons, List.not_mem_nil, or_false] at hn
  rcases hn with rfl | rfl | rfl
  · exact ⟨h0, h1⟩
  · exact ⟨h2, h3⟩
  · exact ⟨h4, h5⟩
theorem breader_one {prog p : Program} {w : World} {loose : List Str} {mean : ExcName → Option Value} {mg mb : Str → Option Value} {dp un : Nat} {gd : Option (List Code)} {cn : Str} {cs : Scope} {a : Addr} {ccd : Value} {outer : List Env} {A₀ : Around} {base h₀ : Heap} {L : Addr} {m : Str → Option Value} {s : Shared} {Q E : Value → Shared → Prop}
    {news : List (Addr × Obj)} {cl : List (Str × Addr)}
    {b : Array UInt8} {t : Tok} {x : Int}
    (S : Site w p loose mean mg mb cs outer A₀ base h₀ L m news s.heap)
    (hb : KBw.bInts b = [x]) (hin : KBa.In [x])
    (hdp : dp + 4 < recursionLimit) (hun : un + 40 < cLine)
    (h : ∀ (r dr : Addr) ea eb ec k1 k2 k3 t1 t2 t3 (h' : Heap) (tk' : Nat), LCg.Off1 r news → LCg.Off1 dr news → (@Ne Nat r dr) → 0 ≤ x → x < 256 →
      Fr h₀ L h' m → News h₀ L h' ((r, instObj 138 dr) :: (dr, dictOf [⟨ea, .str (Str.ofString "word") k1, .int x t1⟩, ⟨eb, .str (Str.ofString "count") k2, .int ((8 : Nat) : Int) t2⟩, ⟨ec, .str (Str.ofString "at") k3, .int 0 t3⟩] 3) :: news) → Q (.ref r) { s with heap := h', toks := tk' }) :
    wpAny (model prog w) (ktrTop dp un gd cn cs L a ccd cl outer) (call (.ref 138) [.bytes b t]) Q E s := by
  refine breader_spec S hb hin (by simp) hdp hun fun r dr ea eb ec k1 k2 k3 t1 t2 t3 h' tk' o1 o2 n1 F' N' => ?_
  have e : rdV [x] = x := by simp [rdV]
  rw [e] at N'
  have hx := hin x List.mem_cons_self
  exact h r dr ea eb ec k1 k2 k3 t1 t2 t3 h' tk' o1 o2 n1 hx.1 hx.2 F' N'
theorem breader_three {prog p : Program} {w : World} {loose : List Str} {mean : ExcName → Option Value} {mg mb : Str → Option Value} {dp un : Nat} {gd : Option (List Code)} {cn : Str} {cs : Scope} {a : Addr} {ccd : Value} {outer : List Env} {A₀ : Around} {base h₀ : Heap} {L : Addr} {m : Str → Option Value} {s : Shared} {Q E : Value → Shared → Prop}
    {news : List (Addr × Obj)} {cl : List (Str × Addr)}
    {b : Array UInt8} {t : Tok} {x y z : Int}
    (S : Site w p loose mean mg mb cs outer A₀ base h₀ L m news s.heap)
    (hb : KBw.bInts b = [x, y, z]) (hin : KBa.In [x, y, z])
    (hdp : dp + 4 < recursionLimit) (hun : un + 40 < cLine)
    (h : ∀ (r dr : Addr) ea eb ec k1 k2 k3 t1 t2 t3 (h' : Heap) (tk' : Nat), LCg.Off1 r news → LCg.Off1 dr news → (@Ne Nat r dr) →
      Fr h₀ L h' m → News h₀ L h' ((r, instObj 138 dr) :: (dr, dictOf [⟨ea, .str (Str.ofString "word") k1, .int (x + 256 * (y + 256 * z)) t1⟩, ⟨eb, .str (Str.ofString "count") k2, .int 24 t2⟩, ⟨ec, .str (Str.ofString "at") k3, .int 0 t3⟩] 3) :: news) → Q (.ref r) { s with heap := h', toks := tk' }) :
    wpAny (model prog w) (ktrTop dp un gd cn cs L a ccd cl outer) (call (.ref 138) [.bytes b t]) Q E s := by
  refine breader_spec S hb hin (by simp) hdp hun fun r dr ea eb ec k1 k2 k3 t1 t2 t3 h' tk' o1 o2 n1 F' N' => ?_
  have e : rdV [x, y, z] = x + 256 * (y + 256 * z) := by simp [rdV]
  rw [e] at N'
  exact h r dr ea eb ec k1 k2 k3 t1 t2 t3 h' tk' o1 o2 n1 F' N'
end Mine
end

section
namespace Mine
open PySem.W.X
theorem wordsT10 : True := by
  k_with_none
  w_top off
  k_with "a9" => (with_reducible assumption)
  k_with "c9" => (repeat (with_reducible rename _ ∧ _ => hA9; clear hA9)); (repeat (with_reducible rename _ ≠ _ => hA9; clear hA9))
  k_with "u9" => ((with_reducible rename News _ _ _ _ => N9); dsimp +zetaDelta only at N9)
  k_with "p0" => (refine offAt (by fail "a9") 0 ?_; exact rfl)
  k_with "p1" => (refine offAt (by fail "a9") 1 ?_; exact rfl)
  k_with "p2" => (refine offAt (by fail "a9") 2 ?_; exact rfl)
  k_with "p3" => (refine offAt (by fail "a9") 3 ?_; exact rfl)
  k_with "p4" => (refine offAt (by fail "a9") 4 ?_; exact rfl)
  k_with "p5" => (refine offAt (by fail "a9") 5 ?_; exact rfl)
  k_with "p6" => (refine offAt (by fail "a9") 6 ?_; exact rfl)
  k_with "p7" => (refine offAt (by fail "a9") 7 ?_; exact rfl)
  k_with "p8" => (refine offAt (by fail "a9") 8 ?_; exact rfl)
  k_with "p9" => (refine offAt (by fail "a9") 9 ?_; exact rfl)
  k_with "p10" => (refine offAt (by fail "a9") 10 ?_; exact rfl)
  k_with "p11" => (refine offAt (by fail "a9") 11 ?_; exact rfl)
  k_with "p12" => (refine offAt (by fail "a9") 12 ?_; exact rfl)
  k_with "p13" => (refine offAt (by fail "a9") 13 ?_; exact rfl)
  k_with "p14" => (refine ltAt (by fail "a9") 0 ?_; exact rfl)
  k_with "p15" => (refine ltAt (by fail "a9") 1 ?_; exact rfl)
  k_with "p16" => (refine ltAt (by fail "a9") 2 ?_; exact rfl)
  k_with "p17" => (refine ltAt (by fail "a9") 3 ?_; exact rfl)
  k_with "p18" => (refine ltAt (by fail "a9") 4 ?_; exact rfl)
  k_with "p19" => (refine ltAt (by fail "a9") 5 ?_; exact rfl)
  k_with "p20" => (refine ltAt (by fail "a9") 6 ?_; exact rfl)
  k_with "p21" => (refine ltAt (by fail "a9") 7 ?_; exact rfl)
  k_with "p22" => (refine ltAt (by fail "a9") 8 ?_; exact rfl)
  k_with "p23" => (refine ltAt (by fail "a9") 9 ?_; exact rfl)
  k_with "p24" => (refine ltAt (by fail "a9") 10 ?_; exact rfl)
  k_with "p25" => (refine ltAt (by fail "a9") 11 ?_; exact rfl)
  k_with "p26" => (refine ltAt (by fail "a9") 12 ?_; exact rfl)
  k_with "p27" => (refine ltAt (by fail "a9") 13 ?_; exact rfl)
  k_with "r9" => (fail "w1")
  k_with "w1" => (first | fail "a9" | exact Nat.le_of_lt (by fail "a9"))
  k_with "offs9" => (first | fail "p0" | fail "p1" | fail "p2" | fail "p3" | fail "p4" | fail "p5" | fail "p6" | fail "p7" | fail "p8" | fail "p9" | fail "p10" | fail "p11" | fail "p12" | fail "p13" | fail "p14" | fail "p15" | fail "p16" | fail "p17" | fail "p18" | fail "p19" | fail "p20" | fail "p21" | fail "p22" | fail "p23" | fail "p24" | fail "p25" | fail "p26" | fail "p27")
  k_with "mem9" => (fail "w2")
  k_with "w2" => (first | exact List.Mem.head _ | exact List.Mem.tail _ (List.Mem.head _) | (refine memAt 0 ?_; exact rfl) | (refine memAt 1 ?_; exact rfl) | (refine memAt 2 ?_; exact rfl) | (refine memAt 3 ?_; exact rfl) | (refine memAt 4 ?_; exact rfl) | (refine memAt 5 ?_; exact rfl) | (refine memAt 6 ?_; exact rfl) | (refine memAt 7 ?_; exact rfl) | (refine memAt 8 ?_; exact rfl) | (refine memAt 9 ?_; exact rfl) | (refine memAt 10 ?_; exact rfl) | (refine memAt 11 ?_; exact rfl) | (refine memAt 12 ?_; exact rfl) | (refine memAt 13 ?_; exact rfl) | (refine memAt 14 ?_; exact rfl) | (refine memAt 15 ?_; exact rfl) | (refine memAt 16 ?_; exact rfl) | (refine memAt 17 ?_; exact rfl))
  k_with "lts9" => (fail "w3")
  k_with "w3" => (first | (refine ltB (by fail "a9") 0 ?_; exact rfl) | (refine ltB (by fail "a9") 1 ?_; exact rfl) | (refine ltB (by fail "a9") 2 ?_; exact rfl) | (refine ltB (by fail "a9") 3 ?_; exact rfl) | (refine ltB (by fail "a9") 4 ?_; exact rfl) | (refine ltB (by fail "a9") 5 ?_; exact rfl) | (refine ltB (by fail "a9") 6 ?_; exact rfl) | (refine ltB (by fail "a9") 7 ?_; exact rfl) | (refine ltB (by fail "a9") 8 ?_; exact rfl) | (refine ltB (by fail "a9") 9 ?_; exact rfl) | (refine ltB (by fail "a9") 10 ?_; exact rfl) | (refine ltB (by fail "a9") 11 ?_; exact rfl) | (refine ltB (by fail "a9") 12 ?_; exact rfl) | (refine ltB (by fail "a9") 13 ?_; exact rfl))
  k_with "rooms9" => (fail "w4")
  k_with "w4" => (first | (refine rl2 (by fail "r9") ?_; exact rfl) | (refine rl1 (by fail "r9") ?_; exact rfl) | (refine rl3 (by fail "r9") ?_; exact rfl) | (refine rl0 (by fail "r9") ?_; exact rfl) | (refine rl4 (by fail "r9") ?_; exact rfl) | (refine rm2 (by fail "r9") ?_; exact rfl) | (refine rm1 (by fail "r9") ?_; exact rfl) | (refine rm3 (by fail "r9") ?_; exact rfl) | (refine rm0 (by fail "r9") ?_; exact rfl) | (refine rm4 (by fail "r9") ?_; exact rfl))
  k_with "k_ne" => (fail "w5")
  k_with "w5" => (refine neN ?_; (try dsimp only); first | fail "a9" | (refine Ne.symm ?_; fail "a9") | exact Nat.ne_of_lt (by fail "a9") | exact Nat.ne_of_gt (by fail "a9") | k_extra "offs9" | (refine Ne.symm ?_; first | k_extra "offs9") | ((try simp only [LCg.Off1, and_true] at *); omega))
  k_with "k_mem" => (fail "w6")
  k_with "w6" => (first | fail "a9" | k_extra "mem9")
  k_with "k_memK" => (first | k_extra "mem9")
  k_with "is_list" => (fail "w7")
  k_with "w7" => (exact News.isList (by fail "a9") (by k_mem))
  k_with "ktr_room" => (fail "w8")
  k_with "w8" => ((try dsimp only [depth_under_make, depth_under_kw, depth_in1, depth_deeper, depth_caller]); (try dsimp only [ktrTop]); first | decide | k_extra "rooms9")
  k_with "units_room" => (fail "w9")
  k_with "w9" => ((try dsimp only [units_in1, units_deeper, Around.mark_units, units_caller]); (try dsimp only [ktrTop]); first | decide | k_extra "rooms9")
  k_with "l_idx" => ((k_extra "c9"); omega)
  k_with "l_fit" => ((k_extra "c9"); omega)
  k_with "ktr_units" => (fail "w10")
  k_with "w10" => ((try dsimp only [units_in1, units_deeper, Around.mark_units, units_caller]); (try dsimp only [ktrTop]); first | decide | k_extra "rooms9")
  k_with "execs cons" => (fail "w11")
  k_with "w11" => (k_here; first | k_gentoks | ((try dsimp only); (try k_gentoks); (try (with_reducible refine letA ?_; intro A9)); (try ((with_reducible rename Fr _ _ _ _ => F9); refine letF F9 ?_; clear F9; intro m9 F9)); (try ((with_reducible rename News _ _ _ _ => N9); refine letN N9 ?_; clear N9; intro n9 N9)); (first | (with_reducible refine execHidB fun q9 hq9 => ?_) | (refine hideQ fun q9 hq9 => ?_; with_reducible refine execHidB fun q9 hq9 => ?_))))
  k_with "Hid" => (fail "w12")
  k_with "w12" => (first | ((with_reducible refine unhidNextT (by fail "a9") ?_); intro tk9; (try dsimp only)) | ((with_reducible refine unhidNext (by fail "a9") ?_); (try dsimp only)) | ((with_reducible refine unhidRet (by fail "a9") ?_); (try dsimp only)) | ((with_reducible refine unhid (by fail "a9") ?_); (try dsimp only [Behind])))
  k_with "spliced" => (fail "w13")
  k_with "w13" => (k_here; (with_reducible show wpAny _ _ (spliced (backTo _ (starEach (_ :: _ :: _ :: _) _))) _ _ _); k_dflt (refine' args_cons ?_ ?_; rotate_left; rfl))
  k_with "spliced" => (fail "w14")
  k_with "w14" => (k_here; k_dflt ((refine' argsF ?_ ?_ ?_ ?_); (rotate_left 4); k_asm; rfl; rfl); (try dsimp only [List.nil_append, List.cons_append]))
  k_with "eval Call" => (fail "w15")
  k_with "w15" => (k_here; (with_reducible show wpAny _ _ (eval (PySem.Expr.Call (PySem.Expr.Name _ _) (_ :: _) [] _) _) _ _ _); first | (k_dflt ((refine' callF ?_ ?_ ?_ ?_ ?_ ?_ ?_ ?_ ?_ ?_ ?_); (rotate_left 10); k_asm; k_asm; k_asm; k_is; k_is; rfl; rfl; rfl; rotate_left; decide; rfl)) | k_compRoot | k_dflt (refine' Call_ ?_))
  k_with "eval Name" => (fail "w16")
  k_with "w16" => (k_here; (with_reducible show wpAny _ _ (eval (PySem.Expr.Name _ _) (envOf _ _ _ _ _)) _ _ _); first | k_dflt ((refine' nameX_K ?_ ?_ ?_ ?_ ?_ ?_ ?_ ?_); (rotate_left 8); k_asm; k_asm; k_asm; k_is; rotate_left; rfl; rfl; decide) | k_dflt ((refine' nameX_L ?_ ?_ ?_ ?_ ?_ ?_); (rotate_left 3); k_asm; rfl; rotate_left; rfl; rfl; decide))
  k_with "callWith ref" => (fail "w17")
  k_with "w17" => (k_here; (with_reducible show wpAny _ _ (callWith _ _ _ (backTo _ (starEach [] _)) []) _ _ _); k_dflt (refine callF0 (by fail "a9") (by fail "a9") (by k_is) ?_))
  k_with "last getItem" => k_extra "u9"
  k_with "last setItem" => k_extra "u9"
  k_with "last setAttr" => k_extra "u9"
  k_with "last getAttr" => k_extra "u9"
  k_with "last subscriptTail" => k_extra "u9"
  k_with "last getMethod" => k_extra "u9"
  k_with "last call" => k_extra "u9"
  k_with "last pyIter" => k_extra "u9"
  k_with "last eval" => k_extra "u9"
  k_with "last exec" => k_extra "u9"
  k_with "last inplaceOp" => k_extra "u9"
  k_with "last binaryOp" => k_extra "u9"
  k_with "last InvEndN" => k_extra "u9"
  k_with "last GEnd" => k_extra "u9"
  k_with "last KEnd" => k_extra "u9"
  k_with "last LeaveT" => k_extra "u9"
  k_with "last noteFrame" => k_extra "u9"
  k_with "last leaving" => k_extra "u9"
  k_with "k_lt" => skip
  k_with "ktr_enter" => (fail "w18")
  k_with "w18" => first | (refine enterK (by assumption) (by assumption) (by k_is) (by k_is) (by ktr_room) (by exact BindsTo.of_eq rfl) (by exact locs rfl) ?_ (by exact rfl) (by exact rfl) (by exact rfl) (by decide); k_whole; intro g' L' h' F' N' B' X' T' lN' gN' tk9'; (try k_lt lN'); (try dsimp only); (try k_fold)) | (refine enterC (by assumption) (by assumption) (by k_is) (by k_is) (by ktr_room) (by exact BindsTo.of_eq rfl) (by exact rfl) (by decide +kernel) ?_ (by exact rfl) (by exact rfl) (by exact rfl); k_whole; intro g' L' h' tk' cells' F' N' Y' B' X' T' lN' gN'; (try k_lt lN'); k_cells Y'; (try simp only [List.cons_append, List.nil_append] at N'); (try dsimp only); (try k_fold))
  k_with "kts_go" => (fail "w19")
  k_with "w19" => (refine enterS (by assumption) (by assumption) (by k_is) (by k_is) (by ktr_room) (by exact BindsTo.of_eq rfl) (by exact locs rfl) ?_ (by exact rfl) (by exact rfl) (by exact rfl) (by decide); k_whole; intro g' L' h' F' N' B' X' T' D' lN' gN' tk9'; (try k_lt lN'); (try dsimp only); (try k_fold))
  k_with "exec Raise some none" => (fail "w20")
  k_with "w20" => (k_here; k_dflt (refine Raise_bad (by rfl) ?_))
  k_with "BadE" => (fail "w21")
  k_with "w21" => (k_here; (rename BadIs _ _ _ _ _ _ _ => bI); refine ⟨_, _, _, rfl, by k_in, BadIs.he bI, ?_⟩)
  k_with "call ref" => (fail "w22")
  k_with "w22" => (k_here; (with_reducible show wpAny _ _ (call (Value.ref 51) _) _ _ _); k_dflt (refine bad_call ⟨by k_asm, by k_asm, by k_asm, by k_asm, by k_asm, by first | exact rfl | assumption⟩ (by ktr_room) (by ktr_units) ?_); intro h' e' d' t' tk' h1' h2' k1' k2' F' N' o1' bI'; (try dsimp only); (try k_fold))
  k_with "leaving ref" => (fail "w23")
  k_with "w23" => (k_here; first | ((with_reducible rename BadIs _ _ _ _ _ _ _ => bI9); (refine leave_badI (by assumption) (by assumption) (by assumption) bI9 ?_); k_whole; intro h' vs' S' U' d'; (try dsimp only at S' U' ⊢)) | ((with_reducible rename RaisedS _ _ _ _ _ _ _ _ _ => rS9); (refine leave_badOnI (by assumption) (by assumption) rS9 (by assumption) (by assumption) ?_); k_whole; intro h' S' U' d'; (try dsimp only at S' U' ⊢)))
  k_with "noteFrame ref" => (fail "w24")
  k_with "w24" => (k_here; k_dflt (refine caught_bad (by assumption) (by assumption) (by assumption) (by assumption) (by assumption) (by assumption) (by assumption) (by assumption) (by first | assumption | exact KtsTurn.refl) (by k_is) ?_; k_whole); intro h' g' ws' sl' tk' T' F' N' K' X' P' D' c'; (try k_sweep))
  k_with "getAttr ref" => (fail "w25")
  k_with "w25" => (k_here; (with_reducible show wpAny _ _ (getAttr (Value.ref _) (Str.ofString "square") _) _ _ _); k_dflt (refine fault_square (by k_asm) (by k_asm) (by k_asm) (by k_mem) (by k_mem) ?_); (try dsimp only))
  k_with "getAttr ref" => (fail "w26")
  k_with "w26" => (k_here; (with_reducible show wpAny _ _ (getAttr (Value.ref _) (Str.ofString "text") _) _ _ _); k_dflt (refine fault_text (by k_asm) (by k_asm) (by k_asm) (by k_mem) (by k_mem) ?_); (try dsimp only))
  trivial
theorem off_newT {fs : List Addr} {g g' h' : Heap} {L' D : Addr} {o : Obj} {news small small' : List (Addr × Obj)} (T : KtsTurn fs g g') (N : News g' L' h' small') (hm : (D, o) ∈ small') (hg : ∀ q ∈ news, (∀ x ∈ small, q.1 ≠ x.1) → g.get? q.1 = some q.2) (hx : ∀ x ∈ small, x.1 ≠ D) : LCg.Off1 D news := by
  refine off1_of fun q hq e => ?_
  by_cases z : ∃ x ∈ small, q.1 = x.1
  · obtain ⟨x, h1, h2⟩ := z
    exact hx x h1 (h2.symm.trans e)
  · have e2 := hg q hq fun x h1 h2 => z ⟨x, h1, h2⟩
    obtain ⟨sl, e3⟩ := T.up e2
    rw [e, (N _ hm).2.2] at e3
    cases e3
theorem finT {w : World} {p : Program} {loose : List Str} {mean : ExcName → Option Value} {mg mb : Str → Option Value} {outer : List Env} {A₀ : Around} {base h₀ h₁ : Heap} {L : Addr} {m : Str → Option Value} {fs : List Addr} {g g' : Heap} {L' D : Addr} {m' : Str → Option Value} {o : Obj} {news small small' : List (Addr × Obj)} {s' : Shared} {P : Prop}
    (N0 : News h₀ L h₁ news) (hsub : ∀ q ∈ small, q ∈ news) (gN : ∀ q ∈ news, (∀ x ∈ small, q.1 ≠ x.1) → g.get? q.1 = some q.2) (N : News g' L' s'.heap ((D, o) :: small')) (T : KtsTurn fs g g') (F : Fr g' L' s'.heap m')
    (hs : ∀ q ∈ small, q ∈ small') (hx : ∀ x ∈ small, x.1 ≠ D) (k : LCg.Off1 D news → BackT w p loose mean mg mb outer A₀ base h₀ L m ((D, o) :: news) s'.heap P) :
    LeaveT fs g (fun small' => ∃ news', (∀ q ∈ news', q ∈ small' ∨ (q ∈ news ∧ ∀ x ∈ small, q.1 ≠ x.1)) ∧ BackT w p loose mean mg mb outer A₀ base h₀ L m news' s'.heap P) s' := by
  refine leaveT_ T F N ⟨_, fun q hq => ?_, k (off_newT T N List.mem_cons_self gN hx)⟩
  rcases List.mem_cons.mp hq with rfl | hq
  · exact .inl List.mem_cons_self
  · exact cond_read N0 hsub (fun q hq => List.mem_cons_of_mem _ (hs q hq)) q hq
theorem take_refused {prog p : Program} {w : World} {loose : List Str} {mean : ExcName → Option Value} {mg mb : Str → Option Value} {dp un : Nat} {gd : Option (List Code)} {cn : Str} {cs : Scope} {a : Addr} {ccd : Value} {outer : List Env} {A₀ : Around} {base h₀ : Heap} {L : Addr} {m : Str → Option Value} {s : Shared} {Q E : Value → Shared → Prop}
    {news : List (Addr × Obj)}
    {r dr : Addr} {ea eb ec : Int} {k1 k2 k3 t1 t2 t3 tw : Tok} {nr : Nat} {W C P wd : Int}
    (S : SiteS w p loose mean mg mb cs outer A₀ base h₀ L m news s.heap)
    (hr : (r, instObj 138 dr) ∈ news) (hdr : (dr, dictOf [⟨ea, .str (Str.ofString "word") k1, .int W t1⟩, ⟨eb, .str (Str.ofString "count") k2, .int C t2⟩, ⟨ec, .str (Str.ofString "at") k3, .int P t3⟩] nr) ∈ news)
    (hne : r ≠ dr) (h0 : 0 ≤ wd) (h1 : wd ≤ 400) (hP : 0 ≤ P) (hPC : P ≤ C) (hC : C ≤ 400) (hgo : C < P + wd)
    (hdp : dp + 20 ≤ 500) (hun : un + 200 ≤ 4000)
    (h : ∀ (l' : Addr) (q1 q2 q3 : Tok) (h' : Heap) (tk' : Nat), LCg.Off1 l' news →
      BackT w p loose mean mg mb outer A₀ base h₀ L m ((l', { cls := .type "tuple", data := .seq #[.str (Str.ofString "refused") q1, .int (-1) q2, .str (Str.ofString "the octets end early") q3] }) :: news) h' (Q (.ref l') { s with heap := h', toks := tk' })) :
    wpAny (model prog w) (ktrTop dp un gd cn cs L a ccd [] outer) (call (.ref 298) [.ref 305, .ref r, .int wd tw]) Q E s := by
  have hsub : ∀ q ∈ [(r, instObj 138 dr), (dr, dictOf [⟨ea, .str (Str.ofString "word") k1, .int W t1⟩, ⟨eb, .str (Str.ofString "count") k2, .int C t2⟩, ⟨ec, .str (Str.ofString "at") k3, .int P t3⟩] nr)], q ∈ news := by
    intro q hq
    rcases List.mem_cons.mp hq with rfl | hq
    · exact hr
    · rcases List.mem_cons.mp hq with rfl | hq
      · exact hdr
      · nomatch hq
  have XB := S.XB
  have TB := S.TB
  have hne := neN hne
  k_dflt kts_go
  k_steps
  with_reducible rename (∀ q ∈ news, _) => g9
  with_reducible rename News _ _ _ _ => n9
  exact finT S.N hsub g9 n9 (by assumption) (by assumption) (fun q hq => List.mem_cons_of_mem _ (List.mem_cons_of_mem _ hq)) (fun x hx => by
      rcases List.mem_cons.mp hx with rfl | hx
      · k_ne
      · rcases List.mem_cons.mp hx with rfl | hx
        · k_ne
        · nomatch hx) (fun o9 => h _ _ _ _ _ _ o9)
end Mine
end

section
namespace Mine
open PySem.W.X
theorem wordsT30 : True := by
  k_with_none
  w_top off
  k_with "a9" => (with_reducible assumption)
  k_with "c9" => (repeat (with_reducible rename _ ∧ _ => hA9; clear hA9)); (repeat (with_reducible rename _ ≠ _ => hA9; clear hA9))
  k_with "u9" => ((with_reducible rename News _ _ _ _ => N9); dsimp +zetaDelta only at N9)
  k_with "p0" => (refine offAt (by fail "a9") 0 ?_; exact rfl)
  k_with "p1" => (refine offAt (by fail "a9") 1 ?_; exact rfl)
  k_with "p2" => (refine offAt (by fail "a9") 2 ?_; exact rfl)
  k_with "p3" => (refine offAt (by fail "a9") 3 ?_; exact rfl)
  k_with "p4" => (refine offAt (by fail "a9") 4 ?_; exact rfl)
  k_with "p5" => (refine offAt (by fail "a9") 5 ?_; exact rfl)
  k_with "p6" => (refine offAt (by fail "a9") 6 ?_; exact rfl)
  k_with "p7" => (refine offAt (by fail "a9") 7 ?_; exact rfl)
  k_with "p8" => (refine offAt (by fail "a9") 8 ?_; exact rfl)
  k_with "p9" => (refine offAt (by fail "a9") 9 ?_; exact rfl)
  k_with "p10" => (refine offAt (by fail "a9") 10 ?_; exact rfl)
  k_with "p11" => (refine offAt (by fail "a9") 11 ?_; exact rfl)
  k_with "p12" => (refine offAt (by fail "a9") 12 ?_; exact rfl)
  k_with "p13" => (refine offAt (by fail "a9") 13 ?_; exact rfl)
  k_with "p14" => (refine ltAt (by fail "a9") 0 ?_; exact rfl)
  k_with "p15" => (refine ltAt (by fail "a9") 1 ?_; exact rfl)
  k_with "p16" => (refine ltAt (by fail "a9") 2 ?_; exact rfl)
  k_with "p17" => (refine ltAt (by fail "a9") 3 ?_; exact rfl)
  k_with "p18" => (refine ltAt (by fail "a9") 4 ?_; exact rfl)
  k_with "p19" => (refine ltAt (by fail "a9") 5 ?_; exact rfl)
  k_with "p20" => (refine ltAt (by fail "a9") 6 ?_; exact rfl)
  k_with "p21" => (refine ltAt (by fail "a9") 7 ?_; exact rfl)
  k_with "p22" => (refine ltAt (by fail "a9") 8 ?_; exact rfl)
  k_with "p23" => (refine ltAt (by fail "a9") 9 ?_; exact rfl)
  k_with "p24" => (refine ltAt (by fail "a9") 10 ?_; exact rfl)
  k_with "p25" => (refine ltAt (by fail "a9") 11 ?_; exact rfl)
  k_with "p26" => (refine ltAt (by fail "a9") 12 ?_; exact rfl)
  k_with "p27" => (refine ltAt (by fail "a9") 13 ?_; exact rfl)
  k_with "r9" => (fail "w1")
  k_with "w1" => (first | fail "a9" | exact Nat.le_of_lt (by fail "a9"))
  k_with "offs9" => (first | fail "p0" | fail "p1" | fail "p2" | fail "p3" | fail "p4" | fail "p5" | fail "p6" | fail "p7" | fail "p8" | fail "p9" | fail "p10" | fail "p11" | fail "p12" | fail "p13" | fail "p14" | fail "p15" | fail "p16" | fail "p17" | fail "p18" | fail "p19" | fail "p20" | fail "p21" | fail "p22" | fail "p23" | fail "p24" | fail "p25" | fail "p26" | fail "p27")
  k_with "mem9" => (fail "w2")
  k_with "w2" => (first | exact List.Mem.head _ | exact List.Mem.tail _ (List.Mem.head _) | (refine memAt 0 ?_; exact rfl) | (refine memAt 1 ?_; exact rfl) | (refine memAt 2 ?_; exact rfl) | (refine memAt 3 ?_; exact rfl) | (refine memAt 4 ?_; exact rfl) | (refine memAt 5 ?_; exact rfl) | (refine memAt 6 ?_; exact rfl) | (refine memAt 7 ?_; exact rfl) | (refine memAt 8 ?_; exact rfl) | (refine memAt 9 ?_; exact rfl) | (refine memAt 10 ?_; exact rfl) | (refine memAt 11 ?_; exact rfl) | (refine memAt 12 ?_; exact rfl) | (refine memAt 13 ?_; exact rfl) | (refine memAt 14 ?_; exact rfl) | (refine memAt 15 ?_; exact rfl) | (refine memAt 16 ?_; exact rfl) | (refine memAt 17 ?_; exact rfl))
  k_with "lts9" => (fail "w3")
  k_with "w3" => (first | (refine ltB (by fail "a9") 0 ?_; exact rfl) | (refine ltB (by fail "a9") 1 ?_; exact rfl) | (refine ltB (by fail "a9") 2 ?_; exact rfl) | (refine ltB (by fail "a9") 3 ?_; exact rfl) | (refine ltB (by fail "a9") 4 ?_; exact rfl) | (refine ltB (by fail "a9") 5 ?_; exact rfl) | (refine ltB (by fail "a9") 6 ?_; exact rfl) | (refine ltB (by fail "a9") 7 ?_; exact rfl) | (refine ltB (by fail "a9") 8 ?_; exact rfl) | (refine ltB (by fail "a9") 9 ?_; exact rfl) | (refine ltB (by fail "a9") 10 ?_; exact rfl) | (refine ltB (by fail "a9") 11 ?_; exact rfl) | (refine ltB (by fail "a9") 12 ?_; exact rfl) | (refine ltB (by fail "a9") 13 ?_; exact rfl))
  k_with "rooms9" => (fail "w4")
  k_with "w4" => (first | (refine rl2 (by fail "r9") ?_; exact rfl) | (refine rl1 (by fail "r9") ?_; exact rfl) | (refine rl3 (by fail "r9") ?_; exact rfl) | (refine rl0 (by fail "r9") ?_; exact rfl) | (refine rl4 (by fail "r9") ?_; exact rfl) | (refine rm2 (by fail "r9") ?_; exact rfl) | (refine rm1 (by fail "r9") ?_; exact rfl) | (refine rm3 (by fail "r9") ?_; exact rfl) | (refine rm0 (by fail "r9") ?_; exact rfl) | (refine rm4 (by fail "r9") ?_; exact rfl))
  k_with "k_ne" => (fail "w5")
  k_with "w5" => (refine neN ?_; (try dsimp only); first | fail "a9" | (refine Ne.symm ?_; fail "a9") | exact Nat.ne_of_lt (by fail "a9") | exact Nat.ne_of_gt (by fail "a9") | k_extra "offs9" | (refine Ne.symm ?_; first | k_extra "offs9") | ((try simp only [LCg.Off1, and_true] at *); omega))
  k_with "k_mem" => (fail "w6")
  k_with "w6" => (first | fail "a9" | k_extra "mem9")
  k_with "k_memK" => (first | k_extra "mem9")
  k_with "is_list" => (fail "w7")
  k_with "w7" => (exact News.isList (by fail "a9") (by k_mem))
  k_with "ktr_room" => (fail "w8")
  k_with "w8" => ((try dsimp only [depth_under_make, depth_under_kw, depth_in1, depth_deeper, depth_caller]); (try dsimp only [ktrTop]); first | decide | k_extra "rooms9")
  k_with "units_room" => (fail "w9")
  k_with "w9" => ((try dsimp only [units_in1, units_deeper, Around.mark_units, units_caller]); (try dsimp only [ktrTop]); first | decide | k_extra "rooms9")
  k_with "l_idx" => ((k_extra "c9"); omega)
  k_with "l_fit" => ((k_extra "c9"); omega)
  k_with "ktr_units" => (fail "w10")
  k_with "w10" => ((try dsimp only [units_in1, units_deeper, Around.mark_units, units_caller]); (try dsimp only [ktrTop]); first | decide | k_extra "rooms9")
  k_with "execs cons" => (fail "w11")
  k_with "w11" => (k_here; first | k_gentoks | ((try dsimp only); (try k_gentoks); (try (with_reducible refine letA ?_; intro A9)); (try ((with_reducible rename Fr _ _ _ _ => F9); refine letF F9 ?_; clear F9; intro m9 F9)); (try ((with_reducible rename News _ _ _ _ => N9); refine letN N9 ?_; clear N9; intro n9 N9)); (first | (with_reducible refine execHidB fun q9 hq9 => ?_) | (refine hideQ fun q9 hq9 => ?_; with_reducible refine execHidB fun q9 hq9 => ?_))))
  k_with "Hid" => (fail "w12")
  k_with "w12" => (first | ((with_reducible refine unhidNextT (by fail "a9") ?_); intro tk9; (try dsimp only)) | ((with_reducible refine unhidNext (by fail "a9") ?_); (try dsimp only)) | ((with_reducible refine unhidRet (by fail "a9") ?_); (try dsimp only)) | ((with_reducible refine unhid (by fail "a9") ?_); (try dsimp only [Behind])))
  k_with "spliced" => (fail "w13")
  k_with "w13" => (k_here; (with_reducible show wpAny _ _ (spliced (backTo _ (starEach (_ :: _ :: _ :: _) _))) _ _ _); k_dflt (refine' args_cons ?_ ?_; rotate_left; rfl))
  k_with "spliced" => (fail "w14")
  k_with "w14" => (k_here; k_dflt ((refine' argsF ?_ ?_ ?_ ?_); (rotate_left 4); k_asm; rfl; rfl); (try dsimp only [List.nil_append, List.cons_append]))
  k_with "eval Call" => (fail "w15")
  k_with "w15" => (k_here; (with_reducible show wpAny _ _ (eval (PySem.Expr.Call (PySem.Expr.Name _ _) (_ :: _) [] _) _) _ _ _); first | (k_dflt ((refine' callF ?_ ?_ ?_ ?_ ?_ ?_ ?_ ?_ ?_ ?_ ?_); (rotate_left 10); k_asm; k_asm; k_asm; k_is; k_is; rfl; rfl; rfl; rotate_left; decide; rfl)) | k_compRoot | k_dflt (refine' Call_ ?_))
  k_with "eval Name" => (fail "w16")
  k_with "w16" => (k_here; (with_reducible show wpAny _ _ (eval (PySem.Expr.Name _ _) (envOf _ _ _ _ _)) _ _ _); first | k_dflt ((refine' nameX_K ?_ ?_ ?_ ?_ ?_ ?_ ?_ ?_); (rotate_left 8); k_asm; k_asm; k_asm; k_is; rotate_left; rfl; rfl; decide) | k_dflt ((refine' nameX_L ?_ ?_ ?_ ?_ ?_ ?_); (rotate_left 3); k_asm; rfl; rotate_left; rfl; rfl; decide))
  k_with "callWith ref" => (fail "w17")
  k_with "w17" => (k_here; (with_reducible show wpAny _ _ (callWith _ _ _ (backTo _ (starEach [] _)) []) _ _ _); k_dflt (refine callF0 (by fail "a9") (by fail "a9") (by k_is) ?_))
  k_with "last getItem" => k_extra "u9"
  k_with "last setItem" => k_extra "u9"
  k_with "last setAttr" => k_extra "u9"
  k_with "last getAttr" => k_extra "u9"
  k_with "last subscriptTail" => k_extra "u9"
  k_with "last getMethod" => k_extra "u9"
  k_with "last call" => k_extra "u9"
  k_with "last pyIter" => k_extra "u9"
  k_with "last eval" => k_extra "u9"
  k_with "last exec" => k_extra "u9"
  k_with "last inplaceOp" => k_extra "u9"
  k_with "last binaryOp" => k_extra "u9"
  k_with "last InvEndN" => k_extra "u9"
  k_with "last GEnd" => k_extra "u9"
  k_with "last KEnd" => k_extra "u9"
  k_with "last LeaveT" => k_extra "u9"
  k_with "last noteFrame" => k_extra "u9"
  k_with "last leaving" => k_extra "u9"
  k_with "k_lt" => skip
  k_with "ktr_enter" => (fail "w18")
  k_with "w18" => first | (refine enterK (by assumption) (by assumption) (by k_is) (by k_is) (by ktr_room) (by exact BindsTo.of_eq rfl) (by exact locs rfl) ?_ (by exact rfl) (by exact rfl) (by exact rfl) (by decide); k_whole; intro g' L' h' F' N' B' X' T' lN' gN' tk9'; (try k_lt lN'); (try dsimp only); (try k_fold)) | (refine enterC (by assumption) (by assumption) (by k_is) (by k_is) (by ktr_room) (by exact BindsTo.of_eq rfl) (by exact rfl) (by decide +kernel) ?_ (by exact rfl) (by exact rfl) (by exact rfl); k_whole; intro g' L' h' tk' cells' F' N' Y' B' X' T' lN' gN'; (try k_lt lN'); k_cells Y'; (try simp only [List.cons_append, List.nil_append] at N'); (try dsimp only); (try k_fold))
  k_with "kts_go" => (fail "w19")
  k_with "w19" => (refine enterS (by assumption) (by assumption) (by k_is) (by k_is) (by ktr_room) (by exact BindsTo.of_eq rfl) (by exact locs rfl) ?_ (by exact rfl) (by exact rfl) (by exact rfl) (by decide); k_whole; intro g' L' h' F' N' B' X' T' D' lN' gN' tk9'; (try k_lt lN'); (try dsimp only); (try k_fold))
  k_with "exec Raise some none" => (fail "w20")
  k_with "w20" => (k_here; k_dflt (refine Raise_bad (by rfl) ?_))
  k_with "BadE" => (fail "w21")
  k_with "w21" => (k_here; (rename BadIs _ _ _ _ _ _ _ => bI); refine ⟨_, _, _, rfl, by k_in, BadIs.he bI, ?_⟩)
  k_with "call ref" => (fail "w22")
  k_with "w22" => (k_here; (with_reducible show wpAny _ _ (call (Value.ref 51) _) _ _ _); k_dflt (refine bad_call ⟨by k_asm, by k_asm, by k_asm, by k_asm, by k_asm, by first | exact rfl | assumption⟩ (by ktr_room) (by ktr_units) ?_); intro h' e' d' t' tk' h1' h2' k1' k2' F' N' o1' bI'; (try dsimp only); (try k_fold))
  k_with "leaving ref" => (fail "w23")
  k_with "w23" => (k_here; first | ((with_reducible rename BadIs _ _ _ _ _ _ _ => bI9); (refine leave_badI (by assumption) (by assumption) (by assumption) bI9 ?_); k_whole; intro h' vs' S' U' d'; (try dsimp only at S' U' ⊢)) | ((with_reducible rename RaisedS _ _ _ _ _ _ _ _ _ => rS9); (refine leave_badOnI (by assumption) (by assumption) rS9 (by assumption) (by assumption) ?_); k_whole; intro h' S' U' d'; (try dsimp only at S' U' ⊢)))
  k_with "noteFrame ref" => (fail "w24")
  k_with "w24" => (k_here; k_dflt (refine caught_bad (by assumption) (by assumption) (by assumption) (by assumption) (by assumption) (by assumption) (by assumption) (by assumption) (by first | assumption | exact KtsTurn.refl) (by k_is) ?_; k_whole); intro h' g' ws' sl' tk' T' F' N' K' X' P' D' c'; (try k_sweep))
  k_with "getAttr ref" => (fail "w25")
  k_with "w25" => (k_here; (with_reducible show wpAny _ _ (getAttr (Value.ref _) (Str.ofString "square") _) _ _ _); k_dflt (refine fault_square (by k_asm) (by k_asm) (by k_asm) (by k_mem) (by k_mem) ?_); (try dsimp only))
  k_with "getAttr ref" => (fail "w26")
  k_with "w26" => (k_here; (with_reducible show wpAny _ _ (getAttr (Value.ref _) (Str.ofString "text") _) _ _ _); k_dflt (refine fault_text (by k_asm) (by k_asm) (by k_asm) (by k_mem) (by k_mem) ?_); (try dsimp only))
  trivial
theorem finTU {w : World} {p : Program} {loose : List Str} {mean : ExcName → Option Value} {mg mb : Str → Option Value} {outer : List Env} {A₀ : Around} {base h₀ h₁ : Heap} {L : Addr} {m : Str → Option Value} {fs : List Addr} {g g' : Heap} {L' D wr dw : Addr} {m' : Str → Option Value} {o io od o' : Obj} {news small' : List (Addr × Obj)} {gU : Obj → List (Addr × Obj)} {s' : Shared} {P : Prop}
    (N0 : News h₀ L h₁ news) (U : UpdF dw od news gU) (hr : (wr, io) ∈ news) (gN : ∀ q ∈ news, (∀ x ∈ [(wr, io), (dw, od)], q.1 ≠ x.1) → g.get? q.1 = some q.2) (N : News g' L' s'.heap ((D, o) :: small')) (T : KtsTurn fs g g') (F : Fr g' L' s'.heap m')
    (h1 : (wr, io) ∈ small') (h2 : (dw, o') ∈ small') (hx : ∀ x ∈ [(wr, io), (dw, od)], x.1 ≠ D) (k : LCg.Off1 D news → BackT w p loose mean mg mb outer A₀ base h₀ L m ((D, o) :: gU o') s'.heap P) :
    LeaveT fs g (fun small' => ∃ news', (∀ q ∈ news', q ∈ small' ∨ (q ∈ news ∧ ∀ x ∈ [(wr, io), (dw, od)], q.1 ≠ x.1)) ∧ BackT w p loose mean mg mb outer A₀ base h₀ L m news' s'.heap P) s' := by
  refine leaveT_ T F N ⟨_, fun q hq => ?_, k (off_newT T N List.mem_cons_self gN hx)⟩
  rcases List.mem_cons.mp hq with rfl | hq
  · exact .inl List.mem_cons_self
  · rcases put_cond N0 U hr q hq with q1 | q1
    · rcases List.mem_cons.mp q1 with rfl | q1
      · exact .inl (List.mem_cons_of_mem _ h1)
      · rcases List.mem_cons.mp q1 with rfl | q1
        · exact .inl (List.mem_cons_of_mem _ h2)
        · nomatch q1
    · exact .inr q1
theorem take_word (W : Int) (P wd : Nat) : Builtin.bitAnd (W.fdiv (2 ^ ((P : Int)).toNat)) (1 * 2 ^ ((wd : Int)).toNat - 1) = W / 2 ^ P % 2 ^ wd := by
  rw [Int.one_mul, Int.toNat_natCast, Int.toNat_natCast, kbt_mask, Int.fdiv_eq_ediv_of_nonneg _ (Int.le_of_lt (Int.pow_pos (by decide)))]
theorem take_taken {prog p : Program} {w : World} {loose : List Str} {mean : ExcName → Option Value} {mg mb : Str → Option Value} {dp un : Nat} {gd : Option (List Code)} {cn : Str} {cs : Scope} {a : Addr} {ccd : Value} {outer : List Env} {A₀ : Around} {base h₀ : Heap} {L : Addr} {m : Str → Option Value} {s : Shared} {Q E : Value → Shared → Prop}
    {news : List (Addr × Obj)}
    {r dr : Addr} {ea eb ec : Int} {k1 k2 k3 t1 t2 t3 tw : Tok} {W : Int} {C P wd : Nat} {gU : Obj → List (Addr × Obj)}
    (S : SiteS w p loose mean mg mb cs outer A₀ base h₀ L m news s.heap)
    (hr : (r, instObj 138 dr) ∈ news) (U : UpdF dr (dictOf [⟨ea, .str (Str.ofString "word") k1, .int W t1⟩, ⟨eb, .str (Str.ofString "count") k2, .int (C : Int) t2⟩, ⟨ec, .str (Str.ofString "at") k3, .int (P : Int) t3⟩] 3) news gU)
    (hne : r ≠ dr) (hW : 0 ≤ W) (hC : C ≤ 400) (hgo : P + wd ≤ C)
    (hdp : dp + 20 ≤ 500) (hun : un + 200 ≤ 4000)
    (h : ∀ (l' : Addr) (q1 q2 t3 : Tok) (h' : Heap) (tk' : Nat), LCg.Off1 l' news →
      BackT w p loose mean mg mb outer A₀ base h₀ L m ((l', { cls := .type "tuple", data := .seq #[.str (Str.ofString "taken") q1, .int (W / 2 ^ P % 2 ^ wd) q2] }) :: gU (dictOf [⟨ea, .str (Str.ofString "word") k1, .int W t1⟩, ⟨eb, .str (Str.ofString "count") k2, .int (C : Int) t2⟩, ⟨ec, .str (Str.ofString "at") k3, .int ((P : Int) + (wd : Int)) t3⟩] 3)) h' (Q (.ref l') { s with heap := h', toks := tk' })) :
    wpAny (model prog w) (ktrTop dp un gd cn cs L a ccd [] outer) (call (.ref 298) [.ref 305, .ref r, .int (wd : Int) tw]) Q E s := by
  have hsub : ∀ q ∈ [(r, instObj 138 dr), (dr, dictOf [⟨ea, .str (Str.ofString "word") k1, .int W t1⟩, ⟨eb, .str (Str.ofString "count") k2, .int (C : Int) t2⟩, ⟨ec, .str (Str.ofString "at") k3, .int (P : Int) t3⟩] 3)], q ∈ news := by
    intro q hq
    rcases List.mem_cons.mp hq with rfl | hq
    · exact hr
    · rcases List.mem_cons.mp hq with rfl | hq
      · exact updF_was U
      · nomatch hq
  have XB := S.XB
  have TB := S.TB
  have hne := neN hne
  k_dflt kts_go
  k_steps
  with_reducible rename (∀ q ∈ news, _) => g9
  with_reducible rename News _ _ _ _ => n9
  rw [take_word] at n9
  exact finTU S.N U hr g9 n9 KtsTurn.refl (by assumption) (List.mem_cons_self) (List.mem_cons_of_mem _ List.mem_cons_self) (fun x hx => by
      rcases List.mem_cons.mp hx with rfl | hx
      · k_ne
      · rcases List.mem_cons.mp hx with rfl | hx
        · k_ne
        · nomatch hx) (fun o9 => h _ _ _ _ _ _ o9)
end Mine
end

section
namespace Mine
open PySem.W.X
theorem wordsTK0 : True := by
  k_with_none
  w_top off
  k_with "a9" => (with_reducible assumption)
  k_with "c9" => (repeat (with_reducible rename _ ∧ _ => hA9; clear hA9)); (repeat (with_reducible rename _ ≠ _ => hA9; clear hA9))
  k_with "u9" => ((with_reducible rename News _ _ _ _ => N9); dsimp +zetaDelta only at N9)
  k_with "p0" => (refine offAt (by fail "a9") 0 ?_; exact rfl)
  k_with "p1" => (refine offAt (by fail "a9") 1 ?_; exact rfl)
  k_with "p2" => (refine offAt (by fail "a9") 2 ?_; exact rfl)
  k_with "p3" => (refine offAt (by fail "a9") 3 ?_; exact rfl)
  k_with "p4" => (refine offAt (by fail "a9") 4 ?_; exact rfl)
  k_with "p5" => (refine offAt (by fail "a9") 5 ?_; exact rfl)
  k_with "p6" => (refine offAt (by fail "a9") 6 ?_; exact rfl)
  k_with "p7" => (refine offAt (by fail "a9") 7 ?_; exact rfl)
  k_with "p8" => (refine offAt (by fail "a9") 8 ?_; exact rfl)
  k_with "p9" => (refine offAt (by fail "a9") 9 ?_; exact rfl)
  k_with "p10" => (refine offAt (by fail "a9") 10 ?_; exact rfl)
  k_with "p11" => (refine offAt (by fail "a9") 11 ?_; exact rfl)
  k_with "p12" => (refine offAt (by fail "a9") 12 ?_; exact rfl)
  k_with "p13" => (refine offAt (by fail "a9") 13 ?_; exact rfl)
  k_with "p14" => (refine ltAt (by fail "a9") 0 ?_; exact rfl)
  k_with "p15" => (refine ltAt (by fail "a9") 1 ?_; exact rfl)
  k_with "p16" => (refine ltAt (by fail "a9") 2 ?_; exact rfl)
  k_with "p17" => (refine ltAt (by fail "a9") 3 ?_; exact rfl)
  k_with "p18" => (refine ltAt (by fail "a9") 4 ?_; exact rfl)
  k_with "p19" => (refine ltAt (by fail "a9") 5 ?_; exact rfl)
  k_with "p20" => (refine ltAt (by fail "a9") 6 ?_; exact rfl)
  k_with "p21" => (refine ltAt (by fail "a9") 7 ?_; exact rfl)
  k_with "p22" => (refine ltAt (by fail "a9") 8 ?_; exact rfl)
  k_with "p23" => (refine ltAt (by fail "a9") 9 ?_; exact rfl)
  k_with "p24" => (refine ltAt (by fail "a9") 10 ?_; exact rfl)
  k_with "p25" => (refine ltAt (by fail "a9") 11 ?_; exact rfl)
  k_with "p26" => (refine ltAt (by fail "a9") 12 ?_; exact rfl)
  k_with "p27" => (refine ltAt (by fail "a9") 13 ?_; exact rfl)
  k_with "r9" => (fail "w1")
  k_with "w1" => (first | fail "a9" | exact Nat.le_of_lt (by fail "a9"))
  k_with "offs9" => (first | fail "p0" | fail "p1" | fail "p2" | fail "p3" | fail "p4" | fail "p5" | fail "p6" | fail "p7" | fail "p8" | fail "p9" | fail "p10" | fail "p11" | fail "p12" | fail "p13" | fail "p14" | fail "p15" | fail "p16" | fail "p17" | fail "p18" | fail "p19" | fail "p20" | fail "p21" | fail "p22" | fail "p23" | fail "p24" | fail "p25" | fail "p26" | fail "p27")
  k_with "mem9" => (fail "w2")
  k_with "w2" => (first | exact List.Mem.head _ | exact List.Mem.tail _ (List.Mem.head _) | (refine memAt 0 ?_; exact rfl) | (refine memAt 1 ?_; exact rfl) | (refine memAt 2 ?_; exact rfl) | (refine memAt 3 ?_; exact rfl) | (refine memAt 4 ?_; exact rfl) | (refine memAt 5 ?_; exact rfl) | (refine memAt 6 ?_; exact rfl) | (refine memAt 7 ?_; exact rfl) | (refine memAt 8 ?_; exact rfl) | (refine memAt 9 ?_; exact rfl) | (refine memAt 10 ?_; exact rfl) | (refine memAt 11 ?_; exact rfl) | (refine memAt 12 ?_; exact rfl) | (refine memAt 13 ?_; exact rfl) | (refine memAt 14 ?_; exact rfl) | (refine memAt 15 ?_; exact rfl) | (refine memAt 16 ?_; exact rfl) | (refine memAt 17 ?_; exact rfl))
  k_with "lts9" => (fail "w3")
  k_with "w3" => (first | (refine ltB (by fail "a9") 0 ?_; exact rfl) | (refine ltB (by fail "a9") 1 ?_; exact rfl) | (refine ltB (by fail "a9") 2 ?_; exact rfl) | (refine ltB (by fail "a9") 3 ?_; exact rfl) | (refine ltB (by fail "a9") 4 ?_; exact rfl) | (refine ltB (by fail "a9") 5 ?_; exact rfl) | (refine ltB (by fail "a9") 6 ?_; exact rfl) | (refine ltB (by fail "a9") 7 ?_; exact rfl) | (refine ltB (by fail "a9") 8 ?_; exact rfl) | (refine ltB (by fail "a9") 9 ?_; exact rfl) | (refine ltB (by fail "a9") 10 ?_; exact rfl) | (refine ltB (by fail "a9") 11 ?_; exact rfl) | (refine ltB (by fail "a9") 12 ?_; exact rfl) | (refine ltB (by fail "a9") 13 ?_; exact rfl))
  k_with "rooms9" => (fail "w4")
  k_with "w4" => (first | (refine rl2 (by fail "r9") ?_; exact rfl) | (refine rl1 (by fail "r9") ?_; exact rfl) | (refine rl3 (by fail "r9") ?_; exact rfl) | (refine rl0 (by fail "r9") ?_; exact rfl) | (refine rl4 (by fail "r9") ?_; exact rfl) | (refine rm2 (by fail "r9") ?_; exact rfl) | (refine rm1 (by fail "r9") ?_; exact rfl) | (refine rm3 (by fail "r9") ?_; exact rfl) | (refine rm0 (by fail "r9") ?_; exact rfl) | (refine rm4 (by fail "r9") ?_; exact rfl))
  k_with "k_ne" => (fail "w5")
  k_with "w5" => (refine neN ?_; (try dsimp only); first | fail "a9" | (refine Ne.symm ?_; fail "a9") | exact Nat.ne_of_lt (by fail "a9") | exact Nat.ne_of_gt (by fail "a9") | k_extra "offs9" | (refine Ne.symm ?_; first | k_extra "offs9") | ((try simp only [LCg.Off1, and_true] at *); omega))
  k_with "k_mem" => (fail "w6")
  k_with "w6" => (first | fail "a9" | k_extra "mem9")
  k_with "k_memK" => (first | k_extra "mem9")
  k_with "is_list" => (fail "w7")
  k_with "w7" => (exact News.isList (by fail "a9") (by k_mem))
  k_with "ktr_room" => (fail "w8")
  k_with "w8" => ((try dsimp only [depth_under_make, depth_under_kw, depth_in1, depth_deeper, depth_caller]); (try dsimp only [ktrTop]); first | decide | k_extra "rooms9")
  k_with "units_room" => (fail "w9")
  k_with "w9" => ((try dsimp only [units_in1, units_deeper, Around.mark_units, units_caller]); (try dsimp only [ktrTop]); first | decide | k_extra "rooms9")
  k_with "l_idx" => ((k_extra "c9"); omega)
  k_with "l_fit" => ((k_extra "c9"); omega)
  k_with "ktr_units" => (fail "w10")
  k_with "w10" => ((try dsimp only [units_in1, units_deeper, Around.mark_units, units_caller]); (try dsimp only [ktrTop]); first | decide | k_extra "rooms9")
  k_with "execs cons" => (fail "w11")
  k_with "w11" => (k_here; first | k_gentoks | ((try dsimp only); (try k_gentoks); (try (with_reducible refine letA ?_; intro A9)); (try ((with_reducible rename Fr _ _ _ _ => F9); refine letF F9 ?_; clear F9; intro m9 F9)); (first | (with_reducible refine execHidB fun q9 hq9 => ?_) | (refine hideQ fun q9 hq9 => ?_; with_reducible refine execHidB fun q9 hq9 => ?_))))
  k_with "Hid" => (fail "w12")
  k_with "w12" => (first | ((with_reducible refine unhidNextT (by fail "a9") ?_); intro tk9; (try dsimp only)) | ((with_reducible refine unhidNext (by fail "a9") ?_); (try dsimp only)) | ((with_reducible refine unhidRet (by fail "a9") ?_); (try dsimp only)) | ((with_reducible refine unhid (by fail "a9") ?_); (try dsimp only [Behind])))
  k_with "spliced" => (fail "w13")
  k_with "w13" => (k_here; (with_reducible show wpAny _ _ (spliced (backTo _ (starEach (_ :: _ :: _ :: _) _))) _ _ _); k_dflt (refine' args_cons ?_ ?_; rotate_left; rfl))
  k_with "spliced" => (fail "w14")
  k_with "w14" => (k_here; k_dflt ((refine' argsF ?_ ?_ ?_ ?_); (rotate_left 4); k_asm; rfl; rfl); (try dsimp only [List.nil_append, List.cons_append]))
  k_with "eval Call" => (fail "w15")
  k_with "w15" => (k_here; (with_reducible show wpAny _ _ (eval (PySem.Expr.Call (PySem.Expr.Name _ _) (_ :: _) [] _) _) _ _ _); first | (k_dflt ((refine' callF ?_ ?_ ?_ ?_ ?_ ?_ ?_ ?_ ?_ ?_ ?_); (rotate_left 10); k_asm; k_asm; k_asm; k_is; k_is; rfl; rfl; rfl; rotate_left; decide; rfl)) | k_compRoot | k_dflt (refine' Call_ ?_))
  k_with "eval Name" => (fail "w16")
  k_with "w16" => (k_here; (with_reducible show wpAny _ _ (eval (PySem.Expr.Name _ _) (envOf _ _ _ _ _)) _ _ _); first | k_dflt ((refine' nameX_K ?_ ?_ ?_ ?_ ?_ ?_ ?_ ?_); (rotate_left 8); k_asm; k_asm; k_asm; k_is; rotate_left; rfl; rfl; decide) | k_dflt ((refine' nameX_L ?_ ?_ ?_ ?_ ?_ ?_); (rotate_left 3); k_asm; rfl; rotate_left; rfl; rfl; decide))
  k_with "callWith ref" => (fail "w17")
  k_with "w17" => (k_here; (with_reducible show wpAny _ _ (callWith _ _ _ (backTo _ (starEach [] _)) []) _ _ _); k_dflt (refine callF0 (by fail "a9") (by fail "a9") (by k_is) ?_))
  k_with "k_lt" => skip
  k_with "ktr_enter" => (fail "w18")
  k_with "w18" => first | (refine enterK (by assumption) (by assumption) (by k_is) (by k_is) (by ktr_room) (by exact BindsTo.of_eq rfl) (by exact locs rfl) ?_ (by exact rfl) (by exact rfl) (by exact rfl) (by decide); k_whole; intro g' L' h' F' N' B' X' T' lN' gN' tk9'; (try k_lt lN'); (try dsimp only); (try k_fold)) | (refine enterC (by assumption) (by assumption) (by k_is) (by k_is) (by ktr_room) (by exact BindsTo.of_eq rfl) (by exact rfl) (by decide +kernel) ?_ (by exact rfl) (by exact rfl) (by exact rfl); k_whole; intro g' L' h' tk' cells' F' N' Y' B' X' T' lN' gN'; (try k_lt lN'); k_cells Y'; (try simp only [List.cons_append, List.nil_append] at N'); (try dsimp only); (try k_fold))
  trivial
theorem mask_bitsT {v : Int} {wd : Nat} : (0 : Int) ≤ Builtin.bitAnd v (1 * 2 ^ ((wd : Int)).toNat - 1) := by
  rw [Int.one_mul, Int.toNat_natCast, kbt_mask]
  exact Int.emod_nonneg _ (Int.ne_of_gt (Int.pow_pos (by decide)))
/-- BitReader.take where the bits are there -/
theorem take_spec {prog p : Program} {w : World} {loose : List Str} {mean : ExcName → Option Value} {mg mb : Str → Option Value} {dp un : Nat} {gd : Option (List Code)} {cn : Str} {cs : Scope} {a : Addr} {ccd : Value} {outer : List Env} {A₀ : Around} {base h₀ : Heap} {L : Addr} {m : Str → Option Value} {s : Shared} {Q E : Value → Shared → Prop}
    {news : List (Addr × Obj)} {cl : List (Str × Addr)}
    {r dr : Addr} {ea eb ec : Int} {k1 k2 k3 t1 t2 t3 tw : Tok} {W : Int} {C P wd : Nat} {gU : Obj → List (Addr × Obj)}
    (S : Site w p loose mean mg mb cs outer A₀ base h₀ L m news s.heap)
    (hr : (r, instObj 138 dr) ∈ news) (U : UpdF dr (dictOf [⟨ea, .str (Str.ofString "word") k1, .int W t1⟩, ⟨eb, .str (Str.ofString "count") k2, .int (C : Int) t2⟩, ⟨ec, .str (Str.ofString "at") k3, .int (P : Int) t3⟩] 3) news gU)
    (hne : r ≠ dr) (hW : 0 ≤ W) (hC : C ≤ 400) (hgo : P + wd ≤ C)
    (hdp : dp + 4 < recursionLimit) (hun : un + 40 < cLine)
    (h : ∀ (q2 t3 : Tok) (h' : Heap) (tk' : Nat), Fr h₀ L h' m →
      News h₀ L h' (gU (dictOf [⟨ea, .str (Str.ofString "word") k1, .int W t1⟩, ⟨eb, .str (Str.ofString "count") k2, .int (C : Int) t2⟩, ⟨ec, .str (Str.ofString "at") k3, .int ((P : Int) + (wd : Int)) t3⟩] 3)) → Q (.int (Builtin.bitAnd (W.fdiv (2 ^ ((P : Int)).toNat)) (1 * 2 ^ ((wd : Int)).toNat - 1)) q2) { s with heap := h', toks := tk' }) :
    wpAny (model prog w) (ktrTop dp un gd cn cs L a ccd cl outer) (call (.ref 128) [.ref r, .int (wd : Int) tw]) Q E s := by
  have hsub : ∀ q ∈ [(r, instObj 138 dr), (dr, dictOf [⟨ea, .str (Str.ofString "word") k1, .int W t1⟩, ⟨eb, .str (Str.ofString "count") k2, .int (C : Int) t2⟩, ⟨ec, .str (Str.ofString "at") k3, .int (P : Int) t3⟩] 3)], q ∈ news := by
    intro q hq
    rcases List.mem_cons.mp hq with rfl | hq
    · exact hr
    · rcases List.mem_cons.mp hq with rfl | hq
      · exact updF_was U
      · nomatch hq
  have hne := neN hne
  k_dflt ktr_enter
  k_steps
  exact leaveE_ (by assumption) (by assumption) ⟨gU _, put_cond S.N U hr, fun F9 N9 => h _ _ _ _ F9 N9⟩
theorem take_specI {prog p : Program} {w : World} {loose : List Str} {mean : ExcName → Option Value} {mg mb : Str → Option Value} {dp un : Nat} {gd : Option (List Code)} {cn : Str} {cs : Scope} {a : Addr} {ccd : Value} {outer : List Env} {A₀ : Around} {base h₀ : Heap} {L : Addr} {m : Str → Option Value} {s : Shared} {Q E : Value → Shared → Prop}
    {news : List (Addr × Obj)} {cl : List (Str × Addr)}
    {r dr : Addr} {ea eb ec : Int} {k1 k2 k3 t1 t2 t3 tw : Tok} {W C P wd : Int} {gU : Obj → List (Addr × Obj)}
    (S : Site w p loose mean mg mb cs outer A₀ base h₀ L m news s.heap)
    (hr : (r, instObj 138 dr) ∈ news) (U : UpdF dr (dictOf [⟨ea, .str (Str.ofString "word") k1, .int W t1⟩, ⟨eb, .str (Str.ofString "count") k2, .int C t2⟩, ⟨ec, .str (Str.ofString "at") k3, .int P t3⟩] 3) news gU)
    (hne : r ≠ dr) (hW : 0 ≤ W) (hP : 0 ≤ P) (hwd : 0 ≤ wd) (hC : C ≤ 400) (hgo : P + wd ≤ C)
    (hdp : dp + 4 < recursionLimit) (hun : un + 40 < cLine)
    (h : ∀ (q2 t3 : Tok) (h' : Heap) (tk' : Nat), Fr h₀ L h' m →
      News h₀ L h' (gU (dictOf [⟨ea, .str (Str.ofString "word") k1, .int W t1⟩, ⟨eb, .str (Str.ofString "count") k2, .int C t2⟩, ⟨ec, .str (Str.ofString "at") k3, .int (P + wd) t3⟩] 3)) → Q (.int (Builtin.bitAnd (W.fdiv (2 ^ P.toNat)) (1 * 2 ^ wd.toNat - 1)) q2) { s with heap := h', toks := tk' }) :
    wpAny (model prog w) (ktrTop dp un gd cn cs L a ccd cl outer) (call (.ref 128) [.ref r, .int wd tw]) Q E s := by
  obtain ⟨P, rfl⟩ := Int.eq_ofNat_of_zero_le hP
  obtain ⟨wd, rfl⟩ := Int.eq_ofNat_of_zero_le hwd
  obtain ⟨C, rfl⟩ := Int.eq_ofNat_of_zero_le (show 0 ≤ C by omega)
  exact take_spec S hr U hne hW (by omega) (by omega) hdp hun h
end Mine
end

section
namespace Mine
open PySem.W.X
theorem wordsT50 : True := by
  k_with_none
  w_top off
  k_with "a9" => (with_reducible assumption)
  k_with "c9" => (repeat (with_reducible rename _ ∧ _ => hA9; clear hA9)); (repeat (with_reducible rename _ ≠ _ => hA9; clear hA9))
  k_with "u9" => ((with_reducible rename News _ _ _ _ => N9); dsimp +zetaDelta only at N9)
  k_with "p0" => (refine offAt (by fail "a9") 0 ?_; exact rfl)
  k_with "p1" => (refine offAt (by fail "a9") 1 ?_; exact rfl)
  k_with "p2" => (refine offAt (by fail "a9") 2 ?_; exact rfl)
  k_with "p3" => (refine offAt (by fail "a9") 3 ?_; exact rfl)
  k_with "p4" => (refine offAt (by fail "a9") 4 ?_; exact rfl)
  k_with "p5" => (refine offAt (by fail "a9") 5 ?_; exact rfl)
  k_with "p6" => (refine offAt (by fail "a9") 6 ?_; exact rfl)
  k_with "p7" => (refine offAt (by fail "a9") 7 ?_; exact rfl)
  k_with "p8" => (refine offAt (by fail "a9") 8 ?_; exact rfl)
  k_with "p9" => (refine offAt (by fail "a9") 9 ?_; exact rfl)
  k_with "p10" => (refine offAt (by fail "a9") 10 ?_; exact rfl)
  k_with "p11" => (refine offAt (by fail "a9") 11 ?_; exact rfl)
  k_with "p12" => (refine offAt (by fail "a9") 12 ?_; exact rfl)
  k_with "p13" => (refine offAt (by fail "a9") 13 ?_; exact rfl)
  k_with "p14" => (refine ltAt (by fail "a9") 0 ?_; exact rfl)
  k_with "p15" => (refine ltAt (by fail "a9") 1 ?_; exact rfl)
  k_with "p16" => (refine ltAt (by fail "a9") 2 ?_; exact rfl)
  k_with "p17" => (refine ltAt (by fail "a9") 3 ?_; exact rfl)
  k_with "p18" => (refine ltAt (by fail "a9") 4 ?_; exact rfl)
  k_with "p19" => (refine ltAt (by fail "a9") 5 ?_; exact rfl)
  k_with "p20" => (refine ltAt (by fail "a9") 6 ?_; exact rfl)
  k_with "p21" => (refine ltAt (by fail "a9") 7 ?_; exact rfl)
  k_with "p22" => (refine ltAt (by fail "a9") 8 ?_; exact rfl)
  k_with "p23" => (refine ltAt (by fail "a9") 9 ?_; exact rfl)
  k_with "p24" => (refine ltAt (by fail "a9") 10 ?_; exact rfl)
  k_with "p25" => (refine ltAt (by fail "a9") 11 ?_; exact rfl)
  k_with "p26" => (refine ltAt (by fail "a9") 12 ?_; exact rfl)
  k_with "p27" => (refine ltAt (by fail "a9") 13 ?_; exact rfl)
  k_with "r9" => (fail "w1")
  k_with "w1" => (first | fail "a9" | exact Nat.le_of_lt (by fail "a9"))
  k_with "offs9" => (first | fail "p0" | fail "p1" | fail "p2" | fail "p3" | fail "p4" | fail "p5" | fail "p6" | fail "p7" | fail "p8" | fail "p9" | fail "p10" | fail "p11" | fail "p12" | fail "p13" | fail "p14" | fail "p15" | fail "p16" | fail "p17" | fail "p18" | fail "p19" | fail "p20" | fail "p21" | fail "p22" | fail "p23" | fail "p24" | fail "p25" | fail "p26" | fail "p27")
  k_with "mem9" => (fail "w2")
  k_with "w2" => (first | exact List.Mem.head _ | exact List.Mem.tail _ (List.Mem.head _) | (refine memAt 0 ?_; exact rfl) | (refine memAt 1 ?_; exact rfl) | (refine memAt 2 ?_; exact rfl) | (refine memAt 3 ?_; exact rfl) | (refine memAt 4 ?_; exact rfl) | (refine memAt 5 ?_; exact rfl) | (refine memAt 6 ?_; exact rfl) | (refine memAt 7 ?_; exact rfl) | (refine memAt 8 ?_; exact rfl) | (refine memAt 9 ?_; exact rfl) | (refine memAt 10 ?_; exact rfl) | (refine memAt 11 ?_; exact rfl) | (refine memAt 12 ?_; exact rfl) | (refine memAt 13 ?_; exact rfl) | (refine memAt 14 ?_; exact rfl) | (refine memAt 15 ?_; exact rfl) | (refine memAt 16 ?_; exact rfl) | (refine memAt 17 ?_; exact rfl))
  k_with "lts9" => (fail "w3")
  k_with "w3" => (first | (refine ltB (by fail "a9") 0 ?_; exact rfl) | (refine ltB (by fail "a9") 1 ?_; exact rfl) | (refine ltB (by fail "a9") 2 ?_; exact rfl) | (refine ltB (by fail "a9") 3 ?_; exact rfl) | (refine ltB (by fail "a9") 4 ?_; exact rfl) | (refine ltB (by fail "a9") 5 ?_; exact rfl) | (refine ltB (by fail "a9") 6 ?_; exact rfl) | (refine ltB (by fail "a9") 7 ?_; exact rfl) | (refine ltB (by fail "a9") 8 ?_; exact rfl) | (refine ltB (by fail "a9") 9 ?_; exact rfl) | (refine ltB (by fail "a9") 10 ?_; exact rfl) | (refine ltB (by fail "a9") 11 ?_; exact rfl) | (refine ltB (by fail "a9") 12 ?_; exact rfl) | (refine ltB (by fail "a9") 13 ?_; exact rfl))
  k_with "rooms9" => (fail "w4")
  k_with "w4" => (first | (refine rl2 (by fail "r9") ?_; exact rfl) | (refine rl1 (by fail "r9") ?_; exact rfl) | (refine rl3 (by fail "r9") ?_; exact rfl) | (refine rl0 (by fail "r9") ?_; exact rfl) | (refine rl4 (by fail "r9") ?_; exact rfl) | (refine rm2 (by fail "r9") ?_; exact rfl) | (refine rm1 (by fail "r9") ?_; exact rfl) | (refine rm3 (by fail "r9") ?_; exact rfl) | (refine rm0 (by fail "r9") ?_; exact rfl) | (refine rm4 (by fail "r9") ?_; exact rfl))
  k_with "k_ne" => (fail "w5")
  k_with "w5" => (refine neN ?_; (try dsimp only); first | fail "a9" | (refine Ne.symm ?_; fail "a9") | exact Nat.ne_of_lt (by fail "a9") | exact Nat.ne_of_gt (by fail "a9") | k_extra "offs9" | (refine Ne.symm ?_; first | k_extra "offs9") | ((try simp only [LCg.Off1, and_true] at *); omega))
  k_with "k_mem" => (fail "w6")
  k_with "w6" => (first | fail "a9" | k_extra "mem9")
  k_with "k_memK" => (first | k_extra "mem9")
  k_with "is_list" => (fail "w7")
  k_with "w7" => (exact News.isList (by fail "a9") (by k_mem))
  k_with "ktr_room" => (fail "w8")
  k_with "w8" => ((try dsimp only [depth_under_make, depth_under_kw, depth_in1, depth_deeper, depth_caller]); (try dsimp only [ktrTop]); first | decide | k_extra "rooms9")
  k_with "units_room" => (fail "w9")
  k_with "w9" => ((try dsimp only [units_in1, units_deeper, Around.mark_units, units_caller]); (try dsimp only [ktrTop]); first | decide | k_extra "rooms9")
  k_with "l_idx" => ((k_extra "c9"); omega)
  k_with "l_fit" => ((k_extra "c9"); omega)
  k_with "ktr_units" => (fail "w10")
  k_with "w10" => ((try dsimp only [units_in1, units_deeper, Around.mark_units, units_caller]); (try dsimp only [ktrTop]); first | decide | k_extra "rooms9")
  k_with "execs cons" => (fail "w11")
  k_with "w11" => (k_here; first | k_gentoks | ((try dsimp only); (try k_gentoks); (try (with_reducible refine letA ?_; intro A9)); (try ((with_reducible rename Fr _ _ _ _ => F9); refine letF F9 ?_; clear F9; intro m9 F9)); (first | (with_reducible refine execHidB fun q9 hq9 => ?_) | (refine hideQ fun q9 hq9 => ?_; with_reducible refine execHidB fun q9 hq9 => ?_))))
  k_with "Hid" => (fail "w12")
  k_with "w12" => (first | ((with_reducible refine unhidNextT (by fail "a9") ?_); intro tk9; (try dsimp only)) | ((with_reducible refine unhidNext (by fail "a9") ?_); (try dsimp only)) | ((with_reducible refine unhidRet (by fail "a9") ?_); (try dsimp only)) | ((with_reducible refine unhid (by fail "a9") ?_); (try dsimp only [Behind])))
  k_with "spliced" => (fail "w13")
  k_with "w13" => (k_here; (with_reducible show wpAny _ _ (spliced (backTo _ (starEach (_ :: _ :: _ :: _) _))) _ _ _); k_dflt (refine' args_cons ?_ ?_; rotate_left; rfl))
  k_with "spliced" => (fail "w14")
  k_with "w14" => (k_here; k_dflt ((refine' argsF ?_ ?_ ?_ ?_); (rotate_left 4); k_asm; rfl; rfl); (try dsimp only [List.nil_append, List.cons_append]))
  k_with "eval Call" => (fail "w15")
  k_with "w15" => (k_here; (with_reducible show wpAny _ _ (eval (PySem.Expr.Call (PySem.Expr.Name _ _) (_ :: _) [] _) _) _ _ _); first | (k_dflt ((refine' callF ?_ ?_ ?_ ?_ ?_ ?_ ?_ ?_ ?_ ?_ ?_); (rotate_left 10); k_asm; k_asm; k_asm; k_is; k_is; rfl; rfl; rfl; rotate_left; decide; rfl)) | k_compRoot | k_dflt (refine' Call_ ?_))
  k_with "eval Name" => (fail "w16")
  k_with "w16" => (k_here; (with_reducible show wpAny _ _ (eval (PySem.Expr.Name _ _) (envOf _ _ _ _ _)) _ _ _); first | k_dflt ((refine' nameX_K ?_ ?_ ?_ ?_ ?_ ?_ ?_ ?_); (rotate_left 8); k_asm; k_asm; k_asm; k_is; rotate_left; rfl; rfl; decide) | k_dflt ((refine' nameX_L ?_ ?_ ?_ ?_ ?_ ?_); (rotate_left 3); k_asm; rfl; rotate_left; rfl; rfl; decide))
  k_with "callWith ref" => (fail "w17")
  k_with "w17" => (k_here; (with_reducible show wpAny _ _ (callWith _ _ _ (backTo _ (starEach [] _)) []) _ _ _); k_dflt (refine callF0 (by fail "a9") (by fail "a9") (by k_is) ?_))
  k_with "k_lt" => skip
  k_with "ktr_enter" => (fail "w18")
  k_with "w18" => first | (refine enterK (by assumption) (by assumption) (by k_is) (by k_is) (by ktr_room) (by exact BindsTo.of_eq rfl) (by exact locs rfl) ?_ (by exact rfl) (by exact rfl) (by exact rfl) (by decide); k_whole; intro g' L' h' F' N' B' X' T' lN' gN' tk9'; (try k_lt lN'); (try dsimp only); (try k_fold)) | (refine enterC (by assumption) (by assumption) (by k_is) (by k_is) (by ktr_room) (by exact BindsTo.of_eq rfl) (by exact rfl) (by decide +kernel) ?_ (by exact rfl) (by exact rfl) (by exact rfl); k_whole; intro g' L' h' tk' cells' F' N' Y' B' X' T' lN' gN'; (try k_lt lN'); k_cells Y'; (try simp only [List.cons_append, List.nil_append] at N'); (try dsimp only); (try k_fold))
  k_with "kts_go" => (fail "w19")
  k_with "w19" => (refine enterS (by assumption) (by assumption) (by k_is) (by k_is) (by ktr_room) (by exact BindsTo.of_eq rfl) (by exact locs rfl) ?_ (by exact rfl) (by exact rfl) (by exact rfl) (by decide); k_whole; intro g' L' h' F' N' B' X' T' D' lN' gN' tk9'; (try k_lt lN'); (try dsimp only); (try k_fold))
  k_with "exec Raise some none" => (fail "w20")
  k_with "w20" => (k_here; k_dflt (refine Raise_bad (by rfl) ?_))
  k_with "BadE" => (fail "w21")
  k_with "w21" => (k_here; (rename BadIs _ _ _ _ _ _ _ => bI); refine ⟨_, _, _, rfl, by k_in, BadIs.he bI, ?_⟩)
  k_with "call ref" => (fail "w22")
  k_with "w22" => (k_here; (with_reducible show wpAny _ _ (call (Value.ref 51) _) _ _ _); k_dflt (refine bad_call ⟨by k_asm, by k_asm, by k_asm, by k_asm, by k_asm, by first | exact rfl | assumption⟩ (by ktr_room) (by ktr_units) ?_); intro h' e' d' t' tk' h1' h2' k1' k2' F' N' o1' bI'; (try dsimp only); (try k_fold))
  k_with "leaving ref" => (fail "w23")
  k_with "w23" => (k_here; first | ((with_reducible rename BadIs _ _ _ _ _ _ _ => bI9); (refine leave_badI (by assumption) (by assumption) (by assumption) bI9 ?_); k_whole; intro h' vs' S' U' d'; (try dsimp only at S' U' ⊢)) | ((with_reducible rename RaisedS _ _ _ _ _ _ _ _ _ => rS9); (refine leave_badOnI (by assumption) (by assumption) rS9 (by assumption) (by assumption) ?_); k_whole; intro h' S' U' d'; (try dsimp only at S' U' ⊢)))
  k_with "noteFrame ref" => (fail "w24")
  k_with "w24" => (k_here; k_dflt (refine caught_bad (by assumption) (by assumption) (by assumption) (by assumption) (by assumption) (by assumption) (by assumption) (by assumption) (by first | assumption | exact KtsTurn.refl) (by k_is) ?_; k_whole); intro h' g' ws' sl' tk' T' F' N' K' X' P' D' c'; (try k_sweep))
  k_with "getAttr ref" => (fail "w25")
  k_with "w25" => (k_here; (with_reducible show wpAny _ _ (getAttr (Value.ref _) (Str.ofString "square") _) _ _ _); k_dflt (refine fault_square (by k_asm) (by k_asm) (by k_asm) (by k_mem) (by k_mem) ?_); (try dsimp only))
  k_with "getAttr ref" => (fail "w26")
  k_with "w26" => (k_here; (with_reducible show wpAny _ _ (getAttr (Value.ref _) (Str.ofString "text") _) _ _ _); k_dflt (refine fault_text (by k_asm) (by k_asm) (by k_asm) (by k_mem) (by k_mem) ?_); (try dsimp only))
  trivial
theorem finTU2 {w : World} {p : Program} {loose : List Str} {mean : ExcName → Option Value} {mg mb : Str → Option Value} {outer : List Env} {A₀ : Around} {base h₀ h₁ : Heap} {L : Addr} {m : Str → Option Value} {fs : List Addr} {g g' : Heap} {L' D D2 wr dw : Addr} {m' : Str → Option Value} {o o2 io od o' : Obj} {news small' : List (Addr × Obj)} {gU : Obj → List (Addr × Obj)} {s' : Shared} {P : Prop}
    (N0 : News h₀ L h₁ news) (U : UpdF dw od news gU) (hr : (wr, io) ∈ news) (gN : ∀ q ∈ news, (∀ x ∈ [(wr, io), (dw, od)], q.1 ≠ x.1) → g.get? q.1 = some q.2) (N : News g' L' s'.heap ((D, o) :: (D2, o2) :: small')) (T : KtsTurn fs g g') (F : Fr g' L' s'.heap m')
    (h1 : (wr, io) ∈ small') (h2 : (dw, o') ∈ small') (hx : ∀ x ∈ [(wr, io), (dw, od)], x.1 ≠ D) (hx2 : ∀ x ∈ [(wr, io), (dw, od)], x.1 ≠ D2) (hd : @Ne Nat D D2) (k : LCg.Off1 D news → LCg.Off1 D2 news → (@Ne Nat D D2) → BackT w p loose mean mg mb outer A₀ base h₀ L m ((D, o) :: (D2, o2) :: gU o') s'.heap P) :
    LeaveT fs g (fun small' => ∃ news', (∀ q ∈ news', q ∈ small' ∨ (q ∈ news ∧ ∀ x ∈ [(wr, io), (dw, od)], q.1 ≠ x.1)) ∧ BackT w p loose mean mg mb outer A₀ base h₀ L m news' s'.heap P) s' := by
  refine leaveT_ T F N ⟨_, fun q hq => ?_, k (off_newT T N List.mem_cons_self gN hx) (off_newT T N (List.mem_cons_of_mem _ List.mem_cons_self) gN hx2) hd⟩
  rcases List.mem_cons.mp hq with rfl | hq
  · exact .inl List.mem_cons_self
  · rcases List.mem_cons.mp hq with rfl | hq
    · exact .inl (List.mem_cons_of_mem _ List.mem_cons_self)
    · rcases put_cond N0 U hr q hq with q1 | q1
      · rcases List.mem_cons.mp q1 with rfl | q1
        · exact .inl (List.mem_cons_of_mem _ (List.mem_cons_of_mem _ h1))
        · rcases List.mem_cons.mp q1 with rfl | q1
          · exact .inl (List.mem_cons_of_mem _ (List.mem_cons_of_mem _ h2))
          · nomatch q1
      · exact .inr q1
theorem mask_bitsI {v m n : Int} (h0 : 0 ≤ m) (h1 : m < 2 ^ 64) (hn : n ≤ 1000) : (Builtin.Int.intBits (Builtin.bitAnd v m) : Int) + n ≤ 2 ^ 27 := by
  have h := bitAnd_range v h0
  have : Builtin.Int.intBits (Builtin.bitAnd v m) ≤ 64 := intBits_le_iff.mpr (by omega)
  omega
theorem wordsT51 : True := by
  k_with "binaryOp LShift int int" => (fail "w27")
  k_with "w27" => (k_here; refine lshift_int (by decide) (mask_bitsI (by decide) (by decide) (by decide)) ?_; (try dsimp only))
  trivial
/-- the numbers of a reader's clocks -/
abbrev halfW (W : Int) : Int := Builtin.bitOr (Builtin.bitAnd (W.fdiv (2 ^ Int.toNat 0)) (1 * 2 ^ Int.toNat 6 - 1)) (Builtin.bitAnd (W.fdiv (2 ^ (0 + 6 + 8 + 8 : Int).toNat)) (1 * 2 ^ Int.toNat 1 - 1) * 2 ^ Int.toNat 6)
abbrev fullW (W : Int) : Int := Builtin.bitOr (Builtin.bitAnd (W.fdiv (2 ^ (0 + 6 : Int).toNat)) (1 * 2 ^ Int.toNat 8 - 1)) (Builtin.bitAnd (W.fdiv (2 ^ (0 + 6 + 8 : Int).toNat)) (1 * 2 ^ Int.toNat 8 - 1) * 2 ^ Int.toNat 8)
theorem and_low (W : Int) (P k : Nat) : Builtin.bitAnd (W.fdiv (2 ^ P)) (2 ^ k - 1) = W / 2 ^ P % 2 ^ k := by
  rw [kbt_mask, Int.fdiv_eq_ediv_of_nonneg _ (Int.le_of_lt (Int.pow_pos (by decide)))]
theorem low_range (W : Int) (k : Nat) : 0 ≤ W % 2 ^ k ∧ W % 2 ^ k < 2 ^ k := ⟨Int.emod_nonneg _ (Int.ne_of_gt (Int.pow_pos (by decide))), Int.emod_lt_of_pos _ (Int.pow_pos (by decide))⟩
theorem fullW_eq (W : Int) : fullW W = W / 64 % 65536 := by
  have e : fullW W = W / 2 ^ 6 % 2 ^ 8 + W / 2 ^ 14 % 2 ^ 8 * 2 ^ 8 := by
    have h := low_range (W / 2 ^ 6) 8
    have h2 := low_range (W / 2 ^ 14) 8
    rw [← or_shift h.1 h.2 h2.1, ← and_low, ← and_low]
    rfl
  rw [e]
  omega
theorem halfW_eq (W : Int) : halfW W = W % 64 + W / 4194304 % 2 * 64 := by
  have e : halfW W = W / 2 ^ 0 % 2 ^ 6 + W / 2 ^ 22 % 2 ^ 1 * 2 ^ 6 := by
    have h := low_range (W / 2 ^ 0) 6
    have h2 := low_range (W / 2 ^ 22) 1
    rw [← or_shift h.1 h.2 h2.1, ← and_low, ← and_low]
    rfl
  rw [e]
  omega
theorem wordsT52 : True := by
  k_with "kxw_text" => (fail "w28")
  k_with "w28" => exact ⟨by k_asm, by k_asm, by k_asm, by k_asm, by k_asm, by first | exact rfl | assumption⟩
  k_with "call ref" => (fail "w29")
  k_with "w29" => (k_here; (with_reducible show wpAny _ _ (call (Value.ref 128) _) _ _ _); k_dflt (refine take_specI (by kxw_text) (by k_mem) (by k_updF) (by k_ne) (by assumption) (by decide) (by decide) (by decide) (by decide) (by ktr_room) (by ktr_units) ?_); intro q2' t3' h' tk' F' N'; (try dsimp only at N'); (try k_sweep); (try dsimp only); (try k_fold))
  trivial
theorem clocks_taken {prog p : Program} {w : World} {loose : List Str} {mean : ExcName → Option Value} {mg mb : Str → Option Value} {dp un : Nat} {gd : Option (List Code)} {cn : Str} {cs : Scope} {a : Addr} {ccd : Value} {outer : List Env} {A₀ : Around} {base h₀ : Heap} {L : Addr} {m : Str → Option Value} {s : Shared} {Q E : Value → Shared → Prop}
    {news : List (Addr × Obj)}
    {r dr : Addr} {ea eb ec : Int} {k1 k2 k3 t1 t2 t3 tw : Tok} {W : Int} {gU : Obj → List (Addr × Obj)}
    (S : SiteS w p loose mean mg mb cs outer A₀ base h₀ L m news s.heap)
    (hr : (r, instObj 138 dr) ∈ news) (U : UpdF dr (dictOf [⟨ea, .str (Str.ofString "word") k1, .int W t1⟩, ⟨eb, .str (Str.ofString "count") k2, .int 24 t2⟩, ⟨ec, .str (Str.ofString "at") k3, .int 0 t3⟩] 3) news gU)
    (hne : r ≠ dr) (hW : 0 ≤ W) (hf : fullW W ≠ 0)
    (hdp : dp + 20 ≤ 500) (hun : un + 200 ≤ 4000)
    (h : ∀ (l' l2 : Addr) (q1 q2 q3 t3 : Tok) (h' : Heap) (tk' : Nat), LCg.Off1 l' news → LCg.Off1 l2 news → (@Ne Nat l' l2) →
      BackT w p loose mean mg mb outer A₀ base h₀ L m ((l', { cls := .type "tuple", data := .seq #[.str (Str.ofString "taken") q1, .ref l2] }) :: (l2, { cls := .type "tuple", data := .seq #[.int (halfW W) q2, .int (fullW W) q3] }) :: gU (dictOf [⟨ea, .str (Str.ofString "word") k1, .int W t1⟩, ⟨eb, .str (Str.ofString "count") k2, .int 24 t2⟩, ⟨ec, .str (Str.ofString "at") k3, .int 23 t3⟩] 3)) h' (Q (.ref l') { s with heap := h', toks := tk' })) :
    wpAny (model prog w) (ktrTop dp un gd cn cs L a ccd [] outer) (call (.ref 298) [.ref 319, .ref r, .int 0 tw]) Q E s := by
  have hsub : ∀ q ∈ [(r, instObj 138 dr), (dr, dictOf [⟨ea, .str (Str.ofString "word") k1, .int W t1⟩, ⟨eb, .str (Str.ofString "count") k2, .int 24 t2⟩, ⟨ec, .str (Str.ofString "at") k3, .int 0 t3⟩] 3)], q ∈ news := by
    intro q hq
    rcases List.mem_cons.mp hq with rfl | hq
    · exact hr
    · rcases List.mem_cons.mp hq with rfl | hq
      · exact updF_was U
      · nomatch hq
  have XB := S.XB
  have TB := S.TB
  have hne := neN hne
  k_dflt kts_go
  k_steps
  all_goals try contradiction
  with_reducible rename (∀ q ∈ news, _) => g9
  with_reducible rename News _ _ _ _ => n9
  exact finTU2 S.N U hr g9 n9 KtsTurn.refl (by assumption) (List.mem_cons_self) (List.mem_cons_of_mem _ List.mem_cons_self) (fun x hx => by
      rcases List.mem_cons.mp hx with rfl | hx
      · k_ne
      · rcases List.mem_cons.mp hx with rfl | hx
        · k_ne
        · nomatch hx) (fun x hx => by
      rcases List.mem_cons.mp hx with rfl | hx
      · k_ne
      · rcases List.mem_cons.mp hx with rfl | hx
        · k_ne
        · nomatch hx) (by k_ne) (fun o9 o10 n10 => h _ _ _ _ _ _ _ _ o9 o10 n10)
theorem clocks_refused {prog p : Program} {w : World} {loose : List Str} {mean : ExcName → Option Value} {mg mb : Str → Option Value} {dp un : Nat} {gd : Option (List Code)} {cn : Str} {cs : Scope} {a : Addr} {ccd : Value} {outer : List Env} {A₀ : Around} {base h₀ : Heap} {L : Addr} {m : Str → Option Value} {s : Shared} {Q E : Value → Shared → Prop}
    {news : List (Addr × Obj)}
    {r dr : Addr} {ea eb ec : Int} {k1 k2 k3 t1 t2 t3 tw : Tok} {W : Int} {gU : Obj → List (Addr × Obj)}
    (S : SiteS w p loose mean mg mb cs outer A₀ base h₀ L m news s.heap)
    (hr : (r, instObj 138 dr) ∈ news) (U : UpdF dr (dictOf [⟨ea, .str (Str.ofString "word") k1, .int W t1⟩, ⟨eb, .str (Str.ofString "count") k2, .int 24 t2⟩, ⟨ec, .str (Str.ofString "at") k3, .int 0 t3⟩] 3) news gU)
    (hne : r ≠ dr) (hW : 0 ≤ W) (hf : fullW W = 0)
    (hdp : dp + 20 ≤ 500) (hun : un + 200 ≤ 4000)
    (h : ∀ (l' : Addr) (q1 q2 q3 t3 : Tok) (h' : Heap) (tk' : Nat), LCg.Off1 l' news →
      BackT w p loose mean mg mb outer A₀ base h₀ L m ((l', { cls := .type "tuple", data := .seq #[.str (Str.ofString "refused") q1, .int (-1) q2, .str (Str.ofString "the move number is nought") q3] }) :: gU (dictOf [⟨ea, .str (Str.ofString "word") k1, .int W t1⟩, ⟨eb, .str (Str.ofString "count") k2, .int 24 t2⟩, ⟨ec, .str (Str.ofString "at") k3, .int 23 t3⟩] 3)) h' (Q (.ref l') { s with heap := h', toks := tk' })) :
    wpAny (model prog w) (ktrTop dp un gd cn cs L a ccd [] outer) (call (.ref 298) [.ref 319, .ref r, .int 0 tw]) Q E s := by
  have hsub : ∀ q ∈ [(r, instObj 138 dr), (dr, dictOf [⟨ea, .str (Str.ofString "word") k1, .int W t1⟩, ⟨eb, .str (Str.ofString "count") k2, .int 24 t2⟩, ⟨ec, .str (Str.ofString "at") k3, .int 0 t3⟩] 3)], q ∈ news := by
    intro q hq
    rcases List.mem_cons.mp hq with rfl | hq
    · exact hr
    · rcases List.mem_cons.mp hq with rfl | hq
      · exact updF_was U
      · nomatch hq
  have XB := S.XB
  have TB := S.TB
  have hne := neN hne
  k_dflt kts_go
  k_steps
  all_goals try contradiction
  with_reducible rename (∀ q ∈ news, _) => g9
  with_reducible rename News _ _ _ _ => n9
  exact finTU S.N U hr g9 n9 (by assumption) (by assumption) (List.mem_cons_of_mem _ (List.mem_cons_of_mem _ List.mem_cons_self)) (List.mem_cons_of_mem _ (List.mem_cons_of_mem _ (List.mem_cons_of_mem _ List.mem_cons_self))) (fun x hx => by
      rcases List.mem_cons.mp hx with rfl | hx
      · k_ne
      · rcases List.mem_cons.mp hx with rfl | hx
        · k_ne
        · nomatch hx) (fun o9 => h _ _ _ _ _ _ _ o9)
end Mine
end

section
namespace Mine
open PySem.W.X
theorem wordsT60 : True := by
  k_with_none
  w_top off
  k_with "a9" => (with_reducible assumption)
  k_with "c9" => (repeat (with_reducible rename _ ∧ _ => hA9; clear hA9)); (repeat (with_reducible rename _ ≠ _ => hA9; clear hA9))
  k_with "u9" => ((with_reducible rename News _ _ _ _ => N9); dsimp +zetaDelta only at N9)
  k_with "p0" => (refine offAt (by fail "a9") 0 ?_; exact rfl)
  k_with "p1" => (refine offAt (by fail "a9") 1 ?_; exact rfl)
  k_with "p2" => (refine offAt (by fail "a9") 2 ?_; exact rfl)
  k_with "p3" => (refine offAt (by fail "a9") 3 ?_; exact rfl)
  k_with "p4" => (refine offAt (by fail "a9") 4 ?_; exact rfl)
  k_with "p5" => (refine offAt (by fail "a9") 5 ?_; exact rfl)
  k_with "p6" => (refine offAt (by fail "a9") 6 ?_; exact rfl)
  k_with "p7" => (refine offAt (by fail "a9") 7 ?_; exact rfl)
  k_with "p8" => (refine offAt (by fail "a9") 8 ?_; exact rfl)
  k_with "p9" => (refine offAt (by fail "a9") 9 ?_; exact rfl)
  k_with "p10" => (refine offAt (by fail "a9") 10 ?_; exact rfl)
  k_with "p11" => (refine offAt (by fail "a9") 11 ?_; exact rfl)
  k_with "p12" => (refine offAt (by fail "a9") 12 ?_; exact rfl)
  k_with "p13" => (refine offAt (by fail "a9") 13 ?_; exact rfl)
  k_with "p14" => (refine ltAt (by fail "a9") 0 ?_; exact rfl)
  k_with "p15" => (refine ltAt (by fail "a9") 1 ?_; exact rfl)
  k_with "p16" => (refine ltAt (by fail "a9") 2 ?_; exact rfl)
  k_with "p17" => (refine ltAt (by fail "a9") 3 ?_; exact rfl)
  k_with "p18" => (refine ltAt (by fail "a9") 4 ?_; exact rfl)
  k_with "p19" => (refine ltAt (by fail "a9") 5 ?_; exact rfl)
  k_with "p20" => (refine ltAt (by fail "a9") 6 ?_; exact rfl)
  k_with "p21" => (refine ltAt (by fail "a9") 7 ?_; exact rfl)
  k_with "p22" => (refine ltAt (by fail "a9") 8 ?_; exact rfl)
  k_with "p23" => (refine ltAt (by fail "a9") 9 ?_; exact rfl)
  k_with "p24" => (refine ltAt (by fail "a9") 10 ?_; exact rfl)
  k_with "p25" => (refine ltAt (by fail "a9") 11 ?_; exact rfl)
  k_with "p26" => (refine ltAt (by fail "a9") 12 ?_; exact rfl)
  k_with "p27" => (refine ltAt (by fail "a9") 13 ?_; exact rfl)
  k_with "r9" => (fail "w1")
  k_with "w1" => (first | fail "a9" | exact Nat.le_of_lt (by fail "a9"))
  k_with "offs9" => (first | fail "p0" | fail "p1" | fail "p2" | fail "p3" | fail "p4" | fail "p5" | fail "p6" | fail "p7" | fail "p8" | fail "p9" | fail "p10" | fail "p11" | fail "p12" | fail "p13" | fail "p14" | fail "p15" | fail "p16" | fail "p17" | fail "p18" | fail "p19" | fail "p20" | fail "p21" | fail "p22" | fail "p23" | fail "p24" | fail "p25" | fail "p26" | fail "p27")
  k_with "mem9" => (fail "w2")
  k_with "w2" => (first | exact List.Mem.head _ | exact List.Mem.tail _ (List.Mem.head _) | (refine memAt 0 ?_; exact rfl) | (refine memAt 1 ?_; exact rfl) | (refine memAt 2 ?_; exact rfl) | (refine memAt 3 ?_; exact rfl) | (refine memAt 4 ?_; exact rfl) | (refine memAt 5 ?_; exact rfl) | (refine memAt 6 ?_; exact rfl) | (refine memAt 7 ?_; exact rfl) | (refine memAt 8 ?_; exact rfl) | (refine memAt 9 ?_; exact rfl) | (refine memAt 10 ?_; exact rfl) | (refine memAt 11 ?_; exact rfl) | (refine memAt 12 ?_; exact rfl) | (refine memAt 13 ?_; exact rfl) | (refine memAt 14 ?_; exact rfl) | (refine memAt 15 ?_; exact rfl) | (refine memAt 16 ?_; exact rfl) | (refine memAt 17 ?_; exact rfl))
  k_with "lts9" => (fail "w3")
  k_with "w3" => (first | (refine ltB (by fail "a9") 0 ?_; exact rfl) | (refine ltB (by fail "a9") 1 ?_; exact rfl) | (refine ltB (by fail "a9") 2 ?_; exact rfl) | (refine ltB (by fail "a9") 3 ?_; exact rfl) | (refine ltB (by fail "a9") 4 ?_; exact rfl) | (refine ltB (by fail "a9") 5 ?_; exact rfl) | (refine ltB (by fail "a9") 6 ?_; exact rfl) | (refine ltB (by fail "a9") 7 ?_; exact rfl) | (refine ltB (by fail "a9") 8 ?_; exact rfl) | (refine ltB (by fail "a9") 9 ?_; exact rfl) | (refine ltB (by fail "a9") 10 ?_; exact rfl) | (refine ltB (by fail "a9") 11 ?_; exact rfl) | (refine ltB (by fail "a9") 12 ?_; exact rfl) | (refine ltB (by fail "a9") 13 ?_; exact rfl))
  k_with "rooms9" => (fail "w4")
  k_with "w4" => (first | (refine rl2 (by fail "r9") ?_; exact rfl) | (refine rl1 (by fail "r9") ?_; exact rfl) | (refine rl3 (by fail "r9") ?_; exact rfl) | (refine rl0 (by fail "r9") ?_; exact rfl) | (refine rl4 (by fail "r9") ?_; exact rfl) | (refine rm2 (by fail "r9") ?_; exact rfl) | (refine rm1 (by fail "r9") ?_; exact rfl) | (refine rm3 (by fail "r9") ?_; exact rfl) | (refine rm0 (by fail "r9") ?_; exact rfl) | (refine rm4 (by fail "r9") ?_; exact rfl))
  k_with "k_ne" => (fail "w5")
  k_with "w5" => (refine neN ?_; (try dsimp only); first | fail "a9" | (refine Ne.symm ?_; fail "a9") | exact Nat.ne_of_lt (by fail "a9") | exact Nat.ne_of_gt (by fail "a9") | k_extra "offs9" | (refine Ne.symm ?_; first | k_extra "offs9") | ((try simp only [LCg.Off1, and_true] at *); omega))
  k_with "k_mem" => (fail "w6")
  k_with "w6" => (first | fail "a9" | k_extra "mem9")
  k_with "k_memK" => (first | k_extra "mem9")
  k_with "is_list" => (fail "w7")
  k_with "w7" => (exact News.isList (by fail "a9") (by k_mem))
  k_with "ktr_room" => (fail "w8")
  k_with "w8" => ((try dsimp only [depth_under_make, depth_under_kw, depth_in1, depth_deeper, depth_caller]); (try dsimp only [ktrTop]); first | decide | k_extra "rooms9")
  k_with "units_room" => (fail "w9")
  k_with "w9" => ((try dsimp only [units_in1, units_deeper, Around.mark_units, units_caller]); (try dsimp only [ktrTop]); first | decide | k_extra "rooms9")
  k_with "l_idx" => ((k_extra "c9"); omega)
  k_with "l_fit" => ((k_extra "c9"); omega)
  k_with "ktr_units" => (fail "w10")
  k_with "w10" => ((try dsimp only [units_in1, units_deeper, Around.mark_units, units_caller]); (try dsimp only [ktrTop]); first | decide | k_extra "rooms9")
  k_with "execs cons" => (fail "w11")
  k_with "w11" => (k_here; first | k_gentoks | ((try dsimp only); (try k_gentoks); (try (with_reducible refine letA ?_; intro A9)); (try ((with_reducible rename Fr _ _ _ _ => F9); refine letF F9 ?_; clear F9; intro m9 F9)); (first | (with_reducible refine execHidB fun q9 hq9 => ?_) | (refine hideQ fun q9 hq9 => ?_; with_reducible refine execHidB fun q9 hq9 => ?_))))
  k_with "Hid" => (fail "w12")
  k_with "w12" => (first | ((with_reducible refine unhidNextT (by fail "a9") ?_); intro tk9; (try dsimp only)) | ((with_reducible refine unhidNext (by fail "a9") ?_); (try dsimp only)) | ((with_reducible refine unhidRet (by fail "a9") ?_); (try dsimp only)) | ((with_reducible refine unhid (by fail "a9") ?_); (try dsimp only [Behind])))
  k_with "spliced" => (fail "w13")
  k_with "w13" => (k_here; (with_reducible show wpAny _ _ (spliced (backTo _ (starEach (_ :: _ :: _ :: _) _))) _ _ _); k_dflt (refine' args_cons ?_ ?_; rotate_left; rfl))
  k_with "spliced" => (fail "w14")
  k_with "w14" => (k_here; k_dflt ((refine' argsF ?_ ?_ ?_ ?_); (rotate_left 4); k_asm; rfl; rfl); (try dsimp only [List.nil_append, List.cons_append]))
  k_with "eval Call" => (fail "w15")
  k_with "w15" => (k_here; (with_reducible show wpAny _ _ (eval (PySem.Expr.Call (PySem.Expr.Name _ _) (_ :: _) [] _) _) _ _ _); first | (k_dflt ((refine' callF ?_ ?_ ?_ ?_ ?_ ?_ ?_ ?_ ?_ ?_ ?_); (rotate_left 10); k_asm; k_asm; k_asm; k_is; k_is; rfl; rfl; rfl; rotate_left; decide; rfl)) | k_compRoot | k_dflt (refine' Call_ ?_))
  k_with "eval Name" => (fail "w16")
  k_with "w16" => (k_here; (with_reducible show wpAny _ _ (eval (PySem.Expr.Name _ _) (envOf _ _ _ _ _)) _ _ _); first | k_dflt ((refine' nameX_K ?_ ?_ ?_ ?_ ?_ ?_ ?_ ?_); (rotate_left 8); k_asm; k_asm; k_asm; k_is; rotate_left; rfl; rfl; decide) | k_dflt ((refine' nameX_L ?_ ?_ ?_ ?_ ?_ ?_); (rotate_left 3); k_asm; rfl; rotate_left; rfl; rfl; decide))
  k_with "callWith ref" => (fail "w17")
  k_with "w17" => (k_here; (with_reducible show wpAny _ _ (callWith _ _ _ (backTo _ (starEach [] _)) []) _ _ _); k_dflt (refine callF0 (by fail "a9") (by fail "a9") (by k_is) ?_))
  k_with "k_lt" => skip
  k_with "ktr_enter" => (fail "w18")
  k_with "w18" => first | (refine enterK (by assumption) (by assumption) (by k_is) (by k_is) (by ktr_room) (by exact BindsTo.of_eq rfl) (by exact locs rfl) ?_ (by exact rfl) (by exact rfl) (by exact rfl) (by decide); k_whole; intro g' L' h' F' N' B' X' T' lN' gN' tk9'; (try k_lt lN'); (try dsimp only); (try k_fold)) | (refine enterC (by assumption) (by assumption) (by k_is) (by k_is) (by ktr_room) (by exact BindsTo.of_eq rfl) (by exact rfl) (by decide +kernel) ?_ (by exact rfl) (by exact rfl) (by exact rfl); k_whole; intro g' L' h' tk' cells' F' N' Y' B' X' T' lN' gN'; (try k_lt lN'); k_cells Y'; (try simp only [List.cons_append, List.nil_append] at N'); (try dsimp only); (try k_fold))
  k_with "kts_go" => (fail "w19")
  k_with "w19" => (refine enterS (by assumption) (by assumption) (by k_is) (by k_is) (by ktr_room) (by exact BindsTo.of_eq rfl) (by exact locs rfl) ?_ (by exact rfl) (by exact rfl) (by exact rfl) (by decide); k_whole; intro g' L' h' F' N' B' X' T' D' lN' gN' tk9'; (try k_lt lN'); (try dsimp only); (try k_fold))
  k_with "exec Raise some none" => (fail "w20")
  k_with "w20" => (k_here; k_dflt (refine Raise_bad (by rfl) ?_))
  k_with "BadE" => (fail "w21")
  k_with "w21" => (k_here; (rename BadIs _ _ _ _ _ _ _ => bI); refine ⟨_, _, _, rfl, by k_in, BadIs.he bI, ?_⟩)
  k_with "call ref" => (fail "w22")
  k_with "w22" => (k_here; (with_reducible show wpAny _ _ (call (Value.ref 51) _) _ _ _); k_dflt (refine bad_call ⟨by k_asm, by k_asm, by k_asm, by k_asm, by k_asm, by first | exact rfl | assumption⟩ (by ktr_room) (by ktr_units) ?_); intro h' e' d' t' tk' h1' h2' k1' k2' F' N' o1' bI'; (try dsimp only); (try k_fold))
  k_with "leaving ref" => (fail "w23")
  k_with "w23" => (k_here; first | ((with_reducible rename BadIs _ _ _ _ _ _ _ => bI9); (refine leave_badI (by assumption) (by assumption) (by assumption) bI9 ?_); k_whole; intro h' vs' S' U' d'; (try dsimp only at S' U' ⊢)) | ((with_reducible rename RaisedS _ _ _ _ _ _ _ _ _ => rS9); (refine leave_badOnI (by assumption) (by assumption) rS9 (by assumption) (by assumption) ?_); k_whole; intro h' S' U' d'; (try dsimp only at S' U' ⊢)))
  k_with "noteFrame ref" => (fail "w24")
  k_with "w24" => (k_here; k_dflt (refine caught_bad (by assumption) (by assumption) (by assumption) (by assumption) (by assumption) (by assumption) (by assumption) (by assumption) (by first | assumption | exact KtsTurn.refl) (by k_is) ?_; k_whole); intro h' g' ws' sl' tk' T' F' N' K' X' P' D' c'; (try k_sweep))
  k_with "getAttr ref" => (fail "w25")
  k_with "w25" => (k_here; (with_reducible show wpAny _ _ (getAttr (Value.ref _) (Str.ofString "square") _) _ _ _); k_dflt (refine fault_square (by k_asm) (by k_asm) (by k_asm) (by k_mem) (by k_mem) ?_); (try dsimp only))
  k_with "getAttr ref" => (fail "w26")
  k_with "w26" => (k_here; (with_reducible show wpAny _ _ (getAttr (Value.ref _) (Str.ofString "text") _) _ _ _); k_dflt (refine fault_text (by k_asm) (by k_asm) (by k_asm) (by k_mem) (by k_mem) ?_); (try dsimp only))
  trivial
abbrev bit0W (W : Int) : Int := Builtin.bitAnd (W.fdiv (2 ^ Int.toNat 0)) (1 * 2 ^ Int.toNat 1 - 1)
abbrev kindW (W : Int) : Int := Builtin.bitAnd (W.fdiv (2 ^ (0 + 1 : Int).toNat)) (1 * 2 ^ Int.toNat 3 - 1) + 1
abbrev sideW (W : Int) : Int := Builtin.bitAnd (W.fdiv (2 ^ (0 + 1 + 3 : Int).toNat)) (1 * 2 ^ Int.toNat 1 - 1)
theorem bit0W_eq (W : Int) : bit0W W = W % 2 := by
  have e : bit0W W = W / 2 ^ 0 % 2 ^ 1 := and_low W 0 1
  rw [e]
  omega
theorem kindW_eq (W : Int) : kindW W = W / 2 % 8 + 1 := by
  have e : kindW W = W / 2 ^ 1 % 2 ^ 3 + 1 := congrArg (· + 1) (and_low W 1 3)
  rw [e]
  omega
theorem sideW_eq (W : Int) : sideW W = W / 16 % 2 := by
  have e : sideW W = W / 2 ^ 4 % 2 ^ 1 := and_low W 4 1
  rw [e]
  omega
theorem wordsT61 : True := by
  k_with "kxw_text" => (fail "w27")
  k_with "w27" => exact ⟨by k_asm, by k_asm, by k_asm, by k_asm, by k_asm, by first | exact rfl | assumption⟩
  k_with "call ref" => (fail "w28")
  k_with "w28" => (k_here; (with_reducible show wpAny _ _ (call (Value.ref 128) _) _ _ _); k_dflt (refine take_specI (by kxw_text) (by k_mem) (by k_updF) (by k_ne) (by assumption) (by decide) (by decide) (by decide) (by decide) (by ktr_room) (by ktr_units) ?_); intro q2' t3' h' tk' F' N'; (try dsimp only at N'); (try k_sweep); (try dsimp only); (try k_fold))
  trivial
theorem cell_spec {prog p : Program} {w : World} {loose : List Str} {mean : ExcName → Option Value} {mg mb : Str → Option Value} {dp un : Nat} {gd : Option (List Code)} {cn : Str} {cs : Scope} {a : Addr} {ccd : Value} {outer : List Env} {A₀ : Around} {base h₀ : Heap} {L : Addr} {m : Str → Option Value} {s : Shared} {Q E : Value → Shared → Prop}
    {news : List (Addr × Obj)}
    {r dr : Addr} {ea eb ec : Int} {k1 k2 k3 t1 t2 t3 tw : Tok} {W sq : Int} {gU : Obj → List (Addr × Obj)}
    (S : SiteS w p loose mean mg mb cs outer A₀ base h₀ L m news s.heap)
    (hr : (r, instObj 138 dr) ∈ news) (U : UpdF dr (dictOf [⟨ea, .str (Str.ofString "word") k1, .int W t1⟩, ⟨eb, .str (Str.ofString "count") k2, .int 8 t2⟩, ⟨ec, .str (Str.ofString "at") k3, .int 0 t3⟩] 3) news gU)
    (hne : r ≠ dr) (hW : 0 ≤ W) 
    (hdp : dp + 20 ≤ 500) (hun : un + 200 ≤ 4000)
    (hA : bit0W W = 0 → ∀ (l' : Addr) (q1 q2 t3 : Tok) (h' : Heap) (tk' : Nat), LCg.Off1 l' news →
      BackT w p loose mean mg mb outer A₀ base h₀ L m ((l', { cls := .type "tuple", data := .seq #[.str (Str.ofString "taken") q1, .int 0 q2] }) :: gU (dictOf [⟨ea, .str (Str.ofString "word") k1, .int W t1⟩, ⟨eb, .str (Str.ofString "count") k2, .int 8 t2⟩, ⟨ec, .str (Str.ofString "at") k3, .int 1 t3⟩] 3)) h' (Q (.ref l') { s with heap := h', toks := tk' }))
    (hB : bit0W W ≠ 0 → 5 < kindW W → ∀ (l' : Addr) (q1 q2 q3 t3 : Tok) (h' : Heap) (tk' : Nat), LCg.Off1 l' news →
      BackT w p loose mean mg mb outer A₀ base h₀ L m ((l', { cls := .type "tuple", data := .seq #[.str (Str.ofString "refused") q1, .int sq q2, .str (Str.ofString "no such kind of piece") q3] }) :: gU (dictOf [⟨ea, .str (Str.ofString "word") k1, .int W t1⟩, ⟨eb, .str (Str.ofString "count") k2, .int 8 t2⟩, ⟨ec, .str (Str.ofString "at") k3, .int 4 t3⟩] 3)) h' (Q (.ref l') { s with heap := h', toks := tk' }))
    (hC : bit0W W ≠ 0 → ¬ 5 < kindW W → ∀ (l' : Addr) (q1 q2 t3 : Tok) (h' : Heap) (tk' : Nat), LCg.Off1 l' news →
      BackT w p loose mean mg mb outer A₀ base h₀ L m ((l', { cls := .type "tuple", data := .seq #[.str (Str.ofString "taken") q1, .int (sideW W * 8 + kindW W) q2] }) :: gU (dictOf [⟨ea, .str (Str.ofString "word") k1, .int W t1⟩, ⟨eb, .str (Str.ofString "count") k2, .int 8 t2⟩, ⟨ec, .str (Str.ofString "at") k3, .int 5 t3⟩] 3)) h' (Q (.ref l') { s with heap := h', toks := tk' })) :
    wpAny (model prog w) (ktrTop dp un gd cn cs L a ccd [] outer) (call (.ref 298) [.ref 163, .ref r, .int sq tw]) Q E s := by
  have hsub : ∀ q ∈ [(r, instObj 138 dr), (dr, dictOf [⟨ea, .str (Str.ofString "word") k1, .int W t1⟩, ⟨eb, .str (Str.ofString "count") k2, .int 8 t2⟩, ⟨ec, .str (Str.ofString "at") k3, .int 0 t3⟩] 3)], q ∈ news := by
    intro q hq
    rcases List.mem_cons.mp hq with rfl | hq
    · exact hr
    · rcases List.mem_cons.mp hq with rfl | hq
      · exact updF_was U
      · nomatch hq
  have XB := S.XB
  have TB := S.TB
  have hne := neN hne
  k_dflt kts_go
  k_steps
  · with_reducible rename (∀ q ∈ news, _) => g9
    with_reducible rename News _ _ _ _ => n9
    exact finTU S.N U hr g9 n9 KtsTurn.refl (by assumption) (List.mem_cons_self) (List.mem_cons_of_mem _ List.mem_cons_self) (fun x hx => by
        rcases List.mem_cons.mp hx with rfl | hx
        · k_ne
        · rcases List.mem_cons.mp hx with rfl | hx
          · k_ne
          · nomatch hx) (fun o9 => hA (by assumption) _ _ _ _ _ _ o9)
  · with_reducible rename (∀ q ∈ news, _) => g9
    with_reducible rename News _ _ _ _ => n9
    exact finTU S.N U hr g9 n9 (by assumption) (by assumption) (List.mem_cons_of_mem _ (List.mem_cons_of_mem _ List.mem_cons_self)) (List.mem_cons_of_mem _ (List.mem_cons_of_mem _ (List.mem_cons_of_mem _ List.mem_cons_self))) (fun x hx => by
        rcases List.mem_cons.mp hx with rfl | hx
        · k_ne
        · rcases List.mem_cons.mp hx with rfl | hx
          · k_ne
          · nomatch hx) (fun o9 => hB (by assumption) (by assumption) _ _ _ _ _ _ _ o9)
  · with_reducible rename (∀ q ∈ news, _) => g9
    with_reducible rename News _ _ _ _ => n9
    exact finTU S.N U hr g9 n9 KtsTurn.refl (by assumption) (List.mem_cons_self) (List.mem_cons_of_mem _ List.mem_cons_self) (fun x hx => by
        rcases List.mem_cons.mp hx with rfl | hx
        · k_ne
        · rcases List.mem_cons.mp hx with rfl | hx
          · k_ne
          · nomatch hx) (fun o9 => hC (by assumption) (by assumption) _ _ _ _ _ _ o9)
theorem cell_spec2 {prog p : Program} {w : World} {loose : List Str} {mean : ExcName → Option Value} {mg mb : Str → Option Value} {dp un : Nat} {gd : Option (List Code)} {cn : Str} {cs : Scope} {a : Addr} {ccd : Value} {outer : List Env} {A₀ : Around} {base h₀ : Heap} {L : Addr} {m : Str → Option Value} {s : Shared} {Q E : Value → Shared → Prop}
    {news : List (Addr × Obj)}
    {r dr : Addr} {ea eb ec : Int} {k1 k2 k3 t1 t2 t3 tw : Tok} {W sq : Int} {gU : Obj → List (Addr × Obj)}
    (S : SiteS w p loose mean mg mb cs outer A₀ base h₀ L m news s.heap)
    (hr : (r, instObj 138 dr) ∈ news) (U : UpdF dr (dictOf [⟨ea, .str (Str.ofString "word") k1, .int W t1⟩, ⟨eb, .str (Str.ofString "count") k2, .int 8 t2⟩, ⟨ec, .str (Str.ofString "at") k3, .int 0 t3⟩] 3) news gU)
    (hne : r ≠ dr) (hW : 0 ≤ W) 
    (hdp : dp + 20 ≤ 500) (hun : un + 200 ≤ 4000)
    (hA : W % 2 = 0 → ∀ (l' : Addr) (q1 q2 t3 : Tok) (h' : Heap) (tk' : Nat), LCg.Off1 l' news →
      BackT w p loose mean mg mb outer A₀ base h₀ L m ((l', { cls := .type "tuple", data := .seq #[.str (Str.ofString "taken") q1, .int 0 q2] }) :: gU (dictOf [⟨ea, .str (Str.ofString "word") k1, .int W t1⟩, ⟨eb, .str (Str.ofString "count") k2, .int 8 t2⟩, ⟨ec, .str (Str.ofString "at") k3, .int 1 t3⟩] 3)) h' (Q (.ref l') { s with heap := h', toks := tk' }))
    (hB : W % 2 = 1 → 4 < W / 2 % 8 → ∀ (l' : Addr) (q1 q2 q3 t3 : Tok) (h' : Heap) (tk' : Nat), LCg.Off1 l' news →
      BackT w p loose mean mg mb outer A₀ base h₀ L m ((l', { cls := .type "tuple", data := .seq #[.str (Str.ofString "refused") q1, .int sq q2, .str (Str.ofString "no such kind of piece") q3] }) :: gU (dictOf [⟨ea, .str (Str.ofString "word") k1, .int W t1⟩, ⟨eb, .str (Str.ofString "count") k2, .int 8 t2⟩, ⟨ec, .str (Str.ofString "at") k3, .int 4 t3⟩] 3)) h' (Q (.ref l') { s with heap := h', toks := tk' }))
    (hC : W % 2 = 1 → W / 2 % 8 ≤ 4 → ∀ (l' : Addr) (q1 q2 t3 : Tok) (h' : Heap) (tk' : Nat), LCg.Off1 l' news →
      BackT w p loose mean mg mb outer A₀ base h₀ L m ((l', { cls := .type "tuple", data := .seq #[.str (Str.ofString "taken") q1, .int (W / 16 % 2 * 8 + (W / 2 % 8 + 1)) q2] }) :: gU (dictOf [⟨ea, .str (Str.ofString "word") k1, .int W t1⟩, ⟨eb, .str (Str.ofString "count") k2, .int 8 t2⟩, ⟨ec, .str (Str.ofString "at") k3, .int 5 t3⟩] 3)) h' (Q (.ref l') { s with heap := h', toks := tk' })) :
    wpAny (model prog w) (ktrTop dp un gd cn cs L a ccd [] outer) (call (.ref 298) [.ref 163, .ref r, .int sq tw]) Q E s := by
  refine cell_spec S hr U hne hW hdp hun (fun e => hA (by rw [bit0W_eq] at e; exact e)) (fun e e2 => hB (by rw [bit0W_eq] at e; omega) (by rw [kindW_eq] at e2; omega)) (fun e e2 => ?_)
  rw [sideW_eq, kindW_eq]
  exact hC (by rw [bit0W_eq] at e; omega) (by rw [kindW_eq] at e2; omega)
end Mine
end

section
namespace Mine
open PySem.W.X
theorem wordsT40 : True := by
  k_with_none
  w_top off
  k_with "a9" => (with_reducible assumption)
  k_with "c9" => (repeat (with_reducible rename _ ∧ _ => hA9; clear hA9)); (repeat (with_reducible rename _ ≠ _ => hA9; clear hA9))
  k_with "u9" => ((with_reducible rename News _ _ _ _ => N9); dsimp +zetaDelta only at N9)
  k_with "p0" => (refine offAt (by fail "a9") 0 ?_; exact rfl)
  k_with "p1" => (refine offAt (by fail "a9") 1 ?_; exact rfl)
  k_with "p2" => (refine offAt (by fail "a9") 2 ?_; exact rfl)
  k_with "p3" => (refine offAt (by fail "a9") 3 ?_; exact rfl)
  k_with "p4" => (refine offAt (by fail "a9") 4 ?_; exact rfl)
  k_with "p5" => (refine offAt (by fail "a9") 5 ?_; exact rfl)
  k_with "p6" => (refine offAt (by fail "a9") 6 ?_; exact rfl)
  k_with "p7" => (refine offAt (by fail "a9") 7 ?_; exact rfl)
  k_with "p8" => (refine offAt (by fail "a9") 8 ?_; exact rfl)
  k_with "p9" => (refine offAt (by fail "a9") 9 ?_; exact rfl)
  k_with "p10" => (refine offAt (by fail "a9") 10 ?_; exact rfl)
  k_with "p11" => (refine offAt (by fail "a9") 11 ?_; exact rfl)
  k_with "p12" => (refine offAt (by fail "a9") 12 ?_; exact rfl)
  k_with "p13" => (refine offAt (by fail "a9") 13 ?_; exact rfl)
  k_with "p14" => (refine ltAt (by fail "a9") 0 ?_; exact rfl)
  k_with "p15" => (refine ltAt (by fail "a9") 1 ?_; exact rfl)
  k_with "p16" => (refine ltAt (by fail "a9") 2 ?_; exact rfl)
  k_with "p17" => (refine ltAt (by fail "a9") 3 ?_; exact rfl)
  k_with "p18" => (refine ltAt (by fail "a9") 4 ?_; exact rfl)
  k_with "p19" => (refine ltAt (by fail "a9") 5 ?_; exact rfl)
  k_with "p20" => (refine ltAt (by fail "a9") 6 ?_; exact rfl)
  k_with "p21" => (refine ltAt (by fail "a9") 7 ?_; exact rfl)
  k_with "p22" => (refine ltAt (by fail "a9") 8 ?_; exact rfl)
  k_with "p23" => (refine ltAt (by fail "a9") 9 ?_; exact rfl)
  k_with "p24" => (refine ltAt (by fail "a9") 10 ?_; exact rfl)
  k_with "p25" => (refine ltAt (by fail "a9") 11 ?_; exact rfl)
  k_with "p26" => (refine ltAt (by fail "a9") 12 ?_; exact rfl)
  k_with "p27" => (refine ltAt (by fail "a9") 13 ?_; exact rfl)
  k_with "r9" => (fail "w1")
  k_with "w1" => (first | fail "a9" | exact Nat.le_of_lt (by fail "a9"))
  k_with "offs9" => (first | fail "p0" | fail "p1" | fail "p2" | fail "p3" | fail "p4" | fail "p5" | fail "p6" | fail "p7" | fail "p8" | fail "p9" | fail "p10" | fail "p11" | fail "p12" | fail "p13" | fail "p14" | fail "p15" | fail "p16" | fail "p17" | fail "p18" | fail "p19" | fail "p20" | fail "p21" | fail "p22" | fail "p23" | fail "p24" | fail "p25" | fail "p26" | fail "p27")
  k_with "mem9" => (fail "w2")
  k_with "w2" => (first | exact List.Mem.head _ | exact List.Mem.tail _ (List.Mem.head _) | (refine memAt 0 ?_; exact rfl) | (refine memAt 1 ?_; exact rfl) | (refine memAt 2 ?_; exact rfl) | (refine memAt 3 ?_; exact rfl) | (refine memAt 4 ?_; exact rfl) | (refine memAt 5 ?_; exact rfl) | (refine memAt 6 ?_; exact rfl) | (refine memAt 7 ?_; exact rfl) | (refine memAt 8 ?_; exact rfl) | (refine memAt 9 ?_; exact rfl) | (refine memAt 10 ?_; exact rfl) | (refine memAt 11 ?_; exact rfl) | (refine memAt 12 ?_; exact rfl) | (refine memAt 13 ?_; exact rfl) | (refine memAt 14 ?_; exact rfl) | (refine memAt 15 ?_; exact rfl) | (refine memAt 16 ?_; exact rfl) | (refine memAt 17 ?_; exact rfl))
  k_with "lts9" => (fail "w3")
  k_with "w3" => (first | (refine ltB (by fail "a9") 0 ?_; exact rfl) | (refine ltB (by fail "a9") 1 ?_; exact rfl) | (refine ltB (by fail "a9") 2 ?_; exact rfl) | (refine ltB (by fail "a9") 3 ?_; exact rfl) | (refine ltB (by fail "a9") 4 ?_; exact rfl) | (refine ltB (by fail "a9") 5 ?_; exact rfl) | (refine ltB (by fail "a9") 6 ?_; exact rfl) | (refine ltB (by fail "a9") 7 ?_; exact rfl) | (refine ltB (by fail "a9") 8 ?_; exact rfl) | (refine ltB (by fail "a9") 9 ?_; exact rfl) | (refine ltB (by fail "a9") 10 ?_; exact rfl) | (refine ltB (by fail "a9") 11 ?_; exact rfl) | (refine ltB (by fail "a9") 12 ?_; exact rfl) | (refine ltB (by fail "a9") 13 ?_; exact rfl))
  k_with "rooms9" => (fail "w4")
  k_with "w4" => (first | (refine rl2 (by fail "r9") ?_; exact rfl) | (refine rl1 (by fail "r9") ?_; exact rfl) | (refine rl3 (by fail "r9") ?_; exact rfl) | (refine rl0 (by fail "r9") ?_; exact rfl) | (refine rl4 (by fail "r9") ?_; exact rfl) | (refine rm2 (by fail "r9") ?_; exact rfl) | (refine rm1 (by fail "r9") ?_; exact rfl) | (refine rm3 (by fail "r9") ?_; exact rfl) | (refine rm0 (by fail "r9") ?_; exact rfl) | (refine rm4 (by fail "r9") ?_; exact rfl))
  k_with "k_ne" => (fail "w5")
  k_with "w5" => (refine neN ?_; (try dsimp only); first | fail "a9" | (refine Ne.symm ?_; fail "a9") | exact Nat.ne_of_lt (by fail "a9") | exact Nat.ne_of_gt (by fail "a9") | k_extra "offs9" | (refine Ne.symm ?_; first | k_extra "offs9") | ((try simp only [LCg.Off1, and_true] at *); omega))
  k_with "k_mem" => (fail "w6")
  k_with "w6" => (first | fail "a9" | k_extra "mem9")
  k_with "k_memK" => (first | k_extra "mem9")
  k_with "is_list" => (fail "w7")
  k_with "w7" => (exact News.isList (by fail "a9") (by k_mem))
  k_with "ktr_room" => (fail "w8")
  k_with "w8" => ((try dsimp only [depth_under_make, depth_under_kw, depth_in1, depth_deeper, depth_caller]); (try dsimp only [ktrTop]); first | decide | k_extra "rooms9")
  k_with "units_room" => (fail "w9")
  k_with "w9" => ((try dsimp only [units_in1, units_deeper, Around.mark_units, units_caller]); (try dsimp only [ktrTop]); first | decide | k_extra "rooms9")
  k_with "l_idx" => ((k_extra "c9"); omega)
  k_with "l_fit" => ((k_extra "c9"); omega)
  k_with "ktr_units" => (fail "w10")
  k_with "w10" => ((try dsimp only [units_in1, units_deeper, Around.mark_units, units_caller]); (try dsimp only [ktrTop]); first | decide | k_extra "rooms9")
  k_with "execs cons" => (fail "w11")
  k_with "w11" => (k_here; first | k_gentoks | ((try dsimp only); (try k_gentoks); (try (with_reducible refine letA ?_; intro A9)); (try ((with_reducible rename Fr _ _ _ _ => F9); refine letF F9 ?_; clear F9; intro m9 F9)); (try ((with_reducible rename News _ _ _ _ => N9); refine letN N9 ?_; clear N9; intro n9 N9)); (first | (with_reducible refine execHidB fun q9 hq9 => ?_) | (refine hideQ fun q9 hq9 => ?_; with_reducible refine execHidB fun q9 hq9 => ?_))))
  k_with "Hid" => (fail "w12")
  k_with "w12" => (first | ((with_reducible refine unhidNextT (by fail "a9") ?_); intro tk9; (try dsimp only)) | ((with_reducible refine unhidNext (by fail "a9") ?_); (try dsimp only)) | ((with_reducible refine unhidRet (by fail "a9") ?_); (try dsimp only)) | ((with_reducible refine unhid (by fail "a9") ?_); (try dsimp only [Behind])))
  k_with "spliced" => (fail "w13")
  k_with "w13" => (k_here; (with_reducible show wpAny _ _ (spliced (backTo _ (starEach (_ :: _ :: _ :: _) _))) _ _ _); k_dflt (refine' args_cons ?_ ?_; rotate_left; rfl))
  k_with "spliced" => (fail "w14")
  k_with "w14" => (k_here; k_dflt ((refine' argsF ?_ ?_ ?_ ?_); (rotate_left 4); k_asm; rfl; rfl); (try dsimp only [List.nil_append, List.cons_append]))
  k_with "eval Call" => (fail "w15")
  k_with "w15" => (k_here; (with_reducible show wpAny _ _ (eval (PySem.Expr.Call (PySem.Expr.Name _ _) (_ :: _) [] _) _) _ _ _); first | (k_dflt ((refine' callF ?_ ?_ ?_ ?_ ?_ ?_ ?_ ?_ ?_ ?_ ?_); (rotate_left 10); k_asm; k_asm; k_asm; k_is; k_is; rfl; rfl; rfl; rotate_left; decide; rfl)) | k_compRoot | k_dflt (refine' Call_ ?_))
  k_with "eval Name" => (fail "w16")
  k_with "w16" => (k_here; (with_reducible show wpAny _ _ (eval (PySem.Expr.Name _ _) (envOf _ _ _ _ _)) _ _ _); first | k_dflt ((refine' nameX_K ?_ ?_ ?_ ?_ ?_ ?_ ?_ ?_); (rotate_left 8); k_asm; k_asm; k_asm; k_is; rotate_left; rfl; rfl; decide) | k_dflt ((refine' nameX_L ?_ ?_ ?_ ?_ ?_ ?_); (rotate_left 3); k_asm; rfl; rotate_left; rfl; rfl; decide))
  k_with "callWith ref" => (fail "w17")
  k_with "w17" => (k_here; (with_reducible show wpAny _ _ (callWith _ _ _ (backTo _ (starEach [] _)) []) _ _ _); k_dflt (refine callF0 (by fail "a9") (by fail "a9") (by k_is) ?_))
  k_with "last getItem" => k_extra "u9"
  k_with "last setItem" => k_extra "u9"
  k_with "last setAttr" => k_extra "u9"
  k_with "last getAttr" => k_extra "u9"
  k_with "last subscriptTail" => k_extra "u9"
  k_with "last getMethod" => k_extra "u9"
  k_with "last call" => k_extra "u9"
  k_with "last pyIter" => k_extra "u9"
  k_with "last eval" => k_extra "u9"
  k_with "last exec" => k_extra "u9"
  k_with "last inplaceOp" => k_extra "u9"
  k_with "last binaryOp" => k_extra "u9"
  k_with "last InvEndN" => k_extra "u9"
  k_with "last GEnd" => k_extra "u9"
  k_with "last KEnd" => k_extra "u9"
  k_with "last LeaveT" => k_extra "u9"
  k_with "last noteFrame" => k_extra "u9"
  k_with "last leaving" => k_extra "u9"
  k_with "k_lt" => skip
  k_with "ktr_enter" => (fail "w18")
  k_with "w18" => first | (refine enterK (by assumption) (by assumption) (by k_is) (by k_is) (by ktr_room) (by exact BindsTo.of_eq rfl) (by exact locs rfl) ?_ (by exact rfl) (by exact rfl) (by exact rfl) (by decide); k_whole; intro g' L' h' F' N' B' X' T' lN' gN' tk9'; (try k_lt lN'); (try dsimp only); (try k_fold)) | (refine enterC (by assumption) (by assumption) (by k_is) (by k_is) (by ktr_room) (by exact BindsTo.of_eq rfl) (by exact rfl) (by decide +kernel) ?_ (by exact rfl) (by exact rfl) (by exact rfl); k_whole; intro g' L' h' tk' cells' F' N' Y' B' X' T' lN' gN'; (try k_lt lN'); k_cells Y'; (try simp only [List.cons_append, List.nil_append] at N'); (try dsimp only); (try k_fold))
  k_with "kts_go" => (fail "w19")
  k_with "w19" => (refine enterS (by assumption) (by assumption) (by k_is) (by k_is) (by ktr_room) (by exact BindsTo.of_eq rfl) (by exact locs rfl) ?_ (by exact rfl) (by exact rfl) (by exact rfl) (by decide); k_whole; intro g' L' h' F' N' B' X' T' D' lN' gN' tk9'; (try k_lt lN'); (try dsimp only); (try k_fold))
  k_with "exec Raise some none" => (fail "w20")
  k_with "w20" => (k_here; k_dflt (refine Raise_bad (by rfl) ?_))
  k_with "BadE" => (fail "w21")
  k_with "w21" => (k_here; (rename BadIs _ _ _ _ _ _ _ => bI); refine ⟨_, _, _, rfl, by k_in, BadIs.he bI, ?_⟩)
  k_with "call ref" => (fail "w22")
  k_with "w22" => (k_here; (with_reducible show wpAny _ _ (call (Value.ref 51) _) _ _ _); k_dflt (refine bad_call ⟨by k_asm, by k_asm, by k_asm, by k_asm, by k_asm, by first | exact rfl | assumption⟩ (by ktr_room) (by ktr_units) ?_); intro h' e' d' t' tk' h1' h2' k1' k2' F' N' o1' bI'; (try dsimp only); (try k_fold))
  k_with "leaving ref" => (fail "w23")
  k_with "w23" => (k_here; first | ((with_reducible rename BadIs _ _ _ _ _ _ _ => bI9); (refine leave_badI (by assumption) (by assumption) (by assumption) bI9 ?_); k_whole; intro h' vs' S' U' d'; (try dsimp only at S' U' ⊢)) | ((with_reducible rename RaisedS _ _ _ _ _ _ _ _ _ => rS9); (refine leave_badOnI (by assumption) (by assumption) rS9 (by assumption) (by assumption) ?_); k_whole; intro h' S' U' d'; (try dsimp only at S' U' ⊢)))
  k_with "noteFrame ref" => (fail "w24")
  k_with "w24" => (k_here; k_dflt (refine caught_bad (by assumption) (by assumption) (by assumption) (by assumption) (by assumption) (by assumption) (by assumption) (by assumption) (by first | assumption | exact KtsTurn.refl) (by k_is) ?_; k_whole); intro h' g' ws' sl' tk' T' F' N' K' X' P' D' c'; (try k_sweep))
  k_with "getAttr ref" => (fail "w25")
  k_with "w25" => (k_here; (with_reducible show wpAny _ _ (getAttr (Value.ref _) (Str.ofString "square") _) _ _ _); k_dflt (refine fault_square (by k_asm) (by k_asm) (by k_asm) (by k_mem) (by k_mem) ?_); (try dsimp only))
  k_with "getAttr ref" => (fail "w26")
  k_with "w26" => (k_here; (with_reducible show wpAny _ _ (getAttr (Value.ref _) (Str.ofString "text") _) _ _ _); k_dflt (refine fault_text (by k_asm) (by k_asm) (by k_asm) (by k_mem) (by k_mem) ?_); (try dsimp only))
  trivial
theorem end_octets {prog p : Program} {w : World} {loose : List Str} {mean : ExcName → Option Value} {mg mb : Str → Option Value} {dp un : Nat} {gd : Option (List Code)} {cn : Str} {cs : Scope} {a : Addr} {ccd : Value} {outer : List Env} {A₀ : Around} {base h₀ : Heap} {L : Addr} {m : Str → Option Value} {s : Shared} {Q E : Value → Shared → Prop}
    {news : List (Addr × Obj)}
    {r dr : Addr} {ea eb ec : Int} {k1 k2 k3 t1 t2 t3 tw : Tok} {W : Int} {C P : Nat}
    (S : SiteS w p loose mean mg mb cs outer A₀ base h₀ L m news s.heap)
    (hr : (r, instObj 138 dr) ∈ news) (hdr : (dr, dictOf [⟨ea, .str (Str.ofString "word") k1, .int W t1⟩, ⟨eb, .str (Str.ofString "count") k2, .int (C : Int) t2⟩, ⟨ec, .str (Str.ofString "at") k3, .int (P : Int) t3⟩] 3) ∈ news)
    (hne : r ≠ dr) (hW : 0 ≤ W) (hC : C ≤ 400) (hPC : P ≤ C) (hgo : P + 8 ≤ C)
    (hdp : dp + 20 ≤ 500) (hun : un + 200 ≤ 4000)
    (h : ∀ (l' : Addr) (q1 q2 q3 : Tok) (h' : Heap) (tk' : Nat), LCg.Off1 l' news →
      BackT w p loose mean mg mb outer A₀ base h₀ L m ((l', { cls := .type "tuple", data := .seq #[.str (Str.ofString "refused") q1, .int (-1) q2, .str (Str.ofString "octets behind the end") q3] }) :: news) h' (Q (.ref l') { s with heap := h', toks := tk' })) :
    wpAny (model prog w) (ktrTop dp un gd cn cs L a ccd [] outer) (call (.ref 298) [.ref 312, .ref r, .int 0 tw]) Q E s := by
  have hsub : ∀ q ∈ [(r, instObj 138 dr), (dr, dictOf [⟨ea, .str (Str.ofString "word") k1, .int W t1⟩, ⟨eb, .str (Str.ofString "count") k2, .int (C : Int) t2⟩, ⟨ec, .str (Str.ofString "at") k3, .int (P : Int) t3⟩] 3)], q ∈ news := by
    intro q hq
    rcases List.mem_cons.mp hq with rfl | hq
    · exact hr
    · rcases List.mem_cons.mp hq with rfl | hq
      · exact hdr
      · nomatch hq
  have XB := S.XB
  have TB := S.TB
  have hne := neN hne
  k_dflt kts_go
  k_steps
  all_goals try contradiction
  with_reducible rename (∀ q ∈ news, _) => g9
  with_reducible rename News _ _ _ _ => n9
  exact finT S.N hsub g9 n9 (by first | assumption | exact KtsTurn.refl) (by assumption) (fun q hq => List.mem_cons_of_mem _ (List.mem_cons_of_mem _ (hq))) (fun x hx => by
      rcases List.mem_cons.mp hx with rfl | hx
      · k_ne
      · rcases List.mem_cons.mp hx with rfl | hx
        · k_ne
        · nomatch hx) (fun o9 => h _ _ _ _ _ _ o9)
theorem end_bits {prog p : Program} {w : World} {loose : List Str} {mean : ExcName → Option Value} {mg mb : Str → Option Value} {dp un : Nat} {gd : Option (List Code)} {cn : Str} {cs : Scope} {a : Addr} {ccd : Value} {outer : List Env} {A₀ : Around} {base h₀ : Heap} {L : Addr} {m : Str → Option Value} {s : Shared} {Q E : Value → Shared → Prop}
    {news : List (Addr × Obj)}
    {r dr : Addr} {ea eb ec : Int} {k1 k2 k3 t1 t2 t3 tw : Tok} {W : Int} {C P : Nat}
    (S : SiteS w p loose mean mg mb cs outer A₀ base h₀ L m news s.heap)
    (hr : (r, instObj 138 dr) ∈ news) (hdr : (dr, dictOf [⟨ea, .str (Str.ofString "word") k1, .int W t1⟩, ⟨eb, .str (Str.ofString "count") k2, .int (C : Int) t2⟩, ⟨ec, .str (Str.ofString "at") k3, .int (P : Int) t3⟩] 3) ∈ news)
    (hne : r ≠ dr) (hW : 0 ≤ W) (hC : C ≤ 400) (hPC : P ≤ C) (hgo : C < P + 8) (hb : W.fdiv (2 ^ ((P : Int)).toNat) ≠ 0)
    (hdp : dp + 20 ≤ 500) (hun : un + 200 ≤ 4000)
    (h : ∀ (l' : Addr) (q1 q2 q3 : Tok) (h' : Heap) (tk' : Nat), LCg.Off1 l' news →
      BackT w p loose mean mg mb outer A₀ base h₀ L m ((l', { cls := .type "tuple", data := .seq #[.str (Str.ofString "refused") q1, .int (-1) q2, .str (Str.ofString "bits behind the end") q3] }) :: news) h' (Q (.ref l') { s with heap := h', toks := tk' })) :
    wpAny (model prog w) (ktrTop dp un gd cn cs L a ccd [] outer) (call (.ref 298) [.ref 312, .ref r, .int 0 tw]) Q E s := by
  have hsub : ∀ q ∈ [(r, instObj 138 dr), (dr, dictOf [⟨ea, .str (Str.ofString "word") k1, .int W t1⟩, ⟨eb, .str (Str.ofString "count") k2, .int (C : Int) t2⟩, ⟨ec, .str (Str.ofString "at") k3, .int (P : Int) t3⟩] 3)], q ∈ news := by
    intro q hq
    rcases List.mem_cons.mp hq with rfl | hq
    · exact hr
    · rcases List.mem_cons.mp hq with rfl | hq
      · exact hdr
      · nomatch hq
  have XB := S.XB
  have TB := S.TB
  have hne := neN hne
  k_dflt kts_go
  k_steps
  all_goals try contradiction
  with_reducible rename (∀ q ∈ news, _) => g9
  with_reducible rename News _ _ _ _ => n9
  exact finT S.N hsub g9 n9 (by first | assumption | exact KtsTurn.refl) (by assumption) (fun q hq => List.mem_cons_of_mem _ (List.mem_cons_of_mem _ (hq))) (fun x hx => by
      rcases List.mem_cons.mp hx with rfl | hx
      · k_ne
      · rcases List.mem_cons.mp hx with rfl | hx
        · k_ne
        · nomatch hx) (fun o9 => h _ _ _ _ _ _ o9)
theorem end_ok {prog p : Program} {w : World} {loose : List Str} {mean : ExcName → Option Value} {mg mb : Str → Option Value} {dp un : Nat} {gd : Option (List Code)} {cn : Str} {cs : Scope} {a : Addr} {ccd : Value} {outer : List Env} {A₀ : Around} {base h₀ : Heap} {L : Addr} {m : Str → Option Value} {s : Shared} {Q E : Value → Shared → Prop}
    {news : List (Addr × Obj)}
    {r dr : Addr} {ea eb ec : Int} {k1 k2 k3 t1 t2 t3 tw : Tok} {W : Int} {C P : Nat}
    (S : SiteS w p loose mean mg mb cs outer A₀ base h₀ L m news s.heap)
    (hr : (r, instObj 138 dr) ∈ news) (hdr : (dr, dictOf [⟨ea, .str (Str.ofString "word") k1, .int W t1⟩, ⟨eb, .str (Str.ofString "count") k2, .int (C : Int) t2⟩, ⟨ec, .str (Str.ofString "at") k3, .int (P : Int) t3⟩] 3) ∈ news)
    (hne : r ≠ dr) (hW : 0 ≤ W) (hC : C ≤ 400) (hPC : P ≤ C) (hgo : C < P + 8) (hb : W.fdiv (2 ^ ((P : Int)).toNat) = 0)
    (hdp : dp + 20 ≤ 500) (hun : un + 200 ≤ 4000)
    (h : ∀ (l' : Addr) (q1 : Tok) (h' : Heap) (tk' : Nat), LCg.Off1 l' news →
      BackT w p loose mean mg mb outer A₀ base h₀ L m ((l', { cls := .type "tuple", data := .seq #[.str (Str.ofString "taken") q1, .none] }) :: news) h' (Q (.ref l') { s with heap := h', toks := tk' })) :
    wpAny (model prog w) (ktrTop dp un gd cn cs L a ccd [] outer) (call (.ref 298) [.ref 312, .ref r, .int 0 tw]) Q E s := by
  have hsub : ∀ q ∈ [(r, instObj 138 dr), (dr, dictOf [⟨ea, .str (Str.ofString "word") k1, .int W t1⟩, ⟨eb, .str (Str.ofString "count") k2, .int (C : Int) t2⟩, ⟨ec, .str (Str.ofString "at") k3, .int (P : Int) t3⟩] 3)], q ∈ news := by
    intro q hq
    rcases List.mem_cons.mp hq with rfl | hq
    · exact hr
    · rcases List.mem_cons.mp hq with rfl | hq
      · exact hdr
      · nomatch hq
  have XB := S.XB
  have TB := S.TB
  have hne := neN hne
  k_dflt kts_go
  k_steps
  all_goals try contradiction
  with_reducible rename (∀ q ∈ news, _) => g9
  with_reducible rename News _ _ _ _ => n9
  exact finT S.N hsub g9 n9 (by first | assumption | exact KtsTurn.refl) (by assumption) (fun q hq => hq) (fun x hx => by
      rcases List.mem_cons.mp hx with rfl | hx
      · k_ne
      · rcases List.mem_cons.mp hx with rfl | hx
        · k_ne
        · nomatch hx) (fun o9 => h _ _ _ _ o9)
end Mine
end

section
namespace Mine
theorem wordsC10 : True := by
  k_with_none
  w_top off
  k_with "a9" => (with_reducible assumption)
  k_with "c9" => (repeat (with_reducible rename _ ∧ _ => hA9; clear hA9)); (repeat (with_reducible rename _ ≠ _ => hA9; clear hA9))
  k_with "u9" => ((with_reducible rename News _ _ _ _ => N9); dsimp +zetaDelta only at N9)
  k_with "p0" => (refine offAt (by fail "a9") 0 ?_; exact rfl)
  k_with "p1" => (refine offAt (by fail "a9") 1 ?_; exact rfl)
  k_with "p2" => (refine offAt (by fail "a9") 2 ?_; exact rfl)
  k_with "p3" => (refine offAt (by fail "a9") 3 ?_; exact rfl)
  k_with "p4" => (refine offAt (by fail "a9") 4 ?_; exact rfl)
  k_with "p5" => (refine offAt (by fail "a9") 5 ?_; exact rfl)
  k_with "p6" => (refine offAt (by fail "a9") 6 ?_; exact rfl)
  k_with "p7" => (refine offAt (by fail "a9") 7 ?_; exact rfl)
  k_with "p8" => (refine offAt (by fail "a9") 8 ?_; exact rfl)
  k_with "p9" => (refine offAt (by fail "a9") 9 ?_; exact rfl)
  k_with "p10" => (refine offAt (by fail "a9") 10 ?_; exact rfl)
  k_with "p11" => (refine offAt (by fail "a9") 11 ?_; exact rfl)
  k_with "p12" => (refine offAt (by fail "a9") 12 ?_; exact rfl)
  k_with "p13" => (refine offAt (by fail "a9") 13 ?_; exact rfl)
  k_with "p14" => (refine ltAt (by fail "a9") 0 ?_; exact rfl)
  k_with "p15" => (refine ltAt (by fail "a9") 1 ?_; exact rfl)
  k_with "p16" => (refine ltAt (by fail "a9") 2 ?_; exact rfl)
  k_with "p17" => (refine ltAt (by fail "a9") 3 ?_; exact rfl)
  k_with "p18" => (refine ltAt (by fail "a9") 4 ?_; exact rfl)
  k_with "p19" => (refine ltAt (by fail "a9") 5 ?_; exact rfl)
  k_with "p20" => (refine ltAt (by fail "a9") 6 ?_; exact rfl)
  k_with "p21" => (refine ltAt (by fail "a9") 7 ?_; exact rfl)
  k_with "p22" => (refine ltAt (by fail "a9") 8 ?_; exact rfl)
  k_with "p23" => (refine ltAt (by fail "a9") 9 ?_; exact rfl)
  k_with "p24" => (refine ltAt (by fail "a9") 10 ?_; exact rfl)
  k_with "p25" => (refine ltAt (by fail "a9") 11 ?_; exact rfl)
  k_with "p26" => (refine ltAt (by fail "a9") 12 ?_; exact rfl)
  k_with "p27" => (refine ltAt (by fail "a9") 13 ?_; exact rfl)
  k_with "r9" => (fail "w1")
  k_with "w1" => (first | fail "a9" | exact Nat.le_of_lt (by fail "a9"))
  k_with "offs9" => (first | fail "p0" | fail "p1" | fail "p2" | fail "p3" | fail "p4" | fail "p5" | fail "p6" | fail "p7" | fail "p8" | fail "p9" | fail "p10" | fail "p11" | fail "p12" | fail "p13" | fail "p14" | fail "p15" | fail "p16" | fail "p17" | fail "p18" | fail "p19" | fail "p20" | fail "p21" | fail "p22" | fail "p23" | fail "p24" | fail "p25" | fail "p26" | fail "p27")
  k_with "mem9" => (fail "w2")
  k_with "w2" => (first | exact List.Mem.head _ | exact List.Mem.tail _ (List.Mem.head _) | (refine memAt 0 ?_; exact rfl) | (refine memAt 1 ?_; exact rfl) | (refine memAt 2 ?_; exact rfl) | (refine memAt 3 ?_; exact rfl) | (refine memAt 4 ?_; exact rfl) | (refine memAt 5 ?_; exact rfl) | (refine memAt 6 ?_; exact rfl) | (refine memAt 7 ?_; exact rfl) | (refine memAt 8 ?_; exact rfl) | (refine memAt 9 ?_; exact rfl) | (refine memAt 10 ?_; exact rfl) | (refine memAt 11 ?_; exact rfl) | (refine memAt 12 ?_; exact rfl) | (refine memAt 13 ?_; exact rfl) | (refine memAt 14 ?_; exact rfl) | (refine memAt 15 ?_; exact rfl) | (refine memAt 16 ?_; exact rfl) | (refine memAt 17 ?_; exact rfl))
  k_with "lts9" => (fail "w3")
  k_with "w3" => (first | (refine ltB (by fail "a9") 0 ?_; exact rfl) | (refine ltB (by fail "a9") 1 ?_; exact rfl) | (refine ltB (by fail "a9") 2 ?_; exact rfl) | (refine ltB (by fail "a9") 3 ?_; exact rfl) | (refine ltB (by fail "a9") 4 ?_; exact rfl) | (refine ltB (by fail "a9") 5 ?_; exact rfl) | (refine ltB (by fail "a9") 6 ?_; exact rfl) | (refine ltB (by fail "a9") 7 ?_; exact rfl) | (refine ltB (by fail "a9") 8 ?_; exact rfl) | (refine ltB (by fail "a9") 9 ?_; exact rfl) | (refine ltB (by fail "a9") 10 ?_; exact rfl) | (refine ltB (by fail "a9") 11 ?_; exact rfl) | (refine ltB (by fail "a9") 12 ?_; exact rfl) | (refine ltB (by fail "a9") 13 ?_; exact rfl))
  k_with "rooms9" => (fail "w4")
  k_with "w4" => (first | (refine rl2 (by fail "r9") ?_; exact rfl) | (refine rl1 (by fail "r9") ?_; exact rfl) | (refine rl3 (by fail "r9") ?_; exact rfl) | (refine rl0 (by fail "r9") ?_; exact rfl) | (refine rl4 (by fail "r9") ?_; exact rfl) | (refine rm2 (by fail "r9") ?_; exact rfl) | (refine rm1 (by fail "r9") ?_; exact rfl) | (refine rm3 (by fail "r9") ?_; exact rfl) | (refine rm0 (by fail "r9") ?_; exact rfl) | (refine rm4 (by fail "r9") ?_; exact rfl))
  k_with "k_ne" => (fail "w5")
  k_with "w5" => (refine neN ?_; (try dsimp only); first | fail "a9" | (refine Ne.symm ?_; fail "a9") | exact Nat.ne_of_lt (by fail "a9") | exact Nat.ne_of_gt (by fail "a9") | k_extra "offs9" | (refine Ne.symm ?_; first | k_extra "offs9") | ((try simp only [LCg.Off1, and_true] at *); omega))
  k_with "k_mem" => (fail "w6")
  k_with "w6" => (first | fail "a9" | k_extra "mem9")
  k_with "k_memK" => (first | k_extra "mem9")
  k_with "is_list" => (fail "w7")
  k_with "w7" => (exact News.isList (by fail "a9") (by k_mem))
  k_with "ktr_room" => (fail "w8")
  k_with "w8" => ((try dsimp only [depth_under_make, depth_under_kw, depth_in1, depth_deeper, depth_caller]); (try dsimp only [ktrTop]); first | decide | k_extra "rooms9")
  k_with "units_room" => (fail "w9")
  k_with "w9" => ((try dsimp only [units_in1, units_deeper, Around.mark_units, units_caller]); (try dsimp only [ktrTop]); first | decide | k_extra "rooms9")
  k_with "l_idx" => ((k_extra "c9"); omega)
  k_with "l_fit" => ((k_extra "c9"); omega)
  k_with "ktr_units" => (fail "w10")
  k_with "w10" => ((try dsimp only [units_in1, units_deeper, Around.mark_units, units_caller]); (try dsimp only [ktrTop]); first | decide | k_extra "rooms9")
  k_with "execs cons" => (fail "w11")
  k_with "w11" => (k_here; first | k_gentoks | ((try dsimp only); (try k_gentoks); (try (with_reducible refine letA ?_; intro A9)); (try ((with_reducible rename Fr _ _ _ _ => F9); refine letF F9 ?_; clear F9; intro m9 F9)); (first | (with_reducible refine execHidB fun q9 hq9 => ?_) | (refine hideQ fun q9 hq9 => ?_; with_reducible refine execHidB fun q9 hq9 => ?_))))
  k_with "Hid" => (fail "w12")
  k_with "w12" => (first | ((with_reducible refine unhidNextT (by fail "a9") ?_); intro tk9; (try dsimp only)) | ((with_reducible refine unhidNext (by fail "a9") ?_); (try dsimp only)) | ((with_reducible refine unhidRet (by fail "a9") ?_); (try dsimp only)) | ((with_reducible refine unhid (by fail "a9") ?_); (try dsimp only [Behind])))
  k_with "spliced" => (fail "w13")
  k_with "w13" => (k_here; (with_reducible show wpAny _ _ (spliced (backTo _ (starEach (_ :: _ :: _ :: _) _))) _ _ _); k_dflt (refine' args_cons ?_ ?_; rotate_left; rfl))
  k_with "spliced" => (fail "w14")
  k_with "w14" => (k_here; k_dflt ((refine' argsF ?_ ?_ ?_ ?_); (rotate_left 4); k_asm; rfl; rfl); (try dsimp only [List.nil_append, List.cons_append]))
  k_with "eval Call" => (fail "w15")
  k_with "w15" => (k_here; (with_reducible show wpAny _ _ (eval (PySem.Expr.Call (PySem.Expr.Name _ _) (_ :: _) [] _) _) _ _ _); first | (k_dflt ((refine' callF ?_ ?_ ?_ ?_ ?_ ?_ ?_ ?_ ?_ ?_ ?_); (rotate_left 10); k_asm; k_asm; k_asm; k_is; k_is; rfl; rfl; rfl; rotate_left; decide; rfl)) | k_compRoot | k_dflt (refine' Call_ ?_))
  k_with "eval Name" => (fail "w16")
  k_with "w16" => (k_here; (with_reducible show wpAny _ _ (eval (PySem.Expr.Name _ _) (envOf _ _ _ _ _)) _ _ _); first | k_dflt ((refine' nameX_K ?_ ?_ ?_ ?_ ?_ ?_ ?_ ?_); (rotate_left 8); k_asm; k_asm; k_asm; k_is; rotate_left; rfl; rfl; decide) | k_dflt ((refine' nameX_L ?_ ?_ ?_ ?_ ?_ ?_); (rotate_left 3); k_asm; rfl; rotate_left; rfl; rfl; decide))
  k_with "callWith ref" => (fail "w17")
  k_with "w17" => (k_here; (with_reducible show wpAny _ _ (callWith _ _ _ (backTo _ (starEach [] _)) []) _ _ _); k_dflt (refine callF0 (by fail "a9") (by fail "a9") (by k_is) ?_))
  k_with "k_lt" => skip
  k_with "ktr_enter" => (fail "w18")
  k_with "w18" => (refine enterK (by assumption) (by assumption) (by k_is) (by k_is) (by ktr_room) (by exact BindsTo.of_eq rfl) (by exact locs rfl) ?_ (by exact rfl) (by exact rfl) (by exact rfl) (by decide); k_whole; intro g' L' h' F' N' B' X' T' lN' gN' tk9'; (try k_lt lN'); (try dsimp only); (try k_fold))
  trivial
theorem cut_cond {h₀ h : Heap} {L : Addr} {news : List (Addr × Obj)} {c r : Addr} {oc o' lst : Obj} {gU : Obj → List (Addr × Obj)} (N : News h₀ L h news) (U : UpdF c oc news gU) (hr : (r, lst) ∈ news) :
    ∀ q ∈ gU o', q ∈ [(r, lst), (c, o')] ∨ (q ∈ news ∧ ∀ x ∈ [(r, lst), (c, oc)], q.1 ≠ x.1) := by
  intro q hq
  rcases updF_are U q hq with rfl | ⟨hn, hc⟩
  · exact .inl (List.mem_cons_of_mem _ List.mem_cons_self)
  · by_cases e : q.1 = r
    · refine .inl ?_
      obtain ⟨q1, q2⟩ := q
      have e' : q1 = r := e
      subst e'
      rw [news_fun N hn hr]
      exact List.mem_cons_self
    · refine .inr ⟨hn, fun x hx => ?_⟩
      rcases List.mem_cons.mp hx with rfl | hx
      · exact e
      · rcases List.mem_cons.mp hx with rfl | hx
        · exact hc
        · nomatch hx
theorem cut_spec {prog p : Program} {w : World} {loose : List Str} {mean : ExcName → Option Value} {mg mb : Str → Option Value} {dp un : Nat} {gd : Option (List Code)} {cn : Str} {cs : Scope} {a : Addr} {ccd : Value} {outer : List Env} {A₀ : Around} {base h₀ : Heap} {L : Addr} {m : Str → Option Value} {s : Shared} {Q E : Value → Shared → Prop}
    {news : List (Addr × Obj)} {cl : List (Str × Addr)} {c r : Addr} {oc : Obj} {gU : Obj → List (Addr × Obj)} {rv : List Value} {rs : List Int} {nr : Nat} {i many : Int} {ti tm : Tok}
    (S : Site w p loose mean mg mb cs outer A₀ base h₀ L m news s.heap)
    (U : UpdF c oc news gU) (hd : oc.IsDictOf (PySem.strKind prog w) [(Str.ofString "row", .ref r), (Str.ofString "at", .int i ti)])
    (hr : (r, PySem.W.listOf rv.toArray nr) ∈ news) (hrc : r ≠ c) (hi : IntsAre rv rs) (hrs : rs.length ≤ 50) (hi0 : 0 ≤ i) (hi1 : i ≤ 60) (hm : 0 < many) (hm2 : many ≤ 2 ^ 40)
    (hdp : dp + 4 < recursionLimit) (hun : un + 40 < cLine)
    (h : ∀ (v : Int) (oc' : Obj) (t t' : Tok) (h' : Heap) (tk' : Nat), 0 ≤ v → v < many → oc'.IsDictOf (PySem.strKind prog w) [(Str.ofString "row", .ref r), (Str.ofString "at", .int (i + 1) t')] →
      Fr h₀ L h' m → News h₀ L h' (gU oc') → Q (.int v t) { s with heap := h', toks := tk' }) :
    wpAny (model prog w) (ktrTop dp un gd cn cs L a ccd cl outer) (call (.ref 276) [.ref c, .int many tm]) Q E s := by
  have hsub : ∀ q ∈ [(r, PySem.W.listOf rv.toArray nr), (c, oc)], q ∈ news := by
    intro q hq
    rcases List.mem_cons.mp hq with rfl | hq
    · exact hr
    · rcases List.mem_cons.mp hq with rfl | hq
      · exact updF_was U
      · nomatch hq
  have hrc := neN hrc
  k_dflt ktr_enter
  k_steps
  all_goals (refine leaveE_ (by assumption) (by assumption) ⟨gU _, cut_cond S.N U hr, fun F9 N9 => h _ _ _ _ _ _ ?_ ?_ (by assumption) F9 N9⟩)
  all_goals first
    | exact Int.fmod_nonneg_of_pos _ hm
    | exact Int.fmod_lt_of_pos _ hm
end Mine
end

section
namespace Mine
theorem resetFC : True := by (k_with_none; w_top off); trivial
open PySem.W.X
theorem turn0 {fs : List Addr} {g : Heap} (D : KtsDicts fs g) : KtsTurn fs g g := KtsTurn.refl
theorem finC {w : World} {p : Program} {loose : List Str} {mean : ExcName → Option Value} {mg mb : Str → Option Value} {outer : List Env} {A₀ : Around} {base h₀ h₁ : Heap} {L : Addr} {m : Str → Option Value} {fs : List Addr} {g g' : Heap} {L' c r : Addr} {m' : Str → Option Value} {lst oc oc' : Obj} {news small' : List (Addr × Obj)} {gU : Obj → List (Addr × Obj)} {s' : Shared} {P : Prop}
    (N0 : News h₀ L h₁ news) (U : UpdF c oc news gU) (hr : (r, lst) ∈ news) (F : Fr g' L' s'.heap m') (N : News g' L' s'.heap small') (T : KtsTurn fs g g')
    (h1 : (r, lst) ∈ small') (h2 : (c, oc') ∈ small') (k : BackT w p loose mean mg mb outer A₀ base h₀ L m (gU oc') s'.heap P) :
    LeaveT fs g (fun small' => ∃ news', (∀ q ∈ news', q ∈ small' ∨ (q ∈ news ∧ ∀ x ∈ [(r, lst), (c, oc)], q.1 ≠ x.1)) ∧ BackT w p loose mean mg mb outer A₀ base h₀ L m news' s'.heap P) s' := by
  refine leaveT_ T F N ⟨_, fun q hq => ?_, k⟩
  rcases cut_cond N0 U hr q hq with q1 | q1
  · rcases List.mem_cons.mp q1 with rfl | q1
    · exact .inl h1
    · rcases List.mem_cons.mp q1 with rfl | q1
      · exact .inl h2
      · nomatch q1
  · exact .inr q1
/-- what a law of a coat answers: that it is true -/
def OkC (prog : Program) (w : World) (p : Program) (loose : List Str) (mean : ExcName → Option Value) (mg mb : Str → Option Value) (outer : List Env) (A₀ : Around) (base h₀ : Heap) (L : Addr) (m : Str → Option Value) (gU : Obj → List (Addr × Obj)) (r : Addr) (i : Int) (s : Shared) (Q : Value → Shared → Prop) : Prop :=
  ∀ (oc' : Obj) (t9 : Tok) (h' : Heap) (tk' : Nat), oc'.IsDictOf (PySem.strKind prog w) [(Str.ofString "row", .ref r), (Str.ofString "at", .int i t9)] →
    BackT w p loose mean mg mb outer A₀ base h₀ L m (gU oc') h' (Q (.bool true) { s with heap := h', toks := tk' })
theorem finOk {prog : Program} {w : World} {p : Program} {loose : List Str} {mean : ExcName → Option Value} {mg mb : Str → Option Value} {outer : List Env} {A₀ : Around} {base h₀ h₁ : Heap} {L : Addr} {m : Str → Option Value} {fs : List Addr} {g g' h' : Heap} {tk' : Nat} {L' c r : Addr} {m' : Str → Option Value} {lst oc oc' : Obj} {news small' : List (Addr × Obj)} {gU : Obj → List (Addr × Obj)} {s : Shared} {Q : Value → Shared → Prop} {i i' : Int} {t9 : Tok} {b : Bool}
    (hh : OkC prog w p loose mean mg mb outer A₀ base h₀ L m gU r i s Q) (N0 : News h₀ L h₁ news) (U : UpdF c oc news gU) (hr : (r, lst) ∈ news) (F : Fr g' L' h' m') (N : News g' L' h' small') (T : KtsTurn fs g g')
    (h1 : (r, lst) ∈ small') (h2 : (c, oc') ∈ small') (d : oc'.IsDictOf (PySem.strKind prog w) [(Str.ofString "row", .ref r), (Str.ofString "at", .int i' t9)]) (e : i' = i) (eb : b = true) :
    LeaveT fs g (fun small' => ∃ news', (∀ q ∈ news', q ∈ small' ∨ (q ∈ news ∧ ∀ x ∈ [(r, lst), (c, oc)], q.1 ≠ x.1)) ∧ BackT w p loose mean mg mb outer A₀ base h₀ L m news' h' (Q (.bool b) { s with heap := h', toks := tk' })) { s with heap := h', toks := tk' } := by
  subst e eb
  exact finC (s' := { s with heap := h', toks := tk' }) N0 U hr F N T h1 h2 (hh _ _ _ _ d)
end Mine
end

section
namespace Mine
theorem resetTS : True := by (k_with_none; w_top off); trivial
section
variable {prog : Program} {w : World} {A : Around} {E : Value → Shared → Prop} {s : Shared} {a b c : Value}
/-- the first two of three: the places -/
theorem applied_two {sl : Addr} {u : Tok} {Q : Int × Int × Nat → Shared → Prop} (hs : s.heap.IsSliceOf sl .none (.int 2 u) .none) (h : Q (0, 1, 2) s) :
    wpAny (model prog w) A (Builtin.Slice.sliceApplied (.ref sl) (pure (3 : Int))) Q E s := by
  obtain ⟨o, ho, hc, hd⟩ := id hs
  unfold Builtin.Slice.sliceApplied Builtin.Slice.sliceFields
  refine wpAny_bind (wpAny_bind (wpAny_field ho hd (x := .none) rfl (wpAny_bind (wpAny_field ho hd (x := .int 2 u) rfl (wpAny_bind (wpAny_field ho hd (x := .none) rfl (wpAny_pure ?_)))))))
  refine wpAny_bind (slicePart_none ?_)
  show wpAny _ _ (if ((1 : Int) == 0) = true then _ else _) _ _ s
  rw [if_neg (by decide)]
  exact wpAny_bind (slicePart_none (wpAny_bind (slicePart_int (wpAny_bind (wpAny_pure (wpAny_pure h))))))
theorem item_two {t sl : Addr} {u : Tok} {Q : Value → Shared → Prop} (ht : IsTup s.heap t #[a, b, c]) (hs : s.heap.IsSliceOf sl .none (.int 2 u) .none)
    (h : Q (.ref s.heap.objs.size) { s with heap := s.heap.push { cls := .type "tuple", data := .seq #[a, b] } }) : wpAny (model prog w) A (getItem (.ref t) (.ref sl)) Q E s := by
  have hd : sizeOk (.seq #[a, b]) := by
    show (#[a, b] : Array Value).size ≤ sizeLine
    rw [sizeLine_eq]
    exact Nat.le_of_ble_eq_true rfl
  obtain ⟨o, ho, hc, hd'⟩ := id hs
  have hT : s.TypeIs (.ref sl) "slice" := ⟨o, ho, hc⟩
  unfold getItem
  try with_reducible refine wpAny_holding ?_
  first | refine wpAny_bind (wpAny_pure ?_) | skip
  refine wpAny_bind (wpAny_sequenceKey ht.typeIs (by decide) ?_)
  refine wpAny_bind (wpAny_callSpecial?_slot (name := Str.ofString "__getitem__") ht.typeIs slot_tuple_getitem
    (wpAny_call_entry slot_tuple_getitem ht.typeIs entry_tuple_getitem ?_ (args_tuple_getitem _ _)))
  show wpAny _ _ (Builtin.Tuple.tupleItemsOf (.ref t) >>= _) _ _ s
  refine wpAny_bind (tupleItemsOf_ ht ?_)
  refine wpAny_bind (wpAny_typeOf hT ?_)
  rw [if_pos (by decide)]
  refine wpAny_bind (applied_two hs ?_)
  dsimp only
  rw [if_neg (by simp)]
  first
    | exact wpAny_bind (m := Builtin.Tuple.tupleExact _) (wpAny_newObj_type (wpAny_pure ⟨_, rfl, wpAny_pure h⟩) hd)
    | exact wpAny_bind (m := Builtin.Tuple.tupleExact _) (wpAny_newObj_type (wpAny_bind (wpAny_pure (wpAny_pure ⟨_, rfl, wpAny_pure h⟩))) hd)
    | exact wpAny_bind (wpAny_bind (m := Builtin.Tuple.tupleExact _) (wpAny_newObj_type (wpAny_pure (wpAny_pure ⟨_, rfl, wpAny_pure h⟩)) hd))
    | exact wpAny_bind (wpAny_bind (m := Builtin.Tuple.tupleExact _) (wpAny_newObj_type (wpAny_pure ⟨_, rfl, wpAny_pure h⟩) hd))
theorem slice_two {h₀ : Heap} {L t : Addr} {m : Str → Option Value} {news : List (Addr × Obj)} {value slice : PySem.Expr} {u : Tok} {Q : Value → Shared → Prop} {n : Nat} (F : Fr h₀ L s.heap m) (N : News h₀ L s.heap news) (ht : (t, ({ cls := .type "tuple", data := .seq #[a, b, c] n } : Obj)) ∈ news)
    (h : ∀ D h', LCg.Off1 D news → Fr h₀ L h' m → News h₀ L h' ((D, { cls := .type "tuple", data := .seq #[a, b] }) :: news) → Q (.ref D) { s with heap := h' })
    (hs : subscripted slice false (.ref t) (.ref s.heap.objs.size) = operate [.ref s.heap.objs.size, .ref t] (getItem (.ref t) (.ref s.heap.objs.size)) := by with_unfolding_all rfl)
    (hl : ∀ r, letTemporaryGo value (.ref t) r = pure () := by intro _; with_unfolding_all rfl) :
    wpAny (model prog w) A (subscriptTail value slice (.ref t) (.ref s.heap.objs.size)) Q E { s with heap := s.heap.push { cls := .type "slice", data := .fields #[.none, .int 2 u, .none] } } := by
  have hT : IsTup (s.heap.push { cls := .type "slice", data := .fields #[.none, .int 2 u, .none] }) t #[a, b, c] := ⟨_, Heap.get?_push_of_some _ (N _ ht).1, rfl, _, rfl⟩
  refine subscriptTail_ops (IsTup.typeIs (s := { s with heap := s.heap.push { cls := .type "slice", data := .fields #[.none, .int 2 u, .none] } }) hT) slot_tuple_getitem.lookup
    (item_two hT (Heap.IsSliceOf.new ..) ?_) hs hl
  have N1 := News.push (F.push { cls := .type "slice", data := .fields #[.none, .int 2 u, .none] }) (N.grown fun _ _ e => Heap.get?_push_of_some _ e) { cls := .type "tuple", data := .seq #[a, b] }
  refine h _ _ (off1_of fun q hq e => ?_) ((F.push _).push _) N1
  have := Heap.lt_size (Heap.get?_push_of_some { cls := .type "slice", data := .fields #[.none, .int 2 u, .none] } (N q hq).1)
  rw [e] at this
  exact Nat.lt_irrefl _ this
end
end Mine
end

section
namespace Mine
open PySem.W.X
theorem wordsCE0 : True := by
  k_with_none
  w_top off
  k_with "a9" => (with_reducible assumption)
  k_with "c9" => (repeat (with_reducible rename _ ∧ _ => hA9; clear hA9)); (repeat (with_reducible rename _ ≠ _ => hA9; clear hA9))
  k_with "u9" => ((with_reducible rename News _ _ _ _ => N9); dsimp +zetaDelta only at N9)
  k_with "p0" => (refine offAt (by fail "a9") 0 ?_; exact rfl)
  k_with "p1" => (refine offAt (by fail "a9") 1 ?_; exact rfl)
  k_with "p2" => (refine offAt (by fail "a9") 2 ?_; exact rfl)
  k_with "p3" => (refine offAt (by fail "a9") 3 ?_; exact rfl)
  k_with "p4" => (refine offAt (by fail "a9") 4 ?_; exact rfl)
  k_with "p5" => (refine offAt (by fail "a9") 5 ?_; exact rfl)
  k_with "p6" => (refine offAt (by fail "a9") 6 ?_; exact rfl)
  k_with "p7" => (refine offAt (by fail "a9") 7 ?_; exact rfl)
  k_with "p8" => (refine offAt (by fail "a9") 8 ?_; exact rfl)
  k_with "p9" => (refine offAt (by fail "a9") 9 ?_; exact rfl)
  k_with "p10" => (refine offAt (by fail "a9") 10 ?_; exact rfl)
  k_with "p11" => (refine offAt (by fail "a9") 11 ?_; exact rfl)
  k_with "p12" => (refine offAt (by fail "a9") 12 ?_; exact rfl)
  k_with "p13" => (refine offAt (by fail "a9") 13 ?_; exact rfl)
  k_with "p14" => (refine ltAt (by fail "a9") 0 ?_; exact rfl)
  k_with "p15" => (refine ltAt (by fail "a9") 1 ?_; exact rfl)
  k_with "p16" => (refine ltAt (by fail "a9") 2 ?_; exact rfl)
  k_with "p17" => (refine ltAt (by fail "a9") 3 ?_; exact rfl)
  k_with "p18" => (refine ltAt (by fail "a9") 4 ?_; exact rfl)
  k_with "p19" => (refine ltAt (by fail "a9") 5 ?_; exact rfl)
  k_with "p20" => (refine ltAt (by fail "a9") 6 ?_; exact rfl)
  k_with "p21" => (refine ltAt (by fail "a9") 7 ?_; exact rfl)
  k_with "p22" => (refine ltAt (by fail "a9") 8 ?_; exact rfl)
  k_with "p23" => (refine ltAt (by fail "a9") 9 ?_; exact rfl)
  k_with "p24" => (refine ltAt (by fail "a9") 10 ?_; exact rfl)
  k_with "p25" => (refine ltAt (by fail "a9") 11 ?_; exact rfl)
  k_with "p26" => (refine ltAt (by fail "a9") 12 ?_; exact rfl)
  k_with "p27" => (refine ltAt (by fail "a9") 13 ?_; exact rfl)
  k_with "r9" => (fail "w1")
  k_with "w1" => (first | fail "a9" | exact Nat.le_of_lt (by fail "a9"))
  k_with "offs9" => (first | fail "p0" | fail "p1" | fail "p2" | fail "p3" | fail "p4" | fail "p5" | fail "p6" | fail "p7" | fail "p8" | fail "p9" | fail "p10" | fail "p11" | fail "p12" | fail "p13" | fail "p14" | fail "p15" | fail "p16" | fail "p17" | fail "p18" | fail "p19" | fail "p20" | fail "p21" | fail "p22" | fail "p23" | fail "p24" | fail "p25" | fail "p26" | fail "p27")
  k_with "mem9" => (fail "w2")
  k_with "w2" => (first | exact List.Mem.head _ | exact List.Mem.tail _ (List.Mem.head _) | (refine memAt 0 ?_; exact rfl) | (refine memAt 1 ?_; exact rfl) | (refine memAt 2 ?_; exact rfl) | (refine memAt 3 ?_; exact rfl) | (refine memAt 4 ?_; exact rfl) | (refine memAt 5 ?_; exact rfl) | (refine memAt 6 ?_; exact rfl) | (refine memAt 7 ?_; exact rfl) | (refine memAt 8 ?_; exact rfl) | (refine memAt 9 ?_; exact rfl) | (refine memAt 10 ?_; exact rfl) | (refine memAt 11 ?_; exact rfl) | (refine memAt 12 ?_; exact rfl) | (refine memAt 13 ?_; exact rfl) | (refine memAt 14 ?_; exact rfl) | (refine memAt 15 ?_; exact rfl) | (refine memAt 16 ?_; exact rfl) | (refine memAt 17 ?_; exact rfl))
  k_with "lts9" => (fail "w3")
  k_with "w3" => (first | (refine ltB (by fail "a9") 0 ?_; exact rfl) | (refine ltB (by fail "a9") 1 ?_; exact rfl) | (refine ltB (by fail "a9") 2 ?_; exact rfl) | (refine ltB (by fail "a9") 3 ?_; exact rfl) | (refine ltB (by fail "a9") 4 ?_; exact rfl) | (refine ltB (by fail "a9") 5 ?_; exact rfl) | (refine ltB (by fail "a9") 6 ?_; exact rfl) | (refine ltB (by fail "a9") 7 ?_; exact rfl) | (refine ltB (by fail "a9") 8 ?_; exact rfl) | (refine ltB (by fail "a9") 9 ?_; exact rfl) | (refine ltB (by fail "a9") 10 ?_; exact rfl) | (refine ltB (by fail "a9") 11 ?_; exact rfl) | (refine ltB (by fail "a9") 12 ?_; exact rfl) | (refine ltB (by fail "a9") 13 ?_; exact rfl))
  k_with "rooms9" => (fail "w4")
  k_with "w4" => (first | (refine rl2 (by fail "r9") ?_; exact rfl) | (refine rl1 (by fail "r9") ?_; exact rfl) | (refine rl3 (by fail "r9") ?_; exact rfl) | (refine rl0 (by fail "r9") ?_; exact rfl) | (refine rl4 (by fail "r9") ?_; exact rfl) | (refine rm2 (by fail "r9") ?_; exact rfl) | (refine rm1 (by fail "r9") ?_; exact rfl) | (refine rm3 (by fail "r9") ?_; exact rfl) | (refine rm0 (by fail "r9") ?_; exact rfl) | (refine rm4 (by fail "r9") ?_; exact rfl))
  k_with "k_ne" => (fail "w5")
  k_with "w5" => (refine neN ?_; (try dsimp only); first | fail "a9" | (refine Ne.symm ?_; fail "a9") | exact Nat.ne_of_lt (by fail "a9") | exact Nat.ne_of_gt (by fail "a9") | k_extra "offs9" | (refine Ne.symm ?_; first | k_extra "offs9") | ((try simp only [LCg.Off1, and_true] at *); omega))
  k_with "k_mem" => (fail "w6")
  k_with "w6" => (first | fail "a9" | k_extra "mem9")
  k_with "k_memK" => (first | k_extra "mem9")
  k_with "is_list" => (fail "w7")
  k_with "w7" => (exact News.isList (by fail "a9") (by k_mem))
  k_with "ktr_room" => (fail "w8")
  k_with "w8" => ((try dsimp only [depth_under_make, depth_under_kw, depth_in1, depth_deeper, depth_caller]); (try dsimp only [ktrTop]); first | decide | k_extra "rooms9")
  k_with "units_room" => (fail "w9")
  k_with "w9" => ((try dsimp only [units_in1, units_deeper, Around.mark_units, units_caller]); (try dsimp only [ktrTop]); first | decide | k_extra "rooms9")
  k_with "l_idx" => ((k_extra "c9"); omega)
  k_with "l_fit" => ((k_extra "c9"); omega)
  k_with "ktr_units" => (fail "w10")
  k_with "w10" => ((try dsimp only [units_in1, units_deeper, Around.mark_units, units_caller]); (try dsimp only [ktrTop]); first | decide | k_extra "rooms9")
  k_with "execs cons" => (fail "w11")
  k_with "w11" => (k_here; first | k_gentoks | ((try dsimp only); (try k_gentoks); (try (with_reducible refine letA ?_; intro A9)); (try ((with_reducible rename Fr _ _ _ _ => F9); refine letF F9 ?_; clear F9; intro m9 F9)); (first | (with_reducible refine execHidB fun q9 hq9 => ?_) | (refine hideQ fun q9 hq9 => ?_; with_reducible refine execHidB fun q9 hq9 => ?_))))
  k_with "Hid" => (fail "w12")
  k_with "w12" => (first | ((with_reducible refine unhidNextT (by fail "a9") ?_); intro tk9; (try dsimp only)) | ((with_reducible refine unhidNext (by fail "a9") ?_); (try dsimp only)) | ((with_reducible refine unhidRet (by fail "a9") ?_); (try dsimp only)) | ((with_reducible refine unhid (by fail "a9") ?_); (try dsimp only [Behind])))
  k_with "spliced" => (fail "w13")
  k_with "w13" => (k_here; (with_reducible show wpAny _ _ (spliced (backTo _ (starEach (_ :: _ :: _ :: _) _))) _ _ _); k_dflt (refine' args_cons ?_ ?_; rotate_left; rfl))
  k_with "spliced" => (fail "w14")
  k_with "w14" => (k_here; k_dflt ((refine' argsF ?_ ?_ ?_ ?_); (rotate_left 4); k_asm; rfl; rfl); (try dsimp only [List.nil_append, List.cons_append]))
  k_with "eval Call" => (fail "w15")
  k_with "w15" => (k_here; (with_reducible show wpAny _ _ (eval (PySem.Expr.Call (PySem.Expr.Name _ _) (_ :: _) [] _) _) _ _ _); first | (k_dflt ((refine' callF ?_ ?_ ?_ ?_ ?_ ?_ ?_ ?_ ?_ ?_ ?_); (rotate_left 10); k_asm; k_asm; k_asm; k_is; k_is; rfl; rfl; rfl; rotate_left; decide; rfl)) | k_compRoot | k_dflt (refine' Call_ ?_))
  k_with "eval Name" => (fail "w16")
  k_with "w16" => (k_here; (with_reducible show wpAny _ _ (eval (PySem.Expr.Name _ _) (envOf _ _ _ _ _)) _ _ _); first | k_dflt ((refine' nameX_K ?_ ?_ ?_ ?_ ?_ ?_ ?_ ?_); (rotate_left 8); k_asm; k_asm; k_asm; k_is; rotate_left; rfl; rfl; decide) | k_dflt ((refine' nameX_L ?_ ?_ ?_ ?_ ?_ ?_); (rotate_left 3); k_asm; rfl; rotate_left; rfl; rfl; decide))
  k_with "callWith ref" => (fail "w17")
  k_with "w17" => (k_here; (with_reducible show wpAny _ _ (callWith _ _ _ (backTo _ (starEach [] _)) []) _ _ _); k_dflt (refine callF0 (by fail "a9") (by fail "a9") (by k_is) ?_))
  k_with "k_lt" => skip
  k_with "kts_go" => (fail "w18")
  k_with "w18" => (refine enterS (by assumption) (by assumption) (by k_is) (by k_is) (by ktr_room) (by exact BindsTo.of_eq rfl) (by exact locs rfl) ?_ (by exact rfl) (by exact rfl) (by exact rfl) (by decide); k_whole; intro g' L' h' F' N' B' X' T' D' lN' gN' tk9'; (have T0' := turn0 D'); (try k_lt lN'); (try k_sweep); (try dsimp only); (try k_fold))
  k_with "kxw_text" => (fail "w19")
  k_with "w19" => exact ⟨by k_asm, by k_asm, by k_asm, by k_asm, by k_asm, by first | exact rfl | assumption⟩
  k_with "kxw_bool" => (fail "w20")
  k_with "w20" => exact ⟨by k_asm, by k_asm, by k_asm, by k_asm, by k_asm, by assumption, by assumption, by assumption, by first | exact rfl | assumption⟩
  k_with "kpt_eq" => (fail "w21")
  k_with "w21" => (unfold BackT; (try (with_reducible rename Fr _ _ _ _ => oF; clear oF)); (try (with_reducible rename News _ _ _ _ => oN; clear oN)); (try (with_reducible rename Below _ _ _ _ => oB; clear oB)); (try (with_reducible rename Top _ _ _ _ _ _ => oT; clear oT)); intro kg Tn' F' N' B' X' P' D'; k_dflt (have T0' := KtsTurn.trans (by assumption) Tn'); (try dsimp only at N'); (try k_sweep); (try dsimp only); (try k_fold))
  k_with "call ref" => (fail "w22")
  k_with "w22" => (k_here; (with_reducible show wpAny _ _ (call (Value.ref 276) _) _ _ _); k_dflt (refine cut_spec (by kxw_text) (by k_updF) (by k_asm) (by k_mem) (by k_ne) (by assumption) (by assumption) (by first | ((k_extra "c9"); omega) | omega) (by first | ((k_extra "c9"); omega) | omega) (by first | decide | ((k_extra "c9"); omega) | omega) (by first | decide | ((k_extra "c9"); omega) | omega) (by ktr_room) (by ktr_units) ?_); intro v' oc' t' t2' h' tk' lo' hi' d' F' N'; (try dsimp only at N'); (try k_sweep); (try dsimp only); (try k_fold))
  k_with "call ref" => (fail "w23")
  k_with "w23" => (k_here; (with_reducible show wpAny _ _ (call (Value.ref 281) _) _ _ _); k_dflt (refine bits_spec (by kxw_text) (by first | decide | ((k_extra "c9"); omega) | omega) (by first | decide | ((k_extra "c9"); omega) | omega) (by first | ((k_extra "c9"); omega) | omega) (by first | ((k_extra "c9"); omega) | omega) (by ktr_room) (by ktr_units) ?_); intro l' vs' n' h' tk' i' o1' F' N'; (try k_sweep); (try dsimp only); (try k_fold))
  k_with "call ref" => (fail "w24")
  k_with "w24" => (k_here; (with_reducible show wpAny _ _ (call (Value.ref 103) _) _ _ _); k_dflt (refine bwriter_spec (by kxw_text) (by ktr_room) (by ktr_units) ?_); intro r' d' e1' e2' k1' k2' t1' t2' h' tk' o1' o2' n1' F' N'; (try k_sweep); (try dsimp only); (try k_fold))
  k_with "call ref" => (fail "w25")
  k_with "w25" => (k_here; (with_reducible show wpAny _ _ (call (Value.ref 138) _) _ _ _); k_dflt (refine breader_spec (by kxw_text) (by first | assumption | exact KBa.ints_make (by assumption)) (by first | assumption | exact wOct_in _ _) (by first | (rw [wOct_len]; omega) | l_fact) (by ktr_room) (by ktr_units) ?_); intro r' d' e1' e2' e3' k1' k2' k3' t1' t2' t3' h' tk' o1' o2' n1' F' N'; (try k_sweep); (try dsimp only); (try k_fold))
  k_with "call ref" => (fail "w26")
  k_with "w26" => (k_here; (with_reducible show wpAny _ _ (call (Value.ref 138) _) _ _ _); k_dflt (refine breader_w (by kxw_text) (by assumption) (by first | assumption | decide | ((k_extra "c9"); omega) | omega) (by first | assumption | decide | ((k_extra "c9"); omega) | omega) (by first | ((k_extra "c9"); omega) | omega) (by first | exact (rfl : _ = 8) | exact (rfl : _ = 24) | exact rfl | assumption) (by ktr_room) (by ktr_units) ?_); intro r' d' e1' e2' e3' k1' k2' k3' t1' t2' t3' h' tk' o1' o2' n1' F' N'; (try k_sweep); (try dsimp only); (try k_fold))
  k_with "call ref" => (fail "w27")
  k_with "w27" => (k_here; (with_reducible show wpAny _ _ (call (Value.ref 95) _) _ _ _); k_dflt (refine put_spec (by kxw_text) (by k_mem) (by k_updF) (by k_ne) (by first | assumption | decide | ((k_extra "c9"); omega) | omega) (by first | assumption | decide | ((k_extra "c9"); omega) | omega) (by first | decide | ((k_extra "c9"); omega) | omega) (by first | decide | ((k_extra "c9"); omega) | omega) (by ktr_room) (by ktr_units) ?_); intro W' t1' t2' h' tk' eW' lW' hW' F' N'; (try simp only [bitAnd_m3, fdiv_8, fdiv_64, fdiv_256, Int.reduceToNat, Nat.reduceAdd, Int.reducePow] at eW'); (try dsimp only at N'); (try k_sweep); (try dsimp only); (try k_fold))
  k_with "call ref" => (fail "w28")
  k_with "w28" => (k_here; (with_reducible show wpAny _ _ (call (Value.ref 100) _) _ _ _); k_dflt (refine wocts_spec (by kxw_text) (by k_mem) (by k_mem) (by k_ne) (by first | decide | ((k_extra "c9"); omega) | omega) (by first | assumption | decide | ((k_extra "c9"); omega) | omega) (by ktr_room) (by ktr_units) ?_); intro b' t' h' tk' hb' F' N'; (try k_sweep); (try dsimp only); (try k_fold))
  k_with "call ref" => (fail "w29")
  k_with "w29" => (k_here; (with_reducible show wpAny _ _ (call (Value.ref 291) _) _ _ _); k_dflt (refine octets_spec (by kxw_text) (by k_mem) (by first | k_asm | l_ints) (by first | omega | l_fact) (by ktr_room) (by ktr_units) ?_); intro l' vs' n' h' tk' i' o1' F' N'; (try k_sweep); (try dsimp only); (try k_fold))
  k_with "call type:list" => (fail "w30")
  k_with "w30" => (k_here; (with_reducible show wpAny _ _ (call (Value.type "list") [Value.bytes _ _]) _ _ _); k_dflt (refine list_of_bytes rfl (by k_asm) (by k_asm) (by assumption) (by rw [wOct_len, sizeLine_eq]; omega) ?_); intro l' vs' n' h' tk' i' o1' F' N'; (try k_sweep); (try dsimp only); (try k_fold))
  k_with "call ref" => (fail "w31")
  k_with "w31" => (k_here; (with_reducible show wpAny _ _ (call (Value.ref 291) _) _ _ _); k_dflt (refine octets_w (by assumption) (by kxw_text) (by k_mem) (by first | k_asm | l_ints) (by first | assumption | (simp only [List.length_append, bitsL_len, List.length_cons, List.length_nil, Int.reduceToNat, Nat.reduceAdd, Nat.reduceLeDiff]; done) | (simp only [List.length_append, bitsL_len, List.length_cons, List.length_nil, Int.reduceToNat, Nat.reduceAdd]; omega)) (by repeat' first | exact bitsL_bits _ _ | assumption | refine Bits.append ?_ ?_ | exact Bits.nil | (refine Bits.one ?_; omega)) (by first | assumption | (simp only [numV_app, numV, numV_bitsL', List.length_append, bitsL_len, List.length_cons, List.length_nil, Int.reduceToNat, Nat.reduceAdd, Int.reducePow]; omega)) (by first | assumption | (simp only [List.length_append, bitsL_len, List.length_cons, List.length_nil, Int.reduceToNat, Nat.reduceAdd]; done) | (simp only [List.length_append, bitsL_len, List.length_cons, List.length_nil, Int.reduceToNat, Nat.reduceAdd]; omega)) (by ktr_room) (by ktr_units) ?_); intro l' vs' n' h' tk' i' o1' F' N'; (try k_sweep); (try dsimp only); (try k_fold))
  k_with "LeaveT" => (fail "w32")
  k_with "w32" => (k_dflt (exact finOk (by assumption) (by assumption) (by assumption) (by assumption) (by k_asm) (by k_asm) (by assumption) (by k_mem) (by k_mem) (by k_asm) (by first | ((k_extra "c9"); omega) | omega) (by first | rfl | (exact beq_iff_eq.mpr (by law_clear; omega)) | (exfalso; law_clear; omega) | decide | (simp only [decide_eq_true_eq]; law_clear; omega))))
  k_with "call ref" => (fail "w33")
  k_with "w33" => (k_here; (with_reducible show wpAny _ _ (call (Value.ref 138) _) _ _ _); k_dflt (refine breader_three (by kxw_text) (by exact three_bytes (by decide) (by decide) (by decide) (by decide) (by decide) (by decide)) (by exact three_in (by decide) (by decide) (by decide) (by decide) (by decide) (by decide)) (by ktr_room) (by ktr_units) ?_); intro r' d' e1' e2' e3' k1' k2' k3' t1' t2' t3' h' tk' o1' o2' n1' F' N'; (try k_sweep); (try dsimp only); (try k_fold))
  k_with "call ref" => (fail "w34")
  k_with "w34" => (k_here; (with_reducible show wpAny _ _ (call (Value.ref 138) _) _ _ _); k_dflt (refine breader_one (by kxw_text) (by exact one_bytes (by law_clear; omega) (by law_clear; omega)) (by exact one_in (by law_clear; omega) (by law_clear; omega)) (by ktr_room) (by ktr_units) ?_); intro r' d' e1' e2' e3' k1' k2' k3' t1' t2' t3' h' tk' o1' o2' n1' x1' x2' F' N'; (try k_sweep); (try dsimp only); (try k_fold))
  k_with "subscriptTail Name Slice ref ref" => (fail "w35")
  k_with "w35" => (k_here; (with_reducible show wpAny _ _ (subscriptTail _ (PySem.Expr.Slice _ _ none _) (Value.ref _) (Value.ref _)) _ _ _); k_dflt (refine slice_two (by k_asm) (by k_asm) (by k_mem) ?_ (by with_unfolding_all rfl) (by intro _; with_unfolding_all rfl)); intro D' h' o1' F' N'; (try k_sweep); (try dsimp only); (try k_fold))
  k_with "call ref" => (fail "w36")
  k_with "w36" => (k_here; (with_reducible show wpAny _ _ (call (Value.ref 298) _) _ _ _); (k_dflt (refine cell_spec2 (by kxw_bool) (by k_mem) (by k_updF) (by k_ne) (by first | assumption | decide | ((k_extra "c9"); omega) | omega) (by ktr_room) (by ktr_units) (fun b0' => ?_) (fun b0' b1' => ?_) (fun b0' b1' => ?_))) <;> (first | (exfalso; law_clear; omega) | (intro l' q1' q2' q3' t3' h' tk' o1'; kpt_eq) | (intro l' q1' q2' t3' h' tk' o1'; kpt_eq)))
  k_with "eval List" => (exfalso; law_clear; omega)
  k_with "exec Expr" => (exfalso; law_clear; omega)
  k_with "exec Return some" => (exfalso; law_clear; omega)
  trivial
theorem cells_spec {prog p : Program} {w : World} {loose : List Str} {mean : ExcName → Option Value} {mg mb : Str → Option Value} {dp un : Nat} {gd : Option (List Code)} {cn : Str} {cs : Scope} {a : Addr} {ccd : Value} {outer : List Env} {A₀ : Around} {base h₀ : Heap} {L : Addr} {m : Str → Option Value} {s : Shared} {Q E : Value → Shared → Prop}
    {news : List (Addr × Obj)}
    {c r : Addr} {oc : Obj} {gU : Obj → List (Addr × Obj)} {rv : List Value} {rs : List Int} {nr : Nat} {i : Int} {t9 : Tok}
    (S : SiteS w p loose mean mg mb cs outer A₀ base h₀ L m news s.heap)
    (U : UpdF c oc news gU) (hd : oc.IsDictOf (PySem.strKind prog w) [(Str.ofString "row", .ref r), (Str.ofString "at", .int i t9)])
    (hr : (r, PySem.W.listOf rv.toArray nr) ∈ news) (hrc : r ≠ c) (hi : IntsAre rv rs) (hrs : rs.length ≤ 50) (hi0 : 0 ≤ i) (hi1 : i ≤ 50)
    (hdp : dp + 40 ≤ 400) (hun : un + 400 ≤ 3000)
    (hh : OkC prog w p loose mean mg mb outer A₀ base h₀ L m gU r (i + 3) s Q) :
    wpAny (model prog w) (ktrTop dp un gd cn cs L a ccd [] outer) (call (.ref 338) [.ref c]) Q E s := by
  have hsub : ∀ q ∈ [(r, PySem.W.listOf rv.toArray nr), (c, oc)], q ∈ news := by
    intro q hq
    rcases List.mem_cons.mp hq with rfl | hq
    · exact hr
    · rcases List.mem_cons.mp hq with rfl | hq
      · exact updF_was U
      · nomatch hq
  have XB := S.XB
  have N00 := S.N
  have TB := S.TB
  have hrc := neN hrc
  k_dflt kts_go
  k_steps
end Mine
end

section
namespace Mine
theorem resetT7 : True := by (k_with_none; w_top off); trivial
open PySem.W.X
theorem clocks_taken2 {prog p : Program} {w : World} {loose : List Str} {mean : ExcName → Option Value} {mg mb : Str → Option Value} {dp un : Nat} {gd : Option (List Code)} {cn : Str} {cs : Scope} {a : Addr} {ccd : Value} {outer : List Env} {A₀ : Around} {base h₀ : Heap} {L : Addr} {m : Str → Option Value} {s : Shared} {Q E : Value → Shared → Prop}
    {news : List (Addr × Obj)}
    {r dr : Addr} {ea eb ec : Int} {k1 k2 k3 t1 t2 t3 tw : Tok} {W : Int} {gU : Obj → List (Addr × Obj)}
    (S : SiteS w p loose mean mg mb cs outer A₀ base h₀ L m news s.heap)
    (hr : (r, instObj 138 dr) ∈ news) (U : UpdF dr (dictOf [⟨ea, .str (Str.ofString "word") k1, .int W t1⟩, ⟨eb, .str (Str.ofString "count") k2, .int 24 t2⟩, ⟨ec, .str (Str.ofString "at") k3, .int 0 t3⟩] 3) news gU)
    (hne : r ≠ dr) (hW : 0 ≤ W) (hf : W / 64 % 65536 ≠ 0)
    (hdp : dp + 20 ≤ 500) (hun : un + 200 ≤ 4000)
    (h : ∀ (l' l2 : Addr) (q1 q2 q3 t3 : Tok) (h' : Heap) (tk' : Nat), LCg.Off1 l' news → LCg.Off1 l2 news → (@Ne Nat l' l2) →
      BackT w p loose mean mg mb outer A₀ base h₀ L m ((l', { cls := .type "tuple", data := .seq #[.str (Str.ofString "taken") q1, .ref l2] }) :: (l2, { cls := .type "tuple", data := .seq #[.int (W % 64 + W / 4194304 % 2 * 64) q2, .int (W / 64 % 65536) q3] }) :: gU (dictOf [⟨ea, .str (Str.ofString "word") k1, .int W t1⟩, ⟨eb, .str (Str.ofString "count") k2, .int 24 t2⟩, ⟨ec, .str (Str.ofString "at") k3, .int 23 t3⟩] 3)) h' (Q (.ref l') { s with heap := h', toks := tk' })) :
    wpAny (model prog w) (ktrTop dp un gd cn cs L a ccd [] outer) (call (.ref 298) [.ref 319, .ref r, .int 0 tw]) Q E s := by
  refine clocks_taken S hr U hne hW (by rw [fullW_eq]; exact hf) hdp hun ?_
  rw [halfW_eq, fullW_eq]
  exact h
theorem clocks_refused2 {prog p : Program} {w : World} {loose : List Str} {mean : ExcName → Option Value} {mg mb : Str → Option Value} {dp un : Nat} {gd : Option (List Code)} {cn : Str} {cs : Scope} {a : Addr} {ccd : Value} {outer : List Env} {A₀ : Around} {base h₀ : Heap} {L : Addr} {m : Str → Option Value} {s : Shared} {Q E : Value → Shared → Prop}
    {news : List (Addr × Obj)}
    {r dr : Addr} {ea eb ec : Int} {k1 k2 k3 t1 t2 t3 tw : Tok} {W : Int} {gU : Obj → List (Addr × Obj)}
    (S : SiteS w p loose mean mg mb cs outer A₀ base h₀ L m news s.heap)
    (hr : (r, instObj 138 dr) ∈ news) (U : UpdF dr (dictOf [⟨ea, .str (Str.ofString "word") k1, .int W t1⟩, ⟨eb, .str (Str.ofString "count") k2, .int 24 t2⟩, ⟨ec, .str (Str.ofString "at") k3, .int 0 t3⟩] 3) news gU)
    (hne : r ≠ dr) (hW : 0 ≤ W) (hf : W / 64 % 65536 = 0)
    (hdp : dp + 20 ≤ 500) (hun : un + 200 ≤ 4000)
    (h : ∀ (l' : Addr) (q1 q2 q3 t3 : Tok) (h' : Heap) (tk' : Nat), LCg.Off1 l' news →
      BackT w p loose mean mg mb outer A₀ base h₀ L m ((l', { cls := .type "tuple", data := .seq #[.str (Str.ofString "refused") q1, .int (-1) q2, .str (Str.ofString "the move number is nought") q3] }) :: gU (dictOf [⟨ea, .str (Str.ofString "word") k1, .int W t1⟩, ⟨eb, .str (Str.ofString "count") k2, .int 24 t2⟩, ⟨ec, .str (Str.ofString "at") k3, .int 23 t3⟩] 3)) h' (Q (.ref l') { s with heap := h', toks := tk' })) :
    wpAny (model prog w) (ktrTop dp un gd cn cs L a ccd [] outer) (call (.ref 298) [.ref 319, .ref r, .int 0 tw]) Q E s := by
  exact clocks_refused S hr U hne hW (by rw [fullW_eq]; exact hf) hdp hun h
end Mine
end

section
namespace Mine
theorem resetHN : True := by (k_with_none; w_top off); trivial
theorem entry_unchain : entryFor table "proto.unchain" = some Builtin.«proto.unchain» := by first | exact entryFor_of_fast (by kernel_rfl) | exact entryFor_of_tree (by kernel_rfl)
theorem raise_held {prog : Program} {w : World} {A : Around} {E : Value → Shared → Prop} {s : Shared} {α : Type} {Q : α → Shared → Prop} {h e : Addr} {o oe : Obj} {ws we : Array Value} (hh : A.handled = some (.ref h)) (ne : h ≠ e) (ho : s.heap.get? h = some o) (hd : o.data = .fields ws) (hw : ws[2]? = some .none)
    (he : s.heap.get? e = some oe) (hde : oe.data = .fields we) (h3 : 2 < we.size) (k : E (.ref e) { s with heap := s.heap.update e (Obj.mapFields fun x => x.setIfInBounds 2 (.ref h)) }) : wpAny (model prog w) A (raiseNew (.ref e) : Sem α) Q E s := by
  have hb : (Value.ref h != Value.ref e) = true := by
    simp [bne, BEq.beq]
    intro q
    cases q
    exact ne rfl
  unfold raiseNew
  refine wpAny_bind (wpAny_handled ?_)
  rw [hh]
  dsimp only
  rw [hb]
  simp only [if_true]
  refine wpAny_bind ?_
  refine wpAny_holding ?_
  refine wpAny_runValue (codeAny_builtin entry_unchain ?_)
  show wpAny _ _ (field (.ref h) 2 >>= _) _ _ s
  refine wpAny_bind (wpAny_field ho hd hw ?_)
  obtain ⟨hp, g, d, tk, os⟩ := s
  repeat (any_goals (first | assumption | wp_step))
  rw [hde]
  dsimp only
  rw [if_pos h3]
  exact wpAny_update he (wpAny_throw k)
end Mine
end

section
namespace Mine
theorem resetHN2 : True := by (k_with_none; w_top off); trivial
section
variable {prog : Program} {w : World} {A : Around} {E : Value → Shared → Prop} {s : Shared} {b : Array UInt8} {t : Tok}
/-- what is handled stands, in no other's wake -/
def Held (h : Heap) (x : Addr) : Prop := ∃ o ws, h.get? x = some o ∧ o.data = .fields ws ∧ ws[2]? = some .none
theorem Held.keeps {h h' : Heap} {x : Addr} (H : Held h x) (k : ∀ o, h.get? x = some o → h'.get? x = some o) : Held h' x := by
  obtain ⟨o, ws, h1, h2, h3⟩ := H
  exact ⟨o, ws, k o h1, h2, h3⟩
/-- a new StopIteration is raised while an exception is handled -/
theorem stop_held {α : Type} {Q : α → Shared → Prop} {H : Heap} {x : Addr} {ot oe : Obj} {we : Array Value} (hh : A.handled = some (.ref x)) (hx : Held H x) (hoc : oe.cls = .type "StopIteration") (hod : oe.data = .fields we) (h3 : 2 < we.size)
    (k : ∀ H', (∀ b o, H.get? b = some o → H'.get? b = some o) → ({ s with heap := H' } : Shared).TypeIs (.ref (H.push ot).objs.size) "StopIteration" → E (.ref (H.push ot).objs.size) { s with heap := H' }) :
    wpAny (model prog w) A (raiseNew (.ref (H.push ot).objs.size) : Sem α) Q E { s with heap := (H.push ot).push oe } := by
  obtain ⟨ox, ws, hox, hdx, hwx⟩ := hx
  have hlt := Heap.lt_size hox
  have hs : (H.push ot).objs.size = H.objs.size + 1 := Heap.size_push _ _
  refine raise_held (h := x) (o := ox) (ws := ws) hh ?_ ?_ hdx hwx (Heap.get?_push_size _ (Obj.isFreed_of_fields hod)) hod h3 ?_
  · intro e
    rw [e, hs] at hlt
    exact absurd hlt (by have := Nat.lt_succ_self H.objs.size; exact Nat.not_lt.mpr (Nat.le_of_lt this))
  · exact Heap.get?_push_of_some _ (Heap.get?_push_of_some _ hox)
  · refine k _ (fun b o e => ?_) ⟨_, Heap.get?_update_self _ (Heap.get?_push_size _ (Obj.isFreed_of_fields hod)) (Obj.isFreed_of_fields (Obj.data_mapFields hod _)), (Obj.cls_mapFields ..).trans hoc⟩
    have hb := Heap.lt_size e
    refine (Heap.get?_update_other _ _ ?_).trans (Heap.get?_push_of_some _ (Heap.get?_push_of_some _ e))
    intro e2
    rw [hs] at e2
    have e3 : b = H.objs.size + 1 := e2.symm
    rw [e3] at hb
    exact absurd hb (Nat.not_lt.mpr (Nat.le_of_lt (Nat.lt_succ_self H.objs.size)))
/-- the end of octets while an exception is handled -/
theorem bytes_end_held {it x : Addr} {i : Nat} {Q : Option Value → Shared → Prop} (hh : A.handled = some (.ref x)) (hx : Held s.heap x) (hxi : x ≠ it) (hit : KBw.IsBytesIter s.heap it b t i) (hb : b[i]? = none)
    (hQ : ∀ h', Heap.ExtBut it s.heap h' → Q none { s with heap := h' }) : wpAny (model prog w) A (pyNext (.ref it)) Q E s := by
  obtain ⟨o, ho, hc, hd⟩ := id hit
  unfold pyNext
  refine wpAny_bind (wpAny_attempt (wpAny_callSpecial?_slot (name := PySem.Str.ofString "__next__") (KBw.iter_typeIs hit) KBw.slot_next
    (wpAny_call_entry KBw.slot_next (KBw.iter_typeIs hit) KBw.entry_next ?_ (KBw.args_next _))))
  show wpAny _ _ (field (.ref it) 0 >>= _) _ _ s
  refine wpAny_bind (wpAny_field ho hd (x := .bytes b t) rfl ?_)
  show wpAny _ _ (if (Value.bytes b t == Value.none) = true then _ else _) _ _ s
  rw [if_neg (show ¬ ((Value.bytes b t == Value.none) = true) from Bool.false_ne_true)]
  show wpAny _ _ (field (.ref it) 1 >>= _) _ _ s
  refine wpAny_bind (wpAny_field ho hd (x := .int i 0) rfl ?_)
  refine wpAny_bind (wpAny_of_eq (a := b) rfl ?_)
  simp only [Int.toNat_natCast, hb]
  refine wpAny_bind (wpAny_rule (wpAny_bind (wpAny_setField ho hd (by simp) ?_)))
  show wpAny _ _ (newExc (.type "StopIteration") [] >>= _) _ _ _
  refine wpAny_bind ?_
  simp only [newExc, newTuple]
  refine wpAny_bind (wpAny_newObj_type ?_ (by size_fits))
  refine wpAny_bind (m := firstArgMember _ _) (wpAny_of_eq (a := Value.none) (by first | rfl | (simp only [firstArgMember]; rfl)) ?_)
  refine wpAny_newObj_type ?_ (by size_fits)
  dsimp only
  refine stop_held (A := A.in1) hh (hx.keeps fun o e => (Heap.get?_update_other _ _ (Ne.symm hxi)).trans e) rfl rfl (by simp [ownMembersOf]) fun H' kp ty => ?_
  refine wpAny_bind (wpAny_isInstance (T := "StopIteration") (b := true) ty isSubtype_stop ?_)
  exact wpAny_pure (hQ _ fun b o hb e => kp b o ((Heap.get?_update_other _ _ (Ne.symm hb)).trans e))
theorem range_end_held {it xh : Addr} {x left step : Int} {Q : Option Value → Shared → Prop} (hh : A.handled = some (.ref xh)) (hx : Held s.heap xh) (hit : IsRangeIter s.heap it x left step) (hleft : left ≤ 0)
    (hQ : ∀ h', Heap.ExtBut it s.heap h' → Q none { s with heap := h' }) : wpAny (model prog w) A (pyNext (.ref it)) Q E s := by
  have hT : s.TypeIs (.ref it) "range_iterator" := ⟨_, hit, rfl⟩
  unfold pyNext
  refine wpAny_bind (wpAny_attempt (wpAny_callSpecial?_slot (name := Str.ofString "__next__") hT F.slot_range_iterator_next
    (wpAny_call_entry F.slot_range_iterator_next hT F.entry_range_iterator_next ?_ (F.args_range_iterator_next_1 _))))
  show wpAny _ _ (field (.ref it) 0 >>= _) _ _ s
  refine wpAny_bind (wpAny_field hit rfl (x := rawInt x) rfl ?_)
  show wpAny _ _ (field (.ref it) 1 >>= _) _ _ s
  refine wpAny_bind (wpAny_field hit rfl (x := rawInt left) rfl ?_)
  show wpAny _ _ (field (.ref it) 2 >>= _) _ _ s
  refine wpAny_bind (wpAny_field hit rfl (x := rawInt step) rfl ?_)
  show wpAny _ _ (if left ≤ 0 then _ else _) _ _ s
  rw [if_pos hleft]
  refine wpAny_bind (wpAny_rule ?_)
  refine wpAny_bind ?_
  show wpAny _ _ (newExc (.type "StopIteration") [] >>= _) _ _ _
  refine wpAny_bind ?_
  simp only [newExc, newTuple]
  refine wpAny_bind (wpAny_newObj_type ?_ (by size_fits))
  refine wpAny_bind (m := firstArgMember _ _) (wpAny_of_eq (a := Value.none) (by first | rfl | (simp only [firstArgMember]; rfl)) ?_)
  refine wpAny_newObj_type ?_ (by size_fits)
  dsimp only
  refine stop_held (A := A.in1) hh hx rfl rfl (by simp [ownMembersOf]) fun H' kp ty => ?_
  refine wpAny_bind (wpAny_isInstance (T := "StopIteration") (b := true) ty isSubtype_stop ?_)
  exact wpAny_pure (hQ _ fun b o hb e => kp b o e)
theorem list_end_held {it l x : Addr} {i : Nat} {items} {Q : Option Value → Shared → Prop} (hh : A.handled = some (.ref x)) (hxh : Held s.heap x) (hxi : x ≠ it)
    (hit : s.heap.IsListIter it l i) (hl : s.heap.IsList l items) (hx : items[i]? = none)
    (hQ : ∀ h', Heap.ExtBut it s.heap h' → Q none { s with heap := h' }) : wpAny (model prog w) A (pyNext (.ref it)) Q E s := by
  obtain ⟨o, ho, hc, hd⟩ := id hit
  obtain ⟨ol, hol, _, nl, hdl⟩ := hl
  unfold pyNext
  refine wpAny_bind (wpAny_attempt (wpAny_callSpecial?_slot (name := Str.ofString "__next__") hit.typeIs slot_listiter_next
    (wpAny_call_entry slot_listiter_next hit.typeIs entry_listiter_next ?_ (args_listiter_next _))))
  show wpAny _ _ (field (.ref it) 0 >>= _) _ _ s
  refine wpAny_bind (wpAny_field ho hd (x := .ref l) rfl ?_)
  show wpAny _ _ (if (Value.ref l == Value.none) = true then _ else _) _ _ s
  rw [if_neg (show ¬ ((Value.ref l == Value.none) = true) from Bool.false_ne_true)]
  show wpAny _ _ (field (.ref it) 1 >>= _) _ _ s
  refine wpAny_bind (wpAny_field ho hd (x := .int i 0) rfl ?_)
  show wpAny _ _ (seqItems? (.ref l) >>= _) _ _ s
  refine wpAny_bind (wpAny_seqItems hol hdl ?_)
  simp only [Int.toNat_natCast, hx]
  refine wpAny_bind (wpAny_rule (wpAny_bind (wpAny_setField ho hd (by simp) ?_)))
  show wpAny _ _ (newExc (.type "StopIteration") [] >>= _) _ _ _
  refine wpAny_bind ?_
  simp only [newExc, newTuple]
  refine wpAny_bind (wpAny_newObj_type ?_ (by size_fits))
  refine wpAny_bind (m := firstArgMember _ _) (wpAny_of_eq (a := Value.none) (by first | rfl | (simp only [firstArgMember]; rfl)) ?_)
  refine wpAny_newObj_type ?_ (by size_fits)
  dsimp only
  refine stop_held (A := A.in1) hh (hxh.keeps fun o e => (Heap.get?_update_other _ _ (Ne.symm hxi)).trans e) rfl rfl (by simp [ownMembersOf]) fun H' kp ty => ?_
  refine wpAny_bind (wpAny_isInstance (T := "StopIteration") (b := true) ty isSubtype_stop ?_)
  exact wpAny_pure (hQ _ fun b o hb e => kp b o ((Heap.get?_update_other _ _ (Ne.symm hb)).trans e))
end
end Mine
end

section
namespace Mine
theorem resetHN3 : True := by (k_with_none; w_top off); trivial
/-- what is handled is in the ledger -/
def HeldN (news : List (Addr × Obj)) (x : Addr) : Prop := ∃ o, (x, o) ∈ news ∧ ∃ ws, o.data = .fields ws ∧ ws[2]? = some .none
theorem HeldN.held {news : List (Addr × Obj)} {x : Addr} {h₀ h : Heap} {L : Addr} (H : HeldN news x) (N : News h₀ L h news) : Held h x := by
  obtain ⟨o, hm, ws, h1, h2⟩ := H
  exact ⟨o, ws, (N _ hm).1, h1, h2⟩
theorem range_walks_held {prog : Program} {w : World} {A : Around} {x : Addr} (hh : A.handled = some (.ref x)) (I : Addr) (a c : Int) (n : Nat) (ne : x ≠ I) :
    Walks prog w A I [I, x] [I] n (fun i v => ∃ t, v = .int (a + i * c) t) (fun i h => IsRangeIter h I (a + (i : Nat) * c) ((n : Int) - (i : Nat)) c ∧ Held h x) where
  sub := fun b hb => by simp at hb; simp [hb]
  frame := fun _ _ _ st hk => ⟨hk I (by simp) _ st.1, st.2.keeps fun o e => hk x (by simp) o e⟩
  item := fun i s Q E hi st hQ => by
    refine wpAny_pyNext_range_item st.1 (by omega) fun h' hit' hs' => ?_
    have kp : ∀ b o, b ∉ [I] → s.heap.get? b = some o → h'.get? b = some o := fun b o hb e => hs'.extBut b o (fun h => hb (by simp [h])) e
    refine hQ _ h' _ ⟨_, rfl⟩ ⟨?_, st.2.keeps fun o e => kp x o (by simpa using ne) e⟩ kp
    have e1 : a + ((i + 1 : Nat) : Int) * c = a + (i : Int) * c + c := by push_cast; rw [Int.add_mul, Int.one_mul, Int.add_assoc]
    have e2 : (n : Int) - ((i + 1 : Nat) : Int) = (n : Int) - (i : Int) - 1 := by push_cast; omega
    rw [e1, e2]; exact hit'
  done := fun s Q E st hQ => range_end_held hh st.2 st.1 (by omega) fun h' he' => hQ h' s.toks fun b o hb e => he' b o (fun h => hb (by simp [h])) e
  self := fun _ _ _ _ st hQ => wpAny_pyIter_rangeiter st.1 hQ
section
variable {prog : Program} {w : World} {A : Around} {E : Value → Shared → Prop} {s : Shared} {h₀ : Heap} {L : Addr} {m : Str → Option Value} {env : Env}
/-- a comprehension's source that is an empty range, while an exception is handled -/
def CompSrcH (prog : Program) (w : World) (A : Around) (h₀ : Heap) (L : Addr) (m : Str → Option Value) (Fin : Shared → List Value → List (Addr × Obj) → Prop) (xv : Value) (s₁ : Shared) : Prop :=
  ∃ r a b c t u v x news, xv = .ref r ∧ A.handled = some (.ref x) ∧ HeldN news x ∧ Fr h₀ L s₁.heap m ∧ News h₀ L s₁.heap news ∧ IsRange s₁.heap r a b c t u v ∧ Builtin.Range.small a b c = true ∧ Builtin.Range.rangeSize a b c = 0 ∧
    ∀ g, Fin { s₁ with heap := g } [] news
theorem ListComp_H {elt iter : PySem.Expr} {x : Str} {px : Pos} {scope : Scope} {cl : List (Str × Addr)} {pos : Pos} {Q : Value → Shared → Prop} (F₀ : Fr h₀ L s.heap m)
    (hclos : closureFor scope env = pure cl) (hcell : ∀ y ∈ scope.names, y.2 ≠ .cell) (hkind : scope.kind = .function)
    (hnames : ∀ y ∈ scope.names, y.2 = .local → scope.names.lookup y.1 = some .local) (hx : scope.names.lookup x = some .local)
    (h : wpAny (model prog w) A (eval iter env) (CompSrcH prog w A h₀ L m (fun s₂ => LCg.FinE h₀ L m s₂ Q)) E s)
    (hs : ∀ x, foldedSetIterable iter env x = pure x := by intro _; rfl) :
    wpAny (model prog w) A (eval (.ListComp elt [⟨.Name x px, iter, [], 0⟩] scope pos) env) Q E s := by
  rw [eval_ListComp]
  refine wpAny_comprehension_free (use := none) rfl hs hclos hkind hnames (wpAny_mono h (fun xv s₁ h₁ => ?_) fun _ _ e => e)
  obtain ⟨r, a, b, c, t, u, v, xh, news, rfl, hh, hx9, F, N, hr, hsm, hn, R⟩ := h₁
  have hxs : xh < s₁.heap.objs.size := by
    obtain ⟨o, hm, _⟩ := hx9
    exact Heap.lt_size (N _ hm).1
  refine wpAny_pyIter_range hr hsm ?_
  refine LCg.block_U (W := range_walks_held hh s₁.heap.objs.size a c 0 (Nat.ne_of_lt hxs)) (S := fun nw => HeldN nw xh) (Nat.zero_le _) (fun i h st => ⟨_, st.1⟩) ?st hcell hkind hx ⟨?_, ?_⟩ (fun b hb => ?_)
    (F.keeps fun _ _ e => Heap.get?_push_of_some _ e) (N.grown fun _ _ e => Heap.get?_push_of_some _ e) (Nat.ne_of_lt F.ns.lt) (next_is_new F) (fun p hp => Nat.ne_of_lt (Heap.lt_size (N p hp).1)) hx9 (LCg.CompRest.zero (R (s₁.heap.push { cls := .type "range_iterator", data := .fields #[rawInt a, rawInt (Builtin.Range.rangeSize a b c), rawInt c] }))) ?_
  case st =>
    intro i h h' o nw st e e' _ Nn Sn
    refine ⟨?_, Sn.held Nn⟩
    have st' : h.get? s₁.heap.objs.size = some _ := st.1
    show h'.get? s₁.heap.objs.size = some _
    rw [e', ← e]
    exact st'
  · show IsRangeIter _ _ _ _ _
    rw [hn]
    simpa using Heap.get?_push_size _ rfl
  · exact (hx9.held N).keeps fun o e => Heap.get?_push_of_some _ e
  · rcases List.mem_cons.mp hb with rfl | hb
    · show s₁.heap.objs.size < (s₁.heap.push _).objs.size
      rw [Heap.size_push]
      exact Nat.lt_succ_self _
    · rw [List.mem_singleton.mp hb]
      show xh < (s₁.heap.push _).objs.size
      rw [Heap.size_push]
      exact Nat.lt_succ_of_lt hxs
  · intro D C h tk m' ys news' F' N' o1 hn hC₀ hD₀ hCL hDL hCD offC fin
    refine ⟨m', hn, fun h'' hs'' => fin D h'' tk (F'.change hs'' hCL hC₀) (fun p hp => ?_) o1⟩
    refine ⟨hs''.extBut _ _ ?_ (N' p hp).1, (N' p hp).2⟩
    rcases List.mem_cons.mp hp with rfl | hp
    · exact Ne.symm hCD
    · exact offC p hp
theorem bm_new_held {l x : Addr} {Q : Value → Shared → Prop} (hh : A.handled = some (.ref x)) (hxh : Held s.heap x) (hl : s.heap.IsList l #[])
    (hQ : ∀ h' t k, (∀ b o, s.heap.get? b = some o → h'.get? b = some o) → Q (.bytes #[] t) { s with heap := h', toks := k }) :
    codeAny (model prog w) A (.call (.builtin "bytes.__new__") ⟨[.type "bytes", .ref l], []⟩) (wants Q E) s := by
  refine codeAny_of_tree ?_
  show wpAny _ A.in1 (do checkBuiltinCall "bytes.__new__" ⟨[.type "bytes", .ref l], []⟩; again (.builtin "bytes.__new__" ⟨[.type "bytes", .ref l], []⟩)) _ _ s
  refine wpAny_bind (wpAny_of_eq (F.bm_newCall _) (wpAny_pure ⟨plainId_quiet F.bm_plain _, codeAny_builtin F.bm_entry ?_⟩))
  rw [Around.under_plainId F.bm_plain _]
  have hT : s.TypeIs (.ref l) "list" := hl.typeIs
  obtain ⟨ol, hol, hoc, nl, hod⟩ := id hl
  unfold Builtin.«bytes.__new__»
  refine wpAny_bind (wpAny_of_eq (a := true) rfl ?_)
  refine bm_if_false rfl ?_
  refine wpAny_bind (wpAny_of_eq F.bm_sub ?_)
  refine bm_if_false rfl ?_
  refine wpAny_bind (wpAny_of_eq (F.bm_bind _) ?_)
  refine wpAny_bind (wpAny_of_eq (a := ()) rfl ?_)
  refine wpAny_bind (wpAny_of_eq (a := ()) rfl ?_)
  refine bm_if_false rfl ?_
  refine wpAny_bind (wpAny_specialOf hT F.bm_no_bytes ?_)
  refine wpAny_bind (wpAny_bind ?_)
  show wpAny _ _ (load l >>= _) _ _ _
  refine wpAny_bind (wpAny_load hol ?_)
  rw [hod]
  refine wpAny_pure (wpAny_pure ?_)
  refine bm_if_false rfl ?_
  refine wpAny_bind (wpAny_specialOf hT F.bm_no_index ?_)
  refine bm_if_true rfl ?_
  first
    | show wpAny _ _ (Builtin.Bytes.buffer? "bytes.__new__" (.ref l) true >>= _) _ _ _
    | (refine wpAny_bind ?_; show wpAny _ _ (Builtin.Bytes.buffer? "bytes.__new__" (.ref l) true >>= _) _ _ _)
  refine wpAny_bind ?_
  unfold Builtin.Bytes.buffer?
  refine wpAny_bind (wpAny_specialOf hT F.bm_no_buffer ?_)
  refine wpAny_bind (wpAny_specialOf hT F.bm_no_buffer ?_)
  refine wpAny_pure ?_
  refine wpAny_bind (wpAny_tryCatch (wpAny_pyIter_list hl ?_))
  have hl₁ : (s.heap.push { cls := .type "list_iterator", data := .fields #[.ref l, .int 0 0] }).IsList l #[] := hl.push _
  have hT₁ : ({ s with heap := s.heap.push { cls := .type "list_iterator", data := .fields #[.ref l, .int 0 0] } } : Shared).TypeIs (.ref l) "list" := Heap.IsList.typeIs (s := { s with heap := s.heap.push { cls := .type "list_iterator", data := .fields #[.ref l, .int 0 0] } }) hl₁
  refine wpAny_bind (wpAny_holding ?_)
  unfold Builtin.Bytes.lengthHint
  refine wpAny_bind (wpAny_specialOf hT₁ slot_list_len.lookup ?_)
  dsimp only
  rw [F.bm_split]
  dsimp only
  refine wpAny_bind (wpAny_isInstance hT₁ F.bm_sub_list ?_)
  refine bm_if_false rfl ?_
  refine bm_if_true (by decide +kernel) ?_
  refine wpAny_pure ?_
  refine wpAny_bind ?_
  unfold Builtin.Bytes.newBytearray
  refine wpAny_newObj_type ?_ (Nat.zero_le _)
  have hI : ((s.heap.push { cls := .type "list_iterator", data := .fields #[.ref l, .int 0 0] }).push { cls := .type "bytearray", data := .bytearray #[] }).IsListIter s.heap.objs.size l 0 :=
    ⟨_, Heap.get?_push_of_some _ (Heap.get?_push_size _ rfl), rfl, rfl⟩
  have hlt : l < s.heap.objs.size := Heap.lt_size hol
  have hsz : (s.heap.push { cls := .type "list_iterator", data := .fields #[.ref l, .int 0 0] }).objs.size = s.heap.objs.size + 1 := Heap.size_push _ _
  have hxs : x < s.heap.objs.size := by obtain ⟨ox, _, hox, _⟩ := hxh; exact Heap.lt_size hox
  have main : codeAny (model prog w) A (.builtin "bytes.__new__.loop" ⟨[.type "bytes", .ref s.heap.objs.size, .ref (s.heap.push { cls := .type "list_iterator", data := .fields #[.ref l, .int 0 0] }).objs.size], []⟩) (wants Q E) { s with heap := (s.heap.push { cls := .type "list_iterator", data := .fields #[.ref l, .int 0 0] }).push { cls := .type "bytearray", data := .bytearray #[] } } := by
    refine codeAny_builtin F.bm_entry_loop ?_
    rw [Around.under_plainId F.bm_plain_loop _]
    show wpAny _ A.in1 (pyNext (.ref _) >>= _) _ _ _
    refine wpAny_bind (list_end_held (x := x) hh (hxh.keeps fun o e => Heap.get?_push_of_some _ (Heap.get?_push_of_some _ e)) (Nat.ne_of_lt hxs) hI (hl₁.push _) (by simp) fun h' he => ?_)
    have hS' : h'.get? (s.heap.push { cls := .type "list_iterator", data := .fields #[.ref l, .int 0 0] }).objs.size = some { cls := .type "bytearray", data := .bytearray #[] } := he _ _ (by rw [hsz]; exact Nat.ne_of_gt (Nat.lt_succ_self _)) (Heap.get?_push_size _ rfl)
    have kp : ∀ b o, s.heap.get? b = some o → h'.get? b = some o := fun b o e => he b o (Nat.ne_of_lt (Heap.lt_size e)) (Heap.get?_push_of_some _ (Heap.get?_push_of_some _ e))
    refine wpAny_bind ?_
    unfold Builtin.Bytes.payload Builtin.Bytes.payload?
    refine wpAny_bind (wpAny_bind (wpAny_load hS' ?_))
    refine wpAny_pure (wpAny_pure ?_)
    refine wpAny_bind (wpAny_mkBytes ?_ (Nat.zero_le _))
    show wpAny _ _ (if (Value.type "bytes" == Value.type "bytes") = true then _ else _) _ _ _
    refine bm_if_true (by decide) ?_
    first
      | exact wpAny_pure (hQ h' _ _ kp)
      | exact wpAny_bind (wpAny_pure (wpAny_pure (hQ h' _ _ kp)))
  first
    | exact wpAny_pure ⟨plainId_quiet F.bm_plain_loop _, main⟩
    | exact wpAny_pure (wpAny_pure ⟨plainId_quiet F.bm_plain_loop _, main⟩)
theorem bytes_of_none {l x : Addr} {news : List (Addr × Obj)} {n : Nat} {Q : Value → Shared → Prop} (hh : A.handled = some (.ref x)) (hxh : HeldN news x) (F9 : Fr h₀ L s.heap m) (N : News h₀ L s.heap news) (hl : (l, PySem.W.listOf #[] n) ∈ news)
    (h : ∀ h' t k, Fr h₀ L h' m → News h₀ L h' news → Q (.bytes #[] t) { s with heap := h', toks := k }) : wpAny (model prog w) A (call (.type "bytes") [.ref l]) Q E s := by
  refine callType_codes (Q₁ := fun obj s₁ => s₁.TypeIs obj "bytes" ∧ Q obj s₁) F.bm_called (F.bm_typeCall _) F.entry_object_init
    (bm_new_held hh (hxh.held N) ⟨_, (N _ hl).1, rfl, _, rfl⟩ fun h' t k hk => ⟨PySem.W.typeIs_bytes _ _ _, h h' t k (F9.keeps hk) (N.grown hk)⟩) fun obj s₁ h₁ => ?_
  exact ⟨h₁.1, F.args_object_init_2 obj _, object_init_meets F.bm_called.init.lookup F.bm_called.made (by decide) prog w A.in1 _ s₁ ⟨h₁.1, rfl, h₁.2⟩⟩
end
end Mine
end

section
namespace Mine
theorem resetHN4 : True := by (k_with_none; w_top off); trivial
theorem bytes_walks_held {prog : Program} {w : World} {A : Around} {x : Addr} (hh : A.handled = some (.ref x)) (I : Addr) (b : Array UInt8) (t : Tok) (ne : x ≠ I) :
    Walks prog w A I [I, x] [I] b.size (fun i v => ∃ c u, b[i]? = some c ∧ v = .int (c.toNat : Int) u) (fun i h => KBw.IsBytesIter h I b t i ∧ Held h x) where
  sub := fun b hb => by simp at hb; simp [hb]
  frame := fun _ _ _ st hk => ⟨let ⟨o, ho, r⟩ := st.1; ⟨o, hk I (by simp) o ho, r⟩, st.2.keeps fun o e => hk x (by simp) o e⟩
  item := fun i s Q E hi st hQ => by
    refine KBw.next_item st.1 (c := b[i]) (by simp [hi]) fun h' hit' hs' => ?_
    have kp : ∀ b o, b ∉ [I] → s.heap.get? b = some o → h'.get? b = some o := fun b o hb e => hs'.extBut b o (fun h => hb (by simp [h])) e
    exact hQ _ h' (s.toks + 1) ⟨_, _, by simp [hi], rfl⟩ ⟨hit', st.2.keeps fun o e => kp x o (by simpa using ne) e⟩ kp
  done := fun s Q E st hQ => bytes_end_held hh st.2 ne st.1 (by simp) fun h' he' => hQ h' s.toks fun b o hb e => he' b o (fun h => hb (by simp [h])) e
  self := fun _ _ _ _ st hQ => KBw.pyIter_self st.1 hQ
section
variable {prog : Program} {w : World} {A : Around} {E : Value → Shared → Prop} {s : Shared} {b : Array UInt8} {t : Tok}
theorem fill_bytes_held {R : Result → Shared → Prop} {x : Addr} (hh : A.handled = some (.ref x)) (hxh : Held s.heap x) (S : Addr) (hxS : x ≠ S) (res : Value) (c₀ : Nat) (hS : s.heap.get? S = some { cls := .type "list", data := .seq #[] c₀ }) (hn : b.size ≤ sizeLine)
    (hR : ∀ h' tk acc' c', (∀ d o, d ≠ S → s.heap.get? d = some o → h'.get? d = some o) → h'.get? S = some { cls := .type "list", dict := none, data := .seq acc' c', slots := #[] } →
      ItemsOf (OctAt b) acc' b.size → R (.ok (.ret res)) { s with heap := h', toks := tk }) :
    wpAny (model prog w) A.in1 (Builtin.List.listExtendWith (.ref S) (.bytes b t) res)
      (fun fin s' => match fin with | .done f => R (.ok f) s' | .again c' => c'.quiet = true ∧ codeAny (model prog w) A c' R s') (fun e s' => R (.error e) s') s := by
  have ne : S ≠ s.heap.objs.size := Nat.ne_of_lt (Heap.lt_size hS)
  have hxs : x ≠ s.heap.objs.size := by obtain ⟨ox, _, hox, _⟩ := hxh; exact Nat.ne_of_lt (Heap.lt_size hox)
  have nf : S ∉ [s.heap.objs.size, x] := fun hm => by
    rcases List.mem_cons.mp hm with e | hm
    · exact ne e
    · exact hxS (List.mem_singleton.mp hm).symm
  unfold Builtin.List.listExtendWith
  refine wpAny_bind (wpAny_typeOf (T := "bytes") (v := .bytes b t) (typeIs_bytes s b t) ?_)
  have e1 : Builtin.List.listSameRef (.ref S) (.bytes b t) = false := rfl
  have e2 : (Value.type "bytes" == Value.type "list") = false := by decide
  have e3 : (Value.type "bytes" == Value.type "tuple") = false := by decide
  simp only [e1, e2, e3, Bool.or_false, Bool.false_eq_true, if_false]
  refine wpAny_bind (KBw.pyIter_bytes (wpAny_bind (wpAny_holding (hint_bytes ?_))))
  rw [if_neg (by decide)]
  refine wpAny_pure ⟨plainId_quiet F.plain_extend_loop _, codeAny_extend_loopS (bytes_walks_held (A := A.in1) hh s.heap.objs.size b t hxs).toS hn _ nf _ b.size 0 _ _ _ rfl (Nat.zero_le _) ⟨⟨_, Heap.get?_push_size _ rfl, rfl, rfl⟩, hxh.keeps fun o e => Heap.get?_push_of_some _ e⟩ (Heap.get?_push_of_some _ hS) (ItemsOf.nil _) fun s' acc' c' hm hS' hacc => ?_⟩
  rw [Moved.eq_with hm]
  refine hR s'.heap s'.toks acc' c' (fun d o hd e => hm.heap d o (fun hm' => ?_) (Heap.get?_push_of_some _ e)) hS' hacc
  rcases List.mem_cons.mp hm' with e' | hm'
  · exact hd e'
  · have := Heap.lt_size e
    rw [List.mem_singleton.mp hm'] at this
    exact Nat.lt_irrefl _ this
theorem init_bytes_held {R : Result → Shared → Prop} {x : Addr} (hh : A.handled = some (.ref x)) (hxh : Held s.heap x) (S : Addr) (hxS : x ≠ S) (hS : s.heap.get? S = some { cls := .type "list", data := .seq #[] }) (hn : b.size ≤ sizeLine)
    (hR : ∀ h' tk acc' c', (∀ d o, d ≠ S → s.heap.get? d = some o → h'.get? d = some o) → h'.get? S = some { cls := .type "list", dict := none, data := .seq acc' c', slots := #[] } →
      ItemsOf (OctAt b) acc' b.size → R (.ok (.ret .none)) { s with heap := h', toks := tk }) :
    wpAny (model prog w) A.in1 (Builtin.«list.__init__» ⟨[.ref S, .bytes b t], []⟩)
      (fun fin s' => match fin with | .done f => R (.ok f) s' | .again c' => c'.quiet = true ∧ codeAny (model prog w) A c' R s') (fun e s' => R (.error e) s') s := by
  show wpAny _ _ (do let old ← Builtin.List.listItems (.ref S); Builtin.List.listUpdate (.ref S) (fun _ => #[]); letGo old.toList.reverse; Builtin.List.listExtendWith (.ref S) (.bytes b t) .none) _ _ s
  refine wpAny_bind ?_
  unfold Builtin.List.listItems
  refine wpAny_bind (wpAny_seqItems hS rfl (wpAny_pure (wpAny_bind ?_)))
  show wpAny _ _ (updateSeq S (fun _ => #[])) _ _ s
  refine wpAny_updateSeq hS rfl (wpAny_bind (wpAny_letGo ?_))
  have oth : ∀ d o, d ≠ S → s.heap.get? d = some o → (s.heap.update S (Obj.mapSeq (fun _ => (#[] : Array Value)))).get? d = some o :=
    fun d o hd e => (Heap.get?_update_other _ _ (Ne.symm hd)).trans e
  exact fill_bytes_held hh (hxh.keeps fun o e => oth x o hxS e) S hxS .none _ (Heap.get?_update_self (Obj.mapSeq (fun _ => (#[] : Array Value))) hS rfl) hn fun h' tk acc' c' hk hS' hacc =>
    hR h' tk acc' c' (fun d o hd e => hk d o hd (oth d o hd e)) hS' hacc
theorem list_of_none {h₀ : Heap} {L x : Addr} {m : Str → Option Value} {news : List (Addr × Obj)} {Q : Value → Shared → Prop} (hh : A.handled = some (.ref x)) (hxh : HeldN news x) (F₀ : Fr h₀ L s.heap m) (N : News h₀ L s.heap news)
    (h : ∀ (l : Addr) (nl : Nat) (h' : Heap) (tk : Nat), LCg.Off1 l news → Fr h₀ L h' m → News h₀ L h' ((l, PySem.W.listOf #[] nl) :: news) → Q (.ref l) { s with heap := h', toks := tk }) :
    wpAny (model prog w) A (call (.type "list") [.bytes #[] t]) Q E s := by
  have hxs : x < s.heap.objs.size := by obtain ⟨ox, hm, _⟩ := hxh; exact Heap.lt_size (N _ hm).1
  refine callType_codes (Q₁ := fun obj s₁ => obj = .ref s.heap.objs.size ∧ s₁ = { s with heap := s.heap.push { cls := .type "list", data := .seq #[] } }) F.called_list (F.typeCall_list_1 _) F.entry_list_init
    (code_list_new _ ⟨rfl, rfl⟩) fun obj s₁ h₁ => ?_
  obtain ⟨rfl, rfl⟩ := h₁
  have hS : (s.heap.push { cls := .type "list", data := .seq #[] }).get? s.heap.objs.size = some { cls := .type "list", data := .seq #[] } := Heap.get?_push_size _ rfl
  refine ⟨⟨_, hS, rfl⟩, F.args_list_init_2 _ _, init_bytes_held (A := A.in1) (b := #[]) (x := x) hh ((hxh.held N).keeps fun o e => Heap.get?_push_of_some _ e) _ (Nat.ne_of_lt hxs) hS (Nat.zero_le _) fun h' tk acc' c' hk' hS' hacc => ⟨rfl, ?_⟩⟩
  have kp : ∀ d o, s.heap.get? d = some o → h'.get? d = some o := fun d o e => hk' d o (Nat.ne_of_lt (Heap.lt_size e)) (Heap.get?_push_of_some _ e)
  have e0 : acc' = #[] := by
    have := hacc.1
    exact Array.eq_empty_of_size_eq_zero this
  subst e0
  refine h s.heap.objs.size c' h' tk (off1_of fun q hq e => ?_) (F₀.keeps kp) fun q hq => ?_
  · have := Heap.lt_size (N q hq).1
    rw [e] at this
    exact Nat.lt_irrefl _ this
  · rcases List.mem_cons.mp hq with rfl | hq
    · refine ⟨by simpa using hS', Nat.ne_of_gt F₀.ns.lt, ?_⟩
      cases e : h₀.get? s.heap.objs.size with
      | none => rfl
      | some o => exact absurd (Heap.lt_size (F₀.keep _ _ e)) (Nat.lt_irrefl _)
    · exact ⟨kp _ _ (N q hq).1, (N q hq).2⟩
end
end Mine
end

section
namespace Mine
/-- the frame of a suite that handles -/
abbrev heldTop (hv : Option Value) (dp un : Nat) (gd : Option (List Code)) (cn : Str) (cs : Scope) (L a : Addr) (ccd : Value) (cl : List (Str × Addr)) (outer : List Env) : Around := { handled := hv, depth := dp, frames := some (envX cn cs L a ccd cl :: outer), guards := gd, units := un }
section
variable {prog p : Program} {w : World} {loose : List Str} {mean : ExcName → Option Value} {mg mb : Str → Option Value} {hv : Option Value} {dp un : Nat} {gd : Option (List Code)} {cn : Str} {cs : Scope} {a : Addr} {ccd : Value} {outer : List Env} {A₀ : Around} {base h₀ : Heap} {L : Addr} {m : Str → Option Value} {s : Shared} {Q E : Value → Shared → Prop} {cl : List (Str × Addr)}
    {news small : List (Addr × Obj)} {name qual : Str} {params : Arguments} {body : List Stmt} {scope : Scope} {dV kV doc pm cdv ct oc : Value} {an od : Option Addr} {osl : Array (Option Value)} {f : Addr} {args : List Value} {binds : List (Str × Value)}
theorem enterH (S : Site w p loose mean mg mb cs outer A₀ base h₀ L m news s.heap) (hsub : ∀ q ∈ small, q ∈ news)
    (ho : (hd0.heap_1 w.params).lookup f = some ⟨oc, od, .func (fnOf name qual params body scope dV kV doc pm an cdv ct), osl⟩) (hcd : codeIn (hd0.heap_1 w.params) cdv qual = true) (hroom : dp < recursionLimit)
    (hbind : BindsTo s (fnOf name qual params body scope dV kV doc pm an cdv ct) ⟨args, []⟩ binds)
    (hkind : (binds.all fun y => scope.names.lookup y.1 == some .local || scope.names.lookup y.1 == some .cell) = true)
    (hnd : ((cellsFrom 0 scope.names []).map (·.1)).Nodup)
    (h : ∀ g L' h₁ tk cells, Fr g L' h₁ (bindL (envOfC qual scope L' f cdv).kindOf binds fun _ => none) → News g L' h₁ (cells ++ small) →
      CellsAre (bindC (envOfC qual scope L' f cdv).kindOf binds fun _ => none) (cellsFrom (L' + 1) scope.names []) cells →
      Below (heldTop hv dp un gd cn cs L a ccd cl outer) base (envX cn cs L a ccd cl :: outer) g → (hd0.heap_1 w.params).In g → Top p loose mean mg mb g → (∀ q ∈ small, q.1 < L') → (∀ q ∈ news, (∀ x ∈ small, q.1 ≠ x.1) → g.get? q.1 = some q.2) →
      wpAny (model prog w) ((heldTop hv dp un gd cn cs L a ccd cl outer).deeper (envOfC qual scope L' f cdv)) (execs body (envOfC qual scope L' f cdv))
        (fun fl s' => LeaveE g (fun small' => ∃ news', (∀ q ∈ news', q ∈ small' ∨ (q ∈ news ∧ ∀ x ∈ small, q.1 ≠ x.1)) ∧ (Fr h₀ L s'.heap m → News h₀ L s'.heap news' → Q (match fl with | .ret v => v | _ => .none) s')) s')
        (fun _ _ => False)
        { s with heap := h₁, toks := tk })
    (hco : scope.isCoroutine = false) (hgen : scope.isGenerator = false) (hkf : scope.kind = .function) :
    wpAny (model prog w) (heldTop hv dp un gd cn cs L a ccd cl outer) (call (.ref f) args) Q E s := by
  obtain ⟨B, F, X₀, N, T, hk⟩ := S
  refine wpAny_call ?_
  have Ns : News h₀ L s.heap small := fun q hq => N q (hsub q hq)
  obtain ⟨FG, BG, st, _⟩ := groundX (R := fun _ _ => True) (A := heldTop hv dp un gd cn cs L a ccd cl outer) (env := envX cn cs L a ccd cl) B F Ns rfl rfl hk
  have X := X₀.keeps F.keep
  refine codeAny_call_function hroom (X _ _ ho) rfl hco hgen rfl (codeRec_of X hcd) (hbind _ _ _ _ ?_)
  refine wpAny_newFunctionEnv_cells hkf (kindsX hkind _) fun env' he s' x => ?_
  subst he
  refine ⟨(T.nolimit.keeps F.keep).keeps x.toInCall.keep, codeAny_func ?_⟩
  obtain ⟨h₁, tk, rfl, _⟩ := x.done
  have hk₁ := x.toInCall.keep
  obtain ⟨cells, NC, Y⟩ := Cl.news (h₀ := s.heap) (Nat.le_refl _) fun n c hm => ⟨x.cell n c (lookup_of_mem_nodup (cellsFrom_names scope.names 0 (s.heap.objs.size + 1) [] [] rfl ▸ hnd) hm), x.above n c hm⟩
  refine wpAny_mono (h _ s.heap.objs.size h₁ tk cells ⟨x.toInCall.ns, fun b o e => hk₁ b o (of_hideAll _ e), Nat.le_of_eq (hideAll_size _ _)⟩ (fun q hq => ?_) Y BG (X₀.keeps st) (T.keeps st) (fun q hq => Heap.lt_size (Ns q hq).1) (fun q hq hx => hideAll_get _ (N q hq).1 fun z => by obtain ⟨x, hx1, hx2⟩ := List.mem_map.mp z; exact hx x hx1 hx2.symm)) (fun fl s' hl => ?_) fun _ _ y => y.elim
  · rcases List.mem_append.mp hq with hq | hq
    · refine ⟨(NC q hq).1, (NC q hq).2.1, ?_⟩
      cases z : (hideAll s.heap (small.map (·.1))).get? q.1 with
      | none => rfl
      | some o =>
        have := of_hideAll _ z
        rw [(NC q hq).2.2] at this
        cases this
    · exact ⟨hk₁ _ _ (Ns q hq).1, Nat.ne_of_lt (Heap.lt_size (Ns q hq).1), hideAll_none _ (List.mem_map_of_mem hq)⟩
  obtain ⟨L', m', small', F', N', news', hn, k⟩ := hl
  obtain ⟨oL, es, ep, hLg, hLd, hLk, hLf⟩ := FG.ns
  refine k ⟨⟨oL, es, ep, F'.keep L oL hLg, hLd, hLk, hLf⟩, fun b o e => F'.keep b o (st b o e), F.above⟩ fun q hq => ?_
  rcases hn q hq with hq | ⟨hq, hx⟩
  · refine ⟨(N' q hq).1, fun z => ?_, ?_⟩
    · have := (N' q hq).2.2
      rw [z, hLg] at this
      cases this
    · cases z : h₀.get? q.1 with
      | none => rfl
      | some o =>
        have := (N' q hq).2.2
        rw [st _ _ z] at this
        cases this
  · refine ⟨F'.keep _ _ (hideAll_get _ (N q hq).1 fun z => ?_), (N q hq).2⟩
    obtain ⟨x, hx1, hx2⟩ := List.mem_map.mp z
    exact hx x hx1 hx2.symm
theorem wordsW20 : True := by
  k_with_none
  w_top off
  k_with "a9" => (with_reducible assumption)
  k_with "c9" => (repeat (with_reducible rename _ ∧ _ => hA9; clear hA9)); (repeat (with_reducible rename _ ≠ _ => hA9; clear hA9))
  k_with "u9" => ((with_reducible rename News _ _ _ _ => N9); dsimp +zetaDelta only at N9)
  k_with "p0" => (refine offAt (by fail "a9") 0 ?_; exact rfl)
  k_with "p1" => (refine offAt (by fail "a9") 1 ?_; exact rfl)
  k_with "p2" => (refine offAt (by fail "a9") 2 ?_; exact rfl)
  k_with "p3" => (refine offAt (by fail "a9") 3 ?_; exact rfl)
  k_with "p4" => (refine offAt (by fail "a9") 4 ?_; exact rfl)
  k_with "p5" => (refine offAt (by fail "a9") 5 ?_; exact rfl)
  k_with "p6" => (refine offAt (by fail "a9") 6 ?_; exact rfl)
  k_with "p7" => (refine offAt (by fail "a9") 7 ?_; exact rfl)
  k_with "p8" => (refine offAt (by fail "a9") 8 ?_; exact rfl)
  k_with "p9" => (refine offAt (by fail "a9") 9 ?_; exact rfl)
  k_with "p10" => (refine offAt (by fail "a9") 10 ?_; exact rfl)
  k_with "p11" => (refine offAt (by fail "a9") 11 ?_; exact rfl)
  k_with "p12" => (refine offAt (by fail "a9") 12 ?_; exact rfl)
  k_with "p13" => (refine offAt (by fail "a9") 13 ?_; exact rfl)
  k_with "p14" => (refine ltAt (by fail "a9") 0 ?_; exact rfl)
  k_with "p15" => (refine ltAt (by fail "a9") 1 ?_; exact rfl)
  k_with "p16" => (refine ltAt (by fail "a9") 2 ?_; exact rfl)
  k_with "p17" => (refine ltAt (by fail "a9") 3 ?_; exact rfl)
  k_with "p18" => (refine ltAt (by fail "a9") 4 ?_; exact rfl)
  k_with "p19" => (refine ltAt (by fail "a9") 5 ?_; exact rfl)
  k_with "p20" => (refine ltAt (by fail "a9") 6 ?_; exact rfl)
  k_with "p21" => (refine ltAt (by fail "a9") 7 ?_; exact rfl)
  k_with "p22" => (refine ltAt (by fail "a9") 8 ?_; exact rfl)
  k_with "p23" => (refine ltAt (by fail "a9") 9 ?_; exact rfl)
  k_with "p24" => (refine ltAt (by fail "a9") 10 ?_; exact rfl)
  k_with "p25" => (refine ltAt (by fail "a9") 11 ?_; exact rfl)
  k_with "p26" => (refine ltAt (by fail "a9") 12 ?_; exact rfl)
  k_with "p27" => (refine ltAt (by fail "a9") 13 ?_; exact rfl)
  k_with "r9" => (fail "w1")
  k_with "w1" => (first | fail "a9" | exact Nat.le_of_lt (by fail "a9"))
  k_with "offs9" => (first | fail "p0" | fail "p1" | fail "p2" | fail "p3" | fail "p4" | fail "p5" | fail "p6" | fail "p7" | fail "p8" | fail "p9" | fail "p10" | fail "p11" | fail "p12" | fail "p13" | fail "p14" | fail "p15" | fail "p16" | fail "p17" | fail "p18" | fail "p19" | fail "p20" | fail "p21" | fail "p22" | fail "p23" | fail "p24" | fail "p25" | fail "p26" | fail "p27")
  k_with "mem9" => (fail "w2")
  k_with "w2" => (first | exact List.Mem.head _ | exact List.Mem.tail _ (List.Mem.head _) | (refine memAt 0 ?_; exact rfl) | (refine memAt 1 ?_; exact rfl) | (refine memAt 2 ?_; exact rfl) | (refine memAt 3 ?_; exact rfl) | (refine memAt 4 ?_; exact rfl) | (refine memAt 5 ?_; exact rfl) | (refine memAt 6 ?_; exact rfl) | (refine memAt 7 ?_; exact rfl) | (refine memAt 8 ?_; exact rfl) | (refine memAt 9 ?_; exact rfl) | (refine memAt 10 ?_; exact rfl) | (refine memAt 11 ?_; exact rfl) | (refine memAt 12 ?_; exact rfl) | (refine memAt 13 ?_; exact rfl) | (refine memAt 14 ?_; exact rfl) | (refine memAt 15 ?_; exact rfl) | (refine memAt 16 ?_; exact rfl) | (refine memAt 17 ?_; exact rfl))
  k_with "lts9" => (fail "w3")
  k_with "w3" => (first | (refine ltB (by fail "a9") 0 ?_; exact rfl) | (refine ltB (by fail "a9") 1 ?_; exact rfl) | (refine ltB (by fail "a9") 2 ?_; exact rfl) | (refine ltB (by fail "a9") 3 ?_; exact rfl) | (refine ltB (by fail "a9") 4 ?_; exact rfl) | (refine ltB (by fail "a9") 5 ?_; exact rfl) | (refine ltB (by fail "a9") 6 ?_; exact rfl) | (refine ltB (by fail "a9") 7 ?_; exact rfl) | (refine ltB (by fail "a9") 8 ?_; exact rfl) | (refine ltB (by fail "a9") 9 ?_; exact rfl) | (refine ltB (by fail "a9") 10 ?_; exact rfl) | (refine ltB (by fail "a9") 11 ?_; exact rfl) | (refine ltB (by fail "a9") 12 ?_; exact rfl) | (refine ltB (by fail "a9") 13 ?_; exact rfl))
  k_with "rooms9" => (fail "w4")
  k_with "w4" => (first | (refine rl2 (by fail "r9") ?_; exact rfl) | (refine rl1 (by fail "r9") ?_; exact rfl) | (refine rl3 (by fail "r9") ?_; exact rfl) | (refine rl0 (by fail "r9") ?_; exact rfl) | (refine rl4 (by fail "r9") ?_; exact rfl) | (refine rm2 (by fail "r9") ?_; exact rfl) | (refine rm1 (by fail "r9") ?_; exact rfl) | (refine rm3 (by fail "r9") ?_; exact rfl) | (refine rm0 (by fail "r9") ?_; exact rfl) | (refine rm4 (by fail "r9") ?_; exact rfl))
  k_with "k_ne" => (fail "w5")
  k_with "w5" => (refine neN ?_; (try dsimp only); first | fail "a9" | (refine Ne.symm ?_; fail "a9") | exact Nat.ne_of_lt (by fail "a9") | exact Nat.ne_of_gt (by fail "a9") | k_extra "offs9" | (refine Ne.symm ?_; first | k_extra "offs9") | ((try simp only [LCg.Off1, and_true] at *); omega))
  k_with "k_mem" => (fail "w6")
  k_with "w6" => (first | fail "a9" | k_extra "mem9")
  k_with "k_memK" => (first | k_extra "mem9")
  k_with "is_list" => (fail "w7")
  k_with "w7" => (exact News.isList (by fail "a9") (by k_mem))
  k_with "ktr_room" => (fail "w8")
  k_with "w8" => ((try dsimp only [depth_under_make, depth_under_kw, depth_in1, depth_deeper, depth_caller]); (try dsimp only [ktrTop]); first | decide | k_extra "rooms9")
  k_with "units_room" => (fail "w9")
  k_with "w9" => ((try dsimp only [units_in1, units_deeper, Around.mark_units, units_caller]); (try dsimp only [ktrTop]); first | decide | k_extra "rooms9")
  k_with "l_idx" => ((k_extra "c9"); omega)
  k_with "l_fit" => ((k_extra "c9"); omega)
  k_with "ktr_units" => (fail "w10")
  k_with "w10" => ((try dsimp only [units_in1, units_deeper, Around.mark_units, units_caller]); (try dsimp only [ktrTop]); first | decide | k_extra "rooms9")
  k_with "execs cons" => (fail "w11")
  k_with "w11" => (k_here; first | k_gentoks | ((try dsimp only); (try k_gentoks); (try (with_reducible refine letA ?_; intro A9)); (try ((with_reducible rename Fr _ _ _ _ => F9); refine letF F9 ?_; clear F9; intro m9 F9)); (try ((with_reducible rename News _ _ _ _ => N9); refine letN N9 ?_; clear N9; intro n9 N9)); (first | (with_reducible refine execHidB fun q9 hq9 => ?_) | (refine hideQ fun q9 hq9 => ?_; with_reducible refine execHidB fun q9 hq9 => ?_))))
  k_with "Hid" => (fail "w12")
  k_with "w12" => (first | ((with_reducible refine unhidNextT (by fail "a9") ?_); intro tk9; (try dsimp only)) | ((with_reducible refine unhidNext (by fail "a9") ?_); (try dsimp only)) | ((with_reducible refine unhidRet (by fail "a9") ?_); (try dsimp only)) | ((with_reducible refine unhid (by fail "a9") ?_); (try dsimp only [Behind])))
  k_with "spliced" => (fail "w13")
  k_with "w13" => (k_here; (with_reducible show wpAny _ _ (spliced (backTo _ (starEach (_ :: _ :: _ :: _) _))) _ _ _); k_dflt (refine' args_cons ?_ ?_; rotate_left; rfl))
  k_with "spliced" => (fail "w14")
  k_with "w14" => (k_here; k_dflt ((refine' argsF ?_ ?_ ?_ ?_); (rotate_left 4); k_asm; rfl; rfl); (try dsimp only [List.nil_append, List.cons_append]))
  k_with "eval Call" => (fail "w15")
  k_with "w15" => (k_here; (with_reducible show wpAny _ _ (eval (PySem.Expr.Call (PySem.Expr.Name _ _) (_ :: _) [] _) _) _ _ _); first | (k_dflt ((refine' callF ?_ ?_ ?_ ?_ ?_ ?_ ?_ ?_ ?_ ?_ ?_); (rotate_left 10); k_asm; k_asm; k_asm; k_is; k_is; rfl; rfl; rfl; rotate_left; decide; rfl)) | k_compRoot | k_dflt (refine' Call_ ?_))
  k_with "eval Name" => (fail "w16")
  k_with "w16" => (k_here; (with_reducible show wpAny _ _ (eval (PySem.Expr.Name _ _) (envOf _ _ _ _ _)) _ _ _); first | k_dflt ((refine' nameX_K ?_ ?_ ?_ ?_ ?_ ?_ ?_ ?_); (rotate_left 8); k_asm; k_asm; k_asm; k_is; rotate_left; rfl; rfl; decide) | k_dflt ((refine' nameX_L ?_ ?_ ?_ ?_ ?_ ?_); (rotate_left 3); k_asm; rfl; rotate_left; rfl; rfl; decide))
  k_with "callWith ref" => (fail "w17")
  k_with "w17" => (k_here; (with_reducible show wpAny _ _ (callWith _ _ _ (backTo _ (starEach [] _)) []) _ _ _); k_dflt (refine callF0 (by fail "a9") (by fail "a9") (by k_is) ?_))
  k_with "last getItem" => k_extra "u9"
  k_with "last setItem" => k_extra "u9"
  k_with "last setAttr" => k_extra "u9"
  k_with "last getAttr" => k_extra "u9"
  k_with "last subscriptTail" => k_extra "u9"
  k_with "last getMethod" => k_extra "u9"
  k_with "last call" => k_extra "u9"
  k_with "last pyIter" => k_extra "u9"
  k_with "last eval" => k_extra "u9"
  k_with "last exec" => k_extra "u9"
  k_with "last inplaceOp" => k_extra "u9"
  k_with "last binaryOp" => k_extra "u9"
  k_with "last InvEndN" => k_extra "u9"
  k_with "last GEnd" => k_extra "u9"
  k_with "last KEnd" => k_extra "u9"
  k_with "last LeaveT" => k_extra "u9"
  k_with "last noteFrame" => k_extra "u9"
  k_with "last leaving" => k_extra "u9"
  k_with "k_lt" => skip
  k_with "ktr_enter" => (fail "w18")
  k_with "w18" => (refine enterH (by assumption) (by assumption) (by k_is) (by k_is) (by ktr_room) (by exact BindsTo.of_eq rfl) (by exact rfl) (by decide +kernel) ?_ (by exact rfl) (by exact rfl) (by exact rfl); k_whole; intro g' L' h' tk' cells' F' N' Y' B' X' T' lN' gN'; (try k_lt lN'); k_cells Y'; (try simp only [List.cons_append, List.nil_append] at N'); (try dsimp only); (try k_fold))
  k_with "eval ListComp" => (fail "w19")
  k_with "w19" => (k_here; k_dflt (refine ListComp_H (F₀ := by k_asm) (by with_unfolding_all rfl) (by decide) (by rfl) (by decide) (by rfl) ?_))
  k_with "CompSrcH" => (fail "w20")
  k_with "w20" => (k_here; k_dflt (refine ⟨_, _, _, _, _, _, _, _, _, rfl, rfl, ?_, (by k_asm), (by k_asm), (by assumption), (by decide), (by decide), ?_⟩; (focus exact ⟨_, by k_mem, _, rfl, by assumption⟩)); intro g'; kcf_last)
  k_with "call type:bytes" => (fail "w21")
  k_with "w21" => (k_here; (with_reducible show wpAny _ _ (call (Value.type "bytes") [Value.ref _]) _ _ _); k_dflt (refine bytes_of_none rfl ?_ (by k_asm) (by k_asm) (by exact List.mem_cons_self) ?_; (focus exact ⟨_, by k_mem, _, rfl, by assumption⟩)); intro h' t' tk' F' N')
  trivial
theorem wocts_held 
    {wr dw x dx : Addr} {ea eb : Int} {k1 k2 t1 t2 : Tok} {nr : Nat} {ws : Array Value} {sl : Array (Option Value)}
    (S : Site w p loose mean mg mb cs outer A₀ base h₀ L m news s.heap)
    (hr : (wr, instObj 103 dw) ∈ news) (hdr : (dw, dictOf [⟨ea, .str (Str.ofString "word") k1, .int 0 t1⟩, ⟨eb, .str (Str.ofString "count") k2, .int 0 t2⟩] nr) ∈ news)
    (hx : (x, ({ cls := .ref 51, dict := some dx, data := .fields ws, slots := sl } : Obj)) ∈ news) (hws : ws[2]? = some .none)
    (hne : wr ≠ dw)
    (hdp : dp + 4 < recursionLimit) (hun : un + 40 < cLine)
    (h : ∀ (t : Tok) (h' : Heap) (tk' : Nat), Fr h₀ L h' m → News h₀ L h' news → Q (.bytes #[] t) { s with heap := h', toks := tk' }) :
    wpAny (model prog w) (heldTop (some (.ref x)) dp un gd cn cs L a ccd cl outer) (call (.ref 100) [.ref wr]) Q E s := by
  have hsub : ∀ q ∈ [(wr, instObj 103 dw), (dw, dictOf [⟨ea, .str (Str.ofString "word") k1, .int 0 t1⟩, ⟨eb, .str (Str.ofString "count") k2, .int 0 t2⟩] nr), (x, ({ cls := .ref 51, dict := some dx, data := .fields ws, slots := sl } : Obj))], q ∈ news := by
    intro q hq
    rcases List.mem_cons.mp hq with rfl | hq
    · exact hr
    · rcases List.mem_cons.mp hq with rfl | hq
      · exact hdr
      · rcases List.mem_cons.mp hq with rfl | hq
        · exact hx
        · nomatch hq
  have hne := neN hne
  k_dflt ktr_enter
  k_steps
  exact leaveE_ (by assumption) (by assumption) ⟨news, cond_read S.N hsub (fun q h => List.mem_cons_of_mem _ (List.mem_cons_of_mem _ h)), fun F9 N9 => h _ _ _ F9 N9⟩
end
end Mine
end

section
namespace Mine
theorem resetKN : True := by (k_with_none; w_top off); trivial
open PySem.W.X
/-- the clocks' word -/
structure Clk (a b W : Int) : Prop where
  len : (bitsL a 6 ++ bitsL b 16 ++ [a.fdiv 64]).length = 0 + 6 + 8 + 8 + 1
  bits : Bits (bitsL a 6 ++ bitsL b 16 ++ [a.fdiv 64])
  num : numV (bitsL a 6 ++ bitsL b 16 ++ [a.fdiv 64]) = W
  h1 : W % 64 + W / 4194304 % 2 * 64 = a
  h2 : W / 64 % 65536 = b
  h3 : W / 64 % 65536 ≠ 0
theorem clk_all {a b W1 W2 W3 W4 : Int} (e4 : W4 = W3 + a / 64 % 2 * 4194304) (e3 : W3 = W2 + b / 256 % 256 * 16384) (e2 : W2 = W1 + b % 256 * 64) (e1 : W1 = 0 + a % 64 * 1) (h0 : ¬ a < 0) (h1 : ¬ 128 ≤ a) (h2 : ¬ b < 1) (h3 : ¬ 65536 ≤ b) : Clk a b W4 := by
  have e : W4 = a % 64 + b % 65536 * 64 + a / 64 * 4194304 := by omega
  refine ⟨?_, ?_, ?_, ?_, ?_, ?_⟩
  · simp only [List.length_append, bitsL_len, List.length_cons, List.length_nil, Int.reduceToNat, Nat.reduceAdd]
  · refine Bits.append (Bits.append (bitsL_bits _ _) (bitsL_bits _ _)) (Bits.one ?_)
    rw [fdiv_64]
    omega
  · simp only [numV_app, numV, numV_bitsL', List.length_append, bitsL_len, List.length_cons, List.length_nil, Int.reduceToNat, Nat.reduceAdd, Int.reducePow, fdiv_64]
    omega
  · omega
  · omega
  · omega
theorem clocks_taken3 {prog p : Program} {w : World} {loose : List Str} {mean : ExcName → Option Value} {mg mb : Str → Option Value} {dp un : Nat} {gd : Option (List Code)} {cn : Str} {cs : Scope} {a : Addr} {ccd : Value} {outer : List Env} {A₀ : Around} {base h₀ : Heap} {L : Addr} {m : Str → Option Value} {s : Shared} {Q E : Value → Shared → Prop}
    {news : List (Addr × Obj)}
    {r dr : Addr} {ea eb ec : Int} {k1 k2 k3 t1 t2 t3 tw : Tok} {W : Int} {gU : Obj → List (Addr × Obj)}
    (S : SiteS w p loose mean mg mb cs outer A₀ base h₀ L m news s.heap)
    (hr : (r, instObj 138 dr) ∈ news) (U : UpdF dr (dictOf [⟨ea, .str (Str.ofString "word") k1, .int W t1⟩, ⟨eb, .str (Str.ofString "count") k2, .int 24 t2⟩, ⟨ec, .str (Str.ofString "at") k3, .int 0 t3⟩] 3) news gU)
    {ca cb : Int} (K : Clk ca cb W) (hne : r ≠ dr) (hW : 0 ≤ W)
    (hdp : dp + 20 ≤ 500) (hun : un + 200 ≤ 4000)
    (h : ∀ (l' l2 : Addr) (q1 q2 q3 t3 : Tok) (h' : Heap) (tk' : Nat), LCg.Off1 l' news → LCg.Off1 l2 news → (@Ne Nat l' l2) →
      BackT w p loose mean mg mb outer A₀ base h₀ L m ((l', { cls := .type "tuple", data := .seq #[.str (Str.ofString "taken") q1, .ref l2] }) :: (l2, { cls := .type "tuple", data := .seq #[.int ca q2, .int cb q3] }) :: gU (dictOf [⟨ea, .str (Str.ofString "word") k1, .int W t1⟩, ⟨eb, .str (Str.ofString "count") k2, .int 24 t2⟩, ⟨ec, .str (Str.ofString "at") k3, .int 23 t3⟩] 3)) h' (Q (.ref l') { s with heap := h', toks := tk' })) :
    wpAny (model prog w) (ktrTop dp un gd cn cs L a ccd [] outer) (call (.ref 298) [.ref 319, .ref r, .int 0 tw]) Q E s := by
  refine clocks_taken2 S hr U hne hW K.h3 hdp hun ?_
  rw [K.h1, K.h2]
  exact h
end Mine
end

section
namespace Mine
open PySem.W.X
theorem wordsCL0 : True := by
  k_with_none
  w_top off
  k_with "a9" => (with_reducible assumption)
  k_with "c9" => (repeat (with_reducible rename _ ∧ _ => hA9; clear hA9)); (repeat (with_reducible rename _ ≠ _ => hA9; clear hA9))
  k_with "u9" => ((with_reducible rename News _ _ _ _ => N9); dsimp +zetaDelta only at N9)
  k_with "p0" => (refine offAt (by fail "a9") 0 ?_; exact rfl)
  k_with "p1" => (refine offAt (by fail "a9") 1 ?_; exact rfl)
  k_with "p2" => (refine offAt (by fail "a9") 2 ?_; exact rfl)
  k_with "p3" => (refine offAt (by fail "a9") 3 ?_; exact rfl)
  k_with "p4" => (refine offAt (by fail "a9") 4 ?_; exact rfl)
  k_with "p5" => (refine offAt (by fail "a9") 5 ?_; exact rfl)
  k_with "p6" => (refine offAt (by fail "a9") 6 ?_; exact rfl)
  k_with "p7" => (refine offAt (by fail "a9") 7 ?_; exact rfl)
  k_with "p8" => (refine offAt (by fail "a9") 8 ?_; exact rfl)
  k_with "p9" => (refine offAt (by fail "a9") 9 ?_; exact rfl)
  k_with "p10" => (refine offAt (by fail "a9") 10 ?_; exact rfl)
  k_with "p11" => (refine offAt (by fail "a9") 11 ?_; exact rfl)
  k_with "p12" => (refine offAt (by fail "a9") 12 ?_; exact rfl)
  k_with "p13" => (refine offAt (by fail "a9") 13 ?_; exact rfl)
  k_with "p14" => (refine ltAt (by fail "a9") 0 ?_; exact rfl)
  k_with "p15" => (refine ltAt (by fail "a9") 1 ?_; exact rfl)
  k_with "p16" => (refine ltAt (by fail "a9") 2 ?_; exact rfl)
  k_with "p17" => (refine ltAt (by fail "a9") 3 ?_; exact rfl)
  k_with "p18" => (refine ltAt (by fail "a9") 4 ?_; exact rfl)
  k_with "p19" => (refine ltAt (by fail "a9") 5 ?_; exact rfl)
  k_with "p20" => (refine ltAt (by fail "a9") 6 ?_; exact rfl)
  k_with "p21" => (refine ltAt (by fail "a9") 7 ?_; exact rfl)
  k_with "p22" => (refine ltAt (by fail "a9") 8 ?_; exact rfl)
  k_with "p23" => (refine ltAt (by fail "a9") 9 ?_; exact rfl)
  k_with "p24" => (refine ltAt (by fail "a9") 10 ?_; exact rfl)
  k_with "p25" => (refine ltAt (by fail "a9") 11 ?_; exact rfl)
  k_with "p26" => (refine ltAt (by fail "a9") 12 ?_; exact rfl)
  k_with "p27" => (refine ltAt (by fail "a9") 13 ?_; exact rfl)
  k_with "r9" => (fail "w1")
  k_with "w1" => (first | fail "a9" | exact Nat.le_of_lt (by fail "a9"))
  k_with "offs9" => (first | fail "p0" | fail "p1" | fail "p2" | fail "p3" | fail "p4" | fail "p5" | fail "p6" | fail "p7" | fail "p8" | fail "p9" | fail "p10" | fail "p11" | fail "p12" | fail "p13" | fail "p14" | fail "p15" | fail "p16" | fail "p17" | fail "p18" | fail "p19" | fail "p20" | fail "p21" | fail "p22" | fail "p23" | fail "p24" | fail "p25" | fail "p26" | fail "p27")
  k_with "mem9" => (fail "w2")
  k_with "w2" => (first | exact List.Mem.head _ | exact List.Mem.tail _ (List.Mem.head _) | (refine memAt 0 ?_; exact rfl) | (refine memAt 1 ?_; exact rfl) | (refine memAt 2 ?_; exact rfl) | (refine memAt 3 ?_; exact rfl) | (refine memAt 4 ?_; exact rfl) | (refine memAt 5 ?_; exact rfl) | (refine memAt 6 ?_; exact rfl) | (refine memAt 7 ?_; exact rfl) | (refine memAt 8 ?_; exact rfl) | (refine memAt 9 ?_; exact rfl) | (refine memAt 10 ?_; exact rfl) | (refine memAt 11 ?_; exact rfl) | (refine memAt 12 ?_; exact rfl) | (refine memAt 13 ?_; exact rfl) | (refine memAt 14 ?_; exact rfl) | (refine memAt 15 ?_; exact rfl) | (refine memAt 16 ?_; exact rfl) | (refine memAt 17 ?_; exact rfl))
  k_with "lts9" => (fail "w3")
  k_with "w3" => (first | (refine ltB (by fail "a9") 0 ?_; exact rfl) | (refine ltB (by fail "a9") 1 ?_; exact rfl) | (refine ltB (by fail "a9") 2 ?_; exact rfl) | (refine ltB (by fail "a9") 3 ?_; exact rfl) | (refine ltB (by fail "a9") 4 ?_; exact rfl) | (refine ltB (by fail "a9") 5 ?_; exact rfl) | (refine ltB (by fail "a9") 6 ?_; exact rfl) | (refine ltB (by fail "a9") 7 ?_; exact rfl) | (refine ltB (by fail "a9") 8 ?_; exact rfl) | (refine ltB (by fail "a9") 9 ?_; exact rfl) | (refine ltB (by fail "a9") 10 ?_; exact rfl) | (refine ltB (by fail "a9") 11 ?_; exact rfl) | (refine ltB (by fail "a9") 12 ?_; exact rfl) | (refine ltB (by fail "a9") 13 ?_; exact rfl))
  k_with "rooms9" => (fail "w4")
  k_with "w4" => (first | (refine rl2 (by fail "r9") ?_; exact rfl) | (refine rl1 (by fail "r9") ?_; exact rfl) | (refine rl3 (by fail "r9") ?_; exact rfl) | (refine rl0 (by fail "r9") ?_; exact rfl) | (refine rl4 (by fail "r9") ?_; exact rfl) | (refine rm2 (by fail "r9") ?_; exact rfl) | (refine rm1 (by fail "r9") ?_; exact rfl) | (refine rm3 (by fail "r9") ?_; exact rfl) | (refine rm0 (by fail "r9") ?_; exact rfl) | (refine rm4 (by fail "r9") ?_; exact rfl))
  k_with "k_ne" => (fail "w5")
  k_with "w5" => (refine neN ?_; (try dsimp only); first | fail "a9" | (refine Ne.symm ?_; fail "a9") | exact Nat.ne_of_lt (by fail "a9") | exact Nat.ne_of_gt (by fail "a9") | k_extra "offs9" | (refine Ne.symm ?_; first | k_extra "offs9") | ((try simp only [LCg.Off1, and_true] at *); omega))
  k_with "k_mem" => (fail "w6")
  k_with "w6" => (first | fail "a9" | k_extra "mem9")
  k_with "k_memK" => (first | k_extra "mem9")
  k_with "is_list" => (fail "w7")
  k_with "w7" => (exact News.isList (by fail "a9") (by k_mem))
  k_with "ktr_room" => (fail "w8")
  k_with "w8" => ((try dsimp only [depth_under_make, depth_under_kw, depth_in1, depth_deeper, depth_caller]); (try dsimp only [ktrTop]); first | decide | k_extra "rooms9")
  k_with "units_room" => (fail "w9")
  k_with "w9" => ((try dsimp only [units_in1, units_deeper, Around.mark_units, units_caller]); (try dsimp only [ktrTop]); first | decide | k_extra "rooms9")
  k_with "l_idx" => ((k_extra "c9"); omega)
  k_with "l_fit" => ((k_extra "c9"); omega)
  k_with "ktr_units" => (fail "w10")
  k_with "w10" => ((try dsimp only [units_in1, units_deeper, Around.mark_units, units_caller]); (try dsimp only [ktrTop]); first | decide | k_extra "rooms9")
  k_with "execs cons" => (fail "w11")
  k_with "w11" => (k_here; first | k_gentoks | ((try dsimp only); (try k_gentoks); (try (with_reducible refine letA ?_; intro A9)); (try ((with_reducible rename Fr _ _ _ _ => F9); refine letF F9 ?_; clear F9; intro m9 F9)); (try ((with_reducible rename News _ _ _ _ => N9); refine letN N9 ?_; clear N9; intro n9 N9)); (first | (with_reducible refine execHidB fun q9 hq9 => ?_) | (refine hideQ fun q9 hq9 => ?_; with_reducible refine execHidB fun q9 hq9 => ?_))))
  k_with "Hid" => (fail "w12")
  k_with "w12" => (first | ((with_reducible refine unhidNextT (by fail "a9") ?_); intro tk9; (try dsimp only)) | ((with_reducible refine unhidNext (by fail "a9") ?_); (try dsimp only)) | ((with_reducible refine unhidRet (by fail "a9") ?_); (try dsimp only)) | ((with_reducible refine unhid (by fail "a9") ?_); (try dsimp only [Behind])))
  k_with "spliced" => (fail "w13")
  k_with "w13" => (k_here; (with_reducible show wpAny _ _ (spliced (backTo _ (starEach (_ :: _ :: _ :: _) _))) _ _ _); k_dflt (refine' args_cons ?_ ?_; rotate_left; rfl))
  k_with "spliced" => (fail "w14")
  k_with "w14" => (k_here; k_dflt ((refine' argsF ?_ ?_ ?_ ?_); (rotate_left 4); k_asm; rfl; rfl); (try dsimp only [List.nil_append, List.cons_append]))
  k_with "eval Call" => (fail "w15")
  k_with "w15" => (k_here; (with_reducible show wpAny _ _ (eval (PySem.Expr.Call (PySem.Expr.Name _ _) (_ :: _) [] _) _) _ _ _); first | (k_dflt ((refine' callF ?_ ?_ ?_ ?_ ?_ ?_ ?_ ?_ ?_ ?_ ?_); (rotate_left 10); k_asm; k_asm; k_asm; k_is; k_is; rfl; rfl; rfl; rotate_left; decide; rfl)) | k_compRoot | k_dflt (refine' Call_ ?_))
  k_with "eval Name" => (fail "w16")
  k_with "w16" => (k_here; (with_reducible show wpAny _ _ (eval (PySem.Expr.Name _ _) (envOf _ _ _ _ _)) _ _ _); first | k_dflt ((refine' nameX_K ?_ ?_ ?_ ?_ ?_ ?_ ?_ ?_); (rotate_left 8); k_asm; k_asm; k_asm; k_is; rotate_left; rfl; rfl; decide) | k_dflt ((refine' nameX_L ?_ ?_ ?_ ?_ ?_ ?_); (rotate_left 3); k_asm; rfl; rotate_left; rfl; rfl; decide))
  k_with "callWith ref" => (fail "w17")
  k_with "w17" => (k_here; (with_reducible show wpAny _ _ (callWith _ _ _ (backTo _ (starEach [] _)) []) _ _ _); k_dflt (refine callF0 (by fail "a9") (by fail "a9") (by k_is) ?_))
  k_with "last getItem" => k_extra "u9"
  k_with "last setItem" => k_extra "u9"
  k_with "last setAttr" => k_extra "u9"
  k_with "last getAttr" => k_extra "u9"
  k_with "last subscriptTail" => k_extra "u9"
  k_with "last getMethod" => k_extra "u9"
  k_with "last call" => k_extra "u9"
  k_with "last pyIter" => k_extra "u9"
  k_with "last eval" => k_extra "u9"
  k_with "last exec" => k_extra "u9"
  k_with "last inplaceOp" => k_extra "u9"
  k_with "last binaryOp" => k_extra "u9"
  k_with "last InvEndN" => k_extra "u9"
  k_with "last GEnd" => k_extra "u9"
  k_with "last KEnd" => k_extra "u9"
  k_with "last LeaveT" => k_extra "u9"
  k_with "last noteFrame" => k_extra "u9"
  k_with "last leaving" => k_extra "u9"
  k_with "k_lt" => skip
  k_with "kts_go" => (fail "w18")
  k_with "w18" => (refine enterS (by assumption) (by assumption) (by k_is) (by k_is) (by ktr_room) (by exact BindsTo.of_eq rfl) (by exact locs rfl) ?_ (by exact rfl) (by exact rfl) (by exact rfl) (by decide); k_whole; intro g' L' h' F' N' B' X' T' D' lN' gN' tk9'; (have T0' := turn0 D'); (try k_lt lN'); (try k_sweep); (try dsimp only); (try k_fold))
  k_with "kxw_text" => (fail "w19")
  k_with "w19" => exact ⟨by k_asm, by k_asm, by k_asm, by k_asm, by k_asm, by first | exact rfl | assumption⟩
  k_with "kxw_bool" => (fail "w20")
  k_with "w20" => exact ⟨by k_asm, by k_asm, by k_asm, by k_asm, by k_asm, by assumption, by assumption, by assumption, by first | exact rfl | assumption⟩
  k_with "kpt_eq" => (fail "w21")
  k_with "w21" => (unfold BackT; (try (with_reducible rename Fr _ _ _ _ => oF; clear oF)); (try (with_reducible rename News _ _ _ _ => oN; clear oN)); (try (with_reducible rename Below _ _ _ _ => oB; clear oB)); (try (with_reducible rename Top _ _ _ _ _ _ => oT; clear oT)); intro kg Tn' F' N' B' X' P' D'; k_dflt (have T0' := KtsTurn.trans (by assumption) Tn'); (try dsimp only at N'); (try k_sweep); (try dsimp only); (try k_fold))
  k_with "call ref" => (fail "w22")
  k_with "w22" => (k_here; (with_reducible show wpAny _ _ (call (Value.ref 276) _) _ _ _); k_dflt (refine cut_spec (by kxw_text) (by k_updF) (by k_asm) (by k_mem) (by k_ne) (by assumption) (by assumption) (by first | ((k_extra "c9"); omega) | omega) (by first | ((k_extra "c9"); omega) | omega) (by first | decide | ((k_extra "c9"); omega) | omega) (by first | decide | ((k_extra "c9"); omega) | omega) (by ktr_room) (by ktr_units) ?_); intro v' oc' t' t2' h' tk' lo' hi' d' F' N'; (try dsimp only at N'); (try k_sweep); (try dsimp only); (try k_fold))
  k_with "call ref" => (fail "w23")
  k_with "w23" => (k_here; (with_reducible show wpAny _ _ (call (Value.ref 281) _) _ _ _); k_dflt (refine bits_spec (by kxw_text) (by first | decide | ((k_extra "c9"); omega) | omega) (by first | decide | ((k_extra "c9"); omega) | omega) (by first | ((k_extra "c9"); omega) | omega) (by first | ((k_extra "c9"); omega) | omega) (by ktr_room) (by ktr_units) ?_); intro l' vs' n' h' tk' i' o1' F' N'; (try k_sweep); (try dsimp only); (try k_fold))
  k_with "call ref" => (fail "w24")
  k_with "w24" => (k_here; (with_reducible show wpAny _ _ (call (Value.ref 103) _) _ _ _); k_dflt (refine bwriter_spec (by kxw_text) (by ktr_room) (by ktr_units) ?_); intro r' d' e1' e2' k1' k2' t1' t2' h' tk' o1' o2' n1' F' N'; (try k_sweep); (try dsimp only); (try k_fold))
  k_with "call ref" => (fail "w25")
  k_with "w25" => (k_here; (with_reducible show wpAny _ _ (call (Value.ref 138) _) _ _ _); k_dflt (refine breader_spec (by kxw_text) (by first | assumption | exact KBa.ints_make (by assumption)) (by first | assumption | exact wOct_in _ _) (by first | (rw [wOct_len]; omega) | l_fact) (by ktr_room) (by ktr_units) ?_); intro r' d' e1' e2' e3' k1' k2' k3' t1' t2' t3' h' tk' o1' o2' n1' F' N'; (try k_sweep); (try dsimp only); (try k_fold))
  k_with "call ref" => (fail "w26")
  k_with "w26" => (k_here; (with_reducible show wpAny _ _ (call (Value.ref 138) _) _ _ _); k_dflt (refine breader_w (by kxw_text) (by assumption) (by first | assumption | decide | ((k_extra "c9"); omega) | omega) (by first | assumption | decide | ((k_extra "c9"); omega) | omega) (by first | ((k_extra "c9"); omega) | omega) (by first | exact (rfl : _ = 8) | exact (rfl : _ = 24) | exact rfl | assumption) (by ktr_room) (by ktr_units) ?_); intro r' d' e1' e2' e3' k1' k2' k3' t1' t2' t3' h' tk' o1' o2' n1' F' N'; (try k_sweep); (try dsimp only); (try k_fold))
  k_with "call ref" => (fail "w27")
  k_with "w27" => (k_here; (with_reducible show wpAny _ _ (call (Value.ref 95) _) _ _ _); k_dflt (refine put_spec (by kxw_text) (by k_mem) (by k_updF) (by k_ne) (by first | assumption | decide | ((k_extra "c9"); omega) | omega) (by first | assumption | decide | ((k_extra "c9"); omega) | omega) (by first | decide | ((k_extra "c9"); omega) | omega) (by first | decide | ((k_extra "c9"); omega) | omega) (by ktr_room) (by ktr_units) ?_); intro W' t1' t2' h' tk' eW' lW' hW' F' N'; (try simp only [bitAnd_m3, fdiv_8, fdiv_64, fdiv_256, Int.reduceToNat, Nat.reduceAdd, Int.reducePow] at eW'); (try dsimp only at N'); (try k_sweep); (try dsimp only); (try k_fold))
  k_with "call ref" => (fail "w28")
  k_with "w28" => (k_here; (with_reducible show wpAny _ _ (call (Value.ref 100) _) _ _ _); k_dflt (refine wocts_spec (by kxw_text) (by k_mem) (by k_mem) (by k_ne) (by first | decide | ((k_extra "c9"); omega) | omega) (by first | assumption | decide | ((k_extra "c9"); omega) | omega) (by ktr_room) (by ktr_units) ?_); intro b' t' h' tk' hb' F' N'; (try k_sweep); (try dsimp only); (try k_fold))
  k_with "call ref" => (fail "w29")
  k_with "w29" => (k_here; (with_reducible show wpAny _ _ (call (Value.ref 291) _) _ _ _); k_dflt (refine octets_spec (by kxw_text) (by k_mem) (by first | k_asm | l_ints) (by first | omega | l_fact) (by ktr_room) (by ktr_units) ?_); intro l' vs' n' h' tk' i' o1' F' N'; (try k_sweep); (try dsimp only); (try k_fold))
  k_with "call type:list" => (fail "w30")
  k_with "w30" => (k_here; (with_reducible show wpAny _ _ (call (Value.type "list") [Value.bytes _ _]) _ _ _); k_dflt (refine list_of_bytes rfl (by k_asm) (by k_asm) (by assumption) (by rw [wOct_len, sizeLine_eq]; omega) ?_); intro l' vs' n' h' tk' i' o1' F' N'; (try k_sweep); (try dsimp only); (try k_fold))
  k_with "call ref" => (fail "w31")
  k_with "w31" => (k_here; (with_reducible show wpAny _ _ (call (Value.ref 291) _) _ _ _); k_dflt (refine octets_w (by assumption) (by kxw_text) (by k_mem) (by first | k_asm | l_ints) (by first | assumption | (simp only [List.length_append, bitsL_len, List.length_cons, List.length_nil, Int.reduceToNat, Nat.reduceAdd, Nat.reduceLeDiff]; done) | (simp only [List.length_append, bitsL_len, List.length_cons, List.length_nil, Int.reduceToNat, Nat.reduceAdd]; omega)) (by repeat' first | exact bitsL_bits _ _ | assumption | refine Bits.append ?_ ?_ | exact Bits.nil | (refine Bits.one ?_; omega)) (by first | assumption | (simp only [numV_app, numV, numV_bitsL', List.length_append, bitsL_len, List.length_cons, List.length_nil, Int.reduceToNat, Nat.reduceAdd, Int.reducePow]; omega)) (by first | assumption | (simp only [List.length_append, bitsL_len, List.length_cons, List.length_nil, Int.reduceToNat, Nat.reduceAdd]; done) | (simp only [List.length_append, bitsL_len, List.length_cons, List.length_nil, Int.reduceToNat, Nat.reduceAdd]; omega)) (by ktr_room) (by ktr_units) ?_); intro l' vs' n' h' tk' i' o1' F' N'; (try k_sweep); (try dsimp only); (try k_fold))
  k_with "LeaveT" => (fail "w32")
  k_with "w32" => (k_dflt (exact finOk (by assumption) (by assumption) (by assumption) (by assumption) (by k_asm) (by k_asm) (by assumption) (by k_mem) (by k_mem) (by k_asm) (by first | ((k_extra "c9"); omega) | omega) (by first | rfl | (exact beq_iff_eq.mpr (by law_clear; omega)) | (exfalso; law_clear; omega) | decide | (simp only [decide_eq_true_eq]; law_clear; omega))))
  k_with "call ref" => (fail "w33")
  k_with "w33" => (k_here; (with_reducible show wpAny _ _ (call (Value.ref 138) _) _ _ _); k_dflt (refine breader_three (by kxw_text) (by exact three_bytes (by decide) (by decide) (by decide) (by decide) (by decide) (by decide)) (by exact three_in (by decide) (by decide) (by decide) (by decide) (by decide) (by decide)) (by ktr_room) (by ktr_units) ?_); intro r' d' e1' e2' e3' k1' k2' k3' t1' t2' t3' h' tk' o1' o2' n1' F' N'; (try k_sweep); (try dsimp only); (try k_fold))
  k_with "call ref" => (fail "w34")
  k_with "w34" => (k_here; (with_reducible show wpAny _ _ (call (Value.ref 138) _) _ _ _); k_dflt (refine breader_one (by kxw_text) (by exact one_bytes (by law_clear; omega) (by law_clear; omega)) (by exact one_in (by law_clear; omega) (by law_clear; omega)) (by ktr_room) (by ktr_units) ?_); intro r' d' e1' e2' e3' k1' k2' k3' t1' t2' t3' h' tk' o1' o2' n1' x1' x2' F' N'; (try k_sweep); (try dsimp only); (try k_fold))
  k_with "subscriptTail Name Slice ref ref" => (fail "w35")
  k_with "w35" => (k_here; (with_reducible show wpAny _ _ (subscriptTail _ (PySem.Expr.Slice _ _ none _) (Value.ref _) (Value.ref _)) _ _ _); k_dflt (refine slice_two (by k_asm) (by k_asm) (by k_mem) ?_ (by with_unfolding_all rfl) (by intro _; with_unfolding_all rfl)); intro D' h' o1' F' N'; (try k_sweep); (try dsimp only); (try k_fold))
  k_with "exec Raise some none" => (fail "w36")
  k_with "w36" => (k_here; k_dflt (refine Raise_bad (by rfl) ?_))
  k_with "BadE" => (fail "w37")
  k_with "w37" => (k_here; (rename BadIs _ _ _ _ _ _ _ => bI); refine ⟨_, _, _, rfl, by k_in, BadIs.he bI, ?_⟩)
  k_with "call ref" => (fail "w38")
  k_with "w38" => (k_here; (with_reducible show wpAny _ _ (call (Value.ref 51) _) _ _ _); k_dflt (refine bad_call ⟨by k_asm, by k_asm, by k_asm, by k_asm, by k_asm, by first | exact rfl | assumption⟩ (by ktr_room) (by ktr_units) ?_); intro h' e' d' t' tk' h1' h2' k1' k2' F' N' o1' bI'; (try dsimp only); (try k_fold))
  k_with "noteFrame ref" => (fail "w39")
  k_with "w39" => (k_here; k_dflt (refine caught_bad (by assumption) (by assumption) (by assumption) (by assumption) (by assumption) (by assumption) (by assumption) (by assumption) (by first | assumption | exact KtsTurn.refl) (by k_is) ?_; k_whole); intro h' g' ws' sl' tk' T' F' N' K' X' P' D' c'; (try k_sweep))
  k_with "getAttr ref" => (fail "w40")
  k_with "w40" => (k_here; (with_reducible show wpAny _ _ (getAttr (Value.ref _) (Str.ofString "square") _) _ _ _); k_dflt (refine fault_square (by k_asm) (by k_asm) (by k_asm) (by k_mem) (by k_mem) ?_); (try dsimp only))
  k_with "getAttr ref" => (fail "w41")
  k_with "w41" => (k_here; (with_reducible show wpAny _ _ (getAttr (Value.ref _) (Str.ofString "text") _) _ _ _); k_dflt (refine fault_text (by k_asm) (by k_asm) (by k_asm) (by k_mem) (by k_mem) ?_); (try dsimp only))
  k_with "leaving ref" => (fail "w42")
  k_with "w42" => (k_here; first | ((with_reducible rename BadIs _ _ _ _ _ _ _ => bI9); (refine leave_badI (by assumption) (by assumption) (by assumption) bI9 ?_); k_whole; intro h' vs' S' U' d'; (try dsimp only at S' U' ⊢)) | ((with_reducible rename RaisedS _ _ _ _ _ _ _ _ _ => rS9); (refine leave_badOnI (by assumption) (by assumption) rS9 (by assumption) (by assumption) ?_); k_whole; intro h' S' U' d'; (try dsimp only at S' U' ⊢)))
  k_with "call ref" => (fail "w43")
  k_with "w43" => (k_here; (with_reducible show wpAny _ _ (call (Value.ref 298) _) _ _ _); (k_dflt (refine clocks_taken3 (by kxw_bool) (by k_mem) (by k_updF) (K := by assumption) (by k_ne) (by assumption) (by ktr_room) (by ktr_units) ?_)); intro l' l2' q1' q2' q3' t3' h' tk' o1' o2' n1'; kpt_eq)
  k_with "exec Return some" => (exfalso; law_clear; omega)
  k_with "call ref" => (fail "w44")
  k_with "w44" => (k_here; (with_reducible show wpAny _ _ (call (Value.ref 100) _) _ _ _); k_dflt (refine wocts_held (S := by kxw_text) (hr := by k_mem) (hdr := by k_mem) (hx := by k_mem) (by assumption) (by k_ne) (by ktr_room) (by ktr_units) ?_); intro t' h' tk' F' N'; (try k_sweep); (try dsimp only); (try k_fold))
  k_with "call type:list" => (fail "w45")
  k_with "w45" => (k_here; (with_reducible show wpAny _ _ (call (Value.type "list") [Value.bytes _ _]) _ _ _); k_dflt (refine list_of_none rfl ?_ (by k_asm) (by k_asm) ?_; (focus exact ⟨_, by k_mem, _, rfl, by assumption⟩)); intro l' n' h' tk' o1' F' N'; (try k_sweep); (try dsimp only); (try k_fold))
  k_with "ite" => (fail "w46")
  k_with "w46" => (k_here; first | (refine ite_pos (by (try simp only [Bool.not_eq_true', decide_eq_false_iff_not, decide_eq_true_eq]); law_clear; omega) ?_) | (refine ite_neg (by (try simp only [Bool.not_eq_true', decide_eq_false_iff_not, decide_eq_true_eq]); law_clear; omega) ?_))
  k_with "call ref" => (fail "w47")
  k_with "w47" => (k_here; (with_reducible show wpAny _ _ (call (Value.ref 291) _) _ _ _); k_dflt (have cw := clk_all (by assumption) (by assumption) (by assumption) (by assumption) (by assumption) (by assumption) (by assumption) (by assumption)); k_dflt (refine octets_w (by assumption) (by kxw_text) (by k_mem) (by assumption) (by rw [cw.len]; decide) cw.bits cw.num cw.len (by ktr_room) (by ktr_units) ?_); intro l' vs' n' h' tk' i' o1' F' N'; (try k_sweep); (try dsimp only); (try k_fold))
  trivial
theorem clocks_spec {prog p : Program} {w : World} {loose : List Str} {mean : ExcName → Option Value} {mg mb : Str → Option Value} {dp un : Nat} {gd : Option (List Code)} {cn : Str} {cs : Scope} {a : Addr} {ccd : Value} {outer : List Env} {A₀ : Around} {base h₀ : Heap} {L : Addr} {m : Str → Option Value} {s : Shared} {Q E : Value → Shared → Prop}
    {news : List (Addr × Obj)}
    {c r : Addr} {oc : Obj} {gU : Obj → List (Addr × Obj)} {rv : List Value} {rs : List Int} {nr : Nat} {i : Int} {t9 : Tok}
    (S : SiteS w p loose mean mg mb cs outer A₀ base h₀ L m news s.heap)
    (U : UpdF c oc news gU) (hd : oc.IsDictOf (PySem.strKind prog w) [(Str.ofString "row", .ref r), (Str.ofString "at", .int i t9)])
    (hr : (r, PySem.W.listOf rv.toArray nr) ∈ news) (hrc : r ≠ c) (hi : IntsAre rv rs) (hrs : rs.length ≤ 50) (hi0 : 0 ≤ i) (hi1 : i ≤ 50)
    (hdp : dp + 40 ≤ 400) (hun : un + 400 ≤ 3000)
    (hh : OkC prog w p loose mean mg mb outer A₀ base h₀ L m gU r (i + 2) s Q) :
    wpAny (model prog w) (ktrTop dp un gd cn cs L a ccd [] outer) (call (.ref 345) [.ref c]) Q E s := by
  have hsub : ∀ q ∈ [(r, PySem.W.listOf rv.toArray nr), (c, oc)], q ∈ news := by
    intro q hq
    rcases List.mem_cons.mp hq with rfl | hq
    · exact hr
    · rcases List.mem_cons.mp hq with rfl | hq
      · exact updF_was U
      · nomatch hq
  have XB := S.XB
  have N00 := S.N
  have TB := S.TB
  have hrc := neN hrc
  k_dflt kts_go
  k_steps
end Mine
end

section
namespace Mine
theorem resetG0 : True := by (k_with_none; w_top off); trivial
/-- the tokens of a board's dict -/
structure GT where
  (k1 k2 k3 k4 k5 k6 k7 k8 k9 k10 k11 k12 k13 k14 t1 t2 t3 t4 : Tok)
/-- a board's dict -/
abbrev geoD (w : World) (T : GT) (f r sz fu : Int) (fm rm ra ki kn pa ca ri : Addr) : Obj := dictOf [
  ⟨PyData.keyHash w.params (Str.ofString "files"), .str (Str.ofString "files") T.k1, .int f T.t1⟩,
  ⟨PyData.keyHash w.params (Str.ofString "ranks"), .str (Str.ofString "ranks") T.k2, .int r T.t2⟩,
  ⟨PyData.keyHash w.params (Str.ofString "size"), .str (Str.ofString "size") T.k3, .int sz T.t3⟩,
  ⟨PyData.keyHash w.params (Str.ofString "full"), .str (Str.ofString "full") T.k4, .int fu T.t4⟩,
  ⟨PyData.keyHash w.params (Str.ofString "has_double"), .str (Str.ofString "has_double") T.k5, .bool false⟩,
  ⟨PyData.keyHash w.params (Str.ofString "has_castling"), .str (Str.ofString "has_castling") T.k6, .bool false⟩,
  ⟨PyData.keyHash w.params (Str.ofString "file_masks"), .str (Str.ofString "file_masks") T.k7, .ref fm⟩,
  ⟨PyData.keyHash w.params (Str.ofString "rank_masks"), .str (Str.ofString "rank_masks") T.k8, .ref rm⟩,
  ⟨PyData.keyHash w.params (Str.ofString "rays"), .str (Str.ofString "rays") T.k9, .ref ra⟩,
  ⟨PyData.keyHash w.params (Str.ofString "king"), .str (Str.ofString "king") T.k10, .ref ki⟩,
  ⟨PyData.keyHash w.params (Str.ofString "knight"), .str (Str.ofString "knight") T.k11, .ref kn⟩,
  ⟨PyData.keyHash w.params (Str.ofString "pawn"), .str (Str.ofString "pawn") T.k12, .ref pa⟩,
  ⟨PyData.keyHash w.params (Str.ofString "castles"), .str (Str.ofString "castles") T.k13, .ref ca⟩,
  ⟨PyData.keyHash w.params (Str.ofString "rights_lost"), .str (Str.ofString "rights_lost") T.k14, .ref ri⟩] 14
abbrev nilL : Obj := PySem.W.listOf #[] 0
/-- the order in which a board's things were made -/
abbrev GCh (x d fm rm ra kn p0 p1 pa ca : Addr) : Prop := @Ne Nat x d ∧ @LT.lt Nat _ x fm ∧ @LT.lt Nat _ d fm ∧ @LT.lt Nat _ fm rm ∧ @LT.lt Nat _ rm ra ∧ @LT.lt Nat _ ra kn ∧ @LT.lt Nat _ kn p0 ∧ @LT.lt Nat _ p0 p1 ∧ @LT.lt Nat _ p1 pa ∧ @LT.lt Nat _ pa ca
theorem sub_split {small' extra news : List (Addr × Obj)} (h : ∀ q ∈ extra, q ∈ small') : ∀ q ∈ extra ++ news, q ∈ small' ∨ q ∈ news := fun q hq => by
  rcases List.mem_append.mp hq with hq | hq
  · exact .inl (h q hq)
  · exact .inr hq
end Mine
end

section
namespace Mine
theorem resetIA : True := by (k_with_none; w_top off); trivial
theorem sub_left {small' extra : List (Addr × Obj)} {P : Addr × Obj → Prop} (h : ∀ q ∈ extra, q ∈ small') : ∀ q ∈ extra, q ∈ small' ∨ P q := fun q hq => .inl (h q hq)
theorem seqi_list_add : seqSlot? (.type "list") (dunderI "add") = pure (some (.builtin "list.__iadd__")) := PySem.seqSlot_of PySem.F.slot_list_iadd.lookup (by decide +kernel)
theorem filli_list_add : fillsInplaceSlot (.type "list") "add" (Operator.Add == .Add) = pure false := by
  unfold fillsInplaceSlot
  show (typeLookup (.type "list") (dunderI "add") >>= fun fi => pure (fi.isSome && !isSeqSlot fi)) = pure false
  rw [PySem.F.slot_list_iadd.lookup]
  show (pure _ : Sem Bool) = pure false
  congr 1
section
variable {prog : Program} {w : World} {A : Around} {E : Value → Shared → Prop} {s : Shared} {h₀ : Heap} {L : Addr} {m : Str → Option Value} {news : List (Addr × Obj)}
/-- a list grows in place by another -/
theorem iadd_lists {D b : Addr} {its its2 : Array Value} {n n2 : Nat} {gU : Obj → List (Addr × Obj)} {Q : Value → Shared → Prop} (F : Fr h₀ L s.heap m) (N : News h₀ L s.heap news) (hb : (b, listOf its2 n2) ∈ news)
    (U : UpdF D (listOf its n) news gU) (hz : its.size + its2.size ≤ sizeLine)
    (h : ∀ h' n', Fr h₀ L h' m → News h₀ L h' (gU (listOf (its ++ its2) n')) → Q (.ref D) { s with heap := h' }) : wpAny (model prog w) A (inplaceOp .Add (.ref D) (.ref b)) Q E s := by
  obtain ⟨pre, post, rfl, hg, a, c⟩ := U.split
  have z := N (D, listOf its n) (List.mem_append.mpr (.inr (.head _)))
  have ha : s.TypeIs (.ref D) "list" := ⟨_, z.1, rfl⟩
  have hbt : s.TypeIs (.ref b) "list" := ⟨_, (N _ hb).1, rfl⟩
  unfold inplaceOp
  refine wpAny_holding ?_
  refine wpAny_bind (wpAny_typeOf ha (wpAny_bind (wpAny_of_eq filli_list_add ?_)))
  show wpAny _ A (if false = true then _ else _) Q E s
  rw [if_neg Bool.false_ne_true]
  refine wpAny_bind (binaryOp1_none (nm := "add") ha hbt PySem.noFill_list_add ?_)
  refine wpAny_bind (wpAny_of_eq seqi_list_add ?_)
  refine wpAny_bind (wpAny_rule ?_)
  refine call_meets PySem.F.slot_list_iadd ha PySem.F.entry_list_iadd (PySem.F.args_list_iadd_2 _ _) (PySem.AutoSeq1.list___iadd___list_list_0 D its n b its2 n2 (extend_door hz) (Nat.le_trans (Nat.le_add_right _ _) hz)) ⟨z.1, (N _ hb).1, ?_⟩
  refine h _ (if (its ++ its2).size == its.size then n else n + 1) (F.change (Heap.SameBut.update ..) z.2.1 z.2.2) ?_
  rw [hg]
  refine news_set N a c (Heap.SameBut.update ..) ?_
  rw [Heap.get?_update_self _ z.1 (by rfl)]
  rfl
/-- .. both of ints -/
theorem iadd_ints {D b : Addr} {vs ws : List Value} {ns ms : List Int} {n n2 : Nat} {gU : Obj → List (Addr × Obj)} {Q : Value → Shared → Prop} (F : Fr h₀ L s.heap m) (N : News h₀ L s.heap news) (hb : (b, listOf ws.toArray n2) ∈ news)
    (U : UpdF D (listOf vs.toArray n) news gU) (hi : IntsAre vs ns) (hj : IntsAre ws ms) (hz : ns.length + ms.length ≤ 100000)
    (h : ∀ h' n', IntsAre (vs ++ ws) (ns ++ ms) → Fr h₀ L h' m → News h₀ L h' (gU (listOf (vs ++ ws).toArray n')) → Q (.ref D) { s with heap := h' }) : wpAny (model prog w) A (inplaceOp .Add (.ref D) (.ref b)) Q E s := by
  refine iadd_lists F N hb U (by rw [List.size_toArray, List.size_toArray, hi.length, hj.length, sizeLine_eq]; omega) fun h' n' F' N' => h h' n' (hi.append hj) F' ?_
  rw [← List.append_toArray]
  exact N'
/-- an item of a made list of ints, at a place in bounds -/
theorem item_ints {value slice : PySem.Expr} {l : Addr} {vs : List Value} {ns : List Int} {nl : Nat} {k : Int} {u : Tok} {Q : Value → Shared → Prop} (N : News h₀ L s.heap news) (hl : (l, listOf vs.toArray nl) ∈ news)
    (hi : IntsAre vs ns) (h0 : 0 ≤ k) (h1 : k < (ns.length : Int)) (hz : ns.length ≤ 100000) (h : ∀ t, Q (.int (ns.getD k.toNat 0) t) s)
    (hs : subscripted slice false (.ref l) (.int k u) = operate [.ref l, .int k u] (getItem (.ref l) (.int k u))) :
    wpAny (model prog w) A (subscriptTail value slice (.ref l) (.int k u)) Q E s := by
  have hL : s.heap.IsList l vs.toArray := ⟨_, (N _ hl).1, rfl, _, rfl⟩
  have hk : k.toNat < ns.length := by omega
  obtain ⟨t, e⟩ := hi.get k.toNat ns[k.toNat] (by simp [hk])
  refine tail_any hL.typeIs slot_list_getitem.lookup (wpAny_getItem_list hL h0 (by omega) (by simpa using e) ?_) hs
  have := h t
  rw [List.getD_eq_getElem?_getD, List.getElem?_eq_getElem hk] at this
  exact this
/-- a list takes one more -/
theorem append_U {D : Addr} {vs : List Value} {n : Nat} {x : Value} {gU : Obj → List (Addr × Obj)} {Q : Value → Shared → Prop} (F : Fr h₀ L s.heap m) (N : News h₀ L s.heap news)
    (U : UpdF D (listOf vs.toArray n) news gU) (hz : vs.length ≤ sizeLine)
    (h : ∀ h', Fr h₀ L h' m → News h₀ L h' (gU (listOf (vs ++ [x]).toArray (n + 1))) → Q .none { s with heap := h' }) : wpAny (model prog w) A (call (.builtin "list.append") [.ref D, x]) Q E s := by
  obtain ⟨pre, post, rfl, hg, a, c⟩ := U.split
  refine append_in F N a c (fun h' F' N' => h h' F' ?_) hz
  rw [hg]
  exact N'
theorem append_ints {D : Addr} {vs : List Value} {ns : List Int} {n : Nat} {x : Value} {gU : Obj → List (Addr × Obj)} {Q : Value → Shared → Prop} (F : Fr h₀ L s.heap m) (N : News h₀ L s.heap news)
    (U : UpdF D (listOf vs.toArray n) news gU) (hi : IntsAre vs ns) (hz : ns.length ≤ 100000)
    (h : ∀ h', Fr h₀ L h' m → News h₀ L h' (gU (listOf (vs ++ [x]).toArray (n + 1))) → Q .none { s with heap := h' }) : wpAny (model prog w) A (call (.builtin "list.append") [.ref D, x]) Q E s :=
  append_U F N U (by rw [hi.length, sizeLine_eq]; omega) h
end
end Mine
end

section
namespace Mine
theorem wordsG2a0 : True := by
  k_with_none
  w_top off
  k_with "a9" => (with_reducible assumption)
  k_with "c9" => (repeat (with_reducible rename _ ∧ _ => hA9; clear hA9)); (repeat (with_reducible rename _ ≠ _ => hA9; clear hA9))
  k_with "u9" => ((with_reducible rename News _ _ _ _ => N9); dsimp +zetaDelta only at N9)
  k_with "p0" => (refine offAt (by fail "a9") 0 ?_; exact rfl)
  k_with "p1" => (refine offAt (by fail "a9") 1 ?_; exact rfl)
  k_with "p2" => (refine offAt (by fail "a9") 2 ?_; exact rfl)
  k_with "p3" => (refine offAt (by fail "a9") 3 ?_; exact rfl)
  k_with "p4" => (refine offAt (by fail "a9") 4 ?_; exact rfl)
  k_with "p5" => (refine offAt (by fail "a9") 5 ?_; exact rfl)
  k_with "p6" => (refine offAt (by fail "a9") 6 ?_; exact rfl)
  k_with "p7" => (refine offAt (by fail "a9") 7 ?_; exact rfl)
  k_with "p8" => (refine offAt (by fail "a9") 8 ?_; exact rfl)
  k_with "p9" => (refine offAt (by fail "a9") 9 ?_; exact rfl)
  k_with "p10" => (refine offAt (by fail "a9") 10 ?_; exact rfl)
  k_with "p11" => (refine offAt (by fail "a9") 11 ?_; exact rfl)
  k_with "p12" => (refine offAt (by fail "a9") 12 ?_; exact rfl)
  k_with "p13" => (refine offAt (by fail "a9") 13 ?_; exact rfl)
  k_with "p14" => (refine ltAt (by fail "a9") 0 ?_; exact rfl)
  k_with "p15" => (refine ltAt (by fail "a9") 1 ?_; exact rfl)
  k_with "p16" => (refine ltAt (by fail "a9") 2 ?_; exact rfl)
  k_with "p17" => (refine ltAt (by fail "a9") 3 ?_; exact rfl)
  k_with "p18" => (refine ltAt (by fail "a9") 4 ?_; exact rfl)
  k_with "p19" => (refine ltAt (by fail "a9") 5 ?_; exact rfl)
  k_with "p20" => (refine ltAt (by fail "a9") 6 ?_; exact rfl)
  k_with "p21" => (refine ltAt (by fail "a9") 7 ?_; exact rfl)
  k_with "p22" => (refine ltAt (by fail "a9") 8 ?_; exact rfl)
  k_with "p23" => (refine ltAt (by fail "a9") 9 ?_; exact rfl)
  k_with "p24" => (refine ltAt (by fail "a9") 10 ?_; exact rfl)
  k_with "p25" => (refine ltAt (by fail "a9") 11 ?_; exact rfl)
  k_with "p26" => (refine ltAt (by fail "a9") 12 ?_; exact rfl)
  k_with "p27" => (refine ltAt (by fail "a9") 13 ?_; exact rfl)
  k_with "r9" => (fail "w1")
  k_with "w1" => (first | fail "a9" | exact Nat.le_of_lt (by fail "a9"))
  k_with "offs9" => (first | fail "p0" | fail "p1" | fail "p2" | fail "p3" | fail "p4" | fail "p5" | fail "p6" | fail "p7" | fail "p8" | fail "p9" | fail "p10" | fail "p11" | fail "p12" | fail "p13" | fail "p14" | fail "p15" | fail "p16" | fail "p17" | fail "p18" | fail "p19" | fail "p20" | fail "p21" | fail "p22" | fail "p23" | fail "p24" | fail "p25" | fail "p26" | fail "p27")
  k_with "mem9" => (fail "w2")
  k_with "w2" => (first | exact List.Mem.head _ | exact List.Mem.tail _ (List.Mem.head _) | (refine memAt 0 ?_; exact rfl) | (refine memAt 1 ?_; exact rfl) | (refine memAt 2 ?_; exact rfl) | (refine memAt 3 ?_; exact rfl) | (refine memAt 4 ?_; exact rfl) | (refine memAt 5 ?_; exact rfl) | (refine memAt 6 ?_; exact rfl) | (refine memAt 7 ?_; exact rfl) | (refine memAt 8 ?_; exact rfl) | (refine memAt 9 ?_; exact rfl) | (refine memAt 10 ?_; exact rfl) | (refine memAt 11 ?_; exact rfl) | (refine memAt 12 ?_; exact rfl) | (refine memAt 13 ?_; exact rfl) | (refine memAt 14 ?_; exact rfl) | (refine memAt 15 ?_; exact rfl) | (refine memAt 16 ?_; exact rfl) | (refine memAt 17 ?_; exact rfl))
  k_with "lts9" => (fail "w3")
  k_with "w3" => (first | (refine ltB (by fail "a9") 0 ?_; exact rfl) | (refine ltB (by fail "a9") 1 ?_; exact rfl) | (refine ltB (by fail "a9") 2 ?_; exact rfl) | (refine ltB (by fail "a9") 3 ?_; exact rfl) | (refine ltB (by fail "a9") 4 ?_; exact rfl) | (refine ltB (by fail "a9") 5 ?_; exact rfl) | (refine ltB (by fail "a9") 6 ?_; exact rfl) | (refine ltB (by fail "a9") 7 ?_; exact rfl) | (refine ltB (by fail "a9") 8 ?_; exact rfl) | (refine ltB (by fail "a9") 9 ?_; exact rfl) | (refine ltB (by fail "a9") 10 ?_; exact rfl) | (refine ltB (by fail "a9") 11 ?_; exact rfl) | (refine ltB (by fail "a9") 12 ?_; exact rfl) | (refine ltB (by fail "a9") 13 ?_; exact rfl))
  k_with "rooms9" => (fail "w4")
  k_with "w4" => (first | (refine rl2 (by fail "r9") ?_; exact rfl) | (refine rl1 (by fail "r9") ?_; exact rfl) | (refine rl3 (by fail "r9") ?_; exact rfl) | (refine rl0 (by fail "r9") ?_; exact rfl) | (refine rl4 (by fail "r9") ?_; exact rfl) | (refine rm2 (by fail "r9") ?_; exact rfl) | (refine rm1 (by fail "r9") ?_; exact rfl) | (refine rm3 (by fail "r9") ?_; exact rfl) | (refine rm0 (by fail "r9") ?_; exact rfl) | (refine rm4 (by fail "r9") ?_; exact rfl))
  k_with "k_ne" => (fail "w5")
  k_with "w5" => (refine neN ?_; (try dsimp only); first | fail "a9" | (refine Ne.symm ?_; fail "a9") | exact Nat.ne_of_lt (by fail "a9") | exact Nat.ne_of_gt (by fail "a9") | k_extra "offs9" | (refine Ne.symm ?_; first | k_extra "offs9") | ((try simp only [LCg.Off1, and_true] at *); omega))
  k_with "k_mem" => (fail "w6")
  k_with "w6" => (first | fail "a9" | k_extra "mem9")
  k_with "k_memK" => (first | k_extra "mem9")
  k_with "is_list" => (fail "w7")
  k_with "w7" => (exact News.isList (by fail "a9") (by k_mem))
  k_with "ktr_room" => (fail "w8")
  k_with "w8" => ((try dsimp only [depth_under_make, depth_under_kw, depth_in1, depth_deeper, depth_caller]); (try dsimp only [ktrTop]); first | decide | k_extra "rooms9")
  k_with "units_room" => (fail "w9")
  k_with "w9" => ((try dsimp only [units_in1, units_deeper, Around.mark_units, units_caller]); (try dsimp only [ktrTop]); first | decide | k_extra "rooms9")
  k_with "l_idx" => ((k_extra "c9"); omega)
  k_with "l_fit" => ((k_extra "c9"); omega)
  k_with "ktr_units" => (fail "w10")
  k_with "w10" => ((try dsimp only [units_in1, units_deeper, Around.mark_units, units_caller]); (try dsimp only [ktrTop]); first | decide | k_extra "rooms9")
  k_with "execs cons" => (fail "w11")
  k_with "w11" => (k_here; first | k_gentoks | ((try dsimp only); (try k_gentoks); (try (with_reducible refine letA ?_; intro A9)); (try ((with_reducible rename Fr _ _ _ _ => F9); refine letF F9 ?_; clear F9; intro m9 F9)); (try ((with_reducible rename News _ _ _ _ => N9); refine letN N9 ?_; clear N9; intro n9 N9)); (first | (with_reducible refine execHidB fun q9 hq9 => ?_) | (refine hideQ fun q9 hq9 => ?_; with_reducible refine execHidB fun q9 hq9 => ?_))))
  k_with "Hid" => (fail "w12")
  k_with "w12" => (first | ((with_reducible refine unhidNextT (by fail "a9") ?_); intro tk9; (try dsimp only)) | ((with_reducible refine unhidNext (by fail "a9") ?_); (try dsimp only)) | ((with_reducible refine unhidRet (by fail "a9") ?_); (try dsimp only)) | ((with_reducible refine unhid (by fail "a9") ?_); (try dsimp only [Behind])))
  k_with "spliced" => (fail "w13")
  k_with "w13" => (k_here; (with_reducible show wpAny _ _ (spliced (backTo _ (starEach (_ :: _ :: _ :: _) _))) _ _ _); k_dflt (refine' args_cons ?_ ?_; rotate_left; rfl))
  k_with "spliced" => (fail "w14")
  k_with "w14" => (k_here; k_dflt ((refine' argsF ?_ ?_ ?_ ?_); (rotate_left 4); k_asm; rfl; rfl); (try dsimp only [List.nil_append, List.cons_append]))
  k_with "eval Call" => (fail "w15")
  k_with "w15" => (k_here; (with_reducible show wpAny _ _ (eval (PySem.Expr.Call (PySem.Expr.Name _ _) (_ :: _) [] _) _) _ _ _); first | (k_dflt ((refine' callF ?_ ?_ ?_ ?_ ?_ ?_ ?_ ?_ ?_ ?_ ?_); (rotate_left 10); k_asm; k_asm; k_asm; k_is; k_is; rfl; rfl; rfl; rotate_left; decide; rfl)) | k_compRoot | k_dflt (refine' Call_ ?_))
  k_with "eval Name" => (fail "w16")
  k_with "w16" => (k_here; (with_reducible show wpAny _ _ (eval (PySem.Expr.Name _ _) (envOf _ _ _ _ _)) _ _ _); first | k_dflt ((refine' nameX_K ?_ ?_ ?_ ?_ ?_ ?_ ?_ ?_); (rotate_left 8); k_asm; k_asm; k_asm; k_is; rotate_left; rfl; rfl; decide) | k_dflt ((refine' nameX_L ?_ ?_ ?_ ?_ ?_ ?_); (rotate_left 3); k_asm; rfl; rotate_left; rfl; rfl; decide))
  k_with "callWith ref" => (fail "w17")
  k_with "w17" => (k_here; (with_reducible show wpAny _ _ (callWith _ _ _ (backTo _ (starEach [] _)) []) _ _ _); k_dflt (refine callF0 (by fail "a9") (by fail "a9") (by k_is) ?_))
  k_with "last getItem" => k_extra "u9"
  k_with "last setItem" => k_extra "u9"
  k_with "last setAttr" => k_extra "u9"
  k_with "last getAttr" => k_extra "u9"
  k_with "last subscriptTail" => k_extra "u9"
  k_with "last getMethod" => k_extra "u9"
  k_with "last call" => k_extra "u9"
  k_with "last pyIter" => k_extra "u9"
  k_with "last eval" => k_extra "u9"
  k_with "last exec" => k_extra "u9"
  k_with "last inplaceOp" => k_extra "u9"
  k_with "last binaryOp" => k_extra "u9"
  k_with "last InvEndN" => k_extra "u9"
  k_with "last GEnd" => k_extra "u9"
  k_with "last KEnd" => k_extra "u9"
  k_with "last LeaveT" => k_extra "u9"
  k_with "last noteFrame" => k_extra "u9"
  k_with "last leaving" => k_extra "u9"
  k_with "ktr_enter" => (fail "w18")
  k_with "w18" => (refine enterK (by assumption) (by assumption) (by k_is) (by k_is) (by ktr_room) (by exact BindsTo.of_eq rfl) (by exact locs rfl) ?_ (by exact rfl) (by exact rfl) (by exact rfl) (by decide); k_whole; intro g' L' h' F' N' B' X' T' lN' gN' tk9'; (try k_lt lN'); (try dsimp only); (try k_fold))
  k_with "call type:range" => (fail "w19")
  k_with "w19" => (k_here; (rename Fr _ _ _ _ => F'); (rename News _ _ _ _ => N'); first | (with_unfolding_all refine range1_rows F' N' ?_; intro _ _ _ _ _ _ _ _ _) | (with_unfolding_all refine range2_rows F' N' ?_; intro _ _ _ _ _ _ _ _ _))
  trivial
def rankL (f : Int) (n : Nat) : List Int := (List.range n).map fun (k : Nat) => (1 * 2 ^ f.toNat - 1) * 2 ^ ((k : Int) * f).toNat
def colR (f : Int) : Nat → Int
  | 0 => 0
  | n + 1 => Builtin.bitOr (colR f n) (1 * 2 ^ ((n : Int) * f).toNat)
def fileL (f : Int) (n m : Nat) : List Int := (List.range m).map fun (k : Nat) => colR f n * 2 ^ k
theorem rankL_len (f : Int) (n : Nat) : (rankL f n).length = n := by simp [rankL]
theorem fileL_len (f : Int) (n m : Nat) : (fileL f n m).length = m := by simp [fileL]
theorem kf_in {k f : Int} (h0 : 0 ≤ k) (h1 : k ≤ 5) (h2 : 0 ≤ f) (h3 : f ≤ 4) : 0 ≤ k * f ∧ k * f ≤ 20 := by
  exact ⟨Int.mul_nonneg h0 h2, Int.le_trans (Int.mul_le_mul h1 h3 h2 (by decide)) (by decide)⟩
theorem row_bits {f n : Int} (h2 : 2 ≤ f) (h3 : f ≤ 4) (hn : n ≤ 20) : (Builtin.Int.intBits (1 * 2 ^ f.toNat - 1) : Int) + n ≤ 2 ^ 27 := by
  have : f = 2 ∨ f = 3 ∨ f = 4 := by omega
  have h : Builtin.Int.intBits (1 * 2 ^ f.toNat - 1) ≤ 8 := by rcases this with rfl | rfl | rfl <;> decide
  omega
theorem one_bits {n : Int} (hn : n ≤ 40) : (Builtin.Int.intBits 1 : Int) + n ≤ 2 ^ 27 := by
  have h : Builtin.Int.intBits 1 = 1 := by decide
  omega
theorem colR_in {f : Int} {n : Nat} (h2 : 2 ≤ f) (h3 : f ≤ 4) (hn : n ≤ 6) : 0 ≤ colR f n ∧ colR f n < 2 ^ 24 := by
  obtain ⟨k, rfl⟩ := Int.eq_ofNat_of_zero_le (Int.le_trans (by decide) h2)
  exact (by decide +kernel : ∀ (a : Fin 5) (b : Fin 7), 2 ≤ ((a.val : Nat) : Int) → 0 ≤ colR ((a.val : Nat) : Int) b.val ∧ colR ((a.val : Nat) : Int) b.val < 2 ^ 24) ⟨k, Nat.lt_succ_of_le (Int.ofNat_le.mp h3)⟩ ⟨n, Nat.lt_succ_of_le hn⟩ h2
theorem col_bits {f n : Int} {k : Nat} (h2 : 2 ≤ f) (h3 : f ≤ 4) (hk : k ≤ 6) (hn : n ≤ 20) : (Builtin.Int.intBits (colR f k) : Int) + n ≤ 2 ^ 27 := by
  have h := colR_in h2 h3 hk
  have : Builtin.Int.intBits (colR f k) ≤ 24 := intBits_le_iff.mpr (by omega)
  omega
theorem small_to {n : Int} (h0 : 0 ≤ n) (h1 : n ≤ 1000) : Builtin.Range.small 0 n 1 = true := by
  unfold Builtin.Range.small Builtin.Range.rangeSize Builtin.Range.rangeFitsLong
  simp only [Bool.and_eq_true, decide_eq_true_eq]
  split <;> (try split) <;> simp <;> omega
theorem size_to {n : Int} (h0 : 0 ≤ n) : Builtin.Range.rangeSize 0 n 1 = ((n.toNat : Nat) : Int) := by
  unfold Builtin.Range.rangeSize
  rw [if_pos (by decide)]
  split <;> omega
end Mine
end

section
namespace Mine
theorem wordsG20 : True := by
  k_with_none
  w_top off
  k_with "a9" => (with_reducible assumption)
  k_with "c9" => (repeat (with_reducible rename _ ∧ _ => hA9; clear hA9)); (repeat (with_reducible rename _ ≠ _ => hA9; clear hA9))
  k_with "u9" => ((with_reducible rename News _ _ _ _ => N9); dsimp +zetaDelta only at N9)
  k_with "p0" => (refine offAt (by fail "a9") 0 ?_; exact rfl)
  k_with "p1" => (refine offAt (by fail "a9") 1 ?_; exact rfl)
  k_with "p2" => (refine offAt (by fail "a9") 2 ?_; exact rfl)
  k_with "p3" => (refine offAt (by fail "a9") 3 ?_; exact rfl)
  k_with "p4" => (refine offAt (by fail "a9") 4 ?_; exact rfl)
  k_with "p5" => (refine offAt (by fail "a9") 5 ?_; exact rfl)
  k_with "p6" => (refine offAt (by fail "a9") 6 ?_; exact rfl)
  k_with "p7" => (refine offAt (by fail "a9") 7 ?_; exact rfl)
  k_with "p8" => (refine offAt (by fail "a9") 8 ?_; exact rfl)
  k_with "p9" => (refine offAt (by fail "a9") 9 ?_; exact rfl)
  k_with "p10" => (refine offAt (by fail "a9") 10 ?_; exact rfl)
  k_with "p11" => (refine offAt (by fail "a9") 11 ?_; exact rfl)
  k_with "p12" => (refine offAt (by fail "a9") 12 ?_; exact rfl)
  k_with "p13" => (refine offAt (by fail "a9") 13 ?_; exact rfl)
  k_with "p14" => (refine ltAt (by fail "a9") 0 ?_; exact rfl)
  k_with "p15" => (refine ltAt (by fail "a9") 1 ?_; exact rfl)
  k_with "p16" => (refine ltAt (by fail "a9") 2 ?_; exact rfl)
  k_with "p17" => (refine ltAt (by fail "a9") 3 ?_; exact rfl)
  k_with "p18" => (refine ltAt (by fail "a9") 4 ?_; exact rfl)
  k_with "p19" => (refine ltAt (by fail "a9") 5 ?_; exact rfl)
  k_with "p20" => (refine ltAt (by fail "a9") 6 ?_; exact rfl)
  k_with "p21" => (refine ltAt (by fail "a9") 7 ?_; exact rfl)
  k_with "p22" => (refine ltAt (by fail "a9") 8 ?_; exact rfl)
  k_with "p23" => (refine ltAt (by fail "a9") 9 ?_; exact rfl)
  k_with "p24" => (refine ltAt (by fail "a9") 10 ?_; exact rfl)
  k_with "p25" => (refine ltAt (by fail "a9") 11 ?_; exact rfl)
  k_with "p26" => (refine ltAt (by fail "a9") 12 ?_; exact rfl)
  k_with "p27" => (refine ltAt (by fail "a9") 13 ?_; exact rfl)
  k_with "r9" => (fail "w1")
  k_with "w1" => (first | fail "a9" | exact Nat.le_of_lt (by fail "a9"))
  k_with "offs9" => (first | fail "p0" | fail "p1" | fail "p2" | fail "p3" | fail "p4" | fail "p5" | fail "p6" | fail "p7" | fail "p8" | fail "p9" | fail "p10" | fail "p11" | fail "p12" | fail "p13" | fail "p14" | fail "p15" | fail "p16" | fail "p17" | fail "p18" | fail "p19" | fail "p20" | fail "p21" | fail "p22" | fail "p23" | fail "p24" | fail "p25" | fail "p26" | fail "p27")
  k_with "mem9" => (fail "w2")
  k_with "w2" => (first | exact List.Mem.head _ | exact List.Mem.tail _ (List.Mem.head _) | (refine memAt 0 ?_; exact rfl) | (refine memAt 1 ?_; exact rfl) | (refine memAt 2 ?_; exact rfl) | (refine memAt 3 ?_; exact rfl) | (refine memAt 4 ?_; exact rfl) | (refine memAt 5 ?_; exact rfl) | (refine memAt 6 ?_; exact rfl) | (refine memAt 7 ?_; exact rfl) | (refine memAt 8 ?_; exact rfl) | (refine memAt 9 ?_; exact rfl) | (refine memAt 10 ?_; exact rfl) | (refine memAt 11 ?_; exact rfl) | (refine memAt 12 ?_; exact rfl) | (refine memAt 13 ?_; exact rfl) | (refine memAt 14 ?_; exact rfl) | (refine memAt 15 ?_; exact rfl) | (refine memAt 16 ?_; exact rfl) | (refine memAt 17 ?_; exact rfl))
  k_with "lts9" => (fail "w3")
  k_with "w3" => (first | (refine ltB (by fail "a9") 0 ?_; exact rfl) | (refine ltB (by fail "a9") 1 ?_; exact rfl) | (refine ltB (by fail "a9") 2 ?_; exact rfl) | (refine ltB (by fail "a9") 3 ?_; exact rfl) | (refine ltB (by fail "a9") 4 ?_; exact rfl) | (refine ltB (by fail "a9") 5 ?_; exact rfl) | (refine ltB (by fail "a9") 6 ?_; exact rfl) | (refine ltB (by fail "a9") 7 ?_; exact rfl) | (refine ltB (by fail "a9") 8 ?_; exact rfl) | (refine ltB (by fail "a9") 9 ?_; exact rfl) | (refine ltB (by fail "a9") 10 ?_; exact rfl) | (refine ltB (by fail "a9") 11 ?_; exact rfl) | (refine ltB (by fail "a9") 12 ?_; exact rfl) | (refine ltB (by fail "a9") 13 ?_; exact rfl))
  k_with "rooms9" => (fail "w4")
  k_with "w4" => (first | (refine rl2 (by fail "r9") ?_; exact rfl) | (refine rl1 (by fail "r9") ?_; exact rfl) | (refine rl3 (by fail "r9") ?_; exact rfl) | (refine rl0 (by fail "r9") ?_; exact rfl) | (refine rl4 (by fail "r9") ?_; exact rfl) | (refine rm2 (by fail "r9") ?_; exact rfl) | (refine rm1 (by fail "r9") ?_; exact rfl) | (refine rm3 (by fail "r9") ?_; exact rfl) | (refine rm0 (by fail "r9") ?_; exact rfl) | (refine rm4 (by fail "r9") ?_; exact rfl))
  k_with "k_ne" => (fail "w5")
  k_with "w5" => (refine neN ?_; (try dsimp only); first | fail "a9" | (refine Ne.symm ?_; fail "a9") | exact Nat.ne_of_lt (by fail "a9") | exact Nat.ne_of_gt (by fail "a9") | k_extra "offs9" | (refine Ne.symm ?_; first | k_extra "offs9") | ((try simp only [LCg.Off1, and_true] at *); omega))
  k_with "k_mem" => (fail "w6")
  k_with "w6" => (first | fail "a9" | k_extra "mem9")
  k_with "k_memK" => (first | k_extra "mem9")
  k_with "is_list" => (fail "w7")
  k_with "w7" => (exact News.isList (by fail "a9") (by k_mem))
  k_with "ktr_room" => (fail "w8")
  k_with "w8" => ((try dsimp only [depth_under_make, depth_under_kw, depth_in1, depth_deeper, depth_caller]); (try dsimp only [ktrTop]); first | decide | k_extra "rooms9")
  k_with "units_room" => (fail "w9")
  k_with "w9" => ((try dsimp only [units_in1, units_deeper, Around.mark_units, units_caller]); (try dsimp only [ktrTop]); first | decide | k_extra "rooms9")
  k_with "l_idx" => ((k_extra "c9"); omega)
  k_with "l_fit" => ((k_extra "c9"); omega)
  k_with "ktr_units" => (fail "w10")
  k_with "w10" => ((try dsimp only [units_in1, units_deeper, Around.mark_units, units_caller]); (try dsimp only [ktrTop]); first | decide | k_extra "rooms9")
  k_with "execs cons" => (fail "w11")
  k_with "w11" => (k_here; first | k_gentoks | ((try dsimp only); (try k_gentoks); (try (with_reducible refine letA ?_; intro A9)); (try ((with_reducible rename Fr _ _ _ _ => F9); refine letF F9 ?_; clear F9; intro m9 F9)); (first | (with_reducible refine execHidB fun q9 hq9 => ?_) | (refine hideQ fun q9 hq9 => ?_; with_reducible refine execHidB fun q9 hq9 => ?_))))
  k_with "Hid" => (fail "w12")
  k_with "w12" => (first | ((with_reducible refine unhidNextT (by fail "a9") ?_); intro tk9; (try dsimp only)) | ((with_reducible refine unhidNext (by fail "a9") ?_); (try dsimp only)) | ((with_reducible refine unhidRet (by fail "a9") ?_); (try dsimp only)) | ((with_reducible refine unhid (by fail "a9") ?_); (try dsimp only [Behind])))
  k_with "spliced" => (fail "w13")
  k_with "w13" => (k_here; (with_reducible show wpAny _ _ (spliced (backTo _ (starEach (_ :: _ :: _ :: _) _))) _ _ _); k_dflt (refine' args_cons ?_ ?_; rotate_left; rfl))
  k_with "spliced" => (fail "w14")
  k_with "w14" => (k_here; k_dflt ((refine' argsF ?_ ?_ ?_ ?_); (rotate_left 4); k_asm; rfl; rfl); (try dsimp only [List.nil_append, List.cons_append]))
  k_with "eval Call" => (fail "w15")
  k_with "w15" => (k_here; (with_reducible show wpAny _ _ (eval (PySem.Expr.Call (PySem.Expr.Name _ _) (_ :: _) [] _) _) _ _ _); first | (k_dflt ((refine' callF ?_ ?_ ?_ ?_ ?_ ?_ ?_ ?_ ?_ ?_ ?_); (rotate_left 10); k_asm; k_asm; k_asm; k_is; k_is; rfl; rfl; rfl; rotate_left; decide; rfl)) | k_compRoot | k_dflt (refine' Call_ ?_))
  k_with "eval Name" => (fail "w16")
  k_with "w16" => (k_here; (with_reducible show wpAny _ _ (eval (PySem.Expr.Name _ _) (envOf _ _ _ _ _)) _ _ _); first | k_dflt ((refine' nameX_K ?_ ?_ ?_ ?_ ?_ ?_ ?_ ?_); (rotate_left 8); k_asm; k_asm; k_asm; k_is; rotate_left; rfl; rfl; decide) | k_dflt ((refine' nameX_L ?_ ?_ ?_ ?_ ?_ ?_); (rotate_left 3); k_asm; rfl; rotate_left; rfl; rfl; decide))
  k_with "callWith ref" => (fail "w17")
  k_with "w17" => (k_here; (with_reducible show wpAny _ _ (callWith _ _ _ (backTo _ (starEach [] _)) []) _ _ _); k_dflt (refine callF0 (by fail "a9") (by fail "a9") (by k_is) ?_))
  k_with "k_lt" => skip
  k_with "ktr_enter" => (fail "w18")
  k_with "w18" => (refine enterK (by assumption) (by assumption) (by k_is) (by k_is) (by ktr_room) (by exact BindsTo.of_eq rfl) (by exact locs rfl) ?_ (by exact rfl) (by exact rfl) (by exact rfl) (by decide); k_whole; intro g' L' h' F' N' B' X' T' lN' gN' tk9'; (try k_lt lN'); (try dsimp only); (try k_fold))
  k_with "call type:range" => (fail "w19")
  k_with "w19" => (k_here; (rename Fr _ _ _ _ => F'); (rename News _ _ _ _ => N'); first | (with_unfolding_all refine range1_rows F' N' ?_; intro _ _ _ _ _ _ _ _ _) | (with_unfolding_all refine range2_rows F' N' ?_; intro _ _ _ _ _ _ _ _ _))
  trivial
structure M1S where
  (col : Int) (vs : List Value) (nl : Nat) (tc : Tok)
abbrev m1Led (w : World) (T : GT) (f r sz fu : Int) (x d fm rm ra ki kn p0 p1 pa ca ri : Addr) (q : M1S) : List (Addr × Obj) := [(x, instObj 203 d), (d, geoD w T f r sz fu fm rm ra ki kn pa ca ri), (fm, nilL), (rm, PySem.W.listOf q.vs.toArray q.nl), (ra, nilL), (kn, nilL), (pa, PySem.W.listOf #[.ref p0, .ref p1] 0), (p0, nilL), (p1, nilL), (ca, nilL)]
structure M1P (f : Int) (pre : List Int) (q : M1S) : Prop where
  hc : q.col = colR f pre.length
  hi : IntsAre q.vs (rankL f pre.length)
theorem m1_0 {f : Int} {t : Tok} (h : 2 ≤ f) : M1P f [] ⟨0, [], 0, t⟩ := ⟨rfl, .nil⟩
theorem rankL_next (f : Int) (n : Nat) : rankL f (n + 1) = rankL f n ++ [(1 * 2 ^ f.toNat - 1) * 2 ^ ((n : Int) * f).toNat] := by simp [rankL, List.range_succ]
theorem m1_next {f k : Int} {t tc : Tok} {pre : List Int} {vs : List Value} {nl : Nat} (hi : IntsAre vs (rankL f pre.length)) (e : k = 0 + (pre.length : Int)) :
    M1P f (pre ++ [k]) ⟨Builtin.bitOr (colR f pre.length) (1 * 2 ^ (k * f).toNat), vs ++ [.int ((1 * 2 ^ f.toNat - 1) * 2 ^ (k * f).toNat) t], nl, tc⟩ := by
  have e' : k = (pre.length : Int) := by omega
  subst e'
  refine ⟨?_, ?_⟩
  · show _ = colR f (pre ++ [_]).length
    rw [List.length_append, List.length_singleton]
    rfl
  · show IntsAre _ (rankL f (pre ++ [_]).length)
    rw [List.length_append, List.length_singleton, rankL_next]
    exact hi.append (.cons _ _ .nil)
structure M2S where
  (vs : List Value) (nl : Nat)
abbrev m2Led (w : World) (T : GT) (f r sz fu : Int) (x d fm rm ra ki kn p0 p1 pa ca ri : Addr) (rvs : List Value) (rnl : Nat) (q : M2S) : List (Addr × Obj) := [(x, instObj 203 d), (d, geoD w T f r sz fu fm rm ra ki kn pa ca ri), (fm, PySem.W.listOf q.vs.toArray q.nl), (rm, PySem.W.listOf rvs.toArray rnl), (ra, nilL), (kn, nilL), (pa, PySem.W.listOf #[.ref p0, .ref p1] 0), (p0, nilL), (p1, nilL), (ca, nilL)]
structure M2P (f r : Int) (pre : List Int) (q : M2S) : Prop where
  hi : IntsAre q.vs (fileL f r.toNat pre.length)
theorem m2_0 {f r : Int} (h : 2 ≤ f) (h2 : 3 ≤ r) : M2P f r [] ⟨[], 0⟩ := ⟨.nil⟩
theorem fileL_next (f : Int) (n m : Nat) : fileL f n (m + 1) = fileL f n m ++ [colR f n * 2 ^ m] := by simp [fileL, List.range_succ]
theorem m2_next {f r k : Int} {t : Tok} {pre : List Int} {vs : List Value} {nl : Nat} (hi : IntsAre vs (fileL f r.toNat pre.length)) (e : k = 0 + (pre.length : Int)) :
    M2P f r (pre ++ [k]) ⟨vs ++ [.int (colR f r.toNat * 2 ^ k.toNat) t], nl⟩ := by
  have e' : k = (pre.length : Int) := by omega
  subst e'
  refine ⟨?_⟩
  show IntsAre _ (fileL f r.toNat (pre ++ [_]).length)
  rw [List.length_append, List.length_singleton, fileL_next, Int.toNat_natCast]
  exact hi.append (.cons _ _ .nil)
theorem wordsG21 : True := by
  k_with "pyIter ref" => (fail "w20")
  k_with "w20" => (k_here; (with_reducible show wpAny _ _ _ (fun it s₂ => LoopAtV _ _ _ _ _ (Str.ofString "r") _ _ _ it s₂) _ _); (with_reducible rename Fr _ _ _ _ => kF); (with_reducible rename News _ _ _ _ => kN); (with_reducible rename IsRange _ _ _ _ _ _ _ _ => kR); k_dflt (refine' kst_range (m1Led _ _ _ _ _ _ _ _ _ _ _ _ _ _ _ _ _ _) (fun q => [(Str.ofString "column", .int q.col q.tc)]) (fun _ => True) [] (M1P _) ⟨_, _, _, _⟩ rfl kR (small_to (by first | ((k_extra "c9"); omega) | omega) (by first | ((k_extra "c9"); omega) | omega)) (size_to (by first | ((k_extra "c9"); omega) | omega)) kF kN True.intro (by intro p hp; first | (rw [List.mem_singleton.mp hp]; rfl) | (nomatch hp)) (m1_0 (by assumption)) ?_ ?_); ((clear kF kN kR; intro q' pre' k' t' u' h' tk' own' e1' e2' off' _ P' F' N'; obtain ⟨W', vs', nl', tc'⟩ := q'; obtain ⟨hc', hi'⟩ := P'; dsimp only at hc' hi'; subst hc'; (try dsimp only [m1Led, envOf] at N' off'); (try simp only [List.cons_append, List.nil_append] at N'); (try dsimp only [kstB, envOf] at F'); (try k_fold)); rotate_left; (clear kF kN kR; intro q' u' h' tk' _ P' F' N'; obtain ⟨W', vs', nl', tc'⟩ := q'; obtain ⟨hc', hi'⟩ := P'; dsimp only at hc' hi'; (try simp only [rangeKs_length] at hc' hi'); subst hc';  (try dsimp only [m1Led, envOf] at N'); (try dsimp only [kstB, envOf] at F'); (try dsimp only); (try k_fold)); rotate_left))
  k_with "InvEndN" => (fail "w21")
  k_with "w21" => ((with_reducible show InvEndN _ _ (KstS _ _ _ (Str.ofString "r") _ _ _ _) _ _ _ _); k_dflt (refine InvEndN.intro (by assumption) (by assumption) (nx := [(_, instObj 203 _), (_, _), (_, _), (_, PySem.W.listOf (List.toArray _) _), (_, _), (_, _), (_, _), (_, _), (_, _), (_, _)]) ⟨⟨_, _, _, _⟩, rfl, True.intro, (by intro p hp; first | (rw [List.mem_singleton.mp hp]; rfl) | (nomatch hp)), (by intro z h1 h2 h3; first | rfl | ((repeat first | with_reducible rfl | refine updNe (by first | fail "a9" | (refine neOf (by assumption) 0 ?_; exact rfl) | (refine neOf (by assumption) 1 ?_; exact rfl) | exact neHas (by assumption) (by with_reducible (first | exact List.mem_cons_self | exact List.mem_cons_of_mem _ (List.mem_cons_self) | exact List.mem_cons_of_mem _ (List.mem_cons_of_mem _ (List.mem_cons_self)) | exact List.mem_cons_of_mem _ (List.mem_cons_of_mem _ (List.mem_cons_of_mem _ (List.mem_cons_self))) | exact List.mem_cons_of_mem _ (List.mem_cons_of_mem _ (List.mem_cons_of_mem _ (List.mem_cons_of_mem _ (List.mem_cons_self)))) | exact List.mem_cons_of_mem _ (List.mem_cons_of_mem _ (List.mem_cons_of_mem _ (List.mem_cons_of_mem _ (List.mem_cons_of_mem _ (List.mem_cons_self))))) | exact List.mem_cons_of_mem _ (List.mem_cons_of_mem _ (List.mem_cons_of_mem _ (List.mem_cons_of_mem _ (List.mem_cons_of_mem _ (List.mem_cons_of_mem _ (List.mem_cons_self)))))) | exact List.mem_cons_of_mem _ (List.mem_cons_of_mem _ (List.mem_cons_of_mem _ (List.mem_cons_of_mem _ (List.mem_cons_of_mem _ (List.mem_cons_of_mem _ (List.mem_cons_of_mem _ (List.mem_cons_self)))))))))) ?_ | refine updHas (by first | fail "a9" | exact hasNil | exact hasCons (by first | fail "a9" | (refine neOf (by assumption) 0 ?_; exact rfl) | (refine neOf (by assumption) 1 ?_; exact rfl) | exact neHas (by assumption) (by with_reducible (first | exact List.mem_cons_self | exact List.mem_cons_of_mem _ (List.mem_cons_self) | exact List.mem_cons_of_mem _ (List.mem_cons_of_mem _ (List.mem_cons_self)) | exact List.mem_cons_of_mem _ (List.mem_cons_of_mem _ (List.mem_cons_of_mem _ (List.mem_cons_self))) | exact List.mem_cons_of_mem _ (List.mem_cons_of_mem _ (List.mem_cons_of_mem _ (List.mem_cons_of_mem _ (List.mem_cons_self)))) | exact List.mem_cons_of_mem _ (List.mem_cons_of_mem _ (List.mem_cons_of_mem _ (List.mem_cons_of_mem _ (List.mem_cons_of_mem _ (List.mem_cons_self))))) | exact List.mem_cons_of_mem _ (List.mem_cons_of_mem _ (List.mem_cons_of_mem _ (List.mem_cons_of_mem _ (List.mem_cons_of_mem _ (List.mem_cons_of_mem _ (List.mem_cons_self)))))) | exact List.mem_cons_of_mem _ (List.mem_cons_of_mem _ (List.mem_cons_of_mem _ (List.mem_cons_of_mem _ (List.mem_cons_of_mem _ (List.mem_cons_of_mem _ (List.mem_cons_of_mem _ (List.mem_cons_self)))))))))) (hasNil) | exact hasCons (by first | fail "a9" | (refine neOf (by assumption) 0 ?_; exact rfl) | (refine neOf (by assumption) 1 ?_; exact rfl) | exact neHas (by assumption) (by with_reducible (first | exact List.mem_cons_self | exact List.mem_cons_of_mem _ (List.mem_cons_self) | exact List.mem_cons_of_mem _ (List.mem_cons_of_mem _ (List.mem_cons_self)) | exact List.mem_cons_of_mem _ (List.mem_cons_of_mem _ (List.mem_cons_of_mem _ (List.mem_cons_self))) | exact List.mem_cons_of_mem _ (List.mem_cons_of_mem _ (List.mem_cons_of_mem _ (List.mem_cons_of_mem _ (List.mem_cons_self)))) | exact List.mem_cons_of_mem _ (List.mem_cons_of_mem _ (List.mem_cons_of_mem _ (List.mem_cons_of_mem _ (List.mem_cons_of_mem _ (List.mem_cons_self))))) | exact List.mem_cons_of_mem _ (List.mem_cons_of_mem _ (List.mem_cons_of_mem _ (List.mem_cons_of_mem _ (List.mem_cons_of_mem _ (List.mem_cons_of_mem _ (List.mem_cons_self)))))) | exact List.mem_cons_of_mem _ (List.mem_cons_of_mem _ (List.mem_cons_of_mem _ (List.mem_cons_of_mem _ (List.mem_cons_of_mem _ (List.mem_cons_of_mem _ (List.mem_cons_of_mem _ (List.mem_cons_self)))))))))) (hasCons (by first | fail "a9" | (refine neOf (by assumption) 0 ?_; exact rfl) | (refine neOf (by assumption) 1 ?_; exact rfl) | exact neHas (by assumption) (by with_reducible (first | exact List.mem_cons_self | exact List.mem_cons_of_mem _ (List.mem_cons_self) | exact List.mem_cons_of_mem _ (List.mem_cons_of_mem _ (List.mem_cons_self)) | exact List.mem_cons_of_mem _ (List.mem_cons_of_mem _ (List.mem_cons_of_mem _ (List.mem_cons_self))) | exact List.mem_cons_of_mem _ (List.mem_cons_of_mem _ (List.mem_cons_of_mem _ (List.mem_cons_of_mem _ (List.mem_cons_self)))) | exact List.mem_cons_of_mem _ (List.mem_cons_of_mem _ (List.mem_cons_of_mem _ (List.mem_cons_of_mem _ (List.mem_cons_of_mem _ (List.mem_cons_self))))) | exact List.mem_cons_of_mem _ (List.mem_cons_of_mem _ (List.mem_cons_of_mem _ (List.mem_cons_of_mem _ (List.mem_cons_of_mem _ (List.mem_cons_of_mem _ (List.mem_cons_self)))))) | exact List.mem_cons_of_mem _ (List.mem_cons_of_mem _ (List.mem_cons_of_mem _ (List.mem_cons_of_mem _ (List.mem_cons_of_mem _ (List.mem_cons_of_mem _ (List.mem_cons_of_mem _ (List.mem_cons_self)))))))))) (hasNil))) ?_); all_goals fail) | (simp_all +zetaDelta; done)), m1_next (by assumption) (by assumption)⟩ (by rfl) (by k_allIn) (by intro p hp; k_ownIn)))
  k_with "pyIter ref" => (fail "w22")
  k_with "w22" => (k_here; (with_reducible show wpAny _ _ _ (fun it s₂ => LoopAtV _ _ _ _ _ (Str.ofString "f") _ _ _ it s₂) _ _); (with_reducible rename Fr _ _ _ _ => kF); (with_reducible rename News _ _ _ _ => kN); (with_reducible rename IsRange _ _ _ _ _ _ _ _ => kR); k_dflt (refine' kst_range (m2Led _ _ _ _ _ _ _ _ _ _ _ _ _ _ _ _ _ _ _ _) (fun _ => []) (fun _ => True) [] (M2P _ _) ⟨_, _⟩ rfl kR (small_to (by first | ((k_extra "c9"); omega) | omega) (by first | ((k_extra "c9"); omega) | omega)) (size_to (by first | ((k_extra "c9"); omega) | omega)) kF kN True.intro (by intro p hp; first | (rw [List.mem_singleton.mp hp]; rfl) | (nomatch hp)) (m2_0 (by assumption) (by assumption)) ?_ ?_); ((clear kF kN kR; intro q' pre' k' t' u' h' tk' own' e1' e2' off' _ P' F' N'; obtain ⟨vs', nl'⟩ := q'; obtain ⟨hi'⟩ := P'; dsimp only at hi'; (try dsimp only [m2Led, envOf] at N' off'); (try simp only [List.cons_append, List.nil_append] at N'); (try dsimp only [kstB, envOf] at F'); (try k_fold)); rotate_left; (clear kF kN kR; intro q' u' h' tk' _ P' F' N'; obtain ⟨vs', nl'⟩ := q'; obtain ⟨hi'⟩ := P'; dsimp only at hi'; (try simp only [rangeKs_length] at hi');  (try dsimp only [m2Led, envOf] at N'); (try dsimp only [kstB, envOf] at F'); (try dsimp only); (try k_fold)); rotate_left))
  k_with "InvEndN" => (fail "w23")
  k_with "w23" => ((with_reducible show InvEndN _ _ (KstS _ _ _ (Str.ofString "f") _ _ _ _) _ _ _ _); k_dflt (refine InvEndN.intro (by assumption) (by assumption) (nx := [(_, instObj 203 _), (_, _), (_, PySem.W.listOf (List.toArray _) _), (_, _), (_, _), (_, _), (_, _), (_, _), (_, _), (_, _)]) ⟨⟨_, _⟩, rfl, True.intro, (by intro p hp; first | (rw [List.mem_singleton.mp hp]; rfl) | (nomatch hp)), (by intro z h1 h2 h3; first | rfl | ((repeat first | with_reducible rfl | refine updNe (by first | fail "a9" | (refine neOf (by assumption) 0 ?_; exact rfl) | (refine neOf (by assumption) 1 ?_; exact rfl) | exact neHas (by assumption) (by with_reducible (first | exact List.mem_cons_self | exact List.mem_cons_of_mem _ (List.mem_cons_self) | exact List.mem_cons_of_mem _ (List.mem_cons_of_mem _ (List.mem_cons_self)) | exact List.mem_cons_of_mem _ (List.mem_cons_of_mem _ (List.mem_cons_of_mem _ (List.mem_cons_self))) | exact List.mem_cons_of_mem _ (List.mem_cons_of_mem _ (List.mem_cons_of_mem _ (List.mem_cons_of_mem _ (List.mem_cons_self)))) | exact List.mem_cons_of_mem _ (List.mem_cons_of_mem _ (List.mem_cons_of_mem _ (List.mem_cons_of_mem _ (List.mem_cons_of_mem _ (List.mem_cons_self))))) | exact List.mem_cons_of_mem _ (List.mem_cons_of_mem _ (List.mem_cons_of_mem _ (List.mem_cons_of_mem _ (List.mem_cons_of_mem _ (List.mem_cons_of_mem _ (List.mem_cons_self)))))) | exact List.mem_cons_of_mem _ (List.mem_cons_of_mem _ (List.mem_cons_of_mem _ (List.mem_cons_of_mem _ (List.mem_cons_of_mem _ (List.mem_cons_of_mem _ (List.mem_cons_of_mem _ (List.mem_cons_self)))))))))) ?_ | refine updHas (by first | fail "a9" | exact hasNil | exact hasCons (by first | fail "a9" | (refine neOf (by assumption) 0 ?_; exact rfl) | (refine neOf (by assumption) 1 ?_; exact rfl) | exact neHas (by assumption) (by with_reducible (first | exact List.mem_cons_self | exact List.mem_cons_of_mem _ (List.mem_cons_self) | exact List.mem_cons_of_mem _ (List.mem_cons_of_mem _ (List.mem_cons_self)) | exact List.mem_cons_of_mem _ (List.mem_cons_of_mem _ (List.mem_cons_of_mem _ (List.mem_cons_self))) | exact List.mem_cons_of_mem _ (List.mem_cons_of_mem _ (List.mem_cons_of_mem _ (List.mem_cons_of_mem _ (List.mem_cons_self)))) | exact List.mem_cons_of_mem _ (List.mem_cons_of_mem _ (List.mem_cons_of_mem _ (List.mem_cons_of_mem _ (List.mem_cons_of_mem _ (List.mem_cons_self))))) | exact List.mem_cons_of_mem _ (List.mem_cons_of_mem _ (List.mem_cons_of_mem _ (List.mem_cons_of_mem _ (List.mem_cons_of_mem _ (List.mem_cons_of_mem _ (List.mem_cons_self)))))) | exact List.mem_cons_of_mem _ (List.mem_cons_of_mem _ (List.mem_cons_of_mem _ (List.mem_cons_of_mem _ (List.mem_cons_of_mem _ (List.mem_cons_of_mem _ (List.mem_cons_of_mem _ (List.mem_cons_self)))))))))) (hasNil) | exact hasCons (by first | fail "a9" | (refine neOf (by assumption) 0 ?_; exact rfl) | (refine neOf (by assumption) 1 ?_; exact rfl) | exact neHas (by assumption) (by with_reducible (first | exact List.mem_cons_self | exact List.mem_cons_of_mem _ (List.mem_cons_self) | exact List.mem_cons_of_mem _ (List.mem_cons_of_mem _ (List.mem_cons_self)) | exact List.mem_cons_of_mem _ (List.mem_cons_of_mem _ (List.mem_cons_of_mem _ (List.mem_cons_self))) | exact List.mem_cons_of_mem _ (List.mem_cons_of_mem _ (List.mem_cons_of_mem _ (List.mem_cons_of_mem _ (List.mem_cons_self)))) | exact List.mem_cons_of_mem _ (List.mem_cons_of_mem _ (List.mem_cons_of_mem _ (List.mem_cons_of_mem _ (List.mem_cons_of_mem _ (List.mem_cons_self))))) | exact List.mem_cons_of_mem _ (List.mem_cons_of_mem _ (List.mem_cons_of_mem _ (List.mem_cons_of_mem _ (List.mem_cons_of_mem _ (List.mem_cons_of_mem _ (List.mem_cons_self)))))) | exact List.mem_cons_of_mem _ (List.mem_cons_of_mem _ (List.mem_cons_of_mem _ (List.mem_cons_of_mem _ (List.mem_cons_of_mem _ (List.mem_cons_of_mem _ (List.mem_cons_of_mem _ (List.mem_cons_self)))))))))) (hasCons (by first | fail "a9" | (refine neOf (by assumption) 0 ?_; exact rfl) | (refine neOf (by assumption) 1 ?_; exact rfl) | exact neHas (by assumption) (by with_reducible (first | exact List.mem_cons_self | exact List.mem_cons_of_mem _ (List.mem_cons_self) | exact List.mem_cons_of_mem _ (List.mem_cons_of_mem _ (List.mem_cons_self)) | exact List.mem_cons_of_mem _ (List.mem_cons_of_mem _ (List.mem_cons_of_mem _ (List.mem_cons_self))) | exact List.mem_cons_of_mem _ (List.mem_cons_of_mem _ (List.mem_cons_of_mem _ (List.mem_cons_of_mem _ (List.mem_cons_self)))) | exact List.mem_cons_of_mem _ (List.mem_cons_of_mem _ (List.mem_cons_of_mem _ (List.mem_cons_of_mem _ (List.mem_cons_of_mem _ (List.mem_cons_self))))) | exact List.mem_cons_of_mem _ (List.mem_cons_of_mem _ (List.mem_cons_of_mem _ (List.mem_cons_of_mem _ (List.mem_cons_of_mem _ (List.mem_cons_of_mem _ (List.mem_cons_self)))))) | exact List.mem_cons_of_mem _ (List.mem_cons_of_mem _ (List.mem_cons_of_mem _ (List.mem_cons_of_mem _ (List.mem_cons_of_mem _ (List.mem_cons_of_mem _ (List.mem_cons_of_mem _ (List.mem_cons_self)))))))))) (hasNil))) ?_); all_goals fail) | (simp_all +zetaDelta; done)), m2_next (by assumption) (by assumption)⟩ (by rfl) (by k_allIn) (by intro p hp; k_ownIn)))
  k_with "call builtin:list.append" => (fail "w24")
  k_with "w24" => (k_here; (with_reducible show wpAny _ _ (call (Value.builtin _) [Value.ref _, _]) _ _ _); k_dflt (refine append_ints (by k_asm) (by k_asm) (by k_updF) (by assumption) (by (simp only [rankL, fileL, List.length_map, List.length_range]); omega) ?_); intro h' F' N'; (try dsimp only at N'); (try k_sweep); (try dsimp only); (try k_fold))
  k_with "binaryOp LShift int int" => (fail "w25")
  k_with "w25" => (k_here; k_dflt first | ((with_reducible show wpAny _ _ (binaryOp _ (Value.int 1 _) (Value.int (_ * _) _)) _ _ _); refine lshift_int (kf_in (by first | ((k_extra "c9"); omega) | omega) (by first | ((k_extra "c9"); omega) | omega) (by first | ((k_extra "c9"); omega) | omega) (by first | ((k_extra "c9"); omega) | omega)).1 (one_bits (Int.le_trans (kf_in (by first | ((k_extra "c9"); omega) | omega) (by first | ((k_extra "c9"); omega) | omega) (by first | ((k_extra "c9"); omega) | omega) (by first | ((k_extra "c9"); omega) | omega)).2 (by decide))) ?_) | ((with_reducible show wpAny _ _ (binaryOp _ (Value.int 1 _) _) _ _ _); refine lshift_int (by first | ((k_extra "c9"); omega) | omega) (one_bits (by first | ((k_extra "c9"); omega) | omega)) ?_) | ((with_reducible show wpAny _ _ (binaryOp _ (Value.int (colR _ _) _) _) _ _ _); refine lshift_int (by first | ((k_extra "c9"); omega) | omega) (col_bits (by first | ((k_extra "c9"); omega) | omega) (by first | ((k_extra "c9"); omega) | omega) (by first | ((k_extra "c9"); omega) | omega) (by first | ((k_extra "c9"); omega) | omega)) ?_) | ((with_reducible show wpAny _ _ (binaryOp _ (Value.int (_ - _) _) _) _ _ _); refine lshift_int (kf_in (by first | ((k_extra "c9"); omega) | omega) (by first | ((k_extra "c9"); omega) | omega) (by first | ((k_extra "c9"); omega) | omega) (by first | ((k_extra "c9"); omega) | omega)).1 (row_bits (by first | ((k_extra "c9"); omega) | omega) (by first | ((k_extra "c9"); omega) | omega) (kf_in (by first | ((k_extra "c9"); omega) | omega) (by first | ((k_extra "c9"); omega) | omega) (by first | ((k_extra "c9"); omega) | omega) (by first | ((k_extra "c9"); omega) | omega)).2) ?_))
  trivial
theorem masks_spec {prog p : Program} {w : World} {loose : List Str} {mean : ExcName → Option Value} {mg mb : Str → Option Value} {dp un : Nat} {gd : Option (List Code)} {cn : Str} {cs : Scope} {a : Addr} {ccd : Value} {outer : List Env} {A₀ : Around} {base h₀ : Heap} {L : Addr} {m : Str → Option Value} {s : Shared} {Q E : Value → Shared → Prop}
    {news : List (Addr × Obj)} {cl : List (Str × Addr)}
    {T : GT} {x d fm rm ra ki kn p0 p1 pa ca ri : Addr} {f r sz fu : Int} 
    (S : Site w p loose mean mg mb cs outer A₀ base h₀ L m [(x, instObj 203 d), (d, geoD w T f r sz fu fm rm ra ki kn pa ca ri), (fm, nilL), (rm, nilL), (ra, nilL), (kn, nilL), (pa, PySem.W.listOf #[.ref p0, .ref p1] 0), (p0, nilL), (p1, nilL), (ca, nilL)] s.heap)
    (ch : GCh x d fm rm ra kn p0 p1 pa ca) (hf1 : 2 ≤ f) (hf2 : f ≤ 4) (hr1 : 3 ≤ r) (hr2 : r ≤ 6) (hs1 : 6 ≤ sz) (hs2 : sz ≤ 20)
    (hdp : dp + 20 < recursionLimit) (hun : un + 200 < cLine)
    (h : ∀ (fvs rvs : List Value) (n1 n2 : Nat) (h' : Heap) (tk' : Nat), IntsAre fvs (fileL f r.toNat f.toNat) → IntsAre rvs (rankL f r.toNat) → Fr h₀ L h' m → News h₀ L h' [(x, instObj 203 d), (d, geoD w T f r sz fu fm rm ra ki kn pa ca ri), (fm, PySem.W.listOf fvs.toArray n1), (rm, PySem.W.listOf rvs.toArray n2), (ra, nilL), (kn, nilL), (pa, PySem.W.listOf #[.ref p0, .ref p1] 0), (p0, nilL), (p1, nilL), (ca, nilL)] → Q .none { s with heap := h', toks := tk' }) :
    wpAny (model prog w) (ktrTop dp un gd cn cs L a ccd cl outer) (call (.ref 221) [.ref x]) Q E s := by
  have hsub : ∀ q ∈ [(x, instObj 203 d), (d, geoD w T f r sz fu fm rm ra ki kn pa ca ri), (fm, nilL), (rm, nilL), (ra, nilL), (kn, nilL), (pa, PySem.W.listOf #[.ref p0, .ref p1] 0), (p0, nilL), (p1, nilL), (ca, nilL)], q ∈ [(x, instObj 203 d), (d, geoD w T f r sz fu fm rm ra ki kn pa ca ri), (fm, nilL), (rm, nilL), (ra, nilL), (kn, nilL), (pa, PySem.W.listOf #[.ref p0, .ref p1] 0), (p0, nilL), (p1, nilL), (ca, nilL)] := fun _ h => h
  obtain ⟨c1, c2, c3, c4, c5, c6, c7, c8, c9, c10⟩ := ch
  have e_x_rm : @LT.lt Nat _ x rm := Nat.lt_trans c2 c4
  have e_x_ra : @LT.lt Nat _ x ra := Nat.lt_trans e_x_rm c5
  have e_x_kn : @LT.lt Nat _ x kn := Nat.lt_trans e_x_ra c6
  have e_x_p0 : @LT.lt Nat _ x p0 := Nat.lt_trans e_x_kn c7
  have e_x_p1 : @LT.lt Nat _ x p1 := Nat.lt_trans e_x_p0 c8
  have e_x_pa : @LT.lt Nat _ x pa := Nat.lt_trans e_x_p1 c9
  have e_x_ca : @LT.lt Nat _ x ca := Nat.lt_trans e_x_pa c10
  have e_d_rm : @LT.lt Nat _ d rm := Nat.lt_trans c3 c4
  have e_d_ra : @LT.lt Nat _ d ra := Nat.lt_trans e_d_rm c5
  have e_d_kn : @LT.lt Nat _ d kn := Nat.lt_trans e_d_ra c6
  have e_d_p0 : @LT.lt Nat _ d p0 := Nat.lt_trans e_d_kn c7
  have e_d_p1 : @LT.lt Nat _ d p1 := Nat.lt_trans e_d_p0 c8
  have e_d_pa : @LT.lt Nat _ d pa := Nat.lt_trans e_d_p1 c9
  have e_d_ca : @LT.lt Nat _ d ca := Nat.lt_trans e_d_pa c10
  have e_fm_ra : @LT.lt Nat _ fm ra := Nat.lt_trans c4 c5
  have e_fm_kn : @LT.lt Nat _ fm kn := Nat.lt_trans e_fm_ra c6
  have e_fm_p0 : @LT.lt Nat _ fm p0 := Nat.lt_trans e_fm_kn c7
  have e_fm_p1 : @LT.lt Nat _ fm p1 := Nat.lt_trans e_fm_p0 c8
  have e_fm_pa : @LT.lt Nat _ fm pa := Nat.lt_trans e_fm_p1 c9
  have e_fm_ca : @LT.lt Nat _ fm ca := Nat.lt_trans e_fm_pa c10
  have e_rm_kn : @LT.lt Nat _ rm kn := Nat.lt_trans c5 c6
  have e_rm_p0 : @LT.lt Nat _ rm p0 := Nat.lt_trans e_rm_kn c7
  have e_rm_p1 : @LT.lt Nat _ rm p1 := Nat.lt_trans e_rm_p0 c8
  have e_rm_pa : @LT.lt Nat _ rm pa := Nat.lt_trans e_rm_p1 c9
  have e_rm_ca : @LT.lt Nat _ rm ca := Nat.lt_trans e_rm_pa c10
  have e_ra_p0 : @LT.lt Nat _ ra p0 := Nat.lt_trans c6 c7
  have e_ra_p1 : @LT.lt Nat _ ra p1 := Nat.lt_trans e_ra_p0 c8
  have e_ra_pa : @LT.lt Nat _ ra pa := Nat.lt_trans e_ra_p1 c9
  have e_ra_ca : @LT.lt Nat _ ra ca := Nat.lt_trans e_ra_pa c10
  have e_kn_p1 : @LT.lt Nat _ kn p1 := Nat.lt_trans c7 c8
  have e_kn_pa : @LT.lt Nat _ kn pa := Nat.lt_trans e_kn_p1 c9
  have e_kn_ca : @LT.lt Nat _ kn ca := Nat.lt_trans e_kn_pa c10
  have e_p0_pa : @LT.lt Nat _ p0 pa := Nat.lt_trans c8 c9
  have e_p0_ca : @LT.lt Nat _ p0 ca := Nat.lt_trans e_p0_pa c10
  have e_p1_ca : @LT.lt Nat _ p1 ca := Nat.lt_trans c9 c10
  k_dflt ktr_enter
  k_steps
  exact leaveE_ (by assumption) (by assumption) ⟨[(_, instObj 203 _), (_, geoD w _ _ _ _ _ _ _ _ _ _ _ _ _), (_, PySem.W.listOf (List.toArray _) _), (_, PySem.W.listOf (List.toArray _) _), (_, nilL), (_, nilL), (_, PySem.W.listOf #[.ref _, .ref _] 0), (_, nilL), (_, nilL), (_, nilL)], sub_left (by k_allIn), fun F9 N9 => h _ _ _ _ _ _ (by assumption) (by assumption) F9 N9⟩
end Mine
end

section
namespace Mine
theorem wordsG30 : True := by
  k_with_none
  w_top off
  k_with "a9" => (with_reducible assumption)
  k_with "c9" => (repeat (with_reducible rename _ ∧ _ => hA9; clear hA9)); (repeat (with_reducible rename _ ≠ _ => hA9; clear hA9))
  k_with "u9" => ((with_reducible rename News _ _ _ _ => N9); dsimp +zetaDelta only at N9)
  k_with "p0" => (refine offAt (by fail "a9") 0 ?_; exact rfl)
  k_with "p1" => (refine offAt (by fail "a9") 1 ?_; exact rfl)
  k_with "p2" => (refine offAt (by fail "a9") 2 ?_; exact rfl)
  k_with "p3" => (refine offAt (by fail "a9") 3 ?_; exact rfl)
  k_with "p4" => (refine offAt (by fail "a9") 4 ?_; exact rfl)
  k_with "p5" => (refine offAt (by fail "a9") 5 ?_; exact rfl)
  k_with "p6" => (refine offAt (by fail "a9") 6 ?_; exact rfl)
  k_with "p7" => (refine offAt (by fail "a9") 7 ?_; exact rfl)
  k_with "p8" => (refine offAt (by fail "a9") 8 ?_; exact rfl)
  k_with "p9" => (refine offAt (by fail "a9") 9 ?_; exact rfl)
  k_with "p10" => (refine offAt (by fail "a9") 10 ?_; exact rfl)
  k_with "p11" => (refine offAt (by fail "a9") 11 ?_; exact rfl)
  k_with "p12" => (refine offAt (by fail "a9") 12 ?_; exact rfl)
  k_with "p13" => (refine offAt (by fail "a9") 13 ?_; exact rfl)
  k_with "p14" => (refine ltAt (by fail "a9") 0 ?_; exact rfl)
  k_with "p15" => (refine ltAt (by fail "a9") 1 ?_; exact rfl)
  k_with "p16" => (refine ltAt (by fail "a9") 2 ?_; exact rfl)
  k_with "p17" => (refine ltAt (by fail "a9") 3 ?_; exact rfl)
  k_with "p18" => (refine ltAt (by fail "a9") 4 ?_; exact rfl)
  k_with "p19" => (refine ltAt (by fail "a9") 5 ?_; exact rfl)
  k_with "p20" => (refine ltAt (by fail "a9") 6 ?_; exact rfl)
  k_with "p21" => (refine ltAt (by fail "a9") 7 ?_; exact rfl)
  k_with "p22" => (refine ltAt (by fail "a9") 8 ?_; exact rfl)
  k_with "p23" => (refine ltAt (by fail "a9") 9 ?_; exact rfl)
  k_with "p24" => (refine ltAt (by fail "a9") 10 ?_; exact rfl)
  k_with "p25" => (refine ltAt (by fail "a9") 11 ?_; exact rfl)
  k_with "p26" => (refine ltAt (by fail "a9") 12 ?_; exact rfl)
  k_with "p27" => (refine ltAt (by fail "a9") 13 ?_; exact rfl)
  k_with "r9" => (fail "w1")
  k_with "w1" => (first | fail "a9" | exact Nat.le_of_lt (by fail "a9"))
  k_with "offs9" => (first | fail "p0" | fail "p1" | fail "p2" | fail "p3" | fail "p4" | fail "p5" | fail "p6" | fail "p7" | fail "p8" | fail "p9" | fail "p10" | fail "p11" | fail "p12" | fail "p13" | fail "p14" | fail "p15" | fail "p16" | fail "p17" | fail "p18" | fail "p19" | fail "p20" | fail "p21" | fail "p22" | fail "p23" | fail "p24" | fail "p25" | fail "p26" | fail "p27")
  k_with "mem9" => (fail "w2")
  k_with "w2" => (first | exact List.Mem.head _ | exact List.Mem.tail _ (List.Mem.head _) | (refine memAt 0 ?_; exact rfl) | (refine memAt 1 ?_; exact rfl) | (refine memAt 2 ?_; exact rfl) | (refine memAt 3 ?_; exact rfl) | (refine memAt 4 ?_; exact rfl) | (refine memAt 5 ?_; exact rfl) | (refine memAt 6 ?_; exact rfl) | (refine memAt 7 ?_; exact rfl) | (refine memAt 8 ?_; exact rfl) | (refine memAt 9 ?_; exact rfl) | (refine memAt 10 ?_; exact rfl) | (refine memAt 11 ?_; exact rfl) | (refine memAt 12 ?_; exact rfl) | (refine memAt 13 ?_; exact rfl) | (refine memAt 14 ?_; exact rfl) | (refine memAt 15 ?_; exact rfl) | (refine memAt 16 ?_; exact rfl) | (refine memAt 17 ?_; exact rfl))
  k_with "lts9" => (fail "w3")
  k_with "w3" => (first | (refine ltB (by fail "a9") 0 ?_; exact rfl) | (refine ltB (by fail "a9") 1 ?_; exact rfl) | (refine ltB (by fail "a9") 2 ?_; exact rfl) | (refine ltB (by fail "a9") 3 ?_; exact rfl) | (refine ltB (by fail "a9") 4 ?_; exact rfl) | (refine ltB (by fail "a9") 5 ?_; exact rfl) | (refine ltB (by fail "a9") 6 ?_; exact rfl) | (refine ltB (by fail "a9") 7 ?_; exact rfl) | (refine ltB (by fail "a9") 8 ?_; exact rfl) | (refine ltB (by fail "a9") 9 ?_; exact rfl) | (refine ltB (by fail "a9") 10 ?_; exact rfl) | (refine ltB (by fail "a9") 11 ?_; exact rfl) | (refine ltB (by fail "a9") 12 ?_; exact rfl) | (refine ltB (by fail "a9") 13 ?_; exact rfl))
  k_with "rooms9" => (fail "w4")
  k_with "w4" => (first | (refine rl2 (by fail "r9") ?_; exact rfl) | (refine rl1 (by fail "r9") ?_; exact rfl) | (refine rl3 (by fail "r9") ?_; exact rfl) | (refine rl0 (by fail "r9") ?_; exact rfl) | (refine rl4 (by fail "r9") ?_; exact rfl) | (refine rm2 (by fail "r9") ?_; exact rfl) | (refine rm1 (by fail "r9") ?_; exact rfl) | (refine rm3 (by fail "r9") ?_; exact rfl) | (refine rm0 (by fail "r9") ?_; exact rfl) | (refine rm4 (by fail "r9") ?_; exact rfl))
  k_with "k_ne" => (fail "w5")
  k_with "w5" => (refine neN ?_; (try dsimp only); first | fail "a9" | (refine Ne.symm ?_; fail "a9") | exact Nat.ne_of_lt (by fail "a9") | exact Nat.ne_of_gt (by fail "a9") | k_extra "offs9" | (refine Ne.symm ?_; first | k_extra "offs9") | ((try simp only [LCg.Off1, and_true] at *); omega))
  k_with "k_mem" => (fail "w6")
  k_with "w6" => (first | fail "a9" | k_extra "mem9")
  k_with "k_memK" => (first | k_extra "mem9")
  k_with "is_list" => (fail "w7")
  k_with "w7" => (exact News.isList (by fail "a9") (by k_mem))
  k_with "ktr_room" => (fail "w8")
  k_with "w8" => ((try dsimp only [depth_under_make, depth_under_kw, depth_in1, depth_deeper, depth_caller]); (try dsimp only [ktrTop]); first | decide | k_extra "rooms9")
  k_with "units_room" => (fail "w9")
  k_with "w9" => ((try dsimp only [units_in1, units_deeper, Around.mark_units, units_caller]); (try dsimp only [ktrTop]); first | decide | k_extra "rooms9")
  k_with "l_idx" => ((k_extra "c9"); omega)
  k_with "l_fit" => ((k_extra "c9"); omega)
  k_with "ktr_units" => (fail "w10")
  k_with "w10" => ((try dsimp only [units_in1, units_deeper, Around.mark_units, units_caller]); (try dsimp only [ktrTop]); first | decide | k_extra "rooms9")
  k_with "execs cons" => (fail "w11")
  k_with "w11" => (k_here; first | k_gentoks | ((try dsimp only); (try k_gentoks); (try (with_reducible refine letA ?_; intro A9)); (try ((with_reducible rename Fr _ _ _ _ => F9); refine letF F9 ?_; clear F9; intro m9 F9)); (try ((with_reducible rename News _ _ _ _ => N9); refine letN N9 ?_; clear N9; intro n9 N9)); (first | (with_reducible refine execHidB fun q9 hq9 => ?_) | (refine hideQ fun q9 hq9 => ?_; with_reducible refine execHidB fun q9 hq9 => ?_))))
  k_with "Hid" => (fail "w12")
  k_with "w12" => (first | ((with_reducible refine unhidNextT (by fail "a9") ?_); intro tk9; (try dsimp only)) | ((with_reducible refine unhidNext (by fail "a9") ?_); (try dsimp only)) | ((with_reducible refine unhidRet (by fail "a9") ?_); (try dsimp only)) | ((with_reducible refine unhid (by fail "a9") ?_); (try dsimp only [Behind])))
  k_with "spliced" => (fail "w13")
  k_with "w13" => (k_here; (with_reducible show wpAny _ _ (spliced (backTo _ (starEach (_ :: _ :: _ :: _) _))) _ _ _); k_dflt (refine' args_cons ?_ ?_; rotate_left; rfl))
  k_with "spliced" => (fail "w14")
  k_with "w14" => (k_here; k_dflt ((refine' argsF ?_ ?_ ?_ ?_); (rotate_left 4); k_asm; rfl; rfl); (try dsimp only [List.nil_append, List.cons_append]))
  k_with "eval Call" => (fail "w15")
  k_with "w15" => (k_here; (with_reducible show wpAny _ _ (eval (PySem.Expr.Call (PySem.Expr.Name _ _) (_ :: _) [] _) _) _ _ _); first | (k_dflt ((refine' callF ?_ ?_ ?_ ?_ ?_ ?_ ?_ ?_ ?_ ?_ ?_); (rotate_left 10); k_asm; k_asm; k_asm; k_is; k_is; rfl; rfl; rfl; rotate_left; decide; rfl)) | k_compRoot | k_dflt (refine' Call_ ?_))
  k_with "eval Name" => (fail "w16")
  k_with "w16" => (k_here; (with_reducible show wpAny _ _ (eval (PySem.Expr.Name _ _) (envOf _ _ _ _ _)) _ _ _); first | k_dflt ((refine' nameX_K ?_ ?_ ?_ ?_ ?_ ?_ ?_ ?_); (rotate_left 8); k_asm; k_asm; k_asm; k_is; rotate_left; rfl; rfl; decide) | k_dflt ((refine' nameX_L ?_ ?_ ?_ ?_ ?_ ?_); (rotate_left 3); k_asm; rfl; rotate_left; rfl; rfl; decide))
  k_with "callWith ref" => (fail "w17")
  k_with "w17" => (k_here; (with_reducible show wpAny _ _ (callWith _ _ _ (backTo _ (starEach [] _)) []) _ _ _); k_dflt (refine callF0 (by fail "a9") (by fail "a9") (by k_is) ?_))
  k_with "last getItem" => k_extra "u9"
  k_with "last setItem" => k_extra "u9"
  k_with "last setAttr" => k_extra "u9"
  k_with "last getAttr" => k_extra "u9"
  k_with "last subscriptTail" => k_extra "u9"
  k_with "last getMethod" => k_extra "u9"
  k_with "last call" => k_extra "u9"
  k_with "last pyIter" => k_extra "u9"
  k_with "last eval" => k_extra "u9"
  k_with "last exec" => k_extra "u9"
  k_with "last inplaceOp" => k_extra "u9"
  k_with "last binaryOp" => k_extra "u9"
  k_with "last InvEndN" => k_extra "u9"
  k_with "last GEnd" => k_extra "u9"
  k_with "last KEnd" => k_extra "u9"
  k_with "last LeaveT" => k_extra "u9"
  k_with "last noteFrame" => k_extra "u9"
  k_with "last leaving" => k_extra "u9"
  k_with "k_lt" => skip
  k_with "ktr_enter" => (fail "w18")
  k_with "w18" => (refine enterK (by assumption) (by assumption) (by k_is) (by k_is) (by ktr_room) (by exact BindsTo.of_eq rfl) (by exact locs rfl) ?_ (by exact rfl) (by exact rfl) (by exact rfl) (by decide); k_whole; intro g' L' h' F' N' B' X' T' lN' gN' tk9'; (try k_lt lN'); (try dsimp only); (try k_fold))
  k_with "call type:range" => (fail "w19")
  k_with "w19" => (k_here; (rename Fr _ _ _ _ => F'); (rename News _ _ _ _ => N'); first | (with_unfolding_all refine range1_rows F' N' ?_; intro _ _ _ _ _ _ _ _ _) | (with_unfolding_all refine range2_rows F' N' ?_; intro _ _ _ _ _ _ _ _ _))
  trivial
/-- the step of a way -/
abbrev deltaV (f dr : Int) : Int := [1, 0, -1, 0, 1, -1, -1, 1].getD dr.toNat 0 * f + [0, 1, 0, -1, 1, 1, -1, -1].getD dr.toNat 0
/-- from an inner square the step stays upon the board -/
def InnerOk (f r dr v : Int) : Prop := ∀ q : Int, 0 ≤ q → q < f * r → Builtin.bitAnd (v.fdiv (2 ^ q.toNat)) 1 ≠ 0 → 0 ≤ q + deltaV f dr ∧ q + deltaV f dr < f * r
abbrev sF (dr : Int) : Int := [0, 1, 0, -1, 1, 1, -1, -1].getD dr.toNat 0
abbrev sR (dr : Int) : Int := [1, 0, -1, 0, 1, -1, -1, 1].getD dr.toNat 0
def ed1 (f r dr : Int) : Int := if 0 < sF dr then Builtin.bitOr 0 ((fileL f r.toNat f.toNat).getD (f - 1).toNat 0) else 0
def ed2 (f r dr : Int) : Int := if sF dr < 0 then Builtin.bitOr (ed1 f r dr) ((fileL f r.toNat f.toNat).getD (Int.toNat 0) 0) else ed1 f r dr
def ed3 (f r dr : Int) : Int := if 0 < sR dr then Builtin.bitOr (ed2 f r dr) ((rankL f r.toNat).getD (r - 1).toNat 0) else ed2 f r dr
def ed4 (f r dr : Int) : Int := if sR dr < 0 then Builtin.bitOr (ed3 f r dr) ((rankL f r.toNat).getD (Int.toNat 0) 0) else ed3 f r dr
def chkI (f r dr : Int) : Bool := (List.range (f * r).toNat).all fun n => (Builtin.bitAnd ((Builtin.bitAnd (2 ^ (f * r).toNat - 1) (Builtin.bitNot (ed4 f r dr))).fdiv (2 ^ n)) 1 == 0) || (decide (0 ≤ (n : Int) + deltaV f dr) && decide ((n : Int) + deltaV f dr < f * r))
theorem chkI_all : ([2, 3, 4].all fun (f : Int) => [3, 4, 5, 6].all fun (r : Int) => (List.range 8).all fun k => chkI f r (k : Int)) = true := by decide +kernel
theorem inner_ok {f r fu dr : Int} (hf1 : 2 ≤ f) (hf2 : f ≤ 4) (hr1 : 3 ≤ r) (hr2 : r ≤ 6) (hfu : fu = 2 ^ (f * r).toNat - 1) (hd0 : 0 ≤ dr) (hd7 : dr < 8) : InnerOk f r dr (Builtin.bitAnd fu (Builtin.bitNot (ed4 f r dr))) := by
  obtain ⟨k, rfl⟩ := Int.eq_ofNat_of_zero_le hd0
  have hk : k < 8 := by omega
  have hf : f ∈ ([2, 3, 4] : List Int) := by simp only [List.mem_cons, List.not_mem_nil, or_false]; omega
  have hr : r ∈ ([3, 4, 5, 6] : List Int) := by simp only [List.mem_cons, List.not_mem_nil, or_false]; omega
  have h := List.all_eq_true.mp (List.all_eq_true.mp (List.all_eq_true.mp chkI_all f hf) r hr) k (List.mem_range.mpr hk)
  intro q h0 h1 hb
  obtain ⟨n, rfl⟩ := Int.eq_ofNat_of_zero_le h0
  have hn : n < (f * r).toNat := by omega
  have h2 := List.all_eq_true.mp h n (List.mem_range.mpr hn)
  rw [← hfu] at h2
  simp only [Bool.or_eq_true, Bool.and_eq_true, decide_eq_true_eq, beq_iff_eq] at h2
  rcases h2 with h2 | h2
  · exact absurd h2 hb
  · exact h2
/-- two ways meet again behind an if: one name holds this value -/
def MergeQ (h₀ : Heap) (L : Addr) (m : Str → Option Value) (news : List (Addr × Obj)) (x : Str) (v : Int) (g : Array GenState) (dr : Drawn) (os : OsState) : Flow → Shared → Prop := fun fl s' =>
  fl = .next ∧ ∃ t h' tk m' v', s' = ⟨h', g, dr, tk, os⟩ ∧ Fr h₀ L h' m' ∧ News h₀ L h' news ∧ m' x = some (.int v' t) ∧ v' = v ∧ ∀ y, y ≠ x → m' y = m y
theorem mergeQ_ {h₀ : Heap} {L : Addr} {m : Str → Option Value} {news : List (Addr × Obj)} {x : Str} {v : Int} {g : Array GenState} {dr : Drawn} {os : OsState} {t : Tok} {h' : Heap} {tk : Nat} {m' : Str → Option Value} {v' : Int}
    (F : Fr h₀ L h' m') (N : News h₀ L h' news) (hx : m' x = some (.int v' t)) (hv : v' = v) (hs : ∀ y, y ≠ x → m' y = m y) : MergeQ h₀ L m news x v g dr os .next ⟨h', g, dr, tk, os⟩ := ⟨rfl, t, h', tk, m', v', rfl, F, N, hx, hv, hs⟩
theorem mergeIf {M : Model} {A : Around} {env : Env} {st : Stmt} {rest : List Stmt} {Q : Flow → Shared → Prop} {E : Value → Shared → Prop} {h₀ h : Heap} {L : Addr} {m : Str → Option Value} {news : List (Addr × Obj)} {g : Array GenState} {dr : Drawn} {tk : Nat} {os : OsState} (x : Str) (v : Int)
    (F : Fr h₀ L h m) (N : News h₀ L h news)
    (h1 : wpAny M A (exec st env) (MergeQ h₀ L m news x v g dr os) E ⟨h, g, dr, tk, os⟩)
    (h2 : ∀ t h' tk', Fr h₀ L h' (fun y => if y = x then some (.int v t) else m y) → News h₀ L h' news → wpAny M A (execs rest env) Q E ⟨h', g, dr, tk', os⟩) : wpAny M A (execs (st :: rest) env) Q E ⟨h, g, dr, tk, os⟩ := by
  refine wpAny_execs_cons (wpAny_mono h1 (fun fl s' q => ?_) fun _ _ e => e)
  obtain ⟨rfl, t, h', tk', m', v', rfl, F', N', hx, rfl, hs⟩ := q
  have e : m' = fun y => if y = x then some (.int v' t) else m y := funext fun y => by
    by_cases hy : y = x
    · rw [hy, hx, if_pos rfl]
    · rw [if_neg hy, hs y hy]
  rw [e] at F'
  exact h2 t h' tk' F' N'
def Mk (f r dr : Int) : Prop := f = f ∧ r = r ∧ dr = dr
theorem merge1 {M : Model} {A : Around} {env : Env} {st : Stmt} {rest : List Stmt} {Q : Flow → Shared → Prop} {E : Value → Shared → Prop} {h₀ h : Heap} {L : Addr} {m : Str → Option Value} {news : List (Addr × Obj)} {g : Array GenState} {dr : Drawn} {tk : Nat} {os : OsState} {f r d : Int} (K : Mk f r d)
    (F : Fr h₀ L h m) (N : News h₀ L h news)
    (h1 : wpAny M A (exec st env) (MergeQ h₀ L m news (Str.ofString "edge") (ed1 f r d) g dr os) E ⟨h, g, dr, tk, os⟩)
    (h2 : ∀ t h' tk', Fr h₀ L h' (fun y => if y = Str.ofString "edge" then some (.int (ed1 f r d) t) else m y) → News h₀ L h' news → wpAny M A (execs rest env) Q E ⟨h', g, dr, tk', os⟩) : wpAny M A (execs (st :: rest) env) Q E ⟨h, g, dr, tk, os⟩ := mergeIf _ _ F N h1 h2
theorem merge2 {M : Model} {A : Around} {env : Env} {st : Stmt} {rest : List Stmt} {Q : Flow → Shared → Prop} {E : Value → Shared → Prop} {h₀ h : Heap} {L : Addr} {m : Str → Option Value} {news : List (Addr × Obj)} {g : Array GenState} {dr : Drawn} {tk : Nat} {os : OsState} {f r d : Int} (K : Mk f r d)
    (F : Fr h₀ L h m) (N : News h₀ L h news)
    (h1 : wpAny M A (exec st env) (MergeQ h₀ L m news (Str.ofString "edge") (ed2 f r d) g dr os) E ⟨h, g, dr, tk, os⟩)
    (h2 : ∀ t h' tk', Fr h₀ L h' (fun y => if y = Str.ofString "edge" then some (.int (ed2 f r d) t) else m y) → News h₀ L h' news → wpAny M A (execs rest env) Q E ⟨h', g, dr, tk', os⟩) : wpAny M A (execs (st :: rest) env) Q E ⟨h, g, dr, tk, os⟩ := mergeIf _ _ F N h1 h2
theorem merge3 {M : Model} {A : Around} {env : Env} {st : Stmt} {rest : List Stmt} {Q : Flow → Shared → Prop} {E : Value → Shared → Prop} {h₀ h : Heap} {L : Addr} {m : Str → Option Value} {news : List (Addr × Obj)} {g : Array GenState} {dr : Drawn} {tk : Nat} {os : OsState} {f r d : Int} (K : Mk f r d)
    (F : Fr h₀ L h m) (N : News h₀ L h news)
    (h1 : wpAny M A (exec st env) (MergeQ h₀ L m news (Str.ofString "edge") (ed3 f r d) g dr os) E ⟨h, g, dr, tk, os⟩)
    (h2 : ∀ t h' tk', Fr h₀ L h' (fun y => if y = Str.ofString "edge" then some (.int (ed3 f r d) t) else m y) → News h₀ L h' news → wpAny M A (execs rest env) Q E ⟨h', g, dr, tk', os⟩) : wpAny M A (execs (st :: rest) env) Q E ⟨h, g, dr, tk, os⟩ := mergeIf _ _ F N h1 h2
theorem merge4 {M : Model} {A : Around} {env : Env} {st : Stmt} {rest : List Stmt} {Q : Flow → Shared → Prop} {E : Value → Shared → Prop} {h₀ h : Heap} {L : Addr} {m : Str → Option Value} {news : List (Addr × Obj)} {g : Array GenState} {dr : Drawn} {tk : Nat} {os : OsState} {f r d : Int} (K : Mk f r d)
    (F : Fr h₀ L h m) (N : News h₀ L h news)
    (h1 : wpAny M A (exec st env) (MergeQ h₀ L m news (Str.ofString "edge") (ed4 f r d) g dr os) E ⟨h, g, dr, tk, os⟩)
    (h2 : ∀ t h' tk', Fr h₀ L h' (fun y => if y = Str.ofString "edge" then some (.int (ed4 f r d) t) else m y) → News h₀ L h' news → wpAny M A (execs rest env) Q E ⟨h', g, dr, tk', os⟩) : wpAny M A (execs (st :: rest) env) Q E ⟨h, g, dr, tk, os⟩ := mergeIf _ _ F N h1 h2
theorem wordsG31 : True := by
  k_with "subscriptTail" => (fail "w20")
  k_with "w20" => (k_here; (with_reducible show wpAny _ _ (subscriptTail _ _ (Value.ref _) (Value.int _ _)) _ _ _); k_dflt (refine item_ints (by k_asm) (by k_mem) (by assumption) (by first | decide | ((k_extra "c9"); omega) | omega) (by (try simp only [rankL_len, fileL_len]); omega) (by (try simp only [rankL_len, fileL_len]); omega) ?_ (by with_unfolding_all rfl)); intro t'; (try dsimp only); (try k_fold))
  k_with "subscriptTail Attribute" => k_extra "subscriptTail"
  k_with "subscriptTail Subscript" => k_extra "subscriptTail"
  k_with "subscriptTail" => (fail "w21")
  k_with "w21" => (k_here; (with_reducible show wpAny _ _ (subscriptTail (PySem.Expr.Name _ _) _ (Value.ref _) (Value.int _ _)) _ _ _); (with_unfolding_all refine topTupAny_K (by k_asm) (by k_asm) (by k_is) (by l_ints) (by l_idx) (by l_idx) (by l_idx) ?_); intro _)
  k_with "execs cons" => (fail "w22")
  k_with "w22" => (k_here; (with_reducible show wpAny _ _ (execs (Stmt.If _ _ _ _ :: Stmt.If _ _ _ _ :: Stmt.If _ _ _ _ :: Stmt.If _ _ _ _ :: Stmt.Return _ _ :: _) _) _ _ _); (refine merge1 (by assumption) (by k_asm) (by k_asm) ?_ ?_; rotate_left; (intro t' h' tk' F' N'; (try k_sweep)); rotate_left))
  k_with "execs cons" => (fail "w23")
  k_with "w23" => (k_here; (with_reducible show wpAny _ _ (execs (Stmt.If _ _ _ _ :: Stmt.If _ _ _ _ :: Stmt.If _ _ _ _ :: Stmt.Return _ _ :: _) _) _ _ _); (refine merge2 (by assumption) (by k_asm) (by k_asm) ?_ ?_; rotate_left; (intro t' h' tk' F' N'; (try k_sweep)); rotate_left))
  k_with "execs cons" => (fail "w24")
  k_with "w24" => (k_here; (with_reducible show wpAny _ _ (execs (Stmt.If _ _ _ _ :: Stmt.If _ _ _ _ :: Stmt.Return _ _ :: _) _) _ _ _); (refine merge3 (by assumption) (by k_asm) (by k_asm) ?_ ?_; rotate_left; (intro t' h' tk' F' N'; (try k_sweep)); rotate_left))
  k_with "execs cons" => (fail "w25")
  k_with "w25" => (k_here; (with_reducible show wpAny _ _ (execs (Stmt.If _ _ _ _ :: Stmt.Return _ _ :: _) _) _ _ _); (refine merge4 (by assumption) (by k_asm) (by k_asm) ?_ ?_; rotate_left; (intro t' h' tk' F' N'; (try k_sweep)); rotate_left))
  k_with "MergeQ" => (fail "w26")
  k_with "w26" => (refine mergeQ_ (by k_asm) (by k_asm) (by first | exact if_pos rfl | exact rfl) (by first | exact (if_pos (by assumption)).symm | exact (if_neg (by assumption)).symm) (by first | exact fun y hy => if_neg hy | exact fun y hy => rfl))
  trivial
theorem inner_spec {prog p : Program} {w : World} {loose : List Str} {mean : ExcName → Option Value} {mg mb : Str → Option Value} {dp un : Nat} {gd : Option (List Code)} {cn : Str} {cs : Scope} {a : Addr} {ccd : Value} {outer : List Env} {A₀ : Around} {base h₀ : Heap} {L : Addr} {m : Str → Option Value} {s : Shared} {Q E : Value → Shared → Prop}
    {news : List (Addr × Obj)} {cl : List (Str × Addr)}
    {T : GT} {x d fm rm ra ki kn pa ca ri : Addr} {f r sz fu : Int} {dr : Int} {td : Tok} {fvs rvs : List Value} {n1 n2 : Nat}
    (S : Site w p loose mean mg mb cs outer A₀ base h₀ L m news s.heap)
    (hsub : ∀ q ∈ [(x, instObj 203 d), (d, geoD w T f r sz fu fm rm ra ki kn pa ca ri), (fm, PySem.W.listOf fvs.toArray n1), (rm, PySem.W.listOf rvs.toArray n2)], q ∈ news) (c1 : @Ne Nat x d) (c2 : @LT.lt Nat _ x fm) (c3 : @LT.lt Nat _ d fm) (c4 : @LT.lt Nat _ fm rm)
    (hf1 : 2 ≤ f) (hf2 : f ≤ 4) (hr1 : 3 ≤ r) (hr2 : r ≤ 6) (hfi : IntsAre fvs (fileL f r.toNat f.toNat)) (hri : IntsAre rvs (rankL f r.toNat)) (hfu : fu = 2 ^ (f * r).toNat - 1) (hd0 : 0 ≤ dr) (hd7 : dr < 8)
    (hdp : dp + 20 < recursionLimit) (hun : un + 200 < cLine)
    (h : ∀ (v : Int) (t : Tok) (h' : Heap) (tk' : Nat), InnerOk f r dr v → Fr h₀ L h' m → News h₀ L h' news → Q (.int v t) { s with heap := h', toks := tk' }) :
    wpAny (model prog w) (ktrTop dp un gd cn cs L a ccd cl outer) (call (.ref 228) [.ref x, .int dr td]) Q E s := by
  have mk : Mk f r dr := ⟨rfl, rfl, rfl⟩
  ktr_enter
  k_steps
  all_goals exact leaveE_ (by assumption) (by assumption) ⟨news, cond_read S.N hsub (by k_allIn), fun F9 N9 => h _ _ _ _ (inner_ok hf1 hf2 hr1 hr2 hfu hd0 hd7) F9 N9⟩
end Mine
end

section
namespace Mine
theorem wordsG3b0 : True := by
  k_with_none
  w_top off
  k_with "a9" => (with_reducible assumption)
  k_with "c9" => (repeat (with_reducible rename _ ∧ _ => hA9; clear hA9)); (repeat (with_reducible rename _ ≠ _ => hA9; clear hA9))
  k_with "u9" => ((with_reducible rename News _ _ _ _ => N9); dsimp +zetaDelta only at N9)
  k_with "p0" => (refine offAt (by fail "a9") 0 ?_; exact rfl)
  k_with "p1" => (refine offAt (by fail "a9") 1 ?_; exact rfl)
  k_with "p2" => (refine offAt (by fail "a9") 2 ?_; exact rfl)
  k_with "p3" => (refine offAt (by fail "a9") 3 ?_; exact rfl)
  k_with "p4" => (refine offAt (by fail "a9") 4 ?_; exact rfl)
  k_with "p5" => (refine offAt (by fail "a9") 5 ?_; exact rfl)
  k_with "p6" => (refine offAt (by fail "a9") 6 ?_; exact rfl)
  k_with "p7" => (refine offAt (by fail "a9") 7 ?_; exact rfl)
  k_with "p8" => (refine offAt (by fail "a9") 8 ?_; exact rfl)
  k_with "p9" => (refine offAt (by fail "a9") 9 ?_; exact rfl)
  k_with "p10" => (refine offAt (by fail "a9") 10 ?_; exact rfl)
  k_with "p11" => (refine offAt (by fail "a9") 11 ?_; exact rfl)
  k_with "p12" => (refine offAt (by fail "a9") 12 ?_; exact rfl)
  k_with "p13" => (refine offAt (by fail "a9") 13 ?_; exact rfl)
  k_with "p14" => (refine ltAt (by fail "a9") 0 ?_; exact rfl)
  k_with "p15" => (refine ltAt (by fail "a9") 1 ?_; exact rfl)
  k_with "p16" => (refine ltAt (by fail "a9") 2 ?_; exact rfl)
  k_with "p17" => (refine ltAt (by fail "a9") 3 ?_; exact rfl)
  k_with "p18" => (refine ltAt (by fail "a9") 4 ?_; exact rfl)
  k_with "p19" => (refine ltAt (by fail "a9") 5 ?_; exact rfl)
  k_with "p20" => (refine ltAt (by fail "a9") 6 ?_; exact rfl)
  k_with "p21" => (refine ltAt (by fail "a9") 7 ?_; exact rfl)
  k_with "p22" => (refine ltAt (by fail "a9") 8 ?_; exact rfl)
  k_with "p23" => (refine ltAt (by fail "a9") 9 ?_; exact rfl)
  k_with "p24" => (refine ltAt (by fail "a9") 10 ?_; exact rfl)
  k_with "p25" => (refine ltAt (by fail "a9") 11 ?_; exact rfl)
  k_with "p26" => (refine ltAt (by fail "a9") 12 ?_; exact rfl)
  k_with "p27" => (refine ltAt (by fail "a9") 13 ?_; exact rfl)
  k_with "r9" => (fail "w1")
  k_with "w1" => (first | fail "a9" | exact Nat.le_of_lt (by fail "a9"))
  k_with "offs9" => (first | fail "p0" | fail "p1" | fail "p2" | fail "p3" | fail "p4" | fail "p5" | fail "p6" | fail "p7" | fail "p8" | fail "p9" | fail "p10" | fail "p11" | fail "p12" | fail "p13" | fail "p14" | fail "p15" | fail "p16" | fail "p17" | fail "p18" | fail "p19" | fail "p20" | fail "p21" | fail "p22" | fail "p23" | fail "p24" | fail "p25" | fail "p26" | fail "p27")
  k_with "mem9" => (fail "w2")
  k_with "w2" => (first | exact List.Mem.head _ | exact List.Mem.tail _ (List.Mem.head _) | (refine memAt 0 ?_; exact rfl) | (refine memAt 1 ?_; exact rfl) | (refine memAt 2 ?_; exact rfl) | (refine memAt 3 ?_; exact rfl) | (refine memAt 4 ?_; exact rfl) | (refine memAt 5 ?_; exact rfl) | (refine memAt 6 ?_; exact rfl) | (refine memAt 7 ?_; exact rfl) | (refine memAt 8 ?_; exact rfl) | (refine memAt 9 ?_; exact rfl) | (refine memAt 10 ?_; exact rfl) | (refine memAt 11 ?_; exact rfl) | (refine memAt 12 ?_; exact rfl) | (refine memAt 13 ?_; exact rfl) | (refine memAt 14 ?_; exact rfl) | (refine memAt 15 ?_; exact rfl) | (refine memAt 16 ?_; exact rfl) | (refine memAt 17 ?_; exact rfl))
  k_with "lts9" => (fail "w3")
  k_with "w3" => (first | (refine ltB (by fail "a9") 0 ?_; exact rfl) | (refine ltB (by fail "a9") 1 ?_; exact rfl) | (refine ltB (by fail "a9") 2 ?_; exact rfl) | (refine ltB (by fail "a9") 3 ?_; exact rfl) | (refine ltB (by fail "a9") 4 ?_; exact rfl) | (refine ltB (by fail "a9") 5 ?_; exact rfl) | (refine ltB (by fail "a9") 6 ?_; exact rfl) | (refine ltB (by fail "a9") 7 ?_; exact rfl) | (refine ltB (by fail "a9") 8 ?_; exact rfl) | (refine ltB (by fail "a9") 9 ?_; exact rfl) | (refine ltB (by fail "a9") 10 ?_; exact rfl) | (refine ltB (by fail "a9") 11 ?_; exact rfl) | (refine ltB (by fail "a9") 12 ?_; exact rfl) | (refine ltB (by fail "a9") 13 ?_; exact rfl))
  k_with "rooms9" => (fail "w4")
  k_with "w4" => (first | (refine rl2 (by fail "r9") ?_; exact rfl) | (refine rl1 (by fail "r9") ?_; exact rfl) | (refine rl3 (by fail "r9") ?_; exact rfl) | (refine rl0 (by fail "r9") ?_; exact rfl) | (refine rl4 (by fail "r9") ?_; exact rfl) | (refine rm2 (by fail "r9") ?_; exact rfl) | (refine rm1 (by fail "r9") ?_; exact rfl) | (refine rm3 (by fail "r9") ?_; exact rfl) | (refine rm0 (by fail "r9") ?_; exact rfl) | (refine rm4 (by fail "r9") ?_; exact rfl))
  k_with "k_ne" => (fail "w5")
  k_with "w5" => (refine neN ?_; (try dsimp only); first | fail "a9" | (refine Ne.symm ?_; fail "a9") | exact Nat.ne_of_lt (by fail "a9") | exact Nat.ne_of_gt (by fail "a9") | k_extra "offs9" | (refine Ne.symm ?_; first | k_extra "offs9") | ((try simp only [LCg.Off1, and_true] at *); omega))
  k_with "k_mem" => (fail "w6")
  k_with "w6" => (first | fail "a9" | k_extra "mem9")
  k_with "k_memK" => (first | k_extra "mem9")
  k_with "is_list" => (fail "w7")
  k_with "w7" => (exact News.isList (by fail "a9") (by k_mem))
  k_with "ktr_room" => (fail "w8")
  k_with "w8" => ((try dsimp only [depth_under_make, depth_under_kw, depth_in1, depth_deeper, depth_caller]); (try dsimp only [ktrTop]); first | decide | k_extra "rooms9")
  k_with "units_room" => (fail "w9")
  k_with "w9" => ((try dsimp only [units_in1, units_deeper, Around.mark_units, units_caller]); (try dsimp only [ktrTop]); first | decide | k_extra "rooms9")
  k_with "l_idx" => ((k_extra "c9"); omega)
  k_with "l_fit" => ((k_extra "c9"); omega)
  k_with "ktr_units" => (fail "w10")
  k_with "w10" => ((try dsimp only [units_in1, units_deeper, Around.mark_units, units_caller]); (try dsimp only [ktrTop]); first | decide | k_extra "rooms9")
  k_with "execs cons" => (fail "w11")
  k_with "w11" => (k_here; first | k_gentoks | ((try dsimp only); (try k_gentoks); (try (with_reducible refine letA ?_; intro A9)); (try ((with_reducible rename Fr _ _ _ _ => F9); refine letF F9 ?_; clear F9; intro m9 F9)); (try ((with_reducible rename News _ _ _ _ => N9); refine letN N9 ?_; clear N9; intro n9 N9)); (first | (with_reducible refine execHidB fun q9 hq9 => ?_) | (refine hideQ fun q9 hq9 => ?_; with_reducible refine execHidB fun q9 hq9 => ?_))))
  k_with "Hid" => (fail "w12")
  k_with "w12" => (first | ((with_reducible refine unhidNextT (by fail "a9") ?_); intro tk9; (try dsimp only)) | ((with_reducible refine unhidNext (by fail "a9") ?_); (try dsimp only)) | ((with_reducible refine unhidRet (by fail "a9") ?_); (try dsimp only)) | ((with_reducible refine unhid (by fail "a9") ?_); (try dsimp only [Behind])))
  k_with "spliced" => (fail "w13")
  k_with "w13" => (k_here; (with_reducible show wpAny _ _ (spliced (backTo _ (starEach (_ :: _ :: _ :: _) _))) _ _ _); k_dflt (refine' args_cons ?_ ?_; rotate_left; rfl))
  k_with "spliced" => (fail "w14")
  k_with "w14" => (k_here; k_dflt ((refine' argsF ?_ ?_ ?_ ?_); (rotate_left 4); k_asm; rfl; rfl); (try dsimp only [List.nil_append, List.cons_append]))
  k_with "eval Call" => (fail "w15")
  k_with "w15" => (k_here; (with_reducible show wpAny _ _ (eval (PySem.Expr.Call (PySem.Expr.Name _ _) (_ :: _) [] _) _) _ _ _); first | (k_dflt ((refine' callF ?_ ?_ ?_ ?_ ?_ ?_ ?_ ?_ ?_ ?_ ?_); (rotate_left 10); k_asm; k_asm; k_asm; k_is; k_is; rfl; rfl; rfl; rotate_left; decide; rfl)) | k_compRoot | k_dflt (refine' Call_ ?_))
  k_with "eval Name" => (fail "w16")
  k_with "w16" => (k_here; (with_reducible show wpAny _ _ (eval (PySem.Expr.Name _ _) (envOf _ _ _ _ _)) _ _ _); first | k_dflt ((refine' nameX_K ?_ ?_ ?_ ?_ ?_ ?_ ?_ ?_); (rotate_left 8); k_asm; k_asm; k_asm; k_is; rotate_left; rfl; rfl; decide) | k_dflt ((refine' nameX_L ?_ ?_ ?_ ?_ ?_ ?_); (rotate_left 3); k_asm; rfl; rotate_left; rfl; rfl; decide))
  k_with "callWith ref" => (fail "w17")
  k_with "w17" => (k_here; (with_reducible show wpAny _ _ (callWith _ _ _ (backTo _ (starEach [] _)) []) _ _ _); k_dflt (refine callF0 (by fail "a9") (by fail "a9") (by k_is) ?_))
  k_with "last getItem" => k_extra "u9"
  k_with "last setItem" => k_extra "u9"
  k_with "last setAttr" => k_extra "u9"
  k_with "last getAttr" => k_extra "u9"
  k_with "last subscriptTail" => k_extra "u9"
  k_with "last getMethod" => k_extra "u9"
  k_with "last call" => k_extra "u9"
  k_with "last pyIter" => k_extra "u9"
  k_with "last eval" => k_extra "u9"
  k_with "last exec" => k_extra "u9"
  k_with "last inplaceOp" => k_extra "u9"
  k_with "last binaryOp" => k_extra "u9"
  k_with "last InvEndN" => k_extra "u9"
  k_with "last GEnd" => k_extra "u9"
  k_with "last KEnd" => k_extra "u9"
  k_with "last LeaveT" => k_extra "u9"
  k_with "last noteFrame" => k_extra "u9"
  k_with "last leaving" => k_extra "u9"
  k_with "ktr_enter" => (fail "w18")
  k_with "w18" => (refine enterK (by assumption) (by assumption) (by k_is) (by k_is) (by ktr_room) (by exact BindsTo.of_eq rfl) (by exact locs rfl) ?_ (by exact rfl) (by exact rfl) (by exact rfl) (by decide); k_whole; intro g' L' h' F' N' B' X' T' lN' gN' tk9'; (try k_lt lN'); (try dsimp only); (try k_fold))
  k_with "call type:range" => (fail "w19")
  k_with "w19" => (k_here; (rename Fr _ _ _ _ => F'); (rename News _ _ _ _ => N'); first | (with_unfolding_all refine range1_rows F' N' ?_; intro _ _ _ _ _ _ _ _ _) | (with_unfolding_all refine range2_rows F' N' ?_; intro _ _ _ _ _ _ _ _ _))
  trivial
theorem grow_spec {prog p : Program} {w : World} {loose : List Str} {mean : ExcName → Option Value} {mg mb : Str → Option Value} {dp un : Nat} {gd : Option (List Code)} {cn : Str} {cs : Scope} {a : Addr} {ccd : Value} {outer : List Env} {A₀ : Around} {base h₀ : Heap} {L : Addr} {m : Str → Option Value} {s : Shared} {Q E : Value → Shared → Prop}
    {news : List (Addr × Obj)} {cl : List (Str × Addr)}
    {dr : Int} {td : Tok}
    (S : Site w p loose mean mg mb cs outer A₀ base h₀ L m news s.heap)
    (hd0 : 0 ≤ dr) (hd7 : dr < 8)
    (hdp : dp + 20 < recursionLimit) (hun : un + 200 < cLine)
    (h : ∀ (b : Bool) (h' : Heap) (tk' : Nat), Fr h₀ L h' m → News h₀ L h' news → Q (.bool b) { s with heap := h', toks := tk' }) :
    wpAny (model prog w) (ktrTop dp un gd cn cs L a ccd cl outer) (call (.ref 214) [.int dr td]) Q E s := by
  have hsub : ∀ q ∈ ([] : List (Addr × Obj)), q ∈ news := fun _ h => nomatch h
  k_dflt ktr_enter
  k_steps
  all_goals exact leaveE_ (by assumption) (by assumption) ⟨news, fun q hq => .inr ⟨hq, fun x hx => nomatch hx⟩, fun F9 N9 => h _ _ _ F9 N9⟩
end Mine
end

section
namespace Mine
theorem resetGL : True := by (k_with_none; w_top off); trivial
open PyProof.V
/-- the end of a turn that may keep what it made -/
def GEnd {σ : Type} (h₀ : Heap) (L : Addr) (small : σ → List (Addr × Obj)) (adr : List Addr) (ps : σ → List (Str × Value)) (x : Str) (stored : List Str) (m₀ : Str → Option Value) (P : List Int → σ → List (Addr × Obj) → Prop) (pre : List Int) (R own : List (Addr × Obj)) (s₁ s₂ : Shared) : Prop :=
  ∃ c h' tk m' news' extra, s₂ = { s₁ with heap := h', toks := tk } ∧ Fr h₀ L h' m' ∧ News h₀ L h' news' ∧ (∀ p ∈ small c, p ∈ news') ∧ (∀ p ∈ own, p ∈ news') ∧ (small c).map (·.1) = adr ∧ (∀ p ∈ extra, p ∈ news') ∧ (∀ p ∈ extra, p.2.cls = .type "list") ∧ OwnOff extra adr ∧
    (∀ p ∈ ps c, m' p.1 = some p.2) ∧ (∀ z, z ≠ x → (∀ p ∈ ps c, z ≠ p.1) → stored.contains z = false → m' z = m₀ z) ∧ P pre c (R ++ extra)
theorem gEnd_ {σ : Type} {h₀ h' : Heap} {L : Addr} {small : σ → List (Addr × Obj)} {adr : List Addr} {ps : σ → List (Str × Value)} {x : Str} {stored : List Str} {m₀ m' : Str → Option Value} {P : List Int → σ → List (Addr × Obj) → Prop} {pre : List Int} {R own : List (Addr × Obj)} {s₁ : Shared} {tk : Nat} {news' : List (Addr × Obj)} (c : σ) (extra : List (Addr × Obj))
    (F : Fr h₀ L h' m') (N : News h₀ L h' news') (h1 : ∀ p ∈ small c, p ∈ news') (h2 : ∀ p ∈ own, p ∈ news') (h3 : (small c).map (·.1) = adr) (h4 : ∀ p ∈ extra, p ∈ news') (h5 : ∀ p ∈ extra, p.2.cls = .type "list") (h6 : OwnOff extra adr)
    (h7 : ∀ p ∈ ps c, m' p.1 = some p.2) (h8 : ∀ z, z ≠ x → (∀ p ∈ ps c, z ≠ p.1) → stored.contains z = false → m' z = m₀ z) (h9 : P pre c (R ++ extra)) : GEnd h₀ L small adr ps x stored m₀ P pre R own s₁ { s₁ with heap := h', toks := tk } :=
  ⟨c, h', tk, m', news', extra, rfl, F, N, h1, h2, h3, h4, h5, h6, h7, h8, h9⟩
theorem nomem {α : Type} {P : α → Prop} : ∀ p ∈ ([] : List α), P p := fun p hp => nomatch hp
def GPost {σ : Type} (h₀ : Heap) (L : Addr) (small : σ → List (Addr × Obj)) (adr : List Addr) (ps : σ → List (Str × Value)) (x : Str) (stored : List Str) (m₀ : Str → Option Value) (P : List Int → σ → List (Addr × Obj) → Prop) (pre : List Int) (R own : List (Addr × Obj)) (s₁ : Shared) (Q : Flow → Shared → Prop) (f : Flow) (s₂ : Shared) : Prop :=
  match f with
  | .ret v => Q (.ret v) s₂
  | .brk => Q .next s₂
  | _ => GEnd h₀ L small adr ps x stored m₀ P pre R own s₁ s₂
/-- a range -/
abbrev rgO (a b c : Int) (t u v : Tok) : Obj := { cls := .type "range", dict := none, data := .fields #[.int a t, .int b u, .int c v], slots := #[] }
section
variable {prog : Program} {w : World} {A : Around} {E : Value → Shared → Prop} {s : Shared} {h₀ : Heap} {L : Addr} {m : Str → Option Value} {news : List (Addr × Obj)} {Q : Value → Shared → Prop}
theorem led_push {o : Obj} (ho : o.isFreed = false) (F : Fr h₀ L s.heap m) (N : News h₀ L s.heap news) : LCg.Off1 s.heap.objs.size news ∧ Fr h₀ L (s.heap.push o) m ∧ News h₀ L (s.heap.push o) ((s.heap.objs.size, o) :: news) := by
  refine ⟨off1_of fun q hq e => ?_, F.push _, fun p hp => ?_⟩
  · exact absurd (Heap.lt_size (N q hq).1) (e ▸ Nat.lt_irrefl _)
  · rcases List.mem_cons.mp hp with rfl | hp
    · exact ⟨Heap.get?_push_size _ ho, Nat.ne_of_gt F.ns.lt, next_is_new F⟩
    · exact ⟨Heap.get?_push_of_some _ (N p hp).1, (N p hp).2⟩
theorem range_led1 {n : Int} {t : Tok} (F : Fr h₀ L s.heap m) (N : News h₀ L s.heap news)
    (h : ∀ r h' tk t₁ u₁ v₁, LCg.Off1 r news → Fr h₀ L h' m → News h₀ L h' ((r, rgO 0 n 1 t₁ u₁ v₁) :: news) → Q (.ref r) { s with heap := h', toks := tk }) :
    wpAny (model prog w) A (call (.type "range") [.int n t]) Q E s :=
  call_range_1 (by
    have q := led_push (o := rgO 0 n 1 s.toks t (s.toks + 1)) rfl F N
    exact h _ _ _ _ _ _ q.1 q.2.1 q.2.2)
theorem range_led3 {a b : Int} {t u v : Tok} (F : Fr h₀ L s.heap m) (N : News h₀ L s.heap news) (hp : Builtin.divisionGoesByPylong (b - a) (-1) = false)
    (h : ∀ r h' tk t₁ u₁ v₁, LCg.Off1 r news → Fr h₀ L h' m → News h₀ L h' ((r, rgO a b (-1) t₁ u₁ v₁) :: news) → Q (.ref r) { s with heap := h', toks := tk }) :
    wpAny (model prog w) A (call (.type "range") [.int a t, .int b u, .int (-1) v]) Q E s :=
  call_range_3 (by decide) (by
    have q := led_push (o := rgO a b (-1) t u v) rfl F N
    exact h _ _ _ _ _ _ q.1 q.2.1 q.2.2) (.inl hp)
end
section
variable {prog : Program} {w : World} {A : Around} {E : Value → Shared → Prop} {s : Shared} {env : Env} {h₀ : Heap} {x : Str} {body : List Stmt} {Q : Flow → Shared → Prop}
theorem kst_rangeG {σ : Type} {r : Addr} {a₀ b₀ st : Int} {t₀ u₀ v₀ : Tok} {n : Nat} {m₀ : Str → Option Value} {R₀ : List (Addr × Obj)} (small : σ → List (Addr × Obj)) (ps : σ → List (Str × Value)) (stored : List Str) (P : List Int → σ → List (Addr × Obj) → Prop) (c₀ : σ)
    (hh : A.handled = none) (hr : IsRange s.heap r a₀ b₀ st t₀ u₀ v₀) (hsmall : Builtin.Range.small a₀ b₀ st = true) (hn : Builtin.Range.rangeSize a₀ b₀ st = (n : Int)) (F : Fr h₀ env.locals s.heap m₀) (N : News h₀ env.locals s.heap (small c₀ ++ R₀)) (hof : OwnOff R₀ ((small c₀).map (·.1))) (hk : ∀ p ∈ ps c₀, m₀ p.1 = some p.2) (hp : P [] c₀ R₀)
    (turn : ∀ (c : σ) (pre : List Int) (k : Int) t (u : Str → Option Value) h tk R own, k = a₀ + (pre.length : Int) * st → pre.length < n → (∀ p ∈ R, p ∈ own) → OwnOff own ((small c₀).map (·.1)) → P pre c R →
      Fr h₀ env.locals h (fun y => if y = x then some (.int k t) else kstB (fun z => if stored.contains z then u z else m₀ z) (ps c) y) → News h₀ env.locals h (small c ++ own) →
      wpAny (model prog w) A (execs body env) (GPost h₀ env.locals small ((small c₀).map (·.1)) ps x stored m₀ P (pre ++ [k]) R own { s with heap := h, toks := tk } Q) E { s with heap := h, toks := tk })
    (done : ∀ (c : σ) (u : Str → Option Value) h tk R, P (stepKs a₀ st n) c R → OwnOff R ((small c₀).map (·.1)) → Fr h₀ env.locals h (fun y => if y = x then u y else kstB (fun z => if stored.contains z then u z else m₀ z) (ps c) y) → News h₀ env.locals h (small c ++ R) → Q .next { s with heap := h, toks := tk }) :
    wpAny (model prog w) A (pyIter (.ref r)) (fun it s₂ => LoopAtV prog w A h₀ env x body Q E it s₂) E s := by
  refine wpAny_pyIter_range hr hsmall ?_
  have W : Walks prog w A s.heap.objs.size [s.heap.objs.size] [s.heap.objs.size] n (fun i v => i < n ∧ ∃ t, v = .int (a₀ + i * st) t)
      (fun i h => IsRangeIter h s.heap.objs.size (a₀ + (i : Nat) * st) ((n : Int) - (i : Nat)) st) := (Walks.range hh _ a₀ st n).bound
  have hnew := next_is_new F
  let adr := (small c₀).map (·.1)
  have nI : ∀ b ∈ adr, b ≠ s.heap.objs.size := fun b hb e => by
    obtain ⟨q, hq, rfl⟩ := List.mem_map.mp hb
    exact absurd (Heap.lt_size (N q (List.mem_append_left _ hq)).1) (e ▸ Nat.lt_irrefl _)
  let J : Nat → (Str → Option Value) → List (Addr × Obj) → Prop := fun i m₁ news₁ => ∃ c R, news₁ = small c ++ R ∧ (small c).map (·.1) = adr ∧ OwnOff R adr ∧ (∀ p ∈ ps c, m₁ p.1 = some p.2) ∧ (∀ z, z ≠ x → (∀ p ∈ ps c, z ≠ p.1) → stored.contains z = false → m₁ z = m₀ z) ∧ P ((stepKs a₀ st n).take i) c R
  refine ⟨_, _, _, n, _, _, m₀, small c₀ ++ R₀, J, rfl, W, ?_, ?_, ?_, (by show IsRangeIter _ _ _ _ _; rw [hn]; simpa using Heap.get?_push_size _ rfl), F.push _, (fun p hp => ⟨Heap.get?_push_of_some _ (N p hp).1, (N p hp).2⟩), ⟨c₀, R₀, rfl, rfl, hof, hk, fun _ _ _ _ => rfl, by simpa using hp⟩, ?_, ?_⟩
  · intro hm
    exact absurd F.ns.lt ((List.mem_singleton.mp hm) ▸ Nat.lt_irrefl _)
  · intro b hb
    rw [List.mem_singleton.mp hb]
    exact hnew
  · intro p hp hI
    exact absurd (Heap.lt_size (N p hp).1) ((List.mem_singleton.mp hI) ▸ Nat.lt_irrefl _)
  · rintro i v m₁ news₁ s₁ own ⟨hh', tk', rfl⟩ hin ⟨_, t, rfl⟩ h9_11 hnw hown hget hall hst F₁ N₁
    refine ex2 h9_11 ?_
    clear h9_11
    intro c R hc9_11
    refine an6 hc9_11 ?_
    clear hc9_11
    intro e9_11_0 hadr hoff h1 h2 hp'
    subst e9_11_0
    obtain ⟨oI, hoI, hcI⟩ : ∃ oI : Obj, hh'.get? s.heap.objs.size = some oI ∧ oI.cls = .type "range_iterator" := ⟨_, hst, rfl⟩
    have hmem := hall s.heap.objs.size (List.mem_singleton.mpr rfl) hnew _ hoI
    have hone : ∀ p ∈ own, p = (s.heap.objs.size, oI) := fun p hp => by
      have e1 : p.1 = s.heap.objs.size := List.mem_singleton.mp (hown p hp)
      have e2 : hh'.get? p.1 = some p.2 := hget p hp
      rw [e1, hoI] at e2
      exact Prod.ext e1 (Option.some.inj e2).symm
    have hk' : (stepKs a₀ st n)[i]? = some (a₀ + (i : Int) * st) := by simp [stepKs, hin]
    have hs : (stepKs a₀ st n).take (i + 1) = (stepKs a₀ st n).take i ++ [a₀ + (i : Int) * st] := by simp [List.take_add_one, hk']
    have hlen : ((stepKs a₀ st n).take i).length = i := by rw [List.length_take, stepKs_length]; omega
    have N₂ : News h₀ env.locals hh' (small c ++ (R ++ own)) := fun p hp => N₁ p (by
      rcases List.mem_append.mp hp with h | h
      · exact List.mem_append_right _ (List.mem_append_left _ h)
      · rcases List.mem_append.mp h with h | h
        · exact List.mem_append_right _ (List.mem_append_right _ h)
        · exact List.mem_append_left _ h)
    have hoff' : OwnOff (R ++ own) adr := fun p hp b hb => by
      rcases List.mem_append.mp hp with h | h
      · exact hoff p h b hb
      · rw [hone p h]
        exact Ne.symm (nI b hb)
    refine wpAny_mono (turn c _ _ t m₁ hh' tk' R (R ++ own) (by rw [hlen]) (by rw [hlen]; exact hin) (fun p hp => List.mem_append_left _ hp) hoff' hp' (kst_fr h1 h2 F₁) N₂) (fun f s₂ p => ?_) fun _ _ e => e
    have fin : GEnd h₀ env.locals small adr ps x stored m₀ P ((stepKs a₀ st n).take i ++ [a₀ + (i : Int) * st]) R (R ++ own) { s with heap := hh', toks := tk' } s₂ → LoopStepU h₀ env.locals [s.heap.objs.size] own (J (i + 1)) { s with heap := hh', toks := tk' } .next s₂ := by
      intro h9_12
      refine ex6 h9_12 ?_
      clear h9_12
      intro c' h' tk m' news' extra hc9_12
      refine an12 hc9_12 ?_
      clear hc9_12
      intro e F' N' hsub hown' hadr' hex hcls hofx k1 k2 kp
      refine ⟨rfl, h', tk, m', small c' ++ (R ++ extra), e, F', fun p hp => N' p ?_, fun p hp hI => ?_, c', R ++ extra, rfl, hadr', ?_, k1, k2, by rw [hs]; exact kp⟩
      · rcases List.mem_append.mp hp with h | h
        · exact hown' p (List.mem_append_right _ h)
        · rcases List.mem_append.mp h with h | h
          · exact hsub p h
          · rcases List.mem_append.mp h with h | h
            · exact hown' p (List.mem_append_left _ h)
            · exact hex p h
      · have hI' := List.mem_singleton.mp hI
        rcases List.mem_append.mp hp with h | h
        · have : p.1 ∈ adr := hadr' ▸ List.mem_map_of_mem h
          exact nI _ this hI'
        · rcases List.mem_append.mp h with h | h
          · exact hnw p (List.mem_append_right _ h) hI
          · have a1 := (N' p (hex p h)).1
            have a2 := (N' _ (hown' _ (List.mem_append_right _ hmem))).1
            rw [hI', a2] at a1
            have a3 := hcls p h
            rw [← Option.some.inj a1, hcI] at a3
            exact absurd (Value.type.inj a3) (by decide)
      · intro p hp b hb
        rcases List.mem_append.mp hp with h | h
        · exact hoff p h b hb
        · exact hofx p h b hb
    cases f with
    | ret v => exact .ret p
    | brk => exact .brk p
    | next => exact .next (fin p)
    | cont => exact .cont (fin p)
  · rintro h' tk m' news' F' N' _ h9_13
    refine ex2 h9_13 ?_
    clear h9_13
    intro c R hc9_13
    refine an6 hc9_13 ?_
    clear hc9_13
    intro e9_13_0 hadr hoff h1 h2 hp'
    subst e9_13_0
    have hl : (stepKs a₀ st n).take n = stepKs a₀ st n := List.take_of_length_le (Nat.le_of_eq (stepKs_length _ _ _))
    rw [hl] at hp'
    exact done c m' h' tk R hp' hoff (kst_frOut h1 h2 F') N'
end
end Mine
end

section
namespace Mine
theorem wordsG40 : True := by
  k_with_none
  w_top off
  k_with "a9" => (with_reducible assumption)
  k_with "c9" => (repeat (with_reducible rename _ ∧ _ => hA9; clear hA9)); (repeat (with_reducible rename _ ≠ _ => hA9; clear hA9))
  k_with "u9" => ((with_reducible rename News _ _ _ _ => N9); dsimp +zetaDelta only at N9)
  k_with "p0" => (refine offAt (by fail "a9") 0 ?_; exact rfl)
  k_with "p1" => (refine offAt (by fail "a9") 1 ?_; exact rfl)
  k_with "p2" => (refine offAt (by fail "a9") 2 ?_; exact rfl)
  k_with "p3" => (refine offAt (by fail "a9") 3 ?_; exact rfl)
  k_with "p4" => (refine offAt (by fail "a9") 4 ?_; exact rfl)
  k_with "p5" => (refine offAt (by fail "a9") 5 ?_; exact rfl)
  k_with "p6" => (refine offAt (by fail "a9") 6 ?_; exact rfl)
  k_with "p7" => (refine offAt (by fail "a9") 7 ?_; exact rfl)
  k_with "p8" => (refine offAt (by fail "a9") 8 ?_; exact rfl)
  k_with "p9" => (refine offAt (by fail "a9") 9 ?_; exact rfl)
  k_with "p10" => (refine offAt (by fail "a9") 10 ?_; exact rfl)
  k_with "p11" => (refine offAt (by fail "a9") 11 ?_; exact rfl)
  k_with "p12" => (refine offAt (by fail "a9") 12 ?_; exact rfl)
  k_with "p13" => (refine offAt (by fail "a9") 13 ?_; exact rfl)
  k_with "p14" => (refine ltAt (by fail "a9") 0 ?_; exact rfl)
  k_with "p15" => (refine ltAt (by fail "a9") 1 ?_; exact rfl)
  k_with "p16" => (refine ltAt (by fail "a9") 2 ?_; exact rfl)
  k_with "p17" => (refine ltAt (by fail "a9") 3 ?_; exact rfl)
  k_with "p18" => (refine ltAt (by fail "a9") 4 ?_; exact rfl)
  k_with "p19" => (refine ltAt (by fail "a9") 5 ?_; exact rfl)
  k_with "p20" => (refine ltAt (by fail "a9") 6 ?_; exact rfl)
  k_with "p21" => (refine ltAt (by fail "a9") 7 ?_; exact rfl)
  k_with "p22" => (refine ltAt (by fail "a9") 8 ?_; exact rfl)
  k_with "p23" => (refine ltAt (by fail "a9") 9 ?_; exact rfl)
  k_with "p24" => (refine ltAt (by fail "a9") 10 ?_; exact rfl)
  k_with "p25" => (refine ltAt (by fail "a9") 11 ?_; exact rfl)
  k_with "p26" => (refine ltAt (by fail "a9") 12 ?_; exact rfl)
  k_with "p27" => (refine ltAt (by fail "a9") 13 ?_; exact rfl)
  k_with "r9" => (fail "w1")
  k_with "w1" => (first | fail "a9" | exact Nat.le_of_lt (by fail "a9"))
  k_with "offs9" => (first | fail "p0" | fail "p1" | fail "p2" | fail "p3" | fail "p4" | fail "p5" | fail "p6" | fail "p7" | fail "p8" | fail "p9" | fail "p10" | fail "p11" | fail "p12" | fail "p13" | fail "p14" | fail "p15" | fail "p16" | fail "p17" | fail "p18" | fail "p19" | fail "p20" | fail "p21" | fail "p22" | fail "p23" | fail "p24" | fail "p25" | fail "p26" | fail "p27")
  k_with "mem9" => (fail "w2")
  k_with "w2" => (first | exact List.Mem.head _ | exact List.Mem.tail _ (List.Mem.head _) | (refine memAt 0 ?_; exact rfl) | (refine memAt 1 ?_; exact rfl) | (refine memAt 2 ?_; exact rfl) | (refine memAt 3 ?_; exact rfl) | (refine memAt 4 ?_; exact rfl) | (refine memAt 5 ?_; exact rfl) | (refine memAt 6 ?_; exact rfl) | (refine memAt 7 ?_; exact rfl) | (refine memAt 8 ?_; exact rfl) | (refine memAt 9 ?_; exact rfl) | (refine memAt 10 ?_; exact rfl) | (refine memAt 11 ?_; exact rfl) | (refine memAt 12 ?_; exact rfl) | (refine memAt 13 ?_; exact rfl) | (refine memAt 14 ?_; exact rfl) | (refine memAt 15 ?_; exact rfl) | (refine memAt 16 ?_; exact rfl) | (refine memAt 17 ?_; exact rfl))
  k_with "lts9" => (fail "w3")
  k_with "w3" => (first | (refine ltB (by fail "a9") 0 ?_; exact rfl) | (refine ltB (by fail "a9") 1 ?_; exact rfl) | (refine ltB (by fail "a9") 2 ?_; exact rfl) | (refine ltB (by fail "a9") 3 ?_; exact rfl) | (refine ltB (by fail "a9") 4 ?_; exact rfl) | (refine ltB (by fail "a9") 5 ?_; exact rfl) | (refine ltB (by fail "a9") 6 ?_; exact rfl) | (refine ltB (by fail "a9") 7 ?_; exact rfl) | (refine ltB (by fail "a9") 8 ?_; exact rfl) | (refine ltB (by fail "a9") 9 ?_; exact rfl) | (refine ltB (by fail "a9") 10 ?_; exact rfl) | (refine ltB (by fail "a9") 11 ?_; exact rfl) | (refine ltB (by fail "a9") 12 ?_; exact rfl) | (refine ltB (by fail "a9") 13 ?_; exact rfl))
  k_with "rooms9" => (fail "w4")
  k_with "w4" => (first | (refine rl2 (by fail "r9") ?_; exact rfl) | (refine rl1 (by fail "r9") ?_; exact rfl) | (refine rl3 (by fail "r9") ?_; exact rfl) | (refine rl0 (by fail "r9") ?_; exact rfl) | (refine rl4 (by fail "r9") ?_; exact rfl) | (refine rm2 (by fail "r9") ?_; exact rfl) | (refine rm1 (by fail "r9") ?_; exact rfl) | (refine rm3 (by fail "r9") ?_; exact rfl) | (refine rm0 (by fail "r9") ?_; exact rfl) | (refine rm4 (by fail "r9") ?_; exact rfl))
  k_with "k_ne" => (fail "w5")
  k_with "w5" => (refine neN ?_; (try dsimp only); first | fail "a9" | (refine Ne.symm ?_; fail "a9") | exact Nat.ne_of_lt (by fail "a9") | exact Nat.ne_of_gt (by fail "a9") | k_extra "offs9" | (refine Ne.symm ?_; first | k_extra "offs9") | ((try simp only [LCg.Off1, and_true] at *); omega))
  k_with "k_mem" => (fail "w6")
  k_with "w6" => (first | fail "a9" | k_extra "mem9")
  k_with "k_memK" => (first | k_extra "mem9")
  k_with "is_list" => (fail "w7")
  k_with "w7" => (exact News.isList (by fail "a9") (by k_mem))
  k_with "ktr_room" => (fail "w8")
  k_with "w8" => ((try dsimp only [depth_under_make, depth_under_kw, depth_in1, depth_deeper, depth_caller]); (try dsimp only [ktrTop]); first | decide | k_extra "rooms9")
  k_with "units_room" => (fail "w9")
  k_with "w9" => ((try dsimp only [units_in1, units_deeper, Around.mark_units, units_caller]); (try dsimp only [ktrTop]); first | decide | k_extra "rooms9")
  k_with "l_idx" => ((k_extra "c9"); omega)
  k_with "l_fit" => ((k_extra "c9"); omega)
  k_with "ktr_units" => (fail "w10")
  k_with "w10" => ((try dsimp only [units_in1, units_deeper, Around.mark_units, units_caller]); (try dsimp only [ktrTop]); first | decide | k_extra "rooms9")
  k_with "execs cons" => (fail "w11")
  k_with "w11" => (k_here; first | k_gentoks | ((try dsimp only); (try k_gentoks); (try (with_reducible refine letA ?_; intro A9)); (try ((with_reducible rename Fr _ _ _ _ => F9); refine letF F9 ?_; clear F9; intro m9 F9)); (try ((with_reducible rename News _ _ _ _ => N9); refine letN N9 ?_; clear N9; intro n9 N9)); (first | (with_reducible refine execHidB fun q9 hq9 => ?_) | (refine hideQ fun q9 hq9 => ?_; with_reducible refine execHidB fun q9 hq9 => ?_))))
  k_with "Hid" => (fail "w12")
  k_with "w12" => (first | ((with_reducible refine unhidNextT (by fail "a9") ?_); intro tk9; (try dsimp only)) | ((with_reducible refine unhidNext (by fail "a9") ?_); (try dsimp only)) | ((with_reducible refine unhidRet (by fail "a9") ?_); (try dsimp only)) | ((with_reducible refine unhid (by fail "a9") ?_); (try dsimp only [Behind])))
  k_with "spliced" => (fail "w13")
  k_with "w13" => (k_here; (with_reducible show wpAny _ _ (spliced (backTo _ (starEach (_ :: _ :: _ :: _) _))) _ _ _); k_dflt (refine' args_cons ?_ ?_; rotate_left; rfl))
  k_with "spliced" => (fail "w14")
  k_with "w14" => (k_here; k_dflt ((refine' argsF ?_ ?_ ?_ ?_); (rotate_left 4); k_asm; rfl; rfl); (try dsimp only [List.nil_append, List.cons_append]))
  k_with "eval Call" => (fail "w15")
  k_with "w15" => (k_here; (with_reducible show wpAny _ _ (eval (PySem.Expr.Call (PySem.Expr.Name _ _) (_ :: _) [] _) _) _ _ _); first | (k_dflt ((refine' callF ?_ ?_ ?_ ?_ ?_ ?_ ?_ ?_ ?_ ?_ ?_); (rotate_left 10); k_asm; k_asm; k_asm; k_is; k_is; rfl; rfl; rfl; rotate_left; decide; rfl)) | k_compRoot | k_dflt (refine' Call_ ?_))
  k_with "eval Name" => (fail "w16")
  k_with "w16" => (k_here; (with_reducible show wpAny _ _ (eval (PySem.Expr.Name _ _) (envOf _ _ _ _ _)) _ _ _); first | k_dflt ((refine' nameX_K ?_ ?_ ?_ ?_ ?_ ?_ ?_ ?_); (rotate_left 8); k_asm; k_asm; k_asm; k_is; rotate_left; rfl; rfl; decide) | k_dflt ((refine' nameX_L ?_ ?_ ?_ ?_ ?_ ?_); (rotate_left 3); k_asm; rfl; rotate_left; rfl; rfl; decide))
  k_with "callWith ref" => (fail "w17")
  k_with "w17" => (k_here; (with_reducible show wpAny _ _ (callWith _ _ _ (backTo _ (starEach [] _)) []) _ _ _); k_dflt (refine callF0 (by fail "a9") (by fail "a9") (by k_is) ?_))
  k_with "last getItem" => k_extra "u9"
  k_with "last setItem" => k_extra "u9"
  k_with "last setAttr" => k_extra "u9"
  k_with "last getAttr" => k_extra "u9"
  k_with "last subscriptTail" => k_extra "u9"
  k_with "last getMethod" => k_extra "u9"
  k_with "last call" => k_extra "u9"
  k_with "last pyIter" => k_extra "u9"
  k_with "last eval" => k_extra "u9"
  k_with "last exec" => k_extra "u9"
  k_with "last inplaceOp" => k_extra "u9"
  k_with "last binaryOp" => k_extra "u9"
  k_with "last InvEndN" => k_extra "u9"
  k_with "last GEnd" => k_extra "u9"
  k_with "last KEnd" => k_extra "u9"
  k_with "last LeaveT" => k_extra "u9"
  k_with "last noteFrame" => k_extra "u9"
  k_with "last leaving" => k_extra "u9"
  k_with "k_lt" => skip
  k_with "ktr_enter" => (fail "w18")
  k_with "w18" => (refine enterK (by assumption) (by assumption) (by k_is) (by k_is) (by ktr_room) (by exact BindsTo.of_eq rfl) (by exact locs rfl) ?_ (by exact rfl) (by exact rfl) (by exact rfl) (by decide); k_whole; intro g' L' h' F' N' B' X' T' lN' gN' tk9'; (try k_lt lN'); (try dsimp only); (try k_fold))
  k_with "call type:range" => (fail "w19")
  k_with "w19" => (k_here; (rename Fr _ _ _ _ => F'); (rename News _ _ _ _ => N'); first | (with_unfolding_all refine range1_rows F' N' ?_; intro _ _ _ _ _ _ _ _ _) | (with_unfolding_all refine range2_rows F' N' ?_; intro _ _ _ _ _ _ _ _ _))
  trivial
/-- so many ints -/
def IntsN (vs : List Value) (n : Int) : Prop := ∃ ns, IntsAre vs ns ∧ (ns.length : Int) = n
/-- the rays that were made -/
structure RaysAre (sz : Int) (rv : List Value) (R : List (Addr × Obj)) : Prop where
  rf : rv = R.map fun q => .ref q.1
  hs : ∀ q ∈ R, ∃ vs n, q.2 = PySem.W.listOf (List.toArray vs) n ∧ IntsN vs sz
structure RyS where
  (kv : List Value) (kn : Nat) (rv : List Value) (rn : Nat)
abbrev ryLed (w : World) (T : GT) (f r sz fu : Int) (x d fm rm ra ki kn p0 p1 pa ca ri : Addr) (fvs rvs : List Value) (n1 n2 : Nat) (q : RyS) : List (Addr × Obj) := (ki, PySem.W.listOf q.kv.toArray q.kn) :: [(x, instObj 203 d), (d, geoD w T f r sz fu fm rm ra ki kn pa ca ri), (fm, PySem.W.listOf fvs.toArray n1), (rm, PySem.W.listOf rvs.toArray n2), (ra, PySem.W.listOf q.rv.toArray q.rn), (kn, nilL), (pa, PySem.W.listOf #[.ref p0, .ref p1] 0), (p0, nilL), (p1, nilL), (ca, nilL)]
structure RyP (sz : Int) (pre : List Int) (q : RyS) (R : List (Addr × Obj)) : Prop where
  hk : IntsN q.kv sz
  hr : RaysAre sz q.rv R
  hl : R.length = pre.length
theorem ry_0 {sz : Int} {kv : List Value} {ks : List Int} {n1 kn : Nat} (i1 : IntsAre kv ks) (e1 : ks.length = n1) (e3 : 0 ≤ sz → (n1 : Int) = ((0 + 1 : Nat) : Int) * sz) (h : 6 ≤ sz) : RyP sz [] ⟨kv, kn, [], 0⟩ [] :=
  ⟨⟨ks, i1, by have := e3 (by omega); omega⟩, ⟨rfl, fun q hq => nomatch hq⟩, rfl⟩
theorem ry_next {sz k : Int} {pre : List Int} {kv' vs rv : List Value} {kn' rn' n : Nat} {R : List (Addr × Obj)} {ray : Addr} (hr : RaysAre sz rv R) (hl : R.length = pre.length) (hk : IntsN kv' sz) (hv : IntsN vs sz) :
    RyP sz (pre ++ [k]) ⟨kv', kn', rv ++ [.ref ray], rn'⟩ (R ++ [(ray, PySem.W.listOf (List.toArray vs) n)]) := by
  refine ⟨hk, ⟨?_, ?_⟩, ?_⟩
  · show rv ++ [_] = _
    rw [hr.rf, List.map_append]
    rfl
  · intro q hq
    rcases List.mem_append.mp hq with hq | hq
    · exact hr.hs q hq
    · rw [List.mem_singleton.mp hq]
      exact ⟨vs, n, rfl, hv⟩
  · rw [List.length_append, List.length_append, hl]
    rfl
theorem ry_len {sz : Int} {rv : List Value} {R : List (Addr × Obj)} (hr : RaysAre sz rv R) (h : R.length ≤ 10) : rv.length ≤ sizeLine := by
  rw [hr.rf, List.length_map, sizeLine_eq]
  omega
theorem isRange_of {h₀ h : Heap} {L r : Addr} {a b c : Int} {t u v : Tok} {news : List (Addr × Obj)} (N : News h₀ L h news) (hm : (r, rgO a b c t u v) ∈ news) : IsRange h r a b c t u v := (N _ hm).1
/-- a ray's turns -/
structure InS where
  (vs : List Value) (n : Nat) (kv : List Value) (kn : Nat)
abbrev inLed (w : World) (T : GT) (f r sz fu : Int) (x d fm rm ra ki kn p0 p1 pa ca ri : Addr) (fvs rvs : List Value) (n1 n2 : Nat) (ray : Addr) (rv : List Value) (rn : Nat) (q : InS) : List (Addr × Obj) := (ray, PySem.W.listOf q.vs.toArray q.n) :: (ki, PySem.W.listOf q.kv.toArray q.kn) :: [(x, instObj 203 d), (d, geoD w T f r sz fu fm rm ra ki kn pa ca ri), (fm, PySem.W.listOf fvs.toArray n1), (rm, PySem.W.listOf rvs.toArray n2), (ra, PySem.W.listOf rv.toArray rn), (kn, nilL), (pa, PySem.W.listOf #[.ref p0, .ref p1] 0), (p0, nilL), (p1, nilL), (ca, nilL)]
structure InP (sz : Int) (T : List (Addr × Obj)) (pre : List Int) (q : InS) (R : List (Addr × Obj)) : Prop where
  hv : IntsN q.vs sz
  hk : IntsN q.kv sz
  hT : R = T
theorem in_0 {sz : Int} {kv vs : List Value} {ks ms : List Int} {n1 n kn : Nat} {T : List (Addr × Obj)} (i1 : IntsAre vs ms) (e1 : ms.length = n1) (e3 : 0 ≤ sz → (n1 : Int) = ((0 + 1 : Nat) : Int) * sz) (h : 6 ≤ sz) (hk : IntsAre kv ks) (hl : (ks.length : Int) = sz) : InP sz T [] ⟨vs, n, kv, kn⟩ T :=
  ⟨⟨ms, i1, by have := e3 (by omega); omega⟩, ⟨ks, hk, hl⟩, rfl⟩
theorem idx_up {k sz : Int} {n : Nat} (e1 : k = 0 + (n : Int) * 1) (e2 : n < sz.toNat) : 0 ≤ k ∧ k < sz := by omega
theorem idx_dn {k sz : Int} {n : Nat} (e1 : k = sz - 1 + (n : Int) * -1) (e2 : n < (sz - 1 - -1).toNat) : 0 ≤ k ∧ k < sz := by omega
theorem ownOff_of {own : List (Addr × Obj)} {adr : List Addr} (h : ∀ b ∈ adr, ∀ p ∈ own, p.1 ≠ b) : OwnOff own adr := fun p hp b hb => h b hb p hp
theorem inner_use {f r sz dr v q : Int} (hb : Builtin.bitAnd (v.fdiv (2 ^ q.toNat)) 1 ≠ 0) (h : InnerOk f r dr v) (h0 : 0 ≤ q) (h1 : q < sz) (e : sz = f * r) : 0 ≤ q + ([1, 0, -1, 0, 1, -1, -1, 1].getD dr.toNat 0 * f + [0, 1, 0, -1, 1, 1, -1, -1].getD dr.toNat 0) ∧ q + ([1, 0, -1, 0, 1, -1, -1, 1].getD dr.toNat 0 * f + [0, 1, 0, -1, 1, 1, -1, -1].getD dr.toNat 0) < sz := by
  subst e
  exact h q h0 h1 hb
theorem wordsG41 : True := by
  k_with "subscriptTail Name Name ref int" => (fail "w20")
  k_with "w20" => (k_here; (with_reducible show wpAny _ _ (subscriptTail _ _ (Value.ref _) (Value.int _ _)) _ _ _); k_dflt (refine item_ints (by k_asm) (by k_mem) (by assumption) (by first | decide | ((k_extra "c9"); omega) | omega) (by (try simp only [rankL_len, fileL_len]); omega) (by (try simp only [rankL_len, fileL_len]); omega) ?_ (by with_unfolding_all rfl)); intro t'; (try dsimp only); (try k_fold))
  k_with "kxw_text" => (fail "w21")
  k_with "w21" => exact ⟨by k_asm, by k_asm, by k_asm, by k_asm, by k_asm, by first | exact rfl | assumption⟩
  k_with "call ref" => (fail "w22")
  k_with "w22" => (k_here; (with_reducible show wpAny _ _ (call (Value.ref 228) _) _ _ _); k_dflt (refine inner_spec (by kxw_text) (by k_allIn) (by k_ne) (by first | assumption | ((k_extra "c9"); omega) | omega) (by first | assumption | ((k_extra "c9"); omega) | omega) (by first | assumption | ((k_extra "c9"); omega) | omega) (by assumption) (by assumption) (by assumption) (by assumption) (by assumption) (by assumption) (by assumption) (by first | ((k_extra "c9"); omega) | omega) (by first | ((k_extra "c9"); omega) | omega) (by ktr_room) (by ktr_units) ?_); intro v' t' h' tk' o' F' N'; (try k_sweep); (try dsimp only); (try k_fold))
  k_with "call ref" => (fail "w23")
  k_with "w23" => (k_here; (with_reducible show wpAny _ _ (call (Value.ref 214) _) _ _ _); k_dflt (refine grow_spec (by kxw_text) (by first | ((k_extra "c9"); omega) | omega) (by first | ((k_extra "c9"); omega) | omega) (by ktr_room) (by ktr_units) ?_); intro b' h' tk' F' N'; (try k_sweep); (try dsimp only); (try k_fold))
  k_with "call type:range" => (fail "w24")
  k_with "w24" => (k_here; k_dflt (first | (refine range_led1 (by k_asm) (by k_asm) ?_) | (refine range_led3 (by k_asm) (by k_asm) (by exact PyProof.noPylong_small (by decide)) ?_)); intro r' h' tk' t1' u1' v1' o1' F' N'; (try k_sweep); (try dsimp only); (try k_fold))
  k_with "pyIter ref" => (fail "w25")
  k_with "w25" => (k_here; (with_reducible show wpAny _ _ _ (fun it s₂ => LoopAtV _ _ _ _ _ (Str.ofString "d") _ _ _ it s₂) _ _); (with_reducible rename Fr _ _ _ _ => kF); (with_reducible rename News _ _ _ _ => kN); k_dflt (refine' kst_rangeG (R₀ := []) (ryLed _ _ _ _ _ _ _ _ _ _ _ _ _ _ _ _ _ _ _ _ _ _) (fun _ => []) [Str.ofString "inner", Str.ofString "delta", Str.ofString "ray", Str.ofString "order", Str.ofString "square", Str.ofString "goal"] (RyP _) ⟨_, _, _, _⟩ rfl (isRange_of kN (by k_mem)) (by decide) (by exact (rfl : _ = ((8 : Nat) : Int))) kF (kst_newsOf kN (by (simp only [List.append_nil]; k_allIn))) (fun p hp => nomatch hp) (fun p hp => nomatch hp) (ry_0 (by assumption) (by assumption) (by assumption) (by assumption)) ?_ ?_); k_dflt ((clear kF kN; have hMk := kstMark; intro q' pre' k' t' u' h' tk' R' own' e1' e2' hR' off' P' F' N'; obtain ⟨kv', kn', rv', rn'⟩ := q'; obtain ⟨⟨ks', hki', hkl'⟩, hr', hl'⟩ := P'; dsimp only at hki' hkl' hr' hl'; (try dsimp only [ryLed, envOf] at N' off'); (try simp only [List.cons_append, List.nil_append] at N'); (try dsimp only [kstB, envOf] at F'); (try k_fold)); rotate_left; (clear kF kN; intro q' u' h' tk' R' P' off' F' N'; obtain ⟨kv', kn', rv', rn'⟩ := q'; obtain ⟨⟨ks', hki', hkl'⟩, hr', hl'⟩ := P'; dsimp only at hki' hkl' hr' hl'; (try simp only [stepKs_length] at hl'); (try dsimp only [ryLed, envOf] at N' off'); (try simp only [List.cons_append, List.nil_append] at N'); (try dsimp only [kstB, envOf] at F'); (try dsimp only); (try k_fold)); rotate_left))
  k_with "GPost" => (unfold GPost; dsimp only)
  k_with "subscriptTail Name Name ref int" => (fail "w26")
  k_with "w26" => (k_here; (with_reducible show wpAny _ _ (subscriptTail _ _ (Value.ref _) (Value.int _ _)) _ _ _); k_dflt (refine item_ints (by k_asm) (by k_mem) (by assumption) (inner_use (by assumption) (by assumption) (by assumption) (by assumption) (by assumption)).1 (by have g9 := (inner_use (by assumption) (by assumption) (by assumption) (by assumption) (by assumption)).2; omega) (by first | ((k_extra "c9"); omega) | omega) ?_ (by with_unfolding_all rfl)); intro t'; (try dsimp only); (try k_fold))
  k_with "subscriptTail Name Name ref int" => (fail "w27")
  k_with "w27" => (k_here; (with_reducible show wpAny _ _ (subscriptTail (PySem.Expr.Name _ _) (PySem.Expr.Name _ _) (Value.ref _) (Value.int _ _)) _ _ _); (with_unfolding_all refine topTupAny_K (by k_asm) (by k_asm) (by k_is) (by l_ints) (by l_idx) (by l_idx) (by l_idx) ?_); intro _)
  k_with "binaryOp LShift int int" => (fail "w28")
  k_with "w28" => (k_here; k_dflt (refine lshift_int (inner_use (by assumption) (by assumption) (by assumption) (by assumption) (by assumption)).1 (one_bits (by have g9 := (inner_use (by assumption) (by assumption) (by assumption) (by assumption) (by assumption)).2; omega)) ?_))
  k_with "call builtin:list.append" => (fail "w29")
  k_with "w29" => (k_here; (with_reducible show wpAny _ _ (call (Value.builtin _) [Value.ref _, _]) _ _ _); k_dflt (refine append_U (by k_asm) (by k_asm) (by k_updF) (ry_len (by assumption) (by first | ((k_extra "c9"); omega) | omega)) ?_); intro h' F' N'; (try dsimp only at N'); (try k_sweep); (try dsimp only); (try k_fold))
  k_with "GEnd" => (fail "w30")
  k_with "w30" => ((with_reducible show GEnd _ _ (ryLed _ _ _ _ _ _ _ _ _ _ _ _ _ _ _ _ _ _ _ _ _ _) _ _ _ _ _ _ _ _ _ _ _); k_dflt (refine gEnd_ ⟨_, _, _, _⟩ [(_, PySem.W.listOf (List.toArray _) _)] (by assumption) (by assumption) (by k_allIn) (by intro p hp; k_ownIn) (by rfl) (by k_allIn) (by intro p hp; rw [List.mem_singleton.mp hp]) (ownOff_of (by (try dsimp only [ryLed]); (try dsimp only [List.map]); (repeat first | exact List.forall_mem_nil _ | (refine List.forall_mem_cons.mpr ⟨by k_all, ?_⟩)))) nomem (by intro z h1 h2 h3; first | rfl | ((repeat first | with_reducible rfl | refine updNe (by first | fail "a9" | (refine neOf (by assumption) 0 ?_; exact rfl) | (refine neOf (by assumption) 1 ?_; exact rfl) | exact neHas (by assumption) (by with_reducible (first | exact List.mem_cons_self | exact List.mem_cons_of_mem _ (List.mem_cons_self) | exact List.mem_cons_of_mem _ (List.mem_cons_of_mem _ (List.mem_cons_self)) | exact List.mem_cons_of_mem _ (List.mem_cons_of_mem _ (List.mem_cons_of_mem _ (List.mem_cons_self))) | exact List.mem_cons_of_mem _ (List.mem_cons_of_mem _ (List.mem_cons_of_mem _ (List.mem_cons_of_mem _ (List.mem_cons_self)))) | exact List.mem_cons_of_mem _ (List.mem_cons_of_mem _ (List.mem_cons_of_mem _ (List.mem_cons_of_mem _ (List.mem_cons_of_mem _ (List.mem_cons_self))))) | exact List.mem_cons_of_mem _ (List.mem_cons_of_mem _ (List.mem_cons_of_mem _ (List.mem_cons_of_mem _ (List.mem_cons_of_mem _ (List.mem_cons_of_mem _ (List.mem_cons_self)))))) | exact List.mem_cons_of_mem _ (List.mem_cons_of_mem _ (List.mem_cons_of_mem _ (List.mem_cons_of_mem _ (List.mem_cons_of_mem _ (List.mem_cons_of_mem _ (List.mem_cons_of_mem _ (List.mem_cons_self)))))))))) ?_ | refine updHas (by first | fail "a9" | exact hasNil | exact hasCons (by first | fail "a9" | (refine neOf (by assumption) 0 ?_; exact rfl) | (refine neOf (by assumption) 1 ?_; exact rfl) | exact neHas (by assumption) (by with_reducible (first | exact List.mem_cons_self | exact List.mem_cons_of_mem _ (List.mem_cons_self) | exact List.mem_cons_of_mem _ (List.mem_cons_of_mem _ (List.mem_cons_self)) | exact List.mem_cons_of_mem _ (List.mem_cons_of_mem _ (List.mem_cons_of_mem _ (List.mem_cons_self))) | exact List.mem_cons_of_mem _ (List.mem_cons_of_mem _ (List.mem_cons_of_mem _ (List.mem_cons_of_mem _ (List.mem_cons_self)))) | exact List.mem_cons_of_mem _ (List.mem_cons_of_mem _ (List.mem_cons_of_mem _ (List.mem_cons_of_mem _ (List.mem_cons_of_mem _ (List.mem_cons_self))))) | exact List.mem_cons_of_mem _ (List.mem_cons_of_mem _ (List.mem_cons_of_mem _ (List.mem_cons_of_mem _ (List.mem_cons_of_mem _ (List.mem_cons_of_mem _ (List.mem_cons_self)))))) | exact List.mem_cons_of_mem _ (List.mem_cons_of_mem _ (List.mem_cons_of_mem _ (List.mem_cons_of_mem _ (List.mem_cons_of_mem _ (List.mem_cons_of_mem _ (List.mem_cons_of_mem _ (List.mem_cons_self)))))))))) (hasNil) | exact hasCons (by first | fail "a9" | (refine neOf (by assumption) 0 ?_; exact rfl) | (refine neOf (by assumption) 1 ?_; exact rfl) | exact neHas (by assumption) (by with_reducible (first | exact List.mem_cons_self | exact List.mem_cons_of_mem _ (List.mem_cons_self) | exact List.mem_cons_of_mem _ (List.mem_cons_of_mem _ (List.mem_cons_self)) | exact List.mem_cons_of_mem _ (List.mem_cons_of_mem _ (List.mem_cons_of_mem _ (List.mem_cons_self))) | exact List.mem_cons_of_mem _ (List.mem_cons_of_mem _ (List.mem_cons_of_mem _ (List.mem_cons_of_mem _ (List.mem_cons_self)))) | exact List.mem_cons_of_mem _ (List.mem_cons_of_mem _ (List.mem_cons_of_mem _ (List.mem_cons_of_mem _ (List.mem_cons_of_mem _ (List.mem_cons_self))))) | exact List.mem_cons_of_mem _ (List.mem_cons_of_mem _ (List.mem_cons_of_mem _ (List.mem_cons_of_mem _ (List.mem_cons_of_mem _ (List.mem_cons_of_mem _ (List.mem_cons_self)))))) | exact List.mem_cons_of_mem _ (List.mem_cons_of_mem _ (List.mem_cons_of_mem _ (List.mem_cons_of_mem _ (List.mem_cons_of_mem _ (List.mem_cons_of_mem _ (List.mem_cons_of_mem _ (List.mem_cons_self)))))))))) (hasCons (by first | fail "a9" | (refine neOf (by assumption) 0 ?_; exact rfl) | (refine neOf (by assumption) 1 ?_; exact rfl) | exact neHas (by assumption) (by with_reducible (first | exact List.mem_cons_self | exact List.mem_cons_of_mem _ (List.mem_cons_self) | exact List.mem_cons_of_mem _ (List.mem_cons_of_mem _ (List.mem_cons_self)) | exact List.mem_cons_of_mem _ (List.mem_cons_of_mem _ (List.mem_cons_of_mem _ (List.mem_cons_self))) | exact List.mem_cons_of_mem _ (List.mem_cons_of_mem _ (List.mem_cons_of_mem _ (List.mem_cons_of_mem _ (List.mem_cons_self)))) | exact List.mem_cons_of_mem _ (List.mem_cons_of_mem _ (List.mem_cons_of_mem _ (List.mem_cons_of_mem _ (List.mem_cons_of_mem _ (List.mem_cons_self))))) | exact List.mem_cons_of_mem _ (List.mem_cons_of_mem _ (List.mem_cons_of_mem _ (List.mem_cons_of_mem _ (List.mem_cons_of_mem _ (List.mem_cons_of_mem _ (List.mem_cons_self)))))) | exact List.mem_cons_of_mem _ (List.mem_cons_of_mem _ (List.mem_cons_of_mem _ (List.mem_cons_of_mem _ (List.mem_cons_of_mem _ (List.mem_cons_of_mem _ (List.mem_cons_of_mem _ (List.mem_cons_self)))))))))) (hasNil))) ?_); all_goals fail) | (simp_all +zetaDelta; done)) (ry_next (by assumption) (by assumption) ⟨_, by assumption, by assumption⟩ ⟨_, by assumption, by assumption⟩)))
  k_with "GEnd" => (fail "w31")
  k_with "w31" => ((with_reducible show GEnd _ _ (inLed _ _ _ _ _ _ _ _ _ _ _ _ _ _ _ _ _ _ _ _ _ _ _ _ _) _ _ _ _ _ _ _ _ _ _ _); k_dflt (refine gEnd_ ⟨_, _, _, _⟩ [] (by assumption) (by assumption) (by k_allIn) (by intro p hp; k_ownIn) (by rfl) nomem nomem nomem nomem (by intro z h1 h2 h3; first | rfl | ((repeat first | with_reducible rfl | refine updNe (by first | fail "a9" | (refine neOf (by assumption) 0 ?_; exact rfl) | (refine neOf (by assumption) 1 ?_; exact rfl) | exact neHas (by assumption) (by with_reducible (first | exact List.mem_cons_self | exact List.mem_cons_of_mem _ (List.mem_cons_self) | exact List.mem_cons_of_mem _ (List.mem_cons_of_mem _ (List.mem_cons_self)) | exact List.mem_cons_of_mem _ (List.mem_cons_of_mem _ (List.mem_cons_of_mem _ (List.mem_cons_self))) | exact List.mem_cons_of_mem _ (List.mem_cons_of_mem _ (List.mem_cons_of_mem _ (List.mem_cons_of_mem _ (List.mem_cons_self)))) | exact List.mem_cons_of_mem _ (List.mem_cons_of_mem _ (List.mem_cons_of_mem _ (List.mem_cons_of_mem _ (List.mem_cons_of_mem _ (List.mem_cons_self))))) | exact List.mem_cons_of_mem _ (List.mem_cons_of_mem _ (List.mem_cons_of_mem _ (List.mem_cons_of_mem _ (List.mem_cons_of_mem _ (List.mem_cons_of_mem _ (List.mem_cons_self)))))) | exact List.mem_cons_of_mem _ (List.mem_cons_of_mem _ (List.mem_cons_of_mem _ (List.mem_cons_of_mem _ (List.mem_cons_of_mem _ (List.mem_cons_of_mem _ (List.mem_cons_of_mem _ (List.mem_cons_self)))))))))) ?_ | refine updHas (by first | fail "a9" | exact hasNil | exact hasCons (by first | fail "a9" | (refine neOf (by assumption) 0 ?_; exact rfl) | (refine neOf (by assumption) 1 ?_; exact rfl) | exact neHas (by assumption) (by with_reducible (first | exact List.mem_cons_self | exact List.mem_cons_of_mem _ (List.mem_cons_self) | exact List.mem_cons_of_mem _ (List.mem_cons_of_mem _ (List.mem_cons_self)) | exact List.mem_cons_of_mem _ (List.mem_cons_of_mem _ (List.mem_cons_of_mem _ (List.mem_cons_self))) | exact List.mem_cons_of_mem _ (List.mem_cons_of_mem _ (List.mem_cons_of_mem _ (List.mem_cons_of_mem _ (List.mem_cons_self)))) | exact List.mem_cons_of_mem _ (List.mem_cons_of_mem _ (List.mem_cons_of_mem _ (List.mem_cons_of_mem _ (List.mem_cons_of_mem _ (List.mem_cons_self))))) | exact List.mem_cons_of_mem _ (List.mem_cons_of_mem _ (List.mem_cons_of_mem _ (List.mem_cons_of_mem _ (List.mem_cons_of_mem _ (List.mem_cons_of_mem _ (List.mem_cons_self)))))) | exact List.mem_cons_of_mem _ (List.mem_cons_of_mem _ (List.mem_cons_of_mem _ (List.mem_cons_of_mem _ (List.mem_cons_of_mem _ (List.mem_cons_of_mem _ (List.mem_cons_of_mem _ (List.mem_cons_self)))))))))) (hasNil) | exact hasCons (by first | fail "a9" | (refine neOf (by assumption) 0 ?_; exact rfl) | (refine neOf (by assumption) 1 ?_; exact rfl) | exact neHas (by assumption) (by with_reducible (first | exact List.mem_cons_self | exact List.mem_cons_of_mem _ (List.mem_cons_self) | exact List.mem_cons_of_mem _ (List.mem_cons_of_mem _ (List.mem_cons_self)) | exact List.mem_cons_of_mem _ (List.mem_cons_of_mem _ (List.mem_cons_of_mem _ (List.mem_cons_self))) | exact List.mem_cons_of_mem _ (List.mem_cons_of_mem _ (List.mem_cons_of_mem _ (List.mem_cons_of_mem _ (List.mem_cons_self)))) | exact List.mem_cons_of_mem _ (List.mem_cons_of_mem _ (List.mem_cons_of_mem _ (List.mem_cons_of_mem _ (List.mem_cons_of_mem _ (List.mem_cons_self))))) | exact List.mem_cons_of_mem _ (List.mem_cons_of_mem _ (List.mem_cons_of_mem _ (List.mem_cons_of_mem _ (List.mem_cons_of_mem _ (List.mem_cons_of_mem _ (List.mem_cons_self)))))) | exact List.mem_cons_of_mem _ (List.mem_cons_of_mem _ (List.mem_cons_of_mem _ (List.mem_cons_of_mem _ (List.mem_cons_of_mem _ (List.mem_cons_of_mem _ (List.mem_cons_of_mem _ (List.mem_cons_self)))))))))) (hasCons (by first | fail "a9" | (refine neOf (by assumption) 0 ?_; exact rfl) | (refine neOf (by assumption) 1 ?_; exact rfl) | exact neHas (by assumption) (by with_reducible (first | exact List.mem_cons_self | exact List.mem_cons_of_mem _ (List.mem_cons_self) | exact List.mem_cons_of_mem _ (List.mem_cons_of_mem _ (List.mem_cons_self)) | exact List.mem_cons_of_mem _ (List.mem_cons_of_mem _ (List.mem_cons_of_mem _ (List.mem_cons_self))) | exact List.mem_cons_of_mem _ (List.mem_cons_of_mem _ (List.mem_cons_of_mem _ (List.mem_cons_of_mem _ (List.mem_cons_self)))) | exact List.mem_cons_of_mem _ (List.mem_cons_of_mem _ (List.mem_cons_of_mem _ (List.mem_cons_of_mem _ (List.mem_cons_of_mem _ (List.mem_cons_self))))) | exact List.mem_cons_of_mem _ (List.mem_cons_of_mem _ (List.mem_cons_of_mem _ (List.mem_cons_of_mem _ (List.mem_cons_of_mem _ (List.mem_cons_of_mem _ (List.mem_cons_self)))))) | exact List.mem_cons_of_mem _ (List.mem_cons_of_mem _ (List.mem_cons_of_mem _ (List.mem_cons_of_mem _ (List.mem_cons_of_mem _ (List.mem_cons_of_mem _ (List.mem_cons_of_mem _ (List.mem_cons_self)))))))))) (hasNil))) ?_); all_goals fail) | (simp_all +zetaDelta; done)) ⟨⟨_, by assumption, by first | assumption | omega⟩, ⟨_, by assumption, by first | assumption | omega⟩, by first | assumption | (rw [List.append_nil]; assumption)⟩))
  k_with "exec For Name Name cons nil" => (fail "w32")
  k_with "w32" => (k_here; (rename Fr _ _ _ _ => lF'); (with_unfolding_all refine For_invVF lF' (by exact rfl) (by exact rfl) ?_; k_whole))
  k_with "pyIter ref" => (fail "w33")
  k_with "w33" => (k_here; (with_reducible show wpAny _ _ _ (fun it s₂ => LoopAtV _ _ _ _ _ (Str.ofString "square") _ _ _ it s₂) _ _); (with_reducible rename Fr _ _ _ _ => kF); (with_reducible rename News _ _ _ _ => kN); k_dflt (refine' kst_rangeG (inLed _ _ _ _ _ _ _ _ _ _ _ _ _ _ _ _ _ _ _ _ _ _ _ _ _) (fun _ => []) [Str.ofString "goal"] (InP _ _) ⟨_, _, _, _⟩ rfl (isRange_of kN (by k_mem)) (by first | exact small_to (by first | ((k_extra "c9"); omega) | omega) (by first | ((k_extra "c9"); omega) | omega) | exact small_down (by first | ((k_extra "c9"); omega) | omega) (by first | ((k_extra "c9"); omega) | omega) (by decide) (by decide)) (by first | exact size_to (by first | ((k_extra "c9"); omega) | omega) | exact rangeSize_downNat _ _) kF (kst_newsOf kN (by ((try simp only [List.cons_append, List.nil_append]); kst_allIn))) (ownOff_of (by (try dsimp only [inLed]); (try dsimp only [List.map]); (repeat first | exact List.forall_mem_nil _ | (refine List.forall_mem_cons.mpr ⟨by k_all, ?_⟩)))) (fun p hp => nomatch hp) (in_0 (by assumption) (by assumption) (by assumption) (by assumption) (by assumption) (by assumption)) ?_ ?_); k_dflt ((clear kF kN; intro q' pre' k' t' u' h' tk' R' own' e1' e2' hR' off' P' F' N'; obtain ⟨vs', n', kv', kn'⟩ := q'; obtain ⟨⟨ns', hvi', hvl'⟩, ⟨ks', hki', hkl'⟩, hT'⟩ := P'; dsimp only at hvi' hvl' hki' hkl' hT'; (first | (have k1' := idx_up e1' e2') | (have k1' := idx_dn e1' e2')); obtain ⟨k0', k1'⟩ := k1'; (try dsimp only [inLed, envOf] at N' off'); (try simp only [List.cons_append, List.nil_append] at N'); (try dsimp only [kstB, envOf] at F'); (try k_fold)); rotate_left; (clear kF kN; intro q' u' h' tk' R' P' off' F' N'; obtain ⟨vs', n', kv', kn'⟩ := q'; obtain ⟨⟨ns', hvi', hvl'⟩, ⟨ks', hki', hkl'⟩, hT'⟩ := P'; dsimp only at hvi' hvl' hki' hkl' hT'; subst hT'; (try dsimp only [inLed, envOf] at N' off'); (try simp only [List.cons_append, List.nil_append] at N'); (try dsimp only [kstB, envOf] at F'); (try dsimp only); (try k_fold)); rotate_left))
  trivial
theorem rays_spec {prog p : Program} {w : World} {loose : List Str} {mean : ExcName → Option Value} {mg mb : Str → Option Value} {dp un : Nat} {gd : Option (List Code)} {cn : Str} {cs : Scope} {a : Addr} {ccd : Value} {outer : List Env} {A₀ : Around} {base h₀ : Heap} {L : Addr} {m : Str → Option Value} {s : Shared} {Q E : Value → Shared → Prop}
    {news : List (Addr × Obj)} {cl : List (Str × Addr)}
    {T : GT} {x d fm rm ra ki kn p0 p1 pa ca ri : Addr} {f r sz fu : Int} {fvs rvs : List Value} {n1 n2 : Nat}
    (S : Site w p loose mean mg mb cs outer A₀ base h₀ L m [(x, instObj 203 d), (d, geoD w T f r sz fu fm rm ra ki kn pa ca ri), (fm, PySem.W.listOf fvs.toArray n1), (rm, PySem.W.listOf rvs.toArray n2), (ra, nilL), (kn, nilL), (pa, PySem.W.listOf #[.ref p0, .ref p1] 0), (p0, nilL), (p1, nilL), (ca, nilL)] s.heap)
    (ch : GCh x d fm rm ra kn p0 p1 pa ca) (hf1 : 2 ≤ f) (hf2 : f ≤ 4) (hr1 : 3 ≤ r) (hr2 : r ≤ 6) (hs1 : 6 ≤ sz) (hs2 : sz ≤ 20)
    (hfi : IntsAre fvs (fileL f r.toNat f.toNat)) (hri : IntsAre rvs (rankL f r.toNat)) (hsz : sz = f * r) (hfu : fu = 2 ^ (f * r).toNat - 1)
    (hdp : dp + 60 < recursionLimit) (hun : un + 600 < cLine)
    (h : ∀ (ki' : Addr) (kv rv : List Value) (kvn rvn : Nat) (R : List (Addr × Obj)) (h' : Heap) (tk' : Nat), IntsN kv sz → RaysAre sz rv R → R.length = 8 → @LT.lt Nat _ ca ki' → OwnOff R [ki', x, d, fm, rm, ra, kn, pa, p0, p1, ca] → Fr h₀ L h' m → News h₀ L h' ((ki', PySem.W.listOf (List.toArray kv) kvn) :: (x, instObj 203 d) :: (d, geoD w T f r sz fu fm rm ra ki' kn pa ca ri) :: (fm, PySem.W.listOf fvs.toArray n1) :: (rm, PySem.W.listOf rvs.toArray n2) :: (ra, PySem.W.listOf (List.toArray rv) rvn) :: (kn, nilL) :: (pa, PySem.W.listOf #[.ref p0, .ref p1] 0) :: (p0, nilL) :: (p1, nilL) :: (ca, nilL) :: R) → Q .none { s with heap := h', toks := tk' }) :
    wpAny (model prog w) (ktrTop dp un gd cn cs L a ccd cl outer) (call (.ref 235) [.ref x]) Q E s := by
  have hsub : ∀ q ∈ [(x, instObj 203 d), (d, geoD w T f r sz fu fm rm ra ki kn pa ca ri), (fm, PySem.W.listOf fvs.toArray n1), (rm, PySem.W.listOf rvs.toArray n2), (ra, nilL), (kn, nilL), (pa, PySem.W.listOf #[.ref p0, .ref p1] 0), (p0, nilL), (p1, nilL), (ca, nilL)], q ∈ [(x, instObj 203 d), (d, geoD w T f r sz fu fm rm ra ki kn pa ca ri), (fm, PySem.W.listOf fvs.toArray n1), (rm, PySem.W.listOf rvs.toArray n2), (ra, nilL), (kn, nilL), (pa, PySem.W.listOf #[.ref p0, .ref p1] 0), (p0, nilL), (p1, nilL), (ca, nilL)] := fun _ h => h
  obtain ⟨c1, c2, c3, c4, c5, c6, c7, c8, c9, c10⟩ := ch
  have e_x_rm : @LT.lt Nat _ x rm := Nat.lt_trans c2 c4
  have e_x_ra : @LT.lt Nat _ x ra := Nat.lt_trans e_x_rm c5
  have e_x_kn : @LT.lt Nat _ x kn := Nat.lt_trans e_x_ra c6
  have e_x_p0 : @LT.lt Nat _ x p0 := Nat.lt_trans e_x_kn c7
  have e_x_p1 : @LT.lt Nat _ x p1 := Nat.lt_trans e_x_p0 c8
  have e_x_pa : @LT.lt Nat _ x pa := Nat.lt_trans e_x_p1 c9
  have e_x_ca : @LT.lt Nat _ x ca := Nat.lt_trans e_x_pa c10
  have e_d_rm : @LT.lt Nat _ d rm := Nat.lt_trans c3 c4
  have e_d_ra : @LT.lt Nat _ d ra := Nat.lt_trans e_d_rm c5
  have e_d_kn : @LT.lt Nat _ d kn := Nat.lt_trans e_d_ra c6
  have e_d_p0 : @LT.lt Nat _ d p0 := Nat.lt_trans e_d_kn c7
  have e_d_p1 : @LT.lt Nat _ d p1 := Nat.lt_trans e_d_p0 c8
  have e_d_pa : @LT.lt Nat _ d pa := Nat.lt_trans e_d_p1 c9
  have e_d_ca : @LT.lt Nat _ d ca := Nat.lt_trans e_d_pa c10
  have e_fm_ra : @LT.lt Nat _ fm ra := Nat.lt_trans c4 c5
  have e_fm_kn : @LT.lt Nat _ fm kn := Nat.lt_trans e_fm_ra c6
  have e_fm_p0 : @LT.lt Nat _ fm p0 := Nat.lt_trans e_fm_kn c7
  have e_fm_p1 : @LT.lt Nat _ fm p1 := Nat.lt_trans e_fm_p0 c8
  have e_fm_pa : @LT.lt Nat _ fm pa := Nat.lt_trans e_fm_p1 c9
  have e_fm_ca : @LT.lt Nat _ fm ca := Nat.lt_trans e_fm_pa c10
  have e_rm_kn : @LT.lt Nat _ rm kn := Nat.lt_trans c5 c6
  have e_rm_p0 : @LT.lt Nat _ rm p0 := Nat.lt_trans e_rm_kn c7
  have e_rm_p1 : @LT.lt Nat _ rm p1 := Nat.lt_trans e_rm_p0 c8
  have e_rm_pa : @LT.lt Nat _ rm pa := Nat.lt_trans e_rm_p1 c9
  have e_rm_ca : @LT.lt Nat _ rm ca := Nat.lt_trans e_rm_pa c10
  have e_ra_p0 : @LT.lt Nat _ ra p0 := Nat.lt_trans c6 c7
  have e_ra_p1 : @LT.lt Nat _ ra p1 := Nat.lt_trans e_ra_p0 c8
  have e_ra_pa : @LT.lt Nat _ ra pa := Nat.lt_trans e_ra_p1 c9
  have e_ra_ca : @LT.lt Nat _ ra ca := Nat.lt_trans e_ra_pa c10
  have e_kn_p1 : @LT.lt Nat _ kn p1 := Nat.lt_trans c7 c8
  have e_kn_pa : @LT.lt Nat _ kn pa := Nat.lt_trans e_kn_p1 c9
  have e_kn_ca : @LT.lt Nat _ kn ca := Nat.lt_trans e_kn_pa c10
  have e_p0_pa : @LT.lt Nat _ p0 pa := Nat.lt_trans c8 c9
  have e_p0_ca : @LT.lt Nat _ p0 ca := Nat.lt_trans e_p0_pa c10
  have e_p1_ca : @LT.lt Nat _ p1 ca := Nat.lt_trans c9 c10
  k_dflt ktr_enter
  k_steps
  refine' leaveE_ (by assumption) (by assumption) ⟨(_, PySem.W.listOf (List.toArray _) _) :: (_, instObj 203 _) :: (_, geoD w _ _ _ _ _ _ _ _ _ _ _ _ _) :: (_, PySem.W.listOf (List.toArray _) _) :: (_, PySem.W.listOf (List.toArray _) _) :: (_, PySem.W.listOf (List.toArray _) _) :: (_, nilL) :: (_, PySem.W.listOf #[.ref _, .ref _] 0) :: (_, nilL) :: (_, nilL) :: (_, nilL) :: _, sub_left (by kst_allIn), fun F9 N9 => h _ _ _ _ _ _ _ _ ⟨_, by assumption, by assumption⟩ (by assumption) (by assumption) (by first | k_extra "lts9" | omega) (by assumption) F9 N9⟩
end Mine
end

section
namespace Mine
theorem wordsG50 : True := by
  k_with_none
  w_top off
  k_with "a9" => (with_reducible assumption)
  k_with "c9" => (repeat (with_reducible rename _ ∧ _ => hA9; clear hA9)); (repeat (with_reducible rename _ ≠ _ => hA9; clear hA9))
  k_with "u9" => ((with_reducible rename News _ _ _ _ => N9); dsimp +zetaDelta only at N9)
  k_with "p0" => (refine offAt (by fail "a9") 0 ?_; exact rfl)
  k_with "p1" => (refine offAt (by fail "a9") 1 ?_; exact rfl)
  k_with "p2" => (refine offAt (by fail "a9") 2 ?_; exact rfl)
  k_with "p3" => (refine offAt (by fail "a9") 3 ?_; exact rfl)
  k_with "p4" => (refine offAt (by fail "a9") 4 ?_; exact rfl)
  k_with "p5" => (refine offAt (by fail "a9") 5 ?_; exact rfl)
  k_with "p6" => (refine offAt (by fail "a9") 6 ?_; exact rfl)
  k_with "p7" => (refine offAt (by fail "a9") 7 ?_; exact rfl)
  k_with "p8" => (refine offAt (by fail "a9") 8 ?_; exact rfl)
  k_with "p9" => (refine offAt (by fail "a9") 9 ?_; exact rfl)
  k_with "p10" => (refine offAt (by fail "a9") 10 ?_; exact rfl)
  k_with "p11" => (refine offAt (by fail "a9") 11 ?_; exact rfl)
  k_with "p12" => (refine offAt (by fail "a9") 12 ?_; exact rfl)
  k_with "p13" => (refine offAt (by fail "a9") 13 ?_; exact rfl)
  k_with "p14" => (refine ltAt (by fail "a9") 0 ?_; exact rfl)
  k_with "p15" => (refine ltAt (by fail "a9") 1 ?_; exact rfl)
  k_with "p16" => (refine ltAt (by fail "a9") 2 ?_; exact rfl)
  k_with "p17" => (refine ltAt (by fail "a9") 3 ?_; exact rfl)
  k_with "p18" => (refine ltAt (by fail "a9") 4 ?_; exact rfl)
  k_with "p19" => (refine ltAt (by fail "a9") 5 ?_; exact rfl)
  k_with "p20" => (refine ltAt (by fail "a9") 6 ?_; exact rfl)
  k_with "p21" => (refine ltAt (by fail "a9") 7 ?_; exact rfl)
  k_with "p22" => (refine ltAt (by fail "a9") 8 ?_; exact rfl)
  k_with "p23" => (refine ltAt (by fail "a9") 9 ?_; exact rfl)
  k_with "p24" => (refine ltAt (by fail "a9") 10 ?_; exact rfl)
  k_with "p25" => (refine ltAt (by fail "a9") 11 ?_; exact rfl)
  k_with "p26" => (refine ltAt (by fail "a9") 12 ?_; exact rfl)
  k_with "p27" => (refine ltAt (by fail "a9") 13 ?_; exact rfl)
  k_with "r9" => (fail "w1")
  k_with "w1" => (first | fail "a9" | exact Nat.le_of_lt (by fail "a9"))
  k_with "offs9" => (first | fail "p0" | fail "p1" | fail "p2" | fail "p3" | fail "p4" | fail "p5" | fail "p6" | fail "p7" | fail "p8" | fail "p9" | fail "p10" | fail "p11" | fail "p12" | fail "p13" | fail "p14" | fail "p15" | fail "p16" | fail "p17" | fail "p18" | fail "p19" | fail "p20" | fail "p21" | fail "p22" | fail "p23" | fail "p24" | fail "p25" | fail "p26" | fail "p27")
  k_with "mem9" => (fail "w2")
  k_with "w2" => (first | exact List.Mem.head _ | exact List.Mem.tail _ (List.Mem.head _) | (refine memAt 0 ?_; exact rfl) | (refine memAt 1 ?_; exact rfl) | (refine memAt 2 ?_; exact rfl) | (refine memAt 3 ?_; exact rfl) | (refine memAt 4 ?_; exact rfl) | (refine memAt 5 ?_; exact rfl) | (refine memAt 6 ?_; exact rfl) | (refine memAt 7 ?_; exact rfl) | (refine memAt 8 ?_; exact rfl) | (refine memAt 9 ?_; exact rfl) | (refine memAt 10 ?_; exact rfl) | (refine memAt 11 ?_; exact rfl) | (refine memAt 12 ?_; exact rfl) | (refine memAt 13 ?_; exact rfl) | (refine memAt 14 ?_; exact rfl) | (refine memAt 15 ?_; exact rfl) | (refine memAt 16 ?_; exact rfl) | (refine memAt 17 ?_; exact rfl))
  k_with "lts9" => (fail "w3")
  k_with "w3" => (first | (refine ltB (by fail "a9") 0 ?_; exact rfl) | (refine ltB (by fail "a9") 1 ?_; exact rfl) | (refine ltB (by fail "a9") 2 ?_; exact rfl) | (refine ltB (by fail "a9") 3 ?_; exact rfl) | (refine ltB (by fail "a9") 4 ?_; exact rfl) | (refine ltB (by fail "a9") 5 ?_; exact rfl) | (refine ltB (by fail "a9") 6 ?_; exact rfl) | (refine ltB (by fail "a9") 7 ?_; exact rfl) | (refine ltB (by fail "a9") 8 ?_; exact rfl) | (refine ltB (by fail "a9") 9 ?_; exact rfl) | (refine ltB (by fail "a9") 10 ?_; exact rfl) | (refine ltB (by fail "a9") 11 ?_; exact rfl) | (refine ltB (by fail "a9") 12 ?_; exact rfl) | (refine ltB (by fail "a9") 13 ?_; exact rfl))
  k_with "rooms9" => (fail "w4")
  k_with "w4" => (first | (refine rl2 (by fail "r9") ?_; exact rfl) | (refine rl1 (by fail "r9") ?_; exact rfl) | (refine rl3 (by fail "r9") ?_; exact rfl) | (refine rl0 (by fail "r9") ?_; exact rfl) | (refine rl4 (by fail "r9") ?_; exact rfl) | (refine rm2 (by fail "r9") ?_; exact rfl) | (refine rm1 (by fail "r9") ?_; exact rfl) | (refine rm3 (by fail "r9") ?_; exact rfl) | (refine rm0 (by fail "r9") ?_; exact rfl) | (refine rm4 (by fail "r9") ?_; exact rfl))
  k_with "k_ne" => (fail "w5")
  k_with "w5" => (refine neN ?_; (try dsimp only); first | fail "a9" | (refine Ne.symm ?_; fail "a9") | exact Nat.ne_of_lt (by fail "a9") | exact Nat.ne_of_gt (by fail "a9") | k_extra "offs9" | (refine Ne.symm ?_; first | k_extra "offs9") | ((try simp only [LCg.Off1, and_true] at *); omega))
  k_with "k_mem" => (fail "w6")
  k_with "w6" => (first | fail "a9" | k_extra "mem9")
  k_with "k_memK" => (first | k_extra "mem9")
  k_with "is_list" => (fail "w7")
  k_with "w7" => (exact News.isList (by fail "a9") (by k_mem))
  k_with "ktr_room" => (fail "w8")
  k_with "w8" => ((try dsimp only [depth_under_make, depth_under_kw, depth_in1, depth_deeper, depth_caller]); (try dsimp only [ktrTop]); first | decide | k_extra "rooms9")
  k_with "units_room" => (fail "w9")
  k_with "w9" => ((try dsimp only [units_in1, units_deeper, Around.mark_units, units_caller]); (try dsimp only [ktrTop]); first | decide | k_extra "rooms9")
  k_with "l_idx" => ((k_extra "c9"); omega)
  k_with "l_fit" => ((k_extra "c9"); omega)
  k_with "ktr_units" => (fail "w10")
  k_with "w10" => ((try dsimp only [units_in1, units_deeper, Around.mark_units, units_caller]); (try dsimp only [ktrTop]); first | decide | k_extra "rooms9")
  k_with "execs cons" => (fail "w11")
  k_with "w11" => (k_here; first | k_gentoks | ((try dsimp only); (try k_gentoks); (try (with_reducible refine letA ?_; intro A9)); (try ((with_reducible rename Fr _ _ _ _ => F9); refine letF F9 ?_; clear F9; intro m9 F9)); (first | (with_reducible refine execHidB fun q9 hq9 => ?_) | (refine hideQ fun q9 hq9 => ?_; with_reducible refine execHidB fun q9 hq9 => ?_))))
  k_with "Hid" => (fail "w12")
  k_with "w12" => (first | ((with_reducible refine unhidNextT (by fail "a9") ?_); intro tk9; (try dsimp only)) | ((with_reducible refine unhidNext (by fail "a9") ?_); (try dsimp only)) | ((with_reducible refine unhidRet (by fail "a9") ?_); (try dsimp only)) | ((with_reducible refine unhid (by fail "a9") ?_); (try dsimp only [Behind])))
  k_with "spliced" => (fail "w13")
  k_with "w13" => (k_here; (with_reducible show wpAny _ _ (spliced (backTo _ (starEach (_ :: _ :: _ :: _) _))) _ _ _); k_dflt (refine' args_cons ?_ ?_; rotate_left; rfl))
  k_with "spliced" => (fail "w14")
  k_with "w14" => (k_here; k_dflt ((refine' argsF ?_ ?_ ?_ ?_); (rotate_left 4); k_asm; rfl; rfl); (try dsimp only [List.nil_append, List.cons_append]))
  k_with "eval Call" => (fail "w15")
  k_with "w15" => (k_here; (with_reducible show wpAny _ _ (eval (PySem.Expr.Call (PySem.Expr.Name _ _) (_ :: _) [] _) _) _ _ _); first | (k_dflt ((refine' callF ?_ ?_ ?_ ?_ ?_ ?_ ?_ ?_ ?_ ?_ ?_); (rotate_left 10); k_asm; k_asm; k_asm; k_is; k_is; rfl; rfl; rfl; rotate_left; decide; rfl)) | k_compRoot | k_dflt (refine' Call_ ?_))
  k_with "eval Name" => (fail "w16")
  k_with "w16" => (k_here; (with_reducible show wpAny _ _ (eval (PySem.Expr.Name _ _) (envOf _ _ _ _ _)) _ _ _); first | k_dflt ((refine' nameX_K ?_ ?_ ?_ ?_ ?_ ?_ ?_ ?_); (rotate_left 8); k_asm; k_asm; k_asm; k_is; rotate_left; rfl; rfl; decide) | k_dflt ((refine' nameX_L ?_ ?_ ?_ ?_ ?_ ?_); (rotate_left 3); k_asm; rfl; rotate_left; rfl; rfl; decide))
  k_with "callWith ref" => (fail "w17")
  k_with "w17" => (k_here; (with_reducible show wpAny _ _ (callWith _ _ _ (backTo _ (starEach [] _)) []) _ _ _); k_dflt (refine callF0 (by fail "a9") (by fail "a9") (by k_is) ?_))
  k_with "k_lt" => skip
  k_with "ktr_enter" => (fail "w18")
  k_with "w18" => (refine enterK (by assumption) (by assumption) (by k_is) (by k_is) (by ktr_room) (by exact BindsTo.of_eq rfl) (by exact locs rfl) ?_ (by exact rfl) (by exact rfl) (by exact rfl) (by decide); k_whole; intro g' L' h' F' N' B' X' T' lN' gN' tk9'; (try k_lt lN'); (try dsimp only); (try k_fold))
  k_with "call type:range" => (fail "w19")
  k_with "w19" => (k_here; (rename Fr _ _ _ _ => F'); (rename News _ _ _ _ => N'); first | (with_unfolding_all refine range1_rows F' N' ?_; intro _ _ _ _ _ _ _ _ _) | (with_unfolding_all refine range2_rows F' N' ?_; intro _ _ _ _ _ _ _ _ _))
  trivial
theorem ray_item {prog : Program} {w : World} {A : Around} {E : Value → Shared → Prop} {s : Shared} {h₀ : Heap} {L : Addr} {news : List (Addr × Obj)} {value slice : PySem.Expr} {l : Addr} {rv : List Value} {R : List (Addr × Obj)} {nl : Nat} {k sz : Int} {u : Tok} {Q : Value → Shared → Prop} (N : News h₀ L s.heap news) (hl : (l, PySem.W.listOf rv.toArray nl) ∈ news)
    (hr : RaysAre sz rv R) (hn : R.length = 8) (h0 : 0 ≤ k) (h1 : k < 8) (h : ∀ b vs n ns, (b, PySem.W.listOf (List.toArray vs) n) ∈ R → IntsAre vs ns → (ns.length : Int) = sz → Q (.ref b) s)
    (hs : subscripted slice false (.ref l) (.int k u) = operate [.ref l, .int k u] (getItem (.ref l) (.int k u))) :
    wpAny (model prog w) A (subscriptTail value slice (.ref l) (.int k u)) Q E s := by
  have hL : s.heap.IsList l rv.toArray := ⟨_, (N _ hl).1, rfl, _, rfl⟩
  have hk : k.toNat < R.length := by omega
  obtain ⟨vs, n, e, ns, hi, hlen⟩ := hr.hs R[k.toNat] (List.getElem_mem hk)
  have hx : rv.toArray[k.toNat]? = some (.ref R[k.toNat].1) := by rw [hr.rf]; simp [hk]
  refine tail_any hL.typeIs slot_list_getitem.lookup (wpAny_getItem_list hL h0 (by omega) hx ?_) hs
  refine h _ vs n ns ?_ hi hlen
  rw [← e]
  exact List.getElem_mem hk
theorem mem_sub {R own T : List (Addr × Obj)} (e : R = T) (h : ∀ p ∈ R, p ∈ own) : ∀ p ∈ T, p ∈ own := e ▸ h
theorem mem_of {R own : List (Addr × Obj)} {q : Addr × Obj} (h : ∀ p ∈ R, p ∈ own) (hq : q ∈ R) : q ∈ own := h q hq
/-- the pawns' turns -/
structure PwS where
  (v0 : List Value) (m0 : Nat) (v1 : List Value) (m1 : Nat)
abbrev pwLed (w : World) (T : GT) (f r sz fu : Int) (x d fm rm ra kn p0 p1 pa ca ri : Addr) (ki' : Addr) (kv rv : List Value) (kvn rvn : Nat) (fvs rvs : List Value) (n1 n2 : Nat) (q : PwS) : List (Addr × Obj) := ((ki', PySem.W.listOf (List.toArray kv) kvn) :: (x, instObj 203 d) :: (d, geoD w T f r sz fu fm rm ra ki' kn pa ca ri) :: (fm, PySem.W.listOf fvs.toArray n1) :: (rm, PySem.W.listOf rvs.toArray n2) :: (ra, PySem.W.listOf (List.toArray rv) rvn) :: (kn, nilL) :: (pa, PySem.W.listOf #[.ref p0, .ref p1] 0) :: (p0, PySem.W.listOf q.v0.toArray q.m0) :: (p1, PySem.W.listOf q.v1.toArray q.m1) :: (ca, nilL) :: [])
structure PwP (T : List (Addr × Obj)) (pre : List Int) (q : PwS) (R : List (Addr × Obj)) : Prop where
  h0 : q.v0.length = pre.length
  h1 : q.v1.length = pre.length
  hT : R = T
theorem pw_0 {T : List (Addr × Obj)} : PwP T [] ⟨[], 0, [], 0⟩ T := ⟨rfl, rfl, rfl⟩
theorem pw_next {T R : List (Addr × Obj)} {pre : List Int} {k : Int} {v0 v1 : List Value} {a b : Value} {m0 m1 : Nat} (h0 : v0.length = pre.length) (h1 : v1.length = pre.length) (e : R = T) : PwP T (pre ++ [k]) ⟨v0 ++ [a], m0, v1 ++ [b], m1⟩ (R ++ []) := by
  refine ⟨?_, ?_, by rw [List.append_nil, e]⟩
  · show (v0 ++ [a]).length = _
    rw [List.length_append, List.length_append, h0]
    rfl
  · show (v1 ++ [b]).length = _
    rw [List.length_append, List.length_append, h1]
    rfl
theorem len_line {v : List Value} {n : Nat} (h : v.length = n) (hn : n ≤ 100000) : v.length ≤ sizeLine := by
  rw [h, sizeLine_eq]
  omega
theorem wordsG51 : True := by
  k_with "pyIter ref" => (fail "w20")
  k_with "w20" => (k_here; (with_reducible show wpAny _ _ _ (fun it s₂ => LoopAtV _ _ _ _ _ (Str.ofString "square") _ _ _ it s₂) _ _); (with_reducible rename Fr _ _ _ _ => kF); (with_reducible rename News _ _ _ _ => kN); (with_reducible rename IsRange _ _ _ _ _ _ _ _ => kR); k_dflt (refine' kst_rangeG (pwLed _ _ _ _ _ _ _ _ _ _ _ _ _ _ _ _ _ _ _ _ _ _ _ _ _ _) (fun _ => []) [] (PwP _) ⟨_, _, _, _⟩ rfl kR (small_to (by first | ((k_extra "c9"); omega) | omega) (by first | ((k_extra "c9"); omega) | omega)) (size_to (by first | ((k_extra "c9"); omega) | omega)) kF (kst_newsOf kN (by ((try simp only [List.cons_append, List.nil_append]); kst_allIn))) (ownOff_of (by (try dsimp only [pwLed]); (try dsimp only [List.map]); (repeat first | exact List.forall_mem_nil _ | (refine List.forall_mem_cons.mpr ⟨by k_all, ?_⟩)))) (fun p hp => nomatch hp) pw_0 ?_ ?_); ((clear kF kN kR; intro q' pre' k' t' u' h' tk' R' own' e1' e2' hR' off' P' F' N'; obtain ⟨v0', m0', v1', m1'⟩ := q'; obtain ⟨h0', h1', hT'⟩ := P'; dsimp only at h0' h1' hT'; (have k1' := idx_up e1' e2'); obtain ⟨k0', k1'⟩ := k1'; (try dsimp only [pwLed, envOf] at N' off'); (try simp only [List.cons_append, List.nil_append] at N'); (try dsimp only [kstB, envOf] at F'); (have hR2' := mem_sub hT' hR'); (try k_fold)); rotate_left; (clear kF kN kR; intro q' u' h' tk' R' P' off' F' N'; obtain ⟨v0', m0', v1', m1'⟩ := q'; obtain ⟨h0', h1', hT'⟩ := P'; dsimp only at h0' h1' hT'; subst hT'; (try dsimp only [pwLed, envOf] at N' off'); (try simp only [List.cons_append, List.nil_append] at N'); (try dsimp only [kstB, envOf] at F'); (try dsimp only); (try k_fold)); rotate_left))
  k_with "GPost" => (unfold GPost; dsimp only)
  k_with "GEnd" => (fail "w21")
  k_with "w21" => (k_dflt (refine gEnd_ ⟨_, _, _, _⟩ [] (by assumption) (by assumption) (by kst_allIn) (by intro p hp; k_ownIn) (by rfl) nomem nomem nomem nomem (by intro z h1 h2 h3; first | rfl | ((repeat first | with_reducible rfl | refine updNe (by first | fail "a9" | (refine neOf (by assumption) 0 ?_; exact rfl) | (refine neOf (by assumption) 1 ?_; exact rfl) | exact neHas (by assumption) (by with_reducible (first | exact List.mem_cons_self | exact List.mem_cons_of_mem _ (List.mem_cons_self) | exact List.mem_cons_of_mem _ (List.mem_cons_of_mem _ (List.mem_cons_self)) | exact List.mem_cons_of_mem _ (List.mem_cons_of_mem _ (List.mem_cons_of_mem _ (List.mem_cons_self))) | exact List.mem_cons_of_mem _ (List.mem_cons_of_mem _ (List.mem_cons_of_mem _ (List.mem_cons_of_mem _ (List.mem_cons_self)))) | exact List.mem_cons_of_mem _ (List.mem_cons_of_mem _ (List.mem_cons_of_mem _ (List.mem_cons_of_mem _ (List.mem_cons_of_mem _ (List.mem_cons_self))))) | exact List.mem_cons_of_mem _ (List.mem_cons_of_mem _ (List.mem_cons_of_mem _ (List.mem_cons_of_mem _ (List.mem_cons_of_mem _ (List.mem_cons_of_mem _ (List.mem_cons_self)))))) | exact List.mem_cons_of_mem _ (List.mem_cons_of_mem _ (List.mem_cons_of_mem _ (List.mem_cons_of_mem _ (List.mem_cons_of_mem _ (List.mem_cons_of_mem _ (List.mem_cons_of_mem _ (List.mem_cons_self)))))))))) ?_ | refine updHas (by first | fail "a9" | exact hasNil | exact hasCons (by first | fail "a9" | (refine neOf (by assumption) 0 ?_; exact rfl) | (refine neOf (by assumption) 1 ?_; exact rfl) | exact neHas (by assumption) (by with_reducible (first | exact List.mem_cons_self | exact List.mem_cons_of_mem _ (List.mem_cons_self) | exact List.mem_cons_of_mem _ (List.mem_cons_of_mem _ (List.mem_cons_self)) | exact List.mem_cons_of_mem _ (List.mem_cons_of_mem _ (List.mem_cons_of_mem _ (List.mem_cons_self))) | exact List.mem_cons_of_mem _ (List.mem_cons_of_mem _ (List.mem_cons_of_mem _ (List.mem_cons_of_mem _ (List.mem_cons_self)))) | exact List.mem_cons_of_mem _ (List.mem_cons_of_mem _ (List.mem_cons_of_mem _ (List.mem_cons_of_mem _ (List.mem_cons_of_mem _ (List.mem_cons_self))))) | exact List.mem_cons_of_mem _ (List.mem_cons_of_mem _ (List.mem_cons_of_mem _ (List.mem_cons_of_mem _ (List.mem_cons_of_mem _ (List.mem_cons_of_mem _ (List.mem_cons_self)))))) | exact List.mem_cons_of_mem _ (List.mem_cons_of_mem _ (List.mem_cons_of_mem _ (List.mem_cons_of_mem _ (List.mem_cons_of_mem _ (List.mem_cons_of_mem _ (List.mem_cons_of_mem _ (List.mem_cons_self)))))))))) (hasNil) | exact hasCons (by first | fail "a9" | (refine neOf (by assumption) 0 ?_; exact rfl) | (refine neOf (by assumption) 1 ?_; exact rfl) | exact neHas (by assumption) (by with_reducible (first | exact List.mem_cons_self | exact List.mem_cons_of_mem _ (List.mem_cons_self) | exact List.mem_cons_of_mem _ (List.mem_cons_of_mem _ (List.mem_cons_self)) | exact List.mem_cons_of_mem _ (List.mem_cons_of_mem _ (List.mem_cons_of_mem _ (List.mem_cons_self))) | exact List.mem_cons_of_mem _ (List.mem_cons_of_mem _ (List.mem_cons_of_mem _ (List.mem_cons_of_mem _ (List.mem_cons_self)))) | exact List.mem_cons_of_mem _ (List.mem_cons_of_mem _ (List.mem_cons_of_mem _ (List.mem_cons_of_mem _ (List.mem_cons_of_mem _ (List.mem_cons_self))))) | exact List.mem_cons_of_mem _ (List.mem_cons_of_mem _ (List.mem_cons_of_mem _ (List.mem_cons_of_mem _ (List.mem_cons_of_mem _ (List.mem_cons_of_mem _ (List.mem_cons_self)))))) | exact List.mem_cons_of_mem _ (List.mem_cons_of_mem _ (List.mem_cons_of_mem _ (List.mem_cons_of_mem _ (List.mem_cons_of_mem _ (List.mem_cons_of_mem _ (List.mem_cons_of_mem _ (List.mem_cons_self)))))))))) (hasCons (by first | fail "a9" | (refine neOf (by assumption) 0 ?_; exact rfl) | (refine neOf (by assumption) 1 ?_; exact rfl) | exact neHas (by assumption) (by with_reducible (first | exact List.mem_cons_self | exact List.mem_cons_of_mem _ (List.mem_cons_self) | exact List.mem_cons_of_mem _ (List.mem_cons_of_mem _ (List.mem_cons_self)) | exact List.mem_cons_of_mem _ (List.mem_cons_of_mem _ (List.mem_cons_of_mem _ (List.mem_cons_self))) | exact List.mem_cons_of_mem _ (List.mem_cons_of_mem _ (List.mem_cons_of_mem _ (List.mem_cons_of_mem _ (List.mem_cons_self)))) | exact List.mem_cons_of_mem _ (List.mem_cons_of_mem _ (List.mem_cons_of_mem _ (List.mem_cons_of_mem _ (List.mem_cons_of_mem _ (List.mem_cons_self))))) | exact List.mem_cons_of_mem _ (List.mem_cons_of_mem _ (List.mem_cons_of_mem _ (List.mem_cons_of_mem _ (List.mem_cons_of_mem _ (List.mem_cons_of_mem _ (List.mem_cons_self)))))) | exact List.mem_cons_of_mem _ (List.mem_cons_of_mem _ (List.mem_cons_of_mem _ (List.mem_cons_of_mem _ (List.mem_cons_of_mem _ (List.mem_cons_of_mem _ (List.mem_cons_of_mem _ (List.mem_cons_self)))))))))) (hasNil))) ?_); all_goals fail) | (simp_all +zetaDelta; done)) (pw_next (by assumption) (by assumption) (by assumption))))
  k_with "subscriptTail" => (fail "w22")
  k_with "w22" => (k_here; (with_reducible show wpAny _ _ (subscriptTail _ _ (Value.ref _) (Value.int _ _)) _ _ _); k_dflt (refine item_ints (by k_asm) (by first | k_mem | kst_mem) (by assumption) (by assumption) (by first | ((k_extra "c9"); omega) | omega) (by first | ((k_extra "c9"); omega) | omega) ?_ (by with_unfolding_all rfl)); intro t'; (try dsimp only); (try k_fold))
  k_with "subscriptTail" => (fail "w23")
  k_with "w23" => (k_here; (with_reducible show wpAny _ _ (subscriptTail _ _ (Value.ref _) (Value.int _ _)) _ _ _); k_dflt (refine ray_item (by k_asm) (by k_mem) (by assumption) (by assumption) (by decide) (by decide) ?_ (by with_unfolding_all rfl)); intro b' vs' n' ns' hb' hi' hl'; (have hb2' := mem_of (by assumption) hb'); (try dsimp only); (try k_fold))
  k_with "subscriptTail Attribute" => k_extra "subscriptTail"
  k_with "subscriptTail Subscript" => k_extra "subscriptTail"
  k_with "call builtin:list.append" => (fail "w24")
  k_with "w24" => (k_here; (with_reducible show wpAny _ _ (call (Value.builtin _) [Value.ref _, _]) _ _ _); k_dflt (refine append_U (by k_asm) (by k_asm) (by k_updF) (len_line (by assumption) (by first | ((k_extra "c9"); omega) | omega)) ?_); intro h' F' N'; (try dsimp only at N'); (try k_sweep); (try dsimp only); (try k_fold))
  trivial
theorem pawns_spec {prog p : Program} {w : World} {loose : List Str} {mean : ExcName → Option Value} {mg mb : Str → Option Value} {dp un : Nat} {gd : Option (List Code)} {cn : Str} {cs : Scope} {a : Addr} {ccd : Value} {outer : List Env} {A₀ : Around} {base h₀ : Heap} {L : Addr} {m : Str → Option Value} {s : Shared} {Q E : Value → Shared → Prop}
    {news : List (Addr × Obj)} {cl : List (Str × Addr)}
    {T : GT} {x d fm rm ra kn p0 p1 pa ca ri : Addr} {f r sz fu : Int} {ki' : Addr} {kv rv : List Value} {kvn rvn : Nat} {R : List (Addr × Obj)} {fvs rvs : List Value} {n1 n2 : Nat} 
    (S : Site w p loose mean mg mb cs outer A₀ base h₀ L m ((ki', PySem.W.listOf (List.toArray kv) kvn) :: (x, instObj 203 d) :: (d, geoD w T f r sz fu fm rm ra ki' kn pa ca ri) :: (fm, PySem.W.listOf fvs.toArray n1) :: (rm, PySem.W.listOf rvs.toArray n2) :: (ra, PySem.W.listOf (List.toArray rv) rvn) :: (kn, nilL) :: (pa, PySem.W.listOf #[.ref p0, .ref p1] 0) :: (p0, nilL) :: (p1, nilL) :: (ca, nilL) :: R) s.heap)
    (ch : GCh x d fm rm ra kn p0 p1 pa ca) (hf1 : 2 ≤ f) (hf2 : f ≤ 4) (hr1 : 3 ≤ r) (hr2 : r ≤ 6) (hs1 : 6 ≤ sz) (hs2 : sz ≤ 20)
    (hkN : IntsN kv sz) (hra : RaysAre sz rv R) (hlR : R.length = 8) (hki : @LT.lt Nat _ ca ki') (hoR : OwnOff R [ki', x, d, fm, rm, ra, kn, pa, p0, p1, ca]) 
    (hdp : dp + 40 < recursionLimit) (hun : un + 400 < cLine)
    (h : ∀ (v0 v1 : List Value) (m0 m1 : Nat) (h' : Heap) (tk' : Nat), Fr h₀ L h' m → News h₀ L h' ((ki', PySem.W.listOf (List.toArray kv) kvn) :: (x, instObj 203 d) :: (d, geoD w T f r sz fu fm rm ra ki' kn pa ca ri) :: (fm, PySem.W.listOf fvs.toArray n1) :: (rm, PySem.W.listOf rvs.toArray n2) :: (ra, PySem.W.listOf (List.toArray rv) rvn) :: (kn, nilL) :: (pa, PySem.W.listOf #[.ref p0, .ref p1] 0) :: (p0, PySem.W.listOf (List.toArray v0) m0) :: (p1, PySem.W.listOf (List.toArray v1) m1) :: (ca, nilL) :: R) → Q .none { s with heap := h', toks := tk' }) :
    wpAny (model prog w) (ktrTop dp un gd cn cs L a ccd cl outer) (call (.ref 242) [.ref x]) Q E s := by
  have hsub : ∀ q ∈ ((ki', PySem.W.listOf (List.toArray kv) kvn) :: (x, instObj 203 d) :: (d, geoD w T f r sz fu fm rm ra ki' kn pa ca ri) :: (fm, PySem.W.listOf fvs.toArray n1) :: (rm, PySem.W.listOf rvs.toArray n2) :: (ra, PySem.W.listOf (List.toArray rv) rvn) :: (kn, nilL) :: (pa, PySem.W.listOf #[.ref p0, .ref p1] 0) :: (p0, nilL) :: (p1, nilL) :: (ca, nilL) :: R), q ∈ ((ki', PySem.W.listOf (List.toArray kv) kvn) :: (x, instObj 203 d) :: (d, geoD w T f r sz fu fm rm ra ki' kn pa ca ri) :: (fm, PySem.W.listOf fvs.toArray n1) :: (rm, PySem.W.listOf rvs.toArray n2) :: (ra, PySem.W.listOf (List.toArray rv) rvn) :: (kn, nilL) :: (pa, PySem.W.listOf #[.ref p0, .ref p1] 0) :: (p0, nilL) :: (p1, nilL) :: (ca, nilL) :: R) := fun _ h => h
  have hMk := kstMark
  obtain ⟨c1, c2, c3, c4, c5, c6, c7, c8, c9, c10⟩ := ch
  have e_x_rm : @LT.lt Nat _ x rm := Nat.lt_trans c2 c4
  have e_x_ra : @LT.lt Nat _ x ra := Nat.lt_trans e_x_rm c5
  have e_x_kn : @LT.lt Nat _ x kn := Nat.lt_trans e_x_ra c6
  have e_x_p0 : @LT.lt Nat _ x p0 := Nat.lt_trans e_x_kn c7
  have e_x_p1 : @LT.lt Nat _ x p1 := Nat.lt_trans e_x_p0 c8
  have e_x_pa : @LT.lt Nat _ x pa := Nat.lt_trans e_x_p1 c9
  have e_x_ca : @LT.lt Nat _ x ca := Nat.lt_trans e_x_pa c10
  have e_d_rm : @LT.lt Nat _ d rm := Nat.lt_trans c3 c4
  have e_d_ra : @LT.lt Nat _ d ra := Nat.lt_trans e_d_rm c5
  have e_d_kn : @LT.lt Nat _ d kn := Nat.lt_trans e_d_ra c6
  have e_d_p0 : @LT.lt Nat _ d p0 := Nat.lt_trans e_d_kn c7
  have e_d_p1 : @LT.lt Nat _ d p1 := Nat.lt_trans e_d_p0 c8
  have e_d_pa : @LT.lt Nat _ d pa := Nat.lt_trans e_d_p1 c9
  have e_d_ca : @LT.lt Nat _ d ca := Nat.lt_trans e_d_pa c10
  have e_fm_ra : @LT.lt Nat _ fm ra := Nat.lt_trans c4 c5
  have e_fm_kn : @LT.lt Nat _ fm kn := Nat.lt_trans e_fm_ra c6
  have e_fm_p0 : @LT.lt Nat _ fm p0 := Nat.lt_trans e_fm_kn c7
  have e_fm_p1 : @LT.lt Nat _ fm p1 := Nat.lt_trans e_fm_p0 c8
  have e_fm_pa : @LT.lt Nat _ fm pa := Nat.lt_trans e_fm_p1 c9
  have e_fm_ca : @LT.lt Nat _ fm ca := Nat.lt_trans e_fm_pa c10
  have e_rm_kn : @LT.lt Nat _ rm kn := Nat.lt_trans c5 c6
  have e_rm_p0 : @LT.lt Nat _ rm p0 := Nat.lt_trans e_rm_kn c7
  have e_rm_p1 : @LT.lt Nat _ rm p1 := Nat.lt_trans e_rm_p0 c8
  have e_rm_pa : @LT.lt Nat _ rm pa := Nat.lt_trans e_rm_p1 c9
  have e_rm_ca : @LT.lt Nat _ rm ca := Nat.lt_trans e_rm_pa c10
  have e_ra_p0 : @LT.lt Nat _ ra p0 := Nat.lt_trans c6 c7
  have e_ra_p1 : @LT.lt Nat _ ra p1 := Nat.lt_trans e_ra_p0 c8
  have e_ra_pa : @LT.lt Nat _ ra pa := Nat.lt_trans e_ra_p1 c9
  have e_ra_ca : @LT.lt Nat _ ra ca := Nat.lt_trans e_ra_pa c10
  have e_kn_p1 : @LT.lt Nat _ kn p1 := Nat.lt_trans c7 c8
  have e_kn_pa : @LT.lt Nat _ kn pa := Nat.lt_trans e_kn_p1 c9
  have e_kn_ca : @LT.lt Nat _ kn ca := Nat.lt_trans e_kn_pa c10
  have e_p0_pa : @LT.lt Nat _ p0 pa := Nat.lt_trans c8 c9
  have e_p0_ca : @LT.lt Nat _ p0 ca := Nat.lt_trans e_p0_pa c10
  have e_p1_ca : @LT.lt Nat _ p1 ca := Nat.lt_trans c9 c10
  obtain ⟨ks, hki1, hki2⟩ := hkN
  k_dflt ktr_enter
  k_steps
  exact leaveE_ (by assumption) (by assumption) ⟨_, fun q hq => .inl hq, fun F9 N9 => h _ _ _ _ _ _ F9 N9⟩
end Mine
end

section
namespace Mine
theorem wordsG60 : True := by
  k_with_none
  w_top off
  k_with "a9" => (with_reducible assumption)
  k_with "c9" => (repeat (with_reducible rename _ ∧ _ => hA9; clear hA9)); (repeat (with_reducible rename _ ≠ _ => hA9; clear hA9))
  k_with "u9" => ((with_reducible rename News _ _ _ _ => N9); dsimp +zetaDelta only at N9)
  k_with "p0" => (refine offAt (by fail "a9") 0 ?_; exact rfl)
  k_with "p1" => (refine offAt (by fail "a9") 1 ?_; exact rfl)
  k_with "p2" => (refine offAt (by fail "a9") 2 ?_; exact rfl)
  k_with "p3" => (refine offAt (by fail "a9") 3 ?_; exact rfl)
  k_with "p4" => (refine offAt (by fail "a9") 4 ?_; exact rfl)
  k_with "p5" => (refine offAt (by fail "a9") 5 ?_; exact rfl)
  k_with "p6" => (refine offAt (by fail "a9") 6 ?_; exact rfl)
  k_with "p7" => (refine offAt (by fail "a9") 7 ?_; exact rfl)
  k_with "p8" => (refine offAt (by fail "a9") 8 ?_; exact rfl)
  k_with "p9" => (refine offAt (by fail "a9") 9 ?_; exact rfl)
  k_with "p10" => (refine offAt (by fail "a9") 10 ?_; exact rfl)
  k_with "p11" => (refine offAt (by fail "a9") 11 ?_; exact rfl)
  k_with "p12" => (refine offAt (by fail "a9") 12 ?_; exact rfl)
  k_with "p13" => (refine offAt (by fail "a9") 13 ?_; exact rfl)
  k_with "p14" => (refine ltAt (by fail "a9") 0 ?_; exact rfl)
  k_with "p15" => (refine ltAt (by fail "a9") 1 ?_; exact rfl)
  k_with "p16" => (refine ltAt (by fail "a9") 2 ?_; exact rfl)
  k_with "p17" => (refine ltAt (by fail "a9") 3 ?_; exact rfl)
  k_with "p18" => (refine ltAt (by fail "a9") 4 ?_; exact rfl)
  k_with "p19" => (refine ltAt (by fail "a9") 5 ?_; exact rfl)
  k_with "p20" => (refine ltAt (by fail "a9") 6 ?_; exact rfl)
  k_with "p21" => (refine ltAt (by fail "a9") 7 ?_; exact rfl)
  k_with "p22" => (refine ltAt (by fail "a9") 8 ?_; exact rfl)
  k_with "p23" => (refine ltAt (by fail "a9") 9 ?_; exact rfl)
  k_with "p24" => (refine ltAt (by fail "a9") 10 ?_; exact rfl)
  k_with "p25" => (refine ltAt (by fail "a9") 11 ?_; exact rfl)
  k_with "p26" => (refine ltAt (by fail "a9") 12 ?_; exact rfl)
  k_with "p27" => (refine ltAt (by fail "a9") 13 ?_; exact rfl)
  k_with "r9" => (fail "w1")
  k_with "w1" => (first | fail "a9" | exact Nat.le_of_lt (by fail "a9"))
  k_with "offs9" => (first | fail "p0" | fail "p1" | fail "p2" | fail "p3" | fail "p4" | fail "p5" | fail "p6" | fail "p7" | fail "p8" | fail "p9" | fail "p10" | fail "p11" | fail "p12" | fail "p13" | fail "p14" | fail "p15" | fail "p16" | fail "p17" | fail "p18" | fail "p19" | fail "p20" | fail "p21" | fail "p22" | fail "p23" | fail "p24" | fail "p25" | fail "p26" | fail "p27")
  k_with "mem9" => (fail "w2")
  k_with "w2" => (first | exact List.Mem.head _ | exact List.Mem.tail _ (List.Mem.head _) | (refine memAt 0 ?_; exact rfl) | (refine memAt 1 ?_; exact rfl) | (refine memAt 2 ?_; exact rfl) | (refine memAt 3 ?_; exact rfl) | (refine memAt 4 ?_; exact rfl) | (refine memAt 5 ?_; exact rfl) | (refine memAt 6 ?_; exact rfl) | (refine memAt 7 ?_; exact rfl) | (refine memAt 8 ?_; exact rfl) | (refine memAt 9 ?_; exact rfl) | (refine memAt 10 ?_; exact rfl) | (refine memAt 11 ?_; exact rfl) | (refine memAt 12 ?_; exact rfl) | (refine memAt 13 ?_; exact rfl) | (refine memAt 14 ?_; exact rfl) | (refine memAt 15 ?_; exact rfl) | (refine memAt 16 ?_; exact rfl) | (refine memAt 17 ?_; exact rfl))
  k_with "lts9" => (fail "w3")
  k_with "w3" => (first | (refine ltB (by fail "a9") 0 ?_; exact rfl) | (refine ltB (by fail "a9") 1 ?_; exact rfl) | (refine ltB (by fail "a9") 2 ?_; exact rfl) | (refine ltB (by fail "a9") 3 ?_; exact rfl) | (refine ltB (by fail "a9") 4 ?_; exact rfl) | (refine ltB (by fail "a9") 5 ?_; exact rfl) | (refine ltB (by fail "a9") 6 ?_; exact rfl) | (refine ltB (by fail "a9") 7 ?_; exact rfl) | (refine ltB (by fail "a9") 8 ?_; exact rfl) | (refine ltB (by fail "a9") 9 ?_; exact rfl) | (refine ltB (by fail "a9") 10 ?_; exact rfl) | (refine ltB (by fail "a9") 11 ?_; exact rfl) | (refine ltB (by fail "a9") 12 ?_; exact rfl) | (refine ltB (by fail "a9") 13 ?_; exact rfl))
  k_with "rooms9" => (fail "w4")
  k_with "w4" => (first | (refine rl2 (by fail "r9") ?_; exact rfl) | (refine rl1 (by fail "r9") ?_; exact rfl) | (refine rl3 (by fail "r9") ?_; exact rfl) | (refine rl0 (by fail "r9") ?_; exact rfl) | (refine rl4 (by fail "r9") ?_; exact rfl) | (refine rm2 (by fail "r9") ?_; exact rfl) | (refine rm1 (by fail "r9") ?_; exact rfl) | (refine rm3 (by fail "r9") ?_; exact rfl) | (refine rm0 (by fail "r9") ?_; exact rfl) | (refine rm4 (by fail "r9") ?_; exact rfl))
  k_with "k_ne" => (fail "w5")
  k_with "w5" => (refine neN ?_; (try dsimp only); first | fail "a9" | (refine Ne.symm ?_; fail "a9") | exact Nat.ne_of_lt (by fail "a9") | exact Nat.ne_of_gt (by fail "a9") | k_extra "offs9" | (refine Ne.symm ?_; first | k_extra "offs9") | ((try simp only [LCg.Off1, and_true] at *); omega))
  k_with "k_mem" => (fail "w6")
  k_with "w6" => (first | fail "a9" | k_extra "mem9")
  k_with "k_memK" => (first | k_extra "mem9")
  k_with "is_list" => (fail "w7")
  k_with "w7" => (exact News.isList (by fail "a9") (by k_mem))
  k_with "ktr_room" => (fail "w8")
  k_with "w8" => ((try dsimp only [depth_under_make, depth_under_kw, depth_in1, depth_deeper, depth_caller]); (try dsimp only [ktrTop]); first | decide | k_extra "rooms9")
  k_with "units_room" => (fail "w9")
  k_with "w9" => ((try dsimp only [units_in1, units_deeper, Around.mark_units, units_caller]); (try dsimp only [ktrTop]); first | decide | k_extra "rooms9")
  k_with "l_idx" => ((k_extra "c9"); omega)
  k_with "l_fit" => ((k_extra "c9"); omega)
  k_with "ktr_units" => (fail "w10")
  k_with "w10" => ((try dsimp only [units_in1, units_deeper, Around.mark_units, units_caller]); (try dsimp only [ktrTop]); first | decide | k_extra "rooms9")
  k_with "execs cons" => (fail "w11")
  k_with "w11" => (k_here; first | k_gentoks | ((try dsimp only); (try k_gentoks); (try (with_reducible refine letA ?_; intro A9)); (try ((with_reducible rename Fr _ _ _ _ => F9); refine letF F9 ?_; clear F9; intro m9 F9)); (first | (with_reducible refine execHidB fun q9 hq9 => ?_) | (refine hideQ fun q9 hq9 => ?_; with_reducible refine execHidB fun q9 hq9 => ?_))))
  k_with "Hid" => (fail "w12")
  k_with "w12" => (first | ((with_reducible refine unhidNextT (by fail "a9") ?_); intro tk9; (try dsimp only)) | ((with_reducible refine unhidNext (by fail "a9") ?_); (try dsimp only)) | ((with_reducible refine unhidRet (by fail "a9") ?_); (try dsimp only)) | ((with_reducible refine unhid (by fail "a9") ?_); (try dsimp only [Behind])))
  k_with "spliced" => (fail "w13")
  k_with "w13" => (k_here; (with_reducible show wpAny _ _ (spliced (backTo _ (starEach (_ :: _ :: _ :: _) _))) _ _ _); k_dflt (refine' args_cons ?_ ?_; rotate_left; rfl))
  k_with "spliced" => (fail "w14")
  k_with "w14" => (k_here; k_dflt ((refine' argsF ?_ ?_ ?_ ?_); (rotate_left 4); k_asm; rfl; rfl); (try dsimp only [List.nil_append, List.cons_append]))
  k_with "eval Call" => (fail "w15")
  k_with "w15" => (k_here; (with_reducible show wpAny _ _ (eval (PySem.Expr.Call (PySem.Expr.Name _ _) (_ :: _) [] _) _) _ _ _); first | (k_dflt ((refine' callF ?_ ?_ ?_ ?_ ?_ ?_ ?_ ?_ ?_ ?_ ?_); (rotate_left 10); k_asm; k_asm; k_asm; k_is; k_is; rfl; rfl; rfl; rotate_left; decide; rfl)) | k_compRoot | k_dflt (refine' Call_ ?_))
  k_with "eval Name" => (fail "w16")
  k_with "w16" => (k_here; (with_reducible show wpAny _ _ (eval (PySem.Expr.Name _ _) (envOf _ _ _ _ _)) _ _ _); first | k_dflt ((refine' nameX_K ?_ ?_ ?_ ?_ ?_ ?_ ?_ ?_); (rotate_left 8); k_asm; k_asm; k_asm; k_is; rotate_left; rfl; rfl; decide) | k_dflt ((refine' nameX_L ?_ ?_ ?_ ?_ ?_ ?_); (rotate_left 3); k_asm; rfl; rotate_left; rfl; rfl; decide))
  k_with "callWith ref" => (fail "w17")
  k_with "w17" => (k_here; (with_reducible show wpAny _ _ (callWith _ _ _ (backTo _ (starEach [] _)) []) _ _ _); k_dflt (refine callF0 (by fail "a9") (by fail "a9") (by k_is) ?_))
  k_with "k_lt" => skip
  k_with "ktr_enter" => (fail "w18")
  k_with "w18" => (refine enterK (by assumption) (by assumption) (by k_is) (by k_is) (by ktr_room) (by exact BindsTo.of_eq rfl) (by exact locs rfl) ?_ (by exact rfl) (by exact rfl) (by exact rfl) (by decide); k_whole; intro g' L' h' F' N' B' X' T' lN' gN' tk9'; (try k_lt lN'); (try dsimp only); (try k_fold))
  k_with "call type:range" => (fail "w19")
  k_with "w19" => (k_here; (rename Fr _ _ _ _ => F'); (rename News _ _ _ _ => N'); first | (with_unfolding_all refine range1_rows F' N' ?_; intro _ _ _ _ _ _ _ _ _) | (with_unfolding_all refine range2_rows F' N' ?_; intro _ _ _ _ _ _ _ _ _))
  trivial
theorem or_in {x y : Int} {n : Nat} (hx : 0 ≤ x) (hx2 : x < 2 ^ n) (hy : 0 ≤ y) (hy2 : y < 2 ^ n) : 0 ≤ Builtin.bitOr x y ∧ Builtin.bitOr x y < 2 ^ n := by
  rw [bitOr_pp hx hy]
  have e : (2 : Int) ^ n = ((2 ^ n : Nat) : Int) := by simp
  rw [e] at hx2 hy2 ⊢
  have := Nat.or_lt_two_pow (x := x.toNat) (y := y.toNat) (n := n) (by omega) (by omega)
  omega
theorem and_in {x y : Int} (hx : 0 ≤ x) : 0 ≤ Builtin.bitAnd x y ∧ Builtin.bitAnd x y ≤ x := by
  rw [bitAnd_comm]
  exact bitAnd_range y hx
theorem pow_in {k : Int} (h0 : 0 ≤ k) (h1 : k ≤ 20) : 1 ≤ (2 : Int) ^ k.toNat ∧ (2 : Int) ^ k.toNat ≤ 1048576 := by
  obtain ⟨n, rfl⟩ := Int.eq_ofNat_of_zero_le h0
  rw [Int.toNat_natCast]
  have a : (1 : Nat) ≤ 2 ^ n := Nat.one_le_two_pow
  have b : (2 : Nat) ^ n ≤ 2 ^ 20 := Nat.pow_le_pow_right (by decide) (by omega)
  have e : (2 : Int) ^ n = ((2 ^ n : Nat) : Int) := by simp
  rw [e]
  omega
theorem pow_bits {k n : Int} (h0 : 0 ≤ k) (h1 : k ≤ 20) (hn : n ≤ 40) : (Builtin.Int.intBits (1 * 2 ^ k.toNat) : Int) + n ≤ 2 ^ 27 := by
  have h := pow_in h0 h1
  have : Builtin.Int.intBits (1 * 2 ^ k.toNat) ≤ 24 := intBits_le_iff.mpr (by omega)
  omega
theorem near_bits {a b x y n : Int} (ha : 0 ≤ a) (ha2 : a < 16777216) (hb : 0 ≤ b) (hb2 : b < 16777216) (hn : n ≤ 40) : (Builtin.Int.intBits (Builtin.bitOr (Builtin.bitAnd a x) (Builtin.bitAnd b y)) : Int) + n ≤ 2 ^ 27 := by
  have h1 := and_in (y := x) ha
  have h2 := and_in (y := y) hb
  have h := or_in (n := 24) h1.1 (by omega) h2.1 (by omega)
  have : Builtin.Int.intBits (Builtin.bitOr (Builtin.bitAnd a x) (Builtin.bitAnd b y)) ≤ 24 := intBits_le_iff.mpr (by omega)
  omega
theorem near_bits1 {k x y n : Int} (h0 : 0 ≤ k) (h1 : k ≤ 20) (hn : n ≤ 40) : (Builtin.Int.intBits (Builtin.bitOr (Builtin.bitAnd (1 * 2 ^ k.toNat * 2 ^ Int.toNat 1) x) (Builtin.bitAnd (((1 : Int) * 2 ^ k.toNat).fdiv (2 ^ Int.toNat 1)) y)) : Int) + n ≤ 2 ^ 27 := by
  have h := pow_in h0 h1
  have e : (2 : Int) ^ Int.toNat 1 = 2 := by decide
  rw [e, Int.fdiv_eq_ediv_of_nonneg _ (by decide)]
  exact near_bits (by omega) (by omega) (by omega) (by omega) hn
theorem near_bits2 {k x y n : Int} (h0 : 0 ≤ k) (h1 : k ≤ 20) (hn : n ≤ 40) : (Builtin.Int.intBits (Builtin.bitOr (Builtin.bitAnd (1 * 2 ^ k.toNat * 2 ^ Int.toNat 2) x) (Builtin.bitAnd (((1 : Int) * 2 ^ k.toNat).fdiv (2 ^ Int.toNat 2)) y)) : Int) + n ≤ 2 ^ 27 := by
  have h := pow_in h0 h1
  have e : (2 : Int) ^ Int.toNat 2 = 4 := by decide
  rw [e, Int.fdiv_eq_ediv_of_nonneg _ (by decide)]
  exact near_bits (by omega) (by omega) (by omega) (by omega) hn
theorem near_bitsJ {k x y n j : Int} (h0 : 0 ≤ k) (h1 : k ≤ 20) (hn : n ≤ 40) (hj : j = 1 ∨ j = 2) : (Builtin.Int.intBits (Builtin.bitOr (Builtin.bitAnd (1 * 2 ^ k.toNat * 2 ^ j.toNat) x) (Builtin.bitAnd (((1 : Int) * 2 ^ k.toNat).fdiv (2 ^ j.toNat)) y)) : Int) + n ≤ 2 ^ 27 := by
  rcases hj with rfl | rfl
  · exact near_bits1 h0 h1 hn
  · exact near_bits2 h0 h1 hn
theorem ne_of_contains {st : List Str} {z : Str} (h : st.contains z = false) : ∀ y ∈ st, z ≠ y := fun y hy e => by
  subst e
  rw [List.contains_iff_mem.mpr hy] at h
  cases h
theorem idx_k {k sz : Int} {n : Nat} (e1 : k = 0 + (n : Int)) (e2 : n < sz.toNat) : 0 ≤ k ∧ k < sz := by omega
/-- the knights' turns -/
structure KnS where
  (vs : List Value) (nl : Nat)
abbrev knLed (w : World) (T : GT) (f r sz fu : Int) (x d fm rm ra kn pa ca ri : Addr) (ki' : Addr) (fvs : List Value) (n1 : Nat) (q : KnS) : List (Addr × Obj) := [(x, instObj 203 d), (d, geoD w T f r sz fu fm rm ra ki' kn pa ca ri), (fm, PySem.W.listOf fvs.toArray n1), (kn, PySem.W.listOf q.vs.toArray q.nl), (ca, nilL)]
structure KnP (pre : List Int) (q : KnS) : Prop where
  h0 : q.vs.length = pre.length
theorem kn_0 : KnP [] ⟨[], 0⟩ := ⟨rfl⟩
theorem kn_next {pre : List Int} {k : Int} {vs : List Value} {a : Value} {nl : Nat} (h0 : vs.length = pre.length) : KnP (pre ++ [k]) ⟨vs ++ [a], nl⟩ := by
  refine ⟨?_⟩
  show (vs ++ [a]).length = _
  rw [List.length_append, List.length_append, h0]
  rfl
theorem wordsG61 : True := by
  k_with "pyIter ref" => (fail "w20")
  k_with "w20" => (k_here; (with_reducible show wpAny _ _ _ (fun it s₂ => LoopAtV _ _ _ _ _ (Str.ofString "square") _ _ _ it s₂) _ _); (with_reducible rename Fr _ _ _ _ => kF); (with_reducible rename News _ _ _ _ => kN); (with_reducible rename IsRange _ _ _ _ _ _ _ _ => kR); k_dflt (refine' kst_range (knLed _ _ _ _ _ _ _ _ _ _ _ _ _ _ _ _ _ _) (fun _ => []) (fun _ => True) [Str.ofString "b", Str.ofString "near", Str.ofString "far", Str.ofString "found"] KnP ⟨_, _⟩ rfl kR (small_to (by first | ((k_extra "c9"); omega) | omega) (by first | ((k_extra "c9"); omega) | omega)) (size_to (by first | ((k_extra "c9"); omega) | omega)) kF kN True.intro (by intro p hp; first | (rw [List.mem_singleton.mp hp]; rfl) | (nomatch hp)) kn_0 ?_ ?_); ((clear kF kN kR; intro q' pre' k' t' u' h' tk' own' e1' e2' off' _ P' F' N'; obtain ⟨vs', nl'⟩ := q'; obtain ⟨h0'⟩ := P'; dsimp only at h0'; (try dsimp only [knLed, envOf] at N' off'); (try simp only [List.cons_append, List.nil_append] at N'); (try dsimp only [kstB, envOf] at F'); (have k1' := idx_k e1' e2'); obtain ⟨k0', k1'⟩ := k1'; (try k_fold)); rotate_left; (clear kF kN kR; intro q' u' h' tk' _ P' F' N'; obtain ⟨vs', nl'⟩ := q'; obtain ⟨h0'⟩ := P'; dsimp only at h0'; (try simp only [rangeKs_length] at h0');  (try dsimp only [knLed, envOf] at N'); (try dsimp only [kstB, envOf] at F'); (try dsimp only); (try k_fold)); rotate_left))
  k_with "InvEndN" => (fail "w21")
  k_with "w21" => ((with_reducible show InvEndN _ _ (KstS _ _ _ (Str.ofString "square") _ _ _ _) _ _ _ _); k_dflt (refine InvEndN.intro (by assumption) (by assumption) (nx := [(_, instObj 203 _), (_, _), (_, PySem.W.listOf (List.toArray _) _), (_, PySem.W.listOf (List.toArray _) _), (_, nilL)]) ⟨⟨_, _⟩, rfl, True.intro, (by intro p hp; first | (rw [List.mem_singleton.mp hp]; rfl) | (nomatch hp)), (by intro z h1 h2 h3; have n9 := ne_of_contains h3; simp only [List.mem_cons, List.not_mem_nil, or_false, forall_eq_or_imp, forall_eq] at n9; (try dsimp only [kstB]); simp +zetaDelta only [h1, h3, n9, if_false, Bool.false_eq_true, ↓reduceIte]), kn_next (by assumption)⟩ (by rfl) (by k_allIn) (by intro p hp; k_ownIn)))
  k_with "subscriptTail" => (fail "w22")
  k_with "w22" => (k_here; (with_reducible show wpAny _ _ (subscriptTail _ _ (Value.ref _) (Value.int _ _)) _ _ _); k_dflt (refine item_ints (by k_asm) (by k_mem) (by assumption) (by first | decide | ((k_extra "c9"); omega) | omega) (by (try simp only [rankL_len, fileL_len]); omega) (by (try simp only [rankL_len, fileL_len]); omega) ?_ (by with_unfolding_all rfl)); intro t'; (try dsimp only); (try k_fold))
  k_with "subscriptTail Attribute" => k_extra "subscriptTail"
  k_with "subscriptTail Subscript" => k_extra "subscriptTail"
  k_with "binaryOp Mult int int" => (fail "w23")
  k_with "w23" => (k_here; (with_reducible show wpAny _ _ (binaryOp Operator.Mult (Value.int 2 _) _) _ _ _); (refine mul_int ?_ (hm := PySem.IntMulOk.of_left (PySem.intBits_le_64 (by decide) (by decide)))))
  k_with "call builtin:list.append" => (fail "w24")
  k_with "w24" => (k_here; (with_reducible show wpAny _ _ (call (Value.builtin _) [Value.ref _, _]) _ _ _); k_dflt (refine append_U (by k_asm) (by k_asm) (by k_updF) (len_line (by assumption) (by first | ((k_extra "c9"); omega) | omega)) ?_); intro h' F' N'; (try dsimp only at N'); (try k_sweep); (try dsimp only); (try k_fold))
  k_with "binaryOp LShift int int" => (fail "w25")
  k_with "w25" => (k_here; (with_reducible show wpAny _ _ (binaryOp Operator.LShift (Value.int 1 _) (Value.int _ _)) _ _ _); (refine lshift_int (by assumption) (one_bits (by first | ((k_extra "c9"); omega) | omega)) ?_))
  k_with "binaryOp LShift int int" => (fail "w26")
  k_with "w26" => (k_here; (with_reducible show wpAny _ _ (binaryOp Operator.LShift (Value.int (1 * 2 ^ _) _) (Value.int _ _)) _ _ _); (refine lshift_int (by decide) (pow_bits (by assumption) (by first | ((k_extra "c9"); omega) | omega) (by decide)) ?_))
  k_with "binaryOp RShift int int" => (fail "w27")
  k_with "w27" => (k_here; (with_reducible show wpAny _ _ (binaryOp Operator.RShift (Value.int _ _) (Value.int _ _)) _ _ _); (refine rshift_int (by first | ((k_extra "c9"); omega) | omega) ?_))
  k_with "binaryOp LShift int int" => (fail "w28")
  k_with "w28" => (k_here; (with_reducible show wpAny _ _ (binaryOp Operator.LShift (Value.int (Builtin.bitOr _ _) _) (Value.int _ _)) _ _ _); (refine lshift_int (by first | ((k_extra "c9"); omega) | omega) (near_bitsJ (by assumption) (by first | ((k_extra "c9"); omega) | omega) (by first | ((k_extra "c9"); omega) | omega) (by decide)) ?_))
  trivial
theorem knights_spec {prog p : Program} {w : World} {loose : List Str} {mean : ExcName → Option Value} {mg mb : Str → Option Value} {dp un : Nat} {gd : Option (List Code)} {cn : Str} {cs : Scope} {a : Addr} {ccd : Value} {outer : List Env} {A₀ : Around} {base h₀ : Heap} {L : Addr} {m : Str → Option Value} {s : Shared} {Q E : Value → Shared → Prop}
    {news : List (Addr × Obj)} {cl : List (Str × Addr)}
    {T : GT} {x d fm rm ra kn pa ca ri : Addr} {f r sz fu : Int} {ki' : Addr} {fvs : List Value} {n1 : Nat}
    (S : Site w p loose mean mg mb cs outer A₀ base h₀ L m [(x, instObj 203 d), (d, geoD w T f r sz fu fm rm ra ki' kn pa ca ri), (fm, PySem.W.listOf fvs.toArray n1), (kn, nilL), (ca, nilL)] s.heap)
    (c1 : @Ne Nat x d) (c2 : @LT.lt Nat _ x fm) (c3 : @LT.lt Nat _ d fm) (c4 : @LT.lt Nat _ fm kn) (c5 : @LT.lt Nat _ kn ca) (hf1 : 2 ≤ f) (hf2 : f ≤ 4) (hs1 : 6 ≤ sz) (hs2 : sz ≤ 20) (hfi : IntsAre fvs (fileL f r.toNat f.toNat))
    (hdp : dp + 20 < recursionLimit) (hun : un + 200 < cLine)
    (h : ∀ (h' : Heap) (tk' : Nat), Fr h₀ L h' m → News h₀ L h' [(x, instObj 203 d), (d, geoD w T f r sz fu fm rm ra ki' kn pa ca ri), (ca, nilL)] → Q .none { s with heap := h', toks := tk' }) :
    wpAny (model prog w) (ktrTop dp un gd cn cs L a ccd cl outer) (call (.ref 249) [.ref x]) Q E s := by
  have hsub : ∀ q ∈ [(x, instObj 203 d), (d, geoD w T f r sz fu fm rm ra ki' kn pa ca ri), (fm, PySem.W.listOf fvs.toArray n1), (kn, nilL), (ca, nilL)], q ∈ [(x, instObj 203 d), (d, geoD w T f r sz fu fm rm ra ki' kn pa ca ri), (fm, PySem.W.listOf fvs.toArray n1), (kn, nilL), (ca, nilL)] := fun _ h => h
  k_dflt ktr_enter
  k_steps
  exact leaveE_ (by assumption) (by assumption) ⟨[(_, instObj 203 _), (_, geoD w _ _ _ _ _ _ _ _ _ _ _ _ _), (_, nilL)], sub_left (by k_allIn), fun F9 N9 => h _ _ F9 N9⟩
end Mine
end

section
namespace Mine
theorem wordsG6b0 : True := by
  k_with_none
  w_top off
  k_with "a9" => (with_reducible assumption)
  k_with "c9" => (repeat (with_reducible rename _ ∧ _ => hA9; clear hA9)); (repeat (with_reducible rename _ ≠ _ => hA9; clear hA9))
  k_with "u9" => ((with_reducible rename News _ _ _ _ => N9); dsimp +zetaDelta only at N9)
  k_with "p0" => (refine offAt (by fail "a9") 0 ?_; exact rfl)
  k_with "p1" => (refine offAt (by fail "a9") 1 ?_; exact rfl)
  k_with "p2" => (refine offAt (by fail "a9") 2 ?_; exact rfl)
  k_with "p3" => (refine offAt (by fail "a9") 3 ?_; exact rfl)
  k_with "p4" => (refine offAt (by fail "a9") 4 ?_; exact rfl)
  k_with "p5" => (refine offAt (by fail "a9") 5 ?_; exact rfl)
  k_with "p6" => (refine offAt (by fail "a9") 6 ?_; exact rfl)
  k_with "p7" => (refine offAt (by fail "a9") 7 ?_; exact rfl)
  k_with "p8" => (refine offAt (by fail "a9") 8 ?_; exact rfl)
  k_with "p9" => (refine offAt (by fail "a9") 9 ?_; exact rfl)
  k_with "p10" => (refine offAt (by fail "a9") 10 ?_; exact rfl)
  k_with "p11" => (refine offAt (by fail "a9") 11 ?_; exact rfl)
  k_with "p12" => (refine offAt (by fail "a9") 12 ?_; exact rfl)
  k_with "p13" => (refine offAt (by fail "a9") 13 ?_; exact rfl)
  k_with "p14" => (refine ltAt (by fail "a9") 0 ?_; exact rfl)
  k_with "p15" => (refine ltAt (by fail "a9") 1 ?_; exact rfl)
  k_with "p16" => (refine ltAt (by fail "a9") 2 ?_; exact rfl)
  k_with "p17" => (refine ltAt (by fail "a9") 3 ?_; exact rfl)
  k_with "p18" => (refine ltAt (by fail "a9") 4 ?_; exact rfl)
  k_with "p19" => (refine ltAt (by fail "a9") 5 ?_; exact rfl)
  k_with "p20" => (refine ltAt (by fail "a9") 6 ?_; exact rfl)
  k_with "p21" => (refine ltAt (by fail "a9") 7 ?_; exact rfl)
  k_with "p22" => (refine ltAt (by fail "a9") 8 ?_; exact rfl)
  k_with "p23" => (refine ltAt (by fail "a9") 9 ?_; exact rfl)
  k_with "p24" => (refine ltAt (by fail "a9") 10 ?_; exact rfl)
  k_with "p25" => (refine ltAt (by fail "a9") 11 ?_; exact rfl)
  k_with "p26" => (refine ltAt (by fail "a9") 12 ?_; exact rfl)
  k_with "p27" => (refine ltAt (by fail "a9") 13 ?_; exact rfl)
  k_with "r9" => (fail "w1")
  k_with "w1" => (first | fail "a9" | exact Nat.le_of_lt (by fail "a9"))
  k_with "offs9" => (first | fail "p0" | fail "p1" | fail "p2" | fail "p3" | fail "p4" | fail "p5" | fail "p6" | fail "p7" | fail "p8" | fail "p9" | fail "p10" | fail "p11" | fail "p12" | fail "p13" | fail "p14" | fail "p15" | fail "p16" | fail "p17" | fail "p18" | fail "p19" | fail "p20" | fail "p21" | fail "p22" | fail "p23" | fail "p24" | fail "p25" | fail "p26" | fail "p27")
  k_with "mem9" => (fail "w2")
  k_with "w2" => (first | exact List.Mem.head _ | exact List.Mem.tail _ (List.Mem.head _) | (refine memAt 0 ?_; exact rfl) | (refine memAt 1 ?_; exact rfl) | (refine memAt 2 ?_; exact rfl) | (refine memAt 3 ?_; exact rfl) | (refine memAt 4 ?_; exact rfl) | (refine memAt 5 ?_; exact rfl) | (refine memAt 6 ?_; exact rfl) | (refine memAt 7 ?_; exact rfl) | (refine memAt 8 ?_; exact rfl) | (refine memAt 9 ?_; exact rfl) | (refine memAt 10 ?_; exact rfl) | (refine memAt 11 ?_; exact rfl) | (refine memAt 12 ?_; exact rfl) | (refine memAt 13 ?_; exact rfl) | (refine memAt 14 ?_; exact rfl) | (refine memAt 15 ?_; exact rfl) | (refine memAt 16 ?_; exact rfl) | (refine memAt 17 ?_; exact rfl))
  k_with "lts9" => (fail "w3")
  k_with "w3" => (first | (refine ltB (by fail "a9") 0 ?_; exact rfl) | (refine ltB (by fail "a9") 1 ?_; exact rfl) | (refine ltB (by fail "a9") 2 ?_; exact rfl) | (refine ltB (by fail "a9") 3 ?_; exact rfl) | (refine ltB (by fail "a9") 4 ?_; exact rfl) | (refine ltB (by fail "a9") 5 ?_; exact rfl) | (refine ltB (by fail "a9") 6 ?_; exact rfl) | (refine ltB (by fail "a9") 7 ?_; exact rfl) | (refine ltB (by fail "a9") 8 ?_; exact rfl) | (refine ltB (by fail "a9") 9 ?_; exact rfl) | (refine ltB (by fail "a9") 10 ?_; exact rfl) | (refine ltB (by fail "a9") 11 ?_; exact rfl) | (refine ltB (by fail "a9") 12 ?_; exact rfl) | (refine ltB (by fail "a9") 13 ?_; exact rfl))
  k_with "rooms9" => (fail "w4")
  k_with "w4" => (first | (refine rl2 (by fail "r9") ?_; exact rfl) | (refine rl1 (by fail "r9") ?_; exact rfl) | (refine rl3 (by fail "r9") ?_; exact rfl) | (refine rl0 (by fail "r9") ?_; exact rfl) | (refine rl4 (by fail "r9") ?_; exact rfl) | (refine rm2 (by fail "r9") ?_; exact rfl) | (refine rm1 (by fail "r9") ?_; exact rfl) | (refine rm3 (by fail "r9") ?_; exact rfl) | (refine rm0 (by fail "r9") ?_; exact rfl) | (refine rm4 (by fail "r9") ?_; exact rfl))
  k_with "k_ne" => (fail "w5")
  k_with "w5" => (refine neN ?_; (try dsimp only); first | fail "a9" | (refine Ne.symm ?_; fail "a9") | exact Nat.ne_of_lt (by fail "a9") | exact Nat.ne_of_gt (by fail "a9") | k_extra "offs9" | (refine Ne.symm ?_; first | k_extra "offs9") | ((try simp only [LCg.Off1, and_true] at *); omega))
  k_with "k_mem" => (fail "w6")
  k_with "w6" => (first | fail "a9" | k_extra "mem9")
  k_with "k_memK" => (first | k_extra "mem9")
  k_with "is_list" => (fail "w7")
  k_with "w7" => (exact News.isList (by fail "a9") (by k_mem))
  k_with "ktr_room" => (fail "w8")
  k_with "w8" => ((try dsimp only [depth_under_make, depth_under_kw, depth_in1, depth_deeper, depth_caller]); (try dsimp only [ktrTop]); first | decide | k_extra "rooms9")
  k_with "units_room" => (fail "w9")
  k_with "w9" => ((try dsimp only [units_in1, units_deeper, Around.mark_units, units_caller]); (try dsimp only [ktrTop]); first | decide | k_extra "rooms9")
  k_with "l_idx" => ((k_extra "c9"); omega)
  k_with "l_fit" => ((k_extra "c9"); omega)
  k_with "ktr_units" => (fail "w10")
  k_with "w10" => ((try dsimp only [units_in1, units_deeper, Around.mark_units, units_caller]); (try dsimp only [ktrTop]); first | decide | k_extra "rooms9")
  k_with "execs cons" => (fail "w11")
  k_with "w11" => (k_here; first | k_gentoks | ((try dsimp only); (try k_gentoks); (try (with_reducible refine letA ?_; intro A9)); (try ((with_reducible rename Fr _ _ _ _ => F9); refine letF F9 ?_; clear F9; intro m9 F9)); (first | (with_reducible refine execHidB fun q9 hq9 => ?_) | (refine hideQ fun q9 hq9 => ?_; with_reducible refine execHidB fun q9 hq9 => ?_))))
  k_with "Hid" => (fail "w12")
  k_with "w12" => (first | ((with_reducible refine unhidNextT (by fail "a9") ?_); intro tk9; (try dsimp only)) | ((with_reducible refine unhidNext (by fail "a9") ?_); (try dsimp only)) | ((with_reducible refine unhidRet (by fail "a9") ?_); (try dsimp only)) | ((with_reducible refine unhid (by fail "a9") ?_); (try dsimp only [Behind])))
  k_with "spliced" => (fail "w13")
  k_with "w13" => (k_here; (with_reducible show wpAny _ _ (spliced (backTo _ (starEach (_ :: _ :: _ :: _) _))) _ _ _); k_dflt (refine' args_cons ?_ ?_; rotate_left; rfl))
  k_with "spliced" => (fail "w14")
  k_with "w14" => (k_here; k_dflt ((refine' argsF ?_ ?_ ?_ ?_); (rotate_left 4); k_asm; rfl; rfl); (try dsimp only [List.nil_append, List.cons_append]))
  k_with "eval Call" => (fail "w15")
  k_with "w15" => (k_here; (with_reducible show wpAny _ _ (eval (PySem.Expr.Call (PySem.Expr.Name _ _) (_ :: _) [] _) _) _ _ _); first | (k_dflt ((refine' callF ?_ ?_ ?_ ?_ ?_ ?_ ?_ ?_ ?_ ?_ ?_); (rotate_left 10); k_asm; k_asm; k_asm; k_is; k_is; rfl; rfl; rfl; rotate_left; decide; rfl)) | k_compRoot | k_dflt (refine' Call_ ?_))
  k_with "eval Name" => (fail "w16")
  k_with "w16" => (k_here; (with_reducible show wpAny _ _ (eval (PySem.Expr.Name _ _) (envOf _ _ _ _ _)) _ _ _); first | k_dflt ((refine' nameX_K ?_ ?_ ?_ ?_ ?_ ?_ ?_ ?_); (rotate_left 8); k_asm; k_asm; k_asm; k_is; rotate_left; rfl; rfl; decide) | k_dflt ((refine' nameX_L ?_ ?_ ?_ ?_ ?_ ?_); (rotate_left 3); k_asm; rfl; rotate_left; rfl; rfl; decide))
  k_with "callWith ref" => (fail "w17")
  k_with "w17" => (k_here; (with_reducible show wpAny _ _ (callWith _ _ _ (backTo _ (starEach [] _)) []) _ _ _); k_dflt (refine callF0 (by fail "a9") (by fail "a9") (by k_is) ?_))
  k_with "k_lt" => skip
  k_with "ktr_enter" => (fail "w18")
  k_with "w18" => (refine enterK (by assumption) (by assumption) (by k_is) (by k_is) (by ktr_room) (by exact BindsTo.of_eq rfl) (by exact locs rfl) ?_ (by exact rfl) (by exact rfl) (by exact rfl) (by decide); k_whole; intro g' L' h' F' N' B' X' T' lN' gN' tk9'; (try k_lt lN'); (try dsimp only); (try k_fold))
  k_with "call type:range" => (fail "w19")
  k_with "w19" => (k_here; (rename Fr _ _ _ _ => F'); (rename News _ _ _ _ => N'); first | (with_unfolding_all refine range1_rows F' N' ?_; intro _ _ _ _ _ _ _ _ _) | (with_unfolding_all refine range2_rows F' N' ?_; intro _ _ _ _ _ _ _ _ _))
  trivial
/-- the castles' turns -/
structure KcS where
  (vs : List Value) (nl : Nat)
abbrev kcLed (w : World) (T : GT) (f r sz fu : Int) (x d fm rm ra kn pa ca ri : Addr) (ki' : Addr) (q : KcS) : List (Addr × Obj) := [(x, instObj 203 d), (d, geoD w T f r sz fu fm rm ra ki' kn pa ca ri), (ca, PySem.W.listOf q.vs.toArray q.nl)]
structure KcP (pre : List Int) (q : KcS) : Prop where
  h0 : q.vs.length = pre.length
theorem kc_0 : KcP [] ⟨[], 0⟩ := ⟨rfl⟩
theorem kc_next {pre : List Int} {k : Int} {vs : List Value} {a : Value} {nl : Nat} (h0 : vs.length = pre.length) : KcP (pre ++ [k]) ⟨vs ++ [a], nl⟩ := by
  refine ⟨?_⟩
  show (vs ++ [a]).length = _
  rw [List.length_append, List.length_append, h0]
  rfl
theorem idx_c {k : Int} {n : Nat} (e1 : k = 0 + (n : Int)) (e2 : n < 4) : 0 ≤ k ∧ k < 4 := by omega
theorem wordsG6b1 : True := by
  k_with "pyIter ref" => (fail "w20")
  k_with "w20" => (k_here; (with_reducible show wpAny _ _ _ (fun it s₂ => LoopAtV _ _ _ _ _ (Str.ofString "index") _ _ _ it s₂) _ _); (with_reducible rename Fr _ _ _ _ => kF); (with_reducible rename News _ _ _ _ => kN); k_dflt (refine' kst_range (n := 4) (kcLed _ _ _ _ _ _ _ _ _ _ _ _ _ _ _ _) (fun _ => []) (fun _ => True) [Str.ofString "base", Str.ofString "corner", Str.ofString "way", Str.ofString "goal"] KcP ⟨_, _⟩ rfl (by first | assumption | exact isRange_of kN (by k_mem)) (by decide) (by exact (rfl : _ = ((4 : Nat) : Int))) kF (kst_newsOf kN (by k_allIn)) True.intro (by intro p hp; nomatch hp) kc_0 ?_ ?_); ((clear kF kN; intro q' pre' k' t' u' h' tk' own' e1' e2' off' _ P' F' N'; obtain ⟨vs', nl'⟩ := q'; obtain ⟨h0'⟩ := P'; dsimp only at h0'; (try dsimp only [kcLed, envOf] at N' off'); (try simp only [List.cons_append, List.nil_append] at N'); (try dsimp only [kstB, envOf] at F'); (have k1' := idx_c e1' e2'); obtain ⟨k0', k1'⟩ := k1'; (try k_fold)); rotate_left; (clear kF kN; intro q' u' h' tk' _ P' F' N'; obtain ⟨vs', nl'⟩ := q'; (try dsimp only [kcLed, envOf] at N'); (try dsimp only [kstB, envOf] at F'); (try dsimp only); (try k_fold)); rotate_left))
  k_with "call builtin:list.append" => (fail "w21")
  k_with "w21" => (k_here; (with_reducible show wpAny _ _ (call (Value.builtin _) [Value.ref _, _]) _ _ _); k_dflt (refine append_U (by k_asm) (by k_asm) (by k_updF) (len_line (by assumption) (by first | ((k_extra "c9"); omega) | omega)) ?_); intro h' F' N'; (try dsimp only at N'); (try k_sweep); (try dsimp only); (try k_fold))
  k_with "InvEndN" => (fail "w22")
  k_with "w22" => ((with_reducible show InvEndN _ _ (KstS _ _ _ (Str.ofString "index") _ _ _ _) _ _ _ _); k_dflt (refine InvEndN.intro (by assumption) (by assumption) (nx := [(_, instObj 203 _), (_, _), (_, PySem.W.listOf (List.toArray _) _)]) ⟨⟨_, _⟩, rfl, True.intro, (by intro p hp; nomatch hp), (by intro z h1 h2 h3; have n9 := ne_of_contains h3; simp only [List.mem_cons, List.not_mem_nil, or_false, forall_eq_or_imp, forall_eq] at n9; (try dsimp only [kstB]); simp +zetaDelta only [h1, h3, n9, if_false, Bool.false_eq_true, ↓reduceIte]), kc_next (by assumption)⟩ (by rfl) (by k_allIn) (by intro p hp; k_ownIn)))
  trivial
theorem castles_spec {prog p : Program} {w : World} {loose : List Str} {mean : ExcName → Option Value} {mg mb : Str → Option Value} {dp un : Nat} {gd : Option (List Code)} {cn : Str} {cs : Scope} {a : Addr} {ccd : Value} {outer : List Env} {A₀ : Around} {base h₀ : Heap} {L : Addr} {m : Str → Option Value} {s : Shared} {Q E : Value → Shared → Prop}
    {news : List (Addr × Obj)} {cl : List (Str × Addr)}
    {T : GT} {x d fm rm ra kn pa ca ri : Addr} {f r sz fu : Int} {ki' : Addr}
    (S : Site w p loose mean mg mb cs outer A₀ base h₀ L m [(x, instObj 203 d), (d, geoD w T f r sz fu fm rm ra ki' kn pa ca ri), (ca, nilL)] s.heap)
    (c1 : @Ne Nat x d) (c2 : @LT.lt Nat _ x ca) (c3 : @LT.lt Nat _ d ca) (hf1 : 2 ≤ f) (hf2 : f ≤ 4) (hr1 : 3 ≤ r) (hr2 : r ≤ 6) (hs1 : 6 ≤ sz) (hs2 : sz ≤ 20)
    (hdp : dp + 20 < recursionLimit) (hun : un + 200 < cLine)
    (h : ∀ (ri' : Addr) (h' : Heap) (tk' : Nat), Fr h₀ L h' m → News h₀ L h' [(x, instObj 203 d), (d, geoD w T f r sz fu fm rm ra ki' kn pa ca ri')] → Q .none { s with heap := h', toks := tk' }) :
    wpAny (model prog w) (ktrTop dp un gd cn cs L a ccd cl outer) (call (.ref 256) [.ref x]) Q E s := by
  have hsub : ∀ q ∈ [(x, instObj 203 d), (d, geoD w T f r sz fu fm rm ra ki' kn pa ca ri), (ca, nilL)], q ∈ [(x, instObj 203 d), (d, geoD w T f r sz fu fm rm ra ki' kn pa ca ri), (ca, nilL)] := fun _ h => h
  k_dflt ktr_enter
  k_steps
  exact leaveE_ (by assumption) (by assumption) ⟨[(_, instObj 203 _), (_, geoD w _ _ _ _ _ _ _ _ _ _ _ _ _)], sub_left (by k_allIn), fun F9 N9 => h _ _ _ F9 N9⟩
end Mine
end

section
namespace Mine
theorem wordsG10 : True := by
  k_with_none
  w_top off
  k_with "a9" => (with_reducible assumption)
  k_with "c9" => (repeat (with_reducible rename _ ∧ _ => hA9; clear hA9)); (repeat (with_reducible rename _ ≠ _ => hA9; clear hA9))
  k_with "u9" => ((with_reducible rename News _ _ _ _ => N9); dsimp +zetaDelta only at N9)
  k_with "p0" => (refine offAt (by fail "a9") 0 ?_; exact rfl)
  k_with "p1" => (refine offAt (by fail "a9") 1 ?_; exact rfl)
  k_with "p2" => (refine offAt (by fail "a9") 2 ?_; exact rfl)
  k_with "p3" => (refine offAt (by fail "a9") 3 ?_; exact rfl)
  k_with "p4" => (refine offAt (by fail "a9") 4 ?_; exact rfl)
  k_with "p5" => (refine offAt (by fail "a9") 5 ?_; exact rfl)
  k_with "p6" => (refine offAt (by fail "a9") 6 ?_; exact rfl)
  k_with "p7" => (refine offAt (by fail "a9") 7 ?_; exact rfl)
  k_with "p8" => (refine offAt (by fail "a9") 8 ?_; exact rfl)
  k_with "p9" => (refine offAt (by fail "a9") 9 ?_; exact rfl)
  k_with "p10" => (refine offAt (by fail "a9") 10 ?_; exact rfl)
  k_with "p11" => (refine offAt (by fail "a9") 11 ?_; exact rfl)
  k_with "p12" => (refine offAt (by fail "a9") 12 ?_; exact rfl)
  k_with "p13" => (refine offAt (by fail "a9") 13 ?_; exact rfl)
  k_with "p14" => (refine ltAt (by fail "a9") 0 ?_; exact rfl)
  k_with "p15" => (refine ltAt (by fail "a9") 1 ?_; exact rfl)
  k_with "p16" => (refine ltAt (by fail "a9") 2 ?_; exact rfl)
  k_with "p17" => (refine ltAt (by fail "a9") 3 ?_; exact rfl)
  k_with "p18" => (refine ltAt (by fail "a9") 4 ?_; exact rfl)
  k_with "p19" => (refine ltAt (by fail "a9") 5 ?_; exact rfl)
  k_with "p20" => (refine ltAt (by fail "a9") 6 ?_; exact rfl)
  k_with "p21" => (refine ltAt (by fail "a9") 7 ?_; exact rfl)
  k_with "p22" => (refine ltAt (by fail "a9") 8 ?_; exact rfl)
  k_with "p23" => (refine ltAt (by fail "a9") 9 ?_; exact rfl)
  k_with "p24" => (refine ltAt (by fail "a9") 10 ?_; exact rfl)
  k_with "p25" => (refine ltAt (by fail "a9") 11 ?_; exact rfl)
  k_with "p26" => (refine ltAt (by fail "a9") 12 ?_; exact rfl)
  k_with "p27" => (refine ltAt (by fail "a9") 13 ?_; exact rfl)
  k_with "r9" => (fail "w1")
  k_with "w1" => (first | fail "a9" | exact Nat.le_of_lt (by fail "a9"))
  k_with "offs9" => (first | fail "p0" | fail "p1" | fail "p2" | fail "p3" | fail "p4" | fail "p5" | fail "p6" | fail "p7" | fail "p8" | fail "p9" | fail "p10" | fail "p11" | fail "p12" | fail "p13" | fail "p14" | fail "p15" | fail "p16" | fail "p17" | fail "p18" | fail "p19" | fail "p20" | fail "p21" | fail "p22" | fail "p23" | fail "p24" | fail "p25" | fail "p26" | fail "p27")
  k_with "mem9" => (fail "w2")
  k_with "w2" => (first | exact List.Mem.head _ | exact List.Mem.tail _ (List.Mem.head _) | (refine memAt 0 ?_; exact rfl) | (refine memAt 1 ?_; exact rfl) | (refine memAt 2 ?_; exact rfl) | (refine memAt 3 ?_; exact rfl) | (refine memAt 4 ?_; exact rfl) | (refine memAt 5 ?_; exact rfl) | (refine memAt 6 ?_; exact rfl) | (refine memAt 7 ?_; exact rfl) | (refine memAt 8 ?_; exact rfl) | (refine memAt 9 ?_; exact rfl) | (refine memAt 10 ?_; exact rfl) | (refine memAt 11 ?_; exact rfl) | (refine memAt 12 ?_; exact rfl) | (refine memAt 13 ?_; exact rfl) | (refine memAt 14 ?_; exact rfl) | (refine memAt 15 ?_; exact rfl) | (refine memAt 16 ?_; exact rfl) | (refine memAt 17 ?_; exact rfl))
  k_with "lts9" => (fail "w3")
  k_with "w3" => (first | (refine ltB (by fail "a9") 0 ?_; exact rfl) | (refine ltB (by fail "a9") 1 ?_; exact rfl) | (refine ltB (by fail "a9") 2 ?_; exact rfl) | (refine ltB (by fail "a9") 3 ?_; exact rfl) | (refine ltB (by fail "a9") 4 ?_; exact rfl) | (refine ltB (by fail "a9") 5 ?_; exact rfl) | (refine ltB (by fail "a9") 6 ?_; exact rfl) | (refine ltB (by fail "a9") 7 ?_; exact rfl) | (refine ltB (by fail "a9") 8 ?_; exact rfl) | (refine ltB (by fail "a9") 9 ?_; exact rfl) | (refine ltB (by fail "a9") 10 ?_; exact rfl) | (refine ltB (by fail "a9") 11 ?_; exact rfl) | (refine ltB (by fail "a9") 12 ?_; exact rfl) | (refine ltB (by fail "a9") 13 ?_; exact rfl))
  k_with "rooms9" => (fail "w4")
  k_with "w4" => (first | (refine rl2 (by fail "r9") ?_; exact rfl) | (refine rl1 (by fail "r9") ?_; exact rfl) | (refine rl3 (by fail "r9") ?_; exact rfl) | (refine rl0 (by fail "r9") ?_; exact rfl) | (refine rl4 (by fail "r9") ?_; exact rfl) | (refine rm2 (by fail "r9") ?_; exact rfl) | (refine rm1 (by fail "r9") ?_; exact rfl) | (refine rm3 (by fail "r9") ?_; exact rfl) | (refine rm0 (by fail "r9") ?_; exact rfl) | (refine rm4 (by fail "r9") ?_; exact rfl))
  k_with "k_ne" => (fail "w5")
  k_with "w5" => (refine neN ?_; (try dsimp only); first | fail "a9" | (refine Ne.symm ?_; fail "a9") | exact Nat.ne_of_lt (by fail "a9") | exact Nat.ne_of_gt (by fail "a9") | k_extra "offs9" | (refine Ne.symm ?_; first | k_extra "offs9") | ((try simp only [LCg.Off1, and_true] at *); omega))
  k_with "k_mem" => (fail "w6")
  k_with "w6" => (first | fail "a9" | k_extra "mem9")
  k_with "k_memK" => (first | k_extra "mem9")
  k_with "is_list" => (fail "w7")
  k_with "w7" => (exact News.isList (by fail "a9") (by k_mem))
  k_with "ktr_room" => (fail "w8")
  k_with "w8" => ((try dsimp only [depth_under_make, depth_under_kw, depth_in1, depth_deeper, depth_caller]); (try dsimp only [ktrTop]); first | decide | k_extra "rooms9")
  k_with "units_room" => (fail "w9")
  k_with "w9" => ((try dsimp only [units_in1, units_deeper, Around.mark_units, units_caller]); (try dsimp only [ktrTop]); first | decide | k_extra "rooms9")
  k_with "l_idx" => ((k_extra "c9"); omega)
  k_with "l_fit" => ((k_extra "c9"); omega)
  k_with "ktr_units" => (fail "w10")
  k_with "w10" => ((try dsimp only [units_in1, units_deeper, Around.mark_units, units_caller]); (try dsimp only [ktrTop]); first | decide | k_extra "rooms9")
  k_with "execs cons" => (fail "w11")
  k_with "w11" => (k_here; first | k_gentoks | ((try dsimp only); (try k_gentoks); (try (with_reducible refine letA ?_; intro A9)); (try ((with_reducible rename Fr _ _ _ _ => F9); refine letF F9 ?_; clear F9; intro m9 F9)); (first | (with_reducible refine execHidB fun q9 hq9 => ?_) | (refine hideQ fun q9 hq9 => ?_; with_reducible refine execHidB fun q9 hq9 => ?_))))
  k_with "Hid" => (fail "w12")
  k_with "w12" => (first | ((with_reducible refine unhidNextT (by fail "a9") ?_); intro tk9; (try dsimp only)) | ((with_reducible refine unhidNext (by fail "a9") ?_); (try dsimp only)) | ((with_reducible refine unhidRet (by fail "a9") ?_); (try dsimp only)) | ((with_reducible refine unhid (by fail "a9") ?_); (try dsimp only [Behind])))
  k_with "spliced" => (fail "w13")
  k_with "w13" => (k_here; (with_reducible show wpAny _ _ (spliced (backTo _ (starEach (_ :: _ :: _ :: _) _))) _ _ _); k_dflt (refine' args_cons ?_ ?_; rotate_left; rfl))
  k_with "spliced" => (fail "w14")
  k_with "w14" => (k_here; k_dflt ((refine' argsF ?_ ?_ ?_ ?_); (rotate_left 4); k_asm; rfl; rfl); (try dsimp only [List.nil_append, List.cons_append]))
  k_with "eval Call" => (fail "w15")
  k_with "w15" => (k_here; (with_reducible show wpAny _ _ (eval (PySem.Expr.Call (PySem.Expr.Name _ _) (_ :: _) [] _) _) _ _ _); first | (k_dflt ((refine' callF ?_ ?_ ?_ ?_ ?_ ?_ ?_ ?_ ?_ ?_ ?_); (rotate_left 10); k_asm; k_asm; k_asm; k_is; k_is; rfl; rfl; rfl; rotate_left; decide; rfl)) | k_compRoot | k_dflt (refine' Call_ ?_))
  k_with "eval Name" => (fail "w16")
  k_with "w16" => (k_here; (with_reducible show wpAny _ _ (eval (PySem.Expr.Name _ _) (envOf _ _ _ _ _)) _ _ _); first | k_dflt ((refine' nameX_K ?_ ?_ ?_ ?_ ?_ ?_ ?_ ?_); (rotate_left 8); k_asm; k_asm; k_asm; k_is; rotate_left; rfl; rfl; decide) | k_dflt ((refine' nameX_L ?_ ?_ ?_ ?_ ?_ ?_); (rotate_left 3); k_asm; rfl; rotate_left; rfl; rfl; decide))
  k_with "callWith ref" => (fail "w17")
  k_with "w17" => (k_here; (with_reducible show wpAny _ _ (callWith _ _ _ (backTo _ (starEach [] _)) []) _ _ _); k_dflt (refine callF0 (by fail "a9") (by fail "a9") (by k_is) ?_))
  k_with "k_lt" => skip
  k_with "ktr_enter" => (fail "w18")
  k_with "w18" => first | (refine enterK (by assumption) (by assumption) (by k_is) (by k_is) (by ktr_room) (by exact BindsTo.of_eq rfl) (by exact locs rfl) ?_ (by exact rfl) (by exact rfl) (by exact rfl) (by decide); k_whole; intro g' L' h' F' N' B' X' T' lN' gN' tk9'; (try k_lt lN'); (try dsimp only); (try k_fold)) | (refine enterC (by assumption) (by assumption) (by k_is) (by k_is) (by ktr_room) (by exact BindsTo.of_eq rfl) (by exact rfl) (by decide +kernel) ?_ (by exact rfl) (by exact rfl) (by exact rfl); k_whole; intro g' L' h' tk' cells' F' N' Y' B' X' T' lN' gN'; (try k_lt lN'); k_cells Y'; (try simp only [List.cons_append, List.nil_append] at N'); (try dsimp only); (try k_fold))
  trivial
theorem geom_new {prog p : Program} {w : World} {loose : List Str} {mean : ExcName → Option Value} {mg mb : Str → Option Value} {dp un : Nat} {gd : Option (List Code)} {cn : Str} {cs : Scope} {a : Addr} {ccd : Value} {outer : List Env} {A₀ : Around} {base h₀ : Heap} {L : Addr} {m : Str → Option Value} {s : Shared} {Q E : Value → Shared → Prop}
    {news : List (Addr × Obj)} {cl : List (Str × Addr)}
    {f r : Int} {tf tr : Tok}
    (S : Site w p loose mean mg mb cs outer A₀ base h₀ L m news s.heap)
    (hf1 : 2 ≤ f) (hf2 : f ≤ 4) (hr1 : 3 ≤ r) (hr2 : r ≤ 6) (hs1 : 6 ≤ f * r) (hs2 : f * r ≤ 20)
    (hdp : dp + 4 < recursionLimit) (hun : un + 40 < cLine)
    (h : ∀ (T : GT) (x d fm rm ra ki kn p0 p1 pa ca ri : Addr) (fu : Int) (h' : Heap) (tk' : Nat), fu = 2 ^ (f * r).toNat - 1 → GCh x d fm rm ra kn p0 p1 pa ca → LCg.Off1 x news → LCg.Off1 d news →
      Fr h₀ L h' m → News h₀ L h' ((x, instObj 203 d) :: (d, geoD w T f r (f * r) fu fm rm ra ki kn pa ca ri) :: (fm, nilL) :: (rm, nilL) :: (ra, nilL) :: (kn, nilL) :: (pa, PySem.W.listOf #[.ref p0, .ref p1] 0) :: (p0, nilL) :: (p1, nilL) :: (ca, nilL) :: news) → Q (.ref x) { s with heap := h', toks := tk' }) :
    wpAny (model prog w) (ktrTop dp un gd cn cs L a ccd cl outer) (call (.ref 203) [.int f tf, .int r tr, .bool false, .bool false]) Q E s := by
  refine' enterI S ?k1 ?k2 ?k3 ?k4 ?k5 ?k6 ?k7 ?k8 ?_ ?c1 ?c2 ?c3 ?c4
  case k1 => k_is
  case k2 => k_is
  case k3 => k_is
  case k4 => k_is
  case k5 => k_is
  case k6 => ktr_room
  case k7 => exact fun _ _ => BindsTo.of_eq rfl
  case k8 => exact fun _ => locs rfl
  case c1 => exact rfl
  case c2 => exact rfl
  case c3 => exact rfl
  case c4 => decide
  k_whole
  intro x' d' g' L' h' tk' o1' o2' n1' F' N' B' X' T' lN'
  try dsimp only
  try k_fold
  k_steps
  refine' leaveE_ (by assumption) (by assumption) ⟨rfl, _, sub_split (extra := [(_, instObj 203 _), (_, geoD w ⟨_, _, _, _, _, _, _, _, _, _, _, _, _, _, _, _, _, _⟩ _ _ _ _ _ _ _ _ _ _ _ _), (_, nilL), (_, nilL), (_, nilL), (_, nilL), (_, PySem.W.listOf #[.ref _, .ref _] 0), (_, nilL), (_, nilL), (_, nilL)]) ?a, fun F9 N9 => h _ _ _ _ _ _ _ _ _ _ _ _ _ _ _ _ ?b ?c ?d ?e F9 N9⟩
  case a => k_allIn
  case b => rw [Int.one_mul]
  case c => k_dflt (refine ⟨?_, ?_, ?_, ?_, ?_, ?_, ?_, ?_, ?_, ?_⟩ <;> (first | assumption | k_extra "lts9" | omega))
  case d => assumption
  case e => assumption
end Mine
end

section
namespace Mine
theorem wordsG70 : True := by
  k_with_none
  w_top off
  k_with "a9" => (with_reducible assumption)
  k_with "c9" => (repeat (with_reducible rename _ ∧ _ => hA9; clear hA9)); (repeat (with_reducible rename _ ≠ _ => hA9; clear hA9))
  k_with "u9" => ((with_reducible rename News _ _ _ _ => N9); dsimp +zetaDelta only at N9)
  k_with "p0" => (refine offAt (by fail "a9") 0 ?_; exact rfl)
  k_with "p1" => (refine offAt (by fail "a9") 1 ?_; exact rfl)
  k_with "p2" => (refine offAt (by fail "a9") 2 ?_; exact rfl)
  k_with "p3" => (refine offAt (by fail "a9") 3 ?_; exact rfl)
  k_with "p4" => (refine offAt (by fail "a9") 4 ?_; exact rfl)
  k_with "p5" => (refine offAt (by fail "a9") 5 ?_; exact rfl)
  k_with "p6" => (refine offAt (by fail "a9") 6 ?_; exact rfl)
  k_with "p7" => (refine offAt (by fail "a9") 7 ?_; exact rfl)
  k_with "p8" => (refine offAt (by fail "a9") 8 ?_; exact rfl)
  k_with "p9" => (refine offAt (by fail "a9") 9 ?_; exact rfl)
  k_with "p10" => (refine offAt (by fail "a9") 10 ?_; exact rfl)
  k_with "p11" => (refine offAt (by fail "a9") 11 ?_; exact rfl)
  k_with "p12" => (refine offAt (by fail "a9") 12 ?_; exact rfl)
  k_with "p13" => (refine offAt (by fail "a9") 13 ?_; exact rfl)
  k_with "p14" => (refine ltAt (by fail "a9") 0 ?_; exact rfl)
  k_with "p15" => (refine ltAt (by fail "a9") 1 ?_; exact rfl)
  k_with "p16" => (refine ltAt (by fail "a9") 2 ?_; exact rfl)
  k_with "p17" => (refine ltAt (by fail "a9") 3 ?_; exact rfl)
  k_with "p18" => (refine ltAt (by fail "a9") 4 ?_; exact rfl)
  k_with "p19" => (refine ltAt (by fail "a9") 5 ?_; exact rfl)
  k_with "p20" => (refine ltAt (by fail "a9") 6 ?_; exact rfl)
  k_with "p21" => (refine ltAt (by fail "a9") 7 ?_; exact rfl)
  k_with "p22" => (refine ltAt (by fail "a9") 8 ?_; exact rfl)
  k_with "p23" => (refine ltAt (by fail "a9") 9 ?_; exact rfl)
  k_with "p24" => (refine ltAt (by fail "a9") 10 ?_; exact rfl)
  k_with "p25" => (refine ltAt (by fail "a9") 11 ?_; exact rfl)
  k_with "p26" => (refine ltAt (by fail "a9") 12 ?_; exact rfl)
  k_with "p27" => (refine ltAt (by fail "a9") 13 ?_; exact rfl)
  k_with "r9" => (fail "w1")
  k_with "w1" => (first | fail "a9" | exact Nat.le_of_lt (by fail "a9"))
  k_with "offs9" => (first | fail "p0" | fail "p1" | fail "p2" | fail "p3" | fail "p4" | fail "p5" | fail "p6" | fail "p7" | fail "p8" | fail "p9" | fail "p10" | fail "p11" | fail "p12" | fail "p13" | fail "p14" | fail "p15" | fail "p16" | fail "p17" | fail "p18" | fail "p19" | fail "p20" | fail "p21" | fail "p22" | fail "p23" | fail "p24" | fail "p25" | fail "p26" | fail "p27")
  k_with "mem9" => (fail "w2")
  k_with "w2" => (first | exact List.Mem.head _ | exact List.Mem.tail _ (List.Mem.head _) | (refine memAt 0 ?_; exact rfl) | (refine memAt 1 ?_; exact rfl) | (refine memAt 2 ?_; exact rfl) | (refine memAt 3 ?_; exact rfl) | (refine memAt 4 ?_; exact rfl) | (refine memAt 5 ?_; exact rfl) | (refine memAt 6 ?_; exact rfl) | (refine memAt 7 ?_; exact rfl) | (refine memAt 8 ?_; exact rfl) | (refine memAt 9 ?_; exact rfl) | (refine memAt 10 ?_; exact rfl) | (refine memAt 11 ?_; exact rfl) | (refine memAt 12 ?_; exact rfl) | (refine memAt 13 ?_; exact rfl) | (refine memAt 14 ?_; exact rfl) | (refine memAt 15 ?_; exact rfl) | (refine memAt 16 ?_; exact rfl) | (refine memAt 17 ?_; exact rfl))
  k_with "lts9" => (fail "w3")
  k_with "w3" => (first | (refine ltB (by fail "a9") 0 ?_; exact rfl) | (refine ltB (by fail "a9") 1 ?_; exact rfl) | (refine ltB (by fail "a9") 2 ?_; exact rfl) | (refine ltB (by fail "a9") 3 ?_; exact rfl) | (refine ltB (by fail "a9") 4 ?_; exact rfl) | (refine ltB (by fail "a9") 5 ?_; exact rfl) | (refine ltB (by fail "a9") 6 ?_; exact rfl) | (refine ltB (by fail "a9") 7 ?_; exact rfl) | (refine ltB (by fail "a9") 8 ?_; exact rfl) | (refine ltB (by fail "a9") 9 ?_; exact rfl) | (refine ltB (by fail "a9") 10 ?_; exact rfl) | (refine ltB (by fail "a9") 11 ?_; exact rfl) | (refine ltB (by fail "a9") 12 ?_; exact rfl) | (refine ltB (by fail "a9") 13 ?_; exact rfl))
  k_with "rooms9" => (fail "w4")
  k_with "w4" => (first | (refine rl2 (by fail "r9") ?_; exact rfl) | (refine rl1 (by fail "r9") ?_; exact rfl) | (refine rl3 (by fail "r9") ?_; exact rfl) | (refine rl0 (by fail "r9") ?_; exact rfl) | (refine rl4 (by fail "r9") ?_; exact rfl) | (refine rm2 (by fail "r9") ?_; exact rfl) | (refine rm1 (by fail "r9") ?_; exact rfl) | (refine rm3 (by fail "r9") ?_; exact rfl) | (refine rm0 (by fail "r9") ?_; exact rfl) | (refine rm4 (by fail "r9") ?_; exact rfl))
  k_with "k_ne" => (fail "w5")
  k_with "w5" => (refine neN ?_; (try dsimp only); first | fail "a9" | (refine Ne.symm ?_; fail "a9") | exact Nat.ne_of_lt (by fail "a9") | exact Nat.ne_of_gt (by fail "a9") | k_extra "offs9" | (refine Ne.symm ?_; first | k_extra "offs9") | ((try simp only [LCg.Off1, and_true] at *); omega))
  k_with "k_mem" => (fail "w6")
  k_with "w6" => (first | fail "a9" | k_extra "mem9")
  k_with "k_memK" => (first | k_extra "mem9")
  k_with "is_list" => (fail "w7")
  k_with "w7" => (exact News.isList (by fail "a9") (by k_mem))
  k_with "ktr_room" => (fail "w8")
  k_with "w8" => ((try dsimp only [depth_under_make, depth_under_kw, depth_in1, depth_deeper, depth_caller]); (try dsimp only [ktrTop]); first | decide | k_extra "rooms9")
  k_with "units_room" => (fail "w9")
  k_with "w9" => ((try dsimp only [units_in1, units_deeper, Around.mark_units, units_caller]); (try dsimp only [ktrTop]); first | decide | k_extra "rooms9")
  k_with "l_idx" => ((k_extra "c9"); omega)
  k_with "l_fit" => ((k_extra "c9"); omega)
  k_with "ktr_units" => (fail "w10")
  k_with "w10" => ((try dsimp only [units_in1, units_deeper, Around.mark_units, units_caller]); (try dsimp only [ktrTop]); first | decide | k_extra "rooms9")
  k_with "execs cons" => (fail "w11")
  k_with "w11" => (k_here; first | k_gentoks | ((try dsimp only); (try k_gentoks); (try (with_reducible refine letA ?_; intro A9)); (try ((with_reducible rename Fr _ _ _ _ => F9); refine letF F9 ?_; clear F9; intro m9 F9)); (try ((with_reducible rename News _ _ _ _ => N9); refine letN N9 ?_; clear N9; intro n9 N9)); (first | (with_reducible refine execHidB fun q9 hq9 => ?_) | (refine hideQ fun q9 hq9 => ?_; with_reducible refine execHidB fun q9 hq9 => ?_))))
  k_with "Hid" => (fail "w12")
  k_with "w12" => (first | ((with_reducible refine unhidNextT (by fail "a9") ?_); intro tk9; (try dsimp only)) | ((with_reducible refine unhidNext (by fail "a9") ?_); (try dsimp only)) | ((with_reducible refine unhidRet (by fail "a9") ?_); (try dsimp only)) | ((with_reducible refine unhid (by fail "a9") ?_); (try dsimp only [Behind])))
  k_with "spliced" => (fail "w13")
  k_with "w13" => (k_here; (with_reducible show wpAny _ _ (spliced (backTo _ (starEach (_ :: _ :: _ :: _) _))) _ _ _); k_dflt (refine' args_cons ?_ ?_; rotate_left; rfl))
  k_with "spliced" => (fail "w14")
  k_with "w14" => (k_here; k_dflt ((refine' argsF ?_ ?_ ?_ ?_); (rotate_left 4); k_asm; rfl; rfl); (try dsimp only [List.nil_append, List.cons_append]))
  k_with "eval Call" => (fail "w15")
  k_with "w15" => (k_here; (with_reducible show wpAny _ _ (eval (PySem.Expr.Call (PySem.Expr.Name _ _) (_ :: _) [] _) _) _ _ _); first | (k_dflt ((refine' callF ?_ ?_ ?_ ?_ ?_ ?_ ?_ ?_ ?_ ?_ ?_); (rotate_left 10); k_asm; k_asm; k_asm; k_is; k_is; rfl; rfl; rfl; rotate_left; decide; rfl)) | k_compRoot | k_dflt (refine' Call_ ?_))
  k_with "eval Name" => (fail "w16")
  k_with "w16" => (k_here; (with_reducible show wpAny _ _ (eval (PySem.Expr.Name _ _) (envOf _ _ _ _ _)) _ _ _); first | k_dflt ((refine' nameX_K ?_ ?_ ?_ ?_ ?_ ?_ ?_ ?_); (rotate_left 8); k_asm; k_asm; k_asm; k_is; rotate_left; rfl; rfl; decide) | k_dflt ((refine' nameX_L ?_ ?_ ?_ ?_ ?_ ?_); (rotate_left 3); k_asm; rfl; rotate_left; rfl; rfl; decide))
  k_with "callWith ref" => (fail "w17")
  k_with "w17" => (k_here; (with_reducible show wpAny _ _ (callWith _ _ _ (backTo _ (starEach [] _)) []) _ _ _); k_dflt (refine callF0 (by fail "a9") (by fail "a9") (by k_is) ?_))
  k_with "last getItem" => k_extra "u9"
  k_with "last setItem" => k_extra "u9"
  k_with "last setAttr" => k_extra "u9"
  k_with "last getAttr" => k_extra "u9"
  k_with "last subscriptTail" => k_extra "u9"
  k_with "last getMethod" => k_extra "u9"
  k_with "last call" => k_extra "u9"
  k_with "last pyIter" => k_extra "u9"
  k_with "last eval" => k_extra "u9"
  k_with "last exec" => k_extra "u9"
  k_with "last inplaceOp" => k_extra "u9"
  k_with "last binaryOp" => k_extra "u9"
  k_with "last InvEndN" => k_extra "u9"
  k_with "last GEnd" => k_extra "u9"
  k_with "last KEnd" => k_extra "u9"
  k_with "last LeaveT" => k_extra "u9"
  k_with "last noteFrame" => k_extra "u9"
  k_with "last leaving" => k_extra "u9"
  k_with "k_lt" => skip
  k_with "ktr_enter" => (fail "w18")
  k_with "w18" => (refine enterK (by assumption) (by assumption) (by k_is) (by k_is) (by ktr_room) (by exact BindsTo.of_eq rfl) (by exact locs rfl) ?_ (by exact rfl) (by exact rfl) (by exact rfl) (by decide); k_whole; intro g' L' h' F' N' B' X' T' lN' gN' tk9'; (try k_lt lN'); (try dsimp only); (try k_fold))
  k_with "call type:range" => (fail "w19")
  k_with "w19" => (k_here; (rename Fr _ _ _ _ => F'); (rename News _ _ _ _ => N'); first | (with_unfolding_all refine range1_rows F' N' ?_; intro _ _ _ _ _ _ _ _ _) | (with_unfolding_all refine range2_rows F' N' ?_; intro _ _ _ _ _ _ _ _ _))
  k_with "kxw_text" => (fail "w20")
  k_with "w20" => exact ⟨by k_asm, by k_asm, by k_asm, by k_asm, by k_asm, by first | exact rfl | assumption⟩
  k_with "call ref" => (fail "w21")
  k_with "w21" => (k_here; (with_reducible show wpAny _ _ (call (Value.ref 203) _) _ _ _); k_dflt (refine geom_new (by kxw_text) (by assumption) (by assumption) (by assumption) (by assumption) (by first | ((k_extra "c9"); omega) | omega) (by first | ((k_extra "c9"); omega) | omega) (by ktr_room) (by ktr_units) ?_); intro T' x' d' fm' rm' ra' ki' kn' p0' p1' pa' ca' ri' fu' h' tk' ef' ch' o1' o2' F' N'; obtain ⟨g1', g2', g3', g4', g5', g6', g7', g8', g9', g10'⟩ := ch'; (try k_sweep); (try dsimp only); (try k_fold))
  k_with "call ref" => (fail "w22")
  k_with "w22" => (k_here; (with_reducible show wpAny _ _ (call (Value.ref 221) _) _ _ _); k_dflt (refine masks_spec (news := []) (by exact ⟨by k_asm, by k_asm, by k_asm, (kst_newsOf (by k_asm) (by ((try simp only [List.cons_append, List.nil_append]); kst_allIn))), by k_asm, by first | exact rfl | assumption⟩) ⟨by assumption, by assumption, by assumption, by assumption, by assumption, by assumption, by assumption, by assumption, by assumption, by assumption⟩ (by assumption) (by assumption) (by assumption) (by assumption) (by first | ((k_extra "c9"); omega) | omega) (by first | ((k_extra "c9"); omega) | omega) (by ktr_room) (by ktr_units) ?_); intro fv' rv' n1' n2' h' tk' i1' i2' F' N'; (try k_sweep); (try dsimp only); (try k_fold))
  k_with "call ref" => (fail "w23")
  k_with "w23" => (k_here; (with_reducible show wpAny _ _ (call (Value.ref 235) _) _ _ _); k_dflt (refine rays_spec (news := []) (by exact ⟨by k_asm, by k_asm, by k_asm, (kst_newsOf (by k_asm) (by ((try simp only [List.cons_append, List.nil_append]); kst_allIn))), by k_asm, by first | exact rfl | assumption⟩) ⟨by assumption, by assumption, by assumption, by assumption, by assumption, by assumption, by assumption, by assumption, by assumption, by assumption⟩ (by assumption) (by assumption) (by assumption) (by assumption) (by first | ((k_extra "c9"); omega) | omega) (by first | ((k_extra "c9"); omega) | omega) (by assumption) (by assumption) rfl (by assumption) (by ktr_room) (by ktr_units) ?_); intro ki' kv' rv' kn' rn' R' h' tk' hk' hr' hl' lt' of' F' N'; (try k_sweep); (try dsimp only); (try k_fold))
  k_with "call ref" => (fail "w24")
  k_with "w24" => (k_here; (with_reducible show wpAny _ _ (call (Value.ref 242) _) _ _ _); k_dflt (refine pawns_spec (news := []) (by exact ⟨by k_asm, by k_asm, by k_asm, (kst_newsOf (by k_asm) (by ((try simp only [List.cons_append, List.nil_append]); kst_allIn))), by k_asm, by first | exact rfl | assumption⟩) ⟨by assumption, by assumption, by assumption, by assumption, by assumption, by assumption, by assumption, by assumption, by assumption, by assumption⟩ (by assumption) (by assumption) (by assumption) (by assumption) (by first | ((k_extra "c9"); omega) | omega) (by first | ((k_extra "c9"); omega) | omega) (by assumption) (by assumption) (by assumption) (by assumption) (by assumption) (by ktr_room) (by ktr_units) ?_); intro v0' v1' m0' m1' h' tk' F' N'; (try k_sweep); (try dsimp only); (try k_fold))
  k_with "call ref" => (fail "w25")
  k_with "w25" => (k_here; (with_reducible show wpAny _ _ (call (Value.ref 249) _) _ _ _); k_dflt (refine knights_spec (news := []) (by exact ⟨by k_asm, by k_asm, by k_asm, (kst_newsOf (by k_asm) (by ((try simp only [List.cons_append, List.nil_append]); kst_allIn))), by k_asm, by first | exact rfl | assumption⟩) (by assumption) (by assumption) (by assumption) (by first | ((k_extra "c9"); omega) | omega) (by first | ((k_extra "c9"); omega) | omega) (by assumption) (by assumption) (by first | ((k_extra "c9"); omega) | omega) (by first | ((k_extra "c9"); omega) | omega) (by assumption) (by ktr_room) (by ktr_units) ?_); intro h' tk' F' N'; (try k_sweep); (try dsimp only); (try k_fold))
  k_with "call ref" => (fail "w26")
  k_with "w26" => (k_here; (with_reducible show wpAny _ _ (call (Value.ref 256) _) _ _ _); k_dflt (refine castles_spec (news := []) (by exact ⟨by k_asm, by k_asm, by k_asm, (kst_newsOf (by k_asm) (by ((try simp only [List.cons_append, List.nil_append]); kst_allIn))), by k_asm, by first | exact rfl | assumption⟩) (by assumption) (by first | ((k_extra "c9"); omega) | omega) (by first | ((k_extra "c9"); omega) | omega) (by assumption) (by assumption) (by assumption) (by assumption) (by first | ((k_extra "c9"); omega) | omega) (by first | ((k_extra "c9"); omega) | omega) (by ktr_room) (by ktr_units) ?_); intro ri' h' tk' F' N'; (try k_sweep); (try dsimp only); (try k_fold))
  trivial
theorem make_spec {prog p : Program} {w : World} {loose : List Str} {mean : ExcName → Option Value} {mg mb : Str → Option Value} {dp un : Nat} {gd : Option (List Code)} {cn : Str} {cs : Scope} {a : Addr} {ccd : Value} {outer : List Env} {A₀ : Around} {base h₀ : Heap} {L : Addr} {m : Str → Option Value} {s : Shared} {Q E : Value → Shared → Prop}
    {news : List (Addr × Obj)} {cl : List (Str × Addr)}
    {f r : Int} {tf tr : Tok}
    (S : Site w p loose mean mg mb cs outer A₀ base h₀ L m news s.heap)
    (hf1 : 2 ≤ f) (hf2 : f ≤ 4) (hr1 : 3 ≤ r) (hr2 : r ≤ 6) (hs1 : 6 ≤ f * r) (hs2 : f * r ≤ 20)
    (hdp : dp + 100 < recursionLimit) (hun : un + 1000 < cLine)
    (h : ∀ (T : GT) (x d fm rm ra ki kn pa ca ri : Addr) (fu : Int) (h' : Heap) (tk' : Nat), LCg.Off1 x news → LCg.Off1 d news → (@Ne Nat x d) →
      Fr h₀ L h' m → News h₀ L h' ((x, instObj 203 d) :: (d, geoD w T f r (f * r) fu fm rm ra ki kn pa ca ri) :: news) → Q (.ref x) { s with heap := h', toks := tk' }) :
    wpAny (model prog w) (ktrTop dp un gd cn cs L a ccd cl outer) (call (.ref 263) [.int f tf, .int r tr, .bool false, .bool false]) Q E s := by
  have hsub : ∀ q ∈ ([] : List (Addr × Obj)), q ∈ news := fun _ h => nomatch h
  have hMk := kstMark
  k_dflt ktr_enter
  k_steps
  with_reducible rename (∀ q ∈ news, _) => g9
  with_reducible rename News _ _ _ _ => n9
  exact leaveE_ (by assumption) n9 ⟨(_, instObj 203 _) :: (_, geoD w _ _ _ _ _ _ _ _ _ _ _ _ _) :: news, fun q hq => by
    rcases List.mem_cons.mp hq with rfl | hq
    · exact .inl (by k_mem)
    · rcases List.mem_cons.mp hq with rfl | hq
      · exact .inl (by k_mem)
      · exact .inr ⟨hq, fun x hx => nomatch hx⟩, fun F9 N9 => h _ _ _ _ _ _ _ _ _ _ _ _ _ _ (off_new n9 (by k_mem) g9 (fun x hx => nomatch hx)) (off_new n9 (by k_mem) g9 (fun x hx => nomatch hx)) (by assumption) F9 N9⟩
end Mine
end

section
namespace Mine
theorem wordsSW0 : True := by
  k_with_none
  w_top off
  k_with "a9" => (with_reducible assumption)
  k_with "c9" => (repeat (with_reducible rename _ ∧ _ => hA9; clear hA9)); (repeat (with_reducible rename _ ≠ _ => hA9; clear hA9))
  k_with "u9" => ((with_reducible rename News _ _ _ _ => N9); dsimp +zetaDelta only at N9)
  k_with "p0" => (refine offAt (by fail "a9") 0 ?_; exact rfl)
  k_with "p1" => (refine offAt (by fail "a9") 1 ?_; exact rfl)
  k_with "p2" => (refine offAt (by fail "a9") 2 ?_; exact rfl)
  k_with "p3" => (refine offAt (by fail "a9") 3 ?_; exact rfl)
  k_with "p4" => (refine offAt (by fail "a9") 4 ?_; exact rfl)
  k_with "p5" => (refine offAt (by fail "a9") 5 ?_; exact rfl)
  k_with "p6" => (refine offAt (by fail "a9") 6 ?_; exact rfl)
  k_with "p7" => (refine offAt (by fail "a9") 7 ?_; exact rfl)
  k_with "p8" => (refine offAt (by fail "a9") 8 ?_; exact rfl)
  k_with "p9" => (refine offAt (by fail "a9") 9 ?_; exact rfl)
  k_with "p10" => (refine offAt (by fail "a9") 10 ?_; exact rfl)
  k_with "p11" => (refine offAt (by fail "a9") 11 ?_; exact rfl)
  k_with "p12" => (refine offAt (by fail "a9") 12 ?_; exact rfl)
  k_with "p13" => (refine offAt (by fail "a9") 13 ?_; exact rfl)
  k_with "p14" => (refine ltAt (by fail "a9") 0 ?_; exact rfl)
  k_with "p15" => (refine ltAt (by fail "a9") 1 ?_; exact rfl)
  k_with "p16" => (refine ltAt (by fail "a9") 2 ?_; exact rfl)
  k_with "p17" => (refine ltAt (by fail "a9") 3 ?_; exact rfl)
  k_with "p18" => (refine ltAt (by fail "a9") 4 ?_; exact rfl)
  k_with "p19" => (refine ltAt (by fail "a9") 5 ?_; exact rfl)
  k_with "p20" => (refine ltAt (by fail "a9") 6 ?_; exact rfl)
  k_with "p21" => (refine ltAt (by fail "a9") 7 ?_; exact rfl)
  k_with "p22" => (refine ltAt (by fail "a9") 8 ?_; exact rfl)
  k_with "p23" => (refine ltAt (by fail "a9") 9 ?_; exact rfl)
  k_with "p24" => (refine ltAt (by fail "a9") 10 ?_; exact rfl)
  k_with "p25" => (refine ltAt (by fail "a9") 11 ?_; exact rfl)
  k_with "p26" => (refine ltAt (by fail "a9") 12 ?_; exact rfl)
  k_with "p27" => (refine ltAt (by fail "a9") 13 ?_; exact rfl)
  k_with "r9" => (fail "w1")
  k_with "w1" => (first | fail "a9" | exact Nat.le_of_lt (by fail "a9"))
  k_with "offs9" => (first | fail "p0" | fail "p1" | fail "p2" | fail "p3" | fail "p4" | fail "p5" | fail "p6" | fail "p7" | fail "p8" | fail "p9" | fail "p10" | fail "p11" | fail "p12" | fail "p13" | fail "p14" | fail "p15" | fail "p16" | fail "p17" | fail "p18" | fail "p19" | fail "p20" | fail "p21" | fail "p22" | fail "p23" | fail "p24" | fail "p25" | fail "p26" | fail "p27")
  k_with "mem9" => (fail "w2")
  k_with "w2" => (first | exact List.Mem.head _ | exact List.Mem.tail _ (List.Mem.head _) | (refine memAt 0 ?_; exact rfl) | (refine memAt 1 ?_; exact rfl) | (refine memAt 2 ?_; exact rfl) | (refine memAt 3 ?_; exact rfl) | (refine memAt 4 ?_; exact rfl) | (refine memAt 5 ?_; exact rfl) | (refine memAt 6 ?_; exact rfl) | (refine memAt 7 ?_; exact rfl) | (refine memAt 8 ?_; exact rfl) | (refine memAt 9 ?_; exact rfl) | (refine memAt 10 ?_; exact rfl) | (refine memAt 11 ?_; exact rfl) | (refine memAt 12 ?_; exact rfl) | (refine memAt 13 ?_; exact rfl) | (refine memAt 14 ?_; exact rfl) | (refine memAt 15 ?_; exact rfl) | (refine memAt 16 ?_; exact rfl) | (refine memAt 17 ?_; exact rfl))
  k_with "lts9" => (fail "w3")
  k_with "w3" => (first | (refine ltB (by fail "a9") 0 ?_; exact rfl) | (refine ltB (by fail "a9") 1 ?_; exact rfl) | (refine ltB (by fail "a9") 2 ?_; exact rfl) | (refine ltB (by fail "a9") 3 ?_; exact rfl) | (refine ltB (by fail "a9") 4 ?_; exact rfl) | (refine ltB (by fail "a9") 5 ?_; exact rfl) | (refine ltB (by fail "a9") 6 ?_; exact rfl) | (refine ltB (by fail "a9") 7 ?_; exact rfl) | (refine ltB (by fail "a9") 8 ?_; exact rfl) | (refine ltB (by fail "a9") 9 ?_; exact rfl) | (refine ltB (by fail "a9") 10 ?_; exact rfl) | (refine ltB (by fail "a9") 11 ?_; exact rfl) | (refine ltB (by fail "a9") 12 ?_; exact rfl) | (refine ltB (by fail "a9") 13 ?_; exact rfl))
  k_with "rooms9" => (fail "w4")
  k_with "w4" => (first | (refine rl2 (by fail "r9") ?_; exact rfl) | (refine rl1 (by fail "r9") ?_; exact rfl) | (refine rl3 (by fail "r9") ?_; exact rfl) | (refine rl0 (by fail "r9") ?_; exact rfl) | (refine rl4 (by fail "r9") ?_; exact rfl) | (refine rm2 (by fail "r9") ?_; exact rfl) | (refine rm1 (by fail "r9") ?_; exact rfl) | (refine rm3 (by fail "r9") ?_; exact rfl) | (refine rm0 (by fail "r9") ?_; exact rfl) | (refine rm4 (by fail "r9") ?_; exact rfl))
  k_with "k_ne" => (fail "w5")
  k_with "w5" => (refine neN ?_; (try dsimp only); first | fail "a9" | (refine Ne.symm ?_; fail "a9") | exact Nat.ne_of_lt (by fail "a9") | exact Nat.ne_of_gt (by fail "a9") | k_extra "offs9" | (refine Ne.symm ?_; first | k_extra "offs9") | ((try simp only [LCg.Off1, and_true] at *); omega))
  k_with "k_mem" => (fail "w6")
  k_with "w6" => (first | fail "a9" | k_extra "mem9")
  k_with "k_memK" => (first | k_extra "mem9")
  k_with "is_list" => (fail "w7")
  k_with "w7" => (exact News.isList (by fail "a9") (by k_mem))
  k_with "ktr_room" => (fail "w8")
  k_with "w8" => ((try dsimp only [depth_under_make, depth_under_kw, depth_in1, depth_deeper, depth_caller]); (try dsimp only [ktrTop]); first | decide | k_extra "rooms9")
  k_with "units_room" => (fail "w9")
  k_with "w9" => ((try dsimp only [units_in1, units_deeper, Around.mark_units, units_caller]); (try dsimp only [ktrTop]); first | decide | k_extra "rooms9")
  k_with "l_idx" => ((k_extra "c9"); omega)
  k_with "l_fit" => ((k_extra "c9"); omega)
  k_with "ktr_units" => (fail "w10")
  k_with "w10" => ((try dsimp only [units_in1, units_deeper, Around.mark_units, units_caller]); (try dsimp only [ktrTop]); first | decide | k_extra "rooms9")
  k_with "execs cons" => (fail "w11")
  k_with "w11" => (k_here; first | k_gentoks | ((try dsimp only); (try k_gentoks); (try (with_reducible refine letA ?_; intro A9)); (with_reducible refine wpAny_execs_cons ?_); (try dsimp only)))
  k_with "Hid" => (fail "w12")
  k_with "w12" => (first | ((with_reducible refine unhidNextT (by fail "a9") ?_); intro tk9; (try dsimp only)) | ((with_reducible refine unhidNext (by fail "a9") ?_); (try dsimp only)) | ((with_reducible refine unhidRet (by fail "a9") ?_); (try dsimp only)) | ((with_reducible refine unhid (by fail "a9") ?_); (try dsimp only [Behind])))
  k_with "spliced" => (fail "w13")
  k_with "w13" => (k_here; (with_reducible show wpAny _ _ (spliced (backTo _ (starEach (_ :: _ :: _ :: _) _))) _ _ _); k_dflt (refine' args_cons ?_ ?_; rotate_left; rfl))
  k_with "spliced" => (fail "w14")
  k_with "w14" => (k_here; k_dflt ((refine' argsF ?_ ?_ ?_ ?_); (rotate_left 4); k_asm; rfl; rfl); (try dsimp only [List.nil_append, List.cons_append]))
  k_with "eval Call" => (fail "w15")
  k_with "w15" => (k_here; (with_reducible show wpAny _ _ (eval (PySem.Expr.Call (PySem.Expr.Name _ _) (_ :: _) [] _) _) _ _ _); first | (k_dflt ((refine' callF ?_ ?_ ?_ ?_ ?_ ?_ ?_ ?_ ?_ ?_ ?_); (rotate_left 10); k_asm; k_asm; k_asm; k_is; k_is; rfl; rfl; rfl; rotate_left; decide; rfl)) | k_compRoot | k_dflt (refine' Call_ ?_))
  k_with "eval Name" => (fail "w16")
  k_with "w16" => (k_here; (with_reducible show wpAny _ _ (eval (PySem.Expr.Name _ _) (envOf _ _ _ _ _)) _ _ _); first | k_dflt ((refine' nameX_K ?_ ?_ ?_ ?_ ?_ ?_ ?_ ?_); (rotate_left 8); k_asm; k_asm; k_asm; k_is; rotate_left; rfl; rfl; decide) | k_dflt ((refine' nameX_L ?_ ?_ ?_ ?_ ?_ ?_); (rotate_left 3); k_asm; rfl; rotate_left; rfl; rfl; decide))
  k_with "callWith ref" => (fail "w17")
  k_with "w17" => (k_here; (with_reducible show wpAny _ _ (callWith _ _ _ (backTo _ (starEach [] _)) []) _ _ _); k_dflt (refine callF0 (by fail "a9") (by fail "a9") (by k_is) ?_))
  k_with "ktr_enter" => (fail "w18")
  k_with "w18" => (refine enterK (by assumption) (by assumption) (by k_is) (by k_is) (by ktr_room) (by exact BindsTo.of_eq rfl) (by exact locs rfl) ?_ (by exact rfl) (by exact rfl) (by exact rfl) (by decide); k_whole; intro g' L' h' F' N' B' X' T' lN' gN' tk9'; (try k_lt lN'); (try dsimp only); (try k_fold))
  trivial
/-- the width of a square's number -/
def widthV (n : Int) : Int := if n ≤ 2 then 1 else if n ≤ 4 then 2 else if n ≤ 8 then 3 else if n ≤ 16 then 4 else if n ≤ 32 then 5 else 6
theorem whlSplit {p : Prop} {i : Decidable p} {T F : Prop} (t : p → T) (f : ¬ p → F) : WhlIf (@decide p i) T F := by
  unfold WhlIf
  by_cases h : p
  · rw [if_pos (decide_eq_true h)]; exact t h
  · rw [if_neg (by simpa using h)]; exact f h
theorem wordsSW1 : True := by
  k_with "exec While Compare" => (fail "w19")
  k_with "w19" => (k_here; k_dflt (refine whl_start 100 ?_))
  k_with "WhlIf" => (fail "w20")
  k_with "w20" => (k_dflt (refine whlSplit (fun hb9 => ?_) (fun hb9 => ?_)) <;> (simp only [Int.reduceToNat, Int.reduceAdd, Int.reducePow, Int.reduceMul, Int.one_mul] at hb9) <;> (try (exfalso; omega)))
  trivial
theorem width_spec {prog p : Program} {w : World} {loose : List Str} {mean : ExcName → Option Value} {mg mb : Str → Option Value} {dp un : Nat} {gd : Option (List Code)} {cn : Str} {cs : Scope} {a : Addr} {ccd : Value} {outer : List Env} {A₀ : Around} {base h₀ : Heap} {L : Addr} {m : Str → Option Value} {s : Shared} {Q E : Value → Shared → Prop}
    {news : List (Addr × Obj)} {cl : List (Str × Addr)}
    {n v : Int} {tn : Tok}
    (S : Site w p loose mean mg mb cs outer A₀ base h₀ L m news s.heap)
    (hn : n = 2 ∨ n = 6 ∨ n = 9 ∨ n = 16 ∨ n = 18 ∨ n = 20 ∨ n = 64)
    (hv : widthV n = v)
    (hdp : dp + 20 < recursionLimit) (hun : un + 200 < cLine)
    (h : ∀ (t : Tok) (h' : Heap) (tk' : Nat), Fr h₀ L h' m → News h₀ L h' news → Q (.int v t) { s with heap := h', toks := tk' }) :
    wpAny (model prog w) (ktrTop dp un gd cn cs L a ccd cl outer) (call (.ref 149) [.int n tn]) Q E s := by
  have hsub : ∀ q ∈ ([] : List (Addr × Obj)), q ∈ news := fun _ h => nomatch h
  subst hv
  have hn1 : 2 ≤ n := by omega
  have hn2 : n ≤ 64 := by omega
  clear hn
  have hw9 : ∀ k : Int, k = widthV n → ∀ (t : Tok) (h' : Heap) (tk' : Nat), Fr h₀ L h' m → News h₀ L h' news → Q (.int k t) { s with heap := h', toks := tk' } := fun k e => by
    rw [e]
    exact h
  clear h
  k_dflt ktr_enter
  k_steps
  all_goals exact leaveE_ (by assumption) (by assumption) ⟨news, fun q hq => .inr ⟨hq, fun x hx => nomatch hx⟩, fun F9 N9 => hw9 _ (by simp only [widthV]; (repeat' split) <;> omega) _ _ _ F9 N9⟩
end Mine
end

section
namespace Mine
open PySem.W.X
theorem wordsSQ0 : True := by
  k_with_none
  w_top off
  k_with "a9" => (with_reducible assumption)
  k_with "c9" => (repeat (with_reducible rename _ ∧ _ => hA9; clear hA9)); (repeat (with_reducible rename _ ≠ _ => hA9; clear hA9))
  k_with "u9" => ((with_reducible rename News _ _ _ _ => N9); dsimp +zetaDelta only at N9)
  k_with "p0" => (refine offAt (by fail "a9") 0 ?_; exact rfl)
  k_with "p1" => (refine offAt (by fail "a9") 1 ?_; exact rfl)
  k_with "p2" => (refine offAt (by fail "a9") 2 ?_; exact rfl)
  k_with "p3" => (refine offAt (by fail "a9") 3 ?_; exact rfl)
  k_with "p4" => (refine offAt (by fail "a9") 4 ?_; exact rfl)
  k_with "p5" => (refine offAt (by fail "a9") 5 ?_; exact rfl)
  k_with "p6" => (refine offAt (by fail "a9") 6 ?_; exact rfl)
  k_with "p7" => (refine offAt (by fail "a9") 7 ?_; exact rfl)
  k_with "p8" => (refine offAt (by fail "a9") 8 ?_; exact rfl)
  k_with "p9" => (refine offAt (by fail "a9") 9 ?_; exact rfl)
  k_with "p10" => (refine offAt (by fail "a9") 10 ?_; exact rfl)
  k_with "p11" => (refine offAt (by fail "a9") 11 ?_; exact rfl)
  k_with "p12" => (refine offAt (by fail "a9") 12 ?_; exact rfl)
  k_with "p13" => (refine offAt (by fail "a9") 13 ?_; exact rfl)
  k_with "p14" => (refine ltAt (by fail "a9") 0 ?_; exact rfl)
  k_with "p15" => (refine ltAt (by fail "a9") 1 ?_; exact rfl)
  k_with "p16" => (refine ltAt (by fail "a9") 2 ?_; exact rfl)
  k_with "p17" => (refine ltAt (by fail "a9") 3 ?_; exact rfl)
  k_with "p18" => (refine ltAt (by fail "a9") 4 ?_; exact rfl)
  k_with "p19" => (refine ltAt (by fail "a9") 5 ?_; exact rfl)
  k_with "p20" => (refine ltAt (by fail "a9") 6 ?_; exact rfl)
  k_with "p21" => (refine ltAt (by fail "a9") 7 ?_; exact rfl)
  k_with "p22" => (refine ltAt (by fail "a9") 8 ?_; exact rfl)
  k_with "p23" => (refine ltAt (by fail "a9") 9 ?_; exact rfl)
  k_with "p24" => (refine ltAt (by fail "a9") 10 ?_; exact rfl)
  k_with "p25" => (refine ltAt (by fail "a9") 11 ?_; exact rfl)
  k_with "p26" => (refine ltAt (by fail "a9") 12 ?_; exact rfl)
  k_with "p27" => (refine ltAt (by fail "a9") 13 ?_; exact rfl)
  k_with "r9" => (fail "w1")
  k_with "w1" => (first | fail "a9" | exact Nat.le_of_lt (by fail "a9"))
  k_with "offs9" => (first | fail "p0" | fail "p1" | fail "p2" | fail "p3" | fail "p4" | fail "p5" | fail "p6" | fail "p7" | fail "p8" | fail "p9" | fail "p10" | fail "p11" | fail "p12" | fail "p13" | fail "p14" | fail "p15" | fail "p16" | fail "p17" | fail "p18" | fail "p19" | fail "p20" | fail "p21" | fail "p22" | fail "p23" | fail "p24" | fail "p25" | fail "p26" | fail "p27")
  k_with "mem9" => (fail "w2")
  k_with "w2" => (first | exact List.Mem.head _ | exact List.Mem.tail _ (List.Mem.head _) | (refine memAt 0 ?_; exact rfl) | (refine memAt 1 ?_; exact rfl) | (refine memAt 2 ?_; exact rfl) | (refine memAt 3 ?_; exact rfl) | (refine memAt 4 ?_; exact rfl) | (refine memAt 5 ?_; exact rfl) | (refine memAt 6 ?_; exact rfl) | (refine memAt 7 ?_; exact rfl) | (refine memAt 8 ?_; exact rfl) | (refine memAt 9 ?_; exact rfl) | (refine memAt 10 ?_; exact rfl) | (refine memAt 11 ?_; exact rfl) | (refine memAt 12 ?_; exact rfl) | (refine memAt 13 ?_; exact rfl) | (refine memAt 14 ?_; exact rfl) | (refine memAt 15 ?_; exact rfl) | (refine memAt 16 ?_; exact rfl) | (refine memAt 17 ?_; exact rfl))
  k_with "lts9" => (fail "w3")
  k_with "w3" => (first | (refine ltB (by fail "a9") 0 ?_; exact rfl) | (refine ltB (by fail "a9") 1 ?_; exact rfl) | (refine ltB (by fail "a9") 2 ?_; exact rfl) | (refine ltB (by fail "a9") 3 ?_; exact rfl) | (refine ltB (by fail "a9") 4 ?_; exact rfl) | (refine ltB (by fail "a9") 5 ?_; exact rfl) | (refine ltB (by fail "a9") 6 ?_; exact rfl) | (refine ltB (by fail "a9") 7 ?_; exact rfl) | (refine ltB (by fail "a9") 8 ?_; exact rfl) | (refine ltB (by fail "a9") 9 ?_; exact rfl) | (refine ltB (by fail "a9") 10 ?_; exact rfl) | (refine ltB (by fail "a9") 11 ?_; exact rfl) | (refine ltB (by fail "a9") 12 ?_; exact rfl) | (refine ltB (by fail "a9") 13 ?_; exact rfl))
  k_with "rooms9" => (fail "w4")
  k_with "w4" => (first | (refine rl2 (by fail "r9") ?_; exact rfl) | (refine rl1 (by fail "r9") ?_; exact rfl) | (refine rl3 (by fail "r9") ?_; exact rfl) | (refine rl0 (by fail "r9") ?_; exact rfl) | (refine rl4 (by fail "r9") ?_; exact rfl) | (refine rm2 (by fail "r9") ?_; exact rfl) | (refine rm1 (by fail "r9") ?_; exact rfl) | (refine rm3 (by fail "r9") ?_; exact rfl) | (refine rm0 (by fail "r9") ?_; exact rfl) | (refine rm4 (by fail "r9") ?_; exact rfl))
  k_with "k_ne" => (fail "w5")
  k_with "w5" => (refine neN ?_; (try dsimp only); first | fail "a9" | (refine Ne.symm ?_; fail "a9") | exact Nat.ne_of_lt (by fail "a9") | exact Nat.ne_of_gt (by fail "a9") | k_extra "offs9" | (refine Ne.symm ?_; first | k_extra "offs9") | ((try simp only [LCg.Off1, and_true] at *); omega))
  k_with "k_mem" => (fail "w6")
  k_with "w6" => (first | fail "a9" | k_extra "mem9")
  k_with "k_memK" => (first | k_extra "mem9")
  k_with "is_list" => (fail "w7")
  k_with "w7" => (exact News.isList (by fail "a9") (by k_mem))
  k_with "ktr_room" => (fail "w8")
  k_with "w8" => ((try dsimp only [depth_under_make, depth_under_kw, depth_in1, depth_deeper, depth_caller]); (try dsimp only [ktrTop]); first | decide | k_extra "rooms9")
  k_with "units_room" => (fail "w9")
  k_with "w9" => ((try dsimp only [units_in1, units_deeper, Around.mark_units, units_caller]); (try dsimp only [ktrTop]); first | decide | k_extra "rooms9")
  k_with "l_idx" => ((k_extra "c9"); omega)
  k_with "l_fit" => ((k_extra "c9"); omega)
  k_with "ktr_units" => (fail "w10")
  k_with "w10" => ((try dsimp only [units_in1, units_deeper, Around.mark_units, units_caller]); (try dsimp only [ktrTop]); first | decide | k_extra "rooms9")
  k_with "execs cons" => (fail "w11")
  k_with "w11" => (k_here; first | k_gentoks | ((try dsimp only); (try k_gentoks); (try (with_reducible refine letA ?_; intro A9)); (try ((with_reducible rename Fr _ _ _ _ => F9); refine letF F9 ?_; clear F9; intro m9 F9)); (try ((with_reducible rename News _ _ _ _ => N9); refine letN N9 ?_; clear N9; intro n9 N9)); (first | (with_reducible refine execHidB fun q9 hq9 => ?_) | (refine hideQ fun q9 hq9 => ?_; with_reducible refine execHidB fun q9 hq9 => ?_))))
  k_with "Hid" => (fail "w12")
  k_with "w12" => (first | ((with_reducible refine unhidNextT (by fail "a9") ?_); intro tk9; (try dsimp only)) | ((with_reducible refine unhidNext (by fail "a9") ?_); (try dsimp only)) | ((with_reducible refine unhidRet (by fail "a9") ?_); (try dsimp only)) | ((with_reducible refine unhid (by fail "a9") ?_); (try dsimp only [Behind])))
  k_with "spliced" => (fail "w13")
  k_with "w13" => (k_here; (with_reducible show wpAny _ _ (spliced (backTo _ (starEach (_ :: _ :: _ :: _) _))) _ _ _); k_dflt (refine' args_cons ?_ ?_; rotate_left; rfl))
  k_with "spliced" => (fail "w14")
  k_with "w14" => (k_here; k_dflt ((refine' argsF ?_ ?_ ?_ ?_); (rotate_left 4); k_asm; rfl; rfl); (try dsimp only [List.nil_append, List.cons_append]))
  k_with "eval Call" => (fail "w15")
  k_with "w15" => (k_here; (with_reducible show wpAny _ _ (eval (PySem.Expr.Call (PySem.Expr.Name _ _) (_ :: _) [] _) _) _ _ _); first | (k_dflt ((refine' callF ?_ ?_ ?_ ?_ ?_ ?_ ?_ ?_ ?_ ?_ ?_); (rotate_left 10); k_asm; k_asm; k_asm; k_is; k_is; rfl; rfl; rfl; rotate_left; decide; rfl)) | k_compRoot | k_dflt (refine' Call_ ?_))
  k_with "eval Name" => (fail "w16")
  k_with "w16" => (k_here; (with_reducible show wpAny _ _ (eval (PySem.Expr.Name _ _) (envOf _ _ _ _ _)) _ _ _); first | k_dflt ((refine' nameX_K ?_ ?_ ?_ ?_ ?_ ?_ ?_ ?_); (rotate_left 8); k_asm; k_asm; k_asm; k_is; rotate_left; rfl; rfl; decide) | k_dflt ((refine' nameX_L ?_ ?_ ?_ ?_ ?_ ?_); (rotate_left 3); k_asm; rfl; rotate_left; rfl; rfl; decide))
  k_with "callWith ref" => (fail "w17")
  k_with "w17" => (k_here; (with_reducible show wpAny _ _ (callWith _ _ _ (backTo _ (starEach [] _)) []) _ _ _); k_dflt (refine callF0 (by fail "a9") (by fail "a9") (by k_is) ?_))
  k_with "last getItem" => k_extra "u9"
  k_with "last setItem" => k_extra "u9"
  k_with "last setAttr" => k_extra "u9"
  k_with "last getAttr" => k_extra "u9"
  k_with "last subscriptTail" => k_extra "u9"
  k_with "last getMethod" => k_extra "u9"
  k_with "last call" => k_extra "u9"
  k_with "last pyIter" => k_extra "u9"
  k_with "last eval" => k_extra "u9"
  k_with "last exec" => k_extra "u9"
  k_with "last inplaceOp" => k_extra "u9"
  k_with "last binaryOp" => k_extra "u9"
  k_with "last InvEndN" => k_extra "u9"
  k_with "last GEnd" => k_extra "u9"
  k_with "last KEnd" => k_extra "u9"
  k_with "last LeaveT" => k_extra "u9"
  k_with "last noteFrame" => k_extra "u9"
  k_with "last leaving" => k_extra "u9"
  k_with "k_lt" => skip
  k_with "ktr_enter" => (fail "w18")
  k_with "w18" => first | (refine enterK (by assumption) (by assumption) (by k_is) (by k_is) (by ktr_room) (by exact BindsTo.of_eq rfl) (by exact locs rfl) ?_ (by exact rfl) (by exact rfl) (by exact rfl) (by decide); k_whole; intro g' L' h' F' N' B' X' T' lN' gN' tk9'; (try k_lt lN'); (try dsimp only); (try k_fold)) | (refine enterC (by assumption) (by assumption) (by k_is) (by k_is) (by ktr_room) (by exact BindsTo.of_eq rfl) (by exact rfl) (by decide +kernel) ?_ (by exact rfl) (by exact rfl) (by exact rfl); k_whole; intro g' L' h' tk' cells' F' N' Y' B' X' T' lN' gN'; (try k_lt lN'); k_cells Y'; (try simp only [List.cons_append, List.nil_append] at N'); (try dsimp only); (try k_fold))
  k_with "kts_go" => (fail "w19")
  k_with "w19" => (refine enterS (by assumption) (by assumption) (by k_is) (by k_is) (by ktr_room) (by exact BindsTo.of_eq rfl) (by exact locs rfl) ?_ (by exact rfl) (by exact rfl) (by exact rfl) (by decide); k_whole; intro g' L' h' F' N' B' X' T' D' lN' gN' tk9'; (try k_lt lN'); (try dsimp only); (try k_fold))
  k_with "exec Raise some none" => (fail "w20")
  k_with "w20" => (k_here; k_dflt (refine Raise_bad (by rfl) ?_))
  k_with "BadE" => (fail "w21")
  k_with "w21" => (k_here; (rename BadIs _ _ _ _ _ _ _ => bI); refine ⟨_, _, _, rfl, by k_in, BadIs.he bI, ?_⟩)
  k_with "call ref" => (fail "w22")
  k_with "w22" => (k_here; (with_reducible show wpAny _ _ (call (Value.ref 51) _) _ _ _); k_dflt (refine bad_call ⟨by k_asm, by k_asm, by k_asm, by k_asm, by k_asm, by first | exact rfl | assumption⟩ (by ktr_room) (by ktr_units) ?_); intro h' e' d' t' tk' h1' h2' k1' k2' F' N' o1' bI'; (try dsimp only); (try k_fold))
  k_with "leaving ref" => (fail "w23")
  k_with "w23" => (k_here; first | ((with_reducible rename BadIs _ _ _ _ _ _ _ => bI9); (refine leave_badI (by assumption) (by assumption) (by assumption) bI9 ?_); k_whole; intro h' vs' S' U' d'; (try dsimp only at S' U' ⊢)) | ((with_reducible rename RaisedS _ _ _ _ _ _ _ _ _ => rS9); (refine leave_badOnI (by assumption) (by assumption) rS9 (by assumption) (by assumption) ?_); k_whole; intro h' S' U' d'; (try dsimp only at S' U' ⊢)))
  k_with "noteFrame ref" => (fail "w24")
  k_with "w24" => (k_here; k_dflt (refine caught_bad (by assumption) (by assumption) (by assumption) (by assumption) (by assumption) (by assumption) (by assumption) (by assumption) (by first | assumption | exact KtsTurn.refl) (by k_is) ?_; k_whole); intro h' g' ws' sl' tk' T' F' N' K' X' P' D' c'; (try k_sweep))
  k_with "getAttr ref" => (fail "w25")
  k_with "w25" => (k_here; (with_reducible show wpAny _ _ (getAttr (Value.ref _) (Str.ofString "square") _) _ _ _); k_dflt (refine fault_square (by k_asm) (by k_asm) (by k_asm) (by k_mem) (by k_mem) ?_); (try dsimp only))
  k_with "getAttr ref" => (fail "w26")
  k_with "w26" => (k_here; (with_reducible show wpAny _ _ (getAttr (Value.ref _) (Str.ofString "text") _) _ _ _); k_dflt (refine fault_text (by k_asm) (by k_asm) (by k_asm) (by k_mem) (by k_mem) ?_); (try dsimp only))
  k_with "call ref" => (fail "w27")
  k_with "w27" => (k_here; (with_reducible show wpAny _ _ (call (Value.ref 149) _) _ _ _); k_dflt (refine width_spec (by exact ⟨by k_asm, by k_asm, by k_asm, by k_asm, by k_asm, by first | exact rfl | assumption⟩) (by assumption) (by assumption) (by ktr_room) (by ktr_units) ?_); intro t' h' tk' F' N'; (try k_sweep); (try dsimp only); (try k_fold))
  trivial
theorem finTUg {w : World} {p : Program} {loose : List Str} {mean : ExcName → Option Value} {mg mb : Str → Option Value} {outer : List Env} {A₀ : Around} {base h₀ h₁ : Heap} {L : Addr} {m : Str → Option Value} {fs : List Addr} {g g' : Heap} {L' D dw : Addr} {m' : Str → Option Value} {o od o' : Obj} {news small small' : List (Addr × Obj)} {gU : Obj → List (Addr × Obj)} {s' : Shared} {P : Prop}
    (N0 : News h₀ L h₁ news) (U : UpdF dw od news gU) (gN : ∀ q ∈ news, (∀ x ∈ small, q.1 ≠ x.1) → g.get? q.1 = some q.2) (N : News g' L' s'.heap ((D, o) :: small')) (T : KtsTurn fs g g') (F : Fr g' L' s'.heap m')
    (hS : ∀ x ∈ small, x.1 = dw ∨ (x ∈ news ∧ x ∈ small')) (h2 : (dw, o') ∈ small') (hx : ∀ x ∈ small, x.1 ≠ D) (k : LCg.Off1 D news → BackT w p loose mean mg mb outer A₀ base h₀ L m ((D, o) :: gU o') s'.heap P) :
    LeaveT fs g (fun small' => ∃ news', (∀ q ∈ news', q ∈ small' ∨ (q ∈ news ∧ ∀ x ∈ small, q.1 ≠ x.1)) ∧ BackT w p loose mean mg mb outer A₀ base h₀ L m news' s'.heap P) s' := by
  refine leaveT_ T F N ⟨_, fun q hq => ?_, k (off_newT T N List.mem_cons_self gN hx)⟩
  rcases List.mem_cons.mp hq with rfl | hq
  · exact .inl List.mem_cons_self
  · rcases updF_are U q hq with rfl | ⟨hn, hd⟩
    · exact .inl (List.mem_cons_of_mem _ h2)
    · by_cases e : ∃ x ∈ small, q.1 = x.1
      · obtain ⟨x, hx1, hx2⟩ := e
        rcases hS x hx1 with z | ⟨z1, z2⟩
        · exact absurd (hx2.trans z) hd
        · obtain ⟨q1, q2⟩ := q
          obtain ⟨x1, x2⟩ := x
          have e' : q1 = x1 := hx2
          subst e'
          rw [news_fun N0 hn z1]
          exact .inl (List.mem_cons_of_mem _ z2)
      · exact .inr ⟨hn, fun x hx z => e ⟨x, hx, z⟩⟩
abbrev sqW (W v : Int) : Int := Builtin.bitAnd (W.fdiv (2 ^ Int.toNat 0)) (1 * 2 ^ v.toNat - 1)
theorem square_spec {prog p : Program} {w : World} {loose : List Str} {mean : ExcName → Option Value} {mg mb : Str → Option Value} {dp un : Nat} {gd : Option (List Code)} {cn : Str} {cs : Scope} {a : Addr} {ccd : Value} {outer : List Env} {A₀ : Around} {base h₀ : Heap} {L : Addr} {m : Str → Option Value} {s : Shared} {Q E : Value → Shared → Prop}
    {news : List (Addr × Obj)}
    {r dr x d fm rm ra ki kn pa ca ri : Addr} {T : GT} {f rr sz fu v : Int} {ea eb ec : Int} {k1 k2 k3 t1 t2 t3 : Tok} {W : Int} {gU : Obj → List (Addr × Obj)}
    (S : SiteS w p loose mean mg mb cs outer A₀ base h₀ L m news s.heap)
    (hr : (r, instObj 138 dr) ∈ news) (U : UpdF dr (dictOf [⟨ea, .str (Str.ofString "word") k1, .int W t1⟩, ⟨eb, .str (Str.ofString "count") k2, .int 8 t2⟩, ⟨ec, .str (Str.ofString "at") k3, .int 0 t3⟩] 3) news gU) (hx : (x, instObj 203 d) ∈ news) (hxd : (d, geoD w T f rr sz fu fm rm ra ki kn pa ca ri) ∈ news)
    (n1 : r ≠ dr) (n2 : x ≠ dr) (n3 : d ≠ dr) (hW : 0 ≤ W) (hz : sz = 2 ∨ sz = 6 ∨ sz = 9 ∨ sz = 16 ∨ sz = 18 ∨ sz = 20 ∨ sz = 64) (hv : widthV sz = v) (hv1 : 1 ≤ v) (hv2 : v ≤ 8)
    (hdp : dp + 40 ≤ 500) (hun : un + 400 ≤ 4000)
    (hA : ¬ sz ≤ sqW W v → ∀ (l' : Addr) (q1 q2 t3 : Tok) (h' : Heap) (tk' : Nat), LCg.Off1 l' news → BackT w p loose mean mg mb outer A₀ base h₀ L m ((l', { cls := .type "tuple", data := .seq #[.str (Str.ofString "taken") q1, .int (sqW W v) q2] }) :: gU (dictOf [⟨ea, .str (Str.ofString "word") k1, .int W t1⟩, ⟨eb, .str (Str.ofString "count") k2, .int 8 t2⟩, ⟨ec, .str (Str.ofString "at") k3, .int (0 + v) t3⟩] 3)) h' (Q (.ref l') { s with heap := h', toks := tk' }))
    (hB : sz ≤ sqW W v → ∀ (l' : Addr) (q1 q2 q3 t3 : Tok) (h' : Heap) (tk' : Nat), LCg.Off1 l' news → BackT w p loose mean mg mb outer A₀ base h₀ L m ((l', { cls := .type "tuple", data := .seq #[.str (Str.ofString "refused") q1, .int (sqW W v) q2, .str (Str.ofString "no such square") q3] }) :: gU (dictOf [⟨ea, .str (Str.ofString "word") k1, .int W t1⟩, ⟨eb, .str (Str.ofString "count") k2, .int 8 t2⟩, ⟨ec, .str (Str.ofString "at") k3, .int (0 + v) t3⟩] 3)) h' (Q (.ref l') { s with heap := h', toks := tk' })) :
    wpAny (model prog w) (ktrTop dp un gd cn cs L a ccd [] outer) (call (.ref 298) [.ref 170, .ref r, .ref x]) Q E s := by
  have hsub : ∀ q ∈ [(r, instObj 138 dr), (dr, (dictOf [⟨ea, .str (Str.ofString "word") k1, .int W t1⟩, ⟨eb, .str (Str.ofString "count") k2, .int 8 t2⟩, ⟨ec, .str (Str.ofString "at") k3, .int 0 t3⟩] 3)), (x, instObj 203 d), (d, geoD w T f rr sz fu fm rm ra ki kn pa ca ri)], q ∈ news := by
    intro q hq
    simp only [List.mem_cons, List.not_mem_nil, or_false] at hq
    rcases hq with rfl | rfl | rfl | rfl
    · exact hr
    · exact updF_was U
    · exact hx
    · exact hxd
  have XB := S.XB
  have TB := S.TB
  have n1 := neN n1
  have n2 := neN n2
  have n3 := neN n3
  k_dflt kts_go
  k_steps
  all_goals with_reducible rename (∀ q ∈ news, _) => g9
  all_goals with_reducible rename News _ _ _ _ => n9
  all_goals exact finTUg S.N U g9 n9 (by first | assumption | exact KtsTurn.refl) (by assumption) (by
      intro y hy
      simp only [List.mem_cons, List.not_mem_nil, or_false] at hy
      rcases hy with rfl | rfl | rfl | rfl
      · exact .inr ⟨hr, by k_mem⟩
      · exact .inl rfl
      · exact .inr ⟨hx, by k_mem⟩
      · exact .inr ⟨hxd, by k_mem⟩) (by k_mem) (by
      intro y hy
      simp only [List.mem_cons, List.not_mem_nil, or_false] at hy
      rcases hy with rfl | rfl | rfl | rfl <;> k_ne) (by first | exact fun o9 => hA (by assumption) _ _ _ _ _ _ o9 | exact fun o9 => hB (by assumption) _ _ _ _ _ _ _ o9)
theorem sqW_eq {W v : Int} (h0 : 0 ≤ W) (h1 : W < 2 ^ v.toNat) : sqW W v = W := by
  have e : sqW W v = W / 2 ^ 0 % 2 ^ v.toNat := by
    rw [← and_low W 0 v.toNat]
    show Builtin.bitAnd _ (1 * 2 ^ v.toNat - 1) = _
    rw [Int.one_mul]
    rfl
  rw [e, Int.pow_zero, Int.ediv_one, Int.emod_eq_of_lt h0 h1]
theorem square_spec2 {prog p : Program} {w : World} {loose : List Str} {mean : ExcName → Option Value} {mg mb : Str → Option Value} {dp un : Nat} {gd : Option (List Code)} {cn : Str} {cs : Scope} {a : Addr} {ccd : Value} {outer : List Env} {A₀ : Around} {base h₀ : Heap} {L : Addr} {m : Str → Option Value} {s : Shared} {Q E : Value → Shared → Prop}
    {news : List (Addr × Obj)}
    {r dr x d fm rm ra ki kn pa ca ri : Addr} {T : GT} {f rr sz fu v : Int} {ea eb ec : Int} {k1 k2 k3 t1 t2 t3 : Tok} {W : Int} {gU : Obj → List (Addr × Obj)}
    (S : SiteS w p loose mean mg mb cs outer A₀ base h₀ L m news s.heap)
    (hr : (r, instObj 138 dr) ∈ news) (U : UpdF dr (dictOf [⟨ea, .str (Str.ofString "word") k1, .int W t1⟩, ⟨eb, .str (Str.ofString "count") k2, .int 8 t2⟩, ⟨ec, .str (Str.ofString "at") k3, .int 0 t3⟩] 3) news gU) (hx : (x, instObj 203 d) ∈ news) (hxd : (d, geoD w T f rr sz fu fm rm ra ki kn pa ca ri) ∈ news)
    (n1 : r ≠ dr) (n2 : x ≠ dr) (n3 : d ≠ dr) (hW : 0 ≤ W) (hW2 : W < 2 ^ v.toNat) (hz : sz = 2 ∨ sz = 6 ∨ sz = 9 ∨ sz = 16 ∨ sz = 18 ∨ sz = 20 ∨ sz = 64) (hv : widthV sz = v) (hv1 : 1 ≤ v) (hv2 : v ≤ 8)
    (hdp : dp + 40 ≤ 500) (hun : un + 400 ≤ 4000)
    (hA : ¬ sz ≤ W → ∀ (l' : Addr) (q1 q2 t3 : Tok) (h' : Heap) (tk' : Nat), LCg.Off1 l' news → BackT w p loose mean mg mb outer A₀ base h₀ L m ((l', { cls := .type "tuple", data := .seq #[.str (Str.ofString "taken") q1, .int (W) q2] }) :: gU (dictOf [⟨ea, .str (Str.ofString "word") k1, .int W t1⟩, ⟨eb, .str (Str.ofString "count") k2, .int 8 t2⟩, ⟨ec, .str (Str.ofString "at") k3, .int (0 + v) t3⟩] 3)) h' (Q (.ref l') { s with heap := h', toks := tk' }))
    (hB : sz ≤ W → ∀ (l' : Addr) (q1 q2 q3 t3 : Tok) (h' : Heap) (tk' : Nat), LCg.Off1 l' news → BackT w p loose mean mg mb outer A₀ base h₀ L m ((l', { cls := .type "tuple", data := .seq #[.str (Str.ofString "refused") q1, .int (W) q2, .str (Str.ofString "no such square") q3] }) :: gU (dictOf [⟨ea, .str (Str.ofString "word") k1, .int W t1⟩, ⟨eb, .str (Str.ofString "count") k2, .int 8 t2⟩, ⟨ec, .str (Str.ofString "at") k3, .int (0 + v) t3⟩] 3)) h' (Q (.ref l') { s with heap := h', toks := tk' })) :
    wpAny (model prog w) (ktrTop dp un gd cn cs L a ccd [] outer) (call (.ref 298) [.ref 170, .ref r, .ref x]) Q E s := by
  have e := sqW_eq hW hW2
  refine square_spec S hr U hx hxd n1 n2 n3 hW hz hv hv1 hv2 hdp hun ?_ ?_
  · rw [e]
    exact hA
  · rw [e]
    exact hB
end Mine
end

section
namespace Mine
open PySem.W.X
theorem wordsSQ30 : True := by
  k_with_none
  w_top off
  k_with "a9" => (with_reducible assumption)
  k_with "c9" => (repeat (with_reducible rename _ ∧ _ => hA9; clear hA9)); (repeat (with_reducible rename _ ≠ _ => hA9; clear hA9))
  k_with "u9" => ((with_reducible rename News _ _ _ _ => N9); dsimp +zetaDelta only at N9)
  k_with "p0" => (refine offAt (by fail "a9") 0 ?_; exact rfl)
  k_with "p1" => (refine offAt (by fail "a9") 1 ?_; exact rfl)
  k_with "p2" => (refine offAt (by fail "a9") 2 ?_; exact rfl)
  k_with "p3" => (refine offAt (by fail "a9") 3 ?_; exact rfl)
  k_with "p4" => (refine offAt (by fail "a9") 4 ?_; exact rfl)
  k_with "p5" => (refine offAt (by fail "a9") 5 ?_; exact rfl)
  k_with "p6" => (refine offAt (by fail "a9") 6 ?_; exact rfl)
  k_with "p7" => (refine offAt (by fail "a9") 7 ?_; exact rfl)
  k_with "p8" => (refine offAt (by fail "a9") 8 ?_; exact rfl)
  k_with "p9" => (refine offAt (by fail "a9") 9 ?_; exact rfl)
  k_with "p10" => (refine offAt (by fail "a9") 10 ?_; exact rfl)
  k_with "p11" => (refine offAt (by fail "a9") 11 ?_; exact rfl)
  k_with "p12" => (refine offAt (by fail "a9") 12 ?_; exact rfl)
  k_with "p13" => (refine offAt (by fail "a9") 13 ?_; exact rfl)
  k_with "p14" => (refine ltAt (by fail "a9") 0 ?_; exact rfl)
  k_with "p15" => (refine ltAt (by fail "a9") 1 ?_; exact rfl)
  k_with "p16" => (refine ltAt (by fail "a9") 2 ?_; exact rfl)
  k_with "p17" => (refine ltAt (by fail "a9") 3 ?_; exact rfl)
  k_with "p18" => (refine ltAt (by fail "a9") 4 ?_; exact rfl)
  k_with "p19" => (refine ltAt (by fail "a9") 5 ?_; exact rfl)
  k_with "p20" => (refine ltAt (by fail "a9") 6 ?_; exact rfl)
  k_with "p21" => (refine ltAt (by fail "a9") 7 ?_; exact rfl)
  k_with "p22" => (refine ltAt (by fail "a9") 8 ?_; exact rfl)
  k_with "p23" => (refine ltAt (by fail "a9") 9 ?_; exact rfl)
  k_with "p24" => (refine ltAt (by fail "a9") 10 ?_; exact rfl)
  k_with "p25" => (refine ltAt (by fail "a9") 11 ?_; exact rfl)
  k_with "p26" => (refine ltAt (by fail "a9") 12 ?_; exact rfl)
  k_with "p27" => (refine ltAt (by fail "a9") 13 ?_; exact rfl)
  k_with "r9" => (fail "w1")
  k_with "w1" => (first | fail "a9" | exact Nat.le_of_lt (by fail "a9"))
  k_with "offs9" => (first | fail "p0" | fail "p1" | fail "p2" | fail "p3" | fail "p4" | fail "p5" | fail "p6" | fail "p7" | fail "p8" | fail "p9" | fail "p10" | fail "p11" | fail "p12" | fail "p13" | fail "p14" | fail "p15" | fail "p16" | fail "p17" | fail "p18" | fail "p19" | fail "p20" | fail "p21" | fail "p22" | fail "p23" | fail "p24" | fail "p25" | fail "p26" | fail "p27")
  k_with "mem9" => (fail "w2")
  k_with "w2" => (first | exact List.Mem.head _ | exact List.Mem.tail _ (List.Mem.head _) | (refine memAt 0 ?_; exact rfl) | (refine memAt 1 ?_; exact rfl) | (refine memAt 2 ?_; exact rfl) | (refine memAt 3 ?_; exact rfl) | (refine memAt 4 ?_; exact rfl) | (refine memAt 5 ?_; exact rfl) | (refine memAt 6 ?_; exact rfl) | (refine memAt 7 ?_; exact rfl) | (refine memAt 8 ?_; exact rfl) | (refine memAt 9 ?_; exact rfl) | (refine memAt 10 ?_; exact rfl) | (refine memAt 11 ?_; exact rfl) | (refine memAt 12 ?_; exact rfl) | (refine memAt 13 ?_; exact rfl) | (refine memAt 14 ?_; exact rfl) | (refine memAt 15 ?_; exact rfl) | (refine memAt 16 ?_; exact rfl) | (refine memAt 17 ?_; exact rfl))
  k_with "lts9" => (fail "w3")
  k_with "w3" => (first | (refine ltB (by fail "a9") 0 ?_; exact rfl) | (refine ltB (by fail "a9") 1 ?_; exact rfl) | (refine ltB (by fail "a9") 2 ?_; exact rfl) | (refine ltB (by fail "a9") 3 ?_; exact rfl) | (refine ltB (by fail "a9") 4 ?_; exact rfl) | (refine ltB (by fail "a9") 5 ?_; exact rfl) | (refine ltB (by fail "a9") 6 ?_; exact rfl) | (refine ltB (by fail "a9") 7 ?_; exact rfl) | (refine ltB (by fail "a9") 8 ?_; exact rfl) | (refine ltB (by fail "a9") 9 ?_; exact rfl) | (refine ltB (by fail "a9") 10 ?_; exact rfl) | (refine ltB (by fail "a9") 11 ?_; exact rfl) | (refine ltB (by fail "a9") 12 ?_; exact rfl) | (refine ltB (by fail "a9") 13 ?_; exact rfl))
  k_with "rooms9" => (fail "w4")
  k_with "w4" => (first | (refine rl2 (by fail "r9") ?_; exact rfl) | (refine rl1 (by fail "r9") ?_; exact rfl) | (refine rl3 (by fail "r9") ?_; exact rfl) | (refine rl0 (by fail "r9") ?_; exact rfl) | (refine rl4 (by fail "r9") ?_; exact rfl) | (refine rm2 (by fail "r9") ?_; exact rfl) | (refine rm1 (by fail "r9") ?_; exact rfl) | (refine rm3 (by fail "r9") ?_; exact rfl) | (refine rm0 (by fail "r9") ?_; exact rfl) | (refine rm4 (by fail "r9") ?_; exact rfl))
  k_with "k_ne" => (fail "w5")
  k_with "w5" => (refine neN ?_; (try dsimp only); first | fail "a9" | (refine Ne.symm ?_; fail "a9") | exact Nat.ne_of_lt (by fail "a9") | exact Nat.ne_of_gt (by fail "a9") | k_extra "offs9" | (refine Ne.symm ?_; first | k_extra "offs9") | ((try simp only [LCg.Off1, and_true] at *); omega))
  k_with "k_mem" => (fail "w6")
  k_with "w6" => (first | fail "a9" | k_extra "mem9")
  k_with "k_memK" => (first | k_extra "mem9")
  k_with "is_list" => (fail "w7")
  k_with "w7" => (exact News.isList (by fail "a9") (by k_mem))
  k_with "ktr_room" => (fail "w8")
  k_with "w8" => ((try dsimp only [depth_under_make, depth_under_kw, depth_in1, depth_deeper, depth_caller]); (try dsimp only [ktrTop]); first | decide | k_extra "rooms9")
  k_with "units_room" => (fail "w9")
  k_with "w9" => ((try dsimp only [units_in1, units_deeper, Around.mark_units, units_caller]); (try dsimp only [ktrTop]); first | decide | k_extra "rooms9")
  k_with "l_idx" => ((k_extra "c9"); omega)
  k_with "l_fit" => ((k_extra "c9"); omega)
  k_with "ktr_units" => (fail "w10")
  k_with "w10" => ((try dsimp only [units_in1, units_deeper, Around.mark_units, units_caller]); (try dsimp only [ktrTop]); first | decide | k_extra "rooms9")
  k_with "execs cons" => (fail "w11")
  k_with "w11" => (k_here; first | k_gentoks | ((try dsimp only); (try k_gentoks); (try (with_reducible refine letA ?_; intro A9)); (try ((with_reducible rename Fr _ _ _ _ => F9); refine letF F9 ?_; clear F9; intro m9 F9)); (try ((with_reducible rename News _ _ _ _ => N9); refine letN N9 ?_; clear N9; intro n9 N9)); (first | (with_reducible refine execHidB fun q9 hq9 => ?_) | (refine hideQ fun q9 hq9 => ?_; with_reducible refine execHidB fun q9 hq9 => ?_))))
  k_with "Hid" => (fail "w12")
  k_with "w12" => (first | ((with_reducible refine unhidNextT (by fail "a9") ?_); intro tk9; (try dsimp only)) | ((with_reducible refine unhidNext (by fail "a9") ?_); (try dsimp only)) | ((with_reducible refine unhidRet (by fail "a9") ?_); (try dsimp only)) | ((with_reducible refine unhid (by fail "a9") ?_); (try dsimp only [Behind])))
  k_with "spliced" => (fail "w13")
  k_with "w13" => (k_here; (with_reducible show wpAny _ _ (spliced (backTo _ (starEach (_ :: _ :: _ :: _) _))) _ _ _); k_dflt (refine' args_cons ?_ ?_; rotate_left; rfl))
  k_with "spliced" => (fail "w14")
  k_with "w14" => (k_here; k_dflt ((refine' argsF ?_ ?_ ?_ ?_); (rotate_left 4); k_asm; rfl; rfl); (try dsimp only [List.nil_append, List.cons_append]))
  k_with "eval Call" => (fail "w15")
  k_with "w15" => (k_here; (with_reducible show wpAny _ _ (eval (PySem.Expr.Call (PySem.Expr.Name _ _) (_ :: _) [] _) _) _ _ _); first | (k_dflt ((refine' callF ?_ ?_ ?_ ?_ ?_ ?_ ?_ ?_ ?_ ?_ ?_); (rotate_left 10); k_asm; k_asm; k_asm; k_is; k_is; rfl; rfl; rfl; rotate_left; decide; rfl)) | k_compRoot | k_dflt (refine' Call_ ?_))
  k_with "eval Name" => (fail "w16")
  k_with "w16" => (k_here; (with_reducible show wpAny _ _ (eval (PySem.Expr.Name _ _) (envOf _ _ _ _ _)) _ _ _); first | k_dflt ((refine' nameX_K ?_ ?_ ?_ ?_ ?_ ?_ ?_ ?_); (rotate_left 8); k_asm; k_asm; k_asm; k_is; rotate_left; rfl; rfl; decide) | k_dflt ((refine' nameX_L ?_ ?_ ?_ ?_ ?_ ?_); (rotate_left 3); k_asm; rfl; rotate_left; rfl; rfl; decide))
  k_with "callWith ref" => (fail "w17")
  k_with "w17" => (k_here; (with_reducible show wpAny _ _ (callWith _ _ _ (backTo _ (starEach [] _)) []) _ _ _); k_dflt (refine callF0 (by fail "a9") (by fail "a9") (by k_is) ?_))
  k_with "last getItem" => k_extra "u9"
  k_with "last setItem" => k_extra "u9"
  k_with "last setAttr" => k_extra "u9"
  k_with "last getAttr" => k_extra "u9"
  k_with "last subscriptTail" => k_extra "u9"
  k_with "last getMethod" => k_extra "u9"
  k_with "last call" => k_extra "u9"
  k_with "last pyIter" => k_extra "u9"
  k_with "last eval" => k_extra "u9"
  k_with "last exec" => k_extra "u9"
  k_with "last inplaceOp" => k_extra "u9"
  k_with "last binaryOp" => k_extra "u9"
  k_with "last InvEndN" => k_extra "u9"
  k_with "last GEnd" => k_extra "u9"
  k_with "last KEnd" => k_extra "u9"
  k_with "last LeaveT" => k_extra "u9"
  k_with "last noteFrame" => k_extra "u9"
  k_with "last leaving" => k_extra "u9"
  k_with "k_lt" => skip
  k_with "kts_go" => (fail "w18")
  k_with "w18" => (refine enterS (by assumption) (by assumption) (by k_is) (by k_is) (by ktr_room) (by exact BindsTo.of_eq rfl) (by exact locs rfl) ?_ (by exact rfl) (by exact rfl) (by exact rfl) (by decide); k_whole; intro g' L' h' F' N' B' X' T' D' lN' gN' tk9'; (have T0' := turn0 D'); (try k_lt lN'); (try k_sweep); (try dsimp only); (try k_fold))
  k_with "kxw_text" => (fail "w19")
  k_with "w19" => exact ⟨by k_asm, by k_asm, by k_asm, by k_asm, by k_asm, by first | exact rfl | assumption⟩
  k_with "kxw_bool" => (fail "w20")
  k_with "w20" => exact ⟨by k_asm, by k_asm, by k_asm, by k_asm, by k_asm, by assumption, by assumption, by assumption, by first | exact rfl | assumption⟩
  k_with "kpt_eq" => (fail "w21")
  k_with "w21" => (unfold BackT; (try (with_reducible rename Fr _ _ _ _ => oF; clear oF)); (try (with_reducible rename News _ _ _ _ => oN; clear oN)); (try (with_reducible rename Below _ _ _ _ => oB; clear oB)); (try (with_reducible rename Top _ _ _ _ _ _ => oT; clear oT)); intro kg Tn' F' N' B' X' P' D'; k_dflt (have T0' := KtsTurn.trans (by assumption) Tn'); (try dsimp only at N'); (try k_sweep); (try dsimp only); (try k_fold))
  k_with "call ref" => (fail "w22")
  k_with "w22" => (k_here; (with_reducible show wpAny _ _ (call (Value.ref 276) _) _ _ _); k_dflt (refine cut_spec (by kxw_text) (by k_updF) (by k_asm) (by k_mem) (by k_ne) (by assumption) (by assumption) (by first | ((k_extra "c9"); omega) | omega) (by first | ((k_extra "c9"); omega) | omega) (by first | decide | ((k_extra "c9"); omega) | omega) (by first | decide | ((k_extra "c9"); omega) | omega) (by ktr_room) (by ktr_units) ?_); intro v' oc' t' t2' h' tk' lo' hi' d' F' N'; (try simp only [Int.reduceToNat, Int.reducePow] at hi'); (try dsimp only at N'); (try k_sweep); (try dsimp only); (try k_fold))
  k_with "call ref" => (fail "w23")
  k_with "w23" => (k_here; (with_reducible show wpAny _ _ (call (Value.ref 281) _) _ _ _); k_dflt (refine bits_spec (by kxw_text) (by first | decide | ((k_extra "c9"); omega) | omega) (by first | decide | ((k_extra "c9"); omega) | omega) (by first | ((k_extra "c9"); omega) | omega) (by first | ((k_extra "c9"); omega) | omega) (by ktr_room) (by ktr_units) ?_); intro l' vs' n' h' tk' i' o1' F' N'; (try k_sweep); (try dsimp only); (try k_fold))
  k_with "call ref" => (fail "w24")
  k_with "w24" => (k_here; (with_reducible show wpAny _ _ (call (Value.ref 103) _) _ _ _); k_dflt (refine bwriter_spec (by kxw_text) (by ktr_room) (by ktr_units) ?_); intro r' d' e1' e2' k1' k2' t1' t2' h' tk' o1' o2' n1' F' N'; (try k_sweep); (try dsimp only); (try k_fold))
  k_with "call ref" => (fail "w25")
  k_with "w25" => (k_here; (with_reducible show wpAny _ _ (call (Value.ref 138) _) _ _ _); k_dflt (refine breader_spec (by kxw_text) (by first | assumption | exact KBa.ints_make (by assumption)) (by first | assumption | exact wOct_in _ _) (by first | (rw [wOct_len]; omega) | l_fact) (by ktr_room) (by ktr_units) ?_); intro r' d' e1' e2' e3' k1' k2' k3' t1' t2' t3' h' tk' o1' o2' n1' F' N'; (try k_sweep); (try dsimp only); (try k_fold))
  k_with "call ref" => (fail "w26")
  k_with "w26" => (k_here; (with_reducible show wpAny _ _ (call (Value.ref 138) _) _ _ _); k_dflt (refine breader_w (by kxw_text) (by assumption) (by first | assumption | decide | ((k_extra "c9"); omega) | omega) (by first | assumption | decide | ((k_extra "c9"); omega) | omega) (by first | ((k_extra "c9"); omega) | omega) (by first | exact (rfl : _ = 8) | exact (rfl : _ = 24) | exact rfl | assumption) (by ktr_room) (by ktr_units) ?_); intro r' d' e1' e2' e3' k1' k2' k3' t1' t2' t3' h' tk' o1' o2' n1' F' N'; (try k_sweep); (try dsimp only); (try k_fold))
  k_with "call ref" => (fail "w27")
  k_with "w27" => (k_here; (with_reducible show wpAny _ _ (call (Value.ref 95) _) _ _ _); k_dflt (refine put_spec (by kxw_text) (by k_mem) (by k_updF) (by k_ne) (by first | assumption | decide | ((k_extra "c9"); omega) | omega) (by first | assumption | decide | ((k_extra "c9"); omega) | omega) (by first | decide | ((k_extra "c9"); omega) | omega) (by first | decide | ((k_extra "c9"); omega) | omega) (by ktr_room) (by ktr_units) ?_); intro W' t1' t2' h' tk' eW' lW' hW' F' N'; (try simp only [bitAnd_m3, fdiv_8, fdiv_64, fdiv_256, Int.reduceToNat, Nat.reduceAdd, Int.reducePow] at eW'); (try dsimp only at N'); (try k_sweep); (try dsimp only); (try k_fold))
  k_with "call ref" => (fail "w28")
  k_with "w28" => (k_here; (with_reducible show wpAny _ _ (call (Value.ref 100) _) _ _ _); k_dflt (refine wocts_spec (by kxw_text) (by k_mem) (by k_mem) (by k_ne) (by first | decide | ((k_extra "c9"); omega) | omega) (by first | assumption | decide | ((k_extra "c9"); omega) | omega) (by ktr_room) (by ktr_units) ?_); intro b' t' h' tk' hb' F' N'; (try k_sweep); (try dsimp only); (try k_fold))
  k_with "call ref" => (fail "w29")
  k_with "w29" => (k_here; (with_reducible show wpAny _ _ (call (Value.ref 291) _) _ _ _); k_dflt (refine octets_spec (by kxw_text) (by k_mem) (by first | k_asm | l_ints) (by first | omega | l_fact) (by ktr_room) (by ktr_units) ?_); intro l' vs' n' h' tk' i' o1' F' N'; (try k_sweep); (try dsimp only); (try k_fold))
  k_with "call type:list" => (fail "w30")
  k_with "w30" => (k_here; (with_reducible show wpAny _ _ (call (Value.type "list") [Value.bytes _ _]) _ _ _); k_dflt (refine list_of_bytes rfl (by k_asm) (by k_asm) (by assumption) (by rw [wOct_len, sizeLine_eq]; omega) ?_); intro l' vs' n' h' tk' i' o1' F' N'; (try k_sweep); (try dsimp only); (try k_fold))
  k_with "call ref" => (fail "w31")
  k_with "w31" => (k_here; (with_reducible show wpAny _ _ (call (Value.ref 291) _) _ _ _); k_dflt (refine octets_w (by assumption) (by kxw_text) (by k_mem) (by first | k_asm | l_ints) (by first | assumption | (simp only [List.length_append, bitsL_len, List.length_cons, List.length_nil, Int.reduceToNat, Nat.reduceAdd, Nat.reduceLeDiff]; done) | (simp only [List.length_append, bitsL_len, List.length_cons, List.length_nil, Int.reduceToNat, Nat.reduceAdd]; omega)) (by repeat' first | exact bitsL_bits _ _ | assumption | refine Bits.append ?_ ?_ | exact Bits.nil | (refine Bits.one ?_; omega)) (by first | assumption | (simp only [numV_app, numV, numV_bitsL', List.length_append, bitsL_len, List.length_cons, List.length_nil, Int.reduceToNat, Nat.reduceAdd, Int.reducePow]; omega)) (by first | assumption | (simp only [List.length_append, bitsL_len, List.length_cons, List.length_nil, Int.reduceToNat, Nat.reduceAdd]; done) | (simp only [List.length_append, bitsL_len, List.length_cons, List.length_nil, Int.reduceToNat, Nat.reduceAdd]; omega)) (by ktr_room) (by ktr_units) ?_); intro l' vs' n' h' tk' i' o1' F' N'; (try k_sweep); (try dsimp only); (try k_fold))
  k_with "LeaveT" => (fail "w32")
  k_with "w32" => (k_dflt (exact finOk (by assumption) (by assumption) (by assumption) (by assumption) (by k_asm) (by k_asm) (by assumption) (by k_mem) (by k_mem) (by k_asm) (by first | ((k_extra "c9"); omega) | omega) (by first | rfl | (exact beq_iff_eq.mpr (by law_clear; omega)) | (exfalso; law_clear; omega) | decide | (simp only [decide_eq_true_eq]; law_clear; omega))))
  k_with "call ref" => (fail "w33")
  k_with "w33" => (k_here; (with_reducible show wpAny _ _ (call (Value.ref 138) _) _ _ _); k_dflt (refine breader_three (by kxw_text) (by exact three_bytes (by decide) (by decide) (by decide) (by decide) (by decide) (by decide)) (by exact three_in (by decide) (by decide) (by decide) (by decide) (by decide) (by decide)) (by ktr_room) (by ktr_units) ?_); intro r' d' e1' e2' e3' k1' k2' k3' t1' t2' t3' h' tk' o1' o2' n1' F' N'; (try k_sweep); (try dsimp only); (try k_fold))
  k_with "call ref" => (fail "w34")
  k_with "w34" => (k_here; (with_reducible show wpAny _ _ (call (Value.ref 138) _) _ _ _); k_dflt (refine breader_one (by kxw_text) (by exact one_bytes (by law_clear; omega) (by law_clear; omega)) (by exact one_in (by law_clear; omega) (by law_clear; omega)) (by ktr_room) (by ktr_units) ?_); intro r' d' e1' e2' e3' k1' k2' k3' t1' t2' t3' h' tk' o1' o2' n1' x1' x2' F' N'; (try k_sweep); (try dsimp only); (try k_fold))
  k_with "subscriptTail Name Slice ref ref" => (fail "w35")
  k_with "w35" => (k_here; (with_reducible show wpAny _ _ (subscriptTail _ (PySem.Expr.Slice _ _ none _) (Value.ref _) (Value.ref _)) _ _ _); k_dflt (refine slice_two (by k_asm) (by k_asm) (by k_mem) ?_ (by with_unfolding_all rfl) (by intro _; with_unfolding_all rfl)); intro D' h' o1' F' N'; (try k_sweep); (try dsimp only); (try k_fold))
  k_with "subscriptTail" => (fail "w36")
  k_with "w36" => (k_here; (with_reducible show wpAny _ _ (subscriptTail _ _ (Value.ref _) (Value.int _ _)) _ _ _); k_dflt (refine topTup_K (by k_asm) (by k_asm) (by k_is) (by decide) (by decide) (by rfl) (by rfl) ?_))
  trivial
theorem octets_bits {prog p : Program} {w : World} {loose : List Str} {mean : ExcName → Option Value} {mg mb : Str → Option Value} {dp un : Nat} {gd : Option (List Code)} {cn : Str} {cs : Scope} {a : Addr} {ccd : Value} {outer : List Env} {A₀ : Around} {base h₀ : Heap} {L : Addr} {m : Str → Option Value} {s : Shared} {Q E : Value → Shared → Prop}
    {news : List (Addr × Obj)} {cl : List (Str × Addr)} {l : Addr} {vs : List Value} {n wd : Int} {nl : Nat}
    (S : Site w p loose mean mg mb cs outer A₀ base h₀ L m news s.heap)
    (hl : (l, PySem.W.listOf vs.toArray nl) ∈ news) (hi : IntsAre vs (bitsL n wd)) (h0 : 0 ≤ n) (h1 : n < 2 ^ wd.toNat) (hw : wd.toNat ≤ 300)
    (hdp : dp + 8 < recursionLimit) (hun : un + 80 < cLine)
    (h : ∀ (l' : Addr) (vs' : List Value) (nl' : Nat) (h' : Heap) (tk' : Nat), IntsAre vs' (wOct n wd.toNat) → LCg.Off1 l' news →
      Fr h₀ L h' m → News h₀ L h' ((l', PySem.W.listOf vs'.toArray nl') :: news) → Q (.ref l') { s with heap := h', toks := tk' }) :
    wpAny (model prog w) (ktrTop dp un gd cn cs L a ccd cl outer) (call (.ref 291) [.ref l]) Q E s := by
  refine octets_spec S hl hi (by rw [bitsL_len]; exact hw) hdp hun fun l' vs' nl' h' tk' i' => ?_
  rw [octR_eq (bitsL_bits _ _), numV_bitsL', bitsL_len, Int.emod_eq_of_lt h0 h1] at i'
  exact h l' vs' nl' h' tk' i'
theorem wordsSQ31 : True := by
  k_with "call ref" => (fail "w37")
  k_with "w37" => (k_here; (with_reducible show wpAny _ _ (call (Value.ref 291) _) _ _ _); k_dflt (refine octets_bits (by kxw_text) (by k_mem) (by assumption) (by assumption) (by (try simp only [Int.reduceToNat, Int.reducePow]); assumption) (by decide) (by ktr_room) (by ktr_units) ?_); intro l' vs' n' h' tk' i' o1' F' N'; (try k_sweep); (try dsimp only); (try k_fold))
  k_with "call type:bytes" => (fail "w38")
  k_with "w38" => (k_here; (with_reducible show wpAny _ _ (call (Value.type "bytes") [Value.ref _]) _ _ _); k_dflt (refine KBa.make_K (ns := wOct _ _) (by k_asm) (by k_asm) (by rfl) (by kba_isList) (by assumption) (by exact wOct_in _ _) (by (rw [wOct_len]; first | decide | ((k_extra "c9"); omega) | omega)) ?_); intro h' t' tk' F' N' kbaIn)
  k_with "call ref" => (fail "w39")
  k_with "w39" => (k_here; (with_reducible show wpAny _ _ (call (Value.ref 149) _) _ _ _); k_dflt (first | (refine width_spec (v := 3) (by kxw_text) (by decide) (by decide) (by ktr_room) (by ktr_units) ?_) | (refine width_spec (v := 4) (by kxw_text) (by decide) (by decide) (by ktr_room) (by ktr_units) ?_) | (refine width_spec (v := 5) (by kxw_text) (by decide) (by decide) (by ktr_room) (by ktr_units) ?_) | (refine width_spec (v := 6) (by kxw_text) (by decide) (by decide) (by ktr_room) (by ktr_units) ?_) | (refine width_spec (v := 1) (by kxw_text) (by decide) (by decide) (by ktr_room) (by ktr_units) ?_)); intro t' h' tk' F' N'; (try k_sweep); (try dsimp only); (try k_fold))
  k_with "call ref" => (fail "w40")
  k_with "w40" => (k_here; (with_reducible show wpAny _ _ (call (Value.ref 263) _) _ _ _); k_dflt (refine make_spec (by kxw_text) (by decide) (by decide) (by decide) (by decide) (by decide) (by decide) (by ktr_room) (by ktr_units) ?_); intro T' x' d' fm' rm' ra' ki' kn' pa' ca' ri' fu' h' tk' o1' o2' n1' F' N'; (try k_sweep); (try dsimp only); (try k_fold))
  k_with "call ref" => (fail "w41")
  k_with "w41" => (k_here; (with_reducible show wpAny _ _ (call (Value.ref 298) _) _ _ _); (k_dflt (first | (refine square_spec2 (v := 3) (by kxw_bool) (by k_mem) (by k_updF) (by k_mem) (by k_mem) (by k_ne) (by k_ne) (by k_ne) (by assumption) (by (try simp only [Int.reduceToNat, Int.reducePow]); first | assumption | ((k_extra "c9"); omega) | omega) (by decide) (by decide) (by decide) (by decide) (by ktr_room) (by ktr_units) (fun b0' => ?_) (fun b0' => ?_)) | (refine square_spec2 (v := 4) (by kxw_bool) (by k_mem) (by k_updF) (by k_mem) (by k_mem) (by k_ne) (by k_ne) (by k_ne) (by assumption) (by (try simp only [Int.reduceToNat, Int.reducePow]); first | assumption | ((k_extra "c9"); omega) | omega) (by decide) (by decide) (by decide) (by decide) (by ktr_room) (by ktr_units) (fun b0' => ?_) (fun b0' => ?_)) | (refine square_spec2 (v := 5) (by kxw_bool) (by k_mem) (by k_updF) (by k_mem) (by k_mem) (by k_ne) (by k_ne) (by k_ne) (by assumption) (by (try simp only [Int.reduceToNat, Int.reducePow]); first | assumption | ((k_extra "c9"); omega) | omega) (by decide) (by decide) (by decide) (by decide) (by ktr_room) (by ktr_units) (fun b0' => ?_) (fun b0' => ?_)))) <;> (first | (exfalso; law_clear; omega) | (intro l' q1' q2' q3' t3' h' tk' o1'; kpt_eq) | (intro l' q1' q2' t3' h' tk' o1'; kpt_eq)))
  k_with "call ref" => (fail "w42")
  k_with "w42" => (k_here; (with_reducible show wpAny _ _ (call (Value.ref 138) _) _ _ _); k_dflt (refine breader_w (n := 8) (by kxw_text) (by first | assumption | exact KBa.ints_make (wOct_in _ _)) (by assumption) (by (try simp only [Int.reduceToNat, Int.reducePow]); first | assumption | ((k_extra "c9"); omega) | omega) (by decide) (by decide) (by ktr_room) (by ktr_units) ?_); intro r' d' e1' e2' e3' k1' k2' k3' t1' t2' t3' h' tk' o1' o2' n1' F' N'; (try k_sweep); (try dsimp only); (try k_fold))
  trivial
theorem squares_spec {prog p : Program} {w : World} {loose : List Str} {mean : ExcName → Option Value} {mg mb : Str → Option Value} {dp un : Nat} {gd : Option (List Code)} {cn : Str} {cs : Scope} {a : Addr} {ccd : Value} {outer : List Env} {A₀ : Around} {base h₀ : Heap} {L : Addr} {m : Str → Option Value} {s : Shared} {Q E : Value → Shared → Prop}
    {news : List (Addr × Obj)}
    {c r : Addr} {oc : Obj} {gU : Obj → List (Addr × Obj)} {rv : List Value} {rs : List Int} {nr : Nat} {i : Int} {t9 : Tok}
    (S : SiteS w p loose mean mg mb cs outer A₀ base h₀ L m news s.heap)
    (U : UpdF c oc news gU) (hd : oc.IsDictOf (PySem.strKind prog w) [(Str.ofString "row", .ref r), (Str.ofString "at", .int i t9)])
    (hr : (r, PySem.W.listOf rv.toArray nr) ∈ news) (hrc : r ≠ c) (hi : IntsAre rv rs) (hrs : rs.length ≤ 50) (hi0 : 0 ≤ i) (hi1 : i ≤ 50)
    (hdp : dp + 40 ≤ 400) (hun : un + 400 ≤ 3000)
    (hh : OkC prog w p loose mean mg mb outer A₀ base h₀ L m gU r (i + 2) s Q) :
    wpAny (model prog w) (ktrTop dp un gd cn cs L a ccd [] outer) (call (.ref 352) [.ref c]) Q E s := by
  have hsub : ∀ q ∈ [(r, PySem.W.listOf rv.toArray nr), (c, oc)], q ∈ news := by
    intro q hq
    rcases List.mem_cons.mp hq with rfl | hq
    · exact hr
    · rcases List.mem_cons.mp hq with rfl | hq
      · exact updF_was U
      · nomatch hq
  have XB := S.XB
  have N00 := S.N
  have TB := S.TB
  have hrc := neN hrc
  k_dflt kts_go
  k_steps
end Mine
end

section
namespace Mine
theorem resetNC : True := by (k_with_none; w_top off); trivial
theorem compTurn_out (elt t1 i1 t2 i2 : PySem.Expr) (scope : Scope) (pos : Pos) (it acc : Value) (env : Env) :
    compTurn (.ListComp elt [⟨t1, i1, [], 0⟩, ⟨t2, i2, [], 0⟩] scope pos) 0 it acc env = (standAt i1.pos >>= fun _ => pyNext it >>= fun r => match r with
      | none => pure (.done .next)
      | some v => letOwnedTupleGo t1 it v >>= fun _ => assign t1 env v >>= fun _ =>
        (eval i2 env >>= fun x => standAt i2.pos >>= fun _ => foldedSetIterable i2 env x >>= fun x => holding [x] (pyIter x) >>= fun it2 => runOwn (.compStart (.ListComp elt [⟨t1, i1, [], 0⟩, ⟨t2, i2, [], 0⟩] scope pos) 1 it2 acc env) env >>= fun _ => again (.compLoop (.ListComp elt [⟨t1, i1, [], 0⟩, ⟨t2, i2, [], 0⟩] scope pos) 0 it acc env))) := by rfl
theorem compTurn_in (elt t1 i1 t2 i2 : PySem.Expr) (scope : Scope) (pos : Pos) (it acc : Value) (env : Env) :
    compTurn (.ListComp elt [⟨t1, i1, [], 0⟩, ⟨t2, i2, [], 0⟩] scope pos) 1 it acc env = (standAt i2.pos >>= fun _ => pyNext it >>= fun r => match r with
      | none => pure (.done .next)
      | some v => letOwnedTupleGo t2 it v >>= fun _ => assign t2 env v >>= fun _ =>
        (eval elt env >>= fun x => call (.builtin "list.append") [acc, x] >>= fun _ => pure ()) >>= fun _ =>
          again (.compLoop (.ListComp elt [⟨t1, i1, [], 0⟩, ⟨t2, i2, [], 0⟩] scope pos) 1 it acc env)) := by rfl
section
variable {prog : Program} {w : World} {A : Around} {E : Value → Shared → Prop} {R : Result → Shared → Prop} {s : Shared}
/-- the inner clause begins -/
theorem compStart_in {elt t1 i1 t2 i2 : PySem.Expr} {scope : Scope} {pos : Pos} {it acc : Value} {env : Env}
    (h0 : codeAny (model prog w) A (.compLoop (.ListComp elt [⟨t1, i1, [], 0⟩, ⟨t2, i2, [], 0⟩] scope pos) 1 it acc env) R s)
    (h : wpAny (model prog w) A (pyIter it) (fun it' s' => codeAny (model prog w) A (.compLoop (.ListComp elt [⟨t1, i1, [], 0⟩, ⟨t2, i2, [], 0⟩] scope pos) 1 it' acc env) R s')
      (notedBy (model prog w) A env fun x s' => R (.error x) s') s) :
    codeAny (model prog w) A (.compStart (.ListComp elt [⟨t1, i1, [], 0⟩, ⟨t2, i2, [], 0⟩] scope pos) 1 it acc env) R s := by
  refine codeAny_of_tree ?_
  show wpAny _ _ ((compStart (.ListComp elt [⟨t1, i1, [], 0⟩, ⟨t2, i2, [], 0⟩] scope pos) 1 it acc env).onRaise (fun x => do noteFrame x env; standAt theWindowsPlace)) _ _ s
  refine wpAny_notedAt ?_
  unfold compStart
  show wpAny _ _ (ask >>= _) _ _ s
  refine wpAny_bind (wpAny_askSetting (wpAny_ite ?_))
  split
  · first
      | exact wpAny_bind (wpAny_pure (wpAny_pure (And.intro rfl h0)))
      | exact wpAny_pure (And.intro rfl h0)
  · first
      | exact wpAny_bind (wpAny_rule (wpAny_bind (wpAny_standAt (wpAny_bind (wpAny_mono h (fun it' s' h' => wpAny_pure (And.intro rfl h')) fun _ _ x => x)))))
      | (refine wpAny_bind (wpAny_rule ?_); show wpAny _ _ (standAt i2.pos >>= _) _ _ s; exact wpAny_bind (wpAny_standAt (wpAny_bind (wpAny_mono h (fun it' s' h' => wpAny_pure (And.intro rfl h')) fun _ _ x => x))))
/-- the inner clause over a list that was made, its element being its own name -/
theorem inner_loop {h₀ : Heap} {L : Addr} {m : Str → Option Value} {y : Str} {py py2 : Pos} {t1 i1 i2 : PySem.Expr} {scope : Scope} {pos : Pos} {I2 l' D : Addr} {vs ys : List Value} {n' : Nat} {cenv : Env} {m₂ : Str → Option Value} {rest : List (Addr × Obj)}
    (hh : A.handled = none) (hk : cenv.scope.kind = .function) (hy : cenv.kindOf y = some .local) (hdb : (y == ("__debug__" : Str)) = false)
    (F : Fr h₀ L s.heap m) (N : News h₀ L s.heap ((D, LCg.lst ys) :: rest)) (hl : (l', PySem.W.listOf vs.toArray n') ∈ rest) (hit : s.heap.IsListIter I2 l' 0) (hn : s.heap.Ns cenv.locals m₂)
    (hC₀ : h₀.get? cenv.locals = none) (hCL : cenv.locals ≠ L) (hCD : cenv.locals ≠ D) (hCr : ∀ p ∈ rest, p.1 ≠ cenv.locals) (hDr : ∀ p ∈ rest, p.1 ≠ D)
    (hI₀ : h₀.get? I2 = none) (hIL : L ≠ I2) (hID : D ≠ I2) (hIC : cenv.locals ≠ I2) (hIr : ∀ p ∈ rest, p.1 ≠ I2) (hsz : ys.length + vs.length ≤ sizeLine)
    (hR : ∀ h tk m', Fr h₀ L h m → News h₀ L h ((D, LCg.lst (ys ++ vs)) :: rest) → h.Ns cenv.locals m' → R (.ok .next) { s with heap := h, toks := tk }) :
    codeAny (model prog w) A (.compLoop (.ListComp (.Name y py) [⟨t1, i1, [], 0⟩, ⟨.Name y py2, i2, [], 0⟩] scope pos) 1 (.ref I2) (.ref D) cenv) R s := by
  have hp : (cenv.scope.kind == .class || (cenv.scope.kind == .module && cenv.locals != cenv.globals)) = false := by rw [hk]; rfl
  have hlI : l' ≠ I2 := hIr _ hl
  have hlC : l' ≠ cenv.locals := hCr _ hl
  have hlD : l' ≠ D := hDr _ hl
  have W := Walks.list (prog := prog) (w := w) (A := A) hh I2 l' hlI vs.toArray
  have hD₀ : h₀.get? D = none := (N _ List.mem_cons_self).2.2
  have hDL : D ≠ L := (N _ List.mem_cons_self).2.1
  refine codeAny_loop rfl (fun k s' => ∃ h tk i m', s' = { s with heap := h, toks := tk } ∧ i ≤ vs.length ∧ k = vs.length + 1 - i ∧ h.IsListIter I2 l' i ∧ Fr h₀ L h m ∧ News h₀ L h ((D, LCg.lst (ys ++ vs.take i)) :: rest) ∧ h.Ns cenv.locals m')
    ?_ (vs.length + 1) ⟨s.heap, s.toks, 0, m₂, rfl, Nat.zero_le _, rfl, hit, F, by simpa using N, hn⟩
  intro k s' h9_7
  refine ex4 h9_7 ?_
  clear h9_7
  intro h tk i m' hc9_7
  refine an7 hc9_7 ?_
  clear hc9_7
  intro e9_7_0 hi e9_7_2 hit' F' N' hn'
  subst e9_7_0
  subst e9_7_2
  show wpAny _ A ((compTurn (.ListComp (.Name y py) [⟨t1, i1, [], 0⟩, ⟨.Name y py2, i2, [], 0⟩] scope pos) 1 (.ref I2) (.ref D) cenv).onRaise (fun x => do noteFrame x cenv; theTreesLotGoes x)) _ _ _
  refine wpAny_noted ?_
  rw [compTurn_in]
  refine wpAny_bind (wpAny_standAt (wpAny_bind ?_))
  have hlist : h.IsList l' vs.toArray := ⟨_, (N' _ (List.mem_cons_of_mem _ hl)).1, rfl, _, rfl⟩
  have nx : ∀ h₁ : Heap, (∀ b o, b ∉ [I2] → h.get? b = some o → h₁.get? b = some o) → Fr h₀ L h₁ m ∧ News h₀ L h₁ ((D, LCg.lst (ys ++ vs.take i)) :: rest) ∧ h₁.Ns cenv.locals m' := fun h₁ hk₁ =>
    ⟨LCg.fr_but F' hk₁ hIL hI₀, LCg.news_but N' hk₁ fun p hp => by
      rcases List.mem_cons.mp hp with rfl | hp
      · exact hID
      · exact hIr p hp, hn'.at' fun o e => hk₁ _ o (by simpa using hIC) e⟩
  by_cases hlt : i < vs.length
  · refine W.item i _ _ _ (by simpa using hlt) ⟨hit', hlist⟩ fun v h₁ tk₁ hPv hst₁ hk₁ => ?_
    obtain ⟨F₁, N₁, hn₁⟩ := nx h₁ hk₁
    have hv : vs[i]? = some v := by simpa using hPv
    refine wpAny_bind (wpAny_of_eq (a := ()) rfl ?_)
    refine wpAny_bind (wpAny_assign_Name (wpAny_storeName_local hy hn₁ (fun h₂ hn₂ hs₂ => ?_) hp))
    have F₂ : Fr h₀ L h₂ m := F₁.change hs₂ hCL hC₀
    have N₂ : News h₀ L h₂ ((D, LCg.lst (ys ++ vs.take i)) :: rest) := fun p hp => ⟨hs₂.extBut _ _ (by
      rcases List.mem_cons.mp hp with rfl | hp
      · exact Ne.symm hCD
      · exact hCr p hp) (N₁ p hp).1, (N₁ p hp).2⟩
    have hst₂ : h₂.IsListIter I2 l' (i + 1) := by
      obtain ⟨o, e, r⟩ := hst₁.1
      exact ⟨o, hs₂.extBut _ _ (Ne.symm hIC) e, r⟩
    refine wpAny_bind (wpAny_bind (wpAny_Name (wpAny_loadName_local hk hy hn₂ (v := v) (by simp) ?_) hdb))
    have hz : (ys ++ vs.take i).toArray.size ≤ sizeLine := by
      rw [List.size_toArray, List.length_append, List.length_take]
      omega
    refine wpAny_bind (append_at (hsz := hz) (N₂ _ List.mem_cons_self).1 fun h₃ hs₃ hD₃ => ?_)
    refine wpAny_pure (wpAny_pure ⟨rfl, vs.length + 1 - (i + 1), by omega, h₃, _, i + 1, _, rfl, hlt, rfl, ?_, F₂.change hs₃ hDL hD₀, ?_, hn₂.sameBut hs₃ hCD⟩)
    · obtain ⟨o, e, r⟩ := hst₂
      exact ⟨o, hs₃.extBut _ _ (Ne.symm hID) e, r⟩
    · intro p hp
      rcases List.mem_cons.mp hp with rfl | hp
      · refine ⟨?_, hDL, hD₀⟩
        rw [hD₃, LCg.lst_snoc, List.append_assoc, List.take_add_one, hv]
        rfl
      · exact ⟨hs₃.extBut _ _ (hDr p hp) (N₂ p (List.mem_cons_of_mem _ hp)).1, (N₂ p (List.mem_cons_of_mem _ hp)).2⟩
  · obtain rfl : i = vs.length := Nat.le_antisymm hi (Nat.not_lt.mp hlt)
    rw [List.take_length] at N' nx
    refine W.done _ _ _ (by simpa using ⟨hit', hlist⟩) fun h₁ tk₁ hk₁ => wpAny_pure ?_
    obtain ⟨F₁, N₁, hn₁⟩ := nx h₁ hk₁
    exact hR _ _ _ F₁ N₁ hn₁
/-- what the second clause's source gives -/
def Src2 (h₀ : Heap) (L : Addr) (m : Str → Option Value) (s₁ : Shared) (all : List (Addr × Obj)) (r : List Int) (v : Value) (s₂ : Shared) : Prop :=
  ∃ l' vs' n' h' tk', v = .ref l' ∧ s₂ = { s₁ with heap := h', toks := tk' } ∧ Fr h₀ L h' m ∧ News h₀ L h' ((l', PySem.W.listOf vs'.toArray n') :: all) ∧ IntsAre vs' r ∧ LCg.Off1 l' all
end
section
variable {prog : Program} {w : World} {A : Around} {E : Value → Shared → Prop} {s : Shared} {h₀ : Heap} {L : Addr} {m : Str → Option Value} {env : Env}
/-- the two clauses over a made list of ints -/
theorem block_2 {i1 i2 : PySem.Expr} {x y : Str} {px py py2 : Pos} {scope : Scope} {cl : List (Str × Addr)} {pos : Pos} {s₂ : Shared} {I ax : Addr} {vs : List Value} {ns : List Int} {na : Nat} {news : List (Addr × Obj)}
    {RR : Value → Addr → Result → Shared → Prop} (g : Int → List Int) (hh : A.handled = none) (hi : IntsAre vs ns) (hax : (ax, PySem.W.listOf vs.toArray na) ∈ news)
    (hsz : (ns.flatMap g).length ≤ sizeLine) (hs2 : ∀ C x, foldedSetIterable i2 (compEnvC scope cl C env) x = pure x) (hdb : (y == ("__debug__" : Str)) = false)
    (hcell : ∀ y ∈ scope.names, y.2 ≠ .cell) (hkind : scope.kind = .function) (hx : scope.names.lookup x = some .local) (hy : scope.names.lookup y = some .local) (hst : s₂.heap.IsListIter I ax 0)
    (F : Fr h₀ L s₂.heap m) (N : News h₀ L s₂.heap news) (hIL : L ≠ I) (hI₀ : h₀.get? I = none) (off : ∀ p ∈ news, p.1 ≠ I)
    (turn : ∀ k t I oI C oC D m₂ ys h tk (E' : Value → Shared → Prop), k ∈ ns → LCg.NsObj oC m₂ → m₂ x = some (.int k t) → Fr h₀ L h m → News h₀ L h ((I, oI) :: (C, oC) :: (D, LCg.lst ys) :: news) → LCg.Off3 I C D news → ((@Ne Nat I C) ∧ (@Ne Nat I D) ∧ (@Ne Nat C D)) →
      wpAny (model prog w) A (eval i2 (compEnvC scope cl C env)) (Src2 h₀ L m { s₂ with heap := h, toks := tk } ((I, oI) :: (C, oC) :: (D, LCg.lst ys) :: news) (g k)) E' { s₂ with heap := h, toks := tk })
    (hRR : ∀ D C h tk m' ys, Fr h₀ L h m → News h₀ L h ((D, LCg.lst ys) :: news) → LCg.Off1 D news → h.Ns C m' → h₀.get? C = none → h₀.get? D = none → C ≠ L → D ≠ L → C ≠ D → (∀ p ∈ news, p.1 ≠ C) → IntsAre ys (ns.flatMap g) → RR (.ref D) C (.ok .next) { s₂ with heap := h, toks := tk }) :
    wpAny (model prog w) A (newList []) (fun acc s₃ => wpAny (model prog w) A (newFunctionEnv scope env.globals cl [] env.qual none .none (some env)) (fun cenv s₄ =>
      codeAny (model prog w) A (.compStart (.ListComp (.Name y py) [⟨.Name x px, i1, [], 0⟩, ⟨.Name y py2, i2, [], 0⟩] scope pos) 0 (.ref I) acc { cenv with scope := relabel scope env }) (RR acc cenv.locals) s₄) E s₃) E s₂ := by
  refine wpAny_newObj_type (wpAny_newFunctionEnv hcell (by intro y hy; simp at hy) (fun h₁ hns₁ hsb₁ => ?_) hkind)
  dsimp only at hns₁ hsb₁ ⊢
  generalize hH2 : s₂.heap.push { cls := .type "list", dict := none, data := .seq ([] : List Value).toArray } = H2 at hns₁ hsb₁ ⊢
  have hC : H2.objs.size = s₂.heap.objs.size + 1 := by rw [← hH2, Heap.size_push]
  have hDC : s₂.heap.objs.size ≠ H2.objs.size := by rw [hC]; exact Nat.ne_of_lt (Nat.lt_succ_self _)
  have below : ∀ b, b < s₂.heap.objs.size → b ≠ H2.objs.size ∧ b ≠ s₂.heap.objs.size := fun b hb => ⟨by rw [hC]; exact Nat.ne_of_lt (Nat.lt_succ_of_lt hb), Nat.ne_of_lt hb⟩
  have hIlt : I < s₂.heap.objs.size := by obtain ⟨_, e, _⟩ := hst; exact Heap.lt_size e
  have old : ∀ b o, s₂.heap.get? b = some o → h₁.get? b = some o := fun b o e => hsb₁.extBut b o (below b (Heap.lt_size e)).1 (Heap.get?_push_of_some _ (hH2 ▸ Heap.get?_push_of_some _ e))
  have hacc : h₁.get? s₂.heap.objs.size = some (LCg.lst []) := hsb₁.extBut _ _ hDC (Heap.get?_push_of_some _ (hH2 ▸ Heap.get?_push_size _ rfl))
  have fresh : ∀ a, s₂.heap.objs.size ≤ a → s₂.heap.get? a = none := fun a ha => by
    cases e : s₂.heap.get? a with
    | none => rfl
    | some o' => exact absurd (Heap.lt_size e) (Nat.not_lt.mpr ha)
  have fresh₀ : ∀ a, s₂.heap.objs.size ≤ a → h₀.get? a = none := fun a ha => by
    cases e : h₀.get? a with
    | none => rfl
    | some o' => have := F.keep a o' e; rw [fresh a ha] at this; cases this
  have hD₀ : h₀.get? s₂.heap.objs.size = none := fresh₀ _ (Nat.le_refl _)
  have hC₀ : h₀.get? H2.objs.size = none := fresh₀ _ (by rw [hC]; exact Nat.le_succ _)
  have hLlt : L < s₂.heap.objs.size := F.ns.lt
  have hDL : s₂.heap.objs.size ≠ L := Ne.symm (below L hLlt).2
  have hCL : H2.objs.size ≠ L := Ne.symm (below L hLlt).1
  have hCI : I ≠ H2.objs.size := (below I hIlt).1
  have hDI : I ≠ s₂.heap.objs.size := (below I hIlt).2
  have off₀ : LCg.Off3 I H2.objs.size s₂.heap.objs.size news := LCg.Off3.of fun p hp => ⟨off p hp, (below _ (Heap.lt_size (N p hp).1)).1, (below _ (Heap.lt_size (N p hp).1)).2⟩
  have off3 := off₀.mem
  have axI : ax ≠ I := off _ hax
  have W := Walks.list (prog := prog) (w := w) (A := A) hh I ax axI vs.toArray
  have hlen : vs.length = ns.length := hi.length
  have hsp : (cenvK : Env) → cenvK = compEnvC scope cl H2.objs.size env → (cenvK.scope.kind = .function) := by
    rintro _ rfl
    simp [compEnvC, relabel, hkind]
  have loop : ∀ s₃ : Shared, s₃ = { s₂ with heap := h₁, toks := s₂.toks + ([] : List (Str × Value)).length } →
      codeAny (model prog w) A (.compLoop (.ListComp (.Name y py) [⟨.Name x px, i1, [], 0⟩, ⟨.Name y py2, i2, [], 0⟩] scope pos) 0 (.ref I) (.ref s₂.heap.objs.size) (compEnvC scope cl H2.objs.size env))
        (RR (.ref s₂.heap.objs.size) H2.objs.size) s₃ := by
    rintro s₃ rfl
    refine codeAny_loop rfl (fun k s' => ∃ h' tk i ys m', s' = { s₂ with heap := h', toks := tk } ∧ i ≤ ns.length ∧ k = ns.length + 1 - i ∧ IntsAre ys ((ns.take i).flatMap g) ∧ h'.IsListIter I ax i ∧ Fr h₀ L h' m ∧ h'.Ns H2.objs.size m' ∧ News h₀ L h' ((s₂.heap.objs.size, LCg.lst ys) :: news))
      ?_ (ns.length + 1) ⟨h₁, _, 0, [], _, rfl, Nat.zero_le _, rfl, .nil, (let ⟨o, e, r⟩ := hst; ⟨o, old _ _ e, r⟩), F.keeps old, hns₁, fun p hp => ?_⟩
    · intro k s' h9_8
      refine ex5 h9_8 ?_
      clear h9_8
      intro h' tk i ys m' hc9_8
      refine an8 hc9_8 ?_
      clear hc9_8
      intro e9_8_0 hin e9_8_2 hys hst' F' hn' N'
      subst e9_8_0
      subst e9_8_2
      show wpAny _ A ((compTurn (.ListComp (.Name y py) [⟨.Name x px, i1, [], 0⟩, ⟨.Name y py2, i2, [], 0⟩] scope pos) 0 (.ref I) (.ref s₂.heap.objs.size) (compEnvC scope cl H2.objs.size env)).onRaise (fun x => do noteFrame x (compEnvC scope cl H2.objs.size env); theTreesLotGoes x)) _ _ _
      refine wpAny_noted ?_
      rw [compTurn_out]
      refine wpAny_bind (wpAny_standAt (wpAny_bind ?_))
      have hlist : h'.IsList ax vs.toArray := ⟨_, (N' _ (List.mem_cons_of_mem _ hax)).1, rfl, _, rfl⟩
      by_cases hlt : i < ns.length
      · refine W.item i _ _ _ (by simpa [hlen] using hlt) ⟨hst', hlist⟩ fun v h₂ tk₂ hPv hst₂ hk₂ => ?_
        obtain ⟨k, t, hv, hk⟩ := IntsAre.at hi i v (by simpa using hPv)
        subst hv
        refine wpAny_bind (wpAny_of_eq (a := ()) rfl ?_)
        refine wpAny_bind (wpAny_assign_Name (wpAny_storeName_local (lookup_relabel_local hx) (hn'.at' fun o e => hk₂ _ o (by simpa using Ne.symm hCI) e) (fun h₃ hn₃ hs₃ => ?_) (by simp [compEnvC, relabel, hkind])))
        obtain ⟨oI, heI, rI⟩ := hst₂.1
        have heI₃ : h₃.get? I = some oI := hs₃.extBut _ _ hCI heI
        obtain ⟨oC, heC, hoC⟩ := LCg.ns_obj hn₃
        have F₃ : Fr h₀ L h₃ m := (LCg.fr_but F' hk₂ hIL hI₀).change hs₃ hCL hC₀
        have N₂ : News h₀ L h₂ ((s₂.heap.objs.size, LCg.lst ys) :: news) := LCg.news_but N' hk₂ fun p hp => by
          rcases List.mem_cons.mp hp with rfl | hp
          · exact Ne.symm hDI
          · exact (off3 p hp).1
        have N₃ : News h₀ L h₃ ((I, oI) :: (H2.objs.size, oC) :: (s₂.heap.objs.size, LCg.lst ys) :: news) := fun p hp => by
          rcases List.mem_cons.mp hp with rfl | hp
          · exact ⟨heI₃, Ne.symm hIL, hI₀⟩
          · rcases List.mem_cons.mp hp with rfl | hp
            · exact ⟨heC, hCL, hC₀⟩
            · have z := N₂ p hp
              refine ⟨hs₃.extBut _ _ ?_ z.1, z.2⟩
              rcases List.mem_cons.mp hp with rfl | hp
              · exact hDC
              · exact (off3 p hp).2.1
        refine wpAny_bind (wpAny_mono (turn k t I oI H2.objs.size oC s₂.heap.objs.size _ ys h₃ _ _ (List.mem_of_getElem? hk) hoC (by simp) F₃ N₃ off₀ ⟨hCI, hDI, Ne.symm hDC⟩) (fun yv s₄ h₄ => ?_) fun _ _ e => e)
        refine ex5 h₄ ?_
        clear h₄
        intro l' vs' n' h₄ tk₄ hc9_9
        refine an6 hc9_9 ?_
        clear hc9_9
        intro e9_9_0 e9_9_1 F₄ N₄ i₄ o₄
        subst e9_9_0
        subst e9_9_1
        have o4 := o₄
        have hlI : (@Ne Nat I l') := o4.1
        have hlC : (@Ne Nat H2.objs.size l') := o4.2.1
        have hlD : (@Ne Nat s₂.heap.objs.size l') := o4.2.2.1
        have hl4 : h₄.IsList l' vs'.toArray := ⟨_, (N₄ _ List.mem_cons_self).1, rfl, _, rfl⟩
        have zI := (N₄ (I, oI) (by simp)).1
        have zC := (N₄ (H2.objs.size, oC) (by simp)).1
        have offl : ∀ p ∈ news, p.1 ≠ l' := fun p hp => by
          have : ∀ {l : List (Addr × Obj)}, LCg.Off1 l' l → ∀ q ∈ l, q.1 ≠ l' := fun {l} => by
            induction l with
            | nil => intro _ q hq; nomatch hq
            | cons q r ih =>
              intro h x hx
              rcases List.mem_cons.mp hx with rfl | hx
              · exact h.1
              · exact ih h.2 x hx
          exact this o4.2.2.2 p hp
        refine wpAny_bind (wpAny_standAt (wpAny_bind (wpAny_of_eq (hs2 _ _) (wpAny_bind (wpAny_holding (wpAny_pyIter_list hl4 ?_))))))
        have up : ∀ b o, h₄.get? b = some o → (h₄.push { cls := .type "list_iterator", data := .fields #[.ref l', .int 0 0] }).get? b = some o := fun b o e => Heap.get?_push_of_some _ e
        have N₅ : News h₀ L (h₄.push { cls := .type "list_iterator", data := .fields #[.ref l', .int 0 0] }) ((s₂.heap.objs.size, LCg.lst ys) :: (l', PySem.W.listOf vs'.toArray n') :: (I, oI) :: news) := fun p hp => by
          refine ⟨up _ _ (N₄ p ?_).1, (N₄ p ?_).2⟩ <;> (simp only [List.mem_cons] at hp ⊢; rcases hp with h | h | h | h <;> simp [h])
        have lt4 : ∀ {b o}, h₄.get? b = some o → b ≠ h₄.objs.size := fun e => Nat.ne_of_lt (Heap.lt_size e)
        have hyl : ys.length = ((ns.take i).flatMap g).length := hys.length
        have hvl : vs'.length = (g k).length := i₄.length
        have hnx : (ns.take (i + 1)).flatMap g = (ns.take i).flatMap g ++ g k := by rw [List.take_add_one, hk]; simp
        have hzz : ys.length + vs'.length ≤ sizeLine := by
          have e1 : ((ns.take (i + 1)).flatMap g).length ≤ (ns.flatMap g).length := by
            conv => rhs; rw [← List.take_append_drop (i + 1) ns, List.flatMap_append, List.length_append]
            exact Nat.le_add_right _ _
          rw [hnx, List.length_append] at e1
          omega
        have inner : codeAny (model prog w) A (.compLoop (.ListComp (.Name y py) [⟨.Name x px, i1, [], 0⟩, ⟨.Name y py2, i2, [], 0⟩] scope pos) 1 (.ref h₄.objs.size) (.ref s₂.heap.objs.size) (compEnvC scope cl H2.objs.size env))
            (fun r s' => match r with
              | .ok f => wpAny (model prog w) A (again (.compLoop (.ListComp (.Name y py) [⟨.Name x px, i1, [], 0⟩, ⟨.Name y py2, i2, [], 0⟩] scope pos) 0 (.ref I) (.ref s₂.heap.objs.size) (compEnvC scope cl H2.objs.size env)))
                (fun fin s' => match fin with | .done f => RR (.ref s₂.heap.objs.size) H2.objs.size (.ok f) s' | .again c' => c' = .compLoop (.ListComp (.Name y py) [⟨.Name x px, i1, [], 0⟩, ⟨.Name y py2, i2, [], 0⟩] scope pos) 0 (.ref I) (.ref s₂.heap.objs.size) (compEnvC scope cl H2.objs.size env) ∧ ∃ m_1, m_1 < ns.length + 1 - i ∧ ∃ h' tk i ys m', s' = { s₂ with heap := h', toks := tk } ∧ i ≤ ns.length ∧ m_1 = ns.length + 1 - i ∧ IntsAre ys ((ns.take i).flatMap g) ∧ h'.IsListIter I ax i ∧ Fr h₀ L h' m ∧ h'.Ns H2.objs.size m' ∧ News h₀ L h' ((s₂.heap.objs.size, LCg.lst ys) :: news))
                (notedBy (model prog w) A (compEnvC scope cl H2.objs.size env) fun e s' => RR (.ref s₂.heap.objs.size) H2.objs.size (.error e) s') s'
              | .error e => cameBackBy (model prog w) A (compEnvC scope cl H2.objs.size env) (notedBy (model prog w) A (compEnvC scope cl H2.objs.size env) fun e s' => RR (.ref s₂.heap.objs.size) H2.objs.size (.error e) s') e s')
            { s₂ with heap := h₄.push { cls := .type "list_iterator", data := .fields #[.ref l', .int 0 0] }, toks := tk₄ } := by
          refine inner_loop (l' := l') (vs := vs') (ys := ys) (n' := n') (rest := (l', PySem.W.listOf vs'.toArray n') :: (I, oI) :: news) hh (hsp _ rfl) (lookup_relabel_local hy) hdb (F₄.keeps up) N₅ List.mem_cons_self
            ⟨_, Heap.get?_push_size _ rfl, rfl, rfl⟩ ((hoC.ns zC).at' fun o e => up _ _ e) hC₀ hCL (Ne.symm hDC) (fun p hp => ?_) (fun p hp => ?_) (next_is_new F₄) (Nat.ne_of_lt F₄.ns.lt) (lt4 (N₄ (s₂.heap.objs.size, LCg.lst ys) (by simp)).1) (lt4 zC) (fun p hp => ?_) hzz (fun h₆ tk₆ m₆ F₆ N₆ hn₆ => ?_)
          · rcases List.mem_cons.mp hp with rfl | hp
            · exact Ne.symm hlC
            · rcases List.mem_cons.mp hp with rfl | hp
              · exact hCI
              · exact (off3 p hp).2.1
          · rcases List.mem_cons.mp hp with rfl | hp
            · exact Ne.symm hlD
            · rcases List.mem_cons.mp hp with rfl | hp
              · exact hDI
              · exact (off3 p hp).2.2
          · refine lt4 (N₄ p ?_).1
            simp only [List.mem_cons] at hp ⊢
            rcases hp with h | h | h <;> simp [h]
          · refine wpAny_pure ⟨rfl, ns.length + 1 - (i + 1), by omega, h₆, tk₆, i + 1, ys ++ vs', m₆, rfl, hlt, rfl, ?_, ?_, F₆, hn₆, fun p hp => N₆ p ?_⟩
            · rw [hnx]
              exact IntsAre.append hys i₄
            · exact ⟨oI, (N₆ (I, oI) (by simp)).1, rI⟩
            · simp only [List.mem_cons] at hp ⊢
              rcases hp with h | h <;> simp [h]
        refine wpAny_bind (wpAny_runOwn ?_)
        rw [Around.mark_none]
        exact compStart_in inner (wpAny_pyIter_listiter ⟨_, Heap.get?_push_size _ rfl, rfl, rfl⟩ inner)
      · obtain rfl : i = ns.length := Nat.le_antisymm hin (Nat.not_lt.mp hlt)
        refine W.done _ _ _ (by simpa [hlen] using ⟨hst', hlist⟩) fun h₂ tk₂ hk₂ => wpAny_pure ?_
        rw [List.take_length] at hys
        exact hRR _ _ h₂ tk₂ _ ys (LCg.fr_but F' hk₂ hIL hI₀) (LCg.news_but N' hk₂ fun p hp => by
          rcases List.mem_cons.mp hp with rfl | hp
          · exact Ne.symm hDI
          · exact (off3 p hp).1) off₀.one (hn'.at' fun o e => hk₂ _ o (by simpa using Ne.symm hCI) e) hC₀ hD₀ hCL hDL (Ne.symm hDC) (fun p hp => (off3 p hp).2.1) hys
    · rcases List.mem_cons.mp hp with rfl | hp
      · exact ⟨hacc, hDL, hD₀⟩
      · exact ⟨old _ _ (N p hp).1, (N p hp).2⟩
  exact codeAny_compStart_list (loop _ rfl) (wpAny_pyIter_listiter (let ⟨o, e, r⟩ := hst; ⟨o, old _ _ e, r⟩) (loop _ rfl))
/-- what the first clause's source gives, and what is asked of a turn and of the end -/
def CompSrc2 (prog : Program) (w : World) (A : Around) (h₀ : Heap) (L : Addr) (m : Str → Option Value) (env : Env) (i2 : PySem.Expr) (x z : Str) (scope : Scope) (cl : List (Str × Addr)) (Q : Flow → Shared → Prop) (xv : Value) (s₁ : Shared) : Prop :=
  ∃ (ax : Addr) (vs : List Value) (ns : List Int) (na : Nat) (news : List (Addr × Obj)) (g : Int → List Int), xv = .ref ax ∧ A.handled = none ∧ Fr h₀ L s₁.heap m ∧ News h₀ L s₁.heap news ∧ (ax, PySem.W.listOf vs.toArray na) ∈ news ∧ IntsAre vs ns ∧ (ns.flatMap g).length ≤ sizeLine ∧
    (∀ k t I oI C oC D m₂ ys h tk (E' : Value → Shared → Prop), k ∈ ns → LCg.NsObj oC m₂ → m₂ x = some (.int k t) → Fr h₀ L h m → News h₀ L h ((I, oI) :: (C, oC) :: (D, LCg.lst ys) :: news) → LCg.Off3 I C D news → ((@Ne Nat I C) ∧ (@Ne Nat I D) ∧ (@Ne Nat C D)) →
      wpAny (model prog w) A (eval i2 (compEnvC scope cl C env)) (Src2 h₀ L m { s₁ with heap := h, toks := tk } ((I, oI) :: (C, oC) :: (D, LCg.lst ys) :: news) (g k)) E' { s₁ with heap := h, toks := tk }) ∧
    (∀ ys D h tk, IntsAre ys (ns.flatMap g) → Fr h₀ L h (fun q => if q = z then some (.ref D) else m q) → News h₀ L h ((D, LCg.lst ys) :: news) → LCg.Off1 D news → Q .next { s₁ with heap := h, toks := tk })
theorem Assign_ListComp_2 {i1 i2 : PySem.Expr} {x y z : Str} {px py py2 pz : Pos} {scope : Scope} {cl : List (Str × Addr)} {pos spos : Pos} {Q : Flow → Shared → Prop} (F₀ : Fr h₀ L s.heap m) (hLe : env.locals = L)
    (hsw : swapsWith (.ListComp (.Name y py) [⟨.Name x px, i1, [], 0⟩, ⟨.Name y py2, i2, [], 0⟩] scope pos) (some (.Name z pz)) spos.line env = pure true)
    (hclos : closureFor scope env = pure cl) (hcell : ∀ q ∈ scope.names, q.2 ≠ .cell) (hkind : scope.kind = .function)
    (hnames : ∀ q ∈ scope.names, q.2 = .local → scope.names.lookup q.1 = some .local) (hx : scope.names.lookup x = some .local) (hy : scope.names.lookup y = some .local)
    (hz : env.kindOf z = some .local) (hp : (env.scope.kind == .class || (env.scope.kind == .module && env.locals != env.globals)) = false) (hdb : (y == ("__debug__" : Str)) = false)
    (hs2 : ∀ C x, foldedSetIterable i2 (compEnvC scope cl C env) x = pure x)
    (h : wpAny (model prog w) A (eval i1 env) (CompSrc2 prog w A h₀ L m env i2 x z scope cl Q) E s)
    (hs : ∀ x, foldedSetIterable i1 env x = pure x := by intro _; rfl) :
    wpAny (model prog w) A (exec (.Assign [.Name z pz] (.ListComp (.Name y py) [⟨.Name x px, i1, [], 0⟩, ⟨.Name y py2, i2, [], 0⟩] scope pos) spos) env) Q E s := by
  subst hLe
  rw [exec_Assign_Name_used _ _ _ _ hsw]
  refine wpAny_bind (wpAny_standAt (wpAny_bind ?_))
  show wpAny _ A (do let _ ← comprehension (.ListComp (.Name y py) [⟨.Name x px, i1, [], 0⟩, ⟨.Name y py2, i2, [], 0⟩] scope pos) scope env _ (newList []) false (eval i1 env) (some (assign (.Name z pz) env))) _ _ s
  refine wpAny_bind (wpAny_mono (wpAny_comprehension_free (use := some (assign (.Name z pz) env)) (Q := fun _ s' => Q .next s') rfl hs hclos hkind hnames
    (wpAny_mono h (fun xv s₁ h₁ => ?_) fun _ _ e => e)) (fun _ s' hq => wpAny_pure (wpAny_pure hq)) fun _ _ e => e)
  refine ex6 h₁ ?_
  clear h₁
  intro ax vs ns na news g hc9_10
  refine an9 hc9_10 ?_
  clear hc9_10
  intro e9_10_0 hh F N hax hi hsz turn fin
  subst e9_10_0
  have hl : s₁.heap.IsList ax vs.toArray := ⟨_, (N _ hax).1, rfl, _, rfl⟩
  refine wpAny_pyIter_list hl ?_
  have up : ∀ b o, s₁.heap.get? b = some o → (s₁.heap.push { cls := .type "list_iterator", data := .fields #[.ref ax, .int 0 0] }).get? b = some o := fun b o e => Heap.get?_push_of_some _ e
  refine block_2 g hh hi hax hsz hs2 hdb hcell hkind hx hy ⟨_, Heap.get?_push_size _ rfl, rfl, rfl⟩ (F.keeps up) (N.grown up) (Nat.ne_of_lt F.ns.lt) (next_is_new F) (fun p hp => Nat.ne_of_lt (Heap.lt_size (N p hp).1)) (fun k t I oI C oC D m₂ ys h tk E' hk hC hm F' N' o ne => turn k t I oI C oC D m₂ ys h tk E' hk hC hm F' N' o ne) ?_
  intro D C h' tk m' ys F' N' o1 hn hC₀ hD₀ hCL hDL hCD offC hys
  show wpAny _ A (assign (.Name z pz) env (.ref D)) _ _ _
  refine wpAny_assign_Name (wpAny_storeName_local hz F'.ns (fun h₂ hn₂ hs₂ => ?_) hp)
  have hL₀ : h₀.get? env.locals = none := Heap.get?_none_of_le F'.above
  have F₂ : Fr h₀ env.locals h₂ (fun q => if q = z then some (.ref D) else m q) := ⟨hn₂, fun b o e => hs₂.extBut b o (fun q => by rw [q, hL₀] at e; cases e) (F'.keep b o e), F'.above⟩
  refine ⟨m', hn.sameBut hs₂ hCL, fun h'' hs'' => fin ys D h'' _ hys (F₂.change hs'' hCL hC₀) (fun p hp => ?_) o1⟩
  have z : h₂.get? p.1 = some p.2 := hs₂.extBut _ _ (N' p hp).2.1 (N' p hp).1
  refine ⟨hs''.extBut _ _ ?_ z, (N' p hp).2⟩
  rcases List.mem_cons.mp hp with rfl | hp
  · exact Ne.symm hCD
  · exact offC p hp
end
end Mine
end

section
namespace Mine
theorem resetFT : True := by (k_with_none; w_top off); trivial
open PySem.W.X PyProof.V
section
variable {prog : Program} {w : World} {A : Around} {E : Value → Shared → Prop} {s : Shared} {env : Env} {x : Str} {body : List Stmt} {Q : Flow → Shared → Prop}
/-- the end of a turn beneath which the ground may turn -/
def TEnd (L : Addr) (J : Heap → (Str → Option Value) → List (Addr × Obj) → Prop) (I : Addr) (oI : Obj) (s₁ s₂ : Shared) : Prop :=
  ∃ g' h' tk m' nx' news', s₂ = { s₁ with heap := h', toks := tk } ∧ Fr g' L h' m' ∧ News g' L h' news' ∧ (∀ p ∈ nx', p ∈ news') ∧ (I, oI) ∈ news' ∧ (∀ p ∈ nx', p.1 ≠ I) ∧ J g' m' nx'
def TPost (L : Addr) (J : Heap → (Str → Option Value) → List (Addr × Obj) → Prop) (I : Addr) (oI : Obj) (s₁ : Shared) (Q : Flow → Shared → Prop) (f : Flow) (s₂ : Shared) : Prop :=
  match f with
  | .ret v => Q (.ret v) s₂
  | .brk => Q .next s₂
  | _ => TEnd L J I oI s₁ s₂
/-- a loop over a range, the ground turning -/
def LoopT (prog : Program) (w : World) (A : Around) (env : Env) (x : Str) (body : List Stmt) (Q : Flow → Shared → Prop) (E : Value → Shared → Prop) (xv : Value) (s : Shared) : Prop :=
  ∃ (r : Addr) (n : Nat) (b₀ : Int) (t u v : Tok) (g₀ : Heap) (m₀ : Str → Option Value) (news₀ : List (Addr × Obj)) (J : Nat → Heap → (Str → Option Value) → List (Addr × Obj) → Prop),
    xv = .ref r ∧ A.handled = none ∧ IsRange s.heap r 0 b₀ 1 t u v ∧ Builtin.Range.small 0 b₀ 1 = true ∧ Builtin.Range.rangeSize 0 b₀ 1 = (n : Int) ∧ Fr g₀ env.locals s.heap m₀ ∧ News g₀ env.locals s.heap news₀ ∧ J 0 g₀ m₀ news₀ ∧
    (∀ i t g m₁ nx h tk I oI, i < n → J i g m₁ nx → (∀ p ∈ nx, p.1 ≠ I) → Fr g env.locals h (fun y => if y = x then some (.int (i : Int) t) else m₁ y) → News g env.locals h (nx ++ [(I, oI)]) →
      wpAny (model prog w) A (execs body env) (TPost env.locals (J (i + 1)) I oI { s with heap := h, toks := tk } Q) E { s with heap := h, toks := tk }) ∧
    (∀ g m₁ nx h tk, J n g m₁ nx → Fr g env.locals h m₁ → News g env.locals h nx → Q .next { s with heap := h, toks := tk })
theorem For_T {px pos : Pos} {iter : PySem.Expr} (hx : env.kindOf x = some .local)
    (hp : (env.scope.kind == .class || (env.scope.kind == .module && env.locals != env.globals)) = false)
    (h : wpAny (model prog w) A (eval iter env) (LoopT prog w A env x body Q E) E s)
    (hs : ∀ x, foldedSetIterable iter env x = pure x := by intro _; rfl)
    (hE : PassesOwn (model prog w) A env E := by passes_own) :
    wpAny (model prog w) A (exec (.For (.Name x px) iter body [] pos) env) Q E s := by
  refine wpAny_For (wpAny_mono h (fun xv s₁ h₁ => ?_) fun _ _ e => e) hs
  refine ex10 h₁ ?_
  clear h₁
  intro r n b₀ t u v g₀ m₀ news₀ J hc9_1
  refine an10 hc9_1 ?_
  clear hc9_1
  intro e9_1_0 hh hr hsm hn F N h0 step hQ
  subst e9_1_0
  refine wpAny_pyIter_range hr hsm ?_
  let I := s₁.heap.objs.size
  have W : Walks prog w A I [I] [I] n (fun i v => i < n ∧ ∃ t, v = .int (0 + (i : Int) * 1) t) (fun i h => IsRangeIter h I (0 + (i : Nat) * 1) ((n : Int) - (i : Nat)) 1) := (Walks.range hh _ 0 1 n).bound
  let S₂ : Shared := { s₁ with heap := s₁.heap.push { cls := .type "range_iterator", data := .fields #[rawInt 0, rawInt (Builtin.Range.rangeSize 0 b₀ 1), rawInt 1] } }
  refine codeAny_forLoop
    (fun k s' => ∃ g h' tk m' news' i, s' = { s₁ with heap := h', toks := tk } ∧ IsRangeIter h' I (0 + (i : Nat) * 1) ((n : Int) - (i : Nat)) 1 ∧ Fr g env.locals h' m' ∧ News g env.locals h' news' ∧ g.get? I = none ∧ env.locals ≠ I ∧ (∀ p ∈ news', p.1 ≠ I) ∧ J i g m' news' ∧ i ≤ n ∧ k = n + 1 - i) ?_ (n + 1)
    ⟨g₀, _, _, m₀, news₀, 0, rfl, (by show IsRangeIter _ _ _ _ _; rw [hn]; simpa using Heap.get?_push_size _ rfl), F.push _, (fun p hp => ⟨Heap.get?_push_of_some _ (N p hp).1, (N p hp).2⟩), next_is_new F, Nat.ne_of_lt F.ns.lt, (fun p hp => Nat.ne_of_lt (Heap.lt_size (N p hp).1)), h0, Nat.zero_le _, rfl⟩
  intro k s' h9_2
  refine ex6 h9_2 ?_
  clear h9_2
  intro g h' tk m' news' i hc9_2
  refine an10 hc9_2 ?_
  clear hc9_2
  intro e9_2_0 hst' F' N' gI LI nI hJ hi e9_2_9
  subst e9_2_0
  subst e9_2_9
  have next : ∀ h₁ : Heap, (∀ b o, b ∉ [I] → h'.get? b = some o → h₁.get? b = some o) → Fr g env.locals h₁ m' ∧ News g env.locals h₁ news' := fun h₁ hk₁ =>
    ⟨⟨F'.ns.at' fun o e => hk₁ _ o (fun z => LI (List.mem_singleton.mp z)) e, fun b o e => hk₁ b o (fun z => by rw [List.mem_singleton.mp z, gI] at e; cases e) (F'.keep b o e), F'.above⟩, fun p hp => ⟨hk₁ _ _ (fun z => nI p hp (List.mem_singleton.mp z)) (N' p hp).1, (N' p hp).2⟩⟩
  by_cases hlt : i < n
  · refine W.item i _ _ _ hlt hst' fun v h₁ tk₁ hP hst₁ hk₁ => ?_
    obtain ⟨_, t, rfl⟩ := hP
    obtain ⟨F₁, N₁⟩ := next h₁ hk₁
    refine wpAny_assign_Name (wpAny_storeName_local hx F₁.ns (fun h₂ hn₂ hs₂ => ?_) hp)
    have F₂ := F₁.set hn₂ hs₂
    let oI : Obj := { cls := .type "range_iterator", dict := none, data := .fields #[rawInt (0 + ((i + 1 : Nat) : Int) * 1), rawInt ((n : Int) - ((i + 1 : Nat) : Int)), rawInt 1], slots := #[] }
    have hst₂ : h₂.get? I = some oI := W.frame _ _ _ hst₁ fun b hb o e => (hs₂.2 b fun q => LI (q ▸ List.mem_singleton.mp hb)).trans e
    have e1 : (0 : Int) + (i : Int) * 1 = (i : Int) := by omega
    rw [e1] at F₂
    have N₂ : News g env.locals h₂ (news' ++ [(I, oI)]) := (N₁.set hs₂).append (fun p hp => by
      rw [List.mem_singleton.mp hp]
      exact ⟨hst₂, Ne.symm LI, gI⟩)
    refine wpAny_passesOwn hE (wpAny_mono (step i t g m' news' h₂ _ I oI hlt hJ nI F₂ N₂) (fun f s₃ h₃ => ?_) fun _ _ e => e)
    have fin : TEnd env.locals (J (i + 1)) I oI { s₁ with heap := h₂, toks := tk₁ } s₃ → ∃ k', k' < n + 1 - i ∧ ∃ g h' tk m' news' i, s₃ = { s₁ with heap := h', toks := tk } ∧ IsRangeIter h' I (0 + (i : Nat) * 1) ((n : Int) - (i : Nat)) 1 ∧ Fr g env.locals h' m' ∧ News g env.locals h' news' ∧ g.get? I = none ∧ env.locals ≠ I ∧ (∀ p ∈ news', p.1 ≠ I) ∧ J i g m' news' ∧ i ≤ n ∧ k' = n + 1 - i := by
      intro h9_3
      refine ex6 h9_3 ?_
      clear h9_3
      intro g₃ H₃ tk₃ m₃ nx₃ all₃ hc9_3
      refine an7 hc9_3 ?_
      clear hc9_3
      intro e9_3_0 F₃ N₃ sub memI off hJ₃
      subst e9_3_0
      exact ⟨n + 1 - (i + 1), by omega, g₃, H₃, tk₃, m₃, nx₃, i + 1, rfl, (N₃ _ memI).1, F₃, (fun p hp => N₃ p (sub p hp)), (N₃ _ memI).2.2, LI, off, hJ₃, hlt, rfl⟩
    cases f with
    | ret v => exact h₃
    | brk => exact h₃
    | cont => exact fin h₃
    | next => exact fin h₃
  · have hin : i = n := by omega
    subst hin
    refine W.done _ _ _ hst' fun h₁ tk₁ hk₁ => wpAny_execs_nil ?_
    obtain ⟨F₁, N₁⟩ := next h₁ hk₁
    exact hQ g m' news' h₁ tk₁ hJ F₁ N₁
/-- what holds of a ground that turns -/
structure Grd (w : World) (p : Program) (loose : List Str) (mean : ExcName → Option Value) (mg mb : Str → Option Value) (fs : List Addr) (A₀ : Around) (base : Heap) (outer : List Env) (G₀ g : Heap) : Prop where
  T : KtsTurn fs G₀ g
  B : Below A₀ base outer g
  X : (hd0.heap_1 w.params).In g
  P : Top p loose mean mg mb g
  D : KtsDicts fs g
/-- the end of a turn, the state told -/
def KEnd {σ : Type} (G : Heap → Prop) (L : Addr) (small : σ → List (Addr × Obj)) (ps : σ → List (Str × Value)) (x : Str) (stored : List Str) (m₀ : Str → Option Value) (P : Nat → σ → Prop) (j : Nat) (I : Addr) (oI : Obj) (s₁ s₂ : Shared) : Prop :=
  ∃ c g' h' tk m' news', s₂ = { s₁ with heap := h', toks := tk } ∧ Fr g' L h' m' ∧ News g' L h' news' ∧ (∀ p ∈ small c, p ∈ news') ∧ (I, oI) ∈ news' ∧ (∀ p ∈ small c, p.1 ≠ I) ∧
    (∀ p ∈ ps c, m' p.1 = some p.2) ∧ (∀ z, z ≠ x → (∀ p ∈ ps c, z ≠ p.1) → stored.contains z = false → m' z = m₀ z) ∧ P (j + 1) c ∧ G g'
def KPost {σ : Type} (G : Heap → Prop) (L : Addr) (small : σ → List (Addr × Obj)) (ps : σ → List (Str × Value)) (x : Str) (stored : List Str) (m₀ : Str → Option Value) (P : Nat → σ → Prop) (j : Nat) (I : Addr) (oI : Obj) (s₁ : Shared) (Q : Flow → Shared → Prop) (f : Flow) (s₂ : Shared) : Prop :=
  match f with
  | .ret v => Q (.ret v) s₂
  | .brk => Q .next s₂
  | _ => KEnd G L small ps x stored m₀ P j I oI s₁ s₂
theorem LoopK {σ : Type} {r : Addr} {n : Nat} {b₀ : Int} {t₀ u₀ v₀ : Tok} {g₀ : Heap} {m₀ : Str → Option Value} {G : Heap → Prop} (small : σ → List (Addr × Obj)) (ps : σ → List (Str × Value)) (stored : List Str) (P : Nat → σ → Prop) (c₀ : σ)
    (hh : A.handled = none) (hr : IsRange s.heap r 0 b₀ 1 t₀ u₀ v₀) (hsmall : Builtin.Range.small 0 b₀ 1 = true) (hn : Builtin.Range.rangeSize 0 b₀ 1 = (n : Int)) (F : Fr g₀ env.locals s.heap m₀) (N : News g₀ env.locals s.heap (small c₀)) (hk : ∀ p ∈ ps c₀, m₀ p.1 = some p.2) (hp : P 0 c₀) (hG : G g₀)
    (turn : ∀ (j : Nat) (c : σ) t (u : Str → Option Value) g h tk I oI, j < n → P j c → G g → (∀ p ∈ small c, p.1 ≠ I) →
      Fr g env.locals h (fun y => if y = x then some (.int (j : Int) t) else kstB (fun z => if stored.contains z then u z else m₀ z) (ps c) y) → News g env.locals h (small c ++ [(I, oI)]) →
      wpAny (model prog w) A (execs body env) (KPost G env.locals small ps x stored m₀ P j I oI { s with heap := h, toks := tk } Q) E { s with heap := h, toks := tk })
    (done : ∀ (c : σ) (u : Str → Option Value) g h tk, P n c → G g → Fr g env.locals h (fun y => if y = x then u y else kstB (fun z => if stored.contains z then u z else m₀ z) (ps c) y) → News g env.locals h (small c) → Q .next { s with heap := h, toks := tk }) :
    LoopT prog w A env x body Q E (.ref r) s := by
  refine ⟨r, n, b₀, t₀, u₀, v₀, g₀, m₀, small c₀, fun j g m nx => ∃ c, nx = small c ∧ (∀ p ∈ ps c, m p.1 = some p.2) ∧ (∀ z, z ≠ x → (∀ p ∈ ps c, z ≠ p.1) → stored.contains z = false → m z = m₀ z) ∧ P j c ∧ G g, rfl, hh, hr, hsmall, hn, F, N, ⟨c₀, rfl, hk, fun _ _ _ _ => rfl, hp, hG⟩, ?_, ?_⟩
  · intro j t g m₁ nx h tk I oI hj h9_4 off F' N'
    obtain ⟨c, hc9_4⟩ := h9_4
    refine an5 hc9_4 ?_
    clear hc9_4
    intro e9_4_0 h1 h2 hP hg
    subst e9_4_0
    refine wpAny_mono (turn j c t m₁ g h tk I oI hj hP hg off (kst_fr h1 h2 F') N') (fun f s₂ q => ?_) fun _ _ e => e
    have fin : KEnd G env.locals small ps x stored m₀ P j I oI { s with heap := h, toks := tk } s₂ → TEnd env.locals (fun g m nx => ∃ c, nx = small c ∧ (∀ p ∈ ps c, m p.1 = some p.2) ∧ (∀ z, z ≠ x → (∀ p ∈ ps c, z ≠ p.1) → stored.contains z = false → m z = m₀ z) ∧ P (j + 1) c ∧ G g) I oI { s with heap := h, toks := tk } s₂ := by
      intro h9_5
      refine ex6 h9_5 ?_
      clear h9_5
      intro c' g' H' tk' m' news' hc9_5
      refine an10 hc9_5 ?_
      clear hc9_5
      intro e F'' N'' sub hI off' k1 k2 kP kG
      exact ⟨g', H', tk', m', small c', news', e, F'', N'', sub, hI, off', c', rfl, k1, k2, kP, kG⟩
    cases f with
    | ret v => exact q
    | brk => exact q
    | next => exact fin q
    | cont => exact fin q
  · intro g m nx h tk h9_6 F' N'
    obtain ⟨c, hc9_6⟩ := h9_6
    refine an5 hc9_6 ?_
    clear hc9_6
    intro e9_6_0 h1 h2 hP hg
    subst e9_6_0
    exact done c m g h tk hP hg (kst_frOut h1 h2 F') N'
end
end Mine
end

section
namespace Mine
theorem resetRB : True := by (k_with_none; w_top off); trivial
open PySem.W.X
/-- octets -/
abbrev Octs (xs : List Int) : Prop := ∀ x ∈ xs, 0 ≤ x ∧ x < 256
section
variable {prog : Program} {w : World} {A : Around} {E : Value → Shared → Prop} {s : Shared} {h₀ : Heap} {L : Addr} {m : Str → Option Value} {news : List (Addr × Obj)} {Q : Value → Shared → Prop}
/-- the octets that are read: some of the given ones, some more -/
theorem add_octs {l b : Addr} {vs ws : List Value} {os : List Int} {n k nl nb : Nat} (F : Fr h₀ L s.heap m) (N : News h₀ L s.heap news) (hl : (l, PySem.W.listOf vs.toArray nl) ∈ news) (hb : (b, PySem.W.listOf ws.toArray nb) ∈ news)
    (hi : IntsAre vs (os.take n)) (hj : IntsAre ws ([0, 5, 0].take k)) (ho : Octs os) (hol : os.length ≤ 18)
    (h : ∀ (D : Addr) (ys : List Value) (xs : List Int) (h' : Heap), IntsAre ys xs → Octs xs → xs.length ≤ 21 → LCg.Off1 D news → Fr h₀ L h' m → News h₀ L h' ((D, PySem.W.listOf ys.toArray 0) :: news) → Q (.ref D) { s with heap := h' }) :
    wpAny (model prog w) A (binaryOp .Add (.ref l) (.ref b)) Q E s := by
  have l1 : (os.take n).length ≤ 18 := by rw [List.length_take]; omega
  have l2 : (([0, 5, 0] : List Int).take k).length ≤ 3 := by rw [List.length_take]; exact Nat.min_le_right _ _
  refine add_arrays_ints F N ⟨_, (N _ hl).1, rfl, _, rfl⟩ ⟨_, (N _ hb).1, rfl, _, rfl⟩ (by simpa using hi) (by simpa using hj) (fun h' F' N' i' => ?_) (by rw [sizeLine_eq]; omega)
  refine h _ _ _ h' i' ?_ ?_ (off1_of fun q hq e => ?_) F' N'
  · intro x hx
    rcases List.mem_append.mp hx with hx | hx
    · exact ho x (List.mem_of_mem_take hx)
    · have := List.mem_of_mem_take hx
      simp only [List.mem_cons, List.not_mem_nil, or_false] at this
      omega
  · rw [List.length_append]
    omega
  · exact absurd (Heap.lt_size (N q hq).1) (e ▸ Nat.lt_irrefl _)
/-- a slice of made ints, its state told part by part -/
theorem slice_my {value slice : PySem.Expr} {l : Addr} {hp : Heap} {tk nl : Nat} {vl vu : Value} {lo hi : Option Int} {vs : List Value} {ns ms : List Int} (F : Fr h₀ L hp m) (N : News h₀ L hp news) (hm : (l, PySem.W.listOf vs.toArray nl) ∈ news) (hi' : IntsAre vs ns) (hlen : ns.length ≤ 400) (pl : IsPart vl lo) (pu : IsPart vu hi) (hk : IntsAre (slicePick vs.toArray lo hi none).toList ms)
    (h : ∀ D ws h', IntsAre ws ms → LCg.Off1 D news → Fr h₀ L h' m → News h₀ L h' ((D, PySem.W.listOf (List.toArray ws) 0) :: news) → Q (.ref D) { s with heap := h', toks := tk })
    (hs : subscripted slice false (.ref l) (.ref hp.objs.size) = operate [.ref hp.objs.size, .ref l] (getItem (.ref l) (.ref hp.objs.size)) := by with_unfolding_all rfl) (ht : ∀ r, letTemporaryGo value (.ref l) r = pure () := by intro _; with_unfolding_all rfl) :
    wpAny (model prog w) A (subscriptTail value slice (.ref l) (.ref hp.objs.size)) Q E { s with heap := hp.push { cls := .type "slice", data := .fields #[vl, vu, .none] }, toks := tk } :=
  kmk_slice_ints (s := { s with heap := hp, toks := tk }) F N ⟨_, (N _ hm).1, rfl, _, rfl⟩ pl pu hi' hk rfl (fun D ws h' F' N' l1 i' _ _ => h D ws h' i' (off1_of fun q hq e => absurd (l1 q hq) (e ▸ Nat.lt_irrefl _)) F' N') hs ht (by rw [List.size_toArray, hi'.length, sizeLine_eq]; omega)
theorem flat_bits : ∀ {xs : List Int}, Octs xs → Bits (xs.flatMap fun k => bitsL k 8) ∧ (xs.flatMap fun k => bitsL k 8).length = 8 * xs.length ∧ numV (xs.flatMap fun k => bitsL k 8) = rdV xs
  | [], _ => ⟨Bits.nil, rfl, rfl⟩
  | x :: r, h => by
    have ih := flat_bits (xs := r) fun y hy => h y (List.mem_cons_of_mem _ hy)
    have hx := h x List.mem_cons_self
    rw [List.flatMap_cons]
    refine ⟨Bits.append (bitsL_bits _ _) ih.1, ?_, ?_⟩
    · rw [List.length_append, bitsL_len, ih.2.1, List.length_cons]
      omega
    · rw [numV_app, numV_bitsL', bitsL_len, ih.2.2]
      show x % 2 ^ 8 + 2 ^ 8 * rdV r = _
      have e : rdV (x :: r) = x + 256 * rdV r := rfl
      rw [e]
      have e2 : (2 : Int) ^ 8 = 256 := by decide
      rw [e2, Int.emod_eq_of_lt hx.1 hx.2]
/-- the bits of octets -/
theorem src2_bits {env : Env} {i2 : PySem.Expr} {x z : Str} {scope : Scope} {cl : List (Str × Addr)} {Q : Flow → Shared → Prop} {ax : Addr} {vs : List Value} {xs : List Int} {na : Nat}
    (hh : A.handled = none) (F : Fr h₀ L s.heap m) (N : News h₀ L s.heap news) (hax : (ax, PySem.W.listOf vs.toArray na) ∈ news) (hi : IntsAre vs xs) (ho : Octs xs) (hlen : xs.length ≤ 21)
    (turn : ∀ k t I oI C oC D m₂ ys h tk (E' : Value → Shared → Prop), 0 ≤ k → k < 256 → LCg.NsObj oC m₂ → m₂ x = some (.int k t) → Fr h₀ L h m → News h₀ L h ((I, oI) :: (C, oC) :: (D, LCg.lst ys) :: news) → LCg.Off3 I C D news → ((@Ne Nat I C) ∧ (@Ne Nat I D) ∧ (@Ne Nat C D)) →
      wpAny (model prog w) A (eval i2 (compEnvC scope cl C env)) (Src2 h₀ L m { s with heap := h, toks := tk } ((I, oI) :: (C, oC) :: (D, LCg.lst ys) :: news) (bitsL k 8)) E' { s with heap := h, toks := tk })
    (fin : ∀ (ys : List Value) (bs : List Int) D h tk, IntsAre ys bs → Bits bs → bs.length = 8 * xs.length → numV bs = rdV xs → LCg.Off1 D news → Fr h₀ L h (fun q => if q = z then some (.ref D) else m q) → News h₀ L h ((D, PySem.W.listOf ys.toArray ys.length) :: news) → Q .next { s with heap := h, toks := tk }) :
    CompSrc2 prog w A h₀ L m env i2 x z scope cl Q (.ref ax) s := by
  obtain ⟨b1, b2, b3⟩ := flat_bits ho
  refine ⟨ax, vs, xs, na, news, fun k => bitsL k 8, rfl, hh, F, N, hax, hi, by rw [b2, sizeLine_eq]; omega, fun k t I oI C oC D m₂ ys h tk E' hk hC hm F' N' o ne => turn k t I oI C oC D m₂ ys h tk E' (ho k hk).1 (ho k hk).2 hC hm F' N' o ne, fun ys D h tk hy F' N' o => fin ys _ D h tk hy b1 b2 b3 o F' N'⟩
/-- one of four widths -/
theorem item_four {value slice : PySem.Expr} {l : Addr} {a b c d v : Int} {ta tb tc td u : Tok} {n : Nat} (N : News h₀ L s.heap news) (hl : (l, PySem.W.listOf #[.int a ta, .int b tb, .int c tc, .int d td] n) ∈ news)
    (h0 : 0 ≤ v) (h1 : v < 4) (ha : 0 ≤ a ∧ a ≤ 300) (hb : 0 ≤ b ∧ b ≤ 300) (hc : 0 ≤ c ∧ c ≤ 300) (hd : 0 ≤ d ∧ d ≤ 300)
    (h : ∀ wd t, 0 ≤ wd → wd ≤ 300 → Q (.int wd t) s)
    (hs : subscripted slice false (.ref l) (.int v u) = operate [.ref l, .int v u] (getItem (.ref l) (.int v u)) := by with_unfolding_all rfl) :
    wpAny (model prog w) A (subscriptTail value slice (.ref l) (.int v u)) Q E s := by
  have hL : s.heap.IsList l #[.int a ta, .int b tb, .int c tc, .int d td] := ⟨_, (N _ hl).1, rfl, _, rfl⟩
  have : v = 0 ∨ v = 1 ∨ v = 2 ∨ v = 3 := by omega
  refine tail_any hL.typeIs slot_list_getitem.lookup ?_ hs
  rcases this with rfl | rfl | rfl | rfl
  · exact wpAny_getItem_list hL (by decide) (by decide) (x := .int a ta) rfl (h _ _ ha.1 ha.2)
  · exact wpAny_getItem_list hL (by decide) (by decide) (x := .int b tb) rfl (h _ _ hb.1 hb.2)
  · exact wpAny_getItem_list hL (by decide) (by decide) (x := .int c tc) rfl (h _ _ hc.1 hc.2)
  · exact wpAny_getItem_list hL (by decide) (by decide) (x := .int d td) rfl (h _ _ hd.1 hd.2)
theorem bits_any : ∀ {b : List Int}, Bits b → (b.any (· == 1) = true ↔ numV b ≠ 0)
  | [], _ => by simp [numV]
  | x :: r, h => by
    have ih := bits_any h.tail
    have n0 := numV_nonneg h.tail
    rw [List.any_cons, Bool.or_eq_true, ih]
    show _ ↔ x + 2 * numV r ≠ 0
    rcases h.head with rfl | rfl
    · simp
    · constructor
      · intro _
        omega
      · intro _
        exact .inl rfl
/-- is there a bit left -/
theorem one_in_bits {l : Addr} {vs : List Value} {bs : List Int} {nl : Nat} {P W : Int} {t : Tok} (N : News h₀ L s.heap news) (hl : (l, PySem.W.listOf vs.toArray nl) ∈ news) (hi : IntsAre vs (bs.drop P.toNat)) (hb : Bits bs) (hw : numV bs = W)
    (hA : W.fdiv (2 ^ P.toNat) = 0 → Q (.bool false) s) (hB : W.fdiv (2 ^ P.toNat) ≠ 0 → Q (.bool true) s) : wpAny (model prog w) A (compareOp .In (.int 1 t) (.ref l)) Q E s := by
  refine in_list_ints ⟨_, (N _ hl).1, rfl, _, rfl⟩ hi ?_
  have e := bits_any (hb.drop P.toNat)
  rw [numV_drop _ hb, hw, ← Int.fdiv_eq_ediv_of_nonneg _ (Int.le_of_lt (Int.pow_pos (by decide)))] at e
  by_cases z : W.fdiv (2 ^ P.toNat) = 0
  · have : (bs.drop P.toNat).any (· == 1) = false := by
      cases q : (bs.drop P.toNat).any (· == 1) with
      | false => rfl
      | true => exact absurd z (e.mp q)
    rw [this]
    exact hA z
  · rw [e.mpr z]
    exact hB z
end
section
variable {prog p : Program} {w : World} {loose : List Str} {mean : ExcName → Option Value} {mg mb : Str → Option Value} {dp un : Nat} {gd : Option (List Code)} {cn : Str} {cs : Scope} {a : Addr} {ccd : Value} {outer : List Env} {A₀ : Around} {base h₀ : Heap} {L : Addr} {m : Str → Option Value} {s : Shared} {Q E : Value → Shared → Prop}
    {news : List (Addr × Obj)} {r dr : Addr} {ea eb ec : Int} {k1 k2 k3 t1 t2 t3 tw : Tok} {W C P wd : Int} {gU : Obj → List (Addr × Obj)}
/-- a reader's bits are asked for, by the law -/
theorem take_both (S : SiteS w p loose mean mg mb cs outer A₀ base h₀ L m news s.heap)
    (hr : (r, instObj 138 dr) ∈ news) (U : UpdF dr (dictOf [⟨ea, .str (Str.ofString "word") k1, .int W t1⟩, ⟨eb, .str (Str.ofString "count") k2, .int C t2⟩, ⟨ec, .str (Str.ofString "at") k3, .int P t3⟩] 3) news gU)
    (hne : r ≠ dr) (hW : 0 ≤ W) (hP : 0 ≤ P) (hPC : P ≤ C) (hC : C ≤ 400) (h0 : 0 ≤ wd) (h1 : wd ≤ 400)
    (hdp : dp + 20 ≤ 500) (hun : un + 200 ≤ 4000)
    (hA : C < P + wd → ∀ (l' : Addr) (q1 q2 q3 : Tok) (h' : Heap) (tk' : Nat), LCg.Off1 l' news →
      BackT w p loose mean mg mb outer A₀ base h₀ L m ((l', { cls := .type "tuple", data := .seq #[.str (Str.ofString "refused") q1, .int (-1) q2, .str (Str.ofString "the octets end early") q3] }) :: news) h' (Q (.ref l') { s with heap := h', toks := tk' }))
    (hB : P + wd ≤ C → ∀ (l' : Addr) (q1 q2 t3 : Tok) (h' : Heap) (tk' : Nat), LCg.Off1 l' news →
      BackT w p loose mean mg mb outer A₀ base h₀ L m ((l', { cls := .type "tuple", data := .seq #[.str (Str.ofString "taken") q1, .int (W / 2 ^ P.toNat % 2 ^ wd.toNat) q2] }) :: gU (dictOf [⟨ea, .str (Str.ofString "word") k1, .int W t1⟩, ⟨eb, .str (Str.ofString "count") k2, .int C t2⟩, ⟨ec, .str (Str.ofString "at") k3, .int (P + wd) t3⟩] 3)) h' (Q (.ref l') { s with heap := h', toks := tk' })) :
    wpAny (model prog w) (ktrTop dp un gd cn cs L a ccd [] outer) (call (.ref 298) [.ref 305, .ref r, .int wd tw]) Q E s := by
  by_cases hgo : C < P + wd
  · exact take_refused S hr (updF_was U) hne h0 h1 hP hPC hC hgo hdp hun (hA hgo)
  · have hC0 : 0 ≤ C := by omega
    obtain ⟨Pn, rfl⟩ := Int.eq_ofNat_of_zero_le hP
    obtain ⟨Cn, rfl⟩ := Int.eq_ofNat_of_zero_le hC0
    obtain ⟨wn, rfl⟩ := Int.eq_ofNat_of_zero_le h0
    exact take_taken S hr U hne hW (by omega) (by omega) hdp hun (hB (by omega))
/-- the end, three ways -/
theorem end_octetsI (S : SiteS w p loose mean mg mb cs outer A₀ base h₀ L m news s.heap)
    (hr : (r, instObj 138 dr) ∈ news) (hdr : (dr, dictOf [⟨ea, .str (Str.ofString "word") k1, .int W t1⟩, ⟨eb, .str (Str.ofString "count") k2, .int C t2⟩, ⟨ec, .str (Str.ofString "at") k3, .int P t3⟩] 3) ∈ news)
    (hne : r ≠ dr) (hW : 0 ≤ W) (hP : 0 ≤ P) (hPC : P ≤ C) (hC : C ≤ 400) (hgo : C - P ≥ 8)
    (hdp : dp + 20 ≤ 500) (hun : un + 200 ≤ 4000)
    (h : ∀ (l' : Addr) (q1 q2 q3 : Tok) (h' : Heap) (tk' : Nat), LCg.Off1 l' news →
      BackT w p loose mean mg mb outer A₀ base h₀ L m ((l', { cls := .type "tuple", data := .seq #[.str (Str.ofString "refused") q1, .int (-1) q2, .str (Str.ofString "octets behind the end") q3] }) :: news) h' (Q (.ref l') { s with heap := h', toks := tk' })) :
    wpAny (model prog w) (ktrTop dp un gd cn cs L a ccd [] outer) (call (.ref 298) [.ref 312, .ref r, .int 0 tw]) Q E s := by
  have hC0 : 0 ≤ C := by omega
  obtain ⟨Pn, rfl⟩ := Int.eq_ofNat_of_zero_le hP
  obtain ⟨Cn, rfl⟩ := Int.eq_ofNat_of_zero_le hC0
  exact end_octets S hr hdr hne hW (by omega) (by omega) (by omega) hdp hun h
theorem end_bitsI (S : SiteS w p loose mean mg mb cs outer A₀ base h₀ L m news s.heap)
    (hr : (r, instObj 138 dr) ∈ news) (hdr : (dr, dictOf [⟨ea, .str (Str.ofString "word") k1, .int W t1⟩, ⟨eb, .str (Str.ofString "count") k2, .int C t2⟩, ⟨ec, .str (Str.ofString "at") k3, .int P t3⟩] 3) ∈ news)
    (hne : r ≠ dr) (hW : 0 ≤ W) (hP : 0 ≤ P) (hPC : P ≤ C) (hC : C ≤ 400) (hgo : ¬ C - P ≥ 8) (hb : W.fdiv (2 ^ P.toNat) ≠ 0)
    (hdp : dp + 20 ≤ 500) (hun : un + 200 ≤ 4000)
    (h : ∀ (l' : Addr) (q1 q2 q3 : Tok) (h' : Heap) (tk' : Nat), LCg.Off1 l' news →
      BackT w p loose mean mg mb outer A₀ base h₀ L m ((l', { cls := .type "tuple", data := .seq #[.str (Str.ofString "refused") q1, .int (-1) q2, .str (Str.ofString "bits behind the end") q3] }) :: news) h' (Q (.ref l') { s with heap := h', toks := tk' })) :
    wpAny (model prog w) (ktrTop dp un gd cn cs L a ccd [] outer) (call (.ref 298) [.ref 312, .ref r, .int 0 tw]) Q E s := by
  have hC0 : 0 ≤ C := by omega
  obtain ⟨Pn, rfl⟩ := Int.eq_ofNat_of_zero_le hP
  obtain ⟨Cn, rfl⟩ := Int.eq_ofNat_of_zero_le hC0
  exact end_bits S hr hdr hne hW (by omega) (by omega) (by omega) hb hdp hun h
theorem end_okI (S : SiteS w p loose mean mg mb cs outer A₀ base h₀ L m news s.heap)
    (hr : (r, instObj 138 dr) ∈ news) (hdr : (dr, dictOf [⟨ea, .str (Str.ofString "word") k1, .int W t1⟩, ⟨eb, .str (Str.ofString "count") k2, .int C t2⟩, ⟨ec, .str (Str.ofString "at") k3, .int P t3⟩] 3) ∈ news)
    (hne : r ≠ dr) (hW : 0 ≤ W) (hP : 0 ≤ P) (hPC : P ≤ C) (hC : C ≤ 400) (hgo : ¬ C - P ≥ 8) (hb : W.fdiv (2 ^ P.toNat) = 0)
    (hdp : dp + 20 ≤ 500) (hun : un + 200 ≤ 4000)
    (h : ∀ (l' : Addr) (q1 : Tok) (h' : Heap) (tk' : Nat), LCg.Off1 l' news →
      BackT w p loose mean mg mb outer A₀ base h₀ L m ((l', { cls := .type "tuple", data := .seq #[.str (Str.ofString "taken") q1, .none] }) :: news) h' (Q (.ref l') { s with heap := h', toks := tk' })) :
    wpAny (model prog w) (ktrTop dp un gd cn cs L a ccd [] outer) (call (.ref 298) [.ref 312, .ref r, .int 0 tw]) Q E s := by
  have hC0 : 0 ≤ C := by omega
  obtain ⟨Pn, rfl⟩ := Int.eq_ofNat_of_zero_le hP
  obtain ⟨Cn, rfl⟩ := Int.eq_ofNat_of_zero_le hC0
  exact end_ok S hr hdr hne hW (by omega) (by omega) (by omega) hb hdp hun h
/-- the number of a run of bits -/
theorem number_run {cl : List (Str × Addr)} {l : Addr} {ws : List Value} {bs : List Int} {nl : Nat} (S : Site w p loose mean mg mb cs outer A₀ base h₀ L m news s.heap)
    (hl : (l, PySem.W.listOf ws.toArray nl) ∈ news) (hi : IntsAre ws ((bs.drop P.toNat).take (min (P + wd).toNat bs.length - P.toNat))) (hb : Bits bs) (hw : numV bs = W) (hP : 0 ≤ P) (h0 : 0 ≤ wd) (hle : P + wd ≤ (bs.length : Int)) (hlen : bs.length ≤ 400)
    (hdp : dp + 4 < recursionLimit) (hun : un + 40 < cLine)
    (h : ∀ (t : Tok) (h' : Heap) (tk' : Nat), Fr h₀ L h' m → News h₀ L h' news → Q (.int (W / 2 ^ P.toNat % 2 ^ wd.toNat) t) { s with heap := h', toks := tk' }) :
    wpAny (model prog w) (ktrTop dp un gd cn cs L a ccd cl outer) (call (.ref 286) [.ref l]) Q E s := by
  have hz : ((bs.drop P.toNat).take (min (P + wd).toNat bs.length - P.toNat)).length ≤ 400 := by
    rw [List.length_take, List.length_drop]
    exact Nat.le_trans (Nat.min_le_right _ _) (Nat.le_trans (Nat.sub_le _ _) hlen)
  refine number_spec S hl hi hz hdp hun fun t h' tk' F' N' => ?_
  have e : min (P + wd).toNat bs.length - P.toNat = wd.toNat := by
    rw [Nat.min_eq_left (Int.toNat_le.mpr hle), Int.toNat_add hP h0]
    exact Nat.add_sub_cancel_left _ _
  rw [e, numR_eq ((hb.drop _).take _), numV_take _ (hb.drop _), numV_drop _ hb, hw]
  exact h t h' tk' F' N'
end
/-- the end of a body that reads a list, a row and turns a coat -/
theorem finOk3 {prog : Program} {w : World} {p : Program} {loose : List Str} {mean : ExcName → Option Value} {mg mb : Str → Option Value} {outer : List Env} {A₀ : Around} {base h₀ h₁ : Heap} {L : Addr} {m : Str → Option Value} {fs : List Addr} {g g' h' : Heap} {tk' : Nat} {L' c r l : Addr} {m' : Str → Option Value} {ol lst oc oc' : Obj} {news small' : List (Addr × Obj)} {gU : Obj → List (Addr × Obj)} {s : Shared} {Q : Value → Shared → Prop} {i i' : Int} {t9 : Tok} {b : Bool}
    (hh : OkC prog w p loose mean mg mb outer A₀ base h₀ L m gU r i s Q) (N0 : News h₀ L h₁ news) (U : UpdF c oc news gU) (hl : (l, ol) ∈ news) (hr : (r, lst) ∈ news) (F : Fr g' L' h' m') (N : News g' L' h' small') (T : KtsTurn fs g g')
    (h0 : (l, ol) ∈ small') (h1 : (r, lst) ∈ small') (h2 : (c, oc') ∈ small') (d : oc'.IsDictOf (PySem.strKind prog w) [(Str.ofString "row", .ref r), (Str.ofString "at", .int i' t9)]) (e : i' = i) (eb : b = true) :
    LeaveT fs g (fun small' => ∃ news', (∀ q ∈ news', q ∈ small' ∨ (q ∈ news ∧ ∀ x ∈ [(l, ol), (r, lst), (c, oc)], q.1 ≠ x.1)) ∧ BackT w p loose mean mg mb outer A₀ base h₀ L m news' ({ s with heap := h', toks := tk' } : Shared).heap (Q (.bool b) { s with heap := h', toks := tk' })) { s with heap := h', toks := tk' } := by
  subst e eb
  refine leaveT_ T F N ⟨_, fun q hq => ?_, hh _ _ _ _ d⟩
  rcases updF_are U q hq with rfl | ⟨hq, hne⟩
  · exact .inl h2
  · have was := updF_was U
    by_cases e1 : q.1 = l
    · obtain ⟨q1, q2⟩ := q
      have e' : q1 = l := e1
      subst e'
      rw [news_fun N0 hq hl]
      exact .inl h0
    · by_cases e2 : q.1 = r
      · obtain ⟨q1, q2⟩ := q
        have e' : q1 = r := e2
        subst e'
        rw [news_fun N0 hq hr]
        exact .inl h1
      · refine .inr ⟨hq, fun x hx => ?_⟩
        rcases List.mem_cons.mp hx with rfl | hx
        · exact e1
        · rcases List.mem_cons.mp hx with rfl | hx
          · exact e2
          · rcases List.mem_cons.mp hx with rfl | hx
            · exact hne
            · nomatch hx
/-- the state of the loop that reads -/
structure RrS where
  (P i : Int) (oc : Obj) (t9 t3 tP : Tok)
abbrev rrLed (rd dr bl l r c : Addr) (bo ol lst : Obj) (W C ea eb ec : Int) (k1 k2 k3 t1 t2 : Tok) (q : RrS) : List (Addr × Obj) :=
  [(rd, instObj 138 dr), (dr, dictOf [⟨ea, .str (Str.ofString "word") k1, .int W t1⟩, ⟨eb, .str (Str.ofString "count") k2, .int C t2⟩, ⟨ec, .str (Str.ofString "at") k3, .int q.P q.t3⟩] 3), (bl, bo), (l, ol), (r, lst), (c, q.oc)]
structure RrP (prog : Program) (w : World) (r : Addr) (C i0 : Int) (j : Nat) (q : RrS) : Prop where
  h0 : 0 ≤ q.P
  h1 : q.P ≤ C
  hi : q.i = i0 + 2 * (j : Int)
  hd : q.oc.IsDictOf (PySem.strKind prog w) [(Str.ofString "row", .ref r), (Str.ofString "at", .int q.i q.t9)]
theorem rr_led {g h : Heap} {L T rd dr bl l r c : Addr} {tO bo ol lst oc : Obj} {W C P ea eb ec : Int} {k1 k2 k3 t1 t2 t3 t9 tP : Tok} {a b d e : Addr × Obj} {i : Int}
    (N : News g L h [(T, tO), (rd, instObj 138 dr), (dr, dictOf [⟨ea, .str (Str.ofString "word") k1, .int W t1⟩, ⟨eb, .str (Str.ofString "count") k2, .int C t2⟩, ⟨ec, .str (Str.ofString "at") k3, .int P t3⟩] 3), (bl, bo), a, b, d, e, (l, ol), (r, lst), (c, oc)]) :
    News g L h (rrLed rd dr bl l r c bo ol lst W C ea eb ec k1 k2 k3 t1 t2 ⟨P, i, oc, t9, t3, tP⟩) := fun p hp => N p (by
  simp only [rrLed, List.mem_cons, List.not_mem_nil, or_false] at hp ⊢
  rcases hp with h | h | h | h | h | h <;> simp only [h, true_or, or_true])
abbrev rrPs (q : RrS) : List (Str × Value) := [(Str.ofString "place", .int q.P q.tP)]
abbrev rrSt : List Str := [Str.ofString "width", Str.ofString "told"]
theorem rr_same {q : RrS} {z : Str} (h2 : ∀ p ∈ rrPs q, z ≠ p.1) (h3 : rrSt.contains z = false) : z ≠ Str.ofString "place" ∧ z ≠ Str.ofString "width" ∧ z ≠ Str.ofString "told" := by
  refine ⟨h2 _ List.mem_cons_self, fun e => ?_, fun e => ?_⟩ <;> (subst e; revert h3; decide)
theorem rr_kend {prog : Program} {w : World} {G : Heap → Prop} {L : Addr} {x : Str} {m₀ : Str → Option Value} {s₁ : Shared} {g' h' : Heap} {tk : Nat} {m' : Str → Option Value} {news' : List (Addr × Obj)}
    {rd dr bl l r c I : Addr} {bo ol lst oc oI : Obj} {W C P i i0 ea eb ec : Int} {k1 k2 k3 t1 t2 t3 t9 tP : Tok} {j : Nat}
    (F : Fr g' L h' m') (N : News g' L h' news') (hc : (c, oc) ∈ news') (hr : (rd, instObj 138 dr) ∈ news') (hdr : (dr, dictOf [⟨ea, .str (Str.ofString "word") k1, .int W t1⟩, ⟨eb, .str (Str.ofString "count") k2, .int C t2⟩, ⟨ec, .str (Str.ofString "at") k3, .int P t3⟩] 3) ∈ news')
    (hb : (bl, bo) ∈ news') (hl : (l, ol) ∈ news') (hrr : (r, lst) ∈ news') (hI : (I, oI) ∈ news') (n1 : (@Ne Nat rd I)) (n2 : (@Ne Nat dr I)) (n3 : (@Ne Nat bl I)) (n4 : (@Ne Nat l I)) (n5 : (@Ne Nat r I)) (n6 : (@Ne Nat c I))
    (hp : m' (Str.ofString "place") = some (.int P tP)) (hs : ∀ z, z ≠ x → z ≠ Str.ofString "place" → z ≠ Str.ofString "width" → z ≠ Str.ofString "told" → rrSt.contains z = false → m' z = m₀ z)
    (hd : oc.IsDictOf (PySem.strKind prog w) [(Str.ofString "row", .ref r), (Str.ofString "at", .int i t9)]) (h0 : 0 ≤ P) (h1 : P ≤ C) (hi : i = i0 + 2 * (j : Int) + 2) (hG : G g') :
    KEnd G L (rrLed rd dr bl l r c bo ol lst W C ea eb ec k1 k2 k3 t1 t2) rrPs x rrSt m₀ (RrP prog w r C i0) j I oI s₁ { s₁ with heap := h', toks := tk } := by
  refine ⟨⟨P, i, oc, t9, t3, tP⟩, g', h', tk, m', news', rfl, F, N, fun p hp => ?_, hI, fun p hp => ?_, ?_, ?_, ⟨h0, h1, (by show i = i0 + 2 * ((j + 1 : Nat) : Int); omega), hd⟩, hG⟩
  · simp only [rrLed, List.mem_cons, List.not_mem_nil, or_false] at hp
    rcases hp with h | h | h | h | h | h <;> (rw [h]; assumption)
  · simp only [rrLed, List.mem_cons, List.not_mem_nil, or_false] at hp
    rcases hp with h | h | h | h | h | h <;> (rw [h]; assumption)
  · intro p hm
    rw [List.mem_singleton.mp hm]
    exact hp
  · intro z a b c'
    obtain ⟨e1, e2, e3⟩ := rr_same b c'
    exact hs z a e1 e2 e3 c'
theorem LoopRR {prog : Program} {w : World} {A : Around} {E : Value → Shared → Prop} {s : Shared} {env : Env} {x : Str} {body : List Stmt} {Q : Flow → Shared → Prop} {ri : Addr} {t₀ u₀ v₀ : Tok} {g₀ : Heap} {m₀ : Str → Option Value} {G : Heap → Prop}
    {rd dr bl l r c T : Addr} {tO bo ol lst oc : Obj} {W C i0 ea eb ec : Int} {k1 k2 k3 t1 t2 t3 t9 tP : Tok} {a b d e : Addr × Obj}
    (hh : A.handled = none) (hr : IsRange s.heap ri 0 4 1 t₀ u₀ v₀) (F : Fr g₀ env.locals s.heap m₀)
    (N : News g₀ env.locals s.heap [(T, tO), (rd, instObj 138 dr), (dr, dictOf [⟨ea, .str (Str.ofString "word") k1, .int W t1⟩, ⟨eb, .str (Str.ofString "count") k2, .int C t2⟩, ⟨ec, .str (Str.ofString "at") k3, .int 0 t3⟩] 3), (bl, bo), a, b, d, e, (l, ol), (r, lst), (c, oc)])
    (hk : m₀ (Str.ofString "place") = some (.int 0 tP)) (hC : 0 ≤ C) (hd : oc.IsDictOf (PySem.strKind prog w) [(Str.ofString "row", .ref r), (Str.ofString "at", .int i0 t9)]) (hG : G g₀)
    (turn : ∀ (j : Nat) (P i : Int) (oc : Obj) (t9 t3 tP t : Tok) (u : Str → Option Value) g h tk I oI, j < 4 → 0 ≤ P → P ≤ C → i = i0 + 2 * (j : Int) → oc.IsDictOf (PySem.strKind prog w) [(Str.ofString "row", .ref r), (Str.ofString "at", .int i t9)] → G g → ((@Ne Nat rd I) ∧ (@Ne Nat dr I) ∧ (@Ne Nat bl I) ∧ (@Ne Nat l I) ∧ (@Ne Nat r I) ∧ (@Ne Nat c I)) →
      Fr g env.locals h (fun y => if y = x then some (.int (j : Int) t) else if y = Str.ofString "place" then some (.int P tP) else if rrSt.contains y then u y else m₀ y) →
      News g env.locals h [(rd, instObj 138 dr), (dr, dictOf [⟨ea, .str (Str.ofString "word") k1, .int W t1⟩, ⟨eb, .str (Str.ofString "count") k2, .int C t2⟩, ⟨ec, .str (Str.ofString "at") k3, .int P t3⟩] 3), (bl, bo), (l, ol), (r, lst), (c, oc), (I, oI)] →
      wpAny (model prog w) A (execs body env) (KPost G env.locals (rrLed rd dr bl l r c bo ol lst W C ea eb ec k1 k2 k3 t1 t2) rrPs x rrSt m₀ (RrP prog w r C i0) j I oI { s with heap := h, toks := tk } Q) E { s with heap := h, toks := tk })
    (done : ∀ (P i : Int) (oc : Obj) (t9 t3 tP : Tok) (u : Str → Option Value) g h tk, 0 ≤ P → P ≤ C → i = i0 + 8 → oc.IsDictOf (PySem.strKind prog w) [(Str.ofString "row", .ref r), (Str.ofString "at", .int i t9)] → G g →
      Fr g env.locals h (fun y => if y = x then u y else if y = Str.ofString "place" then some (.int P tP) else if rrSt.contains y then u y else m₀ y) →
      News g env.locals h [(rd, instObj 138 dr), (dr, dictOf [⟨ea, .str (Str.ofString "word") k1, .int W t1⟩, ⟨eb, .str (Str.ofString "count") k2, .int C t2⟩, ⟨ec, .str (Str.ofString "at") k3, .int P t3⟩] 3), (bl, bo), (l, ol), (r, lst), (c, oc)] → Q .next { s with heap := h, toks := tk }) :
    LoopT prog w A env x body Q E (.ref ri) s := by
  refine LoopK (n := 4) (rrLed rd dr bl l r c bo ol lst W C ea eb ec k1 k2 k3 t1 t2) rrPs rrSt (RrP prog w r C i0) ⟨0, i0, oc, t9, t3, tP⟩ hh hr (by decide) rfl F (rr_led N) (by intro p hp; rw [List.mem_singleton.mp hp]; exact hk) ⟨Int.le_refl _, hC, (by show i0 = i0 + 2 * ((0 : Nat) : Int); omega), hd⟩ hG ?_ ?_
  · rintro j ⟨P, i, oc', t9', t3', tP'⟩ t u g h tk I oI hj ⟨p0, p1, p2, p3⟩ hg off F' N'
    refine turn j P i oc' t9' t3' tP' t u g h tk I oI hj p0 p1 p2 p3 hg ⟨off (rd, instObj 138 dr) ?_, off (dr, dictOf [⟨ea, .str (Str.ofString "word") k1, .int W t1⟩, ⟨eb, .str (Str.ofString "count") k2, .int C t2⟩, ⟨ec, .str (Str.ofString "at") k3, .int P t3'⟩] 3) ?_, off (bl, bo) ?_, off (l, ol) ?_, off (r, lst) ?_, off (c, oc') ?_⟩ F' N'
    all_goals simp only [rrLed, List.mem_cons, true_or, or_true]
  · rintro ⟨P, i, oc', t9', t3', tP'⟩ u g h tk ⟨p0, p1, p2, p3⟩ hg F' N'
    exact done P i oc' t9' t3' tP' u g h tk p0 p1 (by have : i = i0 + 2 * ((4 : Nat) : Int) := p2; omega) p3 hg F' N'
end Mine
end

section
namespace Mine
open PySem.W.X
theorem wordsRR0 : True := by
  k_with_none
  w_top off
  k_with "a9" => (with_reducible assumption)
  k_with "c9" => (repeat (with_reducible rename _ ∧ _ => hA9; clear hA9)); (repeat (with_reducible rename _ ≠ _ => hA9; clear hA9))
  k_with "u9" => ((with_reducible rename News _ _ _ _ => N9); dsimp +zetaDelta only at N9)
  k_with "p0" => (refine offAt (by fail "a9") 0 ?_; exact rfl)
  k_with "p1" => (refine offAt (by fail "a9") 1 ?_; exact rfl)
  k_with "p2" => (refine offAt (by fail "a9") 2 ?_; exact rfl)
  k_with "p3" => (refine offAt (by fail "a9") 3 ?_; exact rfl)
  k_with "p4" => (refine offAt (by fail "a9") 4 ?_; exact rfl)
  k_with "p5" => (refine offAt (by fail "a9") 5 ?_; exact rfl)
  k_with "p6" => (refine offAt (by fail "a9") 6 ?_; exact rfl)
  k_with "p7" => (refine offAt (by fail "a9") 7 ?_; exact rfl)
  k_with "p8" => (refine offAt (by fail "a9") 8 ?_; exact rfl)
  k_with "p9" => (refine offAt (by fail "a9") 9 ?_; exact rfl)
  k_with "p10" => (refine offAt (by fail "a9") 10 ?_; exact rfl)
  k_with "p11" => (refine offAt (by fail "a9") 11 ?_; exact rfl)
  k_with "p12" => (refine offAt (by fail "a9") 12 ?_; exact rfl)
  k_with "p13" => (refine offAt (by fail "a9") 13 ?_; exact rfl)
  k_with "p14" => (refine ltAt (by fail "a9") 0 ?_; exact rfl)
  k_with "p15" => (refine ltAt (by fail "a9") 1 ?_; exact rfl)
  k_with "p16" => (refine ltAt (by fail "a9") 2 ?_; exact rfl)
  k_with "p17" => (refine ltAt (by fail "a9") 3 ?_; exact rfl)
  k_with "p18" => (refine ltAt (by fail "a9") 4 ?_; exact rfl)
  k_with "p19" => (refine ltAt (by fail "a9") 5 ?_; exact rfl)
  k_with "p20" => (refine ltAt (by fail "a9") 6 ?_; exact rfl)
  k_with "p21" => (refine ltAt (by fail "a9") 7 ?_; exact rfl)
  k_with "p22" => (refine ltAt (by fail "a9") 8 ?_; exact rfl)
  k_with "p23" => (refine ltAt (by fail "a9") 9 ?_; exact rfl)
  k_with "p24" => (refine ltAt (by fail "a9") 10 ?_; exact rfl)
  k_with "p25" => (refine ltAt (by fail "a9") 11 ?_; exact rfl)
  k_with "p26" => (refine ltAt (by fail "a9") 12 ?_; exact rfl)
  k_with "p27" => (refine ltAt (by fail "a9") 13 ?_; exact rfl)
  k_with "r9" => (fail "w1")
  k_with "w1" => (first | fail "a9" | exact Nat.le_of_lt (by fail "a9"))
  k_with "offs9" => (first | fail "p0" | fail "p1" | fail "p2" | fail "p3" | fail "p4" | fail "p5" | fail "p6" | fail "p7" | fail "p8" | fail "p9" | fail "p10" | fail "p11" | fail "p12" | fail "p13" | fail "p14" | fail "p15" | fail "p16" | fail "p17" | fail "p18" | fail "p19" | fail "p20" | fail "p21" | fail "p22" | fail "p23" | fail "p24" | fail "p25" | fail "p26" | fail "p27")
  k_with "mem9" => (fail "w2")
  k_with "w2" => (first | exact List.Mem.head _ | exact List.Mem.tail _ (List.Mem.head _) | (refine memAt 0 ?_; exact rfl) | (refine memAt 1 ?_; exact rfl) | (refine memAt 2 ?_; exact rfl) | (refine memAt 3 ?_; exact rfl) | (refine memAt 4 ?_; exact rfl) | (refine memAt 5 ?_; exact rfl) | (refine memAt 6 ?_; exact rfl) | (refine memAt 7 ?_; exact rfl) | (refine memAt 8 ?_; exact rfl) | (refine memAt 9 ?_; exact rfl) | (refine memAt 10 ?_; exact rfl) | (refine memAt 11 ?_; exact rfl) | (refine memAt 12 ?_; exact rfl) | (refine memAt 13 ?_; exact rfl) | (refine memAt 14 ?_; exact rfl) | (refine memAt 15 ?_; exact rfl) | (refine memAt 16 ?_; exact rfl) | (refine memAt 17 ?_; exact rfl))
  k_with "lts9" => (fail "w3")
  k_with "w3" => (first | (refine ltB (by fail "a9") 0 ?_; exact rfl) | (refine ltB (by fail "a9") 1 ?_; exact rfl) | (refine ltB (by fail "a9") 2 ?_; exact rfl) | (refine ltB (by fail "a9") 3 ?_; exact rfl) | (refine ltB (by fail "a9") 4 ?_; exact rfl) | (refine ltB (by fail "a9") 5 ?_; exact rfl) | (refine ltB (by fail "a9") 6 ?_; exact rfl) | (refine ltB (by fail "a9") 7 ?_; exact rfl) | (refine ltB (by fail "a9") 8 ?_; exact rfl) | (refine ltB (by fail "a9") 9 ?_; exact rfl) | (refine ltB (by fail "a9") 10 ?_; exact rfl) | (refine ltB (by fail "a9") 11 ?_; exact rfl) | (refine ltB (by fail "a9") 12 ?_; exact rfl) | (refine ltB (by fail "a9") 13 ?_; exact rfl))
  k_with "rooms9" => (fail "w4")
  k_with "w4" => (first | (refine rl2 (by fail "r9") ?_; exact rfl) | (refine rl1 (by fail "r9") ?_; exact rfl) | (refine rl3 (by fail "r9") ?_; exact rfl) | (refine rl0 (by fail "r9") ?_; exact rfl) | (refine rl4 (by fail "r9") ?_; exact rfl) | (refine rm2 (by fail "r9") ?_; exact rfl) | (refine rm1 (by fail "r9") ?_; exact rfl) | (refine rm3 (by fail "r9") ?_; exact rfl) | (refine rm0 (by fail "r9") ?_; exact rfl) | (refine rm4 (by fail "r9") ?_; exact rfl))
  k_with "k_ne" => (fail "w5")
  k_with "w5" => (refine neN ?_; (try dsimp only); first | fail "a9" | (refine Ne.symm ?_; fail "a9") | exact Nat.ne_of_lt (by fail "a9") | exact Nat.ne_of_gt (by fail "a9") | k_extra "offs9" | (refine Ne.symm ?_; first | k_extra "offs9") | ((try simp only [LCg.Off1, and_true] at *); omega))
  k_with "k_mem" => (fail "w6")
  k_with "w6" => (first | fail "a9" | k_extra "mem9")
  k_with "k_memK" => (first | k_extra "mem9")
  k_with "is_list" => (fail "w7")
  k_with "w7" => (exact News.isList (by fail "a9") (by k_mem))
  k_with "ktr_room" => (fail "w8")
  k_with "w8" => ((try dsimp only [depth_under_make, depth_under_kw, depth_in1, depth_deeper, depth_caller]); (try dsimp only [ktrTop]); first | decide | k_extra "rooms9")
  k_with "units_room" => (fail "w9")
  k_with "w9" => ((try dsimp only [units_in1, units_deeper, Around.mark_units, units_caller]); (try dsimp only [ktrTop]); first | decide | k_extra "rooms9")
  k_with "l_idx" => ((k_extra "c9"); omega)
  k_with "l_fit" => ((k_extra "c9"); omega)
  k_with "ktr_units" => (fail "w10")
  k_with "w10" => ((try dsimp only [units_in1, units_deeper, Around.mark_units, units_caller]); (try dsimp only [ktrTop]); first | decide | k_extra "rooms9")
  k_with "execs cons" => (fail "w11")
  k_with "w11" => (k_here; first | k_gentoks | ((try dsimp only); (try k_gentoks); (try (with_reducible refine letA ?_; intro A9)); (try ((with_reducible rename Fr _ _ _ _ => F9); refine letF F9 ?_; clear F9; intro m9 F9)); (try ((with_reducible rename News _ _ _ _ => N9); refine letN N9 ?_; clear N9; intro n9 N9)); (first | (with_reducible refine execHidB fun q9 hq9 => ?_) | (refine hideQ fun q9 hq9 => ?_; with_reducible refine execHidB fun q9 hq9 => ?_))))
  k_with "Hid" => (fail "w12")
  k_with "w12" => (first | ((with_reducible refine unhidNextT (by fail "a9") ?_); intro tk9; (try dsimp only)) | ((with_reducible refine unhidNext (by fail "a9") ?_); (try dsimp only)) | ((with_reducible refine unhidRet (by fail "a9") ?_); (try dsimp only)) | ((with_reducible refine unhid (by fail "a9") ?_); (try dsimp only [Behind])))
  k_with "spliced" => (fail "w13")
  k_with "w13" => (k_here; (with_reducible show wpAny _ _ (spliced (backTo _ (starEach (_ :: _ :: _ :: _) _))) _ _ _); k_dflt (refine' args_cons ?_ ?_; rotate_left; rfl))
  k_with "spliced" => (fail "w14")
  k_with "w14" => (k_here; k_dflt ((refine' argsF ?_ ?_ ?_ ?_); (rotate_left 4); k_asm; rfl; rfl); (try dsimp only [List.nil_append, List.cons_append]))
  k_with "eval Call" => (fail "w15")
  k_with "w15" => (k_here; (with_reducible show wpAny _ _ (eval (PySem.Expr.Call (PySem.Expr.Name _ _) (_ :: _) [] _) _) _ _ _); first | (k_dflt ((refine' callF ?_ ?_ ?_ ?_ ?_ ?_ ?_ ?_ ?_ ?_ ?_); (rotate_left 10); k_asm; k_asm; k_asm; k_is; k_is; rfl; rfl; rfl; rotate_left; decide; rfl)) | k_compRoot | k_dflt (refine' Call_ ?_))
  k_with "eval Name" => (fail "w16")
  k_with "w16" => (k_here; (with_reducible show wpAny _ _ (eval (PySem.Expr.Name _ _) (envOf _ _ _ _ _)) _ _ _); first | k_dflt ((refine' nameX_K ?_ ?_ ?_ ?_ ?_ ?_ ?_ ?_); (rotate_left 8); k_asm; k_asm; k_asm; k_is; rotate_left; rfl; rfl; decide) | k_dflt ((refine' nameX_L ?_ ?_ ?_ ?_ ?_ ?_); (rotate_left 3); k_asm; rfl; rotate_left; rfl; rfl; decide))
  k_with "callWith ref" => (fail "w17")
  k_with "w17" => (k_here; (with_reducible show wpAny _ _ (callWith _ _ _ (backTo _ (starEach [] _)) []) _ _ _); k_dflt (refine callF0 (by fail "a9") (by fail "a9") (by k_is) ?_))
  k_with "last getItem" => k_extra "u9"
  k_with "last setItem" => k_extra "u9"
  k_with "last setAttr" => k_extra "u9"
  k_with "last getAttr" => k_extra "u9"
  k_with "last subscriptTail" => k_extra "u9"
  k_with "last getMethod" => k_extra "u9"
  k_with "last call" => k_extra "u9"
  k_with "last pyIter" => k_extra "u9"
  k_with "last eval" => k_extra "u9"
  k_with "last exec" => k_extra "u9"
  k_with "last inplaceOp" => k_extra "u9"
  k_with "last binaryOp" => k_extra "u9"
  k_with "last InvEndN" => k_extra "u9"
  k_with "last GEnd" => k_extra "u9"
  k_with "last KEnd" => k_extra "u9"
  k_with "last LeaveT" => k_extra "u9"
  k_with "last noteFrame" => k_extra "u9"
  k_with "last leaving" => k_extra "u9"
  k_with "k_lt" => skip
  k_with "kts_go" => (fail "w18")
  k_with "w18" => (refine enterS (by assumption) (by assumption) (by k_is) (by k_is) (by ktr_room) (by exact BindsTo.of_eq rfl) (by exact locs rfl) ?_ (by exact rfl) (by exact rfl) (by exact rfl) (by decide); k_whole; intro g' L' h' F' N' B' X' T' D' lN' gN' tk9'; (have T0' := turn0 D'); (try k_lt lN'); (try k_sweep); (try dsimp only); (try k_fold))
  k_with "kxw_text" => (fail "w19")
  k_with "w19" => exact ⟨by k_asm, by k_asm, by k_asm, by k_asm, by k_asm, by first | exact rfl | assumption⟩
  k_with "kxw_bool" => (fail "w20")
  k_with "w20" => exact ⟨by k_asm, by k_asm, by k_asm, by k_asm, by k_asm, by assumption, by assumption, by assumption, by first | exact rfl | assumption⟩
  k_with "kpt_eq" => (fail "w21")
  k_with "w21" => (unfold BackT; (try (with_reducible rename Fr _ _ _ _ => oF; clear oF)); (try (with_reducible rename News _ _ _ _ => oN; clear oN)); (try (with_reducible rename Below _ _ _ _ => oB; clear oB)); (try (with_reducible rename Top _ _ _ _ _ _ => oT; clear oT)); intro kg Tn' F' N' B' X' P' D'; k_dflt (have T0' := KtsTurn.trans (by assumption) Tn'); (try dsimp only at N'); (try k_sweep); (try dsimp only); (try k_fold))
  k_with "call ref" => (fail "w22")
  k_with "w22" => (k_here; (with_reducible show wpAny _ _ (call (Value.ref 276) _) _ _ _); k_dflt (refine cut_spec (by kxw_text) (by k_updF) (by k_asm) (by k_mem) (by k_ne) (by assumption) (by assumption) (by first | ((k_extra "c9"); omega) | omega) (by first | ((k_extra "c9"); omega) | omega) (by first | decide | ((k_extra "c9"); omega) | omega) (by first | decide | ((k_extra "c9"); omega) | omega) (by ktr_room) (by ktr_units) ?_); intro v' oc' t' t2' h' tk' lo' hi' d' F' N'; (try dsimp only at N'); (try k_sweep); (try dsimp only); (try k_fold))
  k_with "call ref" => (fail "w23")
  k_with "w23" => (k_here; (with_reducible show wpAny _ _ (call (Value.ref 281) _) _ _ _); k_dflt (refine bits_spec (by kxw_text) (by first | decide | ((k_extra "c9"); omega) | omega) (by first | decide | ((k_extra "c9"); omega) | omega) (by first | ((k_extra "c9"); omega) | omega) (by first | ((k_extra "c9"); omega) | omega) (by ktr_room) (by ktr_units) ?_); intro l' vs' n' h' tk' i' o1' F' N'; (try k_sweep); (try dsimp only); (try k_fold))
  k_with "call ref" => (fail "w24")
  k_with "w24" => (k_here; (with_reducible show wpAny _ _ (call (Value.ref 103) _) _ _ _); k_dflt (refine bwriter_spec (by kxw_text) (by ktr_room) (by ktr_units) ?_); intro r' d' e1' e2' k1' k2' t1' t2' h' tk' o1' o2' n1' F' N'; (try k_sweep); (try dsimp only); (try k_fold))
  k_with "call ref" => (fail "w25")
  k_with "w25" => (k_here; (with_reducible show wpAny _ _ (call (Value.ref 138) _) _ _ _); k_dflt (refine breader_spec (by kxw_text) (by first | assumption | exact KBa.ints_make (by assumption)) (by first | assumption | exact wOct_in _ _) (by first | (rw [wOct_len]; omega) | l_fact) (by ktr_room) (by ktr_units) ?_); intro r' d' e1' e2' e3' k1' k2' k3' t1' t2' t3' h' tk' o1' o2' n1' F' N'; (try k_sweep); (try dsimp only); (try k_fold))
  k_with "call ref" => (fail "w26")
  k_with "w26" => (k_here; (with_reducible show wpAny _ _ (call (Value.ref 138) _) _ _ _); k_dflt (refine breader_w (by kxw_text) (by assumption) (by first | assumption | decide | ((k_extra "c9"); omega) | omega) (by first | assumption | decide | ((k_extra "c9"); omega) | omega) (by first | ((k_extra "c9"); omega) | omega) (by first | exact (rfl : _ = 8) | exact (rfl : _ = 24) | exact rfl | assumption) (by ktr_room) (by ktr_units) ?_); intro r' d' e1' e2' e3' k1' k2' k3' t1' t2' t3' h' tk' o1' o2' n1' F' N'; (try k_sweep); (try dsimp only); (try k_fold))
  k_with "call ref" => (fail "w27")
  k_with "w27" => (k_here; (with_reducible show wpAny _ _ (call (Value.ref 95) _) _ _ _); k_dflt (refine put_spec (by kxw_text) (by k_mem) (by k_updF) (by k_ne) (by first | assumption | decide | ((k_extra "c9"); omega) | omega) (by first | assumption | decide | ((k_extra "c9"); omega) | omega) (by first | decide | ((k_extra "c9"); omega) | omega) (by first | decide | ((k_extra "c9"); omega) | omega) (by ktr_room) (by ktr_units) ?_); intro W' t1' t2' h' tk' eW' lW' hW' F' N'; (try simp only [bitAnd_m3, fdiv_8, fdiv_64, fdiv_256, Int.reduceToNat, Nat.reduceAdd, Int.reducePow] at eW'); (try dsimp only at N'); (try k_sweep); (try dsimp only); (try k_fold))
  k_with "call ref" => (fail "w28")
  k_with "w28" => (k_here; (with_reducible show wpAny _ _ (call (Value.ref 100) _) _ _ _); k_dflt (refine wocts_spec (by kxw_text) (by k_mem) (by k_mem) (by k_ne) (by first | decide | ((k_extra "c9"); omega) | omega) (by first | assumption | decide | ((k_extra "c9"); omega) | omega) (by ktr_room) (by ktr_units) ?_); intro b' t' h' tk' hb' F' N'; (try k_sweep); (try dsimp only); (try k_fold))
  k_with "call ref" => (fail "w29")
  k_with "w29" => (k_here; (with_reducible show wpAny _ _ (call (Value.ref 291) _) _ _ _); k_dflt (refine octets_spec (by kxw_text) (by k_mem) (by first | k_asm | l_ints) (by first | omega | l_fact) (by ktr_room) (by ktr_units) ?_); intro l' vs' n' h' tk' i' o1' F' N'; (try k_sweep); (try dsimp only); (try k_fold))
  k_with "call type:list" => (fail "w30")
  k_with "w30" => (k_here; (with_reducible show wpAny _ _ (call (Value.type "list") [Value.bytes _ _]) _ _ _); k_dflt (refine list_of_bytes rfl (by k_asm) (by k_asm) (by assumption) (by rw [wOct_len, sizeLine_eq]; omega) ?_); intro l' vs' n' h' tk' i' o1' F' N'; (try k_sweep); (try dsimp only); (try k_fold))
  k_with "call ref" => (fail "w31")
  k_with "w31" => (k_here; (with_reducible show wpAny _ _ (call (Value.ref 291) _) _ _ _); k_dflt (refine octets_w (by assumption) (by kxw_text) (by k_mem) (by first | k_asm | l_ints) (by first | assumption | (simp only [List.length_append, bitsL_len, List.length_cons, List.length_nil, Int.reduceToNat, Nat.reduceAdd, Nat.reduceLeDiff]; done) | (simp only [List.length_append, bitsL_len, List.length_cons, List.length_nil, Int.reduceToNat, Nat.reduceAdd]; omega)) (by repeat' first | exact bitsL_bits _ _ | assumption | refine Bits.append ?_ ?_ | exact Bits.nil | (refine Bits.one ?_; omega)) (by first | assumption | (simp only [numV_app, numV, numV_bitsL', List.length_append, bitsL_len, List.length_cons, List.length_nil, Int.reduceToNat, Nat.reduceAdd, Int.reducePow]; omega)) (by first | assumption | (simp only [List.length_append, bitsL_len, List.length_cons, List.length_nil, Int.reduceToNat, Nat.reduceAdd]; done) | (simp only [List.length_append, bitsL_len, List.length_cons, List.length_nil, Int.reduceToNat, Nat.reduceAdd]; omega)) (by ktr_room) (by ktr_units) ?_); intro l' vs' n' h' tk' i' o1' F' N'; (try k_sweep); (try dsimp only); (try k_fold))
  k_with "LeaveT" => (fail "w32")
  k_with "w32" => (k_dflt (exact finOk (by assumption) (by assumption) (by assumption) (by assumption) (by k_asm) (by k_asm) (by assumption) (by k_mem) (by k_mem) (by k_asm) (by first | ((k_extra "c9"); omega) | omega) (by first | rfl | (exact beq_iff_eq.mpr (by law_clear; omega)) | (exfalso; law_clear; omega) | decide | (simp only [decide_eq_true_eq]; law_clear; omega))))
  k_with "call ref" => (fail "w33")
  k_with "w33" => (k_here; (with_reducible show wpAny _ _ (call (Value.ref 138) _) _ _ _); k_dflt (refine breader_three (by kxw_text) (by exact three_bytes (by decide) (by decide) (by decide) (by decide) (by decide) (by decide)) (by exact three_in (by decide) (by decide) (by decide) (by decide) (by decide) (by decide)) (by ktr_room) (by ktr_units) ?_); intro r' d' e1' e2' e3' k1' k2' k3' t1' t2' t3' h' tk' o1' o2' n1' F' N'; (try k_sweep); (try dsimp only); (try k_fold))
  k_with "call ref" => (fail "w34")
  k_with "w34" => (k_here; (with_reducible show wpAny _ _ (call (Value.ref 138) _) _ _ _); k_dflt (refine breader_one (by kxw_text) (by exact one_bytes (by law_clear; omega) (by law_clear; omega)) (by exact one_in (by law_clear; omega) (by law_clear; omega)) (by ktr_room) (by ktr_units) ?_); intro r' d' e1' e2' e3' k1' k2' k3' t1' t2' t3' h' tk' o1' o2' n1' x1' x2' F' N'; (try k_sweep); (try dsimp only); (try k_fold))
  k_with "subscriptTail Name Slice ref ref" => (fail "w35")
  k_with "w35" => (k_here; (with_reducible show wpAny _ _ (subscriptTail _ (PySem.Expr.Slice _ _ none _) (Value.ref _) (Value.ref _)) _ _ _); k_dflt (refine slice_two (by k_asm) (by k_asm) (by k_mem) ?_ (by with_unfolding_all rfl) (by intro _; with_unfolding_all rfl)); intro D' h' o1' F' N'; (try k_sweep); (try dsimp only); (try k_fold))
  k_with "kfm_cat2" => (fail "w36")
  k_with "w36" => (repeat ((with_reducible rename _ ∧ _ => hA); (have hB9 := hA.1); (have hC9 := hA.2); clear hA))
  trivial
theorem three_ints {a b c : Tok} : IntsAre [.int 0 a, .int 5 b, .int 0 c] [0, 5, 0] := .cons _ _ (.cons _ _ (.cons _ _ .nil))
theorem wordsRR1 : True := by
  k_with "subscriptTail Name Slice ref ref" => (fail "w37")
  k_with "w37" => (k_here; (with_reducible show wpAny _ _ (subscriptTail _ (PySem.Expr.Slice none (some _) none _) (Value.ref _) (Value.ref _)) _ _ _); k_dflt (refine slice_my (by k_asm) (by k_asm) (by k_mem) three_ints (by decide) IsPart.none (IsPart.int _ _) (kmk_upto three_ints (by assumption)) ?_ (by with_unfolding_all rfl) (by intro _; with_unfolding_all rfl)); intro D' ws' h' hI' o1' F' N'; (try k_sweep))
  k_with "subscriptTail Name Slice ref ref" => (fail "w38")
  k_with "w38" => (k_here; (with_reducible show wpAny _ _ (subscriptTail _ (PySem.Expr.Slice (some _) (some _) none _) (Value.ref _) (Value.ref _)) _ _ _); k_dflt (refine slice_my (by k_asm) (by k_asm) (by k_mem) (by assumption) (by first | ((k_extra "c9"); omega) | omega) (IsPart.int _ _) (IsPart.int _ _) (kmk_run (by assumption) (by assumption) (by law_clear; omega)) ?_ (by with_unfolding_all rfl) (by intro _; with_unfolding_all rfl)); intro D' ws' h' hI' o1' F' N'; (try k_sweep))
  k_with "subscriptTail Name Slice ref ref" => (fail "w39")
  k_with "w39" => (k_here; (with_reducible show wpAny _ _ (subscriptTail _ (PySem.Expr.Slice (some _) none none _) (Value.ref _) (Value.ref _)) _ _ _); k_dflt (refine slice_my (by k_asm) (by k_asm) (by k_mem) (by assumption) (by first | ((k_extra "c9"); omega) | omega) (IsPart.int _ _) IsPart.none (kmk_from (by assumption) (by assumption)) ?_ (by with_unfolding_all rfl) (by intro _; with_unfolding_all rfl)); intro D' ws' h' hI' o1' F' N'; (try k_sweep))
  k_with "binaryOp Add ref ref" => (fail "w40")
  k_with "w40" => (k_here; (with_reducible show wpAny _ _ (binaryOp Operator.Add (Value.ref _) (Value.ref _)) _ _ _); k_dflt (refine add_octs (by k_asm) (by k_asm) (by k_mem) (by k_mem) (by assumption) (by assumption) (by assumption) (by assumption) ?_); intro D' ys' xs' h' hI' hO' hL' o1' F' N'; (try k_sweep); (try dsimp only); (try k_fold))
  k_with "exec Assign cons ListComp" => (fail "w41")
  k_with "w41" => (k_here; k_dflt (refine Assign_ListComp_2 (F₀ := by k_asm) (by rfl) (by with_unfolding_all rfl) (by with_unfolding_all rfl) (by decide) (by rfl) (by decide) (by rfl) (by rfl) (by rfl) (by rfl) (by decide) (by intro _ _; with_unfolding_all rfl) ?_ (by intro _; with_unfolding_all rfl)))
  k_with "CompSrc2" => (fail "w42")
  k_with "w42" => (k_here; k_dflt (refine src2_bits rfl (by k_asm) (by k_asm) (by k_mem) (by assumption) (by assumption) (by assumption) ?_ ?_); ((intro k' t' I' oI' C' oC' D' m' ys' h' tk' E' hk' hk2' hC' hx' F' N' off' ne'; (try (simp only [LCg.Off3, and_true] at off'))); rotate_left; (intro ys' bs' D' h' tk' hI' hB' hL' hV' o1' F' N'; (try k_sweep); (try dsimp only); (try k_fold)); rotate_left))
  k_with "Src2" => (fail "w43")
  k_with "w43" => (k_dflt (exact ⟨_, _, _, _, _, rfl, rfl, by k_asm, by k_asm, by assumption, by (try simp only [LCg.Off1, and_true]); assumption⟩))
  k_with "exec For Name Call cons nil" => (fail "w44")
  k_with "w44" => (k_here; k_dflt (refine For_T rfl rfl ?_ (by intro _; rfl)))
  k_with "LoopT" => fail "here"
  k_with "KEnd" => (fail "w45")
  k_with "w45" => (k_dflt (exact rr_kend (by k_asm) (by k_asm) (by k_mem) (by k_mem) (by k_mem) (by k_mem) (by k_mem) (by k_mem) (by k_mem) (by k_ne) (by k_ne) (by k_ne) (by k_ne) (by k_ne) (by k_ne) (by rfl) (by intro z h1 e1 e2 e3 h3; simp +zetaDelta only [if_neg h1, if_neg e1, if_neg e2, if_neg e3, h3, Bool.false_eq_true, if_false]) (by k_asm) (by law_clear; omega) (by law_clear; omega) (by law_clear; omega) ⟨by assumption, by assumption, by assumption, by assumption, by assumption⟩))
  k_with "compareOp In int ref" => (fail "w46")
  k_with "w46" => (k_here; k_dflt (refine one_in_bits (by k_asm) (by k_mem) (by assumption) (by assumption) (by assumption) (fun b1' => ?_) (fun b1' => ?_)))
  k_with "call ref" => (fail "w47")
  k_with "w47" => (k_here; (with_reducible show wpAny _ _ (call (Value.ref 298) [Value.ref 312, _, _]) _ _ _); (k_dflt (first | (refine end_bitsI (by kxw_bool) (by k_mem) (by k_mem) (by k_ne) (by assumption) (by assumption) (by assumption) (by law_clear; omega) (by law_clear; omega) (by assumption) (by ktr_room) (by ktr_units) ?_; intro l' q1' q2' q3' h' tk' o1') | (refine end_okI (by kxw_bool) (by k_mem) (by k_mem) (by k_ne) (by assumption) (by assumption) (by assumption) (by law_clear; omega) (by law_clear; omega) (by assumption) (by ktr_room) (by ktr_units) ?_; intro l' q1' h' tk' o1') | (refine end_octetsI (by kxw_bool) (by k_mem) (by k_mem) (by k_ne) (by assumption) (by assumption) (by assumption) (by law_clear; omega) (by law_clear; omega) (by ktr_room) (by ktr_units) ?_; intro l' q1' q2' q3' h' tk' o1'))); kpt_eq; kfm_cat2)
  k_with "LeaveT" => (fail "w48")
  k_with "w48" => (k_dflt (exact finOk3 (by assumption) (by assumption) (by assumption) (by assumption) (by assumption) (by k_asm) (by k_asm) (by assumption) (by k_mem) (by k_mem) (by k_mem) (by k_asm) (by first | ((k_extra "c9"); omega) | omega) (by first | rfl | decide)))
  k_with "KPost" => (unfold KPost; dsimp only)
  k_with "subscriptTail" => (fail "w49")
  k_with "w49" => (k_here; (with_reducible show wpAny _ _ (subscriptTail _ _ (Value.ref _) (Value.int _ _)) _ _ _); k_dflt (refine item_four (by k_asm) (by k_mem) (by assumption) (by assumption) (by law_clear; omega) (by law_clear; omega) (by law_clear; omega) (by decide) ?_); intro w' t' w0' w1')
  k_with "call ref" => (fail "w50")
  k_with "w50" => (k_here; (with_reducible show wpAny _ _ (call (Value.ref 298) [Value.ref 305, _, _]) _ _ _); (k_dflt (refine take_both (by kxw_bool) (by k_mem) (by k_updF) (by k_ne) (by assumption) (by assumption) (by assumption) (by law_clear; omega) (by assumption) (by law_clear; omega) (by ktr_room) (by ktr_units) (fun b0' => ?_) (fun b0' => ?_))) <;> (first | (intro l' q1' q2' q3' h' tk' o1'; kpt_eq; kfm_cat2) | (intro l' q1' q2' t3' h' tk' o1'; kpt_eq; kfm_cat2)))
  k_with "call ref" => (fail "w51")
  k_with "w51" => (k_here; (with_reducible show wpAny _ _ (call (Value.ref 286) _) _ _ _); k_dflt (refine number_run (by kxw_text) (by k_mem) (by assumption) (by assumption) (by assumption) (by assumption) (by assumption) (by law_clear; omega) (by law_clear; omega) (by ktr_room) (by ktr_units) ?_); intro t' h' tk' F' N'; (try k_sweep); (try dsimp only); (try k_fold))
  trivial
theorem read_spec {prog p : Program} {w : World} {loose : List Str} {mean : ExcName → Option Value} {mg mb : Str → Option Value} {dp un : Nat} {gd : Option (List Code)} {cn : Str} {cs : Scope} {a : Addr} {ccd : Value} {outer : List Env} {A₀ : Around} {base h₀ : Heap} {L : Addr} {m : Str → Option Value} {s : Shared} {Q E : Value → Shared → Prop}
    {news : List (Addr × Obj)}
    {c r : Addr} {oc : Obj} {gU : Obj → List (Addr × Obj)} {rv : List Value} {rs : List Int} {nr : Nat} {i : Int} {t9 : Tok}
    (S : SiteS w p loose mean mg mb cs outer A₀ base h₀ L m news s.heap)
    (U : UpdF c oc news gU) (hd : oc.IsDictOf (PySem.strKind prog w) [(Str.ofString "row", .ref r), (Str.ofString "at", .int i t9)])
    (hr : (r, PySem.W.listOf rv.toArray nr) ∈ news) (hrc : r ≠ c) (hi : IntsAre rv rs) (hrs : rs.length ≤ 50) (hi0 : 0 ≤ i) (hi1 : i ≤ 40) {l : Addr} {ov : List Value} {os : List Int} {nl : Nat} (hl : (l, PySem.W.listOf ov.toArray nl) ∈ news) (hlr : l ≠ r) (hlc : l ≠ c) (ho : IntsAre ov os) (hob : ∀ x ∈ os, 0 ≤ x ∧ x < 256) (hol : os.length ≤ 18)
    (hdp : dp + 40 ≤ 400) (hun : un + 400 ≤ 3000)
    (hh : OkC prog w p loose mean mg mb outer A₀ base h₀ L m gU r (i + 10) s Q) :
    wpAny (model prog w) (ktrTop dp un gd cn cs L a ccd [] outer) (call (.ref 331) [.ref c, .ref l]) Q E s := by
  have hsub : ∀ q ∈ [(l, PySem.W.listOf ov.toArray nl), (r, PySem.W.listOf rv.toArray nr), (c, oc)], q ∈ news := by
    intro q hq
    rcases List.mem_cons.mp hq with rfl | hq
    · exact hl
    rcases List.mem_cons.mp hq with rfl | hq
    · exact hr
    · rcases List.mem_cons.mp hq with rfl | hq
      · exact updF_was U
      · nomatch hq
  have XB := S.XB
  have N00 := S.N
  have TB := S.TB
  have hrc := neN hrc
  have hlr := neN hlr
  have hlc := neN hlc
  k_dflt kts_go
  k_steps
  with_reducible rename IsRange _ _ _ _ _ _ _ _ => kR
  with_reducible rename Fr _ _ _ _ => kF
  with_reducible rename News _ _ _ _ => kN
  with_reducible rename Obj.IsDictOf _ _ _ => kD
  with_reducible rename Below _ _ _ _ => kB
  with_reducible rename Top _ _ _ _ _ _ => kT
  with_reducible rename KtsDicts _ _ => kDi
  with_reducible rename KtsTurn _ _ _ => kTu
  with_reducible rename Frag.In _ _ => kX
  kfm_cat2
  refine LoopRR (G := Grd w p loose mean mg mb _ _ _ _ _) rfl kR kF kN rfl ?c0 kD ⟨kTu, kB, kX, kT, kDi⟩ ?turn ?done
  case c0 => omega
  case turn => 
    clear kR kF kN kD kB kT kDi kTu kX
    (with_reducible rename Fr _ _ _ _ => kF; clear kF)
    (with_reducible rename News _ _ _ _ => kN; clear kN)
    with_reducible rename KBa.In _ => kI
    have hW0 := (rdV_range kI).1
    intro j' P' i' oc' t9' t3' tP' t' u' g' h' tk' I' oI' hj' p0' p1' ei' d' G' o1' F' N'
    obtain ⟨T0', B', X', T', D'⟩ := G'
    kfm_cat2
    subst ei'
    dsimp only [envOf] at F' N'
    (try dsimp only)
    (try k_fold)
    k_steps
  case done =>
    clear kR kF kN kD kB kT kDi kTu kX
    (with_reducible rename Fr _ _ _ _ => kF; clear kF)
    (with_reducible rename News _ _ _ _ => kN; clear kN)
    with_reducible rename KBa.In _ => kI
    have hW0 := (rdV_range kI).1
    intro P' i' oc' t9' t3' tP' u' g' h' tk' p0' p1' ei' d' G' F' N'
    obtain ⟨T0', B', X', T', D'⟩ := G'
    subst ei'
    dsimp only [envOf] at F' N'
    (try dsimp only)
    (try k_fold)
    k_steps
end Mine
end

section
namespace Mine
open PySem.W.X
theorem wordsWR0 : True := by
  k_with_none
  w_top off
  k_with "a9" => (with_reducible assumption)
  k_with "c9" => (repeat (with_reducible rename _ ∧ _ => hA9; clear hA9)); (repeat (with_reducible rename _ ≠ _ => hA9; clear hA9))
  k_with "u9" => ((with_reducible rename News _ _ _ _ => N9); dsimp +zetaDelta only at N9)
  k_with "p0" => (refine offAt (by fail "a9") 0 ?_; exact rfl)
  k_with "p1" => (refine offAt (by fail "a9") 1 ?_; exact rfl)
  k_with "p2" => (refine offAt (by fail "a9") 2 ?_; exact rfl)
  k_with "p3" => (refine offAt (by fail "a9") 3 ?_; exact rfl)
  k_with "p4" => (refine offAt (by fail "a9") 4 ?_; exact rfl)
  k_with "p5" => (refine offAt (by fail "a9") 5 ?_; exact rfl)
  k_with "p6" => (refine offAt (by fail "a9") 6 ?_; exact rfl)
  k_with "p7" => (refine offAt (by fail "a9") 7 ?_; exact rfl)
  k_with "p8" => (refine offAt (by fail "a9") 8 ?_; exact rfl)
  k_with "p9" => (refine offAt (by fail "a9") 9 ?_; exact rfl)
  k_with "p10" => (refine offAt (by fail "a9") 10 ?_; exact rfl)
  k_with "p11" => (refine offAt (by fail "a9") 11 ?_; exact rfl)
  k_with "p12" => (refine offAt (by fail "a9") 12 ?_; exact rfl)
  k_with "p13" => (refine offAt (by fail "a9") 13 ?_; exact rfl)
  k_with "p14" => (refine ltAt (by fail "a9") 0 ?_; exact rfl)
  k_with "p15" => (refine ltAt (by fail "a9") 1 ?_; exact rfl)
  k_with "p16" => (refine ltAt (by fail "a9") 2 ?_; exact rfl)
  k_with "p17" => (refine ltAt (by fail "a9") 3 ?_; exact rfl)
  k_with "p18" => (refine ltAt (by fail "a9") 4 ?_; exact rfl)
  k_with "p19" => (refine ltAt (by fail "a9") 5 ?_; exact rfl)
  k_with "p20" => (refine ltAt (by fail "a9") 6 ?_; exact rfl)
  k_with "p21" => (refine ltAt (by fail "a9") 7 ?_; exact rfl)
  k_with "p22" => (refine ltAt (by fail "a9") 8 ?_; exact rfl)
  k_with "p23" => (refine ltAt (by fail "a9") 9 ?_; exact rfl)
  k_with "p24" => (refine ltAt (by fail "a9") 10 ?_; exact rfl)
  k_with "p25" => (refine ltAt (by fail "a9") 11 ?_; exact rfl)
  k_with "p26" => (refine ltAt (by fail "a9") 12 ?_; exact rfl)
  k_with "p27" => (refine ltAt (by fail "a9") 13 ?_; exact rfl)
  k_with "r9" => (fail "w1")
  k_with "w1" => (first | fail "a9" | exact Nat.le_of_lt (by fail "a9"))
  k_with "offs9" => (first | fail "p0" | fail "p1" | fail "p2" | fail "p3" | fail "p4" | fail "p5" | fail "p6" | fail "p7" | fail "p8" | fail "p9" | fail "p10" | fail "p11" | fail "p12" | fail "p13" | fail "p14" | fail "p15" | fail "p16" | fail "p17" | fail "p18" | fail "p19" | fail "p20" | fail "p21" | fail "p22" | fail "p23" | fail "p24" | fail "p25" | fail "p26" | fail "p27")
  k_with "mem9" => (fail "w2")
  k_with "w2" => (first | exact List.Mem.head _ | exact List.Mem.tail _ (List.Mem.head _) | (refine memAt 0 ?_; exact rfl) | (refine memAt 1 ?_; exact rfl) | (refine memAt 2 ?_; exact rfl) | (refine memAt 3 ?_; exact rfl) | (refine memAt 4 ?_; exact rfl) | (refine memAt 5 ?_; exact rfl) | (refine memAt 6 ?_; exact rfl) | (refine memAt 7 ?_; exact rfl) | (refine memAt 8 ?_; exact rfl) | (refine memAt 9 ?_; exact rfl) | (refine memAt 10 ?_; exact rfl) | (refine memAt 11 ?_; exact rfl) | (refine memAt 12 ?_; exact rfl) | (refine memAt 13 ?_; exact rfl) | (refine memAt 14 ?_; exact rfl) | (refine memAt 15 ?_; exact rfl) | (refine memAt 16 ?_; exact rfl) | (refine memAt 17 ?_; exact rfl))
  k_with "lts9" => (fail "w3")
  k_with "w3" => (first | (refine ltB (by fail "a9") 0 ?_; exact rfl) | (refine ltB (by fail "a9") 1 ?_; exact rfl) | (refine ltB (by fail "a9") 2 ?_; exact rfl) | (refine ltB (by fail "a9") 3 ?_; exact rfl) | (refine ltB (by fail "a9") 4 ?_; exact rfl) | (refine ltB (by fail "a9") 5 ?_; exact rfl) | (refine ltB (by fail "a9") 6 ?_; exact rfl) | (refine ltB (by fail "a9") 7 ?_; exact rfl) | (refine ltB (by fail "a9") 8 ?_; exact rfl) | (refine ltB (by fail "a9") 9 ?_; exact rfl) | (refine ltB (by fail "a9") 10 ?_; exact rfl) | (refine ltB (by fail "a9") 11 ?_; exact rfl) | (refine ltB (by fail "a9") 12 ?_; exact rfl) | (refine ltB (by fail "a9") 13 ?_; exact rfl))
  k_with "rooms9" => (fail "w4")
  k_with "w4" => (first | (refine rl2 (by fail "r9") ?_; exact rfl) | (refine rl1 (by fail "r9") ?_; exact rfl) | (refine rl3 (by fail "r9") ?_; exact rfl) | (refine rl0 (by fail "r9") ?_; exact rfl) | (refine rl4 (by fail "r9") ?_; exact rfl) | (refine rm2 (by fail "r9") ?_; exact rfl) | (refine rm1 (by fail "r9") ?_; exact rfl) | (refine rm3 (by fail "r9") ?_; exact rfl) | (refine rm0 (by fail "r9") ?_; exact rfl) | (refine rm4 (by fail "r9") ?_; exact rfl))
  k_with "k_ne" => (fail "w5")
  k_with "w5" => (refine neN ?_; (try dsimp only); first | fail "a9" | (refine Ne.symm ?_; fail "a9") | exact Nat.ne_of_lt (by fail "a9") | exact Nat.ne_of_gt (by fail "a9") | k_extra "offs9" | (refine Ne.symm ?_; first | k_extra "offs9") | ((try simp only [LCg.Off1, and_true] at *); omega))
  k_with "k_mem" => (fail "w6")
  k_with "w6" => (first | fail "a9" | k_extra "mem9")
  k_with "k_memK" => (first | k_extra "mem9")
  k_with "is_list" => (fail "w7")
  k_with "w7" => (exact News.isList (by fail "a9") (by k_mem))
  k_with "ktr_room" => (fail "w8")
  k_with "w8" => ((try dsimp only [depth_under_make, depth_under_kw, depth_in1, depth_deeper, depth_caller]); (try dsimp only [ktrTop]); first | decide | k_extra "rooms9")
  k_with "units_room" => (fail "w9")
  k_with "w9" => ((try dsimp only [units_in1, units_deeper, Around.mark_units, units_caller]); (try dsimp only [ktrTop]); first | decide | k_extra "rooms9")
  k_with "l_idx" => ((k_extra "c9"); omega)
  k_with "l_fit" => ((k_extra "c9"); omega)
  k_with "ktr_units" => (fail "w10")
  k_with "w10" => ((try dsimp only [units_in1, units_deeper, Around.mark_units, units_caller]); (try dsimp only [ktrTop]); first | decide | k_extra "rooms9")
  k_with "execs cons" => (fail "w11")
  k_with "w11" => (k_here; first | k_gentoks | ((try dsimp only); (try k_gentoks); (try ((with_reducible rename Fr _ _ _ _ => F9); refine letF F9 ?_; clear F9; intro m9 F9)); (first | (with_reducible refine execHidB fun q9 hq9 => ?_) | (refine hideQ fun q9 hq9 => ?_; with_reducible refine execHidB fun q9 hq9 => ?_))))
  k_with "Hid" => (fail "w12")
  k_with "w12" => (first | ((with_reducible refine unhidNextT (by fail "a9") ?_); intro tk9; (try dsimp only)) | ((with_reducible refine unhidNext (by fail "a9") ?_); (try dsimp only)) | ((with_reducible refine unhidRet (by fail "a9") ?_); (try dsimp only)) | ((with_reducible refine unhid (by fail "a9") ?_); (try dsimp only [Behind])))
  k_with "spliced" => (fail "w13")
  k_with "w13" => (k_here; (with_reducible show wpAny _ _ (spliced (backTo _ (starEach (_ :: _ :: _ :: _) _))) _ _ _); k_dflt (refine' args_cons ?_ ?_; rotate_left; rfl))
  k_with "spliced" => (fail "w14")
  k_with "w14" => (k_here; k_dflt ((refine' argsF ?_ ?_ ?_ ?_); (rotate_left 4); k_asm; rfl; rfl); (try dsimp only [List.nil_append, List.cons_append]))
  k_with "eval Call" => (fail "w15")
  k_with "w15" => (k_here; (with_reducible show wpAny _ _ (eval (PySem.Expr.Call (PySem.Expr.Name _ _) (_ :: _) [] _) _) _ _ _); first | (k_dflt ((refine' callF ?_ ?_ ?_ ?_ ?_ ?_ ?_ ?_ ?_ ?_ ?_); (rotate_left 10); k_asm; k_asm; k_asm; k_is; k_is; rfl; rfl; rfl; rotate_left; decide; rfl)) | k_compRoot | k_dflt (refine' Call_ ?_))
  k_with "eval Name" => (fail "w16")
  k_with "w16" => (k_here; (with_reducible show wpAny _ _ (eval (PySem.Expr.Name _ _) (envOf _ _ _ _ _)) _ _ _); first | k_dflt ((refine' nameX_K ?_ ?_ ?_ ?_ ?_ ?_ ?_ ?_); (rotate_left 8); k_asm; k_asm; k_asm; k_is; rotate_left; rfl; rfl; decide) | k_dflt ((refine' nameX_L ?_ ?_ ?_ ?_ ?_ ?_); (rotate_left 3); k_asm; rfl; rotate_left; rfl; rfl; decide))
  k_with "callWith ref" => (fail "w17")
  k_with "w17" => (k_here; (with_reducible show wpAny _ _ (callWith _ _ _ (backTo _ (starEach [] _)) []) _ _ _); k_dflt (refine callF0 (by fail "a9") (by fail "a9") (by k_is) ?_))
  k_with "k_lt" => skip
  k_with "kts_go" => (fail "w18")
  k_with "w18" => (refine enterS (by assumption) (by assumption) (by k_is) (by k_is) (by ktr_room) (by exact BindsTo.of_eq rfl) (by exact locs rfl) ?_ (by exact rfl) (by exact rfl) (by exact rfl) (by decide); k_whole; intro g' L' h' F' N' B' X' T' D' lN' gN' tk9'; (have T0' := turn0 D'); (try k_lt lN'); (try k_sweep); (try dsimp only); (try k_fold))
  k_with "kxw_text" => (fail "w19")
  k_with "w19" => exact ⟨by k_asm, by k_asm, by k_asm, by k_asm, by k_asm, by first | exact rfl | assumption⟩
  k_with "kxw_bool" => (fail "w20")
  k_with "w20" => exact ⟨by k_asm, by k_asm, by k_asm, by k_asm, by k_asm, by assumption, by assumption, by assumption, by first | exact rfl | assumption⟩
  k_with "kpt_eq" => (fail "w21")
  k_with "w21" => (unfold BackT; (try (with_reducible rename Fr _ _ _ _ => oF; clear oF)); (try (with_reducible rename News _ _ _ _ => oN; clear oN)); (try (with_reducible rename Below _ _ _ _ => oB; clear oB)); (try (with_reducible rename Top _ _ _ _ _ _ => oT; clear oT)); intro kg Tn' F' N' B' X' P' D'; k_dflt (have T0' := KtsTurn.trans (by assumption) Tn'); (try dsimp only at N'); (try k_sweep); (try dsimp only); (try k_fold))
  k_with "call ref" => (fail "w22")
  k_with "w22" => (k_here; (with_reducible show wpAny _ _ (call (Value.ref 276) _) _ _ _); k_dflt (refine cut_spec (by kxw_text) (by k_updF) (by k_asm) (by k_mem) (by k_ne) (by assumption) (by assumption) (by first | ((k_extra "c9"); omega) | omega) (by first | ((k_extra "c9"); omega) | omega) (by first | decide | ((k_extra "c9"); omega) | omega) (by first | decide | ((k_extra "c9"); omega) | omega) (by ktr_room) (by ktr_units) ?_); intro v' oc' t' t2' h' tk' lo' hi' d' F' N'; (try dsimp only at N'); (try k_sweep); (try dsimp only); (try k_fold))
  k_with "call ref" => (fail "w23")
  k_with "w23" => (k_here; (with_reducible show wpAny _ _ (call (Value.ref 281) _) _ _ _); k_dflt (refine bits_spec (by kxw_text) (by first | decide | ((k_extra "c9"); omega) | omega) (by first | decide | ((k_extra "c9"); omega) | omega) (by first | ((k_extra "c9"); omega) | omega) (by first | ((k_extra "c9"); omega) | omega) (by ktr_room) (by ktr_units) ?_); intro l' vs' n' h' tk' i' o1' F' N'; (try k_sweep); (try dsimp only); (try k_fold))
  k_with "call ref" => (fail "w24")
  k_with "w24" => (k_here; (with_reducible show wpAny _ _ (call (Value.ref 103) _) _ _ _); k_dflt (refine bwriter_spec (by kxw_text) (by ktr_room) (by ktr_units) ?_); intro r' d' e1' e2' k1' k2' t1' t2' h' tk' o1' o2' n1' F' N'; (try k_sweep); (try dsimp only); (try k_fold))
  k_with "call ref" => (fail "w25")
  k_with "w25" => (k_here; (with_reducible show wpAny _ _ (call (Value.ref 138) _) _ _ _); k_dflt (refine breader_spec (by kxw_text) (by first | assumption | exact KBa.ints_make (by assumption)) (by first | assumption | exact wOct_in _ _) (by first | (rw [wOct_len]; omega) | l_fact) (by ktr_room) (by ktr_units) ?_); intro r' d' e1' e2' e3' k1' k2' k3' t1' t2' t3' h' tk' o1' o2' n1' F' N'; (try k_sweep); (try dsimp only); (try k_fold))
  k_with "call ref" => (fail "w26")
  k_with "w26" => (k_here; (with_reducible show wpAny _ _ (call (Value.ref 138) _) _ _ _); k_dflt (refine breader_w (by kxw_text) (by assumption) (by first | assumption | decide | ((k_extra "c9"); omega) | omega) (by first | assumption | decide | ((k_extra "c9"); omega) | omega) (by first | ((k_extra "c9"); omega) | omega) (by first | exact (rfl : _ = 8) | exact (rfl : _ = 24) | exact rfl | assumption) (by ktr_room) (by ktr_units) ?_); intro r' d' e1' e2' e3' k1' k2' k3' t1' t2' t3' h' tk' o1' o2' n1' F' N'; (try k_sweep); (try dsimp only); (try k_fold))
  k_with "call ref" => (fail "w27")
  k_with "w27" => (k_here; (with_reducible show wpAny _ _ (call (Value.ref 95) _) _ _ _); k_dflt (refine put_spec (by kxw_text) (by k_mem) (by k_updF) (by k_ne) (by first | assumption | decide | ((k_extra "c9"); omega) | omega) (by first | assumption | decide | ((k_extra "c9"); omega) | omega) (by first | decide | ((k_extra "c9"); omega) | omega) (by first | decide | ((k_extra "c9"); omega) | omega) (by ktr_room) (by ktr_units) ?_); intro W' t1' t2' h' tk' eW' lW' hW' F' N'; (try simp only [bitAnd_m3, fdiv_8, fdiv_64, fdiv_256, Int.reduceToNat, Nat.reduceAdd, Int.reducePow] at eW'); (try dsimp only at N'); (try k_sweep); (try dsimp only); (try k_fold))
  k_with "call ref" => (fail "w28")
  k_with "w28" => (k_here; (with_reducible show wpAny _ _ (call (Value.ref 100) _) _ _ _); k_dflt (refine wocts_spec (by kxw_text) (by k_mem) (by k_mem) (by k_ne) (by first | decide | ((k_extra "c9"); omega) | omega) (by first | assumption | decide | ((k_extra "c9"); omega) | omega) (by ktr_room) (by ktr_units) ?_); intro b' t' h' tk' hb' F' N'; (try k_sweep); (try dsimp only); (try k_fold))
  k_with "call ref" => (fail "w29")
  k_with "w29" => (k_here; (with_reducible show wpAny _ _ (call (Value.ref 291) _) _ _ _); k_dflt (refine octets_spec (by kxw_text) (by k_mem) (by first | k_asm | l_ints) (by first | omega | l_fact) (by ktr_room) (by ktr_units) ?_); intro l' vs' n' h' tk' i' o1' F' N'; (try k_sweep); (try dsimp only); (try k_fold))
  k_with "call type:list" => (fail "w30")
  k_with "w30" => (k_here; (with_reducible show wpAny _ _ (call (Value.type "list") [Value.bytes _ _]) _ _ _); k_dflt (refine list_of_bytes rfl (by k_asm) (by k_asm) (by assumption) (by rw [wOct_len, sizeLine_eq]; omega) ?_); intro l' vs' n' h' tk' i' o1' F' N'; (try k_sweep); (try dsimp only); (try k_fold))
  k_with "call ref" => (fail "w31")
  k_with "w31" => (k_here; (with_reducible show wpAny _ _ (call (Value.ref 291) _) _ _ _); k_dflt (refine octets_w (by assumption) (by kxw_text) (by k_mem) (by first | k_asm | l_ints) (by first | assumption | (simp only [List.length_append, bitsL_len, List.length_cons, List.length_nil, Int.reduceToNat, Nat.reduceAdd, Nat.reduceLeDiff]; done) | (simp only [List.length_append, bitsL_len, List.length_cons, List.length_nil, Int.reduceToNat, Nat.reduceAdd]; omega)) (by repeat' first | exact bitsL_bits _ _ | assumption | refine Bits.append ?_ ?_ | exact Bits.nil | (refine Bits.one ?_; omega)) (by first | assumption | (simp only [numV_app, numV, numV_bitsL', List.length_append, bitsL_len, List.length_cons, List.length_nil, Int.reduceToNat, Nat.reduceAdd, Int.reducePow]; omega)) (by first | assumption | (simp only [List.length_append, bitsL_len, List.length_cons, List.length_nil, Int.reduceToNat, Nat.reduceAdd]; done) | (simp only [List.length_append, bitsL_len, List.length_cons, List.length_nil, Int.reduceToNat, Nat.reduceAdd]; omega)) (by ktr_room) (by ktr_units) ?_); intro l' vs' n' h' tk' i' o1' F' N'; (try k_sweep); (try dsimp only); (try k_fold))
  k_with "LeaveT" => (fail "w32")
  k_with "w32" => (k_dflt (exact finOk (by assumption) (by assumption) (by assumption) (by assumption) (by k_asm) (by k_asm) (by assumption) (by k_mem) (by k_mem) (by k_asm) (by first | ((k_extra "c9"); omega) | omega) (by first | rfl | (exact beq_iff_eq.mpr (by law_clear; omega)) | (exfalso; law_clear; omega) | decide | (simp only [decide_eq_true_eq]; law_clear; omega))))
  k_with "call ref" => (fail "w33")
  k_with "w33" => (k_here; (with_reducible show wpAny _ _ (call (Value.ref 138) _) _ _ _); k_dflt (refine breader_three (by kxw_text) (by exact three_bytes (by decide) (by decide) (by decide) (by decide) (by decide) (by decide)) (by exact three_in (by decide) (by decide) (by decide) (by decide) (by decide) (by decide)) (by ktr_room) (by ktr_units) ?_); intro r' d' e1' e2' e3' k1' k2' k3' t1' t2' t3' h' tk' o1' o2' n1' F' N'; (try k_sweep); (try dsimp only); (try k_fold))
  k_with "call ref" => (fail "w34")
  k_with "w34" => (k_here; (with_reducible show wpAny _ _ (call (Value.ref 138) _) _ _ _); k_dflt (refine breader_one (by kxw_text) (by exact one_bytes (by law_clear; omega) (by law_clear; omega)) (by exact one_in (by law_clear; omega) (by law_clear; omega)) (by ktr_room) (by ktr_units) ?_); intro r' d' e1' e2' e3' k1' k2' k3' t1' t2' t3' h' tk' o1' o2' n1' x1' x2' F' N'; (try k_sweep); (try dsimp only); (try k_fold))
  k_with "subscriptTail Name Slice ref ref" => (fail "w35")
  k_with "w35" => (k_here; (with_reducible show wpAny _ _ (subscriptTail _ (PySem.Expr.Slice _ _ none _) (Value.ref _) (Value.ref _)) _ _ _); k_dflt (refine slice_two (by k_asm) (by k_asm) (by k_mem) ?_ (by with_unfolding_all rfl) (by intro _; with_unfolding_all rfl)); intro D' h' o1' F' N'; (try k_sweep); (try dsimp only); (try k_fold))
  k_with "ktr_enter" => (fail "w36")
  k_with "w36" => (refine enterK (by assumption) (by assumption) (by k_is) (by k_is) (by ktr_room) (by exact BindsTo.of_eq rfl) (by exact locs rfl) ?_ (by exact rfl) (by exact rfl) (by exact rfl) (by decide); k_whole; intro g' L' h' F' N' B' X' T' lN' gN' tk9'; (try k_lt lN'); (try dsimp only); (try k_fold))
  trivial
/-- the state of the loop that writes -/
structure WrS where
  (W C : Int) (ns : List Int) (vs : List Value) (nl : Nat) (oc : Obj) (i : Int) (t9 t1 t2 : Tok)
abbrev wrLed (l c r wr dw : Addr) (rv : List Value) (nr : Nat) (ea eb : Int) (k1 k2 : Tok) (q : WrS) : List (Addr × Obj) :=
  [(l, PySem.W.listOf q.vs.toArray q.nl), (r, PySem.W.listOf rv.toArray nr), (c, q.oc), (wr, instObj 103 dw), (dw, dictOf [⟨ea, .str (Str.ofString "word") k1, .int q.W q.t1⟩, ⟨eb, .str (Str.ofString "count") k2, .int q.C q.t2⟩] 2)]
/-- what holds between its turns -/
structure WrP (prog : Program) (w : World) (r : Addr) (j : Int) (pre : List Int) (q : WrS) : Prop where
  hi : IntsAre q.vs q.ns
  hb : Bits q.ns
  hw : q.W = numV q.ns
  hc : q.C = (q.ns.length : Int)
  h0 : 0 ≤ q.W
  h1 : q.W < 2 ^ q.ns.length
  h2 : q.ns.length ≤ 20 * pre.length
  h3 : q.i = j + 3 * (pre.length : Int)
  hd : q.oc.IsDictOf (PySem.strKind prog w) [(Str.ofString "row", .ref r), (Str.ofString "at", .int q.i q.t9)]
theorem wr0 {prog : Program} {w : World} {r : Addr} {j : Int} {oc : Obj} {t9 t1 t2 : Tok} (h : oc.IsDictOf (PySem.strKind prog w) [(Str.ofString "row", .ref r), (Str.ofString "at", .int j t9)]) : WrP prog w r j [] ⟨0, 0, [], [], 0, oc, j, t9, t1, t2⟩ :=
  ⟨.nil, Bits.nil, rfl, rfl, Int.le_refl _, (by show (0 : Int) < 2 ^ 0; decide), Nat.le_refl _, (by simp), h⟩
theorem mul_cut {prog : Program} {w : World} {A : Around} {E : Value → Shared → Prop} {s : Shared} {a b : Int} {t u : Tok} {Q : Value → Shared → Prop} (a0 : 0 ≤ a) (a1 : a < 10 ^ Int.toNat 6) (b0 : 0 ≤ b) (b1 : b < 10 ^ Int.toNat 6)
    (h : ∀ (n : Int) (t : Tok) (tk : Nat), 0 ≤ n → n ≤ 1000000000000 → Q (.int n t) { s with toks := tk }) : wpAny (model prog w) A (binaryOp .Mult (.int a t) (.int b u)) Q E s := by
  have e : (10 : Int) ^ Int.toNat 6 = 1000000 := by decide
  rw [e] at a1 b1
  have h0 : 0 ≤ a * b := Int.mul_nonneg a0 b0
  have h1 : a * b ≤ 1000000 * 1000000 := Int.mul_le_mul (by omega) (by omega) b0 (by decide)
  exact mul_int (h _ _ _ h0 (by omega)) (hm := PySem.IntMulOk.of_left (PySem.intBits_le_64 (by omega) (by omega)))
theorem put_specI {prog p : Program} {w : World} {loose : List Str} {mean : ExcName → Option Value} {mg mb : Str → Option Value} {dp un : Nat} {gd : Option (List Code)} {cn : Str} {cs : Scope} {a : Addr} {ccd : Value} {outer : List Env} {A₀ : Around} {base h₀ : Heap} {L : Addr} {m : Str → Option Value} {s : Shared} {Q E : Value → Shared → Prop}
    {news : List (Addr × Obj)} {cl : List (Str × Addr)}
    {wr dw : Addr} {ea eb : Int} {k1 k2 t1 t2 tv tw : Tok} {W v wd : Int} {C : Nat} {gU : Obj → List (Addr × Obj)}
    (S : Site w p loose mean mg mb cs outer A₀ base h₀ L m news s.heap)
    (hr : (wr, instObj 103 dw) ∈ news) (U : UpdF dw (dictOf [⟨ea, .str (Str.ofString "word") k1, .int W t1⟩, ⟨eb, .str (Str.ofString "count") k2, .int (C : Int) t2⟩] 2) news gU)
    (hne : wr ≠ dw) (hW : 0 ≤ W) (hW2 : W < 2 ^ C) (hC : C ≤ 400) (hwd0 : 0 ≤ wd) (hwd : wd ≤ 64)
    (hdp : dp + 4 < recursionLimit) (hun : un + 40 < cLine)
    (h : ∀ (W' : Int) (t1 t2 : Tok) (h' : Heap) (tk' : Nat), W' = W + v % 2 ^ wd.toNat * 2 ^ C → 0 ≤ W' → W' < 2 ^ (C + wd.toNat) →
      Fr h₀ L h' m → News h₀ L h' (gU (dictOf [⟨ea, .str (Str.ofString "word") k1, .int W' t1⟩, ⟨eb, .str (Str.ofString "count") k2, .int ((C + wd.toNat : Nat) : Int) t2⟩] 2)) → Q .none { s with heap := h', toks := tk' }) :
    wpAny (model prog w) (ktrTop dp un gd cn cs L a ccd cl outer) (call (.ref 95) [.ref wr, .int v tv, .int wd tw]) Q E s := by
  obtain ⟨n, rfl⟩ := Int.eq_ofNat_of_zero_le hwd0
  exact put_spec S hr U hne hW hW2 hC (by omega) hdp hun h
theorem wr_next {prog : Program} {w : World} {r : Addr} {j i' W W' n wd k : Int} {oc : Obj} {t9 t1 t2 : Tok} {pre ns : List Int} {vs ws : List Value} {nl : Nat} (hi : IntsAre (vs ++ ws) (ns ++ bitsL n wd)) (hb : Bits ns) (hw : W = numV ns)
    (eW : W' = W + n % 2 ^ wd.toNat * 2 ^ ns.length) (l0 : 0 ≤ W') (l1 : W' < 2 ^ (ns.length + wd.toNat)) (h2 : ns.length ≤ 20 * pre.length) (hwd : wd ≤ 20)
    (hd : oc.IsDictOf (PySem.strKind prog w) [(Str.ofString "row", .ref r), (Str.ofString "at", .int i' t9)]) (ei : i' = j + 3 * (pre.length : Int) + 3) :
    WrP prog w r j (pre ++ [k]) ⟨W', ((ns.length + wd.toNat : Nat) : Int), ns ++ bitsL n wd, vs ++ ws, nl, oc, i', t9, t1, t2⟩ := by
  refine ⟨hi, hb.append (bitsL_bits _ _), ?_, ?_, l0, ?_, ?_, ?_, hd⟩
  · show W' = _
    rw [numV_app, numV_bitsL', eW, hw, Int.mul_comm (2 ^ ns.length)]
  · show ((ns.length + wd.toNat : Nat) : Int) = _
    rw [List.length_append, bitsL_len]
  · show W' < 2 ^ (ns ++ bitsL n wd).length
    rw [List.length_append, bitsL_len]
    exact l1
  · show (ns ++ bitsL n wd).length ≤ _
    rw [List.length_append, bitsL_len, List.length_append, List.length_singleton]
    omega
  · show i' = _
    rw [ei, List.length_append, List.length_singleton]
    omega
theorem wr_same {W : Int} {ns : List Int} (hb : Bits ns) (hw : W = numV ns) : wOct W ns.length = octR ns := by rw [octR_eq hb, hw]
theorem wr_small {n : Int} (h0 : 0 ≤ n) (h1 : n < 8) : Builtin.Range.small 0 n 1 = true := by
  obtain ⟨k, rfl⟩ := Int.eq_ofNat_of_zero_le h0
  exact (by decide : ∀ k : Fin 8, Builtin.Range.small 0 ((k.val : Nat) : Int) 1 = true) ⟨k, Int.ofNat_lt.mp h1⟩
theorem wr_size {n : Int} (h0 : 0 ≤ n) : Builtin.Range.rangeSize 0 n 1 = ((n.toNat : Nat) : Int) := by
  unfold Builtin.Range.rangeSize
  rw [if_pos (by decide)]
  split <;> omega
theorem wordsWR1 : True := by
  k_with "pyIter ref" => (fail "w37")
  k_with "w37" => (k_here; (with_reducible rename Fr _ _ _ _ => kF); (with_reducible rename News _ _ _ _ => kN); (with_reducible rename IsRange _ _ _ _ _ _ _ _ => kR); (with_reducible rename Obj.IsDictOf _ _ _ => kD); k_dflt (refine' kst_range (wrLed _ _ _ _ _ _ _ _ _ _ _) (fun _ => [(Str.ofString "due", .ref _)]) (fun _ => True) [Str.ofString "width", Str.ofString "number"] (WrP _ _ _ _) ⟨0, 0, [], [], 0, _, _, _, _, _⟩ rfl kR (wr_small (by assumption) (by assumption)) (wr_size (by assumption)) kF kN True.intro (by intro p hp; rw [List.mem_singleton.mp hp]; rfl) (wr0 kD) ?_ ?_); ((clear kF kN kR kD; intro q' pre' k' t' u' h' tk' own' e1' e2' off' _ P' F' N'; obtain ⟨W', C', ns', vs', nl', oc', i', t9', t1', t2'⟩ := q'; obtain ⟨hi', hb', hw', hc', h0', h1', h2', h3', hd'⟩ := P'; dsimp only at hi' hb' hw' hc' h0' h1' h2' h3' hd'; subst hc' h3'; (try dsimp only [wrLed] at N' off'); (try simp only [List.cons_append, List.nil_append] at N'); (try dsimp only [kstB] at F'); (try k_fold)); rotate_left; (clear kF kN kR kD; intro q' u' h' tk' _ P' F' N'; obtain ⟨W', C', ns', vs', nl', oc', i', t9', t1', t2'⟩ := q'; obtain ⟨hi', hb', hw', hc', h0', h1', h2', h3', hd'⟩ := P'; dsimp only at hi' hb' hw' hc' h0' h1' h2' h3' hd'; subst hc' h3'; (simp only [rangeKs_length] at h2' hd'); (try dsimp only [wrLed, envOf] at N'); (try dsimp only [kstB, envOf] at F'); (try dsimp only); (try k_fold)); rotate_left))
  k_with "binaryOp Mult int int" => (fail "w38")
  k_with "w38" => (k_here; k_dflt (refine mul_cut (by assumption) (by assumption) (by assumption) (by assumption) ?_); intro n' t' tk' n1' n2')
  k_with "call ref" => (fail "w39")
  k_with "w39" => (k_here; (with_reducible show wpAny _ _ (call (Value.ref 95) _) _ _ _); k_dflt (refine put_specI (by kxw_text) (by k_mem) (by k_updF) (by k_ne) (by first | assumption | decide | ((k_extra "c9"); omega) | omega) (by first | assumption | decide | ((k_extra "c9"); omega) | omega) (by first | decide | ((k_extra "c9"); omega) | omega) (by first | decide | ((k_extra "c9"); omega) | omega) (by first | decide | ((k_extra "c9"); omega) | omega) (by ktr_room) (by ktr_units) ?_); intro W' t1' t2' h' tk' eW' lW' hW' F' N'; (try dsimp only at N'); (try k_sweep); (try dsimp only); (try k_fold))
  k_with "inplaceOp Add ref ref" => (fail "w40")
  k_with "w40" => (k_here; (with_reducible show wpAny _ _ (inplaceOp Operator.Add (Value.ref _) (Value.ref _)) _ _ _); k_dflt (refine iadd_ints (by k_asm) (by k_asm) (by k_mem) (by k_updF) (by assumption) (by assumption) (by (simp only [bitsL_len]); omega) ?_); intro h' n' i' F' N'; (try dsimp only at N'); (try k_sweep); (try dsimp only); (try k_fold))
  k_with "InvEndN" => (fail "w41")
  k_with "w41" => (k_dflt (refine InvEndN.intro (by assumption) (by assumption) (nx := [(_, PySem.W.listOf (List.toArray _) _), (_, PySem.W.listOf _ _), (_, _), (_, instObj 103 _), (_, dictOf [⟨_, .str _ _, .int _ _⟩, ⟨_, .str _ _, .int _ _⟩] 2)]) ⟨⟨_, _, _, _, _, _, _, _, _, _⟩, rfl, True.intro, (by intro p hp; rw [List.mem_singleton.mp hp]; rfl), (by intro z h1 h2 h3; first | rfl | ((repeat first | with_reducible rfl | refine updNe (by first | fail "a9" | (refine neOf (by assumption) 0 ?_; exact rfl) | (refine neOf (by assumption) 1 ?_; exact rfl) | exact neHas (by assumption) (by with_reducible (first | exact List.mem_cons_self | exact List.mem_cons_of_mem _ (List.mem_cons_self) | exact List.mem_cons_of_mem _ (List.mem_cons_of_mem _ (List.mem_cons_self)) | exact List.mem_cons_of_mem _ (List.mem_cons_of_mem _ (List.mem_cons_of_mem _ (List.mem_cons_self))) | exact List.mem_cons_of_mem _ (List.mem_cons_of_mem _ (List.mem_cons_of_mem _ (List.mem_cons_of_mem _ (List.mem_cons_self)))) | exact List.mem_cons_of_mem _ (List.mem_cons_of_mem _ (List.mem_cons_of_mem _ (List.mem_cons_of_mem _ (List.mem_cons_of_mem _ (List.mem_cons_self))))) | exact List.mem_cons_of_mem _ (List.mem_cons_of_mem _ (List.mem_cons_of_mem _ (List.mem_cons_of_mem _ (List.mem_cons_of_mem _ (List.mem_cons_of_mem _ (List.mem_cons_self)))))) | exact List.mem_cons_of_mem _ (List.mem_cons_of_mem _ (List.mem_cons_of_mem _ (List.mem_cons_of_mem _ (List.mem_cons_of_mem _ (List.mem_cons_of_mem _ (List.mem_cons_of_mem _ (List.mem_cons_self)))))))))) ?_ | refine updHas (by first | fail "a9" | exact hasNil | exact hasCons (by first | fail "a9" | (refine neOf (by assumption) 0 ?_; exact rfl) | (refine neOf (by assumption) 1 ?_; exact rfl) | exact neHas (by assumption) (by with_reducible (first | exact List.mem_cons_self | exact List.mem_cons_of_mem _ (List.mem_cons_self) | exact List.mem_cons_of_mem _ (List.mem_cons_of_mem _ (List.mem_cons_self)) | exact List.mem_cons_of_mem _ (List.mem_cons_of_mem _ (List.mem_cons_of_mem _ (List.mem_cons_self))) | exact List.mem_cons_of_mem _ (List.mem_cons_of_mem _ (List.mem_cons_of_mem _ (List.mem_cons_of_mem _ (List.mem_cons_self)))) | exact List.mem_cons_of_mem _ (List.mem_cons_of_mem _ (List.mem_cons_of_mem _ (List.mem_cons_of_mem _ (List.mem_cons_of_mem _ (List.mem_cons_self))))) | exact List.mem_cons_of_mem _ (List.mem_cons_of_mem _ (List.mem_cons_of_mem _ (List.mem_cons_of_mem _ (List.mem_cons_of_mem _ (List.mem_cons_of_mem _ (List.mem_cons_self)))))) | exact List.mem_cons_of_mem _ (List.mem_cons_of_mem _ (List.mem_cons_of_mem _ (List.mem_cons_of_mem _ (List.mem_cons_of_mem _ (List.mem_cons_of_mem _ (List.mem_cons_of_mem _ (List.mem_cons_self)))))))))) (hasNil) | exact hasCons (by first | fail "a9" | (refine neOf (by assumption) 0 ?_; exact rfl) | (refine neOf (by assumption) 1 ?_; exact rfl) | exact neHas (by assumption) (by with_reducible (first | exact List.mem_cons_self | exact List.mem_cons_of_mem _ (List.mem_cons_self) | exact List.mem_cons_of_mem _ (List.mem_cons_of_mem _ (List.mem_cons_self)) | exact List.mem_cons_of_mem _ (List.mem_cons_of_mem _ (List.mem_cons_of_mem _ (List.mem_cons_self))) | exact List.mem_cons_of_mem _ (List.mem_cons_of_mem _ (List.mem_cons_of_mem _ (List.mem_cons_of_mem _ (List.mem_cons_self)))) | exact List.mem_cons_of_mem _ (List.mem_cons_of_mem _ (List.mem_cons_of_mem _ (List.mem_cons_of_mem _ (List.mem_cons_of_mem _ (List.mem_cons_self))))) | exact List.mem_cons_of_mem _ (List.mem_cons_of_mem _ (List.mem_cons_of_mem _ (List.mem_cons_of_mem _ (List.mem_cons_of_mem _ (List.mem_cons_of_mem _ (List.mem_cons_self)))))) | exact List.mem_cons_of_mem _ (List.mem_cons_of_mem _ (List.mem_cons_of_mem _ (List.mem_cons_of_mem _ (List.mem_cons_of_mem _ (List.mem_cons_of_mem _ (List.mem_cons_of_mem _ (List.mem_cons_self)))))))))) (hasCons (by first | fail "a9" | (refine neOf (by assumption) 0 ?_; exact rfl) | (refine neOf (by assumption) 1 ?_; exact rfl) | exact neHas (by assumption) (by with_reducible (first | exact List.mem_cons_self | exact List.mem_cons_of_mem _ (List.mem_cons_self) | exact List.mem_cons_of_mem _ (List.mem_cons_of_mem _ (List.mem_cons_self)) | exact List.mem_cons_of_mem _ (List.mem_cons_of_mem _ (List.mem_cons_of_mem _ (List.mem_cons_self))) | exact List.mem_cons_of_mem _ (List.mem_cons_of_mem _ (List.mem_cons_of_mem _ (List.mem_cons_of_mem _ (List.mem_cons_self)))) | exact List.mem_cons_of_mem _ (List.mem_cons_of_mem _ (List.mem_cons_of_mem _ (List.mem_cons_of_mem _ (List.mem_cons_of_mem _ (List.mem_cons_self))))) | exact List.mem_cons_of_mem _ (List.mem_cons_of_mem _ (List.mem_cons_of_mem _ (List.mem_cons_of_mem _ (List.mem_cons_of_mem _ (List.mem_cons_of_mem _ (List.mem_cons_self)))))) | exact List.mem_cons_of_mem _ (List.mem_cons_of_mem _ (List.mem_cons_of_mem _ (List.mem_cons_of_mem _ (List.mem_cons_of_mem _ (List.mem_cons_of_mem _ (List.mem_cons_of_mem _ (List.mem_cons_self)))))))))) (hasNil))) ?_); all_goals fail) | (simp_all +zetaDelta; done)), wr_next (by assumption) (by assumption) (by assumption) (by assumption) (by assumption) (by assumption) (by assumption) (by first | ((k_extra "c9"); omega) | omega) (by k_asm) (by first | ((k_extra "c9"); omega) | omega)⟩ (by rfl) (by k_allIn) (by intro p hp; k_ownIn)))
  trivial
theorem written_spec {prog p : Program} {w : World} {loose : List Str} {mean : ExcName → Option Value} {mg mb : Str → Option Value} {dp un : Nat} {gd : Option (List Code)} {cn : Str} {cs : Scope} {a : Addr} {ccd : Value} {outer : List Env} {A₀ : Around} {base h₀ : Heap} {L : Addr} {m : Str → Option Value} {s : Shared} {Q E : Value → Shared → Prop}
    {news : List (Addr × Obj)} {cl : List (Str × Addr)}
    {c r wr dw : Addr} {oc : Obj} {rv : List Value} {rs : List Int} {nr : Nat} {i : Int} {t9 k1 k2 t1 t2 : Tok} {ea eb : Int}
    (S : Site w p loose mean mg mb cs outer A₀ base h₀ L m [(r, PySem.W.listOf rv.toArray nr), (c, oc), (wr, instObj 103 dw), (dw, dictOf [⟨ea, .str (Str.ofString "word") k1, .int 0 t1⟩, ⟨eb, .str (Str.ofString "count") k2, .int 0 t2⟩] 2)] s.heap)
    (hd : oc.IsDictOf (PySem.strKind prog w) [(Str.ofString "row", .ref r), (Str.ofString "at", .int i t9)])
    (n1 : r ≠ c) (n2 : wr ≠ dw) (n3 : r ≠ wr) (n4 : r ≠ dw) (n5 : c ≠ wr) (n6 : c ≠ dw) (hi : IntsAre rv rs) (hrs : rs.length ≤ 50) (hi0 : 0 ≤ i) (hi1 : i ≤ 5)
    (hdp : dp + 40 < recursionLimit) (hun : un + 400 < cLine)
    (h : ∀ (l : Addr) (vs : List Value) (ns : List Int) (nl : Nat) (oc' : Obj) (i' : Int) (t9 : Tok) (h' : Heap) (tk' : Nat), IntsAre vs ns → Bits ns → ns.length ≤ 140 → 0 ≤ i' → i' ≤ i + 29 → oc'.IsDictOf (PySem.strKind prog w) [(Str.ofString "row", .ref r), (Str.ofString "at", .int i' t9)] →
      (@Ne Nat l c) → (@Ne Nat l r) → Fr h₀ L h' m → News h₀ L h' [(l, PySem.W.listOf vs.toArray nl), (r, PySem.W.listOf rv.toArray nr), (c, oc')] → Q (.ref l) { s with heap := h', toks := tk' }) :
    wpAny (model prog w) (ktrTop dp un gd cn cs L a ccd cl outer) (call (.ref 326) [.ref c, .ref wr]) Q E s := by
  have hsub : ∀ q ∈ [(r, PySem.W.listOf rv.toArray nr), (c, oc), (wr, instObj 103 dw), (dw, dictOf [⟨ea, .str (Str.ofString "word") k1, .int 0 t1⟩, ⟨eb, .str (Str.ofString "count") k2, .int 0 t2⟩] 2)], q ∈ [(r, PySem.W.listOf rv.toArray nr), (c, oc), (wr, instObj 103 dw), (dw, dictOf [⟨ea, .str (Str.ofString "word") k1, .int 0 t1⟩, ⟨eb, .str (Str.ofString "count") k2, .int 0 t2⟩] 2)] := fun _ h => h
  have n1 := neN n1
  have n2 := neN n2
  have n3 := neN n3
  have n4 := neN n4
  have n5 := neN n5
  have n6 := neN n6
  k_dflt ktr_enter
  k_steps
  · refine' leaveE_ (by assumption) (by assumption) ⟨[(_, PySem.W.listOf (List.toArray _) _), (r, PySem.W.listOf rv.toArray nr), (c, _)], sub_left ?a, fun F9 N9 => h _ _ _ _ _ _ _ _ _ ?i ?b ?len ?i0 ?i1 ?d ?n1 ?n2 F9 N9⟩
    case a => k_allIn
    case d => k_asm
    case i => assumption
    case b => assumption
    case len => law_clear; omega
    case i0 => law_clear; omega
    case i1 => law_clear; omega
    case n1 => k_ne
    case n2 => k_ne
  all_goals exact absurd (wr_same (by assumption) (by assumption)) (by assumption)
end Mine
end

section
namespace Mine

open PySem.W.X
theorem written_top {prog p : Program} {w : World} {loose : List Str} {mean : ExcName → Option Value} {mg mb : Str → Option Value} {dp un : Nat} {gd : Option (List Code)} {cn : Str} {cs : Scope} {a : Addr} {ccd : Value} {outer : List Env} {A₀ : Around} {base h₀ : Heap} {L : Addr} {m : Str → Option Value} {s : Shared} {Q E : Value → Shared → Prop} {cl : List (Str × Addr)}
    {c r wr dw : Addr} {oc : Obj} {rv : List Value} {script : List Int} {nr : Nat} {t9 k1 k2 t1 t2 : Tok} {ea eb : Int}
    (S : Site w p loose mean mg mb cs outer A₀ base h₀ L m [(wr, instObj 103 dw), (dw, dictOf [⟨ea, .str (Str.ofString "word") k1, .int 0 t1⟩, ⟨eb, .str (Str.ofString "count") k2, .int 0 t2⟩] 2), (r, PySem.W.listOf rv.toArray nr), (c, oc)] s.heap)
    (hd : oc.IsDictOf (PySem.strKind prog w) [(Str.ofString "row", .ref r), (Str.ofString "at", .int 0 t9)])
    (n1 : (@Ne Nat r c)) (n2 : (@Ne Nat wr dw)) (n3 : (@Ne Nat r wr)) (n4 : (@Ne Nat r dw)) (n5 : (@Ne Nat c wr)) (n6 : (@Ne Nat c dw)) (hi : IntsAre rv (List.take 50 script))
    (hdp : dp + 40 < recursionLimit) (hun : un + 400 < cLine)
    (h : ∀ (l : Addr) (vs : List Value) (ns : List Int) (nl : Nat) (oc' : Obj) (i' : Int) (t9 : Tok) (h' : Heap) (tk' : Nat), IntsAre vs ns → Bits ns → ns.length ≤ 140 → 0 ≤ i' → i' ≤ 29 → oc'.IsDictOf (PySem.strKind prog w) [(Str.ofString "row", .ref r), (Str.ofString "at", .int i' t9)] →
      (@Ne Nat l c) → (@Ne Nat l r) → (List.take 50 script).length ≤ 50 → Fr h₀ L h' m → News h₀ L h' [(l, PySem.W.listOf vs.toArray nl), (r, PySem.W.listOf rv.toArray nr), (c, oc')] → Q (.ref l) { s with heap := h', toks := tk' }) :
    wpAny (model prog w) (ktrTop dp un gd cn cs L a ccd cl outer) (call (.ref 326) [.ref c, .ref wr]) Q E s := by
  have hlen : (List.take 50 script).length ≤ 50 := by rw [List.length_take]; exact Nat.min_le_left _ _
  refine written_spec (news := []) (ea := ea) (eb := eb) (k1 := k1) (k2 := k2) (t1 := t1) (t2 := t2) ⟨S.B, S.F, S.X, fun q hq => S.N q ?_, S.T, S.hk⟩ hd n1 n2 n3 n4 n5 n6 hi hlen (Int.le_refl _) (by decide) hdp hun fun l vs ns nl oc' i' t9 h' tk' hi hb hl h0 h1 hd n1 n2 F N => h l vs ns nl oc' i' t9 h' tk' hi hb hl h0 (by omega) hd n1 n2 hlen F N
  simp only [List.mem_cons, List.not_mem_nil, or_false] at hq ⊢
  rcases hq with h | h | h | h <;> simp only [h, true_or, or_true]
theorem octs_of {ns : List Int} (h : Bits ns) : Octs (octR ns) := by
  rw [octR_eq h]
  exact fun x hx => wOct_in _ _ x hx
theorem octl_of {ns : List Int} (h : Bits ns) (hl : ns.length ≤ 140) : (octR ns).length ≤ 18 := by
  rw [octR_eq h, wOct_len]
  omega
theorem fr_top {g kg h : Heap} {L : Addr} {m : Str → Option Value} (T : KtsTurn (List.filterMap (fun x => x.frame) ([] : List Env)) g kg) (F : Fr kg L h m) : Fr g L h m :=
  ⟨F.ns, fun b o e => F.keep b o (T.other b o e (fun hm => nomatch hm)), by rw [← T.size]; exact F.above⟩
theorem turn_top {A : Around} {base g : Heap} {outer : List Env} (B : Below A base outer g) : KtsTurn (List.filterMap (fun x => x.frame) outer) g g := KtsTurn.refl
end Mine
local macro_rules | `(tactic| tm_val) => `(tactic| k_extra "tm_val")
theorem wordsLW0 : True := by
  k_with_none
  w_top off
  k_with "a9" => (with_reducible assumption)
  k_with "c9" => (repeat (with_reducible rename _ ∧ _ => hA9; clear hA9)); (repeat (with_reducible rename _ ≠ _ => hA9; clear hA9))
  k_with "u9" => ((with_reducible rename News _ _ _ _ => N9); dsimp +zetaDelta only at N9)
  k_with "p0" => (refine offAt (by fail "a9") 0 ?_; exact rfl)
  k_with "p1" => (refine offAt (by fail "a9") 1 ?_; exact rfl)
  k_with "p2" => (refine offAt (by fail "a9") 2 ?_; exact rfl)
  k_with "p3" => (refine offAt (by fail "a9") 3 ?_; exact rfl)
  k_with "p4" => (refine offAt (by fail "a9") 4 ?_; exact rfl)
  k_with "p5" => (refine offAt (by fail "a9") 5 ?_; exact rfl)
  k_with "p6" => (refine offAt (by fail "a9") 6 ?_; exact rfl)
  k_with "p7" => (refine offAt (by fail "a9") 7 ?_; exact rfl)
  k_with "p8" => (refine offAt (by fail "a9") 8 ?_; exact rfl)
  k_with "p9" => (refine offAt (by fail "a9") 9 ?_; exact rfl)
  k_with "p10" => (refine offAt (by fail "a9") 10 ?_; exact rfl)
  k_with "p11" => (refine offAt (by fail "a9") 11 ?_; exact rfl)
  k_with "p12" => (refine offAt (by fail "a9") 12 ?_; exact rfl)
  k_with "p13" => (refine offAt (by fail "a9") 13 ?_; exact rfl)
  k_with "p14" => (refine ltAt (by fail "a9") 0 ?_; exact rfl)
  k_with "p15" => (refine ltAt (by fail "a9") 1 ?_; exact rfl)
  k_with "p16" => (refine ltAt (by fail "a9") 2 ?_; exact rfl)
  k_with "p17" => (refine ltAt (by fail "a9") 3 ?_; exact rfl)
  k_with "p18" => (refine ltAt (by fail "a9") 4 ?_; exact rfl)
  k_with "p19" => (refine ltAt (by fail "a9") 5 ?_; exact rfl)
  k_with "p20" => (refine ltAt (by fail "a9") 6 ?_; exact rfl)
  k_with "p21" => (refine ltAt (by fail "a9") 7 ?_; exact rfl)
  k_with "p22" => (refine ltAt (by fail "a9") 8 ?_; exact rfl)
  k_with "p23" => (refine ltAt (by fail "a9") 9 ?_; exact rfl)
  k_with "p24" => (refine ltAt (by fail "a9") 10 ?_; exact rfl)
  k_with "p25" => (refine ltAt (by fail "a9") 11 ?_; exact rfl)
  k_with "p26" => (refine ltAt (by fail "a9") 12 ?_; exact rfl)
  k_with "p27" => (refine ltAt (by fail "a9") 13 ?_; exact rfl)
  k_with "r9" => (fail "w1")
  k_with "w1" => (first | fail "a9" | exact Nat.le_of_lt (by fail "a9"))
  k_with "offs9" => (first | fail "p0" | fail "p1" | fail "p2" | fail "p3" | fail "p4" | fail "p5" | fail "p6" | fail "p7" | fail "p8" | fail "p9" | fail "p10" | fail "p11" | fail "p12" | fail "p13" | fail "p14" | fail "p15" | fail "p16" | fail "p17" | fail "p18" | fail "p19" | fail "p20" | fail "p21" | fail "p22" | fail "p23" | fail "p24" | fail "p25" | fail "p26" | fail "p27")
  k_with "mem9" => (fail "w2")
  k_with "w2" => (first | exact List.Mem.head _ | exact List.Mem.tail _ (List.Mem.head _) | (refine memAt 0 ?_; exact rfl) | (refine memAt 1 ?_; exact rfl) | (refine memAt 2 ?_; exact rfl) | (refine memAt 3 ?_; exact rfl) | (refine memAt 4 ?_; exact rfl) | (refine memAt 5 ?_; exact rfl) | (refine memAt 6 ?_; exact rfl) | (refine memAt 7 ?_; exact rfl) | (refine memAt 8 ?_; exact rfl) | (refine memAt 9 ?_; exact rfl) | (refine memAt 10 ?_; exact rfl) | (refine memAt 11 ?_; exact rfl) | (refine memAt 12 ?_; exact rfl) | (refine memAt 13 ?_; exact rfl) | (refine memAt 14 ?_; exact rfl) | (refine memAt 15 ?_; exact rfl) | (refine memAt 16 ?_; exact rfl) | (refine memAt 17 ?_; exact rfl))
  k_with "lts9" => (fail "w3")
  k_with "w3" => (first | (refine ltB (by fail "a9") 0 ?_; exact rfl) | (refine ltB (by fail "a9") 1 ?_; exact rfl) | (refine ltB (by fail "a9") 2 ?_; exact rfl) | (refine ltB (by fail "a9") 3 ?_; exact rfl) | (refine ltB (by fail "a9") 4 ?_; exact rfl) | (refine ltB (by fail "a9") 5 ?_; exact rfl) | (refine ltB (by fail "a9") 6 ?_; exact rfl) | (refine ltB (by fail "a9") 7 ?_; exact rfl) | (refine ltB (by fail "a9") 8 ?_; exact rfl) | (refine ltB (by fail "a9") 9 ?_; exact rfl) | (refine ltB (by fail "a9") 10 ?_; exact rfl) | (refine ltB (by fail "a9") 11 ?_; exact rfl) | (refine ltB (by fail "a9") 12 ?_; exact rfl) | (refine ltB (by fail "a9") 13 ?_; exact rfl))
  k_with "rooms9" => (fail "w4")
  k_with "w4" => (first | (refine rl2 (by fail "r9") ?_; exact rfl) | (refine rl1 (by fail "r9") ?_; exact rfl) | (refine rl3 (by fail "r9") ?_; exact rfl) | (refine rl0 (by fail "r9") ?_; exact rfl) | (refine rl4 (by fail "r9") ?_; exact rfl) | (refine rm2 (by fail "r9") ?_; exact rfl) | (refine rm1 (by fail "r9") ?_; exact rfl) | (refine rm3 (by fail "r9") ?_; exact rfl) | (refine rm0 (by fail "r9") ?_; exact rfl) | (refine rm4 (by fail "r9") ?_; exact rfl))
  k_with "k_ne" => (fail "w5")
  k_with "w5" => (refine neN ?_; (try dsimp only); first | fail "a9" | (refine Ne.symm ?_; fail "a9") | exact Nat.ne_of_lt (by fail "a9") | exact Nat.ne_of_gt (by fail "a9") | k_extra "offs9" | (refine Ne.symm ?_; first | k_extra "offs9") | ((try simp only [LCg.Off1, and_true] at *); omega))
  k_with "k_mem" => (fail "w6")
  k_with "w6" => (first | fail "a9" | k_extra "mem9")
  k_with "k_memK" => (first | k_extra "mem9")
  k_with "is_list" => (fail "w7")
  k_with "w7" => (exact News.isList (by fail "a9") (by k_mem))
  k_with "ktr_room" => (fail "w8")
  k_with "w8" => ((try dsimp only [depth_under_make, depth_under_kw, depth_in1, depth_deeper, depth_caller]); (try dsimp only [ktrTop]); first | decide | k_extra "rooms9")
  k_with "units_room" => (fail "w9")
  k_with "w9" => ((try dsimp only [units_in1, units_deeper, Around.mark_units, units_caller]); (try dsimp only [ktrTop]); first | decide | k_extra "rooms9")
  k_with "l_idx" => ((k_extra "c9"); omega)
  k_with "l_fit" => ((k_extra "c9"); omega)
  k_with "ktr_units" => (fail "w10")
  k_with "w10" => ((try dsimp only [units_in1, units_deeper, Around.mark_units, units_caller]); (try dsimp only [ktrTop]); first | decide | k_extra "rooms9")
  k_with "execs cons" => (fail "w11")
  k_with "w11" => (k_here; first | k_gentoks | ((try dsimp only); (try k_gentoks); (try (with_reducible refine letA ?_; intro A9)); (try ((with_reducible rename Fr _ _ _ _ => F9); refine letF F9 ?_; clear F9; intro m9 F9)); (try ((with_reducible rename News _ _ _ _ => N9); refine letN N9 ?_; clear N9; intro n9 N9)); (first | (with_reducible refine execHidB fun q9 hq9 => ?_) | (refine hideQ fun q9 hq9 => ?_; with_reducible refine execHidB fun q9 hq9 => ?_))))
  k_with "Hid" => (fail "w12")
  k_with "w12" => (first | ((with_reducible refine unhidNextT (by fail "a9") ?_); intro tk9; (try dsimp only)) | ((with_reducible refine unhidNext (by fail "a9") ?_); (try dsimp only)) | ((with_reducible refine unhidRet (by fail "a9") ?_); (try dsimp only)) | ((with_reducible refine unhid (by fail "a9") ?_); (try dsimp only [Behind])))
  k_with "spliced" => (fail "w13")
  k_with "w13" => (k_here; (with_reducible show wpAny _ _ (spliced (backTo _ (starEach (_ :: _ :: _ :: _) _))) _ _ _); k_dflt (refine' args_cons ?_ ?_; rotate_left; rfl))
  k_with "spliced" => (fail "w14")
  k_with "w14" => (k_here; k_dflt ((refine' argsF ?_ ?_ ?_ ?_); (rotate_left 4); k_asm; rfl; rfl); (try dsimp only [List.nil_append, List.cons_append]))
  k_with "eval Call" => (fail "w15")
  k_with "w15" => (k_here; (with_reducible show wpAny _ _ (eval (PySem.Expr.Call (PySem.Expr.Name _ _) (_ :: _) [] _) _) _ _ _); first | (k_dflt ((refine' callF ?_ ?_ ?_ ?_ ?_ ?_ ?_ ?_ ?_ ?_ ?_); (rotate_left 10); k_asm; k_asm; k_asm; k_is; k_is; rfl; rfl; rfl; rotate_left; decide; rfl)) | k_compRoot | k_dflt (refine' Call_ ?_))
  k_with "eval Name" => (fail "w16")
  k_with "w16" => (k_here; (with_reducible show wpAny _ _ (eval (PySem.Expr.Name _ _) (envOf _ _ _ _ _)) _ _ _); first | k_dflt ((refine' nameX_K ?_ ?_ ?_ ?_ ?_ ?_ ?_ ?_); (rotate_left 8); k_asm; k_asm; k_asm; k_is; rotate_left; rfl; rfl; decide) | k_dflt ((refine' nameX_L ?_ ?_ ?_ ?_ ?_ ?_); (rotate_left 3); k_asm; rfl; rotate_left; rfl; rfl; decide))
  k_with "callWith ref" => (fail "w17")
  k_with "w17" => (k_here; (with_reducible show wpAny _ _ (callWith _ _ _ (backTo _ (starEach [] _)) []) _ _ _); k_dflt (refine callF0 (by fail "a9") (by fail "a9") (by k_is) ?_))
  k_with "last getItem" => k_extra "u9"
  k_with "last setItem" => k_extra "u9"
  k_with "last setAttr" => k_extra "u9"
  k_with "last getAttr" => k_extra "u9"
  k_with "last subscriptTail" => k_extra "u9"
  k_with "last getMethod" => k_extra "u9"
  k_with "last call" => k_extra "u9"
  k_with "last pyIter" => k_extra "u9"
  k_with "last eval" => k_extra "u9"
  k_with "last exec" => k_extra "u9"
  k_with "last inplaceOp" => k_extra "u9"
  k_with "last binaryOp" => k_extra "u9"
  k_with "last InvEndN" => k_extra "u9"
  k_with "last GEnd" => k_extra "u9"
  k_with "last KEnd" => k_extra "u9"
  k_with "last LeaveT" => k_extra "u9"
  k_with "last noteFrame" => k_extra "u9"
  k_with "last leaving" => k_extra "u9"
  k_with "k_lt" => skip
  k_with "tm_val" => (fail "w18")
  k_with "w18" => first | exact PyProof.Rows.v_not (PyProof.Rows.v_lt PyProof.Rows.v_lit (PyProof.Rows.v_len_ints_list (PyProof.Rows.v_arg rfl))) | exact PyProof.Rows.v_eq_bool (PyProof.Rows.v_res rfl) PyProof.Rows.v_lit
  k_with "kts_go" => (fail "w19")
  k_with "w19" => (refine enterS (by assumption) (by assumption) (by k_is) (by k_is) (by ktr_room) (by exact BindsTo.of_eq rfl) (by exact locs rfl) ?_ (by exact rfl) (by exact rfl) (by exact rfl) (by decide); k_whole; intro g' L' h' F' N' B' X' T' D' lN' gN' tk9'; (have T0' := turn0 D'); (try k_lt lN'); (try k_sweep); (try dsimp only); (try k_fold))
  k_with "kxw_text" => (fail "w20")
  k_with "w20" => exact ⟨by k_asm, by k_asm, by k_asm, by k_asm, by k_asm, by first | exact rfl | assumption⟩
  k_with "kxw_bool" => (fail "w21")
  k_with "w21" => exact ⟨by k_asm, by k_asm, by k_asm, by k_asm, by k_asm, by assumption, by assumption, by assumption, by first | exact rfl | assumption⟩
  k_with "kpt_eq" => (fail "w22")
  k_with "w22" => (unfold BackT; (try (with_reducible rename Fr _ _ _ _ => oF; clear oF)); (try (with_reducible rename News _ _ _ _ => oN; clear oN)); (try (with_reducible rename Below _ _ _ _ => oB; clear oB)); (try (with_reducible rename Top _ _ _ _ _ _ => oT; clear oT)); intro kg Tn' F' N' B' X' P' D'; k_dflt (have T0' := KtsTurn.trans (by assumption) Tn'); (try dsimp only at N'); (try k_sweep); (try dsimp only); (try k_fold))
  k_with "call ref" => (fail "w23")
  k_with "w23" => (k_here; (with_reducible show wpAny _ _ (call (Value.ref 276) _) _ _ _); k_dflt (refine cut_spec (by kxw_text) (by k_updF) (by k_asm) (by k_mem) (by k_ne) (by assumption) (by assumption) (by first | ((k_extra "c9"); omega) | omega) (by first | ((k_extra "c9"); omega) | omega) (by first | decide | ((k_extra "c9"); omega) | omega) (by first | decide | ((k_extra "c9"); omega) | omega) (by ktr_room) (by ktr_units) ?_); intro v' oc' t' t2' h' tk' lo' hi' d' F' N'; (try dsimp only at N'); (try k_sweep); (try dsimp only); (try k_fold))
  k_with "call ref" => (fail "w24")
  k_with "w24" => (k_here; (with_reducible show wpAny _ _ (call (Value.ref 281) _) _ _ _); k_dflt (refine bits_spec (by kxw_text) (by first | decide | ((k_extra "c9"); omega) | omega) (by first | decide | ((k_extra "c9"); omega) | omega) (by first | ((k_extra "c9"); omega) | omega) (by first | ((k_extra "c9"); omega) | omega) (by ktr_room) (by ktr_units) ?_); intro l' vs' n' h' tk' i' o1' F' N'; (try k_sweep); (try dsimp only); (try k_fold))
  k_with "call ref" => (fail "w25")
  k_with "w25" => (k_here; (with_reducible show wpAny _ _ (call (Value.ref 103) _) _ _ _); k_dflt (refine bwriter_spec (by kxw_text) (by ktr_room) (by ktr_units) ?_); intro r' d' e1' e2' k1' k2' t1' t2' h' tk' o1' o2' n1' F' N'; (try k_sweep); (try dsimp only); (try k_fold))
  k_with "call ref" => (fail "w26")
  k_with "w26" => (k_here; (with_reducible show wpAny _ _ (call (Value.ref 138) _) _ _ _); k_dflt (refine breader_spec (by kxw_text) (by first | assumption | exact KBa.ints_make (by assumption)) (by first | assumption | exact wOct_in _ _) (by first | (rw [wOct_len]; omega) | l_fact) (by ktr_room) (by ktr_units) ?_); intro r' d' e1' e2' e3' k1' k2' k3' t1' t2' t3' h' tk' o1' o2' n1' F' N'; (try k_sweep); (try dsimp only); (try k_fold))
  k_with "call ref" => (fail "w27")
  k_with "w27" => (k_here; (with_reducible show wpAny _ _ (call (Value.ref 138) _) _ _ _); k_dflt (refine breader_w (by kxw_text) (by assumption) (by first | assumption | decide | ((k_extra "c9"); omega) | omega) (by first | assumption | decide | ((k_extra "c9"); omega) | omega) (by first | ((k_extra "c9"); omega) | omega) (by first | exact (rfl : _ = 8) | exact (rfl : _ = 24) | exact rfl | assumption) (by ktr_room) (by ktr_units) ?_); intro r' d' e1' e2' e3' k1' k2' k3' t1' t2' t3' h' tk' o1' o2' n1' F' N'; (try k_sweep); (try dsimp only); (try k_fold))
  k_with "call ref" => (fail "w28")
  k_with "w28" => (k_here; (with_reducible show wpAny _ _ (call (Value.ref 95) _) _ _ _); k_dflt (refine put_spec (by kxw_text) (by k_mem) (by k_updF) (by k_ne) (by first | assumption | decide | ((k_extra "c9"); omega) | omega) (by first | assumption | decide | ((k_extra "c9"); omega) | omega) (by first | decide | ((k_extra "c9"); omega) | omega) (by first | decide | ((k_extra "c9"); omega) | omega) (by ktr_room) (by ktr_units) ?_); intro W' t1' t2' h' tk' eW' lW' hW' F' N'; (try simp only [bitAnd_m3, fdiv_8, fdiv_64, fdiv_256, Int.reduceToNat, Nat.reduceAdd, Int.reducePow] at eW'); (try dsimp only at N'); (try k_sweep); (try dsimp only); (try k_fold))
  k_with "call ref" => (fail "w29")
  k_with "w29" => (k_here; (with_reducible show wpAny _ _ (call (Value.ref 100) _) _ _ _); k_dflt (refine wocts_spec (by kxw_text) (by k_mem) (by k_mem) (by k_ne) (by first | decide | ((k_extra "c9"); omega) | omega) (by first | assumption | decide | ((k_extra "c9"); omega) | omega) (by ktr_room) (by ktr_units) ?_); intro b' t' h' tk' hb' F' N'; (try k_sweep); (try dsimp only); (try k_fold))
  k_with "call ref" => (fail "w30")
  k_with "w30" => (k_here; (with_reducible show wpAny _ _ (call (Value.ref 291) _) _ _ _); k_dflt (refine octets_spec (by kxw_text) (by k_mem) (by first | k_asm | l_ints) (by first | omega | l_fact) (by ktr_room) (by ktr_units) ?_); intro l' vs' n' h' tk' i' o1' F' N'; (try k_sweep); (try dsimp only); (try k_fold))
  k_with "call type:list" => (fail "w31")
  k_with "w31" => (k_here; (with_reducible show wpAny _ _ (call (Value.type "list") [Value.bytes _ _]) _ _ _); k_dflt (refine list_of_bytes rfl (by k_asm) (by k_asm) (by assumption) (by rw [wOct_len, sizeLine_eq]; omega) ?_); intro l' vs' n' h' tk' i' o1' F' N'; (try k_sweep); (try dsimp only); (try k_fold))
  k_with "call ref" => (fail "w32")
  k_with "w32" => (k_here; (with_reducible show wpAny _ _ (call (Value.ref 291) _) _ _ _); k_dflt (refine octets_w (by assumption) (by kxw_text) (by k_mem) (by first | k_asm | l_ints) (by first | assumption | (simp only [List.length_append, bitsL_len, List.length_cons, List.length_nil, Int.reduceToNat, Nat.reduceAdd, Nat.reduceLeDiff]; done) | (simp only [List.length_append, bitsL_len, List.length_cons, List.length_nil, Int.reduceToNat, Nat.reduceAdd]; omega)) (by repeat' first | exact bitsL_bits _ _ | assumption | refine Bits.append ?_ ?_ | exact Bits.nil | (refine Bits.one ?_; omega)) (by first | assumption | (simp only [numV_app, numV, numV_bitsL', List.length_append, bitsL_len, List.length_cons, List.length_nil, Int.reduceToNat, Nat.reduceAdd, Int.reducePow]; omega)) (by first | assumption | (simp only [List.length_append, bitsL_len, List.length_cons, List.length_nil, Int.reduceToNat, Nat.reduceAdd]; done) | (simp only [List.length_append, bitsL_len, List.length_cons, List.length_nil, Int.reduceToNat, Nat.reduceAdd]; omega)) (by ktr_room) (by ktr_units) ?_); intro l' vs' n' h' tk' i' o1' F' N'; (try k_sweep); (try dsimp only); (try k_fold))
  k_with "LeaveT" => (fail "w33")
  k_with "w33" => (k_dflt (exact finOk (by assumption) (by assumption) (by assumption) (by assumption) (by k_asm) (by k_asm) (by assumption) (by k_mem) (by k_mem) (by k_asm) (by first | ((k_extra "c9"); omega) | omega) (by first | rfl | (exact beq_iff_eq.mpr (by law_clear; omega)) | (exfalso; law_clear; omega) | decide | (simp only [decide_eq_true_eq]; law_clear; omega))))
  k_with "call ref" => (fail "w34")
  k_with "w34" => (k_here; (with_reducible show wpAny _ _ (call (Value.ref 138) _) _ _ _); k_dflt (refine breader_three (by kxw_text) (by exact three_bytes (by decide) (by decide) (by decide) (by decide) (by decide) (by decide)) (by exact three_in (by decide) (by decide) (by decide) (by decide) (by decide) (by decide)) (by ktr_room) (by ktr_units) ?_); intro r' d' e1' e2' e3' k1' k2' k3' t1' t2' t3' h' tk' o1' o2' n1' F' N'; (try k_sweep); (try dsimp only); (try k_fold))
  k_with "call ref" => (fail "w35")
  k_with "w35" => (k_here; (with_reducible show wpAny _ _ (call (Value.ref 138) _) _ _ _); k_dflt (refine breader_one (by kxw_text) (by exact one_bytes (by law_clear; omega) (by law_clear; omega)) (by exact one_in (by law_clear; omega) (by law_clear; omega)) (by ktr_room) (by ktr_units) ?_); intro r' d' e1' e2' e3' k1' k2' k3' t1' t2' t3' h' tk' o1' o2' n1' x1' x2' F' N'; (try k_sweep); (try dsimp only); (try k_fold))
  k_with "subscriptTail Name Slice ref ref" => (fail "w36")
  k_with "w36" => (k_here; (with_reducible show wpAny _ _ (subscriptTail _ (PySem.Expr.Slice _ _ none _) (Value.ref _) (Value.ref _)) _ _ _); k_dflt (refine slice_two (by k_asm) (by k_asm) (by k_mem) ?_ (by with_unfolding_all rfl) (by intro _; with_unfolding_all rfl)); intro D' h' o1' F' N'; (try k_sweep); (try dsimp only); (try k_fold))
  k_with "kfm_cat2" => (fail "w37")
  k_with "w37" => (repeat ((with_reducible rename _ ∧ _ => hA); (have hB9 := hA.1); (have hC9 := hA.2); clear hA))
  k_with "kxw_bool" => (fail "w38")
  k_with "w38" => exact ⟨by k_asm, by k_asm, by k_asm, by k_asm, by k_asm, by assumption, by assumption, by first | assumption | exact (fun b hb => nomatch hb), by first | exact rfl | assumption⟩
  k_with "call ref" => (fail "w39")
  k_with "w39" => (k_here; (with_reducible show wpAny _ _ (call (Value.ref 298) [Value.ref 319, _, _]) _ _ _); k_dflt (refine clocks_refused2 (by kxw_bool) (by k_mem) (by k_updF) (by k_ne) (by decide) (by decide) (by ktr_room) (by ktr_units) ?_); intro l' q1' q2' q3' t3' h' tk' o1'; kpt_eq)
  k_with "call ref" => (fail "w40")
  k_with "w40" => (k_here; (with_reducible show wpAny _ _ (call (Value.ref 326) _) _ _ _); k_dflt (refine written_top (by kxw_text) (by assumption) (by k_ne) (by k_ne) (by k_ne) (by k_ne) (by k_ne) (by k_ne) (by assumption) (by ktr_room) (by ktr_units) ?_); intro l' vs' ns' nl' oc' i' t9' h' tk' hI' hB' hL' hi0' hi1' d' n1' n2' hl' F' N'; (try k_sweep); (try dsimp only); (try k_fold))
  k_with "call ref" => (fail "w41")
  k_with "w41" => (k_here; (with_reducible show wpAny _ _ (call (Value.ref 331) _) _ _ _); k_dflt (refine read_spec (S := by kxw_bool) (U := by k_updF) (hd := by k_asm) (hr := by k_mem) (hrc := by k_ne) (hi := by assumption) (hrs := by assumption) (hi0 := by law_clear; omega) (hi1 := by law_clear; omega) (hl := by k_mem) (hlr := by k_ne) (hlc := by k_ne) (ho := by assumption) (hob := by exact octs_of (by assumption)) (hol := by exact octl_of (by assumption) (by assumption)) (hdp := by ktr_room) (hun := by ktr_units) (hh := ?_)); unfold OkC; intro oc' t9' h' tk' d'; kpt_eq)
  k_with "call ref" => (fail "w42")
  k_with "w42" => (k_here; (with_reducible show wpAny _ _ (call (Value.ref 338) _) _ _ _); k_dflt (refine cells_spec (S := by kxw_bool) (U := by k_updF) (hd := by k_asm) (hr := by k_mem) (hrc := by k_ne) (hi := by assumption) (hrs := by assumption) (hi0 := by law_clear; omega) (hi1 := by law_clear; omega) (hdp := by ktr_room) (hun := by ktr_units) (hh := ?_)); unfold OkC; intro oc' t9' h' tk' d'; kpt_eq)
  k_with "call ref" => (fail "w43")
  k_with "w43" => (k_here; (with_reducible show wpAny _ _ (call (Value.ref 345) _) _ _ _); k_dflt (refine clocks_spec (S := by kxw_bool) (U := by k_updF) (hd := by k_asm) (hr := by k_mem) (hrc := by k_ne) (hi := by assumption) (hrs := by assumption) (hi0 := by law_clear; omega) (hi1 := by law_clear; omega) (hdp := by ktr_room) (hun := by ktr_units) (hh := ?_)); unfold OkC; intro oc' t9' h' tk' d'; kpt_eq)
  k_with "call ref" => (fail "w44")
  k_with "w44" => (k_here; (with_reducible show wpAny _ _ (call (Value.ref 352) _) _ _ _); k_dflt (refine squares_spec (S := by kxw_bool) (U := by k_updF) (hd := by k_asm) (hr := by k_mem) (hrc := by k_ne) (hi := by assumption) (hrs := by assumption) (hi0 := by law_clear; omega) (hi1 := by law_clear; omega) (hdp := by ktr_room) (hun := by ktr_units) (hh := ?_)); unfold OkC; intro oc' t9' h' tk' d'; kpt_eq)
  trivial
local macro_rules | `(tactic| k_qdec) => `(tactic| decide +kernel)
theorem PySem.Challenge.cw_pf0095_01_holds : PySem.Challenge.rw_pf0095_01.Holds :=
  hd0 (by
  k_go0
  (all_goals try k_fold)
  with_reducible rename Below _ _ _ _ => kB0
  have T0' := turn_top kB0
  k_steps
  with_reducible rename Fr _ _ _ _ => fZ
  have F0 := fr_top (by assumption) fZ
  k_end
  wrow_close
)
end
